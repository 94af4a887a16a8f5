import PyProof.Rows.All
import Wide.All
import OpenK.AllK
import Wide.FinOn
import HandS.ForMost
import HandS.Walk
import HandS.Evl
import HandS.TupAny
import HandS.Set
import HandS.SetBool
import PyProof.Rows.SortShellAny
import HandS.RaiseMore
import HandS.Wide
import HandS.WideBits
import HandS.Style
import HandS.Flow
import KE.GoesMore
import KE.GoesEnum
import PyProof.ReprRoads
import HandS.Strs
import PyProof.ReprLen
import HandS.IsInst
import HandS.SlotsOwn
import HandS.ClsMeth
import KE.KCallOwn
import KE.KFmtOwn
import PyProof.FactsAll.object_2
import HandS.Codes
import HandS.Star
import HandS.MethStar
import HandS.Defaults
import HandS.CallLocal
import PyProof.StrBlock2
import PyProof.RulesMatch
import KE.KOpsOwn
import KE.DataFind
import HandS.Records
import HandS.Iter
import KE.KDictZip
import HandS.Zip
import HandS.TryOnly
import PyProof.TwoTypes
import KE.KExcSuper
import HandS.ExcInit
import HandS.ExcOwn
import HandS.ExcField
import HandS.ExcIs
import KE.KExcIs
import HandS.Ends
import HandS.Words
import KE.KStateDown
import HandS.Head0
import HandS.Head1
import HandS.Head2
import HandS.HeadHook1
import HandS.HeadHook2
import PyProof.SetRoads
import HandS.CallSlots
import HandS.Text
import PySem.Challenge.RW_mostcrowds_k11_crowds_refused
set_option Elab.async false
set_option linter.all false
set_option maxRecDepth 100000
set_option maxHeartbeats 8000000
namespace Mc
open PySem PySem.Spec PyProof.Rows L2 Evl
abbrev NewT (Q : VK) (H : Hp) (xs : List V) : Prop := ∀ (p : Addr) (o : Obj), H p = none → o.dict = none → Q (.ref p) (upd H p (.frz o (.tup xs)))
def NoDc (K : PySem.W.Frag) (H : Hp) (a : Addr) : Prop := (∃ o u, H a = some (.frz o (.tup u)) ∧ o.dict = none) ∨ ∃ o, K.lookup a = some o ∧ o.dict = none
theorem NoDc.ex {K : PySem.W.Frag} {H H' : Hp} {a : Addr} (e : Ex H H') (h : NoDc K H a) : NoDc K H' a := by
  rcases h with ⟨o, u, h1, h2⟩ | h
  · exact .inl ⟨o, u, e _ _ h1, h2⟩
  · exact .inr h
section
variable {X : Cx} {es : List Expr} {t : TA} {pos : Pos}
def tTupN (t : TA) : TE := fun σ H Q => t σ H fun xs H1 => xs.length ≤ sizeLine ∧ NewT Q H1 xs
theorem pe_tupN {x1} (h : PA X es t) : PE X (.Tuple es x1 pos) (tTupN t) := by
  refine ⟨fun pins s σ H Q I hq => ?_⟩
  refine wpAny_Tuple_spliced (thn (h.run pos pins s σ H _ I hq) fun us s1 ⟨xs, H1, I1, r, z, q⟩ => ⟨by rw [← r.length]; exact z, ?_⟩)
  have hf : H1 s1.heap.objs.size = none := I1.hok.fresh (Nat.le_refl _)
  refine ⟨.ref s1.heap.objs.size, upd H1 s1.heap.objs.size (.frz { cls := .type "tuple", data := .seq us.toArray } (.tup xs)), I1.laid (t' := s1.toks) (fun b u e => Heap.get?_push_of_some _ e) (Nat.le_refl _) ?_, rfl, q _ _ hf rfl⟩
  exact ⟨Heap.get?_push_size _ rfl, z, us, r, ⟨_, Heap.get?_push_size _ rfl, rfl, _, rfl⟩⟩
def rTupN (K : PySem.W.Frag) : List V → Hp → VK → Prop := fun xs H Q => ∃ p ys, xs = [.ref p] ∧ ((SqL K H p ys ∧ NewT Q H ys) ∨ (SqT K H p ys ∧ Q (.ref p) H))
theorem call_tupN : CallR X (.type "tuple") (rTupN X.K) := by
  intro pins s σ H xs us Q I r h
  obtain ⟨p, ys, rfl, h⟩ := h
  obtain ⟨u, rfl, rx⟩ := vals1 r
  cases rx
  rcases h with ⟨hq, q⟩ | ⟨hq, q⟩
  · obtain ⟨its, r', pl, hz⟩ := I.list hq
    have hlen := r'.length
    refine call_tuple_list pl.isList (fun h' kp => ?_) (by simp only [List.size_toArray] <;> omega)
    have I1 : Inv X pins σ H { s with heap := h' } := I.kept (t' := s.toks) kp
    have I2 : Inv X pins σ (upd H h'.objs.size (.frz { cls := .type "tuple", data := .seq its.toArray } (.tup ys))) { s with heap := h'.push { cls := .type "tuple", data := .seq its.toArray } } :=
      I1.laid (t' := s.toks) (fun b o e => Heap.get?_push_of_some _ e) (Nat.le_refl _) (show ObjOk X.prog X.w _ _ _ (.frz { cls := .type "tuple", data := .seq its.toArray } (.tup ys)) from ⟨Heap.get?_push_size _ rfl, hz, its, r', IsTup.new _ _⟩)
    exact ⟨.ref h'.objs.size, _, I2, rfl, q _ _ (I1.hok.fresh (Nat.le_refl _)) rfl⟩
  · obtain ⟨its, r', pl, hz⟩ := I.tuple hq
    exact call_tuple_same pl ⟨.ref p, H, I, rfl, q⟩
def rSlN (K : PySem.W.Frag) : V → Option Int → Option Int → Hp → VK → Prop := fun x lo hi H Q => ∃ a xs, x = .ref a ∧ SqT K H a xs ∧
  (HT.sIx xs.length 0 lo = 0 ∧ HT.sIx xs.length xs.length hi = xs.length → Q (.ref a) H) ∧ (¬ (HT.sIx xs.length 0 lo = 0 ∧ HT.sIx xs.length xs.length hi = xs.length) → NewT Q H (cutV xs lo hi))
theorem sl_tupN : SlR X (rSlN X.K) := by
  intro pins s σ H x v vl vu lo hi sl Q I rx hs pl pu h
  obtain ⟨a, xs, rfl, hx, q1, q2⟩ := h
  by_cases hw : HT.sIx xs.length 0 lo = 0 ∧ HT.sIx xs.length xs.length hi = xs.length
  · exact sl_tupA pins s σ H _ v vl vu lo hi sl Q I rx hs pl pu ⟨a, xs, rfl, hx, q1, fun z => (z hw).elim⟩
  · cases rx
    obtain ⟨its, r, ht, hz⟩ := I.tuple hx
    have hlen : its.toArray.size = xs.length := by rw [List.size_toArray]; exact r.length.symm
    refine ⟨"tuple", _, PyProof.Rows.slot_tuple_getitem.lookup, ht.typeIs, ?_⟩
    refine HT.getItem_tuple_cut ht hs pl pu (by rw [hlen]; exact hw) ?_ (by rw [hlen]; exact hz)
    rw [hlen]
    refine ⟨.ref s.heap.objs.size, _, I.laid (t' := s.toks) (o := .frz { cls := .type "tuple", data := .seq (List.take (HT.sIx xs.length xs.length hi - HT.sIx xs.length 0 lo) (List.drop (HT.sIx xs.length 0 lo) its.toArray.toList)).toArray } (.tup (cutV xs lo hi))) (fun b ob q => Heap.get?_push_of_some _ q) (Nat.le_refl _) ?_, rfl, q2 hw _ _ (I.hok.fresh (Nat.le_refl _)) rfl⟩
    · exact ⟨Heap.get?_push_size _ rfl, Nat.le_trans (cutV_length xs lo hi) hz, _, (r.drop (HT.sIx xs.length 0 lo)).take (HT.sIx xs.length xs.length hi - HT.sIx xs.length 0 lo), IsTup.new _ _⟩
def rCatN (K : PySem.W.Frag) : R2 := fun x y H Q => ∃ a b xs ys, x = .ref a ∧ y = .ref b ∧ SqT K H a xs ∧ SqT K H b ys ∧ xs.length + ys.length ≤ sizeLine ∧
  (xs = [] → Q (.ref b) H) ∧ (xs ≠ [] → ys = [] → Q (.ref a) H) ∧ (xs ≠ [] → ys ≠ [] → NewT Q H (xs ++ ys))
theorem op_catN : OpR X (binaryOp .Add) (rCatN X.K) := by
  intro pins s σ H x y v u Q I rx ry h
  obtain ⟨a, b, xs, ys, rfl, rfl, ha, hb, hz, q0, q1, q2⟩ := h
  by_cases hx : xs = []
  · exact op_catA pins s σ H _ _ v u Q I rx ry ⟨a, b, xs, ys, rfl, rfl, ha, hb, hz, q0, q1, fun z => (z hx).elim⟩
  · cases rx
    cases ry
    obtain ⟨its, r1, p1, _⟩ := I.tuple ha
    obtain ⟨its2, r2, p2, _⟩ := I.tuple hb
    refine HT.cat_tup p1 p2 (fun z => hx (r1.nil_iff.mp z)) (fun z => ⟨.ref a, H, I, rfl, q1 hx (r2.nil_iff.mp z)⟩) (fun z => ?_) (by rw [← r1.length, ← r2.length]; exact hz)
    refine ⟨.ref s.heap.objs.size, _, I.laid (t' := s.toks) (o := .frz { cls := .type "tuple", data := .seq (its ++ its2).toArray } (.tup (xs ++ ys))) (fun b ob q => Heap.get?_push_of_some _ q) (Nat.le_refl _) ?_, rfl, q2 hx (fun w => z (r2.nil_iff.mpr w)) _ _ (I.hok.fresh (Nat.le_refl _)) rfl⟩
    · exact ⟨Heap.get?_push_size _ rfl, by rw [List.length_append]; exact hz, _, r1.append r2, IsTup.new _ _⟩
theorem NoDc.is {pins : List (Addr × Obj)} {σ : L2.St} {H : Hp} {s : Shared} {p : Addr} (I : Inv X pins σ H s) (h : NoDc X.K H p) : ∃ ob, s.heap.get? p = some ob ∧ ob.dict = none := by
  rcases h with ⟨o, u, h1, h2⟩ | ⟨o, h1, h2⟩
  · exact ⟨o, (I.hok p _ h1).1, h2⟩
  · exact ⟨o, I.kIn p o h1, h2⟩
end
end Mc
namespace Mc
open PySem PySem.Spec PyProof.Rows L2 Evl
inductive Dt where
  | non | bl (b : Bool) | int (i : Int) | str (x : Str) | ty (n : String)
  | ptr (a : Addr)
  | lst (ds : List Dt) | tup (ds : List Dt)
  | obj (C : Addr) (fs : List (Str × Dt))
  | dct (kvs : List (Key × Dt)) | dcT (kvs : List (List Key × Dt))
  /-- an instance that is being made: its attributes so far -/
  | slf (x : Addr) (gs : List (Str × V)) (ds : List Dt)
def txD : List Dt → Bool
  | .str _ :: _ => true
  | _ => false
def SqN (K : PySem.W.Frag) (H : Hp) (a : Addr) (ds : List Dt) (xs : List V) : Prop := SqT K H a xs ∧ (txD ds = true → NoDc K H a)
theorem ex_n {K : PySem.W.Frag} {H H' : Hp} {a : Addr} {ds : List Dt} {xs : List V} (e : Ex H H') (h : SqN K H a ds xs) : SqN K H' a ds xs := ⟨ex_t e h.1, fun z => (h.2 z).ex e⟩
mutual
def Rp (K : PySem.W.Frag) (H : Hp) : Dt → V → Prop
  | .non, v => v = .non
  | .bl b, v => v = .bl b
  | .int i, v => v = .int i
  | .str x, v => v = .str x
  | .ty n, v => v = .ty n
  | .ptr a, v => v = .ref a
  | .lst ds, v => ∃ a xs, v = .ref a ∧ H a = some (.lst xs) ∧ RpA K H ds xs
  | .tup ds, v => ∃ a xs, v = .ref a ∧ SqN K H a ds xs ∧ RpA K H ds xs
  | .obj C fs, v => ∃ a dx gs, v = .ref a ∧ H a = some (.ins C dx gs) ∧ RpF K H fs gs
  | .dct kvs, v => ∃ a ws, v = .ref a ∧ H a = some (.dK ws) ∧ RpK K H kvs ws
  | .dcT kvs, v => ∃ a ws, v = .ref a ∧ H a = some (.dT ws) ∧ RpT K H kvs ws
  | .slf x gs ds, v => v = .ref x ∧ RpA K H ds (gs.map (·.2))
def RpA (K : PySem.W.Frag) (H : Hp) : List Dt → List V → Prop
  | [], vs => vs = []
  | d :: ds, vs => ∃ v r, vs = v :: r ∧ Rp K H d v ∧ RpA K H ds r
def RpF (K : PySem.W.Frag) (H : Hp) : List (Str × Dt) → List (Str × V) → Prop
  | [], gs => gs = []
  | f :: fs, gs => ∃ v r, gs = (f.1, v) :: r ∧ Rp K H f.2 v ∧ RpF K H fs r
def RpK (K : PySem.W.Frag) (H : Hp) : List (Key × Dt) → List (Key × V) → Prop
  | [], gs => gs = []
  | f :: fs, gs => ∃ v r, gs = (f.1, v) :: r ∧ Rp K H f.2 v ∧ RpK K H fs r
def RpT (K : PySem.W.Frag) (H : Hp) : List (List Key × Dt) → List (List Key × V) → Prop
  | [], gs => gs = []
  | f :: fs, gs => ∃ v r, gs = (f.1, v) :: r ∧ Rp K H f.2 v ∧ RpT K H fs r
end
def cut (S : List Addr) (H : Hp) : Hp := fun b => if b ∈ S then none else H b
theorem cut_in {S : List Addr} {H : Hp} {b : Addr} (h : b ∈ S) : cut S H b = none := by unfold cut; rw [if_pos h]
theorem cut_out {S : List Addr} {H : Hp} {b : Addr} (h : b ∉ S) : cut S H b = H b := by unfold cut; rw [if_neg h]
theorem cut_some {S : List Addr} {H : Hp} {b : Addr} {o : HO} (h : cut S H b = some o) : H b = some o ∧ b ∉ S := by
  unfold cut at h
  split at h
  · cases h
  · exact ⟨h, by assumption⟩
theorem cut_le (S : List Addr) (H : Hp) : Ex (cut S H) H := fun _ _ h => (cut_some h).1
theorem cut_ex {S : List Addr} {H H' : Hp} (e : Ex H H') : Ex (cut S H) (cut S H') := fun b o h => by
  obtain ⟨h1, h2⟩ := cut_some h
  rw [cut_out h2]
  exact e b o h1
theorem cut_mut {S : List Addr} {H : Hp} {b : Addr} {o : HO} (h : b ∈ S) : cut S (upd H b o) = cut S H := by
  funext c
  unfold cut upd
  by_cases hc : c ∈ S
  · rw [if_pos hc, if_pos hc]
  · rw [if_neg hc, if_neg hc, if_neg (fun e : c = b => hc (by rw [e]; exact h))]
theorem cut_more {S : List Addr} {H : Hp} {l : Addr} : Ex (cut (l :: S) H) (cut S H) := fun b o h => by
  obtain ⟨h1, h2⟩ := cut_some h
  rw [cut_out (fun z => h2 (List.mem_cons_of_mem _ z))]
  exact h1
theorem cut_fresh {S : List Addr} {H : Hp} {l : Addr} (h : H l = none) : cut (l :: S) H = cut S H := by
  funext c
  unfold cut
  by_cases e : c = l
  · subst e
    rw [if_pos List.mem_cons_self]
    split
    · rfl
    · exact h.symm
  · by_cases hc : c ∈ S
    · rw [if_pos hc, if_pos (List.mem_cons_of_mem _ hc)]
    · rw [if_neg hc, if_neg (fun z => (List.mem_cons.mp z).elim e hc)]
mutual
theorem Rp.mono {K : PySem.W.Frag} {H H' : Hp} (e : Ex H H') : ∀ {d : Dt} {v : V}, Rp K H d v → Rp K H' d v
  | .non, _, h => h
  | .bl _, _, h => h
  | .int _, _, h => h
  | .str _, _, h => h
  | .ty _, _, h => h
  | .ptr _, _, h => h
  | .lst _, _, ⟨a, xs, h1, h2, h3⟩ => ⟨a, xs, h1, e _ _ h2, RpA.mono e h3⟩
  | .tup _, _, ⟨a, xs, h1, h2, h3⟩ => ⟨a, xs, h1, ex_n e h2, RpA.mono e h3⟩
  | .obj _ _, _, ⟨a, dx, gs, h1, h2, h3⟩ => ⟨a, dx, gs, h1, e _ _ h2, RpF.mono e h3⟩
  | .dct _, _, ⟨a, ws, h1, h2, h3⟩ => ⟨a, ws, h1, e _ _ h2, RpK.mono e h3⟩
  | .dcT _, _, ⟨a, ws, h1, h2, h3⟩ => ⟨a, ws, h1, e _ _ h2, RpT.mono e h3⟩
  | .slf _ _ _, _, ⟨h1, h2⟩ => ⟨h1, RpA.mono e h2⟩
theorem RpA.mono {K : PySem.W.Frag} {H H' : Hp} (e : Ex H H') : ∀ {ds : List Dt} {vs : List V}, RpA K H ds vs → RpA K H' ds vs
  | [], _, h => h
  | _ :: _, _, ⟨v, r, h1, h2, h3⟩ => ⟨v, r, h1, Rp.mono e h2, RpA.mono e h3⟩
theorem RpF.mono {K : PySem.W.Frag} {H H' : Hp} (e : Ex H H') : ∀ {fs : List (Str × Dt)} {gs : List (Str × V)}, RpF K H fs gs → RpF K H' fs gs
  | [], _, h => h
  | _ :: _, _, ⟨v, r, h1, h2, h3⟩ => ⟨v, r, h1, Rp.mono e h2, RpF.mono e h3⟩
theorem RpK.mono {K : PySem.W.Frag} {H H' : Hp} (e : Ex H H') : ∀ {fs : List (Key × Dt)} {gs : List (Key × V)}, RpK K H fs gs → RpK K H' fs gs
  | [], _, h => h
  | _ :: _, _, ⟨v, r, h1, h2, h3⟩ => ⟨v, r, h1, Rp.mono e h2, RpK.mono e h3⟩
theorem RpT.mono {K : PySem.W.Frag} {H H' : Hp} (e : Ex H H') : ∀ {fs : List (List Key × Dt)} {gs : List (List Key × V)}, RpT K H fs gs → RpT K H' fs gs
  | [], _, h => h
  | _ :: _, _, ⟨v, r, h1, h2, h3⟩ => ⟨v, r, h1, Rp.mono e h2, RpT.mono e h3⟩
end
theorem RpA.length {K : PySem.W.Frag} {H : Hp} : ∀ {ds : List Dt} {vs : List V}, RpA K H ds vs → vs.length = ds.length
  | [], _, h => by
    have e : _ = [] := h
    rw [e]
    rfl
  | d :: ds, _, ⟨v, r, h1, _, h3⟩ => by
    rw [h1, List.length_cons, List.length_cons, RpA.length h3]
theorem RpA.get {K : PySem.W.Frag} {H : Hp} : ∀ {ds : List Dt} {vs : List V} {i : Nat} {v : V}, RpA K H ds vs → vs[i]? = some v → ∃ d, ds[i]? = some d ∧ Rp K H d v
  | [], _, i, v, h, e => by
    have e' : _ = [] := h
    rw [e'] at e
    simp at e
  | d :: ds, _, 0, v, ⟨w, r, h1, h2, _⟩, e => by
    rw [h1] at e
    have e' : w = v := by simpa using e
    exact ⟨d, rfl, e' ▸ h2⟩
  | d :: ds, _, i + 1, v, ⟨w, r, h1, _, h3⟩, e => by
    rw [h1] at e
    exact RpA.get (i := i) h3 (by simpa using e)
theorem RpA.get' {K : PySem.W.Frag} {H : Hp} : ∀ {ds : List Dt} {vs : List V} {i : Nat} {d : Dt}, RpA K H ds vs → ds[i]? = some d → ∃ v, vs[i]? = some v ∧ Rp K H d v
  | [], _, i, d, _, e => by simp at e
  | d :: ds, _, 0, d', ⟨w, r, h1, h2, _⟩, e => by
    have e' : d = d' := by simpa using e
    exact ⟨w, by rw [h1]; rfl, e' ▸ h2⟩
  | d :: ds, _, i + 1, d', ⟨w, r, h1, _, h3⟩, e => by
    obtain ⟨v, hv, hr⟩ := RpA.get' (i := i) h3 (by simpa using e)
    exact ⟨v, by rw [h1]; simpa using hv, hr⟩
theorem RpA.append {K : PySem.W.Frag} {H : Hp} : ∀ {ds es : List Dt} {vs ws : List V}, RpA K H ds vs → RpA K H es ws → RpA K H (ds ++ es) (vs ++ ws)
  | [], es, _, ws, h, h' => by
    have e : _ = [] := h
    rw [e]
    exact h'
  | d :: ds, es, _, ws, ⟨v, r, h1, h2, h3⟩, h' => ⟨v, r ++ ws, by rw [h1]; rfl, h2, RpA.append h3 h'⟩
theorem RpA.one {K : PySem.W.Frag} {H : Hp} {d : Dt} {v : V} (h : Rp K H d v) : RpA K H [d] [v] := ⟨v, [], rfl, h, rfl⟩
theorem RpA.take {K : PySem.W.Frag} {H : Hp} : ∀ {n : Nat} {ds : List Dt} {vs : List V}, RpA K H ds vs → RpA K H (ds.take n) (vs.take n)
  | 0, _, _, _ => rfl
  | n + 1, [], _, h => by
    have e : _ = [] := h
    rw [e]
    rfl
  | n + 1, d :: ds, _, ⟨v, r, h1, h2, h3⟩ => ⟨v, r.take n, by rw [h1]; rfl, h2, RpA.take h3⟩
theorem RpA.drop {K : PySem.W.Frag} {H : Hp} : ∀ {n : Nat} {ds : List Dt} {vs : List V}, RpA K H ds vs → RpA K H (ds.drop n) (vs.drop n)
  | 0, _, _, h => h
  | n + 1, [], _, h => by
    have e : _ = [] := h
    rw [e]
    rfl
  | n + 1, d :: ds, _, ⟨v, r, h1, _, h3⟩ => by
    rw [h1]
    exact RpA.drop (n := n) h3
theorem RpA.reverse {K : PySem.W.Frag} {H : Hp} : ∀ {ds : List Dt} {vs : List V}, RpA K H ds vs → RpA K H ds.reverse vs.reverse
  | [], _, h => by
    have e : _ = [] := h
    rw [e]
    rfl
  | d :: ds, _, ⟨v, r, h1, h2, h3⟩ => by
    rw [h1, List.reverse_cons, List.reverse_cons]
    exact RpA.append (RpA.reverse h3) (RpA.one h2)
theorem rpA_strs {K : PySem.W.Frag} {H : Hp} : ∀ {xs : List Str} {vs : List V}, RpA K H (xs.map Dt.str) vs ↔ vs = xs.map V.str
  | [], _ => Iff.rfl
  | x :: xs, vs => by
    constructor
    · rintro ⟨v, r, h1, h2, h3⟩
      have e2 : v = V.str x := h2
      rw [h1, e2, rpA_strs.mp h3]
      rfl
    · intro h
      exact ⟨.str x, xs.map V.str, h, rfl, rpA_strs.mpr rfl⟩
theorem rpA_ints {K : PySem.W.Frag} {H : Hp} : ∀ {xs : List Int} {vs : List V}, RpA K H (xs.map Dt.int) vs ↔ vs = xs.map V.int
  | [], _ => Iff.rfl
  | x :: xs, vs => by
    constructor
    · rintro ⟨v, r, h1, h2, h3⟩
      have e2 : v = V.int x := h2
      rw [h1, e2, rpA_ints.mp h3]
      rfl
    · intro h
      exact ⟨.int x, xs.map V.int, h, rfl, rpA_ints.mpr rfl⟩
abbrev Ds := List (Option Dt)
def RpS (K : PySem.W.Frag) (H : Hp) : Ds → L2.St → Prop
  | [], σ => σ = []
  | o :: ds, σ => ∃ x r, σ = x :: r ∧ (∀ d, o = some d → ∃ v, x = some v ∧ Rp K H d v) ∧ RpS K H ds r
theorem RpS.mono {K : PySem.W.Frag} {H H' : Hp} (e : Ex H H') : ∀ {ds : Ds} {σ : L2.St}, RpS K H ds σ → RpS K H' ds σ
  | [], _, h => h
  | _ :: _, _, ⟨x, r, h1, h2, h3⟩ => ⟨x, r, h1, fun d hd => let ⟨v, a, b⟩ := h2 d hd; ⟨v, a, b.mono e⟩, RpS.mono e h3⟩
theorem RpS.get {K : PySem.W.Frag} {H : Hp} : ∀ {ds : Ds} {σ : L2.St} {i : Nat} {d : Dt}, RpS K H ds σ → ds[i]? = some (some d) → ∃ v, σ[i]? = some (some v) ∧ Rp K H d v
  | [], _, i, d, _, e => by simp at e
  | o :: ds, _, 0, d, ⟨x, r, h1, h2, _⟩, e => by
    have e' : o = some d := by simpa using e
    obtain ⟨v, hv, hr⟩ := h2 d e'
    exact ⟨v, by rw [h1, hv]; rfl, hr⟩
  | o :: ds, _, i + 1, d, ⟨x, r, h1, _, h3⟩, e => by
    obtain ⟨v, hv, hr⟩ := RpS.get (i := i) h3 (by simpa using e)
    exact ⟨v, by rw [h1]; simpa using hv, hr⟩
theorem RpS.set {K : PySem.W.Frag} {H : Hp} {d : Dt} {v : V} (hr : Rp K H d v) : ∀ {ds : Ds} {σ : L2.St} {i : Nat}, RpS K H ds σ → RpS K H (ds.set i (some d)) (σ.set i (some v))
  | [], _, i, h => by
    have e : _ = [] := h
    rw [e]
    exact rfl
  | o :: ds, _, 0, ⟨x, r, h1, _, h3⟩ => ⟨some v, r, by rw [h1]; rfl, fun d' e => ⟨v, rfl, (Option.some.inj e) ▸ hr⟩, h3⟩
  | o :: ds, _, i + 1, ⟨x, r, h1, h2, h3⟩ => ⟨x, r.set i (some v), by rw [h1]; rfl, h2, RpS.set hr h3⟩
theorem RpS.forget {K : PySem.W.Frag} {H : Hp} : ∀ {ds : Ds} {σ : L2.St} {i : Nat} {x : Option V}, RpS K H ds σ → RpS K H (ds.set i none) (σ.set i x)
  | [], _, i, x, h => by
    have e : _ = [] := h
    rw [e]
    exact rfl
  | o :: ds, _, 0, x', ⟨x, r, h1, _, h3⟩ => ⟨x', r, by rw [h1]; rfl, (fun d' e => by cases e), h3⟩
  | o :: ds, _, i + 1, x', ⟨x, r, h1, h2, h3⟩ => ⟨x, r.set i x', by rw [h1]; rfl, h2, RpS.forget h3⟩
def wipeD (ds : Ds) : List Nat → Ds
  | [] => ds
  | i :: is => wipeD (ds.set i none) is
def LeD : Ds → Ds → Prop
  | [], ds => ds = []
  | o :: es, ds => ∃ x r, ds = x :: r ∧ (o = none ∨ o = x) ∧ LeD es r
theorem RpS.weak {K : PySem.W.Frag} {H : Hp} : ∀ {es ds : Ds} {σ : L2.St}, LeD es ds → RpS K H ds σ → RpS K H es σ
  | [], _, _, h, q => by
    have e : _ = [] := h
    rw [e] at q
    exact q
  | o :: es, _, _, ⟨x, r, h1, h2, h3⟩, q => by
    rw [h1] at q
    obtain ⟨y, t, q1, q2, q3⟩ := q
    refine ⟨y, t, q1, fun d hd => ?_, RpS.weak h3 q3⟩
    rcases h2 with h2 | h2
    · rw [h2] at hd
      cases hd
    · exact q2 d (h2 ▸ hd)
structure Mode where
  K : PySem.W.Frag
  S : List Addr
  J : Hp → Prop
structure Mode.Ok (M : Mode) : Prop where
  ex : ∀ {H H' : Hp}, Ex H H' → M.J H → M.J H'
  tr : ∀ {H : Hp}, M.J H → ∀ b ∈ M.S, H b ≠ none
  mu : ∀ {H H' : Hp} {D : Addr}, M.J H → H D = none → M.J H' → ∀ o, M.J (upd H' D o)
def Mode.St (M : Mode) (δ : Ds) (σ : L2.St) (H : Hp) : Prop := RpS M.K (cut M.S H) δ σ ∧ M.J H
def Mode.Le (M : Mode) (H H' : Hp) : Prop := Ex (cut M.S H) (cut M.S H')
def Mode.R (M : Mode) (H : Hp) (d : Dt) (v : V) : Prop := Rp M.K (cut M.S H) d v
theorem Mode.St.next {M : Mode} {δ : Ds} {σ : L2.St} {H H' : Hp} (s : M.St δ σ H) (e : M.Le H H') (j : M.J H') : M.St δ σ H' := ⟨s.1.mono e, j⟩
theorem Mode.St.set {M : Mode} {δ : Ds} {σ : L2.St} {H : Hp} {i : Nat} {d : Dt} {v : V} (s : M.St δ σ H) (r : M.R H d v) : M.St (δ.set i (some d)) (σ.set i (some v)) H := ⟨s.1.set r, s.2⟩
theorem Mode.Le.refl {M : Mode} {H : Hp} : M.Le H H := Ex.refl _
theorem Mode.Le.trans {M : Mode} {H H1 H2 : Hp} (a : M.Le H H1) (b : M.Le H1 H2) : M.Le H H2 := Ex.trans a b
theorem Mode.le {M : Mode} {H H' : Hp} (e : Ex H H') : M.Le H H' := cut_ex e
theorem Mode.Ok.out {M : Mode} (o : M.Ok) {H : Hp} {p : Addr} (j : M.J H) (h : H p = none) : p ∉ M.S := fun z => o.tr j p z h
theorem Mode.Ok.newT {M : Mode} (o : M.Ok) {H : Hp} {p : Addr} {b : Obj} {ds : List Dt} {xs : List V} (j : M.J H) (h : H p = none) (hb : b.dict = none) (r : RpA M.K (cut M.S H) ds xs) :
    Ex H (upd H p (.frz b (.tup xs))) ∧ M.J (upd H p (.frz b (.tup xs))) ∧ M.R (upd H p (.frz b (.tup xs))) (.tup ds) (.ref p) := by
  have e : Ex H (upd H p (.frz b (.tup xs))) := Ex.new h
  have c : cut M.S (upd H p (.frz b (.tup xs))) p = some (.frz b (.tup xs)) := by
    rw [cut_out (o.out j h)]
    exact upd_same
  exact ⟨e, o.ex e j, p, xs, rfl, ⟨Or.inl (Or.inr ⟨b, c⟩), fun _ => .inl ⟨b, _, c, hb⟩⟩, r.mono (cut_ex e)⟩
theorem Mode.Ok.newL {M : Mode} (o : M.Ok) {H : Hp} {p : Addr} {ds : List Dt} {xs : List V} (j : M.J H) (h : H p = none) (r : RpA M.K (cut M.S H) ds xs) :
    Ex H (upd H p (.lst xs)) ∧ M.J (upd H p (.lst xs)) ∧ M.R (upd H p (.lst xs)) (.lst ds) (.ref p) := by
  have e : Ex H (upd H p (.lst xs)) := Ex.new h
  refine ⟨e, o.ex e j, p, xs, rfl, ?_, r.mono (cut_ex e)⟩
  rw [cut_out (o.out j h)]
  exact upd_same
structure Mode.Sub (M N : Mode) : Prop where
  k : N.K = M.K
  ok : N.Ok
  s : ∀ b ∈ M.S, b ∈ N.S
  j : ∀ {H : Hp}, N.J H → M.J H
  st : ∀ {H H' : Hp}, N.J H → M.J H' → Ex (cut M.S H) (cut M.S H') → N.J H'
theorem Mode.Ok.sub {M : Mode} (o : M.Ok) : M.Sub M := ⟨rfl, o, fun _ h => h, fun h => h, fun _ h _ => h⟩
theorem cut_sub {S T : List Addr} {H : Hp} (h : ∀ b ∈ S, b ∈ T) : Ex (cut T H) (cut S H) := fun b o e => by
  obtain ⟨h1, h2⟩ := cut_some e
  rw [cut_out (fun z => h2 (h b z))]
  exact h1
theorem cut_exs {S T : List Addr} {H H' : Hp} (h : ∀ b ∈ S, b ∈ T) (e : Ex (cut S H) (cut S H')) : Ex (cut T H) (cut T H') := fun b o z => by
  obtain ⟨h1, h2⟩ := cut_some z
  have q := e b o (by rw [cut_out (fun y => h2 (h b y))]; exact h1)
  rw [cut_out h2]
  exact (cut_some q).1
theorem Mode.Sub.trans {M N P : Mode} (a : M.Sub N) (b : N.Sub P) : M.Sub P := ⟨b.k.trans a.k, b.ok, fun x h => b.s x (a.s x h), fun h => a.j (b.j h), fun h1 h2 h3 =>
  b.st h1 (a.st (b.j h1) h2 h3) (cut_exs a.s h3)⟩
def EvP (M : Mode) (te : TE) (δ : Ds) (P : Dt → Prop) : Prop := ∀ N, M.Sub N → ∀ σ H, N.St δ σ H → ∀ Q : VK, (∀ d v H', P d → N.Le H H' → N.J H' → N.R H' d v → Q v H') → te σ H Q
def EvQ (M : Mode) (tt : TT) (δ : Ds) (P : Bool → Prop) : Prop := ∀ N, M.Sub N → ∀ σ H, N.St δ σ H → ∀ Q : Bool → Hp → Prop, (∀ b H', P b → N.Le H H' → N.J H' → Q b H') → tt σ H Q
def EvAP (M : Mode) (ta : TA) (δ : Ds) (P : List Dt → Prop) : Prop := ∀ N, M.Sub N → ∀ σ H, N.St δ σ H → ∀ Q : List V → Hp → Prop, (∀ ds vs H', P ds → N.Le H H' → N.J H' → RpA N.K (cut N.S H') ds vs → Q vs H') → ta σ H Q
def EvOp (M : Mode) (to : TO) (δ : Ds) (P : Option Int → Prop) : Prop := ∀ N, M.Sub N → ∀ σ H, N.St δ σ H → ∀ Q : Option Int → Hp → Prop, (∀ o H', P o → N.Le H H' → N.J H' → Q o H') → to σ H Q
def R2P (M : Mode) (r : R2) (d e : Dt) (P : Dt → Prop) : Prop := ∀ N, M.Sub N → ∀ x y H, N.J H → N.R H d x → N.R H e y → ∀ Q : VK, (∀ f v H', P f → N.Le H H' → N.J H' → N.R H' f v → Q v H') → r x y H Q
def RCP (M : Mode) (r : List V → Hp → VK → Prop) (ds : List Dt) (P : Dt → Prop) : Prop := ∀ N, M.Sub N → ∀ vs H, N.J H → RpA N.K (cut N.S H) ds vs → ∀ Q : VK, (∀ f v H', P f → N.Le H H' → N.J H' → N.R H' f v → Q v H') → r vs H Q
abbrev EvD (M : Mode) (te : TE) (δ : Ds) (d : Dt) : Prop := EvP M te δ (fun x => x = d)
abbrev EvB (M : Mode) (tt : TT) (δ : Ds) (b : Bool) : Prop := EvQ M tt δ (fun x => x = b)
abbrev EvAs (M : Mode) (ta : TA) (δ : Ds) (ds : List Dt) : Prop := EvAP M ta δ (fun x => x = ds)
abbrev EvO (M : Mode) (to : TO) (δ : Ds) (o : Option Int) : Prop := EvOp M to δ (fun x => x = o)
abbrev R2D (M : Mode) (r : R2) (d e f : Dt) : Prop := R2P M r d e (fun x => x = f)
abbrev RCD (M : Mode) (r : List V → Hp → VK → Prop) (ds : List Dt) (f : Dt) : Prop := RCP M r ds (fun x => x = f)
section
variable {M : Mode} {δ : Ds} {ta tb te tx : TE} {t u : TT} {d e f : Dt} {r : R2} {P P' : Dt → Prop}
theorem EvP.sub {N : Mode} (h : EvP M te δ P) (s : M.Sub N) : EvP N te δ P := fun N' s' => h N' (s.trans s')
theorem EvP.weak (h : EvP M te δ P) (w : ∀ d, P d → P' d) : EvP M te δ P' := fun N s σ H st Q q => h N s σ H st Q fun d v H' hp => q d v H' (w d hp)
theorem EvQ.weak {P P' : Bool → Prop} (h : EvQ M t δ P) (w : ∀ d, P d → P' d) : EvQ M t δ P' := fun N s σ H st Q q => h N s σ H st Q fun d H' hp => q d H' (w d hp)
theorem EvP.le {δ' : Ds} (h : EvP M te δ P) (w : LeD δ δ') : EvP M te δ' P := fun N s σ H st Q q => h N s σ H ⟨st.1.weak w, st.2⟩ Q q
theorem ed_var {i : Nat} (h : δ[i]? = some (some d)) : EvD M (tVar i) δ d := fun N _ σ H s Q q => by
  obtain ⟨v, hv, hr⟩ := s.1.get h
  exact ⟨v, hv, q d v H rfl Mode.Le.refl s.2 hr⟩
theorem ed_int {i : Int} : EvD M (tC (.int i)) δ (.int i) := fun N _ _ H s _ q => q _ _ H rfl Mode.Le.refl s.2 rfl
theorem ep_op {P1 : Dt → Prop} {P2 : Dt → Dt → Prop} (ha : EvP M ta δ P1) (hb : ∀ d, P1 d → EvP M tb δ (P2 d)) (hr : ∀ d e, P1 d → P2 d e → R2P M r d e P) : EvP M (tOp r ta tb) δ P := fun N n σ H s Q q =>
  ha N n σ H s _ fun d x H1 p1 e1 j1 r1 => hb d p1 N n σ H1 (s.next e1 j1) _ fun e y H2 p2 e2 j2 r2 => hr d e p1 p2 N n x y H2 j2 (r1.mono e2) r2 Q fun f v H3 p3 e3 j3 r3 => q f v H3 p3 ((e1.trans e2).trans e3) j3 r3
theorem ed_op (ha : EvD M ta δ d) (hb : EvD M tb δ e) (hr : R2P M r d e P) : EvP M (tOp r ta tb) δ P :=
  ep_op ha (fun _ _ => hb) fun _ _ h1 h2 => by rw [h1, h2]; exact hr
theorem ea_nil : EvAs M tNil δ [] := fun N _ _ H s _ q => q [] [] H rfl Mode.Le.refl s.2 rfl
theorem eap_cons {tr : TA} {P1 : Dt → Prop} {P2 : Dt → List Dt → Prop} (h : EvP M ta δ P1) (hr : ∀ d, P1 d → EvAP M tr δ (P2 d)) : EvAP M (tCons ta tr) δ (fun l => ∃ d ds, P1 d ∧ P2 d ds ∧ l = d :: ds) := fun N n σ H s Q q =>
  h N n σ H s _ fun d x H1 p1 e1 j1 r1 => hr d p1 N n σ H1 (s.next e1 j1) _ fun ds xs H2 p2 e2 j2 r2 => q (d :: ds) (x :: xs) H2 ⟨d, ds, p1, p2, rfl⟩ (e1.trans e2) j2 ⟨x, xs, rfl, r1.mono e2, r2⟩
theorem EvAP.weak {ta : TA} {P P' : List Dt → Prop} (h : EvAP M ta δ P) (w : ∀ d, P d → P' d) : EvAP M ta δ P' := fun N s σ H st Q q => h N s σ H st Q fun d v H' hp => q d v H' (w d hp)
theorem ea_cons {tr : TA} {ds : List Dt} (h : EvD M ta δ d) (hr : EvAs M tr δ ds) : EvAs M (tCons ta tr) δ (d :: ds) :=
  (eap_cons h fun _ _ => hr).weak fun l ⟨_, _, h1, h2, h3⟩ => by rw [h3, h1, h2]
theorem ep_cb {r : List V → Hp → VK → Prop} {ta : TA} {P1 : List Dt → Prop} (h : EvAP M ta δ P1) (hr : ∀ ds, P1 ds → RCP M r ds P) : EvP M (tCB r ta) δ P := fun N n σ H s Q q =>
  h N n σ H s _ fun ds vs H1 p1 e1 j1 r1 => hr ds p1 N n vs H1 j1 r1 Q fun f v H2 p2 e2 j2 r2 => q f v H2 p2 (e1.trans e2) j2 r2
theorem ed_cb {r : List V → Hp → VK → Prop} {ta : TA} {ds : List Dt} (h : EvAs M ta δ ds) (hr : RCP M r ds P) : EvP M (tCB r ta) δ P := ep_cb h fun _ w => by rw [w]; exact hr
theorem flat_up {N : Mode} {H : Hp} {v : V} (h : N.R (fun _ => none) f v) : N.R H f v := Rp.mono (fun b o z => by have z' := (cut_some z).1; cases z') h
theorem rd_I0 {g : Int → Int → V} {i j : Int} (h : ∀ N : Mode, N.R (fun _ => none) f (g i j)) : R2D M (rI0 g) (.int i) (.int j) f := fun N n x y H hj hx hy Q q =>
  ⟨i, j, hx, hy, q f _ H rfl Mode.Le.refl hj (flat_up (h N))⟩
theorem rd_I {C : Int → Int → Prop} {g : Int → Int → V} {i j : Int} (hc : C i j) (h : ∀ N : Mode, N.R (fun _ => none) f (g i j)) : R2D M (rI C g) (.int i) (.int j) f := fun N n x y H hj hx hy Q q =>
  ⟨i, j, hx, hy, hc, q f _ H rfl Mode.Le.refl hj (flat_up (h N))⟩
theorem ed_I0 {g : Int → Int → V} {i j : Int} (ha : EvD M ta δ (.int i)) (hb : EvD M tb δ (.int j)) (h : ∀ N : Mode, N.R (fun _ => none) f (g i j)) : EvD M (tOp (rI0 g) ta tb) δ f := ed_op ha hb (rd_I0 h)
theorem ed_I {C : Int → Int → Prop} {g : Int → Int → V} {i j : Int} (ha : EvD M ta δ (.int i)) (hb : EvD M tb δ (.int j)) (hc : C i j) (h : ∀ N : Mode, N.R (fun _ => none) f (g i j)) : EvD M (tOp (rI C g) ta tb) δ f := ed_op ha hb (rd_I hc h)
theorem eq_test {P : Dt → Prop} {B : Bool → Prop} (h : EvP M te δ P) (hp : ∀ d, P d → ∃ b, d = .bl b ∧ B b) : EvQ M (tTest te) δ B := fun N n σ H s Q q => h N n σ H s _ fun d v H1 p1 e1 j1 r1 => by
  obtain ⟨b, hb, hB⟩ := hp d p1
  subst hb
  exact ⟨b, r1, q b H1 hB e1 j1⟩
theorem eb_test {b : Bool} (h : EvD M te δ (.bl b)) : EvB M (tTest te) δ b := eq_test h fun _ w => ⟨b, w, rfl⟩
def scalD : Dt → Dt → Bool
  | .non, .non => true | .non, .int _ => true | .int _, .non => true | .non, .bl _ => true | .bl _, .non => true | .non, .str _ => true | .str _, .non => true
  | .int _, .int _ => true | .bl _, .bl _ => true | .str _, .str _ => true
  | .int _, .str _ => true | .str _, .int _ => true | .bl _, .str _ => true | .str _, .bl _ => true
  | _, _ => false
def eqS : Dt → Dt → Bool
  | .non, .non => true
  | .int i, .int j => decide (i = j)
  | .bl i, .bl j => decide (i = j)
  | .str i, .str j => decide (i = j)
  | _, _ => false
theorem scal_of {N : Mode} {H : Hp} {x y : V} (h : scalD d e = true) (hx : N.R H d x) (hy : N.R H e y) : scal x y = true ∧ decide (x = y) = eqS d e := by
  cases d <;> cases e <;> first
    | exact absurd h Bool.false_ne_true
    | (obtain rfl := (show x = _ from hx); obtain rfl := (show y = _ from hy); refine ⟨rfl, ?_⟩; simp [eqS])
theorem eo_some {i : Int} (h : EvD M te δ (.int i)) : EvO M (tPart te) δ (some i) := fun N n σ H s Q q => h N n σ H s _ fun d v H1 p1 e1 j1 r1 => by
  subst p1
  exact ⟨i, r1, q _ H1 rfl e1 j1⟩
end
end Mc
namespace Mc
open PySem PySem.Spec PyProof.Rows L2 Evl
def RunS (M : Mode) (t : TS) (D : Ends) (δ : Ds) (B : Hp) : Prop := M.Ok → ∀ σ H, M.St δ σ H → M.Le B H → t D σ H
def To (M : Mode) (B : Hp) (I : Ds → Prop) : L2.St → Hp → Prop := fun σ H => ∃ δ, I δ ∧ M.St δ σ H ∧ M.Le B H
section
variable {M : Mode} {δ : Ds} {B : Hp} {ta tb te tx : TE} {t u : TT} {d e f : Dt} {P : Dt → Prop} {D : Ends} {tu tw tz : TS}
theorem RunS.le {δ' : Ds} (h : RunS M tz D δ B) (w : LeD δ δ') : RunS M tz D δ' B := fun o σ H s l => h o σ H ⟨s.1.weak w, s.2⟩ l
theorem p_asg {i : Nat} (h : EvP M te δ P) (k : ∀ d, P d → RunS M tz D (δ.set i (some d)) B) : RunS M (tSeq (tAsg te (gName i)) tz) D δ B := fun o σ H s l =>
  h M o.sub σ H s _ fun d v H1 p1 e1 j1 r1 => k d p1 o _ H1 ((s.next e1 j1).set r1) (l.trans e1)
theorem q_asg {i : Nat} (h : EvD M te δ d) (k : RunS M tz D (δ.set i (some d)) B) : RunS M (tSeq (tAsg te (gName i)) tz) D δ B := p_asg h fun _ w => by rw [w]; exact k
theorem p_asg1 {i : Nat} (h : EvP M te δ P) (k : ∀ d, P d → ∀ σ H, M.St (δ.set i (some d)) σ H → M.Le B H → D.nx σ H) : RunS M (tAsg te (gName i)) D δ B := fun o σ H s l =>
  h M o.sub σ H s _ fun d v H1 p1 e1 j1 r1 => k d p1 _ _ ((s.next e1 j1).set r1) (l.trans e1)
def Chg (js : List Nat) (σ σ' : L2.St) : Prop := σ'.length = σ.length ∧ ∀ k, k ∉ js → σ'[k]? = σ[k]?
def GD (M : Mode) (g : TG) (d : Dt) (δ δ' : Ds) (js : List Nat) : Prop := ∀ N, M.Sub N → ∀ v σ H (Q : L2.St → Hp → Prop), N.St δ σ H → N.R H d v → (∀ σ', N.St δ' σ' H → Chg js σ σ' → Q σ' H) → g v σ H Q
def GDs (M : Mode) (g : TGs) (ds : List Dt) (δ δ' : Ds) (js : List Nat) : Prop := ∀ N, M.Sub N → ∀ vs σ H (Q : L2.St → Hp → Prop), N.St δ σ H → RpA N.K (cut N.S H) ds vs → (∀ σ', N.St δ' σ' H → Chg js σ σ' → Q σ' H) → g vs σ H Q
theorem gd_name {i : Nat} : GD M (gName i) d δ (δ.set i (some d)) [i] := fun N _ v σ H Q s r q => q _ (s.set r) ⟨by simp, fun k hk => List.getElem?_set_ne (fun e => hk (by simp [e]))⟩
theorem gds_nil : GDs M gNil [] δ δ [] := fun N _ vs σ H Q s r q => ⟨r, q σ s ⟨rfl, fun _ _ => rfl⟩⟩
theorem gds_cons {g : TG} {gs : TGs} {ds : List Dt} {δ1 δ2 : Ds} {js ks : List Nat} (h : GD M g d δ δ1 js) (hs : GDs M gs ds δ1 δ2 ks) : GDs M (gCons g gs) (d :: ds) δ δ2 (js ++ ks) := fun N n vs σ H Q s r q => by
  obtain ⟨v, w, h1, h2, h3⟩ := r
  refine ⟨v, w, h1, h N n v σ H _ s h2 fun σ1 s1 c1 => hs N n w σ1 H Q s1 h3 fun σ2 s2 c2 => q σ2 s2 ⟨c2.1.trans c1.1, fun k hk => ?_⟩⟩
  rw [c2.2 k (fun z => hk (List.mem_append_right _ z)), c1.2 k (fun z => hk (List.mem_append_left _ z))]
theorem gd_tup {gs : TGs} {ds : List Dt} {δ1 : Ds} {js : List Nat} {n : Nat} (hs : GDs M gs ds δ δ1 js) (hl : ds.length = n := by rfl) : GD M (gTup M.K n gs) (.tup ds) δ δ1 js := fun N nn v σ H Q s r q => by
  obtain ⟨a, xs, h1, h2, h3⟩ := r
  refine ⟨a, xs, h1, ?_, by rw [h3.length, hl], hs N nn xs σ H Q s h3 q⟩
  rw [← nn.k]
  exact ex_t (cut_le _ _) h2.1
def Mode.Tr (M : Mode) (H : Hp) : Prop := ∀ b ∈ M.S, H b ≠ none
structure Turns (M : Mode) (J : It) (H1 : Hp) (items : List Dt) : Prop where
  go : ∀ i H', M.Le H1 H' → M.Tr H' → i < items.length → J.go i H'
  stop : ∀ H', M.Le H1 H' → M.Tr H' → J.stop items.length H'
  yld : ∀ i H' x H'' d, M.Le H1 H' → M.Tr H' → J.yld i H' x H'' → items[i]? = some d → M.R H'' d x ∧ Ex H' H''
theorem Turns.at {M M' : Mode} {J : It} {H1 : Hp} {items : List Dt} (t : Turns M J H1 items) (k : M'.K = M.K) (s : M'.S = M.S) : Turns M' J H1 items := by
  obtain ⟨K, S, J1⟩ := M
  obtain ⟨K', S', J2⟩ := M'
  cases k
  cases s
  exact ⟨t.go, t.stop, t.yld⟩
def EvI (M : Mode) (wi : TI) (δ : Ds) (P : List Dt → Prop) : Prop := ∀ N, M.Sub N → ∀ σ H, N.St δ σ H → ∀ R : It → Hp → Prop, (∀ items J H1, P items → N.Le H H1 → N.J H1 → (∀ N', N.Sub N' → cut N'.S H1 = cut N.S H1 → Turns N' J H1 items) → R J H1) → wi σ H R
abbrev EvW (M : Mode) (wi : TI) (δ : Ds) (items : List Dt) : Prop := EvI M wi δ (fun x => x = items)
theorem turns_list {N : Mode} {H1 : Hp} {a : Addr} {xs : List V} {ds : List Dt} (hx0 : cut N.S H1 a = some (.lst xs)) (hr : RpA N.K (cut N.S H1) ds xs) : Turns N (Itl N.K a) H1 ds where
  go := fun i H' l j hi => by
    have hx : SqL N.K (cut N.S H1) a xs := sq_of hx0
    have h := ex_l (cut_le _ _) (ex_l l hx)
    exact ⟨xs, xs[i]'(by rw [hr.length]; exact hi), h, List.getElem?_eq_getElem _⟩
  stop := fun H' l j => ⟨xs, ex_l (cut_le _ _) (ex_l l (sq_of hx0)), by rw [hr.length]; exact Nat.le_refl _⟩
  yld := fun i H' x H'' d l j y hd => by
    obtain ⟨y1, y2⟩ := y
    subst y1
    obtain ⟨v, hv, hr'⟩ := hr.get' hd
    have e := y2 xs (ex_l (cut_le _ _) (ex_l l (sq_of hx0)))
    rw [hv] at e
    cases e
    exact ⟨hr'.mono l, Ex.refl _⟩
variable {ds : List Dt}
theorem ei_list {PI : List Dt → Prop} (h : EvP M te δ P) (hp : ∀ d, P d → ∃ ds, PI ds ∧ d = .lst ds) : EvI M (iList M.K te) δ PI := fun N n σ H s R q => h N n σ H s _ fun d v H1 p1 e1 j1 r1 => by
  obtain ⟨ds, hPI, rfl⟩ := hp d p1
  obtain ⟨a, xs, h1, h2, h3⟩ := r1
  refine ⟨a, h1, ⟨xs, sq_of (cut_le _ _ _ _ h2)⟩, q ds _ H1 hPI e1 j1 fun N' n' ec => ?_⟩
  rw [← n.k, ← n'.k]
  rw [← n'.k, ← ec] at h3
  rw [← ec] at h2
  exact turns_list h2 h3
theorem ew_list (h : EvD M te δ (.lst ds)) : EvW M (iList M.K te) δ ds := ei_list h fun _ w => ⟨ds, rfl, w⟩
def rangeD (lo : Int) (n : Nat) : List Dt := (List.range n).map fun (i : Nat) => Dt.int (lo + (i : Int))
theorem rangeD_len (lo : Int) (n : Nat) : (rangeD lo n).length = n := by simp [rangeD]
theorem rangeD_get {lo : Int} {n i : Nat} {d : Dt} (h : (rangeD lo n)[i]? = some d) : d = .int (lo + (i : Int)) ∧ i < n := by
  unfold rangeD at h
  rw [List.getElem?_map] at h
  by_cases hi : i < n
  · rw [List.getElem?_range hi] at h
    exact ⟨(Option.some.inj h).symm, hi⟩
  · rw [List.getElem?_eq_none (by simpa using hi)] at h
    cases h
theorem r_for {wi : TI} {g : TG} {I : Nat → Ds → Prop} {P : List Dt → Prop} (hi : EvI M wi δ P) (h0 : I 0 δ)
    (hs : ∀ items, P items → ∀ B', M.Le B B' → ∀ i d δ1, items[i]? = some d → I i δ1 → ∃ δ2 js, GD M g d δ1 δ2 js ∧ RunS M tu { D with nx := To M B' (I (i + 1)), ct := To M B' (I (i + 1)), bk := D.nx } δ2 B')
    (hd : ∀ items, P items → ∀ δ1, I items.length δ1 → ∀ σ H, M.St δ1 σ H → M.Le B H → D.nx σ H) : RunS M (tFor wi g tu) D δ B := fun o σ H s l =>
  hi M o.sub σ H s _ fun items J H1 p1 e1 j1 T => by
    have T := T M o.sub rfl
    refine ⟨fun i m σ' H' => m = items.length - i ∧ i ≤ items.length ∧ ∃ δ1, I i δ1 ∧ M.St δ1 σ' H' ∧ M.Le H1 H', ⟨_, rfl, Nat.zero_le _, δ, h0, s.next e1 j1, Mode.Le.refl⟩, ?_⟩
    rintro i m σ' H' ⟨rfl, hle, δ1, hI, s1, l1⟩
    by_cases hlt : i < items.length
    · refine Or.inr ⟨T.go i H' l1 (o.tr s1.2) hlt, To M H1 (I (i + 1)), fun σ2 H2 ⟨δ2, hI2, s2, l2⟩ => ⟨items.length - (i + 1), by omega, rfl, hlt, δ2, hI2, s2, l2⟩, fun x H2 y => ?_⟩
      have hd' := List.getElem?_eq_getElem hlt
      obtain ⟨r2, x2⟩ := T.yld i H' x H2 _ l1 (o.tr s1.2) y hd'
      have l2 : M.Le H' H2 := M.le x2
      have j2 : M.J H2 := o.ex x2 s1.2
      obtain ⟨δ2, js, G, K⟩ := hs items p1 H1 (l.trans e1) i _ δ1 hd' hI
      exact G M o.sub x σ' H2 _ (s1.next l2 j2) r2 fun σ3 s3 _ => K o σ3 H2 s3 (l1.trans l2)
    · have e : i = items.length := by omega
      subst e
      exact Or.inl ⟨T.stop H' l1 (o.tr s1.2), hd items p1 δ1 hI σ' H' s1 ((l.trans e1).trans l1)⟩
theorem q_for {wi : TI} {g : TG} {I : Nat → Ds → Prop} {items : List Dt} (hi : EvW M wi δ items) (h0 : I 0 δ)
    (hs : ∀ B', M.Le B B' → ∀ i d δ1, items[i]? = some d → I i δ1 → ∃ δ2 js, GD M g d δ1 δ2 js ∧ RunS M tu { D with nx := To M B' (I (i + 1)), ct := To M B' (I (i + 1)), bk := tz D } δ2 B')
    (hd : ∀ δ1, I items.length δ1 → RunS M tz D δ1 B) : RunS M (tSeq (tFor wi g tu) tz) D δ B := fun o =>
  r_for (D := { D with nx := tz D }) hi h0 (fun items' w => by subst w; exact hs) (fun items' w => by subst w; exact fun δ1 h σ H s l => hd δ1 h o σ H s l) o
theorem wipe_get {σ : L2.St} {k : Nat} : ∀ {vs : List Nat}, (wipe σ vs)[k]? = if k ∈ vs then σ[k]?.map (fun _ => none) else σ[k]? := by
  intro vs
  induction vs with
  | nil => simp [wipe]
  | cons v vs ih =>
    unfold wipe
    by_cases hv : k = v
    · subst hv
      rw [if_pos List.mem_cons_self]
      by_cases hk : k < (wipe σ vs).length
      · rw [List.getElem?_set_self hk]
        rw [wipe_length] at hk
        rw [List.getElem?_eq_getElem hk]
        rfl
      · rw [List.getElem?_eq_none (by rw [List.length_set]; omega)]
        rw [wipe_length] at hk
        rw [List.getElem?_eq_none (by omega)]
        rfl
    · rw [List.getElem?_set_ne (Ne.symm hv), ih]
      by_cases hm : k ∈ vs
      · rw [if_pos hm, if_pos (List.mem_cons_of_mem _ hm)]
      · rw [if_neg hm, if_neg (fun z => (List.mem_cons.mp z).elim hv hm)]
theorem wipe_chg {σ σ' : L2.St} {vs js : List Nat} (c : Chg js (wipe σ vs) σ') (h : ∀ j ∈ js, j ∈ vs) : wipe σ' vs = wipe σ vs := by
  refine List.ext_getElem? fun k => ?_
  rw [wipe_get, wipe_get]
  have hl : σ'.length = σ.length := c.1.trans (wipe_length _ _)
  by_cases hk : k ∈ vs
  · rw [if_pos hk, if_pos hk]
    by_cases hlt : k < σ.length
    · rw [List.getElem?_eq_getElem hlt, List.getElem?_eq_getElem (by omega)]
      rfl
    · rw [List.getElem?_eq_none (by omega), List.getElem?_eq_none (by omega)]
  · rw [if_neg hk, if_neg hk, c.2 k (fun z => hk (h k z)), wipe_get, if_neg hk]
theorem RpS.wipe {K : PySem.W.Frag} {H : Hp} {ds : Ds} {σ : L2.St} (h : RpS K H ds σ) : ∀ vs : List Nat, RpS K H (wipeD ds vs) (L2.wipe σ vs) := by
  intro vs
  induction vs generalizing ds σ with
  | nil => exact h
  | cons v vs ih =>
    have e : L2.wipe σ (v :: vs) = L2.wipe (σ.set v none) vs := by
      refine List.ext_getElem? fun k => ?_
      rw [wipe_get, wipe_get]
      by_cases hv : k = v
      · subst hv
        rw [if_pos List.mem_cons_self]
        by_cases hk : k < σ.length
        · rw [List.getElem?_set_self hk, List.getElem?_eq_getElem hk]
          split <;> rfl
        · rw [List.getElem?_eq_none (by omega), List.getElem?_eq_none (by rw [List.length_set]; omega)]
          split <;> rfl
      · rw [List.getElem?_set_ne (Ne.symm hv)]
        by_cases hm : k ∈ vs
        · rw [if_pos hm, if_pos (List.mem_cons_of_mem _ hm)]
        · rw [if_neg hm, if_neg (fun z => (List.mem_cons.mp z).elim hv hm)]
    rw [e]
    exact ih h.forget
def Mode.fill (M : Mode) (D : Addr) (acc : List V) : Mode := ⟨M.K, D :: M.S, fun H => M.J H ∧ H D = some (.lst acc)⟩
theorem Mode.fill_sub {M : Mode} {D : Addr} {acc : List V} (o : M.Ok) (hD : D ∉ M.S) : M.Sub (M.fill D acc) where
  k := rfl
  ok := ⟨fun e j => ⟨o.ex e j.1, e _ _ j.2⟩, fun j b hb => by
    rcases List.mem_cons.mp hb with z | z
    · rw [z, j.2]
      exact fun q => nomatch q
    · exact o.tr j.1 b z, fun {H H' E} j h j' x => by
    have ne : D ≠ E := fun z => by
      rw [← z, j.2] at h
      cases h
    refine ⟨o.mu j.1 h j'.1 x, ?_⟩
    rw [upd_ne ne]
    exact j'.2⟩
  s := fun b hb => List.mem_cons_of_mem _ hb
  j := fun h => h.1
  st := fun h1 h2 e => ⟨h2, by
    have q := e D (.lst _) (by rw [cut_out hD]; exact h1.2)
    exact (cut_some q).1⟩
theorem ep_lc {wi : TI} {g : TG} {tt : TT} {vs : List Nat} {PI : List Dt → Prop} (hi : EvI M wi δ PI)
    (hs : ∀ items, PI items → ∃ (p : Dt → Bool) (F : Dt → Dt), items.length ≤ 50000 ∧ P (.lst ((items.filter p).map F)) ∧ ∀ (i : Nat) d, items[i]? = some d → ∃ δ2 js, GD M g d (wipeD δ vs) δ2 js ∧ (∀ j ∈ js, j ∈ vs) ∧ EvB M tt δ2 (p d) ∧ (p d = true → EvD M te δ2 (F d))) :
    EvP M (tLc wi g tt te vs) δ P := fun N n σ H s Q q =>
  hi N n σ H s _ fun items' J H1 w e1 j1 T Dl hD => by
    obtain ⟨p, F, hz, hP, hs⟩ := hs items' w
    have hDS : Dl ∉ N.S := n.ok.out j1 hD
    refine ⟨fun i m H' => m = items'.length - i ∧ i ≤ items'.length ∧ ∃ acc, RpA N.K (cut (Dl :: N.S) H') (((items'.take i).filter p).map F) acc ∧ N.J H' ∧ H' Dl = some (.lst acc) ∧ Ex (cut (Dl :: N.S) H1) (cut (Dl :: N.S) H'),
      ⟨_, rfl, Nat.zero_le _, [], rfl, n.ok.ex (Ex.new hD) j1, upd_same, by rw [cut_mut List.mem_cons_self]; exact Ex.refl _⟩, ?_⟩
    rintro i m H' ⟨rfl, hle, acc, hr, j', hacc, ex'⟩
    have sb : N.Sub (N.fill Dl acc) := Mode.fill_sub n.ok hDS
    have T' := T (N.fill Dl acc) sb (cut_fresh hD)
    have lacc : acc.length ≤ i := by
      rw [hr.length, List.length_map]
      exact Nat.le_trans (List.length_filter_le _ _) (by rw [List.length_take]; exact Nat.min_le_left _ _)
    by_cases hlt : i < items'.length
    · refine Or.inr ⟨T'.go i H' ex' (sb.ok.tr ⟨j', hacc⟩) hlt, fun H2 => i + 1 ≤ items'.length ∧ ∃ acc, RpA N.K (cut (Dl :: N.S) H2) (((items'.take (i + 1)).filter p).map F) acc ∧ N.J H2 ∧ H2 Dl = some (.lst acc) ∧ Ex (cut (Dl :: N.S) H1) (cut (Dl :: N.S) H2),
        fun H2 h2 => ⟨items'.length - (i + 1), by omega, rfl, h2⟩, fun x H2 y => ?_⟩
      have hd' := List.getElem?_eq_getElem hlt
      obtain ⟨r2, x2⟩ := T'.yld i H' x H2 _ ex' (sb.ok.tr ⟨j', hacc⟩) y hd'
      have l2 : (N.fill Dl acc).Le H' H2 := (N.fill Dl acc).le x2
      have j2 : (N.fill Dl acc).J H2 := sb.ok.ex x2 ⟨j', hacc⟩
      obtain ⟨δ2, js, G, hjs, ht, he⟩ := hs i _ hd'
      have st2 : (N.fill Dl acc).St (wipeD δ vs) (wipe σ vs) H2 := ⟨((s.1.mono e1).mono (show Ex (cut N.S H1) (cut (Dl :: N.S) H2) by rw [← cut_fresh (S := N.S) hD]; exact ex'.trans l2)).wipe vs, j2⟩
      refine G _ (n.trans sb) x (wipe σ vs) H2 _ st2 r2 fun σ3 s3 c3 => ⟨wipe_chg c3 hjs, ?_⟩
      refine ht _ (n.trans sb) σ3 H2 s3 _ fun b H3 hb l3 j3 => ?_
      have tk : items'.take (i + 1) = items'.take i ++ [items'[i]] := by rw [List.take_add_one, hd']; rfl
      have e13 : Ex (cut (Dl :: N.S) H1) (cut (Dl :: N.S) H3) := (ex'.trans l2).trans l3
      cases hp : p items'[i] with
      | false =>
        rw [hp] at hb
        rw [hb]
        show _ ∧ _
        refine ⟨hlt, acc, ?_, j3.1, j3.2, e13⟩
        rw [tk, List.filter_append, List.map_append, List.filter_cons, if_neg (by rw [hp]; exact Bool.false_ne_true)]
        show RpA N.K _ (_ ++ []) acc
        rw [List.append_nil]
        exact hr.mono (l2.trans l3)
      | true =>
        rw [hp] at hb
        rw [hb]
        show te σ3 H3 _
        refine he hp _ (n.trans sb) σ3 H3 (s3.next l3 j3) _ fun f v H4 hf l4 j4 r4 => ⟨acc, j4.2, sz_lt (by omega), hlt, acc ++ [v], ?_, ?_, upd_same, ?_⟩
        · rw [cut_mut List.mem_cons_self, tk, List.filter_append, List.map_append, List.filter_cons, if_pos hp]
          exact (hr.mono ((l2.trans l3).trans l4)).append (RpA.one (hf ▸ r4))
        · exact n.ok.mu j1 hD j4.1 _
        · rw [cut_mut List.mem_cons_self]
          exact e13.trans l4
    · have e : i = items'.length := by omega
      subst e
      refine Or.inl ⟨T'.stop H' ex' (sb.ok.tr ⟨j', hacc⟩), q _ _ H' hP ?_ j' ⟨Dl, acc, rfl, (by rw [cut_out hDS]; exact hacc), ?_⟩⟩
      · refine e1.trans ?_
        show Ex (cut N.S H1) (cut N.S H')
        rw [← cut_fresh (S := N.S) hD]
        exact ex'.trans cut_more
      · rw [List.take_length] at hr
        exact hr.mono cut_more
theorem ed_lc {wi : TI} {g : TG} {tt : TT} {vs : List Nat} {items : List Dt} (p : Dt → Bool) (F : Dt → Dt) (hi : EvW M wi δ items) (hz : items.length ≤ 50000)
    (hs : ∀ (i : Nat) d, items[i]? = some d → ∃ δ2 js, GD M g d (wipeD δ vs) δ2 js ∧ (∀ j ∈ js, j ∈ vs) ∧ EvB M tt δ2 (p d) ∧ (p d = true → EvD M te δ2 (F d))) :
    EvD M (tLc wi g tt te vs) δ (.lst ((items.filter p).map F)) := ep_lc hi fun items' w => by
  subst w
  exact ⟨p, F, hz, rfl, hs⟩
end
end Mc
namespace Mc
open PySem PySem.Spec PyProof.Rows L2
def txtOf (e : Int × Value) : Str := match e.2 with | .str x _ => x | _ => Str.empty
def TxtE (w : World) (e : Int × Value) : Prop := ∃ x tk, e = (hashStr w x, Value.str x tk)
structure TSet (w : World) (h : Heap) (a : Addr) (xs : List Str) : Prop where
  ex : ∃ o es ep t, h.get? a = some o ∧ o.ExactSet ∧ o.data = .set es ep t ∧ (∀ e ∈ es.toList, TxtE w e) ∧ (es.toList.map txtOf).Perm xs ∧ xs.Nodup ∧ es.size < scanBound ∧ t.fits es.size = true ∧
    Ris t.place.toList ∧ (w.params.followText "set-order" = true ∨ t.led = true)
section
variable {P : Program} {w : World} {h h' : Heap} {a : Addr} {xs : List Str}
theorem TSet.at (R : TSet w h a xs) (k : ∀ o, h.get? a = some o → h'.get? a = some o) : TSet w h' a xs := by
  obtain ⟨o, es, ep, t, ho, r⟩ := R.ex
  exact ⟨o, es, ep, t, k o ho, r⟩
theorem txt_elems {l : List (Int × Value)} (g : ∀ e ∈ l, TxtE w e) : ElemsOf (PySem.strKind P w) l := fun e he => by
  obtain ⟨x, tk, rfl⟩ := g e he
  exact ⟨⟨x, strKind_is P w x tk, rfl⟩, rfl⟩
theorem txt_is {e : Int × Value} (g : TxtE w e) (x : Str) : (PySem.strKind P w).is x e.2 = true ↔ txtOf e = x := by
  obtain ⟨y, tk, rfl⟩ := g
  constructor
  · intro q
    obtain ⟨t', q'⟩ := Value.isStrOf_shape (show Value.isStrOf x (Value.str y tk) = true from q)
    injection q' with q1 _
  · intro q
    have q' : y = x := q
    rw [← q']
    exact strKind_is P w y tk
end
section
variable {P : Program} {w : World} {A : Around} {E : Value → Shared → Prop} {s : Shared} {a : Addr} {xs : List Str}
theorem put_at {h : Heap} {o : Obj} {es es2 : Array (Int × Value)} {ep : Nat} {t t2 : SetTable} (ho : h.get? a = some o) (hd : o.data = .set es ep t) :
    (h.update a (Obj.putSet es2 t2)).get? a = some { o with data := .set es2 (ep + 1) t2 } := by
  have z := Heap.get?_update_self (Obj.putSet es2 t2) ho (by rw [putSet_of es2 t2 hd]; rfl)
  rwa [putSet_of es2 t2 hd] at z
theorem tset_store {g : Bool → Sem Unit} (hg : ∀ (b : Bool) (s1 : Shared) (Z : Unit → Shared → Prop), Z () s1 → wpAny (model P w) A (g b) Z E s1)
    {o : Obj} {es : Array (Int × Value)} {ep : Nat} {t : SetTable} (ho : s.heap.get? a = some o) (hx : o.ExactSet) (hd : o.data = .set es ep t)
    {es1 : Array (Int × Value)} {t2 : SetTable} {ys : List Str} (g1 : ∀ e ∈ es1.toList, TxtE w e) (p1 : (es1.toList.map txtOf).Perm ys) (n1 : ys.Nodup) (b1 : es1.size < scanBound) (f2 : t2.fits es1.size = true) (r2 : Ris t2.place.toList)
    (l2 : w.params.followText "set-order" = true ∨ t2.led = true) {dm : Bool} {Z : Option Bool → Shared → Prop} (hZ : ∀ h', Heap.SameBut a s.heap h' → TSet w h' a ys → Z (some true) { s with heap := h' }) :
    wpAny (model P w) A (do
        storeSet a es1 t2
        if (!dm && t2.tooFull) = true then do
            g (relayAll t2 es1 (SetTable.grown es1.size)).2.2
            storeSet a (relayAll t2 es1 (SetTable.grown es1.size)).1 (relayAll t2 es1 (SetTable.grown es1.size)).2.1
            pure (some true)
          else pure (some true)) Z E s := by
  refine wpAny_bind (wpAny_storeSet_of ho hd ?_ (fits_of_scanBound b1))
  have ho1 := put_at (es2 := es1) (t2 := t2) ho hd
  have same1 := Heap.SameBut.update s.heap a (Obj.putSet es1 t2)
  split
  · have pm := relayAll_perm t2 es1 (SetTable.grown es1.size)
    have q1 := relayAll_fits t2 es1 (SetTable.grown es1.size)
    have q2 := relayAll_ris t2 es1 (SetTable.grown es1.size)
    have q3 := relayAll_led t2 es1 (SetTable.grown es1.size)
    generalize relayAll t2 es1 (SetTable.grown es1.size) = L at pm q1 q2 q3 ⊢
    obtain ⟨es3, t3, gv⟩ := L
    dsimp only at pm q1 q2 q3 ⊢
    have sz : es3.size = es1.size := by rw [← Array.length_toList, pm.length_eq, Array.length_toList]
    have b3 : es3.size < scanBound := by rw [sz]; exact b1
    refine wpAny_bind (hg _ _ _ ?_)
    refine wpAny_bind (wpAny_storeSet_of ho1 rfl ?_ (fits_of_scanBound b3))
    have ho2 := put_at (es2 := es3) (t2 := t3) ho1 rfl
    refine wpAny_pure (hZ _ (same1.trans (Heap.SameBut.update _ a _)) ⟨_, es3, _, t3, ho2, hx, rfl, fun e he => g1 e (pm.mem_iff.mp he), (pm.map txtOf).trans p1, n1, b3, q1, q2, ?_⟩)
    exact l2.imp id fun z => by rw [q3]; exact z
  · exact wpAny_pure (hZ _ same1 ⟨_, es1, _, t2, ho1, hx, rfl, g1, p1, n1, b1, f2, r2, l2⟩)
theorem tset_add_hashed {x : Str} {tk : Tok} {Z : Bool → Shared → Prop} (R : TSet w s.heap a xs) (room : xs.length + 1 < scanBound)
    (hZ : ∀ b h', Heap.SameBut a s.heap h' → TSet w h' a (if x ∈ xs then xs else x :: xs) → Z b { s with heap := h' }) :
    wpAny (model P w) A (setAddHashed a (.str x tk) ((PySem.strKind P w).hash x)) Z E s := by
  obtain ⟨o, es, ep, t, ho, hx, hd, g, pm0, nd, hb, hf, hr, hl⟩ := R.ex
  have isx : (PySem.strKind P w).is x (.str x tk) = true := strKind_is P w x tk
  have scn : (Value.str x tk).scannable = true := rfl
  have els : ElemsOf (PySem.strKind P w) es.toList := txt_elems g
  have lx : es.size = xs.length := by rw [← Array.length_toList, ← List.length_map (f := txtOf), pm0.length_eq]
  unfold setAddHashed setAddHashedIn
  refine wpAny_holding (wpAny_bind (wpAny_setState_of ho hd hf ?_))
  dsimp only
  rw [byScan_of scn hb els]
  simp only [↓reduceIte]
  unfold setAddByScan
  refine wpAny_bind ?_
  refine wpAny_bind (wpAny_rule ?_)
  refine wpAny_bind (wpAny_setScan_of isx ho hd hf els ?_)
  cases fi : List.findIdx? (fun e => (PySem.strKind P w).is x e.2) es.toList with
  | some j =>
    dsimp only
    obtain ⟨hj, pj, _⟩ := List.findIdx?_eq_some_iff_getElem.mp fi
    have hm : x ∈ xs := by
      refine pm0.mem_iff.mp (List.mem_map.mpr ⟨es.toList[j], List.getElem_mem hj, ?_⟩)
      exact (txt_is (P := P) (g _ (List.getElem_mem hj)) x).mp pj
    refine wpAny_pure (wpAny_pure ?_)
    have q := fun b => hZ b s.heap (Heap.SameBut.refl a s.heap)
    rw [if_pos hm] at q
    exact q _ R
  | none =>
    dsimp only
    have hm : x ∉ xs := fun z => by
      obtain ⟨e, he, q⟩ := List.mem_map.mp (pm0.mem_iff.mpr z)
      have c := List.findIdx?_eq_none_iff.mp fi e he
      rw [(txt_is (P := P) (g e he) x).mpr q] at c
      cases c
    have gv : ∀ (b : Bool) {s1 : Shared} {Y : Unit → Shared → Prop}, Y () s1 → wpAny (model P w) A (match b with | true => rule "set.scan.the-table-gave-way" | false => pure ()) Y E s1 :=
      fun b s1 Y q => by cases b <;> first | exact wpAny_pure q | exact wpAny_rule q
    have pm := layNew_perm t es ((PySem.strKind P w).hash x) (.str x tk)
    have q1 := layNew_fits t es ((PySem.strKind P w).hash x) (.str x tk)
    have q2 := layNew_ris t es ((PySem.strKind P w).hash x) (.str x tk) hr
    have q3 := layNew_led t es ((PySem.strKind P w).hash x) (.str x tk)
    generalize layNew t es ((PySem.strKind P w).hash x) (.str x tk) = L at pm q1 q2 q3 ⊢
    obtain ⟨es1, t1, dm, gave⟩ := L
    dsimp only at pm q1 q2 q3 ⊢
    rw [Array.toList_push] at pm
    have pc : es1.toList.Perm (((PySem.strKind P w).hash x, Value.str x tk) :: es.toList) := pm.trans (List.perm_append_singleton _ _)
    have pk : (es1.toList.map txtOf).Perm (x :: xs) := (pc.map txtOf).trans (List.Perm.cons x pm0)
    have g1 : ∀ e ∈ es1.toList, TxtE w e := fun e he => by
      rcases List.mem_cons.mp (pc.mem_iff.mp he) with z | z
      · rw [z]; exact ⟨x, tk, rfl⟩
      · exact g e z
    have n1 : (x :: xs).Nodup := List.nodup_cons.mpr ⟨hm, nd⟩
    have sz : es1.size = xs.length + 1 := by rw [← Array.length_toList, pc.length_eq, List.length_cons, Array.length_toList, lx]
    have b1 : es1.size < scanBound := by rw [sz]; exact room
    have l1 : w.params.followText "set-order" = true ∨ t1.led = true := hl.imp id fun z => by rw [q3]; exact z
    have fin : ∀ b h', Heap.SameBut a s.heap h' → TSet w h' a (x :: xs) → Z b { s with heap := h' } := fun b h' sb r => by
      have q := hZ b h' sb
      rw [if_neg hm] at q
      exact q r
    refine wpAny_bind (gv _ ?_)
    split
    · refine wpAny_bind ?_
      rw [hashByValue_scannable 8 scn]
      refine wpAny_pure ?_
      refine tset_store ?_ ho hx hd g1 pk n1 b1 ?_ ?_ ?_ ?_
      · intro b s1 Y q; cases b <;> first | exact wpAny_pure q | exact wpAny_rule q
      · first | (split <;> first | exact q1 | exact SetTable.fits_plain_off q1) | exact q1
      · first | (split <;> exact q2) | exact q2
      · first | (split <;> exact l1) | exact l1
      · intro h' sb r; dsimp only; exact wpAny_pure (fin _ h' sb r)
    · refine wpAny_bind (wpAny_pure ?_)
      simp only [↓reduceIte]
      refine tset_store ?_ ho hx hd g1 pk n1 b1 q1 q2 l1 ?_
      · intro b s1 Y q; cases b <;> first | exact wpAny_pure q | exact wpAny_rule q
      · intro h' sb r; dsimp only; exact wpAny_pure (fin _ h' sb r)
theorem TSet.typeIs {s : Shared} (R : TSet w s.heap a xs) : s.TypeIs (.ref a) "set" := by
  obtain ⟨o, es, ep, t, ho, hx, _⟩ := R.ex
  exact ⟨o, ho, hx.1⟩
theorem tset_add {x : Str} {tk : Tok} {Z : Value → Shared → Prop} (R : TSet w s.heap a xs) (room : xs.length + 1 < scanBound)
    (hZ : ∀ h', Heap.SameBut a s.heap h' → TSet w h' a (if x ∈ xs then xs else x :: xs) → Z .none { s with heap := h', toks := s.toks + 1 }) :
    wpAny (model P w) A (call (.builtin "set.add") [.ref a, .str x tk]) Z E s := by
  refine wpAny_call_entry F.slot_set_add R.typeIs F.entry_set_add ?_ (F.args_set_add_2 _ _)
  unfold Builtin.«set.add» Builtin.Frozenset.oneOther
  simp only [List.isEmpty_nil, bind_assoc]
  unfold Builtin.Frozenset.addrOf setAdd
  refine wpAny_bind (wpAny_pure ?_)
  try dsimp only
  refine wpAny_bind (wpAny_pure ?_)
  try dsimp only
  refine wpAny_bind ?_
  refine wpAny_holding ?_
  refine wpAny_bind ((PySem.strKind P w).pyHash (strKind_is P w x tk) ?_)
  refine tset_add_hashed (s := { s with toks := s.toks + 1 }) R room fun b h' sb r => ?_
  show wpAny _ _ (ret Value.none) _ _ _
  exact wpAny_pure ⟨_, rfl, hZ h' sb r⟩
theorem tset_fresh {h : Heap} (w : World) : TSet w (h.push { cls := .type "set", dict := none, data := .set #[] 0 (.fresh 0 0 (!w.params.followText "set-order")) }) h.objs.size [] := by
  refine ⟨_, #[], 0, _, Heap.get?_push_size _ rfl, ⟨rfl, rfl, rfl⟩, rfl, fun e he => by simp at he, List.Perm.refl _, List.nodup_nil, by decide, rfl, List.Pairwise.nil, ?_⟩
  show _ ∨ (!w.params.followText "set-order") = true
  cases w.params.followText "set-order" with
  | false => exact Or.inr rfl
  | true => exact Or.inl rfl
theorem strs_of : ∀ (l : List Value), (∀ v ∈ l, ∃ x tk, v = Value.str x tk) → ∃ ss, StrsAre l ss
  | [], _ => ⟨[], .nil⟩
  | v :: l, h => by
    obtain ⟨x, tk, rfl⟩ := h v List.mem_cons_self
    obtain ⟨ss, q⟩ := strs_of l fun u hu => h u (List.mem_cons_of_mem _ hu)
    exact ⟨x :: ss, .cons x tk q⟩
def strOfV : Value → Str
  | .str x _ => x
  | _ => Str.empty
theorem strs_eq : ∀ {l : List Value} {ss : List Str}, StrsAre l ss → ss = l.map strOfV
  | _, _, .nil => rfl
  | _, _, .cons y t q => by rw [strs_eq q]; rfl
theorem sorted_tset {Z : Value → Shared → Prop} (R : TSet w s.heap a xs) (hh : A.handled = none)
    (hZ : ∀ s' p (out : Array Value) (c : Nat) (ys : List Str), (∀ b o, s.heap.get? b = some o → s'.heap.get? b = some o) → s'.gens = s.gens → s'.os = s.os → s.heap.objs.size ≤ p →
      s'.heap.get? p = some (seqObj "list" out c) → StrsAre out.toList ys → ys.Perm xs → sortedS ys = true → Z (.ref p) s') :
    wpAny (model P w) A (call (.builtin "sorted") [.ref a]) Z E s := by
  obtain ⟨o, es, ep, t, ho, hx, hd, g, pm0, nd, hb, hf, hr, hl⟩ := R.ex
  have lx : es.size = xs.length := by rw [← Array.length_toList, ← List.length_map (f := txtOf), pm0.length_eq]
  refine Calls.call_function_entry kind_sorted plain_sorted entry_sorted (args_sorted1 _) ?_
  unfold Builtin.«sorted»
  refine wpAny_bind (m := checkCount "sorted" 1 1 _) (wpAny_pure ?_)
  refine wpAny_bind (collect_set (A := A.in1) hh ⟨o, ho, hx.1, hd⟩ hf hb hr hl fun s1 vs k1 hz g1 o1 pm => ?_)
  have lv : vs.length = es.size := by rw [pm.length_eq, List.length_map, Array.length_toList]
  have lvs : vs.length ≤ sizeLine := by rw [lv]; exact fits_of_scanBound hb
  obtain ⟨ss, hS⟩ := strs_of vs fun v hv => by
    obtain ⟨e, he, q⟩ := List.mem_map.mp (pm.mem_iff.mp hv)
    obtain ⟨x, tk, h1⟩ := g e he
    exact ⟨x, tk, by rw [← q, h1]⟩
  have pk : ss.Perm xs := by
    rw [strs_eq hS]
    have q := pm.map strOfV
    rw [List.map_map] at q
    refine q.trans (List.Perm.trans (List.Perm.of_eq ?_) pm0)
    refine List.map_congr_left fun e _ => ?_
    show strOfV e.2 = txtOf e
    unfold strOfV txtOf
    cases e.2 <;> rfl
  refine wpAny_bind (wpAny_newList ?_ lvs)
  have hoL : (s1.heap.push (seqObj "list" vs.toArray 0)).get? s1.heap.objs.size = some (seqObj "list" vs.toArray 0) := Heap.get?_push_size _ rfl
  refine wpAny_bind (wpAny_holding (wpAny_call_entry slot_list_sort ⟨_, hoL, rfl⟩ entry_list_sort
    (list_sort_treeKAny strKind_oneLt hoL hS.keysOf (fun v1 v2 rest e => keyKind_strs (by rw [← e]; exact hS)) lvs fun st' a1 a2 => ⟨_, rfl, ?_⟩) (args_list_sort _)))
  obtain ⟨ys, h1, h2, h3⟩ := sorted_out_str hS a1 a2
  obtain ⟨c, hc⟩ := sortedHeap_at (vs := vs) (out := (arrOf st').map (·.2)) hoL
  refine wpAny_pure ⟨_, rfl, hZ _ s1.heap.objs.size _ c ys (fun b u e => ?_) g1 o1 hz hc h1 (h2.trans pk) h3⟩
  have q := k1 b u e
  have hlt := Heap.lt_size q
  show (sortedHeap (s1.heap.push (seqObj "list" vs.toArray 0)) s1.heap.objs.size vs _).get? b = some u
  rw [sortedHeap_old (Nat.ne_of_lt hlt) (by rw [size_push']; exact Nat.lt_succ_of_lt hlt)]
  exact Heap.get?_push_of_some _ q
end
def TSO (w : World) (a : Addr) (xs : List Str) : HO := .ext fun h => TSet w h a xs
theorem tso_new {w : World} {P : Program} {H : Hp} {h : Heap} {a : Addr} {xs : List Str} (R : TSet w h a xs) : ObjOk P w H h a (TSO w a xs) := by
  obtain ⟨o, _, _, _, ho, _⟩ := R.ex
  exact ⟨R, ⟨o, ho⟩, fun h1 h2 p k => TSet.at p k⟩
section
variable {X : Cx}
theorem tso_get {pins : List (Addr × Obj)} {σ : L2.St} {H : Hp} {s : Shared} {a : Addr} {xs : List Str} (I : Inv X pins σ H s) (ha : H a = some (TSO X.w a xs)) : TSet X.w s.heap a xs := (I.hok a _ ha).1
theorem tso_add {pins : List (Addr × Obj)} {σ : L2.St} {H : Hp} {s : Shared} {E : Value → Shared → Prop} {D : Addr} {xs : List Str} {x : Str} {tk : Tok} {Q : Value → Shared → Prop} (I : Inv X pins σ H s) (hD : H D = some (TSO X.w D xs)) (room : xs.length + 1 < scanBound)
    (h : ∀ s', Inv X pins σ (upd H D (TSO X.w D (if x ∈ xs then xs else x :: xs))) s' → Q .none s') : wpAny (model X.prog X.w) X.A (call (.builtin "set.add") [.ref D, .str x tk]) Q E s := by
  refine tset_add (tso_get I hD) room fun h' sb new => ?_
  obtain ⟨o, _, _, _, ho, _⟩ := new.ex
  exact h _ (I.write (e := D) (t' := s.toks + 1) (by rw [hD]; trivial) (.inl rfl) (fun b u hb hu => (sb.2 b hb).trans hu) ⟨o, ho⟩ (tso_new new))
def rSortedT (w : World) : List V → Hp → VK → Prop := fun vs H Q => ∃ (a : Addr) (xs : List Str), vs = [V.ref a] ∧ H a = some (TSO w a xs) ∧ xs.length ≤ 100000 ∧
  ∀ (ys : List Str) (p : Addr), ys.Perm xs → sortedS ys = true → H p = none → Q (.ref p) (upd H p (.lst (ys.map V.str)))
theorem cr_sortedT (hc : X.calm = true) : CallR X (.builtin "sorted") (rSortedT X.w) := by
  intro pins s σ H vs us Q I r h
  obtain ⟨a, xs, rfl, ha, hlen, q⟩ := h
  rw [Vals.ref1 r]
  refine sorted_tset (tso_get I ha) (I.ok.hd hc) fun s' p out c ys k g o hp hg hi hs hm => ?_
  have hn : H p = none := I.hok.fresh hp
  have hl : (ys.map V.str).length ≤ sizeLine := Evl.sz_of (by rw [List.length_map, hs.length_eq]; exact hlen)
  have J : Inv X pins σ (upd H p (.lst (ys.map V.str))) { s with heap := s'.heap, gens := s'.gens, drawn := s'.drawn, toks := s'.toks } :=
    I.call (ch := []) (Un.laid k hp hn) (I.hok.laid k hp ⟨hl, out.toList, c, vals_of_strs hi, hg⟩) (by rw [g]; exact I.bare) (fun _ z => nomatch z)
  have e : s' = { s with heap := s'.heap, gens := s'.gens, drawn := s'.drawn, toks := s'.toks } := by
    cases s'
    cases s
    cases o
    rfl
  rw [e]
  exact ⟨.ref p, _, J, rfl, q ys p hs hm hn⟩
def tScT (w : World) (wi : TI) (g : TG) (tt : TT) (te : TE) (vs : List Nat) : TE := fun σ H Q => wi σ H fun J H1 => ∀ D, H1 D = none → ∃ W : Nat → Nat → Hp → Prop, (∃ m, W 0 m (upd H1 D (TSO w D []))) ∧ ∀ i m H, W i m H →
  (J.stop i H ∧ Q (.ref D) H) ∨ (J.go i H ∧ ∃ Nx : Hp → Prop, (∀ H', Nx H' → ∃ m', m' < m ∧ W (i + 1) m' H') ∧ ∀ x H', J.yld i H x H' → g x (wipe σ vs) H' fun σ2 H2 => wipe σ2 vs = wipe σ vs ∧ tt σ2 H2 fun b H3 =>
    if b = true then te σ2 H3 fun y H4 => ∃ (c : Str) (xs : List Str), y = .str c ∧ H4 D = some (TSO w D xs) ∧ xs.length + 1 < scanBound ∧ Nx (upd H4 D (TSO w D (if c ∈ xs then xs else c :: xs))) else Nx H3)
section
variable {pins : List (Addr × Obj)} {s : Shared} {σ : L2.St} {H : Hp} {Q : VK} {elt tg iter : Expr} {ifs : List Expr} {scope : Scope} {own : List (PySem.Str × Nat)} {pos pos' : Pos} {wi : TI} {g : TG} {tt : TT} {te : TE}
theorem scT_core {use : Option (Value → Sem Unit)} {Qf : Value → Shared → Prop} (hc : X.calm = true) (hN : X.N.Nodup) (I : Inv X pins σ H s) (hi : PI X tg iter wi) (ok : BlkOk X.N X.env.scope scope own)
    (hg : ∀ (s : Shared) (H : Hp) (C : Addr) (cl : List (PySem.Str × Addr)) (fp : List Addr), PG (X.blk s H scope (compEnvC scope cl C X.env) fp) tg g)
    (ht : ∀ (s : Shared) (H : Hp) (C : Addr) (cl : List (PySem.Str × Addr)) (fp : List Addr), PTs (X.blk s H scope (compEnvC scope cl C X.env) fp) ifs tt)
    (he : ∀ (s : Shared) (H : Hp) (C : Addr) (cl : List (PySem.Str × Addr)) (fp : List Addr), PE (X.blk s H scope (compEnvC scope cl C X.env) fp) elt te)
    (hs : ∀ x, foldedSetIterable iter X.env x = pure x) (h : tScT X.w wi g tt te (own.map (·.2)) σ H Q)
    (hE : ∀ D C s1 m H1, Inv X pins σ H1 s1 → Q (.ref D) H1 → s1.heap.Ns C m → FpOk X pins H1 C → compPost (model X.prog X.w) X.A X.xe use Qf (.ref D) C (.ok .next) s1) :
    wpAny (model X.prog X.w) X.A (comprehension (.SetComp elt [⟨tg, iter, ifs, 0⟩] scope pos) scope X.env pos' (newSet (.type "set")) false (eval iter X.env) use) Qf X.xe s := by
  have free1 : ∀ y ∈ scope.names, y.2 = .free → ∃ c, X.env.cells.lookup y.1 = some c := fun y hy e =>
    (ok.free y hy e).elim (fun k => I.ok.has _ (.inl k)) (fun k => I.ok.has _ (.inr k))
  refine wpAny_comprehension_free (use := use) rfl hs (closure_ok free1) ok.kind (fun y hy e => by rw [ok.uniq y hy, e]) (thn (hi.run pins s σ H _ I h) fun xv s1 hx => thn hx fun itv s2 h2 => ?_)
  obtain ⟨it, fp, tn, J, H2, ei, I2, T, st2, f2, q⟩ := h2
  subst ei
  refine PpSet.newSet_ok (newEnv_comp ?_)
  generalize hD : s2.heap.objs.size = D
  have nD : H2 D = none := I2.hok.fresh (Nat.le_of_eq hD)
  obtain ⟨W, ⟨m0, w0⟩, turn⟩ := q D nD
  generalize e3 : ({ s2 with heap := s2.heap.push { cls := .type "set", dict := none, data := .set #[] 0 (.fresh 0 0 (!X.w.params.followText "set-order")) } } : Shared) = s3
  have I3 : Inv X pins σ (upd H2 D (TSO X.w D [])) s3 := by
    rw [← e3]
    refine I2.laid (t' := s2.toks) (fun b o e => Heap.get?_push_of_some _ e) (Nat.le_of_eq hD) ?_
    rw [← hD]
    exact tso_new (tset_fresh X.w)
  have p3 : s3.heap = s2.heap.push { cls := .type "set", dict := none, data := .set #[] 0 (.fresh 0 0 (!X.w.params.followText "set-order")) } := by rw [← e3]
  have lt2 : ∀ b ∈ fp, b < s2.heap.objs.size := fun b hb => let ⟨_, e, _⟩ := T.obj _ _ st2 b hb; Heap.lt_size e
  have f3 : ∀ b ∈ fp, FpOk X pins (upd H2 D (TSO X.w D [])) b ∧ b < s3.heap.objs.size := fun b hb =>
    ⟨⟨by rw [upd_ne (by rw [← hD]; exact Nat.ne_of_lt (lt2 b hb))]; exact (f2 b hb).1, (f2 b hb).2⟩, by rw [p3, Heap.size_push]; exact Nat.lt_succ_of_lt (lt2 b hb)⟩
  have st3 : tn 0 s3.heap := T.keep _ _ _ st2 fun b _ o e => by rw [p3]; exact Heap.get?_push_of_some _ e
  have I4 := block_start I3 ok hN f3
  have pg := hg s3 (upd H2 D (TSO X.w D [])) s3.heap.objs.size (cellsFrom (s3.heap.objs.size + 1) scope.names (cloFrom X.env.cells scope.names [])) fp
  have pt := ht s3 (upd H2 D (TSO X.w D [])) s3.heap.objs.size (cellsFrom (s3.heap.objs.size + 1) scope.names (cloFrom X.env.cells scope.names [])) fp
  have pe := he s3 (upd H2 D (TSO X.w D [])) s3.heap.objs.size (cellsFrom (s3.heap.objs.size + 1) scope.names (cloFrom X.env.cells scope.names [])) fp
  show codeAny _ _ (.compStart (.SetComp elt [⟨tg, iter, ifs, 0⟩] scope pos) 0 (.ref it) (.ref D) (compEnvC scope (cellsFrom (s3.heap.objs.size + 1) scope.names (cloFrom X.env.cells scope.names [])) s3.heap.objs.size X.env))
    (compPost (model X.prog X.w) X.A X.xe use Qf (.ref D) s3.heap.objs.size) { s3 with heap := pushCells (s3.heap.push { cls := .type "dict", data := .dict #[] }) scope.names }
  have n3 : ∀ b ∈ fp, (upd H2 D (TSO X.w D [])) b = none := fun b hb => (f3 b hb).1.1
  generalize hce : compEnvC scope (cellsFrom (s3.heap.objs.size + 1) scope.names (cloFrom X.env.cells scope.names [])) s3.heap.objs.size X.env = ce at I4 pg pt pe ⊢
  have cL : ce.locals = s3.heap.objs.size := by
    subst hce
    rfl
  generalize hH3 : upd H2 D (TSO X.w D []) = H3 at I3 I4 pg pt pe w0 n3 f3
  generalize e4 : ({ s3 with heap := pushCells (s3.heap.push { cls := .type "dict", data := .dict #[] }) scope.names } : Shared) = s4 at I4 ⊢
  have st4 : tn 0 s4.heap := T.keep _ _ _ st3 fun b _ o e => by rw [← e4]; exact pushCells_keeps _ _ _ _ (Heap.get?_push_of_some _ e)
  have stat : ∀ {σ1 : L2.St} {H1 : Hp} {s1 : Shared}, Inv (X.blk s3 H3 scope ce fp) [] σ1 H1 s1 → (∀ b ∈ fp, H1 b = none) → ∀ b ∈ fp, FpOk (X.blk s3 H3 scope ce fp) [] H1 b := fun I1 hn b hb =>
    ⟨hn b hb, (I1.ok.exf b hb).1, I1.ok.exfs b hb, .inl hb, fun x c e => (I1.ok.exf b hb).2 x c e, fun p hp => absurd (show p ∈ ([] : List (Addr × Obj)) ++ [] from hp) (by simp)⟩
  have loop : codeAny (model X.prog X.w) X.A (.compLoop (.SetComp elt [⟨tg, iter, ifs, 0⟩] scope pos) 0 (.ref it) (.ref D) ce) (compPost (model X.prog X.w) X.A X.xe use Qf (.ref D) s3.heap.objs.size) s4 := by
    refine PpSet.compLoopS_any (fun n s1 => ∃ i H1, Inv (X.blk s3 H3 scope ce fp) [] (wipe σ (own.map (·.2))) H1 s1 ∧ tn i s1.heap ∧ (∀ b ∈ fp, H1 b = none) ∧ W i n H1) ?_ m0 ⟨0, H3, I4, st4, n3, w0⟩
    rintro n s5 ⟨i, H5, I5, st5, n5, w5⟩
    rcases turn i n H5 w5 with ⟨stop, qq⟩ | ⟨go, Nx, hNx, step⟩
    · refine thnF (T.done (X.blk s3 H3 scope ce fp) rfl rfl rfl hc i [] s5 _ H5 (fun _ _ => False) I5 (stat I5 n5) st5 stop) fun r s6 ⟨hr, I6⟩ => ?_
      subst hr
      have I7 : Inv X pins σ H5 s6 := I3.call' (ch := fp) I6.os I6.base I6.hok I6.bare fun b hb => ⟨(f3 b hb).1.2.2.2.1, (f3 b hb).1.2.1, (f3 b hb).1.2.2.2.2.1, (f3 b hb).1.2.2.2.2.2⟩
      have nC : H5 ce.locals = none := I6.free
      obtain ⟨m, hn, _⟩ := I6.loc
      have hn1 : s6.heap.Ns ce.locals m := hn
      rw [cL] at hn1 nC
      exact hE D s3.heap.objs.size s6 m H5 I7 qq hn1 (I3.fpOk (Nat.le_refl _) nC)
    · refine thnF (T.item (X.blk s3 H3 scope ce fp) rfl rfl rfl hc i [] s5 _ H5 (fun _ _ => False) I5 (stat I5 n5) st5 go) fun r s6 ⟨u, hr, h6⟩ => ?_
      subst hr
      refine thnF h6 fun _ s7 ⟨x, H7, I7, r7, y7, st7, n7⟩ => ?_
      refine thnF (pg.run _ s7 _ H7 x u _ (I7.pinned (stat I7 n7) (T.obj _ _ st7)) r7 (step x H7 y7)) fun _ s8 ⟨σ8, H8, I8, hw8, q8⟩ => ?_
      refine thnF (pt.run _ s8 σ8 H8 _ I8 q8) fun b s9 ⟨H9, I9, q9⟩ => ?_
      have fin : ∀ {s1 : Shared} {H1 : Hp}, Inv (X.blk s3 H3 scope ce fp) ([] ++ pinsAt fp s7.heap) σ8 H1 s1 → Nx H1 → ∃ m, m < n ∧ ∃ i H1, Inv (X.blk s3 H3 scope ce fp) [] (wipe σ (own.map (·.2))) H1 s1 ∧ tn i s1.heap ∧ (∀ b ∈ fp, H1 b = none) ∧ W i m H1 := fun {s1 H1} I1 nx => by
        obtain ⟨m1, hm, w1⟩ := hNx H1 nx
        have pin1 : ∀ b ∈ fp, ∀ o, s7.heap.get? b = some o → s1.heap.get? b = some o ∧ H1 b = none := fun b hb o e =>
          let z := I1.pin (b, o) (List.mem_append_right _ (List.mem_append_right _ (mem_pinsAt hb e)))
          ⟨z.1, z.2.1⟩
        have hl : (wipe σ (own.map (·.2))).length = σ8.length := by rw [← hw8, wipe_length]
        refine ⟨m1, hm, i + 1, H1, (I1.unpinned (pins := [])).weak hl (fun j v e => (wipe_some (by rw [← hw8] at e; exact e)).1), T.keep _ _ _ st7 fun b hb o e => (pin1 b hb o e).1, fun b hb => ?_, w1⟩
        obtain ⟨o, e, _⟩ := T.obj _ _ st7 b hb
        exact (pin1 b hb o e).2
      cases b with
      | false =>
        simp only [Bool.false_eq_true, if_false] at q9 ⊢
        exact fin I9 q9
      | true =>
        simp only [if_true] at q9 ⊢
        refine thnF (pe.run _ s9 σ8 H9 _ I9 q9) fun z s10 ⟨yv, H10, I10, r10, cx, xs0, ey, hD10, hz10, nx⟩ => ?_
        subst ey
        obtain ⟨tk, rfl⟩ := (show ∃ t, z = Value.str cx t from r10)
        exact tso_add (X := X.blk s3 H3 scope ce fp) I10 hD10 hz10 fun s11 I11 => fin I11 nx
  exact PpSet.codeAny_compStart_set loop (T.self X.A 0 _ _ _ st4 loop)
theorem pe_scT (hc : X.calm = true) (hN : X.N.Nodup) (hi : PI X tg iter wi) (ok : BlkOk X.N X.env.scope scope own)
    (hg : ∀ (s : Shared) (H : Hp) (C : Addr) (cl : List (PySem.Str × Addr)) (fp : List Addr), PG (X.blk s H scope (compEnvC scope cl C X.env) fp) tg g)
    (ht : ∀ (s : Shared) (H : Hp) (C : Addr) (cl : List (PySem.Str × Addr)) (fp : List Addr), PTs (X.blk s H scope (compEnvC scope cl C X.env) fp) ifs tt)
    (he : ∀ (s : Shared) (H : Hp) (C : Addr) (cl : List (PySem.Str × Addr)) (fp : List Addr), PE (X.blk s H scope (compEnvC scope cl C X.env) fp) elt te)
    (hs : ∀ x, foldedSetIterable iter X.env x = pure x := by intro _; rfl) :
    PE X (.SetComp elt [⟨tg, iter, ifs, 0⟩] scope pos) (tScT X.w wi g tt te (own.map (·.2))) := by
  refine ⟨fun pins s σ H Q I h => ?_⟩
  rw [PpSet.eval_SetComp]
  refine scT_core hc hN I hi ok hg ht he hs h fun D C s1 m H1 I1 q hn f => ⟨m, hn, fun h2 sb => ?_⟩
  obtain ⟨f0, f1, f2, f3, f4, f5⟩ := f
  exact ⟨.ref D, H1, I1.turned (t' := s1.toks) (fun b o hb e => (sb.2 b hb).trans e) f0 f1 f3 f4 f5, rfl, q⟩
end
end
end Mc
namespace Mc
open PySem PySem.Spec PyProof.Rows L2 Evl
section
variable {M : Mode} {δ : Ds} {ta tb te tx : TE} {t u : TT} {d e f : Dt} {P : Dt → Prop} {ds es : List Dt}
theorem one_of {K : PySem.W.Frag} {H : Hp} {vs : List V} (h : RpA K H [d] vs) : ∃ v, vs = [v] ∧ Rp K H d v := by
  obtain ⟨v, r, h1, h2, h3⟩ := h
  have e : r = [] := h3
  rw [e] at h1
  exact ⟨v, h1, h2⟩
def seqD : Dt → Option (List Dt)
  | .lst ds => some ds
  | .tup ds => some ds
  | _ => none
theorem rc_int {i : Int} : RCD M (fun xs H Q => (∃ i, xs = [.int i] ∧ Q (.int i) H) ∨ ∃ k, xs = [.bl k] ∧ Q (.int (if k then 1 else 0)) H) [.int i] (.int i) := fun N n vs H j r Q q => by
  obtain ⟨v, rfl, h⟩ := one_of r
  exact .inl ⟨i, by rw [show v = .int i from h], q _ _ H rfl Mode.Le.refl j rfl⟩
theorem rc_abs {i : Int} : RCD M (fun xs H Q => ∃ i, xs = [.int i] ∧ Q (.int (if i < 0 then -i else i)) H) [.int i] (.int (if i < 0 then -i else i)) := fun N n vs H j r Q q => by
  obtain ⟨v, rfl, h⟩ := one_of r
  exact ⟨i, by rw [show v = .int i from h], q _ _ H rfl Mode.Le.refl j rfl⟩
theorem at_rp {K : PySem.W.Frag} {H : Hp} {xs : List V} {i : Int} (h : RpA K H ds xs) (hi : atI ds i = some f) : ∃ v, atI xs i = some v ∧ Rp K H f v := by
  unfold atI at hi ⊢
  rw [h.length]
  cases hk : ixN ds.length i with
  | none =>
    rw [hk] at hi
    cases hi
  | some k =>
    rw [hk] at hi
    exact h.get' (i := k) hi
def cutD (ds : List Dt) (lo hi : Option Int) : List Dt := (ds.drop (HT.sIx ds.length 0 lo)).take (HT.sIx ds.length ds.length hi - HT.sIx ds.length 0 lo)
theorem cut_rp {K : PySem.W.Frag} {H : Hp} {xs : List V} {lo hi : Option Int} (h : RpA K H ds xs) : RpA K H (cutD ds lo hi) (cutV xs lo hi) := by
  unfold cutD cutV
  rw [h.length]
  exact h.drop.take
theorem rd_catA (hl : ds.length + es.length ≤ 100000) : R2D M (rCatN M.K) (.tup ds) (.tup es) (.tup (ds ++ es)) := fun N n x y H j hx hy Q q => by
  obtain ⟨a, xs, rfl, h2, h3⟩ := hx
  obtain ⟨b, ys, rfl, k2, k3⟩ := hy
  have hr := h3.append k3
  refine ⟨a, b, xs, ys, rfl, rfl, by rw [← n.k]; exact ex_t (cut_le _ _) h2.1, by rw [← n.k]; exact ex_t (cut_le _ _) k2.1, sz_of (by rw [h3.length, k3.length]; exact hl), fun e => ?_, fun _ e => ?_, fun _ _ p b hp hb => ?_⟩
  · subst e
    have e : ds = [] := List.length_eq_zero_iff.mp (by rw [← h3.length]; rfl)
    subst e
    exact q _ _ H rfl Mode.Le.refl j ⟨b, ys, rfl, k2, k3⟩
  · subst e
    have e : es = [] := List.length_eq_zero_iff.mp (by rw [← k3.length]; rfl)
    subst e
    exact q _ _ H rfl Mode.Le.refl j (by rw [List.append_nil]; exact ⟨a, xs, rfl, h2, h3⟩)
  · obtain ⟨ex, j4, r4⟩ := n.ok.newT j hp hb hr
    exact q _ _ _ rfl (N.le ex) j4 r4
mutual
def pyD : Dt → PyData
  | .non => .none
  | .bl b => .bool b
  | .int i => .int i
  | .str x => .str x
  | .lst ds => .list (pyDs ds)
  | .tup ds => .tuple (pyDs ds)
  | _ => .none
def pyDs : List Dt → List PyData
  | [] => []
  | d :: ds => pyD d :: pyDs ds
end
mutual
def plainD : Dt → Bool
  | .non => true
  | .bl _ => true
  | .int _ => true
  | .str _ => true
  | .lst ds => plainDs ds
  | .tup ds => plainDs ds
  | _ => false
def plainDs : List Dt → Bool
  | [] => true
  | d :: ds => plainD d && plainDs ds
end
mutual
theorem dp_of {K : PySem.W.Frag} {H H' : Hp} (e : Ex H H') : ∀ {d : Dt} {v : V}, plainD d = true → Rp K H d v → Dp K H' v (pyD d)
  | .non, _, _, h => by rw [show _ = V.non from h]; exact .non
  | .bl b, _, _, h => by rw [show _ = V.bl b from h]; exact .bl b
  | .int i, _, _, h => by rw [show _ = V.int i from h]; exact .int i
  | .str x, _, _, h => by rw [show _ = V.str x from h]; exact .str x
  | .lst ds, _, p, ⟨a, xs, h1, h2, h3⟩ => by rw [h1]; exact .lst (sq_of (e _ _ h2)) (dp_all e p h3)
  | .tup ds, _, p, ⟨a, xs, h1, h2, h3⟩ => by rw [h1]; exact .tup (ex_t e h2.1) (dp_all e p h3)
  | .ty _, _, p, _ => nomatch p
  | .ptr _, _, p, _ => nomatch p
  | .obj _ _, _, p, _ => nomatch p
  | .slf _ _ _, _, p, _ => nomatch p
theorem dp_all {K : PySem.W.Frag} {H H' : Hp} (e : Ex H H') : ∀ {ds : List Dt} {vs : List V}, plainDs ds = true → RpA K H ds vs → DpAll K H' vs (pyDs ds)
  | [], _, _, h => by rw [show _ = [] from h]; exact .nil
  | d :: ds, _, p, ⟨v, r, h1, h2, h3⟩ => by
    have p' : plainD d = true ∧ plainDs ds = true := by simpa [plainDs] using p
    rw [h1]
    exact .cons (dp_of e p'.1 h2) (dp_all e p'.2 h3)
end
def flatD : Dt → Option V
  | .non => some .non
  | .bl b => some (.bl b)
  | .int i => some (.int i)
  | .str x => some (.str x)
  | _ => none
theorem flat_v {N : Mode} {H : Hp} {v w : V} (h : flatD d = some w) (r : N.R H d v) : v = w ∧ flatV v = true := by
  cases d <;> simp only [flatD, Option.some.injEq, reduceCtorEq] at h
  all_goals (subst h; refine ⟨r, ?_⟩; rw [show v = _ from r]; rfl)
end
end Mc
namespace Mc
open PySem PySem.Spec PyProof.Rows L2 Evl
section
variable {X : Cx} {tg : Expr}
theorem one_it {pins : List (Addr × Obj)} {σ : L2.St} {H1 : Hp} {s1 : Shared} (I1 : Inv X pins σ H1 s1) : ∀ b ∈ [s1.heap.objs.size], FpOk X pins H1 b := fun b hb => by
  rw [List.mem_singleton.mp hb]
  exact I1.fpOk (Nat.le_refl _) (I1.hok.fresh (Nat.le_refl _))
end
set_option maxHeartbeats 4000000 in
theorem meets_enum1 {v : Value} {o : Obj} {G : Heap → Prop} (B : Begins v o G) :
    Meets (Builtin.«enumerate.__new__» ⟨[.type "enumerate", v], []⟩) (fun _ R s => G s.heap ∧
      R (.ok (.ret (.ref (s.heap.push o).objs.size))) { s with heap := (s.heap.push o).push { cls := .type "enumerate", data := .fields #[.none, .bool false, .ref s.heap.objs.size, rawInt 0, .none, .none] } }) :=
  .of_wp fun prog w A R s h => by
    obtain ⟨hp, g, d, tk, os⟩ := s
    obtain ⟨h1, h⟩ := h
    have hsub := sub_enumerate
    have q1 : ∀ {A1 : Around} {E : Value → Shared → Prop} {Q : Value → Shared → Prop}, Q (.ref hp.objs.size) ⟨hp.push o, g, d, tk, os⟩ → wpAny (model prog w) A1 (pyIter v) Q E ⟨hp, g, d, tk, os⟩ :=
      fun q => B.iter prog w _ _ ⟨hp, g, d, tk, os⟩ _ h1 q
    wp_walk using q1
    refine wpAny_stack_any fun st => wpAny_pure ?_
    split
    · rename_i c _ _ _ _ _
      cases (c == Value.type "enumerate") <;> (wp_walk using q1; exact ⟨_, rfl, h⟩)
    · wp_walk using q1
      exact ⟨_, rfl, h⟩
theorem enum1_begins {prog : Program} {w : World} {A : Around} {E : Value → Shared → Prop} {s : Shared} {v : Value} {o : Obj} {G : Heap → Prop} {Q : Value → Shared → Prop} (B : Begins v o G) (h1 : G s.heap)
    (h : ∀ h2, IsEnum h2 (s.heap.objs.size + 1) s.heap.objs.size 0 .none → h2.get? s.heap.objs.size = some o → (∀ b o, s.heap.get? b = some o → h2.get? b = some o) → Q (.ref (s.heap.objs.size + 1)) { s with heap := h2 }) :
    wpAny (model prog w) A (call (.type "enumerate") [v]) Q E s := by
  refine callType_new F.called_enumerate (by decide) (F.typeCall_enumerate_1 _) (F.newCall_enumerate_1 _) (fun obj => F.args_object_init_2 obj _) F.entry_enumerate_new (meets_enum1 B) ⟨h1, ?_⟩
  have hz : (s.heap.push o).objs.size = s.heap.objs.size + 1 := Heap.size_push ..
  show _ ∧ _
  rw [hz]
  have he : IsEnum ((s.heap.push o).push { cls := .type "enumerate", data := .fields #[.none, .bool false, .ref s.heap.objs.size, rawInt 0, .none, .none] }) (s.heap.objs.size + 1) s.heap.objs.size 0 .none := by
    have z := Heap.get?_push_size (s.heap.push o) (o := { cls := .type "enumerate", data := .fields #[.none, .bool false, .ref s.heap.objs.size, rawInt 0, .none, .none] }) rfl
    rwa [hz] at z
  exact ⟨⟨_, he, rfl⟩, h _ he (Heap.get?_push_of_some _ (Heap.get?_push_size _ B.free)) fun b u x => Heap.get?_push_of_some _ (Heap.get?_push_of_some _ x)⟩
theorem wpAny_pyNext_enumT_end {prog : Program} {w : World} {A : Around} {E : Value → Shared → Prop} {s : Shared} {e it t : Addr} {i : Nat} {k : Int} {items : Array Value} {old : Value} {Q : Option Value → Shared → Prop} (hh : A.handled = none)
    (he : IsEnum s.heap e it k old) (hit : s.heap.IsTupleIter it t i) (ht : s.heap.IsTuple t items) (hx : items[i]? = none)
    (hQ : ∀ h2, Heap.ExtBut it s.heap h2 → Q none { s with heap := h2 }) : wpAny (model prog w) A (pyNext (.ref e)) Q E s := by
  have hT : s.TypeIs (.ref e) "enumerate" := ⟨_, he, rfl⟩
  unfold pyNext
  refine wpAny_bind (wpAny_attempt (wpAny_callSpecial?_slot (name := Str.ofString "__next__") hT F.slot_enumerate_next (wpAny_call_entry F.slot_enumerate_next hT F.entry_enumerate_next ?_ (F.args_enumerate_next_1 _))))
  show wpAny _ _ (field (.ref e) 2 >>= _) _ _ _
  refine wpAny_bind (wpAny_field he rfl (x := .ref it) rfl (wpAny_bind (wpAny_nextOf_tuple_end (A := A.in1) hh hit ht hx fun h2 x e2 ⟨o, ho, hc⟩ => ?_)))
  exact wpAny_bind (wpAny_isInstance (T := "StopIteration") (b := true) ⟨o, ho, hc⟩ isSubtype_stop (wpAny_pure (hQ _ e2)))
def Itet (K : PySem.W.Frag) (a : Addr) : It :=
  ⟨fun i H => ∃ (xs : List V) (x : V), SqT K H a xs ∧ xs[i]? = some x, fun i H v H' => ∃ T x, v = .ref T ∧ H T = none ∧ H' = upd H T (.tup [.int (i : Nat), x]) ∧ ∀ xs, SqT K H a xs → xs[i]? = some x, fun i H => ∃ xs : List V, SqT K H a xs ∧ xs.length ≤ i⟩
theorem turn_enumT {P : Program} {w : World} {K : PySem.W.Frag} {elts : List Expr} {kk : Nat} {tpos : Pos} (a e it : Addr) (items : Array Value) (hat : a ≠ it) :
    Turn P w K (.Tuple elts kk tpos) (Itet K a) [e, it] e (fun i h => (∃ old, IsEnum h e it ((i : Nat) : Int) old) ∧ h.IsTupleIter it a i ∧ e ≠ it ∧ e ≠ a) where
  mem := by simp
  obj := fun i h st b hb => by
    obtain ⟨⟨old, he⟩, ⟨o, ho, hc, hd⟩, _⟩ := st
    rcases (show b = e ∨ b = it by simpa using hb) with z | z
    · rw [z]; exact ⟨_, he, fun v q => nomatch q⟩
    · rw [z]; exact ⟨o, ho, fun v q => by rw [hd] at q; cases q⟩
  keep := fun i h h2 st k => let ⟨⟨old, he⟩, hi, hne⟩ := st; ⟨⟨old, k e (by simp) _ he⟩, hi.at fun o q => k it (by simp) o q, hne⟩
  item := by
    intro X hP hw hK hc i pins s σ H E I hf st hg
    subst hP hw hK
    obtain ⟨⟨old, he⟩, hit, hne, hea⟩ := st
    obtain ⟨xs, x, hq, hx⟩ := hg
    obtain ⟨its, rv, p, hz⟩ := I.tuple hq
    obtain ⟨u, hu, ru⟩ := rv.get hx
    have hel : e < s.heap.objs.size := Heap.lt_size he
    have hil : it < s.heap.objs.size := by obtain ⟨_, q, _⟩ := hit; exact Heap.lt_size q
    have D := Draws.tuple (prog := X.prog) (w := X.w) (A := X.A.in1) (show X.A.in1.handled = none from I.ok.hd hc) it a hat its.toArray
    have hlt : i < its.toArray.size := by
      rw [List.size_toArray]
      exact (List.getElem?_eq_some_iff.mp hu).1
    refine wpAny_pyNext_enum_itemD D he ⟨hit, p⟩ hlt hne (by simp [hne, hea]) fun y h2 tk hP hout hst hT hsz hk => ?_
    have ey : y = u := by
      have z : its.toArray[i]? = some y := hP
      rw [List.getElem?_toArray, hu] at z
      exact (Option.some.inj z).symm
    subst ey
    refine ⟨_, rfl, wpAny_letOwnedTupleGo_enum (s := { s with heap := h2, toks := tk + 1 }) hout fun h3 he3 sb => ?_⟩
    have hT3 : h3.get? s.heap.objs.size = some { cls := .type "tuple", data := .seq #[.int i tk, y] } := (sb.2 _ (Nat.ne_of_gt hel)).trans hT
    have new : ObjOk X.prog X.w (upd H s.heap.objs.size (.tup [.int (i : Nat), x])) h3 s.heap.objs.size (.tup [.int (i : Nat), x]) :=
      ⟨by show 2 ≤ sizeLine; decide, [.int i tk, y], .cons ⟨_, rfl⟩ (.cons ru .nil), ⟨_, hT3, rfl, _, rfl⟩⟩
    have I1 : Inv X pins σ (upd H s.heap.objs.size (.tup [.int (i : Nat), x])) { s with heap := h3, toks := tk + 1 } :=
      I.turnedNew (ch := [e, it]) (fun b ob hb q => (sb.2 b (fun z => hb (by simp [z]))).trans (hk b ob (fun z => hb (by simp [z])) (fun z => hb (by simp [z])) q)) hf (Nat.le_refl _) new
    refine ⟨.ref s.heap.objs.size, _, I1, rfl, ⟨_, x, rfl, I.hok.fresh (Nat.le_refl _), rfl, fun ys hy => by rw [I.tuple_inj hy hq]; exact hx⟩, ⟨⟨y, ?_⟩, hst.1.at fun o q => (sb.2 it (Ne.symm hne)).trans q, hne, hea⟩, fun b hb => ?_⟩
    · rw [show ((i + 1 : Nat) : Int) = (i : Int) + 1 by omega]
      exact he3
    · have hb2 : b < s.heap.objs.size := by
        rcases (show b = e ∨ b = it by simpa using hb) with z | z
        · rw [z]; exact hel
        · rw [z]; exact hil
      rw [upd_ne (Nat.ne_of_lt hb2)]
      exact (hf b hb).1
  done := by
    intro X hP hw hK hc i pins s σ H E I hf st hg
    subst hP hw hK
    obtain ⟨⟨old, he⟩, hit, hne, hea⟩ := st
    obtain ⟨xs, hq, hx⟩ := hg
    obtain ⟨its, rv, p, hz⟩ := I.tuple hq
    obtain ⟨f0, f1, f2, f3, f4, f5⟩ := hf it (by simp)
    have hl := rv.length
    refine wpAny_pyNext_enumT_end (I.ok.hd hc) he hit p (by simp; omega) fun h2 eb => ⟨rfl, I.turned (t' := s.toks) (fun b o hb q => eb b o hb q) f0 f1 f3 f4 f5⟩
  self := fun A i s Q E st h => let ⟨⟨_, he⟩, _⟩ := st; wpAny_pyIter_enum he h
def iEnumS (K : PySem.W.Frag) (ta : TA) : TI := fun σ H R => ta σ H fun vs H1 => ∃ a xs, vs = [.ref a] ∧ ((SqL K H1 a xs ∧ R (Ite K a) H1) ∨ (SqT K H1 a xs ∧ R (Itet K a) H1))
theorem pi_enumS {X : Cx} {e : Expr} {ta : TA} {p pos tpos : Pos} {elts : List Expr} {kk : Nat} (hg : Gl X "enumerate") (hm : X.mg "enumerate" = none) (ha : PA X [e] ta) (hs : starEach [e] X.env = [(false, eval e X.env)] := by rfl) :
    PI X (.Tuple elts kk tpos) (.Call (.Name "enumerate" p) [e] [] pos) (iEnumS X.K ta) := by
  refine ⟨fun pins s σ H R I h => Call_ (ld_blt I hg hm boot_enumerate (PyProof.Rows.callWith_type1 (thn (ha.run pos pins s σ H _ I h) fun us s1 ⟨vs, H1, I1, r1, a, xs, ex, q⟩ => ?_) hs rfl))⟩
  subst ex
  obtain ⟨u, rfl, rx⟩ := vals1 r1
  cases rx
  have fp : ∀ b ∈ [s1.heap.objs.size + 1, s1.heap.objs.size], FpOk X pins H1 b := fun b hb => by
    have hle : s1.heap.objs.size ≤ b := by
      rcases (show b = s1.heap.objs.size + 1 ∨ b = s1.heap.objs.size by simpa using hb) with z | z
      · rw [z]; exact Nat.le_add_right _ _
      · rw [z]; exact Nat.le_refl _
    exact I1.fpOk hle (I1.hok.fresh hle)
  rcases q with ⟨hq, q⟩ | ⟨hq, q⟩
  · obtain ⟨its, rv, p1, hz⟩ := I1.list hq
    refine call_enumerate_list p1.isList fun h2 he hit hsz hk => wpAny_pyIter_enum he ?_
    exact ⟨_, _, _, _, H1, rfl, I1.kept (t' := s1.toks) hk, turn_enum a (s1.heap.objs.size + 1) s1.heap.objs.size, ⟨⟨.none, he⟩, hit, Nat.succ_ne_self _⟩, fp, q⟩
  · obtain ⟨its, rv, p1, hz⟩ := I1.tuple hq
    have hlt : a < s1.heap.objs.size := p1.lt
    refine enum1_begins (begins_tuple a its.toArray) p1 fun h2 he hit hk => wpAny_pyIter_enum he ?_
    exact ⟨_, _, _, _, H1, rfl, I1.kept (t' := s1.toks) hk, turn_enumT a (s1.heap.objs.size + 1) s1.heap.objs.size its.toArray (Nat.ne_of_lt hlt), ⟨⟨.none, he⟩, ⟨_, hit, rfl, rfl⟩, Nat.succ_ne_self _, Nat.ne_of_gt (Nat.lt_succ_of_lt hlt)⟩, fp, q⟩
section
variable {M : Mode} {δ : Ds} {te : TE} {d : Dt} {ds : List Dt}
def enumD (ds : List Dt) : List Dt := (List.range ds.length).zipWith (fun (i : Nat) d => Dt.tup [.int (i : Nat), d]) ds
theorem enumD_len (ds : List Dt) : (enumD ds).length = ds.length := by simp [enumD]
theorem enumD_get {ds : List Dt} {i : Nat} {d : Dt} (h : (enumD ds)[i]? = some d) : ∃ e, ds[i]? = some e ∧ d = .tup [.int (i : Nat), e] ∧ i < ds.length := by
  unfold enumD at h
  rw [List.getElem?_zipWith] at h
  by_cases hi : i < ds.length
  · rw [List.getElem?_range hi, List.getElem?_eq_getElem hi] at h
    exact ⟨ds[i], List.getElem?_eq_getElem hi, (Option.some.inj h).symm, hi⟩
  · rw [List.getElem?_eq_none (by simpa using hi)] at h
    cases h
theorem yld_pair {N : Mode} {H' : Hp} {i : Nat} {T : Addr} {x : V} {e : Dt} (t : N.Tr H') (hT : H' T = none) (r : N.R H' e x) :
    N.R (upd H' T (.tup [.int (i : Nat), x])) (.tup [.int (i : Nat), e]) (.ref T) ∧ Ex H' (upd H' T (.tup [.int (i : Nat), x])) := by
  have e1 : Ex H' (upd H' T (.tup [.int (i : Nat), x])) := Ex.new hT
  have r2 : RpA N.K (cut N.S H') [.int (i : Nat), e] [.int (i : Nat), x] := ⟨_, _, rfl, rfl, RpA.one r⟩
  refine ⟨⟨T, _, rfl, ⟨Or.inl (Or.inl ?_), fun z => by cases z⟩, r2.mono (cut_ex e1)⟩, e1⟩
  rw [cut_out fun z => t T z hT]
  exact upd_same
theorem turns_enumL {N : Mode} (o : N.Ok) {H1 : Hp} {a : Addr} {xs : List V} (hx0 : cut N.S H1 a = some (.lst xs)) (hr : RpA N.K (cut N.S H1) ds xs) : Turns N (Ite N.K a) H1 (enumD ds) where
  go := fun i H' l j hi => by
    rw [enumD_len] at hi
    exact ⟨xs, xs[i]'(by rw [hr.length]; exact hi), sq_of (cut_le _ _ _ _ (l _ _ hx0)), List.getElem?_eq_getElem _⟩
  stop := fun H' l j => ⟨xs, sq_of (cut_le _ _ _ _ (l _ _ hx0)), by rw [hr.length, enumD_len]; exact Nat.le_refl _⟩
  yld := fun i H' x H'' d l j y hd => by
    obtain ⟨T, z, rfl, hT, rfl, hz⟩ := y
    obtain ⟨e, he, rfl, _⟩ := enumD_get hd
    obtain ⟨v, hv, hr'⟩ := hr.get' he
    have ez := hz xs (sq_of (cut_le _ _ _ _ (l _ _ hx0)))
    rw [hv] at ez
    cases ez
    exact yld_pair j hT (hr'.mono l)
theorem turns_enumT {N : Mode} (o : N.Ok) {H1 : Hp} {a : Addr} {xs : List V} (hx0 : SqT N.K (cut N.S H1) a xs) (hr : RpA N.K (cut N.S H1) ds xs) : Turns N (Itet N.K a) H1 (enumD ds) where
  go := fun i H' l j hi => by
    rw [enumD_len] at hi
    exact ⟨xs, xs[i]'(by rw [hr.length]; exact hi), ex_t (cut_le _ _) (ex_t l hx0), List.getElem?_eq_getElem _⟩
  stop := fun H' l j => ⟨xs, ex_t (cut_le _ _) (ex_t l hx0), by rw [hr.length, enumD_len]; exact Nat.le_refl _⟩
  yld := fun i H' x H'' d l j y hd => by
    obtain ⟨T, z, rfl, hT, rfl, hz⟩ := y
    obtain ⟨e, he, rfl, _⟩ := enumD_get hd
    obtain ⟨v, hv, hr'⟩ := hr.get' he
    have ez := hz xs (ex_t (cut_le _ _) (ex_t l hx0))
    rw [hv] at ez
    cases ez
    exact yld_pair j hT (hr'.mono l)
theorem ew_enum {ta : TA} (h : EvAs M ta δ [d]) (hd : seqD d = some ds) : EvW M (iEnumS M.K ta) δ (enumD ds) := fun N n σ H s R q => h N n σ H s _ fun ds' vs H1 p1 e1 j1 r1 => by
  subst p1
  obtain ⟨v, rfl, r2⟩ := one_of r1
  cases d <;> simp only [seqD, Option.some.injEq, reduceCtorEq] at hd
  · subst hd
    obtain ⟨a, xs, rfl, h2, h3⟩ := r2
    refine ⟨a, xs, rfl, .inl ⟨sq_of (cut_le _ _ _ _ h2), q _ _ H1 rfl e1 j1 fun N' n' ec => ?_⟩⟩
    rw [← n.k, ← n'.k]
    rw [← n'.k, ← ec] at h3
    rw [← ec] at h2
    exact turns_enumL n'.ok h2 h3
  · subst hd
    obtain ⟨a, xs, rfl, h2, h3⟩ := r2
    refine ⟨a, xs, rfl, .inr ⟨by rw [← n.k]; exact ex_t (cut_le _ _) h2.1, q _ _ H1 rfl e1 j1 fun N' n' ec => ?_⟩⟩
    rw [← n.k, ← n'.k]
    rw [← n'.k, ← ec] at h2 h3
    exact turns_enumT n'.ok h2.1 h3
end
end Mc
namespace Mc
open PySem PySem.Spec PyProof.Rows L2 Evl
def addT (x : Str) (xs : List Str) : List Str := if x ∈ xs then xs else x :: xs
def dd (xs : List Str) : List Str := xs.foldl (fun acc x => addT x acc) []
theorem dd_snoc (xs : List Str) (x : Str) : dd (xs ++ [x]) = addT x (dd xs) := by unfold dd; rw [List.foldl_append]; rfl
theorem addT_len (x : Str) (xs : List Str) : (addT x xs).length ≤ xs.length + 1 := by unfold addT; split <;> simp
theorem mem_addT {x y : Str} {xs : List Str} : y ∈ addT x xs ↔ y = x ∨ y ∈ xs := by
  unfold addT
  split
  · constructor
    · exact Or.inr
    · rintro (h | h)
      · rw [h]; assumption
      · exact h
  · exact List.mem_cons
theorem nodup_addT {x : Str} {xs : List Str} (h : xs.Nodup) : (addT x xs).Nodup := by
  unfold addT
  split
  · exact h
  · exact List.nodup_cons.mpr ⟨by assumption, h⟩
theorem ddA_facts : ∀ (xs acc : List Str), acc.Nodup → (xs.foldl (fun acc x => addT x acc) acc).Nodup ∧ (xs.foldl (fun acc x => addT x acc) acc).length ≤ acc.length + xs.length ∧ ∀ y, y ∈ xs.foldl (fun acc x => addT x acc) acc ↔ y ∈ acc ∨ y ∈ xs
  | [], acc, h => ⟨h, Nat.le_refl _, fun y => by simp⟩
  | x :: xs, acc, h => by
    obtain ⟨h1, h2, h3⟩ := ddA_facts xs (addT x acc) (nodup_addT h)
    refine ⟨h1, ?_, fun y => ?_⟩
    · have := addT_len x acc
      simp only [List.foldl_cons, List.length_cons]
      omega
    · show y ∈ xs.foldl (fun acc x => addT x acc) (addT x acc) ↔ _
      rw [h3, mem_addT, List.mem_cons]
      constructor
      · rintro ((h | h) | h)
        · exact .inr (.inl h)
        · exact .inl h
        · exact .inr (.inr h)
      · rintro (h | h | h)
        · exact .inl (.inr h)
        · exact .inl (.inl h)
        · exact .inr h
theorem dd_facts (xs : List Str) : (dd xs).Nodup ∧ (dd xs).length ≤ xs.length ∧ ∀ y, y ∈ dd xs ↔ y ∈ xs := by
  obtain ⟨h1, h2, h3⟩ := ddA_facts xs [] List.nodup_nil
  exact ⟨h1, by unfold dd; simpa using h2, fun y => by have := h3 y; unfold dd; simpa using this⟩
def ltT (x y : Str) : Bool := ltCps x.cps.toList y.cps.toList
def insT (x : Str) : List Str → List Str
  | [] => [x]
  | y :: r => if ltT x y = true then x :: y :: r else if x = y then y :: r else y :: insT x r
def ascT (xs : List Str) : List Str := xs.foldr insT []
def RisT (xs : List Str) : Prop := xs.Pairwise fun x y => ltT x y = true
end Mc
namespace Mc
open PySem PySem.Spec PyProof.Rows L2 Evl
theorem ltT_iff {x y : Str} : ltT x y = true ↔ x.cps.toList < y.cps.toList := by
  unfold ltT
  rw [ltCps_eq]
  exact decide_eq_true_iff
theorem str_ext {x y : Str} (h : x.cps.toList = y.cps.toList) : x = y := by
  cases x
  cases y
  simp only [Str.mk.injEq]
  exact Array.toList_inj.mp h
theorem ltT_irr (x : Str) : ltT x x = false := by
  cases h : ltT x x with
  | false => rfl
  | true => exact absurd (ltT_iff.mp h) (List.lt_irrefl _)
theorem ltT_trans {x y z : Str} (a : ltT x y = true) (b : ltT y z = true) : ltT x z = true := ltT_iff.mpr (List.lt_trans (ltT_iff.mp a) (ltT_iff.mp b))
theorem ltT_tri {x y : Str} (a : ltT x y = false) (b : ltT y x = false) : x = y := by
  refine str_ext (List.le_antisymm ?_ ?_)
  · intro h
    rw [ltT_iff.mpr h] at b
    cases b
  · intro h
    rw [ltT_iff.mpr h] at a
    cases a
theorem ltT_ne {x y : Str} (a : ltT x y = true) : x ≠ y := fun e => by
  subst e
  rw [ltT_irr] at a
  cases a
theorem mem_insT {x y : Str} : ∀ {l : List Str}, y ∈ insT x l ↔ y = x ∨ y ∈ l
  | [] => by simp [insT]
  | z :: r => by
    unfold insT
    split
    · simp
    · split
      · rename_i h
        subst h
        simp
      · rw [List.mem_cons, mem_insT, List.mem_cons]
        constructor
        · rintro (h | h | h) <;> simp [h]
        · rintro (h | h | h) <;> simp [h]
theorem ris_insT {x : Str} : ∀ {l : List Str}, RisT l → RisT (insT x l)
  | [], _ => List.pairwise_singleton _ _
  | z :: r, h => by
    obtain ⟨h1, h2⟩ := List.pairwise_cons.mp h
    unfold insT
    split
    · rename_i hx
      exact List.pairwise_cons.mpr ⟨fun y hy => by
        rcases List.mem_cons.mp hy with e | e
        · rw [e]; exact hx
        · exact ltT_trans hx (h1 y e), h⟩
    · split
      · exact h
      · rename_i hx hne
        refine List.pairwise_cons.mpr ⟨fun y hy => ?_, ris_insT h2⟩
        rcases mem_insT.mp hy with e | e
        · rw [e]
          cases hz : ltT z x with
          | true => rfl
          | false => exact absurd (ltT_tri (by simpa using hx) hz) hne
        · exact h1 y e
theorem mem_ascT {y : Str} : ∀ {l : List Str}, y ∈ ascT l ↔ y ∈ l
  | [] => Iff.rfl
  | x :: r => by
    show y ∈ insT x (ascT r) ↔ _
    rw [mem_insT, mem_ascT, List.mem_cons]
theorem ris_ascT : ∀ {l : List Str}, RisT (ascT l)
  | [] => List.Pairwise.nil
  | x :: r => ris_insT ris_ascT
theorem ris_nodup {l : List Str} (h : RisT l) : l.Nodup := h.imp fun q => ltT_ne q
theorem ris_eq : ∀ {l m : List Str}, RisT l → RisT m → (∀ y, y ∈ l ↔ y ∈ m) → l = m
  | [], [], _, _, _ => rfl
  | [], y :: m, _, _, h => absurd ((h y).mpr List.mem_cons_self) List.not_mem_nil
  | x :: l, [], _, _, h => absurd ((h x).mp List.mem_cons_self) List.not_mem_nil
  | x :: l, y :: m, hl, hm, h => by
    obtain ⟨l1, l2⟩ := List.pairwise_cons.mp hl
    obtain ⟨m1, m2⟩ := List.pairwise_cons.mp hm
    have e : x = y := by
      rcases List.mem_cons.mp ((h x).mp List.mem_cons_self) with z | z
      · exact z
      · rcases List.mem_cons.mp ((h y).mpr List.mem_cons_self) with z' | z'
        · exact z'.symm
        · have a := l1 y z'
          have b := m1 x z
          have c := ltT_trans a b
          rw [ltT_irr] at c
          cases c
    subst e
    congr 1
    refine ris_eq l2 m2 fun z => ?_
    constructor
    · intro hz
      rcases List.mem_cons.mp ((h z).mp (List.mem_cons_of_mem _ hz)) with q | q
      · exact absurd q.symm (ltT_ne (l1 z hz))
      · exact q
    · intro hz
      rcases List.mem_cons.mp ((h z).mpr (List.mem_cons_of_mem _ hz)) with q | q
      · exact absurd q.symm (ltT_ne (m1 z hz))
      · exact q
theorem ris_of_sorted : ∀ {l : List Str}, sortedS l = true → l.Nodup → RisT l := by
  have go : ∀ (l : List Str) (p : Str), risingS p l = true → (p :: l).Nodup → RisT (p :: l) := by
    intro l
    induction l with
    | nil => exact fun p _ _ => List.pairwise_singleton _ _
    | cons x r ih =>
      intro p h nd
      have h' : (!ltCps x.cps.toList p.cps.toList) = true ∧ risingS x r = true := by simpa [risingS] using h
      obtain ⟨n1, n2⟩ := List.nodup_cons.mp nd
      have t := ih x h'.2 n2
      have px : ltT p x = true := by
        cases q : ltT p x with
        | true => rfl
        | false =>
          have q2 : ltT x p = false := by
            have := h'.1
            unfold ltT
            simpa using this
          exact absurd (ltT_tri q q2) (fun e => n1 (by rw [e]; exact List.mem_cons_self))
      refine List.pairwise_cons.mpr ⟨fun y hy => ?_, t⟩
      rcases List.mem_cons.mp hy with e | e
      · rw [e]; exact px
      · exact ltT_trans px ((List.pairwise_cons.mp t).1 y e)
  intro l h nd
  cases l with
  | nil => exact List.Pairwise.nil
  | cons x r => exact go r x h nd
theorem sorted_asc {ys zs : List Str} (h : sortedS ys = true) (nd : ys.Nodup) (hm : ∀ y, y ∈ ys ↔ y ∈ zs) : ys = ascT zs :=
  ris_eq (ris_of_sorted h nd) ris_ascT fun y => (hm y).trans mem_ascT.symm
theorem ascT_len (l : List Str) : (ascT l).length ≤ l.length := by
  have h : ∀ (x : Str) (m : List Str), (insT x m).length ≤ m.length + 1 := by
    intro x m
    induction m with
    | nil => exact Nat.le_refl _
    | cons y r ih =>
      unfold insT
      split
      · exact Nat.le_refl _
      · split
        · exact Nat.le_succ _
        · simp only [List.length_cons]
          omega
  induction l with
  | nil => exact Nat.le_refl _
  | cons x r ih =>
    have := h x (ascT r)
    show (insT x (ascT r)).length ≤ _
    simp only [List.length_cons]
    omega
section
variable {M : Mode} {δ : Ds} {ta tb te tx : TE} {tt : TT} {d : Dt}
def Mode.keep (M : Mode) (D : Addr) (o : HO) : Mode := ⟨M.K, D :: M.S, fun H => M.J H ∧ H D = some o⟩
theorem Mode.keep_sub {M : Mode} {D : Addr} {o : HO} (ok : M.Ok) (hD : D ∉ M.S) : M.Sub (M.keep D o) where
  k := rfl
  ok := ⟨fun e j => ⟨ok.ex e j.1, e _ _ j.2⟩, fun j b hb => by
    rcases List.mem_cons.mp hb with z | z
    · rw [z, j.2]
      exact fun q => nomatch q
    · exact ok.tr j.1 b z, fun {H H' E} j h j' x => by
    have ne : D ≠ E := fun z => by
      rw [← z, j.2] at h
      cases h
    exact ⟨ok.mu j.1 h j'.1 x, by rw [upd_ne ne]; exact j'.2⟩⟩
  s := fun b hb => List.mem_cons_of_mem _ hb
  j := fun h => h.1
  st := fun h1 h2 e => ⟨h2, (cut_some (e D _ (by rw [cut_out hD]; exact h1.2))).1⟩
end
end Mc
namespace Mc
open PySem PySem.Spec PyProof.Rows L2 Evl
def pureM (K : PySem.W.Frag) (S : List Addr) (H : Hp) : Mode := ⟨K, S, fun H' => Ex H H'⟩
theorem pureM_ok {K : PySem.W.Frag} {S : List Addr} {H : Hp} (h : ∀ b ∈ S, H b ≠ none) : (pureM K S H).Ok where
  ex := fun e j => Ex.trans j e
  tr := fun {H'} j b hb z => h b hb (by
    cases q : H b with
    | none => rfl
    | some o =>
      have j' : Ex H H' := j
      rw [j' b o q] at z
      cases z)
  mu := fun {H1 H2 D} j h1 j' o => Ex.mut j' (fresh_back j h1)
def startD (n : Nat) (ds : List Dt) : Ds := ds.map some ++ List.replicate (n - ds.length) none
theorem rps_none {K : PySem.W.Frag} {H : Hp} : ∀ n : Nat, RpS K H (List.replicate n none) (List.replicate n none)
  | 0 => rfl
  | n + 1 => ⟨none, List.replicate n none, rfl, fun _ e => (by cases e), rps_none n⟩
theorem rps_app {K : PySem.W.Frag} {H : Hp} {δ : Ds} {σ : L2.St} (h : RpS K H δ σ) : ∀ {ds : List Dt} {vs : List V}, RpA K H ds vs → RpS K H (ds.map some ++ δ) (vs.map some ++ σ)
  | [], _, q => by
    rw [show _ = [] from q]
    exact h
  | d :: ds, _, ⟨v, r, h1, h2, h3⟩ => by
    rw [h1]
    exact ⟨some v, r.map some ++ σ, rfl, fun d' e => ⟨v, rfl, (Option.some.inj e) ▸ h2⟩, rps_app h h3⟩
theorem rps_start {K : PySem.W.Frag} {H : Hp} {N : List Str} {ds : List Dt} {vs : List V} (h : RpA K H ds vs) : RpS K H (startD N.length ds) (L2.start N vs) := by
  unfold startD L2.start
  rw [h.length]
  exact rps_app (rps_none _) h
theorem run_pure {K : PySem.W.Frag} {S : List Addr} {H : Hp} {N : List Str} {ds : List Dt} {vs : List V} {t : TS} {D : Ends} (hS : ∀ b ∈ S, H b ≠ none) (h : RpA K (cut S H) ds vs) (r : RunS (pureM K S H) t D (startD N.length ds) H) : t D (L2.start N vs) H :=
  r (pureM_ok hS) _ _ ⟨rps_start h, Ex.refl H⟩ (Ex.refl _)
section
variable {M : Mode} {δ : Ds} {ta tb te tx : TE} {t u : TT} {d e f : Dt} {ds : List Dt}
theorem ed_II {g : Int → Int → Int} {i j : Int} (ha : EvD M ta δ (.int i)) (hb : EvD M tb δ (.int j)) : EvD M (tOp (rI0 fun i j => .int (g i j)) ta tb) δ (.int (g i j)) := ed_I0 ha hb fun _ => rfl
theorem ed_IB {g : Int → Int → Bool} {i j : Int} (ha : EvD M ta δ (.int i)) (hb : EvD M tb δ (.int j)) : EvD M (tOp (rI0 fun i j => .bl (g i j)) ta tb) δ (.bl (g i j)) := ed_I0 ha hb fun _ => rfl
theorem ed_CI {C : Int → Int → Prop} {g : Int → Int → Int} {i j : Int} (ha : EvD M ta δ (.int i)) (hb : EvD M tb δ (.int j)) (hc : C i j) : EvD M (tOp (rI C fun i j => .int (g i j)) ta tb) δ (.int (g i j)) := ed_I ha hb hc fun _ => rfl
theorem eb_yes : EvB M tYes δ true := fun N _ _ H s _ q => q true H rfl Mode.Le.refl s.2
end
end Mc
namespace Mc
open PySem PySem.Spec PyProof.Rows L2 Evl
section
variable {X : Cx} (K : PySem.W.Frag)
variable {tg l e : Expr} {tl te : TE} {ta : TA}
theorem k_gt {es : List Expr} {k : Nat} {t : TGs} {n : Nat} {pos : Pos} (hc : X.calm = true) (hh : PGs X es t) (h : X.K = K := by rfl)
    (hn : (assignEach es X.env).length = n := by rfl) (hst : (assignEach es X.env).findIdx? (·.1) = none := by rfl) : PG X (.Tuple es k pos) (gTup K n t) := by subst h; exact pg_tup hc hh hn hst
end
end Mc
namespace Mc
open PySem PySem.Spec PyProof.Rows L2 Evl
structure FnG (P : Program) (w : World) (K : PySem.W.Frag) (mg : Str → Option Value) (base : Heap) (k : Nat) (f : Addr) (fd : FuncData) (ps : List Str) (sp : Sp) : Prop where
  len : ∀ vs H Q E, sp vs H Q E → vs.length = ps.length
  run : ∀ (A : Around) (outer : List Env) (s : Shared) (H : Hp) (args : Args) (us : List Value) (vs : List V) (Q : VK) (E : XK), A.guards = some [] → Room k A → Env0 P w K mg base A outer s H → BindsTo s fd args (ps.zip us) → Vals vs us → sp vs H Q E →
    codeAny (model P w) A (.call (.ref f) args) (CR CX0 outer P w H s Q E) s
section
variable {P : Program} {w : World} {K : PySem.W.Frag} {mg : Str → Option Value} {base : Heap}
theorem fun_okG {x qual : Str} {st : Stmt} {f : Addr} {fd : FuncData} {N ps : List Str} {k : Nat} {sp : Sp} (F : Fun K x qual st f fd) (S : FnScope N ps (defScope st)) (len : ∀ vs H Q E, sp vs H Q E → vs.length = ps.length)
    (hbody : ∀ (cdv : Value) (A : Around) (outer : List Env) (s : Shared) (H : Hp) (vs : List V) (Q : VK) (E : XK), (A.deeper (envOfC qual (defScope st) s.heap.objs.size f cdv)).guards = some [] → Room k (A.deeper (envOfC qual (defScope st) s.heap.objs.size f cdv)) → sp vs H Q E →
      ∃ t, PSs (cxOf CX0 P w K mg base N qual (defScope st) f cdv A outer s H E).nox (defBody st) t ∧ t { nx := fun _ H' => Q .non H', rt := Q } (L2.start N vs) H) : FnG P w K mg base (k + 1) f fd ps sp := by
  obtain ⟨oc, od, kV, doc, pm, an, cdv, ct, osl, rfl, lk, hcd⟩ := F.ex
  refine ⟨len, fun A outer s H args us vs Q E hgd hr e0 hb r hsp => ?_⟩
  have hlen := len _ _ _ _ hsp
  have K1 : K.In s.heap := e0.mod.kin.keeps fun b o e => (e0.bs b o e).1
  have L1 : s.heap.NoLimit := e0.mod.nolimit.keeps fun b o e => (e0.bs b o e).1
  have kinds1 : ∀ y ∈ ps.zip us, (defScope st).names.lookup y.1 = some .local ∨ ((defScope st).names.lookup y.1 = some .cell ∧ ((cellsFrom (s.heap.objs.size + 1) (defScope st).names []).lookup y.1).isSome = true) := fun ⟨n, v⟩ hy =>
    (S.par n (List.of_mem_zip hy).1).imp id fun z => ⟨z, PySem.W.cellsFrom_some _ _ _ (.inl z)⟩
  refine codeAny_call_function hr.depth (K1 _ _ lk) rfl S.co S.gen rfl (PySem.W.codeRec_of K1 hcd) (hb _ _ _ _ ?_)
  refine wpAny_newFunctionEnv_cells S.kind kinds1 fun env he s1 z => ?_
  subst he
  refine ⟨L1.keeps z.toInCall.keep, codeAny_func ?_⟩
  obtain ⟨t, ht, hq⟩ := hbody cdv A outer s H vs Q E hgd (hr.deeper _) hsp
  have I : Inv (cxOf CX0 P w K mg base N qual (defScope st) f cdv A outer s H E) [] (L2.start N vs) H s1 := inv_start S hr.hd e0 hlen r z
  refine wpAny_mono (ht.nox.run [] s1 (L2.start N vs) H _ I hq) (fun fl s2 hs => ?_) fun e s2 hs => hs
  have fin : ∀ {σ1 : L2.St} {H1 : Hp} {v : V} {u : Value}, Inv (cxOf CX0 P w K mg base N qual (defScope st) f cdv A outer s H E) [] σ1 H1 s2 → RelV v u → Q v H1 → CE outer P w H s Q u s2 :=
    fun {σ1 H1 v u} J rv q => ⟨v, H1, J.os, J.bare, J.base, J.hok, rv, q⟩
  cases fl with
  | ret u =>
    obtain ⟨v, σ1, H1, J, rv, q⟩ := hs
    exact fin J rv q
  | next =>
    obtain ⟨σ1, H1, J, q⟩ := hs
    exact fin (v := V.non) (u := Value.none) J rfl q
  | brk =>
    obtain ⟨_, _, _, q⟩ := hs
    exact q.elim
  | cont =>
    obtain ⟨_, _, _, q⟩ := hs
    exact q.elim
end
theorem law_callG {P : Program} {w : World} {K : PySem.W.Frag} {mg mb : Str → Option Value} {k : Nat} {fa a : Addr} {fd : FuncData} {x : Str} {sp : Sp} {s1 : Shared} {vs : List Value} {ns : List Int}
    (KX : K.In s1.heap) (hns : s1.heap.Ns mainGlobals mg) (hb : s1.heap.Ns builtinsNs mb) (hbb : ∀ x : Str, x ≠ "__name__" → mb x = bootBuiltins x) (hlim : s1.heap.NoLimit) (hg : s1.gens = #[])
    (ha : s1.heap.get? a = some { cls := .type "list", data := .seq vs.toArray }) (hi : IntsAre vs ns) (hl : ns.length ≤ sizeLine) (hr : Room k callerA)
    (F : ∀ base : Heap, K.In base → base.Ns mainGlobals mg → FnG P w K mg base k fa fd [x] sp) (hbind : ∀ (s : Shared) (u : Value), BindsTo s fd ⟨[u], []⟩ [(x, u)])
    (hsp : ∀ H : Hp, Only H → SqL K H a (ns.map V.int) → sp [.ref a] H (fun v _ => v = .bl true) fun _ _ _ => False) :
    codeAny (model P w) callerA (.call (.ref fa) ⟨[.ref a], []⟩) (fun r s' => r = .ok (.ret (.bool true)) ∧ OldK s1.heap s'.heap ∧ s'.os = s1.os ∧ AllBare s'.gens) s1 := by
  have rv := vals_ints hi
  have ln := hi.length
  have core : ∀ H : Hp, Only H → SqL K H a (ns.map V.int) → HOk P w H s1.heap → (∀ b, H b ≠ none → b = a) → (H a ≠ none → K.lookup a = none) →
      codeAny (model P w) callerA (.call (.ref fa) ⟨[.ref a], []⟩) (fun r s' => r = .ok (.ret (.bool true)) ∧ OldK s1.heap s'.heap ∧ s'.os = s1.os ∧ AllBare s'.gens) s1 := by
    intro H hO hS hok hA hK
    have isNone : ∀ {b : Addr}, (b = a → H a = none) → H b = none := fun {b} h => by
      cases q : H b with
      | none => rfl
      | some u =>
        have e : b = a := hA b (by rw [q]; exact fun z => by cases z)
        rw [e, h e] at q
        cases q
    have noD : ∀ {b : Addr} {o : Obj} {es : Array DictEntry} {ep : Nat}, s1.heap.get? b = some o → o.data = .dict es ep → H b = none := fun {b o es ep} e d => isNone fun z => by
      subst z
      rw [ha] at e
      cases e
      exact absurd (show Data.seq vs.toArray _ = Data.dict es ep from d) (by intro y; cases y)
    have nsK : ∀ {b : Addr} {m : Str → Option Value}, s1.heap.Ns b m → (hidT s1.heap H).Ns b m := fun {b m} ⟨o, es, ep, e, d, r⟩ => ⟨o, es, ep, hidT_get e (noD e d), d, r⟩
    have hKb : K.In (hidT s1.heap H) := fun b o e => hidT_get (KX b o e) (isNone fun z => by
      cases q : H a with
      | none => rfl
      | some u =>
        rw [z, hK (by rw [q]; exact fun y => by cases y)] at e
        cases e)
    have hM : Mod K mg (hidT s1.heap H) := ⟨hKb, nsK hns, ⟨mb, nsK hb, hbb⟩, let ⟨mc, h1, h2⟩ := hlim; ⟨mc, nsK h1, h2⟩⟩
    have e0 : Env0 P w K mg (hidT s1.heap H) callerA [] s1 H := ⟨rfl, hM, fun b o e => of_hidT e, Nat.le_of_eq (hidT_size _ _), trivial, fun b hb => absurd (show b ∈ ([] : List Addr) from hb) (by simp), hok, .of_eq hg⟩
    refine codeAny_mono ((F _ hKb (nsK hns)).run callerA [] s1 H ⟨[.ref a], []⟩ [.ref a] [.ref a] _ _ rfl hr e0 (hbind s1 (.ref a)) (.cons rfl .nil) (hsp H hO hS)) fun r s' h => ?_
    cases r with
    | error e => exact (show False from h).elim
    | ok fl =>
      cases fl with
      | next => exact (show False from h).elim
      | brk => exact (show False from h).elim
      | cont => exact (show False from h).elim
      | ret u =>
        obtain ⟨v, H', os, bare, un, hok', r', q⟩ := h
        obtain rfl : v = .bl true := q
        obtain rfl : u = Value.bool true := r'
        refine ⟨rfl, OldK.of_keep fun b o e => ?_, os, bare⟩
        cases q : H b with
        | none => exact un.keep b o e q (fun z => absurd (show b ∈ ([] : List Addr) from z) (by simp)) (by simp)
        | some u =>
          rcases hO b with z | ⟨ob, xs, z⟩
          · rw [q] at z
            cases z
          · obtain ⟨e1, _⟩ := hok b _ z
            obtain ⟨e2, _⟩ := hok' b _ (un.frzs b ob _ z)
            rw [e] at e1
            cases e1
            exact e2
  cases hk : K.lookup a with
  | some o =>
    have e := KX a o hk
    rw [ha] at e
    cases e
    exact core (fun _ => none) (fun _ => .inl rfl) (.inr ⟨_, vs.toArray, _, hk, rfl, rfl, rfl, by rw [List.size_toArray, ln]; exact hl, by simpa using rv⟩) (fun b u z => by have y : (none : Option HO) = some u := z; cases y) (fun b z => absurd rfl z) fun z => absurd rfl z
  | none =>
    refine core (fun b => if b = a then some (.frz { cls := .type "list", data := .seq vs.toArray } (.lst (ns.map V.int))) else none) (fun b => ?_) (.inl (.inr ⟨{ cls := .type "list", data := .seq vs.toArray }, if_pos rfl⟩)) (fun b u z => ?_) (fun b z => ?_) fun _ => hk
    · by_cases hba : b = a
      · exact .inr ⟨_, _, if_pos hba⟩
      · exact .inl (if_neg hba)
    · by_cases hba : b = a
      · have y := (if_pos hba).symm.trans z
        cases y
        subst hba
        exact ⟨ha, by rw [List.length_map]; exact hl, vs, _, rv, ha⟩
      · have y := (if_neg hba).symm.trans z
        cases y
    · by_cases hba : b = a
      · exact hba
      · exact absurd (if_neg hba) z
end Mc
namespace Mc
open PySem PySem.Spec PyProof.Rows L2 Evl
structure Nice (B : Nat) (d : Dt) (dep wt : Nat) : Prop where
  plain : plainD d = true
  can : (pyD d).canLay0 = true
  dep : (pyD d).depth ≤ dep
  wt : (pyD d).weight ≤ wt
  sh : (pyD d).showable = true
  le : (pyD d).leavesShort B = true
theorem Nice.mono {B : Nat} {d : Dt} {a b a' b' : Nat} (h : Nice B d a b) (h1 : a ≤ a') (h2 : b ≤ b') : Nice B d a' b' := ⟨h.plain, h.can, Nat.le_trans h.dep h1, Nat.le_trans h.wt h2, h.sh, h.le⟩
theorem Nice.shaped {B : Nat} {d : Dt} {a b : Nat} (h : Nice B d a b) (ha : a ≤ 64) : SeqAt.shaped (pyD d) = true := by
  unfold SeqAt.shaped
  rw [h.can, Bool.true_and]
  exact decide_eq_true (Nat.le_trans h.dep ha)
theorem Nice.shown {B : Nat} {d : Dt} {a b : Nat} (h : Nice B d a b) (hB : 8 ≤ B) (hw : (B + 2) * b + B ≤ 16000000) : (pyD d).shown.length ≤ sizeLine := by
  have h1 := PyData.shown_le B hB (pyD d) h.le
  have h2 : (B + 2) * (pyD d).weight ≤ (B + 2) * b := Nat.mul_le_mul_left _ h.wt
  rw [sizeLine_eq]
  omega
end Mc
namespace Mc
open PySem PySem.Spec PyProof.Rows L2 Evl
section
variable {X : Cx} {C g : Addr} {n : Nat} {CX : CXT} {sp : Sp} {E : XK}
theorem inst_at {pins : List (Addr × Obj)} {σ : L2.St} {H : Hp} {s : Shared} {a dx : Addr} {fs : List (Str × V)} (I : Inv X pins σ H s) (e : H a = some (.ins C dx fs)) : ∃ ox od, PySem.W.InstAt s.heap a ox C od := by
  obtain ⟨mA, O, _⟩ := ins_get I.hok e
  obtain ⟨od, J, _⟩ := O.look
  exact ⟨_, _, J⟩
def rCmpI (K : PySem.W.Frag) (C : Addr) (sp : Sp) (E : XK) : R2 := fun x y H Q => ∃ a dx fs t, x = .ref a ∧ H a = some (.ins C dx fs) ∧ TyX K H y t ∧ PySem.W.notFirst K C t = true ∧ sp [x, y] H Q E
theorem op_cmpI {op : CmpOp} (hop : ∀ a b, compareOp op a b = richCompare op a b) (hs : PySem.W.findIn X.K (.ref C) (cmpInfo op).2.1 = some (some (.ref g))) (hf : PySem.W.isFn X.K (.ref g) = true) (F : FnR X.prog X.w X.K X.mg X.base CX n g sp)
    (hr : Room n X.A) (hx : Passes CX X E) : OpR X (compareOp op) (rCmpI X.K C sp E) := by
  intro pins s σ H x y v u Q I rx ry h
  obtain ⟨a, dx, fs, t, rfl, ea, ty, hn, q⟩ := h
  cases (show v = Value.ref a from rx)
  obtain ⟨ox, od, J⟩ := inst_at I ea
  obtain ⟨P, Z, p, _⟩ := kit_of I ry ty
  obtain ⟨m, hF⟩ := I.fr
  rw [hop]
  refine PySem.W.cmp_K (op := op) (tb := t) hr.units0 hF I.ok.mod.kin J (Z.ty _ _ I.kIn p) hn hs hf ?_
  refine wpAny_mono (wpAny_call (run_fnR (us := [.ref a, u]) (vs := [.ref a, y]) F hr hx I (.cons rfl (.cons ry .nil)) q)) (fun w s' z => ?_) fun _ _ x => x
  obtain ⟨z', H', I', rz, qz⟩ := z
  exact SlX.cmpback rz ⟨z', H', I', rz, qz⟩
def rNeI (K : PySem.W.Frag) (C : Addr) (sp : Sp) (E : XK) : R2 := fun x y H Q => ∃ a dx fs t, x = .ref a ∧ H a = some (.ins C dx fs) ∧ TyX K H y t ∧ PySem.W.notFirst K C t = true ∧ sp [x, y] H (fun v H' => ∃ b, v = .bl b ∧ Q (.bl (!b)) H') E
theorem ne_own {prog : Program} {w : World} {A : Around} {Ex : Value → Shared → Prop} {s : Shared} {K : PySem.W.Frag} {x : Addr} {ox : Obj} {od : Option Obj} {b tb : Value} {f : Addr} {Q : Value → Shared → Prop} (hu : A.units < cLine) (hu1 : A.in1.units < cLine) (X : K.In s.heap) (I : PySem.W.InstAt s.heap x ox C od)
    (hb : PySem.W.Looks (model prog w) s.heap (typeOf b) tb) (hn : PySem.W.notFirst K C tb = true) (hs : PySem.W.findIn K (.ref C) "__ne__" = some (some (.builtin "object.__ne__"))) (hm : PySem.W.mroIn K C (.type "object") = some true)
    (he : PySem.W.findIn K (.ref C) "__eq__" = some (some (.ref f))) (hf : PySem.W.isFn K (.ref f) = true) (h : wpAny (model prog w) A.in1 (call (.ref f) [.ref x, b]) (fun v s' => ∃ y, v = .bool y ∧ Q (.bool (!y)) s') Ex s) :
    wpAny (model prog w) A (richCompare .NotEq (.ref x) b) Q Ex s := by
  have one : wpAny (model prog w) A (tryCompare (.ref x) (cmpInfo .NotEq).2.1 b) (fun r s' => ∃ v, r = some v ∧ Q v s') Ex s := by
    unfold tryCompare
    simp only [callSpecialIfBound?, bindSpecialIfBound?]
    refine wpAny_bind (wpAny_holding (wpAny_bind (wpAny_bind (wpAny_bind (I.type.here ((PySem.W.looks_findIn X hs).here ?_))))))
    refine wpAny_bind (wpAny_askSetting (wpAny_ite ?_))
    have fin : wpAny (model prog w) A (call (.builtin "object.__ne__") ([.ref x] ++ [b]) >>= fun v => pure (some v)) (fun r s' => wpAny (model prog w) A (match r with | some .notImplemented | none => pure none | some v => pure (some v)) (fun r s' => ∃ v, r = some v ∧ Q v s') Ex s') Ex s := by
      refine wpAny_bind (wpAny_call (codeAny_call_builtin PySem.F.slot_object_ne.plain PySem.F.cmpEntry_ne (PySem.W.check_slot (i := "object.__ne__") (owner := "object") (n := "__ne__") (by decide +kernel) (by decide +kernel) (I.type.andThen (PySem.W.looks_mroIn X hm)) (PySem.F.cmpArgs_ne _ _) ?_)))
      unfold Builtin.«object.__ne__»
      refine wpAny_bind (m := PySem.slotArgs "__ne__" 1 _) (wpAny_pure ?_)
      refine wpAny_bind (m := cRoomFor _ _) (wpAny_cRoomFor hu1 ?_)
      refine wpAny_bind (m := callSpecialIfBound? (.ref x) (Str.ofString "__eq__") _) (PySem.W.ifBound_K X I he hf (wpAny_mono h (fun r s' hq => ?_) fun _ _ y => y))
      obtain ⟨y, rfl, hq⟩ := hq
      refine wpAny_bind (m := truthy (.bool _)) (wpAny_truthy_bool ?_)
      exact wpAny_pure (wpAny_pure (wpAny_pure ⟨_, rfl, hq⟩))
    split
    · exact wpAny_bind ((PySem.W.Looks.of_pure (PySem.F.slot_object_ne.bind _)).here (wpAny_pure (by exact fin)))
    · exact wpAny_tryCatch (wpAny_bind ((PySem.W.Looks.of_pure (PySem.F.slot_object_ne.bind _)).here (wpAny_pure (by exact fin))))
  unfold richCompare
  simp only [oneThing_ref]
  refine wpAny_holding (wpAny_bind (wpAny_cRoomFor hu ?_))
  refine wpAny_bind (I.type.here (wpAny_bind (hb.here ?_)))
  split
  · rename_i q
    have e : PySem.W.subIn K tb (.ref C) = some false := by
      rcases Bool.or_eq_true_iff.mp hn with e | e
      · rw [beq_iff_eq.mp e] at q; simp at q
      · exact beq_iff_eq.mp e
    refine wpAny_bind ((PySem.W.looks_subIn X e).here ?_)
    simp only [Bool.false_eq_true, if_false]
    refine wpAny_bind (wpAny_mono one (fun r s' z => ?_) fun _ _ e => e)
    obtain ⟨v, rfl, hq⟩ := z
    exact wpAny_pure hq
  · refine wpAny_bind (wpAny_pure ?_)
    simp only [Bool.false_eq_true, if_false]
    refine wpAny_bind (wpAny_mono one (fun r s' z => ?_) fun _ _ e => e)
    obtain ⟨v, rfl, hq⟩ := z
    exact wpAny_pure hq
theorem op_neI (hs : PySem.W.findIn X.K (.ref C) "__ne__" = some (some (.builtin "object.__ne__"))) (hm : PySem.W.mroIn X.K C (.type "object") = some true) (he : PySem.W.findIn X.K (.ref C) "__eq__" = some (some (.ref g))) (hf : PySem.W.isFn X.K (.ref g) = true) (F : FnR X.prog X.w X.K X.mg X.base CX n g sp)
    (hr : Room (n + 1) X.A) (hx : Passes CX X E) : OpR X (compareOp .NotEq) (rNeI X.K C sp E) := by
  intro pins s σ H x y v u Q I rx ry h
  obtain ⟨a, dx, fs, t, rfl, ea, ty, hn, q⟩ := h
  cases (show v = Value.ref a from rx)
  obtain ⟨ox, od, J⟩ := inst_at I ea
  obtain ⟨P, Z, p, _⟩ := kit_of I ry ty
  show wpAny _ _ (richCompare .NotEq (.ref a) u) _ _ _
  have hr1 : Room n X.A.in1 := Room.in1 hr
  refine ne_own (tb := t) hr.units0 hr1.units0 I.kIn J (Z.ty _ _ I.kIn p) hn hs hm he hf ?_
  refine wpAny_mono (wpAny_call (SlX.run_at (us := [.ref a, u]) (ws := [.ref a, y]) F hr1 I.env0.in1 hx I (.cons rfl (.cons ry .nil)) q)) (fun w s' z => ?_) fun _ _ x => x
  obtain ⟨z', H', I', rz, b, eb, qz⟩ := z
  subst eb
  cases (show w = Value.bool b from rz)
  exact ⟨b, rfl, .bl (!b), H', I', rfl, qz⟩
def rStrI (C : Addr) (sp : Sp) (E : XK) : List V → Hp → VK → Prop := fun xs H Q => ∃ a dx fs, xs = [V.ref a] ∧ H a = some (.ins C dx fs) ∧ sp [.ref a] H (fun z H' => ∃ x : Str, z = .str x ∧ Q z H') E
theorem call_strI (hs : PySem.W.findIn X.K (.ref C) "__str__" = some (some (.ref g))) (hf : PySem.W.isFn X.K (.ref g) = true) (F : FnR X.prog X.w X.K X.mg X.base CX n g sp) (hr : Room (n + 2) X.A) (hx : Passes CX X E) : CallR X (.type "str") (rStrI C sp E) := by
  intro pins s σ H xs us Q I r h
  obtain ⟨a, dx, fs, rfl, ea, q⟩ := h
  obtain ⟨u, rfl, ru⟩ := r.one
  cases (show u = Value.ref a from ru)
  obtain ⟨ox, od, J⟩ := inst_at I ea
  have hr2 : Room n X.A.in1.in1 := (show Room (n + 1) X.A.in1 from Room.in1 hr).in1
  refine PySem.W.kso_call hr2.units0 I.kIn J hs hf (wpAny_mono (wpAny_call (SlX.run_at (us := [.ref a]) (ws := [.ref a]) F hr2 I.env0.in1.in1 hx I (.cons rfl .nil) q)) (fun w s' z => ?_) fun _ _ x => x)
  obtain ⟨z', H', I', rz, i, ei, qz⟩ := z
  subst ei
  obtain ⟨t, e⟩ := (show ∃ t, w = Value.str i t from rz)
  cases e
  exact ⟨.str i, H', I', ⟨_, rfl⟩, qz⟩
end
end Mc
namespace Mc
open PySem PySem.Spec PyProof.Rows L2 Evl
structure Kl (K : PySem.W.Frag) (C : Addr) : Prop where
  cl : Cls K C
  ha : PySem.W.findIn K (.ref C) "__class__" = some (some (.builtin "object.__class__"))
  hn : PySem.W.specialIn K (.builtin "object.__class__") "__get__" = some (some (.builtin "getset_descriptor.__get__"))
  htk : PySem.W.takesIn K (.builtin "object.__class__") = some true
  hm : PySem.W.mroIn K C (.type "object") = some true
def tyD : Dt → Value
  | .non => .type "NoneType" | .bl _ => .type "bool" | .int _ => .type "int" | .str _ => .type "str" | .lst _ => .type "list" | .tup _ => .type "tuple" | .obj C _ => .ref C | .dct _ => .type "dict" | .dcT _ => .type "dict" | _ => .none
def tyOk (K : PySem.W.Frag) : Dt → Prop
  | .obj C _ => Kl K C | .ty _ => False | .ptr _ => False | .slf _ _ _ => False | _ => True
theorem rp_ty {K : PySem.W.Frag} {H : Hp} {d : Dt} {v : V} (h : Rp K H d v) (o : tyOk K d) : TyX K H v (tyD d) := by
  cases d with
  | non => rw [show v = .non from h]; exact .base .non
  | bl b => rw [show v = .bl b from h]; exact .base (.bl b)
  | int b => rw [show v = .int b from h]; exact .base (.int b)
  | str b => rw [show v = .str b from h]; exact .base (.str b)
  | lst ds =>
    obtain ⟨a, xs, rfl, h2, _⟩ := h
    exact .base (.lst h2)
  | tup ds =>
    obtain ⟨a, xs, rfl, ⟨h2, _⟩, _⟩ := h
    rcases h2 with (h2 | ⟨o', h2⟩) | ⟨o', its, n, h2, h3, _⟩
    · exact .base (.tup h2)
    · exact .fTuple h2
    · exact .kTuple h2 h3
  | obj C fs =>
    obtain ⟨a, dx, gs, rfl, h2, _⟩ := h
    have k : Kl K C := o
    exact .base (.ins h2 k.cl k.ha k.hn k.htk k.hm)
  | dct kvs =>
    obtain ⟨a, ws, rfl, h2, _⟩ := h
    exact .base (.dK h2)
  | dcT kvs =>
    obtain ⟨a, ws, rfl, h2, _⟩ := h
    exact .base (.dT h2)
  | ty n => exact o.elim
  | ptr a => exact o.elim
  | slf x gs ds => exact o.elim
section
variable {M : Mode} {δ : Ds} {ta tb te tx : TE} {d e f : Dt} {P P' : Dt → Prop}
theorem Mode.R.ty {H : Hp} {v : V} (h : M.R H d v) (o : tyOk M.K d) : TyX M.K H v (tyD d) := rp_ty (Rp.mono (cut_le _ _) h) o
theorem tyx_up {K : PySem.W.Frag} {H H' : Hp} {v : V} {t : Value} (e : Ex H H') (h : TyX K H v t) : TyX K H' v t := by
  cases h with
  | base h =>
    cases h with
    | non => exact .base .non
    | bl x => exact .base (.bl x)
    | int x => exact .base (.int x)
    | str x => exact .base (.str x)
    | flt x => exact .base (.flt x)
    | lst h => exact .base (.lst (e _ _ h))
    | frz h => exact .base (.frz (e _ _ h))
    | tup h => exact .base (.tup (e _ _ h))
    | dK h => exact .base (.dK (e _ _ h))
    | dT h => exact .base (.dT (e _ _ h))
    | ins h a b c d f => exact .base (.ins (e _ _ h) a b c d f)
  | byt b => exact .byt b
  | set h => exact .set (e _ _ h)
  | kList h c => exact .kList h c
  | kTuple h c => exact .kTuple h c
  | kDict h c => exact .kDict h c
  | fTuple h => exact .fTuple (e _ _ h)
  | fDict h => exact .fDict (e _ _ h)
theorem RpF.look {K : PySem.W.Frag} {H : Hp} {f : Str} : ∀ {fs : List (Str × Dt)} {gs : List (Str × V)} {d : Dt}, RpF K H fs gs → fs.lookup f = some d → ∃ v, gs.lookup f = some v ∧ Rp K H d v
  | [], _, d, _, e => by cases e
  | (g, c) :: fs, _, d, ⟨v, r, h1, h2, h3⟩, e => by
    rw [h1]
    rw [List.lookup_cons] at e ⊢
    dsimp only at e ⊢
    cases q : f == g with
    | true =>
      rw [q] at e
      cases e
      exact ⟨v, rfl, h2⟩
    | false =>
      rw [q] at e
      exact RpF.look h3 e
theorem RpF.none {K : PySem.W.Frag} {H : Hp} {f : Str} : ∀ {fs : List (Str × Dt)} {gs : List (Str × V)}, RpF K H fs gs → fs.lookup f = none → gs.lookup f = none
  | [], _, h, _ => by rw [show _ = [] from h]; rfl
  | (g, c) :: fs, _, ⟨v, r, h1, h2, h3⟩, e => by
    rw [h1]
    rw [List.lookup_cons] at e ⊢
    dsimp only at e ⊢
    cases q : f == g with
    | true =>
      rw [q] at e
      cases e
    | false =>
      rw [q] at e
      exact RpF.none h3 e
end
theorem RpS.put {K : PySem.W.Frag} {H : Hp} {δ : Ds} {σ : L2.St} {i : Nat} {d : Dt} {v : V} (h : RpS K H δ σ) (hv : σ[i]? = some (some v)) (r : Rp K H d v) : RpS K H (δ.set i (some d)) σ := by
  have q := RpS.set (i := i) r h
  have e : σ.set i (some v) = σ := by
    obtain ⟨hi, e⟩ := List.getElem?_eq_some_iff.mp hv
    rw [← e, List.set_getElem_self]
  rw [e] at q
  exact q
end Mc
namespace Mc
open PySem PySem.Spec PyProof.Rows L2 Evl
def signsD (x : Str) : List Dt := x.cps.toList.map fun c => Dt.str ⟨#[c]⟩
theorem signsD_len (x : Str) : (signsD x).length = x.length := by
  unfold signsD
  rw [List.length_map]
  rfl
theorem turns_str {N : Mode} {H1 : Hp} {x : Str} : Turns N (Its x) H1 (signsD x) where
  go := fun i H' l j hi => by
    rw [signsD_len] at hi
    exact hi
  stop := fun H' l j => by
    rw [signsD_len]
    exact Nat.le_refl _
  yld := fun i H' v H'' d l j y hd => by
    obtain ⟨y1, c, y2, y3⟩ := y
    subst y1 y3
    unfold signsD at hd
    rw [List.getElem?_map] at hd
    obtain ⟨c', hc, rfl⟩ := Option.map_eq_some_iff.mp hd
    have e : c' = c := by
      rw [Array.getElem?_toList, y2] at hc
      exact (Option.some.inj hc).symm
    subst e
    exact ⟨rfl, Ex.refl _⟩
section
variable {M : Mode} {δ : Ds} {ta tb te tx : TE} {d e f : Dt} {P P' : Dt → Prop}
def instD : String → Dt → Bool
  | "int", .int _ => true | "int", .bl _ => true | "bool", .bl _ => true | "str", .str _ => true | "list", .lst _ => true | "tuple", .tup _ => true | _, _ => false
end
def noBi (K : PySem.W.Frag) (C : Addr) : Prop := ∀ n ∈ ["int", "bool", "str", "list", "tuple"], PySem.W.kitOne K (.ref C) (.type n) = some false
def valD (K : PySem.W.Frag) : Dt → Prop
  | .obj C _ => Kl K C ∧ noBi K C | .ty _ => False | .ptr _ => False | .slf _ _ _ => False | _ => True
theorem valD.ty {K : PySem.W.Frag} {d : Dt} (h : valD K d) : tyOk K d := by
  cases d <;> first | exact h.1 | exact h
theorem kit_D {K : PySem.W.Frag} {d : Dt} {n : String} (h : valD K d) (hn : n ∈ ["int", "bool", "str", "list", "tuple"]) : PySem.W.kitOne K (tyD d) (.type n) = some (instD n d) := by
  cases d with
  | obj C fs =>
    rw [show tyD (.obj C fs) = .ref C from rfl, h.2 n hn]
    simp only [List.mem_cons, List.mem_nil_iff, or_false] at hn
    rcases hn with rfl | rfl | rfl | rfl | rfl <;> rfl
  | ty n => exact h.elim
  | ptr n => exact h.elim
  | slf x gs ds => exact h.elim
  | _ =>
    simp only [List.mem_cons, List.mem_nil_iff, or_false] at hn
    rcases hn with rfl | rfl | rfl | rfl | rfl <;> first | exact kit_ty (r := true) (by decide +kernel) | exact kit_ty (r := false) (by decide +kernel)
section
variable {M : Mode} {δ : Ds} {ta tb te tx : TE} {d e f : Dt} {P P' : Dt → Prop}
theorem inV_strs {x : Str} : ∀ {xs : List Str}, inV (.str x) (xs.map V.str) = decide (x ∈ xs)
  | [] => rfl
  | y :: xs => by
    show (eqV (.str y) (.str x) || inV (.str x) (xs.map V.str)) = _
    rw [inV_strs, show eqV (.str y) (.str x) = (y == x) from rfl]
    by_cases h : y = x
    · subst h
      simp
    · have h' : x ≠ y := fun z => h z.symm
      simp [h, h']
end
end Mc
namespace Mc
open PySem PySem.Spec PyProof.Rows L2 Evl
def Gv (mg : Str → Option Value) (x : Str) (v : V) : Prop := ∃ u, mg x = some u ∧ RelV v u
theorem pe_gv {X : Cx} {x : Str} {v : V} {pos : Pos} (h : Gv X.mg x v) (hg : Gl X x) (hdb : (x == ("__debug__" : Str)) = false := by decide) : PE X (.Name x pos) (tC v) := by
  obtain ⟨u, h1, h2⟩ := h
  exact pe_glob hg h1 h2 hdb
section
variable {X : Cx} {K : PySem.W.Frag}
theorem k_isi (K : PySem.W.Frag) (h : X.K = K := by rfl) : CallR X (.builtin "isinstance") (rIsi K) := by subst h; exact call_isi
theorem k_isiT (K : PySem.W.Frag) (h : X.K = K := by rfl) : CallR X (.builtin "isinstance") (rIsiT K) := by subst h; exact call_isiT
theorem pe_ty {x : Str} {pos : Pos} (n : String) (hg : Gl X x) (hm : X.mg x = none) (hv : bootBuiltins x = some (.type n)) (hn : x ≠ "__name__" := by decide) (hd : (x == ("__debug__" : Str)) = false := by decide) : PE X (.Name x pos) (tC (.ty n)) := pe_bltn (v := .ty n) hg hm hv rfl hn hd
end
end Mc
namespace Mc
open PySem PySem.Spec PyProof.Rows L2 Evl
def tStar (K : PySem.W.Frag) (te : TE) : TA := fun σ H Q => te σ H fun y H2 => ∃ t vs, y = .ref t ∧ (SqT K H2 t vs ∨ SqL K H2 t vs) ∧ Q vs H2
theorem pa_star {X : Cx} {e : Expr} {p : Pos} {te : TE} (K : PySem.W.Frag) (he : PE X e te) (hK : X.K = K := by rfl) (hs : starEach [.Starred e p] X.env = [(true, eval e X.env)] := by rfl) : PA X [.Starred e p] (tStar K te) := by
  subst hK
  refine ⟨fun pos pins s σ H Q I h => ?_⟩
  rw [hs]
  refine PySem.W.ks_spliced (thn (he.run pins s σ H _ I h) fun v s4 ⟨y, H3, I4, ry, t, vs, ey, ht, q⟩ => ?_)
  subst ey
  obtain rfl : v = Value.ref t := ry
  refine StX.star_any I4 ht fun us s5 I5 rv => Calls.spliced_nil ?_
  exact ⟨vs, H3, I5, by rw [List.append_nil]; exact rv, q⟩
end Mc
namespace Mc
open PySem PySem.Spec PyProof.Rows L2 Evl
structure FunA (K : PySem.W.Frag) (x qual : Str) (st : Stmt) (f : Addr) (fd : FuncData) : Prop where
  ex : ∃ (oc : Value) (od : Option Addr) (dV kV doc pm : Value) (an : Option Addr) (cdv ct : Value) (osl : Array (Option Value)),
    fd = PySem.W.fnOf x qual (defArgs st) (defBody st) (defScope st) dV kV doc pm an cdv ct ∧ K.lookup f = some ⟨oc, od, .func fd, osl⟩ ∧ PySem.W.codeIn K cdv qual = true
section
variable {P : Program} {w : World} {K : PySem.W.Frag} {mg : Str → Option Value} {base : Heap}
theorem FunA.ok {x qual : Str} {st : Stmt} {f : Addr} {fd : FuncData} {N ps : List Str} {k : Nat} {sp : Sp} (F : FunA K x qual st f fd) (S : FnScope N ps (defScope st)) (len : ∀ vs H Q E, sp vs H Q E → vs.length = ps.length)
    (hbody : ∀ (cdv : Value) (A : Around) (outer : List Env) (s : Shared) (H : Hp) (vs : List V) (Q : VK) (E : XK), Room k (A.deeper (envOfC qual (defScope st) s.heap.objs.size f cdv)) → sp vs H Q E →
      ∃ t, PSs (cxOf CX0 P w K mg base N qual (defScope st) f cdv A outer s H E).nox (defBody st) t ∧ t { nx := fun _ H' => Q .non H', rt := Q } (L2.start N vs) H) : FnOk P w K mg base CX0 (k + 1) f fd ps sp := by
  obtain ⟨oc, od, dV, kV, doc, pm, an, cdv, ct, osl, rfl, lk, hcd⟩ := F.ex
  refine fn_of lk hcd S len fun A outer s H vs Q E hr hsp => ?_
  obtain ⟨t, h, q⟩ := hbody cdv A outer s H vs Q E hr hsp
  exact ⟨t, h.nox, q⟩
end
end Mc
namespace Mc
open PySem PySem.Spec PyProof.Rows L2 Evl
def tMakeL (i : Nat) (C : Addr) (sp : Sp) (dvs : List V) (E : XK) (t : TA) : TE := fun σ H Q => σ[i]? = some (some (.ref C)) ∧ tMake C sp dvs E t σ H Q
section
variable {X : Cx} {C f : Addr} {k i : Nat} {CX : CXT} {sp : Sp} {E : XK} {x : Str} {p pos : Pos} {e : Expr} {es : List Expr} {t : TA} {fd : FuncData} {ps : List Str} {ds : List Value} {dvs : List V}
theorem pe_makeL (M : Mk X.K C f) (F : FnOk X.prog X.w X.K X.mg X.base CX k f fd ps sp) (hr : Room (k + 1) X.A) (hN : X.N[i]? = some x) (hv : Vis X.env.scope x) (hb : Binds X.K fd ps ds) (hd : Vals dvs ds) (hx : Passes CX X E) (ha : PA X (e :: es) t)
    (hdb : (x == ("__debug__" : Str)) = false := by decide) (hcd : (x == ("__classdict__" : Str)) = false := by decide)
    (he : starEach (e :: es) X.env = (false, eval e X.env) :: starEach es X.env := by rfl) (hpl : (backTo pos (starEach es X.env)).any (·.1) = false := by rfl) : PE X (.Call (.Name x p) (e :: es) [] pos) (tMakeL i C sp dvs E t) := by
  refine ⟨fun pins s σ H Q I h => ?_⟩
  obtain ⟨hs, ht⟩ := h
  refine wpAny_Call_Name_kw (thn ((pe_var (pos := p) hN hv hdb hcd).run pins s σ H (fun v H1 => v = .ref C ∧ H1 = H) I ⟨.ref C, hs, rfl, rfl⟩) fun u s1 ⟨v, H1, I1, r1, q1⟩ => ?_)
  obtain ⟨rfl, rfl⟩ := q1
  cases r1
  refine PySem.W.callWith_K (h₀ := X.base) I.ok.mod.kin M.kp (thn (ha.run pos pins s1 σ _ _ I1 ht) fun us s2 ⟨vs, H2, I2, r, q⟩ => ⟨I2.kIn, ?_⟩) he hpl
  exact run_make M F hr hb hd hx I2 r q
end
end Mc
namespace Mc
open PySem L2
inductive Tr (α : Type) where
  | ret (a : α) | draw (n : Nat) (k : Nat → Tr α) | stuck
def Tr.bind {α β : Type} : Tr α → (α → Tr β) → Tr β
  | .ret a, f => f a
  | .draw n k, f => .draw n fun i => (k i).bind f
  | .stuck, _ => .stuck
def Tr.All {α : Type} : Tr α → (α → Prop) → Prop
  | .ret a, P => P a
  | .draw n k, P => ∀ i, i < n → (k i).All P
  | .stuck, _ => False
@[simp] theorem Tr.ret_bind {α β : Type} (a : α) (f : α → Tr β) : (Tr.ret a).bind f = f a := rfl
@[simp] theorem Tr.stuck_bind {α β : Type} (f : α → Tr β) : (Tr.stuck : Tr α).bind f = .stuck := rfl
@[simp] theorem Tr.ret_all {α : Type} (a : α) (P : α → Prop) : (Tr.ret a).All P = P a := rfl
@[simp] theorem Tr.stuck_all {α : Type} (P : α → Prop) : (Tr.stuck : Tr α).All P = False := rfl
theorem Tr.all_bind {α β : Type} {f : α → Tr β} {P : β → Prop} : ∀ {m : Tr α}, (m.bind f).All P ↔ m.All fun a => (f a).All P
  | .ret a => Iff.rfl
  | .draw n k => ⟨fun h i hi => Tr.all_bind.mp (h i hi), fun h i hi => Tr.all_bind.mpr (h i hi)⟩
  | .stuck => Iff.rfl
theorem Tr.All.mono {α : Type} {P Q : α → Prop} (w : ∀ a, P a → Q a) : ∀ {m : Tr α}, m.All P → m.All Q
  | .ret a, h => w a h
  | .draw n k, h => fun i hi => Tr.All.mono w (h i hi)
  | .stuck, h => h
theorem Tr.bind_assoc {α β γ : Type} {f : α → Tr β} {g : β → Tr γ} : ∀ {m : Tr α}, (m.bind f).bind g = m.bind fun a => (f a).bind g
  | .ret a => rfl
  | .draw n k => by
    show Tr.draw n _ = Tr.draw n _
    congr
    funext i
    exact Tr.bind_assoc
  | .stuck => rfl
def Tr.of {α : Type} : Option α → Tr α
  | some a => .ret a
  | none => .stuck
@[simp] theorem Tr.of_some {α : Type} (a : α) : Tr.of (some a) = .ret a := rfl
@[simp] theorem Tr.of_none {α : Type} : Tr.of (none : Option α) = .stuck := rfl
theorem Tr.of_all {α : Type} {o : Option α} {P : α → Prop} (h : (Tr.of o).All P) : ∃ a, o = some a ∧ P a := by
  cases o with
  | none => exact h.elim
  | some a => exact ⟨a, rfl, h⟩
abbrev D := Dt
inductive Sl where
  | d (x : D) | own (ds : List D) | ob (k : Addr) (fs : List (Str × D)) | dk (kvs : List (Str × Int))
abbrev En := List (Option Sl)
inductive Vl where
  | d (x : D) | r (i : Nat)
inductive Rv where
  | d (x : D) | l (ds : List D) | o (k : Addr) (fs : List (Str × D))
def look (e : En) : Vl → Option Rv
  | .d x => some (.d x)
  | .r i => match e[i]? with
    | some (some (.own ds)) => some (.l ds)
    | some (some (.ob k fs)) => some (.o k fs)
    | _ => none
def looks (e : En) : List Vl → Option (List Rv)
  | [] => some []
  | v :: vs => (look e v).bind fun r => (looks e vs).bind fun rs => some (r :: rs)
def dat : Vl → Option D
  | .d x => some x
  | .r _ => none
def dats : List Vl → Option (List D)
  | [] => some []
  | v :: vs => (dat v).bind fun r => (dats vs).bind fun rs => some (r :: rs)
abbrev XE := En → Tr (Vl × En)
abbrev XA := En → Tr (List Vl × En)
abbrev XT := En → Tr (Bool × En)
def getV (e : En) (i : Nat) : Option Vl := match e[i]? with
  | some (some (.d x)) => some (.d x)
  | some (some _) => some (.r i)
  | _ => none
def xC (x : D) : XE := fun e => .ret (.d x, e)
def xVar (i : Nat) : XE := fun e => (Tr.of (getV e i)).bind fun v => .ret (v, e)
def xNil : XA := fun e => .ret ([], e)
def xCons (a : XE) (as : XA) : XA := fun e => (a e).bind fun p => (as p.2).bind fun q => .ret (p.1 :: q.1, q.2)
def seqR : Rv → Option (List D)
  | .d (.lst ds) => some ds
  | .d (.tup ds) => some ds
  | .l ds => some ds
  | _ => none
def xStar (a : XE) (as : XA) : XA := fun e => (a e).bind fun p => (Tr.of ((look p.2 p.1).bind seqR)).bind fun ds => (as p.2).bind fun q => .ret (ds.map .d ++ q.1, q.2)
def xB (f : List Rv → Option D) (as : XA) : XE := fun e => (as e).bind fun p => (Tr.of ((looks p.2 p.1).bind f)).bind fun d => .ret (.d d, p.2)
def xF (g : List D → Tr D) (as : XA) : XE := fun e => (as e).bind fun p => (Tr.of (dats p.1)).bind fun ds => (g ds).bind fun d => .ret (.d d, p.2)
def blV : Vl → Option Bool
  | .d (.bl b) => some b
  | _ => none
def xTest (a : XE) : XT := fun e => (a e).bind fun p => (Tr.of (blV p.1)).bind fun b => .ret (b, p.2)
def xAndT (a b : XT) : XT := fun e => (a e).bind fun p => match p.1 with | true => b p.2 | false => .ret (false, p.2)
def xOrT (a b : XT) : XT := fun e => (a e).bind fun p => match p.1 with | true => .ret (true, p.2) | false => b p.2
def xNotT (a : XT) : XT := fun e => (a e).bind fun p => .ret (!p.1, p.2)
def xAnd (a b : XE) : XE := fun e => (a e).bind fun p => (Tr.of (blV p.1)).bind fun c => match c with | true => b p.2 | false => .ret (.d (.bl false), p.2)
def xOr (a b : XE) : XE := fun e => (a e).bind fun p => (Tr.of (blV p.1)).bind fun c => match c with | true => .ret (.d (.bl true), p.2) | false => b p.2
def xNot (a : XE) : XE := fun e => (a e).bind fun p => (Tr.of (blV p.1)).bind fun c => .ret (.d (.bl (!c)), p.2)
def xIf (t : XT) (a b : XE) : XE := fun e => (t e).bind fun p => match p.1 with | true => a p.2 | false => b p.2
def xTup (as : XA) : XE := fun e => (as e).bind fun p => (Tr.of (dats p.1)).bind fun ds => if ds.length ≤ 100000 then .ret (.d (.tup ds), p.2) else .stuck
def xLst (as : XA) : XE := fun e => (as e).bind fun p => (Tr.of (dats p.1)).bind fun ds => if ds.length ≤ 100000 then .ret (.d (.lst ds), p.2) else .stuck
abbrev XG := D → En → Option En
def gN (i : Nat) : XG := fun x e => some (e.set i (some (.d x)))
abbrev XGs := List D → En → Option En
def gs0 : XGs := fun xs e => match xs with | [] => some e | _ => none
def gsC (g : XG) (gs : XGs) : XGs := fun xs e => match xs with | [] => none | x :: r => (g x e).bind fun e1 => gs r e1
def gT (gs : XGs) : XG := fun x e => match x with | .tup ds => gs ds e | _ => none
abbrev XI := En → Tr (List D × En)
def iX (f : List Rv → Option (List D)) (as : XA) : XI := fun e => (as e).bind fun p => (Tr.of ((looks p.2 p.1).bind f)).bind fun ds => .ret (ds, p.2)
def wipeN (e : En) : List Nat → En
  | [] => e
  | i :: is => (wipeN e is).set i none
def noOwn (e : En) (i : Nat) : Bool := match e[i]? with
  | some (some (.own _)) => false
  | some (some (.ob _ _)) => false
  | some (some (.dk _)) => false
  | _ => true
def lcLoop (g : XG) (t : XT) (a : XE) (e : En) : List D → List D → Tr (List D)
  | [], acc => .ret acc
  | x :: xs, acc => (Tr.of (g x e)).bind fun e1 => (t e1).bind fun p => match p.1 with
    | false => lcLoop g t a e xs acc
    | true => (a p.2).bind fun q => (Tr.of (dat q.1)).bind fun y => lcLoop g t a e xs (acc ++ [y])
def xLc (it : XI) (g : XG) (t : XT) (a : XE) (vs : List Nat) : XE := fun e => (it e).bind fun p => if p.1.length ≤ 50000 ∧ vs.all (noOwn p.2) = true then (lcLoop g t a (wipeN p.2 vs) p.1 []).bind fun ys => .ret (.d (.lst ys), p.2) else .stuck
def yes : XT := fun e => .ret (true, e)
inductive Fl where
  | nx (e : En) | rt (v : Vl) (e : En) | bk (e : En) | ct (e : En) | xc (k : Addr) (f : Str) (d : D) (e : En)
abbrev XS := En → Tr Fl
def sNext : XS := fun e => .ret (.nx e)
def sNever : XS := fun _ => .stuck
def sSeq (s t : XS) : XS := fun e => (s e).bind fun f => match f with | .nx e1 => t e1 | f => .ret f
def sAsg (a : XE) (g : XG) : XS := fun e => (a e).bind fun p => (Tr.of ((dat p.1).bind fun x => g x p.2)).bind fun e1 => .ret (.nx e1)
def sDrop (a : XE) : XS := fun e => (a e).bind fun p => .ret (.nx p.2)
def sRet (a : XE) : XS := fun e => (a e).bind fun p => .ret (.rt p.1 p.2)
def sRetN : XS := fun e => .ret (.rt (.d .non) e)
def sBreak : XS := fun e => .ret (.bk e)
def sCont : XS := fun e => .ret (.ct e)
def sIf (t : XT) (a b : XS) : XS := fun e => (t e).bind fun p => match p.1 with | true => a p.2 | false => b p.2
def forLoop (g : XG) (b : XS) : List D → En → Tr Fl
  | [], e => .ret (.nx e)
  | x :: xs, e => (Tr.of (g x e)).bind fun e1 => (b e1).bind fun f => match f with
    | .nx e2 => forLoop g b xs e2
    | .ct e2 => forLoop g b xs e2
    | .bk e2 => .ret (.nx e2)
    | .rt v e2 => .ret (.rt v e2)
    | .xc k n d e2 => .ret (.xc k n d e2)
def sFor (it : XI) (g : XG) (b : XS) : XS := fun e => (it e).bind fun p => forLoop g b p.1 p.2
def sOwn (i : Nat) (as : XA) : XS := fun e => (as e).bind fun p => (Tr.of (dats p.1)).bind fun ds => if ds.length ≤ 100000 then .ret (.nx (p.2.set i (some (.own ds)))) else .stuck
def sFrz (i : Nat) : XS := fun e => match e[i]? with
  | some (some (.own ds)) => .ret (.nx (e.set i (some (.d (.lst ds)))))
  | _ => .stuck
def chg (e : En) (i : Nat) (f : List D → Option (D × List D)) : Option (D × En) := match e[i]? with
  | some (some (.own ds)) => (f ds).bind fun p => some (p.1, e.set i (some (.own p.2)))
  | _ => none
def rix : Vl → Option Nat
  | .r i => some i
  | _ => none
def lstAt (e : En) (v : Vl) : Option (List D) := match look e v with
  | some (.l ds) => some ds
  | _ => none
def xMut (f : List Rv → List D → Option (D × List D)) (o : XE) (as : XA) : XE := fun e => (o e).bind fun p => (Tr.of (lstAt p.2 p.1)).bind fun _ => (as p.2).bind fun q =>
  (Tr.of ((rix p.1).bind fun i => (looks q.2 q.1).bind fun rs => chg q.2 i (f rs))).bind fun r => .ret (.d r.1, r.2)
def recv (ms : List (Addr × (List D → Tr D))) (m : Str) : Vl → Option (D × (List D → Tr D))
  | .d (.obj k fs) => if (fs.lookup m).isNone then (ms.lookup k).map fun g => (.obj k fs, g) else none
  | _ => none
def xM (ms : List (Addr × (List D → Tr D))) (m : Str) (o : XE) (as : XA) : XE := fun e => (o e).bind fun p => (Tr.of (recv ms m p.1)).bind fun r => (as p.2).bind fun q => (Tr.of (dats q.1)).bind fun ds => (r.2 (r.1 :: ds)).bind fun d => .ret (.d d, q.2)
def isPtr (e : En) (i : Nat) (c : Addr) : Bool := match e[i]? with
  | some (some (.d (.ptr c'))) => c' == c
  | _ => false
def xMkL (i : Nat) (c : Addr) (g : List D → Tr D) (as : XA) : XE := fun e => if isPtr e i c = true then xF g as e else .stuck
def caseOf : List (Str × XS) → Str → XS
  | [], _ => sNext
  | (x, s) :: r, z => if z = x then s else caseOf r z
def strV : Vl → Option Str
  | .d (.str x) => some x
  | _ => none
def xTx (f : List Rv → Option D) (a b : XE) : XE := fun e => (a e).bind fun p => (Tr.of (strV p.1)).bind fun z => (b p.2).bind fun q => (Tr.of ((look q.2 q.1).bind fun r => f [.d (.str z), r])).bind fun d => .ret (.d d, q.2)
def xChain (f g : List Rv → Option D) (a b c : XE) : XE := fun e => (a e).bind fun p => (b p.2).bind fun q => (Tr.of ((looks q.2 [p.1, q.1]).bind f)).bind fun d => (Tr.of (blV (.d d))).bind fun k => match k with
  | true => (c q.2).bind fun r => (Tr.of ((looks r.2 [q.1, r.1]).bind g)).bind fun d' => .ret (.d d', r.2)
  | false => .ret (.d (.bl false), q.2)
def sMatch (a : XE) (cs : List (Str × XS)) : XS := fun e => (a e).bind fun p => (Tr.of (strV p.1)).bind fun z => caseOf cs z p.2
def startN (n : Nat) (sl : List Sl) : En := sl.map some ++ List.replicate (n - sl.length) none
def resD (e : En) : Vl → Option D
  | .d x => some x
  | .r i => match e[i]? with
    | some (some (.own ds)) => some (.lst ds)
    | some (some (.ob k fs)) => some (.obj k fs)
    | _ => none
def endF : Fl → Tr D
  | .nx _ => .ret .non
  | .rt v e => Tr.of (resD e v)
  | _ => .stuck
def runF (n : Nat) (b : XS) (args : List D) : Tr D := (b (startN n (args.map .d))).bind endF
def obAt (e : En) (i : Nat) : Option D := match e[i]? with
  | some (some (.ob k fs)) => some (.obj k fs)
  | _ => none
def endI : Fl → Tr D
  | .nx e => Tr.of (obAt e 0)
  | _ => .stuck
def makeF (k : Addr) (n : Nat) (b : XS) (args : List D) : Tr D := (b (startN n (.ob k [] :: args.map .d))).bind endI
def putA (f : Str) (x : D) : List (Str × D) → List (Str × D)
  | [] => [(f, x)]
  | p :: r => if p.1 = f then (f, x) :: r else p :: putA f x r
def fldToK (c : Addr) (e : En) (i : Nat) (f : Str) (x : D) : Option En := match e[i]? with
  | some (some (.ob k fs)) => if k = c ∧ fs.length < 900 then some (e.set i (some (.ob k (putA f x fs)))) else none
  | _ => none
def sFldK (c : Addr) (i : Nat) (f : Str) (a : XE) : XS := fun e => (a e).bind fun p => (Tr.of ((dat p.1).bind fun x => fldToK c p.2 i f x)).bind fun e1 => .ret (.nx e1)
abbrev XL := En → Tr (List D × En)
def lDisp (as : XA) : XL := fun e => (as e).bind fun p => (Tr.of (dats p.1)).bind fun ds => if ds.length ≤ 100000 then .ret (ds, p.2) else .stuck
def lList (a : XE) : XL := fun e => (a e).bind fun p => (Tr.of ((look p.2 p.1).bind seqR)).bind fun ds => .ret (ds, p.2)
def lstR : Rv → Option (List D)
  | .d (.lst ds) => some ds
  | .l ds => some ds
  | _ => none
def catR (p q : Option Rv) : Option (List D) := p.bind fun a => q.bind fun b => (lstR a).bind fun x => (lstR b).bind fun y => if x.length + y.length ≤ 100000 then some (x ++ y) else none
def lAdd (a b : XE) : XL := fun e => (a e).bind fun p => (b p.2).bind fun q => (Tr.of (catR (look q.2 p.1) (look q.2 q.1))).bind fun ds => .ret (ds, q.2)
def lLc (it : XI) (g : XG) (t : XT) (a : XE) (vs : List Nat) : XL := fun e => (it e).bind fun p => if p.1.length ≤ 50000 ∧ vs.all (noOwn p.2) = true then (lcLoop g t a (wipeN p.2 vs) p.1 []).bind fun ys => .ret (ys, p.2) else .stuck
def sOwnF (i : Nat) (x : XL) : XS := fun e => (x e).bind fun p => .ret (.nx (p.2.set i (some (.own p.1))))
def sParFF (i j : Nat) (x y : XL) : XS := fun e => (x e).bind fun p => (y p.2).bind fun q => .ret (.nx ((q.2.set i (some (.own p.1))).set j (some (.own q.1))))
def sParFD (i j : Nat) (x : XL) (y : XE) : XS := fun e => (x e).bind fun p => (y p.2).bind fun q => (Tr.of (dat q.1)).bind fun d => .ret (.nx ((q.2.set i (some (.own p.1))).set j (some (.d d))))
def sParDF (i j : Nat) (x : XE) (y : XL) : XS := fun e => (x e).bind fun p => (y p.2).bind fun q => (Tr.of (dat p.1)).bind fun d => .ret (.nx ((q.2.set i (some (.d d))).set j (some (.own q.1))))
def sParDD (i j : Nat) (x y : XE) : XS := fun e => (x e).bind fun p => (y p.2).bind fun q => (Tr.of (dat p.1)).bind fun d => (Tr.of (dat q.1)).bind fun d' => .ret (.nx ((q.2.set i (some (.d d))).set j (some (.d d'))))
end Mc
namespace Mc
open PySem PySem.Spec PyProof.Rows L2 Evl
mutual
def ren (ρ : Addr → Addr) : D → D
  | .ptr a => .ptr (ρ a)
  | .lst ds => .lst (rens ρ ds)
  | .tup ds => .tup (rens ρ ds)
  | .obj C fs => .obj (ρ C) (renF ρ fs)
  | .dct kvs => .dct (renK ρ kvs)
  | .dcT kvs => .dcT (renT ρ kvs)
  | .non => .non
  | .bl b => .bl b
  | .int i => .int i
  | .str x => .str x
  | .ty n => .ty n
  | .slf x gs ds => .slf x gs ds
def rens (ρ : Addr → Addr) : List D → List D
  | [] => []
  | d :: ds => ren ρ d :: rens ρ ds
def renF (ρ : Addr → Addr) : List (Str × D) → List (Str × D)
  | [] => []
  | f :: fs => (f.1, ren ρ f.2) :: renF ρ fs
def renK (ρ : Addr → Addr) : List (Key × D) → List (Key × D)
  | [] => []
  | f :: fs => (f.1, ren ρ f.2) :: renK ρ fs
def renT (ρ : Addr → Addr) : List (List Key × D) → List (List Key × D)
  | [] => []
  | f :: fs => (f.1, ren ρ f.2) :: renT ρ fs
end
theorem rens_map (ρ : Addr → Addr) : ∀ ds : List D, rens ρ ds = ds.map (ren ρ)
  | [] => rfl
  | d :: ds => by
    show ren ρ d :: rens ρ ds = _
    rw [rens_map ρ ds]
    rfl
theorem rens_len (ρ : Addr → Addr) (ds : List D) : (rens ρ ds).length = ds.length := by rw [rens_map, List.length_map]
structure Gd where
  K : PySem.W.Frag
  ca : Addr → Addr
  src : Hp → Addr → Addr → Prop
structure Gd.Ok (G : Gd) : Prop where
  ex : ∀ {H H' : Hp} {a g : Addr}, Ex H H' → G.src H a g → G.src H' a g
  so : ∀ {H : Hp} {a g : Addr}, G.src H a g → H a ≠ none ∧ H g ≠ none
  up : ∀ {H : Hp} {a g D : Addr} {o : HO}, G.src H a g → D ≠ a → D ≠ g → G.src (upd H D o) a g
structure Fr where
  Z : List Addr
  dl : Option (Addr × Addr)
  /-- the instance that is being made -/
  sf : Option Addr
  hd : dl ≠ none
def Fr.dS (F : Fr) : List Addr := match F.dl with | some (a, g) => [a, g] | none => []
def rho (G : Gd) (F : Fr) : Addr → Addr := fun n => if n = 1 then (match F.dl with | some (a, _) => a | none => 0) else G.ca n
def ownS : Option Sl → Option V → List Addr
  | some (.own _), some (.ref a) => [a]
  | some (.ob _ _), some (.ref a) => [a]
  | some (.dk _), some (.ref a) => [a]
  | _, _ => []
def own : En → L2.St → List Addr
  | s :: e, x :: σ => ownS s x ++ own e σ
  | _, _ => []
def Fr.U (F : Fr) (e : En) (σ : L2.St) : List Addr := F.Z ++ (F.dS ++ own e σ)
def dkE (p : Str × Int) : Key × V := (.inr p.1, .int p.2)
def SlR (K : PySem.W.Frag) (ρ : Addr → Addr) (Hc H : Hp) : Option Sl → Option V → Prop
  | none, _ => True
  | some (.d x), o => ∃ v, o = some v ∧ Rp K Hc (ren ρ x) v
  | some (.own ds), o => ∃ a xs, o = some (.ref a) ∧ H a = some (.lst xs) ∧ RpA K Hc (rens ρ ds) xs
  | some (.ob k fs), o => ∃ a dx gs, o = some (.ref a) ∧ H a = some (.ins (ρ k) dx gs) ∧ RpF K Hc (renF ρ fs) gs
  | some (.dk kvs), o => ∃ a, o = some (.ref a) ∧ H a = some (.dK (kvs.map dkE))
def SlRs (K : PySem.W.Frag) (ρ : Addr → Addr) (Hc H : Hp) : En → L2.St → Prop
  | [], σ => σ = []
  | s :: e, σ => ∃ x r, σ = x :: r ∧ SlR K ρ Hc H s x ∧ SlRs K ρ Hc H e r
theorem SlRs.get {K : PySem.W.Frag} {ρ : Addr → Addr} {Hc H : Hp} : ∀ {e : En} {σ : L2.St} {i : Nat} {s : Option Sl}, SlRs K ρ Hc H e σ → e[i]? = some s → ∃ x, σ[i]? = some x ∧ SlR K ρ Hc H s x
  | [], _, i, s, _, h => by simp at h
  | s0 :: e, _, 0, s, ⟨x, r, h1, h2, _⟩, h => by
    have h' : s0 = s := by simpa using h
    exact ⟨x, by rw [h1]; rfl, h' ▸ h2⟩
  | s0 :: e, _, i + 1, s, ⟨x, r, h1, _, h3⟩, h => by
    obtain ⟨y, hy, hr⟩ := SlRs.get (i := i) h3 (by simpa using h)
    exact ⟨y, by rw [h1]; simpa using hy, hr⟩
theorem SlRs.len {K : PySem.W.Frag} {ρ : Addr → Addr} {Hc H : Hp} : ∀ {e : En} {σ : L2.St}, SlRs K ρ Hc H e σ → e.length = σ.length
  | [], _, h => by rw [show _ = [] from h]; rfl
  | s0 :: e, _, ⟨x, r, h1, _, h3⟩ => by rw [h1, List.length_cons, List.length_cons, SlRs.len h3]
theorem SlRs.step {K : PySem.W.Frag} {ρ : Addr → Addr} {Hc Hc' H H' : Hp} (ex : Ex Hc Hc') : ∀ {e : En} {σ : L2.St}, (∀ b ∈ own e σ, H' b = H b) → SlRs K ρ Hc H e σ → SlRs K ρ Hc' H' e σ
  | [], _, _, h => h
  | s0 :: e, _, k, ⟨x, r, h1, h2, h3⟩ => by
    subst h1
    have kr : ∀ b ∈ own e r, H' b = H b := fun b hb => k b (List.mem_append_right _ hb)
    refine ⟨x, r, rfl, ?_, SlRs.step ex kr h3⟩
    match s0, h2 with
    | none, _ => trivial
    | some (.d y), ⟨v, e1, e2⟩ => exact ⟨v, e1, e2.mono ex⟩
    | some (.own ds), ⟨a, xs, e1, e2, e3⟩ =>
      subst e1
      exact ⟨a, xs, rfl, by rw [k a (List.mem_append_left _ List.mem_cons_self)]; exact e2, e3.mono ex⟩
    | some (.ob c fs), ⟨a, dx, gs, e1, e2, e3⟩ =>
      subst e1
      exact ⟨a, dx, gs, rfl, by rw [k a (List.mem_append_left _ List.mem_cons_self)]; exact e2, RpF.mono ex e3⟩
    | some (.dk kvs), ⟨a, e1, e2⟩ =>
      subst e1
      exact ⟨a, rfl, by rw [k a (List.mem_append_left _ List.mem_cons_self)]; exact e2⟩
theorem SlRs.there {K : PySem.W.Frag} {ρ : Addr → Addr} {Hc H : Hp} : ∀ {e : En} {σ : L2.St}, SlRs K ρ Hc H e σ → ∀ b ∈ own e σ, H b ≠ none
  | [], _, h, b, hb => by
    rw [show _ = [] from h] at hb
    cases hb
  | s0 :: e, _, ⟨x, r, h1, h2, h3⟩, b, hb => by
    subst h1
    match s0, h2, hb with
    | none, _, hb => exact SlRs.there h3 b hb
    | some (.d y), _, hb => exact SlRs.there h3 b hb
    | some (.own ds), ⟨a, xs, e1, e2, e3⟩, hb =>
      subst e1
      rcases List.mem_append.mp hb with z | z
      · rw [List.mem_singleton.mp z, e2]; exact fun q => nomatch q
      · exact SlRs.there h3 b z
    | some (.ob c fs), ⟨a, dx, gs, e1, e2, e3⟩, hb =>
      subst e1
      rcases List.mem_append.mp hb with z | z
      · rw [List.mem_singleton.mp z, e2]; exact fun q => nomatch q
      · exact SlRs.there h3 b z
    | some (.dk kvs), ⟨a, e1, e2⟩, hb =>
      subst e1
      rcases List.mem_append.mp hb with z | z
      · rw [List.mem_singleton.mp z, e2]; exact fun q => nomatch q
      · exact SlRs.there h3 b z
structure Sim (G : Gd) (F : Fr) (e : En) (σ : L2.St) (H : Hp) : Prop where
  slots : SlRs G.K (rho G F) (cut (F.U e σ) H) H e σ
  nd : (own e σ).Nodup
  dis : ∀ b ∈ own e σ, b ∉ F.Z ∧ b ∉ F.dS
  zt : ∀ b ∈ F.Z, H b ≠ none
  zd : ∀ b ∈ F.dS, b ∉ F.Z
  deal : ∀ a g, F.dl = some (a, g) → G.src H a g
  slf : ∀ (i : Nat) k fs, e[i]? = some (some (.ob k fs)) → F.sf = none ∨ ∃ a, F.sf = some a ∧ σ[i]? = some (some (.ref a))
def Fw (F : Fr) (A : List Addr) (H H' : Hp) : Prop := ∀ b o, b ∉ F.dS → b ∉ A → H b = some o → H' b = some o
theorem Fw.refl {F : Fr} {A : List Addr} {H : Hp} : Fw F A H H := fun _ _ _ _ h => h
theorem Fw.trans {F : Fr} {A : List Addr} {H H1 H2 : Hp} (a : Fw F A H H1) (b : Fw F A H1 H2) : Fw F A H H2 := fun x o h1 h2 h => b x o h1 h2 (a x o h1 h2 h)
theorem Fw.ex {F : Fr} {e : En} {σ : L2.St} {H H' : Hp} (f : Fw F (own e σ) H H') : Ex (cut (F.U e σ) H) (cut (F.U e σ) H') := fun b o h => by
  obtain ⟨h1, h2⟩ := cut_some h
  rw [cut_out h2]
  have h3 : b ∉ F.dS ++ own e σ := fun z => h2 (List.mem_append_right _ z)
  exact f b o (fun z => h3 (List.mem_append_left _ z)) (fun z => h3 (List.mem_append_right _ z)) h1
def modeOf (G : Gd) (F : Fr) (e : En) (σ : L2.St) (H : Hp) : Mode := ⟨G.K, F.U e σ, fun H' => (∀ b ∈ F.Z ++ own e σ, H' b = H b) ∧ ∀ a g, F.dl = some (a, g) → G.src H' a g⟩
section
variable {G : Gd} {Wx : WX} {F : Fr} {e e' : En} {σ : L2.St} {H H' : Hp}
theorem Fr.dS_some {a g : Addr} (h : F.dl = some (a, g)) : F.dS = [a, g] := by unfold Fr.dS; rw [h]
theorem Sim.dS (s : Sim G F e σ H) (o : G.Ok) : ∀ b ∈ F.dS, H b ≠ none := fun b hb => by
  cases q : F.dl with
  | none => unfold Fr.dS at hb; rw [q] at hb; cases hb
  | some p =>
    obtain ⟨a, g⟩ := p
    rw [Fr.dS_some q] at hb
    obtain ⟨h1, h2⟩ := o.so (s.deal a g q)
    rcases List.mem_cons.mp hb with z | z
    · rw [z]; exact h1
    · rw [List.mem_singleton.mp z]; exact h2
theorem Sim.tr (s : Sim G F e σ H) (o : G.Ok) : ∀ b ∈ F.U e σ, H b ≠ none := fun b hb => by
  rcases List.mem_append.mp hb with z | z
  · exact s.zt b z
  · rcases List.mem_append.mp z with z | z
    · exact s.dS o b z
    · exact s.slots.there b z
theorem Sim.mok (s : Sim G F e σ H) (o : G.Ok) : (modeOf G F e σ H).Ok where
  ex := fun {H1 H2} x j => ⟨fun b hb => by
    have hn : H b ≠ none := by
      rcases List.mem_append.mp hb with z | z
      · exact s.zt b z
      · exact s.slots.there b z
    cases q : H b with
    | none => exact absurd q hn
    | some u => exact x b u (by rw [j.1 b hb, q]), fun a g h => o.ex x (j.2 a g h)⟩
  tr := fun {H1} j b hb => by
    rcases List.mem_append.mp hb with z | z
    · rw [j.1 b (List.mem_append_left _ z)]; exact s.zt b z
    · rcases List.mem_append.mp z with z | z
      · cases q : F.dl with
        | none => unfold Fr.dS at z; rw [q] at z; cases z
        | some p =>
          obtain ⟨a, g⟩ := p
          rw [Fr.dS_some q] at z
          obtain ⟨h1, h2⟩ := o.so (j.2 a g q)
          rcases List.mem_cons.mp z with y | y
          · rw [y]; exact h1
          · rw [List.mem_singleton.mp y]; exact h2
      · rw [j.1 b (List.mem_append_right _ z)]; exact s.slots.there b z
  mu := fun {H1 H2 D} j hD j' u => by
    refine ⟨fun b hb => ?_, fun a g h => ?_⟩
    · have ne : b ≠ D := fun z => by
        have hn : H b ≠ none := by
          rcases List.mem_append.mp hb with z | z
          · exact s.zt b z
          · exact s.slots.there b z
        rw [← j.1 b hb, z, hD] at hn
        exact hn rfl
      rw [upd_ne ne]
      exact j'.1 b hb
    · obtain ⟨h1, h2⟩ := o.so (j.2 a g h)
      exact o.up (j'.2 a g h) (fun z => h1 (z ▸ hD)) (fun z => h2 (z ▸ hD))
theorem Sim.mj (s : Sim G F e σ H) : (modeOf G F e σ H).J H := ⟨fun _ _ => rfl, s.deal⟩
theorem Sim.pure (s : Sim G F e σ H) (l : (modeOf G F e σ H).Le H H') (j : (modeOf G F e σ H).J H') : Sim G F e σ H' ∧ Fw F (own e σ) H H' := by
  refine ⟨⟨s.slots.step l fun b hb => j.1 b (List.mem_append_right _ hb), s.nd, s.dis, fun b hb => by rw [j.1 b (List.mem_append_left _ hb)]; exact s.zt b hb, s.zd, j.2, s.slf⟩, fun b o h1 h2 h => ?_⟩
  by_cases hz : b ∈ F.Z
  · rw [j.1 b (List.mem_append_left _ hz)]
    exact h
  · have hu : b ∉ F.U e σ := fun z => (List.mem_append.mp z).elim hz fun z => (List.mem_append.mp z).elim h1 h2
    have q := l b o (show cut (F.U e σ) H b = some o by rw [cut_out hu]; exact h)
    exact (cut_some q).1
def VlR (G : Gd) (F : Fr) (e : En) (σ : L2.St) (H : Hp) : Vl → V → Prop
  | .d x, v => Rp G.K (cut (F.U e σ) H) (ren (rho G F) x) v
  | .r i, v => σ[i]? = some (some v)
def VlRs (G : Gd) (F : Fr) (e : En) (σ : L2.St) (H : Hp) : List Vl → List V → Prop
  | [], vs => vs = []
  | x :: xs, vs => ∃ v r, vs = v :: r ∧ VlR G F e σ H x v ∧ VlRs G F e σ H xs r
theorem U_eq (h : own e' σ = own e σ) : F.U e' σ = F.U e σ := by unfold Fr.U; rw [h]
theorem VlR.step {x : Vl} {v : V} (r : VlR G F e σ H x v) (h : own e' σ = own e σ) (f : Fw F (own e σ) H H') : VlR G F e' σ H' x v := by
  cases x with
  | d y =>
    show Rp G.K (cut (F.U e' σ) H') _ v
    rw [U_eq h]
    exact Rp.mono f.ex r
  | r i => exact r
theorem VlRs.step (h : own e' σ = own e σ) (f : Fw F (own e σ) H H') : ∀ {xs : List Vl} {vs : List V}, VlRs G F e σ H xs vs → VlRs G F e' σ H' xs vs
  | [], _, r => r
  | x :: xs, _, ⟨v, r, h1, h2, h3⟩ => ⟨v, r, h1, h2.step h f, VlRs.step h f h3⟩
def PostE (G : Gd) (F : Fr) (e : En) (σ : L2.St) (H : Hp) (Q : VK) (p : Vl × En) : Prop := ∀ v H', own p.2 σ = own e σ → Fw F (own e σ) H H' → Sim G F p.2 σ H' → VlR G F p.2 σ H' p.1 v → Q v H'
def tE (G : Gd) (x : XE) : TE := fun σ H Q => ∃ F e, Sim G F e σ H ∧ (x e).All (PostE G F e σ H Q)
def PostA (G : Gd) (F : Fr) (e : En) (σ : L2.St) (H : Hp) (Q : List V → Hp → Prop) (p : List Vl × En) : Prop := ∀ vs H', own p.2 σ = own e σ → Fw F (own e σ) H H' → Sim G F p.2 σ H' → VlRs G F p.2 σ H' p.1 vs → Q vs H'
def tA (G : Gd) (x : XA) : TA := fun σ H Q => ∃ F e, Sim G F e σ H ∧ (x e).All (PostA G F e σ H Q)
def PostT (G : Gd) (F : Fr) (e : En) (σ : L2.St) (H : Hp) (Q : Bool → Hp → Prop) (p : Bool × En) : Prop := ∀ H', own p.2 σ = own e σ → Fw F (own e σ) H H' → Sim G F p.2 σ H' → Q p.1 H'
def tT (G : Gd) (x : XT) : TT := fun σ H Q => ∃ F e, Sim G F e σ H ∧ (x e).All (PostT G F e σ H Q)
variable {X : Cx}
theorem PE.weak {x : Expr} {t t' : TE} (h : PE X x t) (w : ∀ σ H Q, t' σ H Q → t σ H Q) : PE X x t' := ⟨fun pins s σ H Q I q => h.run pins s σ H Q I (w σ H Q q)⟩
theorem PT.weak {x : Expr} {t t' : TT} (h : PT X x t) (w : ∀ σ H Q, t' σ H Q → t σ H Q) : PT X x t' := ⟨fun pins s σ H Q I q => h.run pins s σ H Q I (w σ H Q q)⟩
theorem PW.weak {x : Expr} {t t' : TT} (h : PW X x t) (w : ∀ σ H Q, t' σ H Q → t σ H Q) : PW X x t' := ⟨fun wh pins s σ H Q I q => h.run wh pins s σ H Q I (w σ H Q q)⟩
theorem PA.weak {x : List Expr} {t t' : TA} (h : PA X x t) (w : ∀ σ H Q, t' σ H Q → t σ H Q) : PA X x t' := ⟨fun pos pins s σ H Q I q => h.run pos pins s σ H Q I (w σ H Q q)⟩
theorem PS.weak {x : Stmt} {t t' : TS} (h : PS X x t) (w : ∀ D σ H, t' D σ H → t D σ H) : PS X x t' := ⟨fun pins s σ H D I q => h.run pins s σ H D I (w D σ H q)⟩
theorem PSs.weak {x : List Stmt} {t t' : TS} (h : PSs X x t) (w : ∀ D σ H, t' D σ H → t D σ H) : PSs X x t' := ⟨fun pins s σ H D I q => h.run pins s σ H D I (w D σ H q)⟩
theorem PE.or {x : Expr} {t t' : TE} (h : PE X x t) (h' : PE X x t') : PE X x (fun σ H Q => t σ H Q ∨ t' σ H Q) := ⟨fun pins s σ H Q I q => q.elim (h.run pins s σ H Q I) (h'.run pins s σ H Q I)⟩
theorem PostE.chain {Q : VK} {e1 : En} {H1 : Hp} {p : Vl × En} (h : own e1 σ = own e σ) (f : Fw F (own e σ) H H1) (q : PostE G F e σ H Q p) : PostE G F e1 σ H1 Q p := fun v H' h1 f1 s1 r1 => q v H' (h1.trans h) (f.trans (h ▸ f1)) s1 r1
theorem PostA.chain {Q : List V → Hp → Prop} {e1 : En} {H1 : Hp} {p : List Vl × En} (h : own e1 σ = own e σ) (f : Fw F (own e σ) H H1) (q : PostA G F e σ H Q p) : PostA G F e1 σ H1 Q p := fun v H' h1 f1 s1 r1 => q v H' (h1.trans h) (f.trans (h ▸ f1)) s1 r1
theorem PostT.chain {Q : Bool → Hp → Prop} {e1 : En} {H1 : Hp} {p : Bool × En} (h : own e1 σ = own e σ) (f : Fw F (own e σ) H H1) (q : PostT G F e σ H Q p) : PostT G F e1 σ H1 Q p := fun H' h1 f1 s1 => q H' (h1.trans h) (f.trans (h ▸ f1)) s1
theorem w_c {x : D} {v : V} (h : ∀ (F : Fr) (Hc : Hp), Rp G.K Hc (ren (rho G F) x) v) {Q : VK} (q : tE G (xC x) σ H Q) : tC v σ H Q := by
  obtain ⟨F, e, s, q⟩ := q
  exact q v H rfl Fw.refl s (h F _)
theorem m_c {x : D} {v : V} {ex : Expr} (h : PE X ex (tC v)) (hr : ∀ (F : Fr) (Hc : Hp), Rp G.K Hc (ren (rho G F) x) v) : PE X ex (tE G (xC x)) := PE.weak h fun _ _ _ q => w_c hr q
theorem m_int {i j pos} : PE X (.Constant (.int i) j pos) (tE G (xC (.int i))) := m_c pe_int fun _ _ => rfl
theorem m_str {i j pos} : PE X (.Constant (.str i) j pos) (tE G (xC (.str i))) := m_c pe_str fun _ _ => rfl
theorem m_bl {i j pos} : PE X (.Constant (.bool i) j pos) (tE G (xC (.bl i))) := m_c pe_bl fun _ _ => rfl
theorem m_non {j pos} : PE X (.Constant .none j pos) (tE G (xC .non)) := m_c pe_non fun _ _ => rfl
theorem getV_rep (s : Sim G F e σ H) {i : Nat} {v : Vl} (h : getV e i = some v) : ∃ u, σ[i]? = some (some u) ∧ VlR G F e σ H v u := by
  unfold getV at h
  split at h
  · rename_i x q
    cases h
    obtain ⟨y, hy, u, hu, hr⟩ := s.slots.get q
    subst hu
    exact ⟨u, hy, hr⟩
  · rename_i sl hn q
    cases h
    obtain ⟨y, hy, hr⟩ := s.slots.get q
    cases sl with
    | d x => exact (hn x rfl).elim
    | own ds =>
      obtain ⟨a, xs, e1, _⟩ := hr
      subst e1
      exact ⟨_, hy, hy⟩
    | ob c fs =>
      obtain ⟨a, dx, gs, e1, _⟩ := hr
      subst e1
      exact ⟨_, hy, hy⟩
    | dk kvs =>
      obtain ⟨a, e1, _⟩ := hr
      subst e1
      exact ⟨_, hy, hy⟩
  · cases h
theorem m_var {i : Nat} {ex : Expr} (h : PE X ex (tVar i)) : PE X ex (tE G (xVar i)) := PE.weak h fun σ H Q q => by
  obtain ⟨F, e, s, q⟩ := q
  obtain ⟨v, hv, q⟩ := Tr.of_all (Tr.all_bind.mp q)
  obtain ⟨u, hu, hr⟩ := getV_rep s hv
  exact ⟨u, hu, q u H rfl Fw.refl s hr⟩
theorem m_nil : PA X [] (tA G xNil) := PA.weak pa_nil fun σ H Q q => by
  obtain ⟨F, e, s, q⟩ := q
  exact q [] H rfl Fw.refl s rfl
theorem m_cons {x : Expr} {xs : List Expr} {a : XE} {as : XA} (ha : PE X x (tE G a)) (hr : PA X xs (tA G as)) (hs : starEach (x :: xs) X.env = (false, eval x X.env) :: starEach xs X.env := by rfl) : PA X (x :: xs) (tA G (xCons a as)) := PA.weak (pa_cons ha hr hs) fun σ H Q q => by
  obtain ⟨F, e, s, q⟩ := q
  refine ⟨F, e, s, Tr.All.mono (fun p q v H1 h1 f1 s1 r1 => ?_) (Tr.all_bind.mp q)⟩
  refine ⟨F, p.2, s1, Tr.All.mono (fun p2 q vs H2 h2 f2 s2 r2 => ?_) (Tr.all_bind.mp q)⟩
  exact q (v :: vs) H2 (h2.trans h1) (f1.trans (h1 ▸ f2)) s2 ⟨v, vs, rfl, r1.step h2 f2, r2⟩
def RvR (N : Mode) (ρ : Addr → Addr) (H : Hp) : Rv → V → Prop
  | .d x, v => N.R H (ren ρ x) v
  | .l ds, v => ∃ a xs, v = .ref a ∧ H a = some (.lst xs) ∧ RpA N.K (cut N.S H) (rens ρ ds) xs
  | .o k fs, v => ∃ a dx gs, v = .ref a ∧ H a = some (.ins (ρ k) dx gs) ∧ RpF N.K (cut N.S H) (renF ρ fs) gs
def RvRs (N : Mode) (ρ : Addr → Addr) (H : Hp) : List Rv → List V → Prop
  | [], vs => vs = []
  | x :: xs, vs => ∃ v r, vs = v :: r ∧ RvR N ρ H x v ∧ RvRs N ρ H xs r
theorem look_rep (s : Sim G F e σ H) {x : Vl} {v : V} {r : Rv} (h : VlR G F e σ H x v) (l : look e x = some r) : RvR (modeOf G F e σ H) (rho G F) H r v := by
  cases x with
  | d y => cases l; exact h
  | r i =>
    unfold look at l
    dsimp only at l
    split at l
    · rename_i ds q
      cases l
      obtain ⟨y, hy, a, xs, e1, e2, e3⟩ := s.slots.get q
      have e4 := (show σ[i]? = some (some v) from h).symm.trans (e1 ▸ hy)
      cases e4
      exact ⟨a, xs, rfl, e2, e3⟩
    · rename_i c fs q
      cases l
      obtain ⟨y, hy, a, dx, gs, e1, e2, e3⟩ := s.slots.get q
      have e4 := (show σ[i]? = some (some v) from h).symm.trans (e1 ▸ hy)
      cases e4
      exact ⟨a, dx, gs, rfl, e2, e3⟩
    · cases l
theorem looks_rep (s : Sim G F e σ H) : ∀ {xs : List Vl} {vs : List V} {rs : List Rv}, VlRs G F e σ H xs vs → looks e xs = some rs → RvRs (modeOf G F e σ H) (rho G F) H rs vs
  | [], _, rs, h, l => by cases l; exact h
  | x :: xs, _, rs, ⟨v, r, h1, h2, h3⟩, l => by
    unfold looks at l
    obtain ⟨r0, l0, l1⟩ := Option.bind_eq_some_iff.mp l
    obtain ⟨rs0, l2, l3⟩ := Option.bind_eq_some_iff.mp l1
    cases l3
    exact ⟨v, r, h1, look_rep s h2 l0, looks_rep s h3 l2⟩
theorem dats_rep : ∀ {xs : List Vl} {vs : List V} {ds : List D}, VlRs G F e σ H xs vs → dats xs = some ds → RpA G.K (cut (F.U e σ) H) (rens (rho G F) ds) vs
  | [], _, ds, h, l => by cases l; exact h
  | x :: xs, _, ds, ⟨v, r, h1, h2, h3⟩, l => by
    unfold dats at l
    obtain ⟨r0, l0, l1⟩ := Option.bind_eq_some_iff.mp l
    obtain ⟨rs0, l2, l3⟩ := Option.bind_eq_some_iff.mp l1
    cases l3
    cases x with
    | d y => cases l0; exact ⟨v, r, h1, h2, dats_rep h3 l2⟩
    | r i => cases l0
def BOk (G : Gd) (r : List V → Hp → VK → Prop) (f : List Rv → Option D) : Prop := ∀ (N : Mode), N.Ok → N.K = G.K → ∀ (F : Fr) (rs : List Rv) (d : D) (vs : List V) (H : Hp), f rs = some d → N.J H → RvRs N (rho G F) H rs vs →
  ∀ Q : VK, (∀ v H', N.Le H H' → N.J H' → N.R H' (ren (rho G F) d) v → Q v H') → r vs H Q
theorem w_B (o : G.Ok) {r : List V → Hp → VK → Prop} {f : List Rv → Option D} (hb : BOk G r f) {as : XA} {Q : VK} (q : tE G (xB f as) σ H Q) : tA G as σ H fun vs H1 => r vs H1 Q := by
  obtain ⟨F, e, s, q⟩ := q
  refine ⟨F, e, s, Tr.All.mono (fun p q vs H1 h1 f1 s1 r1 => ?_) (Tr.all_bind.mp q)⟩
  obtain ⟨d, hd, q⟩ := Tr.of_all (Tr.all_bind.mp q)
  obtain ⟨rs, l, hf⟩ := Option.bind_eq_some_iff.mp hd
  refine hb _ (s1.mok o) rfl F rs d vs H1 hf s1.mj (looks_rep s1 r1 l) Q fun v H2 l2 j2 r2 => ?_
  obtain ⟨s2, f2⟩ := s1.pure l2 j2
  exact q v H2 h1 (f1.trans (h1 ▸ f2)) s2 r2
theorem m_B (o : G.Ok) {r : List V → Hp → VK → Prop} {f : List Rv → Option D} {as : XA} {x : Expr} (h : PE X x (tCB r (tA G as))) (hb : BOk G r f) : PE X x (tE G (xB f as)) := PE.weak h fun σ H Q q => w_B o hb q
theorem m_op (o : G.Ok) {r : R2} {f : List Rv → Option D} {a b : XE} {x : Expr} (h : PE X x (tOp r (tE G a) (tE G b))) (hb : BOk G (fun vs H Q => ∃ u w, vs = [u, w] ∧ r u w H Q) f) : PE X x (tE G (xB f (xCons a (xCons b xNil)))) := PE.weak h fun σ H Q q => by
  obtain ⟨F, e, s, q⟩ := w_B o hb q
  refine ⟨F, e, s, Tr.All.mono (fun p q v H1 h1 f1 s1 r1 => ?_) (Tr.all_bind.mp q)⟩
  refine ⟨F, p.2, s1, Tr.All.mono (fun p2 q w H2 h2 f2 s2 r2 => ?_) (Tr.all_bind.mp (Tr.all_bind.mp q))⟩
  obtain ⟨u', w', e', q'⟩ := q [v, w] H2 (h2.trans h1) (f1.trans (h1 ▸ f2)) s2 ⟨v, [w], rfl, r1.step h2 f2, w, [], rfl, r2, rfl⟩
  cases e'
  exact q'
theorem m_un (o : G.Ok) {r : V → Hp → VK → Prop} {f : List Rv → Option D} {a : XE} {x : Expr} (h : PE X x (tUn r (tE G a))) (hb : BOk G (fun vs H Q => ∃ u, vs = [u] ∧ r u H Q) f) : PE X x (tE G (xB f (xCons a xNil))) := PE.weak h fun σ H Q q => by
  obtain ⟨F, e, s, q⟩ := w_B o hb q
  refine ⟨F, e, s, Tr.All.mono (fun p q v H1 h1 f1 s1 r1 => ?_) (Tr.all_bind.mp q)⟩
  obtain ⟨u', e', q'⟩ := q [v] H1 h1 f1 s1 ⟨v, [], rfl, r1, rfl⟩
  cases e'
  exact q'
theorem blV_eq {v : Vl} {b : Bool} (h : blV v = some b) : v = .d (.bl b) := by
  unfold blV at h
  split at h
  · cases h; rfl
  · cases h
theorem w_test {a : XE} {Q : Bool → Hp → Prop} (q : tT G (xTest a) σ H Q) : tE G a σ H fun x H1 => ∃ c, x = .bl c ∧ Q c H1 := by
  obtain ⟨F, e, s, q⟩ := q
  refine ⟨F, e, s, Tr.All.mono (fun p q v H1 h1 f1 s1 r1 => ?_) (Tr.all_bind.mp q)⟩
  obtain ⟨b, hb, q⟩ := Tr.of_all (Tr.all_bind.mp q)
  rw [blV_eq hb] at r1
  exact ⟨b, r1, q H1 h1 f1 s1⟩
theorem m_test {a : XE} {x : Expr} (h : PE X x (tE G a)) (he : ∀ whole, isTrue x X.env whole = (do let v ← whole; standAt x.pos; holding [v] (truthy v)) := by intro _; rfl) : PT X x (tT G (xTest a)) := PT.weak (pt_val h he) fun σ H Q q => w_test q
theorem m_notT {a : XT} {x : Expr} {pos : Pos} (h : PT X x (tT G a)) : PT X (.UnaryOp .Not x pos) (tT G (xNotT a)) := PT.weak (pt_not h) fun σ H Q q => by
  obtain ⟨F, e, s, q⟩ := q
  exact ⟨F, e, s, Tr.All.mono (fun p q H1 h1 f1 s1 => q H1 h1 f1 s1) (Tr.all_bind.mp q)⟩
theorem m_or1 {a : XT} {x : Expr} {pos : Pos} (h : PT X x (tT G a)) : PW X (.BoolOp .Or [x] pos) (tT G a) := pw_or1 h
theorem m_orT {a b : XT} {x y : Expr} {rest : List Expr} {pos : Pos} (ha : PT X x (tT G a)) (hb : PW X (.BoolOp .Or (y :: rest) pos) (tT G b)) : PW X (.BoolOp .Or (x :: y :: rest) pos) (tT G (xOrT a b)) := PW.weak (pw_or ha hb) fun σ H Q q => by
  obtain ⟨F, e, s, q⟩ := q
  refine ⟨F, e, s, Tr.All.mono (fun p q H1 h1 f1 s1 => ?_) (Tr.all_bind.mp q)⟩
  obtain ⟨c, e1⟩ := p
  cases c with
  | false => exact ⟨F, e1, s1, Tr.All.mono (fun p2 q2 => q2.chain h1 f1) q⟩
  | true => exact q H1 h1 f1 s1
theorem m_and {a b : XE} {x y : Expr} {rest : List Expr} {pos : Pos} (ha : PE X x (tE G a)) (hb : PE X (.BoolOp .And (y :: rest) pos) (tE G b)) : PE X (.BoolOp .And (x :: y :: rest) pos) (tE G (xAnd a b)) := PE.weak (pe_and ha hb) fun σ H Q q => by
  obtain ⟨F, e, s, q⟩ := q
  refine ⟨F, e, s, Tr.All.mono (fun p q v H1 h1 f1 s1 r1 => ?_) (Tr.all_bind.mp q)⟩
  obtain ⟨b, hb, q⟩ := Tr.of_all (Tr.all_bind.mp q)
  rw [blV_eq hb] at r1
  refine ⟨b, r1, ?_⟩
  cases b with
  | true => exact ⟨F, p.2, s1, Tr.All.mono (fun p2 q2 => q2.chain h1 f1) q⟩
  | false => exact q _ H1 h1 f1 s1 rfl
theorem m_one {op} {a : XE} {x : Expr} {pos : Pos} (h : PE X x (tE G a)) : PE X (.BoolOp op [x] pos) (tE G a) := pe_one h
theorem m_not {a : XE} {x : Expr} {pos : Pos} (ha : PE X x (tE G a)) : PE X (.UnaryOp .Not x pos) (tE G (xNot a)) := PE.weak (pe_not ha) fun σ H Q q => by
  obtain ⟨F, e, s, q⟩ := q
  refine ⟨F, e, s, Tr.All.mono (fun p q v H1 h1 f1 s1 r1 => ?_) (Tr.all_bind.mp q)⟩
  obtain ⟨b, hb, q⟩ := Tr.of_all (Tr.all_bind.mp q)
  rw [blV_eq hb] at r1
  exact ⟨b, r1, q _ H1 h1 f1 s1 rfl⟩
theorem m_if {t : XT} {a b : XE} {c x y : Expr} {pos : Pos} (hc : PT X c (tT G t)) (ha : PE X x (tE G a)) (hb : PE X y (tE G b)) : PE X (.IfExp c x y pos) (tE G (xIf t a b)) := PE.weak (pe_ifExp hc ha hb) fun σ H Q q => by
  obtain ⟨F, e, s, q⟩ := q
  refine ⟨F, e, s, Tr.All.mono (fun p q H1 h1 f1 s1 => ?_) (Tr.all_bind.mp q)⟩
  obtain ⟨c, e1⟩ := p
  cases c with
  | true => exact ⟨F, e1, s1, Tr.All.mono (fun p2 q2 => q2.chain h1 f1) q⟩
  | false => exact ⟨F, e1, s1, Tr.All.mono (fun p2 q2 => q2.chain h1 f1) q⟩
theorem w_tup (o : G.Ok) {as : XA} {Q : VK} (q : tE G (xTup as) σ H Q) : tTupN (tA G as) σ H Q := by
  obtain ⟨F, e, s, q⟩ := q
  refine ⟨F, e, s, Tr.All.mono (fun p q vs H1 h1 f1 s1 r1 => ?_) (Tr.all_bind.mp q)⟩
  obtain ⟨ds, hd, q⟩ := Tr.of_all (Tr.all_bind.mp q)
  have r := dats_rep r1 hd
  split at q
  · rename_i hl
    refine ⟨sz_of (by rw [r.length, rens_len]; exact hl), fun a b ha hb => ?_⟩
    obtain ⟨x2, j2, r2⟩ := (s1.mok o).newT s1.mj ha hb r
    obtain ⟨s2, f2⟩ := s1.pure ((modeOf G F p.2 σ H1).le x2) j2
    exact q _ _ h1 (f1.trans (h1 ▸ f2)) s2 r2
  · exact q.elim
theorem m_tup (o : G.Ok) {as : XA} {es : List Expr} {x1} {pos : Pos} (h : PA X es (tA G as)) : PE X (.Tuple es x1 pos) (tE G (xTup as)) := PE.weak (pe_tupN h) fun σ H Q q => w_tup o q
theorem w_lst (o : G.Ok) {as : XA} {Q : VK} (q : tE G (xLst as) σ H Q) : tLst (tA G as) σ H Q := by
  obtain ⟨F, e, s, q⟩ := q
  refine ⟨F, e, s, Tr.All.mono (fun p q vs H1 h1 f1 s1 r1 => ?_) (Tr.all_bind.mp q)⟩
  obtain ⟨ds, hd, q⟩ := Tr.of_all (Tr.all_bind.mp q)
  have r := dats_rep r1 hd
  split at q
  · rename_i hl
    refine ⟨sz_of (by rw [r.length, rens_len]; exact hl), fun a ha => ?_⟩
    obtain ⟨x2, j2, r2⟩ := (s1.mok o).newL s1.mj ha r
    obtain ⟨s2, f2⟩ := s1.pure ((modeOf G F p.2 σ H1).le x2) j2
    exact q _ _ h1 (f1.trans (h1 ▸ f2)) s2 r2
  · exact q.elim
theorem m_lst (o : G.Ok) {as : XA} {es : List Expr} {pos : Pos} (h : PA X es (tA G as)) : PE X (.List es pos) (tE G (xLst as)) := PE.weak (pe_lst h) fun σ H Q q => w_lst o q
end
end Mc
namespace Mc
open PySem PySem.Spec PyProof.Rows L2 Evl
def plainS : Option Sl → Bool
  | some (.own _) => false
  | some (.ob _ _) => false
  | some (.dk _) => false
  | _ => true
theorem ownS_plain {s : Option Sl} {x : Option V} (h : plainS s = true) : ownS s x = [] := by
  match s, h with
  | none, _ => rfl
  | some (.d y), _ => rfl
theorem noOwn_cons {s : Option Sl} {e : En} {i : Nat} : noOwn (s :: e) (i + 1) = noOwn e i := by
  unfold noOwn
  rw [List.getElem?_cons_succ]
theorem noOwn_zero {s : Option Sl} {e : En} : noOwn (s :: e) 0 = plainS s := by
  unfold noOwn
  rw [List.getElem?_cons_zero]
  match s with
  | none => rfl
  | some (.d y) => rfl
  | some (.own y) => rfl
  | some (.ob y z) => rfl
  | some (.dk y) => rfl
theorem own_set_eq {t : Option Sl} {y : Option V} (ht : plainS t = true) : ∀ {e : En} {σ : L2.St} {i : Nat}, e.length = σ.length → noOwn e i = true → own (e.set i t) (σ.set i y) = own e σ
  | [], [], i, _, _ => rfl
  | s :: e, x :: σ, 0, _, h => by
    rw [noOwn_zero] at h
    show ownS t y ++ own e σ = ownS s x ++ own e σ
    rw [ownS_plain ht, ownS_plain h]
  | s :: e, x :: σ, i + 1, hl, h => by
    rw [noOwn_cons] at h
    show ownS s x ++ own (e.set i t) (σ.set i y) = ownS s x ++ own e σ
    rw [own_set_eq ht (e := e) (σ := σ) (i := i) (by simpa using hl) h]
theorem own_set_sub {t : Option Sl} {y : Option V} (ht : plainS t = true) : ∀ {e : En} {σ : L2.St} {i : Nat}, e.length = σ.length → (own (e.set i t) (σ.set i y)).Sublist (own e σ)
  | [], [], i, _ => List.Sublist.refl _
  | s :: e, x :: σ, 0, _ => by
    show (ownS t y ++ own e σ).Sublist (ownS s x ++ own e σ)
    rw [ownS_plain ht]
    exact List.sublist_append_right _ _
  | s :: e, x :: σ, i + 1, hl => List.Sublist.append (List.Sublist.refl _) (own_set_sub ht (e := e) (σ := σ) (i := i) (by simpa using hl))
theorem slRs_iff {K : PySem.W.Frag} {ρ : Addr → Addr} {Hc H : Hp} : ∀ {e : En} {σ : L2.St}, SlRs K ρ Hc H e σ ↔ e.length = σ.length ∧ ∀ (i : Nat) s x, e[i]? = some s → σ[i]? = some x → SlR K ρ Hc H s x
  | [], σ => by
    constructor
    · intro h
      rw [show σ = [] from h]
      exact ⟨rfl, fun i s x h => by simp at h⟩
    · intro h
      exact List.length_eq_zero_iff.mp h.1.symm
  | s :: e, σ => by
    constructor
    · rintro ⟨x, r, h1, h2, h3⟩
      obtain ⟨l, q⟩ := slRs_iff.mp h3
      subst h1
      refine ⟨by simp [l], fun i s' x' h h' => ?_⟩
      cases i with
      | zero =>
        have h1 : s = s' := by simpa using h
        have h2' : x = x' := by simpa using h'
        rw [← h1, ← h2']
        exact h2
      | succ i => exact q i s' x' (by simpa using h) (by simpa using h')
    · rintro ⟨l, q⟩
      cases σ with
      | nil => simp at l
      | cons x r => exact ⟨x, r, rfl, q 0 s x rfl rfl, slRs_iff.mpr ⟨by simpa using l, fun i s' x' h h' => q (i + 1) s' x' (by simpa using h) (by simpa using h')⟩⟩
theorem SlR.mono {K : PySem.W.Frag} {ρ : Addr → Addr} {Hc Hc' H : Hp} (x : Ex Hc Hc') {s : Option Sl} {o : Option V} (h : SlR K ρ Hc H s o) : SlR K ρ Hc' H s o := by
  match s, h with
  | none, _ => trivial
  | some (.d y), ⟨v, e1, e2⟩ => exact ⟨v, e1, e2.mono x⟩
  | some (.own ds), ⟨a, xs, e1, e2, e3⟩ => exact ⟨a, xs, e1, e2, e3.mono x⟩
  | some (.ob c fs), ⟨a, dx, gs, e1, e2, e3⟩ => exact ⟨a, dx, gs, e1, e2, RpF.mono x e3⟩
  | some (.dk kvs), ⟨a, e1, e2⟩ => exact ⟨a, e1, e2⟩
section
variable {G : Gd} {Wx : WX} {F : Fr} {e e' : En} {σ σ' : L2.St} {H H' : Hp} {X : Cx}
theorem Sim.len (s : Sim G F e σ H) : e.length = σ.length := s.slots.len
theorem cut_subL {S T : List Addr} {H : Hp} (h : ∀ b ∈ S, b ∈ T) : Ex (cut T H) (cut S H) := cut_sub h
theorem U_sub {e' : En} {σ' : L2.St} (h : ∀ b ∈ own e' σ', b ∈ own e σ) : ∀ b ∈ F.U e' σ', b ∈ F.U e σ := fun b hb => by
  rcases List.mem_append.mp hb with z | z
  · exact List.mem_append_left _ z
  · rcases List.mem_append.mp z with z | z
    · exact List.mem_append_right _ (List.mem_append_left _ z)
    · exact List.mem_append_right _ (List.mem_append_right _ (h b z))
def notOb : Option Sl → Bool
  | some (.ob _ _) => false
  | _ => true
theorem slf_set (s : Sim G F e σ H) {i : Nat} {t : Option Sl} {y : Option V} (ht : notOb t = true) : ∀ (j : Nat) k fs, (e.set i t)[j]? = some (some (.ob k fs)) → F.sf = none ∨ ∃ a, F.sf = some a ∧ (σ.set i y)[j]? = some (some (.ref a)) := fun j k fs h => by
  by_cases hj : i = j
  · subst hj
    by_cases hl : i < e.length
    · rw [List.getElem?_set_self hl] at h
      cases h
      cases ht
    · rw [List.getElem?_eq_none (by simpa using hl)] at h
      cases h
  · rw [List.getElem?_set_ne hj] at h ⊢
    exact s.slf j k fs h
theorem Sim.set (s : Sim G F e σ H) {i : Nat} {x : D} {v : V} (r : Rp G.K (cut (F.U e σ) H) (ren (rho G F) x) v) : Sim G F (e.set i (some (.d x))) (σ.set i (some v)) H := by
  have sub := own_set_sub (t := some (.d x)) (y := some v) rfl (i := i) s.len
  have hU := U_sub (F := F) (fun b hb => sub.subset hb)
  refine ⟨slRs_iff.mpr ⟨by simp [s.len], fun j t o h h' => ?_⟩, sub.nodup s.nd, fun b hb => s.dis b (sub.subset hb), s.zt, s.zd, s.deal, slf_set s rfl⟩
  by_cases hj : j = i
  · subst hj
    rw [List.getElem?_set] at h h'
    simp only [if_true] at h h'
    split at h
    · split at h'
      · cases h
        cases h'
        exact ⟨v, rfl, r.mono (cut_subL hU)⟩
      · cases h'
    · cases h
  · rw [List.getElem?_set_ne (Ne.symm hj)] at h h'
    exact ((slRs_iff.mp s.slots).2 j t o h h').mono (cut_subL hU)
theorem Sim.drop (s : Sim G F e σ H) {i : Nat} (y : Option V) : Sim G F (e.set i none) (σ.set i y) H := by
  have sub := own_set_sub (t := none) (y := y) rfl (i := i) s.len
  have hU := U_sub (F := F) (fun b hb => sub.subset hb)
  refine ⟨slRs_iff.mpr ⟨by simp [s.len], fun j t o h h' => ?_⟩, sub.nodup s.nd, fun b hb => s.dis b (sub.subset hb), s.zt, s.zd, s.deal, slf_set s rfl⟩
  by_cases hj : j = i
  · subst hj
    rw [List.getElem?_set] at h
    simp only [if_true] at h
    split at h
    · cases h; trivial
    · cases h
  · rw [List.getElem?_set_ne (Ne.symm hj)] at h h'
    exact ((slRs_iff.mp s.slots).2 j t o h h').mono (cut_subL hU)
theorem Sim.wipe (s : Sim G F e σ H) : ∀ vs : List Nat, Sim G F (wipeN e vs) (L2.wipe σ vs) H
  | [] => s
  | i :: is => (Sim.wipe s is).drop none
theorem wipeN_len (e : En) : ∀ vs : List Nat, (wipeN e vs).length = e.length
  | [] => rfl
  | i :: is => by
    show ((wipeN e is).set i none).length = _
    rw [List.length_set, wipeN_len e is]
theorem wipeN_out {k : Nat} : ∀ {vs : List Nat}, k ∉ vs → (wipeN e vs)[k]? = e[k]?
  | [], _ => rfl
  | i :: is, h => by
    show ((wipeN e is).set i none)[k]? = _
    rw [List.getElem?_set_ne (fun z => h (by simp [z])), wipeN_out (fun z => h (by simp [z]))]
theorem noOwn_set {t : Option Sl} {i j : Nat} (ht : plainS t = true) (h : noOwn e j = true) : noOwn (e.set i t) j = true := by
  by_cases hj : i = j
  · subst hj
    unfold noOwn
    by_cases hl : i < e.length
    · rw [List.getElem?_set_self hl]
      match t, ht with
      | none, _ => rfl
      | some (.d y), _ => rfl
    · rw [List.getElem?_eq_none (by simpa using hl)]
  · unfold noOwn at h ⊢
    rw [List.getElem?_set_ne hj]
    exact h
theorem noOwn_wipe {j : Nat} : ∀ {vs : List Nat}, noOwn e j = true → noOwn (wipeN e vs) j = true
  | [], h => h
  | i :: is, h => noOwn_set rfl (noOwn_wipe h)
theorem own_wipe (hl : e.length = σ.length) : ∀ {vs : List Nat}, (∀ j ∈ vs, noOwn e j = true) → own (wipeN e vs) (L2.wipe σ vs) = own e σ
  | [], _ => rfl
  | i :: is, h => by
    show own ((wipeN e is).set i none) ((L2.wipe σ is).set i none) = _
    rw [own_set_eq rfl (by rw [wipeN_len, wipe_length, hl]) (noOwn_wipe (h i (by simp)))]
    exact own_wipe hl fun j hj => h j (by simp [hj])
theorem wipe_out' {k : Nat} : ∀ {vs : List Nat}, k ∉ vs → (L2.wipe σ vs)[k]? = σ[k]?
  | [], _ => rfl
  | i :: is, h => by
    show ((L2.wipe σ is).set i none)[k]? = _
    rw [List.getElem?_set_ne (fun z => h (by simp [z])), wipe_out' (fun z => h (by simp [z]))]
theorem Sim.ext (s : Sim G F e σ H) (o : G.Ok) (x : Ex H H') : Sim G F e σ H' ∧ Fw F (own e σ) H H' := s.pure (cut_ex x) ((s.mok o).ex x s.mj)
def ChgE (js : List Nat) (e e' : En) : Prop := ∀ k, k ∉ js → e'[k]? = e[k]?
def GOk (G : Gd) (g : XG) (tg : TG) (js : List Nat) : Prop := ∀ (F : Fr) (e : En) (σ : L2.St) (H : Hp) (x : D) (v : V) (e1 : En) (Q : L2.St → Hp → Prop), Sim G F e σ H → Rp G.K (cut (F.U e σ) H) (ren (rho G F) x) v → g x e = some e1 →
  (∀ σ1, Sim G F e1 σ1 H → Chg js σ σ1 → ChgE js e e1 → (own e1 σ1).Sublist (own e σ) → ((∀ j ∈ js, noOwn e j = true) → own e1 σ1 = own e σ) → (∀ j, noOwn e j = true → noOwn e1 j = true) → Q σ1 H) → tg v σ H Q
def GsOk (G : Gd) (g : XGs) (tg : TGs) (js : List Nat) : Prop := ∀ (F : Fr) (e : En) (σ : L2.St) (H : Hp) (xs : List D) (vs : List V) (e1 : En) (Q : L2.St → Hp → Prop), Sim G F e σ H → RpA G.K (cut (F.U e σ) H) (rens (rho G F) xs) vs → g xs e = some e1 →
  (∀ σ1, Sim G F e1 σ1 H → Chg js σ σ1 → ChgE js e e1 → (own e1 σ1).Sublist (own e σ) → ((∀ j ∈ js, noOwn e j = true) → own e1 σ1 = own e σ) → (∀ j, noOwn e j = true → noOwn e1 j = true) → Q σ1 H) → tg vs σ H Q
theorem g_name {i : Nat} : GOk G (gN i) (gName i) [i] := fun F e σ H x v e1 Q s r h q => by
  cases h
  refine q _ (s.set r) ⟨by simp, fun k hk => List.getElem?_set_ne (fun z => hk (by simp [z]))⟩ (fun k hk => List.getElem?_set_ne (fun z => hk (by simp [z]))) (own_set_sub rfl s.len) (fun hn => own_set_eq rfl s.len (hn i (by simp))) fun j hj => noOwn_set rfl hj
theorem g_nil : GsOk G gs0 gNil [] := fun F e σ H xs vs e1 Q s r h q => by
  cases xs with
  | cons x r => cases h
  | nil =>
    cases h
    exact ⟨r, q σ s ⟨rfl, fun _ _ => rfl⟩ (fun _ _ => rfl) (List.Sublist.refl _) (fun _ => rfl) fun _ h => h⟩
theorem g_cons {g : XG} {gs : XGs} {tg : TG} {tgs : TGs} {js ks : List Nat} (h1 : GOk G g tg js) (h2 : GsOk G gs tgs ks) : GsOk G (gsC g gs) (gCons tg tgs) (js ++ ks) := fun F e σ H xs vs e2 Q s r h q => by
  cases xs with
  | nil => cases h
  | cons x xr =>
    obtain ⟨e1, he1, he2⟩ := Option.bind_eq_some_iff.mp h
    obtain ⟨v, w, rfl, r1, r2⟩ := r
    refine ⟨v, w, rfl, h1 F e σ H x v e1 _ s r1 he1 fun σ1 s1 c1 d1 b1 k1 n1 => ?_⟩
    refine h2 F e1 σ1 H xr w e2 Q s1 (r2.mono (cut_subL (U_sub fun b hb => b1.subset hb))) he2 fun σ2 s2 c2 d2 b2 k2 n2 => ?_
    refine q σ2 s2 ⟨c2.1.trans c1.1, fun k hk => ?_⟩ (fun k hk => ?_) (b2.trans b1) (fun hn => ?_) fun j hj => n2 j (n1 j hj)
    · rw [c2.2 k (fun z => hk (List.mem_append_right _ z)), c1.2 k (fun z => hk (List.mem_append_left _ z))]
    · rw [d2 k (fun z => hk (List.mem_append_right _ z)), d1 k (fun z => hk (List.mem_append_left _ z))]
    · rw [k2 fun j hj => n1 j (hn j (List.mem_append_right _ hj)), k1 fun j hj => hn j (List.mem_append_left _ hj)]
theorem g_tup {gs : XGs} {tgs : TGs} {js : List Nat} {n : Nat} (h : GsOk G gs tgs js) (hn : ∀ xs e e1, gs xs e = some e1 → xs.length = n) : GOk G (gT gs) (gTup G.K n tgs) js := fun F e σ H x v e1 Q s r h1 q => by
  cases x with
  | tup ds =>
    obtain ⟨a, xs, rfl, r2, r3⟩ := r
    refine ⟨a, xs, rfl, ex_t (cut_le _ _) r2.1, ?_, h F e σ H ds xs e1 Q s r3 h1 q⟩
    rw [r3.length, rens_len]
    exact hn ds e e1 h1
  | _ => cases h1
end
end Mc
namespace Mc
open PySem PySem.Spec PyProof.Rows L2 Evl
structure Bs (F : Fr) (B : Hp) (e : En) (σ : L2.St) (H : Hp) : Prop where
  st : ∀ b o, b ∉ F.dS → B b = some o → H b = some o
  nw : ∀ b ∈ own e σ, B b = none
abbrev noW : WX := fun _ _ _ _ => False
def PostS (G : Gd) (Wx : WX) (F : Fr) (B : Hp) (D : Ends) : Fl → Prop
  | .nx e => ∀ σ H, Sim G F e σ H → Bs F B e σ H → D.nx σ H
  | .rt v e => ∀ u σ H, Sim G F e σ H → Bs F B e σ H → VlR G F e σ H v u → D.rt u H
  | .bk e => ∀ σ H, Sim G F e σ H → Bs F B e σ H → D.bk σ H
  | .ct e => ∀ σ H, Sim G F e σ H → Bs F B e σ H → D.ct σ H
  | .xc k n d e => ∀ σ H dx v, Sim G F e σ H → Bs F B e σ H → H dx = some (.xd [(n, v)]) → Rp G.K (cut (F.U e σ) H) (ren (rho G F) d) v → Wx (.ref (G.ca k)) (some dx) σ H
def tS (G : Gd) (Wx : WX) (x : XS) : TS := fun D σ H => ∃ F B e, Sim G F e σ H ∧ Bs F B e σ H ∧ (x e).All (PostS G Wx F B D)
section
variable {G : Gd} {Wx : WX} {F : Fr} {e e' : En} {σ σ' : L2.St} {H H' B : Hp} {X : Cx} {D : Ends}
theorem Bs.fw (b : Bs F B e σ H) (h : own e' σ = own e σ) (f : Fw F (own e σ) H H') : Bs F B e' σ H' :=
  ⟨fun x o h1 h2 => f x o h1 (fun z => by rw [b.nw x z] at h2; cases h2) (b.st x o h1 h2), fun x hx => b.nw x (h ▸ hx)⟩
theorem Bs.sub (b : Bs F B e σ H) (h : ∀ x ∈ own e' σ', x ∈ own e σ) : Bs F B e' σ' H := ⟨b.st, fun x hx => b.nw x (h x hx)⟩
theorem m_snil : PSs X [] (tS G Wx sNext) := PSs.weak pss_nil fun D σ H q => by
  obtain ⟨F, B, e, s, b, q⟩ := q
  exact q σ H s b
theorem m_sone {st : Stmt} {x : XS} (h : PS X st (tS G Wx x)) : PSs X [st] (tS G Wx x) := pss_one h
theorem m_scons {st : Stmt} {sts : List Stmt} {x y : XS} (h : PS X st (tS G Wx x)) (hr : PSs X sts (tS G Wx y)) : PSs X (st :: sts) (tS G Wx (sSeq x y)) := PSs.weak (pss_cons h hr) fun D σ H q => by
  obtain ⟨F, B, e, s, b, q⟩ := q
  refine ⟨F, B, e, s, b, Tr.All.mono (fun f q => ?_) (Tr.all_bind.mp q)⟩
  cases f with
  | nx e1 => exact fun σ1 H1 s1 b1 => ⟨F, B, e1, s1, b1, q⟩
  | rt v e1 => exact q
  | bk e1 => exact q
  | ct e1 => exact q
  | xc k n d e1 => exact q
theorem m_nevers {st : List Stmt} : PSs X st (tS G Wx sNever) := PSs.weak L2.pss_never fun D σ H q => by
  obtain ⟨F, B, e, s, b, q⟩ := q
  exact q
theorem w_E {a : XE} {k : Vl × En → Tr Fl} {Q : VK} (q : ∃ F B e, Sim G F e σ H ∧ Bs F B e σ H ∧ ((a e).bind k).All (PostS G Wx F B D))
    (w : ∀ F B (p : Vl × En) v H1, Sim G F p.2 σ H1 → Bs F B p.2 σ H1 → VlR G F p.2 σ H1 p.1 v → (k p).All (PostS G Wx F B D) → Q v H1) : tE G a σ H Q := by
  obtain ⟨F, B, e, s, b, q⟩ := q
  refine ⟨F, e, s, Tr.All.mono (fun p q v H1 h1 f1 s1 r1 => ?_) (Tr.all_bind.mp q)⟩
  exact w F B p v H1 s1 (b.fw h1 f1) r1 q
theorem w_T {a : XT} {k : Bool × En → Tr Fl} {Q : Bool → Hp → Prop} (q : ∃ F B e, Sim G F e σ H ∧ Bs F B e σ H ∧ ((a e).bind k).All (PostS G Wx F B D))
    (w : ∀ F B (p : Bool × En) H1, Sim G F p.2 σ H1 → Bs F B p.2 σ H1 → (k p).All (PostS G Wx F B D) → Q p.1 H1) : tT G a σ H Q := by
  obtain ⟨F, B, e, s, b, q⟩ := q
  refine ⟨F, e, s, Tr.All.mono (fun p q H1 h1 f1 s1 => ?_) (Tr.all_bind.mp q)⟩
  exact w F B p H1 s1 (b.fw h1 f1) q
theorem m_drop {a : XE} {x : Expr} {pos : Pos} (h : PE X x (tE G a)) (hs : swapsWith x none pos.line X.env = pure false := by rfl) : PS X (.Expr x pos) (tS G Wx (sDrop a)) := PS.weak (ps_expr h hs) fun D σ H q =>
  w_E q fun F B p v H1 s1 b1 r1 q1 => q1 σ H1 s1 b1
theorem m_ret {a : XE} {x : Expr} {pos : Pos} (h : PE X x (tE G a)) : PS X (.Return (some x) pos) (tS G Wx (sRet a)) := PS.weak (ps_ret h) fun D σ H q =>
  w_E q fun F B p v H1 s1 b1 r1 q1 => q1 v σ H1 s1 b1 r1
theorem m_ifS {t : XT} {x y : XS} {c : Expr} {a b : List Stmt} {pos : Pos} (hc : PT X c (tT G t)) (ha : PSs X a (tS G Wx x)) (hb : PSs X b (tS G Wx y)) : PS X (.If c a b pos) (tS G Wx (sIf t x y)) := PS.weak (ps_if hc ha hb) fun D σ H q =>
  w_T q fun F B p H1 s1 b1 q1 => by
    obtain ⟨c, e1⟩ := p
    cases c with
    | true => exact ⟨F, B, e1, s1, b1, q1⟩
    | false => exact ⟨F, B, e1, s1, b1, q1⟩
theorem w_asg {a : XE} {g : XG} {tg : TG} {js : List Nat} (hg : GOk G g tg js) (q : tS G Wx (sAsg a g) D σ H) : tAsg (tE G a) tg D σ H := w_E q fun F B p v H1 s1 b1 r1 q1 => by
  obtain ⟨pv, pe⟩ := p
  obtain ⟨e1, h1, q2⟩ := Tr.of_all (Tr.all_bind.mp q1)
  obtain ⟨x, h2, h3⟩ := Option.bind_eq_some_iff.mp h1
  cases pv with
  | r i => cases h2
  | d y =>
    cases h2
    exact hg F pe σ H1 x v e1 _ s1 r1 h3 fun σ1 s2 _ _ sb _ _ => q2 σ1 H1 s2 (b1.sub fun b hb => sb.subset hb)
theorem m_set {a : XE} {i : Nat} {x : Expr} {nm : Str} {pos pos' : Pos} (h : PE X x (tE G a)) (hN : X.N.Nodup) (hi : X.N[i]? = some nm) (hx : Loc X.env.scope nm) (hs : swapsWith x (some (.Name nm pos')) pos.line X.env = pure false := by rfl) (hf : X.fn nm = true ∨ X.env.scope.names.lookup nm = some .local := by first | exact .inl rfl | exact .inr rfl | assumption) :
    PS X (.Assign [.Name nm pos'] x pos) (tS G Wx (sAsg a (gN i))) := PS.weak (ps_set hN hi hx h hs hf) fun D σ H q => w_asg g_name q
theorem m_asg {a : XE} {g : XG} {tg : TG} {js : List Nat} {x t : Expr} {pos : Pos} (h : PE X x (tE G a)) (hg : PG X t tg) (gk : GOk G g tg js) (hs : swapsWithSole [t] x pos.line X.env = pure false := by rfl) (hw : swappedStores [t] x X.env = pure none := by rfl)
    (h1 : (assignEach [t] X.env).map (·.2) = [assign t X.env] := by rfl) : PS X (.Assign [t] x pos) (tS G Wx (sAsg a g)) := PS.weak (ps_asg h hg hs hw h1) fun D σ H q => w_asg gk q
theorem own_set_in {t : Option Sl} {p : Addr} : ∀ {e : En} {σ : L2.St} {i : Nat} {b : Addr}, b ∈ own (e.set i t) (σ.set i (some (.ref p))) → b = p ∨ b ∈ own e σ
  | [], σ, i, b, h => by
    exfalso
    have : own ([].set i t) (σ.set i (some (.ref p))) = [] := by
      cases q : σ.set i (some (V.ref p)) <;> rfl
    rw [this] at h
    cases h
  | s :: e, [], i, b, h => by
    exfalso
    have : own ((s :: e).set i t) ([].set i (some (.ref p))) = [] := by
      cases q : (s :: e).set i t <;> rfl
    rw [this] at h
    cases h
  | s :: e, x :: σ, 0, b, h => by
    rcases List.mem_append.mp h with z | z
    · left
      unfold ownS at z
      split at z
      · rename_i q; cases q; exact List.mem_singleton.mp z
      · rename_i q; cases q; exact List.mem_singleton.mp z
      · rename_i q; cases q; exact List.mem_singleton.mp z
      · cases z
    · exact Or.inr (List.mem_append_right _ z)
  | s :: e, x :: σ, i + 1, b, h => by
    rcases List.mem_append.mp h with z | z
    · exact Or.inr (List.mem_append_left _ z)
    · exact (own_set_in (e := e) (σ := σ) (i := i) z).imp id fun z => List.mem_append_right _ z
theorem own_set_nd {t : Option Sl} {p : Addr} : ∀ {e : En} {σ : L2.St} {i : Nat}, (own e σ).Nodup → p ∉ own e σ → (own (e.set i t) (σ.set i (some (.ref p)))).Nodup
  | [], σ, i, _, _ => by
    have : own ([].set i t) (σ.set i (some (.ref p))) = [] := by
      cases q : σ.set i (some (V.ref p)) <;> rfl
    rw [this]
    exact List.nodup_nil
  | s :: e, [], i, _, _ => by
    have : own ((s :: e).set i t) ([].set i (some (.ref p))) = [] := by
      cases q : (s :: e).set i t <;> rfl
    rw [this]
    exact List.nodup_nil
  | s :: e, x :: σ, 0, nd, hp => by
    have nd' : (ownS s x ++ own e σ).Nodup := nd
    have h2 : p ∉ own e σ := fun z => hp (List.mem_append_right _ z)
    show (ownS t (some (.ref p)) ++ own e σ).Nodup
    have h3 : ownS t (some (.ref p)) = [p] ∨ ownS t (some (.ref p)) = [] := by
      unfold ownS
      split
      · rename_i q; cases q; exact Or.inl rfl
      · rename_i q; cases q; exact Or.inl rfl
      · rename_i q; cases q; exact Or.inl rfl
      · exact Or.inr rfl
    have n2 := (List.nodup_append.mp nd').2.1
    rcases h3 with h3 | h3
    · rw [h3]
      exact List.nodup_cons.mpr ⟨h2, n2⟩
    · rw [h3]
      exact n2
  | s :: e, x :: σ, i + 1, nd, hp => by
    have nd' : (ownS s x ++ own e σ).Nodup := nd
    obtain ⟨n1, n2, n3⟩ := List.nodup_append.mp nd'
    show (ownS s x ++ own (e.set i t) (σ.set i (some (.ref p)))).Nodup
    refine List.nodup_append.mpr ⟨n1, own_set_nd n2 (fun z => hp (List.mem_append_right _ z)), fun a ha b hb => ?_⟩
    rcases own_set_in hb with z | z
    · intro q
      rw [q, z] at ha
      exact hp (List.mem_append_left _ ha)
    · exact n3 a ha b z
theorem Sim.new (s : Sim G F e σ H) (o : G.Ok) {i : Nat} {p : Addr} {ds : List Dt} {xs : List V} (hp : H p = none) (r : RpA G.K (cut (F.U e σ) H) (rens (rho G F) ds) xs) : Sim G F (e.set i (some (.own ds))) (σ.set i (some (.ref p))) (upd H p (.lst xs)) := by
  have tr := s.tr o
  have pz : p ∉ F.Z := fun z => s.zt p z hp
  have pd : p ∉ F.dS := fun z => s.dS o p z hp
  have po : p ∉ own e σ := fun z => s.slots.there p z hp
  have exU : Ex (cut (F.U e σ) H) (cut (F.U (e.set i (some (.own ds))) (σ.set i (some (.ref p)))) (upd H p (.lst xs))) := fun b u h => by
    obtain ⟨h1, h2⟩ := cut_some h
    have ne : b ≠ p := fun z => by rw [z, hp] at h1; cases h1
    rw [cut_out ?_, upd_ne ne]
    · exact h1
    · intro z
      rcases List.mem_append.mp z with z | z
      · exact h2 (List.mem_append_left _ z)
      · rcases List.mem_append.mp z with z | z
        · exact h2 (List.mem_append_right _ (List.mem_append_left _ z))
        · rcases own_set_in z with z | z
          · exact ne z
          · exact h2 (List.mem_append_right _ (List.mem_append_right _ z))
  refine ⟨slRs_iff.mpr ⟨by simp [s.len], fun j t u h h' => ?_⟩, own_set_nd s.nd po, fun b hb => ?_, fun b hb => ?_, s.zd, fun a g h => ?_, slf_set s rfl⟩
  · by_cases hj : j = i
    · subst hj
      rw [List.getElem?_set] at h h'
      simp only [if_true] at h h'
      split at h
      · split at h'
        · cases h
          cases h'
          exact ⟨p, xs, rfl, upd_same, r.mono exU⟩
        · cases h'
      · cases h
    · rw [List.getElem?_set_ne (Ne.symm hj)] at h h'
      have q := ((slRs_iff.mp s.slots).2 j t u h h').mono exU
      match t, q with
      | none, _ => trivial
      | some (.d y), q => exact q
      | some (.own es), ⟨a, ys, e1, e2, e3⟩ => exact ⟨a, ys, e1, by rw [upd_ne (fun z => by rw [z, hp] at e2; cases e2)]; exact e2, e3⟩
      | some (.ob c fs), ⟨a, dx, gs, e1, e2, e3⟩ => exact ⟨a, dx, gs, e1, by rw [upd_ne (fun z => by rw [z, hp] at e2; cases e2)]; exact e2, e3⟩
      | some (.dk kvs), ⟨a, e1, e2⟩ => exact ⟨a, e1, by rw [upd_ne (fun z => by rw [z, hp] at e2; cases e2)]; exact e2⟩
  · rcases own_set_in hb with z | z
    · rw [z]; exact ⟨pz, pd⟩
    · exact s.dis b z
  · rw [upd_ne (fun z : b = p => pz (z ▸ hb))]
    exact s.zt b hb
  · obtain ⟨h1, h2⟩ := o.so (s.deal a g h)
    exact o.up (s.deal a g h) (fun z => h1 (z ▸ hp)) (fun z => h2 (z ▸ hp))
theorem Bs.new (b : Bs F B e σ H) (s : Sim G F e σ H) (o : G.Ok) {i : Nat} {p : Addr} {t : Option Sl} {u : HO} (hp : H p = none) : Bs F B (e.set i t) (σ.set i (some (.ref p))) (upd H p u) := by
  have pd : p ∉ F.dS := fun z => s.dS o p z hp
  refine ⟨fun x w h1 h2 => ?_, fun x hx => ?_⟩
  · have h3 := b.st x w h1 h2
    rw [upd_ne (fun z => by rw [z, hp] at h3; cases h3)]
    exact h3
  · rcases own_set_in hx with z | z
    · rw [z]
      cases q : B p with
      | none => rfl
      | some w =>
        have := b.st p w pd q
        rw [hp] at this
        cases this
    · exact b.nw x z
theorem m_own (o : G.Ok) {as : XA} {i : Nat} {es : List Expr} {nm : Str} {pos pos' pos2 : Pos} (h : PA X es (tA G as)) (hN : X.N.Nodup) (hi : X.N[i]? = some nm) (hx : Loc X.env.scope nm) (hs : swapsWith (.List es pos2) (some (.Name nm pos')) pos.line X.env = pure false := by rfl) (hf : X.fn nm = true ∨ X.env.scope.names.lookup nm = some .local := by first | exact .inl rfl | exact .inr rfl | assumption) :
    PS X (.Assign [.Name nm pos'] (.List es pos2) pos) (tS G Wx (sOwn i as)) := PS.weak (ps_set hN hi hx (pe_lst h) hs hf) fun D σ H q => by
  obtain ⟨F, B, e, s, b, q⟩ := q
  refine ⟨F, e, s, Tr.All.mono (fun p q vs H1 h1 f1 s1 r1 => ?_) (Tr.all_bind.mp q)⟩
  obtain ⟨ds, hd, q⟩ := Tr.of_all (Tr.all_bind.mp q)
  have r := dats_rep r1 hd
  have b1 := b.fw h1 f1
  split at q
  · rename_i hl
    refine ⟨sz_of (by rw [r.length, rens_len]; exact hl), fun a ha => ?_⟩
    exact q _ _ (s1.new o ha r) (b1.new s1 o ha)
  · exact q.elim
end
end Mc
namespace Mc
open PySem PySem.Spec PyProof.Rows L2 Evl
structure TurnX (K : PySem.W.Frag) (Hb : Hp) (J : It) (items : List Dt) : Prop where
  go : ∀ i H', Ex Hb H' → i < items.length → J.go i H'
  stop : ∀ H', Ex Hb H' → J.stop items.length H'
  yld : ∀ i H' x H'' d, Ex Hb H' → J.yld i H' x H'' → items[i]? = some d → Ex H' H'' ∧ ∀ Hc, Ex Hb Hc → (∀ b o, H' b = none → H'' b = some o → Hc b = some o) → Rp K Hc d x
def PostI (G : Gd) (F : Fr) (e : En) (σ : L2.St) (H : Hp) (R : It → Hp → Prop) (p : List Dt × En) : Prop := ∀ J H', own p.2 σ = own e σ → Fw F (own e σ) H H' → Sim G F p.2 σ H' → TurnX G.K (cut (F.U p.2 σ) H') J (rens (rho G F) p.1) → R J H'
def tI (G : Gd) (x : XI) : TI := fun σ H R => ∃ F e, Sim G F e σ H ∧ (x e).All (PostI G F e σ H R)
theorem rens_get {ρ : Addr → Addr} {ds : List Dt} {i : Nat} {d : Dt} (h : ds[i]? = some d) : (rens ρ ds)[i]? = some (ren ρ d) := by
  rw [rens_map, List.getElem?_map, h]
  rfl
section
variable {G : Gd} {Wx : WX} {F : Fr} {e e' : En} {σ σ' : L2.St} {H H' B : Hp} {X : Cx} {D : Ends}
theorem PI.weak {tg iter : Expr} {t t' : TI} (h : PI X tg iter t) (w : ∀ σ H R, t' σ H R → t σ H R) : PI X tg iter t' := ⟨fun pins s σ H Q I q => h.run pins s σ H Q I (w σ H Q q)⟩
theorem Bs.start (s : Sim G F e σ H) (b : Bs F B e σ H) : Bs F (cut (F.dS ++ own e σ) H) e σ H ∧ ∀ e1 σ1 H1, Sim G F e1 σ1 H1 → Bs F (cut (F.dS ++ own e σ) H) e1 σ1 H1 → Bs F B e1 σ1 H1 := by
  have up : ∀ x w, x ∉ F.dS → B x = some w → cut (F.dS ++ own e σ) H x = some w := fun x w h1 h2 => by
    rw [cut_out]
    · exact b.st x w h1 h2
    · intro z
      rcases List.mem_append.mp z with z | z
      · exact h1 z
      · rw [b.nw x z] at h2
        cases h2
  refine ⟨⟨fun x w h1 h2 => (cut_some h2).1, fun x hx => cut_in (List.mem_append_right _ hx)⟩, fun e1 σ1 H1 s1 b1 => ⟨fun x w h1 h2 => b1.st x w h1 (up x w h1 h2), fun x hx => ?_⟩⟩
  cases q : B x with
  | none => rfl
  | some w =>
    have := up x w (s1.dis x hx).2 q
    rw [b1.nw x hx] at this
    cases this
theorem m_for (o : G.Ok) {it : XI} {g : XG} {tg : TG} {js : List Nat} {x : XS} {t iter : Expr} {body : List Stmt} {pos : Pos} (hp : PassesOwn (model X.prog X.w) X.A X.env X.xe) (hc : X.calm = true) (hi : PI X t iter (tI G it)) (hg : PG X t tg) (gk : GOk G g tg js) (hb : PSs X body (tS G Wx x))
    (hs : ∀ x, foldedSetIterable iter X.env x = pure x := by intro _; rfl) : PS X (.For t iter body [] pos) (tS G Wx (sFor it g x)) := PS.weak (ps_for hp hc hi hg hb hs) fun D σ H q => by
  obtain ⟨F, B, e, s, b, q⟩ := q
  refine ⟨F, e, s, Tr.All.mono (fun p q J H1 h1 f1 s1 T => ?_) (Tr.all_bind.mp q)⟩
  obtain ⟨items, e1⟩ := p
  have b1 := b.fw h1 f1
  obtain ⟨bb, bk⟩ := Bs.start s1 b1
  have hlen : (rens (rho G F) items).length = items.length := rens_len _ _
  -- what stands at the loop's start stands
  have base : ∀ {e2 : En} {σ2 : L2.St} {H2 : Hp}, Sim G F e2 σ2 H2 → Bs F (cut (F.dS ++ own e1 σ) H1) e2 σ2 H2 → Ex (cut (F.U e1 σ) H1) (cut (F.U e2 σ2) H2) := fun {e2 σ2 H2} s2 b2 x w h => by
    obtain ⟨g1, g2⟩ := cut_some h
    have g3 : x ∉ F.dS ++ own e1 σ := fun z => g2 (List.mem_append_right _ z)
    have g4 : cut (F.dS ++ own e1 σ) H1 x = some w := by rw [cut_out g3]; exact g1
    have g5 : x ∉ F.dS := fun z => g3 (List.mem_append_left _ z)
    rw [cut_out]
    · exact b2.st x w g5 g4
    · intro z
      rcases List.mem_append.mp z with z | z
      · exact g2 (List.mem_append_left _ z)
      · rcases List.mem_append.mp z with z | z
        · exact g5 z
        · rw [b2.nw x z] at g4
          cases g4
  refine ⟨fun i m σ' H' => m = items.length - i ∧ i ≤ items.length ∧ ∃ e', Sim G F e' σ' H' ∧ Bs F (cut (F.dS ++ own e1 σ) H1) e' σ' H' ∧ (forLoop g x (items.drop i) e').All (PostS G Wx F B D), ⟨_, rfl, Nat.zero_le _, e1, s1, bb, q⟩, ?_⟩
  rintro i m σ' H' ⟨rfl, hle, e', s', b', q'⟩
  have ex' := base s' b'
  have ex0 : Ex (cut (F.U e1 σ) H1) H' := Ex.trans ex' (cut_le _ _)
  by_cases hlt : i < items.length
  · refine Or.inr ⟨T.go i H' ex0 (by rw [hlen]; exact hlt), fun σ2 H2 => i + 1 ≤ items.length ∧ ∃ e2, Sim G F e2 σ2 H2 ∧ Bs F (cut (F.dS ++ own e1 σ) H1) e2 σ2 H2 ∧ (forLoop g x (items.drop (i + 1)) e2).All (PostS G Wx F B D), fun σ2 H2 h2 => ⟨items.length - (i + 1), by omega, rfl, h2⟩, fun y H2 yl => ?_⟩
    have hd := List.getElem?_eq_getElem hlt
    obtain ⟨x2, rp⟩ := T.yld i H' y H2 _ ex0 yl (rens_get hd)
    obtain ⟨s2, f2⟩ := s'.ext o x2
    have b2 := b'.fw rfl f2
    have r2 := rp (cut (F.U e' σ') H2) (Ex.trans ex' f2.ex) fun z w h0 h3 => by
      rw [cut_out (fun hz => s'.tr o z hz h0)]
      exact h3
    have hdr : items.drop i = items[i] :: items.drop (i + 1) := List.drop_eq_getElem_cons hlt
    rw [hdr] at q'
    obtain ⟨e2, he2, q2⟩ := Tr.of_all (Tr.all_bind.mp q')
    refine gk F e' σ' H2 items[i] y e2 _ s2 r2 he2 fun σ3 s3 _ _ sb _ _ => ?_
    refine ⟨F, _, e2, s3, b2.sub fun z hz => sb.subset hz, Tr.All.mono (fun f q => ?_) (Tr.all_bind.mp q2)⟩
    cases f with
    | nx e4 => exact fun σ4 H4 s4 b4 => ⟨hlt, e4, s4, b4, q⟩
    | ct e4 => exact fun σ4 H4 s4 b4 => ⟨hlt, e4, s4, b4, q⟩
    | bk e4 => exact fun σ4 H4 s4 b4 => q σ4 H4 s4 (bk _ _ _ s4 b4)
    | rt v e4 => exact fun u σ4 H4 s4 b4 r4 => q u σ4 H4 s4 (bk _ _ _ s4 b4) r4
    | xc k n d e4 => exact fun σ4 H4 dx v s4 b4 h4 r4 => q σ4 H4 dx v s4 (bk _ _ _ s4 b4) h4 r4
  · have ei : i = items.length := by omega
    subst ei
    refine Or.inl ⟨by have := T.stop H' ex0; rw [hlen] at this; exact this, ?_⟩
    rw [List.drop_length] at q'
    exact q' σ' H' s' (bk _ _ _ s' b')
class PureE (a : XE) : Prop where
  same : ∀ e P, (a e).All P → (a e).All fun p => P p ∧ p.2 = e
class PureA (a : XA) : Prop where
  same : ∀ e P, (a e).All P → (a e).All fun p => P p ∧ p.2 = e
class PureT (a : XT) : Prop where
  same : ∀ e P, (a e).All P → (a e).All fun p => P p ∧ p.2 = e
class PureI (a : XI) : Prop where
  same : ∀ e P, (a e).All P → (a e).All fun p => P p ∧ p.2 = e
theorem pure_bind {α β : Type} {m : Tr (α × En)} {k : α × En → Tr (β × En)} {e : En} (h : ∀ P, m.All P → m.All fun p => P p ∧ p.2 = e) (hk : ∀ a P, (k (a, e)).All P → (k (a, e)).All fun p => P p ∧ p.2 = e) :
    ∀ P, (m.bind k).All P → (m.bind k).All fun p => P p ∧ p.2 = e := fun P q => by
  refine Tr.all_bind.mpr (Tr.All.mono (fun p hp => ?_) (h _ (Tr.all_bind.mp q)))
  obtain ⟨a, e1⟩ := p
  obtain ⟨q1, e2⟩ := hp
  have e2' : e1 = e := e2
  subst e2'
  exact hk a P q1
theorem pure_of {α β : Type} {o : Option α} {k : α → Tr (β × En)} {e : En} (hk : ∀ a P, (k a).All P → (k a).All fun p => P p ∧ p.2 = e) : ∀ P, ((Tr.of o).bind k).All P → ((Tr.of o).bind k).All fun p => P p ∧ p.2 = e := fun P q => by
  cases o with
  | none => exact q
  | some a => exact hk a P q
theorem pure_tr {α β : Type} {m : Tr α} {k : α → Tr (β × En)} {e : En} (hk : ∀ a P, (k a).All P → (k a).All fun p => P p ∧ p.2 = e) : ∀ P, (m.bind k).All P → (m.bind k).All fun p => P p ∧ p.2 = e := fun P q =>
  Tr.all_bind.mpr (Tr.All.mono (fun a ha => hk a P ha) (Tr.all_bind.mp q))
theorem pure_ret {β : Type} {b : β} {e : En} : ∀ P : β × En → Prop, (Tr.ret (b, e)).All P → (Tr.ret (b, e)).All fun p => P p ∧ p.2 = e := fun P q => ⟨q, rfl⟩
theorem pure_stuck {β : Type} {e : En} : ∀ P : β × En → Prop, (Tr.stuck : Tr (β × En)).All P → (Tr.stuck : Tr (β × En)).All fun p => P p ∧ p.2 = e := fun P q => q
instance {x : Dt} : PureE (xC x) := ⟨fun e => pure_ret⟩
instance {i : Nat} : PureE (xVar i) := ⟨fun e => pure_of fun a => pure_ret⟩
instance : PureA xNil := ⟨fun e => pure_ret⟩
instance {a : XE} {as : XA} [ha : PureE a] [hs : PureA as] : PureA (xCons a as) := ⟨fun e => pure_bind (ha.same e) fun a => pure_bind (hs.same e) fun b => pure_ret⟩
instance {a : XE} {as : XA} [ha : PureE a] [hs : PureA as] : PureA (xStar a as) := ⟨fun e => pure_bind (ha.same e) fun a => pure_of fun c => pure_bind (hs.same e) fun b => pure_ret⟩
instance {f : List Rv → Option Dt} {as : XA} [hs : PureA as] : PureE (xB f as) := ⟨fun e => pure_bind (hs.same e) fun a => pure_of fun b => pure_ret⟩
instance {g : List Dt → Tr Dt} {as : XA} [hs : PureA as] : PureE (xF g as) := ⟨fun e => pure_bind (hs.same e) fun a => pure_of fun b => pure_tr fun c => pure_ret⟩
instance {a : XE} [ha : PureE a] : PureT (xTest a) := ⟨fun e => pure_bind (ha.same e) fun a => pure_of fun b => pure_ret⟩
instance {a b : XT} [ha : PureT a] [hb : PureT b] : PureT (xAndT a b) := ⟨fun e => pure_bind (ha.same e) fun c => by
  cases c with
  | true => exact hb.same e
  | false => exact pure_ret⟩
instance {a b : XT} [ha : PureT a] [hb : PureT b] : PureT (xOrT a b) := ⟨fun e => pure_bind (ha.same e) fun c => by
  cases c with
  | false => exact hb.same e
  | true => exact pure_ret⟩
instance {a : XT} [ha : PureT a] : PureT (xNotT a) := ⟨fun e => pure_bind (ha.same e) fun c => pure_ret⟩
instance : PureT yes := ⟨fun e => pure_ret⟩
instance {a b : XE} [ha : PureE a] [hb : PureE b] : PureE (xAnd a b) := ⟨fun e => pure_bind (ha.same e) fun c => pure_of fun d => by
  cases d with
  | true => exact hb.same e
  | false => exact pure_ret⟩
instance {a b : XE} [ha : PureE a] [hb : PureE b] : PureE (xOr a b) := ⟨fun e => pure_bind (ha.same e) fun c => pure_of fun d => by
  cases d with
  | false => exact hb.same e
  | true => exact pure_ret⟩
instance {a : XE} [ha : PureE a] : PureE (xNot a) := ⟨fun e => pure_bind (ha.same e) fun c => pure_of fun d => pure_ret⟩
instance {t : XT} {a b : XE} [ht : PureT t] [ha : PureE a] [hb : PureE b] : PureE (xIf t a b) := ⟨fun e => pure_bind (ht.same e) fun c => by
  cases c with
  | true => exact ha.same e
  | false => exact hb.same e⟩
instance {as : XA} [hs : PureA as] : PureE (xTup as) := ⟨fun e => pure_bind (hs.same e) fun a => pure_of fun b => by
  split
  · exact pure_ret
  · exact pure_stuck⟩
instance {as : XA} [hs : PureA as] : PureE (xLst as) := ⟨fun e => pure_bind (hs.same e) fun a => pure_of fun b => by
  split
  · exact pure_ret
  · exact pure_stuck⟩
instance {f : List Rv → Option (List Dt)} {as : XA} [hs : PureA as] : PureI (iX f as) := ⟨fun e => pure_bind (hs.same e) fun a => pure_of fun b => pure_ret⟩
instance {it : XI} {g : XG} {t : XT} {a : XE} {vs : List Nat} [hi : PureI it] : PureE (xLc it g t a vs) := ⟨fun e => pure_bind (hi.same e) fun c => by
  dsimp only
  split
  · exact pure_tr fun d => pure_ret
  · exact pure_stuck⟩
theorem Sim.addZ (s : Sim G F e σ H) (o : G.Ok) {d : Addr} {u : HO} (hd : H d = none) : Sim G ⟨d :: F.Z, F.dl, F.sf, F.hd⟩ e σ (upd H d u) := by
  have dz : d ∉ F.Z := fun z => s.zt d z hd
  have dd : d ∉ F.dS := fun z => s.dS o d z hd
  have od : d ∉ own e σ := fun z => s.slots.there d z hd
  have ex : Ex (cut (F.U e σ) H) (cut (Fr.U ⟨d :: F.Z, F.dl, F.sf, F.hd⟩ e σ) (upd H d u)) := fun b w h => by
    obtain ⟨h1, h2⟩ := cut_some h
    have ne : b ≠ d := fun z => by rw [z, hd] at h1; cases h1
    rw [cut_out ?_, upd_ne ne]
    · exact h1
    · intro z
      rcases List.mem_append.mp z with z | z
      · rcases List.mem_cons.mp z with z | z
        · exact ne z
        · exact h2 (List.mem_append_left _ z)
      · exact h2 (List.mem_append_right _ z)
  refine ⟨SlRs.step ex (fun b hb => upd_ne (fun z => od (z ▸ hb))) s.slots, s.nd, fun b hb => ⟨fun z => ?_, (s.dis b hb).2⟩, fun b hb => ?_, fun b hb z => ?_, fun a g h => ?_, s.slf⟩
  · rcases List.mem_cons.mp z with z | z
    · exact od (z ▸ hb)
    · exact (s.dis b hb).1 z
  · rcases List.mem_cons.mp hb with z | z
    · rw [z, upd_same]; exact fun q => nomatch q
    · rw [upd_ne (fun y : b = d => dz (y ▸ z))]; exact s.zt b z
  · rcases List.mem_cons.mp z with z | z
    · exact dd (z ▸ hb)
    · exact s.zd b hb z
  · obtain ⟨h1, h2⟩ := o.so (s.deal a g h)
    exact o.up (s.deal a g h) (fun z => h1 (z ▸ hd)) (fun z => h2 (z ▸ hd))
theorem Sim.writeZ (s : Sim G F e σ H) (o : G.Ok) {d : Addr} {u : HO} (hd : d ∈ F.Z) : Sim G F e σ (upd H d u) := by
  have od : d ∉ own e σ := fun z => (s.dis d z).1 hd
  have dd : d ∉ F.dS := fun z => s.zd d z hd
  have ec : cut (F.U e σ) (upd H d u) = cut (F.U e σ) H := cut_mut (List.mem_append_left _ hd)
  refine ⟨?_, s.nd, s.dis, fun b hb => ?_, s.zd, fun a g h => ?_, s.slf⟩
  · rw [ec]
    exact SlRs.step (Ex.refl _) (fun b hb => upd_ne (fun z => od (z ▸ hb))) s.slots
  · by_cases z : b = d
    · rw [z, upd_same]; exact fun q => nomatch q
    · rw [upd_ne z]; exact s.zt b hb
  · have e1 : F.dS = [a, g] := Fr.dS_some h
    rw [e1] at dd
    exact o.up (s.deal a g h) (fun z => dd (by simp [z])) (fun z => dd (by simp [z]))
theorem Sim.back {vs : List Nat} {e2 : En} {σ2 : L2.St} (s : Sim G F e σ H) (s2 : Sim G F e2 σ2 H') (ho : own e2 σ2 = own e σ) (f : Fw F (own e σ) H H') (hv : ∀ j ∈ vs, noOwn e j = true) (he : ∀ k, k ∉ vs → e2[k]? = e[k]?) (hσ : ∀ k, k ∉ vs → σ2[k]? = σ[k]?) : Sim G F e σ H' := by
  have eU : F.U e2 σ2 = F.U e σ := by unfold Fr.U; rw [ho]
  refine ⟨slRs_iff.mpr ⟨s.len, fun i t u h h' => ?_⟩, s.nd, s.dis, s2.zt, s2.zd, s2.deal, s.slf⟩
  by_cases hp : plainS t = true
  · match t, hp with
    | none, _ => trivial
    | some (.d y), _ =>
      obtain ⟨v, e1, r⟩ := (slRs_iff.mp s.slots).2 i _ u h h'
      exact ⟨v, e1, r.mono f.ex⟩
  · have hi : i ∉ vs := fun z => by
      have := hv i z
      unfold noOwn at this
      rw [h] at this
      match t, hp with
      | none, hp => exact hp rfl
      | some (.d y), hp => exact hp rfl
      | some (.own y), _ => cases this
      | some (.ob y z), _ => cases this
      | some (.dk y), _ => cases this
    have q := (slRs_iff.mp s2.slots).2 i t u (by rw [he i hi]; exact h) (by rw [hσ i hi]; exact h')
    rw [eU] at q
    exact q
theorem lc_turn (o : G.Ok) {g : XG} {tg : TG} {js vs : List Nat} {t : XT} {a : XE} [ht : PureT t] [ha : PureE a] (gk : GOk G g tg js) (hjs : ∀ j ∈ js, j ∈ vs) {d : Addr} {x : Dt} {y : V} {rest acc : List Dt} {P : List Dt → Prop} {Nx : Hp → Prop}
    (s : Sim G F e σ H) (hd : d ∈ F.Z) (hv : ∀ j ∈ vs, noOwn e j = true) (r : Rp G.K (cut (F.U e σ) H) (ren (rho G F) x) y) {xs : List V} (hx : H d = some (.lst xs)) (rx : RpA G.K (cut (F.U e σ) H) (rens (rho G F) acc) xs) (ha0 : acc.length < 95000)
    (q : (lcLoop g t a (wipeN e vs) (x :: rest) acc).All P)
    (k : ∀ H', Sim G F e σ H' → Fw F (d :: own e σ) H H' → ∀ acc' xs', H' d = some (.lst xs') → RpA G.K (cut (F.U e σ) H') (rens (rho G F) acc') xs' → acc'.length ≤ acc.length + 1 → (lcLoop g t a (wipeN e vs) rest acc').All P → Nx H') :
    tg y (L2.wipe σ vs) H fun σ2 H2 => L2.wipe σ2 vs = L2.wipe σ vs ∧ tT G t σ2 H2 fun b H3 => if b = true then tE G a σ2 H3 fun z H4 => ∃ acc, H4 d = some (.lst acc) ∧ acc.length < sizeLine ∧ Nx (upd H4 d (.lst (acc ++ [z]))) else Nx H3 := by
  have ow := own_wipe s.len hv
  have sw := s.wipe vs
  have eU : F.U (wipeN e vs) (L2.wipe σ vs) = F.U e σ := by unfold Fr.U; rw [ow]
  obtain ⟨e2, he2, q2⟩ := Tr.of_all (Tr.all_bind.mp q)
  refine gk F (wipeN e vs) (L2.wipe σ vs) H x y e2 _ sw (by rw [eU]; exact r) he2 fun σ2 s2 c2 d2 _ k2 _ => ⟨wipe_chg c2 hjs, ?_⟩
  have o2 : own e2 σ2 = own e σ := (k2 fun j hj => noOwn_wipe (hv j (hjs j hj))).trans ow
  have ag1 : ∀ m, m ∉ vs → e2[m]? = e[m]? := fun m hm => (d2 m fun z => hm (hjs m z)).trans (wipeN_out hm)
  have ag2 : ∀ m, m ∉ vs → σ2[m]? = σ[m]? := fun m hm => (c2.2 m fun z => hm (hjs m z)).trans (wipe_out' hm)
  have dno : d ∉ own e2 σ2 := fun z => (s2.dis d z).1 hd
  have ddS : d ∉ F.dS := fun z => s.zd d z hd
  refine ⟨F, e2, s2, Tr.All.mono (fun p q H3 h3 f3 s3 => ?_) (ht.same e2 _ (Tr.all_bind.mp q2))⟩
  obtain ⟨b, e3⟩ := p
  obtain ⟨q, ee⟩ := q
  have ee' : e3 = e2 := ee
  subst ee'
  rw [o2] at f3
  have back3 : Sim G F e σ H3 := s.back s3 o2 f3 hv ag1 ag2
  have hx3 : H3 d = some (.lst xs) := f3 d _ ddS (by rw [← o2]; exact dno) hx
  have weak : ∀ {H1 H2 : Hp}, Fw F (own e σ) H1 H2 → Fw F (d :: own e σ) H1 H2 := fun f z w h1 h2 h => f z w h1 (fun y => h2 (List.mem_cons_of_mem _ y)) h
  cases b with
  | false => exact k H3 back3 (weak f3) acc xs hx3 (rx.mono f3.ex) (Nat.le_succ _) q
  | true =>
    show tE G a σ2 H3 _
    refine ⟨F, e3, s3, Tr.All.mono (fun p q4 z H4 h4 f4 s4 r4 => ?_) (ha.same e3 _ (Tr.all_bind.mp q))⟩
    obtain ⟨v, e4⟩ := p
    obtain ⟨q5, ee4⟩ := q4
    have ee4' : e4 = e3 := ee4
    subst ee4'
    obtain ⟨w, hw, q6⟩ := Tr.of_all (Tr.all_bind.mp q5)
    have hv4 : v = .d w := by
      cases v with
      | d z => cases hw; rfl
      | r i => cases hw
    subst hv4
    rw [o2] at f4
    have back4 : Sim G F e σ H4 := back3.back s4 o2 f4 hv ag1 ag2
    have hx4 : H4 d = some (.lst xs) := f4 d _ ddS (by rw [← o2]; exact dno) hx3
    refine ⟨xs, hx4, sz_lt (by rw [rx.length, rens_len]; omega), ?_⟩
    have f34 : Fw F (own e σ) H H4 := f3.trans f4
    have ec : cut (F.U e σ) (upd H4 d (.lst (xs ++ [z]))) = cut (F.U e σ) H4 := cut_mut (List.mem_append_left _ hd)
    refine k _ (back4.writeZ o hd) ?_ (acc ++ [w]) (xs ++ [z]) upd_same ?_ (by simp) q6
    · intro b u h1 h2 h
      rw [upd_ne (fun y => h2 (by simp [y]))]
      exact weak f34 b u h1 h2 h
    · rw [ec, rens_map, List.map_append, ← rens_map]
      refine RpA.append (rx.mono f34.ex) (RpA.one ?_)
      have r4' : Rp G.K (cut (F.U e4 σ2) H4) (ren (rho G F) w) z := r4
      rw [show F.U e4 σ2 = F.U e σ by unfold Fr.U; rw [o2]] at r4'
      exact r4'
theorem w_lc (o : G.Ok) {it : XI} {g : XG} {tg : TG} {js vs : List Nat} {t : XT} {a : XE} [ht : PureT t] [ha : PureE a] (gk : GOk G g tg js) (hjs : ∀ j ∈ js, j ∈ vs) {Q : VK} (q : tE G (xLc it g t a vs) σ H Q) : tLc (tI G it) tg (tT G t) (tE G a) vs σ H Q := by
  obtain ⟨F, e, s, q⟩ := q
  refine ⟨F, e, s, Tr.All.mono (fun p q J H1 h1 f1 s1 T d hd => ?_) (Tr.all_bind.mp q)⟩
  obtain ⟨items, e1⟩ := p
  dsimp only at q
  split at q
  case isFalse => exact q.elim
  rename_i hcond
  obtain ⟨hl, hvs⟩ := hcond
  have hv : ∀ j ∈ vs, noOwn e1 j = true := fun j hj => List.all_eq_true.mp hvs j hj
  have q := Tr.all_bind.mp q
  have hlen : (rens (rho G F) items).length = items.length := rens_len _ _
  let F' : Fr := ⟨d :: F.Z, F.dl, F.sf, F.hd⟩
  have hdz : d ∈ F'.Z := List.mem_cons_self
  have dO : d ∉ own e1 σ := fun z => s1.slots.there d z hd
  have dU : d ∉ F.U e1 σ := fun z => s1.tr o d z hd
  -- the list that is being made
  refine ⟨fun i m H' => m = items.length - i ∧ i ≤ items.length ∧ ∃ acc xs, H' d = some (.lst xs) ∧ RpA G.K (cut (F'.U e1 σ) H') (rens (rho G F) acc) xs ∧ acc.length ≤ i ∧ Sim G F' e1 σ H' ∧ Fw F (d :: own e1 σ) H1 H' ∧ (lcLoop g t a (wipeN e1 vs) (items.drop i) acc).All _,
    ⟨_, rfl, Nat.zero_le _, [], [], upd_same, rfl, Nat.le_refl _, s1.addZ o hd, fun b u h1 h2 h => by rw [upd_ne (fun z => h2 (by simp [z]))]; exact h, q⟩, ?_⟩
  rintro i m H' ⟨rfl, hle, acc, xs, hx, rx, hacc, s', f', q'⟩
  have ex0 : Ex (cut (F.U e1 σ) H1) (cut (F'.U e1 σ) H') := fun b u h => by
    obtain ⟨g1, g2⟩ := cut_some h
    have ne : b ≠ d := fun z => by rw [z, hd] at g1; cases g1
    have g3 : b ∉ F.dS ++ own e1 σ := fun z => g2 (List.mem_append_right _ z)
    rw [cut_out]
    · exact f' b u (fun z => g3 (List.mem_append_left _ z)) (fun z => (List.mem_cons.mp z).elim ne fun z => g3 (List.mem_append_right _ z)) g1
    · intro z
      rcases List.mem_append.mp z with z | z
      · rcases List.mem_cons.mp z with z | z
        · exact ne z
        · exact g2 (List.mem_append_left _ z)
      · exact g3 z
  have ex1 : Ex (cut (F.U e1 σ) H1) H' := Ex.trans ex0 (cut_le _ _)
  by_cases hlt : i < items.length
  · refine Or.inr ⟨T.go i H' ex1 (by rw [hlen]; exact hlt), fun H2 => i + 1 ≤ items.length ∧ ∃ acc xs, H2 d = some (.lst xs) ∧ RpA G.K (cut (F'.U e1 σ) H2) (rens (rho G F) acc) xs ∧ acc.length ≤ i + 1 ∧ Sim G F' e1 σ H2 ∧ Fw F (d :: own e1 σ) H1 H2 ∧ (lcLoop g t a (wipeN e1 vs) (items.drop (i + 1)) acc).All _, fun H2 h2 => ⟨items.length - (i + 1), by omega, rfl, h2⟩, fun y H2 yl => ?_⟩
    have hdr : items.drop i = items[i] :: items.drop (i + 1) := List.drop_eq_getElem_cons hlt
    rw [hdr] at q'
    obtain ⟨x2, rp⟩ := T.yld i H' y H2 _ ex1 yl (rens_get (List.getElem?_eq_getElem hlt))
    obtain ⟨s2, f2⟩ := s'.ext o x2
    have r2 := rp (cut (F'.U e1 σ) H2) (Ex.trans ex0 f2.ex) fun z w h0 h3 => by
      rw [cut_out (fun hz => s'.tr o z hz h0)]
      exact h3
    refine lc_turn (F := F') o gk hjs s2 hdz hv r2 (x2 d _ hx) (rx.mono f2.ex) (by omega) q' fun H3 s3 f3 acc' xs' h3 r3 l3 q3 => ⟨hlt, acc', xs', h3, r3, by omega, s3, ?_, q3⟩
    intro b u g1 g2 g3
    exact f3 b u g1 g2 (x2 b u (f' b u g1 g2 g3))
  · have ei : i = items.length := by omega
    subst ei
    rw [List.drop_length] at q'
    refine Or.inl ⟨by have := T.stop H' ex1; rw [hlen] at this; exact this, ?_⟩
    -- d is no longer anybody's own
    have fE : Fw F (own e1 σ) H1 H' := fun b u g1 g2 g3 => f' b u g1 (fun z => (List.mem_cons.mp z).elim (fun z => by rw [z, hd] at g3; cases g3) g2) g3
    have mU : Ex (cut (F'.U e1 σ) H') (cut (F.U e1 σ) H') := cut_subL fun b hb => by
      rcases List.mem_append.mp hb with z | z
      · exact List.mem_append_left _ (List.mem_cons_of_mem _ z)
      · exact List.mem_append_right _ z
    have sE : Sim G F e1 σ H' := ⟨SlRs.step mU (fun _ _ => rfl) s'.slots, s'.nd, s1.dis, fun b hb => s'.zt b (List.mem_cons_of_mem _ hb), s1.zd, s'.deal, s1.slf⟩
    exact q' (.ref d) H' h1 (f1.trans (h1 ▸ fE)) sE ⟨d, xs, rfl, by rw [cut_out dU]; exact hx, rx.mono mU⟩
theorem m_lc (o : G.Ok) {it : XI} {g : XG} {tg : TG} {js : List Nat} {t : XT} {a : XE} [ht : PureT t] [ha : PureE a] {elt tgt iter : Expr} {ifs : List Expr} {scope : Scope} {ow : List (Str × Nat)} {pos : Pos} (gk : GOk G g tg js) (hjs : ∀ j ∈ js, j ∈ ow.map (·.2)) (hc : X.calm = true) (hN : X.N.Nodup) (hi : PI X tgt iter (tI G it)) (ok : BlkOk X.N X.env.scope scope ow)
    (hg : ∀ (s : Shared) (H : Hp) (C : Addr) (cl : List (Str × Addr)) (fp : List Addr), PG (X.blk s H scope (compEnvC scope cl C X.env) fp) tgt tg) (hts : ∀ (s : Shared) (H : Hp) (C : Addr) (cl : List (Str × Addr)) (fp : List Addr), PTs (X.blk s H scope (compEnvC scope cl C X.env) fp) ifs (tT G t))
    (he : ∀ (s : Shared) (H : Hp) (C : Addr) (cl : List (Str × Addr)) (fp : List Addr), PE (X.blk s H scope (compEnvC scope cl C X.env) fp) elt (tE G a)) (hs : ∀ x, foldedSetIterable iter X.env x = pure x := by intro _; rfl) :
    PE X (.ListComp elt [⟨tgt, iter, ifs, 0⟩] scope pos) (tE G (xLc it g t a (ow.map (·.2)))) := PE.weak (pe_lc hc hN hi ok hg hts he hs) fun σ H Q q => w_lc o gk hjs q
end
end Mc
namespace Mc
open PySem PySem.Spec PyProof.Rows L2 Evl
structure FrOk (G : Gd) (F : Fr) (H : Hp) : Prop where
  zt : ∀ b ∈ F.Z, H b ≠ none
  zd : ∀ b ∈ F.dS, b ∉ F.Z
  deal : ∀ a g, F.dl = some (a, g) → G.src H a g
def Fr.V (F : Fr) : List Addr := F.Z ++ F.dS
def spF (G : Gd) (n : Nat) (g : List Dt → Tr Dt) : Sp := fun vs H Q _ => ∃ F args, FrOk G F H ∧ args.length = n ∧ RpA G.K (cut F.V H) (rens (rho G F) args) vs ∧ (g args).All fun d => ∀ v H', Fw F [] H H' → FrOk G F H' → Rp G.K (cut F.V H') (ren (rho G F) d) v → Q v H'
theorem spF_len {G : Gd} {n : Nat} {g : List Dt → Tr Dt} {vs : List V} {H : Hp} {Q : VK} {E : XK} (h : spF G n g vs H Q E) : vs.length = n := by
  obtain ⟨F, args, _, hl, hr, _⟩ := h
  rw [hr.length, rens_len, hl]
def spI' (G : Gd) (k : Addr) (n : Nat) (g : List Dt → Tr Dt) : Sp := fun vs H Q _ => ∃ F args x dx rest, vs = .ref x :: rest ∧ FrOk G F H ∧ x ∉ F.V ∧ H x = some (.ins (rho G F k) dx []) ∧ args.length = n ∧ RpA G.K (cut (F.V ++ [x]) H) (rens (rho G F) args) rest ∧
  (g args).All fun d => ∀ H', Fw F [x] H H' → FrOk G F H' → Rp G.K (cut F.V H') (ren (rho G F) d) (.ref x) → Q .non H'
theorem spI'_len {G : Gd} {k : Addr} {n : Nat} {g : List Dt → Tr Dt} {vs : List V} {H : Hp} {Q : VK} {E : XK} (h : spI' G k n g vs H Q E) : vs.length = n + 1 := by
  obtain ⟨F, args, x, dx, rest, rfl, _, _, _, hl, hr, _⟩ := h
  rw [List.length_cons, hr.length, rens_len, hl]
theorem cut_congr {S T : List Addr} {H : Hp} (h : ∀ b, b ∈ S ↔ b ∈ T) : cut S H = cut T H := by
  funext b
  unfold cut
  by_cases hb : b ∈ S
  · rw [if_pos hb, if_pos ((h b).mp hb)]
  · rw [if_neg hb, if_neg (fun z => hb ((h b).mpr z))]
theorem rho_dl {G : Gd} {F F' : Fr} (h : F'.dl = F.dl) : rho G F' = rho G F := by
  unfold rho
  rw [h]
section
variable {G : Gd} {Wx : WX} {F : Fr} {e e' : En} {σ σ' : L2.St} {H H' B : Hp} {X : Cx}
def Fr.call (F : Fr) (A : List Addr) : Fr := ⟨F.Z ++ A, F.dl, none, F.hd⟩
theorem Sim.callee (s : Sim G F e σ H) : FrOk G (F.call (own e σ)) H where
  zt := fun b hb => (List.mem_append.mp hb).elim (s.zt b) (s.slots.there b)
  zd := fun b hb z => (List.mem_append.mp z).elim (s.zd b hb) fun z => (s.dis b z).2 hb
  deal := s.deal
theorem call_V (s : Sim G F e σ H) (H' : Hp) : cut (F.call (own e σ)).V H' = cut (F.U e σ) H' := cut_congr fun b => by
  show b ∈ (F.Z ++ own e σ) ++ F.dS ↔ b ∈ F.Z ++ (F.dS ++ own e σ)
  simp only [List.mem_append]
  constructor
  · rintro ((h | h) | h)
    · exact Or.inl h
    · exact Or.inr (Or.inr h)
    · exact Or.inr (Or.inl h)
  · rintro (h | (h | h))
    · exact Or.inl (Or.inl h)
    · exact Or.inr h
    · exact Or.inl (Or.inr h)
theorem Sim.called (s : Sim G F e σ H) (f : Fw (F.call (own e σ)) [] H H') (k : FrOk G (F.call (own e σ)) H') : Sim G F e σ H' ∧ Fw F (own e σ) H H' := by
  have f' : Fw F (own e σ) H H' := fun b o h1 h2 h => f b o h1 (by simp) h
  refine ⟨⟨SlRs.step f'.ex (fun b hb => ?_) s.slots, s.nd, s.dis, fun b hb => k.zt b (List.mem_append_left _ hb), s.zd, k.deal, s.slf⟩, f'⟩
  cases q : H b with
  | none => exact absurd q (s.slots.there b hb)
  | some u => exact f b u (s.dis b hb).2 (by simp) q
theorem w_F (o : G.Ok) {n : Nat} {g : List Dt → Tr Dt} {des : List Dt} {dvs : List V} (hd : ∀ (F : Fr) (Hc : Hp), RpA G.K Hc (rens (rho G F) des) dvs) {as : XA} {Q : VK} {E : XK} (q : tE G (xF (fun ds => if ds.length + des.length = n then g (ds ++ des) else .stuck) as) σ H Q) : tCall (spF G n g) dvs E (tA G as) σ H Q := by
  obtain ⟨F, e, s, q⟩ := q
  refine ⟨F, e, s, Tr.All.mono (fun p q vs H1 h1 f1 s1 r1 => ?_) (Tr.all_bind.mp q)⟩
  obtain ⟨ds, hds, q⟩ := Tr.of_all (Tr.all_bind.mp q)
  have q := Tr.all_bind.mp q
  dsimp only at q
  split at q
  case isFalse => exact q.elim
  rename_i hl
  refine ⟨F.call (own p.2 σ), ds ++ des, s1.callee, by rw [List.length_append]; exact hl, ?_, Tr.All.mono (fun d q v H2 f2 k2 r2 => ?_) q⟩
  · rw [call_V s1, rho_dl (F := F) (F' := F.call (own p.2 σ)) rfl, rens_map, List.map_append, ← rens_map, ← rens_map]
    exact (dats_rep r1 hds).append (hd F _)
  · obtain ⟨s2, f3⟩ := s1.called f2 k2
    rw [call_V s1, rho_dl (F := F) (F' := F.call (own p.2 σ)) rfl] at r2
    exact q v H2 h1 (f1.trans (h1 ▸ f3)) s2 r2
def cF (n : Nat) (g : List Dt → Tr Dt) (des : List Dt) : List Dt → Tr Dt := fun ds => if ds.length + des.length = n then g (ds ++ des) else .stuck
theorem m_F (o : G.Ok) {n : Nat} {g : List Dt → Tr Dt} {des : List Dt} {dvs : List V} {as : XA} {x : Expr} {E : XK} (h : PE X x (tCall (spF G n g) dvs E (tA G as))) (hd : ∀ (F : Fr) (Hc : Hp), RpA G.K Hc (rens (rho G F) des) dvs) : PE X x (tE G (xF (cF n g des) as)) := PE.weak h fun σ H Q q => w_F o hd q
theorem own_none : ∀ (k : Nat) (σ : L2.St), own (List.replicate k none) σ = []
  | 0, σ => by cases σ <;> rfl
  | k + 1, [] => rfl
  | k + 1, x :: σ => by
    show ownS none x ++ own (List.replicate k none) σ = []
    rw [own_none k σ]
    rfl
theorem own_start (k : Nat) : ∀ (ds : List Dt) (vs : List V), own ((ds.map Sl.d).map some ++ List.replicate k none) (vs.map some ++ List.replicate k none) = []
  | [], [] => own_none k _
  | [], v :: vs => own_none k _
  | d :: ds, [] => by
    cases k with
    | zero => rfl
    | succ k =>
      show ownS _ none ++ own _ (List.replicate k none) = []
      have : ∀ (e : En) (j : Nat), own e (List.replicate j none) = [] := by
        intro e
        induction e with
        | nil => intro j; rfl
        | cons s e ih =>
          intro j
          cases j with
          | zero => rfl
          | succ j =>
            show ownS s none ++ own e (List.replicate j none) = []
            rw [ih j]
            cases s with
            | none => rfl
            | some s => cases s <;> rfl
      rw [this]
      rfl
  | d :: ds, v :: vs => by
    have h := own_start k ds vs
    show ownS _ _ ++ own ((ds.map Sl.d).map some ++ List.replicate k none) (vs.map some ++ List.replicate k none) = []
    rw [h]
    rfl
theorem slRs_none {K : PySem.W.Frag} {ρ : Addr → Addr} {Hc H : Hp} : ∀ k : Nat, SlRs K ρ Hc H (List.replicate k none) (List.replicate k none)
  | 0 => rfl
  | k + 1 => ⟨none, List.replicate k none, rfl, trivial, slRs_none k⟩
theorem slRs_start {K : PySem.W.Frag} {ρ : Addr → Addr} {Hc H : Hp} {k : Nat} : ∀ {ds : List Dt} {vs : List V}, RpA K Hc (rens ρ ds) vs → SlRs K ρ Hc H ((ds.map Sl.d).map some ++ List.replicate k none) (vs.map some ++ List.replicate k none)
  | [], _, h => by
    rw [show _ = [] from h]
    exact slRs_none k
  | d :: ds, _, ⟨v, r, h1, h2, h3⟩ => by
    subst h1
    exact ⟨some v, _, rfl, ⟨v, rfl, h2⟩, slRs_start h3⟩
theorem no_ob_start {k : Nat} {ds : List Dt} {i : Nat} {c : Addr} {fs : List (Str × Dt)} (h : ((ds.map Sl.d).map some ++ List.replicate k none)[i]? = some (some (.ob c fs))) : False := by
  have hm := List.mem_of_getElem? h
  rcases List.mem_append.mp hm with z | z
  · obtain ⟨s, hs, he⟩ := List.mem_map.mp z
    obtain ⟨d, _, rfl⟩ := List.mem_map.mp hs
    cases he
  · have := (List.mem_replicate.mp z).2
    cases this
theorem res_rep (s : Sim G F e σ H) {v : Vl} {u : V} {d : Dt} (r : VlR G F e σ H v u) (h : resD e v = some d) : Rp G.K (cut F.V H) (ren (rho G F) d) u := by
  have sub : Ex (cut (F.U e σ) H) (cut F.V H) := cut_subL fun b hb => by
    rcases List.mem_append.mp hb with z | z
    · exact List.mem_append_left _ z
    · exact List.mem_append_right _ (List.mem_append_left _ z)
  cases v with
  | d x => cases h; exact Rp.mono sub r
  | r i =>
    unfold resD at h
    dsimp only at h
    have own_mem : ∀ {e : En} {σ : L2.St} {i : Nat} {t : Sl} {a : Addr}, e[i]? = some (some t) → plainS (some t) = false → σ[i]? = some (some (.ref a)) → a ∈ own e σ := by
      intro e
      induction e with
      | nil => intro σ i t a h; simp at h
      | cons s1 e ih1 =>
        intro σ i t a h hp h'
        cases σ with
        | nil => simp at h'
        | cons x1 σ =>
          cases i with
          | zero =>
            have g1 : s1 = some t := by simpa using h
            have g2 : x1 = some (.ref a) := by simpa using h'
            subst g1 g2
            refine List.mem_append_left _ ?_
            cases t with
            | d y => cases hp
            | own y => simp [ownS]
            | ob y z => simp [ownS]
            | dk y => simp [ownS]
          | succ i => exact List.mem_append_right _ (ih1 (by simpa using h) hp (by simpa using h'))
    split at h
    · rename_i ds q
      cases h
      obtain ⟨y, hy, a, xs, e1, e2, e3⟩ := s.slots.get q
      subst e1
      have e4 := (show σ[i]? = some (some u) from r).symm.trans hy
      cases e4
      have ha := own_mem q rfl hy
      have na : a ∉ F.V := fun z => (List.mem_append.mp z).elim (s.dis a ha).1 (s.dis a ha).2
      exact ⟨a, xs, rfl, by rw [cut_out na]; exact e2, e3.mono sub⟩
    · rename_i c fs q
      cases h
      obtain ⟨y, hy, a, dx, gs, e1, e2, e3⟩ := s.slots.get q
      subst e1
      have e4 := (show σ[i]? = some (some u) from r).symm.trans hy
      cases e4
      have ha := own_mem q rfl hy
      have na : a ∉ F.V := fun z => (List.mem_append.mp z).elim (s.dis a ha).1 (s.dis a ha).2
      exact ⟨a, dx, gs, rfl, by rw [cut_out na]; exact e2, RpF.mono sub e3⟩
    · cases h
theorem w_body (o : G.Ok) {N : List Str} {n : Nat} {b : XS} {vs : List V} {Q : VK} {E : XK} (h : spF G n (runF N.length b) vs H Q E) : tS G Wx b { nx := fun _ H' => Q .non H', rt := Q } (L2.start N vs) H := by
  obtain ⟨F, args, k, hl, r, q⟩ := h
  have hlv : vs.length = args.length := by rw [r.length, rens_len]
  let F0 : Fr := ⟨F.Z, F.dl, none, F.hd⟩
  have es : startN N.length (args.map Sl.d) = (args.map Sl.d).map some ++ List.replicate (N.length - args.length) none := by
    unfold startN
    rw [List.length_map]
  have eσ : L2.start N vs = vs.map some ++ List.replicate (N.length - args.length) none := by
    unfold L2.start
    rw [hlv]
  have ow : own (startN N.length (args.map Sl.d)) (L2.start N vs) = [] := by rw [es, eσ]; exact own_start _ _ _
  have eU : F0.U (startN N.length (args.map Sl.d)) (L2.start N vs) = F.V := by
    unfold Fr.U
    rw [ow, List.append_nil]
    rfl
  have s : Sim G F0 (startN N.length (args.map Sl.d)) (L2.start N vs) H := by
    refine ⟨?_, by rw [ow]; exact List.nodup_nil, fun b hb => (by rw [ow] at hb; cases hb), k.zt, k.zd, k.deal, fun i c fs hi => ?_⟩
    · rw [eU, es, eσ]
      exact slRs_start r
    · rw [es] at hi
      exact (no_ob_start hi).elim
  refine ⟨F0, H, _, s, ⟨fun b u _ h => h, fun b hb => (by rw [ow] at hb; cases hb)⟩, Tr.All.mono (fun f q => ?_) (Tr.all_bind.mp q)⟩
  have fin : ∀ {e1 : En} {σ1 : L2.St} {H1 : Hp} {d : Dt} {u : V}, Sim G F0 e1 σ1 H1 → Bs F0 H e1 σ1 H1 → Rp G.K (cut F.V H1) (ren (rho G F) d) u → (∀ v H', Fw F [] H H' → FrOk G F H' → Rp G.K (cut F.V H') (ren (rho G F) d) v → Q v H') → Q u H1 := fun {e1 σ1 H1 d u} s1 b1 r1 q1 =>
    q1 u H1 (fun b w h1 _ h3 => b1.st b w h1 h3) ⟨s1.zt, s1.zd, s1.deal⟩ r1
  cases f with
  | nx e1 => exact fun σ1 H1 s1 b1 => fin (d := .non) s1 b1 rfl q
  | rt v e1 =>
    obtain ⟨d, hd, q⟩ := Tr.of_all q
    exact fun u σ1 H1 s1 b1 r1 => fin s1 b1 (res_rep s1 r1 hd) q
  | bk e1 => exact q.elim
  | ct e1 => exact q.elim
  | xc k n d e1 => exact q.elim
theorem rens_app (ρ : Addr → Addr) (a b : List Dt) : rens ρ (a ++ b) = rens ρ a ++ rens ρ b := by rw [rens_map, rens_map, rens_map, List.map_append]
theorem w_make (o : G.Ok) {n : Nat} {c : Addr} {g : List Dt → Tr Dt} {des : List Dt} {dvs : List V} (hc : c ≠ 1) (hd : ∀ (F : Fr) (Hc : Hp), RpA G.K Hc (rens (rho G F) des) dvs) {as : XA} {Q : VK} {E : XK} (q : tE G (xF (cF n g des) as) σ H Q) : tMake (G.ca c) (spI' G c n g) dvs E (tA G as) σ H Q := by
  obtain ⟨F, e, s, q⟩ := q
  refine ⟨F, e, s, Tr.All.mono (fun p q vs H1 h1 f1 s1 r1 => ?_) (Tr.all_bind.mp q)⟩
  obtain ⟨ds, hds, q⟩ := Tr.of_all (Tr.all_bind.mp q)
  have q := Tr.all_bind.mp q
  unfold cF at q
  split at q
  case isFalse => exact q.elim
  rename_i hl
  intro x dx hx hdx hne
  let H2 : Hp := upd (upd H1 dx (.own x)) x (.ins (G.ca c) dx [])
  have ex1 : Ex H1 (upd H1 dx (.own x)) := Ex.new hdx
  have ex2 : Ex (upd H1 dx (.own x)) H2 := Ex.new (by rw [upd_ne hne.symm]; exact hx)
  have ex : Ex H1 H2 := ex1.trans ex2
  obtain ⟨s2, f2⟩ := s1.ext o ex
  have xU : x ∉ F.U p.2 σ := fun z => s1.tr o x z hx
  have xV : x ∉ (F.call (own p.2 σ)).V := fun z => by
    have : cut (F.call (own p.2 σ)).V H2 x = none := cut_in z
    rw [call_V s2, cut_out xU] at this
    have e2 : H2 x = some (.ins (G.ca c) dx []) := upd_same
    rw [e2] at this
    cases this
  have hr : rho G (F.call (own p.2 σ)) = rho G F := rho_dl (F := F) (F' := F.call (own p.2 σ)) rfl
  have hcc : rho G F c = G.ca c := by unfold rho; rw [if_neg hc]
  refine ⟨F.call (own p.2 σ), ds ++ des, x, dx, vs ++ dvs, rfl, s2.callee, xV, by rw [hr, hcc]; exact upd_same, by rw [List.length_append]; exact hl, ?_, Tr.All.mono (fun d q H3 f3 k3 r3 => ?_) q⟩
  · -- data stand in the heap without x, too
    have e1 : Ex (cut (F.U p.2 σ) H1) (cut ((F.call (own p.2 σ)).V ++ [x]) H2) := fun b u h => by
      obtain ⟨g1, g2⟩ := cut_some h
      have ne : b ≠ x := fun z => by rw [z, hx] at g1; cases g1
      rw [cut_out]
      · exact ex b u g1
      · intro z
        rcases List.mem_append.mp z with z | z
        · have : cut (F.call (own p.2 σ)).V H1 b = none := cut_in z
          rw [call_V s1, cut_out g2, g1] at this
          cases this
        · exact ne (List.mem_singleton.mp z)
    rw [hr, rens_app]
    exact ((dats_rep r1 hds).mono e1).append (hd F _)
  · refine ⟨rfl, ?_⟩
    have f4 : Fw (F.call (own p.2 σ)) [] H1 H3 := fun b u h1 _ h => f3 b u h1 (fun z => by
      have e : b = x := List.mem_singleton.mp z
      rw [e, hx] at h
      cases h) (ex b u h)
    obtain ⟨s3, f5⟩ := s1.called f4 k3
    rw [call_V s3, hr] at r3
    exact q (.ref x) H3 h1 (f1.trans (h1 ▸ f5)) s3 r3
theorem m_make0 (o : G.Ok) {n : Nat} {c : Addr} {g : List Dt → Tr Dt} {des : List Dt} {dvs : List V} {x : Expr} {E : XK} (hc : c ≠ 1) (h : PE X x (tMake (G.ca c) (spI' G c n g) dvs E tNil)) (hd : ∀ (F : Fr) (Hc : Hp), RpA G.K Hc (rens (rho G F) des) dvs) : PE X x (tE G (xF (cF n g des) xNil)) := PE.weak h fun σ H Q q => by
  obtain ⟨F, e, s, q⟩ := w_make (E := E) o hc hd q
  exact q [] H rfl Fw.refl s rfl
theorem w_init (o : G.Ok) {N : List Str} {n : Nat} {c : Addr} {b : XS} {vs : List V} {Q : VK} {E : XK} (h : spI' G c n (makeF c N.length b) vs H Q E) : tS G Wx b { nx := fun _ H' => Q .non H', rt := Q } (L2.start N vs) H := by
  obtain ⟨F, args, x, dx, rest, rfl, k, xV, hx, hl, r, q⟩ := h
  have hlv : rest.length = args.length := by rw [r.length, rens_len]
  let F0 : Fr := ⟨F.Z, F.dl, some x, F.hd⟩
  have es : startN N.length (.ob c [] :: args.map Sl.d) = some (.ob c []) :: ((args.map Sl.d).map some ++ List.replicate (N.length - (args.length + 1)) none) := by
    unfold startN
    rw [List.length_cons, List.length_map]
    rfl
  have eσ : L2.start N (.ref x :: rest) = some (.ref x) :: (rest.map some ++ List.replicate (N.length - (args.length + 1)) none) := by
    unfold L2.start
    rw [List.length_cons, hlv]
    rfl
  have ow : own (startN N.length (.ob c [] :: args.map Sl.d)) (L2.start N (.ref x :: rest)) = [x] := by
    rw [es, eσ]
    show [x] ++ own _ _ = [x]
    rw [own_start]
    rfl
  have eU : F0.U (startN N.length (.ob c [] :: args.map Sl.d)) (L2.start N (.ref x :: rest)) = F.V ++ [x] := by
    unfold Fr.U
    rw [ow]
    show F.Z ++ (F.dS ++ [x]) = (F.Z ++ F.dS) ++ [x]
    rw [List.append_assoc]
  have s : Sim G F0 (startN N.length (.ob c [] :: args.map Sl.d)) (L2.start N (.ref x :: rest)) H := by
    refine ⟨?_, by rw [ow]; simp, fun b hb => ?_, k.zt, k.zd, k.deal, fun i c' fs hi => ?_⟩
    · rw [eU, es, eσ]
      exact ⟨some (.ref x), _, rfl, ⟨x, dx, [], rfl, hx, rfl⟩, slRs_start r⟩
    · rw [ow] at hb
      rw [List.mem_singleton.mp hb]
      exact ⟨fun z => xV (List.mem_append_left _ z), fun z => xV (List.mem_append_right _ z)⟩
    · rw [es] at hi
      rw [eσ]
      cases i with
      | zero => exact .inr ⟨x, rfl, rfl⟩
      | succ i => exact (no_ob_start (by simpa using hi)).elim
  refine ⟨F0, cut [x] H, _, s, ⟨fun b u _ h => (cut_some h).1, fun b hb => ?_⟩, Tr.All.mono (fun f q => ?_) (Tr.all_bind.mp q)⟩
  · rw [ow] at hb
    exact cut_in hb
  cases f with
  | nx e1 =>
    intro σ1 H1 s1 b1
    obtain ⟨d, hf, q⟩ := Tr.of_all q
    unfold obAt at hf
    split at hf
    case h_2 => cases hf
    rename_i c' fs' he
    cases hf
    obtain ⟨y, hy, a, dx', gs, e1', e2, e3⟩ := s1.slots.get he
    obtain ⟨a', ha', hy'⟩ := (s1.slf 0 _ _ he).resolve_left (fun z => nomatch z)
    cases ha'
    subst e1'
    rw [hy'] at hy
    cases hy
    have q' : ∀ H', Fw F [x] H H' → FrOk G F H' → Rp G.K (cut F.V H') (ren (rho G F) (.obj c' fs')) (.ref x) → Q .non H' := q
    refine q' H1 (fun b u h1 h2 h3 => b1.st b u h1 (by rw [cut_out h2]; exact h3)) ⟨s1.zt, s1.zd, s1.deal⟩ ?_
    have sub : Ex (cut (F0.U e1 σ1) H1) (cut F.V H1) := cut_subL fun b hb => by
      rcases List.mem_append.mp hb with z | z
      · exact List.mem_append_left _ z
      · exact List.mem_append_right _ (List.mem_append_left _ z)
    exact ⟨x, dx', gs, rfl, by rw [cut_out xV]; exact e2, RpF.mono sub e3⟩
  | rt v e1 => exact q.elim
  | bk e1 => exact q.elim
  | ct e1 => exact q.elim
  | xc k n d e1 => exact q.elim
end
section
variable {P : Program} {w : World} {mg : Str → Option Value} {base : Heap} {G : Gd} {Wx : WX}
theorem ok_F (o : G.Ok) {x qual : Str} {st : Stmt} {f : Addr} {fd : FuncData} {N ps : List Str} {k n : Nat} {b : XS} (F : FunA G.K x qual st f fd) (S : FnScope N ps (defScope st)) (hn : ps.length = n)
    (h : ∀ (cdv : Value) (A : Around) (outer : List Env) (s : Shared) (H : Hp) (E : XK), Room k (A.deeper (envOfC qual (defScope st) s.heap.objs.size f cdv)) → PSs (cxOf CX0 P w G.K mg base N qual (defScope st) f cdv A outer s H E).nox (defBody st) (tS G noW b)) : FnOk P w G.K mg base CX0 (k + 1) f fd ps (spF G n (runF N.length b)) :=
  F.ok S (fun vs H Q E h => by rw [spF_len h, hn]) fun cdv A outer s H vs Q E hr hsp => ⟨_, h cdv A outer s H E hr, w_body o hsp⟩
theorem ok_I (o : G.Ok) {x qual : Str} {st : Stmt} {f : Addr} {fd : FuncData} {N ps : List Str} {k n : Nat} {c : Addr} {b : XS} (F : FunA G.K x qual st f fd) (S : FnScope N ps (defScope st)) (hn : ps.length = n + 1)
    (h : ∀ (cdv : Value) (A : Around) (outer : List Env) (s : Shared) (H : Hp) (E : XK), Room k (A.deeper (envOfC qual (defScope st) s.heap.objs.size f cdv)) → PSs (cxOf CX0 P w G.K mg base N qual (defScope st) f cdv A outer s H E).nox (defBody st) (tS G noW b)) : FnOk P w G.K mg base CX0 (k + 1) f fd ps (spI' G c n (makeF c N.length b)) :=
  F.ok S (fun vs H Q E h => by rw [spI'_len h, hn]) fun cdv A outer s H vs Q E hr hsp => ⟨_, h cdv A outer s H E hr, w_init o hsp⟩
end
end Mc
namespace Mc
open PySem L2
def asD : Rv → Option Dt
  | .d x => some x
  | .l ds => some (.lst ds)
  | .o _ _ => none
def asDs : List Rv → Option (List Dt)
  | [] => some []
  | r :: rs => (asD r).bind fun d => (asDs rs).bind fun ds => some (d :: ds)
def un (f : List Dt → Option Dt) : List Rv → Option Dt := fun rs => (asDs rs).bind f
def fAdd : List Dt → Option Dt
  | [.int i, .int j] => some (.int (i + j))
  | [.str x, .str y] => if x.length + y.length ≤ 100000 then some (.str (x ++ y)) else none
  | [.lst a, .lst b] => if a.length + b.length ≤ 100000 then some (.lst (a ++ b)) else none
  | [.tup a, .tup b] => if a.length + b.length ≤ 100000 then some (.tup (a ++ b)) else none
  | _ => none
def fSub : List Dt → Option Dt
  | [.int i, .int j] => some (.int (i - j))
  | _ => none
def fMul : List Dt → Option Dt
  | [.int i, .int j] => if i.natAbs.log2 + j.natAbs.log2 < 1000000 then some (.int (i * j)) else none
  | [.lst a, .int k] => if -1000000 ≤ k ∧ k ≤ 1000000 ∧ a.length * k.toNat ≤ 100000 then some (.lst (List.replicate k.toNat a).flatten) else none
  | [.str x, .int k] => if 0 ≤ k ∧ k ≤ 1000 ∧ x.length ≤ 100 then some (.str (Txt.mul x k)) else none
  | _ => none
def fMod : List Dt → Option Dt
  | [.int i, .int j] => if 0 < j then some (.int (i % j)) else none
  | _ => none
def fPow : List Dt → Option Dt
  | [.int i, .int j] => if 0 ≤ j ∧ j ≤ 1000000 ∧ i.natAbs < 2 ^ 64 then some (.int (i ^ j.toNat)) else none
  | _ => none
def eqOk (d : Dt) : Bool := plainD d && SeqAt.shaped (pyD d)
def fEq : List Dt → Option Dt
  | [d, e] => if scalD d e = true then some (.bl (eqS d e)) else if eqOk d = true ∧ eqOk e = true then some (.bl (PyData.eqv (pyD d) (pyD e))) else none
  | _ => none
def fNe : List Dt → Option Dt
  | [d, e] => if scalD d e = true then some (.bl (!eqS d e)) else if eqOk d = true ∧ eqOk e = true then some (.bl (!PyData.eqv (pyD d) (pyD e))) else none
  | _ => none
def fLt : List Dt → Option Dt
  | [.int i, .int j] => some (.bl (decide (i < j)))
  | _ => none
def fLe : List Dt → Option Dt
  | [.int i, .int j] => some (.bl (decide (i ≤ j)))
  | _ => none
def fGt : List Dt → Option Dt
  | [.int i, .int j] => some (.bl (decide (j < i)))
  | _ => none
def fGe : List Dt → Option Dt
  | [.int i, .int j] => some (.bl (decide (j ≤ i)))
  | _ => none
def flatDs : List Dt → Option (List V)
  | [] => some []
  | d :: ds => (flatD d).bind fun v => (flatDs ds).bind fun vs => some (v :: vs)
def inD : Dt → Dt → Option Bool
  | .str x, .str z => match x.cps.toList with
    | [c] => some (decide (c ∈ z.cps.toList))
    | _ => none
  | d, e => (flatD d).bind fun v => (seqD e).bind fun ds => (flatDs ds).bind fun vs => some (inV v vs)
def fIn : List Dt → Option Dt
  | [d, e] => (inD d e).map Dt.bl
  | _ => none
def fIx : List Dt → Option Dt
  | [.lst ds, .int i] => atI ds i
  | [.tup ds, .int i] => atI ds i
  | [.str z, .int i] => if z.length ≤ 100000 then (atI z.cps.toList i).map fun c => .str ⟨#[c]⟩ else none
  | _ => none
def fLen : List Dt → Option Dt
  | [.str z] => if z.length ≤ 100000 then some (.int z.length) else none
  | [d] => (seqD d).map fun ds => .int ds.length
  | _ => none
def fInt : List Dt → Option Dt
  | [.int i] => some (.int i)
  | [.bl b] => some (.int (if b then 1 else 0))
  | [.str a] => if a.length ≤ 640 then (PySem.intText? a).map Dt.int else none
  | _ => none
def fStr : List Dt → Option Dt
  | [.str a] => some (.str a)
  | [.int i] => if i.natAbs.log2 < 1920 then some (.str (toString i)) else none
  | _ => none
def blsOf : List Dt → Option (List Bool)
  | [] => some []
  | .bl b :: ds => (blsOf ds).map (b :: ·)
  | _ => none
def intsOf : List Dt → Option (List Int)
  | [] => some []
  | .int i :: ds => (intsOf ds).map (i :: ·)
  | _ => none
def strsOf : List Dt → Option (List Str)
  | [] => some []
  | .str x :: ds => (strsOf ds).map (x :: ·)
  | _ => none
def fAll : List Dt → Option Dt
  | [.lst ds] => (blsOf ds).map fun bs => .bl (bs.all id)
  | _ => none
def fSum : List Dt → Option Dt
  | [.lst ds] => (intsOf ds).map fun ns => .int ns.sum
  | _ => none
def fList : List Dt → Option Dt
  | [d] => (seqD d).map Dt.lst
  | _ => none
def fTuple : List Dt → Option Dt
  | [d] => (seqD d).map Dt.tup
  | _ => none
def fJoin : List Dt → Option Dt
  | [.str a, d] => ((seqD d).bind strsOf).bind fun ys => if (ys.map (·.length)).sum + ys.length * a.length ≤ 16777216 then some (.str (Txt.join a ys)) else none
  | _ => none
def fSplit : List Dt → Option Dt
  | [.str a, .str b] => if (b.length == 0) = false ∧ a.length ≤ 90000 then some (.lst ((Txt.split a b).map Dt.str)) else none
  | _ => none
def valKs (ks : List Addr) : Dt → Bool
  | .obj k _ => ks.contains k
  | .ty _ => false
  | .ptr _ => false
  | .slf _ _ _ => false
  | _ => true
def fIsi (ks : List Addr) : List Dt → Option Dt
  | [d, .ty n] => if n ∈ ["int", "bool", "str", "list", "tuple"] ∧ valKs ks d = true then some (.bl (instD n d)) else none
  | _ => none
def slD : Dt → Option Int → Option Int → Option Dt
  | .lst ds, lo, hi => some (.lst (cutD ds lo hi))
  | .tup ds, lo, hi => some (.tup (cutD ds lo hi))
  | .str z, lo, hi => if z.length ≤ 100000 then some (.str (cutS z lo hi)) else none
  | _, _, _ => none
abbrev XO := En → Tr (Option Int × En)
def oNone : XO := fun e => .ret (none, e)
def intV : Vl → Option Int
  | .d (.int i) => some i
  | _ => none
def oSome (a : XE) : XO := fun e => (a e).bind fun p => (Tr.of (intV p.1)).bind fun i => .ret (some i, p.2)
def xSl (a : XE) (lo hi : XO) : XE := fun e => (a e).bind fun p => (lo p.2).bind fun l => (hi l.2).bind fun h => (Tr.of (((look h.2 p.1).bind asD).bind fun d => slD d l.1 h.1)).bind fun d => .ret (.d d, h.2)
def bAttr (ks : List Addr) (f : Str) : List Rv → Option Dt
  | [.d (.obj k fs)] => if ks.contains k then fs.lookup f else none
  | [.o k fs] => if ks.contains k then fs.lookup f else none
  | _ => none
def scLoop (g : XG) (a : XE) (e : En) : List Dt → List Str → Tr (List Str)
  | [], acc => .ret acc
  | x :: xs, acc => (Tr.of (g x e)).bind fun e1 => (a e1).bind fun q => (Tr.of (strV q.1)).bind fun y => scLoop g a e xs (acc ++ [y])
def xSortS (it : XI) (g : XG) (a : XE) (vs : List Nat) : XE := fun e => (it e).bind fun p => if p.1.length ≤ 4000 ∧ vs.all (noOwn p.2) = true then (scLoop g a (wipeN p.2 vs) p.1 []).bind fun xs => .ret (.d (.lst ((ascT xs).map Dt.str)), p.2) else .stuck
def iSeqD : List Rv → Option (List Dt)
  | [.d (.lst ds)] => some ds
  | [.d (.tup ds)] => some ds
  | [.d (.str z)] => some (signsD z)
  | _ => none
def iRange1 : List Rv → Option (List Dt)
  | [.d (.int n)] => if -(2 ^ 62) ≤ n ∧ n < 2 ^ 62 then some (rangeD 0 n.toNat) else none
  | _ => none
def iEnum : List Rv → Option (List Dt)
  | [.d (.lst ds)] => some (enumD ds)
  | [.d (.tup ds)] => some (enumD ds)
  | _ => none
def cAppend : List Rv → List Dt → Option (Dt × List Dt)
  | [.d x], ds => if ds.length < 90000 then some (.non, ds ++ [x]) else none
  | _, _ => none
def cExtend : List Rv → List Dt → Option (Dt × List Dt)
  | [.d (.lst es)], ds => if ds.length + es.length ≤ 90000 then some (.non, ds ++ es) else none
  | _, _ => none
def cPop : List Rv → List Dt → Option (Dt × List Dt)
  | [], ds => (ds[ds.length - 1]?).map fun d => (d, ds.dropLast)
  | [.d (.int i)], ds => if 0 ≤ i ∧ i < 2 ^ 62 then (ds[i.toNat]?).map fun d => (d, ds.eraseIdx i.toNat) else none
  | _, _ => none
end Mc
namespace Mc
open PySem PySem.Spec PyProof.Rows L2 Evl
def RpW (N : Mode) (H : Hp) (d : Dt) (v : V) : Prop := N.R H d v ∨ ∃ ds a xs, d = .lst ds ∧ v = .ref a ∧ H a = some (.lst xs) ∧ RpA N.K (cut N.S H) ds xs
def RpWs (N : Mode) (H : Hp) : List Dt → List V → Prop
  | [], vs => vs = []
  | d :: ds, vs => ∃ v r, vs = v :: r ∧ RpW N H d v ∧ RpWs N H ds r
def WOk (G : Gd) (r : List V → Hp → VK → Prop) (f : List Dt → Option Dt) : Prop := ∀ (N : Mode), N.Ok → N.K = G.K → ∀ (F : Fr) (ds : List Dt) (d : Dt) (vs : List V) (H : Hp), f ds = some d → N.J H → RpWs N H (rens (rho G F) ds) vs →
  ∀ Q : VK, (∀ v H', N.Le H H' → N.J H' → N.R H' (ren (rho G F) d) v → Q v H') → r vs H Q
section
variable {G : Gd} {Wx : WX} {N : Mode} {H : Hp} {ρ : Addr → Addr}
theorem as_rep {r : Rv} {d : Dt} {v : V} (h : asD r = some d) (q : RvR N ρ H r v) : RpW N H (ren ρ d) v := by
  cases r with
  | d x => cases h; exact Or.inl q
  | l ds =>
    cases h
    obtain ⟨a, xs, e1, e2, e3⟩ := q
    exact Or.inr ⟨_, a, xs, rfl, e1, e2, e3⟩
  | o k fs => cases h
theorem ass_rep : ∀ {rs : List Rv} {ds : List Dt} {vs : List V}, asDs rs = some ds → RvRs N ρ H rs vs → RpWs N H (rens ρ ds) vs
  | [], ds, vs, h, q => by cases h; exact q
  | r :: rs, ds, vs, h, ⟨v, w, h1, h2, h3⟩ => by
    unfold asDs at h
    obtain ⟨d, g1, g2⟩ := Option.bind_eq_some_iff.mp h
    obtain ⟨es, g3, g4⟩ := Option.bind_eq_some_iff.mp g2
    cases g4
    exact ⟨v, w, h1, as_rep g1 h2, ass_rep g3 h3⟩
theorem bok {r : List V → Hp → VK → Prop} {f : List Dt → Option Dt} (h : WOk G r f) : BOk G r (un f) := fun N ok k F rs d vs H hf j q Q k' => by
  obtain ⟨ds, h1, h2⟩ := Option.bind_eq_some_iff.mp hf
  exact h N ok k F ds d vs H h2 j (ass_rep h1 q) Q k'
theorem WOk.or {r r' : List V → Hp → VK → Prop} {f f' : List Dt → Option Dt} (h : WOk G r f) (h' : WOk G r' f') : WOk G (fun vs H Q => r vs H Q ∨ r' vs H Q) (fun ds => (f ds).or (f' ds)) := fun N ok k F ds d vs H hf j q Q k' => by
  cases e : f ds with
  | some x =>
    have hf' : (f ds).or (f' ds) = some d := hf
    rw [e] at hf'
    cases hf'
    exact Or.inl (h N ok k F ds d vs H e j q Q k')
  | none =>
    have hf' : (f ds).or (f' ds) = some d := hf
    rw [e] at hf'
    exact Or.inr (h' N ok k F ds d vs H hf' j q Q k')
theorem WOk.imp {r r' : List V → Hp → VK → Prop} {f : List Dt → Option Dt} (h : WOk G r f) (w : ∀ vs H Q, r vs H Q → r' vs H Q) : WOk G r' f := fun N ok k F ds d vs H hf j q Q k' => w vs H Q (h N ok k F ds d vs H hf j q Q k')
theorem W_int {i : Int} {v : V} (h : RpW N H (ren ρ (.int i)) v) : v = .int i := by
  rcases h with h | ⟨_, _, _, e, _⟩
  · exact h
  · cases e
theorem W_str {i : Str} {v : V} (h : RpW N H (ren ρ (.str i)) v) : v = .str i := by
  rcases h with h | ⟨_, _, _, e, _⟩
  · exact h
  · cases e
theorem W_bl {i : Bool} {v : V} (h : RpW N H (ren ρ (.bl i)) v) : v = .bl i := by
  rcases h with h | ⟨_, _, _, e, _⟩
  · exact h
  · cases e
theorem W_ty {n : String} {v : V} (h : RpW N H (ren ρ (.ty n)) v) : v = .ty n := by
  rcases h with h | ⟨_, _, _, e, _⟩
  · exact h
  · cases e
theorem W_lst {ds : List Dt} {v : V} (h : RpW N H (ren ρ (.lst ds)) v) : ∃ a xs, v = .ref a ∧ H a = some (.lst xs) ∧ RpA N.K (cut N.S H) (rens ρ ds) xs := by
  rcases h with ⟨a, xs, h1, h2, h3⟩ | ⟨es, a, xs, e, h1, h2, h3⟩
  · exact ⟨a, xs, h1, cut_le _ _ _ _ h2, h3⟩
  · cases e
    exact ⟨a, xs, h1, h2, h3⟩
theorem W_tup {ds : List Dt} {v : V} (h : RpW N H (ren ρ (.tup ds)) v) : ∃ a xs, v = .ref a ∧ SqT N.K H a xs ∧ RpA N.K (cut N.S H) (rens ρ ds) xs := by
  rcases h with ⟨a, xs, h1, h2, h3⟩ | ⟨es, a, xs, e, h1, h2, h3⟩
  · exact ⟨a, xs, h1, ex_t (cut_le _ _) h2.1, h3⟩
  · cases e
theorem W_seq {d : Dt} {ds : List Dt} {v : V} (hd : seqD d = some ds) (h : RpW N H (ren ρ d) v) : ∃ a xs, v = .ref a ∧ (SqL N.K H a xs ∨ SqT N.K H a xs) ∧ RpA N.K (cut N.S H) (rens ρ ds) xs := by
  cases d <;> simp only [seqD, Option.some.injEq, reduceCtorEq] at hd
  · subst hd
    obtain ⟨a, xs, h1, h2, h3⟩ := W_lst h
    exact ⟨a, xs, h1, Or.inl (sq_of h2), h3⟩
  · subst hd
    obtain ⟨a, xs, h1, h2, h3⟩ := W_tup h
    exact ⟨a, xs, h1, Or.inr h2, h3⟩
theorem W_1 {d : Dt} {vs : List V} (h : RpWs N H (rens ρ [d]) vs) : ∃ v, vs = [v] ∧ RpW N H (ren ρ d) v := by
  obtain ⟨v, r, h1, h2, h3⟩ := h
  rw [show r = [] from h3] at h1
  exact ⟨v, h1, h2⟩
theorem W_2 {d e : Dt} {vs : List V} (h : RpWs N H (rens ρ [d, e]) vs) : ∃ v w, vs = [v, w] ∧ RpW N H (ren ρ d) v ∧ RpW N H (ren ρ e) w := by
  obtain ⟨v, r, h1, h2, w, r', h3, h4, h5⟩ := h
  rw [show r' = [] from h5] at h3
  rw [h3] at h1
  exact ⟨v, w, h1, h2, h4⟩
abbrev R2L (r : R2) : List V → Hp → VK → Prop := fun vs H Q => ∃ u w, vs = [u, w] ∧ r u w H Q
abbrev R1L (r : V → Hp → VK → Prop) : List V → Hp → VK → Prop := fun vs H Q => ∃ u, vs = [u] ∧ r u H Q
theorem wok_II {g : Int → Int → Dt} {gv : Int → Int → V} {C : Int → Int → Prop} {f : List Dt → Option Dt} (h : ∀ ds d, f ds = some d → ∃ i j, ds = [.int i, .int j] ∧ C i j ∧ d = g i j) (hg : ∀ i j ρ K Hc, Rp K Hc (ren ρ (g i j)) (gv i j)) : WOk G (R2L (rI C gv)) f := fun N ok k F ds d vs H hf j q Q k' => by
  obtain ⟨a, b, rfl, hC, rfl⟩ := h ds d hf
  obtain ⟨v, w, rfl, h1, h2⟩ := W_2 q
  rw [W_int h1, W_int h2]
  exact ⟨_, _, rfl, a, b, rfl, rfl, hC, k' _ _ Mode.Le.refl j (hg a b _ _ _)⟩
theorem wok_II0 {g : Int → Int → Dt} {gv : Int → Int → V} {f : List Dt → Option Dt} (h : ∀ ds d, f ds = some d → ∃ i j, ds = [.int i, .int j] ∧ d = g i j) (hg : ∀ i j ρ K Hc, Rp K Hc (ren ρ (g i j)) (gv i j)) : WOk G (R2L (rI0 gv)) f := fun N ok k F ds d vs H hf j q Q k' => by
  obtain ⟨a, b, rfl, rfl⟩ := h ds d hf
  obtain ⟨v, w, rfl, h1, h2⟩ := W_2 q
  rw [W_int h1, W_int h2]
  exact ⟨_, _, rfl, a, b, rfl, rfl, k' _ _ Mode.Le.refl j (hg a b _ _ _)⟩
def rAddU (K : PySem.W.Frag) : R2 := fun x y H Q => rI0 (fun i j => .int (i + j)) x y H Q ∨ (∃ i j, x = .str i ∧ y = .str j ∧ i.length + j.length ≤ sizeLine ∧ Q (.str (i ++ j)) H) ∨ rCat x y H Q ∨ rCatN K x y H Q
theorem rens_append (ρ : Addr → Addr) (a b : List Dt) : rens ρ (a ++ b) = rens ρ a ++ rens ρ b := rens_app ρ a b
theorem wok_add : WOk G (R2L (rAddU G.K)) fAdd := fun N ok k F ds d vs H hf j q Q k' => by
  unfold fAdd at hf
  split at hf
  · cases hf
    obtain ⟨v, w, rfl, h1, h2⟩ := W_2 q
    rw [W_int h1, W_int h2]
    exact ⟨_, _, rfl, Or.inl ⟨_, _, rfl, rfl, k' _ _ Mode.Le.refl j rfl⟩⟩
  · split at hf
    · rename_i hl
      cases hf
      obtain ⟨v, w, rfl, h1, h2⟩ := W_2 q
      rw [W_str h1, W_str h2]
      exact ⟨_, _, rfl, Or.inr (Or.inl ⟨_, _, rfl, rfl, sz_of hl, k' _ _ Mode.Le.refl j rfl⟩)⟩
    · cases hf
  · split at hf
    · rename_i hl
      cases hf
      obtain ⟨v, w, rfl, h1, h2⟩ := W_2 q
      obtain ⟨a, xs, rfl, ha, ra⟩ := W_lst h1
      obtain ⟨b, ys, rfl, hb, rb⟩ := W_lst h2
      refine ⟨_, _, rfl, Or.inr (Or.inr (Or.inl ⟨a, b, xs, ys, rfl, rfl, ha, hb, sz_of (by rw [ra.length, rb.length, rens_len, rens_len]; exact hl), fun p hp => ?_⟩))⟩
      obtain ⟨x2, j2, r2⟩ := ok.newL j hp (ra.append rb)
      refine k' _ _ (N.le x2) j2 ?_
      show Rp N.K _ (.lst (rens _ (_ ++ _))) _
      rw [rens_append]
      exact r2
    · cases hf
  · split at hf
    · rename_i hl
      cases hf
      obtain ⟨v, w, rfl, h1, h2⟩ := W_2 q
      rcases h1 with h1 | ⟨_, _, _, e, _⟩
      case inr => cases e
      rcases h2 with h2 | ⟨_, _, _, e, _⟩
      case inr => cases e
      have r := rd_catA (M := N) (ds := rens (rho G F) _) (es := rens (rho G F) _) (by rw [rens_len, rens_len]; exact hl) N ok.sub _ _ H j h1 h2 Q fun f v H' hf l j' r => k' v H' l j' (by subst hf; show Rp N.K _ (.tup (rens _ (_ ++ _))) _; rw [rens_append]; exact r)
      rw [k] at r
      exact ⟨_, _, rfl, Or.inr (Or.inr (Or.inr r))⟩
    · cases hf
  · cases hf
theorem wok_sub : WOk G (R2L (rI0 fun i j => .int (i - j))) fSub := wok_II0 (g := fun i j => .int (i - j)) (fun ds d h => by
  unfold fSub at h; split at h
  · cases h; exact ⟨_, _, rfl, rfl⟩
  · cases h) fun _ _ _ _ _ => rfl
def rRepS : R2 := fun x y H Q => ∃ a n, x = V.str a ∧ y = V.int n ∧ (0 ≤ n ∧ n ≤ 1000 ∧ a.length ≤ 100) ∧ Q (.str (Txt.mul a n)) H
theorem op_repS {X : Cx} : OpR X (binaryOp .Mult) rRepS := by
  intro pins s σ H x y v u Q I rx ry h
  obtain ⟨a, n, rfl, rfl, hc, q⟩ := h
  obtain ⟨t, rfl⟩ := rx
  obtain ⟨t', rfl⟩ := ry
  refine SB.mul ⟨?_, fun h1 _ => ?_, fun h1 _ => ?_⟩ fun t2 k => ⟨.str (Txt.mul a n), H, I.tok _, ⟨_, rfl⟩, q⟩
  · simp
    omega
  · have h2 : (100 : Int) * n ≤ 2 ^ 63 - 1 := by omega
    have h3 : (100 : Int) ≤ (2 ^ 63 - 1) / n := (Int.le_ediv_iff_mul_le (by omega)).mpr h2
    omega
  · have h4 : a.length * n.toNat ≤ 100 * 1000 := Nat.mul_le_mul hc.2.2 (by omega)
    unfold Builtin.Str.tooLong
    simp [sizeLine_eq]
    omega
def rMulU : R2 := fun x y H Q => rI CMulW (fun i j => .int (i * j)) x y H Q ∨ rRep x y H Q ∨ rRepS x y H Q
theorem RpA.rep {K : PySem.W.Frag} {H : Hp} {ds : List Dt} {xs : List V} (h : RpA K H ds xs) : ∀ n : Nat, RpA K H (List.replicate n ds).flatten (List.replicate n xs).flatten
  | 0 => rfl
  | n + 1 => by
    rw [List.replicate_succ, List.replicate_succ, List.flatten_cons, List.flatten_cons]
    exact h.append (RpA.rep h n)
theorem rens_rep (ρ : Addr → Addr) (a : List Dt) : ∀ n : Nat, rens ρ (List.replicate n a).flatten = (List.replicate n (rens ρ a)).flatten
  | 0 => rfl
  | n + 1 => by rw [List.replicate_succ, List.replicate_succ, List.flatten_cons, List.flatten_cons, rens_append, rens_rep ρ a n]
theorem wok_mul : WOk G (R2L rMulU) fMul := fun N ok k F ds d vs H hf j q Q k' => by
  unfold fMul at hf
  split at hf
  · split at hf
    · rename_i hl
      cases hf
      obtain ⟨v, w, rfl, h1, h2⟩ := W_2 q
      rw [W_int h1, W_int h2]
      exact ⟨_, _, rfl, Or.inl ⟨_, _, rfl, rfl, hl, k' _ _ Mode.Le.refl j rfl⟩⟩
    · cases hf
  · split at hf
    · rename_i a n hl
      cases hf
      obtain ⟨v, w, rfl, h1, h2⟩ := W_2 q
      obtain ⟨l, xs, rfl, ha, ra⟩ := W_lst h1
      rw [W_int h2]
      refine ⟨_, _, rfl, Or.inr (Or.inl ⟨l, n, xs, rfl, rfl, ha, by omega, by omega, ?_, fun p hp => ?_⟩)⟩
      · rw [ra.length, rens_len]
        exact sz_of hl.2.2
      · obtain ⟨x2, j2, r2⟩ := ok.newL j hp (ra.rep n.toNat)
        refine k' _ _ (N.le x2) j2 ?_
        show Rp N.K _ (.lst (rens _ (List.replicate _ _).flatten)) _
        rw [rens_rep]
        exact r2
    · cases hf
  · split at hf
    · rename_i hl
      cases hf
      obtain ⟨v, w, rfl, h1, h2⟩ := W_2 q
      rw [W_str h1, W_int h2]
      exact ⟨_, _, rfl, Or.inr (Or.inr ⟨_, _, rfl, rfl, hl, k' _ _ Mode.Le.refl j rfl⟩)⟩
    · cases hf
  · cases hf
theorem wok_mod : WOk G (R2L (rI (fun _ j => 0 < j) fun i j => .int (i % j))) fMod := wok_II (g := fun i j => .int (i % j)) (fun ds d h => by
  unfold fMod at h; split at h
  · split at h
    · rename_i hc; cases h; exact ⟨_, _, rfl, hc, rfl⟩
    · cases h
  · cases h) fun _ _ _ _ _ => rfl
theorem wok_pow : WOk G (R2L (rI CPow fun i j => .int (i ^ j.toNat))) fPow := wok_II (g := fun i j => .int (i ^ j.toNat)) (fun ds d h => by
  unfold fPow at h; split at h
  · split at h
    · rename_i hc; cases h; exact ⟨_, _, rfl, hc, rfl⟩
    · cases h
  · cases h) fun _ _ _ _ _ => rfl
theorem wok_le : WOk G (R2L (rI0 fun i j => .bl (decide (i ≤ j)))) fLe := wok_II0 (g := fun i j => .bl (decide (i ≤ j))) (fun ds d h => by
  unfold fLe at h; split at h
  · cases h; exact ⟨_, _, rfl, rfl⟩
  · cases h) fun _ _ _ _ _ => rfl
theorem wok_gt : WOk G (R2L (rI0 fun i j => .bl (decide (j < i)))) fGt := wok_II0 (g := fun i j => .bl (decide (j < i))) (fun ds d h => by
  unfold fGt at h; split at h
  · cases h; exact ⟨_, _, rfl, rfl⟩
  · cases h) fun _ _ _ _ _ => rfl
theorem wok_ge : WOk G (R2L (rI0 fun i j => .bl (decide (j ≤ i)))) fGe := wok_II0 (g := fun i j => .bl (decide (j ≤ i))) (fun ds d h => by
  unfold fGe at h; split at h
  · cases h; exact ⟨_, _, rfl, rfl⟩
  · cases h) fun _ _ _ _ _ => rfl
mutual
theorem plain_ren (ρ : Addr → Addr) : ∀ d : Dt, plainD d = true → ren ρ d = d
  | .non, _ => rfl
  | .bl _, _ => rfl
  | .int _, _ => rfl
  | .str _, _ => rfl
  | .lst ds, h => by show Dt.lst (rens ρ ds) = _; rw [plains_ren ρ ds h]
  | .tup ds, h => by show Dt.tup (rens ρ ds) = _; rw [plains_ren ρ ds h]
  | .ty _, h => nomatch h
  | .ptr _, h => nomatch h
  | .obj _ _, h => nomatch h
  | .dct _, h => nomatch h
  | .dcT _, h => nomatch h
  | .slf _ _ _, h => nomatch h
theorem plains_ren (ρ : Addr → Addr) : ∀ ds : List Dt, plainDs ds = true → rens ρ ds = ds
  | [], _ => rfl
  | d :: ds, h => by
    have h' : plainD d = true ∧ plainDs ds = true := by simpa [plainDs] using h
    show ren ρ d :: rens ρ ds = _
    rw [plain_ren ρ d h'.1, plains_ren ρ ds h'.2]
end
theorem W_dp {d : Dt} {v : V} (p : plainD d = true) (h : RpW N H (ren ρ d) v) : Dp N.K H v (pyD d) := by
  rw [plain_ren ρ d p] at h
  rcases h with h | ⟨ds, a, xs, rfl, rfl, h2, h3⟩
  · exact dp_of (cut_le _ _) p h
  · exact .lst (sq_of h2) (dp_all (cut_le _ _) p h3)
theorem W_scal {d e : Dt} {v w : V} (hs : scalD d e = true) (h1 : RpW N H (ren ρ d) v) (h2 : RpW N H (ren ρ e) w) : scal v w = true ∧ decide (v = w) = eqS d e := by
  have e1 : ren ρ d = d := by cases d <;> first | rfl | (cases e <;> exact absurd hs Bool.false_ne_true)
  have e2 : ren ρ e = e := by cases e <;> first | rfl | (cases d <;> exact absurd hs Bool.false_ne_true)
  rw [e1] at h1
  rw [e2] at h2
  rcases h1 with h1 | ⟨_, _, _, rfl, _⟩
  · rcases h2 with h2 | ⟨_, _, _, rfl, _⟩
    · exact scal_of hs h1 h2
    · cases d <;> exact absurd hs Bool.false_ne_true
  · cases e <;> exact absurd hs Bool.false_ne_true
def rEqU (K : PySem.W.Frag) : R2 := fun x y H Q => rEq x y H Q ∨ rEqD K x y H Q
def rNeU (K : PySem.W.Frag) : R2 := fun x y H Q => rNe x y H Q ∨ rNeD K x y H Q
theorem wok_eq : WOk G (R2L (rEqU G.K)) fEq := fun N ok k F ds d vs H hf j q Q k' => by
  unfold fEq at hf; split at hf
  · obtain ⟨v, w, rfl, h1, h2⟩ := W_2 q
    split at hf
    · rename_i hs
      cases hf
      obtain ⟨s1, s2⟩ := W_scal hs h1 h2
      refine ⟨_, _, rfl, Or.inl ⟨s1, ?_⟩⟩
      rw [s2]
      exact k' _ _ Mode.Le.refl j rfl
    · split at hf
      · rename_i hp
        cases hf
        have p1 := (Bool.and_eq_true _ _).mp hp.1
        have p2 := (Bool.and_eq_true _ _).mp hp.2
        refine ⟨_, _, rfl, Or.inr ⟨_, _, ?_, ?_, p1.2, p2.2, k' _ _ Mode.Le.refl j rfl⟩⟩
        · rw [← k]; exact W_dp p1.1 h1
        · rw [← k]; exact W_dp p2.1 h2
      · cases hf
  · cases hf
theorem wok_ne : WOk G (R2L (rNeU G.K)) fNe := fun N ok k F ds d vs H hf j q Q k' => by
  unfold fNe at hf; split at hf
  · obtain ⟨v, w, rfl, h1, h2⟩ := W_2 q
    split at hf
    · rename_i hs
      cases hf
      obtain ⟨s1, s2⟩ := W_scal hs h1 h2
      refine ⟨_, _, rfl, Or.inl ⟨s1, ?_⟩⟩
      rw [s2]
      exact k' _ _ Mode.Le.refl j rfl
    · split at hf
      · rename_i hp
        cases hf
        have p1 := (Bool.and_eq_true _ _).mp hp.1
        have p2 := (Bool.and_eq_true _ _).mp hp.2
        refine ⟨_, _, rfl, Or.inr ⟨_, _, ?_, ?_, p1.2, p2.2, k' _ _ Mode.Le.refl j rfl⟩⟩
        · rw [← k]; exact W_dp p1.1 h1
        · rw [← k]; exact W_dp p2.1 h2
      · cases hf
  · cases hf
end
end Mc
namespace Mc
open PySem PySem.Spec PyProof.Rows L2 Evl
section
variable {G : Gd} {Wx : WX} {N : Mode} {H : Hp} {ρ : Addr → Addr}
theorem flat_ren {d : Dt} {v : V} (h : flatD d = some v) : ren ρ d = d := by
  cases d <;> first | rfl | cases h
theorem W_flat {d : Dt} {v w : V} (h : flatD d = some w) (r : RpW N H (ren ρ d) v) : v = w ∧ flatV v = true := by
  rw [flat_ren h] at r
  rcases r with r | ⟨_, _, _, rfl, _⟩
  · exact flat_v h r
  · cases h
theorem flats_rep {K : PySem.W.Frag} {Hc : Hp} : ∀ {ds : List Dt} {vs ws : List V}, flatDs ds = some ws → RpA K Hc (rens ρ ds) vs → vs = ws ∧ vs.all flatV = true
  | [], vs, ws, h, r => by
    cases h
    rw [show vs = [] from r]
    exact ⟨rfl, rfl⟩
  | d :: ds, vs, ws, h, ⟨v, t, h1, h2, h3⟩ => by
    unfold flatDs at h
    obtain ⟨w, g1, g2⟩ := Option.bind_eq_some_iff.mp h
    obtain ⟨ws', g3, g4⟩ := Option.bind_eq_some_iff.mp g2
    cases g4
    rw [flat_ren g1] at h2
    obtain ⟨e1, e2⟩ := flats_rep g3 h3
    have h2' : (⟨K, [], fun _ => True⟩ : Mode).R Hc d v := Rp.mono (fun b o q => by rw [cut_out (by simp)]; exact q) h2
    obtain ⟨e3, e4⟩ := flat_v g1 h2'
    subst h1 e1 e3
    exact ⟨rfl, by rw [List.all_cons, e4, e2]; rfl⟩
def rInU (K : PySem.W.Frag) (neg : Bool) : R2 := fun x y H Q => (∃ (c : Nat) (z : Str), x = .str ⟨#[c]⟩ ∧ y = .str z ∧ Q (.bl (if neg then !decide (c ∈ z.cps.toList) else decide (c ∈ z.cps.toList))) H) ∨ rIn K neg x y H Q
theorem in_core {neg : Bool} {d e : Dt} {b : Bool} {v w : V} (hk : N.K = G.K) (h : inD d e = some b) (h1 : RpW N H (ren ρ d) v) (h2 : RpW N H (ren ρ e) w) {Q : VK} (q : Q (.bl (if neg then !b else b)) H) : rInU G.K neg v w H Q := by
  unfold inD at h
  split at h
  · rename_i x z
    split at h
    · rename_i c hc
      cases h
      have ex : x = ⟨#[c]⟩ := by
        obtain ⟨arr⟩ := x
        obtain ⟨l⟩ := arr
        have hl : l = [c] := hc
        rw [hl]
      refine Or.inl ⟨c, z, ?_, W_str h2, q⟩
      rw [W_str h1, ex]
    · cases h
  · obtain ⟨u, g1, g2⟩ := Option.bind_eq_some_iff.mp h
    obtain ⟨ds, g3, g4⟩ := Option.bind_eq_some_iff.mp g2
    obtain ⟨us, g5, g6⟩ := Option.bind_eq_some_iff.mp g4
    cases g6
    obtain ⟨e1, e2⟩ := W_flat g1 h1
    obtain ⟨a, xs, rfl, hs, hr⟩ := W_seq g3 h2
    obtain ⟨e3, e4⟩ := flats_rep g5 hr
    subst e1 e3
    refine Or.inr ⟨a, xs, rfl, ?_, e2, e4, q⟩
    rw [← hk]
    exact hs
theorem wok_in : WOk G (R2L (rInU G.K false)) fIn := fun N ok k F ds d vs H hf j q Q k' => by
  unfold fIn at hf
  split at hf
  · obtain ⟨b, hb, e⟩ := Option.map_eq_some_iff.mp hf
    cases e
    obtain ⟨v, w, rfl, h1, h2⟩ := W_2 q
    exact ⟨_, _, rfl, in_core k hb h1 h2 (k' _ _ Mode.Le.refl j rfl)⟩
  · cases hf
theorem atI_rens {ds : List Dt} {i : Int} {d : Dt} (h : atI ds i = some d) : atI (rens ρ ds) i = some (ren ρ d) := by
  unfold atI at h ⊢
  rw [rens_len]
  obtain ⟨j, h1, h2⟩ := Option.bind_eq_some_iff.mp h
  rw [h1]
  exact rens_get h2
def rIxU (K : PySem.W.Frag) : R2 := fun x y H Q => rIxL K x y H Q ∨ rIxT K x y H Q ∨ rIxS x y H Q
theorem wok_ix : WOk G (R2L (rIxU G.K)) fIx := fun N ok k F ds d vs H hf j q Q k' => by
  unfold fIx at hf
  split at hf
  · obtain ⟨v, w, rfl, h1, h2⟩ := W_2 q
    obtain ⟨a, xs, rfl, ha, ra⟩ := W_lst h1
    rw [W_int h2]
    obtain ⟨u, hu, ru⟩ := at_rp ra (atI_rens hf)
    exact ⟨_, _, rfl, Or.inl ⟨a, xs, _, u, rfl, rfl, sq_of ha, hu, k' _ _ Mode.Le.refl j ru⟩⟩
  · obtain ⟨v, w, rfl, h1, h2⟩ := W_2 q
    obtain ⟨a, xs, rfl, ha, ra⟩ := W_tup h1
    rw [W_int h2]
    obtain ⟨u, hu, ru⟩ := at_rp ra (atI_rens hf)
    refine ⟨_, _, rfl, Or.inr (Or.inl ⟨a, xs, _, u, rfl, rfl, ?_, hu, k' _ _ Mode.Le.refl j ru⟩)⟩
    rw [← k]
    exact ha
  · split at hf
    · rename_i hz
      obtain ⟨c, hc, e⟩ := Option.map_eq_some_iff.mp hf
      cases e
      obtain ⟨v, w, rfl, h1, h2⟩ := W_2 q
      rw [W_str h1, W_int h2]
      exact ⟨_, _, rfl, Or.inr (Or.inr ⟨_, _, c, rfl, rfl, sz_of hz, hc, k' _ _ Mode.Le.refl j rfl⟩)⟩
    · cases hf
  · cases hf
def rLenU (K : PySem.W.Frag) : List V → Hp → VK → Prop := fun xs H Q => (∃ z, xs = [.str z] ∧ z.length ≤ sizeLine ∧ Q (.int z.length) H) ∨ ∃ p ys, xs = [.ref p] ∧ (SqL K H p ys ∨ SqT K H p ys) ∧ Q (.int ys.length) H
theorem wok_len : WOk G (rLenU G.K) fLen := fun N ok k F ds d vs H hf j q Q k' => by
  unfold fLen at hf
  split at hf
  · split at hf
    · rename_i hz
      cases hf
      obtain ⟨v, rfl, h1⟩ := W_1 q
      rw [W_str h1]
      exact Or.inl ⟨_, rfl, sz_of hz, k' _ _ Mode.Le.refl j rfl⟩
    · cases hf
  · obtain ⟨es, he, e⟩ := Option.map_eq_some_iff.mp hf
    cases e
    obtain ⟨v, rfl, h1⟩ := W_1 q
    obtain ⟨a, xs, rfl, hs, hr⟩ := W_seq he h1
    refine Or.inr ⟨a, xs, rfl, by rw [← k]; exact hs, ?_⟩
    rw [hr.length, rens_len]
    exact k' _ _ Mode.Le.refl j rfl
  · cases hf
def rIntU : List V → Hp → VK → Prop := fun xs H Q => ((∃ i, xs = [.int i] ∧ Q (.int i) H) ∨ ∃ k, xs = [.bl k] ∧ Q (.int (if k then 1 else 0)) H) ∨ ∃ a n, xs = [.str a] ∧ PySem.intText? a = some n ∧ a.length ≤ 640 ∧ Q (.int n) H
theorem wok_int : WOk G rIntU fInt := fun N ok k F ds d vs H hf j q Q k' => by
  unfold fInt at hf
  split at hf
  · cases hf
    obtain ⟨v, rfl, h1⟩ := W_1 q
    rw [W_int h1]
    exact Or.inl (Or.inl ⟨_, rfl, k' _ _ Mode.Le.refl j rfl⟩)
  · cases hf
    obtain ⟨v, rfl, h1⟩ := W_1 q
    rw [W_bl h1]
    exact Or.inl (Or.inr ⟨_, rfl, k' _ _ Mode.Le.refl j rfl⟩)
  · split at hf
    · rename_i hl
      obtain ⟨n, hn, e⟩ := Option.map_eq_some_iff.mp hf
      cases e
      obtain ⟨v, rfl, h1⟩ := W_1 q
      rw [W_str h1]
      exact Or.inr ⟨_, n, rfl, hn, hl, k' _ _ Mode.Le.refl j rfl⟩
    · cases hf
  · cases hf
def rStrU : List V → Hp → VK → Prop := fun xs H Q => (∃ a, xs = [.str a] ∧ Q (.str a) H) ∨ ∃ i, xs = [.int i] ∧ i.natAbs.log2 < 1920 ∧ Q (.str (toString i)) H
theorem wok_str : WOk G rStrU fStr := fun N ok k F ds d vs H hf j q Q k' => by
  unfold fStr at hf
  split at hf
  · cases hf
    obtain ⟨v, rfl, h1⟩ := W_1 q
    rw [W_str h1]
    exact Or.inl ⟨_, rfl, k' _ _ Mode.Le.refl j rfl⟩
  · split at hf
    · rename_i hl
      cases hf
      obtain ⟨v, rfl, h1⟩ := W_1 q
      rw [W_int h1]
      exact Or.inr ⟨_, rfl, hl, k' _ _ Mode.Le.refl j rfl⟩
    · cases hf
  · cases hf
theorem bls_rep {K : PySem.W.Frag} {Hc : Hp} : ∀ {ds : List Dt} {bs : List Bool} {vs : List V}, blsOf ds = some bs → RpA K Hc (rens ρ ds) vs → vs = bs.map V.bl
  | [], bs, vs, h, r => by cases h; exact r
  | d :: ds, bs, vs, h, ⟨v, t, h1, h2, h3⟩ => by
    cases d <;> first | cases h | skip
    obtain ⟨cs, g1, g2⟩ := Option.map_eq_some_iff.mp h
    cases g2
    rw [h1, bls_rep g1 h3, show v = _ from h2]
    rfl
theorem ints_rep {K : PySem.W.Frag} {Hc : Hp} : ∀ {ds : List Dt} {bs : List Int} {vs : List V}, intsOf ds = some bs → RpA K Hc (rens ρ ds) vs → vs = bs.map V.int
  | [], bs, vs, h, r => by cases h; exact r
  | d :: ds, bs, vs, h, ⟨v, t, h1, h2, h3⟩ => by
    cases d <;> first | cases h | skip
    obtain ⟨cs, g1, g2⟩ := Option.map_eq_some_iff.mp h
    cases g2
    rw [h1, ints_rep g1 h3, show v = _ from h2]
    rfl
theorem strs_rep {K : PySem.W.Frag} {Hc : Hp} : ∀ {ds : List Dt} {bs : List Str} {vs : List V}, strsOf ds = some bs → RpA K Hc (rens ρ ds) vs → vs = bs.map V.str
  | [], bs, vs, h, r => by cases h; exact r
  | d :: ds, bs, vs, h, ⟨v, t, h1, h2, h3⟩ => by
    cases d <;> first | cases h | skip
    obtain ⟨cs, g1, g2⟩ := Option.map_eq_some_iff.mp h
    cases g2
    rw [h1, strs_rep g1 h3, show v = _ from h2]
    rfl
theorem wok_all : WOk G (rAll G.K) fAll := fun N ok k F ds d vs H hf j q Q k' => by
  unfold fAll at hf
  split at hf
  · obtain ⟨bs, hb, e⟩ := Option.map_eq_some_iff.mp hf
    cases e
    obtain ⟨v, rfl, h1⟩ := W_1 q
    obtain ⟨a, xs, rfl, ha, ra⟩ := W_lst h1
    have := bls_rep hb ra
    subst this
    exact ⟨a, bs, rfl, sq_of ha, k' _ _ Mode.Le.refl j rfl⟩
  · cases hf
theorem wok_sum : WOk G (rSum G.K) fSum := fun N ok k F ds d vs H hf j q Q k' => by
  unfold fSum at hf
  split at hf
  · obtain ⟨bs, hb, e⟩ := Option.map_eq_some_iff.mp hf
    cases e
    obtain ⟨v, rfl, h1⟩ := W_1 q
    obtain ⟨a, xs, rfl, ha, ra⟩ := W_lst h1
    have := ints_rep hb ra
    subst this
    exact ⟨a, bs, rfl, sq_of ha, k' _ _ Mode.Le.refl j rfl⟩
  · cases hf
theorem wok_tuple : WOk G (rTupN G.K) fTuple := fun N ok k F ds d vs H hf j q Q k' => by
  unfold fTuple at hf
  split at hf
  · rename_i c
    obtain ⟨es, hb, e⟩ := Option.map_eq_some_iff.mp hf
    cases e
    obtain ⟨v, rfl, h1⟩ := W_1 q
    cases c <;> simp only [seqD, Option.some.injEq, reduceCtorEq] at hb
    · subst hb
      obtain ⟨a, xs, rfl, ha, ra⟩ := W_lst h1
      refine ⟨a, xs, rfl, Or.inl ⟨sq_of ha, fun p b hp hb => ?_⟩⟩
      obtain ⟨x2, j2, r2⟩ := ok.newT j hp hb ra
      exact k' _ _ (N.le x2) j2 r2
    · subst hb
      rcases h1 with h1 | ⟨_, _, _, e, _⟩
      case inr => cases e
      obtain ⟨a, xs, rfl, ha, ra⟩ := id h1
      exact ⟨a, xs, rfl, Or.inr ⟨by rw [← k]; exact ex_t (cut_le _ _) ha.1, k' _ _ Mode.Le.refl j h1⟩⟩
  · cases hf
theorem wok_join : WOk G (R2L fun x y H Q => (∃ a, x = .str a) ∧ ∃ a p, ∃ ys : List Str, x = .str a ∧ [y] = [.ref p] ∧ (SqL G.K H p (ys.map V.str) ∨ SqT G.K H p (ys.map V.str)) ∧ (ys.map (·.length)).sum + ys.length * a.length ≤ 16777216 ∧ Q (.str (Txt.join a ys)) H) fJoin := fun N ok k F ds d vs H hf j q Q k' => by
  unfold fJoin at hf
  split at hf
  · obtain ⟨ys, hy, hf⟩ := Option.bind_eq_some_iff.mp hf
    obtain ⟨es, he, hy⟩ := Option.bind_eq_some_iff.mp hy
    split at hf
    · rename_i hl
      cases hf
      obtain ⟨v, w, rfl, h1, h2⟩ := W_2 q
      obtain ⟨a, xs, rfl, ha, ra⟩ := W_seq he h2
      have := strs_rep hy ra
      subst this
      rw [W_str h1]
      exact ⟨_, _, rfl, ⟨_, rfl⟩, _, a, ys, rfl, rfl, by rw [← k]; exact ha, hl, k' _ _ Mode.Le.refl j rfl⟩
    · cases hf
  · cases hf
theorem rens_strs (ρ : Addr → Addr) (xs : List Str) : rens ρ (xs.map Dt.str) = xs.map Dt.str := by
  rw [rens_map, List.map_map]
  rfl
theorem wok_split : WOk G (R2L fun x y H Q => (∃ a, x = .str a) ∧ ∃ a b, x = .str a ∧ [y] = [.str b] ∧ (b.length == 0) = false ∧ a.length + 2 ≤ sizeLine ∧ rNewStrs (Txt.split a b) H Q) fSplit := fun N ok k F ds d vs H hf j q Q k' => by
  unfold fSplit at hf
  split at hf
  · split at hf
    · rename_i a b hc
      cases hf
      obtain ⟨v, w, rfl, h1, h2⟩ := W_2 q
      rw [W_str h1, W_str h2]
      refine ⟨_, _, rfl, ⟨_, rfl⟩, a, b, rfl, rfl, hc.1, sz_of (by omega), ?_⟩
      intro p hp
      obtain ⟨x2, j2, r2⟩ := ok.newL (ds := (Txt.split a b).map Dt.str) j hp (rpA_strs.mpr rfl)
      refine k' _ _ (N.le x2) j2 ?_
      show Rp N.K _ (.lst (rens _ _)) _
      rw [rens_strs]
      exact r2
    · cases hf
  · cases hf
end
end Mc
namespace Mc
open PySem PySem.Spec PyProof.Rows L2 Evl
section
variable {G : Gd} {Wx : WX} {F : Fr} {e e' : En} {σ σ' : L2.St} {H H' B : Hp} {X : Cx} {N : Mode} {ρ : Addr → Addr}
structure KCls (G : Gd) (k : Addr) : Prop where
  ne : k ≠ 1
  kl : Kl G.K (G.ca k)
  nb : noBi G.K (G.ca k)
theorem W_tyx {d : Dt} {v : V} (hk : N.K = G.K) (o : tyOk G.K (ren ρ d)) (h : RpW N H (ren ρ d) v) : TyX G.K H v (tyD (ren ρ d)) := by
  rcases h with h | ⟨ds, a, xs, e, rfl, h2, _⟩
  · rw [← hk] at o ⊢
    exact Mode.R.ty h o
  · rw [e]
    exact .base (.lst h2)
theorem ren_val {ks : List Addr} (hks : ∀ k ∈ ks, KCls G k) {d : Dt} (h : valKs ks d = true) : valD G.K (ren (rho G F) d) := by
  cases d with
  | obj k fs =>
    have hc := hks k (by simpa [valKs] using h)
    have e : rho G F k = G.ca k := by unfold rho; rw [if_neg hc.ne]
    show Kl G.K (rho G F k) ∧ noBi G.K (rho G F k)
    rw [e]
    exact ⟨hc.kl, hc.nb⟩
  | ty n => cases h
  | ptr n => cases h
  | slf x gs ds => cases h
  | _ => trivial
theorem inst_ren {n : String} {d : Dt} (hn : n ∈ ["int", "bool", "str", "list", "tuple"]) : instD n (ren ρ d) = instD n d := by
  simp only [List.mem_cons, List.mem_nil_iff, or_false] at hn
  rcases hn with rfl | rfl | rfl | rfl | rfl <;> cases d <;> rfl
theorem wok_isi {ks : List Addr} (hks : ∀ k ∈ ks, KCls G k) : WOk G (rIsi G.K) (fIsi ks) := fun N ok k F ds d vs H hf j q Q k' => by
  unfold fIsi at hf
  split at hf
  case h_2 => cases hf
  rename_i c n
  split at hf
  case isFalse => cases hf
  rename_i hn
  cases hf
  obtain ⟨v, w, rfl, h1, h2⟩ := W_2 q
  rw [W_ty h2]
  have val := ren_val (G := G) (F := F) hks hn.2
  refine ⟨v, .ty n, _, _, instD n c, rfl, .ty n, W_tyx k val.ty h1, ?_, k' _ _ Mode.Le.refl j rfl⟩
  have := kit_D val hn.1
  rw [inst_ren hn.1] at this
  exact this
def fIsC (ks : List (Addr × Bool)) : List Dt → Option Dt
  | [d, .ptr c] => match d with
    | .obj k _ => (ks.lookup k).map Dt.bl
    | .ty _ => none | .ptr _ => none | .slf _ _ _ => none | .dct _ => none | .dcT _ => none
    | _ => some (.bl false)
  | _ => none
structure CCls (G : Gd) (c : Addr) (ks : List (Addr × Bool)) : Prop where
  ne : c ≠ 1
  own : ∀ k b, (k, b) ∈ ks → k ≠ 1 ∧ Kl G.K (G.ca k) ∧ PySem.W.kitOne G.K (.ref (G.ca k)) (.ref (G.ca c)) = some b
  bi : ∀ n ∈ ["NoneType", "bool", "int", "str", "list", "tuple"], PySem.W.kitOne G.K (.type n) (.ref (G.ca c)) = some false
theorem mem_of_lookup {k : Addr} {b : Bool} : ∀ {ks : List (Addr × Bool)}, ks.lookup k = some b → (k, b) ∈ ks
  | [], h => by cases h
  | (k', b') :: ks, h => by
    rw [List.lookup_cons] at h
    split at h
    · rename_i e
      have e' : k = k' := beq_iff_eq.mp e
      cases h
      rw [e']
      exact List.mem_cons_self
    · exact List.mem_cons_of_mem _ (mem_of_lookup h)
def fIsCc (c : Addr) (ks : List (Addr × Bool)) : List Dt → Option Dt := fun ds => match ds with
  | [d, .ptr c'] => if c' = c then fIsC ks [d, .ptr c'] else none
  | _ => none
theorem wok_isC {c : Addr} {ks : List (Addr × Bool)} (hks : CCls G c ks) : WOk G (rIsi G.K) (fIsCc c ks) := fun N ok k F ds d vs H hf j q Q k' => by
  unfold fIsCc at hf
  split at hf
  case h_2 => cases hf
  rename_i x c'
  split at hf
  case isFalse => cases hf
  rename_i hcc
  subst hcc
  obtain ⟨v, w, rfl, h1, h2⟩ := W_2 q
  have ec : rho G F c' = G.ca c' := by unfold rho; rw [if_neg hks.ne]
  have hw : w = .ref (G.ca c') := by
    rcases h2 with h2 | ⟨_, _, _, e, _⟩
    · rw [← ec]; exact h2
    · cases e
  subst hw
  unfold fIsC at hf
  dsimp only at hf
  have fin : ∀ {t : Value} {b : Bool}, TyX G.K H v t → PySem.W.kitOne G.K t (.ref (G.ca c')) = some b → d = .bl b → rIsi G.K [v, .ref (G.ca c')] H Q := fun {t b} ht hk hd => by
    subst hd
    exact ⟨v, .ref (G.ca c'), t, _, b, rfl, .own _, ht, hk, k' _ _ Mode.Le.refl j rfl⟩
  split at hf
  · rename_i kk fs
    obtain ⟨b, hb, eb⟩ := Option.map_eq_some_iff.mp hf
    obtain ⟨g1, g2, g3⟩ := hks.own kk b (mem_of_lookup hb)
    have ek : rho G F kk = G.ca kk := by unfold rho; rw [if_neg g1]
    have ht := W_tyx (G := G) (ρ := rho G F) (d := .obj kk fs) k (by show Kl G.K (rho G F kk); rw [ek]; exact g2) h1
    rw [show tyD (ren (rho G F) (.obj kk fs)) = .ref (rho G F kk) from rfl, ek] at ht
    exact fin ht g3 eb.symm
  · cases hf
  · cases hf
  · cases hf
  · cases hf
  · cases hf
  · rename_i g1 g2 g3 g4 g5 g6
    cases hf
    have ht : tyOk G.K (ren (rho G F) x) → TyX G.K H v (tyD (ren (rho G F) x)) := fun o => W_tyx k o h1
    cases x with
    | obj kk fs => exact (g1 kk fs rfl).elim
    | ty m => exact (g2 m rfl).elim
    | ptr m => exact (g3 m rfl).elim
    | slf a gs es => exact (g4 a gs es rfl).elim
    | dct m => exact (g5 m rfl).elim
    | dcT m => exact (g6 m rfl).elim
    | non => exact fin (ht trivial) (hks.bi _ (by simp)) rfl
    | bl b => exact fin (ht trivial) (hks.bi _ (by simp)) rfl
    | int b => exact fin (ht trivial) (hks.bi _ (by simp)) rfl
    | str b => exact fin (ht trivial) (hks.bi _ (by simp)) rfl
    | lst b => exact fin (ht trivial) (hks.bi _ (by simp)) rfl
    | tup b => exact fin (ht trivial) (hks.bi _ (by simp)) rfl
def PostO (G : Gd) (F : Fr) (e : En) (σ : L2.St) (H : Hp) (Q : Option Int → Hp → Prop) (p : Option Int × En) : Prop := ∀ H', own p.2 σ = own e σ → Fw F (own e σ) H H' → Sim G F p.2 σ H' → Q p.1 H'
def tO (G : Gd) (x : XO) : TO := fun σ H Q => ∃ F e, Sim G F e σ H ∧ (x e).All (PostO G F e σ H Q)
theorem m_oNone : PO X none (tO G oNone) := ⟨fun pins s σ H Q I q => po_none.run pins s σ H Q I (by
  obtain ⟨F, e, s, q⟩ := q
  exact q H rfl Fw.refl s)⟩
theorem m_oSome {a : XE} {x : Expr} (h : PE X x (tE G a)) : PO X (some x) (tO G (oSome a)) := ⟨fun pins s σ H Q I q => (po_some h).run pins s σ H Q I (by
  obtain ⟨F, e, s, q⟩ := q
  refine ⟨F, e, s, Tr.All.mono (fun p q v H1 h1 f1 s1 r1 => ?_) (Tr.all_bind.mp q)⟩
  obtain ⟨i, hi, q⟩ := Tr.of_all (Tr.all_bind.mp q)
  have ev : p.1 = .d (.int i) := by
    unfold intV at hi
    split at hi
    · rename_i q0; cases hi; exact q0
    · cases hi
  rw [ev] at r1
  exact ⟨i, r1, q H1 h1 f1 s1⟩)⟩
def rSlU (K : PySem.W.Frag) : V → Option Int → Option Int → Hp → VK → Prop := fun x lo hi H Q => rSlL K x lo hi H Q ∨ rSlN K x lo hi H Q ∨ rSlS x lo hi H Q
theorem slr_or {r r' : V → Option Int → Option Int → Hp → VK → Prop} (h : L2.SlR X r) (h' : L2.SlR X r') : L2.SlR X (fun x lo hi H Q => r x lo hi H Q ∨ r' x lo hi H Q) := by
  intro pins s σ H x v vl vu lo hi sl Q I rx hs pl pu q
  rcases q with q | q
  · exact h pins s σ H x v vl vu lo hi sl Q I rx hs pl pu q
  · exact h' pins s σ H x v vl vu lo hi sl Q I rx hs pl pu q
theorem rens_cut (ρ : Addr → Addr) (ds : List Dt) (lo hi : Option Int) : rens ρ (cutD ds lo hi) = cutD (rens ρ ds) lo hi := by
  unfold cutD
  rw [rens_len, rens_map, rens_map, List.map_take, List.map_drop]
theorem sl_core (ok : N.Ok) (hk : N.K = G.K) {d c : Dt} {v : V} {lo hi : Option Int} (h : slD d lo hi = some c) (j : N.J H) (r : RpW N H (ren ρ d) v) {Q : VK} (k' : ∀ v H', N.Le H H' → N.J H' → N.R H' (ren ρ c) v → Q v H') : rSlU G.K v lo hi H Q := by
  unfold slD at h
  split at h
  · cases h
    obtain ⟨a, xs, rfl, ha, ra⟩ := W_lst r
    refine Or.inl ⟨a, xs, rfl, sq_of ha, fun p hp => ?_⟩
    obtain ⟨x2, j2, r2⟩ := ok.newL j hp (cut_rp (lo := lo) (hi := hi) ra)
    refine k' _ _ (N.le x2) j2 ?_
    show Rp N.K _ (.lst (rens _ _)) _
    rw [rens_cut]
    exact r2
  · rename_i es
    cases h
    obtain ⟨a, xs, rfl, ha, ra⟩ := W_tup r
    refine Or.inr (Or.inl ⟨a, xs, rfl, by rw [← hk]; exact ha, fun hc => ?_, fun hc p b hp hb => ?_⟩)
    · rcases r with r | ⟨_, _, _, e, _⟩
      case inr => cases e
      refine k' _ _ Mode.Le.refl j ?_
      have e1 : cutD (rens ρ es) lo hi = rens ρ es := by
        unfold cutD
        have hl := ra.length
        rw [← hl, hc.1, hc.2, List.drop_zero, Nat.sub_zero, hl, List.take_length]
      show Rp N.K _ (.tup (rens _ _)) _
      rw [rens_cut, e1]
      exact r
    · obtain ⟨x2, j2, r2⟩ := ok.newT j hp hb (cut_rp (lo := lo) (hi := hi) ra)
      refine k' _ _ (N.le x2) j2 ?_
      show Rp N.K _ (.tup (rens _ _)) _
      rw [rens_cut]
      exact r2
  · split at h
    · rename_i hz
      cases h
      rw [W_str r]
      exact Or.inr (Or.inr ⟨_, rfl, sz_of hz, k' _ _ Mode.Le.refl j rfl⟩)
    · cases h
  · cases h
theorem m_sl (o : G.Ok) {a : XE} {lo hi : XO} {x : Expr} {l u : Option Expr} {p2 pos : Pos} (h : PE X x (tE G a)) (hl : PO X l (tO G lo)) (hu : PO X u (tO G hi)) (hK : X.K = G.K := by rfl) : PE X (.Subscript x (.Slice l u none p2) pos) (tE G (xSl a lo hi)) := PE.weak (pe_slice (r := rSlU G.K) (by rw [← hK]; exact slr_or sl_list (slr_or sl_tupN sl_str)) h hl hu) fun σ H Q q => by
  obtain ⟨F, e, s, q⟩ := q
  refine ⟨F, e, s, Tr.All.mono (fun p q v H1 h1 f1 s1 r1 => ?_) (Tr.all_bind.mp q)⟩
  refine ⟨F, p.2, s1, Tr.All.mono (fun p2 q H2 h2 f2 s2 => ?_) (Tr.all_bind.mp q)⟩
  refine ⟨F, p2.2, s2, Tr.All.mono (fun p3 q H3 h3 f3 s3 => ?_) (Tr.all_bind.mp q)⟩
  obtain ⟨d, hd, q⟩ := Tr.of_all (Tr.all_bind.mp q)
  obtain ⟨c, hc, hd⟩ := Option.bind_eq_some_iff.mp hd
  obtain ⟨rv, hrv, hc⟩ := Option.bind_eq_some_iff.mp hc
  have r3 : VlR G F p3.2 σ H3 p.1 v := (r1.step h2 f2).step h3 f3
  refine sl_core (s3.mok o) rfl hd s3.mj (as_rep hc (look_rep s3 r3 hrv)) fun v' H4 l4 j4 r4 => ?_
  obtain ⟨s4, f4⟩ := s3.pure l4 j4
  have o3 : own p3.2 σ = own e σ := h3.trans (h2.trans h1)
  exact q v' H4 o3 (f1.trans (h1 ▸ (f2.trans (h2 ▸ (f3.trans (h3 ▸ f4)))))) s4 r4
instance {a : XE} [ha : PureE a] : PureE (xSl a oNone oNone) := ⟨fun e => pure_bind (ha.same e) fun c => pure_of fun b => pure_ret⟩
instance {a b : XE} [ha : PureE a] [hb : PureE b] : PureE (xSl a (oSome b) oNone) := ⟨fun e => pure_bind (ha.same e) fun c => by
  intro P q
  refine pure_bind (β := Vl) (m := oSome b e) (fun P q => pure_bind (hb.same e) (fun d => pure_of fun i => pure_ret) P q) (fun d => ?_) P q
  exact pure_of fun b => pure_ret⟩
instance {a b : XE} [ha : PureE a] [hb : PureE b] : PureE (xSl a oNone (oSome b)) := ⟨fun e => pure_bind (ha.same e) fun c => by
  intro P q
  refine pure_bind (β := Vl) (m := oSome b e) (fun P q => pure_bind (hb.same e) (fun d => pure_of fun i => pure_ret) P q) (fun d => ?_) P q
  exact pure_of fun b => pure_ret⟩
instance {a b c : XE} [ha : PureE a] [hb : PureE b] [hc : PureE c] : PureE (xSl a (oSome b) (oSome c)) := ⟨fun e => pure_bind (ha.same e) fun v => by
  intro P q
  refine pure_bind (β := Vl) (m := oSome b e) (fun P q => pure_bind (hb.same e) (fun d => pure_of fun i => pure_ret) P q) (fun d => ?_) P q
  intro P q
  refine pure_bind (β := Vl) (m := oSome c e) (fun P q => pure_bind (hc.same e) (fun d => pure_of fun i => pure_ret) P q) (fun d => ?_) P q
  exact pure_of fun b => pure_ret⟩
end
end Mc
namespace Mc
open PySem PySem.Spec PyProof.Rows L2 Evl
section
variable {G : Gd} {Wx : WX} {F : Fr} {e e' : En} {σ σ' : L2.St} {H H' B : Hp} {X : Cx} {N : Mode} {ρ : Addr → Addr}
theorem seqR_rep {r : Rv} {ds : List Dt} {v : V} (h : seqR r = some ds) (q : RvR N ρ H r v) : ∃ a xs, v = .ref a ∧ (SqT N.K H a xs ∨ SqL N.K H a xs) ∧ RpA N.K (cut N.S H) (rens ρ ds) xs := by
  unfold seqR at h
  split at h
  · cases h
    obtain ⟨a, xs, h1, h2, h3⟩ := q
    exact ⟨a, xs, h1, Or.inr (sq_of (cut_le _ _ _ _ h2)), h3⟩
  · cases h
    obtain ⟨a, xs, h1, h2, h3⟩ := q
    exact ⟨a, xs, h1, Or.inl (ex_t (cut_le _ _) h2.1), h3⟩
  · cases h
    obtain ⟨a, xs, h1, h2, h3⟩ := q
    exact ⟨a, xs, h1, Or.inr (sq_of h2), h3⟩
  · cases h
theorem vlrs_dats : ∀ {ds : List Dt} {vs : List V}, RpA G.K (cut (F.U e σ) H) (rens (rho G F) ds) vs → VlRs G F e σ H (ds.map Vl.d) vs
  | [], _, h => h
  | d :: ds, _, ⟨v, r, h1, h2, h3⟩ => ⟨v, r, h1, h2, vlrs_dats h3⟩
theorem VlRs.append : ∀ {xs ys : List Vl} {vs ws : List V}, VlRs G F e σ H xs vs → VlRs G F e σ H ys ws → VlRs G F e σ H (xs ++ ys) (vs ++ ws)
  | [], ys, _, ws, h, h' => by
    rw [show _ = [] from h]
    exact h'
  | x :: xs, ys, _, ws, ⟨v, r, h1, h2, h3⟩, h' => ⟨v, r ++ ws, by rw [h1]; rfl, h2, VlRs.append h3 h'⟩
theorem m_star {a : XE} {as : XA} {x : Expr} {xs : List Expr} {p : Pos} (h : PE X x (tE G a)) (hr : PA X xs (tA G as)) (hK : X.K = G.K := by rfl) (hs : starEach (.Starred x p :: xs) X.env = (true, eval x X.env) :: starEach xs X.env := by rfl) : PA X (.Starred x p :: xs) (tA G (xStar a as)) := PA.weak (StX.pa_star h hr hs) fun σ H Q q => by
  obtain ⟨F, e, s, q⟩ := q
  refine ⟨F, e, s, Tr.All.mono (fun p q v H1 h1 f1 s1 r1 => ?_) (Tr.all_bind.mp q)⟩
  obtain ⟨ds, hds, q⟩ := Tr.of_all (Tr.all_bind.mp q)
  obtain ⟨rv, g1, g2⟩ := Option.bind_eq_some_iff.mp hds
  obtain ⟨a', ys, rfl, hsq, hra⟩ := seqR_rep g2 (look_rep s1 r1 g1)
  refine ⟨a', ys, rfl, by rw [hK]; exact hsq, F, p.2, s1, Tr.All.mono (fun p2 q vs H2 h2 f2 s2 r2 => ?_) (Tr.all_bind.mp q)⟩
  refine q (ys ++ vs) H2 (h2.trans h1) (f1.trans (h1 ▸ f2)) s2 (VlRs.append ?_ r2)
  exact VlRs.step h2 f2 (vlrs_dats hra)
def IOk (G : Gd) (r : List V → Hp → (It → Hp → Prop) → Prop) (f : List Rv → Option (List Dt)) : Prop := ∀ (N : Mode), N.Ok → N.K = G.K → ∀ (F : Fr) (rs : List Rv) (ds : List Dt) (vs : List V) (H : Hp), f rs = some ds → N.J H → RvRs N (rho G F) H rs vs →
  ∀ R : It → Hp → Prop, (∀ J, TurnX G.K (cut N.S H) J (rens (rho G F) ds) → R J H) → r vs H R
theorem w_I (o : G.Ok) {r : List V → Hp → (It → Hp → Prop) → Prop} {f : List Rv → Option (List Dt)} (hb : IOk G r f) {as : XA} {R : It → Hp → Prop} (q : tI G (iX f as) σ H R) : tA G as σ H fun vs H1 => r vs H1 R := by
  obtain ⟨F, e, s, q⟩ := q
  refine ⟨F, e, s, Tr.All.mono (fun p q vs H1 h1 f1 s1 r1 => ?_) (Tr.all_bind.mp q)⟩
  obtain ⟨ds, hd, q⟩ := Tr.of_all (Tr.all_bind.mp q)
  obtain ⟨rs, l, hf⟩ := Option.bind_eq_some_iff.mp hd
  exact hb _ (s1.mok o) rfl F rs ds vs H1 hf s1.mj (looks_rep s1 r1 l) R fun J T => q J H1 h1 f1 s1 T
theorem turnx_list {K : PySem.W.Frag} {Hb : Hp} {a : Addr} {xs : List V} {ds : List Dt} (hx0 : Hb a = some (.lst xs)) (hr : RpA K Hb ds xs) : TurnX K Hb (Itl K a) ds where
  go := fun i H' l hi => ⟨xs, xs[i]'(by rw [hr.length]; exact hi), sq_of (l _ _ hx0), List.getElem?_eq_getElem _⟩
  stop := fun H' l => ⟨xs, sq_of (l _ _ hx0), by rw [hr.length]; exact Nat.le_refl _⟩
  yld := fun i H' x H'' d l y hd => by
    obtain ⟨y1, y2⟩ := y
    subst y1
    obtain ⟨v, hv, hr'⟩ := hr.get' hd
    have e := y2 xs (sq_of (l _ _ hx0))
    rw [hv] at e
    cases e
    exact ⟨Ex.refl _, fun Hc ex _ => hr'.mono ex⟩
theorem turnx_tup {K : PySem.W.Frag} {Hb : Hp} {a : Addr} {xs : List V} {ds : List Dt} (hx0 : SqT K Hb a xs) (hr : RpA K Hb ds xs) : TurnX K Hb (Itt K a) ds where
  go := fun i H' l hi => ⟨xs, xs[i]'(by rw [hr.length]; exact hi), ex_t l hx0, List.getElem?_eq_getElem _⟩
  stop := fun H' l => ⟨xs, ex_t l hx0, by rw [hr.length]; exact Nat.le_refl _⟩
  yld := fun i H' x H'' d l y hd => by
    obtain ⟨y1, y2⟩ := y
    subst y1
    obtain ⟨v, hv, hr'⟩ := hr.get' hd
    have e := y2 xs (ex_t l hx0)
    rw [hv] at e
    cases e
    exact ⟨Ex.refl _, fun Hc ex _ => hr'.mono ex⟩
theorem turnx_str {K : PySem.W.Frag} {Hb : Hp} {z : Str} : TurnX K Hb (Its z) (signsD z) := by
  have T := turns_str (N := ⟨K, [], fun _ => True⟩) (H1 := fun _ => none) (x := z)
  refine ⟨fun i H' l hi => T.go i H' (fun b o h => by rw [cut_out (by simp)] at h; cases h) (fun b hb => by cases hb) hi, fun H' l => T.stop H' (fun b o h => by rw [cut_out (by simp)] at h; cases h) (fun b hb => by cases hb), fun i H' x H'' d l y hd => ?_⟩
  obtain ⟨y1, c, y2, y3⟩ := y
  subst y1
  unfold signsD at hd
  rw [List.getElem?_map] at hd
  obtain ⟨c', hc', rfl⟩ := Option.map_eq_some_iff.mp hd
  have e : c' = c := by
    rw [Array.getElem?_toList] at hc'
    rw [y2] at hc'
    cases hc'
    rfl
  subst e
  exact ⟨Ex.refl _, fun Hc ex _ => y3⟩
theorem turnx_range {K : PySem.W.Frag} {Hb : Hp} {lo : Int} {n : Nat} : TurnX K Hb (Itr lo n) (rangeD lo n) where
  go := fun i H' l hi => by rw [rangeD_len] at hi; exact hi
  stop := fun H' l => by rw [rangeD_len]; exact Nat.le_refl _
  yld := fun i H' x H'' d l y hd => by
    obtain ⟨y1, y2⟩ := y
    subst y1
    obtain ⟨e, _⟩ := rangeD_get hd
    subst e
    exact ⟨Ex.refl _, fun Hc ex _ => y2⟩
theorem turnx_enumL {K : PySem.W.Frag} {Hb : Hp} {a : Addr} {xs : List V} {ds : List Dt} (hx0 : Hb a = some (.lst xs)) (hr : RpA K Hb ds xs) : TurnX K Hb (Ite K a) (enumD ds) where
  go := fun i H' l hi => by
    rw [enumD_len] at hi
    exact ⟨xs, xs[i]'(by rw [hr.length]; exact hi), sq_of (l _ _ hx0), List.getElem?_eq_getElem _⟩
  stop := fun H' l => ⟨xs, sq_of (l _ _ hx0), by rw [enumD_len, hr.length]; exact Nat.le_refl _⟩
  yld := fun i H' x H'' d l y hd => by
    obtain ⟨T, u, y1, y2, y3, y4⟩ := y
    obtain ⟨c, hc, rfl, _⟩ := enumD_get hd
    obtain ⟨v, hv, hr'⟩ := hr.get' hc
    have e := y4 xs (sq_of (l _ _ hx0))
    rw [hv] at e
    cases e
    subst y1 y3
    refine ⟨Ex.new y2, fun Hc ex k => ⟨T, _, rfl, ⟨Or.inl (Or.inl (k T _ y2 upd_same)), fun z => by cases z⟩, ?_⟩⟩
    exact ⟨_, _, rfl, rfl, _, _, rfl, hr'.mono ex, rfl⟩
theorem turnx_enumT {K : PySem.W.Frag} {Hb : Hp} {a : Addr} {xs : List V} {ds : List Dt} (hx0 : SqT K Hb a xs) (hr : RpA K Hb ds xs) : TurnX K Hb (Itet K a) (enumD ds) where
  go := fun i H' l hi => by
    rw [enumD_len] at hi
    exact ⟨xs, xs[i]'(by rw [hr.length]; exact hi), ex_t l hx0, List.getElem?_eq_getElem _⟩
  stop := fun H' l => ⟨xs, ex_t l hx0, by rw [enumD_len, hr.length]; exact Nat.le_refl _⟩
  yld := fun i H' x H'' d l y hd => by
    obtain ⟨T, u, y1, y2, y3, y4⟩ := y
    obtain ⟨c, hc, rfl, _⟩ := enumD_get hd
    obtain ⟨v, hv, hr'⟩ := hr.get' hc
    have e := y4 xs (ex_t l hx0)
    rw [hv] at e
    cases e
    subst y1 y3
    refine ⟨Ex.new y2, fun Hc ex k => ⟨T, _, rfl, ⟨Or.inl (Or.inl (k T _ y2 upd_same)), fun z => by cases z⟩, ?_⟩⟩
    exact ⟨_, _, rfl, rfl, _, _, rfl, hr'.mono ex, rfl⟩
def rWalk (K : PySem.W.Frag) : V → Hp → (It → Hp → Prop) → Prop := fun x H R => (∃ a, x = .ref a ∧ (((∃ xs, SqL K H a xs) ∧ R (Itl K a) H) ∨ ((∃ xs, SqT K H a xs) ∧ R (Itt K a) H))) ∨ ∃ z, x = .str z ∧ R (Its z) H
theorem pi_walk {tg l : Expr} {tl : TE} (hl : PE X l tl) : PI X tg l (fun σ H R => tl σ H fun x H1 => rWalk X.K x H1 R) := by
  refine ⟨fun pins s σ H R I h => thn (hl.run pins s σ H _ I h) fun v s1 ⟨x, H1, I1, r1, q⟩ => ?_⟩
  rcases q with ⟨a, e, q⟩ | ⟨z, ex, q⟩
  · subst e
    cases r1
    rcases q with ⟨⟨xs, hq⟩, q⟩ | ⟨⟨xs, hq⟩, q⟩
    · obtain ⟨its, rv, p, hz⟩ := I1.list hq
      exact wpAny_pyIter_list p.isList ⟨_, _, _, _, H1, rfl, I1.kept (t' := s1.toks) fun b o e => Heap.get?_push_of_some _ e, turn_list a _, ⟨_, Heap.get?_push_size _ rfl, rfl, rfl⟩, one_it I1, q⟩
    · obtain ⟨its, rv, p, hz⟩ := I1.tuple hq
      exact wpAny_pyIter_tuple (show s1.heap.IsTuple a its.toArray from p) ⟨_, _, _, _, H1, rfl, I1.kept (t' := s1.toks) fun b o e => Heap.get?_push_of_some _ e, turn_tuple a _, ⟨_, Heap.get?_push_size _ rfl, rfl, rfl⟩, one_it I1, q⟩
  · subst ex
    obtain ⟨t, rfl⟩ := r1
    cases ha : z.cps.all (· < 128)
    · exact wpAny_pyIter_wide ha (pi_one (tk := s1.toks) I1 _ (turn_str _ z t "str_iterator" (.inr rfl)) ⟨_, Heap.get?_push_size _ rfl, rfl, rfl⟩ q)
    · exact wpAny_pyIter_ascii ha (pi_one (tk := s1.toks) I1 _ (turn_str _ z t "str_ascii_iterator" (.inl rfl)) ⟨_, Heap.get?_push_size _ rfl, rfl, rfl⟩ q)
theorem rens_signs (ρ : Addr → Addr) (z : Str) : rens ρ (signsD z) = signsD z := by
  unfold signsD
  rw [rens_map, List.map_map]
  rfl
theorem rens_range (ρ : Addr → Addr) (lo : Int) (n : Nat) : rens ρ (rangeD lo n) = rangeD lo n := by
  unfold rangeD
  rw [rens_map, List.map_map]
  rfl
theorem rens_enum (ρ : Addr → Addr) (ds : List Dt) : rens ρ (enumD ds) = enumD (rens ρ ds) := by
  refine List.ext_getElem? fun i => ?_
  by_cases hi : i < ds.length
  · have h1 : (enumD ds)[i]? = some (.tup [.int (i : Nat), ds[i]]) := by
      unfold enumD
      rw [List.getElem?_zipWith, List.getElem?_range hi, List.getElem?_eq_getElem hi]
    have h2 : (enumD (rens ρ ds))[i]? = some (.tup [.int (i : Nat), ren ρ ds[i]]) := by
      unfold enumD
      rw [List.getElem?_zipWith, List.getElem?_range (by rw [rens_len]; exact hi), rens_get (List.getElem?_eq_getElem hi)]
    rw [rens_get h1, h2]
    rfl
  · rw [List.getElem?_eq_none (by rw [rens_len, enumD_len]; omega), List.getElem?_eq_none (by rw [enumD_len, rens_len]; omega)]
theorem iok_seq : IOk G (fun vs H R => ∃ v, vs = [v] ∧ rWalk G.K v H R) iSeqD := fun N ok k F rs ds vs H hf j q R k' => by
  unfold iSeqD at hf
  split at hf
  · cases hf
    obtain ⟨v, r, rfl, ⟨a, xs, rfl, h2, h3⟩, h4⟩ := q
    rw [show r = [] from h4]
    rw [k] at h3
    exact ⟨_, rfl, Or.inl ⟨a, rfl, Or.inl ⟨⟨xs, sq_of (cut_le _ _ _ _ h2)⟩, k' _ (turnx_list h2 h3)⟩⟩⟩
  · cases hf
    obtain ⟨v, r, rfl, ⟨a, xs, rfl, h2, h3⟩, h4⟩ := q
    rw [show r = [] from h4]
    rw [k] at h2 h3
    exact ⟨_, rfl, Or.inl ⟨a, rfl, Or.inr ⟨⟨xs, ex_t (cut_le _ _) h2.1⟩, k' _ (turnx_tup h2.1 h3)⟩⟩⟩
  · cases hf
    obtain ⟨v, r, rfl, h2, h4⟩ := q
    rw [show r = [] from h4]
    exact ⟨_, rfl, Or.inr ⟨_, h2, k' _ (by rw [rens_signs]; exact turnx_str)⟩⟩
  · cases hf
theorem m_walk (o : G.Ok) {a : XE} {tg x : Expr} (h : PE X x (tE G a)) (hK : X.K = G.K := by rfl) : PI X tg x (tI G (iX iSeqD (xCons a xNil))) := PI.weak (pi_walk h) fun σ H R q => by
  obtain ⟨F, e, s, q⟩ := w_I o iok_seq q
  refine ⟨F, e, s, Tr.All.mono (fun p q v H1 h1 f1 s1 r1 => ?_) (Tr.all_bind.mp q)⟩
  obtain ⟨v', e', q'⟩ := q [v] H1 h1 f1 s1 ⟨v, [], rfl, r1, rfl⟩
  cases e'
  rw [hK]
  exact q'
theorem iok_range1 : IOk G (fun vs H R => ∃ j : Int, vs = [.int j] ∧ -(2 ^ 62) ≤ j ∧ j < 2 ^ 62 ∧ R (Itr 0 j.toNat) H) iRange1 := fun N ok k F rs ds vs H hf j q R k' => by
  unfold iRange1 at hf
  split at hf
  · split at hf
    · rename_i n hc
      cases hf
      obtain ⟨v, r, rfl, h2, h4⟩ := q
      rw [show r = [] from h4, show v = .int n from h2]
      exact ⟨n, rfl, hc.1, hc.2, k' _ (by rw [rens_range]; exact turnx_range)⟩
    · cases hf
  · cases hf
theorem m_range1 (o : G.Ok) {as : XA} {tg x : Expr} {p pos : Pos} (hg : Gl X "range") (hm : X.mg "range" = none) (ha : PA X [x] (tA G as)) (hs : starEach [x] X.env = [(false, eval x X.env)] := by rfl) : PI X tg (.Call (.Name "range" p) [x] [] pos) (tI G (iX iRange1 as)) := PI.weak (pi_range1 hg hm ha hs) fun σ H R q => w_I o iok_range1 q
theorem iok_enum : IOk G (fun vs H R => ∃ a xs, vs = [.ref a] ∧ ((SqL G.K H a xs ∧ R (Ite G.K a) H) ∨ (SqT G.K H a xs ∧ R (Itet G.K a) H))) iEnum := fun N ok k F rs ds vs H hf j q R k' => by
  unfold iEnum at hf
  split at hf
  · cases hf
    obtain ⟨v, r, rfl, ⟨a, xs, rfl, h2, h3⟩, h4⟩ := q
    rw [show r = [] from h4]
    rw [k] at h3
    exact ⟨a, xs, rfl, Or.inl ⟨sq_of (cut_le _ _ _ _ h2), k' _ (by rw [rens_enum]; exact turnx_enumL h2 h3)⟩⟩
  · cases hf
    obtain ⟨v, r, rfl, ⟨a, xs, rfl, h2, h3⟩, h4⟩ := q
    rw [show r = [] from h4]
    rw [k] at h2 h3
    exact ⟨a, xs, rfl, Or.inr ⟨ex_t (cut_le _ _) h2.1, k' _ (by rw [rens_enum]; exact turnx_enumT h2.1 h3)⟩⟩
  · cases hf
theorem m_enum (o : G.Ok) {as : XA} {x : Expr} {p pos tpos : Pos} {elts : List Expr} {kk : Nat} (hg : Gl X "enumerate") (hm : X.mg "enumerate" = none) (ha : PA X [x] (tA G as)) (hK : X.K = G.K := by rfl) (hs : starEach [x] X.env = [(false, eval x X.env)] := by rfl) : PI X (.Tuple elts kk tpos) (.Call (.Name "enumerate" p) [x] [] pos) (tI G (iX iEnum as)) := PI.weak (pi_enumS hg hm ha hs) fun σ H R q => by
  have := w_I o iok_enum q
  rw [← hK] at this
  exact this
end
end Mc
namespace Mc
open PySem PySem.Spec PyProof.Rows L2 Evl
section
variable {G : Gd} {Wx : WX} {F : Fr} {e e' : En} {σ σ' : L2.St} {H H' B : Hp} {X : Cx} {N : Mode} {ρ : Addr → Addr}
structure ACls (G : Gd) (f : Str) (k : Addr) : Prop where
  ne : k ≠ 1
  cl : Cls G.K (G.ca k)
  na : NoAttr G.K (G.ca k) f
theorem renF_look {f : Str} : ∀ {fs : List (Str × Dt)} {d : Dt}, fs.lookup f = some d → (renF ρ fs).lookup f = some (ren ρ d)
  | [], d, h => by cases h
  | (g, c) :: fs, d, h => by
    show ((g, ren ρ c) :: renF ρ fs).lookup f = _
    rw [List.lookup_cons] at h ⊢
    cases q : f == g with
    | true => rw [q] at h; cases h; rfl
    | false => rw [q] at h; exact renF_look h
theorem bok_attr {ks : List Addr} {f : Str} (hks : ∀ k ∈ ks, ACls G f k) : BOk G (R1L fun x H Q => ∃ a C dx fs v, x = .ref a ∧ H a = some (.ins C dx fs) ∧ Cls G.K C ∧ NoAttr G.K C f ∧ fs.lookup f = some v ∧ Q v H) (bAttr ks f) := fun N ok k F rs d vs H hf j q Q k' => by
  have core : ∀ {kk : Addr} {fs : List (Str × Dt)} {a dx : Addr} {gs : List (Str × V)}, ks.contains kk = true → fs.lookup f = some d → H a = some (.ins (rho G F kk) dx gs) → RpF N.K (cut N.S H) (renF (rho G F) fs) gs →
      ∃ a' C dx fs v, V.ref a = .ref a' ∧ H a' = some (.ins C dx fs) ∧ Cls G.K C ∧ NoAttr G.K C f ∧ fs.lookup f = some v ∧ Q v H := fun {kk fs a dx gs} hk hl ha hr => by
    have hc := hks kk (by simpa using hk)
    have ek : rho G F kk = G.ca kk := by unfold rho; rw [if_neg hc.ne]
    obtain ⟨u, hu, ru⟩ := hr.look (renF_look hl)
    exact ⟨a, _, dx, gs, u, rfl, ha, by rw [ek]; exact hc.cl, by rw [ek]; exact hc.na, hu, k' _ _ Mode.Le.refl j ru⟩
  unfold bAttr at hf
  split at hf
  · split at hf
    · rename_i hk
      obtain ⟨v, r, rfl, ⟨a, dx, gs, rfl, h2, h3⟩, h4⟩ := q
      rw [show r = [] from h4]
      exact ⟨_, rfl, core hk hf (cut_le _ _ _ _ h2) h3⟩
    · cases hf
  · split at hf
    · rename_i hk
      obtain ⟨v, r, rfl, ⟨a, dx, gs, rfl, h2, h3⟩, h4⟩ := q
      rw [show r = [] from h4]
      exact ⟨_, rfl, core hk hf h2 h3⟩
    · cases hf
  · cases hf
theorem m_attr (o : G.Ok) {ks : List Addr} {f : Str} {a : XE} {x : Expr} {pos : Pos} (hks : ∀ k ∈ ks, ACls G f k) (h : PE X x (tE G a)) (hK : X.K = G.K := by rfl) (hb : attributeBase x f X.env (eval x X.env) = eval x X.env := by rfl) : PE X (.Attribute x f pos) (tE G (xB (bAttr ks f) (xCons a xNil))) := by
  refine m_un o (r := fun x H Q => ∃ a C dx fs v, x = .ref a ∧ H a = some (.ins C dx fs) ∧ Cls G.K C ∧ NoAttr G.K C f ∧ fs.lookup f = some v ∧ Q v H) ?_ (bok_attr hks)
  have := pe_fld (pos := pos) h hb
  rw [hK] at this
  exact this
theorem own_memb : ∀ {e : En} {σ : L2.St} {i : Nat} {t : Sl} {a : Addr}, e[i]? = some (some t) → plainS (some t) = false → σ[i]? = some (some (.ref a)) → a ∈ own e σ := by
  intro e
  induction e with
  | nil => intro σ i t a h; simp at h
  | cons s1 e ih1 =>
    intro σ i t a h hp h'
    cases σ with
    | nil => simp at h'
    | cons x1 σ =>
      cases i with
      | zero =>
        have g1 : s1 = some t := by simpa using h
        have g2 : x1 = some (.ref a) := by simpa using h'
        subst g1 g2
        refine List.mem_append_left _ ?_
        cases t with
        | d y => cases hp
        | own y => simp [ownS]
        | ob y z => simp [ownS]
        | dk y => simp [ownS]
      | succ i => exact List.mem_append_right _ (ih1 (by simpa using h) hp (by simpa using h'))
theorem own_apart : ∀ {e : En} {σ : L2.St} {i j : Nat} {t u : Sl} {a : Addr}, (own e σ).Nodup → e[i]? = some (some t) → plainS (some t) = false → σ[i]? = some (some (.ref a)) → e[j]? = some (some u) → plainS (some u) = false → σ[j]? = some (some (.ref a)) → i = j := by
  intro e
  induction e with
  | nil => intro σ i j t u a _ h; simp at h
  | cons s1 e ih =>
    intro σ i j t u a nd h1 h2 h3 g1 g2 g3
    cases σ with
    | nil => simp at h3
    | cons x1 σ =>
      have nd' : (ownS s1 x1 ++ own e σ).Nodup := nd
      obtain ⟨n1, n2, n3⟩ := List.nodup_append.mp nd'
      have head : ∀ {t : Sl}, s1 = some t → plainS (some t) = false → x1 = some (.ref a) → a ∈ ownS s1 x1 := fun {t} q1 q2 q3 => by
        subst q1 q3
        cases t with
        | d y => cases q2
        | own y => simp [ownS]
        | ob y z => simp [ownS]
        | dk y => simp [ownS]
      cases i with
      | zero =>
        cases j with
        | zero => rfl
        | succ j => exact (n3 a (head (by simpa using h1) h2 (by simpa using h3)) a (own_memb (by simpa using g1) g2 (by simpa using g3)) rfl).elim
      | succ i =>
        cases j with
        | zero => exact (n3 a (head (by simpa using g1) g2 (by simpa using g3)) a (own_memb (by simpa using h1) h2 (by simpa using h3)) rfl).elim
        | succ j => exact congrArg (· + 1) (ih (i := i) (j := j) (a := a) n2 (by simpa using h1) h2 (by simpa using h3) (by simpa using g1) g2 (by simpa using g3))
theorem own_same : ∀ {e : En} {σ : L2.St} {i : Nat} {t t' : Sl}, e[i]? = some (some t) → plainS (some t) = false → plainS (some t') = false → own (e.set i (some t')) σ = own e σ := by
  intro e
  induction e with
  | nil => intro σ i t t' h; simp at h
  | cons s1 e ih =>
    intro σ i t t' h h1 h2
    cases σ with
    | nil => cases i <;> rfl
    | cons x1 σ =>
      cases i with
      | zero =>
        have g1 : s1 = some t := by simpa using h
        subst g1
        show ownS (some t') x1 ++ own e σ = ownS (some t) x1 ++ own e σ
        congr 1
        cases t with
        | d y => cases h1
        | own y =>
          cases t' with
          | d z => cases h2
          | own z => cases x1 with
            | none => rfl
            | some v => cases v <;> rfl
          | ob z w => cases x1 with
            | none => rfl
            | some v => cases v <;> rfl
          | dk z => cases x1 with
            | none => rfl
            | some v => cases v <;> rfl
        | ob y y' =>
          cases t' with
          | d z => cases h2
          | own z => cases x1 with
            | none => rfl
            | some v => cases v <;> rfl
          | ob z w => cases x1 with
            | none => rfl
            | some v => cases v <;> rfl
          | dk z => cases x1 with
            | none => rfl
            | some v => cases v <;> rfl
        | dk y =>
          cases t' with
          | d z => cases h2
          | own z => cases x1 with
            | none => rfl
            | some v => cases v <;> rfl
          | ob z w => cases x1 with
            | none => rfl
            | some v => cases v <;> rfl
          | dk z => cases x1 with
            | none => rfl
            | some v => cases v <;> rfl
      | succ i =>
        show ownS s1 x1 ++ own (e.set i (some t')) σ = ownS s1 x1 ++ own e σ
        rw [ih (by simpa using h) h1 h2]
theorem Sim.chg (s : Sim G F e σ H) (o : G.Ok) {i : Nat} {a : Addr} {t t' : Sl} {u : HO} (hi : e[i]? = some (some t)) (ht : plainS (some t) = false) (ht' : plainS (some t') = false) (hσ : σ[i]? = some (some (.ref a))) (hob : notOb (some t') = true ∨ notOb (some t) = false)
    (new : SlR G.K (rho G F) (cut (F.U e σ) H) (upd H a u) (some t') (some (.ref a))) : Sim G F (e.set i (some t')) σ (upd H a u) ∧ own (e.set i (some t')) σ = own e σ ∧ Fw F (own e σ) H (upd H a u) := by
  have ha := own_memb hi ht hσ
  have eo := own_same (σ := σ) (t' := t') hi ht ht'
  have eU : F.U (e.set i (some t')) σ = F.U e σ := by unfold Fr.U; rw [eo]
  have ec : cut (F.U e σ) (upd H a u) = cut (F.U e σ) H := cut_mut (List.mem_append_right _ (List.mem_append_right _ ha))
  have il : i < e.length := (List.getElem?_eq_some_iff.mp hi).1
  refine ⟨⟨slRs_iff.mpr ⟨by simp [s.len], fun j t2 x h h' => ?_⟩, by rw [eo]; exact s.nd, by rw [eo]; exact s.dis, fun b hb => ?_, s.zd, fun c g h => ?_, fun j k fs h => ?_⟩, eo, fun b w h1 h2 h3 => ?_⟩
  · rw [eU, ec]
    by_cases hj : i = j
    · subst hj
      rw [List.getElem?_set_self il] at h
      cases h
      rw [hσ] at h'
      cases h'
      exact new
    · rw [List.getElem?_set_ne hj] at h
      have q := (slRs_iff.mp s.slots).2 j t2 x h h'
      match t2, q with
      | none, _ => trivial
      | some (.d y), q => exact q
      | some (.own es), ⟨b, ys, e1, e2, e3⟩ =>
        subst e1
        exact ⟨b, ys, rfl, by rw [upd_ne (fun z => hj (own_apart s.nd hi ht hσ h rfl (by rw [h', z])))]; exact e2, e3⟩
      | some (.ob c fs), ⟨b, dx, gs, e1, e2, e3⟩ =>
        subst e1
        exact ⟨b, dx, gs, rfl, by rw [upd_ne (fun z => hj (own_apart s.nd hi ht hσ h rfl (by rw [h', z])))]; exact e2, e3⟩
      | some (.dk kvs), ⟨b, e1, e2⟩ =>
        subst e1
        exact ⟨b, rfl, by rw [upd_ne (fun z => hj (own_apart s.nd hi ht hσ h rfl (by rw [h', z])))]; exact e2⟩
  · rw [upd_ne (fun z : b = a => (s.dis a ha).1 (z ▸ hb))]
    exact s.zt b hb
  · have dn := (s.dis a ha).2
    rw [Fr.dS_some h] at dn
    exact o.up (s.deal c g h) (fun z => dn (by simp [z])) (fun z => dn (by simp [z]))
  · by_cases hj : i = j
    · subst hj
      rcases hob with hob | hob
      · rw [List.getElem?_set_self il] at h
        cases h
        cases hob
      · cases t with
        | d y => cases hob
        | own y => cases hob
        | ob y z => exact s.slf i y z hi
        | dk y => cases hob
    · rw [List.getElem?_set_ne hj] at h
      exact s.slf j k fs h
  · rw [upd_ne (fun z : b = a => h2 (z ▸ ha))]
    exact h3
def MOk (G : Gd) (r : V → List V → Hp → VK → Prop) (f : List Rv → List Dt → Option (Dt × List Dt)) : Prop := ∀ (N : Mode), N.Ok → N.K = G.K → ∀ (F : Fr) (rs : List Rv) (ds ds' : List Dt) (d : Dt) (vs xs : List V) (a : Addr) (H : Hp), f rs ds = some (d, ds') → N.J H → a ∈ N.S → H a = some (.lst xs) → RpA N.K (cut N.S H) (rens (rho G F) ds) xs → RvRs N (rho G F) H rs vs →
  ∀ Q : VK, (∀ v xs', RpA N.K (cut N.S H) (rens (rho G F) ds') xs' → N.R H (ren (rho G F) d) v → Q v (upd H a (.lst xs'))) → r (.ref a) vs H Q
theorem w_mut (o : G.Ok) {r : V → List V → Hp → VK → Prop} {f : List Rv → List Dt → Option (Dt × List Dt)} (hm : MOk G r f) {oo : XE} {as : XA} {Q : VK} (q : tE G (xMut f oo as) σ H Q) : tBM G.K "list" r (tE G oo) (tA G as) σ H Q := by
  obtain ⟨F, e, s, q⟩ := q
  refine ⟨F, e, s, Tr.All.mono (fun p q v H1 h1 f1 s1 r1 => ?_) (Tr.all_bind.mp q)⟩
  obtain ⟨ds0, hl0, q⟩ := Tr.of_all (Tr.all_bind.mp q)
  have hlk : look p.2 p.1 = some (.l ds0) := by
    unfold lstAt at hl0
    split at hl0
    · rename_i es he
      cases hl0
      exact he
    · cases hl0
  obtain ⟨a0, xs0, ev, hx0, _⟩ := look_rep s1 r1 hlk
  refine ⟨by rw [ev]; exact Or.inl ⟨rfl, xs0, sq_of hx0⟩, F, p.2, s1, Tr.All.mono (fun p2 q vs H2 h2 f2 s2 r2 => ?_) (Tr.all_bind.mp q)⟩
  obtain ⟨r', hr', q⟩ := Tr.of_all (Tr.all_bind.mp q)
  obtain ⟨i, g1, g2⟩ := Option.bind_eq_some_iff.mp hr'
  obtain ⟨rs, g3, g4⟩ := Option.bind_eq_some_iff.mp g2
  have ep : p.1 = .r i := by
    cases hp : p.1 with
    | d y => rw [hp] at g1; cases g1
    | r k => rw [hp] at g1; cases g1; rfl
  rw [ep] at r1
  have hσ : σ[i]? = some (some v) := r1
  unfold chg at g4
  split at g4
  case h_2 => cases g4
  rename_i ds he
  obtain ⟨⟨d, ds'⟩, g5, g6⟩ := Option.bind_eq_some_iff.mp g4
  cases g6
  obtain ⟨y, hy, a, xs, e1, e2, e3⟩ := s2.slots.get he
  subst e1
  rw [hσ] at hy
  cases hy
  have ha := own_memb he rfl hσ
  have hS : a ∈ (modeOf G F p2.2 σ H2).S := List.mem_append_right _ (List.mem_append_right _ ha)
  refine hm (modeOf G F p2.2 σ H2) (s2.mok o) rfl F rs ds ds' d vs xs a H2 g5 s2.mj hS e2 e3 (looks_rep s2 r2 g3) Q fun v' xs' rx rv => ?_
  obtain ⟨s3, o3, f3⟩ := s2.chg o (t' := .own ds') (u := .lst xs') he rfl rfl hσ (Or.inl rfl) ⟨a, xs', rfl, upd_same, rx⟩
  refine q v' _ (o3.trans (h2.trans h1)) (f1.trans (h1 ▸ (f2.trans (h2 ▸ f3)))) s3 ?_
  show Rp G.K (cut (F.U (p2.2.set i (some (.own ds'))) σ) _) _ v'
  rw [U_eq o3, cut_mut (show a ∈ F.U p2.2 σ from hS)]
  exact rv
theorem mok_append : MOk G rAppend cAppend := fun N ok k F rs ds ds' d vs xs a H hf j hS ha rx q Q k' => by
  unfold cAppend at hf
  split at hf
  · split at hf
    · rename_i hl
      cases hf
      obtain ⟨v, r, rfl, h2, h4⟩ := q
      rw [show r = [] from h4]
      refine ⟨a, xs, v, rfl, rfl, ha, Nat.lt_of_lt_of_le (by rw [rx.length, rens_len]; exact hl) (sz_of (by decide)), k' _ _ ?_ rfl⟩
      rw [rens_append]
      exact rx.append (RpA.one h2)
    · cases hf
  · cases hf
theorem mok_extend : MOk G rExtend cExtend := fun N ok k F rs ds ds' d vs xs a H hf j hS ha rx q Q k' => by
  unfold cExtend at hf
  split at hf
  · split at hf
    · rename_i hl
      cases hf
      obtain ⟨v, r, rfl, ⟨b, ys, rfl, h2, h3⟩, h4⟩ := q
      rw [show r = [] from h4]
      refine ⟨a, b, xs, ys, rfl, rfl, ha, cut_le _ _ _ _ h2, sz_of (by rw [rx.length, h3.length, rens_len, rens_len]; omega), k' _ _ ?_ rfl⟩
      rw [rens_append]
      exact rx.append h3
    · cases hf
  · cases hf
theorem RpA.erase {K : PySem.W.Frag} {H : Hp} : ∀ {k : Nat} {ds : List Dt} {vs : List V}, RpA K H ds vs → RpA K H (ds.eraseIdx k) (vs.eraseIdx k)
  | _, [], _, h => by
    rw [show _ = [] from h]
    rfl
  | 0, d :: ds, _, ⟨v, r, h1, _, h3⟩ => by
    rw [h1]
    exact h3
  | k + 1, d :: ds, _, ⟨v, r, h1, h2, h3⟩ => by
    rw [h1]
    exact ⟨v, r.eraseIdx k, rfl, h2, RpA.erase h3⟩
theorem rens_erase (ρ : Addr → Addr) : ∀ (ds : List Dt) (k : Nat), rens ρ (ds.eraseIdx k) = (rens ρ ds).eraseIdx k
  | [], k => by cases k <;> rfl
  | d :: ds, 0 => rfl
  | d :: ds, k + 1 => by
    show ren ρ d :: rens ρ (ds.eraseIdx k) = ren ρ d :: (rens ρ ds).eraseIdx k
    rw [rens_erase ρ ds k]
theorem mok_popAt : MOk G rPopAt (fun rs ds => match rs with | [_] => cPop rs ds | _ => none) := fun N ok k F rs ds ds' d vs xs a H hf j hS ha rx q Q k' => by
  dsimp only at hf
  split at hf
  case h_2 => cases hf
  rename_i rr
  unfold cPop at hf
  split at hf
  · rename_i q0; cases q0
  · rename_i i q0
    cases q0
    split at hf
    · rename_i hc
      obtain ⟨c, hc2, e⟩ := Option.map_eq_some_iff.mp hf
      cases e
      obtain ⟨v, r, rfl, h2, h4⟩ := q
      rw [show r = [] from h4, show v = .int i from h2]
      obtain ⟨u, hu, ru⟩ := rx.get' (rens_get hc2)
      have hlt : i.toNat < xs.length := (List.getElem?_eq_some_iff.mp hu).1
      refine ⟨a, xs, i, i.toNat, u, rfl, rfl, ha, by omega, by omega, ?_, hu, k' _ _ ?_ ru⟩
      · unfold seqIndex?
        have e1 : (if i < 0 then i + (xs.length : Int) else i) = i := if_neg (by omega)
        simp only [e1]
        have e2 : (decide (0 ≤ i) && decide (i < (xs.length : Int))) = true := by
          rw [Bool.and_eq_true]
          exact ⟨decide_eq_true hc.1, decide_eq_true (by omega)⟩
        rw [if_pos e2]
      · rw [rens_erase]
        exact rx.erase
    · cases hf
  · cases hf
end
end Mc
namespace Mc
open PySem PySem.Spec PyProof.Rows L2 Evl
section
variable {G : Gd} {Wx : WX} {F : Fr} {e e' : En} {σ σ' : L2.St} {H H' B : Hp} {X : Cx} {N : Mode} {ρ : Addr → Addr}
theorem OpR.or {f : Value → Value → Sem Value} {r r' : R2} (h : OpR X f r) (h' : OpR X f r') : OpR X f (fun x y H Q => r x y H Q ∨ r' x y H Q) := by
  intro pins s σ H x y v u Q I rx ry q
  rcases q with q | q
  · exact h pins s σ H x y v u Q I rx ry q
  · exact h' pins s σ H x y v u Q I rx ry q
theorem w_op (o : G.Ok) {r : R2} {f : List Rv → Option Dt} {a b : XE} (hb : BOk G (R2L r) f) {Q : VK} (q : tE G (xB f (xCons a (xCons b xNil))) σ H Q) : tOp r (tE G a) (tE G b) σ H Q := by
  obtain ⟨F, e, s, q⟩ := w_B o hb q
  refine ⟨F, e, s, Tr.All.mono (fun p q v H1 h1 f1 s1 r1 => ?_) (Tr.all_bind.mp q)⟩
  refine ⟨F, p.2, s1, Tr.All.mono (fun p2 q w H2 h2 f2 s2 r2 => ?_) (Tr.all_bind.mp (Tr.all_bind.mp q))⟩
  obtain ⟨u', w', e', q'⟩ := q [v, w] H2 (h2.trans h1) (f1.trans (h1 ▸ f2)) s2 ⟨v, [w], rfl, r1.step h2 f2, w, [], rfl, r2, rfl⟩
  cases e'
  exact q'
section
variable {a b : XE} {x y : Expr} {pos : Pos}
theorem m_bin (o : G.Ok) {op : Operator} {r : R2} {f : List Dt → Option Dt} (ho : OpR X (binaryOp op) r) (hw : WOk G (R2L r) f) (ha : PE X x (tE G a)) (hb : PE X y (tE G b)) : PE X (.BinOp x op y pos) (tE G (xB (un f) (xCons a (xCons b xNil)))) := m_op o (pe_op ho ha hb) (bok hw)
theorem m_cmp (o : G.Ok) {op : CmpOp} {r : R2} {f : List Dt → Option Dt} (ho : OpR X (compareOp op) r) (hw : WOk G (R2L r) f) (ha : PE X x (tE G a)) (hb : PE X y (tE G b)) (hm : behindInMarks op y = false) : PE X (.Compare x [op] [y] pos) (tE G (xB (un f) (xCons a (xCons b xNil)))) := m_op o (pe_cmpR ho ha hb hm) (bok hw)
theorem m_cmpT (o : G.Ok) {op : CmpOp} {r : R2} {f : List Dt → Option Dt} (ho : OpR X (compareOp op) r) (hw : WOk G (R2L r) f) (ha : PE X x (tE G a)) (hb : PE X y (tE G b)) (hm : behindInMarks op y = false) : PT X (.Compare x [op] [y] pos) (tT G (xTest (xB (un f) (xCons a (xCons b xNil))))) := PT.weak (pt_cmpR ho ha hb hm) fun σ H Q q => w_op o (bok hw) (w_test q)
theorem or_add (hK : X.K = G.K := by rfl) : OpR X (binaryOp .Add) (rAddU G.K) := by rw [← hK]; exact OpR.or op_add (OpR.or op_add_str (OpR.or op_cat op_catN))
theorem or_mul : OpR X (binaryOp .Mult) rMulU := OpR.or op_mulW (OpR.or op_rep op_repS)
theorem or_eq (hu : X.A.units + 64 < cLine) (hK : X.K = G.K := by rfl) : OpR X (compareOp .Eq) (rEqU G.K) := by rw [← hK]; exact OpR.or op_eq (op_eqD hu)
theorem or_ne (hu : X.A.units + 64 < cLine) (hK : X.K = G.K := by rfl) : OpR X (compareOp .NotEq) (rNeU G.K) := by rw [← hK]; exact OpR.or op_ne (op_neD hu)
theorem or_in (hK : X.K = G.K := by rfl) : OpR X (compareOp .In) (rInU G.K false) := by
  rw [← hK]
  exact OpR.or (r := fun x y H Q => ∃ (c : Nat) (z : Str), x = .str ⟨#[c]⟩ ∧ y = .str z ∧ Q (.bl (if false then !decide (c ∈ z.cps.toList) else decide (c ∈ z.cps.toList))) H) op_in_sign op_in_seq
theorem ir_ix (hK : X.K = G.K := by rfl) : IxR X (rIxU G.K) := by rw [← hK]; exact IxR.or ix_list (IxR.or ix_tup ix_str)
theorem m_ix (o : G.Ok) (ha : PE X x (tE G a)) (hb : PE X y (tE G b)) (hs : PlainIx y) (hK : X.K = G.K := by rfl) : PE X (.Subscript x y pos) (tE G (xB (un fIx) (xCons a (xCons b xNil)))) := m_op o (pe_ix (ir_ix hK) ha hb hs) (bok wok_ix)
theorem cr_len (hK : X.K = G.K := by rfl) : CallR X (.builtin "len") (rLenU G.K) := by rw [← hK]; exact CallR.or call_len_str call_len_seq
theorem cr_int : CallR X (.type "int") rIntU := CallR.or call_int1 call_int_str
theorem cr_str : CallR X (.type "str") rStrU := CallR.or SkE.call_str_str call_str_int
theorem m_callB (o : G.Ok) {id : String} {nm : Str} {p : Pos} {x : Expr} {xs : List Expr} {as : XA} {r : List V → Hp → VK → Prop} {f : List Dt → Option Dt} (hc : CallR X (.builtin id) r) (hw : WOk G r f) (hg : Gl X nm) (hm : X.mg nm = none) (hv : bootBuiltins nm = some (.builtin id)) (ha : PA X (x :: xs) (tA G as)) (hn : nm ≠ "__name__" := by decide) (hdb : (nm == ("__debug__" : Str)) = false := by decide)
    (h1 : starEach (x :: xs) X.env = (false, eval x X.env) :: starEach xs X.env := by rfl) (h2 : (backTo pos (starEach xs X.env)).any (·.1) = false := by rfl) : PE X (.Call (.Name nm p) (x :: xs) [] pos) (tE G (xB (un f) as)) := m_B o (pe_callB hc hg hm hv ha hn hdb h1 h2) (bok hw)
theorem m_callT (o : G.Ok) {id : String} {nm : Str} {p : Pos} {x : Expr} {xs : List Expr} {as : XA} {r : List V → Hp → VK → Prop} {f : List Dt → Option Dt} (hc : CallR X (.type id) r) (hw : WOk G r f) (hg : Gl X nm) (hm : X.mg nm = none) (hv : bootBuiltins nm = some (.type id)) (ha : PA X (x :: xs) (tA G as)) (hn : nm ≠ "__name__" := by decide) (hdb : (nm == ("__debug__" : Str)) = false := by decide)
    (h1 : starEach (x :: xs) X.env = (false, eval x X.env) :: starEach xs X.env := by rfl) (h2 : (backTo pos (starEach xs X.env)).any (·.1) = false := by rfl) : PE X (.Call (.Name nm p) (x :: xs) [] pos) (tE G (xB (un f) as)) := m_B o (pe_callTy hc hg hm hv ha hn hdb h1 h2) (bok hw)
theorem strV_eq {v : Vl} {z : Str} (h : strV v = some z) : v = .d (.str z) := by
  unfold strV at h
  split at h
  · cases h; rfl
  · cases h
theorem w_tx (o : G.Ok) {r : V → List V → Hp → VK → Prop} {f : List Dt → Option Dt} (hw : WOk G (R2L fun x y H Q => (∃ a, x = .str a) ∧ r x [y] H Q) f) {Q : VK} (q : tE G (xTx (un f) a b) σ H Q) : tM1 r (tE G a) (tE G b) σ H Q := by
  obtain ⟨F, e, s, q⟩ := q
  refine ⟨F, e, s, Tr.All.mono (fun p q v H1 h1 f1 s1 r1 => ?_) (Tr.all_bind.mp q)⟩
  obtain ⟨z, hz, q⟩ := Tr.of_all (Tr.all_bind.mp q)
  rw [strV_eq hz] at r1
  have hv : v = .str z := r1
  refine ⟨⟨z, hv⟩, F, p.2, s1, Tr.All.mono (fun p2 q w H2 h2 f2 s2 r2 => ?_) (Tr.all_bind.mp q)⟩
  obtain ⟨d, hd, q⟩ := Tr.of_all (Tr.all_bind.mp q)
  obtain ⟨rv, g1, g2⟩ := Option.bind_eq_some_iff.mp hd
  have rr : RvRs (modeOf G F p2.2 σ H2) (rho G F) H2 [.d (.str z), rv] [v, w] := ⟨v, [w], rfl, hv, w, [], rfl, look_rep s2 r2 g1, rfl⟩
  obtain ⟨u', w', e', q'⟩ := bok hw _ (s2.mok o) rfl F _ d [v, w] H2 g2 s2.mj rr Q fun v' H3 l3 j3 r3 => by
    obtain ⟨s3, f3⟩ := s2.pure l3 j3
    exact q v' H3 (h2.trans h1) (f1.trans (h1 ▸ (f2.trans (h2 ▸ f3)))) s3 r3
  cases e'
  exact q'.2
instance {f : List Rv → Option Dt} [ha : PureE a] [hb : PureE b] : PureE (xTx f a b) := ⟨fun e => pure_bind (ha.same e) fun v => pure_of fun z => pure_bind (hb.same e) fun w => pure_of fun d => pure_ret⟩
theorem m_join (o : G.Ok) {apos : Pos} (ha : PE X x (tE G a)) (hb : PE X y (tE G b)) (hK : X.K = G.K := by rfl) (hs : starEach [y] X.env = [(false, eval y X.env)] := by rfl) (hbase : attributeBase x "join" X.env (eval x X.env) = eval x X.env := by rfl) (hline : (apos.endLine == pos.line) = true := by rfl) : PE X (.Call (.Attribute x "join" apos) [y] [] pos) (tE G (xTx (un fJoin) a b)) := PE.weak (L2.pe_join ha hb hs hbase hline) fun σ H Q q => by
  rw [hK]
  exact w_tx o wok_join q
theorem m_split (o : G.Ok) {apos : Pos} (ha : PE X x (tE G a)) (hb : PE X y (tE G b)) (hs : starEach [y] X.env = [(false, eval y X.env)] := by rfl) (hbase : attributeBase x "split" X.env (eval x X.env) = eval x X.env := by rfl) (hline : (apos.endLine == pos.line) = true := by rfl) : PE X (.Call (.Attribute x "split" apos) [y] [] pos) (tE G (xTx (un fSplit) a b)) := PE.weak (L2.pe_split ha hb hs hbase hline) fun σ H Q q => w_tx o wok_split q
theorem w_chain (o : G.Ok) {r r' : R2} {f g : List Dt → Option Dt} {c : XE} (hw : WOk G (R2L r) f) (hw' : WOk G (R2L r') g) {Q : VK} (q : tE G (xChain (un f) (un g) a b c) σ H Q) : tChain r r' (tE G a) (tE G b) (tE G c) σ H Q := by
  obtain ⟨F, e, s, q⟩ := q
  refine ⟨F, e, s, Tr.All.mono (fun p q v H1 h1 f1 s1 r1 => ?_) (Tr.all_bind.mp q)⟩
  refine ⟨F, p.2, s1, Tr.All.mono (fun p2 q w H2 h2 f2 s2 r2 => ?_) (Tr.all_bind.mp q)⟩
  obtain ⟨d, hd, q⟩ := Tr.of_all (Tr.all_bind.mp q)
  obtain ⟨k, hk, q⟩ := Tr.of_all (Tr.all_bind.mp q)
  obtain ⟨rs, g1, g2⟩ := Option.bind_eq_some_iff.mp hd
  have ed : d = .bl k := by
    have := blV_eq hk
    cases this
    rfl
  have o12 : own p2.2 σ = own e σ := h2.trans h1
  have f12 : Fw F (own e σ) H H2 := f1.trans (h1 ▸ f2)
  have rr : VlRs G F p2.2 σ H2 [p.1, p2.1] [v, w] := ⟨v, [w], rfl, r1.step h2 f2, w, [], rfl, r2, rfl⟩
  obtain ⟨u', w', e', q'⟩ := bok hw _ (s2.mok o) rfl F _ d [v, w] H2 g2 s2.mj (looks_rep s2 rr g1) (fun z H3 => ∃ k, z = .bl k ∧ (if k = true then tE G c σ H3 fun w' H4 => r' w w' H4 Q else Q (.bl false) H3)) fun z H3 l3 j3 r3 => by
    obtain ⟨s3, f3⟩ := s2.pure l3 j3
    subst ed
    refine ⟨k, r3, ?_⟩
    have f13 : Fw F (own e σ) H H3 := f12.trans (o12 ▸ f3)
    cases k with
    | false => exact q _ H3 o12 f13 s3 rfl
    | true =>
      show tE G c σ H3 _
      refine ⟨F, p2.2, s3, Tr.All.mono (fun p3 q y H4 h4 f4 s4 r4 => ?_) (Tr.all_bind.mp q)⟩
      obtain ⟨d', hd', q⟩ := Tr.of_all (Tr.all_bind.mp q)
      obtain ⟨rs', g3, g4⟩ := Option.bind_eq_some_iff.mp hd'
      have rw' : VlR G F p3.2 σ H4 p2.1 w := (r2.step rfl f3).step h4 f4
      have rr2 : VlRs G F p3.2 σ H4 [p2.1, p3.1] [w, y] := ⟨w, [y], rfl, rw', y, [], rfl, r4, rfl⟩
      obtain ⟨u2, w2, e2, q2⟩ := bok hw' _ (s4.mok o) rfl F _ d' [w, y] H4 g4 s4.mj (looks_rep s4 rr2 g3) Q fun v5 H5 l5 j5 r5 => by
        obtain ⟨s5, f5⟩ := s4.pure l5 j5
        exact q v5 H5 (h4.trans o12) (f13.trans (o12 ▸ (f4.trans (h4 ▸ f5)))) s5 r5
      cases e2
      exact q2
  cases e'
  exact q'
theorem m_chainT (o : G.Ok) {op op' : CmpOp} {r r' : R2} {f g : List Dt → Option Dt} {c : XE} {z : Expr} (ho : OpR X (compareOp op) r) (hw : WOk G (R2L r) f) (ho' : OpR X (compareOp op') r') (hw' : WOk G (R2L r') g) (ha : PE X x (tE G a)) (hb : PE X y (tE G b)) (hc : PE X z (tE G c)) (hm : lastMarks [op, op'] [y, z] = false := by with_unfolding_all rfl) : PT X (.Compare x [op, op'] [y, z] pos) (tT G (xTest (xChain (un f) (un g) a b c))) := PT.weak (pt_chain ho ho' ha hb hc hm) fun σ H Q q => w_chain o hw hw' (w_test q)
instance {f g : List Rv → Option Dt} {c : XE} [ha : PureE a] [hb : PureE b] [hc : PureE c] : PureE (xChain f g a b c) := ⟨fun e => pure_bind (ha.same e) fun v => pure_bind (hb.same e) fun w => pure_of fun d => pure_of fun k => by
  cases k with
  | false => exact pure_ret
  | true => exact pure_bind (hc.same e) fun y => pure_of fun d => pure_ret⟩
theorem m_append (o : G.Ok) {apos : Pos} (ha : PE X x (tE G a)) (hb : PE X y (tE G b)) (hK : X.K = G.K := by rfl) (hbase : attributeBase x "append" X.env (eval x X.env) = eval x X.env := by rfl)
    (hfew : ((backTo pos (starEach [y] X.env)).all (fun x => !x.1) && (backToKw pos (keywordEach [] X.env)).all (fun x => x.1.isSome) && decide ([y].length + ([] : List Keyword).length + (if ([] : List Keyword).isEmpty then 0 else 1) < 30)) = true := by rfl)
    (hline : (apos.endLine == pos.line) = true := by rfl) (hs : starEach [y] X.env = (false, eval y X.env) :: starEach [] X.env := by rfl) (hplain : (backTo pos (starEach [] X.env)).any (·.1) = false := by rfl) :
    PE X (.Call (.Attribute x "append" apos) [y] [] pos) (tE G (xMut cAppend a (xCons b xNil))) := PE.weak (pe_bm PySem.F.plainAttrs_list PySem.F.slot_list_append PySem.F.type_list_append mt_append ha (m_cons hb m_nil hs) hbase hfew hline hs hplain) fun σ H Q q => by
  rw [hK]
  exact w_mut o mok_append q
theorem m_extend (o : G.Ok) {apos : Pos} (ha : PE X x (tE G a)) (hb : PE X y (tE G b)) (hK : X.K = G.K := by rfl) (hbase : attributeBase x "extend" X.env (eval x X.env) = eval x X.env := by rfl)
    (hfew : ((backTo pos (starEach [y] X.env)).all (fun x => !x.1) && (backToKw pos (keywordEach [] X.env)).all (fun x => x.1.isSome) && decide ([y].length + ([] : List Keyword).length + (if ([] : List Keyword).isEmpty then 0 else 1) < 30)) = true := by rfl)
    (hline : (apos.endLine == pos.line) = true := by rfl) (hs : starEach [y] X.env = (false, eval y X.env) :: starEach [] X.env := by rfl) (hplain : (backTo pos (starEach [] X.env)).any (·.1) = false := by rfl) :
    PE X (.Call (.Attribute x "extend" apos) [y] [] pos) (tE G (xMut cExtend a (xCons b xNil))) := PE.weak (pe_bm PySem.F.plainAttrs_list PySem.F.slot_list_extend PySem.F.type_list_extend mt_extend ha (m_cons hb m_nil hs) hbase hfew hline hs hplain) fun σ H Q q => by
  rw [hK]
  exact w_mut o mok_extend q
def cPopAt : List Rv → List Dt → Option (Dt × List Dt) := fun rs ds => match rs with | [_] => cPop rs ds | _ => none
theorem m_popAt (o : G.Ok) {apos : Pos} (ha : PE X x (tE G a)) (hb : PE X y (tE G b)) (hK : X.K = G.K := by rfl) (hbase : attributeBase x "pop" X.env (eval x X.env) = eval x X.env := by rfl)
    (hfew : ((backTo pos (starEach [y] X.env)).all (fun x => !x.1) && (backToKw pos (keywordEach [] X.env)).all (fun x => x.1.isSome) && decide ([y].length + ([] : List Keyword).length + (if ([] : List Keyword).isEmpty then 0 else 1) < 30)) = true := by rfl)
    (hline : (apos.endLine == pos.line) = true := by rfl) (hs : starEach [y] X.env = (false, eval y X.env) :: starEach [] X.env := by rfl) (hplain : (backTo pos (starEach [] X.env)).any (·.1) = false := by rfl) :
    PE X (.Call (.Attribute x "pop" apos) [y] [] pos) (tE G (xMut cPopAt a (xCons b xNil))) := PE.weak (pe_bm PySem.F.plainAttrs_list PySem.F.slot_list_pop PySem.F.type_list_pop mt_popAt ha (m_cons hb m_nil hs) hbase hfew hline hs hplain) fun σ H Q q => by
  rw [hK]
  exact w_mut o mok_popAt q
theorem RpF.put {K : PySem.W.Frag} {Hc : Hp} {f : Str} {x : Dt} {u : V} (r : Rp K Hc (ren ρ x) u) : ∀ {fs : List (Str × Dt)} {gs : List (Str × V)}, RpF K Hc (renF ρ fs) gs → RpF K Hc (renF ρ (putA f x fs)) (putF f u gs)
  | [], _, h => by
    rw [show _ = [] from h]
    exact ⟨u, [], rfl, r, rfl⟩
  | (g, c) :: fs, _, ⟨v, t, h1, h2, h3⟩ => by
    subst h1
    show RpF K Hc (renF ρ (if g = f then (f, x) :: fs else (g, c) :: putA f x fs)) (if g = f then (g, u) :: t else (g, v) :: putF f u t)
    by_cases hg : g = f
    · rw [if_pos hg, if_pos hg]
      exact ⟨u, t, by rw [hg], r, h3⟩
    · rw [if_neg hg, if_neg hg]
      exact ⟨v, _, rfl, h2, RpF.put r h3⟩
theorem RpF.len {K : PySem.W.Frag} {Hc : Hp} : ∀ {fs : List (Str × Dt)} {gs : List (Str × V)}, RpF K Hc (renF ρ fs) gs → gs.length = fs.length
  | [], _, h => by rw [show _ = [] from h]; rfl
  | f :: fs, _, ⟨v, t, h1, h2, h3⟩ => by rw [h1, List.length_cons, List.length_cons, RpF.len h3]
theorem m_fld (o : G.Ok) {i : Nat} {k : Addr} {f : Str} {pos' : Pos} (hk : ACls G f k) (hx : PE X x (tVar i)) (hv : PE X y (tE G a)) (hK : X.K = G.K := by rfl) (hs : swapsWith y (some (.Attribute x f pos')) pos.line X.env = pure false := by rfl) :
    PS X (.Assign [.Attribute x f pos'] y pos) (tS G Wx (sFldK k i f a)) := PS.weak (ps_fld hx hv hs) fun D σ H q => by
  refine w_E q fun F B p v H1 s1 b1 r1 q1 => ?_
  obtain ⟨pv, pe⟩ := p
  obtain ⟨e1, h1, q2⟩ := Tr.of_all (Tr.all_bind.mp q1)
  obtain ⟨z, h2, h3⟩ := Option.bind_eq_some_iff.mp h1
  cases pv with
  | r j => cases h2
  | d c =>
    cases h2
    unfold fldToK at h3
    split at h3
    case h_2 => cases h3
    rename_i kk fs he
    split at h3
    case isFalse => cases h3
    rename_i hc
    cases h3
    obtain ⟨w, hw, a', dx, gs, e1', e2, e3⟩ := s1.slots.get he
    subst e1'
    have ek : rho G F kk = G.ca kk := by unfold rho; rw [if_neg (by rw [hc.1]; exact hk.ne)]
    refine ⟨.ref a', hw, a', _, dx, gs, rfl, e2, ?_, ?_, by rw [RpF.len e3]; omega, ?_⟩
    · rw [hK, ek, hc.1]; exact hk.cl
    · rw [hK, ek, hc.1]; exact hk.na
    · obtain ⟨s3, o3, f3⟩ := s1.chg o (t' := .ob kk (putA f z fs)) (u := .ins (rho G F kk) dx (putF f v gs)) he rfl rfl hw (Or.inr rfl) ⟨a', dx, putF f v gs, rfl, upd_same, RpF.put r1 e3⟩
      exact q2 σ _ s3 (b1.fw o3 f3)
end
end
end Mc
namespace Mc
open PySem PySem.Spec PyProof.Rows L2 Evl
section
variable {G : Gd} {Wx : WX} {F : Fr} {e e' : En} {σ σ' : L2.St} {H H' B : Hp} {X : Cx} {N : Mode} {ρ : Addr → Addr} {a b : XE} {x y : Expr} {pos : Pos}
theorem m_mkL (o : G.Ok) {n i : Nat} {c : Addr} {g : List Dt → Tr Dt} {des : List Dt} {dvs : List V} {as : XA} {E : XK} (hc : c ≠ 1) (h : PE X x (tMakeL i (G.ca c) (spI' G c n g) dvs E (tA G as))) (hd : ∀ (F : Fr) (Hc : Hp), RpA G.K Hc (rens (rho G F) des) dvs) : PE X x (tE G (xMkL i c (cF n g des) as)) := PE.weak h fun σ H Q q => by
  obtain ⟨F, e, s, q⟩ := q
  unfold xMkL at q
  split at q
  case isFalse => exact q.elim
  rename_i hp
  refine ⟨?_, w_make o hc hd ⟨F, e, s, q⟩⟩
  unfold isPtr at hp
  split at hp
  case h_2 => cases hp
  rename_i c' he
  have e1 : c' = c := beq_iff_eq.mp hp
  subst e1
  obtain ⟨y, hy, v, rfl, hv⟩ := s.slots.get he
  rw [hy, show v = .ref (rho G F c') from hv]
  unfold rho
  rw [if_neg hc]
instance {i : Nat} {c : Addr} {g : List Dt → Tr Dt} {as : XA} [hs : PureA as] : PureE (xMkL i c g as) := ⟨fun e => by
  unfold xMkL
  split
  · exact pure_bind (hs.same e) fun a => pure_of fun b => pure_tr fun c => pure_ret
  · exact pure_stuck⟩
instance {ms : List (Addr × (List Dt → Tr Dt))} {m : Str} {oo : XE} {as : XA} [ho : PureE oo] [hs : PureA as] : PureE (xM ms m oo as) := ⟨fun e => pure_bind (ho.same e) fun v => pure_of fun r => pure_bind (hs.same e) fun w => pure_of fun d => pure_tr fun c => pure_ret⟩
theorem fnr_of {P : Program} {w : World} {K : PySem.W.Frag} {mg : Str → Option Value} {base : Heap} {CX : CXT} {k : Nat} {f : Addr} {fd : FuncData} {ps : List Str} {sp : Sp} (F : FnOk P w K mg base CX k f fd ps sp) (hb : Binds K fd ps []) : FnR P w K mg base CX k f sp := fun A outer s H us vs Q E hr e0 r h => by
  have hl : us.length = ps.length := by rw [← r.length]; exact F.len vs H Q E h
  have K1 : K.In s.heap := e0.mod.kin.keeps fun b o e => (e0.bs b o e).1
  have := hb s us K1 (by rw [List.append_nil]; exact hl)
  rw [List.append_nil] at this
  exact F.run A outer s H ⟨us, []⟩ us vs Q E hr e0 this r h
theorem w_cm (o : G.Ok) {n : Nat} {c : Addr} {g : List Dt → Tr Dt} {as : XA} {E : XK} (hc : c ≠ 1) {Q : VK} (q : tE G (xF (cF n g []) (xCons (xC (.ptr c)) as)) σ H Q) : ClX.tCMeth (G.ca c) (spF G n g) E (tC (.ref (G.ca c))) (tA G as) σ H Q := by
  refine ⟨rfl, ?_⟩
  obtain ⟨F, e, s, q⟩ := q
  have q := Tr.all_bind.mp (Tr.all_bind.mp q)
  refine ⟨F, e, s, Tr.All.mono (fun p q vs H1 h1 f1 s1 r1 => ?_) (Tr.all_bind.mp q)⟩
  have q := Tr.all_bind.mp q
  obtain ⟨ds, hds, q⟩ := Tr.of_all q
  have q := Tr.all_bind.mp q
  unfold cF at q
  split at q
  case isFalse => exact q.elim
  rename_i hl
  have hcc : rho G F c = G.ca c := by unfold rho; rw [if_neg hc]
  have rr : VlRs G F p.2 σ H1 (.d (.ptr c) :: p.1) (.ref (G.ca c) :: vs) := ⟨_, _, rfl, by show V.ref (G.ca c) = .ref (rho G F c); rw [hcc], r1⟩
  refine ⟨F.call (own p.2 σ), ds ++ [], s1.callee, by rw [List.length_append]; exact hl, ?_, Tr.All.mono (fun d q v H2 f2 k2 r2 => ?_) q⟩
  · rw [call_V s1, rho_dl (F := F) (F' := F.call (own p.2 σ)) rfl, List.append_nil]
    exact dats_rep rr hds
  · obtain ⟨s2, f3⟩ := s1.called f2 k2
    rw [call_V s1, rho_dl (F := F) (F' := F.call (own p.2 σ)) rfl] at r2
    exact q v H2 h1 (f1.trans (h1 ▸ f3)) s2 r2
theorem m_cm (o : G.Ok) {n : Nat} {c : Addr} {g : List Dt → Tr Dt} {as : XA} {E : XK} {x : Expr} (hc : c ≠ 1) (h : PE X x (ClX.tCMeth (G.ca c) (spF G n g) E (tC (.ref (G.ca c))) (tA G as))) : PE X x (tE G (xF (cF n g []) (xCons (xC (.ptr c)) as))) := PE.weak h fun σ H Q q => w_cm o hc q
theorem pe_cmeth0 {C p g : Addr} {mc : Value} {k : Nat} {CX : CXT} {sp : Sp} {E : XK} {oo : Expr} {m : Str} {apos : Pos} {ta : TE} {pl : Sem Bool} (he : PE X oo ta) (r : ClX.CRead X.K C mc) (c : ClX.CMet X.K C mc m p g) (F : FnR X.prog X.w X.K X.mg X.base CX k g sp) (hr : Room k X.A) (hx : Passes CX X E)
    (ht : eval (.Call (.Attribute oo m apos) [] [] pos) X.env = (do
      let ov ← eval oo X.env
      standAt apos.atName
      let (f, first) ← holding [ov] (getMethod ov m pl)
      callWith pos f first (backTo pos (starEach [] X.env)) (backToKw pos (keywordEach [] X.env))) := by rfl) :
    PE X (.Call (.Attribute oo m apos) [] [] pos) (ClX.tCMeth C sp E ta tNil) := by
  refine ⟨fun pins s σ H Q I h => ?_⟩
  refine PySem.W.methodCall_KW (pl := pl) (thn (he.run pins s σ H _ I h) fun u s1 ⟨x, H1, I1, rx, ex, q⟩ => ?_) ht
  subst ex
  obtain rfl : u = Value.ref C := rx
  refine ClX.getmethcm_ok I1 r c fun s2 I2 => ?_
  exact PySem.W.callWith_M0 (K := X.K) ⟨ClX.pin_at I2, I2.kIn⟩ c.fi (ClX.run_cm (us := []) F hr hx I2 .nil q)
theorem m_cm0 (o : G.Ok) {n : Nat} {c : Addr} {g : List Dt → Tr Dt} {E : XK} {x : Expr} (hc : c ≠ 1) (h : PE X x (ClX.tCMeth (G.ca c) (spF G n g) E (tC (.ref (G.ca c))) tNil)) : PE X x (tE G (xF (cF n g []) (xCons (xC (.ptr c)) xNil))) := PE.weak h fun σ H Q q => by
  obtain ⟨e1, F, e, s, q⟩ := w_cm (E := E) o hc q
  exact ⟨e1, q [] H rfl Fw.refl s rfl⟩
theorem w_sc (o : G.Ok) {w : World} {it : XI} {g : XG} {tg : TG} {js vs : List Nat} {a : XE} [ha : PureE a] (gk : GOk G g tg js) (hjs : ∀ j ∈ js, j ∈ vs) {Q : VK} (q : tE G (xSortS it g a vs) σ H Q) : tScT w (tI G it) tg tYes (tE G a) vs σ H fun v H1 => rSortedT w [v] H1 Q := by
  obtain ⟨F, e, s, q⟩ := q
  refine ⟨F, e, s, Tr.All.mono (fun p q J H1 h1 f1 s1 T d hd => ?_) (Tr.all_bind.mp q)⟩
  obtain ⟨items, e1⟩ := p
  dsimp only at q
  split at q
  case isFalse => exact q.elim
  rename_i hcond
  obtain ⟨hl, hvs⟩ := hcond
  have hv : ∀ j ∈ vs, noOwn e1 j = true := fun j hj => List.all_eq_true.mp hvs j hj
  have q := Tr.all_bind.mp q
  have hlen : (rens (rho G F) items).length = items.length := rens_len _ _
  let F' : Fr := ⟨d :: F.Z, F.dl, F.sf, F.hd⟩
  have hdz : d ∈ F'.Z := List.mem_cons_self
  have dO : d ∉ own e1 σ := fun z => s1.slots.there d z hd
  have dU : d ∉ F.U e1 σ := fun z => s1.tr o d z hd
  refine ⟨fun i m H' => m = items.length - i ∧ i ≤ items.length ∧ ∃ acc, H' d = some (TSO w d (dd acc)) ∧ acc.length ≤ i ∧ Sim G F' e1 σ H' ∧ Fw F (d :: own e1 σ) H1 H' ∧ (scLoop g a (wipeN e1 vs) (items.drop i) acc).All _,
    ⟨_, rfl, Nat.zero_le _, [], upd_same, Nat.le_refl _, s1.addZ o hd, fun b u h1 h2 h => by rw [upd_ne (fun z => h2 (by simp [z]))]; exact h, q⟩, ?_⟩
  rintro i m H' ⟨rfl, hle, acc, hx, hacc, s', f', q'⟩
  have ex0 : Ex (cut (F.U e1 σ) H1) (cut (F'.U e1 σ) H') := fun b u h => by
    obtain ⟨g1, g2⟩ := cut_some h
    have ne : b ≠ d := fun z => by rw [z, hd] at g1; cases g1
    have g3 : b ∉ F.dS ++ own e1 σ := fun z => g2 (List.mem_append_right _ z)
    rw [cut_out]
    · exact f' b u (fun z => g3 (List.mem_append_left _ z)) (fun z => (List.mem_cons.mp z).elim ne fun z => g3 (List.mem_append_right _ z)) g1
    · intro z
      rcases List.mem_append.mp z with z | z
      · rcases List.mem_cons.mp z with z | z
        · exact ne z
        · exact g2 (List.mem_append_left _ z)
      · exact g3 z
  have ex1 : Ex (cut (F.U e1 σ) H1) H' := Ex.trans ex0 (cut_le _ _)
  by_cases hlt : i < items.length
  · refine Or.inr ⟨T.go i H' ex1 (by rw [hlen]; exact hlt), fun H2 => i + 1 ≤ items.length ∧ ∃ acc, H2 d = some (TSO w d (dd acc)) ∧ acc.length ≤ i + 1 ∧ Sim G F' e1 σ H2 ∧ Fw F (d :: own e1 σ) H1 H2 ∧ (scLoop g a (wipeN e1 vs) (items.drop (i + 1)) acc).All _, fun H2 h2 => ⟨items.length - (i + 1), by omega, rfl, h2⟩, fun y H2 yl => ?_⟩
    have hdr : items.drop i = items[i] :: items.drop (i + 1) := List.drop_eq_getElem_cons hlt
    rw [hdr] at q'
    obtain ⟨x2, rp⟩ := T.yld i H' y H2 _ ex1 yl (rens_get (List.getElem?_eq_getElem hlt))
    obtain ⟨s2, f2⟩ := s'.ext o x2
    have r2 := rp (cut (F'.U e1 σ) H2) (Ex.trans ex0 f2.ex) fun z u h0 h3 => by
      rw [cut_out (fun hz => s'.tr o z hz h0)]
      exact h3
    have ow := own_wipe s2.len hv
    have sw := s2.wipe vs
    have eU : F'.U (wipeN e1 vs) (L2.wipe σ vs) = F'.U e1 σ := by unfold Fr.U; rw [ow]
    obtain ⟨e2, he2, q2⟩ := Tr.of_all (Tr.all_bind.mp q')
    refine gk F' (wipeN e1 vs) (L2.wipe σ vs) H2 items[i] y e2 _ sw (by rw [eU]; exact r2) he2 fun σ2 s3 c2 d2 _ k2 _ => ⟨wipe_chg c2 hjs, ?_⟩
    have o2 : own e2 σ2 = own e1 σ := (k2 fun j hj => noOwn_wipe (hv j (hjs j hj))).trans ow
    have ag1 : ∀ m, m ∉ vs → e2[m]? = e1[m]? := fun m hm => (d2 m fun z => hm (hjs m z)).trans (wipeN_out hm)
    have ag2 : ∀ m, m ∉ vs → σ2[m]? = σ[m]? := fun m hm => (c2.2 m fun z => hm (hjs m z)).trans (wipe_out' hm)
    have dno : d ∉ own e2 σ2 := fun z => (s3.dis d z).1 hdz
    have ddS : d ∉ F.dS := fun z => s'.zd d z hdz
    show tE G a σ2 H2 _
    refine ⟨F', e2, s3, Tr.All.mono (fun p q4 z H4 h4 f4 s4 r4 => ?_) (ha.same e2 _ (Tr.all_bind.mp q2))⟩
    obtain ⟨v, e4⟩ := p
    obtain ⟨q5, ee4⟩ := q4
    have ee4' : e4 = e2 := ee4
    subst ee4'
    obtain ⟨c, hc, q6⟩ := Tr.of_all (Tr.all_bind.mp q5)
    have hv4 := strV_eq hc
    have hv4' : v = .d (.str c) := hv4
    subst hv4'
    have hz : z = .str c := r4
    rw [o2] at f4
    have back4 : Sim G F' e1 σ H4 := s2.back s4 o2 f4 hv ag1 ag2
    have hx4 : H4 d = some (TSO w d (dd acc)) := f4 d _ ddS (by rw [← o2]; exact dno) (x2 d _ hx)
    have hdl := (dd_facts acc).2.1
    refine ⟨c, dd acc, hz, hx4, by unfold scanBound; omega, hlt, acc ++ [c], ?_, by simp; omega, back4.writeZ o hdz, ?_, q6⟩
    · rw [upd_same, dd_snoc]
      rfl
    · intro b u g1 g2 g3
      have nb : b ≠ d := fun z => g2 (by simp [z])
      rw [upd_ne nb]
      exact f4 b u g1 (fun z => g2 (List.mem_cons_of_mem _ z)) (x2 b u (f' b u g1 g2 g3))
  · have ei : i = items.length := by omega
    subst ei
    rw [List.drop_length] at q'
    refine Or.inl ⟨by have := T.stop H' ex1; rw [hlen] at this; exact this, d, dd acc, rfl, hx, by have := (dd_facts acc).2.1; omega, fun ys p hp hso hn => ?_⟩
    have hDx := dd_facts acc
    have ey : ys = ascT acc := sorted_asc hso (hp.nodup_iff.mpr hDx.1) fun y => (hp.mem_iff).trans (hDx.2.2 y)
    have fE : Fw F (own e1 σ) H1 H' := fun b u g1 g2 g3 => f' b u g1 (fun z => (List.mem_cons.mp z).elim (fun z => by rw [z, hd] at g3; cases g3) g2) g3
    have mU : Ex (cut (F'.U e1 σ) H') (cut (F.U e1 σ) H') := cut_subL fun b hb => by
      rcases List.mem_append.mp hb with z | z
      · exact List.mem_append_left _ (List.mem_cons_of_mem _ z)
      · exact List.mem_append_right _ z
    have sE : Sim G F e1 σ H' := ⟨SlRs.step mU (fun _ _ => rfl) s'.slots, s'.nd, s1.dis, fun b hb => s'.zt b (List.mem_cons_of_mem _ hb), s1.zd, s'.deal, s1.slf⟩
    obtain ⟨ex, j4, r4⟩ := (sE.mok o).newL (ds := ys.map Dt.str) sE.mj hn (rpA_strs.mpr rfl)
    obtain ⟨s5, f5⟩ := sE.pure ((modeOf G F e1 σ H').le ex) j4
    refine q' _ _ h1 (f1.trans (h1 ▸ (fE.trans f5))) s5 ?_
    show Rp G.K _ (.lst (rens _ _)) _
    rw [rens_strs, ← ey]
    exact r4
theorem m_sortS (o : G.Ok) {it : XI} {g : XG} {tg : TG} {js : List Nat} {a : XE} [ha : PureE a] {elt tgt iter : Expr} {scope : Scope} {ow : List (Str × Nat)} {p pos2 : Pos} (gk : GOk G g tg js) (hjs : ∀ j ∈ js, j ∈ ow.map (·.2)) (hc : X.calm = true) (hN : X.N.Nodup) (hm : X.mg "sorted" = none) (hi : PI X tgt iter (tI G it)) (ok : BlkOk X.N X.env.scope scope ow)
    (hg : ∀ (s : Shared) (H : Hp) (C : Addr) (cl : List (Str × Addr)) (fp : List Addr), PG (X.blk s H scope (compEnvC scope cl C X.env) fp) tgt tg) (he : ∀ (s : Shared) (H : Hp) (C : Addr) (cl : List (Str × Addr)) (fp : List Addr), PE (X.blk s H scope (compEnvC scope cl C X.env) fp) elt (tE G a)) (hgl : Gl X "sorted" := by rfl) (hs : ∀ x, foldedSetIterable iter X.env x = pure x := by intro _; rfl)
    (hs2 : starEach [.SetComp elt [⟨tgt, iter, [], 0⟩] scope pos2] X.env = (false, eval (.SetComp elt [⟨tgt, iter, [], 0⟩] scope pos2) X.env) :: starEach [] X.env := by rfl) (h3 : (backTo pos (starEach [] X.env)).any (·.1) = false := by rfl) :
    PE X (.Call (.Name "sorted" p) [.SetComp elt [⟨tgt, iter, [], 0⟩] scope pos2] [] pos) (tE G (xSortS it g a (ow.map (·.2)))) :=
  PE.weak (pe_callB (cr_sortedT hc) hgl hm (by decide +kernel) (pa_cons (pe_scT hc hN hi ok hg (fun _ _ _ _ _ => pts_nil) he hs) pa_nil hs2) (by decide) (by decide) hs2 h3) fun σ H Q q => w_sc o gk hjs q
instance {it : XI} {g : XG} {a : XE} {vs : List Nat} [hi : PureI it] : PureE (xSortS it g a vs) := ⟨fun e => pure_bind (hi.same e) fun c => by
  dsimp only
  split
  · exact pure_tr fun d => pure_ret
  · exact pure_stuck⟩
end
end Mc
namespace Mc
open PySem PySem.Spec PyProof.Rows L2 Evl
section
variable {G : Gd} {Wx : WX} {F : Fr} {e e' : En} {σ σ' : L2.St} {H H' B : Hp} {X : Cx} {D : Ends}
def PostL (G : Gd) (F : Fr) (e : En) (σ : L2.St) (H : Hp) (Q : VK) (p : List Dt × En) : Prop := ∀ q xs H0, own p.2 σ = own e σ → Fw F (own e σ) H H0 → Sim G F p.2 σ H0 → H0 q = none → RpA G.K (cut (F.U p.2 σ) H0) (rens (rho G F) p.1) xs → Q (.ref q) (upd H0 q (.lst xs))
def tL (G : Gd) (x : XL) : TE := fun σ H Q => ∃ F e, Sim G F e σ H ∧ (x e).All (PostL G F e σ H Q)
theorem l_disp {as : XA} {es : List Expr} {pos : Pos} (h : PA X es (tA G as)) : PE X (.List es pos) (tL G (lDisp as)) := PE.weak (pe_lst h) fun σ H Q q => by
  obtain ⟨F, e, s, q⟩ := q
  refine ⟨F, e, s, Tr.All.mono (fun p q vs H1 h1 f1 s1 r1 => ?_) (Tr.all_bind.mp q)⟩
  obtain ⟨ds, hd, q⟩ := Tr.of_all (Tr.all_bind.mp q)
  have r := dats_rep r1 hd
  split at q
  · rename_i hl
    exact ⟨sz_of (by rw [r.length, rens_len]; exact hl), fun a ha => q a vs H1 h1 f1 s1 ha r⟩
  · exact q.elim
theorem l_list {a : XE} {x : Expr} {p pos : Pos} (h : PE X x (tE G a)) (hm : X.mg "list" = none) (hK : X.K = G.K := by rfl) (hg : Gl X "list" := by rfl) (hs : starEach [x] X.env = (false, eval x X.env) :: starEach [] X.env := by rfl) (h2 : (backTo pos (starEach [] X.env)).any (·.1) = false := by rfl) : PE X (.Call (.Name "list" p) [x] [] pos) (tL G (lList a)) := PE.weak (pe_callTy call_list_of hg hm (by decide +kernel) (pa_cons h pa_nil hs) (by decide) (by decide) hs h2) fun σ H Q q => by
  obtain ⟨F, e, s, q⟩ := q
  refine ⟨F, e, s, Tr.All.mono (fun p q v H1 h1 f1 s1 r1 => ?_) (Tr.all_bind.mp q)⟩
  obtain ⟨ds, hd, q⟩ := Tr.of_all (Tr.all_bind.mp q)
  obtain ⟨rv, g1, g2⟩ := Option.bind_eq_some_iff.mp hd
  obtain ⟨a', xs, rfl, hsq, hra⟩ := seqR_rep g2 (look_rep s1 r1 g1)
  exact ⟨a', xs, rfl, by rw [hK]; exact hsq.symm, fun l hl => q l xs H1 h1 f1 s1 hl hra⟩
theorem Sim.adopt {Z : List Addr} {dl : Option (Addr × Addr)} {sf : Option Addr} {hF : dl ≠ none} {c : Addr} (s : Sim G ⟨c :: Z, dl, sf, hF⟩ e σ H) {i : Nat} {ds : List Dt} {xs : List V} (hc : H c = some (.lst xs)) (hn : c ∉ Z) (r : RpA G.K (cut (Fr.U ⟨c :: Z, dl, sf, hF⟩ e σ) H) (rens (rho G ⟨c :: Z, dl, sf, hF⟩) ds) xs) : Sim G ⟨Z, dl, sf, hF⟩ (e.set i (some (.own ds))) (σ.set i (some (.ref c))) H := by
  have co : c ∉ own e σ := fun z => (s.dis c z).1 List.mem_cons_self
  have cd : c ∉ (⟨Z, dl, sf, hF⟩ : Fr).dS := fun z => s.zd c z List.mem_cons_self
  have sub : ∀ b ∈ Fr.U ⟨Z, dl, sf, hF⟩ (e.set i (some (.own ds))) (σ.set i (some (.ref c))), b ∈ Fr.U ⟨c :: Z, dl, sf, hF⟩ e σ := fun b hb => by
    rcases List.mem_append.mp hb with z | z
    · exact List.mem_append_left _ (List.mem_cons_of_mem _ z)
    · rcases List.mem_append.mp z with z | z
      · exact List.mem_append_right _ (List.mem_append_left _ z)
      · rcases own_set_in z with z | z
        · rw [z]; exact List.mem_append_left _ List.mem_cons_self
        · exact List.mem_append_right _ (List.mem_append_right _ z)
  have ex := cut_subL (H := H) sub
  refine ⟨slRs_iff.mpr ⟨by simp [s.len], fun j t u h h' => ?_⟩, own_set_nd s.nd co, fun b hb => ?_, fun b hb => s.zt b (List.mem_cons_of_mem _ hb), fun b hb z => s.zd b hb (List.mem_cons_of_mem _ z), s.deal, fun j k fs h => ?_⟩
  · by_cases hj : j = i
    · subst hj
      rw [List.getElem?_set] at h h'
      simp only [if_true] at h h'
      split at h
      · split at h'
        · cases h
          cases h'
          exact ⟨c, xs, rfl, hc, r.mono ex⟩
        · cases h'
      · cases h
    · rw [List.getElem?_set_ne (Ne.symm hj)] at h h'
      exact ((slRs_iff.mp s.slots).2 j t u h h').mono ex
  · rcases own_set_in hb with z | z
    · rw [z]; exact ⟨hn, cd⟩
    · exact ⟨fun y => (s.dis b z).1 (List.mem_cons_of_mem _ y), (s.dis b z).2⟩
  · by_cases hj : i = j
    · subst hj
      by_cases hl : i < e.length
      · rw [List.getElem?_set_self hl] at h; cases h
      · rw [List.getElem?_eq_none (by simpa using hl)] at h; cases h
    · rw [List.getElem?_set_ne hj] at h ⊢
      exact s.slf j k fs h
theorem Bs.adopt (b : Bs F B e σ H) {i : Nat} {t : Option Sl} {c : Addr} (hc : B c = none) : Bs F B (e.set i t) (σ.set i (some (.ref c))) H := ⟨b.st, fun x hx => by
  rcases own_set_in hx with z | z
  · rw [z]; exact hc
  · exact b.nw x z⟩
theorem Bs.none (b : Bs F B e σ H) (s : Sim G F e σ H) (o : G.Ok) {c : Addr} (hc : H c = none) : B c = none := by
  cases q : B c with
  | none => rfl
  | some w =>
    have := b.st c w (fun z => s.dS o c z hc) q
    rw [hc] at this
    cases this
section
variable {i j : Nat} {x y : Str} {a b : Expr} {px py pt pos : Pos} {kt k2 pt2}
theorem m_parFF (o : G.Ok) {xa xb : XL} (hc : X.calm = true) (hN : X.N.Nodup) (hi : X.N[i]? = some x) (hj : X.N[j]? = some y) (hij : i ≠ j) (hx : X.env.scope.names.lookup x = some .local) (hy : X.env.scope.names.lookup y = some .local) (ha : PE X a (tL G xa)) (hb : PE X b (tL G xb))
    (hw : swappedStores [.Tuple [.Name x px, .Name y py] kt pt] (.Tuple [a, b] k2 pt2) X.env = pure (some [x, y])) (hs : swapsWithSole [.Tuple [.Name x px, .Name y py] kt pt] (.Tuple [a, b] k2 pt2) pos.line X.env = pure false := by rfl)
    (h1 : starEach [a, b] X.env = (false, eval a X.env) :: starEach [b] X.env := by rfl) (h2 : starEach [b] X.env = (false, eval b X.env) :: starEach [] X.env := by rfl) :
    PS X (.Assign [.Tuple [.Name x px, .Name y py] kt pt] (.Tuple [a, b] k2 pt2) pos) (tS G Wx (sParFF i j xa xb)) := PS.weak (ps_par hc hN hi hj hij hx hy (pa_cons ha (pa_cons hb pa_nil h2) h1) hw hs) fun D σ H q => by
  obtain ⟨F, B, e, s, b, q⟩ := q
  obtain ⟨Z, dl, sf, hF⟩ := F
  refine ⟨⟨Z, dl, sf, hF⟩, e, s, Tr.All.mono (fun p q c xs H0 h1 f1 s1 hc r1 => ?_) (Tr.all_bind.mp q)⟩
  have s1' := s1.addZ (u := .lst xs) o hc
  have b1 := b.fw h1 f1
  have Bc := b1.none s1 o hc
  have ex1 : Ex H0 (upd H0 c (.lst xs)) := Ex.new hc
  refine ⟨⟨c :: Z, dl, sf, hF⟩, p.2, s1', Tr.All.mono (fun p2 q c2 ys H1 h2 f2 s2 hc2 r2 => ?_) (Tr.all_bind.mp q)⟩
  have cdS : c ∉ (⟨Z, dl, sf, hF⟩ : Fr).dS := fun z => s1.dS o c z hc
  have co : c ∉ own p.2 σ := fun z => s1.slots.there c z hc
  have hc1 : H1 c = some (.lst xs) := f2 c _ cdS co upd_same
  have cz : c ∉ Z := fun z => s1.zt c z hc
  have ne : c2 ≠ c := fun z => by rw [z, hc1] at hc2; cases hc2
  have rx : RpA G.K (cut (Fr.U ⟨c :: Z, dl, sf, hF⟩ p2.2 σ) H1) (rens (rho G ⟨c :: Z, dl, sf, hF⟩) p.1) xs := by
    rw [U_eq h2]
    refine RpA.mono f2.ex ?_
    have e1 : Ex (cut (Fr.U ⟨Z, dl, sf, hF⟩ p.2 σ) H0) (cut (Fr.U ⟨c :: Z, dl, sf, hF⟩ p.2 σ) (upd H0 c (.lst xs))) := fun b w h => by
      obtain ⟨g1, g2⟩ := cut_some h
      have nb : b ≠ c := fun z => by rw [z, hc] at g1; cases g1
      rw [cut_out, upd_ne nb]
      · exact g1
      · intro z
        rcases List.mem_append.mp z with z | z
        · rcases List.mem_cons.mp z with z | z
          · exact nb z
          · exact g2 (List.mem_append_left _ z)
        · exact g2 (List.mem_append_right _ z)
    exact r1.mono e1
  have sA := Sim.adopt (i := i) s2 hc1 cz rx
  refine ⟨.ref c, .ref c2, rfl, ?_⟩
  have bA : Bs ⟨Z, dl, sf, hF⟩ B (p2.2.set i (some (.own p.1))) (σ.set i (some (.ref c))) H1 := by
    have b2 : Bs ⟨Z, dl, sf, hF⟩ B p2.2 σ H1 := by
      refine ⟨fun z w g1 g2 => ?_, fun z hz => b1.nw z (h2 ▸ hz)⟩
      have g3 := b1.st z w g1 g2
      exact f2 z w g1 (fun y => by rw [b1.nw z y] at g2; cases g2) (ex1 z w g3)
    exact b2.adopt Bc
  have r2' : RpA G.K (cut (Fr.U ⟨Z, dl, sf, hF⟩ (p2.2.set i (some (.own p.1))) (σ.set i (some (.ref c)))) H1) (rens (rho G ⟨Z, dl, sf, hF⟩) p2.1) ys := by
    refine RpA.mono (cut_subL fun b hb => ?_) r2
    rcases List.mem_append.mp hb with z | z
    · exact List.mem_append_left _ (List.mem_cons_of_mem _ z)
    · rcases List.mem_append.mp z with z | z
      · exact List.mem_append_right _ (List.mem_append_left _ z)
      · rcases own_set_in z with z | z
        · rw [z]; exact List.mem_append_left _ List.mem_cons_self
        · exact List.mem_append_right _ (List.mem_append_right _ z)
  exact q _ _ (sA.new o hc2 r2') (bA.new sA o hc2)
end
theorem m_setLc (o : G.Ok) {i : Nat} {yn : Str} {py : Pos} {it : XI} {g : XG} {tg : TG} {js : List Nat} {t : XT} {a : XE} [ht : PureT t] [ha : PureE a] {elt tgt iter : Expr} {ifs : List Expr} {scope : Scope} {ow : List (Str × Nat)} {pos spos : Pos} (gk : GOk G g tg js) (hjs : ∀ j ∈ js, j ∈ ow.map (·.2)) (hc : X.calm = true) (hN : X.N.Nodup) (hy : X.N[i]? = some yn) (hyl : X.env.scope.names.lookup yn = some .local)
    (hsw : swapsWith (.ListComp elt [⟨tgt, iter, ifs, 0⟩] scope pos) (some (.Name yn py)) spos.line X.env = pure true) (hi : PI X tgt iter (tI G it)) (ok : BlkOk X.N X.env.scope scope ow)
    (hg : ∀ (s : Shared) (H : Hp) (C : Addr) (cl : List (Str × Addr)) (fp : List Addr), PG (X.blk s H scope (compEnvC scope cl C X.env) fp) tgt tg) (hts : ∀ (s : Shared) (H : Hp) (C : Addr) (cl : List (Str × Addr)) (fp : List Addr), PTs (X.blk s H scope (compEnvC scope cl C X.env) fp) ifs (tT G t))
    (he : ∀ (s : Shared) (H : Hp) (C : Addr) (cl : List (Str × Addr)) (fp : List Addr), PE (X.blk s H scope (compEnvC scope cl C X.env) fp) elt (tE G a)) (hs : ∀ x, foldedSetIterable iter X.env x = pure x := by intro _; rfl) :
    PS X (.Assign [.Name yn py] (.ListComp elt [⟨tgt, iter, ifs, 0⟩] scope pos) spos) (tS G Wx (sAsg (xLc it g t a (ow.map (·.2))) (gN i))) := PS.weak (ps_setLc hc hN hy hyl hsw hi ok hg hts he hs) fun D σ H q => by
  have w := w_asg (tg := gName i) g_name q
  exact w_lc o gk hjs w
theorem m_yes : PTs X [] (tT G yes) := ⟨fun pins s σ H Q I q => pts_nil.run pins s σ H Q I (by
  obtain ⟨F, e, s, q⟩ := q
  exact q H rfl Fw.refl s)⟩
def LenGs (gs : XGs) (n : Nat) : Prop := ∀ xs e e1, gs xs e = some e1 → xs.length = n
theorem lg_nil : LenGs gs0 0 := fun xs e e1 h => by
  cases xs with
  | nil => rfl
  | cons x r => cases h
theorem lg_cons {g : XG} {gs : XGs} {n : Nat} (h : LenGs gs n) : LenGs (gsC g gs) (n + 1) := fun xs e e1 q => by
  cases xs with
  | nil => cases q
  | cons x r =>
    obtain ⟨e2, q1, q2⟩ := Option.bind_eq_some_iff.mp q
    rw [List.length_cons, h r e2 e1 q2]
theorem len_gs {gs : XGs} {n : Nat} (h : LenGs gs n) : ∀ xs e e1, gs xs e = some e1 → xs.length = n := h
end
end Mc
namespace Mc
open PySem PySem.Spec PyProof.Rows L2 Evl
def lc2Loop (g : XG) (t : XT) (it1 : XI) (g1 : XG) (t1 : XT) (a : XE) (vs1 : List Nat) (e : En) : List Dt → List Dt → Tr (List Dt)
  | [], acc => .ret acc
  | x :: xs, acc => (Tr.of (g x e)).bind fun e1 => (t e1).bind fun p => match p.1 with
    | false => lc2Loop g t it1 g1 t1 a vs1 e xs acc
    | true => (it1 p.2).bind fun q => if acc.length + q.1.length ≤ 90000 ∧ vs1.all (noOwn q.2) = true then (lcLoop g1 t1 a (wipeN q.2 vs1) q.1 acc).bind fun acc' => if acc'.length ≤ 90000 then lc2Loop g t it1 g1 t1 a vs1 e xs acc' else .stuck else .stuck
def xLc2 (it : XI) (g : XG) (t : XT) (it1 : XI) (g1 : XG) (t1 : XT) (a : XE) (vs vs1 : List Nat) : XE := fun e => (it e).bind fun p => if vs.all (noOwn p.2) = true then (lc2Loop g t it1 g1 t1 a vs1 (wipeN p.2 vs) p.1 []).bind fun ys => .ret (.d (.lst ys), p.2) else .stuck
section
variable {G : Gd} {Wx : WX} {F : Fr} {e e' : En} {σ σ' : L2.St} {H H' B : Hp} {X : Cx} {D : Ends}
theorem Sim.backX {vs : List Nat} {e2 : En} {σ2 : L2.St} (s : Sim G F e σ H) (s2 : Sim G F e2 σ2 H') (ho : own e2 σ2 = own e σ) (ex : Ex (cut (F.U e σ) H) (cut (F.U e σ) H')) (hv : ∀ j ∈ vs, noOwn e j = true) (he : ∀ k, k ∉ vs → e2[k]? = e[k]?) (hσ : ∀ k, k ∉ vs → σ2[k]? = σ[k]?) : Sim G F e σ H' := by
  have eU : F.U e2 σ2 = F.U e σ := by unfold Fr.U; rw [ho]
  refine ⟨slRs_iff.mpr ⟨s.len, fun i t u h h' => ?_⟩, s.nd, s.dis, s2.zt, s2.zd, s2.deal, s.slf⟩
  by_cases hp : plainS t = true
  · match t, hp with
    | none, _ => trivial
    | some (.d y), _ =>
      obtain ⟨v, e1, r⟩ := (slRs_iff.mp s.slots).2 i _ u h h'
      exact ⟨v, e1, r.mono ex⟩
  · have hi : i ∉ vs := fun z => by
      have := hv i z
      unfold noOwn at this
      rw [h] at this
      match t, hp with
      | none, hp => exact hp rfl
      | some (.d y), hp => exact hp rfl
      | some (.own y), _ => cases this
      | some (.ob y z), _ => cases this
      | some (.dk y), _ => cases this
    have q := (slRs_iff.mp s2.slots).2 i t u (by rw [he i hi]; exact h) (by rw [hσ i hi]; exact h')
    rw [eU] at q
    exact q
theorem Fw.exD {d : Addr} (f : Fw F (d :: own e σ) H H') (hd : d ∈ F.Z) : Ex (cut (F.U e σ) H) (cut (F.U e σ) H') := fun b u h => by
  obtain ⟨g1, g2⟩ := cut_some h
  have g3 : b ∉ F.dS ++ own e σ := fun z => g2 (List.mem_append_right _ z)
  rw [cut_out g2]
  exact f b u (fun z => g3 (List.mem_append_left _ z)) (fun z => (List.mem_cons.mp z).elim (fun z => g2 (z ▸ List.mem_append_left _ hd)) fun z => g3 (List.mem_append_right _ z)) g1
theorem Fw.cons {A : List Addr} {d : Addr} (f : Fw F A H H') : Fw F (d :: A) H H' := fun z w h1 h2 h => f z w h1 (fun y => h2 (List.mem_cons_of_mem _ y)) h
theorem lc2_turn (o : G.Ok) {g g1 : XG} {tg tg1 : TG} {js js1 vs vs1 : List Nat} {t t1 : XT} {it1 : XI} {a : XE} [ht : PureT t] [hi1 : PureI it1] [ht1 : PureT t1] [ha : PureE a] (gk : GOk G g tg js) (hjs : ∀ j ∈ js, j ∈ vs) (gk1 : GOk G g1 tg1 js1) (hjs1 : ∀ j ∈ js1, j ∈ vs1) (hvs1 : ∀ j ∈ vs1, j ∈ vs) {d : Addr} {x : Dt} {y : V} {rest acc : List Dt} {P : List Dt → Prop} {Nx : Hp → Prop}
    (s : Sim G F e σ H) (hd : d ∈ F.Z) (hv : ∀ j ∈ vs, noOwn e j = true) (r : Rp G.K (cut (F.U e σ) H) (ren (rho G F) x) y) {xs : List V} (hx : H d = some (.lst xs)) (rx : RpA G.K (cut (F.U e σ) H) (rens (rho G F) acc) xs) (ha0 : acc.length ≤ 90000)
    (q : (lc2Loop g t it1 g1 t1 a vs1 (wipeN e vs) (x :: rest) acc).All P)
    (k : ∀ H', Sim G F e σ H' → Fw F (d :: own e σ) H H' → ∀ acc' xs', H' d = some (.lst xs') → RpA G.K (cut (F.U e σ) H') (rens (rho G F) acc') xs' → acc'.length ≤ 90000 → (lc2Loop g t it1 g1 t1 a vs1 (wipeN e vs) rest acc').All P → Nx H') :
    tg y (L2.wipe σ vs) H fun σ2 H2 => L2.wipe σ2 vs = L2.wipe σ vs ∧ tT G t σ2 H2 fun b H3 => if b = true then tI G it1 σ2 H3 fun J1 H4 => ∃ W1 : Nat → Nat → Hp → Prop, (∃ m, W1 0 m H4) ∧ ∀ j k H, W1 j k H →
      (J1.stop j H ∧ Nx H) ∨ (J1.go j H ∧ ∃ Nx1 : Hp → Prop, (∀ H', Nx1 H' → ∃ k', k' < k ∧ W1 (j + 1) k' H') ∧ ∀ x H', J1.yld j H x H' → tg1 x (L2.wipe σ2 vs1) H' fun σ3 H5 => L2.wipe σ3 vs1 = L2.wipe σ2 vs1 ∧ tT G t1 σ3 H5 fun b H6 =>
        if b = true then tE G a σ3 H6 fun y H7 => ∃ acc, H7 d = some (.lst acc) ∧ acc.length < sizeLine ∧ Nx1 (upd H7 d (.lst (acc ++ [y]))) else Nx1 H6) else Nx H3 := by
  have ow := own_wipe s.len hv
  have sw := s.wipe vs
  have eU : F.U (wipeN e vs) (L2.wipe σ vs) = F.U e σ := by unfold Fr.U; rw [ow]
  obtain ⟨e2, he2, q2⟩ := Tr.of_all (Tr.all_bind.mp q)
  refine gk F (wipeN e vs) (L2.wipe σ vs) H x y e2 _ sw (by rw [eU]; exact r) he2 fun σ2 s2 c2 d2 _ k2 no2 => ⟨wipe_chg c2 hjs, ?_⟩
  have o2 : own e2 σ2 = own e σ := (k2 fun j hj => noOwn_wipe (hv j (hjs j hj))).trans ow
  have ag1 : ∀ m, m ∉ vs → e2[m]? = e[m]? := fun m hm => (d2 m fun z => hm (hjs m z)).trans (wipeN_out hm)
  have ag2 : ∀ m, m ∉ vs → σ2[m]? = σ[m]? := fun m hm => (c2.2 m fun z => hm (hjs m z)).trans (wipe_out' hm)
  have dno : d ∉ own e2 σ2 := fun z => (s2.dis d z).1 hd
  have ddS : d ∉ F.dS := fun z => s.zd d z hd
  have eU2 : F.U e2 σ2 = F.U e σ := by unfold Fr.U; rw [o2]
  refine ⟨F, e2, s2, Tr.All.mono (fun p q H3 h3 f3 s3 => ?_) (ht.same e2 _ (Tr.all_bind.mp q2))⟩
  obtain ⟨b, e3⟩ := p
  obtain ⟨q, ee⟩ := q
  have ee' : e3 = e2 := ee
  subst ee'
  have hx3 : H3 d = some (.lst xs) := f3 d _ ddS dno hx
  rw [o2] at f3
  cases b with
  | false => exact k H3 (s.back s3 o2 f3 hv ag1 ag2) f3.cons acc xs hx3 (rx.mono f3.ex) ha0 q
  | true =>
    show tI G it1 σ2 H3 _
    refine ⟨F, e3, s3, Tr.All.mono (fun p q7 J1 H4 h4 f4 s4 T1 => ?_) (hi1.same e3 _ (Tr.all_bind.mp q))⟩
    obtain ⟨items, e4⟩ := p
    obtain ⟨q8, ee4⟩ := q7
    have ee4' : e4 = e3 := ee4
    subst ee4'
    dsimp only at q8
    split at q8
    case isFalse => exact q8.elim
    rename_i hcond
    obtain ⟨hl, hvs⟩ := hcond
    have hv1 : ∀ j ∈ vs1, noOwn e4 j = true := fun j hj => List.all_eq_true.mp hvs j hj
    have q9 := Tr.all_bind.mp q8
    have hlen : (rens (rho G F) items).length = items.length := rens_len _ _
    have hx4 : H4 d = some (.lst xs) := f4 d _ ddS dno hx3
    have f14 : Fw F (own e σ) H H4 := f3.trans (o2 ▸ f4)
    have rx4 : RpA G.K (cut (F.U e4 σ2) H4) (rens (rho G F) acc) xs := by rw [eU2]; exact rx.mono f14.ex
    refine ⟨fun j m H' => m = items.length - j ∧ j ≤ items.length ∧ ∃ acc' xs', H' d = some (.lst xs') ∧ RpA G.K (cut (F.U e4 σ2) H') (rens (rho G F) acc') xs' ∧ acc'.length ≤ acc.length + j ∧ Sim G F e4 σ2 H' ∧ Fw F (d :: own e4 σ2) H4 H' ∧ (lcLoop g1 t1 a (wipeN e4 vs1) (items.drop j) acc').All _,
      ⟨_, rfl, Nat.zero_le _, acc, xs, hx4, rx4, Nat.le_refl _, s4, Fw.refl, q9⟩, ?_⟩
    rintro j m H' ⟨rfl, hle, acc', xs', hx', rx', hacc, s', f', q'⟩
    have ex0 : Ex (cut (F.U e4 σ2) H4) (cut (F.U e4 σ2) H') := f'.exD hd
    have ex1 : Ex (cut (F.U e4 σ2) H4) H' := Ex.trans ex0 (cut_le _ _)
    by_cases hlt : j < items.length
    · refine Or.inr ⟨T1.go j H' ex1 (by rw [hlen]; exact hlt), fun H2 => j + 1 ≤ items.length ∧ ∃ acc' xs', H2 d = some (.lst xs') ∧ RpA G.K (cut (F.U e4 σ2) H2) (rens (rho G F) acc') xs' ∧ acc'.length ≤ acc.length + (j + 1) ∧ Sim G F e4 σ2 H2 ∧ Fw F (d :: own e4 σ2) H4 H2 ∧ (lcLoop g1 t1 a (wipeN e4 vs1) (items.drop (j + 1)) acc').All _, fun H2 h2 => ⟨items.length - (j + 1), by omega, rfl, h2⟩, fun y H2 yl => ?_⟩
      have hdr : items.drop j = items[j] :: items.drop (j + 1) := List.drop_eq_getElem_cons hlt
      rw [hdr] at q'
      obtain ⟨x2, rp⟩ := T1.yld j H' y H2 _ ex1 yl (rens_get (List.getElem?_eq_getElem hlt))
      obtain ⟨s5, f5⟩ := s'.ext o x2
      have r2 := rp (cut (F.U e4 σ2) H2) (Ex.trans ex0 f5.ex) fun z w h0 h3 => by
        rw [cut_out (fun hz => s'.tr o z hz h0)]
        exact h3
      refine lc_turn o gk1 hjs1 s5 hd hv1 r2 (x2 d _ hx') (rx'.mono f5.ex) (by omega) q' fun H3 s6 f6 acc'' xs'' h6 r6 l6 q6 => ⟨hlt, acc'', xs'', h6, r6, by omega, s6, ?_, q6⟩
      intro b u g1 g2 g3
      exact f6 b u g1 g2 (x2 b u (f' b u g1 g2 g3))
    · have ei : j = items.length := by omega
      subst ei
      rw [List.drop_length] at q'
      refine Or.inl ⟨by have := T1.stop H' ex1; rw [hlen] at this; exact this, ?_⟩
      have f'' : Fw F (d :: own e σ) H H' := f14.cons.trans (o2 ▸ f')
      have q'' : (if acc'.length ≤ 90000 then lc2Loop g t it1 g1 t1 a vs1 (wipeN e vs) rest acc' else .stuck).All P := q'
      split at q''
      case isFalse => exact q''.elim
      rename_i h5
      exact k H' (s.backX s' o2 (f''.exD hd) hv ag1 ag2) f'' acc' xs' hx' (by rw [← eU2]; exact rx') h5 q''
theorem w_lc2 (o : G.Ok) {it it1 : XI} {g g1 : XG} {tg tg1 : TG} {js js1 vs vs1 : List Nat} {t t1 : XT} {a : XE} [ht : PureT t] [hi1 : PureI it1] [ht1 : PureT t1] [ha : PureE a] (gk : GOk G g tg js) (hjs : ∀ j ∈ js, j ∈ vs) (gk1 : GOk G g1 tg1 js1) (hjs1 : ∀ j ∈ js1, j ∈ vs1) (hvs1 : ∀ j ∈ vs1, j ∈ vs) {Q : VK} (q : tE G (xLc2 it g t it1 g1 t1 a vs vs1) σ H Q) : tLc2 (tI G it) tg (tT G t) (tI G it1) tg1 (tT G t1) (tE G a) vs vs1 σ H Q := by
  obtain ⟨F, e, s, q⟩ := q
  refine ⟨F, e, s, Tr.All.mono (fun p q J H1 h1 f1 s1 T d hd => ?_) (Tr.all_bind.mp q)⟩
  obtain ⟨items, e1⟩ := p
  dsimp only at q
  split at q
  case isFalse => exact q.elim
  rename_i hvs
  have hv : ∀ j ∈ vs, noOwn e1 j = true := fun j hj => List.all_eq_true.mp hvs j hj
  have q := Tr.all_bind.mp q
  have hlen : (rens (rho G F) items).length = items.length := rens_len _ _
  let F' : Fr := ⟨d :: F.Z, F.dl, F.sf, F.hd⟩
  have hdz : d ∈ F'.Z := List.mem_cons_self
  have dO : d ∉ own e1 σ := fun z => s1.slots.there d z hd
  have dU : d ∉ F.U e1 σ := fun z => s1.tr o d z hd
  refine ⟨fun i m H' => m = items.length - i ∧ i ≤ items.length ∧ ∃ acc xs, H' d = some (.lst xs) ∧ RpA G.K (cut (F'.U e1 σ) H') (rens (rho G F) acc) xs ∧ acc.length ≤ 90000 ∧ Sim G F' e1 σ H' ∧ Fw F (d :: own e1 σ) H1 H' ∧ (lc2Loop g t it1 g1 t1 a vs1 (wipeN e1 vs) (items.drop i) acc).All _,
    ⟨_, rfl, Nat.zero_le _, [], [], upd_same, rfl, Nat.zero_le _, s1.addZ o hd, fun b u h1 h2 h => by rw [upd_ne (fun z => h2 (by simp [z]))]; exact h, q⟩, ?_⟩
  rintro i m H' ⟨rfl, hle, acc, xs, hx, rx, hacc, s', f', q'⟩
  have ex0 : Ex (cut (F.U e1 σ) H1) (cut (F'.U e1 σ) H') := fun b u h => by
    obtain ⟨g1, g2⟩ := cut_some h
    have ne : b ≠ d := fun z => by rw [z, hd] at g1; cases g1
    have g3 : b ∉ F.dS ++ own e1 σ := fun z => g2 (List.mem_append_right _ z)
    rw [cut_out]
    · exact f' b u (fun z => g3 (List.mem_append_left _ z)) (fun z => (List.mem_cons.mp z).elim ne fun z => g3 (List.mem_append_right _ z)) g1
    · intro z
      rcases List.mem_append.mp z with z | z
      · rcases List.mem_cons.mp z with z | z
        · exact ne z
        · exact g2 (List.mem_append_left _ z)
      · exact g3 z
  have ex1 : Ex (cut (F.U e1 σ) H1) H' := Ex.trans ex0 (cut_le _ _)
  by_cases hlt : i < items.length
  · refine Or.inr ⟨T.go i H' ex1 (by rw [hlen]; exact hlt), fun H2 => i + 1 ≤ items.length ∧ ∃ acc xs, H2 d = some (.lst xs) ∧ RpA G.K (cut (F'.U e1 σ) H2) (rens (rho G F) acc) xs ∧ acc.length ≤ 90000 ∧ Sim G F' e1 σ H2 ∧ Fw F (d :: own e1 σ) H1 H2 ∧ (lc2Loop g t it1 g1 t1 a vs1 (wipeN e1 vs) (items.drop (i + 1)) acc).All _, fun H2 h2 => ⟨items.length - (i + 1), by omega, rfl, h2⟩, fun y H2 yl => ?_⟩
    have hdr : items.drop i = items[i] :: items.drop (i + 1) := List.drop_eq_getElem_cons hlt
    rw [hdr] at q'
    obtain ⟨x2, rp⟩ := T.yld i H' y H2 _ ex1 yl (rens_get (List.getElem?_eq_getElem hlt))
    obtain ⟨s2, f2⟩ := s'.ext o x2
    have r2 := rp (cut (F'.U e1 σ) H2) (Ex.trans ex0 f2.ex) fun z w h0 h3 => by
      rw [cut_out (fun hz => s'.tr o z hz h0)]
      exact h3
    refine lc2_turn (F := F') o gk hjs gk1 hjs1 hvs1 s2 hdz hv r2 (x2 d _ hx) (rx.mono f2.ex) hacc q' fun H3 s3 f3 acc' xs' h3 r3 l3 q3 => ⟨hlt, acc', xs', h3, r3, l3, s3, ?_, q3⟩
    intro b u g1 g2 g3
    exact f3 b u g1 g2 (x2 b u (f' b u g1 g2 g3))
  · have ei : i = items.length := by omega
    subst ei
    rw [List.drop_length] at q'
    refine Or.inl ⟨by have := T.stop H' ex1; rw [hlen] at this; exact this, ?_⟩
    have fE : Fw F (own e1 σ) H1 H' := fun b u g1 g2 g3 => f' b u g1 (fun z => (List.mem_cons.mp z).elim (fun z => by rw [z, hd] at g3; cases g3) g2) g3
    have mU : Ex (cut (F'.U e1 σ) H') (cut (F.U e1 σ) H') := cut_subL fun b hb => by
      rcases List.mem_append.mp hb with z | z
      · exact List.mem_append_left _ (List.mem_cons_of_mem _ z)
      · exact List.mem_append_right _ z
    have sE : Sim G F e1 σ H' := ⟨SlRs.step mU (fun _ _ => rfl) s'.slots, s'.nd, s1.dis, fun b hb => s'.zt b (List.mem_cons_of_mem _ hb), s1.zd, s'.deal, s1.slf⟩
    exact q' (.ref d) H' h1 (f1.trans (h1 ▸ fE)) sE ⟨d, xs, rfl, by rw [cut_out dU]; exact hx, rx.mono mU⟩
instance {it it1 : XI} {g g1 : XG} {t t1 : XT} {a : XE} {vs vs1 : List Nat} [hi : PureI it] : PureE (xLc2 it g t it1 g1 t1 a vs vs1) := ⟨fun e => pure_bind (hi.same e) fun c => by
  intro P h
  dsimp only at h ⊢
  split
  · rename_i hc
    rw [if_pos hc] at h
    exact pure_tr (fun _ => pure_ret) P h
  · rename_i hc
    rw [if_neg hc] at h
    exact h.elim⟩
theorem m_lc2 (o : G.Ok) {it it1 : XI} {g g1 : XG} {tg tg1 : TG} {js js1 vs1 : List Nat} {t t1 : XT} {a : XE} [ht : PureT t] [hi1 : PureI it1] [ht1 : PureT t1] [ha : PureE a] {elt tgt iter tgt1 iter1 : Expr} {ifs ifs1 : List Expr} {scope : Scope} {ow : List (Str × Nat)} {pos : Pos} (gk : GOk G g tg js) (hjs : ∀ j ∈ js, j ∈ ow.map (·.2)) (gk1 : GOk G g1 tg1 js1) (hjs1 : ∀ j ∈ js1, j ∈ vs1) (hvs1 : ∀ j ∈ vs1, j ∈ ow.map (·.2)) (hc : X.calm = true) (hN : X.N.Nodup) (hi : PI X tgt iter (tI G it)) (ok : BlkOk X.N X.env.scope scope ow)
    (hg : ∀ (s : Shared) (H : Hp) (C : Addr) (cl : List (Str × Addr)) (fp : List Addr), PG (X.blk s H scope (compEnvC scope cl C X.env) fp) tgt tg) (hts : ∀ (s : Shared) (H : Hp) (C : Addr) (cl : List (Str × Addr)) (fp : List Addr), PTs (X.blk s H scope (compEnvC scope cl C X.env) fp) ifs (tT G t))
    (hit1 : ∀ (s : Shared) (H : Hp) (C : Addr) (cl : List (Str × Addr)) (fp : List Addr), PI (X.blk s H scope (compEnvC scope cl C X.env) fp) tgt1 iter1 (tI G it1))
    (hg1 : ∀ (s : Shared) (H : Hp) (C : Addr) (cl : List (Str × Addr)) (fp : List Addr), PG (X.blk s H scope (compEnvC scope cl C X.env) fp) tgt1 tg1) (hts1 : ∀ (s : Shared) (H : Hp) (C : Addr) (cl : List (Str × Addr)) (fp : List Addr), PTs (X.blk s H scope (compEnvC scope cl C X.env) fp) ifs1 (tT G t1))
    (he : ∀ (s : Shared) (H : Hp) (C : Addr) (cl : List (Str × Addr)) (fp : List Addr), PE (X.blk s H scope (compEnvC scope cl C X.env) fp) elt (tE G a)) (hs : ∀ x, foldedSetIterable iter X.env x = pure x := by intro _; rfl) (hs1 : ∀ env x, foldedSetIterable iter1 env x = pure x := by intro _ _; rfl) :
    PE X (.ListComp elt [⟨tgt, iter, ifs, 0⟩, ⟨tgt1, iter1, ifs1, 0⟩] scope pos) (tE G (xLc2 it g t it1 g1 t1 a (ow.map (·.2)) vs1)) := PE.weak (pe_lc2 hc hN hi ok hvs1 hg hts hit1 hg1 hts1 he hs hs1) fun σ H Q q => w_lc2 o gk hjs gk1 hjs1 hvs1 q
end
end Mc
namespace Mc
open PySem PySem.Spec PyProof.Rows L2 Evl
def xO (f : List Rv → Tr Dt) (as : XA) : XE := fun e => (as e).bind fun p => (Tr.of (looks p.2 p.1)).bind fun rs => (f rs).bind fun d => .ret (.d d, p.2)
instance {f : List Rv → Tr Dt} {as : XA} [hs : PureA as] : PureE (xO f as) := ⟨fun e => pure_bind (hs.same e) fun a => pure_of fun b => pure_tr fun c => pure_ret⟩
def ifO (c : List Rv → Bool) (f g : List Rv → Tr Dt) : List Rv → Tr Dt := fun rs => match c rs with | true => f rs | false => g rs
def isK (c : Addr) : List Rv → Bool
  | .d (.obj k _) :: _ => k == c
  | _ => false
def toB (f : List Dt → Option Dt) : List Rv → Tr Dt := fun rs => Tr.of (un f rs)
def dBin (c : Addr) (g : List Dt → Tr Dt) : List Rv → Tr Dt
  | [.d (.obj k fs), .d (.obj k' fs')] => if k = c ∧ k' = c then g [.obj k fs, .obj k' fs'] else .stuck
  | _ => .stuck
def dUn (c : Addr) (g : List Dt → Tr Dt) : List Rv → Tr Dt
  | [.d (.obj k fs)] => if k = c then g [.obj k fs] else .stuck
  | _ => .stuck
def cmpK (ks : List Addr) : Dt → Bool
  | .obj k _ => ks.contains k
  | .ty _ => false | .ptr _ => false | .slf _ _ _ => false | .dct _ => false | .dcT _ => false
  | _ => true
def dCmp (c : Addr) (ks : List Addr) (g : List Dt → Tr Dt) : List Rv → Tr Dt
  | [.d (.obj k fs), .d y] => if k = c ∧ cmpK ks y = true then g [.obj k fs, y] else .stuck
  | _ => .stuck
def negB : Dt → Tr Dt
  | .bl b => .ret (.bl (!b))
  | _ => .stuck
def dNe (c : Addr) (ks : List Addr) (g : List Dt → Tr Dt) : List Rv → Tr Dt := fun rs => (dCmp c ks g rs).bind negB
def lenB : Dt → Tr Dt
  | .int i => if 0 ≤ i ∧ i < 2 ^ 63 then .ret (.int i) else .stuck
  | _ => .stuck
def strB : Dt → Tr Dt
  | .str x => .ret (.str x)
  | _ => .stuck
def boolB : Dt → Tr Dt
  | .bl x => .ret (.bl x)
  | _ => .stuck
def dLen (c : Addr) (g : List Dt → Tr Dt) : List Rv → Tr Dt := fun rs => (dUn c g rs).bind lenB
def dStr (c : Addr) (g : List Dt → Tr Dt) : List Rv → Tr Dt := fun rs => (dUn c g rs).bind strB
def dBool (c : Addr) (g : List Dt → Tr Dt) : List Rv → Tr Dt := fun rs => (dUn c g rs).bind boolB
section
variable {G : Gd} {Wx : WX} {F : Fr} {e e' : En} {σ σ' : L2.St} {H H' B : Hp} {X : Cx} {E : XK}
def PostV (G : Gd) (F : Fr) (e : En) (σ : L2.St) (H : Hp) (Q : VK) (d : Dt) : Prop := ∀ v H', Sim G F e σ H' → Fw F (own e σ) H H' → Rp G.K (cut (F.U e σ) H') (ren (rho G F) d) v → Q v H'
def TOk (G : Gd) (r : List V → Hp → VK → Prop) (f : List Rv → Tr Dt) : Prop := ∀ (F : Fr) (e : En) (σ : L2.St) (H : Hp) (rs : List Rv) (vs : List V) (Q : VK), Sim G F e σ H → RvRs (modeOf G F e σ H) (rho G F) H rs vs → (f rs).All (PostV G F e σ H Q) → r vs H Q
abbrev L1 (r : V → Hp → VK → Prop) : List V → Hp → VK → Prop := fun vs H Q => ∃ u, vs = [u] ∧ r u H Q
abbrev L2' (r : R2) : List V → Hp → VK → Prop := fun vs H Q => ∃ u w, vs = [u, w] ∧ r u w H Q
theorem tok_B (o : G.Ok) {r : List V → Hp → VK → Prop} {f : List Dt → Option Dt} (hw : WOk G r f) : TOk G r (toB f) := fun F e σ H rs vs Q s rr q => by
  obtain ⟨d, hd, q⟩ := Tr.of_all q
  refine bok hw _ (s.mok o) rfl F rs d vs H hd s.mj rr Q fun v H2 l2 j2 r2 => ?_
  obtain ⟨s2, f2⟩ := s.pure l2 j2
  exact q v H2 s2 f2 r2
theorem TOk.or {r r' : List V → Hp → VK → Prop} {f f' : List Rv → Tr Dt} {c : List Rv → Bool} (h : TOk G r f) (h' : TOk G r' f') : TOk G (fun vs H Q => r vs H Q ∨ r' vs H Q) (ifO c f f') := fun F e σ H rs vs Q s rr q => by
  unfold ifO at q
  cases hc : c rs with
  | true => rw [hc] at q; exact Or.inl (h F e σ H rs vs Q s rr q)
  | false => rw [hc] at q; exact Or.inr (h' F e σ H rs vs Q s rr q)
theorem TOk.or2 {r r' : R2} {f f' : List Rv → Tr Dt} {c : List Rv → Bool} (h : TOk G (L2' r) f) (h' : TOk G (L2' r') f') : TOk G (L2' fun x y H Q => r x y H Q ∨ r' x y H Q) (ifO c f f') := fun F e σ H rs vs Q s rr q => by
  rcases TOk.or h h' F e σ H rs vs Q s rr q with ⟨u, w, e1, h1⟩ | ⟨u, w, e1, h1⟩
  · exact ⟨u, w, e1, Or.inl h1⟩
  · exact ⟨u, w, e1, Or.inr h1⟩
theorem w_O {r : List V → Hp → VK → Prop} {f : List Rv → Tr Dt} (hb : TOk G r f) {as : XA} {Q : VK} (q : tE G (xO f as) σ H Q) : tA G as σ H fun vs H1 => r vs H1 Q := by
  obtain ⟨F, e, s, q⟩ := q
  refine ⟨F, e, s, Tr.All.mono (fun p q vs H1 h1 f1 s1 r1 => ?_) (Tr.all_bind.mp q)⟩
  obtain ⟨rs, l, q⟩ := Tr.of_all (Tr.all_bind.mp q)
  refine hb F p.2 σ H1 rs vs Q s1 (looks_rep s1 r1 l) (Tr.All.mono (fun d q v H2 s2 f2 r2 => ?_) (Tr.all_bind.mp q))
  exact q v H2 h1 (f1.trans (h1 ▸ f2)) s2 r2
theorem m_O {r : List V → Hp → VK → Prop} {f : List Rv → Tr Dt} {as : XA} {x : Expr} (h : PE X x (tCB r (tA G as))) (hb : TOk G r f) : PE X x (tE G (xO f as)) := PE.weak h fun σ H Q q => w_O hb q
theorem w_opO {r : R2} {f : List Rv → Tr Dt} {a b : XE} (hb : TOk G (L2' r) f) {Q : VK} (q : tE G (xO f (xCons a (xCons b xNil))) σ H Q) : tOp r (tE G a) (tE G b) σ H Q := by
  obtain ⟨F, e, s, q⟩ := w_O hb q
  refine ⟨F, e, s, Tr.All.mono (fun p q v H1 h1 f1 s1 r1 => ?_) (Tr.all_bind.mp q)⟩
  refine ⟨F, p.2, s1, Tr.All.mono (fun p2 q w H2 h2 f2 s2 r2 => ?_) (Tr.all_bind.mp (Tr.all_bind.mp q))⟩
  obtain ⟨u', w', e', q'⟩ := q [v, w] H2 (h2.trans h1) (f1.trans (h1 ▸ f2)) s2 ⟨v, [w], rfl, r1.step h2 f2, w, [], rfl, r2, rfl⟩
  cases e'
  exact q'
section
variable {a b : XE} {x y : Expr} {pos : Pos}
theorem m_cmpO {op : CmpOp} {r : R2} {f : List Rv → Tr Dt} (ho : OpR X (compareOp op) r) (hw : TOk G (L2' r) f) (ha : PE X x (tE G a)) (hb : PE X y (tE G b)) (hm : behindInMarks op y = false) : PE X (.Compare x [op] [y] pos) (tE G (xO f (xCons a (xCons b xNil)))) := PE.weak (pe_cmpR ho ha hb hm) fun σ H Q q => w_opO hw q
theorem m_cmpOT {op : CmpOp} {r : R2} {f : List Rv → Tr Dt} (ho : OpR X (compareOp op) r) (hw : TOk G (L2' r) f) (ha : PE X x (tE G a)) (hb : PE X y (tE G b)) (hm : behindInMarks op y = false) : PT X (.Compare x [op] [y] pos) (tT G (xTest (xO f (xCons a (xCons b xNil))))) := PT.weak (pt_cmpR ho ha hb hm) fun σ H Q q => w_opO hw (w_test q)
theorem m_callTO {id : String} {nm : Str} {p : Pos} {x : Expr} {xs : List Expr} {as : XA} {r : List V → Hp → VK → Prop} {f : List Rv → Tr Dt} (hc : CallR X (.type id) r) (hw : TOk G r f) (hg : Gl X nm) (hm : X.mg nm = none) (hv : bootBuiltins nm = some (.type id)) (ha : PA X (x :: xs) (tA G as)) (hn : nm ≠ "__name__" := by decide) (hdb : (nm == ("__debug__" : Str)) = false := by decide)
    (h1 : starEach (x :: xs) X.env = (false, eval x X.env) :: starEach xs X.env := by rfl) (h2 : (backTo pos (starEach xs X.env)).any (·.1) = false := by rfl) : PE X (.Call (.Name nm p) (x :: xs) [] pos) (tE G (xO f as)) := m_O (pe_callTy hc hg hm hv ha hn hdb h1 h2) hw
end
theorem spF_of {n : Nat} {g : List Dt → Tr Dt} {ds : List Dt} {vs : List V} {Q : VK} (s : Sim G F e σ H) (r : RpA G.K (cut (F.U e σ) H) (rens (rho G F) ds) vs) (hn : ds.length = n) (q : (g ds).All (PostV G F e σ H Q)) : spF G n g vs H Q E := by
  refine ⟨F.call (own e σ), ds, s.callee, hn, ?_, Tr.All.mono (fun d q v H2 f2 k2 r2 => ?_) q⟩
  · rw [call_V s, rho_dl (F := F) (F' := F.call (own e σ)) rfl]
    exact r
  · obtain ⟨s2, f3⟩ := s.called f2 k2
    rw [call_V s, rho_dl (F := F) (F' := F.call (own e σ)) rfl] at r2
    exact q v H2 s2 f3 r2
theorem rpa1 {d : Dt} {v : V} (h1 : RvR (modeOf G F e σ H) (rho G F) H (.d d) v) : RpA G.K (cut (F.U e σ) H) (rens (rho G F) [d]) [v] := ⟨_, _, rfl, h1, rfl⟩
theorem rpa2 {d d' : Dt} {v v' : V} (h1 : RvR (modeOf G F e σ H) (rho G F) H (.d d) v) (h2 : RvR (modeOf G F e σ H) (rho G F) H (.d d') v') : RpA G.K (cut (F.U e σ) H) (rens (rho G F) [d, d']) [v, v'] := ⟨_, _, rfl, h1, _, _, rfl, h2, rfl⟩
theorem rho_ne {c : Addr} (hc : c ≠ 1) : rho G F c = G.ca c := by unfold rho; rw [if_neg hc]
theorem rv_obj {c : Addr} {fs : List (Str × Dt)} {v : V} (hc : c ≠ 1) (h : RvR (modeOf G F e σ H) (rho G F) H (.d (.obj c fs)) v) : ∃ a dx gs, v = .ref a ∧ H a = some (.ins (G.ca c) dx gs) := by
  obtain ⟨a, dx, gs, e1, e2, e3⟩ := h
  refine ⟨a, dx, gs, e1, ?_⟩
  have := cut_le _ _ _ _ e2
  rw [rho_ne hc] at this
  exact this
section
variable {C g : Addr} {n : Nat} {CX : CXT} {sp : Sp}
theorem UnR.or {f : Value → Sem Value} {r r' : V → Hp → VK → Prop} (h : UnR X f r) (h' : UnR X f r') : UnR X f (fun x H Q => r x H Q ∨ r' x H Q) := fun pins s σ H x v Q I rx q => q.elim (h pins s σ H x v Q I rx) (h' pins s σ H x v Q I rx)
end
structure NCls (G : Gd) (c : Addr) (ks : List Addr) : Prop where
  ne : c ≠ 1
  own : ∀ k ∈ ks, k ≠ 1 ∧ Kl G.K (G.ca k) ∧ PySem.W.notFirst G.K (G.ca c) (.ref (G.ca k)) = true
  bi : ∀ n ∈ ["NoneType", "bool", "int", "str", "list", "tuple"], PySem.W.notFirst G.K (G.ca c) (.type n) = true
theorem cmpK_ty {c : Addr} {ks : List Addr} (hn : NCls G c ks) {y : Dt} {v : V} (h : cmpK ks y = true) (r : RvR (modeOf G F e σ H) (rho G F) H (.d y) v) : TyX G.K H v (tyD (ren (rho G F) y)) ∧ PySem.W.notFirst G.K (G.ca c) (tyD (ren (rho G F) y)) = true := by
  have ok : tyOk G.K (ren (rho G F) y) ∧ PySem.W.notFirst G.K (G.ca c) (tyD (ren (rho G F) y)) = true := by
    cases y with
    | obj k fs =>
      obtain ⟨g1, g2, g3⟩ := hn.own k (by simpa [cmpK] using h)
      show Kl G.K (rho G F k) ∧ PySem.W.notFirst G.K (G.ca c) (.ref (rho G F k)) = true
      rw [rho_ne g1]
      exact ⟨g2, g3⟩
    | ty n => cases h
    | ptr n => cases h
    | slf x gs ds => cases h
    | dct x => cases h
    | dcT x => cases h
    | non => exact ⟨trivial, hn.bi "NoneType" (by decide)⟩
    | bl x => exact ⟨trivial, hn.bi "bool" (by decide)⟩
    | int x => exact ⟨trivial, hn.bi "int" (by decide)⟩
    | str x => exact ⟨trivial, hn.bi "str" (by decide)⟩
    | lst x => exact ⟨trivial, hn.bi "list" (by decide)⟩
    | tup x => exact ⟨trivial, hn.bi "tuple" (by decide)⟩
  exact ⟨Mode.R.ty (M := modeOf G F e σ H) r ok.1, ok.2⟩
theorem tok_cmp {c : Addr} {ks : List Addr} {g : List Dt → Tr Dt} (hn : NCls G c ks) : TOk G (L2' (rCmpI G.K (G.ca c) (spF G 2 g) E)) (dCmp c ks g) := fun F e σ H rs vs Q s rr q => by
  unfold dCmp at q
  split at q
  case h_2 => exact q.elim
  rename_i k fs y
  split at q
  case isFalse => exact q.elim
  rename_i hk
  obtain ⟨rfl, hk2⟩ := hk
  obtain ⟨v, r, rfl, h1, w, r2, rfl, h2, h3⟩ := rr
  rw [show r2 = [] from h3]
  obtain ⟨a, dx, gs, rfl, ha⟩ := rv_obj hn.ne h1
  obtain ⟨t1, t2⟩ := cmpK_ty hn hk2 h2
  exact ⟨_, _, rfl, a, dx, gs, _, rfl, ha, t1, t2, spF_of s (rpa2 h1 h2) rfl q⟩
theorem tok_ne {c : Addr} {ks : List Addr} {g : List Dt → Tr Dt} (hn : NCls G c ks) : TOk G (L2' (rNeI G.K (G.ca c) (spF G 2 g) E)) (dNe c ks g) := fun F e σ H rs vs Q s rr q => by
  have q := Tr.all_bind.mp q
  unfold dCmp at q
  split at q
  case h_2 => exact q.elim
  rename_i k fs y
  split at q
  case isFalse => exact q.elim
  rename_i hk
  obtain ⟨rfl, hk2⟩ := hk
  obtain ⟨v, r, rfl, h1, w, r2, rfl, h2, h3⟩ := rr
  rw [show r2 = [] from h3]
  obtain ⟨a, dx, gs, rfl, ha⟩ := rv_obj hn.ne h1
  obtain ⟨t1, t2⟩ := cmpK_ty hn hk2 h2
  refine ⟨_, _, rfl, a, dx, gs, _, rfl, ha, t1, t2, spF_of s (rpa2 h1 h2) rfl (Tr.All.mono (fun d q v H' s' f' r' => ?_) q)⟩
  cases d with
  | bl b => exact ⟨b, r', q _ H' s' f' rfl⟩
  | _ => exact q.elim
theorem tok_conv (E : XK) {c : Addr} {g : List Dt → Tr Dt} {cv : Dt → Tr Dt} {P : V → Prop} {r : List V → Hp → VK → Prop} (hc : c ≠ 1) (hcv : ∀ (F : Fr) (Hc : Hp) d v (Q : Dt → Prop), Rp G.K Hc (ren (rho G F) d) v → (cv d).All Q → P v ∧ Q d)
    (hr : ∀ a dx gs H Q, H a = some (.ins (G.ca c) dx gs) → spF G 1 g [.ref a] H (fun v H' => P v ∧ Q v H') E → r [.ref a] H Q) : TOk G r (fun rs => (dUn c g rs).bind cv) := fun F e σ H rs vs Q s rr q => by
  have q := Tr.all_bind.mp q
  unfold dUn at q
  split at q
  case h_2 => exact q.elim
  rename_i k fs
  split at q
  case isFalse => exact q.elim
  rename_i hk
  subst hk
  obtain ⟨v, r, rfl, h1, h3⟩ := rr
  rw [show r = [] from h3]
  obtain ⟨a, dx, gs, rfl, ha⟩ := rv_obj hc h1
  refine hr a dx gs H Q ha (spF_of s (rpa1 h1) rfl (Tr.All.mono (fun d q v H' s' f' r' => ?_) q))
  obtain ⟨h4, h5⟩ := hcv F _ d v _ r' q
  exact ⟨h4, h5 v H' s' f' r'⟩
theorem tok_str {c : Addr} {g : List Dt → Tr Dt} (hc : c ≠ 1) : TOk G (rStrI (G.ca c) (spF G 1 g) E) (dStr c g) := tok_conv E (P := fun v => ∃ x : Str, v = .str x) hc (fun F Hc d v Q r q => by
  cases d with
  | str i => exact ⟨⟨i, r⟩, q⟩
  | _ => exact q.elim) fun a dx gs H Q ha q => ⟨a, dx, gs, rfl, ha, by
    obtain ⟨F, args, h1, h2, h3, h4⟩ := q
    refine ⟨F, args, h1, h2, h3, Tr.All.mono (fun d q v H' f k r => ?_) h4⟩
    obtain ⟨⟨i, e1⟩, e4⟩ := q v H' f k r
    exact ⟨i, e1, e4⟩⟩
end
end Mc
namespace Mc
open PySem PySem.Spec PyProof.Rows L2 Evl
def fIsi2 (ks : List Addr) (a b : String) : List Dt → Option Dt
  | [d] => if a ∈ ["int", "bool", "str", "list", "tuple"] ∧ b ∈ ["int", "bool", "str", "list", "tuple"] ∧ valKs ks d = true then some (.bl (instD a d || instD b d)) else none
  | _ => none
def xLm (f : List Rv → Option Dt) (o : XE) (as : XA) : XE := fun e => (o e).bind fun p => (Tr.of ((look p.2 p.1).bind lstR)).bind fun _ => (as p.2).bind fun q => (Tr.of ((looks q.2 (p.1 :: q.1)).bind f)).bind fun d => .ret (.d d, q.2)
instance {f : List Rv → Option Dt} {a : XE} {as : XA} [ha : PureE a] [hs : PureA as] : PureE (xLm f a as) := ⟨fun e => pure_bind (ha.same e) fun v => pure_of fun _ => pure_bind (hs.same e) fun w => pure_of fun d => pure_ret⟩
def fRepr : List Dt → Option Dt
  | [.bl b] => some (.str (if b then "True" else "False"))
  | [.non] => some (.str "None")
  | [.int i] => if i.natAbs.log2 < 1920 then some (.str (toString i)) else none
  | [.str x] => if (reprText x).length ≤ 16000000 then some (.str (reprText x)) else none
  | [d] => match seqD d with
    | none => none
    | some _ => if plainD d = true ∧ (pyD d).showable = true ∧ (pyD d).hasDict = false ∧ (pyD d).depth ≤ 60 ∧ (pyD d).shown.length ≤ 16000000 then some (.str (pyD d).shown) else none
  | _ => none
section
variable {G : Gd} {Wx : WX} {F : Fr} {e e' : En} {σ σ' : L2.St} {H H' B : Hp} {X : Cx} {E : XK} {N : Mode} {ρ : Addr → Addr}
theorem kitAny2 {K : PySem.W.Frag} {d : Dt} {n m : String} (hv : valD K d) (hn : n ∈ ["int", "bool", "str", "list", "tuple"]) (hm : m ∈ ["int", "bool", "str", "list", "tuple"]) : PySem.W.kitAny K (tyD d) [.type n, .type m] = some (instD n d || instD m d) := by
  cases q : instD n d with
  | true => exact kitAny_cons (b := true) (by rw [kit_D hv hn, q]) (fun z => by cases z) fun _ => rfl
  | false =>
    refine kitAny_cons (b := false) (by rw [kit_D hv hn, q]) (fun _ => ?_) fun z => by cases z
    cases q2 : instD m d with
    | true => exact kitAny_cons (b := true) (by rw [kit_D hv hm, q2]) (fun z => by cases z) fun _ => rfl
    | false => exact kitAny_cons (b := false) (by rw [kit_D hv hm, q2]) (fun _ => rfl) fun z => by cases z
def rIsi2 (K : PySem.W.Frag) (a b : String) : List V → Hp → VK → Prop := fun vs H Q => ∃ v, vs = [v] ∧ 2 ≤ sizeLine ∧ ∀ p, H p = none → ∃ t r, TyX K (upd H p (.tup [.ty a, .ty b])) v t ∧ PySem.W.kitAny K t [.type a, .type b] = some r ∧ Q (.bl r) (upd H p (.tup [.ty a, .ty b]))
theorem wok_isi2 {ks : List Addr} {a b : String} (hks : ∀ k ∈ ks, KCls G k) : WOk G (rIsi2 G.K a b) (fIsi2 ks a b) := fun N ok k F ds d vs H hf j q Q k' => by
  unfold fIsi2 at hf
  split at hf
  case h_2 => cases hf
  rename_i c
  split at hf
  case isFalse => cases hf
  rename_i hn
  cases hf
  obtain ⟨v, rfl, h1⟩ := W_1 q
  have val := ren_val (G := G) (F := F) hks hn.2.2
  refine ⟨v, rfl, by rw [sizeLine_eq]; omega, fun p hp => ?_⟩
  have ex : Ex H (upd H p (.tup [.ty a, .ty b])) := Ex.new hp
  refine ⟨_, _, tyx_up ex (W_tyx k val.ty h1), kitAny2 val hn.1 hn.2.1, ?_⟩
  rw [inst_ren hn.1, inst_ren hn.2.1]
  exact k' _ _ (N.le ex) (ok.ex ex j) rfl
section
variable {a b : XE} {x y : Expr} {pos : Pos}
theorem m_isi2 (o : G.Ok) {ks : List Addr} {n m : String} {tn tm : Expr} {p tp : Pos} {k1} (hks : ∀ k ∈ ks, KCls G k) (ha : PE X x (tE G a)) (hg : Gl X "isinstance") (hm : X.mg "isinstance" = none) (h1 : PE X tn (tC (.ty n))) (h2 : PE X tm (tC (.ty m))) (hK : X.K = G.K := by rfl)
    (s1 : starEach [tn, tm] X.env = (false, eval tn X.env) :: starEach [tm] X.env := by rfl) (s2 : starEach [tm] X.env = (false, eval tm X.env) :: starEach [] X.env := by rfl)
    (s3 : starEach [x, .Tuple [tn, tm] k1 tp] X.env = (false, eval x X.env) :: starEach [.Tuple [tn, tm] k1 tp] X.env := by rfl) (s4 : starEach [.Tuple [tn, tm] k1 tp] X.env = (false, eval (.Tuple [tn, tm] k1 tp) X.env) :: starEach [] X.env := by rfl)
    (s5 : (backTo pos (starEach [.Tuple [tn, tm] k1 tp] X.env)).any (·.1) = false := by rfl) :
    PE X (.Call (.Name "isinstance" p) [x, .Tuple [tn, tm] k1 tp] [] pos) (tE G (xB (un (fIsi2 ks n m)) (xCons a xNil))) :=
  PE.weak (pe_callB (k_isiT G.K hK) hg hm (by decide +kernel) (pa_cons ha (pa_cons (pe_tup (pa_cons h1 (pa_cons h2 pa_nil s2) s1)) pa_nil s4) s3) (by decide) (by decide) s3 s5) fun σ H Q q => by
    obtain ⟨F, e, s, q⟩ := w_B o (bok (wok_isi2 (a := n) (b := m) hks)) q
    refine ⟨F, e, s, Tr.All.mono (fun p q v H1 h1 f1 s1 r1 => ?_) (Tr.all_bind.mp q)⟩
    obtain ⟨v', e1, e2, e3⟩ := q [v] H1 h1 f1 s1 ⟨v, [], rfl, r1, rfl⟩
    cases e1
    refine ⟨e2, fun p hp => ?_⟩
    obtain ⟨t, r, g1, g2, g3⟩ := e3 p hp
    exact ⟨v, p, [.ty n, .ty m], t, [.type n, .type m], r, rfl, upd_same, .cons (.ty n) (.cons (.ty m) .nil), g1, g2, g3⟩
end
end
end Mc
namespace Mc
open PySem PySem.Spec PyProof.Rows L2 Evl
def dctP : List (Str × XE) → En → Tr (List (Key × Dt) × En)
  | [], e => .ret ([], e)
  | (k, a) :: r, e => (a e).bind fun p => (Tr.of (dat p.1)).bind fun d => (dctP r p.2).bind fun q => .ret ((.inr k, d) :: q.1, q.2)
def keyD : Dt → Option Key
  | .int i => some (.inl i)
  | .str x => some (.inr x)
  | _ => none
def lookD (kvs : List (Key × Dt)) (k : Key) : Option Dt := (kvs.find? fun kv => decide (kv.1 = k)).map (·.2)
def dctV : Vl → Option (List (Key × Dt))
  | .d (.dct kvs) => some kvs
  | _ => none
def xDg2 (a b c : XE) : XE := fun e => (a e).bind fun p => (Tr.of (dctV p.1)).bind fun kvs => (b p.2).bind fun q => (c q.2).bind fun r => (Tr.of ((dat q.1).bind fun k => (keyD k).bind fun k => (dat r.1).bind fun d => some ((lookD kvs k).getD d))).bind fun d => .ret (.d d, r.2)
instance {a b c : XE} [ha : PureE a] [hb : PureE b] [hc : PureE c] : PureE (xDg2 a b c) := ⟨fun e => pure_bind (ha.same e) fun v => pure_of fun _ => pure_bind (hb.same e) fun w => pure_bind (hc.same e) fun z => pure_of fun d => pure_ret⟩
section
variable {G : Gd} {Wx : WX} {F : Fr} {e e' : En} {σ σ' : L2.St} {H H' B : Hp} {X : Cx} {E : XK} {N : Mode} {ρ : Addr → Addr}
theorem RpK.look {K : PySem.W.Frag} {Hc : Hp} {k : Key} : ∀ {fs : List (Key × Dt)} {gs : List (Key × V)}, RpK K Hc (renK ρ fs) gs → (∃ d v, lookD fs k = some d ∧ valV gs k = some v ∧ Rp K Hc (ren ρ d) v) ∨ (lookD fs k = none ∧ valV gs k = none)
  | [], _, h => by rw [show _ = [] from h]; exact Or.inr ⟨rfl, rfl⟩
  | f :: fs, _, ⟨v, r, h1, h2, h3⟩ => by
    rw [h1]
    by_cases hk : f.1 = k
    · refine Or.inl ⟨f.2, v, ?_, valV_pos hk, h2⟩
      unfold lookD
      rw [List.find?_cons, decide_eq_true hk]
      rfl
    · have e1 : lookD (f :: fs) k = lookD fs k := by
        unfold lookD
        rw [List.find?_cons, decide_eq_false hk]
      rw [e1, valV_neg (show ¬ ((f.1, v) : Key × V).1 = k from hk)]
      exact RpK.look h3
end
end Mc
namespace Mc
open PySem PySem.Spec PyProof.Rows L2 Evl
def drawF : List Dt → Tr Dt
  | [.ptr c, .int m] => if c = 1 ∧ 0 < m ∧ m < 10000000000000000000000000000000000000000 then .draw m.toNat fun i => .ret (.int i) else .stuck
  | _ => .stuck
theorem al_nil {α : Type} {p : α → Prop} : ∀ k ∈ ([] : List α), p k := fun _ h => by cases h
theorem al_cons {α : Type} {p : α → Prop} {a : α} {l : List α} (h : p a) (hs : ∀ k ∈ l, p k) : ∀ k ∈ a :: l, p k := fun k hk => (List.mem_cons.mp hk).elim (fun e => e ▸ h) (hs k)
section
variable {P : Program} {w : World} {mg : Str → Option Value} {base : Heap} {G : Gd} {Wx : WX}
theorem fn_stuckF {k : Nat} {f : Addr} {fd : FuncData} {ps : List Str} {n : Nat} : FnOk P w G.K mg base CX0 k f fd ps (spF G n fun _ => .stuck) := ⟨fun vs H Q E h => by
  obtain ⟨F, args, _, _, _, h⟩ := h
  exact h.elim, fun A outer s H args us vs Q E _ _ _ _ h => by
  obtain ⟨F, args, _, _, _, h⟩ := h
  exact h.elim⟩
theorem fn_stuckI {k c : Nat} {f : Addr} {fd : FuncData} {ps : List Str} {n : Nat} : FnOk P w G.K mg base CX0 k f fd ps (spI' G c n fun _ => .stuck) := ⟨fun vs H Q E h => by
  obtain ⟨F, args, x, dx, rest, _, _, _, _, _, _, h⟩ := h
  exact h.elim, fun A outer s H args us vs Q E _ _ _ _ h => by
  obtain ⟨F, args, x, dx, rest, _, _, _, _, _, _, h⟩ := h
  exact h.elim⟩
end
theorem rp_strs {K : PySem.W.Frag} {Hc : Hp} : ∀ {xs : List Str}, RpA K Hc (xs.map Dt.str) (xs.map V.str)
  | [] => rfl
  | x :: xs => ⟨.str x, xs.map V.str, rfl, rfl, rp_strs⟩
theorem rp_strT {K : PySem.W.Frag} {a : Addr} {o : Obj} {its : Array Value} {n : Nat} {xs : List Str} (l : K.lookup a = some o) (hc : o.cls = .type "tuple") (hn : o.dict = none) (hd : o.data = .seq its n) (hs : its.size ≤ 1000) (hv : Vals (xs.map V.str) its.toList) (Hc : Hp) : Rp K Hc (.tup (xs.map Dt.str)) (.ref a) :=
  ⟨a, xs.map V.str, rfl, ⟨Or.inr ⟨o, its, n, l, hc, hd, by rw [sizeLine_eq]; omega, hv⟩, fun _ => .inr ⟨o, l, hn⟩⟩, rp_strs⟩
end Mc
namespace Mc
open PySem PySem.Spec PyProof.Rows L2 Evl
def datO (e : En) : Vl → Option Dt
  | .d x => some x
  | .r i => obAt e i
def datsO (e : En) : List Vl → Option (List Dt)
  | [] => some []
  | v :: vs => (datO e v).bind fun d => (datsO e vs).bind fun ds => some (d :: ds)
def xFo (g : List Dt → Tr Dt) (as : XA) : XE := fun e => (as e).bind fun p => (Tr.of (datsO p.2 p.1)).bind fun ds => (g ds).bind fun d => if plainD d = true then .ret (.d d, p.2) else .stuck
section
variable {G : Gd} {Wx : WX} {F : Fr} {e e' : En} {σ σ' : L2.St} {H H' B : Hp} {X : Cx} {E : XK}
def isIns (H : Hp) (b : Addr) : Bool := match H b with
  | some (.ins _ _ _) => true
  | _ => false
theorem isIns_eq (h : isIns H b = true) : ∃ C dx gs, H b = some (.ins C dx gs) := by
  unfold isIns at h
  split at h
  · rename_i q; exact ⟨_, _, _, q⟩
  · cases h
def Fr.callO (F : Fr) (A : List Addr) (H : Hp) : Fr := ⟨F.Z ++ A.filter (fun b => !isIns H b), F.dl, none, F.hd⟩
theorem callO_sub {A : List Addr} : ∀ b ∈ (F.callO A H).Z, b ∈ F.Z ++ A := fun b hb => by
  rcases List.mem_append.mp hb with z | z
  · exact List.mem_append_left _ z
  · exact List.mem_append_right _ (List.mem_filter.mp z).1
theorem Sim.calleeO (s : Sim G F e σ H) : FrOk G (F.callO (own e σ) H) H where
  zt := fun b hb => (List.mem_append.mp (callO_sub b hb)).elim (s.zt b) (s.slots.there b)
  zd := fun b hb z => (List.mem_append.mp (callO_sub b z)).elim (s.zd b hb) fun z => (s.dis b z).2 hb
  deal := s.deal
theorem Sim.calledO (s : Sim G F e σ H) (f : Fw (F.callO (own e σ) H) [] H H') (k : FrOk G (F.callO (own e σ) H) H') : Sim G F e σ H' ∧ Fw F (own e σ) H H' := by
  have f' : Fw F (own e σ) H H' := fun b o h1 h2 h => f b o h1 (by simp) h
  refine ⟨⟨SlRs.step f'.ex (fun b hb => ?_) s.slots, s.nd, s.dis, fun b hb => k.zt b (List.mem_append_left _ hb), s.zd, k.deal, s.slf⟩, f'⟩
  cases q : H b with
  | none => exact absurd q (s.slots.there b hb)
  | some u => exact f b u (s.dis b hb).2 (by simp) q
theorem callO_V (A : List Addr) : ∀ b ∈ (F.callO A H).V, b ∈ F.Z ++ (F.dS ++ A) := fun b hb => by
  rcases List.mem_append.mp hb with z | z
  · rcases List.mem_append.mp (callO_sub b z) with y | y
    · exact List.mem_append_left _ y
    · exact List.mem_append_right _ (List.mem_append_right _ y)
  · exact List.mem_append_right _ (List.mem_append_left _ z)
mutual
theorem plain_cut {K : PySem.W.Frag} {H1 H2 : Hp} (h : ∀ b o, H1 b = some o → (∃ C dx gs, o = .ins C dx gs) ∨ H2 b = some o) : ∀ {d : Dt} {v : V}, plainD d = true → Rp K H1 d v → Rp K H2 d v
  | .non, _, _, r => r
  | .bl _, _, _, r => r
  | .int _, _, _, r => r
  | .str _, _, _, r => r
  | .lst ds, _, p, ⟨a, xs, h1, h2, h3⟩ => by
    refine ⟨a, xs, h1, ?_, plain_cutA h p h3⟩
    rcases h a _ h2 with ⟨C, dx, gs, e⟩ | e
    · cases e
    · exact e
  | .tup ds, _, p, ⟨a, xs, h1, h2, h3⟩ => by
    refine ⟨a, xs, h1, ?_, plain_cutA h p h3⟩
    obtain ⟨h2, hn⟩ := h2
    refine ⟨?_, fun z => ?_⟩
    case refine_2 =>
      rcases hn z with ⟨o', u, n1, n2⟩ | n1
      · rcases h a _ n1 with ⟨C, dx, gs, e⟩ | e
        · cases e
        · exact .inl ⟨o', u, e, n2⟩
      · exact .inr n1
    rcases h2 with (h2 | ⟨o', h2⟩) | h2
    · rcases h a _ h2 with ⟨C, dx, gs, e⟩ | e
      · cases e
      · exact Or.inl (Or.inl e)
    · rcases h a _ h2 with ⟨C, dx, gs, e⟩ | e
      · cases e
      · exact Or.inl (Or.inr ⟨o', e⟩)
    · exact Or.inr h2
  | .ty _, _, p, _ => nomatch p
  | .ptr _, _, p, _ => nomatch p
  | .obj _ _, _, p, _ => nomatch p
  | .slf _ _ _, _, p, _ => nomatch p
  | .dct _, _, p, _ => nomatch p
  | .dcT _, _, p, _ => nomatch p
theorem plain_cutA {K : PySem.W.Frag} {H1 H2 : Hp} (h : ∀ b o, H1 b = some o → (∃ C dx gs, o = .ins C dx gs) ∨ H2 b = some o) : ∀ {ds : List Dt} {vs : List V}, plainDs ds = true → RpA K H1 ds vs → RpA K H2 ds vs
  | [], _, _, r => r
  | d :: ds, _, p, ⟨v, r, h1, h2, h3⟩ => by
    have p' : plainD d = true ∧ plainDs ds = true := by simpa [plainDs] using p
    exact ⟨v, r, h1, plain_cut h p'.1 h2, plain_cutA h p'.2 h3⟩
end
theorem datsO_rep (s : Sim G F e σ H) : ∀ {xs : List Vl} {vs : List V} {ds : List Dt}, VlRs G F e σ H xs vs → datsO e xs = some ds → RpA G.K (cut (F.callO (own e σ) H).V H) (rens (rho G F) ds) vs
  | [], _, ds, h, l => by cases l; exact h
  | x :: xs, _, ds, ⟨v, r, h1, h2, h3⟩, l => by
    unfold datsO at l
    obtain ⟨r0, l0, l1⟩ := Option.bind_eq_some_iff.mp l
    obtain ⟨rs0, l2, l3⟩ := Option.bind_eq_some_iff.mp l1
    cases l3
    have sub : Ex (cut (F.U e σ) H) (cut (F.callO (own e σ) H).V H) := cut_subL (callO_V (own e σ))
    refine ⟨v, r, h1, ?_, datsO_rep s h3 l2⟩
    cases x with
    | d y => cases l0; exact Rp.mono sub h2
    | r i =>
      have l0' : obAt e i = some r0 := l0
      unfold obAt at l0'
      split at l0'
      case h_2 => cases l0'
      rename_i k fs he
      cases l0'
      obtain ⟨y, hy, a, dx, gs, e1, e2, e3⟩ := s.slots.get he
      subst e1
      have e4 := (show σ[i]? = some (some v) from h2).symm.trans hy
      cases e4
      have own_mem : a ∈ own e σ := by
        have gen : ∀ {e : En} {σ : L2.St} {i : Nat} {t : Sl} {a : Addr}, e[i]? = some (some t) → plainS (some t) = false → σ[i]? = some (some (.ref a)) → a ∈ own e σ := by
          intro e
          induction e with
          | nil => intro σ i t a h; simp at h
          | cons s1 e ih1 =>
            intro σ i t a h hp h'
            cases σ with
            | nil => simp at h'
            | cons x1 σ =>
              cases i with
              | zero =>
                have g1 : s1 = some t := by simpa using h
                have g2 : x1 = some (.ref a) := by simpa using h'
                subst g1 g2
                refine List.mem_append_left _ ?_
                cases t with
                | d y => cases hp
                | own y => simp [ownS]
                | ob y z => simp [ownS]
                | dk y => simp [ownS]
              | succ i => exact List.mem_append_right _ (ih1 (by simpa using h) hp (by simpa using h'))
        exact gen he rfl hy
      have na : a ∉ (F.callO (own e σ) H).V := fun z => by
        rcases List.mem_append.mp z with z | z
        · rcases List.mem_append.mp z with z | z
          · exact (s.dis a own_mem).1 z
          · have := (List.mem_filter.mp z).2
            unfold isIns at this
            rw [e2] at this
            simp at this
        · exact (s.dis a own_mem).2 z
      exact ⟨a, dx, gs, rfl, by rw [cut_out na]; exact e2, RpF.mono sub e3⟩
theorem w_Fo (o : G.Ok) {n : Nat} {g : List Dt → Tr Dt} {des : List Dt} {dvs : List V} (hd : ∀ (F : Fr) (Hc : Hp), RpA G.K Hc (rens (rho G F) des) dvs) {as : XA} {Q : VK} (q : tE G (xFo (cF n g des) as) σ H Q) : tCall (spF G n g) dvs E (tA G as) σ H Q := by
  obtain ⟨F, e, s, q⟩ := q
  refine ⟨F, e, s, Tr.All.mono (fun p q vs H1 h1 f1 s1 r1 => ?_) (Tr.all_bind.mp q)⟩
  obtain ⟨ds, hds, q⟩ := Tr.of_all (Tr.all_bind.mp q)
  have q := Tr.all_bind.mp q
  unfold cF at q
  split at q
  case isFalse => exact q.elim
  rename_i hl
  have hr : rho G (F.callO (own p.2 σ) H1) = rho G F := rho_dl (F := F) (F' := F.callO (own p.2 σ) H1) rfl
  refine ⟨F.callO (own p.2 σ) H1, ds ++ des, s1.calleeO, by rw [List.length_append]; exact hl, ?_, Tr.All.mono (fun d q v H2 f2 k2 r2 => ?_) q⟩
  · rw [hr, rens_app]
    exact (datsO_rep s1 r1 hds).append (hd F _)
  · split at q
    case isFalse => exact q.elim
    rename_i hp
    obtain ⟨s2, f3⟩ := s1.calledO f2 k2
    rw [hr, plain_ren _ d hp] at r2
    refine q v H2 h1 (f1.trans (h1 ▸ f3)) s2 ?_
    show Rp G.K (cut (F.U p.2 σ) H2) (ren (rho G F) d) v
    rw [plain_ren _ d hp]
    refine plain_cut (fun b u hb => ?_) hp r2
    obtain ⟨g1, g2⟩ := cut_some hb
    by_cases hU : b ∈ F.U p.2 σ
    · -- only the instance
      rcases List.mem_append.mp hU with z | z
      · exact (g2 (List.mem_append_left _ (List.mem_append_left _ z))).elim
      · rcases List.mem_append.mp z with z | z
        · exact (g2 (List.mem_append_right _ z)).elim
        · cases hi : isIns H1 b with
          | true =>
            obtain ⟨C, dx, gs, e⟩ := isIns_eq hi
            have e2 := f2 b _ (s1.dis b z).2 (by simp) e
            rw [g1] at e2
            cases e2
            exact Or.inl ⟨C, dx, gs, rfl⟩
          | false => exact (g2 (List.mem_append_left _ (List.mem_append_right _ (List.mem_filter.mpr ⟨z, by rw [hi]; rfl⟩)))).elim
    · exact Or.inr (by rw [cut_out hU]; exact g1)
instance {g : List Dt → Tr Dt} {as : XA} [hs : PureA as] : PureE (xFo g as) := ⟨fun e => pure_bind (hs.same e) fun a => pure_of fun b => pure_tr fun c => by
  intro P h
  split
  · rename_i hc
    rw [if_pos hc] at h
    exact pure_ret P h
  · rename_i hc
    rw [if_neg hc] at h
    exact h.elim⟩
theorem m_Fo (o : G.Ok) {n : Nat} {g : List Dt → Tr Dt} {des : List Dt} {dvs : List V} {as : XA} {x : Expr} {E : XK} (h : PE X x (tCall (spF G n g) dvs E (tA G as))) (hd : ∀ (F : Fr) (Hc : Hp), RpA G.K Hc (rens (rho G F) des) dvs) : PE X x (tE G (xFo (cF n g des) as)) := PE.weak h fun σ H Q q => w_Fo o hd q
end
end Mc
namespace Mc
open PySem PySem.Spec PyProof.Rows L2 Evl
def txR : Rv → Bool
  | .d (.tup ds) => txD ds
  | _ => false
def xTm (f : List Rv → Option Dt) (o : XE) (as : XA) : XE := fun e => (o e).bind fun p => (Tr.of ((look p.2 p.1).bind fun r => if txR r = true then some () else none)).bind fun _ => (as p.2).bind fun q => (Tr.of ((looks q.2 (p.1 :: q.1)).bind f)).bind fun d => .ret (.d d, q.2)
instance {f : List Rv → Option Dt} {a : XE} {as : XA} [ha : PureE a] [hs : PureA as] : PureE (xTm f a as) := ⟨fun e => pure_bind (ha.same e) fun v => pure_of fun _ => pure_bind (hs.same e) fun w => pure_of fun d => pure_ret⟩
end Mc
namespace Mc
open PySem PySem.Spec PyProof.Rows L2 Evl
def fBool : List Dt → Option Dt
  | [.int i] => some (.bl (i != 0))
  | [.bl b] => some (.bl b)
  | _ => none
def xTru (f : List Rv → Tr Dt) (a : XE) : XT := fun e => (a e).bind fun p => (Tr.of (look p.2 p.1)).bind fun r => (f [r]).bind fun d => (Tr.of (blV (.d d))).bind fun b => .ret (b, p.2)
def xNotO (f : List Rv → Tr Dt) (a : XE) : XE := fun e => (a e).bind fun p => (Tr.of (look p.2 p.1)).bind fun r => (f [r]).bind fun d => (Tr.of (blV (.d d))).bind fun b => .ret (.d (.bl (!b)), p.2)
instance {f : List Rv → Tr Dt} {a : XE} [ha : PureE a] : PureT (xTru f a) := ⟨fun e => pure_bind (ha.same e) fun v => pure_of fun b => pure_tr fun c => pure_of fun d => pure_ret⟩
instance {f : List Rv → Tr Dt} {a : XE} [ha : PureE a] : PureE (xNotO f a) := ⟨fun e => pure_bind (ha.same e) fun v => pure_of fun b => pure_tr fun c => pure_of fun d => pure_ret⟩
section
variable {G : Gd} {Wx : WX} {F : Fr} {e e' : En} {σ σ' : L2.St} {H H' B : Hp} {X : Cx} {E : XK} {N : Mode} {ρ : Addr → Addr}
def TTk (G : Gd) (r : V → Hp → (Bool → Hp → Prop) → Prop) (f : List Rv → Tr Dt) : Prop := ∀ (F : Fr) (e : En) (σ : L2.St) (H : Hp) (rv : Rv) (v : V) (Q : Bool → Hp → Prop), Sim G F e σ H → RvR (modeOf G F e σ H) (rho G F) H rv v →
  (f [rv]).All (fun d => ∃ b, d = .bl b ∧ ∀ H', Sim G F e σ H' → Fw F (own e σ) H H' → Q b H') → r v H Q
theorem TruR.or {r r' : V → Hp → (Bool → Hp → Prop) → Prop} (h : TruR X r) (h' : TruR X r') : TruR X (fun x H Q => r x H Q ∨ r' x H Q) := fun pins s σ H x v Q I rx q => q.elim (h pins s σ H x v Q I rx) (h' pins s σ H x v Q I rx)
theorem TTk.or {r r' : V → Hp → (Bool → Hp → Prop) → Prop} {f f' : List Rv → Tr Dt} {c : List Rv → Bool} (h : TTk G r f) (h' : TTk G r' f') : TTk G (fun x H Q => r x H Q ∨ r' x H Q) (ifO c f f') := fun F e σ H rv v Q s rr q => by
  unfold ifO at q
  cases hc : c [rv] with
  | true => rw [hc] at q; exact Or.inl (h F e σ H rv v Q s rr q)
  | false => rw [hc] at q; exact Or.inr (h' F e σ H rv v Q s rr q)
end
end Mc
namespace Mc
open PySem PySem.Spec PyProof.Rows L2 Evl
def dkAt (e : En) (i : Nat) : Option (List (Str × Int)) := match e[i]? with
  | some (some (.dk kvs)) => some kvs
  | _ => none
def lookK (k : Str) : List (Str × Int) → Option Int
  | [] => none
  | p :: r => if p.1 = k then some p.2 else lookK k r
def putS (kvs : List (Str × Int)) (k : Str) (v : Int) : List (Str × Int) := if (kvs.any fun p => decide (p.1 = k)) = true then kvs.map (fun p => if p.1 = k then (p.1, v) else p) else kvs ++ [(k, v)]
def sDkN (i : Nat) : XS := fun e => .ret (.nx (e.set i (some (.dk []))))
def xDkG (i : Nat) (b c : XE) : XE := fun e => (Tr.of (dkAt e i)).bind fun _ => (b e).bind fun q => (c q.2).bind fun r => (Tr.of ((strV q.1).bind fun k => (intV r.1).bind fun d => (dkAt r.2 i).bind fun kvs => some ((lookK k kvs).getD d))).bind fun n => .ret (.d (.int n), r.2)
def xDkI (i : Nat) (b : XE) : XE := fun e => (Tr.of (dkAt e i)).bind fun _ => (b e).bind fun q => (Tr.of ((strV q.1).bind fun k => (dkAt q.2 i).bind fun kvs => lookK k kvs)).bind fun n => .ret (.d (.int n), q.2)
def sDkP (i : Nat) (b c : XE) : XS := fun e => (Tr.of (dkAt e i)).bind fun _ => (c e).bind fun p => (b p.2).bind fun q => (Tr.of ((intV p.1).bind fun v => (strV q.1).bind fun k => (dkAt q.2 i).bind fun kvs => if kvs.length < 90000 then some (q.2.set i (some (.dk (putS kvs k v)))) else none)).bind fun e1 => .ret (.nx e1)
def xLcK (i : Nat) (g : XG) (a : XE) (vs : List Nat) : XE := fun e => (Tr.of (dkAt e i)).bind fun kvs => if kvs.length ≤ 50000 ∧ vs.all (noOwn (e.set i none)) = true ∧ (vs.contains i) = false then (lcLoop g yes a (wipeN (e.set i none) vs) (kvs.map fun p => .str p.1) []).bind fun ys => .ret (.d (.lst ys), e) else .stuck
instance {i : Nat} {b c : XE} [hb : PureE b] [hc : PureE c] : PureE (xDkG i b c) := ⟨fun e => pure_of fun _ => pure_bind (hb.same e) fun w => pure_bind (hc.same e) fun z => pure_of fun d => pure_ret⟩
instance {i : Nat} {b : XE} [hb : PureE b] : PureE (xDkI i b) := ⟨fun e => pure_of fun _ => pure_bind (hb.same e) fun w => pure_of fun d => pure_ret⟩
instance {i : Nat} {g : XG} {a : XE} {vs : List Nat} : PureE (xLcK i g a vs) := ⟨fun e => pure_of fun kvs => by
  split
  · exact pure_tr fun d => pure_ret
  · exact pure_stuck⟩
end Mc
namespace Mc
open PySem PySem.Spec PyProof.Rows L2 Evl
theorem rp_nilT {K : PySem.W.Frag} {a : Addr} {o : Obj} {n : Nat} (l : K.lookup a = some o) (hc : o.cls = .type "tuple") (hd : o.data = .seq #[] n) (Hc : Hp) : Rp K Hc (.tup []) (.ref a) :=
  ⟨a, [], rfl, ⟨Or.inr ⟨o, #[], n, l, hc, hd, by simp, .nil⟩, fun z => by cases z⟩, rfl⟩
end Mc
namespace Mc
open PySem PySem.Spec PyProof.Rows L2 Evl
def dBiI (c : Addr) (g : List Dt → Tr Dt) : List Rv → Tr Dt
  | [.d (.obj k fs), .d (.int i)] => if k = c then g [.obj k fs, .int i] else .stuck
  | _ => .stuck
structure ZSt (z TI TO i1 i2 l1 l2 S : Addr) (us ws : List Value) (i : Nat) (h : Heap) : Prop where
  ti : IsPair h TI (.ref i1) (.ref i2)
  h1 : h.IsListIter i1 l1 i
  h2 : h.IsListIter i2 l2 i
  l1 : h.IsList l1 us.toArray
  l2 : h.IsList l2 ws.toArray
  zz : (IsZip h z TI TO .none ∧ ∃ a b, IsPair h TO a b) ∨ ∃ T f oT, IsZipHeld h z TI TO T f ∧ h.get? T = some oT ∧ T ≠ z ∧ T ≠ i1 ∧ T ≠ i2 ∧ T ≠ S
section
variable {P : Program} {w : World} {A : Around} {E : Value → Shared → Prop} {s : Shared} {z TI TO i1 i2 l1 l2 S : Addr} {us ws : List Value} {i : Nat} {h h' : Heap}
theorem ZSt.keep (st : ZSt z TI TO i1 i2 l1 l2 S us ws i h) (hS : S ≠ z ∧ S ≠ TI ∧ S ≠ TO ∧ S ≠ i1 ∧ S ≠ i2 ∧ S ≠ l1 ∧ S ≠ l2) (hk : ∀ b o, b ≠ S → h.get? b = some o → h'.get? b = some o) : ZSt z TI TO i1 i2 l1 l2 S us ws i h' := by
  obtain ⟨a1, a2, a3, a4, a5, a6, a7⟩ := hS
  refine ⟨hk _ _ a2.symm st.ti, st.h1.at fun o q => hk _ o a4.symm q, st.h2.at fun o q => hk _ o a5.symm q, st.l1.at fun o q => hk _ o a6.symm q, st.l2.at fun o q => hk _ o a7.symm q, ?_⟩
  rcases st.zz with ⟨hz, a, b, hTO⟩ | ⟨T, f, oT, hz, hT, r1, r2, r3, r4⟩
  · exact .inl ⟨hk _ _ a1.symm hz, a, b, hk _ _ a3.symm hTO⟩
  · exact .inr ⟨T, f, oT, hk _ _ a1.symm hz, hk _ _ r4 hT, r1, r2, r3, r4⟩
theorem ZSt.type (st : ZSt z TI TO i1 i2 l1 l2 S us ws i s.heap) : s.TypeIs (.ref z) "zip" := by
  rcases st.zz with ⟨hz, _⟩ | ⟨T, f, oT, hz, _⟩
  · exact ⟨_, hz, rfl⟩
  · exact ⟨_, hz, rfl⟩
end
section
variable {X : Cx} {G : Gd}
def fZipL : List Dt → Option Dt
  | [.lst a, .lst b] => some (.lst (a.zipWith (fun x y => .tup [x, y]) b))
  | _ => none
end
end Mc
namespace Mc
open PySem PySem.Spec PyProof.Rows L2 Evl
def gU (gs : XGs) : XG := fun x e => match x with | .tup ds => gs ds e | .lst ds => gs ds e | _ => none
end Mc
namespace Mc
open PySem PySem.Spec PyProof.Rows L2 Evl PySem.W PySem.Calls
def dIBi (c : Addr) (g : List Dt → Tr Dt) : List Rv → Tr Dt
  | [.d (.int i), .d (.obj k fs)] => if k = c then g [.obj k fs, .int i] else .stuck
  | _ => .stuck
def isIK (c : Addr) : List Rv → Bool
  | [.d (.int _), .d (.obj k _)] => k == c
  | _ => false
end Mc
namespace Mc
open PySem PySem.Spec PyProof.Rows L2 Evl PySem.W PySem.Calls
section
variable {G : Gd} {Wx : WX} {X : Cx}
def set3 (i j l : Nat) (e : En) : List D → Tr Fl
  | [a, b, c] => .ret (.nx (((e.set i (some (.d a))).set j (some (.d b))).set l (some (.d c))))
  | _ => .stuck
def sPar3 (i j l : Nat) (as : XA) : XS := fun e => (as e).bind fun p => (Tr.of (dats p.1)).bind fun ds => set3 i j l p.2 ds
end
end Mc
namespace Mc
open PySem PySem.Spec PyProof.Rows L2 Evl
def putD (kvs : List (Key × Dt)) (k : Key) (d : Dt) : List (Key × Dt) := if (kvs.any fun kv => decide (kv.1 = k)) = true then kvs.map (fun kv => if kv.1 = k then (kv.1, d) else kv) else kvs ++ [(k, d)]
def mergeD (kvs more : List (Key × Dt)) : List (Key × Dt) := more.foldl (fun acc kv => putD acc kv.1 kv.2) kvs
def dctE : List (XE × XE) → En → Tr (List (Key × Dt) × En)
  | [], e => .ret ([], e)
  | (k, a) :: r, e => (k e).bind fun p0 => (Tr.of ((dat p0.1).bind keyD)).bind fun kk => (a p0.2).bind fun p => (Tr.of (dat p.1)).bind fun d => (dctE r p.2).bind fun q => .ret ((kk, d) :: q.1, q.2)
def xDctE (ps : List (XE × XE)) : XE := fun e => if ps.length ≤ 15 then (dctE ps e).bind fun q => .ret (.d (.dct (mergeD [] q.1)), q.2) else .stuck
section
variable {G : Gd} {Wx : WX} {F : Fr} {e e' : En} {σ σ' : L2.St} {H H' B : Hp} {X : Cx} {E : XK} {N : Mode} {ρ : Addr → Addr} {K : PySem.W.Frag} {Hc : Hp}
theorem RpK.app : ∀ {fs fs' : List (Key × Dt)} {gs gs' : List (Key × V)}, RpK K Hc (renK ρ fs) gs → RpK K Hc (renK ρ fs') gs' → RpK K Hc (renK ρ (fs ++ fs')) (gs ++ gs')
  | [], _, _, _, h, h' => by rw [show _ = [] from h]; exact h'
  | f :: fs, _, _, _, ⟨v, r, h1, h2, h3⟩, h' => by
    rw [h1]
    exact ⟨v, _, rfl, h2, RpK.app h3 h'⟩
theorem RpK.any {k : Key} : ∀ {fs : List (Key × Dt)} {gs : List (Key × V)}, RpK K Hc (renK ρ fs) gs → (gs.any fun kv => decide (kv.1 = k)) = fs.any fun kv => decide (kv.1 = k)
  | [], _, h => by rw [show _ = [] from h]; rfl
  | f :: fs, _, ⟨v, r, h1, h2, h3⟩ => by
    rw [h1, List.any_cons, List.any_cons, RpK.any h3]
theorem RpK.mapk {k : Key} {d : Dt} {v : V} (r : Rp K Hc (ren ρ d) v) : ∀ {fs : List (Key × Dt)} {gs : List (Key × V)}, RpK K Hc (renK ρ fs) gs → RpK K Hc (renK ρ (fs.map fun kv => if kv.1 = k then (kv.1, d) else kv)) (gs.map fun kv => if kv.1 = k then (kv.1, v) else kv)
  | [], _, h => by rw [show _ = [] from h]; exact rfl
  | f :: fs, _, ⟨w, t, h1, h2, h3⟩ => by
    have ih := RpK.mapk (k := k) r h3
    rw [h1, List.map_cons, List.map_cons]
    by_cases hk : f.1 = k
    · rw [if_pos hk, if_pos (show (f.1, w).1 = k from hk)]
      exact ⟨v, _, rfl, r, ih⟩
    · rw [if_neg hk, if_neg (show ¬ (f.1, w).1 = k from hk)]
      exact ⟨w, _, rfl, h2, ih⟩
theorem RpK.put {k : Key} {d : Dt} {v : V} {fs : List (Key × Dt)} {gs : List (Key × V)} (h : RpK K Hc (renK ρ fs) gs) (r : Rp K Hc (ren ρ d) v) : RpK K Hc (renK ρ (putD fs k d)) (putK gs k v) := by
  unfold putD putK
  rw [h.any (k := k)]
  split
  · exact RpK.mapk r h
  · exact RpK.app h ⟨v, [], rfl, r, rfl⟩
theorem RpK.len : ∀ {fs : List (Key × Dt)} {gs : List (Key × V)}, RpK K Hc (renK ρ fs) gs → gs.length = fs.length
  | [], _, h => by rw [show _ = [] from h]; rfl
  | f :: fs, _, ⟨v, r, h1, _, h3⟩ => by rw [h1, List.length_cons, List.length_cons, RpK.len h3]
end
end Mc
namespace Mc
open PySem PySem.Spec PyProof.Rows L2 Evl
structure SxC (P : Program) (K : PySem.W.Frag) (C fI : Addr) (n : Str) : Prop where
  o : OexC K C
  no : PySem.W.findIn K (.ref C) n = some none
  ini : PySem.W.findIn K (.ref C) "__init__" = some (some (.ref fI))
  tI : PySem.W.typeIn K (.ref fI) = some (.type "function")
  al : PySem.W.ks_superIn K C C "__init__" = some (some (.builtin "ValueError.__init__"))
  op : PySem.W.nsIn K cStatics "thirdparty.any" = some none
  sub : PySem.W.mroIn K C (.ref C) = some true
  vB : PySem.W.subIn K (.ref C) (.type "ValueError") = some true
  fn : ∃ (oc : Value) (od : Option Addr) (osl : Array (Option Value)) (nm qual : Str) (params : Arguments) (scope : Scope) (dV kV doc pm : Value) (an : Option Addr) (ct : Value) (cc cda : Addr) (p0 p1 p2 p3 p4 p5 p6 p7 p8 p9 : Pos) (ar : Arg),
    K.lookup fI = some ⟨oc, od, .func (PySem.W.fnX nm qual params [.Expr (.Call (.Attribute (.Call (.Name "super" p0) [] [] p1) "__init__" p2) [.Name n p3] [] p4) p5, .Assign [.Attribute (.Name "self" p6) n p7] (.Name n p8) p9] scope [("__class__", cc)] dV kV doc pm an (.ref cda) ct), osl⟩ ∧
    PySem.W.codeIn K (.ref cda) qual = true ∧ (params.posonlyargs ++ params.args).head? = some ar ∧ ar.arg = "self" ∧
    scope.names.lookup ("super" : Str) = some .globalImplicit ∧ scope.names.lookup ("__class__" : Str) = some .free ∧ scope.names.lookup ("self" : Str) = some .local ∧ scope.names.lookup n = some .local ∧ scope.kind = .function ∧ scope.isCoroutine = false ∧ scope.isGenerator = false ∧
    (∀ x ∈ scope.names, x.2 ≠ .cell) ∧ (∃ cl cld csl, K.lookup cc = some ⟨cl, cld, .cell (some (.ref C)), csl⟩) ∧
    (∃ ccl cdd vs ccs file tf, K.lookup cda = some ⟨ccl, cdd, .fields vs, ccs⟩ ∧ vs[2]? = some (.str file tf) ∧ ((P.main.file : Str) == file) = true) ∧
    Binds K (PySem.W.fnX nm qual params [.Expr (.Call (.Attribute (.Call (.Name "super" p0) [] [] p1) "__init__" p2) [.Name n p3] [] p4) p5, .Assign [.Attribute (.Name "self" p6) n p7] (.Name n p8) p9] scope [("__class__", cc)] dV kV doc pm an (.ref cda) ct) ["self", n] [] ∧
    (∀ L, interactive (callEnv (PySem.W.fnX nm qual params [.Expr (.Call (.Attribute (.Call (.Name "super" p0) [] [] p1) "__init__" p2) [.Name n p3] [] p4) p5, .Assign [.Attribute (.Name "self" p6) n p7] (.Name n p8) p9] scope [("__class__", cc)] dV kV doc pm an (.ref cda) ct) L fI) = false ∧
      swapsWith (.Call (.Attribute (.Call (.Name "super" p0) [] [] p1) "__init__" p2) [.Name n p3] [] p4) none p5.line (callEnv (PySem.W.fnX nm qual params [.Expr (.Call (.Attribute (.Call (.Name "super" p0) [] [] p1) "__init__" p2) [.Name n p3] [] p4) p5, .Assign [.Attribute (.Name "self" p6) n p7] (.Name n p8) p9] scope [("__class__", cc)] dV kV doc pm an (.ref cda) ct) L fI) = pure false ∧
      swapsWith (.Name n p8) (some (.Attribute (.Name "self" p6) n p7)) p9.line (callEnv (PySem.W.fnX nm qual params [.Expr (.Call (.Attribute (.Call (.Name "super" p0) [] [] p1) "__init__" p2) [.Name n p3] [] p4) p5, .Assign [.Attribute (.Name "self" p6) n p7] (.Name n p8) p9] scope [("__class__", cc)] dV kV doc pm an (.ref cda) ct) L fI) = pure false ∧
      ∃ pl : Sem Bool, eval (.Call (.Attribute (.Call (.Name "super" p0) [] [] p1) "__init__" p2) [.Name n p3] [] p4) (callEnv (PySem.W.fnX nm qual params [.Expr (.Call (.Attribute (.Call (.Name "super" p0) [] [] p1) "__init__" p2) [.Name n p3] [] p4) p5, .Assign [.Attribute (.Name "self" p6) n p7] (.Name n p8) p9] scope [("__class__", cc)] dV kV doc pm an (.ref cda) ct) L fI) = (do
        let ov ← attributeBase (.Call (.Name "super" p0) [] [] p1) "__init__" (callEnv (PySem.W.fnX nm qual params [.Expr (.Call (.Attribute (.Call (.Name "super" p0) [] [] p1) "__init__" p2) [.Name n p3] [] p4) p5, .Assign [.Attribute (.Name "self" p6) n p7] (.Name n p8) p9] scope [("__class__", cc)] dV kV doc pm an (.ref cda) ct) L fI) (eval (.Call (.Name "super" p0) [] [] p1) (callEnv (PySem.W.fnX nm qual params [.Expr (.Call (.Attribute (.Call (.Name "super" p0) [] [] p1) "__init__" p2) [.Name n p3] [] p4) p5, .Assign [.Attribute (.Name "self" p6) n p7] (.Name n p8) p9] scope [("__class__", cc)] dV kV doc pm an (.ref cda) ct) L fI))
        standAt p2.atName
        let (f, first) ← holding [ov] (getMethod ov "__init__" pl)
        callWith p4 f first (backTo p4 (starEach [.Name n p3] (callEnv (PySem.W.fnX nm qual params [.Expr (.Call (.Attribute (.Call (.Name "super" p0) [] [] p1) "__init__" p2) [.Name n p3] [] p4) p5, .Assign [.Attribute (.Name "self" p6) n p7] (.Name n p8) p9] scope [("__class__", cc)] dV kV doc pm an (.ref cda) ct) L fI))) []))
  db : (n == ("__debug__" : Str)) = false
  top : (P.main.scope.names.lookup ("super" : Str)).isSome = false
  ns : n ≠ "self"
section
variable {prog : Program} {w : World} {A : Around} {E : Value → Shared → Prop} {h : Heap} {g : Array GenState} {d : Drawn} {t : Nat} {os : OsState}
variable {nm q : Str} {C N : Addr} {bs bm : List Value} {hdct : Bool} {sn : List Str} {sub : List Value} {ab : Bool} {col : Option Bool} {dd : Option Addr} {k0 k1 k2 k3 k5 : Option Value}
theorem call_mw {u e t0 : Addr} {rest : List Value} {Q : Value → Shared → Prop}
    (hC : h.get? C = some (excClassObj nm q C N bs bm hdct sn sub ab col dd k0 k1 k2 k3 k5 "ValueError.__new__")) (he : h.get? e = some (HandSPX.excO C t0)) (hu : h.get? u = some (PySem.W.kxs_mw "ValueError.__init__" e)) (hrest : rest.length ≤ sizeLine)
    (hq : ∀ h' t1, (∀ b o, b ≠ e → h.get? b = some o → h'.get? b = some o) → h'.get? e = some (HandSPX.excO C t1) → Q .none ⟨h', g, d, t, os⟩) :
    wpAny (model prog w) A (call (.ref u) rest) Q E ⟨h, g, d, t, os⟩ := by
  refine wpAny_call (codeAny_of_tree ?_)
  show wpAny _ A.in1 (callAny (.ref u) ⟨rest, []⟩) _ _ _
  simp only [callAny]
  refine wpAny_bind (wpAny_load hu ?_)
  simp only [PySem.W.kxs_mw, show (Value.type "method-wrapper" == Value.type "method" || Value.type "method-wrapper" == Value.type "builtin_function_or_method" || Value.type "method-wrapper" == Value.type "method-wrapper") = true by decide, if_true]
  refine PySem.W.KFB.if_so (by decide) ?_
  refine wpAny_bind (PySem.W.check_bound_init F.excBase_ValueError.toExcCallFacts hC he rfl ?_)
  refine wpAny_bind (wpAny_pure (wpAny_pure ?_))
  refine ⟨plainId_quiet F.excBase_ValueError.init.plain _, codeAny_builtin F.excBase_ValueError.initEntry ?_⟩
  exact PySem.W.exc_init_tree (cls := .ref C) (t0 := t0) (dv := none) (c2 := .none) (c3 := .none) (b4 := .bool false) he hrest fun h' k e' _ => hq h' _ k e'
end
def tMkX (C : Addr) (n : Str) (t : TA) : L2.St → Hp → XK → Prop := fun σ H Q => t σ H fun vs H1 => ∃ y, vs = [y] ∧ ∀ dx, H1 dx = none → Q (.ref C) (some dx) (upd H1 dx (.xd [(n, y)]))
section
variable {X : Cx}
theorem ns_put {h h' : Heap} {L : Addr} {m : Str → Option Value} (hn : h.Ns L m) (k : ∀ o, h.get? L = some o → h'.get? L = some o) : h'.Ns L m := by
  obtain ⟨o, es, ep, h1, h2⟩ := hn
  exact ⟨o, es, ep, k _ h1, h2⟩
theorem pmk_sup {x n : Str} {C fI : Addr} {e : Expr} {ta : TA} {p pos : Pos} (T : SxC X.prog X.K C fI n) (hr : Room 2 X.A) (hg : Gl X x) (hm : X.mg x = some (.ref C)) (ms : X.mg "super" = none) (ha : PA X [e] ta)
    (hdb : (x == ("__debug__" : Str)) = false := by decide) (he : starEach [e] X.env = (false, eval e X.env) :: starEach [] X.env := by rfl) (hpl : (backTo pos (starEach [] X.env)).any (·.1) = false := by rfl) :
    PMk X (.Call (.Name x p) [e] [] pos) (tMkX C n ta) := by
  intro pins s σ H Q I h
  obtain ⟨nm, q, N, bs, bm, sn, sub, ab, col, dd, k0, k1, k2, k3, k5, hC, hbm⟩ := T.o.cls
  have hcl : PySem.W.clsIn X.K C = some { name := nm, bases := bs, mro := .ref C :: bm, ns := N, qualname := q, hasDict := true, slotNames := sn, subclasses := sub, abstract := ab, collection := col, hasDel := false } := by unfold PySem.W.clsIn; rw [hC] <;> rfl
  obtain ⟨oc, od, osl, fnm, qual, params, scope, dV, kV, doc, pm, an, ct, cc, cda, p0, p1, p2, p3, p4, p5, p6, p7, p8, p9, ar, lk, hcd, har, har2, ks, kc, kself, kn, kind, co, gen, nocell, ⟨cl, cld, csl, hcell⟩, ⟨ccl, cdd, vs, ccs, file, tf, hcda, hvs, hfile⟩, hb, hforms⟩ := T.fn
  obtain ⟨a1, a2, a3⟩ := ar
  dsimp only at har2
  subst har2
  generalize hfd : PySem.W.fnX fnm qual params [.Expr (.Call (.Attribute (.Call (.Name "super" p0) [] [] p1) "__init__" p2) [.Name n p3] [] p4) p5, .Assign [.Attribute (.Name "self" p6) n p7] (.Name n p8) p9] scope [("__class__", cc)] dV kV doc pm an (.ref cda) ct = fd at lk hb hforms
  refine wpAny_Call_Name_kw (ld_glob I hg hm ?_ hdb)
  refine PySem.W.callWith_K (h₀ := X.base) I.ok.mod.kin T.o.kC (thn (ha.run pos pins s σ H _ I h) fun us s1 ⟨vs, H1, I1, r1, y, hvs1, q1⟩ => ⟨I1.kIn, ?_⟩) he hpl
  subst hvs1
  cases r1 with
  | @cons _ u _ ur ru rn =>
  cases rn
  obtain ⟨hp, g, dr, tk, os⟩ := s1
  show wpAny _ _ (call (.ref C) [u]) _ _ _
  have sz : ([u] : List Value).length ≤ sizeLine := by rw [sizeLine_eq]; simp
  refine wpAny_call (PySem.HandSPX.call_own F.excBase_ValueError (fun Y => PySem.HandSPX.refsVE_contains Y bm hbm) (I1.kIn _ _ hC) (PySem.W.looks_findIn I1.kIn T.ini) (fun self => PySem.W.bind_fn I1.kIn self T.tI) sz ?_)
  have kk : ∀ b o, hp.get? b = some o → ((hp.push (PySem.W.kdv_tup [u])).push (PySem.HandSPX.excO C hp.objs.size)).get? b = some o := fun b o e => Heap.get?_push_of_some _ (Heap.get?_push_of_some _ e)
  have hget : ((hp.push (PySem.W.kdv_tup [u])).push (PySem.HandSPX.excO C hp.objs.size)).get? (hp.objs.size + 1) = some (PySem.HandSPX.excO C hp.objs.size) := by heap_get
  have fresh : ∀ {b : Addr} {o : Obj}, hp.get? b = some o → b ≠ hp.objs.size + 1 := fun {b o} e => Nat.ne_of_lt (Nat.lt_succ_of_lt (Heap.lt_size e))
  generalize hh1 : (hp.push (PySem.W.kdv_tup [u])).push (PySem.HandSPX.excO C hp.objs.size) = h1 at kk hget
  generalize hea : hp.objs.size + 1 = ea at hget fresh
  have K1 : X.K.In h1 := fun b o e => kk b o (I1.kIn b o e)
  have hb1 := hb ⟨h1, g, dr, tk, os⟩ [.ref ea, u] K1 rfl
  have hle : ea < h1.objs.size := Heap.lt_size hget
  have nse : (("self" : Str) == n) = false := by
    cases z : (("self" : Str) == n) with
    | false => rfl
    | true => exact (T.ns (beq_iff_eq.mp z).symm).elim
  have nes : (n == ("self" : Str)) = false := by
    cases z : (n == ("self" : Str)) with
    | false => rfl
    | true => exact (T.ns (beq_iff_eq.mp z)).elim
  have lself : ([(("self" : Str), Value.ref ea), (n, u)] : List (Str × Value)).reverse.lookup ("self" : Str) = some (Value.ref ea) := by
    show (match (("self" : Str) == n) with | true => some u | false => (match (("self" : Str) == ("self" : Str)) with | true => some (Value.ref ea) | false => none)) = _
    rw [nse]
    rfl
  have ln : ([(("self" : Str), Value.ref ea), (n, u)] : List (Str × Value)).reverse.lookup n = some u := by
    show (match (n == n) with | true => some u | false => _) = _
    rw [beq_self_eq_true]
  have bodyE : fd.body = .stmts [.Expr (.Call (.Attribute (.Call (.Name "super" p0) [] [] p1) "__init__" p2) [.Name n p3] [] p4) p5, .Assign [.Attribute (.Name "self" p6) n p7] (.Name n p8) p9] := by rw [← hfd]
  have scopeE : fd.scope = scope := by rw [← hfd]
  refine ks_codeAny_call_defAt (fd := fd) (binds := [("self", .ref ea), (n, u)]) (hr.make C [u] []).depth (K1 _ _ lk) rfl (I1.ok.mod.nolimit.keeps fun b o e => kk b o (I1.bk b o e)) (by rw [← hfd]; exact PySem.W.codeRec_of K1 hcd) bodyE hb1 (by rw [scopeE]; exact nocell) (fun z hz => ?_) (fun h0 hns k0' => ?_) (by rw [scopeE]; exact co) (by rw [scopeE]; exact gen) (by rw [scopeE]; exact kind)
  · rw [scopeE]
    rcases List.mem_cons.mp hz with rfl | hz
    · exact kself
    · rw [List.mem_singleton.mp hz]
      exact kn
  obtain ⟨fi, fs1, fs2, pl, fe⟩ := hforms h1.objs.size
  have envK : (callEnv fd h1.objs.size fI).scope = scope := scopeE
  have envC : (callEnv fd h1.objs.size fI).code = .ref cda := by rw [← hfd] <;> rfl
  have envF : (callEnv fd h1.objs.size fI).func = some fI := rfl
  have envL : (callEnv fd h1.objs.size fI).locals = h1.objs.size := rfl
  have envG : (callEnv fd h1.objs.size fI).globals = mainGlobals := by rw [← hfd] <;> rfl
  have envB : (callEnv fd h1.objs.size fI).builtins = builtinsNs := by rw [← hfd] <;> rfl
  have envX : (callEnv fd h1.objs.size fI).cells = [(("__class__" : Str), cc)] := by rw [← hfd] <;> rfl
  have parE : (fd.params.posonlyargs ++ fd.params.args).head? = some ⟨"self", a2, a3⟩ := by rw [← hfd]; exact har
  generalize henv : callEnv fd h1.objs.size fI = env at fi fs1 fs2 fe envK envC envF envL envG envB envX
  have kind' : env.scope.kind = .function := by rw [envK]; exact kind
  have ko : ∀ {z : Str} {k : NameKind}, scope.names.lookup z = some k → env.kindOf z = some k := fun {z k} hz => by
    show env.scope.names.lookup z = some k
    rw [envK]
    exact hz
  have K0 : X.K.In h0 := fun b o e => k0' b o (K1 b o e)
  have he0 := k0' _ _ hget
  obtain ⟨mb, hblt1, hblt2⟩ := I1.mod.blt
  have bk0 : ∀ b o, X.base.get? b = some o → h0.get? b = some o := fun b o e => k0' b o (kk b o (I1.bk b o e))
  refine ks_wpAt_execs_cons (ks_wpAt_Expr_any (ks_wpAt_MethodCall (pl := pl) ?_ fe) fi fs1)
  refine ks_wpAt_super_base (of := _) (oc := _) (ko ks) (ko kc) (by decide) envF (k0' _ _ (K1 _ _ lk)) rfl parE envC (k0' _ _ (K1 _ _ hcda)) rfl hvs hfile T.top ?_
  refine PySem.W.ks_loadName_global kind' (ko ks) (Calls.loadGlobal_builtin (by rw [envG]; exact I1.mod.glob.keeps bk0) ms (by rw [envB]; exact hblt1.keeps bk0) ((hblt2 "super" (by decide)).trans PyProof.Rows.Boot.«super») ⟨rfl, ?_⟩)
  refine wpAny_loadName_free kind' (ko kc) (by rw [envX]; rfl) ⟨_, k0' _ _ (K1 _ _ hcell), rfl⟩ ?_
  refine wpAny_loadName_local kind' (ko kself) (by rw [envL]; exact hns) lself ?_
  refine ks_wpAny_isType_cls (k0' _ _ (K1 _ _ hC)) rfl ⟨rfl, ?_⟩
  refine ks_wpAny_call_super (k0' _ _ (K1 _ _ hC)) rfl he0 rfl (fun c z => by cases z) (PySem.W.looks_mroIn K0 T.sub) (fun h2 hso k2 => ?_)
  have K2 : X.K.In h2 := fun b o e => k2 b o (K0 b o e)
  have he2 := k2 _ _ he0
  have nC : ea ≠ C := fun z => by
    rw [z] at hget
    have y := (K1 _ _ hC).symm.trans hget
    cases y
  have IA : PySem.W.InstAt h2 ea (PySem.HandSPX.excO C hp.objs.size) C none := ⟨he2, rfl, rfl, trivial⟩
  have al' : PySem.W.alongIn X.K "__init__" (((Value.ref C :: bm).dropWhile (· != .ref C)).drop 1) = some (some (.builtin "ValueError.__init__")) := by
    have z := T.al
    unfold PySem.W.ks_superIn at z
    rw [hcl] at z
    exact z
  refine PySem.W.kxs_getMethod PySem.W.kxs_ValueError hso (PySem.W.looks_opaque K2 T.op) (l₀ := .ref C :: bm) (fun A Q E s k q => wpAny_bind ((PySem.W.looks_clsIn K2 hcl) A _ E s k (wpAny_pure q))) rfl K2 al' (IA.type.andThen (PySem.W.looks_subIn K2 T.vB)) nC (by decide) ?_
  have ns3 : (h2.push (PySem.W.kxs_mw "ValueError.__init__" ea)).Ns h1.objs.size (fun x => ([(("self" : Str), Value.ref ea), (n, u)] : List (Str × Value)).reverse.lookup x) := ns_put hns fun o e => Heap.get?_push_of_some _ (k2 _ _ e)
  have he3 : (h2.push (PySem.W.kxs_mw "ValueError.__init__" ea)).get? ea = some (PySem.HandSPX.excO C hp.objs.size) := Heap.get?_push_of_some _ he2
  have hu3 : (h2.push (PySem.W.kxs_mw "ValueError.__init__" ea)).get? h2.objs.size = some (PySem.W.kxs_mw "ValueError.__init__" ea) := Heap.get?_push_size _ rfl
  have kk3 : ∀ b o, h0.get? b = some o → (h2.push (PySem.W.kxs_mw "ValueError.__init__" ea)).get? b = some o := fun b o e => Heap.get?_push_of_some _ (k2 _ _ e)
  generalize h2.push (PySem.W.kxs_mw "ValueError.__init__" ea) = hh3 at ns3 he3 hu3 kk3
  have K3 : X.K.In hh3 := fun b o e => kk3 b o (K0 b o e)
  refine PySem.W.kxs_callWith (i := "ValueError.__init__") (x := ea) rfl ?_
  refine Calls.evalArgs_plain (x := eval (.Name n p3) env) (rest := []) (Calls.spliced_cons (wpAny_Name (wpAny_loadName_local kind' (ko kn) (by rw [envL]; exact ns3) ln (Calls.spliced_nil ?_)) T.db))
  refine ⟨hu3, call_mw (K3 _ _ hC) he3 hu3 sz fun h4 t1 k4 he4 => ?_⟩
  have K4 : X.K.In h4 := fun b o e => k4 b o (fresh (I1.kIn b o e)) (K3 b o e)
  have ns4 : h4.Ns h1.objs.size (fun x => ([(("self" : Str), Value.ref ea), (n, u)] : List (Str × Value)).reverse.lookup x) := ns_put ns3 fun o e => k4 _ _ (Nat.ne_of_gt hle) e
  refine ks_wpAt_execs_cons (ks_wpAt_Assign_Attr (wpAt_of_wpAny (wpAny_Name (wpAny_loadName_local kind' (ko kn) (by rw [envL]; exact ns4) ln ?_) T.db)) fs2)
  refine wpAny_Name (wpAny_loadName_local kind' (ko kself) (by rw [envL]; exact ns4) lself ?_) (by decide)
  refine PySem.W.set_plain K4 (ox := PySem.HandSPX.excO C t1) (od := none) ⟨he4, rfl, rfl, trivial⟩ T.o.sa ?_
  refine PySem.HandSPX.exc_osa K4 he4 hcl (show PySem.HandSPX.refsVE (.ref C :: bm) = true from hbm) rfl T.no (fun h5 tk' dx k5 dn dne hx hn => ?_)
  refine wpAt_of_wpAny (wpAny_execs_nil ?_)
  refine ⟨rfl, ?_⟩
  have hpk : ∀ b o, hp.get? b = some o → h5.get? b = some o := fun b o e => k5 b o (fresh e) (k4 b o (fresh e) (kk3 b o (k0' b o (kk b o e))))
  obtain ⟨GG, g1, g2⟩ := restrict h5 fun b => decide (b ≠ ea)
  have gk : ∀ b, b ≠ ea → GG.get? b = h5.get? b := fun b hb => g1 b (decide_eq_true hb)
  have ge : GG.get? ea = none := g2 ea (by simp)
  have hle2 : hp.objs.size ≤ dx := by
    have z := Heap.lt_size he4
    have y : hp.objs.size ≤ ea := by rw [← hea]; exact Nat.le_succ _
    exact Nat.le_trans y (Nat.le_trans (Nat.le_of_lt z) dn)
  have hd0 : H1 dx = none := I1.hok.fresh hle2
  have rel : ∀ f, RelO (([(n, y)] : List (Str × V)).lookup f) (if f = n then some u else none) := relO_put (fs := []) ru fun g => True.intro
  have J := I1.laid (t' := tk) (a := dx) (o := .xd [(n, y)]) (h' := GG) (fun b o e => (gk b (fresh e)).trans (hpk b o e)) hle2 ⟨_, hn.at fun o z => (gk dx dne).trans z, rel⟩
  refine ⟨ea, _, _, ⟨GG, g, dr, tk, os⟩, _, .ref C, some dx, rfl, J, fun b o e => ?_, ge, hx, ⟨rfl, rfl⟩, rfl, rfl, ?_, rfl, I1.bare, raises_own T.o.exC T.o.tyC, q1 dx hd0⟩
  · by_cases z : b = ea
    · rw [z] at e
      exact nomatch ge.symm.trans e
    · exact (gk b z).symm.trans e
  · rw [upd_ne (Ne.symm dne)]
    exact I1.hok.fresh (show hp.objs.size ≤ ea by rw [← hea]; exact Nat.le_succ _)
end
end Mc
namespace Mc
open PySem PySem.Spec PyProof.Rows L2 Evl
inductive Rs where
  | ok (d : D) | ex (k : Addr) (n : Str) (d : D)
def sRaise (k : Addr) (n : Str) (a : XE) : XS := fun e => (a e).bind fun p => (Tr.of (dat p.1)).bind fun d => .ret (.xc k n d p.2)
def sDropX (g : List D → Tr Rs) (as : XA) : XS := fun e => (as e).bind fun p => (Tr.of (dats p.1)).bind fun ds => (g ds).bind fun r => match r with
  | .ok _ => .ret (.nx p.2)
  | .ex k n d => .ret (.xc k n d p.2)
def sTryK (b : XS) (ks : List (Addr × Str)) (i j : Nat) : XS := fun e => (b e).bind fun f => match f with
  | .xc k n d e1 => if ks.contains (k, n) = true ∧ i < e1.length ∧ j < e1.length then .ret (.nx ((e1.set j (some (.d d))).set i none)) else .stuck
  | f => .ret f
def endX : Fl → Tr Rs
  | .nx _ => .ret (.ok .non)
  | .rt v e => (Tr.of (resD e v)).bind fun d => .ret (.ok d)
  | .xc k n d _ => .ret (.ex k n d)
  | _ => .stuck
def runX (n : Nat) (b : XS) (args : List D) : Tr Rs := (b (startN n (args.map .d))).bind endX
def endIX : Fl → Tr Rs
  | .nx e => (Tr.of (obAt e 0)).bind fun d => .ret (.ok d)
  | .xc k n d e => Tr.of (if (obAt e 0).isSome = true then some (.ex k n d) else none)
  | _ => .stuck
def makeX (k : Addr) (n : Nat) (b : XS) (args : List D) : Tr Rs := (b (startN n (.ob k [] :: args.map .d))).bind endIX
def cX (n : Nat) (g : List Dt → Tr Rs) (des : List Dt) : List Dt → Tr Rs := fun ds => if ds.length + des.length = n then g (ds ++ des) else .stuck
section
variable {G : Gd} {Wx : WX} {F : Fr} {e e' : En} {σ σ' : L2.St} {H H' B : Hp} {X : Cx} {D : Ends}
theorem m_raise (o : G.Ok) {C fI k : Addr} {n x : Str} {a : XE} {ex : Expr} {p pos pos2 : Pos} (T : SxC X.prog X.K C fI n) (hC : G.ca k = C) (hc : X.calm = true) (tk : L2.Takes X Wx) (hr : Room 2 X.A) (hg : Gl X x) (hm : X.mg x = some (.ref C)) (ms : X.mg "super" = none) (ha : PE X ex (tE G a))
    (hdb : (x == ("__debug__" : Str)) = false := by decide) (he : starEach [ex] X.env = (false, eval ex X.env) :: starEach [] X.env := by rfl) (hpl : (backTo pos (starEach [] X.env)).any (·.1) = false := by rfl) :
    PS X (.Raise (some (.Call (.Name x p) [ex] [] pos)) none pos2) (tS G Wx (sRaise k n a)) := PS.weak (ps_raise hc tk (pmk_sup T hr hg hm ms (m_cons ha m_nil he) hdb he hpl)) fun D σ H q => by
  obtain ⟨F, B, e, s, b, q⟩ := q
  refine ⟨F, e, s, Tr.all_bind.mpr (Tr.All.mono (fun p q => ?_) (Tr.all_bind.mp q))⟩
  intro vs H1 h1 f1 s1 r1
  obtain ⟨d, hd, q⟩ := Tr.of_all (Tr.all_bind.mp q)
  obtain ⟨y, rr, rfl, ry, rn⟩ := r1
  have hp : p.1 = .d d := by
    revert hd
    cases p.1 with
    | d z => intro hd; cases hd; rfl
    | r i => intro hd; cases hd
  rw [hp] at ry
  refine ⟨y, by rw [show rr = [] from rn], fun dx hdx => ?_⟩
  obtain ⟨s2, f2⟩ := s1.ext o (Ex.new (o := .xd [(n, y)]) hdx)
  have z := q σ (upd H1 dx (.xd [(n, y)])) dx y s2 ((b.fw h1 f1).fw rfl f2) upd_same (Rp.mono f2.ex ry)
  rw [hC] at z
  exact z
end
end Mc
namespace Mc
open PySem PySem.Spec PyProof.Rows L2 Evl
structure EkC (K : PySem.W.Frag) (C : Addr) (n : Str) : Prop where
  xf : XfC K C
  no : PySem.W.findIn K (.ref C) n = some none
  cl : (PySem.W.clsIn K C).isSome = true
  ha : PySem.W.findIn K (.ref C) "__class__" = some (some (.builtin "object.__class__"))
  hn : PySem.W.specialIn K (.builtin "object.__class__") "__get__" = some (some (.builtin "getset_descriptor.__get__"))
  ht : PySem.W.takesIn K (.builtin "object.__class__") = some true
  hm : PySem.W.mroIn K C (.type "object") = some true
def rIsED (K : PySem.W.Frag) (D a dx : Addr) : List V → Hp → VK → Prop := fun xs H Q => ∃ (c : V) (cv : Value) (b : Bool) (fs : List (Str × V)), xs = [.ref a, c] ∧ (∀ u, RelV c u → u = cv) ∧ PySem.W.kitOne K (.ref D) cv = some b ∧ H dx = some (.xd fs) ∧ Q (.bl b) H
theorem call_isED {X : Cx} {a D dx : Addr} {n : Str} {oe : Obj} {pn : List (Addr × Obj)} (C : EkC X.K D n) (hz : Zc (.ref D) (some dx) oe) (hf : ∃ vs, oe.data = .fields vs) : CallR (X.suite a ((a, oe) :: pn)) (.builtin "isinstance") (rIsED X.K D a dx) := by
  intro pins s σ H xs us Q I r h
  obtain ⟨c, cv, b, fs, rfl, hcv, e, hd, q⟩ := h
  cases r with
  | cons rx rr =>
    cases rr with
    | cons rt rr =>
      cases rr
      cases rx
      have ec := hcv _ rt
      subst ec
      obtain ⟨hget, _⟩ := I.pin (a, oe) (List.mem_append.mpr (.inl List.mem_cons_self))
      obtain ⟨vs, hv⟩ := hf
      have hx : ObjOk X.prog X.w H s.heap dx (.xd fs) := I.hok dx _ hd
      obtain ⟨mA, hns, hr⟩ := hx
      obtain ⟨od, ho, hl⟩ := lookIn_ns hns
      have J : PySem.W.InstAt s.heap a oe D (some od) := ⟨hget, hz.1, by unfold PySem.W.notCls; rw [hv] <;> rfl, by rw [hz.2]; exact ho⟩
      exact PySem.W.kia_one (PySem.W.kitx_exc C.cl C.xf.ga C.xf.gg C.xf.exC C.ha C.hn C.ht C.hm) I.kIn J e (fun z => nomatch z) fun tk => ⟨.bl b, H, I.kept (t' := tk) fun _ _ z => z, rfl, q⟩
def tKeep (C a : Addr) (cls : Value) (d : Option Addr) (f : Str) (i j : Nat) : TS := fun D σ H => ∃ dx v, cls = .ref C ∧ d = some dx ∧ σ[i]? = some (some (.ref a)) ∧ H dx = some (.xd [(f, v)]) ∧ D.nx (σ.set j (some v)) H
section
variable {X : Cx} {C a CA CB : Addr} {cls : Value} {d : Option Addr} {f en xn An Bn : Str} {i j : Nat} {oe : Obj} {pn : List (Addr × Obj)} {q1 q2 q3 q4 q5 q6 q7 q8 q9 q10 q11 q12 q13 pos : Pos} {sj : Nat}
theorem pss_keep (T : EkC X.K C f) (hz : Zc cls d oe) (hf : ∃ vs, oe.data = .fields vs) (hN : X.N.Nodup) (hi : X.N[i]? = some en) (hj : X.N[j]? = some xn) (vi : Vis X.env.scope en) (lj : X.env.scope.names.lookup xn = some .local)
    (gi : Gl X "isinstance") (mi : X.mg "isinstance" = none) (gA : Gl X An) (mA : X.mg An = some (.ref CA)) (gB : Gl X Bn) (mB : X.mg Bn = some (.ref CB)) (kA : PySem.W.kitOne X.K (.ref C) (.ref CA) = some true) (kB : PySem.W.kitOne X.K (.ref C) (.ref CB) = some false)
    (dA : (An == ("__debug__" : Str)) = false := by decide) (dB : (Bn == ("__debug__" : Str)) = false := by decide) (de : (en == ("__debug__" : Str)) = false := by decide) (dc : (en == ("__classdict__" : Str)) = false := by decide)
    (hb : attributeBase (.Name en q9) f X.env (eval (.Name en q9) X.env) = eval (.Name en q9) X.env := by rfl)
    {p1 posI : Pos} (hs2 : swapsWith (.IfExp (.BoolOp .And [.Call (.Name "isinstance" q1) [.Name en q2, .Name An q3] [] q4, .UnaryOp .Not (.Call (.Name "isinstance" q5) [.Name en q6, .Name Bn q7] [] q8) q12] q13) (.Attribute (.Name en q9) f q10) (.Constant (.str "other") sj q11) posI) (some (.Name xn p1)) pos.line X.env = pure false := by rfl) :
    PSs (X.suite a ((a, oe) :: pn)) [.Assign [.Name xn p1] (.IfExp (.BoolOp .And [.Call (.Name "isinstance" q1) [.Name en q2, .Name An q3] [] q4, .UnaryOp .Not (.Call (.Name "isinstance" q5) [.Name en q6, .Name Bn q7] [] q8) q12] q13) (.Attribute (.Name en q9) f q10) (.Constant (.str "other") sj q11) posI) pos] (tKeep C a cls d f i j) := by
  refine ⟨fun pins s σ H D I h => ?_⟩
  obtain ⟨dx, v, hcls, hd, hσ, hH, q⟩ := h
  subst hcls hd
  have ve : ∀ {p : Pos}, PE (X.suite a ((a, oe) :: pn)) (.Name en p) (tVar i) := fun {p} => pe_var (X := X.suite a ((a, oe) :: pn)) (pos := p) hi vi de dc
  have cA : ∀ {p : Pos}, PE (X.suite a ((a, oe) :: pn)) (.Name An p) (tC (.ref CA)) := fun {p} => pe_glob (X := X.suite a ((a, oe) :: pn)) gA mA rfl dA
  have cB : ∀ {p : Pos}, PE (X.suite a ((a, oe) :: pn)) (.Name Bn p) (tC (.ref CB)) := fun {p} => pe_glob (X := X.suite a ((a, oe) :: pn)) gB mB rfl dB
  have c1 := pe_callB (X := X.suite a ((a, oe) :: pn)) (p := q1) (pos := q4) (call_isED (pn := pn) T hz hf) gi mi PyProof.Rows.Boot.«isinstance» (pa_cons (ve (p := q2)) (pa_cons (cA (p := q3)) pa_nil))
  have c2 := pe_callB (X := X.suite a ((a, oe) :: pn)) (p := q5) (pos := q8) (call_isED (pn := pn) T hz hf) gi mi PyProof.Rows.Boot.«isinstance» (pa_cons (ve (p := q6)) (pa_cons (cB (p := q7)) pa_nil))
  have c3 := pe_xf (X := X) (pn := pn) (pos := q10) (n := f) T.xf T.no hz hf (ve (p := q9)) hb
  have z := pss_one (ps_set (X := X.suite a ((a, oe) :: pn)) (pos := pos) (pos' := p1) (i := j) hN hj (Or.inl lj) (pe_ifExp (pos := posI) (PW.pt (pw_and (pos := q13) (pt_val c1) (pw_and1 (pt_not (pos := q12) (pt_val c2))))) c3 (pe_str (j := sj) (pos := q11))) hs2 (Or.inr lj))
  exact z.run pins s σ H D I (by
    have rA : ∀ u, RelV (.ref CA) u → u = .ref CA := fun u h => h
    have rB : ∀ u, RelV (.ref CB) u → u = .ref CB := fun u h => h
    have lk : ([(f, v)] : List (Str × V)).lookup f = some v := by simp
    refine ⟨_, hσ, ⟨_, _, true, _, rfl, rA, kA, hH, true, rfl, ?_⟩⟩
    dsimp only
    rw [if_pos rfl]
    refine ⟨_, hσ, ⟨_, _, false, _, rfl, rB, kB, hH, false, rfl, ?_⟩⟩
    show (if (!false) = true then _ else _)
    rw [if_pos (by rfl)]
    exact ⟨_, hσ, rfl, rfl, dx, _, v, rfl, hH, lk, q⟩)
end
section
variable {G : Gd} {Wx : WX} {F : Fr} {e e' : En} {σ σ' : L2.St} {H H' B : Hp} {X : Cx} {D : Ends}
theorem set3_x {σ : L2.St} {i j : Nat} {u v : Option V} (h : i ≠ j) : ((σ.set i u).set j v).set i none = (σ.set j v).set i none := by
  apply List.ext_getElem?
  intro k
  by_cases hk : i = k
  · subst hk
    simp [List.getElem?_set]
  · rw [List.getElem?_set_ne hk, List.getElem?_set_ne hk]
    by_cases hj : j = k
    · subst hj
      simp [List.getElem?_set]
    · rw [List.getElem?_set_ne hj, List.getElem?_set_ne hj, List.getElem?_set_ne hk]
theorem m_tryK {C : Addr} {x f en : Str} {k : Addr} {i j : Nat} {body : List Stmt} {stt : Stmt} {b : XS} {np pos pos' : Pos} (hC : G.ca k = C) (hij : i ≠ j) (hs : X.stack = X.env :: X.outer) (hf : X.env.frame = some X.env.locals) (hN : X.N.Nodup) (hi : X.N[i]? = some en) (hln : X.env.kindOf en = some .local)
    (hc : Names X x (.ref C)) (hex : PySem.W.exmOne X.K (.ref C) (.ref C) = some true) (tk : L2.Takes X Wx)
    (hb : ∀ (W : WX) (pn : List (Addr × Obj)) (xe : Value → Shared → Prop), L2.Takes (X.tr pn xe) W → PassesOwn (model X.prog X.w) X.A X.env xe → PSs (X.tr pn xe) body (tS G W b))
    (hsu : ∀ (a : Addr) (oe : Obj) (cls : Value) (d : Option Addr) (pn : List (Addr × Obj)), Zc cls d oe → (∃ vs, oe.data = .fields vs) → PSs (X.suite a ((a, oe) :: pn)) [stt] (tKeep C a cls d f i j)) :
    PS X (.Try body [.ExceptHandler (some (.Name x np)) (some en) [stt] pos'] [] [] pos) (tS G Wx (sTryK b [(k, f)] i j)) :=
  PS.weak (ps_try_as (Wout := Wx) (ts := fun a cls d => tKeep C a cls d f i j) hs hf hN hi hln hc tk hb hsu) fun D σ H q => by
    obtain ⟨F, B, e, s, bs, q⟩ := q
    refine ⟨F, B, e, s, bs, Tr.All.mono (fun fl q => ?_) (Tr.all_bind.mp q)⟩
    cases fl with
    | nx e1 => exact q
    | rt v e1 => exact q
    | bk e1 => exact q
    | ct e1 => exact q
    | xc k' n' d e1 =>
      intro σ1 H1 dx v s1 b1 hx r1
      have q1 : ((if ([(k, f)] : List (Addr × Str)).contains (k', n') = true ∧ i < e1.length ∧ j < e1.length then Tr.ret (Fl.nx ((e1.set j (some (.d d))).set i none)) else .stuck) : Tr Fl).All (PostS G Wx F B D) := q
      split at q1
      case isFalse => exact q1.elim
      rename_i hcd
      obtain ⟨h1, h2, h3⟩ := hcd
      obtain ⟨rfl, rfl⟩ : k' = k ∧ n' = f := by
        have z : (k', n') = (k, f) := by simpa using h1
        exact Prod.mk.inj z
      refine ⟨true, by rw [hC]; exact hex, fun _ a ha => ?_, fun z => by cases z⟩
      have hl : i < σ1.length := by rw [← s1.len]; exact h2
      refine ⟨dx, v, by rw [hC], rfl, List.getElem?_set_self hl, hx, ?_⟩
      show D.nx ((((σ1.set i (some (.ref a))).set j (some v))).set i none) H1
      rw [set3_x hij]
      have s2 := (s1.set (i := j) r1).drop (i := i) none
      refine q1 _ H1 s2 (b1.sub fun z hz => ?_)
      have z1 := own_set_sub (t := none) (y := none) rfl (i := i) (s1.set (i := j) r1).len
      exact (own_set_sub (t := some (.d d)) (y := some v) rfl (i := j) s1.len).subset (z1.subset hz)
end
theorem takes_no {X : Cx} : L2.Takes X.nox noW := fun u s x => by
  obtain ⟨a, B, sI, pins, σ, H, cls, d, _, _, _, _, _, _, _, _, w⟩ := x
  exact w.elim
end Mc
namespace Mc
open PySem PySem.Spec PyProof.Rows L2 Evl
abbrev FnW : Type := He.FnW
def cmA_h (K : PySem.W.Frag) (C : Addr) (m : Str) : Addr := match PySem.W.findCls K (.ref C) (.type "type") m with
  | some (.get _ (.ref p) _ _) => p
  | _ => 0
def recA_h (K : PySem.W.Frag) (p : Addr) : Addr := match PySem.W.recIn K p "classmethod" with
  | some (.ref g :: _) => g
  | _ => 0
def recR_h (K : PySem.W.Frag) (p : Addr) : List Value := match PySem.W.recIn K p "classmethod" with
  | some (_ :: r) => r
  | _ => []
def cmB_h (K : PySem.W.Frag) (C : Addr) (m : Str) : Bool := match PySem.W.findCls K (.ref C) (.type "type") m with
  | some (.get (.builtin b) (.ref _) .none (.ref c)) => decide (b = "classmethod.__get__") && decide (c = C)
  | _ => false
theorem cmB_ok_h {K : PySem.W.Frag} {C : Addr} {m : Str} (h : cmB_h K C m = true) : PySem.W.findCls K (.ref C) (.type "type") m = some (.get (.builtin "classmethod.__get__") (.ref (cmA_h K C m)) .none (.ref C)) := by
  unfold cmB_h at h
  unfold cmA_h
  split at h
  · rename_i b p c e
    obtain ⟨h1, h2⟩ := He.ba h
    rw [e, of_decide_eq_true h1, of_decide_eq_true h2]
  · cases h
def recB_h (K : PySem.W.Frag) (p : Addr) : Bool := match PySem.W.recIn K p "classmethod" with
  | some (.ref _ :: _) => true
  | _ => false
theorem recB_ok_h {K : PySem.W.Frag} {p : Addr} (h : recB_h K p = true) : PySem.W.recIn K p "classmethod" = some (.ref (recA_h K p) :: recR_h K p) := by
  unfold recB_h at h
  unfold recA_h recR_h
  split at h
  · rename_i g r e
    rw [e]
  · cases h
def intB_h (K : PySem.W.Frag) (x : Str) (i : Int) : Bool := match PySem.W.nsIn K mainGlobals x with
  | some (some (.int j _)) => decide (j = i)
  | _ => false
theorem intB_ok_h {K : PySem.W.Frag} {x : Str} {i : Int} (h : intB_h K x i = true) : ∃ t, PySem.W.nsIn K mainGlobals x = some (some (.int i t)) := by
  unfold intB_h at h
  split at h
  · rename_i j t e
    rw [of_decide_eq_true h] at e
    exact ⟨t, e⟩
  · cases h
def strB_h (K : PySem.W.Frag) (x z : Str) : Bool := match PySem.W.nsIn K mainGlobals x with
  | some (some (.str y _)) => decide (y = z)
  | _ => false
theorem strB_ok_h {K : PySem.W.Frag} {x z : Str} (h : strB_h K x z = true) : ∃ t, PySem.W.nsIn K mainGlobals x = some (some (.str z t)) := by
  unfold strB_h at h
  split at h
  · rename_i j t e
    rw [of_decide_eq_true h] at e
    exact ⟨t, e⟩
  · cases h
def tupB_h (K : PySem.W.Frag) (a : Addr) (vs : List V) : Bool := match K.lookup a with
  | some ⟨.type c, none, .seq its _, _⟩ => decide (c = "tuple") && He.relAll vs its.toList
  | _ => false
theorem tupB_ok_h {K : PySem.W.Frag} {a : Addr} {vs : List V} (h : tupB_h K a vs = true) : ∃ its n sl, K.lookup a = some ⟨.type "tuple", none, .seq its n, sl⟩ ∧ Vals vs its.toList := by
  unfold tupB_h at h
  split at h
  · rename_i c its n sl e
    obtain ⟨h1, h2⟩ := He.ba h
    rw [of_decide_eq_true h1] at e
    exact ⟨its, n, sl, e, He.relAll_ok h2⟩
  · cases h
def tupO_h (K : PySem.W.Frag) (a : Addr) : Bool := match K.lookup a with
  | some ⟨.type c, _, .seq its _, _⟩ => decide (c = "tuple") && its.isEmpty
  | _ => false
theorem tupO_ok_h {K : PySem.W.Frag} {a : Addr} (h : tupO_h K a = true) : ∃ od n sl, K.lookup a = some ⟨.type "tuple", od, .seq #[] n, sl⟩ := by
  unfold tupO_h at h
  split at h
  · rename_i c od its n sl e
    obtain ⟨h1, h2⟩ := He.ba h
    rw [of_decide_eq_true h1, Array.isEmpty_iff.mp h2] at e
    exact ⟨od, n, sl, e⟩
  · cases h
def fnO_h (K : PySem.W.Frag) (a : Addr) : FnW := match K.lookup a with
  | some ⟨_, _, .func fd, _⟩ => some (fd.name, fd.qualname, fd.params, fd.body, fd.scope, fd.globals, fd.closure, fd.builtins)
  | _ => none
def fnVal_h (name qual : Str) (st : Stmt) : FnW := some (name, qual, defArgs st, .stmts (defBody st), defScope st, mainGlobals, [], builtinsNs)
def fnB_h (K : PySem.W.Frag) (a : Addr) (q : Str) (dvs : List V) : Bool := match K.lookup a with
  | some ⟨_, _, .func fd, _⟩ => PySem.W.codeIn K fd.code q && He.dflB K fd.defaults dvs
  | _ => false
theorem fn_ok_h {K : PySem.W.Frag} {a : Addr} {name qual : Str} {st : Stmt} {dvs : List V} (e : fnO_h K a = fnVal_h name qual st) (h : fnB_h K a qual dvs = true) :
    ∃ oc od dV kV doc pm an cdv ct osl, K.lookup a = some ⟨oc, od, .func (PySem.W.fnOf name qual (defArgs st) (defBody st) (defScope st) dV kV doc pm an cdv ct), osl⟩ ∧ PySem.W.codeIn K cdv qual = true ∧ DflV K dV dvs := by
  unfold fnB_h at h
  unfold fnO_h at e
  split at h
  case h_2 => cases h
  rename_i oc od fd osl q
  rw [q] at e
  obtain ⟨n1, n2, n3, n4, n5, n6, n7, n8, n9, n10, n11, n12, n13, n14, n15⟩ := fd
  have e2 : (some (n1, n2, n3, n4, n5, n6, n7, n15) : FnW) = some (name, qual, defArgs st, .stmts (defBody st), defScope st, mainGlobals, [], builtinsNs) := e
  simp only [Option.some.injEq, Prod.mk.injEq] at e2
  obtain ⟨h1, h2, h3, h4, h5, h6, h7, h8⟩ := e2
  subst h1 h2 h3 h4 h5 h6 h7 h8
  obtain ⟨k1, k2⟩ := He.ba h
  exact ⟨_, _, _, _, _, _, _, _, _, _, q, k1, He.dflB_ok k2⟩
theorem fn_no_h {K : PySem.W.Frag} {a : Addr} {name qual : Str} {st : Stmt} (e : fnO_h K a = fnVal_h name qual st) (h : fnB_h K a qual [] = true) :
    ∃ oc od kV doc pm an cdv ct osl, K.lookup a = some ⟨oc, od, .func (PySem.W.fnOf name qual (defArgs st) (defBody st) (defScope st) .none kV doc pm an cdv ct), osl⟩ ∧ PySem.W.codeIn K cdv qual = true := by
  obtain ⟨oc, od, dV, kV, doc, pm, an, cdv, ct, osl, h1, h2, h3⟩ := fn_ok_h e h
  rcases h3 with ⟨z1, z2⟩ | ⟨z, _⟩
  · first | subst z2 | subst z1
    exact ⟨_, _, _, _, _, _, _, _, _, h1, h2⟩
  · exact (z rfl).elim
theorem fn_df_h {K : PySem.W.Frag} {a : Addr} {name qual : Str} {st : Stmt} {v : V} {vs : List V} (e : fnO_h K a = fnVal_h name qual st) (h : fnB_h K a qual (v :: vs) = true) :
    ∃ T oc od kV doc pm an cdv ct osl oc2 od2 its n2 sl2, K.lookup a = some ⟨oc, od, .func (PySem.W.fnOf name qual (defArgs st) (defBody st) (defScope st) (.ref T) kV doc pm an cdv ct), osl⟩ ∧ PySem.W.codeIn K cdv qual = true ∧
      K.lookup T = some ⟨oc2, od2, .seq its n2, sl2⟩ ∧ Vals (v :: vs) its.toList := by
  unfold fnB_h at h
  obtain ⟨oc, od, dV, kV, doc, pm, an, cdv, ct, osl, h1, h2, hh⟩ := fn_ok_h e (show fnB_h K a qual (v :: vs) = true from h)
  rw [h1] at h
  obtain ⟨kk, k⟩ := He.ba h
  have k' : He.dflB K dV (v :: vs) = true := k
  unfold He.dflB at k'
  dsimp only at k'
  split at k'
  case h_2 => cases k'
  rename_i T
  split at k'
  case h_2 => cases k'
  rename_i oc2 od2 its n2 sl2 q
  exact ⟨T, _, _, _, _, _, _, _, _, _, _, _, its, _, _, h1, h2, q, He.relAll_ok k'⟩
def dflX (K : PySem.W.Frag) (a : Addr) (i : Nat) : Addr := match K.lookup a with
  | some ⟨_, _, .func fd, _⟩ => (match fd.defaults with
    | .ref T => (match K.lookup T with
      | some ⟨_, _, .seq its _, _⟩ => (match its.toList[i]? with
        | some (.ref a) => a
        | _ => 0)
      | _ => 0)
    | _ => 0)
  | _ => 0
theorem arr_of_h {vs : List V} {its : Array Value} (h : Vals vs its.toList) : ∃ us : List Value, its = us.toArray ∧ Vals vs us := ⟨its.toList, by simp, h⟩
theorem vals_cons_h {v : V} {vs : List V} {us : List Value} (h : Vals (v :: vs) us) : ∃ u r, us = u :: r ∧ RelV v u ∧ Vals vs r := by
  cases h with
  | cons h1 h2 => exact ⟨_, _, rfl, h1, h2⟩
theorem vals_nil_h {us : List Value} (h : Vals [] us) : us = [] := by
  cases h
  rfl
def asX (g : Addr → Option Obj) : Nat → List Addr
  | n => List.range n
abbrev FaX : Type := List (List (PySem.W.Frag → Bool))
abbrev AlX : Type := Bool × List FnW
def obsX (fa : FaX) (fn : List (PySem.W.Frag → Addr)) (K : PySem.W.Frag) : AlX := (fa.all fun g => g.all fun f => f K, fn.map fun a => fnO_h K (a K))
def SaysX (fa : FaX) (fn : List (PySem.W.Frag → Addr)) (vals : List FnW) (K : PySem.W.Frag) : Prop := obsX fa fn K = (true, vals)
section
variable {fa : FaX} {fn : List (PySem.W.Frag → Addr)} {vals : List FnW} {K : PySem.W.Frag}
theorem SaysX.grp (c : SaysX fa fn vals K) (i : Nat) {g : List (PySem.W.Frag → Bool)} (h : fa[i]? = some g) : (g.all fun f => f K) = true :=
  List.all_eq_true.mp (show (fa.all fun g => g.all fun f => f K) = true from congrArg (fun z : AlX => z.1) c) g (List.mem_of_getElem? h)
theorem of_grp_h {g : List (PySem.W.Frag → Bool)} (c : (g.all fun f => f K) = true) (i : Nat) {f : PySem.W.Frag → Bool} (h : g[i]? = some f) : f K = true := List.all_eq_true.mp c f (List.mem_of_getElem? h)
theorem dec_h {g : List (PySem.W.Frag → Bool)} (c : (g.all fun f => f K) = true) (i : Nat) {p : PySem.W.Frag → Prop} {inst : ∀ K, Decidable (p K)} (h : g[i]? = some fun K => @decide (p K) (inst K)) : p K := of_decide_eq_true (of_grp_h c i h)
theorem SaysX.fnAt (c : SaysX fa fn vals K) (i : Nat) {a : PySem.W.Frag → Addr} {v : FnW} (h : fn[i]? = some a) (hv : vals[i]? = some v) : fnO_h K (a K) = v := by
  have e : fn.map (fun a => fnO_h K (a K)) = vals := congrArg (fun z : AlX => z.2) c
  have e2 : (fn.map fun a => fnO_h K (a K))[i]? = vals[i]? := by rw [e]
  rw [List.getElem?_map, h, hv] at e2
  exact Option.some.inj e2
end
end Mc
namespace Mc
open PySem PySem.Spec PyProof.Rows L2 Evl
def oexB (K : PySem.W.Frag) (C : Addr) : Bool := match K.lookup C with
  | some ⟨.type "type", _, .cls cd, sl⟩ => (match cd.mro, sl.toList with
    | .ref C' :: bm, [_, _, _, _, some (.builtin n), _] => C' == C && n == "ValueError.__new__" && !cd.hasDel && cd.hasDict && PySem.HandSPX.refsVE bm
    | _, _ => false)
  | _ => false
theorem oexB_ok {K : PySem.W.Frag} {C : Addr} (q : oexB K C = true) : ∃ nm q N bs bm sn sub ab col dd k0 k1 k2 k3 k5, K.lookup C = some (excClassObj nm q C N bs bm true sn sub ab col dd k0 k1 k2 k3 k5 "ValueError.__new__") ∧ PySem.HandSPX.refsVE bm = true := by
  unfold oexB at q
  split at q
  · rename_i dd cd sl ho
    split at q
    · rename_i C' bm k0 k1 k2 k3 n k5 hm hs
      simp only [Bool.and_eq_true, beq_iff_eq, Bool.not_eq_true'] at q
      obtain ⟨⟨⟨⟨rfl, rfl⟩, hdel⟩, hdic⟩, hre⟩ := q
      obtain ⟨nm, bs, mro, ns, qn, hd, sn, sub, ab, col, del⟩ := cd
      dsimp only at hm hdel hdic
      subst hm hdel hdic
      have hsl : sl = #[k0, k1, k2, k3, some (.builtin "ValueError.__new__"), k5] := by
        obtain ⟨l⟩ := sl
        simp only at hs
        rw [hs]
      subst hsl
      exact ⟨nm, qn, ns, bs, bm, sn, sub, ab, col, dd, k0, k1, k2, k3, k5, ho, hre⟩
    · cases q
  · cases q
def supB (P : Program) (K : PySem.W.Frag) (f C : Addr) (q : Str) : Bool := match K.lookup f with
  | some ⟨_, _, .func fd, _⟩ => (match fd.closure, fd.code, fd.defaults with
    | [(x, cc)], .ref cda, .none => decide (x = ("__class__" : Str)) && PySem.W.codeIn K (.ref cda) q && (match K.lookup cc with
        | some ⟨_, _, .cell (some (.ref D)), _⟩ => decide (D = C)
        | _ => false) && (match K.lookup cda with
        | some ⟨_, _, .fields vs, _⟩ => (match (vs[2]? : Option Value) with
          | some (Value.str file _) => ((P.main.file : Str) == file)
          | _ => false)
        | _ => false)
    | _, _, _ => false)
  | _ => false
abbrev FnU : Type := Option (Str × Str × Arguments × FuncBody × Scope × Addr × Addr)
def fnU (K : PySem.W.Frag) (a : Addr) : FnU := match K.lookup a with
  | some ⟨_, _, .func fd, _⟩ => some (fd.name, fd.qualname, fd.params, fd.body, fd.scope, fd.globals, fd.builtins)
  | _ => none
def fnUVal (name qual : Str) (st : Stmt) : FnU := some (name, qual, defArgs st, .stmts (defBody st), defScope st, mainGlobals, builtinsNs)
theorem sup_ok {P : Program} {K : PySem.W.Frag} {f C : Addr} {name qual : Str} {st : Stmt} (e : fnU K f = fnUVal name qual st) (h : supB P K f C qual = true) :
    ∃ oc od osl kV doc pm an ct cc cda, K.lookup f = some ⟨oc, od, .func (PySem.W.fnX name qual (defArgs st) (defBody st) (defScope st) [("__class__", cc)] .none kV doc pm an (.ref cda) ct), osl⟩ ∧ PySem.W.codeIn K (.ref cda) qual = true ∧
      (∃ cl cld csl, K.lookup cc = some ⟨cl, cld, .cell (some (.ref C)), csl⟩) ∧ (∃ ccl cdd vs ccs file tf, K.lookup cda = some ⟨ccl, cdd, .fields vs, ccs⟩ ∧ vs[2]? = some (.str file tf) ∧ ((P.main.file : Str) == file) = true) := by
  unfold supB at h
  unfold fnU at e
  split at h
  case h_2 => cases h
  rename_i oc od fd osl q
  rw [q] at e
  obtain ⟨n1, n2, n3, n4, n5, n6, n7, n8, n9, n10, n11, n12, n13, n14, n15⟩ := fd
  have e2 : (some (n1, n2, n3, n4, n5, n6, n15) : FnU) = some (name, qual, defArgs st, .stmts (defBody st), defScope st, mainGlobals, builtinsNs) := e
  simp only [Option.some.injEq, Prod.mk.injEq] at e2
  obtain ⟨h1, h2, h3, h4, h5, h6, h7⟩ := e2
  subst h1 h2 h3 h4 h5 h6 h7
  dsimp only at h
  split at h
  case h_2 => cases h
  rename_i x cc cda
  obtain ⟨h, h4⟩ := He.ba h
  obtain ⟨h, h3⟩ := He.ba h
  obtain ⟨h1, h2⟩ := He.ba h
  obtain rfl := of_decide_eq_true h1
  refine ⟨oc, od, osl, _, _, _, _, _, cc, cda, q, h2, ?_, ?_⟩
  · split at h3
    case h_2 => cases h3
    rename_i cl cld D csl e3
    rw [of_decide_eq_true h3] at e3
    exact ⟨_, _, _, e3⟩
  · split at h4
    case h_2 => cases h4
    rename_i ccl cdd vs ccs e4
    split at h4
    case h_2 => cases h4
    rename_i file tf e5
    exact ⟨_, _, _, _, _, _, e4, e5, h4⟩
end Mc
namespace Mc
open PySem PySem.Spec PyProof.Rows L2 Evl
inductive Er (α : Type) where
  | ok (a : α) | ex (k : Addr) (n : Str) (d : D) (e : En)
abbrev XR := En → Tr (Er (Vl × En))
abbrev XRA := En → Tr (Er (List Vl × En))
def Tr.eb {α β : Type} (m : Tr (Er α)) (f : α → Tr (Er β)) : Tr (Er β) := m.bind fun r => match r with
  | .ok a => f a
  | .ex k n d e => .ret (.ex k n d e)
def rUp (a : XE) : XR := fun e => (a e).bind fun p => .ret (.ok p)
def rUpA (as : XA) : XRA := fun e => (as e).bind fun p => .ret (.ok p)
def rCons (a : XR) (as : XRA) : XRA := fun e => (a e).eb fun p => (as p.2).eb fun q => .ret (.ok (p.1 :: q.1, q.2))
def rF (g : List D → Tr D) (as : XRA) : XR := fun e => (as e).eb fun p => (Tr.of (dats p.1)).bind fun ds => (g ds).bind fun d => .ret (.ok (.d d, p.2))
def rX (g : List D → Tr Rs) (as : XRA) : XR := fun e => (as e).eb fun p => (Tr.of (dats p.1)).bind fun ds => (g ds).bind fun r => match r with
  | .ok d => .ret (.ok (.d d, p.2))
  | .ex k n d => .ret (.ex k n d p.2)
def obOf (e : En) : List Vl → Option (Nat × D × List D)
  | .r i :: vs => (obAt e i).bind fun o => (dats vs).bind fun ds => some (i, o, ds)
  | _ => none
def setOb (e : En) (i : Nat) : D → Option En
  | .obj k fs => some (e.set i (some (.ob k fs)))
  | _ => none
def rB (g : List D → Tr (Rs × D)) (as : XRA) : XR := fun e => (as e).eb fun p => (Tr.of (obOf p.2 p.1)).bind fun t => (g (t.2.1 :: t.2.2)).bind fun ro => (Tr.of (setOb p.2 t.1 ro.2)).bind fun e1 => match ro.1 with
  | .ok d => .ret (.ok (.d d, e1))
  | .ex k n d => .ret (.ex k n d e1)
def clsAt (e : En) (i : Nat) (c : Addr) (m : Str) : Bool := match e[i]? with
  | some (some (.ob k fs)) => k == c && (fs.lookup m).isNone
  | _ => false
def rM (i : Nat) (c : Addr) (m : Str) (g : List D → Tr (Rs × D)) (as : XRA) : XR := fun e => if clsAt e i c m = true then rB g (rCons (rUp (xVar i)) as) e else .stuck
def cR {β : Type} (n : Nat) (g : List D → Tr β) (des : List D) : List D → Tr β := fun ds => if ds.length + des.length = n then g (ds ++ des) else .stuck
def rTup (as : XRA) : XR := fun e => (as e).eb fun p => (Tr.of (dats p.1)).bind fun ds => if ds.length ≤ 100000 then .ret (.ok (.d (.tup ds), p.2)) else .stuck
def sRetR (a : XR) : XS := fun e => (a e).bind fun r => match r with
  | .ok p => .ret (.rt p.1 p.2)
  | .ex k n d e1 => .ret (.xc k n d e1)
def sDropR (a : XR) : XS := fun e => (a e).bind fun r => match r with
  | .ok p => .ret (.nx p.2)
  | .ex k n d e1 => .ret (.xc k n d e1)
def sAsgR (a : XR) (g : XG) : XS := fun e => (a e).bind fun r => match r with
  | .ok p => (Tr.of ((dat p.1).bind fun x => g x p.2)).bind fun e1 => .ret (.nx e1)
  | .ex k n d e1 => .ret (.xc k n d e1)
def sOwnR (i : Nat) (as : XRA) : XS := fun e => (as e).bind fun r => match r with
  | .ok p => (Tr.of (dats p.1)).bind fun ds => if ds.length ≤ 100000 then .ret (.nx (p.2.set i (some (.own ds)))) else .stuck
  | .ex k n d e1 => .ret (.xc k n d e1)
def endB : Fl → Tr (Rs × D)
  | .nx e => (Tr.of (obAt e 0)).bind fun o => .ret (.ok .non, o)
  | .rt v e => (Tr.of (obAt e 0)).bind fun o => (Tr.of (dat v)).bind fun d => .ret (.ok d, o)
  | .xc k n d e => (Tr.of (obAt e 0)).bind fun o => .ret (.ex k n d, o)
  | _ => .stuck
def slOb : D → Option Sl
  | .obj k fs => some (.ob k fs)
  | _ => none
def runB (n : Nat) (b : XS) : List D → Tr (Rs × D)
  | o :: rest => (Tr.of (slOb o)).bind fun sl => (b (startN n (sl :: rest.map .d))).bind endB
  | [] => .stuck
def PostX (G : Gd) (Wx : WX) (F : Fr) (B : Hp) (σ : L2.St) (k : Addr) (n : Str) (d : D) (e1 : En) : Prop := ∀ H' dx v, Sim G F e1 σ H' → Bs F B e1 σ H' → H' dx = some (.xd [(n, v)]) → Rp G.K (cut (F.U e1 σ) H') (ren (rho G F) d) v → Wx (.ref (G.ca k)) (some dx) σ H'
def PostR1 (G : Gd) (Wx : WX) (F : Fr) (B : Hp) (e : En) (σ : L2.St) (H : Hp) (Q : VK) : Er (Vl × En) → Prop
  | .ok p => PostE G F e σ H Q p
  | .ex k n d e1 => PostX G Wx F B σ k n d e1
def tR (G : Gd) (Wx : WX) (x : XR) : TE := fun σ H Q => ∃ F B e, Sim G F e σ H ∧ Bs F B e σ H ∧ (x e).All (PostR1 G Wx F B e σ H Q)
def PostRA (G : Gd) (Wx : WX) (F : Fr) (B : Hp) (e : En) (σ : L2.St) (H : Hp) (Q : List V → Hp → Prop) : Er (List Vl × En) → Prop
  | .ok p => PostA G F e σ H Q p
  | .ex k n d e1 => PostX G Wx F B σ k n d e1
def tRA (G : Gd) (Wx : WX) (x : XRA) : TA := fun σ H Q => ∃ F B e, Sim G F e σ H ∧ Bs F B e σ H ∧ (x e).All (PostRA G Wx F B e σ H Q)
section
variable {G : Gd} {Wx : WX} {F : Fr} {e e' : En} {σ σ' : L2.St} {H H' B : Hp} {X : Cx} {D : Ends} {pos : Pos}
theorem m_upA {as : XA} {xs : List Expr} (h : PA X xs (tA G as)) : PA X xs (tRA G Wx (rUpA as)) := PA.weak h fun σ H Q q => by
  obtain ⟨F, B, e, s, b, q⟩ := q
  exact ⟨F, e, s, Tr.All.mono (fun p q => q) (Tr.all_bind.mp q)⟩
theorem m_dropR {a : XR} {x : Expr} (h : PE X x (tR G Wx a)) (hs : swapsWith x none pos.line X.env = pure false := by rfl) : PS X (.Expr x pos) (tS G Wx (sDropR a)) := PS.weak (ps_expr h hs) fun D σ H q => by
  obtain ⟨F, B, e, s, b, q⟩ := q
  refine ⟨F, B, e, s, b, Tr.All.mono (fun r q => ?_) (Tr.all_bind.mp q)⟩
  cases r with
  | ok p => exact fun v H1 h1 f1 s1 r1 => q σ H1 s1 (b.fw h1 f1)
  | ex k n d e1 => exact fun H' dx v s1 b1 hx r1 => q σ H' dx v s1 b1 hx r1
end
end Mc
namespace Mc
open PySem PySem.Spec PyProof.Rows L2 Evl
section
variable {G : Gd} {Wx : WX} {F : Fr} {e e' : En} {σ σ' : L2.St} {H H' B : Hp} {X : Cx} {D : Ends} {pos : Pos}
theorem obAt_some {i : Nat} {o : Dt} (h : obAt e i = some o) : ∃ k fs, o = .obj k fs ∧ e[i]? = some (some (.ob k fs)) := by
  unfold obAt at h
  split at h
  · rename_i k fs he
    cases h
    exact ⟨k, fs, rfl, he⟩
  · cases h
end
end Mc
namespace Mc
open PySem PySem.Spec PyProof.Rows L2 Evl
def PostRI (G : Gd) (F : Fr) (x : Addr) (H : Hp) (Q : VK) (E : XK) : Rs → Prop
  | .ok d => ∀ H', Fw F [x] H H' → FrOk G F H' → Rp G.K (cut F.V H') (ren (rho G F) d) (.ref x) → Q .non H'
  | .ex k n d => ∀ H' dx v, Fw F [x] H H' → FrOk G F H' → H' dx = some (.xd [(n, v)]) → Rp G.K (cut (F.V ++ [x]) H') (ren (rho G F) d) v → E (.ref (G.ca k)) (some dx) H'
def spIX (G : Gd) (k : Addr) (n : Nat) (g : List D → Tr Rs) : Sp := fun vs H Q E => ∃ F args x dx rest, vs = .ref x :: rest ∧ FrOk G F H ∧ x ∉ F.V ∧ H x = some (.ins (rho G F k) dx []) ∧ args.length = n ∧ RpA G.K (cut (F.V ++ [x]) H) (rens (rho G F) args) rest ∧ (g args).All (PostRI G F x H Q E)
theorem spIX_len {G : Gd} {k : Addr} {n : Nat} {g : List D → Tr Rs} {vs : List V} {H : Hp} {Q : VK} {E : XK} (h : spIX G k n g vs H Q E) : vs.length = n + 1 := by
  obtain ⟨F, args, x, dx, rest, rfl, _, _, _, hl, hr, _⟩ := h
  rw [List.length_cons, hr.length, rens_len, hl]
def tMakeS (C : Addr) (sp : Sp) (dvs : List V) (E : L2.St → XK) (t : TA) : TE := fun σ H Q => t σ H fun vs H1 => ∀ x dx, H1 x = none → H1 dx = none → dx ≠ x →
  sp (.ref x :: (vs ++ dvs)) (upd (upd H1 dx (.own x)) x (.ins C dx [])) (fun v H2 => v = .non ∧ Q (.ref x) H2) (E σ)
section
variable {X : Cx} {CX : CXT} {k : Nat} {f C : Addr} {fd : FuncData} {ps : List Str} {sp : Sp} {dvs : List V} {ds : List Value} {E : L2.St → XK} {x : Str} {p pos : Pos} {e : Expr} {es : List Expr} {t : TA}
theorem run_makeS {pins : List (Addr × Obj)} {σ : L2.St} {H : Hp} {s : Shared} {Q : VK} {us : List Value} {vs : List V} (M : Mk X.K C f) (F : FnOk X.prog X.w X.K X.mg X.base CX k f fd ps sp) (hr : Room (k + 1) X.A) (hb : Binds X.K fd ps ds) (hd : Vals dvs ds)
    (hx : PassesAt CX X σ (E σ)) (I : Inv X pins σ H s) (r : Vals vs us)
    (h : ∀ x dx, H x = none → H dx = none → dx ≠ x → sp (.ref x :: (vs ++ dvs)) (upd (upd H dx (.own x)) x (.ins C dx [])) (fun v H2 => v = .non ∧ Q (.ref x) H2) (E σ)) :
    wpAny (model X.prog X.w) X.A (call (.ref C) us) (EP X pins σ Q) X.xe s := by
  have hq := h (s.heap.objs.size + 1) s.heap.objs.size (I.hok.fresh (Nat.le_succ _)) (I.hok.fresh (Nat.le_refl _)) (Nat.ne_of_lt (Nat.lt_succ_self _))
  have I2 := Inv.made (C := C) I
  have r2 : Vals (V.ref (s.heap.objs.size + 1) :: (vs ++ dvs)) (Value.ref (s.heap.objs.size + 1) :: (us ++ ds)) := .cons rfl (r.append hd)
  have hl : (Value.ref (s.heap.objs.size + 1) :: us ++ ds).length = ps.length := by
    have e := r2.length
    rw [F.len _ _ _ _ hq] at e
    exact e.symm
  refine wpAny_call (make_map (f := f) I.kIn M.makes M.init (beq_iff_eq.mp M.fn) (codeAny_mono (F.run _ X.stack _ _ ⟨Value.ref (s.heap.objs.size + 1) :: us, []⟩ (Value.ref (s.heap.objs.size + 1) :: (us ++ ds)) _ _ (E σ) (hr.make C us [])
    (I2.env0.make C us []) (hb _ (Value.ref (s.heap.objs.size + 1) :: us) I2.kIn hl) r2 hq) fun r s' hq' => ?_))
  cases r with
  | error e => exact hx pins _ _ e s' I2 hq'
  | ok fl =>
    cases fl with
    | ret u =>
      obtain ⟨v, H', I3, rv, ev, q3⟩ := I2.after hq'
      subst ev
      exact ⟨rv, ⟨V.ref (s.heap.objs.size + 1), H', I3, rfl, q3⟩⟩
    | next => exact False.elim hq'
    | brk => exact False.elim hq'
    | cont => exact False.elim hq'
theorem pe_makeS (M : Mk X.K C f) (F : FnOk X.prog X.w X.K X.mg X.base CX k f fd ps sp) (hr : Room (k + 1) X.A) (hg : Gl X x) (hm : X.mg x = some (.ref C)) (hb : Binds X.K fd ps ds) (hd : Vals dvs ds) (hx : ∀ σ, PassesAt CX X σ (E σ))
    (ha : PA X (e :: es) t) (hdb : (x == ("__debug__" : Str)) = false := by decide) (he : starEach (e :: es) X.env = (false, eval e X.env) :: starEach es X.env := by rfl) (hpl : (backTo pos (starEach es X.env)).any (·.1) = false := by rfl) :
    PE X (.Call (.Name x p) (e :: es) [] pos) (tMakeS C sp dvs E t) := by
  refine ⟨fun pins s σ H Q I h => ?_⟩
  refine wpAny_Call_Name_kw (ld_glob I hg hm ?_ hdb)
  refine PySem.W.callWith_K (h₀ := X.base) I.ok.mod.kin M.kp (thn (ha.run pos pins s σ H _ I h) fun us s1 ⟨vs, H1, I1, r, q⟩ => ⟨I1.kIn, ?_⟩) he hpl
  exact run_makeS M F hr hb hd (hx σ) I1 r q
end
section
variable {G : Gd} {Wx : WX} {F : Fr} {e e' : En} {σ σ' : L2.St} {H H' B : Hp} {X : Cx} {D : Ends} {pos : Pos}
theorem made_core (o : G.Ok) {c : Addr} (hc : c ≠ 1) {p : En} {H1 : Hp} (s1 : Sim G F p σ H1) {x dx : Addr} (hx : H1 x = none) (hdx : H1 dx = none) (hne : dx ≠ x) :
    FrOk G (F.call (own p σ)) (upd (upd H1 dx (.own x)) x (.ins (G.ca c) dx [])) ∧ x ∉ (F.call (own p σ)).V ∧ Ex H1 (upd (upd H1 dx (.own x)) x (.ins (G.ca c) dx [])) ∧ Ex (cut (F.U p σ) H1) (cut ((F.call (own p σ)).V ++ [x]) (upd (upd H1 dx (.own x)) x (.ins (G.ca c) dx []))) ∧
      ∀ {H3 : Hp}, Fw (F.call (own p σ)) [x] (upd (upd H1 dx (.own x)) x (.ins (G.ca c) dx [])) H3 → FrOk G (F.call (own p σ)) H3 → Sim G F p σ H3 ∧ Fw F (own p σ) H1 H3 := by
  have ex1 : Ex H1 (upd H1 dx (.own x)) := Ex.new hdx
  have ex2 : Ex (upd H1 dx (.own x)) (upd (upd H1 dx (.own x)) x (.ins (G.ca c) dx [])) := Ex.new (by rw [upd_ne hne.symm]; exact hx)
  have ex := ex1.trans ex2
  obtain ⟨s2, f2⟩ := s1.ext o ex
  have xU : x ∉ F.U p σ := fun z => s1.tr o x z hx
  have xV : x ∉ (F.call (own p σ)).V := fun z => by
    have : cut (F.call (own p σ)).V (upd (upd H1 dx (.own x)) x (.ins (G.ca c) dx [])) x = none := cut_in z
    rw [call_V s2, cut_out xU] at this
    have e2 : (upd (upd H1 dx (.own x)) x (.ins (G.ca c) dx [])) x = some (.ins (G.ca c) dx []) := upd_same
    rw [e2] at this
    cases this
  refine ⟨s2.callee, xV, ex, fun b u h => ?_, fun {H3} f3 k3 => ?_⟩
  · obtain ⟨g1, g2⟩ := cut_some h
    have ne : b ≠ x := fun z => by rw [z, hx] at g1; cases g1
    rw [cut_out]
    · exact ex b u g1
    · intro z
      rcases List.mem_append.mp z with z | z
      · have : cut (F.call (own p σ)).V H1 b = none := cut_in z
        rw [call_V s1, cut_out g2, g1] at this
        cases this
      · exact ne (List.mem_singleton.mp z)
  · have f4 : Fw (F.call (own p σ)) [] H1 H3 := fun b u h1 _ h => f3 b u h1 (fun z => by
      have e : b = x := List.mem_singleton.mp z
      rw [e, hx] at h
      cases h) (ex b u h)
    exact s1.called f4 k3
theorem rMk_of (o : G.Ok) {n : Nat} {c : Addr} {g : List Dt → Tr Rs} {des : List Dt} {dvs : List V} (hc : c ≠ 1) (hd : ∀ (F : Fr) (Hc : Hp), RpA G.K Hc (rens (rho G F) des) dvs) {as : XRA} {Q : VK} (q : tR G Wx (rX (cR n g des) as) σ H Q) : tMakeS (G.ca c) (spIX G c n g) dvs (WE Wx) (tRA G Wx as) σ H Q := by
  obtain ⟨F, B, e, s, b, q⟩ := q
  refine ⟨F, B, e, s, b, Tr.All.mono (fun r q => ?_) (Tr.all_bind.mp q)⟩
  cases r with
  | ex k n d e1 => exact q
  | ok p =>
    intro vs H1 h1 f1 s1 r1 x dx hx hdx hne
    obtain ⟨ds, hds, q⟩ := Tr.of_all (Tr.all_bind.mp q)
    have q := Tr.all_bind.mp q
    unfold cR at q
    split at q
    case isFalse => exact q.elim
    rename_i hl
    obtain ⟨m1, m2, m3, m4, m5⟩ := made_core o hc s1 hx hdx hne
    have hr : rho G (F.call (own p.2 σ)) = rho G F := rho_dl (F := F) (F' := F.call (own p.2 σ)) rfl
    have hcc : rho G F c = G.ca c := by unfold rho; rw [if_neg hc]
    refine ⟨F.call (own p.2 σ), ds ++ des, x, dx, vs ++ dvs, rfl, m1, m2, by rw [hr, hcc]; exact upd_same, by rw [List.length_append]; exact hl, ?_, Tr.All.mono (fun r q => ?_) q⟩
    · rw [hr, rens_app]
      exact ((dats_rep r1 hds).mono m4).append (hd F _)
    · have xU : x ∉ F.U p.2 σ := fun z => s1.tr o x z hx
      cases r with
      | ok d =>
        intro H3 f3 k3 r3
        obtain ⟨s3, f5⟩ := m5 f3 k3
        rw [call_V s3, hr] at r3
        exact ⟨rfl, q (.ref x) H3 h1 (f1.trans (h1 ▸ f5)) s3 r3⟩
      | ex k n' d =>
        intro H3 dx2 v f3 k3 hx3 r3
        obtain ⟨s3, f5⟩ := m5 f3 k3
        refine q H3 dx2 v s3 ((b.fw h1 f1).fw rfl f5) hx3 ?_
        rw [hr] at r3
        refine Rp.mono (fun b u hb => ?_) r3
        obtain ⟨g1, g2⟩ := cut_some hb
        have : cut (F.call (own p.2 σ)).V H3 b = some u := by rw [cut_out (fun z => g2 (List.mem_append_left _ z))]; exact g1
        rw [call_V s3] at this
        exact this
theorem m_rMk (o : G.Ok) {n : Nat} {c : Addr} {g : List Dt → Tr Rs} {des : List Dt} {dvs : List V} {as : XRA} {x : Expr} (hc : c ≠ 1) (h : PE X x (tMakeS (G.ca c) (spIX G c n g) dvs (WE Wx) (tRA G Wx as))) (hd : ∀ (F : Fr) (Hc : Hp), RpA G.K Hc (rens (rho G F) des) dvs) : PE X x (tR G Wx (rX (cR n g des) as)) := PE.weak h fun σ H Q q => rMk_of o hc hd q
theorem w_initX (o : G.Ok) {N : List Str} {n : Nat} {c : Addr} {b : XS} {vs : List V} {Q : VK} {E : XK} (h : spIX G c n (makeX c N.length b) vs H Q E) : tS G (fun cls d _ H => E cls d H) b { nx := fun _ H' => Q .non H', rt := Q } (L2.start N vs) H := by
  obtain ⟨F, args, x, dx, rest, rfl, k, xV, hx, hl, r, q⟩ := h
  have hlv : rest.length = args.length := by rw [r.length, rens_len]
  let F0 : Fr := ⟨F.Z, F.dl, some x, F.hd⟩
  have es : startN N.length (.ob c [] :: args.map Sl.d) = some (.ob c []) :: ((args.map Sl.d).map some ++ List.replicate (N.length - (args.length + 1)) none) := by
    unfold startN
    rw [List.length_cons, List.length_map]
    rfl
  have eσ : L2.start N (.ref x :: rest) = some (.ref x) :: (rest.map some ++ List.replicate (N.length - (args.length + 1)) none) := by
    unfold L2.start
    rw [List.length_cons, hlv]
    rfl
  have ow : own (startN N.length (.ob c [] :: args.map Sl.d)) (L2.start N (.ref x :: rest)) = [x] := by
    rw [es, eσ]
    show [x] ++ own _ _ = [x]
    rw [own_start]
    rfl
  have eU : F0.U (startN N.length (.ob c [] :: args.map Sl.d)) (L2.start N (.ref x :: rest)) = F.V ++ [x] := by
    unfold Fr.U
    rw [ow]
    show F.Z ++ (F.dS ++ [x]) = (F.Z ++ F.dS) ++ [x]
    rw [List.append_assoc]
  have s : Sim G F0 (startN N.length (.ob c [] :: args.map Sl.d)) (L2.start N (.ref x :: rest)) H := by
    refine ⟨?_, by rw [ow]; simp, fun b hb => ?_, k.zt, k.zd, k.deal, fun i c' fs hi => ?_⟩
    · rw [eU, es, eσ]
      exact ⟨some (.ref x), _, rfl, ⟨x, dx, [], rfl, hx, rfl⟩, slRs_start r⟩
    · rw [ow] at hb
      rw [List.mem_singleton.mp hb]
      exact ⟨fun z => xV (List.mem_append_left _ z), fun z => xV (List.mem_append_right _ z)⟩
    · rw [es] at hi
      rw [eσ]
      cases i with
      | zero => exact .inr ⟨x, rfl, rfl⟩
      | succ i => exact (no_ob_start (by simpa using hi)).elim
  refine ⟨F0, cut [x] H, _, s, ⟨fun b u _ h => (cut_some h).1, fun b hb => ?_⟩, Tr.All.mono (fun f q => ?_) (Tr.all_bind.mp q)⟩
  · rw [ow] at hb
    exact cut_in hb
  cases f with
  | nx e1 =>
    intro σ1 H1 s1 b1
    obtain ⟨d, hf, q⟩ := Tr.of_all (Tr.all_bind.mp q)
    unfold obAt at hf
    split at hf
    case h_2 => cases hf
    rename_i c' fs' he
    cases hf
    obtain ⟨y, hy, a, dx', gs, e1', e2, e3⟩ := s1.slots.get he
    obtain ⟨a', ha', hy'⟩ := (s1.slf 0 _ _ he).resolve_left (fun z => nomatch z)
    cases ha'
    subst e1'
    rw [hy'] at hy
    cases hy
    have q' : ∀ H', Fw F [x] H H' → FrOk G F H' → Rp G.K (cut F.V H') (ren (rho G F) (.obj c' fs')) (.ref x) → Q .non H' := q
    refine q' H1 (fun b u h1 h2 h3 => b1.st b u h1 (by rw [cut_out h2]; exact h3)) ⟨s1.zt, s1.zd, s1.deal⟩ ?_
    have sub : Ex (cut (F0.U e1 σ1) H1) (cut F.V H1) := cut_subL fun b hb => by
      rcases List.mem_append.mp hb with z | z
      · exact List.mem_append_left _ z
      · exact List.mem_append_right _ (List.mem_append_left _ z)
    exact ⟨x, dx', gs, rfl, by rw [cut_out xV]; exact e2, RpF.mono sub e3⟩
  | rt v e1 => exact q.elim
  | bk e1 => exact q.elim
  | ct e1 => exact q.elim
  | xc k' n' d e1 =>
    intro σ1 H1 dx2 v s1 b1 hx2 r1
    have q1 : ((Tr.of (if (obAt e1 0).isSome = true then some (Rs.ex k' n' d) else none)) : Tr Rs).All (PostRI G F x H Q E) := q
    obtain ⟨r0, hr0, q2⟩ := Tr.of_all q1
    split at hr0
    case isFalse => cases hr0
    rename_i hsome
    cases hr0
    obtain ⟨ob, ho⟩ := Option.isSome_iff_exists.mp hsome
    obtain ⟨c', fs', rfl, he⟩ := obAt_some ho
    obtain ⟨y, hy, a, dx', gs, e1', e2, e3⟩ := s1.slots.get he
    obtain ⟨a', ha', hy'⟩ := (s1.slf 0 _ _ he).resolve_left (fun z => nomatch z)
    cases ha'
    subst e1'
    rw [hy'] at hy
    cases hy
    have xo := own_memb he rfl hy'
    have q3 : ∀ H' dx v, Fw F [x] H H' → FrOk G F H' → H' dx = some (.xd [(n', v)]) → Rp G.K (cut (F.V ++ [x]) H') (ren (rho G F) d) v → E (.ref (G.ca k')) (some dx) H' := q2
    refine q3 H1 dx2 v (fun b u h1 h2 h3 => b1.st b u h1 (by rw [cut_out h2]; exact h3)) ⟨s1.zt, s1.zd, s1.deal⟩ hx2 (Rp.mono (cut_subL fun b hb => ?_) r1)
    rcases List.mem_append.mp hb with z | z
    · rcases List.mem_append.mp z with z | z
      · exact List.mem_append_left _ z
      · exact List.mem_append_right _ (List.mem_append_left _ z)
    · rw [List.mem_singleton.mp z]
      exact List.mem_append_right _ (List.mem_append_right _ xo)
end
section
variable {P : Program} {w : World} {mg : Str → Option Value} {base : Heap} {G : Gd}
theorem ok_IX (o : G.Ok) {x qual : Str} {st : Stmt} {f : Addr} {fd : FuncData} {N ps : List Str} {k n : Nat} {c : Addr} {b : XS} (F : FunA G.K x qual st f fd) (S : FnScope N ps (defScope st)) (hn : ps.length = n + 1)
    (h : ∀ (cdv : Value) (A : Around) (outer : List Env) (s : Shared) (H : Hp) (E : XK), Room k (A.deeper (envOfC qual (defScope st) s.heap.objs.size f cdv)) →
      L2.Takes (cxOf (L2.CX P w) P w G.K mg base N qual (defScope st) f cdv A outer s H E) (fun cls d _ H => E cls d H) →
      PassesOwn (model P w) (cxOf (L2.CX P w) P w G.K mg base N qual (defScope st) f cdv A outer s H E).A (cxOf (L2.CX P w) P w G.K mg base N qual (defScope st) f cdv A outer s H E).env (cxOf (L2.CX P w) P w G.K mg base N qual (defScope st) f cdv A outer s H E).xe →
      PSs (cxOf (L2.CX P w) P w G.K mg base N qual (defScope st) f cdv A outer s H E) (defBody st) (tS G (fun cls d _ H => E cls d H) b)) : FnOk P w G.K mg base (L2.CX P w) (k + 1) f fd ps (spIX G c n (makeX c N.length b)) := by
  obtain ⟨oc, od, dV, kV, doc, pm, an, cdv, ct, osl, rfl, lk, hcd⟩ := F.ex
  refine fn_of lk hcd S (fun vs H Q E h => by rw [spIX_len h, hn]) fun A outer s H vs Q E hr hsp => ⟨_, h cdv A outer s H E hr (L2.takes_of rfl rfl rfl rfl) (L2.passes_of rfl), w_initX o hsp⟩
theorem fn_stuckIX {CX : CXT} {k n : Nat} {c f : Addr} {fd : FuncData} {ps : List Str} (hn : ps.length = n + 1 := by rfl) : FnOk P w G.K mg base CX k f fd ps (spIX G c n fun _ => .stuck) :=
  ⟨fun vs H Q E h => by rw [spIX_len h, hn], fun A outer s H args us vs Q E _ _ _ _ h => by
    obtain ⟨_, _, _, _, _, _, _, _, _, _, _, q⟩ := h
    exact q.elim⟩
end
end Mc
namespace Mc
open PySem PySem.Spec PyProof.Rows L2 Evl
abbrev AlY : Type := Bool × List FnW × List FnU
def obsY (fa : FaX) (fn fu : List (PySem.W.Frag → Addr)) (K : PySem.W.Frag) : AlY := (fa.all fun g => g.all fun f => f K, fn.map (fun a => fnO_h K (a K)), fu.map fun a => fnU K (a K))
def obsYG (n : Nat) (fa : FaX) (fn fu : List (PySem.W.Frag → Addr)) (g : Addr → Option Obj) : AlY := obsY fa fn fu (He.frG g (asX g n))
def SaysY (fa : FaX) (fn fu : List (PySem.W.Frag → Addr)) (vals : List FnW) (valu : List FnU) (K : PySem.W.Frag) : Prop := obsY fa fn fu K = (true, vals, valu)
def hookY (n : Nat) (fa : FaX) (fn fu : List (PySem.W.Frag → Addr)) (vals : List FnW) (valu : List FnU) : PySem.W.Hook where
  α := AlY
  obs := fun s => obsYG n fa fn fu s.heap.get?
  val := fun _ => (true, vals, valu)
  says := fun _ h => ∃ K : PySem.W.Frag, K.In h ∧ SaysY fa fn fu vals valu K
  of := fun _ _ e => ⟨_, He.frG_in, e⟩
  keeps := fun _ _ _ ⟨K, hK, c⟩ k => ⟨K, PySem.W.Frag.In.keeps hK k, c⟩
theorem obsYG_eq {n : Nat} {fa : FaX} {fn fu : List (PySem.W.Frag → Addr)} {vals : List FnW} {valu : List FnU} {g : Addr → Option Obj} {s : Shared} (h : ∀ a, g a = s.heap.get? a) : obsYG n fa fn fu g = (hookY n fa fn fu vals valu).obs s := by
  have e : g = s.heap.get? := funext h
  rw [e] <;> rfl
section
variable {fa : FaX} {fn fu : List (PySem.W.Frag → Addr)} {vals : List FnW} {valu : List FnU} {K : PySem.W.Frag}
theorem SaysY.grp (c : SaysY fa fn fu vals valu K) (i : Nat) {g : List (PySem.W.Frag → Bool)} (h : fa[i]? = some g) : (g.all fun f => f K) = true :=
  List.all_eq_true.mp (show (fa.all fun g => g.all fun f => f K) = true from congrArg (fun z : AlY => z.1) c) g (List.mem_of_getElem? h)
theorem SaysY.fnAt (c : SaysY fa fn fu vals valu K) (i : Nat) {a : PySem.W.Frag → Addr} {v : FnW} (h : fn[i]? = some a) (hv : vals[i]? = some v) : fnO_h K (a K) = v := by
  have e : fn.map (fun a => fnO_h K (a K)) = vals := congrArg (fun z : AlY => z.2.1) c
  have e2 : (fn.map fun a => fnO_h K (a K))[i]? = vals[i]? := by rw [e]
  rw [List.getElem?_map, h, hv] at e2
  exact Option.some.inj e2
theorem SaysY.fuAt (c : SaysY fa fn fu vals valu K) (i : Nat) {a : PySem.W.Frag → Addr} {v : FnU} (h : fu[i]? = some a) (hv : valu[i]? = some v) : fnU K (a K) = v := by
  have e : fu.map (fun a => fnU K (a K)) = valu := congrArg (fun z : AlY => z.2.2) c
  have e2 : (fu.map fun a => fnU K (a K))[i]? = valu[i]? := by rw [e]
  rw [List.getElem?_map, h, hv] at e2
  exact Option.some.inj e2
end
theorem run_ofY {α β γ : Type} {o : Option α} {f : α → Bool} {g : α → β} {h : α → γ} {b : β} {v : γ} (h1 : o.map (fun s => (f s, g s)) = some (true, b)) (h2 : ∀ s, o = some s → h s = v) : o.map (fun s => (f s, g s, h s)) = some (true, b, v) := by
  cases o with
  | none => cases h1
  | some s =>
    have e := Option.some.inj (show some (f s, g s) = some (true, b) from h1)
    obtain ⟨e1, e2⟩ := Prod.mk.inj e
    show some (f s, g s, h s) = _
    rw [e1, e2, h2 s rfl]
theorem ob_ofY {α γ : Type} {o : Option α} {h : α → γ} {v : γ} (e : o.map h = some v) {s : α} (hs : o = some s) : h s = v := by
  subst hs
  exact Option.some.inj e
structure SupSt (st : Stmt) (n : Str) : Prop where
  ex : ∃ (p0 p1 p2 p3 p4 p5 p6 p7 p8 p9 : Pos) (ar : Arg),
    defBody st = [.Expr (.Call (.Attribute (.Call (.Name "super" p0) [] [] p1) "__init__" p2) [.Name n p3] [] p4) p5, .Assign [.Attribute (.Name "self" p6) n p7] (.Name n p8) p9] ∧
    ((defArgs st).posonlyargs ++ (defArgs st).args).head? = some ar ∧ ar.arg = "self" ∧
    (defScope st).names.lookup ("super" : Str) = some .globalImplicit ∧ (defScope st).names.lookup ("__class__" : Str) = some .free ∧ (defScope st).names.lookup ("self" : Str) = some .local ∧ (defScope st).names.lookup n = some .local ∧ (defScope st).kind = .function ∧ (defScope st).isCoroutine = false ∧ (defScope st).isGenerator = false ∧
    (∀ x ∈ (defScope st).names, x.2 ≠ .cell) ∧
    (∀ (K : PySem.W.Frag) (nm qual : Str) (kV doc pm : Value) (an : Option Addr) (ct : Value) (cc cda : Addr), Binds K (PySem.W.fnX nm qual (defArgs st) (defBody st) (defScope st) [("__class__", cc)] .none kV doc pm an (.ref cda) ct) ["self", n] []) ∧
    (∀ (nm qual : Str) (kV doc pm : Value) (an : Option Addr) (ct : Value) (cc cda fI : Addr) L, interactive (callEnv (PySem.W.fnX nm qual (defArgs st) (defBody st) (defScope st) [("__class__", cc)] .none kV doc pm an (.ref cda) ct) L fI) = false ∧
      swapsWith (.Call (.Attribute (.Call (.Name "super" p0) [] [] p1) "__init__" p2) [.Name n p3] [] p4) none p5.line (callEnv (PySem.W.fnX nm qual (defArgs st) (defBody st) (defScope st) [("__class__", cc)] .none kV doc pm an (.ref cda) ct) L fI) = pure false ∧
      swapsWith (.Name n p8) (some (.Attribute (.Name "self" p6) n p7)) p9.line (callEnv (PySem.W.fnX nm qual (defArgs st) (defBody st) (defScope st) [("__class__", cc)] .none kV doc pm an (.ref cda) ct) L fI) = pure false ∧
      ∃ pl : Sem Bool, eval (.Call (.Attribute (.Call (.Name "super" p0) [] [] p1) "__init__" p2) [.Name n p3] [] p4) (callEnv (PySem.W.fnX nm qual (defArgs st) (defBody st) (defScope st) [("__class__", cc)] .none kV doc pm an (.ref cda) ct) L fI) = (do
        let ov ← attributeBase (.Call (.Name "super" p0) [] [] p1) "__init__" (callEnv (PySem.W.fnX nm qual (defArgs st) (defBody st) (defScope st) [("__class__", cc)] .none kV doc pm an (.ref cda) ct) L fI) (eval (.Call (.Name "super" p0) [] [] p1) (callEnv (PySem.W.fnX nm qual (defArgs st) (defBody st) (defScope st) [("__class__", cc)] .none kV doc pm an (.ref cda) ct) L fI))
        standAt p2.atName
        let (f, first) ← holding [ov] (getMethod ov "__init__" pl)
        callWith p4 f first (backTo p4 (starEach [.Name n p3] (callEnv (PySem.W.fnX nm qual (defArgs st) (defBody st) (defScope st) [("__class__", cc)] .none kV doc pm an (.ref cda) ct) L fI))) []))
theorem sx_mk {P : Program} {K : PySem.W.Frag} {C f : Addr} {n qual : Str} {st : Stmt} (S : SupSt st n) (h1 : oexB K C = true) (h2 : PySem.W.findIn K (.ref C) "__setattr__" = some (some (.builtin "object.__setattr__"))) (h3 : PySem.W.subIn K (.ref C) (.type "BaseException") = some true) (h4 : PySem.W.typeIn K (.ref C) = some (.type "type")) (h5 : PySem.W.keepIn K (.ref C) = true)
    (h6 : PySem.W.findIn K (.ref C) n = some none) (h7 : PySem.W.findIn K (.ref C) "__init__" = some (some (.ref f))) (h8 : PySem.W.typeIn K (.ref f) = some (.type "function")) (h9 : PySem.W.ks_superIn K C C "__init__" = some (some (.builtin "ValueError.__init__"))) (h10 : PySem.W.nsIn K cStatics "thirdparty.any" = some none)
    (h11 : PySem.W.mroIn K C (.ref C) = some true) (h12 : PySem.W.subIn K (.ref C) (.type "ValueError") = some true) (e : fnU K f = fnUVal "__init__" qual st) (hs : supB P K f C qual = true) (db : (n == ("__debug__" : Str)) = false) (top : (P.main.scope.names.lookup ("super" : Str)).isSome = false) (ns : n ≠ "self") : SxC P K C f n := by
  obtain ⟨oc, od, osl, kV, doc, pm, an, ct, cc, cda, lk, hcd, hcell, hcode⟩ := sup_ok e hs
  obtain ⟨p0, p1, p2, p3, p4, p5, p6, p7, p8, p9, ar, hb, s1, s2, s3, s4, s5, s6, s7, s8, s9, s10, s11, s12⟩ := S.ex
  have s11 := s11 K "__init__" qual kV doc pm an ct cc cda
  have s12 := s12 "__init__" qual kV doc pm an ct cc cda f
  rw [hb] at lk s11 s12
  exact { o := ⟨oexB_ok h1, h2, h3, h4, h5⟩, no := h6, ini := h7, tI := h8, al := h9, op := h10, sub := h11, vB := h12, fn := ⟨oc, od, osl, "__init__", qual, defArgs st, defScope st, .none, kV, doc, pm, an, ct, cc, cda, p0, p1, p2, p3, p4, p5, p6, p7, p8, p9, ar, lk, hcd, s1, s2, s3, s4, s5, s6, s7, s8, s9, s10, hcell, hcode, s11, s12⟩, db := db, top := top, ns := ns }
end Mc
namespace Mc
open PySem PySem.Spec PyProof.Rows L2 Evl
def c_BARRED : Dt := .tup [.str "all", .str "none", .str "at", .str "if", .str "else", .str "end", .str "say", .str "stop"]
abbrev ks_all : List Addr := [5, 3]
abbrev ks_names : List Addr := [5, 3]
abbrev ks_number : List Addr := [5, 3]
abbrev ks_parts : List Addr := [5, 3]
abbrev ks_script : List Addr := [5, 3]
abbrev ks_sign : List Addr := [5, 3]
abbrev ks_size : List Addr := [5, 3]
abbrev ks_word : List Addr := [5, 3]
abbrev kc_Crowd : List (Addr × Bool) := [(5, false), (3, true)]
structure Tb where
  is_integer : List Dt → Tr Dt
  is_sequence : List Dt → Tr Dt
  is_name : List Dt → Tr Dt
  ascending : List Dt → Tr Dt
  names_of : List Dt → Tr Dt
  is_kind : List Dt → Tr Dt
  is_part : List Dt → Tr Dt
  added : List Dt → Tr Dt
  mk_Crowd : List Dt → Tr Dt
  Crowd___eq__ : List Dt → Tr Dt
  Crowd___str__ : List Dt → Tr Dt
  script_of : List Dt → Tr Dt
  mk_Group : List Dt → Tr Dt
  Group_named : List Dt → Tr Dt
  Group_every : List Dt → Tr Dt
  lpick : List Dt → Tr Dt
  lshuffled : List Dt → Tr Dt
  lnames : List Dt → Tr Dt
  lsome_kind : List Dt → Tr Dt
  lparts : List Dt → Tr Dt
  lrefused : List Dt → Tr Dt
  X_mk_Crowd : List Dt → Tr Rs
def b_is_integer (tb : Tb) : XS :=
    (sRet (xAnd (xB (un (fIsi ks_all)) (xCons (xVar 0) (xCons (xC (.ty "int")) xNil))) (xNot (xB (un (fIsi ks_all)) (xCons (xVar 0) (xCons (xC (.ty "bool")) xNil))))))
def b_is_sequence (tb : Tb) : XS :=
    (sRet (xB (un (fIsi2 ks_all "list" "tuple")) (xCons (xVar 0) xNil)))
def b_is_name (tb : Tb) : XS :=
    (sSeq (sIf (xOrT (xNotT (xTest (xB (un (fIsi ks_all)) (xCons (xVar 0) (xCons (xC (.ty "str")) xNil))))) (xOrT (xNotT (xTest (xChain (un fLe) (un fLe) (xC (.int 1)) (xB (un fLen) (xCons (xVar 0) xNil)) (xC (.int 4))))) (xTest (xB (un fIn) (xCons (xVar 0) (xCons (xC c_BARRED) xNil)))))) (sRet (xC (.bl false))) sNext)
    (sRet (xB (un fAll) (xCons (xLc (iX iSeqD (xCons (xVar 0) xNil)) (gN 1) yes (xB (un fIn) (xCons (xVar 1) (xCons (xC (.str "abcdefghijklmnopqrstuvwxyz")) xNil))) [1]) xNil))))
def b_ascending (tb : Tb) : XS :=
    (sRet (xB (un fTuple) (xCons (xSortS (iX iSeqD (xCons (xVar 0) xNil)) (gN 1) (xO (ifO (isK 3) (dStr 3 tb.Crowd___str__) (toB fStr)) (xCons (xVar 1) xNil)) [1]) xNil)))
def b_names_of (tb : Tb) : XS :=
    (sRet (xF (cF 1 tb.ascending []) (xCons (xLc2 (iX iSeqD (xCons (xVar 0) xNil)) (gN 1) yes (iX iSeqD (xCons (xB (bAttr ks_names "names") (xCons (xVar 1) xNil)) xNil)) (gN 2) yes (xVar 2) [1, 2] [2]) xNil)))
def b_is_kind (tb : Tb) : XS :=
    (sSeq (sIf (xOrT (xNotT (xTest (xF (cF 1 tb.is_sequence []) (xCons (xVar 0) xNil)))) (xNotT (xTest (xB (un fAll) (xCons (xLc (iX iSeqD (xCons (xVar 0) xNil)) (gN 1) yes (xF (cF 1 tb.is_name []) (xCons (xVar 1) xNil)) [1]) xNil))))) (sRet (xC (.bl false))) sNext)
    (sRet (xO (ifO (isK 3) (dCmp 3 ks_all tb.Crowd___eq__) (toB fEq)) (xCons (xB (un fLen) (xCons (xF (cF 1 tb.ascending []) (xCons (xVar 0) xNil)) xNil)) (xCons (xB (un fLen) (xCons (xVar 0) xNil)) xNil)))))
def b_is_part (tb : Tb) : XS :=
    (sSeq (sIf (xOrT (xNotT (xTest (xB (un (fIsi ks_all)) (xCons (xVar 0) (xCons (xC (.ty "tuple")) xNil))))) (xTest (xO (ifO (isK 3) (dNe 3 ks_all tb.Crowd___eq__) (toB fNe)) (xCons (xB (un fLen) (xCons (xVar 0) xNil)) (xCons (xC (.int 2)) xNil))))) (sRet (xC (.bl false))) sNext)
    (sRet (xAnd (xF (cF 1 tb.is_kind []) (xCons (xB (un fIx) (xCons (xVar 0) (xCons (xC (.int 0)) xNil))) xNil)) (xAnd (xF (cF 1 tb.is_integer []) (xCons (xB (un fIx) (xCons (xVar 0) (xCons (xC (.int 1)) xNil))) xNil)) (xB (un fGe) (xCons (xB (un fIx) (xCons (xVar 0) (xCons (xC (.int 1)) xNil))) (xCons (xC (.int 0)) xNil)))))))
def b_added (tb : Tb) : XS :=
    (sSeq (sAsg (xLc (iX iSeqD (xCons (xVar 0) xNil)) (gT (gsC (gN 5) (gsC (gN 6) gs0))) yes (xTup (xCons (xTx (un fJoin) (xC (.str " ")) (xVar 5)) (xCons (xVar 6) xNil))) [5, 6]) (gN 1))
    (sSeq (sOwn 2 xNil)
    (sSeq (sFor (iX iSeqD (xCons (xSortS (iX iSeqD (xCons (xVar 1) xNil)) (gT (gsC (gN 3) (gsC (gN 6) gs0))) (xO (ifO (isK 3) (dStr 3 tb.Crowd___str__) (toB fStr)) (xCons (xVar 3) xNil)) [3, 6]) xNil)) (gN 3) (sSeq (sAsg (xB (un fSum) (xCons (xLc (iX iSeqD (xCons (xVar 1) xNil)) (gT (gsC (gN 7) (gsC (gN 6) gs0))) (xTest (xO (ifO (isK 3) (dCmp 3 ks_all tb.Crowd___eq__) (toB fEq)) (xCons (xVar 7) (xCons (xVar 3) xNil)))) (xVar 6) [7, 6]) xNil)) (gN 4))
    (sDrop (xMut cExtend (xVar 2) (xCons (xIf (xTest (xB (un fGt) (xCons (xVar 4) (xCons (xC (.int 0)) xNil)))) (xLst (xCons (xTup (xCons (xIf (xTest (xO (ifO (isK 3) (dNe 3 ks_all tb.Crowd___eq__) (toB fNe)) (xCons (xVar 3) (xCons (xC (.str "")) xNil)))) (xB (un fTuple) (xCons (xTx (un fSplit) (xVar 3) (xC (.str " "))) xNil)) (xTup xNil)) (xCons (xVar 4) xNil))) xNil)) (xLst xNil)) xNil)))))
    (sRet (xB (un fTuple) (xCons (xVar 2) xNil))))))
def b_Crowd___init__ (tb : Tb) : XS :=
    (sSeq (sIf (xNotT (xTest (xF (cF 1 tb.is_sequence []) (xCons (xVar 1) xNil)))) sNever sNext)
    (sSeq (sFor (iX iEnum (xCons (xVar 1) xNil)) (gT (gsC (gN 2) (gsC (gN 3) gs0))) (sIf (xNotT (xTest (xF (cF 1 tb.is_part []) (xCons (xVar 3) xNil)))) sNever sNext))
    (sSeq (sFldK 3 0 "parts" (xF (cF 1 tb.added []) (xCons (xLc (iX iSeqD (xCons (xVar 1) xNil)) (gT (gsC (gN 4) (gsC (gN 5) gs0))) yes (xTup (xCons (xF (cF 1 tb.ascending []) (xCons (xVar 4) xNil)) (xCons (xVar 5) xNil))) [4, 5]) xNil)))
    (sSeq (sFldK 3 0 "script" (xB (un fTuple) (xCons (xLc (iX iSeqD (xCons (xB (bAttr ks_parts "parts") (xCons (xVar 0) xNil)) xNil)) (gT (gsC (gN 4) (gsC (gN 5) gs0))) yes (xTx (un fJoin) (xC (.str " ")) (xLst (xCons (xO (ifO (isK 3) (dStr 3 tb.Crowd___str__) (toB fStr)) (xCons (xVar 5) xNil)) (xStar (xVar 4) xNil)))) [4, 5]) xNil)))
    (sFldK 3 0 "size" (xB (un fSum) (xCons (xLc (iX iSeqD (xCons (xB (bAttr ks_parts "parts") (xCons (xVar 0) xNil)) xNil)) (gT (gsC (gN 4) (gsC (gN 5) gs0))) yes (xVar 5) [4, 5]) xNil)))))))
def b_Crowd___eq__ (tb : Tb) : XS :=
    (sRet (xAnd (xB (un (fIsCc 3 kc_Crowd)) (xCons (xVar 1) (xCons (xC (.ptr 3)) xNil))) (xO (ifO (isK 3) (dCmp 3 ks_all tb.Crowd___eq__) (toB fEq)) (xCons (xB (bAttr ks_parts "parts") (xCons (xVar 0) xNil)) (xCons (xB (bAttr ks_parts "parts") (xCons (xVar 1) xNil)) xNil)))))
def b_Crowd___str__ (tb : Tb) : XS :=
    (sSeq (sIf (xTest (xO (ifO (isK 3) (dCmp 3 ks_all tb.Crowd___eq__) (toB fEq)) (xCons (xB (bAttr ks_script "script") (xCons (xVar 0) xNil)) (xCons (xTup xNil) xNil)))) (sRet (xC (.str "nobody"))) sNext)
    (sRet (xTx (un fJoin) (xC (.str ", ")) (xB (bAttr ks_script "script") (xCons (xVar 0) xNil)))))
def b_script_of (tb : Tb) : XS :=
    (sSeq (sIf (xTest (xO (ifO (isK 3) (dCmp 3 ks_all tb.Crowd___eq__) (toB fEq)) (xCons (xB (bAttr ks_sign "sign") (xCons (xVar 0) xNil)) (xCons (xC (.str "name")) xNil)))) (sRet (xTup (xCons (xB (bAttr ks_word "word") (xCons (xVar 0) xNil)) xNil))) sNext)
    (sSeq (sOwn 1 (xCons (xB (bAttr ks_sign "sign") (xCons (xVar 0) xNil)) xNil))
    (sSeq (sIf (xTest (xO (ifO (isK 3) (dCmp 3 ks_all tb.Crowd___eq__) (toB fEq)) (xCons (xB (bAttr ks_sign "sign") (xCons (xVar 0) xNil)) (xCons (xC (.str "at")) xNil)))) (sDrop (xMut cExtend (xVar 1) (xCons (xLst (xCons (xO (ifO (isK 3) (dStr 3 tb.Crowd___str__) (toB fStr)) (xCons (xB (bAttr ks_number "number") (xCons (xVar 0) xNil)) xNil)) (xCons (xO (ifO (isK 3) (dStr 3 tb.Crowd___str__) (toB fStr)) (xCons (xB (un fLen) (xCons (xB (bAttr ks_parts "parts") (xCons (xVar 0) xNil)) xNil)) xNil)) xNil))) xNil))) sNext)
    (sRet (xTup (xStar (xVar 1) (xStar (xLc2 (iX iSeqD (xCons (xB (bAttr ks_parts "parts") (xCons (xVar 0) xNil)) xNil)) (gN 2) yes (iX iSeqD (xCons (xB (bAttr ks_script "script") (xCons (xVar 2) xNil)) xNil)) (gN 3) yes (xVar 3) [2, 3] [3]) xNil)))))))
def b_Group___init__ (tb : Tb) : XS :=
    (sSeq (sFldK 5 0 "sign" (xVar 1))
    (sSeq (sFldK 5 0 "parts" (xB (un fTuple) (xCons (xVar 2) xNil)))
    (sSeq (sFldK 5 0 "word" (xVar 3))
    (sSeq (sFldK 5 0 "number" (xVar 4))
    (sSeq (sFldK 5 0 "names" (xIf (xTest (xO (ifO (isK 3) (dCmp 3 ks_all tb.Crowd___eq__) (toB fEq)) (xCons (xVar 1) (xCons (xC (.str "name")) xNil)))) (xTup (xCons (xVar 3) xNil)) (xF (cF 1 tb.names_of []) (xCons (xB (bAttr ks_parts "parts") (xCons (xVar 0) xNil)) xNil))))
    (sFldK 5 0 "script" (xFo (cF 1 tb.script_of []) (xCons (xVar 0) xNil))))))))
def b_Group_named (tb : Tb) : XS :=
    (sSeq (sIf (xNotT (xTest (xF (cF 1 tb.is_name []) (xCons (xVar 1) xNil)))) sNever sNext)
    (sRet (xMkL 0 5 (cF 4 tb.mk_Group [.int 0]) (xCons (xC (.str "name")) (xCons (xTup xNil) (xCons (xVar 1) xNil))))))
def b_Group_every (tb : Tb) : XS :=
    (sRet (xMkL 0 5 (cF 4 tb.mk_Group [.str "", .int 0]) (xCons (xC (.str "all")) (xCons (xTup xNil) xNil))))
def b_lpick (tb : Tb) : XS :=
    (sRet (xB (un fIx) (xCons (xVar 1) (xCons (xF (cF 2 drawF []) (xCons (xVar 0) (xCons (xB (un fLen) (xCons (xVar 1) xNil)) xNil))) xNil))))
def b_lshuffled (tb : Tb) : XS :=
    (sSeq (sParFF 2 3 (lList (xVar 1)) (lDisp xNil))
    (sSeq (sFor (iX iRange1 (xCons (xB (un fLen) (xCons (xVar 2) xNil)) xNil)) (gN 4) (sDrop (xMut cAppend (xVar 3) (xCons (xMut cPopAt (xVar 2) (xCons (xF (cF 2 drawF []) (xCons (xVar 0) (xCons (xB (un fLen) (xCons (xVar 2) xNil)) xNil))) xNil)) xNil))))
    (sRet (xVar 3))))
def b_lnames (tb : Tb) : XS :=
    (sSeq (sAsg (xLst (xCons (xC (.str "more")) (xCons (xC (.str "even")) (xCons (xC (.str "is")) (xCons (xC (.str "do")) (xCons (xC (.str "know")) (xCons (xC (.str "let")) (xCons (xC (.str "w")) (xCons (xC (.str "sure")) (xCons (xC (.str "undo")) (xCons (xC (.str "row")) xNil))))))))))) (gN 2))
    (sSeq (sAsg (xTup (xCons (xF (cF 2 drawF []) (xCons (xVar 0) (xCons (xC (.int 3)) xNil))) (xCons (xF (cF 2 drawF []) (xCons (xVar 0) (xCons (xC (.int 26)) xNil))) xNil))) (gT (gsC (gN 3) (gsC (gN 4) gs0))))
    (sSeq (sIf (xTest (xO (ifO (isK 3) (dCmp 3 ks_all tb.Crowd___eq__) (toB fEq)) (xCons (xVar 3) (xCons (xC (.int 0)) xNil)))) (sRet (xSl (xF (cF 2 tb.lshuffled []) (xCons (xVar 0) (xCons (xVar 2) xNil))) oNone (oSome (xVar 1)))) sNext)
    (sSeq (sIf (xTest (xO (ifO (isK 3) (dCmp 3 ks_all tb.Crowd___eq__) (toB fEq)) (xCons (xVar 3) (xCons (xC (.int 1)) xNil)))) (sRet (xF (cF 2 tb.lshuffled []) (xCons (xVar 0) (xCons (xLc (iX iRange1 (xCons (xVar 1) xNil)) (gN 6) yes (xSl (xC (.str "zzzz")) oNone (oSome (xB (un fAdd) (xCons (xVar 6) (xCons (xC (.int 1)) xNil))))) [6]) xNil)))) sNext)
    (sSeq (sAsg (xC (.str "abcdefghijklmnopqrstuvwxyz")) (gN 5))
    (sRet (xLc (iX iRange1 (xCons (xVar 1) xNil)) (gN 6) yes (xB (un fAdd) (xCons (xB (un fIx) (xCons (xVar 5) (xCons (xB (un fMod) (xCons (xB (un fInt) (xCons (xB (un fAdd) (xCons (xVar 4) (xCons (xB (un fMul) (xCons (xC (.int 11)) (xCons (xVar 6) xNil))) xNil))) xNil)) (xCons (xC (.int 26)) xNil))) xNil))) (xCons (xSl (xC (.str "wq")) oNone (oSome (xB (un fMod) (xCons (xB (un fInt) (xCons (xVar 4) xNil)) (xCons (xC (.int 3)) xNil))))) xNil))) [6])))))))
def b_lsome_kind (tb : Tb) : XS :=
    (sRet (xSl (xF (cF 2 tb.lshuffled []) (xCons (xVar 0) (xCons (xVar 1) xNil))) oNone (oSome (xF (cF 2 drawF []) (xCons (xVar 0) (xCons (xB (un fAdd) (xCons (xB (un fLen) (xCons (xVar 1) xNil)) (xCons (xC (.int 1)) xNil))) xNil))))))
def b_lparts (tb : Tb) : XS :=
    (sSeq (sOwn 3 xNil)
    (sSeq (sFor (iX iRange1 (xCons (xF (cF 2 drawF []) (xCons (xVar 0) (xCons (xC (.int 6)) xNil))) xNil)) (gN 4) (sSeq (sAsg (xF (cF 2 tb.lsome_kind []) (xCons (xVar 0) (xCons (xVar 1) xNil))) (gN 5))
    (sDrop (xMut cAppend (xVar 3) (xCons (xTup (xCons (xIf (xTest (xO (ifO (isK 3) (dCmp 3 ks_all tb.Crowd___eq__) (toB fEq)) (xCons (xF (cF 2 drawF []) (xCons (xVar 0) (xCons (xC (.int 2)) xNil))) (xCons (xC (.int 0)) xNil)))) (xB (un fTuple) (xCons (xVar 5) xNil)) (xVar 5)) (xCons (xF (cF 2 drawF []) (xCons (xVar 0) (xCons (xB (un fAdd) (xCons (xVar 2) (xCons (xC (.int 1)) xNil))) xNil))) xNil))) xNil)))))
    (sRet (xVar 3))))
def b_lrefused (tb : Tb) : XS :=
    (sSeq (sAsg (xC (.str "made")) (gN 1))
    (sSeq (sTryK (sDropR (rX (cR 1 tb.X_mk_Crowd []) (rUpA (xCons (xVar 0) xNil)))) [(1000, "at")] 2 1)
    (sRet (xVar 1))))
def b_law (tb : Tb) : XS :=
    (sSeq (sFor (iX iRange1 (xCons (xC (.int 6)) xNil)) (gN 2) (sSeq (sAsg (xF (cF 2 tb.lnames []) (xCons (xVar 1) (xCons (xB (un fAdd) (xCons (xC (.int 1)) (xCons (xF (cF 2 drawF []) (xCons (xVar 1) (xCons (xC (.int 3)) xNil))) xNil))) xNil))) (gN 3))
    (sSeq (sAsg (xF (cF 3 tb.lparts []) (xCons (xVar 1) (xCons (xVar 3) (xCons (xC (.int 5)) xNil)))) (gN 4))
    (sSeq (sAsg (xB (un fIx) (xCons (xVar 3) (xCons (xC (.int 0)) xNil))) (gN 5))
    (sSeq (sAsg (xLst (xCons (xC .non) (xCons (xTup xNil) (xCons (xTup (xCons (xTup (xCons (xVar 5) xNil)) xNil)) (xCons (xTup (xCons (xTup (xCons (xVar 5) xNil)) (xCons (xC (.int 1)) (xCons (xC (.int 2)) xNil)))) (xCons (xLst (xCons (xTup (xCons (xVar 5) xNil)) (xCons (xC (.int 1)) xNil))) (xCons (xTup (xCons (xTup (xCons (xVar 5) (xCons (xVar 5) xNil))) (xCons (xC (.int 1)) xNil))) (xCons (xTup (xCons (xVar 5) (xCons (xC (.int 1)) xNil))) (xCons (xTup (xCons (xTup (xCons (xC (.str "all")) xNil)) (xCons (xC (.int 1)) xNil))) (xCons (xTup (xCons (xTup (xCons (xVar 5) (xCons (xC (.str "if")) xNil))) (xCons (xC (.int 1)) xNil))) xNil)))))))))) (gN 6))
    (sSeq (sAsg (xB (un fAdd) (xCons (xVar 6) (xCons (xLst (xCons (xTup (xCons (xTup (xCons (xVar 5) xNil)) (xCons (xC (.bl true)) xNil))) (xCons (xTup (xCons (xTup (xCons (xVar 5) xNil)) (xCons (xB (un fSub) (xCons (xC (.int 0)) (xCons (xC (.int 1)) xNil))) xNil))) (xCons (xTup (xCons (xTup (xCons (xVar 5) xNil)) (xCons (xC (.str "1")) xNil))) (xCons (xTup (xCons (xTup (xCons (xC (.str "A")) xNil)) (xCons (xC (.int 1)) xNil))) (xCons (xTup (xCons (xTup (xCons (xC (.int 1)) xNil)) (xCons (xC (.int 1)) xNil))) (xCons (xTup (xCons (xC .non) (xCons (xC (.int 1)) xNil))) (xCons (xTup (xCons (xTup (xCons (xVar 5) xNil)) (xCons (xC .non) xNil))) (xCons (xC (.str "a1")) (xCons (xC (.int 3)) xNil)))))))))) xNil))) (gN 6))
    (sSeq (sAsg (xB (un fAdd) (xCons (xVar 6) (xCons (xLst (xCons (xTup (xCons (xTup (xCons (xF (cF 2 tb.Group_named []) (xCons (xC (.ptr 5)) (xCons (xVar 5) xNil))) xNil)) (xCons (xC (.int 1)) xNil))) (xCons (xTup (xCons (xTup (xCons (xVar 5) xNil)) (xCons (xB (un fSub) (xCons (xC (.int 0)) (xCons (xB (un fPow) (xCons (xC (.int 10)) (xCons (xC (.int 10)) xNil))) xNil))) xNil))) xNil))) xNil))) (gN 6))
    (sSeq (sAsg (xF (cF 2 drawF []) (xCons (xVar 1) (xCons (xB (un fAdd) (xCons (xB (un fLen) (xCons (xVar 4) xNil)) (xCons (xC (.int 1)) xNil))) xNil))) (gN 7))
    (sSeq (sAsg (xB (un fAdd) (xCons (xB (un fAdd) (xCons (xSl (xVar 4) oNone (oSome (xVar 7))) (xCons (xLst (xCons (xF (cF 2 tb.lpick []) (xCons (xVar 1) (xCons (xVar 6) xNil))) xNil)) xNil))) (xCons (xSl (xVar 4) (oSome (xVar 7)) oNone) xNil))) (gN 8))
    (sSeq (sIf (xOrT (xTest (xO (ifO (isK 3) (dNe 3 ks_all tb.Crowd___eq__) (toB fNe)) (xCons (xF (cF 1 tb.lrefused []) (xCons (xVar 8) xNil)) (xCons (xVar 7) xNil)))) (xOrT (xTest (xO (ifO (isK 3) (dNe 3 ks_all tb.Crowd___eq__) (toB fNe)) (xCons (xF (cF 1 tb.lrefused []) (xCons (xB (un fTuple) (xCons (xB (un fAdd) (xCons (xVar 8) (xCons (xLst (xCons (xC .non) xNil)) xNil))) xNil)) xNil)) (xCons (xVar 7) xNil)))) (xTest (xO (ifO (isK 3) (dNe 3 ks_all tb.Crowd___eq__) (toB fNe)) (xCons (xF (cF 1 tb.lrefused []) (xCons (xVar 4) xNil)) (xCons (xC (.str "made")) xNil)))))) (sRet (xC (.bl false))) sNext)
    (sIf (xTest (xO (ifO (isK 3) (dNe 3 ks_all tb.Crowd___eq__) (toB fNe)) (xCons (xF (cF 1 tb.lrefused []) (xCons (xF (cF 2 tb.lpick []) (xCons (xVar 1) (xCons (xLst (xCons (xC .non) (xCons (xC (.str "ab")) (xCons (xC (.int 3)) (xCons (xC (.bl true)) (xCons (xF (cF 1 tb.mk_Crowd [.tup []]) xNil) (xCons (xF (cF 1 tb.Group_every []) (xCons (xC (.ptr 5)) xNil)) (xCons (xC (.str "")) xNil)))))))) xNil))) xNil)) (xCons (xC (.int 0)) xNil)))) (sRet (xC (.bl false))) sNext)))))))))))
    (sRet (xAnd (xO (ifO (isK 3) (dCmp 3 ks_all tb.Crowd___eq__) (toB fEq)) (xCons (xF (cF 1 tb.lrefused []) (xCons (xTup xNil) xNil)) (xCons (xC (.str "made")) xNil))) (xAnd (xO (ifO (isK 3) (dCmp 3 ks_all tb.Crowd___eq__) (toB fEq)) (xCons (xF (cF 1 tb.lrefused []) (xCons (xLst (xCons (xC .non) xNil)) xNil)) (xCons (xC (.int 0)) xNil))) (xO (ifO (isK 3) (dCmp 3 ks_all tb.Crowd___eq__) (toB fEq)) (xCons (xF (cF 1 tb.lrefused []) (xCons (xLst (xCons (xTup (xCons (xTup xNil) (xCons (xC (.int 0)) xNil))) xNil)) xNil)) (xCons (xC (.str "made")) xNil)))))))
def bX_Crowd___init__ (tb : Tb) : XS :=
    (sSeq (sIf (xNotT (xTest (xF (cF 1 tb.is_sequence []) (xCons (xVar 1) xNil)))) (sRaise 1000 "at" (xC (.int 0))) sNext)
    (sSeq (sFor (iX iEnum (xCons (xVar 1) xNil)) (gT (gsC (gN 2) (gsC (gN 3) gs0))) (sIf (xNotT (xTest (xF (cF 1 tb.is_part []) (xCons (xVar 3) xNil)))) (sRaise 1000 "at" (xVar 2)) sNext))
    (sSeq (sFldK 3 0 "parts" (xF (cF 1 tb.added []) (xCons (xLc (iX iSeqD (xCons (xVar 1) xNil)) (gT (gsC (gN 4) (gsC (gN 5) gs0))) yes (xTup (xCons (xF (cF 1 tb.ascending []) (xCons (xVar 4) xNil)) (xCons (xVar 5) xNil))) [4, 5]) xNil)))
    (sSeq (sFldK 3 0 "script" (xB (un fTuple) (xCons (xLc (iX iSeqD (xCons (xB (bAttr ks_parts "parts") (xCons (xVar 0) xNil)) xNil)) (gT (gsC (gN 4) (gsC (gN 5) gs0))) yes (xTx (un fJoin) (xC (.str " ")) (xLst (xCons (xO (ifO (isK 3) (dStr 3 tb.Crowd___str__) (toB fStr)) (xCons (xVar 5) xNil)) (xStar (xVar 4) xNil)))) [4, 5]) xNil)))
    (sFldK 3 0 "size" (xB (un fSum) (xCons (xLc (iX iSeqD (xCons (xB (bAttr ks_parts "parts") (xCons (xVar 0) xNil)) xNil)) (gT (gsC (gN 4) (gsC (gN 5) gs0))) yes (xVar 5) [4, 5]) xNil)))))))
def step (tb : Tb) : Tb where
  is_integer := runF 1 (b_is_integer tb)
  is_sequence := runF 1 (b_is_sequence tb)
  is_name := runF 2 (b_is_name tb)
  ascending := runF 2 (b_ascending tb)
  names_of := runF 3 (b_names_of tb)
  is_kind := runF 2 (b_is_kind tb)
  is_part := runF 1 (b_is_part tb)
  added := runF 8 (b_added tb)
  mk_Crowd := makeF 3 6 (b_Crowd___init__ tb)
  Crowd___eq__ := runF 2 (b_Crowd___eq__ tb)
  Crowd___str__ := runF 1 (b_Crowd___str__ tb)
  script_of := runF 4 (b_script_of tb)
  mk_Group := makeF 5 5 (b_Group___init__ tb)
  Group_named := runF 2 (b_Group_named tb)
  Group_every := runF 1 (b_Group_every tb)
  lpick := runF 2 (b_lpick tb)
  lshuffled := runF 5 (b_lshuffled tb)
  lnames := runF 7 (b_lnames tb)
  lsome_kind := runF 2 (b_lsome_kind tb)
  lparts := runF 6 (b_lparts tb)
  lrefused := runF 3 (b_lrefused tb)
  X_mk_Crowd := makeX 3 6 (bX_Crowd___init__ tb)
def tab : Nat → Tb
  | 0 => ⟨fun _ => .stuck, fun _ => .stuck, fun _ => .stuck, fun _ => .stuck, fun _ => .stuck, fun _ => .stuck, fun _ => .stuck, fun _ => .stuck, fun _ => .stuck, fun _ => .stuck, fun _ => .stuck, fun _ => .stuck, fun _ => .stuck, fun _ => .stuck, fun _ => .stuck, fun _ => .stuck, fun _ => .stuck, fun _ => .stuck, fun _ => .stuck, fun _ => .stuck, fun _ => .stuck, fun _ => .stuck⟩
  | n + 1 => step (tab n)
theorem t_X_mk_Crowd (n : Nat) : (tab (n + 1)).X_mk_Crowd = makeX 3 6 (bX_Crowd___init__ (tab n)) := rfl
theorem t_is_integer (n : Nat) : (tab (n + 1)).is_integer = runF 1 (b_is_integer (tab n)) := rfl
theorem t_is_sequence (n : Nat) : (tab (n + 1)).is_sequence = runF 1 (b_is_sequence (tab n)) := rfl
theorem t_is_name (n : Nat) : (tab (n + 1)).is_name = runF 2 (b_is_name (tab n)) := rfl
theorem t_ascending (n : Nat) : (tab (n + 1)).ascending = runF 2 (b_ascending (tab n)) := rfl
theorem t_names_of (n : Nat) : (tab (n + 1)).names_of = runF 3 (b_names_of (tab n)) := rfl
theorem t_is_kind (n : Nat) : (tab (n + 1)).is_kind = runF 2 (b_is_kind (tab n)) := rfl
theorem t_is_part (n : Nat) : (tab (n + 1)).is_part = runF 1 (b_is_part (tab n)) := rfl
theorem t_added (n : Nat) : (tab (n + 1)).added = runF 8 (b_added (tab n)) := rfl
theorem t_Crowd___init__ (n : Nat) : (tab (n + 1)).mk_Crowd = makeF 3 6 (b_Crowd___init__ (tab n)) := rfl
theorem t_Crowd___eq__ (n : Nat) : (tab (n + 1)).Crowd___eq__ = runF 2 (b_Crowd___eq__ (tab n)) := rfl
theorem t_Crowd___str__ (n : Nat) : (tab (n + 1)).Crowd___str__ = runF 1 (b_Crowd___str__ (tab n)) := rfl
theorem t_script_of (n : Nat) : (tab (n + 1)).script_of = runF 4 (b_script_of (tab n)) := rfl
theorem t_Group___init__ (n : Nat) : (tab (n + 1)).mk_Group = makeF 5 5 (b_Group___init__ (tab n)) := rfl
theorem t_Group_named (n : Nat) : (tab (n + 1)).Group_named = runF 2 (b_Group_named (tab n)) := rfl
theorem t_Group_every (n : Nat) : (tab (n + 1)).Group_every = runF 1 (b_Group_every (tab n)) := rfl
theorem t_lpick (n : Nat) : (tab (n + 1)).lpick = runF 2 (b_lpick (tab n)) := rfl
theorem t_lshuffled (n : Nat) : (tab (n + 1)).lshuffled = runF 5 (b_lshuffled (tab n)) := rfl
theorem t_lnames (n : Nat) : (tab (n + 1)).lnames = runF 7 (b_lnames (tab n)) := rfl
theorem t_lsome_kind (n : Nat) : (tab (n + 1)).lsome_kind = runF 2 (b_lsome_kind (tab n)) := rfl
theorem t_lparts (n : Nat) : (tab (n + 1)).lparts = runF 6 (b_lparts (tab n)) := rfl
theorem t_lrefused (n : Nat) : (tab (n + 1)).lrefused = runF 3 (b_lrefused (tab n)) := rfl
def lawT (n : Nat) : Tr Dt := (b_law (tab n) [none, some (.d (.ptr 1)), none, none, none, none, none, none, none]).bind endF
structure LawOk (n : Nat) : Prop where
  ok : (lawT n).All fun d => d = .bl true
end Mc
namespace Mc
open PySem L2
theorem ixN_nat {n i : Nat} (h : i < n) : ixN n (i : Int) = some i := by
  unfold ixN
  rw [if_pos (by omega), if_pos (by omega)]
  simp
theorem atI_nat {α : Type} {xs : List α} {i : Nat} (h : i < xs.length) : atI xs (i : Int) = some xs[i] := by
  unfold atI
  rw [ixN_nat h]
  simp [h]
@[simp] theorem fIx_t0 (d : Dt) (ds : List Dt) : fIx [.tup (d :: ds), .int 0] = some d := atI_nat (xs := d :: ds) (i := 0) (by simp)
@[simp] theorem fIx_t1 (c d : Dt) (ds : List Dt) : fIx [.tup (c :: d :: ds), .int 1] = some d := atI_nat (xs := c :: d :: ds) (i := 1) (by simp)
@[simp] theorem fIx_l0 (d : Dt) (ds : List Dt) : fIx [.lst (d :: ds), .int 0] = some d := atI_nat (xs := d :: ds) (i := 0) (by simp)
@[simp] theorem fIx_l1 (c d : Dt) (ds : List Dt) : fIx [.lst (c :: d :: ds), .int 1] = some d := atI_nat (xs := c :: d :: ds) (i := 1) (by simp)
@[simp] theorem fEq_ss (x y : Str) : fEq [.str x, .str y] = some (.bl (decide (x = y))) := rfl
@[simp] theorem fNe_ss (x y : Str) : fNe [.str x, .str y] = some (.bl (!decide (x = y))) := rfl
@[simp] theorem fEq_ii (x y : Int) : fEq [.int x, .int y] = some (.bl (decide (x = y))) := rfl
@[simp] theorem fNe_ii (x y : Int) : fNe [.int x, .int y] = some (.bl (!decide (x = y))) := rfl
@[simp] theorem fEq_bb (x y : Bool) : fEq [.bl x, .bl y] = some (.bl (decide (x = y))) := rfl
@[simp] theorem fNe_bb (x y : Bool) : fNe [.bl x, .bl y] = some (.bl (!decide (x = y))) := rfl
@[simp] theorem fLen_l (ds : List Dt) : fLen [.lst ds] = some (.int ds.length) := rfl
@[simp] theorem fLen_t (ds : List Dt) : fLen [.tup ds] = some (.int ds.length) := rfl
@[simp] theorem fStr_s (x : Str) : fStr [.str x] = some (.str x) := rfl
@[simp] theorem fTuple_l (ds : List Dt) : fTuple [.lst ds] = some (.tup ds) := rfl
@[simp] theorem fTuple_t (ds : List Dt) : fTuple [.tup ds] = some (.tup ds) := rfl
@[simp] theorem fList_l (ds : List Dt) : fList [.lst ds] = some (.lst ds) := rfl
@[simp] theorem fList_t (ds : List Dt) : fList [.tup ds] = some (.lst ds) := rfl
theorem flatDs_strs : ∀ xs : List Str, flatDs (xs.map Dt.str) = some (xs.map V.str)
  | [] => rfl
  | x :: xs => by simp [flatDs, flatD, flatDs_strs xs]
theorem fIn_t (x : Str) (xs : List Str) : fIn [.str x, .tup (xs.map .str)] = some (.bl (decide (x ∈ xs))) := by
  show (inD (.str x) (.tup (xs.map .str))).map Dt.bl = _
  have : inD (.str x) (.tup (xs.map .str)) = some (inV (.str x) (xs.map V.str)) := by
    simp [inD, flatD, seqD, flatDs_strs]
  rw [this, inV_strs]
  rfl
inductive F2 {α β : Type} (R : α → β → Prop) : List α → List β → Prop
  | nil : F2 R [] []
  | cons {a b as bs} : R a b → F2 R as bs → F2 R (a :: as) (b :: bs)
theorem F2.len {α β : Type} {R : α → β → Prop} : ∀ {as : List α} {bs : List β}, F2 R as bs → as.length = bs.length
  | _, _, .nil => rfl
  | _, _, .cons _ h => by rw [List.length_cons, List.length_cons, h.len]
theorem forLoop_inv {g : XG} {b : XS} {I : List Dt → En → Prop} {P : Fl → Prop} : ∀ {xs : List Dt} {e : En}, I xs e → (∀ x r e, I (x :: r) e → ∃ e1, g x e = some e1 ∧ (b e1).All fun f => match f with | .nx e2 => I r e2 | .ct e2 => I r e2 | .bk e2 => P (.nx e2) | .rt v e2 => P (.rt v e2) | .xc k n d e2 => P (.xc k n d e2)) → (∀ e, I [] e → P (.nx e)) → (forLoop g b xs e).All P
  | [], e, h, _, hE => by simpa [forLoop] using hE e h
  | x :: xs, e, h, hs, hE => by
    obtain ⟨e1, h1, h2⟩ := hs x xs e h
    unfold forLoop
    simp only [h1, Tr.of_some, Tr.ret_bind]
    refine Tr.all_bind.mpr (Tr.All.mono (fun f hf => ?_) h2)
    cases f with
    | nx e2 => exact forLoop_inv hf hs hE
    | ct e2 => exact forLoop_inv hf hs hE
    | bk e2 => exact hf
    | rt v e2 => exact hf
    | xc k n d e2 => exact hf
end Mc
namespace Mc
open PySem L2
theorem ofS_inj (a b : String) : (Str.ofString a = Str.ofString b) = (a = b) := by
  rw [Str.ofString_eq_toList, Str.ofString_eq_toList]
  apply propext
  constructor
  · intro h
    have h1 := Array.mk.inj (Str.mk.inj h)
    have h2 : ∀ l m : List Char, l.map Char.toNat = m.map Char.toNat → l = m := by
      intro l
      induction l with
      | nil => intro m h; cases m with
        | nil => rfl
        | cons _ _ => cases h
      | cons c l ih => intro m h; cases m with
        | nil => cases h
        | cons d m =>
          rw [List.map_cons, List.map_cons] at h
          obtain ⟨e1, e2⟩ := List.cons.inj h
          rw [ih m e2, show c = d from Char.ext (UInt32.toNat_inj.mp e1)]
    exact String.toList_inj.mp (h2 _ _ h1)
  · intro h; rw [h]
theorem lkS {β : Type} (a b : String) (v : β) (l : List (Str × β)) : ((Str.ofString b, v) :: l).lookup (Str.ofString a) = if a = b then some v else l.lookup (Str.ofString a) := by
  rw [List.lookup_cons]
  by_cases h : a = b
  · subst h; simp
  · rw [if_neg h, show (Str.ofString a == Str.ofString b) = false from by rw [beq_eq_false_iff_ne]; rw [Ne, ofS_inj]; exact h]
theorem lkA {β : Type} (a b : Addr) (v : β) (l : List (Addr × β)) : ((b, v) :: l).lookup a = if a = b then some v else l.lookup a := by
  rw [List.lookup_cons]
  by_cases h : a = b
  · subst h; simp
  · rw [if_neg h, show (a == b) = false from by rw [beq_eq_false_iff_ne]; exact h]
structure Tr.Al {α : Type} (m : Tr α) (P : α → Prop) : Prop where
  ok : m.All P
theorem Tr.Al.mono {α : Type} {P Q : α → Prop} (w : ∀ a, P a → Q a) {m : Tr α} (h : m.Al P) : m.Al Q := ⟨Tr.All.mono w h.ok⟩
theorem Tr.Al.imp {α : Type} {m : Tr α} {P Q : α → Prop} (h : m.Al P) (w : ∀ a, P a → Q a) : m.Al Q := ⟨Tr.All.mono w h.ok⟩
theorem draw_al {m : Nat} (h0 : 0 < m) (h1 : m < 10000000000000000000000000000000000000000) {P : Dt → Prop} (h : ∀ i : Nat, i < m → P (.int i)) : (drawF [.ptr 1, .int m]).Al P := by
  refine ⟨?_⟩
  show Tr.All (if (1 : Addr) = 1 ∧ (0 : Int) < m ∧ (m : Int) < 10000000000000000000000000000000000000000 then _ else _) P
  rw [if_pos ⟨rfl, by omega, by omega⟩]
  intro i hi
  exact h i (by simpa using hi)
theorem draw_alI {m : Int} (h0 : 0 < m) (h1 : m < 10000000000000000000000000000000000000000) {P : Dt → Prop} (h : ∀ i : Nat, (i : Int) < m → P (.int i)) : (drawF [.ptr 1, .int m]).Al P := by
  obtain ⟨k, rfl⟩ := Int.eq_ofNat_of_zero_le (show 0 ≤ m by omega)
  exact draw_al (by omega) (by omega) fun i hi => h i (by omega)
def flI {α : Type} (I : List α → En → Prop) (r : List α) (P : Fl → Prop) : Fl → Prop
  | .nx e2 => I r e2
  | .ct e2 => I r e2
  | .bk e2 => P (.nx e2)
  | .rt v e2 => P (.rt v e2)
  | .xc k n d e2 => P (.xc k n d e2)
theorem flI_nx {α : Type} (I : List α → En → Prop) (r : List α) (P : Fl → Prop) (e : En) : flI I r P (.nx e) = I r e := id rfl
theorem for_inv {g : XG} {b : XS} (I : List Dt → En → Prop) {P : Fl → Prop} {xs : List Dt} {e : En} (h : I xs e) (hs : ∀ x r e, I (x :: r) e → ∃ e1, g x e = some e1 ∧ (b e1).Al (flI I r P)) (hE : ∀ e, I [] e → P (.nx e)) : (forLoop g b xs e).Al P :=
  ⟨forLoop_inv h (fun x r e hi => by
    obtain ⟨e1, h1, h2⟩ := hs x r e hi
    exact ⟨e1, h1, Tr.All.mono (fun f hf => by cases f <;> exact hf) h2.ok⟩) hE⟩
theorem rng_n (m : Nat) (h : m < 1000000) : iRange1 [.d (.int m)] = some (rangeD 0 m) := by
  unfold iRange1
  simp only
  rw [if_pos (by omega)]
  simp
theorem cPopAt_n (left : List Dt) (i : Nat) (hi : i < left.length) (hl : left.length < 1000000) : cPopAt [Rv.d (Dt.int i)] left = some (left[i], left.eraseIdx i) := by
  unfold cPopAt cPop
  simp only
  rw [if_pos (by omega)]
  simp [hi]
theorem cAppend_n (x : Dt) (ds : List Dt) (h : ds.length < 90000) : cAppend [Rv.d x] ds = some (.non, ds ++ [x]) := by
  unfold cAppend
  simp only
  rw [if_pos h]
theorem cExtend_n (es ds : List Dt) (h : ds.length + es.length ≤ 90000) : cExtend [Rv.d (.lst es)] ds = some (.non, ds ++ es) := by
  unfold cExtend
  simp only
  rw [if_pos h]
theorem erase_perm {α : Type} : ∀ (l : List α) (i : Nat) (h : i < l.length), (l[i] :: l.eraseIdx i).Perm l
  | x :: l, 0, _ => by simp
  | x :: l, i + 1, h => by
    have ih := erase_perm l i (by simpa using h)
    simp only [List.getElem_cons_succ, List.eraseIdx_cons_succ]
    exact (List.Perm.swap x _ _).trans (ih.cons x)
  | [], i, h => by simp at h
end Mc
namespace Mc
open PySem L2
def kC {α β γ : Type} (f : α → Tr β) (g : β → Tr γ) (a : α) : Tr γ := (f a).bind g
theorem kC_e {α β γ : Type} (f : α → Tr β) (g : β → Tr γ) (a : α) : kC f g a = (f a).bind g := id rfl
theorem asc_e {α β γ : Type} (m : Tr α) (f : α → Tr β) (g : β → Tr γ) : (m.bind f).bind g = m.bind (kC f g) := Tr.bind_assoc
def kA {α β : Type} (f : α → Tr β) (P : β → Prop) (a : α) : Prop := (f a).Al P
theorem kA_e {α β : Type} (f : α → Tr β) (P : β → Prop) (a : α) : kA f P a = (f a).Al P := id rfl
theorem all_e {α β : Type} (m : Tr α) (f : α → Tr β) (P : β → Prop) : (m.bind f).Al P = m.Al (kA f P) := propext ⟨fun h => ⟨Tr.All.mono (fun a w => ⟨w⟩) (Tr.all_bind.mp h.ok)⟩, fun h => ⟨Tr.all_bind.mpr (Tr.All.mono (fun a w => w.ok) h.ok)⟩⟩
theorem ret_e {α β : Type} (a : α) (f : α → Tr β) : (Tr.ret a).bind f = f a := id rfl
theorem stk_e {α β : Type} (f : α → Tr β) : (Tr.stuck : Tr α).bind f = .stuck := id rfl
theorem ral_e {α : Type} (a : α) (P : α → Prop) : (Tr.ret a).Al P = P a := propext ⟨fun h => h.ok, fun h => ⟨h⟩⟩
theorem ofs_e {α β : Type} (a : α) (f : α → Tr β) : (Tr.of (some a)).bind f = f a := id rfl
theorem ofn_e {α β : Type} (f : α → Tr β) : (Tr.of (none : Option α)).bind f = .stuck := id rfl
def gv (i : Nat) : Option (Option Sl) → Option Vl
  | some (some (.d x)) => some (.d x)
  | some (some _) => some (.r i)
  | _ => none
theorem getV_e (e : En) (i : Nat) : getV e i = gv i e[i]? := by
  unfold getV gv; rfl
theorem gv_d (i : Nat) (x : D) : gv i (some (some (.d x))) = some (.d x) := id rfl
theorem gv_own (i : Nat) (x : List D) : gv i (some (some (.own x))) = some (.r i) := id rfl
theorem gv_ob (i : Nat) (k : Addr) (x : List (Str × D)) : gv i (some (some (.ob k x))) = some (.r i) := id rfl
def lk : Option (Option Sl) → Option Rv
  | some (some (.own ds)) => some (.l ds)
  | some (some (.ob k fs)) => some (.o k fs)
  | _ => none
theorem look_d (e : En) (x : D) : look e (.d x) = some (.d x) := id rfl
theorem look_r (e : En) (i : Nat) : look e (.r i) = lk e[i]? := by unfold look lk; rfl
theorem lk_own (x : List D) : lk (some (some (.own x))) = some (.l x) := id rfl
theorem lk_ob (k : Addr) (x : List (Str × D)) : lk (some (some (.ob k x))) = some (.o k x) := id rfl
theorem looks_0 (e : En) : looks e [] = some [] := id rfl
theorem dats_0 : dats [] = some [] := id rfl
theorem dats_1 (d : D) (vs : List Vl) : dats (.d d :: vs) = (dats vs).map (d :: ·) := by
  show (dats vs).bind _ = _
  cases dats vs <;> rfl
theorem dats_map : ∀ xs : List D, dats (xs.map Vl.d) = some xs
  | [] => rfl
  | x :: xs => by rw [List.map_cons, dats_1, dats_map xs]; rfl
def resR : Option (Option Sl) → Option D
  | some (some (.own ds)) => some (.lst ds)
  | some (some (.ob k fs)) => some (.obj k fs)
  | _ => none
theorem resD_d (e : En) (x : D) : resD e (.d x) = some x := id rfl
theorem resD_r (e : En) (i : Nat) : resD e (.r i) = resR e[i]? := by unfold resD resR; rfl
theorem resR_own (x : List D) : resR (some (some (.own x))) = some (.lst x) := id rfl
theorem resR_ob (k : Addr) (x : List (Str × D)) : resR (some (some (.ob k x))) = some (.obj k x) := id rfl
def lkC (e : En) (vs : List Vl) (r : Rv) : Option (List Rv) := (looks e vs).bind fun rs => some (r :: rs)
theorem looks_c (e : En) (v : Vl) (vs : List Vl) : looks e (v :: vs) = (look e v).bind (lkC e vs) := by
  unfold lkC; rfl
theorem lkC_e (e : En) (vs : List Vl) (r : Rv) : lkC e vs r = (looks e vs).map (r :: ·) := by
  unfold lkC
  cases looks e vs <;> rfl
theorem xC_e (x : D) (e : En) : xC x e = .ret (.d x, e) := id rfl
def kVar (e : En) : Vl → Tr (Vl × En)
  | v => .ret (v, e)
theorem kVar_e0 (e : En) v : kVar e (v) = .ret (v, e) := id rfl
theorem xVar_e (i : Nat) (e : En) : xVar i e = (Tr.of (getV e i)).bind (kVar e) := id rfl
theorem xNil_e  (e : En) : xNil e = .ret ([], e) := id rfl
def kCons2 (v : Vl) : List Vl × En → Tr (List Vl × En)
  | (vs, e) => .ret (v :: vs, e)
theorem kCons2_e0 (v : Vl) vs e : kCons2 v ((vs, e)) = .ret (v :: vs, e) := id rfl
def kCons (as : XA) : Vl × En → Tr (List Vl × En)
  | (v, e) => (as e).bind (kCons2 v)
theorem kCons_e0 (as : XA) v e : kCons as ((v, e)) = (as e).bind (kCons2 v) := id rfl
theorem xCons_e (a : XE) (as : XA) (e : En) : xCons a as e = (a e).bind (kCons as) := id rfl
def kStar3 (ds : List D) : List Vl × En → Tr (List Vl × En)
  | (vs, e) => .ret (ds.map Vl.d ++ vs, e)
theorem kStar3_e0 (ds : List D) vs e : kStar3 ds ((vs, e)) = .ret (ds.map Vl.d ++ vs, e) := id rfl
def kStar2 (as : XA) (e : En) : List D → Tr (List Vl × En)
  | ds => (as e).bind (kStar3 ds)
theorem kStar2_e0 (as : XA) (e : En) ds : kStar2 as e (ds) = (as e).bind (kStar3 ds) := id rfl
def kStar (as : XA) : Vl × En → Tr (List Vl × En)
  | (v, e) => (Tr.of ((look e v).bind seqR)).bind (kStar2 as e)
theorem kStar_e0 (as : XA) v e : kStar as ((v, e)) = (Tr.of ((look e v).bind seqR)).bind (kStar2 as e) := id rfl
theorem xStar_e (a : XE) (as : XA) (e : En) : xStar a as e = (a e).bind (kStar as) := id rfl
def kRet (e : En) : D → Tr (Vl × En)
  | d => .ret (.d d, e)
theorem kRet_e0 (e : En) d : kRet e (d) = .ret (.d d, e) := id rfl
def kB (f : List Rv → Option D) : List Vl × En → Tr (Vl × En)
  | (vs, e) => (Tr.of ((looks e vs).bind f)).bind (kRet e)
theorem kB_e0 (f : List Rv → Option D) vs e : kB f ((vs, e)) = (Tr.of ((looks e vs).bind f)).bind (kRet e) := id rfl
theorem xB_e (f : List Rv → Option D) (as : XA) (e : En) : xB f as e = (as e).bind (kB f) := id rfl
def kF2 (g : List D → Tr D) (e : En) : List D → Tr (Vl × En)
  | ds => (g ds).bind (kRet e)
theorem kF2_e0 (g : List D → Tr D) (e : En) ds : kF2 g e (ds) = (g ds).bind (kRet e) := id rfl
def kF (g : List D → Tr D) : List Vl × En → Tr (Vl × En)
  | (vs, e) => (Tr.of (dats vs)).bind (kF2 g e)
theorem kF_e0 (g : List D → Tr D) vs e : kF g ((vs, e)) = (Tr.of (dats vs)).bind (kF2 g e) := id rfl
theorem xF_e (g : List D → Tr D) (as : XA) (e : En) : xF g as e = (as e).bind (kF g) := id rfl
def kTest2 (e : En) : Bool → Tr (Bool × En)
  | b => .ret (b, e)
theorem kTest2_e0 (e : En) b : kTest2 e (b) = .ret (b, e) := id rfl
theorem blV_e (b : Bool) : blV (.d (.bl b)) = some b := id rfl
def kTest  : Vl × En → Tr (Bool × En)
  | (v, e) => (Tr.of (blV v)).bind (kTest2 e)
theorem kTest_e0  v e : kTest  ((v, e)) = (Tr.of (blV v)).bind (kTest2 e) := id rfl
theorem xTest_e (a : XE) (e : En) : xTest a e = (a e).bind kTest := id rfl
def kAndT (b : XT) : Bool × En → Tr (Bool × En)
  | (true, e) => b e
  | (false, e) => .ret (false, e)
theorem kAndT_e0 (b : XT) e : kAndT b ((true, e)) = b e := id rfl
theorem kAndT_e1 (b : XT) e : kAndT b ((false, e)) = .ret (false, e) := id rfl
theorem xAndT_e (a b : XT) (e : En) : xAndT a b e = (a e).bind (kAndT b) := by
  unfold xAndT
  refine congrArg _ (funext fun p => ?_)
  obtain ⟨c, e⟩ := p
  cases c <;> rfl
def kOrT (b : XT) : Bool × En → Tr (Bool × En)
  | (true, e) => .ret (true, e)
  | (false, e) => b e
theorem kOrT_e0 (b : XT) e : kOrT b ((true, e)) = .ret (true, e) := id rfl
theorem kOrT_e1 (b : XT) e : kOrT b ((false, e)) = b e := id rfl
theorem xOrT_e (a b : XT) (e : En) : xOrT a b e = (a e).bind (kOrT b) := by
  unfold xOrT
  refine congrArg _ (funext fun p => ?_)
  obtain ⟨c, e⟩ := p
  cases c <;> rfl
def kNotT  : Bool × En → Tr (Bool × En)
  | (c, e) => .ret (!c, e)
theorem kNotT_e0  c e : kNotT  ((c, e)) = .ret (!c, e) := id rfl
theorem xNotT_e (a : XT) (e : En) : xNotT a e = (a e).bind kNotT := id rfl
def kAnd2 (b : XE) (e : En) : Bool → Tr (Vl × En)
  | true => b e
  | false => .ret (.d (.bl false), e)
theorem kAnd2_e0 (b : XE) (e : En) : kAnd2 b e (true) = b e := id rfl
theorem kAnd2_e1 (b : XE) (e : En) : kAnd2 b e (false) = .ret (.d (.bl false), e) := id rfl
def kAnd (b : XE) : Vl × En → Tr (Vl × En)
  | (v, e) => (Tr.of (blV v)).bind (kAnd2 b e)
theorem kAnd_e0 (b : XE) v e : kAnd b ((v, e)) = (Tr.of (blV v)).bind (kAnd2 b e) := id rfl
theorem xAnd_e (a b : XE) (e : En) : xAnd a b e = (a e).bind (kAnd b) := id rfl
def kOr2 (b : XE) (e : En) : Bool → Tr (Vl × En)
  | true => .ret (.d (.bl true), e)
  | false => b e
theorem kOr2_e0 (b : XE) (e : En) : kOr2 b e (true) = .ret (.d (.bl true), e) := id rfl
theorem kOr2_e1 (b : XE) (e : En) : kOr2 b e (false) = b e := id rfl
def kOr (b : XE) : Vl × En → Tr (Vl × En)
  | (v, e) => (Tr.of (blV v)).bind (kOr2 b e)
theorem kOr_e0 (b : XE) v e : kOr b ((v, e)) = (Tr.of (blV v)).bind (kOr2 b e) := id rfl
theorem xOr_e (a b : XE) (e : En) : xOr a b e = (a e).bind (kOr b) := id rfl
def kNot2 (e : En) : Bool → Tr (Vl × En)
  | c => .ret (.d (.bl (!c)), e)
theorem kNot2_e0 (e : En) c : kNot2 e (c) = .ret (.d (.bl (!c)), e) := id rfl
def kNot  : Vl × En → Tr (Vl × En)
  | (v, e) => (Tr.of (blV v)).bind (kNot2 e)
theorem kNot_e0  v e : kNot  ((v, e)) = (Tr.of (blV v)).bind (kNot2 e) := id rfl
theorem xNot_e (a : XE) (e : En) : xNot a e = (a e).bind kNot := id rfl
def kIf (a : XE) (b : XE) : Bool × En → Tr (Vl × En)
  | (true, e) => a e
  | (false, e) => b e
theorem kIf_e0 (a : XE) (b : XE) e : kIf a b ((true, e)) = a e := id rfl
theorem kIf_e1 (a : XE) (b : XE) e : kIf a b ((false, e)) = b e := id rfl
theorem xIf_e (t : XT) (a b : XE) (e : En) : xIf t a b e = (t e).bind (kIf a b) := by
  unfold xIf
  refine congrArg _ (funext fun p => ?_)
  obtain ⟨c, e⟩ := p
  cases c <;> rfl
def kTup2 (e : En) : List D → Tr (Vl × En)
  | ds => if ds.length ≤ 100000 then .ret (.d (.tup ds), e) else .stuck
theorem kTup2_e0 (e : En) ds : kTup2 e (ds) = if ds.length ≤ 100000 then .ret (.d (.tup ds), e) else .stuck := id rfl
def kTup  : List Vl × En → Tr (Vl × En)
  | (vs, e) => (Tr.of (dats vs)).bind (kTup2 e)
theorem kTup_e0  vs e : kTup  ((vs, e)) = (Tr.of (dats vs)).bind (kTup2 e) := id rfl
theorem xTup_e (as : XA) (e : En) : xTup as e = (as e).bind kTup := id rfl
def kLst2 (e : En) : List D → Tr (Vl × En)
  | ds => if ds.length ≤ 100000 then .ret (.d (.lst ds), e) else .stuck
theorem kLst2_e0 (e : En) ds : kLst2 e (ds) = if ds.length ≤ 100000 then .ret (.d (.lst ds), e) else .stuck := id rfl
def kLst  : List Vl × En → Tr (Vl × En)
  | (vs, e) => (Tr.of (dats vs)).bind (kLst2 e)
theorem kLst_e0  vs e : kLst  ((vs, e)) = (Tr.of (dats vs)).bind (kLst2 e) := id rfl
theorem xLst_e (as : XA) (e : En) : xLst as e = (as e).bind kLst := id rfl
def kLL (e : En) : List D → Tr (Vl × En)
  | ys => .ret (.d (.lst ys), e)
theorem kLL_e0 (e : En) ys : kLL e (ys) = .ret (.d (.lst ys), e) := id rfl
def kLc (g : XG) (t : XT) (a : XE) (vs : List Nat) : List D × En → Tr (Vl × En)
  | (ds, e) => if ds.length ≤ 50000 ∧ vs.all (noOwn e) = true then (lcLoop g t a (wipeN e vs) ds []).bind (kLL e) else .stuck
theorem kLc_e0 (g : XG) (t : XT) (a : XE) (vs : List Nat) ds e : kLc g t a vs ((ds, e)) = if ds.length ≤ 50000 ∧ vs.all (noOwn e) = true then (lcLoop g t a (wipeN e vs) ds []).bind (kLL e) else .stuck := id rfl
theorem xLc_e (it : XI) (g : XG) (t : XT) (a : XE) (vs : List Nat) (e : En) : xLc it g t a vs e = (it e).bind (kLc g t a vs) := id rfl
def kLc2 (g : XG) (t : XT) (it1 : XI) (g1 : XG) (t1 : XT) (a : XE) (vs : List Nat) (vs1 : List Nat) : List D × En → Tr (Vl × En)
  | (ds, e) => if vs.all (noOwn e) = true then (lc2Loop g t it1 g1 t1 a vs1 (wipeN e vs) ds []).bind (kLL e) else .stuck
theorem kLc2_e0 (g : XG) (t : XT) (it1 : XI) (g1 : XG) (t1 : XT) (a : XE) (vs : List Nat) (vs1 : List Nat) ds e : kLc2 g t it1 g1 t1 a vs vs1 ((ds, e)) = if vs.all (noOwn e) = true then (lc2Loop g t it1 g1 t1 a vs1 (wipeN e vs) ds []).bind (kLL e) else .stuck := id rfl
theorem xLc2_e (it : XI) (g : XG) (t : XT) (it1 : XI) (g1 : XG) (t1 : XT) (a : XE) (vs vs1 : List Nat) (e : En) : xLc2 it g t it1 g1 t1 a vs vs1 e = (it e).bind (kLc2 g t it1 g1 t1 a vs vs1) := id rfl
def slK (l h : Option Int) (d : D) : Option D := slD d l h
theorem slK_e (l h : Option Int) (d : D) : slK l h d = slD d l h := id rfl
def kSl3 (v : Vl) (l : Option Int) : Option Int × En → Tr (Vl × En)
  | (h, e) => (Tr.of (((look e v).bind asD).bind (slK l h))).bind (kRet e)
theorem kSl3_e0 (v : Vl) (l : Option Int) h e : kSl3 v l ((h, e)) = (Tr.of (((look e v).bind asD).bind (slK l h))).bind (kRet e) := id rfl
def kSl2 (hi : XO) (v : Vl) : Option Int × En → Tr (Vl × En)
  | (l, e) => (hi e).bind (kSl3 v l)
theorem kSl2_e0 (hi : XO) (v : Vl) l e : kSl2 hi v ((l, e)) = (hi e).bind (kSl3 v l) := id rfl
def kSl (lo : XO) (hi : XO) : Vl × En → Tr (Vl × En)
  | (v, e) => (lo e).bind (kSl2 hi v)
theorem kSl_e0 (lo : XO) (hi : XO) v e : kSl lo hi ((v, e)) = (lo e).bind (kSl2 hi v) := id rfl
theorem xSl_e (a : XE) (lo hi : XO) (e : En) : xSl a lo hi e = (a e).bind (kSl lo hi) := id rfl
def kOs2 (e : En) : Int → Tr (Option Int × En)
  | i => .ret (some i, e)
theorem kOs2_e0 (e : En) i : kOs2 e (i) = .ret (some i, e) := id rfl
def kOs  : Vl × En → Tr (Option Int × En)
  | (v, e) => (Tr.of (intV v)).bind (kOs2 e)
theorem kOs_e0  v e : kOs  ((v, e)) = (Tr.of (intV v)).bind (kOs2 e) := id rfl
theorem intV_e (b : Int) : intV (.d (.int b)) = some b := id rfl
theorem oSome_e (a : XE) (e : En) : oSome a e = (a e).bind kOs := id rfl
theorem oNone_e  (e : En) : oNone e = .ret (none, e) := id rfl
def kI2 (e : En) : List D → Tr (List D × En)
  | ds => .ret (ds, e)
theorem kI2_e0 (e : En) ds : kI2 e (ds) = .ret (ds, e) := id rfl
def kI (f : List Rv → Option (List D)) : List Vl × En → Tr (List D × En)
  | (vs, e) => (Tr.of ((looks e vs).bind f)).bind (kI2 e)
theorem kI_e0 (f : List Rv → Option (List D)) vs e : kI f ((vs, e)) = (Tr.of ((looks e vs).bind f)).bind (kI2 e) := id rfl
theorem iX_e (f : List Rv → Option (List D)) (as : XA) (e : En) : iX f as e = (as e).bind (kI f) := id rfl
def kM4 (o : D) (g : List D → Tr D) (e : En) : List D → Tr (Vl × En)
  | ds => (g (o :: ds)).bind (kRet e)
theorem kM4_e0 (o : D) (g : List D → Tr D) (e : En) ds : kM4 o g e (ds) = (g (o :: ds)).bind (kRet e) := id rfl
def kM3 (o : D) (g : List D → Tr D) : List Vl × En → Tr (Vl × En)
  | (vs, e) => (Tr.of (dats vs)).bind (kM4 o g e)
theorem kM3_e0 (o : D) (g : List D → Tr D) vs e : kM3 o g ((vs, e)) = (Tr.of (dats vs)).bind (kM4 o g e) := id rfl
def kM2 (as : XA) (e : En) : D × (List D → Tr D) → Tr (Vl × En)
  | (o, g) => (as e).bind (kM3 o g)
theorem kM2_e0 (as : XA) (e : En) o g : kM2 as e ((o, g)) = (as e).bind (kM3 o g) := id rfl
def kM (ms : List (Addr × (List D → Tr D))) (m : Str) (as : XA) : Vl × En → Tr (Vl × En)
  | (v, e) => (Tr.of (recv ms m v)).bind (kM2 as e)
theorem kM_e0 (ms : List (Addr × (List D → Tr D))) (m : Str) (as : XA) v e : kM ms m as ((v, e)) = (Tr.of (recv ms m v)).bind (kM2 as e) := id rfl
theorem xM_e (ms : List (Addr × (List D → Tr D))) (m : Str) (o : XE) (as : XA) (e : En) : xM ms m o as e = (o e).bind (kM ms m as) := id rfl
def kOp2 (f : List Rv → Tr D) (e : En) : List Rv → Tr (Vl × En)
  | rs => (f rs).bind (kRet e)
theorem kOp2_e0 (f : List Rv → Tr D) (e : En) rs : kOp2 f e (rs) = (f rs).bind (kRet e) := id rfl
def kOp (f : List Rv → Tr D) : List Vl × En → Tr (Vl × En)
  | (vs, e) => (Tr.of (looks e vs)).bind (kOp2 f e)
theorem kOp_e0 (f : List Rv → Tr D) vs e : kOp f ((vs, e)) = (Tr.of (looks e vs)).bind (kOp2 f e) := id rfl
theorem xO_e (f : List Rv → Tr D) (as : XA) (e : En) : xO f as e = (as e).bind (kOp f) := id rfl
def kTx4 (f : List Rv → Option D) (z : Str) (r : Rv) : Option D := f [.d (.str z), r]
theorem kTx4_e (f : List Rv → Option D) (z : Str) (r : Rv) : kTx4 f z r = f [.d (.str z), r] := id rfl
theorem strV_e (x : Str) : strV (.d (.str x)) = some x := id rfl
def kTx3 (f : List Rv → Option D) (z : Str) : Vl × En → Tr (Vl × En)
  | (v, e) => (Tr.of ((look e v).bind (kTx4 f z))).bind (kRet e)
theorem kTx3_e0 (f : List Rv → Option D) (z : Str) v e : kTx3 f z ((v, e)) = (Tr.of ((look e v).bind (kTx4 f z))).bind (kRet e) := id rfl
def kTx2 (f : List Rv → Option D) (b : XE) (e : En) : Str → Tr (Vl × En)
  | z => (b e).bind (kTx3 f z)
theorem kTx2_e0 (f : List Rv → Option D) (b : XE) (e : En) z : kTx2 f b e (z) = (b e).bind (kTx3 f z) := id rfl
def kTx (f : List Rv → Option D) (b : XE) : Vl × En → Tr (Vl × En)
  | (v, e) => (Tr.of (strV v)).bind (kTx2 f b e)
theorem kTx_e0 (f : List Rv → Option D) (b : XE) v e : kTx f b ((v, e)) = (Tr.of (strV v)).bind (kTx2 f b e) := id rfl
theorem xTx_e (f : List Rv → Option D) (a b : XE) (e : En) : xTx f a b e = (a e).bind (kTx f b) := id rfl
theorem xMkL_e (i : Nat) (c : Addr) (g : List D → Tr D) (as : XA) (e : En) : xMkL i c g as e = if isPtr e i c = true then xF g as e else .stuck := id rfl
def kLm3 (f : List Rv → Option D) (v : Vl) : List Vl × En → Tr (Vl × En)
  | (vs, e) => (Tr.of ((looks e (v :: vs)).bind f)).bind (kRet e)
theorem kLm3_e0 (f : List Rv → Option D) (v : Vl) vs e : kLm3 f v ((vs, e)) = (Tr.of ((looks e (v :: vs)).bind f)).bind (kRet e) := id rfl
def kLm2 (f : List Rv → Option D) (as : XA) (v : Vl) (e : En) : List D → Tr (Vl × En)
  | _ => (as e).bind (kLm3 f v)
theorem kLm2_e0 (f : List Rv → Option D) (as : XA) (v : Vl) (e : En) (ds : List D) : kLm2 f as v e ds = (as e).bind (kLm3 f v) := id rfl
def kLm (f : List Rv → Option D) (as : XA) : Vl × En → Tr (Vl × En)
  | (v, e) => (Tr.of ((look e v).bind lstR)).bind (kLm2 f as v e)
theorem kLm_e0 (f : List Rv → Option D) (as : XA) v e : kLm f as ((v, e)) = (Tr.of ((look e v).bind lstR)).bind (kLm2 f as v e) := id rfl
theorem xLm_e (f : List Rv → Option D) (o : XE) (as : XA) (e : En) : xLm f o as e = (o e).bind (kLm f as) := id rfl
def kMut4  : D × En → Tr (Vl × En)
  | (d, e) => .ret (.d d, e)
theorem kMut4_e0  d e : kMut4  ((d, e)) = .ret (.d d, e) := id rfl
def chgR (e : En) (i : Nat) (p : D × List D) : Option (D × En) := some (p.1, e.set i (some (.own p.2)))
theorem chgR_e (e : En) (i : Nat) (d : D) (ds : List D) : chgR e i (d, ds) = some (d, e.set i (some (.own ds))) := id rfl
def chgP (e : En) (i : Nat) (f : List D → Option (D × List D)) : Option (Option Sl) → Option (D × En)
  | some (some (.own ds)) => (f ds).bind (chgR e i)
  | _ => none
theorem chg_e (e : En) (i : Nat) (f : List D → Option (D × List D)) : chg e i f = chgP e i f e[i]? := by unfold chg chgP chgR; rfl
theorem chgP_e (e : En) (i : Nat) (f : List D → Option (D × List D)) (ds : List D) : chgP e i f (some (some (.own ds))) = (f ds).bind (chgR e i) := id rfl
def lstL : Option Rv → Option (List D)
  | some (.l ds) => some ds
  | _ => none
theorem lstAt_e (e : En) (v : Vl) : lstAt e v = lstL (look e v) := by unfold lstAt lstL; rfl
theorem lstL_e (ds : List D) : lstL (some (.l ds)) = some ds := id rfl
def mutC (f : List Rv → List D → Option (D × List D)) (e : En) (i : Nat) (rs : List Rv) : Option (D × En) := chg e i (f rs)
theorem mutC_e (f : List Rv → List D → Option (D × List D)) (e : En) (i : Nat) (rs : List Rv) : mutC f e i rs = chg e i (f rs) := id rfl
def mutR (f : List Rv → List D → Option (D × List D)) (e : En) (vs : List Vl) (i : Nat) : Option (D × En) := (looks e vs).bind (mutC f e i)
theorem mutR_e (f : List Rv → List D → Option (D × List D)) (e : En) (vs : List Vl) (i : Nat) : mutR f e vs i = (looks e vs).bind (mutC f e i) := id rfl
theorem rix_e (i : Nat) : rix (.r i) = some i := id rfl
def kMut3 (f : List Rv → List D → Option (D × List D)) (v : Vl) : List Vl × En → Tr (Vl × En)
  | (vs, e) => (Tr.of ((rix v).bind (mutR f e vs))).bind kMut4
theorem kMut3_e0 (f : List Rv → List D → Option (D × List D)) (v : Vl) vs e : kMut3 f v ((vs, e)) = (Tr.of ((rix v).bind (mutR f e vs))).bind kMut4 := id rfl
def kMut2 (f : List Rv → List D → Option (D × List D)) (as : XA) (v : Vl) (e : En) : List D → Tr (Vl × En)
  | ds => (as e).bind (kMut3 f v)
theorem kMut2_e0 (f : List Rv → List D → Option (D × List D)) (as : XA) (v : Vl) (e : En) ds : kMut2 f as v e (ds) = (as e).bind (kMut3 f v) := id rfl
def kMut (f : List Rv → List D → Option (D × List D)) (as : XA) : Vl × En → Tr (Vl × En)
  | (v, e) => (Tr.of (lstAt e v)).bind (kMut2 f as v e)
theorem kMut_e0 (f : List Rv → List D → Option (D × List D)) (as : XA) v e : kMut f as ((v, e)) = (Tr.of (lstAt e v)).bind (kMut2 f as v e) := id rfl
theorem xMut_e (f : List Rv → List D → Option (D × List D)) (o : XE) (as : XA) (e : En) : xMut f o as e = (o e).bind (kMut f as) := id rfl
def kFo3 (e : En) : D → Tr (Vl × En)
  | d => if plainD d = true then .ret (.d d, e) else .stuck
theorem kFo3_e0 (e : En) d : kFo3 e (d) = if plainD d = true then .ret (.d d, e) else .stuck := id rfl
def kFo2 (g : List D → Tr D) (e : En) : List D → Tr (Vl × En)
  | ds => (g ds).bind (kFo3 e)
theorem kFo2_e0 (g : List D → Tr D) (e : En) ds : kFo2 g e (ds) = (g ds).bind (kFo3 e) := id rfl
def kFo (g : List D → Tr D) : List Vl × En → Tr (Vl × En)
  | (vs, e) => (Tr.of (datsO e vs)).bind (kFo2 g e)
theorem kFo_e0 (g : List D → Tr D) vs e : kFo g ((vs, e)) = (Tr.of (datsO e vs)).bind (kFo2 g e) := id rfl
theorem xFo_e (g : List D → Tr D) (as : XA) (e : En) : xFo g as e = (as e).bind (kFo g) := id rfl
theorem datO_d (e : En) (x : D) : datO e (.d x) = some x := id rfl
theorem datO_r (e : En) (i : Nat) : datO e (.r i) = obAt e i := id rfl
def obO : Option (Option Sl) → Option D
  | some (some (.ob k fs)) => some (.obj k fs)
  | _ => none
theorem obAt_e (e : En) (i : Nat) : obAt e i = obO e[i]? := by unfold obAt obO; rfl
theorem obO_e (k : Addr) (fs : List (Str × D)) : obO (some (some (.ob k fs))) = some (.obj k fs) := id rfl
def dtC (e : En) (vs : List Vl) (d : D) : Option (List D) := (datsO e vs).map (d :: ·)
theorem dtC_e (e : En) (vs : List Vl) (d : D) : dtC e vs d = (datsO e vs).map (d :: ·) := id rfl
theorem datsO_0 (e : En) : datsO e [] = some [] := id rfl
theorem datsO_c (e : En) (v : Vl) (vs : List Vl) : datsO e (v :: vs) = (datO e v).bind (dtC e vs) := by
  show ((datO e v).bind fun d => (datsO e vs).bind fun ds => some (d :: ds)) = _
  congr
  funext d
  unfold dtC
  cases datsO e vs <;> rfl
def kDP2 (k : Str) (d : D) : List (Key × D) × En → Tr (List (Key × D) × En)
  | (q, e) => .ret ((.inr k, d) :: q, e)
theorem kDP2_e0 (k : Str) (d : D) q e : kDP2 k d ((q, e)) = .ret ((.inr k, d) :: q, e) := id rfl
def kDP1 (r : List (Str × XE)) (k : Str) (e : En) : D → Tr (List (Key × D) × En)
  | d => (dctP r e).bind (kDP2 k d)
theorem kDP1_e0 (r : List (Str × XE)) (k : Str) (e : En) d : kDP1 r k e (d) = (dctP r e).bind (kDP2 k d) := id rfl
def kDP (r : List (Str × XE)) (k : Str) : Vl × En → Tr (List (Key × D) × En)
  | (v, e) => (Tr.of (dat v)).bind (kDP1 r k e)
theorem kDP_e0 (r : List (Str × XE)) (k : Str) v e : kDP r k ((v, e)) = (Tr.of (dat v)).bind (kDP1 r k e) := id rfl
theorem dctP_0 (e : En) : dctP [] e = .ret ([], e) := id rfl
theorem dctP_1 (k : Str) (a : XE) (r : List (Str × XE)) (e : En) : dctP ((k, a) :: r) e = (a e).bind (kDP r k) := id rfl
theorem dat_e (x : D) : dat (.d x) = some x := id rfl
def kDct  : List (Key × D) × En → Tr (Vl × En)
  | (q, e) => .ret (.d (.dct q), e)
theorem kDct_e0  q e : kDct  ((q, e)) = .ret (.d (.dct q), e) := id rfl
def kE4 (kk : Key) (d : D) : List (Key × D) × En → Tr (List (Key × D) × En)
  | (q, e) => .ret ((kk, d) :: q, e)
theorem kE4_e0 (kk : Key) (d : D) q e : kE4 kk d ((q, e)) = .ret ((kk, d) :: q, e) := id rfl
def kE3 (r : List (XE × XE)) (kk : Key) (e : En) : D → Tr (List (Key × D) × En)
  | d => (dctE r e).bind (kE4 kk d)
theorem kE3_e0 (r : List (XE × XE)) (kk : Key) (e : En) d : kE3 r kk e (d) = (dctE r e).bind (kE4 kk d) := id rfl
def kE2 (r : List (XE × XE)) (kk : Key) : Vl × En → Tr (List (Key × D) × En)
  | (v, e) => (Tr.of (dat v)).bind (kE3 r kk e)
theorem kE2_e0 (r : List (XE × XE)) (kk : Key) v e : kE2 r kk ((v, e)) = (Tr.of (dat v)).bind (kE3 r kk e) := id rfl
def kE1 (a : XE) (r : List (XE × XE)) (e : En) (kk : Key) : Tr (List (Key × D) × En) := (a e).bind (kE2 r kk)
theorem kE1_e0 (a : XE) (r : List (XE × XE)) (e : En) (kk : Key) : kE1 a r e kk = (a e).bind (kE2 r kk) := id rfl
def kE0 (a : XE) (r : List (XE × XE)) : Vl × En → Tr (List (Key × D) × En)
  | (v, e) => (Tr.of ((dat v).bind keyD)).bind (kE1 a r e)
theorem kE0_e0 (a : XE) (r : List (XE × XE)) v e : kE0 a r ((v, e)) = (Tr.of ((dat v).bind keyD)).bind (kE1 a r e) := id rfl
theorem dctE_0 (e : En) : dctE [] e = .ret ([], e) := id rfl
theorem dctE_1 (k a : XE) (r : List (XE × XE)) (e : En) : dctE ((k, a) :: r) e = (k e).bind (kE0 a r) := id rfl
theorem keyD_s (x : Str) : keyD (.str x) = some (.inr x) := id rfl
def kDcE  : List (Key × D) × En → Tr (Vl × En)
  | (q, e) => .ret (.d (.dct (mergeD [] q)), e)
theorem kDcE_e0  q e : kDcE  ((q, e)) = .ret (.d (.dct (mergeD [] q)), e) := id rfl
theorem xDctE_e (ps : List (XE × XE)) (e : En) : xDctE ps e = if ps.length ≤ 15 then (dctE ps e).bind kDcE else .stuck := id rfl
def dgR (kvs : List (Key × D)) (v w : Vl) : Option D := (dat v).bind fun k => (keyD k).bind fun k => (dat w).bind fun d => some ((lookD kvs k).getD d)
theorem dgR_s (kvs : List (Key × D)) (x : Str) (d : D) : dgR kvs (.d (.str x)) (.d d) = some ((lookD kvs (.inr x)).getD d) := id rfl
theorem dctV_e (kvs : List (Key × D)) : dctV (.d (.dct kvs)) = some kvs := id rfl
def kDg3 (kvs : List (Key × D)) (v : Vl) : Vl × En → Tr (Vl × En)
  | (w, e) => (Tr.of (dgR kvs v w)).bind (kRet e)
theorem kDg3_e0 (kvs : List (Key × D)) (v : Vl) w e : kDg3 kvs v ((w, e)) = (Tr.of (dgR kvs v w)).bind (kRet e) := id rfl
def kDg2 (c : XE) (kvs : List (Key × D)) : Vl × En → Tr (Vl × En)
  | (v, e) => (c e).bind (kDg3 kvs v)
theorem kDg2_e0 (c : XE) (kvs : List (Key × D)) v e : kDg2 c kvs ((v, e)) = (c e).bind (kDg3 kvs v) := id rfl
def kDg1 (b : XE) (c : XE) (e : En) : List (Key × D) → Tr (Vl × En)
  | kvs => (b e).bind (kDg2 c kvs)
theorem kDg1_e0 (b : XE) (c : XE) (e : En) kvs : kDg1 b c e (kvs) = (b e).bind (kDg2 c kvs) := id rfl
def kDg (b : XE) (c : XE) : Vl × En → Tr (Vl × En)
  | (v, e) => (Tr.of (dctV v)).bind (kDg1 b c e)
theorem kDg_e0 (b : XE) (c : XE) v e : kDg b c ((v, e)) = (Tr.of (dctV v)).bind (kDg1 b c e) := id rfl
theorem xDg2_e (a b c : XE) (e : En) : xDg2 a b c e = (a e).bind (kDg b c) := id rfl
def kSS (e : En) : List Str → Tr (Vl × En)
  | xs => .ret (.d (.lst ((ascT xs).map Dt.str)), e)
theorem kSS_e0 (e : En) xs : kSS e (xs) = .ret (.d (.lst ((ascT xs).map Dt.str)), e) := id rfl
def kSo (g : XG) (a : XE) (vs : List Nat) : List D × En → Tr (Vl × En)
  | (ds, e) => if ds.length ≤ 4000 ∧ vs.all (noOwn e) = true then (scLoop g a (wipeN e vs) ds []).bind (kSS e) else .stuck
theorem kSo_e0 (g : XG) (a : XE) (vs : List Nat) ds e : kSo g a vs ((ds, e)) = if ds.length ≤ 4000 ∧ vs.all (noOwn e) = true then (scLoop g a (wipeN e vs) ds []).bind (kSS e) else .stuck := id rfl
theorem xSortS_e (it : XI) (g : XG) (a : XE) (vs : List Nat) (e : En) : xSortS it g a vs e = (it e).bind (kSo g a vs) := id rfl
def kCh4 (g : List Rv → Option D) (v : Vl) : Vl × En → Tr (Vl × En)
  | (w, e) => (Tr.of ((looks e [v, w]).bind g)).bind (kRet e)
theorem kCh4_e0 (g : List Rv → Option D) (v : Vl) w e : kCh4 g v ((w, e)) = (Tr.of ((looks e [v, w]).bind g)).bind (kRet e) := id rfl
def kCh3 (g : List Rv → Option D) (c : XE) (w : Vl) (e : En) : Bool → Tr (Vl × En)
  | true => (c e).bind (kCh4 g w)
  | false => .ret (.d (.bl false), e)
theorem kCh3_e0 (g : List Rv → Option D) (c : XE) (w : Vl) (e : En) : kCh3 g c w e (true) = (c e).bind (kCh4 g w) := id rfl
theorem kCh3_e1 (g : List Rv → Option D) (c : XE) (w : Vl) (e : En) : kCh3 g c w e (false) = .ret (.d (.bl false), e) := id rfl
def kCh2 (g : List Rv → Option D) (c : XE) (w : Vl) (e : En) : D → Tr (Vl × En)
  | d => (Tr.of (blV (.d d))).bind (kCh3 g c w e)
theorem kCh2_e0 (g : List Rv → Option D) (c : XE) (w : Vl) (e : En) d : kCh2 g c w e (d) = (Tr.of (blV (.d d))).bind (kCh3 g c w e) := id rfl
def kCh1 (f : List Rv → Option D) (g : List Rv → Option D) (c : XE) (v : Vl) : Vl × En → Tr (Vl × En)
  | (w, e) => (Tr.of ((looks e [v, w]).bind f)).bind (kCh2 g c w e)
theorem kCh1_e0 (f : List Rv → Option D) (g : List Rv → Option D) (c : XE) (v : Vl) w e : kCh1 f g c v ((w, e)) = (Tr.of ((looks e [v, w]).bind f)).bind (kCh2 g c w e) := id rfl
def kCh (f : List Rv → Option D) (g : List Rv → Option D) (b : XE) (c : XE) : Vl × En → Tr (Vl × En)
  | (v, e) => (b e).bind (kCh1 f g c v)
theorem kCh_e0 (f : List Rv → Option D) (g : List Rv → Option D) (b : XE) (c : XE) v e : kCh f g b c ((v, e)) = (b e).bind (kCh1 f g c v) := id rfl
theorem xChain_e (f g : List Rv → Option D) (a b c : XE) (e : En) : xChain f g a b c e = (a e).bind (kCh f g b c) := id rfl
def kTm3 (f : List Rv → Option D) (v : Vl) : List Vl × En → Tr (Vl × En)
  | (vs, e) => (Tr.of ((looks e (v :: vs)).bind f)).bind (kRet e)
theorem kTm3_e0 (f : List Rv → Option D) (v : Vl) vs e : kTm3 f v ((vs, e)) = (Tr.of ((looks e (v :: vs)).bind f)).bind (kRet e) := id rfl
def kTm2 (f : List Rv → Option D) (as : XA) (v : Vl) (e : En) : Unit → Tr (Vl × En)
  | _ => (as e).bind (kTm3 f v)
theorem kTm2_e0 (f : List Rv → Option D) (as : XA) (v : Vl) (e : En) (u : Unit) : kTm2 f as v e u = (as e).bind (kTm3 f v) := id rfl
def txQ (r : Rv) : Option Unit := if txR r = true then some () else none
theorem txQ_t (d : Str) (ds : List D) : txQ (.d (.tup (.str d :: ds))) = some () := id rfl
def kTm (f : List Rv → Option D) (as : XA) : Vl × En → Tr (Vl × En)
  | (v, e) => (Tr.of ((look e v).bind txQ)).bind (kTm2 f as v e)
theorem kTm_e0 (f : List Rv → Option D) (as : XA) v e : kTm f as ((v, e)) = (Tr.of ((look e v).bind txQ)).bind (kTm2 f as v e) := id rfl
theorem xTm_e (f : List Rv → Option D) (o : XE) (as : XA) (e : En) : xTm f o as e = (o e).bind (kTm f as) := id rfl
def kTu2 (e : En) : D → Tr (Bool × En)
  | d => (Tr.of (blV (.d d))).bind (kTest2 e)
theorem kTu2_e0 (e : En) d : kTu2 e (d) = (Tr.of (blV (.d d))).bind (kTest2 e) := id rfl
def kTu1 (f : List Rv → Tr D) (e : En) : Rv → Tr (Bool × En)
  | r => (f [r]).bind (kTu2 e)
theorem kTu1_e0 (f : List Rv → Tr D) (e : En) r : kTu1 f e (r) = (f [r]).bind (kTu2 e) := id rfl
def kTu (f : List Rv → Tr D) : Vl × En → Tr (Bool × En)
  | (v, e) => (Tr.of (look e v)).bind (kTu1 f e)
theorem kTu_e0 (f : List Rv → Tr D) v e : kTu f ((v, e)) = (Tr.of (look e v)).bind (kTu1 f e) := id rfl
theorem xTru_e (f : List Rv → Tr D) (a : XE) (e : En) : xTru f a e = (a e).bind (kTu f) := id rfl
def kNo2 (e : En) : D → Tr (Vl × En)
  | d => (Tr.of (blV (.d d))).bind (kNot2 e)
theorem kNo2_e0 (e : En) d : kNo2 e (d) = (Tr.of (blV (.d d))).bind (kNot2 e) := id rfl
def kNo1 (f : List Rv → Tr D) (e : En) : Rv → Tr (Vl × En)
  | r => (f [r]).bind (kNo2 e)
theorem kNo1_e0 (f : List Rv → Tr D) (e : En) r : kNo1 f e (r) = (f [r]).bind (kNo2 e) := id rfl
def kNo (f : List Rv → Tr D) : Vl × En → Tr (Vl × En)
  | (v, e) => (Tr.of (look e v)).bind (kNo1 f e)
theorem kNo_e0 (f : List Rv → Tr D) v e : kNo f ((v, e)) = (Tr.of (look e v)).bind (kNo1 f e) := id rfl
theorem xNotO_e (f : List Rv → Tr D) (a : XE) (e : En) : xNotO f a e = (a e).bind (kNo f) := id rfl
def dkO : Option (Option Sl) → Option (List (Str × Int))
  | some (some (.dk k)) => some k
  | _ => none
theorem dkAt_e (e : En) (i : Nat) : dkAt e i = dkO e[i]? := by unfold dkAt dkO; rfl
theorem dkO_e (k : List (Str × Int)) : dkO (some (some (.dk k))) = some k := id rfl
def dgR2 (k : Str) (d : Int) (kvs : List (Str × Int)) : Option Int := some ((lookK k kvs).getD d)
theorem dgR2_e (k : Str) (d : Int) (kvs : List (Str × Int)) : dgR2 k d kvs = some ((lookK k kvs).getD d) := id rfl
def dgK (i : Nat) (v w : Vl) (e : En) : Option Int := (strV v).bind fun k => (intV w).bind fun d => (dkAt e i).bind (dgR2 k d)
theorem dgK_s (i : Nat) (k : Str) (d : Int) (e : En) : dgK i (.d (.str k)) (.d (.int d)) e = (dkAt e i).bind (dgR2 k d) := id rfl
def diK (i : Nat) (v : Vl) (e : En) : Option Int := (strV v).bind fun k => (dkAt e i).bind (lookK k)
theorem diK_s (i : Nat) (k : Str) (e : En) : diK i (.d (.str k)) e = (dkAt e i).bind (lookK k) := id rfl
def dpP (i : Nat) (k : Str) (v : Int) (e : En) (kvs : List (Str × Int)) : Option En := if kvs.length < 90000 then some (e.set i (some (.dk (putS kvs k v)))) else none
theorem dpP_e (i : Nat) (k : Str) (v : Int) (e : En) (kvs : List (Str × Int)) : dpP i k v e kvs = if kvs.length < 90000 then some (e.set i (some (.dk (putS kvs k v)))) else none := id rfl
def dpK (i : Nat) (v w : Vl) (e : En) : Option En := (intV v).bind fun v => (strV w).bind fun k => (dkAt e i).bind (dpP i k v e)
theorem dpK_s (i : Nat) (k : Str) (v : Int) (e : En) : dpK i (.d (.int v)) (.d (.str k)) e = (dkAt e i).bind (dpP i k v e) := id rfl
theorem gv_dk (i : Nat) (x : List (Str × Int)) : gv i (some (some (.dk x))) = some (.r i) := id rfl
def kRetI (e : En) : Int → Tr (Vl × En)
  | n => .ret (.d (.int n), e)
theorem kRetI_e0 (e : En) n : kRetI e (n) = .ret (.d (.int n), e) := id rfl
def kG3 (i : Nat) (v : Vl) : Vl × En → Tr (Vl × En)
  | (w, e) => (Tr.of (dgK i v w e)).bind (kRetI e)
theorem kG3_e0 (i : Nat) (v : Vl) w e : kG3 i v ((w, e)) = (Tr.of (dgK i v w e)).bind (kRetI e) := id rfl
def kG2 (i : Nat) (c : XE) : Vl × En → Tr (Vl × En)
  | (v, e) => (c e).bind (kG3 i v)
theorem kG2_e0 (i : Nat) (c : XE) v e : kG2 i c ((v, e)) = (c e).bind (kG3 i v) := id rfl
def kG1 (i : Nat) (b : XE) (c : XE) (e : En) : List (Str × Int) → Tr (Vl × En)
  | k => (b e).bind (kG2 i c)
theorem kG1_e0 (i : Nat) (b : XE) (c : XE) (e : En) k : kG1 i b c e (k) = (b e).bind (kG2 i c) := id rfl
theorem xDkG_e (i : Nat) (b c : XE) (e : En) : xDkG i b c e = (Tr.of (dkAt e i)).bind (kG1 i b c e) := id rfl
def kI3 (i : Nat) : Vl × En → Tr (Vl × En)
  | (v, e) => (Tr.of (diK i v e)).bind (kRetI e)
theorem kI3_e0 (i : Nat) v e : kI3 i ((v, e)) = (Tr.of (diK i v e)).bind (kRetI e) := id rfl
def kI1 (i : Nat) (b : XE) (e : En) : List (Str × Int) → Tr (Vl × En)
  | k => (b e).bind (kI3 i)
theorem kI1_e0 (i : Nat) (b : XE) (e : En) k : kI1 i b e (k) = (b e).bind (kI3 i) := id rfl
theorem xDkI_e (i : Nat) (b : XE) (e : En) : xDkI i b e = (Tr.of (dkAt e i)).bind (kI1 i b e) := id rfl
def kLK (i : Nat) (g : XG) (a : XE) (vs : List Nat) (e : En) : List (Str × Int) → Tr (Vl × En)
  | kvs => if kvs.length ≤ 50000 ∧ vs.all (noOwn (e.set i none)) = true ∧ (vs.contains i) = false then (lcLoop g yes a (wipeN (e.set i none) vs) (kvs.map fun p => .str p.1) []).bind (kLL e) else .stuck
theorem kLK_e0 (i : Nat) (g : XG) (a : XE) (vs : List Nat) (e : En) kvs : kLK i g a vs e (kvs) = if kvs.length ≤ 50000 ∧ vs.all (noOwn (e.set i none)) = true ∧ (vs.contains i) = false then (lcLoop g yes a (wipeN (e.set i none) vs) (kvs.map fun p => .str p.1) []).bind (kLL e) else .stuck := id rfl
theorem xLcK_e (i : Nat) (g : XG) (a : XE) (vs : List Nat) (e : En) : xLcK i g a vs e = (Tr.of (dkAt e i)).bind (kLK i g a vs e) := id rfl
def frzR (i : Nat) (e : En) : Option (Option Sl) → Tr Fl
  | some (some (.own ds)) => .ret (.nx (e.set i (some (.d (.lst ds)))))
  | _ => .stuck
theorem sFrz_e (i : Nat) (e : En) : sFrz i e = frzR i e e[i]? := by unfold sFrz frzR; rfl
theorem frzR_e (i : Nat) (e : En) (ds : List D) : frzR i e (some (some (.own ds))) = .ret (.nx (e.set i (some (.d (.lst ds))))) := id rfl
theorem sDkN_e (i : Nat) (e : En) : sDkN i e = .ret (.nx (e.set i (some (.dk [])))) := id rfl
def kSeq (t : XS) : Fl → Tr Fl
  | .nx e => t e
  | .rt v e => .ret (.rt v e)
  | .bk e => .ret (.bk e)
  | .ct e => .ret (.ct e)
  | .xc k n d e => .ret (.xc k n d e)
theorem kSeq_e0 (t : XS) e : kSeq t (.nx e) = t e := id rfl
theorem kSeq_e1 (t : XS) v e : kSeq t (.rt v e) = .ret (.rt v e) := id rfl
theorem kSeq_e2 (t : XS) e : kSeq t (.bk e) = .ret (.bk e) := id rfl
theorem kSeq_e3 (t : XS) e : kSeq t (.ct e) = .ret (.ct e) := id rfl
theorem kSeq_e4 (t : XS) k n d e : kSeq t (.xc k n d e) = .ret (.xc k n d e) := id rfl
theorem sSeq_e (s t : XS) (e : En) : sSeq s t e = (s e).bind (kSeq t) := by
  unfold sSeq
  congr
  funext f
  cases f <;> rfl
def kAsg2  : En → Tr Fl
  | e => .ret (.nx e)
theorem kAsg2_e0  e : kAsg2  (e) = .ret (.nx e) := id rfl
def asgR (g : XG) (e : En) (x : D) : Option En := g x e
theorem asgR_e (g : XG) (e : En) (x : D) : asgR g e x = g x e := id rfl
def kAsg (g : XG) : Vl × En → Tr Fl
  | (v, e) => (Tr.of ((dat v).bind (asgR g e))).bind kAsg2
theorem kAsg_e0 (g : XG) v e : kAsg g ((v, e)) = (Tr.of ((dat v).bind (asgR g e))).bind kAsg2 := id rfl
theorem sAsg_e (a : XE) (g : XG) (e : En) : sAsg a g e = (a e).bind (kAsg g) := id rfl
def kP3 (i : Nat) (v : Vl) : Vl × En → Tr Fl
  | (w, e) => (Tr.of (dpK i v w e)).bind kAsg2
theorem kP3_e0 (i : Nat) (v : Vl) w e : kP3 i v ((w, e)) = (Tr.of (dpK i v w e)).bind kAsg2 := id rfl
def kP2 (i : Nat) (b : XE) : Vl × En → Tr Fl
  | (v, e) => (b e).bind (kP3 i v)
theorem kP2_e0 (i : Nat) (b : XE) v e : kP2 i b ((v, e)) = (b e).bind (kP3 i v) := id rfl
def kP1 (i : Nat) (b : XE) (c : XE) (e : En) : List (Str × Int) → Tr Fl
  | k => (c e).bind (kP2 i b)
theorem kP1_e0 (i : Nat) (b : XE) (c : XE) (e : En) k : kP1 i b c e (k) = (c e).bind (kP2 i b) := id rfl
theorem sDkP_e (i : Nat) (b c : XE) (e : En) : sDkP i b c e = (Tr.of (dkAt e i)).bind (kP1 i b c e) := id rfl
def kDrop  : Vl × En → Tr Fl
  | (v, e) => .ret (.nx e)
theorem kDrop_e0  v e : kDrop  ((v, e)) = .ret (.nx e) := id rfl
theorem sDrop_e (a : XE) (e : En) : sDrop a e = (a e).bind kDrop := id rfl
def kRt  : Vl × En → Tr Fl
  | (v, e) => .ret (.rt v e)
theorem kRt_e0  v e : kRt  ((v, e)) = .ret (.rt v e) := id rfl
theorem sRet_e (a : XE) (e : En) : sRet a e = (a e).bind kRt := id rfl
theorem sRetN_e  (e : En) : sRetN e = .ret (.rt (.d .non) e) := id rfl
theorem sBreak_e  (e : En) : sBreak e = .ret (.bk e) := id rfl
theorem sCont_e  (e : En) : sCont e = .ret (.ct e) := id rfl
theorem sNext_e  (e : En) : sNext e = .ret (.nx e) := id rfl
theorem sNever_e  (e : En) : sNever e = .stuck := id rfl
def kSif (a : XS) (b : XS) : Bool × En → Tr Fl
  | (true, e) => a e
  | (false, e) => b e
theorem kSif_e0 (a : XS) (b : XS) e : kSif a b ((true, e)) = a e := id rfl
theorem kSif_e1 (a : XS) (b : XS) e : kSif a b ((false, e)) = b e := id rfl
theorem sIf_e (t : XT) (a b : XS) (e : En) : sIf t a b e = (t e).bind (kSif a b) := by
  unfold sIf
  refine congrArg _ (funext fun p => ?_)
  obtain ⟨c, e⟩ := p
  cases c <;> rfl
def kFor (g : XG) (b : XS) : List D × En → Tr Fl
  | (ds, e) => forLoop g b ds e
theorem kFor_e0 (g : XG) (b : XS) ds e : kFor g b ((ds, e)) = forLoop g b ds e := id rfl
theorem sFor_e (it : XI) (g : XG) (b : XS) (e : En) : sFor it g b e = (it e).bind (kFor g b) := id rfl
def kOwn2 (i : Nat) (e : En) : List D → Tr Fl
  | ds => if ds.length ≤ 100000 then .ret (.nx (e.set i (some (.own ds)))) else .stuck
theorem kOwn2_e0 (i : Nat) (e : En) ds : kOwn2 i e (ds) = if ds.length ≤ 100000 then .ret (.nx (e.set i (some (.own ds)))) else .stuck := id rfl
def kOwn (i : Nat) : List Vl × En → Tr Fl
  | (vs, e) => (Tr.of (dats vs)).bind (kOwn2 i e)
theorem kOwn_e0 (i : Nat) vs e : kOwn i ((vs, e)) = (Tr.of (dats vs)).bind (kOwn2 i e) := id rfl
theorem sOwn_e (i : Nat) (as : XA) (e : En) : sOwn i as e = (as e).bind (kOwn i) := id rfl
def kFld (c : Addr) (i : Nat) (f : Str) (e : En) : D → Option En
  | x => fldToK c e i f x
theorem kFld_e0 (c : Addr) (i : Nat) (f : Str) (e : En) x : kFld c i f e (x) = fldToK c e i f x := id rfl
def kSf (c : Addr) (i : Nat) (f : Str) : Vl × En → Tr Fl
  | (v, e) => (Tr.of ((dat v).bind (kFld c i f e))).bind kAsg2
theorem kSf_e0 (c : Addr) (i : Nat) (f : Str) v e : kSf c i f ((v, e)) = (Tr.of ((dat v).bind (kFld c i f e))).bind kAsg2 := id rfl
theorem sFldK_e (c : Addr) (i : Nat) (f : Str) (a : XE) (e : En) : sFldK c i f a e = (a e).bind (kSf c i f) := id rfl
def fldR (c : Addr) (e : En) (i : Nat) (f : Str) (x : D) : Option (Option Sl) → Option En
  | some (some (.ob k fs)) => if k = c ∧ fs.length < 900 then some (e.set i (some (.ob k (putA f x fs)))) else none
  | _ => none
theorem fldToK_e (c : Addr) (e : En) (i : Nat) (f : Str) (x : D) : fldToK c e i f x = fldR c e i f x e[i]? := by unfold fldToK fldR; rfl
theorem fldR_e (c : Addr) (e : En) (i : Nat) (f : Str) (x : D) (k : Addr) (fs : List (Str × D)) : fldR c e i f x (some (some (.ob k fs))) = if k = c ∧ fs.length < 900 then some (e.set i (some (.ob k (putA f x fs)))) else none := id rfl
theorem putA_0 (f : Str) (x : D) : putA f x [] = [(f, x)] := id rfl
theorem putA_s (a b : String) (x y : D) (r : List (Str × D)) : putA (Str.ofString a) x ((Str.ofString b, y) :: r) = if b = a then (Str.ofString a, x) :: r else (Str.ofString b, y) :: putA (Str.ofString a) x r := by
  show (if Str.ofString b = Str.ofString a then _ else _) = _
  by_cases h : b = a
  · rw [if_pos h, if_pos (by rw [h])]
  · rw [if_neg h, if_neg (by rw [ofS_inj]; exact h)]
def kMt2 (cs : List (Str × XS)) (e : En) : Str → Tr Fl
  | z => caseOf cs z e
theorem kMt2_e0 (cs : List (Str × XS)) (e : En) z : kMt2 cs e (z) = caseOf cs z e := id rfl
def kMt (cs : List (Str × XS)) : Vl × En → Tr Fl
  | (v, e) => (Tr.of (strV v)).bind (kMt2 cs e)
theorem kMt_e0 (cs : List (Str × XS)) v e : kMt cs ((v, e)) = (Tr.of (strV v)).bind (kMt2 cs e) := id rfl
theorem sMatch_e (a : XE) (cs : List (Str × XS)) (e : En) : sMatch a cs e = (a e).bind (kMt cs) := id rfl
theorem caseOf_0 (z : Str) (e : En) : caseOf [] z e = .ret (.nx e) := id rfl
theorem caseOf_s (a b : String) (s : XS) (r : List (Str × XS)) (e : En) : caseOf ((Str.ofString b, s) :: r) (Str.ofString a) e = if a = b then s e else caseOf r (Str.ofString a) e := by
  show (if Str.ofString a = Str.ofString b then s else caseOf r (Str.ofString a)) e = _
  by_cases h : a = b
  · rw [if_pos h, if_pos (by rw [h])]
  · rw [if_neg h, if_neg (by rw [ofS_inj]; exact h)]
def kDi2 (e : En) : List D → Tr (List D × En)
  | ds => if ds.length ≤ 100000 then .ret (ds, e) else .stuck
theorem kDi2_e0 (e : En) ds : kDi2 e (ds) = if ds.length ≤ 100000 then .ret (ds, e) else .stuck := id rfl
def kDi  : List Vl × En → Tr (List D × En)
  | (vs, e) => (Tr.of (dats vs)).bind (kDi2 e)
theorem kDi_e0  vs e : kDi  ((vs, e)) = (Tr.of (dats vs)).bind (kDi2 e) := id rfl
theorem lDisp_e (as : XA) (e : En) : lDisp as e = (as e).bind kDi := id rfl
def kLi  : Vl × En → Tr (List D × En)
  | (v, e) => (Tr.of ((look e v).bind seqR)).bind (kI2 e)
theorem kLi_e0  v e : kLi  ((v, e)) = (Tr.of ((look e v).bind seqR)).bind (kI2 e) := id rfl
theorem lList_e (a : XE) (e : En) : lList a e = (a e).bind kLi := id rfl
def kLa2 (v : Vl) : Vl × En → Tr (List D × En)
  | (w, e) => (Tr.of (catR (look e v) (look e w))).bind (kI2 e)
theorem kLa2_e0 (v : Vl) w e : kLa2 v ((w, e)) = (Tr.of (catR (look e v) (look e w))).bind (kI2 e) := id rfl
def kLa (b : XE) : Vl × En → Tr (List D × En)
  | (v, e) => (b e).bind (kLa2 v)
theorem kLa_e0 (b : XE) v e : kLa b ((v, e)) = (b e).bind (kLa2 v) := id rfl
theorem lAdd_e (a b : XE) (e : En) : lAdd a b e = (a e).bind (kLa b) := id rfl
def kLlc (g : XG) (t : XT) (a : XE) (vs : List Nat) : List D × En → Tr (List D × En)
  | (ds, e) => if ds.length ≤ 50000 ∧ vs.all (noOwn e) = true then (lcLoop g t a (wipeN e vs) ds []).bind (kI2 e) else .stuck
theorem kLlc_e0 (g : XG) (t : XT) (a : XE) (vs : List Nat) ds e : kLlc g t a vs ((ds, e)) = if ds.length ≤ 50000 ∧ vs.all (noOwn e) = true then (lcLoop g t a (wipeN e vs) ds []).bind (kI2 e) else .stuck := id rfl
theorem lLc_e (it : XI) (g : XG) (t : XT) (a : XE) (vs : List Nat) (e : En) : lLc it g t a vs e = (it e).bind (kLlc g t a vs) := id rfl
def kOf (i : Nat) : List D × En → Tr Fl
  | (ds, e) => .ret (.nx (e.set i (some (.own ds))))
theorem kOf_e0 (i : Nat) ds e : kOf i ((ds, e)) = .ret (.nx (e.set i (some (.own ds)))) := id rfl
theorem sOwnF_e (i : Nat) (x : XL) (e : En) : sOwnF i x e = (x e).bind (kOf i) := id rfl
def kFF2 (i : Nat) (j : Nat) (ds : List D) : List D × En → Tr Fl
  | (es, e) => .ret (.nx ((e.set i (some (.own ds))).set j (some (.own es))))
theorem kFF2_e0 (i : Nat) (j : Nat) (ds : List D) es e : kFF2 i j ds ((es, e)) = .ret (.nx ((e.set i (some (.own ds))).set j (some (.own es)))) := id rfl
def kFF (i : Nat) (j : Nat) (y : XL) : List D × En → Tr Fl
  | (ds, e) => (y e).bind (kFF2 i j ds)
theorem kFF_e0 (i : Nat) (j : Nat) (y : XL) ds e : kFF i j y ((ds, e)) = (y e).bind (kFF2 i j ds) := id rfl
theorem sParFF_e (i j : Nat) (x y : XL) (e : En) : sParFF i j x y e = (x e).bind (kFF i j y) := id rfl
def kFD3 (i : Nat) (j : Nat) (ds : List D) (e : En) : D → Tr Fl
  | d => .ret (.nx ((e.set i (some (.own ds))).set j (some (.d d))))
theorem kFD3_e0 (i : Nat) (j : Nat) (ds : List D) (e : En) d : kFD3 i j ds e (d) = .ret (.nx ((e.set i (some (.own ds))).set j (some (.d d)))) := id rfl
def kFD2 (i : Nat) (j : Nat) (ds : List D) : Vl × En → Tr Fl
  | (v, e) => (Tr.of (dat v)).bind (kFD3 i j ds e)
theorem kFD2_e0 (i : Nat) (j : Nat) (ds : List D) v e : kFD2 i j ds ((v, e)) = (Tr.of (dat v)).bind (kFD3 i j ds e) := id rfl
def kFD (i : Nat) (j : Nat) (y : XE) : List D × En → Tr Fl
  | (ds, e) => (y e).bind (kFD2 i j ds)
theorem kFD_e0 (i : Nat) (j : Nat) (y : XE) ds e : kFD i j y ((ds, e)) = (y e).bind (kFD2 i j ds) := id rfl
theorem sParFD_e (i j : Nat) (x : XL) (y : XE) (e : En) : sParFD i j x y e = (x e).bind (kFD i j y) := id rfl
def kDF3 (i : Nat) (j : Nat) (es : List D) (e : En) : D → Tr Fl
  | d => .ret (.nx ((e.set i (some (.d d))).set j (some (.own es))))
theorem kDF3_e0 (i : Nat) (j : Nat) (es : List D) (e : En) d : kDF3 i j es e (d) = .ret (.nx ((e.set i (some (.d d))).set j (some (.own es)))) := id rfl
def kDF2 (i : Nat) (j : Nat) (v : Vl) : List D × En → Tr Fl
  | (es, e) => (Tr.of (dat v)).bind (kDF3 i j es e)
theorem kDF2_e0 (i : Nat) (j : Nat) (v : Vl) es e : kDF2 i j v ((es, e)) = (Tr.of (dat v)).bind (kDF3 i j es e) := id rfl
def kDF (i : Nat) (j : Nat) (y : XL) : Vl × En → Tr Fl
  | (v, e) => (y e).bind (kDF2 i j v)
theorem kDF_e0 (i : Nat) (j : Nat) (y : XL) v e : kDF i j y ((v, e)) = (y e).bind (kDF2 i j v) := id rfl
theorem sParDF_e (i j : Nat) (x : XE) (y : XL) (e : En) : sParDF i j x y e = (x e).bind (kDF i j y) := id rfl
def kDD4 (i : Nat) (j : Nat) (d : D) (e : En) : D → Tr Fl
  | w => .ret (.nx ((e.set i (some (.d d))).set j (some (.d w))))
theorem kDD4_e0 (i : Nat) (j : Nat) (d : D) (e : En) w : kDD4 i j d e (w) = .ret (.nx ((e.set i (some (.d d))).set j (some (.d w)))) := id rfl
def kDD3 (i : Nat) (j : Nat) (w : Vl) (e : En) : D → Tr Fl
  | d => (Tr.of (dat w)).bind (kDD4 i j d e)
theorem kDD3_e0 (i : Nat) (j : Nat) (w : Vl) (e : En) d : kDD3 i j w e (d) = (Tr.of (dat w)).bind (kDD4 i j d e) := id rfl
def kDD2 (i : Nat) (j : Nat) (v : Vl) : Vl × En → Tr Fl
  | (w, e) => (Tr.of (dat v)).bind (kDD3 i j w e)
theorem kDD2_e0 (i : Nat) (j : Nat) (v : Vl) w e : kDD2 i j v ((w, e)) = (Tr.of (dat v)).bind (kDD3 i j w e) := id rfl
def kDD (i : Nat) (j : Nat) (y : XE) : Vl × En → Tr Fl
  | (v, e) => (y e).bind (kDD2 i j v)
theorem kDD_e0 (i : Nat) (j : Nat) (y : XE) v e : kDD i j y ((v, e)) = (y e).bind (kDD2 i j v) := id rfl
theorem sParDD_e (i j : Nat) (x y : XE) (e : En) : sParDD i j x y e = (x e).bind (kDD i j y) := id rfl
def kP3b (i j l : Nat) (e : En) (ds : List D) : Tr Fl := set3 i j l e ds
theorem kP3b_e (i j l : Nat) (e : En) (a b c : D) : kP3b i j l e [a, b, c] = .ret (.nx (((e.set i (some (.d a))).set j (some (.d b))).set l (some (.d c)))) := id rfl
def kP3a (i : Nat) (j : Nat) (l : Nat) : List Vl × En → Tr Fl
  | (vs, e) => (Tr.of (dats vs)).bind (kP3b i j l e)
theorem kP3a_e0 (i : Nat) (j : Nat) (l : Nat) vs e : kP3a i j l ((vs, e)) = (Tr.of (dats vs)).bind (kP3b i j l e) := id rfl
theorem sPar3_e (i j l : Nat) (as : XA) (e : En) : sPar3 i j l as e = (as e).bind (kP3a i j l) := id rfl
theorem runF_e (n : Nat) (b : XS) (args : List D) : runF n b args = (b (startN n (args.map .d))).bind endF := id rfl
theorem makeF_e (k : Addr) (n : Nat) (b : XS) (args : List D) : makeF k n b args = (b (startN n (.ob k [] :: args.map .d))).bind endI := id rfl
theorem endF_nx (e : En) : endF (.nx e) = .ret .non := id rfl
theorem endF_rt (v : Vl) (e : En) : endF (.rt v e) = Tr.of (resD e v) := id rfl
theorem endI_nx (e : En) : endI (.nx e) = Tr.of (obAt e 0) := id rfl
theorem of_some_e {α : Type} (a : α) : Tr.of (some a) = .ret a := id rfl
theorem startN_e (n : Nat) (sl : List Sl) : startN n sl = sl.map some ++ List.replicate (n - sl.length) none := id rfl
theorem gN_e (i : Nat) (x : D) (e : En) : gN i x e = some (e.set i (some (.d x))) := id rfl
theorem gs0_e (e : En) : gs0 [] e = some e := id rfl
def gsK (gs : XGs) (r : List D) (e : En) : Option En := gs r e
theorem gsK_e (gs : XGs) (r : List D) (e : En) : gsK gs r e = gs r e := id rfl
theorem gsC_e (g : XG) (gs : XGs) (x : D) (r : List D) (e : En) : gsC g gs (x :: r) e = (g x e).bind (gsK gs r) := id rfl
theorem gT_e (gs : XGs) (ds : List D) (e : En) : gT gs (.tup ds) e = gs ds e := id rfl
theorem gU_t (gs : XGs) (ds : List D) (e : En) : gU gs (.tup ds) e = gs ds e := id rfl
theorem gU_l (gs : XGs) (ds : List D) (e : En) : gU gs (.lst ds) e = gs ds e := id rfl
theorem cF_e (n : Nat) (g : List Dt → Tr Dt) (des ds : List Dt) : cF n g des ds = if ds.length + des.length = n then g (ds ++ des) else .stuck := id rfl
theorem un_e (f : List Dt → Option Dt) (rs : List Rv) : un f rs = (asDs rs).bind f := id rfl
theorem asDs_0 : asDs [] = some [] := id rfl
theorem asDs_d (d : Dt) (rs : List Rv) : asDs (.d d :: rs) = (asDs rs).map (d :: ·) := by
  show (asDs rs).bind _ = _
  cases asDs rs <;> rfl
theorem asDs_l (d : List Dt) (rs : List Rv) : asDs (.l d :: rs) = (asDs rs).map (.lst d :: ·) := by
  show (asDs rs).bind _ = _
  cases asDs rs <;> rfl
theorem asD_d (d : Dt) : asD (.d d) = some d := id rfl
theorem asD_l (d : List Dt) : asD (.l d) = some (.lst d) := id rfl
def kIfO (f g : List Rv → Tr Dt) (rs : List Rv) : Bool → Tr Dt
  | true => f rs
  | false => g rs
theorem ifO_t (c : List Rv → Bool) (f g : List Rv → Tr Dt) (rs : List Rv) : ifO c f g rs = kIfO f g rs (c rs) := by unfold ifO kIfO; rfl
theorem kIfO_t (f g : List Rv → Tr Dt) (rs : List Rv) : kIfO f g rs true = f rs := id rfl
theorem kIfO_f (f g : List Rv → Tr Dt) (rs : List Rv) : kIfO f g rs false = g rs := id rfl
theorem isK_o (c k : Addr) (fs : List (Str × Dt)) (rs : List Rv) : isK c (.d (.obj k fs) :: rs) = (k == c) := id rfl
theorem isK_s (c : Addr) (x : Str) (rs : List Rv) : isK c (.d (.str x) :: rs) = false := id rfl
theorem isK_i (c : Addr) (x : Int) (rs : List Rv) : isK c (.d (.int x) :: rs) = false := id rfl
theorem isK_b (c : Addr) (x : Bool) (rs : List Rv) : isK c (.d (.bl x) :: rs) = false := id rfl
theorem isK_l (c : Addr) (x : List Dt) (rs : List Rv) : isK c (.d (.lst x) :: rs) = false := id rfl
theorem isK_t (c : Addr) (x : List Dt) (rs : List Rv) : isK c (.d (.tup x) :: rs) = false := id rfl
theorem isK_ll (c : Addr) (x : List Dt) (rs : List Rv) : isK c (.l x :: rs) = false := id rfl
theorem isK_n (c : Addr) (rs : List Rv) : isK c (.d .non :: rs) = false := id rfl
theorem toB_e (f : List Dt → Option Dt) (rs : List Rv) : toB f rs = Tr.of (un f rs) := id rfl
theorem dBin_e (c : Addr) (g : List Dt → Tr Dt) (k : Addr) (fs : List (Str × Dt)) (k' : Addr) (fs' : List (Str × Dt)) : dBin c g [.d (.obj k fs), .d (.obj k' fs')] = if k = c ∧ k' = c then g [.obj k fs, .obj k' fs'] else .stuck := id rfl
theorem dIBi_e (c : Addr) (g : List Dt → Tr Dt) (k : Addr) (fs : List (Str × Dt)) (i : Int) : dIBi c g [.d (.int i), .d (.obj k fs)] = if k = c then g [.obj k fs, .int i] else .stuck := id rfl
theorem isIK_io (c k : Addr) (i : Int) (fs : List (Str × Dt)) : isIK c [.d (.int i), .d (.obj k fs)] = (k == c) := id rfl
theorem isIK_ii (c : Addr) (i j : Int) : isIK c [.d (.int i), .d (.int j)] = false := id rfl
theorem isIK_oi (c k : Addr) (j : Int) (fs : List (Str × Dt)) : isIK c [.d (.obj k fs), .d (.int j)] = false := id rfl
theorem dBiI_e (c : Addr) (g : List Dt → Tr Dt) (k : Addr) (fs : List (Str × Dt)) (i : Int) : dBiI c g [.d (.obj k fs), .d (.int i)] = if k = c then g [.obj k fs, .int i] else .stuck := id rfl
theorem fZipL_e (a b : List Dt) : fZipL [.lst a, .lst b] = some (.lst (a.zipWith (fun x y => .tup [x, y]) b)) := id rfl
theorem dUn_e (c : Addr) (g : List Dt → Tr Dt) (k : Addr) (fs : List (Str × Dt)) : dUn c g [.d (.obj k fs)] = if k = c then g [.obj k fs] else .stuck := id rfl
theorem dStr_e (c : Addr) (g : List Dt → Tr Dt) (rs : List Rv) : dStr c g rs = (dUn c g rs).bind strB := id rfl
theorem dBool_e (c : Addr) (g : List Dt → Tr Dt) (rs : List Rv) : dBool c g rs = (dUn c g rs).bind boolB := id rfl
theorem dLen_e (c : Addr) (g : List Dt → Tr Dt) (rs : List Rv) : dLen c g rs = (dUn c g rs).bind lenB := id rfl
theorem strB_e (x : Str) : strB (.str x) = .ret (.str x) := id rfl
theorem boolB_e (x : Bool) : boolB (.bl x) = .ret (.bl x) := id rfl
theorem dCmp_e (c : Addr) (ks : List Addr) (g : List Dt → Tr Dt) (k : Addr) (fs : List (Str × Dt)) (y : Dt) : dCmp c ks g [.d (.obj k fs), .d y] = if k = c ∧ cmpK ks y = true then g [.obj k fs, y] else .stuck := id rfl
theorem cmpK_o (ks : List Addr) (k : Addr) (fs : List (Str × Dt)) : cmpK ks (.obj k fs) = ks.contains k := id rfl
theorem dNe_e (c : Addr) (ks : List Addr) (g : List Dt → Tr Dt) (rs : List Rv) : dNe c ks g rs = (dCmp c ks g rs).bind negB := id rfl
theorem negB_e (b : Bool) : negB (.bl b) = .ret (.bl (!b)) := id rfl
def rcM (o : D) (g : List D → Tr D) : D × (List D → Tr D) := (o, g)
theorem recv_e (ms : List (Addr × (List D → Tr D))) (m : Str) (k : Addr) (fs : List (Str × Dt)) : recv ms m (.d (.obj k fs)) = if (fs.lookup m).isNone = true then (ms.lookup k).map (rcM (.obj k fs)) else none := by
  show (if (fs.lookup m).isNone = true then _ else _) = _
  unfold rcM
  rfl
theorem rcM_e (o : D) (g : List D → Tr D) : rcM o g = (o, g) := id rfl
theorem iSeqD_l (ds : List Dt) : iSeqD [.d (.lst ds)] = some ds := id rfl
theorem iSeqD_t (ds : List Dt) : iSeqD [.d (.tup ds)] = some ds := id rfl
theorem seqR_l (ds : List Dt) : seqR (.d (.lst ds)) = some ds := id rfl
theorem seqR_t (ds : List Dt) : seqR (.d (.tup ds)) = some ds := id rfl
theorem seqR_o (ds : List Dt) : seqR (.l ds) = some ds := id rfl
theorem lstR_l (ds : List Dt) : lstR (.d (.lst ds)) = some ds := id rfl
theorem lstR_o (ds : List Dt) : lstR (.l ds) = some ds := id rfl
theorem wipe_0 (e : En) : wipeN e [] = e := id rfl
theorem wipe_1 (e : En) (i : Nat) (is : List Nat) : wipeN e (i :: is) = (wipeN e is).set i none := id rfl
def noO : Option (Option Sl) → Bool
  | some (some (.own _)) => false
  | some (some (.ob _ _)) => false
  | some (some (.dk _)) => false
  | _ => true
theorem noOwn_e (e : En) (i : Nat) : noOwn e i = noO e[i]? := by unfold noOwn noO; rfl
theorem noO_n : noO none = true := id rfl
theorem noO_s : noO (some none) = true := id rfl
theorem noO_d (x : D) : noO (some (some (.d x))) = true := id rfl
def isPt (c : Addr) : Option (Option Sl) → Bool
  | some (some (.d (.ptr c'))) => c' == c
  | _ => false
theorem isPtr_e (e : En) (i : Nat) (c : Addr) : isPtr e i c = isPt c e[i]? := by unfold isPtr isPt; rfl
theorem isPt_e (c d : Addr) : isPt c (some (some (.d (.ptr d)))) = (d == c) := id rfl
theorem yes_e (e : En) : yes e = .ret (true, e) := id rfl
theorem fAdd_i (i j : Int) : fAdd [.int i, .int j] = some (.int (i + j)) := id rfl
theorem fSub_i (i j : Int) : fSub [.int i, .int j] = some (.int (i - j)) := id rfl
theorem fLt_i (i j : Int) : fLt [.int i, .int j] = some (.bl (decide (i < j))) := id rfl
theorem fLe_i (i j : Int) : fLe [.int i, .int j] = some (.bl (decide (i ≤ j))) := id rfl
theorem fGt_i (i j : Int) : fGt [.int i, .int j] = some (.bl (decide (j < i))) := id rfl
theorem fGe_i (i j : Int) : fGe [.int i, .int j] = some (.bl (decide (j ≤ i))) := id rfl
theorem bAttr_d (ks : List Addr) (f : Str) (k : Addr) (fs : List (Str × Dt)) : bAttr ks f [.d (.obj k fs)] = if ks.contains k then fs.lookup f else none := id rfl
theorem bAttr_o (ks : List Addr) (f : Str) (k : Addr) (fs : List (Str × Dt)) : bAttr ks f [.o k fs] = if ks.contains k then fs.lookup f else none := id rfl
theorem slD_l (ds : List Dt) (lo hi : Option Int) : slD (.lst ds) lo hi = some (.lst (cutD ds lo hi)) := id rfl
theorem fAddL (a b : List Dt) : fAdd [.lst a, .lst b] = if a.length + b.length ≤ 100000 then some (.lst (a ++ b)) else none := id rfl
theorem fRepr_b (b : Bool) : fRepr [.bl b] = some (.str (if b then "True" else "False")) := id rfl
theorem fBool_b (b : Bool) : fBool [.bl b] = some (.bl b) := id rfl
theorem cmpK_s (ks : List Addr) (x : Str) : cmpK ks (.str x) = true := id rfl
theorem fInt_i (i : Int) : fInt [.int i] = some (.int i) := id rfl
theorem fInt_b (b : Bool) : fInt [.bl b] = some (.int (if b then 1 else 0)) := id rfl
def EXs := And.intro @kC_e (And.intro @asc_e (And.intro @kA_e (And.intro @all_e (And.intro @ret_e (And.intro @stk_e (And.intro @ral_e (And.intro @ofs_e (And.intro @ofn_e (And.intro @getV_e (And.intro @gv_d (And.intro @gv_own (And.intro @gv_ob (And.intro @look_d (And.intro @look_r (And.intro @lk_own (And.intro @lk_ob (And.intro @looks_0 (And.intro @looks_c (And.intro @lkC_e (And.intro @dats_0 (And.intro @dats_1 (And.intro @dats_map (And.intro @resD_d (And.intro @resD_r (And.intro @resR_own (And.intro @resR_ob (And.intro @xC_e (And.intro @kVar_e0 (And.intro @xVar_e (And.intro @xNil_e (And.intro @kCons2_e0 (And.intro @kCons_e0 (And.intro @xCons_e (And.intro @kStar3_e0 (And.intro @kStar2_e0 (And.intro @kStar_e0 (And.intro @xStar_e (And.intro @kRet_e0 (And.intro @kB_e0 (And.intro @xB_e (And.intro @kF2_e0 (And.intro @kF_e0 (And.intro @xF_e (And.intro @kTest2_e0 (And.intro @blV_e (And.intro @kTest_e0 (And.intro @xTest_e (And.intro @kAndT_e0 (And.intro @kAndT_e1 (And.intro @xAndT_e (And.intro @kOrT_e0 (And.intro @kOrT_e1 (And.intro @xOrT_e (And.intro @kNotT_e0 (And.intro @xNotT_e (And.intro @kAnd2_e0 (And.intro @kAnd2_e1 (And.intro @kAnd_e0 (And.intro @xAnd_e (And.intro @kOr2_e0 (And.intro @kOr2_e1 (And.intro @kOr_e0 (And.intro @xOr_e (And.intro @kNot2_e0 (And.intro @kNot_e0 (And.intro @xNot_e (And.intro @kIf_e0 (And.intro @kIf_e1 (And.intro @xIf_e (And.intro @kTup2_e0 (And.intro @kTup_e0 (And.intro @xTup_e (And.intro @kLst2_e0 (And.intro @kLst_e0 (And.intro @xLst_e (And.intro @kLL_e0 (And.intro @kLc_e0 (And.intro @xLc_e (And.intro @kLc2_e0 (And.intro @xLc2_e (And.intro @slK_e (And.intro @kSl3_e0 (And.intro @kSl2_e0 (And.intro @kSl_e0 (And.intro @xSl_e (And.intro @kOs2_e0 (And.intro @kOs_e0 (And.intro @intV_e (And.intro @oSome_e (And.intro @oNone_e (And.intro @kI2_e0 (And.intro @kI_e0 (And.intro @iX_e (And.intro @kM4_e0 (And.intro @kM3_e0 (And.intro @kM2_e0 (And.intro @kM_e0 (And.intro @xM_e (And.intro @kOp2_e0 (And.intro @kOp_e0 (And.intro @xO_e (And.intro @kTx4_e (And.intro @strV_e (And.intro @kTx3_e0 (And.intro @kTx2_e0 (And.intro @kTx_e0 (And.intro @xTx_e (And.intro @xMkL_e (And.intro @kLm3_e0 (And.intro @kLm2_e0 (And.intro @kLm_e0 (And.intro @xLm_e (And.intro @kMut4_e0 (And.intro @chgR_e (And.intro @chg_e (And.intro @chgP_e (And.intro @lstAt_e (And.intro @lstL_e (And.intro @mutC_e (And.intro @mutR_e (And.intro @rix_e (And.intro @kMut3_e0 (And.intro @kMut2_e0 (And.intro @kMut_e0 (And.intro @xMut_e (And.intro @kFo3_e0 (And.intro @kFo2_e0 (And.intro @kFo_e0 (And.intro @xFo_e (And.intro @datO_d (And.intro @datO_r (And.intro @obAt_e (And.intro @obO_e (And.intro @dtC_e (And.intro @datsO_0 (And.intro @datsO_c (And.intro @kDP2_e0 (And.intro @kDP1_e0 (And.intro @kDP_e0 (And.intro @dctP_0 (And.intro @dctP_1 (And.intro @dat_e (And.intro @kDct_e0 (And.intro @kE4_e0 (And.intro @kE3_e0 (And.intro @kE2_e0 (And.intro @kE1_e0 (And.intro @kE0_e0 (And.intro @dctE_0 (And.intro @dctE_1 (And.intro @keyD_s (And.intro @kDcE_e0 (And.intro @xDctE_e (And.intro @dgR_s (And.intro @dctV_e (And.intro @kDg3_e0 (And.intro @kDg2_e0 (And.intro @kDg1_e0 (And.intro @kDg_e0 (And.intro @xDg2_e (And.intro @kSS_e0 (And.intro @kSo_e0 (And.intro @xSortS_e (And.intro @kCh4_e0 (And.intro @kCh3_e0 (And.intro @kCh3_e1 (And.intro @kCh2_e0 (And.intro @kCh1_e0 (And.intro @kCh_e0 (And.intro @xChain_e (And.intro @kTm3_e0 (And.intro @kTm2_e0 (And.intro @txQ_t (And.intro @kTm_e0 (And.intro @xTm_e (And.intro @kTu2_e0 (And.intro @kTu1_e0 (And.intro @kTu_e0 (And.intro @xTru_e (And.intro @kNo2_e0 (And.intro @kNo1_e0 (And.intro @kNo_e0 (And.intro @xNotO_e (And.intro @dkAt_e (And.intro @dkO_e (And.intro @dgR2_e (And.intro @dgK_s (And.intro @diK_s (And.intro @dpP_e (And.intro @dpK_s (And.intro @gv_dk (And.intro @kRetI_e0 (And.intro @kG3_e0 (And.intro @kG2_e0 (And.intro @kG1_e0 (And.intro @xDkG_e (And.intro @kI3_e0 (And.intro @kI1_e0 (And.intro @xDkI_e (And.intro @kLK_e0 (And.intro @xLcK_e (And.intro @sFrz_e (And.intro @frzR_e (And.intro @sDkN_e (And.intro @kSeq_e0 (And.intro @kSeq_e1 (And.intro @kSeq_e2 (And.intro @kSeq_e3 (And.intro @kSeq_e4 (And.intro @sSeq_e (And.intro @kAsg2_e0 (And.intro @asgR_e (And.intro @kAsg_e0 (And.intro @sAsg_e (And.intro @kP3_e0 (And.intro @kP2_e0 (And.intro @kP1_e0 (And.intro @sDkP_e (And.intro @kDrop_e0 (And.intro @sDrop_e (And.intro @kRt_e0 (And.intro @sRet_e (And.intro @sRetN_e (And.intro @sBreak_e (And.intro @sCont_e (And.intro @sNext_e (And.intro @sNever_e (And.intro @kSif_e0 (And.intro @kSif_e1 (And.intro @sIf_e (And.intro @kFor_e0 (And.intro @sFor_e (And.intro @kOwn2_e0 (And.intro @kOwn_e0 (And.intro @sOwn_e (And.intro @kFld_e0 (And.intro @kSf_e0 (And.intro @sFldK_e (And.intro @fldToK_e (And.intro @fldR_e (And.intro @putA_0 (And.intro @putA_s (And.intro @kMt2_e0 (And.intro @kMt_e0 (And.intro @sMatch_e (And.intro @caseOf_0 (And.intro @caseOf_s (And.intro @kDi2_e0 (And.intro @kDi_e0 (And.intro @lDisp_e (And.intro @kLi_e0 (And.intro @lList_e (And.intro @kLa2_e0 (And.intro @kLa_e0 (And.intro @lAdd_e (And.intro @kLlc_e0 (And.intro @lLc_e (And.intro @kOf_e0 (And.intro @sOwnF_e (And.intro @kFF2_e0 (And.intro @kFF_e0 (And.intro @sParFF_e (And.intro @kFD3_e0 (And.intro @kFD2_e0 (And.intro @kFD_e0 (And.intro @sParFD_e (And.intro @kDF3_e0 (And.intro @kDF2_e0 (And.intro @kDF_e0 (And.intro @sParDF_e (And.intro @kDD4_e0 (And.intro @kDD3_e0 (And.intro @kDD2_e0 (And.intro @kDD_e0 (And.intro @sParDD_e (And.intro @kP3b_e (And.intro @kP3a_e0 (And.intro @sPar3_e (And.intro @runF_e (And.intro @makeF_e (And.intro @endF_nx (And.intro @endF_rt (And.intro @endI_nx (And.intro @of_some_e (And.intro @startN_e (And.intro @gN_e (And.intro @gs0_e (And.intro @gsK_e (And.intro @gsC_e (And.intro @gT_e (And.intro @gU_t (And.intro @gU_l (And.intro @cF_e (And.intro @un_e (And.intro @asDs_0 (And.intro @asDs_d (And.intro @asDs_l (And.intro @asD_d (And.intro @asD_l (And.intro @ifO_t (And.intro @kIfO_t (And.intro @kIfO_f (And.intro @isK_o (And.intro @isK_s (And.intro @isK_i (And.intro @isK_b (And.intro @isK_l (And.intro @isK_t (And.intro @isK_ll (And.intro @isK_n (And.intro @toB_e (And.intro @dBin_e (And.intro @dBiI_e (And.intro @fZipL_e (And.intro @dUn_e (And.intro @dStr_e (And.intro @dBool_e (And.intro @dLen_e (And.intro @strB_e (And.intro @boolB_e (And.intro @dCmp_e (And.intro @cmpK_o (And.intro @dNe_e (And.intro @negB_e (And.intro @recv_e (And.intro @rcM_e (And.intro @iSeqD_l (And.intro @iSeqD_t (And.intro @seqR_l (And.intro @seqR_t (And.intro @seqR_o (And.intro @lstR_l (And.intro @lstR_o (And.intro @wipe_0 (And.intro @wipe_1 (And.intro @noOwn_e (And.intro @noO_n (And.intro @noO_s (And.intro @noO_d (And.intro @isPtr_e (And.intro @isPt_e (And.intro @yes_e (And.intro @fAdd_i (And.intro @fSub_i (And.intro @fLt_i (And.intro @fLe_i (And.intro @fGt_i (And.intro @fGe_i (And.intro @bAttr_d (And.intro @bAttr_o (And.intro @fRepr_b (And.intro @fInt_i (And.intro @fInt_b (And.intro @fBool_b (And.intro @cmpK_s (And.intro @lkA (And.intro @lkS (And.intro @dIBi_e (And.intro @isIK_io (And.intro @isIK_ii (And.intro @isIK_oi (And.intro @fIx_t0 (And.intro @fIx_t1 (And.intro @fIx_l0 (And.intro @fIx_l1 (And.intro @fEq_ss (And.intro @fNe_ss (And.intro @fEq_ii (And.intro @fNe_ii (And.intro @fEq_bb (And.intro @fNe_bb (And.intro @fLen_l (And.intro @fLen_t (And.intro @fStr_s (And.intro @fTuple_l (And.intro @fTuple_t (And.intro @fList_l (And.intro @fList_t (@ofS_inj)))))))))))))))))))))))))))))))))))))))))))))))))))))))))))))))))))))))))))))))))))))))))))))))))))))))))))))))))))))))))))))))))))))))))))))))))))))))))))))))))))))))))))))))))))))))))))))))))))))))))))))))))))))))))))))))))))))))))))))))))))))))))))))))))))))))))))))))))))))))))))))))))))))))))))))))))))))))))))))))))))))))))))))))))))))))))))))))))))))))))))))))))))))))))))
end Mc
namespace Mc
open PySem L2
def kRz2 (k : Addr) (n : Str) (e : En) : D → Tr Fl
  | d => .ret (.xc k n d e)
theorem kRz2_e0 (k : Addr) (n : Str) (e : En) d : kRz2 k n e (d) = .ret (.xc k n d e) := id rfl
def kRz (k : Addr) (n : Str) : Vl × En → Tr Fl
  | (v, e) => (Tr.of (dat v)).bind (kRz2 k n e)
theorem kRz_e0 (k : Addr) (n : Str) v e : kRz k n ((v, e)) = (Tr.of (dat v)).bind (kRz2 k n e) := id rfl
theorem sRaise_e (k : Addr) (n : Str) (a : XE) (e : En) : sRaise k n a e = (a e).bind (kRz k n) := id rfl
def kDX3 (e : En) : Rs → Tr Fl
  | .ok d => .ret (.nx e)
  | .ex k n d => .ret (.xc k n d e)
theorem kDX3_e0 (e : En) d : kDX3 e (.ok d) = .ret (.nx e) := id rfl
theorem kDX3_e1 (e : En) k n d : kDX3 e (.ex k n d) = .ret (.xc k n d e) := id rfl
def kDX2 (g : List D → Tr Rs) (e : En) : List D → Tr Fl
  | ds => (g ds).bind (kDX3 e)
theorem kDX2_e0 (g : List D → Tr Rs) (e : En) ds : kDX2 g e (ds) = (g ds).bind (kDX3 e) := id rfl
def kDX (g : List D → Tr Rs) : List Vl × En → Tr Fl
  | (vs, e) => (Tr.of (dats vs)).bind (kDX2 g e)
theorem kDX_e0 (g : List D → Tr Rs) vs e : kDX g ((vs, e)) = (Tr.of (dats vs)).bind (kDX2 g e) := id rfl
theorem sDropX_e (g : List D → Tr Rs) (as : XA) (e : En) : sDropX g as e = (as e).bind (kDX g) := by
  unfold sDropX
  congr 1
def kTry (ks : List (Addr × Str)) (i : Nat) (j : Nat) : Fl → Tr Fl
  | .nx e => .ret (.nx e)
  | .rt v e => .ret (.rt v e)
  | .bk e => .ret (.bk e)
  | .ct e => .ret (.ct e)
  | .xc k n d e => if ks.contains (k, n) = true ∧ i < e.length ∧ j < e.length then .ret (.nx ((e.set j (some (.d d))).set i none)) else .stuck
theorem kTry_e0 (ks : List (Addr × Str)) (i : Nat) (j : Nat) e : kTry ks i j (.nx e) = .ret (.nx e) := id rfl
theorem kTry_e1 (ks : List (Addr × Str)) (i : Nat) (j : Nat) v e : kTry ks i j (.rt v e) = .ret (.rt v e) := id rfl
theorem kTry_e2 (ks : List (Addr × Str)) (i : Nat) (j : Nat) e : kTry ks i j (.bk e) = .ret (.bk e) := id rfl
theorem kTry_e3 (ks : List (Addr × Str)) (i : Nat) (j : Nat) e : kTry ks i j (.ct e) = .ret (.ct e) := id rfl
theorem sTryK_e (b : XS) (ks : List (Addr × Str)) (i j : Nat) (e : En) : sTryK b ks i j e = (b e).bind (kTry ks i j) := by
  unfold sTryK
  congr 1
  funext f
  cases f <;> rfl
theorem kTry_x (k : Addr) (n : Str) (i j : Nat) (d : D) (e : En) (hi : i < e.length) (hj : j < e.length) : kTry [(k, n)] i j (.xc k n d e) = .ret (.nx ((e.set j (some (.d d))).set i none)) := by
  show (if _ then _ else _) = _
  rw [if_pos ⟨by simp, hi, hj⟩]
def kEX  : D → Tr Rs
  | d => .ret (.ok d)
theorem kEX_e0  d : kEX  (d) = .ret (.ok d) := id rfl
theorem runX_e (n : Nat) (b : XS) (args : List D) : runX n b args = (b (startN n (args.map .d))).bind endX := id rfl
theorem endX_nx (e : En) : endX (.nx e) = .ret (.ok .non) := id rfl
theorem endX_rt (v : Vl) (e : En) : endX (.rt v e) = (Tr.of (resD e v)).bind kEX := id rfl
theorem endX_xc (k : Addr) (n : Str) (d : D) (e : En) : endX (.xc k n d e) = .ret (.ex k n d) := id rfl
theorem makeX_e (k : Addr) (n : Nat) (b : XS) (args : List D) : makeX k n b args = (b (startN n (.ob k [] :: args.map .d))).bind endIX := id rfl
theorem endIX_nx (e : En) : endIX (.nx e) = (Tr.of (obAt e 0)).bind kEX := id rfl
theorem endIX_xc (k : Addr) (n : Str) (d : D) (e : En) : endIX (.xc k n d e) = Tr.of (if (obAt e 0).isSome = true then some (.ex k n d) else none) := id rfl
theorem cX_e (n : Nat) (g : List Dt → Tr Rs) (des ds : List Dt) : cX n g des ds = if ds.length + des.length = n then g (ds ++ des) else .stuck := id rfl
theorem cR_e {β : Type} (n : Nat) (g : List Dt → Tr β) (des ds : List Dt) : cR n g des ds = if ds.length + des.length = n then g (ds ++ des) else .stuck := id rfl
def kEb {α β : Type} (f : α → Tr (Er β)) : Er α → Tr (Er β)
  | .ok a => f a
  | .ex k n d e => .ret (.ex k n d e)
theorem kEb_ok {α β : Type} (f : α → Tr (Er β)) (a : α) : kEb f (.ok a) = f a := id rfl
theorem kEb_ex {α β : Type} (f : α → Tr (Er β)) (k : Addr) (n : Str) (d : D) (e : En) : kEb f (.ex k n d e : Er α) = .ret (.ex k n d e) := id rfl
theorem eb_e {α β : Type} (m : Tr (Er α)) (f : α → Tr (Er β)) : m.eb f = m.bind (kEb f) := by
  unfold Tr.eb
  congr 1
def kUp  : Vl × En → Tr (Er (Vl × En))
  | (v, e) => .ret (.ok (v, e))
theorem kUp_e0  v e : kUp  ((v, e)) = .ret (.ok (v, e)) := id rfl
theorem rUp_e (a : XE) (e : En) : rUp a e = (a e).bind kUp := id rfl
def kUpA  : List Vl × En → Tr (Er (List Vl × En))
  | (vs, e) => .ret (.ok (vs, e))
theorem kUpA_e0  vs e : kUpA  ((vs, e)) = .ret (.ok (vs, e)) := id rfl
theorem rUpA_e (as : XA) (e : En) : rUpA as e = (as e).bind kUpA := id rfl
def kRc2 (v : Vl) : List Vl × En → Tr (Er (List Vl × En))
  | (vs, e) => .ret (.ok (v :: vs, e))
theorem kRc2_e0 (v : Vl) vs e : kRc2 v ((vs, e)) = .ret (.ok (v :: vs, e)) := id rfl
def kRc (as : XRA) : Vl × En → Tr (Er (List Vl × En))
  | (v, e) => (as e).bind (kEb (kRc2 v))
theorem kRc_e0 (as : XRA) v e : kRc as ((v, e)) = (as e).bind (kEb (kRc2 v)) := id rfl
theorem rCons_e (a : XR) (as : XRA) (e : En) : rCons a as e = (a e).bind (kEb (kRc as)) := by
  unfold rCons
  rw [eb_e]
  congr 2
def kRX3 (e : En) : Rs → Tr (Er (Vl × En))
  | .ok d => .ret (.ok (.d d, e))
  | .ex k n d => .ret (.ex k n d e)
theorem kRX3_e0 (e : En) d : kRX3 e (.ok d) = .ret (.ok (.d d, e)) := id rfl
theorem kRX3_e1 (e : En) k n d : kRX3 e (.ex k n d) = .ret (.ex k n d e) := id rfl
def kRX2 (g : List D → Tr Rs) (e : En) : List D → Tr (Er (Vl × En))
  | ds => (g ds).bind (kRX3 e)
theorem kRX2_e0 (g : List D → Tr Rs) (e : En) ds : kRX2 g e (ds) = (g ds).bind (kRX3 e) := id rfl
def kRX (g : List D → Tr Rs) : List Vl × En → Tr (Er (Vl × En))
  | (vs, e) => (Tr.of (dats vs)).bind (kRX2 g e)
theorem kRX_e0 (g : List D → Tr Rs) vs e : kRX g ((vs, e)) = (Tr.of (dats vs)).bind (kRX2 g e) := id rfl
theorem rX_e (g : List D → Tr Rs) (as : XRA) (e : En) : rX g as e = (as e).bind (kEb (kRX g)) := by
  unfold rX
  rw [eb_e] <;> rfl
def kRF3 (e : En) : D → Tr (Er (Vl × En))
  | d => .ret (.ok (.d d, e))
theorem kRF3_e0 (e : En) d : kRF3 e (d) = .ret (.ok (.d d, e)) := id rfl
def kRF2 (g : List D → Tr D) (e : En) : List D → Tr (Er (Vl × En))
  | ds => (g ds).bind (kRF3 e)
theorem kRF2_e0 (g : List D → Tr D) (e : En) ds : kRF2 g e (ds) = (g ds).bind (kRF3 e) := id rfl
def kRF (g : List D → Tr D) : List Vl × En → Tr (Er (Vl × En))
  | (vs, e) => (Tr.of (dats vs)).bind (kRF2 g e)
theorem kRF_e0 (g : List D → Tr D) vs e : kRF g ((vs, e)) = (Tr.of (dats vs)).bind (kRF2 g e) := id rfl
theorem rF_e (g : List D → Tr D) (as : XRA) (e : En) : rF g as e = (as e).bind (kEb (kRF g)) := by
  unfold rF
  rw [eb_e] <;> rfl
def kRB4 (r : Rs) : En → Tr (Er (Vl × En))
  | e1 => kRX3 e1 r
theorem kRB4_e0 (r : Rs) e1 : kRB4 r (e1) = kRX3 e1 r := id rfl
def kRB3 (e : En) (i : Nat) : Rs × D → Tr (Er (Vl × En))
  | (r, o) => (Tr.of (setOb e i o)).bind (kRB4 r)
theorem kRB3_e0 (e : En) (i : Nat) r o : kRB3 e i ((r, o)) = (Tr.of (setOb e i o)).bind (kRB4 r) := id rfl
def kRB2 (g : List D → Tr (Rs × D)) (e : En) : Nat × D × List D → Tr (Er (Vl × En))
  | (i, o, ds) => (g (o :: ds)).bind (kRB3 e i)
theorem kRB2_e0 (g : List D → Tr (Rs × D)) (e : En) i o ds : kRB2 g e ((i, o, ds)) = (g (o :: ds)).bind (kRB3 e i) := id rfl
def kRB (g : List D → Tr (Rs × D)) : List Vl × En → Tr (Er (Vl × En))
  | (vs, e) => (Tr.of (obOf e vs)).bind (kRB2 g e)
theorem kRB_e0 (g : List D → Tr (Rs × D)) vs e : kRB g ((vs, e)) = (Tr.of (obOf e vs)).bind (kRB2 g e) := id rfl
theorem rB_e (g : List D → Tr (Rs × D)) (as : XRA) (e : En) : rB g as e = (as e).bind (kEb (kRB g)) := by
  unfold rB
  rw [eb_e] <;> rfl
def kOb2 (i : Nat) (o : D) (ds : List D) : Nat × D × List D := (i, o, ds)
theorem kOb2_e (i : Nat) (o : D) (ds : List D) : kOb2 i o ds = (i, o, ds) := id rfl
def kOb1 (i : Nat) (vs : List Vl) (o : D) : Option (Nat × D × List D) := (dats vs).map (kOb2 i o)
theorem kOb1_e (i : Nat) (vs : List Vl) (o : D) : kOb1 i vs o = (dats vs).map (kOb2 i o) := id rfl
theorem obOf_e (e : En) (i : Nat) (vs : List Vl) : obOf e (.r i :: vs) = (obAt e i).bind (kOb1 i vs) := by
  show ((obAt e i).bind fun o => (dats vs).bind fun ds => some (i, o, ds)) = _
  congr 1
  funext o
  unfold kOb1
  cases dats vs <;> rfl
theorem setOb_e (e : En) (i : Nat) (k : Addr) (fs : List (Str × D)) : setOb e i (.obj k fs) = some (e.set i (some (.ob k fs))) := id rfl
def clsO (c : Addr) (m : Str) : Option (Option Sl) → Bool
  | some (some (.ob k fs)) => k == c && (fs.lookup m).isNone
  | _ => false
theorem clsAt_e (e : En) (i : Nat) (c : Addr) (m : Str) : clsAt e i c m = clsO c m e[i]? := by unfold clsAt clsO; rfl
theorem clsO_e (c : Addr) (m : Str) (k : Addr) (fs : List (Str × D)) : clsO c m (some (some (.ob k fs))) = (k == c && (fs.lookup m).isNone) := id rfl
theorem rM_e (i : Nat) (c : Addr) (m : Str) (g : List D → Tr (Rs × D)) (as : XRA) (e : En) : rM i c m g as e = if clsAt e i c m = true then rB g (rCons (rUp (xVar i)) as) e else .stuck := id rfl
def kRT2 (e : En) : List D → Tr (Er (Vl × En))
  | ds => if ds.length ≤ 100000 then .ret (.ok (.d (.tup ds), e)) else .stuck
theorem kRT2_e0 (e : En) ds : kRT2 e (ds) = if ds.length ≤ 100000 then .ret (.ok (.d (.tup ds), e)) else .stuck := id rfl
def kRT  : List Vl × En → Tr (Er (Vl × En))
  | (vs, e) => (Tr.of (dats vs)).bind (kRT2 e)
theorem kRT_e0  vs e : kRT  ((vs, e)) = (Tr.of (dats vs)).bind (kRT2 e) := id rfl
theorem rTup_e (as : XRA) (e : En) : rTup as e = (as e).bind (kEb kRT) := by
  unfold rTup
  rw [eb_e] <;> rfl
def kRR  : Er (Vl × En) → Tr Fl
  | .ok (v, e) => .ret (.rt v e)
  | .ex k n d e => .ret (.xc k n d e)
theorem kRR_e0  v e : kRR  (.ok (v, e)) = .ret (.rt v e) := id rfl
theorem kRR_e1  k n d e : kRR  (.ex k n d e) = .ret (.xc k n d e) := id rfl
def kDR  : Er (Vl × En) → Tr Fl
  | .ok (v, e) => .ret (.nx e)
  | .ex k n d e => .ret (.xc k n d e)
theorem kDR_e0  v e : kDR  (.ok (v, e)) = .ret (.nx e) := id rfl
theorem kDR_e1  k n d e : kDR  (.ex k n d e) = .ret (.xc k n d e) := id rfl
def kSR (g : XG) : Er (Vl × En) → Tr Fl
  | .ok (v, e) => (Tr.of ((dat v).bind (asgR g e))).bind kAsg2
  | .ex k n d e => .ret (.xc k n d e)
theorem kSR_e0 (g : XG) v e : kSR g (.ok (v, e)) = (Tr.of ((dat v).bind (asgR g e))).bind kAsg2 := id rfl
theorem kSR_e1 (g : XG) k n d e : kSR g (.ex k n d e) = .ret (.xc k n d e) := id rfl
def kOR (i : Nat) : Er (List Vl × En) → Tr Fl
  | .ok (vs, e) => (Tr.of (dats vs)).bind (kOwn2 i e)
  | .ex k n d e => .ret (.xc k n d e)
theorem kOR_e0 (i : Nat) vs e : kOR i (.ok (vs, e)) = (Tr.of (dats vs)).bind (kOwn2 i e) := id rfl
theorem kOR_e1 (i : Nat) k n d e : kOR i (.ex k n d e) = .ret (.xc k n d e) := id rfl
theorem sRetR_e (a : XR) (e : En) : sRetR a e = (a e).bind (kRR) := by
  unfold sRetR
  congr 1
  funext r
  cases r <;> rfl
theorem sDropR_e (a : XR) (e : En) : sDropR a e = (a e).bind (kDR) := by
  unfold sDropR
  congr 1
  funext r
  cases r <;> rfl
theorem sAsgR_e (a : XR) (g : XG) (e : En) : sAsgR a g e = (a e).bind (kSR g) := by
  unfold sAsgR
  congr 1
  funext r
  cases r <;> rfl
theorem sOwnR_e (i : Nat) (as : XRA) (e : En) : sOwnR i as e = (as e).bind (kOR i) := by
  unfold sOwnR
  congr 1
  funext r
  cases r <;> rfl
def kEB2 (d : D) : D → Tr (Rs × D)
  | o => .ret (.ok d, o)
theorem kEB2_e0 (d : D) o : kEB2 d (o) = .ret (.ok d, o) := id rfl
def kEB1 (o : D) : D → Tr (Rs × D)
  | d => .ret (.ok d, o)
theorem kEB1_e0 (o : D) d : kEB1 o (d) = .ret (.ok d, o) := id rfl
def kEB (v : Vl) : D → Tr (Rs × D)
  | o => (Tr.of (dat v)).bind (kEB1 o)
theorem kEB_e0 (v : Vl) o : kEB v (o) = (Tr.of (dat v)).bind (kEB1 o) := id rfl
def kEBx (k : Addr) (n : Str) (d : D) : D → Tr (Rs × D)
  | o => .ret (.ex k n d, o)
theorem kEBx_e0 (k : Addr) (n : Str) (d : D) o : kEBx k n d (o) = .ret (.ex k n d, o) := id rfl
def kRunB (n : Nat) (b : XS) (rest : List D) : Sl → Tr (Rs × D)
  | sl => (b (startN n (sl :: rest.map .d))).bind endB
theorem kRunB_e0 (n : Nat) (b : XS) (rest : List D) sl : kRunB n b rest (sl) = (b (startN n (sl :: rest.map .d))).bind endB := id rfl
theorem endB_nx (e : En) : endB (.nx e) = (Tr.of (obAt e 0)).bind (kEB2 .non) := id rfl
theorem endB_rt (v : Vl) (e : En) : endB (.rt v e) = (Tr.of (obAt e 0)).bind (kEB v) := id rfl
theorem endB_xc (k : Addr) (n : Str) (d : D) (e : En) : endB (.xc k n d e) = (Tr.of (obAt e 0)).bind (kEBx k n d) := id rfl
theorem runB_e (n : Nat) (b : XS) (o : D) (rest : List D) : runB n b (o :: rest) = (Tr.of (slOb o)).bind (kRunB n b rest) := id rfl
theorem slOb_e (k : Addr) (fs : List (Str × D)) : slOb (.obj k fs) = some (.ob k fs) := id rfl
def EXy := And.intro @kRz2_e0 (And.intro @kRz_e0 (And.intro @sRaise_e (And.intro @kDX3_e0 (And.intro @kDX3_e1 (And.intro @kDX2_e0 (And.intro @kDX_e0 (And.intro @sDropX_e (And.intro @kTry_e0 (And.intro @kTry_e1 (And.intro @kTry_e2 (And.intro @kTry_e3 (And.intro @sTryK_e (And.intro @kTry_x (And.intro @kEX_e0 (And.intro @kEb_ok (And.intro @kEb_ex (And.intro @kUp_e0 (And.intro @rUp_e (And.intro @kUpA_e0 (And.intro @rUpA_e (And.intro @kRc2_e0 (And.intro @kRc_e0 (And.intro @rCons_e (And.intro @kRX3_e0 (And.intro @kRX3_e1 (And.intro @kRX2_e0 (And.intro @kRX_e0 (And.intro @rX_e (And.intro @kRF3_e0 (And.intro @kRF2_e0 (And.intro @kRF_e0 (And.intro @rF_e (And.intro @kRB4_e0 (And.intro @kRB3_e0 (And.intro @kRB2_e0 (And.intro @kRB_e0 (And.intro @rB_e (And.intro @kOb2_e (And.intro @kOb1_e (And.intro @obOf_e (And.intro @setOb_e (And.intro @clsAt_e (And.intro @clsO_e (And.intro @rM_e (And.intro @kRT2_e0 (And.intro @kRT_e0 (And.intro @rTup_e (And.intro @kRR_e0 (And.intro @kRR_e1 (And.intro @kDR_e0 (And.intro @kDR_e1 (And.intro @kSR_e0 (And.intro @kSR_e1 (And.intro @kOR_e0 (And.intro @kOR_e1 (And.intro @sRetR_e (And.intro @sDropR_e (And.intro @sAsgR_e (And.intro @sOwnR_e (And.intro @kEB2_e0 (And.intro @kEB1_e0 (And.intro @kEB_e0 (And.intro @kEBx_e0 (And.intro @kRunB_e0 (And.intro @endB_nx (And.intro @endB_rt (And.intro @endB_xc (And.intro @runB_e (And.intro @slOb_e (And.intro @makeX_e (And.intro @endIX_nx (And.intro @endIX_xc (And.intro @runX_e (And.intro @endX_nx (And.intro @endX_rt (And.intro @endX_xc (And.intro @cX_e (@cR_e))))))))))))))))))))))))))))))))))))))))))))))))))))))))))))))))))))))))))))))
end Mc
namespace Mc
open PySem L2
theorem dr_lshuffled (n : Nat) (D : Dt) (ds : List Dt) (hD : D = .lst ds ∨ D = .tup ds) (hl : ds.length < 50000) : ((tab (n + 1)).lshuffled [.ptr 1, D]).Al fun r => ∃ rs, r = .lst rs ∧ rs.Perm ds := by
  have hs : seqR (.d D) = some ds := by rcases hD with rfl | rfl <;> rfl
  have hr := rng_n ds.length (by omega)
  rw [t_lshuffled]
  unfold b_lshuffled
  simp -implicitDefEqProofs only [List.map_cons, List.map_nil, List.length_cons, List.length_nil, List.cons_append, List.nil_append, List.append_nil, List.replicate, Nat.reduceAdd, Nat.reduceSub, List.all_cons, List.all_nil, List.getElem?_cons_zero, List.getElem?_cons_succ, Option.bind_some, Option.bind_none, Option.map_some, Option.map_none, List.set_cons_zero, List.set_cons_succ, Bool.not_true, Bool.not_false, Bool.and_true, Bool.true_and, if_true, if_false, ↓reduceIte, and_self, and_true, true_and, and_false, false_and, Nat.zero_le, Nat.reduceLeDiff, Nat.reduceLT, Nat.reduceEqDiff, beq_self_eq_true, decide_true, decide_false, String.reduceEq, String.reduceBEq, List.lookup_nil, Option.isNone_none, Option.isNone_some, List.contains_cons, List.contains_nil, Bool.or_false, Bool.true_or, Bool.or_true, Bool.false_eq_true, reduceCtorEq, List.map_append, List.length_append, List.length_map, Int.reduceAdd, Int.reduceSub, Int.reduceLT, Int.reduceLE, Int.reduceEq, Nat.reduceBEq, eq_self, EXs, EXy, hs, hr]
  refine for_inv (fun xs e => ∃ left found o, e = [some (.d (.ptr 1)), some (.d D), some (.own left), some (.own found), o] ∧ xs.length = left.length ∧ (found ++ left).Perm ds) ⟨ds, [], none, rfl, rangeD_len _ _, by simp⟩ ?_ ?_
  · rintro x r e ⟨left, found, o, rfl, hx, hp⟩
    have h1 := hp.length_eq
    rw [List.length_append] at h1
    rw [List.length_cons] at hx
    refine ⟨_, rfl, ?_⟩
    simp -implicitDefEqProofs only [List.map_cons, List.map_nil, List.length_cons, List.length_nil, List.cons_append, List.nil_append, List.append_nil, List.replicate, Nat.reduceAdd, Nat.reduceSub, List.all_cons, List.all_nil, List.getElem?_cons_zero, List.getElem?_cons_succ, Option.bind_some, Option.bind_none, Option.map_some, Option.map_none, List.set_cons_zero, List.set_cons_succ, Bool.not_true, Bool.not_false, Bool.and_true, Bool.true_and, if_true, if_false, ↓reduceIte, and_self, and_true, true_and, and_false, false_and, Nat.zero_le, Nat.reduceLeDiff, Nat.reduceLT, Nat.reduceEqDiff, beq_self_eq_true, decide_true, decide_false, String.reduceEq, String.reduceBEq, List.lookup_nil, Option.isNone_none, Option.isNone_some, List.contains_cons, List.contains_nil, Bool.or_false, Bool.true_or, Bool.or_true, Bool.false_eq_true, reduceCtorEq, List.map_append, List.length_append, List.length_map, Int.reduceAdd, Int.reduceSub, Int.reduceLT, Int.reduceLE, Int.reduceEq, Nat.reduceBEq, eq_self, EXs, EXy]
    refine draw_al (by omega) (by omega) fun i hi => ?_
    have hi2 := cPopAt_n left i hi (by omega)
    have hi3 := cAppend_n left[i] found (by omega)
    simp -implicitDefEqProofs only [List.map_cons, List.map_nil, List.length_cons, List.length_nil, List.cons_append, List.nil_append, List.append_nil, List.replicate, Nat.reduceAdd, Nat.reduceSub, List.all_cons, List.all_nil, List.getElem?_cons_zero, List.getElem?_cons_succ, Option.bind_some, Option.bind_none, Option.map_some, Option.map_none, List.set_cons_zero, List.set_cons_succ, Bool.not_true, Bool.not_false, Bool.and_true, Bool.true_and, if_true, if_false, ↓reduceIte, and_self, and_true, true_and, and_false, false_and, Nat.zero_le, Nat.reduceLeDiff, Nat.reduceLT, Nat.reduceEqDiff, beq_self_eq_true, decide_true, decide_false, String.reduceEq, String.reduceBEq, List.lookup_nil, Option.isNone_none, Option.isNone_some, List.contains_cons, List.contains_nil, Bool.or_false, Bool.true_or, Bool.or_true, Bool.false_eq_true, reduceCtorEq, List.map_append, List.length_append, List.length_map, Int.reduceAdd, Int.reduceSub, Int.reduceLT, Int.reduceLE, Int.reduceEq, Nat.reduceBEq, eq_self, EXs, EXy, hi2, hi3, flI_nx]
    refine ⟨left.eraseIdx i, found ++ [left[i]], _, rfl, ?_, ?_⟩
    · rw [List.length_eraseIdx, if_pos hi]; omega
    · refine List.Perm.trans ?_ hp
      rw [List.append_assoc]
      refine List.Perm.append_left _ ?_
      show (left[i] :: left.eraseIdx i).Perm left
      exact erase_perm left i hi
  · rintro e ⟨left, found, o, rfl, hx, hp⟩
    have : left = [] := List.length_eq_zero_iff.mp hx.symm
    subst this
    simp -implicitDefEqProofs only [List.map_cons, List.map_nil, List.length_cons, List.length_nil, List.cons_append, List.nil_append, List.append_nil, List.replicate, Nat.reduceAdd, Nat.reduceSub, List.all_cons, List.all_nil, List.getElem?_cons_zero, List.getElem?_cons_succ, Option.bind_some, Option.bind_none, Option.map_some, Option.map_none, List.set_cons_zero, List.set_cons_succ, Bool.not_true, Bool.not_false, Bool.and_true, Bool.true_and, if_true, if_false, ↓reduceIte, and_self, and_true, true_and, and_false, false_and, Nat.zero_le, Nat.reduceLeDiff, Nat.reduceLT, Nat.reduceEqDiff, beq_self_eq_true, decide_true, decide_false, String.reduceEq, String.reduceBEq, List.lookup_nil, Option.isNone_none, Option.isNone_some, List.contains_cons, List.contains_nil, Bool.or_false, Bool.true_or, Bool.or_true, Bool.false_eq_true, reduceCtorEq, List.map_append, List.length_append, List.length_map, Int.reduceAdd, Int.reduceSub, Int.reduceLT, Int.reduceLE, Int.reduceEq, Nat.reduceBEq, eq_self, EXs, EXy]
    exact ⟨found, rfl, by simpa using hp⟩
theorem dr_shufL (n : Nat) {ds : List Dt} {P : Dt → Prop} (hl : ds.length < 50000) (h : ∀ rs : List Dt, rs.Perm ds → P (.lst rs)) : ((tab (n + 1)).lshuffled [.ptr 1, .lst ds]).Al P :=
  Tr.Al.mono (fun r hr => by obtain ⟨rs, rfl, hp⟩ := hr; exact h rs hp) (dr_lshuffled n _ ds (.inl rfl) hl)
end Mc
namespace Mc
open PySem L2
def goodW : List Str := ["more", "even", "is", "do", "know", "let", "w", "sure", "undo", "row"]
def goodZ : List Str := ["z", "zz", "zzz", "zzzz"]
def goods : List Str := goodW ++ goodZ ++ (List.range 26).flatMap fun c => [⟨#[97 + c]⟩, ⟨#[97 + c, 119]⟩, ⟨#[97 + c, 119, 113]⟩]
def strOf : Dt → Str
  | .str x => x
  | _ => ""
theorem perm_str {rs : List Dt} {l : List Str} (h : rs.Perm (l.map .str)) : ∃ xs : List Str, rs = xs.map .str ∧ xs.Perm l := by
  refine ⟨rs.map strOf, ?_, ?_⟩
  · rw [List.map_map]
    symm
    rw [List.map_eq_iff]
    intro i
    cases hi : rs[i]? with
    | none => rfl
    | some d =>
      have hm := h.mem_iff.mp (List.mem_of_getElem? hi)
      obtain ⟨x, _, rfl⟩ := List.mem_map.mp hm
      rfl
  · have := h.map strOf
    rw [List.map_map] at this
    rwa [show (strOf ∘ Dt.str) = id from rfl, List.map_id] at this
def NamesOk (m : Nat) (xs : List Str) : Prop := xs.Nodup ∧ xs.length = m ∧ ∀ x ∈ xs, x ∈ goods
def chkN (m : Nat) : Tr (List Dt) → Bool
  | .ret ys => match strsOf ys with
    | some xs => decide (xs.Nodup) && decide (xs.length = m) && xs.all fun x => goods.contains x
    | none => false
  | _ => false
theorem strsOf_map : ∀ {ys : List Dt} {xs : List Str}, strsOf ys = some xs → ys = xs.map .str
  | [], xs, h => by cases h; rfl
  | .str x :: ys, xs, h => by
    simp only [strsOf, Option.map_eq_some_iff] at h
    obtain ⟨zs, h1, rfl⟩ := h
    rw [List.map_cons, ← strsOf_map h1]
  | .non :: ys, xs, h => by cases h
  | .bl _ :: ys, xs, h => by cases h
  | .int _ :: ys, xs, h => by cases h
  | .ty _ :: ys, xs, h => by cases h
  | .ptr _ :: ys, xs, h => by cases h
  | .lst _ :: ys, xs, h => by cases h
  | .tup _ :: ys, xs, h => by cases h
  | .obj _ _ :: ys, xs, h => by cases h
  | .dct _ :: ys, xs, h => by cases h
  | .dcT _ :: ys, xs, h => by cases h
  | .slf _ _ _ :: ys, xs, h => by cases h
theorem chkN_ok {m : Nat} {t : Tr (List Dt)} (h : chkN m t = true) : ∃ xs, t = .ret (xs.map .str) ∧ NamesOk m xs := by
  cases t with
  | draw n k => cases h
  | stuck => cases h
  | ret ys =>
    unfold chkN at h
    simp only at h
    cases hs : strsOf ys with
    | none => rw [hs] at h; cases h
    | some xs =>
      rw [hs] at h
      simp only [Bool.and_eq_true, decide_eq_true_eq, List.all_eq_true] at h
      refine ⟨xs, by rw [← strsOf_map hs], h.1.1, h.1.2, fun x hx => ?_⟩
      have := h.2 x hx
      simpa using this
theorem cut_take (ds : List Dt) (m : Nat) : cutD ds none (some (m : Int)) = ds.take m := by
  unfold cutD HT.sIx
  simp only
  rw [if_neg (by omega)]
  simp only [List.drop_zero, Nat.sub_zero, Int.toNat_natCast]
  by_cases h : m ≤ ds.length
  · rw [Nat.min_eq_left h]
  · rw [Nat.min_eq_right (by omega), List.take_length, List.take_of_length_le (by omega)]
def lnE (m i j : Nat) (o : Option Sl) : En := [some (.d (.ptr 1)), some (.d (.int m)), some (.d (.lst (goodW.map .str))), some (.d (.int i)), some (.d (.int j)), o, none]
def lnZ (m j : Nat) : Tr (List Dt) := lcLoop (gN 6) yes (xSl (xC (.str "zzzz")) oNone (oSome (xB (un fAdd) (xCons (xVar 6) (xCons (xC (.int 1)) xNil))))) (lnE m 1 j none) (rangeD 0 m) []
theorem lnZ_ok : ∀ m, m < 5 → ∀ j, j < 26 → (match lnZ m j with | .ret ys => decide (strsOf ys = some (goodZ.take m)) | _ => false) = true := by decide +kernel
theorem nc0 : ((0 : Nat) : Int) = 0 := id rfl
theorem nc1 : ((1 : Nat) : Int) = 1 := id rfl
theorem nc2 : ((2 : Nat) : Int) = 2 := id rfl
theorem lnZ_ret (m j : Nat) (h : m < 5) (hj : j < 26) : lnZ m j = .ret ((goodZ.take m).map .str) := by
  have hz := lnZ_ok m h j hj
  cases hl : lnZ m j with
  | ret ys =>
    rw [hl] at hz
    simp only [decide_eq_true_eq] at hz
    rw [strsOf_map hz]
  | draw n k => rw [hl] at hz; cases hz
  | stuck => rw [hl] at hz; cases hz
def lnL (m j : Nat) : Tr (List Dt) := lcLoop (gN 6) yes (xB (un fAdd) (xCons (xB (un fIx) (xCons (xVar 5) (xCons (xB (un fMod) (xCons (xB (un fInt) (xCons (xB (un fAdd) (xCons (xVar 4) (xCons (xB (un fMul) (xCons (xC (.int 11)) (xCons (xVar 6) xNil))) xNil))) xNil)) (xCons (xC (.int 26)) xNil))) xNil))) (xCons (xSl (xC (.str "wq")) oNone (oSome (xB (un fMod) (xCons (xB (un fInt) (xCons (xVar 4) xNil)) (xCons (xC (.int 3)) xNil))))) xNil))) (lnE m 2 j (some (.d (.str "abcdefghijklmnopqrstuvwxyz")))) (rangeD 0 m) []
theorem lnL_ok : ∀ m, m < 5 → ∀ j, j < 26 → chkN m (lnL m j) = true := by decide +kernel
theorem dr_lnames (n m : Nat) {P : Dt → Prop} (h1 : 1 ≤ m) (h2 : m ≤ 4) (hP : ∀ xs : List Str, NamesOk m xs → P (.lst (xs.map .str))) : ((tab (n + 2)).lnames [.ptr 1, .int m]).Al P := by
  rw [t_lnames]
  unfold b_lnames
  simp -implicitDefEqProofs only [List.map_cons, List.map_nil, List.length_cons, List.length_nil, List.cons_append, List.nil_append, List.append_nil, List.replicate, Nat.reduceAdd, Nat.reduceSub, List.all_cons, List.all_nil, List.getElem?_cons_zero, List.getElem?_cons_succ, Option.bind_some, Option.bind_none, Option.map_some, Option.map_none, List.set_cons_zero, List.set_cons_succ, Bool.not_true, Bool.not_false, Bool.and_true, Bool.true_and, if_true, if_false, ↓reduceIte, and_self, and_true, true_and, and_false, false_and, Nat.zero_le, Nat.reduceLeDiff, Nat.reduceLT, Nat.reduceEqDiff, beq_self_eq_true, decide_true, decide_false, String.reduceEq, String.reduceBEq, List.lookup_nil, Option.isNone_none, Option.isNone_some, List.contains_cons, List.contains_nil, Bool.or_false, Bool.true_or, Bool.or_true, Bool.false_eq_true, reduceCtorEq, List.map_append, List.length_append, List.length_map, Int.reduceAdd, Int.reduceSub, Int.reduceLT, Int.reduceLE, Int.reduceEq, Nat.reduceBEq, eq_self, EXs, EXy]
  refine draw_alI (by omega) (by omega) fun i hi => ?_
  simp -implicitDefEqProofs only [List.map_cons, List.map_nil, List.length_cons, List.length_nil, List.cons_append, List.nil_append, List.append_nil, List.replicate, Nat.reduceAdd, Nat.reduceSub, List.all_cons, List.all_nil, List.getElem?_cons_zero, List.getElem?_cons_succ, Option.bind_some, Option.bind_none, Option.map_some, Option.map_none, List.set_cons_zero, List.set_cons_succ, Bool.not_true, Bool.not_false, Bool.and_true, Bool.true_and, if_true, if_false, ↓reduceIte, and_self, and_true, true_and, and_false, false_and, Nat.zero_le, Nat.reduceLeDiff, Nat.reduceLT, Nat.reduceEqDiff, beq_self_eq_true, decide_true, decide_false, String.reduceEq, String.reduceBEq, List.lookup_nil, Option.isNone_none, Option.isNone_some, List.contains_cons, List.contains_nil, Bool.or_false, Bool.true_or, Bool.or_true, Bool.false_eq_true, reduceCtorEq, List.map_append, List.length_append, List.length_map, Int.reduceAdd, Int.reduceSub, Int.reduceLT, Int.reduceLE, Int.reduceEq, Nat.reduceBEq, eq_self, EXs, EXy]
  refine draw_alI (by omega) (by omega) fun j hj => ?_
  simp -implicitDefEqProofs only [List.map_cons, List.map_nil, List.length_cons, List.length_nil, List.cons_append, List.nil_append, List.append_nil, List.replicate, Nat.reduceAdd, Nat.reduceSub, List.all_cons, List.all_nil, List.getElem?_cons_zero, List.getElem?_cons_succ, Option.bind_some, Option.bind_none, Option.map_some, Option.map_none, List.set_cons_zero, List.set_cons_succ, Bool.not_true, Bool.not_false, Bool.and_true, Bool.true_and, if_true, if_false, ↓reduceIte, and_self, and_true, true_and, and_false, false_and, Nat.zero_le, Nat.reduceLeDiff, Nat.reduceLT, Nat.reduceEqDiff, beq_self_eq_true, decide_true, decide_false, String.reduceEq, String.reduceBEq, List.lookup_nil, Option.isNone_none, Option.isNone_some, List.contains_cons, List.contains_nil, Bool.or_false, Bool.true_or, Bool.or_true, Bool.false_eq_true, reduceCtorEq, List.map_append, List.length_append, List.length_map, Int.reduceAdd, Int.reduceSub, Int.reduceLT, Int.reduceLE, Int.reduceEq, Nat.reduceBEq, eq_self, EXs, EXy]
  rcases (show i = 0 ∨ i = 1 ∨ i = 2 by omega) with rfl | rfl | rfl
  · simp -implicitDefEqProofs only [List.map_cons, List.map_nil, List.length_cons, List.length_nil, List.cons_append, List.nil_append, List.append_nil, List.replicate, Nat.reduceAdd, Nat.reduceSub, List.all_cons, List.all_nil, List.getElem?_cons_zero, List.getElem?_cons_succ, Option.bind_some, Option.bind_none, Option.map_some, Option.map_none, List.set_cons_zero, List.set_cons_succ, Bool.not_true, Bool.not_false, Bool.and_true, Bool.true_and, if_true, if_false, ↓reduceIte, and_self, and_true, true_and, and_false, false_and, Nat.zero_le, Nat.reduceLeDiff, Nat.reduceLT, Nat.reduceEqDiff, beq_self_eq_true, decide_true, decide_false, String.reduceEq, String.reduceBEq, List.lookup_nil, Option.isNone_none, Option.isNone_some, List.contains_cons, List.contains_nil, Bool.or_false, Bool.true_or, Bool.or_true, Bool.false_eq_true, reduceCtorEq, List.map_append, List.length_append, List.length_map, Int.reduceAdd, Int.reduceSub, Int.reduceLT, Int.reduceLE, Int.reduceEq, Nat.reduceBEq, eq_self, EXs, EXy, nc0]
    refine dr_shufL n (by simp) fun rs hp => ?_
    obtain ⟨xs, rfl, hx⟩ := perm_str (l := goodW) hp
    have hl : 10 = xs.length := hx.length_eq.symm
    have hc : cutD (xs.map Dt.str) none (some (m : Int)) = (xs.take m).map Dt.str := by
      rw [List.map_take]
      exact cut_take _ m
    simp -implicitDefEqProofs only [List.map_cons, List.map_nil, List.length_cons, List.length_nil, List.cons_append, List.nil_append, List.append_nil, List.replicate, Nat.reduceAdd, Nat.reduceSub, List.all_cons, List.all_nil, List.getElem?_cons_zero, List.getElem?_cons_succ, Option.bind_some, Option.bind_none, Option.map_some, Option.map_none, List.set_cons_zero, List.set_cons_succ, Bool.not_true, Bool.not_false, Bool.and_true, Bool.true_and, if_true, if_false, ↓reduceIte, and_self, and_true, true_and, and_false, false_and, Nat.zero_le, Nat.reduceLeDiff, Nat.reduceLT, Nat.reduceEqDiff, beq_self_eq_true, decide_true, decide_false, String.reduceEq, String.reduceBEq, List.lookup_nil, Option.isNone_none, Option.isNone_some, List.contains_cons, List.contains_nil, Bool.or_false, Bool.true_or, Bool.or_true, Bool.false_eq_true, reduceCtorEq, List.map_append, List.length_append, List.length_map, Int.reduceAdd, Int.reduceSub, Int.reduceLT, Int.reduceLE, Int.reduceEq, Nat.reduceBEq, eq_self, EXs, EXy, slD_l, hc]
    refine hP _ ⟨?_, ?_, ?_⟩
    · exact (List.take_sublist m xs).nodup (hx.nodup_iff.mpr (by decide +kernel))
    · rw [List.length_take]; omega
    · intro x hx1
      have := hx.mem_iff.mp (List.mem_of_mem_take hx1)
      unfold goods
      simp [this]
  · have hr := rng_n m (by omega)
    simp -implicitDefEqProofs only [List.map_cons, List.map_nil, List.length_cons, List.length_nil, List.cons_append, List.nil_append, List.append_nil, List.replicate, Nat.reduceAdd, Nat.reduceSub, List.all_cons, List.all_nil, List.getElem?_cons_zero, List.getElem?_cons_succ, Option.bind_some, Option.bind_none, Option.map_some, Option.map_none, List.set_cons_zero, List.set_cons_succ, Bool.not_true, Bool.not_false, Bool.and_true, Bool.true_and, if_true, if_false, ↓reduceIte, and_self, and_true, true_and, and_false, false_and, Nat.zero_le, Nat.reduceLeDiff, Nat.reduceLT, Nat.reduceEqDiff, beq_self_eq_true, decide_true, decide_false, String.reduceEq, String.reduceBEq, List.lookup_nil, Option.isNone_none, Option.isNone_some, List.contains_cons, List.contains_nil, Bool.or_false, Bool.true_or, Bool.or_true, Bool.false_eq_true, reduceCtorEq, List.map_append, List.length_append, List.length_map, Int.reduceAdd, Int.reduceSub, Int.reduceLT, Int.reduceLE, Int.reduceEq, Nat.reduceBEq, eq_self, EXs, EXy, hr, nc0, nc1, rangeD_len]
    rw [if_pos (by omega)]
    have hz := lnZ_ret m j (by omega) (by omega)
    unfold lnZ lnE goodW at hz
    simp -implicitDefEqProofs only [List.map_cons, List.map_nil, List.length_cons, List.length_nil, List.cons_append, List.nil_append, List.append_nil, List.replicate, Nat.reduceAdd, Nat.reduceSub, List.all_cons, List.all_nil, List.getElem?_cons_zero, List.getElem?_cons_succ, Option.bind_some, Option.bind_none, Option.map_some, Option.map_none, List.set_cons_zero, List.set_cons_succ, Bool.not_true, Bool.not_false, Bool.and_true, Bool.true_and, if_true, if_false, ↓reduceIte, and_self, and_true, true_and, and_false, false_and, Nat.zero_le, Nat.reduceLeDiff, Nat.reduceLT, Nat.reduceEqDiff, beq_self_eq_true, decide_true, decide_false, String.reduceEq, String.reduceBEq, List.lookup_nil, Option.isNone_none, Option.isNone_some, List.contains_cons, List.contains_nil, Bool.or_false, Bool.true_or, Bool.or_true, Bool.false_eq_true, reduceCtorEq, List.map_append, List.length_append, List.length_map, Int.reduceAdd, Int.reduceSub, Int.reduceLT, Int.reduceLE, Int.reduceEq, Nat.reduceBEq, eq_self, EXs, EXy, nc1] at hz
    simp -implicitDefEqProofs only [List.map_cons, List.map_nil, List.length_cons, List.length_nil, List.cons_append, List.nil_append, List.append_nil, List.replicate, Nat.reduceAdd, Nat.reduceSub, List.all_cons, List.all_nil, List.getElem?_cons_zero, List.getElem?_cons_succ, Option.bind_some, Option.bind_none, Option.map_some, Option.map_none, List.set_cons_zero, List.set_cons_succ, Bool.not_true, Bool.not_false, Bool.and_true, Bool.true_and, if_true, if_false, ↓reduceIte, and_self, and_true, true_and, and_false, false_and, Nat.zero_le, Nat.reduceLeDiff, Nat.reduceLT, Nat.reduceEqDiff, beq_self_eq_true, decide_true, decide_false, String.reduceEq, String.reduceBEq, List.lookup_nil, Option.isNone_none, Option.isNone_some, List.contains_cons, List.contains_nil, Bool.or_false, Bool.true_or, Bool.or_true, Bool.false_eq_true, reduceCtorEq, List.map_append, List.length_append, List.length_map, Int.reduceAdd, Int.reduceSub, Int.reduceLT, Int.reduceLE, Int.reduceEq, Nat.reduceBEq, eq_self, EXs, EXy, hz]
    refine dr_shufL n (by simp; omega) fun rs hp => ?_
    obtain ⟨xs, rfl, hx⟩ := perm_str hp
    simp -implicitDefEqProofs only [List.map_cons, List.map_nil, List.length_cons, List.length_nil, List.cons_append, List.nil_append, List.append_nil, List.replicate, Nat.reduceAdd, Nat.reduceSub, List.all_cons, List.all_nil, List.getElem?_cons_zero, List.getElem?_cons_succ, Option.bind_some, Option.bind_none, Option.map_some, Option.map_none, List.set_cons_zero, List.set_cons_succ, Bool.not_true, Bool.not_false, Bool.and_true, Bool.true_and, if_true, if_false, ↓reduceIte, and_self, and_true, true_and, and_false, false_and, Nat.zero_le, Nat.reduceLeDiff, Nat.reduceLT, Nat.reduceEqDiff, beq_self_eq_true, decide_true, decide_false, String.reduceEq, String.reduceBEq, List.lookup_nil, Option.isNone_none, Option.isNone_some, List.contains_cons, List.contains_nil, Bool.or_false, Bool.true_or, Bool.or_true, Bool.false_eq_true, reduceCtorEq, List.map_append, List.length_append, List.length_map, Int.reduceAdd, Int.reduceSub, Int.reduceLT, Int.reduceLE, Int.reduceEq, Nat.reduceBEq, eq_self, EXs, EXy]
    refine hP _ ⟨?_, ?_, ?_⟩
    · exact hx.nodup_iff.mpr ((List.take_sublist m goodZ).nodup (by decide +kernel))
    · rw [hx.length_eq, List.length_take]
      show min m 4 = m
      omega
    · intro x hx1
      have := List.mem_of_mem_take (hx.mem_iff.mp hx1)
      unfold goods
      simp [this]
  · have hr := rng_n m (by omega)
    simp -implicitDefEqProofs only [List.map_cons, List.map_nil, List.length_cons, List.length_nil, List.cons_append, List.nil_append, List.append_nil, List.replicate, Nat.reduceAdd, Nat.reduceSub, List.all_cons, List.all_nil, List.getElem?_cons_zero, List.getElem?_cons_succ, Option.bind_some, Option.bind_none, Option.map_some, Option.map_none, List.set_cons_zero, List.set_cons_succ, Bool.not_true, Bool.not_false, Bool.and_true, Bool.true_and, if_true, if_false, ↓reduceIte, and_self, and_true, true_and, and_false, false_and, Nat.zero_le, Nat.reduceLeDiff, Nat.reduceLT, Nat.reduceEqDiff, beq_self_eq_true, decide_true, decide_false, String.reduceEq, String.reduceBEq, List.lookup_nil, Option.isNone_none, Option.isNone_some, List.contains_cons, List.contains_nil, Bool.or_false, Bool.true_or, Bool.or_true, Bool.false_eq_true, reduceCtorEq, List.map_append, List.length_append, List.length_map, Int.reduceAdd, Int.reduceSub, Int.reduceLT, Int.reduceLE, Int.reduceEq, Nat.reduceBEq, eq_self, EXs, EXy, hr, nc0, nc1, nc2, rangeD_len]
    rw [if_pos (by omega)]
    obtain ⟨xs, hz, hx⟩ := chkN_ok (lnL_ok m (by omega) j (by omega))
    unfold lnL lnE goodW at hz
    simp -implicitDefEqProofs only [List.map_cons, List.map_nil, List.length_cons, List.length_nil, List.cons_append, List.nil_append, List.append_nil, List.replicate, Nat.reduceAdd, Nat.reduceSub, List.all_cons, List.all_nil, List.getElem?_cons_zero, List.getElem?_cons_succ, Option.bind_some, Option.bind_none, Option.map_some, Option.map_none, List.set_cons_zero, List.set_cons_succ, Bool.not_true, Bool.not_false, Bool.and_true, Bool.true_and, if_true, if_false, ↓reduceIte, and_self, and_true, true_and, and_false, false_and, Nat.zero_le, Nat.reduceLeDiff, Nat.reduceLT, Nat.reduceEqDiff, beq_self_eq_true, decide_true, decide_false, String.reduceEq, String.reduceBEq, List.lookup_nil, Option.isNone_none, Option.isNone_some, List.contains_cons, List.contains_nil, Bool.or_false, Bool.true_or, Bool.or_true, Bool.false_eq_true, reduceCtorEq, List.map_append, List.length_append, List.length_map, Int.reduceAdd, Int.reduceSub, Int.reduceLT, Int.reduceLE, Int.reduceEq, Nat.reduceBEq, eq_self, EXs, EXy, nc2] at hz
    simp -implicitDefEqProofs only [List.map_cons, List.map_nil, List.length_cons, List.length_nil, List.cons_append, List.nil_append, List.append_nil, List.replicate, Nat.reduceAdd, Nat.reduceSub, List.all_cons, List.all_nil, List.getElem?_cons_zero, List.getElem?_cons_succ, Option.bind_some, Option.bind_none, Option.map_some, Option.map_none, List.set_cons_zero, List.set_cons_succ, Bool.not_true, Bool.not_false, Bool.and_true, Bool.true_and, if_true, if_false, ↓reduceIte, and_self, and_true, true_and, and_false, false_and, Nat.zero_le, Nat.reduceLeDiff, Nat.reduceLT, Nat.reduceEqDiff, beq_self_eq_true, decide_true, decide_false, String.reduceEq, String.reduceBEq, List.lookup_nil, Option.isNone_none, Option.isNone_some, List.contains_cons, List.contains_nil, Bool.or_false, Bool.true_or, Bool.or_true, Bool.false_eq_true, reduceCtorEq, List.map_append, List.length_append, List.length_map, Int.reduceAdd, Int.reduceSub, Int.reduceLT, Int.reduceLE, Int.reduceEq, Nat.reduceBEq, eq_self, EXs, EXy, hz]
    exact hP xs hx
end Mc
namespace Mc
open PySem L2
def sumK (t : Str) : List (Str × Nat) → Nat
  | [] => 0
  | p :: T => (if p.1 = t then p.2 else 0) + sumK t T
def NF (T : List (Str × Nat)) : List (Str × Nat) := ((ascT (T.map (·.1))).filter fun t => decide (0 < sumK t T)).map fun t => (t, sumK t T)
theorem NF_mem {T : List (Str × Nat)} {p : Str × Nat} (h : p ∈ NF T) : p.1 ∈ T.map (·.1) ∧ p.2 = sumK p.1 T ∧ 0 < p.2 := by
  unfold NF at h
  obtain ⟨t, ht, rfl⟩ := List.mem_map.mp h
  rw [List.mem_filter, mem_ascT, decide_eq_true_iff] at ht
  exact ⟨ht.1, rfl, ht.2⟩
theorem NF_len (T : List (Str × Nat)) : (NF T).length ≤ T.length := by
  unfold NF
  rw [List.length_map]
  refine Nat.le_trans (List.length_filter_le _ _) (Nat.le_trans (ascT_len _) ?_)
  rw [List.length_map]
  exact Nat.le_refl _
end Mc
namespace Mc
open PySem L2
structure Ec (d : Dt) (k : Nat) : Prop where
  plain : plainD d = true
  can : (pyD d).canLay0 = true
  dep : (pyD d).depth ≤ k
theorem Ec.mono {d : Dt} {k k' : Nat} (h : Ec d k) (l : k ≤ k') : Ec d k' := ⟨h.plain, h.can, Nat.le_trans h.dep l⟩
theorem Ec.ok {d : Dt} {k : Nat} (h : Ec d k) (hk : k ≤ 64) : eqOk d = true := by
  unfold eqOk SeqAt.shaped
  rw [h.plain, h.can, decide_eq_true (Nat.le_trans h.dep hk)]
  rfl
end Mc
namespace Mc
open PySem L2
def numS (k : Nat) : Str := Str.ofString (toString (k : Int))
theorem tl_numS (k : Nat) : TL.tl (numS k) = TL.numL k := TL.tl_num k
theorem asc_nd (l : List Str) : (ascT l).Nodup := ris_nodup ris_ascT
theorem strsOf_str : ∀ xs : List Str, strsOf (xs.map .str) = some xs
  | [] => rfl
  | x :: xs => by rw [List.map_cons, strsOf, strsOf_str xs]; rfl
theorem intsOf_map (xs : List Int) : intsOf (xs.map .int) = some xs := by
  induction xs with
  | nil => rfl
  | cons x xs ih => rw [List.map_cons, intsOf, ih]; rfl
theorem fSum_map (xs : List Int) : fSum [.lst (xs.map .int)] = some (.int xs.sum) := by
  unfold fSum
  simp only
  rw [intsOf_map]
  rfl
theorem scLoop_strs {g : XG} {a : XE} {e : En} : ∀ {xs acc : List Str}, (∀ x ∈ xs, ∃ e1, g (.str x) e = some e1 ∧ a e1 = .ret (.d (.str x), e1)) → scLoop g a e (xs.map .str) acc = .ret (acc ++ xs)
  | [], acc, _ => by simp [scLoop]
  | x :: xs, acc, h => by
    obtain ⟨e1, h1, h2⟩ := h x List.mem_cons_self
    rw [List.map_cons]
    unfold scLoop
    have ih := scLoop_strs (g := g) (a := a) (e := e) (xs := xs) (acc := acc ++ [x]) fun y hy => h y (List.mem_cons_of_mem _ hy)
    rw [h1]
    simp only [Tr.of_some, Tr.ret_bind, h2, strV]
    rw [ih, List.append_assoc]
    rfl
theorem lc_mp {α : Type} {g : XG} {t : XT} {a : XE} {e : En} {u v : α → Dt} : ∀ {xs : List α} {acc : List Dt}, (∀ x ∈ xs, ∃ e1, g (u x) e = some e1 ∧ t e1 = .ret (true, e1) ∧ a e1 = .ret (.d (v x), e1)) → lcLoop g t a e (xs.map u) acc = .ret (acc ++ xs.map v)
  | [], acc, _ => by simp [lcLoop]
  | x :: xs, acc, h => by
    obtain ⟨e1, h1, h2, h3⟩ := h x List.mem_cons_self
    have ih := lc_mp (g := g) (t := t) (a := a) (e := e) (u := u) (v := v) (xs := xs) (acc := acc ++ [v x]) fun y hy => h y (List.mem_cons_of_mem _ hy)
    simp [lcLoop, h1, h2, h3, dat, ih]
theorem lc_fl {α : Type} {g : XG} {t : XT} {a : XE} {e : En} {p : α → Bool} {u v : α → Dt} : ∀ {xs : List α} {acc : List Dt}, (∀ x ∈ xs, ∃ e1, g (u x) e = some e1 ∧ t e1 = .ret (p x, e1) ∧ (p x = true → a e1 = .ret (.d (v x), e1))) → lcLoop g t a e (xs.map u) acc = .ret (acc ++ (xs.filter p).map v)
  | [], acc, _ => by simp [lcLoop]
  | x :: xs, acc, h => by
    obtain ⟨e1, h1, h2, h3⟩ := h x List.mem_cons_self
    cases hp : p x with
    | false =>
      have ih := lc_fl (g := g) (t := t) (a := a) (e := e) (p := p) (u := u) (v := v) (xs := xs) (acc := acc) fun y hy => h y (List.mem_cons_of_mem _ hy)
      simp [lcLoop, h1, h2, hp, ih]
    | true =>
      have ih := lc_fl (g := g) (t := t) (a := a) (e := e) (p := p) (u := u) (v := v) (xs := xs) (acc := acc ++ [v x]) fun y hy => h y (List.mem_cons_of_mem _ hy)
      simp [lcLoop, h1, h2, hp, h3 hp, dat, ih]
theorem for_ret {g : XG} {b : XS} (I : List Dt → En → Prop) : ∀ {xs : List Dt} {e : En}, I xs e → (∀ x r e, I (x :: r) e → ∃ e1 e2, g x e = some e1 ∧ b e1 = .ret (.nx e2) ∧ I r e2) → ∃ e2, forLoop g b xs e = .ret (.nx e2) ∧ I [] e2
  | [], e, h, _ => ⟨e, rfl, h⟩
  | x :: xs, e, h, hs => by
    obtain ⟨e1, e2, h1, h2, h3⟩ := hs x xs e h
    obtain ⟨e3, h4, h5⟩ := for_ret I h3 hs
    refine ⟨e3, ?_, h5⟩
    unfold forLoop
    simp only [h1, Tr.of_some, Tr.ret_bind, h2]
    exact h4
theorem all_map {α : Type} (f : α → Bool) (l : List α) : fAll [.lst (l.map fun x => Dt.bl (f x))] = some (.bl (l.all f)) := by
  have : blsOf (l.map fun x => Dt.bl (f x)) = some (l.map f) := by
    induction l with
    | nil => rfl
    | cons x l ih => rw [List.map_cons, blsOf, ih]; rfl
  unfold fAll
  simp only
  rw [this, Option.map_some, List.all_map]
  rfl
def letL : List Nat := (List.range 26).map (97 + ·)
def barL : List Str := ["all", "none", "at", "if", "else", "end", "say", "stop"]
theorem let_tl : TL.tl ("abcdefghijklmnopqrstuvwxyz" : Str) = letL := by decide +kernel
theorem fIn_c (c : Nat) (z : Str) : fIn [.str ⟨#[c]⟩, .str z] = some (.bl (decide (c ∈ TL.tl z))) := rfl
theorem fLen_s {x : Str} (h : x.length ≤ 100000) : fLen [.str x] = some (.int (x.length : Nat)) := by
  unfold fLen
  simp only
  rw [if_pos h]
theorem isi_str (ks : List Addr) (x : Str) : fIsi ks [.str x, .ty "str"] = some (.bl true) := rfl
def nameB (x : Str) : Bool := decide (1 ≤ x.length ∧ x.length ≤ 4) && !decide (x ∈ barL) && (TL.tl x).all fun c => decide (c ∈ letL)
theorem v_nameB (n : Nat) (x : Str) (h : x.length ≤ 50000) : (tab (n + 1)).is_name [.str x] = .ret (.bl (nameB x)) := by
  have hl := fLen_s (x := x) (by omega)
  have hb : fIn [.str x, c_BARRED] = some (.bl (decide (x ∈ barL))) := fIn_t x barL
  have hi : iSeqD [.d (.str x)] = some ((TL.tl x).map fun c => .str ⟨#[c]⟩) := rfl
  have h5 : (TL.tl x).length ≤ 50000 := by rw [← TL.len_tl]; exact h
  have h0 := isi_str ks_all x
  rw [t_is_name]
  unfold b_is_name nameB
  by_cases c1 : 1 ≤ x.length
  · have d1 : decide ((1 : Int) ≤ (x.length : Nat)) = true := by simp; omega
    by_cases c2 : x.length ≤ 4
    · have d2 : decide (((x.length : Nat) : Int) ≤ 4) = true := by simp; omega
      by_cases c3 : x ∈ barL
      · rw [decide_eq_true c3] at hb
        rw [decide_eq_true c3]
        simp -implicitDefEqProofs only [List.map_cons, List.map_nil, List.length_cons, List.length_nil, List.cons_append, List.nil_append, List.append_nil, List.replicate, Nat.reduceAdd, Nat.reduceSub, List.all_cons, List.all_nil, List.getElem?_cons_zero, List.getElem?_cons_succ, Option.bind_some, Option.bind_none, Option.map_some, Option.map_none, List.set_cons_zero, List.set_cons_succ, Bool.not_true, Bool.not_false, Bool.and_true, Bool.true_and, if_true, if_false, ↓reduceIte, and_self, and_true, true_and, and_false, false_and, Nat.zero_le, Nat.reduceLeDiff, Nat.reduceLT, Nat.reduceEqDiff, beq_self_eq_true, decide_true, decide_false, String.reduceEq, String.reduceBEq, List.lookup_nil, Option.isNone_none, Option.isNone_some, List.contains_cons, List.contains_nil, Bool.or_false, Bool.true_or, Bool.or_true, Bool.false_eq_true, reduceCtorEq, List.map_append, List.length_append, List.length_map, Int.reduceAdd, Int.reduceSub, Int.reduceLT, Int.reduceLE, Int.reduceEq, Nat.reduceBEq, eq_self, EXs, EXy, h0, hl, d1, d2, hb, c1, c2]
        simp
      · rw [decide_eq_false c3] at hb
        simp -implicitDefEqProofs only [List.map_cons, List.map_nil, List.length_cons, List.length_nil, List.cons_append, List.nil_append, List.append_nil, List.replicate, Nat.reduceAdd, Nat.reduceSub, List.all_cons, List.all_nil, List.getElem?_cons_zero, List.getElem?_cons_succ, Option.bind_some, Option.bind_none, Option.map_some, Option.map_none, List.set_cons_zero, List.set_cons_succ, Bool.not_true, Bool.not_false, Bool.and_true, Bool.true_and, if_true, if_false, ↓reduceIte, and_self, and_true, true_and, and_false, false_and, Nat.zero_le, Nat.reduceLeDiff, Nat.reduceLT, Nat.reduceEqDiff, beq_self_eq_true, decide_true, decide_false, String.reduceEq, String.reduceBEq, List.lookup_nil, Option.isNone_none, Option.isNone_some, List.contains_cons, List.contains_nil, Bool.or_false, Bool.true_or, Bool.or_true, Bool.false_eq_true, reduceCtorEq, List.map_append, List.length_append, List.length_map, Int.reduceAdd, Int.reduceSub, Int.reduceLT, Int.reduceLE, Int.reduceEq, Nat.reduceBEq, eq_self, EXs, EXy, h0, hl, d1, d2, hb, hi, h5]
        rw [lc_mp (v := fun c => .bl (decide (c ∈ letL)))]
        rotate_left
        · intro c hc
          refine ⟨_, rfl, rfl, ?_⟩
          have := fIn_c c "abcdefghijklmnopqrstuvwxyz"
          rw [let_tl] at this
          simp -implicitDefEqProofs only [List.map_cons, List.map_nil, List.length_cons, List.length_nil, List.cons_append, List.nil_append, List.append_nil, List.replicate, Nat.reduceAdd, Nat.reduceSub, List.all_cons, List.all_nil, List.getElem?_cons_zero, List.getElem?_cons_succ, Option.bind_some, Option.bind_none, Option.map_some, Option.map_none, List.set_cons_zero, List.set_cons_succ, Bool.not_true, Bool.not_false, Bool.and_true, Bool.true_and, if_true, if_false, ↓reduceIte, and_self, and_true, true_and, and_false, false_and, Nat.zero_le, Nat.reduceLeDiff, Nat.reduceLT, Nat.reduceEqDiff, beq_self_eq_true, decide_true, decide_false, String.reduceEq, String.reduceBEq, List.lookup_nil, Option.isNone_none, Option.isNone_some, List.contains_cons, List.contains_nil, Bool.or_false, Bool.true_or, Bool.or_true, Bool.false_eq_true, reduceCtorEq, List.map_append, List.length_append, List.length_map, Int.reduceAdd, Int.reduceSub, Int.reduceLT, Int.reduceLE, Int.reduceEq, Nat.reduceBEq, eq_self, EXs, EXy, this]
        have := all_map (fun c => decide (c ∈ letL)) (TL.tl x)
        simp -implicitDefEqProofs only [List.map_cons, List.map_nil, List.length_cons, List.length_nil, List.cons_append, List.nil_append, List.append_nil, List.replicate, Nat.reduceAdd, Nat.reduceSub, List.all_cons, List.all_nil, List.getElem?_cons_zero, List.getElem?_cons_succ, Option.bind_some, Option.bind_none, Option.map_some, Option.map_none, List.set_cons_zero, List.set_cons_succ, Bool.not_true, Bool.not_false, Bool.and_true, Bool.true_and, if_true, if_false, ↓reduceIte, and_self, and_true, true_and, and_false, false_and, Nat.zero_le, Nat.reduceLeDiff, Nat.reduceLT, Nat.reduceEqDiff, beq_self_eq_true, decide_true, decide_false, String.reduceEq, String.reduceBEq, List.lookup_nil, Option.isNone_none, Option.isNone_some, List.contains_cons, List.contains_nil, Bool.or_false, Bool.true_or, Bool.or_true, Bool.false_eq_true, reduceCtorEq, List.map_append, List.length_append, List.length_map, Int.reduceAdd, Int.reduceSub, Int.reduceLT, Int.reduceLE, Int.reduceEq, Nat.reduceBEq, eq_self, EXs, EXy, this]
        simp [c1, c2, c3]
    · have d2 : decide (((x.length : Nat) : Int) ≤ 4) = false := by simp; omega
      simp -implicitDefEqProofs only [List.map_cons, List.map_nil, List.length_cons, List.length_nil, List.cons_append, List.nil_append, List.append_nil, List.replicate, Nat.reduceAdd, Nat.reduceSub, List.all_cons, List.all_nil, List.getElem?_cons_zero, List.getElem?_cons_succ, Option.bind_some, Option.bind_none, Option.map_some, Option.map_none, List.set_cons_zero, List.set_cons_succ, Bool.not_true, Bool.not_false, Bool.and_true, Bool.true_and, if_true, if_false, ↓reduceIte, and_self, and_true, true_and, and_false, false_and, Nat.zero_le, Nat.reduceLeDiff, Nat.reduceLT, Nat.reduceEqDiff, beq_self_eq_true, decide_true, decide_false, String.reduceEq, String.reduceBEq, List.lookup_nil, Option.isNone_none, Option.isNone_some, List.contains_cons, List.contains_nil, Bool.or_false, Bool.true_or, Bool.or_true, Bool.false_eq_true, reduceCtorEq, List.map_append, List.length_append, List.length_map, Int.reduceAdd, Int.reduceSub, Int.reduceLT, Int.reduceLE, Int.reduceEq, Nat.reduceBEq, eq_self, EXs, EXy, h0, hl, d1, d2]
      simp [c2]
  · have d1 : decide ((1 : Int) ≤ (x.length : Nat)) = false := by simp; omega
    simp -implicitDefEqProofs only [List.map_cons, List.map_nil, List.length_cons, List.length_nil, List.cons_append, List.nil_append, List.append_nil, List.replicate, Nat.reduceAdd, Nat.reduceSub, List.all_cons, List.all_nil, List.getElem?_cons_zero, List.getElem?_cons_succ, Option.bind_some, Option.bind_none, Option.map_some, Option.map_none, List.set_cons_zero, List.set_cons_succ, Bool.not_true, Bool.not_false, Bool.and_true, Bool.true_and, if_true, if_false, ↓reduceIte, and_self, and_true, true_and, and_false, false_and, Nat.zero_le, Nat.reduceLeDiff, Nat.reduceLT, Nat.reduceEqDiff, beq_self_eq_true, decide_true, decide_false, String.reduceEq, String.reduceBEq, List.lookup_nil, Option.isNone_none, Option.isNone_some, List.contains_cons, List.contains_nil, Bool.or_false, Bool.true_or, Bool.or_true, Bool.false_eq_true, reduceCtorEq, List.map_append, List.length_append, List.length_map, Int.reduceAdd, Int.reduceSub, Int.reduceLT, Int.reduceLE, Int.reduceEq, Nat.reduceBEq, eq_self, EXs, EXy, h0, hl, d1]
    simp [c1]
end Mc
namespace Mc
open PySem L2
theorem v_is_seqL (n : Nat) (ds : List Dt) : (tab (n + 1)).is_sequence [.lst ds] = .ret (.bl true) := by
  rw [t_is_sequence]
  unfold b_is_sequence
  rfl
theorem v_is_seqT (n : Nat) (ds : List Dt) : (tab (n + 1)).is_sequence [.tup ds] = .ret (.bl true) := by
  rw [t_is_sequence]
  unfold b_is_sequence
  rfl
theorem v_is_integer (n : Nat) (k : Int) : (tab (n + 1)).is_integer [.int k] = .ret (.bl true) := by
  rw [t_is_integer]
  rfl
theorem v_ascD (n : Nat) (D : Dt) (xs : List Str) (hD : D = .lst (xs.map .str) ∨ D = .tup (xs.map .str)) (h : xs.length ≤ 4000) : (tab (n + 1)).ascending [D] = .ret (.tup ((ascT xs).map .str)) := by
  have hi : iSeqD [.d D] = some (xs.map .str) := by rcases hD with rfl | rfl <;> rfl
  rw [t_ascending]
  unfold b_ascending
  have hs : scLoop (gN 1) (xO (ifO (isK 3) (dStr 3 (tab n).Crowd___str__) (toB fStr)) (xCons (xVar 1) xNil)) [some (.d D), none] (xs.map .str) [] = .ret ([] ++ xs) := scLoop_strs fun x hx => by
    refine ⟨_, rfl, ?_⟩
    simp -implicitDefEqProofs only [List.map_cons, List.map_nil, List.length_cons, List.length_nil, List.cons_append, List.nil_append, List.append_nil, List.replicate, Nat.reduceAdd, Nat.reduceSub, List.all_cons, List.all_nil, List.getElem?_cons_zero, List.getElem?_cons_succ, Option.bind_some, Option.bind_none, Option.map_some, Option.map_none, List.set_cons_zero, List.set_cons_succ, Bool.not_true, Bool.not_false, Bool.and_true, Bool.true_and, if_true, if_false, ↓reduceIte, and_self, and_true, true_and, and_false, false_and, Nat.zero_le, Nat.reduceLeDiff, Nat.reduceLT, Nat.reduceEqDiff, beq_self_eq_true, decide_true, decide_false, String.reduceEq, String.reduceBEq, List.lookup_nil, Option.isNone_none, Option.isNone_some, List.contains_cons, List.contains_nil, Bool.or_false, Bool.true_or, Bool.or_true, Bool.false_eq_true, reduceCtorEq, List.map_append, List.length_append, List.length_map, Int.reduceAdd, Int.reduceSub, Int.reduceLT, Int.reduceLE, Int.reduceEq, Nat.reduceBEq, eq_self, EXs, EXy]
  simp -implicitDefEqProofs only [List.map_cons, List.map_nil, List.length_cons, List.length_nil, List.cons_append, List.nil_append, List.append_nil, List.replicate, Nat.reduceAdd, Nat.reduceSub, List.all_cons, List.all_nil, List.getElem?_cons_zero, List.getElem?_cons_succ, Option.bind_some, Option.bind_none, Option.map_some, Option.map_none, List.set_cons_zero, List.set_cons_succ, Bool.not_true, Bool.not_false, Bool.and_true, Bool.true_and, if_true, if_false, ↓reduceIte, and_self, and_true, true_and, and_false, false_and, Nat.zero_le, Nat.reduceLeDiff, Nat.reduceLT, Nat.reduceEqDiff, beq_self_eq_true, decide_true, decide_false, String.reduceEq, String.reduceBEq, List.lookup_nil, Option.isNone_none, Option.isNone_some, List.contains_cons, List.contains_nil, Bool.or_false, Bool.true_or, Bool.or_true, Bool.false_eq_true, reduceCtorEq, List.map_append, List.length_append, List.length_map, Int.reduceAdd, Int.reduceSub, Int.reduceLT, Int.reduceLE, Int.reduceEq, Nat.reduceBEq, eq_self, EXs, EXy, hi, hs, h]
def kindB (r : List Str) : Bool := r.all nameB && decide ((ascT r).length = r.length)
theorem v_kindB (n : Nat) (D : Dt) (r : List Str) (hD : D = .lst (r.map .str) ∨ D = .tup (r.map .str)) (hl : r.length ≤ 4000) (hr : ∀ x ∈ r, x.length ≤ 50000) : (tab (n + 2)).is_kind [D] = .ret (.bl (kindB r)) := by
  have hi : iSeqD [.d D] = some (r.map .str) := by rcases hD with rfl | rfl <;> rfl
  have hs : (tab (n + 1)).is_sequence [D] = .ret (.bl true) := by
    rcases hD with rfl | rfl
    · exact v_is_seqL _ _
    · exact v_is_seqT _ _
  have hn : fLen [D] = some (.int r.length) := by
    rcases hD with rfl | rfl
    · rw [fLen_l, List.length_map]
    · rw [fLen_t, List.length_map]
  have h5 : r.length ≤ 50000 := by omega
  have ha := v_ascD n D r hD hl
  rw [t_is_kind]
  unfold b_is_kind kindB
  simp -implicitDefEqProofs only [List.map_cons, List.map_nil, List.length_cons, List.length_nil, List.cons_append, List.nil_append, List.append_nil, List.replicate, Nat.reduceAdd, Nat.reduceSub, List.all_cons, List.all_nil, List.getElem?_cons_zero, List.getElem?_cons_succ, Option.bind_some, Option.bind_none, Option.map_some, Option.map_none, List.set_cons_zero, List.set_cons_succ, Bool.not_true, Bool.not_false, Bool.and_true, Bool.true_and, if_true, if_false, ↓reduceIte, and_self, and_true, true_and, and_false, false_and, Nat.zero_le, Nat.reduceLeDiff, Nat.reduceLT, Nat.reduceEqDiff, beq_self_eq_true, decide_true, decide_false, String.reduceEq, String.reduceBEq, List.lookup_nil, Option.isNone_none, Option.isNone_some, List.contains_cons, List.contains_nil, Bool.or_false, Bool.true_or, Bool.or_true, Bool.false_eq_true, reduceCtorEq, List.map_append, List.length_append, List.length_map, Int.reduceAdd, Int.reduceSub, Int.reduceLT, Int.reduceLE, Int.reduceEq, Nat.reduceBEq, eq_self, EXs, EXy, hs, hi, h5]
  rw [lc_mp (v := fun x => .bl (nameB x))]
  rotate_left
  · intro x hx
    refine ⟨_, rfl, rfl, ?_⟩
    have := v_nameB n x (hr x hx)
    simp -implicitDefEqProofs only [List.map_cons, List.map_nil, List.length_cons, List.length_nil, List.cons_append, List.nil_append, List.append_nil, List.replicate, Nat.reduceAdd, Nat.reduceSub, List.all_cons, List.all_nil, List.getElem?_cons_zero, List.getElem?_cons_succ, Option.bind_some, Option.bind_none, Option.map_some, Option.map_none, List.set_cons_zero, List.set_cons_succ, Bool.not_true, Bool.not_false, Bool.and_true, Bool.true_and, if_true, if_false, ↓reduceIte, and_self, and_true, true_and, and_false, false_and, Nat.zero_le, Nat.reduceLeDiff, Nat.reduceLT, Nat.reduceEqDiff, beq_self_eq_true, decide_true, decide_false, String.reduceEq, String.reduceBEq, List.lookup_nil, Option.isNone_none, Option.isNone_some, List.contains_cons, List.contains_nil, Bool.or_false, Bool.true_or, Bool.or_true, Bool.false_eq_true, reduceCtorEq, List.map_append, List.length_append, List.length_map, Int.reduceAdd, Int.reduceSub, Int.reduceLT, Int.reduceLE, Int.reduceEq, Nat.reduceBEq, eq_self, EXs, EXy, this]
  have hall := all_map nameB r
  cases hb : r.all nameB with
  | false =>
    rw [hb] at hall
    simp -implicitDefEqProofs only [List.map_cons, List.map_nil, List.length_cons, List.length_nil, List.cons_append, List.nil_append, List.append_nil, List.replicate, Nat.reduceAdd, Nat.reduceSub, List.all_cons, List.all_nil, List.getElem?_cons_zero, List.getElem?_cons_succ, Option.bind_some, Option.bind_none, Option.map_some, Option.map_none, List.set_cons_zero, List.set_cons_succ, Bool.not_true, Bool.not_false, Bool.and_true, Bool.true_and, if_true, if_false, ↓reduceIte, and_self, and_true, true_and, and_false, false_and, Nat.zero_le, Nat.reduceLeDiff, Nat.reduceLT, Nat.reduceEqDiff, beq_self_eq_true, decide_true, decide_false, String.reduceEq, String.reduceBEq, List.lookup_nil, Option.isNone_none, Option.isNone_some, List.contains_cons, List.contains_nil, Bool.or_false, Bool.true_or, Bool.or_true, Bool.false_eq_true, reduceCtorEq, List.map_append, List.length_append, List.length_map, Int.reduceAdd, Int.reduceSub, Int.reduceLT, Int.reduceLE, Int.reduceEq, Nat.reduceBEq, eq_self, EXs, EXy, hall, Bool.false_and]
  | true =>
    rw [hb] at hall
    have hq : decide (((ascT r).length : Int) = (r.length : Nat)) = decide ((ascT r).length = r.length) := decide_eq_decide.mpr (by omega)
    simp -implicitDefEqProofs only [List.map_cons, List.map_nil, List.length_cons, List.length_nil, List.cons_append, List.nil_append, List.append_nil, List.replicate, Nat.reduceAdd, Nat.reduceSub, List.all_cons, List.all_nil, List.getElem?_cons_zero, List.getElem?_cons_succ, Option.bind_some, Option.bind_none, Option.map_some, Option.map_none, List.set_cons_zero, List.set_cons_succ, Bool.not_true, Bool.not_false, Bool.and_true, Bool.true_and, if_true, if_false, ↓reduceIte, and_self, and_true, true_and, and_false, false_and, Nat.zero_le, Nat.reduceLeDiff, Nat.reduceLT, Nat.reduceEqDiff, beq_self_eq_true, decide_true, decide_false, String.reduceEq, String.reduceBEq, List.lookup_nil, Option.isNone_none, Option.isNone_some, List.contains_cons, List.contains_nil, Bool.or_false, Bool.true_or, Bool.or_true, Bool.false_eq_true, reduceCtorEq, List.map_append, List.length_append, List.length_map, Int.reduceAdd, Int.reduceSub, Int.reduceLT, Int.reduceLE, Int.reduceEq, Nat.reduceBEq, eq_self, EXs, EXy, hall, ha, hn, hq]
theorem fSplit_b {a b : Str} (hb : (b.length == 0) = false) (h : a.length ≤ 90000) : fSplit [.str a, .str b] = some (.lst ((Txt.split a b).map .str)) := by
  unfold fSplit
  simp only
  rw [if_pos ⟨hb, h⟩]
def mu (ws : List Str) : Nat := (ws.map (·.length)).sum + ws.length
end Mc
namespace Mc
open PySem L2
theorem nm_all {x : Str} (h : nameB x = true) : 1 ≤ x.length ∧ x.length ≤ 4 ∧ ∀ c ∈ TL.tl x, c ∈ letL := by
  unfold nameB at h
  simp only [Bool.and_eq_true, decide_eq_true_eq, List.all_eq_true] at h
  exact ⟨h.1.1.1, h.1.1.2, h.2⟩
theorem nm_free {x : Str} (h : nameB x = true) : 32 ∉ TL.tl x ∧ 44 ∉ TL.tl x ∧ x ≠ "" ∧ x.length ≤ 4 ∧ 1 ≤ x.length := by
  obtain ⟨h1, h2, h3⟩ := nm_all h
  refine ⟨fun z => absurd (h3 _ z) (by decide), fun z => absurd (h3 _ z) (by decide), fun z => ?_, h2, h1⟩
  rw [z] at h1
  exact absurd h1 (by decide +kernel)
theorem good_nm : ∀ x ∈ goods, nameB x = true := by decide +kernel
structure Kd (ks : List Str) : Prop where
  nd : ks.Nodup
  gd : ∀ x ∈ ks, nameB x = true
  len : ks.length ≤ 3000
theorem asc_perm {l : List Str} (h : l.Nodup) : (ascT l).Perm l := (List.perm_ext_iff_of_nodup (asc_nd l) h).mpr fun y => mem_ascT
theorem asc_lenN {l : List Str} (h : l.Nodup) : (ascT l).length = l.length := (asc_perm h).length_eq
theorem Kd.asc {ks : List Str} (h : Kd ks) : Kd (ascT ks) := ⟨asc_nd _, fun x hx => h.gd x (mem_ascT.mp hx), by rw [asc_lenN h.nd]; exact h.len⟩
def tx (ks : List Str) : Str := Txt.join " " (ascT ks)
def wd (t : Str) : List Str := if t = "" then [] else Txt.split t " "
theorem tl_sp : TL.tl (" " : Str) = 32 :: [] := by decide +kernel
theorem sp_k : (" " : Str).cps.all (· < 256) = true := by decide +kernel
theorem join_nil (y : Str) : Txt.join y [] = "" := by
  refine TL.ext_tl ?_
  rw [TL.join_eq, TL.tl_join]
  rfl
theorem join_ne {y : Str} {w : Str} {ws : List Str} (h : w ≠ "") : Txt.join y (w :: ws) ≠ "" := fun z => by
  have := congrArg TL.tl z
  rw [TL.join_eq, TL.tl_join] at this
  have hw : TL.tl w ≠ [] := fun q => h (TL.ext_tl (by rw [q]; rfl))
  cases ws with
  | nil => exact hw this
  | cons v ws =>
    have h2 : TL.tl w ++ (TL.tl y ++ TL.joinL (TL.tl y) ((v :: ws).map TL.tl)) = [] := this
    exact hw (List.append_eq_nil_iff.mp h2).1
theorem sp_split {ws : List Str} (h : ws ≠ []) (hw : ∀ w ∈ ws, 32 ∉ TL.tl w) : Txt.split (Txt.join " " ws) " " = ws := TL.split_join tl_sp sp_k h hw
theorem wd_tx {ks : List Str} (h : Kd ks) : wd (tx ks) = ascT ks := by
  unfold wd tx
  cases hk : ascT ks with
  | nil => rw [join_nil, if_pos rfl]
  | cons w ws =>
    have hm : ∀ x ∈ w :: ws, nameB x = true := fun x hx => h.gd x (mem_ascT.mp (hk ▸ hx))
    rw [if_neg (join_ne (nm_free (hm w List.mem_cons_self)).2.2.1), sp_split (by simp) fun x hx => (nm_free (hm x hx)).1]
theorem joinL_len (S : List Nat) : ∀ ps : List (List Nat), (TL.joinL S ps).length ≤ (ps.map List.length).sum + ps.length * S.length
  | [] => by simp [TL.joinL]
  | [p] => by simp [TL.joinL]
  | p :: q :: r => by
    have := joinL_len S (q :: r)
    show (p ++ (S ++ TL.joinL S (q :: r))).length ≤ _
    rw [List.length_append, List.length_append]
    simp only [List.map_cons, List.sum_cons, List.length_cons] at this ⊢
    rw [Nat.add_mul, Nat.one_mul]
    omega
theorem sum_le_b {B : Nat} : ∀ (ws : List Str), (∀ w ∈ ws, w.length ≤ B) → (ws.map (·.length)).sum ≤ ws.length * B
  | [], _ => by simp
  | w :: ws, h => by
    have := sum_le_b ws fun x hx => h x (List.mem_cons_of_mem _ hx)
    have h1 := h w List.mem_cons_self
    rw [List.map_cons, List.sum_cons, List.length_cons, Nat.add_mul, Nat.one_mul]
    omega
theorem join_len {y : Str} {ws : List Str} {B : Nat} (h : ∀ w ∈ ws, w.length ≤ B) : (Txt.join y ws).length ≤ ws.length * (B + y.length) := by
  rw [TL.len_tl, TL.join_eq, TL.tl_join]
  have h1 := joinL_len (TL.tl y) (ws.map TL.tl)
  have h2 : ((ws.map TL.tl).map List.length) = ws.map (·.length) := by
    rw [List.map_map]
    exact List.map_congr_left fun w _ => (TL.len_tl w).symm
  rw [h2, List.length_map, ← TL.len_tl y] at h1
  have h3 := sum_le_b ws h
  rw [Nat.mul_add]
  omega
theorem fJoin_b {a : Str} {D : Dt} {ws : List Str} (hD : seqD D = some (ws.map .str)) (h : ∀ w ∈ ws, w.length ≤ 200) (hl : ws.length ≤ 4000) (ha : a.length ≤ 2) : fJoin [.str a, D] = some (.str (Txt.join a ws)) := by
  unfold fJoin
  simp only
  rw [hD, Option.bind_some, strsOf_str, Option.bind_some, if_pos]
  have h1 := sum_le_b ws h
  have h2 : ws.length * a.length ≤ 4000 * 2 := Nat.mul_le_mul hl ha
  omega
abbrev Pt := List Str × Nat
def TT (P : List Pt) : List (Str × Nat) := P.map fun p => (tx p.1, p.2)
def pD (p : Str × Nat) : Dt := .tup [.tup ((wd p.1).map .str), .int (p.2 : Nat)]
def scr (p : Str × Nat) : Str := Txt.join " " (numS p.2 :: wd p.1)
structure PtOk (P : List Pt) : Prop where
  kd : ∀ p ∈ P, Kd p.1
  few : P.length ≤ 3000
theorem tt_mem {P : List Pt} (h : PtOk P) {p : Str × Nat} (hp : p ∈ NF (TT P)) : ∃ q ∈ P, p.1 = tx q.1 ∧ Kd q.1 ∧ wd p.1 = ascT q.1 := by
  obtain ⟨h1, _, _⟩ := NF_mem hp
  unfold TT at h1
  rw [List.map_map] at h1
  obtain ⟨q, hq, e⟩ := List.mem_map.mp h1
  have e' : tx q.1 = p.1 := e
  exact ⟨q, hq, e'.symm, h.kd q hq, by rw [← e', wd_tx (h.kd q hq)]⟩
def reP (T : List (Str × Nat)) : List Pt := T.map fun p => (wd p.1, p.2)
theorem re_ok {P : List Pt} (h : PtOk P) : PtOk (reP (NF (TT P))) := by
  refine ⟨fun p hp => ?_, ?_⟩
  · obtain ⟨q, hq, rfl⟩ := List.mem_map.mp hp
    obtain ⟨r, _, _, hk, hw⟩ := tt_mem h hq
    show Kd (wd q.1)
    rw [hw]
    exact hk.asc
  · unfold reP
    rw [List.length_map]
    have h1 := NF_len (TT P)
    have h2 := h.few
    unfold TT at h1
    rw [List.length_map] at h1
    exact Nat.le_trans h1 h2
end Mc
namespace Mc
open PySem L2
theorem num_len31 {m : Nat} (h : m < 10 ^ 36) : (numS m).length ≤ 36 := by rw [TL.len_tl, tl_numS]; exact TL.numL_len (by omega) h
theorem num_sp (m : Nat) : 32 ∉ TL.tl (numS m) := by rw [tl_numS]; exact TL.numL_free (by omega)
theorem num_cm (m : Nat) : 44 ∉ TL.tl (numS m) := by rw [tl_numS]; exact TL.numL_free (by omega)
theorem words_ok {ks : List Str} {m : Nat} (h : Kd ks) (hm : m < 10 ^ 36) : (∀ w ∈ numS m :: ks, w.length ≤ 36) ∧ (∀ w ∈ numS m :: ks, 32 ∉ TL.tl w) ∧ (∀ w ∈ numS m :: ks, 44 ∉ TL.tl w) := by
  refine ⟨fun w hw => ?_, fun w hw => ?_, fun w hw => ?_⟩ <;> rcases List.mem_cons.mp hw with rfl | hw
  · exact num_len31 hm
  · have := (nm_free (h.gd w hw)).2.2.2.1
    omega
  · exact num_sp m
  · exact (nm_free (h.gd w hw)).1
  · exact num_cm m
  · exact (nm_free (h.gd w hw)).2.1
def qD (p : Pt) : Dt := .tup [.tup ((ascT p.1).map .str), .int (p.2 : Nat)]
def tD (p : Str × Nat) : Dt := .tup [.str p.1, .int (p.2 : Nat)]
theorem fJoin_tx {ks : List Str} (h : Kd ks) : fJoin [.str " ", .tup ((ascT ks).map .str)] = some (.str (tx ks)) := by
  have hk := h.asc
  refine fJoin_b rfl (fun w hw => ?_) ?_ (by decide +kernel)
  · have := (nm_free (hk.gd w hw)).2.2.2.1
    omega
  · have := hk.len
    omega
theorem scLoop_map {α : Type} {g : XG} {a : XE} {e : En} {u : α → Dt} {v : α → Str} : ∀ {xs : List α} {acc : List Str}, (∀ x ∈ xs, ∃ e1, g (u x) e = some e1 ∧ a e1 = .ret (.d (.str (v x)), e1)) → scLoop g a e (xs.map u) acc = .ret (acc ++ xs.map v)
  | [], acc, _ => by simp [scLoop]
  | x :: xs, acc, h => by
    obtain ⟨e1, h1, h2⟩ := h x List.mem_cons_self
    rw [List.map_cons]
    unfold scLoop
    have ih := scLoop_map (g := g) (a := a) (e := e) (u := u) (v := v) (xs := xs) (acc := acc ++ [v x]) fun y hy => h y (List.mem_cons_of_mem _ hy)
    rw [h1]
    simp only [Tr.of_some, Tr.ret_bind, h2, strV]
    rw [ih, List.append_assoc, List.map_cons]
    rfl
theorem sum_key (t : Str) : ∀ T : List (Str × Nat), ((T.filter fun p => decide (p.1 = t)).map fun p => ((p.2 : Nat) : Int)).sum = (sumK t T : Int)
  | [] => rfl
  | p :: T => by
    have ih := sum_key t T
    rw [sumK]
    by_cases h : p.1 = t
    · rw [List.filter_cons_of_pos (by simpa using h), List.map_cons, List.sum_cons, ih, if_pos h]
      simp
    · rw [List.filter_cons_of_neg (by simpa using h), ih, if_neg h]
      simp
theorem sum_keyD (t : Str) (T : List (Str × Nat)) : fSum [.lst ((T.filter fun p => decide (p.1 = t)).map fun p => Dt.int (p.2 : Nat))] = some (.int (sumK t T : Nat)) := by
  rw [← sum_key, ← fSum_map, List.map_map]
  rfl
def foundD (T : List (Str × Nat)) (l : List Str) : List Dt := ((l.filter fun t => decide (0 < sumK t T)).map fun t => (t, sumK t T)).map pD
theorem v_added (n : Nat) {P : List Pt} (h : PtOk P) : (tab (n + 1)).added [.lst (P.map qD)] = .ret (.tup ((NF (TT P)).map pD)) := by
  have hf := h.few
  have h5 : P.length ≤ 50000 := by omega
  have h6 : P.length ≤ 4000 := by omega
  rw [t_added]
  unfold b_added
  simp -implicitDefEqProofs only [List.map_cons, List.map_nil, List.length_cons, List.length_nil, List.cons_append, List.nil_append, List.append_nil, List.replicate, Nat.reduceAdd, Nat.reduceSub, List.all_cons, List.all_nil, List.getElem?_cons_zero, List.getElem?_cons_succ, Option.bind_some, Option.bind_none, Option.map_some, Option.map_none, List.set_cons_zero, List.set_cons_succ, Bool.not_true, Bool.not_false, Bool.and_true, Bool.true_and, if_true, if_false, ↓reduceIte, and_self, and_true, true_and, and_false, false_and, Nat.zero_le, Nat.reduceLeDiff, Nat.reduceLT, Nat.reduceEqDiff, beq_self_eq_true, decide_true, decide_false, String.reduceEq, String.reduceBEq, List.lookup_nil, Option.isNone_none, Option.isNone_some, List.contains_cons, List.contains_nil, Bool.or_false, Bool.true_or, Bool.or_true, Bool.false_eq_true, reduceCtorEq, List.map_append, List.length_append, List.length_map, Int.reduceAdd, Int.reduceSub, Int.reduceLT, Int.reduceLE, Int.reduceEq, Nat.reduceBEq, eq_self, EXs, EXy, h5]
  rw [lc_mp (v := fun p : Pt => tD (tx p.1, p.2))]
  rotate_left
  · intro p hp
    have := fJoin_tx (h.kd p hp)
    refine ⟨_, rfl, rfl, ?_⟩
    simp -implicitDefEqProofs only [List.map_cons, List.map_nil, List.length_cons, List.length_nil, List.cons_append, List.nil_append, List.append_nil, List.replicate, Nat.reduceAdd, Nat.reduceSub, List.all_cons, List.all_nil, List.getElem?_cons_zero, List.getElem?_cons_succ, Option.bind_some, Option.bind_none, Option.map_some, Option.map_none, List.set_cons_zero, List.set_cons_succ, Bool.not_true, Bool.not_false, Bool.and_true, Bool.true_and, if_true, if_false, ↓reduceIte, and_self, and_true, true_and, and_false, false_and, Nat.zero_le, Nat.reduceLeDiff, Nat.reduceLT, Nat.reduceEqDiff, beq_self_eq_true, decide_true, decide_false, String.reduceEq, String.reduceBEq, List.lookup_nil, Option.isNone_none, Option.isNone_some, List.contains_cons, List.contains_nil, Bool.or_false, Bool.true_or, Bool.or_true, Bool.false_eq_true, reduceCtorEq, List.map_append, List.length_append, List.length_map, Int.reduceAdd, Int.reduceSub, Int.reduceLT, Int.reduceLE, Int.reduceEq, Nat.reduceBEq, eq_self, EXs, EXy, this, tD]
  simp -implicitDefEqProofs only [List.map_cons, List.map_nil, List.length_cons, List.length_nil, List.cons_append, List.nil_append, List.append_nil, List.replicate, Nat.reduceAdd, Nat.reduceSub, List.all_cons, List.all_nil, List.getElem?_cons_zero, List.getElem?_cons_succ, Option.bind_some, Option.bind_none, Option.map_some, Option.map_none, List.set_cons_zero, List.set_cons_succ, Bool.not_true, Bool.not_false, Bool.and_true, Bool.true_and, if_true, if_false, ↓reduceIte, and_self, and_true, true_and, and_false, false_and, Nat.zero_le, Nat.reduceLeDiff, Nat.reduceLT, Nat.reduceEqDiff, beq_self_eq_true, decide_true, decide_false, String.reduceEq, String.reduceBEq, List.lookup_nil, Option.isNone_none, Option.isNone_some, List.contains_cons, List.contains_nil, Bool.or_false, Bool.true_or, Bool.or_true, Bool.false_eq_true, reduceCtorEq, List.map_append, List.length_append, List.length_map, Int.reduceAdd, Int.reduceSub, Int.reduceLT, Int.reduceLE, Int.reduceEq, Nat.reduceBEq, eq_self, EXs, EXy, h5, h6]
  rw [scLoop_map (v := fun p : Pt => tx p.1)]
  rotate_left
  · intro p hp
    refine ⟨_, rfl, ?_⟩
    simp -implicitDefEqProofs only [List.map_cons, List.map_nil, List.length_cons, List.length_nil, List.cons_append, List.nil_append, List.append_nil, List.replicate, Nat.reduceAdd, Nat.reduceSub, List.all_cons, List.all_nil, List.getElem?_cons_zero, List.getElem?_cons_succ, Option.bind_some, Option.bind_none, Option.map_some, Option.map_none, List.set_cons_zero, List.set_cons_succ, Bool.not_true, Bool.not_false, Bool.and_true, Bool.true_and, if_true, if_false, ↓reduceIte, and_self, and_true, true_and, and_false, false_and, Nat.zero_le, Nat.reduceLeDiff, Nat.reduceLT, Nat.reduceEqDiff, beq_self_eq_true, decide_true, decide_false, String.reduceEq, String.reduceBEq, List.lookup_nil, Option.isNone_none, Option.isNone_some, List.contains_cons, List.contains_nil, Bool.or_false, Bool.true_or, Bool.or_true, Bool.false_eq_true, reduceCtorEq, List.map_append, List.length_append, List.length_map, Int.reduceAdd, Int.reduceSub, Int.reduceLT, Int.reduceLE, Int.reduceEq, Nat.reduceBEq, eq_self, EXs, EXy]
  simp -implicitDefEqProofs only [List.map_cons, List.map_nil, List.length_cons, List.length_nil, List.cons_append, List.nil_append, List.append_nil, List.replicate, Nat.reduceAdd, Nat.reduceSub, List.all_cons, List.all_nil, List.getElem?_cons_zero, List.getElem?_cons_succ, Option.bind_some, Option.bind_none, Option.map_some, Option.map_none, List.set_cons_zero, List.set_cons_succ, Bool.not_true, Bool.not_false, Bool.and_true, Bool.true_and, if_true, if_false, ↓reduceIte, and_self, and_true, true_and, and_false, false_and, Nat.zero_le, Nat.reduceLeDiff, Nat.reduceLT, Nat.reduceEqDiff, beq_self_eq_true, decide_true, decide_false, String.reduceEq, String.reduceBEq, List.lookup_nil, Option.isNone_none, Option.isNone_some, List.contains_cons, List.contains_nil, Bool.or_false, Bool.true_or, Bool.or_true, Bool.false_eq_true, reduceCtorEq, List.map_append, List.length_append, List.length_map, Int.reduceAdd, Int.reduceSub, Int.reduceLT, Int.reduceLE, Int.reduceEq, Nat.reduceBEq, eq_self, EXs, EXy]
  have key := for_ret (g := gN 3) (b := (sSeq (sAsg (xB (un fSum) (xCons (xLc (iX iSeqD (xCons (xVar 1) xNil)) (gT (gsC (gN 7) (gsC (gN 6) gs0))) (xTest (xO (ifO (isK 3) (dCmp 3 ks_all (tab n).Crowd___eq__) (toB fEq)) (xCons (xVar 7) (xCons (xVar 3) xNil)))) (xVar 6) [7, 6]) xNil)) (gN 4))
    (sDrop (xMut cExtend (xVar 2) (xCons (xIf (xTest (xB (un fGt) (xCons (xVar 4) (xCons (xC (.int 0)) xNil)))) (xLst (xCons (xTup (xCons (xIf (xTest (xO (ifO (isK 3) (dNe 3 ks_all (tab n).Crowd___eq__) (toB fNe)) (xCons (xVar 3) (xCons (xC (.str "")) xNil)))) (xB (un fTuple) (xCons (xTx (un fSplit) (xVar 3) (xC (.str " "))) xNil)) (xTup xNil)) (xCons (xVar 4) xNil))) xNil)) (xLst xNil)) xNil)))))
    (fun r e => ∃ (a b : List Str) (o3 o4 : Option Sl), a ++ b = ascT (P.map fun p => tx p.1) ∧ r = b.map .str ∧ e = [some (.d (.lst (P.map qD))), some (.d (.lst (P.map fun p => tD (tx p.1, p.2)))), some (.own (foundD (TT P) a)), o3, o4, none, none, none])
    (xs := (ascT (P.map fun p => tx p.1)).map .str) (e := [some (.d (.lst (P.map qD))), some (.d (.lst (P.map fun p => tD (tx p.1, p.2)))), some (.own []), none, none, none, none, none]) ⟨[], _, none, none, rfl, rfl, rfl⟩ (by
    rintro x r e ⟨a, b, o3, o4, hab, hr, rfl⟩
    cases b with
    | nil => cases hr
    | cons t b =>
      cases hr
      have htm : t ∈ ascT (P.map fun p => tx p.1) := by rw [← hab]; exact List.mem_append_right _ List.mem_cons_self
      obtain ⟨q, hq, hqt⟩ := List.mem_map.mp (mem_ascT.mp htm)
      have hkq := h.kd q hq
      have hal : a.length + (b.length + 1) ≤ P.length := by
        have h1 := congrArg List.length hab
        have h2 := ascT_len (P.map fun p => tx p.1)
        rw [List.length_append, List.length_cons] at h1
        rw [List.length_map] at h2
        omega
      have hfl : (foundD (TT P) a).length ≤ a.length := by
        unfold foundD
        rw [List.length_map, List.length_map]
        exact List.length_filter_le _ _
      have hloop : lcLoop (gT (gsC (gN 7) (gsC (gN 6) gs0))) (xTest (xO (ifO (isK 3) (dCmp 3 ks_all (tab n).Crowd___eq__) (toB fEq)) (xCons (xVar 7) (xCons (xVar 3) xNil)))) (xVar 6) [some (.d (.lst (P.map qD))), some (.d (.lst (P.map fun p => tD (tx p.1, p.2)))), some (.own (foundD (TT P) a)), some (.d (.str t)), o4, none, none, none] (P.map fun p => tD (tx p.1, p.2)) [] = .ret ([] ++ (P.filter fun p => decide (tx p.1 = t)).map fun p => Dt.int (p.2 : Nat)) := by
        refine lc_fl fun p hp => ⟨_, rfl, ?_, fun _ => ?_⟩
        · simp -implicitDefEqProofs only [List.map_cons, List.map_nil, List.length_cons, List.length_nil, List.cons_append, List.nil_append, List.append_nil, List.replicate, Nat.reduceAdd, Nat.reduceSub, List.all_cons, List.all_nil, List.getElem?_cons_zero, List.getElem?_cons_succ, Option.bind_some, Option.bind_none, Option.map_some, Option.map_none, List.set_cons_zero, List.set_cons_succ, Bool.not_true, Bool.not_false, Bool.and_true, Bool.true_and, if_true, if_false, ↓reduceIte, and_self, and_true, true_and, and_false, false_and, Nat.zero_le, Nat.reduceLeDiff, Nat.reduceLT, Nat.reduceEqDiff, beq_self_eq_true, decide_true, decide_false, String.reduceEq, String.reduceBEq, List.lookup_nil, Option.isNone_none, Option.isNone_some, List.contains_cons, List.contains_nil, Bool.or_false, Bool.true_or, Bool.or_true, Bool.false_eq_true, reduceCtorEq, List.map_append, List.length_append, List.length_map, Int.reduceAdd, Int.reduceSub, Int.reduceLT, Int.reduceLE, Int.reduceEq, Nat.reduceBEq, eq_self, EXs, EXy]
        · simp -implicitDefEqProofs only [List.map_cons, List.map_nil, List.length_cons, List.length_nil, List.cons_append, List.nil_append, List.append_nil, List.replicate, Nat.reduceAdd, Nat.reduceSub, List.all_cons, List.all_nil, List.getElem?_cons_zero, List.getElem?_cons_succ, Option.bind_some, Option.bind_none, Option.map_some, Option.map_none, List.set_cons_zero, List.set_cons_succ, Bool.not_true, Bool.not_false, Bool.and_true, Bool.true_and, if_true, if_false, ↓reduceIte, and_self, and_true, true_and, and_false, false_and, Nat.zero_le, Nat.reduceLeDiff, Nat.reduceLT, Nat.reduceEqDiff, beq_self_eq_true, decide_true, decide_false, String.reduceEq, String.reduceBEq, List.lookup_nil, Option.isNone_none, Option.isNone_some, List.contains_cons, List.contains_nil, Bool.or_false, Bool.true_or, Bool.or_true, Bool.false_eq_true, reduceCtorEq, List.map_append, List.length_append, List.length_map, Int.reduceAdd, Int.reduceSub, Int.reduceLT, Int.reduceLE, Int.reduceEq, Nat.reduceBEq, eq_self, EXs, EXy]
      have hsum : fSum [.lst ((P.filter fun p => decide (tx p.1 = t)).map fun p => Dt.int (p.2 : Nat))] = some (.int (sumK t (TT P) : Nat)) := by
        rw [← sum_keyD]
        unfold TT
        rw [List.filter_map, List.map_map]
        rfl
      have hsp : fSplit [.str t, .str " "] = some (.lst ((Txt.split t " ").map .str)) := fSplit_b (by decide +kernel) (by
        rw [← hqt]
        have := join_len (y := " ") (ws := ascT q.1) (B := 4) fun w hw => (nm_free (hkq.asc.gd w hw)).2.2.2.1
        have h3 : (" " : Str).length = 1 := by decide +kernel
        have h4 := hkq.asc.len
        rw [h3] at this
        unfold tx
        omega)
      by_cases hpos : 0 < sumK t (TT P)
      · have hp1 : decide ((0 : Int) < (sumK t (TT P) : Nat)) = true := by simp; omega
        have hex := cExtend_n [pD (t, sumK t (TT P))] (foundD (TT P) a) (by simp; omega)
        refine ⟨_, [some (.d (.lst (P.map qD))), some (.d (.lst (P.map fun p => tD (tx p.1, p.2)))), some (.own (foundD (TT P) (a ++ [t]))), some (.d (.str t)), some (.d (.int (sumK t (TT P) : Nat))), none, none, none], rfl, ?_, a ++ [t], b, _, _, by rw [List.append_assoc]; exact hab, rfl, rfl⟩
        have hfd : foundD (TT P) (a ++ [t]) = foundD (TT P) a ++ [pD (t, sumK t (TT P))] := by
          unfold foundD
          rw [List.filter_append, List.filter_cons_of_pos (by simpa using hpos), List.map_append, List.map_append]
          rfl
        rw [hfd]
        unfold pD wd at hex
        by_cases hz : t = Str.ofString ""
        · subst hz
          simp -implicitDefEqProofs only [List.map_cons, List.map_nil, List.length_cons, List.length_nil, List.cons_append, List.nil_append, List.append_nil, List.replicate, Nat.reduceAdd, Nat.reduceSub, List.all_cons, List.all_nil, List.getElem?_cons_zero, List.getElem?_cons_succ, Option.bind_some, Option.bind_none, Option.map_some, Option.map_none, List.set_cons_zero, List.set_cons_succ, Bool.not_true, Bool.not_false, Bool.and_true, Bool.true_and, if_true, if_false, ↓reduceIte, and_self, and_true, true_and, and_false, false_and, Nat.zero_le, Nat.reduceLeDiff, Nat.reduceLT, Nat.reduceEqDiff, beq_self_eq_true, decide_true, decide_false, String.reduceEq, String.reduceBEq, List.lookup_nil, Option.isNone_none, Option.isNone_some, List.contains_cons, List.contains_nil, Bool.or_false, Bool.true_or, Bool.or_true, Bool.false_eq_true, reduceCtorEq, List.map_append, List.length_append, List.length_map, Int.reduceAdd, Int.reduceSub, Int.reduceLT, Int.reduceLE, Int.reduceEq, Nat.reduceBEq, eq_self, EXs, EXy] at hex
          simp -implicitDefEqProofs only [List.map_cons, List.map_nil, List.length_cons, List.length_nil, List.cons_append, List.nil_append, List.append_nil, List.replicate, Nat.reduceAdd, Nat.reduceSub, List.all_cons, List.all_nil, List.getElem?_cons_zero, List.getElem?_cons_succ, Option.bind_some, Option.bind_none, Option.map_some, Option.map_none, List.set_cons_zero, List.set_cons_succ, Bool.not_true, Bool.not_false, Bool.and_true, Bool.true_and, if_true, if_false, ↓reduceIte, and_self, and_true, true_and, and_false, false_and, Nat.zero_le, Nat.reduceLeDiff, Nat.reduceLT, Nat.reduceEqDiff, beq_self_eq_true, decide_true, decide_false, String.reduceEq, String.reduceBEq, List.lookup_nil, Option.isNone_none, Option.isNone_some, List.contains_cons, List.contains_nil, Bool.or_false, Bool.true_or, Bool.or_true, Bool.false_eq_true, reduceCtorEq, List.map_append, List.length_append, List.length_map, Int.reduceAdd, Int.reduceSub, Int.reduceLT, Int.reduceLE, Int.reduceEq, Nat.reduceBEq, eq_self, EXs, EXy, h5, hloop, hsum, hp1, pD, wd, hex]
        · simp -implicitDefEqProofs only [List.map_cons, List.map_nil, List.length_cons, List.length_nil, List.cons_append, List.nil_append, List.append_nil, List.replicate, Nat.reduceAdd, Nat.reduceSub, List.all_cons, List.all_nil, List.getElem?_cons_zero, List.getElem?_cons_succ, Option.bind_some, Option.bind_none, Option.map_some, Option.map_none, List.set_cons_zero, List.set_cons_succ, Bool.not_true, Bool.not_false, Bool.and_true, Bool.true_and, if_true, if_false, ↓reduceIte, and_self, and_true, true_and, and_false, false_and, Nat.zero_le, Nat.reduceLeDiff, Nat.reduceLT, Nat.reduceEqDiff, beq_self_eq_true, decide_true, decide_false, String.reduceEq, String.reduceBEq, List.lookup_nil, Option.isNone_none, Option.isNone_some, List.contains_cons, List.contains_nil, Bool.or_false, Bool.true_or, Bool.or_true, Bool.false_eq_true, reduceCtorEq, List.map_append, List.length_append, List.length_map, Int.reduceAdd, Int.reduceSub, Int.reduceLT, Int.reduceLE, Int.reduceEq, Nat.reduceBEq, eq_self, EXs, EXy, hz] at hex
          simp -implicitDefEqProofs only [List.map_cons, List.map_nil, List.length_cons, List.length_nil, List.cons_append, List.nil_append, List.append_nil, List.replicate, Nat.reduceAdd, Nat.reduceSub, List.all_cons, List.all_nil, List.getElem?_cons_zero, List.getElem?_cons_succ, Option.bind_some, Option.bind_none, Option.map_some, Option.map_none, List.set_cons_zero, List.set_cons_succ, Bool.not_true, Bool.not_false, Bool.and_true, Bool.true_and, if_true, if_false, ↓reduceIte, and_self, and_true, true_and, and_false, false_and, Nat.zero_le, Nat.reduceLeDiff, Nat.reduceLT, Nat.reduceEqDiff, beq_self_eq_true, decide_true, decide_false, String.reduceEq, String.reduceBEq, List.lookup_nil, Option.isNone_none, Option.isNone_some, List.contains_cons, List.contains_nil, Bool.or_false, Bool.true_or, Bool.or_true, Bool.false_eq_true, reduceCtorEq, List.map_append, List.length_append, List.length_map, Int.reduceAdd, Int.reduceSub, Int.reduceLT, Int.reduceLE, Int.reduceEq, Nat.reduceBEq, eq_self, EXs, EXy, h5, hloop, hsum, hp1, hz, hsp, pD, wd, hex]
      · have hp1 : decide ((0 : Int) < (sumK t (TT P) : Nat)) = false := by simp; omega
        have hex := cExtend_n [] (foundD (TT P) a) (by simp; omega)
        refine ⟨_, [some (.d (.lst (P.map qD))), some (.d (.lst (P.map fun p => tD (tx p.1, p.2)))), some (.own (foundD (TT P) (a ++ [t]))), some (.d (.str t)), some (.d (.int (sumK t (TT P) : Nat))), none, none, none], rfl, ?_, a ++ [t], b, _, _, by rw [List.append_assoc]; exact hab, rfl, rfl⟩
        have hfd : foundD (TT P) (a ++ [t]) = foundD (TT P) a := by
          unfold foundD
          rw [List.filter_append, List.filter_cons_of_neg (by simpa using hpos)]
          simp
        rw [hfd]
        simp -implicitDefEqProofs only [List.map_cons, List.map_nil, List.length_cons, List.length_nil, List.cons_append, List.nil_append, List.append_nil, List.replicate, Nat.reduceAdd, Nat.reduceSub, List.all_cons, List.all_nil, List.getElem?_cons_zero, List.getElem?_cons_succ, Option.bind_some, Option.bind_none, Option.map_some, Option.map_none, List.set_cons_zero, List.set_cons_succ, Bool.not_true, Bool.not_false, Bool.and_true, Bool.true_and, if_true, if_false, ↓reduceIte, and_self, and_true, true_and, and_false, false_and, Nat.zero_le, Nat.reduceLeDiff, Nat.reduceLT, Nat.reduceEqDiff, beq_self_eq_true, decide_true, decide_false, String.reduceEq, String.reduceBEq, List.lookup_nil, Option.isNone_none, Option.isNone_some, List.contains_cons, List.contains_nil, Bool.or_false, Bool.true_or, Bool.or_true, Bool.false_eq_true, reduceCtorEq, List.map_append, List.length_append, List.length_map, Int.reduceAdd, Int.reduceSub, Int.reduceLT, Int.reduceLE, Int.reduceEq, Nat.reduceBEq, eq_self, EXs, EXy] at hex
        simp -implicitDefEqProofs only [List.map_cons, List.map_nil, List.length_cons, List.length_nil, List.cons_append, List.nil_append, List.append_nil, List.replicate, Nat.reduceAdd, Nat.reduceSub, List.all_cons, List.all_nil, List.getElem?_cons_zero, List.getElem?_cons_succ, Option.bind_some, Option.bind_none, Option.map_some, Option.map_none, List.set_cons_zero, List.set_cons_succ, Bool.not_true, Bool.not_false, Bool.and_true, Bool.true_and, if_true, if_false, ↓reduceIte, and_self, and_true, true_and, and_false, false_and, Nat.zero_le, Nat.reduceLeDiff, Nat.reduceLT, Nat.reduceEqDiff, beq_self_eq_true, decide_true, decide_false, String.reduceEq, String.reduceBEq, List.lookup_nil, Option.isNone_none, Option.isNone_some, List.contains_cons, List.contains_nil, Bool.or_false, Bool.true_or, Bool.or_true, Bool.false_eq_true, reduceCtorEq, List.map_append, List.length_append, List.length_map, Int.reduceAdd, Int.reduceSub, Int.reduceLT, Int.reduceLE, Int.reduceEq, Nat.reduceBEq, eq_self, EXs, EXy, h5, hloop, hsum, hp1, hex])
  obtain ⟨e2, hk, a, b, o3, o4, hab, hb, rfl⟩ := key
  have hb' : b = [] := by
    cases b with
    | nil => rfl
    | cons x b => cases hb
  subst hb'
  rw [List.append_nil] at hab
  simp -implicitDefEqProofs only [List.map_cons, List.map_nil, List.length_cons, List.length_nil, List.cons_append, List.nil_append, List.append_nil, List.replicate, Nat.reduceAdd, Nat.reduceSub, List.all_cons, List.all_nil, List.getElem?_cons_zero, List.getElem?_cons_succ, Option.bind_some, Option.bind_none, Option.map_some, Option.map_none, List.set_cons_zero, List.set_cons_succ, Bool.not_true, Bool.not_false, Bool.and_true, Bool.true_and, if_true, if_false, ↓reduceIte, and_self, and_true, true_and, and_false, false_and, Nat.zero_le, Nat.reduceLeDiff, Nat.reduceLT, Nat.reduceEqDiff, beq_self_eq_true, decide_true, decide_false, String.reduceEq, String.reduceBEq, List.lookup_nil, Option.isNone_none, Option.isNone_some, List.contains_cons, List.contains_nil, Bool.or_false, Bool.true_or, Bool.or_true, Bool.false_eq_true, reduceCtorEq, List.map_append, List.length_append, List.length_map, Int.reduceAdd, Int.reduceSub, Int.reduceLT, Int.reduceLE, Int.reduceEq, Nat.reduceBEq, eq_self, EXs, EXy, hk]
  rw [hab]
  have htt : (TT P).map (·.1) = P.map fun p => tx p.1 := by unfold TT; rw [List.map_map]; rfl
  unfold foundD NF
  rw [htt]
end Mc
namespace Mc
open PySem L2
def uL (p : Pt) : Dt := .tup [.lst (p.1.map .str), .int (p.2 : Nat)]
def uT (p : Pt) : Dt := .tup [.tup (p.1.map .str), .int (p.2 : Nat)]
theorem v_is_part (n : Nat) (D : Dt) (ks : List Str) (m : Nat) (hD : D = .lst (ks.map .str) ∨ D = .tup (ks.map .str)) (h : Kd ks) : (tab (n + 3)).is_part [.tup [D, .int (m : Nat)]] = .ret (.bl true) := by
  have h1 := v_kindB n D ks hD (by have := h.len; omega) fun x hx => by have := (nm_free (h.gd x hx)).2.2.2.1; omega
  have hk : kindB ks = true := by
    unfold kindB
    rw [decide_eq_true (asc_lenN h.nd), Bool.and_true, List.all_eq_true]
    exact h.gd
  rw [hk] at h1
  have h2 := v_is_integer (n + 1) (m : Nat)
  have h3 : decide ((0 : Int) ≤ (m : Nat)) = true := by simp
  have h4 : ∀ d, fIsi ks_all [.tup d, .ty "tuple"] = some (.bl true) := fun _ => rfl
  rw [t_is_part]
  unfold b_is_part
  simp -implicitDefEqProofs only [List.map_cons, List.map_nil, List.length_cons, List.length_nil, List.cons_append, List.nil_append, List.append_nil, List.replicate, Nat.reduceAdd, Nat.reduceSub, List.all_cons, List.all_nil, List.getElem?_cons_zero, List.getElem?_cons_succ, Option.bind_some, Option.bind_none, Option.map_some, Option.map_none, List.set_cons_zero, List.set_cons_succ, Bool.not_true, Bool.not_false, Bool.and_true, Bool.true_and, if_true, if_false, ↓reduceIte, and_self, and_true, true_and, and_false, false_and, Nat.zero_le, Nat.reduceLeDiff, Nat.reduceLT, Nat.reduceEqDiff, beq_self_eq_true, decide_true, decide_false, String.reduceEq, String.reduceBEq, List.lookup_nil, Option.isNone_none, Option.isNone_some, List.contains_cons, List.contains_nil, Bool.or_false, Bool.true_or, Bool.or_true, Bool.false_eq_true, reduceCtorEq, List.map_append, List.length_append, List.length_map, Int.reduceAdd, Int.reduceSub, Int.reduceLT, Int.reduceLE, Int.reduceEq, Nat.reduceBEq, eq_self, EXs, EXy, h1, h2, h3, h4, nc2]
def crw (T : List (Str × Nat)) : Dt := .obj 3 [("parts", .tup (T.map pD)), ("script", .tup (T.map fun p => .str (scr p))), ("size", .int (T.map fun p => ((p.2 : Nat) : Int)).sum)]
def Sm (P : List Pt) : Prop := ∀ t, sumK t (TT P) < 10 ^ 36
theorem enum_mem {ds : List Dt} {x : Dt} (h : x ∈ enumD ds) : ∃ (i : Nat) (d : Dt), d ∈ ds ∧ x = .tup [.int (i : Nat), d] := by
  obtain ⟨i, hi⟩ := List.getElem?_of_mem h
  obtain ⟨e, he, rfl, _⟩ := enumD_get hi
  exact ⟨i, e, List.mem_of_getElem? he, rfl⟩
theorem fStr_n {m : Nat} (h : m < 10 ^ 36) : fStr [.int (m : Nat)] = some (.str (numS m)) := by
  unfold fStr numS
  simp only
  rw [if_pos]
  rw [Int.natAbs_natCast]
  by_cases hz : m = 0
  · rw [hz]; decide
  · exact Nat.lt_trans ((Nat.log2_lt hz).mpr (Nat.lt_trans h (by decide : 10 ^ 36 < 2 ^ 120))) (by decide)
theorem nf_ok {P : List Pt} (h : PtOk P) (hS : Sm P) {p : Str × Nat} (hp : p ∈ NF (TT P)) : Kd (wd p.1) ∧ p.2 < 10 ^ 36 := by
  obtain ⟨q, _, _, hk, hw⟩ := tt_mem h hp
  obtain ⟨_, h2, _⟩ := NF_mem hp
  exact ⟨by rw [hw]; exact hk.asc, by rw [h2]; exact hS _⟩
theorem nf_few {P : List Pt} (h : PtOk P) : (NF (TT P)).length ≤ 3000 := by
  have := (re_ok h).few
  unfold reP at this
  rw [List.length_map] at this
  exact this
theorem v_mkC (n : Nat) (D : Dt) {P : List Pt} {u : Pt → Dt} (hu : u = uL ∨ u = uT) (hD : D = .lst (P.map u) ∨ D = .tup (P.map u)) (h : PtOk P) (hS : Sm P) : (tab (n + 5)).mk_Crowd [D] = .ret (crw (NF (TT P))) := by
  have hf := h.few
  have h5 : P.length ≤ 50000 := by omega
  have hi : iSeqD [.d D] = some (P.map u) := by rcases hD with rfl | rfl <;> rfl
  have he : iEnum [.d D] = some (enumD (P.map u)) := by rcases hD with rfl | rfl <;> rfl
  have hs : (tab (n + 4)).is_sequence [D] = .ret (.bl true) := by
    rcases hD with rfl | rfl
    · exact v_is_seqL _ _
    · exact v_is_seqT _ _
  have hup : ∀ p : Pt, ∃ kD, u p = .tup [kD, .int (p.2 : Nat)] ∧ (kD = .lst (p.1.map .str) ∨ kD = .tup (p.1.map .str)) := fun p => by
    rcases hu with rfl | rfl
    · exact ⟨_, rfl, .inl rfl⟩
    · exact ⟨_, rfl, .inr rfl⟩
  rw [t_Crowd___init__]
  unfold b_Crowd___init__
  simp -implicitDefEqProofs only [List.map_cons, List.map_nil, List.length_cons, List.length_nil, List.cons_append, List.nil_append, List.append_nil, List.replicate, Nat.reduceAdd, Nat.reduceSub, List.all_cons, List.all_nil, List.getElem?_cons_zero, List.getElem?_cons_succ, Option.bind_some, Option.bind_none, Option.map_some, Option.map_none, List.set_cons_zero, List.set_cons_succ, Bool.not_true, Bool.not_false, Bool.and_true, Bool.true_and, if_true, if_false, ↓reduceIte, and_self, and_true, true_and, and_false, false_and, Nat.zero_le, Nat.reduceLeDiff, Nat.reduceLT, Nat.reduceEqDiff, beq_self_eq_true, decide_true, decide_false, String.reduceEq, String.reduceBEq, List.lookup_nil, Option.isNone_none, Option.isNone_some, List.contains_cons, List.contains_nil, Bool.or_false, Bool.true_or, Bool.or_true, Bool.false_eq_true, reduceCtorEq, List.map_append, List.length_append, List.length_map, Int.reduceAdd, Int.reduceSub, Int.reduceLT, Int.reduceLE, Int.reduceEq, Nat.reduceBEq, eq_self, EXs, EXy, hs, he]
  obtain ⟨e2, hk, o2, o3, hr, rfl⟩ := for_ret (g := gT (gsC (gN 2) (gsC (gN 3) gs0))) (b := sIf (xNotT (xTest (xF (cF 1 (tab (n + 4)).is_part []) (xCons (xVar 3) xNil)))) sNever sNext)
    (fun r e => ∃ o2 o3 : Option Sl, (∀ x ∈ r, ∃ (i : Nat) (p : Pt), p ∈ P ∧ x = .tup [.int (i : Nat), u p]) ∧ e = [some (.ob 3 []), some (.d D), o2, o3, none, none]) (xs := enumD (P.map u)) (e := [some (.ob 3 []), some (.d D), none, none, none, none]) ⟨none, none, fun x hx => by
      obtain ⟨i, d, hd, rfl⟩ := enum_mem hx
      obtain ⟨p, hp, rfl⟩ := List.mem_map.mp hd
      exact ⟨i, p, hp, rfl⟩, rfl⟩ (by
    rintro x r e ⟨o2, o3, hr, rfl⟩
    obtain ⟨i, p, hp, rfl⟩ := hr x List.mem_cons_self
    obtain ⟨kD, hq, hkD⟩ := hup p
    have := v_is_part (n + 1) kD p.1 p.2 hkD (h.kd p hp)
    rw [← hq] at this
    refine ⟨[some (.ob 3 []), some (.d D), some (.d (.int (i : Nat))), some (.d (u p)), none, none], [some (.ob 3 []), some (.d D), some (.d (.int (i : Nat))), some (.d (u p)), none, none], rfl, ?_, some (.d (.int (i : Nat))), some (.d (u p)), fun y hy => hr y (List.mem_cons_of_mem _ hy), rfl⟩
    simp -implicitDefEqProofs only [List.map_cons, List.map_nil, List.length_cons, List.length_nil, List.cons_append, List.nil_append, List.append_nil, List.replicate, Nat.reduceAdd, Nat.reduceSub, List.all_cons, List.all_nil, List.getElem?_cons_zero, List.getElem?_cons_succ, Option.bind_some, Option.bind_none, Option.map_some, Option.map_none, List.set_cons_zero, List.set_cons_succ, Bool.not_true, Bool.not_false, Bool.and_true, Bool.true_and, if_true, if_false, ↓reduceIte, and_self, and_true, true_and, and_false, false_and, Nat.zero_le, Nat.reduceLeDiff, Nat.reduceLT, Nat.reduceEqDiff, beq_self_eq_true, decide_true, decide_false, String.reduceEq, String.reduceBEq, List.lookup_nil, Option.isNone_none, Option.isNone_some, List.contains_cons, List.contains_nil, Bool.or_false, Bool.true_or, Bool.or_true, Bool.false_eq_true, reduceCtorEq, List.map_append, List.length_append, List.length_map, Int.reduceAdd, Int.reduceSub, Int.reduceLT, Int.reduceLE, Int.reduceEq, Nat.reduceBEq, eq_self, EXs, EXy, this])
  simp -implicitDefEqProofs only [List.map_cons, List.map_nil, List.length_cons, List.length_nil, List.cons_append, List.nil_append, List.append_nil, List.replicate, Nat.reduceAdd, Nat.reduceSub, List.all_cons, List.all_nil, List.getElem?_cons_zero, List.getElem?_cons_succ, Option.bind_some, Option.bind_none, Option.map_some, Option.map_none, List.set_cons_zero, List.set_cons_succ, Bool.not_true, Bool.not_false, Bool.and_true, Bool.true_and, if_true, if_false, ↓reduceIte, and_self, and_true, true_and, and_false, false_and, Nat.zero_le, Nat.reduceLeDiff, Nat.reduceLT, Nat.reduceEqDiff, beq_self_eq_true, decide_true, decide_false, String.reduceEq, String.reduceBEq, List.lookup_nil, Option.isNone_none, Option.isNone_some, List.contains_cons, List.contains_nil, Bool.or_false, Bool.true_or, Bool.or_true, Bool.false_eq_true, reduceCtorEq, List.map_append, List.length_append, List.length_map, Int.reduceAdd, Int.reduceSub, Int.reduceLT, Int.reduceLE, Int.reduceEq, Nat.reduceBEq, eq_self, EXs, EXy, hk, hi, h5]
  rw [lc_mp (v := qD)]
  rotate_left
  · intro p hp
    obtain ⟨kD, hq, hkD⟩ := hup p
    have hl := (h.kd p hp).len
    have := v_ascD (n + 3) kD p.1 hkD (by omega)
    rw [hq]
    refine ⟨_, rfl, rfl, ?_⟩
    simp -implicitDefEqProofs only [List.map_cons, List.map_nil, List.length_cons, List.length_nil, List.cons_append, List.nil_append, List.append_nil, List.replicate, Nat.reduceAdd, Nat.reduceSub, List.all_cons, List.all_nil, List.getElem?_cons_zero, List.getElem?_cons_succ, Option.bind_some, Option.bind_none, Option.map_some, Option.map_none, List.set_cons_zero, List.set_cons_succ, Bool.not_true, Bool.not_false, Bool.and_true, Bool.true_and, if_true, if_false, ↓reduceIte, and_self, and_true, true_and, and_false, false_and, Nat.zero_le, Nat.reduceLeDiff, Nat.reduceLT, Nat.reduceEqDiff, beq_self_eq_true, decide_true, decide_false, String.reduceEq, String.reduceBEq, List.lookup_nil, Option.isNone_none, Option.isNone_some, List.contains_cons, List.contains_nil, Bool.or_false, Bool.true_or, Bool.or_true, Bool.false_eq_true, reduceCtorEq, List.map_append, List.length_append, List.length_map, Int.reduceAdd, Int.reduceSub, Int.reduceLT, Int.reduceLE, Int.reduceEq, Nat.reduceBEq, eq_self, EXs, EXy, this, qD]
  have ha := v_added (n + 3) h
  have h6 : (NF (TT P)).length ≤ 50000 := Nat.le_trans (nf_few h) (by decide)
  simp -implicitDefEqProofs only [List.map_cons, List.map_nil, List.length_cons, List.length_nil, List.cons_append, List.nil_append, List.append_nil, List.replicate, Nat.reduceAdd, Nat.reduceSub, List.all_cons, List.all_nil, List.getElem?_cons_zero, List.getElem?_cons_succ, Option.bind_some, Option.bind_none, Option.map_some, Option.map_none, List.set_cons_zero, List.set_cons_succ, Bool.not_true, Bool.not_false, Bool.and_true, Bool.true_and, if_true, if_false, ↓reduceIte, and_self, and_true, true_and, and_false, false_and, Nat.zero_le, Nat.reduceLeDiff, Nat.reduceLT, Nat.reduceEqDiff, beq_self_eq_true, decide_true, decide_false, String.reduceEq, String.reduceBEq, List.lookup_nil, Option.isNone_none, Option.isNone_some, List.contains_cons, List.contains_nil, Bool.or_false, Bool.true_or, Bool.or_true, Bool.false_eq_true, reduceCtorEq, List.map_append, List.length_append, List.length_map, Int.reduceAdd, Int.reduceSub, Int.reduceLT, Int.reduceLE, Int.reduceEq, Nat.reduceBEq, eq_self, EXs, EXy, ha, h6]
  rw [lc_mp (v := fun p => .str (scr p))]
  rotate_left
  · intro p hp
    obtain ⟨hkd, hm⟩ := nf_ok h hS hp
    have h7 := fStr_n hm
    have hw := words_ok hkd hm
    have hl := hkd.len
    have h8 : fJoin [.str " ", .lst (.str (numS p.2) :: (wd p.1).map .str)] = some (.str (scr p)) := fJoin_b (ws := numS p.2 :: wd p.1) rfl (fun w hw2 => Nat.le_trans (hw.1 w hw2) (by decide)) (by rw [List.length_cons]; omega) (by decide +kernel)
    have h9 : (wd p.1).length + 1 ≤ 100000 := by omega
    refine ⟨_, rfl, rfl, ?_⟩
    simp -implicitDefEqProofs only [List.map_cons, List.map_nil, List.length_cons, List.length_nil, List.cons_append, List.nil_append, List.append_nil, List.replicate, Nat.reduceAdd, Nat.reduceSub, List.all_cons, List.all_nil, List.getElem?_cons_zero, List.getElem?_cons_succ, Option.bind_some, Option.bind_none, Option.map_some, Option.map_none, List.set_cons_zero, List.set_cons_succ, Bool.not_true, Bool.not_false, Bool.and_true, Bool.true_and, if_true, if_false, ↓reduceIte, and_self, and_true, true_and, and_false, false_and, Nat.zero_le, Nat.reduceLeDiff, Nat.reduceLT, Nat.reduceEqDiff, beq_self_eq_true, decide_true, decide_false, String.reduceEq, String.reduceBEq, List.lookup_nil, Option.isNone_none, Option.isNone_some, List.contains_cons, List.contains_nil, Bool.or_false, Bool.true_or, Bool.or_true, Bool.false_eq_true, reduceCtorEq, List.map_append, List.length_append, List.length_map, Int.reduceAdd, Int.reduceSub, Int.reduceLT, Int.reduceLE, Int.reduceEq, Nat.reduceBEq, eq_self, EXs, EXy, h7, h8, h9]
  simp -implicitDefEqProofs only [List.map_cons, List.map_nil, List.length_cons, List.length_nil, List.cons_append, List.nil_append, List.append_nil, List.replicate, Nat.reduceAdd, Nat.reduceSub, List.all_cons, List.all_nil, List.getElem?_cons_zero, List.getElem?_cons_succ, Option.bind_some, Option.bind_none, Option.map_some, Option.map_none, List.set_cons_zero, List.set_cons_succ, Bool.not_true, Bool.not_false, Bool.and_true, Bool.true_and, if_true, if_false, ↓reduceIte, and_self, and_true, true_and, and_false, false_and, Nat.zero_le, Nat.reduceLeDiff, Nat.reduceLT, Nat.reduceEqDiff, beq_self_eq_true, decide_true, decide_false, String.reduceEq, String.reduceBEq, List.lookup_nil, Option.isNone_none, Option.isNone_some, List.contains_cons, List.contains_nil, Bool.or_false, Bool.true_or, Bool.or_true, Bool.false_eq_true, reduceCtorEq, List.map_append, List.length_append, List.length_map, Int.reduceAdd, Int.reduceSub, Int.reduceLT, Int.reduceLE, Int.reduceEq, Nat.reduceBEq, eq_self, EXs, EXy, h6]
  rw [lc_mp (v := fun p : Str × Nat => .int (p.2 : Nat))]
  rotate_left
  · intro p hp
    refine ⟨_, rfl, rfl, ?_⟩
    simp -implicitDefEqProofs only [List.map_cons, List.map_nil, List.length_cons, List.length_nil, List.cons_append, List.nil_append, List.append_nil, List.replicate, Nat.reduceAdd, Nat.reduceSub, List.all_cons, List.all_nil, List.getElem?_cons_zero, List.getElem?_cons_succ, Option.bind_some, Option.bind_none, Option.map_some, Option.map_none, List.set_cons_zero, List.set_cons_succ, Bool.not_true, Bool.not_false, Bool.and_true, Bool.true_and, if_true, if_false, ↓reduceIte, and_self, and_true, true_and, and_false, false_and, Nat.zero_le, Nat.reduceLeDiff, Nat.reduceLT, Nat.reduceEqDiff, beq_self_eq_true, decide_true, decide_false, String.reduceEq, String.reduceBEq, List.lookup_nil, Option.isNone_none, Option.isNone_some, List.contains_cons, List.contains_nil, Bool.or_false, Bool.true_or, Bool.or_true, Bool.false_eq_true, reduceCtorEq, List.map_append, List.length_append, List.length_map, Int.reduceAdd, Int.reduceSub, Int.reduceLT, Int.reduceLE, Int.reduceEq, Nat.reduceBEq, eq_self, EXs, EXy]
  have h10 : fSum [.lst ((NF (TT P)).map fun p => Dt.int (p.2 : Nat))] = some (.int ((NF (TT P)).map fun p => ((p.2 : Nat) : Int)).sum) := by
    rw [← fSum_map, List.map_map]
    rfl
  simp -implicitDefEqProofs only [List.map_cons, List.map_nil, List.length_cons, List.length_nil, List.cons_append, List.nil_append, List.append_nil, List.replicate, Nat.reduceAdd, Nat.reduceSub, List.all_cons, List.all_nil, List.getElem?_cons_zero, List.getElem?_cons_succ, Option.bind_some, Option.bind_none, Option.map_some, Option.map_none, List.set_cons_zero, List.set_cons_succ, Bool.not_true, Bool.not_false, Bool.and_true, Bool.true_and, if_true, if_false, ↓reduceIte, and_self, and_true, true_and, and_false, false_and, Nat.zero_le, Nat.reduceLeDiff, Nat.reduceLT, Nat.reduceEqDiff, beq_self_eq_true, decide_true, decide_false, String.reduceEq, String.reduceBEq, List.lookup_nil, Option.isNone_none, Option.isNone_some, List.contains_cons, List.contains_nil, Bool.or_false, Bool.true_or, Bool.or_true, Bool.false_eq_true, reduceCtorEq, List.map_append, List.length_append, List.length_map, Int.reduceAdd, Int.reduceSub, Int.reduceLT, Int.reduceLE, Int.reduceEq, Nat.reduceBEq, eq_self, EXs, EXy, h10]
  rfl
end Mc
namespace Mc
open PySem L2
def enumF : Nat → List Dt → List Dt
  | _, [] => []
  | i, d :: ds => .tup [.int (i : Nat), d] :: enumF (i + 1) ds
theorem enumF_eq : ∀ (i : Nat) (ds : List Dt), (List.range' i ds.length).zipWith (fun (i : Nat) d => Dt.tup [.int (i : Nat), d]) ds = enumF i ds
  | _, [] => rfl
  | i, d :: ds => by
    rw [List.length_cons, List.range'_succ, List.zipWith_cons_cons, enumF_eq (i + 1) ds]
    rfl
theorem enumD_F (ds : List Dt) : enumD ds = enumF 0 ds := by
  unfold enumD
  rw [List.range_eq_range', enumF_eq]
theorem sm_few {P : List Pt} (hP : ∀ p ∈ P, p.2 < 10 ^ 31) (hl : P.length ≤ 3000) : Sm P := fun t => by
  have key : ∀ T : List (Str × Nat), (∀ p ∈ T, p.2 < 10 ^ 31) → sumK t T ≤ T.length * 10 ^ 31 := by
    intro T
    induction T with
    | nil => exact fun _ => Nat.le_refl _
    | cons p T ih =>
      intro h
      have h1 := ih fun q hq => h q (List.mem_cons_of_mem _ hq)
      have h2 := h p List.mem_cons_self
      rw [sumK, List.length_cons, Nat.add_mul, Nat.one_mul]
      split <;> omega
  have h1 := key (TT P) fun p hp => by
    unfold TT at hp
    obtain ⟨q, hq, rfl⟩ := List.mem_map.mp hp
    exact hP q hq
  have h2 : (TT P).length = P.length := by unfold TT; rw [List.length_map]
  rw [h2] at h1
  have h3 : P.length * 10 ^ 31 ≤ 3000 * 10 ^ 31 := Nat.mul_le_mul_right _ hl
  omega
theorem v_mk0 (n : Nat) : (tab (n + 5)).mk_Crowd [.tup []] = .ret (crw []) := by
  have := v_mkC n (.tup []) (P := []) (u := uT) (.inr rfl) (.inr rfl) ⟨by simp, by simp⟩ (sm_few (by simp) (by simp))
  exact this
end Mc
namespace Mc
open PySem L2
theorem dr_some_kind (n : Nat) {N : List Str} (hN : Kd N) {P : Dt → Prop} (hP : ∀ ks, Kd ks → ks.length ≤ N.length → P (.lst (ks.map .str))) : ((tab (n + 2)).lsome_kind [.ptr 1, .lst (N.map .str)]).Al P := by
  have hl := hN.len
  rw [t_lsome_kind]
  unfold b_lsome_kind
  simp -implicitDefEqProofs only [List.map_cons, List.map_nil, List.length_cons, List.length_nil, List.cons_append, List.nil_append, List.append_nil, List.replicate, Nat.reduceAdd, Nat.reduceSub, List.all_cons, List.all_nil, List.getElem?_cons_zero, List.getElem?_cons_succ, Option.bind_some, Option.bind_none, Option.map_some, Option.map_none, List.set_cons_zero, List.set_cons_succ, Bool.not_true, Bool.not_false, Bool.and_true, Bool.true_and, if_true, if_false, ↓reduceIte, and_self, and_true, true_and, and_false, false_and, Nat.zero_le, Nat.reduceLeDiff, Nat.reduceLT, Nat.reduceEqDiff, beq_self_eq_true, decide_true, decide_false, String.reduceEq, String.reduceBEq, List.lookup_nil, Option.isNone_none, Option.isNone_some, List.contains_cons, List.contains_nil, Bool.or_false, Bool.true_or, Bool.or_true, Bool.false_eq_true, reduceCtorEq, List.map_append, List.length_append, List.length_map, Int.reduceAdd, Int.reduceSub, Int.reduceLT, Int.reduceLE, Int.reduceEq, Nat.reduceBEq, eq_self, EXs, EXy]
  refine dr_shufL n (by rw [List.length_map]; omega) fun rs hp => ?_
  obtain ⟨xs, rfl, hx⟩ := perm_str hp
  have hc : (N.length : Int) + 1 = ((N.length + 1 : Nat) : Int) := by omega
  simp -implicitDefEqProofs only [List.map_cons, List.map_nil, List.length_cons, List.length_nil, List.cons_append, List.nil_append, List.append_nil, List.replicate, Nat.reduceAdd, Nat.reduceSub, List.all_cons, List.all_nil, List.getElem?_cons_zero, List.getElem?_cons_succ, Option.bind_some, Option.bind_none, Option.map_some, Option.map_none, List.set_cons_zero, List.set_cons_succ, Bool.not_true, Bool.not_false, Bool.and_true, Bool.true_and, if_true, if_false, ↓reduceIte, and_self, and_true, true_and, and_false, false_and, Nat.zero_le, Nat.reduceLeDiff, Nat.reduceLT, Nat.reduceEqDiff, beq_self_eq_true, decide_true, decide_false, String.reduceEq, String.reduceBEq, List.lookup_nil, Option.isNone_none, Option.isNone_some, List.contains_cons, List.contains_nil, Bool.or_false, Bool.true_or, Bool.or_true, Bool.false_eq_true, reduceCtorEq, List.map_append, List.length_append, List.length_map, Int.reduceAdd, Int.reduceSub, Int.reduceLT, Int.reduceLE, Int.reduceEq, Nat.reduceBEq, eq_self, EXs, EXy, hc]
  refine draw_al (by omega) (by omega) fun i hi => ?_
  have hcut : cutD (xs.map Dt.str) none (some (i : Int)) = (xs.take i).map Dt.str := by
    rw [List.map_take]
    exact cut_take _ i
  simp -implicitDefEqProofs only [List.map_cons, List.map_nil, List.length_cons, List.length_nil, List.cons_append, List.nil_append, List.append_nil, List.replicate, Nat.reduceAdd, Nat.reduceSub, List.all_cons, List.all_nil, List.getElem?_cons_zero, List.getElem?_cons_succ, Option.bind_some, Option.bind_none, Option.map_some, Option.map_none, List.set_cons_zero, List.set_cons_succ, Bool.not_true, Bool.not_false, Bool.and_true, Bool.true_and, if_true, if_false, ↓reduceIte, and_self, and_true, true_and, and_false, false_and, Nat.zero_le, Nat.reduceLeDiff, Nat.reduceLT, Nat.reduceEqDiff, beq_self_eq_true, decide_true, decide_false, String.reduceEq, String.reduceBEq, List.lookup_nil, Option.isNone_none, Option.isNone_some, List.contains_cons, List.contains_nil, Bool.or_false, Bool.true_or, Bool.or_true, Bool.false_eq_true, reduceCtorEq, List.map_append, List.length_append, List.length_map, Int.reduceAdd, Int.reduceSub, Int.reduceLT, Int.reduceLE, Int.reduceEq, Nat.reduceBEq, eq_self, EXs, EXy, slD_l, hcut]
  refine hP _ ⟨?_, ?_, ?_⟩ (by rw [List.length_take, hx.length_eq]; omega)
  · exact (List.take_sublist i xs).nodup (hx.nodup_iff.mpr hN.nd)
  · intro x hx1
    exact hN.gd x (hx.mem_iff.mp (List.mem_of_mem_take hx1))
  · rw [List.length_take, hx.length_eq]
    omega
def uB (p : Bool × Pt) : Dt := if p.1 = true then uT p.2 else uL p.2
theorem dr_lparts (n : Nat) {N : List Str} (hN : Kd N) (most : Nat) (hm : most ≤ 10 ^ 30) {P : Dt → Prop} (hP : ∀ R : List (Bool × Pt), R.length ≤ 5 → (∀ p ∈ R, Kd p.2.1 ∧ p.2.1.length ≤ N.length ∧ p.2.2 ≤ most) → P (.lst (R.map uB))) : ((tab (n + 3)).lparts [.ptr 1, .lst (N.map .str), .int (most : Nat)]).Al P := by
  rw [t_lparts]
  unfold b_lparts
  simp -implicitDefEqProofs only [List.map_cons, List.map_nil, List.length_cons, List.length_nil, List.cons_append, List.nil_append, List.append_nil, List.replicate, Nat.reduceAdd, Nat.reduceSub, List.all_cons, List.all_nil, List.getElem?_cons_zero, List.getElem?_cons_succ, Option.bind_some, Option.bind_none, Option.map_some, Option.map_none, List.set_cons_zero, List.set_cons_succ, Bool.not_true, Bool.not_false, Bool.and_true, Bool.true_and, if_true, if_false, ↓reduceIte, and_self, and_true, true_and, and_false, false_and, Nat.zero_le, Nat.reduceLeDiff, Nat.reduceLT, Nat.reduceEqDiff, beq_self_eq_true, decide_true, decide_false, String.reduceEq, String.reduceBEq, List.lookup_nil, Option.isNone_none, Option.isNone_some, List.contains_cons, List.contains_nil, Bool.or_false, Bool.true_or, Bool.or_true, Bool.false_eq_true, reduceCtorEq, List.map_append, List.length_append, List.length_map, Int.reduceAdd, Int.reduceSub, Int.reduceLT, Int.reduceLE, Int.reduceEq, Nat.reduceBEq, eq_self, EXs, EXy]
  refine draw_alI (by omega) (by omega) fun i hi => ?_
  have hr := rng_n i (by omega)
  simp -implicitDefEqProofs only [List.map_cons, List.map_nil, List.length_cons, List.length_nil, List.cons_append, List.nil_append, List.append_nil, List.replicate, Nat.reduceAdd, Nat.reduceSub, List.all_cons, List.all_nil, List.getElem?_cons_zero, List.getElem?_cons_succ, Option.bind_some, Option.bind_none, Option.map_some, Option.map_none, List.set_cons_zero, List.set_cons_succ, Bool.not_true, Bool.not_false, Bool.and_true, Bool.true_and, if_true, if_false, ↓reduceIte, and_self, and_true, true_and, and_false, false_and, Nat.zero_le, Nat.reduceLeDiff, Nat.reduceLT, Nat.reduceEqDiff, beq_self_eq_true, decide_true, decide_false, String.reduceEq, String.reduceBEq, List.lookup_nil, Option.isNone_none, Option.isNone_some, List.contains_cons, List.contains_nil, Bool.or_false, Bool.true_or, Bool.or_true, Bool.false_eq_true, reduceCtorEq, List.map_append, List.length_append, List.length_map, Int.reduceAdd, Int.reduceSub, Int.reduceLT, Int.reduceLE, Int.reduceEq, Nat.reduceBEq, eq_self, EXs, EXy, hr]
  refine for_inv (fun xs e => ∃ (R : List (Bool × Pt)) (o4 o5 : Option Sl), e = [some (.d (.ptr 1)), some (.d (.lst (N.map .str))), some (.d (.int (most : Nat))), some (.own (R.map uB)), o4, o5] ∧ R.length + xs.length = i ∧ ∀ p ∈ R, Kd p.2.1 ∧ p.2.1.length ≤ N.length ∧ p.2.2 ≤ most) ⟨[], none, none, rfl, by simp [rangeD_len], by simp⟩ ?_ ?_
  · rintro x r e ⟨R, o4, o5, rfl, hl, hR⟩
    rw [List.length_cons] at hl
    refine ⟨_, rfl, ?_⟩
    simp -implicitDefEqProofs only [List.map_cons, List.map_nil, List.length_cons, List.length_nil, List.cons_append, List.nil_append, List.append_nil, List.replicate, Nat.reduceAdd, Nat.reduceSub, List.all_cons, List.all_nil, List.getElem?_cons_zero, List.getElem?_cons_succ, Option.bind_some, Option.bind_none, Option.map_some, Option.map_none, List.set_cons_zero, List.set_cons_succ, Bool.not_true, Bool.not_false, Bool.and_true, Bool.true_and, if_true, if_false, ↓reduceIte, and_self, and_true, true_and, and_false, false_and, Nat.zero_le, Nat.reduceLeDiff, Nat.reduceLT, Nat.reduceEqDiff, beq_self_eq_true, decide_true, decide_false, String.reduceEq, String.reduceBEq, List.lookup_nil, Option.isNone_none, Option.isNone_some, List.contains_cons, List.contains_nil, Bool.or_false, Bool.true_or, Bool.or_true, Bool.false_eq_true, reduceCtorEq, List.map_append, List.length_append, List.length_map, Int.reduceAdd, Int.reduceSub, Int.reduceLT, Int.reduceLE, Int.reduceEq, Nat.reduceBEq, eq_self, EXs, EXy]
    refine dr_some_kind n hN fun ks hk hkl => ?_
    simp -implicitDefEqProofs only [List.map_cons, List.map_nil, List.length_cons, List.length_nil, List.cons_append, List.nil_append, List.append_nil, List.replicate, Nat.reduceAdd, Nat.reduceSub, List.all_cons, List.all_nil, List.getElem?_cons_zero, List.getElem?_cons_succ, Option.bind_some, Option.bind_none, Option.map_some, Option.map_none, List.set_cons_zero, List.set_cons_succ, Bool.not_true, Bool.not_false, Bool.and_true, Bool.true_and, if_true, if_false, ↓reduceIte, and_self, and_true, true_and, and_false, false_and, Nat.zero_le, Nat.reduceLeDiff, Nat.reduceLT, Nat.reduceEqDiff, beq_self_eq_true, decide_true, decide_false, String.reduceEq, String.reduceBEq, List.lookup_nil, Option.isNone_none, Option.isNone_some, List.contains_cons, List.contains_nil, Bool.or_false, Bool.true_or, Bool.or_true, Bool.false_eq_true, reduceCtorEq, List.map_append, List.length_append, List.length_map, Int.reduceAdd, Int.reduceSub, Int.reduceLT, Int.reduceLE, Int.reduceEq, Nat.reduceBEq, eq_self, EXs, EXy]
    refine draw_alI (by omega) (by omega) fun b hb => ?_
    have hc : (most : Int) + 1 = ((most + 1 : Nat) : Int) := by omega
    have hm2 : most + 1 < 10000000000000000000000000000000000000000 := by omega
    rcases (show b = 0 ∨ b = 1 by omega) with rfl | rfl
    · simp -implicitDefEqProofs only [List.map_cons, List.map_nil, List.length_cons, List.length_nil, List.cons_append, List.nil_append, List.append_nil, List.replicate, Nat.reduceAdd, Nat.reduceSub, List.all_cons, List.all_nil, List.getElem?_cons_zero, List.getElem?_cons_succ, Option.bind_some, Option.bind_none, Option.map_some, Option.map_none, List.set_cons_zero, List.set_cons_succ, Bool.not_true, Bool.not_false, Bool.and_true, Bool.true_and, if_true, if_false, ↓reduceIte, and_self, and_true, true_and, and_false, false_and, Nat.zero_le, Nat.reduceLeDiff, Nat.reduceLT, Nat.reduceEqDiff, beq_self_eq_true, decide_true, decide_false, String.reduceEq, String.reduceBEq, List.lookup_nil, Option.isNone_none, Option.isNone_some, List.contains_cons, List.contains_nil, Bool.or_false, Bool.true_or, Bool.or_true, Bool.false_eq_true, reduceCtorEq, List.map_append, List.length_append, List.length_map, Int.reduceAdd, Int.reduceSub, Int.reduceLT, Int.reduceLE, Int.reduceEq, Nat.reduceBEq, eq_self, EXs, EXy, nc0, hc]
      refine draw_al (by omega) hm2 fun m hm => ?_
      have h2 : cAppend [Rv.d (.tup [.tup (ks.map .str), .int (m : Nat)])] (R.map uB) = some (.non, R.map uB ++ [uB (true, ks, m)]) := cAppend_n (uB (true, ks, m)) (R.map uB) (by rw [List.length_map]; omega)
      simp -implicitDefEqProofs only [List.map_cons, List.map_nil, List.length_cons, List.length_nil, List.cons_append, List.nil_append, List.append_nil, List.replicate, Nat.reduceAdd, Nat.reduceSub, List.all_cons, List.all_nil, List.getElem?_cons_zero, List.getElem?_cons_succ, Option.bind_some, Option.bind_none, Option.map_some, Option.map_none, List.set_cons_zero, List.set_cons_succ, Bool.not_true, Bool.not_false, Bool.and_true, Bool.true_and, if_true, if_false, ↓reduceIte, and_self, and_true, true_and, and_false, false_and, Nat.zero_le, Nat.reduceLeDiff, Nat.reduceLT, Nat.reduceEqDiff, beq_self_eq_true, decide_true, decide_false, String.reduceEq, String.reduceBEq, List.lookup_nil, Option.isNone_none, Option.isNone_some, List.contains_cons, List.contains_nil, Bool.or_false, Bool.true_or, Bool.or_true, Bool.false_eq_true, reduceCtorEq, List.map_append, List.length_append, List.length_map, Int.reduceAdd, Int.reduceSub, Int.reduceLT, Int.reduceLE, Int.reduceEq, Nat.reduceBEq, eq_self, EXs, EXy, h2, flI_nx]
      refine ⟨R ++ [(true, ks, m)], some (.d x), some (.d (.lst (ks.map .str))), ?_, by rw [List.length_append, List.length_singleton]; omega, fun p hp => ?_⟩
      · rw [List.map_append]
        rfl
      · rcases List.mem_append.mp hp with hp | hp
        · exact hR p hp
        · rw [List.mem_singleton.mp hp]
          exact ⟨hk, hkl, by show m ≤ most; omega⟩
    · simp -implicitDefEqProofs only [List.map_cons, List.map_nil, List.length_cons, List.length_nil, List.cons_append, List.nil_append, List.append_nil, List.replicate, Nat.reduceAdd, Nat.reduceSub, List.all_cons, List.all_nil, List.getElem?_cons_zero, List.getElem?_cons_succ, Option.bind_some, Option.bind_none, Option.map_some, Option.map_none, List.set_cons_zero, List.set_cons_succ, Bool.not_true, Bool.not_false, Bool.and_true, Bool.true_and, if_true, if_false, ↓reduceIte, and_self, and_true, true_and, and_false, false_and, Nat.zero_le, Nat.reduceLeDiff, Nat.reduceLT, Nat.reduceEqDiff, beq_self_eq_true, decide_true, decide_false, String.reduceEq, String.reduceBEq, List.lookup_nil, Option.isNone_none, Option.isNone_some, List.contains_cons, List.contains_nil, Bool.or_false, Bool.true_or, Bool.or_true, Bool.false_eq_true, reduceCtorEq, List.map_append, List.length_append, List.length_map, Int.reduceAdd, Int.reduceSub, Int.reduceLT, Int.reduceLE, Int.reduceEq, Nat.reduceBEq, eq_self, EXs, EXy, nc1, hc]
      refine draw_al (by omega) hm2 fun m hm => ?_
      have h2 : cAppend [Rv.d (.tup [.lst (ks.map .str), .int (m : Nat)])] (R.map uB) = some (.non, R.map uB ++ [uB (false, ks, m)]) := cAppend_n (uB (false, ks, m)) (R.map uB) (by rw [List.length_map]; omega)
      simp -implicitDefEqProofs only [List.map_cons, List.map_nil, List.length_cons, List.length_nil, List.cons_append, List.nil_append, List.append_nil, List.replicate, Nat.reduceAdd, Nat.reduceSub, List.all_cons, List.all_nil, List.getElem?_cons_zero, List.getElem?_cons_succ, Option.bind_some, Option.bind_none, Option.map_some, Option.map_none, List.set_cons_zero, List.set_cons_succ, Bool.not_true, Bool.not_false, Bool.and_true, Bool.true_and, if_true, if_false, ↓reduceIte, and_self, and_true, true_and, and_false, false_and, Nat.zero_le, Nat.reduceLeDiff, Nat.reduceLT, Nat.reduceEqDiff, beq_self_eq_true, decide_true, decide_false, String.reduceEq, String.reduceBEq, List.lookup_nil, Option.isNone_none, Option.isNone_some, List.contains_cons, List.contains_nil, Bool.or_false, Bool.true_or, Bool.or_true, Bool.false_eq_true, reduceCtorEq, List.map_append, List.length_append, List.length_map, Int.reduceAdd, Int.reduceSub, Int.reduceLT, Int.reduceLE, Int.reduceEq, Nat.reduceBEq, eq_self, EXs, EXy, h2, flI_nx]
      refine ⟨R ++ [(false, ks, m)], some (.d x), some (.d (.lst (ks.map .str))), ?_, by rw [List.length_append, List.length_singleton]; omega, fun p hp => ?_⟩
      · rw [List.map_append]
        rfl
      · rcases List.mem_append.mp hp with hp | hp
        · exact hR p hp
        · rw [List.mem_singleton.mp hp]
          exact ⟨hk, hkl, by show m ≤ most; omega⟩
  · rintro e ⟨R, o4, o5, rfl, hl, hR⟩
    simp -implicitDefEqProofs only [List.map_cons, List.map_nil, List.length_cons, List.length_nil, List.cons_append, List.nil_append, List.append_nil, List.replicate, Nat.reduceAdd, Nat.reduceSub, List.all_cons, List.all_nil, List.getElem?_cons_zero, List.getElem?_cons_succ, Option.bind_some, Option.bind_none, Option.map_some, Option.map_none, List.set_cons_zero, List.set_cons_succ, Bool.not_true, Bool.not_false, Bool.and_true, Bool.true_and, if_true, if_false, ↓reduceIte, and_self, and_true, true_and, and_false, false_and, Nat.zero_le, Nat.reduceLeDiff, Nat.reduceLT, Nat.reduceEqDiff, beq_self_eq_true, decide_true, decide_false, String.reduceEq, String.reduceBEq, List.lookup_nil, Option.isNone_none, Option.isNone_some, List.contains_cons, List.contains_nil, Bool.or_false, Bool.true_or, Bool.or_true, Bool.false_eq_true, reduceCtorEq, List.map_append, List.length_append, List.length_map, Int.reduceAdd, Int.reduceSub, Int.reduceLT, Int.reduceLE, Int.reduceEq, Nat.reduceBEq, eq_self, EXs, EXy]
    rw [List.length_nil] at hl
    exact hP R (by omega) hR
end Mc
namespace Mc
open PySem L2
theorem v_xmkOk (n : Nat) (D : Dt) {α : Type} {R : List α} {pt : α → Pt} {u : α → Dt} (hup : ∀ p : α, ∃ kD, u p = .tup [kD, .int ((pt p).2 : Nat)] ∧ (kD = .lst ((pt p).1.map .str) ∨ kD = .tup ((pt p).1.map .str))) (hD : D = .lst (R.map u) ∨ D = .tup (R.map u)) (h : PtOk (R.map pt)) (hS : Sm (R.map pt)) : (tab (n + 5)).X_mk_Crowd [D] = .ret (.ok (crw (NF (TT (R.map pt))))) := by
  have hkd : ∀ p ∈ R, Kd (pt p).1 := fun p hp => h.kd (pt p) (List.mem_map.mpr ⟨p, hp, rfl⟩)
  have hf := h.few
  rw [List.length_map] at hf
  have h5 : R.length ≤ 50000 := by omega
  have hi : iSeqD [.d D] = some (R.map u) := by rcases hD with rfl | rfl <;> rfl
  have he : iEnum [.d D] = some (enumD (R.map u)) := by rcases hD with rfl | rfl <;> rfl
  have hs : (tab (n + 4)).is_sequence [D] = .ret (.bl true) := by
    rcases hD with rfl | rfl
    · exact v_is_seqL _ _
    · exact v_is_seqT _ _
  rw [t_X_mk_Crowd]
  unfold bX_Crowd___init__
  simp -implicitDefEqProofs only [List.map_cons, List.map_nil, List.length_cons, List.length_nil, List.cons_append, List.nil_append, List.append_nil, List.replicate, Nat.reduceAdd, Nat.reduceSub, List.all_cons, List.all_nil, List.getElem?_cons_zero, List.getElem?_cons_succ, Option.bind_some, Option.bind_none, Option.map_some, Option.map_none, List.set_cons_zero, List.set_cons_succ, Bool.not_true, Bool.not_false, Bool.and_true, Bool.true_and, if_true, if_false, ↓reduceIte, and_self, and_true, true_and, and_false, false_and, Nat.zero_le, Nat.reduceLeDiff, Nat.reduceLT, Nat.reduceEqDiff, beq_self_eq_true, decide_true, decide_false, String.reduceEq, String.reduceBEq, List.lookup_nil, Option.isNone_none, Option.isNone_some, List.contains_cons, List.contains_nil, Bool.or_false, Bool.true_or, Bool.or_true, Bool.false_eq_true, reduceCtorEq, List.map_append, List.length_append, List.length_map, Int.reduceAdd, Int.reduceSub, Int.reduceLT, Int.reduceLE, Int.reduceEq, Nat.reduceBEq, eq_self, EXs, EXy, hs, he]
  obtain ⟨e2, hk, o2, o3, hr, rfl⟩ := for_ret (g := gT (gsC (gN 2) (gsC (gN 3) gs0))) (b := sIf (xNotT (xTest (xF (cF 1 (tab (n + 4)).is_part []) (xCons (xVar 3) xNil)))) (sRaise 1000 "at" (xVar 2)) sNext)
    (fun r e => ∃ o2 o3 : Option Sl, (∀ x ∈ r, ∃ (i : Nat) (p : α), p ∈ R ∧ x = .tup [.int (i : Nat), u p]) ∧ e = [some (.ob 3 []), some (.d D), o2, o3, none, none]) (xs := enumD (R.map u)) (e := [some (.ob 3 []), some (.d D), none, none, none, none]) ⟨none, none, fun x hx => by
      obtain ⟨i, d, hd, rfl⟩ := enum_mem hx
      obtain ⟨p, hp, rfl⟩ := List.mem_map.mp hd
      exact ⟨i, p, hp, rfl⟩, rfl⟩ (by
    rintro x r e ⟨o2, o3, hr, rfl⟩
    obtain ⟨i, p, hp, rfl⟩ := hr x List.mem_cons_self
    obtain ⟨kD, hq, hkD⟩ := hup p
    have := v_is_part (n + 1) kD (pt p).1 (pt p).2 hkD (hkd p hp)
    rw [← hq] at this
    refine ⟨[some (.ob 3 []), some (.d D), some (.d (.int (i : Nat))), some (.d (u p)), none, none], [some (.ob 3 []), some (.d D), some (.d (.int (i : Nat))), some (.d (u p)), none, none], rfl, ?_, some (.d (.int (i : Nat))), some (.d (u p)), fun y hy => hr y (List.mem_cons_of_mem _ hy), rfl⟩
    simp -implicitDefEqProofs only [List.map_cons, List.map_nil, List.length_cons, List.length_nil, List.cons_append, List.nil_append, List.append_nil, List.replicate, Nat.reduceAdd, Nat.reduceSub, List.all_cons, List.all_nil, List.getElem?_cons_zero, List.getElem?_cons_succ, Option.bind_some, Option.bind_none, Option.map_some, Option.map_none, List.set_cons_zero, List.set_cons_succ, Bool.not_true, Bool.not_false, Bool.and_true, Bool.true_and, if_true, if_false, ↓reduceIte, and_self, and_true, true_and, and_false, false_and, Nat.zero_le, Nat.reduceLeDiff, Nat.reduceLT, Nat.reduceEqDiff, beq_self_eq_true, decide_true, decide_false, String.reduceEq, String.reduceBEq, List.lookup_nil, Option.isNone_none, Option.isNone_some, List.contains_cons, List.contains_nil, Bool.or_false, Bool.true_or, Bool.or_true, Bool.false_eq_true, reduceCtorEq, List.map_append, List.length_append, List.length_map, Int.reduceAdd, Int.reduceSub, Int.reduceLT, Int.reduceLE, Int.reduceEq, Nat.reduceBEq, eq_self, EXs, EXy, this])
  simp -implicitDefEqProofs only [List.map_cons, List.map_nil, List.length_cons, List.length_nil, List.cons_append, List.nil_append, List.append_nil, List.replicate, Nat.reduceAdd, Nat.reduceSub, List.all_cons, List.all_nil, List.getElem?_cons_zero, List.getElem?_cons_succ, Option.bind_some, Option.bind_none, Option.map_some, Option.map_none, List.set_cons_zero, List.set_cons_succ, Bool.not_true, Bool.not_false, Bool.and_true, Bool.true_and, if_true, if_false, ↓reduceIte, and_self, and_true, true_and, and_false, false_and, Nat.zero_le, Nat.reduceLeDiff, Nat.reduceLT, Nat.reduceEqDiff, beq_self_eq_true, decide_true, decide_false, String.reduceEq, String.reduceBEq, List.lookup_nil, Option.isNone_none, Option.isNone_some, List.contains_cons, List.contains_nil, Bool.or_false, Bool.true_or, Bool.or_true, Bool.false_eq_true, reduceCtorEq, List.map_append, List.length_append, List.length_map, Int.reduceAdd, Int.reduceSub, Int.reduceLT, Int.reduceLE, Int.reduceEq, Nat.reduceBEq, eq_self, EXs, EXy, hk, hi, h5]
  rw [lc_mp (v := qD ∘ pt)]
  rotate_left
  · intro p hp
    obtain ⟨kD, hq, hkD⟩ := hup p
    have hl := (hkd p hp).len
    have := v_ascD (n + 3) kD (pt p).1 hkD (by omega)
    rw [hq]
    refine ⟨_, rfl, rfl, ?_⟩
    simp -implicitDefEqProofs only [List.map_cons, List.map_nil, List.length_cons, List.length_nil, List.cons_append, List.nil_append, List.append_nil, List.replicate, Nat.reduceAdd, Nat.reduceSub, List.all_cons, List.all_nil, List.getElem?_cons_zero, List.getElem?_cons_succ, Option.bind_some, Option.bind_none, Option.map_some, Option.map_none, List.set_cons_zero, List.set_cons_succ, Bool.not_true, Bool.not_false, Bool.and_true, Bool.true_and, if_true, if_false, ↓reduceIte, and_self, and_true, true_and, and_false, false_and, Nat.zero_le, Nat.reduceLeDiff, Nat.reduceLT, Nat.reduceEqDiff, beq_self_eq_true, decide_true, decide_false, String.reduceEq, String.reduceBEq, List.lookup_nil, Option.isNone_none, Option.isNone_some, List.contains_cons, List.contains_nil, Bool.or_false, Bool.true_or, Bool.or_true, Bool.false_eq_true, reduceCtorEq, List.map_append, List.length_append, List.length_map, Int.reduceAdd, Int.reduceSub, Int.reduceLT, Int.reduceLE, Int.reduceEq, Nat.reduceBEq, eq_self, EXs, EXy, this, qD, Function.comp_apply]
  have ha := v_added (n + 3) h
  rw [List.map_map] at ha
  have h6 : (NF (TT (R.map pt))).length ≤ 50000 := Nat.le_trans (nf_few h) (by decide)
  simp -implicitDefEqProofs only [List.map_cons, List.map_nil, List.length_cons, List.length_nil, List.cons_append, List.nil_append, List.append_nil, List.replicate, Nat.reduceAdd, Nat.reduceSub, List.all_cons, List.all_nil, List.getElem?_cons_zero, List.getElem?_cons_succ, Option.bind_some, Option.bind_none, Option.map_some, Option.map_none, List.set_cons_zero, List.set_cons_succ, Bool.not_true, Bool.not_false, Bool.and_true, Bool.true_and, if_true, if_false, ↓reduceIte, and_self, and_true, true_and, and_false, false_and, Nat.zero_le, Nat.reduceLeDiff, Nat.reduceLT, Nat.reduceEqDiff, beq_self_eq_true, decide_true, decide_false, String.reduceEq, String.reduceBEq, List.lookup_nil, Option.isNone_none, Option.isNone_some, List.contains_cons, List.contains_nil, Bool.or_false, Bool.true_or, Bool.or_true, Bool.false_eq_true, reduceCtorEq, List.map_append, List.length_append, List.length_map, Int.reduceAdd, Int.reduceSub, Int.reduceLT, Int.reduceLE, Int.reduceEq, Nat.reduceBEq, eq_self, EXs, EXy, ha, h6]
  rw [lc_mp (v := fun p => .str (scr p))]
  rotate_left
  · intro p hp
    obtain ⟨hkd, hm⟩ := nf_ok h hS hp
    have h7 := fStr_n hm
    have hw := words_ok hkd hm
    have hl := hkd.len
    have h8 : fJoin [.str " ", .lst (.str (numS p.2) :: (wd p.1).map .str)] = some (.str (scr p)) := fJoin_b (ws := numS p.2 :: wd p.1) rfl (fun w hw2 => Nat.le_trans (hw.1 w hw2) (by decide)) (by rw [List.length_cons]; omega) (by decide +kernel)
    have h9 : (wd p.1).length + 1 ≤ 100000 := by omega
    refine ⟨_, rfl, rfl, ?_⟩
    simp -implicitDefEqProofs only [List.map_cons, List.map_nil, List.length_cons, List.length_nil, List.cons_append, List.nil_append, List.append_nil, List.replicate, Nat.reduceAdd, Nat.reduceSub, List.all_cons, List.all_nil, List.getElem?_cons_zero, List.getElem?_cons_succ, Option.bind_some, Option.bind_none, Option.map_some, Option.map_none, List.set_cons_zero, List.set_cons_succ, Bool.not_true, Bool.not_false, Bool.and_true, Bool.true_and, if_true, if_false, ↓reduceIte, and_self, and_true, true_and, and_false, false_and, Nat.zero_le, Nat.reduceLeDiff, Nat.reduceLT, Nat.reduceEqDiff, beq_self_eq_true, decide_true, decide_false, String.reduceEq, String.reduceBEq, List.lookup_nil, Option.isNone_none, Option.isNone_some, List.contains_cons, List.contains_nil, Bool.or_false, Bool.true_or, Bool.or_true, Bool.false_eq_true, reduceCtorEq, List.map_append, List.length_append, List.length_map, Int.reduceAdd, Int.reduceSub, Int.reduceLT, Int.reduceLE, Int.reduceEq, Nat.reduceBEq, eq_self, EXs, EXy, h7, h8, h9]
  simp -implicitDefEqProofs only [List.map_cons, List.map_nil, List.length_cons, List.length_nil, List.cons_append, List.nil_append, List.append_nil, List.replicate, Nat.reduceAdd, Nat.reduceSub, List.all_cons, List.all_nil, List.getElem?_cons_zero, List.getElem?_cons_succ, Option.bind_some, Option.bind_none, Option.map_some, Option.map_none, List.set_cons_zero, List.set_cons_succ, Bool.not_true, Bool.not_false, Bool.and_true, Bool.true_and, if_true, if_false, ↓reduceIte, and_self, and_true, true_and, and_false, false_and, Nat.zero_le, Nat.reduceLeDiff, Nat.reduceLT, Nat.reduceEqDiff, beq_self_eq_true, decide_true, decide_false, String.reduceEq, String.reduceBEq, List.lookup_nil, Option.isNone_none, Option.isNone_some, List.contains_cons, List.contains_nil, Bool.or_false, Bool.true_or, Bool.or_true, Bool.false_eq_true, reduceCtorEq, List.map_append, List.length_append, List.length_map, Int.reduceAdd, Int.reduceSub, Int.reduceLT, Int.reduceLE, Int.reduceEq, Nat.reduceBEq, eq_self, EXs, EXy, h6]
  rw [lc_mp (v := fun p : Str × Nat => .int (p.2 : Nat))]
  rotate_left
  · intro p hp
    refine ⟨_, rfl, rfl, ?_⟩
    simp -implicitDefEqProofs only [List.map_cons, List.map_nil, List.length_cons, List.length_nil, List.cons_append, List.nil_append, List.append_nil, List.replicate, Nat.reduceAdd, Nat.reduceSub, List.all_cons, List.all_nil, List.getElem?_cons_zero, List.getElem?_cons_succ, Option.bind_some, Option.bind_none, Option.map_some, Option.map_none, List.set_cons_zero, List.set_cons_succ, Bool.not_true, Bool.not_false, Bool.and_true, Bool.true_and, if_true, if_false, ↓reduceIte, and_self, and_true, true_and, and_false, false_and, Nat.zero_le, Nat.reduceLeDiff, Nat.reduceLT, Nat.reduceEqDiff, beq_self_eq_true, decide_true, decide_false, String.reduceEq, String.reduceBEq, List.lookup_nil, Option.isNone_none, Option.isNone_some, List.contains_cons, List.contains_nil, Bool.or_false, Bool.true_or, Bool.or_true, Bool.false_eq_true, reduceCtorEq, List.map_append, List.length_append, List.length_map, Int.reduceAdd, Int.reduceSub, Int.reduceLT, Int.reduceLE, Int.reduceEq, Nat.reduceBEq, eq_self, EXs, EXy]
  have h10 : fSum [.lst ((NF (TT (R.map pt))).map fun p => Dt.int (p.2 : Nat))] = some (.int ((NF (TT (R.map pt))).map fun p => ((p.2 : Nat) : Int)).sum) := by
    rw [← fSum_map, List.map_map]
    rfl
  simp -implicitDefEqProofs only [List.map_cons, List.map_nil, List.length_cons, List.length_nil, List.cons_append, List.nil_append, List.append_nil, List.replicate, Nat.reduceAdd, Nat.reduceSub, List.all_cons, List.all_nil, List.getElem?_cons_zero, List.getElem?_cons_succ, Option.bind_some, Option.bind_none, Option.map_some, Option.map_none, List.set_cons_zero, List.set_cons_succ, Bool.not_true, Bool.not_false, Bool.and_true, Bool.true_and, if_true, if_false, ↓reduceIte, and_self, and_true, true_and, and_false, false_and, Nat.zero_le, Nat.reduceLeDiff, Nat.reduceLT, Nat.reduceEqDiff, beq_self_eq_true, decide_true, decide_false, String.reduceEq, String.reduceBEq, List.lookup_nil, Option.isNone_none, Option.isNone_some, List.contains_cons, List.contains_nil, Bool.or_false, Bool.true_or, Bool.or_true, Bool.false_eq_true, reduceCtorEq, List.map_append, List.length_append, List.length_map, Int.reduceAdd, Int.reduceSub, Int.reduceLT, Int.reduceLE, Int.reduceEq, Nat.reduceBEq, eq_self, EXs, EXy, h10]
  rfl
theorem v_xmkBad (n : Nat) (D : Dt) {ds1 ds2 : List Dt} {x : Dt} (hD : D = .lst (ds1 ++ x :: ds2) ∨ D = .tup (ds1 ++ x :: ds2)) (h1 : ∀ d ∈ ds1, (tab (n + 4)).is_part [d] = .ret (.bl true)) (h2 : (tab (n + 4)).is_part [x] = .ret (.bl false)) : (tab (n + 5)).X_mk_Crowd [D] = .ret (.ex 1000 "at" (.int (ds1.length : Nat))) := by
  have he : iEnum [.d D] = some (enumF 0 (ds1 ++ x :: ds2)) := by
    rw [← enumD_F]
    rcases hD with rfl | rfl <;> rfl
  have hs : (tab (n + 4)).is_sequence [D] = .ret (.bl true) := by
    rcases hD with rfl | rfl
    · exact v_is_seqL _ _
    · exact v_is_seqT _ _
  have key : ∀ (i : Nat) (ds : List Dt) (o2 o3 : Option Sl), (∀ d ∈ ds, (tab (n + 4)).is_part [d] = .ret (.bl true)) → ∃ e : En, e.length = 6 ∧ e[0]? = some (some (.ob 3 [])) ∧ forLoop (gT (gsC (gN 2) (gsC (gN 3) gs0))) (sIf (xNotT (xTest (xF (cF 1 (tab (n + 4)).is_part []) (xCons (xVar 3) xNil)))) (sRaise 1000 "at" (xVar 2)) sNext) (enumF i (ds ++ x :: ds2)) [some (.ob 3 []), some (.d D), o2, o3, none, none] = .ret (.xc 1000 "at" (.int ((i + ds.length : Nat) : Int)) e) := by
    intro i ds
    induction ds generalizing i with
    | nil =>
      intro o2 o3 _
      refine ⟨[some (.ob 3 []), some (.d D), some (.d (.int (i : Nat))), some (.d x), none, none], rfl, rfl, ?_⟩
      have ea : ((i + ([] : List Dt).length : Nat) : Int) = (i : Int) := by simp
      rw [ea]
      show forLoop _ _ (.tup [.int (i : Nat), x] :: enumF (i + 1) ds2) _ = _
      unfold forLoop
      simp -implicitDefEqProofs only [List.map_cons, List.map_nil, List.length_cons, List.length_nil, List.cons_append, List.nil_append, List.append_nil, List.replicate, Nat.reduceAdd, Nat.reduceSub, List.all_cons, List.all_nil, List.getElem?_cons_zero, List.getElem?_cons_succ, Option.bind_some, Option.bind_none, Option.map_some, Option.map_none, List.set_cons_zero, List.set_cons_succ, Bool.not_true, Bool.not_false, Bool.and_true, Bool.true_and, if_true, if_false, ↓reduceIte, and_self, and_true, true_and, and_false, false_and, Nat.zero_le, Nat.reduceLeDiff, Nat.reduceLT, Nat.reduceEqDiff, beq_self_eq_true, decide_true, decide_false, String.reduceEq, String.reduceBEq, List.lookup_nil, Option.isNone_none, Option.isNone_some, List.contains_cons, List.contains_nil, Bool.or_false, Bool.true_or, Bool.or_true, Bool.false_eq_true, reduceCtorEq, List.map_append, List.length_append, List.length_map, Int.reduceAdd, Int.reduceSub, Int.reduceLT, Int.reduceLE, Int.reduceEq, Nat.reduceBEq, eq_self, EXs, EXy, h2]
    | cons d ds ih =>
      intro o2 o3 hd
      obtain ⟨e, e1, e2, e3⟩ := ih (i + 1) (some (.d (.int (i : Nat)))) (some (.d d)) fun y hy => hd y (List.mem_cons_of_mem _ hy)
      have hh := hd d List.mem_cons_self
      refine ⟨e, e1, e2, ?_⟩
      have ea : ((i + (d :: ds).length : Nat) : Int) = ((i + 1 + ds.length : Nat) : Int) := by rw [List.length_cons]; omega
      rw [ea]
      show forLoop _ _ (.tup [.int (i : Nat), d] :: enumF (i + 1) (ds ++ x :: ds2)) _ = _
      unfold forLoop
      simp -implicitDefEqProofs only [List.map_cons, List.map_nil, List.length_cons, List.length_nil, List.cons_append, List.nil_append, List.append_nil, List.replicate, Nat.reduceAdd, Nat.reduceSub, List.all_cons, List.all_nil, List.getElem?_cons_zero, List.getElem?_cons_succ, Option.bind_some, Option.bind_none, Option.map_some, Option.map_none, List.set_cons_zero, List.set_cons_succ, Bool.not_true, Bool.not_false, Bool.and_true, Bool.true_and, if_true, if_false, ↓reduceIte, and_self, and_true, true_and, and_false, false_and, Nat.zero_le, Nat.reduceLeDiff, Nat.reduceLT, Nat.reduceEqDiff, beq_self_eq_true, decide_true, decide_false, String.reduceEq, String.reduceBEq, List.lookup_nil, Option.isNone_none, Option.isNone_some, List.contains_cons, List.contains_nil, Bool.or_false, Bool.true_or, Bool.or_true, Bool.false_eq_true, reduceCtorEq, List.map_append, List.length_append, List.length_map, Int.reduceAdd, Int.reduceSub, Int.reduceLT, Int.reduceLE, Int.reduceEq, Nat.reduceBEq, eq_self, EXs, EXy, hh]
      exact e3
  obtain ⟨e, e1, e2, e3⟩ := key 0 ds1 none none h1
  rw [Nat.zero_add] at e3
  rw [t_X_mk_Crowd]
  unfold bX_Crowd___init__
  simp -implicitDefEqProofs only [List.map_cons, List.map_nil, List.length_cons, List.length_nil, List.cons_append, List.nil_append, List.append_nil, List.replicate, Nat.reduceAdd, Nat.reduceSub, List.all_cons, List.all_nil, List.getElem?_cons_zero, List.getElem?_cons_succ, Option.bind_some, Option.bind_none, Option.map_some, Option.map_none, List.set_cons_zero, List.set_cons_succ, Bool.not_true, Bool.not_false, Bool.and_true, Bool.true_and, if_true, if_false, ↓reduceIte, and_self, and_true, true_and, and_false, false_and, Nat.zero_le, Nat.reduceLeDiff, Nat.reduceLT, Nat.reduceEqDiff, beq_self_eq_true, decide_true, decide_false, String.reduceEq, String.reduceBEq, List.lookup_nil, Option.isNone_none, Option.isNone_some, List.contains_cons, List.contains_nil, Bool.or_false, Bool.true_or, Bool.or_true, Bool.false_eq_true, reduceCtorEq, List.map_append, List.length_append, List.length_map, Int.reduceAdd, Int.reduceSub, Int.reduceLT, Int.reduceLE, Int.reduceEq, Nat.reduceBEq, eq_self, EXs, EXy, hs, he, e3, e2, Option.isSome_some]
theorem v_xmkNo (n : Nat) (D : Dt) (hs : (tab (n + 1)).is_sequence [D] = .ret (.bl false)) : (tab (n + 2)).X_mk_Crowd [D] = .ret (.ex 1000 "at" (.int 0)) := by
  rw [t_X_mk_Crowd]
  unfold bX_Crowd___init__
  simp -implicitDefEqProofs only [List.map_cons, List.map_nil, List.length_cons, List.length_nil, List.cons_append, List.nil_append, List.append_nil, List.replicate, Nat.reduceAdd, Nat.reduceSub, List.all_cons, List.all_nil, List.getElem?_cons_zero, List.getElem?_cons_succ, Option.bind_some, Option.bind_none, Option.map_some, Option.map_none, List.set_cons_zero, List.set_cons_succ, Bool.not_true, Bool.not_false, Bool.and_true, Bool.true_and, if_true, if_false, ↓reduceIte, and_self, and_true, true_and, and_false, false_and, Nat.zero_le, Nat.reduceLeDiff, Nat.reduceLT, Nat.reduceEqDiff, beq_self_eq_true, decide_true, decide_false, String.reduceEq, String.reduceBEq, List.lookup_nil, Option.isNone_none, Option.isNone_some, List.contains_cons, List.contains_nil, Bool.or_false, Bool.true_or, Bool.or_true, Bool.false_eq_true, reduceCtorEq, List.map_append, List.length_append, List.length_map, Int.reduceAdd, Int.reduceSub, Int.reduceLT, Int.reduceLE, Int.reduceEq, Nat.reduceBEq, eq_self, EXs, EXy, hs, Option.isSome_some]
theorem v_lrefX (n : Nat) (D : Dt) (i : Int) (h : (tab n).X_mk_Crowd [D] = .ret (.ex 1000 "at" (.int i))) : (tab (n + 1)).lrefused [D] = .ret (.int i) := by
  rw [t_lrefused]
  unfold b_lrefused
  simp -implicitDefEqProofs only [List.map_cons, List.map_nil, List.length_cons, List.length_nil, List.cons_append, List.nil_append, List.append_nil, List.replicate, Nat.reduceAdd, Nat.reduceSub, List.all_cons, List.all_nil, List.getElem?_cons_zero, List.getElem?_cons_succ, Option.bind_some, Option.bind_none, Option.map_some, Option.map_none, List.set_cons_zero, List.set_cons_succ, Bool.not_true, Bool.not_false, Bool.and_true, Bool.true_and, if_true, if_false, ↓reduceIte, and_self, and_true, true_and, and_false, false_and, Nat.zero_le, Nat.reduceLeDiff, Nat.reduceLT, Nat.reduceEqDiff, beq_self_eq_true, decide_true, decide_false, String.reduceEq, String.reduceBEq, List.lookup_nil, Option.isNone_none, Option.isNone_some, List.contains_cons, List.contains_nil, Bool.or_false, Bool.true_or, Bool.or_true, Bool.false_eq_true, reduceCtorEq, List.map_append, List.length_append, List.length_map, Int.reduceAdd, Int.reduceSub, Int.reduceLT, Int.reduceLE, Int.reduceEq, Nat.reduceBEq, eq_self, EXs, EXy, h]
theorem v_lrefO (n : Nat) (D d : Dt) (h : (tab n).X_mk_Crowd [D] = .ret (.ok d)) : (tab (n + 1)).lrefused [D] = .ret (.str "made") := by
  rw [t_lrefused]
  unfold b_lrefused
  simp -implicitDefEqProofs only [List.map_cons, List.map_nil, List.length_cons, List.length_nil, List.cons_append, List.nil_append, List.append_nil, List.replicate, Nat.reduceAdd, Nat.reduceSub, List.all_cons, List.all_nil, List.getElem?_cons_zero, List.getElem?_cons_succ, Option.bind_some, Option.bind_none, Option.map_some, Option.map_none, List.set_cons_zero, List.set_cons_succ, Bool.not_true, Bool.not_false, Bool.and_true, Bool.true_and, if_true, if_false, ↓reduceIte, and_self, and_true, true_and, and_false, false_and, Nat.zero_le, Nat.reduceLeDiff, Nat.reduceLT, Nat.reduceEqDiff, beq_self_eq_true, decide_true, decide_false, String.reduceEq, String.reduceBEq, List.lookup_nil, Option.isNone_none, Option.isNone_some, List.contains_cons, List.contains_nil, Bool.or_false, Bool.true_or, Bool.or_true, Bool.false_eq_true, reduceCtorEq, List.map_append, List.length_append, List.length_map, Int.reduceAdd, Int.reduceSub, Int.reduceLT, Int.reduceLE, Int.reduceEq, Nat.reduceBEq, eq_self, EXs, EXy, h, kTry]
end Mc
namespace Mc
open PySem L2
theorem dr_lpickD (n : Nat) {ds : List Dt} (h0 : ds ≠ []) (hl : ds.length < 1000) {P : Dt → Prop} (hP : ∀ x ∈ ds, P x) : ((tab (n + 1)).lpick [.ptr 1, .lst ds]).Al P := by
  have hpos := List.length_pos_iff.mpr h0
  rw [t_lpick]
  unfold b_lpick
  simp -implicitDefEqProofs only [List.map_cons, List.map_nil, List.length_cons, List.length_nil, List.cons_append, List.nil_append, List.append_nil, List.replicate, Nat.reduceAdd, Nat.reduceSub, List.all_cons, List.all_nil, List.getElem?_cons_zero, List.getElem?_cons_succ, Option.bind_some, Option.bind_none, Option.map_some, Option.map_none, List.set_cons_zero, List.set_cons_succ, Bool.not_true, Bool.not_false, Bool.and_true, Bool.true_and, if_true, if_false, ↓reduceIte, and_self, and_true, true_and, and_false, false_and, Nat.zero_le, Nat.reduceLeDiff, Nat.reduceLT, Nat.reduceEqDiff, beq_self_eq_true, decide_true, decide_false, String.reduceEq, String.reduceBEq, List.lookup_nil, Option.isNone_none, Option.isNone_some, List.contains_cons, List.contains_nil, Bool.or_false, Bool.true_or, Bool.or_true, Bool.false_eq_true, reduceCtorEq, List.map_append, List.length_append, List.length_map, Int.reduceAdd, Int.reduceSub, Int.reduceLT, Int.reduceLE, Int.reduceEq, Nat.reduceBEq, eq_self, EXs, EXy]
  refine draw_al (by omega) (by omega) fun i hi => ?_
  have hix : fIx [.lst ds, .int (i : Nat)] = some ds[i] := by
    show atI _ _ = _
    exact atI_nat hi
  simp -implicitDefEqProofs only [List.map_cons, List.map_nil, List.length_cons, List.length_nil, List.cons_append, List.nil_append, List.append_nil, List.replicate, Nat.reduceAdd, Nat.reduceSub, List.all_cons, List.all_nil, List.getElem?_cons_zero, List.getElem?_cons_succ, Option.bind_some, Option.bind_none, Option.map_some, Option.map_none, List.set_cons_zero, List.set_cons_succ, Bool.not_true, Bool.not_false, Bool.and_true, Bool.true_and, if_true, if_false, ↓reduceIte, and_self, and_true, true_and, and_false, false_and, Nat.zero_le, Nat.reduceLeDiff, Nat.reduceLT, Nat.reduceEqDiff, beq_self_eq_true, decide_true, decide_false, String.reduceEq, String.reduceBEq, List.lookup_nil, Option.isNone_none, Option.isNone_some, List.contains_cons, List.contains_nil, Bool.or_false, Bool.true_or, Bool.or_true, Bool.false_eq_true, reduceCtorEq, List.map_append, List.length_append, List.length_map, Int.reduceAdd, Int.reduceSub, Int.reduceLT, Int.reduceLE, Int.reduceEq, Nat.reduceBEq, eq_self, EXs, EXy, hix]
  exact hP _ (List.getElem_mem hi)
theorem cut_drop (ds : List Dt) (i : Nat) : cutD ds (some (i : Int)) none = ds.drop i := by
  unfold cutD HT.sIx
  simp only
  rw [if_neg (by omega)]
  simp only [Int.toNat_natCast]
  by_cases h : i ≤ ds.length
  · rw [Nat.min_eq_left h]
    exact List.take_of_length_le (by rw [List.length_drop]; omega)
  · rw [Nat.min_eq_right (by omega), List.drop_length, List.drop_eq_nil_of_le (by omega)]
    simp
def oddD (a : Str) (g : Dt) : List Dt := [.non, .tup [], .tup [.tup [.str a]], .tup [.tup [.str a], .int 1, .int 2], .lst [.tup [.str a], .int 1], .tup [.tup [.str a, .str a], .int 1], .tup [.str a, .int 1], .tup [.tup [.str "all"], .int 1], .tup [.tup [.str a, .str "if"], .int 1],
  .tup [.tup [.str a], .bl true], .tup [.tup [.str a], .int (-1)], .tup [.tup [.str a], .str "1"], .tup [.tup [.str "A"], .int 1], .tup [.tup [.int 1], .int 1], .tup [.non, .int 1], .tup [.tup [.str a], .non], .str "a1", .int 3,
  .tup [.tup [g], .int 1], .tup [.tup [.str a], .int (-10000000000)]]
def isF : Tr Dt → Bool
  | .ret (.bl false) => true
  | _ => false
theorem isF_ok {t : Tr Dt} (h : isF t = true) : t = .ret (.bl false) := by
  unfold isF at h
  split at h
  · rfl
  · cases h
def isG (a : Str) : Tr Dt → Bool
  | .ret (.obj k [(k1, .str v1), (k2, .tup []), (k3, .str v3), (k4, .int v4), (k5, .tup [.str v5]), (k6, .tup [.str v6])]) => k == 5 && decide (k1 = "sign") && decide (v1 = "name") && decide (k2 = "parts") && decide (k3 = "word") && decide (v3 = a) && decide (k4 = "number") && decide (v4 = 0) && decide (k5 = "names") && decide (v5 = a) && decide (k6 = "script") && decide (v6 = a)
  | _ => false
def gpN (a : Str) : Dt := .obj 5 [("sign", .str "name"), ("parts", .tup []), ("word", .str a), ("number", .int 0), ("names", .tup [.str a]), ("script", .tup [.str a])]
theorem isG_ok {a : Str} {t : Tr Dt} (h : isG a t = true) : t = .ret (gpN a) := by
  unfold isG at h
  split at h
  · simp only [Bool.and_eq_true, decide_eq_true_eq, beq_iff_eq] at h
    obtain ⟨⟨⟨⟨⟨⟨⟨⟨⟨⟨⟨h1, h2⟩, h3⟩, h4⟩, h5⟩, h6⟩, h7⟩, h8⟩, h9⟩, h10⟩, h11⟩, h12⟩ := h
    subst h1 h2 h3 h4 h5 h6 h7 h8 h9 h10 h11 h12
    rfl
  · cases h
theorem odd_bad : (goods.all fun a => (oddD a (gpN a)).all fun o => isF ((tab 28).is_part [o])) = true := by decide +kernel
theorem named_is : (goods.all fun a => isG a ((tab 30).Group_named [.ptr 5, .str a])) = true := by decide +kernel
def isOK (c : Addr) : Tr Dt → Bool
  | .ret (.obj k _) => k == c
  | _ => false
theorem isOK_ok {c : Addr} {t : Tr Dt} (h : isOK c t = true) : ∃ fs, t = .ret (.obj c fs) := by
  unfold isOK at h
  split at h
  · rw [beq_iff_eq] at h
    subst h
    exact ⟨_, rfl⟩
  · cases h
theorem every_is2 : isOK 5 ((tab 30).Group_every [.ptr 5]) = true := by decide +kernel
theorem is_seqN (n : Nat) {D : Dt} (h : fIsi2 ks_all "list" "tuple" [D] = some (.bl false)) : (tab (n + 1)).is_sequence [D] = .ret (.bl false) := by
  rw [t_is_sequence]
  unfold b_is_sequence
  simp -implicitDefEqProofs only [List.map_cons, List.map_nil, List.length_cons, List.length_nil, List.cons_append, List.nil_append, List.append_nil, List.replicate, Nat.reduceAdd, Nat.reduceSub, List.all_cons, List.all_nil, List.getElem?_cons_zero, List.getElem?_cons_succ, Option.bind_some, Option.bind_none, Option.map_some, Option.map_none, List.set_cons_zero, List.set_cons_succ, Bool.not_true, Bool.not_false, Bool.and_true, Bool.true_and, if_true, if_false, ↓reduceIte, and_self, and_true, true_and, and_false, false_and, Nat.zero_le, Nat.reduceLeDiff, Nat.reduceLT, Nat.reduceEqDiff, beq_self_eq_true, decide_true, decide_false, String.reduceEq, String.reduceBEq, List.lookup_nil, Option.isNone_none, Option.isNone_some, List.contains_cons, List.contains_nil, Bool.or_false, Bool.true_or, Bool.or_true, Bool.false_eq_true, reduceCtorEq, List.map_append, List.length_append, List.length_map, Int.reduceAdd, Int.reduceSub, Int.reduceLT, Int.reduceLE, Int.reduceEq, Nat.reduceBEq, eq_self, EXs, EXy, h]
theorem rng6 : iRange1 [.d (.int 6)] = some (rangeD 0 6) := rng_n 6 (by omega)
theorem pow10 : fPow [.int 10, .int 10] = some (.int 10000000000) := rfl
theorem uB_up (p : Bool × Pt) : ∃ kD, uB p = .tup [kD, .int (p.2.2 : Nat)] ∧ (kD = .lst (p.2.1.map .str) ∨ kD = .tup (p.2.1.map .str)) := by
  unfold uB
  split
  · exact ⟨_, rfl, .inr rfl⟩
  · exact ⟨_, rfl, .inl rfl⟩
theorem plain_al (j : Nat) (hodd : ∀ a ∈ goods, ∀ o ∈ oddD a (gpN a), (tab (j + 4)).is_part [o] = .ret (.bl false)) (hnm : ∀ a ∈ goods, (tab (j + 6)).Group_named [.ptr 5, .str a] = .ret (gpN a)) (hev : ∃ fs, (tab (j + 6)).Group_every [.ptr 5] = .ret (.obj 5 fs)) :
    ((b_law (tab (j + 6)) [none, some (.d (.ptr 1)), none, none, none, none, none, none, none]).bind endF).Al fun d => d = .bl true := by
  obtain ⟨gfs, hev⟩ := hev
  have hmk0 := v_mk0 (j + 1)
  have bad : ∀ (D : Dt) {ds1 ds2 : List Dt} {x : Dt}, (D = .lst (ds1 ++ x :: ds2) ∨ D = .tup (ds1 ++ x :: ds2)) → (∀ d ∈ ds1, (tab (j + 4)).is_part [d] = .ret (.bl true)) → (tab (j + 4)).is_part [x] = .ret (.bl false) → (tab (j + 6)).lrefused [D] = .ret (.int (ds1.length : Nat)) := fun D {ds1 ds2 x} hD h1 h2 => v_lrefX (j + 5) D _ (v_xmkBad j D hD h1 h2)
  have no : ∀ D : Dt, fIsi2 ks_all "list" "tuple" [D] = some (.bl false) → (tab (j + 6)).lrefused [D] = .ret (.int 0) := fun D h => v_lrefX (j + 5) D _ (v_xmkNo (j + 3) D (is_seqN (j + 3) h))
  have gd1 : ∀ p : Bool × Pt, Kd p.2.1 → (tab (j + 4)).is_part [uB p] = .ret (.bl true) := fun p hp => by
    obtain ⟨kD, hq, hkD⟩ := uB_up p
    rw [hq]
    exact v_is_part (j + 1) kD p.2.1 p.2.2 hkD hp
  have okR : ∀ (D : Dt) (R : List (Bool × Pt)), (D = .lst (R.map uB) ∨ D = .tup (R.map uB)) → PtOk (R.map (·.2)) → Sm (R.map (·.2)) → (tab (j + 6)).lrefused [D] = .ret (.str "made") := fun D R hD hP hS => v_lrefO (j + 5) D _ (v_xmkOk j D (R := R) (pt := (·.2)) (u := uB) uB_up hD hP hS)
  have ag : ("a" : Str) ∈ goods := by decide +kernel
  have nonB := hodd "a" ag .non (by simp [oddD])
  unfold b_law
  simp -implicitDefEqProofs only [List.map_cons, List.map_nil, List.length_cons, List.length_nil, List.cons_append, List.nil_append, List.append_nil, List.replicate, Nat.reduceAdd, Nat.reduceSub, List.all_cons, List.all_nil, List.getElem?_cons_zero, List.getElem?_cons_succ, Option.bind_some, Option.bind_none, Option.map_some, Option.map_none, List.set_cons_zero, List.set_cons_succ, Bool.not_true, Bool.not_false, Bool.and_true, Bool.true_and, if_true, if_false, ↓reduceIte, and_self, and_true, true_and, and_false, false_and, Nat.zero_le, Nat.reduceLeDiff, Nat.reduceLT, Nat.reduceEqDiff, beq_self_eq_true, decide_true, decide_false, String.reduceEq, String.reduceBEq, List.lookup_nil, Option.isNone_none, Option.isNone_some, List.contains_cons, List.contains_nil, Bool.or_false, Bool.true_or, Bool.or_true, Bool.false_eq_true, reduceCtorEq, List.map_append, List.length_append, List.length_map, Int.reduceAdd, Int.reduceSub, Int.reduceLT, Int.reduceLE, Int.reduceEq, Nat.reduceBEq, eq_self, EXs, EXy, rng6]
  refine for_inv (fun r e => ∃ o2 o3 o4 o5 o6 o7 o8, e = [none, some (.d (.ptr 1)), o2, o3, o4, o5, o6, o7, o8]) ⟨_, _, _, _, _, _, _, rfl⟩ ?_ ?_
  · rintro v r e ⟨o2, o3, o4, o5, o6, o7, o8, rfl⟩
    refine ⟨_, rfl, ?_⟩
    simp -implicitDefEqProofs only [List.map_cons, List.map_nil, List.length_cons, List.length_nil, List.cons_append, List.nil_append, List.append_nil, List.replicate, Nat.reduceAdd, Nat.reduceSub, List.all_cons, List.all_nil, List.getElem?_cons_zero, List.getElem?_cons_succ, Option.bind_some, Option.bind_none, Option.map_some, Option.map_none, List.set_cons_zero, List.set_cons_succ, Bool.not_true, Bool.not_false, Bool.and_true, Bool.true_and, if_true, if_false, ↓reduceIte, and_self, and_true, true_and, and_false, false_and, Nat.zero_le, Nat.reduceLeDiff, Nat.reduceLT, Nat.reduceEqDiff, beq_self_eq_true, decide_true, decide_false, String.reduceEq, String.reduceBEq, List.lookup_nil, Option.isNone_none, Option.isNone_some, List.contains_cons, List.contains_nil, Bool.or_false, Bool.true_or, Bool.or_true, Bool.false_eq_true, reduceCtorEq, List.map_append, List.length_append, List.length_map, Int.reduceAdd, Int.reduceSub, Int.reduceLT, Int.reduceLE, Int.reduceEq, Nat.reduceBEq, eq_self, EXs, EXy]
    refine draw_alI (by omega) (by omega) fun i hi => ?_
    have hc : (1 : Int) + (i : Int) = ((1 + i : Nat) : Int) := by omega
    simp -implicitDefEqProofs only [List.map_cons, List.map_nil, List.length_cons, List.length_nil, List.cons_append, List.nil_append, List.append_nil, List.replicate, Nat.reduceAdd, Nat.reduceSub, List.all_cons, List.all_nil, List.getElem?_cons_zero, List.getElem?_cons_succ, Option.bind_some, Option.bind_none, Option.map_some, Option.map_none, List.set_cons_zero, List.set_cons_succ, Bool.not_true, Bool.not_false, Bool.and_true, Bool.true_and, if_true, if_false, ↓reduceIte, and_self, and_true, true_and, and_false, false_and, Nat.zero_le, Nat.reduceLeDiff, Nat.reduceLT, Nat.reduceEqDiff, beq_self_eq_true, decide_true, decide_false, String.reduceEq, String.reduceBEq, List.lookup_nil, Option.isNone_none, Option.isNone_some, List.contains_cons, List.contains_nil, Bool.or_false, Bool.true_or, Bool.or_true, Bool.false_eq_true, reduceCtorEq, List.map_append, List.length_append, List.length_map, Int.reduceAdd, Int.reduceSub, Int.reduceLT, Int.reduceLE, Int.reduceEq, Nat.reduceBEq, eq_self, EXs, EXy, hc]
    refine dr_lnames (j + 4) (1 + i) (by omega) (by omega) fun N hN => ?_
    obtain ⟨hnd, hlen, hgood⟩ := hN
    have hKN : Kd N := ⟨hnd, fun x hx => good_nm x (hgood x hx), by omega⟩
    simp -implicitDefEqProofs only [List.map_cons, List.map_nil, List.length_cons, List.length_nil, List.cons_append, List.nil_append, List.append_nil, List.replicate, Nat.reduceAdd, Nat.reduceSub, List.all_cons, List.all_nil, List.getElem?_cons_zero, List.getElem?_cons_succ, Option.bind_some, Option.bind_none, Option.map_some, Option.map_none, List.set_cons_zero, List.set_cons_succ, Bool.not_true, Bool.not_false, Bool.and_true, Bool.true_and, if_true, if_false, ↓reduceIte, and_self, and_true, true_and, and_false, false_and, Nat.zero_le, Nat.reduceLeDiff, Nat.reduceLT, Nat.reduceEqDiff, beq_self_eq_true, decide_true, decide_false, String.reduceEq, String.reduceBEq, List.lookup_nil, Option.isNone_none, Option.isNone_some, List.contains_cons, List.contains_nil, Bool.or_false, Bool.true_or, Bool.or_true, Bool.false_eq_true, reduceCtorEq, List.map_append, List.length_append, List.length_map, Int.reduceAdd, Int.reduceSub, Int.reduceLT, Int.reduceLE, Int.reduceEq, Nat.reduceBEq, eq_self, EXs, EXy]
    refine dr_lparts (j + 3) hKN 5 (by omega) fun R hR1 hR2 => ?_
    have hP : PtOk (R.map (·.2)) := ⟨fun p hp => by
      obtain ⟨q, hq, rfl⟩ := List.mem_map.mp hp
      exact (hR2 q hq).1, by rw [List.length_map]; omega⟩
    have hS : Sm (R.map (·.2)) := sm_few (fun p hp => by
      obtain ⟨q, hq, rfl⟩ := List.mem_map.mp hp
      have := (hR2 q hq).2.2
      omega) (by rw [List.length_map]; omega)
    cases N with
    | nil => simp at hlen; omega
    | cons a N =>
    have ha : a ∈ goods := hgood a List.mem_cons_self
    have hn := hnm a ha
    simp -implicitDefEqProofs only [List.map_cons, List.map_nil, List.length_cons, List.length_nil, List.cons_append, List.nil_append, List.append_nil, List.replicate, Nat.reduceAdd, Nat.reduceSub, List.all_cons, List.all_nil, List.getElem?_cons_zero, List.getElem?_cons_succ, Option.bind_some, Option.bind_none, Option.map_some, Option.map_none, List.set_cons_zero, List.set_cons_succ, Bool.not_true, Bool.not_false, Bool.and_true, Bool.true_and, if_true, if_false, ↓reduceIte, and_self, and_true, true_and, and_false, false_and, Nat.zero_le, Nat.reduceLeDiff, Nat.reduceLT, Nat.reduceEqDiff, beq_self_eq_true, decide_true, decide_false, String.reduceEq, String.reduceBEq, List.lookup_nil, Option.isNone_none, Option.isNone_some, List.contains_cons, List.contains_nil, Bool.or_false, Bool.true_or, Bool.or_true, Bool.false_eq_true, reduceCtorEq, List.map_append, List.length_append, List.length_map, Int.reduceAdd, Int.reduceSub, Int.reduceLT, Int.reduceLE, Int.reduceEq, Nat.reduceBEq, eq_self, EXs, EXy, fAddL, hn, pow10]
    have hc2 : (R.length : Int) + 1 = ((R.length + 1 : Nat) : Int) := by omega
    simp -implicitDefEqProofs only [List.map_cons, List.map_nil, List.length_cons, List.length_nil, List.cons_append, List.nil_append, List.append_nil, List.replicate, Nat.reduceAdd, Nat.reduceSub, List.all_cons, List.all_nil, List.getElem?_cons_zero, List.getElem?_cons_succ, Option.bind_some, Option.bind_none, Option.map_some, Option.map_none, List.set_cons_zero, List.set_cons_succ, Bool.not_true, Bool.not_false, Bool.and_true, Bool.true_and, if_true, if_false, ↓reduceIte, and_self, and_true, true_and, and_false, false_and, Nat.zero_le, Nat.reduceLeDiff, Nat.reduceLT, Nat.reduceEqDiff, beq_self_eq_true, decide_true, decide_false, String.reduceEq, String.reduceBEq, List.lookup_nil, Option.isNone_none, Option.isNone_some, List.contains_cons, List.contains_nil, Bool.or_false, Bool.true_or, Bool.or_true, Bool.false_eq_true, reduceCtorEq, List.map_append, List.length_append, List.length_map, Int.reduceAdd, Int.reduceSub, Int.reduceLT, Int.reduceLE, Int.reduceEq, Nat.reduceBEq, eq_self, EXs, EXy, hc2]
    refine draw_al (by omega) (by omega) fun k hk => ?_
    have k1 := cut_take (R.map uB) k
    have k2 := cut_drop (R.map uB) k
    simp -implicitDefEqProofs only [List.map_cons, List.map_nil, List.length_cons, List.length_nil, List.cons_append, List.nil_append, List.append_nil, List.replicate, Nat.reduceAdd, Nat.reduceSub, List.all_cons, List.all_nil, List.getElem?_cons_zero, List.getElem?_cons_succ, Option.bind_some, Option.bind_none, Option.map_some, Option.map_none, List.set_cons_zero, List.set_cons_succ, Bool.not_true, Bool.not_false, Bool.and_true, Bool.true_and, if_true, if_false, ↓reduceIte, and_self, and_true, true_and, and_false, false_and, Nat.zero_le, Nat.reduceLeDiff, Nat.reduceLT, Nat.reduceEqDiff, beq_self_eq_true, decide_true, decide_false, String.reduceEq, String.reduceBEq, List.lookup_nil, Option.isNone_none, Option.isNone_some, List.contains_cons, List.contains_nil, Bool.or_false, Bool.true_or, Bool.or_true, Bool.false_eq_true, reduceCtorEq, List.map_append, List.length_append, List.length_map, Int.reduceAdd, Int.reduceSub, Int.reduceLT, Int.reduceLE, Int.reduceEq, Nat.reduceBEq, eq_self, EXs, EXy, slD_l, k1]
    refine dr_lpickD (j + 5) (ds := oddD a (gpN a)) (by simp [oddD]) (by simp [oddD]) fun o ho => ?_
    have hob := hodd a ha o ho
    have htk : ((R.map uB).take k).length = k := by rw [List.length_take, List.length_map]; omega
    have hpre : ∀ d ∈ (R.map uB).take k, (tab (j + 4)).is_part [d] = .ret (.bl true) := fun d hd => by
      obtain ⟨p, hp, rfl⟩ := List.mem_map.mp (List.mem_of_mem_take hd)
      exact gd1 p (hR2 p hp).1
    have ap1 : (R.map uB).take k ++ [o] ++ (R.map uB).drop k = (R.map uB).take k ++ o :: (R.map uB).drop k := by simp
    have ap2 : (R.map uB).take k ++ [o] ++ (R.map uB).drop k ++ [.non] = (R.map uB).take k ++ o :: ((R.map uB).drop k ++ [.non]) := by simp
    have b1 := bad (.lst ((R.map uB).take k ++ [o] ++ (R.map uB).drop k)) (.inl (by rw [ap1])) hpre hob
    have b2 := bad (.tup ((R.map uB).take k ++ [o] ++ (R.map uB).drop k ++ [.non])) (.inr (by rw [ap2])) hpre hob
    have b3 := okR (.lst (R.map uB)) R (.inl rfl) hP hS
    rw [htk] at b1 b2
    have q1 : ((R.map uB).take k).length + 1 ≤ 100000 := by omega
    have q2 : ((R.map uB).take k).length + 1 + ((R.map uB).drop k).length ≤ 100000 := by rw [List.length_drop, List.length_map]; omega
    have q3 : ((R.map uB).take k).length + 1 + ((R.map uB).drop k).length + 1 ≤ 100000 := by rw [List.length_drop, List.length_map]; omega
    simp -implicitDefEqProofs only [List.map_cons, List.map_nil, List.length_cons, List.length_nil, List.cons_append, List.nil_append, List.append_nil, List.replicate, Nat.reduceAdd, Nat.reduceSub, List.all_cons, List.all_nil, List.getElem?_cons_zero, List.getElem?_cons_succ, Option.bind_some, Option.bind_none, Option.map_some, Option.map_none, List.set_cons_zero, List.set_cons_succ, Bool.not_true, Bool.not_false, Bool.and_true, Bool.true_and, if_true, if_false, ↓reduceIte, and_self, and_true, true_and, and_false, false_and, Nat.zero_le, Nat.reduceLeDiff, Nat.reduceLT, Nat.reduceEqDiff, beq_self_eq_true, decide_true, decide_false, String.reduceEq, String.reduceBEq, List.lookup_nil, Option.isNone_none, Option.isNone_some, List.contains_cons, List.contains_nil, Bool.or_false, Bool.true_or, Bool.or_true, Bool.false_eq_true, reduceCtorEq, List.map_append, List.length_append, List.length_map, Int.reduceAdd, Int.reduceSub, Int.reduceLT, Int.reduceLE, Int.reduceEq, Nat.reduceBEq, eq_self, EXs, EXy, slD_l, k1, k2, fAddL, q1, q2, q3, b1, b2, b3, hmk0, hev]
    refine dr_lpickD (j + 5) (by simp) (by simp) fun o ho => ?_
    have ho2 : fIsi2 ks_all "list" "tuple" [o] = some (.bl false) := by
      simp only [List.mem_cons, List.not_mem_nil, or_false] at ho
      rcases ho with rfl | rfl | rfl | rfl | rfl | rfl | rfl <;> rfl
    have b4 := no o ho2
    simp -implicitDefEqProofs only [List.map_cons, List.map_nil, List.length_cons, List.length_nil, List.cons_append, List.nil_append, List.append_nil, List.replicate, Nat.reduceAdd, Nat.reduceSub, List.all_cons, List.all_nil, List.getElem?_cons_zero, List.getElem?_cons_succ, Option.bind_some, Option.bind_none, Option.map_some, Option.map_none, List.set_cons_zero, List.set_cons_succ, Bool.not_true, Bool.not_false, Bool.and_true, Bool.true_and, if_true, if_false, ↓reduceIte, and_self, and_true, true_and, and_false, false_and, Nat.zero_le, Nat.reduceLeDiff, Nat.reduceLT, Nat.reduceEqDiff, beq_self_eq_true, decide_true, decide_false, String.reduceEq, String.reduceBEq, List.lookup_nil, Option.isNone_none, Option.isNone_some, List.contains_cons, List.contains_nil, Bool.or_false, Bool.true_or, Bool.or_true, Bool.false_eq_true, reduceCtorEq, List.map_append, List.length_append, List.length_map, Int.reduceAdd, Int.reduceSub, Int.reduceLT, Int.reduceLE, Int.reduceEq, Nat.reduceBEq, eq_self, EXs, EXy, b4, flI_nx]
    exact ⟨_, _, _, _, _, _, _, rfl⟩
  · rintro e ⟨o2, o3, o4, o5, o6, o7, o8, rfl⟩
    have c1 := okR (.tup []) [] (.inr rfl) ⟨by simp, by simp⟩ (sm_few (by simp) (by simp))
    have c2 := bad (.lst [.non]) (ds1 := []) (ds2 := []) (x := .non) (.inl rfl) (by simp) nonB
    have c3 := okR (.lst [.tup [.tup [], .int 0]]) [(true, [], 0)] (.inl rfl) ⟨fun p hp => by
      rw [List.map_cons, List.map_nil, List.mem_singleton] at hp
      rw [hp]
      exact ⟨by simp, by simp, by simp⟩, by simp⟩ (sm_few (fun p hp => by
      rw [List.map_cons, List.map_nil, List.mem_singleton] at hp
      rw [hp]
      show 0 < 10 ^ 31
      decide) (by simp))
    have nz : (([] : List Dt).length : Int) = 0 := rfl
    rw [nz] at c2
    simp -implicitDefEqProofs only [List.map_cons, List.map_nil, List.length_cons, List.length_nil, List.cons_append, List.nil_append, List.append_nil, List.replicate, Nat.reduceAdd, Nat.reduceSub, List.all_cons, List.all_nil, List.getElem?_cons_zero, List.getElem?_cons_succ, Option.bind_some, Option.bind_none, Option.map_some, Option.map_none, List.set_cons_zero, List.set_cons_succ, Bool.not_true, Bool.not_false, Bool.and_true, Bool.true_and, if_true, if_false, ↓reduceIte, and_self, and_true, true_and, and_false, false_and, Nat.zero_le, Nat.reduceLeDiff, Nat.reduceLT, Nat.reduceEqDiff, beq_self_eq_true, decide_true, decide_false, String.reduceEq, String.reduceBEq, List.lookup_nil, Option.isNone_none, Option.isNone_some, List.contains_cons, List.contains_nil, Bool.or_false, Bool.true_or, Bool.or_true, Bool.false_eq_true, reduceCtorEq, List.map_append, List.length_append, List.length_map, Int.reduceAdd, Int.reduceSub, Int.reduceLT, Int.reduceLE, Int.reduceEq, Nat.reduceBEq, eq_self, EXs, EXy, c1, c2, c3]
end Mc
namespace Mc
open PySem L2
theorem plain_al2 (n j : Nat) (e : n = j + 6) (hodd : ∀ a ∈ goods, ∀ o ∈ oddD a (gpN a), (tab (j + 4)).is_part [o] = .ret (.bl false)) (hnm : ∀ a ∈ goods, (tab (j + 6)).Group_named [.ptr 5, .str a] = .ret (gpN a)) (hev : ∃ fs, (tab (j + 6)).Group_every [.ptr 5] = .ret (.obj 5 fs)) : ((b_law (tab n) [none, some (.d (.ptr 1)), none, none, none, none, none, none, none]).bind endF).Al fun d => d = .bl true := by
  rw [e]
  exact plain_al j hodd hnm hev
theorem plain_at (n j : Nat) (e : n = j + 6) (hodd : ∀ a ∈ goods, ∀ o ∈ oddD a (gpN a), (tab (j + 4)).is_part [o] = .ret (.bl false)) (hnm : ∀ a ∈ goods, (tab (j + 6)).Group_named [.ptr 5, .str a] = .ret (gpN a)) (hev : ∃ fs, (tab (j + 6)).Group_every [.ptr 5] = .ret (.obj 5 fs)) : LawOk n := by
  refine ⟨?_⟩
  unfold lawT
  exact (plain_al2 n j e hodd hnm hev).ok
theorem odd_bad2 : ∀ a ∈ goods, ∀ o ∈ oddD a (gpN a), (tab (24 + 4)).is_part [o] = .ret (.bl false) := fun a ha o ho => isF_ok (List.all_eq_true.mp (List.all_eq_true.mp odd_bad a ha) o ho)
theorem named_is2 : ∀ a ∈ goods, (tab (24 + 6)).Group_named [.ptr 5, .str a] = .ret (gpN a) := fun a ha => isG_ok (List.all_eq_true.mp named_is a ha)
theorem every_is3 : ∃ fs, (tab (24 + 6)).Group_every [.ptr 5] = .ret (.obj 5 fs) := isOK_ok every_is2
theorem plain_law : LawOk 30 := plain_at 30 24 rfl odd_bad2 named_is2 every_is3
end Mc
namespace Mc
open PySem PySem.Spec PyProof.Rows L2 Evl
def topS (i : Nat) : Stmt := PySem.Challenge.pw_mostcrowds_k11_crowds_refused.main.body.getD i (.Pass ⟨0, 0, 0, 0⟩)
def clsS (i j : Nat) : Stmt := (match topS i with | .ClassDef _ _ _ b _ _ _ _ _ _ _ => b | _ => []).getD j (.Pass ⟨0, 0, 0, 0⟩)
end Mc
namespace Mc
open PySem PySem.Spec PyProof.Rows L2 Evl
abbrev s_ldraw : Stmt := topS 42
abbrev N_ldraw : List Str := ["_law_deal", "_law_many", "_law_great", "_law_cell"]
theorem sc_ldraw : FnScope N_ldraw ["_law_deal", "_law_many"] (defScope s_ldraw) := ⟨rfl, rfl, rfl, by decide +kernel, rfl, by decide +kernel, by decide +kernel⟩
def dealKv (g : Addr) (st : Int) : List (Key × V) := [(Sum.inr "great", .ref g), (Sum.inr "stirred", .int st)]
structure DealAt (H : Hp) (a g : Addr) (ns : List Int) (st : Int) : Prop where
  at_ : H a = some (.dK (dealKv g st))
  lst : H g = some (.lst (ns.map V.int))
  nn : ∀ n ∈ ns, 0 ≤ n
  few : ns.length ≤ 100
  s0 : 0 ≤ st
  s1 : st < 2147483648
def Deal (H : Hp) (a g : Addr) : Prop := ∃ ns st, DealAt H a g ns st
theorem DealAt.ne {H : Hp} {a g : Addr} {ns : List Int} {st : Int} (h : DealAt H a g ns st) : a ≠ g := ne_of h.at_ h.lst (by intro z; cases z)
theorem DealAt.ex {H H' : Hp} {a g : Addr} {ns : List Int} {st : Int} (h : DealAt H a g ns st) (e : Ex H H') : DealAt H' a g ns st := ⟨e _ _ h.at_, e _ _ h.lst, h.nn, h.few, h.s0, h.s1⟩
theorem DealAt.put {H : Hp} {a g : Addr} {ns ms : List Int} {st : Int} (h : DealAt H a g ns st) (h1 : ∀ n ∈ ms, 0 ≤ n) (h2 : ms.length ≤ 100) : DealAt (upd H g (.lst (ms.map V.int))) a g ms st :=
  ⟨by rw [upd_ne h.ne]; exact h.at_, upd_same, h1, h2, h.s0, h.s1⟩
theorem DealAt.stir {H : Hp} {a g : Addr} {ns : List Int} {st st' : Int} (h : DealAt H a g ns st) (h1 : 0 ≤ st') (h2 : st' < 2147483648) : DealAt (upd H a (.dK (dealKv g st'))) a g ns st' :=
  ⟨upd_same, by rw [upd_ne h.ne.symm]; exact h.lst, h.nn, h.few, h1, h2⟩
def spDraw : Sp := fun vs H Q _ => ∃ (a g : Addr) (m : Int), vs = [.ref a, .int m] ∧ 0 < m ∧ m < 10000000000000000000000000000000000000000 ∧ Deal H a g ∧ ∀ n H', 0 ≤ n → n < m → Deal H' a g → Ex (cut [a, g] H) (cut [a, g] H') → Q (.int n) H'
section
variable {K : PySem.W.Frag} {H H0 : Hp} {a g : Addr} {ns : List Int} {st : Int} {σ : L2.St}
theorem shaped_ints (ns : List Int) : SeqAt.shaped (.list (ns.map PyData.int)) = true := by
  have h1 : ∀ ns : List Int, PyData.canLayAll0 (ns.map PyData.int) = true := by
    intro ns
    induction ns with
    | nil => rfl
    | cons n r ih => simp [PyData.canLayAll0, PyData.canLay0, ih]
  have h2 : ∀ ns : List Int, PyData.depthAll (ns.map PyData.int) = 0 := by
    intro ns
    induction ns with
    | nil => rfl
    | cons n r ih => simp [PyData.depthAll, PyData.depth, ih]
  simp [SeqAt.shaped, PyData.canLay0, PyData.depth, h1, h2]
theorem dpAll_ints (ns : List Int) : DpAll K H (ns.map V.int) (ns.map PyData.int) := by
  induction ns with
  | nil => exact .nil
  | cons n r ih => exact .cons (.int n) ih
theorem t_ne_nil {Q : VK} (h : DealAt H a g ns st) (hs : σ[2]? = some (some (.ref g))) (q : ∀ H', Ex H H' → Q (.bl (!ns.isEmpty)) H') : tOp (rNeD K) (tVar 2) (tLst tNil) σ H Q := by
  refine ⟨.ref g, hs, Nat.zero_le _, fun p hp => ?_⟩
  have e : Ex H (upd H p (.lst [])) := Ex.new hp
  refine ⟨.list (ns.map PyData.int), .list [], .lst (sq_of (e _ _ h.lst)) (dpAll_ints ns), .lst (sq_of upd_same) .nil, shaped_ints ns, shaped_ints [], ?_⟩
  have ev : PyData.eqv (.list (ns.map PyData.int)) (.list []) = ns.isEmpty := by
    cases ns with
    | nil => rfl
    | cons n r => rfl
  rw [ev]
  exact q _ e
end
section
variable {P : Program} {w : World} {K : PySem.W.Frag} {mg : Str → Option Value} {base : Heap}
theorem fit_div {j : Int} (h0 : 0 < j) (h1 : j < 10000000000000000000000000000000000000000) : j.natAbs.log2 < 9000 := by
  have h2 : j.natAbs < 2 ^ 140 := by omega
  have h3 : j.natAbs ≠ 0 := by omega
  have := (Nat.log2_lt h3).mpr h2
  omega
theorem great_of {st : Int} {g : Addr} : valV (dealKv g st) (Sum.inr "great") = some (.ref g) := by
  unfold dealKv valV
  rfl
theorem stir_of {st : Int} {g : Addr} : valV (dealKv g st) (Sum.inr "stirred") = some (.int st) := by
  unfold dealKv valV
  rw [List.find?_cons_of_neg (by show ¬ decide ((Sum.inr (Str.ofString "great") : Key) = Sum.inr (Str.ofString "stirred")) = true; decide)]
  rfl
theorem put_stir {st st' : Int} {g : Addr} : putK (dealKv g st) (Sum.inr "stirred") (.int st') = dealKv g st' := by
  unfold dealKv putK
  rw [if_pos (by
    rw [List.any_cons, List.any_cons]
    show (_ || (decide ((Sum.inr (Str.ofString "stirred") : Key) = Sum.inr (Str.ofString "stirred")) || _)) = true
    simp)]
  rw [List.map_cons, List.map_cons, if_neg (show ¬ ((Sum.inr (Str.ofString "great") : Key) = Sum.inr (Str.ofString "stirred")) by decide), if_pos rfl]
  rfl
theorem ok_ldraw {f : Addr} {fd : FuncData} (F : Fun K "_law_draw" "_law_draw" s_ldraw f fd) (m_int : mg "int" = none) : FnOk P w K mg base CX0 1 f fd ["_law_deal", "_law_many"] spDraw := by
  refine F.ok sc_ldraw (fun vs H Q E h => ?_) (fun cdv A outer s H vs Q E hr h => ?_)
  · obtain ⟨a, g, m, rfl, _⟩ := h
    rfl
  obtain ⟨a, g, m, rfl, m0, m1, ⟨ns, st, hd⟩, q⟩ := h
  refine ⟨_, (pss_cons (ps_set (i := 2) sc_ldraw.nd rfl (Or.inl rfl) (pe_dget (hu_of hr) (pv 0) pe_str (fun _ _ => rfl)))
      (Evl.pss_cut (ps_while PassesOwn.never (PW.pt (pw_and (pt_cmpR (op_neD hr.units) (pv 2) (pe_lst pa_nil) (nomark _)) (pw_and1 (pt_cmpR op_eq (pe_ix ix_list (pv 2) (pe_un un_neg pe_int) (fun _ _ => rfl)) pe_int (nomark _))))) (pss_one (ps_expr (pe_bm0 PySem.F.plainAttrs_list PySem.F.slot_list_pop PySem.F.type_list_pop mt_pop (pv 2)))))
      (pss_cons (ps_if (pt_cmpR (op_neD hr.units) (pv 2) (pe_lst pa_nil) (nomark _)) (pss_cons (ps_set (i := 3) sc_ldraw.nd rfl (Or.inl rfl) (pe_bm0 PySem.F.plainAttrs_list PySem.F.slot_list_pop PySem.F.type_list_pop mt_pop (pv 2)))
      (pss_cons (ps_expr (pe_bm PySem.F.plainAttrs_list PySem.F.slot_list_append PySem.F.type_list_append mt_append (pv 2) (pa_cons (pe_op op_fdivW (pv 3) (pv 1)) pa_nil)))
      (pss_one (ps_ret (pe_op op_mod (pe_callTy call_int1 (by rfl) m_int (by decide +kernel) (pa_cons (pv 3) pa_nil)) (pv 1)))))) pss_nil)
      (pss_cons (ps_dput (hu_of hr) (pv 0) pe_str (pe_op op_mod (pe_callTy call_int1 (by rfl) m_int (by decide +kernel) (pa_cons (pe_op op_add (pe_op op_mul (pe_dget (hu_of hr) (pv 0) pe_str (fun _ _ => rfl)) pe_int) pe_int) pa_nil)) pe_int) rfl)
      (pss_one (ps_ret (pe_op op_mod (pe_callTy call_int1 (by rfl) m_int (by decide +kernel) (pa_cons (pe_op op_fdivW (pe_dget (hu_of hr) (pv 0) pe_str (fun _ _ => rfl)) pe_int) pa_nil)) (pv 1)))))))), ?_⟩
  refine ⟨.ref a, rfl, a, .ref g, rfl, ?_, ?_⟩
  · rw [← great_of (st := st)]
    exact DGet.k (k := Sum.inr "great") hd.at_
  have gin : g ∈ [a, g] := by simp
  have ain : a ∈ [a, g] := by simp
  have mut1 : ∀ {H2 : Hp} {o : HO}, Ex (cut [a, g] H) (cut [a, g] H2) → Ex (cut [a, g] H) (cut [a, g] (upd H2 g o)) := fun {H2 o} e => by
    rw [cut_mut gin]
    exact e
  have getG : ∀ (ms : List Int) (n : Int), (ms ++ [n]).map V.int = ms.map V.int ++ [V.int n] := fun ms n => by rw [List.map_append]; rfl
  refine ⟨fun σ' H' => ∃ ms, σ' = [some (.ref a), some (.int m), some (.ref g), none] ∧ DealAt H' a g ms st ∧ Ex (cut [a, g] H) (cut [a, g] H'), ⟨fun k σ H1 => ∃ ms, k = ms.length ∧ σ = [some (.ref a), some (.int m), some (.ref g), none] ∧ DealAt H1 a g ms st ∧ Ex (cut [a, g] H) (cut [a, g] H1), ⟨_, ns, rfl, rfl, hd, Ex.refl _⟩, ?_⟩, ?_⟩
  · rintro k σ H1 ⟨ms, rfl, rfl, hd1, x1⟩
    refine t_ne_nil hd1 rfl fun H2 e2 => ⟨_, rfl, ?_⟩
    have hd2 := hd1.ex e2
    have x2 := x1.trans (cut_ex (S := [a, g]) e2)
    cases hms : ms.isEmpty with
    | true => exact iteF (iteF ⟨ms, rfl, hd2, x2⟩)
    | false =>
      refine iteT ?_
      obtain ⟨rs, n, rfl⟩ : ∃ rs n, ms = rs ++ [n] := by
        cases ms with
        | nil => cases hms
        | cons y r => exact ⟨_, _, (List.dropLast_concat_getLast (List.cons_ne_nil y r)).symm⟩
      have hl2 : H2 g = some (.lst (rs.map V.int ++ [V.int n])) := by rw [← getG]; exact hd2.lst
      refine ⟨.ref g, rfl, 1, rfl, g, _, -1, .int n, rfl, rfl, sq_of hl2, atI_last _ _, rfl, _, rfl, ?_⟩
      cases hn : decide (V.int n = V.int 0) with
      | false => exact iteF ⟨_, rfl, hd2, x2⟩
      | true =>
        refine iteT ⟨fun σ' H' => ∃ ms, ms.length < (rs ++ [n]).length ∧ σ' = [some (.ref a), some (.int m), some (.ref g), none] ∧ DealAt H' a g ms st ∧ Ex (cut [a, g] H) (cut [a, g] H'), fun σ' H' ⟨ms, h1, h2, h3, h4⟩ => ⟨ms.length, h1, ms, rfl, h2, h3, h4⟩, ?_⟩
        refine ⟨.ref g, rfl, Or.inl ⟨rfl, _, sq_of hl2⟩, g, _, .int n, rfl, rfl, hl2, by simp, ?_⟩
        rw [List.dropLast_concat]
        refine ⟨rs, by simp, rfl, hd2.put (fun z hz => hd2.nn z (List.mem_append_left _ hz)) ?_, mut1 x2⟩
        have := hd2.few
        rw [List.length_append] at this
        omega
  · rintro σ' H2 ⟨ms, rfl, hd2, x2⟩
    refine t_ne_nil hd2 rfl fun H3 e3 => ⟨_, rfl, ?_⟩
    have hd3 := hd2.ex e3
    have x3 := x2.trans (cut_ex (S := [a, g]) e3)
    cases hms : ms.isEmpty with
    | false =>
      refine iteT ?_
      obtain ⟨rs, n, rfl⟩ : ∃ rs n, ms = rs ++ [n] := by
        cases ms with
        | nil => cases hms
        | cons y r => exact ⟨_, _, (List.dropLast_concat_getLast (List.cons_ne_nil y r)).symm⟩
      have hl3 : H3 g = some (.lst (rs.map V.int ++ [V.int n])) := by rw [← getG]; exact hd3.lst
      refine ⟨.ref g, rfl, Or.inl ⟨rfl, _, sq_of hl3⟩, g, _, .int n, rfl, rfl, hl3, by simp, ?_⟩
      rw [List.dropLast_concat]
      have n0 : 0 ≤ n := hd3.nn n (by simp)
      refine ⟨.ref g, rfl, Or.inl ⟨rfl, _, sq_of upd_same⟩, .int n, rfl, .int m, rfl, n, m, rfl, rfl, ⟨m0, fit_div m0 m1⟩, g, _, _, rfl, rfl, upd_same, ?_, ?_⟩
      · rw [List.length_map]
        have := hd3.few
        rw [List.length_append] at this
        exact sz_lt (by simp at this; omega)
      · rw [upd_upd]
        refine ⟨.int n, rfl, Or.inl ⟨n, rfl, .int m, rfl, n, m, rfl, rfl, m0, q (n % m) _ (Int.emod_nonneg _ (by omega)) (Int.emod_lt_of_pos _ m0) ⟨rs ++ [n / m], st, ?_⟩ (mut1 x3)⟩⟩
        rw [← getG]
        refine hd3.put (fun z hz => ?_) ?_
        · rcases List.mem_append.mp hz with hz | hz
          · exact hd3.nn z (List.mem_append_left _ hz)
          · rw [List.mem_singleton.mp hz]
            exact Int.ediv_nonneg n0 (by omega)
        · have := hd3.few
          simpa using this
    | true =>
      refine iteF ?_
      have hk : ∀ b : Int, b % 2147483647 < 2147483648 := fun b => by
        have := Int.emod_lt_of_pos b (show (0 : Int) < 2147483647 by decide)
        omega
      refine ⟨.ref a, rfl, a, .int st, rfl, ?_, _, _, rfl, rfl, Or.inr ⟨by decide, by decide⟩, _, _, rfl, rfl, Or.inl ⟨_, rfl, _, _, rfl, rfl, by show (0 : Int) < 2147483647; decide, .ref a, rfl, a, _, rfl, DPut.k (k := Sum.inr "stirred") hd3.at_ (by show 2 < sizeLine; decide), ?_⟩⟩
      · rw [← stir_of (g := g)]
        exact DGet.k (k := Sum.inr "stirred") hd3.at_
      rw [put_stir]
      have hd4 := hd3.stir (Int.emod_nonneg (st * 69621 + 17) (show (2147483647 : Int) ≠ 0 by decide)) (hk _)
      refine ⟨.ref a, rfl, a, .int ((st * 69621 + 17) % 2147483647), rfl, ?_, _, _, rfl, rfl, ⟨by decide, by decide⟩, Or.inl ⟨_, rfl, .int m, rfl, _, m, rfl, rfl, m0, q _ _ (Int.emod_nonneg _ (by omega)) (Int.emod_lt_of_pos _ m0) ⟨ms, _, hd4⟩ ?_⟩⟩
      · rw [← stir_of (g := g)]
        exact DGet.k (k := Sum.inr "stirred") hd4.at_
      · rw [cut_mut ain]
        exact x3
end
end Mc
namespace Mc
open PySem PySem.Spec PyProof.Rows L2 Evl
theorem deal_upd {H : Hp} {a g D : Addr} {o : HO} (h : Deal H a g) (h1 : D ≠ a) (h2 : D ≠ g) : Deal (upd H D o) a g := by
  obtain ⟨ns, st, d⟩ := h
  exact ⟨ns, st, by rw [upd_ne (Ne.symm h1)]; exact d.at_, by rw [upd_ne (Ne.symm h2)]; exact d.lst, d.nn, d.few, d.s0, d.s1⟩
theorem deal_some {H : Hp} {a g : Addr} (h : Deal H a g) : H a ≠ none ∧ H g ≠ none := by
  obtain ⟨ns, st, d⟩ := h
  exact ⟨fun z => (by rw [d.at_] at z; cases z), fun z => (by rw [d.lst] at z; cases z)⟩
end Mc
namespace Mc
open PySem PySem.Spec PyProof.Rows L2 Evl
abbrev s_lsource : Stmt := topS 41
abbrev N_lsource : List Str := ["_law_script", "_law_base", "_law_cells", "_law_stirred", "_law_at", "_law_cell"]
theorem sc_lsource : FnScope N_lsource ["_law_script", "_law_base"] (defScope s_lsource) := ⟨rfl, rfl, rfl, by decide +kernel, rfl, by decide +kernel, by decide +kernel⟩
def spSource (K : PySem.W.Frag) : Sp := fun vs H Q _ => ∃ (p : Addr) (ns : List Int) (b : Int), vs = [.ref p, .int b] ∧ SqL K H p (ns.map V.int) ∧ ns.length ≤ 63 ∧ 0 ≤ b ∧ b ≤ 60 ∧ ∀ a g H', Ex H H' → H a = none → H g = none → Deal H' a g → Q (.ref a) H'
section
variable {M : Mode} {δ : Ds} {te : TE}
theorem ed_slPtr {p : Addr} {ns : List Int} {tl th : TO} {lo hi : Option Int} (h : EvD M te δ (.ptr p)) (hp : ∀ H, M.J H → SqL M.K H p (ns.map V.int)) (h1 : EvO M tl δ lo) (h2 : EvO M th δ hi) :
    EvP M (tSl (rSlL M.K) te tl th) δ (fun d => ∃ cs : List Int, cs.length ≤ ns.length ∧ d = .lst (cs.map Dt.int)) := fun N n σ H s Q q =>
  h N n σ H s _ fun d x H1 p1 e1 j1 r1 => h1 N n σ H1 (s.next e1 j1) _ fun l H2 p2 e2 j2 => h2 N n σ H2 ((s.next e1 j1).next e2 j2) _ fun u H3 p3 e3 j3 => by
    subst p1 p2 p3
    have ex : x = .ref p := r1
    refine ⟨p, _, ex, hp H3 (n.j j3), fun a ha => ?_⟩
    have hc : cutV (ns.map V.int) l u = ((ns.drop (HT.sIx ns.length 0 l)).take (HT.sIx ns.length ns.length u - HT.sIx ns.length 0 l)).map V.int := by
      unfold cutV
      rw [List.length_map, List.map_take, List.map_drop]
    rw [hc]
    obtain ⟨ex4, j4, r4⟩ := n.ok.newL (ds := ((ns.drop (HT.sIx ns.length 0 l)).take (HT.sIx ns.length ns.length u - HT.sIx ns.length 0 l)).map Dt.int) j3 ha (rpA_ints.mpr rfl)
    exact q _ _ _ ⟨_, by rw [List.length_take, List.length_drop]; omega, rfl⟩ (((e1.trans e2).trans e3).trans (N.le ex4)) j4 r4
end
section
variable {P : Program} {w : World} {K : PySem.W.Frag} {mg : Str → Option Value} {base : Heap}
def absF : Dt → Dt
  | .int i => .int (if i < 0 then -i else i)
  | d => d
theorem abs_map (cs : List Int) : (((cs.map Dt.int).filter fun _ => true).map absF) = (cs.map fun i => if i < 0 then -i else i).map Dt.int := by
  rw [List.filter_eq_self.mpr (fun _ _ => rfl), List.map_map, List.map_map]
  rfl
theorem great_map (cs : List Int) : (((cs.map Dt.int).filter fun d => match d with | .int i => decide (10 ^ 18 ≤ i) | _ => false).map id) = (cs.filter fun i => decide (10 ^ 18 ≤ i)).map Dt.int := by
  rw [List.map_id, List.filter_map]
  rfl
theorem ok_lsource {f : Addr} {fd : FuncData} (F : Fun K "_law_source" "_law_source" s_lsource f fd) (m_int : mg "int" = none) (m_abs : mg "abs" = none) (m_enumerate : mg "enumerate" = none) : FnOk P w K mg base CX0 1 f fd ["_law_script", "_law_base"] (spSource K) := by
  refine F.ok sc_lsource (fun vs H Q E h => ?_) (fun cdv A outer s H vs Q E hr h => ?_)
  · obtain ⟨p, ns, b, rfl, _⟩ := h
    rfl
  obtain ⟨p, ns, b, rfl, hp, hn, b0, b1, q⟩ := h
  refine ⟨_, (pss_cons (ps_setLc (i := 2) (own := [("_law_cell", 5)]) rfl sc_lsource.nd rfl rfl (sw_true rfl rfl rfl (by decide +kernel)) (g := (gName 5)) (pi_list (pe_slice sl_list (pv 0) (po_some (pv 1)) (po_some pe_int))) (blkOk_by (own := [("_law_cell", 5)]) (N := N_lsource) (sc := defScope s_lsource) (by decide +kernel)) (fun _ _ _ _ _ => (pg_name (i := 5) sc_lsource.nd rfl (Or.inl rfl))) (fun _ _ _ _ _ => pts_nil) (fun _ _ _ _ _ => (pe_callB call_abs (by rfl) m_abs (by decide +kernel) (pa_cons (pe_callTy call_int1 (by rfl) m_int (by decide +kernel) (pa_cons (pv 5) pa_nil)) pa_nil))))
      (pss_cons (ps_set (i := 3) sc_lsource.nd rfl (Or.inl rfl) (pe_op op_add pe_int (pe_op op_mul pe_int (pv 1))))
      (pss_cons (ps_for PassesOwn.never rfl (pi_enumS rfl m_enumerate (pa_cons (pv 2) pa_nil)) (pg_tup rfl (pgs_cons (pg_name (i := 4) sc_lsource.nd rfl (Or.inl rfl)) (pgs_cons (pg_name (i := 5) sc_lsource.nd rfl (Or.inl rfl)) pgs_nil))) (pss_one (ps_set (i := 3) sc_lsource.nd rfl (Or.inl rfl) (pe_op op_mod (pe_callTy call_int1 (by rfl) m_int (by decide +kernel) (pa_cons (pe_op op_add (pe_op op_mul (pe_op op_add (pe_op op_add (pv 3) (pv 4)) pe_int) pe_int) (pe_op op_mod (pe_callTy call_int1 (by rfl) m_int (by decide +kernel) (pa_cons (pv 5) pa_nil)) pe_int)) pa_nil)) pe_int))))
      (pss_one (ps_ret (pe_disp (pps_cons pe_str (pe_revL (pe_lc (own := [("_law_cell", 5)]) rfl sc_lsource.nd (g := (gName 5)) (pi_list (pv 2)) (blkOk_by (own := [("_law_cell", 5)]) (N := N_lsource) (sc := defScope s_lsource) (by decide +kernel)) (fun _ _ _ _ _ => (pg_name (i := 5) sc_lsource.nd rfl (Or.inl rfl))) (fun _ _ _ _ _ => pts_one (pt_cmpR op_ge (pv 5) (pe_op op_pow pe_int pe_int) (nomark _))) (fun _ _ _ _ _ => (pv 5)))) (pps_cons pe_str (pv 3) pps_nil)) (by rfl) (by rfl) (fun z => by cases z) (by decide))))))), ?_⟩
  refine run_pure (K := K) (S := []) (ds := [.ptr p, .int b]) (fun b hb => by cases hb) ⟨_, _, rfl, rfl, RpA.one rfl⟩ ?_
  refine p_asg (P := fun d => ∃ cs : List Int, cs.length ≤ 63 ∧ (∀ c ∈ cs, 0 ≤ c) ∧ d = .lst (cs.map Dt.int)) (ep_lc (PI := fun items => ∃ cs : List Int, cs.length ≤ 63 ∧ items = cs.map Dt.int) (ei_list (ed_slPtr (ns := ns) (ed_var rfl) (fun H' j => ex_l j hp) (eo_some (ed_var rfl)) (eo_some ed_int)) ?_) ?_) ?_
  · rintro d ⟨cs, hc, rfl⟩
    exact ⟨_, ⟨cs, by omega, rfl⟩, rfl⟩
  · rintro items ⟨cs, hc, rfl⟩
    refine ⟨fun _ => true, absF, by rw [List.length_map]; omega, ⟨cs.map fun i => if i < 0 then -i else i, by rw [List.length_map]; exact hc, ?_, by rw [abs_map]⟩, fun i d hd => ?_⟩
    · intro c hc'
      obtain ⟨z, _, rfl⟩ := List.mem_map.mp hc'
      split <;> omega
    · rw [List.getElem?_map] at hd
      obtain ⟨z, _, rfl⟩ := Option.map_eq_some_iff.mp hd
      exact ⟨_, _, gd_name, by simp, eb_yes, fun _ => ed_cb (ea_cons (ed_cb (ea_cons (ed_var rfl) ea_nil) rc_int) ea_nil) rc_abs⟩
  rintro _ ⟨cs, hc, hc0, rfl⟩
  refine q_asg (ed_II ed_int (ed_CI (C := CMul) ed_int (ed_var rfl) (Or.inl ⟨by decide, by decide⟩))) ?_
  refine q_for (I := fun _ δ => ∃ st x4 x5, δ = [some (.ptr p), some (.int b), some (.lst (cs.map Dt.int)), some (.int st), x4, x5] ∧ 0 ≤ st ∧ st < 2147483648) (ew_enum (ea_cons (ed_var rfl) ea_nil) rfl) ⟨_, none, none, rfl, by omega, by omega⟩ ?_ ?_
  · rintro B' _ i d δ1 hd ⟨st, x4, x5, rfl, s0, s1⟩
    obtain ⟨e, he, rfl, hi⟩ := enumD_get hd
    rw [List.getElem?_map] at he
    obtain ⟨z, _, rfl⟩ := Option.map_eq_some_iff.mp he
    refine ⟨_, _, gd_tup (gds_cons gd_name (gds_cons gd_name gds_nil)), ?_⟩
    refine p_asg1 (P := fun d => ∃ st, d = .int st ∧ 0 ≤ st ∧ st < 2147483648) (EvP.weak (ed_CI (C := fun _ j => 0 < j) (ed_cb (ea_cons (ed_II (ed_CI (C := CMul) (ed_II (ed_II (ed_var rfl) (ed_var rfl)) ed_int) ed_int (Or.inr ⟨by decide, by decide⟩)) (ed_CI (C := fun _ j => 0 < j) (ed_cb (ea_cons (ed_var rfl) ea_nil) rc_int) ed_int (by show (0 : Int) < _; decide))) ea_nil) rc_int) ed_int (by show (0 : Int) < _; decide)) ?_) ?_
    · rintro d rfl
      refine ⟨_, rfl, Int.emod_nonneg _ (by decide), ?_⟩
      have := Int.emod_lt_of_pos ((st + (i : Int) + 1) * 69621 + z % 2147483563) (show (0 : Int) < 2147483647 by decide)
      omega
    · rintro _ ⟨st', rfl, h0, h1⟩ σ H' s' l'
      exact ⟨_, ⟨st', _, _, rfl, h0, h1⟩, s', l'⟩
  · rintro δ1 ⟨st, x4, x5, rfl, s0, s1⟩
    intro ok σ H1 st1 l1 p1 hp1
    have jx : Ex H H1 := st1.2
    have np : p1 ∉ ([] : List Addr) := by simp
    have sb : (pureM K [] H).Sub ((pureM K [] H).keep p1 (.dK [])) := Mode.keep_sub ok np
    have ex1 : Ex H1 (upd H1 p1 (.dK [])) := Ex.new hp1
    have st2 : ((pureM K [] H).keep p1 (.dK [])).St [some (.ptr p), some (.int b), some (.lst (cs.map Dt.int)), some (.int st), x4, x5] σ (upd H1 p1 (.dK [])) := ⟨st1.1.mono (by
      show Ex (cut [] H1) (cut [p1] (upd H1 p1 (.dK [])))
      rw [cut_mut (by simp), ← cut_fresh (S := []) hp1]
      exact Ex.refl _), jx.trans ex1, upd_same⟩
    dsimp only [tPairs, tC, tRevL]
    refine ed_lc (M := pureM K [] H) (items := cs.map Dt.int) (δ := [some (.ptr p), some (.int b), some (.lst (cs.map Dt.int)), some (.int st), x4, x5]) (fun d => match d with | .int i => decide (10 ^ 18 ≤ i) | _ => false) id (ew_list (ed_var (i := 2) rfl)) (by rw [List.length_map]; omega) (fun i d hd => ?_) _ sb σ _ st2 _ fun d v H2 e2 l2 j2 r2 => ?_
    · rw [List.getElem?_map] at hd
      obtain ⟨z, _, rfl⟩ := Option.map_eq_some_iff.mp hd
      exact ⟨_, _, gd_name, by simp, eb_test (ed_IB (ed_var rfl) (ed_CI (C := CPow) ed_int ed_int ⟨by decide, by decide, by decide⟩)), fun _ => ed_var rfl⟩
    subst e2
    rw [great_map] at r2
    obtain ⟨c1, xs, rfl, h2, h3⟩ := r2
    rw [rpA_ints] at h3
    subst h3
    refine ⟨c1, _, rfl, sq_of (cut_le _ _ _ _ h2), fun g hg => ?_⟩
    have jx2 : Ex H H2 := j2.1
    obtain ⟨v3, hv3, r3⟩ := (st2.1.mono l2).get (i := 3) (d := .int st) rfl
    have ev3 : v3 = .int st := r3
    subst ev3
    refine ⟨_, hv3, by rw [upd_ne (ne_of_none j2.2 hg)]; exact j2.2, [(Sum.inr "great", .ref g), (Sum.inr "stirred", .int st)], rfl, by show 2 ≤ 15; decide, ?_⟩
    have hg0 : H g = none := fresh_back jx2 hg
    have hp0 : H p1 = none := fresh_back jx hp1
    have npg : p1 ≠ g := ne_of_none j2.2 hg
    refine q p1 g _ (Ex.mut (jx2.trans (Ex.new hg)) hp0) hp0 hg0 ⟨((cs.filter fun i => decide (10 ^ 18 ≤ i))).reverse, st, upd_same, ?_, fun n hn => ?_, ?_, s0, s1⟩
    · rw [upd_ne npg.symm, upd_same, List.map_reverse]
    · exact hc0 n (List.mem_filter.mp (List.mem_reverse.mp hn)).1
    · rw [List.length_reverse]
      exact Nat.le_trans (List.length_filter_le _ _) (by omega)
end
end Mc
namespace Mc
open PySem PySem.Spec PyProof.Rows L2 Evl
theorem draw_spF {G : Gd} (hs : G.src = Deal) {vs : List V} {H : Hp} {Q : VK} {E : XK} (h : spF G 2 drawF vs H Q E) : spDraw vs H Q E := by
  obtain ⟨F, args, k, hl, r, q⟩ := h
  unfold drawF at q
  split at q
  case h_2 => exact q.elim
  rename_i c m
  split at q
  case isFalse => exact q.elim
  rename_i hc
  obtain ⟨rfl, m0, m1⟩ := hc
  obtain ⟨v, r1, rfl, h1, w, r2, rfl, h2, h3⟩ := r
  rw [show r2 = [] from h3]
  have hw : w = .int m := h2
  subst hw
  cases hd : F.dl with
  | none => exact (F.hd hd).elim
  | some p =>
    obtain ⟨a, g⟩ := p
    have hv : v = .ref a := by
      have e : rho G F 1 = a := by unfold rho; rw [if_pos rfl, hd]
      rw [← e]
      exact h1
    subst hv
    have hdS : F.dS = [a, g] := Fr.dS_some hd
    have hD : Deal H a g := hs ▸ k.deal a g hd
    refine ⟨a, g, m, rfl, m0, m1, hD, fun n H' n0 n1 D' ex => ?_⟩
    have fw : Fw F [] H H' := fun b o g1 _ g3 => by
      rw [hdS] at g1
      exact (cut_some (ex b o (by rw [cut_out g1]; exact g3))).1
    have q' := q n.toNat (by omega)
    have en : ((n.toNat : Nat) : Int) = n := by omega
    have q'' : ∀ v H', Fw F [] H H' → FrOk G F H' → Rp G.K (cut F.V H') (ren (rho G F) (.int ((n.toNat : Nat) : Int))) v → Q v H' := q'
    rw [en] at q''
    refine q'' (.int n) H' fw ⟨fun b hb => ?_, k.zd, fun a' g' h' => ?_⟩ rfl
    · cases hq : H b with
      | none => exact (k.zt b hb hq).elim
      | some u =>
        rw [fw b u (fun z => k.zd b z hb) (by simp) hq]
        exact fun z => by cases z
    · rw [hd] at h'
      cases h'
      rw [hs]
      exact D'
inductive StartE (a : Addr) : En → L2.St → Prop
  | nil : StartE a [] []
  | no {x e σ} : StartE a e σ → StartE a (none :: e) (x :: σ)
  | pt {e σ} : StartE a e σ → StartE a (some (.d (.ptr 1)) :: e) (some (.ref a) :: σ)
theorem StartE.own {a : Addr} : ∀ {e : En} {σ : L2.St}, StartE a e σ → Mc.own e σ = []
  | _, _, .nil => rfl
  | _, _, .no h => by
    show ownS none _ ++ Mc.own _ _ = []
    rw [h.own]
    rfl
  | _, _, .pt h => by
    show ownS _ _ ++ Mc.own _ _ = []
    rw [h.own]
    rfl
theorem StartE.slots {K : PySem.W.Frag} {ρ : Addr → Addr} {Hc H : Hp} {a : Addr} (hρ : ρ 1 = a) : ∀ {e : En} {σ : L2.St}, StartE a e σ → SlRs K ρ Hc H e σ
  | _, _, .nil => rfl
  | _, _, .no h => ⟨_, _, rfl, trivial, h.slots hρ⟩
  | _, _, .pt h => ⟨_, _, rfl, ⟨.ref a, rfl, by show V.ref a = .ref (ρ 1); rw [hρ]⟩, h.slots hρ⟩
theorem StartE.noob {a : Addr} : ∀ {e : En} {σ : L2.St}, StartE a e σ → ∀ (i : Nat) k fs, e[i]? ≠ some (some (.ob k fs))
  | _, _, .nil, i, k, fs, z => by simp at z
  | _, _, .no h, 0, k, fs, z => by simp at z
  | _, _, .no h, i + 1, k, fs, z => h.noob i k fs (by simpa using z)
  | _, _, .pt h, 0, k, fs, z => by simp at z
  | _, _, .pt h, i + 1, k, fs, z => h.noob i k fs (by simpa using z)
theorem law_start {G : Gd} (hs : G.src = Deal) {b : XS} {e0 : En} {σ : L2.St} {H : Hp} {a g : Addr} {Q : VK} (hD : Deal H a g) (he : StartE a e0 σ) (hl : ((b e0).bind endF).All (fun d => d = .bl true)) (q : ∀ H', Q (.bl true) H') : tS G noW b { nx := fun _ H' => Q .non H', rt := Q } σ H := by
  let F : Fr := ⟨[], some (a, g), none, fun z => by cases z⟩
  have hρ : rho G F 1 = a := by unfold rho; rw [if_pos rfl]
  have s : Sim G F e0 σ H := by
    refine ⟨he.slots hρ, ?_, ?_, ?_, ?_, ?_, ?_⟩
    · rw [he.own]; exact List.nodup_nil
    · intro b hb
      rw [he.own] at hb
      cases hb
    · intro b hb
      cases hb
    · intro b _ hb
      cases hb
    · intro a' g' h'
      cases h'
      rw [hs]
      exact hD
    · intro i k fs h
      exact (he.noob i k fs h).elim
  refine ⟨F, fun _ => none, e0, s, ⟨fun b o _ h => (by cases h), fun b _ => rfl⟩, Tr.All.mono (fun f q1 => ?_) (Tr.all_bind.mp hl)⟩
  cases f with
  | nx e1 =>
    have : (Dt.non : Dt) = .bl true := q1
    cases this
  | rt v e1 =>
    intro u σ1 H1 s1 b1 r1
    obtain ⟨d, hd, e⟩ := Tr.of_all q1
    subst e
    have r2 := res_rep s1 r1 hd
    rw [show u = .bl true from r2]
    exact q H1
  | bk e1 => exact q1.elim
  | ct e1 => exact q1.elim
  | xc k n d e1 => exact q1.elim
def spLaw (K : PySem.W.Frag) : Sp := fun vs H Q _ => ∃ (p : Addr) (ns : List Int), vs = [.ref p] ∧ SqL K H p (ns.map V.int) ∧ ns.length ≤ 63 ∧ ∀ H', Q (.bl true) H'
end Mc
namespace Mc
open PySem PySem.Spec PyProof.Rows L2 Evl
abbrev s_is_integer : Stmt := topS 12
abbrev N_is_integer : List Str := ["value"]
theorem sc_is_integer : FnScope N_is_integer ["value"] (defScope s_is_integer) := ⟨rfl, rfl, rfl, by decide +kernel, rfl, by decide +kernel, by decide +kernel⟩
abbrev s_is_sequence : Stmt := topS 13
abbrev N_is_sequence : List Str := ["value"]
theorem sc_is_sequence : FnScope N_is_sequence ["value"] (defScope s_is_sequence) := ⟨rfl, rfl, rfl, by decide +kernel, rfl, by decide +kernel, by decide +kernel⟩
abbrev s_is_name : Stmt := topS 14
abbrev N_is_name : List Str := ["value", "letter"]
theorem sc_is_name : FnScope N_is_name ["value"] (defScope s_is_name) := ⟨rfl, rfl, rfl, by decide +kernel, rfl, by decide +kernel, by decide +kernel⟩
abbrev s_ascending : Stmt := topS 18
abbrev N_ascending : List Str := ["names", "name"]
theorem sc_ascending : FnScope N_ascending ["names"] (defScope s_ascending) := ⟨rfl, rfl, rfl, by decide +kernel, rfl, by decide +kernel, by decide +kernel⟩
abbrev s_names_of : Stmt := topS 19
abbrev N_names_of : List Str := ["things", "thing", "name"]
theorem sc_names_of : FnScope N_names_of ["things"] (defScope s_names_of) := ⟨rfl, rfl, rfl, by decide +kernel, rfl, by decide +kernel, by decide +kernel⟩
abbrev s_is_kind : Stmt := topS 20
abbrev N_is_kind : List Str := ["value", "name"]
theorem sc_is_kind : FnScope N_is_kind ["value"] (defScope s_is_kind) := ⟨rfl, rfl, rfl, by decide +kernel, rfl, by decide +kernel, by decide +kernel⟩
abbrev s_is_part : Stmt := topS 25
abbrev N_is_part : List Str := ["value"]
theorem sc_is_part : FnScope N_is_part ["value"] (defScope s_is_part) := ⟨rfl, rfl, rfl, by decide +kernel, rfl, by decide +kernel, by decide +kernel⟩
abbrev s_added : Stmt := topS 26
abbrev N_added : List Str := ["pairs", "texts", "found", "text", "many", "kind", "number", "other"]
theorem sc_added : FnScope N_added ["pairs"] (defScope s_added) := ⟨rfl, rfl, rfl, by decide +kernel, rfl, by decide +kernel, by decide +kernel⟩
abbrev s_Crowd___init__ : Stmt := clsS 28 0
abbrev N_Crowd___init__ : List Str := ["self", "parts", "at", "part", "kind", "number"]
theorem sc_Crowd___init__ : FnScope N_Crowd___init__ ["self", "parts"] (defScope s_Crowd___init__) := ⟨rfl, rfl, rfl, by decide +kernel, rfl, by decide +kernel, by decide +kernel⟩
abbrev s_Crowd___eq__ : Stmt := clsS 28 11
abbrev N_Crowd___eq__ : List Str := ["self", "other"]
theorem sc_Crowd___eq__ : FnScope N_Crowd___eq__ ["self", "other"] (defScope s_Crowd___eq__) := ⟨rfl, rfl, rfl, by decide +kernel, rfl, by decide +kernel, by decide +kernel⟩
abbrev s_Crowd___str__ : Stmt := clsS 28 12
abbrev N_Crowd___str__ : List Str := ["self"]
theorem sc_Crowd___str__ : FnScope N_Crowd___str__ ["self"] (defScope s_Crowd___str__) := ⟨rfl, rfl, rfl, by decide +kernel, rfl, by decide +kernel, by decide +kernel⟩
abbrev s_script_of : Stmt := topS 35
abbrev N_script_of : List Str := ["group", "found", "part", "word"]
theorem sc_script_of : FnScope N_script_of ["group"] (defScope s_script_of) := ⟨rfl, rfl, rfl, by decide +kernel, rfl, by decide +kernel, by decide +kernel⟩
abbrev s_Group___init__ : Stmt := clsS 39 0
abbrev N_Group___init__ : List Str := ["self", "sign", "parts", "word", "number"]
theorem sc_Group___init__ : FnScope N_Group___init__ ["self", "sign", "parts", "word", "number"] (defScope s_Group___init__) := ⟨rfl, rfl, rfl, by decide +kernel, rfl, by decide +kernel, by decide +kernel⟩
abbrev s_Group_named : Stmt := clsS 39 1
abbrev N_Group_named : List Str := ["cls", "name"]
theorem sc_Group_named : FnScope N_Group_named ["cls", "name"] (defScope s_Group_named) := ⟨rfl, rfl, rfl, by decide +kernel, rfl, by decide +kernel, by decide +kernel⟩
abbrev s_Group_every : Stmt := clsS 39 2
abbrev N_Group_every : List Str := ["cls"]
theorem sc_Group_every : FnScope N_Group_every ["cls"] (defScope s_Group_every) := ⟨rfl, rfl, rfl, by decide +kernel, rfl, by decide +kernel, by decide +kernel⟩
abbrev s_lpick : Stmt := topS 43
abbrev N_lpick : List Str := ["_law_deal", "_law_some"]
theorem sc_lpick : FnScope N_lpick ["_law_deal", "_law_some"] (defScope s_lpick) := ⟨rfl, rfl, rfl, by decide +kernel, rfl, by decide +kernel, by decide +kernel⟩
abbrev s_lshuffled : Stmt := topS 44
abbrev N_lshuffled : List Str := ["_law_deal", "_law_some", "_law_left", "_law_found", "_law_turn"]
theorem sc_lshuffled : FnScope N_lshuffled ["_law_deal", "_law_some"] (defScope s_lshuffled) := ⟨rfl, rfl, rfl, by decide +kernel, rfl, by decide +kernel, by decide +kernel⟩
abbrev s_lnames : Stmt := topS 45
abbrev N_lnames : List Str := ["_law_deal", "_law_many", "_law_some", "_law_form", "_law_spot", "_law_letters", "_law_at"]
theorem sc_lnames : FnScope N_lnames ["_law_deal", "_law_many"] (defScope s_lnames) := ⟨rfl, rfl, rfl, by decide +kernel, rfl, by decide +kernel, by decide +kernel⟩
abbrev s_lsome_kind : Stmt := topS 46
abbrev N_lsome_kind : List Str := ["_law_deal", "_law_names_here"]
theorem sc_lsome_kind : FnScope N_lsome_kind ["_law_deal", "_law_names_here"] (defScope s_lsome_kind) := ⟨rfl, rfl, rfl, by decide +kernel, rfl, by decide +kernel, by decide +kernel⟩
abbrev s_lparts : Stmt := topS 47
abbrev N_lparts : List Str := ["_law_deal", "_law_names_here", "_law_most", "_law_found", "_law_turn", "_law_kind"]
theorem sc_lparts : FnScope N_lparts ["_law_deal", "_law_names_here", "_law_most"] (defScope s_lparts) := ⟨rfl, rfl, rfl, by decide +kernel, rfl, by decide +kernel, by decide +kernel⟩
abbrev s_lrefused : Stmt := topS 48
abbrev N_lrefused : List Str := ["_law_parts_here", "_law_found", "e"]
theorem sc_lrefused : FnScope N_lrefused ["_law_parts_here"] (defScope s_lrefused) := ⟨rfl, rfl, rfl, by decide +kernel, rfl, by decide +kernel, by decide +kernel⟩
abbrev s_law : Stmt := topS 49
abbrev N_law : List Str := ["_law_script", "_law_deal", "_law_turn", "_law_names_here", "_law_parts_here", "_law_a", "_law_odd", "_law_at", "_law_bad"]
theorem sc_law : FnScope N_law ["_law_script"] (defScope s_law) := ⟨rfl, rfl, rfl, by decide +kernel, rfl, by decide +kernel, by decide +kernel⟩
structure Ad where
  C_Group : Addr
  p_Group_named : Addr
  C_Crowd : Addr
  p_Group_every : Addr
  t0_Crowd___init__ : Addr
  ds_Crowd___init__1 : List Value
  ds_Group___init__2 : List Value
  ds_Group___init__1 : List Value
  C_InvalidCrowd : Addr
  C_CrowdError : Addr
  C_InvalidText : Addr
  k_BARRED : Addr
  f_is_integer : Addr
  fd_is_integer : FuncData
  f_is_sequence : Addr
  fd_is_sequence : FuncData
  f_is_name : Addr
  fd_is_name : FuncData
  f_ascending : Addr
  fd_ascending : FuncData
  f_names_of : Addr
  fd_names_of : FuncData
  f_is_kind : Addr
  fd_is_kind : FuncData
  f_is_part : Addr
  fd_is_part : FuncData
  f_added : Addr
  fd_added : FuncData
  f_Crowd___init__ : Addr
  fd_Crowd___init__ : FuncData
  f_Crowd___eq__ : Addr
  fd_Crowd___eq__ : FuncData
  f_Crowd___str__ : Addr
  fd_Crowd___str__ : FuncData
  f_script_of : Addr
  fd_script_of : FuncData
  f_Group___init__ : Addr
  fd_Group___init__ : FuncData
  f_Group_named : Addr
  fd_Group_named : FuncData
  f_Group_every : Addr
  fd_Group_every : FuncData
  f_lpick : Addr
  fd_lpick : FuncData
  f_lshuffled : Addr
  fd_lshuffled : FuncData
  f_lnames : Addr
  fd_lnames : FuncData
  f_lsome_kind : Addr
  fd_lsome_kind : FuncData
  f_lparts : Addr
  fd_lparts : FuncData
  f_lrefused : Addr
  fd_lrefused : FuncData
  f_law : Addr
  fd_law : FuncData
  f_lsource : Addr
  fd_lsource : FuncData
  f_ldraw : Addr
  fd_ldraw : FuncData
  fx_InvalidCrowd : Addr
def gca (ad : Ad) : Nat → Addr
  | 5 => ad.C_Group
  | 3 => ad.C_Crowd
  | 1000 => ad.C_InvalidCrowd
  | 1002 => ad.C_InvalidText
  | _ => 0
structure SxAll (P : Program) (K : PySem.W.Frag) (ad : Ad) : Prop where
  InvalidCrowd : SxC P K ad.C_InvalidCrowd ad.fx_InvalidCrowd "at"
structure Kt (K : PySem.W.Frag) (mg : Str → Option Value) (ad : Ad) : Prop where
  m_range : mg "range" = none
  g_ldraw : mg "_law_draw" = some (.ref ad.f_ldraw)
  k_ldraw : PySem.W.keepIn K (.ref ad.f_ldraw) = true
  b_ldraw : Binds K ad.fd_ldraw ["_law_deal", "_law_many"] []
  b_lnames : Binds K ad.fd_lnames ["_law_deal", "_law_many"] []
  g_lnames : mg "_law_names" = some (.ref ad.f_lnames)
  k_lnames : PySem.W.keepIn K (.ref ad.f_lnames) = true
  b_lparts : Binds K ad.fd_lparts ["_law_deal", "_law_names_here", "_law_most"] []
  g_lparts : mg "_law_parts" = some (.ref ad.f_lparts)
  k_lparts : PySem.W.keepIn K (.ref ad.f_lparts) = true
  cr_Group : ClX.CRead K ad.C_Group (.type "type")
  cm_Group_named : ClX.CMet K ad.C_Group (.type "type") "named" ad.p_Group_named ad.f_Group_named
  g_Group : mg "Group" = some (.ref ad.C_Group)
  b_Group_named : Binds K ad.fd_Group_named ["cls", "name"] []
  m_len : mg "len" = none
  b_lpick : Binds K ad.fd_lpick ["_law_deal", "_law_some"] []
  g_lpick : mg "_law_pick" = some (.ref ad.f_lpick)
  k_lpick : PySem.W.keepIn K (.ref ad.f_lpick) = true
  fi_Crowd_Crowd___eq__ : PySem.W.findIn K (.ref ad.C_Crowd) "__eq__" = some (some (.ref ad.f_Crowd___eq__))
  fn_Crowd___eq__ : PySem.W.isFn K (.ref ad.f_Crowd___eq__) = true
  b_Crowd___eq__ : Binds K ad.fd_Crowd___eq__ ["self", "other"] []
  ne_Crowd : PySem.W.findIn K (.ref ad.C_Crowd) "__ne__" = some (some (.builtin "object.__ne__"))
  mo_Crowd : PySem.W.mroIn K ad.C_Crowd (.type "object") = some true
  b_lrefused : Binds K ad.fd_lrefused ["_law_parts_here"] []
  g_lrefused : mg "_law_refused" = some (.ref ad.f_lrefused)
  k_lrefused : PySem.W.keepIn K (.ref ad.f_lrefused) = true
  m_tuple : mg "tuple" = none
  cm_Group_every : ClX.CMet K ad.C_Group (.type "type") "every" ad.p_Group_every ad.f_Group_every
  b_Group_every : Binds K ad.fd_Group_every ["cls"] []
  Mk_Crowd : Mk K ad.C_Crowd ad.f_Crowd___init__
  t0_Crowd___init__ : ∀ Hc, Rp K Hc (.tup []) (.ref ad.t0_Crowd___init__)
  b_Crowd___init__1 : Binds K ad.fd_Crowd___init__ ["self", "parts"] ad.ds_Crowd___init__1
  dv_Crowd___init__1 : Vals [.ref ad.t0_Crowd___init__] ad.ds_Crowd___init__1
  g_Crowd : mg "Crowd" = some (.ref ad.C_Crowd)
  m_isinstance : mg "isinstance" = none
  b_is_sequence : Binds K ad.fd_is_sequence ["value"] []
  g_is_sequence : mg "is_sequence" = some (.ref ad.f_is_sequence)
  k_is_sequence : PySem.W.keepIn K (.ref ad.f_is_sequence) = true
  m_enumerate : mg "enumerate" = none
  b_is_part : Binds K ad.fd_is_part ["value"] []
  g_is_part : mg "is_part" = some (.ref ad.f_is_part)
  k_is_part : PySem.W.keepIn K (.ref ad.f_is_part) = true
  b_ascending : Binds K ad.fd_ascending ["names"] []
  g_ascending : mg "ascending" = some (.ref ad.f_ascending)
  k_ascending : PySem.W.keepIn K (.ref ad.f_ascending) = true
  b_added : Binds K ad.fd_added ["pairs"] []
  g_added : mg "added" = some (.ref ad.f_added)
  k_added : PySem.W.keepIn K (.ref ad.f_added) = true
  fi_Crowd_Crowd___str__ : PySem.W.findIn K (.ref ad.C_Crowd) "__str__" = some (some (.ref ad.f_Crowd___str__))
  fn_Crowd___str__ : PySem.W.isFn K (.ref ad.f_Crowd___str__) = true
  b_Crowd___str__ : Binds K ad.fd_Crowd___str__ ["self"] []
  m_str : mg "str" = none
  m_sum : mg "sum" = none
  Mk_Group : Mk K ad.C_Group ad.f_Group___init__
  b_Group___init__2 : Binds K ad.fd_Group___init__ ["self", "sign", "parts", "word", "number"] ad.ds_Group___init__2
  dv_Group___init__2 : Vals [.str "", .int 0] ad.ds_Group___init__2
  b_is_name : Binds K ad.fd_is_name ["value"] []
  g_is_name : mg "is_name" = some (.ref ad.f_is_name)
  k_is_name : PySem.W.keepIn K (.ref ad.f_is_name) = true
  b_Group___init__1 : Binds K ad.fd_Group___init__ ["self", "sign", "parts", "word", "number"] ad.ds_Group___init__1
  dv_Group___init__1 : Vals [.int 0] ad.ds_Group___init__1
  b_lshuffled : Binds K ad.fd_lshuffled ["_law_deal", "_law_some"] []
  g_lshuffled : mg "_law_shuffled" = some (.ref ad.f_lshuffled)
  k_lshuffled : PySem.W.keepIn K (.ref ad.f_lshuffled) = true
  m_int : mg "int" = none
  b_lsome_kind : Binds K ad.fd_lsome_kind ["_law_deal", "_law_names_here"] []
  g_lsome_kind : mg "_law_some_kind" = some (.ref ad.f_lsome_kind)
  k_lsome_kind : PySem.W.keepIn K (.ref ad.f_lsome_kind) = true
  g_InvalidCrowd : mg "InvalidCrowd" = some (.ref ad.C_InvalidCrowd)
  g_CrowdError : mg "CrowdError" = some (.ref ad.C_CrowdError)
  g_InvalidText : mg "InvalidText" = some (.ref ad.C_InvalidText)
  ek_InvalidCrowd : EkC K ad.C_InvalidCrowd "at"
  ex_InvalidCrowd : PySem.W.exmOne K (.ref ad.C_InvalidCrowd) (.ref ad.C_InvalidCrowd) = some true
  kx_InvalidCrowd_CrowdError : PySem.W.kitOne K (.ref ad.C_InvalidCrowd) (.ref ad.C_CrowdError) = some true
  kx_InvalidCrowd_InvalidText : PySem.W.kitOne K (.ref ad.C_InvalidCrowd) (.ref ad.C_InvalidText) = some false
  b_Crowd___init__ : Binds K ad.fd_Crowd___init__ ["self", "parts"] []
  m_sorted : mg "sorted" = none
  b_is_integer : Binds K ad.fd_is_integer ["value"] []
  g_is_integer : mg "is_integer" = some (.ref ad.f_is_integer)
  k_is_integer : PySem.W.keepIn K (.ref ad.f_is_integer) = true
  b_is_kind : Binds K ad.fd_is_kind ["value"] []
  g_is_kind : mg "is_kind" = some (.ref ad.f_is_kind)
  k_is_kind : PySem.W.keepIn K (.ref ad.f_is_kind) = true
  m_list : mg "list" = none
  b_names_of : Binds K ad.fd_names_of ["things"] []
  g_names_of : mg "names_of" = some (.ref ad.f_names_of)
  k_names_of : PySem.W.keepIn K (.ref ad.f_names_of) = true
  b_script_of : Binds K ad.fd_script_of ["group"] []
  g_script_of : mg "script_of" = some (.ref ad.f_script_of)
  k_script_of : PySem.W.keepIn K (.ref ad.f_script_of) = true
  v_BARRED : Gv mg "BARRED" (.ref ad.k_BARRED)
  r_BARRED : ∀ Hc, Rp K Hc c_BARRED (.ref ad.k_BARRED)
  v_MOST_LETTERS : Gv mg "MOST_LETTERS" (.int 4)
  v_LETTERS : Gv mg "LETTERS" (.str "abcdefghijklmnopqrstuvwxyz")
  m_all : mg "all" = none
  m_bool : mg "bool" = none
  m_super : mg "super" = none
  F_is_integer : FunA K "is_integer" "is_integer" s_is_integer ad.f_is_integer ad.fd_is_integer
  F_is_sequence : FunA K "is_sequence" "is_sequence" s_is_sequence ad.f_is_sequence ad.fd_is_sequence
  F_is_name : FunA K "is_name" "is_name" s_is_name ad.f_is_name ad.fd_is_name
  F_ascending : FunA K "ascending" "ascending" s_ascending ad.f_ascending ad.fd_ascending
  F_names_of : FunA K "names_of" "names_of" s_names_of ad.f_names_of ad.fd_names_of
  F_is_kind : FunA K "is_kind" "is_kind" s_is_kind ad.f_is_kind ad.fd_is_kind
  F_is_part : FunA K "is_part" "is_part" s_is_part ad.f_is_part ad.fd_is_part
  F_added : FunA K "added" "added" s_added ad.f_added ad.fd_added
  F_Crowd___init__ : FunA K "__init__" "Crowd.__init__" s_Crowd___init__ ad.f_Crowd___init__ ad.fd_Crowd___init__
  F_Crowd___eq__ : FunA K "__eq__" "Crowd.__eq__" s_Crowd___eq__ ad.f_Crowd___eq__ ad.fd_Crowd___eq__
  F_Crowd___str__ : FunA K "__str__" "Crowd.__str__" s_Crowd___str__ ad.f_Crowd___str__ ad.fd_Crowd___str__
  F_script_of : FunA K "script_of" "script_of" s_script_of ad.f_script_of ad.fd_script_of
  F_Group___init__ : FunA K "__init__" "Group.__init__" s_Group___init__ ad.f_Group___init__ ad.fd_Group___init__
  F_Group_named : FunA K "named" "Group.named" s_Group_named ad.f_Group_named ad.fd_Group_named
  F_Group_every : FunA K "every" "Group.every" s_Group_every ad.f_Group_every ad.fd_Group_every
  F_lpick : FunA K "_law_pick" "_law_pick" s_lpick ad.f_lpick ad.fd_lpick
  F_lshuffled : FunA K "_law_shuffled" "_law_shuffled" s_lshuffled ad.f_lshuffled ad.fd_lshuffled
  F_lnames : FunA K "_law_names" "_law_names" s_lnames ad.f_lnames ad.fd_lnames
  F_lsome_kind : FunA K "_law_some_kind" "_law_some_kind" s_lsome_kind ad.f_lsome_kind ad.fd_lsome_kind
  F_lparts : FunA K "_law_parts" "_law_parts" s_lparts ad.f_lparts ad.fd_lparts
  F_lrefused : FunA K "_law_refused" "_law_refused" s_lrefused ad.f_lrefused ad.fd_lrefused
  F_law : Fun K "law" "law" s_law ad.f_law ad.fd_law
  F_lsource : Fun K "_law_source" "_law_source" s_lsource ad.f_lsource ad.fd_lsource
  F_ldraw : Fun K "_law_draw" "_law_draw" s_ldraw ad.f_ldraw ad.fd_ldraw
  kl_Group : Kl K ad.C_Group
  nb_Group : noBi K ad.C_Group
  kl_Crowd : Kl K ad.C_Crowd
  nb_Crowd : noBi K ad.C_Crowd
  na_Group_names : NoAttr K ad.C_Group "names"
  na_Crowd_names : NoAttr K ad.C_Crowd "names"
  na_Group_number : NoAttr K ad.C_Group "number"
  na_Crowd_number : NoAttr K ad.C_Crowd "number"
  na_Group_parts : NoAttr K ad.C_Group "parts"
  na_Crowd_parts : NoAttr K ad.C_Crowd "parts"
  na_Group_script : NoAttr K ad.C_Group "script"
  na_Crowd_script : NoAttr K ad.C_Crowd "script"
  na_Group_sign : NoAttr K ad.C_Group "sign"
  na_Crowd_sign : NoAttr K ad.C_Crowd "sign"
  na_Group_size : NoAttr K ad.C_Group "size"
  na_Crowd_size : NoAttr K ad.C_Crowd "size"
  na_Group_word : NoAttr K ad.C_Group "word"
  na_Crowd_word : NoAttr K ad.C_Crowd "word"
  ki_Group_Crowd : PySem.W.kitOne K (.ref ad.C_Group) (.ref ad.C_Crowd) = some false
  ki_Crowd_Crowd : PySem.W.kitOne K (.ref ad.C_Crowd) (.ref ad.C_Crowd) = some true
  kb_NoneType_Crowd : PySem.W.kitOne K (.type "NoneType") (.ref ad.C_Crowd) = some false
  kb_bool_Crowd : PySem.W.kitOne K (.type "bool") (.ref ad.C_Crowd) = some false
  kb_int_Crowd : PySem.W.kitOne K (.type "int") (.ref ad.C_Crowd) = some false
  kb_str_Crowd : PySem.W.kitOne K (.type "str") (.ref ad.C_Crowd) = some false
  kb_list_Crowd : PySem.W.kitOne K (.type "list") (.ref ad.C_Crowd) = some false
  kb_tuple_Crowd : PySem.W.kitOne K (.type "tuple") (.ref ad.C_Crowd) = some false
  nf_Group_Crowd : PySem.W.notFirst K ad.C_Crowd (.ref ad.C_Group) = true
  nf_Crowd_Crowd : PySem.W.notFirst K ad.C_Crowd (.ref ad.C_Crowd) = true
  nt_NoneType_Crowd : PySem.W.notFirst K ad.C_Crowd (.type "NoneType") = true
  nt_bool_Crowd : PySem.W.notFirst K ad.C_Crowd (.type "bool") = true
  nt_int_Crowd : PySem.W.notFirst K ad.C_Crowd (.type "int") = true
  nt_str_Crowd : PySem.W.notFirst K ad.C_Crowd (.type "str") = true
  nt_list_Crowd : PySem.W.notFirst K ad.C_Crowd (.type "list") = true
  nt_tuple_Crowd : PySem.W.notFirst K ad.C_Crowd (.type "tuple") = true
  m_abs : mg "abs" = none
  g_lsource : mg "_law_source" = some (.ref ad.f_lsource)
  k_lsource : PySem.W.keepIn K (.ref ad.f_lsource) = true
  b_lsource : Binds K ad.fd_lsource ["_law_script", "_law_base"] []
abbrev gd (K : PySem.W.Frag) (ad : Ad) : Gd := ⟨K, gca ad, Deal⟩
theorem gd_ok (K : PySem.W.Frag) (ad : Ad) : (gd K ad).Ok := ⟨fun e h => let ⟨ns, st, d⟩ := h; ⟨ns, st, d.ex e⟩, deal_some, fun h h1 h2 => deal_upd h h1 h2⟩
structure AllOk (P : Program) (w : World) (K : PySem.W.Frag) (mg : Str → Option Value) (base : Heap) (ad : Ad) (n : Nat) : Prop where
  is_integer : FnOk P w K mg base CX0 (3 * n) ad.f_is_integer ad.fd_is_integer ["value"] (spF (gd K ad) 1 (tab n).is_integer)
  is_sequence : FnOk P w K mg base CX0 (3 * n) ad.f_is_sequence ad.fd_is_sequence ["value"] (spF (gd K ad) 1 (tab n).is_sequence)
  is_name : FnOk P w K mg base CX0 (3 * n) ad.f_is_name ad.fd_is_name ["value"] (spF (gd K ad) 1 (tab n).is_name)
  ascending : FnOk P w K mg base CX0 (3 * n) ad.f_ascending ad.fd_ascending ["names"] (spF (gd K ad) 1 (tab n).ascending)
  names_of : FnOk P w K mg base CX0 (3 * n) ad.f_names_of ad.fd_names_of ["things"] (spF (gd K ad) 1 (tab n).names_of)
  is_kind : FnOk P w K mg base CX0 (3 * n) ad.f_is_kind ad.fd_is_kind ["value"] (spF (gd K ad) 1 (tab n).is_kind)
  is_part : FnOk P w K mg base CX0 (3 * n) ad.f_is_part ad.fd_is_part ["value"] (spF (gd K ad) 1 (tab n).is_part)
  added : FnOk P w K mg base CX0 (3 * n) ad.f_added ad.fd_added ["pairs"] (spF (gd K ad) 1 (tab n).added)
  mk_Crowd : FnOk P w K mg base CX0 (3 * n) ad.f_Crowd___init__ ad.fd_Crowd___init__ ["self", "parts"] (spI' (gd K ad) 3 1 (tab n).mk_Crowd)
  Crowd___eq__ : FnOk P w K mg base CX0 (3 * n) ad.f_Crowd___eq__ ad.fd_Crowd___eq__ ["self", "other"] (spF (gd K ad) 2 (tab n).Crowd___eq__)
  Crowd___str__ : FnOk P w K mg base CX0 (3 * n) ad.f_Crowd___str__ ad.fd_Crowd___str__ ["self"] (spF (gd K ad) 1 (tab n).Crowd___str__)
  script_of : FnOk P w K mg base CX0 (3 * n) ad.f_script_of ad.fd_script_of ["group"] (spF (gd K ad) 1 (tab n).script_of)
  mk_Group : FnOk P w K mg base CX0 (3 * n) ad.f_Group___init__ ad.fd_Group___init__ ["self", "sign", "parts", "word", "number"] (spI' (gd K ad) 5 4 (tab n).mk_Group)
  Group_named : FnOk P w K mg base CX0 (3 * n) ad.f_Group_named ad.fd_Group_named ["cls", "name"] (spF (gd K ad) 2 (tab n).Group_named)
  Group_every : FnOk P w K mg base CX0 (3 * n) ad.f_Group_every ad.fd_Group_every ["cls"] (spF (gd K ad) 1 (tab n).Group_every)
  lpick : FnOk P w K mg base CX0 (3 * n) ad.f_lpick ad.fd_lpick ["_law_deal", "_law_some"] (spF (gd K ad) 2 (tab n).lpick)
  lshuffled : FnOk P w K mg base CX0 (3 * n) ad.f_lshuffled ad.fd_lshuffled ["_law_deal", "_law_some"] (spF (gd K ad) 2 (tab n).lshuffled)
  lnames : FnOk P w K mg base CX0 (3 * n) ad.f_lnames ad.fd_lnames ["_law_deal", "_law_many"] (spF (gd K ad) 2 (tab n).lnames)
  lsome_kind : FnOk P w K mg base CX0 (3 * n) ad.f_lsome_kind ad.fd_lsome_kind ["_law_deal", "_law_names_here"] (spF (gd K ad) 2 (tab n).lsome_kind)
  lparts : FnOk P w K mg base CX0 (3 * n) ad.f_lparts ad.fd_lparts ["_law_deal", "_law_names_here", "_law_most"] (spF (gd K ad) 3 (tab n).lparts)
  lrefused : FnOk P w K mg base CX0 (3 * n) ad.f_lrefused ad.fd_lrefused ["_law_parts_here"] (spF (gd K ad) 1 (tab n).lrefused)
  X_mk_Crowd : FnOk P w K mg base (L2.CX P w) (3 * n) ad.f_Crowd___init__ ad.fd_Crowd___init__ ["self", "parts"] (spIX (gd K ad) 3 1 (tab n).X_mk_Crowd)
section
variable {P : Program} {w : World} {K : PySem.W.Frag} {mg : Str → Option Value} {base : Heap} {ad : Ad}
theorem ks_kcls (Z : Kt K mg ad) : ∀ k ∈ ks_all, KCls (gd K ad) k := (al_cons ⟨by decide, Z.kl_Group, Z.nb_Group⟩ (al_cons ⟨by decide, Z.kl_Crowd, Z.nb_Crowd⟩ al_nil))
theorem at_names (Z : Kt K mg ad) : ∀ k ∈ ks_names, ACls (gd K ad) "names" k := (al_cons ⟨by decide, Z.kl_Group.cl, Z.na_Group_names⟩ (al_cons ⟨by decide, Z.kl_Crowd.cl, Z.na_Crowd_names⟩ al_nil))
theorem at_number (Z : Kt K mg ad) : ∀ k ∈ ks_number, ACls (gd K ad) "number" k := (al_cons ⟨by decide, Z.kl_Group.cl, Z.na_Group_number⟩ (al_cons ⟨by decide, Z.kl_Crowd.cl, Z.na_Crowd_number⟩ al_nil))
theorem at_parts (Z : Kt K mg ad) : ∀ k ∈ ks_parts, ACls (gd K ad) "parts" k := (al_cons ⟨by decide, Z.kl_Group.cl, Z.na_Group_parts⟩ (al_cons ⟨by decide, Z.kl_Crowd.cl, Z.na_Crowd_parts⟩ al_nil))
theorem at_script (Z : Kt K mg ad) : ∀ k ∈ ks_script, ACls (gd K ad) "script" k := (al_cons ⟨by decide, Z.kl_Group.cl, Z.na_Group_script⟩ (al_cons ⟨by decide, Z.kl_Crowd.cl, Z.na_Crowd_script⟩ al_nil))
theorem at_sign (Z : Kt K mg ad) : ∀ k ∈ ks_sign, ACls (gd K ad) "sign" k := (al_cons ⟨by decide, Z.kl_Group.cl, Z.na_Group_sign⟩ (al_cons ⟨by decide, Z.kl_Crowd.cl, Z.na_Crowd_sign⟩ al_nil))
theorem at_size (Z : Kt K mg ad) : ∀ k ∈ ks_size, ACls (gd K ad) "size" k := (al_cons ⟨by decide, Z.kl_Group.cl, Z.na_Group_size⟩ (al_cons ⟨by decide, Z.kl_Crowd.cl, Z.na_Crowd_size⟩ al_nil))
theorem at_word (Z : Kt K mg ad) : ∀ k ∈ ks_word, ACls (gd K ad) "word" k := (al_cons ⟨by decide, Z.kl_Group.cl, Z.na_Group_word⟩ (al_cons ⟨by decide, Z.kl_Crowd.cl, Z.na_Crowd_word⟩ al_nil))
theorem kc_Crowd_ok (Z : Kt K mg ad) : CCls (gd K ad) 3 kc_Crowd := ⟨by decide, fun k b h => (show ∀ p ∈ kc_Crowd, p.1 ≠ 1 ∧ Kl K (gca ad p.1) ∧ PySem.W.kitOne K (.ref (gca ad p.1)) (.ref ad.C_Crowd) = some p.2 from (al_cons ⟨by decide, Z.kl_Group, Z.ki_Group_Crowd⟩ (al_cons ⟨by decide, Z.kl_Crowd, Z.ki_Crowd_Crowd⟩ al_nil))) (k, b) h, (al_cons Z.kb_NoneType_Crowd (al_cons Z.kb_bool_Crowd (al_cons Z.kb_int_Crowd (al_cons Z.kb_str_Crowd (al_cons Z.kb_list_Crowd (al_cons Z.kb_tuple_Crowd al_nil))))))⟩
theorem nc_Crowd (Z : Kt K mg ad) : NCls (gd K ad) 3 ks_all := ⟨by decide, (al_cons ⟨by decide, Z.kl_Group, Z.nf_Group_Crowd⟩ (al_cons ⟨by decide, Z.kl_Crowd, Z.nf_Crowd_Crowd⟩ al_nil)), (al_cons Z.nt_NoneType_Crowd (al_cons Z.nt_bool_Crowd (al_cons Z.nt_int_Crowd (al_cons Z.nt_str_Crowd (al_cons Z.nt_list_Crowd (al_cons Z.nt_tuple_Crowd al_nil))))))⟩
end
end Mc
namespace Mc
open PySem PySem.Spec PyProof.Rows L2 Evl
theorem bn_is_integer {K : PySem.W.Frag} {kV_is_integer dc_is_integer pm_is_integer cd_is_integer ct_is_integer : Value} {an_is_integer : Option Addr} : Binds K (PySem.W.fnOf "is_integer" "is_integer" (defArgs s_is_integer) (defBody s_is_integer) (defScope s_is_integer) .none kV_is_integer dc_is_integer pm_is_integer an_is_integer cd_is_integer ct_is_integer) ["value"] [] := Binds.all fun us hl => match us, hl with | [_], _ => rfl
theorem bn_is_sequence {K : PySem.W.Frag} {kV_is_sequence dc_is_sequence pm_is_sequence cd_is_sequence ct_is_sequence : Value} {an_is_sequence : Option Addr} : Binds K (PySem.W.fnOf "is_sequence" "is_sequence" (defArgs s_is_sequence) (defBody s_is_sequence) (defScope s_is_sequence) .none kV_is_sequence dc_is_sequence pm_is_sequence an_is_sequence cd_is_sequence ct_is_sequence) ["value"] [] := Binds.all fun us hl => match us, hl with | [_], _ => rfl
theorem bn_is_name {K : PySem.W.Frag} {kV_is_name dc_is_name pm_is_name cd_is_name ct_is_name : Value} {an_is_name : Option Addr} : Binds K (PySem.W.fnOf "is_name" "is_name" (defArgs s_is_name) (defBody s_is_name) (defScope s_is_name) .none kV_is_name dc_is_name pm_is_name an_is_name cd_is_name ct_is_name) ["value"] [] := Binds.all fun us hl => match us, hl with | [_], _ => rfl
theorem bn_ascending {K : PySem.W.Frag} {kV_ascending dc_ascending pm_ascending cd_ascending ct_ascending : Value} {an_ascending : Option Addr} : Binds K (PySem.W.fnOf "ascending" "ascending" (defArgs s_ascending) (defBody s_ascending) (defScope s_ascending) .none kV_ascending dc_ascending pm_ascending an_ascending cd_ascending ct_ascending) ["names"] [] := Binds.all fun us hl => match us, hl with | [_], _ => rfl
theorem bn_names_of {K : PySem.W.Frag} {kV_names_of dc_names_of pm_names_of cd_names_of ct_names_of : Value} {an_names_of : Option Addr} : Binds K (PySem.W.fnOf "names_of" "names_of" (defArgs s_names_of) (defBody s_names_of) (defScope s_names_of) .none kV_names_of dc_names_of pm_names_of an_names_of cd_names_of ct_names_of) ["things"] [] := Binds.all fun us hl => match us, hl with | [_], _ => rfl
theorem bn_is_kind {K : PySem.W.Frag} {kV_is_kind dc_is_kind pm_is_kind cd_is_kind ct_is_kind : Value} {an_is_kind : Option Addr} : Binds K (PySem.W.fnOf "is_kind" "is_kind" (defArgs s_is_kind) (defBody s_is_kind) (defScope s_is_kind) .none kV_is_kind dc_is_kind pm_is_kind an_is_kind cd_is_kind ct_is_kind) ["value"] [] := Binds.all fun us hl => match us, hl with | [_], _ => rfl
theorem bn_is_part {K : PySem.W.Frag} {kV_is_part dc_is_part pm_is_part cd_is_part ct_is_part : Value} {an_is_part : Option Addr} : Binds K (PySem.W.fnOf "is_part" "is_part" (defArgs s_is_part) (defBody s_is_part) (defScope s_is_part) .none kV_is_part dc_is_part pm_is_part an_is_part cd_is_part ct_is_part) ["value"] [] := Binds.all fun us hl => match us, hl with | [_], _ => rfl
theorem bn_added {K : PySem.W.Frag} {kV_added dc_added pm_added cd_added ct_added : Value} {an_added : Option Addr} : Binds K (PySem.W.fnOf "added" "added" (defArgs s_added) (defBody s_added) (defScope s_added) .none kV_added dc_added pm_added an_added cd_added ct_added) ["pairs"] [] := Binds.all fun us hl => match us, hl with | [_], _ => rfl
theorem bn_Crowd___eq__ {K : PySem.W.Frag} {kV_Crowd___eq__ dc_Crowd___eq__ pm_Crowd___eq__ cd_Crowd___eq__ ct_Crowd___eq__ : Value} {an_Crowd___eq__ : Option Addr} : Binds K (PySem.W.fnOf "__eq__" "Crowd.__eq__" (defArgs s_Crowd___eq__) (defBody s_Crowd___eq__) (defScope s_Crowd___eq__) .none kV_Crowd___eq__ dc_Crowd___eq__ pm_Crowd___eq__ an_Crowd___eq__ cd_Crowd___eq__ ct_Crowd___eq__) ["self", "other"] [] := Binds.all fun us hl => match us, hl with | [_, _], _ => rfl
theorem bn_Crowd___str__ {K : PySem.W.Frag} {kV_Crowd___str__ dc_Crowd___str__ pm_Crowd___str__ cd_Crowd___str__ ct_Crowd___str__ : Value} {an_Crowd___str__ : Option Addr} : Binds K (PySem.W.fnOf "__str__" "Crowd.__str__" (defArgs s_Crowd___str__) (defBody s_Crowd___str__) (defScope s_Crowd___str__) .none kV_Crowd___str__ dc_Crowd___str__ pm_Crowd___str__ an_Crowd___str__ cd_Crowd___str__ ct_Crowd___str__) ["self"] [] := Binds.all fun us hl => match us, hl with | [_], _ => rfl
theorem bn_script_of {K : PySem.W.Frag} {kV_script_of dc_script_of pm_script_of cd_script_of ct_script_of : Value} {an_script_of : Option Addr} : Binds K (PySem.W.fnOf "script_of" "script_of" (defArgs s_script_of) (defBody s_script_of) (defScope s_script_of) .none kV_script_of dc_script_of pm_script_of an_script_of cd_script_of ct_script_of) ["group"] [] := Binds.all fun us hl => match us, hl with | [_], _ => rfl
theorem bn_Group_named {K : PySem.W.Frag} {kV_Group_named dc_Group_named pm_Group_named cd_Group_named ct_Group_named : Value} {an_Group_named : Option Addr} : Binds K (PySem.W.fnOf "named" "Group.named" (defArgs s_Group_named) (defBody s_Group_named) (defScope s_Group_named) .none kV_Group_named dc_Group_named pm_Group_named an_Group_named cd_Group_named ct_Group_named) ["cls", "name"] [] := Binds.all fun us hl => match us, hl with | [_, _], _ => rfl
theorem bn_Group_every {K : PySem.W.Frag} {kV_Group_every dc_Group_every pm_Group_every cd_Group_every ct_Group_every : Value} {an_Group_every : Option Addr} : Binds K (PySem.W.fnOf "every" "Group.every" (defArgs s_Group_every) (defBody s_Group_every) (defScope s_Group_every) .none kV_Group_every dc_Group_every pm_Group_every an_Group_every cd_Group_every ct_Group_every) ["cls"] [] := Binds.all fun us hl => match us, hl with | [_], _ => rfl
theorem bn_lpick {K : PySem.W.Frag} {kV_lpick dc_lpick pm_lpick cd_lpick ct_lpick : Value} {an_lpick : Option Addr} : Binds K (PySem.W.fnOf "_law_pick" "_law_pick" (defArgs s_lpick) (defBody s_lpick) (defScope s_lpick) .none kV_lpick dc_lpick pm_lpick an_lpick cd_lpick ct_lpick) ["_law_deal", "_law_some"] [] := Binds.all fun us hl => match us, hl with | [_, _], _ => rfl
theorem bn_lshuffled {K : PySem.W.Frag} {kV_lshuffled dc_lshuffled pm_lshuffled cd_lshuffled ct_lshuffled : Value} {an_lshuffled : Option Addr} : Binds K (PySem.W.fnOf "_law_shuffled" "_law_shuffled" (defArgs s_lshuffled) (defBody s_lshuffled) (defScope s_lshuffled) .none kV_lshuffled dc_lshuffled pm_lshuffled an_lshuffled cd_lshuffled ct_lshuffled) ["_law_deal", "_law_some"] [] := Binds.all fun us hl => match us, hl with | [_, _], _ => rfl
theorem bn_lnames {K : PySem.W.Frag} {kV_lnames dc_lnames pm_lnames cd_lnames ct_lnames : Value} {an_lnames : Option Addr} : Binds K (PySem.W.fnOf "_law_names" "_law_names" (defArgs s_lnames) (defBody s_lnames) (defScope s_lnames) .none kV_lnames dc_lnames pm_lnames an_lnames cd_lnames ct_lnames) ["_law_deal", "_law_many"] [] := Binds.all fun us hl => match us, hl with | [_, _], _ => rfl
theorem bn_lsome_kind {K : PySem.W.Frag} {kV_lsome_kind dc_lsome_kind pm_lsome_kind cd_lsome_kind ct_lsome_kind : Value} {an_lsome_kind : Option Addr} : Binds K (PySem.W.fnOf "_law_some_kind" "_law_some_kind" (defArgs s_lsome_kind) (defBody s_lsome_kind) (defScope s_lsome_kind) .none kV_lsome_kind dc_lsome_kind pm_lsome_kind an_lsome_kind cd_lsome_kind ct_lsome_kind) ["_law_deal", "_law_names_here"] [] := Binds.all fun us hl => match us, hl with | [_, _], _ => rfl
theorem bn_lparts {K : PySem.W.Frag} {kV_lparts dc_lparts pm_lparts cd_lparts ct_lparts : Value} {an_lparts : Option Addr} : Binds K (PySem.W.fnOf "_law_parts" "_law_parts" (defArgs s_lparts) (defBody s_lparts) (defScope s_lparts) .none kV_lparts dc_lparts pm_lparts an_lparts cd_lparts ct_lparts) ["_law_deal", "_law_names_here", "_law_most"] [] := Binds.all fun us hl => match us, hl with | [_, _, _], _ => rfl
theorem bn_lrefused {K : PySem.W.Frag} {kV_lrefused dc_lrefused pm_lrefused cd_lrefused ct_lrefused : Value} {an_lrefused : Option Addr} : Binds K (PySem.W.fnOf "_law_refused" "_law_refused" (defArgs s_lrefused) (defBody s_lrefused) (defScope s_lrefused) .none kV_lrefused dc_lrefused pm_lrefused an_lrefused cd_lrefused ct_lrefused) ["_law_parts_here"] [] := Binds.all fun us hl => match us, hl with | [_], _ => rfl
theorem bn_lsource {K : PySem.W.Frag} {kV_lsource dc_lsource pm_lsource cd_lsource ct_lsource : Value} {an_lsource : Option Addr} : Binds K (PySem.W.fnOf "_law_source" "_law_source" (defArgs s_lsource) (defBody s_lsource) (defScope s_lsource) .none kV_lsource dc_lsource pm_lsource an_lsource cd_lsource ct_lsource) ["_law_script", "_law_base"] [] := Binds.all fun us hl => match us, hl with | [_, _], _ => rfl
theorem bn_ldraw {K : PySem.W.Frag} {kV_ldraw dc_ldraw pm_ldraw cd_ldraw ct_ldraw : Value} {an_ldraw : Option Addr} : Binds K (PySem.W.fnOf "_law_draw" "_law_draw" (defArgs s_ldraw) (defBody s_ldraw) (defScope s_ldraw) .none kV_ldraw dc_ldraw pm_ldraw an_ldraw cd_ldraw ct_ldraw) ["_law_deal", "_law_many"] [] := Binds.all fun us hl => match us, hl with | [_, _], _ => rfl
theorem bd_Crowd___init__1 {K : PySem.W.Frag} {f t0_Crowd___init__ : Addr} {fd : FuncData} (F : FunD K "__init__" "Crowd.__init__" (defArgs s_Crowd___init__) (defBody s_Crowd___init__) (defScope s_Crowd___init__) [.ref t0_Crowd___init__] [] f fd) : ∃ ds, Vals (List.drop 0 [.ref t0_Crowd___init__]) ds ∧ Binds K fd ["self", "parts"] ds := F.binds1 (ps := ["self", "parts"]) 1 0 (by intro z; cases z) rfl fun T kV doc pm an cdv ct us its hl hl2 => match us, hl, its, hl2 with | [_], _, [_], _ => ⟨_, rfl, rfl⟩
theorem bd_Crowd___init__0 {K : PySem.W.Frag} {f t0_Crowd___init__ : Addr} {fd : FuncData} (F : FunD K "__init__" "Crowd.__init__" (defArgs s_Crowd___init__) (defBody s_Crowd___init__) (defScope s_Crowd___init__) [.ref t0_Crowd___init__] [] f fd) : ∃ ds, Vals (List.drop 1 [.ref t0_Crowd___init__]) ds ∧ Binds K fd ["self", "parts"] ds := F.binds1 (ps := ["self", "parts"]) 2 1 (by intro z; cases z) rfl fun T kV doc pm an cdv ct us its hl hl2 => match us, hl, its, hl2 with | [_, _], _, [_], _ => ⟨_, rfl, rfl⟩
theorem bd_Group___init__2 {K : PySem.W.Frag} {f : Addr} {fd : FuncData} (F : FunD K "__init__" "Group.__init__" (defArgs s_Group___init__) (defBody s_Group___init__) (defScope s_Group___init__) [.str "", .int 0] [] f fd) : ∃ ds, Vals (List.drop 0 [.str "", .int 0]) ds ∧ Binds K fd ["self", "sign", "parts", "word", "number"] ds := F.binds1 (ps := ["self", "sign", "parts", "word", "number"]) 3 0 (by intro z; cases z) rfl fun T kV doc pm an cdv ct us its hl hl2 => match us, hl, its, hl2 with | [_, _, _], _, [_, _], _ => ⟨_, rfl, rfl⟩
theorem bd_Group___init__1 {K : PySem.W.Frag} {f : Addr} {fd : FuncData} (F : FunD K "__init__" "Group.__init__" (defArgs s_Group___init__) (defBody s_Group___init__) (defScope s_Group___init__) [.str "", .int 0] [] f fd) : ∃ ds, Vals (List.drop 1 [.str "", .int 0]) ds ∧ Binds K fd ["self", "sign", "parts", "word", "number"] ds := F.binds1 (ps := ["self", "sign", "parts", "word", "number"]) 4 1 (by intro z; cases z) rfl fun T kV doc pm an cdv ct us its hl hl2 => match us, hl, its, hl2 with | [_, _, _, _], _, [_, _], _ => ⟨_, rfl, rfl⟩
end Mc
namespace Mc
open PySem PySem.Spec PyProof.Rows L2 Evl
theorem mk_Kt {P : Program} {K : PySem.W.Frag} {h : Heap} {mg : Str → Option Value} {C_Group C_Crowd C_InvalidCrowd C_CrowdError C_InvalidText fx_InvalidCrowd p_Group_named f_Group_named f_Crowd___eq__ p_Group_every f_Group_every f_Crowd___init__ f_Crowd___str__ f_Group___init__ k_BARRED f_is_integer f_is_sequence f_is_name f_ascending f_names_of f_is_kind f_is_part f_added T_Crowd___init__ t0_Crowd___init__ f_script_of T_Group___init__ f_lpick f_lshuffled f_lnames f_lsome_kind f_lparts f_lrefused f_law f_lsource f_ldraw : Addr} {rs_Group_named rs_Group_every : List Value} {n_BARRED n0_Crowd___init__ n2_Crowd___init__ n2_Group___init__ : Nat} {sl_BARRED sl_is_integer sl_is_sequence sl_is_name sl_ascending sl_names_of sl_is_kind sl_is_part sl_added sl_Crowd___init__ sl0_Crowd___init__ sl2_Crowd___init__ sl_Crowd___eq__ sl_Crowd___str__ sl_script_of sl_Group___init__ sl2_Group___init__ sl_Group_named sl_Group_every sl_lpick sl_lshuffled sl_lnames sl_lsome_kind sl_lparts sl_lrefused sl_law sl_lsource sl_ldraw : Array (Option Value)} {t0_BARRED t1_BARRED t2_BARRED t3_BARRED t4_BARRED t5_BARRED t6_BARRED t7_BARRED tk_MOST_LETTERS tk_LETTERS d0_Group___init__ d1_Group___init__ : Tok} {od_is_integer an_is_integer od_is_sequence an_is_sequence od_is_name an_is_name od_ascending an_ascending od_names_of an_names_of od_is_kind an_is_kind od_is_part an_is_part od_added an_added od_Crowd___init__ an_Crowd___init__ od0_Crowd___init__ od2_Crowd___init__ od_Crowd___eq__ an_Crowd___eq__ od_Crowd___str__ an_Crowd___str__ od_script_of an_script_of od_Group___init__ an_Group___init__ od2_Group___init__ od_Group_named an_Group_named od_Group_every an_Group_every od_lpick an_lpick od_lshuffled an_lshuffled od_lnames an_lnames od_lsome_kind an_lsome_kind od_lparts an_lparts od_lrefused an_lrefused od_law an_law od_lsource an_lsource od_ldraw an_ldraw : Option Addr} {oc_is_integer kV_is_integer dc_is_integer pm_is_integer cd_is_integer ct_is_integer oc_is_sequence kV_is_sequence dc_is_sequence pm_is_sequence cd_is_sequence ct_is_sequence oc_is_name kV_is_name dc_is_name pm_is_name cd_is_name ct_is_name oc_ascending kV_ascending dc_ascending pm_ascending cd_ascending ct_ascending oc_names_of kV_names_of dc_names_of pm_names_of cd_names_of ct_names_of oc_is_kind kV_is_kind dc_is_kind pm_is_kind cd_is_kind ct_is_kind oc_is_part kV_is_part dc_is_part pm_is_part cd_is_part ct_is_part oc_added kV_added dc_added pm_added cd_added ct_added oc_Crowd___init__ kV_Crowd___init__ dc_Crowd___init__ pm_Crowd___init__ cd_Crowd___init__ ct_Crowd___init__ oc2_Crowd___init__ oc_Crowd___eq__ kV_Crowd___eq__ dc_Crowd___eq__ pm_Crowd___eq__ cd_Crowd___eq__ ct_Crowd___eq__ oc_Crowd___str__ kV_Crowd___str__ dc_Crowd___str__ pm_Crowd___str__ cd_Crowd___str__ ct_Crowd___str__ oc_script_of kV_script_of dc_script_of pm_script_of cd_script_of ct_script_of oc_Group___init__ kV_Group___init__ dc_Group___init__ pm_Group___init__ cd_Group___init__ ct_Group___init__ oc2_Group___init__ oc_Group_named kV_Group_named dc_Group_named pm_Group_named cd_Group_named ct_Group_named oc_Group_every kV_Group_every dc_Group_every pm_Group_every cd_Group_every ct_Group_every oc_lpick kV_lpick dc_lpick pm_lpick cd_lpick ct_lpick oc_lshuffled kV_lshuffled dc_lshuffled pm_lshuffled cd_lshuffled ct_lshuffled oc_lnames kV_lnames dc_lnames pm_lnames cd_lnames ct_lnames oc_lsome_kind kV_lsome_kind dc_lsome_kind pm_lsome_kind cd_lsome_kind ct_lsome_kind oc_lparts kV_lparts dc_lparts pm_lparts cd_lparts ct_lparts oc_lrefused kV_lrefused dc_lrefused pm_lrefused cd_lrefused ct_lrefused oc_law kV_law dc_law pm_law cd_law ct_law oc_lsource kV_lsource dc_lsource pm_lsource cd_lsource ct_lsource oc_ldraw kV_ldraw dc_ldraw pm_ldraw cd_ldraw ct_ldraw : Value} (X : K.In h) (G : h.Ns mainGlobals mg)
    (aC_Group : PySem.W.nsIn K mainGlobals "Group" = some (some (.ref C_Group)))
    (aC_Crowd : PySem.W.nsIn K mainGlobals "Crowd" = some (some (.ref C_Crowd)))
    (aC_InvalidCrowd : PySem.W.nsIn K mainGlobals "InvalidCrowd" = some (some (.ref C_InvalidCrowd)))
    (aC_CrowdError : PySem.W.nsIn K mainGlobals "CrowdError" = some (some (.ref C_CrowdError)))
    (aC_InvalidText : PySem.W.nsIn K mainGlobals "InvalidText" = some (some (.ref C_InvalidText)))
    (ai_InvalidCrowd : PySem.W.findIn K (.ref C_InvalidCrowd) "__init__" = some (some (.ref fx_InvalidCrowd)))
    (x_m_range : PySem.W.nsIn K mainGlobals "range" = some none)
    (x1_cr_Group : PySem.W.readsIn K C_Group (.type "type") = true)
    (x2_cr_Group : PySem.W.specialIn K (.ref C_Group) "__getattribute__" = some (some (.builtin "type.__getattribute__")))
    (x1_cm_Group_named : PySem.W.findCls K (.ref C_Group) (.type "type") "named" = some (.get (.builtin "classmethod.__get__") (.ref p_Group_named) .none (.ref C_Group)))
    (x2_cm_Group_named : PySem.W.recIn K p_Group_named "classmethod" = some (.ref f_Group_named :: rs_Group_named))
    (x3_cm_Group_named : PySem.W.fnIn K f_Group_named = true)
    (x_m_len : PySem.W.nsIn K mainGlobals "len" = some none)
    (x_fi_Crowd_Crowd___eq__ : PySem.W.findIn K (.ref C_Crowd) "__eq__" = some (some (.ref f_Crowd___eq__)))
    (x_m_tuple : PySem.W.nsIn K mainGlobals "tuple" = some none)
    (x1_cm_Group_every : PySem.W.findCls K (.ref C_Group) (.type "type") "every" = some (.get (.builtin "classmethod.__get__") (.ref p_Group_every) .none (.ref C_Group)))
    (x2_cm_Group_every : PySem.W.recIn K p_Group_every "classmethod" = some (.ref f_Group_every :: rs_Group_every))
    (x3_cm_Group_every : PySem.W.fnIn K f_Group_every = true)
    (x1_Mk_Crowd : PySem.W.makesIn K C_Crowd = true)
    (x2_Mk_Crowd : PySem.W.findIn K (.ref C_Crowd) "__init__" = some (some (.ref f_Crowd___init__)))
    (x3_Mk_Crowd : PySem.W.isFn K (.ref f_Crowd___init__) = true)
    (x4_Mk_Crowd : PySem.W.keepIn K (.ref C_Crowd) = true)
    (x_m_isinstance : PySem.W.nsIn K mainGlobals "isinstance" = some none)
    (x_m_enumerate : PySem.W.nsIn K mainGlobals "enumerate" = some none)
    (x_fi_Crowd_Crowd___str__ : PySem.W.findIn K (.ref C_Crowd) "__str__" = some (some (.ref f_Crowd___str__)))
    (x_m_str : PySem.W.nsIn K mainGlobals "str" = some none)
    (x_m_sum : PySem.W.nsIn K mainGlobals "sum" = some none)
    (x1_Mk_Group : PySem.W.makesIn K C_Group = true)
    (x2_Mk_Group : PySem.W.findIn K (.ref C_Group) "__init__" = some (some (.ref f_Group___init__)))
    (x3_Mk_Group : PySem.W.isFn K (.ref f_Group___init__) = true)
    (x4_Mk_Group : PySem.W.keepIn K (.ref C_Group) = true)
    (x_m_int : PySem.W.nsIn K mainGlobals "int" = some none)
    (x0_ek_InvalidCrowd : PySem.W.findIn K (.ref C_InvalidCrowd) "__getattribute__" = some (some (.builtin "BaseException.__getattribute__")))
    (x1_ek_InvalidCrowd : PySem.W.findIn K (.ref C_InvalidCrowd) "__getattr__" = some none)
    (x2_ek_InvalidCrowd : PySem.W.subIn K (.ref C_InvalidCrowd) (.type "BaseException") = some true)
    (x3_ek_InvalidCrowd : PySem.W.hasDictIn K C_InvalidCrowd = true)
    (x4_ek_InvalidCrowd : PySem.W.findIn K (.ref C_InvalidCrowd) "at" = some none)
    (x5_ek_InvalidCrowd : (PySem.W.clsIn K C_InvalidCrowd).isSome = true)
    (x6_ek_InvalidCrowd : PySem.W.findIn K (.ref C_InvalidCrowd) "__class__" = some (some (.builtin "object.__class__")))
    (x7_ek_InvalidCrowd : PySem.W.specialIn K (.builtin "object.__class__") "__get__" = some (some (.builtin "getset_descriptor.__get__")))
    (x8_ek_InvalidCrowd : PySem.W.takesIn K (.builtin "object.__class__") = some true)
    (x9_ek_InvalidCrowd : PySem.W.mroIn K C_InvalidCrowd (.type "object") = some true)
    (x_kx_InvalidCrowd_CrowdError : PySem.W.kitOne K (.ref C_InvalidCrowd) (.ref C_CrowdError) = some true)
    (x_kx_InvalidCrowd_InvalidText : PySem.W.kitOne K (.ref C_InvalidCrowd) (.ref C_InvalidText) = some false)
    (x_m_sorted : PySem.W.nsIn K mainGlobals "sorted" = some none)
    (x_m_list : PySem.W.nsIn K mainGlobals "list" = some none)
    (x_v_BARRED : PySem.W.nsIn K mainGlobals "BARRED" = some (some (.ref k_BARRED)))
    (x_r_BARRED : K.lookup k_BARRED = some ⟨.type "tuple", none, .seq #[.str "all" t0_BARRED, .str "none" t1_BARRED, .str "at" t2_BARRED, .str "if" t3_BARRED, .str "else" t4_BARRED, .str "end" t5_BARRED, .str "say" t6_BARRED, .str "stop" t7_BARRED] n_BARRED, sl_BARRED⟩)
    (x_v_MOST_LETTERS : PySem.W.nsIn K mainGlobals "MOST_LETTERS" = some (some (.int 4 tk_MOST_LETTERS)))
    (x_v_LETTERS : PySem.W.nsIn K mainGlobals "LETTERS" = some (some (.str "abcdefghijklmnopqrstuvwxyz" tk_LETTERS)))
    (x_m_all : PySem.W.nsIn K mainGlobals "all" = some none)
    (x_m_bool : PySem.W.nsIn K mainGlobals "bool" = some none)
    (x_m_super : PySem.W.nsIn K mainGlobals "super" = some none)
    (x0_kl_Group : PySem.W.plainGet K C_Group Str.empty = true)
    (x1_kl_Group : PySem.W.hasDictIn K C_Group = true)
    (x2_kl_Group : PySem.W.plainOver K C_Group = true)
    (x3_kl_Group : PySem.W.findIn K (.ref C_Group) "__setattr__" = some (some (.builtin "object.__setattr__")))
    (x4_kl_Group : PySem.W.findIn K (.ref C_Group) "__class__" = some (some (.builtin "object.__class__")))
    (x5_kl_Group : PySem.W.specialIn K (.builtin "object.__class__") "__get__" = some (some (.builtin "getset_descriptor.__get__")))
    (x6_kl_Group : PySem.W.takesIn K (.builtin "object.__class__") = some true)
    (x7_kl_Group : PySem.W.mroIn K C_Group (.type "object") = some true)
    (x_nb_Group_int : PySem.W.kitOne K (.ref C_Group) (.type "int") = some false)
    (x_nb_Group_bool : PySem.W.kitOne K (.ref C_Group) (.type "bool") = some false)
    (x_nb_Group_str : PySem.W.kitOne K (.ref C_Group) (.type "str") = some false)
    (x_nb_Group_list : PySem.W.kitOne K (.ref C_Group) (.type "list") = some false)
    (x_nb_Group_tuple : PySem.W.kitOne K (.ref C_Group) (.type "tuple") = some false)
    (x0_kl_Crowd : PySem.W.plainGet K C_Crowd Str.empty = true)
    (x1_kl_Crowd : PySem.W.hasDictIn K C_Crowd = true)
    (x2_kl_Crowd : PySem.W.plainOver K C_Crowd = true)
    (x3_kl_Crowd : PySem.W.findIn K (.ref C_Crowd) "__setattr__" = some (some (.builtin "object.__setattr__")))
    (x4_kl_Crowd : PySem.W.findIn K (.ref C_Crowd) "__class__" = some (some (.builtin "object.__class__")))
    (x5_kl_Crowd : PySem.W.specialIn K (.builtin "object.__class__") "__get__" = some (some (.builtin "getset_descriptor.__get__")))
    (x6_kl_Crowd : PySem.W.takesIn K (.builtin "object.__class__") = some true)
    (x7_kl_Crowd : PySem.W.mroIn K C_Crowd (.type "object") = some true)
    (x_nb_Crowd_int : PySem.W.kitOne K (.ref C_Crowd) (.type "int") = some false)
    (x_nb_Crowd_bool : PySem.W.kitOne K (.ref C_Crowd) (.type "bool") = some false)
    (x_nb_Crowd_str : PySem.W.kitOne K (.ref C_Crowd) (.type "str") = some false)
    (x_nb_Crowd_list : PySem.W.kitOne K (.ref C_Crowd) (.type "list") = some false)
    (x_nb_Crowd_tuple : PySem.W.kitOne K (.ref C_Crowd) (.type "tuple") = some false)
    (x_na_Group_names : PySem.W.findIn K (.ref C_Group) "names" = some none)
    (x_na_Crowd_names : PySem.W.findIn K (.ref C_Crowd) "names" = some none)
    (x_na_Group_number : PySem.W.findIn K (.ref C_Group) "number" = some none)
    (x_na_Crowd_number : PySem.W.findIn K (.ref C_Crowd) "number" = some none)
    (x_na_Group_parts : PySem.W.findIn K (.ref C_Group) "parts" = some none)
    (x_na_Crowd_parts : PySem.W.findIn K (.ref C_Crowd) "parts" = some none)
    (x_na_Group_script : PySem.W.findIn K (.ref C_Group) "script" = some none)
    (x_na_Crowd_script : PySem.W.findIn K (.ref C_Crowd) "script" = some none)
    (x_na_Group_sign : PySem.W.findIn K (.ref C_Group) "sign" = some none)
    (x_na_Crowd_sign : PySem.W.findIn K (.ref C_Crowd) "sign" = some none)
    (x_na_Group_size : PySem.W.findIn K (.ref C_Group) "size" = some none)
    (x_na_Crowd_size : PySem.W.findIn K (.ref C_Crowd) "size" = some none)
    (x_na_Group_word : PySem.W.findIn K (.ref C_Group) "word" = some none)
    (x_na_Crowd_word : PySem.W.findIn K (.ref C_Crowd) "word" = some none)
    (x_ki_Group_Crowd : PySem.W.kitOne K (.ref C_Group) (.ref C_Crowd) = some false)
    (x_ki_Crowd_Crowd : PySem.W.kitOne K (.ref C_Crowd) (.ref C_Crowd) = some true)
    (x_kb_NoneType_Crowd : PySem.W.kitOne K (.type "NoneType") (.ref C_Crowd) = some false)
    (x_kb_bool_Crowd : PySem.W.kitOne K (.type "bool") (.ref C_Crowd) = some false)
    (x_kb_int_Crowd : PySem.W.kitOne K (.type "int") (.ref C_Crowd) = some false)
    (x_kb_str_Crowd : PySem.W.kitOne K (.type "str") (.ref C_Crowd) = some false)
    (x_kb_list_Crowd : PySem.W.kitOne K (.type "list") (.ref C_Crowd) = some false)
    (x_kb_tuple_Crowd : PySem.W.kitOne K (.type "tuple") (.ref C_Crowd) = some false)
    (x_m_abs : PySem.W.nsIn K mainGlobals "abs" = some none)
    (a_is_integer : PySem.W.nsIn K mainGlobals "is_integer" = some (some (.ref f_is_integer)))
    (l_is_integer : K.lookup f_is_integer = some ⟨oc_is_integer, od_is_integer, .func (PySem.W.fnOf "is_integer" "is_integer" (defArgs s_is_integer) (defBody s_is_integer) (defScope s_is_integer) .none kV_is_integer dc_is_integer pm_is_integer an_is_integer cd_is_integer ct_is_integer), sl_is_integer⟩)
    (c_is_integer : PySem.W.codeIn K cd_is_integer "is_integer" = true)
    (k_is_integer : PySem.W.keepIn K (.ref f_is_integer) = true)
    (a_is_sequence : PySem.W.nsIn K mainGlobals "is_sequence" = some (some (.ref f_is_sequence)))
    (l_is_sequence : K.lookup f_is_sequence = some ⟨oc_is_sequence, od_is_sequence, .func (PySem.W.fnOf "is_sequence" "is_sequence" (defArgs s_is_sequence) (defBody s_is_sequence) (defScope s_is_sequence) .none kV_is_sequence dc_is_sequence pm_is_sequence an_is_sequence cd_is_sequence ct_is_sequence), sl_is_sequence⟩)
    (c_is_sequence : PySem.W.codeIn K cd_is_sequence "is_sequence" = true)
    (k_is_sequence : PySem.W.keepIn K (.ref f_is_sequence) = true)
    (a_is_name : PySem.W.nsIn K mainGlobals "is_name" = some (some (.ref f_is_name)))
    (l_is_name : K.lookup f_is_name = some ⟨oc_is_name, od_is_name, .func (PySem.W.fnOf "is_name" "is_name" (defArgs s_is_name) (defBody s_is_name) (defScope s_is_name) .none kV_is_name dc_is_name pm_is_name an_is_name cd_is_name ct_is_name), sl_is_name⟩)
    (c_is_name : PySem.W.codeIn K cd_is_name "is_name" = true)
    (k_is_name : PySem.W.keepIn K (.ref f_is_name) = true)
    (a_ascending : PySem.W.nsIn K mainGlobals "ascending" = some (some (.ref f_ascending)))
    (l_ascending : K.lookup f_ascending = some ⟨oc_ascending, od_ascending, .func (PySem.W.fnOf "ascending" "ascending" (defArgs s_ascending) (defBody s_ascending) (defScope s_ascending) .none kV_ascending dc_ascending pm_ascending an_ascending cd_ascending ct_ascending), sl_ascending⟩)
    (c_ascending : PySem.W.codeIn K cd_ascending "ascending" = true)
    (k_ascending : PySem.W.keepIn K (.ref f_ascending) = true)
    (a_names_of : PySem.W.nsIn K mainGlobals "names_of" = some (some (.ref f_names_of)))
    (l_names_of : K.lookup f_names_of = some ⟨oc_names_of, od_names_of, .func (PySem.W.fnOf "names_of" "names_of" (defArgs s_names_of) (defBody s_names_of) (defScope s_names_of) .none kV_names_of dc_names_of pm_names_of an_names_of cd_names_of ct_names_of), sl_names_of⟩)
    (c_names_of : PySem.W.codeIn K cd_names_of "names_of" = true)
    (k_names_of : PySem.W.keepIn K (.ref f_names_of) = true)
    (a_is_kind : PySem.W.nsIn K mainGlobals "is_kind" = some (some (.ref f_is_kind)))
    (l_is_kind : K.lookup f_is_kind = some ⟨oc_is_kind, od_is_kind, .func (PySem.W.fnOf "is_kind" "is_kind" (defArgs s_is_kind) (defBody s_is_kind) (defScope s_is_kind) .none kV_is_kind dc_is_kind pm_is_kind an_is_kind cd_is_kind ct_is_kind), sl_is_kind⟩)
    (c_is_kind : PySem.W.codeIn K cd_is_kind "is_kind" = true)
    (k_is_kind : PySem.W.keepIn K (.ref f_is_kind) = true)
    (a_is_part : PySem.W.nsIn K mainGlobals "is_part" = some (some (.ref f_is_part)))
    (l_is_part : K.lookup f_is_part = some ⟨oc_is_part, od_is_part, .func (PySem.W.fnOf "is_part" "is_part" (defArgs s_is_part) (defBody s_is_part) (defScope s_is_part) .none kV_is_part dc_is_part pm_is_part an_is_part cd_is_part ct_is_part), sl_is_part⟩)
    (c_is_part : PySem.W.codeIn K cd_is_part "is_part" = true)
    (k_is_part : PySem.W.keepIn K (.ref f_is_part) = true)
    (a_added : PySem.W.nsIn K mainGlobals "added" = some (some (.ref f_added)))
    (l_added : K.lookup f_added = some ⟨oc_added, od_added, .func (PySem.W.fnOf "added" "added" (defArgs s_added) (defBody s_added) (defScope s_added) .none kV_added dc_added pm_added an_added cd_added ct_added), sl_added⟩)
    (c_added : PySem.W.codeIn K cd_added "added" = true)
    (k_added : PySem.W.keepIn K (.ref f_added) = true)
    (l_Crowd___init__ : K.lookup f_Crowd___init__ = some ⟨oc_Crowd___init__, od_Crowd___init__, .func (PySem.W.fnOf "__init__" "Crowd.__init__" (defArgs s_Crowd___init__) (defBody s_Crowd___init__) (defScope s_Crowd___init__) (.ref T_Crowd___init__) kV_Crowd___init__ dc_Crowd___init__ pm_Crowd___init__ an_Crowd___init__ cd_Crowd___init__ ct_Crowd___init__), sl_Crowd___init__⟩)
    (c_Crowd___init__ : PySem.W.codeIn K cd_Crowd___init__ "Crowd.__init__" = true)
    (k_Crowd___init__ : PySem.W.keepIn K (.ref f_Crowd___init__) = true)
    (lT_Crowd___init__ : K.lookup T_Crowd___init__ = some ⟨oc2_Crowd___init__, od2_Crowd___init__, .seq #[.ref t0_Crowd___init__] n2_Crowd___init__, sl2_Crowd___init__⟩)
    (l0_Crowd___init__ : K.lookup t0_Crowd___init__ = some ⟨.type "tuple", od0_Crowd___init__, .seq #[] n0_Crowd___init__, sl0_Crowd___init__⟩)
    (l_Crowd___eq__ : K.lookup f_Crowd___eq__ = some ⟨oc_Crowd___eq__, od_Crowd___eq__, .func (PySem.W.fnOf "__eq__" "Crowd.__eq__" (defArgs s_Crowd___eq__) (defBody s_Crowd___eq__) (defScope s_Crowd___eq__) .none kV_Crowd___eq__ dc_Crowd___eq__ pm_Crowd___eq__ an_Crowd___eq__ cd_Crowd___eq__ ct_Crowd___eq__), sl_Crowd___eq__⟩)
    (c_Crowd___eq__ : PySem.W.codeIn K cd_Crowd___eq__ "Crowd.__eq__" = true)
    (l_Crowd___str__ : K.lookup f_Crowd___str__ = some ⟨oc_Crowd___str__, od_Crowd___str__, .func (PySem.W.fnOf "__str__" "Crowd.__str__" (defArgs s_Crowd___str__) (defBody s_Crowd___str__) (defScope s_Crowd___str__) .none kV_Crowd___str__ dc_Crowd___str__ pm_Crowd___str__ an_Crowd___str__ cd_Crowd___str__ ct_Crowd___str__), sl_Crowd___str__⟩)
    (c_Crowd___str__ : PySem.W.codeIn K cd_Crowd___str__ "Crowd.__str__" = true)
    (a_script_of : PySem.W.nsIn K mainGlobals "script_of" = some (some (.ref f_script_of)))
    (l_script_of : K.lookup f_script_of = some ⟨oc_script_of, od_script_of, .func (PySem.W.fnOf "script_of" "script_of" (defArgs s_script_of) (defBody s_script_of) (defScope s_script_of) .none kV_script_of dc_script_of pm_script_of an_script_of cd_script_of ct_script_of), sl_script_of⟩)
    (c_script_of : PySem.W.codeIn K cd_script_of "script_of" = true)
    (k_script_of : PySem.W.keepIn K (.ref f_script_of) = true)
    (l_Group___init__ : K.lookup f_Group___init__ = some ⟨oc_Group___init__, od_Group___init__, .func (PySem.W.fnOf "__init__" "Group.__init__" (defArgs s_Group___init__) (defBody s_Group___init__) (defScope s_Group___init__) (.ref T_Group___init__) kV_Group___init__ dc_Group___init__ pm_Group___init__ an_Group___init__ cd_Group___init__ ct_Group___init__), sl_Group___init__⟩)
    (c_Group___init__ : PySem.W.codeIn K cd_Group___init__ "Group.__init__" = true)
    (k_Group___init__ : PySem.W.keepIn K (.ref f_Group___init__) = true)
    (lT_Group___init__ : K.lookup T_Group___init__ = some ⟨oc2_Group___init__, od2_Group___init__, .seq #[.str "" d0_Group___init__, .int 0 d1_Group___init__] n2_Group___init__, sl2_Group___init__⟩)
    (l_Group_named : K.lookup f_Group_named = some ⟨oc_Group_named, od_Group_named, .func (PySem.W.fnOf "named" "Group.named" (defArgs s_Group_named) (defBody s_Group_named) (defScope s_Group_named) .none kV_Group_named dc_Group_named pm_Group_named an_Group_named cd_Group_named ct_Group_named), sl_Group_named⟩)
    (c_Group_named : PySem.W.codeIn K cd_Group_named "Group.named" = true)
    (l_Group_every : K.lookup f_Group_every = some ⟨oc_Group_every, od_Group_every, .func (PySem.W.fnOf "every" "Group.every" (defArgs s_Group_every) (defBody s_Group_every) (defScope s_Group_every) .none kV_Group_every dc_Group_every pm_Group_every an_Group_every cd_Group_every ct_Group_every), sl_Group_every⟩)
    (c_Group_every : PySem.W.codeIn K cd_Group_every "Group.every" = true)
    (a_lpick : PySem.W.nsIn K mainGlobals "_law_pick" = some (some (.ref f_lpick)))
    (l_lpick : K.lookup f_lpick = some ⟨oc_lpick, od_lpick, .func (PySem.W.fnOf "_law_pick" "_law_pick" (defArgs s_lpick) (defBody s_lpick) (defScope s_lpick) .none kV_lpick dc_lpick pm_lpick an_lpick cd_lpick ct_lpick), sl_lpick⟩)
    (c_lpick : PySem.W.codeIn K cd_lpick "_law_pick" = true)
    (k_lpick : PySem.W.keepIn K (.ref f_lpick) = true)
    (a_lshuffled : PySem.W.nsIn K mainGlobals "_law_shuffled" = some (some (.ref f_lshuffled)))
    (l_lshuffled : K.lookup f_lshuffled = some ⟨oc_lshuffled, od_lshuffled, .func (PySem.W.fnOf "_law_shuffled" "_law_shuffled" (defArgs s_lshuffled) (defBody s_lshuffled) (defScope s_lshuffled) .none kV_lshuffled dc_lshuffled pm_lshuffled an_lshuffled cd_lshuffled ct_lshuffled), sl_lshuffled⟩)
    (c_lshuffled : PySem.W.codeIn K cd_lshuffled "_law_shuffled" = true)
    (k_lshuffled : PySem.W.keepIn K (.ref f_lshuffled) = true)
    (a_lnames : PySem.W.nsIn K mainGlobals "_law_names" = some (some (.ref f_lnames)))
    (l_lnames : K.lookup f_lnames = some ⟨oc_lnames, od_lnames, .func (PySem.W.fnOf "_law_names" "_law_names" (defArgs s_lnames) (defBody s_lnames) (defScope s_lnames) .none kV_lnames dc_lnames pm_lnames an_lnames cd_lnames ct_lnames), sl_lnames⟩)
    (c_lnames : PySem.W.codeIn K cd_lnames "_law_names" = true)
    (k_lnames : PySem.W.keepIn K (.ref f_lnames) = true)
    (a_lsome_kind : PySem.W.nsIn K mainGlobals "_law_some_kind" = some (some (.ref f_lsome_kind)))
    (l_lsome_kind : K.lookup f_lsome_kind = some ⟨oc_lsome_kind, od_lsome_kind, .func (PySem.W.fnOf "_law_some_kind" "_law_some_kind" (defArgs s_lsome_kind) (defBody s_lsome_kind) (defScope s_lsome_kind) .none kV_lsome_kind dc_lsome_kind pm_lsome_kind an_lsome_kind cd_lsome_kind ct_lsome_kind), sl_lsome_kind⟩)
    (c_lsome_kind : PySem.W.codeIn K cd_lsome_kind "_law_some_kind" = true)
    (k_lsome_kind : PySem.W.keepIn K (.ref f_lsome_kind) = true)
    (a_lparts : PySem.W.nsIn K mainGlobals "_law_parts" = some (some (.ref f_lparts)))
    (l_lparts : K.lookup f_lparts = some ⟨oc_lparts, od_lparts, .func (PySem.W.fnOf "_law_parts" "_law_parts" (defArgs s_lparts) (defBody s_lparts) (defScope s_lparts) .none kV_lparts dc_lparts pm_lparts an_lparts cd_lparts ct_lparts), sl_lparts⟩)
    (c_lparts : PySem.W.codeIn K cd_lparts "_law_parts" = true)
    (k_lparts : PySem.W.keepIn K (.ref f_lparts) = true)
    (a_lrefused : PySem.W.nsIn K mainGlobals "_law_refused" = some (some (.ref f_lrefused)))
    (l_lrefused : K.lookup f_lrefused = some ⟨oc_lrefused, od_lrefused, .func (PySem.W.fnOf "_law_refused" "_law_refused" (defArgs s_lrefused) (defBody s_lrefused) (defScope s_lrefused) .none kV_lrefused dc_lrefused pm_lrefused an_lrefused cd_lrefused ct_lrefused), sl_lrefused⟩)
    (c_lrefused : PySem.W.codeIn K cd_lrefused "_law_refused" = true)
    (k_lrefused : PySem.W.keepIn K (.ref f_lrefused) = true)
    (a_law : PySem.W.nsIn K mainGlobals "law" = some (some (.ref f_law)))
    (l_law : K.lookup f_law = some ⟨oc_law, od_law, .func (PySem.W.fnOf "law" "law" (defArgs s_law) (defBody s_law) (defScope s_law) .none kV_law dc_law pm_law an_law cd_law ct_law), sl_law⟩)
    (c_law : PySem.W.codeIn K cd_law "law" = true)
    (k_law : PySem.W.keepIn K (.ref f_law) = true)
    (a_lsource : PySem.W.nsIn K mainGlobals "_law_source" = some (some (.ref f_lsource)))
    (l_lsource : K.lookup f_lsource = some ⟨oc_lsource, od_lsource, .func (PySem.W.fnOf "_law_source" "_law_source" (defArgs s_lsource) (defBody s_lsource) (defScope s_lsource) .none kV_lsource dc_lsource pm_lsource an_lsource cd_lsource ct_lsource), sl_lsource⟩)
    (c_lsource : PySem.W.codeIn K cd_lsource "_law_source" = true)
    (k_lsource : PySem.W.keepIn K (.ref f_lsource) = true)
    (a_ldraw : PySem.W.nsIn K mainGlobals "_law_draw" = some (some (.ref f_ldraw)))
    (l_ldraw : K.lookup f_ldraw = some ⟨oc_ldraw, od_ldraw, .func (PySem.W.fnOf "_law_draw" "_law_draw" (defArgs s_ldraw) (defBody s_ldraw) (defScope s_ldraw) .none kV_ldraw dc_ldraw pm_ldraw an_ldraw cd_ldraw ct_ldraw), sl_ldraw⟩)
    (c_ldraw : PySem.W.codeIn K cd_ldraw "_law_draw" = true)
    (k_ldraw : PySem.W.keepIn K (.ref f_ldraw) = true)
    (x_fn_Crowd___eq__ : PySem.W.isFn K (.ref f_Crowd___eq__) = true)
    (x_ne_Crowd : PySem.W.findIn K (.ref C_Crowd) "__ne__" = some (some (.builtin "object.__ne__")))
    (x_mo_Crowd : PySem.W.mroIn K C_Crowd (.type "object") = some true)
    (x_fn_Crowd___str__ : PySem.W.isFn K (.ref f_Crowd___str__) = true)
    (x_ex_InvalidCrowd : PySem.W.exmOne K (.ref C_InvalidCrowd) (.ref C_InvalidCrowd) = some true)
    (x_nf_Group_Crowd : PySem.W.notFirst K C_Crowd (.ref C_Group) = true)
    (x_nf_Crowd_Crowd : PySem.W.notFirst K C_Crowd (.ref C_Crowd) = true)
    (x_nt_NoneType_Crowd : PySem.W.notFirst K C_Crowd (.type "NoneType") = true)
    (x_nt_bool_Crowd : PySem.W.notFirst K C_Crowd (.type "bool") = true)
    (x_nt_int_Crowd : PySem.W.notFirst K C_Crowd (.type "int") = true)
    (x_nt_str_Crowd : PySem.W.notFirst K C_Crowd (.type "str") = true)
    (x_nt_list_Crowd : PySem.W.notFirst K C_Crowd (.type "list") = true)
    (x_nt_tuple_Crowd : PySem.W.notFirst K C_Crowd (.type "tuple") = true)
    (sx_InvalidCrowd : SxC P K C_InvalidCrowd fx_InvalidCrowd "at")
    : ∃ ad : Ad, ad.f_law = f_law ∧ ad.fd_law = PySem.W.fnOf "law" "law" (defArgs s_law) (defBody s_law) (defScope s_law) .none kV_law dc_law pm_law an_law cd_law ct_law ∧ Kt K mg ad ∧ SxAll P K ad := by
  have FD_Crowd___init__ : FunD K "__init__" "Crowd.__init__" (defArgs s_Crowd___init__) (defBody s_Crowd___init__) (defScope s_Crowd___init__) [.ref t0_Crowd___init__] [] f_Crowd___init__ (PySem.W.fnOf "__init__" "Crowd.__init__" (defArgs s_Crowd___init__) (defBody s_Crowd___init__) (defScope s_Crowd___init__) (.ref T_Crowd___init__) kV_Crowd___init__ dc_Crowd___init__ pm_Crowd___init__ an_Crowd___init__ cd_Crowd___init__ ct_Crowd___init__) := ⟨⟨_, _, _, _, _, _, _, _, _, _, rfl, l_Crowd___init__, c_Crowd___init__, Or.inr ⟨(by intro z; cases z), T_Crowd___init__, _, [.ref t0_Crowd___init__], _, rfl, lT_Crowd___init__, rfl, (.cons rfl .nil)⟩, Or.inl rfl⟩, k_Crowd___init__⟩
  obtain ⟨ds_Crowd___init__1, dv_Crowd___init__1, b_Crowd___init__1⟩ := bd_Crowd___init__1 FD_Crowd___init__
  obtain ⟨ds_Crowd___init__0, dv_Crowd___init__0, b_Crowd___init__0⟩ := bd_Crowd___init__0 FD_Crowd___init__
  cases dv_Crowd___init__0
  have FD_Group___init__ : FunD K "__init__" "Group.__init__" (defArgs s_Group___init__) (defBody s_Group___init__) (defScope s_Group___init__) [.str "", .int 0] [] f_Group___init__ (PySem.W.fnOf "__init__" "Group.__init__" (defArgs s_Group___init__) (defBody s_Group___init__) (defScope s_Group___init__) (.ref T_Group___init__) kV_Group___init__ dc_Group___init__ pm_Group___init__ an_Group___init__ cd_Group___init__ ct_Group___init__) := ⟨⟨_, _, _, _, _, _, _, _, _, _, rfl, l_Group___init__, c_Group___init__, Or.inr ⟨(by intro z; cases z), T_Group___init__, _, [.str "" d0_Group___init__, .int 0 d1_Group___init__], _, rfl, lT_Group___init__, rfl, (.cons ⟨_, rfl⟩ (.cons ⟨_, rfl⟩ .nil))⟩, Or.inl rfl⟩, k_Group___init__⟩
  obtain ⟨ds_Group___init__2, dv_Group___init__2, b_Group___init__2⟩ := bd_Group___init__2 FD_Group___init__
  obtain ⟨ds_Group___init__1, dv_Group___init__1, b_Group___init__1⟩ := bd_Group___init__1 FD_Group___init__
  refine ⟨⟨C_Group, p_Group_named, C_Crowd, p_Group_every, t0_Crowd___init__, ds_Crowd___init__1, ds_Group___init__2, ds_Group___init__1, C_InvalidCrowd, C_CrowdError, C_InvalidText, k_BARRED, f_is_integer, PySem.W.fnOf "is_integer" "is_integer" (defArgs s_is_integer) (defBody s_is_integer) (defScope s_is_integer) .none kV_is_integer dc_is_integer pm_is_integer an_is_integer cd_is_integer ct_is_integer, f_is_sequence, PySem.W.fnOf "is_sequence" "is_sequence" (defArgs s_is_sequence) (defBody s_is_sequence) (defScope s_is_sequence) .none kV_is_sequence dc_is_sequence pm_is_sequence an_is_sequence cd_is_sequence ct_is_sequence, f_is_name, PySem.W.fnOf "is_name" "is_name" (defArgs s_is_name) (defBody s_is_name) (defScope s_is_name) .none kV_is_name dc_is_name pm_is_name an_is_name cd_is_name ct_is_name, f_ascending, PySem.W.fnOf "ascending" "ascending" (defArgs s_ascending) (defBody s_ascending) (defScope s_ascending) .none kV_ascending dc_ascending pm_ascending an_ascending cd_ascending ct_ascending, f_names_of, PySem.W.fnOf "names_of" "names_of" (defArgs s_names_of) (defBody s_names_of) (defScope s_names_of) .none kV_names_of dc_names_of pm_names_of an_names_of cd_names_of ct_names_of, f_is_kind, PySem.W.fnOf "is_kind" "is_kind" (defArgs s_is_kind) (defBody s_is_kind) (defScope s_is_kind) .none kV_is_kind dc_is_kind pm_is_kind an_is_kind cd_is_kind ct_is_kind, f_is_part, PySem.W.fnOf "is_part" "is_part" (defArgs s_is_part) (defBody s_is_part) (defScope s_is_part) .none kV_is_part dc_is_part pm_is_part an_is_part cd_is_part ct_is_part, f_added, PySem.W.fnOf "added" "added" (defArgs s_added) (defBody s_added) (defScope s_added) .none kV_added dc_added pm_added an_added cd_added ct_added, f_Crowd___init__, PySem.W.fnOf "__init__" "Crowd.__init__" (defArgs s_Crowd___init__) (defBody s_Crowd___init__) (defScope s_Crowd___init__) (.ref T_Crowd___init__) kV_Crowd___init__ dc_Crowd___init__ pm_Crowd___init__ an_Crowd___init__ cd_Crowd___init__ ct_Crowd___init__, f_Crowd___eq__, PySem.W.fnOf "__eq__" "Crowd.__eq__" (defArgs s_Crowd___eq__) (defBody s_Crowd___eq__) (defScope s_Crowd___eq__) .none kV_Crowd___eq__ dc_Crowd___eq__ pm_Crowd___eq__ an_Crowd___eq__ cd_Crowd___eq__ ct_Crowd___eq__, f_Crowd___str__, PySem.W.fnOf "__str__" "Crowd.__str__" (defArgs s_Crowd___str__) (defBody s_Crowd___str__) (defScope s_Crowd___str__) .none kV_Crowd___str__ dc_Crowd___str__ pm_Crowd___str__ an_Crowd___str__ cd_Crowd___str__ ct_Crowd___str__, f_script_of, PySem.W.fnOf "script_of" "script_of" (defArgs s_script_of) (defBody s_script_of) (defScope s_script_of) .none kV_script_of dc_script_of pm_script_of an_script_of cd_script_of ct_script_of, f_Group___init__, PySem.W.fnOf "__init__" "Group.__init__" (defArgs s_Group___init__) (defBody s_Group___init__) (defScope s_Group___init__) (.ref T_Group___init__) kV_Group___init__ dc_Group___init__ pm_Group___init__ an_Group___init__ cd_Group___init__ ct_Group___init__, f_Group_named, PySem.W.fnOf "named" "Group.named" (defArgs s_Group_named) (defBody s_Group_named) (defScope s_Group_named) .none kV_Group_named dc_Group_named pm_Group_named an_Group_named cd_Group_named ct_Group_named, f_Group_every, PySem.W.fnOf "every" "Group.every" (defArgs s_Group_every) (defBody s_Group_every) (defScope s_Group_every) .none kV_Group_every dc_Group_every pm_Group_every an_Group_every cd_Group_every ct_Group_every, f_lpick, PySem.W.fnOf "_law_pick" "_law_pick" (defArgs s_lpick) (defBody s_lpick) (defScope s_lpick) .none kV_lpick dc_lpick pm_lpick an_lpick cd_lpick ct_lpick, f_lshuffled, PySem.W.fnOf "_law_shuffled" "_law_shuffled" (defArgs s_lshuffled) (defBody s_lshuffled) (defScope s_lshuffled) .none kV_lshuffled dc_lshuffled pm_lshuffled an_lshuffled cd_lshuffled ct_lshuffled, f_lnames, PySem.W.fnOf "_law_names" "_law_names" (defArgs s_lnames) (defBody s_lnames) (defScope s_lnames) .none kV_lnames dc_lnames pm_lnames an_lnames cd_lnames ct_lnames, f_lsome_kind, PySem.W.fnOf "_law_some_kind" "_law_some_kind" (defArgs s_lsome_kind) (defBody s_lsome_kind) (defScope s_lsome_kind) .none kV_lsome_kind dc_lsome_kind pm_lsome_kind an_lsome_kind cd_lsome_kind ct_lsome_kind, f_lparts, PySem.W.fnOf "_law_parts" "_law_parts" (defArgs s_lparts) (defBody s_lparts) (defScope s_lparts) .none kV_lparts dc_lparts pm_lparts an_lparts cd_lparts ct_lparts, f_lrefused, PySem.W.fnOf "_law_refused" "_law_refused" (defArgs s_lrefused) (defBody s_lrefused) (defScope s_lrefused) .none kV_lrefused dc_lrefused pm_lrefused an_lrefused cd_lrefused ct_lrefused, f_law, PySem.W.fnOf "law" "law" (defArgs s_law) (defBody s_law) (defScope s_law) .none kV_law dc_law pm_law an_law cd_law ct_law, f_lsource, PySem.W.fnOf "_law_source" "_law_source" (defArgs s_lsource) (defBody s_lsource) (defScope s_lsource) .none kV_lsource dc_lsource pm_lsource an_lsource cd_lsource ct_lsource, f_ldraw, PySem.W.fnOf "_law_draw" "_law_draw" (defArgs s_ldraw) (defBody s_ldraw) (defScope s_ldraw) .none kV_ldraw dc_ldraw pm_ldraw an_ldraw cd_ldraw ct_ldraw, fx_InvalidCrowd⟩, rfl, rfl, ?_, ⟨sx_InvalidCrowd⟩⟩
  constructor
  · exact PySem.W.mg_none_of X G x_m_range
  · exact PySem.W.mg_of X G a_ldraw
  · exact k_ldraw
  · exact bn_ldraw
  · exact bn_lnames
  · exact PySem.W.mg_of X G a_lnames
  · exact k_lnames
  · exact bn_lparts
  · exact PySem.W.mg_of X G a_lparts
  · exact k_lparts
  · exact ⟨x1_cr_Group, x2_cr_Group⟩
  · exact ⟨x1_cm_Group_named, ⟨_, x2_cm_Group_named⟩, x3_cm_Group_named⟩
  · exact PySem.W.mg_of X G aC_Group
  · exact bn_Group_named
  · exact PySem.W.mg_none_of X G x_m_len
  · exact bn_lpick
  · exact PySem.W.mg_of X G a_lpick
  · exact k_lpick
  · exact x_fi_Crowd_Crowd___eq__
  · exact x_fn_Crowd___eq__
  · exact bn_Crowd___eq__
  · exact x_ne_Crowd
  · exact x_mo_Crowd
  · exact bn_lrefused
  · exact PySem.W.mg_of X G a_lrefused
  · exact k_lrefused
  · exact PySem.W.mg_none_of X G x_m_tuple
  · exact ⟨x1_cm_Group_every, ⟨_, x2_cm_Group_every⟩, x3_cm_Group_every⟩
  · exact bn_Group_every
  · exact ⟨x1_Mk_Crowd, x2_Mk_Crowd, x3_Mk_Crowd, x4_Mk_Crowd⟩
  · exact fun Hc => rp_nilT l0_Crowd___init__ rfl rfl Hc
  · exact b_Crowd___init__1
  · exact dv_Crowd___init__1
  · exact PySem.W.mg_of X G aC_Crowd
  · exact PySem.W.mg_none_of X G x_m_isinstance
  · exact bn_is_sequence
  · exact PySem.W.mg_of X G a_is_sequence
  · exact k_is_sequence
  · exact PySem.W.mg_none_of X G x_m_enumerate
  · exact bn_is_part
  · exact PySem.W.mg_of X G a_is_part
  · exact k_is_part
  · exact bn_ascending
  · exact PySem.W.mg_of X G a_ascending
  · exact k_ascending
  · exact bn_added
  · exact PySem.W.mg_of X G a_added
  · exact k_added
  · exact x_fi_Crowd_Crowd___str__
  · exact x_fn_Crowd___str__
  · exact bn_Crowd___str__
  · exact PySem.W.mg_none_of X G x_m_str
  · exact PySem.W.mg_none_of X G x_m_sum
  · exact ⟨x1_Mk_Group, x2_Mk_Group, x3_Mk_Group, x4_Mk_Group⟩
  · exact b_Group___init__2
  · exact dv_Group___init__2
  · exact bn_is_name
  · exact PySem.W.mg_of X G a_is_name
  · exact k_is_name
  · exact b_Group___init__1
  · exact dv_Group___init__1
  · exact bn_lshuffled
  · exact PySem.W.mg_of X G a_lshuffled
  · exact k_lshuffled
  · exact PySem.W.mg_none_of X G x_m_int
  · exact bn_lsome_kind
  · exact PySem.W.mg_of X G a_lsome_kind
  · exact k_lsome_kind
  · exact PySem.W.mg_of X G aC_InvalidCrowd
  · exact PySem.W.mg_of X G aC_CrowdError
  · exact PySem.W.mg_of X G aC_InvalidText
  · exact ⟨⟨x0_ek_InvalidCrowd, x1_ek_InvalidCrowd, x2_ek_InvalidCrowd, x3_ek_InvalidCrowd⟩, x4_ek_InvalidCrowd, x5_ek_InvalidCrowd, x6_ek_InvalidCrowd, x7_ek_InvalidCrowd, x8_ek_InvalidCrowd, x9_ek_InvalidCrowd⟩
  · exact x_ex_InvalidCrowd
  · exact x_kx_InvalidCrowd_CrowdError
  · exact x_kx_InvalidCrowd_InvalidText
  · exact b_Crowd___init__0
  · exact PySem.W.mg_none_of X G x_m_sorted
  · exact bn_is_integer
  · exact PySem.W.mg_of X G a_is_integer
  · exact k_is_integer
  · exact bn_is_kind
  · exact PySem.W.mg_of X G a_is_kind
  · exact k_is_kind
  · exact PySem.W.mg_none_of X G x_m_list
  · exact bn_names_of
  · exact PySem.W.mg_of X G a_names_of
  · exact k_names_of
  · exact bn_script_of
  · exact PySem.W.mg_of X G a_script_of
  · exact k_script_of
  · exact ⟨_, PySem.W.mg_of X G x_v_BARRED, rfl⟩
  · exact fun Hc => rp_strT (xs := ["all", "none", "at", "if", "else", "end", "say", "stop"]) x_r_BARRED rfl rfl rfl (show 8 ≤ 1000 by decide) (.cons ⟨_, rfl⟩ (.cons ⟨_, rfl⟩ (.cons ⟨_, rfl⟩ (.cons ⟨_, rfl⟩ (.cons ⟨_, rfl⟩ (.cons ⟨_, rfl⟩ (.cons ⟨_, rfl⟩ (.cons ⟨_, rfl⟩ .nil)))))))) Hc
  · exact ⟨_, PySem.W.mg_of X G x_v_MOST_LETTERS, _, rfl⟩
  · exact ⟨_, PySem.W.mg_of X G x_v_LETTERS, _, rfl⟩
  · exact PySem.W.mg_none_of X G x_m_all
  · exact PySem.W.mg_none_of X G x_m_bool
  · exact PySem.W.mg_none_of X G x_m_super
  · exact ⟨⟨_, _, _, _, _, _, _, _, _, _, rfl, l_is_integer, c_is_integer⟩⟩
  · exact ⟨⟨_, _, _, _, _, _, _, _, _, _, rfl, l_is_sequence, c_is_sequence⟩⟩
  · exact ⟨⟨_, _, _, _, _, _, _, _, _, _, rfl, l_is_name, c_is_name⟩⟩
  · exact ⟨⟨_, _, _, _, _, _, _, _, _, _, rfl, l_ascending, c_ascending⟩⟩
  · exact ⟨⟨_, _, _, _, _, _, _, _, _, _, rfl, l_names_of, c_names_of⟩⟩
  · exact ⟨⟨_, _, _, _, _, _, _, _, _, _, rfl, l_is_kind, c_is_kind⟩⟩
  · exact ⟨⟨_, _, _, _, _, _, _, _, _, _, rfl, l_is_part, c_is_part⟩⟩
  · exact ⟨⟨_, _, _, _, _, _, _, _, _, _, rfl, l_added, c_added⟩⟩
  · exact ⟨⟨_, _, _, _, _, _, _, _, _, _, rfl, l_Crowd___init__, c_Crowd___init__⟩⟩
  · exact ⟨⟨_, _, _, _, _, _, _, _, _, _, rfl, l_Crowd___eq__, c_Crowd___eq__⟩⟩
  · exact ⟨⟨_, _, _, _, _, _, _, _, _, _, rfl, l_Crowd___str__, c_Crowd___str__⟩⟩
  · exact ⟨⟨_, _, _, _, _, _, _, _, _, _, rfl, l_script_of, c_script_of⟩⟩
  · exact ⟨⟨_, _, _, _, _, _, _, _, _, _, rfl, l_Group___init__, c_Group___init__⟩⟩
  · exact ⟨⟨_, _, _, _, _, _, _, _, _, _, rfl, l_Group_named, c_Group_named⟩⟩
  · exact ⟨⟨_, _, _, _, _, _, _, _, _, _, rfl, l_Group_every, c_Group_every⟩⟩
  · exact ⟨⟨_, _, _, _, _, _, _, _, _, _, rfl, l_lpick, c_lpick⟩⟩
  · exact ⟨⟨_, _, _, _, _, _, _, _, _, _, rfl, l_lshuffled, c_lshuffled⟩⟩
  · exact ⟨⟨_, _, _, _, _, _, _, _, _, _, rfl, l_lnames, c_lnames⟩⟩
  · exact ⟨⟨_, _, _, _, _, _, _, _, _, _, rfl, l_lsome_kind, c_lsome_kind⟩⟩
  · exact ⟨⟨_, _, _, _, _, _, _, _, _, _, rfl, l_lparts, c_lparts⟩⟩
  · exact ⟨⟨_, _, _, _, _, _, _, _, _, _, rfl, l_lrefused, c_lrefused⟩⟩
  · exact fun_mk (st := s_law) l_law c_law k_law
  · exact fun_mk (st := s_lsource) l_lsource c_lsource k_lsource
  · exact fun_mk (st := s_ldraw) l_ldraw c_ldraw k_ldraw
  · exact ⟨⟨x0_kl_Group, x1_kl_Group, x2_kl_Group, x3_kl_Group⟩, x4_kl_Group, x5_kl_Group, x6_kl_Group, x7_kl_Group⟩
  · exact (al_cons x_nb_Group_int (al_cons x_nb_Group_bool (al_cons x_nb_Group_str (al_cons x_nb_Group_list (al_cons x_nb_Group_tuple al_nil)))))
  · exact ⟨⟨x0_kl_Crowd, x1_kl_Crowd, x2_kl_Crowd, x3_kl_Crowd⟩, x4_kl_Crowd, x5_kl_Crowd, x6_kl_Crowd, x7_kl_Crowd⟩
  · exact (al_cons x_nb_Crowd_int (al_cons x_nb_Crowd_bool (al_cons x_nb_Crowd_str (al_cons x_nb_Crowd_list (al_cons x_nb_Crowd_tuple al_nil)))))
  · exact x_na_Group_names
  · exact x_na_Crowd_names
  · exact x_na_Group_number
  · exact x_na_Crowd_number
  · exact x_na_Group_parts
  · exact x_na_Crowd_parts
  · exact x_na_Group_script
  · exact x_na_Crowd_script
  · exact x_na_Group_sign
  · exact x_na_Crowd_sign
  · exact x_na_Group_size
  · exact x_na_Crowd_size
  · exact x_na_Group_word
  · exact x_na_Crowd_word
  · exact x_ki_Group_Crowd
  · exact x_ki_Crowd_Crowd
  · exact x_kb_NoneType_Crowd
  · exact x_kb_bool_Crowd
  · exact x_kb_int_Crowd
  · exact x_kb_str_Crowd
  · exact x_kb_list_Crowd
  · exact x_kb_tuple_Crowd
  · exact x_nf_Group_Crowd
  · exact x_nf_Crowd_Crowd
  · exact x_nt_NoneType_Crowd
  · exact x_nt_bool_Crowd
  · exact x_nt_int_Crowd
  · exact x_nt_str_Crowd
  · exact x_nt_list_Crowd
  · exact x_nt_tuple_Crowd
  · exact PySem.W.mg_none_of X G x_m_abs
  · exact PySem.W.mg_of X G a_lsource
  · exact k_lsource
  · exact bn_lsource
end Mc
namespace Mc
open PySem PySem.Spec PyProof.Rows L2 Evl
section
variable {P : Program} {w : World} {K : PySem.W.Frag} {mg : Str → Option Value} {base : Heap} {ad : Ad}
theorem ok_is_integer (Z : Kt K mg ad) (Dr : FnOk P w K mg base CX0 1 ad.f_ldraw ad.fd_ldraw ["_law_deal", "_law_many"] (spF (gd K ad) 2 drawF)) {n : Nat} (A : AllOk P w K mg base ad n) : FnOk P w K mg base CX0 (3 * n + 3) ad.f_is_integer ad.fd_is_integer ["value"] (spF (gd K ad) 1 (runF N_is_integer.length (b_is_integer (tab n)))) :=
  have okG := gd_ok K ad
  ok_F (G := gd K ad) (k := 3 * n + 2) (b := b_is_integer (tab n)) okG Z.F_is_integer sc_is_integer rfl fun cdv A0 outer s H E hr =>
    (m_sone (m_ret (m_and (m_callB okG (k_isi K) (wok_isi (ks_kcls Z)) (by rfl) Z.m_isinstance (by decide +kernel) (m_cons (m_var (pv 0)) (m_cons (m_c (pe_ty "int" (by rfl) Z.m_int (by decide +kernel)) fun _ _ => rfl) m_nil))) (m_one (m_not (m_callB okG (k_isi K) (wok_isi (ks_kcls Z)) (by rfl) Z.m_isinstance (by decide +kernel) (m_cons (m_var (pv 0)) (m_cons (m_c (pe_ty "bool" (by rfl) Z.m_bool (by decide +kernel)) fun _ _ => rfl) m_nil))))))))
theorem ok_is_sequence (Z : Kt K mg ad) (Dr : FnOk P w K mg base CX0 1 ad.f_ldraw ad.fd_ldraw ["_law_deal", "_law_many"] (spF (gd K ad) 2 drawF)) {n : Nat} (A : AllOk P w K mg base ad n) : FnOk P w K mg base CX0 (3 * n + 3) ad.f_is_sequence ad.fd_is_sequence ["value"] (spF (gd K ad) 1 (runF N_is_sequence.length (b_is_sequence (tab n)))) :=
  have okG := gd_ok K ad
  ok_F (G := gd K ad) (k := 3 * n + 2) (b := b_is_sequence (tab n)) okG Z.F_is_sequence sc_is_sequence rfl fun cdv A0 outer s H E hr =>
    (m_sone (m_ret (m_isi2 okG (ks_kcls Z) (m_var (pv 0)) (by rfl) Z.m_isinstance (pe_ty "list" (by rfl) Z.m_list (by decide +kernel)) (pe_ty "tuple" (by rfl) Z.m_tuple (by decide +kernel)))))
theorem ok_is_name (Z : Kt K mg ad) (Dr : FnOk P w K mg base CX0 1 ad.f_ldraw ad.fd_ldraw ["_law_deal", "_law_many"] (spF (gd K ad) 2 drawF)) {n : Nat} (A : AllOk P w K mg base ad n) : FnOk P w K mg base CX0 (3 * n + 3) ad.f_is_name ad.fd_is_name ["value"] (spF (gd K ad) 1 (runF N_is_name.length (b_is_name (tab n)))) :=
  have okG := gd_ok K ad
  ok_F (G := gd K ad) (k := 3 * n + 2) (b := b_is_name (tab n)) okG Z.F_is_name sc_is_name rfl fun cdv A0 outer s H E hr =>
    (m_scons (m_ifS (PW.pt (m_orT (m_notT (m_test (m_callB okG (k_isi K) (wok_isi (ks_kcls Z)) (by rfl) Z.m_isinstance (by decide +kernel) (m_cons (m_var (pv 0)) (m_cons (m_c (pe_ty "str" (by rfl) Z.m_str (by decide +kernel)) fun _ _ => rfl) m_nil))))) (m_orT (m_notT (m_chainT okG op_le wok_le op_le wok_le m_int (m_callB okG cr_len wok_len (by rfl) Z.m_len (by decide +kernel) (m_cons (m_var (pv 0)) m_nil)) (m_c (pe_gv Z.v_MOST_LETTERS (by rfl)) fun _ _ => rfl))) (m_or1 (m_cmpT okG or_in wok_in (m_var (pv 0)) (m_c (v := .ref ad.k_BARRED) (pe_gv Z.v_BARRED (by rfl)) fun F Hc => Z.r_BARRED Hc) (by rfl)))))) (m_sone (m_ret m_bl)) m_snil)
    (m_sone (m_ret (m_callB okG (cr_all rfl) wok_all (by rfl) Z.m_all (by decide +kernel) (m_cons (m_lc (tg := (gName 1)) (ow := [("letter", 1)]) okG g_name (by decide) rfl sc_is_name.nd (m_walk okG (m_var (pv 0))) (blkOk_by (own := [("letter", 1)]) (N := N_is_name) (sc := defScope s_is_name) (by decide +kernel)) (fun _ _ _ _ _ => (pg_name (i := 1) sc_is_name.nd rfl (Or.inl rfl))) (fun _ _ _ _ _ => m_yes) (fun _ _ _ _ _ => (m_cmp okG or_in wok_in (m_var (pv 1)) (m_c (pe_gv Z.v_LETTERS (by rfl)) fun _ _ => rfl) (by rfl)))) m_nil)))))
theorem ok_ascending (Z : Kt K mg ad) (Dr : FnOk P w K mg base CX0 1 ad.f_ldraw ad.fd_ldraw ["_law_deal", "_law_many"] (spF (gd K ad) 2 drawF)) {n : Nat} (A : AllOk P w K mg base ad n) : FnOk P w K mg base CX0 (3 * n + 3) ad.f_ascending ad.fd_ascending ["names"] (spF (gd K ad) 1 (runF N_ascending.length (b_ascending (tab n)))) :=
  have okG := gd_ok K ad
  ok_F (G := gd K ad) (k := 3 * n + 2) (b := b_ascending (tab n)) okG Z.F_ascending sc_ascending rfl fun cdv A0 outer s H E hr =>
    (m_sone (m_ret (m_callT okG call_tupN wok_tuple (by rfl) Z.m_tuple (by decide +kernel) (m_cons (m_sortS (tg := (gName 1)) (ow := [("name", 1)]) okG g_name (by decide) rfl sc_ascending.nd Z.m_sorted (m_walk okG (m_var (pv 0))) (blkOk_by (own := [("name", 1)]) (N := N_ascending) (sc := defScope s_ascending) (by decide +kernel)) (fun _ _ _ _ _ => (pg_name (i := 1) sc_ascending.nd rfl (Or.inl rfl))) (fun _ _ _ _ _ => (m_callTO (CallR.or (call_strI Z.fi_Crowd_Crowd___str__ Z.fn_Crowd___str__ (fnr_of A.Crowd___str__ Z.b_Crowd___str__) (hr.mono (by omega)) pass0) cr_str) (TOk.or (tok_str (c := 3) (by decide)) (tok_B okG wok_str)) (by rfl) Z.m_str (by decide +kernel) (m_cons (m_var (pv 1)) m_nil)))) m_nil))))
theorem ok_names_of (Z : Kt K mg ad) (Dr : FnOk P w K mg base CX0 1 ad.f_ldraw ad.fd_ldraw ["_law_deal", "_law_many"] (spF (gd K ad) 2 drawF)) {n : Nat} (A : AllOk P w K mg base ad n) : FnOk P w K mg base CX0 (3 * n + 3) ad.f_names_of ad.fd_names_of ["things"] (spF (gd K ad) 1 (runF N_names_of.length (b_names_of (tab n)))) :=
  have okG := gd_ok K ad
  ok_F (G := gd K ad) (k := 3 * n + 2) (b := b_names_of (tab n)) okG Z.F_names_of sc_names_of rfl fun cdv A0 outer s H E hr =>
    (m_sone (m_ret (m_F okG (pe_call A.ascending (hr.mono (by omega)) (by rfl) Z.g_ascending Z.k_ascending Z.b_ascending .nil pass0 (m_cons (m_lc2 (tg := (gName 1)) (tg1 := (gName 2)) (vs1 := [2]) (ow := [("thing", 1), ("name", 2)]) okG g_name (by decide) g_name (by decide) (by decide) rfl sc_names_of.nd (m_walk okG (m_var (pv 0))) (blkOk_by (own := [("thing", 1), ("name", 2)]) (N := N_names_of) (sc := defScope s_names_of) (by decide +kernel)) (fun _ _ _ _ _ => (pg_name (i := 1) sc_names_of.nd rfl (Or.inl rfl))) (fun _ _ _ _ _ => m_yes) (fun _ _ _ _ _ => (m_walk okG (m_attr okG (at_names Z) (m_var (pv 1))))) (fun _ _ _ _ _ => (pg_name (i := 2) sc_names_of.nd rfl (Or.inl rfl))) (fun _ _ _ _ _ => m_yes) (fun _ _ _ _ _ => (m_var (pv 2)))) m_nil)) (fun _ _ => rfl))))
theorem ok_is_kind (Z : Kt K mg ad) (Dr : FnOk P w K mg base CX0 1 ad.f_ldraw ad.fd_ldraw ["_law_deal", "_law_many"] (spF (gd K ad) 2 drawF)) {n : Nat} (A : AllOk P w K mg base ad n) : FnOk P w K mg base CX0 (3 * n + 3) ad.f_is_kind ad.fd_is_kind ["value"] (spF (gd K ad) 1 (runF N_is_kind.length (b_is_kind (tab n)))) :=
  have okG := gd_ok K ad
  ok_F (G := gd K ad) (k := 3 * n + 2) (b := b_is_kind (tab n)) okG Z.F_is_kind sc_is_kind rfl fun cdv A0 outer s H E hr =>
    (m_scons (m_ifS (PW.pt (m_orT (m_notT (m_test (m_F okG (pe_call A.is_sequence (hr.mono (by omega)) (by rfl) Z.g_is_sequence Z.k_is_sequence Z.b_is_sequence .nil pass0 (m_cons (m_var (pv 0)) m_nil)) (fun _ _ => rfl)))) (m_or1 (m_notT (m_test (m_callB okG (cr_all rfl) wok_all (by rfl) Z.m_all (by decide +kernel) (m_cons (m_lc (tg := (gName 1)) (ow := [("name", 1)]) okG g_name (by decide) rfl sc_is_kind.nd (m_walk okG (m_var (pv 0))) (blkOk_by (own := [("name", 1)]) (N := N_is_kind) (sc := defScope s_is_kind) (by decide +kernel)) (fun _ _ _ _ _ => (pg_name (i := 1) sc_is_kind.nd rfl (Or.inl rfl))) (fun _ _ _ _ _ => m_yes) (fun _ _ _ _ _ => (m_F okG (pe_call A.is_name (hr.mono (by omega)) (by rfl) Z.g_is_name Z.k_is_name Z.b_is_name .nil pass0 (m_cons (m_var (pv 1)) m_nil)) (fun _ _ => rfl)))) m_nil))))))) (m_sone (m_ret m_bl)) m_snil)
    (m_sone (m_ret (m_cmpO (OpR.or (op_cmpI (fun _ _ => rfl) Z.fi_Crowd_Crowd___eq__ Z.fn_Crowd___eq__ (fnr_of A.Crowd___eq__ Z.b_Crowd___eq__) (hr.mono (by omega)) pass0) (or_eq hr.units)) (TOk.or2 (tok_cmp (nc_Crowd Z)) (tok_B okG wok_eq)) (m_callB okG cr_len wok_len (by rfl) Z.m_len (by decide +kernel) (m_cons (m_F okG (pe_call A.ascending (hr.mono (by omega)) (by rfl) Z.g_ascending Z.k_ascending Z.b_ascending .nil pass0 (m_cons (m_var (pv 0)) m_nil)) (fun _ _ => rfl)) m_nil)) (m_callB okG cr_len wok_len (by rfl) Z.m_len (by decide +kernel) (m_cons (m_var (pv 0)) m_nil)) (nomark _)))))
theorem ok_is_part (Z : Kt K mg ad) (Dr : FnOk P w K mg base CX0 1 ad.f_ldraw ad.fd_ldraw ["_law_deal", "_law_many"] (spF (gd K ad) 2 drawF)) {n : Nat} (A : AllOk P w K mg base ad n) : FnOk P w K mg base CX0 (3 * n + 3) ad.f_is_part ad.fd_is_part ["value"] (spF (gd K ad) 1 (runF N_is_part.length (b_is_part (tab n)))) :=
  have okG := gd_ok K ad
  ok_F (G := gd K ad) (k := 3 * n + 2) (b := b_is_part (tab n)) okG Z.F_is_part sc_is_part rfl fun cdv A0 outer s H E hr =>
    (m_scons (m_ifS (PW.pt (m_orT (m_notT (m_test (m_callB okG (k_isi K) (wok_isi (ks_kcls Z)) (by rfl) Z.m_isinstance (by decide +kernel) (m_cons (m_var (pv 0)) (m_cons (m_c (pe_ty "tuple" (by rfl) Z.m_tuple (by decide +kernel)) fun _ _ => rfl) m_nil))))) (m_or1 (m_cmpOT (OpR.or (op_neI Z.ne_Crowd Z.mo_Crowd Z.fi_Crowd_Crowd___eq__ Z.fn_Crowd___eq__ (fnr_of A.Crowd___eq__ Z.b_Crowd___eq__) (hr.mono (by omega)) pass0) (or_ne hr.units)) (TOk.or2 (tok_ne (nc_Crowd Z)) (tok_B okG wok_ne)) (m_callB okG cr_len wok_len (by rfl) Z.m_len (by decide +kernel) (m_cons (m_var (pv 0)) m_nil)) m_int (nomark _))))) (m_sone (m_ret m_bl)) m_snil)
    (m_sone (m_ret (m_and (m_F okG (pe_call A.is_kind (hr.mono (by omega)) (by rfl) Z.g_is_kind Z.k_is_kind Z.b_is_kind .nil pass0 (m_cons (m_ix okG (m_var (pv 0)) m_int (fun _ _ => rfl)) m_nil)) (fun _ _ => rfl)) (m_and (m_F okG (pe_call A.is_integer (hr.mono (by omega)) (by rfl) Z.g_is_integer Z.k_is_integer Z.b_is_integer .nil pass0 (m_cons (m_ix okG (m_var (pv 0)) m_int (fun _ _ => rfl)) m_nil)) (fun _ _ => rfl)) (m_one (m_cmp okG op_ge wok_ge (m_ix okG (m_var (pv 0)) m_int (fun _ _ => rfl)) m_int (nomark _))))))))
theorem ok_added (Z : Kt K mg ad) (Dr : FnOk P w K mg base CX0 1 ad.f_ldraw ad.fd_ldraw ["_law_deal", "_law_many"] (spF (gd K ad) 2 drawF)) {n : Nat} (A : AllOk P w K mg base ad n) : FnOk P w K mg base CX0 (3 * n + 3) ad.f_added ad.fd_added ["pairs"] (spF (gd K ad) 1 (runF N_added.length (b_added (tab n)))) :=
  have okG := gd_ok K ad
  ok_F (G := gd K ad) (k := 3 * n + 2) (b := b_added (tab n)) okG Z.F_added sc_added rfl fun cdv A0 outer s H E hr =>
    (m_scons (m_setLc (i := 1) (tg := (gTup K 2 (gCons (gName 5) (gCons (gName 6) gNil)))) (ow := [("kind", 5), ("number", 6)]) okG (g_tup (n := 2) (g_cons g_name (g_cons g_name g_nil)) (len_gs (lg_cons (lg_cons lg_nil)))) (by decide) rfl sc_added.nd rfl rfl (sw_true rfl rfl rfl (by decide +kernel)) (m_walk okG (m_var (pv 0))) (blkOk_by (own := [("kind", 5), ("number", 6)]) (N := N_added) (sc := defScope s_added) (by decide +kernel)) (fun _ _ _ _ _ => (k_gt K rfl (pgs_cons (pg_name (i := 5) sc_added.nd rfl (Or.inl rfl)) (pgs_cons (pg_name (i := 6) sc_added.nd rfl (Or.inl rfl)) pgs_nil)))) (fun _ _ _ _ _ => m_yes) (fun _ _ _ _ _ => (m_tup okG (m_cons (m_join okG m_str (m_var (pv 5))) (m_cons (m_var (pv 6)) m_nil)))))
    (m_scons (m_own okG m_nil sc_added.nd rfl (Or.inl rfl))
    (m_scons (m_for okG PassesOwn.never rfl (m_walk okG (m_sortS (tg := (gTup K 2 (gCons (gName 3) (gCons (gName 6) gNil)))) (ow := [("text", 3), ("number", 6)]) okG (g_tup (n := 2) (g_cons g_name (g_cons g_name g_nil)) (len_gs (lg_cons (lg_cons lg_nil)))) (by decide) rfl sc_added.nd Z.m_sorted (m_walk okG (m_var (pv 1))) (blkOk_by (own := [("text", 3), ("number", 6)]) (N := N_added) (sc := defScope s_added) (by decide +kernel)) (fun _ _ _ _ _ => (k_gt K rfl (pgs_cons (pg_name (i := 3) sc_added.nd rfl (Or.inl rfl)) (pgs_cons (pg_name (i := 6) sc_added.nd rfl (Or.inl rfl)) pgs_nil)))) (fun _ _ _ _ _ => (m_callTO (CallR.or (call_strI Z.fi_Crowd_Crowd___str__ Z.fn_Crowd___str__ (fnr_of A.Crowd___str__ Z.b_Crowd___str__) (hr.mono (by omega)) pass0) cr_str) (TOk.or (tok_str (c := 3) (by decide)) (tok_B okG wok_str)) (by rfl) Z.m_str (by decide +kernel) (m_cons (m_var (pv 3)) m_nil))))) (pg_name (i := 3) sc_added.nd rfl (Or.inr rfl)) g_name (m_scons (m_set (i := 4) (m_callB okG (cr_sum rfl) wok_sum (by rfl) Z.m_sum (by decide +kernel) (m_cons (m_lc (tg := (gTup K 2 (gCons (gName 7) (gCons (gName 6) gNil)))) (ow := [("other", 7), ("number", 6)]) okG (g_tup (n := 2) (g_cons g_name (g_cons g_name g_nil)) (len_gs (lg_cons (lg_cons lg_nil)))) (by decide) rfl sc_added.nd (m_walk okG (m_var (pv 1))) (blkOk_by (own := [("other", 7), ("number", 6)]) (N := N_added) (sc := defScope s_added) (by decide +kernel)) (fun _ _ _ _ _ => (k_gt K rfl (pgs_cons (pg_name (i := 7) sc_added.nd rfl (Or.inl rfl)) (pgs_cons (pg_name (i := 6) sc_added.nd rfl (Or.inl rfl)) pgs_nil)))) (fun _ _ _ _ _ => (pts_one (m_cmpOT (OpR.or (op_cmpI (fun _ _ => rfl) Z.fi_Crowd_Crowd___eq__ Z.fn_Crowd___eq__ (fnr_of A.Crowd___eq__ Z.b_Crowd___eq__) (hr.mono (by omega)) pass0) (or_eq hr.units)) (TOk.or2 (tok_cmp (nc_Crowd Z)) (tok_B okG wok_eq)) (m_var (pv 7)) (m_var (pv 3)) (nomark _)))) (fun _ _ _ _ _ => (m_var (pv 6)))) m_nil)) sc_added.nd rfl (Or.inl rfl))
    (m_sone (m_drop (m_extend okG (m_var (pv 2)) (m_if (m_cmpT okG op_gt wok_gt (m_var (pv 4)) m_int (nomark _)) (m_lst okG (m_cons (m_tup okG (m_cons (m_if (m_cmpOT (OpR.or (op_neI Z.ne_Crowd Z.mo_Crowd Z.fi_Crowd_Crowd___eq__ Z.fn_Crowd___eq__ (fnr_of A.Crowd___eq__ Z.b_Crowd___eq__) (hr.mono (by omega)) pass0) (or_ne hr.units)) (TOk.or2 (tok_ne (nc_Crowd Z)) (tok_B okG wok_ne)) (m_var (pv 3)) m_str (nomark _)) (m_callT okG call_tupN wok_tuple (by rfl) Z.m_tuple (by decide +kernel) (m_cons (m_split okG (m_var (pv 3)) m_str) m_nil)) (m_tup okG m_nil)) (m_cons (m_var (pv 4)) m_nil))) m_nil)) (m_lst okG m_nil)))))))
    (m_sone (m_ret (m_callT okG call_tupN wok_tuple (by rfl) Z.m_tuple (by decide +kernel) (m_cons (m_var (pv 2)) m_nil)))))))
theorem ok_Crowd___init__ (Z : Kt K mg ad) (Dr : FnOk P w K mg base CX0 1 ad.f_ldraw ad.fd_ldraw ["_law_deal", "_law_many"] (spF (gd K ad) 2 drawF)) {n : Nat} (A : AllOk P w K mg base ad n) : FnOk P w K mg base CX0 (3 * n + 3) ad.f_Crowd___init__ ad.fd_Crowd___init__ ["self", "parts"] (spI' (gd K ad) 3 1 (makeF 3 N_Crowd___init__.length (b_Crowd___init__ (tab n)))) :=
  have okG := gd_ok K ad
  ok_I (G := gd K ad) (k := 3 * n + 2) (b := b_Crowd___init__ (tab n)) okG Z.F_Crowd___init__ sc_Crowd___init__ rfl fun cdv A0 outer s H E hr =>
    (m_scons (m_ifS (m_notT (m_test (m_F okG (pe_call A.is_sequence (hr.mono (by omega)) (by rfl) Z.g_is_sequence Z.k_is_sequence Z.b_is_sequence .nil pass0 (m_cons (m_var (pv 1)) m_nil)) (fun _ _ => rfl)))) m_nevers m_snil)
    (m_scons (m_for okG PassesOwn.never rfl (m_enum okG rfl Z.m_enumerate (m_cons (m_var (pv 1)) m_nil)) (k_gt K rfl (pgs_cons (pg_name (i := 2) sc_Crowd___init__.nd rfl (Or.inl rfl)) (pgs_cons (pg_name (i := 3) sc_Crowd___init__.nd rfl (Or.inl rfl)) pgs_nil))) (g_tup (n := 2) (g_cons g_name (g_cons g_name g_nil)) (len_gs (lg_cons (lg_cons lg_nil)))) (m_sone (m_ifS (m_notT (m_test (m_F okG (pe_call A.is_part (hr.mono (by omega)) (by rfl) Z.g_is_part Z.k_is_part Z.b_is_part .nil pass0 (m_cons (m_var (pv 3)) m_nil)) (fun _ _ => rfl)))) m_nevers m_snil)))
    (m_scons (m_fld okG (at_parts Z 3 (by decide)) (pv 0) (m_F okG (pe_call A.added (hr.mono (by omega)) (by rfl) Z.g_added Z.k_added Z.b_added .nil pass0 (m_cons (m_lc (tg := (gTup K 2 (gCons (gName 4) (gCons (gName 5) gNil)))) (ow := [("kind", 4), ("number", 5)]) okG (g_tup (n := 2) (g_cons g_name (g_cons g_name g_nil)) (len_gs (lg_cons (lg_cons lg_nil)))) (by decide) rfl sc_Crowd___init__.nd (m_walk okG (m_var (pv 1))) (blkOk_by (own := [("kind", 4), ("number", 5)]) (N := N_Crowd___init__) (sc := defScope s_Crowd___init__) (by decide +kernel)) (fun _ _ _ _ _ => (k_gt K rfl (pgs_cons (pg_name (i := 4) sc_Crowd___init__.nd rfl (Or.inl rfl)) (pgs_cons (pg_name (i := 5) sc_Crowd___init__.nd rfl (Or.inl rfl)) pgs_nil)))) (fun _ _ _ _ _ => m_yes) (fun _ _ _ _ _ => (m_tup okG (m_cons (m_F okG (pe_call A.ascending (hr.mono (by omega)) (by rfl) Z.g_ascending Z.k_ascending Z.b_ascending .nil pass0 (m_cons (m_var (pv 4)) m_nil)) (fun _ _ => rfl)) (m_cons (m_var (pv 5)) m_nil))))) m_nil)) (fun _ _ => rfl)))
    (m_scons (m_fld okG (at_script Z 3 (by decide)) (pv 0) (m_callT okG call_tupN wok_tuple (by rfl) Z.m_tuple (by decide +kernel) (m_cons (m_lc (tg := (gTup K 2 (gCons (gName 4) (gCons (gName 5) gNil)))) (ow := [("kind", 4), ("number", 5)]) okG (g_tup (n := 2) (g_cons g_name (g_cons g_name g_nil)) (len_gs (lg_cons (lg_cons lg_nil)))) (by decide) rfl sc_Crowd___init__.nd (m_walk okG (m_attr okG (at_parts Z) (m_var (pv 0)))) (blkOk_by (own := [("kind", 4), ("number", 5)]) (N := N_Crowd___init__) (sc := defScope s_Crowd___init__) (by decide +kernel)) (fun _ _ _ _ _ => (k_gt K rfl (pgs_cons (pg_name (i := 4) sc_Crowd___init__.nd rfl (Or.inl rfl)) (pgs_cons (pg_name (i := 5) sc_Crowd___init__.nd rfl (Or.inl rfl)) pgs_nil)))) (fun _ _ _ _ _ => m_yes) (fun _ _ _ _ _ => (m_join okG m_str (m_lst okG (m_cons (m_callTO (CallR.or (call_strI Z.fi_Crowd_Crowd___str__ Z.fn_Crowd___str__ (fnr_of A.Crowd___str__ Z.b_Crowd___str__) (hr.mono (by omega)) pass0) cr_str) (TOk.or (tok_str (c := 3) (by decide)) (tok_B okG wok_str)) (by rfl) Z.m_str (by decide +kernel) (m_cons (m_var (pv 5)) m_nil)) (m_star (m_var (pv 4)) m_nil)))))) m_nil)))
    (m_sone (m_fld okG (at_size Z 3 (by decide)) (pv 0) (m_callB okG (cr_sum rfl) wok_sum (by rfl) Z.m_sum (by decide +kernel) (m_cons (m_lc (tg := (gTup K 2 (gCons (gName 4) (gCons (gName 5) gNil)))) (ow := [("kind", 4), ("number", 5)]) okG (g_tup (n := 2) (g_cons g_name (g_cons g_name g_nil)) (len_gs (lg_cons (lg_cons lg_nil)))) (by decide) rfl sc_Crowd___init__.nd (m_walk okG (m_attr okG (at_parts Z) (m_var (pv 0)))) (blkOk_by (own := [("kind", 4), ("number", 5)]) (N := N_Crowd___init__) (sc := defScope s_Crowd___init__) (by decide +kernel)) (fun _ _ _ _ _ => (k_gt K rfl (pgs_cons (pg_name (i := 4) sc_Crowd___init__.nd rfl (Or.inl rfl)) (pgs_cons (pg_name (i := 5) sc_Crowd___init__.nd rfl (Or.inl rfl)) pgs_nil)))) (fun _ _ _ _ _ => m_yes) (fun _ _ _ _ _ => (m_var (pv 5)))) m_nil))))))))
theorem ok_Crowd___eq__ (Z : Kt K mg ad) (Dr : FnOk P w K mg base CX0 1 ad.f_ldraw ad.fd_ldraw ["_law_deal", "_law_many"] (spF (gd K ad) 2 drawF)) {n : Nat} (A : AllOk P w K mg base ad n) : FnOk P w K mg base CX0 (3 * n + 3) ad.f_Crowd___eq__ ad.fd_Crowd___eq__ ["self", "other"] (spF (gd K ad) 2 (runF N_Crowd___eq__.length (b_Crowd___eq__ (tab n)))) :=
  have okG := gd_ok K ad
  ok_F (G := gd K ad) (k := 3 * n + 2) (b := b_Crowd___eq__ (tab n)) okG Z.F_Crowd___eq__ sc_Crowd___eq__ rfl fun cdv A0 outer s H E hr =>
    (m_sone (m_ret (m_and (m_callB okG (k_isi K) (wok_isC (kc_Crowd_ok Z)) (by rfl) Z.m_isinstance (by decide +kernel) (m_cons (m_var (pv 1)) (m_cons (m_c (v := .ref ad.C_Crowd) (pe_glob (by rfl) Z.g_Crowd rfl) fun _ _ => rfl) m_nil))) (m_one (m_cmpO (OpR.or (op_cmpI (fun _ _ => rfl) Z.fi_Crowd_Crowd___eq__ Z.fn_Crowd___eq__ (fnr_of A.Crowd___eq__ Z.b_Crowd___eq__) (hr.mono (by omega)) pass0) (or_eq hr.units)) (TOk.or2 (tok_cmp (nc_Crowd Z)) (tok_B okG wok_eq)) (m_attr okG (at_parts Z) (m_var (pv 0))) (m_attr okG (at_parts Z) (m_var (pv 1))) (nomark _))))))
theorem ok_Crowd___str__ (Z : Kt K mg ad) (Dr : FnOk P w K mg base CX0 1 ad.f_ldraw ad.fd_ldraw ["_law_deal", "_law_many"] (spF (gd K ad) 2 drawF)) {n : Nat} (A : AllOk P w K mg base ad n) : FnOk P w K mg base CX0 (3 * n + 3) ad.f_Crowd___str__ ad.fd_Crowd___str__ ["self"] (spF (gd K ad) 1 (runF N_Crowd___str__.length (b_Crowd___str__ (tab n)))) :=
  have okG := gd_ok K ad
  ok_F (G := gd K ad) (k := 3 * n + 2) (b := b_Crowd___str__ (tab n)) okG Z.F_Crowd___str__ sc_Crowd___str__ rfl fun cdv A0 outer s H E hr =>
    (m_scons (m_ifS (m_cmpOT (OpR.or (op_cmpI (fun _ _ => rfl) Z.fi_Crowd_Crowd___eq__ Z.fn_Crowd___eq__ (fnr_of A.Crowd___eq__ Z.b_Crowd___eq__) (hr.mono (by omega)) pass0) (or_eq hr.units)) (TOk.or2 (tok_cmp (nc_Crowd Z)) (tok_B okG wok_eq)) (m_attr okG (at_script Z) (m_var (pv 0))) (m_tup okG m_nil) (nomark _)) (m_sone (m_ret m_str)) m_snil)
    (m_sone (m_ret (m_join okG m_str (m_attr okG (at_script Z) (m_var (pv 0)))))))
theorem ok_script_of (Z : Kt K mg ad) (Dr : FnOk P w K mg base CX0 1 ad.f_ldraw ad.fd_ldraw ["_law_deal", "_law_many"] (spF (gd K ad) 2 drawF)) {n : Nat} (A : AllOk P w K mg base ad n) : FnOk P w K mg base CX0 (3 * n + 3) ad.f_script_of ad.fd_script_of ["group"] (spF (gd K ad) 1 (runF N_script_of.length (b_script_of (tab n)))) :=
  have okG := gd_ok K ad
  ok_F (G := gd K ad) (k := 3 * n + 2) (b := b_script_of (tab n)) okG Z.F_script_of sc_script_of rfl fun cdv A0 outer s H E hr =>
    (m_scons (m_ifS (m_cmpOT (OpR.or (op_cmpI (fun _ _ => rfl) Z.fi_Crowd_Crowd___eq__ Z.fn_Crowd___eq__ (fnr_of A.Crowd___eq__ Z.b_Crowd___eq__) (hr.mono (by omega)) pass0) (or_eq hr.units)) (TOk.or2 (tok_cmp (nc_Crowd Z)) (tok_B okG wok_eq)) (m_attr okG (at_sign Z) (m_var (pv 0))) m_str (nomark _)) (m_sone (m_ret (m_tup okG (m_cons (m_attr okG (at_word Z) (m_var (pv 0))) m_nil)))) m_snil)
    (m_scons (m_own okG (m_cons (m_attr okG (at_sign Z) (m_var (pv 0))) m_nil) sc_script_of.nd rfl (Or.inl rfl))
    (m_scons (m_ifS (m_cmpOT (OpR.or (op_cmpI (fun _ _ => rfl) Z.fi_Crowd_Crowd___eq__ Z.fn_Crowd___eq__ (fnr_of A.Crowd___eq__ Z.b_Crowd___eq__) (hr.mono (by omega)) pass0) (or_eq hr.units)) (TOk.or2 (tok_cmp (nc_Crowd Z)) (tok_B okG wok_eq)) (m_attr okG (at_sign Z) (m_var (pv 0))) m_str (nomark _)) (m_sone (m_drop (m_extend okG (m_var (pv 1)) (m_lst okG (m_cons (m_callTO (CallR.or (call_strI Z.fi_Crowd_Crowd___str__ Z.fn_Crowd___str__ (fnr_of A.Crowd___str__ Z.b_Crowd___str__) (hr.mono (by omega)) pass0) cr_str) (TOk.or (tok_str (c := 3) (by decide)) (tok_B okG wok_str)) (by rfl) Z.m_str (by decide +kernel) (m_cons (m_attr okG (at_number Z) (m_var (pv 0))) m_nil)) (m_cons (m_callTO (CallR.or (call_strI Z.fi_Crowd_Crowd___str__ Z.fn_Crowd___str__ (fnr_of A.Crowd___str__ Z.b_Crowd___str__) (hr.mono (by omega)) pass0) cr_str) (TOk.or (tok_str (c := 3) (by decide)) (tok_B okG wok_str)) (by rfl) Z.m_str (by decide +kernel) (m_cons (m_callB okG cr_len wok_len (by rfl) Z.m_len (by decide +kernel) (m_cons (m_attr okG (at_parts Z) (m_var (pv 0))) m_nil)) m_nil)) m_nil)))))) m_snil)
    (m_sone (m_ret (m_tup okG (m_star (m_var (pv 1)) (m_star (m_lc2 (tg := (gName 2)) (tg1 := (gName 3)) (vs1 := [3]) (ow := [("part", 2), ("word", 3)]) okG g_name (by decide) g_name (by decide) (by decide) rfl sc_script_of.nd (m_walk okG (m_attr okG (at_parts Z) (m_var (pv 0)))) (blkOk_by (own := [("part", 2), ("word", 3)]) (N := N_script_of) (sc := defScope s_script_of) (by decide +kernel)) (fun _ _ _ _ _ => (pg_name (i := 2) sc_script_of.nd rfl (Or.inl rfl))) (fun _ _ _ _ _ => m_yes) (fun _ _ _ _ _ => (m_walk okG (m_attr okG (at_script Z) (m_var (pv 2))))) (fun _ _ _ _ _ => (pg_name (i := 3) sc_script_of.nd rfl (Or.inl rfl))) (fun _ _ _ _ _ => m_yes) (fun _ _ _ _ _ => (m_var (pv 3)))) m_nil))))))))
theorem ok_Group___init__ (Z : Kt K mg ad) (Dr : FnOk P w K mg base CX0 1 ad.f_ldraw ad.fd_ldraw ["_law_deal", "_law_many"] (spF (gd K ad) 2 drawF)) {n : Nat} (A : AllOk P w K mg base ad n) : FnOk P w K mg base CX0 (3 * n + 3) ad.f_Group___init__ ad.fd_Group___init__ ["self", "sign", "parts", "word", "number"] (spI' (gd K ad) 5 4 (makeF 5 N_Group___init__.length (b_Group___init__ (tab n)))) :=
  have okG := gd_ok K ad
  ok_I (G := gd K ad) (k := 3 * n + 2) (b := b_Group___init__ (tab n)) okG Z.F_Group___init__ sc_Group___init__ rfl fun cdv A0 outer s H E hr =>
    (m_scons (m_fld okG (at_sign Z 5 (by decide)) (pv 0) (m_var (pv 1)))
    (m_scons (m_fld okG (at_parts Z 5 (by decide)) (pv 0) (m_callT okG call_tupN wok_tuple (by rfl) Z.m_tuple (by decide +kernel) (m_cons (m_var (pv 2)) m_nil)))
    (m_scons (m_fld okG (at_word Z 5 (by decide)) (pv 0) (m_var (pv 3)))
    (m_scons (m_fld okG (at_number Z 5 (by decide)) (pv 0) (m_var (pv 4)))
    (m_scons (m_fld okG (at_names Z 5 (by decide)) (pv 0) (m_if (m_cmpOT (OpR.or (op_cmpI (fun _ _ => rfl) Z.fi_Crowd_Crowd___eq__ Z.fn_Crowd___eq__ (fnr_of A.Crowd___eq__ Z.b_Crowd___eq__) (hr.mono (by omega)) pass0) (or_eq hr.units)) (TOk.or2 (tok_cmp (nc_Crowd Z)) (tok_B okG wok_eq)) (m_var (pv 1)) m_str (nomark _)) (m_tup okG (m_cons (m_var (pv 3)) m_nil)) (m_F okG (pe_call A.names_of (hr.mono (by omega)) (by rfl) Z.g_names_of Z.k_names_of Z.b_names_of .nil pass0 (m_cons (m_attr okG (at_parts Z) (m_var (pv 0))) m_nil)) (fun _ _ => rfl))))
    (m_sone (m_fld okG (at_script Z 5 (by decide)) (pv 0) (m_Fo okG (pe_call A.script_of (hr.mono (by omega)) (by rfl) Z.g_script_of Z.k_script_of Z.b_script_of .nil pass0 (m_cons (m_var (pv 0)) m_nil)) (fun _ _ => rfl)))))))))
theorem ok_Group_named (Z : Kt K mg ad) (Dr : FnOk P w K mg base CX0 1 ad.f_ldraw ad.fd_ldraw ["_law_deal", "_law_many"] (spF (gd K ad) 2 drawF)) {n : Nat} (A : AllOk P w K mg base ad n) : FnOk P w K mg base CX0 (3 * n + 3) ad.f_Group_named ad.fd_Group_named ["cls", "name"] (spF (gd K ad) 2 (runF N_Group_named.length (b_Group_named (tab n)))) :=
  have okG := gd_ok K ad
  ok_F (G := gd K ad) (k := 3 * n + 2) (b := b_Group_named (tab n)) okG Z.F_Group_named sc_Group_named rfl fun cdv A0 outer s H E hr =>
    (m_scons (m_ifS (m_notT (m_test (m_F okG (pe_call A.is_name (hr.mono (by omega)) (by rfl) Z.g_is_name Z.k_is_name Z.b_is_name .nil pass0 (m_cons (m_var (pv 1)) m_nil)) (fun _ _ => rfl)))) m_nevers m_snil)
    (m_sone (m_ret (m_mkL okG (c := 5) (by decide) (pe_makeL (i := 0) Z.Mk_Group A.mk_Group (hr.mono (by omega)) rfl (Or.inl rfl) Z.b_Group___init__1 Z.dv_Group___init__1 pass0 (m_cons m_str (m_cons (m_tup okG m_nil) (m_cons (m_var (pv 1)) m_nil)))) (fun _ _ => ⟨_, _, rfl, rfl, rfl⟩)))))
theorem ok_Group_every (Z : Kt K mg ad) (Dr : FnOk P w K mg base CX0 1 ad.f_ldraw ad.fd_ldraw ["_law_deal", "_law_many"] (spF (gd K ad) 2 drawF)) {n : Nat} (A : AllOk P w K mg base ad n) : FnOk P w K mg base CX0 (3 * n + 3) ad.f_Group_every ad.fd_Group_every ["cls"] (spF (gd K ad) 1 (runF N_Group_every.length (b_Group_every (tab n)))) :=
  have okG := gd_ok K ad
  ok_F (G := gd K ad) (k := 3 * n + 2) (b := b_Group_every (tab n)) okG Z.F_Group_every sc_Group_every rfl fun cdv A0 outer s H E hr =>
    (m_sone (m_ret (m_mkL okG (c := 5) (by decide) (pe_makeL (i := 0) Z.Mk_Group A.mk_Group (hr.mono (by omega)) rfl (Or.inl rfl) Z.b_Group___init__2 Z.dv_Group___init__2 pass0 (m_cons m_str (m_cons (m_tup okG m_nil) m_nil))) (fun _ _ => ⟨_, _, rfl, rfl, _, _, rfl, rfl, rfl⟩))))
theorem ok_lpick (Z : Kt K mg ad) (Dr : FnOk P w K mg base CX0 1 ad.f_ldraw ad.fd_ldraw ["_law_deal", "_law_many"] (spF (gd K ad) 2 drawF)) {n : Nat} (A : AllOk P w K mg base ad n) : FnOk P w K mg base CX0 (3 * n + 3) ad.f_lpick ad.fd_lpick ["_law_deal", "_law_some"] (spF (gd K ad) 2 (runF N_lpick.length (b_lpick (tab n)))) :=
  have okG := gd_ok K ad
  ok_F (G := gd K ad) (k := 3 * n + 2) (b := b_lpick (tab n)) okG Z.F_lpick sc_lpick rfl fun cdv A0 outer s H E hr =>
    (m_sone (m_ret (m_ix okG (m_var (pv 1)) (m_F okG (pe_call Dr (hr.mono (by omega)) (by rfl) Z.g_ldraw Z.k_ldraw Z.b_ldraw .nil pass0 (m_cons (m_var (pv 0)) (m_cons (m_callB okG cr_len wok_len (by rfl) Z.m_len (by decide +kernel) (m_cons (m_var (pv 1)) m_nil)) m_nil))) (fun _ _ => rfl)) (fun _ _ => rfl))))
theorem ok_lshuffled (Z : Kt K mg ad) (Dr : FnOk P w K mg base CX0 1 ad.f_ldraw ad.fd_ldraw ["_law_deal", "_law_many"] (spF (gd K ad) 2 drawF)) {n : Nat} (A : AllOk P w K mg base ad n) : FnOk P w K mg base CX0 (3 * n + 3) ad.f_lshuffled ad.fd_lshuffled ["_law_deal", "_law_some"] (spF (gd K ad) 2 (runF N_lshuffled.length (b_lshuffled (tab n)))) :=
  have okG := gd_ok K ad
  ok_F (G := gd K ad) (k := 3 * n + 2) (b := b_lshuffled (tab n)) okG Z.F_lshuffled sc_lshuffled rfl fun cdv A0 outer s H E hr =>
    (m_scons (m_parFF (i := 2) (j := 3) okG rfl sc_lshuffled.nd rfl rfl (by decide) rfl rfl (l_list (m_var (pv 1)) Z.m_list) (l_disp m_nil) (by rfl))
    (m_scons (m_for okG PassesOwn.never rfl (m_range1 okG rfl Z.m_range (m_cons (m_callB okG cr_len wok_len (by rfl) Z.m_len (by decide +kernel) (m_cons (m_var (pv 2)) m_nil)) m_nil)) (pg_name (i := 4) sc_lshuffled.nd rfl (Or.inl rfl)) g_name (m_sone (m_drop (m_append okG (m_var (pv 3)) (m_popAt okG (m_var (pv 2)) (m_F okG (pe_call Dr (hr.mono (by omega)) (by rfl) Z.g_ldraw Z.k_ldraw Z.b_ldraw .nil pass0 (m_cons (m_var (pv 0)) (m_cons (m_callB okG cr_len wok_len (by rfl) Z.m_len (by decide +kernel) (m_cons (m_var (pv 2)) m_nil)) m_nil))) (fun _ _ => rfl)))))))
    (m_sone (m_ret (m_var (pv 3))))))
theorem ok_lnames (Z : Kt K mg ad) (Dr : FnOk P w K mg base CX0 1 ad.f_ldraw ad.fd_ldraw ["_law_deal", "_law_many"] (spF (gd K ad) 2 drawF)) {n : Nat} (A : AllOk P w K mg base ad n) : FnOk P w K mg base CX0 (3 * n + 3) ad.f_lnames ad.fd_lnames ["_law_deal", "_law_many"] (spF (gd K ad) 2 (runF N_lnames.length (b_lnames (tab n)))) :=
  have okG := gd_ok K ad
  ok_F (G := gd K ad) (k := 3 * n + 2) (b := b_lnames (tab n)) okG Z.F_lnames sc_lnames rfl fun cdv A0 outer s H E hr =>
    (m_scons (m_set (i := 2) (m_lst okG (m_cons m_str (m_cons m_str (m_cons m_str (m_cons m_str (m_cons m_str (m_cons m_str (m_cons m_str (m_cons m_str (m_cons m_str (m_cons m_str m_nil))))))))))) sc_lnames.nd rfl (Or.inl rfl))
    (m_scons (m_asg (m_tup okG (m_cons (m_F okG (pe_call Dr (hr.mono (by omega)) (by rfl) Z.g_ldraw Z.k_ldraw Z.b_ldraw .nil pass0 (m_cons (m_var (pv 0)) (m_cons m_int m_nil))) (fun _ _ => rfl)) (m_cons (m_F okG (pe_call Dr (hr.mono (by omega)) (by rfl) Z.g_ldraw Z.k_ldraw Z.b_ldraw .nil pass0 (m_cons (m_var (pv 0)) (m_cons m_int m_nil))) (fun _ _ => rfl)) m_nil))) (k_gt K rfl (pgs_cons (pg_name (i := 3) sc_lnames.nd rfl (Or.inl rfl)) (pgs_cons (pg_name (i := 4) sc_lnames.nd rfl (Or.inr rfl)) pgs_nil))) (g_tup (n := 2) (g_cons g_name (g_cons g_name g_nil)) (len_gs (lg_cons (lg_cons lg_nil)))))
    (m_scons (m_ifS (m_cmpOT (OpR.or (op_cmpI (fun _ _ => rfl) Z.fi_Crowd_Crowd___eq__ Z.fn_Crowd___eq__ (fnr_of A.Crowd___eq__ Z.b_Crowd___eq__) (hr.mono (by omega)) pass0) (or_eq hr.units)) (TOk.or2 (tok_cmp (nc_Crowd Z)) (tok_B okG wok_eq)) (m_var (pv 3)) m_int (nomark _)) (m_sone (m_ret (m_sl okG (m_F okG (pe_call A.lshuffled (hr.mono (by omega)) (by rfl) Z.g_lshuffled Z.k_lshuffled Z.b_lshuffled .nil pass0 (m_cons (m_var (pv 0)) (m_cons (m_var (pv 2)) m_nil))) (fun _ _ => rfl)) m_oNone (m_oSome (m_var (pv 1)))))) m_snil)
    (m_scons (m_ifS (m_cmpOT (OpR.or (op_cmpI (fun _ _ => rfl) Z.fi_Crowd_Crowd___eq__ Z.fn_Crowd___eq__ (fnr_of A.Crowd___eq__ Z.b_Crowd___eq__) (hr.mono (by omega)) pass0) (or_eq hr.units)) (TOk.or2 (tok_cmp (nc_Crowd Z)) (tok_B okG wok_eq)) (m_var (pv 3)) m_int (nomark _)) (m_sone (m_ret (m_F okG (pe_call A.lshuffled (hr.mono (by omega)) (by rfl) Z.g_lshuffled Z.k_lshuffled Z.b_lshuffled .nil pass0 (m_cons (m_var (pv 0)) (m_cons (m_lc (tg := (gName 6)) (ow := [("_law_at", 6)]) okG g_name (by decide) rfl sc_lnames.nd (m_range1 okG rfl Z.m_range (m_cons (m_var (pv 1)) m_nil)) (blkOk_by (own := [("_law_at", 6)]) (N := N_lnames) (sc := defScope s_lnames) (by decide +kernel)) (fun _ _ _ _ _ => (pg_name (i := 6) sc_lnames.nd rfl (Or.inl rfl))) (fun _ _ _ _ _ => m_yes) (fun _ _ _ _ _ => (m_sl okG m_str m_oNone (m_oSome (m_bin okG or_add wok_add (m_var (pv 6)) m_int))))) m_nil))) (fun _ _ => rfl)))) m_snil)
    (m_scons (m_set (i := 5) m_str sc_lnames.nd rfl (Or.inr rfl))
    (m_sone (m_ret (m_lc (tg := (gName 6)) (ow := [("_law_at", 6)]) okG g_name (by decide) rfl sc_lnames.nd (m_range1 okG rfl Z.m_range (m_cons (m_var (pv 1)) m_nil)) (blkOk_by (own := [("_law_at", 6)]) (N := N_lnames) (sc := defScope s_lnames) (by decide +kernel)) (fun _ _ _ _ _ => (pg_name (i := 6) sc_lnames.nd rfl (Or.inl rfl))) (fun _ _ _ _ _ => m_yes) (fun _ _ _ _ _ => (m_bin okG or_add wok_add (m_ix okG (m_var (pv 5)) (m_bin okG op_mod wok_mod (m_callT okG cr_int wok_int (by rfl) Z.m_int (by decide +kernel) (m_cons (m_bin okG or_add wok_add (m_var (pv 4)) (m_bin okG or_mul wok_mul m_int (m_var (pv 6)))) m_nil)) m_int) (fun _ _ => rfl)) (m_sl okG m_str m_oNone (m_oSome (m_bin okG op_mod wok_mod (m_callT okG cr_int wok_int (by rfl) Z.m_int (by decide +kernel) (m_cons (m_var (pv 4)) m_nil)) m_int)))))))))))))
theorem ok_lsome_kind (Z : Kt K mg ad) (Dr : FnOk P w K mg base CX0 1 ad.f_ldraw ad.fd_ldraw ["_law_deal", "_law_many"] (spF (gd K ad) 2 drawF)) {n : Nat} (A : AllOk P w K mg base ad n) : FnOk P w K mg base CX0 (3 * n + 3) ad.f_lsome_kind ad.fd_lsome_kind ["_law_deal", "_law_names_here"] (spF (gd K ad) 2 (runF N_lsome_kind.length (b_lsome_kind (tab n)))) :=
  have okG := gd_ok K ad
  ok_F (G := gd K ad) (k := 3 * n + 2) (b := b_lsome_kind (tab n)) okG Z.F_lsome_kind sc_lsome_kind rfl fun cdv A0 outer s H E hr =>
    (m_sone (m_ret (m_sl okG (m_F okG (pe_call A.lshuffled (hr.mono (by omega)) (by rfl) Z.g_lshuffled Z.k_lshuffled Z.b_lshuffled .nil pass0 (m_cons (m_var (pv 0)) (m_cons (m_var (pv 1)) m_nil))) (fun _ _ => rfl)) m_oNone (m_oSome (m_F okG (pe_call Dr (hr.mono (by omega)) (by rfl) Z.g_ldraw Z.k_ldraw Z.b_ldraw .nil pass0 (m_cons (m_var (pv 0)) (m_cons (m_bin okG or_add wok_add (m_callB okG cr_len wok_len (by rfl) Z.m_len (by decide +kernel) (m_cons (m_var (pv 1)) m_nil)) m_int) m_nil))) (fun _ _ => rfl))))))
theorem ok_lparts (Z : Kt K mg ad) (Dr : FnOk P w K mg base CX0 1 ad.f_ldraw ad.fd_ldraw ["_law_deal", "_law_many"] (spF (gd K ad) 2 drawF)) {n : Nat} (A : AllOk P w K mg base ad n) : FnOk P w K mg base CX0 (3 * n + 3) ad.f_lparts ad.fd_lparts ["_law_deal", "_law_names_here", "_law_most"] (spF (gd K ad) 3 (runF N_lparts.length (b_lparts (tab n)))) :=
  have okG := gd_ok K ad
  ok_F (G := gd K ad) (k := 3 * n + 2) (b := b_lparts (tab n)) okG Z.F_lparts sc_lparts rfl fun cdv A0 outer s H E hr =>
    (m_scons (m_own okG m_nil sc_lparts.nd rfl (Or.inl rfl))
    (m_scons (m_for okG PassesOwn.never rfl (m_range1 okG rfl Z.m_range (m_cons (m_F okG (pe_call Dr (hr.mono (by omega)) (by rfl) Z.g_ldraw Z.k_ldraw Z.b_ldraw .nil pass0 (m_cons (m_var (pv 0)) (m_cons m_int m_nil))) (fun _ _ => rfl)) m_nil)) (pg_name (i := 4) sc_lparts.nd rfl (Or.inl rfl)) g_name (m_scons (m_set (i := 5) (m_F okG (pe_call A.lsome_kind (hr.mono (by omega)) (by rfl) Z.g_lsome_kind Z.k_lsome_kind Z.b_lsome_kind .nil pass0 (m_cons (m_var (pv 0)) (m_cons (m_var (pv 1)) m_nil))) (fun _ _ => rfl)) sc_lparts.nd rfl (Or.inl rfl))
    (m_sone (m_drop (m_append okG (m_var (pv 3)) (m_tup okG (m_cons (m_if (m_cmpOT (OpR.or (op_cmpI (fun _ _ => rfl) Z.fi_Crowd_Crowd___eq__ Z.fn_Crowd___eq__ (fnr_of A.Crowd___eq__ Z.b_Crowd___eq__) (hr.mono (by omega)) pass0) (or_eq hr.units)) (TOk.or2 (tok_cmp (nc_Crowd Z)) (tok_B okG wok_eq)) (m_F okG (pe_call Dr (hr.mono (by omega)) (by rfl) Z.g_ldraw Z.k_ldraw Z.b_ldraw .nil pass0 (m_cons (m_var (pv 0)) (m_cons m_int m_nil))) (fun _ _ => rfl)) m_int (nomark _)) (m_callT okG call_tupN wok_tuple (by rfl) Z.m_tuple (by decide +kernel) (m_cons (m_var (pv 5)) m_nil)) (m_var (pv 5))) (m_cons (m_F okG (pe_call Dr (hr.mono (by omega)) (by rfl) Z.g_ldraw Z.k_ldraw Z.b_ldraw .nil pass0 (m_cons (m_var (pv 0)) (m_cons (m_bin okG or_add wok_add (m_var (pv 2)) m_int) m_nil))) (fun _ _ => rfl)) m_nil))))))))
    (m_sone (m_ret (m_var (pv 3))))))
theorem ok_lrefused (Z : Kt K mg ad) (Dr : FnOk P w K mg base CX0 1 ad.f_ldraw ad.fd_ldraw ["_law_deal", "_law_many"] (spF (gd K ad) 2 drawF)) {n : Nat} (A : AllOk P w K mg base ad n) : FnOk P w K mg base CX0 (3 * n + 3) ad.f_lrefused ad.fd_lrefused ["_law_parts_here"] (spF (gd K ad) 1 (runF N_lrefused.length (b_lrefused (tab n)))) :=
  have okG := gd_ok K ad
  ok_F (G := gd K ad) (k := 3 * n + 2) (b := b_lrefused (tab n)) okG Z.F_lrefused sc_lrefused rfl fun cdv A0 outer s H E hr =>
    (m_scons (m_set (i := 1) m_str sc_lrefused.nd rfl (Or.inl rfl))
    (m_scons (m_tryK (C := ad.C_InvalidCrowd) (k := 1000) (i := 2) (j := 1) rfl (by decide) rfl rfl sc_lrefused.nd rfl rfl ⟨by rfl, by decide, Or.inl Z.g_InvalidCrowd⟩ Z.ex_InvalidCrowd takes_no (fun W pn xe tkW hpW => (m_sone (m_dropR (m_rMk okG (c := 3) (by decide) (pe_makeS Z.Mk_Crowd A.X_mk_Crowd (hr.mono (by omega)) (by rfl) Z.g_Crowd Z.b_Crowd___init__ .nil (fun σ => passAt tkW σ) (m_upA (m_cons (m_var (pv 0)) m_nil))) (fun _ _ => rfl))))) (fun a oe cls d pn hz hf => pss_keep (X := (cxOf CX0 P w K mg base N_lrefused "_law_refused" (defScope s_lrefused) ad.f_lrefused cdv A0 outer s H E).nox) (en := "e") (xn := "_law_found") (An := "CrowdError") (Bn := "InvalidText") (f := "at") Z.ek_InvalidCrowd hz hf sc_lrefused.nd rfl rfl (Or.inl rfl) rfl (by rfl) Z.m_isinstance (by rfl) Z.g_CrowdError (by rfl) Z.g_InvalidText Z.kx_InvalidCrowd_CrowdError Z.kx_InvalidCrowd_InvalidText))
    (m_sone (m_ret (m_var (pv 1))))))
theorem ok_X_mk_Crowd (Z : Kt K mg ad) (SX : SxAll P K ad) (Dr : FnOk P w K mg base CX0 1 ad.f_ldraw ad.fd_ldraw ["_law_deal", "_law_many"] (spF (gd K ad) 2 drawF)) {n : Nat} (A : AllOk P w K mg base ad n) : FnOk P w K mg base (L2.CX P w) (3 * n + 3) ad.f_Crowd___init__ ad.fd_Crowd___init__ ["self", "parts"] (spIX (gd K ad) 3 1 (makeX 3 N_Crowd___init__.length (bX_Crowd___init__ (tab n)))) :=
  have okG := gd_ok K ad
  ok_IX (G := gd K ad) (k := 3 * n + 2) (b := bX_Crowd___init__ (tab n)) okG Z.F_Crowd___init__ sc_Crowd___init__ rfl fun cdv A0 outer s H E hr tk hp =>
    (m_scons (m_ifS (m_notT (m_test (m_F okG (pe_call A.is_sequence (hr.mono (by omega)) (by rfl) Z.g_is_sequence Z.k_is_sequence Z.b_is_sequence .nil pass0 (m_cons (m_var (pv 1)) m_nil)) (fun _ _ => rfl)))) (m_sone (m_raise okG SX.InvalidCrowd rfl rfl tk (hr.mono (by omega)) (by rfl) Z.g_InvalidCrowd Z.m_super m_int)) m_snil)
    (m_scons (m_for okG hp rfl (m_enum okG rfl Z.m_enumerate (m_cons (m_var (pv 1)) m_nil)) (k_gt K rfl (pgs_cons (pg_name (i := 2) sc_Crowd___init__.nd rfl (Or.inl rfl)) (pgs_cons (pg_name (i := 3) sc_Crowd___init__.nd rfl (Or.inl rfl)) pgs_nil))) (g_tup (n := 2) (g_cons g_name (g_cons g_name g_nil)) (len_gs (lg_cons (lg_cons lg_nil)))) (m_sone (m_ifS (m_notT (m_test (m_F okG (pe_call A.is_part (hr.mono (by omega)) (by rfl) Z.g_is_part Z.k_is_part Z.b_is_part .nil pass0 (m_cons (m_var (pv 3)) m_nil)) (fun _ _ => rfl)))) (m_sone (m_raise okG SX.InvalidCrowd rfl rfl tk (hr.mono (by omega)) (by rfl) Z.g_InvalidCrowd Z.m_super (m_var (pv 2)))) m_snil)))
    (m_scons (m_fld okG (at_parts Z 3 (by decide)) (pv 0) (m_F okG (pe_call A.added (hr.mono (by omega)) (by rfl) Z.g_added Z.k_added Z.b_added .nil pass0 (m_cons (m_lc (tg := (gTup K 2 (gCons (gName 4) (gCons (gName 5) gNil)))) (ow := [("kind", 4), ("number", 5)]) okG (g_tup (n := 2) (g_cons g_name (g_cons g_name g_nil)) (len_gs (lg_cons (lg_cons lg_nil)))) (by decide) rfl sc_Crowd___init__.nd (m_walk okG (m_var (pv 1))) (blkOk_by (own := [("kind", 4), ("number", 5)]) (N := N_Crowd___init__) (sc := defScope s_Crowd___init__) (by decide +kernel)) (fun _ _ _ _ _ => (k_gt K rfl (pgs_cons (pg_name (i := 4) sc_Crowd___init__.nd rfl (Or.inl rfl)) (pgs_cons (pg_name (i := 5) sc_Crowd___init__.nd rfl (Or.inl rfl)) pgs_nil)))) (fun _ _ _ _ _ => m_yes) (fun _ _ _ _ _ => (m_tup okG (m_cons (m_F okG (pe_call A.ascending (hr.mono (by omega)) (by rfl) Z.g_ascending Z.k_ascending Z.b_ascending .nil pass0 (m_cons (m_var (pv 4)) m_nil)) (fun _ _ => rfl)) (m_cons (m_var (pv 5)) m_nil))))) m_nil)) (fun _ _ => rfl)))
    (m_scons (m_fld okG (at_script Z 3 (by decide)) (pv 0) (m_callT okG call_tupN wok_tuple (by rfl) Z.m_tuple (by decide +kernel) (m_cons (m_lc (tg := (gTup K 2 (gCons (gName 4) (gCons (gName 5) gNil)))) (ow := [("kind", 4), ("number", 5)]) okG (g_tup (n := 2) (g_cons g_name (g_cons g_name g_nil)) (len_gs (lg_cons (lg_cons lg_nil)))) (by decide) rfl sc_Crowd___init__.nd (m_walk okG (m_attr okG (at_parts Z) (m_var (pv 0)))) (blkOk_by (own := [("kind", 4), ("number", 5)]) (N := N_Crowd___init__) (sc := defScope s_Crowd___init__) (by decide +kernel)) (fun _ _ _ _ _ => (k_gt K rfl (pgs_cons (pg_name (i := 4) sc_Crowd___init__.nd rfl (Or.inl rfl)) (pgs_cons (pg_name (i := 5) sc_Crowd___init__.nd rfl (Or.inl rfl)) pgs_nil)))) (fun _ _ _ _ _ => m_yes) (fun _ _ _ _ _ => (m_join okG m_str (m_lst okG (m_cons (m_callTO (CallR.or (call_strI Z.fi_Crowd_Crowd___str__ Z.fn_Crowd___str__ (fnr_of A.Crowd___str__ Z.b_Crowd___str__) (hr.mono (by omega)) pass0) cr_str) (TOk.or (tok_str (c := 3) (by decide)) (tok_B okG wok_str)) (by rfl) Z.m_str (by decide +kernel) (m_cons (m_var (pv 5)) m_nil)) (m_star (m_var (pv 4)) m_nil)))))) m_nil)))
    (m_sone (m_fld okG (at_size Z 3 (by decide)) (pv 0) (m_callB okG (cr_sum rfl) wok_sum (by rfl) Z.m_sum (by decide +kernel) (m_cons (m_lc (tg := (gTup K 2 (gCons (gName 4) (gCons (gName 5) gNil)))) (ow := [("kind", 4), ("number", 5)]) okG (g_tup (n := 2) (g_cons g_name (g_cons g_name g_nil)) (len_gs (lg_cons (lg_cons lg_nil)))) (by decide) rfl sc_Crowd___init__.nd (m_walk okG (m_attr okG (at_parts Z) (m_var (pv 0)))) (blkOk_by (own := [("kind", 4), ("number", 5)]) (N := N_Crowd___init__) (sc := defScope s_Crowd___init__) (by decide +kernel)) (fun _ _ _ _ _ => (k_gt K rfl (pgs_cons (pg_name (i := 4) sc_Crowd___init__.nd rfl (Or.inl rfl)) (pgs_cons (pg_name (i := 5) sc_Crowd___init__.nd rfl (Or.inl rfl)) pgs_nil)))) (fun _ _ _ _ _ => m_yes) (fun _ _ _ _ _ => (m_var (pv 5)))) m_nil))))))))
theorem ok_all (Z : Kt K mg ad) (SX : SxAll P K ad) (Dr : FnOk P w K mg base CX0 1 ad.f_ldraw ad.fd_ldraw ["_law_deal", "_law_many"] (spF (gd K ad) 2 drawF)) : ∀ n, AllOk P w K mg base ad n
  | 0 => ⟨fn_stuckF (G := gd K ad), fn_stuckF (G := gd K ad), fn_stuckF (G := gd K ad), fn_stuckF (G := gd K ad), fn_stuckF (G := gd K ad), fn_stuckF (G := gd K ad), fn_stuckF (G := gd K ad), fn_stuckF (G := gd K ad), fn_stuckI (G := gd K ad), fn_stuckF (G := gd K ad), fn_stuckF (G := gd K ad), fn_stuckF (G := gd K ad), fn_stuckI (G := gd K ad), fn_stuckF (G := gd K ad), fn_stuckF (G := gd K ad), fn_stuckF (G := gd K ad), fn_stuckF (G := gd K ad), fn_stuckF (G := gd K ad), fn_stuckF (G := gd K ad), fn_stuckF (G := gd K ad), fn_stuckF (G := gd K ad), fn_stuckIX (G := gd K ad)⟩
  | n + 1 => have A := ok_all Z SX Dr n
    ⟨(by rw [t_is_integer]; exact ok_is_integer Z Dr A), (by rw [t_is_sequence]; exact ok_is_sequence Z Dr A), (by rw [t_is_name]; exact ok_is_name Z Dr A), (by rw [t_ascending]; exact ok_ascending Z Dr A), (by rw [t_names_of]; exact ok_names_of Z Dr A), (by rw [t_is_kind]; exact ok_is_kind Z Dr A), (by rw [t_is_part]; exact ok_is_part Z Dr A), (by rw [t_added]; exact ok_added Z Dr A), (by rw [t_Crowd___init__]; exact ok_Crowd___init__ Z Dr A), (by rw [t_Crowd___eq__]; exact ok_Crowd___eq__ Z Dr A), (by rw [t_Crowd___str__]; exact ok_Crowd___str__ Z Dr A), (by rw [t_script_of]; exact ok_script_of Z Dr A), (by rw [t_Group___init__]; exact ok_Group___init__ Z Dr A), (by rw [t_Group_named]; exact ok_Group_named Z Dr A), (by rw [t_Group_every]; exact ok_Group_every Z Dr A), (by rw [t_lpick]; exact ok_lpick Z Dr A), (by rw [t_lshuffled]; exact ok_lshuffled Z Dr A), (by rw [t_lnames]; exact ok_lnames Z Dr A), (by rw [t_lsome_kind]; exact ok_lsome_kind Z Dr A), (by rw [t_lparts]; exact ok_lparts Z Dr A), (by rw [t_lrefused]; exact ok_lrefused Z Dr A), (by rw [t_X_mk_Crowd]; exact ok_X_mk_Crowd Z SX Dr A)⟩
end
end Mc
namespace Mc
open PySem PySem.Spec PyProof.Rows L2 Evl
section
variable {P : Program} {w : World} {K : PySem.W.Frag} {mg : Str → Option Value} {base : Heap} {ad : Ad}
theorem ok_draw (Z : Kt K mg ad) : FnOk P w K mg base CX0 1 ad.f_ldraw ad.fd_ldraw ["_law_deal", "_law_many"] (spF (gd K ad) 2 drawF) := (ok_ldraw Z.F_ldraw Z.m_int).imp fun vs H Q E h => draw_spF (G := gd K ad) rfl h
theorem ok_law (Z : Kt K mg ad) (SX : SxAll P K ad) (n : Nat) (hl : LawOk n) : FnG P w K mg base (3 * n + 3) ad.f_law ad.fd_law ["_law_script"] (spLaw K) := by
  have okG := gd_ok K ad
  have Dr := ok_draw (P := P) (w := w) (base := base) Z
  have A := ok_all Z SX Dr n
  have S : FnOk P w K mg base CX0 1 ad.f_lsource ad.fd_lsource ["_law_script", "_law_base"] (spSource K) := ok_lsource Z.F_lsource Z.m_int Z.m_abs Z.m_enumerate
  refine fun_okG (k := 3 * n + 2) Z.F_law sc_law (fun vs H Q E h => ?_) (fun cdv A0 outer s H vs Q E hgd hr h => ?_)
  · obtain ⟨p, ns, rfl, _⟩ := h
    rfl
  obtain ⟨p, ns, rfl, hp, hn, q⟩ := h
  have dv : PSs (cxOf CX0 P w K mg base N_law "law" (defScope s_law) ad.f_law cdv A0 outer s H E).nox ((defBody s_law).drop 1) (tS (gd K ad) noW (b_law (tab n))) :=
    (m_scons (m_for okG PassesOwn.never rfl (m_range1 okG rfl Z.m_range (m_cons m_int m_nil)) (pg_name (i := 2) sc_law.nd rfl (Or.inl rfl)) g_name (m_scons (m_set (i := 3) (m_F okG (pe_call A.lnames (hr.mono (by omega)) (by rfl) Z.g_lnames Z.k_lnames Z.b_lnames .nil pass0 (m_cons (m_var (pv 1)) (m_cons (m_bin okG or_add wok_add m_int (m_F okG (pe_call Dr (hr.mono (by omega)) (by rfl) Z.g_ldraw Z.k_ldraw Z.b_ldraw .nil pass0 (m_cons (m_var (pv 1)) (m_cons m_int m_nil))) (fun _ _ => rfl))) m_nil))) (fun _ _ => rfl)) sc_law.nd rfl (Or.inl rfl))
    (m_scons (m_set (i := 4) (m_F okG (pe_call A.lparts (hr.mono (by omega)) (by rfl) Z.g_lparts Z.k_lparts Z.b_lparts .nil pass0 (m_cons (m_var (pv 1)) (m_cons (m_var (pv 3)) (m_cons m_int m_nil)))) (fun _ _ => rfl)) sc_law.nd rfl (Or.inl rfl))
    (m_scons (m_set (i := 5) (m_ix okG (m_var (pv 3)) m_int (fun _ _ => rfl)) sc_law.nd rfl (Or.inl rfl))
    (m_scons (m_set (i := 6) (m_lst okG (m_cons m_non (m_cons (m_tup okG m_nil) (m_cons (m_tup okG (m_cons (m_tup okG (m_cons (m_var (pv 5)) m_nil)) m_nil)) (m_cons (m_tup okG (m_cons (m_tup okG (m_cons (m_var (pv 5)) m_nil)) (m_cons m_int (m_cons m_int m_nil)))) (m_cons (m_lst okG (m_cons (m_tup okG (m_cons (m_var (pv 5)) m_nil)) (m_cons m_int m_nil))) (m_cons (m_tup okG (m_cons (m_tup okG (m_cons (m_var (pv 5)) (m_cons (m_var (pv 5)) m_nil))) (m_cons m_int m_nil))) (m_cons (m_tup okG (m_cons (m_var (pv 5)) (m_cons m_int m_nil))) (m_cons (m_tup okG (m_cons (m_tup okG (m_cons m_str m_nil)) (m_cons m_int m_nil))) (m_cons (m_tup okG (m_cons (m_tup okG (m_cons (m_var (pv 5)) (m_cons m_str m_nil))) (m_cons m_int m_nil))) m_nil)))))))))) sc_law.nd rfl (Or.inl rfl))
    (m_scons (m_set (i := 6) (m_bin okG or_add wok_add (m_var (pv 6)) (m_lst okG (m_cons (m_tup okG (m_cons (m_tup okG (m_cons (m_var (pv 5)) m_nil)) (m_cons m_bl m_nil))) (m_cons (m_tup okG (m_cons (m_tup okG (m_cons (m_var (pv 5)) m_nil)) (m_cons (m_bin okG op_sub wok_sub m_int m_int) m_nil))) (m_cons (m_tup okG (m_cons (m_tup okG (m_cons (m_var (pv 5)) m_nil)) (m_cons m_str m_nil))) (m_cons (m_tup okG (m_cons (m_tup okG (m_cons m_str m_nil)) (m_cons m_int m_nil))) (m_cons (m_tup okG (m_cons (m_tup okG (m_cons m_int m_nil)) (m_cons m_int m_nil))) (m_cons (m_tup okG (m_cons m_non (m_cons m_int m_nil))) (m_cons (m_tup okG (m_cons (m_tup okG (m_cons (m_var (pv 5)) m_nil)) (m_cons m_non m_nil))) (m_cons m_str (m_cons m_int m_nil))))))))))) sc_law.nd rfl (Or.inl rfl))
    (m_scons (m_set (i := 6) (m_bin okG or_add wok_add (m_var (pv 6)) (m_lst okG (m_cons (m_tup okG (m_cons (m_tup okG (m_cons (m_cm okG (c := 5) (by decide) (ClX.pe_cmeth (pe_glob (by rfl) Z.g_Group rfl) Z.cr_Group Z.cm_Group_named (fnr_of A.Group_named Z.b_Group_named) (hr.mono (by omega)) pass0 (m_cons (m_var (pv 5)) m_nil))) m_nil)) (m_cons m_int m_nil))) (m_cons (m_tup okG (m_cons (m_tup okG (m_cons (m_var (pv 5)) m_nil)) (m_cons (m_bin okG op_sub wok_sub m_int (m_bin okG op_pow wok_pow m_int m_int)) m_nil))) m_nil)))) sc_law.nd rfl (Or.inl rfl))
    (m_scons (m_set (i := 7) (m_F okG (pe_call Dr (hr.mono (by omega)) (by rfl) Z.g_ldraw Z.k_ldraw Z.b_ldraw .nil pass0 (m_cons (m_var (pv 1)) (m_cons (m_bin okG or_add wok_add (m_callB okG cr_len wok_len (by rfl) Z.m_len (by decide +kernel) (m_cons (m_var (pv 4)) m_nil)) m_int) m_nil))) (fun _ _ => rfl)) sc_law.nd rfl (Or.inl rfl))
    (m_scons (m_set (i := 8) (m_bin okG or_add wok_add (m_bin okG or_add wok_add (m_sl okG (m_var (pv 4)) m_oNone (m_oSome (m_var (pv 7)))) (m_lst okG (m_cons (m_F okG (pe_call A.lpick (hr.mono (by omega)) (by rfl) Z.g_lpick Z.k_lpick Z.b_lpick .nil pass0 (m_cons (m_var (pv 1)) (m_cons (m_var (pv 6)) m_nil))) (fun _ _ => rfl)) m_nil))) (m_sl okG (m_var (pv 4)) (m_oSome (m_var (pv 7))) m_oNone)) sc_law.nd rfl (Or.inl rfl))
    (m_scons (m_ifS (PW.pt (m_orT (m_cmpOT (OpR.or (op_neI Z.ne_Crowd Z.mo_Crowd Z.fi_Crowd_Crowd___eq__ Z.fn_Crowd___eq__ (fnr_of A.Crowd___eq__ Z.b_Crowd___eq__) (hr.mono (by omega)) pass0) (or_ne hr.units)) (TOk.or2 (tok_ne (nc_Crowd Z)) (tok_B okG wok_ne)) (m_F okG (pe_call A.lrefused (hr.mono (by omega)) (by rfl) Z.g_lrefused Z.k_lrefused Z.b_lrefused .nil pass0 (m_cons (m_var (pv 8)) m_nil)) (fun _ _ => rfl)) (m_var (pv 7)) (nomark _)) (m_orT (m_cmpOT (OpR.or (op_neI Z.ne_Crowd Z.mo_Crowd Z.fi_Crowd_Crowd___eq__ Z.fn_Crowd___eq__ (fnr_of A.Crowd___eq__ Z.b_Crowd___eq__) (hr.mono (by omega)) pass0) (or_ne hr.units)) (TOk.or2 (tok_ne (nc_Crowd Z)) (tok_B okG wok_ne)) (m_F okG (pe_call A.lrefused (hr.mono (by omega)) (by rfl) Z.g_lrefused Z.k_lrefused Z.b_lrefused .nil pass0 (m_cons (m_callT okG call_tupN wok_tuple (by rfl) Z.m_tuple (by decide +kernel) (m_cons (m_bin okG or_add wok_add (m_var (pv 8)) (m_lst okG (m_cons m_non m_nil))) m_nil)) m_nil)) (fun _ _ => rfl)) (m_var (pv 7)) (nomark _)) (m_or1 (m_cmpOT (OpR.or (op_neI Z.ne_Crowd Z.mo_Crowd Z.fi_Crowd_Crowd___eq__ Z.fn_Crowd___eq__ (fnr_of A.Crowd___eq__ Z.b_Crowd___eq__) (hr.mono (by omega)) pass0) (or_ne hr.units)) (TOk.or2 (tok_ne (nc_Crowd Z)) (tok_B okG wok_ne)) (m_F okG (pe_call A.lrefused (hr.mono (by omega)) (by rfl) Z.g_lrefused Z.k_lrefused Z.b_lrefused .nil pass0 (m_cons (m_var (pv 4)) m_nil)) (fun _ _ => rfl)) m_str (nomark _)))))) (m_sone (m_ret m_bl)) m_snil)
    (m_sone (m_ifS (m_cmpOT (OpR.or (op_neI Z.ne_Crowd Z.mo_Crowd Z.fi_Crowd_Crowd___eq__ Z.fn_Crowd___eq__ (fnr_of A.Crowd___eq__ Z.b_Crowd___eq__) (hr.mono (by omega)) pass0) (or_ne hr.units)) (TOk.or2 (tok_ne (nc_Crowd Z)) (tok_B okG wok_ne)) (m_F okG (pe_call A.lrefused (hr.mono (by omega)) (by rfl) Z.g_lrefused Z.k_lrefused Z.b_lrefused .nil pass0 (m_cons (m_F okG (pe_call A.lpick (hr.mono (by omega)) (by rfl) Z.g_lpick Z.k_lpick Z.b_lpick .nil pass0 (m_cons (m_var (pv 1)) (m_cons (m_lst okG (m_cons m_non (m_cons m_str (m_cons m_int (m_cons m_bl (m_cons (m_make0 okG (c := 3) (by decide) (pe_make0 Z.Mk_Crowd A.mk_Crowd (hr.mono (by omega)) (by rfl) Z.g_Crowd Z.b_Crowd___init__1 Z.dv_Crowd___init__1 pass0) (fun _ Hc => ⟨_, _, rfl, Z.t0_Crowd___init__ Hc, rfl⟩)) (m_cons (m_cm0 okG (c := 5) (by decide) (pe_cmeth0 (pe_glob (by rfl) Z.g_Group rfl) Z.cr_Group Z.cm_Group_every (fnr_of A.Group_every Z.b_Group_every) (hr.mono (by omega)) pass0)) (m_cons m_str m_nil)))))))) m_nil))) (fun _ _ => rfl)) m_nil)) (fun _ _ => rfl)) m_int (nomark _)) (m_sone (m_ret m_bl)) m_snil))))))))))))
    (m_sone (m_ret (m_and (m_cmpO (OpR.or (op_cmpI (fun _ _ => rfl) Z.fi_Crowd_Crowd___eq__ Z.fn_Crowd___eq__ (fnr_of A.Crowd___eq__ Z.b_Crowd___eq__) (hr.mono (by omega)) pass0) (or_eq hr.units)) (TOk.or2 (tok_cmp (nc_Crowd Z)) (tok_B okG wok_eq)) (m_F okG (pe_call A.lrefused (hr.mono (by omega)) (by rfl) Z.g_lrefused Z.k_lrefused Z.b_lrefused .nil pass0 (m_cons (m_tup okG m_nil) m_nil)) (fun _ _ => rfl)) m_str (nomark _)) (m_and (m_cmpO (OpR.or (op_cmpI (fun _ _ => rfl) Z.fi_Crowd_Crowd___eq__ Z.fn_Crowd___eq__ (fnr_of A.Crowd___eq__ Z.b_Crowd___eq__) (hr.mono (by omega)) pass0) (or_eq hr.units)) (TOk.or2 (tok_cmp (nc_Crowd Z)) (tok_B okG wok_eq)) (m_F okG (pe_call A.lrefused (hr.mono (by omega)) (by rfl) Z.g_lrefused Z.k_lrefused Z.b_lrefused .nil pass0 (m_cons (m_lst okG (m_cons m_non m_nil)) m_nil)) (fun _ _ => rfl)) m_int (nomark _)) (m_one (m_cmpO (OpR.or (op_cmpI (fun _ _ => rfl) Z.fi_Crowd_Crowd___eq__ Z.fn_Crowd___eq__ (fnr_of A.Crowd___eq__ Z.b_Crowd___eq__) (hr.mono (by omega)) pass0) (or_eq hr.units)) (TOk.or2 (tok_cmp (nc_Crowd Z)) (tok_B okG wok_eq)) (m_F okG (pe_call A.lrefused (hr.mono (by omega)) (by rfl) Z.g_lrefused Z.k_lrefused Z.b_lrefused .nil pass0 (m_cons (m_lst okG (m_cons (m_tup okG (m_cons (m_tup okG m_nil) (m_cons m_int m_nil))) m_nil)) m_nil)) (fun _ _ => rfl)) m_str (nomark _))))))))
  refine ⟨_, pss_cons (ps_set (i := 1) sc_law.nd rfl (Or.inl rfl) (pe_call S (hr.mono (by omega)) (by rfl) Z.g_lsource Z.k_lsource Z.b_lsource .nil pass0 (pa_cons (pv 0) (pa_cons pe_int pa_nil)))) dv, ?_⟩
  refine ⟨.ref p, rfl, p, ns, 0, rfl, hp, hn, by decide, by decide, fun a g H' ex ha hg hD => ?_⟩
  exact law_start (G := gd K ad) rfl hD (show StartE a _ [some (.ref p), some (.ref a), none, none, none, none, none, none, none] from (.no (.pt (.no (.no (.no (.no (.no (.no (.no .nil)))))))))) hl.ok q
end
end Mc
namespace Mc
open PySem PySem.Spec PyProof.Rows L2 Evl
def fa0 : List (PySem.W.Frag → Bool) := [fun K => decide (PySem.W.nsIn K mainGlobals "Group" = some (some (.ref (He.ga K "Group")))),
  fun K => decide (PySem.W.nsIn K mainGlobals "Crowd" = some (some (.ref (He.ga K "Crowd")))),
  fun K => decide (PySem.W.nsIn K mainGlobals "InvalidCrowd" = some (some (.ref (He.ga K "InvalidCrowd")))),
  fun K => decide (PySem.W.nsIn K mainGlobals "CrowdError" = some (some (.ref (He.ga K "CrowdError")))),
  fun K => decide (PySem.W.nsIn K mainGlobals "InvalidText" = some (some (.ref (He.ga K "InvalidText")))),
  fun K => decide (PySem.W.findIn K (.ref (He.ga K "InvalidCrowd")) "__init__" = some (some (.ref (He.ma K (He.ga K "InvalidCrowd") "__init__")))),
  fun K => decide (PySem.W.nsIn K mainGlobals "range" = some none),
  fun K => PySem.W.readsIn K (He.ga K "Group") (.type "type"),
  fun K => decide (PySem.W.specialIn K (.ref (He.ga K "Group")) "__getattribute__" = some (some (.builtin "type.__getattribute__"))),
  fun K => cmB_h K (He.ga K "Group") "named",
  fun K => recB_h K (cmA_h K (He.ga K "Group") "named"),
  fun K => PySem.W.fnIn K (recA_h K (cmA_h K (He.ga K "Group") "named")),
  fun K => decide (PySem.W.nsIn K mainGlobals "len" = some none),
  fun K => decide (PySem.W.findIn K (.ref (He.ga K "Crowd")) "__eq__" = some (some (.ref (He.ma K (He.ga K "Crowd") "__eq__")))),
  fun K => decide (PySem.W.nsIn K mainGlobals "tuple" = some none),
  fun K => cmB_h K (He.ga K "Group") "every",
  fun K => recB_h K (cmA_h K (He.ga K "Group") "every"),
  fun K => PySem.W.fnIn K (recA_h K (cmA_h K (He.ga K "Group") "every")),
  fun K => PySem.W.makesIn K (He.ga K "Crowd"),
  fun K => decide (PySem.W.findIn K (.ref (He.ga K "Crowd")) "__init__" = some (some (.ref (He.ma K (He.ga K "Crowd") "__init__")))),
  fun K => PySem.W.isFn K (.ref (He.ma K (He.ga K "Crowd") "__init__")),
  fun K => PySem.W.keepIn K (.ref (He.ga K "Crowd")),
  fun K => decide (PySem.W.nsIn K mainGlobals "isinstance" = some none),
  fun K => decide (PySem.W.nsIn K mainGlobals "enumerate" = some none),
  fun K => decide (PySem.W.findIn K (.ref (He.ga K "Crowd")) "__str__" = some (some (.ref (He.ma K (He.ga K "Crowd") "__str__")))),
  fun K => decide (PySem.W.nsIn K mainGlobals "str" = some none),
  fun K => decide (PySem.W.nsIn K mainGlobals "sum" = some none),
  fun K => PySem.W.makesIn K (He.ga K "Group"),
  fun K => decide (PySem.W.findIn K (.ref (He.ga K "Group")) "__init__" = some (some (.ref (He.ma K (He.ga K "Group") "__init__")))),
  fun K => PySem.W.isFn K (.ref (He.ma K (He.ga K "Group") "__init__"))]
def fa1 : List (PySem.W.Frag → Bool) := [fun K => PySem.W.keepIn K (.ref (He.ga K "Group")),
  fun K => decide (PySem.W.nsIn K mainGlobals "int" = some none),
  fun K => decide (PySem.W.findIn K (.ref (He.ga K "InvalidCrowd")) "__getattribute__" = some (some (.builtin "BaseException.__getattribute__"))),
  fun K => decide (PySem.W.findIn K (.ref (He.ga K "InvalidCrowd")) "__getattr__" = some none),
  fun K => decide (PySem.W.subIn K (.ref (He.ga K "InvalidCrowd")) (.type "BaseException") = some true),
  fun K => PySem.W.hasDictIn K (He.ga K "InvalidCrowd"),
  fun K => decide (PySem.W.findIn K (.ref (He.ga K "InvalidCrowd")) "at" = some none),
  fun K => (PySem.W.clsIn K (He.ga K "InvalidCrowd")).isSome,
  fun K => decide (PySem.W.findIn K (.ref (He.ga K "InvalidCrowd")) "__class__" = some (some (.builtin "object.__class__"))),
  fun K => decide (PySem.W.specialIn K (.builtin "object.__class__") "__get__" = some (some (.builtin "getset_descriptor.__get__"))),
  fun K => decide (PySem.W.takesIn K (.builtin "object.__class__") = some true),
  fun K => decide (PySem.W.mroIn K (He.ga K "InvalidCrowd") (.type "object") = some true),
  fun K => decide (PySem.W.kitOne K (.ref (He.ga K "InvalidCrowd")) (.ref (He.ga K "CrowdError")) = some true),
  fun K => decide (PySem.W.kitOne K (.ref (He.ga K "InvalidCrowd")) (.ref (He.ga K "InvalidText")) = some false),
  fun K => decide (PySem.W.nsIn K mainGlobals "sorted" = some none),
  fun K => decide (PySem.W.nsIn K mainGlobals "list" = some none),
  fun K => decide (PySem.W.nsIn K mainGlobals "BARRED" = some (some (.ref (He.ga K "BARRED")))),
  fun K => tupB_h K (He.ga K "BARRED") [.str "all", .str "none", .str "at", .str "if", .str "else", .str "end", .str "say", .str "stop"],
  fun K => intB_h K "MOST_LETTERS" 4,
  fun K => strB_h K "LETTERS" "abcdefghijklmnopqrstuvwxyz",
  fun K => decide (PySem.W.nsIn K mainGlobals "all" = some none),
  fun K => decide (PySem.W.nsIn K mainGlobals "bool" = some none),
  fun K => decide (PySem.W.nsIn K mainGlobals "super" = some none),
  fun K => PySem.W.plainGet K (He.ga K "Group") Str.empty,
  fun K => PySem.W.hasDictIn K (He.ga K "Group"),
  fun K => PySem.W.plainOver K (He.ga K "Group"),
  fun K => decide (PySem.W.findIn K (.ref (He.ga K "Group")) "__setattr__" = some (some (.builtin "object.__setattr__"))),
  fun K => decide (PySem.W.findIn K (.ref (He.ga K "Group")) "__class__" = some (some (.builtin "object.__class__"))),
  fun K => decide (PySem.W.specialIn K (.builtin "object.__class__") "__get__" = some (some (.builtin "getset_descriptor.__get__"))),
  fun K => decide (PySem.W.takesIn K (.builtin "object.__class__") = some true)]
def fa2 : List (PySem.W.Frag → Bool) := [fun K => decide (PySem.W.mroIn K (He.ga K "Group") (.type "object") = some true),
  fun K => decide (PySem.W.kitOne K (.ref (He.ga K "Group")) (.type "int") = some false),
  fun K => decide (PySem.W.kitOne K (.ref (He.ga K "Group")) (.type "bool") = some false),
  fun K => decide (PySem.W.kitOne K (.ref (He.ga K "Group")) (.type "str") = some false),
  fun K => decide (PySem.W.kitOne K (.ref (He.ga K "Group")) (.type "list") = some false),
  fun K => decide (PySem.W.kitOne K (.ref (He.ga K "Group")) (.type "tuple") = some false),
  fun K => PySem.W.plainGet K (He.ga K "Crowd") Str.empty,
  fun K => PySem.W.hasDictIn K (He.ga K "Crowd"),
  fun K => PySem.W.plainOver K (He.ga K "Crowd"),
  fun K => decide (PySem.W.findIn K (.ref (He.ga K "Crowd")) "__setattr__" = some (some (.builtin "object.__setattr__"))),
  fun K => decide (PySem.W.findIn K (.ref (He.ga K "Crowd")) "__class__" = some (some (.builtin "object.__class__"))),
  fun K => decide (PySem.W.specialIn K (.builtin "object.__class__") "__get__" = some (some (.builtin "getset_descriptor.__get__"))),
  fun K => decide (PySem.W.takesIn K (.builtin "object.__class__") = some true),
  fun K => decide (PySem.W.mroIn K (He.ga K "Crowd") (.type "object") = some true),
  fun K => decide (PySem.W.kitOne K (.ref (He.ga K "Crowd")) (.type "int") = some false),
  fun K => decide (PySem.W.kitOne K (.ref (He.ga K "Crowd")) (.type "bool") = some false),
  fun K => decide (PySem.W.kitOne K (.ref (He.ga K "Crowd")) (.type "str") = some false),
  fun K => decide (PySem.W.kitOne K (.ref (He.ga K "Crowd")) (.type "list") = some false),
  fun K => decide (PySem.W.kitOne K (.ref (He.ga K "Crowd")) (.type "tuple") = some false),
  fun K => decide (PySem.W.findIn K (.ref (He.ga K "Group")) "names" = some none),
  fun K => decide (PySem.W.findIn K (.ref (He.ga K "Crowd")) "names" = some none),
  fun K => decide (PySem.W.findIn K (.ref (He.ga K "Group")) "number" = some none),
  fun K => decide (PySem.W.findIn K (.ref (He.ga K "Crowd")) "number" = some none),
  fun K => decide (PySem.W.findIn K (.ref (He.ga K "Group")) "parts" = some none),
  fun K => decide (PySem.W.findIn K (.ref (He.ga K "Crowd")) "parts" = some none),
  fun K => decide (PySem.W.findIn K (.ref (He.ga K "Group")) "script" = some none),
  fun K => decide (PySem.W.findIn K (.ref (He.ga K "Crowd")) "script" = some none),
  fun K => decide (PySem.W.findIn K (.ref (He.ga K "Group")) "sign" = some none),
  fun K => decide (PySem.W.findIn K (.ref (He.ga K "Crowd")) "sign" = some none),
  fun K => decide (PySem.W.findIn K (.ref (He.ga K "Group")) "size" = some none)]
def fa3 : List (PySem.W.Frag → Bool) := [fun K => decide (PySem.W.findIn K (.ref (He.ga K "Crowd")) "size" = some none),
  fun K => decide (PySem.W.findIn K (.ref (He.ga K "Group")) "word" = some none),
  fun K => decide (PySem.W.findIn K (.ref (He.ga K "Crowd")) "word" = some none),
  fun K => decide (PySem.W.kitOne K (.ref (He.ga K "Group")) (.ref (He.ga K "Crowd")) = some false),
  fun K => decide (PySem.W.kitOne K (.ref (He.ga K "Crowd")) (.ref (He.ga K "Crowd")) = some true),
  fun K => decide (PySem.W.kitOne K (.type "NoneType") (.ref (He.ga K "Crowd")) = some false),
  fun K => decide (PySem.W.kitOne K (.type "bool") (.ref (He.ga K "Crowd")) = some false),
  fun K => decide (PySem.W.kitOne K (.type "int") (.ref (He.ga K "Crowd")) = some false),
  fun K => decide (PySem.W.kitOne K (.type "str") (.ref (He.ga K "Crowd")) = some false),
  fun K => decide (PySem.W.kitOne K (.type "list") (.ref (He.ga K "Crowd")) = some false),
  fun K => decide (PySem.W.kitOne K (.type "tuple") (.ref (He.ga K "Crowd")) = some false),
  fun K => decide (PySem.W.nsIn K mainGlobals "abs" = some none),
  fun K => decide (PySem.W.nsIn K mainGlobals "is_integer" = some (some (.ref (He.ga K "is_integer")))),
  fun K => fnB_h K (He.ga K "is_integer") "is_integer" [],
  fun K => PySem.W.keepIn K (.ref (He.ga K "is_integer")),
  fun K => decide (PySem.W.nsIn K mainGlobals "is_sequence" = some (some (.ref (He.ga K "is_sequence")))),
  fun K => fnB_h K (He.ga K "is_sequence") "is_sequence" [],
  fun K => PySem.W.keepIn K (.ref (He.ga K "is_sequence")),
  fun K => decide (PySem.W.nsIn K mainGlobals "is_name" = some (some (.ref (He.ga K "is_name")))),
  fun K => fnB_h K (He.ga K "is_name") "is_name" [],
  fun K => PySem.W.keepIn K (.ref (He.ga K "is_name")),
  fun K => decide (PySem.W.nsIn K mainGlobals "ascending" = some (some (.ref (He.ga K "ascending")))),
  fun K => fnB_h K (He.ga K "ascending") "ascending" [],
  fun K => PySem.W.keepIn K (.ref (He.ga K "ascending")),
  fun K => decide (PySem.W.nsIn K mainGlobals "names_of" = some (some (.ref (He.ga K "names_of")))),
  fun K => fnB_h K (He.ga K "names_of") "names_of" [],
  fun K => PySem.W.keepIn K (.ref (He.ga K "names_of")),
  fun K => decide (PySem.W.nsIn K mainGlobals "is_kind" = some (some (.ref (He.ga K "is_kind")))),
  fun K => fnB_h K (He.ga K "is_kind") "is_kind" [],
  fun K => PySem.W.keepIn K (.ref (He.ga K "is_kind"))]
def fa4 : List (PySem.W.Frag → Bool) := [fun K => decide (PySem.W.nsIn K mainGlobals "is_part" = some (some (.ref (He.ga K "is_part")))),
  fun K => fnB_h K (He.ga K "is_part") "is_part" [],
  fun K => PySem.W.keepIn K (.ref (He.ga K "is_part")),
  fun K => decide (PySem.W.nsIn K mainGlobals "added" = some (some (.ref (He.ga K "added")))),
  fun K => fnB_h K (He.ga K "added") "added" [],
  fun K => PySem.W.keepIn K (.ref (He.ga K "added")),
  fun K => fnB_h K (He.ma K (He.ga K "Crowd") "__init__") "Crowd.__init__" [.ref (dflX K (He.ma K (He.ga K "Crowd") "__init__") 0)],
  fun K => PySem.W.keepIn K (.ref (He.ma K (He.ga K "Crowd") "__init__")),
  fun K => tupO_h K (dflX K (He.ma K (He.ga K "Crowd") "__init__") 0),
  fun K => fnB_h K (He.ma K (He.ga K "Crowd") "__eq__") "Crowd.__eq__" [],
  fun K => fnB_h K (He.ma K (He.ga K "Crowd") "__str__") "Crowd.__str__" [],
  fun K => decide (PySem.W.nsIn K mainGlobals "script_of" = some (some (.ref (He.ga K "script_of")))),
  fun K => fnB_h K (He.ga K "script_of") "script_of" [],
  fun K => PySem.W.keepIn K (.ref (He.ga K "script_of")),
  fun K => fnB_h K (He.ma K (He.ga K "Group") "__init__") "Group.__init__" [.str "", .int 0],
  fun K => PySem.W.keepIn K (.ref (He.ma K (He.ga K "Group") "__init__")),
  fun K => fnB_h K (recA_h K (cmA_h K (He.ga K "Group") "named")) "Group.named" [],
  fun K => fnB_h K (recA_h K (cmA_h K (He.ga K "Group") "every")) "Group.every" [],
  fun K => decide (PySem.W.nsIn K mainGlobals "_law_pick" = some (some (.ref (He.ga K "_law_pick")))),
  fun K => fnB_h K (He.ga K "_law_pick") "_law_pick" [],
  fun K => PySem.W.keepIn K (.ref (He.ga K "_law_pick")),
  fun K => decide (PySem.W.nsIn K mainGlobals "_law_shuffled" = some (some (.ref (He.ga K "_law_shuffled")))),
  fun K => fnB_h K (He.ga K "_law_shuffled") "_law_shuffled" [],
  fun K => PySem.W.keepIn K (.ref (He.ga K "_law_shuffled")),
  fun K => decide (PySem.W.nsIn K mainGlobals "_law_names" = some (some (.ref (He.ga K "_law_names")))),
  fun K => fnB_h K (He.ga K "_law_names") "_law_names" [],
  fun K => PySem.W.keepIn K (.ref (He.ga K "_law_names")),
  fun K => decide (PySem.W.nsIn K mainGlobals "_law_some_kind" = some (some (.ref (He.ga K "_law_some_kind")))),
  fun K => fnB_h K (He.ga K "_law_some_kind") "_law_some_kind" [],
  fun K => PySem.W.keepIn K (.ref (He.ga K "_law_some_kind"))]
def fa5 : List (PySem.W.Frag → Bool) := [fun K => decide (PySem.W.nsIn K mainGlobals "_law_parts" = some (some (.ref (He.ga K "_law_parts")))),
  fun K => fnB_h K (He.ga K "_law_parts") "_law_parts" [],
  fun K => PySem.W.keepIn K (.ref (He.ga K "_law_parts")),
  fun K => decide (PySem.W.nsIn K mainGlobals "_law_refused" = some (some (.ref (He.ga K "_law_refused")))),
  fun K => fnB_h K (He.ga K "_law_refused") "_law_refused" [],
  fun K => PySem.W.keepIn K (.ref (He.ga K "_law_refused")),
  fun K => decide (PySem.W.nsIn K mainGlobals "law" = some (some (.ref (He.ga K "law")))),
  fun K => fnB_h K (He.ga K "law") "law" [],
  fun K => PySem.W.keepIn K (.ref (He.ga K "law")),
  fun K => decide (PySem.W.nsIn K mainGlobals "_law_source" = some (some (.ref (He.ga K "_law_source")))),
  fun K => fnB_h K (He.ga K "_law_source") "_law_source" [],
  fun K => PySem.W.keepIn K (.ref (He.ga K "_law_source")),
  fun K => decide (PySem.W.nsIn K mainGlobals "_law_draw" = some (some (.ref (He.ga K "_law_draw")))),
  fun K => fnB_h K (He.ga K "_law_draw") "_law_draw" [],
  fun K => PySem.W.keepIn K (.ref (He.ga K "_law_draw")),
  fun K => PySem.W.isFn K (.ref (He.ma K (He.ga K "Crowd") "__eq__")),
  fun K => decide (PySem.W.findIn K (.ref (He.ga K "Crowd")) "__ne__" = some (some (.builtin "object.__ne__"))),
  fun K => decide (PySem.W.mroIn K (He.ga K "Crowd") (.type "object") = some true),
  fun K => PySem.W.isFn K (.ref (He.ma K (He.ga K "Crowd") "__str__")),
  fun K => decide (PySem.W.exmOne K (.ref (He.ga K "InvalidCrowd")) (.ref (He.ga K "InvalidCrowd")) = some true),
  fun K => PySem.W.notFirst K (He.ga K "Crowd") (.ref (He.ga K "Group")),
  fun K => PySem.W.notFirst K (He.ga K "Crowd") (.ref (He.ga K "Crowd")),
  fun K => PySem.W.notFirst K (He.ga K "Crowd") (.type "NoneType"),
  fun K => PySem.W.notFirst K (He.ga K "Crowd") (.type "bool"),
  fun K => PySem.W.notFirst K (He.ga K "Crowd") (.type "int"),
  fun K => PySem.W.notFirst K (He.ga K "Crowd") (.type "str"),
  fun K => PySem.W.notFirst K (He.ga K "Crowd") (.type "list"),
  fun K => PySem.W.notFirst K (He.ga K "Crowd") (.type "tuple"),
  fun K => oexB K (He.ga K "InvalidCrowd"),
  fun K => decide (PySem.W.findIn K (.ref (He.ga K "InvalidCrowd")) "__setattr__" = some (some (.builtin "object.__setattr__")))]
def fa6 : List (PySem.W.Frag → Bool) := [fun K => decide (PySem.W.subIn K (.ref (He.ga K "InvalidCrowd")) (.type "BaseException") = some true),
  fun K => decide (PySem.W.typeIn K (.ref (He.ga K "InvalidCrowd")) = some (.type "type")),
  fun K => PySem.W.keepIn K (.ref (He.ga K "InvalidCrowd")),
  fun K => decide (PySem.W.findIn K (.ref (He.ga K "InvalidCrowd")) "at" = some none),
  fun K => decide (PySem.W.findIn K (.ref (He.ga K "InvalidCrowd")) "__init__" = some (some (.ref (He.ma K (He.ga K "InvalidCrowd") "__init__")))),
  fun K => decide (PySem.W.typeIn K (.ref (He.ma K (He.ga K "InvalidCrowd") "__init__")) = some (.type "function")),
  fun K => decide (PySem.W.ks_superIn K (He.ga K "InvalidCrowd") (He.ga K "InvalidCrowd") "__init__" = some (some (.builtin "ValueError.__init__"))),
  fun K => decide (PySem.W.nsIn K cStatics "thirdparty.any" = some none),
  fun K => decide (PySem.W.mroIn K (He.ga K "InvalidCrowd") (.ref (He.ga K "InvalidCrowd")) = some true),
  fun K => decide (PySem.W.subIn K (.ref (He.ga K "InvalidCrowd")) (.type "ValueError") = some true),
  fun K => supB (PySem.Challenge.rw_mostcrowds_k11_crowds_refused).prog K (He.ma K (He.ga K "InvalidCrowd") "__init__") (He.ga K "InvalidCrowd") "InvalidCrowd.__init__"]
def fn0 : List (PySem.W.Frag → Addr) := [fun K => He.ga K "is_integer", fun K => He.ga K "is_sequence", fun K => He.ga K "is_name", fun K => He.ga K "ascending", fun K => He.ga K "names_of", fun K => He.ga K "is_kind", fun K => He.ga K "is_part", fun K => He.ga K "added", fun K => He.ma K (He.ga K "Crowd") "__init__", fun K => He.ma K (He.ga K "Crowd") "__eq__", fun K => He.ma K (He.ga K "Crowd") "__str__", fun K => He.ga K "script_of", fun K => He.ma K (He.ga K "Group") "__init__", fun K => recA_h K (cmA_h K (He.ga K "Group") "named"), fun K => recA_h K (cmA_h K (He.ga K "Group") "every"), fun K => He.ga K "_law_pick", fun K => He.ga K "_law_shuffled", fun K => He.ga K "_law_names", fun K => He.ga K "_law_some_kind", fun K => He.ga K "_law_parts", fun K => He.ga K "_law_refused", fun K => He.ga K "law", fun K => He.ga K "_law_source", fun K => He.ga K "_law_draw"]
def vl0 : List FnW := [fnVal_h "is_integer" "is_integer" (topS 12), fnVal_h "is_sequence" "is_sequence" (topS 13), fnVal_h "is_name" "is_name" (topS 14), fnVal_h "ascending" "ascending" (topS 18), fnVal_h "names_of" "names_of" (topS 19), fnVal_h "is_kind" "is_kind" (topS 20), fnVal_h "is_part" "is_part" (topS 25), fnVal_h "added" "added" (topS 26), fnVal_h "__init__" "Crowd.__init__" (clsS 28 0), fnVal_h "__eq__" "Crowd.__eq__" (clsS 28 11), fnVal_h "__str__" "Crowd.__str__" (clsS 28 12), fnVal_h "script_of" "script_of" (topS 35), fnVal_h "__init__" "Group.__init__" (clsS 39 0), fnVal_h "named" "Group.named" (clsS 39 1), fnVal_h "every" "Group.every" (clsS 39 2), fnVal_h "_law_pick" "_law_pick" (topS 43), fnVal_h "_law_shuffled" "_law_shuffled" (topS 44), fnVal_h "_law_names" "_law_names" (topS 45), fnVal_h "_law_some_kind" "_law_some_kind" (topS 46), fnVal_h "_law_parts" "_law_parts" (topS 47), fnVal_h "_law_refused" "_law_refused" (topS 48), fnVal_h "law" "law" (topS 49), fnVal_h "_law_source" "_law_source" (topS 41), fnVal_h "_law_draw" "_law_draw" (topS 42)]
def faX : FaX := [fa0, fa1, fa2, fa3, fa4, fa5, fa6]
def fnX : List (PySem.W.Frag → Addr) := fn0
def vlX : List FnW := vl0
abbrev RowX : PySem.W.OpenRow := PySem.W.OpenLaw.row PySem.Challenge.rw_mostcrowds_k11_crowds_refused
def namesX : List Str := ((RowX.prog.main.scope.names.filter fun p => decide (p.2 = .local)).map (·.1)).filter fun x => !(x == "law" || x == "__name__")
def fuX : List (PySem.W.Frag → Addr) := [fun K => He.ma K (He.ga K "InvalidCrowd") "__init__"]
def vuX : List FnU := [fnUVal "__init__" "InvalidCrowd.__init__" (clsS 4 0)]
theorem sup_InvalidCrowd : SupSt (clsS 4 0) "at" := ⟨⟨_, _, _, _, _, _, _, _, _, _, _, rfl, rfl, rfl, rfl, rfl, rfl, rfl, rfl, rfl, rfl, by decide +kernel, fun K nm qual kV doc pm an ct cc cda => Binds.all fun us hl => match us, hl with | [_, _], _ => rfl, fun nm qual kV doc pm an ct cc cda fI L => ⟨rfl, rfl, rfl, _, rfl⟩⟩⟩
abbrev hkX : PySem.W.Hook := hookY 1100 faX fnX fuX vlX vuX
def obX (s : PySem.W.SharedT) : AlY := obsYG 1100 faX fnX fuX (HandSHeadRun.getT s)
theorem obX_eq (s : PySem.W.SharedT) : obX s = hkX.obs s.abs := obsYG_eq (HandSHeadRun.getT_eq s)
abbrev viewX : Program := PySem.W.view RowX.prog [49]
set_option maxHeartbeats 0 in
open PySem.W PySem.Calls in
theorem runX0 (w : World) (os : OsState) : (HandSHeadRun.endF (HandSHeadRun.stepQ (HandSHeadRun.denQ HandSHeadRun.tabQ) RowX.prog w) 9000 RowX.prog w os).map (fun s => (HandSHeadRun.looksF RowX.prog (boot_heap w.params) s.abs, HandSHeadRun.seenQ viewX namesX (importedModules RowX.prog.main.body) (fun s => PySem.W.xlAt viewX [] s && PySem.W.recOk RowX.toRowW.records s) s.abs)) = some (true, openGood viewX namesX) := by
  kernel_rfl
set_option maxHeartbeats 0 in
theorem runO (w : World) (os : OsState) : (HandSHeadRun.endF (HandSHeadRun.stepQ (HandSHeadRun.denQ HandSHeadRun.tabQ) RowX.prog w) 9000 RowX.prog w os).map obX = some (true, vlX, vuX) := by
  kernel_rfl
theorem runHX (w : World) : HandSHeadRun.RunEq RowX viewX hkX obX 9000 namesX w := fun os => run_ofY (runX0 w os) fun s hs => (ob_ofY (runO w os) hs)
end Mc
namespace Mc
open PySem PySem.Spec PyProof.Rows L2 Evl
theorem walk_GE {l : PySem.W.OpenLaw} {n k : Nat} {q : Program} {loose : List Str} {XP : (Str → Option Value) → Heap → Prop} {YP : World → Heap → Prop} {d : DefRec} {sp : PySem.W.Frag → Sp} {x : Str}
    (hn : l.most = some n) (hn2 : n ≤ sizeLine) (hdf : d.params.defaults = []) (hr : Room k callerA)
    (F : ∀ (w : World) (mg : Str → Option Value) (fa : Addr) (h : Heap), YP w h → h.Ns mainGlobals mg → mg d.name = some (.ref fa) →
      ∃ K : PySem.W.Frag, K.In h ∧ ∃ fd : FuncData, (∀ (s : Shared) (u : Value), BindsTo s fd ⟨[u], []⟩ [(x, u)]) ∧ ∀ base : Heap, K.In base → base.Ns mainGlobals mg → FnG l.prog w K mg base k fa fd [x] (sp K))
    (hsp : ∀ (K : PySem.W.Frag) (H : Hp) (a : Addr) (ns : List Int), ns.length ≤ n → Only H → SqL K H a (ns.map V.int) → sp K [.ref a] H (fun v _ => v = .bl true) fun _ _ _ => False) :
    PySem.W.WalkO q loose XP YP l.row.toRowW d [] (fun f vs => PySem.call f vs) := by
  refine Att.attach_call hn hdf fun w s0 s1 mg mb fa o pm cd doc a vs ns G Y ho hd hcd hmg hobj hints hlen hg => ?_
  obtain ⟨K, KX, fd, hb, hF⟩ := F w mg fa _ Y G.T.g hmg
  exact law_callG KX G.T.g G.T.b G.T.builtins G.T.nolimit hg hobj hints (Nat.le_trans hlen hn2) hr hF hb (fun H hO hS => hsp K H a ns hlen hO hS)
end Mc
namespace Mc
open PySem PySem.Spec PyProof.Rows L2 Evl
theorem all_says {w : World} {K : PySem.W.Frag} {h : Heap} {mg : Str → Option Value} {fa : Addr} (X : K.In h) (G : h.Ns mainGlobals mg) (hfa : mg "law" = some (.ref fa)) (c : SaysY faX fnX fuX vlX vuX K)
    : ∃ fd : FuncData, (∀ (s : Shared) (v : Value), BindsTo s fd ⟨[v], []⟩ [("_law_script", v)]) ∧ ∀ base : Heap, K.In base → base.Ns mainGlobals mg → FnG (PySem.Challenge.rw_mostcrowds_k11_crowds_refused).prog w K mg base 93 fa fd ["_law_script"] (spLaw K) := by
  have g0 := c.grp 0 (g := fa0) rfl
  have g1 := c.grp 1 (g := fa1) rfl
  have g2 := c.grp 2 (g := fa2) rfl
  have g3 := c.grp 3 (g := fa3) rfl
  have g4 := c.grp 4 (g := fa4) rfl
  have g5 := c.grp 5 (g := fa5) rfl
  have g6 := c.grp 6 (g := fa6) rfl
  have aC_Group := dec_h g0 0 rfl
  have aC_Crowd := dec_h g0 1 rfl
  have aC_InvalidCrowd := dec_h g0 2 rfl
  have aC_CrowdError := dec_h g0 3 rfl
  have aC_InvalidText := dec_h g0 4 rfl
  have ai_InvalidCrowd := dec_h g0 5 rfl
  have x_m_range := dec_h g0 6 rfl
  have x1_cr_Group := of_grp_h g0 7 rfl
  have x2_cr_Group := dec_h g0 8 rfl
  have x1_cm_Group_named := cmB_ok_h (of_grp_h g0 9 rfl)
  have x2_cm_Group_named := recB_ok_h (of_grp_h g0 10 rfl)
  have x3_cm_Group_named := of_grp_h g0 11 rfl
  have x_m_len := dec_h g0 12 rfl
  have x_fi_Crowd_Crowd___eq__ := dec_h g0 13 rfl
  have x_m_tuple := dec_h g0 14 rfl
  have x1_cm_Group_every := cmB_ok_h (of_grp_h g0 15 rfl)
  have x2_cm_Group_every := recB_ok_h (of_grp_h g0 16 rfl)
  have x3_cm_Group_every := of_grp_h g0 17 rfl
  have x1_Mk_Crowd := of_grp_h g0 18 rfl
  have x2_Mk_Crowd := dec_h g0 19 rfl
  have x3_Mk_Crowd := of_grp_h g0 20 rfl
  have x4_Mk_Crowd := of_grp_h g0 21 rfl
  have x_m_isinstance := dec_h g0 22 rfl
  have x_m_enumerate := dec_h g0 23 rfl
  have x_fi_Crowd_Crowd___str__ := dec_h g0 24 rfl
  have x_m_str := dec_h g0 25 rfl
  have x_m_sum := dec_h g0 26 rfl
  have x1_Mk_Group := of_grp_h g0 27 rfl
  have x2_Mk_Group := dec_h g0 28 rfl
  have x3_Mk_Group := of_grp_h g0 29 rfl
  have x4_Mk_Group := of_grp_h g1 0 rfl
  have x_m_int := dec_h g1 1 rfl
  have x0_ek_InvalidCrowd := dec_h g1 2 rfl
  have x1_ek_InvalidCrowd := dec_h g1 3 rfl
  have x2_ek_InvalidCrowd := dec_h g1 4 rfl
  have x3_ek_InvalidCrowd := of_grp_h g1 5 rfl
  have x4_ek_InvalidCrowd := dec_h g1 6 rfl
  have x5_ek_InvalidCrowd := of_grp_h g1 7 rfl
  have x6_ek_InvalidCrowd := dec_h g1 8 rfl
  have x7_ek_InvalidCrowd := dec_h g1 9 rfl
  have x8_ek_InvalidCrowd := dec_h g1 10 rfl
  have x9_ek_InvalidCrowd := dec_h g1 11 rfl
  have x_kx_InvalidCrowd_CrowdError := dec_h g1 12 rfl
  have x_kx_InvalidCrowd_InvalidText := dec_h g1 13 rfl
  have x_m_sorted := dec_h g1 14 rfl
  have x_m_list := dec_h g1 15 rfl
  have x_v_BARRED := dec_h g1 16 rfl
  obtain ⟨its, n_BARRED, sl_BARRED, x_r_BARRED, vv⟩ := tupB_ok_h (of_grp_h g1 17 rfl)
  obtain ⟨us, rfl, w1_0⟩ := arr_of_h vv
  clear vv
  obtain ⟨uw1_0, usw1_0, rfl, rw1_0, w1_1⟩ := vals_cons_h w1_0
  obtain ⟨t0_BARRED, rfl⟩ := rw1_0
  obtain ⟨uw1_1, usw1_1, rfl, rw1_1, w1_2⟩ := vals_cons_h w1_1
  obtain ⟨t1_BARRED, rfl⟩ := rw1_1
  obtain ⟨uw1_2, usw1_2, rfl, rw1_2, w1_3⟩ := vals_cons_h w1_2
  obtain ⟨t2_BARRED, rfl⟩ := rw1_2
  obtain ⟨uw1_3, usw1_3, rfl, rw1_3, w1_4⟩ := vals_cons_h w1_3
  obtain ⟨t3_BARRED, rfl⟩ := rw1_3
  obtain ⟨uw1_4, usw1_4, rfl, rw1_4, w1_5⟩ := vals_cons_h w1_4
  obtain ⟨t4_BARRED, rfl⟩ := rw1_4
  obtain ⟨uw1_5, usw1_5, rfl, rw1_5, w1_6⟩ := vals_cons_h w1_5
  obtain ⟨t5_BARRED, rfl⟩ := rw1_5
  obtain ⟨uw1_6, usw1_6, rfl, rw1_6, w1_7⟩ := vals_cons_h w1_6
  obtain ⟨t6_BARRED, rfl⟩ := rw1_6
  obtain ⟨uw1_7, usw1_7, rfl, rw1_7, w1_8⟩ := vals_cons_h w1_7
  obtain ⟨t7_BARRED, rfl⟩ := rw1_7
  obtain rfl := vals_nil_h w1_8
  obtain ⟨tk_MOST_LETTERS, x_v_MOST_LETTERS⟩ := intB_ok_h (of_grp_h g1 18 rfl)
  obtain ⟨tk_LETTERS, x_v_LETTERS⟩ := strB_ok_h (of_grp_h g1 19 rfl)
  have x_m_all := dec_h g1 20 rfl
  have x_m_bool := dec_h g1 21 rfl
  have x_m_super := dec_h g1 22 rfl
  have x0_kl_Group := of_grp_h g1 23 rfl
  have x1_kl_Group := of_grp_h g1 24 rfl
  have x2_kl_Group := of_grp_h g1 25 rfl
  have x3_kl_Group := dec_h g1 26 rfl
  have x4_kl_Group := dec_h g1 27 rfl
  have x5_kl_Group := dec_h g1 28 rfl
  have x6_kl_Group := dec_h g1 29 rfl
  have x7_kl_Group := dec_h g2 0 rfl
  have x_nb_Group_int := dec_h g2 1 rfl
  have x_nb_Group_bool := dec_h g2 2 rfl
  have x_nb_Group_str := dec_h g2 3 rfl
  have x_nb_Group_list := dec_h g2 4 rfl
  have x_nb_Group_tuple := dec_h g2 5 rfl
  have x0_kl_Crowd := of_grp_h g2 6 rfl
  have x1_kl_Crowd := of_grp_h g2 7 rfl
  have x2_kl_Crowd := of_grp_h g2 8 rfl
  have x3_kl_Crowd := dec_h g2 9 rfl
  have x4_kl_Crowd := dec_h g2 10 rfl
  have x5_kl_Crowd := dec_h g2 11 rfl
  have x6_kl_Crowd := dec_h g2 12 rfl
  have x7_kl_Crowd := dec_h g2 13 rfl
  have x_nb_Crowd_int := dec_h g2 14 rfl
  have x_nb_Crowd_bool := dec_h g2 15 rfl
  have x_nb_Crowd_str := dec_h g2 16 rfl
  have x_nb_Crowd_list := dec_h g2 17 rfl
  have x_nb_Crowd_tuple := dec_h g2 18 rfl
  have x_na_Group_names := dec_h g2 19 rfl
  have x_na_Crowd_names := dec_h g2 20 rfl
  have x_na_Group_number := dec_h g2 21 rfl
  have x_na_Crowd_number := dec_h g2 22 rfl
  have x_na_Group_parts := dec_h g2 23 rfl
  have x_na_Crowd_parts := dec_h g2 24 rfl
  have x_na_Group_script := dec_h g2 25 rfl
  have x_na_Crowd_script := dec_h g2 26 rfl
  have x_na_Group_sign := dec_h g2 27 rfl
  have x_na_Crowd_sign := dec_h g2 28 rfl
  have x_na_Group_size := dec_h g2 29 rfl
  have x_na_Crowd_size := dec_h g3 0 rfl
  have x_na_Group_word := dec_h g3 1 rfl
  have x_na_Crowd_word := dec_h g3 2 rfl
  have x_ki_Group_Crowd := dec_h g3 3 rfl
  have x_ki_Crowd_Crowd := dec_h g3 4 rfl
  have x_kb_NoneType_Crowd := dec_h g3 5 rfl
  have x_kb_bool_Crowd := dec_h g3 6 rfl
  have x_kb_int_Crowd := dec_h g3 7 rfl
  have x_kb_str_Crowd := dec_h g3 8 rfl
  have x_kb_list_Crowd := dec_h g3 9 rfl
  have x_kb_tuple_Crowd := dec_h g3 10 rfl
  have x_m_abs := dec_h g3 11 rfl
  have a_is_integer := dec_h g3 12 rfl
  obtain ⟨oc_is_integer, od_is_integer, kV_is_integer, dc_is_integer, pm_is_integer, an_is_integer, cd_is_integer, ct_is_integer, sl_is_integer, l_is_integer, c_is_integer⟩ := fn_no_h (c.fnAt 0 rfl rfl) (of_grp_h g3 13 rfl)
  have k_is_integer := of_grp_h g3 14 rfl
  have a_is_sequence := dec_h g3 15 rfl
  obtain ⟨oc_is_sequence, od_is_sequence, kV_is_sequence, dc_is_sequence, pm_is_sequence, an_is_sequence, cd_is_sequence, ct_is_sequence, sl_is_sequence, l_is_sequence, c_is_sequence⟩ := fn_no_h (c.fnAt 1 rfl rfl) (of_grp_h g3 16 rfl)
  have k_is_sequence := of_grp_h g3 17 rfl
  have a_is_name := dec_h g3 18 rfl
  obtain ⟨oc_is_name, od_is_name, kV_is_name, dc_is_name, pm_is_name, an_is_name, cd_is_name, ct_is_name, sl_is_name, l_is_name, c_is_name⟩ := fn_no_h (c.fnAt 2 rfl rfl) (of_grp_h g3 19 rfl)
  have k_is_name := of_grp_h g3 20 rfl
  have a_ascending := dec_h g3 21 rfl
  obtain ⟨oc_ascending, od_ascending, kV_ascending, dc_ascending, pm_ascending, an_ascending, cd_ascending, ct_ascending, sl_ascending, l_ascending, c_ascending⟩ := fn_no_h (c.fnAt 3 rfl rfl) (of_grp_h g3 22 rfl)
  have k_ascending := of_grp_h g3 23 rfl
  have a_names_of := dec_h g3 24 rfl
  obtain ⟨oc_names_of, od_names_of, kV_names_of, dc_names_of, pm_names_of, an_names_of, cd_names_of, ct_names_of, sl_names_of, l_names_of, c_names_of⟩ := fn_no_h (c.fnAt 4 rfl rfl) (of_grp_h g3 25 rfl)
  have k_names_of := of_grp_h g3 26 rfl
  have a_is_kind := dec_h g3 27 rfl
  obtain ⟨oc_is_kind, od_is_kind, kV_is_kind, dc_is_kind, pm_is_kind, an_is_kind, cd_is_kind, ct_is_kind, sl_is_kind, l_is_kind, c_is_kind⟩ := fn_no_h (c.fnAt 5 rfl rfl) (of_grp_h g3 28 rfl)
  have k_is_kind := of_grp_h g3 29 rfl
  have a_is_part := dec_h g4 0 rfl
  obtain ⟨oc_is_part, od_is_part, kV_is_part, dc_is_part, pm_is_part, an_is_part, cd_is_part, ct_is_part, sl_is_part, l_is_part, c_is_part⟩ := fn_no_h (c.fnAt 6 rfl rfl) (of_grp_h g4 1 rfl)
  have k_is_part := of_grp_h g4 2 rfl
  have a_added := dec_h g4 3 rfl
  obtain ⟨oc_added, od_added, kV_added, dc_added, pm_added, an_added, cd_added, ct_added, sl_added, l_added, c_added⟩ := fn_no_h (c.fnAt 7 rfl rfl) (of_grp_h g4 4 rfl)
  have k_added := of_grp_h g4 5 rfl
  obtain ⟨T_Crowd___init__, oc_Crowd___init__, od_Crowd___init__, kV_Crowd___init__, dc_Crowd___init__, pm_Crowd___init__, an_Crowd___init__, cd_Crowd___init__, ct_Crowd___init__, sl_Crowd___init__, oc2_Crowd___init__, od2_Crowd___init__, its, n2_Crowd___init__, sl2_Crowd___init__, l_Crowd___init__, c_Crowd___init__, lT_Crowd___init__, vv⟩ := fn_df_h (c.fnAt 8 rfl rfl) (of_grp_h g4 6 rfl)
  obtain ⟨us, rfl, w2_0⟩ := arr_of_h vv
  clear vv
  obtain ⟨uw2_0, usw2_0, rfl, rw2_0, w2_1⟩ := vals_cons_h w2_0
  obtain rfl : uw2_0 = .ref (dflX K (He.ma K (He.ga K "Crowd") "__init__") 0) := rw2_0
  obtain rfl := vals_nil_h w2_1
  have k_Crowd___init__ := of_grp_h g4 7 rfl
  obtain ⟨od0_Crowd___init__, n0_Crowd___init__, sl0_Crowd___init__, l0_Crowd___init__⟩ := tupO_ok_h (of_grp_h g4 8 rfl)
  obtain ⟨oc_Crowd___eq__, od_Crowd___eq__, kV_Crowd___eq__, dc_Crowd___eq__, pm_Crowd___eq__, an_Crowd___eq__, cd_Crowd___eq__, ct_Crowd___eq__, sl_Crowd___eq__, l_Crowd___eq__, c_Crowd___eq__⟩ := fn_no_h (c.fnAt 9 rfl rfl) (of_grp_h g4 9 rfl)
  obtain ⟨oc_Crowd___str__, od_Crowd___str__, kV_Crowd___str__, dc_Crowd___str__, pm_Crowd___str__, an_Crowd___str__, cd_Crowd___str__, ct_Crowd___str__, sl_Crowd___str__, l_Crowd___str__, c_Crowd___str__⟩ := fn_no_h (c.fnAt 10 rfl rfl) (of_grp_h g4 10 rfl)
  have a_script_of := dec_h g4 11 rfl
  obtain ⟨oc_script_of, od_script_of, kV_script_of, dc_script_of, pm_script_of, an_script_of, cd_script_of, ct_script_of, sl_script_of, l_script_of, c_script_of⟩ := fn_no_h (c.fnAt 11 rfl rfl) (of_grp_h g4 12 rfl)
  have k_script_of := of_grp_h g4 13 rfl
  obtain ⟨T_Group___init__, oc_Group___init__, od_Group___init__, kV_Group___init__, dc_Group___init__, pm_Group___init__, an_Group___init__, cd_Group___init__, ct_Group___init__, sl_Group___init__, oc2_Group___init__, od2_Group___init__, its, n2_Group___init__, sl2_Group___init__, l_Group___init__, c_Group___init__, lT_Group___init__, vv⟩ := fn_df_h (c.fnAt 12 rfl rfl) (of_grp_h g4 14 rfl)
  obtain ⟨us, rfl, w3_0⟩ := arr_of_h vv
  clear vv
  obtain ⟨uw3_0, usw3_0, rfl, rw3_0, w3_1⟩ := vals_cons_h w3_0
  obtain ⟨d0_Group___init__, rfl⟩ := rw3_0
  obtain ⟨uw3_1, usw3_1, rfl, rw3_1, w3_2⟩ := vals_cons_h w3_1
  obtain ⟨d1_Group___init__, rfl⟩ := rw3_1
  obtain rfl := vals_nil_h w3_2
  have k_Group___init__ := of_grp_h g4 15 rfl
  obtain ⟨oc_Group_named, od_Group_named, kV_Group_named, dc_Group_named, pm_Group_named, an_Group_named, cd_Group_named, ct_Group_named, sl_Group_named, l_Group_named, c_Group_named⟩ := fn_no_h (c.fnAt 13 rfl rfl) (of_grp_h g4 16 rfl)
  obtain ⟨oc_Group_every, od_Group_every, kV_Group_every, dc_Group_every, pm_Group_every, an_Group_every, cd_Group_every, ct_Group_every, sl_Group_every, l_Group_every, c_Group_every⟩ := fn_no_h (c.fnAt 14 rfl rfl) (of_grp_h g4 17 rfl)
  have a_lpick := dec_h g4 18 rfl
  obtain ⟨oc_lpick, od_lpick, kV_lpick, dc_lpick, pm_lpick, an_lpick, cd_lpick, ct_lpick, sl_lpick, l_lpick, c_lpick⟩ := fn_no_h (c.fnAt 15 rfl rfl) (of_grp_h g4 19 rfl)
  have k_lpick := of_grp_h g4 20 rfl
  have a_lshuffled := dec_h g4 21 rfl
  obtain ⟨oc_lshuffled, od_lshuffled, kV_lshuffled, dc_lshuffled, pm_lshuffled, an_lshuffled, cd_lshuffled, ct_lshuffled, sl_lshuffled, l_lshuffled, c_lshuffled⟩ := fn_no_h (c.fnAt 16 rfl rfl) (of_grp_h g4 22 rfl)
  have k_lshuffled := of_grp_h g4 23 rfl
  have a_lnames := dec_h g4 24 rfl
  obtain ⟨oc_lnames, od_lnames, kV_lnames, dc_lnames, pm_lnames, an_lnames, cd_lnames, ct_lnames, sl_lnames, l_lnames, c_lnames⟩ := fn_no_h (c.fnAt 17 rfl rfl) (of_grp_h g4 25 rfl)
  have k_lnames := of_grp_h g4 26 rfl
  have a_lsome_kind := dec_h g4 27 rfl
  obtain ⟨oc_lsome_kind, od_lsome_kind, kV_lsome_kind, dc_lsome_kind, pm_lsome_kind, an_lsome_kind, cd_lsome_kind, ct_lsome_kind, sl_lsome_kind, l_lsome_kind, c_lsome_kind⟩ := fn_no_h (c.fnAt 18 rfl rfl) (of_grp_h g4 28 rfl)
  have k_lsome_kind := of_grp_h g4 29 rfl
  have a_lparts := dec_h g5 0 rfl
  obtain ⟨oc_lparts, od_lparts, kV_lparts, dc_lparts, pm_lparts, an_lparts, cd_lparts, ct_lparts, sl_lparts, l_lparts, c_lparts⟩ := fn_no_h (c.fnAt 19 rfl rfl) (of_grp_h g5 1 rfl)
  have k_lparts := of_grp_h g5 2 rfl
  have a_lrefused := dec_h g5 3 rfl
  obtain ⟨oc_lrefused, od_lrefused, kV_lrefused, dc_lrefused, pm_lrefused, an_lrefused, cd_lrefused, ct_lrefused, sl_lrefused, l_lrefused, c_lrefused⟩ := fn_no_h (c.fnAt 20 rfl rfl) (of_grp_h g5 4 rfl)
  have k_lrefused := of_grp_h g5 5 rfl
  have a_law := dec_h g5 6 rfl
  obtain ⟨oc_law, od_law, kV_law, dc_law, pm_law, an_law, cd_law, ct_law, sl_law, l_law, c_law⟩ := fn_no_h (c.fnAt 21 rfl rfl) (of_grp_h g5 7 rfl)
  have k_law := of_grp_h g5 8 rfl
  have a_lsource := dec_h g5 9 rfl
  obtain ⟨oc_lsource, od_lsource, kV_lsource, dc_lsource, pm_lsource, an_lsource, cd_lsource, ct_lsource, sl_lsource, l_lsource, c_lsource⟩ := fn_no_h (c.fnAt 22 rfl rfl) (of_grp_h g5 10 rfl)
  have k_lsource := of_grp_h g5 11 rfl
  have a_ldraw := dec_h g5 12 rfl
  obtain ⟨oc_ldraw, od_ldraw, kV_ldraw, dc_ldraw, pm_ldraw, an_ldraw, cd_ldraw, ct_ldraw, sl_ldraw, l_ldraw, c_ldraw⟩ := fn_no_h (c.fnAt 23 rfl rfl) (of_grp_h g5 13 rfl)
  have k_ldraw := of_grp_h g5 14 rfl
  have x_fn_Crowd___eq__ := of_grp_h g5 15 rfl
  have x_ne_Crowd := dec_h g5 16 rfl
  have x_mo_Crowd := dec_h g5 17 rfl
  have x_fn_Crowd___str__ := of_grp_h g5 18 rfl
  have x_ex_InvalidCrowd := dec_h g5 19 rfl
  have x_nf_Group_Crowd := of_grp_h g5 20 rfl
  have x_nf_Crowd_Crowd := of_grp_h g5 21 rfl
  have x_nt_NoneType_Crowd := of_grp_h g5 22 rfl
  have x_nt_bool_Crowd := of_grp_h g5 23 rfl
  have x_nt_int_Crowd := of_grp_h g5 24 rfl
  have x_nt_str_Crowd := of_grp_h g5 25 rfl
  have x_nt_list_Crowd := of_grp_h g5 26 rfl
  have x_nt_tuple_Crowd := of_grp_h g5 27 rfl
  have sx_InvalidCrowd : SxC (PySem.Challenge.rw_mostcrowds_k11_crowds_refused).prog K (He.ga K "InvalidCrowd") (He.ma K (He.ga K "InvalidCrowd") "__init__") "at" := sx_mk sup_InvalidCrowd (of_grp_h g5 28 rfl) (dec_h g5 29 rfl) (dec_h g6 0 rfl) (dec_h g6 1 rfl) (of_grp_h g6 2 rfl) (dec_h g6 3 rfl) (dec_h g6 4 rfl) (dec_h g6 5 rfl) (dec_h g6 6 rfl) (dec_h g6 7 rfl) (dec_h g6 8 rfl) (dec_h g6 9 rfl) (c.fuAt 0 rfl rfl) (of_grp_h g6 10 rfl) (by decide) (by decide +kernel) (by decide)
  have e := hfa.symm.trans (PySem.W.mg_of X G a_law)
  cases e
  obtain ⟨ad, e1, e2, Z, SX⟩ := mk_Kt X G aC_Group aC_Crowd aC_InvalidCrowd aC_CrowdError aC_InvalidText ai_InvalidCrowd x_m_range x1_cr_Group x2_cr_Group x1_cm_Group_named x2_cm_Group_named x3_cm_Group_named x_m_len x_fi_Crowd_Crowd___eq__ x_m_tuple x1_cm_Group_every x2_cm_Group_every x3_cm_Group_every x1_Mk_Crowd x2_Mk_Crowd x3_Mk_Crowd x4_Mk_Crowd x_m_isinstance x_m_enumerate x_fi_Crowd_Crowd___str__ x_m_str x_m_sum x1_Mk_Group x2_Mk_Group x3_Mk_Group x4_Mk_Group x_m_int x0_ek_InvalidCrowd x1_ek_InvalidCrowd x2_ek_InvalidCrowd x3_ek_InvalidCrowd x4_ek_InvalidCrowd x5_ek_InvalidCrowd x6_ek_InvalidCrowd x7_ek_InvalidCrowd x8_ek_InvalidCrowd x9_ek_InvalidCrowd x_kx_InvalidCrowd_CrowdError x_kx_InvalidCrowd_InvalidText x_m_sorted x_m_list x_v_BARRED x_r_BARRED x_v_MOST_LETTERS x_v_LETTERS x_m_all x_m_bool x_m_super x0_kl_Group x1_kl_Group x2_kl_Group x3_kl_Group x4_kl_Group x5_kl_Group x6_kl_Group x7_kl_Group x_nb_Group_int x_nb_Group_bool x_nb_Group_str x_nb_Group_list x_nb_Group_tuple x0_kl_Crowd x1_kl_Crowd x2_kl_Crowd x3_kl_Crowd x4_kl_Crowd x5_kl_Crowd x6_kl_Crowd x7_kl_Crowd x_nb_Crowd_int x_nb_Crowd_bool x_nb_Crowd_str x_nb_Crowd_list x_nb_Crowd_tuple x_na_Group_names x_na_Crowd_names x_na_Group_number x_na_Crowd_number x_na_Group_parts x_na_Crowd_parts x_na_Group_script x_na_Crowd_script x_na_Group_sign x_na_Crowd_sign x_na_Group_size x_na_Crowd_size x_na_Group_word x_na_Crowd_word x_ki_Group_Crowd x_ki_Crowd_Crowd x_kb_NoneType_Crowd x_kb_bool_Crowd x_kb_int_Crowd x_kb_str_Crowd x_kb_list_Crowd x_kb_tuple_Crowd x_m_abs a_is_integer l_is_integer c_is_integer k_is_integer a_is_sequence l_is_sequence c_is_sequence k_is_sequence a_is_name l_is_name c_is_name k_is_name a_ascending l_ascending c_ascending k_ascending a_names_of l_names_of c_names_of k_names_of a_is_kind l_is_kind c_is_kind k_is_kind a_is_part l_is_part c_is_part k_is_part a_added l_added c_added k_added l_Crowd___init__ c_Crowd___init__ k_Crowd___init__ lT_Crowd___init__ l0_Crowd___init__ l_Crowd___eq__ c_Crowd___eq__ l_Crowd___str__ c_Crowd___str__ a_script_of l_script_of c_script_of k_script_of l_Group___init__ c_Group___init__ k_Group___init__ lT_Group___init__ l_Group_named c_Group_named l_Group_every c_Group_every a_lpick l_lpick c_lpick k_lpick a_lshuffled l_lshuffled c_lshuffled k_lshuffled a_lnames l_lnames c_lnames k_lnames a_lsome_kind l_lsome_kind c_lsome_kind k_lsome_kind a_lparts l_lparts c_lparts k_lparts a_lrefused l_lrefused c_lrefused k_lrefused a_law l_law c_law k_law a_lsource l_lsource c_lsource k_lsource a_ldraw l_ldraw c_ldraw k_ldraw x_fn_Crowd___eq__ x_ne_Crowd x_mo_Crowd x_fn_Crowd___str__ x_ex_InvalidCrowd x_nf_Group_Crowd x_nf_Crowd_Crowd x_nt_NoneType_Crowd x_nt_bool_Crowd x_nt_int_Crowd x_nt_str_Crowd x_nt_list_Crowd x_nt_tuple_Crowd sx_InvalidCrowd
  refine ⟨PySem.W.fnOf "law" "law" (defArgs s_law) (defBody s_law) (defScope s_law) .none kV_law dc_law pm_law an_law cd_law ct_law, fun s v => .of_eq rfl, fun base _ _ => ?_⟩
  have r := ok_law (P := (PySem.Challenge.rw_mostcrowds_k11_crowds_refused).prog) (w := w) (base := base) Z SX 30 plain_law
  rw [e1, e2] at r
  exact r
end Mc
open PySem PySem.W PySem.Calls PyProof.Rows
set_option maxHeartbeats 0 in
theorem PySem.Challenge.cw_mostcrowds_k11_crowds_refused_holds : PySem.Challenge.rw_mostcrowds_k11_crowds_refused.Holds := by
  w_on; o_law
  refine HandSHeadRun.head_any (r := OpenLaw.row PySem.Challenge.rw_mostcrowds_k11_crowds_refused) (q := Mc.viewX) (H := Mc.hkX) (ob := Mc.obX) (M := 9000) (loose := Mc.namesX) (d := HandSHeadRun.topDef (OpenLaw.row PySem.Challenge.rw_mostcrowds_k11_crowds_refused).prog 49) (kwd := []) Mc.obX_eq
    (by kernel_rfl) (fun s => by kernel_rfl) Mc.runHX (by kernel_rfl) (by kernel_rfl) (by kernel_rfl) (by rfl) (by first | assumption | decide +kernel) (by decide +kernel) ⟨rfl, rfl, rfl, rfl, rfl, by decide +kernel⟩ ?hw ?hc
  case hw => w_witness2
  case hc =>
    refine Mc.walk_GE (l := PySem.Challenge.rw_mostcrowds_k11_crowds_refused) (n := 63) (k := 93) (x := "_law_script") (sp := fun K => Mc.spLaw K) rfl (by decide) (by kernel_rfl) ⟨rfl, by decide, by decide⟩ ?F (fun _ _ a ns hl _ hS => ⟨a, ns, rfl, hS, hl, fun _ => rfl⟩)
    intro w mg fa h Y G hmg0
    obtain ⟨K, KX, c⟩ := Y
    have hmg : mg ("law" : PySem.Str) = some (.ref fa) := by
      have e : (HandSHeadRun.topDef (OpenLaw.row PySem.Challenge.rw_mostcrowds_k11_crowds_refused).prog 49).name = ("law" : PySem.Str) := by kernel_rfl
      rw [← e]
      exact hmg0
    exact ⟨K, KX, Mc.all_says (w := w) KX G hmg c⟩
