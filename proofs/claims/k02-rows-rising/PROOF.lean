import PyProof.Rows.All
import Wide.All
import OpenK.AllK
import Wide.FinOn
import HandS.ForMost
import HandS.TupAny
import HandS.Style
import HandS.Deep
import HandS.Flow
import HandS.Iter
import HandS.Wide
import HandS.RaiseMore
import HandS.Conv
import HandS.IsInst
import KE.DataMinMax
import HandS.More
import HandS.Ends
import HandS.Words
import HandS.Zip
import KE.GoesEnumKw
import KE.GoesMore
import HandS.DictComp
import KE.KUnpackStar
import HandS.Small
import HandS.WrittenGet
import PyProof.StrOps2
import PyProof.ReprRoads
import HandS.SetBool
import HandS.SetKeys
import PyProof.Rows.IntBool
import PyProof.Rows.EqBoolInt
import PyProof.NeKinds
import PyProof.CallStr
import HandS.JoinGen
import HandS.StrMore
import PyProof.Ascii
import KE.SortKeyHeap
import HandS.SortKw
import PySem.Challenge.RW_stillboughs_k02_rows_rising
set_option Elab.async false
set_option linter.all false
set_option maxRecDepth 100000
set_option maxHeartbeats 4000000
/-! DL: a layer of plain data over the hand layer. Values are trees (PyData); what is not owned is frozen, so that a tree that stands once stands for ever. -/
namespace DL
open PySem PySem.Spec L2

/-! ### what is kept by every step -/
structure Kp (H H' : Hp) : Prop where
  tup : ∀ b xs, H b = some (.tup xs) → H' b = some (.tup xs)
  frz : ∀ b o u, H b = some (.frz o u) → H' b = some (.frz o u)
theorem Kp.refl (H : Hp) : Kp H H := ⟨fun _ _ h => h, fun _ _ _ h => h⟩
theorem Kp.trans {H H1 H2 : Hp} (a : Kp H H1) (b : Kp H1 H2) : Kp H H2 := ⟨fun c xs h => b.tup c xs (a.tup c xs h), fun c o u h => b.frz c o u (a.frz c o u h)⟩
theorem Kp.same {H H' : Hp} (h : Same H H') : Kp H H' := ⟨fun b xs e => h b _ e, fun b o u e => h b _ e⟩
theorem same_new {H : Hp} {p : Addr} {o : HO} (h : H p = none) : Same H (upd H p o) := fun b x e => by
  rw [upd_ne (ne_of_none e h)]
  exact e
theorem Kp.new {H : Hp} {p : Addr} {o : HO} (h : H p = none) : Kp H (upd H p o) := Kp.same (same_new h)
theorem Kp.lst {H : Hp} {p : Addr} {xs : List V} {o : HO} (h : H p = some (.lst xs)) : Kp H (upd H p o) := by
  refine ⟨fun b ys e => ?_, fun b u w e => ?_⟩
  · rw [upd_ne (ne_of e h (by intro z; cases z))]; exact e
  · rw [upd_ne (ne_of e h (by intro z; cases z))]; exact e

/-! ### trees -/
def WrL (K : PySem.W.Frag) (a : Addr) (xs : List V) : Prop :=
  ∃ (o : Obj) (its : Array Value) (n : Nat), K.lookup a = some o ∧ o.cls = .type "list" ∧ o.dict = none ∧ o.data = .seq its n ∧ its.size ≤ sizeLine ∧ Vals xs its.toList
def FzL (K : PySem.W.Frag) (H : Hp) (a : Addr) (xs : List V) : Prop := (∃ o, H a = some (.frz o (.lst xs))) ∨ WrL K a xs
theorem FzL.sq {K : PySem.W.Frag} {H : Hp} {a : Addr} {xs : List V} (h : FzL K H a xs) : SqL K H a xs := by
  rcases h with h | h
  · exact .inl (.inr h)
  · exact .inr h
theorem FzL.mono {K : PySem.W.Frag} {H H' : Hp} {a : Addr} {xs : List V} (k : Kp H H') (h : FzL K H a xs) : FzL K H' a xs := by
  rcases h with ⟨o, h⟩ | h
  · exact .inl ⟨o, k.frz _ _ _ h⟩
  · exact .inr h
theorem sqT_mono {K : PySem.W.Frag} {H H' : Hp} {a : Addr} {xs : List V} (k : Kp H H') (h : SqT K H a xs) : SqT K H' a xs := by
  rcases h with (h | ⟨o, h⟩) | h
  · exact .inl (.inl (k.tup _ _ h))
  · exact .inl (.inr ⟨o, k.frz _ _ _ h⟩)
  · exact .inr h
def FzD (K : PySem.W.Frag) (H : Hp) (a : Addr) (ps : List (Key × V)) : Prop := ∃ o, H a = some (.frz o (.dK ps))
theorem FzD.mono {K : PySem.W.Frag} {H H' : Hp} {a : Addr} {ps : List (Key × V)} (k : Kp H H') (h : FzD K H a ps) : FzD K H' a ps := by
  obtain ⟨o, h⟩ := h
  exact ⟨o, k.frz _ _ _ h⟩
def kD : Key → PyData
  | .inl i => .int i
  | .inr x => .str x

mutual
/-- the value v is the tree d -/
def Rep (K : PySem.W.Frag) (H : Hp) : PyData → V → Prop
  | .none, v => v = .non
  | .bool b, v => v = .bl b
  | .int i, v => v = .int i
  | .str x, v => v = .str x
  | .list ds, v => ∃ a xs, v = .ref a ∧ FzL K H a xs ∧ RepA K H ds xs
  | .tuple ds, v => ∃ a xs, v = .ref a ∧ SqT K H a xs ∧ RepA K H ds xs
  | .dict kvs, v => ∃ a ps, v = .ref a ∧ FzD K H a ps ∧ RepK K H kvs ps
def RepA (K : PySem.W.Frag) (H : Hp) : List PyData → List V → Prop
  | [], vs => vs = []
  | d :: ds, vs => ∃ v r, vs = v :: r ∧ Rep K H d v ∧ RepA K H ds r
def RepK (K : PySem.W.Frag) (H : Hp) : List (PyData × PyData) → List (Key × V) → Prop
  | [], ps => ps = []
  | (k, d) :: r, ps => ∃ q v ps', ps = (q, v) :: ps' ∧ k = kD q ∧ Rep K H d v ∧ RepK K H r ps'
end
section
variable {K : PySem.W.Frag} {H H' : Hp}
mutual
theorem Rep.mono (k : Kp H H') : ∀ (d : PyData) (v : V), Rep K H d v → Rep K H' d v
  | .none, v, h => by rw [Rep] at h ⊢; exact h
  | .bool b, v, h => by rw [Rep] at h ⊢; exact h
  | .int i, v, h => by rw [Rep] at h ⊢; exact h
  | .str x, v, h => by rw [Rep] at h ⊢; exact h
  | .list ds, v, h => by
    rw [Rep] at h ⊢
    obtain ⟨a, xs, e, f, r⟩ := h
    exact ⟨a, xs, e, f.mono k, RepA.mono k ds xs r⟩
  | .tuple ds, v, h => by
    rw [Rep] at h ⊢
    obtain ⟨a, xs, e, f, r⟩ := h
    exact ⟨a, xs, e, sqT_mono k f, RepA.mono k ds xs r⟩
  | .dict kvs, v, h => by
    rw [Rep] at h ⊢
    obtain ⟨a, ps, e, f, r⟩ := h
    exact ⟨a, ps, e, f.mono k, RepK.mono k kvs ps r⟩
theorem RepA.mono (k : Kp H H') : ∀ (ds : List PyData) (vs : List V), RepA K H ds vs → RepA K H' ds vs
  | [], vs, h => by rw [RepA] at h ⊢; exact h
  | d :: ds, vs, h => by
    rw [RepA] at h ⊢
    obtain ⟨v, r, e, h1, h2⟩ := h
    exact ⟨v, r, e, Rep.mono k d v h1, RepA.mono k ds r h2⟩
theorem RepK.mono (k : Kp H H') : ∀ (ds : List (PyData × PyData)) (ps : List (Key × V)), RepK K H ds ps → RepK K H' ds ps
  | [], ps, h => by rw [RepK] at h ⊢; exact h
  | (q, d) :: ds, ps, h => by
    rw [RepK] at h ⊢
    obtain ⟨q', v, ps', e, e2, h1, h2⟩ := h
    exact ⟨q', v, ps', e, e2, Rep.mono k d v h1, RepK.mono k ds ps' h2⟩
end
theorem RepA.nil : RepA K H [] [] := by rw [RepA]
theorem RepA.cons {d : PyData} {ds : List PyData} {v : V} {vs : List V} (h : Rep K H d v) (r : RepA K H ds vs) : RepA K H (d :: ds) (v :: vs) := by
  rw [RepA]; exact ⟨v, vs, rfl, h, r⟩
theorem RepA.length : ∀ {ds : List PyData} {vs : List V}, RepA K H ds vs → ds.length = vs.length
  | [], vs, h => by rw [RepA] at h; rw [h]; rfl
  | d :: ds, vs, h => by
    rw [RepA] at h
    obtain ⟨v, r, e, h1, h2⟩ := h
    rw [e, List.length_cons, List.length_cons, RepA.length h2]
theorem RepA.get : ∀ {ds : List PyData} {vs : List V} {i : Nat} {d : PyData}, RepA K H ds vs → ds[i]? = some d → ∃ v, vs[i]? = some v ∧ Rep K H d v
  | [], vs, i, d, h, e => by simp at e
  | d :: ds, vs, i, d', h, e => by
    rw [RepA] at h
    obtain ⟨v, r, rfl, h1, h2⟩ := h
    cases i with
    | zero =>
      have e' : d = d' := Option.some.inj e
      subst e'
      exact ⟨v, rfl, h1⟩
    | succ i => exact RepA.get (i := i) h2 e
theorem RepA.getV : ∀ {ds : List PyData} {vs : List V} {i : Nat} {v : V}, RepA K H ds vs → vs[i]? = some v → ∃ d, ds[i]? = some d ∧ Rep K H d v
  | [], vs, i, d, h, e => by rw [RepA] at h; subst h; simp at e
  | d :: ds, vs, i, v', h, e => by
    rw [RepA] at h
    obtain ⟨v, r, rfl, h1, h2⟩ := h
    cases i with
    | zero =>
      have e' : v = v' := Option.some.inj e
      subst e'
      exact ⟨d, rfl, h1⟩
    | succ i => exact RepA.getV (i := i) h2 e
theorem RepA.append : ∀ {ds es : List PyData} {vs us : List V}, RepA K H ds vs → RepA K H es us → RepA K H (ds ++ es) (vs ++ us)
  | [], es, vs, us, h, h' => by rw [RepA] at h; subst h; exact h'
  | d :: ds, es, vs, us, h, h' => by
    rw [RepA] at h
    obtain ⟨v, r, rfl, h1, h2⟩ := h
    exact RepA.cons h1 (RepA.append h2 h')
theorem RepA.snoc {ds : List PyData} {vs : List V} {d : PyData} {v : V} (h : RepA K H ds vs) (r : Rep K H d v) : RepA K H (ds ++ [d]) (vs ++ [v]) := h.append (RepA.cons r RepA.nil)
theorem RepA.take : ∀ {ds : List PyData} {vs : List V} (n : Nat), RepA K H ds vs → RepA K H (ds.take n) (vs.take n)
  | ds, vs, 0, h => by rw [List.take_zero, List.take_zero]; exact RepA.nil
  | [], vs, n + 1, h => by rw [RepA] at h; subst h; exact RepA.nil
  | d :: ds, vs, n + 1, h => by
    rw [RepA] at h
    obtain ⟨v, r, rfl, h1, h2⟩ := h
    exact RepA.cons h1 (RepA.take n h2)
theorem RepA.drop : ∀ {ds : List PyData} {vs : List V} (n : Nat), RepA K H ds vs → RepA K H (ds.drop n) (vs.drop n)
  | ds, vs, 0, h => by rw [List.drop_zero, List.drop_zero]; exact h
  | [], vs, n + 1, h => by rw [RepA] at h; subst h; exact RepA.nil
  | d :: ds, vs, n + 1, h => by
    rw [RepA] at h
    obtain ⟨v, r, rfl, h1, h2⟩ := h
    exact RepA.drop n h2
theorem RepA.set {d : PyData} {v : V} (q : Rep K H d v) : ∀ {ds : List PyData} {vs : List V} (i : Nat), RepA K H ds vs → RepA K H (ds.set i d) (vs.set i v)
  | [], vs, i, h => by rw [RepA] at h; subst h; exact RepA.nil
  | d :: ds, vs, 0, h => by
    rw [RepA] at h
    obtain ⟨v, r, rfl, h1, h2⟩ := h
    exact RepA.cons q h2
  | d :: ds, vs, i + 1, h => by
    rw [RepA] at h
    obtain ⟨v, r, rfl, h1, h2⟩ := h
    exact RepA.cons h1 (RepA.set q i h2)
theorem RepA.erase : ∀ {ds : List PyData} {vs : List V} (i : Nat), RepA K H ds vs → RepA K H (ds.eraseIdx i) (vs.eraseIdx i)
  | [], vs, i, h => by rw [RepA] at h; subst h; exact RepA.nil
  | d :: ds, vs, 0, h => by
    rw [RepA] at h
    obtain ⟨v, r, rfl, h1, h2⟩ := h
    exact h2
  | d :: ds, vs, i + 1, h => by
    rw [RepA] at h
    obtain ⟨v, r, rfl, h1, h2⟩ := h
    exact RepA.cons h1 (RepA.erase i h2)
theorem RepA.reverse : ∀ {ds : List PyData} {vs : List V}, RepA K H ds vs → RepA K H ds.reverse vs.reverse
  | [], vs, h => by rw [RepA] at h; subst h; exact RepA.nil
  | d :: ds, vs, h => by
    rw [RepA] at h
    obtain ⟨v, r, rfl, h1, h2⟩ := h
    rw [List.reverse_cons, List.reverse_cons]
    exact (RepA.reverse h2).snoc h1
theorem RepA.dropLast {ds : List PyData} {vs : List V} (h : RepA K H ds vs) : RepA K H ds.dropLast vs.dropLast := by
  rw [List.dropLast_eq_take, List.dropLast_eq_take, h.length]
  exact h.take _
theorem RepA.ints : ∀ (ns : List Int), RepA K H (ns.map .int) (ns.map .int)
  | [] => RepA.nil
  | n :: ns => RepA.cons (by rw [Rep]) (RepA.ints ns)
theorem RepA.ints_of : ∀ {ns : List Int} {vs : List V}, RepA K H (ns.map .int) vs → vs = ns.map .int
  | [], vs, h => by rw [List.map_nil, RepA] at h; exact h
  | n :: ns, vs, h => by
    rw [List.map_cons, RepA] at h
    obtain ⟨v, r, rfl, h1, h2⟩ := h
    rw [Rep] at h1
    rw [h1, RepA.ints_of h2]
    rfl
theorem RepA.strs_of : ∀ {ns : List Str} {vs : List V}, RepA K H (ns.map .str) vs → vs = ns.map .str
  | [], vs, h => by rw [List.map_nil, RepA] at h; exact h
  | n :: ns, vs, h => by
    rw [List.map_cons, RepA] at h
    obtain ⟨v, r, rfl, h1, h2⟩ := h
    rw [Rep] at h1
    rw [h1, RepA.strs_of h2]
    rfl
theorem RepA.bools_of : ∀ {ns : List Bool} {vs : List V}, RepA K H (ns.map .bool) vs → vs = ns.map .bl
  | [], vs, h => by rw [List.map_nil, RepA] at h; exact h
  | n :: ns, vs, h => by
    rw [List.map_cons, RepA] at h
    obtain ⟨v, r, rfl, h1, h2⟩ := h
    rw [Rep] at h1
    rw [h1, RepA.bools_of h2]
    rfl
theorem RepA.mem : ∀ {ds : List PyData} {vs : List V}, RepA K H ds vs → ∀ v ∈ vs, ∃ d ∈ ds, Rep K H d v
  | [], vs, h => by rw [RepA] at h; subst h; intro v hv; cases hv
  | d :: ds, vs, h => by
    rw [RepA] at h
    obtain ⟨v, r, rfl, h1, h2⟩ := h
    intro u hu
    rcases List.mem_cons.mp hu with e | hu
    · exact ⟨d, List.mem_cons_self, e ▸ h1⟩
    · obtain ⟨d', hd, q⟩ := RepA.mem h2 u hu
      exact ⟨d', List.mem_cons_of_mem _ hd, q⟩
end

/-! ### freezing: a list that nobody writes any more -/
section
variable {X : Cx} {pins : List (Addr × Obj)} {σ : St} {H : Hp} {s : Shared} {p : Addr} {xs : List V}
theorem inv_freeze (I : Inv X pins σ H s) (h : H p = some (.lst xs)) : ∃ o, Inv X pins σ (upd H p (.frz o (.lst xs))) s := by
  obtain ⟨z, its, n, r, e⟩ := I.hok p _ h
  have np : ∀ {b}, H b = none → b ≠ p := fun {b} q c => by rw [c, h] at q; cases q
  refine ⟨{ cls := .type "list", data := .seq its.toArray n }, I.ok, I.os, I.bare, ⟨I.base.keep, I.base.slot, fun b o e1 n1 hx => ?_, I.base.there, fun b ys q => ?_, fun b o u q => ?_, fun b ps q => ?_⟩, I.loc, I.cell, ?_, fun x c q => ?_, fun q hq => ?_, fun b u q => ?_, I.len⟩
  · have q := I.base.free b o e1 n1 hx
    rw [upd_ne (np q)]; exact q
  · have q' := I.base.tups b ys q
    rw [upd_ne (ne_of q' h (by intro z; cases z))]; exact q'
  · have q' := I.base.frzs b o u q
    rw [upd_ne (ne_of q' h (by intro z; cases z))]; exact q'
  · obtain ⟨more, q'⟩ := I.base.tbls b ps q
    exact ⟨more, by rw [upd_ne (ne_of q' h (by intro z; cases z))]; exact q'⟩
  · rw [upd_ne (np I.free)]; exact I.free
  · rw [upd_ne (np (I.freeC x c q))]; exact I.freeC x c q
  · obtain ⟨a1, a2, a3⟩ := I.pin q hq
    exact ⟨a1, by rw [upd_ne (np a2)]; exact a2, a3⟩
  · have st : ∀ {c : Addr} {w : HO}, (w ≠ .lst xs) → H c = some w → upd H p (.frz { cls := .type "list", data := .seq its.toArray n } (.lst xs)) c = some w := fun {c w} hw q => by
      rw [upd_ne (ne_of q h hw)]; exact q
    by_cases hb : b = p
    · subst hb
      rw [upd_same] at q
      cases q
      exact ⟨e, z, its, n, r, e⟩
    · rw [upd_ne hb] at q
      exact (I.hok b u q).stay (fun _ _ _ q => q) (fun c q => st (by intro z; cases z) q) fun c ys q => st (by intro z; cases z) q
end
/-- behind some ghost step -/
def Gh (X : Cx) (Q : VK) : VK := fun v H => ∀ pins σ s, Inv X pins σ H s → ∃ H', Inv X pins σ H' s ∧ Q v H'
theorem ep_gh {X : Cx} {pins : List (Addr × Obj)} {σ : St} {Q : VK} {u : Value} {s : Shared} (h : EP X pins σ (Gh X Q) u s) : EP X pins σ Q u s := by
  obtain ⟨v, H', I, r, q⟩ := h
  obtain ⟨H2, I2, q2⟩ := q pins σ s I
  exact ⟨v, H2, I2, r, q2⟩
theorem pe_gh {X : Cx} {e : Expr} {t : TE} (h : PE X e t) : PE X e (fun σ H Q => t σ H (Gh X Q)) :=
  ⟨fun pins s σ H Q I q => thn (h.run pins s σ H _ I q) fun v s1 z => ep_gh z⟩
/-- a stronger reading -/
theorem pe_imp {X : Cx} {e : Expr} {t t' : TE} (h : PE X e t) (i : ∀ σ H Q, t' σ H Q → t σ H Q) : PE X e t' := ⟨fun pins s σ H Q I q => h.run pins s σ H Q I (i σ H Q q)⟩
theorem pt_imp {X : Cx} {e : Expr} {t t' : TT} (h : PT X e t) (i : ∀ σ H Q, t' σ H Q → t σ H Q) : PT X e t' := ⟨fun pins s σ H Q I q => h.run pins s σ H Q I (i σ H Q q)⟩
theorem pa_imp {X : Cx} {e : List Expr} {t t' : TA} (h : PA X e t) (i : ∀ σ H Q, t' σ H Q → t σ H Q) : PA X e t' := ⟨fun pos pins s σ H Q I q => h.run pos pins s σ H Q I (i σ H Q q)⟩
theorem ps_imp {X : Cx} {e : Stmt} {t t' : TS} (h : PS X e t) (i : ∀ D σ H, t' D σ H → t D σ H) : PS X e t' := ⟨fun pins s σ H D I q => h.run pins s σ H D I (i D σ H q)⟩
theorem pss_imp {X : Cx} {e : List Stmt} {t t' : TS} (h : PSs X e t) (i : ∀ D σ H, t' D σ H → t D σ H) : PSs X e t' := ⟨fun pins s σ H D I q => h.run pins s σ H D I (i D σ H q)⟩
theorem pi_imp {X : Cx} {g e : Expr} {t t' : TI} (h : PI X g e t) (i : ∀ σ H R, t' σ H R → t σ H R) : PI X g e t' := ⟨fun pins s σ H R I q => h.run pins s σ H R I (i σ H R q)⟩
theorem pg_imp {X : Cx} {e : Expr} {t t' : TG} (h : PG X e t) (i : ∀ v σ H Q, t' v σ H Q → t v σ H Q) : PG X e t' := ⟨fun pins s σ H v u Q I r q => h.run pins s σ H v u Q I r (i v σ H Q q)⟩

/-! ### slots: what a name of the def holds -/
inductive Slot where
  /-- nothing is known -/
  | no
  /-- a tree -/
  | dat (d : PyData)
  /-- a list of trees that is ours to write -/
  | own (a : Addr) (ds : List PyData)
  /-- a list of trees that is a caller's: read alone -/
  | rd (a : Addr) (ds : List PyData)
  /-- something else that may be written, at fp; R says what holds of it -/
  | ext (a : Addr) (fp : Addr → Prop) (R : Hp → Prop)
abbrev Rho := List Slot
def Slot.fp : Slot → Addr → Prop
  | .own a _, b => b = a
  | .ext _ fp _, b => fp b
  | _, _ => False
/-- R hangs on what stands at fp, and on frozen things -/
def Stab (R : Hp → Prop) (fp : Addr → Prop) : Prop := ∀ H H', (∀ b, fp b → H' b = H b) → Kp H H' → R H → R H'
structure Bs where
  H0 : Hp
  M : Addr → Prop
def SlotOk (K : PySem.W.Frag) (B : Bs) (H : Hp) : Slot → Option V → Prop
  | .no, _ => True
  | .dat d, o => ∃ v, o = some v ∧ Rep K H d v
  | .own a ds, o => o = some (.ref a) ∧ ∃ vs, H a = some (.lst vs) ∧ RepA K H ds vs
  | .rd a ds, o => o = some (.ref a) ∧ ¬ B.M a ∧ ∃ vs, B.H0 a = some (.lst vs) ∧ RepA K B.H0 ds vs
  | .ext a fp R, o => o = some (.ref a) ∧ R H ∧ Stab R fp ∧ ∀ b, fp b → H b ≠ none
structure Rel (K : PySem.W.Frag) (B : Bs) (ρ : Rho) (σ : St) (H : Hp) : Prop where
  len : σ.length = ρ.length
  ok : ∀ (i : Nat) (s : Slot), ρ[i]? = some s → ∃ o, σ[i]? = some o ∧ SlotOk K B H s o
  frame : ∀ b o, B.H0 b = some o → ¬ B.M b → H b = some o
  kp : Kp B.H0 H
  th : ∀ b, B.H0 b ≠ none → H b ≠ none
  fresh : ∀ (i : Nat) (s : Slot) (b : Addr), ρ[i]? = some s → s.fp b → B.H0 b = none ∨ B.M b
  disj : ∀ (i j : Nat) (s t : Slot) (b : Addr), ρ[i]? = some s → ρ[j]? = some t → s.fp b → t.fp b → i = j
def InFp (ρ : Rho) (b : Addr) : Prop := ∃ (i : Nat) (s : Slot), ρ[i]? = some s ∧ s.fp b
/-- a step: from ρ, H to ρ', H' -/
structure Stp (ρ : Rho) (H : Hp) (ρ' : Rho) (H' : Hp) : Prop where
  kp : Kp H H'
  th : ∀ b, H b ≠ none → H' b ≠ none
  fr : ∀ b o, H b = some o → ¬ InFp ρ b → H' b = some o ∧ ¬ InFp ρ' b
theorem Stp.refl (ρ : Rho) (H : Hp) : Stp ρ H ρ H := ⟨Kp.refl H, fun _ h => h, fun _ _ e n => ⟨e, n⟩⟩
theorem Stp.trans {ρ ρ1 ρ2 : Rho} {H H1 H2 : Hp} (a : Stp ρ H ρ1 H1) (b : Stp ρ1 H1 ρ2 H2) : Stp ρ H ρ2 H2 :=
  ⟨a.kp.trans b.kp, fun c h => b.th c (a.th c h), fun c o e n => let ⟨e1, n1⟩ := a.fr c o e n; b.fr c o e1 n1⟩
theorem th_same {H H' : Hp} (h : Same H H') (b : Addr) (n : H b ≠ none) : H' b ≠ none := by
  cases e : H b with
  | none => exact (n e).elim
  | some o => rw [h b o e]; simp
theorem th_upd {H : Hp} {p : Addr} {o : HO} (b : Addr) (n : H b ≠ none) : upd H p o b ≠ none := by
  by_cases e : b = p
  · rw [e, upd_same]; simp
  · rw [upd_ne e]; exact n
theorem Stp.same {ρ : Rho} {H H' : Hp} (h : Same H H') : Stp ρ H ρ H' := ⟨Kp.same h, th_same h, fun b o e n => ⟨h b o e, n⟩⟩
theorem Stp.none {ρ ρ' : Rho} {H H' : Hp} {p : Addr} (s : Stp ρ H ρ' H') (h : H' p = none) : H p = none := by
  cases e : H p with
  | none => rfl
  | some o => exact (s.th p (by rw [e]; simp) h).elim

section
variable {K : PySem.W.Frag} {B : Bs} {ρ ρ' : Rho} {σ : St} {H H' : Hp} {i j : Nat} {a p : Addr} {d : PyData} {ds : List PyData} {v : V} {vs us : List V} {s : Slot} {o : Option V}
theorem SlotOk.fpT (h : SlotOk K B H s o) {b : Addr} (hb : s.fp b) : ∃ x, H b = some x := by
  cases s with
  | no => exact hb.elim
  | dat d => exact hb.elim
  | rd a ds => exact hb.elim
  | own a ds =>
    obtain ⟨_, vs, e, _⟩ := h
    have hb : b = a := hb
    exact ⟨_, by rw [hb]; exact e⟩
  | ext a fp R =>
    obtain ⟨_, _, _, q⟩ := h
    have q := q b hb
    cases e : H b with
    | none => exact (q e).elim
    | some x => exact ⟨x, rfl⟩
theorem Rel.fpT (R : Rel K B ρ σ H) {b : Addr} (hb : InFp ρ b) : ∃ x, H b = some x := by
  obtain ⟨i, s, e, q⟩ := hb
  obtain ⟨o, _, k⟩ := R.ok i s e
  exact k.fpT q
/-- a slot that stands apart from what changes -/
theorem SlotOk.away (h : SlotOk K B H s o) (k : Kp H H') (hf : ∀ b, s.fp b → H' b = H b) : SlotOk K B H' s o := by
  cases s with
  | no => trivial
  | dat d =>
    obtain ⟨v, e, r⟩ := h
    exact ⟨v, e, r.mono k _ _⟩
  | rd a ds => exact h
  | own a ds =>
    obtain ⟨e, vs, q, r⟩ := h
    exact ⟨e, vs, (hf a rfl).trans q, r.mono k _ _⟩
  | ext a fp R =>
    obtain ⟨e, q, st, n⟩ := h
    exact ⟨e, st H H' hf k q, st, fun b hb => by rw [hf b hb]; exact n b hb⟩
theorem Rel.same (R : Rel K B ρ σ H) (h : Same H H') : Rel K B ρ σ H' := by
  refine ⟨R.len, fun i s e => ?_, fun b o e n => h b o (R.frame b o e n), R.kp.trans (Kp.same h), fun b n => th_same h b (R.th b n), R.fresh, R.disj⟩
  obtain ⟨o, e1, q⟩ := R.ok i s e
  refine ⟨o, e1, q.away (Kp.same h) fun b hb => ?_⟩
  obtain ⟨x, ex⟩ := q.fpT hb
  rw [h b x ex, ex]
theorem get_set {α : Type} {l : List α} {i j : Nat} {x y : α} (h : (l.set i x)[j]? = some y) : (j = i ∧ y = x) ∨ (j ≠ i ∧ l[j]? = some y) := by
  by_cases e : i = j
  · subst e
    by_cases hl : i < l.length
    · rw [List.getElem?_set_self hl] at h
      exact .inl ⟨rfl, (Option.some.inj h).symm⟩
    · rw [List.getElem?_eq_none (by simpa using hl)] at h
      cases h
  · rw [List.getElem?_set_ne e] at h
    exact .inr ⟨fun q => e q.symm, h⟩
/-- a name gets a tree -/
theorem Rel.setDat (R : Rel K B ρ σ H) (i : Nat) (r : Rep K H d v) : Rel K B (ρ.set i (.dat d)) (σ.set i (some v)) H := by
  refine ⟨by rw [List.length_set, List.length_set, R.len], fun j s e => ?_, R.frame, R.kp, R.th, fun j s b e hb => ?_, fun j k s t b e1 e2 h1 h2 => ?_⟩
  · rcases get_set e with ⟨rfl, rfl⟩ | ⟨hj, e⟩
    · have hi : j < ρ.length := by
        have := (List.getElem?_eq_some_iff.mp e).1
        rwa [List.length_set] at this
      exact ⟨some v, by rw [List.getElem?_set_self (by rw [R.len]; exact hi)], v, rfl, r⟩
    · obtain ⟨o, e1, q⟩ := R.ok j s e
      exact ⟨o, by rw [List.getElem?_set_ne (Ne.symm hj)]; exact e1, q⟩
  · rcases get_set e with ⟨rfl, rfl⟩ | ⟨hj, e⟩
    · exact hb.elim
    · exact R.fresh j s b e hb
  · rcases get_set e1 with ⟨rfl, rfl⟩ | ⟨hj, f1⟩
    · exact h1.elim
    · rcases get_set e2 with ⟨rfl, rfl⟩ | ⟨hk, f2⟩
      · exact h2.elim
      · exact R.disj j k s t b f1 f2 h1 h2
/-- a name gets a new list of its own -/
theorem Rel.setOwn (R : Rel K B ρ σ H) (i : Nat) (h : H p = some (.lst vs)) (r : RepA K H ds vs) (h0 : B.H0 p = none ∨ B.M p) (hp : ¬ InFp ρ p) : Rel K B (ρ.set i (.own p ds)) (σ.set i (some (.ref p))) H := by
  refine ⟨by rw [List.length_set, List.length_set, R.len], fun j s e => ?_, R.frame, R.kp, R.th, fun j s b e hb => ?_, fun j k s t b e1 e2 h1 h2 => ?_⟩
  · rcases get_set e with ⟨rfl, rfl⟩ | ⟨hj, e⟩
    · have hi : j < ρ.length := by
        have := (List.getElem?_eq_some_iff.mp e).1
        rwa [List.length_set] at this
      exact ⟨some (.ref p), by rw [List.getElem?_set_self (by rw [R.len]; exact hi)], rfl, vs, h, r⟩
    · obtain ⟨o, e1, q⟩ := R.ok j s e
      exact ⟨o, by rw [List.getElem?_set_ne (Ne.symm hj)]; exact e1, q⟩
  · rcases get_set e with ⟨rfl, rfl⟩ | ⟨hj, e⟩
    · have hb : b = p := hb
      rw [hb]; exact h0
    · exact R.fresh j s b e hb
  · rcases get_set e1 with ⟨rfl, rfl⟩ | ⟨hj, f1⟩
    · rcases get_set e2 with ⟨rfl, rfl⟩ | ⟨hk, f2⟩
      · rfl
      · have h1 : b = p := h1
        exact (hp ⟨k, t, f2, h1 ▸ h2⟩).elim
    · rcases get_set e2 with ⟨rfl, rfl⟩ | ⟨hk, f2⟩
      · have h2 : b = p := h2
        exact (hp ⟨j, s, f1, h2 ▸ h1⟩).elim
      · exact R.disj j k s t b f1 f2 h1 h2
/-- a list of ours is written -/
theorem Rel.write (R : Rel K B ρ σ H) (e : ρ[i]? = some (.own a ds)) (h : H a = some (.lst vs)) {es : List PyData} (r : RepA K H es us) : Rel K B (ρ.set i (.own a es)) σ (upd H a (.lst us)) := by
  have k : Kp H (upd H a (.lst us)) := Kp.lst h
  have fa := R.fresh i _ a e rfl
  have hi := (List.getElem?_eq_some_iff.mp e).1
  refine ⟨by rw [List.length_set, R.len], fun j s e' => ?_, fun b o e' n => ?_, R.kp.trans k, fun b n => th_upd b (R.th b n), fun j s b e' hb => ?_, fun j q s t b e1 e2 h1 h2 => ?_⟩
  · rcases get_set e' with ⟨rfl, rfl⟩ | ⟨hj, e'⟩
    · obtain ⟨o, e1, e2, _⟩ := R.ok j _ e
      exact ⟨o, e1, e2, us, upd_same, r.mono k _ _⟩
    · obtain ⟨o, e1, q⟩ := R.ok j s e'
      refine ⟨o, e1, q.away k fun b hb => upd_ne fun z => hj ?_⟩
      exact R.disj j i s _ b e' e hb z
  · rw [upd_ne]
    · exact R.frame b o e' n
    · rintro rfl
      rcases fa with z | z
      · rw [z] at e'; cases e'
      · exact n z
  · rcases get_set e' with ⟨rfl, rfl⟩ | ⟨hj, e'⟩
    · have hb : b = a := hb
      rw [hb]; exact fa
    · exact R.fresh j s b e' hb
  · rcases get_set e1 with ⟨rfl, rfl⟩ | ⟨hj, f1⟩
    · rcases get_set e2 with ⟨rfl, rfl⟩ | ⟨hk, f2⟩
      · rfl
      · exact R.disj j q _ t b e f2 h1 h2
    · rcases get_set e2 with ⟨rfl, rfl⟩ | ⟨hk, f2⟩
      · exact R.disj j q s _ b f1 e h1 h2
      · exact R.disj j q s t b f1 f2 h1 h2
/-- a list of ours is frozen: it is a tree from now on -/
theorem Rel.freeze (R : Rel K B ρ σ H) (e : ρ[i]? = some (.own a ds)) (h : H a = some (.lst vs)) (r : RepA K H ds vs) (o : Obj) : Rel K B (ρ.set i (.dat (.list ds))) σ (upd H a (.frz o (.lst vs))) := by
  have k : Kp H (upd H a (.frz o (.lst vs))) := Kp.lst h
  have fa := R.fresh i _ a e rfl
  refine ⟨by rw [List.length_set, R.len], fun j s e' => ?_, fun b o e' n => ?_, R.kp.trans k, fun b n => th_upd b (R.th b n), fun j s b e' hb => ?_, fun j q s t b e1 e2 h1 h2 => ?_⟩
  · rcases get_set e' with ⟨rfl, rfl⟩ | ⟨hj, e'⟩
    · obtain ⟨o', e1, e2, _⟩ := R.ok j _ e
      exact ⟨o', e1, .ref a, e2, by rw [Rep]; exact ⟨a, vs, rfl, .inl ⟨o, upd_same⟩, r.mono k _ _⟩⟩
    · obtain ⟨o, e1, q⟩ := R.ok j s e'
      refine ⟨o, e1, q.away k fun b hb => upd_ne fun z => hj ?_⟩
      exact R.disj j i s _ b e' e hb z
  · rw [upd_ne]
    · exact R.frame b o e' n
    · rintro rfl
      rcases fa with z | z
      · rw [z] at e'; cases e'
      · exact n z
  · rcases get_set e' with ⟨rfl, rfl⟩ | ⟨hj, e'⟩
    · exact hb.elim
    · exact R.fresh j s b e' hb
  · rcases get_set e1 with ⟨rfl, rfl⟩ | ⟨hj, f1⟩
    · exact h1.elim
    · rcases get_set e2 with ⟨rfl, rfl⟩ | ⟨hk, f2⟩
      · exact h2.elim
      · exact R.disj j q s t b f1 f2 h1 h2
/-- what stands apart from all slots, and came since the entry, may change -/
theorem Rel.aside (R : Rel K B ρ σ H) {u : HO} (k : Kp H (upd H p u)) (h0 : B.H0 p = none ∨ B.M p) (hp : ¬ InFp ρ p) : Rel K B ρ σ (upd H p u) := by
  refine ⟨R.len, fun j s e => ?_, fun b o e n => ?_, R.kp.trans k, fun b n => th_upd b (R.th b n), R.fresh, R.disj⟩
  · obtain ⟨o, e1, q⟩ := R.ok j s e
    exact ⟨o, e1, q.away k fun b hb => upd_ne fun z => hp ⟨j, s, e, z ▸ hb⟩⟩
  · rw [upd_ne]
    · exact R.frame b o e n
    · rintro rfl
      rcases h0 with z | z
      · rw [z] at e; cases e
      · exact n z
theorem Rel.new (R : Rel K B ρ σ H) (h : H p = none) : (B.H0 p = none ∨ B.M p) ∧ ¬ InFp ρ p := by
  refine ⟨?_, fun q => ?_⟩
  · cases e : B.H0 p with
    | none => exact .inl rfl
    | some o =>
      by_cases hm : B.M p
      · exact .inr hm
      · rw [R.frame p o e hm] at h
        cases h
  · obtain ⟨x, e⟩ := R.fpT q
    rw [h] at e
    cases e
theorem Rel.h0 (R : Rel K B ρ σ H) (h : H p = none) (hm : ¬ B.M p) : B.H0 p = none := by
  cases e : B.H0 p with
  | none => rfl
  | some o =>
    rw [R.frame p o e hm] at h
    cases h
end
end DL

/-! DL: readings over plain data; expressions. -/
namespace DL
open PySem PySem.Spec L2

/-- what an expression gives: a tree, or what the i-th name holds -/
inductive Rv where
  | dat (d : PyData)
  | own (i : Nat)
def RvOk (K : PySem.W.Frag) (H : Hp) (σ : L2.St) : Rv → V → Prop
  | .dat d, v => Rep K H d v
  | .own i, v => σ[i]? = some (some v)
def RvsOk (K : PySem.W.Frag) (H : Hp) (σ : L2.St) : List Rv → List V → Prop
  | [], vs => vs = []
  | r :: rs, vs => ∃ v us, vs = v :: us ∧ RvOk K H σ r v ∧ RvsOk K H σ rs us
abbrev DTE := Rho → (Rv → Rho → Prop) → Prop
abbrev DTT := Rho → (Bool → Rho → Prop) → Prop
abbrev DTA := Rho → (List Rv → Rho → Prop) → Prop
abbrev DTN := Rho → (List PyData → Rho → Prop) → Prop
abbrev DTO := Rho → (Option Int → Rho → Prop) → Prop
section
variable (K : PySem.W.Frag)
def lift (t : DTE) : TE := fun σ H Q => ∃ B ρ Q0, Rel K B ρ σ H ∧ t ρ Q0 ∧ ∀ r ρ' v H', Q0 r ρ' → Rel K B ρ' σ H' → RvOk K H' σ r v → Stp ρ H ρ' H' → Q v H'
def liftT (t : DTT) : TT := fun σ H Q => ∃ B ρ Q0, Rel K B ρ σ H ∧ t ρ Q0 ∧ ∀ b ρ' H', Q0 b ρ' → Rel K B ρ' σ H' → Stp ρ H ρ' H' → Q b H'
def liftA (t : DTA) : TA := fun σ H Q => ∃ B ρ Q0, Rel K B ρ σ H ∧ t ρ Q0 ∧ ∀ rs ρ' vs H', Q0 rs ρ' → Rel K B ρ' σ H' → RvsOk K H' σ rs vs → Stp ρ H ρ' H' → Q vs H'
def liftO (t : DTO) : TO := fun σ H Q => ∃ B ρ Q0, Rel K B ρ σ H ∧ t ρ Q0 ∧ ∀ o ρ' H', Q0 o ρ' → Rel K B ρ' σ H' → Stp ρ H ρ' H' → Q o H'
/-- a new list: it stands at p, apart from all names -/
def liftN (t : DTN) : TE := fun σ H Q => ∃ B ρ Q0, Rel K B ρ σ H ∧ t ρ Q0 ∧ ∀ ds ρ' p vs H', Q0 ds ρ' → Rel K B ρ' σ H' → H' p = some (.lst vs) → RepA K H' ds vs → H p = none → (B.H0 p = none ∨ B.M p) → ¬ InFp ρ' p → Stp ρ H ρ' H' → Q (.ref p) H'
end
def DE (X : Cx) (e : Expr) (t : DTE) : Prop := PE X e (lift X.K t)
def DT (X : Cx) (e : Expr) (t : DTT) : Prop := PT X e (liftT X.K t)
def DW (X : Cx) (e : Expr) (t : DTT) : Prop := PW X e (liftT X.K t)
def DA (X : Cx) (es : List Expr) (t : DTA) : Prop := PA X es (liftA X.K t)
def DO (X : Cx) (e : Option Expr) (t : DTO) : Prop := PO X e (liftO X.K t)
def DN (X : Cx) (e : Expr) (t : DTN) : Prop := PE X e (liftN X.K t)

section
variable {K : PySem.W.Frag} {B : Bs} {ρ ρ' : Rho} {σ : L2.St} {H H' : Hp} {r : Rv} {rs : List Rv} {v : V} {vs : List V}
theorem RvOk.mono (k : Kp H H') (h : RvOk K H σ r v) : RvOk K H' σ r v := by
  cases r with
  | dat d => exact Rep.mono k d v h
  | own i => exact h
theorem RvsOk.mono (k : Kp H H') : ∀ {rs : List Rv} {vs : List V}, RvsOk K H σ rs vs → RvsOk K H' σ rs vs
  | [], vs, h => h
  | r :: rs, vs, h => by
    obtain ⟨v, us, e, h1, h2⟩ := h
    exact ⟨v, us, e, h1.mono k, RvsOk.mono k h2⟩
theorem RvsOk.one (h : RvsOk K H σ [r] vs) : ∃ v, vs = [v] ∧ RvOk K H σ r v := by
  obtain ⟨v, us, rfl, h1, h2⟩ := h
  have h2 : us = [] := h2
  subst h2
  exact ⟨v, rfl, h1⟩
theorem RvsOk.two {r' : Rv} (h : RvsOk K H σ [r, r'] vs) : ∃ v u, vs = [v, u] ∧ RvOk K H σ r v ∧ RvOk K H σ r' u := by
  obtain ⟨v, us, rfl, h1, h2⟩ := h
  obtain ⟨u, rfl, h3⟩ := h2.one
  exact ⟨v, u, rfl, h1, h3⟩
end

/-! ### names and constants -/
def dVar (i : Nat) : DTE := fun ρ Q => match ρ[i]? with
  | some (.dat d) => Q (.dat d) ρ
  | some (.own _ _) => Q (.own i) ρ
  | some (.rd _ _) => Q (.own i) ρ
  | some (.ext _ _ _) => Q (.own i) ρ
  | _ => False
def dC (d : PyData) : DTE := fun ρ Q => Q (.dat d) ρ
section
variable {X : Cx} {e a b : Expr} {es : List Expr} {te ta tb : DTE} {pos : Pos}
theorem de_slot {i : Nat} (h : PE X e (tVar i)) : DE X e (dVar i) := by
  refine pe_imp h fun σ H Q q => ?_
  obtain ⟨B, ρ, Q0, R, q, k⟩ := q
  unfold dVar at q
  cases e : ρ[i]? with
  | none => rw [e] at q; exact q.elim
  | some s =>
    rw [e] at q
    obtain ⟨o, eo, ok⟩ := R.ok i s e
    cases s with
    | no => exact q.elim
    | dat d =>
      obtain ⟨v, rfl, r⟩ := ok
      exact ⟨v, eo, k _ ρ v H q R r (Stp.refl _ _)⟩
    | own a ds =>
      obtain ⟨rfl, _⟩ := ok
      exact ⟨_, eo, k _ ρ _ H q R eo (Stp.refl _ _)⟩
    | rd a ds =>
      obtain ⟨rfl, _⟩ := ok
      exact ⟨_, eo, k _ ρ _ H q R eo (Stp.refl _ _)⟩
    | ext a fp P =>
      obtain ⟨rfl, _⟩ := ok
      exact ⟨_, eo, k _ ρ _ H q R eo (Stp.refl _ _)⟩
theorem dv (i : Nat) {x : Str} (hN : X.N[i]? = some x := by rfl) (hv : Vis X.env.scope x := by first | exact Or.inl rfl | exact Or.inr (Or.inl rfl) | exact Or.inr (Or.inr rfl)) (hd : (x == ("__debug__" : Str)) = false := by decide)
    (hcd : (x == ("__classdict__" : Str)) = false := by decide) : DE X (.Name x pos) (dVar i) := de_slot (pe_var hN hv hd hcd)
theorem de_k {v : V} {d : PyData} (h : PE X e (tC v)) (r : ∀ H, Rep X.K H d v) : DE X e (dC d) := by
  refine pe_imp h fun σ H Q q => ?_
  obtain ⟨B, ρ, Q0, R, q, k⟩ := q
  exact k _ ρ v H q R (r H) (Stp.refl _ _)
theorem de_int {i j} : DE X (.Constant (.int i) j pos) (dC (.int i)) := de_k pe_int fun _ => by rw [Rep]
theorem de_str {x j} : DE X (.Constant (.str x) j pos) (dC (.str x)) := de_k pe_str fun _ => by rw [Rep]
theorem de_bl {x j} : DE X (.Constant (.bool x) j pos) (dC (.bool x)) := de_k pe_bl fun _ => by rw [Rep]
theorem de_non {j} : DE X (.Constant .none j pos) (dC .none) := de_k pe_non fun _ => by rw [Rep]
/-- a module's constant -/
theorem de_glob {x : Str} {v : V} {u : Value} {d : PyData} (hg : Gl X x) (hm : X.mg x = some u) (r : RelV v u) (q : ∀ H, Rep X.K H d v) (hd : (x == ("__debug__" : Str)) = false := by decide) : DE X (.Name x pos) (dC d) := de_k (pe_glob hg hm r hd) q

/-! ### operators, by trees -/
abbrev Fn := Rho → List Rv → (PyData → Prop) → Prop
/-- a two-place operation that changes nothing -/
def OpD (X : Cx) (f : Value → Value → Sem Value) (r : Fn) : Prop :=
  ∀ (pins : List (Addr × Obj)) (s : Shared) (σ : L2.St) (H : Hp) (x y : V) (v u : Value) (Q : VK) (B : Bs) (ρ : Rho) (r1 r2 : Rv) (C : PyData → Prop), Inv X pins σ H s → RelV x v → RelV y u → Rel X.K B ρ σ H → RvOk X.K H σ r1 x → RvOk X.K H σ r2 y →
    r ρ [r1, r2] C → (∀ d w H', C d → Same H H' → Rep X.K H' d w → Q w H') → wpAny (model X.prog X.w) X.A (f v u) (EP X pins σ Q) X.xe s
/-- from the hand layer's rule -/
theorem opD_of {f : Value → Value → Sem Value} {r0 : R2} {r : Fn} (h : OpR X f r0)
    (i : ∀ (σ : L2.St) (H : Hp) (x y : V) (B : Bs) (ρ : Rho) (r1 r2 : Rv) (C : PyData → Prop) (Q : VK), Rel X.K B ρ σ H → RvOk X.K H σ r1 x → RvOk X.K H σ r2 y → r ρ [r1, r2] C → (∀ d w H', C d → Same H H' → Rep X.K H' d w → Q w H') → r0 x y H Q) : OpD X f r :=
  fun pins s σ H x y v u Q B ρ r1 r2 C I rx ry R k1 k2 q c => h pins s σ H x y v u Q I rx ry (i σ H x y B ρ r1 r2 C Q R k1 k2 q c)
def dOp (r : Fn) (ta tb : DTE) : DTE := fun ρ Q => ta ρ fun r1 ρ1 => tb ρ1 fun r2 ρ2 => r ρ2 [r1, r2] fun d => Q (.dat d) ρ2
/-- both operands, and then -/
theorem lift2 {σ : L2.St} {H : Hp} {B : Bs} {ρ : Rho} {F : Rv → Rv → Rho → Prop} {R2' : V → V → Hp → Prop} (R : Rel X.K B ρ σ H) (h : ta ρ fun r1 ρ1 => tb ρ1 fun r2 ρ2 => F r1 r2 ρ2)
    (k : ∀ r1 r2 ρ2 x y H2, F r1 r2 ρ2 → Rel X.K B ρ2 σ H2 → RvOk X.K H2 σ r1 x → RvOk X.K H2 σ r2 y → Stp ρ H ρ2 H2 → R2' x y H2) : lift X.K ta σ H fun x H1 => lift X.K tb σ H1 fun y H2 => R2' x y H2 :=
  ⟨B, ρ, _, R, h, fun r1 ρ1 x H1 q1 R1 k1 s1 => ⟨B, ρ1, _, R1, q1, fun r2 ρ2 y H2 q2 R2 k2 s2 => k r1 r2 ρ2 x y H2 q2 R2 (k1.mono s2.kp) k2 (s1.trans s2)⟩⟩
theorem de_op {op : Operator} {r : Fn} (ho : OpD X (binaryOp op) r) (ha : DE X a ta) (hb : DE X b tb) : DE X (.BinOp a op b pos) (dOp r ta tb) := by
  refine ⟨fun pins s σ H Q I h => ?_⟩
  obtain ⟨B, ρ, Q0, R, q, k⟩ := h
  refine wpAny_BinOp (bin ha hb I (lift2 (F := fun r1 r2 ρ2 => r ρ2 [r1, r2] fun d => Q0 (.dat d) ρ2) (R2' := fun x y H2 => ∃ r1 r2 ρ2, (r ρ2 [r1, r2] fun d => Q0 (.dat d) ρ2) ∧ Rel X.K B ρ2 σ H2 ∧ RvOk X.K H2 σ r1 x ∧ RvOk X.K H2 σ r2 y ∧ Stp ρ H ρ2 H2) R q
    fun r1 r2 ρ2 x y H2 c R2 k1 k2 s2 => ⟨r1, r2, ρ2, c, R2, k1, k2, s2⟩) fun v u s2 x y H2 I2 rx ry ⟨r1, r2, ρ2, c, R2, k1, k2, st⟩ => ?_)
  exact ho pins s2 σ H2 x y v u Q B ρ2 r1 r2 _ I2 rx ry R2 k1 k2 c fun d w H' cd sm rp => k _ ρ2 w H' cd (R2.same sm) rp (st.trans (Stp.same sm))
theorem de_cmp {op : CmpOp} {r : Fn} (ho : OpD X (compareOp op) r) (ha : DE X a ta) (hb : DE X b tb) (hm : behindInMarks op b = false := by first | exact nomark _ | rfl) : DE X (.Compare a [op] [b] pos) (dOp r ta tb) := by
  refine ⟨fun pins s σ H Q I h => ?_⟩
  obtain ⟨B, ρ, Q0, R, q, k⟩ := h
  refine wpAny_Compare1 (bin ha hb I (lift2 (F := fun r1 r2 ρ2 => r ρ2 [r1, r2] fun d => Q0 (.dat d) ρ2) (R2' := fun x y H2 => ∃ r1 r2 ρ2, (r ρ2 [r1, r2] fun d => Q0 (.dat d) ρ2) ∧ Rel X.K B ρ2 σ H2 ∧ RvOk X.K H2 σ r1 x ∧ RvOk X.K H2 σ r2 y ∧ Stp ρ H ρ2 H2) R q
    fun r1 r2 ρ2 x y H2 c R2 k1 k2 s2 => ⟨r1, r2, ρ2, c, R2, k1, k2, s2⟩) fun v u s2 x y H2 I2 rx ry ⟨r1, r2, ρ2, c, R2, k1, k2, st⟩ => ?_) hm
  exact ho pins s2 σ H2 x y v u Q B ρ2 r1 r2 _ I2 rx ry R2 k1 k2 c fun d w H' cd sm rp => k _ ρ2 w H' cd (R2.same sm) rp (st.trans (Stp.same sm))
/-- a value that is a truth, as a test -/
def dB (t : DTE) : DTT := fun ρ Q => t ρ fun r ρ1 => ∃ b, r = .dat (.bool b) ∧ Q b ρ1
theorem dt_val {t : DTE} (h : DE X e t) (he : ∀ whole, isTrue e X.env whole = (do let v ← whole; standAt e.pos; holding [v] (truthy v)) := by intro _; rfl) : DT X e (dB t) := by
  refine pt_imp (pt_val h he) fun σ H Q q => ?_
  obtain ⟨B, ρ, Q0, R, q, k⟩ := q
  refine ⟨B, ρ, _, R, q, fun r ρ1 v H1 q1 R1 k1 s1 => ?_⟩
  obtain ⟨b, rfl, q1⟩ := q1
  have k1 : Rep X.K H1 (.bool b) v := k1
  rw [Rep] at k1
  exact ⟨b, k1, k b ρ1 H1 q1 R1 s1⟩
theorem dt_cmp {op : CmpOp} {r : Fn} (ho : OpD X (compareOp op) r) (ha : DE X a ta) (hb : DE X b tb) (hm : behindInMarks op b = false := by first | exact nomark _ | rfl) : DT X (.Compare a [op] [b] pos) (dB (dOp r ta tb)) := by
  refine ⟨fun pins s σ H Q I h => ?_⟩
  obtain ⟨B, ρ, Q0, R, q, k⟩ := h
  refine wpAny_isTrue_Compare1 (bin ha hb I (lift2 (F := fun r1 r2 ρ2 => r ρ2 [r1, r2] fun d => ∃ b, Rv.dat d = .dat (.bool b) ∧ Q0 b ρ2) (R2' := fun x y H2 => ∃ r1 r2 ρ2, (r ρ2 [r1, r2] fun d => ∃ b, Rv.dat d = .dat (.bool b) ∧ Q0 b ρ2) ∧ Rel X.K B ρ2 σ H2 ∧ RvOk X.K H2 σ r1 x ∧ RvOk X.K H2 σ r2 y ∧ Stp ρ H ρ2 H2) R q
    fun r1 r2 ρ2 x y H2 c R2 k1 k2 s2 => ⟨r1, r2, ρ2, c, R2, k1, k2, s2⟩) fun v u s2 x y H2 I2 rx ry ⟨r1, r2, ρ2, c, R2, k1, k2, st⟩ => ?_) hm
  refine thn (ho pins s2 σ H2 x y v u (fun w H3 => ∃ b, w = .bl b ∧ Q b H3) B ρ2 r1 r2 _ I2 rx ry R2 k1 k2 c fun d w H' cd sm rp => ?_) fun c s3 ⟨x, H3, I3, r3, q3⟩ => ?_
  · obtain ⟨b, e, cd⟩ := cd
    have e : d = .bool b := by injection e
    subst e
    rw [Rep] at rp
    exact ⟨b, rp, k b ρ2 H' cd (R2.same sm) (st.trans (Stp.same sm))⟩
  · obtain ⟨b, rfl, q3⟩ := q3
    cases r3
    exact wpAny_truthy_bool ⟨H3, I3, q3⟩

/-! ### and, or, not, if -/
variable {tA tB : DTT} {rest : List Expr}
def dAnd (t u : DTT) : DTT := fun ρ Q => t ρ fun c ρ1 => (c = true → u ρ1 Q) ∧ (c = false → Q false ρ1)
def dOr (t u : DTT) : DTT := fun ρ Q => t ρ fun c ρ1 => (c = true → Q true ρ1) ∧ (c = false → u ρ1 Q)
def dNot (t : DTT) : DTT := fun ρ Q => t ρ fun c ρ1 => Q (!c) ρ1
theorem pw_imp {X : Cx} {e : Expr} {t t' : TT} (h : PW X e t) (i : ∀ σ H Q, t' σ H Q → t σ H Q) : PW X e t' := ⟨fun wh pins s σ H Q I q => h.run wh pins s σ H Q I (i σ H Q q)⟩
theorem dw_and1 (ha : DT X a tA) : DW X (.BoolOp .And [a] pos) tA := pw_and1 ha
theorem dw_or1 (ha : DT X a tA) : DW X (.BoolOp .Or [a] pos) tA := pw_or1 ha
theorem dw_and (ha : DT X a tA) (hb : DW X (.BoolOp .And (b :: rest) pos) tB) : DW X (.BoolOp .And (a :: b :: rest) pos) (dAnd tA tB) := by
  refine pw_imp (pw_and ha hb) fun σ H Q q => ?_
  obtain ⟨B, ρ, Q0, R, q, k⟩ := q
  refine ⟨B, ρ, _, R, q, fun c ρ1 H1 q1 R1 s1 => ?_⟩
  cases c with
  | true => exact iteT ⟨B, ρ1, _, R1, q1.1 rfl, fun c ρ2 H2 q2 R2 s2 => k c ρ2 H2 q2 R2 (s1.trans s2)⟩
  | false => exact iteF (k false ρ1 H1 (q1.2 rfl) R1 s1)
theorem dw_or (ha : DT X a tA) (hb : DW X (.BoolOp .Or (b :: rest) pos) tB) : DW X (.BoolOp .Or (a :: b :: rest) pos) (dOr tA tB) := by
  refine pw_imp (pw_or ha hb) fun σ H Q q => ?_
  obtain ⟨B, ρ, Q0, R, q, k⟩ := q
  refine ⟨B, ρ, _, R, q, fun c ρ1 H1 q1 R1 s1 => ?_⟩
  cases c with
  | true => exact iteT (k true ρ1 H1 (q1.1 rfl) R1 s1)
  | false => exact iteF ⟨B, ρ1, _, R1, q1.2 rfl, fun c ρ2 H2 q2 R2 s2 => k c ρ2 H2 q2 R2 (s1.trans s2)⟩
theorem dt_w {t : DTT} (h : DW X e t) : DT X e t := PW.pt h
theorem dt_not (ha : DT X a tA) : DT X (.UnaryOp .Not a pos) (dNot tA) := by
  refine pt_imp (pt_not ha) fun σ H Q q => ?_
  obtain ⟨B, ρ, Q0, R, q, k⟩ := q
  exact ⟨B, ρ, _, R, q, fun c ρ1 H1 q1 R1 s1 => k _ ρ1 H1 q1 R1 s1⟩
/-- the same as values: truths -/
def dAndV (ta tb : DTE) : DTE := fun ρ Q => ta ρ fun r ρ1 => ∃ c, r = .dat (.bool c) ∧ (c = true → tb ρ1 Q) ∧ (c = false → Q (.dat (.bool false)) ρ1)
def dOrV (ta tb : DTE) : DTE := fun ρ Q => ta ρ fun r ρ1 => ∃ c, r = .dat (.bool c) ∧ (c = true → Q (.dat (.bool true)) ρ1) ∧ (c = false → tb ρ1 Q)
def dNotV (ta : DTE) : DTE := fun ρ Q => ta ρ fun r ρ1 => ∃ c, r = .dat (.bool c) ∧ Q (.dat (.bool (!c))) ρ1
theorem de_one {op} {t : DTE} (h : DE X a t) : DE X (.BoolOp op [a] pos) t := pe_one h
theorem rv_bool (K : PySem.W.Frag) (H : Hp) (σ : L2.St) (c : Bool) : RvOk K H σ (.dat (.bool c)) (.bl c) := by
  show Rep K H (.bool c) (.bl c)
  rw [Rep]
theorem de_and (ha : DE X a ta) (hb : DE X (.BoolOp .And (b :: rest) pos) tb) : DE X (.BoolOp .And (a :: b :: rest) pos) (dAndV ta tb) := by
  refine pe_imp (pe_and ha hb) fun σ H Q q => ?_
  obtain ⟨B, ρ, Q0, R, q, k⟩ := q
  refine ⟨B, ρ, _, R, q, fun r ρ1 v H1 q1 R1 k1 s1 => ?_⟩
  obtain ⟨c, rfl, q2, q3⟩ := q1
  have k1 : Rep X.K H1 (.bool c) v := k1
  rw [Rep] at k1
  refine ⟨c, k1, ?_⟩
  cases c with
  | true => exact iteT ⟨B, ρ1, _, R1, q2 rfl, fun r ρ2 v H2 q2 R2 k2 s2 => k r ρ2 v H2 q2 R2 k2 (s1.trans s2)⟩
  | false => exact iteF (k _ ρ1 _ H1 (q3 rfl) R1 (rv_bool _ _ _ _) s1)
theorem de_or (ha : DE X a ta) (hb : DE X (.BoolOp .Or (b :: rest) pos) tb) : DE X (.BoolOp .Or (a :: b :: rest) pos) (dOrV ta tb) := by
  refine pe_imp (pe_or ha hb) fun σ H Q q => ?_
  obtain ⟨B, ρ, Q0, R, q, k⟩ := q
  refine ⟨B, ρ, _, R, q, fun r ρ1 v H1 q1 R1 k1 s1 => ?_⟩
  obtain ⟨c, rfl, q2, q3⟩ := q1
  have k1 : Rep X.K H1 (.bool c) v := k1
  rw [Rep] at k1
  refine ⟨c, k1, ?_⟩
  cases c with
  | true => exact iteT (k _ ρ1 _ H1 (q2 rfl) R1 (rv_bool _ _ _ _) s1)
  | false => exact iteF ⟨B, ρ1, _, R1, q3 rfl, fun r ρ2 v H2 q2 R2 k2 s2 => k r ρ2 v H2 q2 R2 k2 (s1.trans s2)⟩
theorem de_not (ha : DE X a ta) : DE X (.UnaryOp .Not a pos) (dNotV ta) := by
  refine pe_imp (pe_not ha) fun σ H Q q => ?_
  obtain ⟨B, ρ, Q0, R, q, k⟩ := q
  refine ⟨B, ρ, _, R, q, fun r ρ1 v H1 q1 R1 k1 s1 => ?_⟩
  obtain ⟨c, rfl, q2⟩ := q1
  have k1 : Rep X.K H1 (.bool c) v := k1
  rw [Rep] at k1
  exact ⟨c, k1, k _ ρ1 _ H1 q2 R1 (rv_bool _ _ _ _) s1⟩
def dIf (t : DTT) (ta tb : DTE) : DTE := fun ρ Q => t ρ fun c ρ1 => (c = true → ta ρ1 Q) ∧ (c = false → tb ρ1 Q)
theorem de_if {c : Expr} (hc : DT X c tA) (ha : DE X a ta) (hb : DE X b tb) : DE X (.IfExp c a b pos) (dIf tA ta tb) := by
  refine pe_imp (pe_ifExp hc ha hb) fun σ H Q q => ?_
  obtain ⟨B, ρ, Q0, R, q, k⟩ := q
  refine ⟨B, ρ, _, R, q, fun c ρ1 H1 q1 R1 s1 => ?_⟩
  cases c with
  | true => exact iteT ⟨B, ρ1, _, R1, q1.1 rfl, fun r ρ2 v H2 q2 R2 k2 s2 => k r ρ2 v H2 q2 R2 k2 (s1.trans s2)⟩
  | false => exact iteF ⟨B, ρ1, _, R1, q1.2 rfl, fun r ρ2 v H2 q2 R2 k2 s2 => k r ρ2 v H2 q2 R2 k2 (s1.trans s2)⟩

/-! ### arguments, tuples, lists -/
def dNil : DTA := fun ρ Q => Q [] ρ
def dCons (te : DTE) (tr : DTA) : DTA := fun ρ Q => te ρ fun r ρ1 => tr ρ1 fun rs ρ2 => Q (r :: rs) ρ2
variable {tr : DTA}
theorem da_nil : DA X [] dNil := by
  refine pa_imp pa_nil fun σ H Q q => ?_
  obtain ⟨B, ρ, Q0, R, q, k⟩ := q
  exact k [] ρ [] H q R rfl (Stp.refl _ _)
theorem da_cons (ha : DE X e te) (hr : DA X es tr) (hs : starEach (e :: es) X.env = (false, eval e X.env) :: starEach es X.env := by rfl) : DA X (e :: es) (dCons te tr) := by
  refine pa_imp (pa_cons ha hr hs) fun σ H Q q => ?_
  obtain ⟨B, ρ, Q0, R, q, k⟩ := q
  exact ⟨B, ρ, _, R, q, fun r ρ1 v H1 q1 R1 k1 s1 => ⟨B, ρ1, _, R1, q1, fun rs ρ2 vs H2 q2 R2 k2 s2 => k _ ρ2 _ H2 q2 R2 ⟨v, vs, rfl, k1.mono s2.kp, k2⟩ (s1.trans s2)⟩⟩
/-- they are all trees -/
def dats : List Rv → Option (List PyData)
  | [] => some []
  | .dat d :: r => (dats r).map (d :: ·)
  | .own _ :: _ => none
theorem dats_ok {K : PySem.W.Frag} {H : Hp} {σ : L2.St} : ∀ {rs : List Rv} {vs : List V} {ds : List PyData}, dats rs = some ds → RvsOk K H σ rs vs → RepA K H ds vs
  | [], vs, ds, e, h => by
    have e' : [] = ds := Option.some.inj e
    subst e'
    have h : vs = [] := h
    subst h
    exact RepA.nil
  | .dat d :: r, vs, ds, e, h => by
    obtain ⟨v, us, rfl, h1, h2⟩ := h
    cases er : dats r with
    | none => rw [dats, er] at e; cases e
    | some dr =>
      rw [dats, er] at e
      have e' : d :: dr = ds := Option.some.inj e
      subst e'
      exact RepA.cons h1 (dats_ok er h2)
  | .own i :: r, vs, ds, e, h => by cases e
def dTup (t : DTA) : DTE := fun ρ Q => t ρ fun rs ρ1 => ∃ ds, dats rs = some ds ∧ ds.length ≤ sizeLine ∧ Q (.dat (.tuple ds)) ρ1
theorem de_tup {x1} {t : DTA} (h : DA X es t) : DE X (.Tuple es x1 pos) (dTup t) := by
  refine pe_imp (pe_tup h) fun σ H Q q => ?_
  obtain ⟨B, ρ, Q0, R, q, k⟩ := q
  refine ⟨B, ρ, _, R, q, fun rs ρ1 vs H1 q1 R1 k1 s1 => ?_⟩
  obtain ⟨ds, ed, hz, q1⟩ := q1
  have ra := dats_ok ed k1
  refine ⟨by rw [← ra.length]; exact hz, fun p np => ?_⟩
  have sm : Same H1 (upd H1 p (.tup vs)) := same_new np
  refine k _ ρ1 _ _ q1 (R1.same sm) ?_ (s1.trans (Stp.same sm))
  show Rep X.K _ (.tuple ds) (.ref p)
  rw [Rep]
  exact ⟨p, vs, rfl, SqT.of upd_same, ra.mono (Kp.same sm) _ _⟩
def nLst (t : DTA) : DTN := fun ρ Q => t ρ fun rs ρ1 => ∃ ds, dats rs = some ds ∧ ds.length ≤ sizeLine ∧ Q ds ρ1
theorem dn_lst {t : DTA} (h : DA X es t) : DN X (.List es pos) (nLst t) := by
  refine pe_imp (pe_lst h) fun σ H Q q => ?_
  obtain ⟨B, ρ, Q0, R, q, k⟩ := q
  refine ⟨B, ρ, _, R, q, fun rs ρ1 vs H1 q1 R1 k1 s1 => ?_⟩
  obtain ⟨ds, ed, hz, q1⟩ := q1
  have ra := dats_ok ed k1
  refine ⟨by rw [← ra.length]; exact hz, fun p np => ?_⟩
  have sm : Same H1 (upd H1 p (.lst vs)) := same_new np
  obtain ⟨f0, f1⟩ := R1.new np
  exact k _ ρ1 p vs _ q1 (R1.same sm) upd_same (ra.mono (Kp.same sm) _ _) (s1.none np) f0 f1 (s1.trans (Stp.same sm))
/-- a new list, frozen at once -/
def dNew (t : DTN) : DTE := fun ρ Q => t ρ fun ds ρ1 => Q (.dat (.list ds)) ρ1
theorem de_new {t : DTN} (h : DN X e t) : DE X e (dNew t) := by
  refine pe_imp (pe_gh h) fun σ H Q q => ?_
  obtain ⟨B, ρ, Q0, R, q, k⟩ := q
  refine ⟨B, ρ, _, R, q, fun ds ρ1 p vs H1 q1 R1 hp ra hn f0 f1 s1 => ?_⟩
  intro pins σ' s I
  obtain ⟨o, I2⟩ := inv_freeze I hp
  have kp : Kp H1 (upd H1 p (.frz o (.lst vs))) := Kp.lst hp
  refine ⟨_, I2, k _ ρ1 _ _ q1 (R1.aside kp f0 f1) ?_ ⟨s1.kp.trans kp, fun b n => th_upd b (s1.th b n), fun b u e n => ?_⟩⟩
  · show Rep X.K _ (.list ds) (.ref p)
    rw [Rep]
    exact ⟨p, vs, rfl, .inl ⟨o, upd_same⟩, ra.mono kp _ _⟩
  · obtain ⟨e1, n1⟩ := s1.fr b u e n
    rw [upd_ne (ne_of_none e hn)]
    exact ⟨e1, n1⟩
end
end DL

/-! DL: statements, targets, loops, comprehensions. -/
namespace DL
open PySem PySem.Spec L2

structure DEnds where
  nx : Rho → Prop
  rt : PyData → Rho → Prop
  bk : Rho → Prop := fun _ => False
  ct : Rho → Prop := fun _ => False
abbrev DTS := DEnds → Rho → Prop
structure EndOk (K : PySem.W.Frag) (B : Bs) (H : Hp) (E : DEnds) (D : Ends) : Prop where
  nx : ∀ ρ' σ' H', E.nx ρ' → Rel K B ρ' σ' H' → Kp H H' → D.nx σ' H'
  rt : ∀ d ρ' v σ' H', E.rt d ρ' → Rel K B ρ' σ' H' → Rep K H' d v → Kp H H' → D.rt v H'
  bk : ∀ ρ' σ' H', E.bk ρ' → Rel K B ρ' σ' H' → Kp H H' → D.bk σ' H'
  ct : ∀ ρ' σ' H', E.ct ρ' → Rel K B ρ' σ' H' → Kp H H' → D.ct σ' H'
theorem EndOk.kp {K : PySem.W.Frag} {B : Bs} {H H1 : Hp} {E : DEnds} {D : Ends} (e : EndOk K B H E D) (k : Kp H H1) : EndOk K B H1 E D :=
  ⟨fun a b c d f g => e.nx a b c d f (k.trans g), fun a b c d h p q r g => e.rt a b c d h p q r (k.trans g), fun a b c d f g => e.bk a b c d f (k.trans g), fun a b c d f g => e.ct a b c d f (k.trans g)⟩
def liftS (K : PySem.W.Frag) (t : DTS) : TS := fun D σ H => ∃ B ρ E, Rel K B ρ σ H ∧ t E ρ ∧ EndOk K B H E D
def DP (X : Cx) (st : Stmt) (t : DTS) : Prop := PS X st (liftS X.K t)
def DPs (X : Cx) (sts : List Stmt) (t : DTS) : Prop := PSs X sts (liftS X.K t)

section
variable {X : Cx} {e a b : Expr} {es : List Expr} {te ta tb : DTE} {tn : DTN} {pos pos' : Pos} {st : Stmt} {rest : List Stmt} {t u : DTS} {tc : DTT}
def dNext : DTS := fun E ρ => E.nx ρ
def dSeq (t u : DTS) : DTS := fun E ρ => t { E with nx := u E } ρ
theorem dps_nil : DPs X [] dNext := pss_imp pss_nil fun D σ H h => by
  obtain ⟨B, ρ, E, R, q, k⟩ := h
  exact k.nx ρ σ H q R (Kp.refl H)
theorem dps_cons (h1 : DP X st t) (h2 : DPs X rest u) : DPs X (st :: rest) (dSeq t u) := pss_imp (pss_cons h1 h2) fun D σ H h => by
  obtain ⟨B, ρ, E, R, q, k⟩ := h
  exact ⟨B, ρ, _, R, q, fun ρ' σ' H' q' R' kp => ⟨B, ρ', E, R', q', k.kp kp⟩, k.rt, k.bk, k.ct⟩
theorem dps_one (h : DP X st t) : DPs X [st] t := pss_one h
def dBreak : DTS := fun E ρ => E.bk ρ
def dCont : DTS := fun E ρ => E.ct ρ
theorem dp_pass : DP X (.Pass pos) dNext := ps_imp ps_pass fun D σ H ⟨B, ρ, E, R, q, k⟩ => k.nx ρ σ H q R (Kp.refl H)
theorem dp_break : DP X (.Break pos) dBreak := ps_imp ps_break fun D σ H ⟨B, ρ, E, R, q, k⟩ => k.bk ρ σ H q R (Kp.refl H)
theorem dp_continue : DP X (.Continue pos) dCont := ps_imp ps_continue fun D σ H ⟨B, ρ, E, R, q, k⟩ => k.ct ρ σ H q R (Kp.refl H)
def dNever : DTS := fun _ _ => False
theorem dp_never : DP X st dNever := ps_imp ps_never fun D σ H ⟨B, ρ, E, R, q, k⟩ => q
theorem dps_never {sts : List Stmt} : DPs X sts dNever := pss_imp pss_never fun D σ H ⟨B, ρ, E, R, q, k⟩ => q
/-- an expression whose value is dropped -/
def dDrop (te : DTE) : DTS := fun E ρ => te ρ fun _ ρ1 => E.nx ρ1
theorem dp_expr (he : DE X e te) (hs : swapsWith e none pos.line X.env = pure false := by rfl) : DP X (.Expr e pos) (dDrop te) := ps_imp (ps_expr he hs) fun D σ H ⟨B, ρ, E, R, q, k⟩ =>
  ⟨B, ρ, _, R, q, fun r ρ1 v H1 q1 R1 _ s1 => k.nx ρ1 σ H1 q1 R1 s1.kp⟩
/-- name = a tree -/
def dSet (i : Nat) (te : DTE) : DTS := fun E ρ => te ρ fun r ρ1 => ∃ d, r = .dat d ∧ E.nx (ρ1.set i (.dat d))
theorem dp_set {i : Nat} {x : Str} (hN : X.N.Nodup) (hi : X.N[i]? = some x) (hx : Loc X.env.scope x) (he : DE X e te) (hs : swapsWith e (some (.Name x pos')) pos.line X.env = pure false := by rfl) (hf : X.fn x = true ∨ X.env.scope.names.lookup x = some .local := by first | exact .inl rfl | exact .inr rfl | assumption) :
    DP X (.Assign [.Name x pos'] e pos) (dSet i te) := ps_imp (ps_set hN hi hx he hs hf) fun D σ H ⟨B, ρ, E, R, q, k⟩ => by
  refine ⟨B, ρ, _, R, q, fun r ρ1 v H1 q1 R1 k1 s1 => ?_⟩
  obtain ⟨d, rfl, q1⟩ := q1
  exact k.nx _ _ H1 q1 (R1.setDat i k1) s1.kp
/-- name = a new list, which is ours -/
def dSetN (i : Nat) (t : DTN) : DTS := fun E ρ => t ρ fun ds ρ1 => ∀ p, E.nx (ρ1.set i (.own p ds))
theorem dp_setN {i : Nat} {x : Str} (hN : X.N.Nodup) (hi : X.N[i]? = some x) (hx : Loc X.env.scope x) (he : DN X e tn) (hs : swapsWith e (some (.Name x pos')) pos.line X.env = pure false := by rfl) (hf : X.fn x = true ∨ X.env.scope.names.lookup x = some .local := by first | exact .inl rfl | exact .inr rfl | assumption) :
    DP X (.Assign [.Name x pos'] e pos) (dSetN i tn) := ps_imp (ps_set hN hi hx he hs hf) fun D σ H ⟨B, ρ, E, R, q, k⟩ =>
  ⟨B, ρ, _, R, q, fun ds ρ1 p vs H1 q1 R1 hp ra hn f0 f1 s1 => k.nx _ _ H1 (q1 p) (R1.setOwn i hp ra f0 f1) s1.kp⟩
/-- return -/
def dRet (te : DTE) : DTS := fun E ρ => te ρ fun r ρ1 => match r with
  | .dat d => E.rt d ρ1
  | .own i => ∃ a ds, ρ1[i]? = some (.own a ds) ∧ E.rt (.list ds) (ρ1.set i (.dat (.list ds)))
theorem dp_ret (he : DE X e te) : DP X (.Return (some e) pos) (dRet te) := ps_imp (ps_ret (pe_gh he)) fun D σ H ⟨B, ρ, E, R, q, k⟩ => by
  refine ⟨B, ρ, _, R, q, fun r ρ1 v H1 q1 R1 k1 s1 => ?_⟩
  intro pins σ' s I
  cases r with
  | dat d => exact ⟨H1, I, k.rt d ρ1 v σ H1 q1 R1 k1 s1.kp⟩
  | own i =>
    obtain ⟨a, ds, ei, q1⟩ := q1
    obtain ⟨o, eo, ok⟩ := R1.ok i _ ei
    obtain ⟨rfl, vs, hv, ra⟩ := ok
    have k1 : σ[i]? = some (some v) := k1
    rw [eo] at k1
    have ev : V.ref a = v := Option.some.inj (Option.some.inj k1)
    subst ev
    obtain ⟨ob, I2⟩ := inv_freeze I hv
    have kp : Kp H1 (upd H1 a (.frz ob (.lst vs))) := Kp.lst hv
    refine ⟨_, I2, k.rt _ _ _ σ _ q1 (R1.freeze ei hv ra ob) ?_ (s1.kp.trans kp)⟩
    rw [Rep]
    exact ⟨a, vs, rfl, .inl ⟨ob, upd_same⟩, ra.mono kp _ _⟩
def dRetN : DTS := fun E ρ => E.rt .none ρ
theorem dp_retN : DP X (.Return none pos) dRetN := ps_imp ps_retN fun D σ H ⟨B, ρ, E, R, q, k⟩ => k.rt .none ρ .non σ H q R (by rw [Rep]) (Kp.refl H)
def dIfS (tc : DTT) (t u : DTS) : DTS := fun E ρ => tc ρ fun c ρ1 => (c = true → t E ρ1) ∧ (c = false → u E ρ1)
theorem dp_if {c : Expr} {a b : List Stmt} (hc : DT X c tc) (ha : DPs X a t) (hb : DPs X b u) : DP X (.If c a b pos) (dIfS tc t u) := ps_imp (ps_if hc ha hb) fun D σ H ⟨B, ρ, E, R, q, k⟩ => by
  refine ⟨B, ρ, _, R, q, fun c ρ1 H1 q1 R1 s1 => ?_⟩
  cases c with
  | true => exact iteT ⟨B, ρ1, E, R1, q1.1 rfl, k.kp s1.kp⟩
  | false => exact iteF ⟨B, ρ1, E, R1, q1.2 rfl, k.kp s1.kp⟩
end

/-! ### targets -/
abbrev DTG := PyData → Rho → (Rho → Prop) → Prop
abbrev DTGs := List PyData → Rho → (Rho → Prop) → Prop
/-- outside ix nothing was stored -/
def Out (ix : List Nat) (σ σ' : L2.St) : Prop := σ'.length = σ.length ∧ ∀ j, j ∉ ix → σ'[j]? = σ[j]?
theorem Out.refl (ix : List Nat) (σ : L2.St) : Out ix σ σ := ⟨rfl, fun _ _ => rfl⟩
theorem Out.trans {ix iy : List Nat} {σ σ1 σ2 : L2.St} (a : Out ix σ σ1) (b : Out iy σ1 σ2) : Out (ix ++ iy) σ σ2 :=
  ⟨b.1.trans a.1, fun j h => (b.2 j fun z => h (List.mem_append_right _ z)).trans (a.2 j fun z => h (List.mem_append_left _ z))⟩
def Sub (ρ' ρ : Rho) : Prop := ∀ b, InFp ρ' b → InFp ρ b
theorem Sub.setDat {ρ : Rho} {i : Nat} {d : PyData} : Sub (ρ.set i (.dat d)) ρ := fun b ⟨j, s, e, h⟩ => by
  rcases get_set e with ⟨rfl, rfl⟩ | ⟨hj, e⟩
  · exact h.elim
  · exact ⟨j, s, e, h⟩
def liftG (K : PySem.W.Frag) (ix : List Nat) (g : DTG) : TG := fun v σ H Q => ∃ B ρ d Q0, Rel K B ρ σ H ∧ Rep K H d v ∧ g d ρ Q0 ∧ ∀ ρ' σ', Q0 ρ' → Rel K B ρ' σ' H → Out ix σ σ' → Sub ρ' ρ → Q σ' H
def liftGs (K : PySem.W.Frag) (ix : List Nat) (g : DTGs) : TGs := fun vs σ H Q => ∃ B ρ ds Q0, Rel K B ρ σ H ∧ RepA K H ds vs ∧ g ds ρ Q0 ∧ ∀ ρ' σ', Q0 ρ' → Rel K B ρ' σ' H → Out ix σ σ' → Sub ρ' ρ → Q σ' H
def DG (X : Cx) (ix : List Nat) (e : Expr) (g : DTG) : Prop := PG X e (liftG X.K ix g)
def DGs (X : Cx) (ix : List Nat) (es : List Expr) (g : DTGs) : Prop := PGs X es (liftGs X.K ix g)
theorem pgs_imp {X : Cx} {es : List Expr} {t t' : TGs} (h : PGs X es t) (i : ∀ v σ H Q, t' v σ H Q → t v σ H Q) : PGs X es t' := ⟨fun pins s σ H v u Q I r q => h.run pins s σ H v u Q I r (i v σ H Q q)⟩
section
variable {X : Cx} {e : Expr} {es : List Expr} {pos : Pos} {ix iy : List Nat} {g : DTG} {gs : DTGs}
def dgName (i : Nat) : DTG := fun d ρ Q => Q (ρ.set i (.dat d))
theorem dg_name {i : Nat} {x : Str} (hN : X.N.Nodup) (hi : X.N[i]? = some x) (hx : Loc X.env.scope x) (hf : X.fn x = true ∨ X.env.scope.names.lookup x = some .local := by first | exact .inl rfl | exact .inr rfl | assumption) : DG X [i] (.Name x pos) (dgName i) :=
  pg_imp (pg_name hN hi hx hf) fun v σ H Q ⟨B, ρ, d, Q0, R, r, q, k⟩ => k _ _ q (R.setDat i r) ⟨by rw [List.length_set], fun j hj => List.getElem?_set_ne fun z => hj (by rw [z]; exact List.mem_singleton_self _)⟩ Sub.setDat
def dgNil : DTGs := fun ds ρ Q => ds = [] ∧ Q ρ
def dgCons (g : DTG) (gs : DTGs) : DTGs := fun ds ρ Q => ∃ d r, ds = d :: r ∧ g d ρ fun ρ' => gs r ρ' Q
theorem dgs_nil : DGs X [] [] dgNil := pgs_imp pgs_nil fun vs σ H Q ⟨B, ρ, ds, Q0, R, r, q, k⟩ => by
  obtain ⟨rfl, q⟩ := q
  rw [RepA] at r
  exact ⟨r, k _ _ q R (Out.refl _ _) fun _ z => z⟩
theorem dgs_cons (h1 : DG X ix e g) (h2 : DGs X iy es gs) (hs : (assignEach (e :: es) X.env).map (·.2) = assign e X.env :: (assignEach es X.env).map (·.2) := by rfl) : DGs X (ix ++ iy) (e :: es) (dgCons g gs) :=
  pgs_imp (pgs_cons h1 h2 hs) fun vs σ H Q ⟨B, ρ, ds, Q0, R, r, q, k⟩ => by
  obtain ⟨d, dr, rfl, q⟩ := q
  rw [RepA] at r
  obtain ⟨v, vr, rfl, r1, r2⟩ := r
  exact ⟨v, vr, rfl, B, ρ, d, _, R, r1, q, fun ρ1 σ1 q1 R1 o1 u1 => ⟨B, ρ1, dr, _, R1, r2, q1, fun ρ2 σ2 q2 R2 o2 u2 => k _ _ q2 R2 (o1.trans o2) fun b z => u1 b (u2 b z)⟩⟩
def dgTup (n : Nat) (gs : DTGs) : DTG := fun d ρ Q => ∃ ds, d = .tuple ds ∧ ds.length = n ∧ gs ds ρ Q
theorem dg_tup {k : Nat} {n : Nat} (hc : X.calm = true) (h : DGs X ix es gs) (hn : (assignEach es X.env).length = n := by rfl) (hst : (assignEach es X.env).findIdx? (·.1) = none := by rfl) : DG X ix (.Tuple es k pos) (dgTup n gs) :=
  pg_imp (pg_tup hc h hn hst) fun v σ H Q ⟨B, ρ, d, Q0, R, r, q, kk⟩ => by
  obtain ⟨ds, rfl, el, q⟩ := q
  rw [Rep] at r
  obtain ⟨a, xs, rfl, hs, ra⟩ := r
  exact ⟨a, xs, rfl, hs, by rw [← ra.length]; exact el, B, ρ, ds, _, R, ra, q, fun ρ' σ' q' R' o' u' => kk ρ' σ' q' R' o' u'⟩
/-- target = value -/
def dAsg (te : DTE) (g : DTG) : DTS := fun E ρ => te ρ fun r ρ1 => ∃ d, r = .dat d ∧ g d ρ1 E.nx
theorem dp_asg {tg : Expr} {te : DTE} (he : DE X e te) (hg : DG X ix tg g) (hs : swapsWithSole [tg] e pos.line X.env = pure false := by rfl) (hw : swappedStores [tg] e X.env = pure none := by rfl)
    (h1 : (assignEach [tg] X.env).map (·.2) = [assign tg X.env] := by rfl) : DP X (.Assign [tg] e pos) (dAsg te g) := ps_imp (ps_asg he hg hs hw h1) fun D σ H ⟨B, ρ, E, R, q, k⟩ => by
  refine ⟨B, ρ, _, R, q, fun r ρ1 v H1 q1 R1 k1 s1 => ?_⟩
  obtain ⟨d, rfl, q1⟩ := q1
  exact ⟨B, ρ1, d, _, R1, k1, q1, fun ρ' σ' q' R' _ _ => k.nx ρ' σ' H1 q' R' s1.kp⟩
/-- a, b = x, y (local names, trees) -/
def dPar (i j : Nat) (ta : DTA) : DTS := fun E ρ => ta ρ fun rs ρ1 => ∃ d d', rs = [.dat d, .dat d'] ∧ E.nx ((ρ1.set i (.dat d)).set j (.dat d'))
theorem dp_par {i j : Nat} {x y : Str} {a b : Expr} {ta : DTA} {px py pt : Pos} {kt k2 pt2} (hc : X.calm = true) (hN : X.N.Nodup) (hi : X.N[i]? = some x) (hj : X.N[j]? = some y) (hij : i ≠ j)
    (hx : X.env.scope.names.lookup x = some .local) (hy : X.env.scope.names.lookup y = some .local) (ha : DA X [a, b] ta)
    (hw : swappedStores [.Tuple [.Name x px, .Name y py] kt pt] (.Tuple [a, b] k2 pt2) X.env = pure (some [x, y]))
    (hs : swapsWithSole [.Tuple [.Name x px, .Name y py] kt pt] (.Tuple [a, b] k2 pt2) pos.line X.env = pure false := by rfl) :
    DP X (.Assign [.Tuple [.Name x px, .Name y py] kt pt] (.Tuple [a, b] k2 pt2) pos) (dPar i j ta) := ps_imp (ps_par hc hN hi hj hij hx hy ha hw hs) fun D σ H ⟨B, ρ, E, R, q, k⟩ => by
  refine ⟨B, ρ, _, R, q, fun rs ρ1 vs H1 q1 R1 k1 s1 => ?_⟩
  obtain ⟨d, d', rfl, q1⟩ := q1
  obtain ⟨v, u, rfl, r1, r2⟩ := k1.two
  exact ⟨v, u, rfl, k.nx _ _ H1 q1 ((R1.setDat i r1).setDat j r2) s1.kp⟩
def dPar3 (i j l : Nat) (ta : DTA) : DTS := fun E ρ => ta ρ fun rs ρ1 => ∃ d d' d'', rs = [.dat d, .dat d', .dat d''] ∧ E.nx (((ρ1.set i (.dat d)).set j (.dat d')).set l (.dat d''))
end
end DL

/-! DL: what is walked; for, while, comprehensions. -/
namespace DL
open PySem PySem.Spec L2

section
variable {X : Cx}
theorem dp_par3 {i j l : Nat} {x y z : Str} {a b c : Expr} {ta : DTA} {px py pz pt pos : Pos} {kt k2 pt2} (hc : X.calm = true) (hN : X.N.Nodup) (hi : X.N[i]? = some x) (hj : X.N[j]? = some y) (hl : X.N[l]? = some z) (hij : i ≠ j) (hil : i ≠ l) (hjl : j ≠ l)
    (hx : X.env.scope.names.lookup x = some .local) (hy : X.env.scope.names.lookup y = some .local) (hz : X.env.scope.names.lookup z = some .local) (ha : DA X [a, b, c] ta)
    (hw : swappedStores [.Tuple [.Name x px, .Name y py, .Name z pz] kt pt] (.Tuple [a, b, c] k2 pt2) X.env = pure (some [x, y, z]))
    (hs : swapsWithSole [.Tuple [.Name x px, .Name y py, .Name z pz] kt pt] (.Tuple [a, b, c] k2 pt2) pos.line X.env = pure false := by rfl) :
    DP X (.Assign [.Tuple [.Name x px, .Name y py, .Name z pz] kt pt] (.Tuple [a, b, c] k2 pt2) pos) (dPar3 i j l ta) := ps_imp (ps_par3 hc hN hi hj hl hij hil hjl hx hy hz ha hw hs) fun D σ H ⟨B, ρ, E, R, q, k⟩ => by
  refine ⟨B, ρ, _, R, q, fun rs ρ1 vs H1 q1 R1 k1 s1 => ?_⟩
  obtain ⟨d, d', d'', rfl, q1⟩ := q1
  obtain ⟨v, us, rfl, r0, k2⟩ := k1
  obtain ⟨u, w, rfl, r1, r2⟩ := k2.two
  exact ⟨v, u, w, rfl, k.nx _ _ H1 q1 (((R1.setDat i r0).setDat j r1).setDat l r2) s1.kp⟩
end

/-! ### lists that are read -/
def listOf (ρ : Rho) : Rv → Option (List PyData)
  | .dat (.list ds) => some ds
  | .own i => match ρ[i]? with
    | some (.own _ ds) => some ds
    | some (.rd _ ds) => some ds
    | _ => none
  | _ => none
def keepC (ρ1 : Rho) : Rv → Rho → Prop
  | .own i => fun ρ2 => ρ2[i]? = ρ1[i]?
  | _ => fun _ => True
theorem sql_at {K : PySem.W.Frag} {B : Bs} {ρ1 : Rho} {σ1 : L2.St} {H1 : Hp} {r : Rv} {v : V} {ds : List PyData} (R : Rel K B ρ1 σ1 H1) (k : RvOk K H1 σ1 r v) (e : listOf ρ1 r = some ds) :
    ∃ a, v = .ref a ∧ ∀ ρ2 σ2 H2, Rel K B ρ2 σ2 H2 → Kp H1 H2 → keepC ρ1 r ρ2 → ∃ vs, SqL K H2 a vs ∧ RepA K H2 ds vs := by
  cases r with
  | dat d =>
    cases d with
    | list xs =>
      have e : some xs = some ds := e
      cases e
      have k : Rep K H1 (.list _) v := k
      rw [Rep] at k
      obtain ⟨a, vs, rfl, f, ra⟩ := k
      exact ⟨a, rfl, fun ρ2 σ2 H2 R2 kp _ => ⟨vs, (f.mono kp).sq, ra.mono kp _ _⟩⟩
    | _ => cases e
  | own i =>
    have e : (match ρ1[i]? with | some (.own _ ds) => some ds | some (.rd _ ds) => some ds | _ => none) = some ds := e
    cases ei : ρ1[i]? with
    | none => rw [ei] at e; cases e
    | some s =>
      rw [ei] at e
      obtain ⟨o, eo, ok⟩ := R.ok i s ei
      have k : σ1[i]? = some (some v) := k
      rw [eo] at k
      have k : o = some v := Option.some.inj k
      cases s with
      | own a xs =>
        have e : some xs = some ds := e
        cases e
        obtain ⟨e2, _⟩ := ok
        rw [e2] at k
        cases k
        refine ⟨a, rfl, fun ρ2 σ2 H2 R2 kp c => ?_⟩
        have c : ρ2[i]? = ρ1[i]? := c
        rw [ei] at c
        obtain ⟨o2, eo2, _, vs, hv, ra⟩ := R2.ok i _ c
        exact ⟨vs, SqL.of hv, ra⟩
      | rd a xs =>
        have e : some xs = some ds := e
        cases e
        obtain ⟨e2, nm, vs, hv, ra⟩ := ok
        rw [e2] at k
        cases k
        exact ⟨a, rfl, fun ρ2 σ2 H2 R2 kp c => ⟨vs, SqL.of (R2.frame a _ hv nm), ra.mono R2.kp _ _⟩⟩
      | _ => cases e
theorem sql_now {K : PySem.W.Frag} {B : Bs} {ρ1 : Rho} {σ1 : L2.St} {H1 : Hp} {r : Rv} {v : V} {ds : List PyData} (R : Rel K B ρ1 σ1 H1) (k : RvOk K H1 σ1 r v) (e : listOf ρ1 r = some ds) : ∃ a vs, v = .ref a ∧ SqL K H1 a vs ∧ RepA K H1 ds vs := by
  obtain ⟨a, rfl, f⟩ := sql_at R k e
  obtain ⟨vs, h1, h2⟩ := f ρ1 σ1 H1 R (Kp.refl _) (by cases r <;> first | trivial | rfl)
  exact ⟨a, vs, rfl, h1, h2⟩

/-! ### what is walked -/
/-- the iterator J gives the trees ds, one after another, wherever c holds of the names -/
structure ItD (K : PySem.W.Frag) (B : Bs) (J : It) (ds : List PyData) (c : Rho → Prop) (H1 : Hp) : Prop where
  go : ∀ (i : Nat) (ρ : Rho) (σ : L2.St) (H : Hp), Rel K B ρ σ H → Kp H1 H → c ρ → i < ds.length → J.go i H
  stop : ∀ (i : Nat) (ρ : Rho) (σ : L2.St) (H : Hp), Rel K B ρ σ H → Kp H1 H → c ρ → ds.length ≤ i → J.stop i H
  yld : ∀ (i : Nat) (ρ : Rho) (σ : L2.St) (H : Hp) (x : V) (H' : Hp) (d : PyData), Rel K B ρ σ H → Kp H1 H → c ρ → J.yld i H x H' → ds[i]? = some d → Same H H' ∧ Rep K H' d x
abbrev DTI := Rho → (List PyData → (Rho → Prop) → Rho → Prop) → Prop
def liftI (K : PySem.W.Frag) (t : DTI) : TI := fun σ H R => ∃ B ρ Q0, Rel K B ρ σ H ∧ t ρ Q0 ∧ ∀ ds c ρ' J H', Q0 ds c ρ' → Rel K B ρ' σ H' → Stp ρ H ρ' H' → ItD K B J ds c H' → R J H'
def DI (X : Cx) (tg e : Expr) (t : DTI) : Prop := PI X tg e (liftI X.K t)
theorem getElem_lt {α : Type} {l : List α} {i : Nat} (h : i < l.length) : ∃ x, l[i]? = some x := ⟨l[i], List.getElem?_eq_getElem h⟩
theorem itd_list {K : PySem.W.Frag} {B : Bs} {a : Addr} {ds : List PyData} {c : Rho → Prop} {H1 : Hp} (f : ∀ ρ2 σ2 H2, Rel K B ρ2 σ2 H2 → Kp H1 H2 → c ρ2 → ∃ vs, SqL K H2 a vs ∧ RepA K H2 ds vs) : ItD K B (Itl K a) ds c H1 := by
  refine ⟨fun i ρ σ H R kp hc hi => ?_, fun i ρ σ H R kp hc hi => ?_, fun i ρ σ H x H' d R kp hc y e => ?_⟩
  · obtain ⟨vs, h1, h2⟩ := f ρ σ H R kp hc
    obtain ⟨x, ex⟩ := getElem_lt (l := vs) (i := i) (by rw [← h2.length]; exact hi)
    exact ⟨vs, x, h1, ex⟩
  · obtain ⟨vs, h1, h2⟩ := f ρ σ H R kp hc
    exact ⟨vs, h1, by rw [← h2.length]; exact hi⟩
  · obtain ⟨vs, h1, h2⟩ := f ρ σ H R kp hc
    obtain ⟨rfl, y⟩ := y
    obtain ⟨v, ev, rv⟩ := h2.get e
    rw [y vs h1] at ev
    cases ev
    exact ⟨fun _ _ z => z, rv⟩
theorem itd_tup {K : PySem.W.Frag} {B : Bs} {a : Addr} {ds : List PyData} {c : Rho → Prop} {H1 : Hp} {vs : List V} (h1 : SqT K H1 a vs) (h2 : RepA K H1 ds vs) : ItD K B (Itt K a) ds c H1 := by
  refine ⟨fun i ρ σ H R kp hc hi => ?_, fun i ρ σ H R kp hc hi => ?_, fun i ρ σ H x H' d R kp hc y e => ?_⟩
  · obtain ⟨x, ex⟩ := getElem_lt (l := vs) (i := i) (by rw [← h2.length]; exact hi)
    exact ⟨vs, x, sqT_mono kp h1, ex⟩
  · exact ⟨vs, sqT_mono kp h1, by rw [← h2.length]; exact hi⟩
  · obtain ⟨rfl, y⟩ := y
    obtain ⟨v, ev, rv⟩ := h2.get e
    rw [y vs (sqT_mono kp h1)] at ev
    cases ev
    exact ⟨fun _ _ z => z, rv.mono kp _ _⟩
/-- a list or a tuple -/
def iSeq (K : PySem.W.Frag) (tl : TE) : TI := fun σ H R => tl σ H fun x H1 => ∃ a, x = .ref a ∧ (((∃ xs, SqL K H1 a xs) ∧ R (Itl K a) H1) ∨ ((∃ xs, SqT K H1 a xs) ∧ R (Itt K a) H1))
section
variable {X : Cx} {tg e : Expr} {te : DTE} {tb : DTS} {pos : Pos}
theorem pi_seq {tl : TE} (hl : PE X e tl) : PI X tg e (iSeq X.K tl) := by
  refine ⟨fun pins s σ H R I h => ?_⟩
  refine thn (hl.run pins s σ H _ I h) fun v s1 ⟨x, H1, I1, r1, a, ex, q⟩ => ?_
  subst ex
  cases r1
  have fin : ∀ {J : It} {tn : Nat → Heap → Prop} {o : Obj}, Turn X.prog X.w X.K tg J [s1.heap.objs.size] s1.heap.objs.size tn → tn 0 (s1.heap.push o) → R J H1 → PIE X pins σ tg R (.ref s1.heap.objs.size) { s1 with heap := s1.heap.push o } := fun {J tn o} T st q => by
    refine ⟨_, [s1.heap.objs.size], tn, J, H1, rfl, I1.kept (t' := s1.toks) fun b u z => Heap.get?_push_of_some _ z, T, st, fun b hb => ?_, q⟩
    have eb : b = s1.heap.objs.size := by simpa using hb
    subst eb
    exact I1.fpOk (Nat.le_refl _) (I1.hok.fresh (Nat.le_refl _))
  rcases q with ⟨⟨xs, hq⟩, q⟩ | ⟨⟨xs, hq⟩, q⟩
  · obtain ⟨its, rv, p, hz⟩ := I1.list hq
    exact wpAny_pyIter_list p.isList (fin (turn_list a _) ⟨_, Heap.get?_push_size _ rfl, rfl, rfl⟩ q)
  · obtain ⟨its, rv, p, hz⟩ := I1.tuple hq
    exact wpAny_pyIter_tuple (show s1.heap.IsTuple a its.toArray from p) (fin (turn_tuple a _) ⟨_, Heap.get?_push_size _ rfl, rfl, rfl⟩ q)
def iterOf (ρ1 : Rho) : Rv → (List PyData → (Rho → Prop) → Rho → Prop) → Prop
  | .dat (.tuple ds), Q => Q ds (fun _ => True) ρ1
  | .dat (.list ds), Q => Q ds (fun _ => True) ρ1
  | .own i, Q => ∃ ds, listOf ρ1 (.own i) = some ds ∧ Q ds (fun ρ2 => ρ2[i]? = ρ1[i]?) ρ1
  | _, _ => False
def dIter (te : DTE) : DTI := fun ρ Q => te ρ fun r ρ1 => iterOf ρ1 r Q
theorem di_seq (he : DE X e te) : DI X tg e (dIter te) := pi_imp (pi_seq he) fun σ H R' ⟨B, ρ, Q0, R, q, k⟩ => by
  refine ⟨B, ρ, _, R, q, fun r ρ1 v H1 q1 R1 k1 s1 => ?_⟩
  have lst : ∀ {ds : List PyData}, listOf ρ1 r = some ds → Q0 ds (keepC ρ1 r) ρ1 → ∃ a, v = .ref a ∧ (((∃ xs, SqL X.K H1 a xs) ∧ R' (Itl X.K a) H1) ∨ ((∃ xs, SqT X.K H1 a xs) ∧ R' (Itt X.K a) H1)) := fun {ds} el q2 => by
    obtain ⟨a, rfl, f⟩ := sql_at R1 k1 el
    obtain ⟨vs, h1, h2⟩ := f ρ1 σ H1 R1 (Kp.refl _) (by cases r <;> first | trivial | rfl)
    exact ⟨a, rfl, .inl ⟨⟨vs, h1⟩, k ds _ ρ1 _ H1 q2 R1 s1 (itd_list f)⟩⟩
  cases r with
  | own i =>
    obtain ⟨ds, el, q1⟩ := q1
    exact lst el q1
  | dat d =>
    cases d with
    | list ds => exact lst rfl q1
    | tuple ds =>
      have k1 : Rep X.K H1 (.tuple ds) v := k1
      rw [Rep] at k1
      obtain ⟨a, xs, rfl, h1, h2⟩ := k1
      exact ⟨a, rfl, .inr ⟨⟨xs, h1⟩, k ds _ ρ1 _ H1 q1 R1 s1 (itd_tup h1 h2)⟩⟩
    | _ => exact q1.elim
/-- range(n), range(a, b) -/
def rgD (lo : Int) (n : Nat) : List PyData := (List.range n).map fun k => PyData.int (lo + (k : Nat))
theorem rgD_len (lo : Int) (n : Nat) : (rgD lo n).length = n := by unfold rgD; rw [List.length_map, List.length_range]
theorem rgD_get {lo : Int} {n i : Nat} {d : PyData} (h : (rgD lo n)[i]? = some d) : i < n ∧ d = .int (lo + (i : Nat)) := by
  have hi : i < n := by
    have := (List.getElem?_eq_some_iff.mp h).1
    rwa [rgD_len] at this
  unfold rgD at h
  rw [List.getElem?_map, List.getElem?_range hi] at h
  exact ⟨hi, (Option.some.inj h).symm⟩
theorem itd_rng {K : PySem.W.Frag} {B : Bs} {lo : Int} {n : Nat} {c : Rho → Prop} {H1 : Hp} : ItD K B (Itr lo n) (rgD lo n) c H1 := by
  refine ⟨fun i ρ σ H R kp hc hi => by rw [rgD_len] at hi; exact hi, fun i ρ σ H R kp hc hi => by rw [rgD_len] at hi; exact hi, fun i ρ σ H x H' d R kp hc y e => ?_⟩
  obtain ⟨rfl, rfl⟩ := y
  obtain ⟨hi, rfl⟩ := rgD_get e
  exact ⟨fun _ _ z => z, by rw [Rep]⟩
theorem rint {K : PySem.W.Frag} {H : Hp} {σ : L2.St} {n : Int} {v : V} (h : RvOk K H σ (.dat (.int n)) v) : v = .int n := by
  have h : Rep K H (.int n) v := h
  rwa [Rep] at h
def dRng1 (ta : DTA) : DTI := fun ρ Q => ta ρ fun rs ρ1 => ∃ n : Int, rs = [.dat (.int n)] ∧ (-(2 ^ 62) ≤ n ∧ n < 2 ^ 62) ∧ Q (rgD 0 n.toNat) (fun _ => True) ρ1
theorem di_range1 {a : Expr} {ta : DTA} {p : Pos} (hg : Gl X "range") (hm : X.mg "range" = none) (ha : DA X [a] ta) (hs : starEach [a] X.env = [(false, eval a X.env)] := by rfl) : DI X tg (.Call (.Name "range" p) [a] [] pos) (dRng1 ta) :=
  pi_imp (pi_range1 hg hm ha hs) fun σ H R' ⟨B, ρ, Q0, R, q, k⟩ => ⟨B, ρ, _, R, q, fun rs ρ1 vs H1 q1 R1 k1 s1 => by
  obtain ⟨n, rfl, ⟨h1, h2⟩, q1⟩ := q1
  obtain ⟨v, rfl, k2⟩ := k1.one
  exact ⟨n, by rw [rint k2], h1, h2, k _ _ ρ1 _ H1 q1 R1 s1 itd_rng⟩⟩
def dRng2 (ta : DTA) : DTI := fun ρ Q => ta ρ fun rs ρ1 => ∃ m n : Int, rs = [.dat (.int m), .dat (.int n)] ∧ (-(2 ^ 62) ≤ m ∧ m < 2 ^ 62 ∧ -(2 ^ 62) ≤ n ∧ n < 2 ^ 62) ∧ Q (rgD m (n - m).toNat) (fun _ => True) ρ1
theorem di_range2 {a b : Expr} {ta : DTA} {p : Pos} (hg : Gl X "range") (hm : X.mg "range" = none) (ha : DA X [a, b] ta) (hs : starEach [a, b] X.env = [(false, eval a X.env), (false, eval b X.env)] := by rfl) (hs2 : starEach [b] X.env = [(false, eval b X.env)] := by rfl) :
    DI X tg (.Call (.Name "range" p) [a, b] [] pos) (dRng2 ta) :=
  pi_imp (pi_range2 hg hm ha hs hs2) fun σ H R' ⟨B, ρ, Q0, R, q, k⟩ => ⟨B, ρ, _, R, q, fun rs ρ1 vs H1 q1 R1 k1 s1 => by
  obtain ⟨m, n, rfl, h, q1⟩ := q1
  obtain ⟨v, u, rfl, k2, k3⟩ := k1.two
  exact ⟨m, n, by rw [rint k2, rint k3], h, k _ _ ρ1 _ H1 q1 R1 s1 itd_rng⟩⟩
/-- a text, sign by sign -/
def signsD (x : Str) : List PyData := x.cps.toList.map fun c => PyData.str ⟨#[c]⟩
def dIterS (te : DTE) : DTI := fun ρ Q => te ρ fun r ρ1 => ∃ x : Str, r = .dat (.str x) ∧ Q (signsD x) (fun _ => True) ρ1
theorem di_str (he : DE X e te) : DI X tg e (dIterS te) := pi_imp (pi_str he) fun σ H R' ⟨B, ρ, Q0, R, q, k⟩ => ⟨B, ρ, _, R, q, fun r ρ1 v H1 q1 R1 k1 s1 => by
  obtain ⟨x, rfl, q1⟩ := q1
  have k1 : Rep X.K H1 (.str x) v := k1
  rw [Rep] at k1
  have el : (signsD x).length = x.cps.size := by unfold signsD; rw [List.length_map, Array.length_toList]
  refine ⟨x, k1, k _ _ ρ1 _ H1 q1 R1 s1 ⟨fun i ρ σ H R kp hc hi => by rw [el] at hi; exact hi, fun i ρ σ H R kp hc hi => by rw [el] at hi; exact hi, fun i ρ σ H y H' d R kp hc z e => ?_⟩⟩
  obtain ⟨rfl, c, ec, rfl⟩ := z
  refine ⟨fun _ _ z => z, ?_⟩
  unfold signsD at e
  rw [List.getElem?_map, Array.getElem?_toList, ec] at e
  cases e
  show Rep _ _ (.str _) _
  rw [Rep]⟩

/-! ### for -/
def dFor (ti : DTI) (g : DTG) (tb : DTS) : DTS := fun E ρ => ti ρ fun ds c ρ1 => ∃ I : Nat → Rho → Prop, I 0 ρ1 ∧ (∀ i ρ2, I i ρ2 → c ρ2) ∧
  (∀ i d ρ2, ds[i]? = some d → I i ρ2 → g d ρ2 fun ρ3 => tb { E with nx := I (i + 1), ct := I (i + 1), bk := E.nx } ρ3) ∧ ∀ ρ2, I ds.length ρ2 → E.nx ρ2
theorem dp_for {iter : Expr} {body : List Stmt} {ti : DTI} {g : DTG} {ix : List Nat} (hp : PassesOwn (model X.prog X.w) X.A X.env X.xe) (hc : X.calm = true) (hi : DI X tg iter ti) (hg : DG X ix tg g) (hb : DPs X body tb)
    (hs : ∀ x, foldedSetIterable iter X.env x = pure x := by intro _; rfl) : DP X (.For tg iter body [] pos) (dFor ti g tb) := ps_imp (ps_for hp hc hi hg hb hs) fun D σ H ⟨B, ρ, E, R, q, k⟩ => by
  refine ⟨B, ρ, _, R, q, fun ds c ρ1 J H1 q1 R1 s1 it => ?_⟩
  obtain ⟨I, h0, hc, hs, hd⟩ := q1
  refine ⟨fun i m σ2 H2 => m = ds.length - i ∧ i ≤ ds.length ∧ ∃ ρ2, Rel X.K B ρ2 σ2 H2 ∧ Kp H1 H2 ∧ I i ρ2, ⟨ds.length, by rw [Nat.sub_zero], Nat.zero_le _, ρ1, R1, Kp.refl _, h0⟩, ?_⟩
  rintro i m σ2 H2 ⟨rfl, hi, ρ2, R2, kp2, I2⟩
  by_cases hlt : i < ds.length
  · obtain ⟨d, ed⟩ := getElem_lt hlt
    refine .inr ⟨it.go i ρ2 σ2 H2 R2 kp2 (hc i ρ2 I2) hlt, fun σ' H' => ∃ ρ', Rel X.K B ρ' σ' H' ∧ Kp H1 H' ∧ I (i + 1) ρ', fun σ' H' ⟨ρ', R', kp', I'⟩ => ⟨ds.length - (i + 1), by omega, rfl, hlt, ρ', R', kp', I'⟩, fun x H' y => ?_⟩
    obtain ⟨sm, rp⟩ := it.yld i ρ2 σ2 H2 x H' d R2 kp2 (hc i ρ2 I2) y ed
    have kpy : Kp H1 H' := kp2.trans (Kp.same sm)
    have step := hs i d ρ2 ed I2
    refine ⟨B, ρ2, d, _, R2.same sm, rp, step, fun ρ3 σ3 q3 R3 _ _ => ?_⟩
    refine ⟨B, ρ3, _, R3, q3, fun ρ' σ' H'' q' R' kp' => ⟨ρ', R', kpy.trans kp', q'⟩, fun d' ρ' v σ' H'' q' R' r' kp' => k.rt d' ρ' v σ' H'' q' R' r' ((s1.kp.trans kpy).trans kp'),
      fun ρ' σ' H'' q' R' kp' => k.nx ρ' σ' H'' q' R' ((s1.kp.trans kpy).trans kp'), fun ρ' σ' H'' q' R' kp' => ⟨ρ', R', kpy.trans kp', q'⟩⟩
  · have ei : i = ds.length := by omega
    subst ei
    exact .inl ⟨it.stop _ ρ2 σ2 H2 R2 kp2 (hc _ ρ2 I2) (Nat.le_refl _), k.nx ρ2 σ2 H2 (hd ρ2 I2) R2 (s1.kp.trans kp2)⟩
def dWhile (tc : DTT) (tb : DTS) : DTS := fun E ρ => ∃ W : Nat → Rho → Prop, (∃ m, W m ρ) ∧ ∀ m ρ2, W m ρ2 → tc ρ2 fun b ρ3 =>
  (b = true → tb { E with nx := fun ρ' => ∃ m', m' < m ∧ W m' ρ', ct := fun ρ' => ∃ m', m' < m ∧ W m' ρ', bk := E.nx } ρ3) ∧ (b = false → E.nx ρ3)
theorem dp_while {c : Expr} {body : List Stmt} {tc : DTT} (hp : PassesOwn (model X.prog X.w) X.A X.env X.xe) (hc : DT X c tc) (hb : DPs X body tb) : DP X (.While c body [] pos) (dWhile tc tb) := ps_imp (ps_while hp hc hb) fun D σ H ⟨B, ρ, E, R, q, k⟩ => by
  obtain ⟨W, ⟨m0, w0⟩, hs⟩ := q
  refine ⟨fun m σ2 H2 => ∃ ρ2, Rel X.K B ρ2 σ2 H2 ∧ Kp H H2 ∧ W m ρ2, ⟨m0, ρ, R, Kp.refl _, w0⟩, ?_⟩
  rintro m σ2 H2 ⟨ρ2, R2, kp2, w2⟩
  refine ⟨B, ρ2, _, R2, hs m ρ2 w2, fun b ρ3 H3 q3 R3 s3 => ?_⟩
  cases b with
  | true =>
    refine iteT ⟨fun σ' H' => ∃ m' ρ', m' < m ∧ Rel X.K B ρ' σ' H' ∧ Kp H H' ∧ W m' ρ', fun σ' H' ⟨m', ρ', l, R', kp', w'⟩ => ⟨m', l, ρ', R', kp', w'⟩, B, ρ3, _, R3, q3.1 rfl, ?_⟩
    have kpy : Kp H H3 := kp2.trans s3.kp
    exact ⟨fun ρ' σ' H'' ⟨m', l, w'⟩ R' kp' => ⟨m', ρ', l, R', kpy.trans kp', w'⟩, fun d' ρ' v σ' H'' q' R' r' kp' => k.rt d' ρ' v σ' H'' q' R' r' (kpy.trans kp'),
      fun ρ' σ' H'' q' R' kp' => k.nx ρ' σ' H'' q' R' (kpy.trans kp'), fun ρ' σ' H'' ⟨m', l, w'⟩ R' kp' => ⟨m', ρ', l, R', kpy.trans kp', w'⟩⟩
  | false => exact iteF (k.nx ρ3 σ2 H3 (q3.2 rfl) R3 (kp2.trans s3.kp))
end

/-! ### comprehensions -/
def wipeR (ρ : Rho) : List Nat → Rho
  | [] => ρ
  | v :: vs => (wipeR ρ vs).set v .no
def restore (ρ1 : Rho) : List Nat → Rho → Rho
  | [], ρ2 => ρ2
  | v :: vs, ρ2 => (restore ρ1 vs ρ2).set v (ρ1.getD v .no)
def plain (ρ : Rho) : List Nat → Prop
  | [] => True
  | v :: vs => (match ρ[v]? with | some (.dat _) => True | some .no => True | _ => False) ∧ plain ρ vs
section
variable {K : PySem.W.Frag} {B : Bs} {ρ ρ1 ρ2 : Rho} {σ : L2.St} {H H1 H2 : Hp}
theorem Rel.setNo (R : Rel K B ρ σ H) (i : Nat) : Rel K B (ρ.set i .no) (σ.set i none) H := by
  refine ⟨by rw [List.length_set, List.length_set, R.len], fun j s e => ?_, R.frame, R.kp, R.th, fun j s b e hb => ?_, fun j k s t b e1 e2 h1 h2 => ?_⟩
  · rcases get_set e with ⟨rfl, rfl⟩ | ⟨hj, e⟩
    · have hi : j < ρ.length := by
        have := (List.getElem?_eq_some_iff.mp e).1
        rwa [List.length_set] at this
      exact ⟨none, by rw [List.getElem?_set_self (by rw [R.len]; exact hi)], trivial⟩
    · obtain ⟨o, e1, q⟩ := R.ok j s e
      exact ⟨o, by rw [List.getElem?_set_ne (Ne.symm hj)]; exact e1, q⟩
  · rcases get_set e with ⟨rfl, rfl⟩ | ⟨hj, e⟩
    · exact hb.elim
    · exact R.fresh j s b e hb
  · rcases get_set e1 with ⟨rfl, rfl⟩ | ⟨hj, f1⟩
    · exact h1.elim
    · rcases get_set e2 with ⟨rfl, rfl⟩ | ⟨hk, f2⟩
      · exact h2.elim
      · exact R.disj j k s t b f1 f2 h1 h2
theorem Rel.wipe (R : Rel K B ρ σ H) : ∀ vs : List Nat, Rel K B (wipeR ρ vs) (L2.wipe σ vs) H
  | [] => R
  | v :: vs => (Rel.wipe R vs).setNo v
theorem inFp_wipe {b : Addr} : ∀ {vs : List Nat}, InFp (wipeR ρ vs) b → InFp ρ b
  | [], h => h
  | v :: vs, h => by
    obtain ⟨i, s, e, hb⟩ := h
    rcases get_set e with ⟨rfl, rfl⟩ | ⟨hj, e⟩
    · exact hb.elim
    · exact inFp_wipe (vs := vs) ⟨i, s, e, hb⟩
theorem plain_fp {b : Addr} {s : Slot} : ∀ {vs : List Nat} {v : Nat}, plain ρ vs → v ∈ vs → s = ρ.getD v .no → ¬ s.fp b
  | w :: vs, v, h, hv, e, hb => by
    rcases List.mem_cons.mp hv with rfl | hv
    · obtain ⟨h1, _⟩ := h
      rw [List.getD_eq_getElem?_getD] at e
      cases ew : ρ[v]? with
      | none => rw [ew] at h1; exact h1
      | some t =>
        rw [ew] at h1 e
        have e : s = t := e
        subst e
        cases s with
        | no => exact hb
        | dat d => exact hb
        | _ => exact h1
    · exact plain_fp h.2 hv e hb
theorem inFp_restore {b : Addr} : ∀ {vs : List Nat}, plain ρ1 vs → InFp (restore ρ1 vs ρ2) b → InFp ρ2 b
  | [], _, h => h
  | v :: vs, p, h => by
    obtain ⟨i, s, e, hb⟩ := h
    rcases get_set e with ⟨rfl, e'⟩ | ⟨hj, e⟩
    · exact (plain_fp (ρ := ρ1) (vs := i :: vs) p List.mem_cons_self e' hb).elim
    · exact inFp_restore (vs := vs) p.2 ⟨i, s, e, hb⟩
theorem wipe_get {σ : L2.St} {i : Nat} : ∀ {vs : List Nat}, i ∉ vs → (wipe σ vs)[i]? = σ[i]? := wipe_out
theorem restore_get {i : Nat} {s : Slot} (hl : ρ2.length = ρ1.length) : ∀ {vs : List Nat}, (restore ρ1 vs ρ2)[i]? = some s → (i ∈ vs ∧ s = ρ1.getD i .no ∧ i < ρ1.length) ∨ (i ∉ vs ∧ ρ2[i]? = some s)
  | [], h => .inr ⟨by simp, h⟩
  | v :: vs, h => by
    have hlen : ∀ ws : List Nat, (restore ρ1 ws ρ2).length = ρ2.length := fun ws => by
      induction ws with
      | nil => rfl
      | cons w ws ih => show ((restore ρ1 ws ρ2).set w _).length = _; rw [List.length_set, ih]
    rcases get_set h with ⟨rfl, e'⟩ | ⟨hj, e⟩
    · have := (List.getElem?_eq_some_iff.mp h).1
      rw [hlen] at this
      exact .inl ⟨List.mem_cons_self, e', hl ▸ this⟩
    · rcases restore_get hl e with ⟨h1, h2⟩ | ⟨h1, h2⟩
      · exact .inl ⟨List.mem_cons_of_mem _ h1, h2⟩
      · exact .inr ⟨by simp only [List.mem_cons, not_or]; exact ⟨hj, h1⟩, h2⟩
/-- behind the block: its own names are as they were -/
theorem Rel.restore (R1 : Rel K B ρ1 σ H1) (k : Kp H1 H2) {vs : List Nat} (p : plain ρ1 vs) (R2 : Rel K B ρ2 (L2.wipe σ vs) H2) : Rel K B (restore ρ1 vs ρ2) σ H2 := by
  have hl : ρ2.length = ρ1.length := by rw [← R2.len, wipe_length, R1.len]
  have hlen : ∀ ws : List Nat, (DL.restore ρ1 ws ρ2).length = ρ2.length := fun ws => by
    induction ws with
    | nil => rfl
    | cons w ws ih => show ((DL.restore ρ1 ws ρ2).set w _).length = _; rw [List.length_set, ih]
  have nfp : ∀ {i : Nat} {s : Slot} {b : Addr}, i ∈ vs → s = ρ1.getD i .no → ¬ s.fp b := fun {i s b} hi e => plain_fp (ρ := ρ1) p hi e
  refine ⟨by rw [hlen, hl, R1.len], fun i s e => ?_, R2.frame, R2.kp, R2.th, fun i s b e hb => ?_, fun i j s t b e1 e2 h1 h2 => ?_⟩
  · rcases restore_get hl e with ⟨hi, es, hlt⟩ | ⟨hi, e2⟩
    · have e1 : ρ1[i]? = some s := by
        rw [es, List.getD_eq_getElem?_getD, List.getElem?_eq_getElem hlt]; rfl
      obtain ⟨o, eo, ok⟩ := R1.ok i s e1
      exact ⟨o, eo, ok.away k fun b hb => (nfp hi es hb).elim⟩
    · obtain ⟨o, eo, ok⟩ := R2.ok i s e2
      rw [wipe_get hi] at eo
      exact ⟨o, eo, ok⟩
  · rcases restore_get hl e with ⟨hi, es, _⟩ | ⟨hi, e2⟩
    · exact (nfp hi es hb).elim
    · exact R2.fresh i s b e2 hb
  · rcases restore_get hl e1 with ⟨hi, es, _⟩ | ⟨hi, f1⟩
    · exact (nfp hi es h1).elim
    · rcases restore_get hl e2 with ⟨hj, et, _⟩ | ⟨hj, f2⟩
      · exact (nfp hj et h2).elim
      · exact R2.disj i j s t b f1 f2 h1 h2
theorem set_set_same {α : Type} : ∀ (l : List α) (i : Nat) (x y : α), (l.set i x).set i y = l.set i y
  | [], _, _, _ => rfl
  | a :: l, 0, _, _ => rfl
  | a :: l, i + 1, x, y => by show a :: _ = a :: _; rw [set_set_same l i x y]
theorem wipe_eq {σ' : L2.St} {ix vs : List Nat} (o : Out ix (wipe σ vs) σ') (h : ∀ i, i ∈ ix → i ∈ vs) : wipe σ' vs = wipe σ vs := by
  apply List.ext_getElem?
  intro i
  by_cases hi : i ∈ vs
  · have len : (wipe σ' vs).length = (wipe σ vs).length := by rw [wipe_length, wipe_length, o.1, wipe_length]
    have nn : ∀ (τ : L2.St) (ws : List Nat), i ∈ ws → i < τ.length → (wipe τ ws)[i]? = some none := by
      intro τ ws
      induction ws with
      | nil => intro h _; cases h
      | cons w ws ih =>
        intro h hl
        show ((wipe τ ws).set w none)[i]? = _
        by_cases e : w = i
        · rw [e, List.getElem?_set_self (by rw [wipe_length]; exact hl)]
        · rw [List.getElem?_set_ne e]
          rcases List.mem_cons.mp h with z | z
          · exact absurd z.symm e
          · exact ih z hl
    by_cases hl : i < σ.length
    · rw [nn σ' vs hi (by rw [o.1, wipe_length]; exact hl), nn σ vs hi hl]
    · rw [List.getElem?_eq_none (by rw [wipe_length, o.1, wipe_length]; omega), List.getElem?_eq_none (by rw [wipe_length]; omega)]
  · rw [wipe_get hi, o.2 i fun z => hi (h i z)]
end
def DTs (X : Cx) (ifs : List Expr) (t : DTT) : Prop := PTs X ifs (liftT X.K t)
def dYes : DTT := fun ρ Q => Q true ρ
section
variable {X : Cx}
theorem pts_imp {ifs : List Expr} {t t' : TT} (h : PTs X ifs t) (i : ∀ σ H Q, t' σ H Q → t σ H Q) : PTs X ifs t' := ⟨fun pins s σ H Q I q => h.run pins s σ H Q I (i σ H Q q)⟩
theorem dts_nil : DTs X [] dYes := pts_imp pts_nil fun σ H Q ⟨B, ρ, Q0, R, q, k⟩ => k true ρ H q R (Stp.refl _ _)
theorem dts_one {c : Expr} {t : DTT} (h : DT X c t) : DTs X [c] t := pts_one h
def nLc (ti : DTI) (g : DTG) (tt : DTT) (te : DTE) (vs : List Nat) : DTN := fun ρ Q => ti ρ fun ds c ρ1 => plain ρ1 vs ∧ ∃ I : Nat → List PyData → Rho → Prop, I 0 [] (wipeR ρ1 vs) ∧ (∀ i acc ρ2, I i acc ρ2 → c ρ2) ∧
  (∀ i d acc ρ2, ds[i]? = some d → I i acc ρ2 → g d ρ2 fun ρ3 => tt ρ3 fun b ρ4 =>
    (b = true → te ρ4 fun r ρ5 => ∃ e, r = .dat e ∧ acc.length < sizeLine ∧ I (i + 1) (acc ++ [e]) (wipeR ρ5 vs)) ∧ (b = false → I (i + 1) acc (wipeR ρ4 vs))) ∧
  ∀ acc ρ2, I ds.length acc ρ2 → Q acc (restore ρ1 vs ρ2)
/-- what a turn of the comprehension is to keep -/
def LcI (K : PySem.W.Frag) (B : Bs) (σ : L2.St) (vs : List Nat) (ρ1 : Rho) (H1 : Hp) (D : Addr) (I : Nat → List PyData → Rho → Prop) (i : Nat) (H : Hp) : Prop :=
  ∃ acc xs ρ2, Rel K B ρ2 (wipe σ vs) H ∧ Stp ρ1 H1 ρ2 H ∧ H D = some (.lst xs) ∧ RepA K H acc xs ∧ ¬ InFp ρ2 D ∧ I i acc ρ2
theorem lc_turn {ti : DTI} {wi : TI} {tg : TG} {tt : TT} {te : TE} {g : DTG} {dt : DTT} {de : DTE} {ix vs : List Nat} {σ : L2.St} {H : Hp} {Q : VK}
    (hg : tg = liftG X.K ix g) (ht : tt = liftT X.K dt) (he : te = lift X.K de) (hw : wi = liftI X.K ti) (hix : ∀ i, i ∈ ix → i ∈ vs)
    (h : liftN X.K (nLc ti g dt de vs) σ H Q) : tLc wi tg tt te vs σ H Q := by
  subst hg ht he hw
  obtain ⟨B, ρ, Q0, R, q, k⟩ := h
  refine ⟨B, ρ, _, R, q, fun ds c ρ1 J H1 q1 R1 s1 it D nD => ?_⟩
  obtain ⟨pl, I, h0, hc, hs, hd⟩ := q1
  obtain ⟨f0, f1⟩ := R1.new nD
  have smD : Same H1 (upd H1 D (.lst [])) := same_new nD
  refine ⟨fun i m H2 => m = ds.length - i ∧ i ≤ ds.length ∧ LcI X.K B σ vs ρ1 H1 D I i H2, ⟨ds.length, by rw [Nat.sub_zero], Nat.zero_le _, [], [], wipeR ρ1 vs, (R1.same smD).wipe vs, ⟨Kp.same smD, th_same smD, fun b o e n => ⟨smD b o e, fun z => n (inFp_wipe z)⟩⟩, upd_same, RepA.nil, fun z => f1 (inFp_wipe z), h0⟩, ?_⟩
  rintro i m H2 ⟨rfl, hi, acc, xs, ρ2, R2, s2, hD, ra, nf, I2⟩
  have kp2 : Kp H1 H2 := s2.kp
  by_cases hlt : i < ds.length
  · obtain ⟨d, ed⟩ := getElem_lt hlt
    refine .inr ⟨it.go i ρ2 _ H2 R2 kp2 (hc i acc ρ2 I2) hlt, LcI X.K B σ vs ρ1 H1 D I (i + 1), fun H' z => ⟨ds.length - (i + 1), by omega, rfl, hlt, z⟩, fun x H' y => ?_⟩
    obtain ⟨sm, rp⟩ := it.yld i ρ2 _ H2 x H' d R2 kp2 (hc i acc ρ2 I2) y ed
    refine ⟨B, ρ2, d, _, R2.same sm, rp, hs i d acc ρ2 ed I2, fun ρ3 σ3 q3 R3 o3 u3 => ⟨wipe_eq o3 hix, ?_⟩⟩
    have ew := wipe_eq o3 hix
    have s3 : Stp ρ1 H1 ρ3 H' := s2.trans ⟨Kp.same sm, th_same sm, fun b o e n => ⟨sm b o e, fun z => n (u3 b z)⟩⟩
    have nf3 : ¬ InFp ρ3 D := fun z => nf (u3 D z)
    have hD3 := sm D _ hD
    have ra3 := ra.mono (Kp.same sm) acc xs
    refine ⟨B, ρ3, _, R3, q3, fun b ρ4 H3 q4 R4 s4 => ?_⟩
    obtain ⟨hD4, nf4⟩ := s4.fr D _ hD3 nf3
    have ra4 := ra3.mono s4.kp acc xs
    have s14 := s3.trans s4
    cases b with
    | false =>
      refine iteF ⟨acc, xs, wipeR ρ4 vs, by rw [← ew]; exact R4.wipe vs, s14.trans ⟨Kp.refl _, fun _ z => z, fun b o e n => ⟨e, fun z => n (inFp_wipe z)⟩⟩, hD4, ra4, fun z => nf4 (inFp_wipe z), q4.2 rfl⟩
    | true =>
      refine iteT ⟨B, ρ4, _, R4, q4.1 rfl, fun r ρ5 v H4 q5 R5 k5 s5 => ?_⟩
      obtain ⟨e, rfl, hz, q5⟩ := q5
      obtain ⟨hD5, nf5⟩ := s5.fr D _ hD4 nf4
      have ra5 := ra4.mono s5.kp acc xs
      have kpu : Kp H4 (upd H4 D (.lst (xs ++ [v]))) := Kp.lst hD5
      refine ⟨xs, hD5, by rw [← ra5.length]; exact hz, acc ++ [e], xs ++ [v], wipeR ρ5 vs, by rw [← ew]; exact (R5.aside kpu f0 nf5).wipe vs, ?_, upd_same, (ra5.snoc k5).mono kpu _ _, fun z => nf5 (inFp_wipe z), q5⟩
      have s15 := s14.trans s5
      refine ⟨s15.kp.trans kpu, fun b n => th_upd b (s15.th b n), fun b o e n => ?_⟩
      obtain ⟨e1, n1⟩ := s15.fr b o e n
      exact ⟨by rw [upd_ne (ne_of_none e nD)]; exact e1, fun z => n1 (inFp_wipe z)⟩
  · have ei : i = ds.length := by omega
    subst ei
    refine .inl ⟨it.stop _ ρ2 _ H2 R2 kp2 (hc _ acc ρ2 I2) (Nat.le_refl _), ?_⟩
    have nDH : H D = none := s1.none nD
    refine k acc _ D xs H2 (hd acc ρ2 I2) (R1.restore kp2 pl R2) hD ra nDH f0 (fun z => nf (inFp_restore pl z)) ?_
    have s12 := s1.trans s2
    exact ⟨s12.kp, s12.th, fun b o e n => let ⟨e2, n2⟩ := s12.fr b o e n; ⟨e2, fun z => n2 (inFp_restore pl z)⟩⟩
variable {elt tg iter : Expr} {ifs : List Expr} {scope : Scope} {own : List (Str × Nat)} {pos : Pos} {ti : DTI} {g : DTG} {tt : DTT} {te : DTE} {ix : List Nat}
theorem dn_lc (hc : X.calm = true) (hN : X.N.Nodup) (hi : DI X tg iter ti) (ok : BlkOk X.N X.env.scope scope own)
    (hg : ∀ (s : Shared) (H : Hp) (C : Addr) (cl : List (Str × Addr)) (fp : List Addr), DG (X.blk s H scope (compEnvC scope cl C X.env) fp) ix tg g) (ht : ∀ (s : Shared) (H : Hp) (C : Addr) (cl : List (Str × Addr)) (fp : List Addr), DTs (X.blk s H scope (compEnvC scope cl C X.env) fp) ifs tt)
    (he : ∀ (s : Shared) (H : Hp) (C : Addr) (cl : List (Str × Addr)) (fp : List Addr), DE (X.blk s H scope (compEnvC scope cl C X.env) fp) elt te) (hix : ∀ i, i ∈ ix → i ∈ own.map (·.2) := by decide) (hs : ∀ x, foldedSetIterable iter X.env x = pure x := by intro _; rfl) :
    DN X (.ListComp elt [⟨tg, iter, ifs, 0⟩] scope pos) (nLc ti g tt te (own.map (·.2))) :=
  pe_imp (pe_lc (g := liftG X.K ix g) (tt := liftT X.K tt) (te := lift X.K te) hc hN hi ok hg ht he hs) fun σ H Q h => lc_turn rfl rfl rfl rfl hix h
theorem dp_setLcN {i : Nat} {y : Str} {py spos : Pos} (hc : X.calm = true) (hN : X.N.Nodup) (hy : X.N[i]? = some y) (hyl : X.env.scope.names.lookup y = some .local)
    (hsw : swapsWith (.ListComp elt [⟨tg, iter, ifs, 0⟩] scope pos) (some (.Name y py)) spos.line X.env = pure true) (hi : DI X tg iter ti) (ok : BlkOk X.N X.env.scope scope own)
    (hg : ∀ (s : Shared) (H : Hp) (C : Addr) (cl : List (Str × Addr)) (fp : List Addr), DG (X.blk s H scope (compEnvC scope cl C X.env) fp) ix tg g) (ht : ∀ (s : Shared) (H : Hp) (C : Addr) (cl : List (Str × Addr)) (fp : List Addr), DTs (X.blk s H scope (compEnvC scope cl C X.env) fp) ifs tt)
    (he : ∀ (s : Shared) (H : Hp) (C : Addr) (cl : List (Str × Addr)) (fp : List Addr), DE (X.blk s H scope (compEnvC scope cl C X.env) fp) elt te) (hix : ∀ i, i ∈ ix → i ∈ own.map (·.2) := by decide) (hs : ∀ x, foldedSetIterable iter X.env x = pure x := by intro _; rfl) :
    DP X (.Assign [.Name y py] (.ListComp elt [⟨tg, iter, ifs, 0⟩] scope pos) spos) (dSetN i (nLc ti g tt te (own.map (·.2)))) :=
  ps_imp (ps_setLc (g := liftG X.K ix g) (tt := liftT X.K tt) (te := lift X.K te) hc hN hy hyl hsw hi ok hg ht he hs) fun D σ H ⟨B, ρ, E, R, q, k⟩ => lc_turn rfl rfl rfl rfl hix ⟨B, ρ, _, R, q, fun ds ρ1 p vs H1 q1 R1 hp ra hn f0 f1 s1 => k.nx _ _ H1 (q1 p) (R1.setOwn i hp ra f0 f1) s1.kp⟩
end
end DL

/-! DL: operators, subscripts, slices, by trees. -/
namespace DL
open PySem PySem.Spec L2

section
variable {K : PySem.W.Frag} {B : Bs} {ρ : Rho} {σ : L2.St} {H H' : Hp} {r : Rv} {v : V}
theorem rstr {x : Str} (h : RvOk K H σ (.dat (.str x)) v) : v = .str x := by
  have h : Rep K H (.str x) v := h
  rwa [Rep] at h
theorem rbool {x : Bool} (h : RvOk K H σ (.dat (.bool x)) v) : v = .bl x := by
  have h : Rep K H (.bool x) v := h
  rwa [Rep] at h
theorem rnone (h : RvOk K H σ (.dat .none) v) : v = .non := by
  have h : Rep K H .none v := h
  rwa [Rep] at h
theorem rtup {xs : List PyData} (h : RvOk K H σ (.dat (.tuple xs)) v) : ∃ a vs, v = .ref a ∧ SqT K H a vs ∧ RepA K H xs vs := by
  have h : Rep K H (.tuple xs) v := h
  rwa [Rep] at h
theorem pint (K : PySem.W.Frag) (H : Hp) (i : Int) : Rep K H (.int i) (.int i) := by rw [Rep]
theorem pstr (K : PySem.W.Frag) (H : Hp) (i : Str) : Rep K H (.str i) (.str i) := by rw [Rep]
theorem pbool (K : PySem.W.Frag) (H : Hp) (i : Bool) : Rep K H (.bool i) (.bl i) := by rw [Rep]
theorem pnone (K : PySem.W.Frag) (H : Hp) : Rep K H .none .non := by rw [Rep]
theorem ptup {a : Addr} {vs : List V} {ds : List PyData} (h : SqT K H a vs) (r : RepA K H ds vs) : Rep K H (.tuple ds) (.ref a) := by rw [Rep]; exact ⟨a, vs, rfl, h, r⟩
theorem qint (K : PySem.W.Frag) (H : Hp) (σ : L2.St) (i : Int) : RvOk K H σ (.dat (.int i)) (.int i) := pint K H i
theorem qstr (K : PySem.W.Frag) (H : Hp) (σ : L2.St) (i : Str) : RvOk K H σ (.dat (.str i)) (.str i) := pstr K H i
theorem same_refl (H : Hp) : Same H H := fun _ _ h => h
mutual
theorem dp_of : ∀ (d : PyData) (v : V), Rep K H d v → d.hasDict = false → Dp K H v d
  | .none, v, h, _ => by rw [Rep] at h; rw [h]; exact .non
  | .bool b, v, h, _ => by rw [Rep] at h; rw [h]; exact .bl b
  | .int i, v, h, _ => by rw [Rep] at h; rw [h]; exact .int i
  | .str x, v, h, _ => by rw [Rep] at h; rw [h]; exact .str x
  | .list ds, v, h, n => by
    rw [Rep] at h
    obtain ⟨a, xs, rfl, f, r⟩ := h
    exact .lst f.sq (dpAll_of ds xs r (by rw [PyData.hasDict] at n; exact n))
  | .tuple ds, v, h, n => by
    rw [Rep] at h
    obtain ⟨a, xs, rfl, f, r⟩ := h
    exact .tup f (dpAll_of ds xs r (by rw [PyData.hasDict] at n; exact n))
  | .dict kvs, v, h, n => by rw [PyData.hasDict] at n; cases n
theorem dpAll_of : ∀ (ds : List PyData) (vs : List V), RepA K H ds vs → PyData.hasDictAll ds = false → DpAll K H vs ds
  | [], vs, h, _ => by rw [RepA] at h; rw [h]; exact .nil
  | d :: ds, vs, h, n => by
    rw [RepA] at h
    obtain ⟨v, r, rfl, h1, h2⟩ := h
    rw [PyData.hasDictAll, Bool.or_eq_false_iff] at n
    exact .cons (dp_of d v h1 n.1) (dpAll_of ds r h2 n.2)
end
/-- what it is, as a tree -/
def datOf (ρ : Rho) : Rv → Option PyData
  | .dat d => some d
  | .own i => (listOf ρ (.own i)).map .list
theorem dp_rv {d : PyData} (R : Rel K B ρ σ H) (k : RvOk K H σ r v) (e : datOf ρ r = some d) (n : d.hasDict = false) : Dp K H v d := by
  cases r with
  | dat d' =>
    have e' : d' = d := Option.some.inj e
    subst e'
    exact dp_of d' v k n
  | own i =>
    have e : (listOf ρ (.own i)).map PyData.list = some d := e
    cases el : listOf ρ (.own i) with
    | none => rw [el] at e; cases e
    | some ds =>
      rw [el] at e
      have e' : PyData.list ds = d := Option.some.inj e
      subst e'
      obtain ⟨a, vs, rfl, h1, h2⟩ := sql_now R k el
      exact .lst h1 (dpAll_of ds vs h2 (by rw [PyData.hasDict] at n; exact n))
end

section
variable {X : Cx}
/-! ### arithmetic -/
def fSub : Fn := fun ρ rs C => match rs with
  | [.dat (.int i), .dat (.int j)] => C (.int (i - j))
  | _ => False
def fMul : Fn := fun ρ rs C => match rs with
  | [.dat (.int i), .dat (.int j)] => CMul i j ∧ C (.int (i * j))
  | _ => False
def fDiv : Fn := fun ρ rs C => match rs with
  | [.dat (.int i), .dat (.int j)] => CDivW i j ∧ C (.int (i / j))
  | _ => False
def fMod : Fn := fun ρ rs C => match rs with
  | [.dat (.int i), .dat (.int j)] => 0 < j ∧ C (.int (i % j))
  | _ => False
def fPow : Fn := fun ρ rs C => match rs with
  | [.dat (.int i), .dat (.int j)] => CPow i j ∧ C (.int (i ^ j.toNat))
  | _ => False
theorem int2 {op : Value → Value → Sem Value} {G : Int → Int → Prop} {g : Int → Int → Int} {r : Fn} (h : OpR X op (rI G fun i j => .int (g i j)))
    (hr : ∀ ρ r1 r2 C, r ρ [r1, r2] C → ∃ i j, r1 = .dat (.int i) ∧ r2 = .dat (.int j) ∧ G i j ∧ C (.int (g i j))) : OpD X op r :=
  opD_of h fun σ H x y B ρ r1 r2 C Q R k1 k2 q c => by
    obtain ⟨i, j, rfl, rfl, hg, hc⟩ := hr ρ r1 r2 C q
    exact ⟨i, j, rint k1, rint k2, hg, c _ _ H hc (same_refl H) (pint _ _ _)⟩
theorem od_sub : OpD X (binaryOp .Sub) fSub := opD_of op_sub fun σ H x y B ρ r1 r2 C Q R k1 k2 q c => by
  unfold fSub at q
  split at q
  · rename_i i j e
    cases e
    exact ⟨i, j, rint k1, rint k2, c _ _ H q (same_refl H) (pint _ _ _)⟩
  · exact q.elim
theorem od_mul : OpD X (binaryOp .Mult) fMul := int2 op_mul fun ρ r1 r2 C q => by
  unfold fMul at q
  split at q
  · rename_i i j e
    cases e
    exact ⟨i, j, rfl, rfl, q.1, q.2⟩
  · exact q.elim
theorem od_div : OpD X (binaryOp .FloorDiv) fDiv := int2 op_fdivW fun ρ r1 r2 C q => by
  unfold fDiv at q
  split at q
  · rename_i i j e
    cases e
    exact ⟨i, j, rfl, rfl, q.1, q.2⟩
  · exact q.elim
theorem od_mod : OpD X (binaryOp .Mod) fMod := int2 op_mod fun ρ r1 r2 C q => by
  unfold fMod at q
  split at q
  · rename_i i j e
    cases e
    exact ⟨i, j, rfl, rfl, q.1, q.2⟩
  · exact q.elim
theorem od_pow : OpD X (binaryOp .Pow) fPow := int2 op_pow fun ρ r1 r2 C q => by
  unfold fPow at q
  split at q
  · rename_i i j e
    cases e
    exact ⟨i, j, rfl, rfl, q.1, q.2⟩
  · exact q.elim
/-- + of numbers, texts, tuples -/
def fAdd : Fn := fun ρ rs C => match rs with
  | [.dat (.int i), .dat (.int j)] => C (.int (i + j))
  | [.dat (.str i), .dat (.str j)] => i.length + j.length ≤ sizeLine ∧ C (.str (i ++ j))
  | [.dat (.tuple i), .dat (.tuple j)] => i.length + j.length ≤ sizeLine ∧ C (.tuple (i ++ j))
  | _ => False
theorem od_add : OpD X (binaryOp .Add) fAdd := opD_of (op_add.or (op_add_str.or op_catA)) fun σ H x y B ρ r1 r2 C Q R k1 k2 q c => by
  unfold fAdd at q
  split at q
  · rename_i i j e
    cases e
    exact .inl ⟨i, j, rint k1, rint k2, c _ _ H q (same_refl H) (pint _ _ _)⟩
  · rename_i i j e
    cases e
    exact .inr (.inl ⟨i, j, rstr k1, rstr k2, q.1, c _ _ H q.2 (same_refl H) (pstr _ _ _)⟩)
  · rename_i i j e
    cases e
    obtain ⟨a, vs, rfl, h1, ra⟩ := rtup k1
    obtain ⟨b, us, rfl, h2, rb⟩ := rtup k2
    refine .inr (.inr ⟨a, b, vs, us, rfl, rfl, h1, h2, by rw [← ra.length, ← rb.length]; exact q.1, fun e => ?_, fun _ e => ?_, fun _ _ p np => ?_⟩)
    · subst e
      have e0 : i = [] := List.length_eq_zero_iff.mp ra.length
      subst e0
      exact c _ _ H q.2 (same_refl H) (ptup h2 rb)
    · subst e
      have e0 : j = [] := List.length_eq_zero_iff.mp rb.length
      subst e0
      have q2 := q.2
      rw [List.append_nil] at q2
      exact c _ _ H q2 (same_refl H) (ptup h1 ra)
    · have sm : Same H (upd H p (.tup (vs ++ us))) := same_new np
      exact c _ _ _ q.2 sm (ptup (SqT.of upd_same) ((ra.append rb).mono (Kp.same sm) _ _))
  · exact q.elim
/-- xs + ys, two lists: a new one -/
def nAdd (ta tb : DTE) : DTN := fun ρ Q => ta ρ fun r1 ρ1 => tb ρ1 fun r2 ρ2 => ∃ xs ys, listOf ρ2 r1 = some xs ∧ listOf ρ2 r2 = some ys ∧ xs.length + ys.length ≤ sizeLine ∧ Q (xs ++ ys) ρ2
/-- .. of any two lists that are read -/
def rCatL (K : PySem.W.Frag) : R2 := fun x y H Q => ∃ a b xs ys, x = .ref a ∧ y = .ref b ∧ SqL K H a xs ∧ SqL K H b ys ∧ xs.length + ys.length ≤ sizeLine ∧ ∀ p, H p = none → Q (.ref p) (upd H p (.lst (xs ++ ys)))
theorem op_catL : OpR X (binaryOp .Add) (rCatL X.K) := by
  intro pins s σ H x y v u Q I rx ry h
  obtain ⟨a, b, xs, ys, rfl, rfl, ha, hb, hz, q⟩ := h
  cases rx
  cases ry
  obtain ⟨its, r1, ⟨⟨cls, dd, data, sl⟩, n, ho, hc, hdd, hd⟩, _⟩ := I.list ha
  obtain ⟨its2, r2, ⟨⟨cls2, dd2, data2, sl2⟩, n2, ho2, hc2, hdd2, hd2⟩, _⟩ := I.list hb
  simp only at hc hd hc2 hd2 hdd hdd2
  subst hc hd hc2 hd2 hdd hdd2
  have l1 := r1.length
  have l2 := r2.length
  have e : its.toArray ++ its2.toArray = (its ++ its2).toArray := by simp
  refine concat_meets ⟨_, ho, rfl⟩ ⟨_, ho2, rfl⟩ noFill_list_add seq_list_add PySem.F.slot_list_add PySem.F.entry_list_add (PySem.F.args_list_add_2 _ _)
    (PyProof.Rows.list_addW a b its.toArray its2.toArray n n2 none none sl sl2 (by rw [List.size_toArray, List.size_toArray, ← l1, ← l2]; exact hz)) ⟨ho, ho2, ?_⟩
  rw [e]
  exact ⟨.ref _, _, I.lnew (t' := s.toks) (r1.append r2) (by rw [List.length_append]; exact hz), rfl, q _ I.fresh⟩
theorem dn_add {a b : Expr} {ta tb : DTE} {pos : Pos} (ha : DE X a ta) (hb : DE X b tb) : DN X (.BinOp a .Add b pos) (nAdd ta tb) := pe_imp (pe_op op_catL ha hb) fun σ H Q ⟨B, ρ, Q0, R, q, k⟩ => by
  refine lift2 R q fun r1 r2 ρ2 x y H2 f R2 k1 k2 s2 => ?_
  obtain ⟨xs, ys, e1, e2, hz, q2⟩ := f
  obtain ⟨a, vs, rfl, h1, ra⟩ := sql_now R2 k1 e1
  obtain ⟨b, us, rfl, h2, rb⟩ := sql_now R2 k2 e2
  refine ⟨a, b, vs, us, rfl, rfl, h1, h2, by rw [← ra.length, ← rb.length]; exact hz, fun p np => ?_⟩
  have sm : Same H2 (upd H2 p (.lst (vs ++ us))) := same_new np
  obtain ⟨f0, f1⟩ := R2.new np
  exact k _ ρ2 p _ _ q2 (R2.same sm) upd_same ((ra.append rb).mono (Kp.same sm) _ _) (s2.none np) f0 f1 (s2.trans (Stp.same sm))
def fNeg : Fn := fun ρ rs C => match rs with
  | [.dat (.int i)] => C (.int (-i))
  | _ => False
def dNeg (ta : DTE) : DTE := fun ρ Q => ta ρ fun r ρ1 => fNeg ρ1 [r] fun d => Q (.dat d) ρ1
theorem de_neg {a : Expr} {ta : DTE} {pos : Pos} (ha : DE X a ta) : DE X (.UnaryOp .USub a pos) (dNeg ta) := pe_imp (pe_un un_neg ha) fun σ H Q ⟨B, ρ, Q0, R, q, k⟩ => by
  refine ⟨B, ρ, _, R, q, fun r ρ1 v H1 q1 R1 k1 s1 => ?_⟩
  unfold fNeg at q1
  split at q1
  · rename_i i e
    cases e
    exact ⟨i, rint k1, k _ ρ1 _ H1 q1 R1 (qint _ _ _ _) s1⟩
  · exact q1.elim
/-! ### order, equality -/
def fLt : Fn := fun ρ rs C => match rs with
  | [.dat (.int i), .dat (.int j)] => C (.bool (decide (i < j)))
  | [.dat (.str i), .dat (.str j)] => C (.bool (decide (i.cps.toList < j.cps.toList)))
  | _ => False
def fGt : Fn := fun ρ rs C => match rs with
  | [.dat (.int i), .dat (.int j)] => C (.bool (decide (j < i)))
  | [.dat (.str i), .dat (.str j)] => C (.bool (decide (j.cps.toList < i.cps.toList)))
  | _ => False
def fLe : Fn := fun ρ rs C => match rs with
  | [.dat (.int i), .dat (.int j)] => C (.bool (decide (i ≤ j)))
  | [.dat (.str i), .dat (.str j)] => C (.bool (!decide (j.cps.toList < i.cps.toList)))
  | _ => False
def fGe : Fn := fun ρ rs C => match rs with
  | [.dat (.int i), .dat (.int j)] => C (.bool (decide (j ≤ i)))
  | [.dat (.str i), .dat (.str j)] => C (.bool (!decide (i.cps.toList < j.cps.toList)))
  | _ => False
theorem od_is2 {op : Value → Value → Sem Value} {gi : Int → Int → Bool} {gs : Str → Str → Bool} {r : Fn} (h : OpR X op (rI0 fun i j => .bl (gi i j))) (h' : OpR X op (fun x y H Q => ∃ i j, x = .str i ∧ y = .str j ∧ Q (.bl (gs i j)) H))
    (hr : ∀ ρ r1 r2 C, r ρ [r1, r2] C → (∃ i j, r1 = .dat (.int i) ∧ r2 = .dat (.int j) ∧ C (.bool (gi i j))) ∨ ∃ i j, r1 = .dat (.str i) ∧ r2 = .dat (.str j) ∧ C (.bool (gs i j))) : OpD X op r :=
  opD_of (h.or h') fun σ H x y B ρ r1 r2 C Q R k1 k2 q c => by
    rcases hr ρ r1 r2 C q with ⟨i, j, rfl, rfl, q2⟩ | ⟨i, j, rfl, rfl, q2⟩
    · exact .inl ⟨i, j, rint k1, rint k2, c _ _ H q2 (same_refl H) (pbool _ _ _)⟩
    · exact .inr ⟨i, j, rstr k1, rstr k2, c _ _ H q2 (same_refl H) (pbool _ _ _)⟩
theorem od_lt : OpD X (compareOp .Lt) fLt := od_is2 op_lt op_lt_str fun ρ r1 r2 C q => by
  unfold fLt at q
  split at q
  · rename_i i j e; cases e; exact .inl ⟨i, j, rfl, rfl, q⟩
  · rename_i i j e; cases e; exact .inr ⟨i, j, rfl, rfl, q⟩
  · exact q.elim
theorem od_gt : OpD X (compareOp .Gt) fGt := od_is2 op_gt op_gt_str fun ρ r1 r2 C q => by
  unfold fGt at q
  split at q
  · rename_i i j e; cases e; exact .inl ⟨i, j, rfl, rfl, q⟩
  · rename_i i j e; cases e; exact .inr ⟨i, j, rfl, rfl, q⟩
  · exact q.elim
theorem od_le : OpD X (compareOp .LtE) fLe := od_is2 op_le op_le_str fun ρ r1 r2 C q => by
  unfold fLe at q
  split at q
  · rename_i i j e; cases e; exact .inl ⟨i, j, rfl, rfl, q⟩
  · rename_i i j e; cases e; exact .inr ⟨i, j, rfl, rfl, q⟩
  · exact q.elim
theorem od_ge : OpD X (compareOp .GtE) fGe := od_is2 op_ge op_ge_str fun ρ r1 r2 C q => by
  unfold fGe at q
  split at q
  · rename_i i j e; cases e; exact .inl ⟨i, j, rfl, rfl, q⟩
  · rename_i i j e; cases e; exact .inr ⟨i, j, rfl, rfl, q⟩
  · exact q.elim
/-- == of trees without dicts -/
def Cmpb (d : PyData) : Prop := d.hasDict = false ∧ SeqAt.shaped d = true
def fEqB (neg : Bool) : Fn := fun ρ rs C => match rs with
  | [.dat (.int i), .dat (.int j)] => C (.bool (if neg then !decide (i = j) else decide (i = j)))
  | [.dat (.str i), .dat (.str j)] => C (.bool (if neg then !decide (i = j) else decide (i = j)))
  | [a, b] => ∃ d e, datOf ρ a = some d ∧ datOf ρ b = some e ∧ Cmpb d ∧ Cmpb e ∧ C (.bool (if neg then !PyData.eqv d e else PyData.eqv d e))
  | _ => False
abbrev fEq : Fn := fEqB false
abbrev fNe : Fn := fEqB true
theorem dec_vint (i j : Int) : decide (V.int i = V.int j) = decide (i = j) := by
  by_cases h : i = j
  · subst h; simp
  · rw [decide_eq_false h, decide_eq_false fun e => h (V.int.inj e)]
theorem dec_vstr (i j : Str) : decide (V.str i = V.str j) = decide (i = j) := by
  by_cases h : i = j
  · subst h; simp
  · rw [decide_eq_false h, decide_eq_false fun e => h (V.str.inj e)]
theorem od_eq (hu : X.A.units + 64 < cLine) : OpD X (compareOp .Eq) fEq := opD_of (op_eq.or (op_eqD hu)) fun σ H x y B ρ r1 r2 C Q R k1 k2 q c => by
  unfold fEq fEqB at q
  split at q
  · rename_i i j e
    cases e
    rw [rint k1, rint k2]
    exact .inl ⟨rfl, by rw [dec_vint]; exact c _ _ H q (same_refl H) (pbool _ _ _)⟩
  · rename_i i j e
    cases e
    rw [rstr k1, rstr k2]
    exact .inl ⟨rfl, by rw [dec_vstr]; exact c _ _ H q (same_refl H) (pbool _ _ _)⟩
  · rename_i a b _ _ e
    cases e
    obtain ⟨d, e, h1, h2, ⟨n1, s1⟩, ⟨n2, s2⟩, q⟩ := q
    exact .inr ⟨d, e, dp_rv R k1 h1 n1, dp_rv R k2 h2 n2, s1, s2, c _ _ H q (same_refl H) (pbool _ _ _)⟩
  · exact q.elim
theorem od_ne (hu : X.A.units + 64 < cLine) : OpD X (compareOp .NotEq) fNe := opD_of (op_ne.or (op_neD hu)) fun σ H x y B ρ r1 r2 C Q R k1 k2 q c => by
  unfold fNe fEqB at q
  split at q
  · rename_i i j e
    cases e
    rw [rint k1, rint k2]
    exact .inl ⟨rfl, by rw [dec_vint]; exact c _ _ H q (same_refl H) (pbool _ _ _)⟩
  · rename_i i j e
    cases e
    rw [rstr k1, rstr k2]
    exact .inl ⟨rfl, by rw [dec_vstr]; exact c _ _ H q (same_refl H) (pbool _ _ _)⟩
  · rename_i a b _ _ e
    cases e
    obtain ⟨d, e, h1, h2, ⟨n1, s1⟩, ⟨n2, s2⟩, q⟩ := q
    exact .inr ⟨d, e, dp_rv R k1 h1 n1, dp_rv R k2 h2 n2, s1, s2, c _ _ H q (same_refl H) (pbool _ _ _)⟩
  · exact q.elim
/-- is None, is True, is False -/
def isNn : PyData → Bool
  | .none => true
  | _ => false
theorem isNn_ok {K : PySem.W.Frag} {H : Hp} {d : PyData} {v : V} (h : Rep K H d v) : decide (v = .non) = isNn d := by
  cases d with
  | none => rw [Rep] at h; subst h; rfl
  | bool b => rw [Rep] at h; subst h; rfl
  | int b => rw [Rep] at h; subst h; rfl
  | str b => rw [Rep] at h; subst h; rfl
  | list b => rw [Rep] at h; obtain ⟨a, xs, rfl, _⟩ := h; rfl
  | tuple b => rw [Rep] at h; obtain ⟨a, xs, rfl, _⟩ := h; rfl
  | dict b => rw [Rep] at h; obtain ⟨a, xs, rfl, _⟩ := h; rfl
def fIsN : Fn := fun ρ rs C => match rs with
  | [.dat d, .dat .none] => C (.bool (isNn d))
  | _ => False
def fNotN : Fn := fun ρ rs C => match rs with
  | [.dat d, .dat .none] => C (.bool (!isNn d))
  | _ => False
theorem od_isN : OpD X (compareOp .Is) fIsN := opD_of op_isN fun σ H x y B ρ r1 r2 C Q R k1 k2 q c => by
  unfold fIsN at q
  split at q
  · rename_i d e
    cases e
    exact ⟨rnone k2, by rw [isNn_ok k1]; exact c _ _ H q (same_refl H) (pbool _ _ _)⟩
  · exact q.elim
theorem od_notN : OpD X (compareOp .IsNot) fNotN := opD_of op_notN fun σ H x y B ρ r1 r2 C Q R k1 k2 q c => by
  unfold fNotN at q
  split at q
  · rename_i d e
    cases e
    exact ⟨rnone k2, by rw [isNn_ok k1]; exact c _ _ H q (same_refl H) (pbool _ _ _)⟩
  · exact q.elim
def fIsB : Fn := fun ρ rs C => match rs with
  | [.dat (.bool a), .dat (.bool b)] => C (.bool (decide (a = b)))
  | _ => False
def fNotB : Fn := fun ρ rs C => match rs with
  | [.dat (.bool a), .dat (.bool b)] => C (.bool (!decide (a = b)))
  | _ => False
theorem od_isB : OpD X (compareOp .Is) fIsB := opD_of op_isBl fun σ H x y B ρ r1 r2 C Q R k1 k2 q c => by
  unfold fIsB at q
  split at q
  · rename_i a b e
    cases e
    exact ⟨a, b, rbool k1, rbool k2, c _ _ H q (same_refl H) (pbool _ _ _)⟩
  · exact q.elim
theorem od_notB : OpD X (compareOp .IsNot) fNotB := opD_of op_notBl fun σ H x y B ρ r1 r2 C Q R k1 k2 q c => by
  unfold fNotB at q
  split at q
  · rename_i a b e
    cases e
    exact ⟨a, b, rbool k1, rbool k2, c _ _ H q (same_refl H) (pbool _ _ _)⟩
  · exact q.elim
/-! ### in, not in -/
def flatD : PyData → Bool
  | .none => true
  | .bool _ => true
  | .int _ => true
  | .str _ => true
  | _ => false
theorem flatV_of {K : PySem.W.Frag} {H : Hp} {d : PyData} {v : V} (h : Rep K H d v) (f : flatD d = true) : flatV v = true := by
  cases d with
  | none => rw [Rep] at h; subst h; rfl
  | bool b => rw [Rep] at h; subst h; rfl
  | int b => rw [Rep] at h; subst h; rfl
  | str b => rw [Rep] at h; subst h; rfl
  | _ => cases f
theorem eqV_of {K : PySem.W.Frag} {H : Hp} {d e : PyData} {v u : V} (h : Rep K H d v) (h' : Rep K H e u) (f : flatD d = true) (f' : flatD e = true) : eqV v u = PyData.eqv d e := by
  cases d <;> simp [flatD] at f <;> cases e <;> simp [flatD] at f' <;> simp only [Rep] at h h' <;> subst h <;> subst h' <;> simp [eqV, PyData.eqv]
theorem inV_of {K : PySem.W.Frag} {H : Hp} {d : PyData} {v : V} (h : Rep K H d v) (f : flatD d = true) : ∀ {ds : List PyData} {vs : List V}, RepA K H ds vs → ds.all flatD = true → vs.all flatV = true ∧ inV v vs = ds.any fun z => PyData.eqv z d
  | [], vs, r, _ => by rw [RepA] at r; subst r; exact ⟨rfl, rfl⟩
  | e :: ds, vs, r, a => by
    rw [RepA] at r
    obtain ⟨u, us, rfl, r1, r2⟩ := r
    rw [List.all_cons, Bool.and_eq_true] at a
    obtain ⟨h1, h2⟩ := inV_of h f r2 a.2
    refine ⟨by rw [List.all_cons, flatV_of r1 a.1, h1]; rfl, ?_⟩
    show (eqV u v || inV v us) = _
    rw [h2, eqV_of r1 h a.1 f]
    rfl
/-- the items of a list or tuple -/
def seqOf (ρ : Rho) : Rv → Option (List PyData)
  | .dat (.tuple ds) => some ds
  | r => listOf ρ r
theorem seq_now {K : PySem.W.Frag} {B : Bs} {ρ : Rho} {σ : L2.St} {H : Hp} {r : Rv} {v : V} {ds : List PyData} (R : Rel K B ρ σ H) (k : RvOk K H σ r v) (e : seqOf ρ r = some ds) : ∃ a vs, v = .ref a ∧ (SqL K H a vs ∨ SqT K H a vs) ∧ RepA K H ds vs := by
  unfold seqOf at e
  split at e
  · cases e
    obtain ⟨a, vs, rfl, h1, h2⟩ := rtup k
    exact ⟨a, vs, rfl, .inr h1, h2⟩
  · obtain ⟨a, vs, rfl, h1, h2⟩ := sql_now R k e
    exact ⟨a, vs, rfl, .inl h1, h2⟩
def fInB (neg : Bool) : Fn := fun ρ rs C => match rs with
  | [.dat d, r] => ∃ ds, seqOf ρ r = some ds ∧ flatD d = true ∧ ds.all flatD = true ∧ C (.bool (if neg then !ds.any fun z => PyData.eqv z d else ds.any fun z => PyData.eqv z d))
  | _ => False
abbrev fIn : Fn := fInB false
abbrev fNotIn : Fn := fInB true
theorem od_in : OpD X (compareOp .In) fIn := opD_of op_in_seq fun σ H x y B ρ r1 r2 C Q R k1 k2 q c => by
  unfold fIn fInB at q
  split at q
  · rename_i d r e
    cases e
    obtain ⟨ds, es, f1, f2, q⟩ := q
    obtain ⟨a, vs, rfl, h1, ra⟩ := seq_now R k2 es
    obtain ⟨g1, g2⟩ := inV_of k1 f1 ra f2
    exact ⟨a, vs, rfl, h1, flatV_of k1 f1, g1, by rw [g2]; exact c _ _ H q (same_refl H) (pbool _ _ _)⟩
  · exact q.elim
theorem od_notIn : OpD X (compareOp .NotIn) fNotIn := opD_of op_notIn_seq fun σ H x y B ρ r1 r2 C Q R k1 k2 q c => by
  unfold fNotIn fInB at q
  split at q
  · rename_i d r e
    cases e
    obtain ⟨ds, es, f1, f2, q⟩ := q
    obtain ⟨a, vs, rfl, h1, ra⟩ := seq_now R k2 es
    obtain ⟨g1, g2⟩ := inV_of k1 f1 ra f2
    exact ⟨a, vs, rfl, h1, flatV_of k1 f1, g1, by rw [g2]; exact c _ _ H q (same_refl H) (pbool _ _ _)⟩
  · exact q.elim
/-- deep items, a list -/
def fInD (neg : Bool) : Fn := fun ρ rs C => match rs with
  | [a, b] => ∃ d ds, datOf ρ a = some d ∧ datOf ρ b = some (.list ds) ∧ Cmpb d ∧ Cmpb (.list ds) ∧ C (.bool (if neg then !ds.any fun z => PyData.eqv z d else ds.any fun z => PyData.eqv z d))
  | _ => False
theorem od_inD (hu : X.A.units + 65 < cLine) : OpD X (compareOp .In) (fInD false) := opD_of (op_inD hu) fun σ H x y B ρ r1 r2 C Q R k1 k2 q c => by
  obtain ⟨d, ds, h1, h2, ⟨n1, s1⟩, ⟨n2, s2⟩, q⟩ := q
  exact ⟨d, ds, dp_rv R k1 h1 n1, dp_rv R k2 h2 n2, s1, s2, c _ _ H q (same_refl H) (pbool _ _ _)⟩
theorem od_notInD (hu : X.A.units + 65 < cLine) : OpD X (compareOp .NotIn) (fInD true) := opD_of (op_notInD hu) fun σ H x y B ρ r1 r2 C Q R k1 k2 q c => by
  obtain ⟨d, ds, h1, h2, ⟨n1, s1⟩, ⟨n2, s2⟩, q⟩ := q
  exact ⟨d, ds, dp_rv R k1 h1 n1, dp_rv R k2 h2 n2, s1, s2, c _ _ H q (same_refl H) (pbool _ _ _)⟩
/-- one sign in a text -/
def fInS : Fn := fun ρ rs C => ∃ c z, rs = [.dat (.str ⟨#[c]⟩), .dat (.str z)] ∧ C (.bool (decide (c ∈ z.cps.toList)))
theorem od_inS : OpD X (compareOp .In) fInS := opD_of op_in_sign fun σ H x y B ρ r1 r2 C Q R k1 k2 q c => by
  obtain ⟨a, b, e, q⟩ := q
  cases e
  exact ⟨_, _, rstr k1, rstr k2, c _ _ H q (same_refl H) (pbool _ _ _)⟩
/-! ### subscripts, slices -/
theorem atI_rep {K : PySem.W.Frag} {H : Hp} {ds : List PyData} {vs : List V} {i : Int} {d : PyData} (r : RepA K H ds vs) (e : atI ds i = some d) : ∃ v, atI vs i = some v ∧ Rep K H d v := by
  unfold atI at e ⊢
  rw [← r.length]
  cases ei : ixN ds.length i with
  | none => rw [ei] at e; cases e
  | some j =>
    rw [ei] at e
    exact r.get e
def fIx : Fn := fun ρ rs C => match rs with
  | [.dat (.str z), .dat (.int i)] => ∃ c, z.length ≤ sizeLine ∧ atI z.cps.toList i = some c ∧ C (.str ⟨#[c]⟩)
  | [r, .dat (.int i)] => ∃ ds d, seqOf ρ r = some ds ∧ atI ds i = some d ∧ C d
  | _ => False
theorem de_ix {a b : Expr} {ta tb : DTE} {pos : Pos} (ha : DE X a ta) (hb : DE X b tb) (hs : PlainIx b) : DE X (.Subscript a b pos) (dOp fIx ta tb) := pe_imp (pe_ix ix_seq ha hb hs) fun σ H Q ⟨B, ρ, Q0, R, q, k⟩ => by
  refine lift2 R q fun r1 r2 ρ2 x y H2 f R2 k1 k2 s2 => ?_
  unfold fIx at f
  split at f
  · rename_i z i e
    cases e
    obtain ⟨c, hz, hc, q2⟩ := f
    exact .inr (.inr ⟨z, i, c, rstr k1, rint k2, hz, hc, k _ ρ2 _ H2 q2 R2 (qstr _ _ _ _) s2⟩)
  · rename_i r i _ e
    cases e
    obtain ⟨ds, d, es, ed, q2⟩ := f
    obtain ⟨a, vs, rfl, h1, ra⟩ := seq_now R2 k1 es
    obtain ⟨v, ev, rv⟩ := atI_rep ra ed
    have fin := k _ ρ2 v H2 q2 R2 rv s2
    rcases h1 with h1 | h1
    · exact .inl ⟨a, vs, i, v, rfl, rint k2, h1, ev, fin⟩
    · exact .inr (.inl ⟨a, vs, i, v, rfl, rint k2, h1, ev, fin⟩)
  · exact f.elim
def dNoPart : DTO := fun ρ Q => Q none ρ
def dPart (t : DTE) : DTO := fun ρ Q => t ρ fun r ρ1 => ∃ i, r = .dat (.int i) ∧ Q (some i) ρ1
theorem po_imp {e : Option Expr} {t t' : TO} (h : PO X e t) (i : ∀ σ H Q, t' σ H Q → t σ H Q) : PO X e t' := ⟨fun pins s σ H Q I q => h.run pins s σ H Q I (i σ H Q q)⟩
theorem do_none : DO X none dNoPart := po_imp po_none fun σ H Q ⟨B, ρ, Q0, R, q, k⟩ => k _ ρ H q R (Stp.refl _ _)
theorem do_some {e : Expr} {t : DTE} (h : DE X e t) : DO X (some e) (dPart t) := po_imp (po_some h) fun σ H Q ⟨B, ρ, Q0, R, q, k⟩ => ⟨B, ρ, _, R, q, fun r ρ1 v H1 q1 R1 k1 s1 => by
  obtain ⟨i, rfl, q1⟩ := q1
  exact ⟨i, rint k1, k _ ρ1 H1 q1 R1 s1⟩⟩
/-- xs[lo:hi] -/
def cutD (xs : List PyData) (lo hi : Option Int) : List PyData := (xs.drop (HT.sIx xs.length 0 lo)).take (HT.sIx xs.length xs.length hi - HT.sIx xs.length 0 lo)
theorem cut_rep {K : PySem.W.Frag} {H : Hp} {ds : List PyData} {vs : List V} (r : RepA K H ds vs) (lo hi : Option Int) : RepA K H (cutD ds lo hi) (cutV vs lo hi) := by
  unfold cutD cutV
  rw [← r.length]
  exact (r.drop _).take _
theorem cutV_whole (vs : List V) (lo hi : Option Int) (h : HT.sIx vs.length 0 lo = 0 ∧ HT.sIx vs.length vs.length hi = vs.length) : cutV vs lo hi = vs := by
  unfold cutV
  rw [h.1, h.2]
  simp
theorem lift3 {a : Expr} {ta : DTE} {tl th : DTO} {σ : L2.St} {H : Hp} {B : Bs} {ρ : Rho} {F : Rv → Option Int → Option Int → Rho → Prop} {R3 : V → Option Int → Option Int → Hp → Prop} (R : Rel X.K B ρ σ H) (h : ta ρ fun r ρ1 => tl ρ1 fun l ρ2 => th ρ2 fun u ρ3 => F r l u ρ3)
    (k : ∀ r l u ρ3 x H3, F r l u ρ3 → Rel X.K B ρ3 σ H3 → RvOk X.K H3 σ r x → Stp ρ H ρ3 H3 → R3 x l u H3) : lift X.K ta σ H fun x H1 => liftO X.K tl σ H1 fun l H2 => liftO X.K th σ H2 fun u H3 => R3 x l u H3 :=
  ⟨B, ρ, _, R, h, fun r ρ1 x H1 q1 R1 k1 s1 => ⟨B, ρ1, _, R1, q1, fun l ρ2 H2 q2 R2 s2 => ⟨B, ρ2, _, R2, q2, fun u ρ3 H3 q3 R3 s3 => k r l u ρ3 x H3 q3 R3 (k1.mono (s2.trans s3).kp) (s1.trans (s2.trans s3))⟩⟩⟩
def dSlT (ta : DTE) (tl th : DTO) : DTE := fun ρ Q => ta ρ fun r ρ1 => tl ρ1 fun l ρ2 => th ρ2 fun u ρ3 => match r with
  | .dat (.str z) => z.length ≤ sizeLine ∧ Q (.dat (.str (cutS z l u))) ρ3
  | .dat (.tuple ds) => Q (.dat (.tuple (cutD ds l u))) ρ3
  | _ => False
/-- a text's, a tuple's slice -/
theorem de_slT {a : Expr} {lo hi : Option Expr} {ta : DTE} {tl th : DTO} {pos p2 : Pos} (ha : DE X a ta) (hl : DO X lo tl) (hh : DO X hi th) : DE X (.Subscript a (.Slice lo hi none p2) pos) (dSlT ta tl th) := pe_imp (pe_slice (sl_str.or sl_tupA) ha hl hh) fun σ H Q ⟨B, ρ, Q0, R, q, k⟩ => by
  refine lift3 (a := a) R q fun r l u ρ3 x H3 f R3 k3 s3 => ?_
  split at f
  · rename_i z
    exact .inl ⟨z, rstr k3, f.1, k _ ρ3 _ H3 f.2 R3 (qstr _ _ _ _) s3⟩
  · rename_i ds
    obtain ⟨p, vs, rfl, h1, ra⟩ := rtup k3
    have rc := cut_rep ra l u
    refine .inr ⟨p, vs, rfl, h1, fun hw => ?_, fun hw p np => ?_⟩
    · rw [cutV_whole vs l u hw] at rc
      exact k _ ρ3 _ H3 f R3 (ptup h1 rc) s3
    · have sm : Same H3 (upd H3 p (.tup (cutV vs l u))) := same_new np
      exact k _ ρ3 _ _ f (R3.same sm) (ptup (SqT.of upd_same) (rc.mono (Kp.same sm) _ _)) (s3.trans (Stp.same sm))
  · exact f.elim
/-- a list's slice: a new list -/
def nSl (ta : DTE) (tl th : DTO) : DTN := fun ρ Q => ta ρ fun r ρ1 => tl ρ1 fun l ρ2 => th ρ2 fun u ρ3 => ∃ ds, listOf ρ3 r = some ds ∧ Q (cutD ds l u) ρ3
theorem dn_sl {a : Expr} {lo hi : Option Expr} {ta : DTE} {tl th : DTO} {pos p2 : Pos} (ha : DE X a ta) (hl : DO X lo tl) (hh : DO X hi th) : DN X (.Subscript a (.Slice lo hi none p2) pos) (nSl ta tl th) := pe_imp (pe_slice sl_list ha hl hh) fun σ H Q ⟨B, ρ, Q0, R, q, k⟩ => by
  refine lift3 (a := a) R q fun r l u ρ3 x H3 f R3 k3 s3 => ?_
  obtain ⟨ds, el, q3⟩ := f
  obtain ⟨b, vs, rfl, h1, ra⟩ := sql_now R3 k3 el
  refine ⟨b, vs, rfl, h1, fun p np => ?_⟩
  have sm : Same H3 (upd H3 p (.lst (cutV vs l u))) := same_new np
  obtain ⟨f0, f1⟩ := R3.new np
  exact k _ ρ3 p _ _ q3 (R3.same sm) upd_same ((cut_rep ra l u).mono (Kp.same sm) _ _) (s3.none np) f0 f1 (s3.trans (Stp.same sm))
/-- xs[::-1], a list -/
def nRev (ta : DTE) : DTN := fun ρ Q => ta ρ fun r ρ1 => ∃ ds, listOf ρ1 r = some ds ∧ Q ds.reverse ρ1
theorem dn_rev {e : Expr} {te : DTE} {k : Nat} {p1 p2 p3 pos : Pos} (he : DE X e te) : DN X (.Subscript e (.Slice none none (some (.UnaryOp .USub (.Constant (.int 1) k p1) p2)) p3) pos) (nRev te) := pe_imp (pe_revL he) fun σ H Q ⟨B, ρ, Q0, R, q, k⟩ => by
  refine ⟨B, ρ, _, R, q, fun r ρ1 v H1 q1 R1 k1 s1 => ?_⟩
  obtain ⟨ds, el, q1⟩ := q1
  obtain ⟨a, vs, rfl, h1, ra⟩ := sql_now R1 k1 el
  refine ⟨a, vs, rfl, h1, fun p np => ?_⟩
  have sm : Same H1 (upd H1 p (.lst vs.reverse)) := same_new np
  obtain ⟨f0, f1⟩ := R1.new np
  exact k _ ρ1 p _ _ q1 (R1.same sm) upd_same (ra.reverse.mono (Kp.same sm) _ _) (s1.none np) f0 f1 (s1.trans (Stp.same sm))
end
end DL

/-! DL: built-in functions and methods, by trees. -/
namespace DL
open PySem PySem.Spec L2

def rdN (K : PySem.W.Frag) (r : Fn) : List V → Hp → VK → Prop := fun vs H Q => ∃ σ B ρ rs C, Rel K B ρ σ H ∧ RvsOk K H σ rs vs ∧ r ρ rs C ∧ ∀ d w H', C d → Same H H' → Rep K H' d w → Q w H'
abbrev FnL := Rho → List Rv → (List PyData → Prop) → Prop
def rdL (K : PySem.W.Frag) (r : FnL) : List V → Hp → VK → Prop := fun vs H Q => ∃ σ B ρ rs C, Rel K B ρ σ H ∧ RvsOk K H σ rs vs ∧ r ρ rs C ∧ ∀ ds us p H', C ds → H p = none → Same H H' → H' p = some (.lst us) → RepA K H' ds us → Q (.ref p) H'
def FnR (X : Cx) (f : Value) (r : Fn) : Prop := CallR X f (rdN X.K r)
def FnRL (X : Cx) (f : Value) (r : FnL) : Prop := CallR X f (rdL X.K r)
section
variable {X : Cx}
theorem fnR_of {f : Value} {r0 : List V → Hp → VK → Prop} {r : Fn} (h : CallR X f r0)
    (i : ∀ (σ : L2.St) (H : Hp) (vs : List V) (B : Bs) (ρ : Rho) (rs : List Rv) (C : PyData → Prop) (Q : VK), Rel X.K B ρ σ H → RvsOk X.K H σ rs vs → r ρ rs C → (∀ d w H', C d → Same H H' → Rep X.K H' d w → Q w H') → r0 vs H Q) : FnR X f r :=
  fun pins s σ H vs us Q I rv ⟨σ', B, ρ, rs, C, R, k, q, c⟩ => h pins s σ H vs us Q I rv (i σ' H vs B ρ rs C Q R k q c)
theorem fnRL_of {f : Value} {r0 : List V → Hp → VK → Prop} {r : FnL} (h : CallR X f r0)
    (i : ∀ (σ : L2.St) (H : Hp) (vs : List V) (B : Bs) (ρ : Rho) (rs : List Rv) (C : List PyData → Prop) (Q : VK), Rel X.K B ρ σ H → RvsOk X.K H σ rs vs → r ρ rs C → (∀ ds us p H', C ds → H p = none → Same H H' → H' p = some (.lst us) → RepA X.K H' ds us → Q (.ref p) H') → r0 vs H Q) : FnRL X f r :=
  fun pins s σ H vs us Q I rv ⟨σ', B, ρ, rs, C, R, k, q, c⟩ => h pins s σ H vs us Q I rv (i σ' H vs B ρ rs C Q R k q c)
def dCB (r : Fn) (t : DTA) : DTE := fun ρ Q => t ρ fun rs ρ1 => r ρ1 rs fun d => Q (.dat d) ρ1
def nCB (r : FnL) (t : DTA) : DTN := fun ρ Q => t ρ fun rs ρ1 => r ρ1 rs fun ds => Q ds ρ1
theorem lift_cb {r : Fn} {t : DTA} {σ : L2.St} {H : Hp} {Q : VK} (h : lift X.K (dCB r t) σ H Q) : tCB (rdN X.K r) (liftA X.K t) σ H Q := by
  obtain ⟨B, ρ, Q0, R, q, k⟩ := h
  exact ⟨B, ρ, _, R, q, fun rs ρ1 vs H1 q1 R1 k1 s1 => ⟨σ, B, ρ1, rs, _, R1, k1, q1, fun d w H' c sm rp => k _ ρ1 w H' c (R1.same sm) rp (s1.trans (Stp.same sm))⟩⟩
theorem lift_cbN {r : FnL} {t : DTA} {σ : L2.St} {H : Hp} {Q : VK} (h : liftN X.K (nCB r t) σ H Q) : tCB (rdL X.K r) (liftA X.K t) σ H Q := by
  obtain ⟨B, ρ, Q0, R, q, k⟩ := h
  refine ⟨B, ρ, _, R, q, fun rs ρ1 vs H1 q1 R1 k1 s1 => ⟨σ, B, ρ1, rs, _, R1, k1, q1, fun ds us p H' c np sm hp ra => ?_⟩⟩
  obtain ⟨f0, f1⟩ := R1.new np
  exact k _ ρ1 p us H' c (R1.same sm) hp ra (s1.none np) f0 f1 (s1.trans (Stp.same sm))
variable {x : Str} {p pos : Pos} {e : Expr} {es : List Expr} {t : DTA} {id T : String} {r : Fn} {rl : FnL}
theorem de_callB (hc : FnR X (.builtin id) r) (hg : Gl X x) (hm : X.mg x = none) (hv : bootBuiltins x = some (.builtin id)) (ha : DA X (e :: es) t) (hn : x ≠ "__name__" := by decide) (hdb : (x == ("__debug__" : Str)) = false := by decide)
    (he : starEach (e :: es) X.env = (false, eval e X.env) :: starEach es X.env := by rfl) (hpl : (backTo pos (starEach es X.env)).any (·.1) = false := by rfl) : DE X (.Call (.Name x p) (e :: es) [] pos) (dCB r t) :=
  pe_imp (pe_callB hc hg hm hv ha hn hdb he hpl) fun σ H Q h => lift_cb h
theorem de_callTy (hc : FnR X (.type T) r) (hg : Gl X x) (hm : X.mg x = none) (hv : bootBuiltins x = some (.type T)) (ha : DA X (e :: es) t) (hn : x ≠ "__name__" := by decide) (hdb : (x == ("__debug__" : Str)) = false := by decide)
    (he : starEach (e :: es) X.env = (false, eval e X.env) :: starEach es X.env := by rfl) (hpl : (backTo pos (starEach es X.env)).any (·.1) = false := by rfl) : DE X (.Call (.Name x p) (e :: es) [] pos) (dCB r t) :=
  pe_imp (pe_callTy hc hg hm hv ha hn hdb he hpl) fun σ H Q h => lift_cb h
theorem dn_callB (hc : FnRL X (.builtin id) rl) (hg : Gl X x) (hm : X.mg x = none) (hv : bootBuiltins x = some (.builtin id)) (ha : DA X (e :: es) t) (hn : x ≠ "__name__" := by decide) (hdb : (x == ("__debug__" : Str)) = false := by decide)
    (he : starEach (e :: es) X.env = (false, eval e X.env) :: starEach es X.env := by rfl) (hpl : (backTo pos (starEach es X.env)).any (·.1) = false := by rfl) : DN X (.Call (.Name x p) (e :: es) [] pos) (nCB rl t) :=
  pe_imp (pe_callB hc hg hm hv ha hn hdb he hpl) fun σ H Q h => lift_cbN h
theorem dn_callTy (hc : FnRL X (.type T) rl) (hg : Gl X x) (hm : X.mg x = none) (hv : bootBuiltins x = some (.type T)) (ha : DA X (e :: es) t) (hn : x ≠ "__name__" := by decide) (hdb : (x == ("__debug__" : Str)) = false := by decide)
    (he : starEach (e :: es) X.env = (false, eval e X.env) :: starEach es X.env := by rfl) (hpl : (backTo pos (starEach es X.env)).any (·.1) = false := by rfl) : DN X (.Call (.Name x p) (e :: es) [] pos) (nCB rl t) :=
  pe_imp (pe_callTy hc hg hm hv ha hn hdb he hpl) fun σ H Q h => lift_cbN h

/-! ### len -/
def fLen : Fn := fun ρ rs C => match rs with
  | [.dat (.str z)] => z.length ≤ sizeLine ∧ C (.int z.length)
  | [r] => ∃ ds, seqOf ρ r = some ds ∧ C (.int ds.length)
  | _ => False
theorem fr_len : FnR X (.builtin "len") fLen := fnR_of (call_len_seq.or call_len_str) fun σ H vs B ρ rs C Q R k q c => by
  unfold fLen at q
  split at q
  · rename_i z
    obtain ⟨v, rfl, k1⟩ := k.one
    exact .inr ⟨z, by rw [rstr k1], q.1, c _ _ H q.2 (same_refl H) (pint _ _ _)⟩
  · rename_i r _
    obtain ⟨v, rfl, k1⟩ := k.one
    obtain ⟨ds, es, q⟩ := q
    obtain ⟨a, us, rfl, h1, ra⟩ := seq_now R k1 es
    exact .inl ⟨a, us, rfl, h1, by rw [← ra.length]; exact c _ _ H q (same_refl H) (pint _ _ _)⟩
  · exact q.elim
/-! ### tuple, list, str, int -/
def fTuple : Fn := fun ρ rs C => ∃ r ds, rs = [r] ∧ seqOf ρ r = some ds ∧ C (.tuple ds)
theorem fr_tuple : FnR X (.type "tuple") fTuple := fnR_of call_tuple_of fun σ H vs B ρ rs C Q R k q c => by
  obtain ⟨r, ds, rfl, es, q⟩ := q
  obtain ⟨v, rfl, k1⟩ := k.one
  obtain ⟨a, us, rfl, h1, ra⟩ := seq_now R k1 es
  rcases h1 with h1 | h1
  · refine ⟨a, us, rfl, .inl ⟨h1, fun l nl => ?_⟩⟩
    have sm : Same H (upd H l (.tup us)) := same_new nl
    exact c _ _ _ q sm (ptup (SqT.of upd_same) (ra.mono (Kp.same sm) _ _))
  · exact ⟨a, us, rfl, .inr ⟨h1, c _ _ H q (same_refl H) (ptup h1 ra)⟩⟩
def fList : FnL := fun ρ rs C => ∃ r ds, rs = [r] ∧ seqOf ρ r = some ds ∧ C ds
theorem fr_list : FnRL X (.type "list") fList := fnRL_of call_list_of fun σ H vs B ρ rs C Q R k q c => by
  obtain ⟨r, ds, rfl, es, q⟩ := q
  obtain ⟨v, rfl, k1⟩ := k.one
  obtain ⟨a, us, rfl, h1, ra⟩ := seq_now R k1 es
  refine ⟨a, us, rfl, h1, fun l nl => ?_⟩
  have sm : Same H (upd H l (.lst us)) := same_new nl
  exact c _ _ l _ q nl sm upd_same (ra.mono (Kp.same sm) _ _)
def fInt : Fn := fun ρ rs C => match rs with
  | [.dat (.int i)] => C (.int i)
  | [.dat (.bool b)] => C (.int (if b then 1 else 0))
  | _ => False
theorem fr_int : FnR X (.type "int") fInt := fnR_of call_int1 fun σ H vs B ρ rs C Q R k q c => by
  unfold fInt at q
  split at q
  · rename_i i
    obtain ⟨v, rfl, k1⟩ := k.one
    exact .inl ⟨i, by rw [rint k1], c _ _ H q (same_refl H) (pint _ _ _)⟩
  · rename_i b
    obtain ⟨v, rfl, k1⟩ := k.one
    exact .inr ⟨b, by rw [rbool k1], c _ _ H q (same_refl H) (pint _ _ _)⟩
  · exact q.elim
/-! ### sum, min, max, all, any -/
def fMin : Fn := fun ρ rs C => ∃ (r : Rv) (ns : List Int), rs = [r] ∧ listOf ρ r = some (ns.map PyData.int) ∧ 0 < ns.length ∧ ∀ m, m ∈ ns → (∀ y, y ∈ ns → m ≤ y) → C (.int m)
theorem fr_min (hc : X.calm = true) : FnR X (.builtin "min") fMin := fnR_of (cr_min hc) fun σ H vs B ρ rs C Q R k q c => by
  obtain ⟨r, ns, rfl, es, hl, q⟩ := q
  obtain ⟨v, rfl, k1⟩ := k.one
  obtain ⟨a, us, rfl, h1, ra⟩ := sql_now R k1 es
  rw [ra.ints_of] at h1
  exact ⟨a, ns, rfl, h1, hl, fun m hm hy => c _ _ H (q m hm hy) (same_refl H) (pint _ _ _)⟩
def fMax : Fn := fun ρ rs C => ∃ (r : Rv) (ns : List Int), rs = [r] ∧ listOf ρ r = some (ns.map PyData.int) ∧ 0 < ns.length ∧ ∀ m, m ∈ ns → (∀ y, y ∈ ns → y ≤ m) → C (.int m)
theorem fr_max (hc : X.calm = true) : FnR X (.builtin "max") fMax := fnR_of (cr_max hc) fun σ H vs B ρ rs C Q R k q c => by
  obtain ⟨r, ns, rfl, es, hl, q⟩ := q
  obtain ⟨v, rfl, k1⟩ := k.one
  obtain ⟨a, us, rfl, h1, ra⟩ := sql_now R k1 es
  rw [ra.ints_of] at h1
  exact ⟨a, ns, rfl, h1, hl, fun m hm hy => c _ _ H (q m hm hy) (same_refl H) (pint _ _ _)⟩
def fMin2 : Fn := fun ρ rs C => match rs with
  | [.dat (.int i), .dat (.int j)] => C (.int (if j < i then j else i))
  | _ => False
theorem fr_min2 (hc : X.calm = true) : FnR X (.builtin "min") fMin2 := fnR_of (call_min2 hc) fun σ H vs B ρ rs C Q R k q c => by
  unfold fMin2 at q
  split at q
  · rename_i i j
    obtain ⟨v, u, rfl, k1, k2⟩ := k.two
    exact ⟨i, j, by rw [rint k1, rint k2], c _ _ H q (same_refl H) (pint _ _ _)⟩
  · exact q.elim
def fMax2 : Fn := fun ρ rs C => match rs with
  | [.dat (.int i), .dat (.int j)] => C (.int (if j > i then j else i))
  | _ => False
theorem fr_max2 (hc : X.calm = true) : FnR X (.builtin "max") fMax2 := fnR_of (call_max2 hc) fun σ H vs B ρ rs C Q R k q c => by
  unfold fMax2 at q
  split at q
  · rename_i i j
    obtain ⟨v, u, rfl, k1, k2⟩ := k.two
    exact ⟨i, j, by rw [rint k1, rint k2], c _ _ H q (same_refl H) (pint _ _ _)⟩
  · exact q.elim
def fSum : Fn := fun ρ rs C => ∃ (r : Rv) (ns : List Int), rs = [r] ∧ listOf ρ r = some (ns.map PyData.int) ∧ C (.int ns.sum)
theorem fr_sum (hc : X.calm = true) : FnR X (.builtin "sum") fSum := fnR_of (cr_sum hc) fun σ H vs B ρ rs C Q R k q c => by
  obtain ⟨r, ns, rfl, es, q⟩ := q
  obtain ⟨v, rfl, k1⟩ := k.one
  obtain ⟨a, us, rfl, h1, ra⟩ := sql_now R k1 es
  rw [ra.ints_of] at h1
  exact ⟨a, ns, rfl, h1, c _ _ H q (same_refl H) (pint _ _ _)⟩
def fAll : Fn := fun ρ rs C => ∃ (r : Rv) (bs : List Bool), rs = [r] ∧ listOf ρ r = some (bs.map PyData.bool) ∧ C (.bool (bs.all _root_.id))
theorem fr_all (hc : X.calm = true) : FnR X (.builtin "all") fAll := fnR_of (cr_all hc) fun σ H vs B ρ rs C Q R k q c => by
  obtain ⟨r, ns, rfl, es, q⟩ := q
  obtain ⟨v, rfl, k1⟩ := k.one
  obtain ⟨a, us, rfl, h1, ra⟩ := sql_now R k1 es
  rw [ra.bools_of] at h1
  exact ⟨a, ns, rfl, h1, c _ _ H q (same_refl H) (pbool _ _ _)⟩
def fAny : Fn := fun ρ rs C => ∃ (r : Rv) (bs : List Bool), rs = [r] ∧ listOf ρ r = some (bs.map PyData.bool) ∧ C (.bool (bs.any _root_.id))
theorem fr_any (hc : X.calm = true) : FnR X (.builtin "any") fAny := fnR_of (cr_any hc) fun σ H vs B ρ rs C Q R k q c => by
  obtain ⟨r, ns, rfl, es, q⟩ := q
  obtain ⟨v, rfl, k1⟩ := k.one
  obtain ⟨a, us, rfl, h1, ra⟩ := sql_now R k1 es
  rw [ra.bools_of] at h1
  exact ⟨a, ns, rfl, h1, c _ _ H q (same_refl H) (pbool _ _ _)⟩
/-! ### repr -/
/-- what may be shown -/
structure Showb (d : PyData) : Prop where
  nd : d.hasDict = false
  sh : d.showable = true
  dp : d.depth ≤ 60
  sz : d.shown.length ≤ sizeLine
def fRepr : Fn := fun ρ rs C => ∃ r d, rs = [r] ∧ datOf ρ r = some d ∧ Showb d ∧ C (.str d.shown)
theorem fr_repr (hg : X.A.guards = some []) (hu : X.A.units + 64 < cLine) : FnR X (.builtin "repr") fRepr := by
  intro pins s σ H vs us Q I rv ⟨σ', B, ρ, rs, C, R, k, q, c⟩
  obtain ⟨r, d, rfl, ed, ⟨n, sh, dp, sz⟩, q⟩ := q
  obtain ⟨v, rfl, k1⟩ := k.one
  obtain ⟨u, rfl, ru⟩ := vals1 rv
  obtain ⟨as, rd⟩ := Dp.reads I d v u (dp_rv R k1 ed n) ru
  have fin : ∀ {t : Tok} {h' : Heap} {tk : Nat}, (∀ b o, s.heap.get? b = some o → h'.get? b = some o) → EP X pins σ Q (.str d.shown t) { s with heap := h', toks := tk } := fun {t h' tk} kk =>
    ⟨.str d.shown, H, I.kept kk, ⟨t, rfl⟩, c _ _ H q (same_refl H) (pstr _ _ _)⟩
  have atom : ∀ {t : Tok} {tk : Nat}, EP X pins σ Q (.str d.shown t) { s with toks := tk } := fun {t tk} =>
    ⟨.str d.shown, H, I.tok _, ⟨t, rfl⟩, c _ _ H q (same_refl H) (pstr _ _ _)⟩
  cases rd with
  | none => exact PySem.P.repr_of_none atom
  | bool b => exact PySem.P.repr_of_bool atom
  | int i t => exact PySem.P.repr_of_int (of_decide_eq_true (by simpa [PyData.showable] using sh)) atom
  | str z t => exact PySem.P.repr_of_str atom sz
  | list h1 h2 h3 h4 => exact repr_of_reads' (Reads.list h1 h2 h3 h4) sh (fun z => by rw [n] at z; cases z) hg (by omega) (fun _ _ z => z) (fun h' t tk kk => fin kk) sz
  | tuple h1 h2 h3 h4 => exact repr_of_reads' (Reads.tuple h1 h2 h3 h4) sh (fun z => by rw [n] at z; cases z) hg (by omega) (fun _ _ z => z) (fun h' t tk kk => fin kk) sz
  | dict _ _ _ _ _ => simp [PyData.hasDict] at n
end
end DL

/-! DL: least and greatest, join, the methods of a list of ours. -/
namespace DL
open PySem PySem.Spec L2

section
variable {X : Cx}
/-! ### min, max of flat items of one sort -/
theorem flat_reads {h h' : Heap} {d e : PyData} {v : Value} {as bs : List Addr} (r : Reads h v d as) (q : Reads h' v e bs) (f : flatD d = true) (g : flatD e = true) : d = e := by
  cases d <;> simp [flatD] at f <;> cases e <;> simp [flatD] at g <;> cases r <;> cases q <;> rfl
theorem depth_flat : ∀ ds : List PyData, ds.all flatD = true → PyData.depthAll ds = 0
  | [], _ => by rw [PyData.depthAll]
  | d :: ds, h => by
    rw [List.all_cons, Bool.and_eq_true] at h
    rw [PyData.depthAll, depth_flat ds h.2]
    have h1 := h.1
    cases d <;> simp [flatD] at h1 <;> simp [PyData.depth]
theorem hasDict_flat : ∀ ds : List PyData, ds.all flatD = true → PyData.hasDictAll ds = false
  | [], _ => by rw [PyData.hasDictAll]
  | d :: ds, h => by
    rw [List.all_cons, Bool.and_eq_true] at h
    rw [PyData.hasDictAll, hasDict_flat ds h.2]
    have h1 := h.1
    cases d <;> simp [flatD] at h1 <;> simp [PyData.hasDict]
theorem minD_mem (x : PyData) : ∀ xs : List PyData, PySem.W.minD x xs ∈ x :: xs := by
  intro xs
  unfold PySem.W.minD
  induction xs generalizing x with
  | nil => exact List.mem_cons_self
  | cons y r ih =>
    rw [List.foldl_cons]
    have := ih (if PySem.W.dataLt y x = true then y else x)
    rcases List.mem_cons.mp this with e | e
    · rw [e]
      split
      · exact List.mem_cons_of_mem _ List.mem_cons_self
      · exact List.mem_cons_self
    · exact List.mem_cons_of_mem _ (List.mem_cons_of_mem _ e)
theorem maxD_mem (x : PyData) : ∀ xs : List PyData, PySem.W.maxD x xs ∈ x :: xs := by
  intro xs
  unfold PySem.W.maxD
  induction xs generalizing x with
  | nil => exact List.mem_cons_self
  | cons y r ih =>
    rw [List.foldl_cons]
    have := ih (if PySem.W.dataLt x y = true then y else x)
    rcases List.mem_cons.mp this with e | e
    · rw [e]
      split
      · exact List.mem_cons_of_mem _ List.mem_cons_self
      · exact List.mem_cons_self
    · exact List.mem_cons_of_mem _ (List.mem_cons_of_mem _ e)
def fMinD : Fn := fun ρ rs C => ∃ r x xs, rs = [r] ∧ listOf ρ r = some (x :: xs) ∧ PySem.W.AlikeAll (x :: xs) ∧ (x :: xs).all flatD = true ∧ C (PySem.W.minD x xs)
def fMaxD : Fn := fun ρ rs C => ∃ r x xs, rs = [r] ∧ listOf ρ r = some (x :: xs) ∧ PySem.W.AlikeAll (x :: xs) ∧ (x :: xs).all flatD = true ∧ C (PySem.W.maxD x xs)
theorem fr_minD (hc : X.calm = true) (hu : X.A.units + 64 < cLine) : FnR X (.builtin "min") fMinD := by
  intro pins s σ H vs us Q I rv ⟨σ', B, ρ, rs, C, R, k, q, c⟩
  obtain ⟨r, x, xs, rfl, el, al, fl, q⟩ := q
  obtain ⟨v, rfl, k1⟩ := k.one
  obtain ⟨u, rfl, ru⟩ := vals1 rv
  obtain ⟨a, ws, rfl, h1, ra⟩ := sql_now R k1 el
  cases ru
  obtain ⟨its, rw', pl, hz⟩ := I.list h1
  obtain ⟨as, rd⟩ := Dp.readsAll I _ ws its (dpAll_of _ ws ra (hasDict_flat _ fl)) rw'
  refine PySem.W.min_list_data (I.ok.hd hc) pl.isList (by simpa using rd) al (by rw [depth_flat _ fl]; omega) fun i w h' tk bs ew rm kk => ?_
  have ew : its[i]? = some w := by simpa using ew
  have hi : i < its.length := (List.getElem?_eq_some_iff.mp ew).1
  obtain ⟨y, ey⟩ := getElem_lt (l := ws) (i := i) (by rw [rw'.length]; exact hi)
  obtain ⟨u', eu, ru'⟩ := Vals.get rw' ey
  rw [ew] at eu
  cases eu
  obtain ⟨d, ed, rep⟩ := ra.getV ey
  have fd : flatD d = true := List.all_eq_true.mp fl d (List.mem_of_getElem? ed)
  obtain ⟨as', rd'⟩ := Dp.reads I d y w (dp_of d y rep (by cases d <;> simp [flatD] at fd <;> simp [PyData.hasDict])) ru'
  have e := flat_reads rd' rm fd (List.all_eq_true.mp fl _ (minD_mem x xs))
  exact ⟨y, H, I.kept kk, ru', c _ y H q (same_refl H) (by rw [← e]; exact rep)⟩
theorem fr_maxD (hc : X.calm = true) (hu : X.A.units + 64 < cLine) : FnR X (.builtin "max") fMaxD := by
  intro pins s σ H vs us Q I rv ⟨σ', B, ρ, rs, C, R, k, q, c⟩
  obtain ⟨r, x, xs, rfl, el, al, fl, q⟩ := q
  obtain ⟨v, rfl, k1⟩ := k.one
  obtain ⟨u, rfl, ru⟩ := vals1 rv
  obtain ⟨a, ws, rfl, h1, ra⟩ := sql_now R k1 el
  cases ru
  obtain ⟨its, rw', pl, hz⟩ := I.list h1
  obtain ⟨as, rd⟩ := Dp.readsAll I _ ws its (dpAll_of _ ws ra (hasDict_flat _ fl)) rw'
  refine PySem.W.max_list_data (I.ok.hd hc) pl.isList (by simpa using rd) al (by rw [depth_flat _ fl]; omega) fun i w h' tk bs ew rm kk => ?_
  have ew : its[i]? = some w := by simpa using ew
  have hi : i < its.length := (List.getElem?_eq_some_iff.mp ew).1
  obtain ⟨y, ey⟩ := getElem_lt (l := ws) (i := i) (by rw [rw'.length]; exact hi)
  obtain ⟨u', eu, ru'⟩ := Vals.get rw' ey
  rw [ew] at eu
  cases eu
  obtain ⟨d, ed, rep⟩ := ra.getV ey
  have fd : flatD d = true := List.all_eq_true.mp fl d (List.mem_of_getElem? ed)
  obtain ⟨as', rd'⟩ := Dp.reads I d y w (dp_of d y rep (by cases d <;> simp [flatD] at fd <;> simp [PyData.hasDict])) ru'
  have e := flat_reads rd' rm fd (List.all_eq_true.mp fl _ (maxD_mem x xs))
  exact ⟨y, H, I.kept kk, ru', c _ y H q (same_refl H) (by rw [← e]; exact rep)⟩

/-! ### sep.join(xs) -/
def dJoin (ts ta : DTE) : DTE := fun ρ Q => ts ρ fun r ρ1 => ∃ sep : Str, r = .dat (.str sep) ∧ ta ρ1 fun r2 ρ2 => ∃ ys : List Str, seqOf ρ2 r2 = some (ys.map PyData.str) ∧ (ys.map (·.length)).sum + ys.length * sep.length ≤ 16777216 ∧ Q (.dat (.str (Txt.join sep ys))) ρ2
theorem de_join {o e : Expr} {ts ta : DTE} {apos pos : Pos} (ho : DE X o ts) (he : DE X e ta) (hs : starEach [e] X.env = [(false, eval e X.env)] := by rfl) (hbase : attributeBase o "join" X.env (eval o X.env) = eval o X.env := by rfl) (hline : (apos.endLine == pos.line) = true := by rfl) :
    DE X (.Call (.Attribute o "join" apos) [e] [] pos) (dJoin ts ta) := pe_imp (pe_join ho he hs hbase hline) fun σ H Q ⟨B, ρ, Q0, R, q, k⟩ => by
  refine ⟨B, ρ, _, R, q, fun r ρ1 v H1 q1 R1 k1 s1 => ?_⟩
  obtain ⟨sep, rfl, q1⟩ := q1
  refine ⟨⟨sep, rstr k1⟩, B, ρ1, _, R1, q1, fun r2 ρ2 u H2 q2 R2 k2 s2 => ?_⟩
  obtain ⟨ys, es, hz, q2⟩ := q2
  obtain ⟨a, us, rfl, h1, ra⟩ := seq_now R2 k2 es
  rw [ra.strs_of] at h1
  exact ⟨sep, a, ys, rstr k1, rfl, h1, hz, k _ ρ2 _ H2 q2 R2 (qstr _ _ _ _) (s1.trans s2)⟩
end

/-! ### a list of ours: append, insert, pop -/
section
variable {K : PySem.W.Frag} {B : Bs} {ρ : Rho} {σ : L2.St} {H : Hp} {i : Nat} {a : Addr} {ds es : List PyData} {vs us : List V}
theorem own_at (R : Rel K B ρ σ H) (e : ρ[i]? = some (.own a ds)) : σ[i]? = some (some (.ref a)) ∧ ∃ vs, H a = some (.lst vs) ∧ RepA K H ds vs := by
  obtain ⟨o, eo, rfl, h⟩ := R.ok i _ e
  exact ⟨eo, h⟩
theorem stp_write (e : ρ[i]? = some (.own a ds)) (h : H a = some (.lst vs)) : Stp ρ H (ρ.set i (.own a es)) (upd H a (.lst us)) := by
  refine ⟨Kp.lst h, fun b n => th_upd b n, fun b o eb n => ⟨?_, fun z => n ?_⟩⟩
  · rw [upd_ne]
    · exact eb
    · rintro rfl
      exact n ⟨i, _, e, rfl⟩
  · obtain ⟨j, s, ej, hs⟩ := z
    rcases get_set ej with ⟨rfl, rfl⟩ | ⟨hj, ej⟩
    · have hs : b = a := hs
      exact ⟨j, _, e, hs⟩
    · exact ⟨j, s, ej, hs⟩
end
section
variable {X : Cx} {o e : Expr} {es : List Expr} {te : DTE} {ta : DTA} {i : Nat} {apos cpos pos : Pos}
def ownAt (ρ : Rho) (i : Nat) : Prop := match ρ[i]? with
  | some (.own _ _) => True
  | _ => False
theorem ownAt_at {ρ : Rho} {i : Nat} (h : ownAt ρ i) : ∃ a ds, ρ[i]? = some (.own a ds) := by
  unfold ownAt at h
  split at h
  · rename_i a ds e
    exact ⟨a, ds, e⟩
  · exact h.elim
/-- the first steps of x.m(..), x a list of ours -/
theorem own_meth {σ : L2.St} {H : Hp} {B : Bs} {ρ : Rho} {P : V → List V → Hp → Prop} (R : Rel X.K B ρ σ H) (ho : ownAt ρ i) {F : List Rv → Rho → Prop} (h : ta ρ F)
    (k : ∀ rs ρ1 vs H1 a, F rs ρ1 → Rel X.K B ρ1 σ H1 → RvsOk X.K H1 σ rs vs → Stp ρ H ρ1 H1 → σ[i]? = some (some (.ref a)) → P (.ref a) vs H1) :
    tVar i σ H fun x H1 => tyV X.K "list" x H1 ∧ liftA X.K ta σ H1 fun xs H2 => P x xs H2 := by
  obtain ⟨a, ds, e⟩ := ownAt_at ho
  obtain ⟨es, vs, hv, ra⟩ := own_at R e
  exact ⟨_, es, .inl ⟨rfl, vs, SqL.of hv⟩, B, ρ, _, R, h, fun rs ρ1 vs H1 q R1 k1 s1 => k rs ρ1 vs H1 a q R1 k1 s1 es⟩
theorem own_addr {K : PySem.W.Frag} {B : Bs} {ρ : Rho} {σ : L2.St} {H : Hp} {a b : Addr} {ds : List PyData} (R : Rel K B ρ σ H) (e : ρ[i]? = some (.own a ds)) (h : σ[i]? = some (some (.ref b))) : b = a := by
  obtain ⟨es, _⟩ := own_at R e
  rw [es] at h
  cases h
  rfl
theorem qnone (K : PySem.W.Frag) (H : Hp) (σ : L2.St) : RvOk K H σ (.dat .none) .non := pnone K H
def dApp (i : Nat) (te : DTE) : DTE := fun ρ Q => ownAt ρ i ∧ te ρ fun r ρ1 => ∃ d a ds, r = .dat d ∧ ρ1[i]? = some (.own a ds) ∧ ds.length < sizeLine ∧ Q (.dat .none) (ρ1.set i (.own a (ds ++ [d])))
theorem de_append (hv : PE X o (tVar i)) (he : DE X e te) (hbase : attributeBase o "append" X.env (eval o X.env) = eval o X.env := by rfl)
    (hfew : ((backTo cpos (starEach [e] X.env)).all (fun x => !x.1) && (backToKw cpos (keywordEach [] X.env)).all (fun x => x.1.isSome)
      && decide (([e] : List Expr).length + ([] : List Keyword).length + (if ([] : List Keyword).isEmpty then 0 else 1) < 30)) = true := by rfl)
    (hline : (apos.endLine == cpos.line) = true := by rfl) (hs : starEach [e] X.env = (false, eval e X.env) :: starEach [] X.env := by rfl) (hplain : (backTo cpos (starEach [] X.env)).any (·.1) = false := by rfl) :
    DE X (.Call (.Attribute o "append" apos) [e] [] cpos) (dApp i te) := by
  refine pe_imp (pe_bm PySem.F.plainAttrs_list PySem.F.slot_list_append PySem.F.type_list_append mt_append hv (da_cons he da_nil hs) hbase hfew hline hs hplain) fun σ H Q ⟨B, ρ, Q0, R, ⟨ho, q⟩, k⟩ => ?_
  refine own_meth (ta := dCons te dNil) (F := fun rs ρ1 => match rs with
    | [r] => ∃ d a ds, r = .dat d ∧ ρ1[i]? = some (.own a ds) ∧ ds.length < sizeLine ∧ Q0 (.dat .none) (ρ1.set i (.own a (ds ++ [d])))
    | _ => False) R ho q fun rs ρ1 vs H1 b f R1 k1 s1 eb => ?_
  split at f
  · rename_i r
    obtain ⟨d, a, ds, rfl, ei, hz, q1⟩ := f
    obtain ⟨v, rfl, k2⟩ := k1.one
    obtain rfl := own_addr R1 ei eb
    obtain ⟨_, ws, hw, ra⟩ := own_at R1 ei
    exact ⟨b, ws, v, rfl, rfl, hw, by rw [← ra.length]; exact hz, k _ _ _ _ q1 (R1.write ei hw ((ra.snoc k2).mono (Kp.refl _) _ _)) (qnone _ _ _) (s1.trans (stp_write ei hw))⟩
  · exact f.elim
/-- x.pop(k): the item there -/
def dPopAt (i : Nat) (te : DTE) : DTE := fun ρ Q => ownAt ρ i ∧ te ρ fun r ρ1 => ∃ n a ds j d, r = .dat (.int n) ∧ ρ1[i]? = some (.own a ds) ∧ (-(2 ^ 63) ≤ n ∧ n < 2 ^ 63) ∧ seqIndex? n ds.length = some j ∧ ds[j]? = some d ∧ Q (.dat d) (ρ1.set i (.own a (ds.eraseIdx j)))
theorem de_popAt (hv : PE X o (tVar i)) (he : DE X e te) (hbase : attributeBase o "pop" X.env (eval o X.env) = eval o X.env := by rfl)
    (hfew : ((backTo cpos (starEach [e] X.env)).all (fun x => !x.1) && (backToKw cpos (keywordEach [] X.env)).all (fun x => x.1.isSome)
      && decide (([e] : List Expr).length + ([] : List Keyword).length + (if ([] : List Keyword).isEmpty then 0 else 1) < 30)) = true := by rfl)
    (hline : (apos.endLine == cpos.line) = true := by rfl) (hs : starEach [e] X.env = (false, eval e X.env) :: starEach [] X.env := by rfl) (hplain : (backTo cpos (starEach [] X.env)).any (·.1) = false := by rfl) :
    DE X (.Call (.Attribute o "pop" apos) [e] [] cpos) (dPopAt i te) := by
  refine pe_imp (pe_bm PySem.F.plainAttrs_list PySem.F.slot_list_pop PySem.F.type_list_pop mt_popAt hv (da_cons he da_nil hs) hbase hfew hline hs hplain) fun σ H Q ⟨B, ρ, Q0, R, ⟨ho, q⟩, k⟩ => ?_
  refine own_meth (ta := dCons te dNil) (F := fun rs ρ1 => match rs with
    | [r] => ∃ n a ds j d, r = .dat (.int n) ∧ ρ1[i]? = some (.own a ds) ∧ (-(2 ^ 63) ≤ n ∧ n < 2 ^ 63) ∧ seqIndex? n ds.length = some j ∧ ds[j]? = some d ∧ Q0 (.dat d) (ρ1.set i (.own a (ds.eraseIdx j)))
    | _ => False) R ho q fun rs ρ1 vs H1 b f R1 k1 s1 eb => ?_
  split at f
  · rename_i r
    obtain ⟨n, a, ds, j, d, rfl, ei, ⟨h1, h2⟩, hj, hd, q1⟩ := f
    obtain ⟨v, rfl, k2⟩ := k1.one
    obtain rfl := own_addr R1 ei eb
    obtain ⟨_, ws, hw, ra⟩ := own_at R1 ei
    obtain ⟨w, ew, rw'⟩ := ra.get hd
    have kp : Kp H1 (upd H1 b (.lst (ws.eraseIdx j))) := Kp.lst hw
    exact ⟨b, ws, n, j, w, rfl, by rw [rint k2], hw, h1, h2, by rw [← ra.length]; exact hj, ew, k _ _ _ _ q1 (R1.write ei hw (ra.erase j)) (show RvOk X.K _ σ (.dat d) w from rw'.mono kp _ _) (s1.trans (stp_write ei hw))⟩
  · exact f.elim
/-- x.pop(): the last -/
def dPop (i : Nat) : DTE := fun ρ Q => ∃ a ds d, ρ[i]? = some (.own a ds) ∧ ds[ds.length - 1]? = some d ∧ Q (.dat d) (ρ.set i (.own a ds.dropLast))
theorem de_pop (hv : PE X o (tVar i)) (hbase : attributeBase o "pop" X.env (eval o X.env) = eval o X.env := by rfl) (hline : (apos.endLine == cpos.line) = true := by rfl) :
    DE X (.Call (.Attribute o "pop" apos) [] [] cpos) (dPop i) := by
  refine pe_imp (pe_bm0 PySem.F.plainAttrs_list PySem.F.slot_list_pop PySem.F.type_list_pop mt_pop hv hbase hline) fun σ H Q ⟨B, ρ, Q0, R, q, k⟩ => ?_
  obtain ⟨a, ds, d, ei, hd, q1⟩ := q
  obtain ⟨es, ws, hw, ra⟩ := own_at R ei
  obtain ⟨w, ew, rw'⟩ := ra.get hd
  have kp : Kp H (upd H a (.lst ws.dropLast)) := Kp.lst hw
  exact ⟨_, es, .inl ⟨rfl, ws, SqL.of hw⟩, a, ws, w, rfl, rfl, hw, by rw [← ra.length]; exact ew, k _ _ _ _ q1 (R.write ei hw ra.dropLast) (show RvOk X.K _ σ (.dat d) w from rw'.mono kp _ _) (stp_write ei hw)⟩
/-- x.insert(k, e), k not below 0 -/
def dIns (i : Nat) (te tf : DTE) : DTE := fun ρ Q => ownAt ρ i ∧ te ρ fun r ρ1 => tf ρ1 fun r2 ρ2 => ∃ n a ds d, r = .dat (.int n) ∧ r2 = .dat d ∧ ρ2[i]? = some (.own a ds) ∧ ds.length < sizeLine ∧ (0 ≤ n ∧ n < 2 ^ 63) ∧ Q (.dat .none) (ρ2.set i (.own a (ds.take n.toNat ++ [d] ++ ds.drop n.toNat)))
theorem de_insert {f : Expr} {tf : DTE} (hv : PE X o (tVar i)) (he : DE X e te) (hf : DE X f tf) (hbase : attributeBase o "insert" X.env (eval o X.env) = eval o X.env := by rfl)
    (hfew : ((backTo cpos (starEach [e, f] X.env)).all (fun x => !x.1) && (backToKw cpos (keywordEach [] X.env)).all (fun x => x.1.isSome)
      && decide (([e, f] : List Expr).length + ([] : List Keyword).length + (if ([] : List Keyword).isEmpty then 0 else 1) < 30)) = true := by rfl)
    (hline : (apos.endLine == cpos.line) = true := by rfl) (hs : starEach [e, f] X.env = (false, eval e X.env) :: starEach [f] X.env := by rfl) (hs2 : starEach [f] X.env = (false, eval f X.env) :: starEach [] X.env := by rfl) (hplain : (backTo cpos (starEach [f] X.env)).any (·.1) = false := by rfl) :
    DE X (.Call (.Attribute o "insert" apos) [e, f] [] cpos) (dIns i te tf) := by
  refine pe_imp (pe_bm PySem.F.plainAttrs_list PySem.F.slot_list_insert PySem.F.type_list_insert mt_insert hv (da_cons he (da_cons hf da_nil hs2) hs) hbase hfew hline hs hplain) fun σ H Q ⟨B, ρ, Q0, R, ⟨ho, q⟩, k⟩ => ?_
  refine own_meth (ta := dCons te (dCons tf dNil)) (F := fun rs ρ1 => match rs with
    | [r, r2] => ∃ n a ds d, r = .dat (.int n) ∧ r2 = .dat d ∧ ρ1[i]? = some (.own a ds) ∧ ds.length < sizeLine ∧ (0 ≤ n ∧ n < 2 ^ 63) ∧ Q0 (.dat .none) (ρ1.set i (.own a (ds.take n.toNat ++ [d] ++ ds.drop n.toNat)))
    | _ => False) R ho q fun rs ρ1 vs H1 b f R1 k1 s1 eb => ?_
  split at f
  · rename_i r r2
    obtain ⟨n, a, ds, d, rfl, rfl, ei, hz, ⟨h1, h2⟩, q1⟩ := f
    obtain ⟨v, u, rfl, k2, k3⟩ := k1.two
    obtain rfl := own_addr R1 ei eb
    obtain ⟨_, ws, hw, ra⟩ := own_at R1 ei
    exact ⟨b, ws, n, u, rfl, by rw [rint k2], hw, by rw [← ra.length]; exact hz, h1, h2, k _ _ _ _ q1 (R1.write ei hw (((ra.take n.toNat).append (RepA.cons k3 RepA.nil)).append (ra.drop n.toNat))) (qnone _ _ _) (s1.trans (stp_write ei hw))⟩
  · exact f.elim
end
end DL

/-! DL: defs and their calls, by trees. -/
namespace DL
open PySem PySem.Spec L2

/-- as FnOk, where no built-in's repr is under way around the call -/
structure FnG (P : Program) (w : World) (K : PySem.W.Frag) (mg : Str → Option Value) (base : Heap) (CX : CXT) (k : Nat) (f : Addr) (fd : FuncData) (ps : List Str) (sp : Sp) : Prop where
  len : ∀ vs H Q E, sp vs H Q E → vs.length = ps.length
  run : ∀ (A : Around) (outer : List Env) (s : Shared) (H : Hp) (args : Args) (us : List Value) (vs : List V) (Q : VK) (E : XK), Room k A → A.guards = some [] → Env0 P w K mg base A outer s H → BindsTo s fd args (ps.zip us) → Vals vs us → sp vs H Q E →
    codeAny (model P w) A (.call (.ref f) args) (CR CX outer P w H s Q E) s
section
variable {P : Program} {w : World} {K : PySem.W.Frag} {mg : Str → Option Value} {base : Heap}
theorem FnG.mono {CX : CXT} {j k : Nat} {f : Addr} {fd : FuncData} {ps : List Str} {sp : Sp} (F : FnG P w K mg base CX j f fd ps sp) (h : j ≤ k) : FnG P w K mg base CX k f fd ps sp :=
  ⟨F.len, fun A outer s H args us vs Q E hr => F.run A outer s H args us vs Q E (hr.mono h)⟩
/-- a def of the text: its body -/
theorem fun_okG {x qual : Str} {st : Stmt} {f : Addr} {fd : FuncData} {N ps : List Str} {k : Nat} {sp : Sp} {CX : CXT} (F : Fun K x qual st f fd) (S : FnScope N ps (defScope st)) (len : ∀ vs H Q E, sp vs H Q E → vs.length = ps.length)
    (hbody : ∀ (cdv : Value) (A : Around) (outer : List Env) (s : Shared) (H : Hp) (vs : List V) (Q : VK) (E : XK), Room k (A.deeper (PyProof.Rows.envOfC qual (defScope st) s.heap.objs.size f cdv)) → (A.deeper (PyProof.Rows.envOfC qual (defScope st) s.heap.objs.size f cdv)).guards = some [] → sp vs H Q E →
      ∃ t, PSs (cxOf CX P w K mg base N qual (defScope st) f cdv A outer s H E) (defBody st) t ∧ t { nx := fun _ H' => Q .non H', rt := Q } (start N vs) H) : FnG P w K mg base CX (k + 1) f fd ps sp := by
  obtain ⟨oc, od, kV, doc, pm, an, cdv, ct, osl, rfl, lk, hcd⟩ := F.ex
  refine ⟨len, fun A outer s H args us vs Q E hr hg e0 hb r hsp => ?_⟩
  have hl := len _ _ _ _ hsp
  have bk : ∀ b o, base.get? b = some o → s.heap.get? b = some o := fun b o e => (e0.bs b o e).1
  have KX : K.In s.heap := e0.mod.kin.keeps bk
  have lim : s.heap.NoLimit := e0.mod.nolimit.keeps bk
  refine codeAny_call_function hr.depth (KX _ _ lk) rfl S.co S.gen rfl (PySem.W.codeRec_of KX hcd) (hb _ _ _ _ ?_)
  refine wpAny_newFunctionEnv_cells S.kind (fun ⟨n, v⟩ hy => ?_) fun env he s1 x => ?_
  · rcases S.par n (List.of_mem_zip hy).1 with q | q
    · exact .inl q
    · exact .inr ⟨q, PySem.W.cellsFrom_some _ _ _ (.inl q)⟩
  subst he
  refine ⟨lim.keeps x.toInCall.keep, codeAny_func ?_⟩
  obtain ⟨t, ht, hq⟩ := hbody cdv A outer s H vs Q E (hr.deeper _) hg hsp
  have I := inv_start (CX := CX) (P := P) (w := w) (K := K) (mg := mg) (base := base) (E := E) S hr.hd e0 hl r x
  refine wpAny_mono (ht.run [] s1 (start N vs) H _ I hq) (fun fl s' hs => ?_) fun e s' hs => hs
  cases fl with
  | ret u =>
    obtain ⟨v, σ', H', J, rv, q⟩ := hs
    exact ⟨v, H', J.os, J.bare, J.base, J.hok, rv, q⟩
  | next =>
    obtain ⟨σ', H', J, q⟩ := hs
    exact ⟨.non, H', J.os, J.bare, J.base, J.hok, rfl, q⟩
  | brk =>
    obtain ⟨_, _, _, q⟩ := hs
    exact q.elim
  | cont =>
    obtain ⟨_, _, _, q⟩ := hs
    exact q.elim
end

/-! ### a promise by trees -/
/-- from the arguments (by slots) and what is wanted of the result, and of what may be written, behind -/
abbrev FSp := List Slot → (PyData → List Slot → Prop) → Prop
structure RetOk (K : PySem.W.Frag) (H : Hp) (as : List Slot) (H' : Hp) (d : PyData) (outs : List Slot) (v : V) : Prop where
  rep : Rep K H' d v
  kp : Kp H H'
  th : ∀ b, H b ≠ none → H' b ≠ none
  fr : ∀ b o, H b = some o → ¬ InFp as b → H' b = some o
  out : ∀ (i : Nat) a fp R, as[i]? = some (.ext a fp R) → ∃ fp' R', outs[i]? = some (.ext a fp' R')
  ok : ∀ (i : Nat) a fp R, outs[i]? = some (.ext a fp R) → (∃ fp0 R0, as[i]? = some (.ext a fp0 R0)) ∧ R H' ∧ Stab R fp ∧ (∀ b, fp b → H' b ≠ none) ∧ ∀ b, fp b → H b = none ∨ InFp as b
  dj : ∀ (i j : Nat) (s t : Slot) (b : Addr), outs[i]? = some s → outs[j]? = some t → s.fp b → t.fp b → i = j
  len : outs.length = as.length
def ArgOk (K : PySem.W.Frag) (H : Hp) (as : List Slot) (vs : List V) : Prop := Rel K ⟨H, InFp as⟩ as (vs.map some) H
def spOf (K : PySem.W.Frag) (S : FSp) : Sp := fun vs H Q _ => ∃ as Q0, ArgOk K H as vs ∧ S as Q0 ∧ ∀ d outs v H', Q0 d outs → RetOk K H as H' d outs v → Q v H'
/-- what may be written, as it stands at the end -/
def outsOf : List Slot → Rho → Option (List Slot)
  | [], _ => some []
  | _ :: _, [] => none
  | .ext a _ _ :: as, .ext a' fp R :: ρ => if a = a' then (outsOf as ρ).map (.ext a' fp R :: ·) else none
  | .ext _ _ _ :: _, _ :: _ => none
  | .no :: as, _ :: ρ => (outsOf as ρ).map (.no :: ·)
  | .dat _ :: as, _ :: ρ => (outsOf as ρ).map (.no :: ·)
  | .own _ _ :: as, _ :: ρ => (outsOf as ρ).map (.no :: ·)
  | .rd _ _ :: as, _ :: ρ => (outsOf as ρ).map (.no :: ·)
theorem outsOf_ok : ∀ {as : List Slot} {ρ : Rho} {outs : List Slot}, outsOf as ρ = some outs → outs.length = as.length ∧
    (∀ (i : Nat) a fp R, as[i]? = some (.ext a fp R) → ∃ fp' R', outs[i]? = some (.ext a fp' R')) ∧
    ∀ (i : Nat) s, outs[i]? = some s → s = .no ∨ ∃ a fp R, s = .ext a fp R ∧ ρ[i]? = some s ∧ ∃ fp0 R0, as[i]? = some (.ext a fp0 R0)
  | [], ρ, outs, h => by
    have h : [] = outs := by
      cases ρ <;> exact Option.some.inj h
    subst h
    exact ⟨rfl, fun i a fp R e => by simp at e, fun i s e => by simp at e⟩
  | s0 :: as, [], outs, h => by cases s0 <;> cases h
  | s0 :: as, t0 :: ρ, outs, h => by
    have plain : ∀ (hs : ∀ a fp R, s0 ≠ .ext a fp R), (outsOf as ρ).map (.no :: ·) = some outs → outs.length = (s0 :: as).length ∧
        (∀ (i : Nat) a fp R, (s0 :: as)[i]? = some (.ext a fp R) → ∃ fp' R', outs[i]? = some (.ext a fp' R')) ∧
        ∀ (i : Nat) s, outs[i]? = some s → s = .no ∨ ∃ a fp R, s = .ext a fp R ∧ (t0 :: ρ)[i]? = some s ∧ ∃ fp0 R0, (s0 :: as)[i]? = some (.ext a fp0 R0) := fun hs h => by
      cases er : outsOf as ρ with
      | none => rw [er] at h; cases h
      | some r =>
        rw [er] at h
        have h : .no :: r = outs := Option.some.inj h
        subst h
        obtain ⟨h1, h2, h3⟩ := outsOf_ok er
        refine ⟨by rw [List.length_cons, List.length_cons, h1], fun i a fp R e => ?_, fun i s e => ?_⟩
        · cases i with
          | zero => exact (hs a fp R (Option.some.inj e)).elim
          | succ i => exact h2 i a fp R e
        · cases i with
          | zero => exact .inl (Option.some.inj e).symm
          | succ i => exact h3 i s e
    cases s0 with
    | no => exact plain (fun _ _ _ z => nomatch z) (by rw [outsOf] at h; exact h)
    | dat d => exact plain (fun _ _ _ z => nomatch z) (by rw [outsOf] at h; exact h)
    | own a ds => exact plain (fun _ _ _ z => nomatch z) (by rw [outsOf] at h; exact h)
    | rd a ds => exact plain (fun _ _ _ z => nomatch z) (by rw [outsOf] at h; exact h)
    | ext a fp R =>
      cases t0 with
      | ext a' fp' R' =>
        rw [outsOf] at h
        split at h
        · rename_i ea
          subst ea
          cases er : outsOf as ρ with
          | none => rw [er] at h; cases h
          | some r =>
            rw [er] at h
            have h : .ext a fp' R' :: r = outs := Option.some.inj h
            subst h
            obtain ⟨h1, h2, h3⟩ := outsOf_ok er
            refine ⟨by rw [List.length_cons, List.length_cons, h1], fun i b fq S e => ?_, fun i s e => ?_⟩
            · cases i with
              | zero =>
                cases Option.some.inj e
                exact ⟨fp', R', rfl⟩
              | succ i => exact h2 i b fq S e
            · cases i with
              | zero =>
                have e : Slot.ext a fp' R' = s := Option.some.inj e
                subst e
                exact .inr ⟨a, fp', R', rfl, rfl, fp, R, rfl⟩
              | succ i => exact h3 i s e
        · cases h
      | _ => cases h
/-- how a def's body ends -/
def fnEnds (as : List Slot) (Q0 : PyData → List Slot → Prop) : DEnds where
  nx := fun ρ => ∃ outs, outsOf as ρ = some outs ∧ Q0 .none outs
  rt := fun d ρ => ∃ outs, outsOf as ρ = some outs ∧ Q0 d outs
section
variable {K : PySem.W.Frag} {B : Bs} {ρ : Rho} {σ : L2.St} {H H' : Hp}
theorem Rel.extend (R : Rel K B ρ σ H) (n : Nat) : Rel K B (ρ ++ List.replicate n .no) (σ ++ List.replicate n none) H := by
  have left : ∀ {i : Nat} {s : Slot}, (ρ ++ List.replicate n .no)[i]? = some s → (ρ[i]? = some s ∧ i < ρ.length) ∨ (s = .no ∧ ρ.length ≤ i ∧ i - ρ.length < n) := fun {i s} e => by
    by_cases hi : i < ρ.length
    · rw [List.getElem?_append_left hi] at e
      exact .inl ⟨e, hi⟩
    · rw [List.getElem?_append_right (by omega)] at e
      have hl := (List.getElem?_eq_some_iff.mp e).1
      rw [List.length_replicate] at hl
      rw [List.getElem?_replicate, if_pos hl] at e
      exact .inr ⟨(Option.some.inj e).symm, by omega, hl⟩
  refine ⟨by rw [List.length_append, List.length_append, List.length_replicate, List.length_replicate, R.len], fun i s e => ?_, R.frame, R.kp, R.th, fun i s b e hb => ?_, fun i j s t b e1 e2 h1 h2 => ?_⟩
  · rcases left e with ⟨e, hi⟩ | ⟨rfl, hi, hl⟩
    · obtain ⟨o, eo, ok⟩ := R.ok i s e
      exact ⟨o, by rw [List.getElem?_append_left (by rw [R.len]; exact hi)]; exact eo, ok⟩
    · refine ⟨none, ?_, trivial⟩
      rw [List.getElem?_append_right (by rw [R.len]; exact hi), List.getElem?_replicate, if_pos (by rw [R.len]; exact hl)]
  · rcases left e with ⟨e, hi⟩ | ⟨rfl, _⟩
    · exact R.fresh i s b e hb
    · exact hb.elim
  · rcases left e1 with ⟨e1, _⟩ | ⟨rfl, _⟩
    · rcases left e2 with ⟨e2, _⟩ | ⟨rfl, _⟩
      · exact R.disj i j s t b e1 e2 h1 h2
      · exact h2.elim
    · exact h1.elim
theorem ret_ok {as outs : List Slot} {d : PyData} {v : V} (R : Rel K ⟨H, InFp as⟩ ρ σ H') (r : Rep K H' d v) (e : outsOf as ρ = some outs) : RetOk K H as H' d outs v := by
  obtain ⟨h1, h2, h3⟩ := outsOf_ok e
  refine ⟨r, R.kp, R.th, R.frame, h2, fun i a fp Q ei => ?_, fun i j s t b ei ej hs ht => ?_, h1⟩
  · rcases h3 i _ ei with z | ⟨a', fp', R', es, er, ea⟩
    · cases z
    · cases es
      obtain ⟨o, eo, ok⟩ := R.ok i _ er
      obtain ⟨_, q1, q2, q3⟩ := ok
      exact ⟨ea, q1, q2, q3, fun b hb => R.fresh i _ b er hb⟩
  · rcases h3 i s ei with rfl | ⟨a1, f1, R1, rfl, er, _⟩
    · exact hs.elim
    · rcases h3 j t ej with rfl | ⟨a2, f2, R2, rfl, et, _⟩
      · exact ht.elim
      · exact R.disj i j _ _ b er et hs ht
end
/-- THE RULE for a def whose body is read by trees -/
theorem fun_okD {P : Program} {w : World} {K : PySem.W.Frag} {mg : Str → Option Value} {base : Heap} {x qual : Str} {st : Stmt} {f : Addr} {fd : FuncData} {N ps : List Str} {k : Nat} {S : FSp} (F : Fun K x qual st f fd) (C : FnScope N ps (defScope st))
    (len : ∀ as Q0, S as Q0 → as.length = ps.length)
    (hbody : ∀ (cdv : Value) (A : Around) (outer : List Env) (s : Shared) (H : Hp) (E : XK), Room k (A.deeper (PyProof.Rows.envOfC qual (defScope st) s.heap.objs.size f cdv)) → (A.deeper (PyProof.Rows.envOfC qual (defScope st) s.heap.objs.size f cdv)).guards = some [] →
      ∃ t, DPs (cxOf CX0 P w K mg base N qual (defScope st) f cdv A outer s H E).nox (defBody st) t ∧ ∀ as Q0, S as Q0 → t (fnEnds as Q0) (as ++ List.replicate (N.length - as.length) .no)) :
    FnG P w K mg base CX0 (k + 1) f fd ps (spOf K S) := by
  have lenV : ∀ vs H Q E, spOf K S vs H Q E → vs.length = ps.length := fun vs H Q E ⟨as, Q0, a, h, _⟩ => by
    have e := a.len
    rw [List.length_map] at e
    rw [e]
    exact len as Q0 h
  refine fun_okG F C lenV fun cdv A outer s H vs Q E hr hg h => ?_
  obtain ⟨t, ht, hs⟩ := hbody cdv A outer s H E hr hg
  refine ⟨_, PSs.nox ht, ?_⟩
  obtain ⟨as, Q0, a, hS, q⟩ := h
  have el : vs.length = as.length := by
    have e := a.len
    rw [List.length_map] at e
    exact e
  refine ⟨⟨H, InFp as⟩, as ++ List.replicate (N.length - as.length) .no, fnEnds as Q0, ?_, hs as Q0 hS, ?_, ?_, fun ρ' σ' H' z => z.elim, fun ρ' σ' H' z => z.elim⟩
  · have R := Rel.extend a (N.length - as.length)
    show Rel K _ _ (vs.map some ++ List.replicate (N.length - vs.length) none) H
    rw [el]
    exact R
  · intro ρ' σ' H' ⟨outs, eo, q0⟩ R' _
    exact q _ outs _ H' q0 (ret_ok R' (pnone K H') eo)
  · intro d ρ' v σ' H' ⟨outs, eo, q0⟩ R' r _
    exact q d outs v H' q0 (ret_ok R' r eo)
end DL

/-! DL: calls of defs, by trees; the law's end. -/
namespace DL
open PySem PySem.Spec L2

def argSlot (ρ : Rho) : Rv → Slot
  | .dat d => .dat d
  | .own i => match ρ[i]? with
    | some (.own a ds) => .rd a ds
    | some (.rd a ds) => .rd a ds
    | some (.ext a fp R) => .ext a fp R
    | _ => .no
def putBack : Rho → List Rv → List Slot → Rho
  | ρ, .own i :: rs, .ext a fp R :: outs => putBack (ρ.set i (.ext a fp R)) rs outs
  | ρ, .own _ :: rs, .no :: outs => putBack ρ rs outs
  | ρ, .own _ :: rs, .dat _ :: outs => putBack ρ rs outs
  | ρ, .own _ :: rs, .own _ _ :: outs => putBack ρ rs outs
  | ρ, .own _ :: rs, .rd _ _ :: outs => putBack ρ rs outs
  | ρ, .dat _ :: rs, _ :: outs => putBack ρ rs outs
  | ρ, [], _ => ρ
  | ρ, _ :: _, [] => ρ
/-- the places of what may be written among the arguments -/
def extIx (ρ : Rho) : List Rv → List Nat
  | [] => []
  | .dat _ :: rs => extIx ρ rs
  | .own i :: rs => match ρ[i]? with
    | some (.ext _ _ _) => i :: extIx ρ rs
    | _ => extIx ρ rs
theorem putBack_get : ∀ {rs : List Rv} {outs : List Slot} {ρ : Rho} {i : Nat} {s : Slot}, (putBack ρ rs outs)[i]? = some s →
    (∃ (j : Nat) (a : Addr) (fp : Addr → Prop) (R : Hp → Prop), rs[j]? = some (.own i) ∧ outs[j]? = some s ∧ s = .ext a fp R) ∨ (ρ[i]? = some s ∧ ∀ (j : Nat) (a : Addr) (fp : Addr → Prop) (R : Hp → Prop), rs[j]? = some (.own i) → outs[j]? ≠ some (.ext a fp R))
  | [], outs, ρ, i, s, h => .inr ⟨by cases outs <;> (rw [putBack] at h; exact h), fun j a fp R e => by simp at e⟩
  | r :: rs, [], ρ, i, s, h => .inr ⟨by cases r <;> (rw [putBack] at h; exact h), fun j a fp R _ e => by simp at e⟩
  | r :: rs, o :: outs, ρ, i, s, h => by
    have skip : (∀ a fp R, r = .own i → o ≠ .ext a fp R) → (putBack ρ rs outs)[i]? = some s → (∃ (j : Nat) (a : Addr) (fp : Addr → Prop) (R : Hp → Prop), (r :: rs)[j]? = some (.own i) ∧ (o :: outs)[j]? = some s ∧ s = .ext a fp R) ∨ (ρ[i]? = some s ∧ ∀ (j : Nat) (a : Addr) (fp : Addr → Prop) (R : Hp → Prop), (r :: rs)[j]? = some (.own i) → (o :: outs)[j]? ≠ some (.ext a fp R)) := fun hn h => by
      rcases putBack_get h with ⟨j, a, fp, R, h1, h2, h3⟩ | ⟨h1, h2⟩
      · exact .inl ⟨j + 1, a, fp, R, h1, h2, h3⟩
      · refine .inr ⟨h1, fun j a fp R e1 e2 => ?_⟩
        cases j with
        | zero => exact hn a fp R (Option.some.inj e1) (Option.some.inj e2)
        | succ j => exact h2 j a fp R e1 e2
    cases r with
    | dat d => exact skip (fun _ _ _ z => nomatch z) (by rw [putBack] at h; exact h)
    | own k =>
      cases o with
      | no => exact skip (fun _ _ _ _ z => nomatch z) (by rw [putBack] at h; exact h)
      | dat d => exact skip (fun _ _ _ _ z => nomatch z) (by rw [putBack] at h; exact h)
      | own b ds => exact skip (fun _ _ _ _ z => nomatch z) (by rw [putBack] at h; exact h)
      | rd b ds => exact skip (fun _ _ _ _ z => nomatch z) (by rw [putBack] at h; exact h)
      | ext b fq S =>
        rw [putBack] at h
        rcases putBack_get h with ⟨j, a, fp, R, h1, h2, h3⟩ | ⟨h1, h2⟩
        · exact .inl ⟨j + 1, a, fp, R, h1, h2, h3⟩
        · rcases get_set h1 with ⟨rfl, rfl⟩ | ⟨hi, h1⟩
          · exact .inl ⟨0, b, fq, S, rfl, rfl, rfl⟩
          · refine .inr ⟨h1, fun j a fp R e1 e2 => ?_⟩
            cases j with
            | zero =>
              have e1 := Option.some.inj e1
              cases e1
              exact hi rfl
            | succ j => exact h2 j a fp R e1 e2
theorem extIx_mem {ρ : Rho} {i : Nat} : ∀ {rs : List Rv} {j : Nat} {a : Addr} {fp : Addr → Prop} {R : Hp → Prop}, rs[j]? = some (.own i) → ρ[i]? = some (.ext a fp R) → i ∈ extIx ρ rs
  | [], j, a, fp, R, e, _ => by simp at e
  | r :: rs, 0, a, fp, R, e, ei => by
    have e := Option.some.inj e
    subst e
    rw [extIx, ei]
    exact List.mem_cons_self
  | r :: rs, j + 1, a, fp, R, e, ei => by
    have := extIx_mem (rs := rs) (j := j) e ei
    cases r with
    | dat d => rw [extIx]; exact this
    | own k =>
      rw [extIx]
      split
      · exact List.mem_cons_of_mem _ this
      · exact this
theorem extIx_inj {ρ : Rho} {i : Nat} {a : Addr} {fp : Addr → Prop} {R : Hp → Prop} (ei : ρ[i]? = some (.ext a fp R)) : ∀ {rs : List Rv} {j k : Nat}, (extIx ρ rs).Nodup → rs[j]? = some (.own i) → rs[k]? = some (.own i) → j = k
  | [], j, k, _, e, _ => by simp at e
  | r :: rs, j, k, n, e1, e2 => by
    have tail : (extIx ρ rs).Nodup := by
      cases r with
      | dat d => rw [extIx] at n; exact n
      | own m =>
        rw [extIx] at n
        split at n
        · exact (List.nodup_cons.mp n).2
        · exact n
    have head : r = .own i → ∀ m : Nat, rs[m]? ≠ some (.own i) := fun er m em => by
      subst er
      rw [extIx, ei] at n
      exact (List.nodup_cons.mp n).1 (extIx_mem em ei)
    cases j with
    | zero =>
      cases k with
      | zero => rfl
      | succ k => exact (head (Option.some.inj e1) k e2).elim
    | succ j =>
      cases k with
      | zero => exact (head (Option.some.inj e2) j e1).elim
      | succ k => rw [extIx_inj ei tail e1 e2]
theorem rvs_get {K : PySem.W.Frag} {H : Hp} {σ : L2.St} : ∀ {rs : List Rv} {vs : List V} {j : Nat} {r : Rv}, RvsOk K H σ rs vs → rs[j]? = some r → ∃ v, vs[j]? = some v ∧ RvOk K H σ r v
  | [], vs, j, r, _, e => by simp at e
  | r0 :: rs, vs, j, r, h, e => by
    obtain ⟨v, us, rfl, h1, h2⟩ := h
    cases j with
    | zero =>
      have e := Option.some.inj e
      subst e
      exact ⟨v, rfl, h1⟩
    | succ j => exact rvs_get (rs := rs) (j := j) h2 e
theorem rvs_len {K : PySem.W.Frag} {H : Hp} {σ : L2.St} : ∀ {rs : List Rv} {vs : List V}, RvsOk K H σ rs vs → rs.length = vs.length
  | [], vs, h => by
    have h : vs = [] := h
    subst h
    rfl
  | r :: rs, vs, h => by
    obtain ⟨v, us, rfl, h1, h2⟩ := h
    rw [List.length_cons, List.length_cons, rvs_len h2]
section
variable {K : PySem.W.Frag} {B : Bs} {ρ : Rho} {σ : L2.St} {H H' : Hp} {rs : List Rv} {vs : List V}
/-- where an argument that may be written comes from -/
theorem arg_ext {j : Nat} {a : Addr} {fp : Addr → Prop} {R : Hp → Prop} (e : (rs.map (argSlot ρ))[j]? = some (.ext a fp R)) : ∃ i : Nat, rs[j]? = some (.own i) ∧ ρ[i]? = some (.ext a fp R) := by
  rw [List.getElem?_map] at e
  cases er : rs[j]? with
  | none => rw [er] at e; cases e
  | some r =>
    rw [er] at e
    have e : argSlot ρ r = .ext a fp R := Option.some.inj e
    cases r with
    | dat d => cases e
    | own i =>
      refine ⟨i, rfl, ?_⟩
      unfold argSlot at e
      simp only at e
      split at e
      · cases e
      · cases e
      · rename_i h; cases e; exact h
      · cases e
theorem arg_fp {j : Nat} {s : Slot} {b : Addr} (e : (rs.map (argSlot ρ))[j]? = some s) (h : s.fp b) : ∃ (i : Nat) (a : Addr) (fp : Addr → Prop) (R : Hp → Prop), s = .ext a fp R ∧ rs[j]? = some (.own i) ∧ ρ[i]? = some (.ext a fp R) ∧ fp b := by
  cases s with
  | no => exact h.elim
  | dat d => exact h.elim
  | rd a ds => exact h.elim
  | own a ds =>
    rw [List.getElem?_map] at e
    cases er : rs[j]? with
    | none => rw [er] at e; cases e
    | some r =>
      rw [er] at e
      have e : argSlot ρ r = .own a ds := Option.some.inj e
      cases r with
      | dat d => cases e
      | own i =>
        unfold argSlot at e
        simp only at e
        split at e <;> cases e
  | ext a fp R =>
    obtain ⟨i, h1, h2⟩ := arg_ext e
    exact ⟨i, a, fp, R, rfl, h1, h2, h⟩
theorem arg_inFp {b : Addr} (h : InFp (rs.map (argSlot ρ)) b) : ∃ (j i : Nat) (a : Addr) (fp : Addr → Prop) (R : Hp → Prop), rs[j]? = some (.own i) ∧ ρ[i]? = some (.ext a fp R) ∧ fp b := by
  obtain ⟨j, s, e, hb⟩ := h
  obtain ⟨i, a, fp, R, _, h1, h2, h3⟩ := arg_fp e hb
  exact ⟨j, i, a, fp, R, h1, h2, h3⟩
theorem arg_ok (R : Rel K B ρ σ H) (k : RvsOk K H σ rs vs) (n : (extIx ρ rs).Nodup) : ArgOk K H (rs.map (argSlot ρ)) vs := by
  refine ⟨by rw [List.length_map, List.length_map, rvs_len k], fun j s e => ?_, fun b o e _ => e, Kp.refl H, fun _ z => z, fun j s b e hb => .inr ⟨j, s, e, hb⟩, fun j m s t b e1 e2 h1 h2 => ?_⟩
  · have e0 := e
    rw [List.getElem?_map] at e
    cases er : rs[j]? with
    | none => rw [er] at e; cases e
    | some r =>
      rw [er] at e
      have e : argSlot ρ r = s := Option.some.inj e
      obtain ⟨v, ev, rv⟩ := rvs_get k er
      refine ⟨some v, by rw [List.getElem?_map, ev]; rfl, ?_⟩
      cases r with
      | dat d =>
        subst e
        exact ⟨v, rfl, rv⟩
      | own i =>
        have rv : σ[i]? = some (some v) := rv
        cases ei : ρ[i]? with
        | none =>
          rw [argSlot, ei] at e
          subst e
          trivial
        | some t =>
          obtain ⟨o, eo, ok⟩ := R.ok i t ei
          rw [rv] at eo
          have eo : some v = o := Option.some.inj eo
          subst eo
          rw [argSlot, ei] at e
          cases t with
          | no => subst e; trivial
          | dat d => subst e; trivial
          | own a ds =>
            subst e
            obtain ⟨ea, us, hu, ra⟩ := ok
            refine ⟨ea, fun z => ?_, us, hu, ra⟩
            obtain ⟨j', i', a', fp', R', q1, q2, q3⟩ := arg_inFp z
            have := R.disj i i' _ _ a ei q2 rfl q3
            subst this
            rw [ei] at q2
            cases q2
          | rd a ds =>
            subst e
            obtain ⟨ea, nm, us, hu, ra⟩ := ok
            refine ⟨ea, fun z => ?_, us, R.frame a _ hu nm, ra.mono R.kp _ _⟩
            obtain ⟨j', i', a', fp', R', q1, q2, q3⟩ := arg_inFp z
            rcases R.fresh i' _ a q2 q3 with w | w
            · rw [w] at hu; cases hu
            · exact nm w
          | ext a fp P =>
            subst e
            exact ok
  · obtain ⟨i1, a1, f1, R1, rfl, q1, q2, q3⟩ := arg_fp e1 h1
    obtain ⟨i2, a2, f2, R2, rfl, p1, p2, p3⟩ := arg_fp e2 h2
    have := R.disj i1 i2 _ _ b q2 p2 q3 p3
    subst this
    exact extIx_inj q2 n q1 p1
/-- behind the call -/
theorem back_ok {d : PyData} {outs : List Slot} {v : V} (R : Rel K B ρ σ H) (k : RvsOk K H σ rs vs) (n : (extIx ρ rs).Nodup) (q : RetOk K H (rs.map (argSlot ρ)) H' d outs v) :
    Rel K B (putBack ρ rs outs) σ H' ∧ Stp ρ H (putBack ρ rs outs) H' := by
  have sub : ∀ {b}, InFp (rs.map (argSlot ρ)) b → InFp ρ b := fun {b} z => by
    obtain ⟨j, i, a, fp, P, _, h2, h3⟩ := arg_inFp z
    exact ⟨i, _, h2, h3⟩
  -- a name that was written: what stands there now
  have c1 : ∀ {i j : Nat} {a : Addr} {fp : Addr → Prop} {P : Hp → Prop}, rs[j]? = some (.own i) → outs[j]? = some (.ext a fp P) → (∃ fp0 P0, ρ[i]? = some (.ext a fp0 P0)) ∧ P H' ∧ Stab P fp ∧ (∀ b, fp b → H' b ≠ none) ∧ ∀ b, fp b → H b = none ∨ InFp (rs.map (argSlot ρ)) b := fun {i j a fp P} er eo => by
    obtain ⟨⟨fp0, P0, ea⟩, h1, h2, h3, h4⟩ := q.ok j a fp P eo
    obtain ⟨i', er', ei⟩ := arg_ext ea
    rw [er] at er'
    cases er'
    exact ⟨⟨fp0, P0, ei⟩, h1, h2, h3, h4⟩
  -- a name that was not
  have c2 : ∀ {i : Nat} {s : Slot} {b : Addr}, ρ[i]? = some s → (∀ (j : Nat) (a : Addr) (fp : Addr → Prop) (P : Hp → Prop), rs[j]? = some (.own i) → outs[j]? ≠ some (.ext a fp P)) → s.fp b → ¬ InFp (rs.map (argSlot ρ)) b := fun {i s b} ei nn hb z => by
    obtain ⟨j, s', ej, hs'⟩ := z
    obtain ⟨i', a, fp, P, rfl, h1, h2, h3⟩ := arg_fp ej hs'
    have := R.disj i i' _ _ b ei h2 hb h3
    subst this
    obtain ⟨fp', P', eo⟩ := q.out j a fp P ej
    exact nn j a fp' P' h1 eo
  have keepB : ∀ {b o}, H b = some o → ¬ InFp (rs.map (argSlot ρ)) b → H' b = H b := fun {b o} e z => by rw [e]; exact q.fr b o e z
  refine ⟨⟨?_, fun i s e => ?_, fun b o e nm => ?_, R.kp.trans q.kp, fun b z => q.th b (R.th b z), fun i s b e hb => ?_, fun i m s t b e1 e2 h1 h2 => ?_⟩, q.kp, q.th, fun b o e nf => ⟨q.fr b o e fun z => nf (sub z), fun z => ?_⟩⟩
  · have : ∀ (rs : List Rv) (outs : List Slot) (ρ : Rho), (putBack ρ rs outs).length = ρ.length := by
      intro rs
      induction rs with
      | nil => intro outs ρ; cases outs <;> rw [putBack]
      | cons r rs ih =>
        intro outs ρ
        cases outs with
        | nil => cases r <;> rw [putBack]
        | cons o outs =>
          cases r with
          | dat d => rw [putBack]; exact ih outs ρ
          | own i => cases o <;> rw [putBack] <;> first | exact ih outs ρ | (rw [ih, List.length_set])
    rw [this, R.len]
  · rcases putBack_get e with ⟨j, a, fp, P, er, eo, rfl⟩ | ⟨ei, nn⟩
    · obtain ⟨⟨fp0, P0, ei⟩, h1, h2, h3, _⟩ := c1 er eo
      obtain ⟨o, es, ok⟩ := R.ok i _ ei
      exact ⟨o, es, ok.1, h1, h2, h3⟩
    · obtain ⟨o, es, ok⟩ := R.ok i s ei
      refine ⟨o, es, ok.away q.kp fun b hb => ?_⟩
      obtain ⟨x, ex⟩ := ok.fpT hb
      exact keepB ex (c2 ei nn hb)
  · refine q.fr b o (R.frame b o e nm) fun z => ?_
    obtain ⟨i, s, ei, hb⟩ := sub z
    rcases R.fresh i s b ei hb with w | w
    · rw [w] at e; cases e
    · exact nm w
  · rcases putBack_get e with ⟨j, a, fp, P, er, eo, rfl⟩ | ⟨ei, nn⟩
    · obtain ⟨_, _, _, _, h4⟩ := c1 er eo
      rcases h4 b hb with w | w
      · refine .inl ?_
        cases e0 : B.H0 b with
        | none => rfl
        | some o => exact (R.th b (by rw [e0]; simp) w).elim
      · obtain ⟨i', s', ei', hb'⟩ := sub w
        exact R.fresh i' s' b ei' hb'
    · exact R.fresh i s b ei hb
  · have cross : ∀ {i m j : Nat} {a : Addr} {fp : Addr → Prop} {P : Hp → Prop} {t : Slot}, rs[j]? = some (.own i) → outs[j]? = some (.ext a fp P) → fp b → ρ[m]? = some t → (∀ (j : Nat) (a : Addr) (fp : Addr → Prop) (P : Hp → Prop), rs[j]? = some (.own m) → outs[j]? ≠ some (.ext a fp P)) → t.fp b → False := fun {i m j a fp P t} er eo hb em nn ht => by
      obtain ⟨_, _, _, _, h4⟩ := c1 er eo
      rcases h4 b hb with w | w
      · obtain ⟨x, ex⟩ := R.fpT ⟨m, t, em, ht⟩
        rw [w] at ex; cases ex
      · exact c2 em nn ht w
    rcases putBack_get e1 with ⟨j1, a1, f1, P1, er1, eo1, rfl⟩ | ⟨ei1, nn1⟩
    · rcases putBack_get e2 with ⟨j2, a2, f2, P2, er2, eo2, rfl⟩ | ⟨ei2, nn2⟩
      · have := q.dj j1 j2 _ _ b eo1 eo2 h1 h2
        subst this
        rw [er1] at er2
        cases er2
        rfl
      · exact (cross er1 eo1 h1 ei2 nn2 h2).elim
    · rcases putBack_get e2 with ⟨j2, a2, f2, P2, er2, eo2, rfl⟩ | ⟨ei2, nn2⟩
      · exact (cross er2 eo2 h2 ei1 nn1 h1).elim
      · exact R.disj i m s t b ei1 ei2 h1 h2
  · obtain ⟨i, s, ei, hb⟩ := z
    rcases putBack_get ei with ⟨j, a, fp, P, er, eo, rfl⟩ | ⟨ei, nn⟩
    · obtain ⟨_, _, _, _, h4⟩ := c1 er eo
      rcases h4 b hb with w | w
      · rw [w] at e; cases e
      · exact nf (sub w)
    · exact nf ⟨i, s, ei, hb⟩
end
end DL

/-! DL: the rules for calls; the law's end. -/
namespace DL
open PySem PySem.Spec L2

def dCall (S : FSp) (t : DTA) : DTE := fun ρ Q => t ρ fun rs ρ1 => (extIx ρ1 rs).Nodup ∧ S (rs.map (argSlot ρ1)) fun d outs => Q (.dat d) (putBack ρ1 rs outs)
/-- with keywords: g puts all the values in the parameters' order -/
def dCallK (S : FSp) (g : List Rv → List Rv → List Rv) (t tk : DTA) : DTE := fun ρ Q => t ρ fun rs ρ1 => tk ρ1 fun zs ρ2 => (extIx ρ2 (g rs zs)).Nodup ∧ S ((g rs zs).map (argSlot ρ2)) fun d outs => Q (.dat d) (putBack ρ2 (g rs zs) outs)
section
variable {X : Cx} {k : Nat} {f : Addr} {fd : FuncData} {ps : List Str} {S : FSp} {x : Str} {p pos : Pos} {e : Expr} {es : List Expr} {t tk : DTA}
theorem run_fnG {CX : CXT} {E : XK} {sp : Sp} {pins : List (Addr × Obj)} {σ : L2.St} {H : Hp} {s : Shared} {Q : VK} {args : Args} {us : List Value} {vs : List V} (F : FnG X.prog X.w X.K X.mg X.base CX k f fd ps sp) (hr : Room k X.A) (hg : X.A.guards = some []) (hx : Passes CX X E)
    (I : Inv X pins σ H s) (hb : BindsTo s fd args (ps.zip us)) (r : Vals vs us) (h : sp vs H Q E) : codeAny (model X.prog X.w) X.A (.call (.ref f) args) (fun r s' => match r with
      | .ok (.ret u) => EP X pins σ Q u s'
      | .ok _ => False
      | .error e => X.xe e s') s := by
  refine codeAny_mono (F.run X.A X.stack s H args us vs Q E hr hg I.env0 hb r h) fun r s' hq => ?_
  cases r with
  | error e => exact hx pins σ H s e s' I hq
  | ok fl =>
    cases fl with
    | ret u => exact I.after hq
    | next => exact hq.elim
    | brk => exact hq.elim
    | cont => exact hq.elim
theorem call_sp {σ : L2.St} {H : Hp} {Q : VK} {B : Bs} {ρ : Rho} {rs : List Rv} {vs : List V} {E : XK} {Q0 : Rv → Rho → Prop} (R : Rel X.K B ρ σ H) (kr : RvsOk X.K H σ rs vs) (n : (extIx ρ rs).Nodup)
    (h : S (rs.map (argSlot ρ)) fun d outs => Q0 (.dat d) (putBack ρ rs outs)) (k : ∀ d ρ' v H', Q0 (.dat d) ρ' → Rel X.K B ρ' σ H' → Rep X.K H' d v → Stp ρ H ρ' H' → Q v H') : spOf X.K S vs H Q E :=
  ⟨_, _, arg_ok R kr n, h, fun d outs v H' q ro => let ⟨R', s'⟩ := back_ok R kr n ro; k d _ v H' q R' ro.rep s'⟩
theorem zip_len {ps : List Str} {us : List Value} (h : us.length = ps.length) : True := trivial
/-- f(e, ..): the written arguments, then the defaults dd -/
theorem de_call {dvs : List V} {ds : List Value} {dd : List PyData} (F : FnG X.prog X.w X.K X.mg X.base CX0 k f fd ps (spOf X.K S)) (hr : Room k X.A) (hgd : X.A.guards = some []) (hg : Gl X x) (hm : X.mg x = some (.ref f)) (hk : PySem.W.keepIn X.K (.ref f) = true) (hb : Binds X.K fd ps ds) (hd : Vals dvs ds) (hdd : ∀ H, RepA X.K H dd dvs)
    (ha : DA X (e :: es) t) (hdb : (x == ("__debug__" : Str)) = false := by decide) (he : starEach (e :: es) X.env = (false, eval e X.env) :: starEach es X.env := by rfl) (hpl : (backTo pos (starEach es X.env)).any (·.1) = false := by rfl) :
    DE X (.Call (.Name x p) (e :: es) [] pos) (dCallK S (fun rs _ => rs ++ dd.map .dat) t dNil) := by
  refine ⟨fun pins s σ H Q I ⟨B, ρ, Q0, R, q, kk⟩ => ?_⟩
  refine wpAny_Call_Name_kw (ld_glob I hg hm ?_ hdb)
  refine PySem.W.callWith_K (h₀ := X.base) I.ok.mod.kin hk (thn (ha.run pos pins s σ H (fun vs H1 => spOf X.K S (vs ++ dvs) H1 Q E0) I ⟨B, ρ, _, R, q, fun rs ρ1 vs H1 q1 R1 k1 s1 => ?_⟩) fun us s1 ⟨vs, H1, I1, r, q⟩ => ⟨I1.kIn, ?_⟩) he hpl
  · obtain ⟨n, hS⟩ := q1
    have ap : ∀ {rs : List Rv} {vs : List V}, RvsOk X.K H1 σ rs vs → RvsOk X.K H1 σ (rs ++ dd.map .dat) (vs ++ dvs) := by
      have base : ∀ {dd : List PyData} {dvs : List V}, RepA X.K H1 dd dvs → RvsOk X.K H1 σ (dd.map .dat) dvs := by
        intro dd
        induction dd with
        | nil => intro dvs h; rw [RepA] at h; exact h
        | cons d dd ih =>
          intro dvs h
          rw [RepA] at h
          obtain ⟨v, r, rfl, h1, h2⟩ := h
          exact ⟨v, r, rfl, h1, ih h2⟩
      intro rs
      induction rs with
      | nil =>
        intro vs h
        have h : vs = [] := h
        subst h
        exact base (hdd H1)
      | cons r rs ih =>
        intro vs h
        obtain ⟨v, us, rfl, h1, h2⟩ := h
        exact ⟨v, us ++ dvs, rfl, h1, ih h2⟩
    exact call_sp R1 (ap k1) n hS fun d ρ' v H' q' R' rp s' => kk _ ρ' v H' q' R' rp (s1.trans s')
  · have r2 : Vals (vs ++ dvs) (us ++ ds) := r.append hd
    have hl : (us ++ ds).length = ps.length := by rw [← r2.length]; exact F.len _ _ _ _ q
    refine wpAny_call (codeAny_mono (run_fnG F hr hgd pass0 I1 (hb s1 us I1.kIn hl) r2 q) fun r s' hq => ?_)
    cases r with
    | error e => exact hq
    | ok fl => cases fl <;> first | exact hq | exact hq.elim
/-- .. no defaults -/
theorem de_call1 (F : FnG X.prog X.w X.K X.mg X.base CX0 k f fd ps (spOf X.K S)) (hr : Room k X.A) (hgd : X.A.guards = some []) (hg : Gl X x) (hm : X.mg x = some (.ref f)) (hk : PySem.W.keepIn X.K (.ref f) = true) (hb : Binds X.K fd ps [])
    (ha : DA X (e :: es) t) (hdb : (x == ("__debug__" : Str)) = false := by decide) (he : starEach (e :: es) X.env = (false, eval e X.env) :: starEach es X.env := by rfl) (hpl : (backTo pos (starEach es X.env)).any (·.1) = false := by rfl) :
    DE X (.Call (.Name x p) (e :: es) [] pos) (dCall S t) := by
  refine pe_imp (de_call (dd := []) F hr hgd hg hm hk hb .nil (fun _ => RepA.nil) ha hdb he hpl) fun σ H Q ⟨B, ρ, Q0, R, q, kk⟩ => ⟨B, ρ, Q0, R, ?_, kk⟩
  have e : dCallK S (fun rs _ => rs ++ ([] : List PyData).map .dat) t dNil ρ Q0 = dCall S t ρ Q0 := by
    unfold dCallK dCall dNil
    simp only [List.map_nil, List.append_nil]
  rw [e]
  exact q
/-- f() -/
theorem de_call0 (F : FnG X.prog X.w X.K X.mg X.base CX0 k f fd ps (spOf X.K S)) (hr : Room k X.A) (hgd : X.A.guards = some []) (hg : Gl X x) (hm : X.mg x = some (.ref f)) (hk : PySem.W.keepIn X.K (.ref f) = true) (hb : Binds X.K fd ps [])
    (hdb : (x == ("__debug__" : Str)) = false := by decide) : DE X (.Call (.Name x p) [] [] pos) (dCall S dNil) := by
  refine ⟨fun pins s σ H Q I ⟨B, ρ, Q0, R, q, kk⟩ => ?_⟩
  refine wpAny_Call_Name_kw (ld_glob I hg hm ?_ hdb)
  obtain ⟨n, hS⟩ := q
  have hsp : spOf X.K S [] H Q E0 := call_sp (rs := []) R rfl n hS fun d ρ' v H' q' R' rp s' => kk _ ρ' v H' q' R' rp s'
  have hl : ([] : List Value).length = ps.length := F.len _ _ _ _ hsp
  refine PySem.W.callWith_K0 I.kIn hk (wpAny_call (codeAny_mono (run_fnG (us := []) F hr hgd pass0 I (hb s [] I.kIn hl) .nil hsp) fun r s' hq => ?_))
  cases r with
  | error e => exact hq
  | ok fl => cases fl <;> first | exact hq | exact hq.elim

/-! ### keywords -/
def DK (X : Cx) (kws : List Keyword) (t : DTA) : Prop := PK X kws (liftA X.K t)
theorem pk_imp {kws : List Keyword} {t t' : TA} (h : PK X kws t) (i : ∀ σ H Q, t' σ H Q → t σ H Q) : PK X kws t' := ⟨fun pos pins s σ H Q I q => h.run pos pins s σ H Q I (i σ H Q q)⟩
theorem dk_nil : DK X [] dNil := pk_imp pk_nil fun σ H Q ⟨B, ρ, Q0, R, q, k⟩ => k [] ρ [] H q R rfl (Stp.refl _ _)
theorem dk_cons {kws : List Keyword} {te : DTE} {nm : Option Str} {kpos : Pos} (ha : DE X e te) (hr : DK X kws tk) : DK X (⟨nm, e, kpos⟩ :: kws) (dCons te tk) := pk_imp (pk_cons ha hr) fun σ H Q ⟨B, ρ, Q0, R, q, k⟩ =>
  ⟨B, ρ, _, R, q, fun r ρ1 v H1 q1 R1 k1 s1 => ⟨B, ρ1, _, R1, q1, fun rs ρ2 vs H2 q2 R2 k2 s2 => k _ ρ2 _ H2 q2 R2 ⟨v, vs, rfl, k1.mono s2.kp, k2⟩ (s1.trans s2)⟩⟩
/-- how a call with keywords binds -/
structure KBinds' (K : PySem.W.Frag) (fd : FuncData) (ps ks : List Str) (g : List Value → List Value → List Value) (gV : List V → List V → List V) (gR : List Rv → List Rv → List Rv) : Prop where
  to : ∀ (s : Shared) (us ws : List Value), K.In s.heap → (g us ws).length = ps.length → BindsTo s fd ⟨us, ks.zip ws⟩ (ps.zip (g us ws))
  rel : ∀ {vs : List V} {us : List Value} {zs : List V} {ws : List Value}, Vals vs us → Vals zs ws → Vals (gV vs zs) (g us ws)
  rep : ∀ {H : Hp} {σ : L2.St} {rs zs : List Rv} {vs us : List V}, RvsOk K H σ rs vs → RvsOk K H σ zs us → RvsOk K H σ (gR rs zs) (gV vs us)
theorem de_callK {ks : List Str} {g : List Value → List Value → List Value} {gV : List V → List V → List V} {gR : List Rv → List Rv → List Rv} {kws : List Keyword} (F : FnG X.prog X.w X.K X.mg X.base CX0 k f fd ps (spOf X.K S)) (hr : Room k X.A) (hgd : X.A.guards = some []) (hg : Gl X x) (hm : X.mg x = some (.ref f)) (hk : PySem.W.keepIn X.K (.ref f) = true) (hb : KBinds' X.K fd ps ks g gV gR)
    (ha : DA X (e :: es) t) (hkw : DK X kws tk) (hall : (backToKw pos (keywordEach kws X.env)).all (·.1.isSome) = true := by rfl) (hks : (backToKw pos (keywordEach kws X.env)).filterMap (·.1) = ks := by rfl)
    (hdb : (x == ("__debug__" : Str)) = false := by decide) (he : starEach (e :: es) X.env = (false, eval e X.env) :: starEach es X.env := by rfl)
    (hpl : ((backTo pos (starEach (e :: es) X.env)).any (·.1) || (backToKw pos (keywordEach kws X.env)).any (·.1.isNone)) = false := by rfl) :
    DE X (.Call (.Name x p) (e :: es) kws pos) (dCallK S gR t tk) := by
  refine ⟨fun pins s σ H Q I ⟨B, ρ, Q0, R, q, kk⟩ => ?_⟩
  refine wpAny_Call_Name_kw (ld_glob I hg hm ?_ hdb)
  refine PySem.W.callWith_KW (h₀ := X.base) I.ok.mod.kin hk hall (thn (ha.run pos pins s σ H (fun vs H1 => ∃ ρ1 rs, Rel X.K B ρ1 σ H1 ∧ RvsOk X.K H1 σ rs vs ∧ Stp ρ H ρ1 H1 ∧ tk ρ1 fun zs ρ2 => (extIx ρ2 (gR rs zs)).Nodup ∧ S ((gR rs zs).map (argSlot ρ2)) fun d outs => Q0 (.dat d) (putBack ρ2 (gR rs zs) outs)) I
    ⟨B, ρ, _, R, q, fun rs ρ1 vs H1 q1 R1 k1 s1 => ⟨ρ1, rs, R1, k1, s1, q1⟩⟩) fun us s1 ⟨vs, H1, I1, r, ρ1, rs, R1, k1, st1, q1⟩ => ?_) hpl he
  refine thn (hkw.run pos pins s1 σ H1 (fun zs H2 => spOf X.K S (gV vs zs) H2 Q E0) I1 ⟨B, ρ1, _, R1, q1, fun zs ρ2 ws H2 q2 R2 k2 s2 => ?_⟩) fun ws s2 ⟨zs, H2, I2, rz, q2⟩ => ⟨I2.kIn, ?_⟩
  · obtain ⟨n, hS⟩ := q2
    exact call_sp R2 (hb.rep (k1.mono s2.kp) k2) n hS fun d ρ' v H' q' R' rp s' => kk _ ρ' v H' q' R' rp ((st1.trans s2).trans s')
  · rw [hks]
    have r2 := hb.rel r rz
    have hl : (g us ws).length = ps.length := by rw [← r2.length]; exact F.len _ _ _ _ q2
    refine wpAny_call (codeAny_mono (run_fnG F hr hgd pass0 I2 (hb.to s2 us ws I2.kIn hl) r2 q2) fun r s' hq => ?_)
    cases r with
    | error e => exact hq
    | ok fl => cases fl <;> first | exact hq | exact hq.elim
end

/-! ### the law's end -/
/-- a law over the script's ints: True -/
def lawSp (n : Nat) : FSp := fun as Q0 => ∃ ns : List Int, as = [.dat (.list (ns.map .int))] ∧ ns.length ≤ n ∧ Q0 (.bool true) [.no]
theorem law_sp {K : PySem.W.Frag} {H : Hp} {a : Addr} {ns : List Int} {n : Nat} {E : XK} (hO : Only H) (hS : SqL K H a (ns.map V.int)) (hl : ns.length ≤ n) : spOf K (lawSp n) [.ref a] H (fun v _ => v = .bl true) E := by
  have fz : FzL K H a (ns.map V.int) := by
    rcases hS with (h | h) | h
    · rcases hO a with z | ⟨o, xs, z⟩
      · rw [z] at h; cases h
      · rw [z] at h; cases h
    · exact .inl h
    · exact .inr h
  have rp : Rep K H (.list (ns.map .int)) (.ref a) := by
    rw [Rep]
    exact ⟨a, _, rfl, fz, RepA.ints ns⟩
  refine ⟨[.dat (.list (ns.map .int))], fun d outs => d = .bool true, ⟨rfl, fun i s e => ?_, fun b o e _ => e, Kp.refl H, fun _ z => z, fun i s b e hb => ?_, fun i j s t b e1 e2 h1 h2 => ?_⟩, ⟨ns, rfl, hl, rfl⟩, fun d outs v H' e ro => ?_⟩
  · cases i with
    | zero =>
      have e := Option.some.inj e
      subst e
      exact ⟨_, rfl, _, rfl, rp⟩
    | succ i => simp at e
  · cases i with
    | zero =>
      have e := Option.some.inj e
      subst e
      exact hb.elim
    | succ i => simp at e
  · cases i with
    | zero =>
      have e1 := Option.some.inj e1
      subst e1
      exact h1.elim
    | succ i => simp at e1
  · subst e
    have := ro.rep
    rwa [Rep] at this
theorem law_callG {P : Program} {w : World} {K : PySem.W.Frag} {mg mb : Str → Option Value} {k n : Nat} {fa a : Addr} {fd : FuncData} {x : Str} {s₁ : Shared} {vs : List Value} {ns : List Int}
    (KX : K.In s₁.heap) (hns : s₁.heap.Ns mainGlobals mg) (hb : s₁.heap.Ns builtinsNs mb) (hbb : ∀ x : Str, x ≠ "__name__" → mb x = bootBuiltins x) (hlim : s₁.heap.NoLimit) (hg : s₁.gens = #[])
    (ha : s₁.heap.get? a = some { cls := .type "list", data := .seq vs.toArray }) (hi : PyProof.Rows.IntsAre vs ns) (hl : ns.length ≤ n) (hn : n ≤ sizeLine) (hr : Room k callerA)
    (F : ∀ base : Heap, K.In base → base.Ns mainGlobals mg → FnG P w K mg base CX0 k fa fd [x] (spOf K (lawSp n))) (hbind : ∀ (s : Shared) (u : Value), BindsTo s fd ⟨[u], []⟩ [(x, u)]) :
    codeAny (model P w) callerA (.call (.ref fa) ⟨[.ref a], []⟩) (fun r s' => r = .ok (.ret (.bool true)) ∧ _root_.PySem.OldK s₁.heap s'.heap ∧ s'.os = s₁.os ∧ PyProof.Rows.AllBare s'.gens) s₁ := by
  have rv := vals_ints hi
  have lenV := hi.length
  -- the abstract heap: nothing but the script, at most
  have core : ∀ H : Hp, Only H → SqL K H a (ns.map V.int) → HOk P w H s₁.heap → (∀ b o, H b = some o → b = a ∧ K.lookup a = none) →
      codeAny (model P w) callerA (.call (.ref fa) ⟨[.ref a], []⟩) (fun r s' => r = .ok (.ret (.bool true)) ∧ _root_.PySem.OldK s₁.heap s'.heap ∧ s'.os = s₁.os ∧ PyProof.Rows.AllBare s'.gens) s₁ := by
    intro H hO hS ok hA
    have off : ∀ {b : Addr} {o : Obj}, s₁.heap.get? b = some o → o.cls ≠ .type "list" ∨ K.lookup b ≠ none → H b = none := fun {b o} e d => by
      cases q : H b with
      | none => rfl
      | some u =>
        obtain ⟨e', hk⟩ := hA b u q
        subst e'
        rw [ha] at e; cases e
        rcases d with d | d
        · exact (d rfl).elim
        · exact (d hk).elim
    have dct : ∀ {b : Addr} {o : Obj} {es : Array DictEntry} {ep : Nat}, s₁.heap.get? b = some o → o.data = .dict es ep → H b = none := fun {b o es ep} e d => by
      cases q : H b with
      | none => rfl
      | some u =>
        obtain ⟨e', _⟩ := hA b u q
        subst e'
        rw [ha] at e; cases e
        cases d
    have nsK : ∀ {b : Addr} {m : Str → Option Value}, s₁.heap.Ns b m → (hidT s₁.heap H).Ns b m := fun {b m} ⟨o, es, ep, e, d, r⟩ => ⟨o, es, ep, hidT_get e (dct e d), d, r⟩
    have hKb : K.In (hidT s₁.heap H) := fun b o e => hidT_get (KX b o e) (off (KX b o e) (.inr (by rw [e]; simp)))
    obtain ⟨mc, c1, c2⟩ := hlim
    have e0 : Env0 P w K mg (hidT s₁.heap H) callerA [] s₁ H := ⟨rfl, ⟨hKb, nsK hns, ⟨mb, nsK hb, hbb⟩, ⟨mc, nsK c1, c2⟩⟩, fun b o e => of_hidT e, Nat.le_of_eq (hidT_size _ _), trivial, (fun b hb => by simp [frs] at hb), ok, .of_eq hg⟩
    refine codeAny_mono ((F _ hKb (nsK hns)).run callerA [] s₁ H ⟨[.ref a], []⟩ [.ref a] [.ref a] _ E0 hr rfl e0 (hbind s₁ (.ref a)) (.cons rfl .nil) (law_sp hO hS hl)) fun r s' h => ?_
    cases r with
    | error e => exact h.elim
    | ok fl =>
      cases fl with
      | next => exact h.elim
      | brk => exact h.elim
      | cont => exact h.elim
      | ret u =>
        obtain ⟨v, H', os, bare, un, hok', r', q⟩ := h
        have q' : v = .bl true := q
        subst q'
        obtain rfl : u = Value.bool true := r'
        refine ⟨rfl, _root_.PySem.OldK.of_keep fun b o e => ?_, os, bare⟩
        cases q : H b with
        | none => exact un.keep b o e q (by simp [frs]) (by simp)
        | some u =>
          rcases hO b with z | ⟨ob, xs, z⟩
          · rw [q] at z; cases z
          · obtain ⟨e1, _⟩ := ok b _ z
            obtain ⟨e2, _⟩ := hok' b _ (un.frzs b ob _ z)
            rw [e] at e1; cases e1
            exact e2
  cases hk : K.lookup a with
  | some o =>
    have e := KX a o hk
    rw [ha] at e
    cases e
    exact core (fun _ => none) (fun _ => .inl rfl) (.inr ⟨_, vs.toArray, _, hk, rfl, rfl, rfl, by rw [List.size_toArray, lenV]; omega, by simpa using rv⟩) (fun b u z => nomatch z) fun b o z => nomatch z
  | none =>
    have at_ : ∀ {b u}, (if b = a then some (HO.frz { cls := .type "list", data := .seq vs.toArray } (.lst (ns.map V.int))) else none) = some u → b = a ∧ u = .frz { cls := .type "list", data := .seq vs.toArray } (.lst (ns.map V.int)) := fun {b u} z => by
      split at z
      · rename_i e; exact ⟨e, (Option.some.inj z).symm⟩
      · cases z
    refine core (fun b => if b = a then some (.frz { cls := .type "list", data := .seq vs.toArray } (.lst (ns.map V.int))) else none) (fun b => ?_) (.inl (.inr ⟨{ cls := .type "list", data := .seq vs.toArray }, if_pos rfl⟩)) (fun b u z => ?_) fun b o z => ⟨(at_ z).1, hk⟩
    · by_cases hb : b = a
      · exact .inr ⟨_, _, if_pos hb⟩
      · exact .inl (if_neg hb)
    · obtain ⟨rfl, rfl⟩ := at_ z
      exact ⟨ha, by rw [List.length_map]; omega, vs, _, rv, ha⟩
/-- what k_head leaves, from the law's promise -/
theorem walk_ofG {l : PySem.W.OpenLaw} {n k : Nat} {q : Program} {loose : List Str} {XP : (Str → Option Value) → Heap → Prop} {YP : World → Heap → Prop} {d : DefRec} {K : Params → PySem.W.Frag} {x : Str}
    (hn : l.most = some n) (hn2 : n ≤ sizeLine) (hdf : d.params.defaults = []) (hr : Room k callerA) (hY : ∀ (w : World) (h : Heap), YP w h → (K w.params).In h)
    (F : ∀ (w : World) (mg : Str → Option Value) (fa : Addr) (h : Heap), (K w.params).In h → h.Ns mainGlobals mg → mg d.name = some (.ref fa) →
      ∃ fd : FuncData, (∀ (s : Shared) (u : Value), BindsTo s fd ⟨[u], []⟩ [(x, u)]) ∧ ∀ base : Heap, (K w.params).In base → base.Ns mainGlobals mg → FnG l.prog w (K w.params) mg base CX0 k fa fd [x] (spOf (K w.params) (lawSp n))) :
    PySem.W.WalkO q loose XP YP l.row.toRowW d [] (fun f vs => PySem.call f vs) := by
  refine Att.attach_call hn hdf fun w s₀ s₁ mg mb fa o pm cd doc a vs ns G Y ho hd hcd hmg hobj hints hlen hg => ?_
  have KX := hY w _ Y
  obtain ⟨fd, hb, hF⟩ := F w mg fa _ KX G.T.g hmg
  exact law_callG KX G.T.g G.T.b G.T.builtins G.T.nolimit hg hobj hints hlen hn2 hr hF hb
end DL

/-! DL: the deck of draws, a list of a list and two numbers. -/
namespace DL
open PySem PySem.Spec L2

def dkFp (a c : Addr) : Addr → Prop := fun b => b = a ∨ b = c
def dkR (a c : Addr) (ns : List Int) (sd tn : Int) : Hp → Prop := fun H => H a = some (.lst [.ref c, .int sd, .int tn]) ∧ H c = some (.lst (ns.map .int))
def dkX (a c : Addr) (ns : List Int) (sd tn : Int) : Slot := .ext a (dkFp a c) (dkR a c ns sd tn)
/-- at most T draws so far -/
def dkR' (a c : Addr) (T : Nat) : Hp → Prop := fun H => ∃ ns sd tn, ns.length ≤ 63 ∧ 0 ≤ tn ∧ tn ≤ (T : Int) ∧ dkR a c ns sd tn H
def dkSlot (a c : Addr) (T : Nat) : Slot := .ext a (dkFp a c) (dkR' a c T)
theorem dkR_stab (a c : Addr) (ns : List Int) (sd tn : Int) : Stab (dkR a c ns sd tn) (dkFp a c) := fun H H' hf _ ⟨h1, h2⟩ => ⟨(hf a (.inl rfl)).trans h1, (hf c (.inr rfl)).trans h2⟩
theorem dkR'_stab (a c : Addr) (T : Nat) : Stab (dkR' a c T) (dkFp a c) := fun H H' hf k ⟨ns, sd, tn, h0, h1, h2, h⟩ => ⟨ns, sd, tn, h0, h1, h2, dkR_stab a c ns sd tn H H' hf k h⟩
theorem dkR_ne {a c : Addr} {ns : List Int} {sd tn : Int} {H : Hp} (h : dkR a c ns sd tn H) : a ≠ c := by
  rintro rfl
  obtain ⟨h1, h2⟩ := h
  rw [h1] at h2
  cases ns with
  | nil => cases h2
  | cons n ns => cases h2
theorem dkR_th {a c : Addr} {ns : List Int} {sd tn : Int} {H : Hp} (h : dkR a c ns sd tn H) (b : Addr) (hb : dkFp a c b) : H b ≠ none := by
  rcases hb with rfl | rfl
  · rw [h.1]; simp
  · rw [h.2]; simp
section
variable {K : PySem.W.Frag} {B : Bs} {ρ : Rho} {σ : L2.St} {H H' : Hp} {i : Nat} {a c : Addr} {ns : List Int} {sd tn : Int}
/-- what may be written was written -/
theorem Rel.setExt {fp : Addr → Prop} {P P' : Hp → Prop} (R : Rel K B ρ σ H) (e : ρ[i]? = some (.ext a fp P)) (k : Kp H H') (th : ∀ b, H b ≠ none → H' b ≠ none) (hf : ∀ b, ¬ fp b → H' b = H b) (hP : P' H') (st : Stab P' fp) :
    Rel K B (ρ.set i (.ext a fp P')) σ H' ∧ Stp ρ H (ρ.set i (.ext a fp P')) H' := by
  have hi := (List.getElem?_eq_some_iff.mp e).1
  obtain ⟨o0, eo0, ok0⟩ := R.ok i _ e
  refine ⟨⟨by rw [List.length_set, R.len], fun j s e' => ?_, fun b o e' n => ?_, R.kp.trans k, fun b n => th b (R.th b n), fun j s b e' hb => ?_, fun j q s t b e1 e2 h1 h2 => ?_⟩, k, th, fun b o eb n => ⟨?_, fun z => n ?_⟩⟩
  · rcases get_set e' with ⟨rfl, rfl⟩ | ⟨hj, e'⟩
    · obtain ⟨e1, _, _, e2⟩ := ok0
      exact ⟨o0, eo0, e1, hP, st, fun b hb => th b (e2 b hb)⟩
    · obtain ⟨o, e1, q⟩ := R.ok j s e'
      refine ⟨o, e1, q.away k fun b hb => hf b fun z => hj ?_⟩
      exact R.disj j i s _ b e' e hb z
  · rw [hf b fun z => ?_]
    · exact R.frame b o e' n
    · rcases R.fresh i _ b e z with w | w
      · rw [w] at e'; cases e'
      · exact n w
  · rcases get_set e' with ⟨rfl, rfl⟩ | ⟨hj, e'⟩
    · exact R.fresh j _ b e hb
    · exact R.fresh j s b e' hb
  · rcases get_set e1 with ⟨rfl, rfl⟩ | ⟨hj, f1⟩
    · rcases get_set e2 with ⟨rfl, rfl⟩ | ⟨hk, f2⟩
      · rfl
      · exact R.disj j q _ t b e f2 h1 h2
    · rcases get_set e2 with ⟨rfl, rfl⟩ | ⟨hk, f2⟩
      · exact R.disj j q s _ b f1 e h1 h2
      · exact R.disj j q s t b f1 f2 h1 h2
  · rw [hf b fun z => n ⟨i, _, e, z⟩]; exact eb
  · obtain ⟨j, s, ej, hs⟩ := z
    rcases get_set ej with ⟨rfl, rfl⟩ | ⟨hj, ej⟩
    · exact ⟨j, _, e, hs⟩
    · exact ⟨j, s, ej, hs⟩
theorem dk_at (R : Rel K B ρ σ H) (e : ρ[i]? = some (dkX a c ns sd tn)) : σ[i]? = some (some (.ref a)) ∧ dkR a c ns sd tn H := by
  obtain ⟨o, eo, rfl, h, _⟩ := R.ok i _ e
  exact ⟨eo, h⟩
/-- the list of the deck -/
theorem dk_a {o1 : Int} {o2 : Int} (R : Rel K B ρ σ H) (e : ρ[i]? = some (dkX a c ns sd tn)) : Rel K B (ρ.set i (dkX a c ns o1 o2)) σ (upd H a (.lst [.ref c, .int o1, .int o2])) ∧ Stp ρ H (ρ.set i (dkX a c ns o1 o2)) (upd H a (.lst [.ref c, .int o1, .int o2])) := by
  obtain ⟨_, h⟩ := dk_at R e
  refine R.setExt e (Kp.lst h.1) (fun b n => th_upd b n) (fun b n => upd_ne fun z => n (.inl z)) ⟨upd_same, ?_⟩ (dkR_stab _ _ _ _ _)
  rw [upd_ne (Ne.symm (dkR_ne h))]
  exact h.2
/-- its cells -/
theorem dk_c {ms : List Int} (R : Rel K B ρ σ H) (e : ρ[i]? = some (dkX a c ns sd tn)) : Rel K B (ρ.set i (dkX a c ms sd tn)) σ (upd H c (.lst (ms.map .int))) ∧ Stp ρ H (ρ.set i (dkX a c ms sd tn)) (upd H c (.lst (ms.map .int))) := by
  obtain ⟨_, h⟩ := dk_at R e
  refine R.setExt e (Kp.lst h.2) (fun b n => th_upd b n) (fun b n => upd_ne fun z => n (.inr z)) ⟨?_, upd_same⟩ (dkR_stab _ _ _ _ _)
  rw [upd_ne (dkR_ne h)]
  exact h.1
end

section
variable {X : Cx} {o e : Expr} {te : DTE} {i : Nat} {pos spos apos cpos lpos ipos : Pos}
/-- deck[1], deck[2] -/
def dDk1 (i : Nat) : DTE := fun ρ Q => ∃ a c ns sd tn, ρ[i]? = some (dkX a c ns sd tn) ∧ Q (.dat (.int sd)) ρ
def dDk2 (i : Nat) : DTE := fun ρ Q => ∃ a c ns sd tn, ρ[i]? = some (dkX a c ns sd tn) ∧ Q (.dat (.int tn)) ρ
theorem de_dk1 {k} (hv : PE X o (tVar i)) (hs : PlainIx (.Constant (.int 1) k ipos) := by intro _ _; rfl) : DE X (.Subscript o (.Constant (.int 1) k ipos) spos) (dDk1 i) := pe_imp (pe_ix ix_list hv pe_int hs) fun σ H Q ⟨B, ρ, Q0, R, q, kk⟩ => by
  obtain ⟨a, c, ns, sd, tn, e, q⟩ := q
  obtain ⟨es, h⟩ := dk_at R e
  exact ⟨_, es, a, _, 1, .int sd, rfl, rfl, SqL.of h.1, rfl, kk _ ρ _ H q R (qint _ _ _ _) (Stp.refl _ _)⟩
theorem de_dk2 {k} (hv : PE X o (tVar i)) (hs : PlainIx (.Constant (.int 2) k ipos) := by intro _ _; rfl) : DE X (.Subscript o (.Constant (.int 2) k ipos) spos) (dDk2 i) := pe_imp (pe_ix ix_list hv pe_int hs) fun σ H Q ⟨B, ρ, Q0, R, q, kk⟩ => by
  obtain ⟨a, c, ns, sd, tn, e, q⟩ := q
  obtain ⟨es, h⟩ := dk_at R e
  exact ⟨_, es, a, _, 2, .int tn, rfl, rfl, SqL.of h.1, rfl, kk _ ρ _ H q R (qint _ _ _ _) (Stp.refl _ _)⟩
theorem pe_dk0 {k} (hv : PE X o (tVar i)) (hs : PlainIx (.Constant (.int 0) k ipos) := by intro _ _; rfl) : PE X (.Subscript o (.Constant (.int 0) k ipos) spos) (tOp (rIxL X.K) (tVar i) (tC (.int 0))) := pe_ix ix_list hv pe_int hs
theorem dk0_at {σ : L2.St} {H : Hp} {B : Bs} {ρ : Rho} {a c : Addr} {ns : List Int} {sd tn : Int} {Q : VK} (R : Rel X.K B ρ σ H) (e : ρ[i]? = some (dkX a c ns sd tn)) (q : Q (.ref c) H) : tOp (rIxL X.K) (tVar i) (tC (.int 0)) σ H Q := by
  obtain ⟨es, h⟩ := dk_at R e
  exact ⟨_, es, a, _, 0, .ref c, rfl, rfl, SqL.of h.1, rfl, q⟩
/-- deck[0] != [] -/
def dDkNe (i : Nat) : DTT := fun ρ Q => ∃ a c ns sd tn, ρ[i]? = some (dkX a c ns sd tn) ∧ Q (decide (ns ≠ [])) ρ
theorem shaped_ints (ns : List Int) : SeqAt.shaped (.list (ns.map PyData.int)) = true := PySem.W.ke_shaped_ints ns
theorem dpAll_ints {K : PySem.W.Frag} {H : Hp} : ∀ ns : List Int, DpAll K H (ns.map .int) (ns.map .int)
  | [] => .nil
  | n :: ns => .cons (dp_of _ _ (by rw [Rep]) rfl) (dpAll_ints ns)
theorem dt_dkNe {k} (hu : X.A.units + 64 < cLine) (hv : PE X o (tVar i)) (hs : PlainIx (.Constant (.int 0) k ipos) := by intro _ _; rfl) : DT X (.Compare (.Subscript o (.Constant (.int 0) k ipos) spos) [.NotEq] [.List [] lpos] cpos) (dDkNe i) := by
  refine pt_imp (pt_cmpR (op_neD hu) (pe_dk0 hv hs) (pe_lst pa_nil) (nomark _)) fun σ H Q ⟨B, ρ, Q0, R, q, kk⟩ => ?_
  obtain ⟨a, c, ns, sd, tn, e, q⟩ := q
  refine dk0_at R e ⟨Nat.zero_le _, fun p np => ?_⟩
  have sm : Same H (upd H p (.lst [])) := same_new np
  have R' := R.same sm
  obtain ⟨_, h⟩ := dk_at R' e
  refine ⟨.list (ns.map .int), .list [], .lst (SqL.of h.2) (dpAll_ints ns), .lst (SqL.of upd_same) .nil, shaped_ints ns, shaped_ints [], ?_⟩
  refine ⟨_, rfl, ?_⟩
  have : (!PyData.eqv (.list (ns.map PyData.int)) (.list [])) = decide (ns ≠ []) := by
    cases ns with
    | nil => rfl
    | cons n ns => rfl
  rw [this]
  exact kk _ ρ _ q R' (Stp.same sm)
/-- deck[0].pop(), deck[0].append(e) -/
def dDkPop (i : Nat) : DTE := fun ρ Q => ∃ a c ns n sd tn, ρ[i]? = some (dkX a c (ns ++ [n]) sd tn) ∧ Q (.dat (.int n)) (ρ.set i (dkX a c ns sd tn))
theorem de_dkPop {k} (hv : PE X o (tVar i)) (hs : PlainIx (.Constant (.int 0) k ipos) := by intro _ _; rfl) (hbase : attributeBase (.Subscript o (.Constant (.int 0) k ipos) spos) "pop" X.env (eval (.Subscript o (.Constant (.int 0) k ipos) spos) X.env) = eval (.Subscript o (.Constant (.int 0) k ipos) spos) X.env := by rfl) (hline : (apos.endLine == cpos.line) = true := by rfl) :
    DE X (.Call (.Attribute (.Subscript o (.Constant (.int 0) k ipos) spos) "pop" apos) [] [] cpos) (dDkPop i) := by
  refine pe_imp (pe_bm0 PySem.F.plainAttrs_list PySem.F.slot_list_pop PySem.F.type_list_pop mt_pop (pe_dk0 hv hs) hbase hline) fun σ H Q ⟨B, ρ, Q0, R, q, kk⟩ => ?_
  obtain ⟨a, c, ns, n, sd, tn, e, q⟩ := q
  obtain ⟨_, h⟩ := dk_at R e
  refine dk0_at R e ⟨.inl ⟨rfl, _, SqL.of h.2⟩, c, _, .int n, rfl, rfl, h.2, by simp, ?_⟩
  obtain ⟨R', s'⟩ := dk_c (ms := ns) R e
  have e2 : (List.map V.int (ns ++ [n])).dropLast = ns.map V.int := by simp
  rw [e2]
  exact kk _ _ _ _ q R' (qint _ _ _ _) s'
def dDkApp (i : Nat) (te : DTE) : DTE := fun ρ Q => ∃ a c ns sd tn, ρ[i]? = some (dkX a c ns sd tn) ∧ te ρ fun r ρ1 => ∃ n, r = .dat (.int n) ∧ ρ1 = ρ ∧ ns.length < 64 ∧ Q (.dat .none) (ρ.set i (dkX a c (ns ++ [n]) sd tn))
theorem de_dkApp {k} (hv : PE X o (tVar i)) (he : DE X e te) (hs : PlainIx (.Constant (.int 0) k ipos) := by intro _ _; rfl) (hbase : attributeBase (.Subscript o (.Constant (.int 0) k ipos) spos) "append" X.env (eval (.Subscript o (.Constant (.int 0) k ipos) spos) X.env) = eval (.Subscript o (.Constant (.int 0) k ipos) spos) X.env := by rfl)
    (hfew : ((backTo cpos (starEach [e] X.env)).all (fun x => !x.1) && (backToKw cpos (keywordEach [] X.env)).all (fun x => x.1.isSome)
      && decide (([e] : List Expr).length + ([] : List Keyword).length + (if ([] : List Keyword).isEmpty then 0 else 1) < 30)) = true := by rfl)
    (hline : (apos.endLine == cpos.line) = true := by rfl) (hst : starEach [e] X.env = (false, eval e X.env) :: starEach [] X.env := by rfl) (hplain : (backTo cpos (starEach [] X.env)).any (·.1) = false := by rfl) :
    DE X (.Call (.Attribute (.Subscript o (.Constant (.int 0) k ipos) spos) "append" apos) [e] [] cpos) (dDkApp i te) := by
  refine pe_imp (pe_bm PySem.F.plainAttrs_list PySem.F.slot_list_append PySem.F.type_list_append mt_append (pe_dk0 hv hs) (da_cons he da_nil hst) hbase hfew hline hst hplain) fun σ H Q ⟨B, ρ, Q0, R, q, kk⟩ => ?_
  obtain ⟨a, c, ns, sd, tn, ei, q⟩ := q
  obtain ⟨_, h⟩ := dk_at R ei
  refine dk0_at R ei ⟨.inl ⟨rfl, _, SqL.of h.2⟩, B, ρ, fun rs ρ1 => ∃ n, rs = [.dat (.int n)] ∧ ρ1 = ρ ∧ ns.length < 64 ∧ Q0 (.dat .none) (ρ.set i (dkX a c (ns ++ [n]) sd tn)), R, ?_, fun rs ρ1 vs H1 q1 R1 k1 s1 => ?_⟩
  · refine cast ?_ q
    show te ρ _ = te ρ _
    congr 1
    funext r ρ1
    simp [dNil]
  · obtain ⟨n, rfl, rfl, hz, q1⟩ := q1
    obtain ⟨v, rfl, k2⟩ := k1.one
    obtain ⟨_, h1⟩ := dk_at R1 ei
    have k2 := rint k2
    subst k2
    have hn : ns.length < sizeLine := Nat.lt_of_lt_of_le hz (by decide)
    refine ⟨c, _, .int n, rfl, rfl, h1.2, by rw [List.length_map]; exact hn, ?_⟩
    obtain ⟨R', s'⟩ := dk_c (ms := ns ++ [n]) R1 ei
    have e2 : ns.map V.int ++ [V.int n] = (ns ++ [n]).map V.int := by simp
    rw [e2]
    exact kk _ _ _ _ q1 R' (qnone _ _ _) (s1.trans s')
/-- deck[2] = e -/
def dDkSet2 (i : Nat) (te : DTE) : DTS := fun E ρ => te ρ fun r ρ1 => ∃ a c ns sd tn n, r = .dat (.int n) ∧ ρ1[i]? = some (dkX a c ns sd tn) ∧ E.nx (ρ1.set i (dkX a c ns sd n))
theorem dp_dkSet2 {k} (hv : PE X o (tVar i)) (he : DE X e te) (hs : swapsWithSole [.Subscript o (.Constant (.int 2) k ipos) spos] e pos.line X.env = pure false := by rfl) (hw : swappedStores [.Subscript o (.Constant (.int 2) k ipos) spos] e X.env = pure none := by rfl)
    (h1 : (assignEach [.Subscript o (.Constant (.int 2) k ipos) spos] X.env).map (·.2) = [assign (.Subscript o (.Constant (.int 2) k ipos) spos) X.env] := by rfl) :
    DP X (.Assign [.Subscript o (.Constant (.int 2) k ipos) spos] e pos) (dDkSet2 i te) := by
  refine ps_imp (ps_asg he (pg_sub hv pe_int set_list) hs hw h1) fun D σ H ⟨B, ρ, E, R, q, kk⟩ => ?_
  refine ⟨B, ρ, _, R, q, fun r ρ1 v H1 q1 R1 k1 s1 => ?_⟩
  obtain ⟨a, c, ns, sd, tn, n, rfl, e, q1⟩ := q1
  obtain ⟨es, h⟩ := dk_at R1 e
  have k1 := rint k1
  subst k1
  obtain ⟨R', s'⟩ := dk_a (o1 := sd) (o2 := n) R1 e
  exact ⟨_, es, a, _, 2, 2, rfl, rfl, h.1, rfl, kk.nx _ _ _ q1 R' (s1.trans s').kp⟩
end
/-! ### the promises -/
def drawX : FSp := fun as Q0 => ∃ a c ns sd tn n, as = [dkX a c ns sd tn, .dat (.int n)] ∧ ns.length ≤ 63 ∧ 0 ≤ tn ∧ tn < 2 ^ 63 ∧ 0 < n ∧ n < 2 ^ 64 ∧ ∀ r ns', 0 ≤ r → r < n → ns'.length ≤ 63 → Q0 (.int r) [dkX a c ns' sd (tn + 1), .no]
def drawS : FSp := fun as Q0 => ∃ a c T n, as = [dkSlot a c T, .dat (.int n)] ∧ T < 2 ^ 60 ∧ 0 < n ∧ n < 2 ^ 64 ∧ ∀ r, 0 ≤ r → r < n → Q0 (.int r) [dkSlot a c (T + 1), .no]
theorem draw_weak {K : PySem.W.Frag} {vs : List V} {H : Hp} {Q : VK} {E : XK} (h : spOf K drawS vs H Q E) : spOf K drawX vs H Q E := by
  obtain ⟨as, Q0, A, ⟨a, c, T, n, rfl, hT, h0, h1, hq⟩, kk⟩ := h
  obtain ⟨o, eo, ex, ⟨ns, sd, tn, g0, g1, g2, g3⟩, st, th⟩ := A.ok 0 _ rfl
  have fpe : ∀ b, InFp [dkX a c ns sd tn, Slot.dat (.int n)] b ↔ InFp [dkSlot a c T, Slot.dat (.int n)] b := fun b => by
    constructor
    · rintro ⟨i, s, e, hs⟩
      cases i with
      | zero => cases Option.some.inj e; exact ⟨0, _, rfl, hs⟩
      | succ i =>
        cases i with
        | zero => cases Option.some.inj e; exact hs.elim
        | succ i => simp at e
    · rintro ⟨i, s, e, hs⟩
      cases i with
      | zero => cases Option.some.inj e; exact ⟨0, _, rfl, hs⟩
      | succ i =>
        cases i with
        | zero => cases Option.some.inj e; exact hs.elim
        | succ i => simp at e
  have fpe' : InFp [dkX a c ns sd tn, Slot.dat (.int n)] = InFp [dkSlot a c T, Slot.dat (.int n)] := funext fun b => propext (fpe b)
  refine ⟨[dkX a c ns sd tn, .dat (.int n)], fun d outs => ∃ r ns', d = .int r ∧ 0 ≤ r ∧ r < n ∧ ns'.length ≤ 63 ∧ outs = [dkX a c ns' sd (tn + 1), .no], ?_, ⟨a, c, ns, sd, tn, n, rfl, g0, g1, by omega, h0, h1, fun r ns' a1 a2 a3 => ⟨r, ns', rfl, a1, a2, a3, rfl⟩⟩, ?_⟩
  · refine ⟨A.len, fun i s e => ?_, ?_, A.kp, A.th, fun i s b e hb => ?_, fun i j s t b e1 e2 h1 h2 => ?_⟩
    · cases i with
      | zero =>
        cases Option.some.inj e
        exact ⟨o, eo, ex, g3, dkR_stab _ _ _ _ _, th⟩
      | succ i =>
        cases i with
        | zero => cases Option.some.inj e; exact A.ok 1 _ rfl
        | succ i => simp at e
    · intro b u e n
      exact e
    · exact .inr ⟨i, s, e, hb⟩
    · cases i with
      | zero =>
        cases j with
        | zero => rfl
        | succ j =>
          cases j with
          | zero => cases Option.some.inj e2; exact h2.elim
          | succ j => simp at e2
      | succ i =>
        cases i with
        | zero => cases Option.some.inj e1; exact h1.elim
        | succ i => simp at e1
  · rintro d outs v H' ⟨r, ns', rfl, a1, a2, a3, rfl⟩ ro
    refine kk _ _ v H' (hq r a1 a2) ?_
    obtain ⟨_, q1, q2, q3, q4⟩ := ro.ok 0 _ _ _ rfl
    refine ⟨ro.rep, ro.kp, ro.th, fun b u e nb => ro.fr b u e (by rw [fpe']; exact nb), fun i a' fp' R' e => ?_, fun i a' fp' R' e => ?_, fun i j s t b e1 e2 h1 h2 => ?_, rfl⟩
    · cases i with
      | zero => cases Option.some.inj e; exact ⟨_, _, rfl⟩
      | succ i =>
        cases i with
        | zero => cases Option.some.inj e
        | succ i => simp at e
    · cases i with
      | zero =>
        cases Option.some.inj e
        refine ⟨⟨_, _, rfl⟩, ⟨ns', sd, tn + 1, a3, by omega, by omega, q1⟩, dkR'_stab _ _ _, q3, fun b hb => ?_⟩
        rcases q4 b hb with w | w
        · exact .inl w
        · exact .inr ((fpe b).mp w)
      | succ i =>
        cases i with
        | zero => cases Option.some.inj e
        | succ i => simp at e
    · cases i with
      | zero =>
        cases j with
        | zero => rfl
        | succ j =>
          cases j with
          | zero => cases Option.some.inj e2; exact h2.elim
          | succ j => simp at e2
      | succ i =>
        cases i with
        | zero => cases Option.some.inj e1; exact h1.elim
        | succ i => simp at e1
theorem FnG.weak {P : Program} {w : World} {K : PySem.W.Frag} {mg : Str → Option Value} {base : Heap} {CX : CXT} {k : Nat} {f : Addr} {fd : FuncData} {ps : List Str} {sp sp' : Sp} (F : FnG P w K mg base CX k f fd ps sp) (h : ∀ vs H Q E, sp' vs H Q E → sp vs H Q E) : FnG P w K mg base CX k f fd ps sp' :=
  ⟨fun vs H Q E q => F.len vs H Q E (h _ _ _ _ q), fun A outer s H args us vs Q E a b c d e f => F.run A outer s H args us vs Q E a b c d e (h _ _ _ _ f)⟩
theorem FnG.draw {P : Program} {w : World} {K : PySem.W.Frag} {mg : Str → Option Value} {base : Heap} {CX : CXT} {k : Nat} {f : Addr} {fd : FuncData} {ps : List Str} (F : FnG P w K mg base CX k f fd ps (spOf K drawX)) : FnG P w K mg base CX k f fd ps (spOf K drawS) := F.weak fun _ _ _ _ => draw_weak
end DL

/-! DL: the deck is made. -/
namespace DL
open PySem PySem.Spec L2

/-- a deck made of a list of numbers -/
def deckSp (K : PySem.W.Frag) : Sp := fun vs H Q _ => ∃ (ns : List Int) (v : V), vs = [v] ∧ Rep K H (.list (ns.map .int)) v ∧ ∀ a c H', H a = none → H c = none → Same H H' → dkR' a c 0 H' → Q (.ref a) H'
abbrev DTX := (List Int → Int → Prop) → Rho → Prop
def liftX (K : PySem.W.Frag) (u : DTX) : TS := fun D σ H => ∃ B ρ P, Rel K B ρ σ H ∧ (∀ b, ¬ B.M b) ∧ u P ρ ∧ ∀ a c ns sd H', P ns sd → dkR a c ns sd 0 H' → B.H0 a = none → B.H0 c = none → Same B.H0 H' → D.rt (.ref a) H'
section
variable {X : Cx} {e a b : Expr} {te ta tb : DTE} {tn : DTN} {pos lpos : Pos} {st : Stmt} {rest : List Stmt} {t : DTS} {u : DTX}
def xSeq (t : DTS) (u : DTX) : DTX := fun P ρ => t { nx := u P, rt := fun _ _ => False } ρ
theorem x_cons (h1 : DP X st t) (h2 : PSs X rest (liftX X.K u)) : PSs X (st :: rest) (liftX X.K (xSeq t u)) := pss_imp (pss_cons h1 h2) fun D σ H ⟨B, ρ, P, R, m, q, k⟩ =>
  ⟨B, ρ, _, R, q, fun ρ' σ' H' q' R' kp => ⟨B, ρ', P, R', m, q', k⟩, fun d ρ' v σ' H' z => z.elim, fun ρ' σ' H' z => z.elim, fun ρ' σ' H' z => z.elim⟩
def xRet (tn : DTN) (te : DTE) : DTX := fun P ρ => tn ρ fun ds ρ1 => ∃ ns : List Int, ds = ns.map .int ∧ te ρ1 fun r ρ2 => ∃ sd, r = .dat (.int sd) ∧ P ns sd
theorem x_ret {k} {p0 : Pos} (h0 : DN X a tn) (h1 : DE X b te) (hs : starEach [a, b, .Constant (.int 0) k p0] X.env = (false, eval a X.env) :: starEach [b, .Constant (.int 0) k p0] X.env := by rfl) (hs2 : starEach [b, .Constant (.int 0) k p0] X.env = (false, eval b X.env) :: starEach [.Constant (.int 0) k p0] X.env := by rfl) (hs3 : starEach [.Constant (.int 0) k p0] X.env = (false, eval (.Constant (.int 0) k p0) X.env) :: starEach [] X.env := by rfl) :
    PSs X [.Return (some (.List [a, b, .Constant (.int 0) k p0] lpos)) pos] (liftX X.K (xRet tn te)) := by
  refine pss_one (ps_imp (ps_ret (pe_lst (pa_cons h0 (pa_cons h1 (pa_cons pe_int pa_nil hs3) hs2) hs))) fun D σ H ⟨B, ρ, P, R, m, q, kk⟩ => ?_)
  refine ⟨B, ρ, _, R, q, fun ds ρ1 p vs H1 q1 R1 hp ra hn f0 f1 s1 => ?_⟩
  obtain ⟨ns, rfl, q1⟩ := q1
  rw [ra.ints_of] at hp
  refine ⟨B, ρ1, _, R1, q1, fun r ρ2 v H2 q2 R2 k2 s2 => ?_⟩
  obtain ⟨sd, rfl, q2⟩ := q2
  have k2 := rint k2
  subst k2
  refine ⟨show (3 : Nat) ≤ sizeLine by decide, fun a0 na => ?_⟩
  obtain ⟨hp2, _⟩ := s2.fr p _ hp f1
  have ne : p ≠ a0 := fun z => by rw [z, na] at hp2; cases hp2
  refine kk a0 p ns sd _ q2 ⟨upd_same, by rw [upd_ne ne]; exact hp2⟩ (R2.h0 na (m a0)) ?_ fun b o eb => ?_
  · rcases f0 with f0 | f0
    · exact f0
    · exact (m p f0).elim
  · have := R2.frame b o eb (m b)
    rw [upd_ne (ne_of_none this na)]
    exact this
def xRetO (i : Nat) (te : DTE) : DTX := fun P ρ => ∃ p, ∃ ns : List Int, ρ[i]? = some (.own p (ns.map .int)) ∧ te ρ fun r ρ2 => ∃ sd, r = .dat (.int sd) ∧ ρ2 = ρ ∧ P ns sd
theorem x_retO {k} {i : Nat} {p0 : Pos} (h0 : PE X a (tVar i)) (h1 : DE X b te) (hs : starEach [a, b, .Constant (.int 0) k p0] X.env = (false, eval a X.env) :: starEach [b, .Constant (.int 0) k p0] X.env := by rfl) (hs2 : starEach [b, .Constant (.int 0) k p0] X.env = (false, eval b X.env) :: starEach [.Constant (.int 0) k p0] X.env := by rfl) (hs3 : starEach [.Constant (.int 0) k p0] X.env = (false, eval (.Constant (.int 0) k p0) X.env) :: starEach [] X.env := by rfl) :
    PSs X [.Return (some (.List [a, b, .Constant (.int 0) k p0] lpos)) pos] (liftX X.K (xRetO i te)) := by
  refine pss_one (ps_imp (ps_ret (pe_lst (pa_cons h0 (pa_cons h1 (pa_cons pe_int pa_nil hs3) hs2) hs))) fun D σ H ⟨B, ρ, P, R, m, q, kk⟩ => ?_)
  obtain ⟨p, ns, ei, q⟩ := q
  obtain ⟨es, vs, hv, ra⟩ := own_at R ei
  refine ⟨_, es, B, ρ, _, R, q, fun r ρ2 v H2 q2 R2 k2 s2 => ?_⟩
  obtain ⟨sd, rfl, rfl, q2⟩ := q2
  have k2 := rint k2
  subst k2
  refine ⟨show (3 : Nat) ≤ sizeLine by decide, fun a0 na => ?_⟩
  obtain ⟨_, vs2, hp2, ra2⟩ := own_at R2 ei
  rw [ra2.ints_of] at hp2
  have ne : p ≠ a0 := fun z => by rw [z, na] at hp2; cases hp2
  refine kk a0 p ns sd _ q2 ⟨upd_same, by rw [upd_ne ne]; exact hp2⟩ (R2.h0 na (m a0)) ?_ fun b o eb => ?_
  · rcases R2.fresh i _ p ei rfl with f0 | f0
    · exact f0
    · exact (m p f0).elim
  · have := R2.frame b o eb (m b)
    rw [upd_ne (ne_of_none this na)]
    exact this
end
/-- the def that makes the deck -/
theorem fun_deck {P : Program} {w : World} {K : PySem.W.Frag} {mg : Str → Option Value} {base : Heap} {x qual : Str} {st : Stmt} {f : Addr} {fd : FuncData} {N ps : List Str} {k : Nat} (F : Fun K x qual st f fd) (C : FnScope N ps (defScope st)) (hps : ps.length = 1)
    (hbody : ∀ (cdv : Value) (A : Around) (outer : List Env) (s : Shared) (H : Hp) (E : XK), Room k (A.deeper (PyProof.Rows.envOfC qual (defScope st) s.heap.objs.size f cdv)) → (A.deeper (PyProof.Rows.envOfC qual (defScope st) s.heap.objs.size f cdv)).guards = some [] →
      ∃ u, PSs (cxOf CX0 P w K mg base N qual (defScope st) f cdv A outer s H E).nox (defBody st) (liftX K u) ∧ ∀ (ns : List Int) (P : List Int → Int → Prop), (∀ ms sd, ms.length ≤ 63 → P ms sd) → u P (.dat (.list (ns.map .int)) :: List.replicate (N.length - 1) .no)) :
    FnG P w K mg base CX0 (k + 1) f fd ps (deckSp K) := by
  have lenV : ∀ vs H Q E, deckSp K vs H Q E → vs.length = ps.length := fun vs H Q E ⟨ns, v, e, _⟩ => by rw [e, hps]; rfl
  refine fun_okG F C lenV fun cdv A outer s H vs Q E hr hg h => ?_
  obtain ⟨t, ht, hs⟩ := hbody cdv A outer s H E hr hg
  refine ⟨_, PSs.nox ht, ?_⟩
  obtain ⟨ns, v, rfl, rp, q⟩ := h
  have R0 : Rel K ⟨H, fun _ => False⟩ [.dat (.list (ns.map .int))] [some v] H := by
    refine ⟨rfl, fun i s e => ?_, fun b o e _ => e, Kp.refl H, fun _ z => z, fun i s b e hb => ?_, fun i j s t b e1 e2 h1 h2 => ?_⟩
    · cases i with
      | zero =>
        have e := Option.some.inj e
        subst e
        exact ⟨_, rfl, _, rfl, rp⟩
      | succ i => simp at e
    · cases i with
      | zero =>
        have e := Option.some.inj e
        subst e
        exact hb.elim
      | succ i => simp at e
    · cases i with
      | zero =>
        have e1 := Option.some.inj e1
        subst e1
        exact h1.elim
      | succ i => simp at e1
  refine ⟨⟨H, fun _ => False⟩, _, fun ms _ => ms.length ≤ 63, Rel.extend R0 (N.length - 1), fun _ z => z, hs ns _ fun ms sd z => z, fun a c ms sd H' z d ha hc sm => ?_⟩
  exact q a c H' ha hc sm ⟨ms, sd, 0, z, by decide, by decide, d⟩
section
variable {X : Cx} {k : Nat} {f : Addr} {fd : FuncData} {ps : List Str} {x : Str} {p pos : Pos} {e : Expr} {es : List Expr}
/-- a call of a def, whatever it promises -/
theorem pe_callG {sp : Sp} {t : TA} (F : FnG X.prog X.w X.K X.mg X.base CX0 k f fd ps sp) (hr : Room k X.A) (hgd : X.A.guards = some []) (hg : Gl X x) (hm : X.mg x = some (.ref f)) (hk : PySem.W.keepIn X.K (.ref f) = true) (hb : Binds X.K fd ps [])
    (ha : PA X (e :: es) t) (hdb : (x == ("__debug__" : Str)) = false := by decide) (he : starEach (e :: es) X.env = (false, eval e X.env) :: starEach es X.env := by rfl) (hpl : (backTo pos (starEach es X.env)).any (·.1) = false := by rfl) :
    PE X (.Call (.Name x p) (e :: es) [] pos) (fun σ H Q => t σ H fun vs H1 => sp vs H1 Q E0) := by
  refine ⟨fun pins s σ H Q I q => ?_⟩
  refine wpAny_Call_Name_kw (ld_glob I hg hm ?_ hdb)
  refine PySem.W.callWith_K (h₀ := X.base) I.ok.mod.kin hk (thn (ha.run pos pins s σ H _ I q) fun us s1 ⟨vs, H1, I1, r, q⟩ => ⟨I1.kIn, ?_⟩) he hpl
  have hl : us.length = ps.length := by rw [← r.length]; exact F.len _ _ _ _ q
  have hb' := hb s1 us I1.kIn (by simpa using hl)
  rw [List.append_nil] at hb'
  refine wpAny_call (codeAny_mono (run_fnG F hr hgd pass0 I1 hb' r q) fun r s' hq => ?_)
  cases r with
  | error e => exact hq
  | ok fl => cases fl <;> first | exact hq | exact hq.elim
def dSetDk (i : Nat) (te : DTE) : DTS := fun E ρ => te ρ fun r ρ1 => ∃ ns : List Int, r = .dat (.list (ns.map .int)) ∧ ∀ a c, E.nx (ρ1.set i (dkSlot a c 0))
theorem Rel.setNew {K : PySem.W.Frag} {B : Bs} {ρ : Rho} {σ : L2.St} {H : Hp} {a : Addr} {fp : Addr → Prop} {P : Hp → Prop} (R : Rel K B ρ σ H) (i : Nat) (hP : P H) (st : Stab P fp) (hf : ∀ b, fp b → H b ≠ none ∧ (B.H0 b = none ∨ B.M b) ∧ ¬ InFp ρ b) :
    Rel K B (ρ.set i (.ext a fp P)) (σ.set i (some (.ref a))) H := by
  refine ⟨by rw [List.length_set, List.length_set, R.len], fun j s e => ?_, R.frame, R.kp, R.th, fun j s b e hb => ?_, fun j k s t b e1 e2 h1 h2 => ?_⟩
  · rcases get_set e with ⟨rfl, rfl⟩ | ⟨hj, e⟩
    · have hi : j < ρ.length := by
        have := (List.getElem?_eq_some_iff.mp e).1
        rwa [List.length_set] at this
      exact ⟨some (.ref a), by rw [List.getElem?_set_self (by rw [R.len]; exact hi)], rfl, hP, st, fun b hb => (hf b hb).1⟩
    · obtain ⟨o, e1, q⟩ := R.ok j s e
      exact ⟨o, by rw [List.getElem?_set_ne (Ne.symm hj)]; exact e1, q⟩
  · rcases get_set e with ⟨rfl, rfl⟩ | ⟨hj, e⟩
    · exact (hf b hb).2.1
    · exact R.fresh j s b e hb
  · rcases get_set e1 with ⟨rfl, rfl⟩ | ⟨hj, f1⟩
    · rcases get_set e2 with ⟨rfl, rfl⟩ | ⟨hk, f2⟩
      · rfl
      · exact ((hf b h1).2.2 ⟨k, t, f2, h2⟩).elim
    · rcases get_set e2 with ⟨rfl, rfl⟩ | ⟨hk, f2⟩
      · exact ((hf b h2).2.2 ⟨j, s, f1, h1⟩).elim
      · exact R.disj j k s t b f1 f2 h1 h2
theorem dp_setDk {i : Nat} {y : Str} {te : DTE} {pos' spos : Pos} (F : FnG X.prog X.w X.K X.mg X.base CX0 k f fd ps (deckSp X.K)) (hr : Room k X.A) (hgd : X.A.guards = some []) (hg : Gl X x) (hm : X.mg x = some (.ref f)) (hk : PySem.W.keepIn X.K (.ref f) = true) (hb : Binds X.K fd ps [])
    (he : DE X e te) (hN : X.N.Nodup) (hi : X.N[i]? = some y) (hx : Loc X.env.scope y) (hdb : (x == ("__debug__" : Str)) = false := by decide) (hst : starEach [e] X.env = (false, eval e X.env) :: starEach [] X.env := by rfl) (hpl : (backTo pos (starEach [] X.env)).any (·.1) = false := by rfl)
    (hs : swapsWith (.Call (.Name x p) [e] [] pos) (some (.Name y pos')) spos.line X.env = pure false := by rfl) (hf : X.fn y = true ∨ X.env.scope.names.lookup y = some .local := by first | exact .inl rfl | exact .inr rfl | assumption) :
    DP X (.Assign [.Name y pos'] (.Call (.Name x p) [e] [] pos) spos) (dSetDk i te) := ps_imp (ps_set hN hi hx (pe_callG F hr hgd hg hm hk hb (da_cons he da_nil hst) hdb hst hpl) hs hf) fun D σ H ⟨B, ρ, E, R, q, kk⟩ => by
  refine ⟨B, ρ, fun rs ρ1 => ∃ ns : List Int, rs = [.dat (.list (ns.map .int))] ∧ ∀ a c, E.nx (ρ1.set i (dkSlot a c 0)), R, ?_, fun rs ρ1 vs H1 q1 R1 k1 s1 => ?_⟩
  · refine cast ?_ q
    show te ρ _ = te ρ _
    congr 1
    funext r ρ1
    simp [dNil]
  · obtain ⟨ns, rfl, q1⟩ := q1
    obtain ⟨v, rfl, k2⟩ := k1.one
    refine ⟨ns, v, rfl, k2, fun a c H' ha hc sm d => ?_⟩
    obtain ⟨a0, a1⟩ := R1.new ha
    obtain ⟨c0, c1⟩ := R1.new hc
    refine kk.nx _ _ H' (q1 a c) ((R1.same sm).setNew i d (dkR'_stab _ _ _) fun b hb => ?_) (s1.kp.trans (Kp.same sm))
    obtain ⟨ms, sd, tn, _, _, _, dd⟩ := d
    refine ⟨dkR_th dd b hb, ?_⟩
    rcases hb with rfl | rfl
    · exact ⟨a0, a1⟩
    · exact ⟨c0, c1⟩
end
end DL

/-! DL: min and max of two texts, a tuple turned about, calls by keywords alone. -/
namespace DL
open PySem PySem.Spec L2

section
variable {prog : Program} {w : World} {A : Around} {E : Value → Shared → Prop} {s : Shared}
/-- a pair walked for its best -/
theorem pair_walk {op : CmpOp} {a b : Value} {bt : Nat → Nat → Bool} {Q : Value → Shared → Prop} (hh : A.handled = none) (hcmp : CmpOf prog w A.in1 op (fun i v => (#[a, b] : Array Value)[i]? = some v) bt)
    (h : ∀ h' tk, (∀ c o, s.heap.get? c = some o → h'.get? c = some o) → Q (if bt 1 0 = true then b else a) { s with heap := h', toks := tk }) :
    wpAny (model prog w) A.in1 (pyIter (.ref s.heap.objs.size)) (fun it s₂ => ∃ I fp wr n P St bt, it = .ref I ∧ Walks prog w A.in1 I fp wr n P St ∧ St 0 s₂.heap ∧ (∀ b ∈ fp, b < s₂.heap.objs.size) ∧ 0 < n ∧ CmpOf prog w A.in1 op P bt ∧
      ∀ v h' tk, P (argBest bt (n - 1)) v → (∀ b o, b ∉ wr → s₂.heap.get? b = some o → h'.get? b = some o) → Q v { s₂ with heap := h', toks := tk }) E
      { s with heap := s.heap.push { cls := .type "tuple", data := .seq #[a, b] } } := by
  have tup : (s.heap.push { cls := .type "tuple", data := .seq #[a, b] }).IsTuple s.heap.objs.size #[a, b] := ⟨_, Heap.get?_push_size _ rfl, rfl, 0, rfl⟩
  have sz : (s.heap.push { cls := .type "tuple", data := .seq #[a, b] }).objs.size = s.heap.objs.size + 1 := Heap.size_push ..
  refine wpAny_pyIter_tuple tup ⟨s.heap.objs.size + 1, [s.heap.objs.size + 1, s.heap.objs.size], [s.heap.objs.size + 1], 2, _, _, bt, by rw [← sz], Walks.tuple (A := A.in1) hh (s.heap.objs.size + 1) s.heap.objs.size (Nat.ne_of_lt (Nat.lt_succ_self _)) #[a, b],
    ⟨?_, tup.push _⟩, fun c hc => ?_, by decide, hcmp, fun v h' tk hv hk => ?_⟩
  · exact ⟨_, by rw [← sz]; exact Heap.get?_push_size _ rfl, rfl, rfl⟩
  · show c < ((s.heap.push _).push _).objs.size
    rw [Heap.size_push, sz]
    rcases List.mem_cons.mp hc with rfl | hc
    · exact Nat.lt_succ_self _
    · rw [List.mem_singleton.mp hc]
      exact Nat.lt_succ_of_lt (Nat.lt_succ_self _)
  · have keep : ∀ c o, s.heap.get? c = some o → h'.get? c = some o := fun c o e => by
      refine hk c o (fun hm => ?_) (Heap.get?_push_of_some _ (Heap.get?_push_of_some _ e))
      have lt := Heap.lt_size e
      rw [List.mem_singleton.mp hm] at lt
      exact Nat.lt_irrefl _ (Nat.lt_of_succ_lt lt)
    have fin := h h' tk keep
    have ev : v = if bt 1 0 = true then b else a := by
      have hv : (#[a, b] : Array Value)[argBest bt 1]? = some v := hv
      cases e : bt 1 0 with
      | true =>
        have e1 : argBest bt 1 = 1 := by simp [argBest, e]
        rw [e1] at hv
        simpa using hv.symm
      | false =>
        have e1 : argBest bt 1 = 0 := by simp [argBest, e]
        rw [e1] at hv
        simpa using hv.symm
    rw [ev]
    exact fin
theorem pair_at {x y : Str} {t u : Tok} {i : Nat} {v : Value} (h : (#[.str x t, .str y u] : Array Value)[i]? = some v) : ∃ k, v = .str (if i = 0 then x else y) k := by
  match i, h with
  | 0, h => exact ⟨t, (Option.some.inj h).symm⟩
  | 1, h => exact ⟨u, (Option.some.inj h).symm⟩
theorem min_strs {x y : Str} {t u : Tok} {Q : Value → Shared → Prop} (hh : A.handled = none)
    (h : ∀ h' tk, (∀ c o, s.heap.get? c = some o → h'.get? c = some o) → Q (if y.cps.toList < x.cps.toList then .str y u else .str x t) { s with heap := h', toks := tk }) :
    wpAny (model prog w) A (call (.builtin "min") [.str x t, .str y u]) Q E s := by
  refine call_min_two (pair_walk (bt := fun i j => decide ((if i = 0 then x else y).cps.toList < (if j = 0 then x else y).cps.toList)) hh (fun i j vi vj s Q E hi hj q => ?_) fun h' tk k => ?_)
  · obtain ⟨k1, rfl⟩ := pair_at hi
    obtain ⟨k2, rfl⟩ := pair_at hj
    exact PyProof.Rows.lt_str q
  · have := h h' tk k
    simpa using this
theorem max_strs {x y : Str} {t u : Tok} {Q : Value → Shared → Prop} (hh : A.handled = none)
    (h : ∀ h' tk, (∀ c o, s.heap.get? c = some o → h'.get? c = some o) → Q (if x.cps.toList < y.cps.toList then .str y u else .str x t) { s with heap := h', toks := tk }) :
    wpAny (model prog w) A (call (.builtin "max") [.str x t, .str y u]) Q E s := by
  refine call_max_two (pair_walk (bt := fun i j => decide ((if j = 0 then x else y).cps.toList < (if i = 0 then x else y).cps.toList)) hh (fun i j vi vj s Q E hi hj q => ?_) fun h' tk k => ?_)
  · obtain ⟨k1, rfl⟩ := pair_at hi
    obtain ⟨k2, rfl⟩ := pair_at hj
    exact PySem.P.gt_str q
  · have := h h' tk k
    simpa using this
end
section
variable {X : Cx}
def fMin2S : Fn := fun ρ rs C => match rs with
  | [.dat (.int i), .dat (.int j)] => C (.int (if j < i then j else i))
  | [.dat (.str i), .dat (.str j)] => C (.str (if j.cps.toList < i.cps.toList then j else i))
  | _ => False
def fMax2S : Fn := fun ρ rs C => match rs with
  | [.dat (.int i), .dat (.int j)] => C (.int (if j > i then j else i))
  | [.dat (.str i), .dat (.str j)] => C (.str (if i.cps.toList < j.cps.toList then j else i))
  | _ => False
theorem fr_min2S (hc : X.calm = true) : FnR X (.builtin "min") fMin2S := by
  intro pins s σ H vs us Q I rv ⟨σ', B, ρ, rs, C, R, k, q, c⟩
  unfold fMin2S at q
  split at q
  · exact fr_min2 hc pins s σ H vs us Q I rv ⟨σ', B, ρ, _, C, R, k, q, c⟩
  · rename_i i j
    obtain ⟨v, u, rfl, k1, k2⟩ := k.two
    have k1 := rstr k1
    have k2 := rstr k2
    subst k1 k2
    obtain ⟨a, b, rfl, ra, rb⟩ := rv.two
    obtain ⟨t, rfl⟩ := ra
    obtain ⟨t', rfl⟩ := rb
    refine min_strs (I.ok.hd hc) fun h' tk kk => ?_
    refine ⟨.str (if j.cps.toList < i.cps.toList then j else i), H, I.kept kk, ?_, c _ _ H q (same_refl H) (pstr _ _ _)⟩
    split
    · exact ⟨_, rfl⟩
    · exact ⟨_, rfl⟩
  · exact q.elim
theorem fr_max2S (hc : X.calm = true) : FnR X (.builtin "max") fMax2S := by
  intro pins s σ H vs us Q I rv ⟨σ', B, ρ, rs, C, R, k, q, c⟩
  unfold fMax2S at q
  split at q
  · exact fr_max2 hc pins s σ H vs us Q I rv ⟨σ', B, ρ, _, C, R, k, q, c⟩
  · rename_i i j
    obtain ⟨v, u, rfl, k1, k2⟩ := k.two
    have k1 := rstr k1
    have k2 := rstr k2
    subst k1 k2
    obtain ⟨a, b, rfl, ra, rb⟩ := rv.two
    obtain ⟨t, rfl⟩ := ra
    obtain ⟨t', rfl⟩ := rb
    refine max_strs (I.ok.hd hc) fun h' tk kk => ?_
    refine ⟨.str (if i.cps.toList < j.cps.toList then j else i), H, I.kept kk, ?_, c _ _ H q (same_refl H) (pstr _ _ _)⟩
    split
    · exact ⟨_, rfl⟩
    · exact ⟨_, rfl⟩
  · exact q.elim
end

/-! ### t[::-1], a tuple -/
section
variable {prog : Program} {w : World} {A : Around} {E : Value → Shared → Prop} {s : Shared}
theorem places_back (n : Nat) : Builtin.Slice.slicePlaces ((n : Int) - 1) (-1) (-1) = n := by
  unfold Builtin.Slice.slicePlaces
  rw [if_neg (by decide)]
  by_cases h : n = 0
  · subst h; rfl
  · rw [if_pos (by omega)]
    show (((n : Int) - 1 - -1 - 1) / 1 + 1).toNat = n
    rw [Int.ediv_one]
    omega
theorem pick_back (xs : Array Value) : ((List.range xs.size).filterMap fun (k : Nat) => xs[(((xs.size : Int) - 1) + (k : Int) * (-1)).toNat]?).toArray = xs.toList.reverse.toArray := by
  congr 1
  have e : ∀ k ∈ List.range xs.size, xs[(((xs.size : Int) - 1) + (k : Int) * (-1)).toNat]? = some (xs.toList.reverse.getD k .none) := fun k hk => by
    have hk := List.mem_range.mp hk
    have e1 : (((xs.size : Int) - 1) + (k : Int) * (-1)).toNat = xs.size - 1 - k := by omega
    rw [e1, List.getD_eq_getElem?_getD, List.getElem?_reverse (by simpa using hk), Array.length_toList]
    have h2 : xs.size - 1 - k < xs.size := by omega
    simp [h2]
  have e2 : (List.range xs.size).filterMap (fun (k : Nat) => xs[(((xs.size : Int) - 1) + (k : Int) * (-1)).toNat]?) = (List.range xs.size).filterMap (fun k => some (xs.toList.reverse.getD k .none)) := by
    have go : ∀ (l : List Nat) (f g : Nat → Option Value), (∀ k ∈ l, f k = g k) → l.filterMap f = l.filterMap g := by
      intro l
      induction l with
      | nil => intro f g _; rfl
      | cons a l ih =>
        intro f g h
        rw [List.filterMap_cons, List.filterMap_cons, h a List.mem_cons_self, ih f g fun k hk => h k (List.mem_cons_of_mem _ hk)]
    exact go _ _ _ e
  rw [e2]
  apply List.ext_getElem?
  intro i
  rw [List.filterMap_eq_map', List.getElem?_map]
  by_cases hi : i < xs.size
  · rw [List.getElem?_range hi]
    have hr : i < xs.toList.reverse.length := by simpa using hi
    rw [List.getElem?_eq_getElem hr, Option.map_some, List.getD_eq_getElem?_getD, List.getElem?_eq_getElem hr]
    rfl
  · rw [List.getElem?_eq_none (by simpa using hi), List.getElem?_eq_none (by simpa using hi)]
    rfl
theorem applied_back {sl : Addr} {vs : Value} {n : Nat} {Q : Int × Int × Nat → Shared → Prop} (hs : s.heap.IsSliceOf sl .none .none vs) (ps : PySem.IsPart vs (some (-1))) (h : Q ((n : Int) - 1, -1, n) s) : wpAny (model prog w) A (Builtin.Slice.sliceApplied (.ref sl) (pure (n : Int))) Q E s := by
  obtain ⟨os, hos, hcs, hds⟩ := id hs
  unfold Builtin.Slice.sliceApplied Builtin.Slice.sliceFields
  refine wpAny_bind (wpAny_bind (wpAny_field hos hds (x := .none) rfl (wpAny_bind (wpAny_field hos hds (x := .none) rfl (wpAny_bind (wpAny_field hos hds (x := vs) rfl (wpAny_pure ?_)))))))
  refine wpAny_bind (HT.slicePart_ ps ?_)
  show wpAny _ _ (if ((-1 : Int) == 0) = true then _ else _) _ _ s
  rw [if_neg (by decide)]
  refine wpAny_bind (HT.slicePart_ .none (wpAny_bind (HT.slicePart_ .none (wpAny_bind (wpAny_pure ?_)))))
  show wpAny _ _ (pure ((n : Int) - 1, (-1 : Int), Builtin.Slice.slicePlaces ((n : Int) - 1) (-1) (-1))) _ _ s
  rw [places_back]
  exact wpAny_pure h
theorem getItem_back {t sl : Addr} {items : Array Value} {vs : Value} {Q : Value → Shared → Prop} (ht : PyProof.Rows.IsTup s.heap t items) (hs : s.heap.IsSliceOf sl .none .none vs) (ps : PySem.IsPart vs (some (-1)))
    (h : Q (.ref s.heap.objs.size) { s with heap := s.heap.push { cls := .type "tuple", data := .seq items.toList.reverse.toArray } })
    (hsz : items.size ≤ sizeLine) : wpAny (model prog w) A (getItem (.ref t) (.ref sl)) Q E s := by
  have fits : sizeOk (.seq items.toList.reverse.toArray) := by
    show items.toList.reverse.toArray.size ≤ sizeLine
    simpa using hsz
  obtain ⟨os, hos, hcs, hds⟩ := id hs
  have hTs : s.TypeIs (.ref sl) "slice" := ⟨os, hos, hcs⟩
  unfold getItem
  try with_reducible refine wpAny_holding ?_
  first | refine wpAny_bind (wpAny_pure ?_) | skip
  refine wpAny_bind (wpAny_sequenceKey ht.typeIs (by decide) ?_)
  refine wpAny_bind (wpAny_callSpecial?_slot (name := Str.ofString "__getitem__") ht.typeIs PyProof.Rows.slot_tuple_getitem
    (wpAny_call_entry PyProof.Rows.slot_tuple_getitem ht.typeIs PyProof.Rows.entry_tuple_getitem ?_ (PyProof.Rows.args_tuple_getitem _ _)))
  show wpAny _ _ (Builtin.Tuple.tupleItemsOf (.ref t) >>= _) _ _ s
  refine wpAny_bind (PyProof.Rows.tupleItemsOf_ ht ?_)
  refine wpAny_bind (wpAny_typeOf hTs ?_)
  rw [if_pos (by decide)]
  refine wpAny_bind (applied_back hs ps ?_)
  show wpAny _ _ (if (((items.size : Int) - 1) == 0 && (-1 : Int) == 1 && items.size == items.size) = true then _ else _) _ _ s
  rw [if_neg (by simp), pick_back]
  first
    | exact wpAny_bind (m := Builtin.Tuple.tupleExact _) (wpAny_newObj_type (wpAny_pure ⟨_, rfl, wpAny_pure h⟩) fits)
    | exact wpAny_bind (m := Builtin.Tuple.tupleExact _) (wpAny_newObj_type (wpAny_bind (wpAny_pure (wpAny_pure ⟨_, rfl, wpAny_pure h⟩))) fits)
    | exact wpAny_bind (wpAny_bind (m := Builtin.Tuple.tupleExact _) (wpAny_newObj_type (wpAny_pure (wpAny_pure ⟨_, rfl, wpAny_pure h⟩)) fits))
    | exact wpAny_bind (wpAny_bind (m := Builtin.Tuple.tupleExact _) (wpAny_newObj_type (wpAny_pure ⟨_, rfl, wpAny_pure h⟩) fits))
end
section
variable {X : Cx} {e : Expr} {te : DTE} {k : Nat} {p1 p2 p3 pos : Pos}
def dRevT (te : DTE) : DTE := fun ρ Q => te ρ fun r ρ1 => ∃ ds, r = .dat (.tuple ds) ∧ Q (.dat (.tuple ds.reverse)) ρ1
theorem de_revT (he : DE X e te) : DE X (.Subscript e (.Slice none none (some (.UnaryOp .USub (.Constant (.int 1) k p1) p2)) p3) pos) (dRevT te) := by
  refine ⟨fun pins s σ H Q I h => ?_⟩
  obtain ⟨B, ρ, Q0, R, q, kk⟩ := h
  refine PyProof.Rows.Subscript_ (thn (he.run pins s σ H (fun x H1 => ∃ a xs, x = .ref a ∧ SqT X.K H1 a xs ∧ ∀ p, H1 p = none → Q (.ref p) (upd H1 p (.tup xs.reverse))) I ⟨B, ρ, _, R, q, fun r ρ1 v H1 q1 R1 k1 s1 => ?_⟩) fun v s1 ⟨x, H1, I1, r1, q1⟩ => ?_)
  · obtain ⟨ds, rfl, q1⟩ := q1
    have k1 : Rep X.K H1 (.tuple ds) v := k1
    rw [Rep] at k1
    obtain ⟨a, xs, rfl, h1, ra⟩ := k1
    refine ⟨a, xs, rfl, h1, fun p np => ?_⟩
    have sm : Same H1 (upd H1 p (.tup xs.reverse)) := same_new np
    refine kk _ ρ1 _ _ q1 (R1.same sm) ?_ (s1.trans (Stp.same sm))
    show Rep X.K _ (.tuple ds.reverse) (.ref p)
    rw [Rep]
    exact ⟨p, _, rfl, SqT.of upd_same, ra.reverse.mono (Kp.same sm) _ _⟩
  · obtain ⟨a, xs, rfl, hx, q⟩ := q1
    cases r1
    have hst : PO X (some (.UnaryOp .USub (.Constant (.int 1) k p1) p2)) (tPart (tUn (rU fun i => .int (-i)) (tC (.int 1)))) := po_some (pe_un un_neg pe_int)
    refine wpAny_Slice (thn (po_none.run pins s1 σ H1 (fun o H2 => o = none ∧ H2 = H1) I1 ⟨rfl, rfl⟩) fun vl s2 ⟨l, H2, I2, pl, el, e2⟩ => ?_)
    subst el e2
    refine thn (po_none.run pins s2 σ H2 (fun o H3 => o = none ∧ H3 = H2) I2 ⟨rfl, rfl⟩) fun vu s3 ⟨u, H3, I3, pu, eu, e3⟩ => ?_
    subst eu e3
    refine thn (hst.run pins s3 σ H3 (fun o H4 => o = some (-1) ∧ H4 = H3) I3 ⟨1, rfl, -1, rfl, rfl, rfl⟩) fun vs s4 ⟨o, H4, I4, ps, eo, e4⟩ => ?_
    subst eo e4
    have I5 : Inv X pins σ H4 { s4 with heap := s4.heap.push { cls := .type "slice", data := .fields #[vl, vu, vs] } } := I4.kept (t' := s4.toks) fun b ob q => Heap.get?_push_of_some _ q
    obtain ⟨its, r, ht, hz⟩ := I5.tuple hx
    have hlen := r.length
    cases pl
    cases pu
    show wpAny (model X.prog X.w) X.A (PyProof.Rows.subscriptTail e (.Slice none none (some (.UnaryOp .USub (.Constant (.int 1) k p1) p2)) p3) (.ref a) (.ref s4.heap.objs.size)) (EP X pins σ Q) X.xe { s4 with heap := s4.heap.push { cls := .type "slice", data := .fields #[.none, .none, vs] } }
    refine PyProof.Rows.tail_any (ops := [.ref a, .ref s4.heap.objs.size]) ht.typeIs (PyProof.Rows.slot_tuple_getitem.lookup) ?_ (by with_unfolding_all rfl)
    refine getItem_back ht (Heap.IsSliceOf.new _ _ _ vs) ps ?_ (by rw [List.size_toArray]; omega)
    refine ⟨.ref _, _, I5.laid (t' := s4.toks) (o := .tup xs.reverse) (fun b ob q => Heap.get?_push_of_some _ q) (Nat.le_refl _) ?_, rfl, q _ (I5.hok.fresh (Nat.le_refl _))⟩
    exact ⟨by rw [List.length_reverse]; exact hz, _, r.reverse, _, Heap.get?_push_size _ rfl, rfl, 0, rfl⟩
end
/-! ### calls by keywords alone -/
section
variable {X : Cx} {k : Nat} {f : Addr} {fd : FuncData} {ps : List Str} {S : FSp} {x : Str} {p pos : Pos} {tk : DTA}
theorem de_callK0 {ks : List Str} {g : List Value → List Value → List Value} {gV : List V → List V → List V} {gR : List Rv → List Rv → List Rv} {kws : List Keyword} (F : FnG X.prog X.w X.K X.mg X.base CX0 k f fd ps (spOf X.K S)) (hr : Room k X.A) (hgd : X.A.guards = some []) (hg : Gl X x) (hm : X.mg x = some (.ref f)) (hk : PySem.W.keepIn X.K (.ref f) = true) (hb : KBinds' X.K fd ps ks g gV gR)
    (hkw : DK X kws tk) (hall : (backToKw pos (keywordEach kws X.env)).all (·.1.isSome) = true := by rfl) (hks : (backToKw pos (keywordEach kws X.env)).filterMap (·.1) = ks := by rfl)
    (hdb : (x == ("__debug__" : Str)) = false := by decide)
    (hpl : ((backTo pos (starEach [] X.env)).any (·.1) || (backToKw pos (keywordEach kws X.env)).any (·.1.isNone)) = false := by rfl) :
    DE X (.Call (.Name x p) [] kws pos) (dCallK S gR dNil tk) := by
  refine ⟨fun pins s σ H Q I ⟨B, ρ, Q0, R, q, kk⟩ => ?_⟩
  refine wpAny_Call_Name_kw (ld_glob I hg hm ?_ hdb)
  have q : tk ρ fun zs ρ2 => (extIx ρ2 (gR [] zs)).Nodup ∧ S ((gR [] zs).map (argSlot ρ2)) fun d outs => Q0 (.dat d) (putBack ρ2 (gR [] zs) outs) := q
  refine PySem.W.callWith_KW0 (h₀ := X.base) I.ok.mod.kin hk hall (thn (hkw.run pos pins s σ H (fun zs H2 => spOf X.K S (gV [] zs) H2 Q E0) I ⟨B, ρ, _, R, q, fun zs ρ2 ws H2 q2 R2 k2 s2 => ?_⟩) fun ws s2 ⟨zs, H2, I2, rz, q2⟩ => ⟨I2.kIn, ?_⟩) hpl
  · obtain ⟨n, hS⟩ := q2
    exact call_sp R2 (hb.rep (show RvsOk X.K H2 σ [] [] from rfl) k2) n hS fun d ρ' v H' q' R' rp s' => kk _ ρ' v H' q' R' rp (s2.trans s')
  · rw [hks]
    have r2 := hb.rel .nil rz
    have hl : (g [] ws).length = ps.length := by rw [← r2.length]; exact F.len _ _ _ _ q2
    refine wpAny_call (codeAny_mono (run_fnG F hr hgd pass0 I2 (hb.to s2 [] ws I2.kIn hl) r2 q2) fun r s' hq => ?_)
    cases r with
    | error e => exact hq
    | ok fl => cases fl <;> first | exact hq | exact hq.elim
end
end DL

/-! DL: keywords by places. -/
namespace DL
open PySem PySem.Spec L2
/-- the values of a call in the parameters' order -/
def gp {α : Type} (n m : Nat) (ix : List Nat) (us ws : List α) : List α := if us.length = n ∧ ws.length = m then ix.filterMap ((us ++ ws)[·]?) else []
theorem vals_len {vs : List V} {us : List Value} (h : Vals vs us) : vs.length = us.length := h.length
theorem vals_pick {vs : List V} {us : List Value} (h : Vals vs us) : ∀ ix : List Nat, Vals (ix.filterMap (vs[·]?)) (ix.filterMap (us[·]?))
  | [] => .nil
  | i :: ix => by
    rw [List.filterMap_cons, List.filterMap_cons]
    cases e : vs[i]? with
    | none =>
      have hl : us[i]? = none := by
        rw [List.getElem?_eq_none_iff] at e ⊢
        rw [← h.length]
        exact e
      rw [hl]
      exact vals_pick h ix
    | some v =>
      obtain ⟨u, eu, r⟩ := Vals.get h e
      rw [eu]
      exact .cons r (vals_pick h ix)
theorem rvs_append {K : PySem.W.Frag} {H : Hp} {σ : L2.St} : ∀ {rs zs : List Rv} {vs us : List V}, RvsOk K H σ rs vs → RvsOk K H σ zs us → RvsOk K H σ (rs ++ zs) (vs ++ us)
  | [], zs, vs, us, h, h' => by
    have h : vs = [] := h
    subst h
    exact h'
  | r :: rs, zs, vs, us, h, h' => by
    obtain ⟨v, ws, rfl, h1, h2⟩ := h
    exact ⟨v, ws ++ us, rfl, h1, rvs_append h2 h'⟩
theorem rvs_pick {K : PySem.W.Frag} {H : Hp} {σ : L2.St} {rs : List Rv} {vs : List V} (h : RvsOk K H σ rs vs) : ∀ ix : List Nat, RvsOk K H σ (ix.filterMap (rs[·]?)) (ix.filterMap (vs[·]?))
  | [] => rfl
  | i :: ix => by
    rw [List.filterMap_cons, List.filterMap_cons]
    cases e : rs[i]? with
    | none =>
      have hl : vs[i]? = none := by
        rw [List.getElem?_eq_none_iff] at e ⊢
        rw [← rvs_len h]
        exact e
      rw [hl]
      exact rvs_pick h ix
    | some r =>
      obtain ⟨v, ev, k⟩ := rvs_get h e
      rw [ev]
      exact ⟨v, _, rfl, k, rvs_pick h ix⟩
theorem kb_of {K : PySem.W.Frag} {n m : Nat} {ix : List Nat} {ks ps : List Str} {x qual : Str} {st : Stmt} {f : Addr} {fd : FuncData} (F : Fun K x qual st f fd) (hp : ps.length ≠ 0)
    (h : ∀ (kV doc pm : Value) (an : Option Addr) (cdv ct : Value) (us ws : List Value), us.length = n → ws.length = m → bindArgs (PySem.W.fnOf x qual (defArgs st) (defBody st) (defScope st) .none kV doc pm an cdv ct) ⟨us, ks.zip ws⟩ = pure (ps.zip (ix.filterMap ((us ++ ws)[·]?)))) :
    KBinds' K fd ps ks (gp n m ix) (gp n m ix) (gp n m ix) := by
  obtain ⟨oc, od, kV, doc, pm, an, cdv, ct, osl, rfl, lk, hcd⟩ := F.ex
  refine ⟨fun s us ws _ hl => ?_, fun {vs us zs ws} h1 h2 => ?_, fun {H σ rs zs vs us} h1 h2 => ?_⟩
  · by_cases c : us.length = n ∧ ws.length = m
    · unfold gp at hl ⊢
      rw [if_pos c]
      exact .of_eq (h kV doc pm an cdv ct us ws c.1 c.2)
    · unfold gp at hl
      rw [if_neg c] at hl
      exact (hp hl.symm).elim
  · unfold gp
    by_cases c : us.length = n ∧ ws.length = m
    · rw [if_pos c, if_pos (by rw [h1.length, h2.length]; exact c)]
      exact vals_pick (h1.append h2) ix
    · rw [if_neg c, if_neg (by rw [h1.length, h2.length]; exact c)]
      exact .nil
  · unfold gp
    by_cases c : rs.length = n ∧ zs.length = m
    · rw [if_pos c, if_pos (by rw [← rvs_len h1, ← rvs_len h2]; exact c)]
      exact rvs_pick (rvs_append h1 h2) ix
    · rw [if_neg c, if_neg (by rw [← rvs_len h1, ← rvs_len h2]; exact c)]
      rfl
end DL

/-! DL: plain laws: comprehensions that change nothing; data that is small. -/
namespace DL
open PySem PySem.Spec L2

theorem wipeR_len (ρ : Rho) : ∀ vs : List Nat, (wipeR ρ vs).length = ρ.length
  | [] => rfl
  | v :: vs => by rw [wipeR, List.length_set, wipeR_len ρ vs]
theorem wipeR_get {ρ : Rho} {i : Nat} : ∀ {vs : List Nat}, i ∉ vs → (wipeR ρ vs)[i]? = ρ[i]?
  | [], _ => rfl
  | v :: vs, h => by
    rw [wipeR, List.getElem?_set_ne fun e => h (by rw [e]; exact List.mem_cons_self)]
    exact wipeR_get fun z => h (List.mem_cons_of_mem _ z)
theorem restore_len (ρ1 : Rho) : ∀ (vs : List Nat) (ρ2 : Rho), (restore ρ1 vs ρ2).length = ρ2.length
  | [], ρ2 => rfl
  | v :: vs, ρ2 => by rw [restore, List.length_set, restore_len ρ1 vs ρ2]
theorem restore_wipe {ρ : Rho} (vs : List Nat) : restore ρ vs (wipeR ρ vs) = ρ := by
  apply List.ext_getElem?
  intro i
  by_cases hi : i < ρ.length
  · have hl : i < (restore ρ vs (wipeR ρ vs)).length := by rw [restore_len, wipeR_len]; exact hi
    rcases restore_get (wipeR_len ρ vs) (List.getElem?_eq_getElem hl) with ⟨_, e, _⟩ | ⟨hn, e⟩
    · rw [List.getElem?_eq_getElem hl, e, List.getD_eq_getElem?_getD, List.getElem?_eq_getElem hi]
      rfl
    · rw [List.getElem?_eq_getElem hl, ← e, wipeR_get hn]
  · rw [List.getElem?_eq_none (by rw [restore_len, wipeR_len]; omega), List.getElem?_eq_none (by omega)]
/-- steps of a comprehension -/
theorem fm_step {ds : List PyData} {f : PyData → Option PyData} {i : Nat} {d e : PyData} (h : ds[i]? = some d) (hf : f d = some e) : (ds.take i).filterMap f ++ [e] = (ds.take (i + 1)).filterMap f := by
  rw [List.take_add_one, h, List.filterMap_append]
  simp [hf]
theorem fm_skip {ds : List PyData} {f : PyData → Option PyData} {i : Nat} {d : PyData} (h : ds[i]? = some d) (hf : f d = none) : (ds.take i).filterMap f = (ds.take (i + 1)).filterMap f := by
  rw [List.take_add_one, h, List.filterMap_append]
  simp [hf]
theorem fm_lt {ds : List PyData} {f : PyData → Option PyData} {i : Nat} {n : Nat} (h : ds.length ≤ n) (hi : i < ds.length) : ((ds.take i).filterMap f).length < n := by
  refine Nat.lt_of_le_of_lt (List.length_filterMap_le _ _) ?_
  rw [List.length_take]
  omega
theorem get_lt {ds : List PyData} {i : Nat} {d : PyData} (h : ds[i]? = some d) : i < ds.length := (List.getElem?_eq_some_iff.mp h).1

/-! ### data that is small -/
structure Sm (b e : Nat) (d : PyData) : Prop where
  lay : d.canLay0 = true
  shrt : d.intsShort 20 = true
  dep : d.depth ≤ e
  wt : d.weight ≤ b
section
variable {b e b' e' : Nat} {d : PyData}
theorem Sm.le (h : Sm b e d) (h1 : b ≤ b') (h2 : e ≤ e') : Sm b' e' d := ⟨h.lay, h.shrt, Nat.le_trans h.dep h2, Nat.le_trans h.wt h1⟩
theorem Sm.none : Sm b e .none := ⟨rfl, rfl, Nat.zero_le _, Nat.zero_le _⟩
theorem Sm.bool (x : Bool) : Sm b e (.bool x) := ⟨rfl, rfl, Nat.zero_le _, Nat.zero_le _⟩
theorem Sm.int {i : Int} (h1 : -(10 ^ 18) < i) (h2 : i < 10 ^ 18) (hb : 60 ≤ b) : Sm b e (.int i) := by
  have hn : i.natAbs < 10 ^ 18 := by omega
  refine ⟨rfl, ?_, Nat.zero_le _, Nat.le_trans ?_ hb⟩
  · show decide ((PyData.shown (.int i)).length ≤ 20) = true
    apply decide_eq_true
    have q := int_text_length_le10 (k := 18) (by decide) hn
    show (Str.ofString (toString i)).length ≤ 20
    rw [ofString_length]
    omega
  · show (if i == 0 then 0 else i.natAbs.log2 + 1) ≤ 60
    split
    · omega
    · have h0 : i.natAbs ≠ 0 := by
        intro z
        rename_i c
        exact c (by simp; omega)
      have : i.natAbs.log2 < 60 := (Nat.log2_lt h0).mpr (Nat.lt_of_lt_of_le hn (by decide))
      omega
def cpsOk (x : Str) : Bool := x.cps.all (· < 0x110000)
theorem Sm.str {x : Str} (h : cpsOk x = true) (hb : x.length ≤ b) : Sm b e (.str x) := ⟨by rw [PyData.canLay0]; exact h, rfl, Nat.zero_le _, hb⟩
theorem SmA {ds : List PyData} (h : ∀ d ∈ ds, Sm b e d) : PyData.canLayAll0 ds = true ∧ PyData.intsShortAll 20 ds = true ∧ PyData.depthAll ds ≤ e ∧ PyData.weightAll ds ≤ ds.length * (b + 1) := by
  induction ds with
  | nil => exact ⟨rfl, rfl, Nat.zero_le _, Nat.zero_le _⟩
  | cons d ds ih =>
    obtain ⟨h1, h2, h3, h4⟩ := ih fun d hd => h d (List.mem_cons_of_mem _ hd)
    have q := h d List.mem_cons_self
    refine ⟨by simp [PyData.canLayAll0, q.lay, h1], by simp [PyData.intsShortAll, q.shrt, h2], by simp only [PyData.depthAll]; have := q.dep; omega, ?_⟩
    simp only [PyData.weightAll, List.length_cons]
    have := q.wt
    rw [Nat.add_mul]
    omega
theorem Sm.tuple {ds : List PyData} (h : ∀ d ∈ ds, Sm b e d) : Sm (ds.length * (b + 1)) (e + 1) (.tuple ds) := by
  obtain ⟨h1, h2, h3, h4⟩ := SmA h
  exact ⟨by rw [PyData.canLay0]; exact h1, by rw [PyData.intsShort]; exact h2, by rw [PyData.depth]; omega, by rw [PyData.weight]; exact h4⟩
theorem Sm.list {ds : List PyData} (h : ∀ d ∈ ds, Sm b e d) : Sm (ds.length * (b + 1)) (e + 1) (.list ds) := by
  obtain ⟨h1, h2, h3, h4⟩ := SmA h
  exact ⟨by rw [PyData.canLay0]; exact h1, by rw [PyData.intsShort]; exact h2, by rw [PyData.depth]; omega, by rw [PyData.weight]; exact h4⟩
theorem Sm.cmp (h : Sm b e d) (he : e ≤ 60) : Cmpb d := ⟨PyData.hasDict_of_canLay d h.lay, by
  unfold SeqAt.shaped
  have := h.dep
  simp [h.lay]
  omega⟩
mutual
theorem showable_short : ∀ d : PyData, d.canLay0 = true → d.intsShort 20 = true → d.showable = true
  | .none, _, _ => rfl
  | .bool _, _, _ => rfl
  | .str _, _, _ => rfl
  | .int i, _, h => by
    have h : decide ((PyData.shown (.int i)).length ≤ 20) = true := h
    have h := of_decide_eq_true h
    show decide (i.natAbs.log2 < 1920) = true
    apply decide_eq_true
    have h : (Str.ofString (toString i)).length ≤ 20 := h
    rw [ofString_length] at h
    have hn : i.natAbs < 10 ^ 21 := by
      apply Nat.lt_of_not_le
      intro hge
      have q := PyProof.Rows.digits10_ge hge
      have e : (toString i).length = (toString i).toList.length := rfl
      have : (Nat.toDigits 10 i.natAbs).length ≤ (toString i).length := by
        cases i with
        | ofNat n => exact Nat.le_of_eq (by simp [toString, Int.repr, Nat.repr])
        | negSucc n =>
          simp [toString, Int.repr, Nat.repr]
      omega
    by_cases h0 : i.natAbs = 0
    · rw [h0]; decide
    · exact (Nat.log2_lt h0).mpr (Nat.lt_of_lt_of_le hn (Nat.le_trans (show 10 ^ 21 ≤ 2 ^ 70 by decide) (Nat.pow_le_pow_right (by decide) (by decide))))
  | .list xs, hc, h => by
    rw [PyData.canLay0] at hc
    rw [PyData.intsShort] at h
    rw [PyData.showable]
    exact showable_shortAll xs hc h
  | .tuple xs, hc, h => by
    rw [PyData.canLay0] at hc
    rw [PyData.intsShort] at h
    rw [PyData.showable]
    exact showable_shortAll xs hc h
  | .dict _, hc, _ => by rw [PyData.canLay0] at hc; cases hc
theorem showable_shortAll : ∀ ds : List PyData, PyData.canLayAll0 ds = true → PyData.intsShortAll 20 ds = true → PyData.showableAll ds = true
  | [], _, _ => rfl
  | d :: ds, hc, h => by
    rw [PyData.canLayAll0, Bool.and_eq_true] at hc
    rw [PyData.intsShortAll, Bool.and_eq_true] at h
    rw [PyData.showableAll, Bool.and_eq_true]
    exact ⟨showable_short d hc.1 h.1, showable_shortAll ds hc.2 h.2⟩
end
theorem Sm.show (h : Sm b e d) (hb : b ≤ 600000) (he : e ≤ 60) : Showb d := by
  refine ⟨PyData.hasDict_of_canLay d h.lay, showable_short d h.lay h.shrt, Nat.le_trans h.dep he, ?_⟩
  have q := PyData.shown_le 20 (by decide) d (PyData.leavesShort_of_canLay0 20 d h.lay h.shrt)
  have := h.wt
  show _ ≤ 16777216
  omega
end
end DL

/-! DL: plain laws: places, texts. -/
namespace DL
open PySem PySem.Spec L2

theorem nodup1 (i : Nat) : [i].Nodup := List.nodup_cons.mpr ⟨by simp, List.nodup_nil⟩
theorem nodup0 : ([] : List Nat).Nodup := List.nodup_nil
theorem atI_ok {α : Type} {xs : List α} {i : Int} (h0 : 0 ≤ i) (h1 : i < xs.length) : ∃ x, atI xs i = some x ∧ x ∈ xs := by
  have hi : i.toNat < xs.length := by omega
  have q : atI xs ((i.toNat : Nat) : Int) = some xs[i.toNat] := atI_nat (List.getElem?_eq_getElem hi)
  rw [show ((i.toNat : Nat) : Int) = i by omega] at q
  exact ⟨_, q, List.getElem_mem hi⟩
theorem atI_mem {α : Type} {xs : List α} {i : Int} {x : α} (h : atI xs i = some x) : x ∈ xs := by
  unfold atI at h
  cases e : ixN xs.length i with
  | none => rw [e] at h; cases h
  | some j => rw [e] at h; exact List.mem_of_getElem? h
theorem cps_of {x : Str} (h : ∀ c ∈ x.cps.toList, c < 0x110000) : cpsOk x = true := by
  unfold cpsOk
  rw [Array.all_eq_true_iff_forall_mem]
  intro c hc
  exact decide_eq_true (h c (Array.mem_toList_iff.mpr hc))
theorem cps_mem {x : Str} (h : cpsOk x = true) : ∀ c ∈ x.cps.toList, c < 0x110000 := fun c hc => by
  unfold cpsOk at h
  have := (Array.all_eq_true_iff_forall_mem.mp h) c (Array.mem_toList_iff.mp hc)
  simpa using this
theorem len_cps (x : Str) : x.length = x.cps.toList.length := by simp [Str.length]
theorem cps_app {x y : Str} (hx : cpsOk x = true) (hy : cpsOk y = true) : cpsOk (x ++ y) = true := by
  refine cps_of fun c hc => ?_
  have e : (x ++ y).cps.toList = x.cps.toList ++ y.cps.toList := by
    show (x.cps ++ y.cps).toList = _
    simp
  rw [e] at hc
  rcases List.mem_append.mp hc with hc | hc
  · exact cps_mem hx c hc
  · exact cps_mem hy c hc
theorem len_app (x y : Str) : (x ++ y).length = x.length + y.length := by
  show (x.cps ++ y.cps).size = _
  simp [Str.length]
theorem cps_cut {z : Str} {lo hi : Option Int} (h : cpsOk z = true) : cpsOk (cutS z lo hi) = true := by
  refine cps_of fun c hc => cps_mem h c ?_
  unfold cutS at hc
  exact List.mem_of_mem_drop (List.mem_of_mem_take (by simpa using hc))
theorem len_cut {z : Str} {lo hi : Option Int} : (cutS z lo hi).length ≤ z.length := by
  rw [len_cps, len_cps]
  unfold cutS
  simp only [List.length_take, List.length_drop]
  omega
theorem join_cps : ∀ ys : List Str, (Txt.join "" ys).cps.toList = (ys.map fun y => y.cps.toList).flatten := by
  intro ys
  have e : Txt.join "" ys = Str.join "" ys := TL.join_eq "" ys
  rw [e]
  have q := TL.tl_join "" ys
  have q2 : ∀ ps : List (List Nat), TL.joinL [] ps = ps.flatten := by
    intro ps
    induction ps with
    | nil => rfl
    | cons p r ih =>
      cases r with
      | nil => simp [TL.joinL]
      | cons p2 r => rw [TL.joinL, ih, List.nil_append, List.flatten_cons (l := p)]
  have e0 : TL.tl ("" : Str) = [] := rfl
  rw [e0, q2] at q
  exact q
theorem cps_join {ys : List Str} (h : ∀ y ∈ ys, cpsOk y = true) : cpsOk (Txt.join "" ys) = true := by
  refine cps_of fun c hc => ?_
  rw [join_cps] at hc
  obtain ⟨l, hl, hc⟩ := List.mem_flatten.mp hc
  obtain ⟨y, hy, rfl⟩ := List.mem_map.mp hl
  exact cps_mem (h y hy) c hc
theorem len_join {ys : List Str} : (Txt.join "" ys).length = (ys.map (·.length)).sum := by
  rw [len_cps, join_cps]
  induction ys with
  | nil => rfl
  | cons y r ih => simp only [List.map_cons, List.flatten_cons, List.length_append, List.sum_cons, ih, len_cps y]
theorem sum_ones {ys : List Str} (h : ∀ y ∈ ys, y.length = 1) : (ys.map (·.length)).sum = ys.length := by
  induction ys with
  | nil => rfl
  | cons y r ih =>
    rw [List.map_cons, List.sum_cons, h y List.mem_cons_self, ih fun y hy => h y (List.mem_cons_of_mem _ hy), List.length_cons]
    omega
theorem cutD_sub {ds : List PyData} {lo hi : Option Int} : ∀ d ∈ cutD ds lo hi, d ∈ ds := fun d h => by
  unfold cutD at h
  exact List.mem_of_mem_drop (List.mem_of_mem_take h)
theorem cutD_to {ds : List PyData} {n : Nat} : cutD ds none (some (n : Int)) = ds.take n := by
  unfold cutD
  rw [HT.sIx_none, HT.sIx_nat, List.drop_zero, Nat.sub_zero, List.take_eq_take_iff]
  omega
theorem cutD_from {ds : List PyData} {n : Nat} : cutD ds (some (n : Int)) none = ds.drop n := by
  unfold cutD
  rw [HT.sIx_none, HT.sIx_nat]
  by_cases h : n ≤ ds.length
  · rw [Nat.min_eq_left h]
    apply List.take_of_length_le
    rw [List.length_drop]
    omega
  · rw [Nat.min_eq_right (by omega), List.drop_length, List.take_nil, List.drop_of_length_le (by omega)]
end DL

/-! DL: zip(.., strict=True) over two tuples. -/
namespace DL
open PySem PySem.Spec L2

/-! ### the zip that minds lengths -/
abbrev Zs (h : Heap) (z p q : Addr) (f : Value) : Prop := h.get? z = some { cls := .type "zip", dict := none, data := .fields #[f, .bool false, .bool true, .ref p, .ref q], slots := #[] }
section
variable {prog : Program} {w : World} {A : Around} {E : Value → Shared → Prop} {s : Shared}
theorem end_item {it l : Addr} {i : Nat} {us : Array Value} {x : Value} {Q : Option Value → Shared → Prop} (hi : s.heap.IsTupleIter it l i) (hl : s.heap.IsTuple l us) (hx : us[i]? = some x)
    (h : ∀ h', h'.IsTupleIter it l (i + 1) → Heap.SameBut it s.heap h' → Q (some x) { s with heap := h' }) : wpAny (model prog w) A (Builtin.SmallTypes.nextOrEnd (.ref it)) Q E s := by
  unfold Builtin.SmallTypes.nextOrEnd
  exact wpAny_bind (wpAny_attempt (RZ.nextOf_tuple_item hi hl hx fun h' a b => wpAny_pure (h h' a b)))
theorem end_none {it l : Addr} {i : Nat} {us : Array Value} {Q : Option Value → Shared → Prop} (hh : A.handled = none) (hi : s.heap.IsTupleIter it l i) (hl : s.heap.IsTuple l us) (hx : us[i]? = none)
    (h : ∀ h', Heap.ExtBut it s.heap h' → Q none { s with heap := h' }) : wpAny (model prog w) A (Builtin.SmallTypes.nextOrEnd (.ref it)) Q E s := by
  unfold Builtin.SmallTypes.nextOrEnd
  refine wpAny_bind (wpAny_attempt (RZ.nextOf_tuple_end hh hi hl hx fun h' e a b => ?_))
  obtain ⟨o, ho, hc⟩ := b
  exact wpAny_bind (wpAny_isInstance (T := "StopIteration") (b := true) ⟨o, ho, hc⟩ isSubtype_stop (wpAny_pure (h h' a)))
theorem zs_item {z p q i1 i2 l1 l2 : Addr} {k1 k2 : Nat} {us ws : Array Value} {x y a b : Value} {Q : Value → Shared → Prop} (D : ZipApart z p q i1 i2 l1 l2)
    (hz : Zs s.heap z p q .none) (hp : IsPair s.heap p (.ref i1) (.ref i2)) (hq : IsPair s.heap q a b) (h1 : s.heap.IsTupleIter i1 l1 k1) (h2 : s.heap.IsTupleIter i2 l2 k2) (g1 : s.heap.IsTuple l1 us) (g2 : s.heap.IsTuple l2 ws) (hx : us[k1]? = some x) (hy : ws[k2]? = some y)
    (fin : ∀ h', Zs h' z p q (rawInt s.heap.objs.size) → IsPair h' q x y → h'.IsTupleIter i1 l1 (k1 + 1) → h'.IsTupleIter i2 l2 (k2 + 1) → IsPair h' s.heap.objs.size x y → h'.objs.size = s.heap.objs.size + 1 →
      (∀ c o, c ≠ z → c ≠ q → c ≠ i1 → c ≠ i2 → s.heap.get? c = some o → h'.get? c = some o) → Q (.ref s.heap.objs.size) { s with heap := h' }) :
    wpAny (model prog w) A (Builtin.«zip.__next__» ⟨[.ref z], []⟩) (fun r t => ∃ v, r = .done (.ret v) ∧ Q v t) E s := by
  show wpAny _ _ (field (.ref z) 2 >>= _) _ _ _
  refine wpAny_bind (wpAny_field hz rfl (x := .bool true) rfl ?_)
  show wpAny _ _ (field (.ref z) 3 >>= _) _ _ _
  refine wpAny_bind (wpAny_field hz rfl (x := .ref p) rfl ?_)
  refine wpAny_bind (wpAny_seqItems hp rfl ?_)
  show wpAny _ _ (Builtin.SmallTypes.ownedTupleIsFree (.ref z) >>= _) _ _ _
  refine wpAny_bind ?_
  unfold Builtin.SmallTypes.ownedTupleIsFree
  refine wpAny_bind (wpAny_field hz rfl (x := .none) rfl (wpAny_pure ?_))
  simp only [if_true]
  refine wpAny_bind (wpAny_rule ?_)
  refine wpAny_bind (wpAny_field hz rfl (x := .ref q) rfl ?_)
  refine wpAny_bind (wpAny_setField_rec hz (by simp) fun ha za sa => ?_)
  replace za : Zs ha z p q .ellipsis := za
  refine wpAny_bind ?_
  simp only [List.zipIdx_cons, List.zipIdx_nil, List.forIn_cons, List.forIn_nil]
  refine wpAny_bind (wpAny_bind (wpAny_onRaise ?_))
  show wpAny _ _ (Builtin.SmallTypes.nextOrEnd (.ref i1)) _ _ _
  refine end_item (h1.extBut sa.extBut D.i1z) (g1.extBut sa.extBut D.l1z) hx fun hb1 n1 sb => ?_
  have qb : IsPair hb1 q a b := sb.extBut _ _ D.TOi1 (sa.extBut _ _ D.TOz hq)
  refine wpAny_bind (wpAny_seqItems qb rfl ?_)
  refine wpAny_bind (wpAny_updateSeq_pair qb fun hc qc sc => ?_)
  replace qc : IsPair hc q x b := qc
  refine wpAny_bind (wpAny_letGo (wpAny_pure ?_))
  refine wpAny_bind (wpAny_bind (wpAny_onRaise ?_))
  show wpAny _ _ (Builtin.SmallTypes.nextOrEnd (.ref i2)) _ _ _
  refine end_item (((h2.extBut sa.extBut D.i2z).extBut sb.extBut D.i12.symm).extBut sc.extBut D.TOi2.symm) (((g2.extBut sa.extBut D.l2z).extBut sb.extBut D.l2i1).extBut sc.extBut D.l2TO) hy fun hd n2 sd => ?_
  have qd : IsPair hd q x b := sd.extBut _ _ D.TOi2 qc
  refine wpAny_bind (wpAny_seqItems qd rfl ?_)
  refine wpAny_bind (wpAny_updateSeq_pair qd fun he qe se => ?_)
  replace qe : IsPair he q x y := qe
  refine wpAny_bind (wpAny_letGo (wpAny_pure (wpAny_pure ?_)))
  refine wpAny_bind (wpAny_seqItems qe rfl ?_)
  refine wpAny_bind (wpAny_newTuple ?_)
  have sz : he.objs.size = s.heap.objs.size := by rw [se.1, sd.1, sc.1, sb.1, sa.1]
  have ze : Zs he z p q .ellipsis := se.extBut _ _ D.TOz.symm (sd.extBut _ _ D.i2z.symm (sc.extBut _ _ D.TOz.symm (sb.extBut _ _ D.i1z.symm za)))
  have ke : ∀ c o, c ≠ z → c ≠ q → c ≠ i1 → c ≠ i2 → s.heap.get? c = some o → he.get? c = some o := fun c o c1 c2 c3 c4 e =>
    se.extBut _ _ c2 (sd.extBut _ _ c4 (sc.extBut _ _ c2 (sb.extBut _ _ c3 (sa.extBut _ _ c1 e))))
  have m1 : he.IsTupleIter i1 l1 (k1 + 1) := ((n1.extBut sc.extBut D.TOi1.symm).extBut sd.extBut D.i12).extBut se.extBut D.TOi1.symm
  have m2 : he.IsTupleIter i2 l2 (k2 + 1) := n2.extBut se.extBut D.TOi2.symm
  have zlt : z < he.objs.size := Heap.lt_size ze
  show wpAny _ _ (Builtin.SmallTypes.ownedTupleHandOut (.ref z) (.ref he.objs.size) >>= _) _ _ _
  refine wpAny_bind ?_
  unfold Builtin.SmallTypes.ownedTupleHandOut
  have zf : Zs (he.push { cls := .type "tuple", data := .seq #[x, y] }) z p q .ellipsis := Heap.get?_push_of_some _ ze
  refine wpAny_bind (wpAny_setField_rec zf (by simp) fun hg zg sg => ?_)
  replace zg : Zs hg z p q (rawInt he.objs.size) := zg
  refine wpAny_setField_rec zg (by simp) fun hk zk sk => ?_
  replace zk : Zs hk z p q (rawInt he.objs.size) := zk
  have up : ∀ c o, c ≠ z → he.get? c = some o → hk.get? c = some o := fun c o c1 e => sk.extBut _ _ c1 (sg.extBut _ _ c1 (Heap.get?_push_of_some _ e))
  have tk : IsPair hk he.objs.size x y := sk.extBut _ _ (Nat.ne_of_gt zlt) (sg.extBut _ _ (Nat.ne_of_gt zlt) (Heap.get?_push_size _ rfl))
  have szk : hk.objs.size = he.objs.size + 1 := by rw [sk.1, sg.1, Heap.size_push]
  rw [sz] at zk tk szk
  refine wpAny_pure ⟨_, rfl, ?_⟩
  show Q (.ref he.objs.size) _
  rw [sz]
  exact fin hk zk (up _ _ D.TOz qe) (m1.at fun o e => up _ o D.i1z e) (m2.at fun o e => up _ o D.i2z e) tk szk fun c o c1 c2 c3 c4 e => up c o c1 (ke c o c1 c2 c3 c4 e)
theorem zs_end {z p q i1 i2 l1 l2 : Addr} {k1 k2 : Nat} {us ws : Array Value} {a b : Value} {Q : Fin → Shared → Prop} (hh : A.handled = none) (D : ZipApart z p q i1 i2 l1 l2)
    (hz : Zs s.heap z p q .none) (hp : IsPair s.heap p (.ref i1) (.ref i2)) (hq : IsPair s.heap q a b) (h1 : s.heap.IsTupleIter i1 l1 k1) (h2 : s.heap.IsTupleIter i2 l2 k2) (g1 : s.heap.IsTuple l1 us) (g2 : s.heap.IsTuple l2 ws) (hx : us[k1]? = none) (hy : ws[k2]? = none)
    (hE : ∀ h' e, (∀ c o, c ≠ z → c ≠ q → c ≠ i1 → c ≠ i2 → s.heap.get? c = some o → h'.get? c = some o) → (∃ o, h'.get? e = some o ∧ o.cls = .type "StopIteration") → E (.ref e) { s with heap := h' }) :
    wpAny (model prog w) A (Builtin.«zip.__next__» ⟨[.ref z], []⟩) Q E s := by
  show wpAny _ _ (field (.ref z) 2 >>= _) _ _ _
  refine wpAny_bind (wpAny_field hz rfl (x := .bool true) rfl ?_)
  show wpAny _ _ (field (.ref z) 3 >>= _) _ _ _
  refine wpAny_bind (wpAny_field hz rfl (x := .ref p) rfl ?_)
  refine wpAny_bind (wpAny_seqItems hp rfl ?_)
  show wpAny _ _ (Builtin.SmallTypes.ownedTupleIsFree (.ref z) >>= _) _ _ _
  refine wpAny_bind ?_
  unfold Builtin.SmallTypes.ownedTupleIsFree
  refine wpAny_bind (wpAny_field hz rfl (x := .none) rfl (wpAny_pure ?_))
  simp only [if_true]
  refine wpAny_bind (wpAny_rule ?_)
  refine wpAny_bind (wpAny_field hz rfl (x := .ref q) rfl ?_)
  refine wpAny_bind (wpAny_setField_rec hz (by simp) fun ha za sa => ?_)
  replace za : Zs ha z p q .ellipsis := za
  refine wpAny_bind ?_
  simp only [List.zipIdx_cons, List.zipIdx_nil, List.forIn_cons, List.forIn_nil]
  refine wpAny_bind (wpAny_bind (wpAny_onRaise ?_))
  show wpAny _ _ (Builtin.SmallTypes.nextOrEnd (.ref i1)) _ _ _
  refine end_none hh (h1.extBut sa.extBut D.i1z) (g1.extBut sa.extBut D.l1z) hx fun hb1 sb => ?_
  have zb : Zs hb1 z p q .ellipsis := sb _ _ D.i1z.symm za
  refine wpAny_bind (wpAny_setField_rec zb (by simp) fun hc zc sc => ?_)
  refine wpAny_bind ?_
  show wpAny _ _ ((forIn [((Value.ref i2), 1)] PUnit.unit _) >>= _) _ _ _
  simp only [List.forIn_cons, List.forIn_nil]
  refine wpAny_bind (wpAny_bind (wpAny_bind ?_))
  have j2 : hc.IsTupleIter i2 l2 k2 := ((h2.extBut sa.extBut D.i2z).extBut sb D.i12.symm).extBut sc.extBut D.i2z
  have t2 : hc.IsTuple l2 ws := ((g2.extBut sa.extBut D.l2z).extBut sb D.l2i1).extBut sc.extBut D.l2z
  refine end_none hh j2 t2 hy fun hd sd => ?_
  rw [if_neg (show ¬ ((none : Option Value).isSome = true) from Bool.false_ne_true)]
  refine wpAny_pure (wpAny_pure (wpAny_bind (wpAny_rule ?_)))
  unfold Builtin.SmallTypes.stopIteration
  refine wpAny_bind ?_
  simp only [newExc, newTuple]
  refine wpAny_bind (wpAny_newObj_type ?_ (by size_fits))
  refine wpAny_bind (m := firstArgMember _ _) (wpAny_of_eq (a := Value.none) (by first | rfl | (simp only [firstArgMember]; rfl)) ?_)
  refine wpAny_newObj_type ?_ (by size_fits)
  simp only [raiseNew]
  refine wpAny_bind (wpAny_handled ?_)
  rw [hh]
  refine wpAny_bind (wpAny_pure (wpAny_throw ?_))
  exact hE _ _ (fun c o c1 c2 c3 c4 e => Heap.get?_push_of_some _ (Heap.get?_push_of_some _ (sd _ _ c4 (sc.extBut _ _ c1 (sb _ _ c3 (sa.extBut _ _ c1 e)))))) ⟨_, Heap.get?_push_size _ rfl, rfl⟩
theorem next_zs_item {z p q i1 i2 l1 l2 : Addr} {k1 k2 : Nat} {us ws : Array Value} {x y a b : Value} {Q : Option Value → Shared → Prop} (D : ZipApart z p q i1 i2 l1 l2)
    (hz : Zs s.heap z p q .none) (hp : IsPair s.heap p (.ref i1) (.ref i2)) (hq : IsPair s.heap q a b) (h1 : s.heap.IsTupleIter i1 l1 k1) (h2 : s.heap.IsTupleIter i2 l2 k2) (g1 : s.heap.IsTuple l1 us) (g2 : s.heap.IsTuple l2 ws) (hx : us[k1]? = some x) (hy : ws[k2]? = some y)
    (fin : ∀ h', Zs h' z p q (rawInt s.heap.objs.size) → IsPair h' q x y → h'.IsTupleIter i1 l1 (k1 + 1) → h'.IsTupleIter i2 l2 (k2 + 1) → IsPair h' s.heap.objs.size x y → h'.objs.size = s.heap.objs.size + 1 →
      (∀ c o, c ≠ z → c ≠ q → c ≠ i1 → c ≠ i2 → s.heap.get? c = some o → h'.get? c = some o) → Q (some (.ref s.heap.objs.size)) { s with heap := h' }) : wpAny (model prog w) A (pyNext (.ref z)) Q E s := by
  have ty : s.TypeIs (.ref z) "zip" := ⟨_, hz, rfl⟩
  unfold pyNext
  exact wpAny_bind (wpAny_attempt (wpAny_callSpecial?_slot (name := Str.ofString "__next__") ty F.slot_zip_next (wpAny_call_entry F.slot_zip_next ty F.entry_zip_next
    (zs_item D hz hp hq h1 h2 g1 g2 hx hy fun h' a1 a2 a3 a4 a5 a6 a7 => wpAny_pure (fin h' a1 a2 a3 a4 a5 a6 a7)) (F.args_zip_next_1 _))))
theorem next_zs_end {z p q i1 i2 l1 l2 : Addr} {k1 k2 : Nat} {us ws : Array Value} {a b : Value} {Q : Option Value → Shared → Prop} (hh : A.handled = none) (D : ZipApart z p q i1 i2 l1 l2)
    (hz : Zs s.heap z p q .none) (hp : IsPair s.heap p (.ref i1) (.ref i2)) (hq : IsPair s.heap q a b) (h1 : s.heap.IsTupleIter i1 l1 k1) (h2 : s.heap.IsTupleIter i2 l2 k2) (g1 : s.heap.IsTuple l1 us) (g2 : s.heap.IsTuple l2 ws) (hx : us[k1]? = none) (hy : ws[k2]? = none)
    (fin : ∀ h', (∀ c o, c ≠ z → c ≠ q → c ≠ i1 → c ≠ i2 → s.heap.get? c = some o → h'.get? c = some o) → Q none { s with heap := h' }) : wpAny (model prog w) A (pyNext (.ref z)) Q E s := by
  have ty : s.TypeIs (.ref z) "zip" := ⟨_, hz, rfl⟩
  unfold pyNext
  refine wpAny_bind (wpAny_attempt (wpAny_callSpecial?_slot (name := Str.ofString "__next__") ty F.slot_zip_next (wpAny_call_entry F.slot_zip_next ty F.entry_zip_next
    (zs_end hh D hz hp hq h1 h2 g1 g2 hx hy fun h' e k he => ?_) (F.args_zip_next_1 _))))
  obtain ⟨o, ho, hc⟩ := he
  exact wpAny_bind (wpAny_isInstance (T := "StopIteration") (b := true) ⟨o, ho, hc⟩ isSubtype_stop (wpAny_pure (fin h' k)))
end
/-! ### it is made -/
theorem tc_zip (a b c : Value) : checkTypeCall "zip" ⟨[a, b], [(Str.ofString "strict", c)]⟩ = pure () := by kernel_rfl
theorem nc_zip (a b c : Value) : checkBuiltinCall "zip.__new__" ⟨[.type "zip", a, b], [(Str.ofString "strict", c)]⟩ = pure () := by kernel_rfl
theorem ao_zip (obj a b c : Value) : argsOk "object.__init__" ⟨[obj, a, b], [(Str.ofString "strict", c)]⟩ := by unfold argsOk; kernel_rfl
abbrev zsH (h : Heap) (l1 l2 : Addr) : Heap := (RZ.zipTH4 h l1 l2).push { cls := .type "zip", data := .fields #[.none, .bool false, .bool true, .ref (RZ.zipTH2 h l1 l2).objs.size, .ref (RZ.zipTH3 h l1 l2).objs.size] }
theorem meets_zs (l1 l2 : Addr) (us ws : Array Value) : Meets (Builtin.«zip.__new__» ⟨[.type "zip", .ref l1, .ref l2], [(Str.ofString "strict", .bool true)]⟩) (fun _ R s => s.heap.IsTuple l1 us ∧ s.heap.IsTuple l2 ws ∧
    R (.ok (.ret (.ref (RZ.zipTH4 s.heap l1 l2).objs.size))) { s with heap := zsH s.heap l1 l2 }) :=
  .of_wp fun prog w A R s h => by
    obtain ⟨hp, g, d, tk, os⟩ := s; obtain ⟨hl1, hl2, h⟩ := h
    have hsub := sub_zip
    have e2 : (Str.ofString "strict" != ("strict" : Str)) = false := by decide +kernel
    have hL1 : Heap.IsTuple (Shared.heap ⟨hp, g, d, tk, os⟩) l1 us := hl1
    have hL2 : Heap.IsTuple (Shared.heap ⟨hp.push { cls := .type "tuple_iterator", data := .fields #[.ref l1, .int 0 0] }, g, d, tk, os⟩) l2 ws := Heap.IsTuple.push hl2 _
    wp_walk using wpAny_pyIter_tuple hL1, wpAny_pyIter_tuple hL2
    exact ⟨_, rfl, h⟩
end DL

/-! DL: zip and enumerate as what is walked. -/
namespace DL
open PySem PySem.Spec L2

section
variable {prog : Program} {w : World} {A : Around} {E : Value → Shared → Prop} {s : Shared}
theorem call_zs {l1 l2 : Addr} {us ws : Array Value} {Q : Value → Shared → Prop} (g1 : s.heap.IsTuple l1 us) (g2 : s.heap.IsTuple l2 ws)
    (h : ∀ h', Zs h' (s.heap.objs.size + 4) (s.heap.objs.size + 2) (s.heap.objs.size + 3) .none → IsPair h' (s.heap.objs.size + 2) (.ref s.heap.objs.size) (.ref (s.heap.objs.size + 1)) →
      IsPair h' (s.heap.objs.size + 3) .none .none → h'.IsTupleIter s.heap.objs.size l1 0 → h'.IsTupleIter (s.heap.objs.size + 1) l2 0 →
      (∀ c o, s.heap.get? c = some o → h'.get? c = some o) → Q (.ref (s.heap.objs.size + 4)) { s with heap := h' }) :
    wpAny (model prog w) A (call (.type "zip") [.ref l1, .ref l2] [(Str.ofString "strict", .bool true)]) Q E s := by
  refine callType_newKw F.called_zip (by decide) (tc_zip _ _ _) (nc_zip _ _ _) (fun obj => ao_zip obj _ _ _) F.entry_zip_new (meets_zs l1 l2 us ws) ⟨g1, g2, ?_⟩
  have y1 : (RZ.zipTH1 s.heap l1).objs.size = s.heap.objs.size + 1 := Heap.size_push ..
  have y2 : (RZ.zipTH2 s.heap l1 l2).objs.size = s.heap.objs.size + 2 := by rw [Heap.size_push, y1]
  have y3 : (RZ.zipTH3 s.heap l1 l2).objs.size = s.heap.objs.size + 3 := by rw [Heap.size_push, y2]
  have y4 : (RZ.zipTH4 s.heap l1 l2).objs.size = s.heap.objs.size + 4 := by rw [Heap.size_push, y3]
  have p5 : (zsH s.heap l1 l2).get? (RZ.zipTH4 s.heap l1 l2).objs.size = some _ := Heap.get?_push_size _ rfl
  have p4 : (zsH s.heap l1 l2).get? (RZ.zipTH3 s.heap l1 l2).objs.size = some _ := Heap.get?_push_of_some _ (Heap.get?_push_size _ rfl)
  have p3 : (zsH s.heap l1 l2).get? (RZ.zipTH2 s.heap l1 l2).objs.size = some _ := Heap.get?_push_of_some _ (Heap.get?_push_of_some _ (Heap.get?_push_size _ rfl))
  have p2 : (zsH s.heap l1 l2).get? (RZ.zipTH1 s.heap l1).objs.size = some _ := Heap.get?_push_of_some _ (Heap.get?_push_of_some _ (Heap.get?_push_of_some _ (Heap.get?_push_size _ rfl)))
  have p1 : (zsH s.heap l1 l2).get? s.heap.objs.size = some _ := Heap.get?_push_of_some _ (Heap.get?_push_of_some _ (Heap.get?_push_of_some _ (Heap.get?_push_of_some _ (Heap.get?_push_size _ rfl))))
  show _ ∧ _
  rw [y2, y3, y4] at p5
  rw [y1, y2] at p3
  rw [y3] at p4
  rw [y1] at p2
  rw [y4]
  exact ⟨⟨_, p5, rfl⟩, h _ p5 p3 p4 ⟨_, p1, rfl, rfl⟩ ⟨_, p2, rfl, rfl⟩ fun c o x => Heap.get?_push_of_some _ (Heap.get?_push_of_some _ (Heap.get?_push_of_some _ (Heap.get?_push_of_some _ (Heap.get?_push_of_some _ x))))⟩
theorem go_zs {z p q T : Addr} {elts : List Expr} {kk : Nat} {tpos : Pos} {Q : Unit → Shared → Prop} (hz : Zs s.heap z p q (rawInt T)) (h : ∀ h', Zs h' z p q .none → Heap.SameBut z s.heap h' → Q () { s with heap := h' }) :
    wpAny (model prog w) A (letOwnedTupleGo (.Tuple elts kk tpos) (.ref z) (.ref T)) Q E s := by
  unfold letOwnedTupleGo
  refine wpAny_bind (wpAny_load hz ?_)
  have e : (["enumerate", "zip", "dict_itemiterator", "dict_reverseitemiterator", "odict_iterator", "itertools.zip_longest", "itertools.pairwise"].contains "zip" && (#[rawInt T, Value.bool false, .bool true, .ref p, .ref q] : Array Value)[0]? == some (rawInt T)) = true := by simp
  show wpAny _ _ (if (["enumerate", "zip", "dict_itemiterator", "dict_reverseitemiterator", "odict_iterator", "itertools.zip_longest", "itertools.pairwise"].contains "zip" && (#[rawInt T, Value.bool false, .bool true, .ref p, .ref q] : Array Value)[0]? == some (rawInt T)) = true then _ else _) _ _ _
  rw [if_pos e]
  exact wpAny_setField_rec hz (by simp) fun h' a b => h h' a b
theorem with_type_kw {env : Env} {pos : Pos} {T : String} {e : Expr} {rest : List Expr} {kws : List Keyword} {Q : Value → Shared → Prop}
    (h : wpAny (model prog w) A (spliced (backTo pos (starEach (e :: rest) env))) (fun vs s₁ => wpAny (model prog w) A (evalAll ((backToKw pos (keywordEach kws env)).map (·.2)))
      (fun kvs s₂ => wpAny (model prog w) A (call (.type T) vs (((backToKw pos (keywordEach kws env)).filterMap (·.1)).zip kvs)) Q E s₂) E s₁) E s)
    (he : backTo pos (starEach (e :: rest) env) = (false, eval e env) :: backTo pos (starEach rest env) := by rfl) (hplain : (backTo pos (starEach (e :: rest) env)).any (·.1) = false := by rfl)
    (hall : (backToKw pos (keywordEach kws env)).all (·.1.isSome) = true := by rfl) (hkw : (backToKw pos (keywordEach kws env)).any (·.1.isNone) = false := by rfl) :
    wpAny (model prog w) A (callWith pos (.type T) [] (backTo pos (starEach (e :: rest) env)) (backToKw pos (keywordEach kws env))) Q E s := by
  unfold callWith
  rw [he] at h
  have q : wpAny (model prog w) A (evalArgs (.type T) true (backTo pos (starEach (e :: rest) env)) (backToKw pos (keywordEach kws env))) (fun a s₁ => wpAny (model prog w) A (call (.type T) ([] ++ a.pos) a.kw) Q E s₁) E s := by
    rw [he]
    exact PyProof.Rows.evalArgs_kwB hall h
  refine wpAny_bind (wpAny_holding (wpAny_mono q (fun a s₁ h₁ => wpAny_bind (wpAny_standAt ?_)) fun _ _ x => x))
  simp only [hplain, hkw, Bool.or_false]
  refine wpAny_bind (wpAny_pure ?_)
  exact wpAny_bind (wpAny_mono h₁ (fun r s₂ hr => wpAny_bind (wpAny_holding (wpAny_point (wpAny_pure hr)))) fun _ _ x => x)
end
/-! ### the turns of the zip that minds lengths -/
def ItS (K : PySem.W.Frag) (a b : Addr) : It :=
  ⟨(RZ.ItzT K a b).go, (RZ.ItzT K a b).yld, fun i H => ∃ xs ys : List V, SqT K H a xs ∧ SqT K H b ys ∧ xs.length ≤ i ∧ ys.length ≤ i⟩
theorem turn_zs {P : Program} {w : World} {K : PySem.W.Frag} {elts : List Expr} {kk : Nat} {tpos : Pos} {a b z p q i1 i2 : Addr} (D : ZipApart z p q i1 i2 a b) :
    Turn P w K (.Tuple elts kk tpos) (ItS K a b) [z, p, q, i1, i2] z (fun i h => Zs h z p q .none ∧ IsPair h p (.ref i1) (.ref i2) ∧ (∃ x y, IsPair h q x y) ∧ h.IsTupleIter i1 a i ∧ h.IsTupleIter i2 b i) where
  mem := by simp
  obj := fun i h st c hc => by
    obtain ⟨hz, hp, ⟨x, y, hq⟩, ⟨o1, e1, _, d1⟩, ⟨o2, e2, _, d2⟩⟩ := st
    have e' : c = z ∨ c = p ∨ c = q ∨ c = i1 ∨ c = i2 := by simpa using hc
    rcases e' with r | r | r | r | r
    · rw [r]; exact ⟨_, hz, fun v t => nomatch t⟩
    · rw [r]; exact ⟨_, hp, fun v t => nomatch t⟩
    · rw [r]; exact ⟨_, hq, fun v t => nomatch t⟩
    · rw [r]; exact ⟨o1, e1, fun v t => by rw [d1] at t; cases t⟩
    · rw [r]; exact ⟨o2, e2, fun v t => by rw [d2] at t; cases t⟩
  keep := fun i h h' st k => by
    obtain ⟨hz, hp, ⟨x, y, hq⟩, h1, h2⟩ := st
    exact ⟨k z (by simp) _ hz, k p (by simp) _ hp, ⟨x, y, k q (by simp) _ hq⟩, h1.at fun o e => k i1 (by simp) o e, h2.at fun o e => k i2 (by simp) o e⟩
  item := by
    intro X hP hw hK hc i pins s σ H E I hf st hg
    subst hP hw hK
    obtain ⟨hz, hp, ⟨x0, y0, hq⟩, h1, h2⟩ := st
    obtain ⟨xs, ys, x, y, qx, qy, hx, hy⟩ := hg
    obtain ⟨its, rv, t1, _⟩ := I.tuple qx
    obtain ⟨its2, rv2, t2, _⟩ := I.tuple qy
    obtain ⟨u, hu, ru⟩ := rv.get hx
    obtain ⟨u2, hu2, ru2⟩ := rv2.get hy
    have zlt : z < s.heap.objs.size := Heap.lt_size hz
    refine next_zs_item D hz hp hq h1 h2 t1 t2 (x := u) (y := u2) (by simpa using hu) (by simpa using hu2) fun h' z' q' h1' h2' hT hsz hk => ?_
    refine ⟨_, rfl, go_zs (s := { s with heap := h' }) z' fun h'' z'' sb => ?_⟩
    have hT2 : h''.get? s.heap.objs.size = some { cls := .type "tuple", data := .seq #[u, u2] } := (sb.2 _ (Nat.ne_of_gt zlt)).trans hT
    have new : ObjOk X.prog X.w (upd H s.heap.objs.size (.tup [x, y])) h'' s.heap.objs.size (.tup [x, y]) :=
      ⟨by show 2 ≤ sizeLine; decide, [u, u2], .cons ru (.cons ru2 .nil), ⟨_, hT2, rfl, _, rfl⟩⟩
    have I1 : Inv X pins σ (upd H s.heap.objs.size (.tup [x, y])) { s with heap := h'' } :=
      I.turnedNew (t' := s.toks) (ch := [z, p, q, i1, i2]) (fun c o hb r => (sb.2 c (fun e => hb (by simp [e]))).trans (hk c o (fun e => hb (by simp [e])) (fun e => hb (by simp [e])) (fun e => hb (by simp [e])) (fun e => hb (by simp [e])) r)) hf (Nat.le_refl _) new
    refine ⟨.ref s.heap.objs.size, _, I1, rfl, ⟨_, x, y, rfl, I.hok.fresh (Nat.le_refl _), rfl, fun l hl => by rw [I.tuple_inj hl qx]; exact hx, fun l hl => by rw [I.tuple_inj hl qy]; exact hy⟩, ⟨z'', ?_, ⟨u, u2, ?_⟩, ?_, ?_⟩, fun c hcm => ?_⟩
    · exact (sb.2 _ D.TIz).trans (hk _ _ D.TIz D.TITO D.TIi1 D.TIi2 hp)
    · exact (sb.2 _ D.TOz).trans q'
    · exact h1'.at fun o e => (sb.2 _ D.i1z).trans e
    · exact h2'.at fun o e => (sb.2 _ D.i2z).trans e
    · have hlt : c < s.heap.objs.size := by
        have e' : c = z ∨ c = p ∨ c = q ∨ c = i1 ∨ c = i2 := by simpa using hcm
        rcases e' with r | r | r | r | r
        · rw [r]; exact zlt
        · rw [r]; exact Heap.lt_size hp
        · rw [r]; exact Heap.lt_size hq
        · rw [r]; obtain ⟨_, e1, _⟩ := h1; exact Heap.lt_size e1
        · rw [r]; obtain ⟨_, e2, _⟩ := h2; exact Heap.lt_size e2
      rw [upd_ne (Nat.ne_of_lt hlt)]
      exact (hf c hcm).1
  done := by
    intro X hP hw hK hc i pins s σ H E I hf st hg
    subst hP hw hK
    obtain ⟨hz, hp, ⟨x0, y0, hq⟩, h1, h2⟩ := st
    obtain ⟨xs, ys, qx, qy, e1, e2⟩ := hg
    obtain ⟨its, rv, t1, _⟩ := I.tuple qx
    obtain ⟨its2, rv2, t2, _⟩ := I.tuple qy
    have l1 := rv.length
    have l2 := rv2.length
    exact next_zs_end (I.ok.hd hc) D hz hp hq h1 h2 t1 t2 (by simp; omega) (by simp; omega) fun h' hk => ⟨rfl, I.turnedL (t' := s.toks) (ch := [z, p, q, i1, i2]) (fun c o hb r =>
      hk c o (fun e => hb (by simp [e])) (fun e => hb (by simp [e])) (fun e => hb (by simp [e])) (fun e => hb (by simp [e])) r) hf⟩
  self := fun A i s Q E st h => by
    obtain ⟨hz, _⟩ := st
    have ty : s.TypeIs (.ref z) "zip" := ⟨_, hz, rfl⟩
    refine wpAny_pyIter_slot ty F.slot_zip_iter (wpAny_call_entry F.slot_zip_iter ty F.entry_zip_iter ?_ (F.args_zip_iter_1 _))
    show wpAny _ _ (ret (.ref z)) _ _ s
    exact wpAny_pure ⟨_, rfl, "zip", _, ty, F.slot_zip_next.lookup, h⟩
def iZipS (K : PySem.W.Frag) (ta : TA) : TI := fun σ H R => ta σ H fun vs H1 => ∃ a b xs ys, vs = [.ref a, .ref b] ∧ SqT K H1 a xs ∧ SqT K H1 b ys ∧ R (ItS K a b) H1
theorem pi_zipS {X : Cx} {e e2 : Expr} {ta : TA} {p pos tpos p3 kpos : Pos} {j : Nat} {elts : List Expr} {kk : Nat} (hg : Gl X "zip") (hm : X.mg "zip" = none) (ha : PA X [e, e2] ta)
    (he : backTo pos (starEach [e, e2] X.env) = (false, eval e X.env) :: backTo pos (starEach [e2] X.env) := by rfl) (hpl : (backTo pos (starEach [e, e2] X.env)).any (·.1) = false := by rfl) :
    PI X (.Tuple elts kk tpos) (.Call (.Name "zip" p) [e, e2] [⟨some "strict", .Constant (.bool true) j p3, kpos⟩] pos) (iZipS X.K ta) := by
  refine ⟨fun pins s σ H R I h => ?_⟩
  refine wpAny_Call_Name_kw (ld_blt I hg hm PyProof.Rows.boot_zip ?_)
  refine with_type_kw (thn (ha.run pos pins s σ H _ I h) fun us s1 ⟨vs, H1, I1, r1, q1⟩ => ?_) he hpl
  refine PyProof.Rows.kws_cons (PyProof.Rows.Constant_bool (PyProof.Rows.kws_nil ?_))
  obtain ⟨a, b, xs, ys, ex, qx, qy, q⟩ := q1
  subst ex
  obtain ⟨u1, u2, rfl, r, r'⟩ := r1.two
  cases r
  cases r'
  obtain ⟨its, rv, t1, _⟩ := I1.tuple qx
  obtain ⟨its2, rv2, t2, _⟩ := I1.tuple qy
  obtain ⟨o1, ho1, _⟩ := id t1
  obtain ⟨o2, ho2, _⟩ := id t2
  show wpAny (model X.prog X.w) X.A (call (.type "zip") [.ref a, .ref b] [(Str.ofString "strict", .bool true)]) _ X.xe s1
  refine call_zs (show s1.heap.IsTuple a its.toArray from t1) (show s1.heap.IsTuple b its2.toArray from t2) fun h' hz hp hq h1 h2 hk => ?_
  have self : wpAny (model X.prog X.w) X.A (pyIter (.ref (s1.heap.objs.size + 4))) (PIE X pins σ (.Tuple elts kk tpos) R) X.xe { s1 with heap := h' } := by
    have T := turn_zs (P := X.prog) (w := X.w) (K := X.K) (elts := elts) (kk := kk) (tpos := tpos) (PySem.W.ktu_apart s1.heap.objs.size a b (Heap.lt_size ho1) (Heap.lt_size ho2))
    have st : Zs h' (s1.heap.objs.size + 4) (s1.heap.objs.size + 2) (s1.heap.objs.size + 3) .none ∧ IsPair h' (s1.heap.objs.size + 2) (.ref s1.heap.objs.size) (.ref (s1.heap.objs.size + 1)) ∧ (∃ x y, IsPair h' (s1.heap.objs.size + 3) x y) ∧ h'.IsTupleIter s1.heap.objs.size a 0 ∧ h'.IsTupleIter (s1.heap.objs.size + 1) b 0 := ⟨hz, hp, ⟨_, _, hq⟩, h1, h2⟩
    refine T.self X.A 0 { s1 with heap := h' } _ _ st ⟨_, _, _, _, H1, rfl, I1.kept (t' := s1.toks) hk, T, st, fun c hcm => ?_, q⟩
    have e' : c = s1.heap.objs.size + 4 ∨ c = s1.heap.objs.size + 2 ∨ c = s1.heap.objs.size + 3 ∨ c = s1.heap.objs.size ∨ c = s1.heap.objs.size + 1 := by simpa using hcm
    have hle : s1.heap.objs.size ≤ c := by
      rcases e' with z | z | z | z | z <;> rw [z]
      · exact Nat.le_add_right _ _
      · exact Nat.le_add_right _ _
      · exact Nat.le_add_right _ _
      · exact Nat.le_refl _
      · exact Nat.le_add_right _ _
    exact I1.fpOk hle (I1.hok.fresh hle)
  exact self
/-! ### pairs, as trees -/
def zpD (ds es : List PyData) : List PyData := (List.zip ds es).map fun p => .tuple [p.1, p.2]
theorem zpD_get {ds es : List PyData} {i : Nat} {d : PyData} (h : (zpD ds es)[i]? = some d) : ∃ x y, ds[i]? = some x ∧ es[i]? = some y ∧ d = .tuple [x, y] := by
  unfold zpD at h
  rw [List.getElem?_map] at h
  cases e : (List.zip ds es)[i]? with
  | none => rw [e] at h; cases h
  | some p =>
    rw [e] at h
    obtain ⟨h1, h2⟩ := List.getElem?_zip_eq_some.mp e
    exact ⟨p.1, p.2, h1, h2, (Option.some.inj h).symm⟩
theorem zpD_len (ds es : List PyData) : (zpD ds es).length = min ds.length es.length := by unfold zpD; rw [List.length_map, List.length_zip]
theorem pair_rep {K : PySem.W.Frag} {H : Hp} {x y : PyData} {v w : V} {T : Addr} (hT : H T = none) (h1 : Rep K H x v) (h2 : Rep K H y w) : Same H (upd H T (.tup [v, w])) ∧ Rep K (upd H T (.tup [v, w])) (.tuple [x, y]) (.ref T) := by
  have sm : Same H (upd H T (.tup [v, w])) := same_new hT
  refine ⟨sm, ?_⟩
  rw [Rep]
  exact ⟨T, _, rfl, SqT.of upd_same, RepA.cons (h1.mono (Kp.same sm) _ _) (RepA.cons (h2.mono (Kp.same sm) _ _) RepA.nil)⟩
theorem itd_zipS {K : PySem.W.Frag} {B : Bs} {a b : Addr} {ds es : List PyData} {c : Rho → Prop} {H1 : Hp} {xs ys : List V} (hx : SqT K H1 a xs) (hy : SqT K H1 b ys) (rx : RepA K H1 ds xs) (ry : RepA K H1 es ys) (hl : ds.length = es.length) : ItD K B (ItS K a b) (zpD ds es) c H1 := by
  have l1 := rx.length
  have l2 := ry.length
  refine ⟨fun i ρ σ H R kp hc hi => ?_, fun i ρ σ H R kp hc hi => ?_, fun i ρ σ H x H' d R kp hc y e => ?_⟩
  · rw [zpD_len] at hi
    obtain ⟨x, ex⟩ := getElem_lt (l := xs) (i := i) (by omega)
    obtain ⟨y, ey⟩ := getElem_lt (l := ys) (i := i) (by omega)
    exact ⟨xs, ys, x, y, sqT_mono kp hx, sqT_mono kp hy, ex, ey⟩
  · rw [zpD_len] at hi
    exact ⟨xs, ys, sqT_mono kp hx, sqT_mono kp hy, by omega, by omega⟩
  · obtain ⟨x', y', e1, e2, rfl⟩ := zpD_get e
    obtain ⟨T, v, w, rfl, hT, rfl, f1, f2⟩ := y
    obtain ⟨v', ev, rv⟩ := rx.get e1
    obtain ⟨w', ew, rw'⟩ := ry.get e2
    rw [f1 xs (sqT_mono kp hx)] at ev
    rw [f2 ys (sqT_mono kp hy)] at ew
    cases ev
    cases ew
    exact pair_rep hT (rv.mono kp _ _) (rw'.mono kp _ _)
def dZipS (ta : DTA) : DTI := fun ρ Q => ta ρ fun rs ρ1 => ∃ ds es, rs = [.dat (.tuple ds), .dat (.tuple es)] ∧ ds.length = es.length ∧ Q (zpD ds es) (fun _ => True) ρ1
theorem di_zipS {X : Cx} {e e2 : Expr} {ta : DTA} {p pos tpos p3 kpos : Pos} {j : Nat} {elts : List Expr} {kk : Nat} (hg : Gl X "zip") (hm : X.mg "zip" = none) (ha : DA X [e, e2] ta)
    (he : backTo pos (starEach [e, e2] X.env) = (false, eval e X.env) :: backTo pos (starEach [e2] X.env) := by rfl) (hpl : (backTo pos (starEach [e, e2] X.env)).any (·.1) = false := by rfl) :
    DI X (.Tuple elts kk tpos) (.Call (.Name "zip" p) [e, e2] [⟨some "strict", .Constant (.bool true) j p3, kpos⟩] pos) (dZipS ta) := pi_imp (pi_zipS hg hm ha he hpl) fun σ H R' ⟨B, ρ, Q0, R, q, k⟩ => ⟨B, ρ, _, R, q, fun rs ρ1 vs H1 q1 R1 k1 s1 => by
  obtain ⟨ds, es, rfl, hl, q1⟩ := q1
  obtain ⟨v, u, rfl, k2, k3⟩ := k1.two
  have k2 : Rep X.K H1 (.tuple ds) v := k2
  have k3 : Rep X.K H1 (.tuple es) u := k3
  rw [Rep] at k2 k3
  obtain ⟨a, xs, rfl, hx, rx⟩ := k2
  obtain ⟨b, ys, rfl, hy, ry⟩ := k3
  exact ⟨a, b, xs, ys, rfl, hx, hy, k _ _ ρ1 _ H1 q1 R1 s1 (itd_zipS hx hy rx ry hl)⟩⟩
/-! ### zip of two tuples, of two lists that nobody writes -/
theorem itd_zipT {K : PySem.W.Frag} {B : Bs} {a b : Addr} {ds es : List PyData} {c : Rho → Prop} {H1 : Hp} {xs ys : List V} (hx : SqT K H1 a xs) (hy : SqT K H1 b ys) (rx : RepA K H1 ds xs) (ry : RepA K H1 es ys) : ItD K B (RZ.ItzT K a b) (zpD ds es) c H1 := by
  have l1 := rx.length
  have l2 := ry.length
  refine ⟨fun i ρ σ H R kp hc hi => ?_, fun i ρ σ H R kp hc hi => ?_, fun i ρ σ H x H' d R kp hc y e => ?_⟩
  · rw [zpD_len] at hi
    obtain ⟨x, ex⟩ := getElem_lt (l := xs) (i := i) (by omega)
    obtain ⟨y, ey⟩ := getElem_lt (l := ys) (i := i) (by omega)
    exact ⟨xs, ys, x, y, sqT_mono kp hx, sqT_mono kp hy, ex, ey⟩
  · rw [zpD_len] at hi
    exact ⟨xs, ys, sqT_mono kp hx, sqT_mono kp hy, by omega⟩
  · obtain ⟨x', y', e1, e2, rfl⟩ := zpD_get e
    obtain ⟨T, v, w, rfl, hT, rfl, f1, f2⟩ := y
    obtain ⟨v', ev, rv⟩ := rx.get e1
    obtain ⟨w', ew, rw'⟩ := ry.get e2
    rw [f1 xs (sqT_mono kp hx)] at ev
    rw [f2 ys (sqT_mono kp hy)] at ew
    cases ev
    cases ew
    exact pair_rep hT (rv.mono kp _ _) (rw'.mono kp _ _)
theorem itd_zipL {K : PySem.W.Frag} {B : Bs} {a b : Addr} {ds es : List PyData} {c : Rho → Prop} {H1 : Hp} (fx : ∀ ρ2 σ2 H2, Rel K B ρ2 σ2 H2 → Kp H1 H2 → c ρ2 → ∃ vs, SqL K H2 a vs ∧ RepA K H2 ds vs) (fy : ∀ ρ2 σ2 H2, Rel K B ρ2 σ2 H2 → Kp H1 H2 → c ρ2 → ∃ vs, SqL K H2 b vs ∧ RepA K H2 es vs) : ItD K B (Itz K a b) (zpD ds es) c H1 := by
  refine ⟨fun i ρ σ H R kp hc hi => ?_, fun i ρ σ H R kp hc hi => ?_, fun i ρ σ H x H' d R kp hc y e => ?_⟩
  · obtain ⟨xs, hx, rx⟩ := fx ρ σ H R kp hc
    obtain ⟨ys, hy, ry⟩ := fy ρ σ H R kp hc
    have l1 := rx.length
    have l2 := ry.length
    rw [zpD_len] at hi
    obtain ⟨x, ex⟩ := getElem_lt (l := xs) (i := i) (by omega)
    obtain ⟨y, ey⟩ := getElem_lt (l := ys) (i := i) (by omega)
    exact ⟨xs, ys, x, y, hx, hy, ex, ey⟩
  · obtain ⟨xs, hx, rx⟩ := fx ρ σ H R kp hc
    obtain ⟨ys, hy, ry⟩ := fy ρ σ H R kp hc
    have l1 := rx.length
    have l2 := ry.length
    rw [zpD_len] at hi
    exact ⟨xs, ys, hx, hy, by omega⟩
  · obtain ⟨xs, hx, rx⟩ := fx ρ σ H R kp hc
    obtain ⟨ys, hy, ry⟩ := fy ρ σ H R kp hc
    obtain ⟨x', y', e1, e2, rfl⟩ := zpD_get e
    obtain ⟨T, v, w, rfl, hT, rfl, f1, f2⟩ := y
    obtain ⟨v', ev, rv⟩ := rx.get e1
    obtain ⟨w', ew, rw'⟩ := ry.get e2
    rw [f1 xs hx] at ev
    rw [f2 ys hy] at ew
    cases ev
    cases ew
    exact pair_rep hT rv rw'
def dZip (ta : DTA) : DTI := fun ρ Q => ta ρ fun rs ρ1 => ∃ r1 r2, rs = [r1, r2] ∧
  ((∃ ds es, r1 = .dat (.tuple ds) ∧ r2 = .dat (.tuple es) ∧ Q (zpD ds es) (fun _ => True) ρ1) ∨ ∃ ds es, listOf ρ1 r1 = some ds ∧ listOf ρ1 r2 = some es ∧ Q (zpD ds es) (fun ρ2 => keepC ρ1 r1 ρ2 ∧ keepC ρ1 r2 ρ2) ρ1)
theorem di_zip {X : Cx} {e e2 : Expr} {ta : DTA} {p pos tpos : Pos} {elts : List Expr} {kk : Nat} (hg : Gl X "zip") (hm : X.mg "zip" = none) (ha : DA X [e, e2] ta)
    (hs : starEach [e, e2] X.env = (false, eval e X.env) :: starEach [e2] X.env := by rfl) (hpl : (backTo pos (starEach [e2] X.env)).any (·.1) = false := by rfl) :
    DI X (.Tuple elts kk tpos) (.Call (.Name "zip" p) [e, e2] [] pos) (dZip ta) := pi_imp (RZ.pi_zipA hg hm ha hs hpl) fun σ H R' ⟨B, ρ, Q0, R, q, k⟩ => ⟨B, ρ, _, R, q, fun rs ρ1 vs H1 q1 R1 k1 s1 => by
  obtain ⟨r1, r2, rfl, q1⟩ := q1
  obtain ⟨v, u, rfl, k2, k3⟩ := k1.two
  rcases q1 with ⟨ds, es, rfl, rfl, q1⟩ | ⟨ds, es, e1, e2, q1⟩
  · have k2 : Rep X.K H1 (.tuple ds) v := k2
    have k3 : Rep X.K H1 (.tuple es) u := k3
    rw [Rep] at k2 k3
    obtain ⟨a, xs, rfl, hx, rx⟩ := k2
    obtain ⟨b, ys, rfl, hy, ry⟩ := k3
    exact ⟨a, b, xs, ys, rfl, .inr ⟨hx, hy, k _ _ ρ1 _ H1 q1 R1 s1 (itd_zipT hx hy rx ry)⟩⟩
  · obtain ⟨a, rfl, fx⟩ := sql_at R1 k2 e1
    obtain ⟨b, rfl, fy⟩ := sql_at R1 k3 e2
    obtain ⟨xs, hx, _⟩ := fx ρ1 σ H1 R1 (Kp.refl _) (by cases r1 <;> first | trivial | rfl)
    obtain ⟨ys, hy, _⟩ := fy ρ1 σ H1 R1 (Kp.refl _) (by cases r2 <;> first | trivial | rfl)
    exact ⟨a, b, xs, ys, rfl, .inl ⟨hx, hy, k _ _ ρ1 _ H1 q1 R1 s1 (itd_zipL (fun ρ2 σ2 H2 a b c => fx ρ2 σ2 H2 a b c.1) (fun ρ2 σ2 H2 a b c => fy ρ2 σ2 H2 a b c.2))⟩⟩⟩
/-! ### enumerate of a list, of a tuple, of a text -/
def enFrom (i : Nat) : List PyData → List PyData
  | [] => []
  | d :: ds => .tuple [.int (i : Nat), d] :: enFrom (i + 1) ds
def enD (ds : List PyData) : List PyData := enFrom 0 ds
theorem enFrom_len (i : Nat) (ds : List PyData) : (enFrom i ds).length = ds.length := by
  induction ds generalizing i with
  | nil => rfl
  | cons d ds ih => rw [enFrom, List.length_cons, List.length_cons, ih]
theorem enFrom_get {i k : Nat} {ds : List PyData} {d : PyData} (h : (enFrom i ds)[k]? = some d) : ∃ x, ds[k]? = some x ∧ d = .tuple [.int ((i + k : Nat) : Int), x] := by
  induction ds generalizing i k with
  | nil => cases h
  | cons y ds ih =>
    cases k with
    | zero => exact ⟨y, rfl, (Option.some.inj h).symm⟩
    | succ k =>
      obtain ⟨x, e, q⟩ := ih (i := i + 1) (k := k) h
      exact ⟨x, e, by rw [q]; congr 3; omega⟩
theorem enD_get {k : Nat} {ds : List PyData} {d : PyData} (h : (enD ds)[k]? = some d) : ∃ x, ds[k]? = some x ∧ d = .tuple [.int (k : Nat), x] := by
  obtain ⟨x, e, q⟩ := enFrom_get h
  exact ⟨x, e, by rw [q, Nat.zero_add]⟩
theorem enD_len (ds : List PyData) : (enD ds).length = ds.length := enFrom_len 0 ds
theorem itd_enumL {K : PySem.W.Frag} {B : Bs} {a : Addr} {ds : List PyData} {c : Rho → Prop} {H1 : Hp} (f : ∀ ρ2 σ2 H2, Rel K B ρ2 σ2 H2 → Kp H1 H2 → c ρ2 → ∃ vs, SqL K H2 a vs ∧ RepA K H2 ds vs) : ItD K B (Ite K a) (enD ds) c H1 := by
  refine ⟨fun i ρ σ H R kp hc hi => ?_, fun i ρ σ H R kp hc hi => ?_, fun i ρ σ H x H' d R kp hc y e => ?_⟩
  · obtain ⟨vs, h1, h2⟩ := f ρ σ H R kp hc
    rw [enD_len] at hi
    obtain ⟨x, ex⟩ := getElem_lt (l := vs) (i := i) (by rw [← h2.length]; exact hi)
    exact ⟨vs, x, h1, ex⟩
  · obtain ⟨vs, h1, h2⟩ := f ρ σ H R kp hc
    rw [enD_len] at hi
    exact ⟨vs, h1, by rw [← h2.length]; exact hi⟩
  · obtain ⟨vs, h1, h2⟩ := f ρ σ H R kp hc
    obtain ⟨x', e1, rfl⟩ := enD_get e
    obtain ⟨T, v, rfl, hT, rfl, f1⟩ := y
    obtain ⟨v', ev, rv⟩ := h2.get e1
    rw [f1 vs h1] at ev
    cases ev
    exact pair_rep hT (pint _ _ _) rv
def dEnum (ta : DTA) : DTI := fun ρ Q => ta ρ fun rs ρ1 => ∃ r ds, rs = [r] ∧ listOf ρ1 r = some ds ∧ Q (enD ds) (keepC ρ1 r) ρ1
theorem di_enumL {X : Cx} {e : Expr} {ta : DTA} {p pos tpos : Pos} {elts : List Expr} {kk : Nat} (hg : Gl X "enumerate") (hm : X.mg "enumerate" = none) (ha : DA X [e] ta) (hs : starEach [e] X.env = [(false, eval e X.env)] := by rfl) :
    DI X (.Tuple elts kk tpos) (.Call (.Name "enumerate" p) [e] [] pos) (dEnum ta) := pi_imp (pi_enum hg hm ha hs) fun σ H R' ⟨B, ρ, Q0, R, q, k⟩ => ⟨B, ρ, _, R, q, fun rs ρ1 vs H1 q1 R1 k1 s1 => by
  obtain ⟨r, ds, rfl, e1, q1⟩ := q1
  obtain ⟨v, rfl, k2⟩ := k1.one
  obtain ⟨a, rfl, f⟩ := sql_at R1 k2 e1
  obtain ⟨xs, hx, _⟩ := f ρ1 σ H1 R1 (Kp.refl _) (by cases r <;> first | trivial | rfl)
  exact ⟨a, xs, rfl, hx, k _ _ ρ1 _ H1 q1 R1 s1 (itd_enumL f)⟩⟩
end DL

/-! DL: enumerate of a text, of a tuple. -/
namespace DL
open PySem PySem.Spec L2
def ItEs (x : Str) : It :=
  ⟨fun i _ => i < x.cps.size, fun i H v H' => ∃ T c, v = .ref T ∧ H T = none ∧ x.cps[i]? = some c ∧ H' = upd H T (.tup [.int (i : Nat), .str ⟨#[c]⟩]), fun i _ => x.cps.size ≤ i⟩
theorem turn_enumS {P : Program} {w : World} {K : PySem.W.Frag} {elts : List Expr} {kk : Nat} {tpos : Pos} (x : Str) (t : Tok) (e it : Addr) :
    Turn P w K (.Tuple elts kk tpos) (ItEs x) [e, it] e (fun i h => i ≤ x.cps.size ∧ (∃ old, IsEnum h e it ((i : Nat) : Int) old) ∧ h.IsStrIter it (strIterType x) x t i ∧ e ≠ it) where
  mem := by simp
  obj := fun i h st b hb => by
    obtain ⟨_, ⟨old, he⟩, ⟨o, ho, hc, hd⟩, _⟩ := st
    have e' : b = e ∨ b = it := by simpa using hb
    rcases e' with z | z
    · rw [z]; exact ⟨_, he, fun v q => nomatch q⟩
    · rw [z]; exact ⟨o, ho, fun v q => by rw [hd] at q; cases q⟩
  keep := fun i h h' st k => let ⟨hi, ⟨old, he⟩, hit, hne⟩ := st; ⟨hi, ⟨old, k e (by simp) _ he⟩, ⟨hit.choose, k it (by simp) _ hit.choose_spec.1, hit.choose_spec.2⟩, hne⟩
  item := by
    intro X hP hw hK hc i pins s σ H E I hf st hg
    subst hP hw hK
    obtain ⟨_, ⟨old, he⟩, hit, hne⟩ := st
    have hlt : i < x.cps.size := hg
    have el : e < s.heap.objs.size := Heap.lt_size he
    have il : it < s.heap.objs.size := by obtain ⟨_, q, _⟩ := hit; exact Heap.lt_size q
    refine wpAny_pyNext_enum_itemD (Draws.text (A := X.A.in1) (I.ok.hd hc) it x t) he hit hlt hne (by simpa using hne) fun u h' tk hu ho hit' hT hsz hk => ?_
    obtain ⟨c, k, ec, rfl⟩ := hu
    refine ⟨_, rfl, wpAny_letOwnedTupleGo_enum (s := { s with heap := h', toks := tk + 1 }) ho fun h'' he' sb => ?_⟩
    have hT2 : h''.get? s.heap.objs.size = some { cls := .type "tuple", data := .seq #[.int i tk, .str ⟨#[c]⟩ k] } := (sb.2 _ (Nat.ne_of_gt el)).trans hT
    have new : ObjOk X.prog X.w (upd H s.heap.objs.size (.tup [.int (i : Nat), .str ⟨#[c]⟩])) h'' s.heap.objs.size (.tup [.int (i : Nat), .str ⟨#[c]⟩]) :=
      ⟨by show 2 ≤ sizeLine; decide, [.int i tk, .str ⟨#[c]⟩ k], .cons ⟨_, rfl⟩ (.cons ⟨_, rfl⟩ .nil), ⟨_, hT2, rfl, _, rfl⟩⟩
    have I1 : Inv X pins σ (upd H s.heap.objs.size (.tup [.int (i : Nat), .str ⟨#[c]⟩])) { s with heap := h'', toks := tk + 1 } :=
      I.turnedNew (ch := [e, it]) (fun b ob hb q => (sb.2 b (fun z => hb (by simp [z]))).trans (hk b ob (fun z => hb (by simp [z])) (fun z => hb (by simp [z])) q)) hf (Nat.le_refl _) new
    refine ⟨.ref s.heap.objs.size, _, I1, rfl, ⟨_, c, rfl, I.hok.fresh (Nat.le_refl _), ec, rfl⟩, ⟨hlt, ⟨.str ⟨#[c]⟩ k, ?_⟩, ⟨hit'.choose, (sb.2 it (Ne.symm hne)).trans hit'.choose_spec.1, hit'.choose_spec.2⟩, hne⟩, fun b hb => ?_⟩
    · have e1 : ((i + 1 : Nat) : Int) = (i : Int) + 1 := by omega
      rw [e1]; exact he'
    · have hb' : b < s.heap.objs.size := by
        have e' : b = e ∨ b = it := by simpa using hb
        rcases e' with z | z
        · rw [z]; exact el
        · rw [z]; exact il
      rw [upd_ne (Nat.ne_of_lt hb')]
      exact (hf b hb).1
  done := by
    intro X hP hw hK hc i pins s σ H E I hf st hg
    subst hP hw hK
    obtain ⟨hi, ⟨old, he⟩, hit, hne⟩ := st
    have hge : x.cps.size ≤ i := hg
    have ei : i = x.cps.size := Nat.le_antisymm hi hge
    obtain ⟨f0, f1, f2, f3, f4, f5⟩ := hf it (by simp)
    refine wpAny_pyNext_enum_endD (Draws.text (A := X.A.in1) (I.ok.hd hc) it x t) he (by rw [← ei]; exact hit) fun h' eb => ⟨rfl, I.turned (t' := s.toks) (fun b o hb q => eb b o hb q) f0 f1 f3 f4 f5⟩
  self := fun A i s Q E st h => let ⟨_, ⟨_, he⟩, _⟩ := st; wpAny_pyIter_enum he h
def iEnumS (ta : TA) : TI := fun σ H R => ta σ H fun vs H1 => ∃ x, vs = [.str x] ∧ R (ItEs x) H1
theorem pi_enumS {X : Cx} {e : Expr} {ta : TA} {p pos tpos : Pos} {elts : List Expr} {kk : Nat} (hg : Gl X "enumerate") (hm : X.mg "enumerate" = none) (ha : PA X [e] ta) (hs : starEach [e] X.env = [(false, eval e X.env)] := by rfl) :
    PI X (.Tuple elts kk tpos) (.Call (.Name "enumerate" p) [e] [] pos) (iEnumS ta) := by
  refine ⟨fun pins s σ H R I h => ?_⟩
  refine PyProof.Rows.Call_ (ld_blt I hg hm PyProof.Rows.boot_enumerate (PyProof.Rows.callWith_type1 (thn (ha.run pos pins s σ H _ I h) fun us s1 ⟨vs, H1, I1, r1, q1⟩ => ?_) hs rfl))
  obtain ⟨x, ex, q⟩ := q1
  subst ex
  obtain ⟨u, rfl, ru⟩ := vals1 r1
  obtain ⟨t, rfl⟩ := ru
  refine call_enumerate_str fun h' he hit hsz hk => wpAny_pyIter_enum he ?_
  have I2 : Inv X pins σ H1 { s1 with heap := h' } := I1.kept (t' := s1.toks) hk
  refine ⟨s1.heap.objs.size + 1, [s1.heap.objs.size + 1, s1.heap.objs.size], _, _, H1, rfl, I2, turn_enumS x t (s1.heap.objs.size + 1) s1.heap.objs.size, ⟨Nat.zero_le _, ⟨.none, he⟩, hit, Nat.succ_ne_self _⟩, fun b hb => ?_, q⟩
  have e' : b = s1.heap.objs.size + 1 ∨ b = s1.heap.objs.size := by simpa using hb
  have hle : s1.heap.objs.size ≤ b := by
    rcases e' with z | z
    · rw [z]; exact Nat.le_add_right _ _
    · rw [z]; exact Nat.le_refl _
  exact I1.fpOk hle (I1.hok.fresh hle)
def dEnumS (ta : DTA) : DTI := fun ρ Q => ta ρ fun rs ρ1 => ∃ x : Str, rs = [.dat (.str x)] ∧ Q (enD (signsD x)) (fun _ => True) ρ1
theorem di_enumS {X : Cx} {e : Expr} {ta : DTA} {p pos tpos : Pos} {elts : List Expr} {kk : Nat} (hg : Gl X "enumerate") (hm : X.mg "enumerate" = none) (ha : DA X [e] ta) (hs : starEach [e] X.env = [(false, eval e X.env)] := by rfl) :
    DI X (.Tuple elts kk tpos) (.Call (.Name "enumerate" p) [e] [] pos) (dEnumS ta) := pi_imp (pi_enumS hg hm ha hs) fun σ H R' ⟨B, ρ, Q0, R, q, k⟩ => ⟨B, ρ, _, R, q, fun rs ρ1 vs H1 q1 R1 k1 s1 => by
  obtain ⟨x, rfl, q1⟩ := q1
  obtain ⟨v, rfl, k2⟩ := k1.one
  have k2 := rstr k2
  subst k2
  have el : (enD (signsD x)).length = x.cps.size := by rw [enD_len]; unfold signsD; rw [List.length_map, Array.length_toList]
  refine ⟨x, rfl, k _ _ ρ1 _ H1 q1 R1 s1 ⟨fun i ρ σ H R kp hc hi => by rw [el] at hi; exact hi, fun i ρ σ H R kp hc hi => by rw [el] at hi; exact hi, fun i ρ σ H y H' d R kp hc z e => ?_⟩⟩
  obtain ⟨T, c, rfl, hT, ec, rfl⟩ := z
  obtain ⟨x', e1, rfl⟩ := enD_get e
  unfold signsD at e1
  rw [List.getElem?_map, Array.getElem?_toList, ec] at e1
  cases e1
  exact pair_rep hT (pint _ _ _) (pstr _ _ _)⟩
end DL

/-! DL: dicts as trees: their keys ints and texts; frozen at once. -/
namespace DL
open PySem PySem.Spec L2

def isKey (q : Key) : PyData → Bool
  | .int i => match q with | .inl j => decide (j = i) | .inr _ => false
  | .str x => match q with | .inr y => decide (y = x) | .inl _ => false
  | _ => false
def keyOf : PyData → Option Key
  | .int i => some (.inl i)
  | .str x => some (.inr x)
  | _ => none
def dget (kvs : List (PyData × PyData)) (q : Key) : Option PyData := (kvs.find? fun p => isKey q p.1).map (·.2)
def dput (kvs : List (PyData × PyData)) (q : Key) (d : PyData) : List (PyData × PyData) :=
  if (kvs.any fun p => isKey q p.1) = true then kvs.map (fun p => if isKey q p.1 = true then (p.1, d) else p) else kvs ++ [(kD q, d)]
theorem isKey_kD (q r : Key) : isKey q (kD r) = decide (r = q) := by
  cases q with
  | inl i =>
    cases r with
    | inl j =>
      show decide (i = j) = _
      by_cases h : i = j
      · subst h; simp
      · rw [decide_eq_false h, decide_eq_false fun e => h (Sum.inl.inj e).symm]
    | inr y => simp [kD, isKey]
  | inr x =>
    cases r with
    | inl j => simp [kD, isKey]
    | inr y =>
      show decide (x = y) = _
      by_cases h : x = y
      · subst h; simp
      · rw [decide_eq_false h, decide_eq_false fun e => h (Sum.inr.inj e).symm]
section
variable {K : PySem.W.Frag} {H H' : Hp}
theorem RepK.nil : RepK K H [] [] := by rw [RepK]
theorem RepK.cons {q : Key} {d : PyData} {v : V} {kvs : List (PyData × PyData)} {ps : List (Key × V)} (h : Rep K H d v) (r : RepK K H kvs ps) : RepK K H ((kD q, d) :: kvs) ((q, v) :: ps) := by
  rw [RepK]; exact ⟨q, v, ps, rfl, rfl, h, r⟩
theorem RepK.append : ∀ {kvs : List (PyData × PyData)} {ps : List (Key × V)} {kvs' : List (PyData × PyData)} {ps' : List (Key × V)}, RepK K H kvs ps → RepK K H kvs' ps' → RepK K H (kvs ++ kvs') (ps ++ ps')
  | [], ps, kvs', ps', h, h' => by rw [RepK] at h; subst h; exact h'
  | (k, d) :: kvs, ps, kvs', ps', h, h' => by
    rw [RepK] at h
    obtain ⟨q, v, r, rfl, rfl, h1, h2⟩ := h
    exact RepK.cons h1 (RepK.append h2 h')
theorem RepK.length : ∀ {kvs : List (PyData × PyData)} {ps : List (Key × V)}, RepK K H kvs ps → kvs.length = ps.length
  | [], ps, h => by rw [RepK] at h; rw [h]; rfl
  | (k, d) :: kvs, ps, h => by
    rw [RepK] at h
    obtain ⟨q, v, r, rfl, rfl, h1, h2⟩ := h
    rw [List.length_cons, List.length_cons, RepK.length h2]
theorem RepK.get : ∀ {kvs : List (PyData × PyData)} {ps : List (Key × V)} (q : Key), RepK K H kvs ps → (∃ d v, dget kvs q = some d ∧ valV ps q = some v ∧ Rep K H d v) ∨ (dget kvs q = none ∧ valV ps q = none)
  | [], ps, q, h => by rw [RepK] at h; subst h; exact .inr ⟨rfl, rfl⟩
  | (k, d) :: kvs, ps, q, h => by
    rw [RepK] at h
    obtain ⟨q', v, r, rfl, rfl, h1, h2⟩ := h
    by_cases e : q' = q
    · refine .inl ⟨d, v, ?_, valV_pos e, h1⟩
      unfold dget
      rw [List.find?_cons, isKey_kD, decide_eq_true e]
      rfl
    · rcases RepK.get q h2 with ⟨d', v', a, b, c⟩ | ⟨a, b⟩
      · refine .inl ⟨d', v', ?_, by rw [valV_neg e]; exact b, c⟩
        unfold dget at a ⊢
        rw [List.find?_cons, isKey_kD, decide_eq_false e]
        exact a
      · refine .inr ⟨?_, by rw [valV_neg e]; exact b⟩
        unfold dget at a ⊢
        rw [List.find?_cons, isKey_kD, decide_eq_false e]
        exact a
theorem RepK.any : ∀ {kvs : List (PyData × PyData)} {ps : List (Key × V)} (q : Key), RepK K H kvs ps → (kvs.any fun p => isKey q p.1) = ps.any fun p => decide (p.1 = q)
  | [], ps, q, h => by rw [RepK] at h; subst h; rfl
  | (k, d) :: kvs, ps, q, h => by
    rw [RepK] at h
    obtain ⟨q', v, r, rfl, rfl, h1, h2⟩ := h
    rw [List.any_cons, List.any_cons, isKey_kD, RepK.any q h2]
theorem RepK.map {q : Key} {d : PyData} {v : V} (hd : Rep K H d v) : ∀ {kvs : List (PyData × PyData)} {ps : List (Key × V)}, RepK K H kvs ps → RepK K H (kvs.map fun p => if isKey q p.1 = true then (p.1, d) else p) (ps.map fun p => if p.1 = q then (p.1, v) else p)
  | [], ps, h => by rw [RepK] at h; subst h; exact RepK.nil
  | (k, e) :: kvs, ps, h => by
    rw [RepK] at h
    obtain ⟨q', w, r, rfl, rfl, h1, h2⟩ := h
    rw [List.map_cons, List.map_cons]
    by_cases c : q' = q
    · rw [if_pos c, if_pos (by show isKey q (kD q') = true; rw [isKey_kD, decide_eq_true c])]
      exact RepK.cons hd (RepK.map hd h2)
    · rw [if_neg c, if_neg (by show ¬ isKey q (kD q') = true; rw [isKey_kD, decide_eq_false c]; decide)]
      exact RepK.cons h1 (RepK.map hd h2)
theorem RepK.put {kvs : List (PyData × PyData)} {ps : List (Key × V)} {q : Key} {d : PyData} {v : V} (h : RepK K H kvs ps) (hd : Rep K H d v) : RepK K H (dput kvs q d) (putK ps q v) := by
  unfold dput putK
  rw [h.any q]
  split
  · exact RepK.map hd h
  · exact h.append (RepK.cons hd RepK.nil)
theorem keyOf_rep {d : PyData} {q : Key} {v : V} (e : keyOf d = some q) (h : Rep K H d v) : v = kV q := by
  cases d <;> simp [keyOf] at e
  · subst e; rw [Rep] at h; exact h
  · subst e; rw [Rep] at h; exact h
theorem Kp.dK {p : Addr} {kvs : List (Key × V)} {o : HO} (h : H p = some (.dK kvs)) : Kp H (upd H p o) := by
  refine ⟨fun b ys e => ?_, fun b u w e => ?_⟩
  · rw [upd_ne (ne_of e h (by intro z; cases z))]; exact e
  · rw [upd_ne (ne_of e h (by intro z; cases z))]; exact e
end
section
variable {X : Cx} {pins : List (Addr × Obj)} {σ : L2.St} {H : Hp} {s : Shared} {p : Addr}
theorem inv_freezeD {ps : List (Key × V)} (I : Inv X pins σ H s) (h : H p = some (.dK ps)) : ∃ o, Inv X pins σ (upd H p (.frz o (.dK ps))) s := by
  obtain ⟨z, hs, vs, r, ob, es, ep, e, cd⟩ := I.hok p _ h
  have np : ∀ {b}, H b = none → b ≠ p := fun {b} q c => by rw [c, h] at q; cases q
  refine ⟨ob, I.ok, I.os, I.bare, ⟨I.base.keep, I.base.slot, fun b o e1 n1 hx => ?_, I.base.there, fun b ys q => ?_, fun b o u q => ?_, fun b qs q => ?_⟩, I.loc, I.cell, ?_, fun x c q => ?_, fun q hq => ?_, fun b u q => ?_, I.len⟩
  · have q := I.base.free b o e1 n1 hx
    rw [upd_ne (np q)]; exact q
  · have q' := I.base.tups b ys q
    rw [upd_ne (ne_of q' h (by intro z; cases z))]; exact q'
  · have q' := I.base.frzs b o u q
    rw [upd_ne (ne_of q' h (by intro z; cases z))]; exact q'
  · obtain ⟨more, q'⟩ := I.base.tbls b qs q
    exact ⟨more, by rw [upd_ne (ne_of q' h (by intro z; cases z))]; exact q'⟩
  · rw [upd_ne (np I.free)]; exact I.free
  · rw [upd_ne (np (I.freeC x c q))]; exact I.freeC x c q
  · obtain ⟨a1, a2, a3⟩ := I.pin q hq
    exact ⟨a1, by rw [upd_ne (np a2)]; exact a2, a3⟩
  · have st : ∀ {c : Addr} {w : HO}, (w ≠ .dK ps) → H c = some w → upd H p (.frz ob (.dK ps)) c = some w := fun {c w} hw q => by
      rw [upd_ne (ne_of q h hw)]; exact q
    by_cases hb : b = p
    · subst hb
      rw [upd_same] at q
      cases q
      exact ⟨e, z, hs, vs, r, ob, es, ep, e, cd⟩
    · rw [upd_ne hb] at q
      exact (I.hok b u q).stay (fun _ _ _ q => q) (fun c q => st (by intro z; cases z) q) fun c ys q => st (by intro z; cases z) q
end
end DL

/-! DL: dict comprehensions, displays, dict(..), subscripts, get, in. -/
namespace DL
open PySem PySem.Spec L2

def dDc (ti : DTI) (g : DTG) (tt : DTT) (tk tv : DTE) (vs : List Nat) : DTE := fun ρ Q => ti ρ fun ds c ρ1 => plain ρ1 vs ∧ ∃ I : Nat → List (PyData × PyData) → Rho → Prop, I 0 [] (wipeR ρ1 vs) ∧ (∀ i acc ρ2, I i acc ρ2 → c ρ2) ∧
  (∀ i d acc ρ2, ds[i]? = some d → I i acc ρ2 → g d ρ2 fun ρ3 => tt ρ3 fun b ρ4 =>
    (b = true → tk ρ4 fun rk ρ5 => tv ρ5 fun rv ρ6 => ∃ dk q e, rk = .dat dk ∧ keyOf dk = some q ∧ rv = .dat e ∧ acc.length < sizeLine ∧ I (i + 1) (dput acc q e) (wipeR ρ6 vs)) ∧ (b = false → I (i + 1) acc (wipeR ρ4 vs))) ∧
  ∀ acc ρ2, I ds.length acc ρ2 → Q (.dat (.dict acc)) (restore ρ1 vs ρ2)
def DcI (K : PySem.W.Frag) (B : Bs) (σ : L2.St) (vs : List Nat) (ρ1 : Rho) (H1 : Hp) (D : Addr) (I : Nat → List (PyData × PyData) → Rho → Prop) (i : Nat) (H : Hp) : Prop :=
  ∃ acc ps ρ2, Rel K B ρ2 (wipe σ vs) H ∧ Stp ρ1 H1 ρ2 H ∧ H D = some (.dK ps) ∧ RepK K H acc ps ∧ ¬ InFp ρ2 D ∧ I i acc ρ2
theorem dc_turn {X : Cx} {ti : DTI} {wi : TI} {tg : TG} {tt : TT} {tk tv : TE} {g : DTG} {dt : DTT} {dk dv : DTE} {ix vs : List Nat} {σ : L2.St} {H : Hp} {Q : VK}
    (hg : tg = liftG X.K ix g) (ht : tt = liftT X.K dt) (hk : tk = lift X.K dk) (he : tv = lift X.K dv) (hw : wi = liftI X.K ti) (hix : ∀ i, i ∈ ix → i ∈ vs)
    (h : lift X.K (dDc ti g dt dk dv vs) σ H Q) : tDc wi tg tt tk tv vs σ H (Gh X Q) := by
  subst hg ht hk he hw
  obtain ⟨B, ρ, Q0, R, q, k⟩ := h
  refine ⟨B, ρ, _, R, q, fun ds c ρ1 J H1 q1 R1 s1 it D nD => ?_⟩
  obtain ⟨pl, I, h0, hc, hs, hd⟩ := q1
  obtain ⟨f0, f1⟩ := R1.new nD
  have smD : Same H1 (upd H1 D (.dK [])) := same_new nD
  refine ⟨fun i m H2 => m = ds.length - i ∧ i ≤ ds.length ∧ DcI X.K B σ vs ρ1 H1 D I i H2, ⟨ds.length, by rw [Nat.sub_zero], Nat.zero_le _, [], [], wipeR ρ1 vs, (R1.same smD).wipe vs, ⟨Kp.same smD, th_same smD, fun b o e n => ⟨smD b o e, fun z => n (inFp_wipe z)⟩⟩, upd_same, RepK.nil, fun z => f1 (inFp_wipe z), h0⟩, ?_⟩
  rintro i m H2 ⟨rfl, hi, acc, ps, ρ2, R2, s2, hD, ra, nf, I2⟩
  have kp2 : Kp H1 H2 := s2.kp
  by_cases hlt : i < ds.length
  · obtain ⟨d, ed⟩ := getElem_lt hlt
    refine .inr ⟨it.go i ρ2 _ H2 R2 kp2 (hc i acc ρ2 I2) hlt, DcI X.K B σ vs ρ1 H1 D I (i + 1), fun H' z => ⟨ds.length - (i + 1), by omega, rfl, hlt, z⟩, fun x H' y => ?_⟩
    obtain ⟨sm, rp⟩ := it.yld i ρ2 _ H2 x H' d R2 kp2 (hc i acc ρ2 I2) y ed
    refine ⟨B, ρ2, d, _, R2.same sm, rp, hs i d acc ρ2 ed I2, fun ρ3 σ3 q3 R3 o3 u3 => ⟨wipe_eq o3 hix, ?_⟩⟩
    have ew := wipe_eq o3 hix
    have s3 : Stp ρ1 H1 ρ3 H' := s2.trans ⟨Kp.same sm, th_same sm, fun b o e n => ⟨sm b o e, fun z => n (u3 b z)⟩⟩
    have nf3 : ¬ InFp ρ3 D := fun z => nf (u3 D z)
    have hD3 := sm D _ hD
    have ra3 := ra.mono (Kp.same sm) acc ps
    refine ⟨B, ρ3, _, R3, q3, fun b ρ4 H3 q4 R4 s4 => ?_⟩
    obtain ⟨hD4, nf4⟩ := s4.fr D _ hD3 nf3
    have ra4 := ra3.mono s4.kp acc ps
    have s14 := s3.trans s4
    cases b with
    | false =>
      exact iteF ⟨acc, ps, wipeR ρ4 vs, by rw [← ew]; exact R4.wipe vs, s14.trans ⟨Kp.refl _, fun _ z => z, fun b o e n => ⟨e, fun z => n (inFp_wipe z)⟩⟩, hD4, ra4, fun z => nf4 (inFp_wipe z), q4.2 rfl⟩
    | true =>
      refine iteT ⟨B, ρ4, _, R4, q4.1 rfl, fun rk ρ5 v H4 q5 R5 k5 s5 => ⟨B, ρ5, _, R5, q5, fun rv ρ6 w H5 q6 R6 k6 s6 => ?_⟩⟩
      obtain ⟨kd, q, e, rfl, eq, rfl, hz, q7⟩ := q6
      have ev := keyOf_rep eq (show Rep X.K H4 kd v from k5)
      obtain ⟨hD5, nf5⟩ := s5.fr D _ hD4 nf4
      have ra5 := ra4.mono s5.kp acc ps
      obtain ⟨hD6, nf6⟩ := s6.fr D _ hD5 nf5
      have ra6 := ra5.mono s6.kp acc ps
      have kpu : Kp H5 (upd H5 D (.dK (putK ps q w))) := Kp.dK hD6
      refine ⟨ps, q, ev, hD6, by rw [← ra6.length]; exact hz, dput acc q e, putK ps q w, wipeR ρ6 vs, by rw [← ew]; exact (R6.aside kpu f0 nf6).wipe vs, ?_, upd_same, (ra6.put k6).mono kpu _ _, fun z => nf6 (inFp_wipe z), q7⟩
      have s15 := (s14.trans s5).trans s6
      refine ⟨s15.kp.trans kpu, fun b n => th_upd b (s15.th b n), fun b o e n => ?_⟩
      obtain ⟨e1, n1⟩ := s15.fr b o e n
      exact ⟨by rw [upd_ne (ne_of_none e nD)]; exact e1, fun z => n1 (inFp_wipe z)⟩
  · have ei : i = ds.length := by omega
    subst ei
    refine .inl ⟨it.stop _ ρ2 _ H2 R2 kp2 (hc _ acc ρ2 I2) (Nat.le_refl _), ?_⟩
    intro pins' σ' s' Iv
    obtain ⟨o, Iv2⟩ := inv_freezeD Iv hD
    have kp : Kp H2 (upd H2 D (.frz o (.dK ps))) := Kp.dK hD
    have R3 := R1.restore kp2 pl R2
    have nf3 : ¬ InFp (restore ρ1 vs ρ2) D := fun z => nf (inFp_restore pl z)
    refine ⟨_, Iv2, k _ _ _ _ (hd acc ρ2 I2) (R3.aside kp f0 nf3) ?_ ?_⟩
    · show Rep X.K _ (.dict acc) (.ref D)
      rw [Rep]
      exact ⟨D, ps, rfl, ⟨o, upd_same⟩, ra.mono kp _ _⟩
    · have s12 := s1.trans s2
      have nDH : H D = none := s1.none nD
      refine ⟨s12.kp.trans kp, fun b n => th_upd b (s12.th b n), fun b u e n => ?_⟩
      obtain ⟨e1, n1⟩ := s12.fr b u e n
      exact ⟨by rw [upd_ne (ne_of_none e nDH)]; exact e1, fun z => n1 (inFp_restore pl z)⟩
section
variable {X : Cx} {kx vx tg iter : Expr} {ifs : List Expr} {scope : Scope} {own : List (Str × Nat)} {pos : Pos} {ti : DTI} {g : DTG} {tt : DTT} {tk tv : DTE} {ix : List Nat}
theorem de_dc (hc : X.calm = true) (hN : X.N.Nodup) (hi : DI X tg iter ti) (ok : BlkOk X.N X.env.scope scope own)
    (hg : ∀ (s : Shared) (H : Hp) (C : Addr) (cl : List (Str × Addr)) (fp : List Addr), DG (X.blk s H scope (compEnvC scope cl C X.env) fp) ix tg g) (ht : ∀ (s : Shared) (H : Hp) (C : Addr) (cl : List (Str × Addr)) (fp : List Addr), DTs (X.blk s H scope (compEnvC scope cl C X.env) fp) ifs tt)
    (hk : ∀ (s : Shared) (H : Hp) (C : Addr) (cl : List (Str × Addr)) (fp : List Addr), DE (X.blk s H scope (compEnvC scope cl C X.env) fp) kx tk)
    (he : ∀ (s : Shared) (H : Hp) (C : Addr) (cl : List (Str × Addr)) (fp : List Addr), DE (X.blk s H scope (compEnvC scope cl C X.env) fp) vx tv) (hix : ∀ i, i ∈ ix → i ∈ own.map (·.2) := by decide) (hs : ∀ x, foldedSetIterable iter X.env x = pure x := by intro _; rfl) :
    DE X (.DictComp kx vx [⟨tg, iter, ifs, 0⟩] scope pos) (dDc ti g tt tk tv (own.map (·.2))) :=
  pe_imp (pe_gh (pe_dc (g := liftG X.K ix g) (tt := liftT X.K tt) (tk := lift X.K tk) (tv := lift X.K tv) hc hN hi ok hg ht hk he hs)) fun σ H Q h => dc_turn rfl rfl rfl rfl rfl hix h
end
/-! ### subscripts, get, in -/
section
variable {X : Cx} {o i e f : Expr} {to ti te tf : DTE} {pos apos cpos : Pos}
theorem dget_at {K : PySem.W.Frag} {H : Hp} {kvs : List (PyData × PyData)} {q : Key} {v w : V} {kd : PyData} (h : Rep K H (.dict kvs) v) (ek : keyOf kd = some q) (hk : Rep K H kd w) :
    ∃ a, v = .ref a ∧ ((∃ d u, dget kvs q = some d ∧ DGet H a w (some u) ∧ Rep K H d u) ∨ (dget kvs q = none ∧ DGet H a w none)) := by
  rw [Rep] at h
  obtain ⟨a, ps, rfl, ⟨ob, hf⟩, r⟩ := h
  have ew := keyOf_rep ek hk
  subst ew
  refine ⟨a, rfl, ?_⟩
  rcases r.get q with ⟨d, u, h1, h2, h3⟩ | ⟨h1, h2⟩
  · exact .inl ⟨d, u, h1, .inl ⟨ps, q, .inr ⟨ob, hf⟩, rfl, h2.symm⟩, h3⟩
  · exact .inr ⟨h1, .inl ⟨ps, q, .inr ⟨ob, hf⟩, rfl, h2.symm⟩⟩
def fDix : Fn := fun ρ rs C => ∃ kvs kd q d, rs = [.dat (.dict kvs), .dat kd] ∧ keyOf kd = some q ∧ dget kvs q = some d ∧ C d
theorem de_dix (hu : X.A.units + 64 < cLine) (ho : DE X o to) (hi : DE X i ti) (hs : NoSl i) : DE X (.Subscript o i pos) (dOp fDix to ti) := pe_imp (pe_dget (by omega) ho hi hs) fun σ H Q ⟨B, ρ, Q0, R, q, k⟩ => by
  refine lift2 R q fun r1 r2 ρ2 x y H2 f R2 k1 k2 s2 => ?_
  obtain ⟨kvs, kd, q, d, e, ek, ed, q2⟩ := f
  cases e
  obtain ⟨a, rfl, h | ⟨h, _⟩⟩ := dget_at (show Rep X.K H2 (.dict kvs) x from k1) ek (show Rep X.K H2 kd y from k2)
  · obtain ⟨d', u, h1, h2, h3⟩ := h
    rw [ed] at h1
    cases h1
    exact ⟨a, u, rfl, h2, k _ ρ2 u H2 q2 R2 h3 s2⟩
  · rw [ed] at h; cases h
def fInK (neg : Bool) : Fn := fun ρ rs C => ∃ kvs kd q, rs = [.dat kd, .dat (.dict kvs)] ∧ keyOf kd = some q ∧ C (.bool (if neg then !(dget kvs q).isSome else (dget kvs q).isSome))
theorem din_some {K : PySem.W.Frag} {H : Hp} {kvs : List (PyData × PyData)} {q : Key} {v w : V} {kd : PyData} (h : Rep K H (.dict kvs) v) (ek : keyOf kd = some q) (hk : Rep K H kd w) : ∃ a u, v = .ref a ∧ DGet H a w u ∧ u.isSome = (dget kvs q).isSome := by
  obtain ⟨a, rfl, ⟨d, u, h1, h2, _⟩ | ⟨h1, h2⟩⟩ := dget_at h ek hk
  · exact ⟨a, _, rfl, h2, by rw [h1]; rfl⟩
  · exact ⟨a, _, rfl, h2, by rw [h1]; rfl⟩
theorem de_inK (hu : X.A.units + 64 < cLine) (hi : DE X i ti) (ho : DE X o to) (hm : behindInMarks .In o = false := by first | exact nomark _ | rfl) : DE X (.Compare i [.In] [o] pos) (dOp (fInK false) ti to) := pe_imp (pe_cmp (pc_din (by omega) hi ho) hm) fun σ H Q ⟨B, ρ, Q0, R, q, k⟩ => by
  refine lift2 R q fun r1 r2 ρ2 x y H2 f R2 k1 k2 s2 => ?_
  obtain ⟨kvs, kd, q, e, ek, q2⟩ := f
  cases e
  obtain ⟨a, u, rfl, h2, h3⟩ := din_some (show Rep X.K H2 (.dict kvs) y from k2) ek (show Rep X.K H2 kd x from k1)
  exact ⟨a, u, rfl, h2, k _ ρ2 _ H2 q2 R2 (by show Rep X.K H2 (.bool _) _; rw [Rep, h3]; rfl) s2⟩
theorem de_notInK (hu : X.A.units + 64 < cLine) (hi : DE X i ti) (ho : DE X o to) (hm : behindInMarks .NotIn o = false := by first | exact nomark _ | rfl) : DE X (.Compare i [.NotIn] [o] pos) (dOp (fInK true) ti to) := pe_imp (pe_cmp (pc_dnotin (by omega) hi ho) hm) fun σ H Q ⟨B, ρ, Q0, R, q, k⟩ => by
  refine lift2 R q fun r1 r2 ρ2 x y H2 f R2 k1 k2 s2 => ?_
  obtain ⟨kvs, kd, q, e, ek, q2⟩ := f
  cases e
  obtain ⟨a, u, rfl, h2, h3⟩ := din_some (show Rep X.K H2 (.dict kvs) y from k2) ek (show Rep X.K H2 kd x from k1)
  exact ⟨a, u, rfl, h2, k _ ρ2 _ H2 q2 R2 (by show Rep X.K H2 (.bool _) _; rw [Rep, h3]; rfl) s2⟩
/-- the same as a test -/
theorem dt_inK (hu : X.A.units + 64 < cLine) (hi : DE X i ti) (ho : DE X o to) (hm : behindInMarks .In o = false := by first | exact nomark _ | rfl) : DT X (.Compare i [.In] [o] pos) (dB (dOp (fInK false) ti to)) := pt_imp (pt_cmp (pc_din (by omega) hi ho) hm) fun σ H Q ⟨B, ρ, Q0, R, q, k⟩ => by
  refine lift2 R q fun r1 r2 ρ2 x y H2 f R2 k1 k2 s2 => ?_
  obtain ⟨kvs, kd, q, e, ek, b, eb, q2⟩ := f
  cases e
  obtain ⟨a, u, rfl, h2, h3⟩ := din_some (show Rep X.K H2 (.dict kvs) y from k2) ek (show Rep X.K H2 kd x from k1)
  have eb : b = (dget kvs q).isSome := by injection eb with z; injection z with z; exact z.symm
  subst eb
  exact ⟨a, u, rfl, h2, _, rfl, by rw [h3]; exact k _ ρ2 H2 q2 R2 s2⟩
theorem dt_notInK (hu : X.A.units + 64 < cLine) (hi : DE X i ti) (ho : DE X o to) (hm : behindInMarks .NotIn o = false := by first | exact nomark _ | rfl) : DT X (.Compare i [.NotIn] [o] pos) (dB (dOp (fInK true) ti to)) := pt_imp (pt_cmp (pc_dnotin (by omega) hi ho) hm) fun σ H Q ⟨B, ρ, Q0, R, q, k⟩ => by
  refine lift2 R q fun r1 r2 ρ2 x y H2 f R2 k1 k2 s2 => ?_
  obtain ⟨kvs, kd, q, e, ek, b, eb, q2⟩ := f
  cases e
  obtain ⟨a, u, rfl, h2, h3⟩ := din_some (show Rep X.K H2 (.dict kvs) y from k2) ek (show Rep X.K H2 kd x from k1)
  have eb : b = !(dget kvs q).isSome := by injection eb with z; injection z with z; exact z.symm
  subst eb
  exact ⟨a, u, rfl, h2, _, rfl, by rw [h3]; exact k _ ρ2 H2 q2 R2 s2⟩
def dGet1 (to te : DTE) : DTE := fun ρ Q => to ρ fun r ρ1 => ∃ kvs, r = .dat (.dict kvs) ∧ te ρ1 fun r2 ρ2 => ∃ kd q, r2 = .dat kd ∧ keyOf kd = some q ∧ Q (.dat ((dget kvs q).getD .none)) ρ2
theorem isD_rep {K : PySem.W.Frag} {H : Hp} {kvs : List (PyData × PyData)} {v : V} (h : Rep K H (.dict kvs) v) : ∃ a, v = .ref a ∧ IsD H a := by
  rw [Rep] at h
  obtain ⟨a, ps, rfl, ⟨ob, hf⟩, r⟩ := h
  exact ⟨a, rfl, .inl ⟨ps, .inr ⟨ob, hf⟩⟩⟩
theorem de_dget1 (hu : X.A.units + 64 < cLine) (ho : DE X o to) (he : DE X e te) (m : M1 X o "get" apos e cpos) : DE X (.Call (.Attribute o "get" apos) [e] [] cpos) (dGet1 to te) := pe_imp (pe_dget1 (by omega) ho he m) fun σ H Q ⟨B, ρ, Q0, R, q, k⟩ => by
  refine ⟨B, ρ, _, R, q, fun r ρ1 v H1 q1 R1 k1 s1 => ?_⟩
  obtain ⟨kvs, rfl, q1⟩ := q1
  obtain ⟨a, rfl, hd⟩ := isD_rep (show Rep X.K H1 (.dict kvs) v from k1)
  refine ⟨a, rfl, hd, B, ρ1, _, R1, q1, fun r2 ρ2 w H2 q2 R2 k2 s2 => ?_⟩
  obtain ⟨kd, q, rfl, ek, q2⟩ := q2
  obtain ⟨a', ea, h⟩ := dget_at ((show Rep X.K H1 (.dict kvs) (.ref a) from k1).mono s2.kp _ _) ek (show Rep X.K H2 kd w from k2)
  cases ea
  rcases h with ⟨d, u, h1, h2, h3⟩ | ⟨h1, h2⟩
  · rw [h1] at q2
    exact ⟨_, h2, k _ ρ2 u H2 q2 R2 h3 (s1.trans s2)⟩
  · rw [h1] at q2
    exact ⟨_, h2, k _ ρ2 .non H2 q2 R2 (qnone _ _ _) (s1.trans s2)⟩
def dGet2 (to te tf : DTE) : DTE := fun ρ Q => to ρ fun r ρ1 => ∃ kvs, r = .dat (.dict kvs) ∧ te ρ1 fun r2 ρ2 => tf ρ2 fun r3 ρ3 => ∃ kd q d0, r2 = .dat kd ∧ keyOf kd = some q ∧ r3 = .dat d0 ∧ Q (.dat ((dget kvs q).getD d0)) ρ3
theorem de_dget2 (hu : X.A.units + 64 < cLine) (ho : DE X o to) (he : DE X e te) (hf : DE X f tf) (m : M2 X o "get" apos e f cpos) : DE X (.Call (.Attribute o "get" apos) [e, f] [] cpos) (dGet2 to te tf) := pe_imp (pe_dget2 (by omega) ho he hf m) fun σ H Q ⟨B, ρ, Q0, R, q, k⟩ => by
  refine ⟨B, ρ, _, R, q, fun r ρ1 v H1 q1 R1 k1 s1 => ?_⟩
  obtain ⟨kvs, rfl, q1⟩ := q1
  obtain ⟨a, rfl, hd⟩ := isD_rep (show Rep X.K H1 (.dict kvs) v from k1)
  refine ⟨a, rfl, hd, B, ρ1, _, R1, q1, fun r2 ρ2 w H2 q2 R2 k2 s2 => ⟨B, ρ2, _, R2, q2, fun r3 ρ3 z H3 q3 R3 k3 s3 => ?_⟩⟩
  obtain ⟨kd, q, d0, rfl, ek, rfl, q3⟩ := q3
  obtain ⟨a', ea, h⟩ := dget_at ((show Rep X.K H1 (.dict kvs) (.ref a) from k1).mono (s2.trans s3).kp _ _) ek ((show Rep X.K H2 kd w from k2).mono s3.kp _ _)
  cases ea
  rcases h with ⟨d, u, h1, h2, h3⟩ | ⟨h1, h2⟩
  · rw [h1] at q3
    exact ⟨_, h2, k _ ρ3 u H3 q3 R3 h3 ((s1.trans s2).trans s3)⟩
  · rw [h1] at q3
    exact ⟨_, h2, k _ ρ3 z H3 q3 R3 k3 ((s1.trans s2).trans s3)⟩
end
end DL

/-! DL: x, *y = a tuple; dict(..) of pairs. -/
namespace DL
open PySem PySem.Spec L2
section
variable {prog : Program} {w : World} {A : Around} {E : Value → Shared → Prop} {s : Shared}
/-- the first and the rest -/
theorem star_tup {t : Addr} {u : Value} {us : List Value} {Q : List Value → Shared → Prop} (hh : A.handled = none) (ht : PyProof.Rows.IsTup s.heap t (u :: us).toArray) (hz : us.length + 1 ≤ sizeLine)
    (h : ∀ (hb : Heap) (tk : Nat), (∀ b o, s.heap.get? b = some o → hb.get? b = some o) → Q [u, .ref hb.objs.size] { s with heap := hb.push { cls := .type "list", data := .seq us.toArray }, toks := tk }) :
    wpAny (model prog w) A (unpackItems (.ref t) 2 (some 1)) Q E s := by
  have ne : t ≠ s.heap.objs.size := by obtain ⟨o, ho, _⟩ := ht; exact Nat.ne_of_lt (Heap.lt_size ho)
  unfold unpackItems
  refine wpAny_bind ?_
  unfold notIterableAtAll
  refine wpAny_bind (wpAny_specialOf ht.typeIs PyProof.Rows.slot_tuple_iter.lookup ?_)
  refine wpAny_pure ?_
  simp only [Bool.false_eq_true, if_false]
  refine wpAny_bind (wpAny_holding (PyProof.Rows.iter_tuple ht ?_))
  refine wpAny_bind (wpAny_holding (PyProof.Rows.draw_tuple ne 1 0 _ _ ⟨_, Heap.get?_push_size _ rfl, rfl, rfl⟩ (ht.push _) (by simp) fun ha ia sa => ?_))
  have ta : PyProof.Rows.IsTup ha t (u :: us).toArray := (ht.push _).extBut sa.extBut ne
  rw [Nat.zero_add] at ia
  obtain ⟨oi, hoi, _⟩ := id ia
  obtain ⟨ol, hol, _⟩ := id ta
  have e1 : List.take 1 (List.drop 0 (u :: us).toArray.toList) = [u] := by simp
  rw [e1]
  rw [if_neg (show ¬ ([u].length < 1) by simp)]
  refine wpAny_bind (wpAny_holding (PySem.W.kun_collect (s := { s with heap := ha }) (T := "tuple_iterator") (.inr (.inr (.inr rfl))) (Walks.tuple (A := A.in1) hh s.heap.objs.size t ne (u :: us).toArray) (fun j v st => st.1.typeIs) (k := 1) (by simp) ⟨ia, ta⟩ (Heap.lt_size hoi) (Heap.lt_size hol) (fun hb tk hk => ?_) (by simpa using hz)))
  have e2 : (u :: us).toArray.toList.drop 1 = us := by simp
  rw [e2]
  show wpAny _ _ (if us.length < 0 then _ else _) _ _ _
  rw [if_neg (by omega)]
  show wpAny _ _ (newList (us.take (us.length - 0)) >>= fun d => pure ([u] ++ [d] ++ us.drop (us.length - 0))) _ _ _
  rw [Nat.sub_zero, List.take_length, List.drop_length]
  have keep : ∀ b o, s.heap.get? b = some o → hb.get? b = some o := fun b o e => hk b o (Nat.ne_of_lt (Heap.lt_size e)) (sa.extBut b o (Nat.ne_of_lt (Heap.lt_size e)) (Heap.get?_push_of_some _ e))
  refine wpAny_bind (wpAny_newObj_type (wpAny_pure ?_) (by show us.length ≤ sizeLine; omega))
  exact h hb tk keep
end
section
variable {X : Cx} {e : Expr} {te : DTE} {px py pt pos : Pos} {kt : Nat}
def gStar (K : PySem.W.Frag) (i j : Nat) : TG := fun v σ H Q => ∃ t x xs, v = .ref t ∧ SqT K H t (x :: xs) ∧ ∀ D, H D = none → Q ((σ.set i (some x)).set j (some (.ref D))) (upd H D (.lst xs))
theorem pg_star {i j : Nat} {x y : Str} (hc : X.calm = true) (h1 : PG X (.Name x px) (gName i)) (h2 : PG X (.Name y py) (gName j)) {p2 : Pos}
    (hn : (assignEach [.Name x px, .Starred (.Name y py) p2] X.env) = [(false, assign (.Name x px) X.env), (true, assign (.Name y py) X.env)] := by rfl) : PG X (.Tuple [.Name x px, .Starred (.Name y py) p2] kt pt) (gStar X.K i j) := by
  refine ⟨fun pins s σ H v u Q I r h => ?_⟩
  obtain ⟨t, x0, xs, rfl, hq, q⟩ := h
  cases r
  obtain ⟨its, rv, ht, hz⟩ := I.tuple hq
  cases rv with
  | @cons _ w0 _ ws r0 rs =>
    rw [PyProof.Rows.assign_Tuple]
    refine wpAny_bind (wpAny_standAt ?_)
    unfold unpack
    rw [hn]
    refine wpAny_bind (wpAny_holding (star_tup (I.ok.hd hc) ht (by rw [← rs.length]; exact hz) fun hb tk keep => ?_))
    have I1 : Inv X pins σ H { s with heap := hb, toks := tk } := I.kept keep
    have nD : H hb.objs.size = none := I1.hok.fresh (Nat.le_refl _)
    have I2 : Inv X pins σ (upd H hb.objs.size (.lst xs)) { s with heap := hb.push { cls := .type "list", data := .seq ws.toArray }, toks := tk } :=
      I1.laid (t' := tk) (fun b o e => Heap.get?_push_of_some _ e) (Nat.le_refl _) ⟨by have h9 : xs.length + 1 ≤ sizeLine := hz; omega, ws, 0, rs, Heap.get?_push_size _ rfl⟩
    refine PyProof.Rows.assignInOrder_cons (thn (h1.run pins _ σ _ x0 w0 (fun σ' H' => σ' = σ.set i (some x0) ∧ H' = upd H hb.objs.size (.lst xs)) I2 r0 ⟨rfl, rfl⟩) fun _ s3 ⟨σ3, H3, I3, e1, e2⟩ => ?_)
    subst e1 e2
    refine PyProof.Rows.assignInOrder_cons (thn (h2.run pins s3 _ _ (.ref hb.objs.size) _ (fun σ' H' => σ' = (σ.set i (some x0)).set j (some (.ref hb.objs.size)) ∧ H' = upd H hb.objs.size (.lst xs)) I3 rfl ⟨rfl, rfl⟩) fun _ s4 ⟨σ4, H4, I4, e1, e2⟩ => ?_)
    subst e1 e2
    exact PyProof.Rows.assignInOrder_nil ⟨_, _, I4, q _ nD⟩
/-- x, *y = a tuple -/
def dStar (i j : Nat) (te : DTE) : DTS := fun E ρ => te ρ fun r ρ1 => ∃ d ds, r = .dat (.tuple (d :: ds)) ∧ ∀ p, E.nx ((ρ1.set i (.dat d)).set j (.own p ds))
theorem dp_star {i j : Nat} {x y : Str} {p2 : Pos} (hc : X.calm = true) (hN : X.N.Nodup) (hi : X.N[i]? = some x) (hj : X.N[j]? = some y) (hx : Loc X.env.scope x) (hy : Loc X.env.scope y) (he : DE X e te)
    (hn : (assignEach [.Name x px, .Starred (.Name y py) p2] X.env) = [(false, assign (.Name x px) X.env), (true, assign (.Name y py) X.env)] := by rfl)
    (hs : swapsWithSole [.Tuple [.Name x px, .Starred (.Name y py) p2] kt pt] e pos.line X.env = pure false := by rfl) (hw : swappedStores [.Tuple [.Name x px, .Starred (.Name y py) p2] kt pt] e X.env = pure none := by rfl)
    (h1 : (assignEach [.Tuple [.Name x px, .Starred (.Name y py) p2] kt pt] X.env).map (·.2) = [assign (.Tuple [.Name x px, .Starred (.Name y py) p2] kt pt) X.env] := by rfl)
    (hf : X.fn x = true ∨ X.env.scope.names.lookup x = some .local := by first | exact .inl rfl | exact .inr rfl | assumption) (hf2 : X.fn y = true ∨ X.env.scope.names.lookup y = some .local := by first | exact .inl rfl | exact .inr rfl | assumption) :
    DP X (.Assign [.Tuple [.Name x px, .Starred (.Name y py) p2] kt pt] e pos) (dStar i j te) := ps_imp (ps_asg he (pg_star hc (pg_name hN hi hx hf) (pg_name hN hj hy hf2) hn) hs hw h1) fun D σ H ⟨B, ρ, E, R, q, k⟩ => by
  refine ⟨B, ρ, _, R, q, fun r ρ1 v H1 q1 R1 k1 s1 => ?_⟩
  obtain ⟨d, ds, rfl, q1⟩ := q1
  have k1 : Rep X.K H1 (.tuple (d :: ds)) v := k1
  rw [Rep] at k1
  obtain ⟨t, xs, rfl, hq, ra⟩ := k1
  rw [RepA] at ra
  obtain ⟨x0, xr, rfl, r1, r2⟩ := ra
  refine ⟨t, x0, xr, rfl, hq, fun D0 nD => ?_⟩
  have sm : Same H1 (upd H1 D0 (.lst xr)) := same_new nD
  have R2 := R1.setDat i r1
  obtain ⟨f0, f1⟩ := R2.new nD
  exact k.nx _ _ _ (q1 D0) ((R2.same sm).setOwn j upd_same (r2.mono (Kp.same sm) _ _) f0 f1) (s1.kp.trans (Kp.same sm))
end
/-! ### dict(xs) of pairs -/
section
variable {X : Cx}
def pairsOf : List PyData → Option (List (Key × PyData))
  | [] => some []
  | .tuple [k, v] :: r => match keyOf k, pairsOf r with
    | some q, some m => some ((q, v) :: m)
    | _, _ => none
  | _ :: _ => none
def mergeD (kvs : List (PyData × PyData)) (more : List (Key × PyData)) : List (PyData × PyData) := more.foldl (fun acc kv => dput acc kv.1 kv.2) kvs
theorem pairs_rep {K : PySem.W.Frag} {H : Hp} : ∀ {ds : List PyData} {vs : List V} {prs : List (Key × PyData)}, pairsOf ds = some prs → RepA K H ds vs → ∃ (ps : List Addr) (kvs : List (Key × V)), vs = ps.map V.ref ∧ PySem.Paired (fun p (kv : Key × V) => SqT K H p [kV kv.1, kv.2]) ps kvs ∧ PySem.Paired (fun (p : Key × PyData) (kv : Key × V) => p.1 = kv.1 ∧ Rep K H p.2 kv.2) prs kvs
  | [], vs, prs, e, h => by
    rw [RepA] at h
    subst h
    have e : [] = prs := Option.some.inj e
    subst e
    exact ⟨[], [], rfl, .nil, .nil⟩
  | d :: ds, vs, prs, e, h => by
    rw [RepA] at h
    obtain ⟨v, r, rfl, h1, h2⟩ := h
    unfold pairsOf at e
    split at e
    · cases ‹_ :: _ = []›
    · rename_i k w r0 heq
      cases heq
      split at e
      · rename_i q m ek em
        have e : (q, w) :: m = prs := Option.some.inj e
        subst e
        obtain ⟨ps, kvs, rfl, p1, p2⟩ := pairs_rep em h2
        rw [Rep] at h1
        obtain ⟨a, xs, rfl, hs, ra⟩ := h1
        rw [RepA] at ra
        obtain ⟨x, xr, rfl, rk, ra⟩ := ra
        rw [RepA] at ra
        obtain ⟨y, yr, rfl, ry, ra⟩ := ra
        rw [RepA] at ra
        subst ra
        have ex := keyOf_rep ek rk
        subst ex
        exact ⟨a :: ps, (q, y) :: kvs, rfl, .cons hs p1, .cons ⟨rfl, ry⟩ p2⟩
      · cases e
    · cases e
theorem merge_rep {K : PySem.W.Frag} {H : Hp} {prs : List (Key × PyData)} {kvs : List (Key × V)} (h : PySem.Paired (fun (p : Key × PyData) (kv : Key × V) => p.1 = kv.1 ∧ Rep K H p.2 kv.2) prs kvs) : ∀ {acc : List (PyData × PyData)} {ps : List (Key × V)}, RepK K H acc ps → RepK K H (mergeD acc prs) (mergeK ps kvs) := by
  induction h with
  | nil => intro acc ps h; exact h
  | cons h1 _ ih =>
    intro acc ps h
    obtain ⟨e, r⟩ := h1
    refine ih ?_
    show RepK K H (dput acc _ _) (putK ps _ _)
    rw [e]
    exact h.put r
def dDictL (t : DTA) : DTE := fun ρ Q => t ρ fun rs ρ1 => ∃ r ds prs, rs = [r] ∧ listOf ρ1 r = some ds ∧ pairsOf ds = some prs ∧ Q (.dat (.dict (mergeD [] prs))) ρ1
theorem de_dictL {e : Expr} {es : List Expr} {t : DTA} {p pos : Pos} (hc : X.calm = true) (hg : Gl X "dict") (hm : X.mg "dict" = none) (hv : bootBuiltins "dict" = some (.type "dict")) (ha : DA X (e :: es) t)
    (he : starEach (e :: es) X.env = (false, eval e X.env) :: starEach es X.env := by rfl) (hpl : (backTo pos (starEach es X.env)).any (·.1) = false := by rfl) : DE X (.Call (.Name "dict" p) (e :: es) [] pos) (dDictL t) := by
  refine pe_imp (pe_gh (pe_callTy (call_dictP hc) hg hm hv ha (by decide) (by decide) he hpl)) fun σ H Q ⟨B, ρ, Q0, R, q, k⟩ => ?_
  refine ⟨B, ρ, _, R, q, fun rs ρ1 vs H1 q1 R1 k1 s1 => ?_⟩
  obtain ⟨r, ds, prs, rfl, el, ep, q1⟩ := q1
  obtain ⟨v, rfl, k2⟩ := k1.one
  obtain ⟨a, xs, rfl, h1, ra⟩ := sql_now R1 k2 el
  obtain ⟨ps, kvs, rfl, p1, p2⟩ := pairs_rep ep ra
  refine ⟨a, ps, kvs, rfl, h1, p1, fun D nD => ?_⟩
  intro pins σ' s' Iv
  have sm : Same H1 (upd H1 D (.dK (mergeK [] kvs))) := same_new nD
  obtain ⟨o, Iv2⟩ := inv_freezeD Iv (upd_same (H := H1) (a := D))
  have kp : Kp (upd H1 D (.dK (mergeK [] kvs))) (upd (upd H1 D (.dK (mergeK [] kvs))) D (.frz o (.dK (mergeK [] kvs)))) := Kp.dK upd_same
  obtain ⟨f0, f1⟩ := R1.new nD
  refine ⟨_, Iv2, k _ _ _ _ q1 ((R1.same sm).aside kp f0 f1) ?_ (s1.trans ⟨(Kp.same sm).trans kp, fun b n => th_upd b (th_same sm b n), fun b u e n => ⟨?_, n⟩⟩)⟩
  · show Rep X.K _ (.dict _) (.ref D)
    rw [Rep]
    exact ⟨D, _, rfl, ⟨o, upd_same⟩, (merge_rep p2 RepK.nil).mono ((Kp.same sm).trans kp) _ _⟩
  · rw [upd_ne (ne_of_none e nD)]
    exact sm b u e
end
end DL

/-! DL: a, b = two new lists of ours. -/
namespace DL
open PySem PySem.Spec L2
section
variable {X : Cx}
def dParNN (i j : Nat) (ta tb : DTN) : DTS := fun E ρ => ta ρ fun ds ρ1 => tb ρ1 fun es ρ2 => ∀ p q, E.nx ((ρ2.set i (.own p ds)).set j (.own q es))
theorem dp_parNN {i j : Nat} {x y : Str} {a b : Expr} {ta tb : DTN} {px py pt pos : Pos} {kt k2 pt2} (hc : X.calm = true) (hN : X.N.Nodup) (hi : X.N[i]? = some x) (hj : X.N[j]? = some y) (hij : i ≠ j)
    (hx : X.env.scope.names.lookup x = some .local) (hy : X.env.scope.names.lookup y = some .local) (ha : DN X a ta) (hb : DN X b tb)
    (hw : swappedStores [.Tuple [.Name x px, .Name y py] kt pt] (.Tuple [a, b] k2 pt2) X.env = pure (some [x, y]))
    (hs : swapsWithSole [.Tuple [.Name x px, .Name y py] kt pt] (.Tuple [a, b] k2 pt2) pos.line X.env = pure false := by rfl)
    (hst : starEach [a, b] X.env = (false, eval a X.env) :: starEach [b] X.env := by rfl) (hst2 : starEach [b] X.env = (false, eval b X.env) :: starEach [] X.env := by rfl) :
    DP X (.Assign [.Tuple [.Name x px, .Name y py] kt pt] (.Tuple [a, b] k2 pt2) pos) (dParNN i j ta tb) := ps_imp (ps_par hc hN hi hj hij hx hy (pa_cons ha (pa_cons hb pa_nil hst2) hst) hw hs) fun D σ H ⟨B, ρ, E, R, q, k⟩ => by
  refine ⟨B, ρ, _, R, q, fun ds ρ1 p vs H1 q1 R1 hp ra hn f0 f1 s1 => ⟨B, ρ1, _, R1, q1, fun es ρ2 p2 us H2 q2 R2 hp2 ra2 hn2 g0 g1 s2 => ?_⟩⟩
  refine ⟨_, _, rfl, ?_⟩
  obtain ⟨hp', f1'⟩ := s2.fr p _ hp f1
  have ne : p2 ≠ p := fun z => by rw [z, hp] at hn2; cases hn2
  refine k.nx _ _ H2 (q2 p p2) ((R2.setOwn i hp' (ra.mono s2.kp _ _) f0 f1').setOwn j hp2 ra2 g0 fun ⟨m, s, e, hs⟩ => ?_) (s1.trans s2).kp
  rcases get_set e with ⟨rfl, rfl⟩ | ⟨hm, e⟩
  · exact ne hs
  · exact g1 ⟨m, s, e, hs⟩
end
end DL

/-! DL: the deck as a dict: cells, turns, seed. -/
namespace DL
open PySem PySem.Spec L2

def ddKvs (c : Addr) (sd tn : Int) : List (Key × V) := [(.inr "cells", .ref c), (.inr "turns", .int tn), (.inr "seed", .int sd)]
def ddR (a c : Addr) (ns : List Int) (sd tn : Int) : Hp → Prop := fun H => H a = some (.dK (ddKvs c sd tn)) ∧ H c = some (.lst (ns.map .int))
def ddX (a c : Addr) (ns : List Int) (sd tn : Int) : Slot := .ext a (dkFp a c) (ddR a c ns sd tn)
def ddR' (a c : Addr) : Hp → Prop := fun H => ∃ ns sd tn, ns.length ≤ 63 ∧ ddR a c ns sd tn H
def ddSlot (a c : Addr) : Slot := .ext a (dkFp a c) (ddR' a c)
theorem ddR_stab (a c : Addr) (ns : List Int) (sd tn : Int) : Stab (ddR a c ns sd tn) (dkFp a c) := fun H H' hf _ ⟨h1, h2⟩ => ⟨(hf a (.inl rfl)).trans h1, (hf c (.inr rfl)).trans h2⟩
theorem ddR'_stab (a c : Addr) : Stab (ddR' a c) (dkFp a c) := fun H H' hf k ⟨ns, sd, tn, h0, h⟩ => ⟨ns, sd, tn, h0, ddR_stab a c ns sd tn H H' hf k h⟩
theorem ddR_ne {a c : Addr} {ns : List Int} {sd tn : Int} {H : Hp} (h : ddR a c ns sd tn H) : a ≠ c := by
  rintro rfl
  obtain ⟨h1, h2⟩ := h
  rw [h1] at h2
  cases h2
theorem ddR_th {a c : Addr} {ns : List Int} {sd tn : Int} {H : Hp} (h : ddR a c ns sd tn H) (b : Addr) (hb : dkFp a c b) : H b ≠ none := by
  rcases hb with rfl | rfl
  · rw [h.1]; simp
  · rw [h.2]; simp
theorem dd_n1 : ¬ ("cells" : Str) = "turns" := by decide +kernel
theorem dd_n2 : ¬ ("cells" : Str) = "seed" := by decide +kernel
theorem dd_n3 : ¬ ("turns" : Str) = "seed" := by decide +kernel
theorem dd_n4 : ¬ ("seed" : Str) = "turns" := by decide +kernel
theorem dd_v0 {c : Addr} {sd tn : Int} : valV (ddKvs c sd tn) (.inr "cells") = some (.ref c) := by simp [valV, ddKvs]
theorem dd_v1 {c : Addr} {sd tn : Int} : valV (ddKvs c sd tn) (.inr "turns") = some (.int tn) := by simp [valV, ddKvs, List.find?_cons, dd_n1]
theorem dd_v2 {c : Addr} {sd tn : Int} : valV (ddKvs c sd tn) (.inr "seed") = some (.int sd) := by simp [valV, ddKvs, List.find?_cons, dd_n2, dd_n3]
theorem dd_p1 {c : Addr} {sd tn n : Int} : putK (ddKvs c sd tn) (.inr "turns") (.int n) = ddKvs c sd n := by simp [putK, ddKvs, dd_n1, dd_n4]
theorem dd_p2 {c : Addr} {sd tn n : Int} : putK (ddKvs c sd tn) (.inr "seed") (.int n) = ddKvs c n tn := by simp [putK, ddKvs, dd_n2, dd_n3]
theorem dd_merge {c : Addr} {sd tn : Int} : mergeK [] (ddKvs c sd tn) = ddKvs c sd tn := by simp [mergeK, putK, ddKvs, dd_n1, dd_n2, dd_n3]
section
variable {K : PySem.W.Frag} {B : Bs} {ρ : Rho} {σ : L2.St} {H H' : Hp} {i : Nat} {a c : Addr} {ns : List Int} {sd tn : Int}
theorem dd_at (R : Rel K B ρ σ H) (e : ρ[i]? = some (ddX a c ns sd tn)) : σ[i]? = some (some (.ref a)) ∧ ddR a c ns sd tn H := by
  obtain ⟨o, eo, rfl, h, _⟩ := R.ok i _ e
  exact ⟨eo, h⟩
theorem dd_a {o1 : Int} {o2 : Int} (R : Rel K B ρ σ H) (e : ρ[i]? = some (ddX a c ns sd tn)) : Rel K B (ρ.set i (ddX a c ns o1 o2)) σ (upd H a (.dK (ddKvs c o1 o2))) ∧ Stp ρ H (ρ.set i (ddX a c ns o1 o2)) (upd H a (.dK (ddKvs c o1 o2))) := by
  obtain ⟨_, h⟩ := dd_at R e
  refine R.setExt e (Kp.dK h.1) (fun b n => th_upd b n) (fun b n => upd_ne fun z => n (.inl z)) ⟨upd_same, ?_⟩ (ddR_stab _ _ _ _ _)
  rw [upd_ne (Ne.symm (ddR_ne h))]
  exact h.2
theorem dd_c {ms : List Int} (R : Rel K B ρ σ H) (e : ρ[i]? = some (ddX a c ns sd tn)) : Rel K B (ρ.set i (ddX a c ms sd tn)) σ (upd H c (.lst (ms.map .int))) ∧ Stp ρ H (ρ.set i (ddX a c ms sd tn)) (upd H c (.lst (ms.map .int))) := by
  obtain ⟨_, h⟩ := dd_at R e
  refine R.setExt e (Kp.lst h.2) (fun b n => th_upd b n) (fun b n => upd_ne fun z => n (.inr z)) ⟨?_, upd_same⟩ (ddR_stab _ _ _ _ _)
  rw [upd_ne (ddR_ne h)]
  exact h.1
end
section
variable {X : Cx} {o e : Expr} {te : DTE} {i : Nat} {pos spos apos cpos lpos ipos zpos : Pos}
def dDdT (i : Nat) : DTE := fun ρ Q => ∃ a c ns sd tn, ρ[i]? = some (ddX a c ns sd tn) ∧ Q (.dat (.int tn)) ρ
def dDdS (i : Nat) : DTE := fun ρ Q => ∃ a c ns sd tn, ρ[i]? = some (ddX a c ns sd tn) ∧ Q (.dat (.int sd)) ρ
theorem de_ddT {k} (hu : X.A.units + 64 < cLine) (hv : PE X o (tVar i)) (hs : NoSl (.Constant (.str "turns") k ipos) := by intro _ _; rfl) : DE X (.Subscript o (.Constant (.str "turns") k ipos) spos) (dDdT i) := pe_imp (pe_dget (by omega) hv pe_str hs) fun σ H Q ⟨B, ρ, Q0, R, q, kk⟩ => by
  obtain ⟨a, c, ns, sd, tn, e, q⟩ := q
  obtain ⟨es, h⟩ := dd_at R e
  have g : DGet H a (.str "turns") (some (.int tn)) := by
    have := DGet.k (k := .inr "turns") h.1
    rw [dd_v1] at this
    exact this
  exact ⟨_, es, a, .int tn, rfl, g, kk _ ρ _ H q R (qint _ _ _ _) (Stp.refl _ _)⟩
theorem de_ddS {k} (hu : X.A.units + 64 < cLine) (hv : PE X o (tVar i)) (hs : NoSl (.Constant (.str "seed") k ipos) := by intro _ _; rfl) : DE X (.Subscript o (.Constant (.str "seed") k ipos) spos) (dDdS i) := pe_imp (pe_dget (by omega) hv pe_str hs) fun σ H Q ⟨B, ρ, Q0, R, q, kk⟩ => by
  obtain ⟨a, c, ns, sd, tn, e, q⟩ := q
  obtain ⟨es, h⟩ := dd_at R e
  have g : DGet H a (.str "seed") (some (.int sd)) := by
    have := DGet.k (k := .inr "seed") h.1
    rw [dd_v2] at this
    exact this
  exact ⟨_, es, a, .int sd, rfl, g, kk _ ρ _ H q R (qint _ _ _ _) (Stp.refl _ _)⟩
theorem pe_dd0 {k} (hu : X.A.units + 64 < cLine) (hv : PE X o (tVar i)) (hs : NoSl (.Constant (.str "cells") k ipos) := by intro _ _; rfl) : PE X (.Subscript o (.Constant (.str "cells") k ipos) spos) (tDGet (tVar i) (tC (.str "cells"))) := pe_dget (by omega) hv pe_str hs
theorem dd0_at {σ : L2.St} {H : Hp} {B : Bs} {ρ : Rho} {a c : Addr} {ns : List Int} {sd tn : Int} {Q : VK} (R : Rel X.K B ρ σ H) (e : ρ[i]? = some (ddX a c ns sd tn)) (q : Q (.ref c) H) : tDGet (tVar i) (tC (.str "cells")) σ H Q := by
  obtain ⟨es, h⟩ := dd_at R e
  have g : DGet H a (.str "cells") (some (.ref c)) := by
    have := DGet.k (k := .inr "cells") h.1
    rw [dd_v0] at this
    exact this
  exact ⟨_, es, a, .ref c, rfl, g, q⟩
/-- deck['cells'] != [] -/
def dDdNe (i : Nat) : DTT := fun ρ Q => ∃ a c ns sd tn, ρ[i]? = some (ddX a c ns sd tn) ∧ Q (decide (ns ≠ [])) ρ
theorem dt_ddNe {k} (hu : X.A.units + 64 < cLine) (hv : PE X o (tVar i)) (hs : NoSl (.Constant (.str "cells") k ipos) := by intro _ _; rfl) : DT X (.Compare (.Subscript o (.Constant (.str "cells") k ipos) spos) [.NotEq] [.List [] lpos] cpos) (dDdNe i) := by
  refine pt_imp (pt_cmpR (op_neD hu) (pe_dd0 hu hv hs) (pe_lst pa_nil) (nomark _)) fun σ H Q ⟨B, ρ, Q0, R, q, kk⟩ => ?_
  obtain ⟨a, c, ns, sd, tn, e, q⟩ := q
  refine dd0_at R e ⟨Nat.zero_le _, fun p np => ?_⟩
  have sm : Same H (upd H p (.lst [])) := same_new np
  have R' := R.same sm
  obtain ⟨_, h⟩ := dd_at R' e
  refine ⟨.list (ns.map .int), .list [], .lst (SqL.of h.2) (dpAll_ints ns), .lst (SqL.of upd_same) .nil, shaped_ints ns, shaped_ints [], ?_⟩
  refine ⟨_, rfl, ?_⟩
  have : (!PyData.eqv (.list (ns.map PyData.int)) (.list [])) = decide (ns ≠ []) := by
    cases ns with
    | nil => rfl
    | cons n ns => rfl
  rw [this]
  exact kk _ ρ _ q R' (Stp.same sm)
/-- deck['cells'].pop(0), deck['cells'].insert(0, e) -/
def dDdPop (i : Nat) : DTE := fun ρ Q => ∃ a c ns n sd tn, ρ[i]? = some (ddX a c (n :: ns) sd tn) ∧ ns.length < 64 ∧ Q (.dat (.int n)) (ρ.set i (ddX a c ns sd tn))
theorem de_ddPop {k k2} (hu : X.A.units + 64 < cLine) (hv : PE X o (tVar i)) (hs : NoSl (.Constant (.str "cells") k ipos) := by intro _ _; rfl) (hbase : attributeBase (.Subscript o (.Constant (.str "cells") k ipos) spos) "pop" X.env (eval (.Subscript o (.Constant (.str "cells") k ipos) spos) X.env) = eval (.Subscript o (.Constant (.str "cells") k ipos) spos) X.env := by rfl)
    (hfew : ((backTo cpos (starEach [.Constant (.int 0) k2 zpos] X.env)).all (fun x => !x.1) && (backToKw cpos (keywordEach [] X.env)).all (fun x => x.1.isSome)
      && decide (([.Constant (.int 0) k2 zpos] : List Expr).length + ([] : List Keyword).length + (if ([] : List Keyword).isEmpty then 0 else 1) < 30)) = true := by rfl)
    (hline : (apos.endLine == cpos.line) = true := by rfl) (hst : starEach [.Constant (.int 0) k2 zpos] X.env = (false, eval (.Constant (.int 0) k2 zpos) X.env) :: starEach [] X.env := by rfl) (hplain : (backTo cpos (starEach [] X.env)).any (·.1) = false := by rfl) :
    DE X (.Call (.Attribute (.Subscript o (.Constant (.str "cells") k ipos) spos) "pop" apos) [.Constant (.int 0) k2 zpos] [] cpos) (dDdPop i) := by
  refine pe_imp (pe_bm PySem.F.plainAttrs_list PySem.F.slot_list_pop PySem.F.type_list_pop mt_popAt (pe_dd0 hu hv hs) (pa_cons pe_int pa_nil hst) hbase hfew hline hst hplain) fun σ H Q ⟨B, ρ, Q0, R, q, kk⟩ => ?_
  obtain ⟨a, c, ns, n, sd, tn, e, hz, q⟩ := q
  obtain ⟨_, h⟩ := dd_at R e
  refine dd0_at R e ⟨.inl ⟨rfl, _, SqL.of h.2⟩, c, _, 0, 0, .int n, rfl, rfl, h.2, by decide, by decide, ?_, rfl, ?_⟩
  · rw [List.length_map, List.length_cons]
    simp [seqIndex?]
  · obtain ⟨R', s'⟩ := dd_c (ms := ns) R e
    exact kk _ _ _ _ q R' (qint _ _ _ _) s'
def dDdIns (i : Nat) (te : DTE) : DTE := fun ρ Q => ∃ a c ns sd tn, ρ[i]? = some (ddX a c ns sd tn) ∧ te ρ fun r ρ1 => ∃ n, r = .dat (.int n) ∧ ρ1 = ρ ∧ ns.length < 64 ∧ Q (.dat .none) (ρ.set i (ddX a c (n :: ns) sd tn))
theorem de_ddIns {k k2} (hu : X.A.units + 64 < cLine) (hv : PE X o (tVar i)) (he : DE X e te) (hs : NoSl (.Constant (.str "cells") k ipos) := by intro _ _; rfl) (hbase : attributeBase (.Subscript o (.Constant (.str "cells") k ipos) spos) "insert" X.env (eval (.Subscript o (.Constant (.str "cells") k ipos) spos) X.env) = eval (.Subscript o (.Constant (.str "cells") k ipos) spos) X.env := by rfl)
    (hfew : ((backTo cpos (starEach [.Constant (.int 0) k2 zpos, e] X.env)).all (fun x => !x.1) && (backToKw cpos (keywordEach [] X.env)).all (fun x => x.1.isSome)
      && decide (([.Constant (.int 0) k2 zpos, e] : List Expr).length + ([] : List Keyword).length + (if ([] : List Keyword).isEmpty then 0 else 1) < 30)) = true := by rfl)
    (hline : (apos.endLine == cpos.line) = true := by rfl) (hst : starEach [.Constant (.int 0) k2 zpos, e] X.env = (false, eval (.Constant (.int 0) k2 zpos) X.env) :: starEach [e] X.env := by rfl) (hst2 : starEach [e] X.env = (false, eval e X.env) :: starEach [] X.env := by rfl) (hplain : (backTo cpos (starEach [e] X.env)).any (·.1) = false := by rfl) :
    DE X (.Call (.Attribute (.Subscript o (.Constant (.str "cells") k ipos) spos) "insert" apos) [.Constant (.int 0) k2 zpos, e] [] cpos) (dDdIns i te) := by
  refine pe_imp (pe_bm PySem.F.plainAttrs_list PySem.F.slot_list_insert PySem.F.type_list_insert mt_insert (pe_dd0 hu hv hs) (pa_cons pe_int (pa_cons he pa_nil hst2) hst) hbase hfew hline hst hplain) fun σ H Q ⟨B, ρ, Q0, R, q, kk⟩ => ?_
  obtain ⟨a, c, ns, sd, tn, ei, q⟩ := q
  obtain ⟨_, h⟩ := dd_at R ei
  refine dd0_at R ei ⟨.inl ⟨rfl, _, SqL.of h.2⟩, B, ρ, _, R, q, fun r ρ1 v H1 q1 R1 k1 s1 => ?_⟩
  obtain ⟨n, rfl, rfl, hz, q1⟩ := q1
  obtain ⟨_, h1⟩ := dd_at R1 ei
  have k1 := rint k1
  subst k1
  have hn : ns.length < sizeLine := Nat.lt_of_lt_of_le hz (by decide)
  refine ⟨c, _, 0, .int n, rfl, rfl, h1.2, by rw [List.length_map]; exact hn, by decide, by decide, ?_⟩
  obtain ⟨R', s'⟩ := dd_c (ms := n :: ns) R1 ei
  exact kk _ _ _ _ q1 R' (qnone _ _ _) (s1.trans s')
/-- deck['turns'] = e, deck['seed'] = e -/
def dDdSetT (i : Nat) (te : DTE) : DTS := fun E ρ => te ρ fun r ρ1 => ∃ a c ns sd tn n, r = .dat (.int n) ∧ ρ1[i]? = some (ddX a c ns sd tn) ∧ E.nx (ρ1.set i (ddX a c ns sd n))
def dDdSetS (i : Nat) (te : DTE) : DTS := fun E ρ => te ρ fun r ρ1 => ∃ a c ns sd tn n, r = .dat (.int n) ∧ ρ1[i]? = some (ddX a c ns sd tn) ∧ E.nx (ρ1.set i (ddX a c ns n tn))
theorem dp_ddSetT {k} (hu : X.A.units + 64 < cLine) (hv : PE X o (tVar i)) (he : DE X e te) (hs : swapsWithSole [.Subscript o (.Constant (.str "turns") k ipos) spos] e pos.line X.env = pure false := by rfl) (hw : swappedStores [.Subscript o (.Constant (.str "turns") k ipos) spos] e X.env = pure none := by rfl)
    (h1 : (assignEach [.Subscript o (.Constant (.str "turns") k ipos) spos] X.env).map (·.2) = [assign (.Subscript o (.Constant (.str "turns") k ipos) spos) X.env] := by rfl) :
    DP X (.Assign [.Subscript o (.Constant (.str "turns") k ipos) spos] e pos) (dDdSetT i te) := by
  refine ps_imp (ps_asg he (pg_sub hv pe_str (set_dict (by omega))) hs hw h1) fun D σ H ⟨B, ρ, E, R, q, kk⟩ => ?_
  refine ⟨B, ρ, _, R, q, fun r ρ1 v H1 q1 R1 k1 s1 => ?_⟩
  obtain ⟨a, c, ns, sd, tn, n, rfl, e, q1⟩ := q1
  obtain ⟨es, h⟩ := dd_at R1 e
  have k1 := rint k1
  subst k1
  obtain ⟨R', s'⟩ := dd_a (o1 := sd) (o2 := n) R1 e
  exact ⟨_, es, a, _, rfl, .inl ⟨_, .inr "turns", h.1, rfl, show (3 : Nat) < sizeLine by decide, by rw [dd_p1]⟩, kk.nx _ _ _ q1 R' (s1.trans s').kp⟩
theorem dp_ddSetS {k} (hu : X.A.units + 64 < cLine) (hv : PE X o (tVar i)) (he : DE X e te) (hs : swapsWithSole [.Subscript o (.Constant (.str "seed") k ipos) spos] e pos.line X.env = pure false := by rfl) (hw : swappedStores [.Subscript o (.Constant (.str "seed") k ipos) spos] e X.env = pure none := by rfl)
    (h1 : (assignEach [.Subscript o (.Constant (.str "seed") k ipos) spos] X.env).map (·.2) = [assign (.Subscript o (.Constant (.str "seed") k ipos) spos) X.env] := by rfl) :
    DP X (.Assign [.Subscript o (.Constant (.str "seed") k ipos) spos] e pos) (dDdSetS i te) := by
  refine ps_imp (ps_asg he (pg_sub hv pe_str (set_dict (by omega))) hs hw h1) fun D σ H ⟨B, ρ, E, R, q, kk⟩ => ?_
  refine ⟨B, ρ, _, R, q, fun r ρ1 v H1 q1 R1 k1 s1 => ?_⟩
  obtain ⟨a, c, ns, sd, tn, n, rfl, e, q1⟩ := q1
  obtain ⟨es, h⟩ := dd_at R1 e
  have k1 := rint k1
  subst k1
  obtain ⟨R', s'⟩ := dd_a (o1 := n) (o2 := tn) R1 e
  exact ⟨_, es, a, _, rfl, .inl ⟨_, .inr "seed", h.1, rfl, show (3 : Nat) < sizeLine by decide, by rw [dd_p2]⟩, kk.nx _ _ _ q1 R' (s1.trans s').kp⟩
end
end DL

/-! DL: draws from the dict deck, the def that makes it. -/
namespace DL
open PySem PySem.Spec L2

def ddrawX : FSp := fun as Q0 => ∃ a c ns sd tn n, as = [ddX a c ns sd tn, .dat (.int n)] ∧ ns.length ≤ 63 ∧ 0 < n ∧ n < 2 ^ 64 ∧ ∀ r ns' sd' tn', 0 ≤ r → r < n → ns'.length ≤ 63 → Q0 (.int r) [ddX a c ns' sd' tn', .no]
def ddrawS : FSp := fun as Q0 => ∃ a c n, as = [ddSlot a c, .dat (.int n)] ∧ 0 < n ∧ n < 2 ^ 64 ∧ ∀ r, 0 ≤ r → r < n → Q0 (.int r) [ddSlot a c, .no]
theorem ddraw_weak {K : PySem.W.Frag} {vs : List V} {H : Hp} {Q : VK} {E : XK} (h : spOf K ddrawS vs H Q E) : spOf K ddrawX vs H Q E := by
  obtain ⟨as, Q0, A, ⟨a, c, n, rfl, h0, h1, hq⟩, kk⟩ := h
  obtain ⟨o, eo, ex, ⟨ns, sd, tn, g0, g3⟩, st, th⟩ := A.ok 0 _ rfl
  have fpe : ∀ b, InFp [ddX a c ns sd tn, Slot.dat (.int n)] b ↔ InFp [ddSlot a c, Slot.dat (.int n)] b := fun b => by
    constructor
    · rintro ⟨i, s, e, hs⟩
      cases i with
      | zero => cases Option.some.inj e; exact ⟨0, _, rfl, hs⟩
      | succ i =>
        cases i with
        | zero => cases Option.some.inj e; exact hs.elim
        | succ i => simp at e
    · rintro ⟨i, s, e, hs⟩
      cases i with
      | zero => cases Option.some.inj e; exact ⟨0, _, rfl, hs⟩
      | succ i =>
        cases i with
        | zero => cases Option.some.inj e; exact hs.elim
        | succ i => simp at e
  have fpe' : InFp [ddX a c ns sd tn, Slot.dat (.int n)] = InFp [ddSlot a c, Slot.dat (.int n)] := funext fun b => propext (fpe b)
  refine ⟨[ddX a c ns sd tn, .dat (.int n)], fun d outs => ∃ r ns' sd' tn', d = .int r ∧ 0 ≤ r ∧ r < n ∧ ns'.length ≤ 63 ∧ outs = [ddX a c ns' sd' tn', .no], ?_, ⟨a, c, ns, sd, tn, n, rfl, g0, h0, h1, fun r ns' sd' tn' a1 a2 a3 => ⟨r, ns', sd', tn', rfl, a1, a2, a3, rfl⟩⟩, ?_⟩
  · refine ⟨A.len, fun i s e => ?_, ?_, A.kp, A.th, fun i s b e hb => ?_, fun i j s t b e1 e2 h1 h2 => ?_⟩
    · cases i with
      | zero =>
        cases Option.some.inj e
        exact ⟨o, eo, ex, g3, ddR_stab _ _ _ _ _, th⟩
      | succ i =>
        cases i with
        | zero => cases Option.some.inj e; exact A.ok 1 _ rfl
        | succ i => simp at e
    · intro b u e n
      exact e
    · exact .inr ⟨i, s, e, hb⟩
    · cases i with
      | zero =>
        cases j with
        | zero => rfl
        | succ j =>
          cases j with
          | zero => cases Option.some.inj e2; exact h2.elim
          | succ j => simp at e2
      | succ i =>
        cases i with
        | zero => cases Option.some.inj e1; exact h1.elim
        | succ i => simp at e1
  · rintro d outs v H' ⟨r, ns', sd', tn', rfl, a1, a2, a3, rfl⟩ ro
    refine kk _ _ v H' (hq r a1 a2) ?_
    obtain ⟨_, q1, q2, q3, q4⟩ := ro.ok 0 _ _ _ rfl
    refine ⟨ro.rep, ro.kp, ro.th, fun b u e nb => ro.fr b u e (by rw [fpe']; exact nb), fun i a' fp' R' e => ?_, fun i a' fp' R' e => ?_, fun i j s t b e1 e2 h1 h2 => ?_, rfl⟩
    · cases i with
      | zero => cases Option.some.inj e; exact ⟨_, _, rfl⟩
      | succ i =>
        cases i with
        | zero => cases Option.some.inj e
        | succ i => simp at e
    · cases i with
      | zero =>
        cases Option.some.inj e
        refine ⟨⟨_, _, rfl⟩, ⟨ns', sd', tn', a3, q1⟩, ddR'_stab _ _, q3, fun b hb => ?_⟩
        rcases q4 b hb with w | w
        · exact .inl w
        · exact .inr ((fpe b).mp w)
      | succ i =>
        cases i with
        | zero => cases Option.some.inj e
        | succ i => simp at e
    · cases i with
      | zero =>
        cases j with
        | zero => rfl
        | succ j =>
          cases j with
          | zero => cases Option.some.inj e2; exact h2.elim
          | succ j => simp at e2
      | succ i =>
        cases i with
        | zero => cases Option.some.inj e1; exact h1.elim
        | succ i => simp at e1
theorem FnG.ddraw {P : Program} {w : World} {K : PySem.W.Frag} {mg : Str → Option Value} {base : Heap} {CX : CXT} {k : Nat} {f : Addr} {fd : FuncData} {ps : List Str} (F : FnG P w K mg base CX k f fd ps (spOf K ddrawX)) : FnG P w K mg base CX k f fd ps (spOf K ddrawS) := F.weak fun _ _ _ _ => ddraw_weak
/-- a deck made of a list of numbers -/
def ddeckSp (K : PySem.W.Frag) : Sp := fun vs H Q _ => ∃ (ns : List Int) (v : V), vs = [v] ∧ Rep K H (.list (ns.map .int)) v ∧ ∀ a c H', H a = none → H c = none → Same H H' → ddR' a c H' → Q (.ref a) H'
def liftXd (K : PySem.W.Frag) (u : DTX) : TS := fun D σ H => ∃ B ρ P, Rel K B ρ σ H ∧ (∀ b, ¬ B.M b) ∧ u P ρ ∧ ∀ a c ns sd H', P ns sd → ddR a c ns sd 0 H' → B.H0 a = none → B.H0 c = none → Same B.H0 H' → D.rt (.ref a) H'
section
variable {X : Cx} {e a b : Expr} {te ta tb : DTE} {tn : DTN} {pos lpos : Pos} {st : Stmt} {rest : List Stmt} {t : DTS} {u : DTX}
theorem xd_cons (h1 : DP X st t) (h2 : PSs X rest (liftXd X.K u)) : PSs X (st :: rest) (liftXd X.K (xSeq t u)) := pss_imp (pss_cons h1 h2) fun D σ H ⟨B, ρ, P, R, m, q, k⟩ =>
  ⟨B, ρ, _, R, q, fun ρ' σ' H' q' R' kp => ⟨B, ρ', P, R', m, q', k⟩, fun d ρ' v σ' H' z => z.elim, fun ρ' σ' H' z => z.elim, fun ρ' σ' H' z => z.elim⟩
theorem xd_ret {k1 k2 k3 k4} {p1 p2 p3 p4 : Pos} (h0 : DN X a tn) (h1 : DE X b te) :
    PSs X [.Return (some (.Dict [some (.Constant (.str "cells") k1 p1), some (.Constant (.str "turns") k2 p2), some (.Constant (.str "seed") k3 p3)] [a, .Constant (.int 0) k4 p4, b] lpos)) pos] (liftXd X.K (xRet tn te)) := by
  refine pss_one (ps_imp (ps_ret (pe_disp (pps_cons pe_str h0 (pps_cons pe_str pe_int (pps_cons pe_str h1 pps_nil))) rfl rfl (by simp) (by simp))) fun D σ H ⟨B, ρ, P, R, m, q, kk⟩ => ?_)
  intro p np
  obtain ⟨n0, n1⟩ := R.new np
  have sm : Same H (upd H p (.dK [])) := same_new np
  refine ⟨B, ρ, _, R.same sm, q, fun ds ρ1 p' vs H1 q1 R1 hp ra hn f0 f1 s1 => ?_⟩
  obtain ⟨ns, rfl, q1⟩ := q1
  rw [ra.ints_of] at hp
  refine ⟨B, ρ1, _, R1, q1, fun r ρ2 v H2 q2 R2 k2 s2 => ?_⟩
  obtain ⟨sd, rfl, q2⟩ := q2
  have k2 := rint k2
  subst k2
  obtain ⟨g1, g2⟩ := s1.fr p _ upd_same n1
  obtain ⟨g3, g4⟩ := s2.fr p _ g1 g2
  obtain ⟨hp2, _⟩ := s2.fr p' _ hp f1
  have ne : p' ≠ p := fun z => by rw [z, g3] at hp2; cases hp2
  refine ⟨g3, ddKvs p' sd 0, rfl, (show (3 : Nat) ≤ 15 by decide), ?_⟩
  rw [dd_merge]
  have b0 : ∀ x, (B.H0 x = none ∨ B.M x) → B.H0 x = none := fun x h => h.elim id fun z => (m x z).elim
  refine kk p p' ns sd _ q2 ⟨upd_same, by rw [upd_ne ne]; exact hp2⟩ (b0 p n0) (b0 p' f0) fun b o eb => ?_
  have hb := R2.frame b o eb (m b)
  have nb : b ≠ p := fun z => by rw [← z, eb] at n0; exact (n0.elim (fun z => nomatch z) fun z => m b z)
  rw [upd_ne nb]
  exact hb
end
/-- the def that makes the deck -/
theorem fun_ddeck {P : Program} {w : World} {K : PySem.W.Frag} {mg : Str → Option Value} {base : Heap} {x qual : Str} {st : Stmt} {f : Addr} {fd : FuncData} {N ps : List Str} {k : Nat} (F : Fun K x qual st f fd) (C : FnScope N ps (defScope st)) (hps : ps.length = 1)
    (hbody : ∀ (cdv : Value) (A : Around) (outer : List Env) (s : Shared) (H : Hp) (E : XK), Room k (A.deeper (PyProof.Rows.envOfC qual (defScope st) s.heap.objs.size f cdv)) → (A.deeper (PyProof.Rows.envOfC qual (defScope st) s.heap.objs.size f cdv)).guards = some [] →
      ∃ u, PSs (cxOf CX0 P w K mg base N qual (defScope st) f cdv A outer s H E).nox (defBody st) (liftXd K u) ∧ ∀ (ns : List Int) (P : List Int → Int → Prop), (∀ ms sd, ms.length ≤ 63 → P ms sd) → u P (.dat (.list (ns.map .int)) :: List.replicate (N.length - 1) .no)) :
    FnG P w K mg base CX0 (k + 1) f fd ps (ddeckSp K) := by
  have lenV : ∀ vs H Q E, ddeckSp K vs H Q E → vs.length = ps.length := fun vs H Q E ⟨ns, v, e, _⟩ => by rw [e, hps]; rfl
  refine fun_okG F C lenV fun cdv A outer s H vs Q E hr hg h => ?_
  obtain ⟨t, ht, hs⟩ := hbody cdv A outer s H E hr hg
  refine ⟨_, PSs.nox ht, ?_⟩
  obtain ⟨ns, v, rfl, rp, q⟩ := h
  have R0 : Rel K ⟨H, fun _ => False⟩ [.dat (.list (ns.map .int))] [some v] H := by
    refine ⟨rfl, fun i s e => ?_, fun b o e _ => e, Kp.refl H, fun _ z => z, fun i s b e hb => ?_, fun i j s t b e1 e2 h1 h2 => ?_⟩
    · cases i with
      | zero =>
        have e := Option.some.inj e
        subst e
        exact ⟨_, rfl, _, rfl, rp⟩
      | succ i => simp at e
    · cases i with
      | zero =>
        have e := Option.some.inj e
        subst e
        exact hb.elim
      | succ i => simp at e
    · cases i with
      | zero =>
        have e1 := Option.some.inj e1
        subst e1
        exact h1.elim
      | succ i => simp at e1
  refine ⟨⟨H, fun _ => False⟩, _, fun ms _ => ms.length ≤ 63, Rel.extend R0 (N.length - 1), fun _ z => z, hs ns _ fun ms sd z => z, fun a c ms sd H' z d ha hc sm => ?_⟩
  exact q a c H' ha hc sm ⟨ms, sd, 0, z, d⟩
section
variable {X : Cx} {k : Nat} {f : Addr} {fd : FuncData} {ps : List Str} {x : Str} {p pos : Pos} {e : Expr} {es : List Expr}
def dSetDd (i : Nat) (te : DTE) : DTS := fun E ρ => te ρ fun r ρ1 => ∃ ns : List Int, r = .dat (.list (ns.map .int)) ∧ ∀ a c, E.nx (ρ1.set i (ddSlot a c))
theorem dp_setDd {i : Nat} {y : Str} {te : DTE} {pos' spos : Pos} (F : FnG X.prog X.w X.K X.mg X.base CX0 k f fd ps (ddeckSp X.K)) (hr : Room k X.A) (hgd : X.A.guards = some []) (hg : Gl X x) (hm : X.mg x = some (.ref f)) (hk : PySem.W.keepIn X.K (.ref f) = true) (hb : Binds X.K fd ps [])
    (he : DE X e te) (hN : X.N.Nodup) (hi : X.N[i]? = some y) (hx : Loc X.env.scope y) (hdb : (x == ("__debug__" : Str)) = false := by decide) (hst : starEach [e] X.env = (false, eval e X.env) :: starEach [] X.env := by rfl) (hpl : (backTo pos (starEach [] X.env)).any (·.1) = false := by rfl)
    (hs : swapsWith (.Call (.Name x p) [e] [] pos) (some (.Name y pos')) spos.line X.env = pure false := by rfl) (hf : X.fn y = true ∨ X.env.scope.names.lookup y = some .local := by first | exact .inl rfl | exact .inr rfl | assumption) :
    DP X (.Assign [.Name y pos'] (.Call (.Name x p) [e] [] pos) spos) (dSetDd i te) := ps_imp (ps_set hN hi hx (pe_callG F hr hgd hg hm hk hb (da_cons he da_nil hst) hdb hst hpl) hs hf) fun D σ H ⟨B, ρ, E, R, q, kk⟩ => by
  refine ⟨B, ρ, fun rs ρ1 => ∃ ns : List Int, rs = [.dat (.list (ns.map .int))] ∧ ∀ a c, E.nx (ρ1.set i (ddSlot a c)), R, ?_, fun rs ρ1 vs H1 q1 R1 k1 s1 => ?_⟩
  · refine cast ?_ q
    show te ρ _ = te ρ _
    congr 1
    funext r ρ1
    simp [dNil]
  · obtain ⟨ns, rfl, q1⟩ := q1
    obtain ⟨v, rfl, k2⟩ := k1.one
    refine ⟨ns, v, rfl, k2, fun a c H' ha hc sm d => ?_⟩
    obtain ⟨a0, a1⟩ := R1.new ha
    obtain ⟨c0, c1⟩ := R1.new hc
    refine kk.nx _ _ H' (q1 a c) ((R1.same sm).setNew i d (ddR'_stab _ _) fun b hb => ?_) (s1.kp.trans (Kp.same sm))
    obtain ⟨ms, sd, tn, _, dd⟩ := d
    refine ⟨ddR_th dd b hb, ?_⟩
    rcases hb with rfl | rfl
    · exact ⟨a0, a1⟩
    · exact ⟨c0, c1⟩
end
end DL

/-! DL: isinstance of a tree, chained comparisons. -/
namespace DL
open PySem PySem.Spec L2

def tyD : PyData → String
  | .none => "NoneType"
  | .bool _ => "bool"
  | .int _ => "int"
  | .str _ => "str"
  | .list _ => "list"
  | .tuple _ => "tuple"
  | .dict _ => "dict"
theorem ty_rep {K : PySem.W.Frag} {H : Hp} {d : PyData} {v : V} (h : Rep K H d v) : TyX K H v (.type (tyD d)) := by
  cases d with
  | none => rw [Rep] at h; subst h; exact .base .non
  | bool b => rw [Rep] at h; subst h; exact .base (.bl b)
  | int i => rw [Rep] at h; subst h; exact .base (.int i)
  | str x => rw [Rep] at h; subst h; exact .base (.str x)
  | list ds =>
    rw [Rep] at h
    obtain ⟨a, xs, rfl, f, _⟩ := h
    rcases f with ⟨o, f⟩ | ⟨o, its, n, e, c, _⟩
    · exact .base (.frz f)
    · exact .kList e c
  | tuple ds =>
    rw [Rep] at h
    obtain ⟨a, xs, rfl, f, _⟩ := h
    rcases f with (f | ⟨o, f⟩) | ⟨o, its, n, e, c, _⟩
    · exact .base (.tup f)
    · exact .fTuple f
    · exact .kTuple e c
  | dict kvs =>
    rw [Rep] at h
    obtain ⟨a, ps, rfl, ⟨o, f⟩, _⟩ := h
    exact .fDict f
def isiD (n : String) (d : PyData) : Bool := decide (tyD d = n) || (decide (n = "int") && decide (tyD d = "bool"))
def IsiOk (n : String) : Prop := ∀ t ∈ ["NoneType", "bool", "int", "str", "list", "tuple", "dict"], kitB t n = some (decide (t = n) || (decide (n = "int") && decide (t = "bool")))
theorem isi_int : IsiOk "int" := by unfold IsiOk; decide +kernel
theorem isi_bool : IsiOk "bool" := by unfold IsiOk; decide +kernel
theorem isi_str : IsiOk "str" := by unfold IsiOk; decide +kernel
theorem isi_tuple : IsiOk "tuple" := by unfold IsiOk; decide +kernel
theorem isi_list : IsiOk "list" := by unfold IsiOk; decide +kernel
theorem isi_dict : IsiOk "dict" := by unfold IsiOk; decide +kernel
theorem tyD_mem (d : PyData) : tyD d ∈ ["NoneType", "bool", "int", "str", "list", "tuple", "dict"] := by cases d <;> simp [tyD]
section
variable {X : Cx} {e a b c : Expr} {te ta tb tc : DTE} {p np pos : Pos} {n : String} {x : Str}
/-- isinstance(e, T) -/
def dIsi (n : String) (te : DTE) : DTE := fun ρ Q => te ρ fun r ρ1 => ∃ d, r = .dat d ∧ Q (.dat (.bool (isiD n d))) ρ1
theorem de_isi (hi : IsiOk n) (hg : Gl X "isinstance") (hm : X.mg "isinstance" = none) (he : DE X e te) (hg2 : Gl X x) (hm2 : X.mg x = none) (hv2 : bootBuiltins x = some (.type n)) (hn : x ≠ "__name__" := by decide) (hd : (x == ("__debug__" : Str)) = false := by decide)
    (hv : bootBuiltins "isinstance" = some (.builtin "isinstance") := by decide +kernel)
    (h1 : starEach [e, .Name x np] X.env = (false, eval e X.env) :: starEach [.Name x np] X.env := by rfl) (h2 : starEach [.Name x np] X.env = (false, eval (.Name x np) X.env) :: starEach [] X.env := by rfl) (hpl : (backTo pos (starEach [.Name x np] X.env)).any (·.1) = false := by rfl) :
    DE X (.Call (.Name "isinstance" p) [e, .Name x np] [] pos) (dIsi n te) := by
  refine pe_imp (pe_callB call_isi hg hm hv (pa_cons he (pa_cons (pe_bltn (v := .ty n) hg2 hm2 hv2 rfl hn hd) pa_nil h2) h1) (by decide) (by decide) h1 hpl) fun σ H Q ⟨B, ρ, Q0, R, q, kk⟩ => ?_
  refine ⟨B, ρ, _, R, q, fun r ρ1 v H1 q1 R1 k1 s1 => ?_⟩
  obtain ⟨d, rfl, q1⟩ := q1
  refine ⟨v, .ty n, .type (tyD d), .type n, isiD n d, rfl, .ty n, ty_rep (show Rep X.K H1 d v from k1), kit_ty (hi _ (tyD_mem d)), kk _ ρ1 _ H1 q1 R1 (by show Rep X.K H1 (.bool _) _; rw [Rep]) s1⟩
/-- a <= b <= c, numbers -/
def CmpI (f : Int → Int → Bool) (op : CmpOp) (X : Cx) : Prop := OpR X (compareOp op) (fun x y H Q => ∃ i j, x = .int i ∧ y = .int j ∧ Q (.bl (f i j)) H)
def dChain (f g : Int → Int → Bool) (ta tb tc : DTE) : DTE := fun ρ Q => ta ρ fun r1 ρ1 => tb ρ1 fun r2 ρ2 => ∃ i j, r1 = .dat (.int i) ∧ r2 = .dat (.int j) ∧ (f i j = true → tc ρ2 fun r3 ρ3 => ∃ k, r3 = .dat (.int k) ∧ Q (.dat (.bool (g j k))) ρ3) ∧ (f i j = false → Q (.dat (.bool false)) ρ2)
theorem de_chain {op op' : CmpOp} {f g : Int → Int → Bool} (ho : CmpI f op X) (ho' : CmpI g op' X) (ha : DE X a ta) (hb : DE X b tb) (hc : DE X c tc)
    (hm : lastMarks [op, op'] [b, c] = false := by with_unfolding_all rfl) : DE X (.Compare a [op, op'] [b, c] pos) (dChain f g ta tb tc) := by
  refine pe_imp (pe_chain ho ho' ha hb hc hm) fun σ H Q ⟨B, ρ, Q0, R, q, kk⟩ => ?_
  refine ⟨B, ρ, _, R, q, fun r1 ρ1 v1 H1 q1 R1 k1 s1 => ⟨B, ρ1, _, R1, q1, fun r2 ρ2 v2 H2 q2 R2 k2 s2 => ?_⟩⟩
  obtain ⟨i, j, rfl, rfl, qt, qf⟩ := q2
  have k1 := rint k1
  have k2' := rint k2
  subst k1 k2'
  refine ⟨i, j, rfl, rfl, _, rfl, ?_⟩
  cases hf : f i j with
  | false => exact iteF (kk _ ρ2 _ H2 (qf hf) R2 (by show Rep X.K H2 (.bool _) _; rw [Rep]) (s1.trans s2))
  | true =>
    refine iteT ⟨B, ρ2, _, R2, qt hf, fun r3 ρ3 v3 H3 q3 R3 k3 s3 => ?_⟩
    obtain ⟨k, rfl, q3⟩ := q3
    have k3 := rint k3
    subst k3
    exact ⟨j, k, rfl, rfl, kk _ ρ3 _ H3 q3 R3 (by show Rep X.K H3 (.bool _) _; rw [Rep]) ((s1.trans s2).trans s3)⟩
end
end DL
namespace DL
open PySem PySem.Spec L2
section
variable {X : Cx} {e a b c : Expr} {te ta tb tc : DTE} {p np pos : Pos}
theorem dt_chain {op op' : CmpOp} {f g : Int → Int → Bool} (ho : CmpI f op X) (ho' : CmpI g op' X) (ha : DE X a ta) (hb : DE X b tb) (hc : DE X c tc)
    (hm : lastMarks [op, op'] [b, c] = false := by with_unfolding_all rfl) : DT X (.Compare a [op, op'] [b, c] pos) (dB (dChain f g ta tb tc)) := by
  refine pt_imp (pt_chain ho ho' ha hb hc hm) fun σ H Q ⟨B, ρ, Q0, R, q, kk⟩ => ?_
  refine ⟨B, ρ, _, R, q, fun r1 ρ1 v1 H1 q1 R1 k1 s1 => ⟨B, ρ1, _, R1, q1, fun r2 ρ2 v2 H2 q2 R2 k2 s2 => ?_⟩⟩
  obtain ⟨i, j, rfl, rfl, qt, qf⟩ := q2
  have k1 := rint k1
  have k2' := rint k2
  subst k1 k2'
  refine ⟨i, j, rfl, rfl, _, rfl, ?_⟩
  cases hf : f i j with
  | false =>
    obtain ⟨b, e, q3⟩ := qf hf
    cases e
    exact iteF ⟨_, rfl, kk _ ρ2 H2 q3 R2 (s1.trans s2)⟩
  | true =>
    refine iteT ⟨B, ρ2, _, R2, qt hf, fun r3 ρ3 v3 H3 q3 R3 k3 s3 => ?_⟩
    obtain ⟨k, rfl, b, e, q3⟩ := q3
    have k3 := rint k3
    subst k3
    have e : b = g j k := by injection e with z; injection z with z; exact z.symm
    subst e
    exact ⟨j, k, rfl, rfl, _, rfl, kk _ ρ3 H3 q3 R3 ((s1.trans s2).trans s3)⟩
theorem ci_le : CmpI (fun i j => decide (i ≤ j)) .LtE X := op_le
theorem ci_lt : CmpI (fun i j => decide (i < j)) .Lt X := op_lt
end
end DL

/-! DL: dicts that the module has written, keys texts. -/
namespace DL
open PySem PySem.Spec L2

def tblGet (tbl : List (Str × PyData)) (z : Str) : Option PyData := (tbl.find? fun p => decide (p.1 = z)).map (·.2)
structure WDct (K : PySem.W.Frag) (w : World) (d : Addr) (tbl : List (Str × PyData)) : Prop where
  D : ∃ es n, KDict K w d es n
  yes : ∀ z p, tblGet tbl z = some p → ∃ u v, PySem.W.nsIn K d z = some (some u) ∧ RelV v u ∧ ∀ H, Rep K H p v
  no : ∀ z, tblGet tbl z = none → PySem.W.nsIn K d z = some none
theorem WDct.has {K : PySem.W.Frag} {w : World} {d : Addr} {tbl : List (Str × PyData)} (W : WDct K w d tbl) (z : Str) : ∃ r, PySem.W.nsIn K d z = some r ∧ r.isSome = (tblGet tbl z).isSome := by
  cases e : tblGet tbl z with
  | none => exact ⟨none, W.no z e, rfl⟩
  | some p =>
    obtain ⟨u, v, h, _⟩ := W.yes z p e
    exact ⟨some u, h, rfl⟩
section
variable {X : Cx} {e : Expr} {te : DTE} {p pos : Pos} {x : Str} {d : Addr} {tbl : List (Str × PyData)}
def dKIn (neg : Bool) (tbl : List (Str × PyData)) (te : DTE) : DTE := fun ρ Q => te ρ fun r ρ1 => ∃ z, r = .dat (.str z) ∧ Q (.dat (.bool (if neg then !(tblGet tbl z).isSome else (tblGet tbl z).isSome))) ρ1
def dKIx (tbl : List (Str × PyData)) (te : DTE) : DTE := fun ρ Q => te ρ fun r ρ1 => ∃ z q, r = .dat (.str z) ∧ tblGet tbl z = some q ∧ Q (.dat q) ρ1
theorem de_kin (W : WDct X.K X.w d tbl) (hg : Gl X x) (hm : X.mg x = some (.ref d)) (he : DE X e te) (hd : (x == ("__debug__" : Str)) = false := by decide) : DE X (.Compare e [.In] [.Name x p] pos) (dKIn false tbl te) := by
  obtain ⟨es, n, D⟩ := W.D
  refine pe_imp (pe_cmpR (op_in_kd D) he (pe_glob (v := .ref d) hg hm rfl hd) rfl) fun σ H Q ⟨B, ρ, Q0, R, q, kk⟩ => ?_
  refine ⟨B, ρ, _, R, q, fun r ρ1 v H1 q1 R1 k1 s1 => ?_⟩
  obtain ⟨z, rfl, q1⟩ := q1
  have k1 := rstr k1
  subst k1
  obtain ⟨r, h1, h2⟩ := W.has z
  exact ⟨z, r, rfl, rfl, h1, kk _ ρ1 _ H1 q1 R1 (by show Rep X.K H1 (.bool _) _; rw [Rep, h2]; rfl) s1⟩
theorem dt_kin (W : WDct X.K X.w d tbl) (hg : Gl X x) (hm : X.mg x = some (.ref d)) (he : DE X e te) (hd : (x == ("__debug__" : Str)) = false := by decide) : DT X (.Compare e [.In] [.Name x p] pos) (dB (dKIn false tbl te)) := by
  obtain ⟨es, n, D⟩ := W.D
  refine pt_imp (pt_cmpR (op_in_kd D) he (pe_glob (v := .ref d) hg hm rfl hd) rfl) fun σ H Q ⟨B, ρ, Q0, R, q, kk⟩ => ?_
  refine ⟨B, ρ, _, R, q, fun r ρ1 v H1 q1 R1 k1 s1 => ?_⟩
  obtain ⟨z, rfl, b, e, q1⟩ := q1
  have k1 := rstr k1
  subst k1
  obtain ⟨r, h1, h2⟩ := W.has z
  have e : b = (tblGet tbl z).isSome := by injection e with y; injection y with y; exact y.symm
  subst e
  exact ⟨z, r, rfl, rfl, h1, _, rfl, by rw [h2]; exact kk _ ρ1 H1 q1 R1 s1⟩
theorem de_knotin (W : WDct X.K X.w d tbl) (hg : Gl X x) (hm : X.mg x = some (.ref d)) (he : DE X e te) (hd : (x == ("__debug__" : Str)) = false := by decide) : DE X (.Compare e [.NotIn] [.Name x p] pos) (dKIn true tbl te) := by
  obtain ⟨es, n, D⟩ := W.D
  refine pe_imp (pe_cmpR (op_notIn_kd D) he (pe_glob (v := .ref d) hg hm rfl hd) rfl) fun σ H Q ⟨B, ρ, Q0, R, q, kk⟩ => ?_
  refine ⟨B, ρ, _, R, q, fun r ρ1 v H1 q1 R1 k1 s1 => ?_⟩
  obtain ⟨z, rfl, q1⟩ := q1
  have k1 := rstr k1
  subst k1
  obtain ⟨r, h1, h2⟩ := W.has z
  exact ⟨z, r, rfl, rfl, h1, kk _ ρ1 _ H1 q1 R1 (by show Rep X.K H1 (.bool _) _; rw [Rep, h2]; rfl) s1⟩
theorem dt_knotin (W : WDct X.K X.w d tbl) (hg : Gl X x) (hm : X.mg x = some (.ref d)) (he : DE X e te) (hd : (x == ("__debug__" : Str)) = false := by decide) : DT X (.Compare e [.NotIn] [.Name x p] pos) (dB (dKIn true tbl te)) := by
  obtain ⟨es, n, D⟩ := W.D
  refine pt_imp (pt_cmpR (op_notIn_kd D) he (pe_glob (v := .ref d) hg hm rfl hd) rfl) fun σ H Q ⟨B, ρ, Q0, R, q, kk⟩ => ?_
  refine ⟨B, ρ, _, R, q, fun r ρ1 v H1 q1 R1 k1 s1 => ?_⟩
  obtain ⟨z, rfl, b, e, q1⟩ := q1
  have k1 := rstr k1
  subst k1
  obtain ⟨r, h1, h2⟩ := W.has z
  have e : b = !(tblGet tbl z).isSome := by injection e with y; injection y with y; exact y.symm
  subst e
  exact ⟨z, r, rfl, rfl, h1, _, rfl, by rw [h2]; exact kk _ ρ1 H1 q1 R1 s1⟩
theorem de_kix (W : WDct X.K X.w d tbl) (hg : Gl X x) (hm : X.mg x = some (.ref d)) (he : DE X e te) (hs : PlainIx e) (hd : (x == ("__debug__" : Str)) = false := by decide) : DE X (.Subscript (.Name x p) e pos) (dKIx tbl te) := by
  obtain ⟨es, n, D⟩ := W.D
  refine pe_imp (pe_ix ix_kdict (pe_glob (v := .ref d) hg hm rfl hd) he hs) fun σ H Q ⟨B, ρ, Q0, R, q, kk⟩ => ?_
  refine ⟨B, ρ, _, R, q, fun r ρ1 v H1 q1 R1 k1 s1 => ?_⟩
  obtain ⟨z, q2, rfl, ez, q1⟩ := q1
  have k1 := rstr k1
  subst k1
  obtain ⟨u, v, h1, h2, h3⟩ := W.yes z q2 ez
  exact ⟨d, z, v, rfl, rfl, ⟨es, n, u, D.at_, D.lit, h1, h2⟩, kk _ ρ1 v H1 q1 R1 (h3 H1) s1⟩
end
end DL

/-! DL: dict displays, keys written texts; frozen at once. -/
namespace DL
open PySem PySem.Spec L2

def pairsV (ks : List Str) (vs : List V) : List (V × V) := List.zip (ks.map V.str) vs
def DD (X : Cx) (pos : Pos) (keys : List (Option Expr)) (values : List Expr) (ks : List Str) (ta : DTA) : Prop :=
  ∃ trs, PPs X pos keys values trs ∧ ∀ (σ : L2.St) (H : Hp) (Q : List (V × V) → Hp → Prop),
    (∃ B ρ Q0, Rel X.K B ρ σ H ∧ ta ρ Q0 ∧ ∀ rs ρ1 vs H1, Q0 rs ρ1 → Rel X.K B ρ1 σ H1 → RvsOk X.K H1 σ rs vs → Stp ρ H ρ1 H1 → Q (pairsV ks vs) H1) → tPairs trs σ H Q
section
variable {X : Cx} {pos p : Pos} {keys : List (Option Expr)} {values : List Expr} {ks : List Str} {k : Str} {ta : DTA} {tv : DTE} {v : Expr} {j : Nat}
theorem dd_nil : DD X pos [] [] [] dNil := ⟨[], pps_nil, fun σ H Q ⟨B, ρ, Q0, R, q, kk⟩ => kk [] ρ [] H q R rfl (Stp.refl _ _)⟩
theorem dd_cons (hv : DE X v tv) (hr : DD X pos keys values ks ta) : DD X pos (some (.Constant (.str k) j p) :: keys) (v :: values) (k :: ks) (dCons tv ta) := by
  obtain ⟨trs, h1, h2⟩ := hr
  refine ⟨_, pps_cons pe_str hv h1, fun σ H Q ⟨B, ρ, Q0, R, q, kk⟩ => ?_⟩
  exact ⟨B, ρ, _, R, q, fun r ρ1 v1 H1 q1 R1 k1 s1 => h2 σ H1 _ ⟨B, ρ1, _, R1, q1, fun rs ρ2 vs H2 q2 R2 k2 s2 => kk (r :: rs) ρ2 (v1 :: vs) H2 q2 R2 ⟨v1, vs, rfl, k1.mono s2.kp, k2⟩ (s1.trans s2)⟩⟩
theorem zip_kV : ∀ (ks : List Str) (vs : List V), pairsV ks vs = (List.zip (ks.map (Sum.inr (α := Int))) vs).map (fun kv => (kV kv.1, kv.2))
  | [], _ => rfl
  | _ :: _, [] => rfl
  | k :: ks, v :: vs => by
    have := zip_kV ks vs
    unfold pairsV at this ⊢
    rw [List.map_cons, List.map_cons, List.zip_cons_cons, List.zip_cons_cons, List.map_cons, this]
    rfl
def dDisp (ks : List Str) (ta : DTA) : DTE := fun ρ Q => ta ρ fun rs ρ1 => ∃ ds, dats rs = some ds ∧ Q (.dat (.dict (mergeD [] (List.zip (ks.map Sum.inr) ds)))) ρ1
theorem repK_merge {K : PySem.W.Frag} {H : Hp} : ∀ {ks : List Key} {ds : List PyData} {vs : List V} {acc : List (PyData × PyData)} {ps : List (Key × V)}, RepK K H acc ps → RepA K H ds vs → RepK K H (mergeD acc (List.zip ks ds)) (mergeK ps (List.zip ks vs))
  | [], ds, vs, acc, ps, h, r => by
    rw [List.zip_nil_left, List.zip_nil_left]
    exact h
  | k :: ks, [], vs, acc, ps, h, r => by
    rw [RepA] at r
    subst r
    exact h
  | k :: ks, d :: ds, vs, acc, ps, h, r => by
    rw [RepA] at r
    obtain ⟨v, vs', rfl, r1, r2⟩ := r
    exact repK_merge (ks := ks) (acc := dput acc k d) (ps := putK ps k v) (h.put r1) r2
theorem de_disp (h : DD X pos keys values ks ta) (hall : keys.all (·.isSome) = true := by rfl) (hl : keys.length = values.length := by rfl) (h0 : keys ≠ [] := by simp) (h15 : keys.length ≤ 15 := by simp) (hk : ks.length ≤ 15 := by decide) : DE X (.Dict keys values pos) (dDisp ks ta) := by
  obtain ⟨trs, h1, h2⟩ := h
  refine pe_imp (pe_gh (pe_disp h1 hall hl h0 h15)) fun σ H Q ⟨B, ρ, Q0, R, q, kk⟩ => ?_
  intro p np
  obtain ⟨n0, n1⟩ := R.new np
  have sm : Same H (upd H p (.dK [])) := same_new np
  refine h2 σ _ _ ⟨B, ρ, _, R.same sm, q, fun rs ρ1 vs H1 q1 R1 k1 s1 => ?_⟩
  obtain ⟨ds, ed, q1⟩ := q1
  have ra := dats_ok ed k1
  obtain ⟨g1, g2⟩ := s1.fr p _ upd_same n1
  have ep : pairsV ks vs = (List.zip (ks.map (Sum.inr (α := Int))) vs).map (fun kv => (kV kv.1, kv.2)) := by
    exact zip_kV ks vs
  refine ⟨g1, List.zip (ks.map Sum.inr) vs, ep, ?_, ?_⟩
  · rw [List.length_zip, List.length_map]
    omega
  · intro pins σ' s I
    have e1 : upd H1 p (.dK (mergeK [] (List.zip (ks.map (Sum.inr (α := Int))) vs))) p = some (.dK (mergeK [] (List.zip (ks.map (Sum.inr (α := Int))) vs))) := upd_same
    obtain ⟨o, I2⟩ := inv_freezeD I e1
    have ee : upd (upd H1 p (.dK (mergeK [] (List.zip (ks.map (Sum.inr (α := Int))) vs)))) p (.frz o (.dK (mergeK [] (List.zip (ks.map (Sum.inr (α := Int))) vs)))) = upd H1 p (.frz o (.dK (mergeK [] (List.zip (ks.map (Sum.inr (α := Int))) vs)))) := by
      funext b
      by_cases hb : b = p
      · subst hb; rw [upd_same, upd_same]
      · rw [upd_ne hb, upd_ne hb, upd_ne hb]
    rw [ee] at I2
    have kp : Kp H1 (upd H1 p (.frz o (.dK (mergeK [] (List.zip (ks.map (Sum.inr (α := Int))) vs))))) := Kp.dK g1
    refine ⟨_, I2, kk _ ρ1 _ _ q1 (R1.aside kp n0 g2) ?_ ⟨(Kp.same sm).trans (s1.kp.trans kp), fun b n => th_upd b (s1.th b (th_same sm b n)), fun b u e n => ?_⟩⟩
    · show Rep X.K _ (.dict _) (.ref p)
      rw [Rep]
      exact ⟨p, _, rfl, ⟨o, upd_same⟩, RepK.mono kp _ _ (repK_merge RepK.nil ra)⟩
    · obtain ⟨e1, n1'⟩ := s1.fr b u (sm b u e) n
      rw [upd_ne (ne_of_none e np)]
      exact ⟨e1, n1'⟩
end
end DL

/-! DL: the facts of a written dict from what stands there. -/
namespace DL
open PySem PySem.Spec L2

def EntOk (K : PySem.W.Frag) (P : Params) (p : Str × PyData) (e : DictEntry) : Prop := (∃ t, e.key = .str p.1 t) ∧ e.hash = PyData.keyHash P p.1 ∧ ∃ v, RelV v e.val ∧ ∀ H, Rep K H p.2 v
theorem ent_lit {K : PySem.W.Frag} {P : Params} : ∀ {tbl : List (Str × PyData)} {es : List DictEntry}, Paired (EntOk K P) tbl es → PySem.W.KeysLit P es
  | _, _, .nil => trivial
  | _, _, .cons ⟨⟨t, h1⟩, h2, _⟩ r => ⟨⟨_, t, h1, h2⟩, ent_lit r⟩
theorem ent_find {K : PySem.W.Frag} {P : Params} (z : Str) : ∀ {tbl : List (Str × PyData)} {es : List DictEntry}, Paired (EntOk K P) tbl es →
    (∃ e p, es.find? (·.key.isStr z) = some e ∧ tblGet tbl z = some p ∧ ∃ v, RelV v e.val ∧ ∀ H, Rep K H p v) ∨ (es.find? (·.key.isStr z) = none ∧ tblGet tbl z = none ∧ es.any (·.refKey) = false)
  | _, _, .nil => .inr ⟨rfl, rfl, rfl⟩
  | p :: tbl, e :: es, .cons ⟨⟨t, h1⟩, h2, h3⟩ r => by
    have ek : e.key.isStr z = decide (p.1 = z) := by
      rw [h1]
      show Value.isStr (.str p.1 t) z = _
      unfold Value.isStr
      by_cases h : p.1 = z
      · simp [h]
      · simp [h]
    rw [List.find?_cons, ek]
    unfold tblGet
    rw [List.find?_cons]
    by_cases h : p.1 = z
    · rw [decide_eq_true h]
      exact .inl ⟨e, p.2, rfl, rfl, h3⟩
    · rw [decide_eq_false h]
      rcases ent_find z r with ⟨e', p', a, b, c⟩ | ⟨a, b, c⟩
      · exact .inl ⟨e', p', a, b, c⟩
      · refine .inr ⟨a, b, ?_⟩
        rw [List.any_cons, c]
        have : e.refKey = false := by
          unfold DictEntry.refKey
          rw [h1]
        rw [this]
        rfl
theorem wdct_mk {K : PySem.W.Frag} {w : World} {d : Addr} {es : Array DictEntry} {n : Nat} {tbl : List (Str × PyData)} (l : K.lookup d = some ⟨.type "dict", none, .dict es n, #[]⟩) (hs : (d == sysModules) = false) (hp : Paired (EntOk K w.params) tbl es.toList) : WDct K w d tbl := by
  have ns : ∀ z, PySem.W.nsIn K d z = (match es.toList.find? (·.key.isStr z) with
      | some e => some (some e.val)
      | none => if es.toList.any (·.refKey) then none else some none) := fun z => by
    unfold PySem.W.nsIn
    rw [l]
    simp only
    cases es.toList.find? (·.key.isStr z) <;> rfl
  refine ⟨⟨es, n, l, ent_lit hp, hs⟩, fun z p e => ?_, fun z e => ?_⟩
  · rcases ent_find z hp with ⟨e', p', a, b, v, c⟩ | ⟨a, b, c⟩
    · rw [e] at b
      cases b
      exact ⟨e'.val, v, by rw [ns, a], c⟩
    · rw [e] at b; cases b
  · rcases ent_find z hp with ⟨e', p', a, b, _⟩ | ⟨a, b, c⟩
    · rw [e] at b; cases b
    · rw [ns, a]
      simp [c]
end DL

/-! DL: get of a written dict. -/
namespace DL
open PySem PySem.Spec L2
section
variable {X : Cx} {e : Expr} {te : DTE} {ty : TE} {p apos cpos : Pos} {x : Str} {d : Addr} {tbl : List (Str × PyData)} {es : Array DictEntry} {n : Nat}
theorem pe_kget1 (D : KDict X.K X.w d es n) (hg : Gl X x) (hm : X.mg x = some (.ref d)) (he : PE X e ty) (m : M1 X (.Name x p) "get" apos e cpos) (hd : (x == ("__debug__" : Str)) = false := by decide) :
    PE X (.Call (.Attribute (.Name x p) "get" apos) [e] [] cpos) (fun σ H Q => ty σ H fun y H1 => ∃ z r v, y = .str z ∧ PySem.W.nsIn X.K d z = some r ∧ RelV v (r.getD .none) ∧ Q v H1) := by
  refine ⟨fun pins s σ H Q I h => ?_⟩
  refine wpAny_Call_method m.base m.few m.line PySem.F.plainAttrs_dict PySem.F.slot_dict_get PySem.F.type_dict_get (thn ((pe_glob (v := .ref d) hg hm rfl hd).run pins s σ H (fun v H1 => v = .ref d ∧ H1 = H) I ⟨rfl, rfl⟩) fun u s1 ⟨x, H1, I1, rx, ex, eh⟩ => ?_)
  subst ex eh
  obtain rfl : u = Value.ref d := rx
  refine ⟨kd_type D I1, (fun b q => by cases q; exact ⟨_, I1.kIn _ _ D.at_, rfl⟩), ?_⟩
  rw [m.trees]
  refine Calls.callWith_builtin rfl (Calls.evalArgs_plain (Calls.spliced_cons (thn (he.run pins s1 σ H1 _ I1 h) fun iv s2 ⟨y, H2, I2, ry, z, r, v, ey, en, rv, q2⟩ => Calls.spliced_nil ?_)))
  subst ey
  obtain ⟨t, rfl⟩ := (show ∃ t, iv = Value.str z t from ry)
  have mo := PySem.W.mapOf_K (prog := X.prog) (w := X.w) I2.kIn D.at_ D.lit
  refine call_meetsIn PySem.F.slot_dict_get mo.typeIs PySem.F.entry_dict_get (PySem.F.args_dict_get_2 _ _) (meets_dict_get (PySem.strKind X.prog X.w) d (PySem.strKind_is X.prog X.w z t) D.low) ⟨_, mo, ?_⟩
  rw [PySem.W.find_K D.at_ en]
  exact ⟨v, H2, I2.tok _, rv, q2⟩
def dKGet (tbl : List (Str × PyData)) (te : DTE) : DTE := fun ρ Q => te ρ fun r ρ1 => ∃ z, r = .dat (.str z) ∧ Q (.dat ((tblGet tbl z).getD .none)) ρ1
theorem de_kget1 (W : WDct X.K X.w d tbl) (hg : Gl X x) (hm : X.mg x = some (.ref d)) (he : DE X e te) (m : M1 X (.Name x p) "get" apos e cpos) (hd : (x == ("__debug__" : Str)) = false := by decide) :
    DE X (.Call (.Attribute (.Name x p) "get" apos) [e] [] cpos) (dKGet tbl te) := by
  obtain ⟨es, n, D⟩ := W.D
  refine pe_imp (pe_kget1 D hg hm he m hd) fun σ H Q ⟨B, ρ, Q0, R, q, kk⟩ => ?_
  refine ⟨B, ρ, _, R, q, fun r ρ1 v H1 q1 R1 k1 s1 => ?_⟩
  obtain ⟨z, rfl, q1⟩ := q1
  have k1 := rstr k1
  subst k1
  cases ez : tblGet tbl z with
  | none =>
    rw [ez] at q1
    exact ⟨z, none, .non, rfl, W.no z ez, rfl, kk _ ρ1 _ H1 q1 R1 (qnone _ _ _) s1⟩
  | some p =>
    rw [ez] at q1
    obtain ⟨u, v, h1, h2, h3⟩ := W.yes z p ez
    exact ⟨z, some u, v, rfl, h1, h2, kk _ ρ1 _ H1 q1 R1 (h3 H1) s1⟩
end
end DL

/-! DL: x[i] = v of a list of ours. -/
namespace DL
open PySem PySem.Spec L2
theorem RepA.put {K : PySem.W.Frag} {H : Hp} {d : PyData} {v : V} (hd : Rep K H d v) : ∀ {ds : List PyData} {vs : List V} (i : Nat), RepA K H ds vs → RepA K H (ds.set i d) (vs.set i v)
  | [], vs, i, h => by rw [RepA] at h; subst h; exact RepA.nil
  | _ :: ds, vs, 0, h => by
    rw [RepA] at h
    obtain ⟨w, r, rfl, h1, h2⟩ := h
    exact RepA.cons hd h2
  | _ :: ds, vs, i + 1, h => by
    rw [RepA] at h
    obtain ⟨w, r, rfl, h1, h2⟩ := h
    exact RepA.cons h1 (RepA.put hd i h2)
section
variable {X : Cx} {o e ix : Expr} {te ti : DTE} {i : Nat} {pos spos : Pos}
def dSetIx (i : Nat) (te ti : DTE) : DTS := fun E ρ => te ρ fun r ρ1 => ownAt ρ1 i ∧ ti ρ1 fun r2 ρ2 => ∃ d n a ds j, r = .dat d ∧ r2 = .dat (.int n) ∧ ρ2[i]? = some (.own a ds) ∧ ixN ds.length n = some j ∧ E.nx (ρ2.set i (.own a (ds.set j d)))
theorem dp_setIx (he : DE X e te) (hpg : PG X (.Subscript o ix spos) (gSub (tVar i) (lift X.K ti) rSetL)) (hs : swapsWithSole [.Subscript o ix spos] e pos.line X.env = pure false := by rfl) (hw : swappedStores [.Subscript o ix spos] e X.env = pure none := by rfl)
    (h1 : (assignEach [.Subscript o ix spos] X.env).map (·.2) = [assign (.Subscript o ix spos) X.env] := by rfl) :
    DP X (.Assign [.Subscript o ix spos] e pos) (dSetIx i te ti) := by
  refine ps_imp (ps_asg he hpg hs hw h1) fun D σ H ⟨B, ρ, E, R, q, kk⟩ => ?_
  refine ⟨B, ρ, _, R, q, fun r ρ1 v H1 q1 R1 k1 s1 => ?_⟩
  obtain ⟨ho, q1⟩ := q1
  obtain ⟨a0, ds0, e0⟩ := ownAt_at ho
  obtain ⟨es, vs0, hv0, ra0⟩ := own_at R1 e0
  refine ⟨.ref a0, es, B, ρ1, _, R1, q1, fun r2 ρ2 y H2 q2 R2 k2 s2 => ?_⟩
  obtain ⟨d, n, a, ds, j, rfl, rfl, ei, hj, q3⟩ := q2
  obtain rfl := own_addr R2 ei es
  obtain ⟨_, ws, hw2, ra⟩ := own_at R2 ei
  have kd : Rep X.K H2 d v := (show Rep X.K H1 d v from k1).mono s2.kp _ _
  exact ⟨a0, ws, n, j, rfl, rint k2, hw2, by rw [← ra.length]; exact hj, kk.nx _ _ _ q3 (R2.write ei hw2 (RepA.put kd j ra)) (s1.trans (s2.trans (stp_write (es := ds.set j d) ei hw2))).kp⟩
end
end DL
namespace DL
open PySem PySem.Spec L2
section
variable {X : Cx} {pos : Pos}
def dDisp0 : DTE := fun ρ Q => Q (.dat (.dict [])) ρ
theorem de_disp0 : DE X (.Dict [] [] pos) dDisp0 := by
  refine pe_imp (pe_gh pe_dnewK) fun σ H Q ⟨B, ρ, Q0, R, q, kk⟩ => ?_
  intro p np pins σ' s I
  obtain ⟨n0, n1⟩ := R.new np
  have sm : Same H (upd H p (.dK [])) := same_new np
  have e1 : upd H p (.dK []) p = some (.dK []) := upd_same
  obtain ⟨o, I2⟩ := inv_freezeD I e1
  have ee : upd (upd H p (.dK [])) p (.frz o (.dK [])) = upd H p (.frz o (.dK [])) := by
    funext b
    by_cases hb : b = p
    · subst hb; rw [upd_same, upd_same]
    · rw [upd_ne hb, upd_ne hb, upd_ne hb]
  rw [ee] at I2
  have sm2 : Same H (upd H p (.frz o (.dK []))) := same_new np
  refine ⟨_, I2, kk _ ρ _ _ q (R.same sm2) ?_ (Stp.same sm2)⟩
  show Rep X.K _ (.dict _) (.ref p)
  rw [Rep]
  exact ⟨p, [], rfl, ⟨o, upd_same⟩, RepK.nil⟩
end
end DL

/-! DL: chained comparisons of texts. -/
namespace DL
open PySem PySem.Spec L2
section
variable {X : Cx} {e a b c : Expr} {te ta tb tc : DTE} {p np pos : Pos}
/-- .. texts -/
def CmpS (f : Str → Str → Bool) (op : CmpOp) (X : Cx) : Prop := OpR X (compareOp op) (fun x y H Q => ∃ i j, x = .str i ∧ y = .str j ∧ Q (.bl (f i j)) H)
def dChainS (f g : Str → Str → Bool) (ta tb tc : DTE) : DTE := fun ρ Q => ta ρ fun r1 ρ1 => tb ρ1 fun r2 ρ2 => ∃ i j, r1 = .dat (.str i) ∧ r2 = .dat (.str j) ∧ (f i j = true → tc ρ2 fun r3 ρ3 => ∃ k, r3 = .dat (.str k) ∧ Q (.dat (.bool (g j k))) ρ3) ∧ (f i j = false → Q (.dat (.bool false)) ρ2)
theorem de_chainS {op op' : CmpOp} {f g : Str → Str → Bool} (ho : CmpS f op X) (ho' : CmpS g op' X) (ha : DE X a ta) (hb : DE X b tb) (hc : DE X c tc)
    (hm : lastMarks [op, op'] [b, c] = false := by with_unfolding_all rfl) : DE X (.Compare a [op, op'] [b, c] pos) (dChainS f g ta tb tc) := by
  refine pe_imp (pe_chain ho ho' ha hb hc hm) fun σ H Q ⟨B, ρ, Q0, R, q, kk⟩ => ?_
  refine ⟨B, ρ, _, R, q, fun r1 ρ1 v1 H1 q1 R1 k1 s1 => ⟨B, ρ1, _, R1, q1, fun r2 ρ2 v2 H2 q2 R2 k2 s2 => ?_⟩⟩
  obtain ⟨i, j, rfl, rfl, qt, qf⟩ := q2
  have k1 := rstr k1
  have k2' := rstr k2
  subst k1 k2'
  refine ⟨i, j, rfl, rfl, _, rfl, ?_⟩
  cases hf : f i j with
  | false => exact iteF (kk _ ρ2 _ H2 (qf hf) R2 (by show Rep X.K H2 (.bool _) _; rw [Rep]) (s1.trans s2))
  | true =>
    refine iteT ⟨B, ρ2, _, R2, qt hf, fun r3 ρ3 v3 H3 q3 R3 k3 s3 => ?_⟩
    obtain ⟨k, rfl, q3⟩ := q3
    have k3 := rstr k3
    subst k3
    exact ⟨j, k, rfl, rfl, kk _ ρ3 _ H3 q3 R3 (by show Rep X.K H3 (.bool _) _; rw [Rep]) ((s1.trans s2).trans s3)⟩
theorem dt_chainS {op op' : CmpOp} {f g : Str → Str → Bool} (ho : CmpS f op X) (ho' : CmpS g op' X) (ha : DE X a ta) (hb : DE X b tb) (hc : DE X c tc)
    (hm : lastMarks [op, op'] [b, c] = false := by with_unfolding_all rfl) : DT X (.Compare a [op, op'] [b, c] pos) (dB (dChainS f g ta tb tc)) := by
  refine pt_imp (pt_chain ho ho' ha hb hc hm) fun σ H Q ⟨B, ρ, Q0, R, q, kk⟩ => ?_
  refine ⟨B, ρ, _, R, q, fun r1 ρ1 v1 H1 q1 R1 k1 s1 => ⟨B, ρ1, _, R1, q1, fun r2 ρ2 v2 H2 q2 R2 k2 s2 => ?_⟩⟩
  obtain ⟨i, j, rfl, rfl, qt, qf⟩ := q2
  have k1 := rstr k1
  have k2' := rstr k2
  subst k1 k2'
  refine ⟨i, j, rfl, rfl, _, rfl, ?_⟩
  cases hf : f i j with
  | false =>
    obtain ⟨b, e, q3⟩ := qf hf
    cases e
    exact iteF ⟨_, rfl, kk _ ρ2 H2 q3 R2 (s1.trans s2)⟩
  | true =>
    refine iteT ⟨B, ρ2, _, R2, qt hf, fun r3 ρ3 v3 H3 q3 R3 k3 s3 => ?_⟩
    obtain ⟨k, rfl, b, e, q3⟩ := q3
    have k3 := rstr k3
    subst k3
    have e : b = g j k := by injection e with z; injection z with z; exact z.symm
    subst e
    exact ⟨j, k, rfl, rfl, _, rfl, kk _ ρ3 H3 q3 R3 ((s1.trans s2).trans s3)⟩
theorem cs_le : CmpS (fun i j => !decide (j.cps.toList < i.cps.toList)) .LtE X := op_le_str
end
end DL

/-! DL: a text so many times. -/
namespace DL
open PySem PySem.Spec L2
def repS (z : Str) (n : Nat) : Str := ⟨(List.replicate n z.cps.toList).flatten.toArray⟩
theorem foldl_rep (z : Array Nat) : ∀ (n : Nat) (acc : Array Nat), (List.replicate n z).foldl (· ++ ·) acc = acc ++ (List.replicate n z.toList).flatten.toArray
  | 0, acc => by simp
  | n + 1, acc => by
    rw [List.replicate_succ, List.foldl_cons, foldl_rep z n, List.replicate_succ, List.flatten_cons]
    apply Array.ext'
    simp
theorem rep_len (z : Str) (n : Nat) : (repS z n).length = z.length * n := by
  unfold repS
  show (List.replicate n z.cps.toList).flatten.toArray.size = z.cps.size * n
  simp [Nat.mul_comm]
theorem rep_one (z : Str) : repS z 1 = z := by
  unfold repS
  simp
theorem rep_nil {z : Str} (h : z.length = 0) (n : Nat) : repS z n = z := by
  have e : z.cps.toList = [] := List.length_eq_zero_iff.mp h
  have e2 : z = ⟨#[]⟩ := by
    cases z with
    | mk c =>
      congr 1
      exact Array.ext' e
  unfold repS
  rw [e, e2]
  simp
section
variable {X : Cx}
theorem op_mulStr : OpR X (binaryOp .Mult) (fun x y H Q => ∃ (z : Str) (n : Nat), x = .str z ∧ y = .int (n : Int) ∧ z.length * n ≤ sizeLine ∧ n ≤ sizeLine ∧ Q (.str (repS z n)) H) := by
  intro pins s σ H x y v u Q I rx ry h
  obtain ⟨z, n, rfl, rfl, hz, hn, q⟩ := h
  obtain ⟨t, rfl⟩ := rx
  obtain ⟨t', rfl⟩ := ry
  have hs : sizeLine < 2 ^ 40 := by decide
  by_cases h0 : n = 0
  · subst h0
    have e : repS z 0 = Str.empty := rfl
    rw [e] at q
    exact PySem.P.mul_str_none (by decide) (by decide) ⟨.str Str.empty, H, I.tok _, ⟨_, rfl⟩, q⟩
  have h1 : 1 ≤ n := by omega
  refine PySem.P.mul_str ?_ ?_ ?_ ?_
  · rw [decide_eq_false (by omega), decide_eq_false (by omega)]; rfl
  · intro _ _ hc
    have : (z.length : Int) ≤ (2 ^ 63 - 1) / (n : Int) := by
      rw [Int.le_ediv_iff_mul_le (by omega)]
      have : ((z.length * n : Nat) : Int) ≤ 2 ^ 40 := by omega
      rw [← Int.natCast_mul]
      omega
    omega
  · intro _ _
    rw [Int.toNat_natCast]
    exact decide_eq_false (show ¬ (_ > _) by omega)
  · rw [if_neg (by omega)]
    split
    · rename_i hc
      have e : repS z n = z := by
        rcases Bool.or_eq_true _ _ |>.mp hc with h | h
        · have : n = 1 := by have := eq_of_beq h; omega
          rw [this, rep_one]
        · exact rep_nil (eq_of_beq h) n
      rw [e] at q
      exact ⟨.str z, H, I, ⟨t, rfl⟩, q⟩
    · rw [Int.toNat_natCast, foldl_rep]
      have e : (⟨#[] ++ (List.replicate n z.cps.toList).flatten.toArray⟩ : Str) = repS z n := by
        unfold repS
        simp
      rw [e]
      exact ⟨by rw [rep_len]; exact hz, ⟨.str (repS z n), H, I.tok _, ⟨_, rfl⟩, q⟩⟩
end
end DL
namespace DL
open PySem PySem.Spec L2
section
variable {X : Cx}
def fMulS : Fn := fun ρ rs C => ∃ (z : Str) (i : Int), rs = [.dat (.str z), .dat (.int i)] ∧ 0 ≤ i ∧ z.length * i.toNat ≤ sizeLine ∧ i.toNat ≤ sizeLine ∧ C (.str (repS z i.toNat))
theorem od_mulS : OpD X (binaryOp .Mult) fMulS := opD_of op_mulStr fun σ H x y B ρ r1 r2 C Q R k1 k2 q c => by
  obtain ⟨z, i, e, h1, h2, h3, q⟩ := q
  cases e
  have ei : i = ((i.toNat : Nat) : Int) := by omega
  rw [ei] at k2
  exact ⟨z, i.toNat, rstr k1, rint k2, h2, h3, c _ _ H q (same_refl H) (pstr _ _ _)⟩
end
end DL

/-! DL: a new list times a number. -/
namespace DL
open PySem PySem.Spec L2

theorem RepA.rep {K : PySem.W.Frag} {H : Hp} {ds : List PyData} {vs : List V} (h : RepA K H ds vs) : ∀ n : Nat, RepA K H (List.replicate n ds).flatten (List.replicate n vs).flatten
  | 0 => RepA.nil
  | n + 1 => by
    rw [List.replicate_succ, List.replicate_succ, List.flatten_cons, List.flatten_cons]
    exact h.append (RepA.rep h n)
def nRep (tn : DTN) (tb : DTE) : DTN := fun ρ Q => tn ρ fun ds ρ1 => tb ρ1 fun r ρ2 => ∃ k, r = .dat (.int k) ∧ (0 ≤ k ∧ k < 2 ^ 63) ∧ ds.length * k.toNat ≤ sizeLine ∧ Q (List.replicate k.toNat ds).flatten ρ2
theorem dn_rep {X : Cx} {a b : Expr} {tn : DTN} {tb : DTE} {pos : Pos} (ha : DN X a tn) (hb : DE X b tb) : DN X (.BinOp a .Mult b pos) (nRep tn tb) := pe_imp (pe_op op_rep ha hb) fun σ H Q ⟨B, ρ, Q0, R, q, k⟩ => by
  refine ⟨B, ρ, _, R, q, fun ds ρ1 p vs H1 q1 R1 hp ra hn f0 f1 s1 => ?_⟩
  refine ⟨B, ρ1, _, R1, q1, fun r ρ2 y H2 q2 R2 k2 s2 => ?_⟩
  obtain ⟨m, rfl, ⟨h1, h2⟩, hz, q2⟩ := q2
  have hp2 : H2 p = some (.lst vs) := (s2.fr p _ hp f1).1
  refine ⟨p, m, vs, rfl, rint k2, hp2, by omega, h2, by rw [← ra.length]; exact hz, fun p' np => ?_⟩
  have ra2 := ra.mono s2.kp _ _
  have sm : Same H2 (upd H2 p' (.lst (List.replicate m.toNat vs).flatten)) := same_new np
  obtain ⟨g0, g1⟩ := R2.new np
  have st := s1.trans s2
  exact k _ ρ2 p' _ _ q2 (R2.same sm) upd_same ((RepA.rep ra2 _).mono (Kp.same sm) _ _) (st.none np) g0 g1 (st.trans (Stp.same sm))
end DL

/-! DL: repr of trees with dicts in them. -/
namespace DL
open PySem PySem.Spec L2

/-- what stands in the heap at u is the tree d, and it is shown so -/
structure Shw (P : Program) (w : World) (h : Heap) (u : Value) (d : PyData) : Prop where
  rd : ∃ as, Reads h u d as
  rp : ∃ bs, ReadAtMost h d.depth bs ∧ ReprK P w bs h d.depth u d.shown
structure ShwA (P : Program) (w : World) (h : Heap) (us : List Value) (ds : List PyData) : Prop where
  rd : ∃ as, ReadsAll h us ds as
  rp : ∃ bs, ReadAtMost h (PyData.depthAll ds) bs ∧ ReprAllK P w bs h (PyData.depthAll ds) us (PyData.shownAll ds)
structure ShwK (P : Program) (w : World) (h : Heap) (es : List DictEntry) (kvs : List (PyData × PyData)) : Prop where
  rk : ∃ as, ReadsAll h (es.map (·.key)) (kvs.map (·.1)) as
  rv : ∃ as, ReadsAll h (es.map (·.val)) (kvs.map (·.2)) as
  rp : ∃ bs, ReadAtMost h (PyData.depthKv kvs) bs ∧ ReprEntriesK P w bs h (PyData.depthKv kvs) es (PyData.shownKv kvs)
section
variable {P : Program} {w : World} {h : Heap}
theorem atMost_nil {n : Nat} : ReadAtMost h n [] := fun _ z => nomatch z
theorem Shw.of_is {u : Value} {d : PyData} (r : Reads h u d []) (q : ReprIs P w u d.shown) : Shw P w h u d := ⟨⟨_, r⟩, [], atMost_nil, .of_is q _ _ _⟩
theorem ent_more {as as' : List Addr} {m n : Nat} (hs : ∀ b ∈ as, b ∈ as') (hm : m ≤ n) {es : List DictEntry} {ps : List Str} (q : ReprEntriesK P w as h m es ps) : ReprEntriesK P w as' h n es ps := by
  induction q with
  | nil => exact .nil
  | cons a b _ ih => exact .cons ((a.more hs).level_le hm) ((b.more hs).level_le hm) ih
theorem Shw.list {a : Addr} {o : Obj} {its : Array Value} {n : Nat} {ds : List PyData} (ho : h.get? a = some o) (hc : o.cls = .type "list") (hd : o.data = .seq its n) (q : ShwA P w h its.toList ds) : Shw P w h (.ref a) (.list ds) := by
  obtain ⟨⟨as, r⟩, bs, am, rk⟩ := q
  have rr : Reads h (.ref a) (.list ds) (a :: as) := Reads.list ho hc hd r
  have lt : PyData.depthAll ds < (PyData.list ds).depth := by rw [PyData.depth]; omega
  have no := not_mem_of_deeper rr lt am
  refine ⟨⟨_, rr⟩, a :: bs, ReadAtMost.cons rr (Nat.le_of_lt lt) am, ?_⟩
  rw [PyData.depth, PyData.shown]
  rcases its with ⟨_ | ⟨x, l⟩⟩
  · cases ds with
    | nil =>
      rw [PyData.shownAll, listText_nil]
      exact ReprK.listEmpty ho hc hd
    | cons d ds => exact nomatch r
  · exact ReprK.list ho hc hd no (by have := rk.length_eq; simpa using this) fun i y e => rk.item i y (by simpa using e)
theorem Shw.tuple {a : Addr} {o : Obj} {its : Array Value} {n : Nat} {ds : List PyData} (ho : h.get? a = some o) (hc : o.cls = .type "tuple") (hd : o.data = .seq its n) (q : ShwA P w h its.toList ds) : Shw P w h (.ref a) (.tuple ds) := by
  obtain ⟨⟨as, r⟩, bs, am, rk⟩ := q
  have rr : Reads h (.ref a) (.tuple ds) as := Reads.tuple ho hc hd r
  have lt : PyData.depthAll ds < (PyData.tuple ds).depth := by rw [PyData.depth]; omega
  refine ⟨⟨_, rr⟩, a :: bs, ReadAtMost.cons rr (Nat.le_of_lt lt) am, ?_⟩
  rw [PyData.depth, PyData.shown]
  exact ReprK.tuple ho hc hd (not_mem_of_deeper rr lt am) rk
theorem Shw.dict {a : Addr} {o : Obj} {es : Array DictEntry} {n : Nat} {kvs : List (PyData × PyData)} (ho : h.get? a = some o) (hc : o.cls = .type "dict") (hd : o.data = .dict es n) (hs : (a == sysModules) = false) (q : ShwK P w h es.toList kvs) : Shw P w h (.ref a) (.dict kvs) := by
  obtain ⟨⟨as, r1⟩, ⟨as', r2⟩, bs, am, rk⟩ := q
  have rr : Reads h (.ref a) (.dict kvs) (a :: as ++ as') := Reads.dict ho hc hd r1 r2
  have lt : PyData.depthKv kvs < (PyData.dict kvs).depth := by rw [PyData.depth]; omega
  refine ⟨⟨_, rr⟩, a :: bs, ReadAtMost.cons rr (Nat.le_of_lt lt) am, ?_⟩
  rw [PyData.depth, PyData.shown]
  exact ReprK.dict ho hc hd hs (not_mem_of_deeper rr lt am) rk
theorem ShwA.nil : ShwA P w h [] [] := ⟨⟨_, .nil⟩, [], atMost_nil, by rw [PyData.shownAll]; exact .nil⟩
theorem ShwA.cons {u : Value} {us : List Value} {d : PyData} {ds : List PyData} (a : Shw P w h u d) (b : ShwA P w h us ds) : ShwA P w h (u :: us) (d :: ds) := by
  obtain ⟨⟨as, r⟩, bs, am, rk⟩ := a
  obtain ⟨⟨as', r'⟩, bs', am', rk'⟩ := b
  refine ⟨⟨_, .cons r r'⟩, bs ++ bs', ?_, ?_⟩
  · rw [PyData.depthAll]
    exact (am.mono (Nat.le_max_left _ _)).append (am'.mono (Nat.le_max_right _ _))
  · rw [PyData.depthAll, PyData.shownAll]
    exact .cons ((rk.more fun b z => List.mem_append_left _ z).level_le (Nat.le_max_left _ _)) (rk'.more_le (fun b z => List.mem_append_right _ z) (Nat.le_max_right _ _))
theorem ShwK.nil : ShwK P w h [] [] := ⟨⟨_, .nil⟩, ⟨_, .nil⟩, [], atMost_nil, by rw [PyData.shownKv]; exact .nil⟩
theorem ShwK.cons {e : DictEntry} {es : List DictEntry} {k d : PyData} {kvs : List (PyData × PyData)} (a : Shw P w h e.key k) (b : Shw P w h e.val d) (c : ShwK P w h es kvs) : ShwK P w h (e :: es) ((k, d) :: kvs) := by
  obtain ⟨⟨as, r⟩, bs, am, rk⟩ := a
  obtain ⟨⟨as', r'⟩, bs', am', rk'⟩ := b
  obtain ⟨⟨s1, q1⟩, ⟨s2, q2⟩, bs2, am2, rk2⟩ := c
  have l1 : k.depth ≤ PyData.depthKv ((k, d) :: kvs) := by rw [PyData.depthKv]; omega
  have l2 : d.depth ≤ PyData.depthKv ((k, d) :: kvs) := by rw [PyData.depthKv]; omega
  have l3 : PyData.depthKv kvs ≤ PyData.depthKv ((k, d) :: kvs) := by rw [PyData.depthKv]; omega
  refine ⟨⟨_, .cons r q1⟩, ⟨_, .cons r' q2⟩, bs ++ bs' ++ bs2, ((am.mono l1).append (am'.mono l2)).append (am2.mono l3), ?_⟩
  rw [PyData.shownKv]
  refine .cons ((rk.more fun b z => ?_).level_le l1) ((rk'.more fun b z => ?_).level_le l2) (ent_more (fun b z => ?_) l3 rk2)
  · exact List.mem_append_left _ (List.mem_append_left _ z)
  · exact List.mem_append_left _ (List.mem_append_right _ z)
  · exact List.mem_append_right _ z
end
section
variable {X : Cx} {pins : List (Addr × Obj)} {σ : L2.St} {H : Hp} {s : Shared}
mutual
theorem shw_of (I : Inv X pins σ H s) : ∀ (d : PyData) (v : V) (u : Value), Rep X.K H d v → RelV v u → d.showable = true → d.shown.length ≤ sizeLine → Shw X.prog X.w s.heap u d
  | .none, v, u, h, r, _, _ => by
    rw [Rep] at h; subst h; cases r
    exact .of_is .none (by rw [PyData.shown]; exact ReprIs.none)
  | .bool b, v, u, h, r, _, _ => by
    rw [Rep] at h; subst h; cases r
    exact .of_is (.bool b) (by rw [PyData.shown]; exact ReprIs.bool b)
  | .int i, v, u, h, r, hs, _ => by
    rw [Rep] at h; subst h; obtain ⟨t, rfl⟩ := r
    exact .of_is (.int i t) (by rw [PyData.shown]; exact ReprIs.int t (by simpa [PyData.showable] using hs))
  | .str x, v, u, h, r, _, hz => by
    rw [Rep] at h; subst h; obtain ⟨t, rfl⟩ := r
    rw [PyData.shown] at hz
    exact .of_is (.str x t) (by rw [PyData.shown]; exact ReprIs.str x t hz)
  | .list ds, v, u, h, r, hs, hz => by
    rw [Rep] at h
    obtain ⟨a, xs, rfl, f, ra⟩ := h
    cases r
    obtain ⟨its, rv, ⟨o, n, ho, hc, _, hd⟩, _⟩ := I.list f.sq
    rw [PyData.shown] at hz
    exact .list ho hc hd (shwA_of I ds xs its ra rv (by rw [PyData.showable] at hs; exact hs) fun t ht => Nat.le_trans (listText_mem_le ht) hz)
  | .tuple ds, v, u, h, r, hs, hz => by
    rw [Rep] at h
    obtain ⟨a, xs, rfl, f, ra⟩ := h
    cases r
    obtain ⟨its, rv, ⟨o, ho, hc, n, hd⟩, _⟩ := I.tuple f
    rw [PyData.shown] at hz
    exact .tuple ho hc hd (shwA_of I ds xs its ra rv (by rw [PyData.showable] at hs; exact hs) fun t ht => Nat.le_trans (tupleText_mem_le ht) hz)
  | .dict kvs, v, u, h, r, hs, hz => by
    rw [Rep] at h
    obtain ⟨a, ps, rfl, ⟨o', f⟩, ra⟩ := h
    cases r
    obtain ⟨_, hsm, vs, kv, o, es, ep, ho, hc, hd, _, pr, _⟩ := dk_rd I.hok (.inr ⟨o', f⟩)
    rw [PyData.shown] at hz
    exact .dict ho hc.1 hd hsm (shwK_of I kvs ps vs es.toList ra kv pr (by rw [PyData.showable] at hs; exact hs) fun t ht => Nat.le_trans (dictText_mem_le ht) hz)
theorem shwA_of (I : Inv X pins σ H s) : ∀ (ds : List PyData) (vs : List V) (us : List Value), RepA X.K H ds vs → Vals vs us → PyData.showableAll ds = true → (∀ t ∈ PyData.shownAll ds, t.length ≤ sizeLine) → ShwA X.prog X.w s.heap us ds
  | [], vs, us, h, r, _, _ => by
    rw [RepA] at h; subst h; cases r
    exact .nil
  | d :: ds, vs, us, h, r, hs, hz => by
    rw [RepA] at h
    obtain ⟨v, vs', rfl, h1, h2⟩ := h
    rw [PyData.showableAll, Bool.and_eq_true] at hs
    rw [PyData.shownAll] at hz
    cases r with
    | cons r1 r2 => exact .cons (shw_of I d v _ h1 r1 hs.1 (hz _ List.mem_cons_self)) (shwA_of I ds vs' _ h2 r2 hs.2 fun t ht => hz t (List.mem_cons_of_mem _ ht))
theorem shwK_of (I : Inv X pins σ H s) : ∀ (kvs : List (PyData × PyData)) (ps : List (Key × V)) (vs : List (Key × Value)) (es : List DictEntry), RepK X.K H kvs ps → KV ps vs → Pairs (mixKind X.prog X.w) es vs → PyData.showableKv kvs = true → (∀ t ∈ PyData.shownKv kvs, t.length ≤ sizeLine) → ShwK X.prog X.w s.heap es kvs
  | [], ps, vs, es, h, r, pr, _, _ => by
    rw [RepK] at h; subst h; cases r; cases pr
    exact .nil
  | (k, d) :: kvs, ps, vs, es, h, r, pr, hs, hz => by
    rw [RepK] at h
    obtain ⟨q, v, ps', rfl, rfl, h1, h2⟩ := h
    rw [PyData.showableKv, Bool.and_eq_true, Bool.and_eq_true] at hs
    rw [PyData.shownKv] at hz
    have z0 := hz _ List.mem_cons_self
    rw [strLen_append, strLen_append] at z0
    cases r with
    | cons r1 r2 =>
      cases pr with
      | cons p1 p2 p3 =>
        refine .cons ?_ (shw_of I d v _ h1 (by rw [p2]; exact r1.2) hs.1.2 (by omega)) (shwK_of I kvs ps' _ _ h2 r2 p3 hs.2 fun t ht => hz t (List.mem_cons_of_mem _ ht))
        have e1 := r1.1
        rw [← e1] at p1
        rcases keyIs_shape p1 with ⟨i, t, e, ek⟩ | ⟨x, t, e, ek⟩
        · have e : q = .inl i := e
          subst e
          rw [ek]
          exact .of_is (.int i t) (by show ReprIs _ _ _ (PyData.shown (.int i)); rw [PyData.shown]; exact ReprIs.int t (by have := hs.1.1; simpa [PyData.showable, kD] using this))
        · have e : q = .inr x := e
          subst e
          rw [ek]
          have z1 : (PyData.shown (.str x)).length ≤ sizeLine := by
            have : (PyData.shown (kD (.inr x))).length ≤ sizeLine := by omega
            exact this
          rw [PyData.shown] at z1
          exact .of_is (.str x t) (by show ReprIs _ _ _ (PyData.shown (.str x)); rw [PyData.shown]; exact ReprIs.str x t z1)
end
end
/-- what may be shown, dicts too -/
structure Showd (d : PyData) : Prop where
  sh : d.showable = true
  dp : d.depth ≤ 60
  sz : d.shown.length ≤ sizeLine
theorem Showb.d {d : PyData} (h : Showb d) : Showd d := ⟨h.sh, h.dp, h.sz⟩
def fReprD : Fn := fun ρ rs C => ∃ r d, rs = [r] ∧ datOf ρ r = some d ∧ Showd d ∧ C (.str d.shown)
section
variable {X : Cx}
theorem repr_shw {A : Around} {E : Value → Shared → Prop} {s : Shared} {Q : Value → Shared → Prop} {P : Program} {w : World} {a : Addr} {d : PyData} (q : Shw P w s.heap (.ref a) d) (hs : d.shown.length ≤ sizeLine) (hg : A.guards = some []) (hu : A.units + (d.depth + 1) < cLine)
    (hd : (∃ ds, d = .list ds) ∨ (∃ ds, d = .tuple ds) ∨ ∃ ds, d = .dict ds ∧ (a == sysModules) = false)
    (sub : (∀ ds, d = .list ds → ∃ o its n, s.heap.get? a = some o ∧ o.cls = .type "list" ∧ o.data = .seq its n ∧ ShwA P w s.heap its.toList ds) ∧ (∀ ds, d = .tuple ds → ∃ o its n, s.heap.get? a = some o ∧ o.cls = .type "tuple" ∧ o.data = .seq its n ∧ ShwA P w s.heap its.toList ds) ∧
      ∀ ds, d = .dict ds → ∃ (o : Obj) (es : Array DictEntry) (n : Nat), s.heap.get? a = some o ∧ o.cls = .type "dict" ∧ o.data = .dict es n ∧ ShwK P w s.heap es.toList ds)
    (hQ : ∀ h' u tk, (∀ b o, s.heap.get? b = some o → h'.get? b = some o) → Q (.str d.shown u) { s with heap := h', toks := tk }) : wpAny (model P w) A (call (.builtin "repr") [.ref a]) Q E s := by
  obtain ⟨⟨as, rr⟩, _⟩ := q
  have hu1 : A.in1.units + d.depth < cLine := by
    show A.units + 1 + d.depth < cLine
    omega
  rcases hd with ⟨ds, rfl⟩ | ⟨ds, rfl⟩ | ⟨ds, rfl, hsm⟩
  · obtain ⟨o, its, n, ho, hc, hda, ⟨_, bs, am, rk⟩⟩ := sub.1 ds rfl
    have lt : PyData.depthAll ds < (PyData.list ds).depth := by rw [PyData.depth]; omega
    rw [PyData.shown] at hs hQ
    rw [PyData.depth] at hu1
    refine call_repr_slot (T := "list") (by omega) ⟨o, ho, hc⟩ F.slot_list_repr.toG ?_
    rcases its with ⟨_ | ⟨x, l⟩⟩
    · cases ds with
      | nil =>
        rw [PyData.shownAll, listText_nil] at hQ
        exact call_list_repr_empty ⟨o, ho, hc⟩ ho hda ⟨_, _, rfl, hQ _ _ _ fun _ _ z => z⟩
      | cons d ds => cases rk
    · exact call_list_reprK ho hc hda (not_mem_of_deeper rr lt am) (by have := rk.length_eq; simpa using this) (fun i y e => rk.item i y (by simpa using e)) hg (fun b _ => Clear.nil b) hu1 (fun _ _ z => z) (fun h' u tk k => ⟨_, _, rfl, hQ h' u tk k⟩) hs
  · obtain ⟨o, its, n, ho, hc, hda, ⟨_, bs, am, rk⟩⟩ := sub.2.1 ds rfl
    have lt : PyData.depthAll ds < (PyData.tuple ds).depth := by rw [PyData.depth]; omega
    rw [PyData.shown] at hs hQ
    rw [PyData.depth] at hu1
    exact call_repr_slot (T := "tuple") (by omega) ⟨o, ho, hc⟩ F.slot_tuple_repr (call_tuple_reprK ho hc hda (not_mem_of_deeper rr lt am) rk hg (fun b _ => Clear.nil b) hu1 (fun _ _ z => z) (fun h' u tk k => ⟨_, _, rfl, hQ h' u tk k⟩) hs)
  · obtain ⟨o, es, n, ho, hc, hda, ⟨_, _, bs, am, rk⟩⟩ := sub.2.2 ds rfl
    have lt : PyData.depthKv ds < (PyData.dict ds).depth := by rw [PyData.depth]; omega
    rw [PyData.shown] at hs hQ
    rw [PyData.depth] at hu1
    exact call_repr_slot (T := "dict") (by omega) ⟨o, ho, hc⟩ F.slot_dict_repr (call_dict_reprK ho hc hda hsm (not_mem_of_deeper rr lt am) rk hg (fun b _ => Clear.nil b) hu1 (fun _ _ z => z) (fun h' u tk k => ⟨_, _, rfl, hQ h' u tk k⟩) hs)
theorem fr_reprD (hg : X.A.guards = some []) (hu : X.A.units + 64 < cLine) : FnR X (.builtin "repr") fReprD := by
  intro pins s σ H vs us Q I rv ⟨σ', B, ρ, rs, C, R, k, q, c⟩
  obtain ⟨r, d, rfl, ed, ⟨sh, dp, sz⟩, q⟩ := q
  obtain ⟨v, rfl, k1⟩ := k.one
  obtain ⟨u, rfl, ru⟩ := vals1 rv
  have fin : ∀ {t : Tok} {h' : Heap} {tk : Nat}, (∀ b o, s.heap.get? b = some o → h'.get? b = some o) → EP X pins σ Q (.str d.shown t) { s with heap := h', toks := tk } := fun {t h' tk} kk =>
    ⟨.str d.shown, H, I.kept kk, ⟨t, rfl⟩, c _ _ H q (same_refl H) (pstr _ _ _)⟩
  have atom : ∀ {t : Tok} {tk : Nat}, EP X pins σ Q (.str d.shown t) { s with toks := tk } := fun {t tk} =>
    ⟨.str d.shown, H, I.tok _, ⟨t, rfl⟩, c _ _ H q (same_refl H) (pstr _ _ _)⟩
  have hud : X.A.units + (d.depth + 1) < cLine := by omega
  have lst : ∀ {a : Addr} {xs : List V} {ds : List PyData}, d = .list ds → SqL X.K H a xs → RepA X.K H ds xs → v = .ref a → wpAny (model X.prog X.w) X.A (call (.builtin "repr") [u]) (EP X pins σ Q) X.xe s := fun {a xs ds} e f ra ev => by
    subst e ev
    cases ru
    obtain ⟨its, rv, ⟨o, n, ho, hc, _, hd⟩, _⟩ := I.list f
    have sz' := sz
    rw [PyData.shown] at sz'
    have sub := shwA_of I ds xs its ra rv (by rw [PyData.showable] at sh; exact sh) fun t ht => Nat.le_trans (listText_mem_le ht) sz'
    exact repr_shw (.list ho hc hd sub) sz hg hud (.inl ⟨_, rfl⟩) ⟨fun _ z => by cases z; exact ⟨o, _, n, ho, hc, hd, sub⟩, fun _ z => (nomatch z), fun _ z => (nomatch z)⟩ fun h' u tk kk => fin kk
  cases r with
  | own i =>
    have ed : (listOf ρ (.own i)).map PyData.list = some d := ed
    cases el : listOf ρ (.own i) with
    | none => rw [el] at ed; cases ed
    | some ds =>
      rw [el] at ed
      have e : PyData.list ds = d := Option.some.inj ed
      obtain ⟨a, xs, ev, f, ra⟩ := sql_now R k1 el
      exact lst e.symm f ra ev
  | dat d' =>
    have e : d' = d := Option.some.inj ed
    subst e
    have k1 : Rep X.K H d' v := k1
    cases d' with
    | none => rw [Rep] at k1; subst k1; cases ru; exact PySem.P.repr_of_none atom
    | bool b => rw [Rep] at k1; subst k1; cases ru; exact PySem.P.repr_of_bool atom
    | int i => rw [Rep] at k1; subst k1; obtain ⟨t, rfl⟩ := ru; exact PySem.P.repr_of_int (of_decide_eq_true (by simpa [PyData.showable] using sh)) atom
    | str z => rw [Rep] at k1; subst k1; obtain ⟨t, rfl⟩ := ru; exact PySem.P.repr_of_str atom sz
    | list ds =>
      rw [Rep] at k1
      obtain ⟨a, xs, ev, f, ra⟩ := k1
      exact lst rfl f.sq ra ev
    | tuple ds =>
      rw [Rep] at k1
      obtain ⟨a, xs, rfl, f, ra⟩ := k1
      cases ru
      obtain ⟨its, rv, ⟨o, ho, hc, n, hd⟩, _⟩ := I.tuple f
      have sz' := sz
      rw [PyData.shown] at sz'
      have sub := shwA_of I ds xs its ra rv (by rw [PyData.showable] at sh; exact sh) fun t ht => Nat.le_trans (tupleText_mem_le ht) sz'
      exact repr_shw (.tuple ho hc hd sub) sz hg hud (.inr (.inl ⟨_, rfl⟩)) ⟨fun _ z => (nomatch z), fun _ z => by cases z; exact ⟨o, _, n, ho, hc, hd, sub⟩, fun _ z => (nomatch z)⟩ fun h' u tk kk => fin kk
    | dict kvs =>
      rw [Rep] at k1
      obtain ⟨a, ps, rfl, ⟨o', f⟩, ra⟩ := k1
      cases ru
      obtain ⟨_, hsm, vs, kv, o, es, ep, ho, hc, hd, _, pr, _⟩ := dk_rd I.hok (.inr ⟨o', f⟩)
      have sz' := sz
      rw [PyData.shown] at sz'
      have sub := shwK_of I kvs ps vs es.toList ra kv pr (by rw [PyData.showable] at sh; exact sh) fun t ht => Nat.le_trans (dictText_mem_le ht) sz'
      exact repr_shw (.dict ho hc.1 hd hsm sub) sz hg hud (.inr (.inr ⟨_, rfl, hsm⟩)) ⟨fun _ z => (nomatch z), fun _ z => (nomatch z), fun _ z => by cases z; exact ⟨o, es, ep, ho, hc.1, hd, sub⟩⟩ fun h' u tk kk => fin kk
end
end DL

/-! DL: reading the formulas by simp; comprehensions by plain functions. -/
namespace DL
open PySem PySem.Spec L2

/-! ### slots -/
theorem ddSlot_inj {a c a' c' : Addr} : ddSlot a c = ddSlot a' c' ↔ a = a' ∧ c = c' := by
  constructor
  · intro h
    have h1 : a = a' := by injection h
    have h2 : dkFp a c = dkFp a' c' := by injection h
    subst h1
    refine ⟨rfl, ?_⟩
    have f1 : c = a ∨ c = c' := by
      have e1 := congrFun h2 c
      unfold dkFp at e1
      exact e1 ▸ (.inr rfl : c = a ∨ c = c)
    have f2 : c' = a ∨ c' = c := by
      have e1 := congrFun h2 c'
      unfold dkFp at e1
      exact e1.symm ▸ (.inr rfl : c' = a ∨ c' = c')
    rcases f1 with f1 | f1
    · rcases f2 with f2 | f2
      · rw [f1, f2]
      · exact f2.symm
    · exact f1
  · rintro ⟨rfl, rfl⟩
    rfl
def argS : Option Slot → Slot
  | some (.own a ds) => .rd a ds
  | some (.rd a ds) => .rd a ds
  | some (.ext a fp R) => .ext a fp R
  | _ => .no
theorem argSlot_own (ρ : Rho) (i : Nat) : argSlot ρ (.own i) = argS ρ[i]? := rfl
theorem argSlot_dat (ρ : Rho) (d : PyData) : argSlot ρ (.dat d) = .dat d := rfl
theorem argS_dd (a c : Addr) : argS (some (ddSlot a c)) = ddSlot a c := rfl
theorem argS_own (a : Addr) (ds : List PyData) : argS (some (.own a ds)) = .rd a ds := rfl
theorem argS_rd (a : Addr) (ds : List PyData) : argS (some (.rd a ds)) = .rd a ds := rfl
def exI : Option Slot → Nat → List Nat → List Nat
  | some (.ext _ _ _), i, l => i :: l
  | _, _, l => l
theorem extIx_own (ρ : Rho) (i : Nat) (rs : List Rv) : extIx ρ (.own i :: rs) = exI ρ[i]? i (extIx ρ rs) := by
  rw [extIx]
  rcases e : ρ[i]? with _ | s
  · rfl
  · cases s <;> rfl
theorem extIx_dat (ρ : Rho) (d : PyData) (rs : List Rv) : extIx ρ (.dat d :: rs) = extIx ρ rs := rfl
theorem extIx_nil (ρ : Rho) : extIx ρ [] = [] := rfl
theorem exI_dd (a c : Addr) (i : Nat) (l : List Nat) : exI (some (ddSlot a c)) i l = i :: l := rfl
theorem exI_own (a : Addr) (ds : List PyData) (i : Nat) (l : List Nat) : exI (some (.own a ds)) i l = l := rfl
theorem exI_rd (a : Addr) (ds : List PyData) (i : Nat) (l : List Nat) : exI (some (.rd a ds)) i l = l := rfl
theorem putBack_dd (ρ : Rho) (i : Nat) (rs : List Rv) (a c : Addr) (outs : List Slot) : putBack ρ (.own i :: rs) (ddSlot a c :: outs) = putBack (ρ.set i (ddSlot a c)) rs outs := rfl
theorem putBack_no (ρ : Rho) (i : Nat) (rs : List Rv) (outs : List Slot) : putBack ρ (.own i :: rs) (.no :: outs) = putBack ρ rs outs := rfl
theorem putBack_dat (ρ : Rho) (d : PyData) (rs : List Rv) (s : Slot) (outs : List Slot) : putBack ρ (.dat d :: rs) (s :: outs) = putBack ρ rs outs := by cases s <;> rfl
theorem putBack_nil (ρ : Rho) (outs : List Slot) : putBack ρ [] outs = ρ := by cases outs <;> rfl
def dvS : Option Slot → Nat → Rho → (Rv → Rho → Prop) → Prop
  | some (.dat d), _, ρ, Q => Q (.dat d) ρ
  | some (.own _ _), i, ρ, Q => Q (.own i) ρ
  | some (.rd _ _), i, ρ, Q => Q (.own i) ρ
  | some (.ext _ _ _), i, ρ, Q => Q (.own i) ρ
  | _, _, _, _ => False
theorem dVar_eq (i : Nat) (ρ : Rho) (Q : Rv → Rho → Prop) : dVar i ρ Q = dvS ρ[i]? i ρ Q := by
  unfold dVar dvS
  rcases e : ρ[i]? with _ | s
  · rfl
  · cases s <;> rfl
theorem dvS_dat (d : PyData) (i : Nat) (ρ : Rho) (Q : Rv → Rho → Prop) : dvS (some (.dat d)) i ρ Q = Q (.dat d) ρ := rfl
theorem dvS_own (a : Addr) (ds : List PyData) (i : Nat) (ρ : Rho) (Q : Rv → Rho → Prop) : dvS (some (.own a ds)) i ρ Q = Q (.own i) ρ := rfl
theorem dvS_rd (a : Addr) (ds : List PyData) (i : Nat) (ρ : Rho) (Q : Rv → Rho → Prop) : dvS (some (.rd a ds)) i ρ Q = Q (.own i) ρ := rfl
theorem dvS_dd (a c : Addr) (i : Nat) (ρ : Rho) (Q : Rv → Rho → Prop) : dvS (some (ddSlot a c)) i ρ Q = Q (.own i) ρ := rfl
def loS : Option Slot → Option (List PyData)
  | some (.own _ ds) => some ds
  | some (.rd _ ds) => some ds
  | _ => none
theorem listOf_own (ρ : Rho) (i : Nat) : listOf ρ (.own i) = loS ρ[i]? := by
  unfold listOf loS
  rfl
theorem listOf_list (ρ : Rho) (ds : List PyData) : listOf ρ (.dat (.list ds)) = some ds := rfl
theorem loS_own (a : Addr) (ds : List PyData) : loS (some (.own a ds)) = some ds := rfl
theorem loS_rd (a : Addr) (ds : List PyData) : loS (some (.rd a ds)) = some ds := rfl
theorem seqOf_tup (ρ : Rho) (ds : List PyData) : seqOf ρ (.dat (.tuple ds)) = some ds := rfl
theorem seqOf_list (ρ : Rho) (ds : List PyData) : seqOf ρ (.dat (.list ds)) = some ds := rfl
theorem seqOf_own (ρ : Rho) (i : Nat) : seqOf ρ (.own i) = loS ρ[i]? := listOf_own ρ i
theorem datOf_dat (ρ : Rho) (d : PyData) : datOf ρ (.dat d) = some d := rfl
theorem datOf_own (ρ : Rho) (i : Nat) : datOf ρ (.own i) = (loS ρ[i]?).map PyData.list := by
  show (listOf ρ (.own i)).map PyData.list = _
  rw [listOf_own]
theorem ownAt_eq (ρ : Rho) (i : Nat) (a : Addr) (ds : List PyData) (h : ρ[i]? = some (.own a ds)) : ownAt ρ i := by
  unfold ownAt
  rw [h]
  trivial
def rtS (E : DEnds) : Rv → Rho → Prop
  | .dat d, ρ1 => E.rt d ρ1
  | .own i, ρ1 => ∃ a ds, ρ1[i]? = some (.own a ds) ∧ E.rt (.list ds) (ρ1.set i (.dat (.list ds)))
theorem dRet_eq (te : DTE) (E : DEnds) (ρ : Rho) : dRet te E ρ = te ρ (rtS E) := by
  unfold dRet rtS
  congr 1
  funext r ρ1
  cases r <;> rfl
theorem rtS_dat (E : DEnds) (d : PyData) (ρ : Rho) : rtS E (.dat d) ρ = E.rt d ρ := rfl
theorem rtS_own (E : DEnds) (i : Nat) (ρ : Rho) : rtS E (.own i) ρ = ∃ a ds, ρ[i]? = some (.own a ds) ∧ E.rt (.list ds) (ρ.set i (.dat (.list ds))) := rfl
theorem fnEnds_rt (as : List Slot) (Q0 : PyData → List Slot → Prop) (d : PyData) (ρ : Rho) : (fnEnds as Q0).rt d ρ = ∃ outs, outsOf as ρ = some outs ∧ Q0 d outs := rfl
theorem fnEnds_nx (as : List Slot) (Q0 : PyData → List Slot → Prop) (ρ : Rho) : (fnEnds as Q0).nx ρ = ∃ outs, outsOf as ρ = some outs ∧ Q0 .none outs := rfl
theorem outsOf_nil (ρ : Rho) : outsOf [] ρ = some [] := by cases ρ <;> rfl
theorem outsOf_dd (a c : Addr) (as : List Slot) (ρ : Rho) : outsOf (ddSlot a c :: as) (ddSlot a c :: ρ) = (outsOf as ρ).map (ddSlot a c :: ·) := by
  show (if a = a then _ else none) = _
  rw [if_pos rfl]
  rfl
theorem outsOf_dat (d : PyData) (s : Slot) (as : List Slot) (ρ : Rho) : outsOf (.dat d :: as) (s :: ρ) = (outsOf as ρ).map (.no :: ·) := by cases s <;> rfl
theorem outsOf_rd (a : Addr) (ds : List PyData) (s : Slot) (as : List Slot) (ρ : Rho) : outsOf (.rd a ds :: as) (s :: ρ) = (outsOf as ρ).map (.no :: ·) := by cases s <;> rfl
theorem dats_nil : dats [] = some [] := rfl
theorem dats_dat (d : PyData) (rs : List Rv) : dats (.dat d :: rs) = (dats rs).map (d :: ·) := rfl
theorem draw_iff (a c : Addr) (n : Int) (Q : PyData → List Slot → Prop) : ddrawS [ddSlot a c, .dat (.int n)] Q = (0 < n ∧ n < 2 ^ 64 ∧ ∀ r, 0 ≤ r → r < n → Q (.int r) [ddSlot a c, .no]) := by
  apply propext
  constructor
  · rintro ⟨a', c', n', e, h0, h1, h⟩
    simp only [List.cons.injEq, and_true, Slot.dat.injEq, PyData.int.injEq, ddSlot_inj] at e
    obtain ⟨⟨rfl, rfl⟩, rfl⟩ := e
    exact ⟨h0, h1, h⟩
  · rintro ⟨h0, h1, h⟩
    exact ⟨a, c, n, rfl, h0, h1, h⟩

/-! ### what is walked -/
theorem iterOf_tup (ρ : Rho) (ds : List PyData) (Q : List PyData → (Rho → Prop) → Rho → Prop) : iterOf ρ (.dat (.tuple ds)) Q = Q ds (fun _ => True) ρ := rfl
theorem iterOf_list (ρ : Rho) (ds : List PyData) (Q : List PyData → (Rho → Prop) → Rho → Prop) : iterOf ρ (.dat (.list ds)) Q = Q ds (fun _ => True) ρ := rfl
theorem iterOf_own (ρ : Rho) (i : Nat) (Q : List PyData → (Rho → Prop) → Rho → Prop) : iterOf ρ (.own i) Q = ∃ ds, loS ρ[i]? = some ds ∧ Q ds (fun ρ2 => ρ2[i]? = ρ[i]?) ρ := by
  show (∃ ds, listOf ρ (.own i) = some ds ∧ _) = _
  rw [listOf_own]
/-- a comprehension, behind its iterator -/
def lcK (g : DTG) (tt : DTT) (te : DTE) (vs : List Nat) (Q : List PyData → Rho → Prop) : List PyData → (Rho → Prop) → Rho → Prop := fun ds c ρ1 => plain ρ1 vs ∧ ∃ I : Nat → List PyData → Rho → Prop, I 0 [] (wipeR ρ1 vs) ∧ (∀ i acc ρ2, I i acc ρ2 → c ρ2) ∧
  (∀ i d acc ρ2, ds[i]? = some d → I i acc ρ2 → g d ρ2 fun ρ3 => tt ρ3 fun b ρ4 =>
    (b = true → te ρ4 fun r ρ5 => ∃ e, r = .dat e ∧ acc.length < sizeLine ∧ I (i + 1) (acc ++ [e]) (wipeR ρ5 vs)) ∧ (b = false → I (i + 1) acc (wipeR ρ4 vs))) ∧
  ∀ acc ρ2, I ds.length acc ρ2 → Q acc (restore ρ1 vs ρ2)
theorem nLc_eq (ti : DTI) (g : DTG) (tt : DTT) (te : DTE) (vs : List Nat) (ρ : Rho) (Q : List PyData → Rho → Prop) : nLc ti g tt te vs ρ Q = ti ρ (lcK g tt te vs Q) := rfl
def forK (g : DTG) (tb : DTS) (E : DEnds) : List PyData → (Rho → Prop) → Rho → Prop := fun ds c ρ1 => ∃ I : Nat → Rho → Prop, I 0 ρ1 ∧ (∀ i ρ2, I i ρ2 → c ρ2) ∧
  (∀ i d ρ2, ds[i]? = some d → I i ρ2 → g d ρ2 fun ρ3 => tb { E with nx := I (i + 1), ct := I (i + 1), bk := E.nx } ρ3) ∧ ∀ ρ2, I ds.length ρ2 → E.nx ρ2
theorem dFor_eq (ti : DTI) (g : DTG) (tb : DTS) (E : DEnds) (ρ : Rho) : dFor ti g tb E ρ = ti ρ (forK g tb E) := rfl

/-! ### comprehensions -/
/-- what is chosen and what is made of it -/
inductive Sel {α : Type} (R : α → Option PyData → Prop) : List α → List PyData → Prop
  | nil : Sel R [] []
  | put {x : α} {e : PyData} {xs : List α} {es : List PyData} : R x (some e) → Sel R xs es → Sel R (x :: xs) (e :: es)
  | skip {x : α} {xs : List α} {es : List PyData} : R x none → Sel R xs es → Sel R (x :: xs) es
section
variable {α : Type} {R : α → Option PyData → Prop} {xs : List α} {es : List PyData}
theorem Sel.app {ys : List α} {fs : List PyData} (h : Sel R xs es) (h' : Sel R ys fs) : Sel R (xs ++ ys) (es ++ fs) := by
  induction h with
  | nil => exact h'
  | put r _ ih => exact .put r ih
  | skip r _ ih => exact .skip r ih
theorem Sel.len (h : Sel R xs es) : es.length ≤ xs.length := by
  induction h with
  | nil => exact Nat.le_refl _
  | put r _ ih => simp only [List.length_cons]; omega
  | skip r _ ih => simp only [List.length_cons]; omega
theorem Sel.mem (h : Sel R xs es) : ∀ e ∈ es, ∃ x ∈ xs, R x (some e) := by
  induction h with
  | nil => intro e he; cases he
  | put r _ ih =>
    intro e he
    rcases List.mem_cons.mp he with rfl | he
    · exact ⟨_, List.mem_cons_self, r⟩
    · obtain ⟨x, hx, q⟩ := ih e he
      exact ⟨x, List.mem_cons_of_mem _ hx, q⟩
  | skip r _ ih =>
    intro e he
    obtain ⟨x, hx, q⟩ := ih e he
    exact ⟨x, List.mem_cons_of_mem _ hx, q⟩
theorem Sel.fm {f : α → Option PyData} (h : Sel R xs es) (hf : ∀ x ∈ xs, ∀ o, R x o → o = f x) : es = xs.filterMap f := by
  induction h with
  | nil => rfl
  | put r _ ih =>
    rw [List.filterMap_cons, ← hf _ List.mem_cons_self _ r, ← ih fun x hx => hf x (List.mem_cons_of_mem _ hx)]
  | skip r _ ih =>
    rw [List.filterMap_cons, ← hf _ List.mem_cons_self _ r, ← ih fun x hx => hf x (List.mem_cons_of_mem _ hx)]
theorem Sel.all (h : Sel R xs es) (hn : ∀ x ∈ xs, ¬ R x none) : es.length = xs.length ∧ ∀ (i : Nat) x e, xs[i]? = some x → es[i]? = some e → R x (some e) := by
  induction h with
  | nil => exact ⟨rfl, fun i x e h => by simp at h⟩
  | put r _ ih =>
    obtain ⟨h1, h2⟩ := ih fun x hx => hn x (List.mem_cons_of_mem _ hx)
    refine ⟨by simp only [List.length_cons, h1], fun i x e hx he => ?_⟩
    cases i with
    | zero =>
      cases hx
      cases he
      exact r
    | succ i => exact h2 i x e hx he
  | skip r _ ih => exact (hn _ List.mem_cons_self r).elim
end
section
variable {α : Type} {emb : α → PyData} {xs : List α} {g : DTG} {tt : DTT} {te : DTE} {vs : List Nat} {ρ1 : Rho} {c : Rho → Prop} {Q : List PyData → Rho → Prop}
theorem lcK_rel (R : α → Option PyData → Prop) {ds : List PyData} (hd : ds = xs.map emb) (hp : plain ρ1 vs) (hc : c (wipeR ρ1 vs)) (hl : xs.length ≤ sizeLine)
    (step : ∀ x ∈ xs, ∀ (Kt : PyData → Prop) (Kf : Prop), (∀ e, R x (some e) → Kt e) → (R x none → Kf) → g (emb x) (wipeR ρ1 vs) fun ρ3 => tt ρ3 fun b ρ4 => (b = true → te ρ4 fun r ρ5 => ∃ e, r = .dat e ∧ Kt e ∧ wipeR ρ5 vs = wipeR ρ1 vs) ∧ (b = false → Kf ∧ wipeR ρ4 vs = wipeR ρ1 vs))
    (q : ∀ es, Sel R xs es → Q es ρ1) : lcK g tt te vs Q ds c ρ1 := by
  subst hd
  refine ⟨hp, fun i acc ρ => ρ = wipeR ρ1 vs ∧ Sel R (xs.take i) acc, ⟨rfl, .nil⟩, fun i acc ρ2 h => by rw [h.1]; exact hc, ?_, ?_⟩
  · rintro i d acc ρ2 ed ⟨rfl, hs⟩
    rw [List.getElem?_map] at ed
    cases ex : xs[i]? with
    | none => rw [ex] at ed; cases ed
    | some x =>
      rw [ex] at ed
      cases ed
      have hi : i < xs.length := (List.getElem?_eq_some_iff.mp ex).1
      have hla : acc.length < sizeLine := by
        have := hs.len
        rw [List.length_take] at this
        omega
      have et : xs.take (i + 1) = xs.take i ++ [x] := by rw [List.take_add_one, ex]; rfl
      have st := step x (List.mem_of_getElem? ex) (fun e => acc.length < sizeLine ∧ Sel R (xs.take (i + 1)) (acc ++ [e])) (Sel R (xs.take (i + 1)) acc) (fun e re => ⟨hla, by rw [et]; exact hs.app (.put re .nil)⟩) fun re => by
        rw [et]
        have := hs.app (.skip re .nil)
        rwa [List.append_nil] at this
      have ek : ∀ ρ5 : Rho, (wipeR ρ5 vs = wipeR ρ1 vs ∧ Sel R (xs.take (i + 1)) acc) = (Sel R (xs.take (i + 1)) acc ∧ wipeR ρ5 vs = wipeR ρ1 vs) := fun _ => propext and_comm
      have ek2 : ∀ (e : PyData) (ρ5 : Rho), (acc.length < sizeLine ∧ (wipeR ρ5 vs = wipeR ρ1 vs ∧ Sel R (xs.take (i + 1)) (acc ++ [e]))) = ((acc.length < sizeLine ∧ Sel R (xs.take (i + 1)) (acc ++ [e])) ∧ wipeR ρ5 vs = wipeR ρ1 vs) := fun _ _ => propext ⟨fun ⟨a, b, c⟩ => ⟨⟨a, c⟩, b⟩, fun ⟨⟨a, c⟩, b⟩ => ⟨a, b, c⟩⟩
      simp only [ek, ek2]
      exact st
  · rintro acc ρ2 ⟨rfl, hs⟩
    rw [restore_wipe]
    rw [List.length_map, List.take_length] at hs
    exact q acc hs
theorem lcK_fm (f : α → Option PyData) {ds : List PyData} (hd : ds = xs.map emb) (hp : plain ρ1 vs) (hc : c (wipeR ρ1 vs)) (hl : xs.length ≤ sizeLine)
    (step : ∀ x ∈ xs, ∀ (Kt : PyData → Prop) (Kf : Prop), (∀ e, f x = some e → Kt e) → (f x = none → Kf) → g (emb x) (wipeR ρ1 vs) fun ρ3 => tt ρ3 fun b ρ4 => (b = true → te ρ4 fun r ρ5 => ∃ e, r = .dat e ∧ Kt e ∧ wipeR ρ5 vs = wipeR ρ1 vs) ∧ (b = false → Kf ∧ wipeR ρ4 vs = wipeR ρ1 vs))
    (q : Q (xs.filterMap f) ρ1) : lcK g tt te vs Q ds c ρ1 :=
  lcK_rel (fun x o => o = f x) hd hp hc hl (fun x hx Kt Kf ht hf => step x hx Kt Kf (fun e h => ht e h.symm) fun h => hf h.symm) fun es s => by
    rw [s.fm fun x _ o h => h]
    exact q
theorem lcK_map (f : α → PyData) {ds : List PyData} (hd : ds = xs.map emb) (hp : plain ρ1 vs) (hc : c (wipeR ρ1 vs)) (hl : xs.length ≤ sizeLine)
    (step : ∀ x ∈ xs, ∀ Kt : PyData → Prop, Kt (f x) → g (emb x) (wipeR ρ1 vs) fun ρ3 => te ρ3 fun r ρ5 => ∃ e, r = .dat e ∧ Kt e ∧ wipeR ρ5 vs = wipeR ρ1 vs)
    (q : Q (xs.map f) ρ1) : lcK g dYes te vs Q ds c ρ1 := by
  have e0 : xs.filterMap (fun x => some (f x)) = xs.map f := by simp
  have q0 : Q (xs.filterMap fun x => some (f x)) ρ1 := e0.symm ▸ q
  refine lcK_fm (fun x => some (f x)) hd hp hc hl (fun x hx Kt Kf ht hf => ?_) q0
  have e : ∀ ρ3 : Rho, (dYes ρ3 fun b ρ4 => (b = true → te ρ4 fun r ρ5 => ∃ e, r = .dat e ∧ Kt e ∧ wipeR ρ5 vs = wipeR ρ1 vs) ∧ (b = false → Kf ∧ wipeR ρ4 vs = wipeR ρ1 vs)) = te ρ3 fun r ρ5 => ∃ e, r = .dat e ∧ Kt e ∧ wipeR ρ5 vs = wipeR ρ1 vs := fun ρ3 => by
    unfold dYes
    simp
  simp only [e]
  exact step x hx Kt (ht _ rfl)
/-- every one is as P says; as many as are walked -/
theorem lcK_all (P : α → PyData → Prop) {ds : List PyData} (hd : ds = xs.map emb) (hp : plain ρ1 vs) (hc : c (wipeR ρ1 vs)) (hl : xs.length ≤ sizeLine)
    (step : ∀ x ∈ xs, ∀ Kt : PyData → Prop, (∀ e, P x e → Kt e) → g (emb x) (wipeR ρ1 vs) fun ρ3 => te ρ3 fun r ρ5 => ∃ e, r = .dat e ∧ Kt e ∧ wipeR ρ5 vs = wipeR ρ1 vs)
    (q : ∀ es : List PyData, es.length = xs.length → (∀ e ∈ es, ∃ x ∈ xs, P x e) → (∀ (i : Nat) x e, xs[i]? = some x → es[i]? = some e → P x e) → Q es ρ1) : lcK g dYes te vs Q ds c ρ1 := by
  refine lcK_rel (fun x o => ∃ e, o = some e ∧ P x e) hd hp hc hl (fun x hx Kt Kf ht hf => ?_) fun es s => ?_
  · have e : ∀ ρ3 : Rho, (dYes ρ3 fun b ρ4 => (b = true → te ρ4 fun r ρ5 => ∃ e, r = .dat e ∧ Kt e ∧ wipeR ρ5 vs = wipeR ρ1 vs) ∧ (b = false → Kf ∧ wipeR ρ4 vs = wipeR ρ1 vs)) = te ρ3 fun r ρ5 => ∃ e, r = .dat e ∧ Kt e ∧ wipeR ρ5 vs = wipeR ρ1 vs := fun ρ3 => by
      unfold dYes
      simp
    simp only [e]
    exact step x hx Kt fun e he => ht e ⟨e, rfl, he⟩
  · obtain ⟨h1, h2⟩ := s.all fun x _ ⟨e, z, _⟩ => nomatch z
    exact q es h1 (fun e he => let ⟨x, hx, e', z, p⟩ := s.mem e he; ⟨x, hx, by cases z; exact p⟩) fun i x e hx he => let ⟨e', z, p⟩ := h2 i x e hx he; by cases z; exact p
end
theorem signs_map (x : Str) : signsD x = x.cps.toList.map fun c => PyData.str ⟨#[c]⟩ := rfl
theorem rgD_map (lo : Int) (n : Nat) : rgD lo n = (List.range n).map fun k => PyData.int (lo + (k : Nat)) := rfl
theorem zpD_map (ds es : List PyData) : zpD ds es = (List.zip ds es).map fun p => PyData.tuple [p.1, p.2] := rfl
end DL

/-! DL: data that may be shown, dicts and far numbers too. -/
namespace DL
open PySem PySem.Spec L2

structure Sd (b e : Nat) (d : PyData) : Prop where
  sh : d.showable = true
  ls : d.leavesShort 50 = true
  dp : d.depth ≤ e
  bk : d.bulk ≤ b
structure SdA (b e : Nat) (ds : List PyData) : Prop where
  sh : PyData.showableAll ds = true
  ls : PyData.leavesShortAll 50 ds = true
  dp : PyData.depthAll ds ≤ e
  bk : PyData.bulkAll ds ≤ b
section
variable {b e b' e' : Nat} {d : PyData} {ds : List PyData}
theorem Sd.le (h : Sd b e d) (h1 : b ≤ b') (h2 : e ≤ e') : Sd b' e' d := ⟨h.sh, h.ls, Nat.le_trans h.dp h2, Nat.le_trans h.bk h1⟩
theorem SdA.le (h : SdA b e ds) (h1 : b ≤ b') (h2 : e ≤ e') : SdA b' e' ds := ⟨h.sh, h.ls, Nat.le_trans h.dp h2, Nat.le_trans h.bk h1⟩
theorem Sd.ok (h : Sd b e d) (h1 : b ≤ 300000 := by omega) (h2 : e ≤ 60 := by omega) : Showd d := by
  refine ⟨h.sh, Nat.le_trans h.dp h2, ?_⟩
  have q := PyData.shown_le_bulk 50 (by decide) d h.ls
  have := h.bk
  show _ ≤ 16777216
  omega
theorem Sd.none : Sd b e .none := ⟨rfl, rfl, Nat.zero_le _, Nat.zero_le _⟩
theorem Sd.bool (x : Bool) : Sd b e (.bool x) := ⟨rfl, rfl, Nat.zero_le _, Nat.zero_le _⟩
theorem Sd.int {i : Int} (h : -(10 ^ 45) < i ∧ i < 10 ^ 45 := by omega) : Sd b e (.int i) := by
  have hn : i.natAbs < 10 ^ 45 := by omega
  refine ⟨?_, ?_, Nat.zero_le _, Nat.zero_le _⟩
  · show decide (i.natAbs.log2 < 1920) = true
    apply decide_eq_true
    by_cases h0 : i.natAbs = 0
    · rw [h0]; decide
    · exact (Nat.log2_lt h0).mpr (Nat.lt_of_lt_of_le hn (Nat.le_trans (show 10 ^ 45 ≤ 2 ^ 150 by decide) (Nat.pow_le_pow_right (by decide) (by decide))))
  · show decide ((PyData.shown (.int i)).length ≤ 50) = true
    apply decide_eq_true
    have q := int_text_length_le10 (k := 45) (by decide) hn
    show (Str.ofString (toString i)).length ≤ 50
    rw [ofString_length]
    omega
theorem Sd.str {x : Str} (h : cpsOk x = true) (hb : x.length ≤ b) : Sd b e (.str x) := by
  refine ⟨rfl, ?_, Nat.zero_le _, hb⟩
  show (x.cps.toList.all fun c => decide (c < 16 ^ 8)) = true
  rw [List.all_eq_true]
  intro c hc
  have := cps_mem h c hc
  apply decide_eq_true
  omega
theorem SdA.nil : SdA b e [] := ⟨rfl, rfl, Nat.zero_le _, Nat.zero_le _⟩
theorem SdA.cons (h : Sd b e d) (r : SdA b' e ds) : SdA (b + 1 + b') e (d :: ds) := by
  refine ⟨by rw [PyData.showableAll, h.sh, r.sh]; rfl, by rw [PyData.leavesShortAll, h.ls, r.ls]; rfl, ?_, ?_⟩
  · rw [PyData.depthAll]; have := h.dp; have := r.dp; omega
  · rw [PyData.bulkAll]; have := h.bk; have := r.bk; omega
theorem SdA.of (h : ∀ d ∈ ds, Sd b e d) : SdA (ds.length * (b + 1)) e ds := by
  induction ds with
  | nil => exact .nil
  | cons d ds ih =>
    have q := SdA.cons (h d List.mem_cons_self) (ih fun d hd => h d (List.mem_cons_of_mem _ hd))
    refine q.le ?_ (Nat.le_refl _)
    rw [List.length_cons, Nat.add_mul]
    omega
theorem Sd.listA (h : SdA b e ds) : Sd b (e + 1) (.list ds) := ⟨by rw [PyData.showable]; exact h.sh, by rw [PyData.leavesShort]; exact h.ls, by rw [PyData.depth]; have := h.dp; omega, by rw [PyData.bulk]; exact h.bk⟩
theorem Sd.tupleA (h : SdA b e ds) : Sd b (e + 1) (.tuple ds) := ⟨by rw [PyData.showable]; exact h.sh, by rw [PyData.leavesShort]; exact h.ls, by rw [PyData.depth]; have := h.dp; omega, by rw [PyData.bulk]; exact h.bk⟩
theorem Sd.list (h : ∀ d ∈ ds, Sd b e d) : Sd (ds.length * (b + 1)) (e + 1) (.list ds) := .listA (.of h)
theorem Sd.tuple (h : ∀ d ∈ ds, Sd b e d) : Sd (ds.length * (b + 1)) (e + 1) (.tuple ds) := .tupleA (.of h)
theorem Sd.dict1 {k : Str} (hk : cpsOk k = true) (h : Sd b e d) : Sd (k.length + b + 2) (e + 1) (.dict [(.str k, d)]) := by
  have q : Sd k.length 0 (.str k) := .str hk (Nat.le_refl _)
  refine ⟨?_, ?_, ?_, ?_⟩
  · simp [PyData.showable, PyData.showableKv, h.sh]
  · have h1 := q.ls
    have h2 := h.ls
    simp [PyData.leavesShort, PyData.leavesShortKv] at h1 ⊢
    exact ⟨h1, h2⟩
  · have := h.dp
    simp only [PyData.depth, PyData.depthKv]
    omega
  · have := h.bk
    have h1 := q.bk
    simp only [PyData.bulk, PyData.bulkKv] at h1 ⊢
    omega
theorem Sd.dict0 : Sd b (e + 1) (.dict []) := ⟨rfl, rfl, by simp [PyData.depth, PyData.depthKv], Nat.zero_le _⟩
end
theorem sd_bools (bs : List Bool) (e : Nat) : Sd bs.length (e + 1) (.list (bs.map .bool)) := by
  have q : Sd ((bs.map PyData.bool).length * (0 + 1)) (e + 1) (.list (bs.map .bool)) := Sd.list fun d hd => by
    obtain ⟨b, _, rfl⟩ := List.mem_map.mp hd
    exact .bool b
  exact q.le (by rw [List.length_map]; omega) (Nat.le_refl _)

/-! ### texts of letters -/
def low (c : Nat) : Bool := decide (97 ≤ c) && decide (c ≤ 122)
theorem low_mem (c : Nat) : decide (c ∈ (Str.ofString "abcdefghijklmnopqrstuvwxyz").cps.toList) = low c := by
  have e : (Str.ofString "abcdefghijklmnopqrstuvwxyz").cps.toList = (List.range 26).map (97 + ·) := by decide +kernel
  rw [e]
  unfold low
  rw [Bool.eq_iff_iff]
  simp only [List.mem_map, List.mem_range, decide_eq_true_eq, Bool.and_eq_true]
  constructor
  · rintro ⟨i, hi, rfl⟩
    omega
  · rintro ⟨h1, h2⟩
    exact ⟨c - 97, by omega, by omega⟩
end DL

/-! DL: picks from what may be walked. -/
namespace DL
open PySem PySem.Spec L2

/-- what may be picked from -/
def itS : Slot → Option (List PyData)
  | .dat (.list ds) => some ds
  | .dat (.tuple ds) => some ds
  | .dat (.str x) => some (signsD x)
  | .own _ ds => some ds
  | .rd _ ds => some ds
  | _ => none
def pickS : FSp := fun as Q0 => ∃ a c s ds, as = [ddSlot a c, s] ∧ itS s = some ds ∧ ds ≠ [] ∧ ds.length ≤ sizeLine ∧ ∀ d ∈ ds, Q0 d [ddSlot a c, .no]
theorem signs_len (x : Str) : (signsD x).length = x.length := by rw [signs_map, List.length_map, len_cps]
theorem pick_law {a c : Addr} {s : Slot} {ds : List PyData} {Q0 : PyData → List Slot → Prop} (e : itS s = some ds) (hn : ds ≠ []) (hl : ds.length ≤ sizeLine) (q : ∀ d ∈ ds, Q0 d [ddSlot a c, .no]) :
    (dRet (dOp fIx (dVar 1) (dCall ddrawS (dCons (dVar 0) (dCons (dCB fLen (dCons (dVar 1) dNil)) dNil))))) (fnEnds [ddSlot a c, s] Q0) [ddSlot a c, s] := by
  have hp : 0 < ds.length := by
    cases ds with
    | nil => exact (hn rfl).elim
    | cons d r => exact Nat.succ_pos _
  have hsz : ds.length < 2 ^ 64 := Nat.lt_of_le_of_lt hl (by decide)
  have ho : outsOf [ddSlot a c, s] [ddSlot a c, s] = some [ddSlot a c, .no] := by
    cases s with
    | ext _ _ _ => cases e
    | _ => simp [outsOf, ddSlot]
  have seq : ∀ r : Rv, (∀ Q : Rv → Rho → Prop, dVar 1 [ddSlot a c, s] Q = Q r [ddSlot a c, s]) → seqOf [ddSlot a c, s] r = some ds → (∀ x, r ≠ .dat (.str x)) → (dRet (dOp fIx (dVar 1) (dCall ddrawS (dCons (dVar 0) (dCons (dCB fLen (dCons (dVar 1) dNil)) dNil))))) (fnEnds [ddSlot a c, s] Q0) [ddSlot a c, s] := fun r ev es hr => by
    have el : ∀ C, fLen [ddSlot a c, s] [r] C = ∃ ds, seqOf [ddSlot a c, s] r = some ds ∧ C (.int ds.length) := fun C => by
      cases r with
      | own i => rfl
      | dat d => cases d <;> first | rfl | exact (hr _ rfl).elim
    have ex : ∀ (i : Int) C, fIx [ddSlot a c, s] [r, .dat (.int i)] C = ∃ ds d, seqOf [ddSlot a c, s] r = some ds ∧ atI ds i = some d ∧ C d := fun i C => by
      cases r with
      | own i => rfl
      | dat d => cases d <;> first | rfl | exact (hr _ rfl).elim
    have e0 : ∀ Q, dVar 0 [ddSlot a c, s] Q = Q (.own 0) [ddSlot a c, s] := fun _ => rfl
    simp only [dRet_eq, dOp, dCall, dCons, dCB, dNil, e0, ev, el]
    refine ⟨ds, es, nodup1 0, a, c, ds.length, rfl, by omega, by omega, fun i h0 h1 => ?_⟩
    obtain ⟨d, ed, hd⟩ := atI_ok h0 h1
    show fIx [ddSlot a c, s] [r, .dat (.int i)] _
    rw [ex]
    exact ⟨ds, d, es, ed, _, ho, q d hd⟩
  cases s with
  | no => cases e
  | own a' ds' =>
    have e : ds' = ds := Option.some.inj e
    subst e
    exact seq (.own 1) (fun Q => rfl) rfl (fun x z => nomatch z)
  | rd a' ds' =>
    have e : ds' = ds := Option.some.inj e
    subst e
    exact seq (.own 1) (fun Q => rfl) rfl (fun x z => nomatch z)
  | ext _ _ _ => cases e
  | dat d =>
    cases d with
    | list ds' =>
      have e : ds' = ds := Option.some.inj e
      subst e
      exact seq (.dat (.list ds')) (fun Q => rfl) rfl (fun x z => nomatch z)
    | tuple ds' =>
      have e : ds' = ds := Option.some.inj e
      subst e
      exact seq (.dat (.tuple ds')) (fun Q => rfl) rfl (fun x z => nomatch z)
    | str x =>
      have e : signsD x = ds := Option.some.inj e
      subst e
      rw [signs_len] at hp hl hsz
      refine ⟨hl, nodup1 0, a, c, x.length, rfl, by omega, by omega, fun i h0 h1 => ?_⟩
      obtain ⟨k, ek, hk⟩ := atI_ok (xs := x.cps.toList) h0 (by rw [← len_cps]; exact h1)
      exact ⟨k, hl, ek, _, by simp [outsOf, ddSlot, putBack], q _ (List.mem_map.mpr ⟨k, hk, rfl⟩)⟩
    | _ => cases e
theorem pick_iff (a c : Addr) (s : Slot) (Q : PyData → List Slot → Prop) : pickS [ddSlot a c, s] Q = ∃ ds, itS s = some ds ∧ ds ≠ [] ∧ ds.length ≤ sizeLine ∧ ∀ d ∈ ds, Q d [ddSlot a c, .no] := by
  apply propext
  constructor
  · rintro ⟨a', c', s', ds, e, h⟩
    simp only [List.cons.injEq, and_true, ddSlot_inj] at e
    obtain ⟨⟨rfl, rfl⟩, rfl⟩ := e
    exact ⟨ds, h⟩
  · rintro ⟨ds, h⟩
    exact ⟨a, c, s, ds, rfl, h⟩
theorem itS_list (ds : List PyData) : itS (.dat (.list ds)) = some ds := rfl
theorem itS_tup (ds : List PyData) : itS (.dat (.tuple ds)) = some ds := rfl
theorem itS_str (x : Str) : itS (.dat (.str x)) = some (signsD x) := rfl
theorem itS_rd (a : Addr) (ds : List PyData) : itS (.rd a ds) = some ds := rfl
theorem itS_own (a : Addr) (ds : List PyData) : itS (.own a ds) = some ds := rfl
theorem cpow_10_2 : CPow 10 2 = True := by
  apply eq_true
  exact ⟨by decide, by decide, by decide⟩
theorem cpow_10_3 : CPow 10 3 = True := by
  apply eq_true
  exact ⟨by decide, by decide, by decide⟩
theorem cpow_10_6 : CPow 10 6 = True := by
  apply eq_true
  exact ⟨by decide, by decide, by decide⟩
theorem cpow_10_9 : CPow 10 9 = True := by
  apply eq_true
  exact ⟨by decide, by decide, by decide⟩
theorem cpow_10_12 : CPow 10 12 = True := by
  apply eq_true
  exact ⟨by decide, by decide, by decide⟩
theorem cpow_10_18 : CPow 10 18 = True := by
  apply eq_true
  exact ⟨by decide, by decide, by decide⟩
theorem cpow_10_39 : CPow 10 39 = True := by
  apply eq_true
  exact ⟨by decide, by decide, by decide⟩
theorem cpow_10_60 : CPow 10 60 = True := by
  apply eq_true
  exact ⟨by decide, by decide, by decide⟩
theorem atI_0 {α : Type} (x0 : α) (r : List α) : atI (x0 :: r) 0 = some x0 := atI_nat (j := 0) rfl
theorem atI_1 {α : Type} (x0 x1 : α) (r : List α) : atI (x0 :: x1 :: r) 1 = some x1 := atI_nat (j := 1) rfl
theorem atI_2 {α : Type} (x0 x1 x2 : α) (r : List α) : atI (x0 :: x1 :: x2 :: r) 2 = some x2 := atI_nat (j := 2) rfl
theorem atI_3 {α : Type} (x0 x1 x2 x3 : α) (r : List α) : atI (x0 :: x1 :: x2 :: x3 :: r) 3 = some x3 := atI_nat (j := 3) rfl
theorem mergeD_nil (kvs : List (PyData × PyData)) : mergeD kvs [] = kvs := rfl
theorem mergeD_one (k : Key) (d : PyData) : mergeD [] [(k, d)] = [(kD k, d)] := rfl
theorem atI_all {α : Type} {xs : List α} {i : Int} {P : α → Prop} (h0 : 0 ≤ i) (h1 : i < xs.length) (h : ∀ x ∈ xs, P x) : ∃ x, atI xs i = some x ∧ P x := by
  obtain ⟨x, e, hx⟩ := atI_ok h0 h1
  exact ⟨x, e, h x hx⟩
/-! ### isinstance -/
theorem isNn_none : isNn PyData.none = true := rfl
theorem isNn_bool (b : Bool) : isNn (PyData.bool b) = false := rfl
theorem isNn_int (i : Int) : isNn (PyData.int i) = false := rfl
theorem isNn_str (x : Str) : isNn (PyData.str x) = false := rfl
theorem isNn_list (xs : List PyData) : isNn (PyData.list xs) = false := rfl
theorem isNn_tuple (xs : List PyData) : isNn (PyData.tuple xs) = false := rfl
theorem isNn_dict (kvs : List (PyData × PyData)) : isNn (PyData.dict kvs) = false := rfl
theorem isi_int_none : isiD "int" PyData.none = false := by
  show (decide ("NoneType" = "int") || (decide ("int" = "int") && decide ("NoneType" = "bool"))) = false
  decide
theorem isi_int_bool (b : Bool) : isiD "int" (PyData.bool b) = true := by
  show (decide ("bool" = "int") || (decide ("int" = "int") && decide ("bool" = "bool"))) = true
  decide
theorem isi_int_int (i : Int) : isiD "int" (PyData.int i) = true := by
  show (decide ("int" = "int") || (decide ("int" = "int") && decide ("int" = "bool"))) = true
  decide
theorem isi_int_str (x : Str) : isiD "int" (PyData.str x) = false := by
  show (decide ("str" = "int") || (decide ("int" = "int") && decide ("str" = "bool"))) = false
  decide
theorem isi_int_list (xs : List PyData) : isiD "int" (PyData.list xs) = false := by
  show (decide ("list" = "int") || (decide ("int" = "int") && decide ("list" = "bool"))) = false
  decide
theorem isi_int_tuple (xs : List PyData) : isiD "int" (PyData.tuple xs) = false := by
  show (decide ("tuple" = "int") || (decide ("int" = "int") && decide ("tuple" = "bool"))) = false
  decide
theorem isi_int_dict (kvs : List (PyData × PyData)) : isiD "int" (PyData.dict kvs) = false := by
  show (decide ("dict" = "int") || (decide ("int" = "int") && decide ("dict" = "bool"))) = false
  decide
theorem isi_str_none : isiD "str" PyData.none = false := by
  show (decide ("NoneType" = "str") || (decide ("str" = "int") && decide ("NoneType" = "bool"))) = false
  decide
theorem isi_str_bool (b : Bool) : isiD "str" (PyData.bool b) = false := by
  show (decide ("bool" = "str") || (decide ("str" = "int") && decide ("bool" = "bool"))) = false
  decide
theorem isi_str_int (i : Int) : isiD "str" (PyData.int i) = false := by
  show (decide ("int" = "str") || (decide ("str" = "int") && decide ("int" = "bool"))) = false
  decide
theorem isi_str_str (x : Str) : isiD "str" (PyData.str x) = true := by
  show (decide ("str" = "str") || (decide ("str" = "int") && decide ("str" = "bool"))) = true
  decide
theorem isi_str_list (xs : List PyData) : isiD "str" (PyData.list xs) = false := by
  show (decide ("list" = "str") || (decide ("str" = "int") && decide ("list" = "bool"))) = false
  decide
theorem isi_str_tuple (xs : List PyData) : isiD "str" (PyData.tuple xs) = false := by
  show (decide ("tuple" = "str") || (decide ("str" = "int") && decide ("tuple" = "bool"))) = false
  decide
theorem isi_str_dict (kvs : List (PyData × PyData)) : isiD "str" (PyData.dict kvs) = false := by
  show (decide ("dict" = "str") || (decide ("str" = "int") && decide ("dict" = "bool"))) = false
  decide
theorem isi_bool_none : isiD "bool" PyData.none = false := by
  show (decide ("NoneType" = "bool") || (decide ("bool" = "int") && decide ("NoneType" = "bool"))) = false
  decide
theorem isi_bool_bool (b : Bool) : isiD "bool" (PyData.bool b) = true := by
  show (decide ("bool" = "bool") || (decide ("bool" = "int") && decide ("bool" = "bool"))) = true
  decide
theorem isi_bool_int (i : Int) : isiD "bool" (PyData.int i) = false := by
  show (decide ("int" = "bool") || (decide ("bool" = "int") && decide ("int" = "bool"))) = false
  decide
theorem isi_bool_str (x : Str) : isiD "bool" (PyData.str x) = false := by
  show (decide ("str" = "bool") || (decide ("bool" = "int") && decide ("str" = "bool"))) = false
  decide
theorem isi_bool_list (xs : List PyData) : isiD "bool" (PyData.list xs) = false := by
  show (decide ("list" = "bool") || (decide ("bool" = "int") && decide ("list" = "bool"))) = false
  decide
theorem isi_bool_tuple (xs : List PyData) : isiD "bool" (PyData.tuple xs) = false := by
  show (decide ("tuple" = "bool") || (decide ("bool" = "int") && decide ("tuple" = "bool"))) = false
  decide
theorem isi_bool_dict (kvs : List (PyData × PyData)) : isiD "bool" (PyData.dict kvs) = false := by
  show (decide ("dict" = "bool") || (decide ("bool" = "int") && decide ("dict" = "bool"))) = false
  decide
theorem isi_tuple_none : isiD "tuple" PyData.none = false := by
  show (decide ("NoneType" = "tuple") || (decide ("tuple" = "int") && decide ("NoneType" = "bool"))) = false
  decide
theorem isi_tuple_bool (b : Bool) : isiD "tuple" (PyData.bool b) = false := by
  show (decide ("bool" = "tuple") || (decide ("tuple" = "int") && decide ("bool" = "bool"))) = false
  decide
theorem isi_tuple_int (i : Int) : isiD "tuple" (PyData.int i) = false := by
  show (decide ("int" = "tuple") || (decide ("tuple" = "int") && decide ("int" = "bool"))) = false
  decide
theorem isi_tuple_str (x : Str) : isiD "tuple" (PyData.str x) = false := by
  show (decide ("str" = "tuple") || (decide ("tuple" = "int") && decide ("str" = "bool"))) = false
  decide
theorem isi_tuple_list (xs : List PyData) : isiD "tuple" (PyData.list xs) = false := by
  show (decide ("list" = "tuple") || (decide ("tuple" = "int") && decide ("list" = "bool"))) = false
  decide
theorem isi_tuple_tuple (xs : List PyData) : isiD "tuple" (PyData.tuple xs) = true := by
  show (decide ("tuple" = "tuple") || (decide ("tuple" = "int") && decide ("tuple" = "bool"))) = true
  decide
theorem isi_tuple_dict (kvs : List (PyData × PyData)) : isiD "tuple" (PyData.dict kvs) = false := by
  show (decide ("dict" = "tuple") || (decide ("tuple" = "int") && decide ("dict" = "bool"))) = false
  decide
theorem isi_list_none : isiD "list" PyData.none = false := by
  show (decide ("NoneType" = "list") || (decide ("list" = "int") && decide ("NoneType" = "bool"))) = false
  decide
theorem isi_list_bool (b : Bool) : isiD "list" (PyData.bool b) = false := by
  show (decide ("bool" = "list") || (decide ("list" = "int") && decide ("bool" = "bool"))) = false
  decide
theorem isi_list_int (i : Int) : isiD "list" (PyData.int i) = false := by
  show (decide ("int" = "list") || (decide ("list" = "int") && decide ("int" = "bool"))) = false
  decide
theorem isi_list_str (x : Str) : isiD "list" (PyData.str x) = false := by
  show (decide ("str" = "list") || (decide ("list" = "int") && decide ("str" = "bool"))) = false
  decide
theorem isi_list_list (xs : List PyData) : isiD "list" (PyData.list xs) = true := by
  show (decide ("list" = "list") || (decide ("list" = "int") && decide ("list" = "bool"))) = true
  decide
theorem isi_list_tuple (xs : List PyData) : isiD "list" (PyData.tuple xs) = false := by
  show (decide ("tuple" = "list") || (decide ("list" = "int") && decide ("tuple" = "bool"))) = false
  decide
theorem isi_list_dict (kvs : List (PyData × PyData)) : isiD "list" (PyData.dict kvs) = false := by
  show (decide ("dict" = "list") || (decide ("list" = "int") && decide ("dict" = "bool"))) = false
  decide
theorem isi_dict_none : isiD "dict" PyData.none = false := by
  show (decide ("NoneType" = "dict") || (decide ("dict" = "int") && decide ("NoneType" = "bool"))) = false
  decide
theorem isi_dict_bool (b : Bool) : isiD "dict" (PyData.bool b) = false := by
  show (decide ("bool" = "dict") || (decide ("dict" = "int") && decide ("bool" = "bool"))) = false
  decide
theorem isi_dict_int (i : Int) : isiD "dict" (PyData.int i) = false := by
  show (decide ("int" = "dict") || (decide ("dict" = "int") && decide ("int" = "bool"))) = false
  decide
theorem isi_dict_str (x : Str) : isiD "dict" (PyData.str x) = false := by
  show (decide ("str" = "dict") || (decide ("dict" = "int") && decide ("str" = "bool"))) = false
  decide
theorem isi_dict_list (xs : List PyData) : isiD "dict" (PyData.list xs) = false := by
  show (decide ("list" = "dict") || (decide ("dict" = "int") && decide ("list" = "bool"))) = false
  decide
theorem isi_dict_tuple (xs : List PyData) : isiD "dict" (PyData.tuple xs) = false := by
  show (decide ("tuple" = "dict") || (decide ("dict" = "int") && decide ("tuple" = "bool"))) = false
  decide
theorem isi_dict_dict (kvs : List (PyData × PyData)) : isiD "dict" (PyData.dict kvs) = true := by
  show (decide ("dict" = "dict") || (decide ("dict" = "int") && decide ("dict" = "bool"))) = true
  decide
end DL

/-! DL: the program's worths and kinds, plainly. -/
namespace DL
open PySem PySem.Spec L2

/-- texts that are not too long -/
def Tsm : PyData → Prop
  | .str x => x.length ≤ 10000 ∧ cpsOk x = true
  | _ => True
def isWh : PyData → Bool
  | .int _ => true
  | _ => false
def isTx (lo hi : Int) : PyData → Bool
  | .str x => decide (lo ≤ (x.length : Int)) && decide ((x.length : Int) ≤ hi) && x.cps.toList.all low
  | _ => false
def isNum (far : Int) : PyData → Bool
  | .int i => decide (0 - far ≤ i) && decide (i ≤ far)
  | _ => false
def fitsK (k : Str) (d : PyData) : Bool :=
  isNn d || (if k = "small" then isNum 99 d else if k = "whole" then isNum 1000000000000 d else if k = "sign" then isTx 1 1 d else isTx 0 8 d)
def isKd (k : Str) : Bool := decide (k = "small") || decide (k = "whole") || decide (k = "sign") || decide (k = "word")
def kindS (k : Str) : Prop := k = "small" ∨ k = "whole" ∨ k = "sign" ∨ k = "word"
def isWider (a b : Str) : Bool := (decide (a = "whole") && decide (b = "small")) || (decide (a = "word") && decide (b = "sign"))
theorem fitsK_small (d : PyData) : fitsK "small" d = (isNn d || isNum 99 d) := rfl
theorem fitsK_whole (d : PyData) : fitsK "whole" d = (isNn d || isNum 1000000000000 d) := rfl
theorem fitsK_sign (d : PyData) : fitsK "sign" d = (isNn d || isTx 1 1 d) := rfl
theorem fitsK_word (d : PyData) : fitsK "word" d = (isNn d || isTx 0 8 d) := rfl
theorem isTx_str (lo hi : Int) (x : Str) : isTx lo hi (.str x) = (decide (lo ≤ (x.length : Int)) && decide ((x.length : Int) ≤ hi) && x.cps.toList.all low) := rfl
theorem isNum_int (far i : Int) : isNum far (.int i) = (decide (0 - far ≤ i) && decide (i ≤ far)) := rfl
theorem Tsm_str (x : Str) : Tsm (.str x) = (x.length ≤ 10000 ∧ cpsOk x = true) := rfl
theorem one_inj (c c' : Nat) : ((⟨#[c]⟩ : Str) = ⟨#[c']⟩) = (c = c') := by
  simp [Str.mk.injEq]
theorem isWh_int (i : Int) : isWh (.int i) = true := rfl
theorem isTx_none (lo hi : Int) : isTx lo hi PyData.none = false := rfl
theorem Tsm_none : Tsm PyData.none = True := rfl
theorem isWh_none : isWh PyData.none = false := rfl
theorem isNum_none (far : Int) : isNum far PyData.none = false := rfl
theorem isTx_bool (lo hi : Int) (b : Bool) : isTx lo hi (PyData.bool b) = false := rfl
theorem Tsm_bool (b : Bool) : Tsm (PyData.bool b) = True := rfl
theorem isWh_bool (b : Bool) : isWh (PyData.bool b) = false := rfl
theorem isNum_bool (far : Int) (b : Bool) : isNum far (PyData.bool b) = false := rfl
theorem isTx_int (lo hi : Int) (i : Int) : isTx lo hi (PyData.int i) = false := rfl
theorem Tsm_int (i : Int) : Tsm (PyData.int i) = True := rfl
theorem isWh_str (x : Str) : isWh (PyData.str x) = false := rfl
theorem isNum_str (far : Int) (x : Str) : isNum far (PyData.str x) = false := rfl
theorem isTx_list (lo hi : Int) (xs : List PyData) : isTx lo hi (PyData.list xs) = false := rfl
theorem Tsm_list (xs : List PyData) : Tsm (PyData.list xs) = True := rfl
theorem isWh_list (xs : List PyData) : isWh (PyData.list xs) = false := rfl
theorem isNum_list (far : Int) (xs : List PyData) : isNum far (PyData.list xs) = false := rfl
theorem isTx_tuple (lo hi : Int) (xs : List PyData) : isTx lo hi (PyData.tuple xs) = false := rfl
theorem Tsm_tuple (xs : List PyData) : Tsm (PyData.tuple xs) = True := rfl
theorem isWh_tuple (xs : List PyData) : isWh (PyData.tuple xs) = false := rfl
theorem isNum_tuple (far : Int) (xs : List PyData) : isNum far (PyData.tuple xs) = false := rfl
theorem isTx_dict (lo hi : Int) (kvs : List (PyData × PyData)) : isTx lo hi (PyData.dict kvs) = false := rfl
theorem Tsm_dict (kvs : List (PyData × PyData)) : Tsm (PyData.dict kvs) = True := rfl
theorem isWh_dict (kvs : List (PyData × PyData)) : isWh (PyData.dict kvs) = false := rfl
theorem isNum_dict (far : Int) (kvs : List (PyData × PyData)) : isNum far (PyData.dict kvs) = false := rfl
theorem letters_ok1 : ((Str.ofString "abcdefghijklmnopqrstuvwxyz").length ≤ 16777216) = True := by apply eq_true; decide
theorem letters_ok2 : (signsD (Str.ofString "abcdefghijklmnopqrstuvwxyz") = []) = False := by apply eq_false; decide
theorem letters_ok3 : ((signsD (Str.ofString "abcdefghijklmnopqrstuvwxyz")).length ≤ 16777216) = True := by apply eq_true; decide
theorem eqv_str (x y : Str) : PyData.eqv (.str x) (.str y) = decide (x = y) := by
  rw [Bool.eq_iff_iff, decide_eq_true_eq]
  show (x == y) = true ↔ x = y
  exact beq_iff_eq
theorem eqv_int (x y : Int) : PyData.eqv (.int x) (.int y) = decide (x = y) := by
  rw [Bool.eq_iff_iff, decide_eq_true_eq]
  show (x == y) = true ↔ x = y
  exact beq_iff_eq
theorem flatD_str (x : Str) : flatD (.str x) = true := rfl
theorem flatD_int (x : Int) : flatD (.int x) = true := rfl
theorem flatD_none : flatD .none = true := rfl
theorem flatD_bool (x : Bool) : flatD (.bool x) = true := rfl
theorem leS_a (c : Nat) : (!decide ((⟨#[c]⟩ : Str).cps.toList < (Str.ofString "a").cps.toList)) = decide (97 ≤ c) := by
  have e : (Str.ofString "a").cps.toList = [97] := by decide +kernel
  rw [e]
  show (!decide ([c] < [97])) = decide (97 ≤ c)
  rw [Bool.eq_iff_iff]
  simp [List.cons_lt_cons_iff]
theorem leS_z (c : Nat) : (!decide ((Str.ofString "z").cps.toList < (⟨#[c]⟩ : Str).cps.toList)) = decide (c ≤ 122) := by
  have e : (Str.ofString "z").cps.toList = [122] := by decide +kernel
  rw [e]
  show (!decide ([122] < [c])) = decide (c ≤ 122)
  rw [Bool.eq_iff_iff]
  simp [List.cons_lt_cons_iff]
theorem ltS_a (c : Nat) : decide ([c] < (Str.ofString "a").cps.toList) = !decide (97 ≤ c) := by
  rw [← leS_a, Bool.not_not]
theorem ltS_z (c : Nat) : decide ((Str.ofString "z").cps.toList < [c]) = !decide (c ≤ 122) := by
  rw [← leS_z, Bool.not_not]
theorem strs_of {P : Str → Prop} : ∀ {es : List PyData}, (∀ e ∈ es, ∃ y, e = .str y ∧ P y) → ∃ ys : List Str, es = ys.map .str ∧ ys.length = es.length ∧ ∀ y ∈ ys, P y
  | [], _ => ⟨[], rfl, rfl, fun y hy => nomatch hy⟩
  | e :: es, h => by
    obtain ⟨y, rfl, hy⟩ := h e List.mem_cons_self
    obtain ⟨ys, rfl, hl, hys⟩ := strs_of (es := es) fun e he => h e (List.mem_cons_of_mem _ he)
    refine ⟨y :: ys, rfl, by rw [List.length_cons, hl]; rfl, fun z hz => ?_⟩
    rcases List.mem_cons.mp hz with rfl | hz
    · exact hy
    · exact hys z hz
theorem ixN_ok {n : Nat} {i : Int} (h0 : 0 ≤ i) (h1 : i < n) : ixN n i = some i.toNat := by
  unfold ixN
  rw [if_pos h0, if_pos h1]
theorem ownAt_cons0 (a : Addr) (ds : List PyData) (r : Rho) : ownAt (.own a ds :: r) 0 = True := rfl
theorem ownAt_cons (s : Slot) (r : Rho) (i : Nat) : ownAt (s :: r) (i + 1) = ownAt r i := rfl
theorem repS_len (z : Str) (n : Nat) : (repS z n).length = n * z.length := by
  rw [len_cps, len_cps]
  show ((List.replicate n z.cps.toList).flatten).toArray.toList.length = _
  simp
theorem repS_cps {z : Str} (h : cpsOk z = true) (n : Nat) : cpsOk (repS z n) = true := cps_of fun c hc => by
  have hc : c ∈ (List.replicate n z.cps.toList).flatten := by simpa [repS] using hc
  obtain ⟨l, hl, hc⟩ := List.mem_flatten.mp hc
  rw [List.eq_of_mem_replicate hl] at hc
  exact cps_mem h c hc
theorem len_bound : ∀ ys : List Str, ∃ b, ∀ y ∈ ys, y.length ≤ b
  | [] => ⟨0, fun y hy => nomatch hy⟩
  | y :: ys => by
    obtain ⟨b, h⟩ := len_bound ys
    refine ⟨b + y.length, fun z hz => ?_⟩
    rcases List.mem_cons.mp hz with rfl | hz
    · omega
    · have := h z hz
      omega
theorem cmpb_strs {ys : List Str} (h : ∀ y ∈ ys, cpsOk y = true) : Cmpb (.list (ys.map .str)) := by
  obtain ⟨b, hb⟩ := len_bound ys
  exact (Sm.list (b := b) (e := 0) fun d hd => by
    obtain ⟨y, hy, rfl⟩ := List.mem_map.mp hd
    exact Sm.str (h y hy) (hb y hy)).cmp (by decide)
theorem cps_one {c : Nat} (h : c < 0x110000) : cpsOk ⟨#[c]⟩ = true := cps_of fun x hx => by
  have : x = c := by simpa using hx
  omega
theorem forK_inv {g : DTG} {tb : DTS} {E : DEnds} {ds : List PyData} {c : Rho → Prop} {ρ1 : Rho} (I : Nat → Rho → Prop) (h0 : I 0 ρ1) (hc : ∀ i ρ2, I i ρ2 → c ρ2)
    (step : ∀ i d ρ2, ds[i]? = some d → I i ρ2 → g d ρ2 fun ρ3 => tb { E with nx := I (i + 1), ct := I (i + 1), bk := E.nx } ρ3) (fin : ∀ ρ2, I ds.length ρ2 → E.nx ρ2) : forK g tb E ds c ρ1 := ⟨I, h0, hc, step, fin⟩
theorem eqv_nil (l : List PyData) : PyData.eqv (.list l) (.list []) = l.isEmpty := by cases l <;> rfl
theorem nonlow_empty (cs : List Nat) : (cs.filterMap fun c => if low c = true then none else some (PyData.str ⟨#[c]⟩)).isEmpty = cs.all low := by
  induction cs with
  | nil => rfl
  | cons c cs ih =>
    rw [List.filterMap_cons, List.all_cons]
    cases h : low c with
    | true => simpa using ih
    | false => simp
theorem cmpb_nil : Cmpb (.list []) := ⟨rfl, by decide +kernel⟩
theorem cmpb_str {x : Str} (h : cpsOk x = true) : Cmpb (.str x) := (Sm.str (b := x.length) (e := 0) h (Nat.le_refl _)).cmp (by decide)
theorem cmpb_none : Cmpb .none := (Sm.none (b := 0) (e := 0)).cmp (by decide)
theorem cmpb_bool (b : Bool) : Cmpb (.bool b) := (Sm.bool (b := 0) (e := 0) b).cmp (by decide)
theorem kind_cps {k : Str} (h : kindS k) : cpsOk k = true := by
  rcases h with rfl | rfl | rfl | rfl <;> decide +kernel
end DL

/-! DL: how many a set comprehension holds, of numbers or texts. -/
namespace DL
open PySem PySem.Spec L2

/-! ### over the hand layer -/
def addS (S : Key → Bool) (k : Key) : Key → Bool := fun j => S j || decide (j = k)
def addN (S : Key → Bool) (n : Nat) (k : Key) : Nat := if S k = true then n else n + 1
/-- the set D behind the walk; Fin says what is asked of it -/
def tScK (P : Program) (w : World) (wi : TI) (g : TG) (tt : TT) (te : TE) (vs : List Nat) : TE := fun σ H Q => wi σ H fun J H1 => ∀ D, H1 D = none → ∃ W : Nat → Nat → Hp → Prop, (∃ m, W 0 m (upd H1 D (SetK P w D (fun _ => false) 0))) ∧ ∀ i m Hi, W i m Hi →
  (J.stop i Hi ∧ Q (.ref D) Hi) ∨ (J.go i Hi ∧ ∃ N : Hp → Prop, (∀ Hn, N Hn → ∃ m1, m1 < m ∧ W (i + 1) m1 Hn) ∧ ∀ x Hy, J.yld i Hi x Hy → g x (wipe σ vs) Hy fun σ2 H2 => wipe σ2 vs = wipe σ vs ∧ tt σ2 H2 fun b H3 =>
    if b = true then te σ2 H3 fun y H4 => ∃ (k : Key) (S : Key → Bool) (n : Nat), y = kV k ∧ H4 D = some (SetK P w D S n) ∧ n + 1 < scanBound ∧ N (upd H4 D (SetK P w D (addS S k) (addN S n k))) else N H3)
section
variable {X : Cx}
theorem addK_ok {pins : List (Addr × Obj)} {σ : L2.St} {H : Hp} {s : Shared} {E : Value → Shared → Prop} {D : Addr} {S : Key → Bool} {n : Nat} {k : Key} {u : Value} {Q : Value → Shared → Prop} (I : Inv X pins σ H s) (hD : H D = some (SetK X.prog X.w D S n)) (room : n + 1 < scanBound) (ru : RelV (kV k) u)
    (h : ∀ s', Inv X pins σ (upd H D (SetK X.prog X.w D (addS S k) (addN S n k))) s' → Q .none s') : wpAny (model X.prog X.w) X.A (call (.builtin "set.add") [.ref D, u]) Q E s := by
  refine call_set_add (kV_is ru) (key_scan ru) (setK_get I hD) room fun hp sb nw => ?_
  have ex : ∃ o, hp.get? D = some o := let ⟨o, _, _, _, ho, _⟩ := nw; ⟨o, ho⟩
  exact h _ (I.write (e := D) (t' := s.toks + 1) (by rw [hD]; exact True.intro) (.inl rfl) (fun c o hc ho => (sb.2 c hc).trans ho) ex (setK_new nw))
theorem pe_scK {elt tg iter : Expr} {ifs : List Expr} {scope : Scope} {own : List (PySem.Str × Nat)} {pos : Pos} {wi : TI} {g : TG} {tt : TT} {te : TE} (hc : X.calm = true) (hN : X.N.Nodup) (hi : PI X tg iter wi) (ok : BlkOk X.N X.env.scope scope own)
    (hg : ∀ (s : Shared) (H : Hp) (C : Addr) (cl : List (PySem.Str × Addr)) (fp : List Addr), PG (X.blk s H scope (compEnvC scope cl C X.env) fp) tg g) (ht : ∀ (s : Shared) (H : Hp) (C : Addr) (cl : List (PySem.Str × Addr)) (fp : List Addr), PTs (X.blk s H scope (compEnvC scope cl C X.env) fp) ifs tt)
    (he : ∀ (s : Shared) (H : Hp) (C : Addr) (cl : List (PySem.Str × Addr)) (fp : List Addr), PE (X.blk s H scope (compEnvC scope cl C X.env) fp) elt te) (hs : ∀ x, foldedSetIterable iter X.env x = pure x := by intro _; rfl) :
    PE X (.SetComp elt [⟨tg, iter, ifs, 0⟩] scope pos) (tScK X.prog X.w wi g tt te (own.map (·.2))) := by
  refine ⟨fun pins s σ H Q I h => ?_⟩
  rw [PpSet.eval_SetComp]
  have cellsOk : ∀ y ∈ scope.names, y.2 = .free → ∃ c, X.env.cells.lookup y.1 = some c := fun y hy e => (ok.free y hy e).elim (fun z => I.ok.has _ (.inl z)) fun z => I.ok.has _ (.inr z)
  refine wpAny_comprehension_free rfl hs (closure_ok cellsOk) ok.kind (fun y hy e => by rw [ok.uniq y hy, e]) (thn (hi.run pins s σ H _ I h) fun xv s1 hx => thn hx fun itv s2 h2 => ?_)
  obtain ⟨it, fp, tn, J, Ha, e, Ia, T, sta, fa, q⟩ := h2
  subst e
  refine PpSet.newSet_ok (newEnv_comp ?_)
  generalize eD : s2.heap.objs.size = D
  have noD : Ha D = none := Ia.hok.fresh (Nat.le_of_eq eD)
  obtain ⟨W, ⟨m0, w0⟩, turn⟩ := q D noD
  generalize eb : ({ s2 with heap := s2.heap.push { cls := .type "set", dict := none, data := .set #[] 0 (.fresh 0 0 (!X.w.params.followText "set-order")) } } : Shared) = sb
  have hb : sb.heap = s2.heap.push { cls := .type "set", dict := none, data := .set #[] 0 (.fresh 0 0 (!X.w.params.followText "set-order")) } := by rw [← eb]
  have fresh : sb.heap.SetOf (mixKind X.prog X.w) D (fun _ => false) 0 := by
    rw [hb, ← eD]
    exact ⟨_, #[], 0, _, Heap.get?_push_size _ rfl, ⟨rfl, rfl, rfl⟩, rfl, (fun e z => by simp at z), (fun k => by simp), (by decide), (by rfl), rfl⟩
  have Ib : Inv X pins σ (upd Ha D (SetK X.prog X.w D (fun _ => false) 0)) sb := by
    have z := setK_new (H := upd Ha D (SetK X.prog X.w D (fun _ => false) 0)) fresh
    subst eb
    exact Ia.laid (t' := s2.toks) (fun c o ho => Heap.get?_push_of_some _ ho) (Nat.le_of_eq eD) z
  have inHeap : ∀ c ∈ fp, c < s2.heap.objs.size := fun c hc => let ⟨o, ho, _⟩ := T.obj _ _ sta c hc; Heap.lt_size ho
  have fb : ∀ c ∈ fp, FpOk X pins (upd Ha D (SetK X.prog X.w D (fun _ => false) 0)) c ∧ c < sb.heap.objs.size := fun c hc => by
    have lt := inHeap c hc
    have ne : c ≠ D := by rw [← eD]; exact Nat.ne_of_lt lt
    exact ⟨⟨by rw [upd_ne ne]; exact (fa c hc).1, (fa c hc).2⟩, by rw [hb, Heap.size_push]; exact Nat.lt_succ_of_lt lt⟩
  have stb : tn 0 sb.heap := T.keep _ _ _ sta fun c _ o ho => by rw [hb]; exact Heap.get?_push_of_some _ ho
  have Ic := block_start Ib ok hN fb
  have rg := hg sb (upd Ha D (SetK X.prog X.w D (fun _ => false) 0)) sb.heap.objs.size (cellsFrom (sb.heap.objs.size + 1) scope.names (cloFrom X.env.cells scope.names [])) fp
  have rt := ht sb (upd Ha D (SetK X.prog X.w D (fun _ => false) 0)) sb.heap.objs.size (cellsFrom (sb.heap.objs.size + 1) scope.names (cloFrom X.env.cells scope.names [])) fp
  have re := he sb (upd Ha D (SetK X.prog X.w D (fun _ => false) 0)) sb.heap.objs.size (cellsFrom (sb.heap.objs.size + 1) scope.names (cloFrom X.env.cells scope.names [])) fp
  have fpNo : ∀ c ∈ fp, (upd Ha D (SetK X.prog X.w D (fun _ => false) 0)) c = none := fun c hc => (fb c hc).1.1
  show codeAny _ _ (.compStart (.SetComp elt [⟨tg, iter, ifs, 0⟩] scope pos) 0 (.ref it) (.ref D) (compEnvC scope (cellsFrom (sb.heap.objs.size + 1) scope.names (cloFrom X.env.cells scope.names [])) sb.heap.objs.size X.env)) _ { sb with heap := pushCells (sb.heap.push { cls := .type "dict", data := .dict #[] }) scope.names }
  generalize ee : compEnvC scope (cellsFrom (sb.heap.objs.size + 1) scope.names (cloFrom X.env.cells scope.names [])) sb.heap.objs.size X.env = ev at Ic rg rt re ⊢
  have evL : ev.locals = sb.heap.objs.size := by rw [← ee]; rfl
  generalize eH : upd Ha D (SetK X.prog X.w D (fun _ => false) 0) = Hb at Ib Ic rg rt re w0 fpNo fb
  generalize es4 : ({ sb with heap := pushCells (sb.heap.push { cls := .type "dict", data := .dict #[] }) scope.names } : Shared) = sc at Ic ⊢
  have stc : tn 0 sc.heap := T.keep _ _ _ stb fun c _ o ho => by rw [← es4]; exact pushCells_keeps _ _ _ _ (Heap.get?_push_of_some _ ho)
  have still : ∀ {σ' : L2.St} {H' : Hp} {s' : Shared}, Inv (X.blk sb Hb scope ev fp) [] σ' H' s' → (∀ c ∈ fp, H' c = none) → ∀ c ∈ fp, FpOk (X.blk sb Hb scope ev fp) [] H' c := fun {σ' H' s'} I' no c hc =>
    ⟨no c hc, (I'.ok.exf c hc).1, I'.ok.exfs c hc, .inl hc, fun x y e => (I'.ok.exf c hc).2 x y e, fun p hp => absurd (show p ∈ ([] : List (Addr × Obj)) ++ [] from hp) (by simp)⟩
  suffices loop : codeAny (model X.prog X.w) X.A (.compLoop (.SetComp elt [⟨tg, iter, ifs, 0⟩] scope pos) 0 (.ref it) (.ref D) ev) (compPost (model X.prog X.w) X.A X.xe none (EP X pins σ Q) (.ref D) sb.heap.objs.size) sc from PpSet.codeAny_compStart_set loop (T.self X.A 0 _ _ _ stc loop)
  refine PpSet.compLoopS_any (fun m s' => ∃ i Hi, Inv (X.blk sb Hb scope ev fp) [] (wipe σ (own.map (·.2))) Hi s' ∧ tn i s'.heap ∧ (∀ c ∈ fp, Hi c = none) ∧ W i m Hi) ?_ m0 ⟨0, Hb, Ic, stc, fpNo, w0⟩
  rintro m sd ⟨i, Hd, Id, std, nod, wd⟩
  rcases turn i m Hd wd with ⟨stop, qq⟩ | ⟨go, N, hN', step⟩
  · refine thnF (T.done (X.blk sb Hb scope ev fp) rfl rfl rfl hc i [] sd _ Hd (fun _ _ => False) Id (still Id nod) std stop) fun r se ⟨hr, Ie⟩ => ?_
    subst hr
    have If : Inv X pins σ Hd se := Ib.call' (ch := fp) Ie.os Ie.base Ie.hok Ie.bare fun c hc => ⟨(fb c hc).1.2.2.2.1, (fb c hc).1.2.1, (fb c hc).1.2.2.2.2.1, (fb c hc).1.2.2.2.2.2⟩
    have noC : Hd sb.heap.objs.size = none := by
      rw [← evL]
      exact Ie.free
    obtain ⟨mp, ns, _⟩ := Ie.loc
    have ns : se.heap.Ns ev.locals mp := ns
    rw [evL] at ns
    obtain ⟨f0, f1, f2, f3, f4, f5⟩ := Ib.fpOk (Nat.le_refl _) noC
    exact ⟨mp, ns, fun hf sbf => ⟨.ref D, Hd, If.turned (t' := se.toks) (fun c o hc ho => (sbf.2 c hc).trans ho) f0 f1 f3 f4 f5, rfl, qq⟩⟩
  · refine thnF (T.item (X.blk sb Hb scope ev fp) rfl rfl rfl hc i [] sd _ Hd (fun _ _ => False) Id (still Id nod) std go) fun r se ⟨u, hr, he6⟩ => ?_
    subst hr
    refine thnF he6 fun _ sf ⟨x, Hf, If, rf, yf, stf, nof⟩ => ?_
    refine thnF (rg.run _ sf _ Hf x u _ (If.pinned (still If nof) (T.obj _ _ stf)) rf (step x Hf yf)) fun _ sg ⟨σg, Hg, Ig, wg, qg⟩ => ?_
    refine thnF (rt.run _ sg σg Hg _ Ig qg) fun b sh ⟨Hh, Ih, qh⟩ => ?_
    have close : ∀ {s' : Shared} {H' : Hp}, Inv (X.blk sb Hb scope ev fp) ([] ++ pinsAt fp sf.heap) σg H' s' → N H' → ∃ m1, m1 < m ∧ ∃ i Hi, Inv (X.blk sb Hb scope ev fp) [] (wipe σ (own.map (·.2))) Hi s' ∧ tn i s'.heap ∧ (∀ c ∈ fp, Hi c = none) ∧ W i m1 Hi := fun {s' H'} I' nx => by
      obtain ⟨m1, lt, w1⟩ := hN' H' nx
      have held : ∀ c ∈ fp, ∀ o, sf.heap.get? c = some o → s'.heap.get? c = some o ∧ H' c = none := fun c hc o ho => let z := I'.pin (c, o) (List.mem_append_right _ (List.mem_append_right _ (mem_pinsAt hc ho))); ⟨z.1, z.2.1⟩
      refine ⟨m1, lt, i + 1, H', (I'.unpinned (pins := [])).weak (by rw [← wg, wipe_length]) (fun j v ej => ?_), T.keep _ _ _ stf fun c hc o ho => (held c hc o ho).1, fun c hc => let ⟨o, ho, _⟩ := T.obj _ _ stf c hc; (held c hc o ho).2, w1⟩
      rw [← wg] at ej
      exact (wipe_some ej).1
    cases b with
    | false =>
      rw [if_neg Bool.false_ne_true] at qh
      rw [if_neg Bool.false_ne_true]
      exact close Ih qh
    | true =>
      rw [if_pos rfl] at qh
      rw [if_pos rfl]
      refine thnF (re.run _ sh σg Hh _ Ih qh) fun z si ⟨yv, Hi', Ii, ri, kk, S0, n0, ey, hDi, hzi, nx⟩ => ?_
      subst ey
      exact addK_ok (X := X.blk sb Hb scope ev fp) Ii hDi hzi ri fun sj Ij => close Ij nx
/-- len of such a set -/
def rLenK (P : Program) (w : World) : List V → Hp → VK → Prop := fun xs H Q => ∃ p S n, xs = [.ref p] ∧ H p = some (SetK P w p S n) ∧ Q (.int (n : Nat)) H
theorem cr_lenK : CallR X (.builtin "len") (rLenK X.prog X.w) := by
  intro pins s σ H xs us Q I r h
  obtain ⟨p, S, n, rfl, hp, q⟩ := h
  obtain ⟨u, rfl, ru⟩ := vals1 r
  cases ru
  obtain ⟨o, es, ep, t, ho, hex, hd, _, _, hsz, hf, hn⟩ := setK_get I hp
  have hb : (es.size : Int) < 2 ^ 63 := Int.lt_trans (Int.ofNat_lt.mpr hsz) (by decide)
  refine call_len_set ho hex hd hf hb ⟨.int (n : Nat), H, I.tok _, ⟨_, by rw [hn]⟩, q⟩
end

/-! ### by trees -/
def hasK (acc : List Key) (k : Key) : Bool := acc.any fun j => decide (j = k)
def insK (k : Key) (acc : List Key) : List Key := if hasK acc k = true then acc else acc ++ [k]
def setOfK (acc : List Key) : Key → Bool := hasK acc
theorem addS_of (acc : List Key) (k : Key) : addS (setOfK acc) k = setOfK (insK k acc) := by
  funext j
  unfold addS setOfK insK
  cases h : hasK acc k with
  | true =>
    rw [if_pos rfl]
    by_cases e : j = k
    · subst e
      rw [h]; rfl
    · rw [decide_eq_false e, Bool.or_false]
  | false =>
    rw [if_neg Bool.false_ne_true]
    unfold hasK
    rw [List.any_append]
    simp only [List.any_cons, List.any_nil, Bool.or_false]
    congr 1
    rw [Bool.eq_iff_iff]
    simp only [decide_eq_true_eq]
    exact ⟨fun z => z.symm, fun z => z.symm⟩
theorem addN_of (acc : List Key) (k : Key) : addN (setOfK acc) acc.length k = (insK k acc).length := by
  unfold addN setOfK insK
  cases h : hasK acc k with
  | true => rw [if_pos rfl, if_pos rfl]
  | false => rw [if_neg Bool.false_ne_true, if_neg Bool.false_ne_true, List.length_append]; rfl
def dLenSc (ti : DTI) (g : DTG) (tt : DTT) (te : DTE) (vs : List Nat) : DTE := fun ρ Q => ti ρ fun ds c ρ1 => DL.plain ρ1 vs ∧ ∃ I : Nat → List Key → Rho → Prop, I 0 [] (wipeR ρ1 vs) ∧ (∀ i acc ρ2, I i acc ρ2 → c ρ2) ∧
  (∀ i d acc ρ2, ds[i]? = some d → I i acc ρ2 → g d ρ2 fun ρ3 => tt ρ3 fun b ρ4 =>
    (b = true → te ρ4 fun r ρ5 => ∃ k, r = .dat (kD k) ∧ acc.length + 1 < scanBound ∧ I (i + 1) (insK k acc) (wipeR ρ5 vs)) ∧ (b = false → I (i + 1) acc (wipeR ρ4 vs))) ∧
  ∀ acc ρ2, I ds.length acc ρ2 → Q (.dat (.int (acc.length : Nat))) (restore ρ1 vs ρ2)
def ScI (P : Program) (w : World) (K : PySem.W.Frag) (B : Bs) (σ : L2.St) (vs : List Nat) (ρ1 : Rho) (H1 : Hp) (D : Addr) (I : Nat → List Key → Rho → Prop) (i : Nat) (H : Hp) : Prop :=
  ∃ acc ρ2, Rel K B ρ2 (wipe σ vs) H ∧ Stp ρ1 H1 ρ2 H ∧ H D = some (SetK P w D (setOfK acc) acc.length) ∧ ¬ InFp ρ2 D ∧ I i acc ρ2
theorem kp_ext {H : Hp} {p : Addr} {f : Heap → Prop} {o : HO} (h : H p = some (.ext f)) : Kp H (upd H p o) := by
  refine ⟨fun b ys e => ?_, fun b u w e => ?_⟩
  · rw [upd_ne (ne_of e h (by intro z; cases z))]; exact e
  · rw [upd_ne (ne_of e h (by intro z; cases z))]; exact e
theorem rep_key {K : PySem.W.Frag} {H : Hp} {k : Key} {v : V} (h : Rep K H (kD k) v) : v = kV k := by
  cases k with
  | inl i => rw [kD, Rep] at h; exact h
  | inr x => rw [kD, Rep] at h; exact h
section
variable {X : Cx} {elt tg iter : Expr} {ifs : List Expr} {scope : Scope} {own : List (Str × Nat)} {pos cpos p : Pos} {ti : DTI} {g : DTG} {tt : DTT} {te : DTE} {ix : List Nat} {x : Str}
theorem sc_turn {ti : DTI} {g : DTG} {dt : DTT} {de : DTE} {ix vs : List Nat} {σ : L2.St} {H : Hp} {Q : VK} (hix : ∀ i, i ∈ ix → i ∈ vs)
    (h : lift X.K (dLenSc ti g dt de vs) σ H Q) : tScK X.prog X.w (liftI X.K ti) (liftG X.K ix g) (liftT X.K dt) (lift X.K de) vs σ H fun v H' => rLenK X.prog X.w [v] H' Q := by
  obtain ⟨B, ρ, Q0, R, q, k⟩ := h
  refine ⟨B, ρ, _, R, q, fun ds c ρ1 J H1 q1 R1 s1 it D nD => ?_⟩
  obtain ⟨pl, I, h0, hc, hs, hd⟩ := q1
  obtain ⟨f0, f1⟩ := R1.new nD
  have smD : Same H1 (upd H1 D (SetK X.prog X.w D (fun _ => false) 0)) := same_new nD
  have e0 : (fun _ => false : Key → Bool) = setOfK [] := by
    funext j
    rfl
  refine ⟨fun i m H2 => m = ds.length - i ∧ i ≤ ds.length ∧ ScI X.prog X.w X.K B σ vs ρ1 H1 D I i H2, ⟨ds.length, by rw [Nat.sub_zero], Nat.zero_le _, [], wipeR ρ1 vs, (R1.same smD).wipe vs, ⟨Kp.same smD, th_same smD, fun b o e n => ⟨smD b o e, fun z => n (inFp_wipe z)⟩⟩, by rw [upd_same, e0]; rfl, fun z => f1 (inFp_wipe z), h0⟩, ?_⟩
  rintro i m H2 ⟨rfl, hi, acc, ρ2, R2, s2, hD, nf, I2⟩
  have kp2 : Kp H1 H2 := s2.kp
  by_cases hlt : i < ds.length
  · obtain ⟨d, ed⟩ := getElem_lt hlt
    refine .inr ⟨it.go i ρ2 _ H2 R2 kp2 (hc i acc ρ2 I2) hlt, ScI X.prog X.w X.K B σ vs ρ1 H1 D I (i + 1), fun H' z => ⟨ds.length - (i + 1), by omega, rfl, hlt, z⟩, fun x H' y => ?_⟩
    obtain ⟨sm, rp⟩ := it.yld i ρ2 _ H2 x H' d R2 kp2 (hc i acc ρ2 I2) y ed
    refine ⟨B, ρ2, d, _, R2.same sm, rp, hs i d acc ρ2 ed I2, fun ρ3 σ3 q3 R3 o3 u3 => ⟨wipe_eq o3 hix, ?_⟩⟩
    have ew := wipe_eq o3 hix
    have s3 : Stp ρ1 H1 ρ3 H' := s2.trans ⟨Kp.same sm, th_same sm, fun b o e n => ⟨sm b o e, fun z => n (u3 b z)⟩⟩
    have nf3 : ¬ InFp ρ3 D := fun z => nf (u3 D z)
    have hD3 := sm D _ hD
    refine ⟨B, ρ3, _, R3, q3, fun b ρ4 H3 q4 R4 s4 => ?_⟩
    obtain ⟨hD4, nf4⟩ := s4.fr D _ hD3 nf3
    have s14 := s3.trans s4
    cases b with
    | false =>
      refine iteF ⟨acc, wipeR ρ4 vs, by rw [← ew]; exact R4.wipe vs, s14.trans ⟨Kp.refl _, fun _ z => z, fun b o e n => ⟨e, fun z => n (inFp_wipe z)⟩⟩, hD4, fun z => nf4 (inFp_wipe z), q4.2 rfl⟩
    | true =>
      refine iteT ⟨B, ρ4, _, R4, q4.1 rfl, fun r ρ5 v H4 q5 R5 k5 s5 => ?_⟩
      obtain ⟨kk, rfl, hz, q5⟩ := q5
      obtain ⟨hD5, nf5⟩ := s5.fr D _ hD4 nf4
      have kpu : Kp H4 (upd H4 D (SetK X.prog X.w D (addS (setOfK acc) kk) (addN (setOfK acc) acc.length kk))) := kp_ext hD5
      refine ⟨kk, setOfK acc, acc.length, rep_key k5, hD5, hz, insK kk acc, wipeR ρ5 vs, by rw [← ew]; exact (R5.aside kpu f0 nf5).wipe vs, ?_, by rw [upd_same, addS_of, addN_of], fun z => nf5 (inFp_wipe z), q5⟩
      have s15 := s14.trans s5
      refine ⟨s15.kp.trans kpu, fun b n => th_upd b (s15.th b n), fun b o e n => ?_⟩
      obtain ⟨e1, n1⟩ := s15.fr b o e n
      exact ⟨by rw [upd_ne (ne_of_none e nD)]; exact e1, fun z => n1 (inFp_wipe z)⟩
  · have ei : i = ds.length := by omega
    subst ei
    refine .inl ⟨it.stop _ ρ2 _ H2 R2 kp2 (hc _ acc ρ2 I2) (Nat.le_refl _), ?_⟩
    have s12 := s1.trans s2
    refine ⟨D, _, _, rfl, hD, k _ _ _ H2 (hd acc ρ2 I2) (R1.restore kp2 pl R2) (qint _ _ _ _) ?_⟩
    exact ⟨s12.kp, s12.th, fun b o e n => let ⟨e2, n2⟩ := s12.fr b o e n; ⟨e2, fun z => n2 (inFp_restore pl z)⟩⟩
theorem de_lenSc (hc : X.calm = true) (hN : X.N.Nodup) (hi : DI X tg iter ti) (ok : BlkOk X.N X.env.scope scope own)
    (hg : ∀ (s : Shared) (H : Hp) (C : Addr) (cl : List (Str × Addr)) (fp : List Addr), DG (X.blk s H scope (compEnvC scope cl C X.env) fp) ix tg g) (ht : ∀ (s : Shared) (H : Hp) (C : Addr) (cl : List (Str × Addr)) (fp : List Addr), DTs (X.blk s H scope (compEnvC scope cl C X.env) fp) ifs tt)
    (he : ∀ (s : Shared) (H : Hp) (C : Addr) (cl : List (Str × Addr)) (fp : List Addr), DE (X.blk s H scope (compEnvC scope cl C X.env) fp) elt te) (hgl : Gl X x) (hm : X.mg x = none) (hv : bootBuiltins x = some (.builtin "len")) (hix : ∀ i, i ∈ ix → i ∈ own.map (·.2) := by decide) (hs : ∀ x, foldedSetIterable iter X.env x = pure x := by intro _; rfl)
    (hn : x ≠ "__name__" := by decide) (hdb : (x == ("__debug__" : Str)) = false := by decide) (hst : starEach [.SetComp elt [⟨tg, iter, ifs, 0⟩] scope pos] X.env = (false, eval (.SetComp elt [⟨tg, iter, ifs, 0⟩] scope pos) X.env) :: starEach [] X.env := by rfl) (hpl : (backTo cpos (starEach [] X.env)).any (·.1) = false := by rfl) :
    DE X (.Call (.Name x p) [.SetComp elt [⟨tg, iter, ifs, 0⟩] scope pos] [] cpos) (dLenSc ti g tt te (own.map (·.2))) :=
  pe_imp (pe_callB cr_lenK hgl hm hv (pa_cons (pe_scK (g := liftG X.K ix g) (tt := liftT X.K tt) (te := lift X.K te) hc hN hi ok hg ht he hs) pa_nil hst) hn hdb hst hpl) fun σ H Q h => sc_turn hix h
end
end DL

/-! DL: list(range(..)); what sets hold; places. -/
namespace DL
open PySem PySem.Spec L2

def nLrg1 (ta : DTE) : DTN := fun ρ Q => ta ρ fun r1 ρ1 => ∃ i, r1 = .dat (.int i) ∧ RgOk 0 i ∧ Q (rgD 0 i.toNat) ρ1
def nLrg2 (ta tb : DTE) : DTN := fun ρ Q => ta ρ fun r1 ρ1 => tb ρ1 fun r2 ρ2 => ∃ i j, r1 = .dat (.int i) ∧ r2 = .dat (.int j) ∧ RgOk i j ∧ Q (rgD i (j - i).toNat) ρ2
theorem rgV_rep {K : PySem.W.Frag} {H : Hp} (i j : Int) : RepA K H (rgD i (j - i).toNat) (rgV i j) := by
  unfold rgD rgV
  have e : ∀ l : List Nat, RepA K H (l.map fun k => PyData.int (i + (k : Nat))) (l.map fun k => V.int (i + (k : Nat))) := by
    intro l
    induction l with
    | nil => exact RepA.nil
    | cons k l ih => exact RepA.cons (by rw [Rep]) ih
  exact e _
section
variable {X : Cx} {a b : Expr} {ta tb : DTE} {p p' pos pos' : Pos}
theorem dn_lrg2 (hc : X.calm = true) (hg : Gl X "list") (hm : X.mg "list" = none) (hgr : Gl X "range") (hmr : X.mg "range" = none) (ha : DE X a ta) (hb : DE X b tb)
    (na : starEach [a, b] X.env = (false, eval a X.env) :: starEach [b] X.env := by rfl) (nb : starEach [b] X.env = (false, eval b X.env) :: starEach [] X.env := by rfl) (hp : (backTo pos' (starEach [b] X.env)).any (·.1) = false := by rfl) (nr : starEach [.Call (.Name "range" p') [a, b] [] pos'] X.env = (false, eval (.Call (.Name "range" p') [a, b] [] pos') X.env) :: starEach [] X.env := by rfl) :
    DN X (.Call (.Name "list" p) [.Call (.Name "range" p') [a, b] [] pos'] [] pos) (nLrg2 ta tb) := pe_imp (pe_listRg hc hg hm (prg_2 hgr hmr ha hb na nb hp) nr) fun σ H Q ⟨B, ρ, Q0, R, q, k⟩ => by
  refine lift2 R q fun r1 r2 ρ2 x y H2 f R2 k1 k2 s2 => ?_
  obtain ⟨i, j, rfl, rfl, hr, q2⟩ := f
  refine ⟨i, j, rint k1, rint k2, hr, fun q np => ?_⟩
  have sm : Same H2 (upd H2 q (.lst (rgV i j))) := same_new np
  obtain ⟨f0, f1⟩ := R2.new np
  exact k _ ρ2 q _ _ q2 (R2.same sm) upd_same (rgV_rep i j) (s2.none np) f0 f1 (s2.trans (Stp.same sm))
theorem dn_lrg1 (hc : X.calm = true) (hg : Gl X "list") (hm : X.mg "list" = none) (hgr : Gl X "range") (hmr : X.mg "range" = none) (ha : DE X a ta)
    (na : starEach [a] X.env = (false, eval a X.env) :: starEach [] X.env := by rfl) (nr : starEach [.Call (.Name "range" p') [a] [] pos'] X.env = (false, eval (.Call (.Name "range" p') [a] [] pos') X.env) :: starEach [] X.env := by rfl) :
    DN X (.Call (.Name "list" p) [.Call (.Name "range" p') [a] [] pos'] [] pos) (nLrg1 ta) := pe_imp (pe_listRg hc hg hm (prg_1 hgr hmr ha na) nr) fun σ H Q ⟨B, ρ, Q0, R, q, k⟩ => by
  refine ⟨B, ρ, _, R, q, fun r ρ1 v H1 q1 R1 k1 s1 => ?_⟩
  obtain ⟨i, rfl, hr, q1⟩ := q1
  refine ⟨i, rint k1, hr, fun q np => ?_⟩
  have sm : Same H1 (upd H1 q (.lst (rgV 0 i))) := same_new np
  obtain ⟨f0, f1⟩ := R1.new np
  have e := rgV_rep (K := X.K) (H := upd H1 q (.lst (rgV 0 i))) 0 i
  rw [Int.sub_zero] at e
  exact k _ ρ1 q _ _ q1 (R1.same sm) upd_same e (s1.none np) f0 f1 (s1.trans (Stp.same sm))
end

/-! ### sets -/
def distK (ks : List Key) : List Key := ks.foldl (fun acc k => insK k acc) []
def scK (g : DTG) (tt : DTT) (te : DTE) (vs : List Nat) (Q : Rv → Rho → Prop) : List PyData → (Rho → Prop) → Rho → Prop := fun ds c ρ1 => DL.plain ρ1 vs ∧ ∃ I : Nat → List Key → Rho → Prop, I 0 [] (wipeR ρ1 vs) ∧ (∀ i acc ρ2, I i acc ρ2 → c ρ2) ∧
  (∀ i d acc ρ2, ds[i]? = some d → I i acc ρ2 → g d ρ2 fun ρ3 => tt ρ3 fun b ρ4 =>
    (b = true → te ρ4 fun r ρ5 => ∃ k, r = .dat (kD k) ∧ acc.length + 1 < scanBound ∧ I (i + 1) (insK k acc) (wipeR ρ5 vs)) ∧ (b = false → I (i + 1) acc (wipeR ρ4 vs))) ∧
  ∀ acc ρ2, I ds.length acc ρ2 → Q (.dat (.int (acc.length : Nat))) (restore ρ1 vs ρ2)
theorem dLenSc_eq (ti : DTI) (g : DTG) (tt : DTT) (te : DTE) (vs : List Nat) (ρ : Rho) (Q : Rv → Rho → Prop) : dLenSc ti g tt te vs ρ Q = ti ρ (scK g tt te vs Q) := rfl
theorem ins_len (k : Key) (acc : List Key) : (insK k acc).length ≤ acc.length + 1 := by
  unfold insK
  split
  · omega
  · simp
theorem dist_app (ks : List Key) (k : Key) : distK (ks ++ [k]) = insK k (distK ks) := by
  unfold distK
  rw [List.foldl_append]
  rfl
theorem dist_len : ∀ ks : List Key, (distK ks).length ≤ ks.length := by
  intro ks
  rw [← List.reverse_reverse ks]
  induction ks.reverse with
  | nil => exact Nat.le_refl _
  | cons k ks ih =>
    rw [List.reverse_cons, dist_app]
    have := ins_len k (distK ks.reverse)
    simp only [List.length_append, List.length_cons, List.length_nil]
    omega
theorem hasK_iff {acc : List Key} {k : Key} : hasK acc k = true ↔ k ∈ acc := by
  unfold hasK
  rw [List.any_eq_true]
  exact ⟨fun ⟨j, hj, e⟩ => by rw [← of_decide_eq_true e]; exact hj, fun h => ⟨k, h, decide_eq_true rfl⟩⟩
theorem dist_mem (ks : List Key) (k : Key) : k ∈ distK ks ↔ k ∈ ks := by
  have e : ∀ l : List Key, k ∈ distK l.reverse ↔ k ∈ l.reverse := by
    intro l
    induction l with
    | nil => exact Iff.rfl
    | cons j l ih =>
      rw [List.reverse_cons, dist_app]
      unfold insK
      split
      · rename_i h
        rw [ih, List.mem_append, List.mem_singleton]
        refine ⟨.inl, fun z => z.elim (fun z => z) fun z => ?_⟩
        rw [← ih, z]
        exact hasK_iff.mp h
      · rw [List.mem_append, List.mem_append, ih]
  have := e ks.reverse
  rwa [List.reverse_reverse] at this
/-- as many as there are: none twice -/
theorem dist_eq (ks : List Key) : (distK ks).length = ks.length ↔ ks.Nodup := by
  have e : ∀ l : List Key, (distK l.reverse).length = l.reverse.length ↔ l.reverse.Nodup := by
    intro l
    induction l with
    | nil => exact ⟨fun _ => List.nodup_nil, fun _ => rfl⟩
    | cons j l ih =>
      rw [List.reverse_cons, dist_app, List.length_append, List.nodup_append]
      have hl := dist_len l.reverse
      unfold insK
      cases h : hasK (distK l.reverse) j with
      | true =>
        rw [if_pos rfl]
        have hm : j ∈ l.reverse := (dist_mem _ _).mp (hasK_iff.mp h)
        constructor
        · intro z
          simp only [List.length_cons, List.length_nil] at z
          omega
        · rintro ⟨_, _, z⟩
          exact (z j hm j (List.mem_singleton.mpr rfl) rfl).elim
      | false =>
        rw [if_neg Bool.false_ne_true, List.length_append]
        have hm : j ∉ l.reverse := fun z => by
          rw [← dist_mem, ← hasK_iff] at z
          rw [z] at h
          cases h
        constructor
        · intro z
          refine ⟨ih.mp (by simpa using z), by simp, fun a ha b hb z2 => ?_⟩
          rw [List.mem_singleton.mp hb] at z2
          exact hm (z2 ▸ ha)
        · rintro ⟨z, _, _⟩
          rw [ih.mpr z]
  have := e ks.reverse
  rwa [List.reverse_reverse] at this
theorem scK_map {α : Type} {emb : α → PyData} {xs : List α} {g : DTG} {te : DTE} {vs : List Nat} {ρ1 : Rho} {c : Rho → Prop} {Q : Rv → Rho → Prop} (f : α → Key) {ds : List PyData} (hd : ds = xs.map emb) (hp : DL.plain ρ1 vs) (hc : c (wipeR ρ1 vs)) (hl : xs.length ≤ 4000)
    (step : ∀ x ∈ xs, ∀ Kt : Key → Prop, Kt (f x) → g (emb x) (wipeR ρ1 vs) fun ρ3 => te ρ3 fun r ρ5 => ∃ k, r = .dat (kD k) ∧ Kt k ∧ wipeR ρ5 vs = wipeR ρ1 vs)
    (q : Q (.dat (.int ((distK (xs.map f)).length : Nat))) ρ1) : scK g dYes te vs Q ds c ρ1 := by
  subst hd
  refine ⟨hp, fun i acc ρ => ρ = wipeR ρ1 vs ∧ acc = distK ((xs.take i).map f), ⟨rfl, rfl⟩, fun i acc ρ2 h => by rw [h.1]; exact hc, ?_, ?_⟩
  · rintro i d acc ρ2 ed ⟨rfl, rfl⟩
    rw [List.getElem?_map] at ed
    cases ex : xs[i]? with
    | none => rw [ex] at ed; cases ed
    | some x =>
      rw [ex] at ed
      cases ed
      have hi : i < xs.length := (List.getElem?_eq_some_iff.mp ex).1
      have et : xs.take (i + 1) = xs.take i ++ [x] := by rw [List.take_add_one, ex]; rfl
      have hb : (distK ((xs.take i).map f)).length + 1 < scanBound := by
        have h1 := dist_len ((xs.take i).map f)
        rw [List.length_map, List.length_take] at h1
        show _ < 4096
        omega
      have e2 : insK (f x) (distK ((xs.take i).map f)) = distK ((xs.take (i + 1)).map f) := by rw [et, List.map_append]; exact (dist_app _ _).symm
      have st := step x (List.mem_of_getElem? ex) (fun k => (distK ((xs.take i).map f)).length + 1 < scanBound ∧ insK k (distK ((xs.take i).map f)) = distK ((xs.take (i + 1)).map f)) ⟨hb, e2⟩
      have e3 : ∀ ρ3 : Rho, (dYes ρ3 fun b ρ4 => (b = true → te ρ4 fun r ρ5 => ∃ k, r = .dat (kD k) ∧ (distK ((xs.take i).map f)).length + 1 < scanBound ∧ (wipeR ρ5 vs = wipeR ρ1 vs ∧ insK k (distK ((xs.take i).map f)) = distK ((xs.take (i + 1)).map f))) ∧
          (b = false → (wipeR ρ4 vs = wipeR ρ1 vs ∧ distK ((xs.take i).map f) = distK ((xs.take (i + 1)).map f)))) =
          te ρ3 fun r ρ5 => ∃ k, r = .dat (kD k) ∧ ((distK ((xs.take i).map f)).length + 1 < scanBound ∧ insK k (distK ((xs.take i).map f)) = distK ((xs.take (i + 1)).map f)) ∧ wipeR ρ5 vs = wipeR ρ1 vs := fun ρ3 => by
        unfold dYes
        have e4 : ∀ (k : Key) (ρ5 : Rho), ((distK ((xs.take i).map f)).length + 1 < scanBound ∧ (wipeR ρ5 vs = wipeR ρ1 vs ∧ insK k (distK ((xs.take i).map f)) = distK ((xs.take (i + 1)).map f))) = (((distK ((xs.take i).map f)).length + 1 < scanBound ∧ insK k (distK ((xs.take i).map f)) = distK ((xs.take (i + 1)).map f)) ∧ wipeR ρ5 vs = wipeR ρ1 vs) := fun k ρ5 => propext ⟨fun ⟨a, b, c⟩ => ⟨⟨a, c⟩, b⟩, fun ⟨⟨a, c⟩, b⟩ => ⟨a, b, c⟩⟩
        simp only [e4]
        simp
      simp only [e3]
      exact st
  · rintro acc ρ2 ⟨rfl, rfl⟩
    rw [restore_wipe, List.length_map, List.take_length]
    exact q
theorem seqIdx_ok {n : Nat} {i : Int} (h0 : 0 ≤ i) (h1 : i < n) : seqIndex? i n = some i.toNat := (ixN_seq (ixN_ok h0 h1)).1
theorem keyOf_str (z : Str) : keyOf (.str z) = some (.inr z) := rfl
theorem keyOf_int (z : Int) : keyOf (.int z) = some (.inl z) := rfl
end DL

/-! DL: shapes, plainly. -/
namespace DL
open PySem PySem.Spec L2

/-! ### dicts from what is walked -/
theorem dget_put (kvs : List (PyData × PyData)) (q r : Key) (d : PyData) : dget (dput kvs q d) r = if q = r then some d else dget kvs r := by
  unfold dput
  by_cases h : (kvs.any fun p => isKey q p.1) = true
  · rw [if_pos h]
    by_cases e : q = r
    · subst e
      rw [if_pos rfl]
      unfold dget
      induction kvs with
      | nil => cases h
      | cons p kvs ih =>
        rw [List.map_cons, List.find?_cons]
        by_cases hp : isKey q p.1 = true
        · rw [if_pos hp]
          simp only [hp]
          rfl
        · rw [if_neg hp]
          have hp' : isKey q p.1 = false := by simpa using hp
          simp only [hp']
          rw [List.any_cons, hp', Bool.false_or] at h
          exact ih h
    · rw [if_neg e]
      unfold dget
      clear h
      induction kvs with
      | nil => rfl
      | cons p kvs ih =>
        rw [List.map_cons, List.find?_cons, List.find?_cons]
        by_cases hp : isKey q p.1 = true
        · rw [if_pos hp]
          have hn : isKey r p.1 = false := by
            obtain ⟨p1, p2⟩ := p
            cases p1 with
            | int i =>
              cases q with
              | inl j =>
                have hj : j = i := of_decide_eq_true hp
                subst hj
                cases r with
                | inl k => exact decide_eq_false fun z => e (by rw [z])
                | inr y => rfl
              | inr y => cases hp
            | str x =>
              cases q with
              | inl j => cases hp
              | inr j =>
                have hj : j = x := of_decide_eq_true hp
                subst hj
                cases r with
                | inr k => exact decide_eq_false fun z => e (by rw [z])
                | inl y => rfl
            | _ => cases hp
          simp only [hn]
          exact ih
        · rw [if_neg hp]
          cases isKey r p.1 with
          | true => rfl
          | false => exact ih
  · rw [if_neg h]
    unfold dget
    rw [List.find?_append]
    by_cases e : q = r
    · subst e
      rw [if_pos rfl]
      have hn : kvs.find? (fun p => isKey q p.1) = none := by
        rw [List.find?_eq_none]
        intro p hp hk
        exact h (List.any_eq_true.mpr ⟨p, hp, hk⟩)
      rw [hn]
      simp [isKey_kD]
    · rw [if_neg e]
      cases kvs.find? (fun p => isKey r p.1) with
      | some p => rfl
      | none => simp [isKey_kD, e]
/-- the last one of a key counts -/
def lastOf (prs : List (Key × PyData)) (q : Key) : Option PyData := prs.foldl (fun o p => if p.1 = q then some p.2 else o) none
def dictOf (prs : List (Key × PyData)) : List (PyData × PyData) := prs.foldl (fun acc p => dput acc p.1 p.2) []
theorem dget_dictOf (prs : List (Key × PyData)) (q : Key) : dget (dictOf prs) q = lastOf prs q := by
  unfold dictOf lastOf
  have e : ∀ (l : List (Key × PyData)) (acc : List (PyData × PyData)), dget (l.foldl (fun acc p => dput acc p.1 p.2) acc) q = l.foldl (fun o p => if p.1 = q then some p.2 else o) (dget acc q) := by
    intro l
    induction l with
    | nil => intro acc; rfl
    | cons p l ih =>
      intro acc
      rw [List.foldl_cons, List.foldl_cons, ih, dget_put]
  exact e prs []
theorem merge_dictOf (prs : List (Key × PyData)) : mergeD [] prs = dictOf prs := rfl
theorem lastOf_none {prs : List (Key × PyData)} {q : Key} (h : ∀ p ∈ prs, p.1 ≠ q) : lastOf prs q = none := by
  unfold lastOf
  induction prs with
  | nil => rfl
  | cons p l ih =>
    rw [List.foldl_cons, if_neg (h p List.mem_cons_self)]
    exact ih fun p hp => h p (List.mem_cons_of_mem _ hp)
theorem lastOf_app (prs prs' : List (Key × PyData)) (q : Key) : lastOf (prs ++ prs') q = (lastOf prs' q).or (lastOf prs q) := by
  unfold lastOf
  rw [List.foldl_append]
  have e : ∀ (l : List (Key × PyData)) (o : Option PyData), l.foldl (fun o p => if p.1 = q then some p.2 else o) o = (l.foldl (fun o p => if p.1 = q then some p.2 else o) none).or o := by
    intro l
    induction l with
    | nil => intro o; rfl
    | cons p l ih =>
      intro o
      rw [List.foldl_cons, List.foldl_cons, ih, ih (if p.1 = q then some p.2 else none)]
      by_cases h : p.1 = q
      · rw [if_pos h, if_pos h]
        cases (l.foldl (fun o p => if p.1 = q then some p.2 else o) none) <;> rfl
      · rw [if_neg h, if_neg h]
        cases (l.foldl (fun o p => if p.1 = q then some p.2 else o) none) <;> rfl
  exact e _ _
/-- no key twice: the one that is found -/
theorem lastOf_find {prs : List (Key × PyData)} {q : Key} (h : (prs.map (·.1)).Nodup) : lastOf prs q = (prs.find? fun p => decide (p.1 = q)).map (·.2) := by
  induction prs with
  | nil => rfl
  | cons p l ih =>
    rw [List.map_cons, List.nodup_cons] at h
    have e : p :: l = [p] ++ l := rfl
    rw [e, lastOf_app, ← e, List.find?_cons, ih h.2]
    by_cases hp : p.1 = q
    · rw [decide_eq_true hp]
      have : l.find? (fun p => decide (p.1 = q)) = none := by
        rw [List.find?_eq_none]
        intro r hr z
        exact h.1 (List.mem_map.mpr ⟨r, hr, (of_decide_eq_true z).trans hp.symm⟩)
      rw [this]
      show (none : Option PyData).or (lastOf [p] q) = some p.2
      unfold lastOf
      simp [hp]
    · rw [decide_eq_false hp]
      have : lastOf [p] q = none := by
        unfold lastOf
        simp [hp]
      rw [this, Option.or_none]
theorem lastOf_nil (q : Key) : lastOf [] q = none := rfl
theorem lastOf_cons (p : Key × PyData) (l : List (Key × PyData)) (q : Key) : lastOf (p :: l) q = (lastOf l q).or (if p.1 = q then some p.2 else none) := by
  have e := lastOf_app [p] l q
  exact e
def dcK (g : DTG) (tt : DTT) (tk tv : DTE) (vs : List Nat) (Q : Rv → Rho → Prop) : List PyData → (Rho → Prop) → Rho → Prop := fun ds c ρ1 => DL.plain ρ1 vs ∧ ∃ I : Nat → List (PyData × PyData) → Rho → Prop, I 0 [] (wipeR ρ1 vs) ∧ (∀ i acc ρ2, I i acc ρ2 → c ρ2) ∧
  (∀ i d acc ρ2, ds[i]? = some d → I i acc ρ2 → g d ρ2 fun ρ3 => tt ρ3 fun b ρ4 =>
    (b = true → tk ρ4 fun rk ρ5 => tv ρ5 fun rv ρ6 => ∃ dk q e, rk = .dat dk ∧ keyOf dk = some q ∧ rv = .dat e ∧ acc.length < sizeLine ∧ I (i + 1) (dput acc q e) (wipeR ρ6 vs)) ∧ (b = false → I (i + 1) acc (wipeR ρ4 vs))) ∧
  ∀ acc ρ2, I ds.length acc ρ2 → Q (.dat (.dict acc)) (restore ρ1 vs ρ2)
theorem dDc_eq (ti : DTI) (g : DTG) (tt : DTT) (tk tv : DTE) (vs : List Nat) (ρ : Rho) (Q : Rv → Rho → Prop) : dDc ti g tt tk tv vs ρ Q = ti ρ (dcK g tt tk tv vs Q) := rfl
theorem dput_len (kvs : List (PyData × PyData)) (q : Key) (d : PyData) : (dput kvs q d).length ≤ kvs.length + 1 := by
  unfold dput
  split
  · rw [List.length_map]; omega
  · rw [List.length_append]; exact Nat.le_refl _
theorem dictOf_len (prs : List (Key × PyData)) : (dictOf prs).length ≤ prs.length := by
  unfold dictOf
  have e : ∀ (l : List (Key × PyData)) (acc : List (PyData × PyData)), (l.foldl (fun acc p => dput acc p.1 p.2) acc).length ≤ acc.length + l.length := by
    intro l
    induction l with
    | nil => intro acc; exact Nat.le_refl _
    | cons p l ih =>
      intro acc
      have h1 := ih (dput acc p.1 p.2)
      have h2 := dput_len acc p.1 p.2
      rw [List.foldl_cons, List.length_cons]
      omega
  have := e prs []
  simpa using this
theorem dcK_map {α : Type} {emb : α → PyData} {xs : List α} {g : DTG} {tk tv : DTE} {vs : List Nat} {ρ1 : Rho} {c : Rho → Prop} {Q : Rv → Rho → Prop} (f : α → Key × PyData) {ds : List PyData} (hd : ds = xs.map emb) (hp : DL.plain ρ1 vs) (hc : c (wipeR ρ1 vs)) (hl : xs.length ≤ sizeLine)
    (step : ∀ x ∈ xs, ∀ Kt : Key → PyData → Prop, Kt (f x).1 (f x).2 → g (emb x) (wipeR ρ1 vs) fun ρ4 => tk ρ4 fun rk ρ5 => tv ρ5 fun rv ρ6 => ∃ dk q e, rk = .dat dk ∧ keyOf dk = some q ∧ rv = .dat e ∧ Kt q e ∧ wipeR ρ6 vs = wipeR ρ1 vs)
    (q : Q (.dat (.dict (dictOf (xs.map f)))) ρ1) : dcK g dYes tk tv vs Q ds c ρ1 := by
  subst hd
  refine ⟨hp, fun i acc ρ => ρ = wipeR ρ1 vs ∧ acc = dictOf ((xs.take i).map f), ⟨rfl, rfl⟩, fun i acc ρ2 h => by rw [h.1]; exact hc, ?_, ?_⟩
  · rintro i d acc ρ2 ed ⟨rfl, rfl⟩
    rw [List.getElem?_map] at ed
    cases ex : xs[i]? with
    | none => rw [ex] at ed; cases ed
    | some x =>
      rw [ex] at ed
      cases ed
      have hi : i < xs.length := (List.getElem?_eq_some_iff.mp ex).1
      have et : xs.take (i + 1) = xs.take i ++ [x] := by rw [List.take_add_one, ex]; rfl
      have hb : (dictOf ((xs.take i).map f)).length < sizeLine := by
        have h1 := dictOf_len ((xs.take i).map f)
        rw [List.length_map, List.length_take] at h1
        omega
      have e2 : dput (dictOf ((xs.take i).map f)) (f x).1 (f x).2 = dictOf ((xs.take (i + 1)).map f) := by
        rw [et, List.map_append]
        unfold dictOf
        rw [List.foldl_append]
        rfl
      have st := step x (List.mem_of_getElem? ex) (fun k d => (dictOf ((xs.take i).map f)).length < sizeLine ∧ dput (dictOf ((xs.take i).map f)) k d = dictOf ((xs.take (i + 1)).map f)) ⟨hb, e2⟩
      have e4 : ∀ (k : Key) (d : PyData) (ρ5 : Rho), ((dictOf ((xs.take i).map f)).length < sizeLine ∧ (wipeR ρ5 vs = wipeR ρ1 vs ∧ dput (dictOf ((xs.take i).map f)) k d = dictOf ((xs.take (i + 1)).map f))) = (((dictOf ((xs.take i).map f)).length < sizeLine ∧ dput (dictOf ((xs.take i).map f)) k d = dictOf ((xs.take (i + 1)).map f)) ∧ wipeR ρ5 vs = wipeR ρ1 vs) := fun k d ρ5 => propext ⟨fun ⟨a, b, c⟩ => ⟨⟨a, c⟩, b⟩, fun ⟨⟨a, c⟩, b⟩ => ⟨a, b, c⟩⟩
      simp only [e4, dYes]
      simp only [Bool.true_eq_false, false_implies, and_true, true_implies, forall_const]
      exact st
  · rintro acc ρ2 ⟨rfl, rfl⟩
    rw [restore_wipe, List.length_map, List.take_length]
    exact q

theorem tblGet_some (tbl : List (Str × PyData)) (z : Str) : (tblGet tbl z).isSome = tbl.any fun p => decide (p.1 = z) := by
  unfold tblGet
  rw [Option.isSome_map, Bool.eq_iff_iff, List.find?_isSome, List.any_eq_true]
/-! ### texts within are fine -/
mutual
def tsB : PyData → Bool
  | .str x => decide (x.length ≤ 10000) && cpsOk x
  | .list xs => tsBA xs
  | .tuple xs => tsBA xs
  | .none => true
  | .bool _ => true
  | .int _ => true
  | .dict kvs => tsBK kvs
def tsBA : List PyData → Bool
  | [] => true
  | x :: xs => tsB x && tsBA xs
def tsBK : List (PyData × PyData) → Bool
  | [] => true
  | (k, v) :: r => tsB k && tsB v && tsBK r
end
theorem tsBA_iff {xs : List PyData} : tsBA xs = true ↔ ∀ x ∈ xs, tsB x = true := by
  induction xs with
  | nil => exact ⟨fun _ x h => (nomatch h), fun _ => rfl⟩
  | cons x xs ih =>
    rw [tsBA, Bool.and_eq_true, ih]
    exact ⟨fun h y hy => (List.mem_cons.mp hy).elim (fun e => e ▸ h.1) (h.2 y), fun h => ⟨h x List.mem_cons_self, fun y hy => h y (List.mem_cons_of_mem _ hy)⟩⟩
theorem tsB_tup {xs : List PyData} : tsB (.tuple xs) = true ↔ ∀ x ∈ xs, tsB x = true := by rw [tsB]; exact tsBA_iff
theorem tsB_list {xs : List PyData} : tsB (.list xs) = true ↔ ∀ x ∈ xs, tsB x = true := by rw [tsB]; exact tsBA_iff
theorem tsB_str {x : Str} : tsB (.str x) = true ↔ (x.length ≤ 10000 ∧ cpsOk x = true) := by rw [tsB, Bool.and_eq_true, decide_eq_true_eq]
theorem tsm_of {d : PyData} (h : tsB d = true) : Tsm d := by
  cases d with
  | str x => exact tsB_str.mp h
  | _ => trivial

/-! ### columns and shapes, of anything -/
def isKdD : PyData → Bool
  | .str k => isKd k
  | _ => false
def fitsD (k d : PyData) : Bool := match k with
  | .str k => fitsK k d
  | _ => false
def posD : PyData → Bool
  | .int i => decide (0 < i)
  | _ => false
def isColB : PyData → Bool
  | .tuple [n, s, k, f] => posD n && (isTx 1 6 s && (isKdD k && fitsD k f))
  | _ => false
def keyD (d : PyData) : Key := (keyOf d).getD (.inl 0)
def atP (i : Nat) : PyData → PyData
  | .tuple xs => xs.getD i .none
  | _ => .none
def uniq (i : Nat) (cs : List PyData) : Bool := decide ((distK (cs.map fun c => keyD (atP i c))).length = cs.length)
def isShapeB : PyData → Bool
  | .tuple cs => decide (1 ≤ (cs.length : Int)) && (decide ((cs.length : Int) ≤ 8) && (cs.all isColB && (uniq 0 cs && uniq 1 cs)))
  | _ => false
theorem isKd_iff {k : Str} : isKd k = true ↔ kindS k := by
  unfold isKd kindS
  simp [or_assoc]
theorem isColB_tup (n s k f : PyData) : isColB (.tuple [n, s, k, f]) = (posD n && (isTx 1 6 s && (isKdD k && fitsD k f))) := rfl
theorem isShapeB_tup (cs : List PyData) : isShapeB (.tuple cs) = (decide (1 ≤ (cs.length : Int)) && (decide ((cs.length : Int) ≤ 8) && (cs.all isColB && (uniq 0 cs && uniq 1 cs)))) := rfl
theorem isColB_iff {d : PyData} : isColB d = true ↔ ∃ n s k f, d = .tuple [.int n, s, .str k, f] ∧ 0 < n ∧ isTx 1 6 s = true ∧ kindS k ∧ fitsK k f = true := by
  constructor
  · intro h
    unfold isColB at h
    split at h
    · rename_i n s k f
      simp only [Bool.and_eq_true] at h
      obtain ⟨h1, h2, h3, h4⟩ := h
      cases n with
      | int n =>
        cases k with
        | str k => exact ⟨n, s, k, f, rfl, of_decide_eq_true h1, h2, isKd_iff.mp h3, h4⟩
        | _ => cases h3
      | _ => cases h1
    · cases h
  · rintro ⟨n, s, k, f, rfl, h1, h2, h3, h4⟩
    rw [isColB_tup, h2]
    simp only [Bool.true_and, Bool.and_eq_true]
    exact ⟨decide_eq_true h1, isKd_iff.mpr h3, h4⟩
theorem fits_small {k : Str} {d : PyData} (hk : kindS k) (h : fitsK k d = true) : Sd 8 0 d ∧ tsB d = true := by
  have num : ∀ far : Int, far ≤ 1000000000000 → isNum far d = true → Sd 8 0 d ∧ tsB d = true := fun far hf h => by
    cases d with
    | int i =>
      rw [isNum_int, Bool.and_eq_true, decide_eq_true_eq, decide_eq_true_eq] at h
      exact ⟨.int, rfl⟩
    | _ => cases h
  have txt : ∀ lo hi : Int, hi ≤ 8 → isTx lo hi d = true → Sd 8 0 d ∧ tsB d = true := fun lo hi hh h => by
    cases d with
    | str x =>
      rw [isTx_str, Bool.and_eq_true, Bool.and_eq_true, decide_eq_true_eq, decide_eq_true_eq, List.all_eq_true] at h
      have hc : cpsOk x = true := cps_of fun c hc => by
        have := h.2 c hc
        unfold low at this
        simp at this
        omega
      exact ⟨.str hc (by omega), tsB_str.mpr ⟨by omega, hc⟩⟩
    | _ => cases h
  have non : isNn d = true → Sd 8 0 d ∧ tsB d = true := fun h => by
    cases d with
    | none => exact ⟨.none, rfl⟩
    | _ => cases h
  rcases hk with rfl | rfl | rfl | rfl
  · rw [fitsK_small, Bool.or_eq_true] at h
    exact h.elim non (num _ (by omega))
  · rw [fitsK_whole, Bool.or_eq_true] at h
    exact h.elim non (num _ (by omega))
  · rw [fitsK_sign, Bool.or_eq_true] at h
    exact h.elim non (txt _ _ (by omega))
  · rw [fitsK_word, Bool.or_eq_true] at h
    exact h.elim non (txt _ _ (by omega))
theorem tx_small {lo hi : Int} {d : PyData} (hh : hi ≤ 8) (h : isTx lo hi d = true) : ∃ x : Str, d = .str x ∧ lo ≤ x.length ∧ x.length ≤ 8 ∧ cpsOk x = true := by
  cases d with
  | str x =>
    rw [isTx_str, Bool.and_eq_true, Bool.and_eq_true, decide_eq_true_eq, decide_eq_true_eq, List.all_eq_true] at h
    have hc : cpsOk x = true := cps_of fun c hc => by
      have := h.2 c hc
      unfold low at this
      simp at this
      omega
    exact ⟨x, rfl, h.1.1, by omega, hc⟩
  | _ => cases h

/-! ### shapes that are right -/
structure Colm where
  n : Int
  s : Str
  k : Str
  f : PyData
def colD (c : Colm) : PyData := .tuple [.int c.n, .str c.s, .str c.k, c.f]
structure ColOk (c : Colm) : Prop where
  n0 : 0 < c.n
  n1 : c.n < 1000
  s : isTx 1 6 (.str c.s) = true
  k : kindS c.k
  f : fitsK c.k c.f = true
structure ShOk (cs : List Colm) : Prop where
  l0 : 1 ≤ cs.length
  l1 : cs.length ≤ 8
  ok : ∀ c ∈ cs, ColOk c
  un : (cs.map (·.n)).Nodup
  us : (cs.map (·.s)).Nodup
theorem ColOk.isCol {c : Colm} (h : ColOk c) : isColB (colD c) = true := isColB_iff.mpr ⟨c.n, .str c.s, c.k, c.f, rfl, h.n0, h.s, h.k, h.f⟩
theorem nodup_map_inj {α β γ : Type} {l : List α} {f : α → β} {g : α → γ} (h : (l.map f).Nodup) (hg : ∀ a ∈ l, ∀ b ∈ l, g a = g b → f a = f b) : (l.map g).Nodup := by
  induction l with
  | nil => exact List.nodup_nil
  | cons a l ih =>
    rw [List.map_cons, List.nodup_cons] at h ⊢
    refine ⟨fun z => ?_, ih h.2 fun a ha b hb => hg a (List.mem_cons_of_mem _ ha) b (List.mem_cons_of_mem _ hb)⟩
    obtain ⟨b, hb, e⟩ := List.mem_map.mp z
    exact h.1 (List.mem_map.mpr ⟨b, hb, hg b (List.mem_cons_of_mem _ hb) a List.mem_cons_self e⟩)
theorem ShOk.isShape {cs : List Colm} (h : ShOk cs) : isShapeB (.tuple (cs.map colD)) = true := by
  have u0 : uniq 0 (cs.map colD) = true := by
    unfold uniq
    apply decide_eq_true
    have e : ((cs.map colD).map fun c => keyD (atP 0 c)) = cs.map fun c => Sum.inl c.n := by
      rw [List.map_map]
      rfl
    have l : (cs.map colD).length = (cs.map fun c => (Sum.inl c.n : Key)).length := by rw [List.length_map, List.length_map]
    rw [e, l]
    exact (dist_eq _).mpr (nodup_map_inj h.un fun a _ b _ e => Sum.inl.inj e)
  have u1 : uniq 1 (cs.map colD) = true := by
    unfold uniq
    apply decide_eq_true
    have e : ((cs.map colD).map fun c => keyD (atP 1 c)) = cs.map fun c => Sum.inr c.s := by
      rw [List.map_map]
      rfl
    have l : (cs.map colD).length = (cs.map fun c => (Sum.inr c.s : Key)).length := by rw [List.length_map, List.length_map]
    rw [e, l]
    exact (dist_eq _).mpr (nodup_map_inj h.us fun a _ b _ e => Sum.inr.inj e)
  rw [isShapeB_tup, u0, u1, List.length_map]
  have h0 := h.l0
  have h1 := h.l1
  have ha : (cs.map colD).all isColB = true := by
    rw [List.all_eq_true]
    intro d hd
    obtain ⟨c, hc, rfl⟩ := List.mem_map.mp hd
    exact (h.ok c hc).isCol
  rw [ha]
  simp only [Bool.and_true, Bool.and_eq_true, decide_eq_true_eq]
  omega
theorem ColOk.sd {c : Colm} (h : ColOk c) : Sd 40 1 (colD c) ∧ tsB (colD c) = true := by
  obtain ⟨s1, s2⟩ := fits_small h.k h.f
  obtain ⟨x, ex, _, hx, hc⟩ := tx_small (by omega) h.s
  have ex : c.s = x := by injection ex
  subst ex
  have n0 := h.n0
  have n1 := h.n1
  have hk : c.k.length ≤ 8 ∧ cpsOk c.k = true := by rcases h.k with e | e | e | e <;> rw [e] <;> exact ⟨by decide, by decide +kernel⟩
  constructor
  · refine (Sd.tupleA (e := 0) (.cons (b := 0) .int (.cons (b := 8) (.str hc hx) (.cons (b := 8) (.str hk.2 hk.1) (.cons s1 (.nil (b := 0))))))).le (by omega) (by omega)
  · refine tsB_tup.mpr fun d hd => ?_
    simp only [List.mem_cons, List.not_mem_nil, or_false] at hd
    rcases hd with rfl | rfl | rfl | rfl
    · rfl
    · exact tsB_str.mpr ⟨by omega, hc⟩
    · exact tsB_str.mpr ⟨by omega, hk.2⟩
    · exact s2
theorem ShOk.sd {cs : List Colm} (h : ShOk cs) : Sd 400 2 (.tuple (cs.map colD)) ∧ tsB (.tuple (cs.map colD)) = true := by
  constructor
  · refine (Sd.tuple (b := 40) (e := 1) fun d hd => ?_).le (by rw [List.length_map]; have := h.l1; omega) (by omega)
    obtain ⟨c, hc, rfl⟩ := List.mem_map.mp hd
    exact (h.ok c hc).sd.1
  · refine tsB_tup.mpr fun d hd => ?_
    obtain ⟨c, hc, rfl⟩ := List.mem_map.mp hd
    exact (h.ok c hc).sd.2
end DL

/-! DL: rows read by another shape; names that are drawn. -/
namespace DL
open PySem PySem.Spec L2

theorem cols_inj {cs os : List Colm} : (cs.map colD = os.map colD) = (cs = os) := by
  apply propext
  refine ⟨fun h => ?_, fun h => by rw [h]⟩
  exact (List.map_inj_right (fun x y e => by
    obtain ⟨x1, x2, x3, x4⟩ := x
    obtain ⟨y1, y2, y3, y4⟩ := y
    unfold colD at e
    simp at e
    rw [e.1, e.2.1, e.2.2.1, e.2.2.2])).mp h
/-! ### rows -/
structure RowOk (cs : List Colm) (row : List PyData) : Prop where
  len : row.length = cs.length
  sd : ∀ w ∈ row, Sd 8 0 w
theorem RowOk.tup {cs : List Colm} {row : List PyData} (h : RowOk cs row) (hl : cs.length ≤ 8) : Sd 72 1 (.tuple row) := (Sd.tuple h.sd).le (by rw [h.len]; omega) (Nat.le_refl _)
def prsOf (cs : List Colm) (row : List PyData) : List (Key × PyData) := (List.zip cs row).map fun p => ((Sum.inl p.1.n : Key), p.2)
def readD (cs os : List Colm) (row : List PyData) : List PyData := os.map fun o => (lastOf (prsOf cs row) (.inl o.n)).getD o.f
def backD (cs os : List Colm) (row : List PyData) : List PyData := (List.zip cs row).map fun p => if (os.map (·.n)).contains p.1.n then p.2 else p.1.f
theorem prs_keys {cs : List Colm} {row : List PyData} (h : row.length = cs.length) (hn : (cs.map (·.n)).Nodup) : ((prsOf cs row).map (·.1)).Nodup := by
  have e : (prsOf cs row).map (·.1) = cs.map fun c => (Sum.inl c.n : Key) := by
    unfold prsOf
    rw [List.map_map]
    have : (List.zip cs row).map (fun p => (Sum.inl p.1.n : Key)) = ((List.zip cs row).map Prod.fst).map fun c => (Sum.inl c.n : Key) := by rw [List.map_map]; rfl
    show (List.zip cs row).map (fun p => (Sum.inl p.1.n : Key)) = _
    rw [this, List.map_fst_zip (by omega)]
  rw [e]
  exact nodup_map_inj hn fun a _ b _ e => Sum.inl.inj e
theorem last_at {cs : List Colm} {row : List PyData} (h : row.length = cs.length) (hn : (cs.map (·.n)).Nodup) {i : Nat} {c : Colm} {w : PyData} (hc : cs[i]? = some c) (hw : row[i]? = some w) : lastOf (prsOf cs row) (.inl c.n) = some w := by
  rw [lastOf_find (prs_keys h hn)]
  have hm : ((Sum.inl c.n : Key), w) ∈ prsOf cs row := by
    unfold prsOf
    refine List.mem_map.mpr ⟨(c, w), ?_, rfl⟩
    refine List.mem_of_getElem? (i := i) ?_
    exact (List.getElem?_zip_eq_some (z := (c, w))).mpr ⟨hc, hw⟩
  obtain ⟨p, hp⟩ : ∃ p, (prsOf cs row).find? (fun p => decide (p.1 = .inl c.n)) = some p := by
    cases e : (prsOf cs row).find? (fun p => decide (p.1 = .inl c.n)) with
    | some p => exact ⟨p, rfl⟩
    | none => exact ((List.find?_eq_none.mp e) _ hm (decide_eq_true rfl)).elim
  rw [hp]
  have h1 := List.mem_of_find?_eq_some hp
  have h2 : p.1 = .inl c.n := by have z := List.find?_some hp; simpa using z
  have : p = ((Sum.inl c.n : Key), w) := by
    have nd := prs_keys h hn
    have inj : ∀ (l : List (Key × PyData)), (l.map (·.1)).Nodup → ∀ a ∈ l, ∀ b ∈ l, a.1 = b.1 → a = b := by
      intro l
      induction l with
      | nil => intro _ a ha; cases ha
      | cons x l ih =>
        intro nd a ha b hb e
        rw [List.map_cons, List.nodup_cons] at nd
        rcases List.mem_cons.mp ha with ha' | ha
        · rcases List.mem_cons.mp hb with hb' | hb
          · rw [ha', hb']
          · exact (nd.1 (List.mem_map.mpr ⟨b, hb, by rw [← e, ha']⟩)).elim
        · rcases List.mem_cons.mp hb with hb' | hb
          · exact (nd.1 (List.mem_map.mpr ⟨a, ha, by rw [e, hb']⟩)).elim
          · exact ih nd.2 a ha b hb e
    exact inj _ nd p h1 _ hm h2
  rw [this]
  rfl
theorem last_no {cs : List Colm} {row : List PyData} {n : Int} (h : n ∉ cs.map (·.n)) : lastOf (prsOf cs row) (.inl n) = none := lastOf_none fun p hp e => by
  unfold prsOf at hp
  obtain ⟨q, hq, rfl⟩ := List.mem_map.mp hp
  have e : q.1.n = n := Sum.inl.inj e
  exact h (List.mem_map.mpr ⟨q.1, (List.of_mem_zip hq).1, e⟩)
theorem readD_len (cs os : List Colm) (row : List PyData) : (readD cs os row).length = os.length := List.length_map ..
theorem lastOf_mem {prs : List (Key × PyData)} {q : Key} {d : PyData} (h : lastOf prs q = some d) : ∃ p ∈ prs, p.2 = d := by
  have e : ∀ l : List (Key × PyData), lastOf l.reverse q = some d → ∃ p ∈ l.reverse, p.2 = d := by
    intro l
    induction l with
    | nil => intro h; cases h
    | cons x l ih =>
      intro h
      rw [List.reverse_cons, lastOf_app] at h
      rw [List.reverse_cons]
      by_cases hx : x.1 = q
      · have e1 : lastOf [x] q = some x.2 := by rw [lastOf_cons, if_pos hx]; rfl
        rw [e1] at h
        exact ⟨x, by simp, Option.some.inj h⟩
      · have e1 : lastOf [x] q = none := by rw [lastOf_cons, if_neg hx]; rfl
        rw [e1, Option.none_or] at h
        obtain ⟨p, hp, e⟩ := ih h
        exact ⟨p, List.mem_append_left _ hp, e⟩
  have := e prs.reverse
  rw [List.reverse_reverse] at this
  exact this h
theorem RowOk.read {cs os : List Colm} {row : List PyData} (h : RowOk cs row) (ho : ShOk os) : RowOk os (readD cs os row) := by
  refine ⟨readD_len cs os row, fun w hw => ?_⟩
  unfold readD at hw
  obtain ⟨o, hom, rfl⟩ := List.mem_map.mp hw
  cases e : lastOf (prsOf cs row) (.inl o.n) with
  | none => exact (fits_small (ho.ok o hom).k (ho.ok o hom).f).1
  | some d =>
    obtain ⟨p, hp, rfl⟩ := lastOf_mem e
    unfold prsOf at hp
    obtain ⟨r, hr, rfl⟩ := List.mem_map.mp hp
    exact h.sd _ (List.of_mem_zip hr).2
theorem RowOk.back {cs os : List Colm} {row : List PyData} (h : RowOk cs row) (hs : ShOk cs) : RowOk cs (backD cs os row) := by
  refine ⟨by unfold backD; rw [List.length_map, List.length_zip, h.len]; omega, fun w hw => ?_⟩
  unfold backD at hw
  obtain ⟨r, hr, rfl⟩ := List.mem_map.mp hw
  obtain ⟨h1, h2⟩ := List.of_mem_zip hr
  split
  · exact h.sd _ h2
  · exact (fits_small (hs.ok _ h1).k (hs.ok _ h1).f).1
theorem back_range {cs os : List Colm} {row : List PyData} (h : row.length = cs.length) : ((List.range cs.length).map fun k => if (os.map (·.n)).contains (cs.getD k ⟨0, "", "", .none⟩).n then row.getD k .none else (cs.getD k ⟨0, "", "", .none⟩).f) = backD cs os row := by
  refine List.ext_getElem? fun i => ?_
  unfold backD
  rw [List.getElem?_map, List.getElem?_map]
  by_cases hi : i < cs.length
  · have hc : cs[i]? = some cs[i] := List.getElem?_eq_getElem hi
    have hw : row[i]? = some row[i] := List.getElem?_eq_getElem (by omega)
    rw [List.getElem?_range hi, (List.getElem?_zip_eq_some (z := (cs[i], row[i]))).mpr ⟨hc, hw⟩]
    simp only [Option.map_some, List.getD_eq_getElem?_getD, hc, hw, Option.getD_some]
  · rw [List.getElem?_eq_none (by rw [List.length_range]; omega), List.getElem?_eq_none (by rw [List.length_zip]; omega)]
    rfl
theorem readD_self {cs : List Colm} {row : List PyData} (h : row.length = cs.length) (hn : (cs.map (·.n)).Nodup) : readD cs cs row = row := by
  refine List.ext_getElem? fun i => ?_
  unfold readD
  rw [List.getElem?_map]
  cases hc : cs[i]? with
  | none =>
    have := List.getElem?_eq_none_iff.mp hc
    rw [List.getElem?_eq_none (by omega)]
    rfl
  | some c =>
    have hi := (List.getElem?_eq_some_iff.mp hc).1
    have hw : row[i]? = some row[i] := List.getElem?_eq_getElem (by omega)
    rw [hw]
    show some ((lastOf (prsOf cs row) (.inl c.n)).getD c.f) = _
    rw [last_at h hn hc hw]
    rfl
theorem readD_back {cs os : List Colm} {row : List PyData} (h : row.length = cs.length) (hn : (cs.map (·.n)).Nodup) (ho : (os.map (·.n)).Nodup) : readD os cs (readD cs os row) = backD cs os row := by
  refine List.ext_getElem? fun i => ?_
  have e1 : (readD os cs (readD cs os row))[i]? = (cs[i]?).map fun c => (lastOf (prsOf os (readD cs os row)) (.inl c.n)).getD c.f := by unfold readD; rw [List.getElem?_map]
  rw [e1]
  cases hc : cs[i]? with
  | none =>
    have hl := List.getElem?_eq_none_iff.mp hc
    unfold backD
    rw [List.getElem?_map, List.getElem?_eq_none (by rw [List.length_zip]; omega)]
    rfl
  | some c =>
    have hi := (List.getElem?_eq_some_iff.mp hc).1
    have hw : row[i]? = some row[i] := List.getElem?_eq_getElem (by omega)
    have e2 : (backD cs os row)[i]? = some (if (os.map (·.n)).contains c.n then row[i] else c.f) := by
      unfold backD
      rw [List.getElem?_map, (List.getElem?_zip_eq_some (z := (c, row[i]))).mpr ⟨hc, hw⟩]
      rfl
    rw [e2]
    show some ((lastOf (prsOf os (readD cs os row)) (.inl c.n)).getD c.f) = some _
    congr 1
    by_cases hm : c.n ∈ os.map (·.n)
    · rw [if_pos (by simpa using hm)]
      obtain ⟨o, hom, en⟩ := List.mem_map.mp hm
      obtain ⟨j, hj, ej⟩ := List.getElem_of_mem hom
      have hoj : os[j]? = some o := by rw [List.getElem?_eq_getElem hj, ej]
      have hrj : (readD cs os row)[j]? = some row[i] := by
        unfold readD
        rw [List.getElem?_map, hoj]
        show some ((lastOf (prsOf cs row) (.inl o.n)).getD o.f) = _
        rw [en, last_at h hn hc hw]
        rfl
      rw [← en, last_at (readD_len cs os row) ho hoj hrj]
      rfl
    · rw [if_neg (by simpa using hm), last_no hm]
      rfl
/-- the first one that is found, as the law goes through the places -/
theorem due_head {cs : List Colm} {row : List PyData} (h : row.length = cs.length) (hn : (cs.map (·.n)).Nodup) (n : Int) : (((List.range cs.length).filterMap fun k => if (cs.getD k ⟨0, "", "", .none⟩).n = n then some (row.getD k .none) else none) ++ [f])[0]? = some ((lastOf (prsOf cs row) (.inl n)).getD f) := by
  by_cases hm : n ∈ cs.map (·.n)
  · obtain ⟨c, hcm, en⟩ := List.mem_map.mp hm
    obtain ⟨j, hj, ej⟩ := List.getElem_of_mem hcm
    have hcj : cs[j]? = some c := by rw [List.getElem?_eq_getElem hj, ej]
    have hwj : row[j]? = some row[j] := List.getElem?_eq_getElem (by omega)
    have only : ∀ k, k < cs.length → ((cs.getD k ⟨0, "", "", .none⟩).n = n ↔ k = j) := fun k hk => by
      have hk' : cs[k]? = some cs[k] := List.getElem?_eq_getElem hk
      rw [List.getD_eq_getElem?_getD, hk']
      constructor
      · intro e
        have e : cs[k].n = n := e
        have g1 : (cs.map (·.n))[k]? = some n := by rw [List.getElem?_map, hk']; exact congrArg some e
        have g2 : (cs.map (·.n))[j]? = some n := by rw [List.getElem?_map, hcj]; exact congrArg some en
        exact (List.getElem?_inj (by rw [List.length_map]; exact hk) hn).mp (g1.trans g2.symm)
      · rintro rfl
        have e := Option.some.inj (hk'.symm.trans hcj)
        show cs[k].n = n
        rw [e]
        exact en
    have e : ((List.range cs.length).filterMap fun k => if (cs.getD k ⟨0, "", "", .none⟩).n = n then some (row.getD k .none) else none) = [row[j]] := by
      have e1 : ∀ m, m ≤ cs.length → ((List.range m).filterMap fun k => if (cs.getD k ⟨0, "", "", .none⟩).n = n then some (row.getD k .none) else none) = if j < m then [row[j]] else [] := by
        intro m
        induction m with
        | zero => intro _; rfl
        | succ m ih =>
          intro hm
          rw [List.range_succ, List.filterMap_append, ih (by omega)]
          by_cases hj' : m = j
          · subst hj'
            rw [if_neg (by omega), if_pos (by omega)]
            have : (cs.getD m ⟨0, "", "", .none⟩).n = n := (only m (by omega)).mpr rfl
            have e2 : row.getD m .none = row[m] := by rw [List.getD_eq_getElem?_getD, hwj]; rfl
            simp only [List.filterMap_cons, List.filterMap_nil, this, if_true, e2, List.nil_append]
          · have : ¬ (cs.getD m ⟨0, "", "", .none⟩).n = n := fun z => hj' ((only m (by omega)).mp z)
            simp only [List.filterMap_cons, List.filterMap_nil, if_neg this, List.append_nil]
            by_cases hlt : j < m
            · rw [if_pos hlt, if_pos (by omega)]
            · rw [if_neg hlt, if_neg (by omega)]
      rw [e1 _ (Nat.le_refl _), if_pos hj]
    rw [e, ← en, last_at h hn hcj hwj]
    rfl
  · have e : ((List.range cs.length).filterMap fun k => if (cs.getD k ⟨0, "", "", .none⟩).n = n then some (row.getD k .none) else none) = [] := by
      rw [List.filterMap_eq_nil_iff]
      intro k hk
      have hk := List.mem_range.mp hk
      rw [if_neg]
      intro z
      rw [List.getD_eq_getElem?_getD, List.getElem?_eq_getElem hk] at z
      exact hm (List.mem_map.mpr ⟨cs[k], List.getElem_mem hk, z⟩)
    rw [e, last_no hm]
    rfl
theorem erase_map {α β : Type} (f : α → β) : ∀ (l : List α) (i : Nat), (l.map f).eraseIdx i = (l.eraseIdx i).map f
  | [], i => by simp
  | x :: l, 0 => rfl
  | x :: l, i + 1 => by
    rw [List.map_cons, List.eraseIdx_cons_succ, List.eraseIdx_cons_succ, List.map_cons, erase_map f l i]
theorem any_ints (os : List Colm) (n : Int) : ((os.map fun o => PyData.int o.n).any fun z => z.eqv (.int n)) = (os.map (·.n)).contains n := by
  rw [List.any_map, Bool.eq_iff_iff, List.any_eq_true]
  simp only [Function.comp, eqv_int, decide_eq_true_eq, List.contains_iff_mem, List.mem_map]
theorem all_flat_ints (os : List Colm) : (os.map fun o => PyData.int o.n).all flatD = true := by
  rw [List.all_map, List.all_eq_true]
  intro o _
  rfl
theorem readD_snoc {cs os : List Colm} {row : List PyData} {i : Nat} {o : Colm} (h : os[i]? = some o) : readD cs (os.take i) row ++ [(lastOf (prsOf cs row) (.inl o.n)).getD o.f] = readD cs (os.take (i + 1)) row := by
  unfold readD
  rw [List.take_add_one, h, List.map_append]
  rfl
theorem atI_head {xs : List PyData} {d : PyData} (h : xs[0]? = some d) : atI xs 0 = some d := atI_nat (j := 0) h
theorem atI_map {α : Type} {xs : List α} {f : α → PyData} {k : Nat} (h : k < xs.length) : atI (xs.map f) (0 + (k : Int)) = some (f xs[k]) := by
  rw [Int.zero_add]
  refine atI_nat ?_
  rw [List.getElem?_map, List.getElem?_eq_getElem h]
  rfl
theorem atI_get {xs : List PyData} {k : Nat} (h : k < xs.length) : atI xs (0 + (k : Int)) = some xs[k] := by
  rw [Int.zero_add]
  exact atI_nat (List.getElem?_eq_getElem h)
end DL

/-! DL: letters; names that are drawn, unlike. -/
namespace DL
open PySem PySem.Spec L2

theorem letters_eq : (Str.ofString "abcdefghijklmnopqrstuvwxyz").cps.toList = (List.range 26).map (97 + ·) := by decide +kernel
theorem letters_len : (Str.ofString "abcdefghijklmnopqrstuvwxyz").length ≤ sizeLine := by decide
theorem letters_len' : (Str.ofString "abcdefghijklmnopqrstuvwxyz").length ≤ 16777216 := by decide
theorem letters_cps : cpsOk (Str.ofString "abcdefghijklmnopqrstuvwxyz") = true := by decide +kernel
theorem ltr_at {i : Int} (h0 : 0 ≤ i) (h1 : i < 26) : atI (Str.ofString "abcdefghijklmnopqrstuvwxyz").cps.toList i = some (97 + i.toNat) := by
  rw [letters_eq]
  have e : i = ((i.toNat : Nat) : Int) := by omega
  rw [e]
  refine atI_nat ?_
  rw [List.getElem?_map, List.getElem?_range (by omega)]
  rfl
theorem ltr_mem {d : PyData} (h : d ∈ signsD (Str.ofString "abcdefghijklmnopqrstuvwxyz")) : ∃ c, d = .str ⟨#[c]⟩ ∧ low c = true := by
  obtain ⟨c, hc, rfl⟩ := List.mem_map.mp h
  refine ⟨c, rfl, ?_⟩
  rw [← low_mem]
  exact decide_eq_true hc
theorem low_lt {c : Nat} (h : low c = true) : 97 ≤ c ∧ c ≤ 122 := by
  unfold low at h
  simpa using h
theorem low_of {c : Nat} (h : 97 ≤ c ∧ c ≤ 122) : low c = true := by
  unfold low
  simpa using h
theorem low_cps {x : Str} (h : x.cps.toList.all low = true) : cpsOk x = true := cps_of fun c hc => by
  have := low_lt (List.all_eq_true.mp h c hc)
  omega
/-- texts of one letter, joined -/
theorem join_low {ys : List Str} (h : ∀ y ∈ ys, ∃ c, y = ⟨#[c]⟩ ∧ low c = true) : (Txt.join "" ys).length = ys.length ∧ (Txt.join "" ys).cps.toList.all low = true := by
  constructor
  · rw [len_join, sum_ones]
    rintro y hy
    obtain ⟨c, rfl, _⟩ := h y hy
    rfl
  · rw [join_cps, List.all_eq_true]
    intro c hc
    obtain ⟨l, hl, hc⟩ := List.mem_flatten.mp hc
    obtain ⟨y, hy, rfl⟩ := List.mem_map.mp hl
    obtain ⟨c', rfl, h'⟩ := h y hy
    have : c = c' := by simpa using hc
    rw [this]
    exact h'
theorem sIx_take {n : Nat} {i : Int} (h0 : 0 ≤ i) (lo : Nat) : HT.sIx n lo (some i) = min i.toNat n := by
  have e : i = ((i.toNat : Nat) : Int) := by omega
  rw [e, HT.sIx_nat]
  omega
theorem cutS_list (z : Str) (lo hi : Option Int) : (cutS z lo hi).cps.toList = (z.cps.toList.drop (HT.sIx z.length 0 lo)).take (HT.sIx z.length z.length hi - HT.sIx z.length 0 lo) := by
  unfold cutS
  simp
theorem cutS_to {z : Str} {i : Int} (h : 0 ≤ i) : (cutS z none (some i)).cps.toList = z.cps.toList.take i.toNat := by
  rw [cutS_list, HT.sIx_none, sIx_take h, List.drop_zero, Nat.sub_zero, len_cps, List.take_eq_take_iff]
  omega
theorem cutS_between {z : Str} {i j : Int} (h : 0 ≤ i) (h' : 0 ≤ j) : (cutS z (some i) (some j)).cps.toList = (z.cps.toList.take j.toNat).drop i.toNat := by
  rw [cutS_list, sIx_take h, sIx_take h', len_cps, List.drop_take]
  by_cases hi : i.toNat ≤ z.cps.toList.length
  · rw [Nat.min_eq_left hi, List.take_eq_take_iff]
    rw [List.length_drop]
    omega
  · have hi' : z.cps.toList.length ≤ i.toNat := by omega
    rw [Nat.min_eq_right hi', List.drop_of_length_le (Nat.le_refl _), List.drop_of_length_le hi']
    simp
theorem cat_list (x y : Str) : (x ++ y).cps.toList = x.cps.toList ++ y.cps.toList := by
  show (x.cps ++ y.cps).toList = _
  simp
theorem str_ext {x y : Str} (h : x.cps.toList = y.cps.toList) : x = y := by
  cases x; cases y
  congr 1
  exact Array.ext' h
/-- a list of texts by a way of making them, one for each place -/
theorem names_of {f : Nat → Str} {n : Nat} (h : ∀ i j, i < n → j < n → f i = f j → i = j) : ((List.range n).map f).Nodup := by
  refine nodup_map_inj (f := _root_.id) (by rw [List.map_id]; exact List.nodup_range) fun a ha b hb e => ?_
  exact h a b (List.mem_range.mp ha) (List.mem_range.mp hb) e
theorem tx_of {x : Str} {lo hi : Int} (h1 : lo ≤ x.cps.toList.length) (h2 : (x.cps.toList.length : Int) ≤ hi) (h : x.cps.toList.all low = true) : isTx lo hi (.str x) = true := by
  rw [isTx_str, h, len_cps, decide_eq_true h1, decide_eq_true h2]
  rfl
theorem fits_none (k : Str) : fitsK k .none = true := rfl
theorem fits_small_int {i : Int} (h : -99 ≤ i ∧ i ≤ 99) : fitsK "small" (.int i) = true := by
  rw [fitsK_small, isNum_int, decide_eq_true (by omega), decide_eq_true (by omega)]; rfl
theorem fits_whole_int {i : Int} (h : -1000000000000 ≤ i ∧ i ≤ 1000000000000) : fitsK "whole" (.int i) = true := by
  rw [fitsK_whole, isNum_int, decide_eq_true (by omega), decide_eq_true (by omega)]; rfl
theorem fits_sign_str {x : Str} (h : x.length = 1) (h2 : x.cps.toList.all low = true) : fitsK "sign" (.str x) = true := by
  rw [fitsK_sign, tx_of (by rw [← len_cps]; omega) (by rw [← len_cps]; omega) h2]; rfl
theorem fits_word_str {x : Str} (h : x.length ≤ 8) (h2 : x.cps.toList.all low = true) : fitsK "word" (.str x) = true := by
  rw [fitsK_word, tx_of (by omega) (by rw [← len_cps]; omega) h2]; rfl
theorem repS_low {z : Str} (h : z.cps.toList.all low = true) (n : Nat) : (repS z n).cps.toList.all low = true := by
  rw [List.all_eq_true]
  intro c hc
  have hc : c ∈ (List.replicate n z.cps.toList).flatten := by simpa [repS] using hc
  obtain ⟨l, hl, hc⟩ := List.mem_flatten.mp hc
  rw [List.eq_of_mem_replicate hl] at hc
  exact List.all_eq_true.mp h c hc
/-! the three ways -/
def nm0 (first : Int) (stem : Str) (k : Nat) : Str := cutS ((⟨#[97 + ((first + (0 + (k : Int)) / 6) % 26).toNat]⟩ : Str) ++ stem) none (some (1 + (0 + (k : Int)) % 6))
def nm1 (first : Int) (stem : Str) (long spot : Int) (k : Nat) : Str := cutS stem none (some spot) ++ (⟨#[97 + ((first + 3 * (0 + (k : Int))) % 26).toNat]⟩ : Str) ++ cutS stem (some (spot + 1)) (some long)
def nm2 (first : Int) (k : Nat) : Str := repS (⟨#[97 + ((first + (0 + (k : Int)) / 6) % 26).toNat]⟩ : Str) (1 + (0 + (k : Int)) % 6).toNat
section
variable {first : Int} {stem : Str} {long spot : Int} (hf : 0 ≤ first ∧ first < 26) (hs : stem.length = 6) (hl : stem.cps.toList.all low = true)
include hf hs hl
theorem nm0_list (k : Nat) : (nm0 first stem k).cps.toList = (97 + ((first + (k : Int) / 6) % 26).toNat) :: stem.cps.toList.take (k % 6) := by
  unfold nm0
  rw [cutS_to (by omega), cat_list, Int.zero_add]
  have e : (1 + (k : Int) % 6).toNat = k % 6 + 1 := by omega
  rw [e]
  rfl
theorem nm0_inj {n : Nat} (hn : n ≤ 9) : ∀ i j, i < n → j < n → nm0 first stem i = nm0 first stem j → i = j := by
  intro i j hi hj e
  have e := congrArg (fun x : Str => x.cps.toList) e
  simp only [nm0_list hf hs hl] at e
  injection e with e1 e2
  have e3 := congrArg List.length e2
  rw [List.length_take, List.length_take, ← len_cps, hs] at e3
  omega
theorem nm0_tx (k : Nat) : isTx 1 6 (.str (nm0 first stem k)) = true := by
  have e := nm0_list hf hs hl k
  refine tx_of ?_ ?_ ?_
  · rw [e, List.length_cons]; omega
  · rw [e, List.length_cons, List.length_take, ← len_cps, hs]; omega
  · rw [e, List.all_cons, Bool.and_eq_true]
    exact ⟨low_of (by omega), List.all_eq_true.mpr fun c hc => List.all_eq_true.mp hl c (List.mem_of_mem_take hc)⟩
theorem nm1_list (h0 : 0 ≤ spot) (h1 : spot < long) (h2 : long ≤ 6) (k : Nat) : (nm1 first stem long spot k).cps.toList = stem.cps.toList.take spot.toNat ++ (97 + ((first + 3 * (k : Int)) % 26).toNat) :: (stem.cps.toList.take long.toNat).drop (spot.toNat + 1) := by
  unfold nm1
  rw [cat_list, cat_list, cutS_to h0, cutS_between (by omega) (by omega), Int.zero_add]
  have e : (spot + 1).toNat = spot.toNat + 1 := by omega
  rw [e]
  simp
theorem nm1_inj (h0 : 0 ≤ spot) (h1 : spot < long) (h2 : long ≤ 6) {n : Nat} (hn : n ≤ 9) : ∀ i j, i < n → j < n → nm1 first stem long spot i = nm1 first stem long spot j → i = j := by
  intro i j hi hj e
  have e := congrArg (fun x : Str => x.cps.toList) e
  simp only [nm1_list hf hs hl h0 h1 h2] at e
  have e := List.append_cancel_left e
  injection e with e1 e2
  omega
theorem nm1_tx (h0 : 0 ≤ spot) (h1 : spot < long) (h2 : long ≤ 6) (k : Nat) : isTx 1 6 (.str (nm1 first stem long spot k)) = true := by
  have e := nm1_list hf hs hl h0 h1 h2 k
  refine tx_of ?_ ?_ ?_
  · rw [e, List.length_append, List.length_cons]; omega
  · rw [e, List.length_append, List.length_cons, List.length_take, List.length_drop, List.length_take, ← len_cps, hs]; omega
  · rw [e, List.all_append, List.all_cons, Bool.and_eq_true, Bool.and_eq_true]
    exact ⟨List.all_eq_true.mpr fun c hc => List.all_eq_true.mp hl c (List.mem_of_mem_take hc), low_of (by omega), List.all_eq_true.mpr fun c hc => List.all_eq_true.mp hl c (List.mem_of_mem_take (List.mem_of_mem_drop hc))⟩
omit hs hl in
theorem nm2_list (k : Nat) : (nm2 first k).cps.toList = List.replicate (k % 6 + 1) (97 + ((first + (k : Int) / 6) % 26).toNat) := by
  unfold nm2
  rw [Int.zero_add]
  have e : (1 + (k : Int) % 6).toNat = k % 6 + 1 := by omega
  rw [e]
  show ((List.replicate (k % 6 + 1) [97 + ((first + (k : Int) / 6) % 26).toNat]).flatten).toArray.toList = _
  simp
omit hs hl in
theorem nm2_inj {n : Nat} (hn : n ≤ 9) : ∀ i j, i < n → j < n → nm2 first i = nm2 first j → i = j := by
  intro i j hi hj e
  have e := congrArg (fun x : Str => x.cps.toList) e
  simp only [nm2_list hf] at e
  have e3 := congrArg List.length e
  rw [List.length_replicate, List.length_replicate] at e3
  rw [List.replicate_succ, List.replicate_succ] at e
  injection e with e1 e2
  omega
omit hs hl in
theorem nm2_tx (k : Nat) : isTx 1 6 (.str (nm2 first k)) = true := by
  have e := nm2_list hf k
  refine tx_of ?_ ?_ ?_
  · rw [e, List.length_replicate]; omega
  · rw [e, List.length_replicate]; omega
  · rw [e, List.all_eq_true]
    intro c hc
    rw [List.eq_of_mem_replicate hc]
    exact low_of (by omega)
end
end DL

/-! DL: a comprehension inside a comprehension. -/
namespace DL
open PySem PySem.Spec L2 PyProof

theorem relab_lookup (env : Env) : ∀ (names : List (Str × NameKind)) (x : Str), names.lookup x = some .cell ∨ names.lookup x = some .free →
    (names.map fun (n, k) => if (k == NameKind.free && env.scope.kind == .function && env.kindOf n == some .cell) then (n, NameKind.cell) else (n, k)).lookup x = some .cell ∨
    (names.map fun (n, k) => if (k == NameKind.free && env.scope.kind == .function && env.kindOf n == some .cell) then (n, NameKind.cell) else (n, k)).lookup x = some .free
  | [], _, h => by simp at h
  | (n, k) :: r, x, h => by
    have ih := relab_lookup env r x
    simp only [List.map_cons]
    cases hx : x == n with
    | true =>
      simp only [List.lookup_cons, hx] at h
      by_cases hc : (k == NameKind.free && env.scope.kind == .function && env.kindOf n == some .cell) = true
      · rw [if_pos hc]; exact .inl (by simp [List.lookup_cons, hx])
      · rw [if_neg hc]; simp only [List.lookup_cons, hx]; exact h
    | false =>
      simp only [List.lookup_cons, hx] at h
      by_cases hc : (k == NameKind.free && env.scope.kind == .function && env.kindOf n == some .cell) = true
      · rw [if_pos hc]; simp only [List.lookup_cons, hx]; exact ih h
      · rw [if_neg hc]; simp only [List.lookup_cons, hx]; exact ih h
theorem blkOk_in {N : List Str} {S scope : Scope} {own : List (Str × Nat)} {cl : List (Str × Addr)} {C : Addr} {env : Env} (h : BlkOk N S scope own) : BlkOk N (compEnvC S cl C env).scope scope own :=
  ⟨h.kind, h.uniq, h.ix, fun y hy e => relab_lookup env S.names y.1 (h.free y hy e), h.own⟩
end DL

/-! DL: against the empty, truths as numbers, str(), upper(). -/
namespace DL
open PySem PySem.Spec L2 PyProof

section
variable {X : Cx}
def rEmp (K : PySem.W.Frag) (neg : Bool) : R2 := fun x y H Q => ∃ a b vs, x = .ref a ∧ y = .ref b ∧ ((SqL K H a vs ∧ SqL K H b []) ∨ (SqT K H a vs ∧ SqT K H b [])) ∧ Q (.bl (if neg then !vs.isEmpty else vs.isEmpty)) H
theorem all_none (n : Nat) (h : n = 0) (e : Nat → Bool) : (List.range n).all e = true := by subst h; rfl
theorem op_emp (hu : X.A.units < cLine) : OpR X (compareOp .Eq) (rEmp X.K false) := by
  intro pins s σ H x y v u Q I rx ry h
  obtain ⟨a, b, vs, rfl, rfl, h, q⟩ := h
  cases rx; cases ry
  rcases h with ⟨h1, h2⟩ | ⟨h1, h2⟩
  · obtain ⟨its, r1, p1, _⟩ := I.list h1
    obtain ⟨its2, r2, p2, _⟩ := I.list h2
    cases r2
    cases vs with
    | nil =>
      cases r1
      exact SeqAt.eq_listAt (e := fun _ => true) p1.isList p2.isList rfl hu (fun j h1 _ => absurd h1 (by simp)) ⟨.bl _, H, I, rfl, q⟩
    | cons w r =>
      cases r1
      exact SeqAt.eq_list_lengthsAt p1.isList p2.isList (by simp) hu ⟨.bl _, H, I, rfl, q⟩
  · obtain ⟨its, r1, p1, _⟩ := I.tuple h1
    obtain ⟨its2, r2, p2, _⟩ := I.tuple h2
    cases r2
    cases vs with
    | nil =>
      cases r1
      exact SeqAt.eq_tupleAt (e := fun _ => true) p1 p2 hu (fun j h1 _ => absurd h1 (by simp)) ⟨.bl _, H, I, rfl, q⟩
    | cons w r =>
      cases r1
      refine SeqAt.eq_tupleAt (e := fun _ => true) p1 p2 hu (fun j _ h1 => absurd h1 (by simp)) ⟨.bl false, H, I, ?_, q⟩
      simp
      rfl
theorem op_empN (hu : X.A.units < cLine) : OpR X (compareOp .NotEq) (rEmp X.K true) := by
  intro pins s σ H x y v u Q I rx ry h
  obtain ⟨a, b, vs, rfl, rfl, h, q⟩ := h
  cases rx; cases ry
  rcases h with ⟨h1, h2⟩ | ⟨h1, h2⟩
  · obtain ⟨its, r1, p1, _⟩ := I.list h1
    obtain ⟨its2, r2, p2, _⟩ := I.list h2
    cases r2
    cases vs with
    | nil =>
      cases r1
      exact SeqAt.RcNeAt.lists (e := fun _ => true) p1.isList p2.isList rfl hu (fun j h1 _ => absurd h1 (by simp)) _ _ _ _ ⟨.bl _, H, I, rfl, q⟩
    | cons w r =>
      cases r1
      exact SeqAt.RcNeAt.lists_lengths p1.isList p2.isList (by simp) hu _ _ _ _ ⟨.bl _, H, I, rfl, q⟩
  · obtain ⟨its, r1, p1, _⟩ := I.tuple h1
    obtain ⟨its2, r2, p2, _⟩ := I.tuple h2
    cases r2
    cases vs with
    | nil =>
      cases r1
      exact SeqAt.RcNeAt.tuples (e := fun _ => true) p1 p2 hu (fun j h1 _ => absurd h1 (by simp)) _ _ _ _ ⟨.bl _, H, I, rfl, q⟩
    | cons w r =>
      cases r1
      refine SeqAt.RcNeAt.tuples (e := fun _ => true) p1 p2 hu (fun j _ h1 => absurd h1 (by simp)) _ _ _ _ ⟨.bl true, H, I, ?_, q⟩
      simp
      rfl
/-- == and != against () and [] -/
def fEmp (neg : Bool) : Fn := fun ρ rs C => match rs with
  | [.dat (.tuple ds), .dat (.tuple [])] => C (.bool (if neg then !ds.isEmpty else ds.isEmpty))
  | [r, .dat (.list [])] => ∃ ds, listOf ρ r = some ds ∧ C (.bool (if neg then !ds.isEmpty else ds.isEmpty))
  | _ => False
theorem emp_len {K : PySem.W.Frag} {H : Hp} {ds : List PyData} {vs : List V} (r : RepA K H ds vs) : vs.isEmpty = ds.isEmpty := by
  have e := r.length
  cases ds <;> cases vs <;> first | rfl | cases e
theorem od_empG {op : Value → Value → Sem Value} {neg : Bool} (h : OpR X op (rEmp X.K neg)) : OpD X op (fEmp neg) := opD_of h fun σ H x y B ρ r1 r2 C Q R k1 k2 q c => by
  unfold fEmp at q
  split at q
  · rename_i ds e
    cases e
    obtain ⟨a, vs, rfl, h1, ra⟩ := rtup k1
    obtain ⟨b, us, rfl, h2, rb⟩ := rtup k2
    have : us = [] := by cases us with | nil => rfl | cons _ _ => have e := rb.length; cases e
    subst this
    exact ⟨a, b, vs, rfl, rfl, .inr ⟨h1, h2⟩, by rw [emp_len ra]; exact c _ _ H q (same_refl H) (pbool _ _ _)⟩
  · rename_i r e
    cases e
    obtain ⟨ds, el, q⟩ := q
    obtain ⟨a, vs, rfl, h1, ra⟩ := sql_now R k1 el
    obtain ⟨b, us, rfl, h2, rb⟩ := sql_now (r := .dat (.list [])) R k2 rfl
    have : us = [] := by cases us with | nil => rfl | cons _ _ => have e := rb.length; cases e
    subst this
    exact ⟨a, b, vs, rfl, rfl, .inl ⟨h1, h2⟩, by rw [emp_len ra]; exact c _ _ H q (same_refl H) (pbool _ _ _)⟩
  · exact q.elim
theorem od_emp (hu : X.A.units + 64 < cLine) : OpD X (compareOp .Eq) (fEmp false) := od_empG (op_emp (by omega))
theorem od_empN (hu : X.A.units + 64 < cLine) : OpD X (compareOp .NotEq) (fEmp true) := od_empG (op_empN (by omega))
theorem fEmp_tup (neg : Bool) (ρ : Rho) (ds : List PyData) (C : PyData → Prop) : fEmp neg ρ [.dat (.tuple ds), .dat (.tuple [])] C = C (.bool (if neg then !ds.isEmpty else ds.isEmpty)) := rfl
theorem fEmp_own (neg : Bool) (ρ : Rho) (i : Nat) (C : PyData → Prop) : fEmp neg ρ [.own i, .dat (.list [])] C = ∃ ds, listOf ρ (.own i) = some ds ∧ C (.bool (if neg then !ds.isEmpty else ds.isEmpty)) := rfl
theorem fEmp_list (neg : Bool) (ρ : Rho) (ds : List PyData) (C : PyData → Prop) : fEmp neg ρ [.dat (.list ds), .dat (.list [])] C = C (.bool (if neg then !ds.isEmpty else ds.isEmpty)) := by
  apply propext
  constructor
  · rintro ⟨ds', e, h⟩
    cases e
    exact h
  · exact fun h => ⟨ds, rfl, h⟩

/-! ### truths as numbers -/
def bI (b : Bool) : Int := if b = true then 1 else 0
def rBI (g : Int → Int → V) : R2 := fun x y H Q => ∃ b i, x = .bl b ∧ y = .int i ∧ Q (g (bI b) i) H
def rIB (g : Int → Int → V) : R2 := fun x y H Q => ∃ i b, x = .int i ∧ y = .bl b ∧ Q (g i (bI b)) H
theorem op_add_bi : OpR X (binaryOp .Add) (rBI fun i j => .int (i + j)) := by
  intro pins s σ H x y v u Q I rx ry h
  obtain ⟨b, i, rfl, rfl, q⟩ := h
  cases rx
  obtain ⟨t, rfl⟩ := ry
  exact PySem.IntBool.add_bool_int ⟨.int _, H, I.tok _, ⟨_, rfl⟩, q⟩
theorem op_sub_bi : OpR X (binaryOp .Sub) (rBI fun i j => .int (i - j)) := by
  intro pins s σ H x y v u Q I rx ry h
  obtain ⟨b, i, rfl, rfl, q⟩ := h
  cases rx
  obtain ⟨t, rfl⟩ := ry
  exact PySem.IntBool.sub_bool_int ⟨.int _, H, I.tok _, ⟨_, rfl⟩, q⟩
theorem op_mul_bi : OpR X (binaryOp .Mult) (rBI fun i j => .int (i * j)) := by
  intro pins s σ H x y v u Q I rx ry h
  obtain ⟨b, i, rfl, rfl, q⟩ := h
  cases rx
  obtain ⟨t, rfl⟩ := ry
  exact PySem.IntBool.mul_bool_int ⟨.int _, H, I.tok _, ⟨_, rfl⟩, q⟩
theorem op_sub_ib : OpR X (binaryOp .Sub) (rIB fun i j => .int (i - j)) := by
  intro pins s σ H x y v u Q I rx ry h
  obtain ⟨i, b, rfl, rfl, q⟩ := h
  obtain ⟨t, rfl⟩ := rx
  cases ry
  exact PySem.IntBool.sub_int_bool ⟨.int _, H, I.tok _, ⟨_, rfl⟩, q⟩
/-- what counts as a number -/
def numI : PyData → Option Int
  | .int i => some i
  | .bool b => some (bI b)
  | _ => none
theorem od_addI : OpD X (binaryOp .Add) (fun ρ rs C => ∃ (b : Bool) (i : Int), rs = [.dat (.bool b), .dat (.int i)] ∧ C (.int (bI b + i))) := opD_of op_add_bi fun σ H x y B ρ r1 r2 C Q R k1 k2 q c => by
  obtain ⟨b, i, e, q⟩ := q
  cases e
  exact ⟨b, i, rbool k1, rint k2, c _ _ H q (same_refl H) (pint _ _ _)⟩
theorem od_subI : OpD X (binaryOp .Sub) (fun ρ rs C => ∃ (b : Bool) (i : Int), rs = [.dat (.bool b), .dat (.int i)] ∧ C (.int (bI b - i))) := opD_of op_sub_bi fun σ H x y B ρ r1 r2 C Q R k1 k2 q c => by
  obtain ⟨b, i, e, q⟩ := q
  cases e
  exact ⟨b, i, rbool k1, rint k2, c _ _ H q (same_refl H) (pint _ _ _)⟩
theorem od_mulI : OpD X (binaryOp .Mult) (fun ρ rs C => ∃ (b : Bool) (i : Int), rs = [.dat (.bool b), .dat (.int i)] ∧ C (.int (bI b * i))) := opD_of op_mul_bi fun σ H x y B ρ r1 r2 C Q R k1 k2 q c => by
  obtain ⟨b, i, e, q⟩ := q
  cases e
  exact ⟨b, i, rbool k1, rint k2, c _ _ H q (same_refl H) (pint _ _ _)⟩
theorem od_subJ : OpD X (binaryOp .Sub) (fun ρ rs C => ∃ (i : Int) (b : Bool), rs = [.dat (.int i), .dat (.bool b)] ∧ C (.int (i - bI b))) := opD_of op_sub_ib fun σ H x y B ρ r1 r2 C Q R k1 k2 q c => by
  obtain ⟨i, b, e, q⟩ := q
  cases e
  exact ⟨i, b, rint k1, rbool k2, c _ _ H q (same_refl H) (pint _ _ _)⟩
theorem OpD.or {op : Value → Value → Sem Value} {f g : Fn} (h : OpD X op f) (h' : OpD X op g) : OpD X op (fun ρ rs C => f ρ rs C ∨ g ρ rs C) := by
  intro pins s σ H x y v u Q B ρ r1 r2 C I rx ry R k1 k2 q c
  rcases q with q | q
  · exact h pins s σ H x y v u Q B ρ r1 r2 C I rx ry R k1 k2 q c
  · exact h' pins s σ H x y v u Q B ρ r1 r2 C I rx ry R k1 k2 q c
theorem OpD.imp {op : Value → Value → Sem Value} {f g : Fn} (h : OpD X op f) (i : ∀ ρ rs C, g ρ rs C → f ρ rs C) : OpD X op g :=
  fun pins s σ H x y v u Q B ρ r1 r2 C I rx ry R k1 k2 q c => h pins s σ H x y v u Q B ρ r1 r2 C I rx ry R k1 k2 (i _ _ _ q) c
def fAddB : Fn := fun ρ rs C => match rs with
  | [.dat (.bool b), .dat (.int i)] => C (.int (bI b + i))
  | rs => fAdd ρ rs C
def fSubB : Fn := fun ρ rs C => match rs with
  | [.dat (.bool b), .dat (.int i)] => C (.int (bI b - i))
  | [.dat (.int i), .dat (.bool b)] => C (.int (i - bI b))
  | rs => fSub ρ rs C
def fMulB : Fn := fun ρ rs C => match rs with
  | [.dat (.bool b), .dat (.int i)] => C (.int (bI b * i))
  | rs => fMul ρ rs C
theorem od_addB : OpD X (binaryOp .Add) fAddB := (od_addI.or od_add).imp fun ρ rs C h => by
  unfold fAddB at h
  split at h
  · exact .inl ⟨_, _, rfl, h⟩
  · exact .inr h
theorem od_subB : OpD X (binaryOp .Sub) fSubB := (od_subI.or (od_subJ.or od_sub)).imp fun ρ rs C h => by
  unfold fSubB at h
  split at h
  · exact .inl ⟨_, _, rfl, h⟩
  · exact .inr (.inl ⟨_, _, rfl, h⟩)
  · exact .inr (.inr h)
theorem od_mulB : OpD X (binaryOp .Mult) fMulB := (od_mulI.or od_mul).imp fun ρ rs C h => by
  unfold fMulB at h
  split at h
  · exact .inl ⟨_, _, rfl, h⟩
  · exact .inr h
theorem op_eq_bi : OpR X (compareOp .Eq) (rBI fun i j => .bl (i == j)) := by
  intro pins s σ H x y v u Q I rx ry h
  obtain ⟨b, i, rfl, rfl, q⟩ := h
  cases rx
  obtain ⟨t, rfl⟩ := ry
  exact PySem.EqBoolInt.eq_bool_int ⟨.bl _, H, I, rfl, q⟩
def fEqI : Fn := fun ρ rs C => match rs with
  | [.dat (.bool b), .dat (.int i)] => C (.bool (bI b == i))
  | rs => fEq ρ rs C
theorem od_eqI0 : OpD X (compareOp .Eq) (fun ρ rs C => ∃ (b : Bool) (i : Int), rs = [.dat (.bool b), .dat (.int i)] ∧ C (.bool (bI b == i))) := opD_of op_eq_bi fun σ H x y B ρ r1 r2 C Q R k1 k2 q c => by
  obtain ⟨b, i, e, q⟩ := q
  cases e
  exact ⟨b, i, rbool k1, rint k2, c _ _ H q (same_refl H) (pbool _ _ _)⟩
theorem od_eqI (hu : X.A.units + 64 < cLine) : OpD X (compareOp .Eq) fEqI := (od_eqI0.or (od_eq hu)).imp fun ρ rs C h => by
  unfold fEqI at h
  split at h
  · exact .inl ⟨_, _, rfl, h⟩
  · exact .inr h

/-! ### str(), upper() -/
theorem call_str_bool : CallR X (.type "str") (fun xs H Q => ∃ b, xs = [.bl b] ∧ Q (.str (if b then "True" else "False")) H) := by
  intro pins s σ H xs us Q I r h
  obtain ⟨b, rfl, q⟩ := h
  obtain ⟨u, rfl, rx⟩ := vals1 r
  cases rx
  exact PySem.P.str_of_bool ⟨.str _, H, I.tok _, ⟨_, rfl⟩, q⟩
def fStr : Fn := fun ρ rs C => match rs with
  | [.dat (.int i)] => i.natAbs.log2 < 1920 ∧ C (.str (toString i))
  | [.dat (.bool b)] => C (.str (if b then "True" else "False"))
  | _ => False
theorem fr_str : FnR X (.type "str") fStr := fnR_of (call_str_int.or call_str_bool) fun σ H vs B ρ rs C Q R k q c => by
  unfold fStr at q
  split at q
  · rename_i i
    obtain ⟨v, rfl, k1⟩ := k.one
    exact .inl ⟨i, by rw [rint k1], q.1, c _ _ H q.2 (same_refl H) (pstr _ _ _)⟩
  · rename_i b
    obtain ⟨v, rfl, k1⟩ := k.one
    exact .inr ⟨b, by rw [rbool k1], c _ _ H q (same_refl H) (pstr _ _ _)⟩
  · exact q.elim
theorem mt_upper : MtR X "str.upper" (fun x xs H Q => ∃ a, x = .str a ∧ xs = [] ∧ a.length ≤ 5592405 ∧ Q (.str (Txt.upper a)) H) := by
  intro pins s σ H x xs v us Q I rx rs h
  obtain ⟨a, rfl, rfl, hz, q⟩ := h
  obtain ⟨t, rfl⟩ := rx
  cases rs
  exact PySem.SC.upper (PyProof.Rows.short24 (by have := PyProof.Rows.len_upper a; omega)) ⟨.str _, H, I.tok _, ⟨_, rfl⟩, q⟩
def dUpper (to : DTE) : DTE := fun ρ Q => to ρ fun r ρ1 => ∃ z : Str, r = .dat (.str z) ∧ z.length ≤ 5592405 ∧ Q (.dat (.str (Txt.upper z))) ρ1
theorem de_upper {o : Expr} {to : DTE} {apos cpos : Pos} (ho : DE X o to) (hbase : attributeBase o "upper" X.env (eval o X.env) = eval o X.env := by rfl) (hline : (apos.endLine == cpos.line) = true := by rfl) :
    DE X (.Call (.Attribute o "upper" apos) [] [] cpos) (dUpper to) := pe_imp (pe_bm0 PySem.F.plainAttrs_str PySem.F.slot_str_upper PySem.F.type_str_upper mt_upper ho hbase hline) fun σ H Q ⟨B, ρ, Q0, R, q, k⟩ => by
  refine ⟨B, ρ, _, R, q, fun r ρ1 v H1 q1 R1 k1 s1 => ?_⟩
  obtain ⟨z, rfl, hz, q1⟩ := q1
  rw [rstr k1]
  exact ⟨rfl, z, rfl, rfl, hz, k _ ρ1 _ H1 q1 R1 (qstr _ _ _ _) s1⟩
end
end DL

/-! DL: data that is spoilt step by step: its size, depth, numbers and texts. -/
namespace DL
open PySem PySem.Spec L2

mutual
def okT (t : Nat) : PyData → Bool
  | .int i => decide (-(10 ^ 39 + 10 ^ 12 * (t : Int)) ≤ i) && decide (i ≤ 10 ^ 39 + 10 ^ 12 * (t : Int))
  | .str x => x.cps.toList.all fun c => decide (c < 128)
  | .list xs => okTA t xs
  | .tuple xs => okTA t xs
  | .dict kvs => kvs.isEmpty
  | .none => true
  | .bool _ => true
def okTA (t : Nat) : List PyData → Bool
  | [] => true
  | x :: xs => okT t x && okTA t xs
end
theorem okTA_iff {t : Nat} {xs : List PyData} : okTA t xs = true ↔ ∀ x ∈ xs, okT t x = true := by
  induction xs with
  | nil => exact ⟨fun _ x h => (nomatch h), fun _ => rfl⟩
  | cons x xs ih =>
    rw [okTA, Bool.and_eq_true, ih]
    exact ⟨fun h y hy => (List.mem_cons.mp hy).elim (fun e => e ▸ h.1) (h.2 y), fun h => ⟨h x List.mem_cons_self, fun y hy => h y (List.mem_cons_of_mem _ hy)⟩⟩
/-- how much a list's items weigh -/
def bk (xs : List PyData) : Nat := (xs.map fun x => x.bulk + 1).sum
theorem bk_eq : ∀ xs : List PyData, PyData.bulkAll xs = bk xs
  | [] => rfl
  | x :: xs => by rw [PyData.bulkAll, bk_eq xs]; unfold bk; rw [List.map_cons, List.sum_cons]
theorem bk_app (xs ys : List PyData) : bk (xs ++ ys) = bk xs + bk ys := by unfold bk; rw [List.map_append, List.sum_append]
theorem bk_cons (x : PyData) (xs : List PyData) : bk (x :: xs) = x.bulk + 1 + bk xs := by unfold bk; rw [List.map_cons, List.sum_cons]
theorem bk_nil : bk [] = 0 := rfl
theorem bk_sub {xs ys : List PyData} (h : xs.Sublist ys) : bk xs ≤ bk ys := by
  induction h with
  | slnil => exact Nat.le_refl _
  | cons a _ ih => rw [bk_cons]; omega
  | cons_cons a _ ih => rw [bk_cons, bk_cons]; omega
theorem bk_perm {xs ys : List PyData} (h : xs.Perm ys) : bk xs = bk ys := (h.map _).sum_nat
theorem bk_mem {x : PyData} {xs : List PyData} (h : x ∈ xs) : x.bulk + 1 ≤ bk xs := by
  have q := bk_sub (List.singleton_sublist.mpr h)
  rw [bk_cons, bk_nil] at q
  omega
theorem bk_len (xs : List PyData) : xs.length ≤ bk xs := by
  induction xs with
  | nil => exact Nat.le_refl _
  | cons x xs ih => rw [bk_cons, List.length_cons]; omega
theorem dp_all {xs : List PyData} {n : Nat} : PyData.depthAll xs ≤ n ↔ ∀ x ∈ xs, x.depth ≤ n := by
  induction xs with
  | nil => exact ⟨fun _ x h => (nomatch h), fun _ => Nat.zero_le _⟩
  | cons x xs ih =>
    rw [PyData.depthAll]
    constructor
    · intro h y hy
      rcases List.mem_cons.mp hy with rfl | hy
      · omega
      · exact ih.mp (by omega) y hy
    · intro h
      have h1 := h x List.mem_cons_self
      have h2 := ih.mpr fun y hy => h y (List.mem_cons_of_mem _ hy)
      omega
structure Sp (t B n : Nat) (d : PyData) : Prop where
  ok : okT t d = true
  bk : d.bulk ≤ B
  dp : d.depth ≤ n
structure SpA (t B n : Nat) (xs : List PyData) : Prop where
  ok : ∀ x ∈ xs, okT t x = true ∧ x.depth ≤ n
  wt : DL.bk xs ≤ B
section
variable {t B n t' B' n' : Nat} {d x : PyData} {xs ys : List PyData}
theorem okT_int_le {i : Int} (h : okT t (.int i) = true) (ht : t ≤ t') : okT t' (.int i) = true := by
  rw [okT, Bool.and_eq_true, decide_eq_true_eq, decide_eq_true_eq] at h ⊢
  omega
mutual
theorem okT_le (ht : t ≤ t') : ∀ d, okT t d = true → okT t' d = true
  | .int i, h => okT_int_le h ht
  | .str x, h => by rw [okT] at h ⊢; exact h
  | .list xs, h => by rw [okT] at h ⊢; exact okTA_le ht xs h
  | .tuple xs, h => by rw [okT] at h ⊢; exact okTA_le ht xs h
  | .dict kvs, h => by rw [okT] at h ⊢; exact h
  | .none, _ => rfl
  | .bool _, _ => rfl
theorem okTA_le (ht : t ≤ t') : ∀ xs, okTA t xs = true → okTA t' xs = true
  | [], _ => rfl
  | x :: xs, h => by
    rw [okTA, Bool.and_eq_true] at h ⊢
    exact ⟨okT_le ht x h.1, okTA_le ht xs h.2⟩
end
theorem Sp.le (h : Sp t B n d) (h0 : t ≤ t') (h1 : B ≤ B') (h2 : n ≤ n') : Sp t' B' n' d := ⟨okT_le h0 d h.ok, Nat.le_trans h.bk h1, Nat.le_trans h.dp h2⟩
theorem SpA.le (h : SpA t B n xs) (h0 : t ≤ t') (h1 : B ≤ B') (h2 : n ≤ n') : SpA t' B' n' xs := ⟨fun x hx => ⟨okT_le h0 x (h.ok x hx).1, Nat.le_trans (h.ok x hx).2 h2⟩, Nat.le_trans h.wt h1⟩
theorem Sp.none : Sp t B n .none := ⟨rfl, Nat.zero_le _, Nat.zero_le _⟩
theorem Sp.bool (b : Bool) : Sp t B n (.bool b) := ⟨rfl, Nat.zero_le _, Nat.zero_le _⟩
theorem Sp.int {i : Int} (h : -(10 ^ 39 + 10 ^ 12 * (t : Int)) ≤ i ∧ i ≤ 10 ^ 39 + 10 ^ 12 * (t : Int)) : Sp t B n (.int i) := by
  refine ⟨?_, Nat.zero_le _, Nat.zero_le _⟩
  rw [okT, Bool.and_eq_true, decide_eq_true_eq, decide_eq_true_eq]
  exact h
theorem Sp.int_of {i : Int} (h : Sp t B n (.int i)) : -(10 ^ 39 + 10 ^ 12 * (t : Int)) ≤ i ∧ i ≤ 10 ^ 39 + 10 ^ 12 * (t : Int) := by
  have q := h.ok
  rw [okT, Bool.and_eq_true, decide_eq_true_eq, decide_eq_true_eq] at q
  exact q
theorem Sp.str {x : Str} (h : ∀ c ∈ x.cps.toList, c < 128) (hl : x.length ≤ B) : Sp t B n (.str x) := by
  refine ⟨?_, hl, Nat.zero_le _⟩
  rw [okT, List.all_eq_true]
  exact fun c hc => decide_eq_true (h c hc)
theorem Sp.str_of {x : Str} (h : Sp t B n (.str x)) : (∀ c ∈ x.cps.toList, c < 128) ∧ x.length ≤ B := by
  have q := h.ok
  rw [okT, List.all_eq_true] at q
  exact ⟨fun c hc => of_decide_eq_true (q c hc), h.bk⟩
theorem Sp.tup (h : SpA t B n xs) : Sp t B (n + 1) (.tuple xs) := by
  refine ⟨?_, ?_, ?_⟩
  · rw [okT, okTA_iff]; exact fun x hx => (h.ok x hx).1
  · rw [PyData.bulk, bk_eq]; exact h.wt
  · have q := dp_all.mpr fun x hx => (h.ok x hx).2
    rw [PyData.depth]; omega
theorem Sp.lst (h : SpA t B n xs) : Sp t B (n + 1) (.list xs) := by
  refine ⟨?_, ?_, ?_⟩
  · rw [okT, okTA_iff]; exact fun x hx => (h.ok x hx).1
  · rw [PyData.bulk, bk_eq]; exact h.wt
  · have q := dp_all.mpr fun x hx => (h.ok x hx).2
    rw [PyData.depth]; omega
theorem Sp.tup_of (h : Sp t B n (.tuple xs)) : ∃ m, n = m + 1 ∧ SpA t B m xs := by
  have h1 := h.ok
  have h2 := h.bk
  have h3 := h.dp
  rw [okT, okTA_iff] at h1
  rw [PyData.bulk, bk_eq] at h2
  rw [PyData.depth] at h3
  refine ⟨n - 1, by omega, fun x hx => ⟨h1 x hx, dp_all.mp (show PyData.depthAll xs ≤ n - 1 by omega) x hx⟩, h2⟩
theorem Sp.dict0 : Sp t B (n + 1) (.dict []) := ⟨rfl, Nat.zero_le _, by simp [PyData.depth, PyData.depthKv]⟩
theorem SpA.nil : SpA t B n [] := ⟨fun x hx => (nomatch hx), Nat.zero_le _⟩
theorem SpA.cons (h : Sp t B n d) (r : SpA t B' n xs) : SpA t (B + 1 + B') n (d :: xs) := by
  refine ⟨fun x hx => ?_, ?_⟩
  · rcases List.mem_cons.mp hx with rfl | hx
    · exact ⟨h.ok, h.dp⟩
    · exact r.ok x hx
  · rw [bk_cons]
    have := h.bk
    have := r.wt
    omega
theorem SpA.app (h : SpA t B n xs) (r : SpA t B' n ys) : SpA t (B + B') n (xs ++ ys) := by
  refine ⟨fun x hx => ?_, ?_⟩
  · rcases List.mem_append.mp hx with hx | hx
    · exact h.ok x hx
    · exact r.ok x hx
  · rw [bk_app]
    have := h.wt
    have := r.wt
    omega
theorem SpA.sub (h : SpA t B n ys) (s : xs.Sublist ys) : SpA t B n xs := ⟨fun x hx => h.ok x (s.subset hx), Nat.le_trans (bk_sub s) h.wt⟩
theorem SpA.perm (h : SpA t B n ys) (s : xs.Perm ys) : SpA t B n xs := ⟨fun x hx => h.ok x (s.mem_iff.mp hx), by rw [bk_perm s]; exact h.wt⟩
theorem SpA.at (h : SpA t B n xs) (hx : x ∈ xs) : Sp t x.bulk n x ∧ x.bulk + 1 ≤ B := ⟨⟨(h.ok x hx).1, Nat.le_refl _, (h.ok x hx).2⟩, Nat.le_trans (bk_mem hx) h.wt⟩
theorem SpA.len (h : SpA t B n xs) : xs.length ≤ B := Nat.le_trans (bk_len xs) h.wt
/-- a list with one item changed -/
theorem SpA.put {k : Nat} (h : SpA t B n xs) (hk : xs[k]? = some x) (hd : Sp t' B' n' d) (h0 : t ≤ t') (h2 : n ≤ n') : SpA t' (B - x.bulk + B') n' (xs.take k ++ d :: xs.drop (k + 1)) := by
  obtain ⟨hlt, rfl⟩ := List.getElem?_eq_some_iff.mp hk
  have e : xs = xs.take k ++ xs[k] :: xs.drop (k + 1) := by
    rw [← List.drop_eq_getElem_cons hlt, List.take_append_drop]
  have eb : bk xs = bk (xs.take k) + (xs[k].bulk + 1 + bk (xs.drop (k + 1))) := by
    rw [← bk_cons, ← bk_app, ← e]
  have hb := h.wt
  refine ⟨fun y hy => ?_, ?_⟩
  · rcases List.mem_append.mp hy with hy | hy
    · have := h.ok y (List.mem_of_mem_take hy)
      exact ⟨okT_le h0 y this.1, Nat.le_trans this.2 h2⟩
    · rcases List.mem_cons.mp hy with rfl | hy
      · exact ⟨hd.ok, hd.dp⟩
      · have := h.ok y (List.mem_of_mem_drop hy)
        exact ⟨okT_le h0 y this.1, Nat.le_trans this.2 h2⟩
  · rw [bk_app, bk_cons]
    have := hd.bk
    omega
end
/-! what it may be shown, and read -/
theorem ascii_lt {x : Str} (h : ∀ c ∈ x.cps.toList, c < 128) : cpsOk x = true := cps_of fun c hc => by have := h c hc; omega
section
variable {t : Nat}
mutual
theorem okT_sh (ht : t ≤ 1000) : ∀ d, okT t d = true → d.showable = true ∧ d.leavesShort 50 = true
  | .int i, h => by
    have h : Sp t 0 0 (.int i) := ⟨h, Nat.zero_le _, Nat.zero_le _⟩
    have q := h.int_of
    have s : Sd 0 0 (.int i) := Sd.int (by omega)
    exact ⟨s.sh, s.ls⟩
  | .str x, h => by
    have h : Sp t x.length 0 (.str x) := ⟨h, Nat.le_refl _, Nat.zero_le _⟩
    have q := h.str_of
    have s : Sd x.length 0 (.str x) := Sd.str (ascii_lt q.1) q.2
    exact ⟨s.sh, s.ls⟩
  | .list xs, h => by
    rw [okT] at h
    have q := okTA_sh ht xs h
    exact ⟨by rw [PyData.showable]; exact q.1, by rw [PyData.leavesShort]; exact q.2⟩
  | .tuple xs, h => by
    rw [okT] at h
    have q := okTA_sh ht xs h
    exact ⟨by rw [PyData.showable]; exact q.1, by rw [PyData.leavesShort]; exact q.2⟩
  | .dict kvs, h => by
    rw [okT] at h
    have e : kvs = [] := List.isEmpty_iff.mp h
    subst e
    exact ⟨rfl, rfl⟩
  | .none, _ => ⟨rfl, rfl⟩
  | .bool _, _ => ⟨rfl, rfl⟩
theorem okTA_sh (ht : t ≤ 1000) : ∀ xs, okTA t xs = true → PyData.showableAll xs = true ∧ PyData.leavesShortAll 50 xs = true
  | [], _ => ⟨rfl, rfl⟩
  | x :: xs, h => by
    rw [okTA, Bool.and_eq_true] at h
    have a := okT_sh ht x h.1
    have b := okTA_sh ht xs h.2
    exact ⟨by rw [PyData.showableAll, a.1, b.1]; rfl, by rw [PyData.leavesShortAll, a.2, b.2]; rfl⟩
end
end
theorem Sp.sd {t B n : Nat} {d : PyData} (h : Sp t B n d) (ht : t ≤ 1000 := by omega) : Sd B n d := ⟨(okT_sh ht d h.ok).1, (okT_sh ht d h.ok).2, h.dp, h.bk⟩
section
variable {t B : Nat}
mutual
theorem okT_ts (hB : B ≤ 10000) : ∀ d, okT t d = true → d.bulk ≤ B → tsB d = true
  | .int i, _, _ => rfl
  | .str x, h, hb => by
    have h : Sp t B 0 (.str x) := ⟨h, hb, Nat.zero_le _⟩
    have q := h.str_of
    exact tsB_str.mpr ⟨by omega, ascii_lt q.1⟩
  | .list xs, h, hb => by
    rw [okT] at h
    rw [PyData.bulk] at hb
    rw [tsB]
    exact okTA_ts hB xs h hb
  | .tuple xs, h, hb => by
    rw [okT] at h
    rw [PyData.bulk] at hb
    rw [tsB]
    exact okTA_ts hB xs h hb
  | .dict kvs, h, _ => by
    rw [okT] at h
    have e : kvs = [] := List.isEmpty_iff.mp h
    subst e
    rfl
  | .none, _, _ => rfl
  | .bool _, _, _ => rfl
theorem okTA_ts (hB : B ≤ 10000) : ∀ xs, okTA t xs = true → PyData.bulkAll xs ≤ B → tsBA xs = true
  | [], _, _ => rfl
  | x :: xs, h, hb => by
    rw [okTA, Bool.and_eq_true] at h
    rw [PyData.bulkAll] at hb
    rw [tsBA, okT_ts hB x h.1 (by omega), okTA_ts hB xs h.2 (by omega)]
    rfl
end
end
theorem Sp.ts {t B n : Nat} {d : PyData} (h : Sp t B n d) (hB : B ≤ 10000 := by omega) : tsB d = true := okT_ts hB d h.ok h.bk
/-! texts of digits -/
theorem int_txt (i : Int) : ∀ c ∈ (Str.ofString (toString i)).cps.toList, c < 128 := fun c hc => by
  have e : (Str.ofString (toString i)).cps.toList = (toString i).toList.map Char.toNat := by
    rw [Str.ofString_eq_toList]
  rw [e] at hc
  obtain ⟨ch, h1, rfl⟩ := List.mem_map.mp hc
  exact PySem.int_ascii i ch h1
theorem up_txt {x : Str} (h : ∀ c ∈ x.cps.toList, c < 128) : (∀ c ∈ (Txt.upper x).cps.toList, c < 128) ∧ (Txt.upper x).length = x.length := by
  rw [PyProof.Rows.upper_ascii h]
  refine ⟨fun c hc => ?_, ?_⟩
  · have hc : c ∈ (x.cps.map PyProof.Rows.up1).toList := hc
    rw [Array.toList_map] at hc
    obtain ⟨b, hb, rfl⟩ := List.mem_map.mp hc
    have := h b hb
    unfold PyProof.Rows.up1
    split <;> omega
  · show (x.cps.map PyProof.Rows.up1).size = x.cps.size
    exact Array.size_map
end DL

/-! DL: comprehensions that must be empty; columns of anything, once more. -/
namespace DL
open PySem PySem.Spec L2

theorem fmn_empty {α β : Type} (P : α → Bool) (g : α → β) : ∀ l : List α, (l.filterMap fun x => if P x = true then none else some (g x)).isEmpty = l.all P
  | [] => rfl
  | x :: l => by
    rw [List.filterMap_cons, List.all_cons, ← fmn_empty P g l]
    cases h : P x <;> simp
theorem fms_empty {α β : Type} (P : α → Bool) (g : α → β) : ∀ l : List α, (l.filterMap fun x => if P x = true then some (g x) else none).isEmpty = l.all fun x => !P x
  | [] => rfl
  | x :: l => by
    rw [List.filterMap_cons, List.all_cons, ← fms_empty P g l]
    cases h : P x <;> simp
/-- a column, its number of any size -/
structure ColW (c : Colm) : Prop where
  n0 : 0 < c.n
  s : isTx 1 6 (.str c.s) = true
  k : kindS c.k
  f : fitsK c.k c.f = true
theorem cols_of : ∀ {xs : List PyData}, xs.all isColB = true → ∃ cs : List Colm, xs = cs.map colD ∧ ∀ c ∈ cs, ColW c
  | [], _ => ⟨[], rfl, fun c hc => (nomatch hc)⟩
  | x :: xs, h => by
    rw [List.all_cons, Bool.and_eq_true] at h
    obtain ⟨cs, rfl, hc⟩ := cols_of h.2
    obtain ⟨n, s, k, f, rfl, h1, h2, h3, h4⟩ := isColB_iff.mp h.1
    obtain ⟨z, rfl, _⟩ := tx_small (by decide) h2
    exact ⟨⟨n, z, k, f⟩ :: cs, rfl, fun c h => (List.mem_cons.mp h).elim (fun e => by subst e; exact ⟨h1, h2, h3, h4⟩) (hc c)⟩
theorem uniq0 (cs : List Colm) : uniq 0 (cs.map colD) = true ↔ (cs.map (·.n)).Nodup := by
  unfold uniq
  rw [decide_eq_true_eq]
  have e : (cs.map colD).map (fun c => keyD (atP 0 c)) = cs.map fun c => (Sum.inl c.n : Key) := by rw [List.map_map]; rfl
  rw [e]
  have q := dist_eq (cs.map fun c => (Sum.inl c.n : Key))
  rw [List.length_map] at q ⊢
  rw [q]
  exact ⟨fun h => nodup_map_inj h fun a _ b _ e => by rw [e], fun h => nodup_map_inj h fun a _ b _ e => by injection e⟩
theorem uniq1 (cs : List Colm) : uniq 1 (cs.map colD) = true ↔ (cs.map (·.s)).Nodup := by
  unfold uniq
  rw [decide_eq_true_eq]
  have e : (cs.map colD).map (fun c => keyD (atP 1 c)) = cs.map fun c => (Sum.inr c.s : Key) := by rw [List.map_map]; rfl
  rw [e]
  have q := dist_eq (cs.map fun c => (Sum.inr c.s : Key))
  rw [List.length_map] at q ⊢
  rw [q]
  exact ⟨fun h => nodup_map_inj h fun a _ b _ e => by rw [e], fun h => nodup_map_inj h fun a _ b _ e => by injection e⟩
/-- rows, place by place -/
theorem row_range {cs : List Colm} {xs : List PyData} (h : xs.length = cs.length) : ((List.range cs.length).all fun k => fitsK (cs.getD k ⟨0, "", "", .none⟩).k (xs.getD k .none)) = (List.zip cs xs).all fun p => fitsK p.1.k p.2 := by
  induction cs generalizing xs with
  | nil => rfl
  | cons c cs ih =>
    cases xs with
    | nil => cases h
    | cons x xs =>
      rw [List.length_cons, List.range_succ_eq_map, List.all_cons, List.all_map, List.zip_cons_cons, List.all_cons, ← ih (by simpa using h)]
      rfl
theorem nodup_snoc {α : Type} {l : List α} {x : α} : (l ++ [x]).Nodup ↔ l.Nodup ∧ x ∉ l := by
  rw [List.nodup_append]
  constructor
  · rintro ⟨h1, _, h2⟩
    exact ⟨h1, fun hx => h2 x hx x (by simp) rfl⟩
  · rintro ⟨h1, h2⟩
    exact ⟨h1, by simp, fun a ha b hb e => by rw [List.mem_singleton.mp hb] at e; exact h2 (e ▸ ha)⟩
def isNm (lo hi : Int) : PyData → Bool
  | .int i => decide (lo ≤ i) && decide (i ≤ hi)
  | _ => false
theorem nm_pos {t : Nat} {n : PyData} (ht : t ≤ 10) (h : okT t n = true) : isNm 1 1000000000000000000000000000000000000000000000000000000000000 n = posD n := by
  cases n with
  | int i =>
    have h : Sp t 0 0 (.int i) := ⟨h, Nat.zero_le _, Nat.zero_le _⟩
    have q := h.int_of
    show (decide (1 ≤ i) && decide (i ≤ 1000000000000000000000000000000000000000000000000000000000000)) = decide (0 < i)
    rw [Bool.eq_iff_iff, Bool.and_eq_true, decide_eq_true_eq, decide_eq_true_eq, decide_eq_true_eq]
    omega
  | _ => rfl
section
variable (ρ : Rho) (i j : Int) (b : Bool) (x y : Str) (xs ys : List PyData) (C : PyData → Prop)
theorem fAddB_ii : fAddB ρ [.dat (.int i), .dat (.int j)] C = C (.int (i + j)) := rfl
theorem fAddB_bi : fAddB ρ [.dat (.bool b), .dat (.int j)] C = C (.int (bI b + j)) := rfl
theorem fAddB_ss : fAddB ρ [.dat (.str x), .dat (.str y)] C = (x.length + y.length ≤ 16777216 ∧ C (.str (x ++ y))) := rfl
theorem fAddB_tt : fAddB ρ [.dat (.tuple xs), .dat (.tuple ys)] C = (xs.length + ys.length ≤ 16777216 ∧ C (.tuple (xs ++ ys))) := rfl
theorem fSubB_ii : fSubB ρ [.dat (.int i), .dat (.int j)] C = C (.int (i - j)) := rfl
theorem fSubB_bi : fSubB ρ [.dat (.bool b), .dat (.int j)] C = C (.int (bI b - j)) := rfl
theorem fSubB_ib : fSubB ρ [.dat (.int i), .dat (.bool b)] C = C (.int (i - bI b)) := rfl
theorem fMulB_ii : fMulB ρ [.dat (.int i), .dat (.int j)] C = (CMul i j ∧ C (.int (i * j))) := rfl
theorem fMulB_bi : fMulB ρ [.dat (.bool b), .dat (.int j)] C = C (.int (bI b * j)) := rfl
theorem fEqI_ii : fEqI ρ [.dat (.int i), .dat (.int j)] C = C (.bool (decide (i = j))) := rfl
theorem fEqI_bi : fEqI ρ [.dat (.bool b), .dat (.int j)] C = C (.bool (bI b == j)) := rfl
theorem fStr_i : fStr ρ [.dat (.int i)] C = (i.natAbs.log2 < 1920 ∧ C (.str (Str.ofString (toString i)))) := rfl
theorem fStr_b : fStr ρ [.dat (.bool b)] C = C (.str (if b then Str.ofString "True" else Str.ofString "False")) := by cases b <;> rfl
end
end DL

/-! DL: items at places not known yet; parts of tuples; texts that are spoilt. -/
namespace DL
open PySem PySem.Spec L2

/-! ### an item, and then: simp stops there (the last argument's type holds P fast) -/
inductive Tg (P : PyData → Prop) : Type
  | mk
def atK (ds : List PyData) (i : Int) (P : PyData → Prop) (_ : Tg P) : Prop := ∃ d, atI ds i = some d ∧ P d
theorem atK_of {ds : List PyData} {i : Int} {P : PyData → Prop} {d : PyData} {u : Tg P} (h : atI ds i = some d) (hp : P d) : atK ds i P u := ⟨d, h, hp⟩
theorem atK_all {ds : List PyData} {i : Int} {P : PyData → Prop} {u : Tg P} (h0 : 0 ≤ i) (h1 : i < ds.length) (hp : ∀ d ∈ ds, P d) : atK ds i P u := by
  obtain ⟨d, ed, hd⟩ := atI_ok h0 h1
  exact ⟨d, ed, hp d hd⟩
section
variable (ρ : Rho) (ds : List PyData) (i : Int) (j : Nat) (z : Str) (x y u v : PyData) (C : PyData → Prop) (w : Tg C)
theorem fIxK_tup : fIx ρ [.dat (.tuple ds), .dat (.int i)] C = atK ds i C .mk := by
  apply propext
  constructor
  · rintro ⟨ds', d, e, h1, h2⟩
    cases e
    exact ⟨d, h1, h2⟩
  · rintro ⟨d, h1, h2⟩
    exact ⟨ds, d, rfl, h1, h2⟩
theorem fIxK_list : fIx ρ [.dat (.list ds), .dat (.int i)] C = atK ds i C .mk := by
  apply propext
  constructor
  · rintro ⟨ds', d, e, h1, h2⟩
    cases e
    exact ⟨d, h1, h2⟩
  · rintro ⟨d, h1, h2⟩
    exact ⟨ds, d, rfl, h1, h2⟩
theorem fIxK_own : fIx ρ [.own j, .dat (.int i)] C = ∃ ds, loS ρ[j]? = some ds ∧ atK ds i C .mk := by
  apply propext
  rw [← seqOf_own]
  constructor
  · rintro ⟨ds', d, e, h1, h2⟩
    exact ⟨ds', e, d, h1, h2⟩
  · rintro ⟨ds', e, d, h1, h2⟩
    exact ⟨ds', d, e, h1, h2⟩
theorem fIxK_str : fIx ρ [.dat (.str z), .dat (.int i)] C = ∃ c, z.length ≤ 16777216 ∧ atI z.cps.toList i = some c ∧ C (.str ⟨#[c]⟩) := rfl
theorem atK_0 : atK (x :: ds) 0 C w = C x := by
  unfold atK
  rw [atI_0]
  simp
theorem atK_1 : atK (x :: y :: ds) 1 C w = C y := by
  unfold atK
  rw [atI_1]
  simp
theorem atK_2 : atK (x :: y :: u :: ds) 2 C w = C u := by
  unfold atK
  rw [atI_2]
  simp
theorem atK_3 : atK (x :: y :: u :: v :: ds) 3 C w = C v := by
  unfold atK
  rw [atI_3]
  simp
end

/-! ### parts -/
theorem cutD_mid {ds : List PyData} {k : Nat} (h : k < ds.length) : cutD ds (some (k : Int)) (some ((k + 2 : Nat) : Int)) = (ds.drop k).take 2 := by
  unfold cutD
  rw [HT.sIx_nat, HT.sIx_nat, Nat.min_eq_left (Nat.le_of_lt h), List.take_eq_take_iff, List.length_drop]
  omega
theorem at_nat {ds : List PyData} {i : Int} (h0 : 0 ≤ i) (h1 : i < ds.length) : ∃ k : Nat, ∃ h : k < ds.length, i = k ∧ atI ds i = some ds[k] := by
  refine ⟨i.toNat, by omega, by omega, ?_⟩
  have q := atI_get (xs := ds) (k := i.toNat) (by omega)
  have e : (0 : Int) + (i.toNat : Int) = i := by omega
  rw [e] at q
  exact q
theorem or4 {P : PyData → Prop} {c1 c2 c3 c4 : Prop} [Decidable c1] [Decidable c2] [Decidable c3] [Decidable c4] {A B C E D : PyData} (hA : P A) (hB : P B) (hC : P C) (hE : P E) (hD : P D) :
    P (((((if c1 then some A else none).or (if c2 then some B else none)).or (if c3 then some C else none)).or (if c4 then some E else none)).getD D) := by
  by_cases h1 : c1 <;> by_cases h2 : c2 <;> by_cases h3 : c3 <;> by_cases h4 : c4 <;> simp [h1, h2, h3, h4, *]
section
variable {t B n t' B' n' : Nat} {x y : Str} {i : Int}
theorem Sp.app (h : Sp t B n (.str x)) (hy : ∀ c ∈ y.cps.toList, c < 128) (h0 : t ≤ t') (hb : B + y.length ≤ B') : Sp t' B' n' (.str (x ++ y)) := by
  have q := h.str_of
  refine .str (fun c hc => ?_) ?_
  · rw [cat_list] at hc
    exact (List.mem_append.mp hc).elim (q.1 c) (hy c)
  · rw [len_app]
    omega
theorem Sp.cut {lo hi : Option Int} (h : Sp t B n (.str x)) (h0 : t ≤ t') (hb : B ≤ B') : Sp t' B' n' (.str (cutS x lo hi)) := by
  have q := h.str_of
  refine .str (fun c hc => ?_) ?_
  · rw [cutS_list] at hc
    exact q.1 c (List.mem_of_mem_drop (List.mem_of_mem_take hc))
  · have := len_cut (z := x) (lo := lo) (hi := hi)
    omega
theorem Sp.up (h : Sp t B n (.str x)) (h0 : t ≤ t') (hb : B ≤ B') : Sp t' B' n' (.str (Txt.upper x)) := by
  have q := h.str_of
  have u := up_txt q.1
  exact .str u.1 (by omega)
theorem Sp.shown (h : Sp t B n (.int i)) (ht : t ≤ 1000) (hb : 60 ≤ B') : Sp t' B' n' (.str (Str.ofString (toString i))) ∧ i.natAbs.log2 < 1920 := by
  have q := h.int_of
  have hn : i.natAbs < 10 ^ 45 := by omega
  refine ⟨.str (int_txt i) ?_, ?_⟩
  · have q := int_text_length_le10 (k := 45) (by decide) hn
    rw [ofString_length]
    omega
  · have s : Sd 0 0 (.int i) := Sd.int (by omega)
    exact of_decide_eq_true s.sh
end
/-! ### columns and rows, ahead of any change -/
theorem low_txt {x : Str} (h : x.cps.toList.all low = true) : ∀ c ∈ x.cps.toList, c < 128 := fun c hc => by
  have := low_lt (List.all_eq_true.mp h c hc)
  omega
theorem tx_sp {t n : Nat} {lo hi : Int} {d : PyData} (hh : hi ≤ 8) (h : isTx lo hi d = true) : Sp t 8 n d := by
  cases d with
  | str x =>
    rw [isTx_str, Bool.and_eq_true, Bool.and_eq_true, decide_eq_true_eq, decide_eq_true_eq] at h
    exact .str (low_txt h.2) (by omega)
  | _ => cases h
theorem num_sp {t B n : Nat} {far : Int} {d : PyData} (hh : far ≤ 1000000000000) (h : isNum far d = true) : Sp t B n d := by
  cases d with
  | int i =>
    rw [isNum_int, Bool.and_eq_true, decide_eq_true_eq, decide_eq_true_eq] at h
    exact .int (by omega)
  | _ => cases h
theorem fits_sp {t n : Nat} {k : Str} {d : PyData} (hk : kindS k) (h : fitsK k d = true) : Sp t 8 n d := by
  cases d with
  | none => exact .none
  | _ =>
    rcases hk with rfl | rfl | rfl | rfl
    · exact num_sp (far := 99) (by decide) h
    · exact num_sp (far := 1000000000000) (by decide) h
    · exact tx_sp (lo := 1) (hi := 1) (by decide) h
    · exact tx_sp (lo := 0) (hi := 8) (by decide) h
theorem kind_sp {t n : Nat} {k : Str} (hk : kindS k) : Sp t 8 n (.str k) := by
  rcases hk with rfl | rfl | rfl | rfl <;> exact .str (by decide) (by decide)
theorem col_sp {t n : Nat} {i : Int} {s k : Str} {f : PyData} (h0 : 0 < i) (h1 : i < 1000) (hs : isTx 1 6 (.str s) = true) (hk : kindS k) (hf : fitsK k f = true) : Sp t 40 (n + 1) (.tuple [.int i, .str s, .str k, f]) :=
  (Sp.tup (SpA.cons (B := 0) (.int (by omega)) (.cons (tx_sp (by decide) hs) (.cons (kind_sp hk) (.cons (fits_sp hk hf) (SpA.nil (B := 0))))))).le (Nat.le_refl _) (by omega) (Nat.le_refl _)
theorem ColOk.sp {t n : Nat} {c : Colm} (h : ColOk c) : Sp t 40 (n + 1) (colD c) := col_sp h.n0 h.n1 h.s h.k h.f
theorem SpA.of {t B n : Nat} {xs : List PyData} (h : ∀ x ∈ xs, Sp t B n x) : SpA t (xs.length * (B + 1)) n xs := by
  refine ⟨fun x hx => ⟨(h x hx).ok, (h x hx).dp⟩, ?_⟩
  induction xs with
  | nil => exact Nat.zero_le _
  | cons x xs ih =>
    rw [bk_cons, List.length_cons, Nat.add_mul]
    have := (h x List.mem_cons_self).bk
    have := ih fun y hy => h y (List.mem_cons_of_mem _ hy)
    omega
theorem ShOk.sp {t n : Nat} {cs : List Colm} (h : ShOk cs) : SpA t 328 (n + 1) (cs.map colD) := by
  have q : SpA t ((cs.map colD).length * (40 + 1)) (n + 1) (cs.map colD) := .of fun x hx => by
    obtain ⟨c, hc, rfl⟩ := List.mem_map.mp hx
    exact (h.ok c hc).sp
  have := h.l1
  exact q.le (Nat.le_refl _) (by rw [List.length_map]; omega) (Nat.le_refl _)
theorem cut4_1 (a b c d : PyData) : cutD [a, b, c, d] (some 1) none = [b, c, d] := rfl
theorem cut4_2 (a b c d : PyData) : cutD [a, b, c, d] (some 2) none = [c, d] := rfl
theorem at_col {cs : List Colm} {i : Int} (h0 : 0 ≤ i) (h1 : i < cs.length) : ∃ k : Nat, ∃ h : k < cs.length, i = k ∧ atI (cs.map colD) i = some (colD cs[k]) := by
  obtain ⟨k, hk, e, h⟩ := at_nat (ds := cs.map colD) h0 (by rw [List.length_map]; exact h1)
  rw [List.length_map] at hk
  exact ⟨k, hk, e, by rw [h, List.getElem_map]⟩
end DL

/-! DL: keys that are tuples, some of them empty, can be sorted. -/
namespace DL
open PySem PySem.W PySem.SeqAt PySem.Calls PyProof.Rows

theorem lt_general (x y : Value) : keyLt' general' x y = oneLt' false x y := rfl
section
variable {prog : Program} {w : World} {A : Around} {s : Shared}
/-- Python's < of two tuples, as sorting asks for it -/
theorem call_tup_lt {E : Value → Shared → Prop} {Q : Value → Shared → Prop} {l b : Addr} {items items2 : Array Value} {e r : Nat → Bool} (hl : s.heap.IsTuple l items) (hb : s.heap.IsTuple b items2)
    (he : ∀ j (h1 : j < items.size) (h2 : j < items2.size), EqAt A.in1 s items[j] items2[j] (e j)) (hr : ∀ j (h1 : j < items.size) (h2 : j < items2.size), e j = false → RcLt A.in1 s items[j] items2[j] (r j))
    (h : Q (.bool (firstLt e r (decide (items.size < items2.size)) (List.range (min items.size items2.size)))) s) : wpAny (model prog w) A (call (.builtin "tuple.__lt__") [.ref l, .ref b]) Q E s := by
  obtain ⟨⟨cls, dd, data, sl⟩, ho, hc, n, hd⟩ := id hl
  obtain ⟨⟨cls2, dd2, data2, sl2⟩, ho2, hc2, n2, hd2⟩ := id hb
  simp only at hc hd hc2 hd2
  subst hc hd hc2 hd2
  exact call_meets F.slot_tuple_lt ⟨_, ho, rfl⟩ F.entry_tuple_lt (F.args_tuple_lt_2 _ _) (tuple_ltAt l b items items2 n n2 dd dd2 sl sl2 e r) ⟨ho, ho2, he, hr, h⟩
/-- one tuple against another, both known to be tuples -/
theorem oneLt_tups {f : Bool} {xs ys : List PyData} {a b : Value} {as bs : List Addr} {Q : Bool → Shared → Prop} {E : Value → Shared → Prop} (ra : Reads s.heap a (.tuple xs) as) (rb : Reads s.heap b (.tuple ys) bs) (h : alike (.tuple xs) (.tuple ys) = true)
    (hu : A.units + min (PyData.tuple xs).depth (PyData.tuple ys).depth < cLine) (hq : Q (dataLt (.tuple xs) (.tuple ys)) s) : wpAny (model prog w) A (oneLt' f a b) Q E s := by
  cases f with
  | false => exact oneLt_alike (fun z => nomatch z) ra rb h (fun z => nomatch z) hu hq
  | true =>
    have hal : alikeAll xs ys = true := by simpa [alike] using h
    cases ra with
    | @tuple l o vs n _ as₁ h1 h2 h3 h4 =>
      cases rb with
      | @tuple l' o' vs' n' _ bs₁ k1 k2 k3 k4 =>
        have n1 : vs.size = xs.length := by simpa using ReadsAll.length _ _ _ h4
        have n2 : vs'.size = ys.length := by simpa using ReadsAll.length _ _ _ k4
        rw [dataLt_tuple, ← firstLt_toks xs ys hal, ← n1, ← n2] at hq
        rw [oneLt'_eq]
        simp only [if_true]
        refine wpAny_bind (wpAny_cRoomFor (room_here hu) ?_)
        refine wpAny_bind (wpAny_callSpecialIfBound?_slot (T := "tuple") ⟨_, h1, h2⟩ F.slot_tuple_lt (call_tup_lt (e := pairEq xs ys) (r := fun j => dataLt (xs.getD j .none) (ys.getD j .none)) ⟨_, h1, h2, _, h3⟩ ⟨_, k1, k2, _, k3⟩ (fun j j1 j2 => ?_) (fun j j1 j2 hj => ?_) ?_))
        · have := eqAt_alikeAll xs ys A.in1 s vs.toList vs'.toList _ _ h4 k4 hal (room_in hu) j (by simpa using j1) (by simpa using j2)
          simpa using this
        · have := rcLt_alikeAll xs ys A.in1 s vs.toList vs'.toList _ _ h4 k4 hal (room_in hu) j (by simpa using j1) (by simpa using j2) hj
          simpa using this
        · exact wpAny_truthy_bool hq
end
section
variable {M : Model} {A : Around} {E : Value → Shared → Prop} {s : Shared}
/-- each tuple's first item, if it has one -/
theorem firsts_any : ∀ (vs : List Value) (ds : List PyData) {Q : List (Option Value) → Shared → Prop}, EachIs (fun v d => ∃ as, Reads s.heap v d as) vs ds → (∀ d ∈ ds, ∃ xs, d = .tuple xs) →
    (∀ fs : List (Option Value), EachIs (fun (o : Option Value) d => o.isSome = (match d with | .tuple (_ :: _) => true | _ => false)) fs ds → Q fs s) → wpAny M A (vs.mapM firstOfTuple') Q E s
  | [], _, _, e, _, h => by
    cases e
    rw [List.mapM_nil]
    exact wpAny_pure (h [] .nil)
  | v :: vs, _, Q, e, ht, h => by
    cases e with
    | @cons _ d _ ds h1 t =>
      obtain ⟨as, r⟩ := h1
      obtain ⟨xs, rfl⟩ := ht d (List.mem_cons_self ..)
      cases r with
      | @tuple a o its n _ _ ho hc hd hr =>
        rw [List.mapM_cons]
        refine wpAny_bind ?_
        rw [kas_first_eq]
        refine wpAny_bind (Looks.here (show Looks M s.heap (typeOf (.ref a)) o.cls from (Looks.ld ho).andThen .now) ?_)
        rw [hc, if_neg (by first | decide | simp)]
        refine wpAny_bind (listItems_at ho hd (wpAny_pure ?_))
        refine wpAny_bind (firsts_any vs ds t (fun d hd => ht d (List.mem_cons_of_mem _ hd)) fun fs hf => wpAny_pure (h _ (.cons ?_ hf)))
        have hl := ReadsAll.length _ _ _ hr
        cases xs with
        | nil =>
          have : its.size = 0 := by simpa using hl
          rw [Array.getElem?_eq_none (by omega)]
          rfl
        | cons x xs =>
          have : 0 < its.size := by simp at hl; omega
          rw [Array.getElem?_eq_getElem this]
          rfl
end
section
variable {prog : Program} {w : World} {A : Around} {s : Shared}
theorem each_all {α β : Type} {R : α → β → Prop} {p : α → Bool} {q : β → Bool} (h : ∀ a b, R a b → p a = q b) : ∀ {as : List α} {bs : List β}, EachIs R as bs → as.all p = bs.all q
  | _, _, .nil => rfl
  | _, _, .cons h1 t => by rw [List.all_cons, List.all_cons, h _ _ h1, each_all h t]
/-- keys that read as alike tuples, some of them empty, can be sorted -/
theorem sorts_tups {vs : List Value} {ds : List PyData} (e : EachIs (fun v d => ∃ as, Reads s.heap v d as) vs ds) (hal : AllAlike ds) (ht : ∀ d, d ∈ ds → ∃ xs, d = .tuple xs) (hu : ∀ d, d ∈ ds → A.units + d.depth < cLine) : SortsAt prog w A s (dataKind s.heap ds) vs := by
  by_cases all : ∀ d, d ∈ ds → ∃ x r, d = .tuple (x :: r)
  · exact SortsAt.data e hal (.inl all) hu
  · have room : ∀ {d d' : PyData}, d ∈ ds → A.units + min d.depth d'.depth < cLine := fun {d d'} hd => Nat.lt_of_le_of_lt (Nat.add_le_add_left (Nat.min_le_left _ _) _) (hu d hd)
    have ltf : ∀ (f : Bool) (E : Value → Shared → Prop) (x y : Value) (a b : (dataKind s.heap ds).α) {Q : Bool → Shared → Prop}, (dataKind s.heap ds).keyOf x = some a → (dataKind s.heap ds).keyOf y = some b → Q ((dataKind s.heap ds).blt a b) s → wpAny (model prog w) A (oneLt' f x y) Q E s := by
      intro f E x y a b Q ha hb hq
      obtain ⟨d, as, hd, ra, rfl⟩ := dataKind_inv ha
      obtain ⟨d', as', hd', rb, rfl⟩ := dataKind_inv hb
      obtain ⟨xs, rfl⟩ := ht d hd
      obtain ⟨ys, rfl⟩ := ht d' hd'
      exact oneLt_tups ra rb (hal _ hd _ hd') (room hd) hq
    refine ⟨fun v hv => ?_, ?_⟩
    · obtain ⟨d, hd, as, r⟩ := e.left v hv
      exact ⟨_, dataKind_some hal hd r⟩
    · cases ds with
      | nil => exact (all fun d hd => nomatch hd).elim
      | cons d₀ ds₀ =>
        obtain ⟨x₀, e₀⟩ := ht d₀ (List.mem_cons_self ..)
        have na : ∀ fs : List (Option Value), EachIs (fun (o : Option Value) d => o.isSome = (match d with | .tuple (_ :: _) => true | _ => false)) fs (d₀ :: ds₀) → fs.toArray.all (fun x => x.isSome) = false := fun fs hf => by
          rw [List.all_toArray, each_all (fun a b h => h) hf, Bool.eq_false_iff]
          intro q
          rw [List.all_eq_true] at q
          refine all fun d hd => ?_
          obtain ⟨xs, rfl⟩ := ht d hd
          cases xs with
          | nil => have := q _ hd; cases this
          | cons x r => exact ⟨x, r, rfl⟩
        subst e₀
        cases x₀ with
        | cons x r =>
          refine ⟨general', fun E x y a b Q ha hb hq => by rw [lt_general]; exact ltf false E x y a b ha hb hq, fun h2 E Q hq => ?_⟩
          rw [keyKind'_eq, List.mapM_toArray, map_eq_pure_bind]
          refine wpAny_bind (wpAny_bind (firsts_any vs _ e ht fun fs hf => wpAny_pure ?_))
          rw [if_neg (by rw [na fs hf]; simp)]
          cases hf with
          | @cons o _ fs' _ h1 t =>
            rw [if_pos (by simpa using h1)]
            exact wpAny_pure hq
        | nil =>
          refine ⟨oneType', fun E x y a b Q ha hb hq => by rw [keyLt'_oneType]; exact ltf true E x y a b ha hb hq, fun h2 E Q hq => ?_⟩
          rw [keyKind'_eq, List.mapM_toArray, map_eq_pure_bind]
          refine wpAny_bind (wpAny_bind (firsts_any vs _ e ht fun fs hf => wpAny_pure ?_))
          rw [if_neg (by rw [na fs hf]; simp)]
          cases hf with
          | @cons o _ fs' _ h1 t =>
            rw [if_neg (by simpa using h1)]
            rw [oneTypeOnly'_eq, List.mapM_toArray, map_eq_pure_bind]
            refine wpAny_bind (wpAny_bind (wpAny_bind (kas_mapM (r := Value.type "tuple") _ (fun v hv Q' hq => ?_) (wpAny_pure ?_))))
            · obtain ⟨d, hd, as, r⟩ := e.left v hv
              obtain ⟨xs, rfl⟩ := ht d hd
              exact (looks_reads r).here hq
            · obtain ⟨v₁, rest, rfl⟩ : ∃ v₁ rest, vs = v₁ :: rest := by
                cases vs with
                | nil => simp at h2
                | cons a b => exact ⟨a, b, rfl⟩
              simp
              exact wpAny_pure (wpAny_pure hq)
end
end DL

/-! DL: sorted(xs, key=f), f a def of the text. -/
namespace DL
open PySem PySem.Spec L2 PySem.W PySem.Calls PyProof.Rows

section
variable {X : Cx} {pins : List (Addr × Obj)} {σ : L2.St} {H : Hp} {s : Shared} {a : Addr}
/-- an address that was not there -/
structure Fsh (X : Cx) (pins : List (Addr × Obj)) (a : Addr) : Prop where
  h1 : a ∈ X.ex ∨ X.s_0.heap.objs.size ≤ a
  hL : a ≠ X.env.locals
  h2 : ∀ x c, X.env.cells.lookup x = some c → c ≠ a
  h3 : ∀ p ∈ X.pn ++ pins, p.1 ≠ a
  hf : a ∉ X.fs
theorem Fsh.of (I : Inv X pins σ H s) (h : s.heap.objs.size ≤ a) : Fsh X pins a where
  h1 := .inr (Nat.le_trans I.sz h)
  hL e := absurd (Nat.lt_of_lt_of_le I.lt h) (by rw [e]; exact Nat.lt_irrefl _)
  h2 x c e z := by
    obtain ⟨v, o, ho, _⟩ := I.cell x c e
    exact absurd (Nat.lt_of_lt_of_le (Heap.lt_size ho) h) (by rw [z]; exact Nat.lt_irrefl _)
  h3 p hp z := by
    exact absurd (Nat.lt_of_lt_of_le (Heap.lt_size (I.pin p hp).1) h) (by rw [z]; exact Nat.lt_irrefl _)
  hf := I.nofs h
/-- the object there changes, nothing else does -/
theorem Fsh.turned {h' : Heap} {t' : Nat} (f : Fsh X pins a) (I : Inv X pins σ H s) (n : H a = none) (k : ∀ b o, b ≠ a → s.heap.get? b = some o → h'.get? b = some o) : Inv X pins σ H { s with heap := h', toks := t' } :=
  I.turned k n f.hL f.h1 f.h2 f.h3
/-- it is tracked from here on -/
theorem Fsh.adopt {o : HO} (f : Fsh X pins a) (I : Inv X pins σ H s) (n : H a = none) (new : ObjOk X.prog X.w (upd H a o) s.heap a o) : Inv X pins σ (upd H a o) s := by
  have nb : ∀ b u, H b = some u → b ≠ a := fun b u e z => by rw [z, n] at e; cases e
  have q : Inv X pins σ (upd H a o) { s with heap := s.heap, gens := s.gens, drawn := s.drawn, toks := s.toks } := by
    refine I.step (ch := [a]) (fun b hb => ?_) (fun b u _ _ _ e _ => e) (fun b u _ _ _ e _ => ⟨u.slots, e⟩) (fun b u hc e z => ?_) (fun b u _ e => ⟨u, e⟩)
      (fun b xs e => by rw [upd_ne (nb b _ e)]; exact e) (fun b u v e => by rw [upd_ne (nb b _ e)]; exact e) (fun b ps e => ⟨#[], by rw [upd_ne (nb b _ e)]; simpa using e⟩) (fun m hm => hm) (fun b u e => ?_) I.bare
    · have e : b = a := by simpa using hb
      subst e
      exact ⟨f.h1, f.hL, f.h2, f.h3⟩
    · rw [upd_ne (fun z => hc (by simp [z]))]
      exact z
    · by_cases hb : b = a
      · subst hb
        rw [upd_same] at e
        cases e
        exact new
      · rw [upd_ne hb] at e
        exact (I.hok b u e).stay (fun c v _ q => q) (fun c q => by rw [upd_ne (nb c _ q)]; exact q) fun c xs q => by rw [upd_ne (nb c _ q)]; exact q
  exact q
end

section
variable {X : Cx} {pins : List (Addr × Obj)} {σ σr : L2.St} {B : Bs} {ρ : Rho} {H : Hp} {s : Shared} {fa : Addr} {fd : FuncData} {x : Str} {k : Nat} {S : FSp}
/-- f(v), for a key -/
theorem key_call (F : FnG X.prog X.w X.K X.mg X.base CX0 k fa fd [x] (spOf X.K S)) (hr : Room k X.A.in1.in1) (hgd : X.A.guards = some []) (hb : Binds X.K fd [x] []) (I : Inv X pins σ H s) (R : Rel X.K B ρ σr H) {d kd : PyData} {v : V} {u : Value}
    (rv : RelV v u) (rd : Rep X.K H d v) (hS : ∀ Q0 : PyData → List Slot → Prop, (∀ outs, Q0 kd outs) → S [.dat d] Q0) :
    wpAny (model X.prog X.w) X.A.in1.in1 (call (.ref fa) [u]) (fun w s' => ∃ y H', Inv X pins σ H' s' ∧ RelV y w ∧ Rel X.K B ρ σr H' ∧ Rep X.K H' kd y ∧ Stp ρ H ρ H') (fun _ _ => False) s := by
  have vals : Vals [v] [u] := .cons rv .nil
  have hsp : spOf X.K S [v] H (fun y H' => Rel X.K B ρ σr H' ∧ Rep X.K H' kd y ∧ Stp ρ H ρ H') E0 := by
    refine call_sp (rs := [.dat d]) (Q0 := fun r ρ' => r = .dat kd ∧ ρ' = ρ) R ⟨v, [], rfl, rd, rfl⟩ (by simp [extIx_dat, extIx_nil]) ?_ ?_
    · refine hS _ fun outs => ⟨rfl, ?_⟩
      cases outs with
      | nil => rfl
      | cons o outs => rw [putBack_dat, putBack_nil]
    · rintro d' ρ' y H' ⟨e, rfl⟩ R' rp st
      cases e
      exact ⟨R', rp, st⟩
  refine wpAny_call (codeAny_mono (F.run X.A.in1.in1 X.stack s H ⟨[u], []⟩ [u] [v] _ E0 hr hgd I.env0.in1.in1 (hb s [u] I.kIn rfl) vals hsp) fun r s' hq => ?_)
  cases r with
  | error e => exact hq.elim
  | ok fl =>
    cases fl with
    | ret w =>
      obtain ⟨y, H', I', r', R', rp, st⟩ := I.after hq
      exact ⟨y, H', I', r', R', rp, st⟩
    | next => exact hq.elim
    | brk => exact hq.elim
    | cont => exact hq.elim
end

/-! ### the list that sorting leaves -/
def sortD (ds kz : List PyData) : List PyData := ((ds.zip kz).mergeSort (dataLe false Prod.snd)).map (·.1)
def KIs (K : PySem.W.Frag) (H : Hp) (v : Value) (d : PyData) : Prop := ∃ y, RelV y v ∧ Rep K H d y
theorem kis_all {K : PySem.W.Frag} {H : Hp} : ∀ {vs : List Value} {ds : List PyData}, EachIs (KIs K H) vs ds → ∃ out, Vals out vs ∧ RepA K H ds out
  | _, _, .nil => ⟨[], .nil, by rw [RepA]⟩
  | _, _, .cons ⟨y, r, p⟩ t => by
    obtain ⟨out, h1, h2⟩ := kis_all t
    exact ⟨y :: out, .cons r h1, by rw [RepA]; exact ⟨y, out, rfl, p, h2⟩⟩
theorem all_kis {K : PySem.W.Frag} {H : Hp} : ∀ {ds : List PyData} {out : List V} {vs : List Value}, Vals out vs → RepA K H ds out → EachIs (KIs K H) vs ds
  | [], out, vs, h, r => by
    rw [RepA] at r
    subst r
    cases h
    exact .nil
  | d :: ds, out, vs, h, r => by
    rw [RepA] at r
    obtain ⟨y, rest, rfl, h1, h2⟩ := r
    cases h with
    | cons a b => exact .cons ⟨y, a, h1⟩ (all_kis b h2)
theorem each_zip {α β γ : Type} {R : α → β → Prop} : ∀ {as : List α} {bs : List β} {cs : List γ}, EachIs R as bs → cs.length = bs.length → EachIs (fun a p => R a p.1) as (bs.zip cs)
  | _, _, [], .nil, _ => .nil
  | _, _, _ :: _, .nil, h => by cases h
  | _, _, [], .cons _ _, h => by cases h
  | _, _, c :: cs, .cons h1 t, h => .cons h1 (each_zip t (by simpa using h))
theorem each_fst {α β γ : Type} {R : α → β → Prop} : ∀ {as : List α} {ps : List (β × γ)}, EachIs (fun a p => R a p.1) as ps → EachIs R as (ps.map (·.1))
  | _, _, .nil => .nil
  | _, _, .cons h1 t => .cons h1 (each_fst t)
theorem zip_snd {α β : Type} : ∀ {as : List α} {bs : List β}, bs.length = as.length → (as.zip bs).map Prod.snd = bs
  | [], [], _ => rfl
  | [], _ :: _, h => by cases h
  | _ :: _, [], h => by cases h
  | a :: as, b :: bs, h => by rw [List.zip_cons_cons, List.map_cons, zip_snd (by simpa using h)]
theorem freed_none (h : Heap) (a : Addr) : (h.update a fun o => { o with data := .freed }).get? a = none := by
  unfold Heap.get?
  rw [Heap.objs_update_self]
  cases h.objs[a]? <;> rfl
theorem each_at {α β : Type} {R : α → β → Prop} : ∀ {as : List α} {bs : List β} {i : Nat} {a : α}, EachIs R as bs → as[i]? = some a → ∃ b, bs[i]? = some b ∧ R a b
  | _, _, i, a, .nil, h => by simp at h
  | _, _, 0, a, .cons h1 t, h => by
    cases h
    exact ⟨_, rfl, h1⟩
  | _, _, i + 1, a, .cons h1 t, h => by
    obtain ⟨b, hb, r⟩ := each_at (i := i) t (by simpa using h)
    exact ⟨b, by simpa using hb, r⟩

section
variable {X : Cx} {pins : List (Addr × Obj)} {σ σr : L2.St} {B : Bs} {ρ : Rho} {H : Hp} {s : Shared} {fa : Addr} {fd : FuncData} {x : Str} {k : Nat} {S : FSp} {ds kz : List PyData} {D kS : Addr} {vs : List Value} {xvs : List V} {e1 : Nat} {P : PySem.Fin → Shared → Prop} {E : Value → Shared → Prop}
/-- what is asked of the keys -/
structure KeysOk (A : Around) (S : FSp) (ds kz : List PyData) : Prop where
  len : kz.length = ds.length
  sz : ds.length ≤ sizeLine
  S : ∀ (i : Nat) d kd, ds[i]? = some d → kz[i]? = some kd → ∀ Q0 : PyData → List Slot → Prop, (∀ outs, Q0 kd outs) → S [.dat d] Q0
  al : AllAlike kz
  tup : ∀ d ∈ kz, ∃ xs, d = .tuple xs
  nd : ∀ d ∈ kz, d.hasDict = false
  un : ∀ d ∈ kz, A.units + d.depth < cLine
theorem sort_rest (F : FnG X.prog X.w X.K X.mg X.base CX0 k fa fd [x] (spOf X.K S)) (hr : Room k X.A.in1.in1) (hgd : X.A.guards = some []) (hb : Binds X.K fd [x] []) (ok : KeysOk X.A.in1.in1 S ds kz)
    (I : Inv X pins σ H s) (R : Rel X.K B ρ σr H) (fD : Fsh X pins D) (fK : Fsh X pins kS) (nD : H D = none) (nK : H kS = none) (hD : s.heap.get? D = some (seqObj "list" #[] e1)) (hK : s.heap.get? kS = some (seqObj "list" #[] 0)) (hne : kS ≠ D)
    (rv : Vals xvs vs) (ra : RepA X.K H ds xvs)
    (h : ∀ H' s' out, Inv X pins σ (upd H' D (.lst out)) s' → Rel X.K B ρ σr H' → H' D = none → RepA X.K H' (sortD ds kz) out → Stp ρ H ρ H' → P (.done (.ret .none)) s') :
    wpAny (model X.prog X.w) X.A.in1.in1 (ksk_rest D (.ref fa) false vs.toArray e1 (.ref kS)) P E s := by
  have each0 := all_kis rv ra
  have lv : vs.length = ds.length := each0.length
  have hZ : vs.length ≤ sizeLine := by rw [lv]; exact ok.sz
  unfold ksk_rest
  refine wpAny_bind (wpAny_rule ?_)
  first
    | rw [List.forIn_toArray]
    | (rw [← Array.forIn_toList]; simp only [List.toList_toArray])
  refine wpAny_bind (ksk_fold (fun i s' => ∃ H' kA e, Inv X pins σ H' s' ∧ Rel X.K B ρ σr H' ∧ Stp ρ H ρ H' ∧ H' D = none ∧ H' kS = none ∧ s'.heap.get? D = some (seqObj "list" #[] e1) ∧ s'.heap.get? kS = some (seqObj "list" kA e) ∧ EachIs (KIs X.K H') kA.toList (kz.take i)) vs 0 s
    ⟨H, #[], 0, I, R, Stp.refl _ _, nD, nK, hD, hK, by rw [List.take_zero]; exact EachIs.nil⟩ ?step ?done)
  case step =>
    rintro j u s' hu ⟨H', kA, e, I', R', st, nD', nK', hD', hK', hk⟩
    simp only [Nat.zero_add] at hk ⊢
    have hj : j < vs.length := (List.getElem?_eq_some_iff.mp hu).1
    obtain ⟨d, ed, y, ry, rd⟩ := each_at each0 hu
    obtain ⟨kd, ek⟩ : ∃ kd, kz[j]? = some kd := ⟨_, List.getElem?_eq_getElem (by rw [ok.len, ← lv]; exact hj)⟩
    have hz : kA.size ≤ vs.length := by
      have h1 := hk.length
      rw [Array.length_toList, List.length_take] at h1
      omega
    have Ip : Inv X ((D, seqObj "list" #[] e1) :: (kS, seqObj "list" kA e) :: pins) σ H' s' := I'.pins_of fun p hp => by
      rcases List.mem_cons.mp hp with rfl | hp
      · exact ⟨hD', nD', fD.hL, fD.hf, fun v z => nomatch z⟩
      · rcases List.mem_cons.mp hp with rfl | hp
        · exact ⟨hK', nK', fK.hL, fK.hf, fun v z => nomatch z⟩
        · exact I'.pin p (List.mem_append_right _ hp)
    refine wpAny_bind (wpAny_attempt (wpAny_mono (key_call F hr hgd hb Ip R' ry (Rep.mono st.kp _ _ rd) (ok.S j d kd ed ek)) (fun w s'' he => ?_) fun _ _ hF => hF.elim))
    obtain ⟨z, H2, I2, rz, R2, rp, st2⟩ := he
    try dsimp only
    have pD := I2.pin (D, seqObj "list" #[] e1) (List.mem_append_right _ (.head _))
    have pK := I2.pin (kS, seqObj "list" kA e) (List.mem_append_right _ (.tail _ (.head _)))
    have I3 : Inv X pins σ H2 s'' := I2.pins_of fun p hp => I2.pin p (List.mem_append_right _ (.tail _ (.tail _ hp)))
    have s1 := Heap.SameBut.update s''.heap kS (Obj.mapSeq (·.push w))
    obtain ⟨c2, hc2⟩ : ∃ c2, (s''.heap.update kS (Obj.mapSeq (·.push w))).get? kS = some (seqObj "list" (kA.push w) c2) := ⟨_, get?_update_seq pK.1 (·.push w)⟩
    have ek' : kz.take (j + 1) = kz.take j ++ [kd] := by rw [List.take_add_one, ek]; simp
    have ea : (kA.push w).toList = kA.toList ++ [w] := by simp
    refine wpAny_bind (listUpdate_at pK.1 rfl ?_ (Nat.le_trans hz hZ) (Nat.le_trans (Nat.le_of_eq (Array.size_push ..)) (Nat.succ_le_succ (Nat.le_trans hz hZ))))
    refine wpAny_pure ⟨rfl, H2, kA.push w, c2, fK.turned (t' := s''.toks) I3 pK.2.1 (fun b o hb' q => (s1.2 b hb').trans q), R2, st.trans st2, pD.2.1, pK.2.1, (s1.2 D hne.symm).trans pD.1, hc2, ?_⟩
    rw [ea, ek']
    exact each_snoc ⟨z, rz, rp⟩ (hk.mono fun v d' ⟨y', h1, h2⟩ => ⟨y', h1, Rep.mono st2.kp _ _ h2⟩)
  case done =>
    rintro s' ⟨H', kA, e, I', R', st, nD', nK', hD', hK', hk⟩
    have e3 : kz.take (0 + vs.length) = kz := List.take_of_length_le (by rw [ok.len, lv]; omega)
    rw [e3] at hk
    have hk' : EachIs (fun v kd => ∃ as, Reads s'.heap v kd as) kA.toList kz := (each_mem hk).mono fun v kd ⟨⟨y, h1, h2⟩, hm⟩ => Dp.reads I' kd y v (dp_of kd y h2 (ok.nd kd hm)) h1
    have hsz : kA.size = vs.length := by
      have h1 := hk'.length
      rw [Array.length_toList] at h1
      rw [h1, ok.len, lv]
    have each1 : EachIs (KIs X.K H') vs ds := each0.mono fun v d ⟨y, h1, h2⟩ => ⟨y, h1, Rep.mono st.kp _ _ h2⟩
    have sb := Heap.SameBut.update s'.heap kS fun o => { o with data := .freed }
    have kp : KeepsBut D (s'.heap.update kS fun o => { o with data := .freed }) s'.heap := fun b o hb' q => by
      by_cases hbk : b = kS
      · subst hbk
        rw [freed_none] at q
        cases q
      · exact (sb.2 b hbk).symm.trans q
    try dsimp only
    refine wpAny_bind (listItems_at hK' rfl ?_)
    refine keyH_end (κ := dataKind s'.heap kz) (h₁ := s'.heap.update kS fun o => { o with data := .freed }) kp (freed_none _ _) hK' hD' hne (sorts_tups hk' ok.al ok.tup ok.un) hsz hZ fun h3 tk3 c k3 n3 => ?_
    have ko : KeyedOut false ((ds.zip kz).map Prod.snd) vs (sortVals (dataKind s'.heap kz) false kA.toList vs) := by
      rw [zip_snd ok.len]
      exact ⟨s'.heap, kA.toList, ok.al, rfl, hk'⟩
    obtain ⟨out, o1, o2⟩ := kis_all (each_fst (keyedOut_each Prod.snd ko (each_zip each1 ok.len)))
    have I4 : Inv X pins σ H' { s' with heap := s'.heap.update kS fun o => { o with data := .freed } } := fK.turned (t' := s'.toks) I' nK' fun b o hb' q => (sb.2 b hb').trans q
    have I5 : Inv X pins σ H' { s' with heap := h3, toks := tk3 } := by
      have q := fD.turned (h' := h3) (t' := tk3) I4 nD' k3
      exact q
    have lo : out.length ≤ sizeLine := by
      have h1 := o1.length
      have h2 := o2.length
      have h3 : ((ds.zip kz).mergeSort (dataLe false Prod.snd)).length = (ds.zip kz).length := List.length_mergeSort _
      rw [List.length_map, h3, List.length_zip, ok.len, Nat.min_self] at h2
      rw [← h2]
      exact ok.sz
    exact h H' _ out (fD.adopt I5 nD' ⟨lo, _, c, o1, n3⟩) R' nD' o2 st
theorem sort_tree (F : FnG X.prog X.w X.K X.mg X.base CX0 k fa fd [x] (spOf X.K S)) (hr : Room k X.A.in1.in1) (hgd : X.A.guards = some []) (hb : Binds X.K fd [x] []) (ok : KeysOk X.A.in1.in1 S ds kz) {n : Nat}
    (I : Inv X pins σ H s) (R : Rel X.K B ρ σr H) (fD : Fsh X pins D) (nD : H D = none) (hD : s.heap.get? D = some (seqObj "list" vs.toArray n))
    (rv : Vals xvs vs) (ra : RepA X.K H ds xvs)
    (h : ∀ H' s' out, Inv X pins σ (upd H' D (.lst out)) s' → Rel X.K B ρ σr H' → H' D = none → RepA X.K H' (sortD ds kz) out → Stp ρ H ρ H' → P (.done (.ret .none)) s') :
    wpAny (model X.prog X.w) X.A.in1.in1 (ksk_tree D (.ref fa) false) P E s := by
  have hZ : vs.length ≤ sizeLine := by rw [(all_kis rv ra).length]; exact ok.sz
  obtain ⟨e1, ho1⟩ : ∃ e1, (s.heap.update D (Obj.mapSeq fun _ => (#[] : Array Value))).get? D = some (seqObj "list" #[] e1) := ⟨_, get?_update_seq hD fun _ => #[]⟩
  have s1 := Heap.SameBut.update s.heap D (Obj.mapSeq fun _ => (#[] : Array Value))
  have I1 : Inv X pins σ H { s with heap := s.heap.update D (Obj.mapSeq fun _ => (#[] : Array Value)) } := fD.turned (t' := s.toks) I nD fun b o hb' q => (s1.2 b hb').trans q
  unfold ksk_tree
  refine wpAny_bind (listItems_at hD rfl ?_)
  refine wpAny_bind (listUpdate_at hD rfl ?_ (by rw [List.size_toArray]; exact hZ) (Nat.zero_le _))
  refine wpAny_bind (seqEpoch_at ho1 rfl ?_)
  refine wpAny_bind (wpAny_newTuple ?_ (by show vs.length ≤ _; exact hZ))
  refine wpAny_bind (wpAny_newList ?_ (Nat.zero_le _))
  refine wpAny_holding ?_
  have I2 : Inv X pins σ H { s with heap := (s.heap.update D (Obj.mapSeq fun _ => (#[] : Array Value))).push (seqObj "tuple" vs.toArray 0) } := I1.kept (t' := s.toks) fun b o q => Heap.get?_push_of_some _ q
  have fK : Fsh X pins ((s.heap.update D (Obj.mapSeq fun _ => (#[] : Array Value))).push (seqObj "tuple" vs.toArray 0)).objs.size := Fsh.of I2 (Nat.le_refl _)
  have I3 : Inv X pins σ H { s with heap := ((s.heap.update D (Obj.mapSeq fun _ => (#[] : Array Value))).push (seqObj "tuple" vs.toArray 0)).push (seqObj "list" #[] 0) } := I2.kept (t' := s.toks) fun b o q => Heap.get?_push_of_some _ q
  have hD2 := Heap.get?_push_of_some (seqObj "tuple" vs.toArray 0) ho1
  refine sort_rest F hr hgd hb ok I3 R fD fK nD (I2.hok.fresh (Nat.le_refl _)) (Heap.get?_push_of_some _ hD2) (Heap.get?_push_size _ rfl) (fun z => ?_) rv ra h
  exact absurd z.symm (Nat.ne_of_lt (Heap.lt_size hD2))
/-- sorted(xs, key=f), xs a list or a tuple -/
theorem sorted_by (F : FnG X.prog X.w X.K X.mg X.base CX0 k fa fd [x] (spOf X.K S)) (hr : Room k X.A.in1.in1) (hgd : X.A.guards = some []) (hb : Binds X.K fd [x] []) (ok : KeysOk X.A.in1.in1 S ds kz) {a : Addr}
    (I : Inv X pins σ H s) (R : Rel X.K B ρ σr H) (sq : SqL X.K H a xvs ∨ SqT X.K H a xvs) (ra : RepA X.K H ds xvs) {Q : Value → Shared → Prop}
    (h : ∀ D H' s' out, Inv X pins σ (upd H' D (.lst out)) s' → Rel X.K B ρ σr H' → H' D = none → RepA X.K H' (sortD ds kz) out → Stp ρ H ρ H' → H D = none → Q (.ref D) s') :
    wpAny (model X.prog X.w) X.A (call (.builtin "sorted") [.ref a] [(Str.ofString "key", .ref fa)]) Q E s := by
  refine call_function_entry_kw kind_sorted plain_sorted entry_sorted (ksk_s1 _ _) ?_
  unfold Builtin.«sorted»
  refine wpAny_bind (m := checkCount "sorted" 1 1 _) (wpAny_pure ?_)
  have col : ∃ vs : List Value, Vals xvs vs ∧ ∀ {Q' : List Value → Shared → Prop}, (∀ h', (∀ b o', s.heap.get? b = some o' → h'.get? b = some o') → Q' vs { s with heap := h' }) → ∀ {A' : Around} {E' : Value → Shared → Prop}, wpAny (model X.prog X.w) A' (collect (.ref a)) Q' E' s := by
    rcases sq with sq | sq
    · obtain ⟨its, r, ⟨o, n, ho, hc, hd, hs⟩, hz⟩ := I.list sq
      exact ⟨its, r, fun {Q'} hq {A' E'} => wpAny_collect_seq a (.inl rfl) ho hc hs (fun h' kp => by simpa using hq h' kp) (by rw [List.size_toArray, ← r.length]; exact hz)⟩
    · obtain ⟨its, r, ⟨o, ho, hc, n, hs⟩, hz⟩ := I.tuple sq
      exact ⟨its, r, fun {Q'} hq {A' E'} => wpAny_collect_seq a (.inr rfl) ho hc hs (fun h' kp => by simpa using hq h' kp) (by rw [List.size_toArray, ← r.length]; exact hz)⟩
  obtain ⟨vs, rv, cl⟩ := col
  have hZ : vs.length ≤ sizeLine := by rw [(all_kis rv ra).length]; exact ok.sz
  refine wpAny_bind (cl fun h' kp => ?_)
  have I1 : Inv X pins σ H { s with heap := h' } := I.kept (t' := s.toks) kp
  have fD : Fsh X pins h'.objs.size := Fsh.of I1 (Nat.le_refl _)
  have nD : H h'.objs.size = none := I1.hok.fresh (Nat.le_refl _)
  refine wpAny_bind (wpAny_newList ?_ hZ)
  have I2 : Inv X pins σ H { s with heap := h'.push (seqObj "list" vs.toArray 0) } := I1.kept (t' := s.toks) fun b o q => Heap.get?_push_of_some _ q
  have hD : (h'.push (seqObj "list" vs.toArray 0)).get? h'.objs.size = some (seqObj "list" vs.toArray 0) := Heap.get?_push_size _ rfl
  refine wpAny_bind (wpAny_holding (wpAny_call_entry_kw slot_list_sort ⟨_, hD, rfl⟩ entry_list_sort ?body (ksk_l1 _ _)))
  case body =>
    show wpAny (model X.prog X.w) X.A.in1.in1 (Builtin.«list.sort» ⟨[.ref h'.objs.size], [(Str.ofString "key", .ref fa)]⟩) _ _ _
    rw [ksk_t1]
    refine sort_tree F hr hgd hb ok I2 R fD nD hD rv ra fun H' s' out I' R' nD' ra' st => ?_
    exact ⟨_, rfl, wpAny_pure ⟨_, rfl, h _ H' s' out I' R' nD' ra' st nD⟩⟩
end
end DL

/-! DL: sorted(xs, key=f) in a def's reading. -/
namespace DL
open PySem PySem.Spec L2 PySem.W PySem.Calls PyProof.Rows

section
variable {X : Cx} {fa : Addr} {fd : FuncData} {y : Str} {k : Nat} {S : FSp}
structure KeysN (S : FSp) (ds kz : List PyData) : Prop where
  len : kz.length = ds.length
  sz : ds.length ≤ sizeLine
  S : ∀ (i : Nat) d kd, ds[i]? = some d → kz[i]? = some kd → ∀ Q0 : PyData → List Slot → Prop, (∀ outs, Q0 kd outs) → S [.dat d] Q0
  al : AllAlike kz
  tup : ∀ d ∈ kz, ∃ xs, d = .tuple xs
  nd : ∀ d ∈ kz, d.hasDict = false
  dp : ∀ d ∈ kz, d.depth ≤ 60
def rSortK (X : Cx) (fa : Addr) (S : FSp) : List V → List V → Hp → VK → Prop := fun xs zs H Q => ∃ (B : Bs) (ρ : Rho) (σr : L2.St) (ds kz : List PyData) (a : Addr) (xvs : List V), xs = [.ref a] ∧ zs = [.ref fa] ∧ Rel X.K B ρ σr H ∧ (SqL X.K H a xvs ∨ SqT X.K H a xvs) ∧ RepA X.K H ds xvs ∧ KeysN S ds kz ∧
  ∀ D H' out, Rel X.K B ρ σr H' → H' D = none → RepA X.K H' (sortD ds kz) out → Stp ρ H ρ H' → H D = none → Q (.ref D) (upd H' D (.lst out))
theorem cr_sortK (F : FnG X.prog X.w X.K X.mg X.base CX0 k fa fd [y] (spOf X.K S)) (hr : Room (k + 2) X.A) (hgd : X.A.guards = some []) (hb : Binds X.K fd [y] []) (hu : X.A.units + 64 < cLine) : CallRK X (.builtin "sorted") [Str.ofString "key"] (rSortK X fa S) := by
  intro pins s σ H xs zs us ws Q I rx rz h
  obtain ⟨B, ρ, σr, ds, kz, a, xvs, rfl, rfl, R, sq, ra, ok, q⟩ := h
  obtain ⟨u, rfl, r1⟩ := vals1 rx
  obtain ⟨w, rfl, r2⟩ := vals1 rz
  cases r1
  cases r2
  have ok' : KeysOk X.A.in1.in1 S ds kz := ⟨ok.len, ok.sz, ok.S, ok.al, ok.tup, ok.nd, fun d hd => by
    have := ok.dp d hd
    show X.A.units + 1 + 1 + d.depth < cLine
    omega⟩
  exact sorted_by F hr.in1.in1 hgd hb ok' I R sq ra fun D H' s' out I' R' nD ra' st nD0 => ⟨.ref D, _, I', rfl, q D H' out R' nD ra' st nD0⟩
def nSortK (S : FSp) (te : DTE) : DTN := fun ρ Q => te ρ fun r ρ1 => ∃ ds kz, seqOf ρ1 r = some ds ∧ KeysN S ds kz ∧ Q (sortD ds kz) ρ1
variable {x xf : Str} {p pf kpos pos : Pos} {e : Expr} {te : DTE}
theorem dn_sortK (F : FnG X.prog X.w X.K X.mg X.base CX0 k fa fd [y] (spOf X.K S)) (hr : Room (k + 2) X.A) (hgd : X.A.guards = some []) (hb : Binds X.K fd [y] []) (hu : X.A.units + 64 < cLine)
    (hg : Gl X x) (hm : X.mg x = none) (hv : bootBuiltins x = some (.builtin "sorted")) (he : DE X e te) (hgf : Gl X xf) (hmf : X.mg xf = some (.ref fa)) (hn : x ≠ "__name__" := by decide) (hdb : (x == ("__debug__" : Str)) = false := by decide) (hdf : (xf == ("__debug__" : Str)) = false := by decide)
    (h1 : starEach [e] X.env = (false, eval e X.env) :: starEach [] X.env := by rfl)
    (hst : backTo pos (starEach [e] X.env) = (false, eval e X.env) :: backTo pos (starEach [] X.env) := by rfl) (hpl : (backTo pos (starEach [e] X.env)).any (·.1) = false := by rfl)
    (hall : (backToKw pos (keywordEach [⟨some (Str.ofString "key"), .Name xf pf, kpos⟩] X.env)).all (·.1.isSome) = true := by rfl) (hnone : (backToKw pos (keywordEach [⟨some (Str.ofString "key"), .Name xf pf, kpos⟩] X.env)).any (·.1.isNone) = false := by rfl) (hks : (backToKw pos (keywordEach [⟨some (Str.ofString "key"), .Name xf pf, kpos⟩] X.env)).filterMap (·.1) = [Str.ofString "key"] := by rfl) :
    DN X (.Call (.Name x p) [e] [⟨some (Str.ofString "key"), .Name xf pf, kpos⟩] pos) (nSortK S te) := by
  refine pe_imp (pe_callBK (cr_sortK F hr hgd hb hu) hg hm hv (pa_cons he pa_nil h1) (pk_cons (pe_glob (v := .ref fa) hgf hmf rfl hdf) pk_nil) hn hdb hst hpl hall hnone hks) fun σ H Q ⟨B, ρ, Q0, R, q, kk⟩ => ?_
  refine ⟨B, ρ, _, R, q, fun r ρ1 v H1 q1 R1 k1 s1 => ?_⟩
  obtain ⟨ds, kz, es, ok, q1⟩ := q1
  obtain ⟨a, us, rfl, h1, ra⟩ := seq_now R1 k1 es
  refine ⟨B, ρ1, σ, ds, kz, a, us, rfl, rfl, R1, h1, ra, ok, fun D H' out R' nD ra' st nD0 => ?_⟩
  have sm : Same H' (upd H' D (.lst out)) := same_new nD
  obtain ⟨f0, f1⟩ := R'.new nD
  exact kk _ ρ1 D out _ q1 (R'.same sm) upd_same (ra'.mono (Kp.same sm) _ _) ((s1.trans st).none nD) f0 f1 ((s1.trans st).trans (Stp.same sm))
end
end DL

/-! DL: rows of worths in their order. -/
namespace DL
open PySem PySem.Spec L2 PySem.W PyProof.Rows

inductive WOk : PyData → Prop
  | non : WOk .none
  | int {i : Int} : -1000000000000 ≤ i ∧ i ≤ 1000000000000 → WOk (.int i)
  | str {x : Str} : x.length ≤ 8 → x.cps.toList.all low = true → WOk (.str x)
def wkey : PyData → PyData
  | .none => .tuple [.int 0, .int 0, .str ""]
  | .str x => .tuple [.int 2, .int 0, .str x]
  | d => .tuple [.int 1, d, .str ""]
def rkey (r : List PyData) : PyData := .tuple (r.map wkey)
def rankW : PyData → Int
  | .none => 0
  | .str _ => 2
  | _ => 1
structure RwOk (r : List PyData) : Prop where
  len : r.length ≤ 8
  ok : ∀ d ∈ r, WOk d
theorem alike_wkey {a b : PyData} (ha : WOk a) (hb : WOk b) : alike (wkey a) (wkey b) = true := by
  cases ha <;> cases hb <;> simp [wkey, alike, alikeAll]
theorem alike_rkeys : ∀ {r q : List PyData}, (∀ d ∈ r, WOk d) → (∀ d ∈ q, WOk d) → alikeAll (r.map wkey) (q.map wkey) = true
  | [], q, _, _ => by cases q <;> simp [alikeAll]
  | a :: r, [], _, _ => by simp [alikeAll]
  | a :: r, b :: q, h1, h2 => by
    rw [List.map_cons, List.map_cons, alikeAll, alike_wkey (h1 a (by simp)) (h2 b (by simp)), alike_rkeys (fun d hd => h1 d (by simp [hd])) (fun d hd => h2 d (by simp [hd]))]
    rfl
def ltW (a b : PyData) : Bool := dataLt (wkey a) (wkey b)
def ltR (r q : List PyData) : Bool := lexLt itemOrd (keyToksAll (r.map wkey)) (keyToksAll (q.map wkey))
theorem ltR_eq (r q : List PyData) : ltR r q = dataLt (rkey r) (rkey q) := (dataLt_tuple _ _).symm
theorem tri {x y z x' y' z' : PyData} (h : alike x x' = true) (h' : alike y y' = true) (h2 : alike z z' = true) : dataLt (.tuple [x, y, z]) (.tuple [x', y', z']) = if PyData.eqv x x' = true then (if PyData.eqv y y' = true then (if PyData.eqv z z' = true then false else dataLt z z') else dataLt y y') else dataLt x x' := by
  rw [dataLt_tuple, dataLt_cons h, dataLt_cons h', dataLt_cons h2]
  have e : lexLt itemOrd (keyToksAll []) (keyToksAll []) = false := lex_irrefl _
  rw [e]
theorem ltW_ii (i j : Int) : ltW (.int i) (.int j) = decide (i < j) := by
  show dataLt (.tuple [.int 1, .int i, .str ""]) (.tuple [.int 1, .int j, .str ""]) = _
  rw [tri (by simp [alike]) (by simp [alike]) (by simp [alike]), dataLt_int, dataLt_int, eqv_int, eqv_int, eqv_str]
  by_cases h : i = j <;> simp [h]
theorem ltW_ss (x y : Str) : ltW (.str x) (.str y) = decide (x.cps.toList < y.cps.toList) := by
  show dataLt (.tuple [.int 2, .int 0, .str x]) (.tuple [.int 2, .int 0, .str y]) = _
  rw [tri (by simp [alike]) (by simp [alike]) (by simp [alike]), dataLt_str, eqv_int, eqv_int, eqv_str]
  by_cases h : x = y
  · subst h
    simp
  · simp [h]
theorem ltW_rank {a b : PyData} (ha : WOk a) (hb : WOk b) (h : rankW a ≠ rankW b) : ltW a b = decide (rankW a < rankW b) := by
  cases ha <;> cases hb <;> first
    | exact absurd rfl h
    | (show dataLt (.tuple _) (.tuple _) = _
       rw [tri (by simp [alike]) (by simp [alike]) (by simp [alike]), dataLt_int, eqv_int, if_neg (by decide)]
       rfl)
theorem ltW_self (a : PyData) : ltW a a = false := lex_irrefl _
theorem eqv_wkey {a b : PyData} (ha : WOk a) (hb : WOk b) : PyData.eqv (wkey a) (wkey b) = true ↔ a = b := by
  cases ha <;> cases hb <;> simp [wkey, PyData.eqv, PyData.eqvAll]
theorem ltR_same {a : PyData} {r q : List PyData} (ha : WOk a) : ltR (a :: r) (a :: q) = ltR r q := by
  unfold ltR
  rw [List.map_cons, List.map_cons, dataLt_cons (alike_wkey ha ha), if_pos ((eqv_wkey ha ha).mpr rfl)]
theorem ltR_diff {a b : PyData} {r q : List PyData} (ha : WOk a) (hb : WOk b) (h : a ≠ b) : ltR (a :: r) (b :: q) = ltW a b := by
  unfold ltR ltW
  rw [List.map_cons, List.map_cons, dataLt_cons (alike_wkey ha hb), if_neg fun z => h ((eqv_wkey ha hb).mp z)]
theorem ltR_nil (r : List PyData) : ltR r [] = false := by
  cases r with
  | nil => exact lex_irrefl _
  | cons a r =>
    show lexLt itemOrd (.inl 1 :: _) [.inl 0] = false
    rw [show ([.inl 0] : List (Int ⊕ List Nat)) = .inl 0 :: [] from rfl, lex_atom (by simp)]
    decide
theorem ltR_one (b : PyData) (q : List PyData) : ltR [] (b :: q) = true := by
  show lexLt itemOrd [.inl 0] (.inl 1 :: _) = true
  rw [show ([.inl 0] : List (Int ⊕ List Nat)) = .inl 0 :: [] from rfl, lex_atom (by simp)]
  decide
theorem ltW_anti {a b : PyData} (ha : WOk a) (hb : WOk b) (h1 : ltW a b = false) (h2 : ltW b a = false) : a = b := by
  by_cases hr : rankW a = rankW b
  · cases ha <;> cases hb <;> first
      | rfl
      | (simp [rankW] at hr; done)
      | (rw [ltW_ii, decide_eq_false_iff_not] at h1 h2; congr 1; omega)
      | (rw [ltW_ss, decide_eq_false_iff_not] at h1 h2
         congr 1
         exact str_ext (List.le_antisymm (List.not_lt.mp h2) (List.not_lt.mp h1)))
  · rw [ltW_rank ha hb hr, decide_eq_false_iff_not] at h1
    rw [ltW_rank hb ha (Ne.symm hr), decide_eq_false_iff_not] at h2
    omega
theorem ltR_anti : ∀ {r q : List PyData}, (∀ d ∈ r, WOk d) → (∀ d ∈ q, WOk d) → ltR r q = false → ltR q r = false → r = q
  | [], [], _, _, _, _ => rfl
  | [], b :: q, _, _, h, _ => by rw [ltR_one] at h; cases h
  | a :: r, [], _, _, _, h => by rw [ltR_one] at h; cases h
  | a :: r, b :: q, h1, h2, h3, h4 => by
    have ha := h1 a (by simp)
    have hb := h2 b (by simp)
    by_cases e : a = b
    · subst e
      rw [ltR_same ha] at h3 h4
      rw [ltR_anti (fun d hd => h1 d (by simp [hd])) (fun d hd => h2 d (by simp [hd])) h3 h4]
    · rw [ltR_diff ha hb e] at h3
      rw [ltR_diff hb ha (Ne.symm e)] at h4
      exact absurd (ltW_anti ha hb h3 h4) e
/-- rows in order -/
def leR : List PyData → List PyData → Bool := dataLe false rkey
theorem leR_eq (r q : List PyData) : leR r q = !ltR q r := by rw [ltR_eq]; rfl
theorem leR_total : TotalLe leR := sortLe_total (listOrd itemOrd) false fun b => keyToks (rkey b)
def srt (rs : List (List PyData)) : List (List PyData) := rs.mergeSort leR
theorem sortD_rows (rs : List (List PyData)) : sortD (rs.map .tuple) (rs.map rkey) = (srt rs).map .tuple := by
  unfold sortD srt
  have e : (rs.map PyData.tuple).zip (rs.map rkey) = rs.map fun r => (PyData.tuple r, rkey r) := by
    rw [List.zip_map_left, List.zip_map_right]
    induction rs with
    | nil => rfl
    | cons r rs ih => simp_all
  rw [e, ← sort_maps (r := leR) (fun r => (PyData.tuple r, rkey r)) (fun a _ b _ => rfl), List.map_map]
  rfl
theorem one_sorted {α : Type} {le : α → α → Bool} : ∀ {l m : List α}, (∀ a ∈ l, ∀ b ∈ l, le a b = true → le b a = true → a = b) → l.Perm m → l.Pairwise (fun a b => le a b = true) → m.Pairwise (fun a b => le a b = true) → l = m
  | [], m, _, p, _, _ => by rw [List.nil_perm.mp p]
  | a :: l, [], _, p, _, _ => by cases List.perm_nil.mp p
  | a :: l, b :: m, anti, p, h1, h2 => by
    have e : a = b := by
      by_cases e : a = b
      · exact e
      have ma : a ∈ m := by
        rcases List.mem_cons.mp (p.mem_iff.mp List.mem_cons_self) with z | z
        · exact absurd z e
        · exact z
      have mb : b ∈ l := by
        rcases List.mem_cons.mp (p.mem_iff.mpr List.mem_cons_self) with z | z
        · exact absurd z.symm e
        · exact z
      exact anti a List.mem_cons_self b (List.mem_cons_of_mem _ mb) ((List.pairwise_cons.mp h1).1 b mb) ((List.pairwise_cons.mp h2).1 a ma)
    subst e
    rw [one_sorted (fun x hx y hy => anti x (List.mem_cons_of_mem _ hx) y (List.mem_cons_of_mem _ hy)) (List.Perm.cons_inv p) (List.pairwise_cons.mp h1).2 (List.pairwise_cons.mp h2).2]
/-- the one sorted list -/
theorem srt_one {rs m : List (List PyData)} (ok : ∀ r ∈ rs, RwOk r) (p : m.Perm rs) (h : m.Pairwise fun a b => leR a b = true) : m = srt rs := by
  refine one_sorted (le := leR) (fun a ha b hb h1 h2 => ?_) (p.trans (List.mergeSort_perm rs leR).symm) h (sort_pairwise leR_total rs)
  rw [leR_eq, Bool.not_eq_true'] at h1 h2
  exact ltR_anti (ok a (p.mem_iff.mp ha)).ok (ok b (p.mem_iff.mp hb)).ok h2 h1
theorem srt_perm (rs : List (List PyData)) : (srt rs).Perm rs := List.mergeSort_perm rs leR
/-- the row is put behind all that are not greater -/
theorem prefix_of {α : Type} {p : α → Bool} : ∀ {l : List α}, l.Pairwise (fun a b => p b = true → p a = true) → (∀ x ∈ l.take (l.filter p).length, p x = true) ∧ ∀ x ∈ l.drop (l.filter p).length, p x = false
  | [], _ => ⟨fun x h => by simp at h, fun x h => by simp at h⟩
  | a :: l, h => by
    have hh := List.pairwise_cons.mp h
    have ih := prefix_of hh.2
    by_cases e : p a = true
    · rw [List.filter_cons_of_pos e, List.length_cons, List.take_succ_cons, List.drop_succ_cons]
      exact ⟨fun x hx => (List.mem_cons.mp hx).elim (fun z => z ▸ e) (ih.1 x), ih.2⟩
    · have none : ∀ x ∈ l, p x = false := fun x hx => by
        by_cases q : p x = true
        · exact absurd (hh.1 x hx q) e
        · simpa using q
      rw [List.filter_cons_of_neg e, List.filter_eq_nil_iff.mpr fun x hx => by rw [none x hx]; simp]
      refine ⟨fun x hx => by simp at hx, fun x hx => ?_⟩
      rcases List.mem_cons.mp hx with rfl | hx
      · simpa using e
      · exact none x hx
theorem put_sorted {l : List (List PyData)} {r : List PyData} (h : l.Pairwise fun a b => leR a b = true) : (l.take (l.filter fun a => !ltR r a).length ++ r :: l.drop (l.filter fun a => !ltR r a).length).Pairwise fun a b => leR a b = true := by
  have pre : l.Pairwise (fun a b => (!ltR r b) = true → (!ltR r a) = true) := h.imp fun {a b} hab hb => by
    rw [← leR_eq] at hb ⊢
    exact leR_total.trans _ _ _ hab hb
  have q := prefix_of pre
  generalize (l.filter fun a => !ltR r a).length = n at q
  have e : l.take n ++ l.drop n = l := List.take_append_drop n l
  rw [← e] at h
  obtain ⟨h1, h2, h3⟩ := List.pairwise_append.mp h
  refine List.pairwise_append.mpr ⟨h1, List.pairwise_cons.mpr ⟨fun x hx => ?_, h2⟩, fun x hx y hy => ?_⟩
  · have z := q.2 x hx
    rcases leR_total.total r x with t | t
    · exact t
    · rw [leR_eq] at t
      rw [t] at z
      cases z
  · rcases List.mem_cons.mp hy with rfl | hy
    · rw [leR_eq]; exact q.1 x hx
    · exact h3 x hx y hy
theorem put_perm (l : List (List PyData)) (r : List PyData) (n : Nat) : (l.take n ++ r :: l.drop n).Perm (l ++ [r]) := by
  refine List.perm_middle.trans ?_
  rw [List.take_append_drop]
  exact (List.perm_append_comm (l₁ := [r]) (l₂ := l))
theorem wkey_nd {d : PyData} (h : WOk d) : (wkey d).hasDict = false ∧ (wkey d).depth = 1 := by
  cases h <;> simp [wkey, PyData.hasDict, PyData.hasDictAll, PyData.depth, PyData.depthAll]
theorem rkey_nd {r : List PyData} (h : ∀ d ∈ r, WOk d) : (rkey r).hasDict = false := by
  unfold rkey
  rw [PyData.hasDict]
  induction r with
  | nil => rfl
  | cons a r ih => rw [List.map_cons, PyData.hasDictAll, (wkey_nd (h a (by simp))).1, ih fun d hd => h d (by simp [hd])]; rfl
theorem rkey_dp {r : List PyData} (h : ∀ d ∈ r, WOk d) : (rkey r).depth ≤ 60 := by
  have q : PyData.depthAll (r.map wkey) ≤ 1 := dp_all.mpr fun x hx => by
    obtain ⟨d, hd, rfl⟩ := List.mem_map.mp hx
    rw [(wkey_nd (h d hd)).2]
    exact Nat.le_refl _
  unfold rkey
  rw [PyData.depth]
  omega
theorem WOk.sd {d : PyData} (h : WOk d) : Sd 8 0 d := by
  cases h with
  | non => exact .none
  | int h => exact .int (by omega)
  | str h1 h2 => exact .str (low_cps h2) h1
theorem rows_sd {rs : List (List PyData)} (h1 : rs.length ≤ 40) (h2 : ∀ r ∈ rs, RwOk r) : Showd (.tuple (rs.map .tuple)) := by
  have q : Sd ((rs.map PyData.tuple).length * (72 + 1)) 2 (.tuple (rs.map .tuple)) := Sd.tuple fun d hd => by
    obtain ⟨r, hr, rfl⟩ := List.mem_map.mp hd
    have z : Sd (r.length * (8 + 1)) 1 (.tuple r) := Sd.tuple fun x hx => ((h2 r hr).ok x hx).sd
    have := (h2 r hr).len
    exact z.le (by omega) (Nat.le_refl _)
  exact (q.le (b' := 2920) (by rw [List.length_map]; omega) (Nat.le_refl _)).ok
theorem fm_len {α β : Type} (p : α → Bool) (g : α → β) : ∀ l : List α, (l.filterMap fun x => if p x = true then some (g x) else none).length = (l.filter p).length
  | [] => rfl
  | x :: l => by
    by_cases h : p x = true
    · rw [List.filterMap_cons_some (b := g x) (by rw [if_pos h]), List.filter_cons_of_pos h, List.length_cons, List.length_cons, fm_len p g l]
    · rw [List.filterMap_cons_none (by rw [if_neg h]), List.filter_cons_of_neg h, fm_len p g l]
end DL

namespace K02
open PySem PySem.Spec L2 DL
/-! ### the text -/
def topS (i : Nat) : Stmt := PySem.Challenge.pw_stillboughs_k02_rows_rising.main.body.getD i (.Pass ⟨0, 0, 0, 0⟩)
abbrev s_worth_key : Stmt := topS 1
theorem sc_worth_key : FnScope ["worth"] ["worth"] (defScope s_worth_key) := ⟨rfl, rfl, rfl, by decide +kernel, rfl, by decide +kernel, by decide +kernel⟩
abbrev s_row_key : Stmt := topS 2
theorem sc_row_key : FnScope ["row", "worth"] ["row"] (defScope s_row_key) := ⟨rfl, rfl, rfl, by decide +kernel, rfl, by decide +kernel, by decide +kernel⟩
abbrev s_rising : Stmt := topS 3
theorem sc_rising : FnScope ["rows"] ["rows"] (defScope s_rising) := ⟨rfl, rfl, rfl, by decide +kernel, rfl, by decide +kernel, by decide +kernel⟩
abbrev s__law_deck : Stmt := topS 5
theorem sc__law_deck : FnScope ["script"] ["script"] (defScope s__law_deck) := ⟨rfl, rfl, rfl, by decide +kernel, rfl, by decide +kernel, by decide +kernel⟩
abbrev s__law_draw : Stmt := topS 6
theorem sc__law_draw : FnScope ["deck", "most", "seed", "mixed"] ["deck", "most"] (defScope s__law_draw) := ⟨rfl, rfl, rfl, by decide +kernel, rfl, by decide +kernel, by decide +kernel⟩
abbrev s__law_pick : Stmt := topS 7
theorem sc__law_pick : FnScope ["deck", "some"] ["deck", "some"] (defScope s__law_pick) := ⟨rfl, rfl, rfl, by decide +kernel, rfl, by decide +kernel, by decide +kernel⟩
abbrev s__law_worth : Stmt := topS 8
theorem sc__law_worth : FnScope ["deck", "sort", "letters", "k"] ["deck"] (defScope s__law_worth) := ⟨rfl, rfl, rfl, by decide +kernel, rfl, by decide +kernel, by decide +kernel⟩
abbrev s__law_lines : Stmt := topS 9
theorem sc__law_lines : FnScope ["deck", "many", "found", "k", "begun", "line", "j"] ["deck", "many"] (defScope s__law_lines) := ⟨rfl, rfl, rfl, by decide +kernel, rfl, by decide +kernel, by decide +kernel⟩
abbrev s__law_rank : Stmt := topS 10
theorem sc__law_rank : FnScope ["worth"] ["worth"] (defScope s__law_rank) := ⟨rfl, rfl, rfl, by decide +kernel, rfl, by decide +kernel, by decide +kernel⟩
abbrev s__law_is_less : Stmt := topS 11
theorem sc__law_is_less : FnScope ["one", "two", "k"] ["one", "two"] (defScope s__law_is_less) := ⟨rfl, rfl, rfl, by decide +kernel, rfl, by decide +kernel, by decide +kernel⟩
abbrev s__law_due : Stmt := topS 12
theorem sc__law_due : FnScope ["lines", "found", "line", "spot", "one"] ["lines"] (defScope s__law_due) := ⟨rfl, rfl, rfl, by decide +kernel, rfl, by decide +kernel, by decide +kernel⟩
abbrev s_law : Stmt := topS 13
theorem sc_law : FnScope ["script", "deck", "turn", "great", "lines", "kept", "due", "told"] ["script"] (defScope s_law) := ⟨rfl, rfl, rfl, by decide +kernel, rfl, by decide +kernel, by decide +kernel⟩
end K02

namespace K02
open PySem PySem.Spec L2 DL

abbrev S__law_draw : FSp := ddrawS
abbrev S__law_pick : FSp := pickS
def tupR (rs : List (List PyData)) : PyData := .tuple (rs.map .tuple)
theorem tupR_inj {rs qs : List (List PyData)} : (tupR rs = tupR qs) = (rs = qs) := by
  apply propext
  unfold tupR
  refine ⟨fun h => ?_, fun h => by rw [h]⟩
  injection h with h
  exact (List.map_inj_right (fun x y e => by injection e)).mp h
theorem tupR_tup {rs : List (List PyData)} {ds : List PyData} : (tupR rs = PyData.tuple ds) = (rs.map .tuple = ds) := by
  apply propext
  unfold tupR
  exact ⟨fun h => by injection h, fun h => by rw [h]⟩
theorem tup_rev {rs qs : List (List PyData)} : (PyData.tuple (rs.map PyData.tuple).reverse = tupR qs) = (rs.reverse = qs) := by
  rw [← List.map_reverse]
  exact tupR_inj (rs := rs.reverse)
def RsOk (rs : List (List PyData)) : Prop := rs.length ≤ 40 ∧ ∀ r ∈ rs, RwOk r
def S_worth_key : FSp := fun as Q0 => ∃ d, as = [.dat d] ∧ WOk d ∧ Q0 (wkey d) [.no]
def S_row_key : FSp := fun as Q0 => ∃ r, as = [.dat (.tuple r)] ∧ RwOk r ∧ Q0 (rkey r) [.no]
def S_rising : FSp := fun as Q0 => ∃ rs, as = [.dat (tupR rs)] ∧ RsOk rs ∧ Q0 (tupR (srt rs)) [.no]
def S__law_worth : FSp := fun as Q0 => ∃ a c, as = [ddSlot a c] ∧ ∀ d, WOk d → Q0 d [ddSlot a c]
def S__law_lines : FSp := fun as Q0 => ∃ a c n, as = [ddSlot a c, .dat (.int n)] ∧ 0 ≤ n ∧ n ≤ 40 ∧ ∀ rs, RsOk rs → Q0 (tupR rs) [ddSlot a c, .no]
def S__law_rank : FSp := fun as Q0 => ∃ d, as = [.dat d] ∧ WOk d ∧ Q0 (.int (rankW d)) [.no]
def S__law_is_less : FSp := fun as Q0 => ∃ r q, as = [.dat (.tuple r), .dat (.tuple q)] ∧ RwOk r ∧ RwOk q ∧ Q0 (.bool (ltR r q)) [.no, .no]
def S__law_due : FSp := fun as Q0 => ∃ rs, as = [.dat (tupR rs)] ∧ RsOk rs ∧ Q0 (tupR (srt rs)) [.no]

theorem gpn_0_1_0 (x0 : Rv) : gp 0 1 [0] [] [x0] = [x0] := rfl
local macro_rules | `(tactic| walk_at "ds") => `(tactic| simp (config := { maxSteps := 4000000, failIfUnchanged := false }) only [dSeq, dNext, dIfS, dRet_eq, rtS_dat, rtS_own, dRetN, dSet, dSetN, dDrop, dOp, dVar_eq, dvS_dat, dvS_own, dvS_rd, dvS_dd, dC, dB, dAnd, dOr, dNot, dAndV, dOrV, dNotV, dIf, dNil, dCons, dTup, nLst, dNew, dats_nil, dats_dat, dAsg, dgTup, dgCons, dgNil, dgName, dPar, dPar3, dCB, nCB, fMulS, fAdd, fSub, fMul, fDiv, fMod, fPow, fNeg, dNeg, fLt, fLe, fGt, fGe, fEqB, fIsN, fNotN, fIsB, fNotB, fLen, fTuple, fList, fAll, fAny, fInS, fInB, fInD, fReprD, fIx, dIsi, dChain, dChainS, dKIn, dKIx, dKGet, dCall, dCallK, argSlot_own, argSlot_dat, argS_dd, argS_own, argS_rd, extIx_own, extIx_dat, extIx_nil, exI_dd, exI_own, exI_rd, putBack_dd, putBack_no, putBack_dat, putBack_nil, listOf_own, listOf_list, loS_own, loS_rd, seqOf_tup, seqOf_list, seqOf_own, datOf_dat, datOf_own, fnEnds_rt, fnEnds_nx, outsOf_nil, outsOf_dd, outsOf_dat, outsOf_rd, draw_iff, nLc_eq, dFor_eq, dDc_eq, dLenSc_eq, dGet1, dGet2, keyOf_str, keyOf_int, fDix, fInK, nLrg1, nLrg2, dApp, dPopAt, dPop, dIns, dParNN, fInt, fMin2S, fMax2S, nRev, dRevT, dStar, iterOf_tup, iterOf_list, iterOf_own, xRet, fSum, dIter, dIterS, dRng1, dRng2, dZipS, dNoPart, dPart, dSlT, nSl, nAdd, dJoin, dDisp0, ddSlot_inj, wipeR, DL.plain, isNn_none, isNn_bool, isNn_int, isNn_str, isNn_list, isNn_tuple, isNn_dict, Option.isSome_some, Option.isSome_none, and_assoc, fEmp_tup, fEmp_own, fEmp_list, fAddB_ii, fAddB_bi, fAddB_ss, fAddB_tt, fSubB_ii, fSubB_bi, fSubB_ib, fMulB_ii, fMulB_bi, fEqI_ii, fEqI_bi, fStr_i, fStr_b, dUpper, List.map_cons, List.map_nil, List.length_map, List.length_reverse, List.getElem?_cons_zero, List.getElem?_cons_succ, List.getElem?_nil, List.set_cons_zero, List.set_cons_succ, List.length_cons, List.length_nil, List.cons.injEq, List.nodup_cons, List.not_mem_nil, List.nodup_nil, List.cons_append, List.nil_append, List.append_nil, Slot.dat.injEq, Slot.own.injEq, Slot.rd.injEq, Rv.dat.injEq, PyData.int.injEq, PyData.str.injEq, PyData.bool.injEq, PyData.tuple.injEq, PyData.list.injEq, PyData.dict.injEq, Option.some.injEq, Option.map_some, Option.map_none, Bool.not_true, Bool.not_false, Bool.not_not, Nat.reduceAdd, Nat.reduceSub, Nat.reduceMul, Nat.reducePow, Nat.reduceLT, Nat.reduceLeDiff, Int.reduceLT, Int.reduceLE, Int.reducePow, Int.reduceNeg, Int.reduceToNat, Int.reduceAdd, Int.reduceSub, Int.reduceMul, Int.reduceNegSucc, Nat.reduceEqDiff, Int.reduceEq, Nat.le_refl, sizeLine_eq, ne_eq, dDisp, cpow_10_2, cpow_10_3, cpow_10_6, cpow_10_9, cpow_10_12, cpow_10_18, cpow_10_39, cpow_10_60, atI_0, atI_1, atI_2, atI_3, List.zip_cons_cons, List.zip_nil_left, List.zip_nil_right, List.reduceReplicate, List.flatten_cons, List.flatten_nil, mergeD_nil, mergeD_one, dYes, letters_ok1, letters_ok2, letters_ok3, eqv_str, eqv_int, flatD_str, flatD_int, flatD_none, flatD_bool, List.any_cons, List.any_nil, List.all_cons, List.all_nil, merge_dictOf, dget_dictOf, lastOf_nil, lastOf_cons, Sum.inl.injEq, Sum.inr.injEq, Option.none_or, Option.some_or, Option.or_none, eq_self, Int.cast_ofNat_Int, Option.getD_some, Option.getD_none, ltS_a, ltS_z, dSetIx, dSetDd, nRep, reduceCtorEq, true_and, and_true, false_and, and_false, not_false_eq_true, not_true_eq_false, exists_eq_left, exists_eq_left', exists_eq_right, exists_eq_right', exists_and_left, exists_and_right, exists_const, Bool.true_eq_false, Bool.false_eq_true, forall_const, implies_true, false_imp_iff, true_imp_iff, Bool.true_or, Bool.or_true, Bool.false_or, Bool.or_false, Bool.true_and, Bool.and_true, Bool.false_and, Bool.and_false, pick_iff, itS_list, itS_tup, itS_str, itS_rd, itS_own, true_implies, false_implies, if_true, if_false, decide_true, decide_false, ownAt_cons0, ownAt_cons, one_inj, exists_eq, exists_eq', isTx_str, isNum_int, isWh_int, isTx_none, Tsm_none, isWh_none, isNum_none, isTx_bool, Tsm_bool, isWh_bool, isNum_bool, isTx_int, Tsm_int, isWh_str, isNum_str, isTx_list, Tsm_list, isWh_list, isNum_list, isTx_tuple, Tsm_tuple, isWh_tuple, isNum_tuple, isTx_dict, Tsm_dict, isWh_dict, isNum_dict, isi_int_none, isi_int_bool, isi_int_int, isi_int_str, isi_int_list, isi_int_tuple, isi_int_dict, isi_str_none, isi_str_bool, isi_str_int, isi_str_str, isi_str_list, isi_str_tuple, isi_str_dict, isi_bool_none, isi_bool_bool, isi_bool_int, isi_bool_str, isi_bool_list, isi_bool_tuple, isi_bool_dict, isi_tuple_none, isi_tuple_bool, isi_tuple_int, isi_tuple_str, isi_tuple_list, isi_tuple_tuple, isi_tuple_dict, isi_list_none, isi_list_bool, isi_list_int, isi_list_str, isi_list_list, isi_list_tuple, isi_list_dict, isi_dict_none, isi_dict_bool, isi_dict_int, isi_dict_str, isi_dict_list, isi_dict_tuple, isi_dict_dict, gpn_0_1_0, S_worth_key, S_row_key, S_rising, S__law_worth, S__law_lines, S__law_rank, S__law_is_less, S__law_due, List.forall_mem_map, nSortK, tupR_inj, tupR_tup, tup_rev])
local macro_rules | `(tactic| walk_at "dq") => `(tactic| simp (config := { maxSteps := 4000000, failIfUnchanged := false }) only [dSeq, dNext, dIfS, dRet_eq, rtS_dat, rtS_own, dRetN, dSet, dSetN, dDrop, dOp, dVar_eq, dvS_dat, dvS_own, dvS_rd, dvS_dd, dC, dB, dAnd, dOr, dNot, dAndV, dOrV, dNotV, dIf, dNil, dCons, dTup, nLst, dNew, dats_nil, dats_dat, dAsg, dgTup, dgCons, dgNil, dgName, dPar, dPar3, dCB, nCB, fMulS, fAdd, fSub, fMul, fDiv, fMod, fPow, fNeg, dNeg, fLt, fLe, fGt, fGe, fEqB, fIsN, fNotN, fIsB, fNotB, fLen, fTuple, fList, fAll, fAny, fInS, fInB, fInD, fReprD, dIsi, dChain, dChainS, dKIn, dKIx, dKGet, dCall, dCallK, argSlot_own, argSlot_dat, argS_dd, argS_own, argS_rd, extIx_own, extIx_dat, extIx_nil, exI_dd, exI_own, exI_rd, putBack_dd, putBack_no, putBack_dat, putBack_nil, listOf_own, listOf_list, loS_own, loS_rd, seqOf_tup, seqOf_list, seqOf_own, datOf_dat, datOf_own, fnEnds_rt, fnEnds_nx, outsOf_nil, outsOf_dd, outsOf_dat, outsOf_rd, draw_iff, nLc_eq, dFor_eq, dDc_eq, dLenSc_eq, dGet1, dGet2, keyOf_str, keyOf_int, fDix, fInK, nLrg1, nLrg2, dApp, dPopAt, dPop, dIns, dParNN, fInt, fMin2S, fMax2S, nRev, dRevT, dStar, iterOf_tup, iterOf_list, iterOf_own, xRet, fSum, dIter, dIterS, dRng1, dRng2, dZipS, dNoPart, dPart, dSlT, nSl, nAdd, dJoin, dDisp0, ddSlot_inj, wipeR, DL.plain, isNn_none, isNn_bool, isNn_int, isNn_str, isNn_list, isNn_tuple, isNn_dict, Option.isSome_some, Option.isSome_none, and_assoc, fEmp_tup, fEmp_own, fEmp_list, fAddB_ii, fAddB_bi, fAddB_ss, fAddB_tt, fSubB_ii, fSubB_bi, fSubB_ib, fMulB_ii, fMulB_bi, fEqI_ii, fEqI_bi, fStr_i, fStr_b, dUpper, List.map_cons, List.map_nil, List.length_map, List.length_reverse, List.getElem?_cons_zero, List.getElem?_cons_succ, List.getElem?_nil, List.set_cons_zero, List.set_cons_succ, List.length_cons, List.length_nil, List.cons.injEq, List.nodup_cons, List.not_mem_nil, List.nodup_nil, List.cons_append, List.nil_append, List.append_nil, Slot.dat.injEq, Slot.own.injEq, Slot.rd.injEq, Rv.dat.injEq, PyData.int.injEq, PyData.str.injEq, PyData.bool.injEq, PyData.tuple.injEq, PyData.list.injEq, PyData.dict.injEq, Option.some.injEq, Option.map_some, Option.map_none, Bool.not_true, Bool.not_false, Bool.not_not, Nat.reduceAdd, Nat.reduceSub, Nat.reduceMul, Nat.reducePow, Nat.reduceLT, Nat.reduceLeDiff, Int.reduceLT, Int.reduceLE, Int.reducePow, Int.reduceNeg, Int.reduceToNat, Int.reduceAdd, Int.reduceSub, Int.reduceMul, Int.reduceNegSucc, Nat.reduceEqDiff, Int.reduceEq, Nat.le_refl, sizeLine_eq, ne_eq, dDisp, cpow_10_2, cpow_10_3, cpow_10_6, cpow_10_9, cpow_10_12, cpow_10_18, cpow_10_39, cpow_10_60, atI_0, atI_1, atI_2, atI_3, List.zip_cons_cons, List.zip_nil_left, List.zip_nil_right, List.reduceReplicate, List.flatten_cons, List.flatten_nil, mergeD_nil, mergeD_one, dYes, letters_ok1, letters_ok2, letters_ok3, eqv_str, eqv_int, flatD_str, flatD_int, flatD_none, flatD_bool, List.any_cons, List.any_nil, List.all_cons, List.all_nil, merge_dictOf, dget_dictOf, lastOf_nil, lastOf_cons, Sum.inl.injEq, Sum.inr.injEq, Option.none_or, Option.some_or, Option.or_none, eq_self, Int.cast_ofNat_Int, Option.getD_some, Option.getD_none, ltS_a, ltS_z, dSetIx, dSetDd, nRep, reduceCtorEq, true_and, and_true, false_and, and_false, not_false_eq_true, not_true_eq_false, exists_eq_left, exists_eq_left', exists_eq_right, exists_eq_right', exists_and_left, exists_and_right, exists_const, Bool.true_eq_false, Bool.false_eq_true, forall_const, implies_true, false_imp_iff, true_imp_iff, Bool.true_or, Bool.or_true, Bool.false_or, Bool.or_false, Bool.true_and, Bool.and_true, Bool.false_and, Bool.and_false, pick_iff, itS_list, itS_tup, itS_str, itS_rd, itS_own, true_implies, false_implies, if_true, if_false, decide_true, decide_false, ownAt_cons0, ownAt_cons, one_inj, exists_eq, exists_eq', isTx_str, isNum_int, isWh_int, isTx_none, Tsm_none, isWh_none, isNum_none, isTx_bool, Tsm_bool, isWh_bool, isNum_bool, isTx_int, Tsm_int, isWh_str, isNum_str, isTx_list, Tsm_list, isWh_list, isNum_list, isTx_tuple, Tsm_tuple, isWh_tuple, isNum_tuple, isTx_dict, Tsm_dict, isWh_dict, isNum_dict, isi_int_none, isi_int_bool, isi_int_int, isi_int_str, isi_int_list, isi_int_tuple, isi_int_dict, isi_str_none, isi_str_bool, isi_str_int, isi_str_str, isi_str_list, isi_str_tuple, isi_str_dict, isi_bool_none, isi_bool_bool, isi_bool_int, isi_bool_str, isi_bool_list, isi_bool_tuple, isi_bool_dict, isi_tuple_none, isi_tuple_bool, isi_tuple_int, isi_tuple_str, isi_tuple_list, isi_tuple_tuple, isi_tuple_dict, isi_list_none, isi_list_bool, isi_list_int, isi_list_str, isi_list_list, isi_list_tuple, isi_list_dict, isi_dict_none, isi_dict_bool, isi_dict_int, isi_dict_str, isi_dict_list, isi_dict_tuple, isi_dict_dict, fIxK_tup, fIxK_list, fIxK_own, fIxK_str, atK_0, atK_1, atK_2, atK_3, gpn_0_1_0, S_worth_key, S_row_key, S_rising, S__law_worth, S__law_lines, S__law_rank, S__law_is_less, S__law_due, List.forall_mem_map, nSortK, tupR_inj, tupR_tup, tup_rev])
def t_worth_key : DTS :=
  (dSeq (dIfS (dB (dOp fIsN (dVar 0) (dC .none))) (dRet (dTup (dCons (dC (.int 0)) (dCons (dC (.int 0)) (dCons (dC (.str "")) dNil))))) dNext)
  (dSeq (dIfS (dB (dIsi "str" (dVar 0))) (dRet (dTup (dCons (dC (.int 2)) (dCons (dC (.int 0)) (dCons (dVar 0) dNil))))) dNext)
  (dRet (dTup (dCons (dC (.int 1)) (dCons (dVar 0) (dCons (dC (.str "")) dNil)))))))
theorem len_worth_key {as : List Slot} {Q0 : PyData → List Slot → Prop} (h : S_worth_key as Q0) : as.length = 1 := by
  obtain ⟨d, rfl, _⟩ := h
  rfl
theorem law_worth_key {as : List Slot} {Q0 : PyData → List Slot → Prop} (h : S_worth_key as Q0) : t_worth_key (fnEnds as Q0) (as ++ List.replicate (1 - as.length) .no) := by
  obtain ⟨d, rfl, hd, q⟩ := h
  show t_worth_key (fnEnds [.dat d] Q0) [.dat d]
  cases hd <;> (((try simp only [t_worth_key]); walk_at "ds"); exact q)

def t_row_key : DTS :=
  (dRet (dCB fTuple (dCons (dNew (nLc (dIter (dVar 0)) (dgName 1) dYes (dCall S_worth_key (dCons (dVar 1) dNil)) [1])) dNil)))
theorem len_row_key {as : List Slot} {Q0 : PyData → List Slot → Prop} (h : S_row_key as Q0) : as.length = 1 := by
  obtain ⟨d, rfl, _⟩ := h
  rfl
theorem law_row_key {as : List Slot} {Q0 : PyData → List Slot → Prop} (h : S_row_key as Q0) : t_row_key (fnEnds as Q0) (as ++ List.replicate (2 - as.length) .no) := by
  obtain ⟨r, rfl, hr, q⟩ := h
  show t_row_key (fnEnds [.dat (.tuple r)] Q0) [.dat (.tuple r), .no]
  have hl := hr.len
  ((try simp only [t_row_key]); walk_at "ds")
  refine lcK_map (emb := id) wkey (List.map_id r).symm (by walk_at "ds") trivial (by rw [sizeLine_eq]; omega) (fun d hd Kt hk => ?_) ?_
  · show dgName 1 d _ _
    walk_at "ds"
    exact ⟨hr.ok d hd, hk⟩
  · walk_at "ds"
    exact q

def t_rising : DTS :=
  (dRet (dCB fTuple (dCons (dNew (nSortK S_row_key (dVar 0))) dNil)))
theorem len_rising {as : List Slot} {Q0 : PyData → List Slot → Prop} (h : S_rising as Q0) : as.length = 1 := by
  obtain ⟨d, rfl, _⟩ := h
  rfl
theorem law_rising {as : List Slot} {Q0 : PyData → List Slot → Prop} (h : S_rising as Q0) : t_rising (fnEnds as Q0) (as ++ List.replicate (1 - as.length) .no) := by
  obtain ⟨rs, rfl, hrs, q⟩ := h
  show t_rising (fnEnds [.dat (.tuple (rs.map .tuple))] Q0) [.dat (.tuple (rs.map .tuple))]
  ((try simp only [t_rising, nSortK]); walk_at "ds")
  have hw : ∀ r ∈ rs, ∀ d ∈ r, WOk d := fun r hr => (hrs.2 r hr).ok
  refine ⟨rs.map rkey, ⟨by simp, by rw [List.length_map, sizeLine_eq]; have := hrs.1; omega, fun i d kd h1 h2 Q1 hq => ?_, fun d hd d' hd' => ?_, fun d hd => ?_, fun d hd => ?_, fun d hd => ?_⟩, ?_⟩
  · rw [List.getElem?_map] at h1 h2
    cases e : rs[i]? with
    | none => rw [e] at h1; cases h1
    | some r =>
      rw [e] at h1 h2
      cases h1
      cases h2
      exact ⟨r, rfl, hrs.2 r (List.mem_of_getElem? e), hq _⟩
  · obtain ⟨r, hr, rfl⟩ := List.mem_map.mp hd
    obtain ⟨r', hr', rfl⟩ := List.mem_map.mp hd'
    show PySem.W.alike (.tuple (r.map wkey)) (.tuple (r'.map wkey)) = true
    rw [PySem.W.alike]
    exact alike_rkeys (hw r hr) (hw r' hr')
  · obtain ⟨r, hr, rfl⟩ := List.mem_map.mp hd
    exact ⟨_, rfl⟩
  · obtain ⟨r, hr, rfl⟩ := List.mem_map.mp hd
    exact rkey_nd (hw r hr)
  · obtain ⟨r, hr, rfl⟩ := List.mem_map.mp hd
    exact rkey_dp (hw r hr)
  · rw [sortD_rows]
    exact q

def t__law_deck : DTX :=
  (xRet (nCB fList (dCons (dNew (nSl (dVar 0) dNoPart (dPart (dC (.int 63))))) dNil)) (dOp fMod (dOp fAdd (dCB fSum (dCons (dNew (nSl (dVar 0) dNoPart (dPart (dC (.int 63))))) dNil)) (dOp fMul (dC (.int 104729)) (dCB fLen (dCons (dNew (nSl (dVar 0) dNoPart (dPart (dC (.int 63))))) dNil)))) (dC (.int 2147483549))))
theorem law__law_deck {ns : List Int} {P : List Int → Int → Prop} (h : ∀ ms sd, ms.length ≤ 63 → P ms sd) : t__law_deck P (.dat (.list (ns.map .int)) :: List.replicate (1 - 1) .no) := by
  have ec : cutD (ns.map PyData.int) none (some 63) = (ns.take 63).map .int := by
    unfold cutD
    rw [HT.sIx_none, show (63 : Int) = ((63 : Nat) : Int) from rfl, HT.sIx_nat, List.drop_zero, Nat.sub_zero, List.map_take, List.take_eq_take_iff]
    simp only [List.length_map]
    omega
  have hl : (ns.take 63).length ≤ 63 := by rw [List.length_take]; omega
  generalize ns.take 63 = ms at ec hl
  show t__law_deck P [.dat (.list (ns.map .int))]
  ((try simp only [t__law_deck]); walk_at "ds")
  simp only [ec]
  exact ⟨ms, rfl, ms, rfl, .inl ⟨by decide, by decide⟩, h _ _ hl⟩

def t__law_draw : DTS :=
  (dSeq (dDdSetT 0 (dOp fAdd (dDdT 0) (dC (.int 1))))
  (dSeq (dSet 2 (dDdS 0))
  (dSeq (dIfS (dDdNe 0) (dSeq (dSet 2 (dDdPop 0))
  (dIfS (dB (dOp fGe (dVar 2) (dOp fPow (dC (.int 10)) (dC (.int 18))))) (dSeq (dDrop (dDdIns 0 (dOp fDiv (dVar 2) (dVar 1))))
  (dRet (dOp fMod (dVar 2) (dVar 1)))) dNext)) dNext)
  (dSeq (dSet 3 (dOp fMod (dOp fMul (dOp fAdd (dOp fAdd (dOp fMod (dVar 2) (dC (.int 2147483629))) (dOp fMul (dC (.int 1000003)) (dDdT 0))) (dC (.int 77))) (dC (.int 48271))) (dC (.int 2147483647))))
  (dSeq (dDdSetS 0 (dOp fMod (dOp fAdd (dOp fMul (dDdS 0) (dC (.int 31))) (dVar 3)) (dC (.int 2147483549))))
  (dSeq (dSet 3 (dOp fMod (dOp fMul (dVar 3) (dOp fAdd (dVar 3) (dC (.int 69621)))) (dC (.int 2147483587))))
  (dRet (dOp fMod (dOp fAdd (dOp fDiv (dVar 3) (dC (.int 128))) (dOp fDiv (dOp fMod (dOp fMul (dVar 3) (dC (.int 39373))) (dC (.int 2147483563))) (dC (.int 64)))) (dVar 1)))))))))
theorem len__law_draw {as : List Slot} {Q0 : PyData → List Slot → Prop} (h : ddrawX as Q0) : as.length = 2 := by
  obtain ⟨a, c, ns, sd, tn, n, rfl, _⟩ := h
  rfl
theorem law__law_draw {as : List Slot} {Q0 : PyData → List Slot → Prop} (h : ddrawX as Q0) : t__law_draw (fnEnds as Q0) (as ++ List.replicate (4 - as.length) .no) := by
  obtain ⟨a, c, ns, sd, tn, n, rfl, hl, hn, hn2, q⟩ := h
  have fin : ∀ (r : Int) (ns' : List Int) (sd' tn' : Int) (s2 s3 : Slot), 0 ≤ r → r < n → ns'.length ≤ 63 → (fnEnds [ddX a c ns sd tn, .dat (.int n)] Q0).rt (.int r) [ddX a c ns' sd' tn', .dat (.int n), s2, s3] := fun r ns' sd' tn' s2 s3 a1 a2 a3 => ⟨_, by simp [outsOf, ddX], q r ns' sd' tn' a1 a2 a3⟩
  have last : ∀ (x : Int) (ns' : List Int), ns'.length ≤ 63 → (dSeq (dSet 3 (dOp fMod (dOp fMul (dOp fAdd (dOp fAdd (dOp fMod (dVar 2) (dC (.int 2147483629))) (dOp fMul (dC (.int 1000003)) (dDdT 0))) (dC (.int 77))) (dC (.int 48271))) (dC (.int 2147483647))))
      (dSeq (dDdSetS 0 (dOp fMod (dOp fAdd (dOp fMul (dDdS 0) (dC (.int 31))) (dVar 3)) (dC (.int 2147483549))))
      (dSeq (dSet 3 (dOp fMod (dOp fMul (dVar 3) (dOp fAdd (dVar 3) (dC (.int 69621)))) (dC (.int 2147483587))))
      (dRet (dOp fMod (dOp fAdd (dOp fDiv (dVar 3) (dC (.int 128))) (dOp fDiv (dOp fMod (dOp fMul (dVar 3) (dC (.int 39373))) (dC (.int 2147483563))) (dC (.int 64)))) (dVar 1)))))) (fnEnds [ddX a c ns sd tn, .dat (.int n)] Q0) [ddX a c ns' sd (tn + 1), .dat (.int n), .dat (.int x), .no] := fun x ns' hl' => by
    refine ⟨by decide, a, c, ns', sd, tn + 1, rfl, .inl ⟨by decide, by decide⟩, .inr ⟨by decide, by decide⟩, by decide, _, rfl, ?_⟩
    have m1 := Int.emod_nonneg ((x % 2147483629 + 1000003 * (tn + 1) + 77) * 48271) (show (2147483647 : Int) ≠ 0 by decide)
    have m2 := Int.emod_lt_of_pos ((x % 2147483629 + 1000003 * (tn + 1) + 77) * 48271) (show (0 : Int) < 2147483647 by decide)
    generalize (x % 2147483629 + 1000003 * (tn + 1) + 77) * 48271 % 2147483647 = m at m1 m2
    refine ⟨a, c, ns', sd, tn + 1, rfl, .inr ⟨by decide, by decide⟩, by decide, a, c, ns', sd, tn + 1, _, rfl, rfl, ?_⟩
    refine ⟨.inl ⟨by omega, by omega⟩, by decide, _, rfl, ?_⟩
    have k1 := Int.emod_nonneg (m * (m + 69621)) (show (2147483587 : Int) ≠ 0 by decide)
    have k2 := Int.emod_lt_of_pos (m * (m + 69621)) (show (0 : Int) < 2147483587 by decide)
    generalize m * (m + 69621) % 2147483587 = k at k1 k2
    refine ⟨⟨by decide, by decide⟩, .inl ⟨by omega, by omega⟩, by decide, ⟨by decide, by decide⟩, hn, ?_⟩
    exact fin _ _ _ _ _ _ (Int.emod_nonneg _ (by omega)) (Int.emod_lt_of_pos _ hn) hl'
  refine ⟨a, c, ns, sd, tn, rfl, a, c, ns, sd, tn, tn + 1, rfl, rfl, ?_⟩
  refine ⟨a, c, ns, sd, tn + 1, rfl, _, rfl, ?_⟩
  refine ⟨a, c, ns, sd, tn + 1, rfl, fun hne => ?_, fun he => ?_⟩
  · have hne : ns ≠ [] := of_decide_eq_true hne
    cases ns with
    | nil => exact (hne rfl).elim
    | cons x ms =>
      have hl' : ms.length < 63 := by
        rw [List.length_cons] at hl
        exact hl
      refine ⟨a, c, ms, x, sd, tn + 1, rfl, by omega, _, rfl, ?_⟩
      refine ⟨⟨by decide, by decide, by decide⟩, _, rfl, fun hb => ?_, fun hb => ?_⟩
      · refine ⟨a, c, ms, sd, tn + 1, rfl, ⟨hn, ?_⟩, _, rfl, rfl, by omega, hn, ?_⟩
        · by_cases z : n.natAbs = 0
          · rw [z]; decide
          · exact (Nat.log2_lt z).mpr (Nat.lt_of_lt_of_le (show n.natAbs < 2 ^ 64 by omega) (Nat.pow_le_pow_right (by decide) (by decide)))
        · exact fin _ (x / n :: ms) _ _ _ _ (Int.emod_nonneg _ (by omega)) (Int.emod_lt_of_pos _ hn) (by rw [List.length_cons]; omega)
      · exact last x ms (by omega)
  · exact last sd ns hl

def t__law_pick : DTS :=
  (dRet (dOp fIx (dVar 1) (dCall S__law_draw (dCons (dVar 0) (dCons (dCB fLen (dCons (dVar 1) dNil)) dNil)))))
theorem len__law_pick {as : List Slot} {Q0 : PyData → List Slot → Prop} (h : S__law_pick as Q0) : as.length = 2 := by
  obtain ⟨a, c, s, ds, rfl, _⟩ := h
  rfl
theorem law__law_pick {as : List Slot} {Q0 : PyData → List Slot → Prop} (h : S__law_pick as Q0) : t__law_pick (fnEnds as Q0) (as ++ List.replicate (2 - as.length) .no) := by
  obtain ⟨a, c, s, ds, rfl, e, hn, hl, q⟩ := h
  exact pick_law e hn hl q

def t__law_worth : DTS :=
  (dSeq (dSet 1 (dCall S__law_draw (dCons (dVar 0) (dCons (dC (.int 7)) dNil))))
  (dSeq (dIfS (dB (dOp fEq (dVar 1) (dC (.int 0)))) (dRet (dC .none)) dNext)
  (dSeq (dIfS (dB (dOp fLt (dVar 1) (dC (.int 4)))) (dRet (dCall S__law_pick (dCons (dVar 0) (dCons (dNew (nLst (dCons (dC (.int 0)) (dCons (dC (.int 1)) (dCons (dNeg (dC (.int 1))) (dCons (dC (.int 9)) (dCons (dC (.int 10)) (dCons (dNeg (dC (.int 9))) (dCons (dNeg (dC (.int 10))) (dCons (dC (.int 99)) (dCons (dC (.int 100)) (dCons (dOp fPow (dC (.int 10)) (dC (.int 12))) (dCons (dOp fSub (dC (.int 0)) (dOp fPow (dC (.int 10)) (dC (.int 12)))) (dCons (dCall S__law_draw (dCons (dVar 0) (dCons (dOp fPow (dC (.int 10)) (dC (.int 9))) dNil))) dNil)))))))))))))) dNil)))) dNext)
  (dSeq (dSet 2 (dC (.str "abcdefghijklmnopqrstuvwxyz")))
  (dSeq (dIfS (dB (dOp fEq (dVar 1) (dC (.int 4)))) (dRet (dCall S__law_pick (dCons (dVar 0) (dCons (dNew (nLst (dCons (dC (.str "")) (dCons (dC (.str "a")) (dCons (dC (.str "aa")) (dCons (dC (.str "ab")) (dCons (dC (.str "b")) (dCons (dC (.str "z")) (dCons (dC (.str "zz")) (dCons (dC (.str "zzzzzzzz")) (dCons (dC (.str "none")) dNil))))))))))) dNil)))) dNext)
  (dRet (dJoin (dC (.str "")) (dNew (nLc (dRng1 (dCons (dCall S__law_draw (dCons (dVar 0) (dCons (dC (.int 9)) dNil))) dNil)) (dgName 3) dYes (dCall S__law_pick (dCons (dVar 0) (dCons (dVar 2) dNil))) [3])))))))))
theorem len__law_worth {as : List Slot} {Q0 : PyData → List Slot → Prop} (h : S__law_worth as Q0) : as.length = 1 := by
  obtain ⟨a, c, rfl, _⟩ := h
  rfl
theorem law__law_worth {as : List Slot} {Q0 : PyData → List Slot → Prop} (h : S__law_worth as Q0) : t__law_worth (fnEnds as Q0) (as ++ List.replicate (4 - as.length) .no) := by
  obtain ⟨a, c, rfl, q⟩ := h
  show t__law_worth (fnEnds [ddSlot a c] Q0) [ddSlot a c, .no, .no, .no]
  ((try simp only [t__law_worth]); walk_at "ds")
  intro r r0 r1
  have lit : ∀ {x : Str}, x.cps.toList.all low = true → x.length ≤ 8 → WOk (.str x) := fun h1 h2 => .str h2 h1
  refine ⟨fun _ => q _ .non, fun _ => ⟨fun _ n n0 n1 d hd => q d ?_, fun _ => ⟨fun _ d hd => q d ?_, fun _ m m0 m1 => ⟨by omega, by omega, ?_⟩⟩⟩⟩
  · simp only [List.mem_cons, List.not_mem_nil, or_false] at hd
    rcases hd with rfl | rfl | rfl | rfl | rfl | rfl | rfl | rfl | rfl | rfl | rfl | rfl <;> exact .int (by omega)
  · simp only [List.mem_cons, List.not_mem_nil, or_false] at hd
    rcases hd with rfl | rfl | rfl | rfl | rfl | rfl | rfl | rfl | rfl <;> exact lit (by decide +kernel) (by decide)
  · refine lcK_all (fun _ e => ∃ y : Str, e = .str y ∧ ∃ c, y = ⟨#[c]⟩ ∧ low c = true) (rgD_map _ _) (by walk_at "ds") trivial (by rw [List.length_range, sizeLine_eq]; omega) (fun x hx Kt hk => ?_) fun es hl he _ => ?_
    · walk_at "ds"
      intro d hd
      obtain ⟨c, rfl, hc⟩ := ltr_mem hd
      exact hk _ ⟨_, rfl, c, rfl, hc⟩
    obtain ⟨ys, rfl, _, hy⟩ := strs_of fun e h => (he e h).elim fun _ h => h.2
    obtain ⟨j1, j2⟩ := join_low hy
    have hyl : ys.length = m.toNat := by simpa using hl
    walk_at "ds"
    refine ⟨ys, rfl, ?_, q _ (.str (by rw [show Txt.join (Str.ofString "") ys = Txt.join "" ys from rfl, j1]; omega) j2)⟩
    rw [sum_ones fun y hy' => by obtain ⟨c, rfl, _⟩ := hy y hy'; rfl]
    show ys.length + ys.length * 0 ≤ 16777216
    omega

def t__law_lines : DTS :=
  (dSeq (dSetN 2 (nLst dNil))
  (dSeq (dFor (dRng1 (dCons (dVar 1) dNil)) (dgName 3) (dSeq (dSet 4 (dTup dNil))
  (dSeq (dIfS (dAnd (dB (dOp (fEmp true) (dVar 2) (dNew (nLst dNil)))) (dB (dOp fEq (dCall S__law_draw (dCons (dVar 0) (dCons (dC (.int 2)) dNil))) (dC (.int 1))))) (dSeq (dSet 4 (dCall S__law_pick (dCons (dVar 0) (dCons (dVar 2) dNil))))
  (dSet 4 (dSlT (dVar 4) dNoPart (dPart (dCall S__law_draw (dCons (dVar 0) (dCons (dOp fAdd (dCB fLen (dCons (dVar 4) dNil)) (dC (.int 1))) dNil))))))) dNext)
  (dSeq (dSet 5 (dOp fAdd (dVar 4) (dCB fTuple (dCons (dNew (nLc (dRng1 (dCons (dCall S__law_draw (dCons (dVar 0) (dCons (dOp fSub (dC (.int 9)) (dCB fLen (dCons (dVar 4) dNil))) dNil))) dNil)) (dgName 6) dYes (dCall S__law_worth (dCons (dVar 0) dNil)) [6])) dNil))))
  (dSeq (dIfS (dAnd (dB (dOp (fEmp true) (dVar 2) (dNew (nLst dNil)))) (dB (dOp fEq (dCall S__law_draw (dCons (dVar 0) (dCons (dC (.int 3)) dNil))) (dC (.int 0))))) (dSet 5 (dCall S__law_pick (dCons (dVar 0) (dCons (dVar 2) dNil)))) dNext)
  (dDrop (dApp 2 (dVar 5))))))))
  (dRet (dCB fTuple (dCons (dVar 2) dNil)))))
theorem len__law_lines {as : List Slot} {Q0 : PyData → List Slot → Prop} (h : S__law_lines as Q0) : as.length = 2 := by
  obtain ⟨a, c, n, rfl, _⟩ := h
  rfl
theorem law__law_lines {as : List Slot} {Q0 : PyData → List Slot → Prop} (h : S__law_lines as Q0) : t__law_lines (fnEnds as Q0) (as ++ List.replicate (7 - as.length) .no) := by
  obtain ⟨a, c, n, rfl, h0, h1, q⟩ := h
  show t__law_lines (fnEnds [ddSlot a c, .dat (.int n)] Q0) [ddSlot a c, .dat (.int n), .no, .no, .no, .no, .no]
  ((try simp only [t__law_lines]); walk_at "ds")
  refine fun p => ⟨by omega, by omega, ?_⟩
  refine forK_inv (fun i ρ => ∃ (rs : List (List PyData)) (w3 w4 w5 : Slot), ρ = [ddSlot a c, .dat (.int n), .own p (rs.map .tuple), w3, w4, w5, .no] ∧ rs.length = i ∧ ∀ r ∈ rs, RwOk r) ⟨[], _, _, _, rfl, rfl, fun r h => nomatch h⟩ (fun _ _ _ => trivial) ?_ ?_
  · rintro i d ρ2 ed ⟨rs, w3, w4, w5, rfl, hi, hrs⟩
    obtain ⟨hin, rfl⟩ := rgD_get ed
    have hne : (!(rs.map PyData.tuple).isEmpty) = true → ¬ rs.map PyData.tuple = [] := fun h z => by rw [z] at h; cases h
    have base : ∀ (b es : List PyData), (∀ d ∈ b, WOk d) → (∀ d ∈ es, WOk d) → b.length + es.length ≤ 8 → RwOk (b ++ es) := fun b es h1 h2 h3 => ⟨by rw [List.length_append]; exact h3, fun d hd => (List.mem_append.mp hd).elim (h1 d) (h2 d)⟩
    have snoc : ∀ x, RwOk x → ∀ y ∈ rs ++ [x], RwOk y := fun x hx y hy => (List.mem_append.mp hy).elim (hrs y) fun z => by rw [List.mem_singleton.mp z]; exact hx
    have app : ∀ x, RwOk x → rs.length < 16777216 ∧ ∃ x_1, rs.map PyData.tuple ++ [PyData.tuple x] = List.map PyData.tuple x_1 ∧ x_1.length = i + 1 ∧ ∀ r ∈ x_1, RwOk r := fun x hx => ⟨by omega, rs ++ [x], by rw [List.map_append]; rfl, by rw [List.length_append, hi]; rfl, snoc x hx⟩
    have fin : ∀ x, RwOk x → ((!(rs.map PyData.tuple).isEmpty) = true → ∀ (r : Int), 0 ≤ r → r < 3 → (decide (r = 0) = true → ¬ rs.map PyData.tuple = [] ∧ rs.length ≤ 16777216 ∧ ∀ j, j ∈ rs → rs.length < 16777216 ∧ ∃ x, rs.map PyData.tuple ++ [PyData.tuple j] = List.map PyData.tuple x ∧ x.length = i + 1 ∧ ∀ r, r ∈ x → RwOk r) ∧
        (decide (r = 0) = false → rs.length < 16777216 ∧ ∃ x_1, rs.map PyData.tuple ++ [PyData.tuple x] = List.map PyData.tuple x_1 ∧ x_1.length = i + 1 ∧ ∀ r, r ∈ x_1 → RwOk r)) ∧
        ((!(rs.map PyData.tuple).isEmpty) = false → rs.length < 16777216 ∧ ∃ x_1, rs.map PyData.tuple ++ [PyData.tuple x] = List.map PyData.tuple x_1 ∧ x_1.length = i + 1 ∧ ∀ r, r ∈ x_1 → RwOk r) :=
      fun x hx => ⟨fun h r r0 r1 => ⟨fun _ => ⟨hne h, by omega, fun j hj => app j (hrs j hj)⟩, fun _ => app x hx⟩, fun _ => app x hx⟩
    walk_at "ds"
    refine ⟨fun he r r0 r1 => ⟨fun _ => ⟨hne he, by omega, fun j hj => ⟨by omega, by have := (hrs j hj).len; omega, fun t t0 t1 => ?_⟩⟩, fun _ m m0 m1 => ⟨by omega, by omega, ?_⟩⟩, fun he m m0 m1 => ⟨by omega, by omega, ?_⟩⟩
    · have hj1 := (hrs j hj).len
      have hc : (cutD j none (some t)).length ≤ 8 := by
        obtain ⟨k, rfl⟩ : ∃ k : Nat, t = k := ⟨t.toNat, by omega⟩
        rw [cutD_to, List.length_take]
        omega
      have hw : ∀ d ∈ cutD j none (some t), WOk d := fun d hd => (hrs j hj).ok d (cutD_sub d hd)
      generalize cutD j none (some t) = b at hc hw
      refine ⟨by omega, by omega, fun m m0 m1 => ⟨by omega, by omega, ?_⟩⟩
      refine lcK_all (fun _ e => WOk e) (rgD_map _ _) (by walk_at "ds") trivial (by rw [List.length_range, sizeLine_eq]; omega) (fun x hx Kt hk => ?_) fun es hl he' _ => ?_
      · walk_at "ds"
        exact fun d hd => hk d hd
      · have ho := base b es hw (fun d hd => (he' d hd).elim fun _ h => h.2) (by rw [hl, List.length_range]; omega)
        walk_at "ds"
        exact ⟨by have := ho.len; rw [List.length_append] at this; omega, fin _ ho⟩
    · refine lcK_all (fun _ e => WOk e) (rgD_map _ _) (by walk_at "ds") trivial (by rw [List.length_range, sizeLine_eq]; omega) (fun x hx Kt hk => ?_) fun es hl he' _ => ?_
      · walk_at "ds"
        exact fun d hd => hk d hd
      · have ho := base [] es (fun d hd => nomatch hd) (fun d hd => (he' d hd).elim fun _ h => h.2) (by rw [hl, List.length_range]; simp; omega)
        walk_at "ds"
        exact ⟨by have := ho.len; rw [List.nil_append] at this; omega, fin es ho⟩
    · refine lcK_all (fun _ e => WOk e) (rgD_map _ _) (by walk_at "ds") trivial (by rw [List.length_range, sizeLine_eq]; omega) (fun x hx Kt hk => ?_) fun es hl he' _ => ?_
      · walk_at "ds"
        exact fun d hd => hk d hd
      · have ho := base [] es (fun d hd => nomatch hd) (fun d hd => (he' d hd).elim fun _ h => h.2) (by rw [hl, List.length_range]; simp; omega)
        walk_at "ds"
        exact ⟨by have := ho.len; rw [List.nil_append] at this; omega, fin es ho⟩
  · rintro ρ2 ⟨rs, w3, w4, w5, rfl, hi, hrs⟩
    walk_at "ds"
    rw [rgD_len] at hi
    exact q rs ⟨by omega, hrs⟩

def t__law_rank : DTS :=
  (dSeq (dIfS (dB (dOp fIsN (dVar 0) (dC .none))) (dRet (dC (.int 0))) dNext)
  (dRet (dIf (dB (dIsi "str" (dVar 0))) (dC (.int 2)) (dC (.int 1)))))
theorem len__law_rank {as : List Slot} {Q0 : PyData → List Slot → Prop} (h : S__law_rank as Q0) : as.length = 1 := by
  obtain ⟨d, rfl, _⟩ := h
  rfl
theorem law__law_rank {as : List Slot} {Q0 : PyData → List Slot → Prop} (h : S__law_rank as Q0) : t__law_rank (fnEnds as Q0) (as ++ List.replicate (1 - as.length) .no) := by
  obtain ⟨d, rfl, hd, q⟩ := h
  show t__law_rank (fnEnds [.dat d] Q0) [.dat d]
  cases hd <;> (((try simp only [t__law_rank]); walk_at "ds"); exact q)

def t__law_is_less : DTS :=
  (dSeq (dFor (dRng1 (dCons (dCB fMin2S (dCons (dCB fLen (dCons (dVar 0) dNil)) (dCons (dCB fLen (dCons (dVar 1) dNil)) dNil))) dNil)) (dgName 2) (dSeq (dIfS (dB (dOp fNe (dCall S__law_rank (dCons (dOp fIx (dVar 0) (dVar 2)) dNil)) (dCall S__law_rank (dCons (dOp fIx (dVar 1) (dVar 2)) dNil)))) (dRet (dOp fLt (dCall S__law_rank (dCons (dOp fIx (dVar 0) (dVar 2)) dNil)) (dCall S__law_rank (dCons (dOp fIx (dVar 1) (dVar 2)) dNil)))) dNext)
  (dIfS (dB (dOp fNe (dOp fIx (dVar 0) (dVar 2)) (dOp fIx (dVar 1) (dVar 2)))) (dRet (dOp fLt (dOp fIx (dVar 0) (dVar 2)) (dOp fIx (dVar 1) (dVar 2)))) dNext)))
  (dRet (dOp fLt (dCB fLen (dCons (dVar 0) dNil)) (dCB fLen (dCons (dVar 1) dNil)))))
theorem len__law_is_less {as : List Slot} {Q0 : PyData → List Slot → Prop} (h : S__law_is_less as Q0) : as.length = 2 := by
  obtain ⟨r, s, rfl, _⟩ := h
  rfl
theorem law__law_is_less {as : List Slot} {Q0 : PyData → List Slot → Prop} (h : S__law_is_less as Q0) : t__law_is_less (fnEnds as Q0) (as ++ List.replicate (3 - as.length) .no) := by
  obtain ⟨r, s, rfl, hr, hs, q⟩ := h
  show t__law_is_less (fnEnds [.dat (.tuple r), .dat (.tuple s)] Q0) [.dat (.tuple r), .dat (.tuple s), .no]
  have l1 := hr.len
  have l2 := hs.len
  ((try simp only [t__law_is_less]); walk_at "dq")
  generalize hm : (if (s.length : Int) < (r.length : Int) then (s.length : Int) else (r.length : Int)) = m
  have hm' : m = (min r.length s.length : Nat) := by rw [← hm]; split <;> omega
  subst hm'
  clear hm
  refine ⟨by omega, by omega, ?_⟩
  have en : (((min r.length s.length : Nat) : Int).toNat) = min r.length s.length := by omega
  rw [en]
  refine forK_inv (fun k ρ => ∃ w2, ρ = [.dat (.tuple r), .dat (.tuple s), w2] ∧ ltR r s = ltR (r.drop k) (s.drop k)) ⟨_, rfl, rfl⟩ (fun _ _ _ => trivial) ?_ ?_
  · rintro k d ρ2 ed ⟨w2, rfl, hk⟩
    obtain ⟨hkl, rfl⟩ := rgD_get ed
    have k1 : k < r.length := by omega
    have k2 : k < s.length := by omega
    have t1 := atI_get k1
    have t2 := atI_get k2
    have o1 := hr.ok _ (List.getElem_mem k1)
    have o2 := hs.ok _ (List.getElem_mem k2)
    rw [List.drop_eq_getElem_cons k1, List.drop_eq_getElem_cons k2] at hk
    generalize r[k] = x at t1 o1 hk
    generalize s[k] = y at t2 o2 hk
    walk_at "dq"
    refine atK_of t1 ⟨o1, atK_of t2 ⟨o2, fun h => atK_of t1 ⟨o1, atK_of t2 ⟨o2, ?_⟩⟩, fun h => atK_of t1 (atK_of t2 ?_)⟩⟩
    · have hne : rankW x ≠ rankW y := by simpa using h
      rw [hk, ltR_diff o1 o2 (fun e => hne (by rw [e])), ltW_rank o1 o2 hne] at q
      exact q
    · have er : rankW x = rankW y := by simpa using h
      cases o1 with
      | non =>
        cases o2 with
        | non =>
          walk_at "dq"
          exact ⟨cmpb_none, cmpb_none, fun z => absurd z (by decide), fun _ => by rw [hk, ltR_same .non]⟩
        | int _ => simp [rankW] at er
        | str _ _ => simp [rankW] at er
      | int b1 =>
        rename_i i
        cases o2 with
        | non => simp [rankW] at er
        | int b2 =>
          rename_i j
          walk_at "dq"
          refine ⟨fun z => atK_of t1 (atK_of t2 ?_), fun z => ?_⟩
          · have hne : (PyData.int i) ≠ .int j := fun e => by
              injection e with e
              subst e
              simp at z
            rw [hk, ltR_diff (.int b1) (.int b2) hne, ltW_ii] at q
            exact q
          · have e : i = j := by simpa using z
            subst e
            rw [hk, ltR_same (.int b1)]
        | str _ _ => simp [rankW] at er
      | str b1 c1 =>
        rename_i i
        cases o2 with
        | non => simp [rankW] at er
        | int _ => simp [rankW] at er
        | str b2 c2 =>
          rename_i j
          walk_at "dq"
          refine ⟨fun z => atK_of t1 (atK_of t2 ?_), fun z => ?_⟩
          · have hne : (PyData.str i) ≠ .str j := fun e => by
              injection e with e
              subst e
              simp at z
            rw [hk, ltR_diff (.str b1 c1) (.str b2 c2) hne, ltW_ss] at q
            exact q
          · have e : i = j := by simpa using z
            subst e
            rw [hk, ltR_same (.str b1 c1)]
  · rintro ρ2 ⟨w2, rfl, hk⟩
    rw [rgD_len] at hk
    walk_at "dq"
    have e : ltR (r.drop (min r.length s.length)) (s.drop (min r.length s.length)) = decide ((r.length : Int) < (s.length : Int)) := by
      rcases Nat.lt_or_ge r.length s.length with h | h
      · rw [Nat.min_eq_left (Nat.le_of_lt h), List.drop_length, List.drop_eq_getElem_cons h, ltR_one, decide_eq_true (by omega)]
      · rw [Nat.min_eq_right h, List.drop_length, ltR_nil, decide_eq_false (by omega)]
    rw [hk, e] at q
    exact q

def t__law_due : DTS :=
  (dSeq (dSetN 1 (nLst dNil))
  (dSeq (dFor (dIter (dVar 0)) (dgName 2) (dSeq (dSet 3 (dCB fLen (dCons (dNew (nLc (dIter (dVar 1)) (dgName 4) (dNot (dB (dCall S__law_is_less (dCons (dVar 2) (dCons (dVar 4) dNil))))) (dVar 4) [4])) dNil)))
  (dDrop (dIns 1 (dVar 3) (dVar 2)))))
  (dRet (dCB fTuple (dCons (dVar 1) dNil)))))
theorem len__law_due {as : List Slot} {Q0 : PyData → List Slot → Prop} (h : S__law_due as Q0) : as.length = 1 := by
  obtain ⟨rs, rfl, _⟩ := h
  rfl
theorem law__law_due {as : List Slot} {Q0 : PyData → List Slot → Prop} (h : S__law_due as Q0) : t__law_due (fnEnds as Q0) (as ++ List.replicate (5 - as.length) .no) := by
  obtain ⟨rs, rfl, hrs, q⟩ := h
  show t__law_due (fnEnds [.dat (.tuple (rs.map .tuple))] Q0) [.dat (.tuple (rs.map .tuple)), .no, .no, .no, .no]
  ((try simp only [t__law_due]); walk_at "ds")
  intro p
  refine forK_inv (fun i ρ => ∃ (fs : List (List PyData)) (w2 w3 : Slot), ρ = [.dat (.tuple (rs.map .tuple)), .own p (fs.map .tuple), w2, w3, .no] ∧ fs.Perm (rs.take i) ∧ fs.Pairwise fun a b => leR a b = true) ⟨[], _, _, rfl, List.Perm.refl _, .nil⟩ (fun _ _ _ => trivial) ?_ ?_
  · rintro i d ρ2 ed ⟨fs, w2, w3, rfl, hp, hsd⟩
    rw [List.getElem?_map] at ed
    cases es : rs[i]? with
    | none => rw [es] at ed; cases ed
    | some r =>
      rw [es] at ed
      cases ed
      have hi : i < rs.length := (List.getElem?_eq_some_iff.mp es).1
      have hlen : fs.length = i := by rw [hp.length_eq, List.length_take]; omega
      have h40 := hrs.1
      have hr := hrs.2 r (List.mem_of_getElem? es)
      have hfs : ∀ x ∈ fs, RwOk x := fun x hx => hrs.2 x (List.mem_of_mem_take (hp.mem_iff.mp hx))
      walk_at "ds"
      refine lcK_fm (emb := PyData.tuple) (fun x => if (!ltR r x) = true then some (.tuple x) else none) rfl (by walk_at "ds") rfl (by rw [sizeLine_eq]; omega) (fun x hx Kt Kf ht hf => ?_) ?_
      · show dgName 4 (.tuple x) _ _
        walk_at "ds"
        refine ⟨hr, hfs x hx, fun h => ht _ (by rw [if_pos h]), fun h => hf (by rw [if_neg (by rw [h]; simp)])⟩
      · have el := fm_len (fun x => !ltR r x) PyData.tuple fs
        have hle := List.length_filter_le (fun x => !ltR r x) fs
        walk_at "ds"
        rw [el]
        refine ⟨by omega, by omega, by omega, fs.take (fs.filter fun x => !ltR r x).length ++ r :: fs.drop (fs.filter fun x => !ltR r x).length, ?_, ?_, put_sorted hsd⟩
        · rw [Int.toNat_natCast, List.map_append, List.map_cons, List.map_take, List.map_drop, List.append_assoc]
          rfl
        · refine (put_perm fs r _).trans ?_
          rw [List.take_add_one, es]
          exact hp.append_right _
  · rintro ρ2 ⟨fs, w2, w3, rfl, hp, hsd⟩
    walk_at "ds"
    rw [List.length_map, List.take_of_length_le (Nat.le_refl _)] at hp
    rw [srt_one hrs.2 hp hsd]
    exact q

def t_law : DTS :=
  (dSeq (dSetDd 1 (dVar 0))
  (dSeq (dFor (dRng1 (dCons (dC (.int 2)) dNil)) (dgName 2) (dSeq (dSet 3 (dOp fEq (dCall S__law_draw (dCons (dVar 1) (dCons (dC (.int 8)) dNil))) (dC (.int 5))))
  (dSeq (dSet 4 (dCall S__law_lines (dCons (dVar 1) (dCons (dIf (dB (dVar 3)) (dC (.int 40)) (dCall S__law_draw (dCons (dVar 1) (dCons (dC (.int 21)) dNil)))) dNil))))
  (dSeq (dPar 5 6 (dCons (dCB fReprD (dCons (dVar 4) dNil)) (dCons (dCB fReprD (dCons (dCall S__law_due (dCons (dVar 4) dNil)) dNil)) dNil)))
  (dSeq (dSet 7 (dCall S_rising (dCons (dVar 4) dNil)))
  (dSeq (dIfS (dOr (dB (dOp fNe (dCB fReprD (dCons (dVar 7) dNil)) (dVar 6))) (dOr (dB (dOp fNe (dCB fReprD (dCons (dCallK S_rising (gp 0 1 [0]) dNil (dCons (dVar 4) dNil)) dNil)) (dVar 6))) (dB (dOp fNe (dCB fReprD (dCons (dCall S_rising (dCons (dVar 7) dNil)) dNil)) (dVar 6))))) (dRet (dC (.bool false))) dNext)
  (dIfS (dOr (dB (dOp fNe (dCB fReprD (dCons (dVar 4) dNil)) (dVar 5))) (dB (dOp fNe (dCB fReprD (dCons (dCall S_rising (dCons (dRevT (dVar 4)) dNil)) dNil)) (dVar 6)))) (dRet (dC (.bool false))) dNext)))))))
  (dRet (dC (.bool true)))))
theorem len_law {as : List Slot} {Q0 : PyData → List Slot → Prop} (h : lawSp 63 as Q0) : as.length = 1 := by
  obtain ⟨ns, rfl, _⟩ := h
  rfl
theorem law_law {as : List Slot} {Q0 : PyData → List Slot → Prop} (h : lawSp 63 as Q0) : t_law (fnEnds as Q0) (as ++ List.replicate (8 - as.length) .no) := by
  obtain ⟨ns, rfl, hl, q⟩ := h
  show t_law (fnEnds [.dat (.list (ns.map .int))] Q0) [.dat (.list (ns.map .int)), .no, .no, .no, .no, .no, .no, .no]
  ((try simp only [t_law]); walk_at "ds")
  refine ⟨⟨ns, rfl⟩, fun a c => ?_⟩
  refine forK_inv (fun i ρ => ∃ w2 w3 w4 w5 w6 w7, ρ = [.dat (.list (ns.map .int)), ddSlot a c, w2, w3, w4, w5, w6, w7]) ⟨_, _, _, _, _, _, rfl⟩ (fun _ _ _ => trivial) ?_ ?_
  · rintro i d ρ2 ed ⟨w2, w3, w4, w5, w6, w7, rfl⟩
    walk_at "ds"
    have fin : ∀ rs, RsOk rs → RsOk (srt rs) ∧ RsOk rs.reverse ∧ srt (srt rs) = srt rs ∧ srt rs.reverse = srt rs ∧ Showd (tupR rs) ∧ Showd (tupR (srt rs)) := fun rs h => by
      have p := srt_perm rs
      have ok2 : RsOk (srt rs) := ⟨by rw [p.length_eq]; exact h.1, fun r hr => h.2 r (p.mem_iff.mp hr)⟩
      have okr : RsOk rs.reverse := ⟨by rw [List.length_reverse]; exact h.1, fun r hr => h.2 r (List.mem_reverse.mp hr)⟩
      have so := PySem.W.sort_pairwise leR_total rs
      refine ⟨ok2, okr, (srt_one ok2.2 (List.Perm.refl _) so).symm, (srt_one okr.2 (p.trans (List.reverse_perm rs).symm) so).symm, rows_sd h.1 h.2, rows_sd ok2.1 ok2.2⟩
    intro r r0 r1
    refine ⟨fun _ rs hrs => ?_, fun _ n n0 n1 => ⟨by omega, by omega, fun rs hrs => ?_⟩⟩
    all_goals
      obtain ⟨f1, f2, f3, f4, f5, f6⟩ := fin rs hrs
      simp only [f3, f4]
      walk_at "ds"
      exact ⟨f5, hrs, f6, hrs, f6, hrs, f6, f1, f6, f5, f2, f6⟩
  · rintro ρ2 ⟨w2, w3, w4, w5, w6, w7, rfl⟩
    walk_at "ds"
    exact q

end K02

namespace K02
open PySem PySem.Spec L2 DL
/-! ### what the top has left -/
structure Top (K : PySem.W.Frag) (mg : Str → Option Value) (w : World) where
  a_worth_key : Addr
  fd_worth_key : FuncData
  F_worth_key : Fun K "worth_key" "worth_key" s_worth_key a_worth_key fd_worth_key
  g_worth_key : mg "worth_key" = some (.ref a_worth_key)
  b_worth_key : Binds K fd_worth_key ["worth"] []
  a_row_key : Addr
  fd_row_key : FuncData
  F_row_key : Fun K "row_key" "row_key" s_row_key a_row_key fd_row_key
  g_row_key : mg "row_key" = some (.ref a_row_key)
  b_row_key : Binds K fd_row_key ["row"] []
  a_rising : Addr
  fd_rising : FuncData
  F_rising : Fun K "rising" "rising" s_rising a_rising fd_rising
  g_rising : mg "rising" = some (.ref a_rising)
  b_rising : Binds K fd_rising ["rows"] []
  a__law_deck : Addr
  fd__law_deck : FuncData
  F__law_deck : Fun K "_law_deck" "_law_deck" s__law_deck a__law_deck fd__law_deck
  g__law_deck : mg "_law_deck" = some (.ref a__law_deck)
  b__law_deck : Binds K fd__law_deck ["script"] []
  a__law_draw : Addr
  fd__law_draw : FuncData
  F__law_draw : Fun K "_law_draw" "_law_draw" s__law_draw a__law_draw fd__law_draw
  g__law_draw : mg "_law_draw" = some (.ref a__law_draw)
  b__law_draw : Binds K fd__law_draw ["deck", "most"] []
  a__law_pick : Addr
  fd__law_pick : FuncData
  F__law_pick : Fun K "_law_pick" "_law_pick" s__law_pick a__law_pick fd__law_pick
  g__law_pick : mg "_law_pick" = some (.ref a__law_pick)
  b__law_pick : Binds K fd__law_pick ["deck", "some"] []
  a__law_worth : Addr
  fd__law_worth : FuncData
  F__law_worth : Fun K "_law_worth" "_law_worth" s__law_worth a__law_worth fd__law_worth
  g__law_worth : mg "_law_worth" = some (.ref a__law_worth)
  b__law_worth : Binds K fd__law_worth ["deck"] []
  a__law_lines : Addr
  fd__law_lines : FuncData
  F__law_lines : Fun K "_law_lines" "_law_lines" s__law_lines a__law_lines fd__law_lines
  g__law_lines : mg "_law_lines" = some (.ref a__law_lines)
  b__law_lines : Binds K fd__law_lines ["deck", "many"] []
  a__law_rank : Addr
  fd__law_rank : FuncData
  F__law_rank : Fun K "_law_rank" "_law_rank" s__law_rank a__law_rank fd__law_rank
  g__law_rank : mg "_law_rank" = some (.ref a__law_rank)
  b__law_rank : Binds K fd__law_rank ["worth"] []
  a__law_is_less : Addr
  fd__law_is_less : FuncData
  F__law_is_less : Fun K "_law_is_less" "_law_is_less" s__law_is_less a__law_is_less fd__law_is_less
  g__law_is_less : mg "_law_is_less" = some (.ref a__law_is_less)
  b__law_is_less : Binds K fd__law_is_less ["one", "two"] []
  a__law_due : Addr
  fd__law_due : FuncData
  F__law_due : Fun K "_law_due" "_law_due" s__law_due a__law_due fd__law_due
  g__law_due : mg "_law_due" = some (.ref a__law_due)
  b__law_due : Binds K fd__law_due ["lines"] []
  a_law : Addr
  fd_law : FuncData
  F_law : Fun K "law" "law" s_law a_law fd_law
  g_law : mg "law" = some (.ref a_law)
  b_law : Binds K fd_law ["script"] []
  z_isinstance : mg "isinstance" = none
  z_len : mg "len" = none
  z_list : mg "list" = none
  z_min : mg "min" = none
  z_range : mg "range" = none
  z_repr : mg "repr" = none
  z_sorted : mg "sorted" = none
  z_str : mg "str" = none
  z_sum : mg "sum" = none
  z_tuple : mg "tuple" = none
section
variable {P : Program} {w : World} {K : PySem.W.Frag} {mg : Str → Option Value} {base : Heap}
theorem ok_worth_key (T : Top K mg w) : FnG P w K mg base CX0 1 T.a_worth_key T.fd_worth_key ["worth"] (spOf K S_worth_key) := by
  refine fun_okD T.F_worth_key sc_worth_key (fun as Q0 h => len_worth_key h) fun cdv A outer s H E hr hg => ⟨t_worth_key, ?_, fun as Q0 h => law_worth_key h⟩
  have hu : (A.deeper (PyProof.Rows.envOfC "worth_key" (defScope s_worth_key) s.heap.objs.size T.a_worth_key cdv)).units + 64 < cLine := hr.units
  have hu65 : (A.deeper (PyProof.Rows.envOfC "worth_key" (defScope s_worth_key) s.heap.objs.size T.a_worth_key cdv)).units + 65 < cLine := by have := hr.un; omega
  exact (dps_cons (dp_if (dt_cmp od_isN (dv 0) de_non) (dps_one (dp_ret (de_tup (da_cons de_int (da_cons de_int (da_cons de_str da_nil)))))) dps_nil) (dps_cons (dp_if (dt_val (de_isi isi_str (by rfl) T.z_isinstance (dv 0) (by rfl) T.z_str (by decide +kernel))) (dps_one (dp_ret (de_tup (da_cons de_int (da_cons de_int (da_cons (dv 0) da_nil)))))) dps_nil) (dps_one (dp_ret (de_tup (da_cons de_int (da_cons (dv 0) (da_cons de_str da_nil))))))))
theorem ok_row_key (T : Top K mg w) : FnG P w K mg base CX0 2 T.a_row_key T.fd_row_key ["row"] (spOf K S_row_key) := by
  refine fun_okD T.F_row_key sc_row_key (fun as Q0 h => len_row_key h) fun cdv A outer s H E hr hg => ⟨t_row_key, ?_, fun as Q0 h => law_row_key h⟩
  have hu : (A.deeper (PyProof.Rows.envOfC "row_key" (defScope s_row_key) s.heap.objs.size T.a_row_key cdv)).units + 64 < cLine := hr.units
  have hu65 : (A.deeper (PyProof.Rows.envOfC "row_key" (defScope s_row_key) s.heap.objs.size T.a_row_key cdv)).units + 65 < cLine := by have := hr.un; omega
  exact (dps_one (dp_ret (de_callTy fr_tuple (by rfl) T.z_tuple (by decide +kernel) (da_cons (de_new (dn_lc (own := [("worth", 1)]) rfl sc_row_key.nd (di_seq (dv 0)) (by exact blkOk_by (N := ["row", "worth"]) (sc := defScope s_row_key) (own := [("worth", 1)]) (by decide +kernel)) (fun _ _ _ _ _ => (dg_name (i := 1) sc_row_key.nd rfl (by first | exact .inl rfl | exact .inr rfl))) (fun _ _ _ _ _ => dts_nil) (fun _ _ _ _ _ => (de_call1 ((ok_worth_key T).mono (by decide)) hr hg (by rfl) T.g_worth_key T.F_worth_key.kp T.b_worth_key (da_cons (dv 1) da_nil))))) da_nil))))
theorem ok_rising (T : Top K mg w) : FnG P w K mg base CX0 5 T.a_rising T.fd_rising ["rows"] (spOf K S_rising) := by
  refine fun_okD T.F_rising sc_rising (fun as Q0 h => len_rising h) fun cdv A outer s H E hr hg => ⟨t_rising, ?_, fun as Q0 h => law_rising h⟩
  have hu : (A.deeper (PyProof.Rows.envOfC "rising" (defScope s_rising) s.heap.objs.size T.a_rising cdv)).units + 64 < cLine := hr.units
  have hu65 : (A.deeper (PyProof.Rows.envOfC "rising" (defScope s_rising) s.heap.objs.size T.a_rising cdv)).units + 65 < cLine := by have := hr.un; omega
  exact (dps_one (dp_ret (de_callTy fr_tuple (by rfl) T.z_tuple (by decide +kernel) (da_cons (de_new (dn_sortK ((ok_row_key T).mono (by decide)) hr hg T.b_row_key hu (by rfl) T.z_sorted (by decide +kernel) (dv 0) (by rfl) T.g_row_key)) da_nil))))
theorem ok__law_deck (T : Top K mg w) : FnG P w K mg base CX0 1 T.a__law_deck T.fd__law_deck ["script"] (ddeckSp K) := by
  refine fun_ddeck T.F__law_deck sc__law_deck rfl fun cdv A outer s H E hr hg => ⟨t__law_deck, ?_, fun ns P h => law__law_deck h⟩
  have hu : (A.deeper (PyProof.Rows.envOfC "_law_deck" (defScope s__law_deck) s.heap.objs.size T.a__law_deck cdv)).units + 64 < cLine := hr.units
  have hu65 : (A.deeper (PyProof.Rows.envOfC "_law_deck" (defScope s__law_deck) s.heap.objs.size T.a__law_deck cdv)).units + 65 < cLine := by have := hr.un; omega
  exact (xd_ret (dn_callTy fr_list (by rfl) T.z_list (by decide +kernel) (da_cons (de_new (dn_sl (dv 0) do_none (do_some de_int))) da_nil)) (de_op od_mod (de_op od_add (de_callB (fr_sum rfl) (by rfl) T.z_sum (by decide +kernel) (da_cons (de_new (dn_sl (dv 0) do_none (do_some de_int))) da_nil)) (de_op od_mul de_int (de_callB fr_len (by rfl) T.z_len (by decide +kernel) (da_cons (de_new (dn_sl (dv 0) do_none (do_some de_int))) da_nil)))) de_int))
theorem ok__law_draw0 (T : Top K mg w) : FnG P w K mg base CX0 1 T.a__law_draw T.fd__law_draw ["deck", "most"] (spOf K ddrawX) := by
  refine fun_okD T.F__law_draw sc__law_draw (fun as Q0 h => len__law_draw h) fun cdv A outer s H E hr hg => ⟨t__law_draw, ?_, fun as Q0 h => law__law_draw h⟩
  have hu : (A.deeper (PyProof.Rows.envOfC "_law_draw" (defScope s__law_draw) s.heap.objs.size T.a__law_draw cdv)).units + 64 < cLine := hr.units
  have hu65 : (A.deeper (PyProof.Rows.envOfC "_law_draw" (defScope s__law_draw) s.heap.objs.size T.a__law_draw cdv)).units + 65 < cLine := by have := hr.un; omega
  exact (dps_cons (dp_ddSetT hu (pv 0) (de_op od_add (de_ddT hu (pv 0)) de_int)) (dps_cons (dp_set (i := 2) sc__law_draw.nd rfl (by first | exact .inl rfl | exact .inr rfl) (de_ddS hu (pv 0))) (dps_cons (dp_if (dt_ddNe hu (pv 0)) (dps_cons (dp_set (i := 2) sc__law_draw.nd rfl (by first | exact .inl rfl | exact .inr rfl) (de_ddPop hu (pv 0))) (dps_one (dp_if (dt_cmp od_ge (dv 2) (de_op od_pow de_int de_int)) (dps_cons (dp_expr (de_ddIns hu (pv 0) (de_op od_div (dv 2) (dv 1)))) (dps_one (dp_ret (de_op od_mod (dv 2) (dv 1))))) dps_nil))) dps_nil) (dps_cons (dp_set (i := 3) sc__law_draw.nd rfl (by first | exact .inl rfl | exact .inr rfl) (de_op od_mod (de_op od_mul (de_op od_add (de_op od_add (de_op od_mod (dv 2) de_int) (de_op od_mul de_int (de_ddT hu (pv 0)))) de_int) de_int) de_int)) (dps_cons (dp_ddSetS hu (pv 0) (de_op od_mod (de_op od_add (de_op od_mul (de_ddS hu (pv 0)) de_int) (dv 3)) de_int)) (dps_cons (dp_set (i := 3) sc__law_draw.nd rfl (by first | exact .inl rfl | exact .inr rfl) (de_op od_mod (de_op od_mul (dv 3) (de_op od_add (dv 3) de_int)) de_int)) (dps_one (dp_ret (de_op od_mod (de_op od_add (de_op od_div (dv 3) de_int) (de_op od_div (de_op od_mod (de_op od_mul (dv 3) de_int) de_int) de_int)) (dv 1))))))))))
theorem ok__law_draw (T : Top K mg w) : FnG P w K mg base CX0 1 T.a__law_draw T.fd__law_draw ["deck", "most"] (spOf K S__law_draw) := (ok__law_draw0 T).ddraw
theorem ok__law_pick (T : Top K mg w) : FnG P w K mg base CX0 2 T.a__law_pick T.fd__law_pick ["deck", "some"] (spOf K S__law_pick) := by
  refine fun_okD T.F__law_pick sc__law_pick (fun as Q0 h => len__law_pick h) fun cdv A outer s H E hr hg => ⟨t__law_pick, ?_, fun as Q0 h => law__law_pick h⟩
  have hu : (A.deeper (PyProof.Rows.envOfC "_law_pick" (defScope s__law_pick) s.heap.objs.size T.a__law_pick cdv)).units + 64 < cLine := hr.units
  have hu65 : (A.deeper (PyProof.Rows.envOfC "_law_pick" (defScope s__law_pick) s.heap.objs.size T.a__law_pick cdv)).units + 65 < cLine := by have := hr.un; omega
  exact (dps_one (dp_ret (de_ix (dv 1) (de_call1 ((ok__law_draw T).mono (by decide)) hr hg (by rfl) T.g__law_draw T.F__law_draw.kp T.b__law_draw (da_cons (dv 0) (da_cons (de_callB fr_len (by rfl) T.z_len (by decide +kernel) (da_cons (dv 1) da_nil)) da_nil))) (fun _ _ => rfl))))
theorem ok__law_worth (T : Top K mg w) : FnG P w K mg base CX0 3 T.a__law_worth T.fd__law_worth ["deck"] (spOf K S__law_worth) := by
  refine fun_okD T.F__law_worth sc__law_worth (fun as Q0 h => len__law_worth h) fun cdv A outer s H E hr hg => ⟨t__law_worth, ?_, fun as Q0 h => law__law_worth h⟩
  have hu : (A.deeper (PyProof.Rows.envOfC "_law_worth" (defScope s__law_worth) s.heap.objs.size T.a__law_worth cdv)).units + 64 < cLine := hr.units
  have hu65 : (A.deeper (PyProof.Rows.envOfC "_law_worth" (defScope s__law_worth) s.heap.objs.size T.a__law_worth cdv)).units + 65 < cLine := by have := hr.un; omega
  exact (dps_cons (dp_set (i := 1) sc__law_worth.nd rfl (by first | exact .inl rfl | exact .inr rfl) (de_call1 ((ok__law_draw T).mono (by decide)) hr hg (by rfl) T.g__law_draw T.F__law_draw.kp T.b__law_draw (da_cons (dv 0) (da_cons de_int da_nil)))) (dps_cons (dp_if (dt_cmp (od_eq hu) (dv 1) de_int) (dps_one (dp_ret de_non)) dps_nil) (dps_cons (dp_if (dt_cmp od_lt (dv 1) de_int) (dps_one (dp_ret (de_call1 ((ok__law_pick T).mono (by decide)) hr hg (by rfl) T.g__law_pick T.F__law_pick.kp T.b__law_pick (da_cons (dv 0) (da_cons (de_new (dn_lst (da_cons de_int (da_cons de_int (da_cons (de_neg de_int) (da_cons de_int (da_cons de_int (da_cons (de_neg de_int) (da_cons (de_neg de_int) (da_cons de_int (da_cons de_int (da_cons (de_op od_pow de_int de_int) (da_cons (de_op od_sub de_int (de_op od_pow de_int de_int)) (da_cons (de_call1 ((ok__law_draw T).mono (by decide)) hr hg (by rfl) T.g__law_draw T.F__law_draw.kp T.b__law_draw (da_cons (dv 0) (da_cons (de_op od_pow de_int de_int) da_nil))) da_nil)))))))))))))) da_nil))))) dps_nil) (dps_cons (dp_set (i := 2) sc__law_worth.nd rfl (by first | exact .inl rfl | exact .inr rfl) de_str) (dps_cons (dp_if (dt_cmp (od_eq hu) (dv 1) de_int) (dps_one (dp_ret (de_call1 ((ok__law_pick T).mono (by decide)) hr hg (by rfl) T.g__law_pick T.F__law_pick.kp T.b__law_pick (da_cons (dv 0) (da_cons (de_new (dn_lst (da_cons de_str (da_cons de_str (da_cons de_str (da_cons de_str (da_cons de_str (da_cons de_str (da_cons de_str (da_cons de_str (da_cons de_str da_nil))))))))))) da_nil))))) dps_nil) (dps_one (dp_ret (de_join de_str (de_new (dn_lc (own := [("k", 3)]) rfl sc__law_worth.nd (di_range1 (by rfl) T.z_range (da_cons (de_call1 ((ok__law_draw T).mono (by decide)) hr hg (by rfl) T.g__law_draw T.F__law_draw.kp T.b__law_draw (da_cons (dv 0) (da_cons de_int da_nil))) da_nil)) (by exact blkOk_by (N := ["deck", "sort", "letters", "k"]) (sc := defScope s__law_worth) (own := [("k", 3)]) (by decide +kernel)) (fun _ _ _ _ _ => (dg_name (i := 3) sc__law_worth.nd rfl (by first | exact .inl rfl | exact .inr rfl))) (fun _ _ _ _ _ => dts_nil) (fun _ _ _ _ _ => (de_call1 ((ok__law_pick T).mono (by decide)) hr hg (by rfl) T.g__law_pick T.F__law_pick.kp T.b__law_pick (da_cons (dv 0) (da_cons (dv 2) da_nil))))))))))))))
theorem ok__law_lines (T : Top K mg w) : FnG P w K mg base CX0 4 T.a__law_lines T.fd__law_lines ["deck", "many"] (spOf K S__law_lines) := by
  refine fun_okD T.F__law_lines sc__law_lines (fun as Q0 h => len__law_lines h) fun cdv A outer s H E hr hg => ⟨t__law_lines, ?_, fun as Q0 h => law__law_lines h⟩
  have hu : (A.deeper (PyProof.Rows.envOfC "_law_lines" (defScope s__law_lines) s.heap.objs.size T.a__law_lines cdv)).units + 64 < cLine := hr.units
  have hu65 : (A.deeper (PyProof.Rows.envOfC "_law_lines" (defScope s__law_lines) s.heap.objs.size T.a__law_lines cdv)).units + 65 < cLine := by have := hr.un; omega
  exact (dps_cons (dp_setN (i := 2) sc__law_lines.nd rfl (by first | exact .inl rfl | exact .inr rfl) (dn_lst da_nil)) (dps_cons (dp_for PassesOwn.never rfl (di_range1 (by rfl) T.z_range (da_cons (dv 1) da_nil)) (dg_name (i := 3) sc__law_lines.nd rfl (by first | exact .inl rfl | exact .inr rfl)) (dps_cons (dp_set (i := 4) sc__law_lines.nd rfl (by first | exact .inl rfl | exact .inr rfl) (de_tup da_nil)) (dps_cons (dp_if (dt_w (dw_and (dt_cmp (od_empN hu) (dv 2) (de_new (dn_lst da_nil))) (dw_and1 (dt_cmp (od_eq hu) (de_call1 ((ok__law_draw T).mono (by decide)) hr hg (by rfl) T.g__law_draw T.F__law_draw.kp T.b__law_draw (da_cons (dv 0) (da_cons de_int da_nil))) de_int)))) (dps_cons (dp_set (i := 4) sc__law_lines.nd rfl (by first | exact .inl rfl | exact .inr rfl) (de_call1 ((ok__law_pick T).mono (by decide)) hr hg (by rfl) T.g__law_pick T.F__law_pick.kp T.b__law_pick (da_cons (dv 0) (da_cons (dv 2) da_nil)))) (dps_one (dp_set (i := 4) sc__law_lines.nd rfl (by first | exact .inl rfl | exact .inr rfl) (de_slT (dv 4) do_none (do_some (de_call1 ((ok__law_draw T).mono (by decide)) hr hg (by rfl) T.g__law_draw T.F__law_draw.kp T.b__law_draw (da_cons (dv 0) (da_cons (de_op od_add (de_callB fr_len (by rfl) T.z_len (by decide +kernel) (da_cons (dv 4) da_nil)) de_int) da_nil)))))))) dps_nil) (dps_cons (dp_set (i := 5) sc__law_lines.nd rfl (by first | exact .inl rfl | exact .inr rfl) (de_op od_add (dv 4) (de_callTy fr_tuple (by rfl) T.z_tuple (by decide +kernel) (da_cons (de_new (dn_lc (own := [("j", 6)]) rfl sc__law_lines.nd (di_range1 (by rfl) T.z_range (da_cons (de_call1 ((ok__law_draw T).mono (by decide)) hr hg (by rfl) T.g__law_draw T.F__law_draw.kp T.b__law_draw (da_cons (dv 0) (da_cons (de_op od_sub de_int (de_callB fr_len (by rfl) T.z_len (by decide +kernel) (da_cons (dv 4) da_nil))) da_nil))) da_nil)) (by exact blkOk_by (N := ["deck", "many", "found", "k", "begun", "line", "j"]) (sc := defScope s__law_lines) (own := [("j", 6)]) (by decide +kernel)) (fun _ _ _ _ _ => (dg_name (i := 6) sc__law_lines.nd rfl (by first | exact .inl rfl | exact .inr rfl))) (fun _ _ _ _ _ => dts_nil) (fun _ _ _ _ _ => (de_call1 ((ok__law_worth T).mono (by decide)) hr hg (by rfl) T.g__law_worth T.F__law_worth.kp T.b__law_worth (da_cons (dv 0) da_nil))))) da_nil)))) (dps_cons (dp_if (dt_w (dw_and (dt_cmp (od_empN hu) (dv 2) (de_new (dn_lst da_nil))) (dw_and1 (dt_cmp (od_eq hu) (de_call1 ((ok__law_draw T).mono (by decide)) hr hg (by rfl) T.g__law_draw T.F__law_draw.kp T.b__law_draw (da_cons (dv 0) (da_cons de_int da_nil))) de_int)))) (dps_one (dp_set (i := 5) sc__law_lines.nd rfl (by first | exact .inl rfl | exact .inr rfl) (de_call1 ((ok__law_pick T).mono (by decide)) hr hg (by rfl) T.g__law_pick T.F__law_pick.kp T.b__law_pick (da_cons (dv 0) (da_cons (dv 2) da_nil))))) dps_nil) (dps_one (dp_expr (de_append (pv 2) (dv 5))))))))) (dps_one (dp_ret (de_callTy fr_tuple (by rfl) T.z_tuple (by decide +kernel) (da_cons (dv 2) da_nil))))))
theorem ok__law_rank (T : Top K mg w) : FnG P w K mg base CX0 1 T.a__law_rank T.fd__law_rank ["worth"] (spOf K S__law_rank) := by
  refine fun_okD T.F__law_rank sc__law_rank (fun as Q0 h => len__law_rank h) fun cdv A outer s H E hr hg => ⟨t__law_rank, ?_, fun as Q0 h => law__law_rank h⟩
  have hu : (A.deeper (PyProof.Rows.envOfC "_law_rank" (defScope s__law_rank) s.heap.objs.size T.a__law_rank cdv)).units + 64 < cLine := hr.units
  have hu65 : (A.deeper (PyProof.Rows.envOfC "_law_rank" (defScope s__law_rank) s.heap.objs.size T.a__law_rank cdv)).units + 65 < cLine := by have := hr.un; omega
  exact (dps_cons (dp_if (dt_cmp od_isN (dv 0) de_non) (dps_one (dp_ret de_int)) dps_nil) (dps_one (dp_ret (de_if (dt_val (de_isi isi_str (by rfl) T.z_isinstance (dv 0) (by rfl) T.z_str (by decide +kernel))) de_int de_int))))
theorem ok__law_is_less (T : Top K mg w) : FnG P w K mg base CX0 2 T.a__law_is_less T.fd__law_is_less ["one", "two"] (spOf K S__law_is_less) := by
  refine fun_okD T.F__law_is_less sc__law_is_less (fun as Q0 h => len__law_is_less h) fun cdv A outer s H E hr hg => ⟨t__law_is_less, ?_, fun as Q0 h => law__law_is_less h⟩
  have hu : (A.deeper (PyProof.Rows.envOfC "_law_is_less" (defScope s__law_is_less) s.heap.objs.size T.a__law_is_less cdv)).units + 64 < cLine := hr.units
  have hu65 : (A.deeper (PyProof.Rows.envOfC "_law_is_less" (defScope s__law_is_less) s.heap.objs.size T.a__law_is_less cdv)).units + 65 < cLine := by have := hr.un; omega
  exact (dps_cons (dp_for PassesOwn.never rfl (di_range1 (by rfl) T.z_range (da_cons (de_callB (fr_min2S rfl) (by rfl) T.z_min (by decide +kernel) (da_cons (de_callB fr_len (by rfl) T.z_len (by decide +kernel) (da_cons (dv 0) da_nil)) (da_cons (de_callB fr_len (by rfl) T.z_len (by decide +kernel) (da_cons (dv 1) da_nil)) da_nil))) da_nil)) (dg_name (i := 2) sc__law_is_less.nd rfl (by first | exact .inl rfl | exact .inr rfl)) (dps_cons (dp_if (dt_cmp (od_ne hu) (de_call1 ((ok__law_rank T).mono (by decide)) hr hg (by rfl) T.g__law_rank T.F__law_rank.kp T.b__law_rank (da_cons (de_ix (dv 0) (dv 2) (fun _ _ => rfl)) da_nil)) (de_call1 ((ok__law_rank T).mono (by decide)) hr hg (by rfl) T.g__law_rank T.F__law_rank.kp T.b__law_rank (da_cons (de_ix (dv 1) (dv 2) (fun _ _ => rfl)) da_nil))) (dps_one (dp_ret (de_cmp od_lt (de_call1 ((ok__law_rank T).mono (by decide)) hr hg (by rfl) T.g__law_rank T.F__law_rank.kp T.b__law_rank (da_cons (de_ix (dv 0) (dv 2) (fun _ _ => rfl)) da_nil)) (de_call1 ((ok__law_rank T).mono (by decide)) hr hg (by rfl) T.g__law_rank T.F__law_rank.kp T.b__law_rank (da_cons (de_ix (dv 1) (dv 2) (fun _ _ => rfl)) da_nil))))) dps_nil) (dps_one (dp_if (dt_cmp (od_ne hu) (de_ix (dv 0) (dv 2) (fun _ _ => rfl)) (de_ix (dv 1) (dv 2) (fun _ _ => rfl))) (dps_one (dp_ret (de_cmp od_lt (de_ix (dv 0) (dv 2) (fun _ _ => rfl)) (de_ix (dv 1) (dv 2) (fun _ _ => rfl))))) dps_nil)))) (dps_one (dp_ret (de_cmp od_lt (de_callB fr_len (by rfl) T.z_len (by decide +kernel) (da_cons (dv 0) da_nil)) (de_callB fr_len (by rfl) T.z_len (by decide +kernel) (da_cons (dv 1) da_nil))))))
theorem ok__law_due (T : Top K mg w) : FnG P w K mg base CX0 3 T.a__law_due T.fd__law_due ["lines"] (spOf K S__law_due) := by
  refine fun_okD T.F__law_due sc__law_due (fun as Q0 h => len__law_due h) fun cdv A outer s H E hr hg => ⟨t__law_due, ?_, fun as Q0 h => law__law_due h⟩
  have hu : (A.deeper (PyProof.Rows.envOfC "_law_due" (defScope s__law_due) s.heap.objs.size T.a__law_due cdv)).units + 64 < cLine := hr.units
  have hu65 : (A.deeper (PyProof.Rows.envOfC "_law_due" (defScope s__law_due) s.heap.objs.size T.a__law_due cdv)).units + 65 < cLine := by have := hr.un; omega
  exact (dps_cons (dp_setN (i := 1) sc__law_due.nd rfl (by first | exact .inl rfl | exact .inr rfl) (dn_lst da_nil)) (dps_cons (dp_for PassesOwn.never rfl (di_seq (dv 0)) (dg_name (i := 2) sc__law_due.nd rfl (by first | exact .inl rfl | exact .inr rfl)) (dps_cons (dp_set (i := 3) sc__law_due.nd rfl (by first | exact .inl rfl | exact .inr rfl) (de_callB fr_len (by rfl) T.z_len (by decide +kernel) (da_cons (de_new (dn_lc (own := [("one", 4)]) rfl sc__law_due.nd (di_seq (dv 1)) (by exact blkOk_by (N := ["lines", "found", "line", "spot", "one"]) (sc := defScope s__law_due) (own := [("one", 4)]) (by decide +kernel)) (fun _ _ _ _ _ => (dg_name (i := 4) sc__law_due.nd rfl (by first | exact .inl rfl | exact .inr rfl))) (fun _ _ _ _ _ => (dts_one (dt_not (dt_val (de_call1 ((ok__law_is_less T).mono (by decide)) hr hg (by rfl) T.g__law_is_less T.F__law_is_less.kp T.b__law_is_less (da_cons (dv 2) (da_cons (dv 4) da_nil))))))) (fun _ _ _ _ _ => (dv 4)))) da_nil))) (dps_one (dp_expr (de_insert (pv 1) (dv 3) (dv 2)))))) (dps_one (dp_ret (de_callTy fr_tuple (by rfl) T.z_tuple (by decide +kernel) (da_cons (dv 1) da_nil))))))
theorem ok_law (T : Top K mg w) : FnG P w K mg base CX0 6 T.a_law T.fd_law ["script"] (spOf K (lawSp 63)) := by
  refine fun_okD T.F_law sc_law (fun as Q0 h => len_law h) fun cdv A outer s H E hr hg => ⟨t_law, ?_, fun as Q0 h => law_law h⟩
  have hu : (A.deeper (PyProof.Rows.envOfC "law" (defScope s_law) s.heap.objs.size T.a_law cdv)).units + 64 < cLine := hr.units
  have hu65 : (A.deeper (PyProof.Rows.envOfC "law" (defScope s_law) s.heap.objs.size T.a_law cdv)).units + 65 < cLine := by have := hr.un; omega
  exact (dps_cons (dp_setDd (i := 1) ((ok__law_deck T).mono (by decide)) hr hg (by rfl) T.g__law_deck T.F__law_deck.kp T.b__law_deck (dv 0) sc_law.nd rfl (by first | exact .inl rfl | exact .inr rfl)) (dps_cons (dp_for PassesOwn.never rfl (di_range1 (by rfl) T.z_range (da_cons de_int da_nil)) (dg_name (i := 2) sc_law.nd rfl (by first | exact .inl rfl | exact .inr rfl)) (dps_cons (dp_set (i := 3) sc_law.nd rfl (by first | exact .inl rfl | exact .inr rfl) (de_cmp (od_eq hu) (de_call1 ((ok__law_draw T).mono (by decide)) hr hg (by rfl) T.g__law_draw T.F__law_draw.kp T.b__law_draw (da_cons (dv 1) (da_cons de_int da_nil))) de_int)) (dps_cons (dp_set (i := 4) sc_law.nd rfl (by first | exact .inl rfl | exact .inr rfl) (de_call1 ((ok__law_lines T).mono (by decide)) hr hg (by rfl) T.g__law_lines T.F__law_lines.kp T.b__law_lines (da_cons (dv 1) (da_cons (de_if (dt_val (dv 3)) de_int (de_call1 ((ok__law_draw T).mono (by decide)) hr hg (by rfl) T.g__law_draw T.F__law_draw.kp T.b__law_draw (da_cons (dv 1) (da_cons de_int da_nil)))) da_nil)))) (dps_cons (dp_par (i := 5) (j := 6) rfl sc_law.nd rfl rfl (by decide) rfl rfl (da_cons (de_callB (fr_reprD hg hu) (by rfl) T.z_repr (by decide +kernel) (da_cons (dv 4) da_nil)) (da_cons (de_callB (fr_reprD hg hu) (by rfl) T.z_repr (by decide +kernel) (da_cons (de_call1 ((ok__law_due T).mono (by decide)) hr hg (by rfl) T.g__law_due T.F__law_due.kp T.b__law_due (da_cons (dv 4) da_nil)) da_nil)) da_nil)) rfl) (dps_cons (dp_set (i := 7) sc_law.nd rfl (by first | exact .inl rfl | exact .inr rfl) (de_call1 ((ok_rising T).mono (by decide)) hr hg (by rfl) T.g_rising T.F_rising.kp T.b_rising (da_cons (dv 4) da_nil))) (dps_cons (dp_if (dt_w (dw_or (dt_cmp (od_ne hu) (de_callB (fr_reprD hg hu) (by rfl) T.z_repr (by decide +kernel) (da_cons (dv 7) da_nil)) (dv 6)) (dw_or (dt_cmp (od_ne hu) (de_callB (fr_reprD hg hu) (by rfl) T.z_repr (by decide +kernel) (da_cons (de_callK0 ((ok_rising T).mono (by decide)) hr hg (by rfl) T.g_rising T.F_rising.kp (kb_of (n := 0) (m := 1) (ix := [0]) (ks := ["rows"]) T.F_rising (by decide) (fun _ _ _ _ _ _ us ws h1 h2 => match us, ws, h1, h2 with | [], [_], _, _ => rfl)) (dk_cons (dv 4) dk_nil)) da_nil)) (dv 6)) (dw_or1 (dt_cmp (od_ne hu) (de_callB (fr_reprD hg hu) (by rfl) T.z_repr (by decide +kernel) (da_cons (de_call1 ((ok_rising T).mono (by decide)) hr hg (by rfl) T.g_rising T.F_rising.kp T.b_rising (da_cons (dv 7) da_nil)) da_nil)) (dv 6)))))) (dps_one (dp_ret de_bl)) dps_nil) (dps_one (dp_if (dt_w (dw_or (dt_cmp (od_ne hu) (de_callB (fr_reprD hg hu) (by rfl) T.z_repr (by decide +kernel) (da_cons (dv 4) da_nil)) (dv 5)) (dw_or1 (dt_cmp (od_ne hu) (de_callB (fr_reprD hg hu) (by rfl) T.z_repr (by decide +kernel) (da_cons (de_call1 ((ok_rising T).mono (by decide)) hr hg (by rfl) T.g_rising T.F_rising.kp T.b_rising (da_cons (de_revT (dv 4)) da_nil)) da_nil)) (dv 6))))) (dps_one (dp_ret de_bl)) dps_nil)))))))) (dps_one (dp_ret de_bl))))
end
end K02

namespace K02
open PySem PySem.Spec L2 DL
theorem all_mk {l : PySem.W.OpenLaw} {w : World} {K : PySem.W.Frag} {h : Heap} {mg : Str → Option Value} {fa f0 f1 f2 f3 f4 f5 f6 f7 f8 f9 f10 f11 : Addr} (X : K.In h) (G : h.Ns mainGlobals mg) (hfa : mg "law" = some (.ref fa))
    {od0 an0 od1 an1 od2 an2 od3 an3 od4 an4 od5 an5 od6 an6 od7 an7 od8 an8 od9 an9 od10 an10 od11 an11 : Option Addr} {sl0 sl1 sl2 sl3 sl4 sl5 sl6 sl7 sl8 sl9 sl10 sl11 : Array (Option Value)} {oc0 kV0 dc0 pm0 cd0 ct0 oc1 kV1 dc1 pm1 cd1 ct1 oc2 kV2 dc2 pm2 cd2 ct2 oc3 kV3 dc3 pm3 cd3 ct3 oc4 kV4 dc4 pm4 cd4 ct4 oc5 kV5 dc5 pm5 cd5 ct5 oc6 kV6 dc6 pm6 cd6 ct6 oc7 kV7 dc7 pm7 cd7 ct7 oc8 kV8 dc8 pm8 cd8 ct8 oc9 kV9 dc9 pm9 cd9 ct9 oc10 kV10 dc10 pm10 cd10 ct10 oc11 kV11 dc11 pm11 cd11 ct11 : Value}
    (a0 : PySem.W.nsIn K mainGlobals "worth_key" = some (some (.ref f0))) (l0 : K.lookup f0 = some ⟨oc0, od0, .func (PySem.W.fnOf "worth_key" "worth_key" (defArgs s_worth_key) (defBody s_worth_key) (defScope s_worth_key) .none kV0 dc0 pm0 an0 cd0 ct0), sl0⟩) (c0 : PySem.W.codeIn K cd0 "worth_key" = true) (k0 : PySem.W.keepIn K (.ref f0) = true)
    (a1 : PySem.W.nsIn K mainGlobals "row_key" = some (some (.ref f1))) (l1 : K.lookup f1 = some ⟨oc1, od1, .func (PySem.W.fnOf "row_key" "row_key" (defArgs s_row_key) (defBody s_row_key) (defScope s_row_key) .none kV1 dc1 pm1 an1 cd1 ct1), sl1⟩) (c1 : PySem.W.codeIn K cd1 "row_key" = true) (k1 : PySem.W.keepIn K (.ref f1) = true)
    (a2 : PySem.W.nsIn K mainGlobals "rising" = some (some (.ref f2))) (l2 : K.lookup f2 = some ⟨oc2, od2, .func (PySem.W.fnOf "rising" "rising" (defArgs s_rising) (defBody s_rising) (defScope s_rising) .none kV2 dc2 pm2 an2 cd2 ct2), sl2⟩) (c2 : PySem.W.codeIn K cd2 "rising" = true) (k2 : PySem.W.keepIn K (.ref f2) = true)
    (a3 : PySem.W.nsIn K mainGlobals "_law_deck" = some (some (.ref f3))) (l3 : K.lookup f3 = some ⟨oc3, od3, .func (PySem.W.fnOf "_law_deck" "_law_deck" (defArgs s__law_deck) (defBody s__law_deck) (defScope s__law_deck) .none kV3 dc3 pm3 an3 cd3 ct3), sl3⟩) (c3 : PySem.W.codeIn K cd3 "_law_deck" = true) (k3 : PySem.W.keepIn K (.ref f3) = true)
    (a4 : PySem.W.nsIn K mainGlobals "_law_draw" = some (some (.ref f4))) (l4 : K.lookup f4 = some ⟨oc4, od4, .func (PySem.W.fnOf "_law_draw" "_law_draw" (defArgs s__law_draw) (defBody s__law_draw) (defScope s__law_draw) .none kV4 dc4 pm4 an4 cd4 ct4), sl4⟩) (c4 : PySem.W.codeIn K cd4 "_law_draw" = true) (k4 : PySem.W.keepIn K (.ref f4) = true)
    (a5 : PySem.W.nsIn K mainGlobals "_law_pick" = some (some (.ref f5))) (l5 : K.lookup f5 = some ⟨oc5, od5, .func (PySem.W.fnOf "_law_pick" "_law_pick" (defArgs s__law_pick) (defBody s__law_pick) (defScope s__law_pick) .none kV5 dc5 pm5 an5 cd5 ct5), sl5⟩) (c5 : PySem.W.codeIn K cd5 "_law_pick" = true) (k5 : PySem.W.keepIn K (.ref f5) = true)
    (a6 : PySem.W.nsIn K mainGlobals "_law_worth" = some (some (.ref f6))) (l6 : K.lookup f6 = some ⟨oc6, od6, .func (PySem.W.fnOf "_law_worth" "_law_worth" (defArgs s__law_worth) (defBody s__law_worth) (defScope s__law_worth) .none kV6 dc6 pm6 an6 cd6 ct6), sl6⟩) (c6 : PySem.W.codeIn K cd6 "_law_worth" = true) (k6 : PySem.W.keepIn K (.ref f6) = true)
    (a7 : PySem.W.nsIn K mainGlobals "_law_lines" = some (some (.ref f7))) (l7 : K.lookup f7 = some ⟨oc7, od7, .func (PySem.W.fnOf "_law_lines" "_law_lines" (defArgs s__law_lines) (defBody s__law_lines) (defScope s__law_lines) .none kV7 dc7 pm7 an7 cd7 ct7), sl7⟩) (c7 : PySem.W.codeIn K cd7 "_law_lines" = true) (k7 : PySem.W.keepIn K (.ref f7) = true)
    (a8 : PySem.W.nsIn K mainGlobals "_law_rank" = some (some (.ref f8))) (l8 : K.lookup f8 = some ⟨oc8, od8, .func (PySem.W.fnOf "_law_rank" "_law_rank" (defArgs s__law_rank) (defBody s__law_rank) (defScope s__law_rank) .none kV8 dc8 pm8 an8 cd8 ct8), sl8⟩) (c8 : PySem.W.codeIn K cd8 "_law_rank" = true) (k8 : PySem.W.keepIn K (.ref f8) = true)
    (a9 : PySem.W.nsIn K mainGlobals "_law_is_less" = some (some (.ref f9))) (l9 : K.lookup f9 = some ⟨oc9, od9, .func (PySem.W.fnOf "_law_is_less" "_law_is_less" (defArgs s__law_is_less) (defBody s__law_is_less) (defScope s__law_is_less) .none kV9 dc9 pm9 an9 cd9 ct9), sl9⟩) (c9 : PySem.W.codeIn K cd9 "_law_is_less" = true) (k9 : PySem.W.keepIn K (.ref f9) = true)
    (a10 : PySem.W.nsIn K mainGlobals "_law_due" = some (some (.ref f10))) (l10 : K.lookup f10 = some ⟨oc10, od10, .func (PySem.W.fnOf "_law_due" "_law_due" (defArgs s__law_due) (defBody s__law_due) (defScope s__law_due) .none kV10 dc10 pm10 an10 cd10 ct10), sl10⟩) (c10 : PySem.W.codeIn K cd10 "_law_due" = true) (k10 : PySem.W.keepIn K (.ref f10) = true)
    (a11 : PySem.W.nsIn K mainGlobals "law" = some (some (.ref f11))) (l11 : K.lookup f11 = some ⟨oc11, od11, .func (PySem.W.fnOf "law" "law" (defArgs s_law) (defBody s_law) (defScope s_law) .none kV11 dc11 pm11 an11 cd11 ct11), sl11⟩) (c11 : PySem.W.codeIn K cd11 "law" = true) (k11 : PySem.W.keepIn K (.ref f11) = true)
    (z_isinstance : PySem.W.nsIn K mainGlobals "isinstance" = some none)
    (z_len : PySem.W.nsIn K mainGlobals "len" = some none)
    (z_list : PySem.W.nsIn K mainGlobals "list" = some none)
    (z_min : PySem.W.nsIn K mainGlobals "min" = some none)
    (z_range : PySem.W.nsIn K mainGlobals "range" = some none)
    (z_repr : PySem.W.nsIn K mainGlobals "repr" = some none)
    (z_sorted : PySem.W.nsIn K mainGlobals "sorted" = some none)
    (z_str : PySem.W.nsIn K mainGlobals "str" = some none)
    (z_sum : PySem.W.nsIn K mainGlobals "sum" = some none)
    (z_tuple : PySem.W.nsIn K mainGlobals "tuple" = some none)
    : ∃ fd : FuncData, (∀ (s : Shared) (v : Value), BindsTo s fd ⟨[v], []⟩ [("script", v)]) ∧ ∀ base : Heap, K.In base → base.Ns mainGlobals mg → FnG l.prog w K mg base CX0 6 fa fd ["script"] (spOf K (lawSp 63)) := by
  have e := hfa.symm.trans (PySem.W.mg_of X G a11)
  cases e
  have F0 := fun_mk (st := s_worth_key) l0 c0 k0
  have b0 := F0.binds (ps := ["worth"]) fun _ _ _ _ _ _ us hl => match us, hl with | [_], _ => rfl
  have F1 := fun_mk (st := s_row_key) l1 c1 k1
  have b1 := F1.binds (ps := ["row"]) fun _ _ _ _ _ _ us hl => match us, hl with | [_], _ => rfl
  have F2 := fun_mk (st := s_rising) l2 c2 k2
  have b2 := F2.binds (ps := ["rows"]) fun _ _ _ _ _ _ us hl => match us, hl with | [_], _ => rfl
  have F3 := fun_mk (st := s__law_deck) l3 c3 k3
  have b3 := F3.binds (ps := ["script"]) fun _ _ _ _ _ _ us hl => match us, hl with | [_], _ => rfl
  have F4 := fun_mk (st := s__law_draw) l4 c4 k4
  have b4 := F4.binds (ps := ["deck", "most"]) fun _ _ _ _ _ _ us hl => match us, hl with | [_, _], _ => rfl
  have F5 := fun_mk (st := s__law_pick) l5 c5 k5
  have b5 := F5.binds (ps := ["deck", "some"]) fun _ _ _ _ _ _ us hl => match us, hl with | [_, _], _ => rfl
  have F6 := fun_mk (st := s__law_worth) l6 c6 k6
  have b6 := F6.binds (ps := ["deck"]) fun _ _ _ _ _ _ us hl => match us, hl with | [_], _ => rfl
  have F7 := fun_mk (st := s__law_lines) l7 c7 k7
  have b7 := F7.binds (ps := ["deck", "many"]) fun _ _ _ _ _ _ us hl => match us, hl with | [_, _], _ => rfl
  have F8 := fun_mk (st := s__law_rank) l8 c8 k8
  have b8 := F8.binds (ps := ["worth"]) fun _ _ _ _ _ _ us hl => match us, hl with | [_], _ => rfl
  have F9 := fun_mk (st := s__law_is_less) l9 c9 k9
  have b9 := F9.binds (ps := ["one", "two"]) fun _ _ _ _ _ _ us hl => match us, hl with | [_, _], _ => rfl
  have F10 := fun_mk (st := s__law_due) l10 c10 k10
  have b10 := F10.binds (ps := ["lines"]) fun _ _ _ _ _ _ us hl => match us, hl with | [_], _ => rfl
  have F11 := fun_mk (st := s_law) l11 c11 k11
  have b11 := F11.binds (ps := ["script"]) fun _ _ _ _ _ _ us hl => match us, hl with | [_], _ => rfl
  let T : Top K mg w := ⟨f0, _, F0, PySem.W.mg_of X G a0, b0, f1, _, F1, PySem.W.mg_of X G a1, b1, f2, _, F2, PySem.W.mg_of X G a2, b2, f3, _, F3, PySem.W.mg_of X G a3, b3, f4, _, F4, PySem.W.mg_of X G a4, b4, f5, _, F5, PySem.W.mg_of X G a5, b5, f6, _, F6, PySem.W.mg_of X G a6, b6, f7, _, F7, PySem.W.mg_of X G a7, b7, f8, _, F8, PySem.W.mg_of X G a8, b8, f9, _, F9, PySem.W.mg_of X G a9, b9, f10, _, F10, PySem.W.mg_of X G a10, b10, fa, _, F11, PySem.W.mg_of X G a11, b11, PySem.W.mg_none_of X G z_isinstance, PySem.W.mg_none_of X G z_len, PySem.W.mg_none_of X G z_list, PySem.W.mg_none_of X G z_min, PySem.W.mg_none_of X G z_range, PySem.W.mg_none_of X G z_repr, PySem.W.mg_none_of X G z_sorted, PySem.W.mg_none_of X G z_str, PySem.W.mg_none_of X G z_sum, PySem.W.mg_none_of X G z_tuple⟩
  exact ⟨_, fun s v => .of_eq rfl, fun base _ _ => ok_law T⟩
end K02
open PySem PySem.W PyProof.Rows
set_option maxHeartbeats 0 in
theorem PySem.Challenge.cw_stillboughs_k02_rows_rising_holds : PySem.Challenge.rw_stillboughs_k02_rows_rising.Holds := by
  w_on; o_law; k_head; (case hw => w_witness2)
  k_fill
  refine DL.walk_ofG (l := PySem.Challenge.rw_stillboughs_k02_rows_rising) (n := 63) (k := 6) (x := "script") rfl (by decide) rfl ⟨rfl, by decide, by decide⟩ (fun w h Y => PySem.W.kIn_of Y) ?F
  case F =>
    intro w mg fa h KX G hmg
    refine' K02.all_mk KX G hmg ?a0 ?l0 ?c0 ?k0 ?a1 ?l1 ?c1 ?k1 ?a2 ?l2 ?c2 ?k2 ?a3 ?l3 ?c3 ?k3 ?a4 ?l4 ?c4 ?k4 ?a5 ?l5 ?c5 ?k5 ?a6 ?l6 ?c6 ?k6 ?a7 ?l7 ?c7 ?k7 ?a8 ?l8 ?c8 ?k8 ?a9 ?l9 ?c9 ?k9 ?a10 ?l10 ?c10 ?k10 ?a11 ?l11 ?c11 ?k11 ?z_isinstance ?z_len ?z_list ?z_min ?z_range ?z_repr ?z_sorted ?z_str ?z_sum ?z_tuple
    (case a0 => k_is); (case l0 => k_is); (case c0 => k_is); (case k0 => k_is); (case a1 => k_is); (case l1 => k_is); (case c1 => k_is); (case k1 => k_is); (case a2 => k_is); (case l2 => k_is); (case c2 => k_is); (case k2 => k_is); (case a3 => k_is); (case l3 => k_is); (case c3 => k_is); (case k3 => k_is); (case a4 => k_is); (case l4 => k_is); (case c4 => k_is); (case k4 => k_is); (case a5 => k_is); (case l5 => k_is); (case c5 => k_is); (case k5 => k_is); (case a6 => k_is); (case l6 => k_is); (case c6 => k_is); (case k6 => k_is); (case a7 => k_is); (case l7 => k_is); (case c7 => k_is); (case k7 => k_is); (case a8 => k_is); (case l8 => k_is); (case c8 => k_is); (case k8 => k_is); (case a9 => k_is); (case l9 => k_is); (case c9 => k_is); (case k9 => k_is); (case a10 => k_is); (case l10 => k_is); (case c10 => k_is); (case k10 => k_is); (case a11 => k_is); (case l11 => k_is); (case c11 => k_is); (case k11 => k_is); (case z_isinstance => k_is); (case z_len => k_is); (case z_list => k_is); (case z_min => k_is); (case z_range => k_is); (case z_repr => k_is); (case z_sorted => k_is); (case z_str => k_is); (case z_sum => k_is); (case z_tuple => k_is)

