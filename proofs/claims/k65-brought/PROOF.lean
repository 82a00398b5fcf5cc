import PyProof.Rows.All
import Wide.All
import OpenK.AllK
import Wide.FinOn
import HandS.ForMost
import HandS.TupAny
import HandS.IsInst
import HandS.Strs
import HandS.TryOnly
import HandS.More
import HandS.SetFor
import HandS.TupMul
import KE.KRevSl
import HandS.ForDict
import HandS.WordsExc
import HandS.ExcOwn
import HandS.ForExc
import HandS.ExcIs
import PySem.Challenge.RW_whence_k65_brought
set_option Elab.async false
set_option linter.all false
set_option maxRecDepth 100000
set_option maxHeartbeats 4000000
/-! # Data without a heap: what a value is worth, the frame and the whole of what stands -/
namespace Wh
open PySem L2

/-- data: a scalar (or a thing that is known by its address), a tuple, a list, a dict with text keys -/
inductive D where
  | a (v : V)
  | tup (ds : List D)
  | lst (ds : List D)
  | dic (ks : List Str) (ds : List D)

/-- a dict's pairs -/
def kvz (ks : List Str) (xs : List V) : List (Key × V) := (ks.map Sum.inr).zip xs

/-- a tuple whose very object is known to bear no dict of its own -/
def TupAt (H : Hp) (p : Addr) (xs : List V) : Prop := ∃ o : Obj, H p = some (.frz o (.tup xs)) ∧ o.dict = none ∧ o.cls = .type "tuple"
theorem TupAt.sq {K : PySem.W.Frag} {H : Hp} {p : Addr} {xs : List V} (h : TupAt H p xs) : SqT K H p xs := let ⟨o, e, _⟩ := h; .inl (.inr ⟨o, e⟩)

mutual
def Is (K : PySem.W.Frag) (H : Hp) : D → V → Prop
  | .a v, u => u = v
  | .tup ds, u => ∃ p xs, u = .ref p ∧ TupAt H p xs ∧ IsL K H ds xs
  | .lst ds, u => ∃ p xs, u = .ref p ∧ SqL K H p xs ∧ IsL K H ds xs
  | .dic ks ds, u => ∃ p xs, u = .ref p ∧ H p = some (.dK (kvz ks xs)) ∧ ks.length = xs.length ∧ IsL K H ds xs
def IsL (K : PySem.W.Frag) (H : Hp) : List D → List V → Prop
  | [], xs => xs = []
  | d :: ds, xs => ∃ x r, xs = x :: r ∧ Is K H d x ∧ IsL K H ds r
end

theorem sq_l {K : PySem.W.Frag} {H H' : Hp} {p : Addr} {xs : List V} (e : Same H H') (h : SqL K H p xs) : SqL K H' p xs := e.seq h
theorem TupAt.up {H H' : Hp} {p : Addr} {xs : List V} (e : Same H H') (h : TupAt H p xs) : TupAt H' p xs := let ⟨o, q, r⟩ := h; ⟨o, e _ _ q, r⟩
theorem sq_t {K : PySem.W.Frag} {H H' : Hp} {p : Addr} {xs : List V} (e : Same H H') (h : SqT K H p xs) : SqT K H' p xs := by
  rcases h with (h | ⟨o, h⟩) | h
  · exact .inl (.inl (e _ _ h))
  · exact .inl (.inr ⟨o, e _ _ h⟩)
  · exact .inr h

mutual
theorem Is.mono {K : PySem.W.Frag} {H H' : Hp} (e : Same H H') : ∀ (d : D) (u : V), Is K H d u → Is K H' d u
  | .a _, _, h => h
  | .tup ds, _, h => by
    obtain ⟨p, xs, h1, h2, h3⟩ := h
    exact ⟨p, xs, h1, h2.up e, IsL.mono e ds xs h3⟩
  | .lst ds, _, h => by
    obtain ⟨p, xs, h1, h2, h3⟩ := h
    exact ⟨p, xs, h1, sq_l e h2, IsL.mono e ds xs h3⟩
  | .dic ks ds, _, h => by
    obtain ⟨p, xs, h1, h2, h3, h4⟩ := h
    exact ⟨p, xs, h1, e _ _ h2, h3, IsL.mono e ds xs h4⟩
theorem IsL.mono {K : PySem.W.Frag} {H H' : Hp} (e : Same H H') : ∀ (ds : List D) (xs : List V), IsL K H ds xs → IsL K H' ds xs
  | [], _, h => h
  | d :: ds, _, h => by
    obtain ⟨x, r, h1, h2, h3⟩ := h
    exact ⟨x, r, h1, Is.mono e d x h2, IsL.mono e ds r h3⟩
end

section
variable {K : PySem.W.Frag} {H H' : Hp}
theorem IsL.nil : IsL K H [] [] := rfl
theorem IsL.cons {d : D} {ds : List D} {x : V} {xs : List V} (h : Is K H d x) (t : IsL K H ds xs) : IsL K H (d :: ds) (x :: xs) := ⟨x, xs, rfl, h, t⟩
theorem IsL.len : ∀ {ds : List D} {xs : List V}, IsL K H ds xs → ds.length = xs.length
  | [], _, h => by cases (show _ = [] from h); rfl
  | d :: ds, _, h => by
    obtain ⟨x, r, rfl, _, h3⟩ := h
    simp only [List.length_cons, IsL.len h3]
theorem IsL.get : ∀ {ds : List D} {xs : List V} {i : Nat} {d : D}, IsL K H ds xs → ds[i]? = some d → ∃ x, xs[i]? = some x ∧ Is K H d x
  | [], _, _, _, _, e => by simp at e
  | d :: ds, _, 0, _, h, e => by
    obtain ⟨x, r, rfl, h2, _⟩ := h
    simp at e
    subst e
    exact ⟨x, rfl, h2⟩
  | d :: ds, _, i + 1, _, h, e => by
    obtain ⟨x, r, rfl, _, h3⟩ := h
    obtain ⟨y, e1, e2⟩ := IsL.get (i := i) h3 (by simpa using e)
    exact ⟨y, by simpa using e1, e2⟩
theorem IsL.getV : ∀ {ds : List D} {xs : List V} {i : Nat} {x : V}, IsL K H ds xs → xs[i]? = some x → ∃ d, ds[i]? = some d ∧ Is K H d x := fun {ds xs i x} h e => by
  have hi : i < ds.length := by rw [h.len]; exact (List.getElem?_eq_some_iff.mp e).1
  obtain ⟨y, e1, e2⟩ := h.get (List.getElem?_eq_getElem hi)
  rw [e] at e1
  cases e1
  exact ⟨_, List.getElem?_eq_getElem hi, e2⟩
theorem IsL.append : ∀ {ds es : List D} {xs ys : List V}, IsL K H ds xs → IsL K H es ys → IsL K H (ds ++ es) (xs ++ ys)
  | [], _, _, _, h, t => by cases (show _ = [] from h); exact t
  | d :: ds, _, _, _, h, t => by
    obtain ⟨x, r, rfl, h2, h3⟩ := h
    exact .cons h2 (IsL.append h3 t)
theorem IsL.drop : ∀ {ds : List D} {xs : List V} (n : Nat), IsL K H ds xs → IsL K H (ds.drop n) (xs.drop n)
  | _, _, 0, h => h
  | [], _, n + 1, h => by cases (show _ = [] from h); exact IsL.nil
  | d :: ds, _, n + 1, h => by
    obtain ⟨x, r, rfl, _, h3⟩ := h
    exact IsL.drop n h3
theorem IsL.take : ∀ {ds : List D} {xs : List V} (n : Nat), IsL K H ds xs → IsL K H (ds.take n) (xs.take n)
  | _, _, 0, _ => IsL.nil
  | [], _, n + 1, h => by cases (show _ = [] from h); exact IsL.nil
  | d :: ds, _, n + 1, h => by
    obtain ⟨x, r, rfl, h2, h3⟩ := h
    exact .cons h2 (IsL.take n h3)
theorem IsL.set : ∀ {ds : List D} {xs : List V} (n : Nat) {d : D} {x : V}, IsL K H ds xs → Is K H d x → IsL K H (ds.set n d) (xs.set n x)
  | [], _, _, _, _, h, _ => by cases (show _ = [] from h); exact IsL.nil
  | d :: ds, _, 0, _, _, h, q => by
    obtain ⟨x, r, rfl, _, h3⟩ := h
    exact .cons q h3
  | d :: ds, _, n + 1, _, _, h, q => by
    obtain ⟨x, r, rfl, h2, h3⟩ := h
    exact .cons h2 (IsL.set n h3 q)
theorem IsL.reverse : ∀ {ds : List D} {xs : List V}, IsL K H ds xs → IsL K H ds.reverse xs.reverse
  | [], _, h => by cases (show _ = [] from h); exact IsL.nil
  | d :: ds, _, h => by
    obtain ⟨x, r, rfl, h2, h3⟩ := h
    rw [List.reverse_cons, List.reverse_cons]
    exact (IsL.reverse h3).append (.cons h2 .nil)
/-- scalars -/
theorem IsL.scal : ∀ (xs : List V), IsL K H (xs.map D.a) xs
  | [] => IsL.nil
  | x :: r => .cons rfl (IsL.scal r)
theorem IsL.scal_eq : ∀ {xs ys : List V}, IsL K H (xs.map D.a) ys → ys = xs
  | [], _, h => h
  | x :: r, _, h => by
    obtain ⟨y, t, rfl, h2, h3⟩ := h
    rw [IsL.scal_eq h3, show y = x from h2]
end

/-! ### the frame F (what data may lean on) within the heap H -/
structure Ext (F H F' H' : Hp) : Prop where
  f : Same F F'
  h : Same H H'
  s : Same F' H'
  n : ∀ b o, F' b = some o → F b = some o ∨ H b = none
section
variable {F H F' H' F'' H'' : Hp} {p : Addr} {o : HO}
theorem Ext.refl (s : Same F H) : Ext F H F H := ⟨Same.refl F, Same.refl H, s, fun _ _ e => .inl e⟩
theorem Ext.trans (a : Ext F H F' H') (b : Ext F' H' F'' H'') : Ext F H F'' H'' := ⟨a.f.trans b.f, a.h.trans b.h, b.s, fun c o e => by
  rcases b.n c o e with h | h
  · exact a.n c o h
  · exact .inr (a.h.free h)⟩
theorem same_new (h : H p = none) : Same H (upd H p o) := fun b u e => by
  rw [upd_ne (ne_of_none e h)]
  exact e
theorem Ext.new (s : Same F H) (h : H p = none) : Ext F H (upd F p o) (upd H p o) := by
  have hf : F p = none := s.free h
  refine ⟨same_new hf, same_new h, fun b u e => ?_, fun b u e => ?_⟩
  · by_cases hb : b = p
    · subst hb
      rw [upd_same] at e ⊢
      exact e
    · rw [upd_ne hb] at e ⊢
      exact s b u e
  · by_cases hb : b = p
    · subst hb
      exact .inr h
    · rw [upd_ne hb] at e
      exact .inl e
end

/-! ### the store: an instance with two dicts; it stands outside the frame -/
structure Sto where
  p : Addr
  ts : List Str
  hs : List D
  ns : List Str
  rs : List D
  mine : Bool
def sflds (am as : Addr) : List (Str × V) := [("made", V.ref am), ("stood", V.ref as)]
def StoAt (K : PySem.W.Frag) (C : Addr) (H0 F H : Hp) (s : Sto) : Prop := ∃ (dx am as : Addr) (xs ys : List V), H s.p = some (.ins C dx (sflds am as)) ∧ H am = some (.dK (kvz s.ts xs)) ∧ H as = some (.dK (kvz s.ns ys)) ∧ am ≠ as ∧
  s.ts.length = xs.length ∧ s.ns.length = ys.length ∧ F s.p = none ∧ F am = none ∧ F as = none ∧ IsL K F s.hs xs ∧ IsL K F s.rs ys ∧ (s.mine = true → H0 s.p = none ∧ H0 am = none ∧ H0 as = none)
def StoO (K : PySem.W.Frag) (C : Addr) (H0 F H : Hp) : Option Sto → Prop
  | none => True
  | some s => StoAt K C H0 F H s
theorem Ext.off {F H F' H' : Hp} (x : Ext F H F' H') {b : Addr} {o : HO} (h : H b = some o) (f : F b = none) : F' b = none := by
  cases q : F' b with
  | none => rfl
  | some u =>
    rcases x.n b u q with z | z
    · rw [f] at z; cases z
    · rw [h] at z; cases z
theorem StoAt.ext {K : PySem.W.Frag} {C : Addr} {H0 F H F' H' : Hp} {s : Sto} (x : Ext F H F' H') (h : StoAt K C H0 F H s) : StoAt K C H0 F' H' s := by
  obtain ⟨dx, am, as, xs, ys, h1, h2, h3, ne, l1, l2, f1, f2, f3, i1, i2, m⟩ := h
  exact ⟨dx, am, as, xs, ys, x.h _ _ h1, x.h _ _ h2, x.h _ _ h3, ne, l1, l2, x.off h1 f1, x.off h2 f2, x.off h3 f3, IsL.mono x.f _ _ i1, IsL.mono x.f _ _ i2, m⟩
theorem StoO.ext {K : PySem.W.Frag} {C : Addr} {H0 F H F' H' : Hp} {s : Option Sto} (x : Ext F H F' H') (h : StoO K C H0 F H s) : StoO K C H0 F' H' s := by
  cases s with
  | none => trivial
  | some s => exact StoAt.ext x h

/-! ### what is known of a def's names: data by slot, one list that the def owns (its slot, its items), the store -/
structure DSt where
  sl : List (Option D)
  own : Option (Nat × List D) := none
  sto : Option Sto := none
structure Env (K : PySem.W.Frag) (C : Addr) (F0 H0 F H : Hp) (σ : St) (ρ : DSt) : Prop where
  ext : Ext F0 H0 F H
  len : ρ.sl.length = σ.length
  ok : ∀ (i : Nat) d, ρ.sl[i]? = some (some d) → ∃ u, σ[i]? = some (some u) ∧ Is K F d u
  own : ∀ (i : Nat) ds, ρ.own = some (i, ds) → ∃ p xs, σ[i]? = some (some (.ref p)) ∧ H p = some (.lst xs) ∧ F p = none ∧ H0 p = none ∧ IsL K F ds xs
  sto : StoO K C H0 F H ρ.sto
section
variable {K : PySem.W.Frag} {C : Addr} {F0 H0 F H F' H' : Hp} {σ : St} {ρ : DSt}
theorem Env.grow (e : Env K C F0 H0 F H σ ρ) (x : Ext F H F' H') : Env K C F0 H0 F' H' σ ρ where
  ext := e.ext.trans x
  len := e.len
  ok := fun i d q => by
    obtain ⟨u, h1, h2⟩ := e.ok i d q
    exact ⟨u, h1, Is.mono x.f d u h2⟩
  own := fun i ds q => by
    obtain ⟨p, xs, h1, h2, h3, h4, h5⟩ := e.own i ds q
    exact ⟨p, xs, h1, x.h _ _ h2, x.off h2 h3, h4, IsL.mono x.f _ _ h5⟩
  sto := e.sto.ext x
theorem Env.sm (e : Env K C F0 H0 F H σ ρ) : Same F H := e.ext.s
end

/-! ### readings of expressions, tests, arguments over data -/
abbrev DT := DSt → (D → Prop) → Prop
abbrev DTT := DSt → (Bool → Prop) → Prop
abbrev DTA := DSt → (List D → Prop) → Prop
def DV (K : PySem.W.Frag) (C : Addr) (t : TE) (w : DT) : Prop := ∀ (F0 H0 F H : Hp) (σ : St) (ρ : DSt) (k : D → Prop) (Q : VK), Env K C F0 H0 F H σ ρ → w ρ k → (∀ d v F' H', Ext F H F' H' → Is K F' d v → k d → Q v H') → t σ H Q
def DVT (K : PySem.W.Frag) (C : Addr) (t : TT) (w : DTT) : Prop := ∀ (F0 H0 F H : Hp) (σ : St) (ρ : DSt) (k : Bool → Prop) (Q : Bool → Hp → Prop), Env K C F0 H0 F H σ ρ → w ρ k → (∀ b F' H', Ext F H F' H' → k b → Q b H') → t σ H Q
def DVA (K : PySem.W.Frag) (C : Addr) (t : TA) (w : DTA) : Prop := ∀ (F0 H0 F H : Hp) (σ : St) (ρ : DSt) (k : List D → Prop) (Q : List V → Hp → Prop), Env K C F0 H0 F H σ ρ → w ρ k → (∀ ds vs F' H', Ext F H F' H' → IsL K F' ds vs → k ds → Q vs H') → t σ H Q
structure DE (X : Cx) (C : Addr) (e : Expr) (t : TE) (w : DT) : Prop where
  pe : PE X e t
  dv : DV X.K C t w
structure DP (X : Cx) (C : Addr) (e : Expr) (t : TT) (w : DTT) : Prop where
  pt : PT X e t
  dv : DVT X.K C t w
structure DW (X : Cx) (C : Addr) (e : Expr) (t : TT) (w : DTT) : Prop where
  pw : PW X e t
  dv : DVT X.K C t w
structure DA (X : Cx) (C : Addr) (es : List Expr) (t : TA) (w : DTA) : Prop where
  pa : PA X es t
  dv : DVA X.K C t w
theorem DW.dp {X : Cx} {C : Addr} {e : Expr} {t : TT} {w : DTT} (h : DW X C e t w) : DP X C e t w := ⟨h.pw.pt, h.dv⟩

/-! ### of statements -/
structure DEnds where
  nx : DSt → Prop
  rt : D → Prop
  bk : DSt → Prop := fun _ => False
  ct : DSt → Prop := fun _ => False
  rs : DSt → D → Prop := fun _ _ => False
abbrev DTS := DSt → DEnds → Prop
structure EndsOk (K : PySem.W.Frag) (C : Addr) (F0 H0 : Hp) (k : DEnds) (E : Ends) : Prop where
  nx : ∀ F H σ ρ, Env K C F0 H0 F H σ ρ → k.nx ρ → E.nx σ H
  rt : ∀ F H d v, Ext F0 H0 F H → Is K F d v → k.rt d → E.rt v H
  bk : ∀ F H σ ρ, Env K C F0 H0 F H σ ρ → k.bk ρ → E.bk σ H
  ct : ∀ F H σ ρ, Env K C F0 H0 F H σ ρ → k.ct ρ → E.ct σ H
  rs : ∀ F H σ ρ d v, Env K C F0 H0 F H σ ρ → Is K F d v → k.rs ρ d → E.rt v H
def DVS (K : PySem.W.Frag) (C : Addr) (t : TS) (w : DTS) : Prop := ∀ (F0 H0 F H : Hp) (σ : St) (ρ : DSt) (k : DEnds) (E : Ends), Env K C F0 H0 F H σ ρ → w ρ k → EndsOk K C F0 H0 k E → t E σ H
structure DS (X : Cx) (C : Addr) (st : Stmt) (t : TS) (w : DTS) : Prop where
  ps : PS X st t
  dv : DVS X.K C t w
structure DSs (X : Cx) (C : Addr) (st : List Stmt) (t : TS) (w : DTS) : Prop where
  ps : PSs X st t
  dv : DVS X.K C t w

/-! ### what a def promises over data -/
structure FS where
  run : Option Sto → List D → (D → Prop) → Prop
  mono : ∀ so ds (k k' : D → Prop), (∀ d, k d → k' d) → run so ds k → run so ds k'
def sp (K : PySem.W.Frag) (C : Addr) (f : FS) : Sp := fun vs H Q _ => ∃ F so ds, Same F H ∧ StoO K C H F H so ∧ IsL K F ds vs ∧ f.run so ds fun d => ∀ v F' H', Ext F H F' H' → Is K F' d v → Q v H'
end Wh

/-! # Operators over data -/
namespace Wh
open PySem L2 PyProof.Rows

abbrev D2 := D → D → (D → Prop) → Prop
structure DO (X : Cx) (f : Value → Value → Sem Value) (r : R2) (g : D2) : Prop where
  op : OpR X f r
  dv : ∀ (F H : Hp) (d e : D) (x y : V) (k : D → Prop) (Q : VK), Same F H → Is X.K F d x → Is X.K F e y → g d e k → (∀ d v F' H', Ext F H F' H' → Is X.K F' d v → k d → Q v H') → r x y H Q

theorem fa {K : PySem.W.Frag} {F H : Hp} {v : V} {k : D → Prop} {Q : VK} (s : Same F H) (q : ∀ d v F' H', Ext F H F' H' → Is K F' d v → k d → Q v H') (h : k (.a v)) : Q v H := q (.a v) v F H (Ext.refl s) rfl h
/-! ### list + list, any lists -/
def rCatL (K : PySem.W.Frag) : R2 := fun x y H Q => ∃ l b xs zs, x = .ref l ∧ y = .ref b ∧ SqL K H l xs ∧ SqL K H b zs ∧ xs.length + zs.length ≤ sizeLine ∧ ∀ p, H p = none → Q (.ref p) (upd H p (.lst (xs ++ zs)))
theorem op_catL {X : Cx} : OpR X (binaryOp .Add) (rCatL X.K) := by
  intro pins s σ H x y v u Q I rx ry h
  obtain ⟨l, b, xs, zs, rfl, rfl, hl, hb, hz, q⟩ := h
  cases rx
  cases ry
  obtain ⟨its, r, ⟨⟨cls, dd, data, sl⟩, n, ho, hc, h0, hd⟩, z1⟩ := I.list hl
  obtain ⟨its2, r2, ⟨⟨cls2, dd2, data2, sl2⟩, n2, ho2, hc2, h02, hd2⟩, z2⟩ := I.list hb
  simp only at hc hd hc2 hd2
  subst hc hd hc2 hd2
  have e1 := r.length
  have e2 := r2.length
  refine concat_meets ⟨_, ho, rfl⟩ ⟨_, ho2, rfl⟩ noFill_list_add seq_list_add PySem.F.slot_list_add PySem.F.entry_list_add (PySem.F.args_list_add_2 _ _) (list_addW l b its.toArray its2.toArray n n2 dd dd2 sl sl2 (by rw [List.size_toArray, List.size_toArray]; omega)) ⟨ho, ho2, ?_⟩
  have ea : its.toArray ++ its2.toArray = (its ++ its2).toArray := by simp
  rw [ea]
  exact ⟨.ref _, _, I.lnew (t' := s.toks) (r.append r2) (by rw [List.length_append]; omega), rfl, q _ I.fresh⟩

/-! ### tuples as they are made: the object is known -/
def NewT (xs : List V) (H : Hp) (Q : VK) : Prop := ∀ (p : Addr) (o : Obj), H p = none → o.dict = none → o.cls = .type "tuple" → Q (.ref p) (upd H p (.frz o (.tup xs)))
theorem made_tup {X : Cx} {pins : List (Addr × Obj)} {σ : L2.St} {H : Hp} {s : Shared} {xs : List V} {its : List Value} {Q : VK} {t' : Nat} (I : Inv X pins σ H s) (r : Vals xs its) (hz : xs.length ≤ sizeLine) (q : NewT xs H Q) :
    EP X pins σ Q (.ref s.heap.objs.size) { s with heap := s.heap.push { cls := .type "tuple", data := .seq its.toArray }, toks := t' } := by
  refine ⟨.ref s.heap.objs.size, _, I.laid (t' := t') (a := s.heap.objs.size) (o := .frz { cls := .type "tuple", data := .seq its.toArray } (.tup xs)) (fun b o e => Heap.get?_push_of_some _ e) (Nat.le_refl _) ?_, rfl, q _ _ (I.hok.fresh (Nat.le_refl _)) rfl rfl⟩
  exact ⟨Heap.get?_push_size _ rfl, hz, its, r, IsTup.new _ _⟩
/-- a new tuple, a new list, of values that are worth ds -/
theorem new_tup {K : PySem.W.Frag} {F H : Hp} {ds : List D} {xs : List V} {k : D → Prop} {Q : VK} (s : Same F H) (i : IsL K F ds xs) (h : k (.tup ds)) (q : ∀ d v F' H', Ext F H F' H' → Is K F' d v → k d → Q v H') : NewT xs H Q := fun p o hp h1 h2 => by
  have x := Ext.new (o := .frz o (.tup xs)) s hp
  exact q (.tup ds) _ _ _ x ⟨p, xs, rfl, ⟨o, upd_same, h1, h2⟩, IsL.mono x.f _ _ i⟩ h
theorem new_lst {K : PySem.W.Frag} {F H : Hp} {ds : List D} {xs : List V} {k : D → Prop} {Q : VK} {p : Addr} (s : Same F H) (hp : H p = none) (i : IsL K F ds xs) (h : k (.lst ds)) (q : ∀ d v F' H', Ext F H F' H' → Is K F' d v → k d → Q v H') : Q (.ref p) (upd H p (.lst xs)) := by
  have x := Ext.new (o := .lst xs) s hp
  exact q (.lst ds) _ _ _ x ⟨p, xs, rfl, SqL.of upd_same, IsL.mono x.f _ _ i⟩ h

/-! ### tuple + tuple -/
def rCatT4 (K : PySem.W.Frag) : R2 := fun x y H Q => ∃ a b xs ys, x = .ref a ∧ y = .ref b ∧ SqT K H a xs ∧ SqT K H b ys ∧ xs.length + ys.length ≤ sizeLine ∧
  (xs = [] → Q (.ref b) H) ∧ (xs ≠ [] → ys = [] → Q (.ref a) H) ∧ NewT (xs ++ ys) H Q
theorem op_catT4 {X : Cx} : OpR X (binaryOp .Add) (rCatT4 X.K) := by
  intro pins s σ H x y v u Q I rx ry h
  obtain ⟨a, b, xs, ys, rfl, rfl, ha, hb, hz, q0, q1, q2⟩ := h
  cases rx
  cases ry
  obtain ⟨its, r1, p1, _⟩ := I.tuple ha
  obtain ⟨its2, r2, p2, _⟩ := I.tuple hb
  by_cases hx : xs = []
  · subst hx
    cases r1
    exact cat_tup0 p1 p2 ⟨.ref b, H, I, rfl, q0 rfl⟩
  · exact HT.cat_tup p1 p2 (fun z => hx (r1.nil_iff.mp z)) (fun z => ⟨.ref a, H, I, rfl, q1 hx (r2.nil_iff.mp z)⟩) (fun _ => made_tup I (r1.append r2) (by rw [List.length_append]; exact hz) q2) (by rw [← r1.length, ← r2.length]; exact hz)
/-! ### + -/
def dAdd : D2
  | .a (.int i), .a (.int j), k => k (.a (.int (i + j)))
  | .a (.str x), .a (.str y), k => x.length + y.length ≤ sizeLine ∧ k (.a (.str (x ++ y)))
  | .tup xs, .tup ys, k => xs.length + ys.length ≤ sizeLine ∧ k (.tup (xs ++ ys))
  | .lst xs, .lst ys, k => xs.length + ys.length ≤ sizeLine ∧ k (.lst (xs ++ ys))
  | _, _, _ => False
def rAddS : R2 := fun x y H Q => ∃ i j, x = .str i ∧ y = .str j ∧ i.length + j.length ≤ sizeLine ∧ Q (.str (i ++ j)) H
def rAdd4 (K : PySem.W.Frag) : R2 := fun x y H Q => rI0 (fun i j => .int (i + j)) x y H Q ∨ (rAddS x y H Q ∨ (rCatT4 K x y H Q ∨ rCatL K x y H Q))
theorem o_add {X : Cx} : DO X (binaryOp .Add) (rAdd4 X.K) dAdd := by
  refine ⟨OpR.or op_add (OpR.or op_add_str (OpR.or op_catT4 op_catL)), ?_⟩
  intro F H d e x y k Q s hx hy h q
  unfold dAdd at h
  split at h
  · cases hx; cases hy
    exact .inl ⟨_, _, rfl, rfl, fa s q h⟩
  · cases hx; cases hy
    exact .inr (.inl ⟨_, _, rfl, rfl, h.1, fa s q h.2⟩)
  · obtain ⟨p, us, rfl, h1, h2⟩ := hx
    obtain ⟨p2, vs, rfl, h3, h4⟩ := hy
    refine .inr (.inr (.inl ⟨p, p2, us, vs, rfl, rfl, (h1.up s).sq, (h3.up s).sq, by rw [← h2.len, ← h4.len]; exact h.1, fun e0 => ?_, fun _ e0 => ?_, new_tup s (h2.append h4) h.2 q⟩))
    · subst e0
      rename_i xs ys
      have e1 : xs = [] := List.eq_nil_of_length_eq_zero h2.len
      have g := h.2
      rw [e1, List.nil_append] at g
      exact q (.tup ys) _ _ _ (Ext.refl s) ⟨p2, vs, rfl, h3, h4⟩ g
    · subst e0
      rename_i xs ys _
      have e1 : ys = [] := List.eq_nil_of_length_eq_zero h4.len
      have g := h.2
      rw [e1, List.append_nil] at g
      exact q (.tup xs) _ _ _ (Ext.refl s) ⟨p, us, rfl, h1, h2⟩ g
  · obtain ⟨p, us, rfl, h1, h2⟩ := hx
    obtain ⟨p2, vs, rfl, h3, h4⟩ := hy
    exact .inr (.inr (.inr ⟨p, p2, us, vs, rfl, rfl, sq_l s h1, sq_l s h3, by rw [← h2.len, ← h4.len]; exact h.1, fun c hc => new_lst s hc (h2.append h4) h.2 q⟩))
  · exact h.elim
/-! ### -, *, //, %, ** -/
def dSub : D2
  | .a (.int i), .a (.int j), k => k (.a (.int (i - j)))
  | _, _, _ => False
theorem o_sub {X : Cx} : DO X (binaryOp .Sub) (rI0 fun i j => .int (i - j)) dSub := by
  refine ⟨op_sub, ?_⟩
  intro F H d e x y k Q s hx hy h q
  unfold dSub at h
  split at h
  · cases hx; cases hy
    exact ⟨_, _, rfl, rfl, fa s q h⟩
  · exact h.elim
def rMulS : R2 := fun x y H Q => ∃ z n, x = .str z ∧ y = .int n ∧ MulOk z n ∧ Q (.str (Txt.mul z n)) H
theorem op_mulS {X : Cx} : OpR X (binaryOp .Mult) rMulS := by
  intro pins s σ H x y v u Q I rx ry h
  obtain ⟨z, n, rfl, rfl, ok, q⟩ := h
  obtain ⟨t, rfl⟩ := rx
  obtain ⟨t', rfl⟩ := ry
  exact SB.mul ok fun t' tk => ⟨.str (Txt.mul z n), H, I.tok _, ⟨_, rfl⟩, q⟩
def dMul : D2
  | .a (.int i), .a (.int j), k => CMul i j ∧ k (.a (.int (i * j)))
  | .a (.str z), .a (.int n), k => MulOk z n ∧ k (.a (.str (Txt.mul z n)))
  | _, _, _ => False
def rMul2 : R2 := fun x y H Q => rI CMul (fun i j => .int (i * j)) x y H Q ∨ rMulS x y H Q
theorem o_mul {X : Cx} : DO X (binaryOp .Mult) rMul2 dMul := by
  refine ⟨OpR.or op_mul op_mulS, ?_⟩
  intro F H d e x y k Q s hx hy h q
  unfold dMul at h
  split at h
  · cases hx; cases hy
    exact .inl ⟨_, _, rfl, rfl, h.1, fa s q h.2⟩
  · cases hx; cases hy
    exact .inr ⟨_, _, rfl, rfl, h.1, fa s q h.2⟩
  · exact h.elim
def dFdiv : D2
  | .a (.int i), .a (.int j), k => CDiv i j ∧ k (.a (.int (i / j)))
  | _, _, _ => False
theorem o_fdiv {X : Cx} : DO X (binaryOp .FloorDiv) (rI CDiv fun i j => .int (i / j)) dFdiv := by
  refine ⟨op_fdiv, ?_⟩
  intro F H d e x y k Q s hx hy h q
  unfold dFdiv at h
  split at h
  · cases hx; cases hy
    exact ⟨_, _, rfl, rfl, h.1, fa s q h.2⟩
  · exact h.elim
def dMod : D2
  | .a (.int i), .a (.int j), k => 0 < j ∧ k (.a (.int (i % j)))
  | _, _, _ => False
theorem o_mod {X : Cx} : DO X (binaryOp .Mod) (rI (fun _ j => 0 < j) fun i j => .int (i % j)) dMod := by
  refine ⟨op_mod, ?_⟩
  intro F H d e x y k Q s hx hy h q
  unfold dMod at h
  split at h
  · cases hx; cases hy
    exact ⟨_, _, rfl, rfl, h.1, fa s q h.2⟩
  · exact h.elim
def dPow : D2
  | .a (.int i), .a (.int j), k => CPow i j ∧ k (.a (.int (i ^ j.toNat)))
  | _, _, _ => False
theorem o_pow {X : Cx} : DO X (binaryOp .Pow) (rI CPow fun i j => .int (i ^ j.toNat)) dPow := by
  refine ⟨op_pow, ?_⟩
  intro F H d e x y k Q s hx hy h q
  unfold dPow at h
  split at h
  · cases hx; cases hy
    exact ⟨_, _, rfl, rfl, h.1, fa s q h.2⟩
  · exact h.elim

/-! ### order of ints -/
def dCmp (p : Int → Int → Bool) : D2
  | .a (.int i), .a (.int j), k => k (.a (.bl (p i j)))
  | _, _, _ => False
theorem dcmp_ok {X : Cx} {f : Value → Value → Sem Value} {p : Int → Int → Bool} (o : OpR X f (rI0 fun i j => .bl (p i j))) : DO X f (rI0 fun i j => .bl (p i j)) (dCmp p) := by
  refine ⟨o, ?_⟩
  intro F H d e x y k Q s hx hy h q
  unfold dCmp at h
  split at h
  · cases hx; cases hy
    exact ⟨_, _, rfl, rfl, fa s q h⟩
  · exact h.elim
theorem o_lt {X : Cx} : DO X (compareOp .Lt) (rI0 fun i j => .bl (decide (i < j))) (dCmp fun i j => decide (i < j)) := dcmp_ok op_lt
theorem o_gt {X : Cx} : DO X (compareOp .Gt) (rI0 fun i j => .bl (decide (j < i))) (dCmp fun i j => decide (j < i)) := dcmp_ok op_gt
theorem o_le {X : Cx} : DO X (compareOp .LtE) (rI0 fun i j => .bl (decide (i ≤ j))) (dCmp fun i j => decide (i ≤ j)) := dcmp_ok op_le
theorem o_ge {X : Cx} : DO X (compareOp .GtE) (rI0 fun i j => .bl (decide (j ≤ i))) (dCmp fun i j => decide (j ≤ i)) := dcmp_ok op_ge

/-! ### is None -/
def dIsN : D2
  | .a v, .a .non, k => k (.a (.bl (decide (v = .non))))
  | .tup _, .a .non, k => k (.a (.bl false))
  | .lst _, .a .non, k => k (.a (.bl false))
  | _, _, _ => False
def dNotN : D2
  | .a v, .a .non, k => k (.a (.bl (!decide (v = .non))))
  | .tup _, .a .non, k => k (.a (.bl true))
  | .lst _, .a .non, k => k (.a (.bl true))
  | _, _, _ => False
theorem o_isN {X : Cx} : DO X (compareOp .Is) (fun x y H Q => y = .non ∧ Q (.bl (decide (x = .non))) H) dIsN := by
  refine ⟨op_isN, ?_⟩
  intro F H d e x y k Q s hx hy h q
  unfold dIsN at h
  split at h
  · cases hx; cases hy
    exact ⟨rfl, fa s q h⟩
  · obtain ⟨p, us, rfl, _, _⟩ := hx
    cases hy
    exact ⟨rfl, fa s q h⟩
  · obtain ⟨p, us, rfl, _, _⟩ := hx
    cases hy
    exact ⟨rfl, fa s q h⟩
  · exact h.elim
theorem o_notN {X : Cx} : DO X (compareOp .IsNot) (fun x y H Q => y = .non ∧ Q (.bl (!decide (x = .non))) H) dNotN := by
  refine ⟨op_notN, ?_⟩
  intro F H d e x y k Q s hx hy h q
  unfold dNotN at h
  split at h
  · cases hx; cases hy
    exact ⟨rfl, fa s q h⟩
  · obtain ⟨p, us, rfl, _, _⟩ := hx
    cases hy
    exact ⟨rfl, fa s q h⟩
  · obtain ⟨p, us, rfl, _, _⟩ := hx
    cases hy
    exact ⟨rfl, fa s q h⟩
  · exact h.elim

/-! ### ==, != -/
def pyV : V → PyData
  | .bl b => .bool b
  | .int i => .int i
  | .str x => .str x
  | _ => .none
mutual
def pyd : D → PyData
  | .a v => pyV v
  | .tup ds => .tuple (pydL ds)
  | .lst ds => .list (pydL ds)
  | .dic _ _ => .none
def pydL : List D → List PyData
  | [] => []
  | d :: ds => pyd d :: pydL ds
end
def pyokV : V → Bool
  | .non => true
  | .bl _ => true
  | .int _ => true
  | .str _ => true
  | _ => false
mutual
def pyok : D → Bool
  | .a v => pyokV v
  | .tup ds => pyokL ds
  | .lst ds => pyokL ds
  | .dic _ _ => false
def pyokL : List D → Bool
  | [] => true
  | d :: ds => pyok d && pyokL ds
end
mutual
theorem dp_of {K : PySem.W.Frag} {H : Hp} : ∀ (d : D) (u : V), pyok d = true → Is K H d u → Dp K H u (pyd d)
  | .a v, u, ok, h => by
    cases h
    cases v with
    | non => exact .non
    | bl b => exact .bl b
    | int i => exact .int i
    | str x => exact .str x
    | _ => cases ok
  | .tup ds, u, ok, h => by
    obtain ⟨p, xs, rfl, h1, h2⟩ := h
    exact .tup h1.sq (dpAll_of ds xs ok h2)
  | .lst ds, u, ok, h => by
    obtain ⟨p, xs, rfl, h1, h2⟩ := h
    exact .lst h1 (dpAll_of ds xs ok h2)
  | .dic _ _, _, ok, _ => nomatch ok
theorem dpAll_of {K : PySem.W.Frag} {H : Hp} : ∀ (ds : List D) (xs : List V), pyokL ds = true → IsL K H ds xs → DpAll K H xs (pydL ds)
  | [], xs, _, h => by cases h; exact .nil
  | d :: ds, xs, ok, h => by
    obtain ⟨x, r, rfl, h1, h2⟩ := h
    have ok' := Bool.and_eq_true_iff.mp ok
    exact .cons (dp_of d x ok'.1 h1) (dpAll_of ds r ok'.2 h2)
end
/-- what may be compared: both sides known all through -/
structure EqOk (d e : D) : Prop where
  l : pyok d = true
  r : pyok e = true
  sl : SeqAt.shaped (pyd d) = true
  sr : SeqAt.shaped (pyd e) = true
def dEq (neg : Bool) : D2
  | .a x, .a y, k => scal x y = true ∧ k (.a (.bl (if neg then !decide (x = y) else decide (x = y))))
  | d, e, k => EqOk d e ∧ k (.a (.bl (if neg then !PyData.eqv (pyd d) (pyd e) else PyData.eqv (pyd d) (pyd e))))
theorem deq_deep {K : PySem.W.Frag} {F H : Hp} {d e : D} {x y : V} (s : Same F H) (ok : EqOk d e) (hx : Is K F d x) (hy : Is K F e y) : Dp K H x (pyd d) ∧ Dp K H y (pyd e) := ⟨dp_of d x ok.l (Is.mono s _ _ hx), dp_of e y ok.r (Is.mono s _ _ hy)⟩
def rEq2 (K : PySem.W.Frag) : R2 := fun x y H Q => rEq x y H Q ∨ rEqD K x y H Q
def rNe2 (K : PySem.W.Frag) : R2 := fun x y H Q => rNe x y H Q ∨ rNeD K x y H Q
theorem o_eq {X : Cx} (hu : X.A.units + 64 < cLine) : DO X (compareOp .Eq) (rEq2 X.K) (dEq false) := by
  refine ⟨OpR.or op_eq (op_eqD hu), ?_⟩
  intro F H d e x y k Q s hx hy h q
  unfold dEq at h
  split at h
  · cases hx; cases hy
    exact .inl ⟨h.1, fa s q h.2⟩
  · obtain ⟨d1, d2⟩ := deq_deep s h.1 hx hy
    exact .inr ⟨_, _, d1, d2, h.1.sl, h.1.sr, fa s q h.2⟩
theorem o_ne {X : Cx} (hu : X.A.units + 64 < cLine) : DO X (compareOp .NotEq) (rNe2 X.K) (dEq true) := by
  refine ⟨OpR.or op_ne (op_neD hu), ?_⟩
  intro F H d e x y k Q s hx hy h q
  unfold dEq at h
  split at h
  · cases hx; cases hy
    exact .inl ⟨h.1, fa s q h.2⟩
  · obtain ⟨d1, d2⟩ := deq_deep s h.1 hx hy
    exact .inr ⟨_, _, d1, d2, h.1.sl, h.1.sr, fa s q h.2⟩

/-! ### in, not in: a scalar among scalars, a text among a dict's keys -/
def scD : D → V
  | .a v => v
  | _ => .non
def flatD : D → Bool
  | .a v => flatV v
  | _ => false
theorem flat_all {K : PySem.W.Frag} {H : Hp} : ∀ {ds : List D} {xs : List V}, ds.all flatD = true → IsL K H ds xs → xs = ds.map scD ∧ xs.all flatV = true
  | [], xs, _, h => by cases h; exact ⟨rfl, rfl⟩
  | d :: ds, xs, ok, h => by
    obtain ⟨x, r, rfl, h1, h2⟩ := h
    rw [List.all_cons] at ok
    have ok' := Bool.and_eq_true_iff.mp ok
    obtain ⟨e1, e2⟩ := flat_all ok'.2 h2
    cases d with
    | a v =>
      cases h1
      exact ⟨by rw [List.map_cons, ← e1]; rfl, by rw [List.all_cons, e2, Bool.and_true]; exact ok'.1⟩
    | _ => cases ok'.1
def dIn (neg : Bool) : D2
  | .a v, .tup ds, k => flatV v = true ∧ ds.all flatD = true ∧ k (.a (.bl (if neg then !inV v (ds.map scD) else inV v (ds.map scD))))
  | .a v, .lst ds, k => flatV v = true ∧ ds.all flatD = true ∧ k (.a (.bl (if neg then !inV v (ds.map scD) else inV v (ds.map scD))))
  | .a (.str z), .dic ks _, k => k (.a (.bl (if neg then !ks.contains z else ks.contains z)))
  | _, _, _ => False
theorem kvz_val {ks : List Str} {xs : List V} (h : ks.length = xs.length) (z : Str) : (valV (kvz ks xs) (Sum.inr z : Key)).isSome = ks.contains z := by
  induction ks generalizing xs with
  | nil => rfl
  | cons a r ih =>
    cases xs with
    | nil => simp at h
    | cons x t =>
      have ih' := ih (xs := t) (by simpa using h)
      unfold kvz at ih' ⊢
      rw [List.map_cons, List.zip_cons_cons]
      by_cases e : a = z
      · subst e
        rw [valV_pos rfl]
        simp
      · rw [valV_neg (by intro q; exact e (Sum.inr.inj q)), ih']
        have e' : (z == a) = false := by simpa using fun q => e q.symm
        rw [List.contains_cons, e', Bool.false_or]
def rInD (neg : Bool) : R2 := fun x y H Q => ∃ b o, y = .ref b ∧ DGet H b x o ∧ Q (.bl (if neg then !o.isSome else o.isSome)) H
theorem op_inD {X : Cx} (hu : X.A.units + 1 < cLine) : OpR X (compareOp .In) (rInD false) := by
  intro pins s σ H x y v u Q I rx ry h
  obtain ⟨b, o, rfl, g, q⟩ := h
  cases ry
  exact d_in hu I g rx fun s3 I3 => ⟨.bl o.isSome, H, I3, rfl, q⟩
theorem op_notInD {X : Cx} (hu : X.A.units + 1 < cLine) : OpR X (compareOp .NotIn) (rInD true) := by
  intro pins s σ H x y v u Q I rx ry h
  obtain ⟨b, o, rfl, g, q⟩ := h
  cases ry
  exact d_notIn hu I g rx fun s3 I3 => ⟨.bl (!o.isSome), H, I3, rfl, q⟩
def rIn2 (K : PySem.W.Frag) (neg : Bool) : R2 := fun x y H Q => rIn K neg x y H Q ∨ rInD neg x y H Q
theorem din_dv {K : PySem.W.Frag} (neg : Bool) : ∀ (F H : Hp) (d e : D) (x y : V) (k : D → Prop) (Q : VK), Same F H → Is K F d x → Is K F e y → dIn neg d e k → (∀ d v F' H', Ext F H F' H' → Is K F' d v → k d → Q v H') → rIn2 K neg x y H Q := by
  intro F H d e x y k Q s hx hy h q
  unfold dIn at h
  split at h
  · cases hx
    obtain ⟨p, xs, rfl, h1, h2⟩ := hy
    obtain ⟨e1, e2⟩ := flat_all h.2.1 h2
    refine .inl ⟨p, xs, rfl, .inr (h1.up s).sq, h.1, e2, ?_⟩
    rw [e1]
    exact fa s q h.2.2
  · cases hx
    obtain ⟨p, xs, rfl, h1, h2⟩ := hy
    obtain ⟨e1, e2⟩ := flat_all h.2.1 h2
    refine .inl ⟨p, xs, rfl, .inl (sq_l s h1), h.1, e2, ?_⟩
    rw [e1]
    exact fa s q h.2.2
  · cases hx
    obtain ⟨p, xs, rfl, h1, h2, h3⟩ := hy
    rename_i z ks _
    refine .inr ⟨p, _, rfl, DGet.k (k := Sum.inr z) (s _ _ h1), ?_⟩
    rw [kvz_val h2]
    exact fa s q h
  · exact h.elim
theorem o_in {X : Cx} (hu : X.A.units + 1 < cLine) : DO X (compareOp .In) (rIn2 X.K false) (dIn false) := ⟨OpR.or op_in_seq (op_inD hu), din_dv false⟩
theorem o_notIn {X : Cx} (hu : X.A.units + 1 < cLine) : DO X (compareOp .NotIn) (rIn2 X.K true) (dIn true) := ⟨OpR.or op_notIn_seq (op_notInD hu), din_dv true⟩
end Wh

/-! # Expressions, tests, arguments, calls -/
namespace Wh
open PySem L2

section
variable {X : Cx} {C : Addr} {a b c e : Expr} {es : List Expr} {ta tb tc te : TE} {wa wb wc we : DT} {pos : Pos} {r : R2} {g : D2}
def dVar (i : Nat) : DT := fun ρ k => match ρ.sl[i]? with
  | some (some d) => k d
  | _ => False
theorem dv_var {K : PySem.W.Frag} (i : Nat) : DV K C (tVar i) (dVar i) := by
  intro F0 H0 F H σ ρ k Q en h q
  unfold dVar at h
  split at h
  · rename_i d hd
    obtain ⟨u, h1, h2⟩ := en.ok i d hd
    exact ⟨u, h1, q d u F H (Ext.refl en.sm) h2 h⟩
  · exact h.elim
theorem de_var (i : Nat) {x : Str} (hN : X.N[i]? = some x := by rfl) (hv : Vis X.env.scope x := by first | exact Or.inl rfl | exact Or.inr (Or.inl rfl) | exact Or.inr (Or.inr rfl)) (hd : (x == ("__debug__" : Str)) = false := by decide)
    (hcd : (x == ("__classdict__" : Str)) = false := by decide) : DE X C (.Name x pos) (tVar i) (dVar i) := ⟨pe_var hN hv hd hcd, dv_var i⟩
def dC (v : V) : DT := fun _ k => k (.a v)
theorem dv_c {K : PySem.W.Frag} {v : V} : DV K C (tC v) (dC v) := fun F0 H0 F H σ ρ k Q en h q => fa en.sm q h
theorem de_int {i j} : DE X C (.Constant (.int i) j pos) (tC (.int i)) (dC (.int i)) := ⟨pe_int, dv_c⟩
theorem de_bl {i j} : DE X C (.Constant (.bool i) j pos) (tC (.bl i)) (dC (.bl i)) := ⟨pe_bl, dv_c⟩
theorem de_non {j} : DE X C (.Constant .none j pos) (tC .non) (dC .non) := ⟨pe_non, dv_c⟩
theorem de_str {i j} : DE X C (.Constant (.str i) j pos) (tC (.str i)) (dC (.str i)) := ⟨pe_str, dv_c⟩

/-! ### operators -/
def dOp (g : D2) (wa wb : DT) : DT := fun ρ k => wa ρ fun x => wb ρ fun y => g x y k
theorem dv_op {K : PySem.W.Frag} (o : ∀ (F H : Hp) (d e : D) (x y : V) (k : D → Prop) (Q : VK), Same F H → Is K F d x → Is K F e y → g d e k → (∀ d v F' H', Ext F H F' H' → Is K F' d v → k d → Q v H') → r x y H Q)
    (ha : DV K C ta wa) (hb : DV K C tb wb) : DV K C (tOp r ta tb) (dOp g wa wb) := by
  intro F0 H0 F H σ ρ k Q en h q
  refine ha _ _ _ _ _ _ _ _ en h fun x vx F1 H1 x1 i1 h1 => ?_
  refine hb _ _ _ _ _ _ _ _ (en.grow x1) h1 fun y vy F2 H2 x2 i2 h2 => ?_
  exact o F2 H2 x y vx vy k Q x2.s (Is.mono x2.f _ _ i1) i2 h2 fun d v F' H' x3 i3 hk => q d v F' H' ((x1.trans x2).trans x3) i3 hk
theorem de_op {op : Operator} (o : DO X (binaryOp op) r g) (ha : DE X C a ta wa) (hb : DE X C b tb wb) : DE X C (.BinOp a op b pos) (tOp r ta tb) (dOp g wa wb) := ⟨pe_op o.op ha.pe hb.pe, dv_op o.dv ha.dv hb.dv⟩
theorem de_cmp {op : CmpOp} (o : DO X (compareOp op) r g) (ha : DE X C a ta wa) (hb : DE X C b tb wb) (hm : behindInMarks op b = false := by first | exact nomark _ | rfl) : DE X C (.Compare a [op] [b] pos) (tOp r ta tb) (dOp g wa wb) :=
  ⟨pe_cmpR o.op ha.pe hb.pe hm, dv_op o.dv ha.dv hb.dv⟩
def dTest (w : DT) : DTT := fun ρ k => w ρ fun d => match d with
  | .a (.bl b) => k b
  | _ => False
theorem dv_test {K : PySem.W.Frag} {t : TE} {w : DT} (h0 : DV K C t w) : DVT K C (tTest t) (dTest w) := by
  intro F0 H0 F H σ ρ k Q en h q
  refine h0 _ _ _ _ _ _ _ _ en h fun x vx F1 H1 x1 i1 h1 => ?_
  split at h1
  · cases i1
    exact ⟨_, rfl, q _ _ _ x1 h1⟩
  · exact h1.elim
theorem dp_cmp {op : CmpOp} (o : DO X (compareOp op) r g) (ha : DE X C a ta wa) (hb : DE X C b tb wb) (hm : behindInMarks op b = false := by first | exact nomark _ | rfl) : DP X C (.Compare a [op] [b] pos) (tTest (tOp r ta tb)) (dTest (dOp g wa wb)) :=
  ⟨pt_cmpR o.op ha.pe hb.pe hm, dv_test (dv_op o.dv ha.dv hb.dv)⟩
theorem dp_val (h : DE X C e te we) (he : ∀ whole, isTrue e X.env whole = (do let v ← whole; standAt e.pos; holding [v] (truthy v)) := by intro _; rfl) : DP X C e (tB te) (dTest we) := ⟨pt_val h.pe he, dv_test h.dv⟩

/-! ### and, or, not -/
variable {t u : TT} {w v : DTT} {rest : List Expr}
def dNotT (w : DTT) : DTT := fun ρ k => w ρ fun b => k (!b)
theorem dp_not (h : DP X C a t w) : DP X C (.UnaryOp .Not a pos) (tNot t) (dNotT w) := ⟨pt_not h.pt, fun F0 H0 F H σ ρ k Q en hw q => h.dv F0 H0 F H σ ρ (fun b => k (!b)) (fun b H1 => Q (!b) H1) en hw fun b F' H' x hk => q (!b) F' H' x hk⟩
def dAndT (w v : DTT) : DTT := fun ρ k => w ρ fun b => if b = true then v ρ k else k false
def dOrT (w v : DTT) : DTT := fun ρ k => w ρ fun b => if b = true then k true else v ρ k
theorem dw_and1 (h : DP X C a t w) : DW X C (.BoolOp .And [a] pos) t w := ⟨pw_and1 h.pt, h.dv⟩
theorem dw_or1 (h : DP X C a t w) : DW X C (.BoolOp .Or [a] pos) t w := ⟨pw_or1 h.pt, h.dv⟩
theorem dw_and (ha : DP X C a t w) (hb : DW X C (.BoolOp .And (b :: rest) pos) u v) : DW X C (.BoolOp .And (a :: b :: rest) pos) (tAnd t u) (dAndT w v) := by
  refine ⟨pw_and ha.pt hb.pw, fun F0 H0 F H σ ρ k Q en h q => ?_⟩
  refine ha.dv _ _ _ _ _ _ _ _ en h fun x F1 H1 x1 h1 => ?_
  cases x with
  | true => exact hb.dv _ _ _ _ _ _ k Q (en.grow x1) h1 fun y F2 H2 x2 h2 => q y F2 H2 (x1.trans x2) h2
  | false => exact q _ _ _ x1 h1
theorem dw_or (ha : DP X C a t w) (hb : DW X C (.BoolOp .Or (b :: rest) pos) u v) : DW X C (.BoolOp .Or (a :: b :: rest) pos) (tOr t u) (dOrT w v) := by
  refine ⟨pw_or ha.pt hb.pw, fun F0 H0 F H σ ρ k Q en h q => ?_⟩
  refine ha.dv _ _ _ _ _ _ _ _ en h fun x F1 H1 x1 h1 => ?_
  cases x with
  | true => exact q _ _ _ x1 h1
  | false => exact hb.dv _ _ _ _ _ _ k Q (en.grow x1) h1 fun y F2 H2 x2 h2 => q y F2 H2 (x1.trans x2) h2
/-- the same as values -/
def dNotV (w : DT) : DT := fun ρ k => w ρ fun d => match d with
  | .a (.bl b) => k (.a (.bl (!b)))
  | _ => False
def dAndV (w v : DT) : DT := fun ρ k => w ρ fun d => match d with
  | .a (.bl b) => if b = true then v ρ k else k (.a (.bl false))
  | _ => False
def dOrV (w v : DT) : DT := fun ρ k => w ρ fun d => match d with
  | .a (.bl b) => if b = true then k (.a (.bl true)) else v ρ k
  | _ => False
theorem de_not (ha : DE X C a ta wa) : DE X C (.UnaryOp .Not a pos) (tNotV ta) (dNotV wa) := by
  refine ⟨pe_not ha.pe, fun F0 H0 F H σ ρ k Q en h q => ?_⟩
  refine ha.dv _ _ _ _ _ _ _ _ en h fun x vx F1 H1 x1 i1 h1 => ?_
  split at h1
  · cases i1
    exact ⟨_, rfl, q (.a _) _ _ _ x1 rfl h1⟩
  · exact h1.elim
theorem de_one {op} (h : DE X C a ta wa) : DE X C (.BoolOp op [a] pos) ta wa := ⟨pe_one h.pe, h.dv⟩
theorem de_and (ha : DE X C a ta wa) (hb : DE X C (.BoolOp .And (b :: rest) pos) tb wb) : DE X C (.BoolOp .And (a :: b :: rest) pos) (tAndV ta tb) (dAndV wa wb) := by
  refine ⟨pe_and ha.pe hb.pe, fun F0 H0 F H σ ρ k Q en h q => ?_⟩
  refine ha.dv _ _ _ _ _ _ _ _ en h fun x vx F1 H1 x1 i1 h1 => ?_
  split at h1
  · cases i1
    rename_i b0
    refine ⟨b0, rfl, ?_⟩
    cases b0 with
    | true => exact hb.dv _ _ _ _ _ _ k Q (en.grow x1) h1 fun y vy F2 H2 x2 i2 h2 => q y vy F2 H2 (x1.trans x2) i2 h2
    | false => exact q (.a _) _ _ _ x1 rfl h1
  · exact h1.elim
theorem de_or (ha : DE X C a ta wa) (hb : DE X C (.BoolOp .Or (b :: rest) pos) tb wb) : DE X C (.BoolOp .Or (a :: b :: rest) pos) (tOrV ta tb) (dOrV wa wb) := by
  refine ⟨pe_or ha.pe hb.pe, fun F0 H0 F H σ ρ k Q en h q => ?_⟩
  refine ha.dv _ _ _ _ _ _ _ _ en h fun x vx F1 H1 x1 i1 h1 => ?_
  split at h1
  · cases i1
    rename_i b0
    refine ⟨b0, rfl, ?_⟩
    cases b0 with
    | true => exact q (.a _) _ _ _ x1 rfl h1
    | false => exact hb.dv _ _ _ _ _ _ k Q (en.grow x1) h1 fun y vy F2 H2 x2 i2 h2 => q y vy F2 H2 (x1.trans x2) i2 h2
  · exact h1.elim
/-- x if t else y -/
def dIfE (w : DTT) (wa wb : DT) : DT := fun ρ k => w ρ fun b => if b = true then wa ρ k else wb ρ k
theorem de_if (hc : DP X C c t w) (ha : DE X C a ta wa) (hb : DE X C b tb wb) : DE X C (.IfExp c a b pos) (tIf t ta tb) (dIfE w wa wb) := by
  refine ⟨pe_ifExp hc.pt ha.pe hb.pe, fun F0 H0 F H σ ρ k Q en h q => ?_⟩
  refine hc.dv _ _ _ _ _ _ _ _ en h fun x F1 H1 x1 h1 => ?_
  cases x with
  | true => exact ha.dv _ _ _ _ _ _ k Q (en.grow x1) h1 fun y vy F2 H2 x2 i2 h2 => q y vy F2 H2 (x1.trans x2) i2 h2
  | false => exact hb.dv _ _ _ _ _ _ k Q (en.grow x1) h1 fun y vy F2 H2 x2 i2 h2 => q y vy F2 H2 (x1.trans x2) i2 h2
/-- -e -/
def dNeg (w : DT) : DT := fun ρ k => w ρ fun d => match d with
  | .a (.int i) => k (.a (.int (-i)))
  | _ => False
theorem de_neg (ha : DE X C a ta wa) : DE X C (.UnaryOp .USub a pos) (tUn (rU fun i => .int (-i)) ta) (dNeg wa) := by
  refine ⟨pe_un un_neg ha.pe, fun F0 H0 F H σ ρ k Q en h q => ?_⟩
  refine ha.dv _ _ _ _ _ _ _ _ en h fun x vx F1 H1 x1 i1 h1 => ?_
  split at h1
  · cases i1
    exact ⟨_, rfl, q (.a _) _ _ _ x1 rfl h1⟩
  · exact h1.elim
end

/-! ### arguments, displays -/
section
variable {X : Cx} {C : Addr} {e : Expr} {es : List Expr} {te : TE} {we : DT} {t : TA} {w : DTA} {pos : Pos}
/-- .. with the number of the arguments -/
structure DAn (X : Cx) (C : Addr) (es : List Expr) (t : TA) (w : DTA) : Prop where
  pa : PA X es t
  dv : ∀ (F0 H0 F H : Hp) (σ : St) (ρ : DSt) (k : List D → Prop) (Q : List V → Hp → Prop), Env X.K C F0 H0 F H σ ρ → w ρ k → (∀ ds vs F' H', Ext F H F' H' → ds.length = es.length → IsL X.K F' ds vs → k ds → Q vs H') → t σ H Q
def dNil : DTA := fun _ k => k []
def dCons (we : DT) (w : DTA) : DTA := fun ρ k => we ρ fun d => w ρ fun ds => k (d :: ds)
theorem da_nil : DAn X C [] tNil dNil := ⟨pa_nil, fun F0 H0 F H σ ρ k Q en h q => q [] [] F H (Ext.refl en.sm) rfl IsL.nil h⟩
theorem da_cons (ha : DE X C e te we) (hr : DAn X C es t w) (hs : starEach (e :: es) X.env = (false, eval e X.env) :: starEach es X.env := by rfl) : DAn X C (e :: es) (tCons te t) (dCons we w) := by
  refine ⟨pa_cons ha.pe hr.pa hs, fun F0 H0 F H σ ρ k Q en h q => ?_⟩
  refine ha.dv _ _ _ _ _ _ _ _ en h fun x vx F1 H1 x1 i1 h1 => ?_
  refine hr.dv _ _ _ _ _ _ _ _ (en.grow x1) h1 fun ds vs F2 H2 x2 l2 i2 h2 => ?_
  exact q (x :: ds) (vx :: vs) F2 H2 (x1.trans x2) (by simp [l2]) (.cons (Is.mono x2.f _ _ i1) i2) h2
def dTup (w : DTA) : DT := fun ρ k => w ρ fun ds => k (.tup ds)
def dLst (w : DTA) : DT := fun ρ k => w ρ fun ds => k (.lst ds)
def tTup4 (t : TA) : TE := fun σ H Q => t σ H fun xs H1 => xs.length ≤ sizeLine ∧ NewT xs H1 Q
theorem pe_tup4 {x1} (h : PA X es t) : PE X (.Tuple es x1 pos) (tTup4 t) := by
  refine ⟨fun pins s σ H Q I hq => ?_⟩
  exact wpAny_Tuple_spliced (thn (h.run pos pins s σ H _ I hq) fun us s1 ⟨xs, H1, I1, r, z, q⟩ => ⟨by rw [← r.length]; exact z, made_tup (t' := s1.toks) I1 r z q⟩)
theorem de_tup {x1} (h : DAn X C es t w) (hl : es.length ≤ sizeLine := by decide) : DE X C (.Tuple es x1 pos) (tTup4 t) (dTup w) := by
  refine ⟨pe_tup4 h.pa, fun F0 H0 F H σ ρ k Q en hw q => ?_⟩
  refine h.dv _ _ _ _ _ _ _ _ en hw fun ds vs F1 H1 x1 l1 i1 h1 => ⟨by rw [← i1.len, l1]; exact hl, ?_⟩
  exact new_tup x1.s i1 h1 fun d v F' H' x2 i2 hk => q d v F' H' (x1.trans x2) i2 hk
theorem de_lst (h : DAn X C es t w) (hl : es.length ≤ sizeLine := by decide) : DE X C (.List es pos) (tLst t) (dLst w) := by
  refine ⟨pe_lst h.pa, fun F0 H0 F H σ ρ k Q en hw q => ?_⟩
  refine h.dv _ _ _ _ _ _ _ _ en hw fun ds vs F1 H1 x1 l1 i1 h1 => ⟨by rw [← i1.len, l1]; exact hl, fun p hp => ?_⟩
  exact new_lst x1.s hp i1 h1 fun d v F' H' x2 i2 hk => q d v F' H' (x1.trans x2) i2 hk
end

/-! ### subscripts -/
def rIxD : R2 := fun x y H Q => ∃ b v, x = .ref b ∧ DGet H b y (some v) ∧ Q v H
theorem ix_dict {X : Cx} (hu : X.A.units + 1 < cLine) : IxR X rIxD := by
  intro value slice pins s σ H x y v u Q I rx ry h hs
  obtain ⟨b, z, rfl, g, q⟩ := h
  cases rx
  exact PyProof.Rows.tail_any (dict_typeIs I g) PySem.F.slot_dict_getitem.lookup (d_getItem hu I g ry fun w' s3 I3 rw' => ⟨z, H, I3, rw', q⟩) hs
def rIx4 (K : PySem.W.Frag) : R2 := fun x y H Q => rIx K x y H Q ∨ rIxD x y H Q
def dfind : List Str → List D → Str → Option D
  | k :: ks, d :: ds, z => if k = z then some d else dfind ks ds z
  | _, _, _ => none
def dIx : D2
  | .tup ds, .a (.int i), k => match atI ds i with
    | some d => k d
    | none => False
  | .lst ds, .a (.int i), k => match atI ds i with
    | some d => k d
    | none => False
  | .a (.str z), .a (.int i), k => z.length ≤ sizeLine ∧ match atI z.cps.toList i with
    | some c => k (.a (.str ⟨#[c]⟩))
    | none => False
  | .dic ks ds, .a (.str z), k => match dfind ks ds z with
    | some d => k d
    | none => False
  | _, _, _ => False
theorem atI_is {K : PySem.W.Frag} {F : Hp} {ds : List D} {xs : List V} {i : Int} {d : D} (h : IsL K F ds xs) (e : atI ds i = some d) : ∃ x, atI xs i = some x ∧ Is K F d x := by
  unfold atI at e ⊢
  rw [← h.len]
  cases q : ixN ds.length i with
  | none => rw [q] at e; cases e
  | some j =>
    rw [q] at e
    obtain ⟨x, h1, h2⟩ := h.get (i := j) (d := d) e
    exact ⟨x, h1, h2⟩
theorem kvz_find {K : PySem.W.Frag} {F : Hp} : ∀ {ks : List Str} {ds : List D} {xs : List V} {z : Str} {d : D}, ks.length = xs.length → IsL K F ds xs → dfind ks ds z = some d → ∃ x, valV (kvz ks xs) (Sum.inr z : Key) = some x ∧ Is K F d x
  | [], _, _, _, _, _, _, e => by cases e
  | k :: ks, [], _, _, _, _, _, e => by cases e
  | k :: ks, d :: ds, xs, z, d', hl, h, e => by
    obtain ⟨x, r, rfl, h1, h2⟩ := h
    unfold dfind at e
    unfold kvz
    rw [List.map_cons, List.zip_cons_cons]
    by_cases c : k = z
    · rw [if_pos c] at e
      cases e
      exact ⟨x, valV_pos (by rw [c]), h1⟩
    · rw [if_neg c] at e
      obtain ⟨y, q1, q2⟩ := kvz_find (by simpa using hl) h2 e
      exact ⟨y, by rw [valV_neg (by intro q; exact c (Sum.inr.inj q))]; exact q1, q2⟩
theorem dix_dv {K : PySem.W.Frag} : ∀ (F H : Hp) (d e : D) (x y : V) (k : D → Prop) (Q : VK), Same F H → Is K F d x → Is K F e y → dIx d e k → (∀ d v F' H', Ext F H F' H' → Is K F' d v → k d → Q v H') → rIx4 K x y H Q := by
  intro F H d e x y k Q s hx hy h q
  unfold dIx at h
  split at h
  · cases hy
    obtain ⟨p, xs, rfl, h1, h2⟩ := hx
    split at h
    · rename_i d' hd
      obtain ⟨z, e1, e2⟩ := atI_is h2 hd
      exact .inl (.inr (.inl ⟨p, xs, _, z, rfl, rfl, (h1.up s).sq, e1, q d' z F H (Ext.refl s) e2 h⟩))
    · exact h.elim
  · cases hy
    obtain ⟨p, xs, rfl, h1, h2⟩ := hx
    split at h
    · rename_i d' hd
      obtain ⟨z, e1, e2⟩ := atI_is h2 hd
      exact .inl (.inl ⟨p, xs, _, z, rfl, rfl, sq_l s h1, e1, q d' z F H (Ext.refl s) e2 h⟩)
    · exact h.elim
  · cases hy
    cases hx
    obtain ⟨hz, h⟩ := h
    split at h
    · rename_i c hc
      exact .inl (.inr (.inr ⟨_, _, c, rfl, rfl, hz, hc, fa s q h⟩))
    · exact h.elim
  · cases hy
    obtain ⟨p, xs, rfl, h1, h2, h3⟩ := hx
    split at h
    · rename_i d' hd
      obtain ⟨z, e1, e2⟩ := kvz_find h2 h3 hd
      refine .inr ⟨p, z, rfl, ?_, q d' z F H (Ext.refl s) e2 h⟩
      rename_i y0 _
      have g := DGet.k (H := H) (k := Sum.inr y0) (s _ _ h1)
      rw [e1] at g
      exact g
    · exact h.elim
  · exact h.elim
section
variable {X : Cx} {C : Addr} {a b e : Expr} {ta tb te : TE} {wa wb we : DT} {pos p2 : Pos}
theorem de_ix (hu : X.A.units + 1 < cLine) (ha : DE X C a ta wa) (hb : DE X C b tb wb) (hs : PlainIx b := by intro _ _; rfl) : DE X C (.Subscript a b pos) (tOp (rIx4 X.K) ta tb) (dOp dIx wa wb) :=
  ⟨pe_ix (IxR.or ix_seq (ix_dict hu)) ha.pe hb.pe hs, dv_op dix_dv ha.dv hb.dv⟩

/-! ### slices -/
structure DPO (X : Cx) (C : Addr) (e : Option Expr) (t : TO) (w : DSt → (Option Int → Prop) → Prop) : Prop where
  po : PO X e t
  dv : ∀ (F0 H0 F H : Hp) (σ : St) (ρ : DSt) (k : Option Int → Prop) (Q : Option Int → Hp → Prop), Env X.K C F0 H0 F H σ ρ → w ρ k → (∀ o F' H', Ext F H F' H' → k o → Q o H') → t σ H Q
def dNo : DSt → (Option Int → Prop) → Prop := fun _ k => k none
def dPart (w : DT) : DSt → (Option Int → Prop) → Prop := fun ρ k => w ρ fun d => match d with
  | .a (.int i) => k (some i)
  | _ => False
theorem dpo_no : DPO X C none tNoPart dNo := ⟨po_none, fun F0 H0 F H σ ρ k Q en h q => q none F H (Ext.refl en.sm) h⟩
theorem dpo_some (h : DE X C e te we) : DPO X C (some e) (tPart te) (dPart we) := by
  refine ⟨po_some h.pe, fun F0 H0 F H σ ρ k Q en hw q => ?_⟩
  refine h.dv _ _ _ _ _ _ _ _ en hw fun x vx F1 H1 x1 i1 h1 => ?_
  split at h1
  · cases i1
    exact ⟨_, rfl, q _ _ _ x1 h1⟩
  · exact h1.elim
def cut {α : Type} (xs : List α) (lo hi : Option Int) : List α := (xs.drop (HT.sIx xs.length 0 lo)).take (HT.sIx xs.length xs.length hi - HT.sIx xs.length 0 lo)
theorem cut_is {K : PySem.W.Frag} {F : Hp} {ds : List D} {xs : List V} (h : IsL K F ds xs) (lo hi : Option Int) : IsL K F (cut ds lo hi) (cutV xs lo hi) := by
  unfold cut cutV
  rw [h.len]
  exact (h.drop _).take _
theorem cut_whole {α : Type} (xs : List α) {lo hi : Option Int} (h : HT.sIx xs.length 0 lo = 0 ∧ HT.sIx xs.length xs.length hi = xs.length) : cut xs lo hi = xs := by
  unfold cut
  rw [h.1, h.2]
  simp
def dCut (d : D) (lo hi : Option Int) (k : D → Prop) : Prop := match d with
  | .tup ds => k (.tup (cut ds lo hi))
  | .lst ds => k (.lst (cut ds lo hi))
  | _ => False
/-- t[lo:hi]: the whole of it is t itself -/
def rSlT4 (K : PySem.W.Frag) : V → Option Int → Option Int → Hp → VK → Prop := fun x lo hi H Q => ∃ a xs, x = .ref a ∧ SqT K H a xs ∧
  (HT.sIx xs.length 0 lo = 0 ∧ HT.sIx xs.length xs.length hi = xs.length → Q (.ref a) H) ∧ NewT (cutV xs lo hi) H Q
theorem sl_tup4 : SlR X (rSlT4 X.K) := by
  intro pins s σ H x v vl vu lo hi sl Q I rx hs pl pu h
  obtain ⟨a, xs, rfl, hx, q1, q2⟩ := h
  cases rx
  obtain ⟨its, r, ht, hz⟩ := I.tuple hx
  have hlen : its.toArray.size = xs.length := by rw [List.size_toArray]; exact r.length.symm
  refine ⟨"tuple", _, PyProof.Rows.slot_tuple_getitem.lookup, ht.typeIs, ?_⟩
  by_cases hw : HT.sIx xs.length 0 lo = 0 ∧ HT.sIx xs.length xs.length hi = xs.length
  · exact getItem_tuple_whole ht hs pl pu (by rw [hlen]; exact hw) ⟨.ref a, H, I, rfl, q1 hw⟩
  · refine HT.getItem_tuple_cut ht hs pl pu (by rw [hlen]; exact hw) ?_ (by rw [hlen]; exact hz)
    rw [hlen]
    exact made_tup (t' := s.toks) I ((r.drop _).take _) (Nat.le_trans (cutV_length xs lo hi) hz) q2
def rSl2 (K : PySem.W.Frag) : V → Option Int → Option Int → Hp → VK → Prop := fun x lo hi H Q => rSlT4 K x lo hi H Q ∨ rSlL K x lo hi H Q
def dSl (w : DT) (wl wh : DSt → (Option Int → Prop) → Prop) : DT := fun ρ k => w ρ fun d => wl ρ fun lo => wh ρ fun hi => dCut d lo hi k
theorem de_sl {lo hi : Option Expr} {tl th : TO} {wl wh : DSt → (Option Int → Prop) → Prop} (he : DE X C e te we) (hl : DPO X C lo tl wl) (hh : DPO X C hi th wh) : DE X C (.Subscript e (.Slice lo hi none p2) pos) (tSl (rSl2 X.K) te tl th) (dSl we wl wh) := by
  refine ⟨pe_slice (SlR.or sl_tup4 sl_list) he.pe hl.po hh.po, fun F0 H0 F H σ ρ k Q en hw q => ?_⟩
  refine he.dv _ _ _ _ _ _ _ _ en hw fun x vx F1 H1 x1 i1 h1 => ?_
  refine hl.dv _ _ _ _ _ _ _ _ (en.grow x1) h1 fun l F2 H2 x2 h2 => ?_
  refine hh.dv _ _ _ _ _ _ _ _ ((en.grow x1).grow x2) h2 fun u F3 H3 x3 h3 => ?_
  have xx := (x1.trans x2).trans x3
  have i3 := Is.mono (x2.trans x3).f _ _ i1
  unfold dCut at h3
  split at h3
  · obtain ⟨p, xs, rfl, g1, g2⟩ := i3
    refine .inl ⟨p, xs, rfl, (g1.up xx.s).sq, fun hwh => ?_, ?_⟩
    · rename_i ds
      have e0 : cut ds l u = ds := cut_whole ds (by rw [g2.len]; exact hwh)
      rw [e0] at h3
      exact q (.tup ds) _ _ _ xx ⟨p, xs, rfl, g1, g2⟩ h3
    · exact new_tup x3.s (cut_is g2 l u) h3 fun d v F' H' x4 i4 hk => q d v F' H' (xx.trans x4) i4 hk
  · obtain ⟨p, xs, rfl, g1, g2⟩ := i3
    exact .inr ⟨p, xs, rfl, sq_l xx.s g1, fun c hc => new_lst x3.s hc (cut_is g2 l u) h3 fun d v F' H' x4 i4 hk => q d v F' H' (xx.trans x4) i4 hk⟩
  · exact h3.elim
end

/-! ### calls of defs -/
def lend : Option Sto → Option Sto
  | none => none
  | some s => some { s with mine := false }
theorem StoO.lend {K : PySem.W.Frag} {C : Addr} {H0 F H : Hp} {s : Option Sto} (h : StoO K C H0 F H s) : StoO K C H F H (lend s) := by
  cases s with
  | none => trivial
  | some s =>
    obtain ⟨dx, am, as, xs, ys, h1, h2, h3, ne, l1, l2, f1, f2, f3, i1, i2, m⟩ := h
    exact ⟨dx, am, as, xs, ys, h1, h2, h3, ne, l1, l2, f1, f2, f3, i1, i2, fun z => by cases z⟩
/-- a def that stands in the module and keeps its promise -/
structure Callee (P : Program) (w : World) (K : PySem.W.Frag) (mg : Str → Option Value) (base : Heap) (C : Addr) (lvl : Nat) (x : Str) (ps : List Str) (f : FS) : Prop where
  ex : ∃ (fa : Addr) (fd : FuncData), FnOk P w K mg base CX0 lvl fa fd ps (sp K C f) ∧ mg x = some (.ref fa) ∧ PySem.W.keepIn K (.ref fa) = true ∧ Binds K fd ps []
section
variable {X : Cx} {C : Addr} {e : Expr} {es : List Expr} {t : TA} {w : DTA} {p pos : Pos} {lvl : Nat} {x : Str} {ps : List Str} {f : FS}
def dCall (f : FS) (w : DTA) : DT := fun ρ k => w ρ fun ds => f.run (lend ρ.sto) ds k
theorem de_call (c : Callee X.prog X.w X.K X.mg X.base C lvl x ps f) (hr : Room lvl X.A) (ha : DAn X C (e :: es) t w) (hg : Gl X x := by rfl) (hdb : (x == ("__debug__" : Str)) = false := by decide)
    (he : starEach (e :: es) X.env = (false, eval e X.env) :: starEach es X.env := by rfl) (hpl : (backTo pos (starEach es X.env)).any (·.1) = false := by rfl) : DE X C (.Call (.Name x p) (e :: es) [] pos) (tCall (sp X.K C f) [] E0 t) (dCall f w) := by
  obtain ⟨fa, fd, F, hm, hk, hb⟩ := c.ex
  refine ⟨pe_call F hr hg hm hk hb .nil pass0 ha.pa hdb he hpl, fun F0 H0 F H σ ρ k Q en hw q => ?_⟩
  refine ha.dv _ _ _ _ _ _ _ _ en hw fun ds vs F1 H1 x1 l1 i1 h1 => ?_
  show sp X.K C f (vs ++ []) H1 Q E0
  rw [List.append_nil]
  refine ⟨F1, _, ds, x1.s, StoO.lend (StoO.ext x1 en.sto), i1, f.mono _ _ _ _ (fun d hk v F' H' x2 i2 => q d v F' H' (x1.trans x2) i2 hk) h1⟩
end
end Wh

/-! # Built-ins, comprehensions -/
namespace Wh
open PySem L2

/-! ### built-ins by name -/
structure DCR (X : Cx) (f : Value) (r : List V → Hp → VK → Prop) (g : List D → (D → Prop) → Prop) : Prop where
  cr : CallR X f r
  dv : ∀ (F H : Hp) (ds : List D) (xs : List V) (k : D → Prop) (Q : VK), Same F H → IsL X.K F ds xs → g ds k → (∀ d v F' H', Ext F H F' H' → Is X.K F' d v → k d → Q v H') → r xs H Q
def dB (g : List D → (D → Prop) → Prop) (w : DTA) : DT := fun ρ k => w ρ fun ds => g ds k
section
variable {X : Cx} {C : Addr} {e : Expr} {es : List Expr} {t : TA} {w : DTA} {p pos : Pos} {x : Str} {id T : String} {r : List V → Hp → VK → Prop} {g : List D → (D → Prop) → Prop}
theorem dv_b {f : Value} (o : DCR X f r g) (ha : DAn X C es t w) : DV X.K C (tCB r t) (dB g w) := by
  intro F0 H0 F H σ ρ k Q en hw q
  refine ha.dv _ _ _ _ _ _ _ _ en hw fun ds vs F1 H1 x1 l1 i1 h1 => ?_
  exact o.dv F1 H1 ds vs k Q x1.s i1 h1 fun d v F' H' x2 i2 hk => q d v F' H' (x1.trans x2) i2 hk
theorem de_callB (o : DCR X (.builtin id) r g) (hm : X.mg x = none) (hv : bootBuiltins x = some (.builtin id)) (ha : DAn X C (e :: es) t w) (hg : Gl X x := by rfl) (hn : x ≠ "__name__" := by decide) (hdb : (x == ("__debug__" : Str)) = false := by decide)
    (he : starEach (e :: es) X.env = (false, eval e X.env) :: starEach es X.env := by rfl) (hpl : (backTo pos (starEach es X.env)).any (·.1) = false := by rfl) : DE X C (.Call (.Name x p) (e :: es) [] pos) (tCB r t) (dB g w) :=
  ⟨pe_callB o.cr hg hm hv ha.pa hn hdb he hpl, dv_b o ha⟩
theorem de_callT (o : DCR X (.type T) r g) (hm : X.mg x = none) (hv : bootBuiltins x = some (.type T)) (ha : DAn X C (e :: es) t w) (hg : Gl X x := by rfl) (hn : x ≠ "__name__" := by decide) (hdb : (x == ("__debug__" : Str)) = false := by decide)
    (he : starEach (e :: es) X.env = (false, eval e X.env) :: starEach es X.env := by rfl) (hpl : (backTo pos (starEach es X.env)).any (·.1) = false := by rfl) : DE X C (.Call (.Name x p) (e :: es) [] pos) (tCB r t) (dB g w) :=
  ⟨pe_callTy o.cr hg hm hv ha.pa hn hdb he hpl, dv_b o ha⟩
/-- a built-in class as a value -/
theorem de_ty {n : String} (hm : X.mg x = none) (hv : bootBuiltins x = some (.type n)) (hg : Gl X x := by rfl) (hn : x ≠ "__name__" := by decide) (hdb : (x == ("__debug__" : Str)) = false := by decide) : DE X C (.Name x pos) (tC (.ty n)) (dC (.ty n)) :=
  ⟨pe_bltn hg hm hv rfl hn hdb, dv_c⟩
end
section
variable {X : Cx}
def gLen : List D → (D → Prop) → Prop
  | [.tup ds], k => k (.a (.int ds.length))
  | [.lst ds], k => k (.a (.int ds.length))
  | _, _ => False
def rLen1 (K : PySem.W.Frag) : List V → Hp → VK → Prop := fun xs H Q => ∃ x n, xs = [x] ∧ LenV K x H n ∧ Q (.int (n : Nat)) H
theorem c_len : DCR X (.builtin "len") (rLen1 X.K) gLen := by
  refine ⟨call_len, fun F H ds xs k Q s i h q => ?_⟩
  unfold gLen at h
  split at h
  · obtain ⟨x, r, rfl, h1, h2⟩ := i
    cases h2
    obtain ⟨p, us, rfl, g1, g2⟩ := h1
    refine ⟨_, us.length, rfl, .inr ⟨us, (g1.up s).sq, rfl⟩, ?_⟩
    rw [← g2.len]
    exact fa s q h
  · obtain ⟨x, r, rfl, h1, h2⟩ := i
    cases h2
    obtain ⟨p, us, rfl, g1, g2⟩ := h1
    refine ⟨_, us.length, rfl, .inl ⟨us, sq_l s g1, rfl⟩, ?_⟩
    rw [← g2.len]
    exact fa s q h
  · exact h.elim
def gTuple : List D → (D → Prop) → Prop
  | [.tup ds], k => k (.tup ds)
  | [.lst ds], k => k (.tup ds)
  | _, _ => False
def rTup1 (K : PySem.W.Frag) : List V → Hp → VK → Prop := fun xs H Q => ∃ p ys, xs = [.ref p] ∧ ((SqL K H p ys ∧ NewT ys H Q) ∨ (SqT K H p ys ∧ Q (.ref p) H))
theorem call_tuple4 : CallR X (.type "tuple") (rTup1 X.K) := by
  intro pins s σ H xs us Q I r h
  obtain ⟨p, ys, rfl, h⟩ := h
  obtain ⟨u, rfl, rx⟩ := vals1 r
  cases rx
  rcases h with ⟨hq, q⟩ | ⟨hq, q⟩
  · obtain ⟨its, r', pl, hz⟩ := I.list hq
    have hlen := r'.length
    refine call_tuple_list pl.isList (fun h' kp => ?_) (by simp only [List.size_toArray] <;> omega)
    exact made_tup (t' := s.toks) (s := { s with heap := h' }) (I.kept (t' := s.toks) kp) r' hz q
  · obtain ⟨its, r', pl, hz⟩ := I.tuple hq
    exact call_tuple_same pl ⟨.ref p, H, I, rfl, q⟩
theorem c_tuple : DCR X (.type "tuple") (rTup1 X.K) gTuple := by
  refine ⟨call_tuple4, fun F H ds xs k Q s i h q => ?_⟩
  unfold gTuple at h
  split at h
  · obtain ⟨x, r, rfl, h1, h2⟩ := i
    cases h2
    obtain ⟨p, us, rfl, g1, g2⟩ := h1
    exact ⟨p, us, rfl, .inr ⟨(g1.up s).sq, q _ _ _ _ (Ext.refl s) (show Is X.K F (.tup _) _ from ⟨p, us, rfl, g1, g2⟩) h⟩⟩
  · obtain ⟨x, r, rfl, h1, h2⟩ := i
    cases h2
    obtain ⟨p, us, rfl, g1, g2⟩ := h1
    exact ⟨p, us, rfl, .inl ⟨sq_l s g1, new_tup s g2 h q⟩⟩
  · exact h.elim
def gStr : List D → (D → Prop) → Prop
  | [.a (.int i)], k => i.natAbs.log2 < 1920 ∧ k (.a (.str (toString i)))
  | _, _ => False
def rStr1 : List V → Hp → VK → Prop := fun xs H Q => ∃ i : Int, xs = [.int i] ∧ i.natAbs.log2 < 1920 ∧ Q (.str (toString i)) H
theorem c_str : DCR X (.type "str") rStr1 gStr := by
  refine ⟨call_str_int, fun F H ds xs k Q s i h q => ?_⟩
  unfold gStr at h
  split at h
  · obtain ⟨x, r, rfl, h1, h2⟩ := i
    cases h2; cases h1
    exact ⟨_, rfl, h.1, fa s q h.2⟩
  · exact h.elim
def gInt : List D → (D → Prop) → Prop
  | [.a (.bl b)], k => k (.a (.int (if b then 1 else 0)))
  | _, _ => False
def rInt1 : List V → Hp → VK → Prop := fun xs H Q => (∃ i, xs = [.int i] ∧ Q (.int i) H) ∨ ∃ k, xs = [.bl k] ∧ Q (.int (if k then 1 else 0)) H
theorem c_int : DCR X (.type "int") rInt1 gInt := by
  refine ⟨call_int1, fun F H ds xs k Q s i h q => ?_⟩
  unfold gInt at h
  split at h
  · obtain ⟨x, r, rfl, h1, h2⟩ := i
    cases h2; cases h1
    exact .inr ⟨_, rfl, fa s q h⟩
  · exact h.elim
/-- isinstance(x, T) for what is met here: a tuple, an int, a text against tuple | bool -/
def gIsi : List D → (D → Prop) → Prop
  | [.tup _, .a (.ty n)], k => n = "tuple" ∧ k (.a (.bl true))
  | [.a (.int _), .a (.ty n)], k => n = "bool" ∧ k (.a (.bl false))
  | [.a (.str _), .a (.ty n)], k => n = "bool" ∧ k (.a (.bl false))
  | _, _ => False
theorem c_isi : DCR X (.builtin "isinstance") (rIsi X.K) gIsi := by
  refine ⟨call_isi, fun F H ds xs k Q s i h q => ?_⟩
  unfold gIsi at h
  split at h
  · obtain ⟨x, r, rfl, h1, h2⟩ := i
    obtain ⟨y, r', rfl, h3, h4⟩ := h2
    cases h4; cases h3
    obtain ⟨hn, h⟩ := h
    obtain ⟨p, us, rfl, g1, g2⟩ := h1
    subst hn
    refine ⟨_, _, .type "tuple", _, true, rfl, .ty _, ?_, kit_ty (by decide +kernel), fa s q h⟩
    obtain ⟨o, z, _⟩ := g1.up s
    exact .fTuple z
  · obtain ⟨x, r, rfl, h1, h2⟩ := i
    obtain ⟨y, r', rfl, h3, h4⟩ := h2
    cases h4; cases h3; cases h1
    obtain ⟨hn, h⟩ := h
    subst hn
    exact ⟨_, _, .type "int", _, false, rfl, .ty _, .base (.int _), kit_ty (by decide +kernel), fa s q h⟩
  · obtain ⟨x, r, rfl, h1, h2⟩ := i
    obtain ⟨y, r', rfl, h3, h4⟩ := h2
    cases h4; cases h3; cases h1
    obtain ⟨hn, h⟩ := h
    subst hn
    exact ⟨_, _, .type "str", _, false, rfl, .ty _, .base (.str _), kit_ty (by decide +kernel), fa s q h⟩
  · exact h.elim
/-- texts as data -/
def strsD (xs : List Str) : List D := xs.map fun z => .a (.str z)
theorem strsD_is {K : PySem.W.Frag} {F : Hp} : ∀ {xs : List Str} {us : List V}, IsL K F (strsD xs) us → us = xs.map V.str
  | [], us, h => h
  | x :: r, us, h => by
    obtain ⟨y, t, rfl, h1, h2⟩ := h
    rw [strsD_is h2, List.map_cons, show y = .str x from h1]
theorem strsD_of {K : PySem.W.Frag} {F : Hp} : ∀ (xs : List Str), IsL K F (strsD xs) (xs.map V.str)
  | [] => IsL.nil
  | x :: r => .cons rfl (strsD_of r)
def gSorted : List D → (D → Prop) → Prop
  | [.lst ds], k => ∃ xs, ds = strsD xs ∧ xs.length < 64 ∧ ∀ ys : List Str, ys.Perm xs → PyProof.Rows.sortedS ys = true → k (.lst (strsD ys))
  | _, _ => False
theorem c_sorted : DCR X (.builtin "sorted") (rSortedS X.K) gSorted := by
  refine ⟨cr_sortedS, fun F H ds xs k Q s i h q => ?_⟩
  unfold gSorted at h
  split at h
  · obtain ⟨x, r, rfl, h1, h2⟩ := i
    cases h2
    obtain ⟨p, us, rfl, g1, g2⟩ := h1
    obtain ⟨zs, rfl, hl, hk⟩ := h
    have e := strsD_is g2
    subst e
    exact ⟨p, zs, rfl, sq_l s g1, hl, fun ys c pm so hc => new_lst s hc (strsD_of ys) (hk ys pm so) q⟩
  · exact h.elim
end

/-! ### t.index(x) -/
section
variable {X : Cx} {C : Addr} {a e : Expr} {ta te : TE} {wa we : DT} {pos apos : Pos}
def dIdx (wa we : DT) : DT := fun ρ k => wa ρ fun d => we ρ fun y => match d, y with
  | .tup ds, .a (.str z) => ∃ ys : List Str, ds = strsD ys ∧ ∃ j : Nat, ys[j]? = some z ∧ (∀ m, m < j → ys[m]? ≠ some z) ∧ k (.a (.int (j : Nat)))
  | _, _ => False
def rIdx1 (K : PySem.W.Frag) : V → List V → Hp → VK → Prop := fun x xs H Q => ∃ p, ∃ ys : List Str, ∃ z j, x = .ref p ∧ xs = [.str z] ∧ SqT K H p (ys.map V.str) ∧ ys[j]? = some z ∧ (∀ m, m < j → ys[m]? ≠ some z) ∧ Q (.int (j : Nat)) H
end
end Wh

/-! # t.index(x); what is walked; comprehensions -/
namespace Wh
open PySem L2
section
variable {X : Cx} {C : Addr} {a e : Expr} {es : List Expr} {ta te : TE} {wa we : DT} {pos apos cpos : Pos}
def tIdx (K : PySem.W.Frag) (ta te : TE) : TE := fun σ H Q => ta σ H fun x H1 => (∃ p xs, x = .ref p ∧ TupAt H1 p xs) ∧ te σ H1 fun y H2 => rIdx1 K x [y] H2 Q
theorem pe_index (ha : PE X a ta) (he : PE X e te)
    (hbase : attributeBase a "index" X.env (eval a X.env) = eval a X.env := by rfl)
    (hfew : ((backTo cpos (starEach [e] X.env)).all (fun x => !x.1) && (backToKw cpos (keywordEach [] X.env)).all (fun x => x.1.isSome)
      && decide (([e] : List Expr).length + ([] : List Keyword).length + (if ([] : List Keyword).isEmpty then 0 else 1) < 30)) = true := by rfl)
    (hline : (apos.endLine == cpos.line) = true := by rfl) (hs : starEach [e] X.env = (false, eval e X.env) :: starEach [] X.env := by rfl) (hplain : (backTo cpos (starEach [] X.env)).any (·.1) = false := by rfl) :
    PE X (.Call (.Attribute a "index" apos) [e] [] cpos) (tIdx X.K ta te) := by
  refine ⟨fun pins s σ H Q I h => ?_⟩
  refine wpAny_Call_method_late hbase hfew hline rfl (thn (ha.run pins s σ H _ I h) fun v s1 ⟨x, H1, I1, r1, ⟨p, xs, ex, o, hp, hd, hcl⟩, q1⟩ => ?_)
  subst ex
  cases r1
  have oo : ObjOk X.prog X.w H1 s1.heap p (.frz o (.tup xs)) := I1.hok p _ hp
  refine ⟨"tuple", "tuple.index", PySem.F.plainAttrs_tuple, PySem.F.slot_tuple_index, PySem.F.type_tuple_index, ⟨o, oo.1, hcl⟩, fun b hb => by cases hb; exact ⟨o, oo.1, hd⟩, ?_⟩
  have hA := (pa_cons he pa_nil hs).run cpos pins s1 σ H1 (fun xs H2 => rIdx1 X.K (.ref p) xs H2 Q) I1 q1
  rw [hs] at hA ⊢
  refine Calls.callWith_builtin (by show (false || (backTo cpos (starEach [] X.env)).any (·.1)) = false; rw [hplain] <;> rfl) (Calls.evalArgs_plain ?_)
  exact thn hA fun us s2 ⟨vs, H2, I2, r2, q2⟩ => mt_tup_index pins s2 σ H2 (.ref p) vs (.ref p) us Q I2 rfl r2 q2
theorem de_index (ha : DE X C a ta wa) (he : DE X C e te we)
    (hbase : attributeBase a "index" X.env (eval a X.env) = eval a X.env := by rfl)
    (hfew : ((backTo cpos (starEach [e] X.env)).all (fun x => !x.1) && (backToKw cpos (keywordEach [] X.env)).all (fun x => x.1.isSome)
      && decide (([e] : List Expr).length + ([] : List Keyword).length + (if ([] : List Keyword).isEmpty then 0 else 1) < 30)) = true := by rfl)
    (hline : (apos.endLine == cpos.line) = true := by rfl) (hs : starEach [e] X.env = (false, eval e X.env) :: starEach [] X.env := by rfl) (hplain : (backTo cpos (starEach [] X.env)).any (·.1) = false := by rfl) :
    DE X C (.Call (.Attribute a "index" apos) [e] [] cpos) (tIdx X.K ta te) (fun ρ k => wa ρ fun d => match d with
      | .tup ds => we ρ fun y => match y with
        | .a (.str z) => ∃ ys : List Str, ds = strsD ys ∧ ∃ j : Nat, ys[j]? = some z ∧ (∀ m, m < j → ys[m]? ≠ some z) ∧ k (.a (.int (j : Nat)))
        | _ => False
      | _ => False) := by
  refine ⟨pe_index ha.pe he.pe hbase hfew hline hs hplain, fun F0 H0 F H σ ρ k Q en h q => ?_⟩
  refine ha.dv _ _ _ _ _ _ _ _ en h fun x vx F1 H1 x1 i1 h1 => ?_
  split at h1
  · obtain ⟨p, xs, rfl, g1, g2⟩ := i1
    refine ⟨⟨p, xs, rfl, g1.up x1.s⟩, ?_⟩
    refine he.dv _ _ _ _ _ _ _ _ (en.grow x1) h1 fun y vy F2 H2 x2 i2 h2 => ?_
    split at h2
    · cases i2
      obtain ⟨ys, rfl, j, h3, h4, h5⟩ := h2
      have e1 := strsD_is g2
      subst e1
      exact ⟨p, ys, _, j, rfl, rfl, ((g1.up x1.s).up x2.h).sq, h3, h4, q (.a _) _ _ _ (x1.trans x2) rfl h5⟩
    · exact h2.elim
  · exact h1.elim
end

/-! ### what a loop or a comprehension walks: its items are data of the frame -/
structure Walks (K : PySem.W.Frag) (J : It) (ds : List D) (F : Hp) : Prop where
  go : ∀ (i : Nat) (H : Hp), Same F H → i < ds.length → J.go i H
  stop : ∀ (i : Nat) (H : Hp), Same F H → ds.length ≤ i → J.stop i H
  yld : ∀ (i : Nat) (x : V) (H H' : Hp), Same F H → i < ds.length → J.yld i H x H' → H' = H ∧ ∃ d, ds[i]? = some d ∧ Is K F d x
abbrev DTI := DSt → (List D → Prop) → Prop
structure DI (X : Cx) (C : Addr) (tg iter : Expr) (wi : TI) (w : DTI) : Prop where
  pi : PI X tg iter wi
  dv : ∀ (F0 H0 F H : Hp) (σ : L2.St) (ρ : DSt) (k : List D → Prop) (R : It → Hp → Prop), Env X.K C F0 H0 F H σ ρ → w ρ k → (∀ J ds F' H', Ext F H F' H' → Walks X.K J ds F' → k ds → R J H') → wi σ H R
theorem walks_l {K : PySem.W.Frag} {F : Hp} {p : Addr} {xs : List V} {ds : List D} (h : SqL K F p xs) (i : IsL K F ds xs) : Walks K (Itl K p) ds F where
  go := fun j H s hj => by
    have hj' : j < xs.length := by rw [← i.len]; exact hj
    exact ⟨xs, xs[j], sq_l s h, List.getElem?_eq_getElem hj'⟩
  stop := fun j H s hj => ⟨xs, sq_l s h, by rw [← i.len]; exact hj⟩
  yld := fun j x H H' s hj y => by
    obtain ⟨e, y⟩ := y
    obtain ⟨d, h1, h2⟩ := i.getV (y xs (sq_l s h))
    exact ⟨e, d, h1, h2⟩
theorem walks_t {K : PySem.W.Frag} {F : Hp} {p : Addr} {xs : List V} {ds : List D} (h : SqT K F p xs) (i : IsL K F ds xs) : Walks K (Itt K p) ds F where
  go := fun j H s hj => by
    have hj' : j < xs.length := by rw [← i.len]; exact hj
    exact ⟨xs, xs[j], sq_t s h, List.getElem?_eq_getElem hj'⟩
  stop := fun j H s hj => ⟨xs, sq_t s h, by rw [← i.len]; exact hj⟩
  yld := fun j x H H' s hj y => by
    obtain ⟨e, y⟩ := y
    obtain ⟨d, h1, h2⟩ := i.getV (y xs (sq_t s h))
    exact ⟨e, d, h1, h2⟩
def rangeD (lo : Int) (n : Nat) : List D := (List.range n).map fun (i : Nat) => .a (.int (lo + (i : Int)))
theorem rangeD_len (lo : Int) (n : Nat) : (rangeD lo n).length = n := by simp [rangeD]
theorem rangeD_get {lo : Int} {n i : Nat} (h : i < n) : (rangeD lo n)[i]? = some (.a (.int (lo + (i : Int)))) := by
  unfold rangeD
  rw [List.getElem?_map, List.getElem?_range h]
  rfl
theorem walks_r {K : PySem.W.Frag} {F : Hp} (lo : Int) (n : Nat) : Walks K (Itr lo n) (rangeD lo n) F where
  go := fun j H s hj => by rw [rangeD_len] at hj; exact hj
  stop := fun j H s hj => by rw [rangeD_len] at hj; exact hj
  yld := fun j x H H' s hj y => by
    obtain ⟨e, y⟩ := y
    subst y
    rw [rangeD_len] at hj
    exact ⟨e, _, rangeD_get hj, rfl⟩
section
variable {X : Cx} {C : Addr} {tg l a b : Expr} {tl : TE} {we : DT} {es : List Expr} {ta : TA} {wa : DTA} {p pos : Pos}
def iSeq (K : PySem.W.Frag) (tl : TE) : TI := fun σ H R => tl σ H fun x H1 => ∃ a, x = .ref a ∧ (((∃ xs, SqL K H1 a xs) ∧ R (Itl K a) H1) ∨ ((∃ xs, SqT K H1 a xs) ∧ R (Itt K a) H1))
theorem pi_seq (hl : PE X l tl) : PI X tg l (iSeq X.K tl) := by
  refine ⟨fun pins s σ H R I h => ?_⟩
  refine thn (hl.run pins s σ H _ I h) fun v s1 ⟨x, H1, I1, r1, q1⟩ => ?_
  obtain ⟨a, e, q1⟩ := q1
  subst e
  cases r1
  have fresh : ∀ b ∈ [s1.heap.objs.size], FpOk X pins H1 b := fun b hb => by
    have e : b = s1.heap.objs.size := by simpa using hb
    subst e
    exact I1.fpOk (Nat.le_refl _) (I1.hok.fresh (Nat.le_refl _))
  rcases q1 with ⟨⟨xs, hq⟩, q⟩ | ⟨⟨xs, hq⟩, q⟩
  · obtain ⟨its, rv, pl, hz⟩ := I1.list hq
    refine PySem.wpAny_pyIter_list pl.isList ?_
    exact ⟨s1.heap.objs.size, [s1.heap.objs.size], _, _, H1, rfl, I1.kept (t' := s1.toks) fun b o e => Heap.get?_push_of_some _ e, turn_list a _, ⟨_, Heap.get?_push_size _ rfl, rfl, rfl⟩, fresh, q⟩
  · obtain ⟨its, rv, pl, hz⟩ := I1.tuple hq
    refine PySem.wpAny_pyIter_tuple (show s1.heap.IsTuple a its.toArray from pl) ?_
    exact ⟨s1.heap.objs.size, [s1.heap.objs.size], _, _, H1, rfl, I1.kept (t' := s1.toks) fun b o e => Heap.get?_push_of_some _ e, turn_tuple a _, ⟨_, Heap.get?_push_size _ rfl, rfl, rfl⟩, fresh, q⟩
def dSeqI (we : DT) : DTI := fun ρ k => we ρ fun d => match d with
  | .tup ds => k ds
  | .lst ds => k ds
  | _ => False
theorem di_seq (hl : DE X C l tl we) : DI X C tg l (iSeq X.K tl) (dSeqI we) := by
  refine ⟨pi_seq hl.pe, fun F0 H0 F H σ ρ k R en h q => ?_⟩
  refine hl.dv _ _ _ _ _ _ _ _ en h fun x vx F1 H1 x1 i1 h1 => ?_
  split at h1
  · obtain ⟨p, xs, rfl, g1, g2⟩ := i1
    exact ⟨p, rfl, .inr ⟨⟨xs, (g1.up x1.s).sq⟩, q _ _ _ _ x1 (walks_t g1.sq g2) h1⟩⟩
  · obtain ⟨p, xs, rfl, g1, g2⟩ := i1
    exact ⟨p, rfl, .inl ⟨⟨xs, sq_l x1.s g1⟩, q _ _ _ _ x1 (walks_l g1 g2) h1⟩⟩
  · exact h1.elim
def dRng1 (wa : DTA) : DTI := fun ρ k => wa ρ fun ds => match ds with
  | [.a (.int j)] => (-(2 ^ 62) ≤ j ∧ j < 2 ^ 62) ∧ k (rangeD 0 j.toNat)
  | _ => False
def dRng2 (wa : DTA) : DTI := fun ρ k => wa ρ fun ds => match ds with
  | [.a (.int i), .a (.int j)] => (-(2 ^ 62) ≤ i ∧ i < 2 ^ 62 ∧ -(2 ^ 62) ≤ j ∧ j < 2 ^ 62) ∧ k (rangeD i (j - i).toNat)
  | _ => False
theorem di_range1 (hm : X.mg "range" = none) (ha : DAn X C [a] ta wa) (hg : Gl X "range" := by rfl) (hs : starEach [a] X.env = [(false, eval a X.env)] := by rfl) : DI X C tg (.Call (.Name "range" p) [a] [] pos) (iRng1 ta) (dRng1 wa) := by
  refine ⟨pi_range1 hg hm ha.pa hs, fun F0 H0 F H σ ρ k R en h q => ?_⟩
  refine ha.dv _ _ _ _ _ _ _ _ en h fun ds vs F1 H1 x1 l1 i1 h1 => ?_
  split at h1
  · obtain ⟨x, r, rfl, g1, g2⟩ := i1
    cases g2; cases g1
    exact ⟨_, rfl, h1.1.1, h1.1.2, q _ _ _ _ x1 (walks_r 0 _) h1.2⟩
  · exact h1.elim
theorem di_range2 (hm : X.mg "range" = none) (ha : DAn X C [a, b] ta wa) (hg : Gl X "range" := by rfl) (hs : starEach [a, b] X.env = [(false, eval a X.env), (false, eval b X.env)] := by rfl) (hs2 : starEach [b] X.env = [(false, eval b X.env)] := by rfl) :
    DI X C tg (.Call (.Name "range" p) [a, b] [] pos) (iRng2 ta) (dRng2 wa) := by
  refine ⟨pi_range2 hg hm ha.pa hs hs2, fun F0 H0 F H σ ρ k R en h q => ?_⟩
  refine ha.dv _ _ _ _ _ _ _ _ en h fun ds vs F1 H1 x1 l1 i1 h1 => ?_
  split at h1
  · obtain ⟨x, r, rfl, g1, g2⟩ := i1
    obtain ⟨y, r', rfl, g3, g4⟩ := g2
    cases g4; cases g3; cases g1
    exact ⟨_, _, rfl, h1.1, q _ _ _ _ x1 (walks_r _ _) h1.2⟩
  · exact h1.elim
end

/-! ### comprehensions -/
/-- the block's state: its own names forgotten, the item at slot j -/
def wipeD (l : List (Option D)) : List Nat → List (Option D)
  | [] => l
  | v :: vs => (wipeD l vs).set v none
def blkD (ρ : DSt) (vs : List Nat) (j : Nat) (d : D) : DSt := ⟨(wipeD ρ.sl vs).set j (some d), none, ρ.sto⟩
theorem wipeD_len (l : List (Option D)) : ∀ vs, (wipeD l vs).length = l.length
  | [] => rfl
  | v :: vs => by unfold wipeD; rw [List.length_set, wipeD_len l vs]
theorem wipeD_get {l : List (Option D)} {σ : L2.St} (hl : l.length = σ.length) : ∀ (vs : List Nat) (i : Nat) (d : D), (wipeD l vs)[i]? = some (some d) → l[i]? = some (some d) ∧ (wipe σ vs)[i]? = σ[i]?
  | [], i, d, h => ⟨h, rfl⟩
  | v :: vs, i, d, h => by
    unfold wipeD at h
    by_cases e : v = i
    · subst e
      by_cases hv : v < (wipeD l vs).length
      · rw [List.getElem?_set_self hv] at h; cases h
      · rw [List.getElem?_eq_none (by simpa using hv)] at h; cases h
    · rw [List.getElem?_set_ne e] at h
      obtain ⟨h1, h2⟩ := wipeD_get hl vs i d h
      exact ⟨h1, by unfold wipe; rw [List.getElem?_set_ne e]; exact h2⟩
theorem env_blk {K : PySem.W.Frag} {C : Addr} {F0 H0 F H : Hp} {σ : L2.St} {ρ : DSt} (en : Env K C F0 H0 F H σ ρ) (vs : List Nat) (j : Nat) {d : D} {x : V} (i : Is K F d x) : Env K C F0 H0 F H ((wipe σ vs).set j (some x)) (blkD ρ vs j d) where
  ext := en.ext
  len := by
    show ((wipeD ρ.sl vs).set j (some d)).length = _
    rw [List.length_set, List.length_set, wipeD_len, wipe_length, en.len]
  ok := fun n e h => by
    have h : ((wipeD ρ.sl vs).set j (some d))[n]? = some (some e) := h
    by_cases c : j = n
    · subst c
      by_cases hv : j < (wipeD ρ.sl vs).length
      · rw [List.getElem?_set_self hv] at h
        cases h
        have hv' : j < (wipe σ vs).length := by rw [wipe_length, ← en.len, ← wipeD_len ρ.sl vs]; exact hv
        exact ⟨x, List.getElem?_set_self hv', i⟩
      · rw [List.getElem?_eq_none (by simpa using hv)] at h; cases h
    · rw [List.getElem?_set_ne c] at h ⊢
      obtain ⟨h1, h2⟩ := wipeD_get en.len vs n e h
      rw [h2]
      exact en.ok n e h1
  own := fun n ds h => by cases h
  sto := en.sto
structure DTs (X : Cx) (C : Addr) (ifs : List Expr) (t : TT) (w : DTT) : Prop where
  pts : PTs X ifs t
  dv : DVT X.K C t w
def dYes : DTT := fun _ k => k true
section
variable {X : Cx} {C : Addr}
theorem dts_nil : DTs X C [] tYes dYes := ⟨pts_nil, fun F0 H0 F H σ ρ k Q en h q => q true F H (Ext.refl en.sm) h⟩
theorem dts_one {c : Expr} {t : TT} {w : DTT} (h : DP X C c t w) : DTs X C [c] t w := ⟨pts_one h.pt, h.dv⟩
def dLc (wi : DTI) (vs : List Nat) (j : Nat) (wt : DTT) (we : DT) : DT := fun ρ k => wi ρ fun ds => ds.length ≤ 100000 ∧ ∃ P : Nat → List D → Prop, P 0 [] ∧
  (∀ i d acc, ds[i]? = some d → P i acc → wt (blkD ρ vs j d) fun b => if b = true then we (blkD ρ vs j d) fun y => P (i + 1) (acc ++ [y]) else P (i + 1) acc) ∧ ∀ acc, P ds.length acc → k (.lst acc)
theorem wipe_back {σ : L2.St} {vs : List Nat} {j : Nat} (hj : j ∈ vs) (x : V) : wipe ((wipe σ vs).set j (some x)) vs = wipe σ vs := by
  have key : ∀ (us : List Nat) (τ : L2.St) (i : Nat), (wipe τ us)[i]? = if i ∈ us then (if i < τ.length then some none else none) else τ[i]? := by
    intro us
    induction us with
    | nil => intro τ i; simp [wipe]
    | cons v r ih =>
      intro τ i
      unfold wipe
      by_cases e : v = i
      · subst e
        by_cases hv : v < (wipe τ r).length
        · rw [List.getElem?_set_self hv]
          rw [wipe_length] at hv
          simp [hv]
        · rw [List.getElem?_eq_none (by simpa using hv)]
          rw [wipe_length] at hv
          simp [hv]
      · rw [List.getElem?_set_ne e, ih]
        have e' : ¬ i = v := fun z => e z.symm
        simp [e']
  apply List.ext_getElem?
  intro i
  rw [key, key]
  by_cases hi : i ∈ vs
  · simp [hi, wipe_length]
  · rw [if_neg hi, if_neg hi]
    have : j ≠ i := fun z => hi (z ▸ hj)
    rw [List.getElem?_set_ne this, key, if_neg hi]
theorem de_lc {elt tg iter : Expr} {ifs : List Expr} {scope : Scope} {own : List (Str × Nat)} {j : Nat} {pos : Pos} {wi : TI} {tt : TT} {te : TE} {vi : DTI} {wt : DTT} {we : DT} (hc : X.calm = true) (hN : X.N.Nodup) (hi : DI X C tg iter wi vi) (ok : BlkOk X.N X.env.scope scope own) (hj : j ∈ own.map (·.2))
    (hg : ∀ (s : Shared) (H : Hp) (D : Addr) (cl : List (Str × Addr)) (fp : List Addr), PG (X.blk s H scope (compEnvC scope cl D X.env) fp) tg (gName j)) (ht : ∀ (s : Shared) (H : Hp) (D : Addr) (cl : List (Str × Addr)) (fp : List Addr), DTs (X.blk s H scope (compEnvC scope cl D X.env) fp) C ifs tt wt)
    (he : ∀ (s : Shared) (H : Hp) (D : Addr) (cl : List (Str × Addr)) (fp : List Addr), DE (X.blk s H scope (compEnvC scope cl D X.env) fp) C elt te we) (hs : ∀ x, foldedSetIterable iter X.env x = pure x := by intro _; rfl) :
    DE X C (.ListComp elt [⟨tg, iter, ifs, 0⟩] scope pos) (tLc wi (gName j) tt te (own.map (·.2))) (dLc vi (own.map (·.2)) j wt we) := by
  refine ⟨pe_lc hc hN hi.pi ok hg (fun s H D cl fp => (ht s H D cl fp).pts) (fun s H D cl fp => (he s H D cl fp).pe) hs, fun F0 H0 F H σ ρ k Q en h q => ?_⟩
  refine hi.dv _ _ _ _ _ _ _ _ en h fun J ds F1 H1 x1 wk ⟨hz, P, p0, pt, pe⟩ => ?_
  intro L hL
  have en1 := en.grow x1
  have fL1 : F1 L = none := x1.s.free hL
  refine ⟨fun i m H' => m = ds.length - i ∧ i ≤ ds.length ∧ ∃ F' acc accV, Ext F1 H1 F' H' ∧ H' L = some (.lst accV) ∧ F' L = none ∧ IsL X.K F' acc accV ∧ acc.length ≤ i ∧ P i acc,
    ⟨ds.length, by simp, Nat.zero_le _, F1, [], [], ⟨Same.refl _, same_new hL, x1.s.trans (same_new hL), fun _ _ e => .inl e⟩, upd_same, fL1, IsL.nil, Nat.le_refl _, p0⟩, ?_⟩
  rintro i m H' ⟨rfl, hle, F', acc, accV, xx, hL', fL, ia, la, pi⟩
  have sF : Same F1 H' := x1.s.trans xx.h
  by_cases hlt : i < ds.length
  · refine .inr ⟨wk.go i H' sF hlt, fun H'' => ∃ F' acc accV, Ext F1 H1 F' H'' ∧ H'' L = some (.lst accV) ∧ F' L = none ∧ IsL X.K F' acc accV ∧ acc.length ≤ i + 1 ∧ P (i + 1) acc, fun H'' z => ⟨ds.length - (i + 1), by omega, rfl, hlt, z⟩, fun x H'' y => ?_⟩
    obtain ⟨rfl, d, hd, id⟩ := wk.yld i x H' H'' sF hlt y
    have en2 := en1.grow xx
    refine ⟨wipe_back hj x, ?_⟩
    refine (ht {} H 0 [] []).dv F0 H0 F' H'' _ (blkD ρ (own.map (·.2)) j d) _ _ (env_blk en2 _ j (Is.mono xx.f _ _ id)) (pt i d acc hd pi) fun b F2 H2 x2 hb => ?_
    cases b with
    | true =>
      have hb : we (blkD ρ (own.map (·.2)) j d) fun y => P (i + 1) (acc ++ [y]) := hb
      refine (he {} H 0 [] []).dv F0 H0 F2 H2 _ (blkD ρ (own.map (·.2)) j d) _ _ (env_blk (en2.grow x2) _ j (Is.mono (xx.trans x2).f _ _ id)) hb fun y vy F3 H3 x3 iy py => ?_
      have xa := (xx.trans x2).trans x3
      have h3 := x3.h _ _ (x2.h _ _ hL')
      have f3 : F3 L = none := (x2.trans x3).off hL' fL
      have big : (100000 : Nat) < sizeLine := by rw [sizeLine_eq]; decide
      refine ⟨accV, h3, by rw [← ia.len]; omega, F3, acc ++ [y], accV ++ [vy], ⟨xa.f, fun c o e => ?_, fun c o e => ?_, xa.n⟩, upd_same, f3, (IsL.mono (x2.trans x3).f _ _ ia).append (.cons iy .nil), by simp; omega, py⟩
      · rw [upd_ne (ne_of_none e hL)]
        exact xa.h c o e
      · rw [upd_ne (ne_of_none e f3)]
        exact xa.s c o e
    | false =>
      have hb : P (i + 1) acc := hb
      exact ⟨F2, acc, accV, xx.trans x2, x2.h _ _ hL', x2.off hL' fL, IsL.mono x2.f _ _ ia, by omega, hb⟩
  · have e : i = ds.length := by omega
    subst e
    refine .inl ⟨wk.stop _ H' sF (Nat.le_refl _), q (.lst acc) (.ref L) (upd F' L (.lst accV)) H' (x1.trans ⟨xx.f.trans (same_new fL), xx.h, fun c o e => ?_, fun c o e => ?_⟩) ⟨L, accV, rfl, SqL.of upd_same, IsL.mono (same_new fL) _ _ ia⟩ (pe acc pi)⟩
    · by_cases hc : c = L
      · subst hc
        rw [upd_same] at e
        cases e
        exact hL'
      · rw [upd_ne hc] at e
        exact xx.s c o e
    · by_cases hc : c = L
      · subst hc
        exact .inr hL
      · rw [upd_ne hc] at e
        exact xx.n c o e
end
end Wh

/-! # Statements; a def's promise from its body -/
namespace Wh
open PySem L2
def dropOwn : Option (Nat × List D) → Nat → Option (Nat × List D)
  | none, _ => none
  | some (i, ds), j => if i = j then none else some (i, ds)
def DSt.put (ρ : DSt) (i : Nat) (d : D) : DSt := ⟨ρ.sl.set i (some d), dropOwn ρ.own i, ρ.sto⟩
section
variable {K : PySem.W.Frag} {C : Addr} {F0 H0 F H : Hp} {σ : L2.St} {ρ : DSt}
theorem env_put (en : Env K C F0 H0 F H σ ρ) (i : Nat) {d : D} {v : V} (h : Is K F d v) : Env K C F0 H0 F H (σ.set i (some v)) (ρ.put i d) where
  ext := en.ext
  len := by
    show (ρ.sl.set i (some d)).length = _
    rw [List.length_set, List.length_set, en.len]
  ok := fun n e q => by
    have q : (ρ.sl.set i (some d))[n]? = some (some e) := q
    by_cases c : i = n
    · subst c
      by_cases hv : i < ρ.sl.length
      · rw [List.getElem?_set_self hv] at q
        cases q
        exact ⟨v, List.getElem?_set_self (by rw [← en.len]; exact hv), h⟩
      · rw [List.getElem?_eq_none (by simpa using hv)] at q; cases q
    · rw [List.getElem?_set_ne c] at q ⊢
      exact en.ok n e q
  own := fun n ds q => by
    have q : dropOwn ρ.own i = some (n, ds) := q
    cases ho : ρ.own with
    | none => rw [ho] at q; cases q
    | some w =>
      obtain ⟨j, es⟩ := w
      rw [ho] at q
      have q : (if j = i then none else some (j, es)) = some (n, ds) := q
      by_cases c : j = i
      · rw [if_pos c] at q; cases q
      · rw [if_neg c] at q
        cases q
        rw [List.getElem?_set_ne (fun z => c z.symm)]
        exact en.own _ _ ho
  sto := en.sto
/-- what the def owned is data from here on -/
def DSt.frz (ρ : DSt) : DSt := match ρ.own with
  | some (i, ds) => ⟨ρ.sl.set i (some (.lst ds)), none, ρ.sto⟩
  | none => ρ
theorem upd_back {F H : Hp} {p : Addr} {o : HO} (s : Same F H) (h : H p = some o) : Same (upd F p o) H := fun c u e => by
  by_cases hc : c = p
  · subst hc
    rw [upd_same] at e
    cases e
    exact h
  · rw [upd_ne hc] at e
    exact s c u e
theorem env_frz (en : Env K C F0 H0 F H σ ρ) {i : Nat} {ds : List D} (ho : ρ.own = some (i, ds)) :
    ∃ p xs, σ[i]? = some (some (.ref p)) ∧ H p = some (.lst xs) ∧ F p = none ∧ H0 p = none ∧ IsL K F ds xs ∧ Env K C F0 H0 (upd F p (.lst xs)) H σ ρ.frz := by
  obtain ⟨p, xs, h1, h2, h3, h4, h5⟩ := en.own i ds ho
  have sf : Same F (upd F p (.lst xs)) := same_new h3
  refine ⟨p, xs, h1, h2, h3, h4, h5, ?_⟩
  have er : ρ.frz = ⟨ρ.sl.set i (some (.lst ds)), none, ρ.sto⟩ := by unfold DSt.frz; rw [ho]
  rw [er]
  refine ⟨⟨en.ext.f.trans sf, en.ext.h, upd_back en.sm h2, fun c o e => ?_⟩, (by rw [List.length_set, en.len]), fun n e q => ?_, (fun n es q => by cases q), ?_⟩
  · by_cases hc : c = p
    · subst hc
      exact .inr h4
    · rw [upd_ne hc] at e
      exact en.ext.n c o e
  · have q : (ρ.sl.set i (some (.lst ds)))[n]? = some (some e) := q
    by_cases c : i = n
    · subst c
      by_cases hv : i < ρ.sl.length
      · rw [List.getElem?_set_self hv] at q
        cases q
        exact ⟨_, h1, p, xs, rfl, SqL.of upd_same, IsL.mono sf _ _ h5⟩
      · rw [List.getElem?_eq_none (by simpa using hv)] at q; cases q
    · rw [List.getElem?_set_ne c] at q
      obtain ⟨u, e1, e2⟩ := en.ok n e q
      exact ⟨u, e1, Is.mono sf _ _ e2⟩
  · have hs := en.sto
    cases hst : ρ.sto with
    | none => trivial
    | some s =>
      rw [hst] at hs
      obtain ⟨dx, am, as, us, vs, g1, g2, g3, ne, l1, l2, f1, f2, f3, i1, i2, m⟩ := hs
      have nl : ∀ {c : Addr} {o : HO}, H c = some o → (∀ ys, o ≠ .lst ys) → F c = none → upd F p (.lst xs) c = none := fun {c o} e ne' fc => by
        have : c ≠ p := fun z => by
          rw [z, h2] at e
          exact ne' _ (Option.some.inj e).symm
        rw [upd_ne this]
        exact fc
      exact ⟨dx, am, as, us, vs, g1, g2, g3, ne, l1, l2, nl g1 (fun _ z => by cases z) f1, nl g2 (fun _ z => by cases z) f2, nl g3 (fun _ z => by cases z) f3, IsL.mono sf _ _ i1, IsL.mono sf _ _ i2, m⟩
end
/-! ### an address taken out of the frame again -/
def del (F : Hp) (p : Addr) : Hp := fun b => if b = p then none else F b
theorem del_same {F : Hp} {p : Addr} : del F p p = none := by unfold del; rw [if_pos rfl]
theorem del_ne {F : Hp} {p b : Addr} (h : b ≠ p) : del F p b = F b := by unfold del; rw [if_neg h]
mutual
def nolst : D → Bool
  | .a _ => true
  | .tup ds => nolstL ds
  | .lst _ => false
  | .dic _ ds => nolstL ds
def nolstL : List D → Bool
  | [] => true
  | d :: ds => nolst d && nolstL ds
end
mutual
theorem Is.del {K : PySem.W.Frag} {F : Hp} {p : Addr} {ys : List V} (h : F p = some (.lst ys)) : ∀ (d : D) (u : V), nolst d = true → Is K F d u → Is K (Wh.del F p) d u
  | .a _, _, _, i => i
  | .tup ds, _, n, i => by
    obtain ⟨q, xs, e, ⟨o, g, r⟩, i2⟩ := i
    have ne : q ≠ p := fun z => by rw [z, h] at g; cases g
    exact ⟨q, xs, e, ⟨o, by rw [del_ne ne]; exact g, r⟩, IsL.del h ds xs n i2⟩
  | .lst _, _, n, _ => nomatch n
  | .dic ks ds, _, n, i => by
    obtain ⟨q, xs, e, g, l, i2⟩ := i
    have ne : q ≠ p := fun z => by rw [z, h] at g; cases g
    exact ⟨q, xs, e, by rw [del_ne ne]; exact g, l, IsL.del h ds xs n i2⟩
theorem IsL.del {K : PySem.W.Frag} {F : Hp} {p : Addr} {ys : List V} (h : F p = some (.lst ys)) : ∀ (ds : List D) (us : List V), nolstL ds = true → IsL K F ds us → IsL K (Wh.del F p) ds us
  | [], _, _, i => i
  | d :: ds, _, n, i => by
    obtain ⟨x, r, e, i1, i2⟩ := i
    have n' := Bool.and_eq_true_iff.mp n
    exact ⟨x, r, e, Is.del h d x n'.1 i1, IsL.del h ds r n'.2 i2⟩
end
theorem ext_del {F H F1 H1 : Hp} {p : Addr} {xs : List V} (hp : F p = none) (x : Ext (upd F p (.lst xs)) H F1 H1) : Ext F H (del F1 p) H1 := by
  refine ⟨fun b o e => ?_, x.h, fun b o e => ?_, fun b o e => ?_⟩
  · have ne : b ≠ p := fun z => by rw [z, hp] at e; cases e
    rw [del_ne ne]
    exact x.f b o (by rw [upd_ne ne]; exact e)
  · by_cases c : b = p
    · rw [c, del_same] at e; cases e
    · rw [del_ne c] at e
      exact x.s b o e
  · by_cases c : b = p
    · rw [c, del_same] at e; cases e
    · rw [del_ne c] at e
      rcases x.n b o e with z | z
      · rw [upd_ne c] at z
        exact .inl z
      · exact .inr z

section
variable {X : Cx} {C : Addr} {st : Stmt} {rest : List Stmt} {e : Expr} {te : TE} {we : DT} {pos : Pos} {t u : TS} {w v : DTS}
/-! ### blocks -/
def dNext : DTS := fun ρ k => k.nx ρ
def dSeq (w v : DTS) : DTS := fun ρ k => w ρ { k with nx := fun ρ' => v ρ' k }
theorem dss_nil : DSs X C [] tNext dNext := ⟨pss_nil, fun F0 H0 F H σ ρ k E en h ok => ok.nx F H σ ρ en h⟩
theorem dss_cons (h1 : DS X C st t w) (h2 : DSs X C rest u v) : DSs X C (st :: rest) (tSeq t u) (dSeq w v) :=
  ⟨pss_cons h1.ps h2.ps, fun F0 H0 F H σ ρ k E en h ok => h1.dv F0 H0 F H σ ρ _ { E with nx := u E } en h ⟨fun F' H' σ' ρ' en' h' => h2.dv F0 H0 F' H' σ' ρ' k E en' h' ok, ok.rt, ok.bk, ok.ct, ok.rs⟩⟩
theorem dss_one (h1 : DS X C st t w) : DSs X C [st] t w := ⟨pss_one h1.ps, h1.dv⟩
def dNever : DTS := fun _ _ => False
theorem ds_never : DS X C st tNever dNever := ⟨ps_never, fun F0 H0 F H σ ρ k E en h ok => h.elim⟩
theorem dss_never {sts : List Stmt} : DSs X C sts tNever dNever := ⟨pss_never, fun F0 H0 F H σ ρ k E en h ok => h.elim⟩
/-! ### return, if -/
def dRet (we : DT) : DTS := fun ρ k => we ρ k.rt
theorem ds_ret (he : DE X C e te we) : DS X C (.Return (some e) pos) (tRet te) (dRet we) :=
  ⟨ps_ret he.pe, fun F0 H0 F H σ ρ k E en h ok => he.dv _ _ _ _ _ _ _ _ en h fun d v F' H' x i hk => ok.rt F' H' d v (en.ext.trans x) i hk⟩
/-- return x, the store with it -/
def dRetS (we : DT) : DTS := fun ρ k => we ρ fun d => k.rs ρ d
theorem ds_retS (he : DE X C e te we) : DS X C (.Return (some e) pos) (tRet te) (dRetS we) :=
  ⟨ps_ret he.pe, fun F0 H0 F H σ ρ k E en h ok => he.dv _ _ _ _ _ _ _ _ en h fun d v F' H' x i hk => ok.rs F' H' σ ρ d v (en.grow x) i hk⟩
def dIf (wt : DTT) (w v : DTS) : DTS := fun ρ k => wt ρ fun b => (b = true → w ρ k) ∧ (b = false → v ρ k)
theorem ds_if {c : Expr} {a b : List Stmt} {tc : TT} {wt : DTT} (hc : DP X C c tc wt) (ha : DSs X C a t w) (hb : DSs X C b u v) : DS X C (.If c a b pos) (tIfS tc t u) (dIf wt w v) := by
  refine ⟨ps_if hc.pt ha.ps hb.ps, fun F0 H0 F H σ ρ k E en h ok => ?_⟩
  refine hc.dv _ _ _ _ _ _ _ _ en h fun b F1 H1 x1 h1 => ?_
  cases b with
  | true => exact ha.dv F0 H0 F1 H1 σ ρ k E (en.grow x1) (h1.1 rfl) ok
  | false => exact hb.dv F0 H0 F1 H1 σ ρ k E (en.grow x1) (h1.2 rfl) ok
/-- the same, what the def owns lent to the test -/
def dIfB (wt : DTT) (w v : DTS) : DTS := fun ρ k => (∃ o, ρ.own = some o) ∧ wt ρ.frz fun b => (b = true → w ρ k) ∧ (b = false → v ρ k)
theorem ds_ifB {c : Expr} {a b : List Stmt} {tc : TT} {wt : DTT} (hc : DP X C c tc wt) (ha : DSs X C a t w) (hb : DSs X C b u v) : DS X C (.If c a b pos) (tIfS tc t u) (dIfB wt w v) := by
  refine ⟨ps_if hc.pt ha.ps hb.ps, fun F0 H0 F H σ ρ k E en h ok => ?_⟩
  obtain ⟨⟨⟨i, ds⟩, ho⟩, h⟩ := h
  obtain ⟨p, xs, g1, g2, g3, g4, g5, enz⟩ := env_frz en ho
  refine hc.dv _ _ _ _ _ _ _ _ enz h fun b F1 H1 x1 h1 => ?_
  have en1 := en.grow (ext_del g3 x1)
  cases b with
  | true => exact ha.dv F0 H0 _ H1 σ ρ k E en1 (h1.1 rfl) ok
  | false => exact hb.dv F0 H0 _ H1 σ ρ k E en1 (h1.2 rfl) ok
/-! ### stores to names -/
def dSet (i : Nat) (we : DT) : DTS := fun ρ k => we ρ fun d => k.nx (ρ.put i d)
theorem dv_set {K : PySem.W.Frag} {i : Nat} (he : DV K C te we) : DVS K C (tAsg te (gName i)) (dSet i we) := fun F0 H0 F H σ ρ k E en h ok =>
  he _ _ _ _ _ _ _ _ en h fun d v F' H' x iv hk => ok.nx F' H' _ _ (env_put (en.grow x) i iv) hk
theorem ds_set {i : Nat} {x : Str} {pos' : Pos} (he : DE X C e te we) (hN : X.N.Nodup) (hi : X.N[i]? = some x := by rfl) (hx : Loc X.env.scope x := by first | exact Or.inl rfl | exact Or.inr rfl) (hs : swapsWith e (some (.Name x pos')) pos.line X.env = pure false := by rfl) (hf : X.fn x = true ∨ X.env.scope.names.lookup x = some .local := by first | exact .inl rfl | exact .inr rfl | assumption) :
    DS X C (.Assign [.Name x pos'] e pos) (tAsg te (gName i)) (dSet i we) := ⟨ps_set hN hi hx he.pe hs hf, dv_set he.dv⟩
/-- .. what the def owns lent to the value, which holds no list -/
def dSetB (i : Nat) (we : DT) : DTS := fun ρ k => (∃ j ds, ρ.own = some (j, ds) ∧ j ≠ i) ∧ we ρ.frz fun d => nolst d = true ∧ k.nx (ρ.put i d)
theorem ds_setB {i : Nat} {x : Str} {pos' : Pos} (he : DE X C e te we) (hN : X.N.Nodup) (hi : X.N[i]? = some x := by rfl) (hx : Loc X.env.scope x := by first | exact Or.inl rfl | exact Or.inr rfl) (hs : swapsWith e (some (.Name x pos')) pos.line X.env = pure false := by rfl) (hf : X.fn x = true ∨ X.env.scope.names.lookup x = some .local := by first | exact .inl rfl | exact .inr rfl | assumption) :
    DS X C (.Assign [.Name x pos'] e pos) (tAsg te (gName i)) (dSetB i we) := by
  refine ⟨ps_set hN hi hx he.pe hs hf, fun F0 H0 F H σ ρ k E en h ok => ?_⟩
  obtain ⟨⟨j, ds, ho, hji⟩, h⟩ := h
  obtain ⟨p, xs, g1, g2, g3, g4, g5, enz⟩ := env_frz en ho
  refine he.dv _ _ _ _ _ _ _ _ enz h fun d v F1 H1 x1 i1 h1 => ?_
  have en1 := en.grow (ext_del g3 x1)
  exact ok.nx _ H1 _ _ (env_put en1 i (Is.del (x1.f _ _ upd_same) d v h1.1 i1)) h1.2
/-- y = [..] -/
theorem ds_setLc {i : Nat} {y : Str} {py : Pos} {elt tg iter : Expr} {ifs : List Expr} {scope : Scope} {own : List (Str × Nat)} {j : Nat} {pos spos : Pos} {wi : TI} {tt : TT} {te : TE} {vi : DTI} {wt : DTT} {we : DT} (hc : X.calm = true) (hN : X.N.Nodup) (hy : X.N[i]? = some y) (hyl : X.env.scope.names.lookup y = some .local)
    (hsw : swapsWith (.ListComp elt [⟨tg, iter, ifs, 0⟩] scope pos) (some (.Name y py)) spos.line X.env = pure true) (hi : DI X C tg iter wi vi) (ok : BlkOk X.N X.env.scope scope own) (hj : j ∈ own.map (·.2))
    (hg : ∀ (s : Shared) (H : Hp) (D : Addr) (cl : List (Str × Addr)) (fp : List Addr), PG (X.blk s H scope (compEnvC scope cl D X.env) fp) tg (gName j)) (ht : ∀ (s : Shared) (H : Hp) (D : Addr) (cl : List (Str × Addr)) (fp : List Addr), DTs (X.blk s H scope (compEnvC scope cl D X.env) fp) C ifs tt wt)
    (he : ∀ (s : Shared) (H : Hp) (D : Addr) (cl : List (Str × Addr)) (fp : List Addr), DE (X.blk s H scope (compEnvC scope cl D X.env) fp) C elt te we) (hs : ∀ x, foldedSetIterable iter X.env x = pure x := by intro _; rfl) :
    DS X C (.Assign [.Name y py] (.ListComp elt [⟨tg, iter, ifs, 0⟩] scope pos) spos) (tAsg (tLc wi (gName j) tt te (own.map (·.2))) (gName i)) (dSet i (dLc vi (own.map (·.2)) j wt we)) :=
  ⟨ps_setLc hc hN hy hyl hsw hi.pi ok hg (fun s H D cl fp => (ht s H D cl fp).pts) (fun s H D cl fp => (he s H D cl fp).pe) hs, dv_set (de_lc (pos := pos) hc hN hi ok hj hg ht he hs).dv⟩
/-- a, b, .. = a tuple -/
def gNames : List Nat → TGs
  | [] => gNil
  | j :: js => gCons (gName j) (gNames js)
def DSt.puts (ρ : DSt) : List Nat → List D → DSt
  | j :: js, d :: ds => (ρ.put j d).puts js ds
  | _, _ => ρ
def dUnp (js : List Nat) (we : DT) : DTS := fun ρ k => we ρ fun d => match d with
  | .tup ds => ds.length = js.length ∧ k.nx (ρ.puts js ds)
  | _ => False
theorem dv_names {K : PySem.W.Frag} {F0 H0 F H : Hp} {Q : L2.St → Hp → Prop} : ∀ {js : List Nat} {ds : List D} {xs : List V} {σ : L2.St} {ρ : DSt}, Env K C F0 H0 F H σ ρ → IsL K F ds xs → ds.length = js.length → (∀ σ', Env K C F0 H0 F H σ' (ρ.puts js ds) → Q σ' H) → gNames js xs σ H Q
  | [], [], xs, σ, ρ, en, i, l, q => by cases i; exact ⟨rfl, q σ en⟩
  | [], d :: ds, xs, σ, ρ, en, i, l, q => by simp at l
  | j :: js, [], xs, σ, ρ, en, i, l, q => by simp at l
  | j :: js, d :: ds, xs, σ, ρ, en, i, l, q => by
    obtain ⟨x, r, rfl, i1, i2⟩ := i
    exact ⟨x, r, rfl, dv_names (env_put en j i1) i2 (by simpa using l) q⟩
theorem ds_unp {es : List Expr} {kk : Nat} {p1 : Pos} {js : List Nat} (hc : X.calm = true) (he : DE X C e te we) (hg : PGs X es (gNames js)) (hn : (assignEach es X.env).length = js.length := by rfl) (hst : (assignEach es X.env).findIdx? (·.1) = none := by rfl)
    (hs : swapsWithSole [.Tuple es kk p1] e pos.line X.env = pure false := by rfl) (hw : swappedStores [.Tuple es kk p1] e X.env = pure none := by rfl)
    (h1 : (assignEach [.Tuple es kk p1] X.env).map (·.2) = [assign (.Tuple es kk p1) X.env] := by rfl) : DS X C (.Assign [.Tuple es kk p1] e pos) (tAsg te (gTup X.K js.length (gNames js))) (dUnp js we) := by
  refine ⟨ps_asg he.pe (pg_tup hc hg hn hst) hs hw h1, fun F0 H0 F H σ ρ k E en h ok => ?_⟩
  refine he.dv _ _ _ _ _ _ _ _ en h fun d v F1 H1 x1 i1 h1 => ?_
  split at h1
  · obtain ⟨p, xs, rfl, g1, g2⟩ := i1
    exact ⟨p, xs, rfl, (g1.up x1.s).sq, by rw [← g2.len]; exact h1.1, dv_names (en.grow x1) g2 h1.1 fun σ' en' => ok.nx F1 H1 σ' _ en' h1.2⟩
  · exact h1.elim
/-! ### a list of the def's own -/
def dOwnNew (i : Nat) : DTS := fun ρ k => (ρ.own = none ∧ i < ρ.sl.length) ∧ k.nx ⟨ρ.sl.set i none, some (i, []), ρ.sto⟩
theorem ds_ownNew {i : Nat} {x : Str} {pos' p1 : Pos} (hN : X.N.Nodup) (hi : X.N[i]? = some x := by rfl) (hx : Loc X.env.scope x := by first | exact Or.inl rfl | exact Or.inr rfl) (hs : swapsWith (.List [] p1) (some (.Name x pos')) pos.line X.env = pure false := by rfl) (hf : X.fn x = true ∨ X.env.scope.names.lookup x = some .local := by first | exact .inl rfl | exact .inr rfl | assumption) :
    DS X C (.Assign [.Name x pos'] (.List [] p1) pos) (tAsg (tLst tNil) (gName i)) (dOwnNew i) := by
  refine ⟨ps_set hN hi hx (pe_lst pa_nil) hs hf, fun F0 H0 F H σ ρ k E en h ok => ?_⟩
  obtain ⟨⟨ho, hl⟩, h⟩ := h
  refine ⟨Nat.zero_le _, fun p hp => ?_⟩
  have fp : F p = none := en.sm.free hp
  have hp0 : H0 p = none := en.ext.h.free hp
  refine ok.nx F _ _ _ ⟨⟨en.ext.f, en.ext.h.trans (same_new hp), en.sm.trans (same_new hp), en.ext.n⟩, by rw [List.length_set, List.length_set, en.len], fun n d q => ?_, fun n ds q => ?_, ?_⟩ h
  · have q : (ρ.sl.set i none)[n]? = some (some d) := q
    by_cases c : i = n
    · subst c
      rw [List.getElem?_set_self hl] at q
      cases q
    · rw [List.getElem?_set_ne c] at q ⊢
      exact en.ok n d q
  · have q : some (i, ([] : List D)) = some (n, ds) := q
    cases q
    exact ⟨p, [], List.getElem?_set_self (by rw [← en.len]; exact hl), upd_same, fp, hp0, IsL.nil⟩
  · exact StoO.ext (F := F) (H := H) ⟨Same.refl _, same_new hp, en.sm.trans (same_new hp), fun c o e => .inl e⟩ en.sto
def dApp (i : Nat) (we : DT) : DTS := fun ρ k => ∃ ds, ρ.own = some (i, ds) ∧ we ρ fun d => ds.length < 100000 ∧ k.nx ⟨ρ.sl, some (i, ds ++ [d]), ρ.sto⟩
theorem dv_app {K : PySem.W.Frag} {i : Nat} (he : DV K C te we) : DVS K C (tDrop (tBM K "list" rAppend (tVar i) (tCons te tNil))) (dApp i we) := by
  intro F0 H0 F H σ ρ k E en h ok
  obtain ⟨ds, ho, h⟩ := h
  obtain ⟨p, xs, g1, g2, g3, g4, g5⟩ := en.own i ds ho
  refine ⟨_, g1, .inl ⟨rfl, xs, SqL.of g2⟩, ?_⟩
  refine he _ _ _ _ _ _ _ _ en h fun d v F1 H1 x1 i1 h1 => ?_
  have en1 := en.grow x1
  have h2 := x1.h _ _ g2
  have f2 : F1 p = none := x1.off g2 g3
  have big : (100000 : Nat) < sizeLine := by rw [sizeLine_eq]; decide
  refine ⟨p, xs, v, rfl, rfl, h2, by rw [← g5.len]; omega, ?_⟩
  have su : ∀ {G : Hp}, (∀ c o, G c = some o → c ≠ p) → Same G H1 → Same G (upd H1 p (.lst (xs ++ [v]))) := fun {G} ne s c o e => by
    rw [upd_ne (ne c o e)]
    exact s c o e
  refine ok.nx F1 _ _ ⟨ρ.sl, some (i, ds ++ [d]), ρ.sto⟩ ⟨⟨en1.ext.f, su (fun c o e z => by rw [z, g4] at e; cases e) en1.ext.h, su (fun c o e z => by rw [z, f2] at e; cases e) en1.sm, en1.ext.n⟩, en1.len, en1.ok, fun n es q => ?_, ?_⟩ h1.2
  · have q : some (i, ds ++ [d]) = some (n, es) := q
    cases q
    exact ⟨p, xs ++ [v], g1, upd_same, f2, g4, (IsL.mono x1.f _ _ g5).append (.cons i1 .nil)⟩
  · have hs := en1.sto
    show StoO K C H0 F1 _ ρ.sto
    cases hst : ρ.sto with
    | none => trivial
    | some s =>
      rw [hst] at hs
      obtain ⟨dx, am, as, us, vs, k1, k2, k3, ne, l1, l2, f1, f2', f3, i1', i2, m⟩ := hs
      have nl : ∀ {c : Addr} {o : HO}, H1 c = some o → (∀ ys, o ≠ .lst ys) → upd H1 p (.lst (xs ++ [v])) c = some o := fun {c o} e ne' => by
        have : c ≠ p := fun z => by
          rw [z, h2] at e
          exact ne' _ (Option.some.inj e).symm
        rw [upd_ne this]
        exact e
      exact ⟨dx, am, as, us, vs, nl k1 (fun _ z => by cases z), nl k2 (fun _ z => by cases z), nl k3 (fun _ z => by cases z), ne, l1, l2, f1, f2', f3, i1', i2, m⟩
theorem ds_app {i : Nat} {x : Str} {p1 apos cpos : Pos} (he : DE X C e te we) (hN : X.N[i]? = some x := by rfl) (hv : Vis X.env.scope x := by first | exact Or.inl rfl | exact Or.inr (Or.inl rfl) | exact Or.inr (Or.inr rfl)) (hd : (x == ("__debug__" : Str)) = false := by decide) (hcd : (x == ("__classdict__" : Str)) = false := by decide)
    (hbase : attributeBase (.Name x p1) "append" X.env (eval (.Name x p1) X.env) = eval (.Name x p1) X.env := by rfl)
    (hfew : ((backTo cpos (starEach [e] X.env)).all (fun x => !x.1) && (backToKw cpos (keywordEach [] X.env)).all (fun x => x.1.isSome)
      && decide (([e] : List Expr).length + ([] : List Keyword).length + (if ([] : List Keyword).isEmpty then 0 else 1) < 30)) = true := by rfl)
    (hline : (apos.endLine == cpos.line) = true := by rfl) (hs : starEach [e] X.env = (false, eval e X.env) :: starEach [] X.env := by rfl) (hplain : (backTo cpos (starEach [] X.env)).any (·.1) = false := by rfl)
    (hsw : swapsWith (.Call (.Attribute (.Name x p1) "append" apos) [e] [] cpos) none pos.line X.env = pure false := by rfl) :
    DS X C (.Expr (.Call (.Attribute (.Name x p1) "append" apos) [e] [] cpos) pos) (tDrop (tBM X.K "list" rAppend (tVar i) (tCons te tNil))) (dApp i we) :=
  ⟨ps_expr (pe_bm PySem.F.plainAttrs_list PySem.F.slot_list_append PySem.F.type_list_append mt_append (pe_var hN hv hd hcd) (pa_cons he.pe pa_nil hs) hbase hfew hline hs hplain) hsw, dv_app he.dv⟩
/-- from here on what the def owns is data -/
def dFrz (w : DTS) : DTS := fun ρ k => (∃ o, ρ.own = some o) ∧ w ρ.frz k
theorem dss_frz {sts : List Stmt} (h : DSs X C sts t w) : DSs X C sts t (dFrz w) := ⟨h.ps, fun F0 H0 F H σ ρ k E en hw ok => by
  obtain ⟨⟨⟨i, ds⟩, ho⟩, hw⟩ := hw
  obtain ⟨p, xs, g1, g2, g3, g4, g5, enz⟩ := env_frz en ho
  exact h.dv F0 H0 _ H σ _ k E enz hw ok⟩
/-! ### for -/
theorem ext_back {F0 H0 F1 H1 F' H' : Hp} (e1 : Ext F0 H0 F1 H1) (x : Ext F1 H0 F' H') : Ext F0 H0 F' H' := ⟨e1.f.trans x.f, x.h, x.s, fun b o e => by
  rcases x.n b o e with z | z
  · exact e1.n b o z
  · exact .inr z⟩
theorem env_to {K : PySem.W.Frag} {F0 H0 F H : Hp} {σ : L2.St} {ρ : DSt} (en : Env K C F0 H0 F H σ ρ) : Env K C F H0 F H σ ρ := ⟨⟨Same.refl _, en.ext.h, en.ext.s, fun b o e => .inl e⟩, en.len, en.ok, en.own, en.sto⟩
theorem env_back {K : PySem.W.Frag} {F0 H0 F1 H1 F' H' : Hp} {σ : L2.St} {ρ : DSt} (e1 : Ext F0 H0 F1 H1) (en : Env K C F1 H0 F' H' σ ρ) : Env K C F0 H0 F' H' σ ρ := ⟨ext_back e1 en.ext, en.len, en.ok, en.own, en.sto⟩
def dFor (wi : DTI) (j : Nat) (wb : DTS) : DTS := fun ρ k => wi ρ fun ds => ∃ Inv : Nat → DSt → Prop, Inv 0 ρ ∧ (∀ i d ρ', ds[i]? = some d → Inv i ρ' → wb (ρ'.put j d) { nx := Inv (i + 1), rt := k.rt, bk := k.nx, ct := Inv (i + 1) }) ∧ ∀ ρ', Inv ds.length ρ' → k.nx ρ'
theorem ds_for {tg iter : Expr} {body : List Stmt} {wi : TI} {vi : DTI} {j : Nat} {tb : TS} {wb : DTS} (hp : PassesOwn (model X.prog X.w) X.A X.env X.xe) (hc : X.calm = true) (hi : DI X C tg iter wi vi) (hg : PG X tg (gName j)) (hb : DSs X C body tb wb)
    (hs : ∀ x, foldedSetIterable iter X.env x = pure x := by intro _; rfl) : DS X C (.For tg iter body [] pos) (tFor wi (gName j) tb) (dFor vi j wb) := by
  refine ⟨ps_for hp hc hi.pi hg hb.ps hs, fun F0 H0 F H σ ρ k E en h ok => ?_⟩
  refine hi.dv _ _ _ _ _ _ _ _ en h fun J ds F1 H1 x1 wk ⟨Iv, p0, pt, pe⟩ => ?_
  have en1 := en.grow x1
  refine ⟨fun i m σ' H' => m = ds.length - i ∧ i ≤ ds.length ∧ ∃ F' ρ', Env X.K C F1 H0 F' H' σ' ρ' ∧ Iv i ρ', ⟨ds.length, by simp, Nat.zero_le _, F1, ρ, env_to en1, p0⟩, ?_⟩
  rintro i m σ' H' ⟨rfl, hle, F', ρ', en', hI⟩
  have sF : Same F1 H' := en'.ext.f.trans en'.sm
  by_cases hlt : i < ds.length
  · refine .inr ⟨wk.go i H' sF hlt, fun σ'' H'' => ∃ F'' ρ'', Env X.K C F1 H0 F'' H'' σ'' ρ'' ∧ Iv (i + 1) ρ'', fun σ'' H'' z => ⟨ds.length - (i + 1), by omega, rfl, hlt, z⟩, fun x H'' y => ?_⟩
    obtain ⟨rfl, d, hd, iv⟩ := wk.yld i x H' H'' sF hlt y
    refine hb.dv F1 H0 F' H'' _ (ρ'.put j d) _ _ (env_put en' j (Is.mono en'.ext.f _ _ iv)) (pt i d ρ' hd hI) ⟨fun G I τ ω e1 z => ⟨G, ω, e1, z⟩, fun G I d v x z1 z2 => ok.rt G I d v (ext_back en1.ext x) z1 z2, fun G I τ ω e1 z => ok.nx G I τ ω (env_back en1.ext e1) z, fun G I τ ω e1 z => ⟨G, ω, e1, z⟩, fun _ _ _ _ _ _ _ _ z => z.elim⟩
  · have e : i = ds.length := by omega
    subst e
    exact .inl ⟨wk.stop _ H' sF (Nat.le_refl _), ok.nx F' H' σ' ρ' (env_back en1.ext en') (pe ρ' hI)⟩
end

/-! ### a def's promise by its body -/
def dstart (N : List Str) (so : Option Sto) (ds : List D) : DSt := ⟨ds.map some ++ List.replicate (N.length - ds.length) none, none, so⟩
theorem env_start {K : PySem.W.Frag} {C : Addr} {F H : Hp} {N : List Str} {so : Option Sto} {ds : List D} {vs : List V} (s : Same F H) (hs : StoO K C H F H so) (i : IsL K F ds vs) : Env K C F H F H (L2.start N vs) (dstart N so ds) where
  ext := Ext.refl s
  len := by
    show (ds.map some ++ List.replicate (N.length - ds.length) none).length = _
    unfold L2.start
    rw [List.length_append, List.length_append, List.length_map, List.length_map, List.length_replicate, List.length_replicate, i.len]
  ok := fun n d q => by
    have q : (ds.map some ++ List.replicate (N.length - ds.length) none)[n]? = some (some d) := q
    have hn : n < ds.length := by
      by_cases c : n < ds.length
      · exact c
      · rw [List.getElem?_append_right (by simpa using c), List.getElem?_replicate] at q
        split at q <;> cases q
    rw [List.getElem?_append_left (by simpa using hn), List.getElem?_map] at q
    cases e : ds[n]? with
    | none => rw [e] at q; cases q
    | some d' =>
      rw [e] at q
      cases q
      obtain ⟨x, h1, h2⟩ := i.get e
      refine ⟨x, ?_, h2⟩
      unfold L2.start
      rw [List.getElem?_append_left (by rw [List.length_map, ← i.len]; exact hn), List.getElem?_map, h1]
      rfl
  own := fun n es q => by cases q
  sto := hs
/-- a def of the module as the top has left it -/
structure DefAt (K : PySem.W.Frag) (mg : Str → Option Value) (x : Str) (st : Stmt) : Prop where
  ex : ∃ (f : Addr) (fd : FuncData), Fun K x x st f fd ∧ mg x = some (.ref f)
section
variable {P : Program} {w : World} {K : PySem.W.Frag} {mg : Str → Option Value} {base : Heap} {C : Addr} {x : Str} {st : Stmt} {N ps : List Str} {lvl : Nat} {f : FS}
theorem def_ok (Df : DefAt K mg x st) (S : FnScope N ps (defScope st))
    (hb : ∀ (kV doc pm : Value) (an : Option Addr) (cdv ct : Value) (us : List Value), us.length = ps.length → bindArgs (PySem.W.fnOf x x (defArgs st) (defBody st) (defScope st) .none kV doc pm an cdv ct) ⟨us, []⟩ = pure (ps.zip us))
    (len : ∀ so ds k, f.run so ds k → ds.length = ps.length)
    (body : ∀ (fa : Addr) (cdv : Value) (A : Around) (outer : List PySem.Env) (s : Shared) (H : Hp) (E : XK), Room lvl (A.deeper (PyProof.Rows.envOfC x (defScope st) s.heap.objs.size fa cdv)) →
      ∃ t v, DSs (cxOf CX0 P w K mg base N x (defScope st) fa cdv A outer s H E).nox C (defBody st) t v ∧ ∀ so ds k, f.run so ds k → v (dstart N so ds) { nx := fun _ => k (.a .non), rt := k }) :
    Callee P w K mg base C (lvl + 1) x ps f := by
  obtain ⟨fa, fd, F, hm⟩ := Df.ex
  refine ⟨fa, fd, F.ok S (fun vs H Q E h => ?_) (fun cdv A outer s H vs Q E hr h => ?_), hm, F.kp, F.binds hb⟩
  · obtain ⟨G, so, ds, _, _, i, h⟩ := h
    rw [← i.len]
    exact len _ _ _ h
  · obtain ⟨t, v, hd, hv⟩ := body fa cdv A outer s H E hr
    refine ⟨t, hd.ps, ?_⟩
    obtain ⟨G, so, ds, sm, hs, i, h⟩ := h
    exact hd.dv G H G H _ _ _ _ (env_start sm hs i) (hv so ds _ h) ⟨fun G' H' σ ρ en z => z .non G' H' en.ext rfl, fun G' H' d v x i z => z v G' H' x i, fun _ _ _ _ _ z => z.elim, fun _ _ _ _ _ z => z.elim, fun _ _ _ _ _ _ _ _ z => z.elim⟩
end
end Wh

/-! # The text by places; what the module leaves as it was -/
namespace Wh
open PySem L2
def top (i : Nat) : Stmt := PySem.Challenge.pw_whence_k65_brought.main.body.getD i (.Pass ⟨0, 0, 0, 0⟩)
structure Txt (mg : Str → Option Value) : Prop where
  m_len : mg "len" = none
  m_set : mg "set" = none
  m_tuple : mg "tuple" = none
  m_sorted : mg "sorted" = none
  m_str : mg "str" = none
  m_int : mg "int" = none
  m_isinstance : mg "isinstance" = none
  m_range : mg "range" = none
  m_dict : mg "dict" = none
  m_bool : mg "bool" = none
theorem boot_len : bootBuiltins "len" = some (.builtin "len") := by decide +kernel
theorem boot_set : bootBuiltins "set" = some (.type "set") := by decide +kernel
theorem boot_tuple : bootBuiltins "tuple" = some (.type "tuple") := by decide +kernel
theorem boot_sorted : bootBuiltins "sorted" = some (.builtin "sorted") := by decide +kernel
theorem boot_str : bootBuiltins "str" = some (.type "str") := by decide +kernel
theorem boot_int : bootBuiltins "int" = some (.type "int") := by decide +kernel
theorem boot_isinstance : bootBuiltins "isinstance" = some (.builtin "isinstance") := by decide +kernel
theorem boot_range : bootBuiltins "range" = some (.type "range") := by decide +kernel
theorem boot_dict : bootBuiltins "dict" = some (.type "dict") := by decide +kernel
theorem boot_bool : bootBuiltins "bool" = some (.type "bool") := by decide +kernel

/-! ### small steps of the readings -/
theorem no {b : Bool} {A B : Prop} (h : b = false) (hb : B) : (b = true → A) ∧ (b = false → B) := ⟨fun z => (by rw [h] at z; cases z), fun _ => hb⟩
theorem yes {b : Bool} {A B : Prop} (h : b = true) (ha : A) : (b = true → A) ∧ (b = false → B) := ⟨fun _ => ha, fun z => (by rw [h] at z; cases z)⟩
def tS (xs : List Str) : D := .tup (strsD xs)
def lS (xs : List Str) : D := .lst (strsD xs)
theorem strsD_len (xs : List Str) : (strsD xs).length = xs.length := List.length_map _
theorem strsD_append (xs ys : List Str) : strsD (xs ++ ys) = strsD xs ++ strsD ys := List.map_append
theorem cut_from {α : Type} (xs : List α) {k : Nat} (h : k ≤ xs.length) : cut xs (some (k : Int)) none = xs.drop k := by
  unfold cut
  rw [HT.sIx_nat, HT.sIx_none, Nat.min_eq_left h]
  exact List.take_of_length_le (by rw [List.length_drop]; exact Nat.le_refl _)
theorem cut_upto {α : Type} (xs : List α) {k : Nat} (h : k ≤ xs.length) : cut xs none (some (k : Int)) = xs.take k := by
  unfold cut
  rw [HT.sIx_nat, HT.sIx_none, Nat.min_eq_left h]
  simp
end Wh

/-! # Sets of texts: made from a list or a tuple, their number, whether two are unlike, sorted -/
namespace Wh
open PySem L2 PySem.Spec PyProof.Rows

def keyX (e : Int × Value) : Str := match e.2 with
  | .str k _ => k
  | _ => Str.empty
def GoodX (w : World) (e : Int × Value) : Prop := ∃ k tk, e.2 = Value.str k tk ∧ e.1 = hashStr w k
/-- the payload: these texts, each once, in some order -/
structure PayX (w : World) (es : Array (Int × Value)) (t : SetTable) (ks : List Str) : Prop where
  good : ∀ e ∈ es.toList, GoodX w e
  perm : (es.toList.map keyX).Perm ks
  nd : ks.Nodup
  few : ks.length < 4000
  fit : t.fits es.size = true
  ris : Ris t.place.toList
  led : w.params.followText "set-order" = true ∨ t.led = true
/-- the set of texts at a -/
def SetX (w : World) (h : Heap) (a : Addr) (ks : List Str) : Prop := ∃ o es ep t, h.get? a = some o ∧ o.ExactSet ∧ o.data = .set es ep t ∧ PayX w es t ks
section
variable {P : Program} {w : World} {h h' : Heap} {a : Addr} {ks : List Str} {es es' : Array (Int × Value)} {t t' : SetTable}
theorem SetX.at (R : SetX w h a ks) (k : ∀ o, h.get? a = some o → h'.get? a = some o) : SetX w h' a ks :=
  let ⟨o, es, ep, t, ho, r⟩ := R
  ⟨o, es, ep, t, k o ho, r⟩
theorem PayX.size (p : PayX w es t ks) : es.size = ks.length := by
  have e := p.perm.length_eq
  rw [List.length_map, Array.length_toList] at e
  exact e
theorem PayX.few2 (p : PayX w es t ks) : es.size + 1 < scanBound := by
  have := p.few
  rw [p.size]
  unfold scanBound
  omega
theorem PayX.elems (p : PayX w es t ks) : ElemsOf (strKind P w) es.toList := fun e he => by
  obtain ⟨k, tk, h1, h2⟩ := p.good e he
  exact ⟨⟨k, by rw [h1]; exact strKind_is P w k tk, h2⟩, by rw [h1] <;> rfl⟩
theorem keyX_is {e : Int × Value} (g : GoodX w e) (k : Str) : (strKind P w).is k e.2 = true ↔ keyX e = k := by
  obtain ⟨k0, tk, h1, _⟩ := g
  unfold keyX
  rw [h1]
  show ((k0 == k) = true) ↔ k0 = k
  exact beq_iff_eq
theorem PayX.mem (p : PayX w es t ks) (k : Str) : k ∈ ks ↔ ∃ e ∈ es.toList, (strKind P w).is k e.2 = true := by
  rw [← p.perm.mem_iff, List.mem_map]
  exact ⟨fun ⟨e, he, q⟩ => ⟨e, he, (keyX_is (p.good e he) k).2 q⟩, fun ⟨e, he, q⟩ => ⟨e, he, (keyX_is (p.good e he) k).1 q⟩⟩
theorem SetX.setOf (R : SetX w h a ks) : h.SetOf (strKind P w) a (fun k => decide (k ∈ ks)) ks.length := by
  obtain ⟨o, es, ep, t, ho, hx, hd, p⟩ := R
  exact ⟨o, es, ep, t, ho, hx, hd, p.elems, fun k => by rw [decide_eq_true_eq]; exact p.mem k, (by have := p.few2; omega), p.fit, p.size⟩
/-- the same in another order, the table new -/
theorem PayX.re (p : PayX w es t ks) (pm : es'.toList.Perm es.toList) (f : t'.fits es'.size = true) (r : Ris t'.place.toList) (l : t'.led = t.led) : PayX w es' t' ks :=
  ⟨fun e he => p.good e (pm.mem_iff.mp he), (pm.map keyX).trans p.perm, p.nd, p.few, f, r, p.led.imp id fun z => by rw [l]; exact z⟩
/-- one text more -/
theorem PayX.more (p : PayX w es t ks) {k : Str} {tk : Tok} (hk : k ∉ ks) (room : ks.length + 1 < 4000) (pm : es'.toList.Perm ((hashStr w k, Value.str k tk) :: es.toList)) (f : t'.fits es'.size = true) (r : Ris t'.place.toList) (l : t'.led = t.led) : PayX w es' t' (k :: ks) where
  good := fun e he => by
    rcases List.mem_cons.mp (pm.mem_iff.mp he) with z | z
    · rw [z]; exact ⟨k, tk, rfl, rfl⟩
    · exact p.good e z
  perm := (pm.map keyX).trans (p.perm.cons k)
  nd := List.nodup_cons.mpr ⟨hk, p.nd⟩
  few := room
  fit := f
  ris := r
  led := p.led.imp id fun z => by rw [l]; exact z
end

section
variable {P : Program} {w : World} {A : Around} {E : Value → Shared → Prop} {s : Shared} {a : Addr} {ks : List Str}
/-- what stands behind the laying of one -/
theorem setX_tail {g : Bool → Sem Unit} (hg : ∀ (b : Bool) (s1 : Shared) (Q1 : Unit → Shared → Prop), Q1 () s1 → wpAny (model P w) A (g b) Q1 E s1)
    {o : Obj} {es : Array (Int × Value)} {ep : Nat} {t : SetTable} (ho : s.heap.get? a = some o) (hex : o.ExactSet) (hd : o.data = .set es ep t)
    {es1 : Array (Int × Value)} {t2 : SetTable} (p : PayX w es1 t2 ks) {wd : Bool} {R : Option Bool → Shared → Prop}
    (hR : ∀ h', Heap.SameBut a s.heap h' → SetX w h' a ks → R (some true) { s with heap := h' }) :
    wpAny (model P w) A (storeSet a es1 t2 >>= fun _ =>
        if (!wd && t2.tooFull) = true then g (relayAll t2 es1 (SetTable.grown es1.size)).2.2 >>= fun _ =>
          storeSet a (relayAll t2 es1 (SetTable.grown es1.size)).1 (relayAll t2 es1 (SetTable.grown es1.size)).2.1 >>= fun _ => pure (some true)
        else pure (some true)) R E s := by
  have hb1 : es1.size < scanBound := by have := p.few2; omega
  have ho1 := store_at (es' := es1) (t' := t2) ho hd
  have sb1 := Heap.SameBut.update s.heap a (Obj.putSet es1 t2)
  refine wpAny_bind (wpAny_storeSet_of ho hd ?_ (fits_of_scanBound hb1))
  split
  · have p2 := p.re (relayAll_perm t2 es1 (SetTable.grown es1.size)) (relayAll_fits t2 es1 (SetTable.grown es1.size)) (relayAll_ris t2 es1 (SetTable.grown es1.size)) (relayAll_led t2 es1 (SetTable.grown es1.size))
    generalize relayAll t2 es1 (SetTable.grown es1.size) = Z at p2 ⊢
    obtain ⟨es2, t3, gv⟩ := Z
    have hb2 : es2.size < scanBound := by have := p2.few2; dsimp only at this; omega
    refine wpAny_bind (hg _ _ _ (wpAny_bind (wpAny_storeSet_of ho1 rfl ?_ (fits_of_scanBound hb2))))
    exact wpAny_pure (hR _ (sb1.trans (Heap.SameBut.update _ a _)) ⟨_, es2, _, t3, store_at (es' := es2) (t' := t3) ho1 rfl, hex, rfl, p2⟩)
  · exact wpAny_pure (hR _ sb1 ⟨_, es1, _, t2, ho1, hex, rfl, p⟩)
def withX (ks : List Str) (k : Str) : List Str := if k ∈ ks then ks else k :: ks
theorem setX_add {k : Str} {tk : Tok} {Q : Bool → Shared → Prop} (R : SetX w s.heap a ks) (room : ks.length + 1 < 4000)
    (hQ : ∀ b h', Heap.SameBut a s.heap h' → SetX w h' a (withX ks k) → Q b { s with heap := h' }) :
    wpAny (model P w) A (setAddHashed a (.str k tk) ((strKind P w).hash k)) Q E s := by
  obtain ⟨o, es, ep, t, ho, hex, hd, p⟩ := R
  have hkey : (strKind P w).is k (.str k tk) = true := strKind_is P w k tk
  have hsc : (Value.str k tk).scannable = true := rfl
  have hel : ElemsOf (strKind P w) es.toList := p.elems
  unfold setAddHashed setAddHashedIn
  refine wpAny_holding (wpAny_bind (wpAny_setState_of ho hd p.fit ?_))
  dsimp only
  rw [byScan_of hsc (by have := p.few2; omega) hel]
  simp only [↓reduceIte]
  unfold setAddByScan
  refine wpAny_bind (wpAny_bind (wpAny_rule (wpAny_bind (wpAny_setScan_of hkey ho hd p.fit hel ?_))))
  cases hfi : List.findIdx? (fun e => (strKind P w).is k e.2) es.toList with
  | some j =>
    obtain ⟨hj, pj, _⟩ := List.findIdx?_eq_some_iff_getElem.mp hfi
    have hin : k ∈ ks := (p.mem (P := P) k).2 ⟨es.toList[j], List.getElem_mem hj, pj⟩
    refine wpAny_pure (wpAny_pure (hQ false s.heap (Heap.SameBut.refl a s.heap) ⟨o, es, ep, t, ho, hex, hd, ?_⟩))
    unfold withX
    rw [if_pos hin]
    exact p
  | none =>
    have hno : k ∉ ks := fun z => by
      obtain ⟨e, he, q⟩ := (p.mem (P := P) k).1 z
      have c := List.findIdx?_eq_none_iff.mp hfi e he
      rw [q] at c
      cases c
    have ew : withX ks k = k :: ks := by unfold withX; rw [if_neg hno]
    rw [ew] at hQ
    dsimp only
    have pm : (layNew t es ((strKind P w).hash k) (.str k tk)).1.toList.Perm (((strKind P w).hash k, Value.str k tk) :: es.toList) := by
      have z := layNew_perm t es ((strKind P w).hash k) (.str k tk)
      rw [Array.toList_push] at z
      exact z.trans (List.perm_append_singleton _ _)
    have f1 := layNew_fits t es ((strKind P w).hash k) (.str k tk)
    have r1 := layNew_ris t es ((strKind P w).hash k) (.str k tk) p.ris
    have l1 := layNew_led t es ((strKind P w).hash k) (.str k tk)
    generalize layNew t es ((strKind P w).hash k) (.str k tk) = Z at pm f1 r1 l1 ⊢
    obtain ⟨es1, t1, wd, gv⟩ := Z
    dsimp only at pm f1 r1 l1 ⊢
    have p1 : PayX w es1 t1 (k :: ks) := p.more (tk := tk) hno room pm f1 r1 l1
    have p2 : PayX w es1 { t1 with plain := false } (k :: ks) := p.more (tk := tk) hno room pm (SetTable.fits_plain_off f1) r1 l1
    have gw : ∀ (b : Bool) (s1 : Shared) (Q1 : Unit → Shared → Prop), Q1 () s1 → wpAny (model P w) A (match b with | true => rule "set.scan.the-table-gave-way" | false => pure ()) Q1 E s1 :=
      fun b s1 Q1 q => by cases b <;> first | exact wpAny_pure q | exact wpAny_rule q
    refine wpAny_bind (gw _ _ _ ?_)
    split
    · refine wpAny_bind ?_
      rw [hashByValue_scannable 8 hsc]
      refine wpAny_pure ?_
      refine setX_tail (ks := k :: ks) (fun b s1 Q1 q => by cases b <;> first | exact wpAny_pure q | exact wpAny_rule q) ho hex hd ?_ ?_
      · first | (split <;> first | exact p1 | exact p2) | exact p1 | exact p2
      · intro h' sb r; dsimp only; exact wpAny_pure (hQ true h' sb r)
    · refine wpAny_bind (wpAny_pure ?_)
      simp only [↓reduceIte]
      refine setX_tail (ks := k :: ks) (fun b s1 Q1 q => by cases b <;> first | exact wpAny_pure q | exact wpAny_rule q) ho hex hd p1 ?_
      intro h' sb r; dsimp only; exact wpAny_pure (hQ true h' sb r)
end
/-- the texts of the first i items -/
def gotX (xs : List Str) (i : Nat) : List Str := (xs.take i).foldl withX []
theorem gotX_zero (xs : List Str) : gotX xs 0 = [] := rfl
theorem gotX_succ {xs : List Str} {i : Nat} {x : Str} (h : xs[i]? = some x) : gotX xs (i + 1) = withX (gotX xs i) x := by
  unfold gotX
  rw [List.take_add_one, h, Option.toList_some, List.foldl_append]
  rfl
theorem withX_len (ks : List Str) (k : Str) : (withX ks k).length ≤ ks.length + 1 := by
  unfold withX
  split
  · omega
  · exact Nat.le_refl _
theorem foldX_len : ∀ (xs acc : List Str), (xs.foldl withX acc).length ≤ acc.length + xs.length
  | [], acc => Nat.le_refl _
  | x :: r, acc => by
    have h1 := foldX_len r (withX acc x)
    have h2 := withX_len acc x
    rw [List.foldl_cons, List.length_cons]
    omega
theorem gotX_len (xs : List Str) (i : Nat) : (gotX xs i).length ≤ xs.length := by
  have := foldX_len (xs.take i) []
  rw [List.length_take] at this
  unfold gotX
  simp only [List.length_nil] at this
  omega
theorem withX_mem (ks : List Str) (k x : Str) : x ∈ withX ks k ↔ x ∈ ks ∨ x = k := by
  unfold withX
  split
  · rename_i c
    exact ⟨.inl, fun z => z.elim id fun e => e ▸ c⟩
  · rw [List.mem_cons]
    exact Or.comm
theorem foldX_mem (x : Str) : ∀ (xs acc : List Str), x ∈ xs.foldl withX acc ↔ x ∈ acc ∨ x ∈ xs
  | [], acc => by simp
  | y :: r, acc => by
    rw [List.foldl_cons, foldX_mem x r, withX_mem, List.mem_cons, or_assoc]
theorem foldX_nodup : ∀ (xs acc : List Str), acc.Nodup → (xs.foldl withX acc).Nodup
  | [], acc, h => h
  | y :: r, acc, h => by
    rw [List.foldl_cons]
    refine foldX_nodup r _ ?_
    unfold withX
    split
    · exact h
    · rename_i c
      exact List.nodup_cons.mpr ⟨c, h⟩
theorem foldX_keep : ∀ (xs acc : List Str), xs.Nodup → (∀ x ∈ xs, x ∉ acc) → (xs.foldl withX acc).length = acc.length + xs.length
  | [], acc, _, _ => rfl
  | y :: r, acc, h, d => by
    obtain ⟨h1, h2⟩ := List.nodup_cons.mp h
    have c : y ∉ acc := d y List.mem_cons_self
    have e : withX acc y = y :: acc := by unfold withX; rw [if_neg c]
    rw [List.foldl_cons, e, foldX_keep r _ h2 fun x hx z => ?_, List.length_cons, List.length_cons]
    · omega
    · rcases List.mem_cons.mp z with q | q
      · rw [q] at hx; exact h1 hx
      · exact d x (List.mem_cons_of_mem _ hx) q
/-- the set of xs -/
def asX (xs : List Str) : List Str := xs.foldl withX []
theorem gotX_all (xs : List Str) : gotX xs xs.length = asX xs := by unfold gotX asX; rw [List.take_length]
theorem asX_mem (xs : List Str) (x : Str) : x ∈ asX xs ↔ x ∈ xs := by unfold asX; rw [foldX_mem]; simp
theorem asX_nodup (xs : List Str) : (asX xs).Nodup := foldX_nodup xs [] List.nodup_nil
theorem asX_len {xs : List Str} (h : xs.Nodup) : (asX xs).length = xs.length := by unfold asX; rw [foldX_keep xs [] h (fun _ _ z => nomatch z)]; simp
theorem asX_le (xs : List Str) : (asX xs).length ≤ xs.length := by rw [← gotX_all]; exact gotX_len xs _

/-! ### set(xs) -/
section
variable {P : Program} {w : World} {A : Around} {R : Result → Shared → Prop}
theorem updX_loop {I : Addr} {fp wr : List Addr} {G : Array GenState → Array GenState → Prop} {n : Nat} {Pv : Nat → Value → Prop} {St : Nat → Shared → Prop}
    (W : WalksS P w A.in1 I fp wr G n Pv St) (S : Addr) (hSf : S ∉ fp) (xs : List Str) (hn : n = xs.length) (hfew : xs.length < 3000) (hval : ∀ i v, Pv i v → ∃ x t, xs[i]? = some x ∧ v = .str x t) :
    ∀ (k i : Nat) (s : Shared), n - i = k → i ≤ n → St i s → SetX w s.heap S (gotX xs i) →
      (∀ s', Moved (S :: wr) G s s' → SetX w s'.heap S (gotX xs n) → R (.ok (.ret .none)) s') →
      codeAny (model P w) A (.builtin "set.update.loop" ⟨[.ref S, .ref I], []⟩) R s := by
  have hSw : S ∉ wr := fun z => hSf (W.sub _ z)
  have up : ∀ b ∈ wr, b ∈ S :: wr := fun b hb => List.mem_cons_of_mem _ hb
  intro k
  induction k with
  | zero =>
    intro i s hk hi hst hS hR
    obtain rfl : i = n := by omega
    refine codeAny_builtin F.entry_set_update_loop ?_
    rw [Around.under_plainId F.plain_set_update_loop _]
    show wpAny _ A.in1 (pyNext (.ref I) >>= _) _ _ s
    refine wpAny_bind (W.done s _ _ hst fun s1 hm => ?_)
    exact wpAny_pure (hR s1 (hm.mono up) (hS.at fun o e => hm.heap S o hSw e))
  | succ k ih =>
    intro i s hk hi hst hS hR
    have hlt : i < n := by omega
    refine codeAny_builtin F.entry_set_update_loop ?_
    rw [Around.under_plainId F.plain_set_update_loop _]
    show wpAny _ A.in1 (pyNext (.ref I) >>= _) _ _ s
    refine wpAny_bind (W.item i s _ _ hlt hst fun v s1 hP st1 hm => ?_)
    obtain ⟨x, t, hx, rfl⟩ := hval i v hP
    have S1 : SetX w s1.heap S (gotX xs i) := hS.at fun o e => hm.heap S o hSw e
    show wpAny _ A.in1 (holding [Value.str x t] (setAdd S (.str x t)) >>= _) _ _ s1
    refine wpAny_bind (wpAny_holding ?_)
    unfold setAdd
    refine wpAny_holding (wpAny_bind ((strKind P w).pyHash (k := x) (strKind_is _ _ _ _) ?_))
    refine setX_add (s := { s1 with toks := s1.toks + 1 }) S1 (by have := gotX_len xs i; omega) fun b h' sb S2 => ?_
    rw [← gotX_succ hx] at S2
    refine wpAny_pure ⟨plainId_quiet F.plain_set_update_loop _, ih (i + 1) _ (by omega) hlt (W.frame _ s1 _ _ st1 (Nat.le_succ _) fun b hb o e => ?_) S2 fun s2 hm2 S3 => ?_⟩
    · rw [sb.2 b (fun z : b = S => hSf (by rw [← z]; exact hb))]; exact e
    · refine hR s2 (Moved.trans W.gtrans ((hm.mono up).then_heap (Nat.le_succ _) fun b o hb e => ?_) hm2) S3
      rw [sb.2 b (fun z : b = S => hb (by rw [z]; exact List.mem_cons_self))]; exact e
end
section
variable {P : Program} {w : World} {A : Around} {E : Value → Shared → Prop} {s : Shared}
/-- the empty set as the model lays it -/
abbrev emptyX (w : World) : Obj := { cls := .type "set", dict := none, data := .set #[] 0 (.fresh 0 0 (!w.params.followText "set-order")) }
theorem setX_fresh {h : Heap} {a : Addr} (ho : h.get? a = some (emptyX w)) : SetX w h a [] :=
  ⟨_, #[], 0, _, ho, ⟨rfl, rfl, rfl⟩, rfl, fun e he => by simp at he, List.Perm.nil, List.nodup_nil, by decide, rfl, List.Pairwise.nil, by
    show _ ∨ (!w.params.followText "set-order") = true
    cases w.params.followText "set-order"
    · exact .inr rfl
    · exact .inl rfl⟩
theorem strs_at2 {us : List Value} {xs : List Str} (r : Vals (xs.map V.str) us) {i : Nat} {v : Value} (h : us[i]? = some v) : ∃ x t, xs[i]? = some x ∧ v = Value.str x t := by
  induction xs generalizing us i with
  | nil => cases r; simp at h
  | cons y ys ih =>
    cases r with
    | cons ry rt =>
      obtain ⟨t, rfl⟩ := ry
      cases i with
      | zero => simp at h; exact ⟨y, t, rfl, h.symm⟩
      | succ i => exact ih rt (by simpa using h)
set_option maxHeartbeats 8000000 in
theorem call_setX {T : String} (hT : T = "list" ∨ T = "tuple") {l : Addr} {items : Array Value} {xs : List Str} {Q : Value → Shared → Prop} (hh : A.handled = none)
    (hl : ∃ o, s.heap.get? l = some o ∧ o.cls = .type T ∧ ∃ n, o.data = .seq items n) (r : Vals (xs.map V.str) items.toList) (hfew : xs.length < 3000)
    (h : ∀ (h' : Heap) (tk : Nat), SetX w h' s.heap.objs.size (asX xs) → (∀ b o, s.heap.get? b = some o → h'.get? b = some o) → Q (.ref s.heap.objs.size) { s with heap := h', toks := tk }) :
    wpAny (model P w) A (call (.type "set") [.ref l]) Q E s := by
  obtain ⟨c, tl, hmro⟩ := F.called_set.mro
  have hmade := F.called_set.made
  have hsub := F.called_set.sub
  refine wpAny_call (codeAny_of_tree ?_)
  show wpAny _ _ (callAny (.type "set") _) _ _ _
  refine wpAny_pure ⟨Code.quiet_builtin _ (by decide +kernel), codeAny_builtin F.entry_type_call ?_⟩
  rw [Around.under_plain (weight_type_call_type "set" [.ref l] []) rfl]
  have h1 := F.called_set.notType
  have h2 := F.called_set.canCreate
  have hct := F.typeCall_set_1 (.ref l)
  repeat (any_goals (first | assumption | wp_step))
  refine codeAny_mono (code_set_led1 (.ref l) (E := E) (Q₁ := fun obj s1 => obj = .ref s.heap.objs.size ∧ s1 = { s with heap := s.heap.push (emptyX w) }) ⟨rfl, rfl⟩) fun r0 s1 hr => ?_
  cases r0 with
  | error e => exact hr
  | ok fl =>
    cases fl with
    | ret obj =>
      obtain ⟨rfl, rfl⟩ := hr
      have hS : (s.heap.push (emptyX w)).get? s.heap.objs.size = some (emptyX w) := Heap.get?_push_size _ rfl
      have tS : Shared.TypeIs { s with heap := s.heap.push (emptyX w) } (.ref s.heap.objs.size) "set" := ⟨_, hS, rfl⟩
      have hli := F.called_set.init.lookup
      have hbi := F.called_set.init.bind (.ref s.heap.objs.size)
      repeat (any_goals (first | assumption | wp_step))
      refine codeAny_mono (codeAny_call_builtin (R := wants (fun r2 s2 => r2 = .none ∧ ∃ h' tk, s2 = { s with heap := h', toks := tk } ∧ SetX w h' s.heap.objs.size (asX xs) ∧
          (∀ b o, s.heap.get? b = some o → h'.get? b = some o)) E) F.called_set.init.plain F.entry_set_init (check_set_init_1 tS ?_)) fun r2 s2 hr2 => ?_
      · obtain ⟨ol, hol, hcl, nl, hdl⟩ := hl
        obtain ⟨ocls, odict, odata, oslots⟩ := ol
        simp only at hcl hdl
        subst hcl; subst hdl
        have hlS : l < s.heap.objs.size := Heap.lt_size hol
        have hh3 : A.in1.in1.in1.handled = none := by simp [hh]
        have hz1 : (s.heap.push (emptyX w)).objs.size = s.heap.objs.size + 1 := Heap.size_push ..
        have hneI : l ≠ (s.heap.push (emptyX w)).objs.size := by rw [hz1]; exact Nat.ne_of_lt (Nat.lt_succ_of_lt hlS)
        have hSf : s.heap.objs.size ∉ [(s.heap.push (emptyX w)).objs.size, l] := by
          rw [hz1]
          intro z
          rcases List.mem_cons.mp z with z | z
          · omega
          · exact absurd (List.mem_singleton.mp z) (Nat.ne_of_gt hlS)
        have hsz : items.size = xs.length := by
          have e := r.length
          rw [List.length_map, Array.length_toList] at e
          exact e.symm
        have hval : ∀ (i : Nat) (v : Value), items[i]? = some v → ∃ x t, xs[i]? = some x ∧ v = .str x t := fun i v hv => strs_at2 r (by rw [Array.getElem?_toList]; exact hv)
        rcases hT with rfl | rfl
        · have hol2 : (s.heap.push (emptyX w)).get? l = some { cls := .type "list", dict := odict, data := .seq items nl, slots := oslots } := Heap.get?_push_of_some _ hol
          have f1 := F.sub_list_set
          have f2 := F.sub_list_frozenset
          have hne : (Value.type "list" == Value.type "dict") = false := by decide
          have hl1 : (s.heap.push (emptyX w)).IsList l items := ⟨_, hol2, rfl, nl, rfl⟩
          unfold Builtin.«set.__init__» noKeywords Builtin.Frozenset.updateFrom
          generalize hPI : pyIter = PI
          wp_walk
          subst hPI
          refine wpAny_pyIter_list hl1 (wpAny_bind (wpAny_runValue ?_))
          refine updX_loop ((Walks.list hh3 _ l hneI items).toS) s.heap.objs.size hSf xs hsz hfew hval (items.size - 0) 0 _ (by omega) (Nat.zero_le _) ⟨⟨_, Heap.get?_push_size _ rfl, rfl, rfl⟩, (hl1.push _)⟩ (setX_fresh (Heap.get?_push_of_some _ hS)) ?_
          intro s' hm S'
          obtain ⟨h', g2, d', tk', os'⟩ := s'
          obtain rfl : g2 = s.gens := hm.gens
          obtain rfl : d' = s.drawn := hm.drawn
          obtain rfl : os' = s.os := hm.os
          rw [hsz, gotX_all] at S'
          refine wpAny_pure (wpAny_pure ⟨rfl, h', tk', rfl, S', fun b o e => ?_⟩)
          have hb := Heap.lt_size e
          exact hm.heap b o (fun z => by
            rcases List.mem_cons.mp z with z | z
            · rw [z] at hb; exact Nat.lt_irrefl _ hb
            · have z := List.mem_singleton.mp z
              rw [z, hz1] at hb
              exact Nat.not_lt_of_le (Nat.le_succ _) hb) (Heap.get?_push_of_some _ (Heap.get?_push_of_some _ e))
        · have hol2 : (s.heap.push (emptyX w)).get? l = some { cls := .type "tuple", dict := odict, data := .seq items nl, slots := oslots } := Heap.get?_push_of_some _ hol
          have f1 := F.sub_tuple_set
          have f2 := F.sub_tuple_frozenset
          have hne : (Value.type "tuple" == Value.type "dict") = false := by decide
          have hl1 : (s.heap.push (emptyX w)).IsTuple l items := ⟨_, hol2, rfl, nl, rfl⟩
          unfold Builtin.«set.__init__» noKeywords Builtin.Frozenset.updateFrom
          generalize hPI : pyIter = PI
          wp_walk
          subst hPI
          refine wpAny_pyIter_tuple hl1 (wpAny_bind (wpAny_runValue ?_))
          refine updX_loop ((Walks.tuple hh3 _ l hneI items).toS) s.heap.objs.size hSf xs hsz hfew hval (items.size - 0) 0 _ (by omega) (Nat.zero_le _) ⟨⟨_, Heap.get?_push_size _ rfl, rfl, rfl⟩, (hl1.push _)⟩ (setX_fresh (Heap.get?_push_of_some _ hS)) ?_
          intro s' hm S'
          obtain ⟨h', g2, d', tk', os'⟩ := s'
          obtain rfl : g2 = s.gens := hm.gens
          obtain rfl : d' = s.drawn := hm.drawn
          obtain rfl : os' = s.os := hm.os
          rw [hsz, gotX_all] at S'
          refine wpAny_pure (wpAny_pure ⟨rfl, h', tk', rfl, S', fun b o e => ?_⟩)
          have hb := Heap.lt_size e
          exact hm.heap b o (fun z => by
            rcases List.mem_cons.mp z with z | z
            · rw [z] at hb; exact Nat.lt_irrefl _ hb
            · have z := List.mem_singleton.mp z
              rw [z, hz1] at hb
              exact Nat.not_lt_of_le (Nat.le_succ _) hb) (Heap.get?_push_of_some _ (Heap.get?_push_of_some _ e))
      · cases r2 with
        | error e => exact hr2
        | ok fl2 =>
          cases fl2 with
          | ret r3 =>
            obtain ⟨rfl, h', tk, rfl, S', k'⟩ := hr2
            repeat (any_goals (first | assumption | wp_step))
            exact h _ _ S' k'
          | _ => exact hr2.elim
    | _ => exact hr.elim
end
end Wh

/-! # Sets of texts: !=, sorted; sorted of a tuple of texts -/
namespace Wh
open PySem L2 PySem.Spec PyProof.Rows
theorem sub_set_froz : isSubtype (.type "set") (.type "frozenset") = pure false := by rw [isSubtype_type]; kernel_rfl
theorem entry_set_ne : entryFor table "set.__ne__" = some Builtin.«frozenset.__ne__» := entryFor_alias (id' := "frozenset.__ne__") (by kernel_rfl) rfl (by decide +kernel) (by kernel_rfl)
section
variable {P : Program} {w : World} {A : Around} {E : Value → Shared → Prop} {s : Shared} {a b : Addr} {ks : List Str}
theorem SetX.typ (R : SetX w s.heap a ks) : s.TypeIs (.ref a) "set" := let ⟨o, _, _, _, ho, hx, _⟩ := R; ⟨o, ho, hx.1⟩
theorem quiet_x {e : Int × Value} (g : GoodX w e) {Q : Bool → Shared → Prop} (h : Q true s) : wpAny (model P w) A (Builtin.Frozenset.quietEq e.2) Q E s := by
  obtain ⟨k, tk, h1, _⟩ := g
  rw [h1]
  exact wpAny_pure h
theorem size_x {o : Obj} {es : Array (Int × Value)} {ep : Nat} {t : SetTable} (ho : s.heap.get? a = some o) (hd : o.data = .set es ep t) (hf : t.fits es.size = true) {Q : Nat → Shared → Prop} (h : Q es.size s) : wpAny (model P w) A (Builtin.Frozenset.sizeOf a) Q E s := by
  unfold Builtin.Frozenset.sizeOf
  exact wpAny_bind (wpAny_setEntries_of ho hd hf (wpAny_pure h))
/-- the members of one are members of the other -/
theorem subset_x {js : List Str} (R : SetX w s.heap a ks) (S : SetX w s.heap b js) (hs : ∀ k ∈ ks, k ∈ js) (hl : ks.length ≤ js.length) {nm : String} {Q : Bool → Shared → Prop} (h : Q true s) : wpAny (model P w) A (Builtin.Frozenset.subsetOf nm a b) Q E s := by
  obtain ⟨o, es, ep, t, ho, hx, hd, p⟩ := R
  obtain ⟨o2, es2, ep2, t2, ho2, hx2, hd2, p2⟩ := id S
  have hz : ¬ es.size > es2.size := by rw [p.size, p2.size]; omega
  unfold Builtin.Frozenset.subsetOf
  refine wpAny_bind (size_x ho hd p.fit (wpAny_bind (size_x ho2 hd2 p2.fit ?_)))
  rw [if_neg hz]
  refine wpAny_bind (wpAny_setEpoch_of ho hd p.fit ?_)
  unfold Builtin.Frozenset.walkUnseen
  refine wpAny_bind (wpAny_bind (wpAny_setEntries_of ho hd p.fit (wpAny_bind (wpAny_setEntries_of ho2 hd2 p2.fit (wpAny_bind ?_)))))
  refine wpAny_forIn_list _ (fun rest q s' => s' = s ∧ q = (none, ()) ∧ ∀ e ∈ rest, GoodX w e) _ ?_ ?_ _ _ ⟨rfl, rfl, fun e he => ?_⟩
  · rintro x rest q s' ⟨rfl, rfl, hg⟩
    refine wpAny_bind (quiet_x (hg x List.mem_cons_self) ?_)
    rw [if_neg (by decide)]
    exact wpAny_pure ⟨rfl, rfl, fun e he => hg e (List.mem_cons_of_mem _ he)⟩
  · rintro q s' ⟨rfl, rfl, _⟩
    refine wpAny_pure (wpAny_bind ?_)
    refine wpAny_forIn_list _ (fun rest q s2 => s2 = s' ∧ q = (none, ()) ∧ ∀ e ∈ rest, e ∈ es.toList) _ ?_ ?_ _ _ ⟨rfl, rfl, fun e he => he⟩
    · rintro x rest q s2 ⟨rfl, rfl, hg⟩
      have hx := hg x List.mem_cons_self
      obtain ⟨k, tk, h1, h2⟩ := p.good x hx
      have hk : k ∈ js := hs k ((p.mem (P := P) k).2 ⟨x, hx, by rw [h1]; exact strKind_is P w k tk⟩)
      obtain ⟨hash, v⟩ := x
      dsimp only at h1 h2 ⊢
      subst h1 h2
      refine wpAny_bind (wpAny_holding (wpAny_setFind_of (knd := strKind P w) (k := k) (strKind_is P w k tk) rfl S.setOf fun r hr => ?_))
      have hr' : r.isNone = false := by
        have : r.isSome = true := by rw [hr]; exact decide_eq_true hk
        cases r <;> first | rfl | cases this
      rw [hr', if_neg (by decide)]
      unfold Builtin.Frozenset.unchanged
      refine wpAny_bind (wpAny_bind (wpAny_setEpoch_of ho hd p.fit ?_))
      rw [if_neg (by simp)]
      exact wpAny_pure (wpAny_pure ⟨rfl, rfl, fun e he => hg e (List.mem_cons_of_mem _ he)⟩)
    · rintro q s2 ⟨rfl, rfl, _⟩
      exact wpAny_pure h
  · rcases List.mem_append.mp he with z | z
    · exact p.good e z
    · exact p2.good e z
/-- the items of a tuple, gathered -/
theorem collect_t {o : Obj} {items : Array Value} {n : Nat} {Q : List Value → Shared → Prop} (ho : s.heap.get? a = some o) (hc : o.cls = .type "tuple") (hd : o.data = .seq items n) (hsz : items.size ≤ sizeLine)
    (h : ∀ h', (∀ b o', s.heap.get? b = some o' → h'.get? b = some o') → s.heap.objs.size ≤ h'.objs.size → Q items.toList { s with heap := h' }) : wpAny (model P w) A (collect (.ref a)) Q E s := by
  unfold collect
  refine wpAny_bind (wpAny_runValue (codeAny_builtin F.entry_proto_collect ?_))
  rw [Around.under_plainId F.plain_proto_collect _]
  show wpAny _ A.in1 (newList [] >>= fun l => again (.builtin "list.__iadd__" ⟨[l, .ref a], []⟩)) _ _ s
  refine wpAny_bind (wpAny_newObj_type (wpAny_pure ⟨plainId_quiet F.plain_list_iadd _, codeAny_builtin F.entry_list_iadd ?_⟩))
  rw [Around.under_plainId F.plain_list_iadd _]
  have n1 : (s.heap.push (seqObj "list" #[] 0)).get? s.heap.objs.size = some (seqObj "list" #[] 0) := Heap.get?_push_size _ rfl
  have n2 := Heap.get?_update_self (Obj.mapSeq (· ++ items)) n1 rfl
  have last : Q items.toList { s with heap := (s.heap.push (seqObj "list" #[] 0)).update s.heap.objs.size (Obj.mapSeq (· ++ items)) } :=
    h _ (fun b o' e => (Heap.get?_update_other _ _ (Nat.ne_of_gt (Heap.lt_size e))).trans (Heap.get?_push_of_some _ e)) (by rw [Heap.size_update, size_push']; exact Nat.le_succ _)
  have back : wpAny (model P w) A (match Value.ref s.heap.objs.size with
      | Value.ref c => do
        match (← load c).data with
          | Data.seq xs _ => pure xs.toList
          | _ => unsupported "internal:collect"
      | _ => unsupported "internal:collect") Q E { s with heap := (s.heap.push (seqObj "list" #[] 0)).update s.heap.objs.size (Obj.mapSeq (· ++ items)) } := by
    show wpAny _ A (load s.heap.objs.size >>= _) _ _ _
    refine wpAny_bind (wpAny_load n2 (wpAny_pure ?_))
    show Q ((#[] : Array Value) ++ items).toList _
    have e : ((#[] : Array Value) ++ items).toList = items.toList := by simp
    rw [e]
    exact last
  refine wpAny_mono (wpAny_extend_seq (hsz := hsz) (A := A) (R := fun r s' => r = .ok (.ret (.ref s.heap.objs.size)) ∧ s' = { s with heap := (s.heap.push (seqObj "list" #[] 0)).update s.heap.objs.size (Obj.mapSeq (· ++ items)) })
    (s := { s with heap := s.heap.push (seqObj "list" #[] 0) }) s.heap.objs.size a _ 0 (.inr rfl) n1 (Heap.get?_push_of_some _ ho) hc hd ⟨rfl, rfl⟩) (fun f s' hf => ?_) (fun e s' hf => absurd hf.1 (by simp))
  cases f with
  | done f =>
    obtain ⟨e, rfl⟩ := hf
    cases e
    exact back
  | again c => exact ⟨hf.1, codeAny_mono hf.2 fun r s2 hr => by obtain ⟨rfl, rfl⟩ := hr; exact back⟩
theorem any_x (R : SetX w s.heap a ks) {Q : Bool → Shared → Prop} (h : Q true s) : wpAny (model P w) A (Builtin.Frozenset.isAnySet (.ref a)) Q E s := by
  unfold Builtin.Frozenset.isAnySet orM
  exact wpAny_bind (wpAny_isInstance R.typ sub_set_self (wpAny_pure h))
/-- a != b, the members the same -/
theorem ne_x {js : List Str} (R : SetX w s.heap a ks) (S : SetX w s.heap b js) (hs : ∀ k, k ∈ ks ↔ k ∈ js) (hu : A.units < cLine) {Q : Value → Shared → Prop} (h : Q (.bool false) s) : wpAny (model P w) A (compareOp .NotEq (.ref a) (.ref b)) Q E s := by
  have pm : ks.Perm js := by
    obtain ⟨_, _, _, _, _, _, _, p⟩ := id R
    obtain ⟨_, _, _, _, _, _, _, p2⟩ := id S
    exact (List.perm_ext_iff_of_nodup p.nd p2.nd).mpr hs
  obtain ⟨o, es, ep, t, ho, hx, hd, p⟩ := id R
  obtain ⟨o2, es2, ep2, t2, ho2, hx2, hd2, p2⟩ := id S
  have hz : ¬ (es.size != es2.size) = true := by rw [p.size, p2.size, pm.length_eq]; simp
  show wpAny _ _ (richCompare .NotEq (.ref a) (.ref b)) _ _ s
  refine wpAny_richCompare_same_room (op := .NotEq) R.typ S.typ F.slot_set_ne (wpAny_call_entry F.slot_set_ne R.typ entry_set_ne ?_ (F.args_set_ne_2 _ _)) hu
  show wpAny _ _ (Builtin.Frozenset.slot1 "__ne__" ⟨[.ref a, .ref b], []⟩ >>= _) _ _ s
  refine wpAny_bind (wpAny_pure ?_)
  refine wpAny_bind (any_x S ?_)
  rw [if_neg (by decide)]
  refine wpAny_bind (wpAny_pure (wpAny_bind (wpAny_pure (wpAny_bind (size_x ho hd p.fit (wpAny_bind (size_x ho2 hd2 p2.fit ?_)))))))
  refine wpAny_bind ?_
  rw [if_neg hz]
  unfold andM
  refine wpAny_bind (wpAny_bind (wpAny_isInstance R.typ sub_set_froz (wpAny_pure ?_)))
  rw [if_neg (by decide)]
  refine subset_x R S (fun k hk => (hs k).1 hk) (Nat.le_of_eq pm.length_eq) ?_
  exact wpAny_pure ⟨_, rfl, (fun x => nomatch x), h⟩
/-- sorted(x): x gives these texts in some order -/
theorem sorted_x {Q : Value → Shared → Prop} (h64 : ks.length < 64)
    (hc : ∀ (E1 : Value → Shared → Prop) (Q1 : List Value → Shared → Prop), (∀ s1 vs ss, (∀ c o, s.heap.get? c = some o → s1.heap.get? c = some o) → s.heap.objs.size ≤ s1.heap.objs.size → s1.gens = s.gens → s1.os = s.os → StrsAre vs ss → ss.Perm ks → Q1 vs s1) → wpAny (model P w) A.in1 (collect (.ref a)) Q1 E1 s)
    (hQ : ∀ s1 p (out : Array Value) (c : Nat) (ss : List Str), (∀ b o, s.heap.get? b = some o → s1.heap.get? b = some o) → s1.gens = s.gens → s1.os = s.os → s.heap.objs.size ≤ p →
      s1.heap.get? p = some (seqObj "list" out c) → StrsAre out.toList ss → ss.Perm ks → sortedS ss = true → Q (.ref p) s1) :
    wpAny (model P w) A (call (.builtin "sorted") [.ref a]) Q E s := by
  refine Calls.call_function_entry kind_sorted plain_sorted entry_sorted (args_sorted1 _) ?_
  unfold Builtin.«sorted»
  refine wpAny_bind (m := checkCount "sorted" 1 1 _) (wpAny_pure (wpAny_bind (hc _ _ fun s1 vs ss k1 hz g1 o1 hS pm => ?_)))
  have hvl : vs.length < 64 := by
    have e := pm.length_eq
    rw [← StrsAre.len_eq hS] at e
    omega
  refine wpAny_bind (wpAny_newList ?_ (by rw [sizeLine_eq]; omega))
  have hoL : (s1.heap.push (seqObj "list" vs.toArray 0)).get? s1.heap.objs.size = some (seqObj "list" vs.toArray 0) := Heap.get?_push_size _ rfl
  refine wpAny_bind (wpAny_holding (wpAny_call_entry slot_list_sort ⟨_, hoL, rfl⟩ entry_list_sort (list_sort_treeK strKind_oneLt hoL hS.keysOf (fun v1 v2 rest e => keyKind_strs (by rw [← e]; exact hS)) hvl fun st' hp hs => ⟨_, rfl, ?_⟩) (args_list_sort _)))
  obtain ⟨ss', a1, a2, a3⟩ := sorted_out_str hS hp hs
  obtain ⟨c, hc'⟩ := sortedHeap_at (vs := vs) (out := (arrOf st').map (·.2)) hoL
  refine wpAny_pure ⟨_, rfl, hQ _ s1.heap.objs.size _ c ss' (fun b u e => ?_) g1 o1 hz hc' a1 (a2.trans pm) a3⟩
  have q := k1 b u e
  have hlt := Heap.lt_size q
  show (sortedHeap (s1.heap.push (seqObj "list" vs.toArray 0)) s1.heap.objs.size vs _).get? b = some u
  rw [sortedHeap_old (Nat.ne_of_lt hlt) (by rw [size_push']; exact Nat.lt_succ_of_lt hlt)]
  exact Heap.get?_push_of_some _ q
theorem strs_of_keys : ∀ (l : List (Int × Value)), (∀ e ∈ l, GoodX w e) → StrsAre (l.map (·.2)) (l.map keyX)
  | [], _ => .nil
  | (h, v) :: l, g => by
    obtain ⟨k, tk, h1, _⟩ := g (h, v) List.mem_cons_self
    dsimp only at h1
    subst h1
    exact .cons k tk (strs_of_keys l fun e he => g e (List.mem_cons_of_mem _ he))
theorem strs_perm {l l' : List Value} {ss : List Str} (h : StrsAre l ss) (pm : l'.Perm l) : ∃ ss', StrsAre l' ss' ∧ ss'.Perm ss := by
  induction pm generalizing ss with
  | nil => exact ⟨ss, h, .refl _⟩
  | cons x _ ih =>
    cases h with
    | cons k tk hr =>
      obtain ⟨s1, h1, h2⟩ := ih hr
      exact ⟨k :: s1, .cons k tk h1, h2.cons k⟩
  | swap x y l =>
    cases h with
    | cons k tk hr =>
      cases hr with
      | cons k2 tk2 hr2 => exact ⟨k2 :: k :: _, .cons k2 tk2 (.cons k tk hr2), .swap _ _ _⟩
  | trans _ _ ih1 ih2 =>
    obtain ⟨s1, h1, h2⟩ := ih2 h
    obtain ⟨s2, h3, h4⟩ := ih1 h1
    exact ⟨s2, h3, h4.trans h2⟩
theorem collect_x (R : SetX w s.heap a ks) (hh : A.handled = none) (E1 : Value → Shared → Prop) (Q1 : List Value → Shared → Prop)
    (h : ∀ s1 vs ss, (∀ c o, s.heap.get? c = some o → s1.heap.get? c = some o) → s.heap.objs.size ≤ s1.heap.objs.size → s1.gens = s.gens → s1.os = s.os → StrsAre vs ss → ss.Perm ks → Q1 vs s1) : wpAny (model P w) A.in1 (collect (.ref a)) Q1 E1 s := by
  obtain ⟨o, es, ep, t, ho, hx, hd, p⟩ := R
  refine collect_set (A := A.in1) hh ⟨o, ho, hx.1, hd⟩ p.fit (by have := p.few2; omega) p.ris p.led fun s1 vs k1 hz g1 o1 pm => ?_
  obtain ⟨ss, h1, h2⟩ := strs_perm (strs_of_keys es.toList p.good) pm
  exact h s1 vs ss k1 hz g1 o1 h1 (h2.trans p.perm)
end

/-! ### the same as calls -/
/-- the set of these texts, as 01 keeps it -/
def SetXO (w : World) (a : Addr) (ks : List Str) : HO := .ext fun h => SetX w h a ks
section
variable {X : Cx} {pins : List (Addr × Obj)} {σ : L2.St} {H : Hp} {s : Shared}
theorem setXO_new {w : World} {P : Program} {h : Heap} {a : Addr} {ks : List Str} (R : SetX w h a ks) : ObjOk P w H h a (SetXO w a ks) :=
  ⟨R, ⟨_, R.choose_spec.choose_spec.choose_spec.choose_spec.1⟩, fun h1 h2 p k => SetX.at p k⟩
theorem setXO_get {a : Addr} {ks : List Str} (I : Inv X pins σ H s) (ha : H a = some (SetXO X.w a ks)) : SetX X.w s.heap a ks := (I.hok a _ ha).1
/-- set(xs) -/
def rSetX (K : PySem.W.Frag) (w : World) : List V → Hp → VK → Prop := fun xs H Q => ∃ (l : Addr) (ys : List Str), xs = [V.ref l] ∧ (SqL K H l (ys.map V.str) ∨ SqT K H l (ys.map V.str)) ∧ ys.length < 3000 ∧
  ∀ a, H a = none → Q (.ref a) (upd H a (SetXO w a (asX ys)))
theorem cr_setX (hc : X.calm = true) : CallR X (.type "set") (rSetX X.K X.w) := by
  intro pins s σ H xs us Q I r h
  obtain ⟨l, ys, rfl, hl, hf, q⟩ := h
  rw [Vals.ref1 r]
  have fin : ∀ (h' : Heap) (tk : Nat), SetX X.w h' s.heap.objs.size (asX ys) → (∀ b o, s.heap.get? b = some o → h'.get? b = some o) → EP X pins σ Q (.ref s.heap.objs.size) { s with heap := h', toks := tk } := fun h' tk R k =>
    ⟨.ref s.heap.objs.size, upd H s.heap.objs.size (SetXO X.w s.heap.objs.size (asX ys)), I.laid (t' := tk) k (Nat.le_refl _) (setXO_new R), rfl, q _ (I.hok.fresh (Nat.le_refl _))⟩
  rcases hl with hl | hl
  · obtain ⟨its, rv, pl, hz⟩ := I.list hl
    exact call_setX (T := "list") (.inl rfl) (I.ok.hd hc) pl.isList (by simpa using rv) hf fin
  · obtain ⟨its, rv, pl, hz⟩ := I.tuple hl
    exact call_setX (T := "tuple") (.inr rfl) (I.ok.hd hc) pl (by simpa using rv) hf fin
/-- len(set) -/
def rLenX (w : World) : List V → Hp → VK → Prop := fun xs H Q => ∃ (a : Addr) (ks : List Str), xs = [V.ref a] ∧ H a = some (SetXO w a ks) ∧ Q (.int ks.length) H
theorem cr_lenX : CallR X (.builtin "len") (rLenX X.w) := by
  intro pins s σ H xs us Q I r h
  obtain ⟨a, ks, rfl, ha, q⟩ := h
  rw [Vals.ref1 r]
  obtain ⟨o, es, ep, t, ho, hx, hd, p⟩ := setXO_get I ha
  have e := p.size
  have := p.few
  exact call_len_set ho hx hd p.fit (by rw [e]; omega) ⟨.int ks.length, H, I.tok _, ⟨_, by rw [e]⟩, q⟩
/-- set != set -/
def rNeX (w : World) : R2 := fun x y H Q => ∃ (a b : Addr) (ks js : List Str), x = V.ref a ∧ y = V.ref b ∧ H a = some (SetXO w a ks) ∧ H b = some (SetXO w b js) ∧ (∀ k, k ∈ ks ↔ k ∈ js) ∧ Q (.bl false) H
theorem op_neX (hu : X.A.units < cLine) : OpR X (compareOp .NotEq) (rNeX X.w) := by
  intro pins s σ H x y v u Q I rx ry h
  obtain ⟨a, b, ks, js, rfl, rfl, ha, hb, hs, q⟩ := h
  cases rx
  cases ry
  exact ne_x (setXO_get I ha) (setXO_get I hb) hs hu ⟨.bl false, H, I, rfl, q⟩
/-- sorted(a set or a tuple of texts) -/
def rSortX (K : PySem.W.Frag) (w : World) : List V → Hp → VK → Prop := fun vs H Q => ∃ (a : Addr) (ks : List Str), vs = [V.ref a] ∧ (H a = some (SetXO w a ks) ∨ SqT K H a (ks.map V.str)) ∧ ks.length < 64 ∧
  ∀ (ys : List Str) (p : Addr), ys.Perm ks → sortedS ys = true → H p = none → Q (.ref p) (upd H p (.lst (ys.map V.str)))
theorem cr_sortX (hc : X.calm = true) : CallR X (.builtin "sorted") (rSortX X.K X.w) := by
  intro pins s σ H vs us Q I r h
  obtain ⟨a, ks, rfl, hl, h64, q⟩ := h
  rw [Vals.ref1 r]
  refine sorted_x (ks := ks) h64 (fun E1 Q1 h1 => ?_) fun s1 p out c ss k g o hp hg hS pm so => ?_
  · rcases hl with hl | hl
    · exact collect_x (setXO_get I hl) (I.ok.hd hc) E1 Q1 h1
    · obtain ⟨its, rv, ⟨o, ho, hcl, n, hd⟩, hz⟩ := I.tuple hl
      have rs := rv.strs
      have hl := rv.length
      rw [List.length_map] at hl
      exact collect_t (A := X.A.in1) ho hcl hd (by rw [List.size_toArray, ← hl, sizeLine_eq]; omega) (fun h' k z => h1 { s with heap := h' } _ ks k z rfl rfl (by simpa using rs) (.refl _))
  · have hlen : (ss.map V.str).length ≤ sizeLine := by rw [List.length_map, pm.length_eq, sizeLine_eq]; omega
    have hn : H p = none := I.hok.fresh hp
    have J : Inv X pins σ (upd H p (.lst (ss.map V.str))) { s with heap := s1.heap, gens := s1.gens, drawn := s1.drawn, toks := s1.toks } :=
      I.call (ch := []) (Un.laid k hp hn) (I.hok.laid k hp ⟨hlen, out.toList, c, vals_of_strs hS, hg⟩) (by rw [g]; exact I.bare) (fun _ z => nomatch z)
    have e : s1 = { s with heap := s1.heap, gens := s1.gens, drawn := s1.drawn, toks := s1.toks } := by
      cases s1
      cases s
      cases o
      rfl
    rw [e]
    exact ⟨.ref p, _, J, rfl, q ss p pm so hn⟩
end
end Wh

/-! # t[::-1], t * n, sets and sorted over data, a dict's display, an item of an own list -/
namespace Wh
open PySem L2 PySem.Spec PyProof.Rows
/-! ### t[::-1] -/
theorem adj_rev (n : Nat) : Builtin.Slice.sliceAdjust none none (-1) (n : Int) = ((n : Int) - 1, -1) := rfl
theorem places_rev (n : Nat) : Builtin.Slice.slicePlaces ((n : Int) - 1) (-1) (-1) = n := by
  unfold Builtin.Slice.slicePlaces
  rw [if_neg (by decide)]
  by_cases h : n = 0
  · subst h; decide
  · rw [if_pos (by omega)]
    have e : (- -1 : Int) = 1 := by decide
    rw [e, Int.ediv_one]
    omega
theorem fmap_congr {α β : Type} {f g : α → Option β} : ∀ l : List α, (∀ x ∈ l, f x = g x) → l.filterMap f = l.filterMap g
  | [], _ => rfl
  | x :: l, h => by
    have e := fmap_congr l fun y hy => h y (List.mem_cons_of_mem _ hy)
    rw [List.filterMap_cons, List.filterMap_cons, h x List.mem_cons_self, e]
theorem pick_rev (xs : Array Value) : ((List.range xs.size).filterMap fun (m : Nat) => xs[(((xs.size : Nat) : Int) - 1 + (m : Int) * (-1)).toNat]?) = xs.toList.reverse := by
  have e : (List.range xs.size).filterMap (fun (m : Nat) => xs[(((xs.size : Nat) : Int) - 1 + (m : Int) * (-1)).toNat]?) = ((List.range xs.size).map (fun k => xs.size - 1 - k)).filterMap (xs[·]?) := by
    rw [List.filterMap_map]
    refine fmap_congr _ fun m hm => ?_
    have := List.mem_range.mp hm
    have e2 : (((xs.size : Nat) : Int) - 1 + (m : Int) * (-1)).toNat = xs.size - 1 - m := by omega
    simp only [Function.comp, e2]
  rw [e, PySem.W.krv_range, List.filterMap_reverse, PySem.W.krv_all]
section
variable {P : Program} {w : World} {A : Around} {E : Value → Shared → Prop} {s : Shared}
theorem get_rev {t sl : Addr} {items : Array Value} {vl vu vs : Value} {Q : Value → Shared → Prop} (ht : IsTup s.heap t items) (hs : s.heap.IsSliceOf sl vl vu vs) (pl : IsPart vl none) (pu : IsPart vu none) (ps : IsPart vs (some (-1)))
    (h : Q (.ref s.heap.objs.size) { s with heap := s.heap.push { cls := .type "tuple", data := .seq items.toList.reverse.toArray } }) (hsz : items.size ≤ sizeLine) : wpAny (model P w) A (getItem (.ref t) (.ref sl)) Q E s := by
  obtain ⟨os, hos, hcs, hds⟩ := id hs
  unfold getItem
  try with_reducible refine wpAny_holding ?_
  first | refine wpAny_bind (wpAny_pure ?_) | skip
  refine wpAny_bind (wpAny_sequenceKey ht.typeIs (by decide) (wpAny_bind ?_))
  refine wpAny_callSpecial?_slot (name := Str.ofString "__getitem__") ht.typeIs PyProof.Rows.slot_tuple_getitem (wpAny_call_entry PyProof.Rows.slot_tuple_getitem ht.typeIs entry_tuple_getitem ?_ (args_tuple_getitem _ _))
  show wpAny _ _ (Builtin.Tuple.tupleItemsOf (.ref t) >>= _) _ _ s
  refine wpAny_bind (tupleItemsOf_ ht (wpAny_bind (wpAny_typeOf (T := "slice") ⟨os, hos, hcs⟩ ?_)))
  rw [if_pos (by decide)]
  refine wpAny_bind ?_
  unfold Builtin.Slice.sliceApplied Builtin.Slice.sliceFields
  refine wpAny_bind (wpAny_bind (wpAny_field hos hds (x := vl) rfl (wpAny_bind (wpAny_field hos hds (x := vu) rfl (wpAny_bind (wpAny_field hos hds (x := vs) rfl (wpAny_pure ?_)))))))
  refine wpAny_bind (HT.slicePart_ ps ?_)
  show wpAny _ _ (if ((-1 : Int) == 0) = true then _ else _) _ _ s
  rw [if_neg (by decide)]
  refine wpAny_bind (HT.slicePart_ pl (wpAny_bind (HT.slicePart_ pu (wpAny_bind (wpAny_pure ?_)))))
  show wpAny _ _ (pure (((items.size : Nat) : Int) - 1, (-1 : Int), Builtin.Slice.slicePlaces (((items.size : Nat) : Int) - 1) (-1) (-1))) _ _ s
  rw [places_rev]
  refine wpAny_pure ?_
  show wpAny _ _ (if ((((items.size : Nat) : Int) - 1 == 0 && (-1 : Int) == 1) && items.size == items.size) = true then _ else _) _ _ s
  rw [if_neg (by simp)]
  rw [pick_rev]
  have hok : sizeOk (.seq items.toList.reverse.toArray) := by
    show items.toList.reverse.toArray.size ≤ sizeLine
    rw [List.size_toArray, List.length_reverse, Array.length_toList]
    exact hsz
  first
    | exact wpAny_bind (m := Builtin.Tuple.tupleExact _) (wpAny_newObj_type (wpAny_pure ⟨_, rfl, wpAny_pure h⟩) hok)
    | exact wpAny_bind (m := Builtin.Tuple.tupleExact _) (wpAny_newObj_type (wpAny_bind (wpAny_pure (wpAny_pure ⟨_, rfl, wpAny_pure h⟩))) hok)
    | exact wpAny_bind (wpAny_bind (m := Builtin.Tuple.tupleExact _) (wpAny_newObj_type (wpAny_pure (wpAny_pure ⟨_, rfl, wpAny_pure h⟩)) hok))
    | exact wpAny_bind (wpAny_bind (m := Builtin.Tuple.tupleExact _) (wpAny_newObj_type (wpAny_pure ⟨_, rfl, wpAny_pure h⟩) hok))
end
section
variable {X : Cx} {C : Addr} {e : Expr} {te : TE} {we : DT} {k : Nat} {p1 p2 p3 pos : Pos}
def tRevT (K : PySem.W.Frag) (te : TE) : TE := fun σ H Q => te σ H fun x H1 => ∃ a xs, x = .ref a ∧ SqT K H1 a xs ∧ NewT xs.reverse H1 Q
theorem pe_revT (he : PE X e te) : PE X (.Subscript e (.Slice none none (some (.UnaryOp .USub (.Constant (.int 1) k p1) p2)) p3) pos) (tRevT X.K te) := by
  refine ⟨fun pins s σ H Q I h => ?_⟩
  refine Subscript_ (thn (he.run pins s σ H _ I h) fun v s1 ⟨x, H1, I1, r1, q1⟩ => ?_)
  obtain ⟨a, xs, ex, hx, q⟩ := q1
  subst ex
  cases r1
  have st : PO X (some (.UnaryOp .USub (.Constant (.int 1) k p1) p2)) (tPart (tUn (rU fun i => .int (-i)) (tC (.int 1)))) := po_some (pe_un un_neg pe_int)
  refine wpAny_Slice (thn (po_none.run pins s1 σ H1 (fun o H2 => o = none ∧ H2 = H1) I1 ⟨rfl, rfl⟩) fun vl s2 ⟨l, H2, I2, pl, el, e2⟩ => ?_)
  subst el e2
  refine thn (po_none.run pins s2 σ H2 (fun o H3 => o = none ∧ H3 = H2) I2 ⟨rfl, rfl⟩) fun vu s3 ⟨u, H3, I3, pu, eu, e3⟩ => ?_
  subst eu e3
  refine thn (st.run pins s3 σ H3 (fun o H4 => o = some (-1) ∧ H4 = H3) I3 ⟨1, rfl, -1, rfl, rfl, rfl⟩) fun vs s4 ⟨o, H4, I4, ps, eo, e4⟩ => ?_
  subst eo e4
  have I5 : Inv X pins σ H4 { s4 with heap := s4.heap.push { cls := .type "slice", data := .fields #[vl, vu, vs] } } := I4.kept (t' := s4.toks) fun b ob q => Heap.get?_push_of_some _ q
  obtain ⟨its, r, ht, hz⟩ := I5.tuple hx
  have hlen := r.length
  show wpAny (model X.prog X.w) X.A (subscriptTail e (.Slice none none (some (.UnaryOp .USub (.Constant (.int 1) k p1) p2)) p3) (.ref a) (.ref s4.heap.objs.size)) (EP X pins σ Q) X.xe { s4 with heap := s4.heap.push { cls := .type "slice", data := .fields #[vl, vu, vs] } }
  refine tail_any (ops := [.ref a, .ref s4.heap.objs.size]) ht.typeIs (PyProof.Rows.slot_tuple_getitem.lookup) ?_ (by with_unfolding_all rfl)
  refine get_rev ht (Heap.IsSliceOf.new _ vl vu vs) pl pu ps ?_ (by rw [List.size_toArray]; omega)
  exact made_tup (t' := s4.toks) I5 r.reverse (by rw [List.length_reverse]; exact hz) q
def dRev (we : DT) : DT := fun ρ k => we ρ fun d => match d with
  | .tup ds => k (.tup ds.reverse)
  | _ => False
theorem de_rev (he : DE X C e te we) : DE X C (.Subscript e (.Slice none none (some (.UnaryOp .USub (.Constant (.int 1) k p1) p2)) p3) pos) (tRevT X.K te) (dRev we) := by
  refine ⟨pe_revT he.pe, fun F0 H0 F H σ ρ k Q en h q => ?_⟩
  refine he.dv _ _ _ _ _ _ _ _ en h fun x vx F1 H1 x1 i1 h1 => ?_
  split at h1
  · obtain ⟨p, xs, rfl, g1, g2⟩ := i1
    exact ⟨p, xs, rfl, (g1.up x1.s).sq, new_tup x1.s g2.reverse h1 fun d v F' H' x2 i2 hk => q d v F' H' (x1.trans x2) i2 hk⟩
  · exact h1.elim
end

/-! ### t * n, t not empty -/
theorem tupMul0 (l : Addr) (items : Array Value) (n : Nat) (dd : Option Addr) (sl : Array (Option Value)) (u : Tok) (c1 : items.isEmpty = false) :
    Meets (Builtin.«tuple.__mul__» ⟨[.ref l, .int 0 u], []⟩) (fun _ R s => s.heap.get? l = some { cls := .type "tuple", dict := dd, data := .seq items n, slots := sl } ∧
      R (.ok (.ret (Value.ref s.heap.objs.size))) { s with heap := s.heap.push { cls := Value.type "tuple", data := Data.seq #[] }, toks := s.toks }) :=
  .of_wp fun prog w A R s h => by
    obtain ⟨hp, g, d, tk, os⟩ := s
    obtain ⟨hl, h⟩ := h
    have f1 := AutoSeq1.idx_int
    wp_walk using AutoSeq1.wpAny_loadPart' hl
    repeat (first
      | (refine wpAny_ite_false (by first | decide | simp [c1]) ?_; wp_walk using AutoSeq1.wpAny_loadPart' hl)
      | (refine wpAny_ite_true (by first | decide | simp [c1]) ?_; wp_walk using AutoSeq1.wpAny_loadPart' hl))
    exact ⟨_, rfl, h⟩
theorem tupMul1 (l : Addr) (items : Array Value) (n : Nat) (dd : Option Addr) (sl : Array (Option Value)) (u : Tok) (c1 : items.isEmpty = false) :
    Meets (Builtin.«tuple.__mul__» ⟨[.ref l, .int 1 u], []⟩) (fun _ R s => s.heap.get? l = some { cls := .type "tuple", dict := dd, data := .seq items n, slots := sl } ∧
      R (.ok (.ret (Value.ref l))) s) :=
  .of_wp fun prog w A R s h => by
    obtain ⟨hp, g, d, tk, os⟩ := s
    obtain ⟨hl, h⟩ := h
    have f1 := AutoSeq1.idx_int
    wp_walk using AutoSeq1.wpAny_loadPart' hl
    repeat (first
      | (refine wpAny_ite_false (by first | decide | simp [c1]) ?_; wp_walk using AutoSeq1.wpAny_loadPart' hl)
      | (refine wpAny_ite_true (by first | decide | simp [c1]) ?_; wp_walk using AutoSeq1.wpAny_loadPart' hl))
    exact ⟨_, rfl, h⟩
/-! ### the rest of t * n -/
def rRep4 (K : PySem.W.Frag) : R2 := fun x y H Q => ∃ l xs, ∃ n : Nat, x = .ref l ∧ y = .int (n : Int) ∧ SqT K H l xs ∧ xs ≠ [] ∧ n ≤ 1000 ∧ xs.length ≤ 1000 ∧ (n = 1 → Q (.ref l) H) ∧ (n ≠ 1 → NewT (List.replicate n xs).flatten H Q)
theorem op_rep4 {X : Cx} : OpR X (binaryOp .Mult) (rRep4 X.K) := by
  intro pins s σ H x y v u Q I rx ry h
  obtain ⟨l, xs, m, rfl, rfl, hT, hne, h1, hz, q1, q⟩ := h
  cases rx
  obtain ⟨t, rfl⟩ := ry
  obtain ⟨its, r, ⟨⟨cls, dd, data, sl⟩, ho, hc, n, hd⟩, hs⟩ := I.tuple hT
  simp only at hc hd
  subst hc hd
  have hle : its.length = xs.length := r.length.symm
  have hi : its.toArray.isEmpty = false := by
    cases its with
    | nil => exact absurd (List.eq_nil_of_length_eq_zero hle.symm) hne
    | cons a b => rfl
  have flen : (List.replicate m xs).flatten.length ≤ sizeLine := by
    rw [PyProof.Rows.lm_len_rep_flat, sizeLine_eq]
    have a1 : m * xs.length ≤ 1000 * 1000 := Nat.mul_le_mul h1 hz
    omega
  have rr := r.rep m
  have go : ∀ {Fn : Builtin}, True → wpAny (model X.prog X.w) X.A (call (.builtin "tuple.__mul__") [.ref l, .int (m : Int) t]) (EP X pins σ Q) X.xe s → wpAny (model X.prog X.w) X.A (binaryOp .Mult (.ref l) (.int (m : Int) t)) (EP X pins σ Q) X.xe s := fun {Fn} _ hc =>
    wpAny_binaryOp_repeat_ref (T := "tuple") (U := "int") (by decide) ⟨_, ho, rfl⟩ (fun s' => typeIs_int s' (m : Int) t) noFill_tuple_mul F.fills_int_mul F.slot_int_rmul repeat_tuple F.slot_int_index.lookup
      (call_meets F.slot_int_rmul (typeIs_int s (m : Int) t) F.entry_int_rmul (F.args_int_rmul_2 _ _) (int_rmul_tuple (m : Int) t l its.toArray n dd sl) ⟨ho, rfl, ⟨_, ho, rfl⟩, hc⟩)
  refine go (Fn := fun _ => pure (.done (.ret .none))) trivial ?_
  by_cases h0 : m = 0
  · subst h0
    exact call_meets F.slot_tuple_mul ⟨_, ho, rfl⟩ F.entry_tuple_mul (F.args_tuple_mul_2 _ _) (tupMul0 l its.toArray n dd sl t hi) ⟨ho, made_tup (t' := s.toks) (its := []) I rr flen (q (by decide))⟩
  by_cases h2 : m = 1
  · subst h2
    exact call_meets F.slot_tuple_mul ⟨_, ho, rfl⟩ F.entry_tuple_mul (F.args_tuple_mul_2 _ _) (tupMul1 l its.toArray n dd sl t hi) ⟨ho, .ref l, H, I, rfl, q1 rfl⟩
  have hsz0 : its.toArray.size = xs.length := by rw [List.size_toArray, hle]
  have hm : ((its.toArray.size : Nat) : Int) * (m : Int) ≤ 1000000 := by
    rw [hsz0]
    have a1 : xs.length * m ≤ 1000 * 1000 := Nat.mul_le_mul hz h1
    have a2 : ((xs.length * m : Nat) : Int) ≤ ((1000 * 1000 : Nat) : Int) := Int.ofNat_le.mpr a1
    rw [Int.natCast_mul] at a2
    omega
  have c0 : (decide ((m : Int) < -(2 ^ 63)) || decide ((m : Int) ≥ 2 ^ 63)) = false := by
    rw [decide_eq_false (by omega), decide_eq_false (by omega)] <;> rfl
  have c1 : (its.toArray.isEmpty || (m : Int) == 1) = false := by
    rw [hi, Bool.false_or]
    exact beq_eq_false_iff_ne.mpr (by omega)
  have c2 : (decide ((m : Int) ≤ 0) || its.toArray.isEmpty) = false := by
    rw [hi, Bool.or_false]
    exact decide_eq_false (by omega)
  have c4 : Builtin.Tuple.tupleTooMany (((its.toArray.size : Nat) : Int) * (m : Int)) = false := by
    unfold Builtin.Tuple.tupleTooMany
    rw [sizeLine_eq]
    exact decide_eq_false (by omega)
  have em : (m : Int).toNat = m := Int.toNat_natCast m
  refine call_meets F.slot_tuple_mul ⟨_, ho, rfl⟩ F.entry_tuple_mul (F.args_tuple_mul_2 _ _) (tuple_mulW l its.toArray n dd sl (m : Int) t c0 c1 c2 (by omega) c4 (by rw [size_rep, List.size_toArray, em, ← rr.length]; exact flen)) ⟨ho, ?_⟩
  rw [size_rep, em]
  exact made_tup (t' := s.toks) I rr flen (q h2)
def dRep : D2
  | .tup ds, .a (.int i), k => ds ≠ [] ∧ ds.length ≤ 1000 ∧ ∃ n : Nat, i = (n : Int) ∧ n ≤ 1000 ∧ k (.tup (List.replicate n ds).flatten)
  | _, _, _ => False
theorem IsL.rep {K : PySem.W.Frag} {H : Hp} {ds : List D} {xs : List V} (h : IsL K H ds xs) : ∀ n, IsL K H (List.replicate n ds).flatten (List.replicate n xs).flatten
  | 0 => IsL.nil
  | n + 1 => by
    rw [List.replicate_succ, List.replicate_succ, List.flatten_cons, List.flatten_cons]
    exact h.append (IsL.rep h n)
theorem o_rep {X : Cx} : DO X (binaryOp .Mult) (rRep4 X.K) dRep := by
  refine ⟨op_rep4, ?_⟩
  intro F H d e x y k Q s hx hy h q
  unfold dRep at h
  split at h
  · obtain ⟨h1, h2, n, rfl, h3, h4⟩ := h
    cases hy
    obtain ⟨p, us, rfl, g1, g2⟩ := hx
    refine ⟨p, us, n, rfl, rfl, (g1.up s).sq, fun z => h1 (List.eq_nil_of_length_eq_zero (by rw [g2.len, z]; rfl)), h3, by rw [← g2.len]; exact h2, fun z => ?_, fun _ => new_tup s (g2.rep n) h4 q⟩
    subst z
    have e1 : ∀ {α : Type} (l : List α), (List.replicate 1 l).flatten = l := fun l => by simp
    rw [e1] at h4
    exact q _ _ _ _ (Ext.refl s) (show Is X.K F (.tup _) _ from ⟨p, us, rfl, g1, g2⟩) h4
  · exact h.elim
end Wh

/-! # Sets, sorted, a dict's display, an item of an own list, over data -/
namespace Wh
open PySem L2
theorem Ext.side {F H : Hp} {p : Addr} {o : HO} (s : Same F H) (h : H p = none) : Ext F H F (upd H p o) := ⟨Same.refl F, same_new h, s.trans (same_new h), fun _ _ e => .inl e⟩
section
variable {X : Cx} {C : Addr} {a b e : Expr} {ta tb te : TE} {wa wb we : DT} {p p2 p3 p4 q q2 pos : Pos}
/-- texts in a row -/
def txt (d : D) (k : List Str → Prop) : Prop := ∃ xs : List Str, (d = lS xs ∨ d = tS xs) ∧ xs.length < 3000 ∧ k xs
theorem sq_txt {K : PySem.W.Frag} {F H : Hp} {d : D} {v : V} {xs : List Str} (s : Same F H) (h : d = lS xs ∨ d = tS xs) (i : Is K F d v) : ∃ l, v = .ref l ∧ (SqL K H l (xs.map V.str) ∨ SqT K H l (xs.map V.str)) := by
  rcases h with rfl | rfl
  · obtain ⟨l, us, rfl, g1, g2⟩ := i
    have e1 := strsD_is g2
    subst e1
    exact ⟨l, rfl, .inl (sq_l s g1)⟩
  · obtain ⟨l, us, rfl, g1, g2⟩ := i
    have e1 := strsD_is g2
    subst e1
    exact ⟨l, rfl, .inr (g1.up s).sq⟩
abbrev tSetX (X : Cx) (ta : TE) : TE := tCB (rSetX X.K X.w) (tCons ta tNil)
theorem dv_setX (ha : DV X.K C ta wa) {F0 H0 F H : Hp} {σ : L2.St} {ρ : DSt} {k : List Str → Prop} {Q : VK} (en : Env X.K C F0 H0 F H σ ρ) (h : wa ρ fun d => txt d k)
    (q : ∀ xs l F' H', Ext F H F' H' → H' l = some (SetXO X.w l (asX xs)) → k xs → Q (.ref l) H') : tSetX X ta σ H Q := by
  refine ha _ _ _ _ _ _ _ _ en h fun d v F1 H1 x1 i1 ⟨xs, hd, hl, hk⟩ => ?_
  obtain ⟨l, rfl, sq⟩ := sq_txt x1.s hd i1
  exact ⟨l, xs, rfl, sq, hl, fun a hn => q xs a F1 _ (x1.trans (Ext.side x1.s hn)) upd_same hk⟩
theorem pe_setX {mg : Str → Option Value} (T : Txt mg) (em : X.mg = mg) (hc : X.calm = true) (ha : PE X a ta) (hg : Gl X "set") (he : starEach [a] X.env = (false, eval a X.env) :: starEach [] X.env) (hpl : (backTo pos (starEach [] X.env)).any (·.1) = false) : PE X (.Call (.Name "set" p) [a] [] pos) (tSetX X ta) :=
  pe_callTy (cr_setX hc) hg (by rw [em]; exact T.m_set) boot_set (pa_cons ha pa_nil he) (by decide) (by decide) he hpl
/-- len(set(a)) -/
def dLenSet (wa : DT) : DT := fun ρ k => wa ρ fun d => txt d fun xs => k (.a (.int (asX xs).length))
theorem de_lenset {mg : Str → Option Value} (T : Txt mg) (ha : DE X C a ta wa) (em : X.mg = mg := by rfl) (hc : X.calm = true := by rfl) (hg : Gl X "set" := by rfl) (hg2 : Gl X "len" := by rfl) (he : starEach [a] X.env = (false, eval a X.env) :: starEach [] X.env := by rfl) (hpl : (backTo q (starEach [] X.env)).any (·.1) = false := by rfl)
    (he2 : starEach [.Call (.Name "set" p2) [a] [] q] X.env = (false, eval (.Call (.Name "set" p2) [a] [] q) X.env) :: starEach [] X.env := by rfl) (hpl2 : (backTo pos (starEach [] X.env)).any (·.1) = false := by rfl) :
    DE X C (.Call (.Name "len" p) [.Call (.Name "set" p2) [a] [] q] [] pos) (tCB (rLenX X.w) (tCons (tSetX X ta) tNil)) (dLenSet wa) := by
  refine ⟨pe_callB cr_lenX hg2 (by rw [em]; exact T.m_len) boot_len (pa_cons (pe_setX T em hc ha.pe hg he hpl) pa_nil he2) (by decide) (by decide) he2 hpl2, fun F0 H0 F H σ ρ k Q en h qk => ?_⟩
  exact dv_setX ha.dv en h fun xs l F' H' x hl hk => ⟨l, asX xs, rfl, hl, fa x.s (fun d v F2 H2 x2 i2 hk => qk d v F2 H2 (x.trans x2) i2 hk) hk⟩
/-- set(a) != set(b), the members the same -/
def dNeSet (wa wb : DT) : DTT := fun ρ k => wa ρ fun d => txt d fun xs => wb ρ fun d => txt d fun ys => (∀ z, z ∈ xs ↔ z ∈ ys) ∧ k false
theorem dp_setne {mg : Str → Option Value} (T : Txt mg) (ha : DE X C a ta wa) (hb : DE X C b tb wb) (hu : X.A.units < cLine) (em : X.mg = mg := by rfl) (hc : X.calm = true := by rfl) (hg : Gl X "set" := by rfl) (he : starEach [a] X.env = (false, eval a X.env) :: starEach [] X.env := by rfl) (hpl : (backTo q (starEach [] X.env)).any (·.1) = false := by rfl)
    (he2 : starEach [b] X.env = (false, eval b X.env) :: starEach [] X.env := by rfl) (hpl2 : (backTo q2 (starEach [] X.env)).any (·.1) = false := by rfl) (hm : behindInMarks .NotEq (.Call (.Name "set" p4) [b] [] q2) = false := by first | exact nomark _ | rfl) :
    DP X C (.Compare (.Call (.Name "set" p3) [a] [] q) [.NotEq] [.Call (.Name "set" p4) [b] [] q2] pos) (tTest (tOp (rNeX X.w) (tSetX X ta) (tSetX X tb))) (dNeSet wa wb) := by
  refine ⟨pt_cmpR (op_neX hu) (pe_setX T em hc ha.pe hg he hpl) (pe_setX T em hc hb.pe hg he2 hpl2) hm, fun F0 H0 F H σ ρ k Q en h qk => ?_⟩
  refine dv_setX ha.dv en h fun xs l F1 H1 x1 hl hk => ?_
  refine dv_setX hb.dv (en.grow x1) hk fun ys l2 F2 H2 x2 hl2 hk2 => ?_
  exact ⟨l, l2, asX xs, asX ys, rfl, rfl, x2.h _ _ hl, hl2, fun z => by rw [asX_mem, asX_mem]; exact hk2.1 z, false, rfl, qk false F2 H2 (x1.trans x2) hk2.2⟩
/-- sorted(set(a)) -/
def dSortSet (wa : DT) : DT := fun ρ k => wa ρ fun d => txt d fun xs => xs.length < 64 ∧ ∀ ys : List Str, ys.Perm (asX xs) → k (lS ys)
theorem de_sortedset {mg : Str → Option Value} (T : Txt mg) (ha : DE X C a ta wa) (em : X.mg = mg := by rfl) (hc : X.calm = true := by rfl) (hg : Gl X "set" := by rfl) (hg2 : Gl X "sorted" := by rfl) (he : starEach [a] X.env = (false, eval a X.env) :: starEach [] X.env := by rfl) (hpl : (backTo q (starEach [] X.env)).any (·.1) = false := by rfl)
    (he2 : starEach [.Call (.Name "set" p2) [a] [] q] X.env = (false, eval (.Call (.Name "set" p2) [a] [] q) X.env) :: starEach [] X.env := by rfl) (hpl2 : (backTo pos (starEach [] X.env)).any (·.1) = false := by rfl) :
    DE X C (.Call (.Name "sorted" p) [.Call (.Name "set" p2) [a] [] q] [] pos) (tCB (rSortX X.K X.w) (tCons (tSetX X ta) tNil)) (dSortSet wa) := by
  refine ⟨pe_callB (cr_sortX hc) hg2 (by rw [em]; exact T.m_sorted) boot_sorted (pa_cons (pe_setX T em hc ha.pe hg he hpl) pa_nil he2) (by decide) (by decide) he2 hpl2, fun F0 H0 F H σ ρ k Q en h qk => ?_⟩
  refine dv_setX ha.dv en h fun xs l F' H' x hl ⟨h64, hk⟩ => ⟨l, asX xs, rfl, .inl hl, Nat.lt_of_le_of_lt (asX_le xs) h64, fun ys c pm so hn => ?_⟩
  exact new_lst x.s hn (strsD_of ys) (hk ys pm) fun d v F2 H2 x2 i2 hk => qk d v F2 H2 (x.trans x2) i2 hk
/-- sorted of a list or a tuple of texts -/
def gSortT : List D → (D → Prop) → Prop
  | [d], k => ∃ xs, d = tS xs ∧ xs.length < 64 ∧ ∀ ys : List Str, ys.Perm xs → PyProof.Rows.sortedS ys = true → k (lS ys)
  | _, _ => False
theorem c_sortT (hc : X.calm = true := by rfl) : DCR X (.builtin "sorted") (rSortX X.K X.w) gSortT := by
  refine ⟨cr_sortX hc, fun F H ds xs k Q s i h qk => ?_⟩
  unfold gSortT at h
  split at h
  · obtain ⟨x, r, rfl, h1, h2⟩ := i
    cases h2
    obtain ⟨zs, rfl, hl, hk⟩ := h
    obtain ⟨l, us, rfl, g1, g2⟩ := h1
    have e1 := strsD_is g2
    subst e1
    exact ⟨l, zs, rfl, .inr (g1.up s).sq, hl, fun ys c pm so hn => new_lst s hn (strsD_of ys) (hk ys pm so) qk⟩
  · exact h.elim
end

/-! ### {k: v, ..} with texts for keys, each once -/
section
variable {X : Cx} {C : Addr} {pos : Pos}
def dPairs : List (DT × DT) → DSt → (List Str → List D → Prop) → Prop
  | [], _, k => k [] []
  | (wk, wv) :: r, ρ, k => wk ρ fun x => match x with
    | .a (.str z) => wv ρ fun y => dPairs r ρ fun ks ds => k (z :: ks) (y :: ds)
    | _ => False
structure DPPs (X : Cx) (C : Addr) (pos : Pos) (keys : List (Option Expr)) (values : List Expr) (trs : List (TE × TE)) (ws : List (DT × DT)) : Prop where
  pps : PPs X pos keys values trs
  dv : ∀ (F0 H0 F H : Hp) (σ : L2.St) (ρ : DSt) (k : List Str → List D → Prop) (Q : List (V × V) → Hp → Prop), Env X.K C F0 H0 F H σ ρ → dPairs ws ρ k → (∀ ks ds vs F' H', Ext F H F' H' → ks.length = ds.length → ks.length = keys.length → IsL X.K F' ds vs → k ks ds → Q ((ks.map V.str).zip vs) H') → tPairs trs σ H Q
theorem dpps_nil : DPPs X C pos [] [] [] [] := ⟨pps_nil, fun F0 H0 F H σ ρ k Q en h q => q [] [] [] F H (Ext.refl en.sm) rfl rfl IsL.nil h⟩
theorem dpps_cons {a b : Expr} {ka : List (Option Expr)} {va : List Expr} {tk tv : TE} {wk wv : DT} {trs : List (TE × TE)} {ws : List (DT × DT)} (hk : DE X C a tk wk) (hv : DE X C b tv wv) (hr : DPPs X C pos ka va trs ws) : DPPs X C pos (some a :: ka) (b :: va) ((tk, tv) :: trs) ((wk, wv) :: ws) := by
  refine ⟨pps_cons hk.pe hv.pe hr.pps, fun F0 H0 F H σ ρ k Q en h q => ?_⟩
  refine hk.dv _ _ _ _ _ _ _ _ en h fun x vx F1 H1 x1 i1 h1 => ?_
  split at h1
  · cases i1
    refine hv.dv _ _ _ _ _ _ _ _ (en.grow x1) h1 fun y vy F2 H2 x2 i2 h2 => ?_
    refine hr.dv _ _ _ _ _ _ _ _ ((en.grow x1).grow x2) h2 fun ks ds vs F3 H3 x3 l3 l4 i3 h3 => ?_
    exact q (_ :: ks) (y :: ds) (vy :: vs) F3 H3 ((x1.trans x2).trans x3) (by simp [l3]) (by simp [l4]) (.cons (Is.mono x3.f _ _ i2) i3) h3
  · exact h1.elim
theorem merge_new : ∀ (more kvs : List (Key × V)), (more.map (·.1)).Nodup → (∀ p ∈ more, valV kvs p.1 = none) → mergeK kvs more = kvs ++ more
  | [], kvs, _, _ => by simp [mergeK]
  | p :: r, kvs, h, d => by
    obtain ⟨h1, h2⟩ := List.nodup_cons.mp h
    have e : mergeK kvs (p :: r) = mergeK (putK kvs p.1 p.2) r := rfl
    rw [e, putK_new p.2 (d p List.mem_cons_self), merge_new r _ h2 fun q hq => ?_, List.append_assoc]
    · rfl
    · have n1 := d q (List.mem_cons_of_mem _ hq)
      have ne : p.1 ≠ q.1 := fun z => h1 (List.mem_map.mpr ⟨q, hq, z.symm⟩)
      unfold valV at n1 ⊢
      rw [List.find?_append]
      cases hf : kvs.find? fun kv => decide (kv.1 = q.1) with
      | some z => rw [hf] at n1; cases n1
      | none => simp [ne]
theorem kvz_pairs : ∀ {ks : List Str} {vs : List V}, ks.length = vs.length → (ks.map V.str).zip vs = (kvz ks vs).map fun kv => (kV kv.1, kv.2)
  | [], _, _ => rfl
  | a :: r, [], h => by simp at h
  | a :: r, v :: t, h => by
    unfold kvz
    rw [List.map_cons, List.map_cons, List.zip_cons_cons, List.zip_cons_cons, List.map_cons, kvz_pairs (ks := r) (vs := t) (by simpa using h)]
    rfl
def dDisp (ws : List (DT × DT)) : DT := fun ρ k => dPairs ws ρ fun ks ds => ks.Nodup ∧ k (.dic ks ds)
theorem de_disp {keys : List (Option Expr)} {values : List Expr} {trs : List (TE × TE)} {ws : List (DT × DT)} (h : DPPs X C pos keys values trs ws) (hall : keys.all (·.isSome) = true := by rfl) (hl : keys.length = values.length := by rfl) (h0 : keys ≠ [] := by intro z; cases z) (h15 : keys.length ≤ 15 := by decide) :
    DE X C (.Dict keys values pos) (tDisp trs) (dDisp ws) := by
  refine ⟨pe_disp h.pps hall hl h0 h15, fun F0 H0 F H σ ρ k Q en hw q => ?_⟩
  intro p hp
  have x0 : Ext F H F (upd H p (.dK [])) := Ext.side en.sm hp
  refine h.dv F0 H0 F _ σ ρ _ _ (en.grow x0) hw fun ks ds vs F1 H1 x1 l1 l2 i1 ⟨nd, hk⟩ => ?_
  have f1 : F1 p = none := x1.off upd_same (en.sm.free hp)
  refine ⟨x1.h _ _ upd_same, kvz ks vs, ?_, ?_, ?_⟩
  · exact kvz_pairs (by rw [l1, i1.len])
  · unfold kvz
    rw [List.length_zip, List.length_map]
    omega
  · have e : mergeK [] (kvz ks vs) = kvz ks vs := by
      rw [merge_new _ [] ?_ (fun _ _ => rfl), List.nil_append]
      unfold kvz
      rw [List.map_fst_zip (by rw [List.length_map, l1, i1.len]; exact Nat.le_refl _)]
      exact List.Pairwise.map _ (fun _ _ ne z => ne (Sum.inr.inj z)) nd
    rw [e]
    have xx := x0.trans x1
    have hs : Same H (upd H1 p (.dK (kvz ks vs))) := fun c o z => by rw [upd_ne (ne_of_none z hp)]; exact xx.h c o z
    refine q (.dic ks ds) (.ref p) (upd F1 p (.dK (kvz ks vs))) _ ⟨xx.f.trans (same_new f1), hs, fun c o z => ?_, fun c o z => ?_⟩ ⟨p, vs, rfl, upd_same, by rw [l1, i1.len], IsL.mono (same_new f1) _ _ i1⟩ hk
    · by_cases hc : c = p
      · subst hc; rw [upd_same] at z ⊢; exact z
      · rw [upd_ne hc] at z ⊢; exact xx.s c o z
    · by_cases hc : c = p
      · subst hc; exact .inr hp
      · rw [upd_ne hc] at z; exact xx.n c o z
end

/-! ### x[i] = e, x an own list, lent to e -/
section
variable {X : Cx} {C : Addr} {e ix : Expr} {te ti : TE} {we wi : DT} {pos pos' p1 : Pos}
def dSetIt (i : Nat) (we wi : DT) : DTS := fun ρ k => ∃ ds, ρ.own = some (i, ds) ∧ we ρ.frz fun d => nolst d = true ∧ wi ρ fun y => ∃ j : Nat, y = .a (.int (j : Int)) ∧ j < ds.length ∧ k.nx ⟨ρ.sl, some (i, ds.set j d), ρ.sto⟩
theorem dv_setIt {K : PySem.W.Frag} {i : Nat} (he : DV K C te we) (hi : DV K C ti wi) : DVS K C (tAsg te (gSub (tVar i) ti rSetL)) (dSetIt i we wi) := by
  intro F0 H0 F H σ ρ k E en h ok
  obtain ⟨ds, ho, h⟩ := h
  obtain ⟨p, xs, g1, g2, g3, g4, g5, enz⟩ := env_frz en ho
  refine he _ _ _ _ _ _ _ _ enz h fun d v F1 H1 x1 i1 h1 => ?_
  obtain ⟨hn, h1⟩ := h1
  have x1' := ext_del g3 x1
  have en1 := en.grow x1'
  have i1' := Is.del (x1.f _ _ upd_same) d v hn i1
  refine ⟨_, g1, ?_⟩
  refine hi _ _ _ _ _ _ _ _ en1 h1 fun y vy F2 H2 x2 i2 ⟨j, ey, hj, h2⟩ => ?_
  subst ey
  cases i2
  have en2 := en1.grow x2
  have h2p := x2.h _ _ (x1.h _ _ g2)
  have f2 : F2 p = none := (x1'.trans x2).off g2 g3
  have hj' : j < xs.length := by rw [← g5.len]; exact hj
  refine ⟨p, xs, (j : Int), j, rfl, rfl, h2p, ?_, ?_⟩
  · unfold ixN
    rw [if_pos (by omega), if_pos (by omega), Int.toNat_natCast]
  have su : ∀ {G : Hp}, (∀ c o, G c = some o → c ≠ p) → Same G H2 → Same G (upd H2 p (.lst (xs.set j v))) := fun {G} ne s c o z => by
    rw [upd_ne (ne c o z)]
    exact s c o z
  refine ok.nx F2 _ _ ⟨ρ.sl, some (i, ds.set j d), ρ.sto⟩ ⟨⟨en2.ext.f, su (fun c o z e => by rw [e, g4] at z; cases z) en2.ext.h, su (fun c o z e => by rw [e, f2] at z; cases z) en2.sm, en2.ext.n⟩, en2.len, en2.ok, fun n es q => ?_, ?_⟩ h2
  · have q : some (i, ds.set j d) = some (n, es) := q
    cases q
    exact ⟨p, xs.set j v, g1, upd_same, f2, g4, (IsL.mono (x1'.trans x2).f _ _ g5).set j (Is.mono x2.f _ _ i1')⟩
  · have hs := en2.sto
    show StoO K C H0 F2 _ ρ.sto
    cases hst : ρ.sto with
    | none => trivial
    | some s =>
      rw [hst] at hs
      obtain ⟨dx, am, as, us, vs, k1, k2, k3, ne, l1, l2, f1, f2', f3, i1', i2, m⟩ := hs
      have nl : ∀ {c : Addr} {o : HO}, H2 c = some o → (∀ ys, o ≠ .lst ys) → upd H2 p (.lst (xs.set j v)) c = some o := fun {c o} z ne' => by
        have : c ≠ p := fun e => by
          rw [e, h2p] at z
          exact ne' _ (Option.some.inj z).symm
        rw [upd_ne this]
        exact z
      exact ⟨dx, am, as, us, vs, nl k1 (fun _ z => by cases z), nl k2 (fun _ z => by cases z), nl k3 (fun _ z => by cases z), ne, l1, l2, f1, f2', f3, i1', i2, m⟩
theorem ds_setIt {i : Nat} {x : Str} (he : DE X C e te we) (hi : DE X C ix ti wi) (hN : X.N[i]? = some x := by rfl) (hv : Vis X.env.scope x := by first | exact Or.inl rfl | exact Or.inr (Or.inl rfl) | exact Or.inr (Or.inr rfl)) (hd : (x == ("__debug__" : Str)) = false := by decide) (hcd : (x == ("__classdict__" : Str)) = false := by decide)
    (ha : ∀ v, assign (.Subscript (.Name x p1) ix pos') X.env v = (holding [v] (eval (.Name x p1) X.env) >>= fun ov => holding [v, ov] (eval ix X.env) >>= fun iv => standAt pos' >>= fun _ => holding [v, ov, iv] (setItem ov iv v) >>= fun _ => release [v, ov, iv] []) := by intro _; rfl)
    (hs : swapsWithSole [.Subscript (.Name x p1) ix pos'] e pos.line X.env = pure false := by rfl) (hw : swappedStores [.Subscript (.Name x p1) ix pos'] e X.env = pure none := by rfl)
    (h1 : (assignEach [.Subscript (.Name x p1) ix pos'] X.env).map (·.2) = [assign (.Subscript (.Name x p1) ix pos') X.env] := by rfl) :
    DS X C (.Assign [.Subscript (.Name x p1) ix pos'] e pos) (tAsg te (gSub (tVar i) ti rSetL)) (dSetIt i we wi) :=
  ⟨ps_asg he.pe (pg_sub (pe_var hN hv hd hcd) hi.pe set_list ha) hs hw h1, dv_setIt he.dv hi.dv⟩
end
end Wh

/-! # Comprehensions, the inner expressions by their readings alone -/
namespace Wh
open PySem L2
def tOf (K : PySem.W.Frag) (C : Addr) (w : DT) : TE := fun σ H Q => ∃ F0 H0 F ρ k, Env K C F0 H0 F H σ ρ ∧ w ρ k ∧ ∀ d v F' H', Ext F H F' H' → Is K F' d v → k d → Q v H'
def tOfT (K : PySem.W.Frag) (C : Addr) (w : DTT) : TT := fun σ H Q => ∃ F0 H0 F ρ k, Env K C F0 H0 F H σ ρ ∧ w ρ k ∧ ∀ b F' H', Ext F H F' H' → k b → Q b H'
section
variable {X : Cx} {C : Addr} {e : Expr} {t : TE} {w : DT} {tt : TT} {wt : DTT} {ifs : List Expr}
theorem DE.of (h : DE X C e t w) : DE X C e (tOf X.K C w) w := ⟨⟨fun pins s σ H Q I ⟨F0, H0, F, ρ, k, en, hw, q⟩ => h.pe.run pins s σ H Q I (h.dv F0 H0 F H σ ρ k Q en hw q)⟩, fun F0 H0 F H σ ρ k Q en hw q => ⟨F0, H0, F, ρ, k, en, hw, q⟩⟩
theorem DTs.of (h : DTs X C ifs tt wt) : DTs X C ifs (tOfT X.K C wt) wt := ⟨⟨fun pins s σ H Q I ⟨F0, H0, F, ρ, k, en, hw, q⟩ => h.pts.run pins s σ H Q I (h.dv F0 H0 F H σ ρ k Q en hw q)⟩, fun F0 H0 F H σ ρ k Q en hw q => ⟨F0, H0, F, ρ, k, en, hw, q⟩⟩
end
section
variable {X : Cx} {C : Addr}
theorem de_lcX {elt tg iter : Expr} {ifs : List Expr} {scope : Scope} {own : List (Str × Nat)} {j : Nat} {pos : Pos} {wi : TI} {vi : DTI} {wt : DTT} {we : DT} (hc : X.calm = true) (hN : X.N.Nodup) (hi : DI X C tg iter wi vi) (ok : BlkOk X.N X.env.scope scope own) (hj : j ∈ own.map (·.2))
    (hg : ∀ (s : Shared) (H : Hp) (D : Addr) (cl : List (Str × Addr)) (fp : List Addr), PG (X.blk s H scope (compEnvC scope cl D X.env) fp) tg (gName j)) (ht : ∀ (s : Shared) (H : Hp) (D : Addr) (cl : List (Str × Addr)) (fp : List Addr), ∃ tt, DTs (X.blk s H scope (compEnvC scope cl D X.env) fp) C ifs tt wt)
    (he : ∀ (s : Shared) (H : Hp) (D : Addr) (cl : List (Str × Addr)) (fp : List Addr), ∃ te, DE (X.blk s H scope (compEnvC scope cl D X.env) fp) C elt te we) (hs : ∀ x, foldedSetIterable iter X.env x = pure x := by intro _; rfl) :
    DE X C (.ListComp elt [⟨tg, iter, ifs, 0⟩] scope pos) (tLc wi (gName j) (tOfT X.K C wt) (tOf X.K C we) (own.map (·.2))) (dLc vi (own.map (·.2)) j wt we) :=
  de_lc hc hN hi ok hj hg (fun s H D cl fp => let ⟨_, h⟩ := ht s H D cl fp; h.of) (fun s H D cl fp => let ⟨_, h⟩ := he s H D cl fp; h.of) hs
theorem ds_setLcX {i : Nat} {y : Str} {py : Pos} {elt tg iter : Expr} {ifs : List Expr} {scope : Scope} {own : List (Str × Nat)} {j : Nat} {pos spos : Pos} {wi : TI} {vi : DTI} {wt : DTT} {we : DT} (hc : X.calm = true) (hN : X.N.Nodup) (hy : X.N[i]? = some y) (hyl : X.env.scope.names.lookup y = some .local)
    (hsw : swapsWith (.ListComp elt [⟨tg, iter, ifs, 0⟩] scope pos) (some (.Name y py)) spos.line X.env = pure true) (hi : DI X C tg iter wi vi) (ok : BlkOk X.N X.env.scope scope own) (hj : j ∈ own.map (·.2))
    (hg : ∀ (s : Shared) (H : Hp) (D : Addr) (cl : List (Str × Addr)) (fp : List Addr), PG (X.blk s H scope (compEnvC scope cl D X.env) fp) tg (gName j)) (ht : ∀ (s : Shared) (H : Hp) (D : Addr) (cl : List (Str × Addr)) (fp : List Addr), ∃ tt, DTs (X.blk s H scope (compEnvC scope cl D X.env) fp) C ifs tt wt)
    (he : ∀ (s : Shared) (H : Hp) (D : Addr) (cl : List (Str × Addr)) (fp : List Addr), ∃ te, DE (X.blk s H scope (compEnvC scope cl D X.env) fp) C elt te we) (hs : ∀ x, foldedSetIterable iter X.env x = pure x := by intro _; rfl) :
    DS X C (.Assign [.Name y py] (.ListComp elt [⟨tg, iter, ifs, 0⟩] scope pos) spos) (tAsg (tLc wi (gName j) (tOfT X.K C wt) (tOf X.K C we) (own.map (·.2))) (gName i)) (dSet i (dLc vi (own.map (·.2)) j wt we)) :=
  ds_setLc hc hN hy hyl hsw hi ok hj hg (fun s H D cl fp => let ⟨_, h⟩ := ht s H D cl fp; h.of) (fun s H D cl fp => let ⟨_, h⟩ := he s H D cl fp; h.of) hs
end
end Wh

/-! # Questions, tests, trees as plain data; what the defs reckon -/
namespace Wh
open PySem L2
/-- a text as a value, as data -/
abbrev sD (z : Str) : D := .a (.str z)
def tV (xs : List V) : D := .tup (xs.map D.a)
def lV (xs : List V) : D := .lst (xs.map D.a)
/-- a text of characters -/
def sOk (x : Str) : Bool := PySem.PyData.strOk x
/-- a value of a row: a whole number or a text -/
def okV : V → Bool
  | .int _ => true
  | .str x => sOk x
  | _ => false

/-! ### tests -/
inductive Tst where
  | is (c : Str) (v : V)
  | same (a b : Str)
  | neg (t : Tst)
  | conj (t u : Tst)
  | disj (t u : Tst)
def encT : Tst → D
  | .is c v => .tup [sD "is", sD c, .a v]
  | .same a b => .tup [sD "same", sD a, sD b]
  | .neg t => .tup [sD "not", encT t]
  | .conj t u => .tup [sD "and", encT t, encT u]
  | .disj t u => .tup [sD "or", encT t, encT u]
def told : Tst → List Str
  | .is c _ => [c]
  | .same a b => [a, b]
  | .neg t => told t
  | .conj t u => told t ++ told u
  | .disj t u => told t ++ told u
def Tst.dep : Tst → Nat
  | .is _ _ => 1
  | .same _ _ => 1
  | .neg t => t.dep + 1
  | .conj t u => max t.dep u.dep + 1
  | .disj t u => max t.dep u.dep + 1
def Tst.ok : Tst → Bool
  | .is _ v => okV v
  | .same _ _ => true
  | .neg t => t.ok
  | .conj t u => t.ok && u.ok
  | .disj t u => t.ok && u.ok
theorem told_len : ∀ t : Tst, (told t).length ≤ 2 ^ t.dep
  | .is _ _ => by simp [told, Tst.dep]
  | .same _ _ => by simp [told, Tst.dep]
  | .neg t => by
    have h := told_len t
    simp only [told, Tst.dep, Nat.pow_succ]
    omega
  | .conj t u => by
    have h := told_len t
    have h2 := told_len u
    have a1 : 2 ^ t.dep ≤ 2 ^ (max t.dep u.dep) := Nat.pow_le_pow_right (by decide) (Nat.le_max_left _ _)
    have a2 : 2 ^ u.dep ≤ 2 ^ (max t.dep u.dep) := Nat.pow_le_pow_right (by decide) (Nat.le_max_right _ _)
    simp only [told, Tst.dep, Nat.pow_succ, List.length_append]
    omega
  | .disj t u => by
    have h := told_len t
    have h2 := told_len u
    have a1 : 2 ^ t.dep ≤ 2 ^ (max t.dep u.dep) := Nat.pow_le_pow_right (by decide) (Nat.le_max_left _ _)
    have a2 : 2 ^ u.dep ≤ 2 ^ (max t.dep u.dep) := Nat.pow_le_pow_right (by decide) (Nat.le_max_right _ _)
    simp only [told, Tst.dep, Nat.pow_succ, List.length_append]
    omega

/-! ### a row's values -/
/-- the value in a column -/
def val (hd : List Str) (row : List V) (c : Str) : V := (row[hd.idxOf c]?).getD .non
def vals (hd : List Str) (row : List V) (cs : List Str) : List V := cs.map (val hd row)
def pas : Tst → List Str → List V → Bool
  | .is c v, hd, row => decide (val hd row c = v)
  | .same a b, hd, row => decide (val hd row a = val hd row b)
  | .neg t, hd, row => !pas t hd row
  | .conj t u, hd, row => pas t hd row && pas u hd row
  | .disj t u, hd, row => pas t hd row || pas u hd row

/-! ### questions -/
inductive Qn where
  | table (n : Str)
  | pick (t : Tst) (q : Qn)
  | keep (cs : List Str) (q : Qn)
  | call (old new : Str) (q : Qn)
  | join (a b : Qn)
  | put (a b : Qn)
  | ring (n : Str) (k : Nat) (a b : Qn)
def encQ : Qn → D
  | .table n => .tup [sD "table", sD n]
  | .pick t q => .tup [sD "pick", encT t, encQ q]
  | .keep cs q => .tup [sD "keep", tS cs, encQ q]
  | .call o n q => .tup [sD "call", sD o, sD n, encQ q]
  | .join a b => .tup [sD "join", encQ a, encQ b]
  | .put a b => .tup [sD "put", encQ a, encQ b]
  | .ring n k a b => .tup [sD "ring", sD n, .a (.int (k : Int)), encQ a, encQ b]
/-- how deep -/
def Qn.dep : Qn → Nat
  | .table _ => 1
  | .pick _ q => q.dep + 1
  | .keep _ q => q.dep + 1
  | .call _ _ q => q.dep + 1
  | .join a b => max a.dep b.dep + 1
  | .put a b => max a.dep b.dep + 1
  | .ring _ _ a b => max a.dep b.dep + 1
/-- no rings -/
def Qn.rf : Qn → Bool
  | .table _ => true
  | .pick _ q => q.rf
  | .keep _ q => q.rf
  | .call _ _ q => q.rf
  | .join a b => a.rf && b.rf
  | .put a b => a.rf && b.rf
  | .ring _ _ _ _ => false
def repl : Qn → Str → Qn → Qn
  | .table m, n, o => if m = n then o else .table m
  | .pick t q, n, o => .pick t (repl q n o)
  | .keep cs q, n, o => .keep cs (repl q n o)
  | .call x y q, n, o => .call x y (repl q n o)
  | .join a b, n, o => .join (repl a n o) (repl b n o)
  | .put a b, n, o => .put (repl a n o) (repl b n o)
  | .ring m k a b, n, o => .ring m k a (repl b n o)
/-- the rounds, one in another -/
def rounds (start step : Qn) (n : Str) : Nat → Qn
  | 0 => start
  | k + 1 => .put start (repl step n (rounds start step n k))
def unr : Qn → Qn
  | .table n => .table n
  | .pick t q => .pick t (unr q)
  | .keep cs q => .keep cs (unr q)
  | .call o n q => .call o n (unr q)
  | .join a b => .join (unr a) (unr b)
  | .put a b => .put (unr a) (unr b)
  | .ring n k a b => rounds (unr a) (unr b) n k
theorem rf_repl : ∀ (q : Qn) (n : Str) (o : Qn), q.rf = true → o.rf = true → (repl q n o).rf = true
  | .table m, n, o, _, h => by
    unfold repl
    split
    · exact h
    · rfl
  | .pick _ q, n, o, h, h2 => rf_repl q n o h h2
  | .keep _ q, n, o, h, h2 => rf_repl q n o h h2
  | .call _ _ q, n, o, h, h2 => rf_repl q n o h h2
  | .join a b, n, o, h, h2 => by
    have h' := Bool.and_eq_true_iff.mp h
    exact Bool.and_eq_true_iff.mpr ⟨rf_repl a n o h'.1 h2, rf_repl b n o h'.2 h2⟩
  | .put a b, n, o, h, h2 => by
    have h' := Bool.and_eq_true_iff.mp h
    exact Bool.and_eq_true_iff.mpr ⟨rf_repl a n o h'.1 h2, rf_repl b n o h'.2 h2⟩
  | .ring _ _ _ _, _, _, h, _ => nomatch h
theorem rf_rounds {a b : Qn} (n : Str) (ha : a.rf = true) (hb : b.rf = true) : ∀ k, (rounds a b n k).rf = true
  | 0 => ha
  | k + 1 => Bool.and_eq_true_iff.mpr ⟨ha, rf_repl b n _ hb (rf_rounds n ha hb k)⟩
theorem rf_unr : ∀ q : Qn, (unr q).rf = true
  | .table n => rfl
  | .pick t q => rf_unr q
  | .keep cs q => rf_unr q
  | .call o n q => rf_unr q
  | .join a b => Bool.and_eq_true_iff.mpr ⟨rf_unr a, rf_unr b⟩
  | .put a b => Bool.and_eq_true_iff.mpr ⟨rf_unr a, rf_unr b⟩
  | .ring n k a b => rf_rounds n (rf_unr a) (rf_unr b) k

/-! ### heads -/
abbrev Hs := List (Str × List Str)
def callH (o n : Str) (hd : List Str) : List Str := hd.map fun c => if c = o then n else c
def joinX (one other : List Str) : List Str := other.filter fun c => !one.contains c
def hdQ (hs : Hs) : Qn → List Str
  | .table n => (hs.lookup n).getD []
  | .pick _ q => hdQ hs q
  | .keep cs _ => cs
  | .call o n q => callH o n (hdQ hs q)
  | .join a b => hdQ hs a ++ joinX (hdQ hs a) (hdQ hs b)
  | .put a _ => hdQ hs a
  | .ring _ _ a _ => hdQ hs a
/-- a question without rings that has a head; the head's columns are each once, and few -/
def Ok (hs : Hs) : Qn → Prop
  | .table n => ∃ h, hs.lookup n = some h ∧ h.Nodup ∧ h.length ≤ 6
  | .pick t q => Ok hs q ∧ (∀ c ∈ told t, c ∈ hdQ hs q) ∧ t.dep ≤ 5 ∧ t.ok = true
  | .keep cs q => Ok hs q ∧ cs.Nodup ∧ (∀ c ∈ cs, c ∈ hdQ hs q) ∧ cs.length ≤ 6
  | .call o n q => Ok hs q ∧ o ∈ hdQ hs q ∧ (n ∈ hdQ hs q → n = o)
  | .join a b => Ok hs a ∧ Ok hs b ∧ (hdQ hs a ++ joinX (hdQ hs a) (hdQ hs b)).length ≤ 6
  | .put a b => Ok hs a ∧ Ok hs b ∧ ∀ c, c ∈ hdQ hs a ↔ c ∈ hdQ hs b
  | .ring _ _ _ _ => False
/-- how many rows come together -/
def deg : Qn → Nat
  | .table _ => 1
  | .pick _ q => deg q
  | .keep _ q => deg q
  | .call _ _ q => deg q
  | .join a b => deg a + deg b
  | .put a b => max (deg a) (deg b)
  | .ring _ _ a b => deg a + deg b

/-! ### trees -/
inductive UW where
  | pick | keep | call | first | second
  deriving DecidableEq
def UW.w : UW → Str
  | .pick => "pick"
  | .keep => "keep"
  | .call => "call"
  | .first => "first"
  | .second => "second"
inductive Tr where
  | row (n : Str)
  | un (w : UW) (t : Tr)
  | join (a b : Tr)
def encR : Tr → D
  | .row n => .tup [sD "row", sD n]
  | .un w t => .tup [sD w.w, encR t]
  | .join a b => .tup [sD "join", encR a, encR b]
def Tr.dep : Tr → Nat
  | .row _ => 1
  | .un _ t => t.dep + 1
  | .join a b => max a.dep b.dep + 1
def lvs : Tr → List Str
  | .row n => [n]
  | .un _ t => lvs t
  | .join a b => lvs a ++ lvs b

/-! ### what stands: (table, name, row) -/
structure Rw where
  tab : Str
  name : Str
  row : List V
def spot (st : List Rw) (t n : Str) : Option (List V) := (st.find? fun o => decide (o.tab = t) && decide (o.name = n)).map (·.row)
abbrev HR := Option (List Str × List V)
def joinR (x y : List Str × List V) : HR :=
  if vals x.1 x.2 (y.1.filter fun c => x.1.contains c) = vals y.1 y.2 (y.1.filter fun c => x.1.contains c) then some (x.1 ++ joinX x.1 y.1, x.2 ++ vals y.1 y.2 (joinX x.1 y.1)) else none
/-- the head and the row that a tree brings -/
def brg (hs : Hs) (st : List Rw) : Tr → Qn → HR
  | .row m, .table n => (spot st n m).map fun r => ((hs.lookup n).getD [], r)
  | _, .table _ => none
  | .un .first t, .put a _ => brg hs st t a
  | .un .second t, .put a b => (brg hs st t b).map fun x => (hdQ hs a, vals x.1 x.2 (hdQ hs a))
  | _, .put _ _ => none
  | .join t u, .join a b => match brg hs st t a, brg hs st u b with
    | some x, some y => joinR x y
    | _, _ => none
  | _, .join _ _ => none
  | .un .pick t, .pick c q => match brg hs st t q with
    | some x => if pas c x.1 x.2 then some x else none
    | none => none
  | _, .pick _ _ => none
  | .un .keep t, .keep cs q => (brg hs st t q).map fun x => (cs, vals x.1 x.2 cs)
  | _, .keep _ _ => none
  | .un .call t, .call o n q => (brg hs st t q).map fun x => (callH o n x.1, x.2)
  | _, .call _ _ _ => none
  | _, .ring _ _ _ _ => none
def encO : HR → D
  | none => .a .non
  | some x => .tup [tS x.1, tV x.2]
end Wh

/-! # Operators that are read by lemma only -/
namespace Wh
open PySem L2
@[irreducible] def jIn (neg : Bool) : D2 := dIn neg
@[irreducible] def jEq (neg : Bool) : D2 := dEq neg
@[irreducible] def jAdd : D2 := dAdd
@[irreducible] def jIx : D2 := dIx
theorem DO.as {X : Cx} {f : Value → Value → Sem Value} {r : R2} {g g' : D2} (h : DO X f r g) (e : ∀ d e k, g' d e k → g d e k) : DO X f r g' := ⟨h.op, fun F H d e' x y k Q s hx hy hg q => h.dv F H d e' x y k Q s hx hy (e d e' k hg) q⟩
section
variable {X : Cx} {C : Addr}
theorem p_in (hu : X.A.units + 1 < cLine) : DO X (compareOp .In) (rIn2 X.K false) (jIn false) := (o_in hu).as fun d e k h => by unfold jIn at h; exact h
theorem p_notIn (hu : X.A.units + 1 < cLine) : DO X (compareOp .NotIn) (rIn2 X.K true) (jIn true) := (o_notIn hu).as fun d e k h => by unfold jIn at h; exact h
theorem p_eq (hu : X.A.units + 64 < cLine) : DO X (compareOp .Eq) (rEq2 X.K) (jEq false) := (o_eq hu).as fun d e k h => by unfold jEq at h; exact h
theorem p_ne (hu : X.A.units + 64 < cLine) : DO X (compareOp .NotEq) (rNe2 X.K) (jEq true) := (o_ne hu).as fun d e k h => by unfold jEq at h; exact h
theorem p_add : DO X (binaryOp .Add) (rAdd4 X.K) jAdd := o_add.as fun d e k h => by unfold jAdd at h; exact h
theorem dv_jix {K : PySem.W.Frag} : ∀ (F H : Hp) (d e : D) (x y : V) (k : D → Prop) (Q : VK), Same F H → Is K F d x → Is K F e y → jIx d e k → (∀ d v F' H', Ext F H F' H' → Is K F' d v → k d → Q v H') → rIx4 K x y H Q := fun F H d e x y k Q s hx hy h q => dix_dv F H d e x y k Q s hx hy (by unfold jIx at h; exact h) q
theorem de_ixJ {a b : Expr} {ta tb : TE} {wa wb : DT} {pos : Pos} (hu : X.A.units + 1 < cLine) (ha : DE X C a ta wa) (hb : DE X C b tb wb) (hs : PlainIx b := by intro _ _; rfl) : DE X C (.Subscript a b pos) (tOp (rIx4 X.K) ta tb) (dOp jIx wa wb) :=
  ⟨pe_ix (IxR.or ix_seq (ix_dict hu)) ha.pe hb.pe hs, dv_op dv_jix ha.dv hb.dv⟩
/-- a call for its own sake -/
def dExpr (we : DT) : DTS := fun ρ k => we ρ fun _ => k.nx ρ
theorem ds_expr {e : Expr} {te : TE} {we : DT} {pos : Pos} (he : DE X C e te we) (hs : swapsWith e none pos.line X.env = pure false := by rfl) : DS X C (.Expr e pos) (tDrop te) (dExpr we) :=
  ⟨ps_expr he.pe hs, fun F0 H0 F H σ ρ k E en h ok => he.dv _ _ _ _ _ _ _ _ en h fun d v F' H' x i hk => ok.nx F' H' σ ρ (en.grow x) hk⟩
end
end Wh

/-! # Steps of the readings, in short -/
namespace Wh
open PySem L2
/-! ### places -/
theorem idx_at {hd : List Str} {c : Str} (h : c ∈ hd) : hd[hd.idxOf c]? = some c := by
  have h1 := List.idxOf_lt_length_of_mem h
  rw [List.getElem?_eq_getElem h1, List.getElem_idxOf h1]
theorem idx_first {hd : List Str} {c : Str} : ∀ m, m < hd.idxOf c → hd[m]? ≠ some c := by
  intro m hm e
  have h1 := List.mem_of_getElem? e
  obtain ⟨h2, h3⟩ := List.getElem?_eq_some_iff.mp e
  have := List.not_of_lt_findIdx (p := (· == c)) (xs := hd) (i := m) hm
  simp [h3] at this
theorem atI_nat {α : Type} {xs : List α} {j : Nat} {x : α} (h : xs[j]? = some x) : atI xs (j : Int) = some x := by
  have hj := (List.getElem?_eq_some_iff.mp h).1
  unfold atI ixN
  rw [if_pos (by omega), if_pos (by omega), Int.toNat_natCast]
  exact h
theorem val_at {hd : List Str} {row : List V} {c : Str} (hl : row.length = hd.length) (h : c ∈ hd) : row[hd.idxOf c]? = some (val hd row c) := by
  have h1 := List.idxOf_lt_length_of_mem h
  rw [← hl] at h1
  unfold val
  rw [List.getElem?_eq_getElem h1] <;> rfl
theorem ix_row {hd : List Str} {row : List V} {c : Str} {k : D → Prop} (hl : row.length = hd.length) (h : c ∈ hd) (hk : k (.a (val hd row c))) : jIx (tV row) (.a (.int ((hd.idxOf c : Nat) : Int))) k := by
  unfold jIx
  have e : atI (row.map D.a) ((hd.idxOf c : Nat) : Int) = some (.a (val hd row c)) := atI_nat (by rw [List.getElem?_map, val_at hl h]; rfl)
  unfold tV dIx
  simp only [e]
  exact hk
/-- row[head.index(c)] -/
theorem ix_go {hd : List Str} {row : List V} {c : Str} {k : D → Prop} (hl : row.length = hd.length) (h : c ∈ hd) (hk : k (.a (val hd row c))) :
    ∃ ys : List Str, strsD hd = strsD ys ∧ ∃ j : Nat, ys[j]? = some c ∧ (∀ m, m < j → ys[m]? ≠ some c) ∧ jIx (tV row) (.a (.int (j : Nat))) k := ⟨hd, rfl, _, idx_at h, idx_first, ix_row hl h hk⟩
/-- x[i], x a tuple or a list, i a place -/
theorem tix {ds : List D} {d : D} {i : Int} {j : Nat} {k : D → Prop} (e : i = (j : Int)) (h : ds[j]? = some d) (hk : k d) : jIx (.tup ds) (.a (.int i)) k := by
  unfold jIx
  subst e
  unfold dIx
  simp only [atI_nat h]
  exact hk
theorem lix {ds : List D} {d : D} {i : Int} {j : Nat} {k : D → Prop} (e : i = (j : Int)) (h : ds[j]? = some d) (hk : k d) : jIx (.lst ds) (.a (.int i)) k := by
  unfold jIx
  subst e
  unfold dIx
  simp only [atI_nat h]
  exact hk
/-! ### comprehensions -/
theorem lc_go {ds : List D} {wt : DTT} {we : DT} {ρ : DSt} {vs : List Nat} {j : Nat} {k : List D → Prop} (g : D → Option D)
    (hs : ∀ d, d ∈ ds → ∀ (R : List D → Prop) acc, R (acc ++ (g d).toList) → wt (blkD ρ vs j d) fun b => if b = true then we (blkD ρ vs j d) fun y => R (acc ++ [y]) else R acc) (hk : k (ds.filterMap g)) :
    ∃ P : Nat → List D → Prop, P 0 [] ∧ (∀ i d acc, ds[i]? = some d → P i acc → wt (blkD ρ vs j d) fun b => if b = true then we (blkD ρ vs j d) fun y => P (i + 1) (acc ++ [y]) else P (i + 1) acc) ∧ ∀ acc, P ds.length acc → k acc := by
  refine ⟨fun i acc => acc = (ds.take i).filterMap g, rfl, fun i d acc hd e => ?_, fun acc e => ?_⟩
  · refine hs d (List.mem_of_getElem? hd) (fun acc => acc = (ds.take (i + 1)).filterMap g) acc ?_
    have z : List.filterMap g (some d).toList = (g d).toList := by
      rw [Option.toList_some, List.filterMap_cons]
      cases g d <;> rfl
    rw [e, List.take_add_one, hd, List.filterMap_append, z]
  · rw [e, List.take_length]
    exact hk
theorem lc_strs {cs : List Str} {wt : DTT} {we : DT} {ρ : DSt} {vs : List Nat} {j : Nat} {k : List D → Prop} (g : Str → Option D)
    (hs : ∀ c, c ∈ cs → ∀ (R : List D → Prop) acc, R (acc ++ (g c).toList) → wt (blkD ρ vs j (sD c)) fun b => if b = true then we (blkD ρ vs j (sD c)) fun y => R (acc ++ [y]) else R acc) (hk : k (cs.filterMap g)) :
    ∃ P : Nat → List D → Prop, P 0 [] ∧ (∀ i d acc, (strsD cs)[i]? = some d → P i acc → wt (blkD ρ vs j d) fun b => if b = true then we (blkD ρ vs j d) fun y => P (i + 1) (acc ++ [y]) else P (i + 1) acc) ∧ ∀ acc, P (strsD cs).length acc → k acc := by
  let g' : D → Option D := fun d => match d with
    | .a (.str z) => g z
    | _ => none
  refine lc_go g' (fun d hd R acc hR => ?_) ?_
  · obtain ⟨c, hc, rfl⟩ := List.mem_map.mp hd
    exact hs c hc R acc hR
  · have e : (strsD cs).filterMap g' = cs.filterMap g := by
      unfold strsD
      rw [List.filterMap_map]
      rfl
    rw [e]
    exact hk
theorem fm_some {α β : Type} (f : α → β) (l : List α) : l.filterMap (fun x => some (f x)) = l.map f := by
  induction l with
  | nil => rfl
  | cons x r ih => simp
/-! ### membership -/
theorem inV_strs (c : Str) : ∀ hd : List Str, inV (.str c) ((strsD hd).map scD) = hd.contains c
  | [] => rfl
  | x :: r => by
    have ih := inV_strs c r
    unfold inV at ih ⊢
    simp only [strsD, List.map_cons, List.any_cons, List.contains_cons] at ih ⊢
    rw [← ih]
    congr 1
    show (x == c) = (c == x)
    exact BEq.comm
theorem flat_strsD (hd : List Str) : (strsD hd).all flatD = true := by
  unfold strsD
  rw [List.all_map]
  exact List.all_eq_true.mpr fun _ _ => rfl
/-- c in head, c not in head -/
theorem in_go {neg : Bool} {c : Str} {hd : List Str} {k : D → Prop} (hk : k (.a (.bl (if neg then !hd.contains c else hd.contains c)))) : jIn neg (sD c) (tS hd) k := by
  unfold jIn
  exact ⟨rfl, flat_strsD hd, by rw [inV_strs]; exact hk⟩
theorem in_goL {neg : Bool} {c : Str} {hd : List Str} {k : D → Prop} (hk : k (.a (.bl (if neg then !hd.contains c else hd.contains c)))) : jIn neg (sD c) (lS hd) k := by
  unfold jIn
  exact ⟨rfl, flat_strsD hd, by rw [inV_strs]; exact hk⟩
/-! ### texts and values as data -/
theorem tV_len (xs : List V) : (xs.map D.a).length = xs.length := List.length_map _
theorem tV_append (xs ys : List V) : (xs ++ ys).map D.a = xs.map D.a ++ ys.map D.a := List.map_append
theorem pydL_a : ∀ xs : List V, pydL (xs.map D.a) = xs.map pyV
  | [] => rfl
  | x :: r => by
    rw [List.map_cons, List.map_cons, ← pydL_a r]
    rfl
theorem pyok_vals : ∀ {xs : List V}, (∀ x ∈ xs, okV x = true) → pyokL (xs.map D.a) = true ∧ PyData.canLayAll0 (xs.map pyV) = true ∧ PyData.depthAll (xs.map pyV) ≤ 1
  | [], _ => ⟨rfl, rfl, by decide⟩
  | x :: r, h => by
    have h1 := h x List.mem_cons_self
    obtain ⟨i1, i2, i3⟩ := pyok_vals fun y hy => h y (List.mem_cons_of_mem _ hy)
    have e1 : pyokV x = true ∧ PyData.canLay0 (pyV x) = true ∧ PyData.depth (pyV x) ≤ 1 := by
      cases x with
      | int i => exact ⟨rfl, rfl, Nat.zero_le 1⟩
      | str z => exact ⟨rfl, h1, Nat.zero_le 1⟩
      | _ => cases h1
    refine ⟨?_, ?_, ?_⟩
    · show (pyokV x && pyokL (r.map D.a)) = true
      rw [i1, e1.1]; rfl
    · show (PyData.canLay0 (pyV x) && PyData.canLayAll0 (r.map pyV)) = true
      rw [i2, e1.2.1]; rfl
    · show max (PyData.depth (pyV x)) (PyData.depthAll (r.map pyV)) ≤ 1
      exact Nat.max_le.mpr ⟨e1.2.2, i3⟩
theorem eqOk_vals {xs ys : List V} (hx : ∀ x ∈ xs, okV x = true) (hy : ∀ y ∈ ys, okV y = true) : EqOk (tV xs) (tV ys) := by
  obtain ⟨a1, a2, a3⟩ := pyok_vals hx
  obtain ⟨b1, b2, b3⟩ := pyok_vals hy
  refine ⟨a1, b1, ?_, ?_⟩
  · show SeqAt.shaped (.tuple (pydL (xs.map D.a))) = true
    rw [pydL_a]
    exact Bool.and_eq_true_iff.mpr ⟨a2, decide_eq_true (by show PyData.depthAll (xs.map pyV) + 1 ≤ 64; omega)⟩
  · show SeqAt.shaped (.tuple (pydL (ys.map D.a))) = true
    rw [pydL_a]
    exact Bool.and_eq_true_iff.mpr ⟨b2, decide_eq_true (by show PyData.depthAll (ys.map pyV) + 1 ≤ 64; omega)⟩
theorem eqv_vals : ∀ {xs ys : List V}, (∀ x ∈ xs, okV x = true) → (∀ y ∈ ys, okV y = true) → PyData.eqvAll (xs.map pyV) (ys.map pyV) = decide (xs = ys)
  | [], [], _, _ => rfl
  | [], y :: s, _, _ => rfl
  | x :: r, [], _, _ => rfl
  | x :: r, y :: s, hx, hy => by
    have ih := eqv_vals (xs := r) (ys := s) (fun z hz => hx z (List.mem_cons_of_mem _ hz)) (fun z hz => hy z (List.mem_cons_of_mem _ hz))
    have h1 := hx x List.mem_cons_self
    have h2 := hy y List.mem_cons_self
    have e1 : PyData.eqv (pyV x) (pyV y) = decide (x = y) := by
      cases x with
      | int i =>
        cases y with
        | int j =>
          show (i == j) = decide (V.int i = V.int j)
          by_cases e : i = j
          · subst e; simp
          · rw [decide_eq_false (fun z => e (by injection z))]; simpa using e
        | str z => rfl
        | _ => cases h2
      | str a =>
        cases y with
        | int j => rfl
        | str z =>
          show (a == z) = decide (V.str a = V.str z)
          by_cases e : a = z
          · subst e; simp
          · rw [decide_eq_false (fun q => e (by injection q))]; simpa using e
        | _ => cases h2
      | _ => cases h1
    show (PyData.eqv (pyV x) (pyV y) && PyData.eqvAll (r.map pyV) (s.map pyV)) = _
    rw [e1, ih]
    by_cases e : x = y
    · subst e
      by_cases e2 : r = s
      · subst e2; simp
      · rw [decide_eq_false e2, decide_eq_false (fun z => e2 (List.cons.inj z).2)]; simp
    · rw [decide_eq_false e, decide_eq_false (fun z => e (List.cons.inj z).1)]; rfl
/-- rows compared -/
theorem eq_rows {neg : Bool} {xs ys : List V} {k : D → Prop} (hx : ∀ x ∈ xs, okV x = true) (hy : ∀ y ∈ ys, okV y = true) (hk : k (.a (.bl (if neg then !decide (xs = ys) else decide (xs = ys))))) : jEq neg (tV xs) (tV ys) k := by
  unfold jEq
  refine ⟨eqOk_vals hx hy, ?_⟩
  have e : PyData.eqv (pyd (tV xs)) (pyd (tV ys)) = decide (xs = ys) := by
    show PyData.eqvAll (pydL (xs.map D.a)) (pydL (ys.map D.a)) = _
    rw [pydL_a, pydL_a]
    exact eqv_vals hx hy
  rw [e]
  exact hk
theorem tS_tV (xs : List Str) : tS xs = tV (xs.map V.str) := by
  unfold tS tV strsD
  rw [List.map_map]
  rfl
theorem lS_lV (xs : List Str) : lS xs = lV (xs.map V.str) := by
  unfold lS lV strsD
  rw [List.map_map]
  rfl
theorem ok_strs {xs : List Str} (h : ∀ c ∈ xs, sOk c = true) : ∀ x ∈ xs.map V.str, okV x = true := fun x hx => by
  obtain ⟨c, hc, rfl⟩ := List.mem_map.mp hx
  exact h c hc
/-- a value and a value: by == of scalars -/
theorem eq_val {neg : Bool} {x y : V} {k : D → Prop} (hx : okV x = true) (hy : okV y = true) (hk : k (.a (.bl (if neg then !decide (x = y) else decide (x = y))))) : jEq neg (.a x) (.a y) k := by
  unfold jEq
  refine ⟨?_, hk⟩
  cases x <;> cases y <;> first | rfl | exact absurd hx Bool.false_ne_true | exact absurd hy Bool.false_ne_true
/-- a value and a value of a known answer -/
theorem eq_t {x y : V} {neg b : Bool} {k : D → Prop} (hs : scal x y = true) (e : (if neg then !decide (x = y) else decide (x = y)) = b) (hk : k (.a (.bl b))) : jEq neg (.a x) (.a y) k := by unfold jEq; exact ⟨hs, by rw [e]; exact hk⟩
/-! ### + -/
theorem add_t {xs ys : List D} {k : D → Prop} (hz : xs.length + ys.length ≤ sizeLine) (hk : k (.tup (xs ++ ys))) : jAdd (.tup xs) (.tup ys) k := by unfold jAdd; exact ⟨hz, hk⟩
theorem add_l {xs ys : List D} {k : D → Prop} (hz : xs.length + ys.length ≤ sizeLine) (hk : k (.lst (xs ++ ys))) : jAdd (.lst xs) (.lst ys) k := by unfold jAdd; exact ⟨hz, hk⟩
theorem add_i {i j : Int} {k : D → Prop} (hk : k (.a (.int (i + j)))) : jAdd (.a (.int i)) (.a (.int j)) k := by unfold jAdd; exact hk
theorem add_s {x y : Str} {k : D → Prop} (hz : x.length + y.length ≤ sizeLine) (hk : k (.a (.str (x ++ y)))) : jAdd (.a (.str x)) (.a (.str y)) k := by unfold jAdd; exact ⟨hz, hk⟩
theorem add_tS {xs ys : List Str} {k : D → Prop} (hz : xs.length + ys.length ≤ sizeLine) (hk : k (tS (xs ++ ys))) : jAdd (tS xs) (tS ys) k := by unfold jAdd; exact ⟨by rw [strsD_len, strsD_len]; exact hz, by unfold tS at hk; rw [strsD_append] at hk; exact hk⟩
theorem add_lS {xs ys : List Str} {k : D → Prop} (hz : xs.length + ys.length ≤ sizeLine) (hk : k (lS (xs ++ ys))) : jAdd (lS xs) (lS ys) k := by unfold jAdd; exact ⟨by rw [strsD_len, strsD_len]; exact hz, by unfold lS at hk; rw [strsD_append] at hk; exact hk⟩
theorem add_tV {xs ys : List V} {k : D → Prop} (hz : xs.length + ys.length ≤ sizeLine) (hk : k (tV (xs ++ ys))) : jAdd (tV xs) (tV ys) k := by unfold jAdd; exact ⟨by rw [tV_len, tV_len]; exact hz, by unfold tV at hk; rw [tV_append] at hk; exact hk⟩
theorem dix {ks : List Str} {ds : List D} {z : Str} {d : D} {k : D → Prop} (h : dfind ks ds z = some d) (hk : k d) : jIx (.dic ks ds) (.a (.str z)) k := by
  unfold jIx
  unfold dIx
  simp only [h]
  exact hk
theorem in_dic {neg : Bool} {ks : List Str} {ds : List D} {z : Str} {k : D → Prop} (hk : k (.a (.bl (if neg then !ks.contains z else ks.contains z)))) : jIn neg (.a (.str z)) (.dic ks ds) k := by unfold jIn; exact hk
end Wh

/-! # The program's defs over heads, rows, tests -/
namespace Wh
open PySem L2
/-- a promise by its arguments, what must hold of them, what comes of them -/
def fs {ι : Type} (args : ι → List D) (pre : ι → Prop) (out : ι → D → Prop) : FS := ⟨fun _ ds k => ∃ i, ds = args i ∧ pre i ∧ ∀ d, out i d → k d, fun _ _ _ _ h ⟨i, e, p, q⟩ => ⟨i, e, p, fun d o => h d (q d o)⟩⟩
theorem fs_len {ι : Type} {args : ι → List D} {pre : ι → Prop} {out : ι → D → Prop} {n : Nat} (h : ∀ i, (args i).length = n) : ∀ so ds k, (fs args pre out).run so ds k → ds.length = n := fun _ _ _ ⟨i, e, _, _⟩ => by rw [e]; exact h i
section
variable {P : Program} {w : World} {K : PySem.W.Frag} {mg : Str → Option Value} {base : Heap} {C : Addr}
/-! ### values_in -/
def fsVals : FS := fs (ι := List Str × List V × List Str × Bool) (fun ⟨hd, row, cs, b⟩ => [tS hd, tV row, if b then tS cs else lS cs]) (fun ⟨hd, row, cs, b⟩ => row.length = hd.length ∧ (∀ c ∈ cs, c ∈ hd) ∧ cs.length ≤ 100) (fun ⟨hd, row, cs, b⟩ d => d = tV (vals hd row cs))
theorem vals_fm (hd : List Str) (row : List V) (cs : List Str) : (cs.filterMap fun c => some (D.a (val hd row c))) = (vals hd row cs).map D.a := by
  rw [fm_some]
  unfold vals
  rw [List.map_map]
  rfl
abbrev s_values_in : Stmt := top 25
theorem sc_values_in : FnScope ["head", "row", "columns", "column"] ["head", "row", "columns"] (defScope s_values_in) := ⟨rfl, rfl, rfl, by decide +kernel, rfl, by decide +kernel, by decide +kernel⟩
theorem c_values_in (T : Txt mg) (Df : DefAt K mg "values_in" s_values_in) : Callee P w K mg base C 1 "values_in" ["head", "row", "columns"] fsVals := by
  refine def_ok Df sc_values_in (fun _ _ _ _ _ _ us hl => match us, hl with | [_, _, _], _ => rfl) (fs_len fun _ => rfl) fun fa cdv A outer s H E hr => ⟨_, _,
    (dss_one (ds_ret (de_callT c_tuple T.m_tuple boot_tuple (da_cons (de_lcX (own := [("column", 3)]) (j := 3) rfl sc_values_in.nd (di_seq (de_var 2)) (blkOk_by (own := [("column", 3)]) (N := ["head", "row", "columns", "column"]) (sc := defScope s_values_in) (by decide +kernel)) (by decide) (fun _ _ _ _ _ => pg_name (i := 3) sc_values_in.nd rfl (Or.inl rfl)) (fun _ _ _ _ _ => ⟨_, dts_nil⟩) (fun _ _ _ _ _ => ⟨_, (de_ixJ (hu_of hr) (de_var 1) (de_index (de_var 0) (de_var 3)))⟩)) da_nil)))), ?_⟩
  rintro so ds k ⟨⟨hd, row, cs, b⟩, rfl, ⟨hl, hm, hz⟩, hk⟩
  cases b with
  | true =>
    refine ⟨by rw [strsD_len]; omega, lc_strs (cs := cs) (fun c => some (.a (val hd row c))) ?_ ?_⟩
    · exact fun c hc R acc hR => ix_go hl (hm c hc) hR
    · exact hk _ (by rw [vals_fm]; rfl)
  | false =>
    refine ⟨by rw [strsD_len]; omega, lc_strs (cs := cs) (fun c => some (.a (val hd row c))) ?_ ?_⟩
    · exact fun c hc R acc hR => ix_go hl (hm c hc) hR
    · exact hk _ (by rw [vals_fm]; rfl)
abbrev s_l_values : Stmt := top 59
theorem sc_l_values : FnScope ["_law_head", "_law_row", "_law_columns", "_law_column"] ["_law_head", "_law_row", "_law_columns"] (defScope s_l_values) := ⟨rfl, rfl, rfl, by decide +kernel, rfl, by decide +kernel, by decide +kernel⟩
theorem c_l_values (T : Txt mg) (Df : DefAt K mg "_law_values" s_l_values) : Callee P w K mg base C 1 "_law_values" ["_law_head", "_law_row", "_law_columns"] fsVals := by
  refine def_ok Df sc_l_values (fun _ _ _ _ _ _ us hl => match us, hl with | [_, _, _], _ => rfl) (fs_len fun _ => rfl) fun fa cdv A outer s H E hr => ⟨_, _,
    (dss_one (ds_ret (de_callT c_tuple T.m_tuple boot_tuple (da_cons (de_lcX (own := [("_law_column", 3)]) (j := 3) rfl sc_l_values.nd (di_seq (de_var 2)) (blkOk_by (own := [("_law_column", 3)]) (N := ["_law_head", "_law_row", "_law_columns", "_law_column"]) (sc := defScope s_l_values) (by decide +kernel)) (by decide) (fun _ _ _ _ _ => pg_name (i := 3) sc_l_values.nd rfl (Or.inl rfl)) (fun _ _ _ _ _ => ⟨_, dts_nil⟩) (fun _ _ _ _ _ => ⟨_, (de_ixJ (hu_of hr) (de_var 1) (de_index (de_var 0) (de_var 3)))⟩)) da_nil)))), ?_⟩
  rintro so ds k ⟨⟨hd, row, cs, b⟩, rfl, ⟨hl, hm, hz⟩, hk⟩
  cases b with
  | true =>
    refine ⟨by rw [strsD_len]; omega, lc_strs (cs := cs) (fun c => some (.a (val hd row c))) ?_ ?_⟩
    · exact fun c hc R acc hR => ix_go hl (hm c hc) hR
    · exact hk _ (by rw [vals_fm]; rfl)
  | false =>
    refine ⟨by rw [strsD_len]; omega, lc_strs (cs := cs) (fun c => some (.a (val hd row c))) ?_ ?_⟩
    · exact fun c hc R acc hR => ix_go hl (hm c hc) hR
    · exact hk _ (by rw [vals_fm]; rfl)
/-! ### joined_head -/
def fsJoinH : FS := fs (ι := List Str × List Str) (fun ⟨a, b⟩ => [tS a, tS b]) (fun ⟨a, b⟩ => a.length ≤ 100 ∧ b.length ≤ 100) (fun ⟨a, b⟩ d => d = tS (a ++ joinX a b))
theorem joinX_fm (a b : List Str) : (b.filterMap fun c => if a.contains c then none else some (sD c)) = strsD (joinX a b) := by
  unfold joinX strsD
  induction b with
  | nil => rfl
  | cons x r ih =>
    rw [List.filterMap_cons, List.filter_cons, ih]
    by_cases h : a.contains x = true
    · rw [if_pos h, h]; rfl
    · have h' : a.contains x = false := by simpa using h
      rw [h']; rfl
theorem joinX_len (a b : List Str) : (joinX a b).length ≤ b.length := List.length_filter_le _ _
abbrev s_joined_head : Stmt := top 12
theorem sc_joined_head : FnScope ["head", "other", "column"] ["head", "other"] (defScope s_joined_head) := ⟨rfl, rfl, rfl, by decide +kernel, rfl, by decide +kernel, by decide +kernel⟩
theorem c_joined_head (T : Txt mg) (Df : DefAt K mg "joined_head" s_joined_head) : Callee P w K mg base C 1 "joined_head" ["head", "other"] fsJoinH := by
  refine def_ok Df sc_joined_head (fun _ _ _ _ _ _ us hl => match us, hl with | [_, _], _ => rfl) (fs_len fun _ => rfl) fun fa cdv A outer s H E hr => ⟨_, _,
    (dss_one (ds_ret (de_op p_add (de_var 0) (de_callT c_tuple T.m_tuple boot_tuple (da_cons (de_lcX (own := [("column", 2)]) (j := 2) rfl sc_joined_head.nd (di_seq (de_var 1)) (blkOk_by (own := [("column", 2)]) (N := ["head", "other", "column"]) (sc := defScope s_joined_head) (by decide +kernel)) (by decide) (fun _ _ _ _ _ => pg_name (i := 2) sc_joined_head.nd rfl (Or.inl rfl)) (fun _ _ _ _ _ => ⟨_, (dts_one (dp_cmp (p_notIn (hu_of hr)) (de_var 2) (de_var 0)))⟩) (fun _ _ _ _ _ => ⟨_, (de_var 2)⟩)) da_nil))))), ?_⟩
  rintro so ds k ⟨⟨a, b⟩, rfl, ⟨hl, hm⟩, hk⟩
  refine ⟨by rw [strsD_len]; omega, lc_strs (cs := b) (fun c => if a.contains c then none else some (sD c)) ?_ ?_⟩
  · intro c hc R acc hR
    refine in_go ?_
    by_cases h : a.contains c = true
    · rw [if_pos h] at hR
      simp only [h]
      simpa using hR
    · have h' : a.contains c = false := by simpa using h
      rw [if_neg h] at hR
      simp only [h']
      exact hR
  · rw [joinX_fm]
    have z := joinX_len a b
    exact add_tS (by rw [sizeLine_eq]; omega) (hk _ rfl)
end
end Wh

namespace Wh
open PySem L2
section
variable {P : Program} {w : World} {K : PySem.W.Frag} {mg : Str → Option Value} {base : Heap} {C : Addr}
/-! ### join_rows -/
theorem val_ok {hd : List Str} {row : List V} {c : Str} (hl : row.length = hd.length) (h : c ∈ hd) (ok : ∀ x ∈ row, okV x = true) : okV (val hd row c) = true := ok _ (List.mem_of_getElem? (val_at hl h))
theorem vals_ok {hd : List Str} {row : List V} {cs : List Str} (hl : row.length = hd.length) (h : ∀ c ∈ cs, c ∈ hd) (ok : ∀ x ∈ row, okV x = true) : ∀ x ∈ vals hd row cs, okV x = true := fun x hx => by
  obtain ⟨c, hc, rfl⟩ := List.mem_map.mp hx
  exact val_ok hl (h c hc) ok
theorem vals_len (hd : List Str) (row : List V) (cs : List Str) : (vals hd row cs).length = cs.length := List.length_map _
theorem joinX_mem {a b : List Str} {c : Str} (h : c ∈ joinX a b) : c ∈ b := (List.mem_filter.mp h).1
def sharedH (one other : List Str) : List Str := other.filter fun c => one.contains c
theorem shared_fm (a b : List Str) : (b.filterMap fun c => if a.contains c then some (sD c) else none) = strsD (sharedH a b) := by
  unfold sharedH strsD
  induction b with
  | nil => rfl
  | cons x r ih =>
    rw [List.filterMap_cons, List.filter_cons, ih]
    by_cases h : a.contains x = true
    · rw [if_pos h, h]; rfl
    · have h' : a.contains x = false := by simpa using h
      rw [h']; rfl
/-- [c for c in cs if c in hd] -/
theorem lc_in {neg : Bool} {hd cs : List Str} {ρ : DSt} {vs : List Nat} {j jh : Nat} {k : List D → Prop} (hh : ∀ c, (blkD ρ vs j (sD c)).sl[jh]? = some (some (tS hd))) (hj : ∀ c, (blkD ρ vs j (sD c)).sl[j]? = some (some (sD c))) (hk : k (strsD (if neg then joinX hd cs else sharedH hd cs))) :
    ∃ P : Nat → List D → Prop, P 0 [] ∧ (∀ i d acc, (strsD cs)[i]? = some d → P i acc → dTest (dOp (jIn neg) (dVar j) (dVar jh)) (blkD ρ vs j d) fun b => if b = true then dVar j (blkD ρ vs j d) fun y => P (i + 1) (acc ++ [y]) else P (i + 1) acc) ∧ ∀ acc, P (strsD cs).length acc → k acc := by
  refine lc_strs (cs := cs) (fun c => if (if neg then !hd.contains c else hd.contains c) then some (sD c) else none) ?_ ?_
  · intro c hc R acc hR
    have e1 := hh c
    have e2 := hj c
    simp only [dTest, dOp, dVar, e1, e2]
    refine in_go ?_
    by_cases h : (if neg then !hd.contains c else hd.contains c) = true
    · rw [if_pos h] at hR
      simp only [h, if_true]
      exact hR
    · rw [if_neg h] at hR
      simp only [h]
      simpa using hR
  · cases neg with
    | true =>
      have e : (cs.filterMap fun c => if (if true = true then !hd.contains c else hd.contains c) = true then some (sD c) else none) = strsD (joinX hd cs) := by
        rw [← joinX_fm]
        congr 1
        funext c
        cases hd.contains c <;> rfl
      rw [e]
      exact hk
    | false =>
      have e : (cs.filterMap fun c => if (if false = true then !hd.contains c else hd.contains c) = true then some (sD c) else none) = strsD (sharedH hd cs) := by
        rw [← shared_fm]
        rfl
      rw [e]
      exact hk
theorem shared_len (a b : List Str) : (sharedH a b).length ≤ b.length := List.length_filter_le _ _
theorem shared_mem {a b : List Str} {c : Str} (h : c ∈ sharedH a b) : c ∈ b ∧ c ∈ a := by
  obtain ⟨h1, h2⟩ := List.mem_filter.mp h
  exact ⟨h1, by simpa using h2⟩
def encV : HR → D
  | none => .a .non
  | some z => tV z.2
def fsJoinR : FS := fs (ι := (List Str × List V) × (List Str × List V)) (fun ⟨x, y⟩ => [tS x.1, tV x.2, tS y.1, tV y.2])
  (fun ⟨x, y⟩ => x.2.length = x.1.length ∧ y.2.length = y.1.length ∧ x.1.length ≤ 100 ∧ y.1.length ≤ 100 ∧ (∀ v ∈ x.2, okV v = true) ∧ ∀ v ∈ y.2, okV v = true)
  (fun ⟨x, y⟩ d => d = encV (joinR x y))
abbrev s_join_rows : Stmt := top 26
theorem sc_join_rows : FnScope ["one", "row", "other", "second", "shared", "column"] ["one", "row", "other", "second"] (defScope s_join_rows) := ⟨rfl, rfl, rfl, by decide +kernel, rfl, by decide +kernel, by decide +kernel⟩
theorem c_join_rows (T : Txt mg) (Df : DefAt K mg "join_rows" s_join_rows) (c_values_in : Callee P w K mg base C 1 "values_in" ["head", "row", "columns"] fsVals) : Callee P w K mg base C 2 "join_rows" ["one", "row", "other", "second"] fsJoinR := by
  refine def_ok Df sc_join_rows (fun _ _ _ _ _ _ us hl => match us, hl with | [_, _, _, _], _ => rfl) (fs_len fun _ => rfl) fun fa cdv A outer s H E hr => ⟨_, _,
    (dss_cons (ds_setLcX (i := 4) rfl sc_join_rows.nd rfl rfl (sw_true rfl rfl rfl (by decide +kernel)) (own := [("column", 5)]) (j := 5) (di_seq (de_var 2)) (blkOk_by (own := [("column", 5)]) (N := ["one", "row", "other", "second", "shared", "column"]) (sc := defScope s_join_rows) (by decide +kernel)) (by decide) (fun _ _ _ _ _ => pg_name (i := 5) sc_join_rows.nd rfl (Or.inl rfl)) (fun _ _ _ _ _ => ⟨_, (dts_one (dp_cmp (p_in (hu_of hr)) (de_var 5) (de_var 0)))⟩) (fun _ _ _ _ _ => ⟨_, (de_var 5)⟩))
    (dss_cons (ds_if (dp_cmp (p_ne hr.units) (de_call c_values_in (hr.mono (Nat.le_refl _)) (da_cons (de_var 0) (da_cons (de_var 1) (da_cons (de_var 4) da_nil)))) (de_call c_values_in (hr.mono (Nat.le_refl _)) (da_cons (de_var 2) (da_cons (de_var 3) (da_cons (de_var 4) da_nil))))) (dss_one (ds_ret de_non)) dss_nil)
    (dss_one (ds_ret (de_op p_add (de_var 1) (de_call c_values_in (hr.mono (Nat.le_refl _)) (da_cons (de_var 2) (da_cons (de_var 3) (da_cons (de_lcX (own := [("column", 5)]) (j := 5) rfl sc_join_rows.nd (di_seq (de_var 2)) (blkOk_by (own := [("column", 5)]) (N := ["one", "row", "other", "second", "shared", "column"]) (sc := defScope s_join_rows) (by decide +kernel)) (by decide) (fun _ _ _ _ _ => pg_name (i := 5) sc_join_rows.nd rfl (Or.inl rfl)) (fun _ _ _ _ _ => ⟨_, (dts_one (dp_cmp (p_notIn (hu_of hr)) (de_var 5) (de_var 0)))⟩) (fun _ _ _ _ _ => ⟨_, (de_var 5)⟩)) da_nil))))))))), ?_⟩
  rintro so ds k ⟨⟨⟨h1, r1⟩, h2, r2⟩, rfl, ⟨l1, l2, z1, z2, o1, o2⟩, hk⟩
  dsimp only at l1 l2 z1 z2 o1 o2
  refine ⟨by rw [strsD_len]; exact Nat.le_trans z2 (by decide), lc_in (neg := false) (cs := h2) (hd := h1) (fun _ => rfl) (fun _ => rfl) ?_⟩
  have q1 := shared_len h1 h2
  have q2 := joinX_len h1 h2
  refine ⟨(h1, r1, sharedH h1 h2, false), rfl, ⟨l1, fun c hc => (shared_mem hc).2, by omega⟩, ?_⟩
  rintro d rfl
  refine ⟨(h2, r2, sharedH h1 h2, false), rfl, ⟨l2, fun c hc => (shared_mem hc).1, by omega⟩, ?_⟩
  rintro d rfl
  refine eq_rows (vals_ok l1 (fun c hc => (shared_mem hc).2) o1) (vals_ok l2 (fun c hc => (shared_mem hc).1) o2) ?_
  by_cases e : vals h1 r1 (sharedH h1 h2) = vals h2 r2 (sharedH h1 h2)
  · refine no (by simp [e]) ?_
    refine ⟨by rw [strsD_len]; exact Nat.le_trans z2 (by decide), lc_in (neg := true) (cs := h2) (hd := h1) (fun _ => rfl) (fun _ => rfl) ?_⟩
    refine ⟨(h2, r2, joinX h1 h2, false), rfl, ⟨l2, fun c hc => joinX_mem hc, by omega⟩, ?_⟩
    rintro d rfl
    refine add_tV (by rw [vals_len, sizeLine_eq]; show r1.length + _ ≤ _; omega) (hk _ ?_)
    have ej : joinR (h1, r1) (h2, r2) = some (h1 ++ joinX h1 h2, r1 ++ vals h2 r2 (joinX h1 h2)) := if_pos e
    show _ = encV (joinR (h1, r1) (h2, r2))
    rw [ej]
    rfl
  · refine yes (by simp [e]) (hk _ ?_)
    have ej : joinR (h1, r1) (h2, r2) = none := if_neg e
    show _ = encV (joinR (h1, r1) (h2, r2))
    rw [ej]
    rfl
/-! ### columns_told -/
def fsTold (n : Nat) : FS := fs (ι := Tst) (fun t => [encT t]) (fun t => t.dep ≤ n ∧ n ≤ 6) (fun t d => d = lS (told t))
abbrev s_columns_told : Stmt := top 15
theorem sc_columns_told : FnScope ["test"] ["test"] (defScope s_columns_told) := ⟨rfl, rfl, rfl, by decide +kernel, rfl, by decide +kernel, by decide +kernel⟩
theorem c_columns_told (T : Txt mg) (Df : DefAt K mg "columns_told" s_columns_told) : ∀ n, Callee P w K mg base C (n + 1) "columns_told" ["test"] (fsTold n)
  | 0 => by
    refine def_ok Df sc_columns_told (fun _ _ _ _ _ _ us hl => match us, hl with | [_], _ => rfl) (fs_len fun _ => rfl) fun fa cdv A outer s H E hr => ⟨_, _, dss_never, ?_⟩
    rintro so ds k ⟨t, rfl, ⟨hn, _⟩, hk⟩
    cases t <;> exact absurd hn (by simp [Tst.dep])
  | n + 1 => by
    have c := c_columns_told T Df n
    refine def_ok Df sc_columns_told (fun _ _ _ _ _ _ us hl => match us, hl with | [_], _ => rfl) (fs_len fun _ => rfl) fun fa cdv A outer s H E hr => ⟨_, _,
      (dss_cons (ds_if (dp_cmp (p_eq hr.units) (de_ixJ (hu_of hr) (de_var 0) de_int) de_str) (dss_one (ds_ret (de_lst (da_cons (de_ixJ (hu_of hr) (de_var 0) de_int) da_nil)))) dss_nil)
    (dss_cons (ds_if (dp_cmp (p_eq hr.units) (de_ixJ (hu_of hr) (de_var 0) de_int) de_str) (dss_one (ds_ret (de_lst (da_cons (de_ixJ (hu_of hr) (de_var 0) de_int) (da_cons (de_ixJ (hu_of hr) (de_var 0) de_int) da_nil))))) dss_nil)
    (dss_cons (ds_if (dp_cmp (p_eq hr.units) (de_ixJ (hu_of hr) (de_var 0) de_int) de_str) (dss_one (ds_ret (de_call c (hr.mono (Nat.le_refl _)) (da_cons (de_ixJ (hu_of hr) (de_var 0) de_int) da_nil)))) dss_nil)
    (dss_one (ds_ret (de_op p_add (de_call c (hr.mono (Nat.le_refl _)) (da_cons (de_ixJ (hu_of hr) (de_var 0) de_int) da_nil)) (de_call c (hr.mono (Nat.le_refl _)) (da_cons (de_ixJ (hu_of hr) (de_var 0) de_int) da_nil)))))))), ?_⟩
    rintro so ds k ⟨t, rfl, ⟨hn, h6⟩, hk⟩
    cases t with
    | is c v =>
      exact tix (j := 0) rfl rfl (eq_t rfl rfl (yes rfl (tix (j := 1) rfl rfl (hk _ rfl))))
    | same a b =>
      exact tix (j := 0) rfl rfl (eq_t rfl rfl (no rfl (tix (j := 0) rfl rfl (eq_t rfl rfl (yes rfl (tix (j := 1) rfl rfl (tix (j := 2) rfl rfl (hk _ rfl))))))))
    | neg t =>
      refine tix (j := 0) rfl rfl (eq_t rfl rfl (no rfl (tix (j := 0) rfl rfl (eq_t rfl rfl (no rfl (tix (j := 0) rfl rfl (eq_t rfl rfl (yes rfl (tix (j := 1) rfl rfl ?_)))))))))
      exact ⟨t, rfl, ⟨by simp only [Tst.dep] at hn; omega, by omega⟩, fun d e => hk d e⟩
    | conj t u =>
      refine tix (j := 0) rfl rfl (eq_t rfl rfl (no rfl (tix (j := 0) rfl rfl (eq_t rfl rfl (no rfl (tix (j := 0) rfl rfl (eq_t rfl rfl (no rfl (tix (j := 1) rfl rfl ?_)))))))))
      simp only [Tst.dep] at hn
      refine ⟨t, rfl, ⟨by omega, by omega⟩, ?_⟩
      rintro d rfl
      refine tix (j := 2) rfl rfl ⟨u, rfl, ⟨by omega, by omega⟩, ?_⟩
      rintro d rfl
      have q1 := told_len t
      have q2 := told_len u
      have b1 : 2 ^ t.dep ≤ 2 ^ 6 := Nat.pow_le_pow_right (by decide) (by omega)
      have b2 : 2 ^ u.dep ≤ 2 ^ 6 := Nat.pow_le_pow_right (by decide) (by omega)
      exact add_lS (by rw [sizeLine_eq]; omega) (hk _ rfl)
    | disj t u =>
      refine tix (j := 0) rfl rfl (eq_t rfl rfl (no rfl (tix (j := 0) rfl rfl (eq_t rfl rfl (no rfl (tix (j := 0) rfl rfl (eq_t rfl rfl (no rfl (tix (j := 1) rfl rfl ?_)))))))))
      simp only [Tst.dep] at hn
      refine ⟨t, rfl, ⟨by omega, by omega⟩, ?_⟩
      rintro d rfl
      refine tix (j := 2) rfl rfl ⟨u, rfl, ⟨by omega, by omega⟩, ?_⟩
      rintro d rfl
      have q1 := told_len t
      have q2 := told_len u
      have b1 : 2 ^ t.dep ≤ 2 ^ 6 := Nat.pow_le_pow_right (by decide) (by omega)
      have b2 : 2 ^ u.dep ≤ 2 ^ 6 := Nat.pow_le_pow_right (by decide) (by omega)
      exact add_lS (by rw [sizeLine_eq]; omega) (hk _ rfl)
end
end Wh

namespace Wh
open PySem L2
section
variable {P : Program} {w : World} {K : PySem.W.Frag} {mg : Str → Option Value} {base : Heap} {C : Addr}
/-! ### is_passed, _law_passes -/
abbrev pasA : Tst × List Str × List V → List D := fun ⟨t, hd, row⟩ => [encT t, tS hd, tV row]
def pasP (n : Nat) : Tst × List Str × List V → Prop := fun ⟨t, hd, row⟩ => (t.dep ≤ n ∧ n ≤ 6) ∧ row.length = hd.length ∧ (∀ c ∈ told t, c ∈ hd) ∧ (∀ x ∈ row, okV x = true) ∧ t.ok = true
def fsPas (n : Nat) : FS := fs pasA (pasP n) (fun ⟨t, hd, row⟩ d => d = .a (.bl (pas t hd row)))
theorem pasP_l {n : Nat} {t u : Tst} {hd : List Str} {row : List V} (h : pasP (n + 1) (.conj t u, hd, row)) : pasP n (t, hd, row) ∧ pasP n (u, hd, row) := by
  obtain ⟨⟨h1, h2⟩, h3, h4, h5, h6⟩ := h
  simp only [Tst.dep] at h1
  obtain ⟨o1, o2⟩ := Bool.and_eq_true_iff.mp (show (t.ok && u.ok) = true from h6)
  exact ⟨⟨⟨by omega, by omega⟩, h3, fun c hc => h4 c (List.mem_append_left _ hc), h5, o1⟩, ⟨⟨by omega, by omega⟩, h3, fun c hc => h4 c (List.mem_append_right _ hc), h5, o2⟩⟩
theorem pasP_d {n : Nat} {t u : Tst} {hd : List Str} {row : List V} (h : pasP (n + 1) (.disj t u, hd, row)) : pasP n (t, hd, row) ∧ pasP n (u, hd, row) := pasP_l h
theorem pasP_n {n : Nat} {t : Tst} {hd : List Str} {row : List V} (h : pasP (n + 1) (.neg t, hd, row)) : pasP n (t, hd, row) := by
  obtain ⟨⟨h1, h2⟩, h3, h4, h5, h6⟩ := h
  simp only [Tst.dep] at h1
  exact ⟨⟨by omega, by omega⟩, h3, h4, h5, h6⟩
abbrev s_is_passed : Stmt := top 18
theorem sc_is_passed : FnScope ["test", "head", "row"] ["test", "head", "row"] (defScope s_is_passed) := ⟨rfl, rfl, rfl, by decide +kernel, rfl, by decide +kernel, by decide +kernel⟩
theorem c_is_passed (T : Txt mg) (Df : DefAt K mg "is_passed" s_is_passed) : ∀ n, Callee P w K mg base C (n + 1) "is_passed" ["test", "head", "row"] (fsPas n)
  | 0 => by
    refine def_ok Df sc_is_passed (fun _ _ _ _ _ _ us hl => match us, hl with | [_, _, _], _ => rfl) (fs_len fun _ => rfl) fun fa cdv A outer s H E hr => ⟨_, _, dss_never, ?_⟩
    rintro so ds k ⟨⟨t, hd, row⟩, rfl, hp, hk⟩
    have hn := hp.1.1
    cases t <;> exact absurd hn (by simp [Tst.dep])
  | n + 1 => by
    have c := c_is_passed T Df n
    refine def_ok Df sc_is_passed (fun _ _ _ _ _ _ us hl => match us, hl with | [_, _, _], _ => rfl) (fs_len fun _ => rfl) fun fa cdv A outer s H E hr => ⟨_, _,
      (dss_cons (ds_if (dp_cmp (p_eq hr.units) (de_ixJ (hu_of hr) (de_var 0) de_int) de_str) (dss_one (ds_ret (de_cmp (p_eq hr.units) (de_ixJ (hu_of hr) (de_var 2) (de_index (de_var 1) (de_ixJ (hu_of hr) (de_var 0) de_int))) (de_ixJ (hu_of hr) (de_var 0) de_int)))) dss_nil)
    (dss_cons (ds_if (dp_cmp (p_eq hr.units) (de_ixJ (hu_of hr) (de_var 0) de_int) de_str) (dss_one (ds_ret (de_cmp (p_eq hr.units) (de_ixJ (hu_of hr) (de_var 2) (de_index (de_var 1) (de_ixJ (hu_of hr) (de_var 0) de_int))) (de_ixJ (hu_of hr) (de_var 2) (de_index (de_var 1) (de_ixJ (hu_of hr) (de_var 0) de_int)))))) dss_nil)
    (dss_cons (ds_if (dp_cmp (p_eq hr.units) (de_ixJ (hu_of hr) (de_var 0) de_int) de_str) (dss_one (ds_ret (de_not (de_call c (hr.mono (Nat.le_refl _)) (da_cons (de_ixJ (hu_of hr) (de_var 0) de_int) (da_cons (de_var 1) (da_cons (de_var 2) da_nil))))))) dss_nil)
    (dss_cons (ds_if (dp_cmp (p_eq hr.units) (de_ixJ (hu_of hr) (de_var 0) de_int) de_str) (dss_one (ds_ret (de_and (de_call c (hr.mono (Nat.le_refl _)) (da_cons (de_ixJ (hu_of hr) (de_var 0) de_int) (da_cons (de_var 1) (da_cons (de_var 2) da_nil)))) (de_one (de_call c (hr.mono (Nat.le_refl _)) (da_cons (de_ixJ (hu_of hr) (de_var 0) de_int) (da_cons (de_var 1) (da_cons (de_var 2) da_nil)))))))) dss_nil)
    (dss_one (ds_ret (de_or (de_call c (hr.mono (Nat.le_refl _)) (da_cons (de_ixJ (hu_of hr) (de_var 0) de_int) (da_cons (de_var 1) (da_cons (de_var 2) da_nil)))) (de_one (de_call c (hr.mono (Nat.le_refl _)) (da_cons (de_ixJ (hu_of hr) (de_var 0) de_int) (da_cons (de_var 1) (da_cons (de_var 2) da_nil)))))))))))), ?_⟩
    rintro so ds k ⟨⟨t, hd, row⟩, rfl, hp, hk⟩
    obtain ⟨_, hl, hm, hv, ho⟩ := id hp
    cases t with
    | is c v =>
      have hc : c ∈ hd := hm c List.mem_cons_self
      exact tix (j := 0) rfl rfl (eq_t rfl rfl (yes rfl (tix (j := 1) rfl rfl (ix_go hl hc (tix (j := 2) rfl rfl (eq_val (val_ok hl hc hv) ho (hk _ rfl)))))))
    | same a b =>
      have ha : a ∈ hd := hm a List.mem_cons_self
      have hb : b ∈ hd := hm b (List.mem_cons_of_mem _ List.mem_cons_self)
      exact tix (j := 0) rfl rfl (eq_t rfl rfl (no rfl (tix (j := 0) rfl rfl (eq_t rfl rfl (yes rfl (tix (j := 1) rfl rfl (ix_go hl ha (tix (j := 2) rfl rfl (ix_go hl hb (eq_val (val_ok hl ha hv) (val_ok hl hb hv) (hk _ rfl)))))))))))
    | neg t =>
      refine tix (j := 0) rfl rfl (eq_t rfl rfl (no rfl (tix (j := 0) rfl rfl (eq_t rfl rfl (no rfl (tix (j := 0) rfl rfl (eq_t rfl rfl (yes rfl (tix (j := 1) rfl rfl ?_)))))))))
      refine ⟨(t, hd, row), rfl, pasP_n hp, ?_⟩
      rintro d rfl
      exact hk _ rfl
    | conj t u =>
      refine tix (j := 0) rfl rfl (eq_t rfl rfl (no rfl (tix (j := 0) rfl rfl (eq_t rfl rfl (no rfl (tix (j := 0) rfl rfl (eq_t rfl rfl (no rfl (tix (j := 0) rfl rfl (eq_t rfl rfl (yes rfl (tix (j := 1) rfl rfl ?_))))))))))))
      refine ⟨(t, hd, row), rfl, (pasP_l hp).1, ?_⟩
      rintro d rfl
      show if pas t hd row = true then _ else _
      by_cases h : pas t hd row = true
      · rw [if_pos h]
        refine tix (j := 2) rfl rfl ⟨(u, hd, row), rfl, (pasP_l hp).2, ?_⟩
        rintro d rfl
        exact hk _ (by show _ = D.a (.bl (pas t hd row && pas u hd row)); rw [h]; rfl)
      · rw [if_neg h]
        exact hk _ (by show _ = D.a (.bl (pas t hd row && pas u hd row)); rw [eq_false_of_ne_true h]; rfl)
    | disj t u =>
      refine tix (j := 0) rfl rfl (eq_t rfl rfl (no rfl (tix (j := 0) rfl rfl (eq_t rfl rfl (no rfl (tix (j := 0) rfl rfl (eq_t rfl rfl (no rfl (tix (j := 0) rfl rfl (eq_t rfl rfl (no rfl (tix (j := 1) rfl rfl ?_))))))))))))
      refine ⟨(t, hd, row), rfl, (pasP_d hp).1, ?_⟩
      rintro d rfl
      show if pas t hd row = true then _ else _
      by_cases h : pas t hd row = true
      · rw [if_pos h]
        exact hk _ (by show _ = D.a (.bl (pas t hd row || pas u hd row)); rw [h]; rfl)
      · rw [if_neg h]
        refine tix (j := 2) rfl rfl ⟨(u, hd, row), rfl, (pasP_d hp).2, ?_⟩
        rintro d rfl
        exact hk _ (by show _ = D.a (.bl (pas t hd row || pas u hd row)); rw [eq_false_of_ne_true h]; rfl)
abbrev s_l_passes : Stmt := top 60
theorem sc_l_passes : FnScope ["_law_test_here", "_law_head", "_law_row"] ["_law_test_here", "_law_head", "_law_row"] (defScope s_l_passes) := ⟨rfl, rfl, rfl, by decide +kernel, rfl, by decide +kernel, by decide +kernel⟩
theorem c_l_passes (T : Txt mg) (Df : DefAt K mg "_law_passes" s_l_passes) : ∀ n, Callee P w K mg base C (n + 1) "_law_passes" ["_law_test_here", "_law_head", "_law_row"] (fsPas n)
  | 0 => by
    refine def_ok Df sc_l_passes (fun _ _ _ _ _ _ us hl => match us, hl with | [_, _, _], _ => rfl) (fs_len fun _ => rfl) fun fa cdv A outer s H E hr => ⟨_, _, dss_never, ?_⟩
    rintro so ds k ⟨⟨t, hd, row⟩, rfl, hp, hk⟩
    have hn := hp.1.1
    cases t <;> exact absurd hn (by simp [Tst.dep])
  | n + 1 => by
    have c := c_l_passes T Df n
    refine def_ok Df sc_l_passes (fun _ _ _ _ _ _ us hl => match us, hl with | [_, _, _], _ => rfl) (fs_len fun _ => rfl) fun fa cdv A outer s H E hr => ⟨_, _,
      (dss_cons (ds_if (dp_cmp (p_eq hr.units) (de_ixJ (hu_of hr) (de_var 0) de_int) de_str) (dss_one (ds_ret (de_not (de_call c (hr.mono (Nat.le_refl _)) (da_cons (de_ixJ (hu_of hr) (de_var 0) de_int) (da_cons (de_var 1) (da_cons (de_var 2) da_nil))))))) dss_nil)
    (dss_cons (ds_if (dp_cmp (p_eq hr.units) (de_ixJ (hu_of hr) (de_var 0) de_int) de_str) (dss_one (ds_ret (de_or (de_call c (hr.mono (Nat.le_refl _)) (da_cons (de_ixJ (hu_of hr) (de_var 0) de_int) (da_cons (de_var 1) (da_cons (de_var 2) da_nil)))) (de_one (de_call c (hr.mono (Nat.le_refl _)) (da_cons (de_ixJ (hu_of hr) (de_var 0) de_int) (da_cons (de_var 1) (da_cons (de_var 2) da_nil)))))))) dss_nil)
    (dss_cons (ds_if (dp_cmp (p_eq hr.units) (de_ixJ (hu_of hr) (de_var 0) de_int) de_str) (dss_one (ds_ret (de_and (de_call c (hr.mono (Nat.le_refl _)) (da_cons (de_ixJ (hu_of hr) (de_var 0) de_int) (da_cons (de_var 1) (da_cons (de_var 2) da_nil)))) (de_one (de_call c (hr.mono (Nat.le_refl _)) (da_cons (de_ixJ (hu_of hr) (de_var 0) de_int) (da_cons (de_var 1) (da_cons (de_var 2) da_nil)))))))) dss_nil)
    (dss_cons (ds_if (dp_cmp (p_eq hr.units) (de_ixJ (hu_of hr) (de_var 0) de_int) de_str) (dss_one (ds_ret (de_cmp (p_eq hr.units) (de_ixJ (hu_of hr) (de_var 2) (de_index (de_var 1) (de_ixJ (hu_of hr) (de_var 0) de_int))) (de_ixJ (hu_of hr) (de_var 2) (de_index (de_var 1) (de_ixJ (hu_of hr) (de_var 0) de_int)))))) dss_nil)
    (dss_one (ds_ret (de_cmp (p_eq hr.units) (de_ixJ (hu_of hr) (de_var 2) (de_index (de_var 1) (de_ixJ (hu_of hr) (de_var 0) de_int))) (de_ixJ (hu_of hr) (de_var 0) de_int)))))))), ?_⟩
    rintro so ds k ⟨⟨t, hd, row⟩, rfl, hp, hk⟩
    obtain ⟨_, hl, hm, hv, ho⟩ := id hp
    cases t with
    | neg t =>
      refine tix (j := 0) rfl rfl (eq_t rfl rfl (yes rfl (tix (j := 1) rfl rfl ?_)))
      refine ⟨(t, hd, row), rfl, pasP_n hp, ?_⟩
      rintro d rfl
      exact hk _ rfl
    | disj t u =>
      refine tix (j := 0) rfl rfl (eq_t rfl rfl (no rfl (tix (j := 0) rfl rfl (eq_t rfl rfl (yes rfl (tix (j := 1) rfl rfl ?_))))))
      refine ⟨(t, hd, row), rfl, (pasP_d hp).1, ?_⟩
      rintro d rfl
      show if pas t hd row = true then _ else _
      by_cases h : pas t hd row = true
      · rw [if_pos h]
        exact hk _ (by show _ = D.a (.bl (pas t hd row || pas u hd row)); rw [h]; rfl)
      · rw [if_neg h]
        refine tix (j := 2) rfl rfl ⟨(u, hd, row), rfl, (pasP_d hp).2, ?_⟩
        rintro d rfl
        exact hk _ (by show _ = D.a (.bl (pas t hd row || pas u hd row)); rw [eq_false_of_ne_true h]; rfl)
    | conj t u =>
      refine tix (j := 0) rfl rfl (eq_t rfl rfl (no rfl (tix (j := 0) rfl rfl (eq_t rfl rfl (no rfl (tix (j := 0) rfl rfl (eq_t rfl rfl (yes rfl (tix (j := 1) rfl rfl ?_)))))))))
      refine ⟨(t, hd, row), rfl, (pasP_l hp).1, ?_⟩
      rintro d rfl
      show if pas t hd row = true then _ else _
      by_cases h : pas t hd row = true
      · rw [if_pos h]
        refine tix (j := 2) rfl rfl ⟨(u, hd, row), rfl, (pasP_l hp).2, ?_⟩
        rintro d rfl
        exact hk _ (by show _ = D.a (.bl (pas t hd row && pas u hd row)); rw [h]; rfl)
      · rw [if_neg h]
        exact hk _ (by show _ = D.a (.bl (pas t hd row && pas u hd row)); rw [eq_false_of_ne_true h]; rfl)
    | same a b =>
      have ha : a ∈ hd := hm a List.mem_cons_self
      have hb : b ∈ hd := hm b (List.mem_cons_of_mem _ List.mem_cons_self)
      exact tix (j := 0) rfl rfl (eq_t rfl rfl (no rfl (tix (j := 0) rfl rfl (eq_t rfl rfl (no rfl (tix (j := 0) rfl rfl (eq_t rfl rfl (no rfl (tix (j := 0) rfl rfl (eq_t rfl rfl (yes rfl (tix (j := 1) rfl rfl (ix_go hl ha (tix (j := 2) rfl rfl (ix_go hl hb (eq_val (val_ok hl ha hv) (val_ok hl hb hv) (hk _ rfl)))))))))))))))))
    | is c v =>
      have hc : c ∈ hd := hm c List.mem_cons_self
      exact tix (j := 0) rfl rfl (eq_t rfl rfl (no rfl (tix (j := 0) rfl rfl (eq_t rfl rfl (no rfl (tix (j := 0) rfl rfl (eq_t rfl rfl (no rfl (tix (j := 0) rfl rfl (eq_t rfl rfl (no rfl (tix (j := 1) rfl rfl (ix_go hl hc (tix (j := 2) rfl rfl (eq_val (val_ok hl hc hv) ho (hk _ rfl))))))))))))))))
end
end Wh

namespace Wh
open PySem L2
section
variable {P : Program} {w : World} {K : PySem.W.Frag} {mg : Str → Option Value} {base : Heap} {C : Addr}
theorem told_5 {t : Tst} (h : t.dep ≤ 5) : (told t).length ≤ 32 := Nat.le_trans (told_len t) (Nat.pow_le_pow_right (by decide) h)
theorem has {hd : List Str} {c : Str} (h : c ∈ hd) : hd.contains c = true := by simpa using h
theorem hasnt {hd : List Str} {c : Str} (h : c ∉ hd) : hd.contains c = false := by simpa using h
/-! ### for x in texts: if x not in head: raise -/
theorem strsD_get {cs : List Str} {i : Nat} {d : D} (h : (strsD cs)[i]? = some d) : ∃ c, c ∈ cs ∧ d = sD c := by
  obtain ⟨c, hc, rfl⟩ := List.mem_map.mp (List.mem_of_getElem? h)
  exact ⟨c, hc, rfl⟩
/-! ### ask_columns, passes -/
def fsAsk : FS := fs (ι := Tst × List Str) (fun ⟨t, hd⟩ => [encT t, tS hd]) (fun ⟨t, hd⟩ => t.dep ≤ 5 ∧ ∀ c ∈ told t, c ∈ hd) (fun _ d => d = .a .non)
abbrev s_ask_columns : Stmt := top 17
theorem sc_ask_columns : FnScope ["test", "head", "column"] ["test", "head"] (defScope s_ask_columns) := ⟨rfl, rfl, rfl, by decide +kernel, rfl, by decide +kernel, by decide +kernel⟩
theorem c_ask_columns (T : Txt mg) (Df : DefAt K mg "ask_columns" s_ask_columns) (c_columns_told : Callee P w K mg base C 6 "columns_told" ["test"] (fsTold 5)) : Callee P w K mg base C 7 "ask_columns" ["test", "head"] fsAsk := by
  refine def_ok Df sc_ask_columns (fun _ _ _ _ _ _ us hl => match us, hl with | [_, _], _ => rfl) (fs_len fun _ => rfl) fun fa cdv A outer s H E hr => ⟨_, _,
    (dss_one (ds_for PassesOwn.never rfl (di_seq (de_call c_columns_told (hr.mono (Nat.le_refl _)) (da_cons (de_var 0) da_nil))) (pg_name (i := 2) sc_ask_columns.nd rfl (Or.inl rfl)) (dss_one (ds_if (dp_cmp (p_notIn (hu_of hr)) (de_var 2) (de_var 1)) (dss_one ds_never) dss_nil)))), ?_⟩
  rintro so ds k ⟨⟨t, hd⟩, rfl, ⟨h5, hm⟩, hk⟩
  refine ⟨t, rfl, ⟨h5, by omega⟩, ?_⟩
  rintro d rfl
  refine ⟨fun i ρ => ∃ o, ρ = ⟨[some (encT t), some (tS hd), o], none, so⟩, ⟨none, rfl⟩, ?_, ?_⟩
  · rintro i d ρ hi ⟨o, rfl⟩
    obtain ⟨c, hc, rfl⟩ := strsD_get hi
    refine in_go ?_
    refine no (by simp [hm c hc]) ⟨_, rfl⟩
  · rintro ρ ⟨o, rfl⟩
    exact hk _ rfl
abbrev s_passes : Stmt := top 19
theorem sc_passes : FnScope ["test", "head", "row"] ["test", "head", "row"] (defScope s_passes) := ⟨rfl, rfl, rfl, by decide +kernel, rfl, by decide +kernel, by decide +kernel⟩
theorem c_passes (T : Txt mg) (Df : DefAt K mg "passes" s_passes) (c_ask_columns : Callee P w K mg base C 7 "ask_columns" ["test", "head"] fsAsk) (c_is_passed : Callee P w K mg base C 6 "is_passed" ["test", "head", "row"] (fsPas 5)) : Callee P w K mg base C 8 "passes" ["test", "head", "row"] (fsPas 5) := by
  refine def_ok Df sc_passes (fun _ _ _ _ _ _ us hl => match us, hl with | [_, _, _], _ => rfl) (fs_len fun _ => rfl) fun fa cdv A outer s H E hr => ⟨_, _,
    (dss_cons (ds_expr (de_call c_ask_columns (hr.mono (by decide)) (da_cons (de_var 0) (da_cons (de_var 1) da_nil))))
    (dss_one (ds_ret (de_call c_is_passed (hr.mono (by decide)) (da_cons (de_var 0) (da_cons (de_var 1) (da_cons (de_var 2) da_nil))))))), ?_⟩
  rintro so ds k ⟨⟨t, hd, row⟩, rfl, hp, hk⟩
  refine ⟨(t, hd), rfl, ⟨hp.1.1, hp.2.2.1⟩, ?_⟩
  rintro d rfl
  exact ⟨(t, hd, row), rfl, hp, fun d e => hk d e⟩
/-! ### columns_of, pick_head -/
def fsColsOf : FS := fs (ι := Tst) (fun t => [encT t]) (fun t => t.dep ≤ 5) (fun t d => ∃ ys, d = lS ys ∧ ∀ c ∈ ys, c ∈ told t)
abbrev s_columns_of : Stmt := top 16
theorem sc_columns_of : FnScope ["test"] ["test"] (defScope s_columns_of) := ⟨rfl, rfl, rfl, by decide +kernel, rfl, by decide +kernel, by decide +kernel⟩
theorem c_columns_of (T : Txt mg) (Df : DefAt K mg "columns_of" s_columns_of) (c_columns_told : Callee P w K mg base C 6 "columns_told" ["test"] (fsTold 5)) : Callee P w K mg base C 7 "columns_of" ["test"] fsColsOf := by
  refine def_ok Df sc_columns_of (fun _ _ _ _ _ _ us hl => match us, hl with | [_], _ => rfl) (fs_len fun _ => rfl) fun fa cdv A outer s H E hr => ⟨_, _,
    (dss_one (ds_ret (de_sortedset T (de_call c_columns_told (hr.mono (Nat.le_refl _)) (da_cons (de_var 0) da_nil))))), ?_⟩
  rintro so ds k ⟨t, rfl, h5, hk⟩
  refine ⟨t, rfl, ⟨h5, by omega⟩, ?_⟩
  rintro d rfl
  have q := told_5 h5
  refine ⟨told t, .inl rfl, by omega, by omega, fun ys pm => hk _ ⟨ys, rfl, fun c hc => ?_⟩⟩
  exact (asX_mem _ _).mp (pm.mem_iff.mp hc)
def fsPickH : FS := fs (ι := Tst × List Str) (fun ⟨t, hd⟩ => [encT t, tS hd]) (fun ⟨t, hd⟩ => t.dep ≤ 5 ∧ ∀ c ∈ told t, c ∈ hd) (fun ⟨t, hd⟩ d => d = tS hd)
abbrev s_pick_head : Stmt := top 37
theorem sc_pick_head : FnScope ["test", "head", "column"] ["test", "head"] (defScope s_pick_head) := ⟨rfl, rfl, rfl, by decide +kernel, rfl, by decide +kernel, by decide +kernel⟩
theorem c_pick_head (T : Txt mg) (Df : DefAt K mg "pick_head" s_pick_head) (c_columns_of : Callee P w K mg base C 7 "columns_of" ["test"] fsColsOf) : Callee P w K mg base C 8 "pick_head" ["test", "head"] fsPickH := by
  refine def_ok Df sc_pick_head (fun _ _ _ _ _ _ us hl => match us, hl with | [_, _], _ => rfl) (fs_len fun _ => rfl) fun fa cdv A outer s H E hr => ⟨_, _,
    (dss_cons (ds_for PassesOwn.never rfl (di_seq (de_call c_columns_of (hr.mono (Nat.le_refl _)) (da_cons (de_var 0) da_nil))) (pg_name (i := 2) sc_pick_head.nd rfl (Or.inl rfl)) (dss_one (ds_if (dp_cmp (p_notIn (hu_of hr)) (de_var 2) (de_var 1)) (dss_one ds_never) dss_nil)))
    (dss_one (ds_ret (de_var 1)))), ?_⟩
  rintro so ds k ⟨⟨t, hd⟩, rfl, ⟨h5, hm⟩, hk⟩
  refine ⟨t, rfl, h5, ?_⟩
  rintro d ⟨ys, rfl, hy⟩
  refine ⟨fun i ρ => ∃ o, ρ = ⟨[some (encT t), some (tS hd), o], none, so⟩, ⟨none, rfl⟩, ?_, ?_⟩
  · rintro i d ρ hi ⟨o, rfl⟩
    obtain ⟨c, hc, rfl⟩ := strsD_get hi
    refine in_go ?_
    refine no (by simp [hm c (hy c hc)]) ⟨_, rfl⟩
  · rintro ρ ⟨o, rfl⟩
    exact hk _ rfl
/-! ### kept_head, called_head, together_head -/
def fsKept : FS := fs (ι := List Str × List Str) (fun ⟨hd, cs⟩ => [tS hd, tS cs]) (fun ⟨hd, cs⟩ => cs.Nodup ∧ (∀ c ∈ cs, c ∈ hd) ∧ cs.length ≤ 100) (fun ⟨hd, cs⟩ d => d = tS cs)
abbrev s_kept_head : Stmt := top 10
theorem sc_kept_head : FnScope ["head", "columns", "column"] ["head", "columns"] (defScope s_kept_head) := ⟨rfl, rfl, rfl, by decide +kernel, rfl, by decide +kernel, by decide +kernel⟩
theorem c_kept_head (T : Txt mg) (Df : DefAt K mg "kept_head" s_kept_head) : Callee P w K mg base C 1 "kept_head" ["head", "columns"] fsKept := by
  refine def_ok Df sc_kept_head (fun _ _ _ _ _ _ us hl => match us, hl with | [_, _], _ => rfl) (fs_len fun _ => rfl) fun fa cdv A outer s H E hr => ⟨_, _,
    (dss_cons (ds_if (dp_cmp (p_ne hr.units) (de_lenset T (de_var 1)) (de_callB c_len T.m_len boot_len (da_cons (de_var 1) da_nil))) (dss_one ds_never) dss_nil)
    (dss_cons (ds_for PassesOwn.never rfl (di_seq (de_var 1)) (pg_name (i := 2) sc_kept_head.nd rfl (Or.inl rfl)) (dss_one (ds_if (dp_cmp (p_notIn (hu_of hr)) (de_var 2) (de_var 0)) (dss_one ds_never) dss_nil)))
    (dss_one (ds_ret (de_callT c_tuple T.m_tuple boot_tuple (da_cons (de_var 1) da_nil)))))), ?_⟩
  rintro so ds k ⟨⟨hd, cs⟩, rfl, ⟨hn, hm, hz⟩, hk⟩
  refine ⟨cs, .inr rfl, by omega, ?_⟩
  refine eq_t rfl (b := false) (by rw [asX_len hn, strsD_len]; simp) (no rfl ?_)
  refine ⟨fun i ρ => ∃ o, ρ = ⟨[some (tS hd), some (tS cs), o], none, so⟩, ⟨none, rfl⟩, ?_, ?_⟩
  · rintro i d ρ hi ⟨o, rfl⟩
    obtain ⟨c, hc, rfl⟩ := strsD_get hi
    refine in_go ?_
    refine no (by simp [hm c hc]) ⟨_, rfl⟩
  · rintro ρ ⟨o, rfl⟩
    exact hk _ rfl
theorem call_cut {hd : List Str} {o n : Str} (hn : hd.Nodup) (h : o ∈ hd) : hd.take (hd.idxOf o) ++ ([n] ++ hd.drop (hd.idxOf o + 1)) = callH o n hd := by
  unfold callH
  induction hd with
  | nil => cases h
  | cons x r ih =>
    obtain ⟨h1, h2⟩ := List.nodup_cons.mp hn
    by_cases e : x = o
    · subst e
      rw [List.idxOf_cons_self, List.map_cons, if_pos rfl]
      have e2 : r.map (fun c => if c = x then n else c) = r := by
        conv => rhs; rw [← List.map_id r]
        refine List.map_congr_left fun c hc => ?_
        rw [if_neg (fun z : c = x => h1 (by rw [← z]; exact hc))]; rfl
      rw [e2]
      rfl
    · have h3 : o ∈ r := by
        rcases List.mem_cons.mp h with z | z
        · exact absurd z.symm e
        · exact z
      have e1 : (x :: r).idxOf o = r.idxOf o + 1 := by
        rw [List.idxOf_cons]
        have : (x == o) = false := by simpa using e
        rw [this]; rfl
      rw [e1, List.map_cons, if_neg e, ← ih h2 h3]
      rfl
def fsCalled : FS := fs (ι := List Str × Str × Str) (fun ⟨hd, o, n⟩ => [tS hd, sD o, sD n]) (fun ⟨hd, o, n⟩ => hd.Nodup ∧ o ∈ hd ∧ (n ∈ hd → n = o) ∧ hd.length ≤ 100) (fun ⟨hd, o, n⟩ d => d = tS (callH o n hd))
theorem strsD_drop (xs : List Str) (n : Nat) : (strsD xs).drop n = strsD (xs.drop n) := by unfold strsD; rw [List.map_drop]
theorem strsD_take (xs : List Str) (n : Nat) : (strsD xs).take n = strsD (xs.take n) := by unfold strsD; rw [List.map_take]
abbrev s_called_head : Stmt := top 11
theorem sc_called_head : FnScope ["head", "old", "new", "at"] ["head", "old", "new"] (defScope s_called_head) := ⟨rfl, rfl, rfl, by decide +kernel, rfl, by decide +kernel, by decide +kernel⟩
theorem c_called_head (T : Txt mg) (Df : DefAt K mg "called_head" s_called_head) : Callee P w K mg base C 1 "called_head" ["head", "old", "new"] fsCalled := by
  refine def_ok Df sc_called_head (fun _ _ _ _ _ _ us hl => match us, hl with | [_, _, _], _ => rfl) (fs_len fun _ => rfl) fun fa cdv A outer s H E hr => ⟨_, _,
    (dss_cons (ds_if (dp_cmp (p_notIn (hu_of hr)) (de_var 1) (de_var 0)) (dss_one ds_never) dss_nil)
    (dss_cons (ds_if ((dw_and (dp_cmp (p_in (hu_of hr)) (de_var 2) (de_var 0)) (dw_and1 (dp_cmp (p_ne hr.units) (de_var 2) (de_var 1)))).dp) (dss_one ds_never) dss_nil)
    (dss_cons (ds_set (i := 3) (de_index (de_var 0) (de_var 1)) sc_called_head.nd)
    (dss_one (ds_ret (de_op p_add (de_op p_add (de_sl (de_var 0) dpo_no (dpo_some (de_var 3))) (de_tup (da_cons (de_var 2) da_nil))) (de_sl (de_var 0) (dpo_some (de_op p_add (de_var 3) de_int)) dpo_no))))))), ?_⟩
  rintro so ds k ⟨⟨hd, o, n⟩, rfl, ⟨hn, hm, hx, hz⟩, hk⟩
  refine in_go (no (by simp [hm]) ?_)
  have go : ∀ {Q : Prop}, Q → Q := fun h => h
  have last : (∃ ys : List Str, strsD hd = strsD ys ∧ ∃ j : Nat, ys[j]? = some o ∧ (∀ m, m < j → ys[m]? ≠ some o) ∧
      jAdd (.tup (cut (strsD hd) none (some (j : Int)))) (.tup [sD n]) fun d => jAdd (.a (.int (j : Int))) (.a (.int 1)) fun e => match e with
        | .a (.int i) => jAdd d (.tup (cut (strsD hd) (some i) none)) k
        | _ => False) := by
    refine ⟨hd, rfl, _, idx_at hm, idx_first, ?_⟩
    have hj := List.idxOf_lt_length_of_mem hm
    rw [cut_upto _ (by rw [strsD_len]; omega), strsD_take]
    refine add_t (by rw [strsD_len, List.length_take, sizeLine_eq]; simp; omega) (add_i ?_)
    show jAdd _ (.tup (cut (strsD hd) (some (((hd.idxOf o + 1 : Nat)) : Int)) none)) k
    rw [cut_from _ (by rw [strsD_len]; omega), strsD_drop]
    refine add_t (by rw [List.length_append, strsD_len, strsD_len, List.length_take, List.length_drop, sizeLine_eq]; simp; omega) (hk _ ?_)
    show D.tup _ = tS (callH o n hd)
    rw [← call_cut hn hm]
    unfold tS
    rw [strsD_append, strsD_append, List.append_assoc]
    rfl
  refine in_go ?_
  by_cases c : n ∈ hd
  · have e := hx c
    subst e
    rw [has c]
    refine (if_pos (by decide)).mpr (eq_t rfl (b := false) (by simp) (no rfl ?_))
    exact last
  · rw [hasnt c]
    refine (if_neg (by decide)).mpr (no rfl ?_)
    exact last
def fsTogether : FS := fs (ι := List Str × List Str) (fun ⟨a, b⟩ => [tS a, tS b]) (fun ⟨a, b⟩ => (∀ z, z ∈ a ↔ z ∈ b) ∧ a.length ≤ 100 ∧ b.length ≤ 100) (fun ⟨a, b⟩ d => d = tS a)
abbrev s_together_head : Stmt := top 13
theorem sc_together_head : FnScope ["head", "other"] ["head", "other"] (defScope s_together_head) := ⟨rfl, rfl, rfl, by decide +kernel, rfl, by decide +kernel, by decide +kernel⟩
theorem c_together_head (T : Txt mg) (Df : DefAt K mg "together_head" s_together_head) : Callee P w K mg base C 1 "together_head" ["head", "other"] fsTogether := by
  refine def_ok Df sc_together_head (fun _ _ _ _ _ _ us hl => match us, hl with | [_, _], _ => rfl) (fs_len fun _ => rfl) fun fa cdv A outer s H E hr => ⟨_, _,
    (dss_cons (ds_if (dp_setne T (de_var 0) (de_var 1) hr.units0) (dss_one ds_never) dss_nil)
    (dss_one (ds_ret (de_var 0)))), ?_⟩
  rintro so ds k ⟨⟨a, b⟩, rfl, ⟨hm, l1, l2⟩, hk⟩
  refine ⟨a, .inr rfl, by omega, b, .inr rfl, by omega, hm, ?_⟩
  exact no rfl (hk _ rfl)
end
end Wh

namespace Wh
open PySem L2
/-! ### heads of good questions -/
theorem callH_len (o n : Str) (hd : List Str) : (callH o n hd).length = hd.length := List.length_map _
theorem callH_mem {o n : Str} {hd : List Str} {c : Str} : c ∈ callH o n hd ↔ (c ∈ hd ∧ c ≠ o) ∨ (c = n ∧ o ∈ hd) := by
  unfold callH
  rw [List.mem_map]
  constructor
  · rintro ⟨x, hx, rfl⟩
    by_cases e : x = o
    · rw [if_pos e]; exact .inr ⟨rfl, e ▸ hx⟩
    · rw [if_neg e]; exact .inl ⟨hx, e⟩
  · rintro (⟨h1, h2⟩ | ⟨h1, h2⟩)
    · exact ⟨c, h1, if_neg h2⟩
    · exact ⟨o, h2, by rw [if_pos rfl, h1]⟩
theorem callH_nodup {o n : Str} : ∀ {hd : List Str}, hd.Nodup → (n ∈ hd → n = o) → (callH o n hd).Nodup
  | [], _, _ => List.nodup_nil
  | x :: r, h, hx => by
    obtain ⟨h1, h2⟩ := List.nodup_cons.mp h
    have ih := callH_nodup (o := o) (n := n) h2 fun z => hx (List.mem_cons_of_mem _ z)
    show ((if x = o then n else x) :: callH o n r).Nodup
    refine List.nodup_cons.mpr ⟨fun z => ?_, ih⟩
    rw [callH_mem] at z
    by_cases e : x = o
    · rw [if_pos e] at z
      rcases z with ⟨z1, z2⟩ | ⟨_, z2⟩
      · exact z2 (hx (List.mem_cons_of_mem _ z1))
      · exact h1 (e ▸ z2)
    · rw [if_neg e] at z
      rcases z with ⟨z1, z2⟩ | ⟨z1, z2⟩
      · exact h1 z1
      · have := hx (by rw [← z1]; exact List.mem_cons_self)
        rw [z1] at e
        exact e this
theorem joinX_iff {a b : List Str} {c : Str} : c ∈ joinX a b ↔ c ∈ b ∧ c ∉ a := by
  unfold joinX
  rw [List.mem_filter]
  simp
theorem join_nodup {a b : List Str} (h1 : a.Nodup) (h2 : b.Nodup) : (a ++ joinX a b).Nodup := by
  rw [List.nodup_append]
  refine ⟨h1, h2.filter _, fun x hx y hy e => ?_⟩
  subst e
  exact (joinX_iff.mp hy).2 hx
theorem ok_head {hs : Hs} : ∀ {q : Qn}, Ok hs q → (hdQ hs q).Nodup ∧ (hdQ hs q).length ≤ 6
  | .table n, h => by
    obtain ⟨hd, e, h1, h2⟩ := h
    have e2 : hdQ hs (.table n) = hd := by show (hs.lookup n).getD [] = hd; rw [e]; rfl
    rw [e2]
    exact ⟨h1, h2⟩
  | .pick t q, h => ok_head (q := q) h.1
  | .keep cs q, h => ⟨h.2.1, h.2.2.2⟩
  | .call o n q, h => by
    obtain ⟨i1, i2⟩ := ok_head (q := q) h.1
    refine ⟨callH_nodup i1 h.2.2, ?_⟩
    show (callH o n (hdQ hs q)).length ≤ 6
    rw [callH_len]
    exact i2
  | .join a b, h => ⟨join_nodup (ok_head (q := a) h.1).1 (ok_head (q := b) h.2.1).1, h.2.2⟩
  | .put a b, h => ok_head (q := a) h.1
  | .ring _ _ _ _, h => h.elim
/-! ### heads by the tables' names -/
def dicH (hs : Hs) : D := .dic (hs.map (·.1)) (hs.map fun p => tS p.2)
theorem hs_find : ∀ {hs : Hs} {n : Str} {h : List Str}, hs.lookup n = some h → dfind (hs.map (·.1)) (hs.map fun p => tS p.2) n = some (tS h) ∧ (hs.map (·.1)).contains n = true
  | [], n, h, e => by simp at e
  | (m, g) :: r, n, h, e => by
    rw [List.lookup_cons] at e
    rw [List.map_cons, List.map_cons, List.contains_cons]
    by_cases c : n = m
    · subst c
      simp at e
      subst e
      exact ⟨if_pos rfl, by simp⟩
    · have c' : (n == m) = false := by simpa using c
      rw [c'] at e
      obtain ⟨i1, i2⟩ := hs_find (hs := r) e
      refine ⟨?_, by rw [i2]; simp⟩
      show (if m = n then _ else dfind _ _ _) = _
      rw [if_neg (fun z => c z.symm)]
      exact i1
theorem tixL {ds : List D} {d : D} {k : D → Prop} (h : 0 < ds.length) (e : ds[ds.length - 1]? = some d) (hk : k d) : jIx (.tup ds) (.a (.int (-1))) k := by
  have z : atI ds (-1) = some d := by
    unfold atI ixN
    rw [if_neg (by omega), if_pos (by omega)]
    have : (-1 + (ds.length : Int)).toNat = ds.length - 1 := by omega
    rw [this]
    exact e
  unfold jIx dIx
  simp only [z]
  exact hk
section
variable {P : Program} {w : World} {K : PySem.W.Frag} {mg : Str → Option Value} {base : Heap} {C : Addr}
/-! ### head_of -/
def fsHead (n : Nat) : FS := fs (ι := Qn × Hs) (fun ⟨q, hs⟩ => [encQ q, dicH hs]) (fun ⟨q, hs⟩ => q.dep ≤ n ∧ Ok hs q) (fun ⟨q, hs⟩ d => d = tS (hdQ hs q))
abbrev s_head_of : Stmt := top 38
theorem sc_head_of : FnScope ["question", "heads", "word", "one", "other", "head"] ["question", "heads"] (defScope s_head_of) := ⟨rfl, rfl, rfl, by decide +kernel, rfl, by decide +kernel, by decide +kernel⟩
theorem c_head_of (T : Txt mg) (Df : DefAt K mg "head_of" s_head_of) (c_joined_head : Callee P w K mg base C 1 "joined_head" ["head", "other"] fsJoinH) (c_together_head : Callee P w K mg base C 1 "together_head" ["head", "other"] fsTogether)
    (c_pick_head : Callee P w K mg base C 8 "pick_head" ["test", "head"] fsPickH) (c_kept_head : Callee P w K mg base C 1 "kept_head" ["head", "columns"] fsKept) (c_called_head : Callee P w K mg base C 1 "called_head" ["head", "old", "new"] fsCalled) :
    ∀ n, Callee P w K mg base C (n + 9) "head_of" ["question", "heads"] (fsHead n)
  | 0 => by
    refine def_ok Df sc_head_of (fun _ _ _ _ _ _ us hl => match us, hl with | [_, _], _ => rfl) (fs_len fun _ => rfl) fun fa cdv A outer s H E hr => ⟨_, _, dss_never, ?_⟩
    rintro so ds k ⟨⟨q, hs⟩, rfl, hp, hk⟩
    have hn := hp.1
    cases q <;> exact absurd hn (by simp [Qn.dep])
  | n + 1 => by
    have c := c_head_of T Df c_joined_head c_together_head c_pick_head c_kept_head c_called_head n
    refine def_ok Df sc_head_of (fun _ _ _ _ _ _ us hl => match us, hl with | [_, _], _ => rfl) (fs_len fun _ => rfl) fun fa cdv A outer s H E hr => ⟨_, _,
      (dss_cons (ds_set (i := 2) (de_ixJ (hu_of hr) (de_var 0) de_int) sc_head_of.nd)
    (dss_cons (ds_if (dp_cmp (p_eq hr.units) (de_var 2) de_str) (dss_cons (ds_if (dp_cmp (p_notIn (hu_of hr)) (de_ixJ (hu_of hr) (de_var 0) de_int) (de_var 1)) (dss_one ds_never) dss_nil)
    (dss_one (ds_ret (de_ixJ (hu_of hr) (de_var 1) (de_ixJ (hu_of hr) (de_var 0) de_int))))) dss_nil)
    (dss_cons (ds_if (dp_cmp (p_eq hr.units) (de_var 2) de_str) (dss_one ds_never) dss_nil)
    (dss_cons (ds_if ((dw_or (dp_cmp (p_eq hr.units) (de_var 2) de_str) (dw_or1 (dp_cmp (p_eq hr.units) (de_var 2) de_str))).dp) (dss_cons (ds_set (i := 3) (de_call c (hr.mono (by omega)) (da_cons (de_ixJ (hu_of hr) (de_var 0) de_int) (da_cons (de_var 1) da_nil))) sc_head_of.nd)
    (dss_cons (ds_set (i := 4) (de_call c (hr.mono (by omega)) (da_cons (de_ixJ (hu_of hr) (de_var 0) de_int) (da_cons (de_var 1) da_nil))) sc_head_of.nd)
    (dss_cons (ds_if (dp_cmp (p_eq hr.units) (de_var 2) de_str) (dss_one (ds_ret (de_call c_joined_head (hr.mono (by omega)) (da_cons (de_var 3) (da_cons (de_var 4) da_nil))))) dss_nil)
    (dss_one (ds_ret (de_call c_together_head (hr.mono (by omega)) (da_cons (de_var 3) (da_cons (de_var 4) da_nil)))))))) dss_nil)
    (dss_cons (ds_set (i := 5) (de_call c (hr.mono (by omega)) (da_cons (de_ixJ (hu_of hr) (de_var 0) (de_neg de_int)) (da_cons (de_var 1) da_nil))) sc_head_of.nd)
    (dss_cons (ds_if (dp_cmp (p_eq hr.units) (de_var 2) de_str) (dss_one (ds_ret (de_call c_pick_head (hr.mono (by omega)) (da_cons (de_ixJ (hu_of hr) (de_var 0) de_int) (da_cons (de_var 5) da_nil))))) dss_nil)
    (dss_cons (ds_if (dp_cmp (p_eq hr.units) (de_var 2) de_str) (dss_one (ds_ret (de_call c_kept_head (hr.mono (by omega)) (da_cons (de_var 5) (da_cons (de_ixJ (hu_of hr) (de_var 0) de_int) da_nil))))) dss_nil)
    (dss_one (ds_ret (de_call c_called_head (hr.mono (by omega)) (da_cons (de_var 5) (da_cons (de_ixJ (hu_of hr) (de_var 0) de_int) (da_cons (de_ixJ (hu_of hr) (de_var 0) de_int) da_nil))))))))))))), ?_⟩
    rintro so ds k ⟨⟨q, hs⟩, rfl, ⟨hn, ok⟩, hk⟩
    cases q with
    | table m =>
      obtain ⟨h, e, _, _⟩ := id ok
      obtain ⟨f1, f2⟩ := hs_find e
      have e2 : hdQ hs (.table m) = h := by show (hs.lookup m).getD [] = h; rw [e]; rfl
      refine tix (j := 0) rfl rfl (eq_t rfl rfl (yes rfl (tix (j := 1) rfl rfl (in_dic (no (by simpa using f2) (tix (j := 1) rfl rfl (dix f1 (hk _ ?_))))))))
      show tS h = tS (hdQ hs (.table m))
      rw [e2]
    | pick t q =>
      simp only [Qn.dep] at hn
      refine tix (j := 0) rfl rfl (eq_t rfl rfl (no rfl (eq_t rfl rfl (no rfl (eq_t rfl rfl (eq_t rfl rfl (no rfl (tixL (Nat.succ_pos _) rfl ?_))))))))
      refine ⟨(q, hs), rfl, ⟨by omega, ok.1⟩, ?_⟩
      rintro d rfl
      refine eq_t rfl rfl (yes rfl (tix (j := 1) rfl rfl ⟨(t, hdQ hs q), rfl, ⟨ok.2.2.1, ok.2.1⟩, ?_⟩))
      rintro d rfl
      exact hk _ rfl
    | keep cs q =>
      simp only [Qn.dep] at hn
      refine tix (j := 0) rfl rfl (eq_t rfl rfl (no rfl (eq_t rfl rfl (no rfl (eq_t rfl rfl (eq_t rfl rfl (no rfl (tixL (Nat.succ_pos _) rfl ?_))))))))
      refine ⟨(q, hs), rfl, ⟨by omega, ok.1⟩, ?_⟩
      rintro d rfl
      refine eq_t rfl rfl (no rfl (eq_t rfl rfl (yes rfl (tix (j := 1) rfl rfl ⟨(hdQ hs q, cs), rfl, ⟨ok.2.1, ok.2.2.1, Nat.le_trans ok.2.2.2 (by decide)⟩, ?_⟩))))
      rintro d rfl
      exact hk _ rfl
    | call o m q =>
      simp only [Qn.dep] at hn
      obtain ⟨g1, g2⟩ := ok_head ok.1
      refine tix (j := 0) rfl rfl (eq_t rfl rfl (no rfl (eq_t rfl rfl (no rfl (eq_t rfl rfl (eq_t rfl rfl (no rfl (tixL (Nat.succ_pos _) rfl ?_))))))))
      refine ⟨(q, hs), rfl, ⟨by omega, ok.1⟩, ?_⟩
      rintro d rfl
      refine eq_t rfl rfl (no rfl (eq_t rfl rfl (no rfl (tix (j := 1) rfl rfl (tix (j := 2) rfl rfl ⟨(hdQ hs q, o, m), rfl, ⟨g1, ok.2.1, ok.2.2, Nat.le_trans g2 (by decide)⟩, ?_⟩)))))
      rintro d rfl
      exact hk _ rfl
    | join a b =>
      simp only [Qn.dep] at hn
      obtain ⟨g1, g2⟩ := ok_head ok.1
      obtain ⟨g3, g4⟩ := ok_head ok.2.1
      refine tix (j := 0) rfl rfl (eq_t rfl rfl (no rfl (eq_t rfl rfl (no rfl (eq_t rfl rfl (yes rfl (tix (j := 1) rfl rfl ?_)))))))
      refine ⟨(a, hs), rfl, ⟨by omega, ok.1⟩, ?_⟩
      rintro d rfl
      refine tix (j := 2) rfl rfl ⟨(b, hs), rfl, ⟨by omega, ok.2.1⟩, ?_⟩
      rintro d rfl
      refine eq_t rfl rfl (yes rfl ⟨(hdQ hs a, hdQ hs b), rfl, ⟨Nat.le_trans g2 (by decide), Nat.le_trans g4 (by decide)⟩, ?_⟩)
      rintro d rfl
      exact hk _ rfl
    | put a b =>
      simp only [Qn.dep] at hn
      obtain ⟨g1, g2⟩ := ok_head ok.1
      obtain ⟨g3, g4⟩ := ok_head ok.2.1
      refine tix (j := 0) rfl rfl (eq_t rfl rfl (no rfl (eq_t rfl rfl (no rfl (eq_t rfl rfl (eq_t rfl rfl (yes rfl (tix (j := 1) rfl rfl ?_))))))))
      refine ⟨(a, hs), rfl, ⟨by omega, ok.1⟩, ?_⟩
      rintro d rfl
      refine tix (j := 2) rfl rfl ⟨(b, hs), rfl, ⟨by omega, ok.2.1⟩, ?_⟩
      rintro d rfl
      refine eq_t rfl rfl (no rfl ⟨(hdQ hs a, hdQ hs b), rfl, ⟨ok.2.2, Nat.le_trans g2 (by decide), Nat.le_trans g4 (by decide)⟩, ?_⟩)
      rintro d rfl
      exact hk _ rfl
    | ring _ _ _ _ => exact ok.elim
end
end Wh

namespace Wh
open PySem L2
section
variable {P : Program} {w : World} {K : PySem.W.Frag} {mg : Str → Option Value} {base : Heap} {C : Addr}
/-! ### replaced -/
def fsRepl (n : Nat) : FS := fs (ι := Qn × Str × Qn) (fun ⟨q, m, o⟩ => [encQ q, sD m, encQ o]) (fun ⟨q, m, o⟩ => q.dep ≤ n ∧ q.rf = true) (fun ⟨q, m, o⟩ d => d = encQ (repl q m o))
theorem few {n : Nat} (h : Nat.ble n 16 = true) : n ≤ sizeLine := by
  rw [sizeLine_eq]
  have := Nat.le_of_ble_eq_true h
  omega
abbrev s_replaced : Stmt := top 21
theorem sc_replaced : FnScope ["question", "name", "other", "word"] ["question", "name", "other"] (defScope s_replaced) := ⟨rfl, rfl, rfl, by decide +kernel, rfl, by decide +kernel, by decide +kernel⟩
theorem c_replaced (T : Txt mg) (Df : DefAt K mg "replaced" s_replaced) : ∀ n, Callee P w K mg base C (n + 1) "replaced" ["question", "name", "other"] (fsRepl n)
  | 0 => by
    refine def_ok Df sc_replaced (fun _ _ _ _ _ _ us hl => match us, hl with | [_, _, _], _ => rfl) (fs_len fun _ => rfl) fun fa cdv A outer s H E hr => ⟨_, _, dss_never, ?_⟩
    rintro so ds k ⟨⟨q, m, o⟩, rfl, hp, hk⟩
    have hn := hp.1
    cases q <;> exact absurd hn (by simp [Qn.dep])
  | n + 1 => by
    have c := c_replaced T Df n
    refine def_ok Df sc_replaced (fun _ _ _ _ _ _ us hl => match us, hl with | [_, _, _], _ => rfl) (fs_len fun _ => rfl) fun fa cdv A outer s H E hr => ⟨_, _,
      (dss_cons (ds_set (i := 3) (de_ixJ (hu_of hr) (de_var 0) de_int) sc_replaced.nd)
    (dss_cons (ds_if (dp_cmp (p_eq hr.units) (de_var 3) de_str) (dss_cons (ds_if (dp_cmp (p_eq hr.units) (de_ixJ (hu_of hr) (de_var 0) de_int) (de_var 1)) (dss_one (ds_ret (de_var 2))) dss_nil)
    (dss_one (ds_ret (de_var 0)))) dss_nil)
    (dss_cons (ds_if ((dw_or (dp_cmp (p_eq hr.units) (de_var 3) de_str) (dw_or1 (dp_cmp (p_eq hr.units) (de_var 3) de_str))).dp) (dss_one (ds_ret (de_tup (da_cons (de_var 3) (da_cons (de_call c (hr.mono (Nat.le_refl _)) (da_cons (de_ixJ (hu_of hr) (de_var 0) de_int) (da_cons (de_var 1) (da_cons (de_var 2) da_nil)))) (da_cons (de_call c (hr.mono (Nat.le_refl _)) (da_cons (de_ixJ (hu_of hr) (de_var 0) de_int) (da_cons (de_var 1) (da_cons (de_var 2) da_nil)))) da_nil)))))) dss_nil)
    (dss_one (ds_ret (de_op p_add (de_sl (de_var 0) dpo_no (dpo_some (de_neg de_int))) (de_tup (da_cons (de_call c (hr.mono (Nat.le_refl _)) (da_cons (de_ixJ (hu_of hr) (de_var 0) (de_neg de_int)) (da_cons (de_var 1) (da_cons (de_var 2) da_nil)))) da_nil)))))))), ?_⟩
    rintro so ds k ⟨⟨q, m, o⟩, rfl, ⟨hn, rf⟩, hk⟩
    cases q with
    | table x =>
      refine tix (j := 0) rfl rfl (eq_t rfl rfl (yes rfl (tix (j := 1) rfl rfl ?_)))
      by_cases e : x = m
      · refine eq_t rfl (b := true) (by simp [e]) (yes rfl (hk _ ?_))
        show encQ o = encQ (repl (.table x) m o)
        unfold repl
        rw [if_pos e]
      · refine eq_t rfl (b := false) (by simp; exact fun z => e z) (no rfl (hk _ ?_))
        show encQ (.table x) = encQ (repl (.table x) m o)
        conv => rhs; unfold repl
        rw [if_neg e]
    | pick t q =>
      simp only [Qn.dep] at hn
      refine tix (j := 0) rfl rfl (eq_t rfl rfl (no rfl (eq_t rfl rfl (eq_t rfl rfl (no rfl (tixL (Nat.succ_pos _) rfl ?_))))))
      refine ⟨(q, m, o), rfl, ⟨by omega, rf⟩, ?_⟩
      rintro d rfl
      exact add_t (few rfl) (hk _ rfl)
    | keep cs q =>
      simp only [Qn.dep] at hn
      refine tix (j := 0) rfl rfl (eq_t rfl rfl (no rfl (eq_t rfl rfl (eq_t rfl rfl (no rfl (tixL (Nat.succ_pos _) rfl ?_))))))
      refine ⟨(q, m, o), rfl, ⟨by omega, rf⟩, ?_⟩
      rintro d rfl
      exact add_t (few rfl) (hk _ rfl)
    | call x y q =>
      simp only [Qn.dep] at hn
      refine tix (j := 0) rfl rfl (eq_t rfl rfl (no rfl (eq_t rfl rfl (eq_t rfl rfl (no rfl (tixL (Nat.succ_pos _) rfl ?_))))))
      refine ⟨(q, m, o), rfl, ⟨by omega, rf⟩, ?_⟩
      rintro d rfl
      exact add_t (few rfl) (hk _ rfl)
    | join a b =>
      simp only [Qn.dep] at hn
      obtain ⟨ra, rb⟩ := Bool.and_eq_true_iff.mp (show (a.rf && b.rf) = true from rf)
      refine tix (j := 0) rfl rfl (eq_t rfl rfl (no rfl (eq_t rfl rfl (yes rfl (tix (j := 1) rfl rfl ?_)))))
      refine ⟨(a, m, o), rfl, ⟨by omega, ra⟩, ?_⟩
      rintro d rfl
      refine tix (j := 2) rfl rfl ⟨(b, m, o), rfl, ⟨by omega, rb⟩, ?_⟩
      rintro d rfl
      exact hk _ rfl
    | put a b =>
      simp only [Qn.dep] at hn
      obtain ⟨ra, rb⟩ := Bool.and_eq_true_iff.mp (show (a.rf && b.rf) = true from rf)
      refine tix (j := 0) rfl rfl (eq_t rfl rfl (no rfl (eq_t rfl rfl (eq_t rfl rfl (yes rfl (tix (j := 1) rfl rfl ?_))))))
      refine ⟨(a, m, o), rfl, ⟨by omega, ra⟩, ?_⟩
      rintro d rfl
      refine tix (j := 2) rfl rfl ⟨(b, m, o), rfl, ⟨by omega, rb⟩, ?_⟩
      rintro d rfl
      exact hk _ rfl
    | ring _ _ _ _ => exact nomatch rf
/-! ### unrolled, ring_unrolled -/
/-- rings: few rounds, steps not deep -/
def RgOk : Qn → Prop
  | .table _ => True
  | .pick _ q => RgOk q
  | .keep _ q => RgOk q
  | .call _ _ q => RgOk q
  | .join a b => RgOk a ∧ RgOk b
  | .put a b => RgOk a ∧ RgOk b
  | .ring _ k a b => RgOk a ∧ RgOk b ∧ (unr b).dep ≤ 40 ∧ k ≤ 3
def fsUnr (n : Nat) : FS := fs (ι := Qn) (fun q => [encQ q]) (fun q => q.dep ≤ n ∧ RgOk q) (fun q d => d = encQ (unr q))
def fsRing (n : Nat) : FS := fs (ι := Str × Nat × Qn × Qn) (fun ⟨m, k, a, b⟩ => [encQ (.ring m k a b)]) (fun ⟨m, k, a, b⟩ => a.dep ≤ n ∧ b.dep ≤ n ∧ RgOk (.ring m k a b)) (fun ⟨m, k, a, b⟩ d => d = encQ (rounds (unr a) (unr b) m k))
abbrev s_ring_unrolled : Stmt := top 22
theorem sc_ring_unrolled : FnScope ["question", "start", "step", "now", "k"] ["question"] (defScope s_ring_unrolled) := ⟨rfl, rfl, rfl, by decide +kernel, rfl, by decide +kernel, by decide +kernel⟩
theorem c_ring_unrolled (T : Txt mg) (Df : DefAt K mg "ring_unrolled" s_ring_unrolled) {n l : Nat} (hl : 41 ≤ l) (c_replaced : Callee P w K mg base C 41 "replaced" ["question", "name", "other"] (fsRepl 40)) (c : Callee P w K mg base C l "unrolled" ["question"] (fsUnr n)) :
    Callee P w K mg base C (l + 1) "ring_unrolled" ["question"] (fsRing n) := by
  refine def_ok Df sc_ring_unrolled (fun _ _ _ _ _ _ us hl => match us, hl with | [_], _ => rfl) (fs_len fun _ => rfl) fun fa cdv A outer s H E hr => ⟨_, _,
    (dss_cons (ds_set (i := 1) (de_call c (hr.mono (Nat.le_refl _)) (da_cons (de_ixJ (hu_of hr) (de_var 0) de_int) da_nil)) sc_ring_unrolled.nd)
    (dss_cons (ds_set (i := 2) (de_call c (hr.mono (Nat.le_refl _)) (da_cons (de_ixJ (hu_of hr) (de_var 0) de_int) da_nil)) sc_ring_unrolled.nd)
    (dss_cons (ds_set (i := 3) (de_var 1) sc_ring_unrolled.nd)
    (dss_cons (ds_for PassesOwn.never rfl (di_range1 T.m_range (da_cons (de_ixJ (hu_of hr) (de_var 0) de_int) da_nil)) (pg_name (i := 4) sc_ring_unrolled.nd rfl (Or.inl rfl)) (dss_one (ds_set (i := 3) (de_tup (da_cons de_str (da_cons (de_var 1) (da_cons (de_call c_replaced (hr.mono hl) (da_cons (de_var 2) (da_cons (de_ixJ (hu_of hr) (de_var 0) de_int) (da_cons (de_var 3) da_nil)))) da_nil)))) sc_ring_unrolled.nd)))
    (dss_one (ds_ret (de_var 3))))))), ?_⟩
  rintro so ds k ⟨⟨m, kk, a, b⟩, rfl, ⟨ha, hb, r1, r2, r3, r4⟩, hk⟩
  refine tix (j := 3) rfl rfl ⟨a, rfl, ⟨ha, r1⟩, ?_⟩
  rintro d rfl
  refine tix (j := 4) rfl rfl ⟨b, rfl, ⟨hb, r2⟩, ?_⟩
  rintro d rfl
  refine tix (j := 2) rfl rfl ⟨⟨by omega, by omega⟩, ?_⟩
  refine ⟨fun i ρ => ∃ o, ρ = ⟨[some (encQ (.ring m kk a b)), some (encQ (unr a)), some (encQ (unr b)), some (encQ (rounds (unr a) (unr b) m i)), o], none, so⟩, ⟨none, rfl⟩, ?_, ?_⟩
  · rintro i d ρ hi ⟨o, rfl⟩
    refine tix (j := 1) rfl rfl ⟨(unr b, m, rounds (unr a) (unr b) m i), rfl, ⟨r3, rf_unr b⟩, ?_⟩
    rintro d rfl
    exact ⟨_, rfl⟩
  · rintro ρ ⟨o, rfl⟩
    rw [rangeD_len]
    exact hk _ rfl
abbrev s_unrolled : Stmt := top 23
theorem sc_unrolled : FnScope ["question", "word"] ["question"] (defScope s_unrolled) := ⟨rfl, rfl, rfl, by decide +kernel, rfl, by decide +kernel, by decide +kernel⟩
theorem c_unrolled (T : Txt mg) (Df : DefAt K mg "unrolled" s_unrolled) (Dr : DefAt K mg "ring_unrolled" s_ring_unrolled) (c_replaced : Callee P w K mg base C 41 "replaced" ["question", "name", "other"] (fsRepl 40)) : ∀ n, Callee P w K mg base C (2 * n + 41) "unrolled" ["question"] (fsUnr n)
  | 0 => by
    refine def_ok Df sc_unrolled (fun _ _ _ _ _ _ us hl => match us, hl with | [_], _ => rfl) (fs_len fun _ => rfl) fun fa cdv A outer s H E hr => ⟨_, _, dss_never, ?_⟩
    rintro so ds k ⟨q, rfl, hp, hk⟩
    have hn := hp.1
    cases q <;> exact absurd hn (by simp [Qn.dep])
  | n + 1 => by
    have c := c_unrolled T Df Dr c_replaced n
    have cr := c_ring_unrolled T Dr (by omega) c_replaced c
    refine def_ok Df sc_unrolled (fun _ _ _ _ _ _ us hl => match us, hl with | [_], _ => rfl) (fs_len fun _ => rfl) fun fa cdv A outer s H E hr => ⟨_, _,
      (dss_cons (ds_set (i := 1) (de_ixJ (hu_of hr) (de_var 0) de_int) sc_unrolled.nd)
    (dss_cons (ds_if (dp_cmp (p_eq hr.units) (de_var 1) de_str) (dss_one (ds_ret (de_var 0))) dss_nil)
    (dss_cons (ds_if (dp_cmp (p_eq hr.units) (de_var 1) de_str) (dss_one (ds_ret (de_call cr (hr.mono (by omega)) (da_cons (de_var 0) da_nil)))) dss_nil)
    (dss_cons (ds_if ((dw_or (dp_cmp (p_eq hr.units) (de_var 1) de_str) (dw_or1 (dp_cmp (p_eq hr.units) (de_var 1) de_str))).dp) (dss_one (ds_ret (de_tup (da_cons (de_var 1) (da_cons (de_call c (hr.mono (by omega)) (da_cons (de_ixJ (hu_of hr) (de_var 0) de_int) da_nil)) (da_cons (de_call c (hr.mono (by omega)) (da_cons (de_ixJ (hu_of hr) (de_var 0) de_int) da_nil)) da_nil)))))) dss_nil)
    (dss_one (ds_ret (de_op p_add (de_sl (de_var 0) dpo_no (dpo_some (de_neg de_int))) (de_tup (da_cons (de_call c (hr.mono (by omega)) (da_cons (de_ixJ (hu_of hr) (de_var 0) (de_neg de_int)) da_nil)) da_nil))))))))), ?_⟩
    rintro so ds k ⟨q, rfl, ⟨hn, rg⟩, hk⟩
    cases q with
    | table x => exact tix (j := 0) rfl rfl (eq_t rfl rfl (yes rfl (hk _ rfl)))
    | ring m kk a b =>
      simp only [Qn.dep] at hn
      refine tix (j := 0) rfl rfl (eq_t rfl rfl (no rfl (eq_t rfl rfl (yes rfl ?_))))
      exact ⟨(m, kk, a, b), rfl, ⟨by omega, by omega, rg⟩, fun d e => hk d e⟩
    | pick t q =>
      simp only [Qn.dep] at hn
      refine tix (j := 0) rfl rfl (eq_t rfl rfl (no rfl (eq_t rfl rfl (no rfl (eq_t rfl rfl (eq_t rfl rfl (no rfl (tixL (Nat.succ_pos _) rfl ?_))))))))
      refine ⟨q, rfl, ⟨by omega, rg⟩, ?_⟩
      rintro d rfl
      exact add_t (few rfl) (hk _ rfl)
    | keep cs q =>
      simp only [Qn.dep] at hn
      refine tix (j := 0) rfl rfl (eq_t rfl rfl (no rfl (eq_t rfl rfl (no rfl (eq_t rfl rfl (eq_t rfl rfl (no rfl (tixL (Nat.succ_pos _) rfl ?_))))))))
      refine ⟨q, rfl, ⟨by omega, rg⟩, ?_⟩
      rintro d rfl
      exact add_t (few rfl) (hk _ rfl)
    | call x y q =>
      simp only [Qn.dep] at hn
      refine tix (j := 0) rfl rfl (eq_t rfl rfl (no rfl (eq_t rfl rfl (no rfl (eq_t rfl rfl (eq_t rfl rfl (no rfl (tixL (Nat.succ_pos _) rfl ?_))))))))
      refine ⟨q, rfl, ⟨by omega, rg⟩, ?_⟩
      rintro d rfl
      exact add_t (few rfl) (hk _ rfl)
    | join a b =>
      simp only [Qn.dep] at hn
      refine tix (j := 0) rfl rfl (eq_t rfl rfl (no rfl (eq_t rfl rfl (no rfl (eq_t rfl rfl (yes rfl (tix (j := 1) rfl rfl ?_)))))))
      refine ⟨a, rfl, ⟨by omega, rg.1⟩, ?_⟩
      rintro d rfl
      refine tix (j := 2) rfl rfl ⟨b, rfl, ⟨by omega, rg.2⟩, ?_⟩
      rintro d rfl
      exact hk _ rfl
    | put a b =>
      simp only [Qn.dep] at hn
      refine tix (j := 0) rfl rfl (eq_t rfl rfl (no rfl (eq_t rfl rfl (no rfl (eq_t rfl rfl (eq_t rfl rfl (yes rfl (tix (j := 1) rfl rfl ?_))))))))
      refine ⟨a, rfl, ⟨by omega, rg.1⟩, ?_⟩
      rintro d rfl
      refine tix (j := 2) rfl rfl ⟨b, rfl, ⟨by omega, rg.2⟩, ?_⟩
      rintro d rfl
      exact hk _ rfl
/-! ### leaves, _law_leaves, tree_product -/
def fsLvs (n : Nat) : FS := fs (ι := Tr) (fun t => [encR t]) (fun t => t.dep ≤ n ∧ (lvs t).length ≤ 60) (fun t d => d = lS (lvs t))
abbrev s_leaves : Stmt := top 33
theorem sc_leaves : FnScope ["tree", "names", "part"] ["tree"] (defScope s_leaves) := ⟨rfl, rfl, rfl, by decide +kernel, rfl, by decide +kernel, by decide +kernel⟩
theorem c_leaves (T : Txt mg) (Df : DefAt K mg "leaves" s_leaves) : ∀ n, Callee P w K mg base C (n + 1) "leaves" ["tree"] (fsLvs n)
  | 0 => by
    refine def_ok Df sc_leaves (fun _ _ _ _ _ _ us hl => match us, hl with | [_], _ => rfl) (fs_len fun _ => rfl) fun fa cdv A outer s H E hr => ⟨_, _, dss_never, ?_⟩
    rintro so ds k ⟨t, rfl, hp, hk⟩
    have hn := hp.1
    cases t <;> exact absurd hn (by simp [Tr.dep])
  | n + 1 => by
    have c := c_leaves T Df n
    refine def_ok Df sc_leaves (fun _ _ _ _ _ _ us hl => match us, hl with | [_], _ => rfl) (fs_len fun _ => rfl) fun fa cdv A outer s H E hr => ⟨_, _,
      (dss_cons (ds_if (dp_cmp (p_eq hr.units) (de_ixJ (hu_of hr) (de_var 0) de_int) de_str) (dss_one (ds_ret (de_lst (da_cons (de_ixJ (hu_of hr) (de_var 0) de_int) da_nil)))) dss_nil)
    (dss_cons (ds_set (i := 1) (de_lst da_nil) sc_leaves.nd)
    (dss_cons (ds_for PassesOwn.never rfl (di_seq (de_sl (de_var 0) (dpo_some de_int) dpo_no)) (pg_name (i := 2) sc_leaves.nd rfl (Or.inl rfl)) (dss_one (ds_set (i := 1) (de_op p_add (de_var 1) (de_call c (hr.mono (Nat.le_refl _)) (da_cons (de_var 2) da_nil))) sc_leaves.nd)))
    (dss_one (ds_ret (de_var 1)))))), ?_⟩
    rintro so ds k ⟨t, rfl, ⟨hn, hz⟩, hk⟩
    cases t with
    | row m => exact tix (j := 0) rfl rfl (eq_t rfl rfl (yes rfl (tix (j := 1) rfl rfl (hk _ rfl))))
    | un x t =>
      simp only [Tr.dep] at hn
      have hw : decide (V.str x.w = V.str "row") = false := by cases x <;> rfl
      refine tix (j := 0) rfl rfl (eq_t rfl hw (no rfl ?_))
      refine ⟨fun i ρ => ∃ o, ρ = ⟨[some (encR (.un x t)), some (lS (if i = 0 then [] else lvs t)), o], none, so⟩, ⟨none, rfl⟩, ?_, ?_⟩
      · rintro i d ρ hi ⟨o, rfl⟩
        have hi : [encR t][i]? = some d := hi
        cases i with
        | zero =>
          cases hi
          refine ⟨t, rfl, ⟨by omega, hz⟩, ?_⟩
          rintro d rfl
          refine add_lS (by rw [sizeLine_eq]; show 0 + _ ≤ _; have : (lvs t).length ≤ 60 := hz; omega) ⟨_, rfl⟩
        | succ i => simp at hi
      · rintro ρ ⟨o, rfl⟩
        exact hk _ rfl
    | join a b =>
      simp only [Tr.dep] at hn
      have hz' : (lvs a).length + (lvs b).length ≤ 60 := by rw [← List.length_append]; exact hz
      refine tix (j := 0) rfl rfl (eq_t rfl rfl (no rfl ?_))
      refine ⟨fun i ρ => ∃ o, ρ = ⟨[some (encR (.join a b)), some (lS (match i with | 0 => [] | 1 => lvs a | _ => lvs a ++ lvs b)), o], none, so⟩, ⟨none, rfl⟩, ?_, ?_⟩
      · rintro i d ρ hi ⟨o, rfl⟩
        have hi : [encR a, encR b][i]? = some d := hi
        match i, hi with
        | 0, hi =>
          cases hi
          refine ⟨a, rfl, ⟨by omega, by omega⟩, ?_⟩
          rintro d rfl
          refine add_lS (by rw [sizeLine_eq]; show 0 + _ ≤ _; omega) ⟨_, rfl⟩
        | 1, hi =>
          cases hi
          refine ⟨b, rfl, ⟨by omega, by omega⟩, ?_⟩
          rintro d rfl
          refine add_lS (by rw [sizeLine_eq]; show (lvs a).length + _ ≤ _; omega) ⟨_, rfl⟩
        | i + 2, hi => simp at hi
      · rintro ρ ⟨o, rfl⟩
        exact hk _ rfl
abbrev s_l_leaves : Stmt := top 65
theorem sc_l_leaves : FnScope ["_law_tree", "_law_names"] ["_law_tree"] (defScope s_l_leaves) := ⟨rfl, rfl, rfl, by decide +kernel, rfl, by decide +kernel, by decide +kernel⟩
theorem c_l_leaves (T : Txt mg) (Df : DefAt K mg "_law_leaves" s_l_leaves) : ∀ n, Callee P w K mg base C (n + 1) "_law_leaves" ["_law_tree"] (fsLvs n)
  | 0 => by
    refine def_ok Df sc_l_leaves (fun _ _ _ _ _ _ us hl => match us, hl with | [_], _ => rfl) (fs_len fun _ => rfl) fun fa cdv A outer s H E hr => ⟨_, _, dss_never, ?_⟩
    rintro so ds k ⟨t, rfl, hp, hk⟩
    have hn := hp.1
    cases t <;> exact absurd hn (by simp [Tr.dep])
  | n + 1 => by
    have c := c_l_leaves T Df n
    refine def_ok Df sc_l_leaves (fun _ _ _ _ _ _ us hl => match us, hl with | [_], _ => rfl) (fs_len fun _ => rfl) fun fa cdv A outer s H E hr => ⟨_, _,
      (dss_cons (ds_if (dp_cmp (p_eq hr.units) (de_ixJ (hu_of hr) (de_var 0) de_int) de_str) (dss_one (ds_ret (de_lst (da_cons (de_ixJ (hu_of hr) (de_var 0) de_int) da_nil)))) dss_nil)
    (dss_cons (ds_set (i := 1) (de_call c (hr.mono (Nat.le_refl _)) (da_cons (de_ixJ (hu_of hr) (de_var 0) de_int) da_nil)) sc_l_leaves.nd)
    (dss_cons (ds_if (dp_cmp (p_eq hr.units) (de_ixJ (hu_of hr) (de_var 0) de_int) de_str) (dss_one (ds_set (i := 1) (de_op p_add (de_var 1) (de_call c (hr.mono (Nat.le_refl _)) (da_cons (de_ixJ (hu_of hr) (de_var 0) de_int) da_nil))) sc_l_leaves.nd)) dss_nil)
    (dss_one (ds_ret (de_var 1)))))), ?_⟩
    rintro so ds k ⟨t, rfl, ⟨hn, hz⟩, hk⟩
    cases t with
    | row m => exact tix (j := 0) rfl rfl (eq_t rfl rfl (yes rfl (tix (j := 1) rfl rfl (hk _ rfl))))
    | un x t =>
      simp only [Tr.dep] at hn
      have hw : decide (V.str x.w = V.str "row") = false := by cases x <;> rfl
      have hj : decide (V.str x.w = V.str "join") = false := by cases x <;> rfl
      refine tix (j := 0) rfl rfl (eq_t rfl hw (no rfl (tix (j := 1) rfl rfl ⟨t, rfl, ⟨by omega, hz⟩, ?_⟩)))
      rintro d rfl
      exact tix (j := 0) rfl rfl (eq_t rfl hj (no rfl (hk _ rfl)))
    | join a b =>
      simp only [Tr.dep] at hn
      have hz' : (lvs a).length + (lvs b).length ≤ 60 := by rw [← List.length_append]; exact hz
      refine tix (j := 0) rfl rfl (eq_t rfl rfl (no rfl (tix (j := 1) rfl rfl ⟨a, rfl, ⟨by omega, by omega⟩, ?_⟩)))
      rintro d rfl
      refine tix (j := 0) rfl rfl (eq_t rfl rfl (yes rfl (tix (j := 2) rfl rfl ⟨b, rfl, ⟨by omega, by omega⟩, ?_⟩)))
      rintro d rfl
      exact add_lS (by rw [sizeLine_eq]; omega) (hk _ rfl)
def fsProd (n : Nat) : FS := fs (ι := Tr) (fun t => [encR t]) (fun t => t.dep ≤ n ∧ (lvs t).length ≤ 60) (fun t d => ∃ ys, d = tS ys ∧ ys.Perm (lvs t) ∧ PyProof.Rows.sortedS ys = true)
abbrev s_tree_product : Stmt := top 34
theorem sc_tree_product : FnScope ["tree"] ["tree"] (defScope s_tree_product) := ⟨rfl, rfl, rfl, by decide +kernel, rfl, by decide +kernel, by decide +kernel⟩
theorem c_tree_product (T : Txt mg) (Df : DefAt K mg "tree_product" s_tree_product) {n l : Nat} (c_leaves : Callee P w K mg base C l "leaves" ["tree"] (fsLvs n)) : Callee P w K mg base C (l + 1) "tree_product" ["tree"] (fsProd n) := by
  refine def_ok Df sc_tree_product (fun _ _ _ _ _ _ us hl => match us, hl with | [_], _ => rfl) (fs_len fun _ => rfl) fun fa cdv A outer s H E hr => ⟨_, _,
    (dss_one (ds_ret (de_callT c_tuple T.m_tuple boot_tuple (da_cons (de_callB c_sorted T.m_sorted boot_sorted (da_cons (de_call c_leaves (hr.mono (Nat.le_refl _)) (da_cons (de_var 0) da_nil)) da_nil)) da_nil)))), ?_⟩
  rintro so ds k ⟨t, rfl, ⟨hn, hz⟩, hk⟩
  refine ⟨t, rfl, ⟨hn, hz⟩, ?_⟩
  rintro d rfl
  exact ⟨lvs t, rfl, by omega, fun ys pm so => hk _ ⟨ys, rfl, pm, so⟩⟩
end
end Wh

namespace Wh
open PySem L2
/-! ### what may be compared deep -/
structure Gd (n : Nat) (d : D) : Prop where
  ok : pyok d = true
  lay : PyData.canLay0 (pyd d) = true
  dep : PyData.depth (pyd d) ≤ n
theorem Gd.v {v : V} (h : okV v = true) : Gd 0 (.a v) := by
  cases v with
  | int i => exact ⟨rfl, rfl, Nat.le_refl _⟩
  | str z => exact ⟨rfl, h, Nat.le_refl _⟩
  | _ => cases h
theorem Gd.s {z : Str} (h : sOk z = true) : Gd 0 (sD z) := Gd.v (v := .str z) h
theorem Gd.up {n m : Nat} {d : D} (h : Gd n d) (l : n ≤ m) : Gd m d := ⟨h.ok, h.lay, Nat.le_trans h.dep l⟩
theorem gd_all {n : Nat} : ∀ {ds : List D}, (∀ d ∈ ds, Gd n d) → pyokL ds = true ∧ PyData.canLayAll0 (pydL ds) = true ∧ PyData.depthAll (pydL ds) ≤ n
  | [], _ => ⟨rfl, rfl, Nat.zero_le _⟩
  | d :: r, h => by
    obtain ⟨h1, h2, h3⟩ := h d List.mem_cons_self
    obtain ⟨i1, i2, i3⟩ := gd_all fun e he => h e (List.mem_cons_of_mem _ he)
    exact ⟨Bool.and_eq_true_iff.mpr ⟨h1, i1⟩, Bool.and_eq_true_iff.mpr ⟨h2, i2⟩, Nat.max_le.mpr ⟨h3, i3⟩⟩
theorem Gd.t {n : Nat} {ds : List D} (h : ∀ d ∈ ds, Gd n d) : Gd (n + 1) (.tup ds) := by
  obtain ⟨i1, i2, i3⟩ := gd_all h
  exact ⟨i1, i2, Nat.succ_le_succ i3⟩
theorem Gd.l {n : Nat} {ds : List D} (h : ∀ d ∈ ds, Gd n d) : Gd (n + 1) (.lst ds) := by
  obtain ⟨i1, i2, i3⟩ := gd_all h
  exact ⟨i1, i2, Nat.succ_le_succ i3⟩
theorem Gd.eqOk {n m : Nat} {d e : D} (h : Gd n d) (g : Gd m e) (hn : n ≤ 64) (hm : m ≤ 64) : EqOk d e :=
  ⟨h.ok, g.ok, Bool.and_eq_true_iff.mpr ⟨h.lay, decide_eq_true (Nat.le_trans h.dep hn)⟩, Bool.and_eq_true_iff.mpr ⟨g.lay, decide_eq_true (Nat.le_trans g.dep hm)⟩⟩
theorem gd_strs {xs : List Str} (h : ∀ c ∈ xs, sOk c = true) : ∀ d ∈ strsD xs, Gd 0 d := fun d hd => by
  obtain ⟨c, hc, rfl⟩ := List.mem_map.mp hd
  exact Gd.s (h c hc)
theorem gd_vals {xs : List V} (h : ∀ c ∈ xs, okV c = true) : ∀ d ∈ xs.map D.a, Gd 0 d := fun d hd => by
  obtain ⟨c, hc, rfl⟩ := List.mem_map.mp hd
  exact Gd.v (h c hc)
/-- a list, a tuple against the empty one -/
theorem eq_nilL {neg : Bool} {n : Nat} {ds : List D} {k : D → Prop} (g : Gd n (.lst ds)) (hn : n ≤ 64) (hk : k (.a (.bl (if neg then !ds.isEmpty else ds.isEmpty)))) : jEq neg (.lst ds) (.lst []) k := by
  unfold jEq
  refine ⟨g.eqOk (Gd.l (n := 0) (fun _ h => nomatch h)) hn (by decide), ?_⟩
  have e : PyData.eqv (pyd (.lst ds)) (pyd (.lst [])) = ds.isEmpty := by cases ds <;> rfl
  rw [e]
  exact hk
theorem eq_nilT {neg : Bool} {n : Nat} {ds : List D} {k : D → Prop} (g : Gd n (.tup ds)) (hn : n ≤ 64) (hk : k (.a (.bl (if neg then !ds.isEmpty else ds.isEmpty)))) : jEq neg (.tup ds) (.tup []) k := by
  unfold jEq
  refine ⟨g.eqOk (Gd.t (n := 0) (fun _ h => nomatch h)) hn (by decide), ?_⟩
  have e : PyData.eqv (pyd (.tup ds)) (pyd (.tup [])) = ds.isEmpty := by cases ds <;> rfl
  rw [e]
  exact hk
/-- a text against a tuple -/
theorem eq_st {n : Nat} {z : Str} {ds : List D} {k : D → Prop} (hz : sOk z = true) (g : Gd n (.tup ds)) (hn : n ≤ 64) (hk : k (.a (.bl false))) : jEq false (sD z) (.tup ds) k := by
  unfold jEq
  exact ⟨(Gd.s hz).eqOk g (by decide) hn, hk⟩
theorem eq_s {neg : Bool} {x y : Str} {k : D → Prop} (hk : k (.a (.bl (if neg then !decide (x = y) else decide (x = y))))) : jEq neg (sD x) (sD y) k := by
  unfold jEq
  have e : decide (V.str x = V.str y) = decide (x = y) := by
    by_cases c : x = y
    · subst c; simp
    · rw [decide_eq_false c, decide_eq_false (fun z => c (by injection z))]
  exact ⟨rfl, by rw [e]; exact hk⟩

/-! ### what stands, the world -/
def encW (r : Rw) : D := .tup [sD r.tab, sD r.name, tV r.row]
def stD (st : List Rw) : D := .lst (st.map encW)
def wD (ns cs : List Str) (hs : Hs) (pool : List V) : D := .tup [lS ns, lS cs, dicH hs, lV pool]
structure StOk (hs : Hs) (st : List Rw) : Prop where
  few : st.length ≤ 1000
  row : ∀ r ∈ st, ∃ h, hs.lookup r.tab = some h ∧ r.row.length = h.length ∧ (∀ v ∈ r.row, okV v = true) ∧ sOk r.tab = true ∧ sOk r.name = true
theorem StOk.sub {hs : Hs} {st st' : List Rw} (h : StOk hs st) (l : st'.length ≤ st.length) (s : ∀ r ∈ st', r ∈ st) : StOk hs st' := ⟨Nat.le_trans l h.few, fun r hr => h.row r (s r hr)⟩
theorem StOk.gd {hs : Hs} {st : List Rw} (h : StOk hs st) : ∀ d ∈ st.map encW, Gd 2 d := fun d hd => by
  obtain ⟨r, hr, rfl⟩ := List.mem_map.mp hd
  obtain ⟨_, _, _, h3, h4, h5⟩ := h.row r hr
  refine Gd.t (n := 1) fun e he => ?_
  rcases List.mem_cons.mp he with z | he
  · rw [z]; exact (Gd.s h4).up (by decide)
  rcases List.mem_cons.mp he with z | he
  · rw [z]; exact (Gd.s h5).up (by decide)
  rcases List.mem_cons.mp he with z | he
  · rw [z]; exact Gd.t (gd_vals h3)
  · cases he
/-- a tree's names are texts of characters -/
def Tr.sok : Tr → Bool
  | .row n => sOk n
  | .un _ t => t.sok
  | .join a b => a.sok && b.sok
theorem UW.sok (x : UW) : sOk x.w = true := by cases x <;> decide +kernel
theorem gd_tree : ∀ {t : Tr}, t.sok = true → Gd t.dep (encR t)
  | .row n, h => Gd.t (n := 0) fun e he => by
    rcases List.mem_cons.mp he with z | he
    · rw [z]; exact Gd.s (by decide +kernel)
    rcases List.mem_cons.mp he with z | he
    · rw [z]; exact Gd.s h
    · cases he
  | .un x t, h => Gd.t (n := t.dep) fun e he => by
    rcases List.mem_cons.mp he with z | he
    · rw [z]; exact (Gd.s x.sok).up (Nat.zero_le _)
    rcases List.mem_cons.mp he with z | he
    · rw [z]; exact gd_tree (t := t) h
    · cases he
  | .join a b, h => Gd.t (n := max a.dep b.dep) fun e he => by
    obtain ⟨h1, h2⟩ := Bool.and_eq_true_iff.mp (show (a.sok && b.sok) = true from h)
    rcases List.mem_cons.mp he with z | he
    · rw [z]; exact (Gd.s (by decide +kernel)).up (Nat.zero_le _)
    rcases List.mem_cons.mp he with z | he
    · rw [z]; exact (gd_tree (t := a) h1).up (Nat.le_max_left _ _)
    rcases List.mem_cons.mp he with z | he
    · rw [z]; exact (gd_tree (t := b) h2).up (Nat.le_max_right _ _)
    · cases he
/-! ### what a tree brings is of the question's head -/
structure Brought (hs : Hs) (q : Qn) (x : List Str × List V) : Prop where
  hd : x.1 = hdQ hs q
  len : x.2.length = x.1.length
  ok : ∀ v ∈ x.2, okV v = true
theorem brg_ok {hs : Hs} {st : List Rw} (so : StOk hs st) : ∀ (q : Qn) (t : Tr) (x : List Str × List V), Ok hs q → brg hs st t q = some x → Brought hs q x
  | .table n, t, x, ok, e => by
    cases t with
    | row m =>
      have e : ((spot st n m).map fun r => ((hs.lookup n).getD [], r)) = some x := e
      cases hsp : spot st n m with
      | none => rw [hsp] at e; cases e
      | some r =>
        rw [hsp] at e
        cases e
        unfold spot at hsp
        cases hf : st.find? (fun o => decide (o.tab = n) && decide (o.name = m)) with
        | none => rw [hf] at hsp; cases hsp
        | some o =>
          rw [hf] at hsp
          cases hsp
          have p := List.find?_some hf
          simp only [Bool.and_eq_true, decide_eq_true_eq] at p
          obtain ⟨h, h1, h2, h3, _⟩ := so.row o (List.mem_of_find?_eq_some hf)
          rw [p.1] at h1
          refine ⟨rfl, ?_, h3⟩
          show o.row.length = ((hs.lookup n).getD []).length
          rw [h1]
          exact h2
    | un w t => cases e
    | join a b => cases e
  | .put a b, t, x, ok, e => by
    cases t with
    | row m => cases e
    | join _ _ => cases e
    | un w t =>
      cases w with
      | first =>
        have i := brg_ok so a t x ok.1 e
        exact ⟨i.hd, i.len, i.ok⟩
      | second =>
        have e : ((brg hs st t b).map fun x => (hdQ hs a, vals x.1 x.2 (hdQ hs a))) = some x := e
        cases hb : brg hs st t b with
        | none => rw [hb] at e; cases e
        | some y =>
          rw [hb] at e
          cases e
          have i := brg_ok so b t y ok.2.1 hb
          exact ⟨rfl, vals_len _ _ _, vals_ok i.len (fun c hc => by rw [i.hd]; exact (ok.2.2 c).mp hc) i.ok⟩
      | pick => cases e
      | keep => cases e
      | call => cases e
  | .join a b, t, x, ok, e => by
    cases t with
    | row m => cases e
    | un w t => cases w <;> cases e
    | join t u =>
      have e : (match brg hs st t a, brg hs st u b with
        | some x, some y => joinR x y
        | _, _ => none) = some x := e
      cases ha : brg hs st t a with
      | none => rw [ha] at e; cases e
      | some y =>
        cases hb : brg hs st u b with
        | none => rw [ha, hb] at e; cases e
        | some z =>
          rw [ha, hb] at e
          have i := brg_ok so a t y ok.1 ha
          have j := brg_ok so b u z ok.2.1 hb
          have e : joinR y z = some x := e
          unfold joinR at e
          split at e
          · cases e
            refine ⟨?_, ?_, ?_⟩
            · show y.1 ++ joinX y.1 z.1 = hdQ hs a ++ joinX (hdQ hs a) (hdQ hs b)
              rw [i.hd, j.hd]
            · show (y.2 ++ vals z.1 z.2 (joinX y.1 z.1)).length = (y.1 ++ joinX y.1 z.1).length
              rw [List.length_append, List.length_append, vals_len, i.len]
            · intro v hv
              rcases List.mem_append.mp hv with q | q
              · exact i.ok v q
              · exact vals_ok j.len (fun c hc => joinX_mem hc) j.ok v q
          · cases e
  | .pick c q, t, x, ok, e => by
    cases t with
    | row m => cases e
    | join _ _ => cases e
    | un w t =>
      cases w with
      | pick =>
        have e : (match brg hs st t q with
          | some x => if pas c x.1 x.2 then some x else none
          | none => none) = some x := e
        cases hb : brg hs st t q with
        | none => rw [hb] at e; cases e
        | some y =>
          rw [hb] at e
          have e : (if pas c y.1 y.2 = true then some y else none) = some x := e
          split at e
          · cases e
            have i := brg_ok so q t _ ok.1 hb
            exact ⟨i.hd, i.len, i.ok⟩
          · cases e
      | first => cases e
      | second => cases e
      | keep => cases e
      | call => cases e
  | .keep cs q, t, x, ok, e => by
    cases t with
    | row m => cases e
    | join _ _ => cases e
    | un w t =>
      cases w with
      | keep =>
        have e : ((brg hs st t q).map fun x => (cs, vals x.1 x.2 cs)) = some x := e
        cases hb : brg hs st t q with
        | none => rw [hb] at e; cases e
        | some y =>
          rw [hb] at e
          cases e
          have i := brg_ok so q t y ok.1 hb
          exact ⟨rfl, vals_len _ _ _, vals_ok i.len (fun c hc => by rw [i.hd]; exact ok.2.2.1 c hc) i.ok⟩
      | first => cases e
      | second => cases e
      | pick => cases e
      | call => cases e
  | .call o n q, t, x, ok, e => by
    cases t with
    | row m => cases e
    | join _ _ => cases e
    | un w t =>
      cases w with
      | call =>
        have e : ((brg hs st t q).map fun x => (callH o n x.1, x.2)) = some x := e
        cases hb : brg hs st t q with
        | none => rw [hb] at e; cases e
        | some y =>
          rw [hb] at e
          cases e
          have i := brg_ok so q t y ok.1 hb
          refine ⟨?_, ?_, i.ok⟩
          · show callH o n y.1 = callH o n (hdQ hs q)
            rw [i.hd]
          · show y.2.length = (callH o n y.1).length
            rw [callH_len, i.len]
      | first => cases e
      | second => cases e
      | pick => cases e
      | keep => cases e
  | .ring _ _ _ _, t, x, ok, e => ok.elim
end Wh

namespace Wh
open PySem L2
/-! ### trees by their first word -/
def tw : Tr → Str
  | .row _ => "row"
  | .un w _ => w.w
  | .join _ _ => "join"
theorem enc_hd {t : Tr} {k : D → Prop} (hk : k (sD (tw t))) : jIx (encR t) (.a (.int 0)) k := by
  cases t <;> exact tix (j := 0) rfl rfl hk
theorem w_row (x : UW) : x.w ≠ "row" := by cases x <;> decide +kernel
theorem w_join (x : UW) : x.w ≠ "join" := by cases x <;> decide +kernel
theorem row_join : ("row" : Str) ≠ "join" := by decide +kernel
theorem w_inj (x y : UW) (h : x.w = y.w) : x = y := by cases x <;> cases y <;> first | rfl | exact absurd h (by decide +kernel)
theorem tw_row {t : Tr} (h : tw t = "row") : ∃ n, t = .row n := by
  cases t with
  | row n => exact ⟨n, rfl⟩
  | un w t => exact absurd h (w_row w)
  | join _ _ => exact absurd h row_join.symm
theorem tw_join {t : Tr} (h : tw t = "join") : ∃ a b, t = .join a b := by
  cases t with
  | row n => exact absurd h row_join
  | un w t => exact absurd h (w_join w)
  | join a b => exact ⟨a, b, rfl⟩
theorem tw_un {t : Tr} {x : UW} (h : tw t = x.w) : ∃ u, t = .un x u := by
  cases t with
  | row n => exact absurd h.symm (w_row x)
  | un y t => exact ⟨t, by rw [w_inj y x h]⟩
  | join _ _ => exact absurd h.symm (w_join x)
theorem brg_pick_no {hs : Hs} {st : List Rw} {t : Tr} {c : Tst} {q : Qn} (h : tw t ≠ "pick") : brg hs st t (.pick c q) = none := by
  cases t with
  | row m => rfl
  | join _ _ => rfl
  | un w t => cases w <;> first | rfl | exact absurd rfl h
theorem brg_keep_no {hs : Hs} {st : List Rw} {t : Tr} {c : List Str} {q : Qn} (h : tw t ≠ "keep") : brg hs st t (.keep c q) = none := by
  cases t with
  | row m => rfl
  | join _ _ => rfl
  | un w t => cases w <;> first | rfl | exact absurd rfl h
theorem brg_call_no {hs : Hs} {st : List Rw} {t : Tr} {o n : Str} {q : Qn} (h : tw t ≠ "call") : brg hs st t (.call o n q) = none := by
  cases t with
  | row m => rfl
  | join _ _ => rfl
  | un w t => cases w <;> first | rfl | exact absurd rfl h
theorem brg_join_no {hs : Hs} {st : List Rw} {t : Tr} {a b : Qn} (h : tw t ≠ "join") : brg hs st t (.join a b) = none := by
  cases t with
  | row m => rfl
  | join _ _ => exact absurd rfl h
  | un w t => cases w <;> rfl
theorem brg_put_no {hs : Hs} {st : List Rw} {t : Tr} {a b : Qn} (h : tw t ≠ "first") (h2 : tw t ≠ "second") : brg hs st t (.put a b) = none := by
  cases t with
  | row m => rfl
  | join _ _ => rfl
  | un w t => cases w <;> first | rfl | exact absurd rfl h | exact absurd rfl h2
theorem brg_table_no {hs : Hs} {st : List Rw} {t : Tr} {n : Str} (h : tw t ≠ "row") : brg hs st t (.table n) = none := by
  cases t with
  | row m => exact absurd rfl h
  | join _ _ => rfl
  | un w t => cases w <;> rfl
/-! ### one answer or none -/
theorem isN_go {x : HR} {k : D → Prop} (h0 : x = none → k (.a (.bl true))) (h1 : ∀ y, x = some y → k (.a (.bl false))) : dIsN (encO x) (.a .non) k := by
  cases x with
  | none => exact h0 rfl
  | some y => exact h1 y rfl
/-- [c for c in cs if c in W] by W's reading -/
theorem lc_inW {neg : Bool} {hd cs : List Str} {ρ : DSt} {vs : List Nat} {j : Nat} {wh : DT} {k : List D → Prop} (hh : ∀ c (K : D → Prop), K (tS hd) → wh (blkD ρ vs j (sD c)) K) (hj : ∀ c, (blkD ρ vs j (sD c)).sl[j]? = some (some (sD c))) (hk : k (strsD (if neg then joinX hd cs else sharedH hd cs))) :
    ∃ P : Nat → List D → Prop, P 0 [] ∧ (∀ i d acc, (strsD cs)[i]? = some d → P i acc → dTest (dOp (jIn neg) (dVar j) wh) (blkD ρ vs j d) fun b => if b = true then dVar j (blkD ρ vs j d) fun y => P (i + 1) (acc ++ [y]) else P (i + 1) acc) ∧ ∀ acc, P (strsD cs).length acc → k acc := by
  refine lc_strs (cs := cs) (fun c => if (if neg then !hd.contains c else hd.contains c) then some (sD c) else none) ?_ ?_
  · intro c hc R acc hR
    have e2 := hj c
    simp only [dTest, dOp, dVar, e2]
    refine hh c _ (in_go ?_)
    by_cases h : (if neg then !hd.contains c else hd.contains c) = true
    · rw [if_pos h] at hR
      simp only [h, if_true]
      exact hR
    · rw [if_neg h] at hR
      simp only [h]
      simpa using hR
  · cases neg with
    | true =>
      have e : (cs.filterMap fun c => if (if true = true then !hd.contains c else hd.contains c) = true then some (sD c) else none) = strsD (joinX hd cs) := by
        rw [← joinX_fm]
        congr 1
        funext c
        cases hd.contains c <;> rfl
      rw [e]
      exact hk
    | false =>
      have e : (cs.filterMap fun c => if (if false = true then !hd.contains c else hd.contains c) = true then some (sD c) else none) = strsD (sharedH hd cs) := by
        rw [← shared_fm]
        rfl
      rw [e]
      exact hk
/-- [new if c == old else c for c in head] -/
theorem call_fm (o n : Str) (hd : List Str) : (hd.filterMap fun c => some (sD (if c = o then n else c))) = strsD (callH o n hd) := by
  rw [fm_some]
  unfold callH strsD
  rw [List.map_map]
  rfl
section
variable {P : Program} {w : World} {K : PySem.W.Frag} {mg : Str → Option Value} {base : Heap} {C : Addr}
/-! ### _law_brings -/
structure Wd where
  ns : List Str
  cs : List Str
  hs : Hs
  pool : List V
def encWd (W : Wd) : D := wD W.ns W.cs W.hs W.pool
abbrev BrgI := Tr × Qn × Wd × List Rw
def brgP (n : Nat) : BrgI → Prop := fun ⟨t, q, W, st⟩ => q.dep ≤ n ∧ n ≤ 40 ∧ Ok W.hs q ∧ StOk W.hs st ∧ t.sok = true ∧ t.dep ≤ 60
def fsBrg (n : Nat) : FS := fs (ι := BrgI) (fun ⟨t, q, W, st⟩ => [encR t, encQ q, encWd W, stD st]) (brgP n) (fun ⟨t, q, W, st⟩ d => d = encO (brg W.hs st t q))
def fsBrgJ (n : Nat) : FS := fs (ι := (Tr × Tr) × (Qn × Qn) × Wd × List Rw) (fun ⟨⟨t, u⟩, ⟨a, b⟩, W, st⟩ => [encR (.join t u), encQ (.join a b), encWd W, stD st])
  (fun ⟨⟨t, u⟩, ⟨a, b⟩, W, st⟩ => brgP n (t, a, W, st) ∧ brgP n (u, b, W, st) ∧ Ok W.hs (.join a b)) (fun ⟨⟨t, u⟩, ⟨a, b⟩, W, st⟩ d => d = encO (brg W.hs st (.join t u) (.join a b)))
abbrev s_l_brings_join : Stmt := top 61
theorem sc_l_brings_join : FnScope ["_law_tree", "_law_question_here", "_law_world_here", "_law_stand_here", "_law_one", "_law_other", "_law_shared", "_law_column", "_law_extra"] ["_law_tree", "_law_question_here", "_law_world_here", "_law_stand_here"] (defScope s_l_brings_join) := ⟨rfl, rfl, rfl, by decide +kernel, rfl, by decide +kernel, by decide +kernel⟩
theorem c_l_brings_join (T : Txt mg) (Df : DefAt K mg "_law_brings_join" s_l_brings_join) {n l : Nat} (hl : 1 ≤ l) (c_l_values : Callee P w K mg base C 1 "_law_values" ["_law_head", "_law_row", "_law_columns"] fsVals)
    (c : Callee P w K mg base C l "_law_brings" ["_law_tree", "_law_question_here", "_law_world_here", "_law_stand_here"] (fsBrg n)) : Callee P w K mg base C (l + 1) "_law_brings_join" ["_law_tree", "_law_question_here", "_law_world_here", "_law_stand_here"] (fsBrgJ n) := by
  refine def_ok Df sc_l_brings_join (fun _ _ _ _ _ _ us hl => match us, hl with | [_, _, _, _], _ => rfl) (fs_len fun _ => rfl) fun fa cdv A outer s H E hr => ⟨_, _,
    (dss_cons (ds_set (i := 4) (de_call c (hr.mono (Nat.le_refl _)) (da_cons (de_ixJ (hu_of hr) (de_var 0) de_int) (da_cons (de_ixJ (hu_of hr) (de_var 1) de_int) (da_cons (de_var 2) (da_cons (de_var 3) da_nil))))) sc_l_brings_join.nd)
    (dss_cons (ds_set (i := 5) (de_call c (hr.mono (Nat.le_refl _)) (da_cons (de_ixJ (hu_of hr) (de_var 0) de_int) (da_cons (de_ixJ (hu_of hr) (de_var 1) de_int) (da_cons (de_var 2) (da_cons (de_var 3) da_nil))))) sc_l_brings_join.nd)
    (dss_cons (ds_if ((dw_or (dp_cmp o_isN (de_var 4) de_non) (dw_or1 (dp_cmp o_isN (de_var 5) de_non))).dp) (dss_one (ds_ret de_non)) dss_nil)
    (dss_cons (ds_setLcX (i := 6) rfl sc_l_brings_join.nd rfl rfl (sw_true rfl rfl rfl (by decide +kernel)) (own := [("_law_column", 7)]) (j := 7) (di_seq (de_ixJ (hu_of hr) (de_var 5) de_int)) (blkOk_by (own := [("_law_column", 7)]) (N := ["_law_tree", "_law_question_here", "_law_world_here", "_law_stand_here", "_law_one", "_law_other", "_law_shared", "_law_column", "_law_extra"]) (sc := defScope s_l_brings_join) (by decide +kernel)) (by decide) (fun _ _ _ _ _ => pg_name (i := 7) sc_l_brings_join.nd rfl (Or.inl rfl)) (fun _ _ _ _ _ => ⟨_, (dts_one (dp_cmp (p_in (hu_of hr)) (de_var 7) (de_ixJ (hu_of hr) (de_var 4) de_int)))⟩) (fun _ _ _ _ _ => ⟨_, (de_var 7)⟩))
    (dss_cons (ds_if (dp_cmp (p_ne hr.units) (de_call c_l_values (hr.mono hl) (da_cons (de_ixJ (hu_of hr) (de_var 4) de_int) (da_cons (de_ixJ (hu_of hr) (de_var 4) de_int) (da_cons (de_var 6) da_nil)))) (de_call c_l_values (hr.mono hl) (da_cons (de_ixJ (hu_of hr) (de_var 5) de_int) (da_cons (de_ixJ (hu_of hr) (de_var 5) de_int) (da_cons (de_var 6) da_nil))))) (dss_one (ds_ret de_non)) dss_nil)
    (dss_cons (ds_set (i := 8) (de_callT c_tuple T.m_tuple boot_tuple (da_cons (de_lcX (own := [("_law_column", 7)]) (j := 7) rfl sc_l_brings_join.nd (di_seq (de_ixJ (hu_of hr) (de_var 5) de_int)) (blkOk_by (own := [("_law_column", 7)]) (N := ["_law_tree", "_law_question_here", "_law_world_here", "_law_stand_here", "_law_one", "_law_other", "_law_shared", "_law_column", "_law_extra"]) (sc := defScope s_l_brings_join) (by decide +kernel)) (by decide) (fun _ _ _ _ _ => pg_name (i := 7) sc_l_brings_join.nd rfl (Or.inl rfl)) (fun _ _ _ _ _ => ⟨_, (dts_one (dp_cmp (p_notIn (hu_of hr)) (de_var 7) (de_ixJ (hu_of hr) (de_var 4) de_int)))⟩) (fun _ _ _ _ _ => ⟨_, (de_var 7)⟩)) da_nil)) sc_l_brings_join.nd)
    (dss_one (ds_ret (de_tup (da_cons (de_op p_add (de_ixJ (hu_of hr) (de_var 4) de_int) (de_var 8)) (da_cons (de_op p_add (de_ixJ (hu_of hr) (de_var 4) de_int) (de_call c_l_values (hr.mono hl) (da_cons (de_ixJ (hu_of hr) (de_var 5) de_int) (da_cons (de_ixJ (hu_of hr) (de_var 5) de_int) (da_cons (de_var 8) da_nil))))) da_nil))))))))))), ?_⟩
  rintro so ds k ⟨⟨⟨t, u⟩, ⟨a, b⟩, W, st⟩, rfl, ⟨p1, p2, ok⟩, hk⟩
  refine tix (j := 1) rfl rfl (tix (j := 1) rfl rfl ⟨(t, a, W, st), rfl, p1, ?_⟩)
  rintro d rfl
  refine tix (j := 2) rfl rfl (tix (j := 2) rfl rfl ⟨(u, b, W, st), rfl, p2, ?_⟩)
  rintro d rfl
  have so1 := p1.2.2.2.1
  have ej : brg W.hs st (.join t u) (.join a b) = (match brg W.hs st t a, brg W.hs st u b with
    | some x, some y => joinR x y
    | _, _ => none) := rfl
  cases ha : brg W.hs st t a with
  | none =>
    rw [ha] at ej
    exact yes rfl (hk _ (by show _ = encO (brg W.hs st (.join t u) (.join a b)); rw [ej]; rfl))
  | some x =>
    cases hb : brg W.hs st u b with
    | none =>
      rw [ha, hb] at ej
      exact yes rfl (hk _ (by show _ = encO (brg W.hs st (.join t u) (.join a b)); rw [ej]; rfl))
    | some y =>
      rw [ha, hb] at ej
      have i := brg_ok so1 a t x ok.1 ha
      have j := brg_ok so1 b u y ok.2.1 hb
      obtain ⟨g1, g2⟩ := ok_head ok.1
      obtain ⟨g3, g4⟩ := ok_head ok.2.1
      rw [← i.hd] at g2
      rw [← j.hd] at g4
      have q1 := shared_len x.1 y.1
      have q2 := joinX_len x.1 y.1
      refine no rfl (tix (j := 0) rfl rfl ⟨by rw [strsD_len]; omega, lc_inW (neg := false) (hd := x.1) (cs := y.1) (fun c K h => tix (j := 0) rfl rfl h) (fun _ => rfl) ?_⟩)
      refine tix (j := 0) rfl rfl (tix (j := 1) rfl rfl ⟨(x.1, x.2, sharedH x.1 y.1, false), rfl, ⟨i.len, fun c hc => (shared_mem hc).2, by omega⟩, ?_⟩)
      rintro d rfl
      refine tix (j := 0) rfl rfl (tix (j := 1) rfl rfl ⟨(y.1, y.2, sharedH x.1 y.1, false), rfl, ⟨j.len, fun c hc => (shared_mem hc).1, by omega⟩, ?_⟩)
      rintro d rfl
      refine eq_rows (vals_ok i.len (fun c hc => (shared_mem hc).2) i.ok) (vals_ok j.len (fun c hc => (shared_mem hc).1) j.ok) ?_
      by_cases e : vals x.1 x.2 (sharedH x.1 y.1) = vals y.1 y.2 (sharedH x.1 y.1)
      · have ej2 : joinR x y = some (x.1 ++ joinX x.1 y.1, x.2 ++ vals y.1 y.2 (joinX x.1 y.1)) := if_pos e
        have ej : brg W.hs st (.join t u) (.join a b) = joinR x y := ej
        rw [ej2] at ej
        refine no (by simp [e]) (tix (j := 0) rfl rfl ⟨by rw [strsD_len]; omega, lc_inW (neg := true) (hd := x.1) (cs := y.1) (fun c K h => tix (j := 0) rfl rfl h) (fun _ => rfl) ?_⟩)
        refine tix (j := 0) rfl rfl (add_tS (xs := x.1) (ys := joinX x.1 y.1) (by rw [sizeLine_eq]; omega) ?_)
        refine tix (j := 1) rfl rfl (tix (j := 0) rfl rfl (tix (j := 1) rfl rfl ⟨(y.1, y.2, joinX x.1 y.1, true), rfl, ⟨j.len, fun c hc => joinX_mem hc, by omega⟩, ?_⟩))
        rintro d rfl
        have il := i.len
        refine add_tV (xs := x.2) (by rw [vals_len, sizeLine_eq]; omega) (hk _ ?_)
        show _ = encO (brg W.hs st (.join t u) (.join a b))
        rw [ej]
        rfl
      · have ej2 : joinR x y = none := if_neg e
        have ej : brg W.hs st (.join t u) (.join a b) = joinR x y := ej
        rw [ej2] at ej
        refine yes (by simp [e]) (hk _ ?_)
        show _ = encO (brg W.hs st (.join t u) (.join a b))
        rw [ej]
        rfl
end
end Wh

namespace Wh
open PySem L2
section
variable {P : Program} {w : World} {K : PySem.W.Frag} {mg : Str → Option Value} {base : Heap} {C : Addr}
def fsBrgP (n : Nat) : FS := fs (ι := Tr × (Qn × Qn) × Wd × List Rw) (fun ⟨t, ⟨a, b⟩, W, st⟩ => [encR t, encQ (.put a b), encWd W, stD st])
  (fun ⟨t, ⟨a, b⟩, W, st⟩ => a.dep ≤ n ∧ b.dep ≤ n ∧ n ≤ 40 ∧ Ok W.hs (.put a b) ∧ StOk W.hs st ∧ t.sok = true ∧ t.dep ≤ 60) (fun ⟨t, ⟨a, b⟩, W, st⟩ d => d = encO (brg W.hs st t (.put a b)))
abbrev s_l_brings_put : Stmt := top 62
theorem sc_l_brings_put : FnScope ["_law_tree", "_law_question_here", "_law_world_here", "_law_stand_here", "_law_other", "_law_head"] ["_law_tree", "_law_question_here", "_law_world_here", "_law_stand_here"] (defScope s_l_brings_put) := ⟨rfl, rfl, rfl, by decide +kernel, rfl, by decide +kernel, by decide +kernel⟩
theorem c_l_brings_put (T : Txt mg) (Df : DefAt K mg "_law_brings_put" s_l_brings_put) {n l : Nat} (hl : 49 ≤ l) (c_l_values : Callee P w K mg base C 1 "_law_values" ["_law_head", "_law_row", "_law_columns"] fsVals) (c_head_of : Callee P w K mg base C 49 "head_of" ["question", "heads"] (fsHead 40))
    (c : Callee P w K mg base C l "_law_brings" ["_law_tree", "_law_question_here", "_law_world_here", "_law_stand_here"] (fsBrg n)) : Callee P w K mg base C (l + 1) "_law_brings_put" ["_law_tree", "_law_question_here", "_law_world_here", "_law_stand_here"] (fsBrgP n) := by
  refine def_ok Df sc_l_brings_put (fun _ _ _ _ _ _ us hl => match us, hl with | [_, _, _, _], _ => rfl) (fs_len fun _ => rfl) fun fa cdv A outer s H E hr => ⟨_, _,
    (dss_cons (ds_if (dp_cmp (p_eq hr.units) (de_ixJ (hu_of hr) (de_var 0) de_int) de_str) (dss_one (ds_ret (de_call c (hr.mono (Nat.le_refl _)) (da_cons (de_ixJ (hu_of hr) (de_var 0) de_int) (da_cons (de_ixJ (hu_of hr) (de_var 1) de_int) (da_cons (de_var 2) (da_cons (de_var 3) da_nil))))))) dss_nil)
    (dss_cons (ds_if (dp_cmp (p_ne hr.units) (de_ixJ (hu_of hr) (de_var 0) de_int) de_str) (dss_one (ds_ret de_non)) dss_nil)
    (dss_cons (ds_set (i := 4) (de_call c (hr.mono (Nat.le_refl _)) (da_cons (de_ixJ (hu_of hr) (de_var 0) de_int) (da_cons (de_ixJ (hu_of hr) (de_var 1) de_int) (da_cons (de_var 2) (da_cons (de_var 3) da_nil))))) sc_l_brings_put.nd)
    (dss_cons (ds_if (dp_cmp o_isN (de_var 4) de_non) (dss_one (ds_ret de_non)) dss_nil)
    (dss_cons (ds_set (i := 5) (de_call c_head_of (hr.mono hl) (da_cons (de_ixJ (hu_of hr) (de_var 1) de_int) (da_cons (de_ixJ (hu_of hr) (de_var 2) de_int) da_nil))) sc_l_brings_put.nd)
    (dss_one (ds_ret (de_tup (da_cons (de_var 5) (da_cons (de_call c_l_values (hr.mono (by omega)) (da_cons (de_ixJ (hu_of hr) (de_var 4) de_int) (da_cons (de_ixJ (hu_of hr) (de_var 4) de_int) (da_cons (de_var 5) da_nil)))) da_nil)))))))))), ?_⟩
  rintro so ds k ⟨⟨t, ⟨a, b⟩, W, st⟩, rfl, ⟨ha, hb, hn, ok, so1, tk, td⟩, hk⟩
  refine enc_hd (eq_s ?_)
  by_cases h1 : tw t = "first"
  · obtain ⟨u, rfl⟩ := tw_un (x := .first) h1
    simp only [Tr.dep] at td
    refine yes (by simp [h1]) (tix (j := 1) rfl rfl (tix (j := 1) rfl rfl ⟨(u, a, W, st), rfl, ⟨ha, hn, ok.1, so1, tk, by omega⟩, ?_⟩))
    rintro d rfl
    exact hk _ rfl
  refine no (by simp [h1]) (enc_hd (eq_s ?_))
  by_cases h2 : tw t = "second"
  · obtain ⟨u, rfl⟩ := tw_un (x := .second) h2
    simp only [Tr.dep] at td
    refine no (by simp [h2]) (tix (j := 1) rfl rfl (tix (j := 2) rfl rfl ⟨(u, b, W, st), rfl, ⟨hb, hn, ok.2.1, so1, tk, by omega⟩, ?_⟩))
    rintro d rfl
    have ej : brg W.hs st (.un .second u) (.put a b) = (brg W.hs st u b).map fun x => (hdQ W.hs a, vals x.1 x.2 (hdQ W.hs a)) := rfl
    cases hx : brg W.hs st u b with
    | none =>
      rw [hx] at ej
      refine yes rfl (hk _ ?_)
      show _ = encO (brg W.hs st (.un .second u) (.put a b))
      rw [ej]
      rfl
    | some x =>
      rw [hx] at ej
      have i := brg_ok so1 b u x ok.2.1 hx
      obtain ⟨g1, g2⟩ := ok_head ok.1
      refine no rfl (tix (j := 1) rfl rfl (tix (j := 2) rfl rfl ⟨(a, W.hs), rfl, ⟨Nat.le_trans ha hn, ok.1⟩, ?_⟩))
      rintro d rfl
      refine tix (j := 0) rfl rfl (tix (j := 1) rfl rfl ⟨(x.1, x.2, hdQ W.hs a, true), rfl, ⟨i.len, fun c hc => by rw [i.hd]; exact (ok.2.2 c).mp hc, by omega⟩, ?_⟩)
      rintro d rfl
      refine hk _ ?_
      show _ = encO (brg W.hs st (.un .second u) (.put a b))
      rw [ej]
      rfl
  refine yes (by simp [h2]) (hk _ ?_)
  show _ = encO (brg W.hs st t (.put a b))
  rw [brg_put_no h1 h2]
  rfl
/-! ### the spots of a table and a name -/
def isSpot (n m : Str) : Rw → Bool := fun o => decide (o.tab = n) && decide (o.name = m)
theorem spot_eq (st : List Rw) (n m : Str) : spot st n m = ((st.filter (isSpot n m))[0]?).map (·.row) := by
  unfold spot
  congr 1
  induction st with
  | nil => rfl
  | cons o r ih =>
    rw [List.find?_cons, List.filter_cons]
    by_cases h : isSpot n m o = true
    · have h' : (decide (o.tab = n) && decide (o.name = m)) = true := h
      rw [h', h]; rfl
    · have h1 : isSpot n m o = false := eq_false_of_ne_true h
      have h' : (decide (o.tab = n) && decide (o.name = m)) = false := h1
      rw [h', h1]
      exact ih
/-- a comprehension over what stands, kept by a test -/
theorem lc_st {st : List Rw} {ρ : DSt} {vs : List Nat} {j : Nat} {wt : DTT} {we : DT} {k : List D → Prop} (p : Rw → Bool) (f : Rw → D)
    (ht : ∀ r, r ∈ st → ∀ K : Bool → Prop, K (p r) → wt (blkD ρ vs j (encW r)) K) (he : ∀ r, r ∈ st → p r = true → ∀ K : D → Prop, K (f r) → we (blkD ρ vs j (encW r)) K) (hk : k ((st.filter p).map f)) :
    ∃ P : Nat → List D → Prop, P 0 [] ∧ (∀ i d acc, (st.map encW)[i]? = some d → P i acc → wt (blkD ρ vs j d) fun b => if b = true then we (blkD ρ vs j d) fun y => P (i + 1) (acc ++ [y]) else P (i + 1) acc) ∧ ∀ acc, P (st.map encW).length acc → k acc := by
  refine ⟨fun i acc => acc = ((st.take i).filter p).map f, rfl, fun i d acc hd e => ?_, fun acc e => ?_⟩
  · rw [List.getElem?_map] at hd
    cases hr : st[i]? with
    | none => rw [hr] at hd; cases hd
    | some r =>
      rw [hr] at hd
      cases hd
      have hm := List.mem_of_getElem? hr
      have nx : (st.take (i + 1)).filter p = (st.take i).filter p ++ (if p r = true then [r] else []) := by
        rw [List.take_add_one, hr, List.filter_append, Option.toList_some, List.filter_cons, List.filter_nil]
      refine ht r hm _ ?_
      by_cases c : p r = true
      · rw [if_pos c]
        refine he r hm c _ ?_
        show acc ++ [f r] = ((st.take (i + 1)).filter p).map f
        rw [nx, if_pos c, List.map_append, e]
        rfl
      · rw [if_neg c]
        show acc = ((st.take (i + 1)).filter p).map f
        rw [nx, if_neg c, List.append_nil, e]
  · have e : acc = ((st.take (st.map encW).length).filter p).map f := e
    rw [List.length_map, List.take_length] at e
    rw [e]
    exact hk
abbrev s_l_brings : Stmt := top 63
theorem sc_l_brings : FnScope ["_law_tree", "_law_question_here", "_law_world_here", "_law_stand_here", "_law_word", "_law_spots", "_law_one", "_law_part", "_law_column"] ["_law_tree", "_law_question_here", "_law_world_here", "_law_stand_here"] (defScope s_l_brings) := ⟨rfl, rfl, rfl, by decide +kernel, rfl, by decide +kernel, by decide +kernel⟩
theorem c_l_brings (T : Txt mg) (Df : DefAt K mg "_law_brings" s_l_brings) (Dj : DefAt K mg "_law_brings_join" s_l_brings_join) (Dp : DefAt K mg "_law_brings_put" s_l_brings_put) (c_l_values : Callee P w K mg base C 1 "_law_values" ["_law_head", "_law_row", "_law_columns"] fsVals)
    (c_head_of : Callee P w K mg base C 49 "head_of" ["question", "heads"] (fsHead 40)) (c_l_passes : Callee P w K mg base C 6 "_law_passes" ["_law_test_here", "_law_head", "_law_row"] (fsPas 5)) :
    ∀ n, Callee P w K mg base C (2 * n + 49) "_law_brings" ["_law_tree", "_law_question_here", "_law_world_here", "_law_stand_here"] (fsBrg n)
  | 0 => by
    refine def_ok Df sc_l_brings (fun _ _ _ _ _ _ us hl => match us, hl with | [_, _, _, _], _ => rfl) (fs_len fun _ => rfl) fun fa cdv A outer s H E hr => ⟨_, _, dss_never, ?_⟩
    rintro so ds k ⟨⟨t, q, W, st⟩, rfl, hp, hk⟩
    have hn := hp.1
    cases q <;> exact absurd hn (by simp [Qn.dep])
  | n + 1 => by
    have c := c_l_brings T Df Dj Dp c_l_values c_head_of c_l_passes n
    have cj := c_l_brings_join T Dj (by omega) c_l_values c
    have cp := c_l_brings_put T Dp (by omega) c_l_values c_head_of c
    refine def_ok Df sc_l_brings (fun _ _ _ _ _ _ us hl => match us, hl with | [_, _, _, _], _ => rfl) (fs_len fun _ => rfl) fun fa cdv A outer s H E hr => ⟨_, _,
      (dss_cons (ds_set (i := 4) (de_ixJ (hu_of hr) (de_var 1) de_int) sc_l_brings.nd)
    (dss_cons (ds_if (dp_cmp (p_eq hr.units) (de_var 4) de_str) (dss_cons (ds_setLcX (i := 5) rfl sc_l_brings.nd rfl rfl (sw_true rfl rfl rfl (by decide +kernel)) (own := [("_law_one", 6)]) (j := 6) (di_seq (de_var 3)) (blkOk_by (own := [("_law_one", 6)]) (N := ["_law_tree", "_law_question_here", "_law_world_here", "_law_stand_here", "_law_word", "_law_spots", "_law_one", "_law_part", "_law_column"]) (sc := defScope s_l_brings) (by decide +kernel)) (by decide) (fun _ _ _ _ _ => pg_name (i := 6) sc_l_brings.nd rfl (Or.inl rfl)) (fun _ _ _ _ _ => ⟨_, (dts_one ((dw_and (dp_cmp (p_eq hr.units) (de_ixJ (hu_of hr) (de_var 6) de_int) (de_ixJ (hu_of hr) (de_var 1) de_int)) (dw_and1 (dp_cmp (p_eq hr.units) (de_ixJ (hu_of hr) (de_var 6) de_int) (de_ixJ (hu_of hr) (de_var 0) de_int)))).dp))⟩) (fun _ _ _ _ _ => ⟨_, (de_var 6)⟩))
    (dss_cons (ds_if ((dw_or (dp_cmp (p_ne hr.units) (de_ixJ (hu_of hr) (de_var 0) de_int) de_str) (dw_or1 (dp_cmp (p_eq hr.units) (de_var 5) (de_lst da_nil)))).dp) (dss_one (ds_ret de_non)) dss_nil)
    (dss_one (ds_ret (de_tup (da_cons (de_ixJ (hu_of hr) (de_ixJ (hu_of hr) (de_var 2) de_int) (de_ixJ (hu_of hr) (de_var 1) de_int)) (da_cons (de_ixJ (hu_of hr) (de_ixJ (hu_of hr) (de_var 5) de_int) de_int) da_nil))))))) dss_nil)
    (dss_cons (ds_if (dp_cmp (p_eq hr.units) (de_var 4) de_str) (dss_one (ds_ret (de_call cp (hr.mono (by omega)) (da_cons (de_var 0) (da_cons (de_var 1) (da_cons (de_var 2) (da_cons (de_var 3) da_nil))))))) dss_nil)
    (dss_cons (ds_if (dp_cmp (p_ne hr.units) (de_ixJ (hu_of hr) (de_var 0) de_int) (de_var 4)) (dss_one (ds_ret de_non)) dss_nil)
    (dss_cons (ds_if (dp_cmp (p_eq hr.units) (de_var 4) de_str) (dss_one (ds_ret (de_call cj (hr.mono (by omega)) (da_cons (de_var 0) (da_cons (de_var 1) (da_cons (de_var 2) (da_cons (de_var 3) da_nil))))))) dss_nil)
    (dss_cons (ds_set (i := 7) (de_call c (hr.mono (by omega)) (da_cons (de_ixJ (hu_of hr) (de_var 0) de_int) (da_cons (de_ixJ (hu_of hr) (de_var 1) (de_neg de_int)) (da_cons (de_var 2) (da_cons (de_var 3) da_nil))))) sc_l_brings.nd)
    (dss_cons (ds_if ((dw_or (dp_cmp o_isN (de_var 7) de_non) (dw_or1 ((dw_and (dp_cmp (p_eq hr.units) (de_var 4) de_str) (dw_and1 (dp_not (dp_val (de_call c_l_passes (hr.mono (by omega)) (da_cons (de_ixJ (hu_of hr) (de_var 1) de_int) (da_cons (de_ixJ (hu_of hr) (de_var 7) de_int) (da_cons (de_ixJ (hu_of hr) (de_var 7) de_int) da_nil)))))))).dp))).dp) (dss_one (ds_ret de_non)) dss_nil)
    (dss_cons (ds_if (dp_cmp (p_eq hr.units) (de_var 4) de_str) (dss_one (ds_ret (de_tup (da_cons (de_ixJ (hu_of hr) (de_var 1) de_int) (da_cons (de_call c_l_values (hr.mono (by omega)) (da_cons (de_ixJ (hu_of hr) (de_var 7) de_int) (da_cons (de_ixJ (hu_of hr) (de_var 7) de_int) (da_cons (de_ixJ (hu_of hr) (de_var 1) de_int) da_nil)))) da_nil))))) dss_nil)
    (dss_cons (ds_if (dp_cmp (p_eq hr.units) (de_var 4) de_str) (dss_one (ds_ret (de_tup (da_cons (de_callT c_tuple T.m_tuple boot_tuple (da_cons (de_lcX (own := [("_law_column", 8)]) (j := 8) rfl sc_l_brings.nd (di_seq (de_ixJ (hu_of hr) (de_var 7) de_int)) (blkOk_by (own := [("_law_column", 8)]) (N := ["_law_tree", "_law_question_here", "_law_world_here", "_law_stand_here", "_law_word", "_law_spots", "_law_one", "_law_part", "_law_column"]) (sc := defScope s_l_brings) (by decide +kernel)) (by decide) (fun _ _ _ _ _ => pg_name (i := 8) sc_l_brings.nd rfl (Or.inl rfl)) (fun _ _ _ _ _ => ⟨_, dts_nil⟩) (fun _ _ _ _ _ => ⟨_, (de_if (dp_cmp (p_eq hr.units) (de_var 8) (de_ixJ (hu_of hr) (de_var 1) de_int)) (de_ixJ (hu_of hr) (de_var 1) de_int) (de_var 8))⟩)) da_nil)) (da_cons (de_ixJ (hu_of hr) (de_var 7) de_int) da_nil))))) dss_nil)
    (dss_one (ds_ret (de_var 7)))))))))))), ?_⟩
    rintro so ds k ⟨⟨t, q, W, st⟩, rfl, ⟨hn, h40, ok, so1, tk, td⟩, hk⟩
    have gt := gd_tree tk
    cases q with
    | table m =>
      obtain ⟨h, e, _, _⟩ := id ok
      obtain ⟨f1, f2⟩ := hs_find e
      refine tix (j := 0) rfl rfl (eq_t rfl rfl (yes rfl ?_))
      cases t with
      | row x =>
        refine ⟨by rw [List.length_map]; exact Nat.le_trans so1.few (by decide), lc_st (isSpot m x) encW (fun r hr K hK => ?_) (fun r hr _ K hK => hK) ?_⟩
        · refine tix (j := 0) rfl rfl (tix (j := 1) rfl rfl (eq_s ?_))
          by_cases e1 : r.tab = m
          · refine (if_pos (by simp [e1])).mpr (tix (j := 1) rfl rfl (tix (j := 1) rfl rfl (eq_s ?_)))
            have z : isSpot m x r = decide (r.name = x) := by unfold isSpot; rw [decide_eq_true e1, Bool.true_and]
            rw [z] at hK
            exact hK
          · refine (if_neg (by simp [e1])).mpr ?_
            have z : isSpot m x r = false := by unfold isSpot; rw [decide_eq_false e1, Bool.false_and]
            rw [z] at hK
            exact hK
        · refine tix (j := 0) rfl rfl (eq_t rfl rfl ?_)
          refine (if_neg (by decide)).mpr ?_
          refine eq_nilL (n := 3) (Gd.l fun d hd => ?_) (by decide) ?_
          · obtain ⟨r, hr, rfl⟩ := List.mem_map.mp hd
            exact so1.gd _ (List.mem_map.mpr ⟨r, (List.mem_filter.mp hr).1, rfl⟩)
          · have ej : brg W.hs st (.row x) (.table m) = (spot st m x).map fun r => ((W.hs.lookup m).getD [], r) := rfl
            rw [spot_eq] at ej
            cases hf : st.filter (isSpot m x) with
            | nil =>
              rw [hf] at ej
              refine yes rfl (hk _ ?_)
              show _ = encO (brg W.hs st (.row x) (.table m))
              rw [ej]
              rfl
            | cons r rest =>
              rw [hf] at ej
              refine no rfl (tix (j := 2) rfl rfl (tix (j := 1) rfl rfl (dix f1 (lix (j := 0) rfl rfl (tix (j := 2) rfl rfl (hk _ ?_))))))
              show _ = encO (brg W.hs st (.row x) (.table m))
              rw [ej, e]
              rfl
      | un x u =>
        have hw : decide (V.str x.w = V.str "row") = false := by cases x <;> rfl
        refine ⟨by rw [List.length_map]; exact Nat.le_trans so1.few (by decide), lc_st (fun _ => false) encW (fun r hr K hK => ?_) (fun r hr _ K hK => hK) ?_⟩
        · refine tix (j := 0) rfl rfl (tix (j := 1) rfl rfl (eq_s ?_))
          by_cases e1 : r.tab = m
          · refine (if_pos (by simp [e1])).mpr (tix (j := 1) rfl rfl (tix (j := 1) rfl rfl ?_))
            obtain ⟨_, _, _, _, _, sn⟩ := so1.row r hr
            have gu := gd_tree (t := u) tk
            simp only [Tr.dep] at td
            cases u with
            | row z => 
              unfold encR at gu ⊢
              exact eq_st sn gu (by simp only [Tr.dep] at td ⊢; omega) hK
            | un y z =>
              unfold encR at gu ⊢
              exact eq_st sn gu (by omega) hK
            | join y z =>
              unfold encR at gu ⊢
              exact eq_st sn gu (by omega) hK
          · exact (if_neg (by simp [e1])).mpr hK
        · refine tix (j := 0) rfl rfl (eq_t rfl (b := true) (by simp [w_row x]) ?_)
          refine (if_pos (by decide)).mpr (yes rfl (hk _ ?_))
          show _ = encO (brg W.hs st (.un x u) (.table m))
          rw [brg_table_no (t := .un x u) (w_row x)]
          rfl
      | join u v =>
        refine ⟨by rw [List.length_map]; exact Nat.le_trans so1.few (by decide), lc_st (fun _ => false) encW (fun r hr K hK => ?_) (fun r hr _ K hK => hK) ?_⟩
        · refine tix (j := 0) rfl rfl (tix (j := 1) rfl rfl (eq_s ?_))
          by_cases e1 : r.tab = m
          · refine (if_pos (by simp [e1])).mpr (tix (j := 1) rfl rfl (tix (j := 1) rfl rfl ?_))
            obtain ⟨_, _, _, _, _, sn⟩ := so1.row r hr
            have gu := gd_tree (t := u) (Bool.and_eq_true_iff.mp (show (u.sok && v.sok) = true from tk)).1
            simp only [Tr.dep] at td
            cases u with
            | row z => 
              unfold encR at gu ⊢
              exact eq_st sn gu (by omega) hK
            | un y z =>
              unfold encR at gu ⊢
              exact eq_st sn gu (by omega) hK
            | join y z =>
              unfold encR at gu ⊢
              exact eq_st sn gu (by omega) hK
          · exact (if_neg (by simp [e1])).mpr hK
        · refine tix (j := 0) rfl rfl (eq_t rfl rfl ?_)
          refine (if_pos (by decide)).mpr (yes rfl (hk _ ?_))
          show _ = encO (brg W.hs st (.join u v) (.table m))
          rfl
    | put a b =>
      simp only [Qn.dep] at hn
      refine tix (j := 0) rfl rfl (eq_t rfl rfl (no rfl (eq_t rfl rfl (yes rfl ?_))))
      exact ⟨(t, (a, b), W, st), rfl, ⟨by omega, by omega, by omega, ok, so1, tk, td⟩, fun d e => hk d e⟩
    | join a b =>
      simp only [Qn.dep] at hn
      refine tix (j := 0) rfl rfl (eq_t rfl rfl (no rfl (eq_t rfl rfl (no rfl (enc_hd (eq_s ?_))))))
      by_cases h1 : tw t = "join"
      · obtain ⟨u, v, rfl⟩ := tw_join h1
        simp only [Tr.dep] at td
        obtain ⟨k1, k2⟩ := Bool.and_eq_true_iff.mp (show (u.sok && v.sok) = true from tk)
        refine no (by simp [h1]) (eq_t rfl rfl (yes rfl ?_))
        exact ⟨((u, v), (a, b), W, st), rfl, ⟨⟨by omega, by omega, ok.1, so1, k1, by omega⟩, ⟨by omega, by omega, ok.2.1, so1, k2, by omega⟩, ok⟩, fun d e => hk d e⟩
      · refine yes (by simp [h1]) (hk _ ?_)
        show _ = encO (brg W.hs st t (.join a b))
        rw [brg_join_no h1]
        rfl
    | pick cnd q =>
      simp only [Qn.dep] at hn
      refine tix (j := 0) rfl rfl (eq_t rfl rfl (no rfl (eq_t rfl rfl (no rfl (enc_hd (eq_s ?_))))))
      by_cases h1 : tw t = "pick"
      · obtain ⟨u, rfl⟩ := tw_un (x := .pick) h1
        simp only [Tr.dep] at td
        refine no (by simp [h1]) (eq_t rfl rfl (no rfl (tix (j := 1) rfl rfl (tixL (Nat.succ_pos _) rfl ⟨(u, q, W, st), rfl, ⟨by omega, by omega, ok.1, so1, tk, by omega⟩, ?_⟩))))
        rintro d rfl
        have ej : brg W.hs st (.un .pick u) (.pick cnd q) = (match brg W.hs st u q with
          | some x => if pas cnd x.1 x.2 then some x else none
          | none => none) := rfl
        cases hx : brg W.hs st u q with
        | none =>
          rw [hx] at ej
          refine yes rfl (hk _ ?_)
          show _ = encO (brg W.hs st (.un .pick u) (.pick cnd q))
          rw [ej]
          rfl
        | some x =>
          rw [hx] at ej
          have ej : brg W.hs st (.un .pick u) (.pick cnd q) = if pas cnd x.1 x.2 = true then some x else none := ej
          have i := brg_ok so1 q u x ok.1 hx
          refine eq_t rfl rfl (tix (j := 1) rfl rfl (tix (j := 0) rfl rfl (tix (j := 1) rfl rfl ?_)))
          refine ⟨(cnd, x.1, x.2), rfl, ⟨⟨ok.2.2.1, by decide⟩, i.len, fun z hz => by rw [i.hd]; exact ok.2.1 z hz, i.ok, ok.2.2.2⟩, ?_⟩
          rintro d rfl
          by_cases hp : pas cnd x.1 x.2 = true
          · rw [if_pos hp] at ej
            refine no (by show (!pas cnd x.1 x.2) = false; rw [hp]; rfl) (eq_t rfl rfl (no rfl (eq_t rfl rfl (no rfl (hk _ ?_)))))
            show _ = encO (brg W.hs st (.un .pick u) (.pick cnd q))
            rw [ej]
          · rw [if_neg hp] at ej
            refine yes (by show (!pas cnd x.1 x.2) = true; rw [eq_false_of_ne_true hp]; rfl) (hk _ ?_)
            show _ = encO (brg W.hs st (.un .pick u) (.pick cnd q))
            rw [ej]
            rfl
      · refine yes (by simp [h1]) (hk _ ?_)
        show _ = encO (brg W.hs st t (.pick cnd q))
        rw [brg_pick_no h1]
        rfl
    | keep cs q =>
      simp only [Qn.dep] at hn
      refine tix (j := 0) rfl rfl (eq_t rfl rfl (no rfl (eq_t rfl rfl (no rfl (enc_hd (eq_s ?_))))))
      by_cases h1 : tw t = "keep"
      · obtain ⟨u, rfl⟩ := tw_un (x := .keep) h1
        simp only [Tr.dep] at td
        refine no (by simp [h1]) (eq_t rfl rfl (no rfl (tix (j := 1) rfl rfl (tixL (Nat.succ_pos _) rfl ⟨(u, q, W, st), rfl, ⟨by omega, by omega, ok.1, so1, tk, by omega⟩, ?_⟩))))
        rintro d rfl
        have ej : brg W.hs st (.un .keep u) (.keep cs q) = (brg W.hs st u q).map fun x => (cs, vals x.1 x.2 cs) := rfl
        cases hx : brg W.hs st u q with
        | none =>
          rw [hx] at ej
          refine yes rfl (hk _ ?_)
          show _ = encO (brg W.hs st (.un .keep u) (.keep cs q))
          rw [ej]
          rfl
        | some x =>
          rw [hx] at ej
          have i := brg_ok so1 q u x ok.1 hx
          refine eq_t rfl rfl (no rfl (eq_t rfl rfl (yes rfl (tix (j := 1) rfl rfl (tix (j := 0) rfl rfl (tix (j := 1) rfl rfl (tix (j := 1) rfl rfl ?_)))))))
          refine ⟨(x.1, x.2, cs, true), rfl, ⟨i.len, fun z hz => by rw [i.hd]; exact ok.2.2.1 z hz, Nat.le_trans ok.2.2.2 (by decide)⟩, ?_⟩
          rintro d rfl
          refine hk _ ?_
          show _ = encO (brg W.hs st (.un .keep u) (.keep cs q))
          rw [ej]
          rfl
      · refine yes (by simp [h1]) (hk _ ?_)
        show _ = encO (brg W.hs st t (.keep cs q))
        rw [brg_keep_no h1]
        rfl
    | call o m q =>
      simp only [Qn.dep] at hn
      refine tix (j := 0) rfl rfl (eq_t rfl rfl (no rfl (eq_t rfl rfl (no rfl (enc_hd (eq_s ?_))))))
      by_cases h1 : tw t = "call"
      · obtain ⟨u, rfl⟩ := tw_un (x := .call) h1
        simp only [Tr.dep] at td
        refine no (by simp [h1]) (eq_t rfl rfl (no rfl (tix (j := 1) rfl rfl (tixL (Nat.succ_pos _) rfl ⟨(u, q, W, st), rfl, ⟨by omega, by omega, ok.1, so1, tk, by omega⟩, ?_⟩))))
        rintro d rfl
        have ej : brg W.hs st (.un .call u) (.call o m q) = (brg W.hs st u q).map fun x => (callH o m x.1, x.2) := rfl
        cases hx : brg W.hs st u q with
        | none =>
          rw [hx] at ej
          refine yes rfl (hk _ ?_)
          show _ = encO (brg W.hs st (.un .call u) (.call o m q))
          rw [ej]
          rfl
        | some x =>
          rw [hx] at ej
          have i := brg_ok so1 q u x ok.1 hx
          obtain ⟨g1, g2⟩ := ok_head ok.1
          rw [← i.hd] at g2
          refine eq_t rfl rfl (no rfl (eq_t rfl rfl (no rfl (eq_t rfl rfl (yes rfl (tix (j := 0) rfl rfl ⟨by rw [strsD_len]; omega, lc_strs (cs := x.1) (fun z => some (sD (if z = o then m else z))) ?_ ?_⟩))))))
          · intro z hz R acc hR
            refine tix (j := 1) rfl rfl (eq_s ?_)
            by_cases e1 : z = o
            · rw [if_pos e1] at hR
              exact (if_pos (by simp [e1])).mpr (tix (j := 2) rfl rfl hR)
            · rw [if_neg e1] at hR
              exact (if_neg (by simp [e1])).mpr hR
          · rw [call_fm]
            refine tix (j := 1) rfl rfl (hk _ ?_)
            show _ = encO (brg W.hs st (.un .call u) (.call o m q))
            rw [ej]
            rfl
      · refine yes (by simp [h1]) (hk _ ?_)
        show _ = encO (brg W.hs st t (.call o m q))
        rw [brg_call_no h1]
        rfl
    | ring _ _ _ _ => exact ok.elim
end
end Wh

namespace Wh
open PySem L2
/-! ### numbers, places -/
theorem lix_any {ds : List D} {i : Int} {k : D → Prop} (h0 : 0 ≤ i) (h1 : i < (ds.length : Int)) (hk : ∀ d ∈ ds, k d) : jIx (.lst ds) (.a (.int i)) k := by
  have hj : i.toNat < ds.length := by omega
  exact lix (j := i.toNat) (by omega) (List.getElem?_eq_getElem hj) (hk _ (List.getElem_mem hj))
theorem tix_any {ds : List D} {i : Int} {k : D → Prop} (h0 : 0 ≤ i) (h1 : i < (ds.length : Int)) (hk : ∀ d ∈ ds, k d) : jIx (.tup ds) (.a (.int i)) k := by
  have hj : i.toNat < ds.length := by omega
  exact tix (j := i.toNat) (by omega) (List.getElem?_eq_getElem hj) (hk _ (List.getElem_mem hj))
theorem eq_i {neg : Bool} {x y : Int} {k : D → Prop} (hk : k (.a (.bl (if neg then !decide (x = y) else decide (x = y))))) : jEq neg (.a (.int x)) (.a (.int y)) k := by
  unfold jEq
  have e : decide (V.int x = V.int y) = decide (x = y) := by
    by_cases c : x = y
    · subst c; simp
    · rw [decide_eq_false c, decide_eq_false (fun z => c (by injection z))]
  exact ⟨rfl, by rw [e]; exact hk⟩
theorem mul_ok {i j : Int} (h : -(2 ^ 64) < j ∧ j < 2 ^ 64) : CMul i j := .inr h
theorem mod_lt {i j : Int} (h : 0 < j) : 0 ≤ i % j ∧ i % j < j := ⟨Int.emod_nonneg _ (by omega), Int.emod_lt_of_pos _ h⟩
theorem lvs_pos : ∀ t : Tr, 1 ≤ (lvs t).length
  | .row _ => Nat.le_refl _
  | .un _ t => lvs_pos t
  | .join a b => by
    have := lvs_pos a
    show 1 ≤ (lvs a ++ lvs b).length
    rw [List.length_append]
    omega
/-- a number of the law: less than two to the thirty-first -/
def N31 (m : Int) : Prop := 0 ≤ m ∧ m < 2147483648
theorem n31_mod {i j : Int} (h : 0 < j) (h2 : j ≤ 2147483648) : N31 (i % j) := by
  have := mod_lt (i := i) h
  exact ⟨this.1, by omega⟩
section
variable {P : Program} {w : World} {K : PySem.W.Frag} {mg : Str → Option Value} {base : Heap} {C : Addr}
/-! ### _law_climb -/
def fsClimb (n : Nat) : FS := fs (ι := Qn × Int × List Rw × Hs) (fun ⟨q, m, st, _⟩ => [encQ q, .a (.int m), stD st]) (fun ⟨q, m, st, hs⟩ => q.dep ≤ n ∧ q.rf = true ∧ N31 m ∧ StOk hs st)
  (fun ⟨q, m, st, _⟩ d => ∃ t, d = encR t ∧ t.dep ≤ q.dep ∧ (lvs t).length ≤ deg q ∧ t.sok = true)
theorem cdiv {j : Int} {i : Int} (h : 0 < j) (h2 : j < 1073741824) : CDiv i j := ⟨h, h2⟩
abbrev s_l_climb : Stmt := top 64
theorem sc_l_climb : FnScope ["_law_question_here", "_law_number", "_law_stand_here", "_law_word", "_law_left", "_law_right_here", "_law_names", "_law_one"] ["_law_question_here", "_law_number", "_law_stand_here"] (defScope s_l_climb) := ⟨rfl, rfl, rfl, by decide +kernel, rfl, by decide +kernel, by decide +kernel⟩
theorem c_l_climb (T : Txt mg) (Df : DefAt K mg "_law_climb" s_l_climb) : ∀ n, Callee P w K mg base C (n + 1) "_law_climb" ["_law_question_here", "_law_number", "_law_stand_here"] (fsClimb n)
  | 0 => by
    refine def_ok Df sc_l_climb (fun _ _ _ _ _ _ us hl => match us, hl with | [_, _, _], _ => rfl) (fs_len fun _ => rfl) fun fa cdv A outer s H E hr => ⟨_, _, dss_never, ?_⟩
    rintro so ds k ⟨⟨q, m, st, hs⟩, rfl, hp, hk⟩
    have hn := hp.1
    cases q <;> exact absurd hn (by simp [Qn.dep])
  | n + 1 => by
    have c := c_l_climb T Df n
    refine def_ok Df sc_l_climb (fun _ _ _ _ _ _ us hl => match us, hl with | [_, _, _], _ => rfl) (fs_len fun _ => rfl) fun fa cdv A outer s H E hr => ⟨_, _,
      (dss_cons (ds_set (i := 3) (de_ixJ (hu_of hr) (de_var 0) de_int) sc_l_climb.nd)
    (dss_cons (ds_set (i := 4) (de_op o_mod (de_op p_add (de_op o_mul (de_var 1) de_int) de_int) de_int) sc_l_climb.nd)
    (dss_cons (ds_set (i := 5) (de_op o_mod (de_op p_add (de_op o_mul (de_var 1) de_int) de_int) de_int) sc_l_climb.nd)
    (dss_cons (ds_if (dp_cmp (p_eq hr.units) (de_var 3) de_str) (dss_cons (ds_setLcX (i := 6) rfl sc_l_climb.nd rfl rfl (sw_true rfl rfl rfl (by decide +kernel)) (own := [("_law_one", 7)]) (j := 7) (di_seq (de_var 2)) (blkOk_by (own := [("_law_one", 7)]) (N := ["_law_question_here", "_law_number", "_law_stand_here", "_law_word", "_law_left", "_law_right_here", "_law_names", "_law_one"]) (sc := defScope s_l_climb) (by decide +kernel)) (by decide) (fun _ _ _ _ _ => pg_name (i := 7) sc_l_climb.nd rfl (Or.inl rfl)) (fun _ _ _ _ _ => ⟨_, (dts_one (dp_cmp (p_eq hr.units) (de_ixJ (hu_of hr) (de_var 7) de_int) (de_ixJ (hu_of hr) (de_var 0) de_int)))⟩) (fun _ _ _ _ _ => ⟨_, (de_ixJ (hu_of hr) (de_var 7) de_int)⟩))
    (dss_cons (ds_if (dp_cmp (p_eq hr.units) (de_var 6) (de_lst da_nil)) (dss_one (ds_ret (de_tup (da_cons de_str (da_cons de_str da_nil))))) dss_nil)
    (dss_one (ds_ret (de_tup (da_cons de_str (da_cons (de_ixJ (hu_of hr) (de_var 6) (de_op o_mod (de_var 1) (de_callB c_len T.m_len boot_len (da_cons (de_var 6) da_nil)))) da_nil))))))) dss_nil)
    (dss_cons (ds_if (dp_cmp (p_eq hr.units) (de_var 3) de_str) (dss_one (ds_ret (de_tup (da_cons de_str (da_cons (de_call c (hr.mono (Nat.le_refl _)) (da_cons (de_ixJ (hu_of hr) (de_var 0) de_int) (da_cons (de_var 4) (da_cons (de_var 2) da_nil)))) (da_cons (de_call c (hr.mono (Nat.le_refl _)) (da_cons (de_ixJ (hu_of hr) (de_var 0) de_int) (da_cons (de_var 5) (da_cons (de_var 2) da_nil)))) da_nil)))))) dss_nil)
    (dss_cons (ds_if ((dw_and (dp_cmp (p_eq hr.units) (de_var 3) de_str) (dw_and1 (dp_cmp (p_eq hr.units) (de_op o_mod (de_op o_fdiv (de_var 1) de_int) de_int) de_int))).dp) (dss_one (ds_ret (de_tup (da_cons de_str (da_cons (de_call c (hr.mono (Nat.le_refl _)) (da_cons (de_ixJ (hu_of hr) (de_var 0) de_int) (da_cons (de_var 4) (da_cons (de_var 2) da_nil)))) da_nil))))) dss_nil)
    (dss_cons (ds_if (dp_cmp (p_eq hr.units) (de_var 3) de_str) (dss_one (ds_ret (de_tup (da_cons de_str (da_cons (de_call c (hr.mono (Nat.le_refl _)) (da_cons (de_ixJ (hu_of hr) (de_var 0) de_int) (da_cons (de_var 4) (da_cons (de_var 2) da_nil)))) da_nil))))) dss_nil)
    (dss_one (ds_ret (de_tup (da_cons (de_var 3) (da_cons (de_call c (hr.mono (Nat.le_refl _)) (da_cons (de_ixJ (hu_of hr) (de_var 0) (de_neg de_int)) (da_cons (de_var 4) (da_cons (de_var 2) da_nil)))) da_nil)))))))))))), ?_⟩
    rintro so ds k ⟨⟨q, m, st, hs⟩, rfl, ⟨hn, rf, hm, so1⟩, hk⟩
    have L1 : N31 ((m * 48271 + 1) % 2147483647) := n31_mod (by decide) (by decide)
    have L2 : N31 ((m * 69621 + 5) % 2147483629) := n31_mod (by decide) (by decide)
    cases q with
    | table x =>
      refine tix (j := 0) rfl rfl ⟨mul_ok (by decide), add_i ⟨by decide, ⟨mul_ok (by decide), add_i ⟨by decide, ?_⟩⟩⟩⟩
      refine eq_t rfl rfl (yes rfl ⟨by rw [List.length_map]; exact Nat.le_trans so1.few (by decide), lc_st (fun r => decide (r.tab = x)) (fun r => sD r.name) (fun r hr K hK => ?_) (fun r hr _ K hK => ?_) ?_⟩)
      · exact tix (j := 0) rfl rfl (tix (j := 1) rfl rfl (eq_s hK))
      · exact tix (j := 1) rfl rfl hK
      · have g : ∀ d ∈ (st.filter fun r => decide (r.tab = x)).map (fun r => sD r.name), ∃ z, d = sD z ∧ sOk z = true := fun d hd => by
          obtain ⟨r, hr, rfl⟩ := List.mem_map.mp hd
          obtain ⟨_, _, _, _, _, h5⟩ := so1.row r (List.mem_filter.mp hr).1
          exact ⟨_, rfl, h5⟩
        generalize hns : (st.filter fun r => decide (r.tab = x)).map (fun r => sD r.name) = ns at g
        refine eq_nilL (n := 1) (Gd.l fun d hd => ?_) (by decide) ?_
        · obtain ⟨z, rfl, hz⟩ := g d hd
          exact Gd.s hz
        · cases ns with
          | nil => exact yes rfl (hk _ ⟨.row "none of these", rfl, Nat.le_refl _, Nat.le_refl _, by decide +kernel⟩)
          | cons y r =>
            have hpos : (0 : Int) < ((y :: r).length : Int) := by simp only [List.length_cons]; omega
            refine no rfl ⟨hpos, lix_any (mod_lt hpos).1 (mod_lt hpos).2 fun d hd => ?_⟩
            obtain ⟨z, rfl, hz⟩ := g d hd
            exact hk _ ⟨.row z, rfl, Nat.le_refl _, Nat.le_refl _, hz⟩
    | pick t q =>
      simp only [Qn.dep] at hn
      refine tix (j := 0) rfl rfl ⟨mul_ok (by decide), add_i ⟨by decide, ⟨mul_ok (by decide), add_i ⟨by decide, ?_⟩⟩⟩⟩
      refine eq_t rfl rfl (no rfl (eq_t rfl rfl (no rfl (eq_t rfl rfl (no rfl (eq_t rfl rfl (no rfl (tixL (Nat.succ_pos _) rfl ⟨(q, _, st, hs), rfl, ⟨by omega, rf, L1, so1⟩, ?_⟩))))))))
      rintro d ⟨t, rfl, h1, h2, h3⟩
      exact hk _ ⟨.un .pick t, rfl, Nat.succ_le_succ h1, h2, h3⟩
    | keep cs q =>
      simp only [Qn.dep] at hn
      refine tix (j := 0) rfl rfl ⟨mul_ok (by decide), add_i ⟨by decide, ⟨mul_ok (by decide), add_i ⟨by decide, ?_⟩⟩⟩⟩
      refine eq_t rfl rfl (no rfl (eq_t rfl rfl (no rfl (eq_t rfl rfl (no rfl (eq_t rfl rfl (no rfl (tixL (Nat.succ_pos _) rfl ⟨(q, _, st, hs), rfl, ⟨by omega, rf, L1, so1⟩, ?_⟩))))))))
      rintro d ⟨t, rfl, h1, h2, h3⟩
      exact hk _ ⟨.un .keep t, rfl, Nat.succ_le_succ h1, h2, h3⟩
    | call o p q =>
      simp only [Qn.dep] at hn
      refine tix (j := 0) rfl rfl ⟨mul_ok (by decide), add_i ⟨by decide, ⟨mul_ok (by decide), add_i ⟨by decide, ?_⟩⟩⟩⟩
      refine eq_t rfl rfl (no rfl (eq_t rfl rfl (no rfl (eq_t rfl rfl (no rfl (eq_t rfl rfl (no rfl (tixL (Nat.succ_pos _) rfl ⟨(q, _, st, hs), rfl, ⟨by omega, rf, L1, so1⟩, ?_⟩))))))))
      rintro d ⟨t, rfl, h1, h2, h3⟩
      exact hk _ ⟨.un .call t, rfl, Nat.succ_le_succ h1, h2, h3⟩
    | join a b =>
      simp only [Qn.dep] at hn
      obtain ⟨ra, rb⟩ := Bool.and_eq_true_iff.mp (show (a.rf && b.rf) = true from rf)
      refine tix (j := 0) rfl rfl ⟨mul_ok (by decide), add_i ⟨by decide, ⟨mul_ok (by decide), add_i ⟨by decide, ?_⟩⟩⟩⟩
      refine eq_t rfl rfl (no rfl (eq_t rfl rfl (yes rfl (tix (j := 1) rfl rfl ⟨(a, _, st, hs), rfl, ⟨by omega, ra, L1, so1⟩, ?_⟩))))
      rintro d ⟨t, rfl, h1, h2, h3⟩
      refine tix (j := 2) rfl rfl ⟨(b, _, st, hs), rfl, ⟨by omega, rb, L2, so1⟩, ?_⟩
      rintro d ⟨u, rfl, h4, h5, h6⟩
      refine hk _ ⟨.join t u, rfl, ?_, ?_, Bool.and_eq_true_iff.mpr ⟨h3, h6⟩⟩
      · show max t.dep u.dep + 1 ≤ max a.dep b.dep + 1
        omega
      · show (lvs t ++ lvs u).length ≤ deg a + deg b
        rw [List.length_append]
        omega
    | put a b =>
      simp only [Qn.dep] at hn
      obtain ⟨ra, rb⟩ := Bool.and_eq_true_iff.mp (show (a.rf && b.rf) = true from rf)
      refine tix (j := 0) rfl rfl ⟨mul_ok (by decide), add_i ⟨by decide, ⟨mul_ok (by decide), add_i ⟨by decide, ?_⟩⟩⟩⟩
      refine eq_t rfl rfl (no rfl (eq_t rfl rfl (no rfl (eq_t rfl rfl ⟨cdiv (by decide) (by decide), ⟨by decide, eq_i ?_⟩⟩))))
      refine ⟨fun _ => tix (j := 1) rfl rfl ⟨(a, _, st, hs), rfl, ⟨by omega, ra, L1, so1⟩, ?_⟩, fun _ => eq_t rfl rfl (yes rfl (tix (j := 2) rfl rfl ⟨(b, _, st, hs), rfl, ⟨by omega, rb, L1, so1⟩, ?_⟩))⟩
      · rintro d ⟨t, rfl, h1, h2, h3⟩
        refine hk _ ⟨.un .first t, rfl, ?_, ?_, h3⟩
        · show t.dep + 1 ≤ max a.dep b.dep + 1
          omega
        · show (lvs t).length ≤ max (deg a) (deg b)
          omega
      · rintro d ⟨t, rfl, h1, h2, h3⟩
        refine hk _ ⟨.un .second t, rfl, ?_, ?_, h3⟩
        · show t.dep + 1 ≤ max a.dep b.dep + 1
          omega
        · show (lvs t).length ≤ max (deg a) (deg b)
          omega
    | ring _ _ _ _ => exact nomatch rf
/-! ### _law_spoiled -/
def fsSpoil (n : Nat) : FS := fs (ι := Tr × Int × List Str) (fun ⟨t, m, ts⟩ => [encR t, .a (.int m), lS ts]) (fun ⟨t, m, ts⟩ => t.dep ≤ n ∧ N31 m ∧ ts ≠ [] ∧ (∀ z ∈ ts, sOk z = true) ∧ t.sok = true)
  (fun ⟨t, m, ts⟩ d => ∃ u, d = encR u ∧ u.dep ≤ t.dep ∧ (lvs u).length ≤ (lvs t).length ∧ u.sok = true)
abbrev s_l_spoiled : Stmt := top 66
theorem sc_l_spoiled : FnScope ["_law_tree", "_law_number", "_law_titles", "_law_word", "_law_on"] ["_law_tree", "_law_number", "_law_titles"] (defScope s_l_spoiled) := ⟨rfl, rfl, rfl, by decide +kernel, rfl, by decide +kernel, by decide +kernel⟩
theorem c_l_spoiled (T : Txt mg) (Df : DefAt K mg "_law_spoiled" s_l_spoiled) : ∀ n, Callee P w K mg base C (n + 1) "_law_spoiled" ["_law_tree", "_law_number", "_law_titles"] (fsSpoil n)
  | 0 => by
    refine def_ok Df sc_l_spoiled (fun _ _ _ _ _ _ us hl => match us, hl with | [_, _, _], _ => rfl) (fs_len fun _ => rfl) fun fa cdv A outer s H E hr => ⟨_, _, dss_never, ?_⟩
    rintro so ds k ⟨⟨t, m, ts⟩, rfl, hp, hk⟩
    have hn := hp.1
    cases t <;> exact absurd hn (by simp [Tr.dep])
  | n + 1 => by
    have c := c_l_spoiled T Df n
    refine def_ok Df sc_l_spoiled (fun _ _ _ _ _ _ us hl => match us, hl with | [_, _, _], _ => rfl) (fs_len fun _ => rfl) fun fa cdv A outer s H E hr => ⟨_, _,
      (dss_cons (ds_set (i := 3) (de_ixJ (hu_of hr) (de_var 0) de_int) sc_l_spoiled.nd)
    (dss_cons (ds_if (dp_cmp (p_eq hr.units) (de_var 3) de_str) (dss_one (ds_ret (de_tup (da_cons de_str (da_cons (de_ixJ (hu_of hr) (de_var 2) (de_op o_mod (de_var 1) (de_callB c_len T.m_len boot_len (da_cons (de_var 2) da_nil)))) da_nil))))) dss_nil)
    (dss_cons (ds_set (i := 4) (de_op o_mod (de_op p_add (de_op o_mul (de_var 1) de_int) de_int) de_int) sc_l_spoiled.nd)
    (dss_cons (ds_if (dp_cmp o_gt (de_op o_mod (de_op o_fdiv (de_var 1) de_int) de_int) de_int) (dss_cons (ds_if ((dw_and (dp_cmp (p_eq hr.units) (de_var 3) de_str) (dw_and1 (dp_cmp (p_eq hr.units) (de_op o_mod (de_op o_fdiv (de_var 1) de_int) de_int) de_int))).dp) (dss_one (ds_ret (de_tup (da_cons de_str (da_cons (de_ixJ (hu_of hr) (de_var 0) de_int) (da_cons (de_call c (hr.mono (Nat.le_refl _)) (da_cons (de_ixJ (hu_of hr) (de_var 0) de_int) (da_cons (de_var 4) (da_cons (de_var 2) da_nil)))) da_nil)))))) dss_nil)
    (dss_one (ds_ret (de_op p_add (de_tup (da_cons (de_var 3) (da_cons (de_call c (hr.mono (Nat.le_refl _)) (da_cons (de_ixJ (hu_of hr) (de_var 0) de_int) (da_cons (de_var 4) (da_cons (de_var 2) da_nil)))) da_nil))) (de_sl (de_var 0) (dpo_some de_int) dpo_no))))) dss_nil)
    (dss_cons (ds_if (dp_cmp (p_eq hr.units) (de_var 3) de_str) (dss_one (ds_ret (de_ixJ (hu_of hr) (de_lst (da_cons (de_tup (da_cons de_str (da_cons (de_ixJ (hu_of hr) (de_var 0) de_int) (da_cons (de_ixJ (hu_of hr) (de_var 0) de_int) da_nil)))) (da_cons (de_tup (da_cons de_str (da_cons (de_ixJ (hu_of hr) (de_var 0) de_int) da_nil))) (da_cons (de_tup (da_cons de_str (da_cons (de_ixJ (hu_of hr) (de_var 0) de_int) da_nil))) da_nil)))) (de_op o_mod (de_op o_fdiv (de_var 1) de_int) de_int)))) dss_nil)
    (dss_cons (ds_if ((dw_or (dp_cmp (p_eq hr.units) (de_var 3) de_str) (dw_or1 (dp_cmp (p_eq hr.units) (de_var 3) de_str))).dp) (dss_one (ds_ret (de_ixJ (hu_of hr) (de_lst (da_cons (de_tup (da_cons de_str (da_cons (de_ixJ (hu_of hr) (de_var 0) de_int) da_nil))) (da_cons (de_tup (da_cons de_str (da_cons (de_ixJ (hu_of hr) (de_var 0) de_int) da_nil))) (da_cons (de_tup (da_cons de_str (da_cons (de_ixJ (hu_of hr) (de_var 0) de_int) da_nil))) da_nil)))) (de_op o_mod (de_op o_fdiv (de_var 1) de_int) de_int)))) dss_nil)
    (dss_one (ds_ret (de_ixJ (hu_of hr) (de_lst (da_cons (de_tup (da_cons de_str (da_cons (de_ixJ (hu_of hr) (de_var 0) de_int) da_nil))) (da_cons (de_tup (da_cons de_str (da_cons (de_ixJ (hu_of hr) (de_var 0) de_int) da_nil))) (da_cons (de_tup (da_cons de_str (da_cons (de_ixJ (hu_of hr) (de_var 0) de_int) da_nil))) (da_cons (de_tup (da_cons de_str (da_cons de_str da_nil))) (da_cons (de_ixJ (hu_of hr) (de_var 0) de_int) da_nil)))))) (de_op o_mod (de_op o_fdiv (de_var 1) de_int) de_int)))))))))), ?_⟩
    rintro so ds k ⟨⟨t, m, ts⟩, rfl, ⟨hn, hm, hne, hts, tk⟩, hk⟩
    have L1 : N31 ((m * 48271 + 1) % 2147483647) := n31_mod (by decide) (by decide)
    cases t with
    | row x =>
      have hpos : (0 : Int) < ((strsD ts).length : Int) := by
        rw [strsD_len]
        have := List.length_pos_iff.mpr hne
        omega
      refine tix (j := 0) rfl rfl (eq_t rfl rfl (yes rfl ⟨hpos, lix_any (mod_lt hpos).1 (mod_lt hpos).2 fun d hd => ?_⟩))
      obtain ⟨z, hz, rfl⟩ := List.mem_map.mp hd
      exact hk _ ⟨.row z, rfl, Nat.le_refl _, Nat.le_refl _, hts z hz⟩
    | un x t =>
      simp only [Tr.dep] at hn
      have hw : decide (V.str x.w = V.str "row") = false := by cases x <;> rfl
      have hj : decide (V.str x.w = V.str "join") = false := by cases x <;> rfl
      have lp := lvs_pos t
      have tk' : t.sok = true := tk
      refine tix (j := 0) rfl rfl (eq_t rfl hw (no rfl ⟨mul_ok (by decide), add_i ⟨by decide, ⟨cdiv (by decide) (by decide), ⟨by decide, ⟨fun _ => ?_, fun _ => ?_⟩⟩⟩⟩⟩))
      · refine eq_t rfl hj (no rfl (tix (j := 1) rfl rfl ⟨(t, _, ts), rfl, ⟨by omega, L1, hne, hts, tk'⟩, ?_⟩))
        rintro d ⟨u, rfl, h1, h2, h3⟩
        exact add_t (few rfl) (hk _ ⟨.un x u, rfl, Nat.succ_le_succ h1, h2, h3⟩)
      · refine eq_t rfl hj (no rfl ?_)
        have e1 : ∀ y : UW, D.tup [sD y.w, encR t] = encR (.un y t) := fun y => rfl
        have ok1 : ∀ y : UW, ∃ u, D.tup [sD y.w, encR t] = encR u ∧ u.dep ≤ (Tr.un x t).dep ∧ (lvs u).length ≤ (lvs (Tr.un x t)).length ∧ u.sok = true := fun y => ⟨.un y t, rfl, Nat.le_refl _, Nat.le_refl _, tk'⟩
        have first : decide (V.str x.w = V.str "first") = true ∨ decide (V.str x.w = V.str "first") = false := by cases decide (V.str x.w = V.str "first") <;> simp
        have second : decide (V.str x.w = V.str "second") = true ∨ decide (V.str x.w = V.str "second") = false := by cases decide (V.str x.w = V.str "second") <;> simp
        have A3 : jIx (.lst [D.tup [sD UW.first.w, encR t], D.tup [sD UW.second.w, encR t], D.tup [sD UW.pick.w, encR t]]) (.a (.int (m / 20 % 3))) k := by
          refine lix_any (mod_lt (by decide)).1 (mod_lt (i := m / 20) (j := 3) (by decide)).2 fun d hd => hk _ ?_
          rcases List.mem_cons.mp hd with z | hd
          · rw [z]; exact ok1 .first
          rcases List.mem_cons.mp hd with z | hd
          · rw [z]; exact ok1 .second
          rcases List.mem_cons.mp hd with z | hd
          · rw [z]; exact ok1 .pick
          · cases hd
        have A5 : jIx (.lst [D.tup [sD UW.pick.w, encR t], D.tup [sD UW.keep.w, encR t], D.tup [sD UW.call.w, encR t], D.tup [sD "row", sD "a"], encR t]) (.a (.int (m / 20 % 5))) k := by
          refine lix_any (mod_lt (by decide)).1 (mod_lt (i := m / 20) (j := 5) (by decide)).2 fun d hd => hk _ ?_
          rcases List.mem_cons.mp hd with z | hd
          · rw [z]; exact ok1 .pick
          rcases List.mem_cons.mp hd with z | hd
          · rw [z]; exact ok1 .keep
          rcases List.mem_cons.mp hd with z | hd
          · rw [z]; exact ok1 .call
          rcases List.mem_cons.mp hd with z | hd
          · rw [z]; exact ⟨.row "a", rfl, Nat.succ_le_succ (Nat.zero_le _), lp, by decide +kernel⟩
          rcases List.mem_cons.mp hd with z | hd
          · rw [z]; exact ⟨t, rfl, Nat.le_succ _, Nat.le_refl _, tk'⟩
          · cases hd
        have go3 := tix (ds := [sD x.w, encR t]) (j := 1) (i := 1) (k := fun d1 => jIx (.tup [sD x.w, encR t]) (.a (.int 1)) fun d2 => jIx (.tup [sD x.w, encR t]) (.a (.int 1)) fun d3 => CDiv m 20 ∧ (0 : Int) < 3 ∧ jIx (.lst [D.tup [sD "first", d1], D.tup [sD "second", d2], D.tup [sD "pick", d3]]) (.a (.int (m / 20 % 3))) k) rfl rfl
          (tix (j := 1) rfl rfl (tix (j := 1) rfl rfl ⟨cdiv (by decide) (by decide), by decide, A3⟩))
        rcases first with h1 | h1
        · exact eq_t rfl h1 (yes rfl go3)
        rcases second with h2 | h2
        · exact eq_t rfl h1 (eq_t rfl h2 (yes rfl go3))
        · exact eq_t rfl h1 (eq_t rfl h2 (no rfl (tix (j := 1) rfl rfl (tix (j := 1) rfl rfl (tix (j := 1) rfl rfl (tix (j := 1) rfl rfl ⟨cdiv (by decide) (by decide), by decide, A5⟩))))))
    | join a b =>
      simp only [Tr.dep] at hn
      obtain ⟨ka, kb⟩ := Bool.and_eq_true_iff.mp (show (a.sok && b.sok) = true from tk)
      have la := lvs_pos a
      have lb := lvs_pos b
      have ll : (lvs (Tr.join a b)).length = (lvs a).length + (lvs b).length := by show (lvs a ++ lvs b).length = _; rw [List.length_append]
      have ld : (Tr.join a b).dep = max a.dep b.dep + 1 := rfl
      refine tix (j := 0) rfl rfl (eq_t rfl rfl (no rfl ⟨mul_ok (by decide), add_i ⟨by decide, ⟨cdiv (by decide) (by decide), ⟨by decide, ⟨fun _ => ?_, fun _ => ?_⟩⟩⟩⟩⟩))
      · refine eq_t rfl rfl ⟨cdiv (by decide) (by decide), ⟨by decide, eq_i ⟨fun _ => ?_, fun _ => ?_⟩⟩⟩
        · refine tix (j := 1) rfl rfl (tix (j := 2) rfl rfl ⟨(b, _, ts), rfl, ⟨by omega, L1, hne, hts, kb⟩, ?_⟩)
          rintro d ⟨u, rfl, h1, h2, h3⟩
          refine hk _ ⟨.join a u, rfl, ?_, ?_, Bool.and_eq_true_iff.mpr ⟨ka, h3⟩⟩
          · show max a.dep u.dep + 1 ≤ max a.dep b.dep + 1
            omega
          · show (lvs a ++ lvs u).length ≤ _
            rw [ll, List.length_append]
            omega
        · refine tix (j := 1) rfl rfl ⟨(a, _, ts), rfl, ⟨by omega, L1, hne, hts, ka⟩, ?_⟩
          rintro d ⟨u, rfl, h1, h2, h3⟩
          refine add_t (few rfl) (hk _ ⟨.join u b, rfl, ?_, ?_, Bool.and_eq_true_iff.mpr ⟨h3, kb⟩⟩)
          · show max u.dep b.dep + 1 ≤ max a.dep b.dep + 1
            omega
          · show (lvs u ++ lvs b).length ≤ _
            rw [ll, List.length_append]
            omega
      · refine eq_t rfl rfl (yes rfl (tix (j := 2) rfl rfl (tix (j := 1) rfl rfl (tix (j := 1) rfl rfl (tix (j := 2) rfl rfl ⟨cdiv (by decide) (by decide), ⟨by decide, lix_any (mod_lt (by decide)).1 (mod_lt (i := m / 20) (j := 3) (by decide)).2 fun d hd => hk _ ?_⟩⟩)))))
        rcases List.mem_cons.mp hd with z | hd
        · rw [z]
          refine ⟨.join b a, rfl, ?_, ?_, Bool.and_eq_true_iff.mpr ⟨kb, ka⟩⟩
          · show max b.dep a.dep + 1 ≤ max a.dep b.dep + 1
            omega
          · show (lvs b ++ lvs a).length ≤ _
            rw [ll, List.length_append]
            omega
        rcases List.mem_cons.mp hd with z | hd
        · rw [z]
          refine ⟨.un .first a, rfl, ?_, ?_, ka⟩
          · show a.dep + 1 ≤ max a.dep b.dep + 1
            omega
          · show (lvs a).length ≤ _
            omega
        rcases List.mem_cons.mp hd with z | hd
        · rw [z]
          refine ⟨.un .keep b, rfl, ?_, ?_, kb⟩
          · show b.dep + 1 ≤ max a.dep b.dep + 1
            omega
          · show (lvs b).length ≤ _
            omega
        · cases hd
end
end Wh

/-! # The class Store: its methods, by the heap -/
namespace Wh
open PySem L2
abbrev m_init : Stmt := inClass (top 40) 0
abbrev m_make : Stmt := inClass (top 40) 1
abbrev m_put : Stmt := inClass (top 40) 2
abbrev m_strike : Stmt := inClass (top 40) 3
abbrev m_heads : Stmt := inClass (top 40) 4
abbrev m_row : Stmt := inClass (top 40) 7
/-- a method of the class as the top has left it -/
structure MethAt (K : PySem.W.Frag) (C : Addr) (m qual : Str) (st : Stmt) : Prop where
  ex : ∃ (f : Addr) (fd : FuncData), Fun K m qual st f fd ∧ Meth K C m f
/-- what is asked of the two classes -/
structure StTxt (K : PySem.W.Frag) (mg : Str → Option Value) (C : Addr) : Prop where
  cl : Cls K C
  nM : NoAttr K C "made"
  nS : NoAttr K C "stood"
  mgC : mg "Store" = some (.ref C)
  mks : PySem.W.makesIn K C = true
  kp : PySem.W.keepIn K (.ref C) = true
  init : MethAt K C "__init__" "Store.__init__" m_init
  make : MethAt K C "make" "Store.make" m_make
  put : MethAt K C "put" "Store.put" m_put
  strike : MethAt K C "strike" "Store.strike" m_strike
  heads : MethAt K C "heads" "Store.heads" m_heads
  row : MethAt K C "row_of" "Store.row_of" m_row
/-- the two dicts of a store -/
structure Raw (C : Addr) (H : Hp) (p am as : Addr) (mk sk : List (Key × V)) : Prop where
  ob : ∃ dx, H p = some (.ins C dx (sflds am as))
  m : H am = some (.dK mk)
  s : H as = some (.dK sk)
  ne : am ≠ as
theorem Raw.pm {C : Addr} {H : Hp} {p am as : Addr} {mk sk : List (Key × V)} (r : Raw C H p am as mk sk) : p ≠ am := let ⟨_, h⟩ := r.ob; ne_of h r.m (by intro z; cases z)
theorem Raw.ps {C : Addr} {H : Hp} {p am as : Addr} {mk sk : List (Key × V)} (r : Raw C H p am as mk sk) : p ≠ as := let ⟨_, h⟩ := r.ob; ne_of h r.s (by intro z; cases z)
theorem lk_made (am as : Addr) : (sflds am as).lookup ("made" : Str) = some (.ref am) := rfl
theorem lk_stood (am as : Addr) : (sflds am as).lookup ("stood" : Str) = some (.ref as) := rfl
theorem mk_st : ¬ (("made" : Str) = "stood") := by decide +kernel
theorem sflds_put (am as : Addr) : putF "stood" (V.ref as) (putF "made" (V.ref am) []) = sflds am as := by
  show (if ("made" : Str) = "stood" then [(("made" : Str), V.ref as)] else (("made" : Str), V.ref am) :: putF "stood" (V.ref as) []) = _
  rw [if_neg mk_st]
  rfl
section
variable {P : Program} {w : World} {K : PySem.W.Frag} {mg : Str → Option Value} {base : Heap} {C : Addr} {f : Addr} {fd : FuncData}
/-! ### __init__ -/
def spInit (C : Addr) : Sp := fun vs H Q _ => ∃ (p dx : Addr), vs = [.ref p] ∧ H p = some (.ins C dx []) ∧ ∀ (am as : Addr), H am = none → H as = none → am ≠ as → Q .non (upd (upd (upd (upd H am (.dK [])) p (.ins C dx (putF "made" (V.ref am) []))) as (.dK [])) p (.ins C dx (sflds am as)))
theorem scI : FnScope ["self"] ["self"] (defScope m_init) := ⟨rfl, rfl, rfl, by decide +kernel, rfl, by decide +kernel, by decide +kernel⟩
theorem ok_init (F : Fun K "__init__" "Store.__init__" m_init f fd) (T : StTxt K mg C) : FnOk P w K mg base CX0 1 f fd ["self"] (spInit C) := by
  refine F.ok scI (fun vs H Q E h => ?_) (fun cdv A outer s H vs Q E hr h => ?_)
  · obtain ⟨p, dx, rfl, _⟩ := h
    rfl
  · obtain ⟨p, dx, rfl, hp, k⟩ := h
    refine ⟨_, pss_cons (ps_fld (pv 0) pe_dnewK rfl) (pss_one (ps_fld (pv 0) pe_dnewK rfl)), ?_⟩
    intro am ham
    have n1 : p ≠ am := ne_of_none hp ham
    refine ⟨_, rfl, p, C, dx, [], rfl, (by rw [upd_ne n1]; exact hp), T.cl, T.nM, (by show 0 < 1000; decide), ?_⟩
    intro as has
    have n2 : p ≠ as := fun z => by subst z; rw [upd_same] at has; cases has
    have n3 : am ≠ as := fun z => by subst z; rw [upd_ne n1.symm, upd_same] at has; cases has
    have ha : H as = none := by rw [upd_ne n2.symm, upd_ne n3.symm] at has; exact has
    refine ⟨_, rfl, p, C, dx, _, rfl, (by rw [upd_ne n2]; exact upd_same), T.cl, T.nS, (by show 1 < 1000; decide), ?_⟩
    rw [sflds_put]
    exact k am as ham ha n3
/-! ### heads -/
def spHeads (C : Addr) : Sp := fun vs H Q _ => ∃ (p am as : Addr) (mk sk : List (Key × V)), vs = [.ref p] ∧ Raw C H p am as mk sk ∧ ∀ q, H q = none → Q (.ref q) (upd H q (.dK mk))
theorem scH : FnScope ["self"] ["self"] (defScope m_heads) := ⟨rfl, rfl, rfl, by decide +kernel, rfl, by decide +kernel, by decide +kernel⟩
theorem ok_heads (F : Fun K "heads" "Store.heads" m_heads f fd) (T : StTxt K mg C) (X : Txt mg) : FnOk P w K mg base CX0 1 f fd ["self"] (spHeads C) := by
  refine F.ok scH (fun vs H Q E h => ?_) (fun cdv A outer s H vs Q E hr h => ?_)
  · obtain ⟨p, am, as, mk, sk, rfl, _⟩ := h
    rfl
  · obtain ⟨p, am, as, mk, sk, rfl, R, k⟩ := h
    obtain ⟨dx, hp⟩ := R.ob
    refine ⟨_, pss_one (ps_ret (pe_callTy call_dictD (by rfl) X.m_dict boot_dict (pa_cons (pe_fld (pv 0) rfl) pa_nil))), ?_⟩
    exact ⟨_, rfl, p, C, dx, _, _, rfl, hp, T.cl, T.nM, lk_made _ _, am, mk, rfl, .inl R.m, k⟩
/-! ### make -/
def spMake (C : Addr) (K : PySem.W.Frag) : Sp := fun vs H Q _ => ∃ (p am as l : Addr) (mk sk : List (Key × V)) (t : Str) (ys : List Str), vs = [.ref p, .str t, .ref l] ∧ Raw C H p am as mk sk ∧ SqT K H l (ys.map V.str) ∧ ys.Nodup ∧ ys.length < 3000 ∧ valV mk (Sum.inr t : Key) = none ∧ mk.length ≤ 1000 ∧
  ∀ H', Same H H' → Q .non (upd H' am (.dK (putK mk (Sum.inr t) (.ref l))))
theorem scM : FnScope ["self", "table", "head"] ["self", "table", "head"] (defScope m_make) := ⟨rfl, rfl, rfl, by decide +kernel, rfl, by decide +kernel, by decide +kernel⟩
theorem ok_make (F : Fun K "make" "Store.make" m_make f fd) (T : StTxt K mg C) (X : Txt mg) : FnOk P w K mg base CX0 1 f fd ["self", "table", "head"] (spMake C K) := by
  refine F.ok scM (fun vs H Q E h => ?_) (fun cdv A outer s H vs Q E hr h => ?_)
  · obtain ⟨p, am, as, l, mk, sk, t, ys, rfl, _⟩ := h
    rfl
  · obtain ⟨p, am, as, l, mk, sk, t, ys, rfl, R, hl, nd, hz, hn, hm, k⟩ := h
    obtain ⟨dx, hp⟩ := R.ob
    have hu := hu_of hr
    refine ⟨_, pss_cons (ps_if (pt_cmp (pc_din hu (pv 1) (pe_fld (pv 0) rfl))) pss_never pss_nil)
      (pss_cons (ps_if (pt_cmpR op_ne (pe_callB cr_lenX (by rfl) X.m_len boot_len (pa_cons (pe_callTy (cr_setX rfl) (by rfl) X.m_set boot_set (pa_cons (pv 2) pa_nil)) pa_nil)) (pe_callB call_len (by rfl) X.m_len boot_len (pa_cons (pv 2) pa_nil)) (nomark _)) pss_never pss_nil)
      (pss_one (ps_dput hu (pe_fld (pv 0) rfl) (pv 1) (pe_callTy call_tuple4 (by rfl) X.m_tuple boot_tuple (pa_cons (pv 2) pa_nil)) rfl))), ?_⟩
    refine ⟨_, rfl, _, rfl, p, C, dx, _, _, rfl, hp, T.cl, T.nM, lk_made _ _, am, _, rfl, DGet.k (k := Sum.inr t) R.m, _, rfl, ?_⟩
    rw [hn]
    refine iteF ?_
    refine ⟨_, rfl, l, ys, rfl, .inr hl, hz, fun a ha => ?_⟩
    have S1 : Same H (upd H a (SetXO w a (asX ys))) := same_new ha
    refine ⟨a, asX ys, rfl, upd_same, _, rfl, .ref l, (ys.map V.str).length, rfl, .inr ⟨ys.map V.str, sq_t S1 hl, rfl⟩, ?_⟩
    refine ⟨rfl, _, rfl, ?_⟩
    refine iteNS (by rw [asX_len nd, List.length_map]) ?_
    refine ⟨_, rfl, l, ys.map V.str, rfl, .inr ⟨sq_t S1 hl, ?_⟩⟩
    refine ⟨_, rfl, p, C, dx, _, _, rfl, S1 _ _ hp, T.cl, T.nM, lk_made _ _, _, rfl, am, _, rfl, DPut.k (k := Sum.inr t) (S1 _ _ R.m) (small1000 hm), ?_⟩
    exact k _ S1
/-! ### put -/
def spPut (C : Addr) (K : PySem.W.Frag) : Sp := fun vs H Q _ => ∃ (p am as l lr : Addr) (mk sk : List (Key × V)) (t n : Str) (xs rs : List V), vs = [.ref p, .str t, .str n, .ref lr] ∧ Raw C H p am as mk sk ∧ valV mk (Sum.inr t : Key) = some (.ref l) ∧ SqT K H l xs ∧ SqT K H lr rs ∧ rs.length = xs.length ∧
  valV sk (Sum.inr n : Key) = none ∧ sk.length ≤ 1000 ∧ ∀ (u : Addr) (o : Obj), H u = none → o.dict = none → o.cls = .type "tuple" → Q .non (upd (upd H u (.frz o (.tup [.str t, .ref lr]))) as (.dK (putK sk (Sum.inr n) (.ref u))))
theorem scP : FnScope ["self", "table", "name", "row"] ["self", "table", "name", "row"] (defScope m_put) := ⟨rfl, rfl, rfl, by decide +kernel, rfl, by decide +kernel, by decide +kernel⟩
theorem ok_put (F : Fun K "put" "Store.put" m_put f fd) (T : StTxt K mg C) (X : Txt mg) : FnOk P w K mg base CX0 1 f fd ["self", "table", "name", "row"] (spPut C K) := by
  refine F.ok scP (fun vs H Q E h => ?_) (fun cdv A outer s H vs Q E hr h => ?_)
  · obtain ⟨p, am, as, l, lr, mk, sk, t, n, xs, rs, rfl, _⟩ := h
    rfl
  · obtain ⟨p, am, as, l, lr, mk, sk, t, n, xs, rs, rfl, R, hl, sl, sr, hz, hn, hm, k⟩ := h
    obtain ⟨dx, hp⟩ := R.ob
    have hu := hu_of hr
    refine ⟨_, pss_cons (ps_if (pt_cmp (pc_dnotin hu (pv 1) (pe_fld (pv 0) rfl))) pss_never pss_nil)
      (pss_cons (ps_if (pt_cmp (pc_din hu (pv 2) (pe_fld (pv 0) rfl))) pss_never pss_nil)
      (pss_cons (ps_if (pt_cmpR op_ne (pe_callB call_len (by rfl) X.m_len boot_len (pa_cons (pv 3) pa_nil)) (pe_callB call_len (by rfl) X.m_len boot_len (pa_cons (pe_dget hu (pe_fld (pv 0) rfl) (pv 1) (fun _ _ => rfl)) pa_nil)) (nomark _)) pss_never pss_nil)
      (pss_one (ps_dput hu (pe_fld (pv 0) rfl) (pv 2) (pe_tup4 (pa_cons (pv 1) (pa_cons (pe_callTy call_tuple4 (by rfl) X.m_tuple boot_tuple (pa_cons (pv 3) pa_nil)) pa_nil))) rfl)))), ?_⟩
    refine ⟨_, rfl, _, rfl, p, C, dx, _, _, rfl, hp, T.cl, T.nM, lk_made _ _, am, _, rfl, DGet.k (k := Sum.inr t) R.m, _, rfl, ?_⟩
    rw [hl]
    refine iteF ?_
    refine ⟨_, rfl, _, rfl, p, C, dx, _, _, rfl, hp, T.cl, T.nS, lk_stood _ _, as, _, rfl, DGet.k (k := Sum.inr n) R.s, _, rfl, ?_⟩
    rw [hn]
    refine iteF ?_
    have g := DGet.k (H := H) (a := am) (kvs := mk) (k := Sum.inr t) R.m
    rw [hl] at g
    refine ⟨_, rfl, .ref lr, rs.length, rfl, .inr ⟨rs, sr, rfl⟩, ?_⟩
    refine ⟨_, rfl, p, C, dx, _, _, rfl, hp, T.cl, T.nM, lk_made _ _, _, rfl, am, .ref l, rfl, g, .ref l, xs.length, rfl, .inr ⟨xs, sl, rfl⟩, ?_⟩
    refine ⟨rfl, _, rfl, iteNS (by rw [hz]) ?_⟩
    refine ⟨_, rfl, _, rfl, lr, rs, rfl, .inr ⟨sr, ?_⟩⟩
    refine ⟨by show 2 ≤ sizeLine; rw [sizeLine_eq]; decide, fun u o hu' h1 h2 => ?_⟩
    have S1 : Same H (upd H u (.frz o (.tup [.str t, .ref lr]))) := same_new hu'
    refine ⟨_, rfl, p, C, dx, _, _, rfl, S1 _ _ hp, T.cl, T.nS, lk_stood _ _, _, rfl, as, _, rfl, DPut.k (k := Sum.inr n) (S1 _ _ R.s) (small1000 hm), ?_⟩
    exact k u o hu' h1 h2
/-! ### strike -/
def spStrike (C : Addr) : Sp := fun vs H Q _ => ∃ (p am as : Addr) (mk sk : List (Key × V)) (n : Str) (v : V), vs = [.ref p, .str n] ∧ Raw C H p am as mk sk ∧ valV sk (Sum.inr n : Key) = some v ∧ Q .non (upd H as (.dK (dropK sk (Sum.inr n))))
theorem scK : FnScope ["self", "name"] ["self", "name"] (defScope m_strike) := ⟨rfl, rfl, rfl, by decide +kernel, rfl, by decide +kernel, by decide +kernel⟩
theorem ok_strike (F : Fun K "strike" "Store.strike" m_strike f fd) (T : StTxt K mg C) (X : Txt mg) : FnOk P w K mg base CX0 1 f fd ["self", "name"] (spStrike C) := by
  refine F.ok scK (fun vs H Q E h => ?_) (fun cdv A outer s H vs Q E hr h => ?_)
  · obtain ⟨p, am, as, mk, sk, n, v, rfl, _⟩ := h
    rfl
  · obtain ⟨p, am, as, mk, sk, n, v, rfl, R, hn, k⟩ := h
    obtain ⟨dx, hp⟩ := R.ob
    have hu := hu_of hr
    refine ⟨_, pss_cons (ps_if (pt_cmp (pc_dnotin hu (pv 1) (pe_fld (pv 0) rfl))) pss_never pss_nil)
      (pss_one (ps_expr (pe_dpop1 (pe_fld (pv 0) rfl) (pv 1) ⟨rfl, rfl, rfl, rfl⟩))), ?_⟩
    refine ⟨_, rfl, _, rfl, p, C, dx, _, _, rfl, hp, T.cl, T.nS, lk_stood _ _, as, _, rfl, DGet.k (k := Sum.inr n) R.s, _, rfl, ?_⟩
    rw [hn]
    refine iteF ?_
    exact ⟨_, rfl, p, C, dx, _, _, rfl, hp, T.cl, T.nS, lk_stood _ _, as, rfl, .inl ⟨_, .inl R.s⟩, _, rfl, sk, Sum.inr n, v, R.s, rfl, hn, k⟩
/-! ### row_of, which may raise -/
def spRow (C N : Addr) : Sp := fun vs H Q E => ∃ (p am as : Addr) (mk sk : List (Key × V)) (n : Str), vs = [.ref p, .str n] ∧ Raw C H p am as mk sk ∧ (∀ v, valV sk (Sum.inr n : Key) = some v → Q v H) ∧ (valV sk (Sum.inr n : Key) = none → E (.ref N) none H)
/-- the class NoName -/
structure NoN (K : PySem.W.Frag) (mg : Str → Option Value) (N : Addr) : Prop where
  g : mg "NoName" = some (.ref N)
  x : ∃ bm, PySem.W.excIn K N bm "ValueError.__new__" = true ∧ bm = [.type "ValueError", .type "Exception", .type "BaseException", .type "object"]
  k : PySem.W.keepIn K (.ref N) = true
  b : PySem.W.subIn K (.ref N) (.type "BaseException") = some true
  t : PySem.W.typeIn K (.ref N) = some (.type "type")
  e : PySem.W.exmOne K (.ref N) (.ref N) = some true
theorem scR : FnScope ["self", "name"] ["self", "name"] (defScope m_row) := ⟨rfl, rfl, rfl, by decide +kernel, rfl, by decide +kernel, by decide +kernel⟩
theorem ok_row {N : Addr} (F : Fun K "row_of" "Store.row_of" m_row f fd) (T : StTxt K mg C) (X : NoN K mg N) : FnOk P w K mg base (L2.CX P w) 1 f fd ["self", "name"] (spRow C N) := by
  refine F.okX scR (fun vs H Q E h => ?_) (fun cdv A outer s H vs Q E hr h => ?_)
  · obtain ⟨p, am, as, mk, sk, n, rfl, _⟩ := h
    rfl
  · obtain ⟨p, am, as, mk, sk, n, rfl, R, k1, k2⟩ := h
    obtain ⟨dx, hp⟩ := R.ob
    have hu := hu_of hr
    obtain ⟨bm, hx, rfl⟩ := X.x
    refine ⟨_, pss_cons (ps_if (pt_cmp (pc_dnotin hu (pv 1) (pe_fld (pv 0) rfl))) (pss_one (ps_raise rfl (takes_of rfl rfl rfl rfl) (pmk_own PySem.F.excBase_ValueError hx X.g X.k (raises_own X.b X.t) rfl))) pss_nil)
      (pss_one (ps_ret (pe_dget hu (pe_fld (pv 0) rfl) (pv 1) (fun _ _ => rfl)))), ?_⟩
    refine ⟨_, rfl, _, rfl, p, C, dx, _, _, rfl, hp, T.cl, T.nS, lk_stood _ _, as, _, rfl, DGet.k (k := Sum.inr n) R.s, _, rfl, ?_⟩
    have g := DGet.k (H := H) (a := as) (kvs := sk) (k := Sum.inr n) R.s
    cases hv : valV sk (Sum.inr n : Key) with
    | none => exact iteT (k2 hv)
    | some v =>
      rw [hv] at g
      exact iteF ⟨_, rfl, p, C, dx, _, _, rfl, hp, T.cl, T.nS, lk_stood _ _, _, rfl, as, v, rfl, g, k1 v hv⟩
end
end Wh

/-! # The store over data -/
namespace Wh
open PySem L2
/-- what stands of a row -/
def rwD (r : Rw) : D := .tup [sD r.tab, tV r.row]
def stoOf (hs : Hs) (st : List Rw) (m : Bool) (p : Addr) : Sto := ⟨p, hs.map (·.1), hs.map fun h => tS h.2, st.map (·.name), st.map rwD, m⟩
/-! ### the pairs of a dict with texts for keys -/
theorem kvz_append {ks js : List Str} {xs ys : List V} (h : ks.length = xs.length) : kvz (ks ++ js) (xs ++ ys) = kvz ks xs ++ kvz js ys := by
  unfold kvz
  rw [List.map_append, List.zip_append (by rw [List.length_map]; exact h)]
theorem kvz_none {ks : List Str} {xs : List V} {z : Str} (h : ks.length = xs.length) (n : z ∉ ks) : valV (kvz ks xs) (Sum.inr z : Key) = none := by
  have e := kvz_val h z
  have c : ks.contains z = false := by simpa using n
  rw [c] at e
  cases q : valV (kvz ks xs) (Sum.inr z : Key) with
  | none => rfl
  | some v => rw [q] at e; cases e
theorem kvz_put {ks : List Str} {xs : List V} {z : Str} {v : V} (h : ks.length = xs.length) (n : z ∉ ks) : putK (kvz ks xs) (Sum.inr z : Key) v = kvz (ks ++ [z]) (xs ++ [v]) := by
  rw [putK_new v (kvz_none h n), kvz_append h]
  rfl
theorem kvz_len {ks : List Str} {xs : List V} (h : ks.length = xs.length) : (kvz ks xs).length = ks.length := by
  unfold kvz
  rw [List.length_zip, List.length_map]
  omega
/-- without one -/
def wo (n : Str) (st : List Rw) : List Rw := st.filter fun r => !decide (r.name = n)
theorem kvz_drop {K : PySem.W.Frag} {F : Hp} (n : Str) : ∀ {st : List Rw} {ys : List V}, IsL K F (st.map rwD) ys → ∃ zs, dropK (kvz (st.map (·.name)) ys) (Sum.inr n : Key) = kvz ((wo n st).map (·.name)) zs ∧ (wo n st).length = zs.length ∧ IsL K F ((wo n st).map rwD) zs
  | [], ys, h => by
    cases h
    exact ⟨[], rfl, rfl, IsL.nil⟩
  | r :: st, ys, h => by
    obtain ⟨y, t, rfl, h1, h2⟩ := h
    obtain ⟨zs, e1, e2, e3⟩ := kvz_drop n h2
    have step : dropK (kvz ((r :: st).map (·.name)) (y :: t)) (Sum.inr n : Key) = if r.name = n then dropK (kvz (st.map (·.name)) t) (Sum.inr n) else (Sum.inr r.name, y) :: dropK (kvz (st.map (·.name)) t) (Sum.inr n) := by
      unfold kvz dropK
      rw [List.map_cons, List.map_cons, List.zip_cons_cons, List.filter_cons]
      by_cases c : r.name = n
      · subst c; simp
      · have c' : ¬ ((Sum.inr r.name : Key) = Sum.inr n) := fun z => c (Sum.inr.inj z)
        rw [if_pos (by simpa using c'), if_neg c]
    rw [step]
    by_cases c : r.name = n
    · have w : wo n (r :: st) = wo n st := by unfold wo; rw [List.filter_cons, if_neg (by simp [c])]
      rw [if_pos c, w]
      exact ⟨zs, e1, e2, e3⟩
    · have w : wo n (r :: st) = r :: wo n st := by unfold wo; rw [List.filter_cons, if_pos (by simp [c])]
      rw [if_neg c, w]
      refine ⟨y :: zs, ?_, by simp [e2], .cons h1 e3⟩
      rw [e1]
      rfl
/-! ### the heap beside the frame -/
section
variable {K : PySem.W.Frag} {C : Addr} {F0 H0 F H : Hp} {σ : L2.St} {ρ : DSt}
theorem env_write {p : Addr} {o : HO} (en : Env K C F0 H0 F H σ ρ) (fp : F p = none) (hp : H0 p = none) (nl : ∀ xs, H p ≠ some (.lst xs)) {s' : Option Sto} (hs : StoO K C H0 F (upd H p o) s') : Env K C F0 H0 F (upd H p o) σ ⟨ρ.sl, ρ.own, s'⟩ where
  ext := ⟨en.ext.f, fun c u e => by rw [upd_ne (fun z => by rw [z, hp] at e; cases e)]; exact en.ext.h c u e, fun c u e => by rw [upd_ne (fun z => by rw [z, fp] at e; cases e)]; exact en.sm c u e, en.ext.n⟩
  len := en.len
  ok := en.ok
  own := fun n ds q => by
    obtain ⟨a, xs, h1, h2, h3, h4, h5⟩ := en.own n ds q
    have ne : a ≠ p := fun z => nl xs (by rw [← z]; exact h2)
    exact ⟨a, xs, h1, by rw [upd_ne ne]; exact h2, h3, h4, h5⟩
  sto := hs
theorem sto_is (en : Env K C F0 H0 F H σ ρ) {s : Sto} (h : ρ.sto = some s) : StoAt K C H0 F H s := by
  have z := en.sto
  rw [h] at z
  exact z
end
section
variable {X : Cx} {C : Addr} {e : Expr} {es : List Expr} {te : TE} {we : DT} {ta : TA} {wa : DTA} {pos apos cpos p0 p1 : Pos}
/-! ### store.heads() -/
def dHeads (we : DT) : DT := fun ρ k => we ρ fun d => ∃ s, ρ.sto = some s ∧ d = .a (.ref s.p) ∧ k (.dic s.ts s.hs)
theorem de_heads {pl : Sem Bool} (S : StTxt X.K X.mg C) (T : Txt X.mg) (hr : Room 1 X.A) (he : DE X C e te we)
    (ht : eval (.Call (.Attribute e "heads" apos) [] [] pos) X.env = (do
      let o ← eval e X.env
      standAt apos.atName
      let (g, one) ← holding [o] (getMethod o "heads" pl)
      callWith pos g one (backTo pos (starEach [] X.env)) (backToKw pos (keywordEach [] X.env))) := by rfl) :
    DE X C (.Call (.Attribute e "heads" apos) [] [] pos) (tMeth C "heads" (spHeads C) [] E0 te tNil) (dHeads we) := by
  obtain ⟨f, fd, Fm, M⟩ := S.heads.ex
  have b := Fm.binds (ps := ["self"]) fun _ _ _ _ _ _ us hl => match us, hl with | [_], _ => rfl
  refine ⟨pe_meth0 (pl := pl) he.pe S.cl M (ok_heads Fm S T) hr b .nil pass0 ht, fun F0 H0 F H σ ρ k Q en h qk => ?_⟩
  refine he.dv _ _ _ _ _ _ _ _ en h fun d v F1 H1 x1 i1 ⟨s, hs, ed, hk⟩ => ?_
  subst ed
  cases i1
  obtain ⟨dx, am, as, xs, ys, h1, h2, h3, ne, l1, l2, f1, f2, f3, g1, g2, m⟩ := sto_is (en.grow x1) hs
  refine ⟨s.p, dx, _, rfl, h1, rfl, s.p, am, as, _, _, rfl, ⟨⟨dx, h1⟩, h2, h3, ne⟩, fun q hq => ?_⟩
  have x2 := Ext.new (o := .dK (kvz s.ts xs)) x1.s hq
  exact qk (.dic s.ts s.hs) (.ref q) _ _ (x1.trans x2) ⟨q, xs, rfl, upd_same, l1, IsL.mono x2.f _ _ g1⟩ hk
/-! ### Store() -/
def dNewSto (i : Nat) : DTS := fun ρ k => ρ.sto = none ∧ ∀ p, k.nx ⟨ρ.sl.set i (some (.a (.ref p))), dropOwn ρ.own i, some ⟨p, [], [], [], [], true⟩⟩
theorem dv_newSto {i : Nat} {K : PySem.W.Frag} : DVS K C (tAsg (tMake C (spInit C) [] E0 tNil) (gName i)) (dNewSto i) := by
  intro F0 H0 F H σ ρ k E en ⟨h0, hk⟩ ok
  intro x dx hx hdx hne
  refine ⟨x, dx, rfl, upd_same, fun am as ham has hma => ⟨rfl, ?_⟩⟩
  have n1 : am ≠ x := fun z => by rw [z, upd_same] at ham; cases ham
  have n2 : as ≠ x := fun z => by rw [z, upd_same] at has; cases has
  have a1 : H am = none := by
    rw [upd_ne n1] at ham
    by_cases c : am = dx
    · rw [c, upd_same] at ham; cases ham
    · rw [upd_ne c] at ham; exact ham
  have a2 : H as = none := by
    rw [upd_ne n2] at has
    by_cases c : as = dx
    · rw [c, upd_same] at has; cases has
    · rw [upd_ne c] at has; exact has
  have sH : Same H (upd (upd (upd (upd (upd (upd H dx (.own x)) x (.ins C dx [])) am (.dK [])) x (.ins C dx (putF "made" (V.ref am) []))) as (.dK [])) x (.ins C dx (sflds am as))) := fun c o z => by
    rw [upd_ne (ne_of_none z hx), upd_ne (ne_of_none z a2), upd_ne (ne_of_none z hx), upd_ne (ne_of_none z a1), upd_ne (ne_of_none z hx), upd_ne (ne_of_none z hdx)]
    exact z
  have xx : Ext F H F _ := ⟨Same.refl F, sH, en.sm.trans sH, fun _ _ e => .inl e⟩
  have e2 := env_put (en.grow xx) i (d := .a (.ref x)) (v := .ref x) rfl
  refine ok.nx F _ _ ⟨ρ.sl.set i (some (.a (.ref x))), dropOwn ρ.own i, some ⟨x, [], [], [], [], true⟩⟩ ⟨e2.ext, e2.len, e2.ok, e2.own, ?_⟩ (hk x)
  refine ⟨dx, am, as, [], [], upd_same, ?_, ?_, hma, rfl, rfl, en.sm.free hx, en.sm.free a1, en.sm.free a2, IsL.nil, IsL.nil, fun _ => ⟨en.ext.h.free hx, en.ext.h.free a1, en.ext.h.free a2⟩⟩
  · rw [upd_ne n1, upd_ne hma, upd_ne n1, upd_same]; rfl
  · rw [upd_ne n2, upd_same]; rfl
theorem ds_newSto {i f : Nat} {x : Str} {pos' p : Pos} (S : StTxt X.K X.mg C) (hr : Room 2 X.A) (hN : X.N.Nodup) (hi : X.N[i]? = some x := by rfl) (hx : Loc X.env.scope x := by first | exact Or.inl rfl | exact Or.inr rfl) (hg : Gl X "Store" := by rfl)
    (hs : swapsWith (.Call (.Name "Store" p) [] [] cpos) (some (.Name x pos')) pos.line X.env = pure false := by rfl) (hf : X.fn x = true ∨ X.env.scope.names.lookup x = some .local := by first | exact .inl rfl | exact .inr rfl | assumption) :
    DS X C (.Assign [.Name x pos'] (.Call (.Name "Store" p) [] [] cpos) pos) (tAsg (tMake C (spInit C) [] E0 tNil) (gName i)) (dNewSto i) := by
  obtain ⟨f, fd, Fm, M⟩ := S.init.ex
  have b := Fm.binds (ps := ["self"]) fun _ _ _ _ _ _ us hl => match us, hl with | [_], _ => rfl
  exact ⟨ps_set hN hi hx (pe_make0 ⟨S.mks, M.at_, M.fn, S.kp⟩ (ok_init Fm S) hr hg S.mgC b .nil pass0) hs hf, dv_newSto⟩
/-! ### store.make(t, head) -/
def dMake (we : DT) (wa : DTA) : DTS := fun ρ k => we ρ fun d => ∃ s, ρ.sto = some s ∧ d = .a (.ref s.p) ∧ s.mine = true ∧ wa ρ fun ds => ∃ (t : Str) (ys : List Str), ds = [sD t, tS ys] ∧ ys.Nodup ∧ ys.length < 3000 ∧ t ∉ s.ts ∧ s.ts.length ≤ 1000 ∧
  k.nx ⟨ρ.sl, ρ.own, some { s with ts := s.ts ++ [t], hs := s.hs ++ [tS ys] }⟩
theorem ds_make {pl : Sem Bool} (S : StTxt X.K X.mg C) (T : Txt X.mg) (hr : Room 1 X.A) {a b : Expr} (he : DE X C e te we) (ha : DAn X C [a, b] ta wa)
    (hst : starEach [a, b] X.env = (false, eval a X.env) :: starEach [b] X.env := by rfl) (hpl : (backTo cpos (starEach [b] X.env)).any (·.1) = false := by rfl)
    (ht : eval (.Call (.Attribute e "make" apos) [a, b] [] cpos) X.env = (do
      let o ← eval e X.env
      standAt apos.atName
      let (g, one) ← holding [o] (getMethod o "make" pl)
      callWith cpos g one (backTo cpos (starEach [a, b] X.env)) (backToKw cpos (keywordEach [] X.env))) := by rfl)
    (hs : swapsWith (.Call (.Attribute e "make" apos) [a, b] [] cpos) none pos.line X.env = pure false := by rfl) :
    DS X C (.Expr (.Call (.Attribute e "make" apos) [a, b] [] cpos) pos) (tDrop (tMeth C "make" (spMake C X.K) [] E0 te ta)) (dMake we wa) := by
  obtain ⟨f, fd, Fm, M⟩ := S.make.ex
  have bi := Fm.binds (ps := ["self", "table", "head"]) fun _ _ _ _ _ _ us hl => match us, hl with | [_, _, _], _ => rfl
  refine ⟨ps_expr (pe_meth (pl := pl) he.pe S.cl M (ok_make Fm S T) hr bi .nil pass0 ha.pa hst hpl ht) hs, fun F0 H0 F H σ ρ k E en h ok => ?_⟩
  refine he.dv _ _ _ _ _ _ _ _ en h fun d v F1 H1 x1 i1 ⟨s, hs, ed, hm, h⟩ => ?_
  subst ed
  cases i1
  obtain ⟨dx0, _, _, _, _, h10, _⟩ := sto_is (en.grow x1) hs
  refine ⟨s.p, dx0, _, rfl, h10, rfl, ?_⟩
  refine ha.dv _ _ _ _ _ _ _ _ (en.grow x1) h fun ds vs F2 H2 x2 _ i2 ⟨t, ys, eds, nd, hz, hn, hle, hk⟩ => ?_
  subst eds
  have en2 := (en.grow x1).grow x2
  obtain ⟨dx, am, as, xs, zs, h1, h2, h3, ne, l1, l2, f1, f2, f3, g1, g2, m⟩ := sto_is en2 hs
  obtain ⟨v1, r1, rfl, j1, j2⟩ := i2
  obtain ⟨v2, r2, rfl, j3, j4⟩ := j2
  cases j4
  cases j1
  obtain ⟨l, us, rfl, j5, j6⟩ := j3
  have eu := strsD_is j6
  subst eu
  refine ⟨s.p, am, as, l, _, _, t, ys, rfl, ⟨⟨dx, h1⟩, h2, h3, ne⟩, (j5.up en2.sm).sq, nd, hz, kvz_none l1 hn, by rw [kvz_len l1]; exact hle, fun H' sH => ?_⟩
  have x3 : Ext F2 H2 F2 H' := ⟨Same.refl F2, sH, en2.sm.trans sH, fun _ _ e => .inl e⟩
  have en3 := en2.grow x3
  rw [kvz_put l1 hn]
  obtain ⟨m1, m2, m3⟩ := m hm
  refine ok.nx F2 _ _ _ (env_write en3 f2 m2 (fun xs z => by rw [sH _ _ h2] at z; cases z) (s' := some { s with ts := s.ts ++ [t], hs := s.hs ++ [tS ys] }) ?_) hk
  have npm : s.p ≠ am := ne_of h1 h2 (by intro z; cases z)
  refine ⟨dx, am, as, xs ++ [.ref l], zs, by rw [upd_ne npm]; exact sH _ _ h1, upd_same, by rw [upd_ne ne.symm]; exact sH _ _ h3, ne, by simp [l1], l2, f1, f2, f3, g1.append (.cons ⟨l, _, rfl, j5, j6⟩ .nil), g2, m⟩
/-! ### store.put(t, name, row) -/
def dPutS (we : DT) (wa : DTA) : DTS := fun ρ k => we ρ fun d => ∃ s, ρ.sto = some s ∧ d = .a (.ref s.p) ∧ s.mine = true ∧ wa ρ fun ds => ∃ (t n : Str) (hd : List Str) (row : List V), ds = [sD t, sD n, tV row] ∧ dfind s.ts s.hs t = some (tS hd) ∧ row.length = hd.length ∧ n ∉ s.ns ∧ s.ns.length ≤ 1000 ∧
  k.nx ⟨ρ.sl, ρ.own, some { s with ns := s.ns ++ [n], rs := s.rs ++ [.tup [sD t, tV row]] }⟩
theorem ds_putS {pl : Sem Bool} (S : StTxt X.K X.mg C) (T : Txt X.mg) (hr : Room 1 X.A) {a b c : Expr} (he : DE X C e te we) (ha : DAn X C [a, b, c] ta wa)
    (hst : starEach [a, b, c] X.env = (false, eval a X.env) :: starEach [b, c] X.env := by rfl) (hpl : (backTo cpos (starEach [b, c] X.env)).any (·.1) = false := by rfl)
    (ht : eval (.Call (.Attribute e "put" apos) [a, b, c] [] cpos) X.env = (do
      let o ← eval e X.env
      standAt apos.atName
      let (g, one) ← holding [o] (getMethod o "put" pl)
      callWith cpos g one (backTo cpos (starEach [a, b, c] X.env)) (backToKw cpos (keywordEach [] X.env))) := by rfl)
    (hs : swapsWith (.Call (.Attribute e "put" apos) [a, b, c] [] cpos) none pos.line X.env = pure false := by rfl) :
    DS X C (.Expr (.Call (.Attribute e "put" apos) [a, b, c] [] cpos) pos) (tDrop (tMeth C "put" (spPut C X.K) [] E0 te ta)) (dPutS we wa) := by
  obtain ⟨f, fd, Fm, M⟩ := S.put.ex
  have bi := Fm.binds (ps := ["self", "table", "name", "row"]) fun _ _ _ _ _ _ us hl => match us, hl with | [_, _, _, _], _ => rfl
  refine ⟨ps_expr (pe_meth (pl := pl) he.pe S.cl M (ok_put Fm S T) hr bi .nil pass0 ha.pa hst hpl ht) hs, fun F0 H0 F H σ ρ k E en h ok => ?_⟩
  refine he.dv _ _ _ _ _ _ _ _ en h fun d v F1 H1 x1 i1 ⟨s, hs, ed, hm, h⟩ => ?_
  subst ed
  cases i1
  obtain ⟨dx0, _, _, _, _, h10, _⟩ := sto_is (en.grow x1) hs
  refine ⟨s.p, dx0, _, rfl, h10, rfl, ?_⟩
  refine ha.dv _ _ _ _ _ _ _ _ (en.grow x1) h fun ds vs F2 H2 x2 _ i2 ⟨t, n, hd, row, eds, hf, hz, hn, hle, hk⟩ => ?_
  subst eds
  have en2 := (en.grow x1).grow x2
  obtain ⟨dx, am, as, xs, zs, h1, h2, h3, ne, l1, l2, f1, f2, f3, g1, g2, m⟩ := sto_is en2 hs
  obtain ⟨v1, r1, rfl, j1, j2⟩ := i2
  obtain ⟨v2, r2, rfl, j3, j4⟩ := j2
  obtain ⟨v3, r3, rfl, j5, j6⟩ := j4
  cases j6
  cases j1
  cases j3
  obtain ⟨lr, us, rfl, j7, j8⟩ := j5
  have eu : us = row := IsL.scal_eq j8
  subst eu
  obtain ⟨hv, e1, e2⟩ := kvz_find l1 g1 hf
  obtain ⟨l, ws, rfl, k1, k2⟩ := e2
  have ew := strsD_is k2
  subst ew
  refine ⟨s.p, am, as, l, lr, _, _, t, n, _, us, rfl, ⟨⟨dx, h1⟩, h2, h3, ne⟩, e1, (k1.up en2.sm).sq, (j7.up en2.sm).sq, by rw [List.length_map]; exact hz, kvz_none l2 hn, by rw [kvz_len l2]; exact hle, fun u o hu o1 o2 => ?_⟩
  have x3 := Ext.new (o := .frz o (.tup [.str t, .ref lr])) en2.sm hu
  have en3 := en2.grow x3
  have sH : Same H2 (upd H2 u (.frz o (.tup [.str t, .ref lr]))) := same_new hu
  have nF : ∀ {c : Addr} {ob : HO}, H2 c = some ob → F2 c = none → upd F2 u (.frz o (.tup [.str t, .ref lr])) c = none := fun {c ob} z f => by rw [upd_ne (ne_of_none z hu)]; exact f
  have IU : Is X.K (upd F2 u (.frz o (.tup [.str t, .ref lr]))) (.tup [sD t, tV us]) (.ref u) :=
    ⟨u, _, rfl, ⟨o, upd_same, o1, o2⟩, .cons rfl (.cons (Is.mono x3.f (tV us) (.ref lr) ⟨lr, us, rfl, j7, j8⟩) .nil)⟩
  rw [kvz_put l2 hn]
  obtain ⟨m1, m2, m3⟩ := m hm
  refine ok.nx _ _ _ _ (env_write en3 (nF h3 f3) m3 (fun xs z => by rw [sH _ _ h3] at z; cases z) (s' := some { s with ns := s.ns ++ [n], rs := s.rs ++ [.tup [sD t, tV us]] }) ?_) hk
  have nps : s.p ≠ as := ne_of h1 h3 (by intro z; cases z)
  refine ⟨dx, am, as, xs, zs ++ [.ref u], by rw [upd_ne nps]; exact sH _ _ h1, by rw [upd_ne ne]; exact sH _ _ h2, upd_same, ne, l1, by simp [l2], nF h1 f1, nF h2 f2, nF h3 f3, IsL.mono x3.f _ _ g1, (IsL.mono x3.f _ _ g2).append (.cons IU .nil), m⟩
/-! ### store.strike(name) -/
def dStrike (we wn : DT) : DTS := fun ρ k => we ρ fun d => ∃ hs st p, ρ.sto = some (stoOf hs st true p) ∧ d = .a (.ref p) ∧ wn ρ fun y => ∃ n : Str, y = sD n ∧ n ∈ st.map (·.name) ∧ k.nx ⟨ρ.sl, ρ.own, some (stoOf hs (wo n st) true p)⟩
theorem ds_strike {pl : Sem Bool} (S : StTxt X.K X.mg C) (T : Txt X.mg) (hr : Room 1 X.A) {a : Expr} {tn : TE} {wn : DT} (he : DE X C e te we) (ha : DE X C a tn wn)
    (hst : starEach [a] X.env = (false, eval a X.env) :: starEach [] X.env := by rfl) (hpl : (backTo cpos (starEach [] X.env)).any (·.1) = false := by rfl)
    (ht : eval (.Call (.Attribute e "strike" apos) [a] [] cpos) X.env = (do
      let o ← eval e X.env
      standAt apos.atName
      let (g, one) ← holding [o] (getMethod o "strike" pl)
      callWith cpos g one (backTo cpos (starEach [a] X.env)) (backToKw cpos (keywordEach [] X.env))) := by rfl)
    (hs : swapsWith (.Call (.Attribute e "strike" apos) [a] [] cpos) none pos.line X.env = pure false := by rfl) :
    DS X C (.Expr (.Call (.Attribute e "strike" apos) [a] [] cpos) pos) (tDrop (tMeth C "strike" (spStrike C) [] E0 te (tCons tn tNil))) (dStrike we wn) := by
  obtain ⟨f, fd, Fm, M⟩ := S.strike.ex
  have bi := Fm.binds (ps := ["self", "name"]) fun _ _ _ _ _ _ us hl => match us, hl with | [_, _], _ => rfl
  refine ⟨ps_expr (pe_meth (pl := pl) he.pe S.cl M (ok_strike Fm S T) hr bi .nil pass0 (pa_cons ha.pe pa_nil hst) hst hpl ht) hs, fun F0 H0 F H σ ρ k E en h ok => ?_⟩
  refine he.dv _ _ _ _ _ _ _ _ en h fun d v F1 H1 x1 i1 ⟨hs, st, p, hso, ed, h⟩ => ?_
  subst ed
  cases i1
  obtain ⟨dx0, _, _, _, _, h10, _⟩ := sto_is (en.grow x1) hso
  refine ⟨p, dx0, _, rfl, h10, rfl, ?_⟩
  refine ha.dv _ _ _ _ _ _ _ _ (en.grow x1) h fun y vy F2 H2 x2 i2 ⟨n, ey, hn, hk⟩ => ?_
  subst ey
  cases i2
  have en2 := (en.grow x1).grow x2
  obtain ⟨dx, am, as, xs, zs, h1, h2, h3, ne, l1, l2, f1, f2, f3, g1, g2, m⟩ := sto_is en2 hso
  have there : ∃ v, valV (kvz (st.map (·.name)) zs) (Sum.inr n : Key) = some v := by
    have e := kvz_val (ks := st.map fun r : Rw => r.name) (xs := zs) l2 n
    have c : (st.map fun r : Rw => r.name).contains n = true := by simpa using hn
    rw [c] at e
    exact Option.isSome_iff_exists.mp e
  obtain ⟨v, hv⟩ := there
  refine ⟨p, am, as, _, _, n, v, rfl, ⟨⟨dx, h1⟩, h2, h3, ne⟩, hv, ?_⟩
  obtain ⟨ws, e1, e2, e3⟩ := kvz_drop n (st := st) g2
  obtain ⟨m1, m2, m3⟩ := m rfl
  have nps : p ≠ as := ne_of h1 h3 (by intro z; cases z)
  refine ok.nx F2 _ _ _ (env_write en2 f3 m3 (fun xs z => by rw [h3] at z; cases z) (s' := some (stoOf hs (wo n st) true p)) ?_) hk
  refine ⟨dx, am, as, xs, ws, (upd_ne nps).trans h1, (upd_ne ne).trans h2, upd_same.trans (congrArg (fun z => some (HO.dK z)) e1), ne, l1, by show ((wo n st).map _).length = _; rw [List.length_map]; exact e2, f1, f2, f3, g1, e3, m⟩
end
end Wh

/-! # try: spot = store.row_of(..) except NoName: return None -/
namespace Wh
open PySem L2
def tMethX (C : Addr) (m : Str) (sp : Sp) (E : L2.St → XK) (ta : TE) (t : TA) : TE := fun σ H Q => ta σ H fun x H1 => ∃ a dx fs, x = .ref a ∧ H1 a = some (.ins C dx fs) ∧ fs.lookup m = none ∧ t σ H1 fun vs H2 => sp (x :: vs) H2 Q (E σ)
section
variable {X : Cx} {CX : CXT} {k : Nat} {f C : Addr} {fd : FuncData} {ps : List Str} {sp : Sp} {E : L2.St → XK} {m : Str} {pos apos : Pos} {e o : Expr} {es : List Expr} {ta : TE} {t : TA}
theorem pe_methX {pl : Sem Bool} (he : PE X o ta) (c : Cls X.K C) (hm : Meth X.K C m f) (Fk : FnOk X.prog X.w X.K X.mg X.base CX k f fd ps sp) (hr : Room k X.A) (hb : Binds X.K fd ps []) (hx : ∀ σ, PassesAt CX X σ (E σ)) (ha : PA X (e :: es) t)
    (hst : starEach (e :: es) X.env = (false, eval e X.env) :: starEach es X.env := by rfl) (hpl : (backTo pos (starEach es X.env)).any (·.1) = false := by rfl)
    (ht : eval (.Call (.Attribute o m apos) (e :: es) [] pos) X.env = (do
      let v ← eval o X.env
      standAt apos.atName
      let (g, one) ← holding [v] (getMethod v m pl)
      callWith pos g one (backTo pos (starEach (e :: es) X.env)) (backToKw pos (keywordEach [] X.env))) := by rfl) :
    PE X (.Call (.Attribute o m apos) (e :: es) [] pos) (tMethX C m sp E ta t) := by
  refine ⟨fun pins s σ H Q I h => ?_⟩
  refine PySem.W.methodCall_KW (pl := pl) (thn (he.run pins s σ H _ I h) fun u s1 ⟨x, H1, I1, rx, a, dx, fs, ex, ea, l, q⟩ => ?_) ht
  subst ex
  obtain rfl : u = Value.ref a := rx
  refine getmeth_ok I1 ea c hm l (PySem.W.callWith_K (first := [.ref a]) (h₀ := X.base) I.ok.mod.kin hm.kp (thn (ha.run pos pins s1 σ H1 _ I1 q) fun us s2 ⟨vs, H2, I2, r, q2⟩ => ⟨I2.kIn, ?_⟩) hst hpl)
  exact run_fnS (us := .ref a :: us) (vs := .ref a :: vs) Fk hr hb (hx σ) I2 (.cons rfl r) q2
end
def dTry (j i : Nat) (we : DT) : DTS := fun ρ k => dVar j ρ fun d => ∃ s, ρ.sto = some s ∧ d = .a (.ref s.p) ∧ s.ns.length = s.rs.length ∧ we ρ fun y => ∃ n : Str, y = sD n ∧ (∀ r, dfind s.ns s.rs n = some r → k.nx (ρ.put i r)) ∧ (dfind s.ns s.rs n = none → k.rt (.a .non))
theorem dfind_none : ∀ {ks : List Str} {ds : List D} {z : Str}, ks.length = ds.length → dfind ks ds z = none → z ∉ ks
  | [], _, _, _, _ => fun h => nomatch h
  | k :: ks, [], _, h, _ => by simp at h
  | k :: ks, d :: ds, z, h, e => by
    unfold dfind at e
    by_cases c : k = z
    · rw [if_pos c] at e; cases e
    · rw [if_neg c] at e
      intro q
      rcases List.mem_cons.mp q with q | q
      · exact c q.symm
      · exact dfind_none (by simpa using h) e q
section
variable {X : Cx} {C N : Addr} {K : PySem.W.Frag} {e : Expr} {te : TE} {we : DT}
abbrev exW (K : PySem.W.Frag) (N : Addr) (D : Ends) : WX := wOnly K (.ref N) (fun _ _ _ => tRet (tC .non)) (fun _ _ _ _ => False) D
theorem dv_try {i j : Nat} (ex : PySem.W.exmOne K (.ref N) (.ref N) = some true) (he : DV K C te we) : DVS K C (fun D σ H => tAsg (tMethX C "row_of" (spRow C N) (WE (exW K N D)) (tVar j) (tCons te tNil)) (gName i) D σ H) (dTry j i we) := by
  intro F0 H0 F H σ ρ k E en h ok
  show tVar j σ H fun x H1 => ∃ a dx fs, x = .ref a ∧ H1 a = some (.ins C dx fs) ∧ fs.lookup ("row_of" : Str) = none ∧ te σ H1 fun y H2 => spRow C N (x :: [y]) H2 (fun v H3 => gName i v σ H3 E.nx) (WE (exW K N E) σ)
  refine dv_var (K := K) (C := C) j _ _ _ _ _ _ _ _ en h fun d v F1 H1 x1 i1 ⟨s, hs, ed, hl, h⟩ => ?_
  subst ed
  cases i1
  obtain ⟨dx0, _, _, _, _, h10, _⟩ := sto_is (en.grow x1) hs
  refine ⟨s.p, dx0, _, rfl, h10, rfl, ?_⟩
  refine he _ _ _ _ _ _ _ _ (en.grow x1) h fun y vy F2 H2 x2 i2 ⟨n, ey, h1', h2'⟩ => ?_
  subst ey
  cases i2
  have en2 := (en.grow x1).grow x2
  obtain ⟨dx, am, as, xs, ys, h1, h2, h3, ne, l1, l2, f1, f2, f3, g1, g2, m⟩ := sto_is en2 hs
  refine ⟨s.p, am, as, _, _, n, rfl, ⟨⟨dx, h1⟩, h2, h3, ne⟩, fun v hv => ?_, fun hv => ?_⟩
  · cases hd : dfind s.ns s.rs n with
    | none =>
      have := kvz_none l2 (dfind_none hl hd)
      rw [this] at hv
      cases hv
    | some r =>
      obtain ⟨x, e1, e2⟩ := kvz_find l2 g2 hd
      rw [hv] at e1
      cases e1
      exact ok.nx F2 H2 _ _ (env_put en2 i e2) (h1' r hd)
  · cases hd : dfind s.ns s.rs n with
    | some r =>
      obtain ⟨x, e1, e2⟩ := kvz_find l2 g2 hd
      rw [hv] at e1
      cases e1
    | none => exact ⟨true, ex, fun _ a ha => ok.rt F2 H2 (.a .non) .non en2.ext rfl (h2' hd), fun z => Bool.noConfusion z⟩
theorem ds_tryRow {pl : Sem Bool} {i j : Nat} {x : Str} {o : Expr} {p0 spos apos cpos np pos' pos rp cp : Pos} {kc : Nat} (S : StTxt X.K X.mg C) (NN : NoN X.K X.mg N) (hr : Room 1 X.A)
    (ho : ∀ pn xe, PE (X.tr pn xe) o (tVar j)) (ha : ∀ pn xe, ∃ te, DE (X.tr pn xe) C e te we) (hN : X.N.Nodup)
    (hi : X.N[i]? = some x := by rfl) (hs1 : X.stack = X.env :: X.outer := by rfl) (hs2 : X.env.frame = some X.env.locals := by rfl) (hg : Gl X "NoName" := by rfl)
    (hst : starEach [e] X.env = (false, eval e X.env) :: starEach [] X.env := by rfl) (hpl : (backTo cpos (starEach [] X.env)).any (·.1) = false := by rfl)
    (ht : eval (.Call (.Attribute o "row_of" apos) [e] [] cpos) X.env = (do
      let v ← eval o X.env
      standAt apos.atName
      let (g, one) ← holding [v] (getMethod v "row_of" pl)
      callWith cpos g one (backTo cpos (starEach [e] X.env)) (backToKw cpos (keywordEach [] X.env))) := by rfl)
    (hx : Loc X.env.scope x := by first | exact Or.inl rfl | exact Or.inr rfl) (hsw : swapsWith (.Call (.Attribute o "row_of" apos) [e] [] cpos) (some (.Name x p0)) spos.line X.env = pure false := by rfl) (hf : X.fn x = true ∨ X.env.scope.names.lookup x = some .local := by first | exact .inl rfl | exact .inr rfl) :
    DS X C (.Try [.Assign [.Name x p0] (.Call (.Attribute o "row_of" apos) [e] [] cpos) spos] [.ExceptHandler (some (.Name "NoName" np)) none [.Return (some (.Constant .none kc cp)) rp] pos'] [] [] pos)
      (fun D σ H => tAsg (tMethX C "row_of" (spRow C N) (WE (exW X.K N D)) (tVar j) (tCons (tOf X.K C we) tNil)) (gName i) D σ H) (dTry j i we) := by
  obtain ⟨f, fd, Fm, M⟩ := S.row.ex
  have bi := Fm.binds (ps := ["self", "name"]) fun _ _ _ _ _ _ us hl => match us, hl with | [_, _], _ => rfl
  refine ⟨ps_try_only (tb := fun W => tAsg (tMethX C "row_of" (spRow C N) (WE W) (tVar j) (tCons (tOf X.K C we) tNil)) (gName i)) (ts := fun _ _ _ => tRet (tC .non)) (Wout := fun _ _ _ _ => False) hs1 hs2 ⟨hg, by decide, .inl NN.g⟩ takes0 (fun W pn xe tk _ => ?_) (fun a oe cls d pn _ _ => pss_one (ps_ret pe_non)), dv_try NN.e (fun F0 H0 F H σ ρ k Q en h q => ⟨F0, H0, F, ρ, k, en, h, q⟩)⟩
  obtain ⟨te, h⟩ := ha pn xe
  have hp : PE (X.tr pn xe) e (tOf X.K C we) := h.of.pe
  exact pss_one (ps_set (X := X.tr pn xe) hN hi hx (pe_methX (X := X.tr pn xe) (pl := pl) (ho pn xe) S.cl M (ok_row Fm S NN) hr bi (fun σ => passAt tk σ) (pa_cons hp pa_nil hst) hst hpl ht) hsw hf)
end
end Wh

namespace Wh
open PySem L2
/-- a promise with a store beside the arguments -/
def fsS {ι : Type} (sto : ι → Hs × List Rw) (args : ι → Addr → List D) (pre : ι → Prop) (out : ι → D → Prop) : FS := ⟨fun so ds k => ∃ i p, so = some (stoOf (sto i).1 (sto i).2 false p) ∧ ds = args i p ∧ pre i ∧ ∀ d, out i d → k d, fun _ _ _ _ h ⟨i, p, e, e2, q, r⟩ => ⟨i, p, e, e2, q, fun d o => h d (r d o)⟩⟩
theorem fsS_len {ι : Type} {sto : ι → Hs × List Rw} {args : ι → Addr → List D} {pre : ι → Prop} {out : ι → D → Prop} {n : Nat} (h : ∀ i p, (args i p).length = n) : ∀ so ds k, (fsS sto args pre out).run so ds k → ds.length = n := fun _ _ _ ⟨i, p, _, e, _, _⟩ => by rw [e]; exact h i p
/-! ### what stands, by name -/
theorem dfind_st (n : Str) : ∀ st : List Rw, dfind (st.map (·.name)) (st.map rwD) n = (st.find? fun r => decide (r.name = n)).map rwD
  | [] => rfl
  | r :: st => by
    rw [List.map_cons, List.map_cons, List.find?_cons]
    unfold dfind
    by_cases c : r.name = n
    · rw [if_pos c, decide_eq_true c]; rfl
    · rw [if_neg c, decide_eq_false c]
      exact dfind_st n st
theorem spot_name {n m : Str} : ∀ {st : List Rw}, (st.map (·.name)).Nodup → spot st n m = match st.find? (fun r => decide (r.name = m)) with
    | some r => if r.tab = n then some r.row else none
    | none => none
  | [], _ => rfl
  | r :: st, h => by
    rw [List.map_cons, List.nodup_cons] at h
    have ih := spot_name (n := n) (m := m) h.2
    unfold spot at ih ⊢
    rw [List.find?_cons, List.find?_cons]
    by_cases c : r.name = m
    · rw [decide_eq_true c, Bool.and_true]
      by_cases d : r.tab = n
      · rw [decide_eq_true d]; show some r.row = if r.tab = n then some r.row else none; rw [if_pos d]
      · rw [decide_eq_false d]
        have no : st.find? (fun o => decide (o.tab = n) && decide (o.name = m)) = none := by
          refine List.find?_eq_none.mpr fun o ho z => ?_
          simp only [Bool.and_eq_true, decide_eq_true_eq] at z
          exact h.1 (List.mem_map.mpr ⟨o, ho, by rw [z.2, c]⟩)
        show (st.find? _).map _ = if r.tab = n then some r.row else none
        rw [no, if_neg d]
        rfl
    · rw [decide_eq_false c, Bool.and_false]
      exact ih
section
variable {P : Program} {w : World} {K : PySem.W.Frag} {mg : Str → Option Value} {base : Heap} {C N : Addr}
/-! ### head_under -/
def fsUnder (n : Nat) : FS := fsS (ι := Qn × Hs × List Rw) (fun ⟨_, hs, st⟩ => (hs, st)) (fun ⟨q, _, _⟩ p => [encQ q, .a (.ref p)]) (fun ⟨q, hs, _⟩ => q.dep ≤ n ∧ Ok hs q) (fun ⟨q, hs, _⟩ d => d = tS (hdQ hs q))
abbrev s_head_under : Stmt := top 29
theorem sc_head_under : FnScope ["question", "store", "word", "head", "column"] ["question", "store"] (defScope s_head_under) := ⟨rfl, rfl, rfl, by decide +kernel, rfl, by decide +kernel, by decide +kernel⟩
theorem c_head_under (T : Txt mg) (S : StTxt K mg C) (Df : DefAt K mg "head_under" s_head_under) (c_joined_head : Callee P w K mg base C 1 "joined_head" ["head", "other"] fsJoinH) : ∀ n, Callee P w K mg base C (n + 2) "head_under" ["question", "store"] (fsUnder n)
  | 0 => by
    refine def_ok Df sc_head_under (fun _ _ _ _ _ _ us hl => match us, hl with | [_, _], _ => rfl) (fsS_len fun _ _ => rfl) fun fa cdv A outer s H E hr => ⟨_, _, dss_never, ?_⟩
    rintro so ds k ⟨⟨q, hs, st⟩, p, rfl, rfl, hp, hk⟩
    have hn := hp.1
    cases q <;> exact absurd hn (by simp [Qn.dep])
  | n + 1 => by
    have c := c_head_under T S Df c_joined_head n
    refine def_ok Df sc_head_under (fun _ _ _ _ _ _ us hl => match us, hl with | [_, _], _ => rfl) (fsS_len fun _ _ => rfl) fun fa cdv A outer s H E hr => ⟨_, _,
      (dss_cons (ds_set (i := 2) (de_ixJ (hu_of hr) (de_var 0) de_int) sc_head_under.nd)
    (dss_cons (ds_if (dp_cmp (p_eq hr.units) (de_var 2) de_str) (dss_one (ds_ret (de_ixJ (hu_of hr) (de_heads S T (hr.mono (by omega)) (de_var 1)) (de_ixJ (hu_of hr) (de_var 0) de_int)))) dss_nil)
    (dss_cons (ds_if (dp_cmp (p_eq hr.units) (de_var 2) de_str) (dss_one (ds_ret (de_ixJ (hu_of hr) (de_var 0) de_int))) dss_nil)
    (dss_cons (ds_if (dp_cmp (p_eq hr.units) (de_var 2) de_str) (dss_one (ds_ret (de_call c_joined_head (hr.mono (by omega)) (da_cons (de_call c (hr.mono (Nat.le_refl _)) (da_cons (de_ixJ (hu_of hr) (de_var 0) de_int) (da_cons (de_var 1) da_nil))) (da_cons (de_call c (hr.mono (Nat.le_refl _)) (da_cons (de_ixJ (hu_of hr) (de_var 0) de_int) (da_cons (de_var 1) da_nil))) da_nil))))) dss_nil)
    (dss_cons (ds_if (dp_cmp (p_eq hr.units) (de_var 2) de_str) (dss_one (ds_ret (de_call c (hr.mono (Nat.le_refl _)) (da_cons (de_ixJ (hu_of hr) (de_var 0) de_int) (da_cons (de_var 1) da_nil))))) dss_nil)
    (dss_cons (ds_set (i := 3) (de_call c (hr.mono (Nat.le_refl _)) (da_cons (de_ixJ (hu_of hr) (de_var 0) (de_neg de_int)) (da_cons (de_var 1) da_nil))) sc_head_under.nd)
    (dss_cons (ds_if (dp_cmp (p_eq hr.units) (de_var 2) de_str) (dss_one (ds_set (i := 3) (de_callT c_tuple T.m_tuple boot_tuple (da_cons (de_lcX (own := [("column", 4)]) (j := 4) rfl sc_head_under.nd (di_seq (de_var 3)) (blkOk_by (own := [("column", 4)]) (N := ["question", "store", "word", "head", "column"]) (sc := defScope s_head_under) (by decide +kernel)) (by decide) (fun _ _ _ _ _ => pg_name (i := 4) sc_head_under.nd rfl (Or.inl rfl)) (fun _ _ _ _ _ => ⟨_, dts_nil⟩) (fun _ _ _ _ _ => ⟨_, (de_if (dp_cmp (p_eq hr.units) (de_var 4) (de_ixJ (hu_of hr) (de_var 0) de_int)) (de_ixJ (hu_of hr) (de_var 0) de_int) (de_var 4))⟩)) da_nil)) sc_head_under.nd)) dss_nil)
    (dss_one (ds_ret (de_var 3)))))))))), ?_⟩
    rintro so ds k ⟨⟨q, hs, st⟩, p, rfl, rfl, ⟨hn, ok⟩, hk⟩
    cases q with
    | table m =>
      obtain ⟨h, e, _, _⟩ := id ok
      obtain ⟨f1, f2⟩ := hs_find e
      have e2 : hdQ hs (.table m) = h := by show (hs.lookup m).getD [] = h; rw [e]; rfl
      refine tix (j := 0) rfl rfl (eq_t rfl rfl (yes rfl ⟨_, rfl, rfl, tix (j := 1) rfl rfl (dix f1 (hk _ ?_))⟩))
      show tS h = tS (hdQ hs (.table m))
      rw [e2]
    | keep cs q => exact tix (j := 0) rfl rfl (eq_t rfl rfl (no rfl (eq_t rfl rfl (yes rfl (tix (j := 1) rfl rfl (hk _ rfl))))))
    | join a b =>
      simp only [Qn.dep] at hn
      obtain ⟨g1, g2⟩ := ok_head ok.1
      obtain ⟨g3, g4⟩ := ok_head ok.2.1
      refine tix (j := 0) rfl rfl (eq_t rfl rfl (no rfl (eq_t rfl rfl (no rfl (eq_t rfl rfl (yes rfl (tix (j := 1) rfl rfl ?_)))))))
      refine ⟨(a, hs, st), p, rfl, rfl, ⟨by omega, ok.1⟩, ?_⟩
      rintro d rfl
      refine tix (j := 2) rfl rfl ⟨(b, hs, st), p, rfl, rfl, ⟨by omega, ok.2.1⟩, ?_⟩
      rintro d rfl
      refine ⟨(hdQ hs a, hdQ hs b), rfl, ⟨Nat.le_trans g2 (by decide), Nat.le_trans g4 (by decide)⟩, ?_⟩
      rintro d rfl
      exact hk _ rfl
    | put a b =>
      simp only [Qn.dep] at hn
      refine tix (j := 0) rfl rfl (eq_t rfl rfl (no rfl (eq_t rfl rfl (no rfl (eq_t rfl rfl (no rfl (eq_t rfl rfl (yes rfl (tix (j := 1) rfl rfl ?_)))))))))
      exact ⟨(a, hs, st), p, rfl, rfl, ⟨by omega, ok.1⟩, fun d e => hk d e⟩
    | pick t q =>
      simp only [Qn.dep] at hn
      refine tix (j := 0) rfl rfl (eq_t rfl rfl (no rfl (eq_t rfl rfl (no rfl (eq_t rfl rfl (no rfl (eq_t rfl rfl (no rfl (tixL (Nat.succ_pos _) rfl ?_)))))))))
      refine ⟨(q, hs, st), p, rfl, rfl, ⟨by omega, ok.1⟩, ?_⟩
      rintro d rfl
      exact eq_t rfl rfl (no rfl (hk _ rfl))
    | call o m q =>
      simp only [Qn.dep] at hn
      obtain ⟨g1, g2⟩ := ok_head ok.1
      refine tix (j := 0) rfl rfl (eq_t rfl rfl (no rfl (eq_t rfl rfl (no rfl (eq_t rfl rfl (no rfl (eq_t rfl rfl (no rfl (tixL (Nat.succ_pos _) rfl ?_)))))))))
      refine ⟨(q, hs, st), p, rfl, rfl, ⟨by omega, ok.1⟩, ?_⟩
      rintro d rfl
      refine eq_t rfl rfl (yes rfl ⟨by rw [strsD_len]; omega, lc_strs (cs := hdQ hs q) (fun z => some (sD (if z = o then m else z))) ?_ ?_⟩)
      · intro z hz R acc hR
        refine tix (j := 1) rfl rfl (eq_s ?_)
        by_cases e1 : z = o
        · rw [if_pos e1] at hR
          exact (if_pos (by simp [e1])).mpr (tix (j := 2) rfl rfl hR)
        · rw [if_neg e1] at hR
          exact (if_neg (by simp [e1])).mpr hR
      · rw [call_fm]
        exact hk _ rfl
    | ring _ _ _ _ => exact ok.elim
/-! ### walk_table -/
def fsWt : FS := fsS (ι := Tr × Str × Hs × List Rw) (fun ⟨_, _, hs, st⟩ => (hs, st)) (fun ⟨t, n, _, _⟩ p => [encR t, sD n, .a (.ref p)]) (fun ⟨_, n, hs, st⟩ => Ok hs (.table n) ∧ (st.map (·.name)).Nodup) (fun ⟨t, n, hs, st⟩ d => d = encO (brg hs st t (.table n)))
abbrev s_walk_table : Stmt := top 27
theorem sc_walk_table : FnScope ["tree", "table", "store", "spot"] ["tree", "table", "store"] (defScope s_walk_table) := ⟨rfl, rfl, rfl, by decide +kernel, rfl, by decide +kernel, by decide +kernel⟩
theorem c_walk_table (T : Txt mg) (S : StTxt K mg C) (NN : NoN K mg N) (Df : DefAt K mg "walk_table" s_walk_table) : Callee P w K mg base C 2 "walk_table" ["tree", "table", "store"] fsWt := by
  refine def_ok Df sc_walk_table (fun _ _ _ _ _ _ us hl => match us, hl with | [_, _, _], _ => rfl) (fsS_len fun _ _ => rfl) fun fa cdv A outer s H E hr => ⟨_, _,
    (dss_cons (ds_if (dp_cmp (p_ne hr.units) (de_ixJ (hu_of hr) (de_var 0) de_int) de_str) (dss_one (ds_ret de_non)) dss_nil)
    (dss_cons (ds_tryRow S NN (hr.mono (by omega)) (fun _ _ => pv 2) (fun _ _ => ⟨_, (de_ixJ (hu_of hr) (de_var 0) de_int)⟩) (i := 3) (j := 2) sc_walk_table.nd)
    (dss_cons (ds_if (dp_cmp (p_ne hr.units) (de_ixJ (hu_of hr) (de_var 3) de_int) (de_var 1)) (dss_one (ds_ret de_non)) dss_nil)
    (dss_one (ds_ret (de_tup (da_cons (de_ixJ (hu_of hr) (de_heads S T (hr.mono (by omega)) (de_var 2)) (de_var 1)) (da_cons (de_ixJ (hu_of hr) (de_var 3) de_int) da_nil)))))))), ?_⟩
  rintro so ds k ⟨⟨t, n, hs, st⟩, p, rfl, rfl, ⟨ok, nd⟩, hk⟩
  refine enc_hd (eq_s ?_)
  by_cases h1 : tw t = "row"
  · obtain ⟨m, rfl⟩ := tw_row h1
    obtain ⟨h, e, _, _⟩ := id ok
    obtain ⟨f1, f2⟩ := hs_find e
    have ej : brg hs st (.row m) (.table n) = (spot st n m).map fun r => ((hs.lookup n).getD [], r) := rfl
    rw [spot_name nd] at ej
    refine no (by simp [h1]) ⟨_, rfl, rfl, ?_, tix (j := 1) rfl rfl ⟨m, rfl, ?_, ?_⟩⟩
    · show (st.map _).length = (st.map _).length
      rw [List.length_map, List.length_map]
    · intro r hr
      have hr : dfind (st.map (·.name)) (st.map rwD) m = some r := hr
      rw [dfind_st] at hr
      cases hf : st.find? (fun r => decide (r.name = m)) with
      | none => rw [hf] at hr; cases hr
      | some o =>
        rw [hf] at hr ej
        cases hr
        have ej : brg hs st (.row m) (.table n) = (if o.tab = n then some o.row else none).map fun r => ((hs.lookup n).getD [], r) := ej
        refine tix (j := 0) rfl rfl (eq_s ?_)
        by_cases c : o.tab = n
        · rw [if_pos c] at ej
          refine no (by simp [c]) ⟨_, rfl, rfl, dix f1 (tix (j := 1) rfl rfl (hk _ ?_))⟩
          show _ = encO (brg hs st (.row m) (.table n))
          rw [ej, e]
          rfl
        · rw [if_neg c] at ej
          refine yes (by simp [c]) (hk _ ?_)
          show _ = encO (brg hs st (.row m) (.table n))
          rw [ej]
          rfl
    · intro hn
      have hn : dfind (st.map (·.name)) (st.map rwD) m = none := hn
      rw [dfind_st] at hn
      cases hf : st.find? (fun r => decide (r.name = m)) with
      | some o => rw [hf] at hn; cases hn
      | none =>
        rw [hf] at ej
        refine hk _ ?_
        show _ = encO (brg hs st (.row m) (.table n))
        rw [ej]
        rfl
  · refine yes (by simp [h1]) (hk _ ?_)
    show _ = encO (brg hs st t (.table n))
    rw [brg_table_no h1]
    rfl
/-! ### walk_join, walk_put -/
abbrev WkI := Tr × Qn × Hs × List Rw
def wkP (n : Nat) : WkI → Prop := fun ⟨_, q, hs, st⟩ => q.dep ≤ n ∧ n ≤ 40 ∧ Ok hs q ∧ StOk hs st ∧ (st.map (·.name)).Nodup
def fsWalk (n : Nat) : FS := fsS (ι := WkI) (fun ⟨_, _, hs, st⟩ => (hs, st)) (fun ⟨t, q, _, _⟩ p => [encR t, encQ q, .a (.ref p)]) (wkP n) (fun ⟨t, q, hs, st⟩ d => d = encO (brg hs st t q))
def fsWalkJ (n : Nat) : FS := fsS (ι := (Tr × Tr) × (Qn × Qn) × Hs × List Rw) (fun ⟨_, _, hs, st⟩ => (hs, st)) (fun ⟨⟨t, u⟩, ⟨a, b⟩, _, _⟩ p => [encR (.join t u), encQ (.join a b), .a (.ref p)])
  (fun ⟨⟨t, u⟩, ⟨a, b⟩, hs, st⟩ => wkP n (t, a, hs, st) ∧ wkP n (u, b, hs, st) ∧ Ok hs (.join a b)) (fun ⟨⟨t, u⟩, ⟨a, b⟩, hs, st⟩ d => d = encO (brg hs st (.join t u) (.join a b)))
abbrev s_walk_join : Stmt := top 28
theorem sc_walk_join : FnScope ["tree", "question", "store", "one", "other", "row"] ["tree", "question", "store"] (defScope s_walk_join) := ⟨rfl, rfl, rfl, by decide +kernel, rfl, by decide +kernel, by decide +kernel⟩
theorem c_walk_join (T : Txt mg) (Df : DefAt K mg "walk_join" s_walk_join) {n l : Nat} (hl : 2 ≤ l) (c_joined_head : Callee P w K mg base C 1 "joined_head" ["head", "other"] fsJoinH) (c_join_rows : Callee P w K mg base C 2 "join_rows" ["one", "row", "other", "second"] fsJoinR)
    (c : Callee P w K mg base C l "walk" ["tree", "question", "store"] (fsWalk n)) : Callee P w K mg base C (l + 1) "walk_join" ["tree", "question", "store"] (fsWalkJ n) := by
  refine def_ok Df sc_walk_join (fun _ _ _ _ _ _ us hl => match us, hl with | [_, _, _], _ => rfl) (fsS_len fun _ _ => rfl) fun fa cdv A outer s H E hr => ⟨_, _,
    (dss_cons (ds_set (i := 3) (de_call c (hr.mono (Nat.le_refl _)) (da_cons (de_ixJ (hu_of hr) (de_var 0) de_int) (da_cons (de_ixJ (hu_of hr) (de_var 1) de_int) (da_cons (de_var 2) da_nil)))) sc_walk_join.nd)
    (dss_cons (ds_set (i := 4) (de_call c (hr.mono (Nat.le_refl _)) (da_cons (de_ixJ (hu_of hr) (de_var 0) de_int) (da_cons (de_ixJ (hu_of hr) (de_var 1) de_int) (da_cons (de_var 2) da_nil)))) sc_walk_join.nd)
    (dss_cons (ds_if ((dw_or (dp_cmp o_isN (de_var 3) de_non) (dw_or1 (dp_cmp o_isN (de_var 4) de_non))).dp) (dss_one (ds_ret de_non)) dss_nil)
    (dss_cons (ds_set (i := 5) (de_call c_join_rows (hr.mono hl) (da_cons (de_ixJ (hu_of hr) (de_var 3) de_int) (da_cons (de_ixJ (hu_of hr) (de_var 3) de_int) (da_cons (de_ixJ (hu_of hr) (de_var 4) de_int) (da_cons (de_ixJ (hu_of hr) (de_var 4) de_int) da_nil))))) sc_walk_join.nd)
    (dss_cons (ds_if (dp_cmp o_isN (de_var 5) de_non) (dss_one (ds_ret de_non)) dss_nil)
    (dss_one (ds_ret (de_tup (da_cons (de_call c_joined_head (hr.mono (by omega)) (da_cons (de_ixJ (hu_of hr) (de_var 3) de_int) (da_cons (de_ixJ (hu_of hr) (de_var 4) de_int) da_nil))) (da_cons (de_var 5) da_nil)))))))))), ?_⟩
  rintro so ds k ⟨⟨⟨t, u⟩, ⟨a, b⟩, hs, st⟩, p, rfl, rfl, ⟨p1, p2, ok⟩, hk⟩
  refine tix (j := 1) rfl rfl (tix (j := 1) rfl rfl ⟨(t, a, hs, st), p, rfl, rfl, p1, ?_⟩)
  rintro d rfl
  refine tix (j := 2) rfl rfl (tix (j := 2) rfl rfl ⟨(u, b, hs, st), p, rfl, rfl, p2, ?_⟩)
  rintro d rfl
  have so1 := p1.2.2.2.1
  have ej : brg hs st (.join t u) (.join a b) = (match brg hs st t a, brg hs st u b with
    | some x, some y => joinR x y
    | _, _ => none) := rfl
  cases ha : brg hs st t a with
  | none =>
    rw [ha] at ej
    exact yes rfl (hk _ (by show _ = encO (brg hs st (.join t u) (.join a b)); rw [ej]; rfl))
  | some x =>
    cases hb : brg hs st u b with
    | none =>
      rw [ha, hb] at ej
      exact yes rfl (hk _ (by show _ = encO (brg hs st (.join t u) (.join a b)); rw [ej]; rfl))
    | some y =>
      rw [ha, hb] at ej
      have ej : brg hs st (.join t u) (.join a b) = joinR x y := ej
      have i := brg_ok so1 a t x ok.1 ha
      have j := brg_ok so1 b u y ok.2.1 hb
      obtain ⟨g1, g2⟩ := ok_head ok.1
      obtain ⟨g3, g4⟩ := ok_head ok.2.1
      rw [← i.hd] at g2
      rw [← j.hd] at g4
      refine no rfl (tix (j := 0) rfl rfl (tix (j := 1) rfl rfl (tix (j := 0) rfl rfl (tix (j := 1) rfl rfl ⟨(x, y), rfl, ⟨i.len, j.len, by omega, by omega, i.ok, j.ok⟩, ?_⟩))))
      rintro d rfl
      cases hj : joinR x y with
      | none =>
        rw [hj] at ej
        refine yes rfl (hk _ ?_)
        show _ = encO (brg hs st (.join t u) (.join a b))
        rw [ej]
        rfl
      | some z =>
        have hz : z.1 = x.1 ++ joinX x.1 y.1 := by
          unfold joinR at hj
          split at hj
          · cases hj; rfl
          · cases hj
        rw [hj] at ej
        refine no rfl (tix (j := 0) rfl rfl (tix (j := 0) rfl rfl ⟨(x.1, y.1), rfl, ⟨by show x.1.length ≤ 100; omega, by show y.1.length ≤ 100; omega⟩, ?_⟩))
        rintro d rfl
        refine hk _ ?_
        show _ = encO (brg hs st (.join t u) (.join a b))
        rw [ej]
        show D.tup [tS (x.1 ++ joinX x.1 y.1), tV z.2] = D.tup [tS z.1, tV z.2]
        rw [hz]
def fsWalkP (n : Nat) : FS := fsS (ι := Tr × (Qn × Qn) × Hs × List Rw) (fun ⟨_, _, hs, st⟩ => (hs, st)) (fun ⟨t, ⟨a, b⟩, _, _⟩ p => [encR t, encQ (.put a b), .a (.ref p)])
  (fun ⟨t, ⟨a, b⟩, hs, st⟩ => a.dep ≤ n ∧ b.dep ≤ n ∧ n ≤ 40 ∧ Ok hs (.put a b) ∧ StOk hs st ∧ (st.map (·.name)).Nodup) (fun ⟨t, ⟨a, b⟩, hs, st⟩ d => d = encO (brg hs st t (.put a b)))
abbrev s_walk_put : Stmt := top 30
theorem sc_walk_put : FnScope ["tree", "question", "store", "other", "head"] ["tree", "question", "store"] (defScope s_walk_put) := ⟨rfl, rfl, rfl, by decide +kernel, rfl, by decide +kernel, by decide +kernel⟩
theorem c_walk_put (T : Txt mg) (Df : DefAt K mg "walk_put" s_walk_put) {n l : Nat} (hl : 42 ≤ l) (c_values_in : Callee P w K mg base C 1 "values_in" ["head", "row", "columns"] fsVals) (c_head_under : Callee P w K mg base C 42 "head_under" ["question", "store"] (fsUnder 40))
    (c : Callee P w K mg base C l "walk" ["tree", "question", "store"] (fsWalk n)) : Callee P w K mg base C (l + 1) "walk_put" ["tree", "question", "store"] (fsWalkP n) := by
  refine def_ok Df sc_walk_put (fun _ _ _ _ _ _ us hl => match us, hl with | [_, _, _], _ => rfl) (fsS_len fun _ _ => rfl) fun fa cdv A outer s H E hr => ⟨_, _,
    (dss_cons (ds_if (dp_cmp (p_eq hr.units) (de_ixJ (hu_of hr) (de_var 0) de_int) de_str) (dss_one (ds_ret (de_call c (hr.mono (Nat.le_refl _)) (da_cons (de_ixJ (hu_of hr) (de_var 0) de_int) (da_cons (de_ixJ (hu_of hr) (de_var 1) de_int) (da_cons (de_var 2) da_nil)))))) dss_nil)
    (dss_cons (ds_if (dp_cmp (p_ne hr.units) (de_ixJ (hu_of hr) (de_var 0) de_int) de_str) (dss_one (ds_ret de_non)) dss_nil)
    (dss_cons (ds_set (i := 3) (de_call c (hr.mono (Nat.le_refl _)) (da_cons (de_ixJ (hu_of hr) (de_var 0) de_int) (da_cons (de_ixJ (hu_of hr) (de_var 1) de_int) (da_cons (de_var 2) da_nil)))) sc_walk_put.nd)
    (dss_cons (ds_if (dp_cmp o_isN (de_var 3) de_non) (dss_one (ds_ret de_non)) dss_nil)
    (dss_cons (ds_set (i := 4) (de_call c_head_under (hr.mono hl) (da_cons (de_ixJ (hu_of hr) (de_var 1) de_int) (da_cons (de_var 2) da_nil))) sc_walk_put.nd)
    (dss_one (ds_ret (de_tup (da_cons (de_var 4) (da_cons (de_call c_values_in (hr.mono (by omega)) (da_cons (de_ixJ (hu_of hr) (de_var 3) de_int) (da_cons (de_ixJ (hu_of hr) (de_var 3) de_int) (da_cons (de_var 4) da_nil)))) da_nil)))))))))), ?_⟩
  rintro so ds k ⟨⟨t, ⟨a, b⟩, hs, st⟩, p, rfl, rfl, ⟨ha, hb, hn, ok, so1, nd⟩, hk⟩
  refine enc_hd (eq_s ?_)
  by_cases h1 : tw t = "first"
  · obtain ⟨u, rfl⟩ := tw_un (x := .first) h1
    refine yes (by simp [h1]) (tix (j := 1) rfl rfl (tix (j := 1) rfl rfl ⟨(u, a, hs, st), p, rfl, rfl, ⟨ha, hn, ok.1, so1, nd⟩, ?_⟩))
    rintro d rfl
    exact hk _ rfl
  refine no (by simp [h1]) (enc_hd (eq_s ?_))
  by_cases h2 : tw t = "second"
  · obtain ⟨u, rfl⟩ := tw_un (x := .second) h2
    refine no (by simp [h2]) (tix (j := 1) rfl rfl (tix (j := 2) rfl rfl ⟨(u, b, hs, st), p, rfl, rfl, ⟨hb, hn, ok.2.1, so1, nd⟩, ?_⟩))
    rintro d rfl
    have ej : brg hs st (.un .second u) (.put a b) = (brg hs st u b).map fun x => (hdQ hs a, vals x.1 x.2 (hdQ hs a)) := rfl
    cases hx : brg hs st u b with
    | none =>
      rw [hx] at ej
      refine yes rfl (hk _ ?_)
      show _ = encO (brg hs st (.un .second u) (.put a b))
      rw [ej]
      rfl
    | some x =>
      rw [hx] at ej
      have i := brg_ok so1 b u x ok.2.1 hx
      obtain ⟨g1, g2⟩ := ok_head ok.1
      refine no rfl (tix (j := 1) rfl rfl ⟨(a, hs, st), p, rfl, rfl, ⟨Nat.le_trans ha hn, ok.1⟩, ?_⟩)
      rintro d rfl
      refine tix (j := 0) rfl rfl (tix (j := 1) rfl rfl ⟨(x.1, x.2, hdQ hs a, true), rfl, ⟨i.len, fun c hc => by rw [i.hd]; exact (ok.2.2 c).mp hc, by omega⟩, ?_⟩)
      rintro d rfl
      refine hk _ ?_
      show _ = encO (brg hs st (.un .second u) (.put a b))
      rw [ej]
      rfl
  refine yes (by simp [h2]) (hk _ ?_)
  show _ = encO (brg hs st t (.put a b))
  rw [brg_put_no h1 h2]
  rfl
/-! ### walk -/
abbrev s_walk : Stmt := top 31
theorem sc_walk : FnScope ["tree", "question", "store", "word", "part", "column"] ["tree", "question", "store"] (defScope s_walk) := ⟨rfl, rfl, rfl, by decide +kernel, rfl, by decide +kernel, by decide +kernel⟩
theorem c_walk (T : Txt mg) (Df : DefAt K mg "walk" s_walk) (Dj : DefAt K mg "walk_join" s_walk_join) (Dp : DefAt K mg "walk_put" s_walk_put) (c_walk_table : Callee P w K mg base C 2 "walk_table" ["tree", "table", "store"] fsWt) (c_values_in : Callee P w K mg base C 1 "values_in" ["head", "row", "columns"] fsVals)
    (c_head_under : Callee P w K mg base C 42 "head_under" ["question", "store"] (fsUnder 40)) (c_joined_head : Callee P w K mg base C 1 "joined_head" ["head", "other"] fsJoinH) (c_join_rows : Callee P w K mg base C 2 "join_rows" ["one", "row", "other", "second"] fsJoinR) (c_passes : Callee P w K mg base C 8 "passes" ["test", "head", "row"] (fsPas 5)) :
    ∀ n, Callee P w K mg base C (2 * n + 42) "walk" ["tree", "question", "store"] (fsWalk n)
  | 0 => by
    refine def_ok Df sc_walk (fun _ _ _ _ _ _ us hl => match us, hl with | [_, _, _], _ => rfl) (fsS_len fun _ _ => rfl) fun fa cdv A outer s H E hr => ⟨_, _, dss_never, ?_⟩
    rintro so ds k ⟨⟨t, q, hs, st⟩, p, rfl, rfl, hp, hk⟩
    have hn := hp.1
    cases q <;> exact absurd hn (by simp [Qn.dep])
  | n + 1 => by
    have c := c_walk T Df Dj Dp c_walk_table c_values_in c_head_under c_joined_head c_join_rows c_passes n
    have cj := c_walk_join T Dj (by omega) c_joined_head c_join_rows c
    have cp := c_walk_put T Dp (by omega) c_values_in c_head_under c
    refine def_ok Df sc_walk (fun _ _ _ _ _ _ us hl => match us, hl with | [_, _, _], _ => rfl) (fsS_len fun _ _ => rfl) fun fa cdv A outer s H E hr => ⟨_, _,
      (dss_cons (ds_set (i := 3) (de_ixJ (hu_of hr) (de_var 1) de_int) sc_walk.nd)
    (dss_cons (ds_if (dp_cmp (p_eq hr.units) (de_var 3) de_str) (dss_one (ds_ret (de_call c_walk_table (hr.mono (by omega)) (da_cons (de_var 0) (da_cons (de_ixJ (hu_of hr) (de_var 1) de_int) (da_cons (de_var 2) da_nil)))))) dss_nil)
    (dss_cons (ds_if (dp_cmp (p_eq hr.units) (de_var 3) de_str) (dss_one (ds_ret (de_call cp (hr.mono (by omega)) (da_cons (de_var 0) (da_cons (de_var 1) (da_cons (de_var 2) da_nil)))))) dss_nil)
    (dss_cons (ds_if (dp_cmp (p_ne hr.units) (de_ixJ (hu_of hr) (de_var 0) de_int) (de_var 3)) (dss_one (ds_ret de_non)) dss_nil)
    (dss_cons (ds_if (dp_cmp (p_eq hr.units) (de_var 3) de_str) (dss_one (ds_ret (de_call cj (hr.mono (by omega)) (da_cons (de_var 0) (da_cons (de_var 1) (da_cons (de_var 2) da_nil)))))) dss_nil)
    (dss_cons (ds_set (i := 4) (de_call c (hr.mono (by omega)) (da_cons (de_ixJ (hu_of hr) (de_var 0) de_int) (da_cons (de_ixJ (hu_of hr) (de_var 1) (de_neg de_int)) (da_cons (de_var 2) da_nil)))) sc_walk.nd)
    (dss_cons (ds_if (dp_cmp o_isN (de_var 4) de_non) (dss_one (ds_ret de_non)) dss_nil)
    (dss_cons (ds_if (dp_cmp (p_eq hr.units) (de_var 3) de_str) (dss_cons (ds_if (dp_not (dp_val (de_call c_passes (hr.mono (by omega)) (da_cons (de_ixJ (hu_of hr) (de_var 1) de_int) (da_cons (de_ixJ (hu_of hr) (de_var 4) de_int) (da_cons (de_ixJ (hu_of hr) (de_var 4) de_int) da_nil)))))) (dss_one (ds_ret de_non)) dss_nil)
    (dss_one (ds_ret (de_var 4)))) dss_nil)
    (dss_cons (ds_if (dp_cmp (p_eq hr.units) (de_var 3) de_str) (dss_one (ds_ret (de_tup (da_cons (de_ixJ (hu_of hr) (de_var 1) de_int) (da_cons (de_call c_values_in (hr.mono (by omega)) (da_cons (de_ixJ (hu_of hr) (de_var 4) de_int) (da_cons (de_ixJ (hu_of hr) (de_var 4) de_int) (da_cons (de_ixJ (hu_of hr) (de_var 1) de_int) da_nil)))) da_nil))))) dss_nil)
    (dss_one (ds_ret (de_tup (da_cons (de_callT c_tuple T.m_tuple boot_tuple (da_cons (de_lcX (own := [("column", 5)]) (j := 5) rfl sc_walk.nd (di_seq (de_ixJ (hu_of hr) (de_var 4) de_int)) (blkOk_by (own := [("column", 5)]) (N := ["tree", "question", "store", "word", "part", "column"]) (sc := defScope s_walk) (by decide +kernel)) (by decide) (fun _ _ _ _ _ => pg_name (i := 5) sc_walk.nd rfl (Or.inl rfl)) (fun _ _ _ _ _ => ⟨_, dts_nil⟩) (fun _ _ _ _ _ => ⟨_, (de_if (dp_cmp (p_eq hr.units) (de_var 5) (de_ixJ (hu_of hr) (de_var 1) de_int)) (de_ixJ (hu_of hr) (de_var 1) de_int) (de_var 5))⟩)) da_nil)) (da_cons (de_ixJ (hu_of hr) (de_var 4) de_int) da_nil)))))))))))))), ?_⟩
    rintro so ds k ⟨⟨t, q, hs, st⟩, p, rfl, rfl, ⟨hn, h40, ok, so1, nd⟩, hk⟩
    cases q with
    | table m =>
      refine tix (j := 0) rfl rfl (eq_t rfl rfl (yes rfl (tix (j := 1) rfl rfl ?_)))
      exact ⟨(t, m, hs, st), p, rfl, rfl, ⟨ok, nd⟩, fun d e => hk d e⟩
    | put a b =>
      simp only [Qn.dep] at hn
      refine tix (j := 0) rfl rfl (eq_t rfl rfl (no rfl (eq_t rfl rfl (yes rfl ?_))))
      exact ⟨(t, (a, b), hs, st), p, rfl, rfl, ⟨by omega, by omega, by omega, ok, so1, nd⟩, fun d e => hk d e⟩
    | join a b =>
      simp only [Qn.dep] at hn
      refine tix (j := 0) rfl rfl (eq_t rfl rfl (no rfl (eq_t rfl rfl (no rfl (enc_hd (eq_s ?_))))))
      by_cases h1 : tw t = "join"
      · obtain ⟨u, v, rfl⟩ := tw_join h1
        refine no (by simp [h1]) (eq_t rfl rfl (yes rfl ?_))
        exact ⟨((u, v), (a, b), hs, st), p, rfl, rfl, ⟨⟨by omega, by omega, ok.1, so1, nd⟩, ⟨by omega, by omega, ok.2.1, so1, nd⟩, ok⟩, fun d e => hk d e⟩
      · refine yes (by simp [h1]) (hk _ ?_)
        show _ = encO (brg hs st t (.join a b))
        rw [brg_join_no h1]
        rfl
    | pick cnd q =>
      simp only [Qn.dep] at hn
      refine tix (j := 0) rfl rfl (eq_t rfl rfl (no rfl (eq_t rfl rfl (no rfl (enc_hd (eq_s ?_))))))
      by_cases h1 : tw t = "pick"
      · obtain ⟨u, rfl⟩ := tw_un (x := .pick) h1
        refine no (by simp [h1]) (eq_t rfl rfl (no rfl (tix (j := 1) rfl rfl (tixL (Nat.succ_pos _) rfl ⟨(u, q, hs, st), p, rfl, rfl, ⟨by omega, by omega, ok.1, so1, nd⟩, ?_⟩))))
        rintro d rfl
        have ej : brg hs st (.un .pick u) (.pick cnd q) = (match brg hs st u q with
          | some x => if pas cnd x.1 x.2 then some x else none
          | none => none) := rfl
        cases hx : brg hs st u q with
        | none =>
          rw [hx] at ej
          refine yes rfl (hk _ ?_)
          show _ = encO (brg hs st (.un .pick u) (.pick cnd q))
          rw [ej]
          rfl
        | some x =>
          rw [hx] at ej
          have ej : brg hs st (.un .pick u) (.pick cnd q) = if pas cnd x.1 x.2 = true then some x else none := ej
          have i := brg_ok so1 q u x ok.1 hx
          refine no rfl (eq_t rfl rfl (yes rfl (tix (j := 1) rfl rfl (tix (j := 0) rfl rfl (tix (j := 1) rfl rfl ?_)))))
          refine ⟨(cnd, x.1, x.2), rfl, ⟨⟨ok.2.2.1, by decide⟩, i.len, fun z hz => by rw [i.hd]; exact ok.2.1 z hz, i.ok, ok.2.2.2⟩, ?_⟩
          rintro d rfl
          by_cases hp : pas cnd x.1 x.2 = true
          · rw [if_pos hp] at ej
            refine no (by show (!pas cnd x.1 x.2) = false; rw [hp]; rfl) (hk _ ?_)
            show _ = encO (brg hs st (.un .pick u) (.pick cnd q))
            rw [ej]
          · rw [if_neg hp] at ej
            refine yes (by show (!pas cnd x.1 x.2) = true; rw [eq_false_of_ne_true hp]; rfl) (hk _ ?_)
            show _ = encO (brg hs st (.un .pick u) (.pick cnd q))
            rw [ej]
            rfl
      · refine yes (by simp [h1]) (hk _ ?_)
        show _ = encO (brg hs st t (.pick cnd q))
        rw [brg_pick_no h1]
        rfl
    | keep cs q =>
      simp only [Qn.dep] at hn
      refine tix (j := 0) rfl rfl (eq_t rfl rfl (no rfl (eq_t rfl rfl (no rfl (enc_hd (eq_s ?_))))))
      by_cases h1 : tw t = "keep"
      · obtain ⟨u, rfl⟩ := tw_un (x := .keep) h1
        refine no (by simp [h1]) (eq_t rfl rfl (no rfl (tix (j := 1) rfl rfl (tixL (Nat.succ_pos _) rfl ⟨(u, q, hs, st), p, rfl, rfl, ⟨by omega, by omega, ok.1, so1, nd⟩, ?_⟩))))
        rintro d rfl
        have ej : brg hs st (.un .keep u) (.keep cs q) = (brg hs st u q).map fun x => (cs, vals x.1 x.2 cs) := rfl
        cases hx : brg hs st u q with
        | none =>
          rw [hx] at ej
          refine yes rfl (hk _ ?_)
          show _ = encO (brg hs st (.un .keep u) (.keep cs q))
          rw [ej]
          rfl
        | some x =>
          rw [hx] at ej
          have i := brg_ok so1 q u x ok.1 hx
          refine no rfl (eq_t rfl rfl (no rfl (eq_t rfl rfl (yes rfl (tix (j := 1) rfl rfl (tix (j := 0) rfl rfl (tix (j := 1) rfl rfl (tix (j := 1) rfl rfl ?_))))))))
          refine ⟨(x.1, x.2, cs, true), rfl, ⟨i.len, fun z hz => by rw [i.hd]; exact ok.2.2.1 z hz, Nat.le_trans ok.2.2.2 (by decide)⟩, ?_⟩
          rintro d rfl
          refine hk _ ?_
          show _ = encO (brg hs st (.un .keep u) (.keep cs q))
          rw [ej]
          rfl
      · refine yes (by simp [h1]) (hk _ ?_)
        show _ = encO (brg hs st t (.keep cs q))
        rw [brg_keep_no h1]
        rfl
    | call o m q =>
      simp only [Qn.dep] at hn
      refine tix (j := 0) rfl rfl (eq_t rfl rfl (no rfl (eq_t rfl rfl (no rfl (enc_hd (eq_s ?_))))))
      by_cases h1 : tw t = "call"
      · obtain ⟨u, rfl⟩ := tw_un (x := .call) h1
        refine no (by simp [h1]) (eq_t rfl rfl (no rfl (tix (j := 1) rfl rfl (tixL (Nat.succ_pos _) rfl ⟨(u, q, hs, st), p, rfl, rfl, ⟨by omega, by omega, ok.1, so1, nd⟩, ?_⟩))))
        rintro d rfl
        have ej : brg hs st (.un .call u) (.call o m q) = (brg hs st u q).map fun x => (callH o m x.1, x.2) := rfl
        cases hx : brg hs st u q with
        | none =>
          rw [hx] at ej
          refine yes rfl (hk _ ?_)
          show _ = encO (brg hs st (.un .call u) (.call o m q))
          rw [ej]
          rfl
        | some x =>
          rw [hx] at ej
          have i := brg_ok so1 q u x ok.1 hx
          obtain ⟨g1, g2⟩ := ok_head ok.1
          rw [← i.hd] at g2
          refine no rfl (eq_t rfl rfl (no rfl (eq_t rfl rfl (no rfl (tix (j := 0) rfl rfl ⟨by rw [strsD_len]; omega, lc_strs (cs := x.1) (fun z => some (sD (if z = o then m else z))) ?_ ?_⟩)))))
          · intro z hz R acc hR
            refine tix (j := 1) rfl rfl (eq_s ?_)
            by_cases e1 : z = o
            · rw [if_pos e1] at hR
              exact (if_pos (by simp [e1])).mpr (tix (j := 2) rfl rfl hR)
            · rw [if_neg e1] at hR
              exact (if_neg (by simp [e1])).mpr hR
          · rw [call_fm]
            refine tix (j := 1) rfl rfl (hk _ ?_)
            show _ = encO (brg hs st (.un .call u) (.call o m q))
            rw [ej]
            rfl
      · refine yes (by simp [h1]) (hk _ ?_)
        show _ = encO (brg hs st t (.call o m q))
        rw [brg_call_no h1]
        rfl
    | ring _ _ _ _ => exact ok.elim
/-! ### brought -/
def fsBrought (n : Nat) : FS := fsS (ι := WkI) (fun ⟨_, _, hs, st⟩ => (hs, st)) (fun ⟨t, q, _, _⟩ p => [encR t, encQ q, .a (.ref p)]) (fun ⟨t, q, hs, st⟩ => q.dep ≤ n ∧ RgOk q ∧ wkP 40 (t, unr q, hs, st)) (fun ⟨t, q, hs, st⟩ d => d = encV (brg hs st t (unr q)))
abbrev s_brought : Stmt := top 32
theorem sc_brought : FnScope ["tree", "question", "store", "found"] ["tree", "question", "store"] (defScope s_brought) := ⟨rfl, rfl, rfl, by decide +kernel, rfl, by decide +kernel, by decide +kernel⟩
theorem c_brought (T : Txt mg) (Df : DefAt K mg "brought" s_brought) {n l : Nat} (c_walk : Callee P w K mg base C 122 "walk" ["tree", "question", "store"] (fsWalk 40)) (c_unrolled : Callee P w K mg base C l "unrolled" ["question"] (fsUnr n)) (hl : l ≤ 122) : Callee P w K mg base C 123 "brought" ["tree", "question", "store"] (fsBrought n) := by
  refine def_ok Df sc_brought (fun _ _ _ _ _ _ us hl => match us, hl with | [_, _, _], _ => rfl) (fsS_len fun _ _ => rfl) fun fa cdv A outer s H E hr => ⟨_, _,
    (dss_cons (ds_set (i := 3) (de_call c_walk (hr.mono (Nat.le_refl _)) (da_cons (de_var 0) (da_cons (de_call c_unrolled (hr.mono hl) (da_cons (de_var 1) da_nil)) (da_cons (de_var 2) da_nil)))) sc_brought.nd)
    (dss_cons (ds_if (dp_cmp o_isN (de_var 3) de_non) (dss_one (ds_ret de_non)) dss_nil)
    (dss_one (ds_ret (de_ixJ (hu_of hr) (de_var 3) de_int))))), ?_⟩
  rintro so ds k ⟨⟨t, q, hs, st⟩, p, rfl, rfl, ⟨hn, rg, wp⟩, hk⟩
  refine ⟨q, rfl, ⟨hn, rg⟩, ?_⟩
  rintro d rfl
  refine ⟨(t, unr q, hs, st), p, rfl, rfl, wp, ?_⟩
  rintro d rfl
  cases hx : brg hs st t (unr q) with
  | none =>
    refine yes rfl (hk _ ?_)
    show _ = encV (brg hs st t (unr q))
    rw [hx]
    rfl
  | some x =>
    refine no rfl (tix (j := 1) rfl rfl (hk _ ?_))
    show _ = encV (brg hs st t (unr q))
    rw [hx]
    rfl
end
end Wh

namespace Wh
open PySem L2
/-- whole numbers as data -/
def iL (ns : List Int) : D := .lst (ns.map fun n => D.a (.int n))
section
variable {P : Program} {w : World} {K : PySem.W.Frag} {mg : Str → Option Value} {base : Heap} {C : Addr}
/-! ### _law_cell_at -/
def fsCell : FS := fs (ι := List Int × Nat) (fun ⟨ns, k⟩ => [iL ns, .a (.int (k : Int))]) (fun _ => True) (fun _ d => ∃ z : Int, d = .a (.int z))
abbrev s_l_cell_at : Stmt := top 42
theorem sc_l_cell_at : FnScope ["_law_script", "_law_k"] ["_law_script", "_law_k"] (defScope s_l_cell_at) := ⟨rfl, rfl, rfl, by decide +kernel, rfl, by decide +kernel, by decide +kernel⟩
theorem c_l_cell_at (T : Txt mg) (Df : DefAt K mg "_law_cell_at" s_l_cell_at) : Callee P w K mg base C 1 "_law_cell_at" ["_law_script", "_law_k"] fsCell := by
  refine def_ok Df sc_l_cell_at (fun _ _ _ _ _ _ us hl => match us, hl with | [_, _], _ => rfl) (fs_len fun _ => rfl) fun fa cdv A outer s H E hr => ⟨_, _,
    (dss_cons (ds_if (dp_cmp o_lt (de_var 1) (de_callB c_len T.m_len boot_len (da_cons (de_var 0) da_nil))) (dss_one (ds_ret (de_ixJ (hu_of hr) (de_var 0) (de_var 1)))) dss_nil)
    (dss_one (ds_ret de_int))), ?_⟩
  rintro so ds k ⟨⟨ns, j⟩, rfl, _, hk⟩
  refine ⟨fun h => ?_, fun _ => hk _ ⟨0, rfl⟩⟩
  have h := of_decide_eq_true h
  refine lix_any (by omega) h fun d hd => ?_
  obtain ⟨z, _, rfl⟩ := List.mem_map.mp hd
  exact hk _ ⟨z, rfl⟩
/-! ### _law_stream -/
/-- numbers below 2147483647 -/
def N30 (x : Int) : Prop := 0 ≤ x ∧ x < 2147483647
theorem N30.n31 {x : Int} (h : N30 x) : N31 x := ⟨h.1, by have := h.2; omega⟩
def fsStream : FS := fs (ι := Int × Nat) (fun ⟨c, m⟩ => [.a (.int c), .a (.int (m : Int))]) (fun ⟨_, m⟩ => m ≤ 1000) (fun ⟨_, m⟩ d => ∃ xs : List Int, d = iL xs ∧ xs.length = m ∧ ∀ x ∈ xs, N30 x)
abbrev s_l_stream : Stmt := top 43
theorem sc_l_stream : FnScope ["_law_cell", "_law_many", "_law_found", "_law_number", "_law_k"] ["_law_cell", "_law_many"] (defScope s_l_stream) := ⟨rfl, rfl, rfl, by decide +kernel, rfl, by decide +kernel, by decide +kernel⟩
theorem c_l_stream (T : Txt mg) (Df : DefAt K mg "_law_stream" s_l_stream) : Callee P w K mg base C 1 "_law_stream" ["_law_cell", "_law_many"] fsStream := by
  refine def_ok Df sc_l_stream (fun _ _ _ _ _ _ us hl => match us, hl with | [_, _], _ => rfl) (fs_len fun _ => rfl) fun fa cdv A outer s H E hr => ⟨_, _,
    (dss_cons (ds_ownNew (i := 2) sc_l_stream.nd)
    (dss_cons (ds_set (i := 3) (de_op p_add (de_op o_mod (de_var 0) de_int) de_int) sc_l_stream.nd)
    (dss_cons (ds_for PassesOwn.never rfl (di_range1 T.m_range (da_cons (de_op p_add (de_var 1) de_int) da_nil)) (pg_name (i := 4) sc_l_stream.nd rfl (Or.inl rfl)) (dss_cons (ds_set (i := 3) (de_op o_mod (de_op p_add (de_op p_add (de_op o_mul (de_var 3) (de_var 3)) (de_op o_mul de_int (de_var 3))) (de_var 4)) de_int) sc_l_stream.nd)
    (dss_one (ds_app (i := 2) (de_var 3)))))
    (dss_frz (dss_one (ds_ret (de_sl (de_var 2) (dpo_some de_int) dpo_no))))))), ?_⟩
  rintro so ds k ⟨⟨c, m⟩, rfl, hm, hk⟩
  refine ⟨⟨rfl, by show 2 < 5; decide⟩, ⟨by decide, add_i (add_i ⟨⟨by omega, by omega⟩, ?_⟩)⟩⟩
  refine ⟨fun i ρ => ∃ (z : Int) (xs : List Int) (o : Option D), ρ = ⟨[some (.a (.int c)), some (.a (.int (m : Int))), none, some (.a (.int z)), o], some (2, xs.map fun n => D.a (.int n)), so⟩ ∧ 0 ≤ z ∧ z < 2 ^ 40 ∧ xs.length = i ∧ ∀ x ∈ xs, N30 x, ?_, ?_, ?_⟩
  · have := mod_lt (i := c) (j := 2147483647) (by decide)
    exact ⟨c % 2147483647 + 48271, [], none, rfl, by omega, by omega, rfl, fun _ h => nomatch h⟩
  · rintro i d ρ hi ⟨z, xs, o, rfl, h0, h1, hl, hx⟩
    have hi' : i < ((m : Int) + 1 - 0).toNat := by
      have := (List.getElem?_eq_some_iff.mp hi).1
      rw [rangeD_len] at this
      omega
    rw [rangeD_get (by omega)] at hi
    cases hi
    refine ⟨mul_ok (by constructor <;> omega), ⟨mul_ok (by constructor <;> omega), add_i (add_i ⟨by decide, ?_⟩)⟩⟩
    have hn : N30 ((z * z + 48271 * z + (0 + (i : Int))) % 2147483647) := mod_lt (by decide)
    refine ⟨_, rfl, by rw [List.length_map, hl]; omega, ?_⟩
    refine ⟨_, xs ++ [(z * z + 48271 * z + (0 + (i : Int))) % 2147483647], some (.a (.int (0 + (i : Int)))), ?_, hn.1, by have := hn.2; omega, by simp [hl], fun x hx' => ?_⟩
    · rw [List.map_append]
      rfl
    · rcases List.mem_append.mp hx' with q | q
      · exact hx x q
      · rw [List.mem_singleton.mp q]; exact hn
  · rintro ρ ⟨z, xs, o, rfl, h0, h1, hl, hx⟩
    rw [rangeD_len] at hl
    have hl' : xs.length = m + 1 := by omega
    refine ⟨⟨_, rfl⟩, ?_⟩
    have e : cut (xs.map fun n => D.a (.int n)) (some ((1 : Nat) : Int)) none = (xs.drop 1).map fun n => D.a (.int n) := by
      rw [cut_from _ (by rw [List.length_map]; omega), List.map_drop]
    refine hk _ ⟨xs.drop 1, ?_, by rw [List.length_drop]; omega, fun x h => hx x (List.mem_of_mem_drop h)⟩
    exact congrArg D.lst e
/-! ### _law_pool -/
def fsPool : FS := fs (ι := Int) (fun c => [.a (.int c)]) (fun _ => True) (fun _ d => ∃ pool : List V, d = lV pool ∧ pool ≠ [] ∧ pool.length ≤ 3 ∧ ∀ v ∈ pool, okV v = true)
theorem sOk_of (z : String) : sOk (Str.ofString z) = true := by
  unfold sOk PyData.strOk
  rw [Str.ofString_eq_toList]
  rw [Array.all_eq_true]
  intro i hi
  simp only [List.size_toArray, List.length_map] at hi
  simp only [List.getElem_toArray, List.getElem_map, decide_eq_true_eq]
  have v := (z.toList[i]).valid
  show (z.toList[i]).val.toNat < 0x110000
  rcases v with h | ⟨_, h⟩
  · exact Nat.lt_trans h (by decide)
  · exact h
theorem cut_map {α β : Type} (f : α → β) (xs : List α) (lo hi : Option Int) : cut (xs.map f) lo hi = (cut xs lo hi).map f := by
  unfold cut
  rw [List.length_map, List.map_take, List.map_drop]
theorem cut_sub {α : Type} {xs : List α} {lo hi : Option Int} {x : α} (h : x ∈ cut xs lo hi) : x ∈ xs := List.mem_of_mem_drop (List.mem_of_mem_take h)
theorem log_small {x m : Int} (h : 0 < m) (hm : m.toNat ≤ 2 ^ 1000) : (x % m).natAbs.log2 < 1920 := by
  have h2 := mod_lt (i := x) h
  have h3 : (x % m).natAbs < 2 ^ 1000 := by
    have : (x % m).natAbs < m.toNat := by omega
    exact Nat.lt_of_lt_of_le this hm
  by_cases z : (x % m).natAbs = 0
  · rw [z]; decide
  · exact Nat.lt_of_lt_of_le ((Nat.log2_lt z).mpr h3) (by decide)
abbrev s_l_pool : Stmt := top 45
theorem sc_l_pool : FnScope ["_law_cell", "_law_far", "_law_some", "_law_start"] ["_law_cell"] (defScope s_l_pool) := ⟨rfl, rfl, rfl, by decide +kernel, rfl, by decide +kernel, by decide +kernel⟩
theorem c_l_pool (T : Txt mg) (Df : DefAt K mg "_law_pool" s_l_pool) : Callee P w K mg base C 1 "_law_pool" ["_law_cell"] fsPool := by
  refine def_ok Df sc_l_pool (fun _ _ _ _ _ _ us hl => match us, hl with | [_], _ => rfl) (fs_len fun _ => rfl) fun fa cdv A outer s H E hr => ⟨_, _,
    (dss_cons (ds_set (i := 1) (de_op p_add (de_op o_sub (de_op o_mod (de_var 0) (de_op o_sub (de_op o_mul de_int (de_op o_pow de_int de_int)) de_int)) (de_op o_pow de_int de_int)) de_int) sc_l_pool.nd)
    (dss_cons (ds_set (i := 2) (de_lst (da_cons de_int (da_cons de_str (da_cons (de_var 1) (da_cons (de_callT c_str T.m_str boot_str (da_cons (de_op o_mod (de_var 1) (de_op o_pow de_int de_int)) da_nil)) (da_cons (de_op o_sub de_int (de_var 1)) (da_cons de_str da_nil))))))) sc_l_pool.nd)
    (dss_cons (ds_set (i := 3) (de_op o_mod (de_var 0) de_int) sc_l_pool.nd)
    (dss_one (ds_ret (de_sl (de_var 2) (dpo_some (de_var 3)) (dpo_some (de_op p_add (de_op p_add (de_var 3) de_int) (de_op o_mod (de_op o_fdiv (de_var 0) de_int) de_int))))))))), ?_⟩
  rintro so ds k ⟨c, rfl, _, hk⟩
  have cp : CPow 10 60 := ⟨by decide, by decide, by decide⟩
  have cp2 : CPow 10 20 := ⟨by decide, by decide, by decide⟩
  refine ⟨cp, ⟨.inl (by decide), ⟨by decide, ⟨cp, add_i ?_⟩⟩⟩⟩
  generalize hf : c % (2 * 10 ^ (60 : Int).toNat - 1) - 10 ^ (60 : Int).toNat + 1 = far
  refine ⟨cp2, ⟨by decide, ⟨log_small (by decide) (by decide), ⟨by decide, add_i ⟨cdiv (by decide) (by decide), ⟨by decide, add_i ?_⟩⟩⟩⟩⟩⟩
  have a1 := mod_lt (i := c) (j := 5) (by decide)
  have a2 := mod_lt (i := c / 5) (j := 2) (by decide)
  generalize hxs : [V.int 0, V.str "0", V.int far, V.str (toString (far % 10 ^ (20 : Int).toNat)), V.int (0 - far), V.str "a"] = xs
  have hl : xs.length = 6 := by rw [← hxs]; rfl
  have hok : ∀ v ∈ xs, okV v = true := by
    rw [← hxs]
    intro v hv
    simp only [List.mem_cons, List.not_mem_nil, or_false] at hv
    rcases hv with rfl | rfl | rfl | rfl | rfl | rfl
    · rfl
    · exact sOk_of _
    · rfl
    · exact sOk_of _
    · rfl
    · exact sOk_of _
  obtain ⟨a, j1⟩ : ∃ a : Nat, c % 5 = (a : Int) := ⟨(c % 5).toNat, by omega⟩
  obtain ⟨b, j2⟩ : ∃ b : Nat, c % 5 + 2 + c / 5 % 2 = (b : Int) := ⟨(c % 5 + 2 + c / 5 % 2).toNat, by omega⟩
  refine hk _ ⟨cut xs (some (c % 5)) (some (c % 5 + 2 + c / 5 % 2)), ?_, ?_, ?_, fun v hv => hok v (cut_sub hv)⟩
  · unfold lV
    rw [← cut_map, ← hxs]
    rfl
  · intro z
    have e := congrArg List.length z
    unfold cut at e
    rw [j2, j1, HT.sIx_nat, HT.sIx_nat, List.length_take, List.length_drop, hl] at e
    simp only [List.length_nil] at e
    omega
  · unfold cut
    rw [j2, j1, HT.sIx_nat, HT.sIx_nat, List.length_take, List.length_drop, hl]
    omega
end
end Wh

namespace Wh
open PySem L2
/-! ### the signs of words -/
def sA : Str := " !\"#$&'()*+,-./0123456789:;<=>?@ABCDEFGHIJKLMNOPQRSTUVWXYZ[\\]^_`"
def sB : Str := "abcdefghijklmnopqrstuvwxyz{|}~"
def sm : Str := sA ++ sB
theorem sm_len : sm.cps.toList.length = 94 := by decide +kernel
theorem sm_nd : sm.cps.toList.Nodup := by decide +kernel
theorem sm_ab : sA.length + sB.length ≤ sizeLine := by rw [sizeLine_eq]; decide +kernel
theorem sm_ok : ∀ c ∈ sm.cps.toList, c < 0x110000 := by decide +kernel
/-- the sign at a place -/
def cp (i : Int) : Nat := (sm.cps.toList[i.toNat]?).getD 0
def ch (i : Int) : Str := ⟨#[cp i]⟩
theorem cp_at {i : Int} (h0 : 0 ≤ i) (h1 : i < 94) : sm.cps.toList[i.toNat]? = some (cp i) := by
  have hj : i.toNat < sm.cps.toList.length := by rw [sm_len]; omega
  unfold cp
  rw [List.getElem?_eq_getElem hj]
  rfl
theorem cp_inj {i j : Int} (h0 : 0 ≤ i) (h1 : i < 94) (g0 : 0 ≤ j) (g1 : j < 94) (e : cp i = cp j) : i = j := by
  have a := cp_at h0 h1
  have b := cp_at g0 g1
  rw [e] at a
  have hj : i.toNat < sm.cps.toList.length := by rw [sm_len]; omega
  have := (List.getElem?_inj hj sm_nd).mp (a.trans b.symm)
  omega
theorem ch_ix {i : Int} {k : D → Prop} (h0 : 0 ≤ i) (h1 : i < 94) (hk : k (sD (ch i))) : jIx (sD sm) (.a (.int i)) k := by
  have a := cp_at h0 h1
  have z : atI sm.cps.toList i = some (cp i) := by
    have q := atI_nat a
    rw [show ((i.toNat : Nat) : Int) = i by omega] at q
    exact q
  unfold jIx dIx
  refine ⟨?_, ?_⟩
  · show sm.cps.size ≤ sizeLine
    rw [← Array.length_toList, sm_len, sizeLine_eq]
    decide
  · simp only [z]
    exact hk
theorem ch_ok {i : Int} (h0 : 0 ≤ i) (h1 : i < 94) : sOk (ch i) = true := by
  have h := sm_ok (cp i) (List.mem_of_getElem? (cp_at h0 h1))
  unfold sOk PyData.strOk ch
  simpa using h
theorem sOk_add {x y : Str} (hx : sOk x = true) (hy : sOk y = true) : sOk (x ++ y) = true := by
  unfold sOk PyData.strOk at hx hy ⊢
  show (x.cps ++ y.cps).all _ = true
  rw [Array.all_append, hx, hy]
  rfl
theorem len_add (x y : Str) : (x ++ y).length = x.length + y.length := Array.size_append
/-! ### a sign some times -/
def rep (x : Str) : Nat → Str
  | 0 => Str.empty
  | n + 1 => rep x n ++ x
theorem fold_rep (a : Array Nat) : ∀ (n : Nat) (b : Array Nat), (List.replicate n a).foldl (· ++ ·) b = b ++ (rep ⟨a⟩ n).cps
  | 0, b => by show b = b ++ #[]; simp
  | n + 1, b => by
    rw [List.replicate_succ, List.foldl_cons, fold_rep a n]
    have e : ∀ m, a ++ (rep ⟨a⟩ m).cps = (rep ⟨a⟩ m).cps ++ a := by
      intro m
      induction m with
      | zero => show a ++ #[] = #[] ++ a; simp
      | succ m ih => show a ++ ((rep ⟨a⟩ m).cps ++ a) = (rep ⟨a⟩ m).cps ++ a ++ a; rw [← Array.append_assoc, ih]
    rw [Array.append_assoc, e]
    rfl
theorem rep_len (x : Str) : ∀ n, (rep x n).length = x.length * n
  | 0 => rfl
  | n + 1 => by
    show (rep x n ++ x).length = _
    rw [len_add, rep_len x n, Nat.mul_succ]
theorem rep_ok {x : Str} (h : sOk x = true) : ∀ n, sOk (rep x n) = true
  | 0 => by simp [rep, sOk, PyData.strOk, Str.empty]
  | n + 1 => sOk_add (rep_ok h n) h
theorem mul_rep {x : Str} (hx : 0 < x.length) (n : Nat) : Txt.mul x (n : Int) = rep x n := by
  unfold Txt.mul
  match n with
  | 0 => rfl
  | 1 =>
    show x = (Str.empty ++ x)
    show x = (⟨#[] ++ x.cps⟩ : Str)
    simp
  | n + 2 =>
    rw [if_neg (by omega), if_neg (by
      have h1 : (((n + 2 : Nat) : Int) == 1) = false := beq_eq_false_iff_ne.mpr (by omega)
      have h2 : (x.length == 0) = false := beq_eq_false_iff_ne.mpr (by omega)
      rw [h1, h2]
      decide), Int.toNat_natCast, fold_rep]
    simp
theorem mul_ok1 {x : Str} {i : Int} {n : Nat} (e : i = (n : Int)) (hx : x.length = 1) (hn : n ≤ 1000) : MulOk x i ∧ Txt.mul x i = rep x n := by
  subst e
  exact ⟨PyProof.Rows.mulOk_of 1 1000 (by omega) (by omega) (by omega) (by decide) (by decide), mul_rep (by omega) n⟩
theorem nodup_map {α β : Type} {f : α → β} : ∀ {l : List α}, (∀ x ∈ l, ∀ y ∈ l, f x = f y → x = y) → l.Nodup → (l.map f).Nodup
  | [], _, _ => List.nodup_nil
  | a :: l, h, d => by
    obtain ⟨d1, d2⟩ := List.nodup_cons.mp d
    rw [List.map_cons]
    refine List.nodup_cons.mpr ⟨fun z => ?_, nodup_map (fun x hx y hy => h x (List.mem_cons_of_mem _ hx) y (List.mem_cons_of_mem _ hy)) d2⟩
    obtain ⟨y, hy, e⟩ := List.mem_map.mp z
    exact d1 (h y (List.mem_cons_of_mem _ hy) a List.mem_cons_self e ▸ hy)
theorem mul_go {x : Str} {i : Int} {n : Nat} {k : D → Prop} (e : i = (n : Int)) (hx : x.length = 1) (hn : n ≤ 1000) (hk : k (sD (rep x n))) : dMul (sD x) (.a (.int i)) k := by
  subst e
  refine ⟨PyProof.Rows.mulOk_of 1 1000 (by omega) (by omega) (by omega) (by decide) (by decide), ?_⟩
  rw [mul_rep (by omega)]
  exact hk
/-! ### words -/
def wordK (x : List Int) (a b : Str) (k : Nat) : Str := if x.getD 4 0 % 4 = 0 then a ++ rep (ch (x.getD 2 0 % 94)) k else a ++ ch ((x.getD 4 0 / 4 + (k : Int)) % 94) ++ b
theorem wordK_inj {x : List Int} {a b : Str} {i j : Nat} (hi : i < 90) (hj : j < 90) (e : wordK x a b i = wordK x a b j) : i = j := by
  unfold wordK at e
  split at e
  · have l := congrArg Str.length e
    rw [len_add, len_add, rep_len, rep_len] at l
    have z : (ch (x.getD 2 0 % 94)).length = 1 := rfl
    rw [z] at l
    omega
  · have l : a.cps ++ #[cp ((x.getD 4 0 / 4 + (i : Int)) % 94)] ++ b.cps = a.cps ++ #[cp ((x.getD 4 0 / 4 + (j : Int)) % 94)] ++ b.cps := congrArg Str.cps e
    have l2 := congrArg Array.toList l
    simp only [Array.toList_append, List.append_assoc] at l2
    have l3 := List.append_cancel_left l2
    have l4 : cp ((x.getD 4 0 / 4 + (i : Int)) % 94) = cp ((x.getD 4 0 / 4 + (j : Int)) % 94) := (List.cons.inj l3).1
    have a1 := mod_lt (i := x.getD 4 0 / 4 + (i : Int)) (j := 94) (by decide)
    have a2 := mod_lt (i := x.getD 4 0 / 4 + (j : Int)) (j := 94) (by decide)
    have := cp_inj a1.1 a1.2 a2.1 a2.2 l4
    omega
section
variable {P : Program} {w : World} {K : PySem.W.Frag} {mg : Str → Option Value} {base : Heap} {C : Addr}
def fsWords : FS := fs (ι := Int × Nat) (fun ⟨c, m⟩ => [.a (.int c), .a (.int (m : Int))]) (fun ⟨_, m⟩ => m ≤ 60) (fun ⟨_, m⟩ d => ∃ ws : List Str, d = lS ws ∧ ws.length = m ∧ ws.Nodup ∧ ∀ z ∈ ws, sOk z = true)
abbrev s_l_words : Stmt := top 44
theorem sc_l_words : FnScope ["_law_cell", "_law_many", "_law_some", "_law_xs", "_law_ahead", "_law_behind", "_law_words_here", "_law_k"] ["_law_cell", "_law_many"] (defScope s_l_words) := ⟨rfl, rfl, rfl, by decide +kernel, rfl, by decide +kernel, by decide +kernel⟩
theorem c_l_words (T : Txt mg) (Df : DefAt K mg "_law_words" s_l_words) (c_l_stream : Callee P w K mg base C 1 "_law_stream" ["_law_cell", "_law_many"] fsStream) : Callee P w K mg base C 2 "_law_words" ["_law_cell", "_law_many"] fsWords := by
  refine def_ok Df sc_l_words (fun _ _ _ _ _ _ us hl => match us, hl with | [_, _], _ => rfl) (fs_len fun _ => rfl) fun fa cdv A outer s H E hr => ⟨_, _,
    (dss_cons (ds_set (i := 2) de_str sc_l_words.nd)
    (dss_cons (ds_set (i := 2) (de_op p_add (de_var 2) de_str) sc_l_words.nd)
    (dss_cons (ds_set (i := 3) (de_call c_l_stream (hr.mono (Nat.le_refl _)) (da_cons (de_var 0) (da_cons de_int da_nil))) sc_l_words.nd)
    (dss_cons (ds_set (i := 4) (de_op o_mul (de_ixJ (hu_of hr) (de_var 2) (de_op o_mod (de_ixJ (hu_of hr) (de_var 3) de_int) de_int)) (de_op o_mod (de_ixJ (hu_of hr) (de_var 3) de_int) de_int)) sc_l_words.nd)
    (dss_cons (ds_set (i := 5) (de_op o_mul (de_ixJ (hu_of hr) (de_var 2) (de_op o_mod (de_ixJ (hu_of hr) (de_var 3) de_int) de_int)) (de_op o_mod (de_ixJ (hu_of hr) (de_var 3) de_int) de_int)) sc_l_words.nd)
    (dss_cons (ds_ownNew (i := 6) sc_l_words.nd)
    (dss_cons (ds_for PassesOwn.never rfl (di_range1 T.m_range (da_cons (de_var 1) da_nil)) (pg_name (i := 7) sc_l_words.nd rfl (Or.inl rfl)) (dss_one (ds_if (dp_cmp (p_eq hr.units) (de_op o_mod (de_ixJ (hu_of hr) (de_var 3) de_int) de_int) de_int) (dss_one (ds_app (i := 6) (de_op p_add (de_var 4) (de_op o_mul (de_ixJ (hu_of hr) (de_var 2) (de_op o_mod (de_ixJ (hu_of hr) (de_var 3) de_int) de_int)) (de_var 7))))) (dss_one (ds_app (i := 6) (de_op p_add (de_op p_add (de_var 4) (de_ixJ (hu_of hr) (de_var 2) (de_op o_mod (de_op p_add (de_op o_fdiv (de_ixJ (hu_of hr) (de_var 3) de_int) de_int) (de_var 7)) de_int))) (de_var 5)))))))
    (dss_frz (dss_one (ds_ret (de_var 6))))))))))), ?_⟩
  rintro so ds k ⟨⟨c, m⟩, rfl, hm, hk⟩
  refine add_s (x := sA) (y := sB) sm_ab ?_
  refine ⟨(c, 5), rfl, (show 5 ≤ 1000 by decide), ?_⟩
  rintro d ⟨xs, rfl, hl, hx⟩
  obtain ⟨x0, x1, x2, x3, x4, rfl⟩ : ∃ x0 x1 x2 x3 x4, xs = [x0, x1, x2, x3, x4] := by
    match xs, hl with
    | [x0, x1, x2, x3, x4], _ => exact ⟨x0, x1, x2, x3, x4, rfl⟩
  have p94 : (0 : Int) < 94 := by decide
  have p3 : (0 : Int) < 3 := by decide
  have a0 := mod_lt (i := x0) p94
  have a1 := mod_lt (i := x1) p3
  have a2 := mod_lt (i := x2) p94
  have a3 := mod_lt (i := x3) p3
  refine lix (j := 0) rfl rfl ⟨p94, ch_ix a0.1 a0.2 (lix (j := 1) rfl rfl ⟨p3, mul_go (n := (x1 % 3).toNat) (by omega) rfl (by omega) ?_⟩)⟩
  refine lix (j := 2) rfl rfl ⟨p94, ch_ix a2.1 a2.2 (lix (j := 3) rfl rfl ⟨p3, mul_go (n := (x3 % 3).toNat) (by omega) rfl (by omega) ?_⟩)⟩
  have la : (rep (ch (x0 % 94)) (x1 % 3).toNat).length ≤ 2 := by rw [rep_len]; show 1 * _ ≤ 2; omega
  have lb : (rep (ch (x2 % 94)) (x3 % 3).toNat).length ≤ 2 := by rw [rep_len]; show 1 * _ ≤ 2; omega
  have oa : sOk (rep (ch (x0 % 94)) (x1 % 3).toNat) = true := rep_ok (ch_ok a0.1 a0.2) _
  have ob : sOk (rep (ch (x2 % 94)) (x3 % 3).toNat) = true := rep_ok (ch_ok a2.1 a2.2) _
  generalize rep (ch (x0 % 94)) (x1 % 3).toNat = ah at la oa
  generalize rep (ch (x2 % 94)) (x3 % 3).toNat = bh at lb ob
  refine ⟨⟨rfl, by show 6 < 8; decide⟩, ⟨⟨by omega, by omega⟩, ?_⟩⟩
  refine ⟨fun i ρ => ∃ o : Option D, ρ = ⟨[some (.a (.int c)), some (.a (.int (m : Int))), some (sD sm), some (iL [x0, x1, x2, x3, x4]), some (sD ah), some (sD bh), none, o], some (6, strsD ((List.range i).map (wordK [x0, x1, x2, x3, x4] ah bh))), so⟩, ⟨none, rfl⟩, ?_, ?_⟩
  · rintro i d ρ hi ⟨o, rfl⟩
    have hi' : i < m := by
      have := (List.getElem?_eq_some_iff.mp hi).1
      rw [rangeD_len] at this
      omega
    rw [rangeD_get (by omega)] at hi
    cases hi
    have ln : (strsD ((List.range i).map (wordK [x0, x1, x2, x3, x4] ah bh))).length < 100000 := by rw [strsD_len, List.length_map, List.length_range]; omega
    have nx : strsD ((List.range i).map (wordK [x0, x1, x2, x3, x4] ah bh)) ++ [sD (wordK [x0, x1, x2, x3, x4] ah bh i)] = strsD ((List.range (i + 1)).map (wordK [x0, x1, x2, x3, x4] ah bh)) := by
      rw [List.range_succ, List.map_append, strsD_append]
      rfl
    refine lix (j := 4) rfl rfl ⟨by decide, eq_i ⟨fun ht => ?_, fun ht => ?_⟩⟩
    · have ht : x4 % 4 = 0 := by simpa using ht
      have ew : wordK [x0, x1, x2, x3, x4] ah bh i = ah ++ rep (ch (x2 % 94)) i := if_pos ht
      obtain ⟨m1, m2⟩ := mul_ok1 (x := ch (x2 % 94)) (i := 0 + (i : Int)) (n := i) (by omega) rfl (by omega)
      refine ⟨_, rfl, lix (j := 2) rfl rfl ⟨p94, ch_ix a2.1 a2.2 ⟨m1, ?_⟩⟩⟩
      rw [m2]
      refine add_s ?_ ⟨ln, ?_⟩
      · rw [rep_len, sizeLine_eq]
        show _ + 1 * i ≤ _
        omega
      · rw [← ew, nx]
        exact ⟨_, rfl⟩
    · have ht : ¬ x4 % 4 = 0 := by simpa using ht
      have ew : wordK [x0, x1, x2, x3, x4] ah bh i = ah ++ ch ((x4 / 4 + (i : Int)) % 94) ++ bh := if_neg ht
      have a5 := mod_lt (i := x4 / 4 + (0 + (i : Int))) p94
      refine ⟨_, rfl, lix (j := 4) rfl rfl ⟨cdiv (by decide) (by decide), add_i ⟨p94, ch_ix a5.1 a5.2 (add_s ?_ (add_s ?_ ⟨ln, ?_⟩))⟩⟩⟩
      · rw [sizeLine_eq]
        show _ + 1 ≤ _
        omega
      · rw [len_add, sizeLine_eq]
        show _ + 1 + _ ≤ _
        omega
      · rw [Int.zero_add, ← ew, nx]
        exact ⟨_, rfl⟩
  · rintro ρ ⟨o, rfl⟩
    rw [rangeD_len]
    refine ⟨⟨_, rfl⟩, hk _ ⟨(List.range m).map (wordK [x0, x1, x2, x3, x4] ah bh), ?_, by simp, ?_, fun z hz => ?_⟩⟩
    · have : (m : Int).toNat = m := Int.toNat_natCast m
      show D.lst (strsD ((List.range (m : Int).toNat).map _)) = _
      rw [this]
      rfl
    · refine nodup_map ?_ List.nodup_range
      intro i hi j hj e
      exact wordK_inj (by have := List.mem_range.mp hi; omega) (by have := List.mem_range.mp hj; omega) e
    · obtain ⟨i, hi, rfl⟩ := List.mem_map.mp hz
      unfold wordK
      split
      · exact sOk_add oa (rep_ok (ch_ok a2.1 a2.2) _)
      · have a5 := mod_lt (i := [x0, x1, x2, x3, x4].getD 4 0 / 4 + (i : Int)) p94
        exact sOk_add (sOk_add oa (ch_ok a5.1 a5.2)) ob
end
end Wh

namespace Wh
open PySem L2
/-! ### comprehensions over a range -/
theorem lc_rng {n : Nat} {wt : DTT} {we : DT} {ρ : DSt} {vs : List Nat} {j : Nat} {k : List D → Prop} (f : Nat → D)
    (hs : ∀ i, i < n → ∀ (R : List D → Prop) acc, R (acc ++ [f i]) → wt (blkD ρ vs j (.a (.int (0 + (i : Int))))) fun b => if b = true then we (blkD ρ vs j (.a (.int (0 + (i : Int))))) fun y => R (acc ++ [y]) else R acc) (hk : k ((List.range n).map f)) :
    ∃ P : Nat → List D → Prop, P 0 [] ∧ (∀ i d acc, (rangeD 0 n)[i]? = some d → P i acc → wt (blkD ρ vs j d) fun b => if b = true then we (blkD ρ vs j d) fun y => P (i + 1) (acc ++ [y]) else P (i + 1) acc) ∧ ∀ acc, P (rangeD 0 n).length acc → k acc := by
  refine ⟨fun i acc => acc = (List.range i).map f, rfl, fun i d acc hd e => ?_, fun acc e => ?_⟩
  · have hi : i < n := by
      have := (List.getElem?_eq_some_iff.mp hd).1
      rw [rangeD_len] at this
      exact this
    rw [rangeD_get hi] at hd
    cases hd
    refine hs i hi (fun acc => acc = (List.range (i + 1)).map f) acc ?_
    rw [e, List.range_succ, List.map_append]
    rfl
  · have e : acc = (List.range (rangeD 0 n).length).map f := e
    rw [rangeD_len] at e
    rw [e]
    exact hk
theorem nolst_strs : ∀ xs : List Str, nolstL (strsD xs) = true
  | [] => rfl
  | x :: r => by
    show (true && nolstL (strsD r)) = true
    rw [nolst_strs r]
    rfl
theorem tS_any {hd : List Str} {i : Int} {k : D → Prop} (h0 : 0 ≤ i) (h1 : i < (hd.length : Int)) (hk : ∀ c ∈ hd, k (sD c)) : jIx (tS hd) (.a (.int i)) k :=
  tix_any h0 (by rw [strsD_len]; exact h1) fun d hd' => by
    obtain ⟨c, hc, rfl⟩ := List.mem_map.mp hd'
    exact hk c hc
theorem lS_any {hd : List Str} {i : Int} {k : D → Prop} (h0 : 0 ≤ i) (h1 : i < (hd.length : Int)) (hk : ∀ c ∈ hd, k (sD c)) : jIx (lS hd) (.a (.int i)) k :=
  lix_any h0 (by rw [strsD_len]; exact h1) fun d hd' => by
    obtain ⟨c, hc, rfl⟩ := List.mem_map.mp hd'
    exact hk c hc
theorem lV_any {xs : List V} {i : Int} {k : D → Prop} (h0 : 0 ≤ i) (h1 : i < (xs.length : Int)) (hk : ∀ c ∈ xs, k (.a c)) : jIx (lV xs) (.a (.int i)) k :=
  lix_any h0 (by rw [tV_len]; exact h1) fun d hd' => by
    obtain ⟨c, hc, rfl⟩ := List.mem_map.mp hd'
    exact hk c hc
theorem iL_any {xs : List Int} {i : Int} {k : D → Prop} (h0 : 0 ≤ i) (h1 : i < (xs.length : Int)) (hk : ∀ c ∈ xs, k (.a (.int c))) : jIx (iL xs) (.a (.int i)) k :=
  lix_any h0 (by rw [List.length_map]; exact h1) fun d hd' => by
    obtain ⟨c, hc, rfl⟩ := List.mem_map.mp hd'
    exact hk c hc
theorem iL_at {xs : List Int} {i : Int} {j : Nat} {k : D → Prop} (e : i = (j : Int)) (h1 : j < xs.length) (hk : ∀ c ∈ xs, k (.a (.int c))) : jIx (iL xs) (.a (.int i)) k := iL_any (by omega) (by omega) hk
/-! ### _law_heads -/
/-- a table's head -/
def GH (cs h : List Str) : Prop := h.Nodup ∧ h.length ≤ 3 ∧ ∀ c ∈ h, c ∈ cs.take 5
theorem GH.rev {cs h : List Str} (g : GH cs h) : GH cs h.reverse := ⟨(List.reverse_perm h).nodup_iff.mpr g.1, by rw [List.length_reverse]; exact g.2.1, fun c hc => g.2.2 c (List.mem_reverse.mp hc)⟩
def colAt (cs : List Str) (b s : Int) (j : Nat) : Str := cs.getD ((b + (j : Int) * s) % 5).toNat Str.empty
theorem colAt_get {cs : List Str} (hl : cs.length = 6) (b s : Int) (j : Nat) : cs[((b + (j : Int) * s) % 5).toNat]? = some (colAt cs b s j) := by
  have h := mod_lt (i := b + (j : Int) * s) (j := 5) (by decide)
  unfold colAt
  rw [List.getD_eq_getElem?_getD, List.getElem?_eq_getElem (by omega)]
  rfl
theorem head_good {cs : List Str} (hl : cs.length = 6) (hn : cs.Nodup) {b s : Int} (hs : 1 ≤ s ∧ s ≤ 4) {n : Nat} (h3 : n ≤ 3) : GH cs ((List.range n).map (colAt cs b s)) := by
  refine ⟨nodup_map (fun i hi j hj e => ?_) List.nodup_range, by simpa using h3, fun c hc => ?_⟩
  · have hi := List.mem_range.mp hi
    have hj := List.mem_range.mp hj
    have a := colAt_get hl b s i
    have a' := colAt_get hl b s j
    rw [e] at a
    have b1 := mod_lt (i := b + (i : Int) * s) (j := 5) (by decide)
    have b2 := mod_lt (i := b + (j : Int) * s) (j := 5) (by decide)
    have q := (List.getElem?_inj (by omega) hn).mp (a.trans a'.symm)
    have q2 : (b + (i : Int) * s) % 5 = (b + (j : Int) * s) % 5 := by omega
    have hi3 : i = 0 ∨ i = 1 ∨ i = 2 := by omega
    have hj3 : j = 0 ∨ j = 1 ∨ j = 2 := by omega
    rcases hi3 with rfl | rfl | rfl <;> rcases hj3 with rfl | rfl | rfl <;> first | rfl | (exfalso; simp only [Nat.cast_ofNat_Int, Int.Nat.cast_ofNat_Int, Int.ofNat_zero, Nat.cast_zero, Nat.cast_one, Int.zero_mul, Int.one_mul] at q2; omega) | (exfalso; omega)
  · obtain ⟨j, _, rfl⟩ := List.mem_map.mp hc
    have a := colAt_get hl b s j
    have b1 := mod_lt (i := b + (j : Int) * s) (j := 5) (by decide)
    refine List.mem_of_getElem? (i := ((b + (j : Int) * s) % 5).toNat) ?_
    rw [List.getElem?_take, if_pos (by omega)]
    exact a
section
variable {P : Program} {w : World} {K : PySem.W.Frag} {mg : Str → Option Value} {base : Heap} {C : Addr}
def fsHeads : FS := fs (ι := Int × List Str) (fun ⟨c, cs⟩ => [.a (.int c), lS cs]) (fun ⟨_, cs⟩ => cs.length = 6 ∧ cs.Nodup) (fun ⟨_, cs⟩ d => ∃ h0 h1 h2, d = .lst [tS h0, tS h1, tS h2] ∧ GH cs h0 ∧ GH cs h1 ∧ GH cs h2)
abbrev s_l_heads : Stmt := top 46
theorem sc_l_heads : FnScope ["_law_cell", "_law_columns", "_law_xs", "_law_heads_here", "_law_k", "_law_size", "_law_begin", "_law_step_here", "_law_j"] ["_law_cell", "_law_columns"] (defScope s_l_heads) := ⟨rfl, rfl, rfl, by decide +kernel, rfl, by decide +kernel, by decide +kernel⟩
theorem c_l_heads (T : Txt mg) (Df : DefAt K mg "_law_heads" s_l_heads) (c_l_stream : Callee P w K mg base C 1 "_law_stream" ["_law_cell", "_law_many"] fsStream) : Callee P w K mg base C 2 "_law_heads" ["_law_cell", "_law_columns"] fsHeads := by
  refine def_ok Df sc_l_heads (fun _ _ _ _ _ _ us hl => match us, hl with | [_, _], _ => rfl) (fs_len fun _ => rfl) fun fa cdv A outer s H E hr => ⟨_, _,
    (dss_cons (ds_set (i := 2) (de_call c_l_stream (hr.mono (Nat.le_refl _)) (da_cons (de_var 0) (da_cons de_int da_nil))) sc_l_heads.nd)
    (dss_cons (ds_ownNew (i := 3) sc_l_heads.nd)
    (dss_cons (ds_for PassesOwn.never rfl (di_range1 T.m_range (da_cons de_int da_nil)) (pg_name (i := 4) sc_l_heads.nd rfl (Or.inl rfl)) (dss_cons (ds_set (i := 5) (de_op p_add de_int (de_op o_mod (de_ixJ (hu_of hr) (de_var 2) (de_op o_mul de_int (de_var 4))) de_int)) sc_l_heads.nd)
    (dss_cons (ds_if (dp_cmp (p_eq hr.units) (de_op o_mod (de_op o_fdiv (de_ixJ (hu_of hr) (de_var 2) (de_op o_mul de_int (de_var 4))) de_int) de_int) de_int) (dss_one (ds_set (i := 5) de_int sc_l_heads.nd)) dss_nil)
    (dss_cons (ds_set (i := 6) (de_op o_mod (de_ixJ (hu_of hr) (de_var 2) (de_op p_add (de_op o_mul de_int (de_var 4)) de_int)) de_int) sc_l_heads.nd)
    (dss_cons (ds_set (i := 7) (de_op p_add de_int (de_op o_mod (de_ixJ (hu_of hr) (de_var 2) (de_op p_add (de_op o_mul de_int (de_var 4)) de_int)) de_int)) sc_l_heads.nd)
    (dss_one (ds_app (i := 3) (de_callT c_tuple T.m_tuple boot_tuple (da_cons (de_lcX (own := [("_law_j", 8)]) (j := 8) rfl sc_l_heads.nd (di_range1 T.m_range (da_cons (de_var 5) da_nil)) (blkOk_by (own := [("_law_j", 8)]) (N := ["_law_cell", "_law_columns", "_law_xs", "_law_heads_here", "_law_k", "_law_size", "_law_begin", "_law_step_here", "_law_j"]) (sc := defScope s_l_heads) (by decide +kernel)) (by decide) (fun _ _ _ _ _ => pg_name (i := 8) sc_l_heads.nd rfl (Or.inl rfl)) (fun _ _ _ _ _ => ⟨_, dts_nil⟩) (fun _ _ _ _ _ => ⟨_, (de_ixJ (hu_of hr) (de_var 1) (de_op o_mod (de_op p_add (de_var 6) (de_op o_mul (de_var 8) (de_var 7))) de_int))⟩)) da_nil)))))))))
    (dss_cons (ds_if (dp_cmp (p_eq hr.units) (de_op o_mod (de_ixJ (hu_of hr) (de_var 2) de_int) de_int) de_int) (dss_one (ds_setIt (i := 3) (de_rev (de_ixJ (hu_of hr) (de_var 3) de_int)) de_int)) dss_nil)
    (dss_frz (dss_one (ds_ret (de_var 3)))))))), ?_⟩
  rintro so ds k ⟨⟨c, cs⟩, rfl, ⟨hl, hn⟩, hk⟩
  refine ⟨(c, 10), rfl, (show 10 ≤ 1000 by decide), ?_⟩
  rintro d ⟨xs, rfl, hx, hp⟩
  refine ⟨⟨rfl, by show 3 < 9; decide⟩, ⟨by decide, ?_⟩⟩
  refine ⟨fun i ρ => ∃ (o1 o2 o3 o4 : Option D) (hs : List (List Str)), ρ = ⟨[some (.a (.int c)), some (lS cs), some (iL xs), none, o1, o2, o3, o4, none], some (3, hs.map tS), so⟩ ∧ hs.length = i ∧ ∀ h ∈ hs, GH cs h, ⟨none, none, none, none, [], rfl, rfl, fun _ h => nomatch h⟩, ?_, ?_⟩
  · rintro i d ρ hi ⟨o1, o2, o3, o4, hs, rfl, hlen, hg⟩
    have hi3 : i < 3 := by
      have := (List.getElem?_eq_some_iff.mp hi).1
      rw [rangeD_len] at this
      exact this
    have hi : (rangeD 0 3)[i]? = some d := hi
    rw [rangeD_get hi3] at hi
    cases hi
    have m3 : ∀ {z : Int}, CMul 3 z := fun {z} => .inl (by decide)
    refine ⟨m3, iL_at (j := 3 * i) (by omega) (by omega) fun x0 hx0 => ⟨by decide, add_i ?_⟩⟩
    have r0 := mod_lt (i := x0) (j := 3) (by decide)
    refine ⟨m3, iL_at (j := 3 * i) (by omega) (by omega) fun x1 hx1 => ⟨cdiv (by decide) (by decide), ⟨by decide, eq_i ?_⟩⟩⟩
    have fin : ∀ (z y s0 : Int), 0 ≤ z → z ≤ 3 → ∃ o1 o2 o3 o4 hs', (⟨[some (.a (.int c)), some (lS cs), some (iL xs), none, some (.a (.int (0 + (i : Int)))), some (.a (.int z)), some (.a (.int (y % 5))), some (.a (.int (1 + s0 % 4))), none], some (3, hs.map tS ++ [D.tup ((List.range z.toNat).map fun j => sD (colAt cs (y % 5) (1 + s0 % 4) j))]), so⟩ : DSt) = ⟨[some (.a (.int c)), some (lS cs), some (iL xs), none, o1, o2, o3, o4, none], some (3, List.map tS hs'), so⟩ ∧ hs'.length = i + 1 ∧ ∀ h ∈ hs', GH cs h := fun z y s0 hz0 hz3 => by
      have rs := mod_lt (i := s0) (j := 4) (by decide)
      refine ⟨some (.a (.int (0 + (i : Int)))), some (.a (.int z)), some (.a (.int (y % 5))), some (.a (.int (1 + s0 % 4))), hs ++ [(List.range z.toNat).map (colAt cs (y % 5) (1 + s0 % 4))], ?_, by simp [hlen], fun h hh => ?_⟩
      · rw [List.map_append]
        have e : (D.tup ((List.range z.toNat).map fun j => sD (colAt cs (y % 5) (1 + s0 % 4) j))) = tS ((List.range z.toNat).map (colAt cs (y % 5) (1 + s0 % 4))) := by
          unfold tS strsD
          rw [List.map_map]
          rfl
        rw [e]
        rfl
      · rcases List.mem_append.mp hh with q | q
        · exact hg h q
        · rw [List.mem_singleton.mp q]
          exact head_good hl hn (by omega) (by omega)
    refine ⟨fun _ => ?_, fun _ => ?_⟩
    · refine ⟨m3, add_i (iL_at (j := 3 * i + 1) (by omega) (by omega) fun y hy => ⟨by decide, ⟨m3, add_i (iL_at (j := 3 * i + 2) (by omega) (by omega) fun s0 hs0 => ⟨by decide, add_i ?_⟩)⟩⟩)⟩
      refine ⟨_, rfl, ⟨by decide, by decide⟩, ⟨by rw [rangeD_len]; decide, lc_rng (fun j => sD (colAt cs (y % 5) (1 + s0 % 4) j)) ?_ ?_⟩⟩
      · intro j hj R acc hR
        exact absurd hj (Nat.not_lt_zero j)
      · exact ⟨by rw [List.length_map, hlen]; omega, fin 0 y s0 (by decide) (by decide)⟩
    · refine ⟨m3, add_i (iL_at (j := 3 * i + 1) (by omega) (by omega) fun y hy => ⟨by decide, ⟨m3, add_i (iL_at (j := 3 * i + 2) (by omega) (by omega) fun s0 hs0 => ⟨by decide, add_i ?_⟩)⟩⟩)⟩
      have rs := mod_lt (i := s0) (j := 4) (by decide)
      refine ⟨_, rfl, ⟨by omega, by omega⟩, ⟨by rw [rangeD_len]; omega, lc_rng (fun j => sD (colAt cs (y % 5) (1 + s0 % 4) j)) ?_ ?_⟩⟩
      · intro j hj R acc hR
        have cm : CMul (0 + (j : Int)) (1 + s0 % 4) := .inr (by constructor <;> omega)
        have cg := colAt_get hl (y % 5) (1 + s0 % 4) j
        have b1 := mod_lt (i := y % 5 + (j : Int) * (1 + s0 % 4)) (j := 5) (by decide)
        refine ⟨cm, add_i ⟨by decide, lix (j := ((y % 5 + (j : Int) * (1 + s0 % 4)) % 5).toNat) ?_ ?_ hR⟩⟩
        · rw [Int.zero_add]
          omega
        · show (strsD cs)[_]? = _
          unfold strsD
          rw [List.getElem?_map, cg]
          rfl
      · exact ⟨by rw [List.length_map, hlen]; omega, fin (1 + x0 % 3) y s0 (by omega) (by omega)⟩
  · rintro ρ ⟨o1, o2, o3, o4, hs, rfl, hlen, hg⟩
    rw [rangeD_len] at hlen
    obtain ⟨h0, h1, h2, rfl⟩ : ∃ h0 h1 h2, hs = [h0, h1, h2] := by
      match hs, hlen with
      | [h0, h1, h2], _ => exact ⟨h0, h1, h2, rfl⟩
    have g0 := hg h0 (by simp)
    have g1 := hg h1 (by simp)
    have g2 := hg h2 (by simp)
    refine iL_at (j := 9) rfl (by omega) fun x9 _ => ⟨by decide, eq_i ⟨fun _ => ?_, fun _ => ?_⟩⟩
    · refine ⟨_, rfl, lix (j := 0) rfl rfl ⟨?_, 2, rfl, (show 2 < 3 by decide), ⟨_, rfl⟩, hk _ ⟨h0, h1, h0.reverse, ?_, g0, g1, g0.rev⟩⟩⟩
      · show nolstL (strsD h0).reverse = true
        have e : (strsD h0).reverse = strsD h0.reverse := by unfold strsD; rw [List.map_reverse]
        rw [e]
        exact nolst_strs _
      · show D.lst [tS h0, tS h1, .tup (strsD h0).reverse] = _
        have e : (strsD h0).reverse = strsD h0.reverse := by unfold strsD; rw [List.map_reverse]
        rw [e]
        rfl
    · exact ⟨⟨_, rfl⟩, hk _ ⟨h0, h1, h2, rfl, g0, g1, g2⟩⟩
end
end Wh

namespace Wh
open PySem L2
section
variable {P : Program} {w : World} {K : PySem.W.Frag} {mg : Str → Option Value} {base : Heap} {C : Addr}
/-! ### _law_bent -/
def bent (hd : List Str) (n : Int) : List Str := hd.drop (n % ((hd.length : Int) + 1)).toNat ++ hd.take (n % ((hd.length : Int) + 1)).toNat
def fsBent : FS := ⟨fun _ ds k => ∃ hd n, ds = [tS hd, .a (.int n)] ∧ hd.length ≤ 1000 ∧ k (tS (bent hd n)), fun _ _ _ _ h ⟨hd, n, e, l, z⟩ => ⟨hd, n, e, l, h _ z⟩⟩
abbrev s_l_bent : Stmt := top 47
theorem sc_l_bent : FnScope ["_law_head", "_law_number", "_law_at"] ["_law_head", "_law_number"] (defScope s_l_bent) := ⟨rfl, rfl, rfl, by decide +kernel, rfl, by decide +kernel, by decide +kernel⟩
theorem c_l_bent (T : Txt mg) (Df : DefAt K mg "_law_bent" s_l_bent) : Callee P w K mg base C 1 "_law_bent" ["_law_head", "_law_number"] fsBent := by
  refine def_ok Df sc_l_bent (fun _ _ _ _ _ _ us hl => match us, hl with | [_, _], _ => rfl) (fun _ _ _ ⟨_, _, e, _⟩ => by rw [e]; rfl) fun fa cdv A outer s H E hr => ⟨_, _,
    (dss_cons (ds_set (i := 2) (de_op o_mod (de_var 1) (de_op p_add (de_callB c_len T.m_len boot_len (da_cons (de_var 0) da_nil)) de_int)) sc_l_bent.nd)
    (dss_one (ds_ret (de_op p_add (de_sl (de_var 0) (dpo_some (de_var 2)) dpo_no) (de_sl (de_var 0) dpo_no (dpo_some (de_var 2))))))), ?_⟩
  rintro so ds k ⟨hd, n, rfl, hl, hk⟩
  have e1 := mod_lt (i := n) (j := (hd.length : Int) + 1) (by omega)
  have e2 : ((strsD hd).length : Int) = (hd.length : Int) := by rw [strsD_len]
  refine add_i ⟨by omega, ?_⟩
  obtain ⟨j, hj⟩ : ∃ j : Nat, n % (((strsD hd).length : Int) + 1) = (j : Int) := ⟨(n % (((strsD hd).length : Int) + 1)).toNat, by rw [e2]; omega⟩
  have hj2 : (n % ((hd.length : Int) + 1)).toNat = j := by rw [e2] at hj; omega
  have jl : j ≤ (strsD hd).length := by rw [strsD_len]; rw [e2] at hj; omega
  have eb : bent hd n = hd.drop j ++ hd.take j := by unfold bent; rw [hj2]
  rw [hj]
  show jAdd (.tup (cut (strsD hd) (some ((j : Nat) : Int)) none)) (.tup (cut (strsD hd) none (some ((j : Nat) : Int)))) k
  rw [cut_from _ jl, cut_upto _ jl, strsD_drop, strsD_take]
  refine add_tS (xs := hd.drop j) (ys := hd.take j) ?_ ?_
  · rw [List.length_drop, List.length_take, sizeLine_eq]
    omega
  · rw [← eb]
    exact hk
end
end Wh

namespace Wh
open PySem L2
/-! ### lists without repetitions -/
theorem nodup_le {α : Type} [DecidableEq α] : ∀ {l m : List α}, l.Nodup → (∀ x ∈ l, x ∈ m) → l.length ≤ m.length
  | [], m, _, _ => Nat.zero_le _
  | a :: l, m, h, s => by
    obtain ⟨h1, h2⟩ := List.nodup_cons.mp h
    have ha := s a List.mem_cons_self
    have ih := nodup_le (m := m.erase a) h2 fun x hx => (List.mem_erase_of_ne (fun e => h1 (by rw [← e]; exact hx))).mpr (s x (List.mem_cons_of_mem _ hx))
    rw [List.length_erase_of_mem ha] at ih
    have := List.length_pos_of_mem ha
    rw [List.length_cons]
    omega
theorem bent_mem {hd : List Str} {n : Int} {c : Str} : c ∈ bent hd n ↔ c ∈ hd := by
  unfold bent
  generalize (n % ((hd.length : Int) + 1)).toNat = j
  rw [List.mem_append, Or.comm, ← List.mem_append, List.take_append_drop]
theorem bent_perm (hd : List Str) (n : Int) : (bent hd n).Perm hd := by
  unfold bent
  generalize (n % ((hd.length : Int) + 1)).toNat = j
  have e := List.perm_append_comm (l₁ := hd.drop j) (l₂ := hd.take j)
  rw [List.take_append_drop] at e
  exact e
theorem bent_nodup {hd : List Str} (n : Int) (h : hd.Nodup) : (bent hd n).Nodup := (bent_perm hd n).nodup_iff.mpr h
theorem bent_len (hd : List Str) (n : Int) : (bent hd n).length = hd.length := (bent_perm hd n).length_eq
section
variable {P : Program} {w : World} {K : PySem.W.Frag} {mg : Str → Option Value} {base : Heap} {C : Addr}
/-! ### _law_test -/
def fsTest : FS := fs (ι := List Int × List Str × List V) (fun ⟨xs, hd, pool⟩ => [iL xs, tS hd, lV pool]) (fun ⟨xs, hd, pool⟩ => xs.length = 6 ∧ hd ≠ [] ∧ pool ≠ [] ∧ ∀ v ∈ pool, okV v = true)
  (fun ⟨_, hd, _⟩ d => ∃ t, d = encT t ∧ (∀ c ∈ told t, c ∈ hd) ∧ t.dep ≤ 5 ∧ t.ok = true)
abbrev s_l_test : Stmt := top 48
theorem sc_l_test : FnScope ["_law_xs", "_law_head", "_law_pool_here", "_law_one", "_law_other", "_law_third", "_law_tests"] ["_law_xs", "_law_head", "_law_pool_here"] (defScope s_l_test) := ⟨rfl, rfl, rfl, by decide +kernel, rfl, by decide +kernel, by decide +kernel⟩
theorem c_l_test (T : Txt mg) (Df : DefAt K mg "_law_test" s_l_test) : Callee P w K mg base C 1 "_law_test" ["_law_xs", "_law_head", "_law_pool_here"] fsTest := by
  refine def_ok Df sc_l_test (fun _ _ _ _ _ _ us hl => match us, hl with | [_, _, _], _ => rfl) (fs_len fun _ => rfl) fun fa cdv A outer s H E hr => ⟨_, _,
    (dss_cons (ds_set (i := 3) (de_tup (da_cons de_str (da_cons (de_ixJ (hu_of hr) (de_var 1) (de_op o_mod (de_ixJ (hu_of hr) (de_var 0) de_int) (de_callB c_len T.m_len boot_len (da_cons (de_var 1) da_nil)))) (da_cons (de_ixJ (hu_of hr) (de_var 2) (de_op o_mod (de_ixJ (hu_of hr) (de_var 0) de_int) (de_callB c_len T.m_len boot_len (da_cons (de_var 2) da_nil)))) da_nil)))) sc_l_test.nd)
    (dss_cons (ds_set (i := 4) (de_tup (da_cons de_str (da_cons (de_ixJ (hu_of hr) (de_var 1) (de_op o_mod (de_ixJ (hu_of hr) (de_var 0) de_int) (de_callB c_len T.m_len boot_len (da_cons (de_var 1) da_nil)))) (da_cons (de_ixJ (hu_of hr) (de_var 1) (de_op o_mod (de_ixJ (hu_of hr) (de_var 0) de_int) (de_callB c_len T.m_len boot_len (da_cons (de_var 1) da_nil)))) da_nil)))) sc_l_test.nd)
    (dss_cons (ds_set (i := 5) (de_tup (da_cons de_str (da_cons (de_tup (da_cons de_str (da_cons (de_var 3) da_nil))) (da_cons (de_tup (da_cons de_str (da_cons (de_var 4) (da_cons (de_tup (da_cons de_str (da_cons (de_ixJ (hu_of hr) (de_var 1) (de_op o_mod (de_ixJ (hu_of hr) (de_var 0) de_int) (de_callB c_len T.m_len boot_len (da_cons (de_var 1) da_nil)))) (da_cons (de_ixJ (hu_of hr) (de_var 2) de_int) da_nil)))) da_nil)))) da_nil)))) sc_l_test.nd)
    (dss_cons (ds_set (i := 6) (de_lst (da_cons (de_var 3) (da_cons (de_tup (da_cons de_str (da_cons (de_var 3) da_nil))) (da_cons (de_var 4) (da_cons (de_tup (da_cons de_str (da_cons (de_var 4) da_nil))) (da_cons (de_tup (da_cons de_str (da_cons (de_var 3) (da_cons (de_var 4) da_nil)))) (da_cons (de_var 5) da_nil))))))) sc_l_test.nd)
    (dss_one (ds_ret (de_ixJ (hu_of hr) (de_var 6) (de_op o_mod (de_ixJ (hu_of hr) (de_var 0) de_int) de_int)))))))), ?_⟩
  rintro so ds k ⟨⟨xs, hd, pool⟩, rfl, ⟨hx, hne, pne, hp⟩, hk⟩
  have ph : (0 : Int) < ((strsD hd).length : Int) := by
    rw [strsD_len]
    have := List.length_pos_iff.mpr hne
    omega
  have ph2 : ((strsD hd).length : Int) = (hd.length : Int) := by rw [strsD_len]
  have pp : (0 : Int) < ((pool.map D.a).length : Int) := by
    rw [List.length_map]
    have := List.length_pos_iff.mpr pne
    omega
  have pp2 : ((pool.map D.a).length : Int) = (pool.length : Int) := by rw [List.length_map]
  have H1 : ∀ {z : Int} {K : D → Prop}, (∀ c ∈ hd, K (sD c)) → jIx (tS hd) (.a (.int (z % ((strsD hd).length : Int)))) K := fun {z K} h => tS_any (mod_lt ph).1 (by rw [← ph2]; exact (mod_lt ph).2) h
  have H2 : ∀ {z : Int} {K : D → Prop}, (∀ c ∈ pool, K (.a c)) → jIx (lV pool) (.a (.int (z % ((pool.map D.a).length : Int)))) K := fun {z K} h => lV_any (mod_lt pp).1 (by rw [← pp2]; exact (mod_lt pp).2) h
  refine iL_at (j := 0) rfl (by omega) fun x0 _ => ⟨ph, H1 fun c0 m0 => iL_at (j := 2) rfl (by omega) fun x2 _ => ⟨pp, H2 fun v0 n0 => ?_⟩⟩
  refine iL_at (j := 1) rfl (by omega) fun x1 _ => ⟨ph, H1 fun c1 m1 => iL_at (j := 0) rfl (by omega) fun x3 _ => ⟨ph, H1 fun c2 m2 => ?_⟩⟩
  refine iL_at (j := 1) rfl (by omega) fun x4 _ => ⟨ph, H1 fun c3 m3 => lV_any (by decide) (by rw [← pp2]; exact pp) fun v1 n1 => ?_⟩
  refine iL_at (j := 3) rfl (by omega) fun x5 _ => ⟨by decide, lix_any (mod_lt (by decide)).1 (mod_lt (i := x5) (j := 6) (by decide)).2 fun d hd' => hk _ ?_⟩
  have o0 := hp v0 n0
  have o1 := hp v1 n1
  have t0 : ∀ c ∈ told (.is c0 v0), c ∈ hd := fun c h => by rw [List.mem_singleton.mp h]; exact m0
  have t1 : ∀ c ∈ told (.same c1 c2), c ∈ hd := fun c h => by
    rcases List.mem_cons.mp h with z | z
    · rw [z]; exact m1
    · rw [List.mem_singleton.mp z]; exact m2
  have t2 : ∀ c ∈ told (.is c3 v1), c ∈ hd := fun c h => by rw [List.mem_singleton.mp h]; exact m3
  rcases List.mem_cons.mp hd' with z | hd'
  · exact ⟨.is c0 v0, z, t0, by show 1 ≤ 5; decide, o0⟩
  rcases List.mem_cons.mp hd' with z | hd'
  · exact ⟨.neg (.is c0 v0), z, t0, by show 1 + 1 ≤ 5; decide, o0⟩
  rcases List.mem_cons.mp hd' with z | hd'
  · exact ⟨.same c1 c2, z, t1, by show 1 ≤ 5; decide, rfl⟩
  rcases List.mem_cons.mp hd' with z | hd'
  · exact ⟨.neg (.same c1 c2), z, t1, by show 1 + 1 ≤ 5; decide, rfl⟩
  rcases List.mem_cons.mp hd' with z | hd'
  · refine ⟨.disj (.is c0 v0) (.same c1 c2), z, fun c h => ?_, by show max 1 1 + 1 ≤ 5; decide, Bool.and_eq_true_iff.mpr ⟨o0, rfl⟩⟩
    rcases List.mem_append.mp (show c ∈ told (.is c0 v0) ++ told (.same c1 c2) from h) with q | q
    · exact t0 c q
    · exact t1 c q
  rcases List.mem_cons.mp hd' with z | hd'
  · refine ⟨.conj (.neg (.is c0 v0)) (.disj (.same c1 c2) (.is c3 v1)), z, fun c h => ?_, by show max (1 + 1) (max 1 1 + 1) + 1 ≤ 5; decide, Bool.and_eq_true_iff.mpr ⟨o0, Bool.and_eq_true_iff.mpr ⟨rfl, o1⟩⟩⟩
    rcases List.mem_append.mp (show c ∈ told (.is c0 v0) ++ (told (.same c1 c2) ++ told (.is c3 v1)) from h) with q | q
    · exact t0 c q
    · rcases List.mem_append.mp q with q | q
      · exact t1 c q
      · exact t2 c q
  · cases hd'
/-! ### _law_both -/
def fsBoth : FS := fs (ι := (Qn × List Str) × (Qn × List Str)) (fun ⟨⟨a, ha⟩, ⟨b, hb⟩⟩ => [encQ a, tS ha, encQ b, tS hb]) (fun ⟨⟨_, ha⟩, ⟨_, hb⟩⟩ => ha.length ≤ 100 ∧ hb.length ≤ 100) (fun ⟨⟨a, ha⟩, ⟨b, hb⟩⟩ d => d = .tup [encQ (.join a b), tS (ha ++ joinX ha hb)])
abbrev s_l_both : Stmt := top 51
theorem sc_l_both : FnScope ["_law_one", "_law_head", "_law_other", "_law_second", "_law_column"] ["_law_one", "_law_head", "_law_other", "_law_second"] (defScope s_l_both) := ⟨rfl, rfl, rfl, by decide +kernel, rfl, by decide +kernel, by decide +kernel⟩
theorem c_l_both (T : Txt mg) (Df : DefAt K mg "_law_both" s_l_both) : Callee P w K mg base C 1 "_law_both" ["_law_one", "_law_head", "_law_other", "_law_second"] fsBoth := by
  refine def_ok Df sc_l_both (fun _ _ _ _ _ _ us hl => match us, hl with | [_, _, _, _], _ => rfl) (fs_len fun _ => rfl) fun fa cdv A outer s H E hr => ⟨_, _,
    (dss_one (ds_ret (de_tup (da_cons (de_tup (da_cons de_str (da_cons (de_var 0) (da_cons (de_var 2) da_nil)))) (da_cons (de_op p_add (de_var 1) (de_callT c_tuple T.m_tuple boot_tuple (da_cons (de_lcX (own := [("_law_column", 4)]) (j := 4) rfl sc_l_both.nd (di_seq (de_var 3)) (blkOk_by (own := [("_law_column", 4)]) (N := ["_law_one", "_law_head", "_law_other", "_law_second", "_law_column"]) (sc := defScope s_l_both) (by decide +kernel)) (by decide) (fun _ _ _ _ _ => pg_name (i := 4) sc_l_both.nd rfl (Or.inl rfl)) (fun _ _ _ _ _ => ⟨_, (dts_one (dp_cmp (p_notIn (hu_of hr)) (de_var 4) (de_var 1)))⟩) (fun _ _ _ _ _ => ⟨_, (de_var 4)⟩)) da_nil))) da_nil))))), ?_⟩
  rintro so ds k ⟨⟨⟨a, ha⟩, ⟨b, hb⟩⟩, rfl, ⟨l1, l2⟩, hk⟩
  refine ⟨by rw [strsD_len]; show hb.length ≤ _; omega, lc_in (neg := true) (hd := ha) (cs := hb) (fun _ => rfl) (fun _ => rfl) ?_⟩
  have q := joinX_len ha hb
  exact add_tS (xs := ha) (ys := joinX ha hb) (by rw [sizeLine_eq]; omega) (hk _ rfl)
end
/-! ### worlds, questions that stand for something -/
structure WOk (W : Wd) : Prop where
  n5 : W.ns.length = 5
  nN : W.ns.Nodup
  nS : ∀ z ∈ W.ns, sOk z = true
  c6 : W.cs.length = 6
  cN : W.cs.Nodup
  cS : ∀ z ∈ W.cs, sOk z = true
  hs : W.hs.map (·.1) = W.ns.take 3
  hOk : ∀ p ∈ W.hs, GH W.cs p.2
  pN : W.pool ≠ []
  p3 : W.pool.length ≤ 3
  pO : ∀ v ∈ W.pool, okV v = true
theorem lookup_of : ∀ {hs : Hs} {n : Str}, n ∈ hs.map (·.1) → ∃ h, hs.lookup n = some h ∧ (n, h) ∈ hs
  | [], _, h => nomatch h
  | (m, g) :: r, n, h => by
    rw [List.lookup_cons]
    by_cases c : n = m
    · subst c
      exact ⟨g, by simp, List.mem_cons_self⟩
    · have c' : (n == m) = false := by simpa using c
      rw [c']
      rcases List.mem_cons.mp h with z | z
      · exact absurd z c
      · obtain ⟨q, h1, h2⟩ := lookup_of (hs := r) z
        exact ⟨q, h1, List.mem_cons_of_mem _ h2⟩
/-- a table's head -/
theorem WOk.tab {W : Wd} (w : WOk W) {n : Str} (h : n ∈ W.ns.take 3) : ∃ g, W.hs.lookup n = some g ∧ GH W.cs g := by
  rw [← w.hs] at h
  obtain ⟨g, h1, h2⟩ := lookup_of h
  exact ⟨g, h1, w.hOk _ h2⟩
theorem GH.cols {cs h : List Str} (g : GH cs h) : ∀ c ∈ h, c ∈ cs := fun c hc => List.mem_of_mem_take (g.2.2 c hc)
theorem WOk.tabOk {W : Wd} (w : WOk W) {n : Str} (h : n ∈ W.ns.take 3) : Ok W.hs (.table n) ∧ GH W.cs (hdQ W.hs (.table n)) := by
  obtain ⟨g, h1, h2⟩ := w.tab h
  have e : hdQ W.hs (.table n) = g := by show (W.hs.lookup n).getD [] = g; rw [h1]; rfl
  exact ⟨⟨g, h1, h2.1, Nat.le_trans h2.2.1 (by decide)⟩, by rw [e]; exact h2⟩
theorem WOk.six {W : Wd} (w : WOk W) {h : List Str} (n : h.Nodup) (s : ∀ c ∈ h, c ∈ W.cs) : h.length ≤ 6 := by
  have := nodup_le n s
  rw [w.c6] at this
  exact this
theorem join_ok {W : Wd} (w : WOk W) {a b : Qn} (ha : Ok W.hs a) (hb : Ok W.hs b) (sa : ∀ c ∈ hdQ W.hs a, c ∈ W.cs) (sb : ∀ c ∈ hdQ W.hs b, c ∈ W.cs) : Ok W.hs (.join a b) ∧ ∀ c ∈ hdQ W.hs (.join a b), c ∈ W.cs := by
  have s : ∀ c ∈ hdQ W.hs a ++ joinX (hdQ W.hs a) (hdQ W.hs b), c ∈ W.cs := fun c hc => by
    rcases List.mem_append.mp hc with q | q
    · exact sa c q
    · exact sb c (joinX_mem q)
  exact ⟨⟨ha, hb, w.six (join_nodup (ok_head ha).1 (ok_head hb).1) s⟩, s⟩
/-! ### one round of a ring -/
/-- the step's join of what the ring's table stands for and a table -/
def jn (sw : Bool) (n o : Qn) : Qn := if sw then .join o n else .join n o
/-- what a step does with it -/
inductive Core where
  | keep (cs : List Str) (sw : Bool) (o : Str)
  | call (a b : Str) (cs : List Str) (sw : Bool) (o : Str)
def Core.q : Core → Qn → Qn
  | .keep cs sw o, n => .keep cs (jn sw n (.table o))
  | .call a b cs sw o, n => .call a b (.keep cs (jn sw n (.table o)))
def Core.tab : Core → Str
  | .keep _ _ o => o
  | .call _ _ _ _ o => o
theorem repl_ne {o m : Str} {Q : Qn} (h : o ≠ m) : repl (.table o) m Q = .table o := by unfold repl; rw [if_neg h]
theorem core_repl {c : Core} {m : Str} {Q : Qn} (h : c.tab ≠ m) : repl (c.q (.table m)) m Q = c.q Q := by
  have e1 : repl (.table m) m Q = Q := by unfold repl; rw [if_pos rfl]
  cases c with
  | keep cs sw o =>
    have e2 : repl (.table o) m Q = .table o := repl_ne h
    cases sw
    · show Qn.keep cs (.join (repl (.table m) m Q) (repl (.table o) m Q)) = _
      rw [e1, e2]; rfl
    · show Qn.keep cs (.join (repl (.table o) m Q) (repl (.table m) m Q)) = _
      rw [e1, e2]; rfl
  | call a b cs sw o =>
    have e2 : repl (.table o) m Q = .table o := repl_ne h
    cases sw
    · show Qn.call a b (.keep cs (.join (repl (.table m) m Q) (repl (.table o) m Q))) = _
      rw [e1, e2]; rfl
    · show Qn.call a b (.keep cs (.join (repl (.table o) m Q) (repl (.table m) m Q))) = _
      rw [e1, e2]; rfl
/-- what must hold of it, by the ring's head -/
def CoreOk (W : Wd) (hd : List Str) : Core → Prop
  | .keep cs _ o => o ∈ W.ns.take 3 ∧ cs.Nodup ∧ (∀ c, c ∈ cs ↔ c ∈ hd)
  | .call a b cs _ o => o ∈ W.ns.take 3 ∧ cs.Nodup ∧ a ∈ hdQ W.hs (.table o) ∧ a ∉ hd ∧ b ∈ hd ∧ (∀ c, c ∈ cs ↔ (c ∈ hd ∧ c ≠ b) ∨ c = a)
structure Does (W : Wd) (hd : List Str) (dg dp : Nat) (q : Qn) : Prop where
  ok : Ok W.hs q
  mem : ∀ c, c ∈ hdQ W.hs q ↔ c ∈ hd
  deg : deg q ≤ dg
  dep : q.dep ≤ dp
theorem jn_ok {W : Wd} (w : WOk W) {sw : Bool} {Q : Qn} {o : Str} (ho : o ∈ W.ns.take 3) (hq : Ok W.hs Q) (hs : ∀ c ∈ hdQ W.hs Q, c ∈ W.cs) : Ok W.hs (jn sw Q (.table o)) ∧ (∀ c, c ∈ hdQ W.hs (jn sw Q (.table o)) ↔ c ∈ hdQ W.hs Q ∨ c ∈ hdQ W.hs (.table o)) ∧ deg (jn sw Q (.table o)) = deg Q + 1 ∧ (jn sw Q (.table o)).dep ≤ Q.dep + 1 := by
  obtain ⟨t1, t2⟩ := w.tabOk ho
  have dp : 1 ≤ Q.dep := by cases Q <;> simp [Qn.dep]
  have mem : ∀ (a b : List Str) (c : Str), c ∈ a ++ joinX a b ↔ c ∈ a ∨ c ∈ b := fun a b c => by
    rw [List.mem_append, joinX_iff]
    by_cases h : c ∈ a
    · simp [h]
    · simp [h]
  cases sw with
  | false =>
    refine ⟨(join_ok w hq t1 hs t2.cols).1, fun c => mem _ _ c, rfl, ?_⟩
    show max Q.dep 1 + 1 ≤ Q.dep + 1
    omega
  | true =>
    refine ⟨(join_ok w t1 hq t2.cols hs).1, fun c => (mem _ _ c).trans Or.comm, ?_, ?_⟩
    · show 1 + deg Q = deg Q + 1
      omega
    · show max 1 Q.dep + 1 ≤ Q.dep + 1
      omega
theorem core_does {W : Wd} (w : WOk W) {hd : List Str} {c : Core} (hc : CoreOk W hd c) {Q : Qn} {dg dp : Nat} (hq : Does W hd dg dp Q) (hs : ∀ c ∈ hd, c ∈ W.cs) : Does W hd (dg + 1) (dp + 3) (c.q Q) := by
  have hqs : ∀ c ∈ hdQ W.hs Q, c ∈ W.cs := fun c hc => hs c ((hq.mem c).mp hc)
  cases c with
  | keep cs sw o =>
    obtain ⟨ho, nd, hm⟩ := hc
    obtain ⟨j1, j2, j3, j4⟩ := jn_ok w (sw := sw) ho hq.ok hqs
    refine ⟨⟨j1, nd, fun c h => (j2 c).mpr (.inl ((hq.mem c).mpr ((hm c).mp h))), w.six nd fun c h => hs c ((hm c).mp h)⟩, hm, ?_, ?_⟩
    · show deg (jn sw Q (.table o)) ≤ _
      have := hq.deg
      omega
    · show (jn sw Q (.table o)).dep + 1 ≤ _
      have := hq.dep
      omega
  | call a b cs sw o =>
    obtain ⟨ho, nd, ha, hna, hb, hm⟩ := hc
    obtain ⟨j1, j2, j3, j4⟩ := jn_ok w (sw := sw) ho hq.ok hqs
    have bn : b ∉ cs := fun h => by
      rcases (hm b).mp h with z | z
      · exact z.2 rfl
      · exact hna (z ▸ hb)
    obtain ⟨t1, t2⟩ := w.tabOk ho
    refine ⟨⟨⟨j1, nd, fun c h => (j2 c).mpr ?_, w.six nd fun c h => ?_⟩, (hm a).mpr (.inr rfl), fun h => absurd h bn⟩, fun c => ?_, ?_, ?_⟩
    · rcases (hm c).mp h with z | z
      · exact .inl ((hq.mem c).mpr z.1)
      · exact .inr (z ▸ ha)
    · rcases (hm c).mp h with z | z
      · exact hs c z.1
      · exact t2.cols c (z ▸ ha)
    · show c ∈ callH a b cs ↔ c ∈ hd
      rw [callH_mem, hm c]
      constructor
      · rintro (⟨z | z, ne⟩ | ⟨z, _⟩)
        · exact z.1
        · exact absurd z ne
        · exact z ▸ hb
      · intro h
        by_cases e : c = b
        · exact .inr ⟨e, (hm a).mpr (.inr rfl)⟩
        · exact .inl ⟨.inl ⟨h, e⟩, fun z => hna (z ▸ h)⟩
    · show deg (jn sw Q (.table o)) ≤ _
      have := hq.deg
      omega
    · show (jn sw Q (.table o)).dep + 1 + 1 ≤ _
      have := hq.dep
      omega
end Wh

namespace Wh
open PySem L2
/-! ### steps -/
inductive Stp where
  | plain (c : Core)
  | put (c : Core)
  | pick (h : Str) (v : V) (c : Core)
  | ring (c : Core)
def Stp.core : Stp → Core
  | .plain c => c
  | .put c => c
  | .pick _ _ c => c
  | .ring c => c
def Stp.q (n3 n4 : Str) : Stp → Qn
  | .plain c => c.q (.table n3)
  | .put c => .put (.table n3) (c.q (.table n3))
  | .pick h v c => .pick (.neg (.is h v)) (c.q (.table n3))
  | .ring c => .ring n4 1 (.table n3) (c.q (.table n4))
def Stp.at (Q : Qn) : Stp → Qn
  | .plain c => c.q Q
  | .put c => .put Q (c.q Q)
  | .pick h v c => .pick (.neg (.is h v)) (c.q Q)
  | .ring c => .put Q (c.q Q)
theorem unr_jn (sw : Bool) (n o : Str) : unr (jn sw (.table n) (.table o)) = jn sw (.table n) (.table o) := by cases sw <;> rfl
theorem unr_core (c : Core) (n : Str) : unr (c.q (.table n)) = c.q (.table n) := by
  cases c with
  | keep cs sw o => show Qn.keep cs (unr _) = _; rw [unr_jn]; rfl
  | call a b cs sw o => show Qn.call a b (.keep cs (unr _)) = _; rw [unr_jn]; rfl
theorem unr_stp {s : Stp} {n3 n4 : Str} (h4 : s.core.tab ≠ n4) : unr (s.q n3 n4) = s.at (.table n3) := by
  cases s with
  | plain c => exact unr_core c n3
  | put c => show Qn.put _ (unr _) = _; rw [unr_core]; rfl
  | pick h v c => show Qn.pick _ (unr _) = _; rw [unr_core]; rfl
  | ring c =>
    show Qn.put (.table n3) (repl (unr (c.q (.table n4))) n4 (.table n3)) = _
    rw [unr_core, core_repl (c := c) h4]
    rfl
theorem repl_self (m : Str) (Q : Qn) : repl (.table m) m Q = Q := by unfold repl; rw [if_pos rfl]
theorem repl_at {s : Stp} {n3 : Str} {Q : Qn} (h3 : s.core.tab ≠ n3) : repl (s.at (.table n3)) n3 Q = s.at Q := by
  cases s with
  | plain c => exact core_repl h3
  | put c =>
    show Qn.put (repl (.table n3) n3 Q) (repl (c.q (.table n3)) n3 Q) = _
    rw [repl_self, core_repl (c := c) h3]; rfl
  | pick h v c =>
    show Qn.pick _ (repl (c.q (.table n3)) n3 Q) = _
    rw [core_repl (c := c) h3]; rfl
  | ring c =>
    show Qn.put (repl (.table n3) n3 Q) (repl (c.q (.table n3)) n3 Q) = _
    rw [repl_self, core_repl (c := c) h3]; rfl
def StpOk (W : Wd) (hd : List Str) : Stp → Prop
  | .pick h v c => CoreOk W hd c ∧ h ∈ hd ∧ okV v = true
  | s => CoreOk W hd s.core
theorem Does.le {W : Wd} {hd : List Str} {a b c d : Nat} {q : Qn} (h : Does W hd a b q) (l : a ≤ c) (m : b ≤ d) : Does W hd c d q := ⟨h.ok, h.mem, Nat.le_trans h.deg l, Nat.le_trans h.dep m⟩
theorem put_does {W : Wd} {hd : List Str} {dg dp : Nat} {a b : Qn} (ha : Does W hd dg dp a) (hb : Does W hd dg dp b) : Does W hd dg (dp + 1) (.put a b) :=
  ⟨⟨ha.ok, hb.ok, fun c => (ha.mem c).trans (hb.mem c).symm⟩, ha.mem, Nat.max_le.mpr ⟨ha.deg, hb.deg⟩, Nat.succ_le_succ (Nat.max_le.mpr ⟨ha.dep, hb.dep⟩)⟩
theorem stp_does {W : Wd} (w : WOk W) {hd : List Str} {s : Stp} (hc : StpOk W hd s) {Q : Qn} {dg dp : Nat} (hq : Does W hd dg dp Q) (hs : ∀ c ∈ hd, c ∈ W.cs) : Does W hd (dg + 1) (dp + 4) (s.at Q) := by
  cases s with
  | plain c => exact (core_does w hc hq hs).le (Nat.le_refl _) (by omega)
  | put c => exact put_does (hq.le (by omega) (by omega)) ((core_does w hc hq hs).le (Nat.le_refl _) (Nat.le_refl _))
  | ring c => exact put_does (hq.le (by omega) (by omega)) ((core_does w hc hq hs).le (Nat.le_refl _) (Nat.le_refl _))
  | pick h v c =>
    have k := core_does w hc.1 hq hs
    refine ⟨⟨k.ok, fun z hz => ?_, by show 1 + 1 ≤ 5; decide, hc.2.2⟩, k.mem, k.deg, ?_⟩
    · rw [List.mem_singleton.mp (show z ∈ [h] from hz)]
      exact (k.mem h).mpr hc.2.1
    · show (c.q Q).dep + 1 ≤ _
      have := k.dep
      omega
theorem rounds_does {W : Wd} {hd : List Str} {dg dp : Nat} {a u : Qn} {n : Str} (ha : Does W hd dg dp a) (hu : ∀ (Q : Qn) (d e : Nat), Does W hd d e Q → Does W hd (d + 1) (e + 4) (repl u n Q)) : ∀ k, Does W hd (dg + k) (dp + 5 * k) (rounds a u n k)
  | 0 => ha
  | k + 1 => by
    have i := rounds_does ha hu k
    exact (put_does (ha.le (c := dg + (k + 1)) (d := dp + 5 * k + 4) (by omega) (by omega)) ((hu _ _ _ i).le (by omega) (by omega))).le (Nat.le_refl _) (by omega)
theorem rounds_hd {W : Wd} {a u : Qn} {n : Str} (k : Nat) : hdQ W.hs (rounds a u n k) = hdQ W.hs a := by cases k <;> rfl
theorem stp_rg (s : Stp) (n3 n4 : Str) : RgOk (s.q n3 n4) ∧ (s.q n3 n4).dep ≤ 6 := by
  have j : ∀ (c : Core) (n : Str), RgOk (c.q (.table n)) ∧ (c.q (.table n)).dep ≤ 4 ∧ unr (c.q (.table n)) = c.q (.table n) := fun c n => by
    refine ⟨?_, ?_, unr_core c n⟩
    · cases c with
      | keep cs sw o => cases sw <;> exact ⟨trivial, trivial⟩
      | call a b cs sw o => cases sw <;> exact ⟨trivial, trivial⟩
    · cases c with
      | keep cs sw o => cases sw <;> (show max 1 1 + 1 + 1 ≤ 4; decide)
      | call a b cs sw o => cases sw <;> (show max 1 1 + 1 + 1 + 1 ≤ 4; decide)
  cases s with
  | plain c => exact ⟨(j c n3).1, Nat.le_trans (j c n3).2.1 (by decide)⟩
  | put c =>
    refine ⟨⟨trivial, (j c n3).1⟩, ?_⟩
    show max 1 (c.q (.table n3)).dep + 1 ≤ 6
    have := (j c n3).2.1
    omega
  | pick h v c =>
    refine ⟨(j c n3).1, ?_⟩
    show (c.q (.table n3)).dep + 1 ≤ 6
    have := (j c n3).2.1
    omega
  | ring c =>
    refine ⟨⟨trivial, (j c n4).1, ?_, by decide⟩, ?_⟩
    · rw [(j c n4).2.2]
      exact Nat.le_trans (j c n4).2.1 (by decide)
    · show max 1 (c.q (.table n4)).dep + 1 ≤ 6
      have := (j c n4).2.1
      omega
/-! ### the world's parts -/
theorem WOk.names {W : Wd} (w : WOk W) : ∃ a b c d e, W.ns = [a, b, c, d, e] := by
  have h := w.n5
  match hn : W.ns, h with
  | [a, b, c, d, e], _ => exact ⟨a, b, c, d, e, rfl⟩
theorem gd_tS {xs : List Str} (h : ∀ c ∈ xs, sOk c = true) : Gd 1 (tS xs) := Gd.t (gd_strs h)
theorem eq_nilS {neg : Bool} {xs : List Str} {k : D → Prop} (h : ∀ c ∈ xs, sOk c = true) (hk : k (.a (.bl (if neg then !xs.isEmpty else xs.isEmpty)))) : jEq neg (tS xs) (.tup []) k := by
  refine eq_nilT (gd_tS h) (by decide) ?_
  have e : (strsD xs).isEmpty = xs.isEmpty := by cases xs <;> rfl
  rw [e]
  exact hk
/-- a block's first statement, then the rest from a word between -/
theorem seq_split {A R : DTS} {ρ : DSt} {k : DEnds} (M : DSt → Prop) (rest : ∀ ρ', M ρ' → R ρ' k) (first : ∀ NX : DSt → Prop, (∀ ρ', M ρ' → NX ρ') → A ρ { k with nx := NX }) : dSeq A R ρ k := first _ rest
theorem split_at {hd : List Str} {j : Nat} {b : Str} (h : hd[j]? = some b) : hd = hd.take j ++ b :: hd.drop (j + 1) := by
  obtain ⟨h1, h2⟩ := List.getElem?_eq_some_iff.mp h
  rw [← h2, ← List.drop_eq_getElem_cons h1, List.take_append_drop]
theorem cols_ok {hd : List Str} {j : Nat} {b e : Str} (h : hd[j]? = some b) (nd : hd.Nodup) (he : e ∉ hd) : (hd.take j ++ [e] ++ hd.drop (j + 1)).Nodup ∧ ∀ c, c ∈ hd.take j ++ [e] ++ hd.drop (j + 1) ↔ (c ∈ hd ∧ c ≠ b) ∨ c = e := by
  have sp := split_at h
  generalize hd.take j = l1 at sp ⊢
  generalize hd.drop (j + 1) = l2 at sp ⊢
  subst sp
  have pm : (l1 ++ b :: l2).Perm (b :: (l1 ++ l2)) := List.perm_middle
  obtain ⟨n1, n2⟩ := List.nodup_cons.mp (pm.nodup_iff.mp nd)
  have pe : (l1 ++ [e] ++ l2).Perm (e :: (l1 ++ l2)) := by rw [List.append_assoc]; exact List.perm_middle
  refine ⟨pe.nodup_iff.mpr (List.nodup_cons.mpr ⟨fun z => he (pm.mem_iff.mpr (List.mem_cons_of_mem _ z)), n2⟩), fun c => ?_⟩
  rw [pe.mem_iff, pm.mem_iff, List.mem_cons, List.mem_cons]
  constructor
  · rintro (z | z)
    · exact .inr z
    · exact .inl ⟨.inr z, fun q => n1 (q ▸ z)⟩
  · rintro (⟨z | z, ne⟩ | z)
    · exact absurd z ne
    · exact .inr z
    · exact .inl z
section
variable {P : Program} {w : World} {K : PySem.W.Frag} {mg : Str → Option Value} {base : Heap} {C : Addr}
/-! ### _law_step -/
def stepP : Wd × List Str × Str × List Str × Int → Prop := fun ⟨W, hd, o, ex, m⟩ => WOk W ∧ hd.Nodup ∧ (∀ c ∈ hd, c ∈ W.cs) ∧ o ∈ W.ns.take 3 ∧ (∀ c ∈ ex, c ∈ hdQ W.hs (.table o) ∧ c ∉ hd) ∧ ex.length ≤ 3 ∧ N30 m
def fsStep : FS := fs (ι := Wd × List Str × Str × List Str × Int) (fun ⟨W, hd, o, ex, m⟩ => [encWd W, tS hd, sD o, tS ex, .a (.int m)]) stepP
  (fun ⟨W, hd, o, ex, m⟩ d => ∃ s : Stp, d = encQ (s.q (W.ns.getD 3 Str.empty) (W.ns.getD 4 Str.empty)) ∧ StpOk W hd s ∧ s.core.tab = o)
abbrev s_l_step : Stmt := top 49
theorem sc_l_step : FnScope ["_law_world_here", "_law_head", "_law_other", "_law_more_here", "_law_number", "_law_name", "_law_both_here", "_law_step_here", "_law_at", "_law_columns"] ["_law_world_here", "_law_head", "_law_other", "_law_more_here", "_law_number"] (defScope s_l_step) := ⟨rfl, rfl, rfl, by decide +kernel, rfl, by decide +kernel, by decide +kernel⟩
theorem c_l_step (T : Txt mg) (Df : DefAt K mg "_law_step" s_l_step) (c_l_bent : Callee P w K mg base C 1 "_law_bent" ["_law_head", "_law_number"] fsBent) : Callee P w K mg base C 2 "_law_step" ["_law_world_here", "_law_head", "_law_other", "_law_more_here", "_law_number"] fsStep := by
  refine def_ok Df sc_l_step (fun _ _ _ _ _ _ us hl => match us, hl with | [_, _, _, _, _], _ => rfl) (fs_len fun _ => rfl) fun fa cdv A outer s H E hr => ⟨_, _,
    (dss_cons (ds_set (i := 5) (de_ixJ (hu_of hr) (de_ixJ (hu_of hr) (de_var 0) de_int) (de_op p_add de_int (de_callT c_int T.m_int boot_int (da_cons (de_cmp (p_eq hr.units) (de_op o_mod (de_op o_fdiv (de_var 4) de_int) de_int) de_int) da_nil)))) sc_l_step.nd)
    (dss_cons (ds_set (i := 6) (de_tup (da_cons de_str (da_cons (de_tup (da_cons de_str (da_cons (de_var 5) da_nil))) (da_cons (de_tup (da_cons de_str (da_cons (de_var 2) da_nil))) da_nil)))) sc_l_step.nd)
    (dss_cons (ds_if (dp_cmp (p_eq hr.units) (de_op o_mod (de_var 4) de_int) de_int) (dss_one (ds_set (i := 6) (de_tup (da_cons de_str (da_cons (de_tup (da_cons de_str (da_cons (de_var 2) da_nil))) (da_cons (de_tup (da_cons de_str (da_cons (de_var 5) da_nil))) da_nil)))) sc_l_step.nd)) dss_nil)
    (dss_cons (ds_set (i := 7) (de_tup (da_cons de_str (da_cons (de_call c_l_bent (hr.mono (Nat.le_refl _)) (da_cons (de_var 1) (da_cons (de_var 4) da_nil))) (da_cons (de_var 6) da_nil)))) sc_l_step.nd)
    (dss_cons (ds_if ((dw_and (dp_cmp (p_ne hr.units) (de_var 3) (de_tup da_nil)) (dw_and (dp_cmp (p_ne hr.units) (de_var 1) (de_tup da_nil)) (dw_and1 (dp_cmp o_gt (de_op o_mod (de_op o_fdiv (de_var 4) de_int) de_int) de_int)))).dp) (dss_cons (ds_set (i := 8) (de_op o_mod (de_op o_fdiv (de_var 4) de_int) (de_callB c_len T.m_len boot_len (da_cons (de_var 1) da_nil))) sc_l_step.nd)
    (dss_cons (ds_set (i := 9) (de_op p_add (de_op p_add (de_sl (de_var 1) dpo_no (dpo_some (de_var 8))) (de_tup (da_cons (de_ixJ (hu_of hr) (de_var 3) de_int) da_nil))) (de_sl (de_var 1) (dpo_some (de_op p_add (de_var 8) de_int)) dpo_no)) sc_l_step.nd)
    (dss_one (ds_set (i := 7) (de_tup (da_cons de_str (da_cons (de_ixJ (hu_of hr) (de_var 3) de_int) (da_cons (de_ixJ (hu_of hr) (de_var 1) (de_var 8)) (da_cons (de_tup (da_cons de_str (da_cons (de_call c_l_bent (hr.mono (Nat.le_refl _)) (da_cons (de_var 9) (da_cons (de_op o_fdiv (de_var 4) de_int) da_nil))) (da_cons (de_var 6) da_nil)))) da_nil))))) sc_l_step.nd)))) dss_nil)
    (dss_cons (ds_if (dp_cmp (p_eq hr.units) (de_op o_mod (de_op o_fdiv (de_var 4) de_int) de_int) de_int) (dss_one (ds_ret (de_tup (da_cons de_str (da_cons (de_tup (da_cons de_str (da_cons (de_var 5) da_nil))) (da_cons (de_var 7) da_nil)))))) dss_nil)
    (dss_cons (ds_if ((dw_and (dp_cmp (p_eq hr.units) (de_op o_mod (de_op o_fdiv (de_var 4) de_int) de_int) de_int) (dw_and1 (dp_cmp (p_ne hr.units) (de_var 1) (de_tup da_nil)))).dp) (dss_one (ds_ret (de_tup (da_cons de_str (da_cons (de_tup (da_cons de_str (da_cons (de_tup (da_cons de_str (da_cons (de_ixJ (hu_of hr) (de_var 1) de_int) (da_cons (de_ixJ (hu_of hr) (de_ixJ (hu_of hr) (de_var 0) de_int) de_int) da_nil)))) da_nil))) (da_cons (de_var 7) da_nil)))))) dss_nil)
    (dss_cons (ds_if (dp_cmp (p_eq hr.units) (de_op o_mod (de_op o_fdiv (de_var 4) de_int) de_int) de_int) (dss_one (ds_ret (de_tup (da_cons de_str (da_cons (de_var 5) (da_cons de_int (da_cons (de_tup (da_cons de_str (da_cons (de_ixJ (hu_of hr) (de_ixJ (hu_of hr) (de_var 0) de_int) de_int) da_nil))) (da_cons (de_var 7) da_nil)))))))) dss_nil)
    (dss_one (ds_ret (de_var 7))))))))))), ?_⟩
  rintro so ds k ⟨⟨W, hd, o, ex, m⟩, rfl, ⟨hw, hn, hs, ho, hx, hxl, hm⟩, hk⟩
  obtain ⟨n0, n1, n2, n3, n4, ns⟩ := hw.names
  have g3 : W.ns.getD 3 Str.empty = n3 := by rw [ns]; rfl
  have g4 : W.ns.getD 4 Str.empty = n4 := by rw [ns]; rfl
  have hl : hd.length ≤ 6 := hw.six hn hs
  have exs : ∀ c ∈ ex, sOk c = true := fun c h => hw.cS c ((hw.tabOk ho).2.cols c (hx c h).1)
  have hds : ∀ c ∈ hd, sOk c = true := fun c h => hw.cS c (hs c h)
  obtain ⟨nm, hnm, hr3⟩ : ∃ nm, (strsD W.ns)[(if m / 36 % 4 = 3 then 4 else 3 : Nat)]? = some (sD nm) ∧ nm = if m / 36 % 4 = 3 then n4 else n3 := by
    by_cases c : m / 36 % 4 = 3
    · exact ⟨n4, by rw [if_pos c, ns]; rfl, by rw [if_pos c]⟩
    · exact ⟨n3, by rw [if_neg c, ns]; rfl, by rw [if_neg c]⟩
  refine tix (j := 0) rfl rfl ⟨cdiv (by decide) (by decide), ⟨by decide, eq_i (add_i (lix (j := if m / 36 % 4 = 3 then 4 else 3) ?_ hnm ?_))⟩⟩
  · by_cases c : m / 36 % 4 = 3 <;> simp [c]
  dsimp only
  refine seq_split (fun ρ' => ρ' = ⟨[some (encWd W), some (tS hd), some (sD o), some (tS ex), some (.a (.int m)), some (sD nm), some (encQ (jn false (.table nm) (.table o))), none, none, none], none, so⟩) ?rest ?first
  case first => exact fun NX h => h _ rfl
  rintro _ rfl
  refine seq_split (fun ρ' => ∃ sw : Bool, ρ' = ⟨[some (encWd W), some (tS hd), some (sD o), some (tS ex), some (.a (.int m)), some (sD nm), some (encQ (jn sw (.table nm) (.table o))), none, none, none], none, so⟩) ?_ ?_
  · rintro _ ⟨sw, rfl⟩
    refine seq_split (fun ρ' => ρ' = ⟨[some (encWd W), some (tS hd), some (sD o), some (tS ex), some (.a (.int m)), some (sD nm), some (encQ (jn sw (.table nm) (.table o))), some (encQ ((Core.keep (bent hd m) sw o).q (.table nm))), none, none], none, so⟩) ?rest2 ?first2
    case first2 => exact fun NX h => ⟨hd, m, rfl, by omega, h _ rfl⟩
    rintro _ rfl
    refine seq_split (fun ρ' => ∃ (c : Core) (o8 o9 : Option D), ρ' = ⟨[some (encWd W), some (tS hd), some (sD o), some (tS ex), some (.a (.int m)), some (sD nm), some (encQ (jn sw (.table nm) (.table o))), some (encQ (c.q (.table nm))), o8, o9], none, so⟩ ∧ CoreOk W hd c ∧ c.tab = o) ?_ ?_
    · rintro _ ⟨c, o8, o9, rfl, hc, ht⟩
      refine ⟨cdiv (by decide) (by decide), ⟨by decide, eq_i ⟨fun z => ?_, fun z => ?_⟩⟩⟩
      · have z : m / 36 % 4 = 1 := by simpa using z
        have en : nm = n3 := by rw [hr3, if_neg (by omega)]
        subst en
        exact hk _ ⟨.put c, by rw [g3]; rfl, hc, ht⟩
      have z1 : ¬ m / 36 % 4 = 1 := by simpa using z
      refine ⟨cdiv (by decide) (by decide), ⟨by decide, eq_i ?_⟩⟩
      by_cases z2 : m / 36 % 4 = 2
      · have en : nm = n3 := by rw [hr3, if_neg (by omega)]
        subst en
        refine (if_pos (by simp [z2])).mpr (eq_nilS hds ?_)
        cases hd with
        | nil =>
          refine no rfl ⟨cdiv (by decide) (by decide), ⟨by decide, eq_i (no (by simp [z2]) (hk _ ⟨.plain c, by rw [g3]; rfl, hc, ht⟩))⟩⟩
        | cons h0 r =>
          refine yes rfl (tix (j := 0) rfl rfl (tix (j := 3) rfl rfl (lV_any (by decide) ?_ fun v hv => hk _ ⟨.pick h0 v c, by rw [g3]; rfl, ⟨hc, List.mem_cons_self, hw.pO v hv⟩, ht⟩)))
          have := List.length_pos_iff.mpr hw.pN
          omega
      · refine (if_neg (by simp [z2])).mpr (no rfl ⟨cdiv (by decide) (by decide), ⟨by decide, eq_i ⟨fun z => ?_, fun z => ?_⟩⟩⟩)
        · have z : m / 36 % 4 = 3 := by simpa using z
          have en : nm = n4 := by rw [hr3, if_pos z]
          subst en
          refine tix (j := 0) rfl rfl (lix (j := 3) rfl (by rw [ns]; rfl) (hk _ ⟨.ring c, ?_, hc, ht⟩))
          rw [g3, g4]
          rfl
        · have z : ¬ m / 36 % 4 = 3 := by simpa using z
          have en : nm = n3 := by rw [hr3, if_neg z]
          subst en
          exact hk _ ⟨.plain c, by rw [g3]; rfl, hc, ht⟩
    · intro NX hNX
      have base : CoreOk W hd (.keep (bent hd m) sw o) := ⟨ho, bent_nodup m hn, fun c => bent_mem⟩
      have skip : NX ⟨[some (encWd W), some (tS hd), some (sD o), some (tS ex), some (.a (.int m)), some (sD nm), some (encQ (jn sw (.table nm) (.table o))), some (encQ ((Core.keep (bent hd m) sw o).q (.table nm))), none, none], none, so⟩ := hNX _ ⟨_, none, none, rfl, base, rfl⟩
      refine eq_nilS exs ?_
      cases ex with
      | nil => exact (if_neg (by decide)).mpr (no rfl skip)
      | cons e0 er =>
        refine (if_pos rfl).mpr (eq_nilS hds ?_)
        cases hd with
        | nil => exact (if_neg (by decide)).mpr (no rfl skip)
        | cons h0 r =>
          refine (if_pos rfl).mpr ⟨cdiv (by decide) (by decide), ⟨by decide, ⟨fun _ => ?_, fun _ => skip⟩⟩⟩
          have hpos : (0 : Int) < ((strsD (h0 :: r)).length : Int) := by rw [strsD_len, List.length_cons]; omega
          have ml := mod_lt (i := m / 6) hpos
          obtain ⟨j, hj⟩ : ∃ j : Nat, m / 6 % ((strsD (h0 :: r)).length : Int) = (j : Int) := ⟨(m / 6 % ((strsD (h0 :: r)).length : Int)).toNat, by omega⟩
          have jl : j < (h0 :: r).length := by rw [strsD_len] at ml hj; omega
          obtain ⟨b, hb⟩ : ∃ b, (h0 :: r)[j]? = some b := ⟨_, List.getElem?_eq_getElem jl⟩
          obtain ⟨e1, e2⟩ := hx e0 List.mem_cons_self
          obtain ⟨c1, c2⟩ := cols_ok hb hn e2
          have bm : b ∈ h0 :: r := List.mem_of_getElem? hb
          refine ⟨cdiv (by decide) (by decide), ⟨hpos, ?_⟩⟩
          rw [hj]
          have e3 : cut (strsD (h0 :: r)) none (some ((j : Nat) : Int)) = strsD ((h0 :: r).take j) := by rw [cut_upto _ (by rw [strsD_len]; omega), strsD_take]
          have e4 : cut (strsD (h0 :: r)) (some ((j + 1 : Nat) : Int)) none = strsD ((h0 :: r).drop (j + 1)) := by rw [cut_from _ (by rw [strsD_len]; omega), strsD_drop]
          refine tix (ds := strsD (e0 :: er)) (j := 0) rfl rfl ?_
          show jAdd (.tup (cut (strsD (h0 :: r)) none (some ((j : Nat) : Int)))) (.tup [sD e0]) _
          rw [e3]
          refine add_tS (xs := (h0 :: r).take j) (ys := [e0]) (by rw [List.length_take, sizeLine_eq]; simp only [List.length_cons, List.length_nil] at hl ⊢; omega) (add_i ?_)
          show jAdd (tS ((h0 :: r).take j ++ [e0])) (.tup (cut (strsD (h0 :: r)) (some ((j + 1 : Nat) : Int)) none)) _
          rw [e4]
          refine add_tS (xs := (h0 :: r).take j ++ [e0]) (ys := (h0 :: r).drop (j + 1)) (by rw [List.length_append, List.length_take, List.length_drop, sizeLine_eq]; simp only [List.length_cons, List.length_nil] at hl ⊢; omega) ?_
          refine tix (ds := strsD (e0 :: er)) (j := 0) rfl rfl (tix (ds := strsD (h0 :: r)) (d := sD b) (j := j) rfl ?_ ⟨cdiv (by decide) (by decide), ?_⟩)
          · show (strsD (h0 :: r))[j]? = some (sD b)
            unfold strsD
            rw [List.getElem?_map, hb]
            rfl
          · refine ⟨(h0 :: r).take j ++ [e0] ++ (h0 :: r).drop (j + 1), m / 7, rfl, ?_, ?_⟩
            · rw [List.length_append, List.length_append, List.length_take, List.length_drop]
              simp only [List.length_cons, List.length_nil] at hl ⊢
              omega
            · refine hNX _ ⟨.call e0 b (bent ((h0 :: r).take j ++ [e0] ++ (h0 :: r).drop (j + 1)) (m / 7)) sw o, some (.a (.int (j : Int))), some (tS ((h0 :: r).take j ++ [e0] ++ (h0 :: r).drop (j + 1))), rfl, ⟨ho, bent_nodup _ c1, e1, e2, bm, fun c => ?_⟩, rfl⟩
              rw [bent_mem]
              exact c2 c
  · intro NX hNX
    refine ⟨by decide, eq_i ⟨fun _ => ?_, fun _ => ?_⟩⟩
    · exact hNX _ ⟨true, rfl⟩
    · exact hNX _ ⟨false, rfl⟩
end
end Wh

namespace Wh
open PySem L2
/-! ### the law's question as it grows -/
structure StOf (W : Wd) (i : Nat) (q : Qn) (hd : List Str) (deep : Nat) : Prop where
  w : WOk W
  ok : Ok W.hs (unr q)
  eq : hdQ W.hs (unr q) = hd
  sub : ∀ c ∈ hd, c ∈ W.cs
  dg : deg (unr q) ≤ deep
  d1 : 1 ≤ deep
  d3 : deep ≤ 3
  dp : (unr q).dep ≤ 1 + 3 * i + 5 * (deep - 1)
  qd : q.dep ≤ 8 + 3 * i
  rg : RgOk q
  one : deep = 1 → hd.length ≤ 3
def stQ (q : Qn) (hd : List Str) (deep : Nat) (puts : Int) : D := .tup [encQ q, tS hd, .a (.int (deep : Int)), .a (.int puts)]
def nextS (W : Wd) (i : Nat) (d : D) : Prop := ∃ (q : Qn) (hd : List Str) (deep : Nat) (puts : Int), d = stQ q hd deep puts ∧ StOf W (i + 1) q hd deep
theorem StOf.nd {W : Wd} {i : Nat} {q : Qn} {hd : List Str} {deep : Nat} (s : StOf W i q hd deep) : hd.Nodup := by rw [← s.eq]; exact (ok_head s.ok).1
theorem StOf.six {W : Wd} {i : Nat} {q : Qn} {hd : List Str} {deep : Nat} (s : StOf W i q hd deep) : hd.length ≤ 6 := s.w.six s.nd s.sub
theorem StOf.sOk {W : Wd} {i : Nat} {q : Qn} {hd : List Str} {deep : Nat} (s : StOf W i q hd deep) : ∀ c ∈ hd, Wh.sOk c = true := fun c h => s.w.cS c (s.sub c h)
theorem StOf.does {W : Wd} {i : Nat} {q : Qn} {hd : List Str} {deep : Nat} (s : StOf W i q hd deep) : Does W hd deep (1 + 3 * i + 5 * (deep - 1)) (unr q) := ⟨s.ok, fun c => by rw [s.eq], s.dg, s.dp⟩
theorem StOf.up {W : Wd} {i : Nat} {q : Qn} {hd : List Str} {deep : Nat} (s : StOf W i q hd deep) : StOf W (i + 1) q hd deep :=
  ⟨s.w, s.ok, s.eq, s.sub, s.dg, s.d1, s.d3, Nat.le_trans s.dp (by omega), Nat.le_trans s.qd (by omega), s.rg, s.one⟩
theorem core_dep (c : Core) (n : Str) : (c.q (.table n)).dep ≤ 4 := by
  cases c with
  | keep cs sw o => cases sw <;> (show max 1 1 + 1 + 1 ≤ 4; decide)
  | call a b cs sw o => cases sw <;> (show max 1 1 + 1 + 1 + 1 ≤ 4; decide)
theorem at_dep (s : Stp) (n : Str) : (s.at (.table n)).dep ≤ 6 := by
  cases s with
  | plain c => exact Nat.le_trans (core_dep c n) (by decide)
  | put c => show max 1 (c.q (.table n)).dep + 1 ≤ 6; have := core_dep c n; omega
  | pick h v c => show (c.q (.table n)).dep + 1 ≤ 6; have := core_dep c n; omega
  | ring c => show max 1 (c.q (.table n)).dep + 1 ≤ 6; have := core_dep c n; omega
/-- a ring over it -/
theorem ring_st {W : Wd} {i : Nat} {q : Qn} {hd : List Str} {deep : Nat} (s : StOf W i q hd deep) {n : Str} {st : Qn} {k : Nat} (hk : deep + k ≤ 3) (sd : st.dep ≤ 8) (sr : RgOk st) (ud : (unr st).dep ≤ 40)
    (hr : Does W hd (deep + k) (1 + 3 * i + 5 * (deep - 1) + 5 * k) (rounds (unr q) (unr st) n k)) : StOf W (i + 1) (.ring n k q st) hd (deep + k) := by
  have d1 := s.d1
  have qd := s.qd
  refine ⟨s.w, hr.ok, (rounds_hd k).trans s.eq, s.sub, hr.deg, by omega, hk, Nat.le_trans hr.dep (by omega), ?_, ⟨s.rg, sr, ud, by omega⟩, fun h => s.one (by omega)⟩
  show max q.dep st.dep + 1 ≤ _
  omega
/-! ### the ring that joins what it has with itself, renamed -/
def slf (hd : List Str) (h0 f0 : Str) (A B : Qn) : Qn := .keep hd (.join A (.call h0 f0 B))
theorem slf_does {W : Wd} (w : WOk W) {hd : List Str} {h0 f0 : Str} (nd : hd.Nodup) (sub : ∀ c ∈ hd, c ∈ W.cs) (hh : h0 ∈ hd) (fc : f0 ∈ W.cs) (fn : f0 ∉ hd) {Q : Qn} {dp : Nat} (hq : Does W hd 1 dp Q) : Does W hd 2 (dp + 3) (slf hd h0 f0 Q Q) := by
  have c1 : Ok W.hs (.call h0 f0 Q) := ⟨hq.ok, (hq.mem h0).mpr hh, fun z => absurd ((hq.mem f0).mp z) fn⟩
  have s1 : ∀ c ∈ hdQ W.hs Q, c ∈ W.cs := fun c h => sub c ((hq.mem c).mp h)
  have s2 : ∀ c ∈ hdQ W.hs (.call h0 f0 Q), c ∈ W.cs := fun c h => by
    rcases callH_mem.mp (show c ∈ callH h0 f0 (hdQ W.hs Q) from h) with z | z
    · exact s1 c z.1
    · rw [z.1]; exact fc
  obtain ⟨j1, j2⟩ := join_ok w hq.ok c1 s1 s2
  have dq := hq.deg
  have dd := hq.dep
  refine ⟨⟨j1, nd, fun c h => ?_, w.six nd sub⟩, fun c => Iff.rfl, ?_, ?_⟩
  · show c ∈ hdQ W.hs Q ++ _
    exact List.mem_append_left _ ((hq.mem c).mpr h)
  · show deg Q + deg Q ≤ 2
    omega
  · show max Q.dep (Q.dep + 1) + 1 + 1 ≤ _
    omega
def slfS (ring : Bool) (hd : List Str) (h0 f0 n3 n4 : Str) : Qn := if ring then .ring n4 1 (.table n3) (slf hd h0 f0 (.table n4) (.table n3)) else slf hd h0 f0 (.table n3) (.table n3)
def slfA (ring : Bool) (hd : List Str) (h0 f0 : Str) (Q : Qn) : Qn := if ring then .put Q (slf hd h0 f0 Q Q) else slf hd h0 f0 Q Q
theorem slfS_dep (ring : Bool) (hd : List Str) (h0 f0 n3 n4 : Str) : (slfS ring hd h0 f0 n3 n4).dep ≤ 8 := by
  cases ring
  · show max 1 (1 + 1) + 1 + 1 ≤ 8; decide
  · show max 1 (max 1 (1 + 1) + 1 + 1) + 1 ≤ 8; decide
theorem slfA_dep (ring : Bool) (hd : List Str) (h0 f0 n3 : Str) : (slfA ring hd h0 f0 (.table n3)).dep ≤ 40 := by
  cases ring
  · show max 1 (1 + 1) + 1 + 1 ≤ 40; decide
  · show max 1 (max 1 (1 + 1) + 1 + 1) + 1 ≤ 40; decide
theorem slf_unr (ring : Bool) (hd : List Str) (h0 f0 n3 n4 : Str) : unr (slfS ring hd h0 f0 n3 n4) = slfA ring hd h0 f0 (.table n3) := by
  cases ring with
  | false => rfl
  | true =>
    show Qn.put (.table n3) (.keep hd (.join (repl (.table n4) n4 (.table n3)) (.call h0 f0 (repl (.table n3) n4 (.table n3))))) = _
    have e : repl (.table n3) n4 (.table n3) = .table n3 := by unfold repl; split <;> rfl
    rw [repl_self, e]
    rfl
theorem slf_repl (ring : Bool) (hd : List Str) (h0 f0 n3 : Str) (Q : Qn) : repl (slfA ring hd h0 f0 (.table n3)) n3 Q = slfA ring hd h0 f0 Q := by
  cases ring with
  | false =>
    show Qn.keep hd (.join (repl (.table n3) n3 Q) (.call h0 f0 (repl (.table n3) n3 Q))) = _
    rw [repl_self]
    rfl
  | true =>
    show Qn.put (repl (.table n3) n3 Q) (.keep hd (.join (repl (.table n3) n3 Q) (.call h0 f0 (repl (.table n3) n3 Q)))) = _
    rw [repl_self]
    rfl
section
variable {P : Program} {w : World} {K : PySem.W.Frag} {mg : Str → Option Value} {base : Heap} {C : Addr}
/-! ### _law_ring -/
abbrev StI := Wd × Nat × Qn × List Str × Nat × Int × List Int
def fsGrow (pre : Nat → Prop) : FS := fs (ι := StI) (fun ⟨W, _, q, hd, deep, puts, xs⟩ => [stQ q hd deep puts, iL xs, encWd W]) (fun ⟨W, i, q, hd, deep, _, xs⟩ => StOf W i q hd deep ∧ pre deep ∧ xs.length = 6 ∧ ∀ x ∈ xs, N30 x) (fun ⟨W, i, _, _, _, _, _⟩ d => nextS W i d)
theorem take3 {W : Wd} {n0 n1 n2 n3 n4 : Str} (ns : W.ns = [n0, n1, n2, n3, n4]) (w : WOk W) {o : Str} (h : o ∈ W.ns.take 3) : o ≠ n3 ∧ o ≠ n4 := by
  have nd := w.nN
  rw [ns] at h nd
  simp only [List.nodup_cons, List.mem_cons, List.not_mem_nil, or_false, not_or] at nd
  have h : o = n0 ∨ o = n1 ∨ o = n2 := by
    simp only [List.take_succ_cons, List.take_zero, List.mem_cons, List.not_mem_nil, or_false] at h
    exact h
  obtain ⟨⟨_, _, a3, a4⟩, ⟨_, b3, b4⟩, ⟨c3, c4⟩, _⟩ := nd
  rcases h with rfl | rfl | rfl
  · exact ⟨a3, a4⟩
  · exact ⟨b3, b4⟩
  · exact ⟨c3, c4⟩
theorem ns_at {W : Wd} (w : WOk W) {i : Int} {k : D → Prop} (h0 : 0 ≤ i) (h1 : i < 3) (hk : ∀ o ∈ W.ns.take 3, k (sD o)) : jIx (lS W.ns) (.a (.int i)) k := by
  obtain ⟨n0, n1, n2, n3, n4, ns⟩ := w.names
  rw [ns] at hk ⊢
  have hj : i.toNat = 0 ∨ i.toNat = 1 ∨ i.toNat = 2 := by omega
  refine lix (j := i.toNat) (d := sD ([n0, n1, n2].getD i.toNat Str.empty)) (by omega) ?_ (hk _ ?_)
  · rcases hj with e | e | e <;> rw [e] <;> rfl
  · rcases hj with e | e | e <;> rw [e] <;> simp
abbrev s_l_ring : Stmt := top 50
theorem sc_l_ring : FnScope ["_law_state", "_law_xs", "_law_world_here", "_law_question_here", "_law_head", "_law_deep", "_law_puts", "_law_name", "_law_within", "_law_free", "_law_column", "_law_step_here", "_law_many", "_law_other", "_law_extra"] ["_law_state", "_law_xs", "_law_world_here"] (defScope s_l_ring) := ⟨rfl, rfl, rfl, by decide +kernel, rfl, by decide +kernel, by decide +kernel⟩
theorem c_l_ring (T : Txt mg) (Df : DefAt K mg "_law_ring" s_l_ring) (c_l_step : Callee P w K mg base C 2 "_law_step" ["_law_world_here", "_law_head", "_law_other", "_law_more_here", "_law_number"] fsStep) : Callee P w K mg base C 3 "_law_ring" ["_law_state", "_law_xs", "_law_world_here"] (fsGrow fun deep => deep < 3) := by
  refine def_ok Df sc_l_ring (fun _ _ _ _ _ _ us hl => match us, hl with | [_, _, _], _ => rfl) (fs_len fun _ => rfl) fun fa cdv A outer s H E hr => ⟨_, _,
    (dss_cons (ds_unp (js := [3, 4, 5, 6]) rfl (de_var 0) (pgs_cons (pg_name (i := 3) sc_l_ring.nd rfl (Or.inl rfl)) (pgs_cons (pg_name (i := 4) sc_l_ring.nd rfl (Or.inr rfl)) (pgs_cons (pg_name (i := 5) sc_l_ring.nd rfl (Or.inl rfl)) (pgs_cons (pg_name (i := 6) sc_l_ring.nd rfl (Or.inl rfl)) pgs_nil)))))
    (dss_cons (ds_set (i := 7) (de_ixJ (hu_of hr) (de_ixJ (hu_of hr) (de_var 2) de_int) de_int) sc_l_ring.nd)
    (dss_cons (ds_if ((dw_and (dp_cmp (p_eq hr.units) (de_var 5) de_int) (dw_and (dp_cmp (p_ne hr.units) (de_var 4) (de_tup da_nil)) (dw_and1 (dp_cmp o_lt (de_op o_mod (de_ixJ (hu_of hr) (de_var 1) de_int) de_int) de_int)))).dp) (dss_cons (ds_set (i := 8) (de_ixJ (hu_of hr) (de_ixJ (hu_of hr) (de_var 2) de_int) (de_op p_add de_int (de_op o_mod (de_ixJ (hu_of hr) (de_var 1) de_int) de_int))) sc_l_ring.nd)
    (dss_cons (ds_setLcX (i := 9) rfl sc_l_ring.nd rfl rfl (sw_true rfl rfl rfl (by decide +kernel)) (own := [("_law_column", 10)]) (j := 10) (di_seq (de_ixJ (hu_of hr) (de_var 2) de_int)) (blkOk_by (own := [("_law_column", 10)]) (N := ["_law_state", "_law_xs", "_law_world_here", "_law_question_here", "_law_head", "_law_deep", "_law_puts", "_law_name", "_law_within", "_law_free", "_law_column", "_law_step_here", "_law_many", "_law_other", "_law_extra"]) (sc := defScope s_l_ring) (by decide +kernel)) (by decide) (fun _ _ _ _ _ => pg_name (i := 10) sc_l_ring.nd rfl (Or.inl rfl)) (fun _ _ _ _ _ => ⟨_, (dts_one (dp_cmp (p_notIn (hu_of hr)) (de_var 10) (de_var 4)))⟩) (fun _ _ _ _ _ => ⟨_, (de_var 10)⟩))
    (dss_cons (ds_set (i := 11) (de_tup (da_cons de_str (da_cons (de_tup (da_cons de_str (da_cons (de_var 8) da_nil))) (da_cons (de_tup (da_cons de_str (da_cons (de_ixJ (hu_of hr) (de_var 4) de_int) (da_cons (de_ixJ (hu_of hr) (de_var 9) de_int) (da_cons (de_tup (da_cons de_str (da_cons (de_var 7) da_nil))) da_nil))))) da_nil)))) sc_l_ring.nd)
    (dss_cons (ds_set (i := 11) (de_tup (da_cons de_str (da_cons (de_var 4) (da_cons (de_var 11) da_nil)))) sc_l_ring.nd)
    (dss_cons (ds_if (dp_cmp (p_ne hr.units) (de_var 8) (de_var 7)) (dss_one (ds_set (i := 11) (de_tup (da_cons de_str (da_cons (de_var 8) (da_cons de_int (da_cons (de_tup (da_cons de_str (da_cons (de_var 7) da_nil))) (da_cons (de_var 11) da_nil)))))) sc_l_ring.nd)) dss_nil)
    (dss_cons (ds_set (i := 12) (de_callT c_int T.m_int boot_int (da_cons (de_cmp o_gt (de_op o_mod (de_ixJ (hu_of hr) (de_var 1) de_int) de_int) de_int) da_nil)) sc_l_ring.nd)
    (dss_one (ds_ret (de_tup (da_cons (de_tup (da_cons de_str (da_cons (de_var 7) (da_cons (de_var 12) (da_cons (de_var 3) (da_cons (de_var 11) da_nil)))))) (da_cons (de_var 4) (da_cons (de_op p_add de_int (de_var 12)) (da_cons (de_var 6) da_nil))))))))))))) dss_nil)
    (dss_cons (ds_set (i := 13) (de_ixJ (hu_of hr) (de_ixJ (hu_of hr) (de_var 2) de_int) (de_op o_mod (de_ixJ (hu_of hr) (de_var 1) de_int) de_int)) sc_l_ring.nd)
    (dss_cons (ds_set (i := 14) (de_callT c_tuple T.m_tuple boot_tuple (da_cons (de_lcX (own := [("_law_column", 10)]) (j := 10) rfl sc_l_ring.nd (di_seq (de_ixJ (hu_of hr) (de_ixJ (hu_of hr) (de_var 2) de_int) (de_var 13))) (blkOk_by (own := [("_law_column", 10)]) (N := ["_law_state", "_law_xs", "_law_world_here", "_law_question_here", "_law_head", "_law_deep", "_law_puts", "_law_name", "_law_within", "_law_free", "_law_column", "_law_step_here", "_law_many", "_law_other", "_law_extra"]) (sc := defScope s_l_ring) (by decide +kernel)) (by decide) (fun _ _ _ _ _ => pg_name (i := 10) sc_l_ring.nd rfl (Or.inl rfl)) (fun _ _ _ _ _ => ⟨_, (dts_one (dp_cmp (p_notIn (hu_of hr)) (de_var 10) (de_var 4)))⟩) (fun _ _ _ _ _ => ⟨_, (de_var 10)⟩)) da_nil)) sc_l_ring.nd)
    (dss_cons (ds_set (i := 12) (de_op o_mod (de_ixJ (hu_of hr) (de_var 1) de_int) (de_op o_sub de_int (de_var 5))) sc_l_ring.nd)
    (dss_cons (ds_set (i := 11) (de_call c_l_step (hr.mono (Nat.le_refl _)) (da_cons (de_var 2) (da_cons (de_var 4) (da_cons (de_var 13) (da_cons (de_var 14) (da_cons (de_ixJ (hu_of hr) (de_var 1) de_int) da_nil)))))) sc_l_ring.nd)
    (dss_one (ds_ret (de_tup (da_cons (de_tup (da_cons de_str (da_cons (de_var 7) (da_cons (de_var 12) (da_cons (de_var 3) (da_cons (de_var 11) da_nil)))))) (da_cons (de_var 4) (da_cons (de_op p_add (de_var 5) (de_var 12)) (da_cons (de_var 6) da_nil)))))))))))))), ?_⟩
  rintro so ds k ⟨⟨W, i, q, hd, deep, puts, xs⟩, rfl, ⟨S, hd3, hx, hp⟩, hk⟩
  have hw := S.w
  obtain ⟨n0, n1, n2, n3, n4, ns⟩ := hw.names
  have hd1 := S.d1
  refine ⟨rfl, tix (j := 0) rfl rfl (lix (j := 3) (d := sD n3) rfl (by rw [ns]; rfl) ?_)⟩
  -- the second way, for all tests that fail
  dsimp only
  refine seq_split (fun ρ' => ∃ o1 o2 o3 o4 o5 o6 o7 : Option D, ρ' = ⟨[some (stQ q hd deep puts), some (iL xs), some (encWd W), some (encQ q), some (tS hd), some (.a (.int (deep : Int))), some (.a (.int puts)), some (sD n3), o1, o2, o3, o4, o5, o6, o7], none, so⟩) ?rest ?first
  case rest =>
    rintro _ ⟨o1, o2, o3, o4, o5, o6, o7, rfl⟩
    refine tix (j := 0) rfl rfl (iL_at (j := 0) rfl (by omega) fun x0 _ => ⟨by decide, ns_at hw (mod_lt (by decide)).1 (mod_lt (i := x0) (j := 3) (by decide)).2 fun o ho => ?_⟩)
    obtain ⟨g, e, gh⟩ := hw.tab ho
    obtain ⟨f1, _⟩ := hs_find e
    have eo : hdQ W.hs (.table o) = g := by show (W.hs.lookup o).getD [] = g; rw [e]; rfl
    have gl := gh.2.1
    refine tix (j := 2) rfl rfl (dix f1 ⟨by rw [strsD_len]; omega, lc_in (neg := true) (hd := hd) (cs := g) (fun _ => rfl) (fun _ => rfl) ?_⟩)
    have exl := joinX_len hd g
    refine iL_at (j := 1) rfl (by omega) fun x1 _ => ⟨by omega, ?_⟩
    have r1 := mod_lt (i := x1) (j := 4 - (deep : Int)) (by omega)
    obtain ⟨r, hr1⟩ : ∃ r : Nat, x1 % (4 - (deep : Int)) = (r : Int) := ⟨(x1 % (4 - (deep : Int))).toNat, by omega⟩
    refine iL_at (j := 2) rfl (by omega) fun x2 m2 => ⟨(W, hd, o, joinX hd g, x2), rfl, ⟨hw, S.nd, S.sub, ho, fun c h => ?_, by omega, hp x2 m2⟩, ?_⟩
    · rw [eo]
      exact ⟨(joinX_iff.mp h).1, (joinX_iff.mp h).2⟩
    rintro d ⟨s, rfl, sk, st⟩
    have t34 := take3 ns hw ho
    have g3 : W.ns.getD 3 Str.empty = n3 := by rw [ns]; rfl
    have g4 : W.ns.getD 4 Str.empty = n4 := by rw [ns]; rfl
    rw [g3, g4]
    have eu : unr (s.q n3 n4) = s.at (.table n3) := unr_stp (by rw [st]; exact t34.2)
    have sr := stp_rg s n3 n4
    refine add_i (hk _ ⟨.ring n3 r q (s.q n3 n4), hd, deep + r, puts, ?_, ring_st S (by omega) (Nat.le_trans sr.2 (by decide)) sr.1 (by rw [eu]; exact Nat.le_trans (at_dep s n3) (by decide)) ?_⟩)
    · rw [hr1]
      rfl
    · rw [eu]
      refine rounds_does S.does (fun Q d e hQ => ?_) r
      rw [repl_at (by rw [st]; exact t34.1)]
      exact stp_does hw sk hQ S.sub
  case first =>
    intro NX hNX
    have skip : NX ⟨[some (stQ q hd deep puts), some (iL xs), some (encWd W), some (encQ q), some (tS hd), some (.a (.int (deep : Int))), some (.a (.int puts)), some (sD n3), none, none, none, none, none, none, none], none, so⟩ := hNX _ ⟨none, none, none, none, none, none, none, rfl⟩
    refine eq_i ?_
    by_cases d1 : (deep : Int) = 1
    case neg => exact (if_neg (by simp [d1])).mpr (no rfl skip)
    refine (if_pos (by simp [d1])).mpr (eq_nilS S.sOk ?_)
    cases hd with
    | nil => exact (if_neg (by decide)).mpr (no rfl skip)
    | cons h0 rs =>
      refine (if_pos rfl).mpr (iL_at (j := 3) rfl (by omega) fun x3 _ => ⟨by decide, ⟨fun _ => ?_, fun _ => skip⟩⟩)
      have dp1 : deep = 1 := by omega
      subst dp1
      have r3 := mod_lt (i := x3) (j := 2) (by decide)
      have hl3 := S.one rfl
      have hl0 : (h0 :: rs).length ≤ 3 := hl3
      have fe : joinX (h0 :: rs) W.cs ≠ [] := fun z => by
        have all : ∀ c ∈ W.cs, c ∈ h0 :: rs := fun c hc => by
          by_cases q : c ∈ h0 :: rs
          · exact q
          · have : c ∈ joinX (h0 :: rs) W.cs := joinX_iff.mpr ⟨hc, q⟩
            rw [z] at this
            cases this
        have := nodup_le hw.cN all
        rw [hw.c6] at this
        omega
      have fp : (0 : Int) < ((joinX (h0 :: rs) W.cs).length : Int) := by
        have := List.length_pos_iff.mpr fe
        omega
      refine tix (j := 0) rfl rfl (iL_at (j := 3) rfl (by omega) fun y3 _ => ⟨by decide, add_i ?_⟩)
      obtain ⟨ring, j, hring, hj⟩ : ∃ (ring : Bool) (j : Nat), (strsD W.ns)[j]? = some (sD (if ring then n4 else n3)) ∧ 3 + y3 % 2 = (j : Int) := by
        rcases (by have := mod_lt (i := y3) (j := 2) (by decide); omega : y3 % 2 = 0 ∨ y3 % 2 = 1) with e | e
        · exact ⟨false, 3, by rw [ns]; rfl, by rw [e]; rfl⟩
        · exact ⟨true, 4, by rw [ns]; rfl, by rw [e]; rfl⟩
      have fin : ∀ (x1 : Int) (f0 : Str), f0 ∈ joinX (h0 :: rs) W.cs → nextS W i (.tup [.tup [sD "ring", sD n3, .a (.int (if decide (0 < x1 % 4) = true then 1 else 0)), encQ q, encQ (slfS ring (h0 :: rs) h0 f0 n3 n4)], tS (h0 :: rs), .a (.int (1 + if decide (0 < x1 % 4) = true then 1 else 0)), .a (.int puts)]) := fun x1 f0 hf => by
        obtain ⟨fc, fn⟩ := joinX_iff.mp hf
        have eu := slf_unr ring (h0 :: rs) h0 f0 n3 n4
        have sd : (slfS ring (h0 :: rs) h0 f0 n3 n4).dep ≤ 8 := slfS_dep ring _ _ _ _ _
        have sr : RgOk (slfS ring (h0 :: rs) h0 f0 n3 n4) := by
          cases ring
          · exact ⟨trivial, trivial⟩
          · exact ⟨trivial, ⟨trivial, trivial⟩, by show max 1 (1 + 1) + 1 + 1 ≤ 40; decide, by decide⟩
        have ud : (unr (slfS ring (h0 :: rs) h0 f0 n3 n4)).dep ≤ 40 := by
          rw [eu]
          exact slfA_dep ring _ _ _ _
        have D0 := S.does
        by_cases c : 0 < x1 % 4
        · refine ⟨.ring n3 1 q (slfS ring (h0 :: rs) h0 f0 n3 n4), h0 :: rs, 1 + 1, puts, ?_, ring_st S (by decide) sd sr ud ?_⟩
          · rw [if_pos (decide_eq_true c)]
            rfl
          · show Does W (h0 :: rs) 2 _ (.put (unr q) (repl (unr (slfS ring (h0 :: rs) h0 f0 n3 n4)) n3 (unr q)))
            rw [eu, slf_repl]
            have K := slf_does hw S.nd S.sub List.mem_cons_self fc fn D0
            have K2 : Does W (h0 :: rs) 2 (1 + 3 * i + 5 * (1 - 1) + 4) (slfA ring (h0 :: rs) h0 f0 (unr q)) := by
              cases ring
              · exact K.le (Nat.le_refl _) (by omega)
              · exact put_does (D0.le (by decide) (by omega)) K
            exact put_does (D0.le (by decide) (by omega)) K2
        · refine ⟨.ring n3 0 q (slfS ring (h0 :: rs) h0 f0 n3 n4), h0 :: rs, 1 + 0, puts, ?_, ring_st S (by decide) sd sr ud ?_⟩
          · rw [if_neg (by simpa using c)]
            rfl
          · exact D0.le (by decide) (by omega)
      refine lix (j := j) hj hring ?_
      dsimp only
      refine seq_split (fun ρ' => ρ' = ⟨[some (stQ q (h0 :: rs) 1 puts), some (iL xs), some (encWd W), some (encQ q), some (tS (h0 :: rs)), some (.a (.int ((1 : Nat) : Int))), some (.a (.int puts)), some (sD n3), some (sD (if ring then n4 else n3)), some (lS (joinX (h0 :: rs) W.cs)), none, none, none, none, none], none, so⟩) ?r1 ?f1
      case f1 => exact fun NX h => tix (j := 1) rfl rfl ⟨by rw [strsD_len, hw.c6]; decide, lc_in (neg := true) (hd := h0 :: rs) (cs := W.cs) (fun _ => rfl) (fun _ => rfl) (h _ rfl)⟩
      rintro _ rfl
      refine seq_split (fun ρ' => ∃ f0, f0 ∈ joinX (h0 :: rs) W.cs ∧ ρ' = ⟨[some (stQ q (h0 :: rs) 1 puts), some (iL xs), some (encWd W), some (encQ q), some (tS (h0 :: rs)), some (.a (.int ((1 : Nat) : Int))), some (.a (.int puts)), some (sD n3), some (sD (if ring then n4 else n3)), some (lS (joinX (h0 :: rs) W.cs)), none, some (encQ (.join (.table (if ring then n4 else n3)) (.call h0 f0 (.table n3)))), none, none, none], none, so⟩) ?r2 ?f2
      case f2 => exact fun NX h => tix (ds := strsD (h0 :: rs)) (d := sD h0) (j := 0) rfl rfl (lS_any (hd := joinX (h0 :: rs) W.cs) (by decide) fp fun f0 hf => h _ ⟨f0, hf, rfl⟩)
      rintro _ ⟨f0, hf, rfl⟩
      refine seq_split (fun ρ' => ρ' = ⟨[some (stQ q (h0 :: rs) 1 puts), some (iL xs), some (encWd W), some (encQ q), some (tS (h0 :: rs)), some (.a (.int ((1 : Nat) : Int))), some (.a (.int puts)), some (sD n3), some (sD (if ring then n4 else n3)), some (lS (joinX (h0 :: rs) W.cs)), none, some (encQ (slf (h0 :: rs) h0 f0 (.table (if ring then n4 else n3)) (.table n3))), none, none, none], none, so⟩) ?r3 ?f3
      case f3 => exact fun NX h => h _ rfl
      rintro _ rfl
      refine seq_split (fun ρ' => ρ' = ⟨[some (stQ q (h0 :: rs) 1 puts), some (iL xs), some (encWd W), some (encQ q), some (tS (h0 :: rs)), some (.a (.int ((1 : Nat) : Int))), some (.a (.int puts)), some (sD n3), some (sD (if ring then n4 else n3)), some (lS (joinX (h0 :: rs) W.cs)), none, some (encQ (slfS ring (h0 :: rs) h0 f0 n3 n4)), none, none, none], none, so⟩) ?r4 ?f4
      case f4 =>
        intro NX h
        cases ring with
        | true =>
          have ne : n4 ≠ n3 := by
            have nd := hw.nN
            rw [ns] at nd
            simp only [List.nodup_cons, List.mem_cons, List.not_mem_nil, or_false, not_or] at nd
            exact fun z => nd.2.2.2.1 z.symm
          exact eq_s (yes (by simp [ne]) (h _ rfl))
        | false => exact eq_s (no (by simp) (h _ rfl))
      rintro _ rfl
      refine iL_at (j := 1) rfl (by omega) fun x1 _ => ⟨by decide, add_i (hk _ (fin x1 f0 hf))⟩
end
end Wh

namespace Wh
open PySem L2
theorem dep_pos (q : Qn) : 1 ≤ q.dep := by cases q <;> simp [Qn.dep]
theorem rf_unr_id : ∀ q : Qn, q.rf = true → unr q = q
  | .table _, _ => rfl
  | .pick t q, h => by show Qn.pick t (unr q) = _; rw [rf_unr_id q h]
  | .keep c q, h => by show Qn.keep c (unr q) = _; rw [rf_unr_id q h]
  | .call a b q, h => by show Qn.call a b (unr q) = _; rw [rf_unr_id q h]
  | .join a b, h => by
    obtain ⟨h1, h2⟩ := Bool.and_eq_true_iff.mp (show (a.rf && b.rf) = true from h)
    show Qn.join (unr a) (unr b) = _
    rw [rf_unr_id a h1, rf_unr_id b h2]
  | .put a b, h => by
    obtain ⟨h1, h2⟩ := Bool.and_eq_true_iff.mp (show (a.rf && b.rf) = true from h)
    show Qn.put (unr a) (unr b) = _
    rw [rf_unr_id a h1, rf_unr_id b h2]
  | .ring _ _ _ _, h => nomatch h
/-! ### what is joined to the question -/
structure Oth (W : Wd) (q : Qn) (hd : List Str) (e : Nat) : Prop where
  ok : Ok W.hs (unr q)
  eq : hdQ W.hs (unr q) = hd
  sub : ∀ c ∈ hd, c ∈ W.cs
  dg : deg (unr q) ≤ e
  dp : (unr q).dep ≤ 2
  qd : q.dep ≤ 2
  rg : RgOk q
theorem Oth.six {W : Wd} {q : Qn} {hd : List Str} {e : Nat} (w : WOk W) (o : Oth W q hd e) : hd.length ≤ 6 := w.six (by rw [← o.eq]; exact (ok_head o.ok).1) o.sub
theorem oth_tab {W : Wd} (w : WOk W) {o : Str} {g : List Str} (h : W.hs.lookup o = some g) (gh : GH W.cs g) : Oth W (.table o) g 1 := by
  have e : hdQ W.hs (.table o) = g := by show (W.hs.lookup o).getD [] = g; rw [h]; rfl
  exact ⟨⟨g, h, gh.1, Nat.le_trans gh.2.1 (by decide)⟩, e, gh.cols, Nat.le_refl _, (by show 1 ≤ 2; decide), (by show 1 ≤ 2; decide), trivial⟩
theorem oth_join {W : Wd} (w : WOk W) {o p : Str} {g h : List Str} (a : Oth W (.table o) g 1) (b : Oth W (.table p) h 1) : Oth W (.join (.table o) (.table p)) (g ++ joinX g h) 2 := by
  obtain ⟨j1, j2⟩ := join_ok w a.ok b.ok (by rw [a.eq]; exact a.sub) (by rw [b.eq]; exact b.sub)
  have e : hdQ W.hs (.join (.table o) (.table p)) = g ++ joinX g h := by
    show hdQ W.hs (.table o) ++ joinX (hdQ W.hs (.table o)) (hdQ W.hs (.table p)) = _
    rw [show hdQ W.hs (.table o) = g from a.eq, show hdQ W.hs (.table p) = h from b.eq]
  exact ⟨j1, e, fun c hc => j2 c (by show c ∈ hdQ W.hs (.join (.table o) (.table p)); rw [e]; exact hc), (by show 1 + 1 ≤ 2; decide), (by show max 1 1 + 1 ≤ 2; decide), (by show max 1 1 + 1 ≤ 2; decide), ⟨trivial, trivial⟩⟩
theorem wide_st {W : Wd} {i : Nat} {q oq : Qn} {hd oh : List Str} {deep d e : Nat} (s : StOf W i q hd deep) (o : Oth W oq oh e) (h1 : deep + e = d + 1) (h2 : d ≤ 2) (h3 : deep ≤ d) (sw : Bool) :
    StOf W (i + 1) (if sw then .join oq q else .join q oq) (if sw then oh ++ joinX oh hd else hd ++ joinX hd oh) (d + 1) := by
  have hw := s.w
  have sq : ∀ c ∈ hdQ W.hs (unr q), c ∈ W.cs := by rw [s.eq]; exact s.sub
  have so : ∀ c ∈ hdQ W.hs (unr oq), c ∈ W.cs := by rw [o.eq]; exact o.sub
  have d1 := s.d1
  have dg := s.dg
  have og := o.dg
  have dp := s.dp
  have op := o.dp
  have qd := s.qd
  have oq' := o.qd
  have ps := dep_pos q
  have pu := dep_pos (unr q)
  cases sw with
  | false =>
    obtain ⟨j1, j2⟩ := join_ok hw s.ok o.ok sq so
    have e : hdQ W.hs (.join (unr q) (unr oq)) = hd ++ joinX hd oh := by
      show hdQ W.hs (unr q) ++ joinX (hdQ W.hs (unr q)) (hdQ W.hs (unr oq)) = _
      rw [s.eq, o.eq]
    refine ⟨hw, j1, e, fun c hc => j2 c (by rw [e]; exact hc), ?_, by omega, by omega, ?_, ?_, ⟨s.rg, o.rg⟩, fun h => by omega⟩
    · show deg (unr q) + deg (unr oq) ≤ d + 1
      omega
    · show max (unr q).dep (unr oq).dep + 1 ≤ 1 + 3 * (i + 1) + 5 * (d + 1 - 1)
      omega
    · show max q.dep oq.dep + 1 ≤ 8 + 3 * (i + 1)
      omega
  | true =>
    obtain ⟨j1, j2⟩ := join_ok hw o.ok s.ok so sq
    have e : hdQ W.hs (.join (unr oq) (unr q)) = oh ++ joinX oh hd := by
      show hdQ W.hs (unr oq) ++ joinX (hdQ W.hs (unr oq)) (hdQ W.hs (unr q)) = _
      rw [s.eq, o.eq]
    refine ⟨hw, j1, e, fun c hc => j2 c (by rw [e]; exact hc), ?_, by omega, by omega, ?_, ?_, ⟨o.rg, s.rg⟩, fun h => by omega⟩
    · show deg (unr oq) + deg (unr q) ≤ d + 1
      omega
    · show max (unr oq).dep (unr q).dep + 1 ≤ 1 + 3 * (i + 1) + 5 * (d + 1 - 1)
      omega
    · show max oq.dep q.dep + 1 ≤ 8 + 3 * (i + 1)
      omega
/-- one list of texts and another -/
theorem eq_lists {neg : Bool} {xs ys : List Str} {k : D → Prop} (hx : ∀ c ∈ xs, sOk c = true) (hy : ∀ c ∈ ys, sOk c = true) (hk : k (.a (.bl (if neg then !decide (xs = ys) else decide (xs = ys))))) : jEq neg (lS xs) (lS ys) k := by
  unfold jEq
  refine ⟨(Gd.l (gd_strs hx)).eqOk (Gd.l (gd_strs hy)) (by decide) (by decide), ?_⟩
  have e : PyData.eqv (pyd (lS xs)) (pyd (lS ys)) = decide (xs = ys) := by
    rw [lS_lV, lS_lV]
    show PyData.eqvAll (pydL ((xs.map V.str).map D.a)) (pydL ((ys.map V.str).map D.a)) = _
    rw [pydL_a, pydL_a, eqv_vals (ok_strs hx) (ok_strs hy)]
    by_cases c : xs = ys
    · subst c; simp
    · rw [decide_eq_false c, decide_eq_false]
      intro z
      exact c ((List.map_inj_right (fun a b h => by injection h)).mp z)
  rw [e]
  exact hk
section
variable {P : Program} {w : World} {K : PySem.W.Frag} {mg : Str → Option Value} {base : Heap} {C : Addr}
abbrev s_l_wider : Stmt := top 52
theorem sc_l_wider : FnScope ["_law_state", "_law_xs", "_law_world_here", "_law_question_here", "_law_head", "_law_deep", "_law_puts", "_law_other", "_law_second", "_law_third"] ["_law_state", "_law_xs", "_law_world_here"] (defScope s_l_wider) := ⟨rfl, rfl, rfl, by decide +kernel, rfl, by decide +kernel, by decide +kernel⟩
theorem c_l_wider (T : Txt mg) (Df : DefAt K mg "_law_wider" s_l_wider) (c_l_both : Callee P w K mg base C 1 "_law_both" ["_law_one", "_law_head", "_law_other", "_law_second"] fsBoth) : Callee P w K mg base C 3 "_law_wider" ["_law_state", "_law_xs", "_law_world_here"] (fsGrow fun deep => deep < 3) := by
  refine def_ok Df sc_l_wider (fun _ _ _ _ _ _ us hl => match us, hl with | [_, _, _], _ => rfl) (fs_len fun _ => rfl) fun fa cdv A outer s H E hr => ⟨_, _,
    (dss_cons (ds_unp (js := [3, 4, 5, 6]) rfl (de_var 0) (pgs_cons (pg_name (i := 3) sc_l_wider.nd rfl (Or.inl rfl)) (pgs_cons (pg_name (i := 4) sc_l_wider.nd rfl (Or.inl rfl)) (pgs_cons (pg_name (i := 5) sc_l_wider.nd rfl (Or.inl rfl)) (pgs_cons (pg_name (i := 6) sc_l_wider.nd rfl (Or.inl rfl)) pgs_nil)))))
    (dss_cons (ds_set (i := 7) (de_tup (da_cons de_str (da_cons (de_ixJ (hu_of hr) (de_ixJ (hu_of hr) (de_var 2) de_int) (de_op o_mod (de_ixJ (hu_of hr) (de_var 1) de_int) de_int)) da_nil))) sc_l_wider.nd)
    (dss_cons (ds_set (i := 8) (de_ixJ (hu_of hr) (de_ixJ (hu_of hr) (de_var 2) de_int) (de_ixJ (hu_of hr) (de_var 7) de_int)) sc_l_wider.nd)
    (dss_cons (ds_if ((dw_and (dp_cmp (p_eq hr.units) (de_var 5) de_int) (dw_and1 (dp_cmp (p_eq hr.units) (de_op o_mod (de_ixJ (hu_of hr) (de_var 1) de_int) de_int) de_int))).dp) (dss_cons (ds_set (i := 9) (de_ixJ (hu_of hr) (de_ixJ (hu_of hr) (de_var 2) de_int) (de_op o_mod (de_ixJ (hu_of hr) (de_var 1) de_int) de_int)) sc_l_wider.nd)
    (dss_cons (ds_unp (js := [7, 8]) rfl (de_call c_l_both (hr.mono (by decide)) (da_cons (de_var 7) (da_cons (de_var 8) (da_cons (de_tup (da_cons de_str (da_cons (de_var 9) da_nil))) (da_cons (de_ixJ (hu_of hr) (de_ixJ (hu_of hr) (de_var 2) de_int) (de_var 9)) da_nil))))) (pgs_cons (pg_name (i := 7) sc_l_wider.nd rfl (Or.inl rfl)) (pgs_cons (pg_name (i := 8) sc_l_wider.nd rfl (Or.inl rfl)) pgs_nil)))
    (dss_one (ds_set (i := 5) de_int sc_l_wider.nd)))) dss_nil)
    (dss_cons (ds_if (dp_cmp (p_eq hr.units) (de_op o_mod (de_ixJ (hu_of hr) (de_var 1) de_int) de_int) de_int) (dss_one (ds_ret (de_op p_add (de_call c_l_both (hr.mono (by decide)) (da_cons (de_var 3) (da_cons (de_var 4) (da_cons (de_var 7) (da_cons (de_var 8) da_nil))))) (de_tup (da_cons (de_op p_add (de_var 5) de_int) (da_cons (de_var 6) da_nil)))))) dss_nil)
    (dss_one (ds_ret (de_op p_add (de_call c_l_both (hr.mono (by decide)) (da_cons (de_var 7) (da_cons (de_var 8) (da_cons (de_var 3) (da_cons (de_var 4) da_nil))))) (de_tup (da_cons (de_op p_add (de_var 5) de_int) (da_cons (de_var 6) da_nil))))))))))), ?_⟩
  rintro so ds k ⟨⟨W, i, q, hd, deep, puts, xs⟩, rfl, ⟨S, hd3, hx, hp⟩, hk⟩
  have hw := S.w
  have hd1 := S.d1
  have tabs : ∀ {z : Int} {K : D → Prop}, (∀ o g, W.hs.lookup o = some g → GH W.cs g → K (sD o)) → jIx (lS W.ns) (.a (.int (z % 3))) K := fun {z K} h => ns_at hw (mod_lt (by decide)).1 (mod_lt (i := z) (j := 3) (by decide)).2 fun o ho => by
    obtain ⟨g, e, gh⟩ := hw.tab ho
    exact h o g e gh
  refine ⟨rfl, ?_⟩
  dsimp only
  refine seq_split (fun ρ' => ∃ o g, W.hs.lookup o = some g ∧ GH W.cs g ∧ ρ' = ⟨[some (stQ q hd deep puts), some (iL xs), some (encWd W), some (encQ q), some (tS hd), some (.a (.int (deep : Int))), some (.a (.int puts)), some (encQ (.table o)), none, none], none, so⟩) ?r0 ?f0
  case f0 => exact fun NX h => tix (j := 0) rfl rfl (iL_at (j := 0) rfl (by omega) fun x0 _ => ⟨by decide, tabs fun o g e gh => h _ ⟨o, g, e, gh, rfl⟩⟩)
  rintro _ ⟨o, g, e, gh, rfl⟩
  refine seq_split (fun ρ' => ρ' = ⟨[some (stQ q hd deep puts), some (iL xs), some (encWd W), some (encQ q), some (tS hd), some (.a (.int (deep : Int))), some (.a (.int puts)), some (encQ (.table o)), some (tS g), none], none, so⟩) ?r1 ?f1
  case f1 => exact fun NX h => tix (j := 2) rfl rfl (tix (j := 1) rfl rfl (dix (hs_find e).1 (h _ rfl)))
  rintro _ rfl
  have O1 := oth_tab hw e gh
  refine seq_split (fun ρ' => ∃ (oq : Qn) (oh : List Str) (d ee : Nat) (o9 : Option D), Oth W oq oh ee ∧ deep + ee = d + 1 ∧ d ≤ 2 ∧ deep ≤ d ∧ ρ' = ⟨[some (stQ q hd deep puts), some (iL xs), some (encWd W), some (encQ q), some (tS hd), some (.a (.int (d : Int))), some (.a (.int puts)), some (encQ oq), some (tS oh), o9], none, so⟩) ?r2 ?f2
  case f2 =>
    intro NX h
    have skip := h _ ⟨.table o, g, deep, 1, none, O1, rfl, by omega, Nat.le_refl _, rfl⟩
    refine eq_i ?_
    by_cases d1 : (deep : Int) = 1
    case neg => exact (if_neg (by simp [d1])).mpr (no rfl skip)
    refine (if_pos (by simp [d1])).mpr (iL_at (j := 2) rfl (by omega) fun x2 _ => ⟨by decide, eq_i ⟨fun _ => ?_, fun _ => skip⟩⟩)
    refine tix (j := 0) rfl rfl (iL_at (j := 3) rfl (by omega) fun x3 _ => ⟨by decide, tabs fun o2 g2 e2 gh2 => tix (j := 2) rfl rfl (dix (hs_find e2).1 ?_)⟩)
    refine ⟨((.table o, g), (.table o2, g2)), rfl, ⟨Nat.le_trans gh.2.1 (by decide), Nat.le_trans gh2.2.1 (by decide)⟩, ?_⟩
    rintro d rfl
    exact ⟨rfl, h _ ⟨.join (.table o) (.table o2), g ++ joinX g g2, 2, 2, some (sD o2), oth_join hw O1 (oth_tab hw e2 gh2), by omega, Nat.le_refl _, by omega, rfl⟩⟩
  rintro _ ⟨oq, oh, d, ee, o9, O, h1, h2, h3, rfl⟩
  have l1 := S.six
  have l2 := O.six hw
  refine iL_at (j := 1) rfl (by omega) fun x1 _ => ⟨by decide, eq_i ⟨fun _ => ?_, fun _ => ?_⟩⟩
  · refine ⟨((q, hd), (oq, oh)), rfl, ⟨by show hd.length ≤ 100; omega, by show oh.length ≤ 100; omega⟩, ?_⟩
    rintro y rfl
    exact add_i (add_t (few rfl) (hk _ ⟨.join q oq, hd ++ joinX hd oh, d + 1, puts, rfl, wide_st S O h1 h2 h3 false⟩))
  · refine ⟨((oq, oh), (q, hd)), rfl, ⟨by show oh.length ≤ 100; omega, by show hd.length ≤ 100; omega⟩, ?_⟩
    rintro y rfl
    exact add_i (add_t (few rfl) (hk _ ⟨.join oq q, oh ++ joinX oh hd, d + 1, puts, rfl, wide_st S O h1 h2 h3 true⟩))
end
end Wh

namespace Wh
open PySem L2
/-! ### what a put puts in -/
structure Prt (W : Wd) (hd : List Str) (deep i : Nat) (q : Qn) (cs : List Str) (a b : Nat) : Prop where
  ok : Ok W.hs (unr q)
  eq : hdQ W.hs (unr q) = cs
  mem : ∀ c, c ∈ cs ↔ c ∈ hd
  len : cs.length = hd.length
  dg : deg (unr q) ≤ deep
  dp : (unr q).dep ≤ 1 + 3 * i + 5 * (deep - 1) + a
  qd : q.dep ≤ 8 + 3 * i + a
  rg : RgOk q
theorem put_st {W : Wd} {i : Nat} {q pq : Qn} {hd cs : List Str} {deep b : Nat} (s : StOf W i q hd deep) (p : Prt W hd deep i pq cs 2 b) (sw : Bool) : StOf W (i + 1) (if sw then .put pq q else .put q pq) (if sw then cs else hd) deep := by
  have dp := s.dp
  have pp := p.dp
  have qd := s.qd
  have pd := p.qd
  cases sw with
  | false =>
    refine ⟨s.w, ⟨s.ok, p.ok, fun c => ?_⟩, s.eq, s.sub, Nat.max_le.mpr ⟨s.dg, p.dg⟩, s.d1, s.d3, ?_, ?_, ⟨s.rg, p.rg⟩, s.one⟩
    · rw [s.eq, p.eq]
      exact (p.mem c).symm
    · show max (unr q).dep (unr pq).dep + 1 ≤ _
      omega
    · show max q.dep pq.dep + 1 ≤ _
      omega
  | true =>
    refine ⟨s.w, ⟨p.ok, s.ok, fun c => ?_⟩, p.eq, fun c h => s.sub c ((p.mem c).mp h), Nat.max_le.mpr ⟨p.dg, s.dg⟩, s.d1, s.d3, ?_, ?_, ⟨p.rg, s.rg⟩, fun h => by have := s.one h; have := p.len; show cs.length ≤ 3; omega⟩
    · rw [s.eq, p.eq]
      exact p.mem c
    · show max (unr pq).dep (unr q).dep + 1 ≤ _
      omega
    · show max pq.dep q.dep + 1 ≤ _
      omega
section
variable {P : Program} {w : World} {K : PySem.W.Frag} {mg : Str → Option Value} {base : Heap} {C : Addr}
abbrev s_l_put : Stmt := top 53
theorem sc_l_put : FnScope ["_law_state", "_law_xs", "_law_world_here", "_law_question_here", "_law_head", "_law_deep", "_law_puts", "_law_columns", "_law_part", "_law_like", "_law_name"] ["_law_state", "_law_xs", "_law_world_here"] (defScope s_l_put) := ⟨rfl, rfl, rfl, by decide +kernel, rfl, by decide +kernel, by decide +kernel⟩
theorem c_l_put (T : Txt mg) (Df : DefAt K mg "_law_put" s_l_put) (c_l_bent : Callee P w K mg base C 1 "_law_bent" ["_law_head", "_law_number"] fsBent) (c_l_test : Callee P w K mg base C 1 "_law_test" ["_law_xs", "_law_head", "_law_pool_here"] fsTest) :
    Callee P w K mg base C 3 "_law_put" ["_law_state", "_law_xs", "_law_world_here"] (fsGrow fun _ => True) := by
  refine def_ok Df sc_l_put (fun _ _ _ _ _ _ us hl => match us, hl with | [_, _, _], _ => rfl) (fs_len fun _ => rfl) fun fa cdv A outer s H E hr => ⟨_, _,
    (dss_cons (ds_unp (js := [3, 4, 5, 6]) rfl (de_var 0) (pgs_cons (pg_name (i := 3) sc_l_put.nd rfl (Or.inl rfl)) (pgs_cons (pg_name (i := 4) sc_l_put.nd rfl (Or.inr rfl)) (pgs_cons (pg_name (i := 5) sc_l_put.nd rfl (Or.inl rfl)) (pgs_cons (pg_name (i := 6) sc_l_put.nd rfl (Or.inl rfl)) pgs_nil)))))
    (dss_cons (ds_set (i := 7) (de_call c_l_bent (hr.mono (by decide)) (da_cons (de_var 4) (da_cons (de_ixJ (hu_of hr) (de_var 1) de_int) da_nil))) sc_l_put.nd)
    (dss_cons (ds_set (i := 8) (de_tup (da_cons de_str (da_cons (de_var 7) (da_cons (de_var 3) da_nil)))) sc_l_put.nd)
    (dss_cons (ds_setLcX (i := 9) rfl sc_l_put.nd rfl rfl (sw_true rfl rfl rfl (by decide +kernel)) (own := [("_law_name", 10)]) (j := 10) (di_seq (de_sl (de_ixJ (hu_of hr) (de_var 2) de_int) dpo_no (dpo_some de_int))) (blkOk_by (own := [("_law_name", 10)]) (N := ["_law_state", "_law_xs", "_law_world_here", "_law_question_here", "_law_head", "_law_deep", "_law_puts", "_law_columns", "_law_part", "_law_like", "_law_name"]) (sc := defScope s_l_put) (by decide +kernel)) (by decide) (fun _ _ _ _ _ => pg_name (i := 10) sc_l_put.nd rfl (Or.inl rfl)) (fun _ _ _ _ _ => ⟨_, (dts_one (dp_cmp (p_eq hr.units) (de_callB c_sortT T.m_sorted boot_sorted (da_cons (de_ixJ (hu_of hr) (de_ixJ (hu_of hr) (de_var 2) de_int) (de_var 10)) da_nil)) (de_callB c_sortT T.m_sorted boot_sorted (da_cons (de_var 4) da_nil))))⟩) (fun _ _ _ _ _ => ⟨_, (de_var 10)⟩))
    (dss_cons (ds_if ((dw_and (dp_cmp (p_ne hr.units) (de_var 9) (de_lst da_nil)) (dw_and1 (dp_cmp (p_eq hr.units) (de_op o_mod (de_op o_fdiv (de_ixJ (hu_of hr) (de_var 1) de_int) de_int) de_int) de_int))).dp) (dss_cons (ds_set (i := 8) (de_tup (da_cons de_str (da_cons (de_ixJ (hu_of hr) (de_var 9) (de_op o_mod (de_ixJ (hu_of hr) (de_var 1) de_int) (de_callB c_len T.m_len boot_len (da_cons (de_var 9) da_nil)))) da_nil))) sc_l_put.nd)
    (dss_one (ds_set (i := 7) (de_ixJ (hu_of hr) (de_ixJ (hu_of hr) (de_var 2) de_int) (de_ixJ (hu_of hr) (de_var 8) de_int)) sc_l_put.nd))) dss_nil)
    (dss_cons (ds_if ((dw_and (dp_cmp (p_ne hr.units) (de_var 4) (de_tup da_nil)) (dw_and1 (dp_cmp o_gt (de_op o_mod (de_ixJ (hu_of hr) (de_var 1) de_int) de_int) de_int))).dp) (dss_one (ds_set (i := 8) (de_tup (da_cons de_str (da_cons (de_call c_l_test (hr.mono (by decide)) (da_cons (de_var 1) (da_cons (de_var 7) (da_cons (de_ixJ (hu_of hr) (de_var 2) de_int) da_nil)))) (da_cons (de_var 8) da_nil)))) sc_l_put.nd)) dss_nil)
    (dss_cons (ds_if (dp_cmp (p_eq hr.units) (de_op o_mod (de_op o_fdiv (de_ixJ (hu_of hr) (de_var 1) de_int) de_int) de_int) de_int) (dss_one (ds_ret (de_tup (da_cons (de_tup (da_cons de_str (da_cons (de_var 3) (da_cons (de_var 8) da_nil)))) (da_cons (de_var 4) (da_cons (de_var 5) (da_cons (de_op p_add (de_var 6) de_int) da_nil))))))) dss_nil)
    (dss_one (ds_ret (de_tup (da_cons (de_tup (da_cons de_str (da_cons (de_var 8) (da_cons (de_var 3) da_nil)))) (da_cons (de_var 7) (da_cons (de_var 5) (da_cons (de_op p_add (de_var 6) de_int) da_nil)))))))))))))), ?_⟩
  rintro so ds k ⟨⟨W, i, q, hd, deep, puts, xs⟩, rfl, ⟨S, _, hx, hp⟩, hk⟩
  have hw := S.w
  have l6 := S.six
  refine ⟨rfl, ?_⟩
  dsimp only
  refine seq_split (fun ρ' => ∃ x4, ρ' = ⟨[some (stQ q hd deep puts), some (iL xs), some (encWd W), some (encQ q), some (tS hd), some (.a (.int (deep : Int))), some (.a (.int puts)), some (tS (bent hd x4)), none, none, none], none, so⟩) ?r0 ?f0
  case f0 => exact fun NX h => iL_at (j := 4) rfl (by omega) fun x4 _ => ⟨hd, x4, rfl, by omega, h _ ⟨x4, rfl⟩⟩
  rintro _ ⟨x4, rfl⟩
  refine seq_split (fun ρ' => ρ' = ⟨[some (stQ q hd deep puts), some (iL xs), some (encWd W), some (encQ q), some (tS hd), some (.a (.int (deep : Int))), some (.a (.int puts)), some (tS (bent hd x4)), some (encQ (.keep (bent hd x4) q)), none, none], none, so⟩) ?r1 ?f1
  case f1 => exact fun NX h => h _ rfl
  rintro _ rfl
  have base : Prt W hd deep i (.keep (bent hd x4) q) (bent hd x4) 1 0 := by
    have dp := S.dp
    have qd := S.qd
    refine ⟨⟨S.ok, bent_nodup x4 S.nd, fun c h => by rw [S.eq]; exact bent_mem.mp h, by rw [bent_len]; exact l6⟩, rfl, fun c => bent_mem, bent_len hd x4, S.dg, ?_, ?_, S.rg⟩
    · show (unr q).dep + 1 ≤ _
      omega
    · show q.dep + 1 ≤ _
      omega
  refine seq_split (fun ρ' => ∃ (l : List Str) (o : Option D), (∀ n ∈ l, ∃ g, W.hs.lookup n = some g ∧ GH W.cs g ∧ g.Perm hd ∧ sOk n = true) ∧ l.length ≤ 3 ∧ ρ' = ⟨[some (stQ q hd deep puts), some (iL xs), some (encWd W), some (encQ q), some (tS hd), some (.a (.int (deep : Int))), some (.a (.int puts)), some (tS (bent hd x4)), some (encQ (.keep (bent hd x4) q)), some (lS l), o], none, so⟩) ?r2 ?f2
  case f2 =>
    intro NX h
    obtain ⟨n0, n1, n2, n3, n4, ns⟩ := hw.names
    refine tix (j := 0) rfl rfl ?_
    show (cut (strsD W.ns) none (some ((3 : Nat) : Int))).length ≤ 100000 ∧ _
    have ec : cut (strsD W.ns) none (some ((3 : Nat) : Int)) = strsD (W.ns.take 3) := by
      rw [cut_upto _ (by rw [strsD_len, hw.n5]; decide), strsD_take]
    refine ⟨by rw [ec, strsD_len, List.length_take]; omega, fun i acc => ∃ l : List Str, acc = strsD l ∧ l.length ≤ i ∧ ∀ n ∈ l, ∃ g, W.hs.lookup n = some g ∧ GH W.cs g ∧ g.Perm hd ∧ sOk n = true, ⟨[], rfl, Nat.le_refl _, fun _ z => nomatch z⟩, ?_, ?_⟩
    · rintro i d acc hi ⟨l, rfl, hl, hall⟩
      rw [show cut (strsD W.ns) none (some 3) = strsD (W.ns.take 3) from ec] at hi
      obtain ⟨n, hn, rfl⟩ := strsD_get hi
      obtain ⟨g, e, gh⟩ := hw.tab hn
      refine tix (j := 2) rfl rfl (dix (hs_find e).1 ⟨g, rfl, by have := gh.2.1; omega, fun ys1 p1 s1 => ⟨hd, rfl, by omega, fun ys2 p2 s2 => ?_⟩⟩)
      refine eq_lists (fun c hc => hw.cS c (gh.cols c (p1.mem_iff.mp hc))) (fun c hc => S.sOk c (p2.mem_iff.mp hc)) ?_
      by_cases c : ys1 = ys2
      · refine (if_pos (by simp [c])).mpr ⟨l ++ [n], by rw [strsD_append]; rfl, by simp only [List.length_append, List.length_cons, List.length_nil]; omega, fun z hz => ?_⟩
        rcases List.mem_append.mp hz with q | q
        · exact hall z q
        · rw [List.mem_singleton.mp q]
          exact ⟨g, e, gh, (p1.symm.trans (c ▸ List.Perm.refl _)).trans p2, hw.nS n (List.mem_of_mem_take hn)⟩
      · exact (if_neg (by simp [c])).mpr ⟨l, rfl, by omega, hall⟩
    · rintro acc ⟨l, rfl, hl, hall⟩
      rw [show cut (strsD W.ns) none (some 3) = strsD (W.ns.take 3) from ec, strsD_len, List.length_take] at hl
      exact h _ ⟨l, none, hall, by omega, rfl⟩
  rintro _ ⟨l, o10, hall, hl3, rfl⟩
  refine seq_split (fun ρ' => ∃ (pq : Qn) (cs : List Str), Prt W hd deep i pq cs 1 0 ∧ ρ' = ⟨[some (stQ q hd deep puts), some (iL xs), some (encWd W), some (encQ q), some (tS hd), some (.a (.int (deep : Int))), some (.a (.int puts)), some (tS cs), some (encQ pq), some (lS l), o10], none, so⟩) ?r3 ?f3
  case f3 =>
    intro NX h
    have skip := h _ ⟨_, _, base, rfl⟩
    refine eq_nilL (n := 1) (Gd.l (gd_strs fun c hc => by obtain ⟨_, _, _, _, z⟩ := hall c hc; exact z)) (by decide) ?_
    cases l with
    | nil => exact (if_neg (by decide)).mpr (no rfl skip)
    | cons l0 lr =>
      refine (if_pos rfl).mpr (iL_at (j := 4) rfl (by omega) fun y4 _ => ⟨cdiv (by decide) (by decide), ⟨by decide, eq_i ⟨fun _ => ?_, fun _ => skip⟩⟩⟩)
      have lp : (0 : Int) < ((strsD (l0 :: lr)).length : Int) := by rw [strsD_len, List.length_cons]; omega
      refine iL_at (j := 0) rfl (by omega) fun y0 _ => ⟨lp, lS_any (mod_lt lp).1 (by have := (mod_lt (i := y0) lp).2; rw [strsD_len] at this ⊢; exact this) fun n hn => ?_⟩
      obtain ⟨g, e, gh, pm, sn⟩ := hall n hn
      have eg : hdQ W.hs (.table n) = g := by show (W.hs.lookup n).getD [] = g; rw [e]; rfl
      refine tix (j := 2) rfl rfl (tix (j := 1) rfl rfl (dix (hs_find e).1 (h _ ⟨.table n, g, ?_, rfl⟩)))
      have d1 := S.d1
      exact ⟨⟨g, e, gh.1, Nat.le_trans gh.2.1 (by decide)⟩, eg, fun c => pm.mem_iff, pm.length_eq, d1, by show 1 ≤ _; omega, by show 1 ≤ _; omega, trivial⟩
  rintro _ ⟨pq, cs, B, rfl⟩
  have csl : cs.length = hd.length := B.len
  refine seq_split (fun ρ' => ∃ (pq : Qn), Prt W hd deep i pq cs 2 0 ∧ ρ' = ⟨[some (stQ q hd deep puts), some (iL xs), some (encWd W), some (encQ q), some (tS hd), some (.a (.int (deep : Int))), some (.a (.int puts)), some (tS cs), some (encQ pq), some (lS l), o10], none, so⟩) ?r4 ?f4
  case f4 =>
    intro NX h
    have b1 := B.dp
    have b2 := B.qd
    have skip := h _ ⟨pq, ⟨B.ok, B.eq, B.mem, B.len, B.dg, by omega, by omega, B.rg⟩, rfl⟩
    refine eq_nilS S.sOk ?_
    cases hd with
    | nil => exact (if_neg (by decide)).mpr (no rfl skip)
    | cons h0 hr =>
      refine (if_pos rfl).mpr (iL_at (j := 5) rfl (by omega) fun y5 _ => ⟨by decide, ⟨fun _ => ?_, fun _ => skip⟩⟩)
      have cne : cs ≠ [] := fun z => by rw [z] at csl; simp at csl
      refine tix (j := 3) rfl rfl ⟨(xs, cs, W.pool), rfl, ⟨hx, cne, hw.pN, hw.pO⟩, ?_⟩
      rintro d ⟨t, rfl, t1, t2, t3⟩
      refine h _ ⟨.pick t pq, ⟨⟨B.ok, fun c hc => by rw [B.eq]; exact t1 c hc, t2, t3⟩, B.eq, B.mem, B.len, B.dg, ?_, ?_, B.rg⟩, rfl⟩
      · show (unr pq).dep + 1 ≤ _
        omega
      · show pq.dep + 1 ≤ _
        omega
  rintro _ ⟨pq2, B2, rfl⟩
  refine iL_at (j := 5) rfl (by omega) fun x5 _ => ⟨cdiv (by decide) (by decide), ⟨by decide, eq_i ⟨fun _ => ?_, fun _ => ?_⟩⟩⟩
  · exact add_i (hk _ ⟨.put q pq2, hd, deep, puts + 1, rfl, put_st S B2 false⟩)
  · exact add_i (hk _ ⟨.put pq2 q, cs, deep, puts + 1, rfl, put_st S B2 true⟩)
end
end Wh

namespace Wh
open PySem L2
theorem cut_from2 {α : Type} (xs : List α) (k : Nat) : cut xs (some (k : Int)) none = xs.drop k := by
  by_cases h : k ≤ xs.length
  · exact cut_from xs h
  · unfold cut
    rw [HT.sIx_nat, HT.sIx_none, Nat.min_eq_right (by omega), List.drop_of_length_le (Nat.le_refl _), List.drop_of_length_le (by omega)]
    exact List.take_nil
section
variable {P : Program} {w : World} {K : PySem.W.Frag} {mg : Str → Option Value} {base : Heap} {C : Addr}
/-! ### _law_more -/
def fsMore : FS := fs (ι := Wd × Nat × Qn × List Str × Nat × Int × Int) (fun ⟨W, _, q, hd, deep, puts, c⟩ => [stQ q hd deep puts, .a (.int c), encWd W]) (fun ⟨W, i, q, hd, deep, _, _⟩ => StOf W i q hd deep) (fun ⟨W, i, _, _, _, _, _⟩ d => nextS W i d)
abbrev s_l_more : Stmt := top 54
theorem sc_l_more : FnScope ["_law_state", "_law_cell", "_law_world_here", "_law_question_here", "_law_head", "_law_deep", "_law_puts", "_law_xs", "_law_columns", "_law_old", "_law_free", "_law_column", "_law_new"] ["_law_state", "_law_cell", "_law_world_here"] (defScope s_l_more) := ⟨rfl, rfl, rfl, by decide +kernel, rfl, by decide +kernel, by decide +kernel⟩
theorem c_l_more (T : Txt mg) (Df : DefAt K mg "_law_more" s_l_more) (c_l_stream : Callee P w K mg base C 1 "_law_stream" ["_law_cell", "_law_many"] fsStream) (c_l_bent : Callee P w K mg base C 1 "_law_bent" ["_law_head", "_law_number"] fsBent) (c_l_test : Callee P w K mg base C 1 "_law_test" ["_law_xs", "_law_head", "_law_pool_here"] fsTest)
    (c_l_ring : Callee P w K mg base C 3 "_law_ring" ["_law_state", "_law_xs", "_law_world_here"] (fsGrow fun deep => deep < 3)) (c_l_wider : Callee P w K mg base C 3 "_law_wider" ["_law_state", "_law_xs", "_law_world_here"] (fsGrow fun deep => deep < 3))
    (c_l_put : Callee P w K mg base C 3 "_law_put" ["_law_state", "_law_xs", "_law_world_here"] (fsGrow fun _ => True)) : Callee P w K mg base C 4 "_law_more" ["_law_state", "_law_cell", "_law_world_here"] fsMore := by
  refine def_ok Df sc_l_more (fun _ _ _ _ _ _ us hl => match us, hl with | [_, _, _], _ => rfl) (fs_len fun _ => rfl) fun fa cdv A outer s H E hr => ⟨_, _,
    (dss_cons (ds_unp (js := [3, 4, 5, 6]) rfl (de_var 0) (pgs_cons (pg_name (i := 3) sc_l_more.nd rfl (Or.inl rfl)) (pgs_cons (pg_name (i := 4) sc_l_more.nd rfl (Or.inr rfl)) (pgs_cons (pg_name (i := 5) sc_l_more.nd rfl (Or.inl rfl)) (pgs_cons (pg_name (i := 6) sc_l_more.nd rfl (Or.inl rfl)) pgs_nil)))))
    (dss_cons (ds_set (i := 7) (de_call c_l_stream (hr.mono (by decide)) (da_cons (de_op o_fdiv (de_var 1) de_int) (da_cons de_int da_nil))) sc_l_more.nd)
    (dss_cons (ds_if ((dw_and ((dw_or (dp_cmp (p_eq hr.units) (de_op o_mod (de_var 1) de_int) de_int) (dw_or1 (dp_cmp (p_eq hr.units) (de_op o_mod (de_var 1) de_int) de_int))).dp) (dw_and1 (dp_cmp o_lt (de_var 5) de_int))).dp) (dss_one (ds_ret (de_call c_l_ring (hr.mono (by decide)) (da_cons (de_var 0) (da_cons (de_var 7) (da_cons (de_var 2) da_nil)))))) dss_nil)
    (dss_cons (ds_if ((dw_and ((dw_or (dp_cmp (p_eq hr.units) (de_op o_mod (de_var 1) de_int) de_int) (dw_or1 (dp_cmp (p_eq hr.units) (de_op o_mod (de_var 1) de_int) de_int))).dp) (dw_and1 (dp_cmp o_lt (de_var 5) de_int))).dp) (dss_one (ds_ret (de_call c_l_wider (hr.mono (by decide)) (da_cons (de_var 0) (da_cons (de_var 7) (da_cons (de_var 2) da_nil)))))) dss_nil)
    (dss_cons (ds_if ((dw_and (dp_cmp (p_eq hr.units) (de_op o_mod (de_var 1) de_int) de_int) (dw_and1 (dp_cmp o_lt (de_var 6) de_int))).dp) (dss_one (ds_ret (de_call c_l_put (hr.mono (by decide)) (da_cons (de_var 0) (da_cons (de_var 7) (da_cons (de_var 2) da_nil)))))) dss_nil)
    (dss_cons (ds_if (dp_cmp (p_eq hr.units) (de_op o_mod (de_var 1) de_int) de_int) (dss_cons (ds_set (i := 8) (de_sl (de_call c_l_bent (hr.mono (by decide)) (da_cons (de_var 4) (da_cons (de_ixJ (hu_of hr) (de_var 7) de_int) da_nil))) (dpo_some (de_op o_mod (de_ixJ (hu_of hr) (de_var 7) de_int) de_int)) dpo_no) sc_l_more.nd)
    (dss_one (ds_ret (de_tup (da_cons (de_tup (da_cons de_str (da_cons (de_var 8) (da_cons (de_var 3) da_nil)))) (da_cons (de_var 8) (da_cons (de_var 5) (da_cons (de_var 6) da_nil)))))))) dss_nil)
    (dss_cons (ds_if ((dw_and (dp_cmp (p_eq hr.units) (de_op o_mod (de_var 1) de_int) de_int) (dw_and1 (dp_cmp (p_ne hr.units) (de_var 4) (de_tup da_nil)))).dp) (dss_cons (ds_set (i := 9) (de_ixJ (hu_of hr) (de_var 4) (de_op o_mod (de_ixJ (hu_of hr) (de_var 7) de_int) (de_callB c_len T.m_len boot_len (da_cons (de_var 4) da_nil)))) sc_l_more.nd)
    (dss_cons (ds_setLcX (i := 10) rfl sc_l_more.nd rfl rfl (sw_true rfl rfl rfl (by decide +kernel)) (own := [("_law_column", 11)]) (j := 11) (di_seq (de_ixJ (hu_of hr) (de_var 2) de_int)) (blkOk_by (own := [("_law_column", 11)]) (N := ["_law_state", "_law_cell", "_law_world_here", "_law_question_here", "_law_head", "_law_deep", "_law_puts", "_law_xs", "_law_columns", "_law_old", "_law_free", "_law_column", "_law_new"]) (sc := defScope s_l_more) (by decide +kernel)) (by decide) (fun _ _ _ _ _ => pg_name (i := 11) sc_l_more.nd rfl (Or.inl rfl)) (fun _ _ _ _ _ => ⟨_, (dts_one ((dw_or (dp_cmp (p_notIn (hu_of hr)) (de_var 11) (de_var 4)) (dw_or1 (dp_cmp (p_eq hr.units) (de_var 11) (de_var 9)))).dp))⟩) (fun _ _ _ _ _ => ⟨_, (de_var 11)⟩))
    (dss_cons (ds_set (i := 12) (de_ixJ (hu_of hr) (de_var 10) (de_op o_mod (de_ixJ (hu_of hr) (de_var 7) de_int) (de_callB c_len T.m_len boot_len (da_cons (de_var 10) da_nil)))) sc_l_more.nd)
    (dss_cons (ds_set (i := 8) (de_callT c_tuple T.m_tuple boot_tuple (da_cons (de_lcX (own := [("_law_column", 11)]) (j := 11) rfl sc_l_more.nd (di_seq (de_var 4)) (blkOk_by (own := [("_law_column", 11)]) (N := ["_law_state", "_law_cell", "_law_world_here", "_law_question_here", "_law_head", "_law_deep", "_law_puts", "_law_xs", "_law_columns", "_law_old", "_law_free", "_law_column", "_law_new"]) (sc := defScope s_l_more) (by decide +kernel)) (by decide) (fun _ _ _ _ _ => pg_name (i := 11) sc_l_more.nd rfl (Or.inl rfl)) (fun _ _ _ _ _ => ⟨_, dts_nil⟩) (fun _ _ _ _ _ => ⟨_, (de_if (dp_cmp (p_eq hr.units) (de_var 11) (de_var 9)) (de_var 12) (de_var 11))⟩)) da_nil)) sc_l_more.nd)
    (dss_one (ds_ret (de_tup (da_cons (de_tup (da_cons de_str (da_cons (de_var 9) (da_cons (de_var 12) (da_cons (de_var 3) da_nil))))) (da_cons (de_var 8) (da_cons (de_var 5) (da_cons (de_var 6) da_nil))))))))))) dss_nil)
    (dss_cons (ds_if ((dw_and (dp_cmp (p_eq hr.units) (de_op o_mod (de_var 1) de_int) de_int) (dw_and1 (dp_cmp (p_ne hr.units) (de_var 4) (de_tup da_nil)))).dp) (dss_one (ds_ret (de_tup (da_cons (de_tup (da_cons de_str (da_cons (de_call c_l_test (hr.mono (by decide)) (da_cons (de_var 7) (da_cons (de_var 4) (da_cons (de_ixJ (hu_of hr) (de_var 2) de_int) da_nil)))) (da_cons (de_var 3) da_nil)))) (da_cons (de_var 4) (da_cons (de_var 5) (da_cons (de_var 6) da_nil))))))) dss_nil)
    (dss_one (ds_ret (de_var 0))))))))))), ?_⟩
  rintro so ds k ⟨⟨W, i, q, hd, deep, puts, c⟩, rfl, S, hk⟩
  have hw := S.w
  have l6 := S.six
  have c8 := mod_lt (i := c) (j := 8) (by decide)
  refine ⟨rfl, ?_⟩
  dsimp only
  refine seq_split (fun ρ' => ∃ xs : List Int, xs.length = 6 ∧ (∀ x ∈ xs, N30 x) ∧ ρ' = ⟨[some (stQ q hd deep puts), some (.a (.int c)), some (encWd W), some (encQ q), some (tS hd), some (.a (.int (deep : Int))), some (.a (.int puts)), some (iL xs), none, none, none, none, none], none, so⟩) ?r0 ?f0
  case f0 =>
    intro NX h
    refine ⟨cdiv (by decide) (by decide), ⟨(c / 8, 6), rfl, (show 6 ≤ 1000 by decide), ?_⟩⟩
    rintro d ⟨xs, rfl, h1, h2⟩
    exact h _ ⟨xs, h1, h2, rfl⟩
  rintro _ ⟨xs, hx, hp, rfl⟩
  -- (c % 8 == a or c % 8 == b) and deep < 3
  refine seq_split (fun ρ' => ρ' = ⟨[some (stQ q hd deep puts), some (.a (.int c)), some (encWd W), some (encQ q), some (tS hd), some (.a (.int (deep : Int))), some (.a (.int puts)), some (iL xs), none, none, none, none, none], none, so⟩) ?r1 ?f1
  case f1 =>
    intro NX h
    have go : (decide ((deep : Int) < 3) = true → (fsGrow fun deep => deep < 3).run (lend so) [stQ q hd deep puts, iL xs, encWd W] k) ∧ (decide ((deep : Int) < 3) = false → NX ⟨[some (stQ q hd deep puts), some (.a (.int c)), some (encWd W), some (encQ q), some (tS hd), some (.a (.int (deep : Int))), some (.a (.int puts)), some (iL xs), none, none, none, none, none], none, so⟩) :=
      ⟨fun z => ⟨(W, i, q, hd, deep, puts, xs), rfl, ⟨S, (by have := of_decide_eq_true z; show deep < 3; omega), hx, hp⟩, fun d e => hk d e⟩, fun _ => h _ rfl⟩
    refine ⟨by decide, eq_i ?_⟩
    by_cases a : c % 8 = 7
    · exact (if_pos (by simp [a])).mpr ((if_pos rfl).mpr go)
    · refine (if_neg (by simp [a])).mpr ⟨by decide, eq_i ?_⟩
      by_cases b : c % 8 = 1
      · exact (if_pos (by simp [b])).mpr go
      · exact (if_neg (by simp [b])).mpr (no rfl (h _ rfl))
  rintro _ rfl
  refine seq_split (fun ρ' => ρ' = ⟨[some (stQ q hd deep puts), some (.a (.int c)), some (encWd W), some (encQ q), some (tS hd), some (.a (.int (deep : Int))), some (.a (.int puts)), some (iL xs), none, none, none, none, none], none, so⟩) ?r2 ?f2
  case f2 =>
    intro NX h
    have go : (decide ((deep : Int) < 3) = true → (fsGrow fun deep => deep < 3).run (lend so) [stQ q hd deep puts, iL xs, encWd W] k) ∧ (decide ((deep : Int) < 3) = false → NX ⟨[some (stQ q hd deep puts), some (.a (.int c)), some (encWd W), some (encQ q), some (tS hd), some (.a (.int (deep : Int))), some (.a (.int puts)), some (iL xs), none, none, none, none, none], none, so⟩) :=
      ⟨fun z => ⟨(W, i, q, hd, deep, puts, xs), rfl, ⟨S, (by have := of_decide_eq_true z; show deep < 3; omega), hx, hp⟩, fun d e => hk d e⟩, fun _ => h _ rfl⟩
    refine ⟨by decide, eq_i ?_⟩
    by_cases a : c % 8 = 4
    · exact (if_pos (by simp [a])).mpr ((if_pos rfl).mpr go)
    · refine (if_neg (by simp [a])).mpr ⟨by decide, eq_i ?_⟩
      by_cases b : c % 8 = 5
      · exact (if_pos (by simp [b])).mpr go
      · exact (if_neg (by simp [b])).mpr (no rfl (h _ rfl))
  rintro _ rfl
  refine seq_split (fun ρ' => ρ' = ⟨[some (stQ q hd deep puts), some (.a (.int c)), some (encWd W), some (encQ q), some (tS hd), some (.a (.int (deep : Int))), some (.a (.int puts)), some (iL xs), none, none, none, none, none], none, so⟩) ?r3 ?f3
  case f3 =>
    intro NX h
    refine ⟨by decide, eq_i ?_⟩
    by_cases a : c % 8 = 6
    · exact (if_pos (by simp [a])).mpr ⟨fun z => ⟨(W, i, q, hd, deep, puts, xs), rfl, ⟨S, trivial, hx, hp⟩, fun d e => hk d e⟩, fun _ => h _ rfl⟩
    · exact (if_neg (by simp [a])).mpr (no rfl (h _ rfl))
  rintro _ rfl
  refine seq_split (fun ρ' => ρ' = ⟨[some (stQ q hd deep puts), some (.a (.int c)), some (encWd W), some (encQ q), some (tS hd), some (.a (.int (deep : Int))), some (.a (.int puts)), some (iL xs), none, none, none, none, none], none, so⟩) ?r4 ?f4
  case f4 =>
    intro NX h
    refine ⟨by decide, eq_i ⟨fun _ => ?_, fun _ => h _ rfl⟩⟩
    refine iL_at (j := 0) rfl (by omega) fun x0 _ => ⟨hd, x0, rfl, by omega, iL_at (j := 1) rfl (by omega) fun x1 _ => ⟨by decide, ?_⟩⟩
    have r1 := mod_lt (i := x1) (j := 2) (by decide)
    obtain ⟨j, hj⟩ : ∃ j : Nat, x1 % 2 = (j : Int) := ⟨(x1 % 2).toNat, by omega⟩
    rw [hj]
    have ec : cut (strsD (bent hd x0)) (some ((j : Nat) : Int)) none = strsD ((bent hd x0).drop j) := by rw [cut_from2, strsD_drop]
    have sub : ∀ z ∈ (bent hd x0).drop j, z ∈ hd := fun z hz => bent_mem.mp (List.mem_of_mem_drop hz)
    have len : ((bent hd x0).drop j).length ≤ hd.length := by rw [List.length_drop, bent_len]; omega
    show k (.tup [.tup [sD "keep", .tup (cut (strsD (bent hd x0)) (some ((j : Nat) : Int)) none), encQ q], .tup (cut (strsD (bent hd x0)) (some ((j : Nat) : Int)) none), .a (.int (deep : Int)), .a (.int puts)])
    rw [ec]
    have dp := S.dp
    have qd := S.qd
    have nd : ((bent hd x0).drop j).Nodup := (bent_nodup x0 S.nd).sublist (List.drop_sublist _ _)
    refine hk _ ⟨.keep ((bent hd x0).drop j) q, (bent hd x0).drop j, deep, puts, rfl, ⟨hw, ⟨S.ok, nd, fun z hz => by rw [S.eq]; exact sub z hz, by omega⟩, rfl, fun z hz => S.sub z (sub z hz), S.dg, S.d1, S.d3, ?_, ?_, S.rg, fun h => by have := S.one h; omega⟩⟩
    · show (unr q).dep + 1 ≤ _
      omega
    · show q.dep + 1 ≤ _
      omega
  rintro _ rfl
  refine seq_split (fun ρ' => ρ' = ⟨[some (stQ q hd deep puts), some (.a (.int c)), some (encWd W), some (encQ q), some (tS hd), some (.a (.int (deep : Int))), some (.a (.int puts)), some (iL xs), none, none, none, none, none], none, so⟩) ?r5 ?f5
  case f5 =>
    intro NX h
    refine ⟨by decide, eq_i ?_⟩
    by_cases a : c % 8 = 3
    case neg => exact (if_neg (by simp [a])).mpr (no rfl (h _ rfl))
    refine (if_pos (by simp [a])).mpr (eq_nilS S.sOk ?_)
    cases hd with
    | nil => exact no rfl (h _ rfl)
    | cons h0 r =>
      have hpos : (0 : Int) < ((strsD (h0 :: r)).length : Int) := by rw [strsD_len, List.length_cons]; omega
      refine yes rfl (iL_at (j := 0) rfl (by omega) fun x0 _ => ⟨hpos, tS_any (mod_lt hpos).1 (by have := (mod_lt (i := x0) hpos).2; rw [strsD_len] at this ⊢; exact this) fun old ho => ?_⟩)
      refine tix (j := 1) rfl rfl ⟨by rw [strsD_len, hw.c6]; decide, lc_strs (cs := W.cs) (fun z => if z ∉ h0 :: r ∨ z = old then some (sD z) else none) ?_ ?_⟩
      · intro z hz R acc hR
        refine in_go ?_
        by_cases m : z ∈ h0 :: r
        · refine (if_neg (by simp only [has m]; decide)).mpr (eq_s ?_)
          by_cases e : z = old
          · rw [if_pos (.inr e)] at hR
            exact (if_pos (by simp [e])).mpr hR
          · rw [if_neg (by rintro (q | q); exact q m; exact e q)] at hR
            refine (if_neg (by simp [e])).mpr ?_
            simpa using hR
        · rw [if_pos (.inl m)] at hR
          exact (if_pos (by simp only [hasnt m]; decide)).mpr ((if_pos rfl).mpr hR)
      · have fe : ∃ l : List Str, (W.cs.filterMap fun z => if z ∉ h0 :: r ∨ z = old then some (sD z) else none) = strsD l ∧ l ≠ [] ∧ ∀ z ∈ l, z ∈ W.cs ∧ (z ∉ h0 :: r ∨ z = old) := by
          refine ⟨W.cs.filter fun z => decide (z ∉ h0 :: r ∨ z = old), ?_, ?_, fun z hz => ?_⟩
          · clear h hk
            induction W.cs with
            | nil => rfl
            | cons z t ih =>
              rw [List.filterMap_cons, List.filter_cons, ih]
              by_cases q : z ∉ h0 :: r ∨ z = old
              · rw [if_pos q, decide_eq_true q]; rfl
              · rw [if_neg q, decide_eq_false q]; rfl
          · intro z
            have : old ∈ W.cs.filter fun z => decide (z ∉ h0 :: r ∨ z = old) := List.mem_filter.mpr ⟨S.sub old ho, decide_eq_true (.inr rfl)⟩
            rw [z] at this
            cases this
          · obtain ⟨z1, z2⟩ := List.mem_filter.mp hz
            exact ⟨z1, of_decide_eq_true z2⟩
        obtain ⟨l, el, ln, lm⟩ := fe
        rw [el]
        have lp : (0 : Int) < ((strsD l).length : Int) := by
          rw [strsD_len]
          have := List.length_pos_iff.mpr ln
          omega
        refine iL_at (j := 1) rfl (by omega) fun x1 _ => ⟨lp, lS_any (mod_lt lp).1 (by have := (mod_lt (i := x1) lp).2; rw [strsD_len] at this ⊢; exact this) fun new hnew => ?_⟩
        obtain ⟨n1, n2⟩ := lm new hnew
        refine ⟨by rw [strsD_len]; omega, lc_strs (cs := h0 :: r) (fun z => some (sD (if z = old then new else z))) ?_ ?_⟩
        · intro z hz R acc hR
          refine eq_s ?_
          by_cases e : z = old
          · rw [if_pos e] at hR
            exact (if_pos (by simp [e])).mpr hR
          · rw [if_neg e] at hR
            exact (if_neg (by simp [e])).mpr hR
        · rw [call_fm]
          have dp := S.dp
          have qd := S.qd
          refine hk _ ⟨.call old new q, callH old new (h0 :: r), deep, puts, rfl, ⟨hw, ⟨S.ok, by rw [S.eq]; exact ho, fun z => ?_⟩, ?_, fun z hz => ?_, S.dg, S.d1, S.d3, ?_, ?_, S.rg, fun h => by rw [callH_len]; exact S.one h⟩⟩
          · rw [S.eq] at z
            rcases n2 with q | q
            · exact absurd z q
            · exact q
          · show callH old new (hdQ W.hs (unr q)) = _
            rw [S.eq]
          · rcases callH_mem.mp hz with q | q
            · exact S.sub z q.1
            · rw [q.1]; exact n1
          · show (unr q).dep + 1 ≤ _
            omega
          · show q.dep + 1 ≤ _
            omega
  rintro _ rfl
  refine seq_split (fun ρ' => ρ' = ⟨[some (stQ q hd deep puts), some (.a (.int c)), some (encWd W), some (encQ q), some (tS hd), some (.a (.int (deep : Int))), some (.a (.int puts)), some (iL xs), none, none, none, none, none], none, so⟩) ?r6 ?f6
  case f6 =>
    intro NX h
    refine ⟨by decide, eq_i ?_⟩
    by_cases a : c % 8 = 0
    case neg => exact (if_neg (by simp [a])).mpr (no rfl (h _ rfl))
    refine (if_pos (by simp [a])).mpr (eq_nilS S.sOk ?_)
    cases hd with
    | nil => exact no rfl (h _ rfl)
    | cons h0 r =>
      refine yes rfl (tix (j := 3) rfl rfl ⟨(xs, h0 :: r, W.pool), rfl, ⟨hx, List.cons_ne_nil h0 r, hw.pN, hw.pO⟩, ?_⟩)
      rintro d ⟨t, rfl, t1, t2, t3⟩
      have dp := S.dp
      have qd := S.qd
      refine hk _ ⟨.pick t q, h0 :: r, deep, puts, rfl, ⟨hw, ⟨S.ok, fun z hz => by rw [S.eq]; exact t1 z hz, t2, t3⟩, S.eq, S.sub, S.dg, S.d1, S.d3, ?_, ?_, S.rg, S.one⟩⟩
      · show (unr q).dep + 1 ≤ _
        omega
      · show q.dep + 1 ≤ _
        omega
  rintro _ rfl
  exact hk _ ⟨q, hd, deep, puts, rfl, S.up⟩
end
end Wh

namespace Wh
open PySem L2
section
variable {P : Program} {w : World} {K : PySem.W.Frag} {mg : Str → Option Value} {base : Heap} {C : Addr}
/-! ### _law_question -/
def fsQn : FS := fs (ι := List Int × Wd) (fun ⟨cells, W⟩ => [iL cells, encWd W]) (fun ⟨cells, W⟩ => cells.length = 6 ∧ WOk W) (fun ⟨_, W⟩ d => ∃ (q : Qn) (hd : List Str) (deep : Nat), d = .tup [encQ q, tS hd, .a (.int (deep : Int))] ∧ StOf W 5 q hd deep)
abbrev s_l_question : Stmt := top 55
theorem sc_l_question : FnScope ["_law_cells", "_law_world_here", "_law_first", "_law_state", "_law_cell"] ["_law_cells", "_law_world_here"] (defScope s_l_question) := ⟨rfl, rfl, rfl, by decide +kernel, rfl, by decide +kernel, by decide +kernel⟩
theorem c_l_question (T : Txt mg) (Df : DefAt K mg "_law_question" s_l_question) (c_l_more : Callee P w K mg base C 4 "_law_more" ["_law_state", "_law_cell", "_law_world_here"] fsMore) : Callee P w K mg base C 5 "_law_question" ["_law_cells", "_law_world_here"] fsQn := by
  refine def_ok Df sc_l_question (fun _ _ _ _ _ _ us hl => match us, hl with | [_, _], _ => rfl) (fs_len fun _ => rfl) fun fa cdv A outer s H E hr => ⟨_, _,
    (dss_cons (ds_set (i := 2) (de_ixJ (hu_of hr) (de_ixJ (hu_of hr) (de_var 1) de_int) (de_op o_mod (de_ixJ (hu_of hr) (de_var 0) de_int) de_int)) sc_l_question.nd)
    (dss_cons (ds_set (i := 3) (de_tup (da_cons (de_tup (da_cons de_str (da_cons (de_var 2) da_nil))) (da_cons (de_ixJ (hu_of hr) (de_ixJ (hu_of hr) (de_var 1) de_int) (de_var 2)) (da_cons de_int (da_cons de_int da_nil))))) sc_l_question.nd)
    (dss_cons (ds_for PassesOwn.never rfl (di_seq (de_sl (de_var 0) (dpo_some de_int) dpo_no)) (pg_name (i := 4) sc_l_question.nd rfl (Or.inl rfl)) (dss_one (ds_set (i := 3) (de_call c_l_more (hr.mono (by decide)) (da_cons (de_var 3) (da_cons (de_var 4) (da_cons (de_var 1) da_nil)))) sc_l_question.nd)))
    (dss_one (ds_ret (de_sl (de_var 3) dpo_no (dpo_some de_int))))))), ?_⟩
  rintro so ds k ⟨⟨cells, W⟩, rfl, ⟨hc, hw⟩, hk⟩
  dsimp only
  refine seq_split (fun ρ' => ∃ o, o ∈ W.ns.take 3 ∧ ρ' = ⟨[some (iL cells), some (encWd W), some (sD o), none, none], none, so⟩) ?r0 ?f0
  case f0 =>
    intro NX h
    exact tix (j := 0) rfl rfl (iL_at (j := 0) rfl (by omega) fun x0 _ => ⟨by decide, ns_at hw (mod_lt (by decide)).1 (mod_lt (i := x0) (j := 3) (by decide)).2 fun o ho => h _ ⟨o, ho, rfl⟩⟩)
  rintro _ ⟨o, ho, rfl⟩
  obtain ⟨g, e1, e2⟩ := hw.tab ho
  obtain ⟨t1, t2⟩ := hw.tabOk ho
  have eg : hdQ W.hs (.table o) = g := by show (W.hs.lookup o).getD [] = g; rw [e1]; rfl
  rw [eg] at t2
  refine seq_split (fun ρ' => ρ' = ⟨[some (iL cells), some (encWd W), some (sD o), some (stQ (.table o) g 1 0), none], none, so⟩) ?r1 ?f1
  case f1 => exact fun NX h => tix (j := 2) rfl rfl (dix (hs_find e1).1 (h _ rfl))
  rintro _ rfl
  refine seq_split (fun ρ' => ∃ q hd deep puts o4, StOf W 5 q hd deep ∧ ρ' = ⟨[some (iL cells), some (encWd W), some (sD o), some (stQ q hd deep puts), o4], none, so⟩) ?r2 ?f2
  case f2 =>
    intro NX h
    have ec : cut (cells.map fun n => D.a (.int n)) (some ((1 : Nat) : Int)) none = (cells.drop 1).map fun n => D.a (.int n) := by rw [cut_from2, List.map_drop]
    have hl : (cells.drop 1).length = 5 := by rw [List.length_drop, hc]
    show ∃ Inv : Nat → DSt → Prop, Inv 0 _ ∧ (∀ i d ρ', (cut (cells.map fun n => D.a (.int n)) (some ((1 : Nat) : Int)) none)[i]? = some d → Inv i ρ' → _) ∧ ∀ ρ', Inv (cut (cells.map fun n => D.a (.int n)) (some ((1 : Nat) : Int)) none).length ρ' → _
    rw [ec]
    refine ⟨fun i ρ' => ∃ q hd deep puts o4, StOf W i q hd deep ∧ ρ' = ⟨[some (iL cells), some (encWd W), some (sD o), some (stQ q hd deep puts), o4], none, so⟩, ?_, ?_, ?_⟩
    · exact ⟨.table o, g, 1, 0, none, ⟨hw, t1, eg, t2.cols, Nat.le_refl _, Nat.le_refl _, by decide, Nat.le_refl _, by show 1 ≤ 8 + 3 * 0; decide, trivial, fun _ => t2.2.1⟩, rfl⟩
    · rintro i d ρ' hd ⟨q, h1, deep, puts, o4, S, rfl⟩
      obtain ⟨z, _, rfl⟩ := List.mem_map.mp (List.mem_of_getElem? hd)
      refine ⟨(W, i, q, h1, deep, puts, z), rfl, S, ?_⟩
      rintro d ⟨q2, h2, deep2, puts2, rfl, S2⟩
      exact ⟨q2, h2, deep2, puts2, _, S2, rfl⟩
    · intro ρ' hI
      rw [List.length_map, hl] at hI
      exact h _ hI
  rintro _ ⟨q, hd, deep, puts, o4, S, rfl⟩
  exact hk _ ⟨q, hd, deep, rfl, S⟩
/-! ### _law_world -/
def fsWorld : FS := fs (ι := List Int) (fun ns => [iL ns]) (fun _ => True) (fun _ d => ∃ W, d = encWd W ∧ WOk W)
abbrev s_l_world : Stmt := top 56
theorem sc_l_world : FnScope ["_law_script", "_law_names", "_law_columns", "_law_some", "_law_heads_here"] ["_law_script"] (defScope s_l_world) := ⟨rfl, rfl, rfl, by decide +kernel, rfl, by decide +kernel, by decide +kernel⟩
theorem c_l_world (T : Txt mg) (Df : DefAt K mg "_law_world" s_l_world) (c_l_cell_at : Callee P w K mg base C 1 "_law_cell_at" ["_law_script", "_law_k"] fsCell) (c_l_words : Callee P w K mg base C 2 "_law_words" ["_law_cell", "_law_many"] fsWords)
    (c_l_heads : Callee P w K mg base C 2 "_law_heads" ["_law_cell", "_law_columns"] fsHeads) (c_l_pool : Callee P w K mg base C 1 "_law_pool" ["_law_cell"] fsPool) : Callee P w K mg base C 3 "_law_world" ["_law_script"] fsWorld := by
  refine def_ok Df sc_l_world (fun _ _ _ _ _ _ us hl => match us, hl with | [_], _ => rfl) (fs_len fun _ => rfl) fun fa cdv A outer s H E hr => ⟨_, _,
    (dss_cons (ds_set (i := 1) (de_call c_l_words (hr.mono (by decide)) (da_cons (de_call c_l_cell_at (hr.mono (by decide)) (da_cons (de_var 0) (da_cons de_int da_nil))) (da_cons de_int da_nil))) sc_l_world.nd)
    (dss_cons (ds_set (i := 2) (de_call c_l_words (hr.mono (by decide)) (da_cons (de_call c_l_cell_at (hr.mono (by decide)) (da_cons (de_var 0) (da_cons de_int da_nil))) (da_cons de_int da_nil))) sc_l_world.nd)
    (dss_cons (ds_set (i := 3) (de_call c_l_heads (hr.mono (by decide)) (da_cons (de_call c_l_cell_at (hr.mono (by decide)) (da_cons (de_var 0) (da_cons de_int da_nil))) (da_cons (de_var 2) da_nil))) sc_l_world.nd)
    (dss_cons (ds_set (i := 4) (de_disp (dpps_cons (de_ixJ (hu_of hr) (de_var 1) de_int) (de_ixJ (hu_of hr) (de_var 3) de_int) (dpps_cons (de_ixJ (hu_of hr) (de_var 1) de_int) (de_ixJ (hu_of hr) (de_var 3) de_int) (dpps_cons (de_ixJ (hu_of hr) (de_var 1) de_int) (de_ixJ (hu_of hr) (de_var 3) de_int) dpps_nil)))) sc_l_world.nd)
    (dss_one (ds_ret (de_tup (da_cons (de_var 1) (da_cons (de_var 2) (da_cons (de_var 4) (da_cons (de_call c_l_pool (hr.mono (by decide)) (da_cons (de_call c_l_cell_at (hr.mono (by decide)) (da_cons (de_var 0) (da_cons de_int da_nil))) da_nil)) da_nil))))))))))), ?_⟩
  rintro so ds k ⟨ns, rfl, _, hk⟩
  dsimp only
  refine ⟨(ns, 0), rfl, trivial, ?_⟩
  rintro _ ⟨z0, rfl⟩
  refine ⟨(z0, 5), rfl, (show 5 ≤ 60 by decide), ?_⟩
  rintro _ ⟨w0, rfl, l0, nd0, ok0⟩
  refine ⟨(ns, 1), rfl, trivial, ?_⟩
  rintro _ ⟨z1, rfl⟩
  refine ⟨(z1, 6), rfl, (show 6 ≤ 60 by decide), ?_⟩
  rintro _ ⟨cs, rfl, l1, nd1, ok1⟩
  refine ⟨(ns, 2), rfl, trivial, ?_⟩
  rintro _ ⟨z2, rfl⟩
  refine ⟨(z2, cs), rfl, ⟨l1, nd1⟩, ?_⟩
  rintro _ ⟨h0, h1, h2, rfl, g0, g1, g2⟩
  obtain ⟨n0, n1, n2, n3, n4, rfl⟩ : ∃ a b c d e, w0 = [a, b, c, d, e] := by
    match w0, l0 with
    | [a, b, c, d, e], _ => exact ⟨a, b, c, d, e, rfl⟩
  have nd3 : [n0, n1, n2].Nodup := (show ([n0, n1, n2, n3, n4].take 3).Nodup from nd0.sublist (List.take_sublist 3 _))
  refine lix (j := 0) rfl rfl (lix (j := 0) rfl rfl (lix (j := 1) rfl rfl (lix (j := 1) rfl rfl (lix (j := 2) rfl rfl (lix (j := 2) rfl rfl ⟨nd3, ?_⟩)))))
  refine ⟨(ns, 3), rfl, trivial, ?_⟩
  rintro _ ⟨z3, rfl⟩
  refine ⟨z3, rfl, trivial, ?_⟩
  rintro _ ⟨pool, rfl, p1, p2, p3⟩
  refine hk _ ⟨⟨[n0, n1, n2, n3, n4], cs, [(n0, h0), (n1, h1), (n2, h2)], pool⟩, rfl, ⟨rfl, nd0, ok0, l1, nd1, ok1, rfl, fun p hp => ?_, p1, p2, p3⟩⟩
  rcases List.mem_cons.mp hp with q | hp
  · rw [q]; exact g0
  rcases List.mem_cons.mp hp with q | hp
  · rw [q]; exact g1
  rw [List.mem_singleton.mp hp]; exact g2
end
end Wh

namespace Wh
open PySem L2
section
variable {P : Program} {w : World} {K : PySem.W.Frag} {mg : Str → Option Value} {base : Heap} {C : Addr}
/-! ### _law_stand -/
theorem getD_at {α : Type} {l : List α} {i : Nat} {d : α} (h : i < l.length) : l[i]? = some (l.getD i d) := by rw [List.getD_eq_getElem?_getD, List.getElem?_eq_getElem h]; rfl
structure StdOk (W : Wd) (names : List Str) (m : Nat) (st : List Rw) : Prop where
  ok : StOk W.hs st
  sub : (st.map (·.name)).Sublist names
  len : st.length ≤ m
  tab : ∀ r ∈ st, r.tab ∈ W.ns.take 3
def fsStand : FS := fs (ι := List Int × Wd × List Str × Int) (fun ⟨cells, W, names, most⟩ => [iL cells, encWd W, lS names, .a (.int most)]) (fun ⟨cells, W, names, _⟩ => WOk W ∧ cells.length ≤ 50 ∧ cells.length ≤ names.length ∧ ∀ z ∈ names, sOk z = true)
  (fun ⟨cells, W, names, _⟩ d => ∃ st, d = stD st ∧ StdOk W names cells.length st)
abbrev s_l_stand : Stmt := top 57
theorem sc_l_stand : FnScope ["_law_cells", "_law_world_here", "_law_names", "_law_most", "_law_found", "_law_k", "_law_xs", "_law_table", "_law_one", "_law_row", "_law_j"] ["_law_cells", "_law_world_here", "_law_names", "_law_most"] (defScope s_l_stand) := ⟨rfl, rfl, rfl, by decide +kernel, rfl, by decide +kernel, by decide +kernel⟩
theorem c_l_stand (T : Txt mg) (Df : DefAt K mg "_law_stand" s_l_stand) (c_l_stream : Callee P w K mg base C 1 "_law_stream" ["_law_cell", "_law_many"] fsStream) : Callee P w K mg base C 2 "_law_stand" ["_law_cells", "_law_world_here", "_law_names", "_law_most"] fsStand := by
  refine def_ok Df sc_l_stand (fun _ _ _ _ _ _ us hl => match us, hl with | [_, _, _, _], _ => rfl) (fs_len fun _ => rfl) fun fa cdv A outer s H E hr => ⟨_, _,
    (dss_cons (ds_ownNew (i := 4) sc_l_stand.nd)
    (dss_cons (ds_for PassesOwn.never rfl (di_range1 T.m_range (da_cons (de_callB c_len T.m_len boot_len (da_cons (de_var 0) da_nil)) da_nil)) (pg_name (i := 5) sc_l_stand.nd rfl (Or.inl rfl)) (dss_cons (ds_set (i := 6) (de_call c_l_stream (hr.mono (by decide)) (da_cons (de_ixJ (hu_of hr) (de_var 0) (de_var 5)) (da_cons de_int da_nil))) sc_l_stand.nd)
    (dss_cons (ds_set (i := 7) (de_ixJ (hu_of hr) (de_ixJ (hu_of hr) (de_var 1) de_int) (de_op o_mod (de_ixJ (hu_of hr) (de_var 6) de_int) de_int)) sc_l_stand.nd)
    (dss_one (ds_ifB (dp_cmp o_lt (de_callB c_len T.m_len boot_len (da_cons (de_lcX (own := [("_law_one", 8)]) (j := 8) rfl sc_l_stand.nd (di_seq (de_var 4)) (blkOk_by (own := [("_law_one", 8)]) (N := ["_law_cells", "_law_world_here", "_law_names", "_law_most", "_law_found", "_law_k", "_law_xs", "_law_table", "_law_one", "_law_row", "_law_j"]) (sc := defScope s_l_stand) (by decide +kernel)) (by decide) (fun _ _ _ _ _ => pg_name (i := 8) sc_l_stand.nd rfl (Or.inl rfl)) (fun _ _ _ _ _ => ⟨_, (dts_one (dp_cmp (p_eq hr.units) (de_ixJ (hu_of hr) (de_var 8) de_int) (de_var 7)))⟩) (fun _ _ _ _ _ => ⟨_, (de_var 8)⟩)) da_nil)) (de_var 3)) (dss_cons (ds_set (i := 9) (de_callT c_tuple T.m_tuple boot_tuple (da_cons (de_lcX (own := [("_law_j", 10)]) (j := 10) rfl sc_l_stand.nd (di_range1 T.m_range (da_cons (de_callB c_len T.m_len boot_len (da_cons (de_ixJ (hu_of hr) (de_ixJ (hu_of hr) (de_var 1) de_int) (de_var 7)) da_nil)) da_nil)) (blkOk_by (own := [("_law_j", 10)]) (N := ["_law_cells", "_law_world_here", "_law_names", "_law_most", "_law_found", "_law_k", "_law_xs", "_law_table", "_law_one", "_law_row", "_law_j"]) (sc := defScope s_l_stand) (by decide +kernel)) (by decide) (fun _ _ _ _ _ => pg_name (i := 10) sc_l_stand.nd rfl (Or.inl rfl)) (fun _ _ _ _ _ => ⟨_, dts_nil⟩) (fun _ _ _ _ _ => ⟨_, (de_ixJ (hu_of hr) (de_ixJ (hu_of hr) (de_var 1) de_int) (de_op o_mod (de_ixJ (hu_of hr) (de_var 6) (de_op p_add de_int (de_var 10))) (de_callB c_len T.m_len boot_len (da_cons (de_ixJ (hu_of hr) (de_var 1) de_int) da_nil))))⟩)) da_nil)) sc_l_stand.nd)
    (dss_one (ds_app (i := 4) (de_tup (da_cons (de_var 7) (da_cons (de_ixJ (hu_of hr) (de_var 2) (de_var 5)) (da_cons (de_var 9) da_nil))))))) dss_nil)))))
    (dss_frz (dss_one (ds_ret (de_var 4)))))), ?_⟩
  rintro so ds k ⟨⟨cells, W, names, most⟩, rfl, ⟨hw, hc, hn, hs⟩, hk⟩
  dsimp only
  refine ⟨⟨rfl, by show 4 < 11; decide⟩, ?_⟩
  refine ⟨by rw [List.length_map]; omega, ?_⟩
  refine ⟨fun i ρ => ∃ (st : List Rw) (o5 o6 o7 o8 o9 o10 : Option D), ρ = ⟨[some (iL cells), some (encWd W), some (lS names), some (.a (.int most)), none, o5, o6, o7, o8, o9, o10], some (4, st.map encW), so⟩ ∧ StdOk W (names.take i) i st, ?_, ?_, ?_⟩
  · exact ⟨[], none, none, none, none, none, none, rfl, ⟨⟨by decide, fun _ h => nomatch h⟩, List.Sublist.slnil.trans (List.nil_sublist _), Nat.zero_le _, fun _ h => nomatch h⟩⟩
  · rintro i d ρ hi ⟨st, o5, o6, o7, o8, o9, o10, rfl, S⟩
    have hi' : i < cells.length := by
      have := (List.getElem?_eq_some_iff.mp hi).1
      rw [rangeD_len, List.length_map] at this
      omega
    rw [rangeD_get (by rw [List.length_map]; omega)] at hi
    cases hi
    refine iL_at (j := i) (by omega) hi' fun c _ => ⟨(c, 5), rfl, (show 5 ≤ 1000 by decide), ?_⟩
    rintro _ ⟨xs, rfl, hx, _⟩
    refine tix (j := 0) rfl rfl (iL_at (j := 0) rfl (by omega) fun x0 _ => ⟨by decide, ns_at hw (mod_lt (by decide)).1 (mod_lt (i := x0) (j := 3) (by decide)).2 fun o ho => ?_⟩)
    obtain ⟨g, e1, e2⟩ := hw.tab ho
    have so1 := S.ok
    have few := so1.few
    have len := S.len
    refine ⟨⟨_, rfl⟩, ⟨by rw [List.length_map]; omega, lc_st (fun r => decide (r.tab = o)) encW (fun r hr K hK => ?_) (fun r hr _ K hK => hK) ?_⟩⟩
    · exact tix (j := 0) rfl rfl (eq_s hK)
    refine ⟨fun _ => ?_, fun _ => ?_⟩
    · refine tix (j := 2) rfl rfl (dix (hs_find e1).1 ⟨by rw [strsD_len]; have := e2.2.1; omega, ?_⟩)
      have hp : (0 : Int) < ((W.pool.map D.a).length : Int) := by
        rw [List.length_map]
        have := List.length_pos_iff.mpr hw.pN
        omega
      have hp2 : (W.pool.map D.a).length = W.pool.length := List.length_map _
      refine ⟨by rw [rangeD_len, strsD_len]; have := e2.2.1; omega, lc_rng (fun j => .a (W.pool.getD (xs.getD (1 + j) 0 % (W.pool.length : Int)).toNat V.non)) ?_ ?_⟩
      · intro j hj R acc hR
        rw [strsD_len] at hj
        have g3 := e2.2.1
        have hj5 : 1 + j < xs.length := by omega
        have ex : xs[1 + j]? = some (xs.getD (1 + j) 0) := getD_at hj5
        have m := mod_lt (i := xs.getD (1 + j) 0) hp
        rw [hp2] at m
        have hq : (xs.getD (1 + j) 0 % (W.pool.length : Int)).toNat < W.pool.length := by omega
        refine tix (j := 3) rfl rfl (add_i (lix (j := 1 + j) (d := .a (.int (xs.getD (1 + j) 0))) (by omega) (by rw [List.getElem?_map, ex]; rfl) (tix (j := 3) rfl rfl ⟨hp, ?_⟩)))
        rw [hp2]
        refine lix (j := (xs.getD (1 + j) 0 % (W.pool.length : Int)).toNat) (by omega) (d := .a (W.pool.getD (xs.getD (1 + j) 0 % (W.pool.length : Int)).toNat V.non)) ?_ hR
        rw [List.getElem?_map, getD_at (d := V.non) hq]
        rfl
      · have en : ∃ z, names[i]? = some z := ⟨_, List.getElem?_eq_getElem (by omega)⟩
        obtain ⟨z, ez⟩ := en
        have ez' : (strsD names)[i]? = some (sD z) := by
          unfold strsD
          rw [List.getElem?_map, ez]
          rfl
        refine ⟨_, rfl, lix (j := i) (by omega) ez' ⟨by rw [List.length_map]; omega, ?_⟩⟩
        let row := (List.range g.length).map fun j => W.pool.getD (xs.getD (1 + j) 0 % (W.pool.length : Int)).toNat V.non
        refine ⟨st ++ [⟨o, z, row⟩], some (.a (.int (0 + (i : Int)))), some (iL xs), some (sD o), o8, some (D.tup ((List.range (((strsD g).length : Nat) : Int).toNat).map fun j => D.a (W.pool.getD (xs.getD (1 + j) 0 % (W.pool.length : Int)).toNat V.non))), o10, ?_, ⟨⟨?_, ?_⟩, ?_, ?_, ?_⟩⟩
        · rw [List.map_append]
          have er : (D.tup ((List.range (((strsD g).length : Nat) : Int).toNat).map fun j => D.a (W.pool.getD (xs.getD (1 + j) 0 % (W.pool.length : Int)).toNat V.non))) = tV row := by
            rw [strsD_len, show ((g.length : Nat) : Int).toNat = g.length from rfl]
            show _ = D.tup (List.map D.a (List.map _ _))
            rw [List.map_map]
            rfl
          show (⟨_, some (4, st.map encW ++ [D.tup [sD o, sD z, D.tup ((List.range (((strsD g).length : Nat) : Int).toNat).map fun j => D.a (W.pool.getD (xs.getD (1 + j) 0 % (W.pool.length : Int)).toNat V.non))]]), _⟩ : DSt) = _
          rw [er]
          rfl
        · rw [List.length_append, List.length_singleton]; omega
        · intro r hr
          rcases List.mem_append.mp hr with q | q
          · exact so1.row r q
          · rw [List.mem_singleton.mp q]
            refine ⟨g, e1, by simp [row], fun v hv => ?_, hw.nS o (List.mem_of_mem_take ho), hs z (List.mem_of_getElem? ez)⟩
            obtain ⟨j, _, rfl⟩ := List.mem_map.mp hv
            have m := mod_lt (i := xs.getD (1 + j) 0) hp
            rw [hp2] at m
            have hq : (xs.getD (1 + j) 0 % (W.pool.length : Int)).toNat < W.pool.length := by omega
            refine hw.pO _ ?_
            exact List.mem_of_getElem? (getD_at hq)
        · rw [List.map_append, List.take_add_one, ez]
          exact S.sub.append (List.Sublist.refl _)
        · rw [List.length_append, List.length_singleton]; omega
        · intro r hr
          rcases List.mem_append.mp hr with q | q
          · exact S.tab r q
          · rw [List.mem_singleton.mp q]; exact ho
    · exact ⟨st, _, _, _, _, _, _, rfl, ⟨so1, S.sub.trans (by rw [List.take_add_one]; exact List.sublist_append_left _ _), by omega, S.tab⟩⟩
  · rintro ρ ⟨st, o5, o6, o7, o8, o9, o10, rfl, S⟩
    rw [rangeD_len, List.length_map] at S
    have S : StdOk W (names.take cells.length) cells.length st := S
    refine ⟨⟨_, rfl⟩, ?_⟩
    exact hk _ ⟨st, rfl, ⟨S.ok, S.sub.trans (List.take_sublist _ _), S.len, S.tab⟩⟩
end
end Wh

namespace Wh
open PySem L2
/-! ### a def that gives a store of its own -/
abbrev RunS := List D → (Sto → Prop) → Prop
def spS (K : PySem.W.Frag) (C : Addr) (f : RunS) : Sp := fun vs H Q _ => ∃ F ds, Same F H ∧ IsL K F ds vs ∧ f ds fun s => ∀ F' H', Ext F H F' H' → StoAt K C H F' H' s → Q (.ref s.p) H'
structure CalleeS (P : Program) (w : World) (K : PySem.W.Frag) (mg : Str → Option Value) (base : Heap) (C : Addr) (lvl : Nat) (x : Str) (ps : List Str) (f : RunS) : Prop where
  ex : ∃ (fa : Addr) (fd : FuncData), FnOk P w K mg base CX0 lvl fa fd ps (spS K C f) ∧ mg x = some (.ref fa) ∧ PySem.W.keepIn K (.ref fa) = true ∧ Binds K fd ps []
  mn : ∀ ds (k k' : Sto → Prop), (∀ s, k s → k' s) → f ds k → f ds k'
section
variable {P : Program} {w : World} {K : PySem.W.Frag} {mg : Str → Option Value} {base : Heap} {C : Addr} {x : Str} {ps N : List Str} {st : Stmt} {lvl : Nat} {f : RunS}
theorem def_okS (Df : DefAt K mg x st) (S : FnScope N ps (defScope st))
    (hb : ∀ (kV doc pm : Value) (an : Option Addr) (cdv ct : Value) (us : List Value), us.length = ps.length → bindArgs (PySem.W.fnOf x x (defArgs st) (defBody st) (defScope st) .none kV doc pm an cdv ct) ⟨us, []⟩ = pure (ps.zip us))
    (len : ∀ ds k, f ds k → ds.length = ps.length) (mn : ∀ ds (k k' : Sto → Prop), (∀ s, k s → k' s) → f ds k → f ds k')
    (body : ∀ (fa : Addr) (cdv : Value) (A : Around) (outer : List PySem.Env) (s : Shared) (H : Hp) (E : XK), Room lvl (A.deeper (PyProof.Rows.envOfC x (defScope st) s.heap.objs.size fa cdv)) →
      ∃ t v, DSs (cxOf CX0 P w K mg base N x (defScope st) fa cdv A outer s H E).nox C (defBody st) t v ∧ ∀ ds k, f ds k → v (dstart N none ds) { nx := fun _ => False, rt := fun _ => False, rs := fun ρ d => ∃ s, ρ.sto = some s ∧ d = .a (.ref s.p) ∧ k s }) :
    CalleeS P w K mg base C (lvl + 1) x ps f := by
  obtain ⟨fa, fd, F, hm⟩ := Df.ex
  refine ⟨⟨fa, fd, F.ok S (fun vs H Q E h => ?_) (fun cdv A outer s H vs Q E hr h => ?_), hm, F.kp, F.binds hb⟩, mn⟩
  · obtain ⟨G, ds, _, i, h⟩ := h
    rw [← i.len]
    exact len _ _ h
  · obtain ⟨t, v, hd, hv⟩ := body fa cdv A outer s H E hr
    refine ⟨t, hd.ps, ?_⟩
    obtain ⟨G, ds, sm, i, h⟩ := h
    refine hd.dv G H G H _ _ _ _ (env_start (so := none) sm trivial i) (hv ds _ h) ⟨fun _ _ _ _ _ z => z.elim, fun _ _ _ _ _ _ z => z.elim, fun _ _ _ _ _ z => z.elim, fun _ _ _ _ _ z => z.elim, fun G' H' σ ρ d u en iv z => ?_⟩
    obtain ⟨s, e1, e2, hk⟩ := z
    subst e2
    cases iv
    have q := en.sto
    rw [e1] at q
    exact hk G' H' en.ext q
end
section
variable {X : Cx} {C : Addr} {e : Expr} {es : List Expr} {t : TA} {wa : DTA} {lvl : Nat} {g : Str} {ps : List Str} {f : RunS}
def dStoSet (i : Nat) (f : RunS) (wa : DTA) : DTS := fun ρ k => ρ.sto = none ∧ wa ρ fun ds => f ds fun s => k.nx ⟨ρ.sl.set i (some (.a (.ref s.p))), dropOwn ρ.own i, some s⟩
theorem ds_callS (c : CalleeS X.prog X.w X.K X.mg X.base C lvl g ps f) (hr : Room lvl X.A) (ha : DAn X C (e :: es) t wa) (hN : X.N.Nodup) {i : Nat} {x : Str} {p pos pos' cpos : Pos} (hg : Gl X g := by rfl) (hdb : (g == ("__debug__" : Str)) = false := by decide)
    (he : starEach (e :: es) X.env = (false, eval e X.env) :: starEach es X.env := by rfl) (hpl : (backTo cpos (starEach es X.env)).any (·.1) = false := by rfl)
    (hi : X.N[i]? = some x := by rfl) (hx : Loc X.env.scope x := by first | exact Or.inl rfl | exact Or.inr rfl) (hs : swapsWith (.Call (.Name g p) (e :: es) [] cpos) (some (.Name x pos')) pos.line X.env = pure false := by rfl) (hf : X.fn x = true ∨ X.env.scope.names.lookup x = some .local := by first | exact .inl rfl | exact .inr rfl | assumption) :
    DS X C (.Assign [.Name x pos'] (.Call (.Name g p) (e :: es) [] cpos) pos) (tAsg (tCall (spS X.K C f) [] E0 t) (gName i)) (dStoSet i f wa) := by
  obtain ⟨fa, fd, F, hm, hk, hb⟩ := c.ex
  refine ⟨ps_set hN hi hx (pe_call F hr hg hm hk hb .nil pass0 ha.pa hdb he hpl) hs hf, fun F0 H0 F H σ ρ k E en ⟨h0, h⟩ ok => ?_⟩
  refine ha.dv _ _ _ _ _ _ _ _ en h fun ds vs F1 H1 x1 l1 i1 h1 => ?_
  show spS X.K C f (vs ++ []) H1 _ E0
  rw [List.append_nil]
  refine ⟨F1, ds, x1.s, i1, ?_⟩
  refine c.mn _ _ _ (fun s hk F' H' x2 sa => ?_) h1
  have en1 := en.grow x1
  have e2 := env_put (en1.grow x2) i (d := .a (.ref s.p)) (v := .ref s.p) rfl
  refine ok.nx F' H' _ ⟨ρ.sl.set i (some (.a (.ref s.p))), dropOwn ρ.own i, some s⟩ ⟨e2.ext, e2.len, e2.ok, e2.own, ?_⟩ hk
  obtain ⟨dx, am, as, xs, ys, q1, q2, q3, ne, g1, g2, f1, f2, f3, j1, j2, m⟩ := sa
  refine ⟨dx, am, as, xs, ys, q1, q2, q3, ne, g1, g2, f1, f2, f3, j1, j2, fun z => ?_⟩
  obtain ⟨m1, m2, m3⟩ := m z
  exact ⟨en1.ext.h.free m1, en1.ext.h.free m2, en1.ext.h.free m3⟩
end
section
variable {P : Program} {w : World} {K : PySem.W.Frag} {mg : Str → Option Value} {base : Heap} {C : Addr}
/-! ### _law_store -/
theorem lookup_nodup : ∀ {hs : Hs} {n : Str} {g : List Str}, (hs.map (·.1)).Nodup → (n, g) ∈ hs → hs.lookup n = some g
  | (m, h) :: r, n, g, nd, hm => by
    obtain ⟨n1, n2⟩ := List.nodup_cons.mp nd
    rw [List.lookup_cons]
    rcases List.mem_cons.mp hm with z | z
    · cases z
      simp
    · have ne : n ≠ m := fun e => n1 (e ▸ List.mem_map.mpr ⟨_, z, rfl⟩)
      have c' : (n == m) = false := by simpa using ne
      rw [c']
      exact lookup_nodup n2 z
def runStore : RunS := fun ds k => ∃ (W : Wd) (st : List Rw), ds = [encWd W, stD st] ∧ (WOk W ∧ StOk W.hs st ∧ (st.map (·.name)).Nodup) ∧ ∀ p, k (stoOf W.hs st true p)
abbrev s_l_store : Stmt := top 58
theorem sc_l_store : FnScope ["_law_world_here", "_law_stand_here", "_law_store_here", "_law_k", "_law_one"] ["_law_world_here", "_law_stand_here"] (defScope s_l_store) := ⟨rfl, rfl, rfl, by decide +kernel, rfl, by decide +kernel, by decide +kernel⟩
theorem c_l_store (T : Txt mg) (S : StTxt K mg C) (Df : DefAt K mg "_law_store" s_l_store) : CalleeS P w K mg base C 3 "_law_store" ["_law_world_here", "_law_stand_here"] runStore := by
  refine def_okS Df sc_l_store (fun _ _ _ _ _ _ us hl => match us, hl with | [_, _], _ => rfl) (fun _ _ ⟨_, _, e, _⟩ => by rw [e]; rfl) (fun _ _ _ h ⟨W, st, e, p, q⟩ => ⟨W, st, e, p, fun a => h _ (q a)⟩) fun fa cdv A outer s H E hr => ⟨_, _,
    (dss_cons (ds_newSto (i := 2) (f := 0) S (hr.mono (by omega)) sc_l_store.nd)
    (dss_cons (ds_for PassesOwn.never rfl (di_range1 T.m_range (da_cons de_int da_nil)) (pg_name (i := 3) sc_l_store.nd rfl (Or.inl rfl)) (dss_one (ds_make S T (hr.mono (by omega)) (de_var 2) (da_cons (de_ixJ (hu_of hr) (de_ixJ (hu_of hr) (de_var 0) de_int) (de_var 3)) (da_cons (de_ixJ (hu_of hr) (de_ixJ (hu_of hr) (de_var 0) de_int) (de_ixJ (hu_of hr) (de_ixJ (hu_of hr) (de_var 0) de_int) (de_var 3))) da_nil)))))
    (dss_cons (ds_for PassesOwn.never rfl (di_seq (de_var 1)) (pg_name (i := 4) sc_l_store.nd rfl (Or.inl rfl)) (dss_one (ds_putS S T (hr.mono (by omega)) (de_var 2) (da_cons (de_ixJ (hu_of hr) (de_var 4) de_int) (da_cons (de_ixJ (hu_of hr) (de_var 4) de_int) (da_cons (de_ixJ (hu_of hr) (de_var 4) de_int) da_nil))))))
    (dss_one (ds_retS (de_var 2)))))), ?_⟩
  rintro _ k ⟨W, st, rfl, ⟨hw, hs, nd⟩, hk⟩
  refine seq_split (fun ρ' => ∃ p, ρ' = ⟨[some (encWd W), some (stD st), some (.a (.ref p)), none, none], none, some ⟨p, [], [], [], [], true⟩⟩) ?r0 ?f0
  case f0 => exact fun NX h => ⟨rfl, fun p => h _ ⟨p, rfl⟩⟩
  rintro _ ⟨p, rfl⟩
  refine seq_split (fun ρ' => ∃ o3, ρ' = ⟨[some (encWd W), some (stD st), some (.a (.ref p)), o3, none], none, some (stoOf W.hs [] true p)⟩) ?r1 ?f1
  case f1 =>
    intro NX h
    have l3 : W.hs.length = 3 := by
      have z := congrArg List.length hw.hs
      rw [List.length_map, List.length_take, hw.n5] at z
      exact z
    have nd3 : (W.hs.map (·.1)).Nodup := by
      rw [hw.hs]
      exact hw.nN.sublist (List.take_sublist _ _)
    refine ⟨by decide, fun i ρ' => ∃ o3, ρ' = ⟨[some (encWd W), some (stD st), some (.a (.ref p)), o3, none], none, some (stoOf (W.hs.take i) [] true p)⟩, ⟨none, rfl⟩, ?_, ?_⟩
    · rintro i d ρ' hi ⟨o3, rfl⟩
      have i3 : i < 3 := (List.getElem?_eq_some_iff.mp hi).1
      have hi : (rangeD 0 3)[i]? = some d := hi
      rw [rangeD_get i3] at hi
      cases hi
      obtain ⟨⟨t, g⟩, e1⟩ : ∃ q, W.hs[i]? = some q := ⟨_, List.getElem?_eq_getElem (by omega)⟩
      have e2 : (W.ns.take 3)[i]? = some t := by rw [← hw.hs, List.getElem?_map, e1]; rfl
      have e3 : W.ns[i]? = some t := by
        rw [List.getElem?_take, if_pos i3] at e2
        exact e2
      have e4 : (strsD W.ns)[i]? = some (sD t) := by
        unfold strsD
        rw [List.getElem?_map, e3]
        rfl
      obtain ⟨g', k1, k2⟩ := hw.tab (List.mem_of_getElem? e2)
      have gg : g' = g := by
        have := lookup_nodup nd3 (List.mem_of_getElem? e1)
        rw [this] at k1
        cases k1
        rfl
      subst gg
      have tk : W.hs.take (i + 1) = W.hs.take i ++ [(t, g')] := by rw [List.take_add_one, e1]; rfl
      have ndt : ((W.hs.take (i + 1)).map (·.1)).Nodup := nd3.sublist ((List.take_sublist _ _).map _)
      rw [tk, List.map_append] at ndt
      refine ⟨_, rfl, rfl, rfl, tix (j := 0) rfl rfl (lix (j := i) (by omega) e4 (tix (j := 2) rfl rfl (tix (j := 0) rfl rfl (lix (j := i) (by omega) e4 (dix (hs_find k1).1 ⟨t, g', rfl, k2.1, by have := k2.2.1; omega, ?_, ?_, ?_⟩)))))⟩
      · exact fun z => (List.nodup_append.mp ndt).2.2 t z t (List.mem_singleton.mpr rfl) rfl
      · show ((W.hs.take i).map (·.1)).length ≤ 1000
        rw [List.length_map, List.length_take]
        omega
      · refine ⟨some (.a (.int (0 + (i : Int)))), ?_⟩
        have e : stoOf (W.hs.take (i + 1)) [] true p = { stoOf (W.hs.take i) [] true p with ts := (W.hs.take i).map (·.1) ++ [t], hs := ((W.hs.take i).map fun h => tS h.2) ++ [tS g'] } := by
          unfold stoOf
          rw [tk, List.map_append, List.map_append]
          rfl
        rw [e]
        rfl
    · rintro ρ' ⟨o3, rfl⟩
      have e : W.hs.take (rangeD 0 (Int.toNat 3)).length = W.hs := by
        rw [rangeD_len]
        exact List.take_of_length_le (by rw [l3]; decide)
      rw [e]
      exact h _ ⟨o3, rfl⟩
  rintro _ ⟨o3, rfl⟩
  refine seq_split (fun ρ' => ∃ o4, ρ' = ⟨[some (encWd W), some (stD st), some (.a (.ref p)), o3, o4], none, some (stoOf W.hs st true p)⟩) ?r2 ?f2
  case f2 =>
    intro NX h
    refine ⟨fun i ρ' => ∃ o4, ρ' = ⟨[some (encWd W), some (stD st), some (.a (.ref p)), o3, o4], none, some (stoOf W.hs (st.take i) true p)⟩, ⟨none, rfl⟩, ?_, ?_⟩
    · rintro i d ρ' hi ⟨o4, rfl⟩
      rw [List.getElem?_map] at hi
      cases hr' : st[i]? with
      | none => rw [hr'] at hi; cases hi
      | some r =>
        rw [hr'] at hi
        cases hi
        obtain ⟨g, k1, k2, _, _, _⟩ := hs.row r (List.mem_of_getElem? hr')
        have tk : st.take (i + 1) = st.take i ++ [r] := by rw [List.take_add_one, hr']; rfl
        have ndt : ((st.take (i + 1)).map (·.name)).Nodup := nd.sublist ((List.take_sublist _ _).map _)
        rw [tk, List.map_append] at ndt
        refine ⟨_, rfl, rfl, rfl, tix (j := 0) rfl rfl (tix (j := 1) rfl rfl (tix (j := 2) rfl rfl ⟨r.tab, r.name, g, r.row, rfl, (hs_find k1).1, k2, ?_, ?_, ?_⟩))⟩
        · exact fun z => (List.nodup_append.mp ndt).2.2 r.name z r.name (List.mem_singleton.mpr rfl) rfl
        · show ((st.take i).map (·.name)).length ≤ 1000
          rw [List.length_map, List.length_take]
          have := hs.few
          omega
        · refine ⟨some (encW r), ?_⟩
          have e : stoOf W.hs (st.take (i + 1)) true p = { stoOf W.hs (st.take i) true p with ns := (st.take i).map (·.name) ++ [r.name], rs := (st.take i).map rwD ++ [.tup [sD r.tab, tV r.row]] } := by
            unfold stoOf
            rw [tk, List.map_append, List.map_append]
            rfl
          rw [e]
          rfl
    · rintro ρ' ⟨o4, rfl⟩
      rw [List.length_map, List.take_length]
      exact h _ ⟨o4, rfl⟩
  rintro _ ⟨o4, rfl⟩
  exact ⟨_, rfl, rfl, hk p⟩
end
end Wh

namespace Wh
open PySem L2
/-! ### what is sorted stands but once -/
theorem rise_pw : ∀ (l : List Str) (p : Str), PyProof.Rows.risingS p l = true → (p :: l).Pairwise fun a b => a.cps.toList ≤ b.cps.toList
  | [], p, _ => List.pairwise_singleton _ p
  | x :: r, p, h => by
    obtain ⟨h1, h2⟩ := Bool.and_eq_true_iff.mp (show (_ && PyProof.Rows.risingS x r) = true from h)
    have i := rise_pw r x h2
    have px : p.cps.toList ≤ x.cps.toList := by
      rw [PyProof.Rows.ltCps_eq] at h1
      intro z
      rw [decide_eq_true z] at h1
      cases h1
    refine List.pairwise_cons.mpr ⟨fun b hb => ?_, i⟩
    rcases List.mem_cons.mp hb with z | z
    · rw [z]; exact px
    · exact List.le_trans px ((List.pairwise_cons.mp i).1 b z)
theorem sorted_pw {l : List Str} (h : PyProof.Rows.sortedS l = true) : l.Pairwise fun a b => a.cps.toList ≤ b.cps.toList := by
  cases l with
  | nil => exact List.Pairwise.nil
  | cons x r => exact rise_pw r x h
theorem sorted_once {xs ys : List Str} (p : xs.Perm ys) (hx : PyProof.Rows.sortedS xs = true) (hy : PyProof.Rows.sortedS ys = true) : xs = ys := by
  refine List.Perm.eq_of_pairwise (fun a b _ _ h1 h2 => ?_) (sorted_pw hx) (sorted_pw hy) p
  have e := List.le_antisymm h1 h2
  cases a with
  | mk a => cases b with
    | mk b => exact congrArg Str.mk (Array.toList_inj.mp e)
section
variable {P : Program} {w : World} {K : PySem.W.Frag} {mg : Str → Option Value} {base : Heap} {C : Addr}
/-! ### _law_right -/
theorem eq_txts {neg : Bool} {xs ys : List Str} {k : D → Prop} (hx : ∀ c ∈ xs, sOk c = true) (hy : ∀ c ∈ ys, sOk c = true) (hk : k (.a (.bl (if neg then !decide (xs = ys) else decide (xs = ys))))) : jEq neg (tS xs) (tS ys) k := by
  have e : ∀ zs : List Str, tS zs = tV (zs.map V.str) := fun zs => by
    show D.tup (zs.map sD) = D.tup ((zs.map V.str).map D.a)
    rw [List.map_map]
    rfl
  have o : ∀ zs : List Str, (∀ c ∈ zs, sOk c = true) → ∀ v ∈ zs.map V.str, okV v = true := fun zs h v hv => by
    obtain ⟨c, hc, rfl⟩ := List.mem_map.mp hv
    exact h c hc
  rw [e, e]
  refine eq_rows (o xs hx) (o ys hy) ?_
  have q : decide (xs.map V.str = ys.map V.str) = decide (xs = ys) := by
    by_cases c : xs = ys
    · subst c; simp
    · rw [decide_eq_false c, decide_eq_false fun z => c ((List.map_inj_right fun a b h => by injection h).mp z)]
  rw [q]
  exact hk
theorem lvs_sok : ∀ t : Tr, t.sok = true → ∀ z ∈ lvs t, sOk z = true
  | .row n, h, z, hz => by rw [List.mem_singleton.mp hz]; exact h
  | .un _ t, h, z, hz => lvs_sok t h z hz
  | .join a b, h, z, hz => by
    obtain ⟨ha, hb⟩ := Bool.and_eq_true_iff.mp (show (a.sok && b.sok) = true from h)
    rcases List.mem_append.mp hz with q | q
    · exact lvs_sok a ha z q
    · exact lvs_sok b hb z q
def TrsOk (ts : List Tr) : Prop := ∀ t ∈ ts, t.dep ≤ 60 ∧ (lvs t).length ≤ 60 ∧ t.sok = true
def fsRight : FS := fsS (ι := List Tr × Qn × Wd × List Rw) (fun ⟨_, _, W, st⟩ => (W.hs, st)) (fun ⟨ts, q, W, st⟩ p => [.lst (ts.map encR), encQ q, encQ (unr q), .a (.ref p), encWd W, stD st])
  (fun ⟨ts, q, W, st⟩ => TrsOk ts ∧ q.dep ≤ 40 ∧ RgOk q ∧ (unr q).dep ≤ 40 ∧ Ok W.hs (unr q) ∧ StOk W.hs st ∧ (st.map (·.name)).Nodup) (fun _ d => d = .a (.bl true))
abbrev s_l_right : Stmt := top 67
theorem sc_l_right : FnScope ["_law_some", "_law_question_here", "_law_plain", "_law_store_here", "_law_world_here", "_law_stand_here", "_law_tree", "_law_due", "_law_found", "_law_one", "_law_product"] ["_law_some", "_law_question_here", "_law_plain", "_law_store_here", "_law_world_here", "_law_stand_here"] (defScope s_l_right) := ⟨rfl, rfl, rfl, by decide +kernel, rfl, by decide +kernel, by decide +kernel⟩
theorem c_l_right (T : Txt mg) (Df : DefAt K mg "_law_right" s_l_right) (c_l_brings : Callee P w K mg base C 129 "_law_brings" ["_law_tree", "_law_question_here", "_law_world_here", "_law_stand_here"] (fsBrg 40)) (c_brought : Callee P w K mg base C 123 "brought" ["tree", "question", "store"] (fsBrought 40))
    (c_tree_product : Callee P w K mg base C 62 "tree_product" ["tree"] (fsProd 60)) (c_l_leaves : Callee P w K mg base C 61 "_law_leaves" ["_law_tree"] (fsLvs 60)) :
    Callee P w K mg base C 130 "_law_right" ["_law_some", "_law_question_here", "_law_plain", "_law_store_here", "_law_world_here", "_law_stand_here"] fsRight := by
  refine def_ok Df sc_l_right (fun _ _ _ _ _ _ us hl => match us, hl with | [_, _, _, _, _, _], _ => rfl) (fsS_len fun _ _ => rfl) fun fa cdv A outer s H E hr => ⟨_, _,
    (dss_cons (ds_for PassesOwn.never rfl (di_seq (de_var 0)) (pg_name (i := 6) sc_l_right.nd rfl (Or.inl rfl)) (dss_cons (ds_set (i := 7) (de_call c_l_brings (hr.mono (by decide)) (da_cons (de_var 6) (da_cons (de_var 2) (da_cons (de_var 4) (da_cons (de_var 5) da_nil))))) sc_l_right.nd)
    (dss_cons (ds_set (i := 8) (de_call c_brought (hr.mono (by decide)) (da_cons (de_var 6) (da_cons (de_var 1) (da_cons (de_var 3) da_nil)))) sc_l_right.nd)
    (dss_cons (ds_if ((dw_and (dp_cmp o_isN (de_var 7) de_non) (dw_and1 (dp_cmp o_notN (de_var 8) de_non))).dp) (dss_one (ds_ret de_bl)) dss_nil)
    (dss_cons (ds_if ((dw_and (dp_cmp o_notN (de_var 7) de_non) (dw_and1 ((dw_or (dp_not (dp_val (de_callB c_isi T.m_isinstance boot_isinstance (da_cons (de_var 8) (da_cons (de_ty T.m_tuple boot_tuple) da_nil))))) (dw_or1 (dp_cmp (p_ne hr.units) (de_var 8) (de_ixJ (hu_of hr) (de_var 7) de_int)))).dp))).dp) (dss_one (ds_ret de_bl)) dss_nil)
    (dss_cons (ds_if ((dw_and (dp_cmp o_notN (de_var 7) de_non) (dw_and1 (dp_cmp (p_ne hr.units) (de_lcX (own := [("_law_one", 9)]) (j := 9) rfl sc_l_right.nd (di_seq (de_var 8)) (blkOk_by (own := [("_law_one", 9)]) (N := ["_law_some", "_law_question_here", "_law_plain", "_law_store_here", "_law_world_here", "_law_stand_here", "_law_tree", "_law_due", "_law_found", "_law_one", "_law_product"]) (sc := defScope s_l_right) (by decide +kernel)) (by decide) (fun _ _ _ _ _ => pg_name (i := 9) sc_l_right.nd rfl (Or.inl rfl)) (fun _ _ _ _ _ => ⟨_, (dts_one (dp_val (de_callB c_isi T.m_isinstance boot_isinstance (da_cons (de_var 9) (da_cons (de_ty T.m_bool boot_bool) da_nil)))))⟩) (fun _ _ _ _ _ => ⟨_, (de_var 9)⟩)) (de_lst da_nil)))).dp) (dss_one (ds_ret de_bl)) dss_nil)
    (dss_cons (ds_set (i := 10) (de_call c_tree_product (hr.mono (by decide)) (da_cons (de_var 6) da_nil)) sc_l_right.nd)
    (dss_one (ds_if ((dw_or (dp_not (dp_val (de_callB c_isi T.m_isinstance boot_isinstance (da_cons (de_var 10) (da_cons (de_ty T.m_tuple boot_tuple) da_nil))))) (dw_or1 (dp_cmp (p_ne hr.units) (de_var 10) (de_callT c_tuple T.m_tuple boot_tuple (da_cons (de_callB c_sorted T.m_sorted boot_sorted (da_cons (de_call c_l_leaves (hr.mono (by decide)) (da_cons (de_var 6) da_nil)) da_nil)) da_nil))))).dp) (dss_one (ds_ret de_bl)) dss_nil)))))))))
    (dss_one (ds_ret de_bl))), ?_⟩
  rintro so ds k ⟨⟨ts, q, W, st⟩, p, rfl, rfl, ⟨tok, qd, rg, ud, ok, sok, nd⟩, hk⟩
  refine seq_split (fun ρ' => True) ?r0 ?f0
  case r0 => exact fun _ _ => hk _ rfl
  intro NX h
  refine ⟨fun i ρ' => ∃ o6 o7 o8 o9 o10, ρ' = ⟨[some (.lst (ts.map encR)), some (encQ q), some (encQ (unr q)), some (.a (.ref p)), some (encWd W), some (stD st), o6, o7, o8, o9, o10], none, some (stoOf W.hs st false p)⟩, ⟨none, none, none, none, none, rfl⟩, ?_, fun ρ' _ => h _ trivial⟩
  rintro i d ρ' hi ⟨o6, o7, o8, o9, o10, rfl⟩
  obtain ⟨t, ht, rfl⟩ := List.mem_map.mp (List.mem_of_getElem? hi)
  obtain ⟨t1, t2, t3⟩ := tok t ht
  refine seq_split (fun ρ' => ρ' = ⟨[some (.lst (ts.map encR)), some (encQ q), some (encQ (unr q)), some (.a (.ref p)), some (encWd W), some (stD st), some (encR t), some (encO (brg W.hs st t (unr q))), o8, o9, o10], none, some (stoOf W.hs st false p)⟩) ?r1 ?f1
  case f1 =>
    intro NX h
    exact ⟨(t, unr q, W, st), rfl, ⟨ud, Nat.le_refl _, ok, sok, t3, t1⟩, fun d e => by rw [e]; exact h _ rfl⟩
  rintro _ rfl
  refine seq_split (fun ρ' => ρ' = ⟨[some (.lst (ts.map encR)), some (encQ q), some (encQ (unr q)), some (.a (.ref p)), some (encWd W), some (stD st), some (encR t), some (encO (brg W.hs st t (unr q))), some (encV (brg W.hs st t (unr q))), o9, o10], none, some (stoOf W.hs st false p)⟩) ?r2 ?f2
  case f2 =>
    intro NX h
    exact ⟨(t, q, W.hs, st), p, rfl, rfl, ⟨qd, rg, ud, Nat.le_refl _, ok, sok, nd⟩, fun d e => by rw [e]; exact h _ rfl⟩
  rintro _ rfl
  generalize hb : brg W.hs st t (unr q) = b
  refine seq_split (fun ρ' => ρ' = ⟨[some (.lst (ts.map encR)), some (encQ q), some (encQ (unr q)), some (.a (.ref p)), some (encWd W), some (stD st), some (encR t), some (encO b), some (encV b), o9, o10], none, some (stoOf W.hs st false p)⟩) ?r3 ?f3
  case f3 =>
    intro NX h
    cases b with
    | none => exact no rfl (h _ rfl)
    | some x => exact no rfl (h _ rfl)
  rintro _ rfl
  refine seq_split (fun ρ' => ρ' = ⟨[some (.lst (ts.map encR)), some (encQ q), some (encQ (unr q)), some (.a (.ref p)), some (encWd W), some (stD st), some (encR t), some (encO b), some (encV b), o9, o10], none, some (stoOf W.hs st false p)⟩) ?r4 ?f4
  case f4 =>
    intro NX h
    cases b with
    | none => exact no rfl (h _ rfl)
    | some x =>
      have i := brg_ok sok _ t x ok hb
      exact ⟨rfl, tix (j := 1) rfl rfl (eq_rows i.ok i.ok (no (by simp) (h _ rfl)))⟩
  rintro _ rfl
  refine seq_split (fun ρ' => ρ' = ⟨[some (.lst (ts.map encR)), some (encQ q), some (encQ (unr q)), some (.a (.ref p)), some (encWd W), some (stD st), some (encR t), some (encO b), some (encV b), o9, o10], none, some (stoOf W.hs st false p)⟩) ?r5 ?f5
  case f5 =>
    intro NX h
    cases b with
    | none => exact no rfl (h _ rfl)
    | some x =>
      have i := brg_ok sok _ t x ok hb
      have g2 := (ok_head ok).2
      rw [← i.hd] at g2
      refine ⟨by rw [List.length_map, i.len]; omega, lc_go (fun _ => none) (fun d hd R acc hR => ?_) ?_⟩
      · obtain ⟨v, hv, rfl⟩ := List.mem_map.mp hd
        have ov := i.ok v hv
        have hR : R acc := by
          rw [show acc = acc ++ (none : Option D).toList from (List.append_nil _).symm]
          exact hR
        cases v <;> first | exact absurd ov Bool.false_ne_true | exact ⟨rfl, hR⟩
      · have e : (x.2.map D.a).filterMap (fun _ => (none : Option D)) = [] := List.filterMap_eq_nil_iff.mpr fun _ _ => rfl
        rw [e]
        exact eq_nilL (n := 1) (Gd.l fun _ h => nomatch h) (by decide) (no rfl (h _ rfl))
  rintro _ rfl
  refine seq_split (fun ρ' => ∃ ys, ys.Perm (lvs t) ∧ PyProof.Rows.sortedS ys = true ∧ ρ' = ⟨[some (.lst (ts.map encR)), some (encQ q), some (encQ (unr q)), some (.a (.ref p)), some (encWd W), some (stD st), some (encR t), some (encO b), some (encV b), o9, some (tS ys)], none, some (stoOf W.hs st false p)⟩) ?r6 ?f6
  case f6 =>
    intro NX h
    refine ⟨t, rfl, ⟨t1, t2⟩, ?_⟩
    rintro d ⟨ys, rfl, y1, y2⟩
    exact h _ ⟨ys, y1, y2, rfl⟩
  rintro _ ⟨ys, y1, y2, rfl⟩
  refine ⟨rfl, ⟨t, rfl, ⟨t1, t2⟩, ?_⟩⟩
  rintro d rfl
  refine ⟨lvs t, rfl, by omega, fun zs pm so => ?_⟩
  have e := sorted_once (y1.trans pm.symm) y2 so
  subst e
  have sk : ∀ z ∈ ys, sOk z = true := fun z hz => lvs_sok t t3 z (y1.mem_iff.mp hz)
  exact eq_txts sk sk (no (by simp) ⟨_, _, _, _, _, rfl⟩)
end
end Wh

namespace Wh
open PySem L2
section
variable {P : Program} {w : World} {K : PySem.W.Frag} {mg : Str → Option Value} {base : Heap} {C : Addr}
/-! ### law -/
theorem def_okF {x : Str} {st : Stmt} {N ps : List Str} {lvl : Nat} {f : FS} {fa : Addr} {fd : FuncData} (F : Fun K x x st fa fd) (S : FnScope N ps (defScope st))
    (len : ∀ so ds k, f.run so ds k → ds.length = ps.length)
    (body : ∀ (fa : Addr) (cdv : Value) (A : Around) (outer : List PySem.Env) (s : Shared) (H : Hp) (E : XK), Room lvl (A.deeper (PyProof.Rows.envOfC x (defScope st) s.heap.objs.size fa cdv)) →
      ∃ t v, DSs (cxOf CX0 P w K mg base N x (defScope st) fa cdv A outer s H E).nox C (defBody st) t v ∧ ∀ so ds k, f.run so ds k → v (dstart N so ds) { nx := fun _ => k (.a .non), rt := k }) :
    FnOk P w K mg base CX0 (lvl + 1) fa fd ps (sp K C f) := by
  refine F.ok S (fun vs H Q E h => ?_) (fun cdv A outer s H vs Q E hr h => ?_)
  · obtain ⟨G, so, ds, _, _, i, h⟩ := h
    rw [← i.len]
    exact len _ _ _ h
  · obtain ⟨t, v, hd, hv⟩ := body fa cdv A outer s H E hr
    refine ⟨t, hd.ps, ?_⟩
    obtain ⟨G, so, ds, sm, hs, i, h⟩ := h
    exact hd.dv G H G H _ _ _ _ (env_start sm hs i) (hv so ds _ h) ⟨fun G' H' σ ρ en z => z .non G' H' en.ext rfl, fun G' H' d v x i z => z v G' H' x i, fun _ _ _ _ _ z => z.elim, fun _ _ _ _ _ z => z.elim, fun _ _ _ _ _ _ _ _ z => z.elim⟩
theorem cutm {α β : Type} (f : α → β) (xs : List α) (lo hi : Option Int) : cut (xs.map f) lo hi = (cut xs lo hi).map f := by
  unfold cut
  rw [List.length_map, List.map_take, List.map_drop]
theorem cut_len {α : Type} {xs : List α} (a b : Nat) : (cut xs (some (a : Int)) (some (b : Int))).length ≤ b - a := by
  unfold cut
  rw [List.length_take, HT.sIx_nat, HT.sIx_nat]
  omega
theorem rng4 {i : Nat} {d : D} (h : (rangeD 4 (10 - 4 : Int).toNat)[i]? = some d) : i < 6 ∧ d = .a (.int ((4 + i : Nat) : Int)) := by
  have hi := (List.getElem?_eq_some_iff.mp h).1
  have h6 : i < 6 := by
    have e : (rangeD 4 (10 - 4 : Int).toNat).length = 6 := rfl
    omega
  refine ⟨h6, ?_⟩
  have h : (rangeD 4 6)[i]? = some d := h
  rw [rangeD_get h6] at h
  cases h
  exact congrArg (fun z => D.a (.int z)) (Int.natCast_add 4 i).symm
theorem wo_split : ∀ {st : List Rw} {j : Nat} {r : Rw}, (st.map (·.name)).Nodup → st[j]? = some r → wo r.name st = st.take j ++ st.drop (j + 1)
  | [], _, _, _, h => by cases h
  | x :: rest, 0, r, nd, h => by
    cases h
    obtain ⟨n1, n2⟩ := List.nodup_cons.mp nd
    unfold wo
    rw [List.filter_cons, if_neg (by simp)]
    show _ = rest
    refine List.filter_eq_self.mpr fun y hy => ?_
    have ne : y.name ≠ x.name := fun e => n1 (List.mem_map.mpr ⟨y, hy, e⟩)
    simp [ne]
  | x :: rest, j + 1, r, nd, h => by
    obtain ⟨n1, n2⟩ := List.nodup_cons.mp nd
    have h : rest[j]? = some r := h
    have ne : x.name ≠ r.name := fun e => n1 (List.mem_map.mpr ⟨r, List.mem_of_getElem? h, e.symm⟩)
    have i := wo_split n2 h
    unfold wo at i ⊢
    rw [List.filter_cons, if_pos (by simp [ne]), i]
    rfl
theorem rep_one {v : V} : ∀ n : Nat, (List.replicate n [D.a v]).flatten = (List.replicate n v).map D.a
  | 0 => rfl
  | n + 1 => by
    rw [List.replicate_succ, List.replicate_succ, List.flatten_cons, List.map_cons, rep_one n]
    rfl
def fsLaw : FS := ⟨fun so ds k => so = none ∧ (∃ ns : List Int, ds = [iL ns]) ∧ k (.a (.bl true)), fun _ _ _ _ h ⟨a, b, c⟩ => ⟨a, b, h _ c⟩⟩
abbrev s_law : Stmt := top 68
theorem sc_law : FnScope ["_law_script", "_law_world_here", "_law_question_here", "_law_head", "_law_deep", "_law_k", "_law_plain", "_law_number", "_law_cells", "_law_titles", "_law_stand_here", "_law_store_here", "_law_some", "_law_cell", "_law_tree", "_law_at", "_law_left", "_law_table", "_law_row"] ["_law_script"] (defScope s_law) := ⟨rfl, rfl, rfl, by decide +kernel, rfl, by decide +kernel, by decide +kernel⟩
theorem c_law (T : Txt mg) (S : StTxt K mg C) {fl : Addr} {fd : FuncData} (Df : Fun K "law" "law" s_law fl fd) (c_l_world : Callee P w K mg base C 3 "_law_world" ["_law_script"] fsWorld) (c_l_cell_at : Callee P w K mg base C 1 "_law_cell_at" ["_law_script", "_law_k"] fsCell)
    (c_l_question : Callee P w K mg base C 5 "_law_question" ["_law_cells", "_law_world_here"] fsQn) (c_unrolled : Callee P w K mg base C 121 "unrolled" ["question"] (fsUnr 40)) (c_l_stream : Callee P w K mg base C 1 "_law_stream" ["_law_cell", "_law_many"] fsStream)
    (c_l_words : Callee P w K mg base C 2 "_law_words" ["_law_cell", "_law_many"] fsWords) (c_l_stand : Callee P w K mg base C 2 "_law_stand" ["_law_cells", "_law_world_here", "_law_names", "_law_most"] fsStand)
    (c_l_store : CalleeS P w K mg base C 3 "_law_store" ["_law_world_here", "_law_stand_here"] runStore) (c_l_climb : Callee P w K mg base C 41 "_law_climb" ["_law_question_here", "_law_number", "_law_stand_here"] (fsClimb 40))
    (c_l_spoiled : Callee P w K mg base C 41 "_law_spoiled" ["_law_tree", "_law_number", "_law_titles"] (fsSpoil 40)) (c_l_right : Callee P w K mg base C 130 "_law_right" ["_law_some", "_law_question_here", "_law_plain", "_law_store_here", "_law_world_here", "_law_stand_here"] fsRight) :
    FnOk P w K mg base CX0 131 fl fd ["_law_script"] (sp K C fsLaw) := by
  refine def_okF Df sc_law (fun _ _ _ ⟨_, ⟨_, e⟩, _⟩ => by rw [e]; rfl) fun fa cdv A outer s H E hr => ⟨_, _,
    (dss_cons (ds_set (i := 1) (de_call c_l_world (hr.mono (by decide)) (da_cons (de_var 0) da_nil)) sc_law.nd)
    (dss_cons (ds_unp (js := [2, 3, 4]) rfl (de_call c_l_question (hr.mono (by decide)) (da_cons (de_lcX (own := [("_law_k", 5)]) (j := 5) rfl sc_law.nd (di_range2 T.m_range (da_cons de_int (da_cons de_int da_nil))) (blkOk_by (own := [("_law_k", 5)]) (N := ["_law_script", "_law_world_here", "_law_question_here", "_law_head", "_law_deep", "_law_k", "_law_plain", "_law_number", "_law_cells", "_law_titles", "_law_stand_here", "_law_store_here", "_law_some", "_law_cell", "_law_tree", "_law_at", "_law_left", "_law_table", "_law_row"]) (sc := defScope s_law) (by decide +kernel)) (by decide) (fun _ _ _ _ _ => pg_name (i := 5) sc_law.nd rfl (Or.inl rfl)) (fun _ _ _ _ _ => ⟨_, dts_nil⟩) (fun _ _ _ _ _ => ⟨_, (de_call c_l_cell_at (hr.mono (by decide)) (da_cons (de_var 0) (da_cons (de_var 5) da_nil)))⟩)) (da_cons (de_var 1) da_nil))) (pgs_cons (pg_name (i := 2) sc_law.nd rfl (Or.inl rfl)) (pgs_cons (pg_name (i := 3) sc_law.nd rfl (Or.inl rfl)) (pgs_cons (pg_name (i := 4) sc_law.nd rfl (Or.inl rfl)) pgs_nil))))
    (dss_cons (ds_set (i := 6) (de_call c_unrolled (hr.mono (by decide)) (da_cons (de_var 2) da_nil)) sc_law.nd)
    (dss_cons (ds_set (i := 7) (de_call c_l_cell_at (hr.mono (by decide)) (da_cons (de_var 0) (da_cons de_int da_nil))) sc_law.nd)
    (dss_cons (ds_set (i := 8) (de_op p_add (de_call c_l_stream (hr.mono (by decide)) (da_cons (de_var 7) (da_cons (de_op o_mod (de_var 7) de_int) da_nil))) (de_sl (de_var 0) (dpo_some de_int) (dpo_some de_int))) sc_law.nd)
    (dss_cons (ds_set (i := 9) (de_call c_l_words (hr.mono (by decide)) (da_cons (de_call c_l_cell_at (hr.mono (by decide)) (da_cons (de_var 0) (da_cons de_int da_nil))) (da_cons (de_op p_add (de_callB c_len T.m_len boot_len (da_cons (de_var 8) da_nil)) de_int) da_nil))) sc_law.nd)
    (dss_cons (ds_set (i := 10) (de_call c_l_stand (hr.mono (by decide)) (da_cons (de_var 8) (da_cons (de_var 1) (da_cons (de_var 9) (da_cons (de_ixJ (hu_of hr) (de_lst (da_cons de_int (da_cons de_int (da_cons de_int (da_cons de_int da_nil))))) (de_var 4)) da_nil))))) sc_law.nd)
    (dss_cons (ds_callS c_l_store (hr.mono (by decide)) (da_cons (de_var 1) (da_cons (de_var 10) da_nil)) sc_law.nd (i := 11))
    (dss_cons (ds_ownNew (i := 12) sc_law.nd)
    (dss_cons (ds_for PassesOwn.never rfl (di_seq (de_op p_add (de_call c_l_stream (hr.mono (by decide)) (da_cons (de_op p_add (de_var 7) de_int) (da_cons de_int da_nil))) (de_sl (de_var 0) (dpo_some de_int) (dpo_some de_int)))) (pg_name (i := 13) sc_law.nd rfl (Or.inl rfl)) (dss_cons (ds_set (i := 14) (de_call c_l_climb (hr.mono (by decide)) (da_cons (de_var 6) (da_cons (de_op o_mod (de_var 13) de_int) (da_cons (de_var 10) da_nil)))) sc_law.nd)
    (dss_cons (ds_app (i := 12) (de_var 14))
    (dss_one (ds_app (i := 12) (de_call c_l_spoiled (hr.mono (by decide)) (da_cons (de_var 14) (da_cons (de_op o_mod (de_op o_fdiv (de_var 13) de_int) de_int) (da_cons (de_var 9) da_nil)))))))))
    (dss_frz (dss_cons (ds_if (dp_not (dp_val (de_call c_l_right (hr.mono (by decide)) (da_cons (de_var 12) (da_cons (de_var 2) (da_cons (de_var 6) (da_cons (de_var 11) (da_cons (de_var 1) (da_cons (de_var 10) da_nil))))))))) (dss_one (ds_ret de_bl)) dss_nil)
    (dss_cons (ds_if (dp_cmp (p_eq hr.units) (de_var 10) (de_lst da_nil)) (dss_one (ds_ret de_bl)) dss_nil)
    (dss_cons (ds_set (i := 15) (de_op o_mod (de_var 7) (de_callB c_len T.m_len boot_len (da_cons (de_var 10) da_nil))) sc_law.nd)
    (dss_cons (ds_strike S T (hr.mono (by omega)) (de_var 11) (de_ixJ (hu_of hr) (de_ixJ (hu_of hr) (de_var 10) (de_var 15)) de_int))
    (dss_cons (ds_set (i := 16) (de_op p_add (de_sl (de_var 10) dpo_no (dpo_some (de_var 15))) (de_sl (de_var 10) (dpo_some (de_op p_add (de_var 15) de_int)) dpo_no)) sc_law.nd)
    (dss_cons (ds_if (dp_not (dp_val (de_call c_l_right (hr.mono (by decide)) (da_cons (de_sl (de_var 12) dpo_no (dpo_some de_int)) (da_cons (de_var 2) (da_cons (de_var 6) (da_cons (de_var 11) (da_cons (de_var 1) (da_cons (de_var 16) da_nil))))))))) (dss_one (ds_ret de_bl)) dss_nil)
    (dss_cons (ds_set (i := 17) (de_ixJ (hu_of hr) (de_ixJ (hu_of hr) (de_var 1) de_int) (de_op o_mod (de_op o_fdiv (de_var 7) de_int) de_int)) sc_law.nd)
    (dss_cons (ds_set (i := 18) (de_op o_rep (de_tup (da_cons (de_ixJ (hu_of hr) (de_ixJ (hu_of hr) (de_var 1) de_int) de_int) da_nil)) (de_callB c_len T.m_len boot_len (da_cons (de_ixJ (hu_of hr) (de_ixJ (hu_of hr) (de_var 1) de_int) (de_var 17)) da_nil))) sc_law.nd)
    (dss_cons (ds_putS S T (hr.mono (by omega)) (de_var 11) (da_cons (de_var 17) (da_cons (de_ixJ (hu_of hr) (de_ixJ (hu_of hr) (de_var 10) (de_var 15)) de_int) (da_cons (de_var 18) da_nil))))
    (dss_one (ds_ret (de_call c_l_right (hr.mono (by decide)) (da_cons (de_sl (de_var 12) dpo_no (dpo_some de_int)) (da_cons (de_var 2) (da_cons (de_var 6) (da_cons (de_var 11) (da_cons (de_var 1) (da_cons (de_op p_add (de_var 16) (de_lst (da_cons (de_tup (da_cons (de_var 17) (da_cons (de_ixJ (hu_of hr) (de_ixJ (hu_of hr) (de_var 10) (de_var 15)) de_int) (da_cons (de_var 18) da_nil)))) da_nil))) da_nil))))))))))))))))))))))))))))), ?_⟩
  rintro _ ds k ⟨rfl, ⟨ns, rfl⟩, hk⟩
  refine seq_split (fun ρ' => ∃ W, WOk W ∧ ρ' = ⟨[some (iL ns), some (encWd W), none, none, none, none, none, none, none, none, none, none, none, none, none, none, none, none, none], none, none⟩) ?r0 ?f0
  case f0 =>
    intro NX h
    refine ⟨ns, rfl, trivial, ?_⟩
    rintro _ ⟨W, rfl, hw⟩
    exact h _ ⟨W, hw, rfl⟩
  rintro _ ⟨W, hw, rfl⟩
  refine seq_split (fun ρ' => ∃ q hd deep, StOf W 5 q hd deep ∧ ρ' = ⟨[some (iL ns), some (encWd W), some (encQ q), some (tS hd), some (.a (.int (deep : Int))), none, none, none, none, none, none, none, none, none, none, none, none, none, none], none, none⟩) ?r1 ?f1
  case f1 =>
    intro NX h
    refine ⟨⟨by decide, by decide⟩, by decide, fun i acc => ∃ l : List Int, acc = l.map (fun n => D.a (.int n)) ∧ l.length = i, ⟨[], rfl, rfl⟩, ?_, ?_⟩
    · rintro i d acc hi ⟨l, rfl, hl⟩
      obtain ⟨i6, rfl⟩ := rng4 hi
      refine ⟨(ns, 4 + i), rfl, trivial, ?_⟩
      rintro _ ⟨z, rfl⟩
      exact ⟨l ++ [z], by rw [List.map_append]; rfl, by simp [hl]⟩
    · rintro acc ⟨l, rfl, hl⟩
      have hl : l.length = 6 := hl
      refine ⟨(l, W), rfl, ⟨hl, hw⟩, ?_⟩
      rintro _ ⟨q, hd, deep, rfl, sq⟩
      exact ⟨rfl, h _ ⟨q, hd, deep, sq, rfl⟩⟩
  rintro _ ⟨q, hd, deep, sq, rfl⟩
  have qd := sq.qd
  have ud := sq.dp
  have d1 := sq.d1
  have d3 := sq.d3
  have dg := sq.dg
  refine seq_split (fun ρ' => ρ' = ⟨[some (iL ns), some (encWd W), some (encQ q), some (tS hd), some (.a (.int (deep : Int))), none, some (encQ (unr q)), none, none, none, none, none, none, none, none, none, none, none, none], none, none⟩) ?r2 ?f2
  case f2 => exact fun NX h => ⟨q, rfl, ⟨by omega, sq.rg⟩, fun d e => by rw [e]; exact h _ rfl⟩
  rintro _ rfl
  refine seq_split (fun ρ' => ∃ num : Int, ρ' = ⟨[some (iL ns), some (encWd W), some (encQ q), some (tS hd), some (.a (.int (deep : Int))), none, some (encQ (unr q)), some (.a (.int num)), none, none, none, none, none, none, none, none, none, none, none], none, none⟩) ?r3 ?f3
  case f3 =>
    intro NX h
    refine ⟨(ns, 10), rfl, trivial, ?_⟩
    rintro _ ⟨num, rfl⟩
    exact h _ ⟨num, rfl⟩
  rintro _ ⟨num, rfl⟩
  refine seq_split (fun ρ' => ∃ cells : List Int, cells.length ≤ 25 ∧ ρ' = ⟨[some (iL ns), some (encWd W), some (encQ q), some (tS hd), some (.a (.int (deep : Int))), none, some (encQ (unr q)), some (.a (.int num)), some (iL cells), none, none, none, none, none, none, none, none, none, none], none, none⟩) ?r4 ?f4
  case f4 =>
    intro NX h
    have m := mod_lt (i := num) (j := 8) (by decide)
    obtain ⟨j, hj⟩ : ∃ j : Nat, num % 8 = (j : Int) := ⟨(num % 8).toNat, by omega⟩
    refine ⟨by decide, ?_⟩
    rw [hj]
    refine ⟨(num, j), rfl, (show j ≤ 1000 by omega), ?_⟩
    rintro _ ⟨xs, rfl, hx, _⟩
    have l2 := cut_len (xs := ns) 12 30
    refine add_l (ys := cut (ns.map fun n => D.a (.int n)) (some ((12 : Nat) : Int)) (some ((30 : Nat) : Int))) ?_ ?_
    · rw [cutm, List.length_map, List.length_map, sizeLine_eq]
      omega
    · rw [cutm, ← List.map_append]
      exact h _ ⟨xs ++ cut ns (some ((12 : Nat) : Int)) (some ((30 : Nat) : Int)), by rw [List.length_append]; omega, rfl⟩
  rintro _ ⟨cells, lc, rfl⟩
  refine seq_split (fun ρ' => ∃ tl : List Str, tl.length = cells.length + 2 ∧ tl.Nodup ∧ (∀ z ∈ tl, sOk z = true) ∧ ρ' = ⟨[some (iL ns), some (encWd W), some (encQ q), some (tS hd), some (.a (.int (deep : Int))), none, some (encQ (unr q)), some (.a (.int num)), some (iL cells), some (lS tl), none, none, none, none, none, none, none, none, none], none, none⟩) ?r5 ?f5
  case f5 =>
    intro NX h
    refine ⟨(ns, 11), rfl, trivial, ?_⟩
    rintro _ ⟨z, rfl⟩
    refine add_i ⟨(z, cells.length + 2), ?_, (show cells.length + 2 ≤ 60 by omega), ?_⟩
    · show [D.a (.int z), D.a (.int ((((cells.map fun n => D.a (.int n)).length : Nat) : Int) + 2))] = _
      rw [List.length_map]
      rfl
    · rintro _ ⟨tl, rfl, t1, t2, t3⟩
      exact h _ ⟨tl, t1, t2, t3, rfl⟩
  rintro _ ⟨tl, t1, t2, t3, rfl⟩
  refine seq_split (fun ρ' => ∃ st : List Rw, StdOk W tl cells.length st ∧ ρ' = ⟨[some (iL ns), some (encWd W), some (encQ q), some (tS hd), some (.a (.int (deep : Int))), none, some (encQ (unr q)), some (.a (.int num)), some (iL cells), some (lS tl), some (stD st), none, none, none, none, none, none, none, none], none, none⟩) ?r6 ?f6
  case f6 =>
    intro NX h
    refine lix_any (by omega) (by show (deep : Int) < 4; omega) fun d hd' => ?_
    obtain ⟨most, rfl⟩ : ∃ m : Int, d = .a (.int m) := by
      rcases List.mem_cons.mp hd' with e | hd'
      · exact ⟨_, e⟩
      rcases List.mem_cons.mp hd' with e | hd'
      · exact ⟨_, e⟩
      rcases List.mem_cons.mp hd' with e | hd'
      · exact ⟨_, e⟩
      exact ⟨_, List.mem_singleton.mp hd'⟩
    refine ⟨(cells, W, tl, most), rfl, ⟨hw, by omega, by omega, t3⟩, ?_⟩
    rintro _ ⟨st, rfl, so⟩
    exact h _ ⟨st, so, rfl⟩
  rintro _ ⟨st, so, rfl⟩
  have sok := so.ok
  have nd : (st.map (·.name)).Nodup := t2.sublist so.sub
  refine seq_split (fun ρ' => ∃ p, ρ' = ⟨[some (iL ns), some (encWd W), some (encQ q), some (tS hd), some (.a (.int (deep : Int))), none, some (encQ (unr q)), some (.a (.int num)), some (iL cells), some (lS tl), some (stD st), some (.a (.ref p)), none, none, none, none, none, none, none], none, some (stoOf W.hs st true p)⟩) ?r7 ?f7
  case f7 => exact fun NX h => ⟨rfl, W, st, rfl, ⟨hw, sok, nd⟩, fun p => h _ ⟨p, rfl⟩⟩
  rintro _ ⟨p, rfl⟩
  refine seq_split (fun ρ' => ρ' = ⟨[some (iL ns), some (encWd W), some (encQ q), some (tS hd), some (.a (.int (deep : Int))), none, some (encQ (unr q)), some (.a (.int num)), some (iL cells), some (lS tl), some (stD st), some (.a (.ref p)), none, none, none, none, none, none, none], some (12, []), some (stoOf W.hs st true p)⟩) ?r8 ?f8
  case f8 => exact fun NX h => ⟨⟨rfl, by show 12 < 19; decide⟩, h _ rfl⟩
  rintro _ rfl
  refine seq_split (fun ρ' => ∃ ts o13 o14, TrsOk ts ∧ ρ' = ⟨[some (iL ns), some (encWd W), some (encQ q), some (tS hd), some (.a (.int (deep : Int))), none, some (encQ (unr q)), some (.a (.int num)), some (iL cells), some (lS tl), some (stD st), some (.a (.ref p)), none, o13, o14, none, none, none, none], some (12, ts.map encR), some (stoOf W.hs st true p)⟩) ?r9 ?f9
  case f9 =>
    intro NX h
    refine add_i ⟨(num + 1, 8), rfl, (show 8 ≤ 1000 by decide), ?_⟩
    rintro _ ⟨xs, rfl, hx, _⟩
    have l2 := cut_len (xs := ns) 30 63
    refine add_l (ys := cut (ns.map fun n => D.a (.int n)) (some ((30 : Nat) : Int)) (some ((63 : Nat) : Int))) ?_ ?_
    · rw [cutm, List.length_map, List.length_map, sizeLine_eq]
      omega
    rw [cutm, ← List.map_append]
    have cl : (xs ++ cut ns (some ((30 : Nat) : Int)) (some ((63 : Nat) : Int))).length ≤ 41 := by rw [List.length_append]; omega
    refine ⟨fun i ρ' => ∃ ts o13 o14, (TrsOk ts ∧ ts.length = 2 * i) ∧ ρ' = ⟨[some (iL ns), some (encWd W), some (encQ q), some (tS hd), some (.a (.int (deep : Int))), none, some (encQ (unr q)), some (.a (.int num)), some (iL cells), some (lS tl), some (stD st), some (.a (.ref p)), none, o13, o14, none, none, none, none], some (12, ts.map encR), some (stoOf W.hs st true p)⟩, ?_, ?_, ?_⟩
    · exact ⟨[], none, none, ⟨(fun _ h => nomatch h), rfl⟩, rfl⟩
    · rintro i d ρ' hi ⟨ts, o13, o14, ⟨tk, tn⟩, rfl⟩
      have hi2 := (List.getElem?_eq_some_iff.mp hi).1
      rw [List.length_map] at hi2
      obtain ⟨z, _, rfl⟩ := List.mem_map.mp (List.mem_of_getElem? hi)
      refine ⟨by decide, ⟨(unr q, z % 2147483647, st, W.hs), rfl, ⟨by omega, rf_unr q, n31_mod (by decide) (by decide), sok⟩, ?_⟩⟩
      rintro _ ⟨t, rfl, k1, k2, k3⟩
      refine ⟨_, rfl, by rw [List.length_map]; omega, ?_⟩
      refine ⟨_, rfl, cdiv (by decide) (by decide), by decide, ⟨(t, z / 7 % 2147483647, tl), rfl, ⟨by omega, n31_mod (by decide) (by decide), (fun e => by rw [e] at t1; cases t1), t3, k3⟩, ?_⟩⟩
      rintro _ ⟨u, rfl, u1, u2, u3⟩
      refine ⟨by rw [List.length_append, List.length_map]; show _ + 1 < _; omega, ?_⟩
      refine ⟨ts ++ [t, u], some (.a (.int z)), some (encR t), ⟨fun x hx => ?_, by rw [List.length_append, tn]; show 2 * i + 2 = 2 * (i + 1); omega⟩, ?_⟩
      · rcases List.mem_append.mp hx with e | e
        · exact tk x e
        rcases List.mem_cons.mp e with e | e
        · rw [e]; exact ⟨by omega, by omega, k3⟩
        · rw [List.mem_singleton.mp e]; exact ⟨by omega, by omega, u3⟩
      · rw [List.map_append]
        show (⟨_, some (12, (ts.map encR ++ [encR t]) ++ [encR u]), _⟩ : DSt) = _
        rw [List.append_assoc]
        rfl
    · rintro ρ' ⟨ts, o13, o14, ⟨tk, _⟩, rfl⟩
      exact h _ ⟨ts, o13, o14, tk, rfl⟩
  rintro _ ⟨ts, o13, o14, tk, rfl⟩
  refine ⟨⟨_, rfl⟩, ?_⟩
  have RI : ∀ {us : List Tr} {sx : List Rw} {kk : D → Prop}, TrsOk us → StOk W.hs sx → (sx.map (·.name)).Nodup → kk (.a (.bl true)) → fsRight.run (some (stoOf W.hs sx false p)) [.lst (us.map encR), encQ q, encQ (unr q), .a (.ref p), encWd W, stD sx] kk :=
    fun {us sx kk} a b c e => ⟨(us, q, W, sx), p, rfl, rfl, ⟨a, by omega, sq.rg, by omega, sq.ok, b, c⟩, fun d h => by rw [h]; exact e⟩
  refine seq_split (fun ρ' => ρ' = ⟨[some (iL ns), some (encWd W), some (encQ q), some (tS hd), some (.a (.int (deep : Int))), none, some (encQ (unr q)), some (.a (.int num)), some (iL cells), some (lS tl), some (stD st), some (.a (.ref p)), some (.lst (ts.map encR)), o13, o14, none, none, none, none], none, some (stoOf W.hs st true p)⟩) ?r10 ?f10
  case f10 => exact fun NX h => RI tk sok nd (no rfl (h _ rfl))
  rintro _ rfl
  refine seq_split (fun ρ' => st ≠ [] ∧ ρ' = ⟨[some (iL ns), some (encWd W), some (encQ q), some (tS hd), some (.a (.int (deep : Int))), none, some (encQ (unr q)), some (.a (.int num)), some (iL cells), some (lS tl), some (stD st), some (.a (.ref p)), some (.lst (ts.map encR)), o13, o14, none, none, none, none], none, some (stoOf W.hs st true p)⟩) ?r11 ?f11
  case f11 =>
    intro NX h
    refine eq_nilL (Gd.l sok.gd) (by decide) ?_
    cases st with
    | nil => exact yes rfl hk
    | cons r rest => exact no rfl (h _ ⟨(fun e => nomatch e), rfl⟩)
  rintro _ ⟨sne, rfl⟩
  have sp : 0 < st.length := List.length_pos_iff.mpr sne
  refine seq_split (fun ρ' => ∃ j : Nat, j < st.length ∧ ρ' = ⟨[some (iL ns), some (encWd W), some (encQ q), some (tS hd), some (.a (.int (deep : Int))), none, some (encQ (unr q)), some (.a (.int num)), some (iL cells), some (lS tl), some (stD st), some (.a (.ref p)), some (.lst (ts.map encR)), o13, o14, some (.a (.int (j : Int))), none, none, none], none, some (stoOf W.hs st true p)⟩) ?r12 ?f12
  case f12 =>
    intro NX h
    have sp2 : (0 : Int) < (((st.map encW).length : Nat) : Int) := by rw [List.length_map]; omega
    have m := mod_lt (i := num) sp2
    have e2 : (((st.map encW).length : Nat) : Int) = (st.length : Int) := by rw [List.length_map]
    refine ⟨sp2, ?_⟩
    obtain ⟨j, hj⟩ : ∃ j : Nat, num % (((st.map encW).length : Nat) : Int) = (j : Int) := ⟨(num % (((st.map encW).length : Nat) : Int)).toNat, by omega⟩
    rw [hj]
    exact h _ ⟨j, by omega, rfl⟩
  rintro _ ⟨j, hj, rfl⟩
  obtain ⟨r, er⟩ : ∃ r, st[j]? = some r := ⟨_, List.getElem?_eq_getElem hj⟩
  have er' : (st.map encW)[j]? = some (encW r) := by rw [List.getElem?_map, er]; rfl
  have ew := wo_split nd er
  have rm : r ∈ st := List.mem_of_getElem? er
  have wsub : (wo r.name st).Sublist st := List.filter_sublist
  have wok : StOk W.hs (wo r.name st) := sok.sub wsub.length_le fun x hx => wsub.subset hx
  have wnd : ((wo r.name st).map (·.name)).Nodup := nd.sublist (wsub.map _)
  have few := sok.few
  refine seq_split (fun ρ' => ρ' = ⟨[some (iL ns), some (encWd W), some (encQ q), some (tS hd), some (.a (.int (deep : Int))), none, some (encQ (unr q)), some (.a (.int num)), some (iL cells), some (lS tl), some (stD st), some (.a (.ref p)), some (.lst (ts.map encR)), o13, o14, some (.a (.int (j : Int))), none, none, none], none, some (stoOf W.hs (wo r.name st) true p)⟩) ?r13 ?f13
  case f13 => exact fun NX h => ⟨W.hs, st, p, rfl, rfl, lix (j := j) rfl er' (tix (j := 1) rfl rfl ⟨r.name, rfl, List.mem_map.mpr ⟨r, rm, rfl⟩, h _ rfl⟩)⟩
  rintro _ rfl
  refine seq_split (fun ρ' => ρ' = ⟨[some (iL ns), some (encWd W), some (encQ q), some (tS hd), some (.a (.int (deep : Int))), none, some (encQ (unr q)), some (.a (.int num)), some (iL cells), some (lS tl), some (stD st), some (.a (.ref p)), some (.lst (ts.map encR)), o13, o14, some (.a (.int (j : Int))), some (stD (wo r.name st)), none, none], none, some (stoOf W.hs (wo r.name st) true p)⟩) ?r14 ?f14
  case f14 =>
    intro NX h
    refine add_i ?_
    refine add_l (xs := cut (st.map encW) none (some ((j : Nat) : Int))) (ys := cut (st.map encW) (some ((j + 1 : Nat) : Int)) none) ?_ ?_
    · rw [cutm, cutm, List.length_map, List.length_map, cut_upto _ (by omega), cut_from2, List.length_take, List.length_drop, sizeLine_eq]
      omega
    · rw [cutm, cutm, cut_upto _ (by omega), cut_from2, ← List.map_append, ← ew]
      exact h _ rfl
  rintro _ rfl
  have tk2 : TrsOk (cut ts none (some ((12 : Nat) : Int))) := fun t ht => tk t (List.mem_of_mem_drop (List.mem_of_mem_take ht))
  have RJ : ∀ {sx : List Rw} {kk : D → Prop}, StOk W.hs sx → (sx.map (·.name)).Nodup → kk (.a (.bl true)) → fsRight.run (some (stoOf W.hs sx false p)) [.lst (cut (ts.map encR) none (some ((12 : Nat) : Int))), encQ q, encQ (unr q), .a (.ref p), encWd W, stD sx] kk := by
    intro sx kk a b c
    have z := RI (us := cut ts none (some ((12 : Nat) : Int))) (kk := kk) tk2 a b c
    rw [← cutm] at z
    exact z
  refine seq_split (fun ρ' => ρ' = ⟨[some (iL ns), some (encWd W), some (encQ q), some (tS hd), some (.a (.int (deep : Int))), none, some (encQ (unr q)), some (.a (.int num)), some (iL cells), some (lS tl), some (stD st), some (.a (.ref p)), some (.lst (ts.map encR)), o13, o14, some (.a (.int (j : Int))), some (stD (wo r.name st)), none, none], none, some (stoOf W.hs (wo r.name st) true p)⟩) ?r15 ?f15
  case f15 =>
    intro NX h
    exact RJ wok wnd (no rfl (h _ rfl))
  rintro _ rfl
  refine seq_split (fun ρ' => ∃ o, o ∈ W.ns.take 3 ∧ ρ' = ⟨[some (iL ns), some (encWd W), some (encQ q), some (tS hd), some (.a (.int (deep : Int))), none, some (encQ (unr q)), some (.a (.int num)), some (iL cells), some (lS tl), some (stD st), some (.a (.ref p)), some (.lst (ts.map encR)), o13, o14, some (.a (.int (j : Int))), some (stD (wo r.name st)), some (sD o), none], none, some (stoOf W.hs (wo r.name st) true p)⟩) ?r16 ?f16
  case f16 =>
    intro NX h
    exact tix (j := 0) rfl rfl ⟨cdiv (by decide) (by decide), by decide, ns_at hw (mod_lt (by decide)).1 (mod_lt (i := num / 7) (j := 3) (by decide)).2 fun o ho => h _ ⟨o, ho, rfl⟩⟩
  rintro _ ⟨o, ho, rfl⟩
  obtain ⟨g, e1, e2⟩ := hw.tab ho
  obtain ⟨v0, vr, ev⟩ : ∃ v0 vr, W.pool = v0 :: vr := by
    cases hp : W.pool with
    | nil => exact absurd hp hw.pN
    | cons a b => exact ⟨a, b, rfl⟩
  have rok : StOk W.hs (wo r.name st ++ [⟨o, r.name, List.replicate g.length v0⟩]) := by
    refine ⟨?_, fun x hx => ?_⟩
    · rw [List.length_append, ew, List.length_append, List.length_take, List.length_drop]
      show _ + 1 ≤ 1000
      omega
    · rcases List.mem_append.mp hx with e | e
      · exact wok.row x e
      · rw [List.mem_singleton.mp e]
        obtain ⟨_, _, _, _, _, rs⟩ := sok.row r rm
        refine ⟨g, e1, List.length_replicate, fun v hv => ?_, hw.nS o (List.mem_of_mem_take ho), rs⟩
        rw [(List.mem_replicate.mp hv).2]
        exact hw.pO v0 (by rw [ev]; exact List.mem_cons_self)
  have nin : r.name ∉ (wo r.name st).map (·.name) := fun z => by
    obtain ⟨x, hx, e⟩ := List.mem_map.mp z
    have := (List.mem_filter.mp hx).2
    simp [e] at this
  have rnd : ((wo r.name st ++ [(⟨o, r.name, List.replicate g.length v0⟩ : Rw)]).map (·.name)).Nodup := by
    rw [List.map_append]
    refine List.nodup_append.mpr ⟨wnd, List.pairwise_singleton _ _, fun a ha b hb e => ?_⟩
    rw [List.mem_singleton.mp hb] at e
    exact nin (by rw [e] at ha; exact ha)
  refine seq_split (fun ρ' => ρ' = ⟨[some (iL ns), some (encWd W), some (encQ q), some (tS hd), some (.a (.int (deep : Int))), none, some (encQ (unr q)), some (.a (.int num)), some (iL cells), some (lS tl), some (stD st), some (.a (.ref p)), some (.lst (ts.map encR)), o13, o14, some (.a (.int (j : Int))), some (stD (wo r.name st)), some (sD o), some (tV (List.replicate g.length v0))], none, some (stoOf W.hs (wo r.name st) true p)⟩) ?r17 ?f17
  case f17 =>
    intro NX h
    refine tix (j := 3) rfl rfl (lix (j := 0) rfl (d := .a v0) (by rw [List.getElem?_map, ev]; rfl) (tix (j := 2) rfl rfl (dix (hs_find e1).1 ⟨(fun e => nomatch e), (show 1 ≤ 1000 by decide), g.length, by rw [strsD_len], by have := e2.2.1; omega, ?_⟩)))
    rw [rep_one]
    exact h _ rfl
  rintro _ rfl
  refine seq_split (fun ρ' => ρ' = ⟨[some (iL ns), some (encWd W), some (encQ q), some (tS hd), some (.a (.int (deep : Int))), none, some (encQ (unr q)), some (.a (.int num)), some (iL cells), some (lS tl), some (stD st), some (.a (.ref p)), some (.lst (ts.map encR)), o13, o14, some (.a (.int (j : Int))), some (stD (wo r.name st)), some (sD o), some (tV (List.replicate g.length v0))], none, some (stoOf W.hs (wo r.name st ++ [⟨o, r.name, List.replicate g.length v0⟩]) true p)⟩) ?r18 ?f18
  case f18 =>
    intro NX h
    refine ⟨_, rfl, rfl, rfl, lix (j := j) rfl er' (tix (j := 1) rfl rfl ⟨o, r.name, g, List.replicate g.length v0, rfl, (hs_find e1).1, List.length_replicate, nin, ?_, ?_⟩)⟩
    · show ((wo r.name st).map (·.name)).length ≤ 1000
      rw [List.length_map]
      exact wok.few
    · have e : stoOf W.hs (wo r.name st ++ [⟨o, r.name, List.replicate g.length v0⟩]) true p = { stoOf W.hs (wo r.name st) true p with ns := (wo r.name st).map (·.name) ++ [r.name], rs := (wo r.name st).map rwD ++ [.tup [sD o, tV (List.replicate g.length v0)]] } := by
        unfold stoOf
        rw [List.map_append, List.map_append]
        rfl
      rw [e] at h
      exact h _ rfl
  rintro _ rfl
  refine lix (j := j) rfl er' (tix (j := 1) rfl rfl (add_l (ys := [encW ⟨o, r.name, List.replicate g.length v0⟩]) ?_ ?_))
  · rw [List.length_map, sizeLine_eq]
    have := wok.few
    show _ + 1 ≤ _
    omega
  · have z := RJ (kk := k) rok rnd hk
    unfold stD at z
    rw [List.map_append] at z
    exact z
end
end Wh

namespace Wh
open PySem L2
section
variable {P : Program} {w : World} {K : PySem.W.Frag} {mg : Str → Option Value} {base : Heap} {C N : Addr}
/-! ### all defs -/
theorem law_at (T : Txt mg) (S : StTxt K mg C) (NN : NoN K mg N) {fl : Addr} {fd : FuncData} (d_law : Fun K "law" "law" s_law fl fd) (d_values_in : DefAt K mg "values_in" s_values_in) (d_l_values : DefAt K mg "_law_values" s_l_values) (d_joined_head : DefAt K mg "joined_head" s_joined_head) (d_join_rows : DefAt K mg "join_rows" s_join_rows) (d_columns_told : DefAt K mg "columns_told" s_columns_told) (d_is_passed : DefAt K mg "is_passed" s_is_passed) (d_l_passes : DefAt K mg "_law_passes" s_l_passes) (d_ask_columns : DefAt K mg "ask_columns" s_ask_columns) (d_passes : DefAt K mg "passes" s_passes) (d_columns_of : DefAt K mg "columns_of" s_columns_of) (d_pick_head : DefAt K mg "pick_head" s_pick_head) (d_kept_head : DefAt K mg "kept_head" s_kept_head) (d_called_head : DefAt K mg "called_head" s_called_head) (d_together_head : DefAt K mg "together_head" s_together_head) (d_head_of : DefAt K mg "head_of" s_head_of) (d_replaced : DefAt K mg "replaced" s_replaced) (d_unrolled : DefAt K mg "unrolled" s_unrolled) (d_ring_unrolled : DefAt K mg "ring_unrolled" s_ring_unrolled) (d_leaves : DefAt K mg "leaves" s_leaves) (d_l_leaves : DefAt K mg "_law_leaves" s_l_leaves) (d_tree_product : DefAt K mg "tree_product" s_tree_product) (d_l_brings : DefAt K mg "_law_brings" s_l_brings) (d_l_brings_join : DefAt K mg "_law_brings_join" s_l_brings_join) (d_l_brings_put : DefAt K mg "_law_brings_put" s_l_brings_put) (d_l_climb : DefAt K mg "_law_climb" s_l_climb) (d_l_spoiled : DefAt K mg "_law_spoiled" s_l_spoiled) (d_head_under : DefAt K mg "head_under" s_head_under) (d_walk_table : DefAt K mg "walk_table" s_walk_table) (d_walk : DefAt K mg "walk" s_walk) (d_walk_join : DefAt K mg "walk_join" s_walk_join) (d_walk_put : DefAt K mg "walk_put" s_walk_put) (d_brought : DefAt K mg "brought" s_brought) (d_l_cell_at : DefAt K mg "_law_cell_at" s_l_cell_at) (d_l_stream : DefAt K mg "_law_stream" s_l_stream) (d_l_pool : DefAt K mg "_law_pool" s_l_pool) (d_l_words : DefAt K mg "_law_words" s_l_words) (d_l_heads : DefAt K mg "_law_heads" s_l_heads) (d_l_bent : DefAt K mg "_law_bent" s_l_bent) (d_l_test : DefAt K mg "_law_test" s_l_test) (d_l_both : DefAt K mg "_law_both" s_l_both) (d_l_step : DefAt K mg "_law_step" s_l_step) (d_l_ring : DefAt K mg "_law_ring" s_l_ring) (d_l_wider : DefAt K mg "_law_wider" s_l_wider) (d_l_put : DefAt K mg "_law_put" s_l_put) (d_l_more : DefAt K mg "_law_more" s_l_more) (d_l_question : DefAt K mg "_law_question" s_l_question) (d_l_world : DefAt K mg "_law_world" s_l_world) (d_l_stand : DefAt K mg "_law_stand" s_l_stand) (d_l_store : DefAt K mg "_law_store" s_l_store) (d_l_right : DefAt K mg "_law_right" s_l_right) : FnOk P w K mg base CX0 131 fl fd ["_law_script"] (sp K C fsLaw) := by
  have c_values_in : Callee P w K mg base C 1 "values_in" ["head", "row", "columns"] fsVals := Wh.c_values_in T d_values_in
  have c_l_values : Callee P w K mg base C 1 "_law_values" ["_law_head", "_law_row", "_law_columns"] fsVals := Wh.c_l_values T d_l_values
  have c_joined_head : Callee P w K mg base C 1 "joined_head" ["head", "other"] fsJoinH := Wh.c_joined_head T d_joined_head
  have c_join_rows : Callee P w K mg base C 2 "join_rows" ["one", "row", "other", "second"] fsJoinR := Wh.c_join_rows T d_join_rows c_values_in
  have c_columns_told : Callee P w K mg base C 6 "columns_told" ["test"] (fsTold 5) := Wh.c_columns_told T d_columns_told 5
  have c_is_passed : Callee P w K mg base C 6 "is_passed" ["test", "head", "row"] (fsPas 5) := Wh.c_is_passed T d_is_passed 5
  have c_l_passes : Callee P w K mg base C 6 "_law_passes" ["_law_test_here", "_law_head", "_law_row"] (fsPas 5) := Wh.c_l_passes T d_l_passes 5
  have c_ask_columns : Callee P w K mg base C 7 "ask_columns" ["test", "head"] fsAsk := Wh.c_ask_columns T d_ask_columns c_columns_told
  have c_passes : Callee P w K mg base C 8 "passes" ["test", "head", "row"] (fsPas 5) := Wh.c_passes T d_passes c_ask_columns c_is_passed
  have c_columns_of : Callee P w K mg base C 7 "columns_of" ["test"] fsColsOf := Wh.c_columns_of T d_columns_of c_columns_told
  have c_pick_head : Callee P w K mg base C 8 "pick_head" ["test", "head"] fsPickH := Wh.c_pick_head T d_pick_head c_columns_of
  have c_kept_head : Callee P w K mg base C 1 "kept_head" ["head", "columns"] fsKept := Wh.c_kept_head T d_kept_head
  have c_called_head : Callee P w K mg base C 1 "called_head" ["head", "old", "new"] fsCalled := Wh.c_called_head T d_called_head
  have c_together_head : Callee P w K mg base C 1 "together_head" ["head", "other"] fsTogether := Wh.c_together_head T d_together_head
  have c_head_of : Callee P w K mg base C 49 "head_of" ["question", "heads"] (fsHead 40) := Wh.c_head_of T d_head_of c_joined_head c_together_head c_pick_head c_kept_head c_called_head 40
  have c_replaced : Callee P w K mg base C 41 "replaced" ["question", "name", "other"] (fsRepl 40) := Wh.c_replaced T d_replaced 40
  have c_unrolled : Callee P w K mg base C 121 "unrolled" ["question"] (fsUnr 40) := Wh.c_unrolled T d_unrolled d_ring_unrolled c_replaced 40
  have c_leaves : Callee P w K mg base C 61 "leaves" ["tree"] (fsLvs 60) := Wh.c_leaves T d_leaves 60
  have c_l_leaves : Callee P w K mg base C 61 "_law_leaves" ["_law_tree"] (fsLvs 60) := Wh.c_l_leaves T d_l_leaves 60
  have c_tree_product : Callee P w K mg base C 62 "tree_product" ["tree"] (fsProd 60) := Wh.c_tree_product T d_tree_product c_leaves
  have c_l_brings : Callee P w K mg base C 129 "_law_brings" ["_law_tree", "_law_question_here", "_law_world_here", "_law_stand_here"] (fsBrg 40) := Wh.c_l_brings T d_l_brings d_l_brings_join d_l_brings_put c_l_values c_head_of c_l_passes 40
  have c_l_climb : Callee P w K mg base C 41 "_law_climb" ["_law_question_here", "_law_number", "_law_stand_here"] (fsClimb 40) := Wh.c_l_climb T d_l_climb 40
  have c_l_spoiled : Callee P w K mg base C 41 "_law_spoiled" ["_law_tree", "_law_number", "_law_titles"] (fsSpoil 40) := Wh.c_l_spoiled T d_l_spoiled 40
  have c_head_under : Callee P w K mg base C 42 "head_under" ["question", "store"] (fsUnder 40) := Wh.c_head_under T S d_head_under c_joined_head 40
  have c_walk_table : Callee P w K mg base C 2 "walk_table" ["tree", "table", "store"] fsWt := Wh.c_walk_table T S NN d_walk_table
  have c_walk : Callee P w K mg base C 122 "walk" ["tree", "question", "store"] (fsWalk 40) := Wh.c_walk T d_walk d_walk_join d_walk_put c_walk_table c_values_in c_head_under c_joined_head c_join_rows c_passes 40
  have c_brought : Callee P w K mg base C 123 "brought" ["tree", "question", "store"] (fsBrought 40) := Wh.c_brought T d_brought c_walk c_unrolled (by decide)
  have c_l_cell_at : Callee P w K mg base C 1 "_law_cell_at" ["_law_script", "_law_k"] fsCell := Wh.c_l_cell_at T d_l_cell_at
  have c_l_stream : Callee P w K mg base C 1 "_law_stream" ["_law_cell", "_law_many"] fsStream := Wh.c_l_stream T d_l_stream
  have c_l_pool : Callee P w K mg base C 1 "_law_pool" ["_law_cell"] fsPool := Wh.c_l_pool T d_l_pool
  have c_l_words : Callee P w K mg base C 2 "_law_words" ["_law_cell", "_law_many"] fsWords := Wh.c_l_words T d_l_words c_l_stream
  have c_l_heads : Callee P w K mg base C 2 "_law_heads" ["_law_cell", "_law_columns"] fsHeads := Wh.c_l_heads T d_l_heads c_l_stream
  have c_l_bent : Callee P w K mg base C 1 "_law_bent" ["_law_head", "_law_number"] fsBent := Wh.c_l_bent T d_l_bent
  have c_l_test : Callee P w K mg base C 1 "_law_test" ["_law_xs", "_law_head", "_law_pool_here"] fsTest := Wh.c_l_test T d_l_test
  have c_l_both : Callee P w K mg base C 1 "_law_both" ["_law_one", "_law_head", "_law_other", "_law_second"] fsBoth := Wh.c_l_both T d_l_both
  have c_l_step : Callee P w K mg base C 2 "_law_step" ["_law_world_here", "_law_head", "_law_other", "_law_more_here", "_law_number"] fsStep := Wh.c_l_step T d_l_step c_l_bent
  have c_l_ring : Callee P w K mg base C 3 "_law_ring" ["_law_state", "_law_xs", "_law_world_here"] (fsGrow fun deep => deep < 3) := Wh.c_l_ring T d_l_ring c_l_step
  have c_l_wider : Callee P w K mg base C 3 "_law_wider" ["_law_state", "_law_xs", "_law_world_here"] (fsGrow fun deep => deep < 3) := Wh.c_l_wider T d_l_wider c_l_both
  have c_l_put : Callee P w K mg base C 3 "_law_put" ["_law_state", "_law_xs", "_law_world_here"] (fsGrow fun _ => True) := Wh.c_l_put T d_l_put c_l_bent c_l_test
  have c_l_more : Callee P w K mg base C 4 "_law_more" ["_law_state", "_law_cell", "_law_world_here"] fsMore := Wh.c_l_more T d_l_more c_l_stream c_l_bent c_l_test c_l_ring c_l_wider c_l_put
  have c_l_question : Callee P w K mg base C 5 "_law_question" ["_law_cells", "_law_world_here"] fsQn := Wh.c_l_question T d_l_question c_l_more
  have c_l_world : Callee P w K mg base C 3 "_law_world" ["_law_script"] fsWorld := Wh.c_l_world T d_l_world c_l_cell_at c_l_words c_l_heads c_l_pool
  have c_l_stand : Callee P w K mg base C 2 "_law_stand" ["_law_cells", "_law_world_here", "_law_names", "_law_most"] fsStand := Wh.c_l_stand T d_l_stand c_l_stream
  have c_l_store : CalleeS P w K mg base C 3 "_law_store" ["_law_world_here", "_law_stand_here"] runStore := Wh.c_l_store T S d_l_store
  have c_l_right : Callee P w K mg base C 130 "_law_right" ["_law_some", "_law_question_here", "_law_plain", "_law_store_here", "_law_world_here", "_law_stand_here"] fsRight := Wh.c_l_right T d_l_right c_l_brings c_brought c_tree_product c_l_leaves
  exact Wh.c_law T S d_law c_l_world c_l_cell_at c_l_question c_unrolled c_l_stream c_l_words c_l_stand c_l_store c_l_climb c_l_spoiled c_l_right
/-! ### facts of the top -/
variable {h : Heap}
theorem defAt_mk {x : Str} {st : Stmt} (X : K.In h) (G : h.Ns mainGlobals mg) {f : Addr} {oc : Value} {od an : Option Addr} {kV doc pm cd ct : Value} {sl : Array (Option Value)} (a : PySem.W.nsIn K mainGlobals x = some (some (.ref f)))
    (l : K.lookup f = some ⟨oc, od, .func (PySem.W.fnOf x x (defArgs st) (defBody st) (defScope st) .none kV doc pm an cd ct), sl⟩) (c : PySem.W.codeIn K cd x = true) (k : PySem.W.keepIn K (.ref f) = true) : DefAt K mg x st := ⟨f, _, fun_mk l c k, PySem.W.mg_of X G a⟩
theorem methAt_mk {m q : Str} {st : Stmt} {f : Addr} {oc : Value} {od an : Option Addr} {kV doc pm cd ct : Value} {sl : Array (Option Value)} (a : PySem.W.findIn K (.ref C) m = some (some (.ref f))) (i : PySem.W.isFn K (.ref f) = true)
    (l : K.lookup f = some ⟨oc, od, .func (PySem.W.fnOf m q (defArgs st) (defBody st) (defScope st) .none kV doc pm an cd ct), sl⟩) (c : PySem.W.codeIn K cd q = true) (k : PySem.W.keepIn K (.ref f) = true) : MethAt K C m q st := ⟨f, _, fun_mk l c k, ⟨a, i, k⟩⟩
/-! ### what the law promises, with no class in sight -/
def spLaw (K : PySem.W.Frag) : Sp := fun vs H Q _ => ∃ F ds, Same F H ∧ IsL K F ds vs ∧ (∃ ns : List Int, ds = [iL ns]) ∧ ∀ v F' H', Ext F H F' H' → Is K F' (.a (.bl true)) v → Q v H'
theorem sp_law : sp K C fsLaw = spLaw K := by
  funext vs H Q E
  refine propext ⟨fun ⟨F, so, ds, s, _, i, _, e, q⟩ => ⟨F, ds, s, i, e, q⟩, fun ⟨F, ds, s, i, e, q⟩ => ⟨F, none, ds, s, trivial, i, rfl, e, q⟩⟩
theorem ints_is {K : PySem.W.Frag} {H : Hp} : ∀ ns : List Int, IsL K H (ns.map fun n => D.a (.int n)) (ns.map V.int)
  | [] => rfl
  | n :: r => ⟨_, _, rfl, rfl, ints_is r⟩
def LawFn (l : PySem.W.OpenLaw) (w : World) (K : PySem.W.Frag) (mg : Str → Option Value) (fa : Addr) : Prop := ∃ fd : FuncData, (∀ (s : Shared) (u : Value), BindsTo s fd ⟨[u], []⟩ [("_law_script", u)]) ∧ ∀ base : Heap, K.In base → base.Ns mainGlobals mg → FnOk l.prog w K mg base CX0 131 fa fd ["_law_script"] (spLaw K)
structure LawFun (K : PySem.W.Frag) (mg : Str → Option Value) : Prop where
  ex : ∃ (f : Addr) (fd : FuncData), mg "law" = some (.ref f) ∧ Fun K "law" "law" s_law f fd ∧ ∀ (s : Shared) (u : Value), BindsTo s fd ⟨[u], []⟩ [("_law_script", u)]
theorem law_mk (X : K.In h) (G : h.Ns mainGlobals mg) {f : Addr} {oc : Value} {od an : Option Addr} {kV doc pm cd ct : Value} {sl : Array (Option Value)}
    (a : PySem.W.nsIn K mainGlobals "law" = some (some (.ref f))) (lk : K.lookup f = some ⟨oc, od, .func (PySem.W.fnOf "law" "law" (defArgs s_law) (defBody s_law) (defScope s_law) .none kV doc pm an cd ct), sl⟩) (c : PySem.W.codeIn K cd "law" = true) (k : PySem.W.keepIn K (.ref f) = true) : LawFun K mg :=
  ⟨f, PySem.W.fnOf "law" "law" (defArgs s_law) (defBody s_law) (defScope s_law) .none kV doc pm an cd ct, PySem.W.mg_of X G a, fun_mk (st := s_law) lk c k, fun s v => .of_eq rfl⟩
theorem txt_mk (X : K.In h) (G : h.Ns mainGlobals mg) (z1 : PySem.W.nsIn K mainGlobals "len" = some none) (z2 : PySem.W.nsIn K mainGlobals "set" = some none) (z3 : PySem.W.nsIn K mainGlobals "tuple" = some none) (z4 : PySem.W.nsIn K mainGlobals "sorted" = some none) (z5 : PySem.W.nsIn K mainGlobals "str" = some none)
    (z6 : PySem.W.nsIn K mainGlobals "int" = some none) (z7 : PySem.W.nsIn K mainGlobals "isinstance" = some none) (z8 : PySem.W.nsIn K mainGlobals "range" = some none) (z9 : PySem.W.nsIn K mainGlobals "dict" = some none) (zA : PySem.W.nsIn K mainGlobals "bool" = some none) : Txt mg :=
  ⟨PySem.W.mg_none_of X G z1, PySem.W.mg_none_of X G z2, PySem.W.mg_none_of X G z3, PySem.W.mg_none_of X G z4, PySem.W.mg_none_of X G z5, PySem.W.mg_none_of X G z6, PySem.W.mg_none_of X G z7, PySem.W.mg_none_of X G z8, PySem.W.mg_none_of X G z9, PySem.W.mg_none_of X G zA⟩
theorem st_mk (X : K.In h) (G : h.Ns mainGlobals mg) {D : Addr} (aC : PySem.W.nsIn K mainGlobals "Store" = some (some (.ref D))) (pg : PySem.W.plainGet K D Str.empty = true) (hd : PySem.W.hasDictIn K D = true) (po : PySem.W.plainOver K D = true)
    (sa : PySem.W.findIn K (.ref D) "__setattr__" = some (some (.builtin "object.__setattr__"))) (mk : PySem.W.makesIn K D = true) (kc : PySem.W.keepIn K (.ref D) = true) (nM : PySem.W.findIn K (.ref D) "made" = some none) (nS : PySem.W.findIn K (.ref D) "stood" = some none)
    (i1 : MethAt K D "__init__" "Store.__init__" m_init) (i2 : MethAt K D "make" "Store.make" m_make) (i3 : MethAt K D "put" "Store.put" m_put) (i4 : MethAt K D "strike" "Store.strike" m_strike) (i5 : MethAt K D "heads" "Store.heads" m_heads) (i6 : MethAt K D "row_of" "Store.row_of" m_row) : ∃ D, StTxt K mg D :=
  ⟨D, ⟨pg, hd, po, sa⟩, nM, nS, PySem.W.mg_of X G aC, mk, kc, i1, i2, i3, i4, i5, i6⟩
theorem no_mk (X : K.In h) (G : h.Ns mainGlobals mg) {D : Addr} (aC : PySem.W.nsIn K mainGlobals "NoName" = some (some (.ref D))) (x : PySem.W.excIn K D [.type "ValueError", .type "Exception", .type "BaseException", .type "object"] "ValueError.__new__" = true) (kc : PySem.W.keepIn K (.ref D) = true)
    (b : PySem.W.subIn K (.ref D) (.type "BaseException") = some true) (t : PySem.W.typeIn K (.ref D) = some (.type "type")) (hd : PySem.W.hasDictIn K D = true) (sf : PySem.W.subIn K (.ref D) (.ref D) = some true) : ∃ D, NoN K mg D :=
  ⟨D, PySem.W.mg_of X G aC, ⟨_, x, rfl⟩, kc, b, t, PySem.W.exm_ref b hd t sf⟩
theorem fin {l : PySem.W.OpenLaw} {fa : Addr} (hfa : mg "law" = some (.ref fa)) (T : Txt mg) (S : ∃ D, StTxt K mg D) (NN : ∃ D, NoN K mg D) (L : LawFun K mg) (d_values_in : DefAt K mg "values_in" s_values_in) (d_l_values : DefAt K mg "_law_values" s_l_values) (d_joined_head : DefAt K mg "joined_head" s_joined_head) (d_join_rows : DefAt K mg "join_rows" s_join_rows) (d_columns_told : DefAt K mg "columns_told" s_columns_told) (d_is_passed : DefAt K mg "is_passed" s_is_passed) (d_l_passes : DefAt K mg "_law_passes" s_l_passes) (d_ask_columns : DefAt K mg "ask_columns" s_ask_columns) (d_passes : DefAt K mg "passes" s_passes) (d_columns_of : DefAt K mg "columns_of" s_columns_of) (d_pick_head : DefAt K mg "pick_head" s_pick_head) (d_kept_head : DefAt K mg "kept_head" s_kept_head) (d_called_head : DefAt K mg "called_head" s_called_head) (d_together_head : DefAt K mg "together_head" s_together_head) (d_head_of : DefAt K mg "head_of" s_head_of) (d_replaced : DefAt K mg "replaced" s_replaced) (d_unrolled : DefAt K mg "unrolled" s_unrolled) (d_ring_unrolled : DefAt K mg "ring_unrolled" s_ring_unrolled) (d_leaves : DefAt K mg "leaves" s_leaves) (d_l_leaves : DefAt K mg "_law_leaves" s_l_leaves) (d_tree_product : DefAt K mg "tree_product" s_tree_product) (d_l_brings : DefAt K mg "_law_brings" s_l_brings) (d_l_brings_join : DefAt K mg "_law_brings_join" s_l_brings_join) (d_l_brings_put : DefAt K mg "_law_brings_put" s_l_brings_put) (d_l_climb : DefAt K mg "_law_climb" s_l_climb) (d_l_spoiled : DefAt K mg "_law_spoiled" s_l_spoiled) (d_head_under : DefAt K mg "head_under" s_head_under) (d_walk_table : DefAt K mg "walk_table" s_walk_table) (d_walk : DefAt K mg "walk" s_walk) (d_walk_join : DefAt K mg "walk_join" s_walk_join) (d_walk_put : DefAt K mg "walk_put" s_walk_put) (d_brought : DefAt K mg "brought" s_brought) (d_l_cell_at : DefAt K mg "_law_cell_at" s_l_cell_at) (d_l_stream : DefAt K mg "_law_stream" s_l_stream) (d_l_pool : DefAt K mg "_law_pool" s_l_pool) (d_l_words : DefAt K mg "_law_words" s_l_words) (d_l_heads : DefAt K mg "_law_heads" s_l_heads) (d_l_bent : DefAt K mg "_law_bent" s_l_bent) (d_l_test : DefAt K mg "_law_test" s_l_test) (d_l_both : DefAt K mg "_law_both" s_l_both) (d_l_step : DefAt K mg "_law_step" s_l_step) (d_l_ring : DefAt K mg "_law_ring" s_l_ring) (d_l_wider : DefAt K mg "_law_wider" s_l_wider) (d_l_put : DefAt K mg "_law_put" s_l_put) (d_l_more : DefAt K mg "_law_more" s_l_more) (d_l_question : DefAt K mg "_law_question" s_l_question) (d_l_world : DefAt K mg "_law_world" s_l_world) (d_l_stand : DefAt K mg "_law_stand" s_l_stand) (d_l_store : DefAt K mg "_law_store" s_l_store) (d_l_right : DefAt K mg "_law_right" s_l_right) : LawFn l w K mg fa := by
  obtain ⟨D, S⟩ := S
  obtain ⟨D', NN⟩ := NN
  obtain ⟨f, fd, hm, F, hb⟩ := L.ex
  have e := hfa.symm.trans hm
  cases e
  refine ⟨fd, hb, fun base _ _ => ?_⟩
  have F := law_at (P := l.prog) (w := w) (base := base) T S NN F d_values_in d_l_values d_joined_head d_join_rows d_columns_told d_is_passed d_l_passes d_ask_columns d_passes d_columns_of d_pick_head d_kept_head d_called_head d_together_head d_head_of d_replaced d_unrolled d_ring_unrolled d_leaves d_l_leaves d_tree_product d_l_brings d_l_brings_join d_l_brings_put d_l_climb d_l_spoiled d_head_under d_walk_table d_walk d_walk_join d_walk_put d_brought d_l_cell_at d_l_stream d_l_pool d_l_words d_l_heads d_l_bent d_l_test d_l_both d_l_step d_l_ring d_l_wider d_l_put d_l_more d_l_question d_l_world d_l_stand d_l_store d_l_right
  rw [sp_law] at F
  exact F
theorem walk {l : PySem.W.OpenLaw} {q : Program} {loose : List Str} {XP : (Str → Option Value) → Heap → Prop} {YP : World → Heap → Prop} {d : DefRec} {K : Params → PySem.W.Frag} (hn : l.most = some 63) (hdf : d.params.defaults = [])
    (hY : ∀ (w : World) (h : Heap), YP w h → (K w.params).In h)
    (F : ∀ (w : World) (mg : Str → Option Value) (fa : Addr) (h : Heap), (K w.params).In h → h.Ns mainGlobals mg → mg d.name = some (.ref fa) → LawFn l w (K w.params) mg fa) :
    PySem.W.WalkO q loose XP YP l.row.toRowW d [] (fun f vs => PySem.call f vs) :=
  L2.walk_of (n := 63) (k := 131) (x := "_law_script") (CX := fun _ => CX0) (sp := fun w => spLaw (K w.params)) hn (by decide) hdf ⟨rfl, by decide, by decide⟩ hY F
    (fun _ H a ns _ _ hS => ⟨H, [iL ns], Same.refl H, ⟨.ref a, [], rfl, ⟨a, ns.map V.int, rfl, hS, ints_is ns⟩, rfl⟩, ⟨ns, rfl⟩, fun v _ _ _ i => i⟩) fun _ _ _ _ _ z => z
end
end Wh

open PySem PySem.W PyProof.Rows
set_option maxRecDepth 100000 in
set_option maxHeartbeats 0 in
theorem PySem.Challenge.cw_whence_k65_brought_holds : PySem.Challenge.rw_whence_k65_brought.Holds := by
  w_on; o_law; k_head; (case hw => w_witness2)
  k_fill
  refine Wh.walk (l := PySem.Challenge.rw_whence_k65_brought) rfl rfl (fun w h Y => PySem.W.kIn_of Y) ?F
  case F =>
    intro w mg fa h KX G hmg
    refine' Wh.fin hmg ?T ?S ?NN ?L ?d_values_in ?d_l_values ?d_joined_head ?d_join_rows ?d_columns_told ?d_is_passed ?d_l_passes ?d_ask_columns ?d_passes ?d_columns_of ?d_pick_head ?d_kept_head ?d_called_head ?d_together_head ?d_head_of ?d_replaced ?d_unrolled ?d_ring_unrolled ?d_leaves ?d_l_leaves ?d_tree_product ?d_l_brings ?d_l_brings_join ?d_l_brings_put ?d_l_climb ?d_l_spoiled ?d_head_under ?d_walk_table ?d_walk ?d_walk_join ?d_walk_put ?d_brought ?d_l_cell_at ?d_l_stream ?d_l_pool ?d_l_words ?d_l_heads ?d_l_bent ?d_l_test ?d_l_both ?d_l_step ?d_l_ring ?d_l_wider ?d_l_put ?d_l_more ?d_l_question ?d_l_world ?d_l_stand ?d_l_store ?d_l_right
    case T =>
      refine' Wh.txt_mk KX G ?z1 ?z2 ?z3 ?z4 ?z5 ?z6 ?z7 ?z8 ?z9 ?zA
      all_goals k_is
    case S =>
      refine' Wh.st_mk KX G ?aC ?pg ?hd ?po ?sa ?mk ?kc ?nM ?nS ?i1 ?i2 ?i3 ?i4 ?i5 ?i6
      (case aC => k_is); (case pg => k_is); (case hd => k_is); (case po => k_is); (case sa => k_is); (case mk => k_is); (case kc => k_is); (case nM => k_is); (case nS => k_is)
      case i1 =>
        refine' Wh.methAt_mk ?a ?i ?l ?c ?k
        (case a => k_is); (case i => k_is); (case l => k_is); (case c => k_is); (case k => k_is)
      case i2 =>
        refine' Wh.methAt_mk ?a ?i ?l ?c ?k
        (case a => k_is); (case i => k_is); (case l => k_is); (case c => k_is); (case k => k_is)
      case i3 =>
        refine' Wh.methAt_mk ?a ?i ?l ?c ?k
        (case a => k_is); (case i => k_is); (case l => k_is); (case c => k_is); (case k => k_is)
      case i4 =>
        refine' Wh.methAt_mk ?a ?i ?l ?c ?k
        (case a => k_is); (case i => k_is); (case l => k_is); (case c => k_is); (case k => k_is)
      case i5 =>
        refine' Wh.methAt_mk ?a ?i ?l ?c ?k
        (case a => k_is); (case i => k_is); (case l => k_is); (case c => k_is); (case k => k_is)
      case i6 =>
        refine' Wh.methAt_mk ?a ?i ?l ?c ?k
        (case a => k_is); (case i => k_is); (case l => k_is); (case c => k_is); (case k => k_is)
    case NN =>
      refine' Wh.no_mk KX G ?aC ?x ?kc ?b ?t ?hd ?sf
      (case aC => k_is); (case x => k_exc); (case kc => k_is); (case b => k_is); (case t => k_is); (case hd => k_is); (case sf => first | rfl | k_is)
    case L =>
      refine' Wh.law_mk KX G ?a ?l ?c ?k
      (case a => k_is); (case l => k_is); (case c => k_is); (case k => k_is)
    case d_values_in =>
      refine' Wh.defAt_mk KX G ?a ?l ?c ?k
      (case a => k_is); (case l => k_is); (case c => k_is); (case k => k_is)
    case d_l_values =>
      refine' Wh.defAt_mk KX G ?a ?l ?c ?k
      (case a => k_is); (case l => k_is); (case c => k_is); (case k => k_is)
    case d_joined_head =>
      refine' Wh.defAt_mk KX G ?a ?l ?c ?k
      (case a => k_is); (case l => k_is); (case c => k_is); (case k => k_is)
    case d_join_rows =>
      refine' Wh.defAt_mk KX G ?a ?l ?c ?k
      (case a => k_is); (case l => k_is); (case c => k_is); (case k => k_is)
    case d_columns_told =>
      refine' Wh.defAt_mk KX G ?a ?l ?c ?k
      (case a => k_is); (case l => k_is); (case c => k_is); (case k => k_is)
    case d_is_passed =>
      refine' Wh.defAt_mk KX G ?a ?l ?c ?k
      (case a => k_is); (case l => k_is); (case c => k_is); (case k => k_is)
    case d_l_passes =>
      refine' Wh.defAt_mk KX G ?a ?l ?c ?k
      (case a => k_is); (case l => k_is); (case c => k_is); (case k => k_is)
    case d_ask_columns =>
      refine' Wh.defAt_mk KX G ?a ?l ?c ?k
      (case a => k_is); (case l => k_is); (case c => k_is); (case k => k_is)
    case d_passes =>
      refine' Wh.defAt_mk KX G ?a ?l ?c ?k
      (case a => k_is); (case l => k_is); (case c => k_is); (case k => k_is)
    case d_columns_of =>
      refine' Wh.defAt_mk KX G ?a ?l ?c ?k
      (case a => k_is); (case l => k_is); (case c => k_is); (case k => k_is)
    case d_pick_head =>
      refine' Wh.defAt_mk KX G ?a ?l ?c ?k
      (case a => k_is); (case l => k_is); (case c => k_is); (case k => k_is)
    case d_kept_head =>
      refine' Wh.defAt_mk KX G ?a ?l ?c ?k
      (case a => k_is); (case l => k_is); (case c => k_is); (case k => k_is)
    case d_called_head =>
      refine' Wh.defAt_mk KX G ?a ?l ?c ?k
      (case a => k_is); (case l => k_is); (case c => k_is); (case k => k_is)
    case d_together_head =>
      refine' Wh.defAt_mk KX G ?a ?l ?c ?k
      (case a => k_is); (case l => k_is); (case c => k_is); (case k => k_is)
    case d_head_of =>
      refine' Wh.defAt_mk KX G ?a ?l ?c ?k
      (case a => k_is); (case l => k_is); (case c => k_is); (case k => k_is)
    case d_replaced =>
      refine' Wh.defAt_mk KX G ?a ?l ?c ?k
      (case a => k_is); (case l => k_is); (case c => k_is); (case k => k_is)
    case d_unrolled =>
      refine' Wh.defAt_mk KX G ?a ?l ?c ?k
      (case a => k_is); (case l => k_is); (case c => k_is); (case k => k_is)
    case d_ring_unrolled =>
      refine' Wh.defAt_mk KX G ?a ?l ?c ?k
      (case a => k_is); (case l => k_is); (case c => k_is); (case k => k_is)
    case d_leaves =>
      refine' Wh.defAt_mk KX G ?a ?l ?c ?k
      (case a => k_is); (case l => k_is); (case c => k_is); (case k => k_is)
    case d_l_leaves =>
      refine' Wh.defAt_mk KX G ?a ?l ?c ?k
      (case a => k_is); (case l => k_is); (case c => k_is); (case k => k_is)
    case d_tree_product =>
      refine' Wh.defAt_mk KX G ?a ?l ?c ?k
      (case a => k_is); (case l => k_is); (case c => k_is); (case k => k_is)
    case d_l_brings =>
      refine' Wh.defAt_mk KX G ?a ?l ?c ?k
      (case a => k_is); (case l => k_is); (case c => k_is); (case k => k_is)
    case d_l_brings_join =>
      refine' Wh.defAt_mk KX G ?a ?l ?c ?k
      (case a => k_is); (case l => k_is); (case c => k_is); (case k => k_is)
    case d_l_brings_put =>
      refine' Wh.defAt_mk KX G ?a ?l ?c ?k
      (case a => k_is); (case l => k_is); (case c => k_is); (case k => k_is)
    case d_l_climb =>
      refine' Wh.defAt_mk KX G ?a ?l ?c ?k
      (case a => k_is); (case l => k_is); (case c => k_is); (case k => k_is)
    case d_l_spoiled =>
      refine' Wh.defAt_mk KX G ?a ?l ?c ?k
      (case a => k_is); (case l => k_is); (case c => k_is); (case k => k_is)
    case d_head_under =>
      refine' Wh.defAt_mk KX G ?a ?l ?c ?k
      (case a => k_is); (case l => k_is); (case c => k_is); (case k => k_is)
    case d_walk_table =>
      refine' Wh.defAt_mk KX G ?a ?l ?c ?k
      (case a => k_is); (case l => k_is); (case c => k_is); (case k => k_is)
    case d_walk =>
      refine' Wh.defAt_mk KX G ?a ?l ?c ?k
      (case a => k_is); (case l => k_is); (case c => k_is); (case k => k_is)
    case d_walk_join =>
      refine' Wh.defAt_mk KX G ?a ?l ?c ?k
      (case a => k_is); (case l => k_is); (case c => k_is); (case k => k_is)
    case d_walk_put =>
      refine' Wh.defAt_mk KX G ?a ?l ?c ?k
      (case a => k_is); (case l => k_is); (case c => k_is); (case k => k_is)
    case d_brought =>
      refine' Wh.defAt_mk KX G ?a ?l ?c ?k
      (case a => k_is); (case l => k_is); (case c => k_is); (case k => k_is)
    case d_l_cell_at =>
      refine' Wh.defAt_mk KX G ?a ?l ?c ?k
      (case a => k_is); (case l => k_is); (case c => k_is); (case k => k_is)
    case d_l_stream =>
      refine' Wh.defAt_mk KX G ?a ?l ?c ?k
      (case a => k_is); (case l => k_is); (case c => k_is); (case k => k_is)
    case d_l_pool =>
      refine' Wh.defAt_mk KX G ?a ?l ?c ?k
      (case a => k_is); (case l => k_is); (case c => k_is); (case k => k_is)
    case d_l_words =>
      refine' Wh.defAt_mk KX G ?a ?l ?c ?k
      (case a => k_is); (case l => k_is); (case c => k_is); (case k => k_is)
    case d_l_heads =>
      refine' Wh.defAt_mk KX G ?a ?l ?c ?k
      (case a => k_is); (case l => k_is); (case c => k_is); (case k => k_is)
    case d_l_bent =>
      refine' Wh.defAt_mk KX G ?a ?l ?c ?k
      (case a => k_is); (case l => k_is); (case c => k_is); (case k => k_is)
    case d_l_test =>
      refine' Wh.defAt_mk KX G ?a ?l ?c ?k
      (case a => k_is); (case l => k_is); (case c => k_is); (case k => k_is)
    case d_l_both =>
      refine' Wh.defAt_mk KX G ?a ?l ?c ?k
      (case a => k_is); (case l => k_is); (case c => k_is); (case k => k_is)
    case d_l_step =>
      refine' Wh.defAt_mk KX G ?a ?l ?c ?k
      (case a => k_is); (case l => k_is); (case c => k_is); (case k => k_is)
    case d_l_ring =>
      refine' Wh.defAt_mk KX G ?a ?l ?c ?k
      (case a => k_is); (case l => k_is); (case c => k_is); (case k => k_is)
    case d_l_wider =>
      refine' Wh.defAt_mk KX G ?a ?l ?c ?k
      (case a => k_is); (case l => k_is); (case c => k_is); (case k => k_is)
    case d_l_put =>
      refine' Wh.defAt_mk KX G ?a ?l ?c ?k
      (case a => k_is); (case l => k_is); (case c => k_is); (case k => k_is)
    case d_l_more =>
      refine' Wh.defAt_mk KX G ?a ?l ?c ?k
      (case a => k_is); (case l => k_is); (case c => k_is); (case k => k_is)
    case d_l_question =>
      refine' Wh.defAt_mk KX G ?a ?l ?c ?k
      (case a => k_is); (case l => k_is); (case c => k_is); (case k => k_is)
    case d_l_world =>
      refine' Wh.defAt_mk KX G ?a ?l ?c ?k
      (case a => k_is); (case l => k_is); (case c => k_is); (case k => k_is)
    case d_l_stand =>
      refine' Wh.defAt_mk KX G ?a ?l ?c ?k
      (case a => k_is); (case l => k_is); (case c => k_is); (case k => k_is)
    case d_l_store =>
      refine' Wh.defAt_mk KX G ?a ?l ?c ?k
      (case a => k_is); (case l => k_is); (case c => k_is); (case k => k_is)
    case d_l_right =>
      refine' Wh.defAt_mk KX G ?a ?l ?c ?k
      (case a => k_is); (case l => k_is); (case c => k_is); (case k => k_is)
