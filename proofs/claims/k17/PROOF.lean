import PyProof.Rows.All
import Wide.All
import OpenK.AllK
import Wide.FinOn
import KE.KStateDown
import HandS.ForMost
import HandS.Style
import HandS.IsInst
import HandS.Zip
import HandS.TupAny
import HandS.Wide
import HandS.Walk
import HandS.Defaults
import HandS.Lambda
import HandS.Deep
import HandS.SortInts
import KE.GoesMore
import KE.GoesEnum
import KE.GoesZip
import HandS.TryOnly
import HandS.EndBits
import HandS.HeadEnd
import HandS.Head0
import HandS.Head1
import HandS.Head2
import HandS.HeadHook1
import HandS.HeadHook2
import HandS.ExcIs
import KE.KNest
import KE.KDictPairs
import HandS.More
import HandS.TupMul
import PyProof.DictUpdate
import HandS.DictComp
import HandS.Conv
import HandS.SetFor
import KE.DataFind
import HandS.SortRule
import HandS.SortOrd
import KE.KRevSl
import PyProof.SumWalkG
import HandS.ExcOwn
import HandS.TryMany
import PyProof.ExcBaseAll.Exception
import HandS.EndTab
import PySem.Challenge.RW_cutsumsways_k17_whole_what_nets_tell
set_option Elab.async false
set_option linter.all false
set_option maxRecDepth 100000
set_option maxHeartbeats 0
set_option autoImplicit false
namespace DL
open PySem PySem.Spec PyProof.Rows L2

/-! ### tuples whose object is known: of the builtin type, with no dict -/
def TupO (o : Obj) (vs : List V) : Prop := ∃ (its : List Value) (n : Nat), Vals vs its ∧ o = { cls := .type "tuple", data := .seq its.toArray n }
/-- a tuple as HO -/
def tupS (u : HO) (vs : List V) : Prop := ∃ o, u = .frz o (.tup vs) ∧ TupO o vs
theorem tupS_ok {P : Program} {w : World} {H : Hp} {h : Heap} {a : Addr} {vs : List V} {its : List Value} (hz : vs.length ≤ sizeLine) (r : Vals vs its) (e : h.get? a = some { cls := .type "tuple", data := .seq its.toArray }) :
    ObjOk P w H h a (.frz { cls := .type "tuple", data := .seq its.toArray } (.tup vs)) :=
  ⟨e, hz, its, r, ⟨_, e, rfl, _, rfl⟩⟩
section
variable {X : Cx}
/-- what a new tuple must do -/
def NewT (vs : List V) (H : Hp) (Q : VK) : Prop := ∀ p u, H p = none → tupS u vs → Q (.ref p) (upd H p u)
theorem NewT.put {pins : List (Addr × Obj)} {σ : L2.St} {H : Hp} {s : Shared} {vs : List V} {its : List Value} {Q : VK} (I : Inv X pins σ H s) (hz : vs.length ≤ sizeLine) (r : Vals vs its) (q : NewT vs H Q) :
    EP X pins σ Q (.ref s.heap.objs.size) { s with heap := s.heap.push { cls := .type "tuple", data := .seq its.toArray } } := by
  refine ⟨.ref s.heap.objs.size, _, I.laid (t' := s.toks) (fun b ob e => Heap.get?_push_of_some _ e) (Nat.le_refl _) (tupS_ok hz r (Heap.get?_push_size _ rfl)), rfl, q _ _ (I.hok.fresh (Nat.le_refl _)) ⟨_, rfl, its, _, r, rfl⟩⟩
def tTupS (t : TA) : TE := fun σ H Q => t σ H fun xs H1 => xs.length ≤ sizeLine ∧ NewT xs H1 Q
theorem pe_tupS {es : List Expr} {t : TA} {n : Nat} {pos : Pos} (h : PA X es t) : PE X (.Tuple es n pos) (tTupS t) := by
  refine ⟨fun pins s σ H Q I hq => ?_⟩
  exact wpAny_Tuple_spliced (thn (h.run pos pins s σ H _ I hq) fun us s1 ⟨xs, H1, I1, r, z, q⟩ => ⟨by rw [← r.length]; exact z, q.put I1 z r⟩)
theorem call_tuple_ofS : CallR X (.type "tuple") (fun xs H Q => ∃ p ys, xs = [.ref p] ∧ ((SqL X.K H p ys ∧ NewT ys H Q) ∨ (SqT X.K H p ys ∧ Q (.ref p) H))) := by
  intro pins s σ H xs us Q I r h
  obtain ⟨p, ys, rfl, h⟩ := h
  rcases h with ⟨hq, q⟩ | ⟨hq, q⟩
  · obtain ⟨u, rfl, rx⟩ := vals1 r
    cases rx
    obtain ⟨its, r', pl, hz⟩ := I.list hq
    have hlen := r'.length
    refine call_tuple_list pl.isList (fun h' kp => ?_) (by simp only [List.size_toArray] <;> omega)
    exact q.put (I.kept (t' := s.toks) kp : Inv X pins σ H { s with heap := h' }) hz r'
  · exact call_tuple_of pins s σ H _ _ Q I r ⟨p, ys, rfl, .inr ⟨hq, q⟩⟩
def rCatS (K : PySem.W.Frag) : R2 := fun x y H Q => ∃ a b xs ys, x = .ref a ∧ y = .ref b ∧ SqT K H a xs ∧ SqT K H b ys ∧ xs.length + ys.length ≤ sizeLine ∧
  (xs = [] → Q (.ref b) H) ∧ (xs ≠ [] → ys = [] → Q (.ref a) H) ∧ (xs ≠ [] → ys ≠ [] → NewT (xs ++ ys) H Q)
theorem op_catS : OpR X (binaryOp .Add) (rCatS X.K) := by
  intro pins s σ H x y v u Q I rx ry h
  obtain ⟨a, b, xs, ys, rfl, rfl, ha, hb, hz, q0, q1, q2⟩ := h
  by_cases hx : xs = []
  · exact op_catA pins s σ H _ _ v u Q I rx ry ⟨a, b, xs, ys, rfl, rfl, ha, hb, hz, q0, fun z => absurd hx z, fun z => absurd hx z⟩
  · obtain ⟨its, r1, p1, _⟩ := I.tuple ha
    obtain ⟨its2, r2, p2, _⟩ := I.tuple hb
    cases rx
    cases ry
    exact HT.cat_tup p1 p2 (fun z => hx (r1.nil_iff.mp z)) (fun z => ⟨.ref a, H, I, rfl, q1 hx (r2.nil_iff.mp z)⟩)
      (fun z => (q2 hx fun w => z (r2.nil_iff.mpr w)).put I (by rw [List.length_append]; exact hz) (r1.append r2)) (by rw [← r1.length, ← r2.length]; exact hz)
def rSlS (K : PySem.W.Frag) : V → Option Int → Option Int → Hp → VK → Prop := fun x lo hi H Q => ∃ a xs, x = .ref a ∧ SqT K H a xs ∧
  (HT.sIx xs.length 0 lo = 0 ∧ HT.sIx xs.length xs.length hi = xs.length → Q (.ref a) H) ∧ (¬ (HT.sIx xs.length 0 lo = 0 ∧ HT.sIx xs.length xs.length hi = xs.length) → NewT (cutV xs lo hi) H Q)
theorem sl_tupS : SlR X (rSlS X.K) := by
  intro pins s σ H x v vl vu lo hi sl Q I rx hs pl pu h
  obtain ⟨a, xs, rfl, hx, q1, q2⟩ := h
  by_cases hw : HT.sIx xs.length 0 lo = 0 ∧ HT.sIx xs.length xs.length hi = xs.length
  · exact sl_tupA pins s σ H _ v vl vu lo hi sl Q I rx hs pl pu ⟨a, xs, rfl, hx, q1, fun z => absurd hw z⟩
  · obtain ⟨its, r, ht, hz⟩ := I.tuple hx
    have hlen : its.toArray.size = xs.length := by rw [List.size_toArray]; exact r.length.symm
    cases rx
    refine ⟨"tuple", _, PyProof.Rows.slot_tuple_getitem.lookup, ht.typeIs, HT.getItem_tuple_cut ht hs pl pu (by rw [hlen]; exact hw) ?_ (by rw [hlen]; exact hz)⟩
    rw [hlen]
    exact (q2 hw).put I (Nat.le_trans (cutV_length xs lo hi) hz) ((r.drop _).take _)
end
end DL
namespace DL
open PySem PySem.Spec PyProof.Rows L2

/-! ### plain data -/
inductive D where
  | non | bl (b : Bool) | int (i : Int) | str (x : Str) | tup (ds : List D) | lst (ds : List D) | dct (ks : List Key) (ds : List D)
  /-- a list that is known to others (the script) -/
  | scr (ds : List D)

/-- a tuple that stands in the text's own part -/
def WrT (K : PySem.W.Frag) (a : Addr) (vs : List V) : Prop :=
  ∃ (o : Obj) (its : Array Value) (n : Nat), K.lookup a = some o ∧ o.cls = .type "tuple" ∧ o.data = .seq its n ∧ its.size ≤ sizeLine ∧ Vals vs its.toList ∧ o.dict = none
def FzT (K : PySem.W.Frag) (F : Addr → Prop) (H : Hp) (a : Addr) (vs : List V) : Prop := (F a ∧ ∃ u, H a = some u ∧ tupS u vs) ∨ WrT K a vs
def FzL (F : Addr → Prop) (H : Hp) (a : Addr) (vs : List V) : Prop := F a ∧ H a = some (.lst vs)
def FzS (K : PySem.W.Frag) (F : Addr → Prop) (H : Hp) (a : Addr) (vs : List V) : Prop := (F a ∧ Rd H a (.lst vs)) ∨
    ∃ (o : Obj) (its : Array Value) (n : Nat), K.lookup a = some o ∧ o.cls = .type "list" ∧ o.dict = none ∧ o.data = .seq its n ∧ its.size ≤ sizeLine ∧ Vals vs its.toList

mutual
def Rp (K : PySem.W.Frag) (F : Addr → Prop) (H : Hp) : D → V → Prop
  | .non, v => v = .non
  | .bl b, v => v = .bl b
  | .int i, v => v = .int i
  | .str x, v => v = .str x
  | .tup ds, v => ∃ a vs, v = .ref a ∧ FzT K F H a vs ∧ RpAll K F H ds vs
  | .lst ds, v => ∃ a vs, v = .ref a ∧ FzL F H a vs ∧ RpAll K F H ds vs
  | .dct ks ds, v => ∃ a vs, v = .ref a ∧ F a ∧ Rd H a (.dK (ks.zip vs)) ∧ RpAll K F H ds vs ∧ ks.length = ds.length
  | .scr ds, v => ∃ a vs, v = .ref a ∧ FzS K F H a vs ∧ RpAll K F H ds vs
def RpAll (K : PySem.W.Frag) (F : Addr → Prop) (H : Hp) : List D → List V → Prop
  | [], vs => vs = []
  | d :: ds, vs => ∃ v r, vs = v :: r ∧ Rp K F H d v ∧ RpAll K F H ds r
end

/-- no table of code objects -/
def NT : Option HO → Prop
  | some (.tbl _) => False
  | _ => True
/-- the frozen ones stay frozen and as they are (but tables) -/
def Ext (F : Addr → Prop) (H : Hp) (F' : Addr → Prop) (H' : Hp) : Prop := (∀ a, F a → NT (H a) → F' a) ∧ ∀ a, F a → NT (H a) → H' a = H a
theorem Ext.refl {F : Addr → Prop} {H : Hp} : Ext F H F H := ⟨fun _ h _ => h, fun _ _ _ => rfl⟩
theorem Ext.trans {F F1 F2 : Addr → Prop} {H H1 H2 : Hp} (a : Ext F H F1 H1) (b : Ext F1 H1 F2 H2) : Ext F H F2 H2 :=
  ⟨fun x h n => b.1 x (a.1 x h n) (by rw [a.2 x h n]; exact n), fun x h n => (b.2 x (a.1 x h n) (by rw [a.2 x h n]; exact n)).trans (a.2 x h n)⟩

section
variable {K : PySem.W.Frag} {F F' : Addr → Prop} {H H' : Hp}
theorem FzT.ext {a : Addr} {vs : List V} (h : FzT K F H a vs) (e : Ext F H F' H') : FzT K F' H' a vs := by
  rcases h with ⟨f, u, g, t⟩ | h
  · have n : NT (H a) := by
      rw [g]
      obtain ⟨o, rfl, _⟩ := t
      trivial
    exact .inl ⟨e.1 a f n, u, (e.2 a f n).trans g, t⟩
  · exact .inr h
theorem FzL.ext {a : Addr} {vs : List V} (h : FzL F H a vs) (e : Ext F H F' H') : FzL F' H' a vs := by
  obtain ⟨f, g⟩ := h
  have n : NT (H a) := by rw [g]; trivial
  exact ⟨e.1 a f n, (e.2 a f n).trans g⟩
theorem FzS.ext {a : Addr} {vs : List V} (h : FzS K F H a vs) (e : Ext F H F' H') : FzS K F' H' a vs := by
  rcases h with ⟨f, g⟩ | h
  · rcases g with g | ⟨o, g⟩
    · have n : NT (H a) := by rw [g]; trivial
      exact .inl ⟨e.1 a f n, .inl ((e.2 a f n).trans g)⟩
    · have n : NT (H a) := by rw [g]; trivial
      exact .inl ⟨e.1 a f n, .inr ⟨o, (e.2 a f n).trans g⟩⟩
  · exact .inr h
mutual
theorem Rp.ext (e : Ext F H F' H') : ∀ (d : D) (v : V), Rp K F H d v → Rp K F' H' d v
  | .non, v, h => by unfold Rp at h ⊢; exact h
  | .bl b, v, h => by unfold Rp at h ⊢; exact h
  | .int i, v, h => by unfold Rp at h ⊢; exact h
  | .str x, v, h => by unfold Rp at h ⊢; exact h
  | .tup ds, v, h => by
    unfold Rp at h ⊢
    obtain ⟨a, vs, h1, h2, h3⟩ := h
    exact ⟨a, vs, h1, h2.ext e, RpAll.ext e ds vs h3⟩
  | .lst ds, v, h => by
    unfold Rp at h ⊢
    obtain ⟨a, vs, h1, h2, h3⟩ := h
    exact ⟨a, vs, h1, h2.ext e, RpAll.ext e ds vs h3⟩
  | .dct ks ds, v, h => by
    unfold Rp at h ⊢
    obtain ⟨a, vs, h1, h2, h3, h4, h5⟩ := h
    have n : NT (H a) := by
      rcases h3 with h3 | ⟨o, h3⟩ <;> (rw [h3]; trivial)
    exact ⟨a, vs, h1, e.1 a h2 n, (by unfold Rd at h3 ⊢; rw [e.2 a h2 n]; exact h3), RpAll.ext e ds vs h4, h5⟩
  | .scr ds, v, h => by
    unfold Rp at h ⊢
    obtain ⟨a, vs, h1, h2, h3⟩ := h
    exact ⟨a, vs, h1, h2.ext e, RpAll.ext e ds vs h3⟩
theorem RpAll.ext (e : Ext F H F' H') : ∀ (ds : List D) (vs : List V), RpAll K F H ds vs → RpAll K F' H' ds vs
  | [], vs, h => by unfold RpAll at h ⊢; exact h
  | d :: ds, vs, h => by
    unfold RpAll at h ⊢
    obtain ⟨v, r, h1, h2, h3⟩ := h
    exact ⟨v, r, h1, Rp.ext e d v h2, RpAll.ext e ds r h3⟩
end
theorem RpAll.nil : RpAll K F H [] [] := by unfold RpAll; rfl
theorem RpAll.cons {d : D} {ds : List D} {v : V} {vs : List V} (h1 : Rp K F H d v) (h2 : RpAll K F H ds vs) : RpAll K F H (d :: ds) (v :: vs) := by
  unfold RpAll; exact ⟨v, vs, rfl, h1, h2⟩
theorem RpAll.len : ∀ {ds : List D} {vs : List V}, RpAll K F H ds vs → vs.length = ds.length
  | [], vs, h => by unfold RpAll at h; subst h; rfl
  | d :: ds, vs, h => by
    unfold RpAll at h
    obtain ⟨v, r, rfl, _, h3⟩ := h
    simp [h3.len]
theorem RpAll.get : ∀ {ds : List D} {vs : List V} {i : Nat} {d : D}, RpAll K F H ds vs → ds[i]? = some d → ∃ v, vs[i]? = some v ∧ Rp K F H d v
  | [], _, _, _, _, e => by simp at e
  | d :: ds, vs, 0, d', h, e => by
    unfold RpAll at h
    obtain ⟨v, r, rfl, h2, _⟩ := h
    simp at e; subst e
    exact ⟨v, rfl, h2⟩
  | d :: ds, vs, i + 1, d', h, e => by
    unfold RpAll at h
    obtain ⟨v, r, rfl, _, h3⟩ := h
    obtain ⟨u, h4, h5⟩ := RpAll.get (i := i) (d := d') h3 (by simpa using e)
    exact ⟨u, by simpa using h4, h5⟩
theorem RpAll.getV {ds : List D} {vs : List V} {i : Nat} {v : V} (h : RpAll K F H ds vs) (e : vs[i]? = some v) : ∃ d, ds[i]? = some d ∧ Rp K F H d v := by
  have hl := h.len
  have hi : i < vs.length := (List.getElem?_eq_some_iff.mp e).1
  have hi' : i < ds.length := by omega
  obtain ⟨u, h4, h5⟩ := h.get (List.getElem?_eq_getElem hi')
  rw [e] at h4; cases h4
  exact ⟨_, List.getElem?_eq_getElem hi', h5⟩
theorem RpAll.append : ∀ {ds es : List D} {vs us : List V}, RpAll K F H ds vs → RpAll K F H es us → RpAll K F H (ds ++ es) (vs ++ us)
  | [], es, vs, us, h, g => by unfold RpAll at h; subst h; exact g
  | d :: ds, es, vs, us, h, g => by
    unfold RpAll at h
    obtain ⟨v, r, rfl, h2, h3⟩ := h
    exact RpAll.cons h2 (RpAll.append h3 g)
theorem RpAll.take : ∀ (n : Nat) {ds : List D} {vs : List V}, RpAll K F H ds vs → RpAll K F H (ds.take n) (vs.take n)
  | 0, _, _, _ => by simpa using RpAll.nil
  | n + 1, [], vs, h => by unfold RpAll at h; subst h; simpa using RpAll.nil
  | n + 1, d :: ds, vs, h => by
    unfold RpAll at h
    obtain ⟨v, r, rfl, h2, h3⟩ := h
    exact RpAll.cons h2 (RpAll.take n h3)
theorem RpAll.drop : ∀ (n : Nat) {ds : List D} {vs : List V}, RpAll K F H ds vs → RpAll K F H (ds.drop n) (vs.drop n)
  | 0, _, _, h => h
  | n + 1, [], vs, h => by unfold RpAll at h; subst h; simpa using RpAll.nil
  | n + 1, d :: ds, vs, h => by
    unfold RpAll at h
    obtain ⟨v, r, rfl, h2, h3⟩ := h
    exact RpAll.drop n h3
theorem RpAll.set : ∀ (i : Nat) {ds : List D} {vs : List V} {d : D} {v : V}, RpAll K F H ds vs → Rp K F H d v → RpAll K F H (ds.set i d) (vs.set i v)
  | _, [], vs, _, _, h, _ => by unfold RpAll at h; subst h; simpa using RpAll.nil
  | 0, d :: ds, vs, _, _, h, g => by
    unfold RpAll at h
    obtain ⟨v, r, rfl, h2, h3⟩ := h
    exact RpAll.cons g h3
  | i + 1, d :: ds, vs, _, _, h, g => by
    unfold RpAll at h
    obtain ⟨v, r, rfl, h2, h3⟩ := h
    exact RpAll.cons h2 (RpAll.set i h3 g)
theorem FzT.sq {a : Addr} {vs : List V} (h : FzT K F H a vs) : SqT K H a vs := by
  rcases h with ⟨_, u, g, o, rfl, _⟩ | ⟨o, its, n, h1, h2, h3, h4, h5, _⟩
  · exact .inl (.inr ⟨o, g⟩)
  · exact .inr ⟨o, its, n, h1, h2, h3, h4, h5⟩
theorem FzL.sq {a : Addr} {vs : List V} (h : FzL F H a vs) : SqL K H a vs := .inl (.inl h.2)
theorem FzS.sq {a : Addr} {vs : List V} (h : FzS K F H a vs) : SqL K H a vs := by
  rcases h with ⟨_, g⟩ | g
  · exact .inl g
  · exact .inr g
end

/-! ### states -/
/-- what a name holds: nothing, data, an own list (nobody else knows it), an own dict, the k-th list that was handed in to be changed -/
inductive Sl where
  | no | pu (d : D) | ol (ds : List D) | od (kvs : List (Key × D)) | io (k : Nat) (ds : List D)
  /-- the exception caught, at a -/
  | ex (a : Addr)
/-- what an expression is worth: data, a new list, a new dict, the thing at a name -/
inductive Rv where
  | pu (d : D) | ol (ds : List D) | od (kvs : List (Key × D)) | al (i : Nat)
abbrev Sg := List Sl
/-- what stays through a def's body: the written part, the heap at the entry, what was frozen there, the lists handed in, what is held aside -/
structure Bs where
  K : PySem.W.Frag
  H0 : Hp
  F0 : Addr → Prop
  io : List Addr
  pn : List (Addr × HO)
  T : List (Addr × Str) := []

/-- what may be rewritten: no table, nothing told by a predicate -/
def LoD (o : HO) : Prop := (∀ ps, o ≠ .tbl ps) ∧ ∀ φ, o ≠ .ext φ
theorem tab_keep {T : List (Addr × Str)} {H H' : Hp} (t : LamX.Tabs T H) (k : ∀ b o, H b = some o → ¬ LoD o → H' b = some o) : LamX.Tabs T H' := fun p hp => by
  obtain ⟨ps, h1, h2, h3⟩ := t p hp
  refine ⟨ps, k _ _ h1 (fun z => z.1 _ rfl), h2, fun pos cv hc => ?_⟩
  obtain ⟨c, e1, e2⟩ := h3 pos cv hc
  exact ⟨c, e1, k _ _ e2 (fun z => z.2 _ rfl)⟩
theorem tab_upd {T : List (Addr × Str)} {H : Hp} {a : Addr} {o o' : HO} (t : LamX.Tabs T H) (h : H a = some o) (l : LoD o) : LamX.Tabs T (upd H a o') := tab_keep t fun b u hb n => by
  by_cases e : b = a
  · subst e; rw [h] at hb; cases hb; exact absurd l n
  · rw [upd_ne e]; exact hb
def Sl.own : Sl → Bool
  | .ol _ => true
  | .od _ => true
  | .io _ _ => true
  | _ => false
def ownAt (S : Sg) (i : Nat) : Bool := match S[i]? with
  | some s => s.own
  | none => false
/-- an own thing at v -/
def RelC (B : Bs) (F : Addr → Prop) (H : Hp) : Sl → V → Prop
  | .no, _ => True
  | .pu d, v => Rp B.K F H d v
  | .ol ds, v => ∃ a vs, v = .ref a ∧ H a = some (.lst vs) ∧ ¬ F a ∧ B.H0 a = none ∧ RpAll B.K F H ds vs
  | .od kvs, v => ∃ a vs, v = .ref a ∧ H a = some (.dK ((kvs.map (·.1)).zip vs)) ∧ ¬ F a ∧ B.H0 a = none ∧ RpAll B.K F H (kvs.map (·.2)) vs
  | .ex a, v => v = .ref a
  | .io k ds, v => ∃ a vs, v = .ref a ∧ B.io[k]? = some a ∧ H a = some (.lst vs) ∧ ¬ F a ∧ RpAll B.K F H ds vs

structure Rel (B : Bs) (F : Addr → Prop) (σ : L2.St) (H : Hp) (S : Sg) : Prop where
  len : σ.length = S.length
  sl : ∀ (i : Nat) (s : Sl), S[i]? = some s → s = .no ∨ ∃ v, σ[i]? = some (some v) ∧ RelC B F H s v
  dist : ∀ (i j : Nat) (v : V), ownAt S i = true → ownAt S j = true → σ[i]? = some (some v) → σ[j]? = some (some v) → i = j
  keep : ∀ b o, B.H0 b = some o → b ∉ B.io → H b = some o
  ios : ∀ b ∈ B.io, H b ≠ none
  frz : ∀ a, F a → B.F0 a ∨ B.H0 a = none
  dom : ∀ a, F a → H a ≠ none
  iof : ∀ b ∈ B.io, ¬ B.F0 b ∧ B.H0 b ≠ none
  pns : ∀ p ∈ B.pn, H p.1 = some p.2 ∧ ¬ F p.1 ∧ p.1 ∉ B.io ∧ ∀ (j : Nat), ownAt S j = true → σ[j]? ≠ some (some (.ref p.1))
  tab : LamX.Tabs B.T H
  pnl : ∀ p ∈ B.pn, LoD p.2

/-- nobody else knows a -/
def Fresh (B : Bs) (F : Addr → Prop) (σ : L2.St) (S : Sg) (a : Addr) : Prop :=
  ¬ F a ∧ B.H0 a = none ∧ a ∉ B.io ∧ (∀ p ∈ B.pn, p.1 ≠ a) ∧ ∀ (j : Nat), ownAt S j = true → σ[j]? ≠ some (some (.ref a))
def RelRv (B : Bs) (F : Addr → Prop) (σ : L2.St) (H : Hp) (S : Sg) : Rv → V → Prop
  | .pu d, v => Rp B.K F H d v
  | .ol ds, v => ∃ a vs, v = .ref a ∧ H a = some (.lst vs) ∧ Fresh B F σ S a ∧ RpAll B.K F H ds vs
  | .od kvs, v => ∃ a vs, v = .ref a ∧ H a = some (.dK ((kvs.map (·.1)).zip vs)) ∧ Fresh B F σ S a ∧ RpAll B.K F H (kvs.map (·.2)) vs
  | .al i, v => σ[i]? = some (some v)

section
variable {B : Bs} {F F' : Addr → Prop} {σ : L2.St} {H H' : Hp} {S : Sg}
theorem ownAt_some {i : Nat} (h : ownAt S i = true) : ∃ s, S[i]? = some s ∧ s.own = true := by
  unfold ownAt at h
  cases e : S[i]? with
  | none => rw [e] at h; cases h
  | some s => rw [e] at h; exact ⟨s, rfl, h⟩
theorem ownAt_set {i j : Nat} {s : Sl} : ownAt (S.set i s) j = if i = j ∧ i < S.length then s.own else ownAt S j := by
  unfold ownAt
  by_cases h : i = j
  · subst h
    by_cases hl : i < S.length
    · rw [List.getElem?_set_self hl, if_pos ⟨rfl, hl⟩]
    · rw [if_neg fun z => hl z.2, List.set_eq_of_length_le (by omega)]
  · rw [List.getElem?_set_ne h, if_neg fun z => h z.1]
/-- the address of an own thing -/
theorem Rel.ownA (R : Rel B F σ H S) {i : Nat} (h : ownAt S i = true) : ∃ a o, σ[i]? = some (some (.ref a)) ∧ H a = some o ∧ ¬ F a ∧ (B.H0 a = none ∨ a ∈ B.io) ∧ (∀ xs, o ≠ .tup xs) := by
  obtain ⟨s, e, o⟩ := ownAt_some h
  rcases R.sl i s e with rfl | ⟨v, e1, r⟩
  · cases o
  · cases s with
    | no => cases o
    | pu d => cases o
    | ex a => cases o
    | ol ds => obtain ⟨a, vs, rfl, h1, h2, h3, _⟩ := r; exact ⟨a, _, e1, h1, h2, .inl h3, fun _ z => nomatch z⟩
    | od kvs => obtain ⟨a, vs, rfl, h1, h2, h3, _⟩ := r; exact ⟨a, _, e1, h1, h2, .inl h3, fun _ z => nomatch z⟩
    | io k ds => obtain ⟨a, vs, rfl, h0, h1, h2, _⟩ := r; exact ⟨a, _, e1, h1, h2, .inr (List.mem_of_getElem? h0), fun _ z => nomatch z⟩
theorem Rel.ownLD (R : Rel B F σ H S) {i : Nat} (h : ownAt S i = true) : ∃ a o, σ[i]? = some (some (.ref a)) ∧ H a = some o ∧ LoD o := by
  obtain ⟨s, e, o⟩ := ownAt_some h
  rcases R.sl i s e with rfl | ⟨v, e1, r⟩
  · cases o
  · cases s with
    | no => cases o
    | pu d => cases o
    | ex a => cases o
    | ol ds => obtain ⟨a, vs, rfl, h1, _⟩ := r; exact ⟨a, _, e1, h1, ⟨(fun _ z => nomatch z), (fun _ z => nomatch z)⟩⟩
    | od kvs => obtain ⟨a, vs, rfl, h1, _⟩ := r; exact ⟨a, _, e1, h1, ⟨(fun _ z => nomatch z), (fun _ z => nomatch z)⟩⟩
    | io k ds => obtain ⟨a, vs, rfl, h0, h1, _⟩ := r; exact ⟨a, _, e1, h1, ⟨(fun _ z => nomatch z), (fun _ z => nomatch z)⟩⟩
/-- a content carried over: its own object as it was -/
theorem RelC.ext {s : Sl} {v : V} (h : RelC B F H s v) (e : Ext F H F' H') (nf : s.own = true → ∀ a, v = .ref a → ¬ F' a) (k : s.own = true → ∀ a, v = .ref a → H' a = H a) : RelC B F' H' s v := by
  cases s with
  | no => trivial
  | pu d => exact Rp.ext e d v h
  | ex a => exact h
  | ol ds => obtain ⟨a, vs, rfl, h1, h2, h3, h4⟩ := h; exact ⟨a, vs, rfl, (k rfl a rfl).trans h1, nf rfl a rfl, h3, RpAll.ext e _ _ h4⟩
  | od kvs => obtain ⟨a, vs, rfl, h1, h2, h3, h4⟩ := h; exact ⟨a, vs, rfl, (k rfl a rfl).trans h1, nf rfl a rfl, h3, RpAll.ext e _ _ h4⟩
  | io k' ds => obtain ⟨a, vs, rfl, h0, h1, h2, h4⟩ := h; exact ⟨a, vs, rfl, h0, (k rfl a rfl).trans h1, nf rfl a rfl, RpAll.ext e _ _ h4⟩
/-- the heap grew, own things stand -/
theorem Rel.grow (R : Rel B F σ H S) (e : Ext F H F' H') (hk : ∀ b o, H b = some o → H' b = some o) (hf : ∀ a, F' a → F a ∨ H a = none) (hd : ∀ a, F' a → H' a ≠ none) : Rel B F' σ H' S := by
  have none0 : ∀ a, H a = none → B.H0 a = none := fun a ha => by
    cases q : B.H0 a with
    | none => rfl
    | some o =>
      by_cases hi : a ∈ B.io
      · exact absurd ha (R.ios a hi)
      · rw [R.keep a o q hi] at ha; cases ha
  refine ⟨R.len, fun i s hs => ?_, R.dist, fun b o h1 h2 => hk b o (R.keep b o h1 h2), fun b hb => ?_, fun a ha => ?_, hd, R.iof, fun p hp => ?_, tab_keep R.tab fun b o e _ => hk b o e, R.pnl⟩
  · rcases R.sl i s hs with z | ⟨v, e1, r⟩
    · exact .inl z
    · refine .inr ⟨v, e1, r.ext e (fun o a ea fa => ?_) fun o a ea => ?_⟩
      · obtain ⟨a', ob, e2, e3, e4, _⟩ := R.ownA (i := i) (by unfold ownAt; rw [hs]; exact o)
        rw [e1, ea] at e2; cases e2
        rcases hf a fa with z | z
        · exact e4 z
        · rw [z] at e3; cases e3
      · obtain ⟨a', ob, e2, e3, e4, _⟩ := R.ownA (i := i) (by unfold ownAt; rw [hs]; exact o)
        rw [e1, ea] at e2; cases e2
        rw [e3]; exact hk _ _ e3
  · cases q : H b with
    | none => exact absurd q (R.ios b hb)
    | some o => rw [hk b o q]; exact fun z => nomatch z
  · rcases hf a ha with z | z
    · exact R.frz a z
    · exact .inr (none0 a z)
  · obtain ⟨h1, h2, h3, h4⟩ := R.pns p hp
    exact ⟨hk _ _ h1, (fun z => (hf _ z).elim h2 fun y => by (rw [h1] at y; cases y)), h3, h4⟩
theorem Rel.none0 (R : Rel B F σ H S) {a : Addr} (ha : H a = none) : B.H0 a = none := by
  cases q : B.H0 a with
  | none => rfl
  | some o =>
    by_cases hi : a ∈ B.io
    · exact absurd ha (R.ios a hi)
    · rw [R.keep a o q hi] at ha; cases ha
theorem Rel.freshNone (R : Rel B F σ H S) {a : Addr} (ha : H a = none) : Fresh B F σ S a := by
  refine ⟨fun z => R.dom a z ha, R.none0 ha, fun z => R.ios a z ha, fun p hp z => ?_, fun j hj z => ?_⟩
  · have := (R.pns p hp).1; rw [z, ha] at this; cases this
  · obtain ⟨a', o, e1, e2, _⟩ := R.ownA hj
    rw [e1] at z; cases z
    rw [ha] at e2; cases e2
/-- a new object -/
theorem Rel.alloc (R : Rel B F σ H S) {p : Addr} {o : HO} (hp : H p = none) : Ext F H F (upd H p o) ∧ Rel B F σ (upd H p o) S ∧ Fresh B F σ S p ∧ upd H p o p = some o := by
  have hk : ∀ b u, H b = some u → upd H p o b = some u := fun b u e => by rw [upd_ne (ne_of_none e hp)]; exact e
  have ex : Ext F H F (upd H p o) := ⟨fun _ h _ => h, fun a ha _ => upd_ne fun z => R.dom a ha (by rw [z]; exact hp)⟩
  exact ⟨ex, R.grow ex hk (fun a ha => .inl ha) fun a ha => by
    rw [upd_ne fun z => R.dom a ha (by rw [z]; exact hp)]; exact R.dom a ha, R.freshNone hp, upd_same⟩
/-- .. that is frozen at once -/
def Fz (F : Addr → Prop) (p : Addr) : Addr → Prop := fun a => F a ∨ a = p
theorem Rel.freeze (R : Rel B F σ H S) {p : Addr} (hf : Fresh B F σ S p) (hp : H p ≠ none) : Ext F H (Fz F p) H ∧ Rel B (Fz F p) σ H S := by
  have ex : Ext F H (Fz F p) H := ⟨fun _ h _ => .inl h, fun _ _ _ => rfl⟩
  refine ⟨ex, R.len, fun i s hs => ?_, R.dist, R.keep, R.ios, fun a ha => ?_, fun a ha => ?_, R.iof, fun q hq => ?_, R.tab, R.pnl⟩
  · rcases R.sl i s hs with z | ⟨v, e1, r⟩
    · exact .inl z
    · refine .inr ⟨v, e1, r.ext ex (fun o a ea fa => ?_) fun _ _ _ => rfl⟩
      have ow : ownAt S i = true := by unfold ownAt; rw [hs]; exact o
      rcases fa with fa | fa
      · obtain ⟨a', ob, e2, e3, e4, _⟩ := R.ownA ow
        rw [e1, ea] at e2; cases e2
        exact e4 fa
      · subst fa
        exact hf.2.2.2.2 i ow (by rw [e1, ea])
  · rcases ha with ha | rfl
    · exact R.frz a ha
    · exact .inr hf.2.1
  · rcases ha with ha | rfl
    · exact R.dom a ha
    · exact hp
  · obtain ⟨h1, h2, h3, h4⟩ := R.pns q hq
    exact ⟨h1, fun z => z.elim h2 (hf.2.2.2.1 q hq), h3, h4⟩
theorem Rel.allocF (R : Rel B F σ H S) {p : Addr} {o : HO} (hp : H p = none) : Ext F H (Fz F p) (upd H p o) ∧ Rel B (Fz F p) σ (upd H p o) S := by
  obtain ⟨e1, R1, f1, q⟩ := R.alloc (o := o) hp
  obtain ⟨e2, R2⟩ := R1.freeze f1 (by rw [q]; exact fun z => nomatch z)
  exact ⟨e1.trans e2, R2⟩
/-- a name is stored -/
theorem Rel.store (R : Rel B F σ H S) {i : Nat} {s : Sl} {v : V} (hc : RelC B F H s v) (hf : s.own = true → ∀ a, v = .ref a → (∀ p ∈ B.pn, p.1 ≠ a) ∧ ∀ (j : Nat), j ≠ i → ownAt S j = true → σ[j]? ≠ some (some (.ref a))) (hr : s.own = true → ∃ a, v = .ref a) :
    Rel B F (σ.set i (some v)) H (S.set i s) := by
  have key : ∀ a b, a ≠ b → ownAt (S.set i s) a = true → ownAt (S.set i s) b = true → ∀ u, (σ.set i (some v))[a]? = some (some u) → (σ.set i (some v))[b]? = some (some u) → a = b := by
    intro a b ne ha hb u ea eb
    exfalso
    rw [ownAt_set] at ha hb
    by_cases h1 : i = a ∧ i < S.length
    · obtain ⟨rfl, hl⟩ := h1
      rw [if_pos ⟨rfl, hl⟩] at ha
      rw [if_neg fun z => ne z.1] at hb
      rw [List.getElem?_set_self (by rw [R.len]; exact hl)] at ea
      rw [List.getElem?_set_ne ne] at eb
      cases ea
      obtain ⟨q, rfl⟩ := hr ha
      exact (hf ha q rfl).2 b (Ne.symm ne) hb eb
    · rw [if_neg h1] at ha
      by_cases h2 : i = b ∧ i < S.length
      · obtain ⟨rfl, hl⟩ := h2
        rw [if_pos ⟨rfl, hl⟩] at hb
        rw [List.getElem?_set_self (by rw [R.len]; exact hl)] at eb
        rw [List.getElem?_set_ne (Ne.symm ne)] at ea
        cases eb
        obtain ⟨q, rfl⟩ := hr hb
        exact (hf hb q rfl).2 a ne ha ea
      · rw [if_neg h2] at hb
        have o1 : (σ.set i (some v))[a]? = σ[a]? := by
          by_cases z : i = a
          · subst z
            rw [List.set_eq_of_length_le (by rw [R.len]; exact Nat.le_of_not_lt fun z2 => h1 ⟨rfl, z2⟩)]
          · exact List.getElem?_set_ne z
        have o2 : (σ.set i (some v))[b]? = σ[b]? := by
          by_cases z : i = b
          · subst z
            rw [List.set_eq_of_length_le (by rw [R.len]; exact Nat.le_of_not_lt fun z2 => h2 ⟨rfl, z2⟩)]
          · exact List.getElem?_set_ne z
        rw [o1] at ea; rw [o2] at eb
        exact ne (R.dist a b u ha hb ea eb)
  refine ⟨by simp [R.len], fun j t ht => ?_, fun a b u ha hb ea eb => ?_, R.keep, R.ios, R.frz, R.dom, R.iof, fun p hp => ?_, R.tab, R.pnl⟩
  · by_cases h : i = j
    · subst h
      have hl : i < S.length := by
        have := (List.getElem?_eq_some_iff.mp ht).1; simpa using this
      rw [List.getElem?_set_self hl] at ht; cases ht
      exact .inr ⟨v, List.getElem?_set_self (by rw [R.len]; exact hl), hc⟩
    · rw [List.getElem?_set_ne h] at ht ⊢
      exact R.sl j t ht
  · by_cases ne : a = b
    · exact ne
    · exact key a b ne ha hb u ea eb
  · obtain ⟨h1, h2, h3, h4⟩ := R.pns p hp
    refine ⟨h1, h2, h3, fun j hj => ?_⟩
    rw [ownAt_set] at hj
    by_cases z : i = j ∧ i < S.length
    · obtain ⟨rfl, hl⟩ := z
      rw [if_pos ⟨rfl, hl⟩] at hj
      rw [List.getElem?_set_self (by rw [R.len]; exact hl)]
      intro q
      have e : v = .ref p.1 := Option.some.inj (Option.some.inj q)
      exact (hf hj p.1 e).1 p hp rfl
    · rw [if_neg z] at hj
      have o1 : (σ.set i (some v))[j]? = σ[j]? := by
        by_cases w : i = j
        · subst w
          rw [List.set_eq_of_length_le (by rw [R.len]; exact Nat.le_of_not_lt fun z2 => z ⟨rfl, z2⟩)]
        · exact List.getElem?_set_ne w
      rw [o1]
      exact h4 j hj
/-- a name is forgotten, or told less of -/
theorem Rel.weak (R : Rel B F σ H S) {S' : Sg} (hl : S'.length = S.length) (h : ∀ (i : Nat) (s : Sl), S'[i]? = some s → s = .no ∨ S[i]? = some s ∨ (s.own = false ∧ ∃ v, σ[i]? = some (some v) ∧ RelC B F H s v)) : Rel B F σ H S' := by
  have ow : ∀ j, ownAt S' j = true → ownAt S j = true := fun j hj => by
    obtain ⟨s, e, o⟩ := ownAt_some hj
    rcases h j s e with rfl | z | ⟨z, _⟩
    · cases o
    · unfold ownAt; rw [z]; exact o
    · rw [z] at o; cases o
  refine ⟨R.len.trans hl.symm, fun i s hs => ?_, fun a b u ha hb => R.dist a b u (ow a ha) (ow b hb), R.keep, R.ios, R.frz, R.dom, R.iof, fun p hp => ?_, R.tab, R.pnl⟩
  · rcases h i s hs with z | z | ⟨_, z⟩
    · exact .inl z
    · exact R.sl i s z
    · exact .inr z
  · obtain ⟨h1, h2, h3, h4⟩ := R.pns p hp
    exact ⟨h1, h2, h3, fun j hj => h4 j (ow j hj)⟩
/-- the own thing at a name is frozen -/
theorem Rel.freezeAt (R : Rel B F σ H S) {i : Nat} {a : Addr} {d : D} (ho : ownAt S i = true) (he : σ[i]? = some (some (.ref a))) (h0 : B.H0 a = none) (hr : Rp B.K (Fz F a) H d (.ref a)) :
    Ext F H (Fz F a) H ∧ Rel B (Fz F a) σ H (S.set i (.pu d)) := by
  obtain ⟨a', o, e1, e2, e3, e4, _⟩ := R.ownA ho
  rw [he] at e1; cases e1
  have hl : i < S.length := by
    obtain ⟨s, e, _⟩ := ownAt_some ho
    exact (List.getElem?_eq_some_iff.mp e).1
  have nio : a ∉ B.io := fun z => (R.iof a z).2 h0
  have R1 : Rel B F σ H (S.set i .no) := R.weak (by simp) fun j s hs => by
    by_cases z : i = j
    · subst z; rw [List.getElem?_set_self hl] at hs; cases hs; exact .inl rfl
    · rw [List.getElem?_set_ne z] at hs; exact .inr (.inl hs)
  have fr : Fresh B F σ (S.set i .no) a := ⟨e3, h0, nio, fun p hp z => (R.pns p hp).2.2.2 i ho (by rw [z]; exact he), fun j hj z => by
    rw [ownAt_set] at hj
    by_cases w : i = j ∧ i < S.length
    · rw [if_pos w] at hj; cases hj
    · rw [if_neg w] at hj
      have := R.dist i j _ ho hj he z
      exact w ⟨this, hl⟩⟩
  obtain ⟨ex, R2⟩ := R1.freeze fr (by rw [e2]; exact fun z => nomatch z)
  refine ⟨ex, R2.weak (by simp) fun j s hs => ?_⟩
  by_cases z : i = j
  · subst z
    rw [List.getElem?_set_self hl] at hs; cases hs
    exact .inr (.inr ⟨rfl, _, he, hr⟩)
  · rw [List.getElem?_set_ne z] at hs ⊢
    exact .inr (.inl hs)
/-- the own object at a name is rewritten -/
theorem Rel.write (R : Rel B F σ H S) {i : Nat} {a : Addr} {s s' : Sl} {o : HO} (hs : S[i]? = some s) (ho : s.own = true) (ho' : s'.own = true) (he : σ[i]? = some (some (.ref a))) (hc : RelC B F (upd H a o) s' (.ref a)) :
    Ext F H F (upd H a o) ∧ Rel B F σ (upd H a o) (S.set i s') := by
  have ow : ownAt S i = true := by unfold ownAt; rw [hs]; exact ho
  obtain ⟨a', o', e1, e2, e3, e4, _⟩ := R.ownA ow
  rw [he] at e1; cases e1
  have hl : i < S.length := (List.getElem?_eq_some_iff.mp hs).1
  have ne : ∀ b, F b → b ≠ a := fun b hb z => e3 (z ▸ hb)
  have ex : Ext F H F (upd H a o) := ⟨fun _ h _ => h, fun b hb _ => upd_ne (ne b hb)⟩
  have os : ∀ j, ownAt (S.set i s') j = ownAt S j := fun j => by
    rw [ownAt_set]
    by_cases w : i = j ∧ i < S.length
    · rw [if_pos w, ho', ← w.1, ow]
    · rw [if_neg w]
  refine ⟨ex, by simp [R.len], fun j t ht => ?_, fun x y u hx hy => R.dist x y u (by rw [os] at hx; exact hx) (by rw [os] at hy; exact hy), fun b u h1 h2 => ?_, fun b hb => ?_, R.frz, fun b hb => ?_, R.iof, fun p hp => ?_, ?_, R.pnl⟩
  · by_cases z : i = j
    · subst z
      rw [List.getElem?_set_self hl] at ht; cases ht
      exact .inr ⟨_, he, hc⟩
    · rw [List.getElem?_set_ne z] at ht
      rcases R.sl j t ht with q | ⟨v, e, r⟩
      · exact .inl q
      · refine .inr ⟨v, e, r.ext ex (fun o2 b eb fb => ?_) fun o2 b eb => ?_⟩
        · obtain ⟨b', ob, f1, f2, f3, _⟩ := R.ownA (i := j) (by unfold ownAt; rw [ht]; exact o2)
          rw [e, eb] at f1; cases f1
          exact f3 fb
        · have oj : ownAt S j = true := by unfold ownAt; rw [ht]; exact o2
          refine upd_ne fun w => z ?_
          subst w
          exact R.dist i j _ ow oj he (by rw [e, eb])
  · rcases e4 with z | z
    · have : b ≠ a := fun w => by rw [w, z] at h1; cases h1
      rw [upd_ne this]; exact R.keep b u h1 h2
    · have : b ≠ a := fun w => h2 (w ▸ z)
      rw [upd_ne this]; exact R.keep b u h1 h2
  · by_cases z : b = a
    · rw [z, upd_same]; exact fun w => nomatch w
    · rw [upd_ne z]; exact R.ios b hb
  · rw [upd_ne (ne b hb)]; exact R.dom b hb
  · obtain ⟨h1, h2, h3, h4⟩ := R.pns p hp
    have : p.1 ≠ a := fun z => h4 i ow (by rw [z]; exact he)
    refine ⟨by rw [upd_ne this]; exact h1, h2, h3, fun j hj => h4 j (by rw [os] at hj; exact hj)⟩
  · obtain ⟨a2, o2, f1, f2, f3⟩ := R.ownLD ow
    rw [he] at f1; cases f1
    exact tab_upd R.tab f2 f3
end
end DL
namespace DL
open PySem PySem.Spec PyProof.Rows L2

/-! ### what is told of code: denotations -/
abbrev Den := Sg → (Rv → Sg → Prop) → Prop
abbrev DenA := Sg → (List Rv → Sg → Prop) → Prop
abbrev DenB := Sg → (Bool → Sg → Prop) → Prop

/-- the data that is there -/
def rdS : Sl → Option D
  | .pu d => some d
  | .ol ds => some (.lst ds)
  | .od kvs => some (.dct (kvs.map (·.1)) (kvs.map (·.2)))
  | .io _ ds => some (.lst ds)
  | .ex _ => none
  | .no => none
def rd (S : Sg) : Rv → Option D
  | .pu d => some d
  | .ol ds => some (.lst ds)
  | .od kvs => some (.dct (kvs.map (·.1)) (kvs.map (·.2)))
  | .al i => match S[i]? with
    | some s => rdS s
    | none => none
/-- kept while other things are worked out: a new thing is data from then on -/
def hold : Rv → Rv
  | .ol ds => .pu (.lst ds)
  | .od kvs => .pu (.dct (kvs.map (·.1)) (kvs.map (·.2)))
  | r => r
/-- as data, the name that holds it told so -/
def frc (S : Sg) : Rv → Option (D × Sg)
  | .pu d => some (d, S)
  | .ol ds => some (.lst ds, S)
  | .od kvs => some (.dct (kvs.map (·.1)) (kvs.map (·.2)), S)
  | .al i => match S[i]? with
    | some (.pu d) => some (d, S)
    | some (.ol ds) => some (.lst ds, S.set i (.pu (.lst ds)))
    | some (.od kvs) => some (.dct (kvs.map (·.1)) (kvs.map (·.2)), S.set i (.pu (.dct (kvs.map (·.1)) (kvs.map (·.2)))))
    | _ => none
def frcs (S : Sg) : List Rv → Option (List D × Sg)
  | [] => some ([], S)
  | r :: rs => match frc S r with
    | some (d, S1) => (match frcs S1 rs with
      | some (ds, S2) => some (d :: ds, S2)
      | none => none)
    | none => none

def Bs.p (B : Bs) (P : List (Addr × HO)) : Bs := { B with pn := P }
def tD (B : Bs) (dt : Den) : TE := fun σ H Q => ∃ P F S QQ, Rel (B.p P) F σ H S ∧ dt S QQ ∧ ∀ rv S', QQ rv S' → ∀ v H' F', Ext F H F' H' → Rel (B.p P) F' σ H' S' → RelRv (B.p P) F' σ H' S' rv v → Q v H'
def RelH (B : Bs) (F : Addr → Prop) (σ : L2.St) (H : Hp) : Rv → V → Prop
  | .pu d, v => Rp B.K F H d v
  | .al i, v => σ[i]? = some (some v)
  | _, _ => False
def RelHs (B : Bs) (F : Addr → Prop) (σ : L2.St) (H : Hp) : List Rv → List V → Prop
  | [], vs => vs = []
  | r :: rs, vs => ∃ v us, vs = v :: us ∧ RelH B F σ H r v ∧ RelHs B F σ H rs us
def tDA (B : Bs) (da : DenA) : TA := fun σ H Q => ∃ P F S QQ, Rel (B.p P) F σ H S ∧ da S QQ ∧ ∀ rvs S', QQ rvs S' → ∀ vs H' F', Ext F H F' H' → Rel (B.p P) F' σ H' S' → RelHs (B.p P) F' σ H' rvs vs → Q vs H'
def tDT (B : Bs) (db : DenB) : TT := fun σ H Q => ∃ P F S QQ, Rel (B.p P) F σ H S ∧ db S QQ ∧ ∀ b S', QQ b S' → ∀ H' F', Ext F H F' H' → Rel (B.p P) F' σ H' S' → Q b H'

section
variable {X : Cx} {e a b : Expr} {t t' : TE}
theorem PE_imp (h : PE X e t) (i : ∀ σ H Q, t' σ H Q → t σ H Q) : PE X e t' := ⟨fun pins s σ H Q I w => h.run pins s σ H Q I (i σ H Q w)⟩
theorem PT_imp {t t' : TT} (h : PT X e t) (i : ∀ σ H Q, t' σ H Q → t σ H Q) : PT X e t' := ⟨fun pins s σ H Q I w => h.run pins s σ H Q I (i σ H Q w)⟩
theorem PA_imp {es : List Expr} {t t' : TA} (h : PA X es t) (i : ∀ σ H Q, t' σ H Q → t σ H Q) : PA X es t' := ⟨fun pos pins s σ H Q I w => h.run pos pins s σ H Q I (i σ H Q w)⟩
end

section
variable {B : Bs} {F F' : Addr → Prop} {σ : L2.St} {H H' : Hp} {S S' : Sg}
theorem Fresh.zf {a : Addr} (f : Fresh B F σ S a) : B.H0 a = none := f.2.1
/-- held -/
theorem hold_ok (R : Rel B F σ H S) {rv : Rv} {v : V} (r : RelRv B F σ H S rv v) : ∃ F', Ext F H F' H ∧ Rel B F' σ H S ∧ RelH B F' σ H (hold rv) v := by
  cases rv with
  | pu d => exact ⟨F, Ext.refl, R, r⟩
  | al i => exact ⟨F, Ext.refl, R, r⟩
  | ol ds =>
    obtain ⟨a, vs, rfl, h1, f, h2⟩ := r
    obtain ⟨e, R'⟩ := R.freeze f (by rw [h1]; exact fun z => nomatch z)
    refine ⟨_, e, R', ?_⟩
    show Rp _ _ _ (.lst ds) _
    unfold Rp
    exact ⟨a, vs, rfl, ⟨.inr rfl, h1⟩, RpAll.ext e _ _ h2⟩
  | od kvs =>
    obtain ⟨a, vs, rfl, h1, f, h2⟩ := r
    obtain ⟨e, R'⟩ := R.freeze f (by rw [h1]; exact fun z => nomatch z)
    refine ⟨_, e, R', ?_⟩
    show Rp _ _ _ (.dct (kvs.map (·.1)) (kvs.map (·.2))) _
    unfold Rp
    exact ⟨a, vs, rfl, .inr rfl, .inl h1, RpAll.ext e _ _ h2, by simp⟩
theorem RelH.ext {rv : Rv} {v : V} (h : RelH B F σ H rv v) (e : Ext F H F' H') : RelH B F' σ H' rv v := by
  cases rv with
  | pu d => exact Rp.ext e d v h
  | al i => exact h
  | ol ds => exact h
  | od kvs => exact h
theorem RelHs.ext {rvs : List Rv} {vs : List V} (h : RelHs B F σ H rvs vs) (e : Ext F H F' H') : RelHs B F' σ H' rvs vs := by
  induction rvs generalizing vs with
  | nil => exact h
  | cons r rs ih =>
    obtain ⟨v, us, rfl, h1, h2⟩ := h
    exact ⟨v, us, rfl, h1.ext e, ih h2⟩
theorem RelH.rv {rv : Rv} {v : V} (h : RelH B F σ H rv v) : RelRv B F σ H S rv v := by
  cases rv with
  | pu d => exact h
  | al i => exact h
  | ol ds => exact h.elim
  | od kvs => exact h.elim
/-- the content of what is there, whether frozen or not -/
def RpT (K : PySem.W.Frag) (F : Addr → Prop) (H : Hp) : D → V → Prop
  | .lst ds, v => ∃ a vs, v = .ref a ∧ H a = some (.lst vs) ∧ RpAll K F H ds vs
  | .dct ks ds, v => ∃ a vs, v = .ref a ∧ Rd H a (.dK (ks.zip vs)) ∧ RpAll K F H ds vs ∧ ks.length = ds.length
  | d, v => Rp K F H d v
theorem Rp.t {K : PySem.W.Frag} {d : D} {v : V} (h : Rp K F H d v) : RpT K F H d v := by
  cases d with
  | lst ds => unfold Rp at h; obtain ⟨a, vs, h1, h2, h3⟩ := h; exact ⟨a, vs, h1, h2.2, h3⟩
  | dct ks ds => unfold Rp at h; obtain ⟨a, vs, h1, h2, h3, h4, h5⟩ := h; exact ⟨a, vs, h1, h3, h4, h5⟩
  | _ => exact h
theorem RelC.t {s : Sl} {d : D} {v : V} (h : RelC B F H s v) (e : rdS s = some d) : RpT B.K F H d v := by
  cases s with
  | no => cases e
  | ex a => cases e
  | pu d' => cases e; exact Rp.t h
  | ol ds => cases e; obtain ⟨a, vs, h1, h2, _, _, h3⟩ := h; exact ⟨a, vs, h1, h2, h3⟩
  | od kvs => cases e; obtain ⟨a, vs, h1, h2, _, _, h3⟩ := h; exact ⟨a, vs, h1, .inl h2, h3, by simp⟩
  | io k ds => cases e; obtain ⟨a, vs, h1, _, h2, _, h3⟩ := h; exact ⟨a, vs, h1, h2, h3⟩
theorem RelRv.t (R : Rel B F σ H S) {rv : Rv} {v : V} {d : D} (h : RelRv B F σ H S rv v) (e : rd S rv = some d) : RpT B.K F H d v := by
  cases rv with
  | pu d' => cases e; exact Rp.t h
  | ol ds => cases e; obtain ⟨a, vs, h1, h2, _, h3⟩ := h; exact ⟨a, vs, h1, h2, h3⟩
  | od kvs => cases e; obtain ⟨a, vs, h1, h2, _, h3⟩ := h; exact ⟨a, vs, h1, .inl h2, h3, by simp⟩
  | al i =>
    unfold rd at e
    dsimp only at e
    cases q : S[i]? with
    | none => rw [q] at e; cases e
    | some s =>
      rw [q] at e
      rcases R.sl i s q with rfl | ⟨u, h1, h2⟩
      · cases e
      · have h' : σ[i]? = some (some v) := h
        rw [h1] at h'; cases h'
        exact h2.t e
theorem RelRv.frc (R : Rel B F σ H S) {rv : Rv} {v : V} {d : D} (h : RelRv B F σ H S rv v) (e : frc S rv = some (d, S')) : ∃ F', Ext F H F' H ∧ Rel B F' σ H S' ∧ Rp B.K F' H d v := by
  cases rv with
  | pu d' => cases e; exact ⟨F, Ext.refl, R, h⟩
  | ol ds => cases e; exact hold_ok R h
  | od kvs => cases e; exact hold_ok R h
  | al i =>
    have h' : σ[i]? = some (some v) := h
    unfold DL.frc at e
    dsimp only at e
    cases q : S[i]? with
    | none => rw [q] at e; cases e
    | some s =>
      rw [q] at e
      rcases R.sl i s q with rfl | ⟨u, h1, h2⟩
      · cases e
      · rw [h1] at h'; cases h'
        cases s with
        | no => cases e
        | pu d' => cases e; exact ⟨F, Ext.refl, R, h2⟩
        | ol ds =>
          cases e
          obtain ⟨a, vs, rfl, g1, g2, g3, g4⟩ := h2
          have ex : Ext F H (Fz F a) H := ⟨fun _ h _ => .inl h, fun _ _ _ => rfl⟩
          have rp : Rp B.K (Fz F a) H (.lst ds) (.ref a) := by
            unfold Rp; exact ⟨a, vs, rfl, ⟨.inr rfl, g1⟩, RpAll.ext ex _ _ g4⟩
          obtain ⟨e1, R1⟩ := R.freezeAt (i := i) (a := a) (by unfold ownAt; rw [q]; rfl) h1 g3 rp
          exact ⟨_, e1, R1, rp⟩
        | od kvs =>
          cases e
          obtain ⟨a, vs, rfl, g1, g2, g3, g4⟩ := h2
          have ex : Ext F H (Fz F a) H := ⟨fun _ h _ => .inl h, fun _ _ _ => rfl⟩
          have rp : Rp B.K (Fz F a) H (.dct (kvs.map (·.1)) (kvs.map (·.2))) (.ref a) := by
            unfold Rp; exact ⟨a, vs, rfl, .inr rfl, .inl g1, RpAll.ext ex _ _ g4, by simp⟩
          obtain ⟨e1, R1⟩ := R.freezeAt (i := i) (a := a) (by unfold ownAt; rw [q]; rfl) h1 g3 rp
          exact ⟨_, e1, R1, rp⟩
        | io k ds => cases e
        | ex a => cases e
theorem RelHs.frc (R : Rel B F σ H S) {rvs : List Rv} {vs : List V} {ds : List D} (h : RelHs B F σ H rvs vs) (e : frcs S rvs = some (ds, S')) : ∃ F', Ext F H F' H ∧ Rel B F' σ H S' ∧ RpAll B.K F' H ds vs := by
  induction rvs generalizing vs ds F S S' with
  | nil =>
    cases e
    have h' : vs = [] := h
    subst h'
    exact ⟨F, Ext.refl, R, RpAll.nil⟩
  | cons r rs ih =>
    obtain ⟨v, us, rfl, h1, h2⟩ := h
    unfold frcs at e
    cases q : DL.frc S r with
    | none => rw [q] at e; cases e
    | some p =>
      obtain ⟨d, S1⟩ := p
      rw [q] at e
      cases q2 : frcs S1 rs with
      | none => simp only [q2] at e; cases e
      | some p2 =>
        obtain ⟨ds', S2⟩ := p2
        simp only [q2] at e
        cases e
        obtain ⟨F1, e1, R1, r1⟩ := RelRv.frc R (RelH.rv h1) q
        obtain ⟨F2, e2, R2, r2⟩ := ih R1 (h2.ext e1) q2
        exact ⟨F2, e1.trans e2, R2, RpAll.cons (Rp.ext e2 _ _ r1) r2⟩
end

/-! ### constants and names -/
def dC (d : D) : Den := fun S Q => Q (.pu d) S
def dVar (i : Nat) : Den := fun S Q => match S[i]? with
  | some (.pu d) => Q (.pu d) S
  | some .no => False
  | some (.ex _) => False
  | some _ => Q (.al i) S
  | none => False
section
variable {X : Cx} {B : Bs} {pos : Pos}
theorem tD_C {d : D} {v : V} (h : ∀ F H, Rp B.K F H d v) : ∀ σ H Q, tD B (dC d) σ H Q → tC v σ H Q := by
  rintro σ H Q ⟨P, F, S, QQ, R, q, k⟩
  exact k _ _ q v H F Ext.refl R (h F H)
theorem de_int {i : Int} {j : Nat} : PE X (.Constant (.int i) j pos) (tD B (dC (.int i))) := PE_imp pe_int (tD_C fun F H => by unfold Rp; rfl)
theorem de_bl {i : Bool} {j : Nat} : PE X (.Constant (.bool i) j pos) (tD B (dC (.bl i))) := PE_imp pe_bl (tD_C fun F H => by unfold Rp; rfl)
theorem de_non {j : Nat} : PE X (.Constant .none j pos) (tD B (dC .non)) := PE_imp pe_non (tD_C fun F H => by unfold Rp; rfl)
theorem de_str {x : Str} {j : Nat} : PE X (.Constant (.str x) j pos) (tD B (dC (.str x))) := PE_imp pe_str (tD_C fun F H => by unfold Rp; rfl)
theorem de_glob {x : Str} {d : D} {v : V} {u : Value} (hg : Gl X x) (hm : X.mg x = some u) (r : RelV v u) (h : ∀ F H, Rp B.K F H d v) (hd : (x == ("__debug__" : Str)) = false := by decide) : PE X (.Name x pos) (tD B (dC d)) :=
  PE_imp (pe_glob hg hm r hd) (tD_C h)
theorem de_var (i : Nat) {x : Str} (hN : X.N[i]? = some x := by rfl) (hv : Vis X.env.scope x := by first | exact Or.inl rfl | exact Or.inr (Or.inl rfl) | exact Or.inr (Or.inr rfl)) (hd : (x == ("__debug__" : Str)) = false := by decide)
    (hcd : (x == ("__classdict__" : Str)) = false := by decide) : PE X (.Name x pos) (tD B (dVar i)) := by
  refine PE_imp (pe_var hN hv hd hcd) ?_
  rintro σ H Q ⟨P, F, S, QQ, R, q, k⟩
  unfold dVar at q
  cases e : S[i]? with
  | none => rw [e] at q; exact q.elim
  | some s =>
    rw [e] at q
    rcases R.sl i s e with rfl | ⟨v, h1, h2⟩
    · exact q.elim
    · cases s with
      | no => exact q.elim
      | ex a => exact q.elim
      | pu d => exact ⟨v, h1, k _ _ q v H F Ext.refl R h2⟩
      | ol ds => exact ⟨v, h1, k _ _ q v H F Ext.refl R h1⟩
      | od kvs => exact ⟨v, h1, k _ _ q v H F Ext.refl R h1⟩
      | io k' ds => exact ⟨v, h1, k _ _ q v H F Ext.refl R h1⟩
end

/-! ### operations on two things -/
abbrev Op2 := D → D → (Rv → Prop) → Prop
def dBin (o : Op2) (da db : Den) : Den := fun S Q => da S fun x S1 => db S1 fun y S2 => match rd S2 (hold x), rd S2 y with
  | some d, some e => o d e fun r => Q r S2
  | _, _ => False
/-- what an operation's rule has to give -/
def Op2Ok (X : Cx) (f : Value → Value → Sem Value) (o : Op2) : Prop := ∃ r : R2, OpR X f r ∧ ∀ (B : Bs) (F : Addr → Prop) (σ : L2.St) (H : Hp) (S : Sg) (d e : D) (x y : V) (QQ : Rv → Prop) (Q : VK), B.K = X.K → Rel B F σ H S → RpT B.K F H d x → RpT B.K F H e y → o d e QQ →
  (∀ rv, QQ rv → ∀ v H' F', Ext F H F' H' → Rel B F' σ H' S → RelRv B F' σ H' S rv v → Q v H') → r x y H Q
section
variable {X : Cx} {B : Bs} {pos : Pos} {a b c : Expr} {da db dc : Den}
theorem bin_run {o : Op2} {r : R2} (hB : B.K = X.K) (ho : ∀ (B : Bs) (F : Addr → Prop) (σ : L2.St) (H : Hp) (S : Sg) (d e : D) (x y : V) (QQ : Rv → Prop) (Q : VK), B.K = X.K → Rel B F σ H S → RpT B.K F H d x → RpT B.K F H e y → o d e QQ →
  (∀ rv, QQ rv → ∀ v H' F', Ext F H F' H' → Rel B F' σ H' S → RelRv B F' σ H' S rv v → Q v H') → r x y H Q) :
    ∀ σ H Q, tD B (dBin o da db) σ H Q → tOp r (tD B da) (tD B db) σ H Q := by
  rintro σ H Q ⟨P, F, S, QQ, R, q, k⟩
  refine ⟨P, F, S, _, R, q, fun x S1 q1 v1 H1 F1 e1 R1 r1 => ?_⟩
  obtain ⟨F1', e1', R1', r1'⟩ := hold_ok R1 r1
  refine ⟨P, F1', S1, _, R1', q1, fun y S2 q2 v2 H2 F2 e2 R2 r2 => ?_⟩
  have q2' : (match rd S2 (hold x), rd S2 y with
    | some d, some e => o d e fun r => QQ r S2
    | _, _ => False) := q2
  cases h1 : rd S2 (hold x) with
  | none => rw [h1] at q2'; exact q2'.elim
  | some d =>
    cases h2 : rd S2 y with
    | none => rw [h1, h2] at q2'; exact q2'.elim
    | some e =>
      rw [h1, h2] at q2'
      refine ho (B.p P) F2 σ H2 S2 d e v1 v2 _ Q hB R2 (RelRv.t R2 (RelH.rv (r1'.ext e2)) h1) (RelRv.t R2 r2 h2) q2' fun rv qr v H' F' e' R' r' => ?_
      exact k _ _ qr v H' F' ((e1.trans e1').trans (e2.trans e')) R' r'
theorem de_bin {op : Operator} {o : Op2} (ho : Op2Ok X (binaryOp op) o) (hB : B.K = X.K) (ha : PE X a (tD B da)) (hb : PE X b (tD B db)) : PE X (.BinOp a op b pos) (tD B (dBin o da db)) := by
  obtain ⟨r, h1, h2⟩ := ho
  exact PE_imp (pe_op h1 ha hb) (bin_run hB h2)
theorem de_cmp {op : CmpOp} {o : Op2} (ho : Op2Ok X (compareOp op) o) (hB : B.K = X.K) (ha : PE X a (tD B da)) (hb : PE X b (tD B db)) (hm : behindInMarks op b = false) : PE X (.Compare a [op] [b] pos) (tD B (dBin o da db)) := by
  obtain ⟨r, h1, h2⟩ := ho
  exact PE_imp (pe_cmpR h1 ha hb hm) (bin_run hB h2)

/-! ### tests -/
def dTest (da : Den) : DenB := fun S Q => da S fun x S1 => match x with
  | .pu (.bl b) => Q b S1
  | _ => False
theorem tD_test : ∀ σ H Q, tDT B (dTest da) σ H Q → tTest (tD B da) σ H Q := by
  rintro σ H Q ⟨P, F, S, QQ, R, q, k⟩
  refine ⟨P, F, S, _, R, q, fun x S1 q1 v1 H1 F1 e1 R1 r1 => ?_⟩
  cases x with
  | pu d =>
    cases d with
    | bl b =>
      have r1' : Rp B.K F1 H1 (.bl b) v1 := r1
      unfold Rp at r1'
      exact ⟨b, r1', k _ _ q1 H1 F1 e1 R1⟩
    | _ => exact q1.elim
  | _ => exact q1.elim
theorem dt_val (ha : PE X a (tD B da)) (he : ∀ whole, isTrue a X.env whole = (do let v ← whole; standAt a.pos; holding [v] (truthy v)) := by intro _; rfl) : PT X a (tDT B (dTest da)) :=
  PT_imp (pt_val ha he) tD_test
theorem dt_cmp {op : CmpOp} {o : Op2} (ho : Op2Ok X (compareOp op) o) (hB : B.K = X.K) (ha : PE X a (tD B da)) (hb : PE X b (tD B db)) (hm : behindInMarks op b = false) : PT X (.Compare a [op] [b] pos) (tDT B (dTest (dBin o da db))) := by
  obtain ⟨r, h1, h2⟩ := ho
  refine PT_imp (pt_cmpR h1 ha hb hm) fun σ H Q q => ?_
  exact bin_run hB h2 σ H _ (tD_test σ H Q q)
def dNot (d : DenB) : DenB := fun S Q => d S fun b S1 => Q (!b) S1
def dAnd (d e : DenB) : DenB := fun S Q => d S fun b S1 => if b = true then e S1 Q else Q false S1
def dOr (d e : DenB) : DenB := fun S Q => d S fun b S1 => if b = true then Q true S1 else e S1 Q
variable {ea eb : DenB} {rest : List Expr}
theorem dt_not (ha : PT X a (tDT B ea)) : PT X (.UnaryOp .Not a pos) (tDT B (dNot ea)) := by
  refine PT_imp (pt_not ha) ?_
  rintro σ H Q ⟨P, F, S, QQ, R, q, k⟩
  exact ⟨P, F, S, _, R, q, fun b S1 q1 H1 F1 e1 R1 => k _ _ q1 H1 F1 e1 R1⟩
theorem dw_and1 (ha : PT X a (tDT B ea)) : PW X (.BoolOp .And [a] pos) (tDT B ea) := pw_and1 ha
theorem dw_or1 (ha : PT X a (tDT B ea)) : PW X (.BoolOp .Or [a] pos) (tDT B ea) := pw_or1 ha
theorem PW_imp {e : Expr} {t t' : TT} (h : PW X e t) (i : ∀ σ H Q, t' σ H Q → t σ H Q) : PW X e t' := ⟨fun wh pins s σ H Q I w => h.run wh pins s σ H Q I (i σ H Q w)⟩
theorem dw_and (ha : PT X a (tDT B ea)) (hb : PW X (.BoolOp .And (b :: rest) pos) (tDT B eb)) : PW X (.BoolOp .And (a :: b :: rest) pos) (tDT B (dAnd ea eb)) := by
  refine PW_imp (pw_and ha hb) ?_
  rintro σ H Q ⟨P, F, S, QQ, R, q, k⟩
  refine ⟨P, F, S, _, R, q, fun b S1 q1 H1 F1 e1 R1 => ?_⟩
  have q1' : if b = true then eb S1 QQ else QQ false S1 := q1
  dsimp only
  by_cases hb' : b = true
  · rw [if_pos hb'] at q1' ⊢
    exact ⟨P, F1, S1, _, R1, q1', fun b2 S2 q2 H2 F2 e2 R2 => k _ _ q2 H2 F2 (e1.trans e2) R2⟩
  · rw [if_neg hb'] at q1' ⊢
    exact k _ _ q1' H1 F1 e1 R1
theorem dw_or (ha : PT X a (tDT B ea)) (hb : PW X (.BoolOp .Or (b :: rest) pos) (tDT B eb)) : PW X (.BoolOp .Or (a :: b :: rest) pos) (tDT B (dOr ea eb)) := by
  refine PW_imp (pw_or ha hb) ?_
  rintro σ H Q ⟨P, F, S, QQ, R, q, k⟩
  refine ⟨P, F, S, _, R, q, fun b S1 q1 H1 F1 e1 R1 => ?_⟩
  have q1' : if b = true then QQ true S1 else eb S1 QQ := q1
  dsimp only
  by_cases hb' : b = true
  · rw [if_pos hb'] at q1' ⊢
    exact k _ _ q1' H1 F1 e1 R1
  · rw [if_neg hb'] at q1' ⊢
    exact ⟨P, F1, S1, _, R1, q1', fun b2 S2 q2 H2 F2 e2 R2 => k _ _ q2 H2 F2 (e1.trans e2) R2⟩
/-! .. as values -/
def dAndV (da db : Den) : Den := fun S Q => da S fun x S1 => match x with
  | .pu (.bl b) => if b = true then db S1 Q else Q (.pu (.bl false)) S1
  | _ => False
def dOrV (da db : Den) : Den := fun S Q => da S fun x S1 => match x with
  | .pu (.bl b) => if b = true then Q (.pu (.bl true)) S1 else db S1 Q
  | _ => False
def dNotV (da : Den) : Den := fun S Q => da S fun x S1 => match x with
  | .pu (.bl b) => Q (.pu (.bl (!b))) S1
  | _ => False
theorem bl_of {F : Addr → Prop} {H : Hp} {i : Bool} {v : V} {K : PySem.W.Frag} (h : Rp K F H (.bl i) v) : v = .bl i := by unfold Rp at h; exact h
theorem int_of {F : Addr → Prop} {H : Hp} {i : Int} {v : V} {K : PySem.W.Frag} (h : Rp K F H (.int i) v) : v = .int i := by unfold Rp at h; exact h
theorem str_of {F : Addr → Prop} {H : Hp} {i : Str} {v : V} {K : PySem.W.Frag} (h : Rp K F H (.str i) v) : v = .str i := by unfold Rp at h; exact h
theorem non_of {F : Addr → Prop} {H : Hp} {v : V} {K : PySem.W.Frag} (h : Rp K F H .non v) : v = .non := by unfold Rp at h; exact h
theorem rp_bl {F : Addr → Prop} {H : Hp} {i : Bool} {K : PySem.W.Frag} : Rp K F H (.bl i) (.bl i) := by unfold Rp; rfl
theorem rp_int {F : Addr → Prop} {H : Hp} {i : Int} {K : PySem.W.Frag} : Rp K F H (.int i) (.int i) := by unfold Rp; rfl
theorem rp_str {F : Addr → Prop} {H : Hp} {i : Str} {K : PySem.W.Frag} : Rp K F H (.str i) (.str i) := by unfold Rp; rfl
theorem rv_bl {B : Bs} {F : Addr → Prop} {σ : L2.St} {H : Hp} {S : Sg} {i : Bool} : RelRv B F σ H S (.pu (.bl i)) (.bl i) := by show Rp B.K F H (.bl i) _; unfold Rp; rfl
theorem rv_bl_of {B : Bs} {F : Addr → Prop} {σ : L2.St} {H : Hp} {S : Sg} {i : Bool} {v : V} (h : RelRv B F σ H S (.pu (.bl i)) v) : v = .bl i := by
  have h : Rp B.K F H (.bl i) v := h
  unfold Rp at h
  exact h
theorem rv_int {B : Bs} {F : Addr → Prop} {σ : L2.St} {H : Hp} {S : Sg} {i : Int} : RelRv B F σ H S (.pu (.int i)) (.int i) := by show Rp B.K F H (.int i) _; unfold Rp; rfl
theorem rp_non {F : Addr → Prop} {H : Hp} {K : PySem.W.Frag} : Rp K F H .non .non := by unfold Rp; rfl
theorem de_not (ha : PE X a (tD B da)) : PE X (.UnaryOp .Not a pos) (tD B (dNotV da)) := by
  refine PE_imp (pe_not ha) ?_
  rintro σ H Q ⟨P, F, S, QQ, R, q, k⟩
  refine ⟨P, F, S, _, R, q, fun x S1 q1 v1 H1 F1 e1 R1 r1 => ?_⟩
  cases x with
  | pu d =>
    cases d with
    | bl b => exact ⟨b, rv_bl_of r1, k _ _ q1 _ H1 F1 e1 R1 rv_bl⟩
    | _ => exact q1.elim
  | _ => exact q1.elim
theorem de_one {op : PySem.BoolOp} (h : PE X a (tD B da)) : PE X (.BoolOp op [a] pos) (tD B da) := pe_one h
theorem de_and (ha : PE X a (tD B da)) (hb : PE X (.BoolOp .And (b :: rest) pos) (tD B db)) : PE X (.BoolOp .And (a :: b :: rest) pos) (tD B (dAndV da db)) := by
  refine PE_imp (pe_and ha hb) ?_
  rintro σ H Q ⟨P, F, S, QQ, R, q, k⟩
  refine ⟨P, F, S, _, R, q, fun x S1 q1 v1 H1 F1 e1 R1 r1 => ?_⟩
  cases x with
  | pu d =>
    cases d with
    | bl b =>
      refine ⟨b, rv_bl_of r1, ?_⟩
      have q1' : if b = true then db S1 QQ else QQ (.pu (.bl false)) S1 := q1
      by_cases hb' : b = true
      · rw [if_pos hb'] at q1' ⊢
        exact ⟨P, F1, S1, _, R1, q1', fun b2 S2 q2 v2 H2 F2 e2 R2 r2 => k _ _ q2 v2 H2 F2 (e1.trans e2) R2 r2⟩
      · rw [if_neg hb'] at q1' ⊢
        exact k _ _ q1' _ H1 F1 e1 R1 rv_bl
    | _ => exact q1.elim
  | _ => exact q1.elim
theorem de_or (ha : PE X a (tD B da)) (hb : PE X (.BoolOp .Or (b :: rest) pos) (tD B db)) : PE X (.BoolOp .Or (a :: b :: rest) pos) (tD B (dOrV da db)) := by
  refine PE_imp (pe_or ha hb) ?_
  rintro σ H Q ⟨P, F, S, QQ, R, q, k⟩
  refine ⟨P, F, S, _, R, q, fun x S1 q1 v1 H1 F1 e1 R1 r1 => ?_⟩
  cases x with
  | pu d =>
    cases d with
    | bl b =>
      refine ⟨b, rv_bl_of r1, ?_⟩
      have q1' : if b = true then QQ (.pu (.bl true)) S1 else db S1 QQ := q1
      by_cases hb' : b = true
      · rw [if_pos hb'] at q1' ⊢
        exact k _ _ q1' _ H1 F1 e1 R1 rv_bl
      · rw [if_neg hb'] at q1' ⊢
        exact ⟨P, F1, S1, _, R1, q1', fun b2 S2 q2 v2 H2 F2 e2 R2 r2 => k _ _ q2 v2 H2 F2 (e1.trans e2) R2 r2⟩
    | _ => exact q1.elim
  | _ => exact q1.elim
def dIf (t : DenB) (da db : Den) : Den := fun S Q => t S fun c S1 => if c = true then da S1 Q else db S1 Q
theorem de_ifExp (hc : PT X c (tDT B ea)) (ha : PE X a (tD B da)) (hb : PE X b (tD B db)) : PE X (.IfExp c a b pos) (tD B (dIf ea da db)) := by
  refine PE_imp (pe_ifExp hc ha hb) ?_
  rintro σ H Q ⟨P, F, S, QQ, R, q, k⟩
  refine ⟨P, F, S, _, R, q, fun c S1 q1 H1 F1 e1 R1 => ?_⟩
  have q1' : if c = true then da S1 QQ else db S1 QQ := q1
  dsimp only
  by_cases hb' : c = true
  · rw [if_pos hb'] at q1' ⊢
    exact ⟨P, F1, S1, _, R1, q1', fun b2 S2 q2 v2 H2 F2 e2 R2 r2 => k _ _ q2 v2 H2 F2 (e1.trans e2) R2 r2⟩
  · rw [if_neg hb'] at q1' ⊢
    exact ⟨P, F1, S1, _, R1, q1', fun b2 S2 q2 v2 H2 F2 e2 R2 r2 => k _ _ q2 v2 H2 F2 (e1.trans e2) R2 r2⟩
end

/-! ### lists of arguments, displays -/
def dNil : DenA := fun S Q => Q [] S
def dCons (d : Den) (r : DenA) : DenA := fun S Q => d S fun x S1 => r S1 fun xs S2 => Q (hold x :: xs) S2
def dTup (da : DenA) : Den := fun S Q => da S fun xs S1 => match frcs S1 xs with
  | some (ds, S2) => ds.length ≤ sizeLine ∧ Q (.pu (.tup ds)) S2
  | none => False
def dLst (da : DenA) : Den := fun S Q => da S fun xs S1 => match frcs S1 xs with
  | some (ds, S2) => ds.length ≤ sizeLine ∧ Q (.ol ds) S2
  | none => False
section
variable {X : Cx} {B : Bs} {pos : Pos} {e : Expr} {es : List Expr} {da : DenA} {d : Den}
theorem da_nil : PA X [] (tDA B dNil) := by
  refine PA_imp pa_nil ?_
  rintro σ H Q ⟨P, F, S, QQ, R, q, k⟩
  exact k _ _ q [] H F Ext.refl R rfl
theorem da_cons (h : PE X e (tD B d)) (hr : PA X es (tDA B da)) (hs : starEach (e :: es) X.env = (false, eval e X.env) :: starEach es X.env := by rfl) : PA X (e :: es) (tDA B (dCons d da)) := by
  refine PA_imp (pa_cons h hr hs) ?_
  rintro σ H Q ⟨P, F, S, QQ, R, q, k⟩
  refine ⟨P, F, S, _, R, q, fun x S1 q1 v1 H1 F1 e1 R1 r1 => ?_⟩
  obtain ⟨F1', e1', R1', r1'⟩ := hold_ok R1 r1
  refine ⟨P, F1', S1, _, R1', q1, fun xs S2 q2 vs H2 F2 e2 R2 r2 => ?_⟩
  exact k _ _ q2 _ H2 F2 ((e1.trans e1').trans e2) R2 ⟨v1, vs, rfl, r1'.ext e2, r2⟩
theorem de_tup {n : Nat} (h : PA X es (tDA B da)) : PE X (.Tuple es n pos) (tD B (dTup da)) := by
  refine PE_imp (pe_tupS h) ?_
  rintro σ H Q ⟨P, F, S, QQ, R, q, k⟩
  refine ⟨P, F, S, _, R, q, fun xs S1 q1 vs H1 F1 e1 R1 r1 => ?_⟩
  have q1' : (match frcs S1 xs with
    | some (ds, S2) => ds.length ≤ sizeLine ∧ QQ (.pu (.tup ds)) S2
    | none => False) := q1
  cases h1 : frcs S1 xs with
  | none => rw [h1] at q1'; exact q1'.elim
  | some p =>
    obtain ⟨ds, S2⟩ := p
    rw [h1] at q1'
    obtain ⟨hz, q2⟩ := q1'
    obtain ⟨F2, e2, R2, r2⟩ := RelHs.frc R1 r1 h1
    refine ⟨by rw [r2.len]; exact hz, fun p u hp hu => ?_⟩
    obtain ⟨e3, R3⟩ := R2.allocF (o := u) hp
    refine k _ _ q2 _ _ _ ((e1.trans e2).trans e3) R3 ?_
    show Rp _ _ _ (.tup ds) _
    unfold Rp
    exact ⟨p, vs, rfl, .inl ⟨.inr rfl, u, upd_same, hu⟩, RpAll.ext e3 _ _ r2⟩
theorem de_lst (h : PA X es (tDA B da)) : PE X (.List es pos) (tD B (dLst da)) := by
  refine PE_imp (pe_lst h) ?_
  rintro σ H Q ⟨P, F, S, QQ, R, q, k⟩
  refine ⟨P, F, S, _, R, q, fun xs S1 q1 vs H1 F1 e1 R1 r1 => ?_⟩
  have q1' : (match frcs S1 xs with
    | some (ds, S2) => ds.length ≤ sizeLine ∧ QQ (.ol ds) S2
    | none => False) := q1
  cases h1 : frcs S1 xs with
  | none => rw [h1] at q1'; exact q1'.elim
  | some p =>
    obtain ⟨ds, S2⟩ := p
    rw [h1] at q1'
    obtain ⟨hz, q2⟩ := q1'
    obtain ⟨F2, e2, R2, r2⟩ := RelHs.frc R1 r1 h1
    refine ⟨by rw [r2.len]; exact hz, fun p hp => ?_⟩
    obtain ⟨e3, R3, f3, _⟩ := R2.alloc (o := .lst vs) hp
    refine k _ _ q2 _ _ _ ((e1.trans e2).trans e3) R3 ?_
    exact ⟨p, vs, rfl, upd_same, f3, RpAll.ext e3 _ _ r2⟩
end
end DL
namespace DL
open PySem PySem.Spec PyProof.Rows L2

/-! ### data as the library's -/
mutual
def pyOf : D → PyData
  | .non => .none
  | .bl b => .bool b
  | .int i => .int i
  | .str x => .str x
  | .tup ds => .tuple (pyAll ds)
  | .lst ds => .list (pyAll ds)
  | .dct _ _ => .none
  | .scr _ => .none
def pyAll : List D → List PyData
  | [] => []
  | d :: ds => pyOf d :: pyAll ds
end
mutual
/-- no dict within -/
def noDct : D → Bool
  | .dct _ _ => false
  | .scr _ => false
  | .tup ds => noDctAll ds
  | .lst ds => noDctAll ds
  | _ => true
def noDctAll : List D → Bool
  | [] => true
  | d :: ds => noDct d && noDctAll ds
end
def okE (d : D) : Bool := noDct d && SeqAt.shaped (pyOf d)
def eqD (d e : D) : Bool := PyData.eqv (pyOf d) (pyOf e)
section
variable {K : PySem.W.Frag} {F : Addr → Prop} {H : Hp}
mutual
theorem Rp.dp : ∀ (d : D) (v : V), noDct d = true → Rp K F H d v → Dp K H v (pyOf d)
  | .non, v, _, h => by unfold Rp at h; subst h; exact .non
  | .bl b, v, _, h => by unfold Rp at h; subst h; exact .bl b
  | .int i, v, _, h => by unfold Rp at h; subst h; exact .int i
  | .str x, v, _, h => by unfold Rp at h; subst h; exact .str x
  | .tup ds, v, n, h => by
    unfold Rp at h
    obtain ⟨a, vs, rfl, h2, h3⟩ := h
    exact .tup h2.sq (RpAll.dp ds vs (by simpa [noDct] using n) h3)
  | .lst ds, v, n, h => by
    unfold Rp at h
    obtain ⟨a, vs, rfl, h2, h3⟩ := h
    exact .lst h2.sq (RpAll.dp ds vs (by simpa [noDct] using n) h3)
  | .dct ks ds, v, n, h => by simp [noDct] at n
  | .scr ds, v, n, h => by simp [noDct] at n
theorem RpAll.dp : ∀ (ds : List D) (vs : List V), noDctAll ds = true → RpAll K F H ds vs → DpAll K H vs (pyAll ds)
  | [], vs, _, h => by unfold RpAll at h; subst h; exact .nil
  | d :: ds, vs, n, h => by
    unfold RpAll at h
    obtain ⟨v, r, rfl, h2, h3⟩ := h
    have n' : noDct d = true ∧ noDctAll ds = true := by simpa [noDctAll] using n
    exact .cons (Rp.dp d v n'.1 h2) (RpAll.dp ds r n'.2 h3)
end
theorem RpT.dp {d : D} {v : V} (n : noDct d = true) (h : RpT K F H d v) : Dp K H v (pyOf d) := by
  cases d with
  | lst ds =>
    obtain ⟨a, vs, rfl, h2, h3⟩ := h
    exact .lst (.inl (.inl h2)) (RpAll.dp ds vs (by simpa [noDct] using n) h3)
  | dct ks ds => simp [noDct] at n
  | scr ds => simp [noDct] at n
  | non => exact Rp.dp (F := F) .non v n h
  | bl b => exact Rp.dp (F := F) (.bl b) v n h
  | int i => exact Rp.dp (F := F) (.int i) v n h
  | str x => exact Rp.dp (F := F) (.str x) v n h
  | tup ds => exact Rp.dp (F := F) (.tup ds) v n h
theorem t_int {i : Int} {v : V} (h : RpT K F H (.int i) v) : v = .int i := by
  have h : Rp K F H (.int i) v := h
  unfold Rp at h; exact h
theorem t_bl {i : Bool} {v : V} (h : RpT K F H (.bl i) v) : v = .bl i := by
  have h : Rp K F H (.bl i) v := h
  unfold Rp at h; exact h
theorem t_str {i : Str} {v : V} (h : RpT K F H (.str i) v) : v = .str i := by
  have h : Rp K F H (.str i) v := h
  unfold Rp at h; exact h
theorem t_non {v : V} (h : RpT K F H .non v) : v = .non := by
  have h : Rp K F H .non v := h
  unfold Rp at h; exact h
theorem t_tup {ds : List D} {v : V} (h : RpT K F H (.tup ds) v) : ∃ a vs, v = .ref a ∧ FzT K F H a vs ∧ RpAll K F H ds vs := by
  have h : Rp K F H (.tup ds) v := h
  unfold Rp at h; exact h
theorem t_scr {ds : List D} {v : V} (h : RpT K F H (.scr ds) v) : ∃ a vs, v = .ref a ∧ FzS K F H a vs ∧ RpAll K F H ds vs := by
  have h : Rp K F H (.scr ds) v := h
  unfold Rp at h; exact h
end

/-! ### numbers -/
def numD : D → Option Int
  | .int i => some i
  | .bl b => some (b2i b)
  | _ => none
def numV : V → Option Int
  | .int i => some i
  | .bl b => some (b2i b)
  | _ => none
theorem num_of {K : PySem.W.Frag} {F : Addr → Prop} {H : Hp} {d : D} {v : V} {i : Int} (h : RpT K F H d v) (e : numD d = some i) : numV v = some i := by
  cases d with
  | int j => rw [t_int h]; exact e
  | bl b => rw [t_bl h]; exact e
  | _ => cases e
def rNum (C : Int → Int → Prop) (g : Int → Int → V) : R2 := fun x y H Q => ∃ i j, numV x = some i ∧ numV y = some j ∧ C i j ∧ Q (g i j) H
section
variable {X : Cx}
theorem numV_cases {x : V} {i : Int} (h : numV x = some i) : x = .int i ∨ ∃ b, x = .bl b ∧ i = b2i b := by
  cases x with
  | int j => cases h; exact .inl rfl
  | bl b => cases h; exact .inr ⟨b, rfl, rfl⟩
  | _ => cases h
theorem b2i_if (b : Bool) : (if b = true then (1 : Int) else 0) = b2i b := by cases b <;> rfl
theorem op_addN : OpR X (binaryOp .Add) (rNum (fun _ _ => True) fun i j => .int (i + j)) := by
  intro pins s σ H x y v u Q I rx ry h
  obtain ⟨i, j, hx, hy, _, q⟩ := h
  rcases numV_cases hx with rfl | ⟨a, rfl, rfl⟩
  · obtain ⟨t, rfl⟩ := rx
    rcases numV_cases hy with rfl | ⟨b, rfl, rfl⟩
    · obtain ⟨t', rfl⟩ := ry
      exact add_int ⟨.int _, H, I.tok _, ⟨_, rfl⟩, q⟩
    · cases ry
      exact add_int_bool (by rw [b2i_if]; exact ⟨.int _, H, I.tok _, ⟨_, rfl⟩, q⟩)
  · cases rx
    rcases numV_cases hy with rfl | ⟨b, rfl, rfl⟩
    · obtain ⟨t', rfl⟩ := ry
      exact PySem.IntBool.add_bool_int (by rw [b2i_if]; exact ⟨.int _, H, I.tok _, ⟨_, rfl⟩, q⟩)
    · cases ry
      exact add_bool ⟨.int _, H, I.tok _, ⟨_, rfl⟩, q⟩
theorem op_subN : OpR X (binaryOp .Sub) (rNum (fun _ _ => True) fun i j => .int (i - j)) := by
  intro pins s σ H x y v u Q I rx ry h
  obtain ⟨i, j, hx, hy, _, q⟩ := h
  rcases numV_cases hx with rfl | ⟨a, rfl, rfl⟩
  · obtain ⟨t, rfl⟩ := rx
    rcases numV_cases hy with rfl | ⟨b, rfl, rfl⟩
    · obtain ⟨t', rfl⟩ := ry
      exact sub_int ⟨.int _, H, I.tok _, ⟨_, rfl⟩, q⟩
    · cases ry
      exact PySem.IntBool.sub_int_bool (by rw [b2i_if]; exact ⟨.int _, H, I.tok _, ⟨_, rfl⟩, q⟩)
  · cases rx
    rcases numV_cases hy with rfl | ⟨b, rfl, rfl⟩
    · obtain ⟨t', rfl⟩ := ry
      exact PySem.IntBool.sub_bool_int (by rw [b2i_if]; exact ⟨.int _, H, I.tok _, ⟨_, rfl⟩, q⟩)
    · cases ry
      exact sub_bool ⟨.int _, H, I.tok _, ⟨_, rfl⟩, q⟩
/-- * of two factors whose bits fit -/
def mulOk (i j : Int) : Prop := i.natAbs.log2 + j.natAbs.log2 < 134000000
/-- // by what is not 0, nor too long -/
def divOk (j : Int) : Prop := j ≠ 0 ∧ j.natAbs.log2 < 9000
theorem mulOk.ok {i j : Int} (h : mulOk i j) : IntMulOk i j := by
  have b : ∀ x : Int, Builtin.Int.intBits x ≤ x.natAbs.log2 + 1 := fun x => by
    unfold Builtin.Int.intBits
    split <;> omega
  have h1 := b i
  have h2 := b j
  have h3 : i.natAbs.log2 + j.natAbs.log2 < 134000000 := h
  have e : bitsLine = 134217728 := by decide
  unfold IntMulOk
  intro z
  rw [Bool.and_eq_true] at z
  have z2 := z.2
  unfold Builtin.Int.intTooBig at z2
  have z3 := of_decide_eq_true z2
  rw [e] at z3
  omega
theorem op_mulX : OpR X (binaryOp .Mult) (rI mulOk fun i j => .int (i * j)) := opI fun _ _ _ _ _ _ _ hc q => mul_int q hc.ok
theorem op_fdivX : OpR X (binaryOp .FloorDiv) (rI (fun _ j => divOk j) fun i j => .int (i.fdiv j)) := opI fun i j _ _ _ _ _ hc q =>
  floordiv_int hc.1 q (.inl (PyProof.noPylong_of_log2 hc.2))
theorem op_powX : OpR X (binaryOp .Pow) (rI CPow fun i j => .int (i ^ j.toNat)) := op_pow
end

/-! ### the operations -/
def oAdd : Op2 := fun d e Q => match d, e with
  | .tup a, .tup b => a.length + b.length ≤ sizeLine ∧ Q (.pu (.tup (a ++ b)))
  | .lst a, .lst b => a.length + b.length ≤ sizeLine ∧ Q (.ol (a ++ b))
  | .str a, .str b => a.length + b.length ≤ sizeLine ∧ Q (.pu (.str (a ++ b)))
  | .int i, .int j => Q (.pu (.int (i + j)))
  | d, e => match numD d, numD e with
    | some i, some j => Q (.pu (.int (i + j)))
    | _, _ => False
def oSub : Op2 := fun d e Q => match d, e with
  | .int i, .int j => Q (.pu (.int (i - j)))
  | d, e => match numD d, numD e with
    | some i, some j => Q (.pu (.int (i - j)))
    | _, _ => False
def oMul : Op2 := fun d e Q => match d, e with
  | .int i, .int j => mulOk i j ∧ Q (.pu (.int (i * j)))
  | .lst a, .int k => k < 2 ^ 24 ∧ -(2 ^ 24) ≤ k ∧ a.length * k.toNat ≤ sizeLine ∧ Q (.ol (List.replicate k.toNat a).flatten)
  | _, _ => False
def oDiv : Op2 := fun d e Q => match d, e with
  | .int i, .int j => divOk j ∧ Q (.pu (.int (i.fdiv j)))
  | _, _ => False
def oMod : Op2 := fun d e Q => match d, e with
  | .int i, .int j => 0 < j ∧ Q (.pu (.int (i % j)))
  | _, _ => False
def oPow : Op2 := fun d e Q => match d, e with
  | .int i, .int j => CPow i j ∧ Q (.pu (.int (i ^ j.toNat)))
  | _, _ => False

section
variable {X : Cx}
theorem RpAll.rep {K : PySem.W.Frag} {F : Addr → Prop} {H : Hp} {ds : List D} {vs : List V} (h : RpAll K F H ds vs) : ∀ n, RpAll K F H (List.replicate n ds).flatten (List.replicate n vs).flatten
  | 0 => by simpa using RpAll.nil
  | n + 1 => by
    rw [List.replicate_succ, List.replicate_succ, List.flatten_cons, List.flatten_cons]
    exact RpAll.append h (RpAll.rep h n)
theorem RpAll.nil_iff {K : PySem.W.Frag} {F : Addr → Prop} {H : Hp} {ds : List D} {vs : List V} (h : RpAll K F H ds vs) : vs = [] ↔ ds = [] := by
  have := h.len
  constructor
  · intro e; subst e; exact List.length_eq_zero_iff.mp (by simpa using this.symm)
  · intro e; subst e; exact List.length_eq_zero_iff.mp (by simpa using this)
theorem fin_int {B : Bs} {F : Addr → Prop} {σ : L2.St} {H : Hp} {S : Sg} {i : Int} {QQ : Rv → Prop} {Q : VK} (R : Rel B F σ H S) (q : QQ (.pu (.int i)))
    (k : ∀ rv, QQ rv → ∀ v H' F', Ext F H F' H' → Rel B F' σ H' S → RelRv B F' σ H' S rv v → Q v H') : Q (.int i) H := k _ q _ H F Ext.refl R rv_int
theorem fin_bl {B : Bs} {F : Addr → Prop} {σ : L2.St} {H : Hp} {S : Sg} {i : Bool} {QQ : Rv → Prop} {Q : VK} (R : Rel B F σ H S) (q : QQ (.pu (.bl i)))
    (k : ∀ rv, QQ rv → ∀ v H' F', Ext F H F' H' → Rel B F' σ H' S → RelRv B F' σ H' S rv v → Q v H') : Q (.bl i) H := k _ q _ H F Ext.refl R rv_bl
theorem fin_tup {B : Bs} {F : Addr → Prop} {σ : L2.St} {H : Hp} {S : Sg} {ds : List D} {vs : List V} {QQ : Rv → Prop} {Q : VK} (R : Rel B F σ H S) (r : RpAll B.K F H ds vs) (q : QQ (.pu (.tup ds)))
    (k : ∀ rv, QQ rv → ∀ v H' F', Ext F H F' H' → Rel B F' σ H' S → RelRv B F' σ H' S rv v → Q v H') : NewT vs H Q := fun p u hp hu => by
  obtain ⟨e3, R3⟩ := R.allocF (o := u) hp
  refine k _ q _ _ _ e3 R3 ?_
  show Rp B.K (Fz F p) (upd H p u) (.tup ds) _
  unfold Rp
  exact ⟨p, vs, rfl, .inl ⟨.inr rfl, u, upd_same, hu⟩, RpAll.ext e3 _ _ r⟩
theorem fin_lst {B : Bs} {F : Addr → Prop} {σ : L2.St} {H : Hp} {S : Sg} {ds : List D} {vs : List V} {QQ : Rv → Prop} {Q : VK} (R : Rel B F σ H S) (r : RpAll B.K F H ds vs) (q : QQ (.ol ds))
    (k : ∀ rv, QQ rv → ∀ v H' F', Ext F H F' H' → Rel B F' σ H' S → RelRv B F' σ H' S rv v → Q v H') : ∀ p, H p = none → Q (.ref p) (upd H p (.lst vs)) := fun p hp => by
  obtain ⟨e3, R3, f3, _⟩ := R.alloc (o := .lst vs) hp
  exact k _ q _ _ _ e3 R3 ⟨p, vs, rfl, upd_same, f3, RpAll.ext e3 _ _ r⟩
theorem fin_any {B : Bs} {F : Addr → Prop} {σ : L2.St} {H : Hp} {S : Sg} {d : D} {v : V} {QQ : Rv → Prop} {Q : VK} (R : Rel B F σ H S) (r : Rp B.K F H d v) (q : QQ (.pu d))
    (k : ∀ rv, QQ rv → ∀ v H' F', Ext F H F' H' → Rel B F' σ H' S → RelRv B F' σ H' S rv v → Q v H') : Q v H := k _ q _ H F Ext.refl R r
theorem ok_add : Op2Ok X (binaryOp .Add) oAdd := by
  refine ⟨_, OpR.or op_addN (OpR.or op_catS (OpR.or op_cat op_add_str)), ?_⟩
  intro B F σ H S d e x y QQ Q hB R rd re h k
  have num : ∀ i j, numD d = some i → numD e = some j → QQ (.pu (.int (i + j))) → rNum (fun _ _ => True) (fun i j => .int (i + j)) x y H Q := fun i j h1 h2 q =>
    ⟨i, j, num_of rd h1, num_of re h2, trivial, fin_int R q k⟩
  unfold oAdd at h
  split at h
  · rename_i l1 l2
    obtain ⟨hz, q⟩ := h
    obtain ⟨a, vs, rfl, fa, ra⟩ := t_tup rd
    obtain ⟨b, us, rfl, fb, rb⟩ := t_tup re
    refine .inr (.inl ⟨a, b, vs, us, rfl, rfl, hB ▸ fa.sq, hB ▸ fb.sq, by rw [ra.len, rb.len]; exact hz, fun e1 => ?_, fun _ e1 => ?_, fun _ _ => ?_⟩)
    · rw [ra.nil_iff.mp e1, List.nil_append] at q
      exact fin_any R re q k
    · rw [rb.nil_iff.mp e1, List.append_nil] at q
      exact fin_any R rd q k
    · exact fin_tup R (ra.append rb) q k
  · obtain ⟨hz, q⟩ := h
    obtain ⟨a, vs, rfl, fa, ra⟩ := rd
    obtain ⟨b, us, rfl, fb, rb⟩ := re
    exact .inr (.inr (.inl ⟨a, b, vs, us, rfl, rfl, fa, fb, by rw [ra.len, rb.len]; exact hz, fin_lst R (ra.append rb) q k⟩))
  · obtain ⟨hz, q⟩ := h
    refine .inr (.inr (.inr ⟨_, _, t_str rd, t_str re, hz, ?_⟩))
    exact k _ q _ H F Ext.refl R (show Rp B.K F H (.str _) _ by unfold Rp; rfl)
  · exact .inl (num _ _ rfl rfl h)
  · split at h
    · rename_i h1 h2
      exact .inl (num _ _ h1 h2 h)
    · exact h.elim
theorem ok_sub : Op2Ok X (binaryOp .Sub) oSub := by
  refine ⟨_, op_subN, ?_⟩
  intro B F σ H S d e x y QQ Q hB R rd re h k
  have num : ∀ i j, numD d = some i → numD e = some j → QQ (.pu (.int (i - j))) → rNum (fun _ _ => True) (fun i j => .int (i - j)) x y H Q := fun i j h1 h2 q =>
    ⟨i, j, num_of rd h1, num_of re h2, trivial, fin_int R q k⟩
  unfold oSub at h
  split at h
  · exact num _ _ rfl rfl h
  · split at h
    · rename_i h1 h2
      exact num _ _ h1 h2 h
    · exact h.elim
theorem ok_mul : Op2Ok X (binaryOp .Mult) oMul := by
  refine ⟨_, OpR.or op_mulX op_rep, ?_⟩
  intro B F σ H S d e x y QQ Q hB R rd re h k
  unfold oMul at h
  split at h
  · exact .inl ⟨_, _, t_int rd, t_int re, h.1, fin_int R h.2 k⟩
  · obtain ⟨h1, h2, hz, q⟩ := h
    obtain ⟨a, vs, rfl, fa, ra⟩ := rd
    exact .inr ⟨a, _, vs, rfl, t_int re, fa, by omega, by omega, by rw [ra.len]; exact hz, fin_lst R (ra.rep _) q k⟩
  · exact h.elim
theorem ok_div : Op2Ok X (binaryOp .FloorDiv) oDiv := by
  refine ⟨_, op_fdivX, ?_⟩
  intro B F σ H S d e x y QQ Q hB R rd re h k
  unfold oDiv at h
  split at h
  · exact ⟨_, _, t_int rd, t_int re, h.1, fin_int R h.2 k⟩
  · exact h.elim
theorem ok_mod : Op2Ok X (binaryOp .Mod) oMod := by
  refine ⟨_, op_mod, ?_⟩
  intro B F σ H S d e x y QQ Q hB R rd re h k
  unfold oMod at h
  split at h
  · exact ⟨_, _, t_int rd, t_int re, h.1, fin_int R h.2 k⟩
  · exact h.elim
theorem ok_pow : Op2Ok X (binaryOp .Pow) oPow := by
  refine ⟨_, op_powX, ?_⟩
  intro B F σ H S d e x y QQ Q hB R rd re h k
  unfold oPow at h
  split at h
  · exact ⟨_, _, t_int rd, t_int re, h.1, fin_int R h.2 k⟩
  · exact h.elim
end

/-! ### comparisons -/
def oEq : Op2 := fun d e Q => okE d = true ∧ okE e = true ∧ Q (.pu (.bl (eqD d e)))
def oNe : Op2 := fun d e Q => okE d = true ∧ okE e = true ∧ Q (.pu (.bl (!eqD d e)))
def oOrd (p : Int → Int → Bool) : Op2 := fun d e Q => match d, e with
  | .int i, .int j => Q (.pu (.bl (p i j)))
  | _, _ => False
abbrev oLt : Op2 := oOrd fun i j => decide (i < j)
abbrev oLe : Op2 := oOrd fun i j => decide (i ≤ j)
abbrev oGt : Op2 := oOrd fun i j => decide (j < i)
abbrev oGe : Op2 := oOrd fun i j => decide (j ≤ i)
/-- is: a bool with a bool, anything with None -/
def oIs : Op2 := fun d e Q => match d, e with
  | .bl i, .bl j => Q (.pu (.bl (decide (i = j))))
  | .non, .non => Q (.pu (.bl true))
  | _, .non => Q (.pu (.bl false))
  | _, _ => False
def oIsNot : Op2 := fun d e Q => match d, e with
  | .bl i, .bl j => Q (.pu (.bl (!decide (i = j))))
  | .non, .non => Q (.pu (.bl false))
  | _, .non => Q (.pu (.bl true))
  | _, _ => False
/-- a number or a text -/
def keyD : D → Option Key
  | .int i => some (.inl i)
  | .str x => some (.inr x)
  | _ => none
def flatD : D → Bool
  | .non => true
  | .bl _ => true
  | .int _ => true
  | .str _ => true
  | _ => false
def hasK (k : Key) (ks : List Key) : Bool := ks.any fun q => decide (q = k)
def inD (d : D) (es : List D) : Bool := es.any fun e => eqD e d
def oInG (neg : Bool) : Op2 := fun d e Q => match e with
  | .lst es => okE d = true ∧ okE (.lst es) = true ∧ Q (.pu (.bl (if neg then !inD d es else inD d es)))
  | .tup es => flatD d = true ∧ es.all flatD = true ∧ Q (.pu (.bl (if neg then !inD d es else inD d es)))
  | .dct ks _ => match keyD d with
    | some k => Q (.pu (.bl (if neg then !hasK k ks else hasK k ks)))
    | none => False
  | _ => False
abbrev oIn : Op2 := oInG false
abbrev oNotIn : Op2 := oInG true
section
variable {X : Cx}
theorem okE_of {d : D} (h : okE d = true) : noDct d = true ∧ SeqAt.shaped (pyOf d) = true := by
  unfold okE at h
  exact Bool.and_eq_true_iff.mp h
theorem ok_eq (hu : X.A.units + 64 < cLine) : Op2Ok X (compareOp .Eq) oEq := by
  refine ⟨_, op_eqD hu, ?_⟩
  intro B F σ H S d e x y QQ Q hB R rd re h k
  obtain ⟨h1, h2, q⟩ := h
  exact ⟨_, _, hB ▸ rd.dp (okE_of h1).1, hB ▸ re.dp (okE_of h2).1, (okE_of h1).2, (okE_of h2).2, fin_bl R q k⟩
theorem ok_ne (hu : X.A.units + 64 < cLine) : Op2Ok X (compareOp .NotEq) oNe := by
  refine ⟨_, op_neD hu, ?_⟩
  intro B F σ H S d e x y QQ Q hB R rd re h k
  obtain ⟨h1, h2, q⟩ := h
  exact ⟨_, _, hB ▸ rd.dp (okE_of h1).1, hB ▸ re.dp (okE_of h2).1, (okE_of h1).2, (okE_of h2).2, fin_bl R q k⟩
theorem ok_ord {op : CmpOp} {p : Int → Int → Bool} (ho : OpR X (compareOp op) (rI0 fun i j => .bl (p i j))) : Op2Ok X (compareOp op) (oOrd p) := by
  refine ⟨_, ho, ?_⟩
  intro B F σ H S d e x y QQ Q hB R rd re h k
  unfold oOrd at h
  split at h
  · exact ⟨_, _, t_int rd, t_int re, fin_bl R h k⟩
  · exact h.elim
theorem ok_lt : Op2Ok X (compareOp .Lt) oLt := ok_ord op_lt
theorem ok_le : Op2Ok X (compareOp .LtE) oLe := ok_ord op_le
theorem ok_gt : Op2Ok X (compareOp .Gt) oGt := ok_ord op_gt
theorem ok_ge : Op2Ok X (compareOp .GtE) oGe := ok_ord op_ge
theorem t_notnon {K : PySem.W.Frag} {F : Addr → Prop} {H : Hp} {d : D} {v : V} (h : RpT K F H d v) (hn : d ≠ .non) : v ≠ .non := by
  cases d with
  | non => exact absurd rfl hn
  | bl b => rw [t_bl h]; exact fun z => nomatch z
  | int b => rw [t_int h]; exact fun z => nomatch z
  | str b => rw [t_str h]; exact fun z => nomatch z
  | tup ds => obtain ⟨a, vs, rfl, _⟩ := t_tup h; exact fun z => nomatch z
  | lst ds => obtain ⟨a, vs, rfl, _⟩ := h; exact fun z => nomatch z
  | dct ks ds => obtain ⟨a, vs, rfl, _⟩ := h; exact fun z => nomatch z
  | scr ds => obtain ⟨a, vs, rfl, _⟩ := t_scr h; exact fun z => nomatch z
theorem ok_is : Op2Ok X (compareOp .Is) oIs := by
  refine ⟨_, OpR.or op_isBl op_isN, ?_⟩
  intro B F σ H S d e x y QQ Q hB R rd re h k
  unfold oIs at h
  split at h
  · exact .inl ⟨_, _, t_bl rd, t_bl re, fin_bl R h k⟩
  · rw [t_non rd, t_non re]
    exact .inr ⟨rfl, fin_bl R h k⟩
  · rename_i hn
    rw [t_non re]
    refine .inr ⟨rfl, ?_⟩
    rw [decide_eq_false (t_notnon rd hn)]
    exact fin_bl R h k
  · exact h.elim
theorem ok_isNot : Op2Ok X (compareOp .IsNot) oIsNot := by
  refine ⟨_, OpR.or op_notBl op_notN, ?_⟩
  intro B F σ H S d e x y QQ Q hB R rd re h k
  unfold oIsNot at h
  split at h
  · exact .inl ⟨_, _, t_bl rd, t_bl re, fin_bl R h k⟩
  · rw [t_non rd, t_non re]
    exact .inr ⟨rfl, fin_bl R h k⟩
  · rename_i hn
    rw [t_non re]
    refine .inr ⟨rfl, ?_⟩
    rw [decide_eq_false (t_notnon rd hn)]
    exact fin_bl R h k
  · exact h.elim
end
end DL
namespace DL
open PySem PySem.Spec PyProof.Rows L2
theorem dgetR {H : Hp} {a : Addr} {kvs : List (Key × V)} {k : Key} (e : Rd H a (.dK kvs)) : DGet H a (kV k) (valV kvs k) := .inl ⟨kvs, k, e, rfl, rfl⟩

/-! ### in, not in -/
section
variable {K : PySem.W.Frag} {F : Addr → Prop} {H : Hp}
theorem flat_eq {d e : D} {x y : V} (fd : flatD d = true) (fe : flatD e = true) (hd : RpT K F H d x) (he : RpT K F H e y) : flatV x = true ∧ eqV y x = eqD e d := by
  cases d with
  | non => rw [t_non hd]; refine ⟨rfl, ?_⟩; cases e with
    | non => rw [t_non he]; simp [eqV, eqD, pyOf, PyData.eqv]
    | bl b => rw [t_bl he]; simp [eqV, eqD, pyOf, PyData.eqv]
    | int b => rw [t_int he]; simp [eqV, eqD, pyOf, PyData.eqv]
    | str b => rw [t_str he]; simp [eqV, eqD, pyOf, PyData.eqv]
    | _ => cases fe
  | bl c => rw [t_bl hd]; refine ⟨rfl, ?_⟩; cases e with
    | non => rw [t_non he]; simp [eqV, eqD, pyOf, PyData.eqv]
    | bl b => rw [t_bl he]; simp [eqV, eqD, pyOf, PyData.eqv]
    | int b => rw [t_int he]; simp [eqV, eqD, pyOf, PyData.eqv]
    | str b => rw [t_str he]; simp [eqV, eqD, pyOf, PyData.eqv]
    | _ => cases fe
  | int c => rw [t_int hd]; refine ⟨rfl, ?_⟩; cases e with
    | non => rw [t_non he]; simp [eqV, eqD, pyOf, PyData.eqv]
    | bl b => rw [t_bl he]; simp [eqV, eqD, pyOf, PyData.eqv]
    | int b => rw [t_int he]; simp [eqV, eqD, pyOf, PyData.eqv]
    | str b => rw [t_str he]; simp [eqV, eqD, pyOf, PyData.eqv]
    | _ => cases fe
  | str c => rw [t_str hd]; refine ⟨rfl, ?_⟩; cases e with
    | non => rw [t_non he]; simp [eqV, eqD, pyOf, PyData.eqv]
    | bl b => rw [t_bl he]; simp [eqV, eqD, pyOf, PyData.eqv]
    | int b => rw [t_int he]; simp [eqV, eqD, pyOf, PyData.eqv]
    | str b => rw [t_str he]; simp [eqV, eqD, pyOf, PyData.eqv]
    | _ => cases fe
  | _ => cases fd
theorem flat_any {d : D} {x : V} (fd : flatD d = true) (hd : RpT K F H d x) : ∀ {es : List D} {vs : List V}, es.all flatD = true → RpAll K F H es vs → vs.all flatV = true ∧ inV x vs = inD d es
  | [], vs, _, h => by unfold RpAll at h; subst h; exact ⟨rfl, rfl⟩
  | e :: es, vs, fe, h => by
    unfold RpAll at h
    obtain ⟨v, r, rfl, h1, h2⟩ := h
    rw [List.all_cons, Bool.and_eq_true] at fe
    obtain ⟨g1, g2⟩ := flat_any fd hd fe.2 h2
    obtain ⟨g3, g4⟩ := flat_eq fd fe.1 hd h1.t
    obtain ⟨g5, _⟩ := flat_eq fe.1 fe.1 h1.t h1.t
    refine ⟨by rw [List.all_cons, g5, g1]; rfl, ?_⟩
    show (eqV v x || inV x r) = (eqD e d || inD d es)
    rw [g4, g2]
/-- what a dict holds at a key -/
def dget (ks : List Key) (ds : List D) (k : Key) : Option D := ((ks.zip ds).find? fun p => decide (p.1 = k)).map (·.2)
theorem dget_rp : ∀ {ks : List Key} {ds : List D} {vs : List V} (k : Key), RpAll K F H ds vs → ks.length = ds.length →
    (dget ks ds k = none ∧ valV (ks.zip vs) k = none ∧ hasK k ks = false) ∨ ∃ d v, dget ks ds k = some d ∧ valV (ks.zip vs) k = some v ∧ Rp K F H d v ∧ hasK k ks = true
  | [], _, _, k, _, _ => .inl ⟨rfl, rfl, rfl⟩
  | q :: ks, [], _, _, _, h => by simp at h
  | q :: ks, d :: ds, vs, k, h, hl => by
    unfold RpAll at h
    obtain ⟨v, r, rfl, h1, h2⟩ := h
    by_cases e : q = k
    · right
      refine ⟨d, v, by simp [dget, e], ?_, h1, by simp [hasK, e]⟩
      exact valV_pos (p := (q, v)) e
    · rcases dget_rp k h2 (by simpa using hl) with ⟨g1, g2, g3⟩ | ⟨d', v', g1, g2, g3, g4⟩
      · left
        refine ⟨?_, ?_, ?_⟩
        · unfold dget at g1 ⊢
          rw [List.zip_cons_cons, List.find?_cons_of_neg (by simp [e])]
          exact g1
        · show valV ((q, v) :: ks.zip r) k = none
          rw [valV_neg (p := (q, v)) e]; exact g2
        · simp only [hasK, List.any_cons, decide_eq_false e, Bool.false_or]; exact g3
      · right
        refine ⟨d', v', ?_, ?_, g3, ?_⟩
        · unfold dget at g1 ⊢
          rw [List.zip_cons_cons, List.find?_cons_of_neg (by simp [e])]
          exact g1
        · show valV ((q, v) :: ks.zip r) k = some v'
          rw [valV_neg (p := (q, v)) e]; exact g2
        · simp only [hasK, List.any_cons, decide_eq_false e, Bool.false_or]; exact g4
theorem key_rel {d : D} {x : V} {k : Key} (h : RpT K F H d x) (e : keyD d = some k) : x = kV k := by
  cases d with
  | int i => cases e; exact t_int h
  | str i => cases e; exact t_str h
  | _ => cases e
end
section
variable {X : Cx}
theorem op_inDc (hu : X.A.units + 1 < cLine) : OpR X (compareOp .In) (fun x y H Q => ∃ a o, y = .ref a ∧ DGet H a x o ∧ Q (.bl o.isSome) H) := by
  intro pins s σ H x y v u Q I rx ry h
  obtain ⟨a, o, rfl, g, q⟩ := h
  obtain rfl : u = Value.ref a := ry
  exact d_in hu I g rx fun s3 I3 => ⟨.bl o.isSome, H, I3, rfl, q⟩
theorem op_notInDc (hu : X.A.units + 1 < cLine) : OpR X (compareOp .NotIn) (fun x y H Q => ∃ a o, y = .ref a ∧ DGet H a x o ∧ Q (.bl (!o.isSome)) H) := by
  intro pins s σ H x y v u Q I rx ry h
  obtain ⟨a, o, rfl, g, q⟩ := h
  obtain rfl : u = Value.ref a := ry
  exact d_notIn hu I g rx fun s3 I3 => ⟨.bl (!o.isSome), H, I3, rfl, q⟩
theorem pyAny {d : D} : ∀ es : List D, ((pyAll es).any fun z => PyData.eqv z (pyOf d)) = inD d es
  | [] => rfl
  | e :: es => by
    show (PyData.eqv (pyOf e) (pyOf d) || (pyAll es).any fun z => PyData.eqv z (pyOf d)) = (eqD e d || inD d es)
    rw [pyAny es]; rfl
theorem inG_ok {op : CmpOp} {neg : Bool} {rD rF rC : R2} (hD : OpR X (compareOp op) rD) (hF : OpR X (compareOp op) rF) (hC : OpR X (compareOp op) rC)
    (eD : ∀ (x y : V) (H : Hp) (Q : VK) d ds, Dp X.K H x d → Dp X.K H y (.list ds) → SeqAt.shaped d = true → SeqAt.shaped (.list ds) = true → Q (.bl (if neg then !(ds.any fun z => PyData.eqv z d) else ds.any fun z => PyData.eqv z d)) H → rD x y H Q)
    (eF : ∀ (x y : V) (H : Hp) (Q : VK) p xs, y = .ref p → (SqL X.K H p xs ∨ SqT X.K H p xs) → flatV x = true → xs.all flatV = true → Q (.bl (if neg then !inV x xs else inV x xs)) H → rF x y H Q)
    (eC : ∀ (x y : V) (H : Hp) (Q : VK) a o, y = .ref a → DGet H a x o → Q (.bl (if neg then !o.isSome else o.isSome)) H → rC x y H Q) : Op2Ok X (compareOp op) (oInG neg) := by
  refine ⟨_, OpR.or hD (OpR.or hF hC), ?_⟩
  intro B F σ H S d e x y QQ Q hB R rd re h k
  unfold oInG at h
  split at h
  · obtain ⟨h1, h2, q⟩ := h
    refine .inl (eD x y H Q (pyOf d) (pyAll _) (hB ▸ rd.dp (okE_of h1).1) ?_ (okE_of h1).2 (okE_of h2).2 ?_)
    · exact hB ▸ re.dp (okE_of h2).1
    · rw [pyAny]; exact fin_bl R q k
  · obtain ⟨h1, h2, q⟩ := h
    obtain ⟨a, vs, rfl, fa, ra⟩ := t_tup re
    obtain ⟨g1, g2⟩ := flat_any h1 rd h2 ra
    refine .inr (.inl (eF _ _ H Q a vs rfl (.inr (hB ▸ fa.sq)) ?_ g1 ?_))
    · obtain ⟨g, _⟩ := flat_eq h1 h1 rd rd; exact g
    · rw [g2]; exact fin_bl R q k
  · rename_i ks ds
    split at h
    · rename_i kk hk
      obtain ⟨a, vs, rfl, fa, ra, hl⟩ := re
      have ex := key_rel rd hk
      subst ex
      refine .inr (.inr (eC _ _ H Q a (valV (ks.zip vs) kk) rfl (dgetR fa) ?_))
      rcases dget_rp kk ra hl with ⟨_, g2, g3⟩ | ⟨_, _, _, g2, _, g3⟩
      · rw [g2]; rw [g3] at h; exact fin_bl R h k
      · rw [g2]; rw [g3] at h; exact fin_bl R h k
    · exact h.elim
  · exact h.elim
theorem ok_in (hu : X.A.units + 65 < cLine) : Op2Ok X (compareOp .In) oIn :=
  inG_ok (neg := false) (op_inD hu) op_in_seq (op_inDc (by omega)) (fun x y H Q d ds h1 h2 h3 h4 q => ⟨d, ds, h1, h2, h3, h4, q⟩) (fun x y H Q p xs h1 h2 h3 h4 q => ⟨p, xs, h1, h2, h3, h4, q⟩) fun x y H Q a o h1 h2 q => ⟨a, o, h1, h2, q⟩
theorem ok_notIn (hu : X.A.units + 65 < cLine) : Op2Ok X (compareOp .NotIn) oNotIn :=
  inG_ok (neg := true) (op_notInD hu) op_notIn_seq (op_notInDc (by omega)) (fun x y H Q d ds h1 h2 h3 h4 q => ⟨d, ds, h1, h2, h3, h4, q⟩) (fun x y H Q p xs h1 h2 h3 h4 q => ⟨p, xs, h1, h2, h3, h4, q⟩) fun x y H Q a o h1 h2 q => ⟨a, o, h1, h2, q⟩
end

/-! ### subscripts -/
def oIx : Op2 := fun d e Q => match d, e with
  | .tup ds, .int i => match atI ds i with
    | some x => Q (.pu x)
    | none => False
  | .lst ds, .int i => match atI ds i with
    | some x => Q (.pu x)
    | none => False
  | .dct ks ds, e => match keyD e with
    | some k => (match dget ks ds k with
      | some x => Q (.pu x)
      | none => False)
    | none => False
  | _, _ => False
section
variable {X : Cx} {B : Bs} {pos : Pos} {a b : Expr} {da db : Den}
theorem atI_rp {K : PySem.W.Frag} {F : Addr → Prop} {H : Hp} {ds : List D} {vs : List V} {i : Int} {d : D} (r : RpAll K F H ds vs) (e : atI ds i = some d) : ∃ v, atI vs i = some v ∧ Rp K F H d v := by
  unfold atI at e ⊢
  rw [r.len]
  cases q : ixN ds.length i with
  | none => rw [q] at e; cases e
  | some j =>
    rw [q] at e
    exact r.get (i := j) (by simpa using e)
theorem ix_dictR (hu : X.A.units + 1 < cLine) : IxR X (fun x y H Q => ∃ a v, x = .ref a ∧ DGet H a y (some v) ∧ Q v H) := by
  intro value slice pins s σ H x y v u Q I rx ry h hs
  obtain ⟨a, z, rfl, g, q⟩ := h
  obtain rfl : v = Value.ref a := rx
  exact tail_any (dict_typeIs I g) PySem.F.slot_dict_getitem.lookup (d_getItem hu I g ry fun w' s3 I3 rw' => ⟨z, H, I3, rw', q⟩) hs
theorem de_ix (hu : X.A.units + 1 < cLine) (hB : B.K = X.K) (ha : PE X a (tD B da)) (hb : PE X b (tD B db)) (hs : PlainIx b) : PE X (.Subscript a b pos) (tD B (dBin oIx da db)) := by
  refine PE_imp (pe_ix (IxR.or ix_tup (IxR.or ix_list (ix_dictR hu))) ha hb hs) (bin_run hB ?_)
  intro B F σ H S d e x y QQ Q hB R rd re h k
  unfold oIx at h
  split at h
  · split at h
    · rename_i z hz
      obtain ⟨p, vs, rfl, fa, ra⟩ := t_tup rd
      obtain ⟨v, g1, g2⟩ := atI_rp ra hz
      exact .inl ⟨p, vs, _, v, rfl, t_int re, hB ▸ fa.sq, g1, fin_any R g2 h k⟩
    · exact h.elim
  · split at h
    · rename_i z hz
      obtain ⟨p, vs, rfl, fa, ra⟩ := rd
      obtain ⟨v, g1, g2⟩ := atI_rp ra hz
      exact .inr (.inl ⟨p, vs, _, v, rfl, t_int re, .inl (.inl fa), g1, fin_any R g2 h k⟩)
    · exact h.elim
  · split at h
    · rename_i kk hk
      split at h
      · rename_i z hz
        obtain ⟨p, vs, rfl, fa, ra, hl⟩ := rd
        have ex := key_rel re hk
        subst ex
        rcases dget_rp kk ra hl with ⟨g1, _⟩ | ⟨d', v, g1, g2, g3, _⟩
        · rw [g1] at hz; cases hz
        · rw [g1] at hz; cases hz
          exact .inr (.inr ⟨p, v, rfl, g2 ▸ dgetR fa, fin_any R g3 h k⟩)
      · exact h.elim
    · exact h.elim
  · exact h.elim
end

/-! ### slices -/
abbrev DenO := Sg → (Option Int → Sg → Prop) → Prop
def dNoP : DenO := fun S Q => Q none S
def dPart (d : Den) : DenO := fun S Q => d S fun x S1 => match x with
  | .pu (.int i) => Q (some i) S1
  | _ => False
def cutL (ds : List D) (lo hi : Option Int) : List D := (ds.drop (HT.sIx ds.length 0 lo)).take (HT.sIx ds.length ds.length hi - HT.sIx ds.length 0 lo)
def dSl (da : Den) (dl dh : DenO) : Den := fun S Q => da S fun x S1 => dl S1 fun lo S2 => dh S2 fun hi S3 => match rd S3 (hold x) with
  | some (.tup ds) => Q (.pu (.tup (cutL ds lo hi))) S3
  | some (.lst ds) => Q (.ol (cutL ds lo hi)) S3
  | some (.scr ds) => Q (.ol (cutL ds lo hi)) S3
  | _ => False
def tDO (B : Bs) (d : DenO) : TO := fun σ H Q => ∃ P F S QQ, Rel (B.p P) F σ H S ∧ d S QQ ∧ ∀ o S', QQ o S' → ∀ H' F', Ext F H F' H' → Rel (B.p P) F' σ H' S' → Q o H'
section
variable {X : Cx} {B : Bs} {pos p2 : Pos} {a e : Expr} {da d : Den} {lo hi : Option Expr} {dl dh : DenO}
theorem PO_imp {e : Option Expr} {t t' : TO} (h : PO X e t) (i : ∀ σ H Q, t' σ H Q → t σ H Q) : PO X e t' := ⟨fun pins s σ H Q I w => h.run pins s σ H Q I (i σ H Q w)⟩
theorem do_none : PO X none (tDO B dNoP) := by
  refine PO_imp po_none ?_
  rintro σ H Q ⟨P, F, S, QQ, R, q, k⟩
  exact k _ _ q H F Ext.refl R
theorem do_some (h : PE X e (tD B d)) : PO X (some e) (tDO B (dPart d)) := by
  refine PO_imp (po_some h) ?_
  rintro σ H Q ⟨P, F, S, QQ, R, q, k⟩
  refine ⟨P, F, S, _, R, q, fun x S1 q1 v1 H1 F1 e1 R1 r1 => ?_⟩
  cases x with
  | pu d =>
    cases d with
    | int i =>
      have r1' : Rp B.K F1 H1 (.int i) v1 := r1
      unfold Rp at r1'
      exact ⟨i, r1', k _ _ q1 H1 F1 e1 R1⟩
    | _ => exact q1.elim
  | _ => exact q1.elim
theorem cut_rp {K : PySem.W.Frag} {F : Addr → Prop} {H : Hp} {ds : List D} {vs : List V} (r : RpAll K F H ds vs) (lo hi : Option Int) : RpAll K F H (cutL ds lo hi) (cutV vs lo hi) := by
  unfold cutL cutV
  rw [r.len]
  exact (r.drop _).take _
theorem cut_whole (ds : List D) (lo hi : Option Int) (h : HT.sIx ds.length 0 lo = 0 ∧ HT.sIx ds.length ds.length hi = ds.length) : cutL ds lo hi = ds := by
  unfold cutL
  rw [h.1, h.2, List.drop_zero, Nat.sub_zero, List.take_length]
theorem de_slice (hB : B.K = X.K) (ha : PE X a (tD B da)) (hl : PO X lo (tDO B dl)) (hh : PO X hi (tDO B dh)) : PE X (.Subscript a (.Slice lo hi none p2) pos) (tD B (dSl da dl dh)) := by
  refine PE_imp (pe_slice (SlR.or sl_tupS sl_list) ha hl hh) ?_
  rintro σ H Q ⟨P, F, S, QQ, R, q, k⟩
  refine ⟨P, F, S, _, R, q, fun x S1 q1 v1 H1 F1 e1 R1 r1 => ?_⟩
  obtain ⟨F1', e1', R1', r1'⟩ := hold_ok R1 r1
  refine ⟨P, F1', S1, _, R1', q1, fun l S2 q2 H2 F2 e2 R2 => ?_⟩
  refine ⟨P, F2, S2, _, R2, q2, fun u S3 q3 H3 F3 e3 R3 => ?_⟩
  have q3' : (match rd S3 (hold x) with
    | some (.tup ds) => QQ (.pu (.tup (cutL ds l u))) S3
    | some (.lst ds) => QQ (.ol (cutL ds l u)) S3
    | some (.scr ds) => QQ (.ol (cutL ds l u)) S3
    | _ => False) := q3
  have E : Ext F H F3 H3 := (e1.trans e1').trans (e2.trans e3)
  have r3 := r1'.ext (e2.trans e3)
  have kk : ∀ rv, QQ rv S3 → ∀ v H' F', Ext F3 H3 F' H' → Rel (B.p P) F' σ H' S3 → RelRv (B.p P) F' σ H' S3 rv v → Q v H' := fun rv qr v H' F' e R' r' => k _ _ qr v H' F' (E.trans e) R' r'
  cases h1 : rd S3 (hold x) with
  | none => rw [h1] at q3'; exact q3'.elim
  | some dx =>
    have rt := RelRv.t R3 (RelH.rv r3) h1
    rw [h1] at q3'
    cases dx with
    | tup ds =>
      obtain ⟨p, vs, rfl, fa, ra⟩ := t_tup rt
      refine .inl ⟨p, vs, rfl, hB ▸ fa.sq, fun hw => ?_, fun _ => ?_⟩
      · rw [ra.len] at hw
        have q3' : QQ (.pu (.tup (cutL ds l u))) S3 := q3'
        rw [show cutL ds l u = ds from cut_whole ds l u hw] at q3'
        exact fin_any R3 rt q3' kk
      · exact fin_tup R3 (cut_rp ra l u) q3' kk
    | lst ds =>
      obtain ⟨p, vs, rfl, fa, ra⟩ := rt
      exact .inr ⟨p, vs, rfl, .inl (.inl fa), fin_lst R3 (cut_rp ra l u) q3' kk⟩
    | scr ds =>
      obtain ⟨p, vs, rfl, fa, ra⟩ := t_scr rt
      exact .inr ⟨p, vs, rfl, hB ▸ fa.sq, fin_lst R3 (cut_rp ra l u) q3' kk⟩
    | _ => exact q3'.elim
end

/-! ### calls of built-ins -/
abbrev OpN := List D → (Rv → Prop) → Prop
def rds (S : Sg) : List Rv → Option (List D)
  | [] => some []
  | r :: rs => match rd S r, rds S rs with
    | some d, some ds => some (d :: ds)
    | _, _ => none
def dCB (o : OpN) (da : DenA) : Den := fun S Q => da S fun xs S1 => match rds S1 xs with
  | some ds => o ds fun r => Q r S1
  | none => False
def RpTs (K : PySem.W.Frag) (F : Addr → Prop) (H : Hp) : List D → List V → Prop
  | [], vs => vs = []
  | d :: ds, vs => ∃ v r, vs = v :: r ∧ RpT K F H d v ∧ RpTs K F H ds r
def OpNOk (X : Cx) (f : Value) (o : OpN) : Prop := ∃ r, CallR X f r ∧ ∀ (B : Bs) (F : Addr → Prop) (σ : L2.St) (H : Hp) (S : Sg) (ds : List D) (vs : List V) (QQ : Rv → Prop) (Q : VK), B.K = X.K → Rel B F σ H S → RpTs B.K F H ds vs → o ds QQ →
  (∀ rv, QQ rv → ∀ v H' F', Ext F H F' H' → Rel B F' σ H' S → RelRv B F' σ H' S rv v → Q v H') → r vs H Q
section
variable {X : Cx} {B : Bs} {pos p : Pos} {x : Str} {e : Expr} {es : List Expr} {da : DenA}
theorem RelHs.t {F : Addr → Prop} {σ : L2.St} {H : Hp} {S : Sg} (R : Rel B F σ H S) : ∀ {rvs : List Rv} {vs : List V} {ds : List D}, RelHs B F σ H rvs vs → rds S rvs = some ds → RpTs B.K F H ds vs
  | [], vs, ds, h, e => by cases e; exact h
  | r :: rs, vs, ds, h, e => by
    obtain ⟨v, us, rfl, h1, h2⟩ := h
    unfold rds at e
    cases q1 : rd S r with
    | none => rw [q1] at e; cases e
    | some d =>
      cases q2 : rds S rs with
      | none => rw [q1, q2] at e; cases e
      | some ds' =>
        rw [q1, q2] at e
        cases e
        exact ⟨v, us, rfl, RelRv.t R (RelH.rv h1) q1, RelHs.t R h2 q2⟩
theorem cb_run {f : Value} {o : OpN} {r : List V → Hp → VK → Prop} (hB : B.K = X.K) (ho : ∀ (B : Bs) (F : Addr → Prop) (σ : L2.St) (H : Hp) (S : Sg) (ds : List D) (vs : List V) (QQ : Rv → Prop) (Q : VK), B.K = X.K → Rel B F σ H S → RpTs B.K F H ds vs → o ds QQ →
  (∀ rv, QQ rv → ∀ v H' F', Ext F H F' H' → Rel B F' σ H' S → RelRv B F' σ H' S rv v → Q v H') → r vs H Q) : ∀ σ H Q, tD B (dCB o da) σ H Q → tCB r (tDA B da) σ H Q := by
  rintro σ H Q ⟨P, F, S, QQ, R, q, k⟩
  refine ⟨P, F, S, _, R, q, fun xs S1 q1 vs H1 F1 e1 R1 r1 => ?_⟩
  have q1' : (match rds S1 xs with
    | some ds => o ds fun r => QQ r S1
    | none => False) := q1
  cases h1 : rds S1 xs with
  | none => rw [h1] at q1'; exact q1'.elim
  | some ds =>
    rw [h1] at q1'
    exact ho (B.p P) F1 σ H1 S1 ds vs _ Q hB R1 (RelHs.t R1 r1 h1) q1' fun rv qr v H' F' e R' r' => k _ _ qr v H' F' (e1.trans e) R' r'
theorem de_callB {id : String} {o : OpN} (ho : OpNOk X (.builtin id) o) (hB : B.K = X.K) (hg : Gl X x) (hm : X.mg x = none) (hv : bootBuiltins x = some (.builtin id)) (ha : PA X (e :: es) (tDA B da)) (hn : x ≠ "__name__" := by decide) (hdb : (x == ("__debug__" : Str)) = false := by decide)
    (he : starEach (e :: es) X.env = (false, eval e X.env) :: starEach es X.env := by rfl) (hpl : (backTo pos (starEach es X.env)).any (·.1) = false := by rfl) : PE X (.Call (.Name x p) (e :: es) [] pos) (tD B (dCB o da)) := by
  obtain ⟨r, h1, h2⟩ := ho
  exact PE_imp (pe_callB h1 hg hm hv ha hn hdb he hpl) (cb_run (f := .builtin id) hB h2)
theorem de_callTy {T : String} {o : OpN} (ho : OpNOk X (.type T) o) (hB : B.K = X.K) (hg : Gl X x) (hm : X.mg x = none) (hv : bootBuiltins x = some (.type T)) (ha : PA X (e :: es) (tDA B da)) (hn : x ≠ "__name__" := by decide) (hdb : (x == ("__debug__" : Str)) = false := by decide)
    (he : starEach (e :: es) X.env = (false, eval e X.env) :: starEach es X.env := by rfl) (hpl : (backTo pos (starEach es X.env)).any (·.1) = false := by rfl) : PE X (.Call (.Name x p) (e :: es) [] pos) (tD B (dCB o da)) := by
  obtain ⟨r, h1, h2⟩ := ho
  exact PE_imp (pe_callTy h1 hg hm hv ha hn hdb he hpl) (cb_run (f := .type T) hB h2)
end
theorem ts1 {K : PySem.W.Frag} {F : Addr → Prop} {H : Hp} {d : D} {vs : List V} (h : RpTs K F H [d] vs) : ∃ v, vs = [v] ∧ RpT K F H d v := by
  obtain ⟨v, r, rfl, h1, h2⟩ := h
  have h2' : r = [] := h2
  subst h2'
  exact ⟨v, rfl, h1⟩
theorem ts2 {K : PySem.W.Frag} {F : Addr → Prop} {H : Hp} {d e : D} {vs : List V} (h : RpTs K F H [d, e] vs) : ∃ v u, vs = [v, u] ∧ RpT K F H d v ∧ RpT K F H e u := by
  obtain ⟨v, r, rfl, h1, h2⟩ := h
  obtain ⟨u, rfl, h3⟩ := ts1 h2
  exact ⟨v, u, rfl, h1, h3⟩
def oLen : OpN := fun ds Q => match ds with
  | [.tup xs] => Q (.pu (.int xs.length))
  | [.lst xs] => Q (.pu (.int xs.length))
  | [.scr xs] => Q (.pu (.int xs.length))
  | [.dct ks _] => Q (.pu (.int ks.length))
  | [.str z] => z.length ≤ sizeLine ∧ Q (.pu (.int z.length))
  | _ => False
def oAbs : OpN := fun ds Q => match ds with
  | [.int i] => Q (.pu (.int i.natAbs))
  | _ => False
def oInt : OpN := fun ds Q => match ds with
  | [.int i] => Q (.pu (.int i))
  | [.bl b] => Q (.pu (.int (b2i b)))
  | _ => False
def oTuple : OpN := fun ds Q => match ds with
  | [.tup xs] => Q (.pu (.tup xs))
  | [.lst xs] => Q (.pu (.tup xs))
  | [.scr xs] => Q (.pu (.tup xs))
  | _ => False
def oList : OpN := fun ds Q => match ds with
  | [.tup xs] => Q (.ol xs)
  | [.lst xs] => Q (.ol xs)
  | [.scr xs] => Q (.ol xs)
  | _ => False
def blsD : List D → Option (List Bool)
  | [] => some []
  | .bl b :: ds => (blsD ds).map (b :: ·)
  | _ => none
def intsD : List D → Option (List Int)
  | [] => some []
  | .int b :: ds => (intsD ds).map (b :: ·)
  | _ => none
def oAll : OpN := fun ds Q => match ds with
  | [.lst xs] => match blsD xs with
    | some bs => Q (.pu (.bl (bs.all id)))
    | none => False
  | _ => False
def oAny : OpN := fun ds Q => match ds with
  | [.lst xs] => match blsD xs with
    | some bs => Q (.pu (.bl (bs.any id)))
    | none => False
  | _ => False
def oSum : OpN := fun ds Q => match ds with
  | [.lst xs] => match intsD xs with
    | some ns => Q (.pu (.int ns.sum))
    | none => False
  | _ => False
/-- max, min of a list of ints, or of two -/
def oMax : OpN := fun ds Q => match ds with
  | [.lst xs] => match intsD xs with
    | some ns => 0 < ns.length ∧ ∀ m, m ∈ ns → (∀ y ∈ ns, y ≤ m) → Q (.pu (.int m))
    | none => False
  | [.int i, .int j] => Q (.pu (.int (if j > i then j else i)))
  | _ => False
def oMin : OpN := fun ds Q => match ds with
  | [.lst xs] => match intsD xs with
    | some ns => 0 < ns.length ∧ ∀ m, m ∈ ns → (∀ y ∈ ns, m ≤ y) → Q (.pu (.int m))
    | none => False
  | [.int i, .int j] => Q (.pu (.int (if j < i then j else i)))
  | _ => False
/-- sorted of a list of ints -/
def oSorted : OpN := fun ds Q => match ds with
  | [.lst xs] => match intsD xs with
    | some ns => ∀ ns' : List Int, ns'.Perm ns → ns'.Pairwise (· ≤ ·) → Q (.ol (ns'.map D.int))
    | none => False
  | _ => False
section
variable {X : Cx}
theorem call_lenD : CallR X (.builtin "len") (fun xs H Q => ∃ p kvs, xs = [.ref p] ∧ Rd H p (.dK kvs) ∧ Q (.int (kvs.length : Nat)) H) := by
  intro pins s σ H xs us Q I r h
  obtain ⟨p, kvs, rfl, hp, q⟩ := h
  obtain ⟨u, rfl, rx⟩ := vals1 r
  cases rx
  exact d_len I hp fun t s' I' => ⟨.int (kvs.length : Nat), H, I', ⟨t, rfl⟩, q⟩
theorem ok_len : OpNOk X (.builtin "len") oLen := by
  refine ⟨_, CallR.or call_len call_lenD, ?_⟩
  intro B F σ H S ds vs QQ Q hB R rd h k
  unfold oLen at h
  split at h
  · obtain ⟨v, rfl, t⟩ := ts1 rd
    obtain ⟨a, us, rfl, fa, ra⟩ := t_tup t
    refine .inl ⟨_, us.length, rfl, .inr ⟨us, hB ▸ fa.sq, rfl⟩, ?_⟩
    rw [ra.len]; exact fin_int R h k
  · obtain ⟨v, rfl, t⟩ := ts1 rd
    obtain ⟨a, us, rfl, fa, ra⟩ := t
    refine .inl ⟨_, us.length, rfl, .inl ⟨us, .inl (.inl fa), rfl⟩, ?_⟩
    rw [ra.len]; exact fin_int R h k
  · obtain ⟨v, rfl, t⟩ := ts1 rd
    obtain ⟨a, us, rfl, fa, ra⟩ := t_scr t
    refine .inl ⟨_, us.length, rfl, .inl ⟨us, hB ▸ fa.sq, rfl⟩, ?_⟩
    rw [ra.len]; exact fin_int R h k
  · obtain ⟨v, rfl, t⟩ := ts1 rd
    obtain ⟨a, us, rfl, fa, ra, hl⟩ := t
    refine .inr ⟨a, _, rfl, fa, ?_⟩
    rw [List.length_zip, ra.len, ← hl, Nat.min_self]; exact fin_int R h k
  · obtain ⟨v, rfl, t⟩ := ts1 rd
    rw [t_str t]
    exact .inl ⟨_, _, rfl, ⟨h.1, rfl⟩, fin_int R h.2 k⟩
  · exact h.elim
theorem ok_abs : OpNOk X (.builtin "abs") oAbs := by
  refine ⟨_, call_abs, ?_⟩
  intro B F σ H S ds vs QQ Q hB R rd h k
  unfold oAbs at h
  split at h
  · rename_i i
    obtain ⟨v, rfl, t⟩ := ts1 rd
    refine ⟨i, by rw [t_int t], ?_⟩
    have e : (if i < 0 then -i else i) = (i.natAbs : Int) := by split <;> omega
    rw [e]; exact fin_int R h k
  · exact h.elim
theorem ok_int : OpNOk X (.type "int") oInt := by
  refine ⟨_, call_int1, ?_⟩
  intro B F σ H S ds vs QQ Q hB R rd h k
  unfold oInt at h
  split at h
  · obtain ⟨v, rfl, t⟩ := ts1 rd
    exact .inl ⟨_, by rw [t_int t], fin_int R h k⟩
  · obtain ⟨v, rfl, t⟩ := ts1 rd
    refine .inr ⟨_, by rw [t_bl t], ?_⟩
    rw [b2i_if]; exact fin_int R h k
  · exact h.elim
theorem ok_tuple : OpNOk X (.type "tuple") oTuple := by
  refine ⟨_, call_tuple_ofS, ?_⟩
  intro B F σ H S ds vs QQ Q hB R rd h k
  unfold oTuple at h
  split at h
  · obtain ⟨v, rfl, t⟩ := ts1 rd
    obtain ⟨a, us, rfl, fa, ra⟩ := t_tup t
    exact ⟨a, us, rfl, .inr ⟨hB ▸ fa.sq, fin_any R t h k⟩⟩
  · obtain ⟨v, rfl, t⟩ := ts1 rd
    obtain ⟨a, us, rfl, fa, ra⟩ := t
    exact ⟨a, us, rfl, .inl ⟨.inl (.inl fa), fin_tup R ra h k⟩⟩
  · obtain ⟨v, rfl, t⟩ := ts1 rd
    obtain ⟨a, us, rfl, fa, ra⟩ := t_scr t
    exact ⟨a, us, rfl, .inl ⟨hB ▸ fa.sq, fin_tup R ra h k⟩⟩
  · exact h.elim
theorem ok_list : OpNOk X (.type "list") oList := by
  refine ⟨_, call_list_of, ?_⟩
  intro B F σ H S ds vs QQ Q hB R rd h k
  unfold oList at h
  split at h
  · obtain ⟨v, rfl, t⟩ := ts1 rd
    obtain ⟨a, us, rfl, fa, ra⟩ := t_tup t
    exact ⟨a, us, rfl, .inr (hB ▸ fa.sq), fin_lst R ra h k⟩
  · obtain ⟨v, rfl, t⟩ := ts1 rd
    obtain ⟨a, us, rfl, fa, ra⟩ := t
    exact ⟨a, us, rfl, .inl (.inl (.inl fa)), fin_lst R ra h k⟩
  · obtain ⟨v, rfl, t⟩ := ts1 rd
    obtain ⟨a, us, rfl, fa, ra⟩ := t_scr t
    exact ⟨a, us, rfl, .inl (hB ▸ fa.sq), fin_lst R ra h k⟩
  · exact h.elim
theorem bls_rp {K : PySem.W.Frag} {F : Addr → Prop} {H : Hp} : ∀ {ds : List D} {vs : List V} {bs : List Bool}, RpAll K F H ds vs → blsD ds = some bs → vs = bs.map V.bl
  | [], vs, bs, h, e => by cases e; unfold RpAll at h; exact h
  | d :: ds, vs, bs, h, e => by
    unfold RpAll at h
    obtain ⟨v, r, rfl, h1, h2⟩ := h
    cases d with
    | bl b =>
      cases q : blsD ds with
      | none => simp [blsD, q] at e
      | some bs' =>
        simp [blsD, q] at e; subst e
        rw [bls_rp h2 q, t_bl h1.t]; rfl
    | _ => simp [blsD] at e
theorem ints_rp {K : PySem.W.Frag} {F : Addr → Prop} {H : Hp} : ∀ {ds : List D} {vs : List V} {bs : List Int}, RpAll K F H ds vs → intsD ds = some bs → vs = bs.map V.int
  | [], vs, bs, h, e => by cases e; unfold RpAll at h; exact h
  | d :: ds, vs, bs, h, e => by
    unfold RpAll at h
    obtain ⟨v, r, rfl, h1, h2⟩ := h
    cases d with
    | int b =>
      cases q : intsD ds with
      | none => simp [intsD, q] at e
      | some bs' =>
        simp [intsD, q] at e; subst e
        rw [ints_rp h2 q, t_int h1.t]; rfl
    | _ => simp [intsD] at e
theorem rp_ints {K : PySem.W.Frag} {F : Addr → Prop} {H : Hp} : ∀ ns : List Int, RpAll K F H (ns.map D.int) (ns.map V.int)
  | [] => RpAll.nil
  | n :: ns => RpAll.cons rp_int (rp_ints ns)
theorem ok_all (hc : X.calm = true) : OpNOk X (.builtin "all") oAll := by
  refine ⟨_, cr_all hc, ?_⟩
  intro B F σ H S ds vs QQ Q hB R rd h k
  unfold oAll at h
  split at h
  · split at h
    · rename_i bs hb
      obtain ⟨v, rfl, t⟩ := ts1 rd
      obtain ⟨a, us, rfl, fa, ra⟩ := t
      rw [bls_rp ra hb] at fa
      exact ⟨a, bs, rfl, .inl (.inl fa), fin_bl R h k⟩
    · exact h.elim
  · exact h.elim
theorem ok_any (hc : X.calm = true) : OpNOk X (.builtin "any") oAny := by
  refine ⟨_, cr_any hc, ?_⟩
  intro B F σ H S ds vs QQ Q hB R rd h k
  unfold oAny at h
  split at h
  · split at h
    · rename_i bs hb
      obtain ⟨v, rfl, t⟩ := ts1 rd
      obtain ⟨a, us, rfl, fa, ra⟩ := t
      rw [bls_rp ra hb] at fa
      exact ⟨a, bs, rfl, .inl (.inl fa), fin_bl R h k⟩
    · exact h.elim
  · exact h.elim
theorem ok_sum (hc : X.calm = true) : OpNOk X (.builtin "sum") oSum := by
  refine ⟨_, cr_sum hc, ?_⟩
  intro B F σ H S ds vs QQ Q hB R rd h k
  unfold oSum at h
  split at h
  · split at h
    · rename_i bs hb
      obtain ⟨v, rfl, t⟩ := ts1 rd
      obtain ⟨a, us, rfl, fa, ra⟩ := t
      rw [ints_rp ra hb] at fa
      exact ⟨a, bs, rfl, .inl (.inl fa), fin_int R h k⟩
    · exact h.elim
  · exact h.elim
theorem ok_max (hc : X.calm = true) : OpNOk X (.builtin "max") oMax := by
  refine ⟨_, CallR.or (cr_max hc) (call_max2 hc), ?_⟩
  intro B F σ H S ds vs QQ Q hB R rd h k
  unfold oMax at h
  split at h
  · split at h
    · rename_i bs hb
      obtain ⟨v, rfl, t⟩ := ts1 rd
      obtain ⟨a, us, rfl, fa, ra⟩ := t
      rw [ints_rp ra hb] at fa
      exact .inl ⟨a, bs, rfl, .inl (.inl fa), h.1, fun m h1 h2 => fin_int R (h.2 m h1 h2) k⟩
    · exact h.elim
  · obtain ⟨v, u, rfl, t, t'⟩ := ts2 rd
    exact .inr ⟨_, _, by rw [t_int t, t_int t'], fin_int R h k⟩
  · exact h.elim
theorem ok_min (hc : X.calm = true) : OpNOk X (.builtin "min") oMin := by
  refine ⟨_, CallR.or (cr_min hc) (call_min2 hc), ?_⟩
  intro B F σ H S ds vs QQ Q hB R rd h k
  unfold oMin at h
  split at h
  · split at h
    · rename_i bs hb
      obtain ⟨v, rfl, t⟩ := ts1 rd
      obtain ⟨a, us, rfl, fa, ra⟩ := t
      rw [ints_rp ra hb] at fa
      exact .inl ⟨a, bs, rfl, .inl (.inl fa), h.1, fun m h1 h2 => fin_int R (h.2 m h1 h2) k⟩
    · exact h.elim
  · obtain ⟨v, u, rfl, t, t'⟩ := ts2 rd
    exact .inr ⟨_, _, by rw [t_int t, t_int t'], fin_int R h k⟩
  · exact h.elim
theorem ok_sorted : OpNOk X (.builtin "sorted") oSorted := by
  refine ⟨_, cr_sortedI, ?_⟩
  intro B F σ H S ds vs QQ Q hB R rd h k
  unfold oSorted at h
  split at h
  · split at h
    · rename_i bs hb
      obtain ⟨v, rfl, t⟩ := ts1 rd
      obtain ⟨a, us, rfl, fa, ra⟩ := t
      rw [ints_rp ra hb] at fa
      exact ⟨a, bs, rfl, .inl (.inl fa), fun ns' p h1 h2 hp => fin_lst R (rp_ints ns') (h ns' h1 h2) k p hp⟩
    · exact h.elim
  · exact h.elim
end
end DL
namespace DL
open PySem PySem.Spec PyProof.Rows L2

/-! ### isinstance of one built-in type -/
inductive Ty where
  | int | bool | str | tuple | list | dict
def Ty.name : Ty → String
  | .int => "int" | .bool => "bool" | .str => "str" | .tuple => "tuple" | .list => "list" | .dict => "dict"
def tyN : D → String
  | .non => "NoneType" | .bl _ => "bool" | .int _ => "int" | .str _ => "str" | .tup _ => "tuple" | .lst _ => "list" | .dct _ _ => "dict" | .scr _ => "list"
def isTy : Ty → D → Bool
  | .int, .int _ => true
  | .int, .bl _ => true
  | .bool, .bl _ => true
  | .str, .str _ => true
  | .tuple, .tup _ => true
  | .list, .lst _ => true
  | .list, .scr _ => true
  | .dict, .dct _ _ => true
  | _, _ => false
def isN (t : Ty) (n : String) : Bool := match t with
  | .int => n == "int" || n == "bool" | .bool => n == "bool" | .str => n == "str" | .tuple => n == "tuple" | .list => n == "list" | .dict => n == "dict"
theorem isTy_N (t : Ty) (d : D) : isTy t d = isN t (tyN d) := by cases t <;> cases d <;> rfl
theorem kit_N : ∀ t : Ty, ∀ n ∈ ["NoneType", "bool", "int", "str", "tuple", "list", "dict"], kitB n t.name = some (isN t n) := by
  intro t; cases t <;> decide +kernel
theorem tyN_mem (d : D) : tyN d ∈ ["NoneType", "bool", "int", "str", "tuple", "list", "dict"] := by cases d <;> simp [tyN]
theorem kit_D (t : Ty) (d : D) : kitB (tyN d) t.name = some (isTy t d) := by rw [isTy_N]; exact kit_N t _ (tyN_mem d)
theorem tyX_of {K : PySem.W.Frag} {F : Addr → Prop} {H : Hp} {d : D} {x : V} (h : RpT K F H d x) : TyX K H x (.type (tyN d)) := by
  cases d with
  | non => rw [t_non h]; exact .base .non
  | bl b => rw [t_bl h]; exact .base (.bl b)
  | int b => rw [t_int h]; exact .base (.int b)
  | str b => rw [t_str h]; exact .base (.str b)
  | tup ds =>
    obtain ⟨a, vs, rfl, fa, _⟩ := t_tup h
    rcases fa with ⟨_, u, g, o, rfl, _⟩ | ⟨o, its, n, g, c, _⟩
    · exact .fTuple g
    · exact .kTuple g c
  | lst ds => obtain ⟨a, vs, rfl, fa, _⟩ := h; exact .base (.lst fa)
  | dct ks ds =>
    obtain ⟨a, vs, rfl, fa, _⟩ := h
    rcases fa with fa | ⟨o, fa⟩
    · exact .base (.dK fa)
    · exact .fDict fa
  | scr ds =>
    obtain ⟨a, vs, rfl, fa, _⟩ := t_scr h
    rcases fa with ⟨_, g⟩ | ⟨o, its, n, g, c, _⟩
    · rcases g with g | ⟨ob, g⟩
      · exact .base (.lst g)
      · exact .base (.frz g)
    · exact .kList g c
def dIsi (t : Ty) (da : Den) : Den := fun S Q => da S fun x S1 => match rd S1 (hold x) with
  | some d => Q (.pu (.bl (isTy t d))) S1
  | none => False
section
variable {X : Cx} {B : Bs} {pos p p2 : Pos} {a b c : Expr} {da db dc : Den} {T : Str}
theorem de_isi (t : Ty) (hB : B.K = X.K) (hg : Gl X "isinstance") (hm : X.mg "isinstance" = none) (hg2 : Gl X T) (hm2 : X.mg T = none) (hv : bootBuiltins T = some (.type t.name)) (ha : PE X a (tD B da))
    (hn : T ≠ "__name__" := by decide) (hdb : (T == ("__debug__" : Str)) = false := by decide)
    (he1 : starEach [a, .Name T p2] X.env = (false, eval a X.env) :: starEach [.Name T p2] X.env := by rfl) (he : starEach [.Name T p2] X.env = (false, eval (.Name T p2) X.env) :: starEach [] X.env := by rfl)
    (hpl : (backTo pos (starEach [.Name T p2] X.env)).any (·.1) = false := by rfl) :
    PE X (.Call (.Name "isinstance" p) [a, .Name T p2] [] pos) (tD B (dIsi t da)) := by
  refine PE_imp (pe_callB call_isi hg hm (by decide +kernel) (pa_cons ha (pa_cons (pe_bltn (v := .ty t.name) hg2 hm2 hv rfl hn hdb) pa_nil he) he1) (by decide) (by decide) he1 hpl) ?_
  rintro σ H Q ⟨P, F, S, QQ, R, q, k⟩
  refine ⟨P, F, S, _, R, q, fun x S1 q1 v1 H1 F1 e1 R1 r1 => ?_⟩
  obtain ⟨F1', e1', R1', r1'⟩ := hold_ok R1 r1
  have q1' : (match rd S1 (hold x) with
    | some d => QQ (.pu (.bl (isTy t d))) S1
    | none => False) := q1
  cases h1 : rd S1 (hold x) with
  | none => rw [h1] at q1'; exact q1'.elim
  | some d =>
    rw [h1] at q1'
    have tt := RelRv.t R1' (RelH.rv r1') h1
    refine ⟨v1, .ty t.name, .type (tyN d), .type t.name, isTy t d, rfl, .ty _, hB ▸ tyX_of tt, kit_ty (kit_D t d), ?_⟩
    exact k _ _ q1' _ H1 F1' (e1.trans e1') R1' rv_bl

/-! ### minus, chains -/
def dNeg (da : Den) : Den := fun S Q => da S fun x S1 => match x with
  | .pu (.int i) => Q (.pu (.int (-i))) S1
  | _ => False
theorem de_neg (ha : PE X a (tD B da)) : PE X (.UnaryOp .USub a pos) (tD B (dNeg da)) := by
  refine PE_imp (pe_un un_neg ha) ?_
  rintro σ H Q ⟨P, F, S, QQ, R, q, k⟩
  refine ⟨P, F, S, _, R, q, fun x S1 q1 v1 H1 F1 e1 R1 r1 => ?_⟩
  cases x with
  | pu d =>
    cases d with
    | int i =>
      have r1' : Rp B.K F1 H1 (.int i) v1 := r1
      unfold Rp at r1'
      exact ⟨i, r1', k _ _ q1 _ H1 F1 e1 R1 rv_int⟩
    | _ => exact q1.elim
  | _ => exact q1.elim
def dChain (o o' : Op2) (da db dc : Den) : Den := fun S Q => da S fun x S1 => db S1 fun y S2 => match rd S2 (hold x), rd S2 (hold y) with
  | some d, some e => o d e fun r => match r with
    | .pu (.bl true) => dc S2 fun z S3 => (match rd S3 (hold y), rd S3 z with
      | some e', some f => o' e' f fun r => Q r S3
      | _, _ => False)
    | .pu (.bl false) => Q (.pu (.bl false)) S2
    | _ => False
  | _, _ => False
theorem chain_run {o o' : Op2} {r r' : R2} (hB : B.K = X.K) (ho : ∀ (B : Bs) (F : Addr → Prop) (σ : L2.St) (H : Hp) (S : Sg) (d e : D) (x y : V) (QQ : Rv → Prop) (Q : VK), B.K = X.K → Rel B F σ H S → RpT B.K F H d x → RpT B.K F H e y → o d e QQ →
  (∀ rv, QQ rv → ∀ v H' F', Ext F H F' H' → Rel B F' σ H' S → RelRv B F' σ H' S rv v → Q v H') → r x y H Q)
  (ho' : ∀ (B : Bs) (F : Addr → Prop) (σ : L2.St) (H : Hp) (S : Sg) (d e : D) (x y : V) (QQ : Rv → Prop) (Q : VK), B.K = X.K → Rel B F σ H S → RpT B.K F H d x → RpT B.K F H e y → o' d e QQ →
  (∀ rv, QQ rv → ∀ v H' F', Ext F H F' H' → Rel B F' σ H' S → RelRv B F' σ H' S rv v → Q v H') → r' x y H Q) :
    ∀ σ H Q, tD B (dChain o o' da db dc) σ H Q → tChain r r' (tD B da) (tD B db) (tD B dc) σ H Q := by
  rintro σ H Q ⟨P, F, S, QQ, R, q, k⟩
  refine ⟨P, F, S, _, R, q, fun x S1 q1 v1 H1 F1 e1 R1 r1 => ?_⟩
  obtain ⟨F1', e1', R1', r1'⟩ := hold_ok R1 r1
  refine ⟨P, F1', S1, _, R1', q1, fun y S2 q2 v2 H2 F2 e2 R2 r2 => ?_⟩
  obtain ⟨F2', e2', R2', r2'⟩ := hold_ok R2 r2
  have E2 : Ext F H F2' H2 := (e1.trans e1').trans (e2.trans e2')
  cases h1 : rd S2 (hold x) with
  | none => rw [h1] at q2; exact q2.elim
  | some d =>
    cases h2 : rd S2 (hold y) with
    | none => rw [h1, h2] at q2; exact q2.elim
    | some e =>
      rw [h1, h2] at q2
      refine ho (B.p P) F2' σ H2 S2 d e v1 v2 _ _ hB R2' (RelRv.t R2' (RelH.rv (r1'.ext (e2.trans e2'))) h1) (RelRv.t R2' (RelH.rv r2') h2) q2 fun rv qr v H3 F3 e3 R3 r3 => ?_
      cases rv with
      | pu dd =>
        cases dd with
        | bl b =>
          cases b with
          | true =>
            refine ⟨true, rv_bl_of r3, ?_⟩
            rw [if_pos rfl]
            refine ⟨P, F3, S2, _, R3, qr, fun z S4 q4 v4 H4 F4 e4 R4 r4 => ?_⟩
            cases g1 : rd S4 (hold y) with
            | none => simp only [g1] at q4
            | some e' =>
              cases g2 : rd S4 z with
              | none => simp only [g1, g2] at q4
              | some f =>
                simp only [g1, g2] at q4
                refine ho' (B.p P) F4 σ H4 S4 e' f v2 v4 _ Q hB R4 (RelRv.t R4 (RelH.rv (r2'.ext (e3.trans e4))) g1) (RelRv.t R4 r4 g2) q4 fun rv qr v H' F' e' R' r' => ?_
                exact k _ _ qr v H' F' (E2.trans (e3.trans (e4.trans e'))) R' r'
          | false =>
            refine ⟨false, rv_bl_of r3, ?_⟩
            rw [if_neg Bool.false_ne_true]
            exact k _ _ qr _ H3 F3 (E2.trans e3) R3 rv_bl
        | _ => exact qr.elim
      | _ => exact qr.elim
theorem de_chain {op op' : CmpOp} {o o' : Op2} (ho : Op2Ok X (compareOp op) o) (ho' : Op2Ok X (compareOp op') o') (hB : B.K = X.K) (ha : PE X a (tD B da)) (hb : PE X b (tD B db)) (hc : PE X c (tD B dc))
    (hm : lastMarks [op, op'] [b, c] = false := by with_unfolding_all rfl) : PE X (.Compare a [op, op'] [b, c] pos) (tD B (dChain o o' da db dc)) := by
  obtain ⟨r, h1, h2⟩ := ho
  obtain ⟨r', h1', h2'⟩ := ho'
  exact PE_imp (pe_chain h1 h1' ha hb hc hm) (chain_run hB h2 h2')
theorem dt_chain {op op' : CmpOp} {o o' : Op2} (ho : Op2Ok X (compareOp op) o) (ho' : Op2Ok X (compareOp op') o') (hB : B.K = X.K) (ha : PE X a (tD B da)) (hb : PE X b (tD B db)) (hc : PE X c (tD B dc))
    (hm : lastMarks [op, op'] [b, c] = false := by with_unfolding_all rfl) : PT X (.Compare a [op, op'] [b, c] pos) (tDT B (dTest (dChain o o' da db dc))) := by
  obtain ⟨r, h1, h2⟩ := ho
  obtain ⟨r', h1', h2'⟩ := ho'
  refine PT_imp (pt_chain h1 h1' ha hb hc hm) fun σ H Q q => ?_
  exact chain_run hB h2 h2' σ H _ (tD_test σ H Q q)
end

/-! ### a def's promise over data -/
abbrev FDen := List D → (Rv → Prop) → Prop
/-- what comes back: data, or a new list or dict that nobody else knows -/
def RetOk (K : PySem.W.Frag) (F' : Addr → Prop) (H H' : Hp) : Rv → V → Prop
  | .pu d, v => Rp K F' H' d v
  | .ol ds, v => ∃ a vs, v = .ref a ∧ H a = none ∧ ¬ F' a ∧ H' a = some (.lst vs) ∧ RpAll K F' H' ds vs
  | .od kvs, v => ∃ a vs, v = .ref a ∧ H a = none ∧ ¬ F' a ∧ H' a = some (.dK ((kvs.map (·.1)).zip vs)) ∧ RpAll K F' H' (kvs.map (·.2)) vs
  | .al _, _ => False
def spD (K : PySem.W.Frag) (f : FDen) : Sp := fun vs H Q _ => ∃ F ds QQ, (∀ a, F a → H a ≠ none) ∧ RpAll K F H ds vs ∧ f ds QQ ∧
  ∀ rv, QQ rv → ∀ v H' F', (∀ a, F a → NT (H a) → F' a) → (∀ a, F' a → F a ∨ H a = none) → (∀ b o, H b = some o → H' b = some o) → (∀ a, F' a → H' a ≠ none) → RetOk K F' H H' rv v → Q v H'
/-- .. whose first argument is a list that it may change -/
abbrev IDen := List D → List D → (Rv → List D → Prop) → Prop
def spIO (K : PySem.W.Frag) (f : IDen) : Sp := fun vs H Q _ => ∃ F a hv r hs ds QQ, vs = .ref a :: r ∧ (∀ a, F a → H a ≠ none) ∧ ¬ F a ∧ H a = some (.lst hv) ∧ RpAll K F H hs hv ∧ RpAll K F H ds r ∧ f hs ds QQ ∧
  ∀ rv hs', QQ rv hs' → ∀ v H' F' hv', (∀ a, F a → NT (H a) → F' a) → (∀ b, F' b → F b ∨ H b = none) → (∀ b o, b ≠ a → H b = some o → H' b = some o) → (∀ b, F' b → H' b ≠ none) → H' a = some (.lst hv') → RpAll K F' H' hs' hv' → RetOk K F' H H' rv v → Q v H'
def dCall (f : FDen) (da : DenA) : Den := fun S Q => da S fun xs S1 => match frcs S1 xs with
  | some (ds, S2) => f ds fun rv => Q rv S2
  | none => False
/-- the call of f(x, ..), x the name of an own list -/
def dCallIO (f : IDen) (da : DenA) : Den := fun S Q => da S fun xs S1 => match xs with
  | .al i :: ys => (match frcs S1 ys with
    | some (ds, S2) => (match S2[i]? with
      | some (.ol hs) => f hs ds fun rv hs' => Q rv (S2.set i (.ol hs'))
      | some (.io k hs) => f hs ds fun rv hs' => Q rv (S2.set i (.io k hs'))
      | _ => False)
    | none => False)
  | _ => False
section
variable {X : Cx} {B : Bs} {pos p : Pos} {e : Expr} {es : List Expr} {da : DenA} {k : Nat} {f : Addr} {fd : FuncData} {ps : List Str} {x : Str} {g : FDen} {gi : IDen}
theorem RetOk.rv {B : Bs} {F F' : Addr → Prop} {σ : L2.St} {H H' : Hp} {S : Sg} (R : Rel B F σ H S) {rv : Rv} {v : V} (h : RetOk B.K F' H H' rv v) : RelRv B F' σ H' S rv v := by
  cases rv with
  | pu d => exact h
  | ol ds =>
    obtain ⟨a, vs, rfl, h0, h1, h2, h3⟩ := h
    exact ⟨a, vs, rfl, h2, ⟨h1, (R.freshNone h0).2⟩, h3⟩
  | od kvs =>
    obtain ⟨a, vs, rfl, h0, h1, h2, h3⟩ := h
    exact ⟨a, vs, rfl, h2, ⟨h1, (R.freshNone h0).2⟩, h3⟩
  | al i => exact h.elim
theorem RetOk.rv' {B : Bs} {F F' : Addr → Prop} {σ : L2.St} {H H' : Hp} {S S' : Sg} (R : Rel B F σ H S) (hs : ∀ j, ownAt S' j = true → ownAt S j = true) {rv : Rv} {v : V} (h : RetOk B.K F' H H' rv v) : RelRv B F' σ H' S' rv v := by
  cases rv with
  | pu d => exact h
  | ol ds =>
    obtain ⟨a, vs, rfl, h0, h1, h2, h3⟩ := h
    obtain ⟨_, f1, f2, f3, f4⟩ := R.freshNone h0
    exact ⟨a, vs, rfl, h2, ⟨h1, f1, f2, f3, fun j hj => f4 j (hs j hj)⟩, h3⟩
  | od kvs =>
    obtain ⟨a, vs, rfl, h0, h1, h2, h3⟩ := h
    obtain ⟨_, f1, f2, f3, f4⟩ := R.freshNone h0
    exact ⟨a, vs, rfl, h2, ⟨h1, f1, f2, f3, fun j hj => f4 j (hs j hj)⟩, h3⟩
  | al i => exact h.elim
theorem ownAt_set_own {S : Sg} {i : Nat} {s s' : Sl} (h : S[i]? = some s) (ho : s.own = true) : ∀ j, ownAt (S.set i s') j = true → ownAt S j = true := fun j hj => by
  rw [ownAt_set] at hj
  by_cases w : i = j ∧ i < S.length
  · unfold ownAt; rw [← w.1, h]; exact ho
  · rw [if_neg w] at hj; exact hj
theorem call_run (hB : B.K = X.K) : ∀ σ H Q, tD B (dCall g da) σ H Q → tCall (spD X.K g) [] E0 (tDA B da) σ H Q := by
  rintro σ H Q ⟨P, F, S, QQ, R, q, k⟩
  refine ⟨P, F, S, _, R, q, fun xs S1 q1 vs H1 F1 e1 R1 r1 => ?_⟩
  cases h1 : frcs S1 xs with
  | none => simp only [h1] at q1
  | some p =>
    obtain ⟨ds, S2⟩ := p
    simp only [h1] at q1
    obtain ⟨F2, e2, R2, r2⟩ := RelHs.frc R1 r1 h1
    rw [List.append_nil]
    refine ⟨F2, ds, _, R2.dom, hB ▸ r2, q1, fun rv qr v H' F' h2 h3 h4 h5 hr => ?_⟩
    have e3 : Ext F2 H1 F' H' := ⟨h2, fun a ha _ => by
      cases q : H1 a with
      | none => exact absurd q (R2.dom a ha)
      | some o => exact h4 a o q⟩
    exact k _ _ qr v H' F' ((e1.trans e2).trans e3) (R2.grow e3 h4 h3 h5) (RetOk.rv R2 (hB ▸ hr))
theorem de_call (G : FnOk X.prog X.w X.K X.mg X.base CX0 k f fd ps (spD X.K g)) (hr : Room k X.A) (hB : B.K = X.K) (hg : Gl X x) (hm : X.mg x = some (.ref f)) (hk : PySem.W.keepIn X.K (.ref f) = true) (hb : Binds X.K fd ps [])
    (ha : PA X (e :: es) (tDA B da)) (hdb : (x == ("__debug__" : Str)) = false := by decide) (he : starEach (e :: es) X.env = (false, eval e X.env) :: starEach es X.env := by rfl) (hpl : (backTo pos (starEach es X.env)).any (·.1) = false := by rfl) :
    PE X (.Call (.Name x p) (e :: es) [] pos) (tD B (dCall g da)) :=
  PE_imp (pe_call G hr hg hm hk hb .nil pass0 ha hdb he hpl) (call_run hB)
theorem de_call0 (G : FnOk X.prog X.w X.K X.mg X.base CX0 k f fd ps (spD X.K g)) (hr : Room k X.A) (hB : B.K = X.K) (hg : Gl X x) (hm : X.mg x = some (.ref f)) (hk : PySem.W.keepIn X.K (.ref f) = true) (hb : Binds X.K fd ps [])
    (hdb : (x == ("__debug__" : Str)) = false := by decide) : PE X (.Call (.Name x p) [] [] pos) (tD B (dCall g dNil)) := by
  refine PE_imp (pe_call0 G hr hg hm hk hb .nil pass0 hdb) fun σ H Q h => ?_
  obtain ⟨P, F, S, QQ, R, q, k⟩ := h
  refine ⟨F, [], fun rv => QQ rv S, R.dom, RpAll.nil, q, fun rv qr v H' F' h2 h3 h4 h5 hr => ?_⟩
  have e3 : Ext F H F' H' := ⟨h2, fun a ha _ => by
    cases q : H a with
    | none => exact absurd q (R.dom a ha)
    | some o => exact h4 a o q⟩
  exact k _ _ qr v H' F' e3 (R.grow e3 h4 h3 h5) (RetOk.rv R (hB ▸ hr))
/-- behind a call that changed the own list at a name -/
theorem Rel.callIO {F F' : Addr → Prop} {σ : L2.St} {H H' : Hp} {S : Sg} {i : Nat} {s s' : Sl} {a : Addr} (R : Rel B F σ H S) (hs : S[i]? = some s) (ho : s.own = true) (ho' : s'.own = true) (he : σ[i]? = some (some (.ref a)))
    (h2 : ∀ a, F a → NT (H a) → F' a) (h3 : ∀ b, F' b → F b ∨ H b = none) (h4 : ∀ b o, b ≠ a → H b = some o → H' b = some o) (h5 : ∀ b, F' b → H' b ≠ none) (hc : RelC B F' H' s' (.ref a)) (ha : H' a ≠ none) :
    Ext F H F' H' ∧ Rel B F' σ H' (S.set i s') := by
  have ow : ownAt S i = true := by unfold ownAt; rw [hs]; exact ho
  obtain ⟨a', o', e1, e2, e3, e4, _⟩ := R.ownA ow
  rw [he] at e1; cases e1
  have hl : i < S.length := (List.getElem?_eq_some_iff.mp hs).1
  have ex : Ext F H F' H' := ⟨h2, fun b hb _ => by
    cases q : H b with
    | none => exact absurd q (R.dom b hb)
    | some o => exact h4 b o (fun z => e3 (z ▸ hb)) q⟩
  have os : ∀ j, ownAt (S.set i s') j = ownAt S j := fun j => by
    rw [ownAt_set]
    by_cases w : i = j ∧ i < S.length
    · rw [if_pos w, ho', ← w.1, ow]
    · rw [if_neg w]
  refine ⟨ex, by simp [R.len], fun j t ht => ?_, fun x y u hx hy => R.dist x y u (by rw [os] at hx; exact hx) (by rw [os] at hy; exact hy), fun b u g1 g2 => ?_, fun b hb => ?_, fun b hb => ?_, h5, R.iof, fun p hp => ?_, tab_keep R.tab fun b o e n => h4 b o (fun z => by
    obtain ⟨a2, o2, f1, f2, f3⟩ := R.ownLD ow
    rw [he] at f1; cases f1
    rw [z, f2] at e; cases e
    exact n f3) e, R.pnl⟩
  · by_cases z : i = j
    · subst z
      rw [List.getElem?_set_self hl] at ht; cases ht
      exact .inr ⟨_, he, hc⟩
    · rw [List.getElem?_set_ne z] at ht
      rcases R.sl j t ht with q | ⟨v, e, r⟩
      · exact .inl q
      · refine .inr ⟨v, e, r.ext ex (fun o2 b eb fb => ?_) fun o2 b eb => ?_⟩
        · obtain ⟨b', ob, f1, f2, f3, _⟩ := R.ownA (i := j) (by unfold ownAt; rw [ht]; exact o2)
          rw [e, eb] at f1; cases f1
          rcases h3 b fb with w | w
          · exact f3 w
          · rw [w] at f2; cases f2
        · have oj : ownAt S j = true := by unfold ownAt; rw [ht]; exact o2
          obtain ⟨b', ob, f1, f2, f3, _⟩ := R.ownA oj
          rw [e, eb] at f1; cases f1
          rw [f2]
          refine h4 b ob (fun w => z ?_) f2
          subst w
          exact R.dist i j _ ow oj he (by rw [e, eb])
  · rcases e4 with z | z
    · exact h4 b u (fun w => by rw [w, z] at g1; cases g1) (R.keep b u g1 g2)
    · exact h4 b u (fun w => g2 (w ▸ z)) (R.keep b u g1 g2)
  · by_cases z : b = a
    · rw [z]; exact ha
    · cases q : H b with
      | none => exact absurd q (R.ios b hb)
      | some o => rw [h4 b o z q]; exact fun w => nomatch w
  · rcases h3 b hb with w | w
    · exact R.frz b w
    · exact .inr (R.none0 w)
  · obtain ⟨g1, g2, g3, g4⟩ := R.pns p hp
    have ne : p.1 ≠ a := fun z => g4 i ow (by rw [z]; exact he)
    refine ⟨h4 _ _ ne g1, fun z => ?_, g3, fun j hj => g4 j (by rw [os] at hj; exact hj)⟩
    rcases h3 _ z with w | w
    · exact g2 w
    · rw [w] at g1; cases g1
theorem callIO_run (hB : B.K = X.K) : ∀ σ H Q, tD B (dCallIO gi da) σ H Q → tCall (spIO X.K gi) [] E0 (tDA B da) σ H Q := by
  rintro σ H Q ⟨P, F, S, QQ, R, q, k⟩
  refine ⟨P, F, S, _, R, q, fun xs S1 q1 vs H1 F1 e1 R1 r1 => ?_⟩
  cases xs with
  | nil => exact q1.elim
  | cons x ys =>
    cases x with
    | al i =>
      obtain ⟨v, us, rfl, r0, r1⟩ := r1
      dsimp only at q1
      cases h1 : frcs S1 ys with
      | none => simp only [h1] at q1
      | some p =>
        obtain ⟨ds, S2⟩ := p
        simp only [h1] at q1
        obtain ⟨F2, e2, R2, r2⟩ := RelHs.frc R1 r1 h1
        rw [List.append_nil]
        have r0' : σ[i]? = some (some v) := r0
        cases h2 : S2[i]? with
        | none => simp only [h2] at q1
        | some s =>
          rcases R2.sl i s h2 with rfl | ⟨u, g1, g2⟩
          · simp only [h2] at q1
          · rw [r0'] at g1; cases g1
            cases s with
            | no => simp only [h2] at q1
            | pu d => simp only [h2] at q1
            | ex a => simp only [h2] at q1
            | od kvs => simp only [h2] at q1
            | ol hs =>
              simp only [h2] at q1
              obtain ⟨a, hv, rfl, w1, w2, w3, w4⟩ := g2
              refine ⟨F2, a, hv, us, hs, ds, _, rfl, R2.dom, w2, w1, hB ▸ w4, hB ▸ r2, q1, fun rv hs' qr v H' F' hv' b1 b2 b3 b4 b5 b6 b7 => ?_⟩
              have nf : ¬ F' a := fun z => (b2 a z).elim w2 fun y => by rw [w1] at y; cases y
              obtain ⟨e3, R3⟩ := R2.callIO h2 rfl (s' := .ol hs') rfl r0' b1 b2 b3 b4 ⟨a, hv', rfl, b5, nf, w3, hB ▸ b6⟩ (by rw [b5]; exact fun z => nomatch z)
              exact k _ _ qr v H' F' ((e1.trans e2).trans e3) R3 (RetOk.rv' R2 (ownAt_set_own h2 rfl) (hB ▸ b7))
            | io kk hs =>
              simp only [h2] at q1
              obtain ⟨a, hv, rfl, w0, w1, w2, w4⟩ := g2
              refine ⟨F2, a, hv, us, hs, ds, _, rfl, R2.dom, w2, w1, hB ▸ w4, hB ▸ r2, q1, fun rv hs' qr v H' F' hv' b1 b2 b3 b4 b5 b6 b7 => ?_⟩
              have nf : ¬ F' a := fun z => (b2 a z).elim w2 fun y => by rw [w1] at y; cases y
              obtain ⟨e3, R3⟩ := R2.callIO h2 rfl (s' := .io kk hs') rfl r0' b1 b2 b3 b4 ⟨a, hv', rfl, w0, b5, nf, hB ▸ b6⟩ (by rw [b5]; exact fun z => nomatch z)
              exact k _ _ qr v H' F' ((e1.trans e2).trans e3) R3 (RetOk.rv' R2 (ownAt_set_own h2 rfl) (hB ▸ b7))
    | _ => exact q1.elim
theorem de_callIO (G : FnOk X.prog X.w X.K X.mg X.base CX0 k f fd ps (spIO X.K gi)) (hr : Room k X.A) (hB : B.K = X.K) (hg : Gl X x) (hm : X.mg x = some (.ref f)) (hk : PySem.W.keepIn X.K (.ref f) = true) (hb : Binds X.K fd ps [])
    (ha : PA X (e :: es) (tDA B da)) (hdb : (x == ("__debug__" : Str)) = false := by decide) (he : starEach (e :: es) X.env = (false, eval e X.env) :: starEach es X.env := by rfl) (hpl : (backTo pos (starEach es X.env)).any (·.1) = false := by rfl) :
    PE X (.Call (.Name x p) (e :: es) [] pos) (tD B (dCallIO gi da)) :=
  PE_imp (pe_call G hr hg hm hk hb .nil pass0 ha hdb he hpl) (callIO_run hB)
theorem frcs_len {S S' : Sg} : ∀ {rvs : List Rv} {ds : List D}, frcs S rvs = some (ds, S') → ds.length = rvs.length := by
  intro rvs
  induction rvs generalizing S S' with
  | nil => intro ds e; cases e; rfl
  | cons r rs ih =>
    intro ds e
    unfold frcs at e
    cases q : frc S r with
    | none => rw [q] at e; cases e
    | some p =>
      obtain ⟨d, S1⟩ := p
      rw [q] at e
      cases q2 : frcs S1 rs with
      | none => simp only [q2] at e; cases e
      | some p2 =>
        obtain ⟨ds', S2⟩ := p2
        simp only [q2] at e
        cases e
        simp [ih q2]
end
end DL
namespace DL
open PySem PySem.Spec PyProof.Rows L2

/-! ### what is walked -/
abbrev DenI := Sg → (List D → Sg → Prop) → Prop
/-- J gives these, one a turn, as long as what is frozen stands -/
def IterOk (K : PySem.W.Frag) (J : It) (items : List D) (F : Addr → Prop) (H : Hp) : Prop := ∀ F' H', Ext F H F' H' → (∀ i, i < items.length → J.go i H') ∧ J.stop items.length H' ∧
  ∀ i x H'', i < items.length → J.yld i H' x H'' → ∃ d, items[i]? = some d ∧ ((H'' = H' ∧ Rp K F' H' d x) ∨ ∃ T u vs ds, x = .ref T ∧ H' T = none ∧ H'' = upd H' T u ∧ tupS u vs ∧ d = .tup ds ∧ RpAll K F' H' ds vs)
def tDI (B : Bs) (di : DenI) : TI := fun σ H R => ∃ P F S QQ, Rel (B.p P) F σ H S ∧ di S QQ ∧ ∀ items S', QQ items S' → ∀ J H' F', Ext F H F' H' → Rel (B.p P) F' σ H' S' → IterOk B.K J items F' H' → R J H'
def dSeq (da : Den) : DenI := fun S Q => da S fun x S1 => match frc S1 x with
  | some (.tup ds, S2) => Q ds S2
  | some (.lst ds, S2) => Q ds S2
  | _ => False
section
variable {X : Cx} {B : Bs} {tg l : Expr} {tl : TE} {da : Den}
theorem PI_imp {t t' : TI} (h : PI X tg l t) (i : ∀ σ H Q, t' σ H Q → t σ H Q) : PI X tg l t' := ⟨fun pins s σ H Q I w => h.run pins s σ H Q I (i σ H Q w)⟩
def iSeq (K : PySem.W.Frag) (tl : TE) : TI := fun σ H R => tl σ H fun x H1 => ∃ a, x = .ref a ∧ (((∃ xs, SqL K H1 a xs) ∧ R (Itl K a) H1) ∨ ((∃ xs, SqT K H1 a xs) ∧ R (Itt K a) H1))
theorem pi_seq (hl : PE X l tl) : PI X tg l (iSeq X.K tl) := by
  refine ⟨fun pins s σ H R I h => ?_⟩
  refine thn (hl.run pins s σ H _ I h) fun v s1 ⟨x, H1, I1, r1, q1⟩ => ?_
  obtain ⟨a, e, q1⟩ := q1
  subst e
  cases r1
  have fin : ∀ b ∈ [s1.heap.objs.size], FpOk X pins H1 b := fun b hb => by
    have e : b = s1.heap.objs.size := by simpa using hb
    subst e
    exact I1.fpOk (Nat.le_refl _) (I1.hok.fresh (Nat.le_refl _))
  rcases q1 with ⟨⟨xs, hq⟩, q⟩ | ⟨⟨xs, hq⟩, q⟩
  · obtain ⟨its, rv, p, hz⟩ := I1.list hq
    refine wpAny_pyIter_list p.isList ?_
    exact ⟨s1.heap.objs.size, [s1.heap.objs.size], _, _, H1, rfl, I1.kept (t' := s1.toks) fun b o e => Heap.get?_push_of_some _ e, turn_list a _, ⟨_, Heap.get?_push_size _ rfl, rfl, rfl⟩, fin, q⟩
  · obtain ⟨its, rv, p, hz⟩ := I1.tuple hq
    refine wpAny_pyIter_tuple (show s1.heap.IsTuple a its.toArray from p) ?_
    exact ⟨s1.heap.objs.size, [s1.heap.objs.size], _, _, H1, rfl, I1.kept (t' := s1.toks) fun b o e => Heap.get?_push_of_some _ e, turn_tuple a _, ⟨_, Heap.get?_push_size _ rfl, rfl, rfl⟩, fin, q⟩
theorem get_same {α : Type} {l : List α} {i : Nat} (h : i < l.length) : l[i]? = some l[i] := List.getElem?_eq_getElem h
theorem iter_list {K : PySem.W.Frag} {F : Addr → Prop} {H : Hp} {a : Addr} {ds : List D} {vs : List V} (fa : FzL F H a vs) (ra : RpAll K F H ds vs) : IterOk K (Itl K a) ds F H := by
  intro F' H' e
  have fa' := fa.ext e
  have ra' := RpAll.ext e _ _ ra
  have sq : SqL K H' a vs := fa'.sq
  have hl := ra.len
  refine ⟨fun i hi => ⟨vs, vs[i]'(by omega), sq, get_same (by omega)⟩, ⟨vs, sq, by omega⟩, fun i x H'' hi hy => ?_⟩
  obtain ⟨rfl, hx⟩ := hy
  obtain ⟨d, h1, h2⟩ := ra'.getV (hx vs sq)
  exact ⟨d, h1, .inl ⟨rfl, h2⟩⟩
theorem iter_tup {K : PySem.W.Frag} {F : Addr → Prop} {H : Hp} {a : Addr} {ds : List D} {vs : List V} (fa : FzT K F H a vs) (ra : RpAll K F H ds vs) : IterOk K (Itt K a) ds F H := by
  intro F' H' e
  have fa' := fa.ext e
  have ra' := RpAll.ext e _ _ ra
  have sq : SqT K H' a vs := fa'.sq
  have hl := ra.len
  refine ⟨fun i hi => ⟨vs, vs[i]'(by omega), sq, get_same (by omega)⟩, ⟨vs, sq, by omega⟩, fun i x H'' hi hy => ?_⟩
  obtain ⟨rfl, hx⟩ := hy
  obtain ⟨d, h1, h2⟩ := ra'.getV (hx vs sq)
  exact ⟨d, h1, .inl ⟨rfl, h2⟩⟩
theorem rp_tup {K : PySem.W.Frag} {F : Addr → Prop} {H : Hp} {ds : List D} {v : V} (h : Rp K F H (.tup ds) v) : ∃ a vs, v = .ref a ∧ FzT K F H a vs ∧ RpAll K F H ds vs := by unfold Rp at h; exact h
theorem rp_lst {K : PySem.W.Frag} {F : Addr → Prop} {H : Hp} {ds : List D} {v : V} (h : Rp K F H (.lst ds) v) : ∃ a vs, v = .ref a ∧ FzL F H a vs ∧ RpAll K F H ds vs := by unfold Rp at h; exact h
theorem di_seq (hB : B.K = X.K) (ha : PE X l (tD B da)) : PI X tg l (tDI B (dSeq da)) := by
  refine PI_imp (pi_seq ha) ?_
  rintro σ H Q ⟨P, F, S, QQ, R, q, k⟩
  refine ⟨P, F, S, _, R, q, fun x S1 q1 v1 H1 F1 e1 R1 r1 => ?_⟩
  cases h1 : frc S1 x with
  | none => simp only [h1] at q1
  | some p =>
    obtain ⟨d, S2⟩ := p
    simp only [h1] at q1
    obtain ⟨F2, e2, R2, r2⟩ := RelRv.frc R1 r1 h1
    cases d with
    | tup ds =>
      obtain ⟨a, vs, rfl, fa, ra⟩ := rp_tup r2
      exact ⟨a, rfl, .inr ⟨⟨vs, hB ▸ fa.sq⟩, k _ _ q1 _ H1 F2 (e1.trans e2) R2 (hB ▸ iter_tup fa ra)⟩⟩
    | lst ds =>
      obtain ⟨a, vs, rfl, fa, ra⟩ := rp_lst r2
      exact ⟨a, rfl, .inl ⟨⟨vs, fa.sq⟩, k _ _ q1 _ H1 F2 (e1.trans e2) R2 (hB ▸ iter_list fa ra)⟩⟩
    | _ => exact q1.elim
end

/-! ### range -/
def rangeD (lo : Int) (n : Nat) : List D := (List.range n).map fun i => .int (lo + (i : Nat))
def dRng (da : DenA) : DenI := fun S Q => da S fun xs S1 => match xs with
  | [.pu (.int j)] => -(2 ^ 62) ≤ j ∧ j < 2 ^ 62 ∧ Q (rangeD 0 j.toNat) S1
  | [.pu (.int i), .pu (.int j)] => -(2 ^ 62) ≤ i ∧ i < 2 ^ 62 ∧ -(2 ^ 62) ≤ j ∧ j < 2 ^ 62 ∧ Q (rangeD i (j - i).toNat) S1
  | _ => False
theorem iter_range {K : PySem.W.Frag} {F : Addr → Prop} {H : Hp} (lo : Int) (n : Nat) : IterOk K (Itr lo n) (rangeD lo n) F H := by
  intro F' H' e
  have hl : (rangeD lo n).length = n := by simp [rangeD]
  refine ⟨fun i hi => by rw [hl] at hi; exact hi, by rw [hl]; exact Nat.le_refl _, fun i x H'' hi hy => ?_⟩
  obtain ⟨rfl, rfl⟩ := hy
  rw [hl] at hi
  refine ⟨.int (lo + i), ?_, .inl ⟨rfl, rp_int⟩⟩
  simp [rangeD, hi]
section
variable {X : Cx} {B : Bs} {tg a b : Expr} {da : DenA} {p pos : Pos}
theorem rvhs_nil {F : Addr → Prop} {σ : L2.St} {H : Hp} {vs : List V} (h : RelHs B F σ H [] vs) : vs = [] := h
theorem di_range1 (hg : Gl X "range") (hm : X.mg "range" = none) (ha : PA X [a] (tDA B da)) (hs : starEach [a] X.env = [(false, eval a X.env)] := by rfl) : PI X tg (.Call (.Name "range" p) [a] [] pos) (tDI B (fun S Q => dRng (fun S Q => da S fun xs S1 => xs.length = 1 ∧ Q xs S1) S Q)) := by
  refine PI_imp (pi_range1 hg hm ha hs) ?_
  rintro σ H Q ⟨P, F, S, QQ, R, q, k⟩
  refine ⟨P, F, S, _, R, q, fun xs S1 q1 vs H1 F1 e1 R1 r1 => ?_⟩
  obtain ⟨hl, q1⟩ := q1
  split at q1
  · rename_i j
    obtain ⟨v, us, rfl, h1, h2⟩ := r1
    have h2' := rvhs_nil h2
    subst h2'
    have h1' : v = .int j := by
      have h : Rp B.K F1 H1 (.int j) v := h1
      unfold Rp at h; exact h
    subst h1'
    exact ⟨j, rfl, q1.1, q1.2.1, k _ _ q1.2.2 _ H1 F1 e1 R1 (iter_range 0 j.toNat)⟩
  · simp at hl
  · exact q1.elim
theorem di_range2 (hg : Gl X "range") (hm : X.mg "range" = none) (ha : PA X [a, b] (tDA B da)) (hs : starEach [a, b] X.env = [(false, eval a X.env), (false, eval b X.env)] := by rfl) (hs2 : starEach [b] X.env = [(false, eval b X.env)] := by rfl) :
    PI X tg (.Call (.Name "range" p) [a, b] [] pos) (tDI B (fun S Q => dRng (fun S Q => da S fun xs S1 => xs.length = 2 ∧ Q xs S1) S Q)) := by
  refine PI_imp (pi_range2 hg hm ha hs hs2) ?_
  rintro σ H Q ⟨P, F, S, QQ, R, q, k⟩
  refine ⟨P, F, S, _, R, q, fun xs S1 q1 vs H1 F1 e1 R1 r1 => ?_⟩
  obtain ⟨hl, q1⟩ := q1
  split at q1
  · simp at hl
  · rename_i i j
    obtain ⟨v, us, rfl, h1, h2⟩ := r1
    obtain ⟨v2, us2, rfl, h3, h4⟩ := h2
    have h4' := rvhs_nil h4
    subst h4'
    have h1' : v = .int i := by
      have h : Rp B.K F1 H1 (.int i) v := h1
      unfold Rp at h; exact h
    have h3' : v2 = .int j := by
      have h : Rp B.K F1 H1 (.int j) v2 := h3
      unfold Rp at h; exact h
    subst h1' h3'
    exact ⟨i, j, rfl, ⟨q1.1, q1.2.1, q1.2.2.1, q1.2.2.2.1⟩, k _ _ q1.2.2.2.2 _ H1 F1 e1 R1 (iter_range i (j - i).toNat)⟩
  · exact q1.elim
end

/-! ### zip of two, enumerate of one: lists or tuples -/
inductive Sd where
  | l | t
def SqX (k : Sd) (K : PySem.W.Frag) (H : Hp) (a : Addr) (xs : List V) : Prop := match k with
  | .l => SqL K H a xs
  | .t => SqT K H a xs
def ItrSt (k : Sd) (h : Heap) (it a : Addr) (i : Nat) : Prop := match k with
  | .l => h.IsListIter it a i
  | .t => h.IsTupleIter it a i
def Cnt (k : Sd) (h : Heap) (a : Addr) (items : Array Value) : Prop := match k with
  | .l => h.IsList a items
  | .t => h.IsTuple a items
def iob (k : Sd) (a : Addr) : Obj := match k with
  | .l => { cls := .type "list_iterator", data := .fields #[.ref a, .int 0 0] }
  | .t => { cls := .type "tuple_iterator", data := .fields #[.ref a, .int 0 0] }
theorem drawsX {prog : Program} {w : World} {A : Around} (k : Sd) (hh : A.handled = none) (it a : Addr) (hne : a ≠ it) (items : Array Value) :
    Draws prog w A it [it, a] items.size (fun i v => items[i]? = some v) (fun i h => ItrSt k h it a i ∧ Cnt k h a items) := by
  cases k
  · exact Draws.list hh it a hne items
  · exact Draws.tuple hh it a hne items
theorem beginsX (k : Sd) (a : Addr) (items : Array Value) : Begins (.ref a) (iob k a) fun h => Cnt k h a items := by
  cases k
  · exact begins_list a items
  · exact begins_tuple a items
theorem ItrSt.at {k : Sd} {h h' : Heap} {it a : Addr} {i : Nat} (x : ItrSt k h it a i) (hk : ∀ o, h.get? it = some o → h'.get? it = some o) : ItrSt k h' it a i := by
  cases k
  · exact Heap.IsListIter.at x hk
  · exact Heap.IsTupleIter.at x hk
theorem ItrSt.obj {k : Sd} {h : Heap} {it a : Addr} {i : Nat} (x : ItrSt k h it a i) : ∃ o, h.get? it = some o ∧ ∀ v, o.data ≠ .cell v := by
  cases k
  · obtain ⟨o, e, c, d⟩ := x; exact ⟨o, e, fun v z => by rw [d] at z; cases z⟩
  · obtain ⟨o, e, c, d⟩ := x; exact ⟨o, e, fun v z => by rw [d] at z; cases z⟩
theorem ItrSt.begin {k : Sd} {h : Heap} {it a : Addr} (e : h.get? it = some (iob k a)) : ItrSt k h it a 0 := by
  cases k
  · exact ⟨_, e, rfl, rfl⟩
  · exact ⟨_, e, rfl, rfl⟩
section
variable {X : Cx} {pins : List (Addr × Obj)} {σ : L2.St} {H : Hp} {s : Shared} {a : Addr} {xs ys : List V}
theorem seqX {k : Sd} (I : Inv X pins σ H s) (h : SqX k X.K H a xs) : ∃ its : List Value, Vals xs its ∧ Cnt k s.heap a its.toArray ∧ xs.length ≤ sizeLine := by
  cases k
  · obtain ⟨its, r, p, z⟩ := I.list h; exact ⟨its, r, p.isList, z⟩
  · obtain ⟨its, r, p, z⟩ := I.tuple h; exact ⟨its, r, p, z⟩
theorem seqX_inj {k : Sd} (I : Inv X pins σ H s) (h : SqX k X.K H a xs) (h' : SqX k X.K H a ys) : xs = ys := by
  cases k
  · exact I.list_inj h h'
  · exact I.tuple_inj h h'
theorem Cnt.lt {k : Sd} {h : Heap} {a : Addr} {items : Array Value} (x : Cnt k h a items) : a < h.objs.size := by
  cases k
  · obtain ⟨o, e, _⟩ := x; exact Heap.lt_size e
  · obtain ⟨o, e, _⟩ := x; exact Heap.lt_size e
end
theorem Cnt.ne {k k' : Sd} {h : Heap} {a b it : Addr} {items : Array Value} {i : Nat} (x : Cnt k h a items) (y : ItrSt k' h it b i) : a ≠ it := by
  intro e
  subst e
  have h1 : ∃ o n, h.get? a = some o ∧ o.data = .seq items n := by
    cases k
    · obtain ⟨o, e, _, n, d⟩ := x; exact ⟨o, n, e, d⟩
    · obtain ⟨o, e, _, n, d⟩ := x; exact ⟨o, n, e, d⟩
  have h2 : ∃ o fs, h.get? a = some o ∧ o.data = .fields fs := by
    cases k'
    · obtain ⟨o, e, _, d⟩ := y; exact ⟨o, _, e, d⟩
    · obtain ⟨o, e, _, d⟩ := y; exact ⟨o, _, e, d⟩
  obtain ⟨o, n, e1, d1⟩ := h1
  obtain ⟨o', fs, e2, d2⟩ := h2
  rw [e1] at e2; cases e2
  rw [d1] at d2; cases d2
def ItzX (k1 k2 : Sd) (K : PySem.W.Frag) (a b : Addr) : It :=
  ⟨fun i H => ∃ (xs ys : List V) (x y : V), SqX k1 K H a xs ∧ SqX k2 K H b ys ∧ xs[i]? = some x ∧ ys[i]? = some y,
    fun i H v H' => ∃ T x y u, v = .ref T ∧ H T = none ∧ H' = upd H T u ∧ tupS u [x, y] ∧ (∀ xs, SqX k1 K H a xs → xs[i]? = some x) ∧ ∀ ys, SqX k2 K H b ys → ys[i]? = some y,
    fun i H => ∃ xs ys : List V, SqX k1 K H a xs ∧ SqX k2 K H b ys ∧ i ≤ xs.length ∧ i ≤ ys.length ∧ (i = xs.length ∨ i = ys.length)⟩
theorem turn_zipX {P : Program} {w : World} {K : PySem.W.Frag} {elts : List Expr} {kk : Nat} {tpos : Pos} {k1 k2 : Sd} {a b z TI TO i1 i2 : Addr} (D : ZipSep2 z TI TO i1 i2 [i1, a] [i2, b]) :
    Turn P w K (.Tuple elts kk tpos) (ItzX k1 k2 K a b) [z, TI, TO, i1, i2] z (fun i h => IsZip h z TI TO .none ∧ IsTupOf2 h TI (.ref i1) (.ref i2) ∧ (∃ x y, IsTupOf2 h TO x y) ∧ ItrSt k1 h i1 a i ∧ ItrSt k2 h i2 b i) where
  mem := by simp
  obj := fun i h st c hc => by
    obtain ⟨hz, hTI, ⟨x, y, hTO⟩, s1, s2⟩ := st
    have e' : c = z ∨ c = TI ∨ c = TO ∨ c = i1 ∨ c = i2 := by simpa using hc
    rcases e' with q | q | q | q | q
    · rw [q]; exact ⟨_, hz, fun v q => nomatch q⟩
    · rw [q]; exact ⟨_, hTI, fun v q => nomatch q⟩
    · rw [q]; exact ⟨_, hTO, fun v q => nomatch q⟩
    · rw [q]; exact s1.obj
    · rw [q]; exact s2.obj
  keep := fun i h h' st k => by
    obtain ⟨hz, hTI, ⟨x, y, hTO⟩, h1, h2⟩ := st
    exact ⟨k z (by simp) _ hz, k TI (by simp) _ hTI, ⟨x, y, k TO (by simp) _ hTO⟩, h1.at fun o q => k i1 (by simp) o q, h2.at fun o q => k i2 (by simp) o q⟩
  item := by
    intro X hP hw hK hc i pins s σ H E I hf st hg
    subst hP hw hK
    obtain ⟨hz, hTI, ⟨x0, y0, hTO⟩, h1, h2⟩ := st
    obtain ⟨xs, ys, x, y, hqx, hqy, hx, hy⟩ := hg
    obtain ⟨its, rv, p, _⟩ := seqX I hqx
    obtain ⟨its2, rv2, p2, _⟩ := seqX I hqy
    obtain ⟨u, hu, ru⟩ := rv.get hx
    obtain ⟨u2, hu2, ru2⟩ := rv2.get hy
    have hzl : z < s.heap.objs.size := Heap.lt_size hz
    have hh : X.A.in1.handled = none := I.ok.hd hc
    have lt1 : i < its.toArray.size := by
      have := (List.getElem?_eq_some_iff.mp hu).1; simpa using this
    have lt2 : i < its2.toArray.size := by
      have := (List.getElem?_eq_some_iff.mp hu2).1; simpa using this
    refine wpAny_pyNext_zipD2_item D (drawsX k1 hh i1 a (p.ne h1) its.toArray) (drawsX k2 hh i2 b (p2.ne h2) its2.toArray) hz hTI hTO ⟨h1, p⟩ ⟨h2, p2⟩ lt1 lt2 fun w1 w2 h' tk e1 e2 z' TO' h1' h2' hT hsz hk => ?_
    have e1' : w1 = u := by
      have : its.toArray[i]? = some u := by simpa using hu
      rw [this] at e1; exact (Option.some.inj e1).symm
    have e2' : w2 = u2 := by
      have : its2.toArray[i]? = some u2 := by simpa using hu2
      rw [this] at e2; exact (Option.some.inj e2).symm
    subst e1' e2'
    refine ⟨_, rfl, wpAny_letOwnedTupleGo_zip (s := { s with heap := h', toks := tk }) z' fun h'' z'' sb => ?_⟩
    have hT2 : h''.get? s.heap.objs.size = some { cls := .type "tuple", data := .seq #[w1, w2] } := (sb.2 _ (Nat.ne_of_gt hzl)).trans hT
    have new : ObjOk X.prog X.w (upd H s.heap.objs.size (.frz { cls := .type "tuple", data := .seq #[w1, w2] } (.tup [x, y]))) h'' s.heap.objs.size (.frz { cls := .type "tuple", data := .seq #[w1, w2] } (.tup [x, y])) :=
      tupS_ok (its := [w1, w2]) (by show 2 ≤ sizeLine; decide) (.cons ru (.cons ru2 .nil)) hT2
    have I1 : Inv X pins σ (upd H s.heap.objs.size (.frz { cls := .type "tuple", data := .seq #[w1, w2] } (.tup [x, y]))) { s with heap := h'', toks := tk } :=
      I.turnedNew (t' := tk) (ch := [z, TI, TO, i1, i2]) (fun c o hb q => (sb.2 c (fun q' => hb (by simp [q']))).trans (hk c o (fun q' => hb (by simp [q'])) (fun q' => hb (by simp [q'])) (fun q' => hb (by simp [q'])) (fun q' => hb (by simp [q'])) q)) hf (Nat.le_refl _) new
    refine ⟨.ref s.heap.objs.size, _, I1, rfl, ⟨_, x, y, _, rfl, I.hok.fresh (Nat.le_refl _), rfl, ⟨_, rfl, [w1, w2], _, .cons ru (.cons ru2 .nil), rfl⟩, fun l hl => by rw [seqX_inj I hl hqx]; exact hx, fun l hl => by rw [seqX_inj I hl hqy]; exact hy⟩, ⟨z'', ?_, ⟨w1, w2, ?_⟩, ?_, ?_⟩, fun c hcm => ?_⟩
    · exact (sb.2 _ D.TIz).trans (hk _ _ D.TIz D.TITO D.TIi1 D.TIi2 hTI)
    · exact (sb.2 _ D.TOz).trans TO'
    · exact h1'.1.at fun o q => (sb.2 _ (Ne.symm D.zi1)).trans q
    · exact h2'.1.at fun o q => (sb.2 _ (Ne.symm D.zi2)).trans q
    · have hlt : c < s.heap.objs.size := by
        have e' : c = z ∨ c = TI ∨ c = TO ∨ c = i1 ∨ c = i2 := by simpa using hcm
        rcases e' with q | q | q | q | q
        · rw [q]; exact hzl
        · rw [q]; exact Heap.lt_size hTI
        · rw [q]; exact Heap.lt_size hTO
        · rw [q]; obtain ⟨_, e1, _⟩ := h1.obj; exact Heap.lt_size e1
        · rw [q]; obtain ⟨_, e2, _⟩ := h2.obj; exact Heap.lt_size e2
      rw [upd_ne (Nat.ne_of_lt hlt)]
      exact (hf c hcm).1
  done := by
    intro X hP hw hK hc i pins s σ H E I hf st hg
    subst hP hw hK
    obtain ⟨hz, hTI, ⟨x0, y0, hTO⟩, h1, h2⟩ := st
    obtain ⟨xs, ys, hqx, hqy, hle1, hle2, hend⟩ := hg
    obtain ⟨its, rv, p, _⟩ := seqX I hqx
    obtain ⟨its2, rv2, p2, _⟩ := seqX I hqy
    have l1 := rv.length
    have l2 := rv2.length
    have hh : X.A.in1.handled = none := I.ok.hd hc
    refine wpAny_pyNext_zipD2_end D (drawsX k1 hh i1 a (p.ne h1) its.toArray) (drawsX k2 hh i2 b (p2.ne h2) its2.toArray) hz hTI hTO ⟨h1, p⟩ ⟨h2, p2⟩ (by simp; omega) (by simp; omega) (by simp; omega) fun h' tk hk => ⟨rfl, I.turnedL (t' := tk) (ch := [z, TI, TO, i1, i2]) (fun c o hb q =>
      hk c o (fun q' => hb (by simp [q'])) (fun q' => hb (by simp [q'])) (fun q' => hb (by simp [q'])) (fun q' => hb (by simp [q'])) q) hf⟩
  self := fun A i s Q E st h => wpAny_pyIter_zip st.1 h

def iZipX (K : PySem.W.Frag) (ta : TA) : TI := fun σ H R => ta σ H fun vs H1 => ∃ k1 k2 a b xs ys, vs = [.ref a, .ref b] ∧ SqX k1 K H1 a xs ∧ SqX k2 K H1 b ys ∧ R (ItzX k1 k2 K a b) H1
theorem pi_zipX {X : Cx} {e e2 : Expr} {ta : TA} {p pos tpos : Pos} {elts : List Expr} {kk : Nat} (hg : Gl X "zip") (hm : X.mg "zip" = none) (ha : PA X [e, e2] ta)
    (hs : starEach [e, e2] X.env = (false, eval e X.env) :: starEach [e2] X.env := by rfl) (hpl : (backTo pos (starEach [e2] X.env)).any (·.1) = false := by rfl) :
    PI X (.Tuple elts kk tpos) (.Call (.Name "zip" p) [e, e2] [] pos) (iZipX X.K ta) := by
  refine ⟨fun pins s σ H R I h => ?_⟩
  refine Call_ (ld_blt I hg hm PyProof.Rows.boot_zip (PyProof.Rows.callWith_type1 (thn (ha.run pos pins s σ H _ I h) fun us s1 ⟨vs, H1, I1, r1, q1⟩ => ?_) hs hpl))
  obtain ⟨k1, k2, a, b, xs, ys, ex, hqx, hqy, q⟩ := q1
  subst ex
  cases r1 with
  | cons r rr =>
    cases rr with
    | cons r' rr =>
      cases rr
      cases r
      cases r'
      obtain ⟨its, rv, p1, _⟩ := seqX I1 hqx
      obtain ⟨its2, rv2, p2, _⟩ := seqX I1 hqy
      have la : a < s1.heap.objs.size := p1.lt
      have lb : b < s1.heap.objs.size := p2.lt
      refine zip_begins2 (beginsX k1 a its.toArray) (beginsX k2 b its2.toArray) p1 p2 fun h' hz hTI hTO h1 h2 hsz hk => wpAny_pyIter_zip hz ?_
      have I2 : Inv X pins σ H1 { s1 with heap := h' } := I1.kept (t' := s1.toks) hk
      refine ⟨s1.heap.objs.size + 4, [s1.heap.objs.size + 4, s1.heap.objs.size + 2, s1.heap.objs.size + 3, s1.heap.objs.size, s1.heap.objs.size + 1], _, _, H1, rfl, I2, turn_zipX (zip_sep2 (fun c hc => by rw [List.mem_singleton.mp hc]; exact la) (fun c hc => by rw [List.mem_singleton.mp hc]; exact lb)), ⟨hz, hTI, ⟨_, _, hTO⟩, .begin h1, .begin h2⟩, fun c hcm => ?_, q⟩
      have e' : c = s1.heap.objs.size + 4 ∨ c = s1.heap.objs.size + 2 ∨ c = s1.heap.objs.size + 3 ∨ c = s1.heap.objs.size ∨ c = s1.heap.objs.size + 1 := by simpa using hcm
      have hle : s1.heap.objs.size ≤ c := by
        rcases e' with z | z | z | z | z
        · rw [z]; exact Nat.le_add_right _ _
        · rw [z]; exact Nat.le_add_right _ _
        · rw [z]; exact Nat.le_add_right _ _
        · rw [z]; exact Nat.le_refl _
        · rw [z]; exact Nat.le_add_right _ _
      exact I1.fpOk hle (I1.hok.fresh hle)
/-! enumerate -/
theorem meets_enumerate_newB1 {v : Value} {o : Obj} {H : Heap → Prop} (B : Begins v o H) :
    Meets (Builtin.«enumerate.__new__» ⟨[.type "enumerate", v], []⟩) (fun _ R s => H s.heap ∧
      R (.ok (.ret (.ref (s.heap.push o).objs.size))) { s with heap := (s.heap.push o).push { cls := .type "enumerate", data := .fields #[.none, .bool false, .ref s.heap.objs.size, rawInt 0, .none, .none] } }) :=
  .of_wp fun prog w A R s h => by
    obtain ⟨hp, g, d, tk, os⟩ := s; obtain ⟨h1, h⟩ := h
    have hsub := sub_enumerate
    have q1 : ∀ {A' : Around} {E : Value → Shared → Prop} {Q : Value → Shared → Prop}, Q (.ref hp.objs.size) ⟨hp.push o, g, d, tk, os⟩ → wpAny (model prog w) A' (pyIter v) Q E ⟨hp, g, d, tk, os⟩ :=
      fun q => B.iter prog w _ _ ⟨hp, g, d, tk, os⟩ _ h1 q
    wp_walk using q1
    refine wpAny_stack_any fun st => wpAny_pure ?_
    split
    · rename_i c _ _ _ _ _
      cases (c == Value.type "enumerate")
      · wp_walk using q1
        exact ⟨_, rfl, h⟩
      · wp_walk using q1
        exact ⟨_, rfl, h⟩
    · wp_walk using q1
      exact ⟨_, rfl, h⟩
section
variable {prog : Program} {w : World} {A : Around} {E : Value → Shared → Prop} {s : Shared}
theorem enum_begins1 {v : Value} {o : Obj} {H : Heap → Prop} {Q : Value → Shared → Prop} (B : Begins v o H) (h1 : H s.heap)
    (h : ∀ h', IsEnum h' (s.heap.objs.size + 1) s.heap.objs.size 0 .none → h'.get? s.heap.objs.size = some o → h'.objs.size = s.heap.objs.size + 2 →
      (∀ b o, s.heap.get? b = some o → h'.get? b = some o) → Q (.ref (s.heap.objs.size + 1)) { s with heap := h' }) :
    wpAny (model prog w) A (call (.type "enumerate") [v]) Q E s := by
  refine callType_new F.called_enumerate (by decide) (F.typeCall_enumerate_1 _) (F.newCall_enumerate_1 _) (fun obj => F.args_object_init_2 obj _) F.entry_enumerate_new
    (meets_enumerate_newB1 B) ⟨h1, ?_⟩
  have hz : (s.heap.push o).objs.size = s.heap.objs.size + 1 := Heap.size_push ..
  show _ ∧ _
  rw [hz]
  have he : IsEnum ((s.heap.push o).push { cls := .type "enumerate", data := .fields #[.none, .bool false, .ref s.heap.objs.size, rawInt 0, .none, .none] }) (s.heap.objs.size + 1) s.heap.objs.size 0 .none := by
    have := Heap.get?_push_size (s.heap.push o) (o := { cls := .type "enumerate", data := .fields #[.none, .bool false, .ref s.heap.objs.size, rawInt 0, .none, .none] }) rfl
    rw [hz] at this; exact this
  refine ⟨⟨_, he, rfl⟩, h _ he (Heap.get?_push_of_some _ (Heap.get?_push_size _ B.free)) (by rw [Heap.size_push, hz]) fun b o x => Heap.get?_push_of_some _ (Heap.get?_push_of_some _ x)⟩
end
def IteX (k : Sd) (K : PySem.W.Frag) (a : Addr) : It :=
  ⟨fun i H => ∃ (xs : List V) (x : V), SqX k K H a xs ∧ xs[i]? = some x, fun i H v H' => ∃ T x u, v = .ref T ∧ H T = none ∧ H' = upd H T u ∧ tupS u [.int (i : Nat), x] ∧ ∀ xs, SqX k K H a xs → xs[i]? = some x, fun i H => ∃ xs : List V, SqX k K H a xs ∧ i = xs.length⟩
theorem turn_enumX {P : Program} {w : World} {K : PySem.W.Frag} {elts : List Expr} {kk : Nat} {tpos : Pos} {k : Sd} (a e it : Addr) :
    Turn P w K (.Tuple elts kk tpos) (IteX k K a) [e, it] e (fun i h => (∃ old, IsEnum h e it ((i : Nat) : Int) old) ∧ ItrSt k h it a i ∧ e ≠ it) where
  mem := by simp
  obj := fun i h st b hb => by
    obtain ⟨⟨old, he⟩, hi, _⟩ := st
    have e' : b = e ∨ b = it := by simpa using hb
    rcases e' with z | z
    · rw [z]; exact ⟨_, he, fun v q => nomatch q⟩
    · rw [z]; exact hi.obj
  keep := fun i h h' st k => let ⟨⟨old, he⟩, hi, hne⟩ := st; ⟨⟨old, k e (by simp) _ he⟩, hi.at fun o q => k it (by simp) o q, hne⟩
  item := by
    intro X hP hw hK hc i pins s σ H E I hf st hg
    subst hP hw hK
    obtain ⟨⟨old, he⟩, hit, hne⟩ := st
    obtain ⟨xs, x, hq, hx⟩ := hg
    obtain ⟨its, rv, p, hz⟩ := seqX I hq
    obtain ⟨u, hu, ru⟩ := rv.get hx
    have hel : e < s.heap.objs.size := Heap.lt_size he
    have hil : it < s.heap.objs.size := by obtain ⟨_, q, _⟩ := hit.obj; exact Heap.lt_size q
    have hh : X.A.in1.handled = none := I.ok.hd hc
    have lt1 : i < its.toArray.size := by
      have := (List.getElem?_eq_some_iff.mp hu).1; simpa using this
    have hea : e ≠ a := fun z => by
      have h2 : ∃ o n, s.heap.get? a = some o ∧ o.data = .seq its.toArray n := by
        cases k
        · obtain ⟨o, e, _, n, d⟩ := p; exact ⟨o, n, e, d⟩
        · obtain ⟨o, e, _, n, d⟩ := p; exact ⟨o, n, e, d⟩
      obtain ⟨o, n, e1, d1⟩ := h2
      rw [← z] at e1
      have he' : s.heap.get? e = some _ := he
      rw [he'] at e1
      cases e1
      cases d1
    refine wpAny_pyNext_enum_itemD (drawsX k hh it a (p.ne hit) its.toArray) he ⟨hit, p⟩ lt1 hne (by simp [hne, hea]) fun w1 h' tk e1 ho hit' hT hsz hk => ?_
    have e1' : w1 = u := by
      have : its.toArray[i]? = some u := by simpa using hu
      rw [this] at e1; exact (Option.some.inj e1).symm
    subst e1'
    refine ⟨_, rfl, wpAny_letOwnedTupleGo_enum (s := { s with heap := h', toks := tk + 1 }) ho fun h'' he' sb => ?_⟩
    have hT2 : h''.get? s.heap.objs.size = some { cls := .type "tuple", data := .seq #[.int i tk, w1] } := (sb.2 _ (Nat.ne_of_gt hel)).trans hT
    have new : ObjOk X.prog X.w (upd H s.heap.objs.size (.frz { cls := .type "tuple", data := .seq #[.int i tk, w1] } (.tup [.int (i : Nat), x]))) h'' s.heap.objs.size (.frz { cls := .type "tuple", data := .seq #[.int i tk, w1] } (.tup [.int (i : Nat), x])) :=
      tupS_ok (its := [.int i tk, w1]) (by show 2 ≤ sizeLine; decide) (.cons ⟨_, rfl⟩ (.cons ru .nil)) hT2
    have I1 : Inv X pins σ (upd H s.heap.objs.size (.frz { cls := .type "tuple", data := .seq #[.int i tk, w1] } (.tup [.int (i : Nat), x]))) { s with heap := h'', toks := tk + 1 } :=
      I.turnedNew (ch := [e, it]) (fun b ob hb q => (sb.2 b (fun z => hb (by simp [z]))).trans (hk b ob (fun z => hb (by simp [z])) (fun z => hb (by simp [z])) q)) hf (Nat.le_refl _) new
    refine ⟨.ref s.heap.objs.size, _, I1, rfl, ⟨_, x, _, rfl, I.hok.fresh (Nat.le_refl _), rfl, ⟨_, rfl, [.int i tk, w1], _, .cons ⟨_, rfl⟩ (.cons ru .nil), rfl⟩, fun ys hy => by rw [seqX_inj I hy hq]; exact hx⟩, ⟨⟨w1, ?_⟩, hit'.1.at fun o q => (sb.2 it (Ne.symm hne)).trans q, hne⟩, fun b hb => ?_⟩
    · have e1 : ((i + 1 : Nat) : Int) = (i : Int) + 1 := by omega
      rw [e1]; exact he'
    · have hb' : b < s.heap.objs.size := by
        have e' : b = e ∨ b = it := by simpa using hb
        rcases e' with z | z
        · rw [z]; exact hel
        · rw [z]; exact hil
      rw [upd_ne (Nat.ne_of_lt hb')]
      exact (hf b hb).1
  done := by
    intro X hP hw hK hc i pins s σ H E I hf st hg
    subst hP hw hK
    obtain ⟨⟨old, he⟩, hit, hne⟩ := st
    obtain ⟨xs, hq, hx⟩ := hg
    obtain ⟨its, rv, p, hz⟩ := seqX I hq
    obtain ⟨f0, f1, f2, f3, f4, f5⟩ := hf it (by simp)
    have hl := rv.length
    have hh : X.A.in1.handled = none := I.ok.hd hc
    have ei : i = its.toArray.size := by simp; omega
    exact wpAny_pyNext_enum_endD (drawsX k hh it a (p.ne hit) its.toArray) he ⟨ei ▸ hit, p⟩ fun h' eb => ⟨rfl, I.turned (t' := s.toks) (fun b o hb q => eb b o hb q) f0 f1 f3 f4 f5⟩
  self := fun A i s Q E st h => let ⟨⟨_, he⟩, _⟩ := st; wpAny_pyIter_enum he h
def iEnumX (K : PySem.W.Frag) (ta : TA) : TI := fun σ H R => ta σ H fun vs H1 => ∃ k a xs, vs = [.ref a] ∧ SqX k K H1 a xs ∧ R (IteX k K a) H1
theorem pi_enumX {X : Cx} {e : Expr} {ta : TA} {p pos tpos : Pos} {elts : List Expr} {kk : Nat} (hg : Gl X "enumerate") (hm : X.mg "enumerate" = none) (ha : PA X [e] ta) (hs : starEach [e] X.env = [(false, eval e X.env)] := by rfl) :
    PI X (.Tuple elts kk tpos) (.Call (.Name "enumerate" p) [e] [] pos) (iEnumX X.K ta) := by
  refine ⟨fun pins s σ H R I h => ?_⟩
  refine Call_ (ld_blt I hg hm boot_enumerate (PyProof.Rows.callWith_type1 (thn (ha.run pos pins s σ H _ I h) fun us s1 ⟨vs, H1, I1, r1, q1⟩ => ?_) hs rfl))
  obtain ⟨k, a, xs, ex, hq, q⟩ := q1
  subst ex
  cases r1 with
  | cons r rr =>
    cases rr
    cases r
    obtain ⟨its, rv, p', hz⟩ := seqX I1 hq
    refine enum_begins1 (beginsX k a its.toArray) p' fun h' he hit hsz hk => wpAny_pyIter_enum he ?_
    have I2 : Inv X pins σ H1 { s1 with heap := h' } := I1.kept (t' := s1.toks) hk
    refine ⟨s1.heap.objs.size + 1, [s1.heap.objs.size + 1, s1.heap.objs.size], _, _, H1, rfl, I2, turn_enumX a (s1.heap.objs.size + 1) s1.heap.objs.size, ⟨⟨.none, he⟩, .begin hit, Nat.succ_ne_self _⟩, fun b hb => ?_, q⟩
    have e' : b = s1.heap.objs.size + 1 ∨ b = s1.heap.objs.size := by simpa using hb
    have hle : s1.heap.objs.size ≤ b := by
      rcases e' with z | z
      · rw [z]; exact Nat.le_add_right _ _
      · rw [z]; exact Nat.le_refl _
    exact I1.fpOk hle (I1.hok.fresh hle)
/-! their readings -/
def seqD : D → Option (List D)
  | .tup ds => some ds
  | .lst ds => some ds
  | _ => none
def zipD (xs ys : List D) : List D := (xs.zip ys).map fun p => .tup [p.1, p.2]
def enumD (xs : List D) : List D := xs.zipIdx.map fun p => .tup [.int (p.2 : Nat), p.1]
def dZip (da : DenA) : DenI := fun S Q => da S fun xs S1 => match frcs S1 xs with
  | some ([d, e], S2) => (match seqD d, seqD e with
    | some ds, some es => Q (zipD ds es) S2
    | _, _ => False)
  | _ => False
def dEnum (da : DenA) : DenI := fun S Q => da S fun xs S1 => match frcs S1 xs with
  | some ([d], S2) => (match seqD d with
    | some ds => Q (enumD ds) S2
    | none => False)
  | _ => False
theorem rp_seq {K : PySem.W.Frag} {F : Addr → Prop} {H : Hp} {d : D} {v : V} {ds : List D} (h : Rp K F H d v) (e : seqD d = some ds) : ∃ k a vs, v = .ref a ∧ (∀ F' H', Ext F H F' H' → SqX k K H' a vs) ∧ RpAll K F H ds vs := by
  cases d with
  | tup es => cases e; obtain ⟨a, vs, rfl, fa, ra⟩ := rp_tup h; exact ⟨.t, a, vs, rfl, fun F' H' x => (fa.ext x).sq, ra⟩
  | lst es => cases e; obtain ⟨a, vs, rfl, fa, ra⟩ := rp_lst h; exact ⟨.l, a, vs, rfl, fun F' H' x => (fa.ext x).sq, ra⟩
  | _ => cases e
section
variable {X : Cx} {B : Bs} {a b : Expr} {da : DenA} {p pos tpos : Pos} {elts : List Expr} {kk : Nat}
theorem di_zip (hB : B.K = X.K) (hg : Gl X "zip") (hm : X.mg "zip" = none) (ha : PA X [a, b] (tDA B da)) (hs : starEach [a, b] X.env = (false, eval a X.env) :: starEach [b] X.env := by rfl) (hpl : (backTo pos (starEach [b] X.env)).any (·.1) = false := by rfl) :
    PI X (.Tuple elts kk tpos) (.Call (.Name "zip" p) [a, b] [] pos) (tDI B (dZip da)) := by
  refine PI_imp (pi_zipX hg hm ha hs hpl) ?_
  rintro σ H Q ⟨P, F, S, QQ, R, q, k⟩
  refine ⟨P, F, S, _, R, q, fun xs S1 q1 vs H1 F1 e1 R1 r1 => ?_⟩
  cases h1 : frcs S1 xs with
  | none => simp only [h1] at q1
  | some pp =>
    obtain ⟨ds, S2⟩ := pp
    simp only [h1] at q1
    obtain ⟨F2, e2, R2, r2⟩ := RelHs.frc R1 r1 h1
    split at q1
    · rename_i d e S2 h
      cases h
      obtain ⟨v, r, rfl, g1, g2⟩ := (show ∃ v r, vs = v :: r ∧ Rp B.K F2 H1 d v ∧ RpAll B.K F2 H1 [e] r by unfold RpAll at r2; exact r2)
      obtain ⟨u, r, rfl, g3, g4⟩ := (show ∃ v' r', r = v' :: r' ∧ Rp B.K F2 H1 e v' ∧ RpAll B.K F2 H1 [] r' by unfold RpAll at g2; exact g2)
      have g4' : r = [] := by unfold RpAll at g4; exact g4
      subst g4'
      split at q1
      · rename_i es fs he hf
        obtain ⟨k1, a1, vs1, rfl, sq1, ra1⟩ := rp_seq g1 he
        obtain ⟨k2, a2, vs2, rfl, sq2, ra2⟩ := rp_seq g3 hf
        refine ⟨k1, k2, a1, a2, vs1, vs2, rfl, hB ▸ sq1 _ _ Ext.refl, hB ▸ sq2 _ _ Ext.refl, k _ _ q1 _ H1 F2 (e1.trans e2) R2 ?_⟩
        rw [← hB]
        intro F' H' ex
        have s1 := sq1 F' H' ex
        have s2 := sq2 F' H' ex
        have t1 := RpAll.ext ex _ _ ra1
        have t2 := RpAll.ext ex _ _ ra2
        have l1 := ra1.len
        have l2 := ra2.len
        have ll : (zipD es fs).length = min es.length fs.length := by simp [zipD]
        refine ⟨fun i hi => ⟨vs1, vs2, vs1[i]'(by omega), vs2[i]'(by omega), s1, s2, get_same (by omega), get_same (by omega)⟩, ⟨vs1, vs2, s1, s2, by omega, by omega, by omega⟩, fun i x H'' hi hy => ?_⟩
        obtain ⟨T, x1, x2, u, rfl, hT, rfl, hu, f1, f2⟩ := hy
        obtain ⟨d1, g5, g6⟩ := t1.getV (f1 _ s1)
        obtain ⟨d2, g7, g8⟩ := t2.getV (f2 _ s2)
        refine ⟨.tup [d1, d2], ?_, .inr ⟨T, u, _, [d1, d2], rfl, hT, rfl, hu, rfl, RpAll.cons g6 (RpAll.cons g8 RpAll.nil)⟩⟩
        have gz : (es.zip fs)[i]? = some (d1, d2) := List.getElem?_zip_eq_some.mpr ⟨g5, g7⟩
        simp [zipD, gz]
      · exact q1.elim
    · exact q1.elim
theorem di_enum (hB : B.K = X.K) (hg : Gl X "enumerate") (hm : X.mg "enumerate" = none) (ha : PA X [a] (tDA B da)) (hs : starEach [a] X.env = [(false, eval a X.env)] := by rfl) :
    PI X (.Tuple elts kk tpos) (.Call (.Name "enumerate" p) [a] [] pos) (tDI B (dEnum da)) := by
  refine PI_imp (pi_enumX hg hm ha hs) ?_
  rintro σ H Q ⟨P, F, S, QQ, R, q, k⟩
  refine ⟨P, F, S, _, R, q, fun xs S1 q1 vs H1 F1 e1 R1 r1 => ?_⟩
  cases h1 : frcs S1 xs with
  | none => simp only [h1] at q1
  | some pp =>
    obtain ⟨ds, S2⟩ := pp
    simp only [h1] at q1
    obtain ⟨F2, e2, R2, r2⟩ := RelHs.frc R1 r1 h1
    split at q1
    · rename_i d S2 h
      cases h
      obtain ⟨v, r, rfl, g1, g2⟩ := (show ∃ v r, vs = v :: r ∧ Rp B.K F2 H1 d v ∧ RpAll B.K F2 H1 [] r by unfold RpAll at r2; exact r2)
      have g4' : r = [] := by unfold RpAll at g2; exact g2
      subst g4'
      split at q1
      · rename_i es he
        obtain ⟨k1, a1, vs1, rfl, sq1, ra1⟩ := rp_seq g1 he
        refine ⟨k1, a1, vs1, rfl, hB ▸ sq1 _ _ Ext.refl, k _ _ q1 _ H1 F2 (e1.trans e2) R2 ?_⟩
        rw [← hB]
        intro F' H' ex
        have s1 := sq1 F' H' ex
        have t1 := RpAll.ext ex _ _ ra1
        have l1 := ra1.len
        have ll : (enumD es).length = es.length := by simp [enumD]
        refine ⟨fun i hi => ⟨vs1, vs1[i]'(by omega), s1, get_same (by omega)⟩, ⟨vs1, s1, by omega⟩, fun i x H'' hi hy => ?_⟩
        obtain ⟨T, x1, u, rfl, hT, rfl, hu, f1⟩ := hy
        obtain ⟨d1, g5, g6⟩ := t1.getV (f1 _ s1)
        refine ⟨.tup [.int (i : Nat), d1], ?_, .inr ⟨T, u, _, [.int (i : Nat), d1], rfl, hT, rfl, hu, rfl, RpAll.cons rp_int (RpAll.cons g6 RpAll.nil)⟩⟩
        simp [enumD, g5]
      · exact q1.elim
    · exact q1.elim
end
end DL
namespace DL
open PySem PySem.Spec PyProof.Rows L2

/-! ### targets -/
abbrev DenG := Rv → Sg → (Sg → Prop) → Prop
abbrev DenGs := List D → Sg → (Sg → Prop) → Prop
def dgName (i : Nat) : DenG := fun r S Q => match r with
  | .pu d => Q (S.set i (.pu d))
  | .ol ds => Q (S.set i (.ol ds))
  | .od kvs => Q (S.set i (.od kvs))
  | .al j => if j = i then Q S else match frc S (.al j) with
    | some (d, S') => Q (S'.set i (.pu d))
    | none => False
def dgTup (n : Nat) (gs : DenGs) : DenG := fun r S Q => match r with
  | .pu (.tup ds) => ds.length = n ∧ gs ds S Q
  | .pu (.lst ds) => ds.length = n ∧ gs ds S Q
  | .ol ds => ds.length = n ∧ gs ds S Q
  | _ => False
def dgNil : DenGs := fun ds S Q => match ds with
  | [] => Q S
  | _ => False
def dgCons (g : DenG) (gs : DenGs) : DenGs := fun ds S Q => match ds with
  | d :: r => g (.pu d) S fun S1 => gs r S1 Q
  | [] => False
/-- ws: the slots that are stored -/
def tDG (B : Bs) (ws : List Nat) (g : DenG) : TG := fun v σ H Q => ∃ P F S rv QQ, Rel (B.p P) F σ H S ∧ RelRv (B.p P) F σ H S rv v ∧ g rv S QQ ∧ ∀ S', QQ S' → ∀ σ' H' F', Ext F H F' H' → Rel (B.p P) F' σ' H' S' → (σ'.length = σ.length ∧ ∀ i, i ∉ ws → σ'[i]? = σ[i]?) → Q σ' H'
def tDGs (B : Bs) (ws : List Nat) (g : DenGs) : TGs := fun vs σ H Q => ∃ P F S ds QQ, Rel (B.p P) F σ H S ∧ RpAll B.K F H ds vs ∧ g ds S QQ ∧ ∀ S', QQ S' → ∀ σ' H' F', Ext F H F' H' → Rel (B.p P) F' σ' H' S' → (σ'.length = σ.length ∧ ∀ i, i ∉ ws → σ'[i]? = σ[i]?) → Q σ' H'
section
variable {X : Cx} {B : Bs} {pos : Pos} {e : Expr} {es : List Expr} {g : DenG} {gs : DenGs} {ws ws2 : List Nat}
theorem PG_imp {tg : Expr} {t t' : TG} (h : PG X tg t) (i : ∀ v σ H Q, t' v σ H Q → t v σ H Q) : PG X tg t' := ⟨fun pins s σ H v u Q I r w => h.run pins s σ H v u Q I r (i v σ H Q w)⟩
theorem PGs_imp {ts : List Expr} {t t' : TGs} (h : PGs X ts t) (i : ∀ vs σ H Q, t' vs σ H Q → t vs σ H Q) : PGs X ts t' := ⟨fun pins s σ H vs us Q I r w => h.run pins s σ H vs us Q I r (i vs σ H Q w)⟩
theorem relC_rv {B : Bs} {F : Addr → Prop} {σ : L2.St} {H : Hp} {S : Sg} (R : Rel B F σ H S) {i : Nat} {d : D} {v : V} (h : Rp B.K F H d v) : Rel B F (σ.set i (some v)) H (S.set i (.pu d)) :=
  R.store (s := .pu d) h (fun z => nomatch z) (fun z => nomatch z)
theorem set_id {α : Type} {l : List α} {i : Nat} {x : α} (h : l[i]? = some x) : l.set i x = l := by
  apply List.ext_getElem?
  intro j
  by_cases e : i = j
  · subst e
    rw [List.getElem?_set_self (List.getElem?_eq_some_iff.mp h).1, h]
  · rw [List.getElem?_set_ne e]
theorem dg_run {i : Nat} : ∀ v σ H Q, tDG B [i] (dgName i) v σ H Q → gName i v σ H Q := by
  rintro v σ H Q ⟨P, F, S, rv, QQ, R, r, q, k⟩
  show Q (σ.set i (some v)) H
  have st : (σ.set i (some v)).length = σ.length ∧ ∀ j, j ∉ [i] → (σ.set i (some v))[j]? = σ[j]? := ⟨by simp, fun j hj => List.getElem?_set_ne fun z => hj (by simp [z])⟩
  cases rv with
  | pu d => exact k _ q _ H F Ext.refl (relC_rv R r) st
  | ol ds =>
    obtain ⟨a, vs, rfl, h1, f, h2⟩ := r
    refine k _ q _ H F Ext.refl (R.store (s := .ol ds) ⟨a, vs, rfl, h1, f.1, f.2.1, h2⟩ (fun _ b e => ?_) fun _ => ⟨a, rfl⟩) st
    cases e
    exact ⟨f.2.2.2.1, fun j _ hj => f.2.2.2.2 j hj⟩
  | od kvs =>
    obtain ⟨a, vs, rfl, h1, f, h2⟩ := r
    refine k _ q _ H F Ext.refl (R.store (s := .od kvs) ⟨a, vs, rfl, h1, f.1, f.2.1, h2⟩ (fun _ b e => ?_) fun _ => ⟨a, rfl⟩) st
    cases e
    exact ⟨f.2.2.2.1, fun j _ hj => f.2.2.2.2 j hj⟩
  | al j =>
    have q' : (if j = i then QQ S else match frc S (.al j) with
      | some (d, S') => QQ (S'.set i (.pu d))
      | none => False) := q
    by_cases e : j = i
    · rw [if_pos e] at q'
      subst e
      have r' : σ[j]? = some (some v) := r
      rw [set_id r']
      exact k _ q' _ H F Ext.refl R ⟨rfl, fun _ _ => rfl⟩
    · rw [if_neg e] at q'
      cases h1 : frc S (.al j) with
      | none => rw [h1] at q'; exact q'.elim
      | some p =>
        obtain ⟨d, S'⟩ := p
        rw [h1] at q'
        obtain ⟨F', e', R', r'⟩ := RelRv.frc R r h1
        exact k _ q' _ H F' e' (relC_rv R' r') st
theorem dg_name (i : Nat) {x : Str} (hN : X.N.Nodup) (hi : X.N[i]? = some x := by rfl) (hx : Loc X.env.scope x := by first | exact Or.inl rfl | exact Or.inr rfl) (hf : X.fn x = true ∨ X.env.scope.names.lookup x = some .local := by first | exact .inl rfl | exact .inr rfl | assumption) : PG X (.Name x pos) (tDG B [i] (dgName i)) :=
  PG_imp (pg_name hN hi hx hf) dg_run
theorem dgs_nil : PGs X [] (tDGs B [] dgNil) := by
  refine PGs_imp pgs_nil ?_
  rintro vs σ H Q ⟨P, F, S, ds, QQ, R, r, q, k⟩
  cases ds with
  | nil => unfold RpAll at r; exact ⟨r, k _ q σ H F Ext.refl R ⟨rfl, fun _ _ => rfl⟩⟩
  | cons d ds => exact q.elim
theorem dgs_cons (h1 : PG X e (tDG B ws g)) (h2 : PGs X es (tDGs B ws2 gs)) (hs : (assignEach (e :: es) X.env).map (·.2) = assign e X.env :: (assignEach es X.env).map (·.2) := by rfl) : PGs X (e :: es) (tDGs B (ws ++ ws2) (dgCons g gs)) := by
  refine PGs_imp (pgs_cons h1 h2 hs) ?_
  rintro vs σ H Q ⟨P, F, S, ds, QQ, R, r, q, k⟩
  cases ds with
  | nil => exact q.elim
  | cons d ds =>
    unfold RpAll at r
    obtain ⟨v, us, rfl, r1, r2⟩ := r
    refine ⟨v, us, rfl, P, F, S, .pu d, _, R, r1, q, fun S1 q1 σ1 H1 F1 e1 R1 w1 => ?_⟩
    exact ⟨P, F1, S1, ds, _, R1, RpAll.ext e1 _ _ r2, q1, fun S2 q2 σ2 H2 F2 e2 R2 w2 => k _ q2 σ2 H2 F2 (e1.trans e2) R2 ⟨w2.1.trans w1.1, fun i hi => by
      rw [List.mem_append, not_or] at hi
      rw [w2.2 i hi.2, w1.2 i hi.1]⟩⟩
theorem PG_or {e : Expr} {g1 g2 : TG} (h1 : PG X e g1) (h2 : PG X e g2) : PG X e (fun v σ H Q => g1 v σ H Q ∨ g2 v σ H Q) := ⟨fun pins s σ H v u Q I r w => w.elim (fun w => h1.run pins s σ H v u Q I r w) fun w => h2.run pins s σ H v u Q I r w⟩
theorem dg_tup {kk n : Nat} (hB : B.K = X.K) (hc : X.calm = true) (h : PGs X es (tDGs B ws gs)) (hn : (assignEach es X.env).length = n := by rfl) (hst : (assignEach es X.env).findIdx? (·.1) = none := by rfl) : PG X (.Tuple es kk pos) (tDG B ws (dgTup n gs)) := by
  refine PG_imp (PG_or (pg_tup hc h hn hst) (pg_lst hc h hn hst)) ?_
  rintro v σ H Q ⟨P, F, S, rv, QQ, R, r, q, k⟩
  cases rv with
  | pu d =>
    cases d with
    | tup ds =>
      obtain ⟨a, vs, rfl, fa, ra⟩ := rp_tup r
      exact .inl ⟨a, vs, rfl, hB ▸ fa.sq, by rw [ra.len]; exact q.1, P, F, S, ds, _, R, ra, q.2, k⟩
    | lst ds =>
      have r' : Rp (B.p P).K F H (.lst ds) v := r
      unfold Rp at r'
      obtain ⟨a, vs, rfl, fa, ra⟩ := r'
      exact .inr ⟨a, vs, rfl, fa.sq, by rw [ra.len]; exact q.1, P, F, S, ds, _, R, ra, q.2, k⟩
    | _ => exact q.elim
  | ol ds =>
    obtain ⟨a, vs, rfl, fa, f, ra⟩ := r
    exact .inr ⟨a, vs, rfl, .inl (.inl fa), by rw [ra.len]; exact q.1, P, F, S, ds, _, R, ra, q.2, k⟩
  | _ => exact q.elim
end

/-! ### statements -/
structure DEnds where
  nx : Sg → Prop
  rt : Rv → Sg → Prop
  bk : Sg → Prop
  ct : Sg → Prop
abbrev DenS := DEnds → Sg → Prop
/-- what is handed back -/
def RelRt (B : Bs) (F : Addr → Prop) (H : Hp) : Rv → V → Prop
  | .pu d, v => Rp B.K F H d v
  | .ol ds, v => ∃ a vs, v = .ref a ∧ H a = some (.lst vs) ∧ ¬ F a ∧ B.H0 a = none ∧ RpAll B.K F H ds vs
  | .od kvs, v => ∃ a vs, v = .ref a ∧ H a = some (.dK ((kvs.map (·.1)).zip vs)) ∧ ¬ F a ∧ B.H0 a = none ∧ RpAll B.K F H (kvs.map (·.2)) vs
  | .al _, _ => False
/-- the data's ends stand for the ends -/
structure Stands (B : Bs) (P : List (Addr × HO)) (F : Addr → Prop) (H : Hp) (DD : DEnds) (E : Ends) : Prop where
  nx : ∀ S', DD.nx S' → ∀ σ' H' F', Ext F H F' H' → Rel (B.p P) F' σ' H' S' → E.nx σ' H'
  bk : ∀ S', DD.bk S' → ∀ σ' H' F', Ext F H F' H' → Rel (B.p P) F' σ' H' S' → E.bk σ' H'
  ct : ∀ S', DD.ct S' → ∀ σ' H' F', Ext F H F' H' → Rel (B.p P) F' σ' H' S' → E.ct σ' H'
  rt : ∀ rv S', DD.rt rv S' → ∀ v σ' H' F', Ext F H F' H' → Rel (B.p P) F' σ' H' S' → RelRt B F' H' rv v → E.rt v H'
def tS (B : Bs) (d : DenS) : TS := fun E σ H => ∃ P F S DD, Rel (B.p P) F σ H S ∧ d DD S ∧ Stands B P F H DD E
theorem Stands.ext {B : Bs} {P : List (Addr × HO)} {F F' : Addr → Prop} {H H' : Hp} {DD : DEnds} {E : Ends} (k : Stands B P F H DD E) (e : Ext F H F' H') : Stands B P F' H' DD E :=
  ⟨fun S' q σ' H'' F'' e' R => k.nx S' q σ' H'' F'' (e.trans e') R, fun S' q σ' H'' F'' e' R => k.bk S' q σ' H'' F'' (e.trans e') R, fun S' q σ' H'' F'' e' R => k.ct S' q σ' H'' F'' (e.trans e') R,
    fun rv S' q v σ' H'' F'' e' R r => k.rt rv S' q v σ' H'' F'' (e.trans e') R r⟩
section
variable {X : Cx} {B : Bs} {pos : Pos} {st : Stmt} {rest : List Stmt} {a b : DenS} {e : Expr} {d : Den}
theorem PS_imp {t t' : TS} (h : PS X st t) (i : ∀ E σ H, t' E σ H → t E σ H) : PS X st t' := ⟨fun pins s σ H E I w => h.run pins s σ H E I (i E σ H w)⟩
theorem PSs_imp {t t' : TS} (h : PSs X rest t) (i : ∀ E σ H, t' E σ H → t E σ H) : PSs X rest t' := ⟨fun pins s σ H E I w => h.run pins s σ H E I (i E σ H w)⟩
def dNext : DenS := fun D S => D.nx S
def dThen (a b : DenS) : DenS := fun D S => a { D with nx := b D } S
theorem dss_nil : PSs X [] (tS B dNext) := by
  refine PSs_imp pss_nil ?_
  rintro E σ H ⟨P, F, S, DD, R, q, k⟩
  exact k.nx S q σ H F Ext.refl R
theorem dss_cons (h1 : PS X st (tS B a)) (h2 : PSs X rest (tS B b)) : PSs X (st :: rest) (tS B (dThen a b)) := by
  refine PSs_imp (pss_cons h1 h2) ?_
  rintro E σ H ⟨P, F, S, DD, R, q, k⟩
  refine ⟨P, F, S, _, R, q, ⟨fun S' q' σ' H' F' e R' => ?_, k.bk, k.ct, k.rt⟩⟩
  exact ⟨P, F', S', DD, R', q', k.ext e⟩
theorem dss_one (h1 : PS X st (tS B a)) : PSs X [st] (tS B a) := pss_one h1
def dBreak : DenS := fun D S => D.bk S
def dCont : DenS := fun D S => D.ct S
theorem ds_pass : PS X (.Pass pos) (tS B dNext) := by
  refine PS_imp ps_pass ?_
  rintro E σ H ⟨P, F, S, DD, R, q, k⟩
  exact k.nx S q σ H F Ext.refl R
theorem ds_break : PS X (.Break pos) (tS B dBreak) := by
  refine PS_imp ps_break ?_
  rintro E σ H ⟨P, F, S, DD, R, q, k⟩
  exact k.bk S q σ H F Ext.refl R
theorem ds_continue : PS X (.Continue pos) (tS B dCont) := by
  refine PS_imp ps_continue ?_
  rintro E σ H ⟨P, F, S, DD, R, q, k⟩
  exact k.ct S q σ H F Ext.refl R
/-- code that no proof comes to -/
def dNever : DenS := fun _ _ => False
theorem ds_never : PS X st (tS B dNever) := by
  refine PS_imp ps_never ?_
  rintro E σ H ⟨P, F, S, DD, R, q, k⟩
  exact q
theorem dss_never : PSs X rest (tS B dNever) := by
  refine PSs_imp pss_never ?_
  rintro E σ H ⟨P, F, S, DD, R, q, k⟩
  exact q
def dDrop (d : Den) : DenS := fun D S => d S fun _ S1 => D.nx S1
theorem ds_expr (h : PE X e (tD B d)) (hs : swapsWith e none pos.line X.env = pure false := by rfl) : PS X (.Expr e pos) (tS B (dDrop d)) := by
  refine PS_imp (ps_expr h hs) ?_
  rintro E σ H ⟨P, F, S, DD, R, q, k⟩
  exact ⟨P, F, S, _, R, q, fun x S1 q1 v1 H1 F1 e1 R1 r1 => k.nx S1 q1 σ H1 F1 e1 R1⟩
def dRet (d : Den) : DenS := fun D S => d S fun r S1 => match r with
  | .al i => (match S1[i]? with
    | some (.ol ds) => D.rt (.ol ds) S1
    | some (.od kvs) => D.rt (.od kvs) S1
    | _ => False)
  | r => D.rt r S1
theorem ds_ret (h : PE X e (tD B d)) : PS X (.Return (some e) pos) (tS B (dRet d)) := by
  refine PS_imp (ps_ret h) ?_
  rintro E σ H ⟨P, F, S, DD, R, q, k⟩
  refine ⟨P, F, S, _, R, q, fun x S1 q1 v1 H1 F1 e1 R1 r1 => ?_⟩
  cases x with
  | pu d => exact k.rt _ _ q1 v1 σ H1 F1 e1 R1 r1
  | ol ds =>
    obtain ⟨a, vs, rfl, h1, f, h2⟩ := r1
    exact k.rt _ _ q1 _ σ H1 F1 e1 R1 ⟨a, vs, rfl, h1, f.1, f.2.1, h2⟩
  | od kvs =>
    obtain ⟨a, vs, rfl, h1, f, h2⟩ := r1
    exact k.rt _ _ q1 _ σ H1 F1 e1 R1 ⟨a, vs, rfl, h1, f.1, f.2.1, h2⟩
  | al i =>
    have q1' : (match S1[i]? with
      | some (.ol ds) => DD.rt (.ol ds) S1
      | some (.od kvs) => DD.rt (.od kvs) S1
      | _ => False) := q1
    cases h1 : S1[i]? with
    | none => rw [h1] at q1'; exact q1'.elim
    | some s =>
      rw [h1] at q1'
      rcases R1.sl i s h1 with rfl | ⟨u, g1, g2⟩
      · exact q1'.elim
      · have r1' : σ[i]? = some (some v1) := r1
        rw [g1] at r1'; cases r1'
        cases s with
        | ol ds => exact k.rt _ _ q1' _ σ H1 F1 e1 R1 g2
        | od kvs => exact k.rt _ _ q1' _ σ H1 F1 e1 R1 g2
        | _ => exact q1'.elim
def dRetN : DenS := fun D S => D.rt (.pu .non) S
theorem ds_retN : PS X (.Return none pos) (tS B dRetN) := by
  refine PS_imp ps_retN ?_
  rintro E σ H ⟨P, F, S, DD, R, q, k⟩
  exact k.rt _ _ q _ σ H F Ext.refl R (show Rp B.K F H .non .non by unfold Rp; rfl)
def dIfS (c : DenB) (a b : DenS) : DenS := fun D S => c S fun t S1 => if t = true then a D S1 else b D S1
theorem ds_if {c : Expr} {dc : DenB} {u v : List Stmt} (hc : PT X c (tDT B dc)) (ha : PSs X u (tS B a)) (hb : PSs X v (tS B b)) : PS X (.If c u v pos) (tS B (dIfS dc a b)) := by
  refine PS_imp (ps_if hc ha hb) ?_
  rintro E σ H ⟨P, F, S, DD, R, q, k⟩
  refine ⟨P, F, S, _, R, q, fun t S1 q1 H1 F1 e1 R1 => ?_⟩
  have q1' : if t = true then a DD S1 else b DD S1 := q1
  dsimp only
  cases t with
  | true => rw [if_pos rfl] at q1' ⊢; exact ⟨P, F1, S1, DD, R1, q1', k.ext e1⟩
  | false => rw [if_neg Bool.false_ne_true] at q1' ⊢; exact ⟨P, F1, S1, DD, R1, q1', k.ext e1⟩
/-! assignments -/
def dAsg (d : Den) (g : DenG) : DenS := fun D S => d S fun r S1 => g r S1 D.nx
theorem asg_run {g : DenG} {ws : List Nat} : ∀ E σ H, tS B (dAsg d g) E σ H → tAsg (tD B d) (tDG B ws g) E σ H := by
  rintro E σ H ⟨P, F, S, DD, R, q, k⟩
  refine ⟨P, F, S, _, R, q, fun x S1 q1 v1 H1 F1 e1 R1 r1 => ?_⟩
  exact ⟨P, F1, S1, x, _, R1, r1, q1, fun S2 q2 σ2 H2 F2 e2 R2 _ => k.nx S2 q2 σ2 H2 F2 (e1.trans e2) R2⟩
theorem ds_asg {tg : Expr} {g : DenG} {ws : List Nat} (he : PE X e (tD B d)) (hg : PG X tg (tDG B ws g)) (hs : swapsWithSole [tg] e pos.line X.env = pure false := by rfl) (hw : swappedStores [tg] e X.env = pure none := by rfl)
    (h1 : (assignEach [tg] X.env).map (·.2) = [assign tg X.env] := by rfl) : PS X (.Assign [tg] e pos) (tS B (dAsg d g)) := PS_imp (ps_asg he hg hs hw h1) asg_run
theorem ds_set (i : Nat) {x : Str} {pos' : Pos} (hN : X.N.Nodup) (he : PE X e (tD B d)) (hi : X.N[i]? = some x := by rfl) (hx : Loc X.env.scope x := by first | exact Or.inl rfl | exact Or.inr rfl)
    (hs : swapsWith e (some (.Name x pos')) pos.line X.env = pure false := by rfl) (hf : X.fn x = true ∨ X.env.scope.names.lookup x = some .local := by first | exact .inl rfl | exact .inr rfl | assumption) :
    PS X (.Assign [.Name x pos'] e pos) (tS B (dAsg d (dgName i))) := by
  refine PS_imp (ps_set hN hi hx he hs hf) fun E σ H h => ?_
  obtain ⟨P, F, S, QQ, R, q, k⟩ := asg_run (ws := [i]) E σ H h
  exact ⟨P, F, S, QQ, R, q, fun rv S' q' v H' F' e' R' r' => dg_run v σ H' _ (k rv S' q' v H' F' e' R' r')⟩
end

/-! ### loops -/
def dFor (di : DenI) (g : DenG) (b : DenS) : DenS := fun D S => di S fun items S1 => go items D S1
where go : List D → DEnds → Sg → Prop
  | [], E, S => E.nx S
  | x :: xs, E, S => g (.pu x) S fun S1 => b { E with nx := fun S2 => go xs E S2, ct := fun S2 => go xs E S2, bk := E.nx } S1
def dWhile (c : DenB) (b : DenS) : DenS := fun D S => ∃ (W : Nat → Sg → Prop), (∃ m, W m S) ∧ ∀ m S, W m S → c S fun t S1 => if t = true then b { D with nx := fun S2 => ∃ m', m' < m ∧ W m' S2, ct := fun S2 => ∃ m', m' < m ∧ W m' S2, bk := D.nx } S1 else D.nx S1
section
variable {X : Cx} {B : Bs} {pos : Pos} {tg iter c : Expr} {body : List Stmt} {di : DenI} {g : DenG} {b : DenS} {dc : DenB} {ws : List Nat}
theorem ds_while (hp : PassesOwn (model X.prog X.w) X.A X.env X.xe) (hc : PT X c (tDT B dc)) (hb : PSs X body (tS B b)) : PS X (.While c body [] pos) (tS B (dWhile dc b)) := by
  refine PS_imp (ps_while hp hc hb) ?_
  rintro E σ H ⟨P, F, S, DD, R, ⟨W, ⟨m0, w0⟩, turn⟩, k⟩
  refine ⟨fun m σ' H' => ∃ F' S', Ext F H F' H' ∧ Rel (B.p P) F' σ' H' S' ∧ W m S', ⟨m0, F, S, Ext.refl, R, w0⟩, ?_⟩
  rintro m σ1 H1 ⟨F1, S1, e1, R1, w1⟩
  refine ⟨P, F1, S1, _, R1, turn m S1 w1, fun t S2 q2 H2 F2 e2 R2 => ?_⟩
  cases t with
  | true =>
    rw [if_pos rfl] at q2 ⊢
    refine ⟨fun σ' H' => ∃ F' S', Ext F H F' H' ∧ Rel (B.p P) F' σ' H' S' ∧ ∃ m', m' < m ∧ W m' S', ?_, ?_⟩
    · rintro σ' H' ⟨F', S', e', R', m', hm, w'⟩
      exact ⟨m', hm, F', S', e', R', w'⟩
    · refine ⟨P, F2, S2, _, R2, q2, ⟨fun S' q' σ' H' F' e' R' => ⟨F', S', (e1.trans e2).trans e', R', q'⟩, fun S' q' σ' H' F' e' R' => k.nx S' q' σ' H' F' ((e1.trans e2).trans e') R', fun S' q' σ' H' F' e' R' => ⟨F', S', (e1.trans e2).trans e', R', q'⟩, fun rv S' q' v σ' H' F' e' R' r' => k.rt rv S' q' v σ' H' F' ((e1.trans e2).trans e') R' r'⟩⟩
  | false =>
    rw [if_neg Bool.false_ne_true] at q2 ⊢
    exact k.nx S2 q2 σ1 H2 F2 (e1.trans e2) R2
theorem for_body {σ : L2.St} {P : List (Addr × HO)} {F1 : Addr → Prop} {H1 : Hp} {S1 : Sg} {J : It} {items : List D} {DD : DEnds} {E : Ends}
    (R1 : Rel (B.p P) F1 σ H1 S1) (J1 : IterOk B.K J items F1 H1) (q1 : dFor.go g b items DD S1) (k : Stands B P F1 H1 DD E) :
    ∃ W : Nat → Nat → L2.St → Hp → Prop, (∃ m, W 0 m σ H1) ∧ ∀ i m σ H, W i m σ H →
  (J.stop i H ∧ E.nx σ H) ∨ (J.go i H ∧ ∃ N : L2.St → Hp → Prop, (∀ σ' H', N σ' H' → ∃ m', m' < m ∧ W (i + 1) m' σ' H') ∧ ∀ x H', J.yld i H x H' → tDG B ws g x σ H' fun σ2 H2 => tS B b { E with nx := N, ct := N, bk := E.nx } σ2 H2) := by
  refine ⟨fun i m σ' H' => m = items.length - i ∧ i ≤ items.length ∧ ∃ F' S', Ext F1 H1 F' H' ∧ Rel (B.p P) F' σ' H' S' ∧ dFor.go g b (items.drop i) DD S', ⟨items.length, by simp, Nat.zero_le _, F1, S1, Ext.refl, R1, q1⟩, ?_⟩
  rintro i m σ2 H2 ⟨rfl, hi2, F2, S2, e2, R2, q2⟩
  obtain ⟨g1, g2, g3⟩ := J1 F2 H2 e2
  by_cases hlt : i < items.length
  · refine .inr ⟨g1 i hlt, fun σ' H' => ∃ F' S', Ext F1 H1 F' H' ∧ Rel (B.p P) F' σ' H' S' ∧ dFor.go g b (items.drop (i + 1)) DD S', ?_, fun x H3 hy => ?_⟩
    · rintro σ' H' ⟨F', S', e', R', q'⟩
      exact ⟨items.length - (i + 1), by omega, rfl, hlt, F', S', e', R', q'⟩
    · obtain ⟨d, hd, hx⟩ := g3 i x H3 hlt hy
      have hdrop : items.drop i = d :: items.drop (i + 1) := by
        rw [List.drop_eq_getElem_cons hlt]
        rw [List.getElem?_eq_getElem hlt] at hd
        rw [Option.some.inj hd]
      rw [hdrop] at q2
      have fin : ∀ {F3 : Addr → Prop}, Ext F2 H2 F3 H3 → Rel (B.p P) F3 σ2 H3 S2 → Rp B.K F3 H3 d x → tDG B ws g x σ2 H3 (fun σ4 H4 => tS B b { E with nx := fun σ' H' => ∃ F' S', Ext F1 H1 F' H' ∧ Rel (B.p P) F' σ' H' S' ∧ dFor.go g b (items.drop (i + 1)) DD S', ct := fun σ' H' => ∃ F' S', Ext F1 H1 F' H' ∧ Rel (B.p P) F' σ' H' S' ∧ dFor.go g b (items.drop (i + 1)) DD S', bk := E.nx } σ4 H4) := by
        intro F3 e3 R3 r3
        refine ⟨P, F3, S2, .pu d, _, R3, r3, q2, fun S4 q4 σ4 H4 F4 e4 R4 _ => ?_⟩
        have E4 : Ext F1 H1 F4 H4 := e2.trans (e3.trans e4)
        refine ⟨P, F4, S4, _, R4, q4, ⟨fun S' q' σ' H' F' e' R' => ⟨F', S', E4.trans e', R', q'⟩, fun S' q' σ' H' F' e' R' => k.nx S' q' σ' H' F' (E4.trans e') R', fun S' q' σ' H' F' e' R' => ⟨F', S', E4.trans e', R', q'⟩, fun rv S' q' v σ' H' F' e' R' r' => k.rt rv S' q' v σ' H' F' (E4.trans e') R' r'⟩⟩
      rcases hx with ⟨rfl, rx⟩ | ⟨T, u, vs, ds, rfl, hT, rfl, hu, rfl, rx⟩
      · exact fin Ext.refl R2 rx
      · obtain ⟨e3, R3⟩ := R2.allocF (o := u) hT
        refine fin e3 R3 ?_
        unfold Rp
        exact ⟨T, vs, rfl, .inl ⟨.inr rfl, u, upd_same, hu⟩, RpAll.ext e3 _ _ rx⟩
  · have ei : i = items.length := by omega
    subst ei
    refine .inl ⟨g2, ?_⟩
    rw [List.drop_length] at q2
    exact k.nx S2 q2 σ2 H2 F2 e2 R2
theorem ds_for (hp : PassesOwn (model X.prog X.w) X.A X.env X.xe) (hc : X.calm = true) (hi : PI X tg iter (tDI B di)) (hg : PG X tg (tDG B ws g)) (hb : PSs X body (tS B b))
    (hs : ∀ x, foldedSetIterable iter X.env x = pure x := by intro _; rfl) : PS X (.For tg iter body [] pos) (tS B (dFor di g b)) := by
  refine PS_imp (ps_for hp hc hi hg hb hs) ?_
  rintro E σ H ⟨P, F, S, DD, R, q, k⟩
  refine ⟨P, F, S, _, R, q, fun items S1 q1 J H1 F1 e1 R1 J1 => for_body R1 J1 q1 ⟨fun S' q' σ' H' F' e' R' => k.nx S' q' σ' H' F' (e1.trans e') R', fun S' q' σ' H' F' e' R' => k.bk S' q' σ' H' F' (e1.trans e') R', fun S' q' σ' H' F' e' R' => k.ct S' q' σ' H' F' (e1.trans e') R', fun rv S' q' v σ' H' F' e' R' r' => k.rt rv S' q' v σ' H' F' (e1.trans e') R' r'⟩⟩
end
end DL
namespace DL
open PySem PySem.Spec PyProof.Rows L2

/-! ### list comprehensions -/
def wipeS (S : Sg) : List Nat → Sg
  | [] => S
  | v :: vs => (wipeS S vs).set v .no
/-- data, or nothing known -/
def puO : Option Sl → Sl
  | some (.pu d) => .pu d
  | _ => .no
theorem puO_own (o : Option Sl) : (puO o).own = false := by
  unfold puO
  split <;> rfl
def unwipe (S0 S : Sg) : List Nat → Sg
  | [] => S
  | v :: vs => (unwipe S0 S vs).set v (puO S0[v]?)
abbrev DenTs := Sg → (Bool → Sg → Prop) → Prop
def dYes : DenTs := fun S Q => Q true S
def dLc (di : DenI) (g : DenG) (t : DenTs) (e : Den) (vs : List Nat) : Den := fun S Q => di S fun items S1 => items.length ≤ sizeLine ∧ go vs items [] (wipeS S1 vs) fun acc S2 => Q (.ol acc) (unwipe S1 S2 vs)
where go (vs : List Nat) : List D → List D → Sg → (List D → Sg → Prop) → Prop
  | [], acc, S, Q => Q acc S
  | x :: xs, acc, S, Q => g (.pu x) S fun S1 => t S1 fun b S2 => if b = true then e S2 fun r S3 => (match frc S3 r with
      | some (d, S4) => go vs xs (acc ++ [d]) (wipeS S4 vs) Q
      | none => False)
    else go vs xs acc (wipeS S2 vs) Q
theorem wipeS_len (S : Sg) : ∀ vs, (wipeS S vs).length = S.length
  | [] => rfl
  | v :: vs => by simp [wipeS, wipeS_len S vs]
theorem wipeS_get {S : Sg} : ∀ {vs : List Nat} {i : Nat} {s : Sl}, (wipeS S vs)[i]? = some s → s = .no ∨ S[i]? = some s
  | [], _, _, h => .inr h
  | v :: vs, i, s, h => by
    unfold wipeS at h
    by_cases e : v = i
    · subst e
      by_cases hl : v < (wipeS S vs).length
      · rw [List.getElem?_set_self hl] at h; cases h; exact .inl rfl
      · rw [List.set_eq_of_length_le (by omega)] at h; exact wipeS_get h
    · rw [List.getElem?_set_ne e] at h; exact wipeS_get h
theorem wipe_ne {σ : L2.St} : ∀ {vs : List Nat} {i : Nat}, i ∉ vs → (wipe σ vs)[i]? = σ[i]?
  | [], _, _ => rfl
  | v :: vs, i, h => by
    unfold wipe
    rw [List.getElem?_set_ne (fun e => h (by simp [e]))]
    exact wipe_ne fun z => h (List.mem_cons_of_mem _ z)
theorem wipeS_ne {S : Sg} : ∀ {vs : List Nat} {i : Nat}, i ∉ vs → (wipeS S vs)[i]? = S[i]?
  | [], _, _ => rfl
  | v :: vs, i, h => by
    unfold wipeS
    rw [List.getElem?_set_ne (fun e => h (by simp [e]))]
    exact wipeS_ne fun z => h (List.mem_cons_of_mem _ z)
theorem wipeS_in {S : Sg} : ∀ {vs : List Nat} {i : Nat} {s : Sl}, i ∈ vs → (wipeS S vs)[i]? = some s → s = .no
  | v :: vs, i, s, h, e => by
    unfold wipeS at e
    by_cases q : v = i
    · subst q
      by_cases hl : v < (wipeS S vs).length
      · rw [List.getElem?_set_self hl] at e; cases e; rfl
      · rw [List.set_eq_of_length_le (by omega), List.getElem?_eq_none (by omega)] at e; cases e
    · rw [List.getElem?_set_ne q] at e
      exact wipeS_in ((List.mem_cons.mp h).resolve_left fun z => q z.symm) e
section
variable {B : Bs} {F F' : Addr → Prop} {σ : L2.St} {H H' : Hp} {S S' : Sg}
theorem Rel.wiped (R : Rel B F σ H S) (vs : List Nat) : Rel B F (wipe σ vs) H (wipeS S vs) := by
  have own : ∀ i, ownAt (wipeS S vs) i = true → i ∉ vs ∧ ownAt S i = true := fun i h => by
    obtain ⟨s, e, o⟩ := ownAt_some h
    have hv : i ∉ vs := fun z => by rw [wipeS_in z e] at o; cases o
    refine ⟨hv, ?_⟩
    rw [wipeS_ne hv] at e
    unfold ownAt; rw [e]; exact o
  refine ⟨by rw [wipe_length, wipeS_len, R.len], fun i s hs => ?_, fun i j v hi hj ei ej => ?_, R.keep, R.ios, R.frz, R.dom, R.iof, fun p hp => ?_, R.tab, R.pnl⟩
  · by_cases hv : i ∈ vs
    · exact .inl (wipeS_in hv hs)
    · rw [wipeS_ne hv] at hs
      rw [wipe_ne hv]
      exact R.sl i s hs
  · obtain ⟨vi, oi⟩ := own i hi
    obtain ⟨vj, oj⟩ := own j hj
    rw [wipe_ne vi] at ei
    rw [wipe_ne vj] at ej
    exact R.dist i j v oi oj ei ej
  · obtain ⟨h1, h2, h3, h4⟩ := R.pns p hp
    refine ⟨h1, h2, h3, fun j hj => ?_⟩
    obtain ⟨vj, oj⟩ := own j hj
    rw [wipe_ne vj]
    exact h4 j oj
/-- the names are what they were -/
theorem Rel.unwiped (R0 : Rel B F σ H S) (e : Ext F H F' H') {vs : List Nat} (R : Rel B F' (wipe σ vs) H' (wipeS S' vs)) : Rel B F' σ H' (DL.unwipe S (wipeS S' vs) vs) := by
  have hl : (wipeS S' vs).length = S.length := by rw [← R.len, wipe_length, R0.len]
  have R1 : Rel B F' σ H' (wipeS S' vs) := by
    have own : ∀ i, ownAt (wipeS S' vs) i = true → i ∉ vs := fun i h => by
      obtain ⟨s, e, o⟩ := ownAt_some h
      exact fun z => by rw [wipeS_in z e] at o; cases o
    refine ⟨by rw [hl, R0.len], fun i s hs => ?_, fun i j v hi hj ei ej => ?_, R.keep, R.ios, R.frz, R.dom, R.iof, fun p hp => ?_, R.tab, R.pnl⟩
    · by_cases hv : i ∈ vs
      · exact .inl (wipeS_in hv hs)
      · have := R.sl i s hs
        rw [wipe_ne hv] at this
        exact this
    · refine R.dist i j v hi hj ?_ ?_
      · rw [wipe_ne (own i hi)]; exact ei
      · rw [wipe_ne (own j hj)]; exact ej
    · obtain ⟨h1, h2, h3, h4⟩ := R.pns p hp
      refine ⟨h1, h2, h3, fun j hj => ?_⟩
      have := h4 j hj
      rw [wipe_ne (own j hj)] at this
      exact this
  have key : ∀ ws : List Nat, (DL.unwipe S (wipeS S' vs) ws).length = (wipeS S' vs).length ∧ ∀ (i : Nat) (s : Sl), (DL.unwipe S (wipeS S' vs) ws)[i]? = some s → s = .no ∨ (wipeS S' vs)[i]? = some s ∨ ∃ d, s = .pu d ∧ S[i]? = some (.pu d) := by
    intro ws
    induction ws with
    | nil => exact ⟨rfl, fun i s h => .inr (.inl h)⟩
    | cons w ws ih =>
      unfold DL.unwipe
      refine ⟨by simp [ih.1], fun i s h => ?_⟩
      by_cases z : w = i
      · subst z
        by_cases hl : w < (DL.unwipe S (wipeS S' vs) ws).length
        · rw [List.getElem?_set_self hl] at h
          have h := Option.some.inj h
          unfold puO at h
          split at h
          · rename_i d q
            exact .inr (.inr ⟨d, h.symm, q⟩)
          · exact .inl h.symm
        · rw [List.set_eq_of_length_le (by omega)] at h; exact ih.2 _ s h
      · rw [List.getElem?_set_ne z] at h; exact ih.2 i s h
  refine R1.weak (key vs).1 fun i s hs => ?_
  rcases (key vs).2 i s hs with h | h | ⟨d, rfl, h⟩
  · exact .inl h
  · exact .inr (.inl h)
  · rcases R0.sl i _ h with z | ⟨v, g1, g2⟩
    · cases z
    · exact .inr (.inr ⟨rfl, v, g1, Rp.ext e _ _ g2⟩)
/-- something more is held aside -/
theorem Rel.pin {p : Addr} {o : HO} {P : List (Addr × HO)} (R : Rel (B.p P) F σ H S) (hp : H p = some o) (f : Fresh (B.p P) F σ S p) (lo : LoD o := by exact ⟨(fun _ z => nomatch z), (fun _ z => nomatch z)⟩) : Rel (B.p ((p, o) :: P)) F σ H S := by
  refine ⟨R.len, R.sl, R.dist, R.keep, R.ios, R.frz, R.dom, R.iof, fun q hq => ?_, R.tab, fun q hq => (List.mem_cons.mp hq).elim (fun e => by rw [e]; exact lo) (R.pnl q)⟩
  rcases List.mem_cons.mp hq with rfl | hq
  · exact ⟨hp, f.1, f.2.2.1, f.2.2.2.2⟩
  · exact R.pns q hq
theorem Rel.unpin {p : Addr} {o : HO} {P : List (Addr × HO)} (R : Rel (B.p ((p, o) :: P)) F σ H S) : Rel (B.p P) F σ H S :=
  ⟨R.len, R.sl, R.dist, R.keep, R.ios, R.frz, R.dom, R.iof, fun q hq => R.pns q (List.mem_cons_of_mem _ hq), R.tab, fun q hq => R.pnl q (List.mem_cons_of_mem _ hq)⟩
/-- what was held aside is changed -/
theorem Rel.repin {p : Addr} {o o' : HO} {P : List (Addr × HO)} (R : Rel (B.p ((p, o) :: P)) F σ H S) (h0 : B.H0 p = none) (hP : ∀ q ∈ P, q.1 ≠ p) (lo : LoD o := by exact ⟨(fun _ z => nomatch z), (fun _ z => nomatch z)⟩) (lo' : LoD o' := by exact ⟨(fun _ z => nomatch z), (fun _ z => nomatch z)⟩) :
    Ext F H F (upd H p o') ∧ Rel (B.p ((p, o') :: P)) F σ (upd H p o') S := by
  obtain ⟨h1, h2, h3, h4⟩ := R.pns (p, o) List.mem_cons_self
  have ex : Ext F H F (upd H p o') := ⟨fun _ h _ => h, fun a ha _ => upd_ne fun z => h2 (z ▸ ha)⟩
  refine ⟨ex, R.len, fun i s hs => ?_, R.dist, fun b u g1 g2 => ?_, fun b hb => ?_, R.frz, fun a ha => by (rw [upd_ne (show a ≠ p from fun z => h2 (show F p from z ▸ ha))]; exact R.dom a ha), R.iof, fun q hq => ?_, tab_upd R.tab h1 lo, fun q hq => (List.mem_cons.mp hq).elim (fun e => by rw [e]; exact lo') fun z => R.pnl q (List.mem_cons_of_mem _ z)⟩
  · rcases R.sl i s hs with z | ⟨v, e1, r⟩
    · exact .inl z
    · refine .inr ⟨v, e1, RelC.ext (B := B.p ((p, o) :: P)) r ex (fun o2 b eb fb => ?_) fun o2 b eb => ?_⟩
      · obtain ⟨b', ob, f1, f2, f3, _⟩ := R.ownA (i := i) (by unfold ownAt; rw [hs]; exact o2)
        rw [e1, eb] at f1; cases f1
        exact f3 fb
      · refine upd_ne fun w => ?_
        subst w
        exact h4 i (by unfold ownAt; rw [hs]; exact o2) (by rw [e1, eb])
  · have : b ≠ p := fun z => by rw [z] at g1; rw [show (B.p ((p, o') :: P)).H0 p = none from h0] at g1; cases g1
    rw [upd_ne this]; exact R.keep b u g1 g2
  · by_cases z : b = p
    · rw [z, upd_same]; exact fun w => nomatch w
    · rw [upd_ne z]; exact R.ios b hb
  · rcases List.mem_cons.mp hq with rfl | hq
    · exact ⟨upd_same, h2, h3, h4⟩
    · obtain ⟨g1, g2, g3, g4⟩ := R.pns q (List.mem_cons_of_mem _ hq)
      exact ⟨by rw [upd_ne (hP q hq)]; exact g1, g2, g3, g4⟩
end
def tDTs (B : Bs) (d : DenTs) : TT := tDT B d
section
variable {X : Cx} {B : Bs}
theorem PTs_imp {ifs : List Expr} {t t' : TT} (h : PTs X ifs t) (i : ∀ σ H Q, t' σ H Q → t σ H Q) : PTs X ifs t' := ⟨fun pins s σ H Q I w => h.run pins s σ H Q I (i σ H Q w)⟩
theorem dts_nil : PTs X [] (tDT B dYes) := by
  refine PTs_imp pts_nil ?_
  rintro σ H Q ⟨P, F, S, QQ, R, q, k⟩
  exact k _ _ q H F Ext.refl R
theorem dts_one {c : Expr} {d : DenB} (h : PT X c (tDT B d)) : PTs X [c] (tDT B d) := pts_one h
theorem sizeLine_pos : 0 < sizeLine := by decide
theorem wipe_same {σ τ : L2.St} {ws : List Nat} (hl : τ.length = σ.length) (hw : ∀ i, i ∉ ws → τ[i]? = σ[i]?) : wipe τ ws = wipe σ ws := by
  have inn : ∀ (ρ : L2.St) (vs : List Nat) (i : Nat), i ∈ vs → i < ρ.length → (wipe ρ vs)[i]? = some none := by
    intro ρ vs
    induction vs with
    | nil => intro i h; cases h
    | cons v vs ih =>
      intro i h hi
      unfold wipe
      by_cases e : v = i
      · subst e; rw [List.getElem?_set_self (by rw [wipe_length]; exact hi)]
      · rw [List.getElem?_set_ne e]
        exact ih i ((List.mem_cons.mp h).resolve_left fun z => e z.symm) hi
  apply List.ext_getElem?
  intro i
  by_cases h : i ∈ ws
  · by_cases hi : i < σ.length
    · rw [inn σ ws i h hi, inn τ ws i h (by omega)]
    · rw [List.getElem?_eq_none (by rw [wipe_length]; omega), List.getElem?_eq_none (by rw [wipe_length]; omega)]
  · rw [wipe_ne h, wipe_ne h, hw i h]
theorem wipe_wipe {σ : L2.St} {ws : List Nat} : wipe (wipe σ ws) ws = wipe σ ws := wipe_same (wipe_length σ ws) fun i hi => wipe_ne hi
theorem ownAt_wipe {S : Sg} {vs : List Nat} {j : Nat} (hj : ownAt (wipeS S vs) j = true) : j ∉ vs ∧ ownAt S j = true := by
  obtain ⟨s, e, o⟩ := ownAt_some hj
  have hv : j ∉ vs := fun w => by rw [wipeS_in w e] at o; cases o
  refine ⟨hv, ?_⟩
  rw [wipeS_ne hv] at e
  unfold ownAt; rw [e]; exact o
theorem ownAt_unwipe {S0 S : Sg} : ∀ {vs : List Nat} {j : Nat}, ownAt (unwipe S0 S vs) j = true → ownAt S j = true
  | [], _, h => h
  | v :: vs, j, h => by
    unfold unwipe at h
    rw [ownAt_set] at h
    by_cases w : v = j ∧ v < (unwipe S0 S vs).length
    · rw [if_pos w, puO_own] at h; cases h
    · rw [if_neg w] at h; exact ownAt_unwipe (vs := vs) h
theorem lc_body {g : DenG} {t : DenTs} {e : Den} {vs ws : List Nat} (hws : ∀ i ∈ ws, i ∈ vs) {σ : L2.St} {P : List (Addr × HO)} {F1 : Addr → Prop} {H1 : Hp} {S1 : Sg} {J : It} {items : List D} {QQ : Rv → Sg → Prop} {Q : VK}
    (R1 : Rel (B.p P) F1 σ H1 S1) (J1 : IterOk B.K J items F1 H1) (q1 : items.length ≤ sizeLine ∧ dLc.go g t e vs items [] (wipeS S1 vs) fun acc S2 => QQ (.ol acc) (unwipe S1 S2 vs))
    (k : ∀ rv S', QQ rv S' → ∀ v H' F', Ext F1 H1 F' H' → Rel (B.p P) F' σ H' S' → RelRv (B.p P) F' σ H' S' rv v → Q v H') :
    ∀ D, H1 D = none → ∃ W : Nat → Nat → Hp → Prop, (∃ m, W 0 m (upd H1 D (.lst []))) ∧ ∀ i m H, W i m H →
  (J.stop i H ∧ Q (.ref D) H) ∨ (J.go i H ∧ ∃ Nx : Hp → Prop, (∀ H', Nx H' → ∃ m', m' < m ∧ W (i + 1) m' H') ∧ ∀ x H', J.yld i H x H' → tDG B ws g x (wipe σ vs) H' fun σ2 H2 => wipe σ2 vs = wipe σ vs ∧ tDT B t σ2 H2 fun b H3 =>
    if b = true then tD B e σ2 H3 fun y H4 => ∃ acc, H4 D = some (.lst acc) ∧ acc.length < sizeLine ∧ Nx (upd H4 D (.lst (acc ++ [y]))) else Nx H3) := by
  intro D hD
  obtain ⟨hlen, q1⟩ := q1
  obtain ⟨a1, a2, a3, _⟩ := R1.alloc (o := .lst []) hD
  have a4 := Rel.pin (B := B) (P := P) (p := D) (o := .lst []) (a2.wiped vs) upd_same ⟨a3.1, a3.2.1, a3.2.2.1, a3.2.2.2.1, fun j hj z => by
    obtain ⟨hv, ho⟩ := ownAt_wipe hj
    rw [wipe_ne hv] at z
    exact a3.2.2.2.2 j ho z⟩
  have h0 : B.H0 D = none := a3.2.1
  have hP : ∀ q ∈ P, q.1 ≠ D := a3.2.2.2.1
  -- the state of the walk at turn i
  let W : Nat → Hp → Prop := fun i H' => ∃ F' S' acc accv, acc.length ≤ i ∧ Ext F1 (upd H1 D (.lst [])) F' H' ∧ Rel (B.p ((D, .lst accv) :: P)) F' (wipe σ vs) H' (wipeS S' vs) ∧ RpAll B.K F' H' acc accv ∧
    dLc.go g t e vs (items.drop i) acc (wipeS S' vs) fun acc S2 => QQ (.ol acc) (unwipe S1 S2 vs)
  refine ⟨fun i m H' => m = items.length - i ∧ i ≤ items.length ∧ W i H', ⟨items.length, by simp, Nat.zero_le _, F1, S1, [], [], Nat.zero_le _, Ext.refl, a4, RpAll.nil, q1⟩, ?_⟩
  rintro i m H2 ⟨rfl, hi, F2, S2, acc, accv, hacc, e2, R2, ra, q2⟩
  obtain ⟨g1, g2, g3⟩ := J1 F2 H2 (a1.trans e2)
  have accD : H2 D = some (.lst accv) := (R2.pns (D, .lst accv) List.mem_cons_self).1
  by_cases hlt : i < items.length
  · refine .inr ⟨g1 i hlt, W (i + 1), fun H' w => ⟨items.length - (i + 1), by omega, rfl, hlt, w⟩, fun x H3 hy => ?_⟩
    obtain ⟨d, hd, hx⟩ := g3 i x H3 hlt hy
    have hdrop : items.drop i = d :: items.drop (i + 1) := by
      rw [List.drop_eq_getElem_cons hlt]
      rw [List.getElem?_eq_getElem hlt] at hd
      rw [Option.some.inj hd]
    rw [hdrop] at q2
    have fin : ∀ {F3 : Addr → Prop}, Ext F2 H2 F3 H3 → Rel (B.p ((D, .lst accv) :: P)) F3 (wipe σ vs) H3 (wipeS S2 vs) → Rp B.K F3 H3 d x → tDG B ws g x (wipe σ vs) H3 fun σ2 H2 => wipe σ2 vs = wipe σ vs ∧ tDT B t σ2 H2 fun b H3 =>
        if b = true then tD B e σ2 H3 fun y H4 => ∃ acc, H4 D = some (.lst acc) ∧ acc.length < sizeLine ∧ W (i + 1) (upd H4 D (.lst (acc ++ [y]))) else W (i + 1) H3 := by
      intro F3 e3 R3 r3
      refine ⟨_, F3, wipeS S2 vs, .pu d, _, R3, r3, q2, fun S4 q4 σ4 H4 F4 e4 R4 w4 => ?_⟩
      have hsig : wipe σ4 vs = wipe σ vs := by
        rw [← wipe_wipe (σ := σ) (ws := vs)]
        exact wipe_same w4.1 fun j hj => w4.2 j fun z => hj (hws j z)
      refine ⟨hsig, _, F4, S4, _, R4, q4, fun b S5 q5 H5 F5 e5 R5 => ?_⟩
      have E5 : Ext F1 (upd H1 D (.lst [])) F5 H5 := e2.trans (e3.trans (e4.trans e5))
      have ra5 := RpAll.ext (e3.trans (e4.trans e5)) _ _ ra
      have q5' : if b = true then e S5 fun r S3 => (match frc S3 r with
          | some (d, S4) => dLc.go g t e vs (items.drop (i + 1)) (acc ++ [d]) (wipeS S4 vs) fun acc S2 => QQ (.ol acc) (unwipe S1 S2 vs)
          | none => False)
        else dLc.go g t e vs (items.drop (i + 1)) acc (wipeS S5 vs) fun acc S2 => QQ (.ol acc) (unwipe S1 S2 vs) := q5
      dsimp only
      cases b with
      | true =>
        rw [if_pos rfl] at q5' ⊢
        refine ⟨_, F5, S5, _, R5, q5', fun r S6 q6 y H6 F6 e6 R6 r6 => ?_⟩
        cases h1 : frc S6 r with
        | none => simp only [h1] at q6
        | some p =>
          obtain ⟨dd, S7⟩ := p
          simp only [h1] at q6
          obtain ⟨F7, e7, R7, r7⟩ := RelRv.frc R6 r6 h1
          have pinD := R7.pns (D, .lst accv) List.mem_cons_self
          have R8 := R7.wiped vs
          rw [hsig] at R8
          obtain ⟨e9, R9⟩ := R8.repin (o' := .lst (accv ++ [y])) h0 hP
          have l1 := ra.len
          refine ⟨accv, pinD.1, by omega, F7, S7, acc ++ [dd], accv ++ [y], ?_, (E5.trans (e6.trans e7)).trans e9, R9, ?_, q6⟩
          · rw [List.length_append, List.length_singleton]; omega
          · exact RpAll.append (RpAll.ext ((e6.trans e7).trans e9) _ _ ra5) (RpAll.cons (Rp.ext e9 _ _ r7) RpAll.nil)
      | false =>
        rw [if_neg Bool.false_ne_true] at q5' ⊢
        have R8 := R5.wiped vs
        rw [hsig] at R8
        exact ⟨F5, S5, acc, accv, by omega, E5, R8, ra5, q5'⟩
    rcases hx with ⟨rfl, rx⟩ | ⟨T, ut, us, ds, rfl, hT, rfl, hut, rfl, rx⟩
    · exact fin Ext.refl R2 rx
    · obtain ⟨e3, R3⟩ := R2.allocF (o := ut) hT
      refine fin e3 R3 ?_
      unfold Rp
      exact ⟨T, us, rfl, .inl ⟨.inr rfl, ut, upd_same, hut⟩, RpAll.ext e3 _ _ rx⟩
  · have ei : i = items.length := by omega
    subst ei
    rw [List.drop_length] at q2
    refine .inl ⟨g2, ?_⟩
    have pinD := R2.pns (D, .lst accv) List.mem_cons_self
    refine k _ _ q2 _ H2 F2 (a1.trans e2) (Rel.unwiped R1 (a1.trans e2) R2.unpin) ⟨D, accv, rfl, accD, ⟨pinD.2.1, h0, pinD.2.2.1, hP, fun j hj z => ?_⟩, ra⟩
    have hj' := ownAt_unwipe hj
    have := pinD.2.2.2 j hj'
    rw [wipe_ne (ownAt_wipe hj').1] at this
    exact this z
theorem lc_run {di : DenI} {g : DenG} {t : DenTs} {e : Den} {vs ws : List Nat} (hws : ∀ i ∈ ws, i ∈ vs) :
    ∀ σ H Q, tD B (dLc di g t e vs) σ H Q → tLc (tDI B di) (tDG B ws g) (tDT B t) (tD B e) vs σ H Q := by
  rintro σ H Q ⟨P, F, S, QQ, R, q, k⟩
  refine ⟨P, F, S, _, R, q, fun items S1 q1 J H1 F1 e1 R1 J1 => lc_body hws R1 J1 q1 fun rv S' q' v H' F' e' R' r' => k rv S' q' v H' F' (e1.trans e') R' r'⟩
end
theorem puO_pu {d : D} : puO (some (.pu d)) = .pu d := rfl
theorem puO_no : puO (some .no) = .no := rfl
theorem puO_ol {d : List D} : puO (some (.ol d)) = .no := rfl
theorem puO_od {d : List (Key × D)} : puO (some (.od d)) = .no := rfl
theorem puO_io {k : Nat} {d : List D} : puO (some (.io k d)) = .no := rfl
end DL
namespace DL
open PySem PySem.Spec PyProof.Rows L2

section
variable {X : Cx} {B : Bs}
theorem de_lc {elt tg iter : Expr} {ifs : List Expr} {scope : Scope} (own : List (Str × Nat)) {pos : Pos} {di : DenI} {g : DenG} {t : DenTs} {e : Den} {ws : List Nat} (hc : X.calm = true) (hN : X.N.Nodup) (hi : PI X tg iter (tDI B di)) (ok : BlkOk X.N X.env.scope scope own)
    (hws : ∀ i ∈ ws, i ∈ own.map (·.2))
    (hg : ∀ (s : Shared) (H : Hp) (C : Addr) (cl : List (Str × Addr)) (fp : List Addr), PG (X.blk s H scope (compEnvC scope cl C X.env) fp) tg (tDG B ws g)) (ht : ∀ (s : Shared) (H : Hp) (C : Addr) (cl : List (Str × Addr)) (fp : List Addr), PTs (X.blk s H scope (compEnvC scope cl C X.env) fp) ifs (tDT B t))
    (he : ∀ (s : Shared) (H : Hp) (C : Addr) (cl : List (Str × Addr)) (fp : List Addr), PE (X.blk s H scope (compEnvC scope cl C X.env) fp) elt (tD B e)) (hs : ∀ x, foldedSetIterable iter X.env x = pure x := by intro _; rfl) :
    PE X (.ListComp elt [⟨tg, iter, ifs, 0⟩] scope pos) (tD B (dLc di g t e (own.map (·.2)))) :=
  PE_imp (pe_lc hc hN hi ok hg ht he hs) (lc_run hws)
theorem ds_setLc (i : Nat) {y : Str} {py : Pos} {elt tg iter : Expr} {ifs : List Expr} {scope : Scope} (own : List (Str × Nat)) {pos spos : Pos} {di : DenI} {g : DenG} {t : DenTs} {e : Den} {ws : List Nat} (hc : X.calm = true) (hN : X.N.Nodup) (hy : X.N[i]? = some y) (hyl : X.env.scope.names.lookup y = some .local)
    (hsw : swapsWith (.ListComp elt [⟨tg, iter, ifs, 0⟩] scope pos) (some (.Name y py)) spos.line X.env = pure true) (hi : PI X tg iter (tDI B di)) (ok : BlkOk X.N X.env.scope scope own)
    (hws : ∀ i ∈ ws, i ∈ own.map (·.2))
    (hg : ∀ (s : Shared) (H : Hp) (C : Addr) (cl : List (Str × Addr)) (fp : List Addr), PG (X.blk s H scope (compEnvC scope cl C X.env) fp) tg (tDG B ws g)) (ht : ∀ (s : Shared) (H : Hp) (C : Addr) (cl : List (Str × Addr)) (fp : List Addr), PTs (X.blk s H scope (compEnvC scope cl C X.env) fp) ifs (tDT B t))
    (he : ∀ (s : Shared) (H : Hp) (C : Addr) (cl : List (Str × Addr)) (fp : List Addr), PE (X.blk s H scope (compEnvC scope cl C X.env) fp) elt (tD B e)) (hs : ∀ x, foldedSetIterable iter X.env x = pure x := by intro _; rfl) :
    PS X (.Assign [.Name y py] (.ListComp elt [⟨tg, iter, ifs, 0⟩] scope pos) spos) (tS B (dAsg (dLc di g t e (own.map (·.2))) (dgName i))) := by
  refine PS_imp (ps_setLc hc hN hy hyl hsw hi ok hg ht he hs) fun E σ H h => ?_
  obtain ⟨P, F, S, QQ, R, q, k⟩ := asg_run (ws := [i]) E σ H h
  exact lc_run hws σ H _ ⟨P, F, S, QQ, R, q, fun rv S' q' v H' F' e' R' r' => dg_run v σ H' _ (k rv S' q' v H' F' e' R' r')⟩
end

/-! ### own lists changed -/
/-- the content of an own list at a name -/
def lstAt (S : Sg) (i : Nat) : Option (List D) := match S[i]? with
  | some (.ol ds) => some ds
  | some (.io _ ds) => some ds
  | _ => none
def putLst (S : Sg) (i : Nat) (ds : List D) : Sg := match S[i]? with
  | some (.io k _) => S.set i (.io k ds)
  | _ => S.set i (.ol ds)
section
variable {B : Bs} {F : Addr → Prop} {σ : L2.St} {H : Hp} {S : Sg}
theorem lstAt_rel (R : Rel B F σ H S) {i : Nat} {ds : List D} {v : V} (e : lstAt S i = some ds) (hv : σ[i]? = some (some v)) : ∃ a vs, v = .ref a ∧ H a = some (.lst vs) ∧ RpAll B.K F H ds vs ∧
    ∀ ds' vs', RpAll B.K F H ds' vs' → Ext F H F (upd H a (.lst vs')) ∧ Rel B F σ (upd H a (.lst vs')) (putLst S i ds') := by
  unfold lstAt at e
  cases q : S[i]? with
  | none => rw [q] at e; cases e
  | some s =>
    rw [q] at e
    rcases R.sl i s q with rfl | ⟨u, g1, g2⟩
    · cases e
    · rw [hv] at g1; cases g1
      cases s with
      | ol es =>
        cases e
        obtain ⟨a, vs, rfl, w1, w2, w3, w4⟩ := g2
        refine ⟨a, vs, rfl, w1, w4, fun ds' vs' r' => ?_⟩
        have ex : Ext F H F (upd H a (.lst vs')) := ⟨fun _ h _ => h, fun b hb _ => upd_ne fun z => w2 (z ▸ hb)⟩
        obtain ⟨e1, R1⟩ := R.write (s' := .ol ds') q rfl rfl hv ⟨a, vs', rfl, upd_same, w2, w3, RpAll.ext ex _ _ r'⟩
        refine ⟨e1, ?_⟩
        unfold putLst; rw [q]; exact R1
      | io k es =>
        cases e
        obtain ⟨a, vs, rfl, w0, w1, w2, w4⟩ := g2
        refine ⟨a, vs, rfl, w1, w4, fun ds' vs' r' => ?_⟩
        have ex : Ext F H F (upd H a (.lst vs')) := ⟨fun _ h _ => h, fun b hb _ => upd_ne fun z => w2 (z ▸ hb)⟩
        obtain ⟨e1, R1⟩ := R.write (s' := .io k ds') q rfl rfl hv ⟨a, vs', rfl, w0, upd_same, w2, RpAll.ext ex _ _ r'⟩
        refine ⟨e1, ?_⟩
        unfold putLst; rw [q]; exact R1
      | _ => cases e
end
def dAppend (dx da : Den) : Den := fun S Q => dx S fun x S1 => match x with
  | .al i => (lstAt S1 i).isSome = true ∧ da S1 fun y S2 => (match frc S2 y with
    | some (d, S3) => (match lstAt S3 i with
      | some ds => ds.length < sizeLine ∧ Q (.pu .non) (putLst S3 i (ds ++ [d]))
      | none => False)
    | none => False)
  | _ => False
def dExtend (dx da : Den) : Den := fun S Q => dx S fun x S1 => match x with
  | .al i => (lstAt S1 i).isSome = true ∧ da S1 fun y S2 => (match frc S2 y with
    | some (.lst es, S3) => (match lstAt S3 i with
      | some ds => ds.length + es.length ≤ sizeLine ∧ Q (.pu .non) (putLst S3 i (ds ++ es))
      | none => False)
    | _ => False)
  | _ => False
def dPop (dx : Den) : Den := fun S Q => dx S fun x S1 => match x with
  | .al i => (match lstAt S1 i with
    | some ds => (match ds[ds.length - 1]? with
      | some d => Q (.pu d) (putLst S1 i ds.dropLast)
      | none => False)
    | none => False)
  | _ => False
def dPopAt (dx da : Den) : Den := fun S Q => dx S fun x S1 => match x with
  | .al i => (lstAt S1 i).isSome = true ∧ da S1 fun y S2 => (match y with
    | .pu (.int j) => (match lstAt S2 i with
      | some ds => -(2 ^ 63) ≤ j ∧ j < 2 ^ 63 ∧ (match ixN ds.length j with
        | some k => (match ds[k]? with
          | some d => Q (.pu d) (putLst S2 i (ds.eraseIdx k))
          | none => False)
        | none => False)
      | none => False)
    | _ => False)
  | _ => False
section
variable {X : Cx} {B : Bs} {o e : Expr} {apos cpos : Pos} {dx da : Den}
theorem rr_non {F : Addr → Prop} {σ : L2.St} {H : Hp} {S : Sg} : RelRv B F σ H S (.pu .non) .non := by
  show Rp B.K F H .non .non
  unfold Rp; rfl
theorem lstAt_ty {F : Addr → Prop} {σ : L2.St} {H : Hp} {S : Sg} (R : Rel B F σ H S) {i : Nat} {ds : List D} {v : V} (e : lstAt S i = some ds) (hv : σ[i]? = some (some v)) : tyV X.K "list" v H := by
  obtain ⟨a, vs, rfl, h1, _⟩ := lstAt_rel R e hv
  exact .inl ⟨rfl, vs, .inl (.inl h1)⟩
theorem meth_run {r : V → List V → Hp → VK → Prop} {dm : Nat → Rv → Sg → (Rv → Sg → Prop) → Prop}
    (hm : ∀ (B : Bs) (F : Addr → Prop) (σ : L2.St) (H : Hp) (S S' : Sg) (i : Nat) (y : Rv) (v u : V) (QQ : Rv → Sg → Prop) (Q : VK), B.K = X.K → Rel B F σ H S → σ[i]? = some (some v) → RelRv B F σ H S y u → dm i y S QQ →
      (∀ rv S', QQ rv S' → ∀ w H' F', Ext F H F' H' → Rel B F' σ H' S' → RelRv B F' σ H' S' rv w → Q w H') → r v [u] H Q) (hB : B.K = X.K) :
    ∀ σ H Q, tD B (fun S Q => dx S fun x S1 => match x with
      | .al i => (lstAt S1 i).isSome = true ∧ da S1 fun y S2 => dm i y S2 Q
      | _ => False) σ H Q → tBM X.K "list" r (tD B dx) (tCons (tD B da) tNil) σ H Q := by
  rintro σ H Q ⟨P, F, S, QQ, R, q, k⟩
  refine ⟨P, F, S, _, R, q, fun x S1 q1 v1 H1 F1 e1 R1 r1 => ?_⟩
  cases x with
  | al i =>
    have r1' : σ[i]? = some (some v1) := r1
    obtain ⟨l1, q1⟩ := q1
    obtain ⟨ds, hds⟩ := Option.isSome_iff_exists.mp l1
    refine ⟨lstAt_ty R1 hds r1', P, F1, S1, _, R1, q1, fun y S2 q2 u H2 F2 e2 R2 r2 => ?_⟩
    exact hm (B.p P) F2 σ H2 S2 S2 i y v1 u QQ Q hB R2 r1' r2 q2 fun rv S' q' w H' F' e' R' r' => k rv S' q' w H' F' (e1.trans (e2.trans e')) R' r'
  | _ => exact q1.elim
theorem de_append (hB : B.K = X.K) (hx : PE X o (tD B dx)) (ha : PE X e (tD B da))
    (hbase : attributeBase o "append" X.env (eval o X.env) = eval o X.env := by rfl)
    (hfew : ((backTo cpos (starEach [e] X.env)).all (fun x => !x.1) && (backToKw cpos (keywordEach [] X.env)).all (fun x => x.1.isSome)
      && decide (([e] : List Expr).length + ([] : List Keyword).length + (if ([] : List Keyword).isEmpty then 0 else 1) < 30)) = true := by rfl)
    (hline : (apos.endLine == cpos.line) = true := by rfl) (hs : starEach [e] X.env = (false, eval e X.env) :: starEach [] X.env := by rfl) (hplain : (backTo cpos (starEach [] X.env)).any (·.1) = false := by rfl) :
    PE X (.Call (.Attribute o "append" apos) [e] [] cpos) (tD B (dAppend dx da)) := by
  refine PE_imp (pe_bm PySem.F.plainAttrs_list PySem.F.slot_list_append PySem.F.type_list_append mt_append hx (pa_cons ha pa_nil hs) hbase hfew hline hs hplain) (meth_run ?_ hB)
  intro B F σ H S S' i y v u QQ Q hB R hv ry h k
  cases h1 : frc S y with
  | none => simp only [h1] at h
  | some p =>
    obtain ⟨d, S3⟩ := p
    simp only [h1] at h
    obtain ⟨F3, e3, R3, r3⟩ := RelRv.frc R ry h1
    cases h2 : lstAt S3 i with
    | none => simp only [h2] at h
    | some ds =>
      simp only [h2] at h
      obtain ⟨a, vs, rfl, w1, w2, w3⟩ := lstAt_rel R3 h2 hv
      have r4 : RpAll B.K F3 H (ds ++ [d]) (vs ++ [u]) := w2.append (RpAll.cons r3 RpAll.nil)
      obtain ⟨e5, R5⟩ := w3 _ _ r4
      exact ⟨a, vs, u, rfl, rfl, w1, by rw [w2.len]; exact h.1, k _ _ h.2 _ _ F3 (e3.trans e5) R5 rr_non⟩
theorem de_extend (hB : B.K = X.K) (hx : PE X o (tD B dx)) (ha : PE X e (tD B da))
    (hbase : attributeBase o "extend" X.env (eval o X.env) = eval o X.env := by rfl)
    (hfew : ((backTo cpos (starEach [e] X.env)).all (fun x => !x.1) && (backToKw cpos (keywordEach [] X.env)).all (fun x => x.1.isSome)
      && decide (([e] : List Expr).length + ([] : List Keyword).length + (if ([] : List Keyword).isEmpty then 0 else 1) < 30)) = true := by rfl)
    (hline : (apos.endLine == cpos.line) = true := by rfl) (hs : starEach [e] X.env = (false, eval e X.env) :: starEach [] X.env := by rfl) (hplain : (backTo cpos (starEach [] X.env)).any (·.1) = false := by rfl) :
    PE X (.Call (.Attribute o "extend" apos) [e] [] cpos) (tD B (dExtend dx da)) := by
  refine PE_imp (pe_bm PySem.F.plainAttrs_list PySem.F.slot_list_extend PySem.F.type_list_extend mt_extend hx (pa_cons ha pa_nil hs) hbase hfew hline hs hplain) (meth_run ?_ hB)
  intro B F σ H S S' i y v u QQ Q hB R hv ry h k
  cases h1 : frc S y with
  | none => simp only [h1] at h
  | some p =>
    obtain ⟨d, S3⟩ := p
    simp only [h1] at h
    obtain ⟨F3, e3, R3, r3⟩ := RelRv.frc R ry h1
    cases d with
    | lst es =>
      dsimp only at h
      cases h2 : lstAt S3 i with
      | none => simp only [h2] at h
      | some ds =>
        simp only [h2] at h
        obtain ⟨a, vs, rfl, w1, w2, w3⟩ := lstAt_rel R3 h2 hv
        obtain ⟨b, us, rfl, fb, rb⟩ := rp_lst r3
        have r4 : RpAll B.K F3 H (ds ++ es) (vs ++ us) := w2.append rb
        obtain ⟨e5, R5⟩ := w3 _ _ r4
        exact ⟨a, b, vs, us, rfl, rfl, w1, fb.2, by rw [w2.len, rb.len]; exact h.1, k _ _ h.2 _ _ F3 (e3.trans e5) R5 rr_non⟩
    | _ => exact h.elim
theorem RpAll.dropLast {K : PySem.W.Frag} {F : Addr → Prop} {H : Hp} {ds : List D} {vs : List V} (r : RpAll K F H ds vs) : RpAll K F H ds.dropLast vs.dropLast := by
  rw [List.dropLast_eq_take, List.dropLast_eq_take, r.len]; exact r.take _
theorem RpAll.erase {K : PySem.W.Frag} {F : Addr → Prop} {H : Hp} : ∀ (i : Nat) {ds : List D} {vs : List V}, RpAll K F H ds vs → RpAll K F H (ds.eraseIdx i) (vs.eraseIdx i)
  | _, [], vs, h => by unfold RpAll at h; subst h; simpa using RpAll.nil
  | 0, d :: ds, vs, h => by
    unfold RpAll at h
    obtain ⟨v, r, rfl, h2, h3⟩ := h
    simpa using h3
  | i + 1, d :: ds, vs, h => by
    unfold RpAll at h
    obtain ⟨v, r, rfl, h2, h3⟩ := h
    simpa using RpAll.cons h2 (RpAll.erase i h3)
theorem de_pop (hx : PE X o (tD B dx))
    (hbase : attributeBase o "pop" X.env (eval o X.env) = eval o X.env := by rfl) (hline : (apos.endLine == cpos.line) = true := by rfl) :
    PE X (.Call (.Attribute o "pop" apos) [] [] cpos) (tD B (dPop dx)) := by
  refine PE_imp (pe_bm0 PySem.F.plainAttrs_list PySem.F.slot_list_pop PySem.F.type_list_pop mt_pop hx hbase hline) ?_
  rintro σ H Q ⟨P, F, S, QQ, R, q, k⟩
  refine ⟨P, F, S, _, R, q, fun x S1 q1 v1 H1 F1 e1 R1 r1 => ?_⟩
  cases x with
  | al i =>
    have r1' : σ[i]? = some (some v1) := r1
    dsimp only at q1
    cases h2 : lstAt S1 i with
    | none => simp only [h2] at q1
    | some ds =>
      simp only [h2] at q1
      cases h3 : ds[ds.length - 1]? with
      | none => simp only [h3] at q1
      | some d =>
        simp only [h3] at q1
        obtain ⟨a, vs, rfl, w1, w2, w3⟩ := lstAt_rel R1 h2 r1'
        obtain ⟨z, g1, g2⟩ := w2.get h3
        obtain ⟨e5, R5⟩ := w3 _ _ w2.dropLast
        refine ⟨lstAt_ty R1 h2 r1', a, vs, z, rfl, rfl, w1, by rw [w2.len]; exact g1, k _ _ q1 _ _ F1 (e1.trans e5) R5 (Rp.ext e5 _ _ g2)⟩
  | _ => exact q1.elim
theorem de_popAt (hB : B.K = X.K) (hx : PE X o (tD B dx)) (ha : PE X e (tD B da))
    (hbase : attributeBase o "pop" X.env (eval o X.env) = eval o X.env := by rfl)
    (hfew : ((backTo cpos (starEach [e] X.env)).all (fun x => !x.1) && (backToKw cpos (keywordEach [] X.env)).all (fun x => x.1.isSome)
      && decide (([e] : List Expr).length + ([] : List Keyword).length + (if ([] : List Keyword).isEmpty then 0 else 1) < 30)) = true := by rfl)
    (hline : (apos.endLine == cpos.line) = true := by rfl) (hs : starEach [e] X.env = (false, eval e X.env) :: starEach [] X.env := by rfl) (hplain : (backTo cpos (starEach [] X.env)).any (·.1) = false := by rfl) :
    PE X (.Call (.Attribute o "pop" apos) [e] [] cpos) (tD B (dPopAt dx da)) := by
  refine PE_imp (pe_bm PySem.F.plainAttrs_list PySem.F.slot_list_pop PySem.F.type_list_pop mt_popAt hx (pa_cons ha pa_nil hs) hbase hfew hline hs hplain) (meth_run ?_ hB)
  intro B F σ H S S' i y v u QQ Q hB R hv ry h k
  cases y with
  | pu d =>
    cases d with
    | int j =>
      dsimp only at h
      cases h2 : lstAt S i with
      | none => simp only [h2] at h
      | some ds =>
        simp only [h2] at h
        obtain ⟨b1, b2, h⟩ := h
        cases h3 : ixN ds.length j with
        | none => simp only [h3] at h
        | some kk =>
          simp only [h3] at h
          cases h4 : ds[kk]? with
          | none => simp only [h4] at h
          | some d =>
            simp only [h4] at h
            obtain ⟨a, vs, rfl, w1, w2, w3⟩ := lstAt_rel R h2 hv
            obtain ⟨z, g1, g2⟩ := w2.get h4
            obtain ⟨e5, R5⟩ := w3 _ _ (w2.erase kk)
            have ru : Rp B.K F H (.int j) u := ry
            unfold Rp at ru
            subst ru
            exact ⟨a, vs, j, kk, z, rfl, rfl, w1, b1, b2, by rw [w2.len]; exact (ixN_seq h3).1, g1, k _ _ h _ _ F e5 R5 (Rp.ext e5 _ _ g2)⟩
    | _ => exact h.elim
  | _ => exact h.elim
end

/-! ### o[i] = v -/
/-- the content of an own dict at a name -/
def dctAt (S : Sg) (i : Nat) : Option (List (Key × D)) := match S[i]? with
  | some (.od kvs) => some kvs
  | _ => none
def putG {α : Type} (kvs : List (Key × α)) (k : Key) (v : α) : List (Key × α) :=
  if (kvs.any fun kv => decide (kv.1 = k)) = true then kvs.map (fun kv => if kv.1 = k then (kv.1, v) else kv) else kvs ++ [(k, v)]
def dgSub (dx di : Den) : DenG := fun r S Q => match frc S r with
  | some (d, S0) => dx S0 fun x S1 => di S1 fun y S2 => (match x with
    | .al i => (match lstAt S2 i with
      | some ds => (match y with
        | .pu (.int j) => (match ixN ds.length j with
          | some k => Q (putLst S2 i (ds.set k d))
          | none => False)
        | _ => False)
      | none => (match dctAt S2 i with
        | some kvs => (match y with
          | .pu e => (match keyD e with
            | some k => kvs.length < sizeLine ∧ Q (S2.set i (.od (putG kvs k d)))
            | none => False)
          | _ => False)
        | none => False))
    | _ => False)
  | none => False
section
variable {X : Cx} {B : Bs} {o i : Expr} {dx di : Den} {pos : Pos}
theorem PSet.or {t t' : TSet} (h : PSet X t) (h' : PSet X t') : PSet X (fun o i v H Q => t o i v H Q ∨ t' o i v H Q) := by
  intro pins s σ H o i v ov iv u Q I r1 r2 r3 q
  rcases q with q | q
  · exact h pins s σ H o i v ov iv u Q I r1 r2 r3 q
  · exact h' pins s σ H o i v ov iv u Q I r1 r2 r3 q
theorem set_dict (hu : X.A.units + 1 < cLine) : PSet X (fun o i v H Q => ∃ a H4, o = .ref a ∧ DPut H a i v H4 ∧ Q H4) := by
  intro pins s σ H o i v ov iv u Q I r1 r2 r3 h
  obtain ⟨a, H4, rfl, g, q⟩ := h
  obtain rfl : ov = Value.ref a := r1
  exact d_setItem hu I g r2 r3 fun s' I' => ⟨H4, I', q⟩
theorem put_rp {K : PySem.W.Frag} {F : Addr → Prop} {H : Hp} : ∀ {kvs : List (Key × D)} {vs : List V} (k : Key) {d : D} {v : V}, RpAll K F H (kvs.map (·.2)) vs → Rp K F H d v →
    ∃ vs', putK ((kvs.map (·.1)).zip vs) k v = ((putG kvs k d).map (·.1)).zip vs' ∧ RpAll K F H ((putG kvs k d).map (·.2)) vs' := by
  intro kvs vs k d v h hd
  have anyE : ∀ {kvs : List (Key × D)} {vs : List V}, RpAll K F H (kvs.map (·.2)) vs → (((kvs.map (·.1)).zip vs).any fun kv => decide (kv.1 = k)) = kvs.any fun kv => decide (kv.1 = k) := by
    intro kvs
    induction kvs with
    | nil => intro vs _; rfl
    | cons p r ih =>
      intro vs h
      rw [List.map_cons] at h
      unfold RpAll at h
      obtain ⟨v, us, rfl, _, h2⟩ := h
      simp only [List.map_cons, List.zip_cons_cons, List.any_cons]
      rw [ih h2]
  unfold putK putG
  rw [anyE h]
  by_cases c : (kvs.any fun kv => decide (kv.1 = k)) = true
  · rw [if_pos c, if_pos c]
    have go : ∀ {kvs : List (Key × D)} {vs : List V}, RpAll K F H (kvs.map (·.2)) vs → ∃ vs', (((kvs.map (·.1)).zip vs).map fun kv => if kv.1 = k then (kv.1, v) else kv) = ((kvs.map fun kv => if kv.1 = k then (kv.1, d) else kv).map (·.1)).zip vs' ∧
        RpAll K F H ((kvs.map fun kv => if kv.1 = k then (kv.1, d) else kv).map (·.2)) vs' := by
      intro kvs
      induction kvs with
      | nil => intro vs _; exact ⟨[], rfl, RpAll.nil⟩
      | cons p r ih =>
        intro vs h
        rw [List.map_cons] at h
        unfold RpAll at h
        obtain ⟨x, us, rfl, h1, h2⟩ := h
        obtain ⟨vs', g1, g2⟩ := ih h2
        by_cases e : p.1 = k
        · refine ⟨v :: vs', ?_, ?_⟩
          · simp only [List.map_cons, List.zip_cons_cons, if_pos e]
            rw [g1]
          · simp only [List.map_cons, if_pos e]
            exact RpAll.cons hd g2
        · refine ⟨x :: vs', ?_, ?_⟩
          · simp only [List.map_cons, List.zip_cons_cons, if_neg e]
            rw [g1]
          · simp only [List.map_cons, if_neg e]
            exact RpAll.cons h1 g2
    exact go h
  · rw [if_neg c, if_neg c]
    refine ⟨vs ++ [v], ?_, ?_⟩
    · rw [List.map_append, List.zip_append (by rw [h.len]; simp)]; rfl
    · rw [List.map_append]; exact h.append (RpAll.cons hd RpAll.nil)
theorem dctAt_rel {F : Addr → Prop} {σ : L2.St} {H : Hp} {S : Sg} (R : Rel B F σ H S) {i : Nat} {kvs : List (Key × D)} {v : V} (e : dctAt S i = some kvs) (hv : σ[i]? = some (some v)) : ∃ a vs, v = .ref a ∧ H a = some (.dK ((kvs.map (·.1)).zip vs)) ∧ RpAll B.K F H (kvs.map (·.2)) vs ∧
    ∀ kvs' vs', RpAll B.K F H (kvs'.map (·.2)) vs' → Ext F H F (upd H a (.dK ((kvs'.map (·.1)).zip vs'))) ∧ Rel B F σ (upd H a (.dK ((kvs'.map (·.1)).zip vs'))) (S.set i (.od kvs')) := by
  unfold dctAt at e
  cases q : S[i]? with
  | none => rw [q] at e; cases e
  | some s =>
    rw [q] at e
    rcases R.sl i s q with rfl | ⟨u, g1, g2⟩
    · cases e
    · rw [hv] at g1; cases g1
      cases s with
      | od es =>
        cases e
        obtain ⟨a, vs, rfl, w1, w2, w3, w4⟩ := g2
        refine ⟨a, vs, rfl, w1, w4, fun ds' vs' r' => ?_⟩
        have ex : Ext F H F (upd H a (.dK ((ds'.map (·.1)).zip vs'))) := ⟨fun _ h _ => h, fun b hb _ => upd_ne fun z => w2 (z ▸ hb)⟩
        exact R.write (s' := .od ds') q rfl rfl hv ⟨a, vs', rfl, upd_same, w2, w3, RpAll.ext ex _ _ r'⟩
      | _ => cases e
theorem dg_sub (hu : X.A.units + 1 < cLine) (ho : PE X o (tD B dx)) (hi : PE X i (tD B di))
    (ha : ∀ v, assign (.Subscript o i pos) X.env v = (do
      let ov ← holding [v] (eval o X.env)
      let iv ← holding [v, ov] (eval i X.env)
      standAt pos
      holding [v, ov, iv] (setItem ov iv v)
      release [v, ov, iv] []) := by intro _; rfl) : PG X (.Subscript o i pos) (tDG B [] (dgSub dx di)) := by
  refine PG_imp (pg_sub ho hi (PSet.or set_list (set_dict hu)) ha) ?_
  rintro v σ H Q ⟨P, F, S, rv, QQ, R, r, q, k⟩
  unfold dgSub at q
  cases h0 : frc S rv with
  | none => simp only [h0] at q
  | some p =>
    obtain ⟨d, S0⟩ := p
    simp only [h0] at q
    obtain ⟨F0, e0, R0, r0⟩ := RelRv.frc R r h0
    refine ⟨P, F0, S0, _, R0, q, fun x S1 q1 v1 H1 F1 e1 R1 r1 => ?_⟩
    refine ⟨P, F1, S1, _, R1, q1, fun y S2 q2 u H2 F2 e2 R2 r2 => ?_⟩
    cases x with
    | al j =>
      have r1' : σ[j]? = some (some v1) := r1
      dsimp only at q2
      have rd2 := Rp.ext (e1.trans e2) _ _ r0
      cases h2 : lstAt S2 j with
      | some ds =>
        simp only [h2] at q2
        cases y with
        | pu dd =>
          cases dd with
          | int jj =>
            dsimp only at q2
            cases h3 : ixN ds.length jj with
            | none => simp only [h3] at q2
            | some kk =>
              simp only [h3] at q2
              obtain ⟨a, vs, rfl, w1, w2, w3⟩ := lstAt_rel R2 h2 r1'
              obtain ⟨e5, R5⟩ := w3 _ _ (w2.set kk rd2)
              have ru : Rp B.K F2 H2 (.int jj) u := r2
              unfold Rp at ru
              subst ru
              exact .inl ⟨a, vs, jj, kk, rfl, rfl, w1, by rw [w2.len]; exact h3, k _ q2 σ _ F2 ((e0.trans e1).trans (e2.trans e5)) R5 ⟨rfl, fun _ _ => rfl⟩⟩
          | _ => exact q2.elim
        | _ => exact q2.elim
      | none =>
        simp only [h2] at q2
        cases h3 : dctAt S2 j with
        | none => simp only [h3] at q2
        | some kvs =>
          simp only [h3] at q2
          cases y with
          | pu dd =>
            dsimp only at q2
            cases h4 : keyD dd with
            | none => simp only [h4] at q2
            | some kk =>
              simp only [h4] at q2
              obtain ⟨a, vs, rfl, w1, w2, w3⟩ := dctAt_rel R2 h3 r1'
              obtain ⟨vs', g1, g2⟩ := put_rp kk w2 rd2
              obtain ⟨e5, R5⟩ := w3 _ _ g2
              have ru : u = kV kk := key_rel (Rp.t r2) h4
              subst ru
              refine .inr ⟨a, _, rfl, DPut.k w1 ?_, ?_⟩
              · rw [List.length_zip, List.length_map, w2.len, List.length_map, Nat.min_self]; exact q2.1
              · rw [g1]; exact k _ q2.2 σ _ F2 ((e0.trans e1).trans (e2.trans e5)) R5 ⟨rfl, fun _ _ => rfl⟩
          | _ => exact q2.elim
    | _ => exact q2.elim
end
end DL
namespace DL
open PySem PySem.Spec PyProof.Rows L2

/-! ### defs -/
/-- n parameters, N names -/
def mkF (n N : Nat) (b : DenS) : FDen := fun ds QQ => ds.length = n ∧ b ⟨fun _ => QQ (.pu .non), fun rv _ => QQ rv, fun _ => False, fun _ => False⟩ (ds.map Sl.pu ++ List.replicate (N - n) .no)
def mkIO (n N : Nat) (b : DenS) : IDen := fun hs ds QQ => ds.length + 1 = n ∧
  b ⟨fun S => ∃ hs', S[0]? = some (.io 0 hs') ∧ QQ (.pu .non) hs', fun rv S => ∃ hs', S[0]? = some (.io 0 hs') ∧ QQ rv hs', fun _ => False, fun _ => False⟩ (.io 0 hs :: (ds.map Sl.pu ++ List.replicate (N - n) .no))
/-- a def that stands under its name -/
def Fn1 (P : Program) (w : World) (K : PySem.W.Frag) (mg : Str → Option Value) (base : Heap) (k : Nat) (x : Str) (ps : List Str) (sp : Sp) : Prop :=
  ∃ f fd, mg x = some (.ref f) ∧ PySem.W.keepIn K (.ref f) = true ∧ FnOk P w K mg base CX0 k f fd ps sp ∧ Binds K fd ps []
section
variable {P : Program} {w : World} {K : PySem.W.Frag} {mg : Str → Option Value} {base : Heap} {x qual : Str} {params : Arguments} {body : List Stmt} {scope : Scope} {f : Addr} {fd : FuncData} {N ps : List Str} {k : Nat} {b : DenS}
theorem start_rel {F : Addr → Prop} {H : Hp} {ds : List D} {vs : List V} {N : List Str} (hd : ∀ a, F a → H a ≠ none) (r : RpAll K F H ds vs) : Rel ⟨K, H, F, [], [], []⟩ F (L2.start N vs) H (ds.map Sl.pu ++ List.replicate (N.length - ds.length) .no) := by
  have noown : ∀ i, ownAt (ds.map Sl.pu ++ List.replicate (N.length - ds.length) .no) i = false := fun i => by
    unfold ownAt
    by_cases h : i < ds.length
    · rw [List.getElem?_append_left (by simpa using h), List.getElem?_map, List.getElem?_eq_getElem h]; rfl
    · rw [List.getElem?_append_right (by simpa using h)]
      by_cases h2 : i - (ds.map Sl.pu).length < N.length - ds.length
      · rw [List.getElem?_replicate, if_pos h2]; rfl
      · rw [List.getElem?_replicate, if_neg h2]
  refine ⟨?_, ?_, ?_, ?_, ?_, ?_, ?_, ?_, ?_, ?_, fun p hp => by cases hp⟩
  · unfold L2.start; simp [r.len]
  · intro i s hs
    by_cases h : i < ds.length
    · rw [List.getElem?_append_left (by simpa using h), List.getElem?_map, List.getElem?_eq_getElem h] at hs
      cases hs
      obtain ⟨v, g1, g2⟩ := r.get (List.getElem?_eq_getElem h)
      refine .inr ⟨v, ?_, g2⟩
      unfold L2.start
      rw [List.getElem?_append_left (by rw [List.length_map, r.len]; exact h), List.getElem?_map, g1]; rfl
    · rw [List.getElem?_append_right (by simpa using h), List.getElem?_replicate] at hs
      split at hs
      · cases hs; exact .inl rfl
      · cases hs
  · intro i j v hi; rw [noown] at hi; cases hi
  · intro b o h _; exact h
  · intro b hb; cases hb
  · intro a ha; exact .inl ha
  · exact hd
  · intro b hb; cases hb
  · intro p hp; cases hp
  · intro p hp; cases hp
theorem fn_pure {n : Nat} (hn : n = ps.length) {M : Nat} (hM : M = N.length) (Fd : FunD K x qual params body scope [] [] f fd) (S : FnScope N ps scope)
    (hb : ∀ (cdv : Value) (A : Around) (outer : List Env) (s : Shared) (H : Hp) (E : XK), Room k (A.deeper (envOfC qual scope s.heap.objs.size f cdv)) → ∀ B : Bs, B.K = K →
      PSs (cxOf CX0 P w K mg base N qual scope f cdv A outer s H E).nox body (tS B b)) : FnOk P w K mg base CX0 (k + 1) f fd ps (spD K (mkF n M b)) := by
  subst hn hM
  have len : ∀ vs H Q E, spD K (mkF ps.length N.length b) vs H Q E → vs.length = ps.length := by
    rintro vs H Q E ⟨F, ds, QQ, h1, h2, h3, _⟩
    rw [h2.len]; exact h3.1
  refine Fd.ok S len fun cdv A outer s H vs Q E hr h => ?_
  obtain ⟨F, ds, QQ, h1, h2, ⟨h3, h5⟩, h4⟩ := h
  refine ⟨_, PSs.nox (hb cdv A outer s H E hr ⟨K, H, F, [], [], []⟩ rfl), [], F, _, _, start_rel h1 h2, by rw [h3]; exact h5, ?_⟩
  have key : ∀ {rv : Rv} {v : V} {H' : Hp} {F' : Addr → Prop} {σ' : L2.St} {S' : Sg}, QQ rv → Ext F H F' H' → Rel (Bs.p ⟨K, H, F, [], [], []⟩ []) F' σ' H' S' → RetOk K F' H H' rv v → Q v H' := by
    intro rv v H' F' σ' S' q e R r
    exact h4 rv q v H' F' e.1 R.frz (fun b o hb => R.keep b o hb (by simp [Bs.p])) R.dom r
  refine ⟨fun S' q σ' H' F' e R => ?_, fun S' q => q.elim, fun S' q => q.elim, fun rv S' q v σ' H' F' e R r => ?_⟩
  · exact key (v := .non) q e R (rp_non (K := K) (F := F') (H := H'))
  · refine key q e R ?_
    cases rv with
    | pu d => exact r
    | ol ds => obtain ⟨a, vs, e1, e2, e3, e4, e5⟩ := r; exact ⟨a, vs, e1, e4, e3, e2, e5⟩
    | od ds => obtain ⟨a, vs, e1, e2, e3, e4, e5⟩ := r; exact ⟨a, vs, e1, e4, e3, e2, e5⟩
    | al i => exact r
theorem startIO_rel {F : Addr → Prop} {H : Hp} {ds hs : List D} {vs hv : List V} {a : Addr} {N : List Str} (hd : ∀ a, F a → H a ≠ none) (ha : ¬ F a) (hl : H a = some (.lst hv)) (rh : RpAll K F H hs hv) (r : RpAll K F H ds vs) :
    Rel ⟨K, H, F, [a], [], []⟩ F (L2.start N (.ref a :: vs)) H (.io 0 hs :: (ds.map Sl.pu ++ List.replicate (N.length - (ds.length + 1)) .no)) := by
  have noown : ∀ i, ownAt (ds.map Sl.pu ++ List.replicate (N.length - (ds.length + 1)) .no) i = false := fun i => by
    unfold ownAt
    by_cases h : i < ds.length
    · rw [List.getElem?_append_left (by simpa using h), List.getElem?_map, List.getElem?_eq_getElem h]; rfl
    · rw [List.getElem?_append_right (by simpa using h)]
      by_cases h2 : i - (ds.map Sl.pu).length < N.length - (ds.length + 1)
      · rw [List.getElem?_replicate, if_pos h2]; rfl
      · rw [List.getElem?_replicate, if_neg h2]
  have noown1 : ∀ i, ownAt (.io 0 hs :: (ds.map Sl.pu ++ List.replicate (N.length - (ds.length + 1)) .no)) (i + 1) = false := noown
  refine ⟨?_, ?_, ?_, ?_, ?_, ?_, ?_, ?_, ?_, ?_, fun p hp => by cases hp⟩
  · unfold L2.start; simp [r.len]
  · intro i s hs
    cases i with
    | zero => cases hs; exact .inr ⟨.ref a, rfl, a, hv, rfl, rfl, hl, ha, rh⟩
    | succ i =>
      have hs : (ds.map Sl.pu ++ List.replicate (N.length - (ds.length + 1)) .no)[i]? = some s := hs
      by_cases h : i < ds.length
      · rw [List.getElem?_append_left (by simpa using h), List.getElem?_map, List.getElem?_eq_getElem h] at hs
        cases hs
        obtain ⟨v, g1, g2⟩ := r.get (List.getElem?_eq_getElem h)
        refine .inr ⟨v, ?_, g2⟩
        unfold L2.start
        rw [List.getElem?_append_left (by rw [List.length_map, List.length_cons, r.len]; omega), List.getElem?_map]
        show Option.map some (vs[i]?) = _
        rw [g1]; rfl
      · rw [List.getElem?_append_right (by simpa using h), List.getElem?_replicate] at hs
        split at hs
        · cases hs; exact .inl rfl
        · cases hs
  · intro i j v hi hj _ _
    cases i with
    | zero => cases j with
      | zero => rfl
      | succ j => rw [noown1] at hj; cases hj
    | succ i => rw [noown1] at hi; cases hi
  · intro b o h _; exact h
  · intro b hb; rw [List.mem_singleton.mp hb, hl]; exact fun z => nomatch z
  · intro a ha; exact .inl ha
  · exact hd
  · intro b hb; rw [List.mem_singleton.mp hb]; exact ⟨ha, by show H a ≠ none; rw [hl]; exact fun z => nomatch z⟩
  · intro p hp; cases hp
  · intro p hp; cases hp
theorem fn_io {n : Nat} (hn : n = ps.length) {M : Nat} (hM : M = N.length) (Fd : FunD K x qual params body scope [] [] f fd) (S : FnScope N ps scope)
    (hb : ∀ (cdv : Value) (A : Around) (outer : List Env) (s : Shared) (H : Hp) (E : XK), Room k (A.deeper (envOfC qual scope s.heap.objs.size f cdv)) → ∀ B : Bs, B.K = K →
      PSs (cxOf CX0 P w K mg base N qual scope f cdv A outer s H E).nox body (tS B b)) : FnOk P w K mg base CX0 (k + 1) f fd ps (spIO K (mkIO n M b)) := by
  subst hn hM
  have len : ∀ vs H Q E, spIO K (mkIO ps.length N.length b) vs H Q E → vs.length = ps.length := by
    rintro vs H Q E ⟨F, a, hv, r, hs, ds, QQ, rfl, _, _, _, _, h2, h3, _⟩
    rw [List.length_cons, h2.len]; exact h3.1
  refine Fd.ok S len fun cdv A outer s H vs Q E hr h => ?_
  obtain ⟨F, a, hv, r, hs, ds, QQ, rfl, h1, na, la, rh, h2, ⟨h3, h5⟩, h4⟩ := h
  refine ⟨_, PSs.nox (hb cdv A outer s H E hr ⟨K, H, F, [a], [], []⟩ rfl), [], F, _, _, startIO_rel h1 na la rh h2, by rw [h3]; exact h5, ?_⟩
  have key : ∀ {rv : Rv} {v : V} {H' : Hp} {F' : Addr → Prop} {σ' : L2.St} {S' : Sg}, (∃ hs', S'[0]? = some (.io 0 hs') ∧ QQ rv hs') → Ext F H F' H' → Rel (Bs.p ⟨K, H, F, [a], [], []⟩ []) F' σ' H' S' → RetOk K F' H H' rv v → Q v H' := by
    rintro rv v H' F' σ' S' ⟨hs', q0, q⟩ e R r
    rcases R.sl 0 _ q0 with z | ⟨u, g1, a', vs, rfl, w0, w1, w2, w4⟩
    · cases z
    · cases w0
      exact h4 rv hs' q v H' F' vs e.1 R.frz (fun b o hb ho => R.keep b o ho (by simpa [Bs.p] using hb)) R.dom w1 w4 r
  refine ⟨fun S' q σ' H' F' e R => ?_, fun S' q => q.elim, fun S' q => q.elim, fun rv S' q v σ' H' F' e R r => ?_⟩
  · exact key (v := .non) q e R (rp_non (K := K) (F := F') (H := H'))
  · refine key q e R ?_
    cases rv with
    | pu d => exact r
    | ol ds => obtain ⟨a, vs, e1, e2, e3, e4, e5⟩ := r; exact ⟨a, vs, e1, e4, e3, e2, e5⟩
    | od ds => obtain ⟨a, vs, e1, e2, e3, e4, e5⟩ := r; exact ⟨a, vs, e1, e4, e3, e2, e5⟩
    | al i => exact r
end

/-! ### calls by name -/
section
variable {X : Cx} {B : Bs} {pos p : Pos} {e : Expr} {es : List Expr} {da : DenA} {k : Nat} {ps : List Str} {x : Str} {g : FDen} {gi : IDen}
theorem de_fn (G : Fn1 X.prog X.w X.K X.mg X.base k x ps (spD X.K g)) (hr : Room k X.A) (hB : B.K = X.K) (ha : PA X (e :: es) (tDA B da)) (hg : Gl X x := by rfl)
    (hdb : (x == ("__debug__" : Str)) = false := by decide) (he : starEach (e :: es) X.env = (false, eval e X.env) :: starEach es X.env := by rfl) (hpl : (backTo pos (starEach es X.env)).any (·.1) = false := by rfl) :
    PE X (.Call (.Name x p) (e :: es) [] pos) (tD B (dCall g da)) := by
  obtain ⟨f, fd, h1, h2, h3, h4⟩ := G
  exact de_call h3 hr hB hg h1 h2 h4 ha hdb he hpl
theorem de_fn0 (G : Fn1 X.prog X.w X.K X.mg X.base k x ps (spD X.K g)) (hr : Room k X.A) (hB : B.K = X.K) (hg : Gl X x := by rfl)
    (hdb : (x == ("__debug__" : Str)) = false := by decide) : PE X (.Call (.Name x p) [] [] pos) (tD B (dCall g dNil)) := by
  obtain ⟨f, fd, h1, h2, h3, h4⟩ := G
  exact de_call0 h3 hr hB hg h1 h2 h4 hdb
theorem de_fnIO (G : Fn1 X.prog X.w X.K X.mg X.base k x ps (spIO X.K gi)) (hr : Room k X.A) (hB : B.K = X.K) (ha : PA X (e :: es) (tDA B da)) (hg : Gl X x := by rfl)
    (hdb : (x == ("__debug__" : Str)) = false := by decide) (he : starEach (e :: es) X.env = (false, eval e X.env) :: starEach es X.env := by rfl) (hpl : (backTo pos (starEach es X.env)).any (·.1) = false := by rfl) :
    PE X (.Call (.Name x p) (e :: es) [] pos) (tD B (dCallIO gi da)) := by
  obtain ⟨f, fd, h1, h2, h3, h4⟩ := G
  exact de_callIO h3 hr hB hg h1 h2 h4 ha hdb he hpl
end

/-! ### a, b = x, y -/
def dPar (i j : Nat) (da : DenA) : DenS := fun D S => da S fun xs S1 => match frcs S1 xs with
  | some ([d, e], S2) => D.nx ((S2.set i (.pu d)).set j (.pu e))
  | _ => False
def dPar3 (i j l : Nat) (da : DenA) : DenS := fun D S => da S fun xs S1 => match frcs S1 xs with
  | some ([d, e, f], S2) => D.nx (((S2.set i (.pu d)).set j (.pu e)).set l (.pu f))
  | _ => False
section
variable {X : Cx} {B : Bs} {pos : Pos} {da : DenA} {x y z : Str} {a b c : Expr} {px py pz pt pt2 : Pos}
theorem ds_par (i j : Nat) {kt k2 : Nat} (hN : X.N.Nodup) (ha : PA X [a, b] (tDA B da)) (hc : X.calm = true := by rfl) (hi : X.N[i]? = some x := by rfl) (hj : X.N[j]? = some y := by rfl) (hij : i ≠ j := by decide)
    (hx : X.env.scope.names.lookup x = some .local := by rfl) (hy : X.env.scope.names.lookup y = some .local := by rfl)
    (hw : swappedStores [.Tuple [.Name x px, .Name y py] kt pt] (.Tuple [a, b] k2 pt2) X.env = pure (some [x, y]) := by rfl)
    (hs : swapsWithSole [.Tuple [.Name x px, .Name y py] kt pt] (.Tuple [a, b] k2 pt2) pos.line X.env = pure false := by rfl) :
    PS X (.Assign [.Tuple [.Name x px, .Name y py] kt pt] (.Tuple [a, b] k2 pt2) pos) (tS B (dPar i j da)) := by
  refine PS_imp (ps_par hc hN hi hj hij hx hy ha hw hs) ?_
  rintro E σ H ⟨P, F, S, DD, R, q, k⟩
  refine ⟨P, F, S, _, R, q, fun xs S1 q1 vs H1 F1 e1 R1 r1 => ?_⟩
  cases h1 : frcs S1 xs with
  | none => simp only [h1] at q1
  | some p =>
    obtain ⟨ds, S2⟩ := p
    obtain ⟨F2, e2, R2, r2⟩ := RelHs.frc R1 r1 h1
    match ds, q1, h1, r2 with
    | [d, e], q1, h1, r2 =>
      simp only [h1] at q1
      unfold RpAll at r2; obtain ⟨v1, t1, rfl, g1, r2⟩ := r2
      unfold RpAll at r2; obtain ⟨v2, t2, rfl, g2, r2⟩ := r2
      unfold RpAll at r2; subst r2
      exact ⟨v1, v2, rfl, k.nx _ q1 _ H1 F2 (e1.trans e2) (relC_rv (relC_rv R2 g1) g2)⟩
    | [], q1, h1, _ => simp only [h1] at q1
    | [_], q1, h1, _ => simp only [h1] at q1
    | _ :: _ :: _ :: _, q1, h1, _ => simp only [h1] at q1
theorem ds_par3 (i j l : Nat) {kt k2 : Nat} (hN : X.N.Nodup) (ha : PA X [a, b, c] (tDA B da)) (hc : X.calm = true := by rfl) (hi : X.N[i]? = some x := by rfl) (hj : X.N[j]? = some y := by rfl) (hl : X.N[l]? = some z := by rfl) (hij : i ≠ j := by decide) (hil : i ≠ l := by decide) (hjl : j ≠ l := by decide)
    (hx : X.env.scope.names.lookup x = some .local := by rfl) (hy : X.env.scope.names.lookup y = some .local := by rfl) (hz : X.env.scope.names.lookup z = some .local := by rfl)
    (hw : swappedStores [.Tuple [.Name x px, .Name y py, .Name z pz] kt pt] (.Tuple [a, b, c] k2 pt2) X.env = pure (some [x, y, z]) := by rfl)
    (hs : swapsWithSole [.Tuple [.Name x px, .Name y py, .Name z pz] kt pt] (.Tuple [a, b, c] k2 pt2) pos.line X.env = pure false := by rfl) :
    PS X (.Assign [.Tuple [.Name x px, .Name y py, .Name z pz] kt pt] (.Tuple [a, b, c] k2 pt2) pos) (tS B (dPar3 i j l da)) := by
  refine PS_imp (ps_par3 hc hN hi hj hl hij hil hjl hx hy hz ha hw hs) ?_
  rintro E σ H ⟨P, F, S, DD, R, q, k⟩
  refine ⟨P, F, S, _, R, q, fun xs S1 q1 vs H1 F1 e1 R1 r1 => ?_⟩
  cases h1 : frcs S1 xs with
  | none => simp only [h1] at q1
  | some p =>
    obtain ⟨ds, S2⟩ := p
    obtain ⟨F2, e2, R2, r2⟩ := RelHs.frc R1 r1 h1
    match ds, q1, h1, r2 with
    | [d, e, f], q1, h1, r2 =>
      simp only [h1] at q1
      unfold RpAll at r2; obtain ⟨v1, t1, rfl, g1, r2⟩ := r2
      unfold RpAll at r2; obtain ⟨v2, t2, rfl, g2, r2⟩ := r2
      unfold RpAll at r2; obtain ⟨v3, t3, rfl, g3, r2⟩ := r2
      unfold RpAll at r2; subst r2
      exact ⟨v1, v2, v3, rfl, k.nx _ q1 _ H1 F2 (e1.trans e2) (relC_rv (relC_rv (relC_rv R2 g1) g2) g3)⟩
    | [], q1, h1, _ => simp only [h1] at q1
    | [_], q1, h1, _ => simp only [h1] at q1
    | [_, _], q1, h1, _ => simp only [h1] at q1
    | _ :: _ :: _ :: _ :: _, q1, h1, _ => simp only [h1] at q1
end

/-! ### the law's end -/
section
/-- the law's end: G its promise over every base -/
theorem law_walk {l : PySem.W.OpenLaw} {n k : Nat} {q : Program} {loose : List Str} {XP : (Str → Option Value) → Heap → Prop} {YP : World → Heap → Prop} {d : DefRec} {x : Str} {g : FDen}
    (hn : l.most = some n) (hn2 : n ≤ sizeLine) (hdf : d.params.defaults = []) (hr : Room k callerA)
    (F : ∀ (w : World) (mg : Str → Option Value) (fa : Addr) (h : Heap), YP w h → h.Ns mainGlobals mg → mg d.name = some (.ref fa) →
      ∃ (K : PySem.W.Frag) (fd : FuncData), K.In h ∧ (∀ (s : Shared) (u : Value), BindsTo s fd ⟨[u], []⟩ [(x, u)]) ∧ ∀ base : Heap, K.In base → base.Ns mainGlobals mg → FnOk l.prog w K mg base CX0 k fa fd [x] (spD K g))
    (hg : ∀ ns : List Int, ns.length ≤ n → (∀ i ∈ ns, Builtin.Int.intBits i ≤ 1048576) → g [.scr (ns.map D.int)] fun rv => rv = .pu (.bl true)) :
    PySem.W.WalkO q loose XP YP l.row.toRowW d [] (fun f vs => PySem.call f vs) := by
  refine Att.attach_callB hn hdf fun w s₀ s₁ mg mb fa o pm cd doc a vs ns G Y ho hd hcd hmg hobj hints hlen hbits hg0 => ?_
  obtain ⟨K, fd, KX, hb, hF⟩ := F w mg fa _ Y G.T.g hmg
  refine law_call KX G.T.g G.T.b G.T.builtins G.T.nolimit hg0 hobj hints (Nat.le_trans hlen hn2) hr hF hb (fun H hO hS => ?_) fun H e s' z => z
  refine ⟨fun b => H b ≠ none, [.scr (ns.map D.int)], _, fun _ h => h, ?_, hg ns hlen hbits, fun rv hrv v H' F' _ _ _ _ hr => ?_⟩
  · have rl : ∀ l : List Int, RpAll K (fun b => H b ≠ none) H (l.map D.int) (l.map V.int) := by
      intro l
      induction l with
      | nil => exact RpAll.nil
      | cons i l ih => exact RpAll.cons rp_int ih
    refine RpAll.cons ?_ RpAll.nil
    unfold Rp
    refine ⟨a, _, rfl, ?_, rl ns⟩
    rcases hS with z | z
    · refine .inl ⟨?_, z⟩
      rcases z with z | ⟨o, z⟩
      · show H a ≠ none
        rw [z]; exact fun z => nomatch z
      · show H a ≠ none
        rw [z]; exact fun z => nomatch z
    · exact .inr z
  · subst hrv
    exact bl_of (K := K) (F := F') (H := H') hr
end
end DL
namespace DL
open PySem PySem.Spec PyProof.Rows L2

/-! ### the module's constants -/
mutual
def rpB (K : PySem.W.Frag) : D → Value → Bool
  | .non, .none => true
  | .bl b, .bool c => b == c
  | .int i, .int j _ => decide (i = j)
  | .str x, .str y _ => decide (x = y)
  | .tup ds, .ref a => match K.lookup a with
    | some ⟨.type c, none, .seq its _, _⟩ => decide (c = "tuple") && (decide (its.size ≤ sizeLine) && rpBs K ds its.toList)
    | _ => false
  | _, _ => false
termination_by structural d => d
def rpBs (K : PySem.W.Frag) : List D → List Value → Bool
  | [], [] => true
  | d :: ds, u :: us => rpB K d u && rpBs K ds us
  | _, _ => false
termination_by structural ds => ds
end
mutual
theorem rpB_ok {K : PySem.W.Frag} : ∀ (d : D) (u : Value), rpB K d u = true → ∃ v, RelV v u ∧ ∀ F H, Rp K F H d v
  | .non, u, h => by
    cases u with
    | none => exact ⟨.non, rfl, fun F H => rp_non⟩
    | _ => simp [rpB] at h
  | .bl b, u, h => by
    cases u with
    | bool c =>
      have e : b = c := by simpa [rpB] using h
      subst e
      exact ⟨.bl b, rfl, fun F H => rp_bl⟩
    | _ => simp [rpB] at h
  | .int i, u, h => by
    cases u with
    | int j t =>
      have e : i = j := by simpa [rpB] using h
      subst e
      exact ⟨.int i, ⟨t, rfl⟩, fun F H => rp_int⟩
    | _ => simp [rpB] at h
  | .str x, u, h => by
    cases u with
    | str y t =>
      have e : x = y := by simpa [rpB] using h
      subst e
      exact ⟨.str x, ⟨t, rfl⟩, fun F H => rp_str⟩
    | _ => simp [rpB] at h
  | .tup ds, u, h => by
    cases u with
    | ref a =>
      unfold rpB at h
      cases q : K.lookup a with
      | none => rw [q] at h; cases h
      | some o =>
        obtain ⟨oc, od, dt, osl⟩ := o
        rw [q] at h
        cases oc with
        | type c =>
         cases od with
         | some _ => cases dt <;> cases h
         | none =>
          cases dt with
          | seq its n =>
            obtain ⟨h1, h2⟩ := He.ba (show (decide (c = "tuple") && (decide (its.size ≤ sizeLine) && rpBs K ds its.toList)) = true from h)
            obtain ⟨h3, h4⟩ := He.ba h2
            obtain ⟨vs, r, g⟩ := rpBs_ok ds _ h4
            refine ⟨.ref a, rfl, fun F H => ?_⟩
            unfold Rp
            exact ⟨a, vs, rfl, .inr ⟨_, its, n, q, congrArg Value.type (of_decide_eq_true h1), rfl, of_decide_eq_true h3, r, rfl⟩, g F H⟩
          | _ => cases h
        | _ => cases od <;> cases dt <;> cases h
    | _ => simp [rpB] at h
  | .lst _, u, h => by cases u <;> simp [rpB] at h
  | .dct _ _, u, h => by cases u <;> simp [rpB] at h
  | .scr _, u, h => by cases u <;> simp [rpB] at h
theorem rpBs_ok {K : PySem.W.Frag} : ∀ (ds : List D) (us : List Value), rpBs K ds us = true → ∃ vs, Vals vs us ∧ ∀ F H, RpAll K F H ds vs
  | [], [], _ => ⟨[], .nil, fun F H => RpAll.nil⟩
  | [], _ :: _, h => by simp [rpBs] at h
  | _ :: _, [], h => by simp [rpBs] at h
  | d :: ds, u :: us, h => by
    unfold rpBs at h
    obtain ⟨h1, h2⟩ := He.ba h
    obtain ⟨v, r, g⟩ := rpB_ok d u h1
    obtain ⟨vs, rs, gs⟩ := rpBs_ok ds us h2
    exact ⟨v :: vs, .cons r rs, fun F H => RpAll.cons (g F H) (gs F H)⟩
end
/-- a class of errors of one's own, without an __init__ of its own, below Exception; SumError stands over all -/
def exBase : List Value := [.type "Exception", .type "BaseException", .type "object"]
def subE (c y : Str) : Bool := decide (c = y) || decide (y = "SumError")
def exB (K : PySem.W.Frag) (es : List Str) (x : Str) : Bool := He.eqO (PySem.W.nsIn K mainGlobals x) (some (some (.ref (He.ga K x)))) && (PySem.W.excIn K (He.ga K x) exBase "Exception.__new__" && (PySem.W.keepIn K (.ref (He.ga K x)) && (decide (PySem.W.subIn K (.ref (He.ga K x)) (.type "BaseException") = some true) && (decide (PySem.W.typeIn K (.ref (He.ga K x)) = some (.type "type")) &&
  ((He.eqO (PySem.W.findIn K (.ref (He.ga K x)) "__getattribute__") (some (some (.builtin "BaseException.__getattribute__"))) && (He.eqO (PySem.W.findIn K (.ref (He.ga K x)) "__getattr__") (some none) && (PySem.W.hasDictIn K (He.ga K x) && (He.eqO (PySem.W.findIn K (.ref (He.ga K x)) "__class__") (some (some (.builtin "object.__class__"))) &&
    (He.eqO (PySem.W.specialIn K (.builtin "object.__class__") "__get__") (some (some (.builtin "getset_descriptor.__get__"))) && (decide (PySem.W.takesIn K (.builtin "object.__class__") = some true) && decide (PySem.W.mroIn K (He.ga K x) (.type "object") = some true))))))) &&
    es.all fun y => decide (PySem.W.exmOne K (.ref (He.ga K x)) (.ref (He.ga K y)) = some (subE x y)) && decide (PySem.W.kitOne K (.ref (He.ga K x)) (.ref (He.ga K y)) = some (subE x y)))))))
/-- the classes among the constants -/
def exNames (cs : List (Str × D)) : List Str := cs.filterMap fun p => match p.2 with
  | .scr _ => some p.1
  | _ => none
/-- told as .dct ..: a def that makes lambdas, its table known, none of the written part -/
def tabB (K : PySem.W.Frag) (x : Str) : Bool := match PySem.W.tabIn K x with
  | some (_, P) => (K.lookup P).isNone
  | none => false
theorem tabB_ok {K : PySem.W.Frag} {x : Str} (h : tabB K x = true) : ∃ c P, PySem.W.tabIn K x = some (c, P) ∧ K.lookup P = none := by
  unfold tabB at h
  cases q : PySem.W.tabIn K x with
  | none => rw [q] at h; cases h
  | some p =>
    obtain ⟨c, P⟩ := p
    rw [q] at h
    exact ⟨c, P, rfl, Option.isNone_iff_eq_none.mp h⟩
/-- a constant; or, told as .scr .., a class of errors (.scr []: without an __init__ of its own) -/
def glB (K : PySem.W.Frag) (es : List Str) (c : Str × D) : Bool := match c.2 with
  | .scr [] => exB K es c.1
  | .scr _ => He.eqO (PySem.W.nsIn K mainGlobals c.1) (some (some (.ref (He.ga K c.1))))
  | .dct _ _ => tabB K c.1
  | _ => (match PySem.W.nsIn K mainGlobals c.1 with
    | some (some u) => rpB K c.2 u
    | _ => false)
/-- what is known of such a class -/
structure ExOk (K : PySem.W.Frag) (es : List Str) (x : Str) : Prop where
  ex : PySem.W.excIn K (He.ga K x) exBase "Exception.__new__" = true
  kp : PySem.W.keepIn K (.ref (He.ga K x)) = true
  sb : PySem.W.subIn K (.ref (He.ga K x)) (.type "BaseException") = some true
  ty : PySem.W.typeIn K (.ref (He.ga K x)) = some (.type "type")
  c : L2.ExcC K (He.ga K x)
  all : ∀ y ∈ es, PySem.W.exmOne K (.ref (He.ga K x)) (.ref (He.ga K y)) = some (subE x y) ∧ PySem.W.kitOne K (.ref (He.ga K x)) (.ref (He.ga K y)) = some (subE x y)
theorem exB_ok {K : PySem.W.Frag} {h : Heap} {mg : Str → Option Value} {es : List Str} {x : Str} (X : K.In h) (G : h.Ns mainGlobals mg) (c : glB K es (x, .scr []) = true) : mg x = some (.ref (He.ga K x)) ∧ ExOk K es x := by
  have c : exB K es x = true := c
  unfold exB at c
  simp only [Bool.and_eq_true] at c
  obtain ⟨c1, c2, c3, c4, c5, ⟨d1, d2, d3, d4, d5, d6, d7⟩, c6⟩ := c
  refine ⟨PySem.W.mg_of X G (He.eqO_ok c1), c2, c3, of_decide_eq_true c4, of_decide_eq_true c5, ⟨He.eqO_ok d1, He.eqO_ok d2, of_decide_eq_true c4, d3, He.eqO_ok d4, He.eqO_ok d5, of_decide_eq_true d6, of_decide_eq_true d7⟩, fun y hy => ?_⟩
  have z := List.all_eq_true.mp c6 y hy
  rw [Bool.and_eq_true] at z
  exact ⟨of_decide_eq_true z.1, of_decide_eq_true z.2⟩
theorem exN_ok {K : PySem.W.Frag} {h : Heap} {mg : Str → Option Value} {es : List Str} {x : Str} {l : List D} (X : K.In h) (G : h.Ns mainGlobals mg) (c : glB K es (x, .scr l) = true) : mg x = some (.ref (He.ga K x)) := by
  cases l with
  | nil => exact (exB_ok X G c).1
  | cons d l => exact PySem.W.mg_of X G (He.eqO_ok c)
theorem glB_ok {K : PySem.W.Frag} {h : Heap} {mg : Str → Option Value} {es : List Str} {x : Str} {d : D} (X : K.In h) (G : h.Ns mainGlobals mg) (c : glB K es (x, d) = true) (hd : ∀ l, d ≠ .scr l) (hd2 : ∀ ks l, d ≠ .dct ks l) : ∃ u v, mg x = some u ∧ RelV v u ∧ ∀ F H, Rp K F H d v := by
  have c : (match PySem.W.nsIn K mainGlobals x with
    | some (some u) => rpB K d u
    | _ => false) = true := by
    unfold glB at c
    split at c
    · rename_i e; exact absurd e (hd _)
    · rename_i e; exact absurd e (hd _)
    · rename_i e; exact absurd e (hd2 _ _)
    · exact c
  cases q : PySem.W.nsIn K mainGlobals x with
  | none => simp only [q] at c; cases c
  | some o => cases o with
    | none => simp only [q] at c; cases c
    | some u =>
      simp only [q] at c
      obtain ⟨v, r, g⟩ := rpB_ok d u c
      exact ⟨u, v, PySem.W.mg_of X G q, r, g⟩

abbrev AlM : Type := He.AlD × Bool
def obsM (n : Nat) (fa : List He.Fa) (fn : List He.DefD) (cs : List (Str × D)) (g : Addr → Option Obj) : AlM := (He.obsD fa fn (He.frG g (He.asD g n)), cs.all fun c => glB (He.frG g (He.asD g n)) (exNames cs) c)
structure SaysM (fa : List He.Fa) (fn : List He.DefD) (cs : List (Str × D)) (K : PySem.W.Frag) : Prop where
  d : He.SaysD fa fn K
  c : (cs.all fun c => glB K (exNames cs) c) = true
def hookM (n : Nat) (fa : List He.Fa) (fn : List He.DefD) (cs : List (Str × D)) : PySem.W.Hook where
  α := AlM
  obs := fun s => obsM n fa fn cs s.heap.get?
  val := fun _ => (He.valD fn, true)
  says := fun _ h => ∃ K : PySem.W.Frag, K.In h ∧ SaysM fa fn cs K
  of := fun _ _ e => ⟨_, He.frG_in, congrArg (fun z : AlM => z.1) e, congrArg (fun z : AlM => z.2) e⟩
  keeps := fun _ _ _ ⟨K, hK, c⟩ k => ⟨K, PySem.W.Frag.In.keeps hK k, c⟩
theorem obsM_eq {n : Nat} {fa : List He.Fa} {fn : List He.DefD} {cs : List (Str × D)} {g : Addr → Option Obj} {s : Shared} (h : ∀ a, g a = s.heap.get? a) : obsM n fa fn cs g = (hookM n fa fn cs).obs s := by
  have e : g = s.heap.get? := funext h
  rw [e] <;> rfl
/-- what the head tells -/
def Hd (fa : List He.Fa) (fn : List He.DefD) (cs : List (Str × D)) (K : PySem.W.Frag) (mg : Str → Option Value) : Prop := ∃ h : Heap, K.In h ∧ h.Ns mainGlobals mg ∧ SaysM fa fn cs K
section
variable {P : Program} {w : World} {K : PySem.W.Frag} {mg : Str → Option Value} {base : Heap} {fa : List He.Fa} {fn : List He.DefD} {cs : List (Str × D)} {x : Str} {ps : List Str} {k : Nat} {N : List Str} {b : DenS}
theorem Hd.free (hd : Hd fa fn cs K mg) (j : Nat) {x : Str} (h : fa[j]? = some (.free x) := by rfl) : mg x = none := by
  obtain ⟨h', X, G, c⟩ := hd
  exact He.free_ok X G (c.d.fact j h)
theorem Hd.con (hd : Hd fa fn cs K mg) (j : Nat) {x : Str} {d : D} (h : cs[j]? = some (x, d) := by rfl) (hn : ∀ l, d ≠ .scr l := by exact fun _ z => nomatch z) (hn2 : ∀ ks l, d ≠ .dct ks l := by exact fun _ _ z => nomatch z) : ∃ u v, mg x = some u ∧ RelV v u ∧ ∀ F H, Rp K F H d v := by
  obtain ⟨h', X, G, c⟩ := hd
  exact glB_ok X G (List.all_eq_true.mp c.c _ (List.mem_of_getElem? h)) hn hn2
theorem de_con {X : Cx} {B : Bs} {pos : Pos} {x : Str} {d : D} (c : ∃ u v, X.mg x = some u ∧ RelV v u ∧ ∀ F H, Rp X.K F H d v) (hB : B.K = X.K) (hg : Gl X x := by rfl) (hdb : (x == ("__debug__" : Str)) = false := by decide) : PE X (.Name x pos) (tD B (dC d)) := by
  obtain ⟨u, v, h1, h2, h3⟩ := c
  exact de_glob hg h1 h2 (hB ▸ h3) hdb
theorem fn1_pure {d : He.DefD} (hd : Hd fa fn cs K mg) (i j n : Nat) {M : Nat} (hi : fn[i]? = some d) (hj : fa[j]? = some (.glo x)) (ha : d.at_ = (x, none)) (hdv : d.dfl = []) (hkw : d.kwd = []) (S : FnScope N ps d.scope)
    (hbind : ∀ (kV doc pm : Value) (an : Option Addr) (cdv ct : Value) (us : List Value), us.length = ps.length → bindArgs (PySem.W.fnOf d.name d.qual d.params d.body d.scope .none kV doc pm an cdv ct) ⟨us, []⟩ = pure (ps.zip us))
    (hn : n = ps.length) (hM : M = N.length)
    (hb : ∀ (f : Addr) (cdv : Value) (A : Around) (outer : List Env) (s : Shared) (H : Hp) (E : XK), Room k (A.deeper (envOfC d.qual d.scope s.heap.objs.size f cdv)) → ∀ B : Bs, B.K = K →
      PSs (cxOf CX0 P w K mg base N d.qual d.scope f cdv A outer s H E).nox d.body (tS B b)) : Fn1 P w K mg base (k + 1) x ps (spD K (mkF n M b)) := by
  obtain ⟨h', X, G, c⟩ := hd
  obtain ⟨fd, F⟩ := c.d.def_ i hi
  unfold He.DefD.dvs He.DefD.kws at F
  rw [hdv, hkw] at F
  have e := He.glo_ok X G (c.d.fact j hj)
  refine ⟨He.fAd K d.at_, fd, ?_, F.kp, fn_pure hn hM F S (hb _), F.bindsN hbind⟩
  rw [e, ha]; rfl
theorem fn1_io {d : He.DefD} (hd : Hd fa fn cs K mg) (i j n : Nat) {M : Nat} (hi : fn[i]? = some d) (hj : fa[j]? = some (.glo x)) (ha : d.at_ = (x, none)) (hdv : d.dfl = []) (hkw : d.kwd = []) (S : FnScope N ps d.scope)
    (hbind : ∀ (kV doc pm : Value) (an : Option Addr) (cdv ct : Value) (us : List Value), us.length = ps.length → bindArgs (PySem.W.fnOf d.name d.qual d.params d.body d.scope .none kV doc pm an cdv ct) ⟨us, []⟩ = pure (ps.zip us))
    (hn : n = ps.length) (hM : M = N.length)
    (hb : ∀ (f : Addr) (cdv : Value) (A : Around) (outer : List Env) (s : Shared) (H : Hp) (E : XK), Room k (A.deeper (envOfC d.qual d.scope s.heap.objs.size f cdv)) → ∀ B : Bs, B.K = K →
      PSs (cxOf CX0 P w K mg base N d.qual d.scope f cdv A outer s H E).nox d.body (tS B b)) : Fn1 P w K mg base (k + 1) x ps (spIO K (mkIO n M b)) := by
  obtain ⟨h', X, G, c⟩ := hd
  obtain ⟨fd, F⟩ := c.d.def_ i hi
  unfold He.DefD.dvs He.DefD.kws at F
  rw [hdv, hkw] at F
  have e := He.glo_ok X G (c.d.fact j hj)
  refine ⟨He.fAd K d.at_, fd, ?_, F.kp, fn_io hn hM F S (hb _), F.bindsN hbind⟩
  rw [e, ha]; rfl
/-- the law's def -/
theorem law_fact {d : He.DefD} {h : Heap} {f : Addr} {x : Str} {b : DenS} (i j : Nat) {M : Nat} {p : Str} (X : K.In h) (G : h.Ns mainGlobals mg) (hfa : mg x = some (.ref f)) (c : SaysM fa fn cs K)
    (hi : fn[i]? = some d) (hj : fa[j]? = some (.glo x)) (ha : d.at_ = (x, none)) (hdv : d.dfl = []) (hkw : d.kwd = []) (S : FnScope N [p] d.scope)
    (hbind : ∀ (kV doc pm : Value) (an : Option Addr) (cdv ct : Value) (us : List Value), us.length = 1 → bindArgs (PySem.W.fnOf d.name d.qual d.params d.body d.scope .none kV doc pm an cdv ct) ⟨us, []⟩ = pure ([p].zip us))
    (hM : M = N.length)
    (hb : ∀ (base : Heap), Hd fa fn cs K mg → ∀ (f : Addr) (cdv : Value) (A : Around) (outer : List Env) (s : Shared) (H : Hp) (E : XK), Room k (A.deeper (envOfC d.qual d.scope s.heap.objs.size f cdv)) → ∀ B : Bs, B.K = K →
      PSs (cxOf CX0 P w K mg base N d.qual d.scope f cdv A outer s H E).nox d.body (tS B b)) :
    ∃ fd : FuncData, (∀ (s : Shared) (v : Value), BindsTo s fd ⟨[v], []⟩ [(p, v)]) ∧ ∀ base : Heap, K.In base → base.Ns mainGlobals mg → FnOk P w K mg base CX0 (k + 1) f fd [p] (spD K (mkF 1 M b)) := by
  obtain ⟨fd, F⟩ := c.d.def_ i hi
  unfold He.DefD.dvs He.DefD.kws at F
  rw [hdv, hkw] at F
  have e := He.glo_ok X G (c.d.fact j hj)
  have e2 := hfa.symm.trans e
  have ef : f = He.fAd K d.at_ := by rw [ha]; cases e2; rfl
  subst ef
  have bb := FunD.bindsA (ps := [p]) F hbind
  exact ⟨fd, fun s v => bb s [v] rfl, fun base _ _ => fn_pure rfl hM F S (hb base ⟨h, X, G, c⟩ _)⟩
end
end DL
namespace DL
open PySem PySem.Spec PyProof.Rows L2
theorem ru64 {k : Nat} {A : Around} (r : Room k A) : A.units + 64 < cLine := by have := r.un; omega
theorem ru65 {k : Nat} {A : Around} (r : Room k A) : A.units + 65 < cLine := by have := r.un; omega
theorem ru1 {k : Nat} {A : Around} (r : Room k A) : A.units + 1 < cLine := by have := r.un; omega
theorem bt_len : bootBuiltins "len" = some (.builtin "len") := by decide +kernel
theorem bt_abs : bootBuiltins "abs" = some (.builtin "abs") := by decide +kernel
theorem bt_all : bootBuiltins "all" = some (.builtin "all") := by decide +kernel
theorem bt_any : bootBuiltins "any" = some (.builtin "any") := by decide +kernel
theorem bt_sum : bootBuiltins "sum" = some (.builtin "sum") := by decide +kernel
theorem bt_max : bootBuiltins "max" = some (.builtin "max") := by decide +kernel
theorem bt_min : bootBuiltins "min" = some (.builtin "min") := by decide +kernel
theorem bt_sorted : bootBuiltins "sorted" = some (.builtin "sorted") := by decide +kernel
theorem bt_int : bootBuiltins "int" = some (.type "int") := by decide +kernel
theorem bt_bool : bootBuiltins "bool" = some (.type "bool") := by decide +kernel
theorem bt_str : bootBuiltins "str" = some (.type "str") := by decide +kernel
theorem bt_tuple : bootBuiltins "tuple" = some (.type "tuple") := by decide +kernel
theorem bt_list : bootBuiltins "list" = some (.type "list") := by decide +kernel
theorem bt_dict : bootBuiltins "dict" = some (.type "dict") := by decide +kernel
theorem bt_set : bootBuiltins "set" = some (.type "set") := by decide +kernel
/-! {} -/
def dDct0 : Den := fun S Q => Q (.od []) S
theorem de_dct0 {X : Cx} {B : Bs} {pos : Pos} : PE X (.Dict [] [] pos) (tD B dDct0) := by
  refine PE_imp pe_dnewK ?_
  rintro σ H Q ⟨P, F, S, QQ, R, q, k⟩
  intro p hp
  obtain ⟨e3, R3, f3, _⟩ := R.alloc (o := .dK []) hp
  exact k _ _ q _ _ _ e3 R3 ⟨p, [], rfl, upd_same, f3, RpAll.nil⟩
end DL
namespace DL
open PySem PySem.Spec PyProof.Rows L2

/-! ### plain laws of data -/
theorem eq_int (i j : Int) : eqD (.int i) (.int j) = decide (i = j) := by
  unfold eqD pyOf PyData.eqv; by_cases h : i = j <;> simp [h]
theorem eq_bl (i j : Bool) : eqD (.bl i) (.bl j) = decide (i = j) := by
  unfold eqD pyOf PyData.eqv; cases i <;> cases j <;> rfl
theorem eq_str (x y : Str) : eqD (.str x) (.str y) = decide (x = y) := by
  unfold eqD pyOf PyData.eqv
  by_cases h : x = y
  · subst h; simp
  · simp [h]
theorem eq_non : eqD .non .non = true := rfl
def eqDs : List D → List D → Bool
  | [], [] => true
  | d :: ds, e :: es => eqD d e && eqDs ds es
  | _, _ => false
theorem eqv_all : ∀ ds es : List D, PyData.eqvAll (pyAll ds) (pyAll es) = eqDs ds es
  | [], [] => rfl
  | [], _ :: _ => rfl
  | _ :: _, [] => rfl
  | d :: ds, e :: es => by
    show (PyData.eqv (pyOf d) (pyOf e) && PyData.eqvAll (pyAll ds) (pyAll es)) = _
    rw [eqv_all ds es]; rfl
theorem eq_tup (ds es : List D) : eqD (.tup ds) (.tup es) = eqDs ds es := eqv_all ds es
theorem eq_lst (ds es : List D) : eqD (.lst ds) (.lst es) = eqDs ds es := eqv_all ds es
theorem eqDs_nil : eqDs [] [] = true := rfl
theorem eqDs_cons (d e : D) (ds es : List D) : eqDs (d :: ds) (e :: es) = (eqD d e && eqDs ds es) := rfl
theorem eqDs_nc (e : D) (es : List D) : eqDs [] (e :: es) = false := rfl
theorem eqDs_cn (e : D) (es : List D) : eqDs (e :: es) [] = false := rfl
/-- nested at most n deep, no dict, the texts plain -/
def okAt : Nat → D → Bool
  | _, .non => true
  | _, .bl _ => true
  | _, .int _ => true
  | _, .str x => PyData.strOk x
  | n + 1, .tup ds => ds.all (okAt n)
  | n + 1, .lst ds => ds.all (okAt n)
  | _, _ => false
theorem okAt_mono {m : Nat} : ∀ {n : Nat} {d : D}, okAt n d = true → n ≤ m → okAt m d = true
  | n, .non, _, _ => by cases m <;> rfl
  | n, .bl _, _, _ => by cases m <;> rfl
  | n, .int _, _, _ => by cases m <;> rfl
  | n, .str x, h, _ => by cases n <;> cases m <;> exact h
  | n + 1, .tup ds, h, hm => by
    obtain ⟨m, rfl⟩ : ∃ k, m = k + 1 := ⟨m - 1, by omega⟩
    have h' : ds.all (okAt n) = true := h
    show ds.all (okAt m) = true
    rw [List.all_eq_true] at h' ⊢
    exact fun d hd => okAt_mono (h' d hd) (by omega)
  | n + 1, .lst ds, h, hm => by
    obtain ⟨m, rfl⟩ : ∃ k, m = k + 1 := ⟨m - 1, by omega⟩
    have h' : ds.all (okAt n) = true := h
    show ds.all (okAt m) = true
    rw [List.all_eq_true] at h' ⊢
    exact fun d hd => okAt_mono (h' d hd) (by omega)
  | 0, .tup _, h, _ => by cases h
  | 0, .lst _, h, _ => by cases h
  | 0, .dct _ _, h, _ => by cases h
  | _ + 1, .dct _ _, h, _ => by cases h
  | 0, .scr _, h, _ => by cases h
  | _ + 1, .scr _, h, _ => by cases h
theorem okAll_of {n : Nat} : ∀ {ds : List D}, (∀ d ∈ ds, noDct d = true ∧ (pyOf d).canLay0 = true ∧ (pyOf d).depth ≤ n) → noDctAll ds = true ∧ PyData.canLayAll0 (pyAll ds) = true ∧ PyData.depthAll (pyAll ds) ≤ n
  | [], _ => ⟨rfl, rfl, Nat.zero_le _⟩
  | d :: ds, h => by
    obtain ⟨h1, h2, h3⟩ := h d (by simp)
    obtain ⟨g1, g2, g3⟩ := okAll_of (ds := ds) fun e he => h e (by simp [he])
    refine ⟨by simp [noDctAll, h1, g1], by simp [pyAll, PyData.canLayAll0, h2, g2], ?_⟩
    show max (pyOf d).depth (PyData.depthAll (pyAll ds)) ≤ n
    omega
theorem okAt_of : ∀ {n : Nat} {d : D}, okAt n d = true → noDct d = true ∧ (pyOf d).canLay0 = true ∧ (pyOf d).depth ≤ n
  | n, .non, _ => ⟨rfl, rfl, Nat.zero_le _⟩
  | n, .bl _, _ => ⟨rfl, rfl, Nat.zero_le _⟩
  | n, .int _, _ => ⟨rfl, rfl, Nat.zero_le _⟩
  | n, .str x, h => ⟨rfl, by cases n <;> exact h, Nat.zero_le _⟩
  | n + 1, .tup ds, h => by
    have h' : ds.all (okAt n) = true := h
    rw [List.all_eq_true] at h'
    obtain ⟨g1, g2, g3⟩ := okAll_of fun d hd => okAt_of (h' d hd)
    exact ⟨g1, g2, Nat.succ_le_succ g3⟩
  | n + 1, .lst ds, h => by
    have h' : ds.all (okAt n) = true := h
    rw [List.all_eq_true] at h'
    obtain ⟨g1, g2, g3⟩ := okAll_of fun d hd => okAt_of (h' d hd)
    exact ⟨g1, g2, Nat.succ_le_succ g3⟩
  | 0, .tup _, h => by cases h
  | 0, .lst _, h => by cases h
  | 0, .dct _ _, h => by cases h
  | _ + 1, .dct _ _, h => by cases h
  | 0, .scr _, h => by cases h
  | _ + 1, .scr _, h => by cases h
theorem okE_by {d : D} (n : Nat) (h : okAt n d = true) (hn : n ≤ 64 := by decide) : okE d = true := by
  obtain ⟨h1, h2, h3⟩ := okAt_of h
  unfold okE SeqAt.shaped
  rw [h1, h2]
  simp; omega
theorem okAt_int (n : Nat) (i : Int) : okAt n (.int i) = true := by cases n <;> rfl
theorem okAt_bl (n : Nat) (i : Bool) : okAt n (.bl i) = true := by cases n <;> rfl
theorem okAt_non (n : Nat) : okAt n .non = true := by cases n <;> rfl
theorem okE_int (i : Int) : okE (.int i) = true := rfl
theorem okE_bl (i : Bool) : okE (.bl i) = true := rfl
theorem okE_non : okE .non = true := rfl
theorem okE_str (x : Str) : okE (.str x) = PyData.strOk x := by
  unfold okE SeqAt.shaped
  show (true && (PyData.strOk x && decide (0 ≤ 64))) = _
  simp

theorem atI_n {xs : List D} (n : Nat) : atI xs (n : Int) = xs[n]? := by
  unfold atI ixN
  rw [if_pos (by omega)]
  by_cases h : n < xs.length
  · rw [if_pos (by omega)]; simp
  · rw [if_neg (by omega)]; simp; omega
theorem atI_0 {x : D} {xs : List D} : atI (x :: xs) 0 = some x := atI_n 0
theorem atI_s {x : D} {xs : List D} (n : Nat) : atI (x :: xs) ((n + 1 : Nat) : Int) = atI xs (n : Int) := by
  rw [atI_n, atI_n]; rfl
theorem atI_1 {x : D} {xs : List D} : atI (x :: xs) 1 = atI xs 0 := atI_s 0
theorem atI_2 {x : D} {xs : List D} : atI (x :: xs) 2 = atI xs 1 := atI_s 1
theorem atI_3 {x : D} {xs : List D} : atI (x :: xs) 3 = atI xs 2 := atI_s 2
theorem atI_4 {x : D} {xs : List D} : atI (x :: xs) 4 = atI xs 3 := atI_s 3
theorem atI_5 {x : D} {xs : List D} : atI (x :: xs) 5 = atI xs 4 := atI_s 4
theorem atI_nil (i : Int) : atI ([] : List D) i = none := by
  unfold atI ixN
  by_cases h : 0 ≤ i
  · rw [if_pos h, if_neg (by simp only [List.length_nil]; omega)]; rfl
  · rw [if_neg h, if_neg (by simp only [List.length_nil]; omega)]; rfl
theorem atI_m1 {xs : List D} : atI xs (-1) = xs[xs.length - 1]? := by
  unfold atI ixN
  rw [if_neg (by decide)]
  by_cases h : -(xs.length : Int) ≤ -1
  · rw [if_pos h]; show xs[((-1 : Int) + xs.length).toNat]? = _
    congr 1; omega
  · rw [if_neg h]
    have : xs.length = 0 := by omega
    rw [List.getElem?_eq_none (by omega)]; rfl

theorem le_sz {n : Nat} (h : n < 1000) : (n ≤ sizeLine) = True := eq_true (Nat.le_trans (Nat.le_of_lt h) (by decide))
theorem lt_sz {n : Nat} (h : n < 1000) : (n < sizeLine) = True := eq_true (Nat.lt_of_lt_of_le h (by decide))

theorem oIx_tup {ds : List D} {i : Int} {Q : Rv → Prop} : oIx (.tup ds) (.int i) Q = (match atI ds i with | some x => Q (.pu x) | none => False) := rfl
theorem oIx_lst {ds : List D} {i : Int} {Q : Rv → Prop} : oIx (.lst ds) (.int i) Q = (match atI ds i with | some x => Q (.pu x) | none => False) := rfl
theorem oIx_dct {ks : List Key} {ds : List D} {e : D} {Q : Rv → Prop} : oIx (.dct ks ds) e Q = (match keyD e with | some k => (match dget ks ds k with | some x => Q (.pu x) | none => False) | none => False) := rfl

/-! ### numbers' sizes -/
theorem natAbs_pow {i : Int} {n : Nat} (h : i.natAbs < 2 ^ n) : i.natAbs.log2 < n ∨ i.natAbs = 0 := by
  by_cases h0 : i.natAbs = 0
  · exact .inr h0
  · exact .inl ((Nat.log2_lt h0).mpr h)
theorem log2_le {i : Int} {n : Nat} (h : i.natAbs < 2 ^ n) : i.natAbs.log2 ≤ n := by
  rcases natAbs_pow h with h | h
  · omega
  · rw [h]; exact Nat.zero_le _
theorem mok {i j : Int} {m n : Nat} (h1 : i.natAbs < 2 ^ m) (h2 : j.natAbs < 2 ^ n) (h : m + n < 134000000 := by omega) : mulOk i j := by
  have := log2_le h1; have := log2_le h2
  unfold mulOk; omega
theorem dok {j : Int} {n : Nat} (h0 : j ≠ 0) (h : j.natAbs < 2 ^ n) (hn : n ≤ 9000 := by omega) : divOk j := by
  refine ⟨h0, ?_⟩
  rcases natAbs_pow h with h | h <;> omega
end DL
namespace DL
open PySem PySem.Spec PyProof.Rows L2

/-! ### the operations, case by case -/
theorem lAdd_ii {i j : Int} {Q : Rv → Prop} : oAdd (.int i) (.int j) Q = Q (.pu (.int (i + j))) := rfl
theorem lAdd_bb {b c : Bool} {Q : Rv → Prop} : oAdd (.bl b) (.bl c) Q = Q (.pu (.int (b2i b + b2i c))) := rfl
theorem lAdd_ib {i : Int} {c : Bool} {Q : Rv → Prop} : oAdd (.int i) (.bl c) Q = Q (.pu (.int (i + b2i c))) := rfl
theorem lAdd_bi {i : Int} {b : Bool} {Q : Rv → Prop} : oAdd (.bl b) (.int i) Q = Q (.pu (.int (b2i b + i))) := rfl
theorem lAdd_tt {a b : List D} {Q : Rv → Prop} : oAdd (.tup a) (.tup b) Q = (a.length + b.length ≤ sizeLine ∧ Q (.pu (.tup (a ++ b)))) := rfl
theorem lAdd_ll {a b : List D} {Q : Rv → Prop} : oAdd (.lst a) (.lst b) Q = (a.length + b.length ≤ sizeLine ∧ Q (.ol (a ++ b))) := rfl
theorem lAdd_ss {a b : Str} {Q : Rv → Prop} : oAdd (.str a) (.str b) Q = (a.length + b.length ≤ sizeLine ∧ Q (.pu (.str (a ++ b)))) := rfl
theorem lSub_ii {i j : Int} {Q : Rv → Prop} : oSub (.int i) (.int j) Q = Q (.pu (.int (i - j))) := rfl
theorem lSub_bb {b c : Bool} {Q : Rv → Prop} : oSub (.bl b) (.bl c) Q = Q (.pu (.int (b2i b - b2i c))) := rfl
theorem lSub_ib {i : Int} {c : Bool} {Q : Rv → Prop} : oSub (.int i) (.bl c) Q = Q (.pu (.int (i - b2i c))) := rfl
theorem lSub_bi {i : Int} {b : Bool} {Q : Rv → Prop} : oSub (.bl b) (.int i) Q = Q (.pu (.int (b2i b - i))) := rfl
theorem lMul_ii {i j : Int} {Q : Rv → Prop} : oMul (.int i) (.int j) Q = (mulOk i j ∧ Q (.pu (.int (i * j)))) := rfl
theorem lMul_li {a : List D} {k : Int} {Q : Rv → Prop} : oMul (.lst a) (.int k) Q = (k < 2 ^ 24 ∧ -(2 ^ 24) ≤ k ∧ a.length * k.toNat ≤ sizeLine ∧ Q (.ol (List.replicate k.toNat a).flatten)) := rfl
theorem lDiv_ii {i j : Int} {Q : Rv → Prop} : oDiv (.int i) (.int j) Q = (divOk j ∧ Q (.pu (.int (i.fdiv j)))) := rfl
theorem lMod_ii {i j : Int} {Q : Rv → Prop} : oMod (.int i) (.int j) Q = (0 < j ∧ Q (.pu (.int (i % j)))) := rfl
theorem lPow_ii {i j : Int} {Q : Rv → Prop} : oPow (.int i) (.int j) Q = (CPow i j ∧ Q (.pu (.int (i ^ j.toNat)))) := rfl
theorem lOrd_ii {p : Int → Int → Bool} {i j : Int} {Q : Rv → Prop} : oOrd p (.int i) (.int j) Q = Q (.pu (.bl (p i j))) := rfl
theorem lIs_bb {b c : Bool} {Q : Rv → Prop} : oIs (.bl b) (.bl c) Q = Q (.pu (.bl (decide (b = c)))) := rfl
theorem lIs_nn  {Q : Rv → Prop} : oIs .non .non Q = Q (.pu (.bl true)) := rfl
theorem lIsN_bb {b c : Bool} {Q : Rv → Prop} : oIsNot (.bl b) (.bl c) Q = Q (.pu (.bl (!decide (b = c)))) := rfl
theorem lIsN_nn  {Q : Rv → Prop} : oIsNot .non .non Q = Q (.pu (.bl false)) := rfl
theorem lIs_in {i : Int} {Q : Rv → Prop} : oIs (.int i) .non Q = Q (.pu (.bl false)) := rfl
theorem lIsN_in {i : Int} {Q : Rv → Prop} : oIsNot (.int i) .non Q = Q (.pu (.bl true)) := rfl
theorem lIs_sn {x : Str} {Q : Rv → Prop} : oIs (.str x) .non Q = Q (.pu (.bl false)) := rfl
theorem lIsN_sn {x : Str} {Q : Rv → Prop} : oIsNot (.str x) .non Q = Q (.pu (.bl true)) := rfl
theorem lIs_tn {a : List D} {Q : Rv → Prop} : oIs (.tup a) .non Q = Q (.pu (.bl false)) := rfl
theorem lIsN_tn {a : List D} {Q : Rv → Prop} : oIsNot (.tup a) .non Q = Q (.pu (.bl true)) := rfl
theorem lIs_ln {a : List D} {Q : Rv → Prop} : oIs (.lst a) .non Q = Q (.pu (.bl false)) := rfl
theorem lIsN_ln {a : List D} {Q : Rv → Prop} : oIsNot (.lst a) .non Q = Q (.pu (.bl true)) := rfl
theorem lIs_bn {b : Bool} {Q : Rv → Prop} : oIs (.bl b) .non Q = Q (.pu (.bl false)) := rfl
theorem lIsN_bn {b : Bool} {Q : Rv → Prop} : oIsNot (.bl b) .non Q = Q (.pu (.bl true)) := rfl
theorem lIs_dn {k : List Key} {a : List D} {Q : Rv → Prop} : oIs (.dct k a) .non Q = Q (.pu (.bl false)) := rfl
theorem lIsN_dn {k : List Key} {a : List D} {Q : Rv → Prop} : oIsNot (.dct k a) .non Q = Q (.pu (.bl true)) := rfl
theorem lIx_tup0 {a0 : D} {r : List D} {Q : Rv → Prop} : oIx (.tup (a0 :: r)) (.int 0) Q = Q (.pu a0) := by
  show (match atI (a0 :: r) ((0 : Nat) : Int) with | some x => Q (.pu x) | none => False) = _
  rw [atI_n]; rfl
theorem lIx_tup1 {a0 a1 : D} {r : List D} {Q : Rv → Prop} : oIx (.tup (a0 :: a1 :: r)) (.int 1) Q = Q (.pu a1) := by
  show (match atI (a0 :: a1 :: r) ((1 : Nat) : Int) with | some x => Q (.pu x) | none => False) = _
  rw [atI_n]; rfl
theorem lIx_tup2 {a0 a1 a2 : D} {r : List D} {Q : Rv → Prop} : oIx (.tup (a0 :: a1 :: a2 :: r)) (.int 2) Q = Q (.pu a2) := by
  show (match atI (a0 :: a1 :: a2 :: r) ((2 : Nat) : Int) with | some x => Q (.pu x) | none => False) = _
  rw [atI_n]; rfl
theorem lIx_tup3 {a0 a1 a2 a3 : D} {r : List D} {Q : Rv → Prop} : oIx (.tup (a0 :: a1 :: a2 :: a3 :: r)) (.int 3) Q = Q (.pu a3) := by
  show (match atI (a0 :: a1 :: a2 :: a3 :: r) ((3 : Nat) : Int) with | some x => Q (.pu x) | none => False) = _
  rw [atI_n]; rfl
theorem lIx_tup4 {a0 a1 a2 a3 a4 : D} {r : List D} {Q : Rv → Prop} : oIx (.tup (a0 :: a1 :: a2 :: a3 :: a4 :: r)) (.int 4) Q = Q (.pu a4) := by
  show (match atI (a0 :: a1 :: a2 :: a3 :: a4 :: r) ((4 : Nat) : Int) with | some x => Q (.pu x) | none => False) = _
  rw [atI_n]; rfl
theorem lIx_tup5 {a0 a1 a2 a3 a4 a5 : D} {r : List D} {Q : Rv → Prop} : oIx (.tup (a0 :: a1 :: a2 :: a3 :: a4 :: a5 :: r)) (.int 5) Q = Q (.pu a5) := by
  show (match atI (a0 :: a1 :: a2 :: a3 :: a4 :: a5 :: r) ((5 : Nat) : Int) with | some x => Q (.pu x) | none => False) = _
  rw [atI_n]; rfl
theorem lIx_tup6 {a0 a1 a2 a3 a4 a5 a6 : D} {r : List D} {Q : Rv → Prop} : oIx (.tup (a0 :: a1 :: a2 :: a3 :: a4 :: a5 :: a6 :: r)) (.int 6) Q = Q (.pu a6) := by
  show (match atI (a0 :: a1 :: a2 :: a3 :: a4 :: a5 :: a6 :: r) ((6 : Nat) : Int) with | some x => Q (.pu x) | none => False) = _
  rw [atI_n]; rfl
theorem lIx_tup7 {a0 a1 a2 a3 a4 a5 a6 a7 : D} {r : List D} {Q : Rv → Prop} : oIx (.tup (a0 :: a1 :: a2 :: a3 :: a4 :: a5 :: a6 :: a7 :: r)) (.int 7) Q = Q (.pu a7) := by
  show (match atI (a0 :: a1 :: a2 :: a3 :: a4 :: a5 :: a6 :: a7 :: r) ((7 : Nat) : Int) with | some x => Q (.pu x) | none => False) = _
  rw [atI_n]; rfl
theorem lIx_tup8 {a0 a1 a2 a3 a4 a5 a6 a7 a8 : D} {r : List D} {Q : Rv → Prop} : oIx (.tup (a0 :: a1 :: a2 :: a3 :: a4 :: a5 :: a6 :: a7 :: a8 :: r)) (.int 8) Q = Q (.pu a8) := by
  show (match atI (a0 :: a1 :: a2 :: a3 :: a4 :: a5 :: a6 :: a7 :: a8 :: r) ((8 : Nat) : Int) with | some x => Q (.pu x) | none => False) = _
  rw [atI_n]; rfl
theorem lIx_tup9 {a0 a1 a2 a3 a4 a5 a6 a7 a8 a9 : D} {r : List D} {Q : Rv → Prop} : oIx (.tup (a0 :: a1 :: a2 :: a3 :: a4 :: a5 :: a6 :: a7 :: a8 :: a9 :: r)) (.int 9) Q = Q (.pu a9) := by
  show (match atI (a0 :: a1 :: a2 :: a3 :: a4 :: a5 :: a6 :: a7 :: a8 :: a9 :: r) ((9 : Nat) : Int) with | some x => Q (.pu x) | none => False) = _
  rw [atI_n]; rfl
theorem lIx_lst0 {a0 : D} {r : List D} {Q : Rv → Prop} : oIx (.lst (a0 :: r)) (.int 0) Q = Q (.pu a0) := by
  show (match atI (a0 :: r) ((0 : Nat) : Int) with | some x => Q (.pu x) | none => False) = _
  rw [atI_n]; rfl
theorem lIx_lst1 {a0 a1 : D} {r : List D} {Q : Rv → Prop} : oIx (.lst (a0 :: a1 :: r)) (.int 1) Q = Q (.pu a1) := by
  show (match atI (a0 :: a1 :: r) ((1 : Nat) : Int) with | some x => Q (.pu x) | none => False) = _
  rw [atI_n]; rfl
theorem lIx_lst2 {a0 a1 a2 : D} {r : List D} {Q : Rv → Prop} : oIx (.lst (a0 :: a1 :: a2 :: r)) (.int 2) Q = Q (.pu a2) := by
  show (match atI (a0 :: a1 :: a2 :: r) ((2 : Nat) : Int) with | some x => Q (.pu x) | none => False) = _
  rw [atI_n]; rfl
theorem lIx_lst3 {a0 a1 a2 a3 : D} {r : List D} {Q : Rv → Prop} : oIx (.lst (a0 :: a1 :: a2 :: a3 :: r)) (.int 3) Q = Q (.pu a3) := by
  show (match atI (a0 :: a1 :: a2 :: a3 :: r) ((3 : Nat) : Int) with | some x => Q (.pu x) | none => False) = _
  rw [atI_n]; rfl
theorem lIx_lst4 {a0 a1 a2 a3 a4 : D} {r : List D} {Q : Rv → Prop} : oIx (.lst (a0 :: a1 :: a2 :: a3 :: a4 :: r)) (.int 4) Q = Q (.pu a4) := by
  show (match atI (a0 :: a1 :: a2 :: a3 :: a4 :: r) ((4 : Nat) : Int) with | some x => Q (.pu x) | none => False) = _
  rw [atI_n]; rfl
theorem lIx_lst5 {a0 a1 a2 a3 a4 a5 : D} {r : List D} {Q : Rv → Prop} : oIx (.lst (a0 :: a1 :: a2 :: a3 :: a4 :: a5 :: r)) (.int 5) Q = Q (.pu a5) := by
  show (match atI (a0 :: a1 :: a2 :: a3 :: a4 :: a5 :: r) ((5 : Nat) : Int) with | some x => Q (.pu x) | none => False) = _
  rw [atI_n]; rfl
theorem lIx_lst6 {a0 a1 a2 a3 a4 a5 a6 : D} {r : List D} {Q : Rv → Prop} : oIx (.lst (a0 :: a1 :: a2 :: a3 :: a4 :: a5 :: a6 :: r)) (.int 6) Q = Q (.pu a6) := by
  show (match atI (a0 :: a1 :: a2 :: a3 :: a4 :: a5 :: a6 :: r) ((6 : Nat) : Int) with | some x => Q (.pu x) | none => False) = _
  rw [atI_n]; rfl
theorem lIx_lst7 {a0 a1 a2 a3 a4 a5 a6 a7 : D} {r : List D} {Q : Rv → Prop} : oIx (.lst (a0 :: a1 :: a2 :: a3 :: a4 :: a5 :: a6 :: a7 :: r)) (.int 7) Q = Q (.pu a7) := by
  show (match atI (a0 :: a1 :: a2 :: a3 :: a4 :: a5 :: a6 :: a7 :: r) ((7 : Nat) : Int) with | some x => Q (.pu x) | none => False) = _
  rw [atI_n]; rfl
theorem lIx_lst8 {a0 a1 a2 a3 a4 a5 a6 a7 a8 : D} {r : List D} {Q : Rv → Prop} : oIx (.lst (a0 :: a1 :: a2 :: a3 :: a4 :: a5 :: a6 :: a7 :: a8 :: r)) (.int 8) Q = Q (.pu a8) := by
  show (match atI (a0 :: a1 :: a2 :: a3 :: a4 :: a5 :: a6 :: a7 :: a8 :: r) ((8 : Nat) : Int) with | some x => Q (.pu x) | none => False) = _
  rw [atI_n]; rfl
theorem lIx_lst9 {a0 a1 a2 a3 a4 a5 a6 a7 a8 a9 : D} {r : List D} {Q : Rv → Prop} : oIx (.lst (a0 :: a1 :: a2 :: a3 :: a4 :: a5 :: a6 :: a7 :: a8 :: a9 :: r)) (.int 9) Q = Q (.pu a9) := by
  show (match atI (a0 :: a1 :: a2 :: a3 :: a4 :: a5 :: a6 :: a7 :: a8 :: a9 :: r) ((9 : Nat) : Int) with | some x => Q (.pu x) | none => False) = _
  rw [atI_n]; rfl
theorem lLen_tup {a : List D} {Q : Rv → Prop} : oLen [(.tup a)] Q = Q (.pu (.int a.length)) := rfl
theorem lTuple_tup {a : List D} {Q : Rv → Prop} : oTuple [(.tup a)] Q = Q (.pu (.tup a)) := rfl
theorem lList_tup {a : List D} {Q : Rv → Prop} : oList [(.tup a)] Q = Q (.ol a) := rfl
theorem lLen_lst {a : List D} {Q : Rv → Prop} : oLen [(.lst a)] Q = Q (.pu (.int a.length)) := rfl
theorem lTuple_lst {a : List D} {Q : Rv → Prop} : oTuple [(.lst a)] Q = Q (.pu (.tup a)) := rfl
theorem lList_lst {a : List D} {Q : Rv → Prop} : oList [(.lst a)] Q = Q (.ol a) := rfl
theorem lLen_scr {a : List D} {Q : Rv → Prop} : oLen [(.scr a)] Q = Q (.pu (.int a.length)) := rfl
theorem lTuple_scr {a : List D} {Q : Rv → Prop} : oTuple [(.scr a)] Q = Q (.pu (.tup a)) := rfl
theorem lList_scr {a : List D} {Q : Rv → Prop} : oList [(.scr a)] Q = Q (.ol a) := rfl
theorem lLen_dct {k : List Key} {a : List D} {Q : Rv → Prop} : oLen [.dct k a] Q = Q (.pu (.int k.length)) := rfl
theorem lLen_str {z : Str} {Q : Rv → Prop} : oLen [.str z] Q = (z.length ≤ sizeLine ∧ Q (.pu (.int z.length))) := rfl
theorem lAbs_i {i : Int} {Q : Rv → Prop} : oAbs [.int i] Q = Q (.pu (.int i.natAbs)) := rfl
theorem lInt_i {i : Int} {Q : Rv → Prop} : oInt [.int i] Q = Q (.pu (.int i)) := rfl
theorem lInt_b {b : Bool} {Q : Rv → Prop} : oInt [.bl b] Q = Q (.pu (.int (b2i b))) := rfl
theorem lAll_l {xs : List D} {Q : Rv → Prop} : oAll [.lst xs] Q = (match blsD xs with | some bs => Q (.pu (.bl (bs.all id))) | none => False) := rfl
theorem lAny_l {xs : List D} {Q : Rv → Prop} : oAny [.lst xs] Q = (match blsD xs with | some bs => Q (.pu (.bl (bs.any id))) | none => False) := rfl
theorem lSum_l {xs : List D} {Q : Rv → Prop} : oSum [.lst xs] Q = (match intsD xs with | some ns => Q (.pu (.int ns.sum)) | none => False) := rfl
theorem lMax_ii {i j : Int} {Q : Rv → Prop} : oMax [.int i, .int j] Q = Q (.pu (.int (if j > i then j else i))) := rfl
theorem lMin_ii {i j : Int} {Q : Rv → Prop} : oMin [.int i, .int j] Q = Q (.pu (.int (if j < i then j else i))) := rfl
theorem lMax_l {xs : List D} {Q : Rv → Prop} : oMax [.lst xs] Q = (match intsD xs with | some ns => 0 < ns.length ∧ ∀ m, m ∈ ns → (∀ y ∈ ns, y ≤ m) → Q (.pu (.int m)) | none => False) := rfl
theorem lMin_l {xs : List D} {Q : Rv → Prop} : oMin [.lst xs] Q = (match intsD xs with | some ns => 0 < ns.length ∧ ∀ m, m ∈ ns → (∀ y ∈ ns, m ≤ y) → Q (.pu (.int m)) | none => False) := rfl
theorem lSorted_l {xs : List D} {Q : Rv → Prop} : oSorted [.lst xs] Q = (match intsD xs with | some ns => ∀ ns' : List Int, ns'.Perm ns → ns'.Pairwise (· ≤ ·) → Q (.ol (ns'.map D.int)) | none => False) := rfl
theorem lName_pu {i : Nat} {d : D} {S : Sg} {Q : Sg → Prop} : dgName i (.pu d) S Q = Q (S.set i (.pu d)) := rfl
theorem lName_ol {i : Nat} {ds : List D} {S : Sg} {Q : Sg → Prop} : dgName i (.ol ds) S Q = Q (S.set i (.ol ds)) := rfl
theorem lName_od {i : Nat} {ds : List (Key × D)} {S : Sg} {Q : Sg → Prop} : dgName i (.od ds) S Q = Q (S.set i (.od ds)) := rfl
theorem lName_al {i j : Nat} {S : Sg} {Q : Sg → Prop} : dgName i (.al j) S Q = (if j = i then Q S else match frc S (.al j) with | some (d, S') => Q (S'.set i (.pu d)) | none => False) := rfl
theorem lTup_pu {n : Nat} {gs : DenGs} {ds : List D} {S : Sg} {Q : Sg → Prop} : dgTup n gs (.pu (.tup ds)) S Q = (ds.length = n ∧ gs ds S Q) := rfl
theorem lTup_pl {n : Nat} {gs : DenGs} {ds : List D} {S : Sg} {Q : Sg → Prop} : dgTup n gs (.pu (.lst ds)) S Q = (ds.length = n ∧ gs ds S Q) := rfl
theorem lTup_ol {n : Nat} {gs : DenGs} {ds : List D} {S : Sg} {Q : Sg → Prop} : dgTup n gs (.ol ds) S Q = (ds.length = n ∧ gs ds S Q) := rfl
def slF : Option D → Option Int → Option Int → (Rv → Prop) → Prop
  | some (.tup ds), lo, hi, Q => Q (.pu (.tup (cutL ds lo hi)))
  | some (.lst ds), lo, hi, Q => Q (.ol (cutL ds lo hi))
  | some (.scr ds), lo, hi, Q => Q (.ol (cutL ds lo hi))
  | _, _, _, _ => False
theorem lSl {da : Den} {dl dh : DenO} {S : Sg} {Q : Rv → Sg → Prop} : dSl da dl dh S Q = (da S fun x S1 => dl S1 fun lo S2 => dh S2 fun hi S3 => slF (rd S3 (hold x)) lo hi fun r => Q r S3) := by
  unfold dSl
  congr 1; funext x S1; congr 1; funext lo S2; congr 1; funext hi S3
  cases rd S3 (hold x) with
  | none => rfl
  | some d => cases d <;> rfl
theorem lSlF_tup {ds : List D} {lo hi : Option Int} {Q : Rv → Prop} : slF (some (.tup ds)) lo hi Q = Q (.pu (.tup (cutL ds lo hi))) := rfl
theorem lSlF_lst {ds : List D} {lo hi : Option Int} {Q : Rv → Prop} : slF (some (.lst ds)) lo hi Q = Q (.ol (cutL ds lo hi)) := rfl
theorem lSlF_scr {ds : List D} {lo hi : Option Int} {Q : Rv → Prop} : slF (some (.scr ds)) lo hi Q = Q (.ol (cutL ds lo hi)) := rfl

theorem ix_at {ds : List D} {i : Int} {d : D} {Q : Rv → Prop} (h : atI ds i = some d) : oIx (.lst ds) (.int i) Q = Q (.pu d) := by rw [oIx_lst, h]
theorem ixt_at {ds : List D} {i : Int} {d : D} {Q : Rv → Prop} (h : atI ds i = some d) : oIx (.tup ds) (.int i) Q = Q (.pu d) := by rw [oIx_tup, h]

/-! ### defs, their ends left open -/
theorem io_by {n N : Nat} {b : DenS} {hs ds : List D} {QQ : Rv → List D → Prop} (hn : ds.length + 1 = n)
    (h : ∀ E : DEnds, (∀ hs' rest, QQ (.pu .non) hs' → E.nx (.io 0 hs' :: rest)) → (∀ rv hs' rest, QQ rv hs' → E.rt rv (.io 0 hs' :: rest)) → b E (.io 0 hs :: (ds.map Sl.pu ++ List.replicate (N - n) .no))) : mkIO n N b hs ds QQ :=
  ⟨hn, h _ (fun hs' rest q => ⟨hs', rfl, q⟩) (fun rv hs' rest q => ⟨hs', rfl, q⟩)⟩
theorem pure_by {n N : Nat} {b : DenS} {ds : List D} {Q : Rv → Prop} (hn : ds.length = n)
    (h : ∀ E : DEnds, (∀ S, Q (.pu .non) → E.nx S) → (∀ rv S, Q rv → E.rt rv S) → b E (ds.map Sl.pu ++ List.replicate (N - n) .no)) : mkF n N b ds Q :=
  ⟨hn, h _ (fun _ q => q) (fun _ _ q => q)⟩

/-! ### loops, by an invariant -/
theorem while_by {c : DenB} {b : DenS} {D : DEnds} {S : Sg} (W : Nat → Sg → Prop) (m : Nat) (h0 : W m S)
    (turn : ∀ m S, W m S → c S fun t S1 => if t = true then b { D with nx := fun S2 => ∃ m', m' < m ∧ W m' S2, ct := fun S2 => ∃ m', m' < m ∧ W m' S2, bk := D.nx } S1 else D.nx S1) : dWhile c b D S :=
  ⟨W, ⟨m, h0⟩, turn⟩
/-- a for by an invariant of the items that remain -/
theorem for_by {g : DenG} {b : DenS} {E : DEnds} (I : List D → Sg → Prop) (fin : ∀ S, I [] S → E.nx S)
    (step : ∀ x xs S, I (x :: xs) S → (∀ S, I xs S → dFor.go g b xs E S) → g (.pu x) S fun S1 => b { E with nx := fun S2 => dFor.go g b xs E S2, ct := fun S2 => dFor.go g b xs E S2, bk := E.nx } S1) :
    ∀ items S, I items S → dFor.go g b items E S
  | [], S, h => fin S h
  | x :: xs, S, h => step x xs S h fun S' h' => for_by I fin step xs S' h'
/-- a list comprehension, by an invariant of what remains and what is there -/
theorem lc_by {g : DenG} {t : DenTs} {e : Den} {vs : List Nat} {Q : List D → Sg → Prop} (I : List D → List D → Sg → Prop) (fin : ∀ acc S, I [] acc S → Q acc S)
    (step : ∀ x xs acc S, I (x :: xs) acc S → (∀ acc S, I xs acc S → dLc.go g t e vs xs acc S Q) → g (.pu x) S fun S1 => t S1 fun b S2 => if b = true then e S2 fun r S3 => (match frc S3 r with
      | some (d, S4) => dLc.go g t e vs xs (acc ++ [d]) (wipeS S4 vs) Q
      | none => False)
      else dLc.go g t e vs xs acc (wipeS S2 vs) Q) :
    ∀ items acc S, I items acc S → dLc.go g t e vs items acc S Q
  | [], acc, S, h => fin acc S h
  | x :: xs, acc, S, h => step x xs acc S h fun acc' S' h' => lc_by I fin step xs acc' S' h'
/-- .. that only maps -/
theorem lc_map {g : DenG} {e : Den} {vs : List Nat} {Q : List D → Sg → Prop} {S : Sg} {items : List D} (f : D → D) (fin : Q (items.map f) S)
    (step : ∀ x ∈ items, ∀ R : D → Sg → Prop, R (f x) S → g (.pu x) S fun S1 => e S1 fun r S3 => (match frc S3 r with
      | some (d, S4) => R d (wipeS S4 vs)
      | none => False)) : dLc.go g dYes e vs items [] S Q := by
  have key : ∀ rest done, items = done ++ rest → dLc.go g dYes e vs rest (done.map f) S Q := by
    intro rest
    induction rest with
    | nil => intro done h; rw [List.append_nil] at h; subst h; exact fin
    | cons x xs ih =>
      intro done h
      have hx : x ∈ items := by rw [h]; simp
      have h1 := ih (done ++ [x]) (by rw [h]; simp)
      rw [List.map_append] at h1
      exact step x hx (fun d S' => dLc.go g dYes e vs xs (done.map f ++ [d]) S' Q) h1
  exact key items [] rfl

theorem cut_take {ds : List D} (k : Nat) : cutL ds none (some (k : Int)) = ds.take k := by
  unfold cutL; rw [HT.sIx_nat, HT.sIx_none]
  by_cases h : k ≤ ds.length
  · rw [Nat.min_eq_left h]; rfl
  · rw [Nat.min_eq_right (by omega), List.take_of_length_le (by simp), List.take_of_length_le (by omega)]; rfl
theorem cut_drop {ds : List D} (k : Nat) : cutL ds (some (k : Int)) none = ds.drop k := by
  unfold cutL; rw [HT.sIx_nat, HT.sIx_none]
  by_cases h : k ≤ ds.length
  · rw [Nat.min_eq_left h, List.take_of_length_le (by simp)]
  · rw [Nat.min_eq_right (by omega), List.drop_of_length_le (by omega), List.drop_of_length_le (by omega), List.take_nil]
theorem abs_bits {i : Int} {M : Nat} (h : Builtin.Int.intBits i ≤ M) : i.natAbs < 2 ^ M := by
  unfold Builtin.Int.intBits at h
  by_cases h0 : i = 0
  · subst h0; exact Nat.pow_pos (by decide)
  · have hb : (i == 0) = false := by simpa using h0
    rw [hb] at h
    have h' : i.natAbs.log2 + 1 ≤ M := h
    exact (Nat.log2_lt (by omega)).mp h'

/-! ### fractions -/
def fq (q : Rat) : D := .tup [.int q.num, .int q.den]
def Sz (n : Nat) (q : Rat) : Prop := q.num.natAbs < 2 ^ n ∧ q.den < 2 ^ n
theorem Sz.mono {m n : Nat} {q : Rat} (h : Sz m q) (hl : m ≤ n := by omega) : Sz n q :=
  ⟨Nat.lt_of_lt_of_le h.1 (Nat.pow_le_pow_right (by decide) hl), Nat.lt_of_lt_of_le h.2 (Nat.pow_le_pow_right (by decide) hl)⟩
theorem lt_mono {m n a : Nat} (h : a < 2 ^ m) (hl : m ≤ n) : a < 2 ^ n := Nat.lt_of_lt_of_le h (Nat.pow_le_pow_right (by decide) hl)
theorem mul_lt {m n a b : Nat} (h : a < 2 ^ m) (h' : b < 2 ^ n) : a * b < 2 ^ (m + n) := by
  rw [Nat.pow_add]
  exact Nat.mul_lt_mul'' h h'
theorem abs_mul_lt {m n : Nat} {a b : Int} (h : a.natAbs < 2 ^ m) (h' : b.natAbs < 2 ^ n) : (a * b).natAbs < 2 ^ (m + n) := by
  rw [Int.natAbs_mul]; exact mul_lt h h'
theorem abs_add_lt {m : Nat} {a b : Int} (h : a.natAbs < 2 ^ m) (h' : b.natAbs < 2 ^ m) : (a + b).natAbs < 2 ^ (m + 1) := by
  have := Int.natAbs_add_le a b
  rw [Nat.pow_succ]; omega
theorem abs_sub_lt {m : Nat} {a b : Int} (h : a.natAbs < 2 ^ m) (h' : b.natAbs < 2 ^ m) : (a - b).natAbs < 2 ^ (m + 1) := by
  have : (a - b).natAbs ≤ a.natAbs + b.natAbs := by omega
  rw [Nat.pow_succ]; omega
theorem divInt_num_le {a b : Int} (hb : b ≠ 0) : (Rat.divInt a b).num.natAbs ≤ a.natAbs := by
  rw [Rat.num_divInt]
  have h1 : (b.sign * a).natAbs = a.natAbs := by
    rw [Int.natAbs_mul, Int.natAbs_sign_of_ne_zero hb, Nat.one_mul]
  have h2 : (b.sign * a / (b.gcd a : Int)).natAbs ≤ (b.sign * a).natAbs := Int.natAbs_ediv_le_natAbs _ _
  omega
theorem divInt_den_le {a b : Int} (hb : b ≠ 0) : (Rat.divInt a b).den ≤ b.natAbs := by
  rw [Rat.den_divInt, if_neg hb]
  exact Nat.div_le_self _ _
theorem sz_divInt {n : Nat} {a b : Int} (hb : b ≠ 0) (h1 : a.natAbs < 2 ^ n) (h2 : b.natAbs < 2 ^ n) : Sz n (Rat.divInt a b) :=
  ⟨Nat.lt_of_le_of_lt (divInt_num_le hb) h1, Nat.lt_of_le_of_lt (divInt_den_le hb) h2⟩
theorem den_ne (q : Rat) : (q.den : Int) ≠ 0 := by have := q.den_nz; omega
theorem add_div (x y : Rat) : Rat.divInt (x.num * y.den + y.num * x.den) (x.den * y.den) = x + y := by
  rw [Rat.add_def', ← Rat.divInt_ofNat]; push_cast; rfl
theorem sub_div (x y : Rat) : Rat.divInt (x.num * y.den - y.num * x.den) (x.den * y.den) = x - y := by
  rw [Rat.sub_def', ← Rat.divInt_ofNat]; push_cast; rfl
theorem mul_div (x y : Rat) : Rat.divInt (x.num * y.num) (x.den * y.den) = x * y := by
  rw [Rat.mul_def', ← Rat.divInt_ofNat]; push_cast; rfl
theorem div_div (x y : Rat) (hy : y ≠ 0) : Rat.divInt (x.num * y.den) (x.den * y.num) = x / y := by
  rw [Rat.div_def, Rat.inv_def]
  have e : x * Rat.divInt y.den y.num = Rat.divInt x.num x.den * Rat.divInt y.den y.num := by rw [Rat.num_divInt_den]
  rw [e, Rat.divInt_mul_divInt]
theorem mden (x y : Rat) : ((x.den : Int) * y.den) ≠ 0 := Int.mul_ne_zero (den_ne x) (den_ne y)
theorem dn {n : Nat} {q : Rat} (h : Sz n q) : (q.den : Int).natAbs < 2 ^ n := by rw [Int.natAbs_natCast]; exact h.2
theorem sz_add {m n : Nat} {x y : Rat} (hx : Sz m x) (hy : Sz n y) : Sz (m + n + 1) (x + y) := by
  rw [← add_div]
  refine sz_divInt (mden x y) (abs_add_lt (abs_mul_lt hx.1 (dn hy)) ?_) ?_
  · rw [Nat.add_comm m n]; exact abs_mul_lt hy.1 (dn hx)
  · exact lt_mono (abs_mul_lt (dn hx) (dn hy)) (by omega)
theorem sz_sub {m n : Nat} {x y : Rat} (hx : Sz m x) (hy : Sz n y) : Sz (m + n + 1) (x - y) := by
  rw [← sub_div]
  refine sz_divInt (mden x y) (abs_sub_lt (abs_mul_lt hx.1 (dn hy)) ?_) ?_
  · rw [Nat.add_comm m n]; exact abs_mul_lt hy.1 (dn hx)
  · exact lt_mono (abs_mul_lt (dn hx) (dn hy)) (by omega)
theorem sz_mul {m n : Nat} {x y : Rat} (hx : Sz m x) (hy : Sz n y) : Sz (m + n) (x * y) := by
  rw [← mul_div]
  exact sz_divInt (mden x y) (abs_mul_lt hx.1 hy.1) (abs_mul_lt (dn hx) (dn hy))
theorem num_ne {x : Rat} (h : x ≠ 0) : x.num ≠ 0 := fun e => h (Rat.num_eq_zero.mp e)
theorem sz_div {m n : Nat} {x y : Rat} (hx : Sz m x) (hy : Sz n y) (h : y ≠ 0) : Sz (m + n) (x / y) := by
  rw [← div_div x y h]
  exact sz_divInt (Int.mul_ne_zero (den_ne x) (num_ne h)) (abs_mul_lt hx.1 (dn hy)) (abs_mul_lt (dn hx) hy.1)
theorem sz_neg {m : Nat} {x : Rat} (hx : Sz m x) : Sz m (-x) := ⟨by rw [Rat.neg_num, Int.natAbs_neg]; exact hx.1, hx.2⟩
theorem fq_inj {x y : Rat} : fq x = fq y ↔ x = y := by
  constructor
  · intro h
    have h1 : x.num = y.num ∧ (x.den : Int) = y.den := by unfold fq at h; simpa using h
    exact Rat.ext h1.1 (by omega)
  · intro h; rw [h]
theorem eq_fq (x y : Rat) : eqD (fq x) (fq y) = decide (x = y) := by
  unfold fq
  rw [eq_tup, eqDs_cons, eqDs_cons, eqDs_nil, eq_int, eq_int, Bool.and_true]
  by_cases h : x = y
  · subst h; simp
  · rw [decide_eq_false h]
    by_cases h1 : x.num = y.num
    · by_cases h2 : (x.den : Int) = y.den
      · exact absurd (Rat.ext h1 (by omega)) h
      · simp [h2]
    · simp [h1]
theorem okE_fq (x : Rat) : okE (fq x) = true := rfl
theorem ix_fq0 {x : Rat} {Q : Rv → Prop} : oIx (fq x) (.int 0) Q = Q (.pu (.int x.num)) := rfl
theorem ix_fq1 {x : Rat} {Q : Rv → Prop} : oIx (fq x) (.int 1) Q = Q (.pu (.int x.den)) := rfl
theorem okE_t2 (a b : Int) : okE (.tup [.int a, .int b]) = true := rfl
theorem okAt_fq (n : Nat) (x : Rat) : okAt (n + 1) (fq x) = true := by
  unfold fq; show (_ && (_ && true)) = true; rw [okAt_int, okAt_int]; rfl
/-- the lowest terms -/
theorem low_eq {t b : Int} (hb : b ≠ 0) : (0 < b → t.fdiv (Nat.gcd t.natAbs b.natAbs : Nat) = (Rat.divInt t b).num ∧ b.fdiv (Nat.gcd t.natAbs b.natAbs : Nat) = ((Rat.divInt t b).den : Int)) ∧
    (¬ 0 < b → t.fdiv (0 - (Nat.gcd t.natAbs b.natAbs : Nat)) = (Rat.divInt t b).num ∧ b.fdiv (0 - (Nat.gcd t.natAbs b.natAbs : Nat)) = ((Rat.divInt t b).den : Int)) := by
  have hg0 : 0 < Nat.gcd t.natAbs b.natAbs := Nat.gcd_pos_of_pos_right _ (by omega)
  have dt : ((Nat.gcd t.natAbs b.natAbs : Nat) : Int) ∣ t := Int.gcd_dvd_left ..
  have db : ((Nat.gcd t.natAbs b.natAbs : Nat) : Int) ∣ b := Int.gcd_dvd_right ..
  have en : (Rat.divInt t b).num = b.sign * t / (Nat.gcd t.natAbs b.natAbs : Nat) := by
    rw [Rat.num_divInt, show b.gcd t = Nat.gcd t.natAbs b.natAbs from Nat.gcd_comm ..]
  have ed : ((Rat.divInt t b).den : Int) = b.natAbs / (Nat.gcd t.natAbs b.natAbs : Nat) := by
    rw [Rat.den_divInt, if_neg hb, show b.gcd t = Nat.gcd t.natAbs b.natAbs from Nat.gcd_comm ..]; rfl
  generalize Nat.gcd t.natAbs b.natAbs = g at *
  have hgi : (g : Int) ≠ 0 := by omega
  constructor
  · intro hp
    constructor
    · rw [en, Int.sign_eq_one_of_pos hp, Int.one_mul, Int.fdiv_eq_ediv_of_nonneg _ (by omega)]
    · rw [ed, Int.fdiv_eq_ediv_of_nonneg _ (by omega)]
      congr 1; omega
  · intro hp
    have hn0 : (0 : Int) - g ≠ 0 := by omega
    have hb' : b < 0 := by omega
    obtain ⟨t', rfl⟩ := dt
    obtain ⟨b', rfl⟩ := db
    have f : ∀ z : Int, ((g : Int) * z).fdiv (0 - g) = -z := by
      intro z
      rw [show (g : Int) * z = (0 - g) * (-z) by grind]
      exact Int.mul_fdiv_cancel_left _ hn0
    constructor
    · rw [en, Int.sign_eq_neg_one_of_neg hb', f]
      rw [show (-1 : Int) * (g * t') = g * (-t') by grind, Int.mul_ediv_cancel_left _ hgi]
    · rw [ed, f]
      have : ((((g : Int) * b').natAbs : Nat) : Int) = g * (-b') := by
        rw [show ((((g : Int) * b').natAbs : Nat) : Int) = -(g * b') by omega]; grind
      rw [this, Int.mul_ediv_cancel_left _ hgi]
end DL
namespace DL
open PySem PySem.Spec PyProof.Rows L2

/-! ### dict(..) of pairs -/
/-- a tuple that is known to have no dict -/
def StT (K : PySem.W.Frag) (H : Hp) (a : Addr) (vs : List V) : Prop := (∃ u, H a = some u ∧ tupS u vs) ∨ WrT K a vs
theorem FzT.st {K : PySem.W.Frag} {F : Addr → Prop} {H : Hp} {a : Addr} {vs : List V} (h : FzT K F H a vs) : StT K H a vs := by
  rcases h with ⟨_, h⟩ | h
  · exact .inl h
  · exact .inr h
section
variable {X : Cx} {pins : List (Addr × Obj)} {σ : L2.St} {H : Hp} {s : Shared}
theorem plain_of {a : Addr} {vs : List V} (I : Inv X pins σ H s) (h : StT X.K H a vs) : ∃ its : List Value, Vals vs its ∧ vs.length ≤ sizeLine ∧ PySem.PlainSeq "tuple" s.heap a its.toArray := by
  rcases h with ⟨u, e, o, rfl, its, n, r, rfl⟩ | ⟨o, its, n, h1, h2, h3, h4, h5, h6⟩
  · obtain ⟨g, z, its', r', p⟩ := I.hok a _ e
    exact ⟨its, r, z, _, n, g, rfl, rfl, rfl⟩
  · refine ⟨its.toList, h5, ?_, o, n, I.kIn a o h1, h2, h6, by simpa using h3⟩
    rw [h5.length]; simpa using h4
/-- the items are pairs: key, value -/
def PairsV (K : PySem.W.Frag) (H : Hp) : List V → List (Key × V) → Prop
  | [], [] => True
  | v :: vs, kv :: kvs => (∃ b, v = .ref b ∧ SqT K H b [kV kv.1, kv.2]) ∧ PairsV K H vs kvs
  | _, _ => False
theorem pairsV_at (I : Inv X pins σ H s) : ∀ {vs : List V} {kvs : List (Key × V)}, PairsV X.K H vs kvs → ∃ (bs : List Addr) (prs : List (Value × Value)) (ks : List (Key × Value)), vs = bs.map V.ref ∧ KV kvs ks ∧ prs.length = bs.length ∧ ks.length = bs.length ∧
    ∀ (j : Nat) (k v : Value), prs[j]? = some (k, v) → (∃ b, bs[j]? = some b ∧ PySem.PairAt s.heap b k v) ∧ ∃ key, ks[j]? = some (key, v) ∧ (mixKind X.prog X.w).is key k = true
  | [], [], _ => ⟨[], [], [], rfl, .nil, rfl, rfl, fun j k v e => by simp at e⟩
  | [], _ :: _, h => h.elim
  | _ :: _, [], h => h.elim
  | v :: vs, kv :: kvs, ⟨⟨b, e, h⟩, t⟩ => by
    obtain ⟨bs, prs, ks, e1, e2, e3, e4, e5⟩ := pairsV_at I t
    obtain ⟨its, rv, ht, _⟩ := I.tuple h
    obtain ⟨u, y, ei, ru, ry⟩ := vals2 rv
    subst ei
    refine ⟨b :: bs, (u, y) :: prs, (kv.1, y) :: ks, by rw [e, e1]; rfl, .cons ⟨rfl, ry⟩ e2, by simp [e3], by simp [e4], fun j k v e => ?_⟩
    cases j with
    | zero =>
      have e' : (u, y) = (k, v) := Option.some.inj e
      cases e'
      exact ⟨⟨b, rfl, .inl ht⟩, kv.1, rfl, kV_is (P := X.prog) (w := X.w) ru⟩
    | succ j => exact e5 j k v (by simpa using e)
theorem call_dictS (hcalm : X.calm = true) : CallR X (.type "dict") (fun xs H Q => ∃ (a : Addr) (vs : List V) (kvs : List (Key × V)), xs = [.ref a] ∧ StT X.K H a vs ∧ PairsV X.K H vs kvs ∧ ∀ p, H p = none → Q (.ref p) (upd H p (.dK (mergeK [] kvs)))) := by
  intro pins s σ H xs us Q I r q
  obtain ⟨a, vs, kvs, ex, ht, hp, q⟩ := q
  subst ex
  obtain ⟨u, eu, rx⟩ := vals1 r
  subst eu
  cases rx
  obtain ⟨its, rv, hz, pl⟩ := plain_of I ht
  obtain ⟨bs, prs, ks, rfl, e2, e3, e4, e5⟩ := pairsV_at I hp
  have ei := refs_at rv
  subst ei
  rw [List.length_map] at hz
  refine PySem.call_dict_pairs (knd := mixKind X.prog X.w) (kvs := ks) (PairArg.tuple a ((bs.map Value.ref).toArray) (fun j => bs.getD j 0) prs) (I.ok.hd hcalm) ⟨pl, by simp [e3], fun j k v e => ?_⟩ ⟨by rw [e4, e3], fun j k v e => (e5 j k v e).2⟩ (by rw [e3]; exact hz) fun h' tk hd' k => ?_
  · obtain ⟨⟨b, g1, g2⟩, _⟩ := e5 j k v e
    have : bs.getD j 0 = b := by rw [List.getD_eq_getElem?_getD, g1]; rfl
    dsimp only
    rw [this]
    exact ⟨by simp [g1], g2⟩
  · have hm : (s.heap.objs.size == sysModules) = false := beq_eq_false_iff_ne.mpr (Nat.ne_of_gt I.big)
    have hlen : (mergeK [] kvs).length ≤ sizeLine := by
      refine Nat.le_trans (length_mergeK kvs []) ?_
      rw [List.length_nil, Nat.zero_add, e2.length, e4]
      exact hz
    exact ⟨.ref s.heap.objs.size, upd H s.heap.objs.size (.dK (mergeK [] kvs)), I.laid (t' := tk) (fun b o e => k b o (by simp) e) (Nat.le_refl _) (show ObjOk X.prog X.w _ _ _ (.dK (mergeK [] kvs)) from ⟨hlen, hm, merged [] ks, KV.merge e2 .nil, hd'⟩), rfl, q _ (I.hok.fresh (Nat.le_refl _))⟩
end
/-- the pairs of a list -/
def pairsD : List D → Option (List (Key × D))
  | [] => some []
  | .tup [k, v] :: r => match keyD k, pairsD r with
    | some key, some kvs => some ((key, v) :: kvs)
    | _, _ => none
  | _ => none
def mergeG (kvs more : List (Key × D)) : List (Key × D) := more.foldl (fun acc kv => putG acc kv.1 kv.2) kvs
section
variable {K : PySem.W.Frag} {F : Addr → Prop} {H : Hp}
theorem merge_rp : ∀ (more : List (Key × D)) (us : List V) (kvs : List (Key × D)) (vs : List V), RpAll K F H (more.map (·.2)) us → RpAll K F H (kvs.map (·.2)) vs →
    ∃ ws, mergeK ((kvs.map (·.1)).zip vs) ((more.map (·.1)).zip us) = ((mergeG kvs more).map (·.1)).zip ws ∧ RpAll K F H ((mergeG kvs more).map (·.2)) ws
  | [], us, kvs, vs, h, g => ⟨vs, by simp [mergeK, mergeG], g⟩
  | p :: more, us, kvs, vs, h, g => by
    rw [List.map_cons] at h
    unfold RpAll at h
    obtain ⟨u, us', rfl, h1, h2⟩ := h
    obtain ⟨ws, e1, r1⟩ := put_rp p.1 g h1
    obtain ⟨zs, e2, r2⟩ := merge_rp more us' (putG kvs p.1 p.2) ws h2 r1
    refine ⟨zs, ?_, r2⟩
    rw [← show mergeG (putG kvs p.1 p.2) more = mergeG kvs (p :: more) from rfl, ← e2]
    show mergeK (putK _ p.1 u) _ = _
    rw [e1]
    rfl
theorem pairsD_rp : ∀ {ds : List D} {vs : List V} {kvs : List (Key × D)}, RpAll K F H ds vs → pairsD ds = some kvs → ∃ us, PairsV K H vs ((kvs.map (·.1)).zip us) ∧ RpAll K F H (kvs.map (·.2)) us ∧ kvs.length = ds.length
  | [], vs, kvs, h, e => by
    unfold RpAll at h; subst h; cases e
    exact ⟨[], trivial, RpAll.nil, rfl⟩
  | d :: ds, vs, kvs, h, e => by
    unfold RpAll at h
    obtain ⟨v, vs', rfl, h1, h2⟩ := h
    cases d with
    | tup es =>
      match es, h1, e with
      | [k, w], h1, e =>
        unfold pairsD at e
        cases hk : keyD k with
        | none => simp only [hk] at e; cases e
        | some key =>
          cases hr : pairsD ds with
          | none => simp only [hk, hr] at e; cases e
          | some kvs' =>
            simp only [hk, hr] at e
            cases e
            obtain ⟨us, g1, g2, g3⟩ := pairsD_rp h2 hr
            obtain ⟨b, ts, rfl, fb, rb⟩ := rp_tup h1
            unfold RpAll at rb; obtain ⟨v1, t1, rfl, a1, rb⟩ := rb
            unfold RpAll at rb; obtain ⟨v2, t2, rfl, a2, rb⟩ := rb
            unfold RpAll at rb; subst rb
            have ek : v1 = kV key := key_rel (Rp.t a1) hk
            subst ek
            exact ⟨v2 :: us, ⟨⟨b, rfl, fb.sq⟩, g1⟩, RpAll.cons a2 g2, by simp [g3]⟩
      | [], _, e => cases e
      | [_], _, e => cases e
      | _ :: _ :: _ :: _, _, e => cases e
    | _ => cases e
end
def oDict : OpN := fun ds Q => match ds with
  | [.tup xs] => match pairsD xs with
    | some kvs => Q (.od (mergeG [] kvs))
    | none => False
  | [.lst xs] => match pairsD xs with
    | some kvs => Q (.od (mergeG [] kvs))
    | none => False
  | [.dct ks es] => Q (.od (ks.zip es))
  | _ => False
theorem pairsV_paired {K : PySem.W.Frag} {H : Hp} : ∀ {vs : List V} {kvs : List (Key × V)}, PairsV K H vs kvs → ∃ ps : List Addr, vs = ps.map V.ref ∧ Paired (fun p kv => SqT K H p [kV kv.1, kv.2]) ps kvs
  | [], [], _ => ⟨[], rfl, .nil⟩
  | [], _ :: _, h => h.elim
  | _ :: _, [], h => h.elim
  | v :: vs, kv :: kvs, ⟨⟨b, e, h⟩, t⟩ => by
    obtain ⟨ps, e1, p⟩ := pairsV_paired t
    exact ⟨b :: ps, by rw [e, e1]; rfl, .cons h p⟩
theorem t_dct {K : PySem.W.Frag} {F : Addr → Prop} {H : Hp} {ks : List Key} {ds : List D} {v : V} (h : RpT K F H (.dct ks ds) v) : ∃ a vs, v = .ref a ∧ Rd H a (.dK (ks.zip vs)) ∧ RpAll K F H ds vs ∧ ks.length = ds.length := h
theorem fin_od {B : Bs} {F : Addr → Prop} {σ : L2.St} {H : Hp} {S : Sg} {kvs : List (Key × D)} {vs : List V} {QQ : Rv → Prop} {Q : VK} (R : Rel B F σ H S) (r : RpAll B.K F H (kvs.map (·.2)) vs) (q : QQ (.od kvs))
    (k : ∀ rv, QQ rv → ∀ v H' F', Ext F H F' H' → Rel B F' σ H' S → RelRv B F' σ H' S rv v → Q v H') : ∀ p, H p = none → Q (.ref p) (upd H p (.dK ((kvs.map (·.1)).zip vs))) := fun p hp => by
  obtain ⟨e3, R3, f3, _⟩ := R.alloc (o := .dK ((kvs.map (·.1)).zip vs)) hp
  exact k _ q _ _ _ e3 R3 ⟨p, vs, rfl, upd_same, f3, RpAll.ext e3 _ _ r⟩
theorem ok_dict {X : Cx} (hc : X.calm = true) : OpNOk X (.type "dict") oDict := by
  refine ⟨_, CallR.or (call_dictS hc) (CallR.or call_dictD (call_dictP hc)), ?_⟩
  intro B F σ H S ds vs QQ Q hB R rd h k
  unfold oDict at h
  split at h
  · split at h
    · rename_i xs kvs hk
      obtain ⟨v, rfl, t⟩ := ts1 rd
      obtain ⟨a, us, rfl, fa, ra⟩ := t_tup t
      obtain ⟨ws, g1, g2, g3⟩ := pairsD_rp ra hk
      obtain ⟨zs, e1, r1⟩ := merge_rp kvs ws [] [] g2 RpAll.nil
      refine .inl ⟨a, us, _, rfl, hB ▸ fa.st, hB ▸ g1, fun p hp => ?_⟩
      have e1' : mergeK [] ((kvs.map (·.1)).zip ws) = ((mergeG [] kvs).map (·.1)).zip zs := e1
      rw [e1']
      exact fin_od R r1 h k p hp
    · exact h.elim
  · split at h
    · rename_i xs kvs hk
      obtain ⟨v, rfl, t⟩ := ts1 rd
      obtain ⟨a, us, rfl, fa, ra⟩ := t
      obtain ⟨ws, g1, g2, g3⟩ := pairsD_rp ra hk
      obtain ⟨zs, e1, r1⟩ := merge_rp kvs ws [] [] g2 RpAll.nil
      obtain ⟨ps, rfl, pp⟩ := pairsV_paired g1
      refine .inr (.inr ⟨a, ps, _, rfl, .inl (.inl fa), hB ▸ pp, fun p hp => ?_⟩)
      have e1' : mergeK [] ((kvs.map (·.1)).zip ws) = ((mergeG [] kvs).map (·.1)).zip zs := e1
      rw [e1']
      exact fin_od R r1 h k p hp
    · exact h.elim
  · obtain ⟨v, rfl, t⟩ := ts1 rd
    rename_i ks es
    obtain ⟨a, us, rfl, fa, ra, hl⟩ := t_dct t
    refine .inr (.inl ⟨a, _, rfl, fa, fun p hp => ?_⟩)
    have e1 : (ks.zip es).map (·.1) = ks := List.map_fst_zip (by omega)
    have e2 : (ks.zip es).map (·.2) = es := List.map_snd_zip (by omega)
    have := fin_od (kvs := ks.zip es) (vs := us) R (by rw [e2]; exact ra) h k p hp
    rw [e1] at this
    exact this
  · exact h.elim

/-! ### d.get(k, x), sorted(d), list(d) -/
def dGet2 (dx dk dd : Den) : Den := fun S Q => dx S fun x S1 => (match rd S1 x with
  | some (.dct _ _) => True
  | _ => False) ∧ dk S1 fun y S2 => dd S2 fun z S3 => match rd S3 (hold x), y with
    | some (.dct ks ds), .pu e => (match keyD e with
      | some k => (match dget ks ds k with
        | some d => Q (.pu d) S3
        | none => Q (hold z) S3)
      | none => False)
    | _, _ => False
theorem rd_hold {S : Sg} {x : Rv} : rd S (hold x) = rd S x := by cases x <;> rfl
section
variable {X : Cx} {B : Bs} {o e f : Expr} {apos cpos : Pos} {dx dk dd : Den}
theorem de_get2 (hu : X.A.units + 1 < cLine) (hB : B.K = X.K) (ho : PE X o (tD B dx)) (he : PE X e (tD B dk)) (hf : PE X f (tD B dd)) 
    (base : attributeBase o "get" X.env (eval o X.env) = eval o X.env := by rfl)
    (few : ((backTo cpos (starEach [e, f] X.env)).all (fun x => !x.1) && (backToKw cpos (keywordEach [] X.env)).all (fun x => x.1.isSome)
      && decide (([e, f] : List Expr).length + ([] : List Keyword).length + (if ([] : List Keyword).isEmpty then 0 else 1) < 30)) = true := by rfl)
    (line : (apos.endLine == cpos.line) = true := by rfl) (trees : backTo cpos (starEach [e, f] X.env) = [(false, eval e X.env), (false, eval f X.env)] := by rfl) :
    PE X (.Call (.Attribute o "get" apos) [e, f] [] cpos) (tD B (dGet2 dx dk dd)) := by
  refine PE_imp (pe_dget2 hu ho he hf ⟨base, few, line, trees⟩) ?_
  rintro σ H Q ⟨P, F, S, QQ, R, q, k⟩
  refine ⟨P, F, S, _, R, q, fun x S1 q1 v1 H1 F1 e1 R1 r1 => ?_⟩
  obtain ⟨isd, q1⟩ := q1
  obtain ⟨F1', e1', R1', r1'⟩ := hold_ok R1 r1
  have isD : ∃ a, v1 = .ref a ∧ IsD H1 a := by
    cases h1 : rd S1 x with
    | none => rw [h1] at isd; exact isd.elim
    | some dx =>
      have rt := RelRv.t R1 r1 h1
      rw [h1] at isd
      cases dx with
      | dct ks ds => obtain ⟨a, vs, rfl, fa, _⟩ := t_dct rt; exact ⟨a, rfl, .inl ⟨_, fa⟩⟩
      | _ => exact isd.elim
  obtain ⟨a, rfl, ia⟩ := isD
  refine ⟨a, rfl, ia, P, F1', S1, _, R1', q1, fun y S2 q2 v2 H2 F2 e2 R2 r2 => ?_⟩
  refine ⟨P, F2, S2, _, R2, q2, fun z S3 q3 v3 H3 F3 e3 R3 r3 => ?_⟩
  have rx := r1'.ext (e2.trans e3)
  cases h1 : rd S3 (hold x) with
  | none => simp only [h1] at q3
  | some dx =>
    have rt := RelRv.t R3 (RelH.rv rx) h1
    cases dx with
    | dct ks ds =>
      simp only [h1] at q3
      cases y with
      | pu ey =>
        cases hk : keyD ey with
        | none => simp only [hk] at q3
        | some key =>
          simp only [hk] at q3
          obtain ⟨a', vs, ea, fa, ra, hl⟩ := t_dct rt
          cases ea
          have r2' : Rp B.K F3 H3 ey v2 := Rp.ext e3 _ _ r2
          have ek : v2 = kV key := key_rel (Rp.t r2') hk
          subst ek
          refine ⟨valV (ks.zip vs) key, .inl ⟨_, key, fa, rfl, rfl⟩, ?_⟩
          have EE := (e1.trans e1').trans (e2.trans e3)
          rcases dget_rp key ra hl with ⟨g1, g2, _⟩ | ⟨d, v, g1, g2, g3, _⟩
          · rw [g2]
            simp only [g1] at q3
            obtain ⟨F3', e3', R3', r3'⟩ := hold_ok R3 r3
            exact k _ _ q3 _ H3 F3' (EE.trans e3') R3' (RelH.rv r3')
          · rw [g2]
            simp only [g1] at q3
            exact k _ _ q3 _ H3 F3 EE R3 g3
      | _ => simp at q3
    | _ => simp [h1] at q3
end
def intKeys : List Key → Option (List Int)
  | [] => some []
  | .inl i :: ks => (intKeys ks).map (i :: ·)
  | _ => none
theorem intKeys_eq : ∀ {ks : List Key} {ns : List Int}, intKeys ks = some ns → ks = ns.map Sum.inl
  | [], ns, e => by cases e; rfl
  | .inl i :: ks, ns, e => by
    have e' : (intKeys ks).map (i :: ·) = some ns := e
    cases h : intKeys ks with
    | none => rw [h] at e'; cases e'
    | some ms => rw [h] at e'; cases e'; rw [intKeys_eq h]; rfl
  | .inr _ :: _, ns, e => by cases e
/-- sorted of a list of ints, of a dict with whole numbers as keys -/
def oSortedU : OpN := fun ds Q => match ds with
  | [.dct ks _] => match intKeys ks with
    | some ns => ns.length < 64 ∧ ∀ ns' : List Int, ns'.Perm ns → ns'.Pairwise (· ≤ ·) → Q (.ol (ns'.map D.int))
    | none => False
  | ds => oSorted ds Q
theorem ok_sortedU {X : Cx} (hc : X.calm = true) : OpNOk X (.builtin "sorted") oSortedU := by
  obtain ⟨r, h1, h2⟩ := ok_sorted (X := X)
  refine ⟨_, CallR.or (call_sortedDI hc) h1, ?_⟩
  intro B F σ H S ds vs QQ Q hB R rd h k
  unfold oSortedU at h
  split at h
  · rename_i ks es
    split at h
    · rename_i ns hn
      obtain ⟨h64, h⟩ := h
      obtain ⟨v, rfl, t⟩ := ts1 rd
      obtain ⟨a, us, rfl, fa, ra, hl⟩ := t_dct t
      have e1 : (ks.zip us).map (·.1) = ks := List.map_fst_zip (by rw [ra.len]; omega)
      exact .inl ⟨a, _, ns, rfl, fa, by rw [e1]; exact intKeys_eq hn, h64, fun ys p h1 h2 hp => fin_lst R (rp_ints ys) (h ys h1 h2) k p hp⟩
    · exact h.elim
  · exact .inr (h2 B F σ H S _ vs QQ Q hB R rd h k)
end DL
namespace DL
open PySem PySem.Spec PyProof.Rows L2

/-- a list comprehension that maps and leaves out -/
theorem lc_filter {g : DenG} {t : DenTs} {e : Den} {vs : List Nat} {Q : List D → Sg → Prop} {S : Sg} {items : List D} (f : D → Option D) (fin : Q (items.filterMap f) S)
    (step : ∀ x ∈ items, ∀ R : Option D → Sg → Prop, R (f x) S → g (.pu x) S fun S1 => t S1 fun b S2 => if b = true then e S2 fun r S3 => (match frc S3 r with
      | some (d, S4) => R (some d) (wipeS S4 vs)
      | none => False)
      else R none (wipeS S2 vs)) : dLc.go g t e vs items [] S Q := by
  have key : ∀ rest done, items = done ++ rest → dLc.go g t e vs rest (done.filterMap f) S Q := by
    intro rest
    induction rest with
    | nil => intro done h; rw [List.append_nil] at h; subst h; exact fin
    | cons x xs ih =>
      intro done h
      have hx : x ∈ items := by rw [h]; simp
      have h1 := ih (done ++ [x]) (by rw [h]; simp)
      refine step x hx (fun o S' => dLc.go g t e vs xs (match o with | some d => done.filterMap f ++ [d] | none => done.filterMap f) S' Q) ?_
      rw [List.filterMap_append] at h1
      cases q : f x with
      | none => simpa [q] using h1
      | some d => simpa [q] using h1
  exact key items [] rfl

/-! ### sums over sources -/
abbrev Ps := List (Nat × Rat)
def pqD (p : Nat × Rat) : D := .tup [.int p.1, fq p.2]
def smD (ps : Ps) (c : Rat) : D := .tup [.tup (ps.map pqD), fq c]
/-- the factors that are not 0, from source a on -/
def canF (f : Nat → Rat) : Nat → Nat → Ps
  | _, 0 => []
  | a, k + 1 => if f a = 0 then canF f (a + 1) k else (a, f a) :: canF f (a + 1) k
def canon (m : Nat) (f : Nat → Rat) : Ps := canF f 0 m
def sumD (m : Nat) (f : Nat → Rat) (c : Rat) : D := smD (canon m f) c
def find_ (ps : Ps) (i : Nat) : Option Rat := (ps.find? fun p => decide (p.1 = i)).map (·.2)
def at_ (ps : Ps) (i : Nat) : Rat := (find_ ps i).getD 0
theorem find_cons (p : Nat × Rat) (ps : Ps) (i : Nat) : find_ (p :: ps) i = if p.1 = i then some p.2 else find_ ps i := by
  unfold find_
  by_cases h : p.1 = i <;> simp [List.find?_cons, h]
theorem find_none {ps : Ps} {i : Nat} (h : ∀ p ∈ ps, p.1 ≠ i) : find_ ps i = none := by
  induction ps with
  | nil => rfl
  | cons p ps ih => rw [find_cons, if_neg (h p (by simp)), ih fun q hq => h q (by simp [hq])]
theorem find_mem {ps : Ps} {i : Nat} {x : Rat} (h : find_ ps i = some x) : (i, x) ∈ ps := by
  induction ps with
  | nil => cases h
  | cons p ps ih =>
    rw [find_cons] at h
    by_cases e : p.1 = i
    · rw [if_pos e] at h; cases h; subst e; simp
    · rw [if_neg e] at h; simp [ih h]
/-- in order, no factor 0, the sources within the range -/
def Ord_ (a : Nat) : Ps → Prop
  | [] => True
  | p :: ps => a ≤ p.1 ∧ p.2 ≠ 0 ∧ Ord_ (p.1 + 1) ps
theorem Ord_.mono {a b : Nat} (h : b ≤ a) : ∀ {ps : Ps}, Ord_ a ps → Ord_ b ps
  | [], _ => trivial
  | _ :: _, z => ⟨Nat.le_trans h z.1, z.2.1, z.2.2⟩
theorem Ord_.ge {a : Nat} : ∀ {ps : Ps}, Ord_ a ps → ∀ p ∈ ps, a ≤ p.1
  | [], _, p, hp => by cases hp
  | q :: ps, z, p, hp => by
    rcases List.mem_cons.mp hp with e | e
    · rw [e]; exact z.1
    · exact Nat.le_trans (Nat.le_trans z.1 (Nat.le_succ _)) (Ord_.ge z.2.2 p e)
theorem canF_eq : ∀ (k a : Nat) (f : Nat → Rat) (ps : Ps), Ord_ a ps → (∀ p ∈ ps, p.1 < a + k) → (∀ i, a ≤ i → i < a + k → f i = at_ ps i) → canF f a k = ps
  | 0, a, f, [], _, _, _ => rfl
  | 0, a, f, p :: ps, h, h2, _ => absurd (h2 p (by simp)) (by have := h.1; omega)
  | k + 1, a, f, [], h, h2, h3 => by
    unfold canF
    have e : f a = 0 := by rw [h3 a (Nat.le_refl _) (by omega)]; rfl
    rw [if_pos e]
    exact canF_eq k (a + 1) f [] trivial (fun p hp => by cases hp) fun i h4 h5 => h3 i (by omega) (by omega)
  | k + 1, a, f, p :: ps, h, h2, h3 => by
    unfold canF
    by_cases e : p.1 = a
    · have e1 : f a = p.2 := by rw [h3 a (Nat.le_refl _) (by omega)]; unfold at_; rw [find_cons, if_pos e]; rfl
      rw [if_neg (by rw [e1]; exact h.2.1), e1]
      have r : canF f (a + 1) k = ps := canF_eq k (a + 1) f ps (e ▸ h.2.2) (fun q hq => by have := h2 q (by simp [hq]); omega) fun i h4 h5 => by
        rw [h3 i (by omega) (by omega)]; unfold at_; rw [find_cons, if_neg (by omega)]
      rw [r, ← e]
    · have e1 : f a = 0 := by
        rw [h3 a (Nat.le_refl _) (by omega)]; unfold at_; rw [find_none]; · rfl
        · intro q hq
          have := Ord_.ge h q hq
          rcases List.mem_cons.mp hq with z | z
          · rw [z]; exact e
          · have := Ord_.ge h.2.2 q z; have := h.1; omega
      rw [if_pos e1]
      exact canF_eq k (a + 1) f (p :: ps) ⟨by have := h.1; omega, h.2.1, h.2.2⟩ (fun q hq => by have := h2 q hq; omega) fun i h4 h5 => h3 i (by omega) (by omega)
theorem canon_eq {m : Nat} {f : Nat → Rat} {ps : Ps} (h : Ord_ 0 ps) (h2 : ∀ p ∈ ps, p.1 < m) (h3 : ∀ i, i < m → f i = at_ ps i) : canon m f = ps :=
  canF_eq m 0 f ps h (fun p hp => by have := h2 p hp; omega) fun i _ h => h3 i (by omega)
theorem canF_ord : ∀ (k a : Nat) (f : Nat → Rat), Ord_ a (canF f a k)
  | 0, _, _ => trivial
  | k + 1, a, f => by
    unfold canF
    by_cases e : f a = 0
    · rw [if_pos e]; exact (canF_ord k (a + 1) f).mono (Nat.le_succ a)
    · rw [if_neg e]; exact ⟨Nat.le_refl _, e, canF_ord k (a + 1) f⟩
theorem canF_mem : ∀ (k a : Nat) (f : Nat → Rat) (p : Nat × Rat), p ∈ canF f a k → a ≤ p.1 ∧ p.1 < a + k ∧ p.2 = f p.1 ∧ f p.1 ≠ 0
  | 0, _, _, p, h => by cases h
  | k + 1, a, f, p, h => by
    unfold canF at h
    by_cases e : f a = 0
    · rw [if_pos e] at h
      have := canF_mem k (a + 1) f p h
      exact ⟨by omega, by omega, this.2.2⟩
    · rw [if_neg e] at h
      rcases List.mem_cons.mp h with z | z
      · subst z; exact ⟨Nat.le_refl _, by show a < _; omega, rfl, e⟩
      · have := canF_mem k (a + 1) f p z
        exact ⟨by omega, by omega, this.2.2⟩
theorem canon_ord (m : Nat) (f : Nat → Rat) : Ord_ 0 (canon m f) := canF_ord m 0 f
theorem canon_mem {m : Nat} {f : Nat → Rat} {p : Nat × Rat} (h : p ∈ canon m f) : p.1 < m ∧ p.2 = f p.1 ∧ f p.1 ≠ 0 := by
  have := canF_mem m 0 f p h
  exact ⟨by omega, this.2.2.1, this.2.2.2⟩
theorem canF_at : ∀ (k a : Nat) (f : Nat → Rat) (i : Nat), a ≤ i → i < a + k → at_ (canF f a k) i = f i
  | 0, a, f, i, h1, h2 => by omega
  | k + 1, a, f, i, h1, h2 => by
    unfold canF
    by_cases e : f a = 0
    · rw [if_pos e]
      by_cases ei : i = a
      · subst ei; rw [e]; unfold at_; rw [find_none]; · rfl
        · intro p hp; have := canF_mem k (i + 1) f p hp; omega
      · exact canF_at k (a + 1) f i (by omega) (by omega)
    · rw [if_neg e]; unfold at_; rw [find_cons]
      by_cases ei : i = a
      · subst ei; rw [if_pos rfl]; rfl
      · rw [if_neg (by show a ≠ i; omega)]; exact canF_at k (a + 1) f i (by omega) (by omega)
theorem canon_at {m : Nat} {f : Nat → Rat} {i : Nat} (h : i < m) : at_ (canon m f) i = f i := canF_at m 0 f i (Nat.zero_le _) (by omega)
theorem canon_congr {m : Nat} {f g : Nat → Rat} (h : ∀ i, i < m → f i = g i) : canon m f = canon m g :=
  canon_eq (canon_ord m g) (fun p hp => (canon_mem hp).1) fun i hi => by rw [canon_at hi, h i hi]
theorem canon_len (m : Nat) (f : Nat → Rat) : (canon m f).length ≤ m := by
  have : ∀ k a, (canF f a k).length ≤ k := by
    intro k
    induction k with
    | zero => intro a; exact Nat.le_refl _
    | succ k ih =>
      intro a; unfold canF
      by_cases e : f a = 0
      · rw [if_pos e]; exact Nat.le_succ_of_le (ih _)
      · rw [if_neg e]; exact Nat.succ_le_succ (ih _)
  exact this m 0

/-! ### a dict of sources -/
def kvD (ts : Ps) : List (Key × D) := ts.map fun p => (.inl (p.1 : Int), fq p.2)
def putR (ts : Ps) (i : Nat) (x : Rat) : Ps := if (ts.any fun p => decide (p.1 = i)) = true then ts.map (fun p => if p.1 = i then (p.1, x) else p) else ts ++ [(i, x)]
theorem key_eq (i j : Nat) : ((Sum.inl (i : Int) : Key) = Sum.inl (j : Int)) = (i = j) := by
  apply propext; constructor
  · intro h; have := Sum.inl.inj h; omega
  · intro h; rw [h]
theorem put_kvD (ts : Ps) (i : Nat) (x : Rat) : putG (kvD ts) (.inl (i : Int)) (fq x) = kvD (putR ts i x) := by
  unfold putG putR
  have e : ((kvD ts).any fun kv => decide (kv.1 = .inl (i : Int))) = ts.any fun p => decide (p.1 = i) := by
    unfold kvD
    rw [List.any_map]
    congr 1; funext p
    show decide ((Sum.inl (p.1 : Int) : Key) = Sum.inl (i : Int)) = _
    exact decide_eq_decide.mpr (by rw [key_eq])
  rw [e]
  split
  · unfold kvD
    rw [List.map_map, List.map_map]
    congr 1; funext p
    show (if (Sum.inl (p.1 : Int) : Key) = Sum.inl (i : Int) then _ else _) = _
    by_cases h : p.1 = i
    · rw [if_pos (by rw [key_eq]; exact h)]; simp [h]
    · rw [if_neg (by rw [key_eq]; exact h)]; simp [h]
  · unfold kvD; rw [List.map_append]; rfl
theorem find_put (ts : Ps) (i : Nat) (x : Rat) (j : Nat) : find_ (putR ts i x) j = if i = j then some x else find_ ts j := by
  unfold putR
  by_cases h : (ts.any fun p => decide (p.1 = i)) = true
  · rw [if_pos h]
    induction ts with
    | nil => cases h
    | cons p ts ih =>
      rw [List.map_cons, find_cons, find_cons]
      by_cases e : p.1 = i
      · rw [if_pos e]
        by_cases ej : i = j
        · subst ej; rw [if_pos e, if_pos rfl]
        · rw [if_neg ej, if_neg (by show p.1 ≠ j; omega), if_neg (by omega)]
          by_cases h2 : (ts.any fun p => decide (p.1 = i)) = true
          · rw [ih h2, if_neg ej]
          · have : ts.map (fun p => if p.1 = i then (p.1, x) else p) = ts := by
              have e3 : ts.map (fun p => if p.1 = i then (p.1, x) else p) = ts.map id := by
                apply List.map_congr_left
                intro q hq
                rw [if_neg fun z => h2 (List.any_eq_true.mpr ⟨q, hq, by simp [z]⟩)]; rfl
              rw [e3, List.map_id]
            rw [this]
      · rw [if_neg e]
        have h2 : (ts.any fun p => decide (p.1 = i)) = true := by simpa [e] using h
        by_cases ej : p.1 = j
        · rw [if_pos ej, if_neg (by omega), if_pos ej]
        · rw [if_neg ej, if_neg ej, ih h2]
  · rw [if_neg h]
    have hn : ∀ p ∈ ts, p.1 ≠ i := fun p hp e => h (List.any_eq_true.mpr ⟨p, hp, by simp [e]⟩)
    clear h
    induction ts with
    | nil => rw [List.nil_append, find_cons]
    | cons p ts ih =>
      rw [List.cons_append, find_cons, find_cons, ih fun q hq => hn q (by simp [hq])]
      by_cases ej : p.1 = j
      · rw [if_pos ej, if_pos ej, if_neg (fun z => hn p (by simp) (ej.trans z.symm))]
      · rw [if_neg ej, if_neg ej]
theorem dget_kvD (ts : Ps) (i : Nat) : dget ((kvD ts).map (·.1)) ((kvD ts).map (·.2)) (.inl (i : Int)) = (find_ ts i).map fq := by
  unfold dget
  have e : ((kvD ts).map (·.1)).zip ((kvD ts).map (·.2)) = kvD ts := by
    rw [List.zip_map']; exact List.map_id _
  rw [e]
  clear e
  unfold kvD find_
  induction ts with
  | nil => rfl
  | cons p ts ih =>
    rw [List.map_cons, List.find?_cons, List.find?_cons]
    by_cases h : p.1 = i
    · have h1 : decide ((Sum.inl (p.1 : Int) : Key) = Sum.inl (i : Int)) = true := by rw [decide_eq_true_eq, key_eq]; exact h
      simp only [h1, h, decide_true]; rfl
    · have h1 : decide ((Sum.inl (p.1 : Int) : Key) = Sum.inl (i : Int)) = false := by rw [decide_eq_false_iff_not, key_eq]; exact h
      simp only [h1, h, decide_false]; exact ih
theorem put_keys (ts : Ps) (i : Nat) (x : Rat) : (∀ m, (∀ p ∈ ts, p.1 < m) → i < m → ∀ p ∈ putR ts i x, p.1 < m) ∧ ((ts.map (·.1)).Nodup → ((putR ts i x).map (·.1)).Nodup) := by
  unfold putR
  by_cases h : (ts.any fun p => decide (p.1 = i)) = true
  · rw [if_pos h]
    have e : (ts.map fun p => if p.1 = i then (p.1, x) else p).map (·.1) = ts.map (·.1) := by
      rw [List.map_map]; apply List.map_congr_left; intro p _
      show (if p.1 = i then (p.1, x) else p).1 = p.1
      by_cases q : p.1 = i <;> simp [q]
    refine ⟨fun m h1 h2 p hp => ?_, fun z => by rw [e]; exact z⟩
    have : p.1 ∈ ts.map (·.1) := by rw [← e]; exact List.mem_map.mpr ⟨p, hp, rfl⟩
    obtain ⟨q, hq, e2⟩ := List.mem_map.mp this
    rw [← e2]; exact h1 q hq
  · rw [if_neg h]
    refine ⟨fun m h1 h2 p hp => ?_, fun z => ?_⟩
    · rcases List.mem_append.mp hp with q | q
      · exact h1 p q
      · rw [List.mem_singleton.mp q]; exact h2
    · rw [List.map_append, List.nodup_append]
      refine ⟨z, by simp, fun a ha b hb e => h ?_⟩
      obtain ⟨q, hq, rfl⟩ := List.mem_map.mp ha
      have : b = i := by simpa using hb
      exact List.any_eq_true.mpr ⟨q, hq, by simp [e, this]⟩
theorem intKeys_kvD : ∀ ts : Ps, intKeys ((kvD ts).map (·.1)) = some (ts.map fun p => (p.1 : Int))
  | [] => rfl
  | p :: ts => by
    show (intKeys ((kvD ts).map (·.1))).map ((p.1 : Int) :: ·) = _
    rw [intKeys_kvD ts]; rfl
/-- what raw_by_dict keeps of a sorted dict -/
theorem sorted_keep {ts : Ps} {ns : List Int} (hp : ns.Perm (ts.map fun p => (p.1 : Int))) (hs : ns.Pairwise (· ≤ ·)) (hd : (ts.map (·.1)).Nodup) {m : Nat} (hm : ∀ p ∈ ts, p.1 < m) :
    ∃ ks : List Nat, ns = ks.map (fun k : Nat => (k : Int)) ∧ ks.Pairwise (· < ·) ∧ (∀ k ∈ ks, k < m) ∧ (∀ k, k ∈ ks ↔ k ∈ ts.map (·.1)) := by
  have hn : ∀ n ∈ ns, ∃ k : Nat, n = k ∧ k ∈ ts.map (·.1) := fun n hn => by
    obtain ⟨p, h1, h2⟩ := List.mem_map.mp (hp.mem_iff.mp hn)
    exact ⟨p.1, h2.symm, List.mem_map.mpr ⟨p, h1, rfl⟩⟩
  have nd : ns.Nodup := by
    refine hp.nodup_iff.mpr ?_
    have : (ts.map fun p => (p.1 : Int)) = (ts.map (·.1)).map (fun k : Nat => (k : Int)) := by rw [List.map_map]; rfl
    rw [this]
    exact List.Pairwise.map _ (fun a b h => by omega) hd
  refine ⟨ns.map Int.toNat, ?_, ?_, ?_, ?_⟩
  · rw [List.map_map]
    have : ns.map ((fun k : Nat => (k : Int)) ∘ Int.toNat) = ns.map id := by
      apply List.map_congr_left; intro n h
      obtain ⟨k, e, _⟩ := hn n h
      subst e; rfl
    rw [this, List.map_id]
  · rw [List.pairwise_map]
    have h3 : ns.Pairwise (fun a b => a ≤ b ∧ a ≠ b) := hs.and nd
    refine (List.Pairwise.and_mem.mp h3).imp fun {a b} h => ?_
    obtain ⟨ha, hb, h1, h2⟩ := h
    obtain ⟨k, e, _⟩ := hn a ha
    obtain ⟨k', e', _⟩ := hn b hb
    subst e e'
    show k < k'
    omega
  · intro k hk
    obtain ⟨n, h1, rfl⟩ := List.mem_map.mp hk
    obtain ⟨k, e, h2⟩ := hn n h1
    obtain ⟨p, h3, h4⟩ := List.mem_map.mp h2
    subst e
    show k < m
    rw [← h4]; exact hm p h3
  · intro k
    constructor
    · intro hk
      obtain ⟨n, h1, rfl⟩ := List.mem_map.mp hk
      obtain ⟨k, e, h2⟩ := hn n h1
      subst e; exact h2
    · intro hk
      obtain ⟨p, h3, h4⟩ := List.mem_map.mp hk
      refine List.mem_map.mpr ⟨(k : Int), hp.mem_iff.mpr (List.mem_map.mpr ⟨p, h3, by rw [← h4]⟩), rfl⟩
theorem keep_find {g : Nat → Rat} : ∀ {ks : List Nat} {i : Nat}, ks.Nodup → find_ (ks.filterMap fun k => if g k = 0 then none else some (k, g k)) i = if i ∈ ks ∧ g i ≠ 0 then some (g i) else none
  | [], i, _ => by simp [find_]
  | k :: ks, i, hn => by
    have ih := keep_find (g := g) (i := i) (List.nodup_cons.mp hn).2
    have hk := (List.nodup_cons.mp hn).1
    by_cases e : g k = 0
    · have e1 : (k :: ks).filterMap (fun k => if g k = 0 then none else some (k, g k)) = ks.filterMap fun k => if g k = 0 then none else some (k, g k) := by rw [List.filterMap_cons]; simp [e]
      rw [e1, ih]
      by_cases ei : i = k
      · subst ei; rw [if_neg (fun z => z.2 e), if_neg (fun z => z.2 e)]
      · by_cases h : i ∈ ks ∧ g i ≠ 0
        · rw [if_pos h, if_pos ⟨List.mem_cons_of_mem _ h.1, h.2⟩]
        · rw [if_neg h, if_neg fun z => h ⟨(List.mem_cons.mp z.1).resolve_left ei, z.2⟩]
    · have e1 : (k :: ks).filterMap (fun k => if g k = 0 then none else some (k, g k)) = (k, g k) :: ks.filterMap fun k => if g k = 0 then none else some (k, g k) := by rw [List.filterMap_cons]; simp [e]
      rw [e1, find_cons, ih]
      by_cases ei : k = i
      · subst ei; rw [if_pos rfl, if_pos ⟨by simp, e⟩]
      · rw [if_neg ei]
        by_cases h : i ∈ ks ∧ g i ≠ 0
        · rw [if_pos h, if_pos ⟨List.mem_cons_of_mem _ h.1, h.2⟩]
        · rw [if_neg h, if_neg fun z => h ⟨(List.mem_cons.mp z.1).resolve_left (fun q => ei q.symm), z.2⟩]
theorem keep_ord {g : Nat → Rat} : ∀ {ks : List Nat} {a : Nat}, ks.Pairwise (· < ·) → (∀ k ∈ ks, a ≤ k) → Ord_ a (ks.filterMap fun k => if g k = 0 then none else some (k, g k))
  | [], _, _, _ => trivial
  | k :: ks, a, hp, ha => by
    have hp' := List.pairwise_cons.mp hp
    by_cases e : g k = 0
    · have e1 : (k :: ks).filterMap (fun k => if g k = 0 then none else some (k, g k)) = ks.filterMap fun k => if g k = 0 then none else some (k, g k) := by rw [List.filterMap_cons]; simp [e]
      rw [e1]
      exact keep_ord hp'.2 fun j hj => ha j (by simp [hj])
    · have e1 : (k :: ks).filterMap (fun k => if g k = 0 then none else some (k, g k)) = (k, g k) :: ks.filterMap fun k => if g k = 0 then none else some (k, g k) := by rw [List.filterMap_cons]; simp [e]
      rw [e1]
      exact ⟨ha k (by simp), e, keep_ord hp'.2 fun j hj => hp'.1 j hj⟩
theorem keep_canon {g : Nat → Rat} {ks : List Nat} {m : Nat} (hp : ks.Pairwise (· < ·)) (hm : ∀ k ∈ ks, k < m) (h0 : ∀ i, i < m → i ∉ ks → g i = 0) :
    (ks.filterMap fun k => if g k = 0 then none else some (k, g k)) = canon m g := by
  refine (canon_eq (keep_ord hp fun _ _ => Nat.zero_le _) (fun p hpm => ?_) fun i hi => ?_).symm
  · obtain ⟨k, hk, e⟩ := List.mem_filterMap.mp hpm
    by_cases q : g k = 0
    · rw [if_pos q] at e; cases e
    · rw [if_neg q] at e; cases e; exact hm k hk
  · unfold at_
    rw [keep_find (hp.imp fun h => Nat.ne_of_lt h)]
    by_cases h : i ∈ ks ∧ g i ≠ 0
    · rw [if_pos h]; rfl
    · rw [if_neg h]
      by_cases q : g i = 0
      · rw [q]; rfl
      · exact h0 i hi fun z => h ⟨z, q⟩
theorem sortedU_kv {ts : Ps} {ds : List D} {Q : Rv → Prop} : oSortedU [.dct ((kvD ts).map (·.1)) ds] Q = ((ts.map fun p => (p.1 : Int)).length < 64 ∧ ∀ ns' : List Int, ns'.Perm (ts.map fun p => (p.1 : Int)) → ns'.Pairwise (· ≤ ·) → Q (.ol (ns'.map D.int))) := by
  show (match intKeys ((kvD ts).map (·.1)) with | some ns => _ | none => False) = _
  rw [intKeys_kvD]
theorem kvD_ix {ts : Ps} {i : Nat} {x : Rat} {Q : Rv → Prop} (h : find_ ts i = some x) : oIx (.dct ((kvD ts).map (·.1)) ((kvD ts).map (·.2))) (.int (i : Int)) Q = Q (.pu (fq x)) := by
  rw [oIx_dct]
  show (match dget ((kvD ts).map (·.1)) ((kvD ts).map (·.2)) (.inl (i : Int)) with | some x => Q (.pu x) | none => False) = _
  rw [dget_kvD, h]; rfl
theorem find_of_mem {ts : Ps} {i : Nat} (h : i ∈ ts.map (·.1)) : find_ ts i = some (at_ ts i) := by
  unfold at_
  induction ts with
  | nil => cases h
  | cons p ts ih =>
    rw [find_cons]
    by_cases e : p.1 = i
    · rw [if_pos e]; rfl
    · rw [if_neg e]
      exact ih ((List.mem_cons.mp h).resolve_left fun z => e z.symm)
theorem at_of_not {ts : Ps} {i : Nat} (h : i ∉ ts.map (·.1)) : at_ ts i = 0 := by
  unfold at_
  rw [find_none fun p hp e => h (List.mem_map.mpr ⟨p, hp, e⟩)]; rfl
theorem at_cons (p : Nat × Rat) (ps : Ps) (i : Nat) : at_ (p :: ps) i = if p.1 = i then p.2 else at_ ps i := by
  unfold at_; rw [find_cons]
  by_cases e : p.1 = i
  · rw [if_pos e, if_pos e]; rfl
  · rw [if_neg e, if_neg e]
theorem at_snoc {p : Nat × Rat} : ∀ {ds : Ps} {i : Nat}, p.1 ∉ ds.map (·.1) → at_ (ds ++ [p]) i = if p.1 = i then p.2 else at_ ds i
  | [], i, _ => by rw [List.nil_append, at_cons]
  | q :: ds, i, h => by
    have h' : p.1 ≠ q.1 ∧ p.1 ∉ ds.map (·.1) := by simpa using h
    rw [List.cons_append, at_cons, at_cons, at_snoc h'.2]
    by_cases e : q.1 = i
    · rw [if_pos e, if_pos e, if_neg fun z => h'.1 (z.trans e.symm)]
    · rw [if_neg e, if_neg e]
theorem at_put (ts : Ps) (i : Nat) (x : Rat) (j : Nat) : at_ (putR ts i x) j = if i = j then x else at_ ts j := by
  unfold at_; rw [find_put]
  by_cases e : i = j
  · rw [if_pos e, if_pos e]; rfl
  · rw [if_neg e, if_neg e]
end DL
namespace DL
open PySem PySem.Spec PyProof.Rows L2
theorem eqDs_refl : ∀ {ds : List D}, (∀ d ∈ ds, eqD d d = true) → eqDs ds ds = true
  | [], _ => rfl
  | d :: ds, h => by rw [eqDs_cons, h d (by simp), eqDs_refl fun e he => h e (by simp [he])]; rfl
theorem eqD_refl : ∀ {n : Nat} {d : D}, okAt n d = true → eqD d d = true
  | _, .non, _ => rfl
  | _, .bl b, _ => by rw [eq_bl]; simp
  | _, .int i, _ => by rw [eq_int]; simp
  | _, .str x, _ => by rw [eq_str]; simp
  | n + 1, .tup ds, h => by
    have h' : ds.all (okAt n) = true := h
    rw [List.all_eq_true] at h'
    rw [eq_tup]; exact eqDs_refl fun d hd => eqD_refl (h' d hd)
  | n + 1, .lst ds, h => by
    have h' : ds.all (okAt n) = true := h
    rw [List.all_eq_true] at h'
    rw [eq_lst]; exact eqDs_refl fun d hd => eqD_refl (h' d hd)
  | 0, .tup _, h => by cases h
  | 0, .lst _, h => by cases h
  | 0, .dct _ _, h => by cases h
  | _ + 1, .dct _ _, h => by cases h
  | 0, .scr _, h => by cases h
  | _ + 1, .scr _, h => by cases h
theorem okAt_pqD (n : Nat) (p : Nat × Rat) : okAt (n + 2) (pqD p) = true := by
  show ([D.int (p.1 : Int), fq p.2].all (okAt (n + 1))) = true
  simp [okAt_int, okAt_fq]
theorem okAt_smD (ps : Ps) (c : Rat) : okAt 4 (smD ps c) = true := by
  unfold smD
  show ([D.tup (ps.map pqD), fq c].all (okAt 3)) = true
  rw [List.all_cons, List.all_cons, List.all_nil, okAt_fq, Bool.and_true, Bool.and_true]
  show (ps.map pqD).all (okAt 2) = true
  rw [List.all_eq_true]
  intro d hd
  obtain ⟨p, _, rfl⟩ := List.mem_map.mp hd
  exact okAt_pqD 0 p
theorem okE_sumD (m : Nat) (f : Nat → Rat) (c : Rat) : okE (sumD m f c) = true := okE_by 4 (okAt_smD _ _)
theorem eq_sumD (m : Nat) (f : Nat → Rat) (c : Rat) : eqD (sumD m f c) (sumD m f c) = true := eqD_refl (okAt_smD _ _)
end DL
namespace DL
open PySem PySem.Spec PyProof.Rows L2

/-! ### the head, cheaper: what the module's names reach, each looked at once; the run's equation in parts -/
def kidsP (g : Addr → Option Obj) (a : Addr) : List Addr := match g a with
  | some o => (match o.data with
    | .func fd => He.refV fd.code
    | .seq its _ => its.toList.flatMap He.refV
    | .cls cd => [cd.ns]
    | .dict es _ => es.toList.flatMap fun e => He.refV e.val
    | _ => [])
  | none => []
def asP (g : Addr → Option Obj) : List Addr :=
  let l1 := kidsP g mainGlobals
  let l2 := l1.flatMap (kidsP g)
  let l3 := l2.flatMap (kidsP g)
  mainGlobals :: (l1 ++ (l2 ++ l3))
def obsP (fa : List He.Fa) (fn : List He.DefD) (cs : List (Str × D)) (g : Addr → Option Obj) : AlM := (fun K => (He.obsD fa fn K, cs.all fun c => glB K (exNames cs) c)) (He.frG g (asP g))
def hookP (fa : List He.Fa) (fn : List He.DefD) (cs : List (Str × D)) : PySem.W.Hook where
  α := AlM
  obs := fun s => obsP fa fn cs s.heap.get?
  val := fun _ => (He.valD fn, true)
  says := fun _ h => ∃ K : PySem.W.Frag, K.In h ∧ SaysM fa fn cs K
  of := fun _ _ e => ⟨_, He.frG_in, congrArg (fun z : AlM => z.1) e, congrArg (fun z : AlM => z.2) e⟩
  keeps := fun _ _ _ ⟨K, hK, c⟩ k => ⟨K, PySem.W.Frag.In.keeps hK k, c⟩
theorem obsP_eq {fa : List He.Fa} {fn : List He.DefD} {cs : List (Str × D)} {g : Addr → Option Obj} {s : Shared} (h : ∀ a, g a = s.heap.get? a) : obsP fa fn cs g = (hookP fa fn cs).obs s := by
  have e : g = s.heap.get? := funext h
  rw [e] <;> rfl
theorem map3 {α β γ δ : Type} {o : Option α} {f : α → β} {g : α → γ} {h : α → δ} {b : β} {c : γ} {d : δ} (e1 : o.map f = some b) (e2 : o.map g = some c) (e3 : o.map h = some d) : o.map (fun s => (f s, g s, h s)) = some (b, c, d) := by
  cases o with
  | none => cases e1
  | some a => cases e1; cases e2; cases e3; rfl
end DL
namespace DL
open PySem PySem.Spec PyProof.Rows L2

/-! ### tuple * int -/
section
theorem tuple_mul1 (l : Addr) (items : Array Value) (n : Nat) (dd : Option Addr) (sl : Array (Option Value)) (u : Tok) :
    Meets (Builtin.«tuple.__mul__» ⟨[.ref l, .int 1 u], []⟩) (fun _ R s => s.heap.get? l = some { cls := .type "tuple", dict := dd, data := .seq items n, slots := sl } ∧ R (.ok (.ret (Value.ref l))) s) :=
  .of_wp fun prog w A R s h => by
    obtain ⟨hp, g, d, tk, os⟩ := s
    obtain ⟨hl, h⟩ := h
    have f1 := AutoSeq1.idx_int
    have c1 : (items.isEmpty || (1 : Int) == 1) = true := by simp
    wp_walk using wpAny_loadPart' hl
    all_goals first
      | exact ⟨_, rfl, h⟩
      | (refine wpAny_ite_true (decide_eq_true c1) ?_; wp_walk using wpAny_loadPart' hl; exact ⟨_, rfl, h⟩)
      | skip
theorem tuple_mulE (l : Addr) (n : Nat) (dd : Option Addr) (sl : Array (Option Value)) (x : Int) (u : Tok) (c0 : (decide (x < -(2 ^ 63)) || decide (x ≥ 2 ^ 63)) = false) :
    Meets (Builtin.«tuple.__mul__» ⟨[.ref l, .int x u], []⟩) (fun _ R s => s.heap.get? l = some { cls := .type "tuple", dict := dd, data := .seq #[] n, slots := sl } ∧ R (.ok (.ret (Value.ref l))) s) :=
  .of_wp fun prog w A R s h => by
    obtain ⟨hp, g, d, tk, os⟩ := s
    obtain ⟨hl, h⟩ := h
    have f1 := AutoSeq1.idx_int
    have c1 : ((#[] : Array Value).isEmpty || x == 1) = true := by simp
    wp_walk using wpAny_loadPart' hl
    repeat (first
      | exact ⟨_, rfl, h⟩
      | (refine wpAny_ite_false (decide_eq_false (by rw [c0]; exact Bool.false_ne_true)) ?_; wp_walk using wpAny_loadPart' hl)
      | (refine wpAny_ite_true (decide_eq_true c1) ?_; wp_walk using wpAny_loadPart' hl))
theorem tuple_mul0 (l : Addr) (items : Array Value) (n : Nat) (dd : Option Addr) (sl : Array (Option Value)) (x : Int) (u : Tok) (c0 : (decide (x < -(2 ^ 63)) || decide (x ≥ 2 ^ 63)) = false) (c1 : (items.isEmpty || x == 1) = false) (c2 : (decide (x ≤ 0) || items.isEmpty) = true) :
    Meets (Builtin.«tuple.__mul__» ⟨[.ref l, .int x u], []⟩) (fun _ R s => s.heap.get? l = some { cls := .type "tuple", dict := dd, data := .seq items n, slots := sl } ∧
      R (.ok (.ret (Value.ref s.heap.objs.size))) { s with heap := s.heap.push { cls := Value.type "tuple", data := Data.seq #[] }, toks := s.toks }) :=
  .of_wp fun prog w A R s h => by
    obtain ⟨hp, g, d, tk, os⟩ := s
    obtain ⟨hl, h⟩ := h
    have f1 := AutoSeq1.idx_int
    wp_walk using wpAny_loadPart' hl
    repeat (first
      | exact ⟨_, rfl, h⟩
      | (refine wpAny_ite_false (decide_eq_false (by rw [c0]; exact Bool.false_ne_true)) ?_; wp_walk using wpAny_loadPart' hl)
      | (refine wpAny_ite_false (decide_eq_false (by rw [c1]; exact Bool.false_ne_true)) ?_; wp_walk using wpAny_loadPart' hl)
      | (refine wpAny_ite_true (decide_eq_true c2) ?_; wp_walk using wpAny_loadPart' hl))
end
def rMulT (K : PySem.W.Frag) : R2 := fun x y H Q => ∃ l k xs, x = .ref l ∧ y = .int k ∧ SqT K H l xs ∧ -1000 ≤ k ∧ k ≤ 1000 ∧ xs.length ≤ 1000 ∧
  ((xs = [] ∨ k = 1) → Q (.ref l) H) ∧ (xs ≠ [] → k ≤ 0 → NewT [] H Q) ∧ (xs ≠ [] → 2 ≤ k → NewT (List.replicate k.toNat xs).flatten H Q)
section
variable {X : Cx}
theorem op_mulT : OpR X (binaryOp .Mult) (rMulT X.K) := by
  intro pins s σ H x y v u Q I rx ry h
  obtain ⟨l, k, xs, rfl, rfl, hT, h1, h2, hz, q1, q2, q3⟩ := h
  cases rx
  obtain ⟨t, rfl⟩ := ry
  obtain ⟨its, r, ⟨⟨cls, dd, data, sl⟩, ho, hc, n, hd⟩, hs⟩ := I.tuple hT
  simp only at hc hd
  subst hc hd
  have hle : its.length = xs.length := r.length.symm
  have c0 : (decide (k < -(2 ^ 63)) || decide (k ≥ 2 ^ 63)) = false := by
    rw [decide_eq_false (by omega), decide_eq_false (by omega)] <;> rfl
  by_cases hx : xs = []
  · have hi : its = [] := List.eq_nil_of_length_eq_zero (by rw [hle, hx]; rfl)
    subst hi
    exact wpAny_binaryOp_repeat_ref (T := "tuple") (U := "int") (by decide) ⟨_, ho, rfl⟩ (fun s' => typeIs_int s' k t) noFill_tuple_mul F.fills_int_mul F.slot_int_rmul repeat_tuple F.slot_int_index.lookup
      (call_meets F.slot_int_rmul (typeIs_int s k t) F.entry_int_rmul (F.args_int_rmul_2 _ _) (int_rmul_tuple k t l _ n dd sl)
        ⟨ho, rfl, ⟨_, ho, rfl⟩, call_meets F.slot_tuple_mul ⟨_, ho, rfl⟩ F.entry_tuple_mul (F.args_tuple_mul_2 _ _) (tuple_mulE l n dd sl k t c0) ⟨ho, .ref l, H, I, rfl, q1 (.inl hx)⟩⟩)
  by_cases hk : k = 1
  · subst hk
    exact wpAny_binaryOp_repeat_ref (T := "tuple") (U := "int") (by decide) ⟨_, ho, rfl⟩ (fun s' => typeIs_int s' 1 t) noFill_tuple_mul F.fills_int_mul F.slot_int_rmul repeat_tuple F.slot_int_index.lookup
      (call_meets F.slot_int_rmul (typeIs_int s 1 t) F.entry_int_rmul (F.args_int_rmul_2 _ _) (int_rmul_tuple 1 t l _ n dd sl)
        ⟨ho, rfl, ⟨_, ho, rfl⟩, call_meets F.slot_tuple_mul ⟨_, ho, rfl⟩ F.entry_tuple_mul (F.args_tuple_mul_2 _ _) (tuple_mul1 l _ n dd sl t) ⟨ho, .ref l, H, I, rfl, q1 (.inr rfl)⟩⟩)
  have hn : its ≠ [] := fun e => hx (by
    rw [e] at hle
    exact List.eq_nil_of_length_eq_zero hle.symm)
  have hi : its.toArray.isEmpty = false := by
    cases its with
    | nil => exact absurd rfl hn
    | cons a b => rfl
  have c1 : (its.toArray.isEmpty || k == 1) = false := by
    rw [hi, Bool.false_or]
    exact beq_eq_false_iff_ne.mpr (by omega)
  by_cases h0 : k ≤ 0
  · refine wpAny_binaryOp_repeat_ref (T := "tuple") (U := "int") (by decide) ⟨_, ho, rfl⟩ (fun s' => typeIs_int s' k t) noFill_tuple_mul F.fills_int_mul F.slot_int_rmul repeat_tuple F.slot_int_index.lookup
      (call_meets F.slot_int_rmul (typeIs_int s k t) F.entry_int_rmul (F.args_int_rmul_2 _ _) (int_rmul_tuple k t l its.toArray n dd sl)
        ⟨ho, rfl, ⟨_, ho, rfl⟩, call_meets F.slot_tuple_mul ⟨_, ho, rfl⟩ F.entry_tuple_mul (F.args_tuple_mul_2 _ _) (tuple_mul0 l its.toArray n dd sl k t c0 c1 (by rw [hi, Bool.or_false]; exact decide_eq_true h0)) ⟨ho, ?_⟩⟩)
    exact (q2 hx h0).put I (Nat.zero_le _) .nil
  · have hsz0 : its.toArray.size = xs.length := by rw [List.size_toArray, hle]
    have hm : ((its.toArray.size : Nat) : Int) * k ≤ 1000000 := by
      rw [hsz0]
      have a1 : ((xs.length : Nat) : Int) * k ≤ 1000 * k := Int.mul_le_mul_of_nonneg_right (by omega) (by omega)
      omega
    have flen : (List.replicate k.toNat its).flatten.length ≤ sizeLine := by
      rw [PyProof.Rows.lm_len_rep_flat, hle, sizeLine_eq]
      have a1 : k.toNat * xs.length ≤ 1000 * 1000 := Nat.mul_le_mul (by omega) hz
      omega
    have c2 : (decide (k ≤ 0) || its.toArray.isEmpty) = false := by
      rw [hi, Bool.or_false]
      exact decide_eq_false (by omega)
    have c4 : Builtin.Tuple.tupleTooMany (((its.toArray.size : Nat) : Int) * k) = false := by
      unfold Builtin.Tuple.tupleTooMany
      rw [sizeLine_eq]
      exact decide_eq_false (by omega)
    refine wpAny_binaryOp_repeat_ref (T := "tuple") (U := "int") (by decide) ⟨_, ho, rfl⟩ (fun s' => typeIs_int s' k t) noFill_tuple_mul F.fills_int_mul F.slot_int_rmul repeat_tuple F.slot_int_index.lookup
      (call_meets F.slot_int_rmul (typeIs_int s k t) F.entry_int_rmul (F.args_int_rmul_2 _ _) (int_rmul_tuple k t l its.toArray n dd sl)
        ⟨ho, rfl, ⟨_, ho, rfl⟩, call_meets F.slot_tuple_mul ⟨_, ho, rfl⟩ F.entry_tuple_mul (F.args_tuple_mul_2 _ _) (tuple_mulW l its.toArray n dd sl k t c0 c1 c2 (by omega) c4 (by rw [size_rep, List.size_toArray]; exact flen)) ⟨ho, ?_⟩⟩)
    rw [size_rep]
    exact (q3 hx (by omega)).put I (by rw [PyProof.Rows.lm_len_rep_flat, sizeLine_eq]; have a1 : k.toNat * xs.length ≤ 1000 * 1000 := Nat.mul_le_mul (by omega) hz; omega) (r.rep k.toNat)
end
/-- * of two numbers, of a list | a tuple and a number -/
def oMulT : Op2 := fun d e Q => match d, e with
  | .tup a, .int k => -1000 ≤ k ∧ k ≤ 1000 ∧ a.length ≤ 1000 ∧ Q (.pu (.tup (List.replicate k.toNat a).flatten))
  | d, e => oMul d e Q
theorem ok_mulT {X : Cx} : Op2Ok X (binaryOp .Mult) oMulT := by
  obtain ⟨r, h1, h2⟩ := ok_mul (X := X)
  refine ⟨_, OpR.or op_mulT h1, ?_⟩
  intro B F σ H S d e x y QQ Q hB R rd re h k
  unfold oMulT at h
  split at h
  · rename_i ds j
    obtain ⟨g1, g2, hz, q⟩ := h
    obtain ⟨a, vs, rfl, fa, ra⟩ := t_tup rd
    refine .inl ⟨a, j, vs, rfl, t_int re, hB ▸ fa.sq, g1, g2, by rw [ra.len]; exact hz, fun e1 => ?_, fun e1 e2 => ?_, fun e1 e2 => fin_tup R (ra.rep _) q k⟩
    · refine fin_any R rd ?_ k
      rcases e1 with e1 | e1
      · have := ra.nil_iff.mp e1
        subst this
        have e : (List.replicate j.toNat ([] : List D)).flatten = [] := by
          rw [List.flatten_eq_nil_iff]
          intro l hl
          exact (List.mem_replicate.mp hl).2
        rw [e] at q; exact q
      · subst e1
        have e : (List.replicate (1 : Int).toNat ds).flatten = ds := by simp
        rw [e] at q; exact q
    · have e0 : j.toNat = 0 := by omega
      rw [e0] at q
      exact fin_tup R RpAll.nil q k
  · exact .inr (h2 B F σ H S _ _ x y QQ Q hB R rd re h k)
theorem lMulT_ii {i j : Int} {Q : Rv → Prop} : oMulT (.int i) (.int j) Q = (mulOk i j ∧ Q (.pu (.int (i * j)))) := rfl
theorem lMulT_li {a : List D} {k : Int} {Q : Rv → Prop} : oMulT (.lst a) (.int k) Q = (k < 2 ^ 24 ∧ -(2 ^ 24) ≤ k ∧ a.length * k.toNat ≤ sizeLine ∧ Q (.ol (List.replicate k.toNat a).flatten)) := rfl
theorem lMulT_ti {a : List D} {k : Int} {Q : Rv → Prop} : oMulT (.tup a) (.int k) Q = (-1000 ≤ k ∧ k ≤ 1000 ∧ a.length ≤ 1000 ∧ Q (.pu (.tup (List.replicate k.toNat a).flatten))) := rfl
end DL
namespace DL
open PySem PySem.Spec PyProof.Rows L2
/-! ### texts as they are written -/
theorem ofs_inj (a b : String) : ((Str.ofString a) = Str.ofString b) = (a = b) := by
  apply propext
  constructor
  · intro h
    rw [Str.ofString_eq_toList, Str.ofString_eq_toList] at h
    have h1 : a.toList.map Char.toNat = b.toList.map Char.toNat := by simpa using congrArg (fun s : Str => s.cps.toList) h
    have h2 : a.toList = b.toList := by
      have inj : ∀ c d : Char, c.toNat = d.toNat → c = d := fun c d e => Char.ext (UInt32.toNat_inj.mp e)
      revert h1
      generalize a.toList = xs
      generalize b.toList = ys
      intro h1
      induction xs generalizing ys with
      | nil => cases ys with
        | nil => rfl
        | cons y ys => simp at h1
      | cons x xs ih => cases ys with
        | nil => simp at h1
        | cons y ys =>
          simp only [List.map_cons, List.cons.injEq] at h1
          rw [inj x y h1.1, ih ys h1.2]
    exact String.toList_inj.mp h2
  · intro h; rw [h]
theorem ofs_ok (a : String) : PyData.strOk (Str.ofString a) = true := by
  unfold PyData.strOk
  rw [Str.ofString_eq_toList, List.all_toArray, List.all_eq_true]
  intro n hn
  obtain ⟨c, _, rfl⟩ := List.mem_map.mp hn
  exact decide_eq_true (by
    have := c.valid
    rcases this with h | h
    · show c.val.toNat < _; omega
    · show c.val.toNat < _; omega)
end DL
namespace DL
open PySem PySem.Spec PyProof.Rows L2
theorem lIn_l {d : D} {es : List D} {Q : Rv → Prop} : oIn d (.lst es) Q = (okE d = true ∧ okE (.lst es) = true ∧ Q (.pu (.bl (inD d es)))) := rfl
theorem lIn_t {d : D} {es : List D} {Q : Rv → Prop} : oIn d (.tup es) Q = (flatD d = true ∧ es.all flatD = true ∧ Q (.pu (.bl (inD d es)))) := rfl
theorem lNotIn_l {d : D} {es : List D} {Q : Rv → Prop} : oNotIn d (.lst es) Q = (okE d = true ∧ okE (.lst es) = true ∧ Q (.pu (.bl (!inD d es)))) := rfl
theorem lNotIn_t {d : D} {es : List D} {Q : Rv → Prop} : oNotIn d (.tup es) Q = (flatD d = true ∧ es.all flatD = true ∧ Q (.pu (.bl (!inD d es)))) := rfl
theorem inD_nil {d : D} : inD d [] = false := rfl
theorem inD_cons {d e : D} {es : List D} : inD d (e :: es) = (eqD e d || inD d es) := rfl
theorem flat_int {i : Int} : flatD (.int i) = true := rfl
theorem flat_str {i : Str} : flatD (.str i) = true := rfl
theorem flat_bl {i : Bool} : flatD (.bl i) = true := rfl
theorem flat_non : flatD .non = true := rfl
end DL
namespace DL
open PySem PySem.Spec PyProof.Rows L2
/-! ### comprehensions over encoded items -/
theorem lc_mapA {α : Type} {g : DenG} {e : Den} {vs : List Nat} {Q : List D → Sg → Prop} {S : Sg} {xs : List α} (enc : α → D) (f : α → D) (fin : Q (xs.map f) S)
    (step : ∀ x ∈ xs, ∀ R : D → Sg → Prop, R (f x) S → g (.pu (enc x)) S fun S1 => e S1 fun r S3 => (match frc S3 r with
      | some (d, S4) => R d (wipeS S4 vs)
      | none => False)) : dLc.go g dYes e vs (xs.map enc) [] S Q := by
  have key : ∀ rest done, xs = done ++ rest → dLc.go g dYes e vs (rest.map enc) (done.map f) S Q := by
    intro rest
    induction rest with
    | nil => intro done h; rw [List.append_nil] at h; subst h; exact fin
    | cons x rest ih =>
      intro done h
      have hx : x ∈ xs := by rw [h]; simp
      have h1 := ih (done ++ [x]) (by rw [h]; simp)
      rw [List.map_append] at h1
      exact step x hx (fun d S' => dLc.go g dYes e vs (rest.map enc) (done.map f ++ [d]) S' Q) h1
  exact key xs [] rfl
theorem lc_filterA {α : Type} {g : DenG} {t : DenTs} {e : Den} {vs : List Nat} {Q : List D → Sg → Prop} {S : Sg} {xs : List α} (enc : α → D) (f : α → Option D) (fin : Q (xs.filterMap f) S)
    (step : ∀ x ∈ xs, ∀ R : Option D → Sg → Prop, R (f x) S → g (.pu (enc x)) S fun S1 => t S1 fun b S2 => if b = true then e S2 fun r S3 => (match frc S3 r with
      | some (d, S4) => R (some d) (wipeS S4 vs)
      | none => False)
      else R none (wipeS S2 vs)) : dLc.go g t e vs (xs.map enc) [] S Q := by
  have key : ∀ rest done, xs = done ++ rest → dLc.go g t e vs (rest.map enc) (done.filterMap f) S Q := by
    intro rest
    induction rest with
    | nil => intro done h; rw [List.append_nil] at h; subst h; exact fin
    | cons x rest ih =>
      intro done h
      have hx : x ∈ xs := by rw [h]; simp
      have h1 := ih (done ++ [x]) (by rw [h]; simp)
      refine step x hx (fun o S' => dLc.go g t e vs (rest.map enc) (match o with | some d => done.filterMap f ++ [d] | none => done.filterMap f) S' Q) ?_
      rw [List.filterMap_append] at h1
      cases q : f x with
      | none => simpa [q] using h1
      | some d => simpa [q] using h1
  exact key xs [] rfl
/-- a for over encoded items -/
theorem for_byA {α : Type} {g : DenG} {b : DenS} {E : DEnds} (enc : α → D) (I : List α → Sg → Prop) (fin : ∀ S, I [] S → E.nx S)
    (step : ∀ x xs S, I (x :: xs) S → ∀ N : Sg → Prop, (∀ S, I xs S → N S) → g (.pu (enc x)) S fun S1 => b { E with nx := N, ct := N, bk := E.nx } S1) :
    ∀ items S, I items S → dFor.go g b (items.map enc) E S
  | [], S, h => fin S h
  | x :: xs, S, h => step x xs S h (fun S2 => dFor.go g b (xs.map enc) E S2) fun S' h' => for_byA enc I fin step xs S' h'
theorem sz0 {n : Nat} (h : 1 ≤ n := by omega) : Sz n 0 := (show Sz 1 0 by constructor <;> decide).mono h
theorem sz1 {n : Nat} (h : 1 ≤ n := by omega) : Sz n 1 := (show Sz 1 1 by constructor <;> decide).mono h
theorem enumA {α : Type} (enc : α → D) (xs : List α) : enumD (xs.map enc) = xs.zipIdx.map fun p => D.tup [.int (p.2 : Nat), enc p.1] := by
  unfold enumD
  apply List.ext_getElem?
  intro i
  by_cases h : i < xs.length
  · simp [h]
  · rw [List.getElem?_eq_none (by simp; omega), List.getElem?_eq_none (by simp; omega)]
theorem zipA {α β : Type} (f : α → D) (g : β → D) (xs : List α) (ys : List β) : zipD (xs.map f) (ys.map g) = (xs.zip ys).map fun p => D.tup [f p.1, g p.2] := by
  unfold zipD
  rw [List.zip_map, List.map_map]
  rfl
end DL
namespace DL
open PySem PySem.Spec PyProof.Rows L2

/-! ### a, b, .. = x, y, ..: new lists and dicts stay the names' own -/
def RelOs (B : Bs) (P : List (Addr × HO)) (F : Addr → Prop) (σ : L2.St) (H : Hp) : List Rv → List V → List (Addr × HO) → Prop
  | [], vs, pn => vs = [] ∧ pn = []
  | .pu d :: rs, vs, pn => ∃ v us, vs = v :: us ∧ Rp B.K F H d v ∧ RelOs B P F σ H rs us pn
  | .al k :: rs, vs, pn => ∃ v us, vs = v :: us ∧ σ[k]? = some (some v) ∧ RelOs B P F σ H rs us pn
  | .ol ds :: rs, vs, pn => ∃ a us xs pn', vs = .ref a :: us ∧ pn = (a, .lst xs) :: pn' ∧ B.H0 a = none ∧ (∀ p ∈ P, p.1 ≠ a) ∧ (∀ p ∈ pn', p.1 ≠ a) ∧ RpAll B.K F H ds xs ∧ RelOs B P F σ H rs us pn'
  | .od kvs :: rs, vs, pn => ∃ a us xs pn', vs = .ref a :: us ∧ pn = (a, .dK ((kvs.map (·.1)).zip xs)) :: pn' ∧ B.H0 a = none ∧ (∀ p ∈ P, p.1 ≠ a) ∧ (∀ p ∈ pn', p.1 ≠ a) ∧ RpAll B.K F H (kvs.map (·.2)) xs ∧ RelOs B P F σ H rs us pn'
section
variable {B : Bs} {P P' : List (Addr × HO)} {F F' : Addr → Prop} {σ σ' : L2.St} {H H' : Hp} {S S' : Sg}
theorem RelOs.ext (e : Ext F H F' H') : ∀ {rs : List Rv} {vs : List V} {pn : List (Addr × HO)}, RelOs B P F σ H rs vs pn → RelOs B P F' σ H' rs vs pn
  | [], _, _, h => h
  | .pu d :: rs, vs, pn, h => by obtain ⟨v, us, e1, h1, h2⟩ := h; exact ⟨v, us, e1, Rp.ext e _ _ h1, RelOs.ext e h2⟩
  | .al k :: rs, vs, pn, h => by obtain ⟨v, us, e1, h1, h2⟩ := h; exact ⟨v, us, e1, h1, RelOs.ext e h2⟩
  | .ol ds :: rs, vs, pn, h => by obtain ⟨a, us, xs, pn', e1, e2, h1, h2, h3, h4, h5⟩ := h; exact ⟨a, us, xs, pn', e1, e2, h1, h2, h3, RpAll.ext e _ _ h4, RelOs.ext e h5⟩
  | .od ds :: rs, vs, pn, h => by obtain ⟨a, us, xs, pn', e1, e2, h1, h2, h3, h4, h5⟩ := h; exact ⟨a, us, xs, pn', e1, e2, h1, h2, h3, RpAll.ext e _ _ h4, RelOs.ext e h5⟩
theorem RelOs.weak (hP : ∀ p ∈ P', p ∈ P) : ∀ {rs : List Rv} {vs : List V} {pn : List (Addr × HO)}, RelOs B P F σ H rs vs pn → RelOs B P' F σ H rs vs pn
  | [], _, _, h => h
  | .pu d :: rs, vs, pn, h => by obtain ⟨v, us, e1, h1, h2⟩ := h; exact ⟨v, us, e1, h1, RelOs.weak hP h2⟩
  | .al k :: rs, vs, pn, h => by obtain ⟨v, us, e1, h1, h2⟩ := h; exact ⟨v, us, e1, h1, RelOs.weak hP h2⟩
  | .ol ds :: rs, vs, pn, h => by obtain ⟨a, us, xs, pn', e1, e2, h1, h2, h3, h4, h5⟩ := h; exact ⟨a, us, xs, pn', e1, e2, h1, fun p hp => h2 p (hP p hp), h3, h4, RelOs.weak hP h5⟩
  | .od ds :: rs, vs, pn, h => by obtain ⟨a, us, xs, pn', e1, e2, h1, h2, h3, h4, h5⟩ := h; exact ⟨a, us, xs, pn', e1, e2, h1, fun p hp => h2 p (hP p hp), h3, h4, RelOs.weak hP h5⟩
theorem RelOs.ne : ∀ {rs : List Rv} {vs : List V} {pn : List (Addr × HO)}, RelOs B P F σ H rs vs pn → ∀ p ∈ pn, ∀ q ∈ P, q.1 ≠ p.1
  | [], _, _, h, p, hp, q, hq => by obtain ⟨_, rfl⟩ := h; cases hp
  | .pu d :: rs, vs, pn, h, p, hp, q, hq => by obtain ⟨v, us, e1, h1, h2⟩ := h; exact RelOs.ne h2 p hp q hq
  | .al k :: rs, vs, pn, h, p, hp, q, hq => by obtain ⟨v, us, e1, h1, h2⟩ := h; exact RelOs.ne h2 p hp q hq
  | .ol ds :: rs, vs, pn, h, p, hp, q, hq => by
    obtain ⟨a, us, xs, pn', e1, e2, h1, h2, h3, h4, h5⟩ := h
    subst e2
    rcases List.mem_cons.mp hp with rfl | hp
    · exact h2 q hq
    · exact RelOs.ne h5 p hp q hq
  | .od ds :: rs, vs, pn, h, p, hp, q, hq => by
    obtain ⟨a, us, xs, pn', e1, e2, h1, h2, h3, h4, h5⟩ := h
    subst e2
    rcases List.mem_cons.mp hp with rfl | hp
    · exact h2 q hq
    · exact RelOs.ne h5 p hp q hq
theorem Rel.pnsSub {P1 P2 : List (Addr × HO)} (R : Rel (B.p P1) F σ H S) (h : ∀ p ∈ P2, p ∈ P1) : Rel (B.p P2) F σ H S :=
  ⟨R.len, R.sl, R.dist, R.keep, R.ios, R.frz, R.dom, R.iof, fun q hq => R.pns q (h q hq), R.tab, fun q hq => R.pnl q (h q hq)⟩
/-- names told of data first -/
def frcO (S : Sg) : List Rv → Option (List Rv × Sg)
  | [] => some ([], S)
  | .al k :: rs => match frc S (.al k) with
    | some (d, S1) => (match frcO S1 rs with
      | some (rs', S2) => some (.pu d :: rs', S2)
      | none => none)
    | none => none
  | r :: rs => match frcO S rs with
    | some (rs', S2) => some (r :: rs', S2)
    | none => none
def noAl : List Rv → Prop
  | [] => True
  | .al _ :: _ => False
  | _ :: rs => noAl rs
theorem frcO_ok : ∀ {rs rs' : List Rv} {vs : List V} {pn Q : List (Addr × HO)} {F : Addr → Prop} {S S' : Sg}, Rel (B.p Q) F σ H S → RelOs B P F σ H rs vs pn → frcO S rs = some (rs', S') → ∃ F', Ext F H F' H ∧ Rel (B.p Q) F' σ H S' ∧ RelOs B P F' σ H rs' vs pn ∧ noAl rs'
  | [], rs', vs, pn, Q, F, S, S', R, h, e => by cases e; exact ⟨F, Ext.refl, R, h, trivial⟩
  | .al k :: rs, rs', vs, pn, Q, F, S, S', R, h, e => by
    obtain ⟨v, us, e1, h1, h2⟩ := h
    unfold frcO at e
    cases q : frc S (.al k) with
    | none => rw [q] at e; cases e
    | some p =>
      obtain ⟨d, S1⟩ := p
      simp only [q] at e
      cases q2 : frcO S1 rs with
      | none => simp only [q2] at e; cases e
      | some p2 =>
        obtain ⟨rs2, S2⟩ := p2
        simp only [q2] at e
        cases e
        obtain ⟨F1, e3, R1, r1⟩ := RelRv.frc R (rv := .al k) (v := v) h1 q
        obtain ⟨F2, e4, R2, r2, n2⟩ := frcO_ok R1 (h2.ext e3) q2
        exact ⟨F2, e3.trans e4, R2, ⟨v, us, e1, Rp.ext e4 _ _ r1, r2⟩, n2⟩
  | .pu d :: rs, rs', vs, pn, Q, F, S, S', R, h, e => by
    obtain ⟨v, us, e1, h1, h2⟩ := h
    have e' : (match frcO S rs with
      | some (rs', S2) => some (.pu d :: rs', S2)
      | none => none) = some (rs', S') := e
    cases q2 : frcO S rs with
    | none => simp only [q2] at e'; cases e'
    | some p2 =>
      obtain ⟨rs2, S2⟩ := p2
      simp only [q2] at e'
      cases e'
      obtain ⟨F2, e4, R2, r2, n2⟩ := frcO_ok R h2 q2
      exact ⟨F2, e4, R2, ⟨v, us, e1, Rp.ext e4 _ _ h1, r2⟩, n2⟩
  | .ol ds :: rs, rs', vs, pn, Q, F, S, S', R, h, e => by
    obtain ⟨a, us, xs, pn', e1, e2, h1, h2, h3, h4, h5⟩ := h
    have e' : (match frcO S rs with
      | some (rs', S2) => some (.ol ds :: rs', S2)
      | none => none) = some (rs', S') := e
    cases q2 : frcO S rs with
    | none => simp only [q2] at e'; cases e'
    | some p2 =>
      obtain ⟨rs2, S2⟩ := p2
      simp only [q2] at e'
      cases e'
      obtain ⟨F2, e4, R2, r2, n2⟩ := frcO_ok R h5 q2
      exact ⟨F2, e4, R2, ⟨a, us, xs, pn', e1, e2, h1, h2, h3, RpAll.ext e4 _ _ h4, r2⟩, n2⟩
  | .od ds :: rs, rs', vs, pn, Q, F, S, S', R, h, e => by
    obtain ⟨a, us, xs, pn', e1, e2, h1, h2, h3, h4, h5⟩ := h
    have e' : (match frcO S rs with
      | some (rs', S2) => some (.od ds :: rs', S2)
      | none => none) = some (rs', S') := e
    cases q2 : frcO S rs with
    | none => simp only [q2] at e'; cases e'
    | some p2 =>
      obtain ⟨rs2, S2⟩ := p2
      simp only [q2] at e'
      cases e'
      obtain ⟨F2, e4, R2, r2, n2⟩ := frcO_ok R h5 q2
      exact ⟨F2, e4, R2, ⟨a, us, xs, pn', e1, e2, h1, h2, h3, RpAll.ext e4 _ _ h4, r2⟩, n2⟩
def slOf : Rv → Sl
  | .pu d => .pu d
  | .ol ds => .ol ds
  | .od kvs => .od kvs
  | .al _ => .no
def setsS : Sg → List Nat → List Rv → Sg
  | S, j :: js, r :: rs => setsS (S.set j (slOf r)) js rs
  | S, _, _ => S
def setsV : L2.St → List Nat → List V → L2.St
  | σ, j :: js, v :: vs => setsV (σ.set j (some v)) js vs
  | σ, _, _ => σ
/-- one new thing stored -/
theorem Rel.storeNew {P2 : List (Addr × HO)} {a : Addr} {o : HO} {i : Nat} {s : Sl} (R : Rel (B.p ((a, o) :: P2)) F σ H S) (h2 : ∀ p ∈ P2, p.1 ≠ a) (hc : RelC (B.p P2) F H s (.ref a)) : Rel (B.p P2) F (σ.set i (some (.ref a))) H (S.set i s) := by
  obtain ⟨g1, g2, g3, g4⟩ := R.pns (a, o) List.mem_cons_self
  refine (R.unpin).store hc (fun _ b eb => ?_) fun _ => ⟨a, rfl⟩
  cases eb
  exact ⟨h2, fun j _ hj => g4 j hj⟩
theorem storeO : ∀ {js : List Nat} {rs : List Rv} {vs : List V} {pn : List (Addr × HO)} {σ : L2.St} {S : Sg}, noAl rs → Rel (B.p (pn ++ P)) F σ H S → RelOs B P F σ' H rs vs pn → js.length = rs.length → Rel (B.p P) F (setsV σ js vs) H (setsS S js rs)
  | [], [], vs, pn, σ, S, _, R, h, _ => by
    obtain ⟨rfl, rfl⟩ := h
    exact R
  | j :: js, [], _, _, _, _, _, _, _, hl => by cases hl
  | [], _ :: _, _, _, _, _, _, _, _, hl => by cases hl
  | j :: js, .pu d :: rs, vs, pn, σ, S, hn, R, h, hl => by
    obtain ⟨v, us, rfl, h1, h2⟩ := h
    exact storeO (js := js) (rs := rs) hn (R.store (s := .pu d) (i := j) (v := v) h1 (fun z => by cases z) (fun z => by cases z)) h2 (by simpa using hl)
  | j :: js, .al k :: rs, vs, pn, σ, S, hn, R, h, hl => hn.elim
  | j :: js, .ol ds :: rs, vs, pn, σ, S, hn, R, h, hl => by
    obtain ⟨a, us, xs, pn', rfl, rfl, h1, h2, h3, h4, h5⟩ := h
    have hne : ∀ p ∈ pn' ++ P, p.1 ≠ a := fun p hp => (List.mem_append.mp hp).elim (h3 p) (h2 p)
    obtain ⟨g1, g2, g3, g4⟩ := R.pns (a, .lst xs) (by simp [Bs.p])
    refine storeO (js := js) (rs := rs) hn (Rel.storeNew (o := .lst xs) (s := .ol ds) R hne ?_) h5 (by simpa using hl)
    exact ⟨a, xs, rfl, g1, g2, h1, h4⟩
  | j :: js, .od kvs :: rs, vs, pn, σ, S, hn, R, h, hl => by
    obtain ⟨a, us, xs, pn', rfl, rfl, h1, h2, h3, h4, h5⟩ := h
    have hne : ∀ p ∈ pn' ++ P, p.1 ≠ a := fun p hp => (List.mem_append.mp hp).elim (h3 p) (h2 p)
    obtain ⟨g1, g2, g3, g4⟩ := R.pns (a, .dK ((kvs.map (fun q : Key × D => q.1)).zip xs)) (by simp [Bs.p])
    refine storeO (js := js) (rs := rs) hn (Rel.storeNew (s := .od kvs) R hne ?_) h5 (by simpa using hl)
    exact ⟨a, xs, rfl, g1, g2, h1, h4⟩
theorem RelOs.len : ∀ {rs : List Rv} {vs : List V} {pn : List (Addr × HO)}, RelOs B P F σ H rs vs pn → vs.length = rs.length
  | [], _, _, h => by obtain ⟨rfl, _⟩ := h; rfl
  | .pu d :: rs, vs, pn, h => by obtain ⟨v, us, rfl, h1, h2⟩ := h; simp [RelOs.len h2]
  | .al k :: rs, vs, pn, h => by obtain ⟨v, us, rfl, h1, h2⟩ := h; simp [RelOs.len h2]
  | .ol ds :: rs, vs, pn, h => by obtain ⟨a, us, xs, pn', rfl, e2, h1, h2, h3, h4, h5⟩ := h; simp [RelOs.len h5]
  | .od ds :: rs, vs, pn, h => by obtain ⟨a, us, xs, pn', rfl, e2, h1, h2, h3, h4, h5⟩ := h; simp [RelOs.len h5]
theorem frcO_len : ∀ {rs rs' : List Rv} {S S' : Sg}, frcO S rs = some (rs', S') → rs'.length = rs.length
  | [], rs', S, S', e => by cases e; rfl
  | .al k :: rs, rs', S, S', e => by
    unfold frcO at e
    cases q : frc S (.al k) with
    | none => rw [q] at e; cases e
    | some p =>
      simp only [q] at e
      cases q2 : frcO p.2 rs with
      | none => simp only [q2] at e; cases e
      | some p2 => simp only [q2] at e; cases e; simp [frcO_len q2]
  | .pu d :: rs, rs', S, S', e => by
    have e' : (match frcO S rs with
      | some (rs', S2) => some (.pu d :: rs', S2)
      | none => none) = some (rs', S') := e
    cases q2 : frcO S rs with
    | none => simp only [q2] at e'; cases e'
    | some p2 => simp only [q2] at e'; cases e'; simp [frcO_len q2]
  | .ol d :: rs, rs', S, S', e => by
    have e' : (match frcO S rs with
      | some (rs', S2) => some (.ol d :: rs', S2)
      | none => none) = some (rs', S') := e
    cases q2 : frcO S rs with
    | none => simp only [q2] at e'; cases e'
    | some p2 => simp only [q2] at e'; cases e'; simp [frcO_len q2]
  | .od d :: rs, rs', S, S', e => by
    have e' : (match frcO S rs with
      | some (rs', S2) => some (.od d :: rs', S2)
      | none => none) = some (rs', S') := e
    cases q2 : frcO S rs with
    | none => simp only [q2] at e'; cases e'
    | some p2 => simp only [q2] at e'; cases e'; simp [frcO_len q2]
end
def tDAo (B : Bs) (da : DenA) : TA := fun σ H Q => ∃ P F S QQ, Rel (B.p P) F σ H S ∧ da S QQ ∧ ∀ rvs S', QQ rvs S' → ∀ vs H' F' pn, Ext F H F' H' → Rel (B.p (pn ++ P)) F' σ H' S' → RelOs B P F' σ H' rvs vs pn → Q vs H'
def dConsO (d : Den) (r : DenA) : DenA := fun S Q => d S fun x S1 => r S1 fun xs S2 => Q (x :: xs) S2
section
variable {X : Cx} {B : Bs} {pos : Pos} {e : Expr} {es : List Expr} {da : DenA} {d : Den}
theorem da_nilO : PA X [] (tDAo B dNil) := by
  refine PA_imp pa_nil ?_
  rintro σ H Q ⟨P, F, S, QQ, R, q, k⟩
  exact k _ _ q [] H F [] Ext.refl R ⟨rfl, rfl⟩
theorem da_consO (h : PE X e (tD B d)) (hr : PA X es (tDAo B da)) (hs : starEach (e :: es) X.env = (false, eval e X.env) :: starEach es X.env := by rfl) : PA X (e :: es) (tDAo B (dConsO d da)) := by
  refine PA_imp (pa_cons h hr hs) ?_
  rintro σ H Q ⟨P, F, S, QQ, R, q, k⟩
  refine ⟨P, F, S, _, R, q, fun x S1 q1 v1 H1 F1 e1 R1 r1 => ?_⟩
  cases x with
  | pu d' => exact ⟨P, F1, S1, _, R1, q1, fun xs S2 q2 vs H2 F2 pn e2 R2 r2 => k _ _ q2 _ H2 F2 pn (e1.trans e2) R2 ⟨v1, vs, rfl, Rp.ext e2 _ _ r1, r2⟩⟩
  | al i => exact ⟨P, F1, S1, _, R1, q1, fun xs S2 q2 vs H2 F2 pn e2 R2 r2 => k _ _ q2 _ H2 F2 pn (e1.trans e2) R2 ⟨v1, vs, rfl, r1, r2⟩⟩
  | ol ds =>
    obtain ⟨a, us, rfl, g1, f, g2⟩ := r1
    refine ⟨(a, .lst us) :: P, F1, S1, _, Rel.pin R1 g1 f, q1, fun xs S2 q2 vs H2 F2 pn e2 R2 r2 => k _ _ q2 _ H2 F2 ((a, .lst us) :: pn) (e1.trans e2) (R2.pnsSub fun p hp => ?_) ⟨a, vs, us, pn, rfl, rfl, f.2.1, f.2.2.2.1, fun p hp => (r2.ne p hp (a, .lst us) (by simp)).symm, RpAll.ext e2 _ _ g2, r2.weak fun p hp => by simp [hp]⟩⟩
    simp only [List.cons_append, List.mem_cons, List.mem_append] at hp ⊢
    rcases hp with hp | hp | hp
    · exact .inr (.inl hp)
    · exact .inl hp
    · exact .inr (.inr hp)
  | od kvs =>
    obtain ⟨a, us, rfl, g1, f, g2⟩ := r1
    refine ⟨(a, .dK ((kvs.map (·.1)).zip us)) :: P, F1, S1, _, Rel.pin R1 g1 f, q1, fun xs S2 q2 vs H2 F2 pn e2 R2 r2 => k _ _ q2 _ H2 F2 ((a, .dK ((kvs.map (·.1)).zip us)) :: pn) (e1.trans e2) (R2.pnsSub fun p hp => ?_) ⟨a, vs, us, pn, rfl, rfl, f.2.1, f.2.2.2.1, fun p hp => (r2.ne p hp (a, .dK ((kvs.map (·.1)).zip us)) (by simp)).symm, RpAll.ext e2 _ _ g2, r2.weak fun p hp => by simp [hp]⟩⟩
    simp only [List.cons_append, List.mem_cons, List.mem_append] at hp ⊢
    rcases hp with hp | hp | hp
    · exact .inr (.inl hp)
    · exact .inl hp
    · exact .inr (.inr hp)
end
/-- the statement -/
def dParN (js : List Nat) (da : DenA) : DenS := fun D S => da S fun xs S1 => match frcO S1 xs with
  | some (ys, S2) => ys.length = js.length ∧ D.nx (setsS S2 js ys)
  | none => False
section
variable {X : Cx} {B : Bs} {pos : Pos} {da : DenA}
theorem parN_run {js : List Nat} : ∀ (E : Ends) (σ : L2.St) (H : Hp), tS B (dParN js da) E σ H → tDAo B da σ H fun vs H1 => vs.length = js.length ∧ E.nx (setsV σ js vs) H1 := by
  rintro E σ H ⟨P, F, S, DD, R, q, k⟩
  refine ⟨P, F, S, _, R, q, fun xs S1 q1 vs H1 F1 pn e1 R1 r1 => ?_⟩
  cases h1 : frcO S1 xs with
  | none => simp only [h1] at q1
  | some p =>
    obtain ⟨ys, S2⟩ := p
    simp only [h1] at q1
    obtain ⟨F2, e2, R2, r2, n2⟩ := frcO_ok R1 r1 h1
    refine ⟨by rw [r2.len, q1.1], k.nx _ q1.2 _ H1 F2 (e1.trans e2) (storeO n2 R2 r2 q1.1.symm)⟩
theorem ds_parN2 (i j : Nat) {x y : Str} {a b : Expr} {px py pt pt2 : Pos} {kt k2 : Nat} (hN : X.N.Nodup) (ha : PA X [a, b] (tDAo B da)) (hc : X.calm = true := by rfl) (hi : X.N[i]? = some x := by rfl) (hj : X.N[j]? = some y := by rfl) (hij : i ≠ j := by decide)
    (hx : X.env.scope.names.lookup x = some .local := by rfl) (hy : X.env.scope.names.lookup y = some .local := by rfl)
    (hw : swappedStores [.Tuple [.Name x px, .Name y py] kt pt] (.Tuple [a, b] k2 pt2) X.env = pure (some [x, y]) := by rfl)
    (hs : swapsWithSole [.Tuple [.Name x px, .Name y py] kt pt] (.Tuple [a, b] k2 pt2) pos.line X.env = pure false := by rfl) :
    PS X (.Assign [.Tuple [.Name x px, .Name y py] kt pt] (.Tuple [a, b] k2 pt2) pos) (tS B (dParN [i, j] da)) := by
  refine PS_imp (ps_par hc hN hi hj hij hx hy ha hw hs) fun E σ H h => ?_
  obtain ⟨P, F, S, QQ, R, q, k⟩ := parN_run E σ H h
  refine ⟨P, F, S, QQ, R, q, fun rvs S' q' vs H' F' pn e' R' r' => ?_⟩
  obtain ⟨hl, hn⟩ := k rvs S' q' vs H' F' pn e' R' r'
  match vs, hl, hn with
  | [v, w], _, hn => exact ⟨v, w, rfl, hn⟩
theorem ds_parN3 (i j l : Nat) {x y z : Str} {a b c : Expr} {px py pz pt pt2 : Pos} {kt k2 : Nat} (hN : X.N.Nodup) (ha : PA X [a, b, c] (tDAo B da)) (hc : X.calm = true := by rfl) (hi : X.N[i]? = some x := by rfl) (hj : X.N[j]? = some y := by rfl) (hl : X.N[l]? = some z := by rfl) (hij : i ≠ j := by decide) (hil : i ≠ l := by decide) (hjl : j ≠ l := by decide)
    (hx : X.env.scope.names.lookup x = some .local := by rfl) (hy : X.env.scope.names.lookup y = some .local := by rfl) (hz : X.env.scope.names.lookup z = some .local := by rfl)
    (hw : swappedStores [.Tuple [.Name x px, .Name y py, .Name z pz] kt pt] (.Tuple [a, b, c] k2 pt2) X.env = pure (some [x, y, z]) := by rfl)
    (hs : swapsWithSole [.Tuple [.Name x px, .Name y py, .Name z pz] kt pt] (.Tuple [a, b, c] k2 pt2) pos.line X.env = pure false := by rfl) :
    PS X (.Assign [.Tuple [.Name x px, .Name y py, .Name z pz] kt pt] (.Tuple [a, b, c] k2 pt2) pos) (tS B (dParN [i, j, l] da)) := by
  refine PS_imp (ps_par3 hc hN hi hj hl hij hil hjl hx hy hz ha hw hs) fun E σ H h => ?_
  obtain ⟨P, F, S, QQ, R, q, k⟩ := parN_run E σ H h
  refine ⟨P, F, S, QQ, R, q, fun rvs S' q' vs H' F' pn e' R' r' => ?_⟩
  obtain ⟨hl, hn⟩ := k rvs S' q' vs H' F' pn e' R' r'
  match vs, hl, hn with
  | [v, w, u], _, hn => exact ⟨v, w, u, rfl, hn⟩
/-- names, one behind the other -/
def gNames : List Nat → TGs
  | [] => gNil
  | j :: js => gCons (gName j) (gNames js)
theorem gNames_run {Q : L2.St → Hp → Prop} : ∀ {js : List Nat} {vs : List V} {σ : L2.St} {H : Hp}, vs.length = js.length → Q (setsV σ js vs) H → gNames js vs σ H Q
  | [], [], σ, H, _, q => ⟨rfl, q⟩
  | [], _ :: _, _, _, h, _ => by cases h
  | _ :: _, [], _, _, h, _ => by cases h
  | j :: js, v :: vs, σ, H, h, q => ⟨v, vs, rfl, gNames_run (js := js) (vs := vs) (by simpa using h) q⟩
/-- by a tuple -/
theorem ds_parT {ts es : List Expr} {js : List Nat} {kt k2 n : Nat} {pt pt2 : Pos} (hB : B.K = X.K) (hc : X.calm = true) (hg : PGs X ts (gNames js)) (ha : PA X es (tDAo B da)) (hn : n = js.length) (hz : n ≤ 1000)
    (hl : (assignEach ts X.env).length = n := by rfl) (hst : (assignEach ts X.env).findIdx? (·.1) = none := by rfl)
    (hs : swapsWithSole [.Tuple ts kt pt] (.Tuple es k2 pt2) pos.line X.env = pure false := by rfl) (hw : swappedStores [.Tuple ts kt pt] (.Tuple es k2 pt2) X.env = pure none := by rfl)
    (h1 : (assignEach [.Tuple ts kt pt] X.env).map (·.2) = [assign (.Tuple ts kt pt) X.env] := by rfl) : PS X (.Assign [.Tuple ts kt pt] (.Tuple es k2 pt2) pos) (tS B (dParN js da)) := by
  refine PS_imp (ps_asg (pe_tupS ha) (pg_tup hc hg hl hst) hs hw h1) fun E σ H h => ?_
  obtain ⟨P, F, S, DD, R, q, k⟩ := h
  refine ⟨P, F, S, _, R, q, fun xs S1 q1 vs H1 F1 pn e1 R1 r1 => ?_⟩
  cases h1 : frcO S1 xs with
  | none => simp only [h1] at q1
  | some p =>
    obtain ⟨ys, S2⟩ := p
    simp only [h1] at q1
    obtain ⟨F2, e2, R2, r2, n2⟩ := frcO_ok R1 r1 h1
    have hlen : vs.length = n := by rw [r2.len, q1.1, hn]
    refine ⟨by rw [hlen]; exact Nat.le_trans hz (by decide), fun p u hp hu => ?_⟩
    obtain ⟨e3, R3, f3, hs3⟩ := R2.alloc (o := u) hp
    obtain ⟨o, rfl, _⟩ := hu
    refine ⟨p, vs, rfl, .inl (.inr ⟨o, upd_same⟩), by rw [hlen], gNames_run (by rw [hlen, hn]) ?_⟩
    exact k.nx _ q1.2 _ _ F2 ((e1.trans e2).trans e3) (storeO n2 R3 (r2.ext e3) q1.1.symm)
end
theorem frcO_nil {S : Sg} : frcO S [] = some ([], S) := rfl
theorem frcO_pu {S : Sg} {d : D} {rs : List Rv} : frcO S (.pu d :: rs) = (match frcO S rs with | some (rs', S2) => some (.pu d :: rs', S2) | none => none) := rfl
theorem frcO_ol {S : Sg} {d : List D} {rs : List Rv} : frcO S (.ol d :: rs) = (match frcO S rs with | some (rs', S2) => some (.ol d :: rs', S2) | none => none) := rfl
theorem frcO_od {S : Sg} {d : List (Key × D)} {rs : List Rv} : frcO S (.od d :: rs) = (match frcO S rs with | some (rs', S2) => some (.od d :: rs', S2) | none => none) := rfl
theorem frcO_al {S : Sg} {k : Nat} {rs : List Rv} : frcO S (.al k :: rs) = (match frc S (.al k) with | some (d, S1) => (match frcO S1 rs with | some (rs', S2) => some (.pu d :: rs', S2) | none => none) | none => none) := rfl
theorem setsS_nil {S : Sg} {rs : List Rv} : setsS S [] rs = S := rfl
theorem setsS_cons {S : Sg} {j : Nat} {js : List Nat} {r : Rv} {rs : List Rv} : setsS S (j :: js) (r :: rs) = setsS (S.set j (slOf r)) js rs := rfl
theorem slOf_pu {d : D} : slOf (.pu d) = .pu d := rfl
theorem slOf_ol {d : List D} : slOf (.ol d) = .ol d := rfl
theorem slOf_od {d : List (Key × D)} : slOf (.od d) = .od d := rfl
end DL
namespace DL
open PySem PySem.Spec PyProof.Rows L2

/-! ### walks over a dict at a name: it is data from then on, and locked while it is walked -/
/-- two heaps that part at d alone, where both read the same dict -/
structure Lk (d : Addr) (kv : List (Key × V)) (H H2 : Hp) : Prop where
  off : ∀ b, b ≠ d → H2 b = H b
  r1 : Rd H d (.dK kv)
  r2 : Rd H2 d (.dK kv)
theorem rd_dk {H : Hp} {a : Addr} {x y : List (Key × V)} (h : Rd H a (.dK x)) (h' : Rd H a (.dK y)) : x = y := by
  rcases h with h | ⟨o, h⟩ <;> rcases h' with h' | ⟨o', h'⟩ <;> (rw [h] at h'; cases h') <;> rfl
section
variable {K : PySem.W.Frag} {F : Addr → Prop} {H H2 : Hp} {d : Addr} {kv : List (Key × V)}
theorem Lk.symm (l : Lk d kv H H2) : Lk d kv H2 H := ⟨fun b hb => (l.off b hb).symm, l.r2, l.r1⟩
theorem Lk.ne {a : Addr} {u : HO} (l : Lk d kv H H2) (h : H a = some u) (n1 : ∀ x, u ≠ .dK x) (n2 : ∀ o x, u ≠ .frz o (.dK x)) : H2 a = some u := by
  rw [l.off a, h]
  rintro rfl
  rcases l.r1 with z | ⟨o, z⟩
  · rw [h] at z; cases z; exact n1 _ rfl
  · rw [h] at z; cases z; exact n2 _ _ rfl
theorem Lk.fzT {a : Addr} {vs : List V} (l : Lk d kv H H2) (h : FzT K F H a vs) : FzT K F H2 a vs := by
  rcases h with ⟨f, u, g, t⟩ | h
  · refine .inl ⟨f, u, ?_, t⟩
    obtain ⟨o, rfl, t2⟩ := t
    exact l.ne g (fun x z => by cases z) (fun o x z => by cases z)
  · exact .inr h
theorem Lk.fzL {a : Addr} {vs : List V} (l : Lk d kv H H2) (h : FzL F H a vs) : FzL F H2 a vs := ⟨h.1, l.ne h.2 (fun x z => by cases z) (fun o x z => by cases z)⟩
theorem Lk.fzS {a : Addr} {vs : List V} (l : Lk d kv H H2) (h : FzS K F H a vs) : FzS K F H2 a vs := by
  rcases h with ⟨f, g⟩ | h
  · refine .inl ⟨f, ?_⟩
    rcases g with g | ⟨o, g⟩
    · exact .inl (l.ne g (fun x z => by cases z) (fun o x z => by cases z))
    · exact .inr ⟨o, l.ne g (fun x z => by cases z) (fun o x z => by cases z)⟩
  · exact .inr h
theorem Lk.rd {a : Addr} {x : List (Key × V)} (l : Lk d kv H H2) (h : Rd H a (.dK x)) : Rd H2 a (.dK x) := by
  by_cases e : a = d
  · subst e
    rw [rd_dk h l.r1]; exact l.r2
  · unfold Rd; rw [l.off a e]; exact h
mutual
theorem Lk.rp (l : Lk d kv H H2) : ∀ (dd : D) (v : V), Rp K F H dd v → Rp K F H2 dd v
  | .non, v, h => by unfold Rp at h ⊢; exact h
  | .bl b, v, h => by unfold Rp at h ⊢; exact h
  | .int i, v, h => by unfold Rp at h ⊢; exact h
  | .str x, v, h => by unfold Rp at h ⊢; exact h
  | .tup ds, v, h => by
    unfold Rp at h ⊢
    obtain ⟨a, vs, h1, h2, h3⟩ := h
    exact ⟨a, vs, h1, l.fzT h2, Lk.rpAll l ds vs h3⟩
  | .lst ds, v, h => by
    unfold Rp at h ⊢
    obtain ⟨a, vs, h1, h2, h3⟩ := h
    exact ⟨a, vs, h1, l.fzL h2, Lk.rpAll l ds vs h3⟩
  | .dct ks ds, v, h => by
    unfold Rp at h ⊢
    obtain ⟨a, vs, h1, h2, h3, h4, h5⟩ := h
    exact ⟨a, vs, h1, h2, l.rd h3, Lk.rpAll l ds vs h4, h5⟩
  | .scr ds, v, h => by
    unfold Rp at h ⊢
    obtain ⟨a, vs, h1, h2, h3⟩ := h
    exact ⟨a, vs, h1, l.fzS h2, Lk.rpAll l ds vs h3⟩
theorem Lk.rpAll (l : Lk d kv H H2) : ∀ (ds : List D) (vs : List V), RpAll K F H ds vs → RpAll K F H2 ds vs
  | [], vs, h => by unfold RpAll at h ⊢; exact h
  | e :: ds, vs, h => by
    unfold RpAll at h ⊢
    obtain ⟨v, r, h1, h2, h3⟩ := h
    exact ⟨v, r, h1, Lk.rp l e v h2, Lk.rpAll l ds r h3⟩
end
end
/-- what stood ahead of the def, but for d -/
def Bs.wo (B : Bs) (d : Addr) : Bs := { B with H0 := fun b => if b = d then none else B.H0 b }
section
variable {B : Bs} {F : Addr → Prop} {σ : L2.St} {H H2 : Hp} {S : Sg} {d : Addr} {kv : List (Key × V)}
theorem Bs.wo_ne {a : Addr} (h : a ≠ d) : (B.wo d).H0 a = B.H0 a := by show (if a = d then none else B.H0 a) = _; rw [if_neg h]
theorem Bs.wo_d : (B.wo d).H0 d = none := by show (if d = d then none else B.H0 d) = _; rw [if_pos rfl]
theorem Bs.wo_none {a : Addr} (h : B.H0 a = none) : (B.wo d).H0 a = none := by
  show (if a = d then none else B.H0 a) = none
  split
  · rfl
  · exact h
theorem Rel.nod (R : Rel B F σ H S) (hd : F d) {i : Nat} {s : Sl} {v : V} (hs : S[i]? = some s) (ho : s.own = true) (hv : σ[i]? = some (some v)) : v ≠ .ref d := by
  intro e
  subst e
  obtain ⟨a, o, e1, _, e2, _⟩ := R.ownA (i := i) (by unfold ownAt; rw [hs]; exact ho)
  rw [hv] at e1; cases e1
  exact e2 hd
/-- a slot's content over the other heap -/
theorem RelC.lk {s : Sl} {v : V} (h : RelC B F H s v) (l : Lk d kv H H2) (hd : F d) {B' : Bs} (hK : B'.K = B.K) (hio : B'.io = B.io) (h0 : ∀ a, a ≠ d → B.H0 a = none → B'.H0 a = none) : RelC B' F H2 s v := by
  have nd : ∀ {a : Addr}, ¬ F a → a ≠ d := fun h e => h (e ▸ hd)
  cases s with
  | no => trivial
  | ex a => exact h
  | pu dd => show Rp B'.K F H2 dd v; rw [hK]; exact l.rp dd v h
  | ol ds => obtain ⟨a, vs, rfl, h1, h2, h3, h4⟩ := h; exact ⟨a, vs, rfl, by rw [l.off a (nd h2)]; exact h1, h2, h0 a (nd h2) h3, by rw [hK]; exact l.rpAll _ _ h4⟩
  | od kvs => obtain ⟨a, vs, rfl, h1, h2, h3, h4⟩ := h; exact ⟨a, vs, rfl, by rw [l.off a (nd h2)]; exact h1, h2, h0 a (nd h2) h3, by rw [hK]; exact l.rpAll _ _ h4⟩
  | io k ds => obtain ⟨a, vs, rfl, hk, h1, h2, h4⟩ := h; exact ⟨a, vs, rfl, by rw [hio]; exact hk, by rw [l.off a (nd h2)]; exact h1, h2, by rw [hK]; exact l.rpAll _ _ h4⟩
theorem Lk.there (l : Lk d kv H H2) {a : Addr} (h : H a ≠ none) : H2 a ≠ none := by
  by_cases e : a = d
  · subst e
    rcases l.r2 with z | ⟨o, z⟩ <;> (rw [z]; exact fun q => nomatch q)
  · rw [l.off a e]; exact h
theorem Lk.tb (l : Lk d kv H H2) {b : Addr} {o : HO} (e : H b = some o) (n : ¬ LoD o) : H2 b = some o := by
  rw [l.off b fun z => ?_]
  · exact e
  · subst z
    rcases l.r1 with z | ⟨u, z⟩ <;> (rw [z] at e; cases e; exact n ⟨(fun _ z => nomatch z), (fun _ z => nomatch z)⟩)
/-- locked -/
theorem Rel.lock (R : Rel B F σ H S) (l : Lk d kv H H2) (hd : F d) : Rel (B.wo d) F σ H2 S := by
  refine ⟨R.len, fun i s hs => ?_, R.dist, fun b o h1 h2 => ?_, fun b hb => l.there (R.ios b hb), fun a ha => ?_, fun a ha => l.there (R.dom a ha), fun b hb => ?_, fun p hp => ?_, tab_keep R.tab fun b o e n => l.tb e n, R.pnl⟩
  · rcases R.sl i s hs with z | ⟨v, e1, r⟩
    · exact .inl z
    · exact .inr ⟨v, e1, r.lk l hd rfl rfl fun a _ h => Bs.wo_none h⟩
  · have hb : b ≠ d := fun e => by rw [e, Bs.wo_d] at h1; cases h1
    rw [Bs.wo_ne hb] at h1
    rw [l.off b hb]; exact R.keep b o h1 h2
  · rcases R.frz a ha with z | z
    · exact .inl z
    · exact .inr (Bs.wo_none z)
  · obtain ⟨h1, h2⟩ := R.iof b hb
    refine ⟨h1, ?_⟩
    have hb' : b ≠ d := fun e => by
      subst e
      exact (R.frz b hd).elim h1 fun z => h2 z
    rw [Bs.wo_ne hb']; exact h2
  · obtain ⟨h1, h2, h3, h4⟩ := R.pns p hp
    exact ⟨by rw [l.off p.1 fun e => h2 (e ▸ hd)]; exact h1, h2, h3, h4⟩
/-- let loose again -/
theorem Rel.unlock {F0 : Addr → Prop} {σ0 : L2.St} {S0 : Sg} {H0 : Hp} (R0 : Rel B F0 σ0 H0 S0) (R : Rel (B.wo d) F σ H S) (l : Lk d kv H H2) (hd : F d) (hd0 : F0 d) (h0 : H2 d = H0 d) : Rel B F σ H2 S := by
  have nod : ∀ b ∈ B.io, b ≠ d := fun b hb e => by
    subst e
    obtain ⟨h1, h2⟩ := R0.iof b hb
    exact (R0.frz b hd0).elim h1 fun z => h2 z
  refine ⟨R.len, fun i s hs => ?_, R.dist, fun b o h1 h2 => ?_, fun b hb => l.there (R.ios b hb), fun a ha => ?_, fun a ha => l.there (R.dom a ha), fun b hb => R0.iof b hb, fun p hp => ?_, tab_keep R.tab fun b o e n => l.tb e n, R.pnl⟩
  · rcases R.sl i s hs with z | ⟨v, e1, r⟩
    · exact .inl z
    · exact .inr ⟨v, e1, r.lk l hd (B' := B) rfl rfl fun a ha h => by rw [Bs.wo_ne ha] at h; exact h⟩
  · by_cases hb : b = d
    · subst hb
      rw [h0]; exact R0.keep b o h1 h2
    · rw [l.off b hb]; exact R.keep b o (by rw [Bs.wo_ne hb]; exact h1) h2
  · by_cases e : a = d
    · subst e; exact R0.frz a hd0
    · rcases R.frz a ha with z | z
      · exact .inl z
      · exact .inr (by rw [Bs.wo_ne e] at z; exact z)
  · obtain ⟨h1, h2, h3, h4⟩ := R.pns p hp
    exact ⟨by rw [l.off p.1 fun e => h2 (e ▸ hd)]; exact h1, h2, h3, h4⟩
theorem RelRv.unlock {rv : Rv} {v : V} (r : RelRv (B.wo d) F σ H S rv v) (l : Lk d kv H H2) (hd : F d) : RelRv B F σ H2 S rv v := by
  have nd : ∀ {a : Addr}, ¬ F a → a ≠ d := fun h e => h (e ▸ hd)
  cases rv with
  | pu dd => exact l.rp dd v r
  | al i => exact r
  | ol ds => obtain ⟨a, vs, rfl, h1, f, h2⟩ := r; exact ⟨a, vs, rfl, by rw [l.off a (nd f.1)]; exact h1, ⟨f.1, by have := f.2.1; rw [Bs.wo_ne (nd f.1)] at this; exact this, f.2.2⟩, l.rpAll _ _ h2⟩
  | od kvs => obtain ⟨a, vs, rfl, h1, f, h2⟩ := r; exact ⟨a, vs, rfl, by rw [l.off a (nd f.1)]; exact h1, ⟨f.1, by have := f.2.1; rw [Bs.wo_ne (nd f.1)] at this; exact this, f.2.2⟩, l.rpAll _ _ h2⟩
theorem Bs.wo_p (P : List (Addr × HO)) : (B.p P).wo d = (B.wo d).p P := rfl
end
/-- the dict at a name, told data; what it holds -/
def dctS (S : Sg) (i : Nat) : Option (List Key × List D × Sg) := match S[i]? with
  | some (.od kvs) => some (kvs.map (·.1), kvs.map (·.2), S.set i (.pu (.dct (kvs.map (·.1)) (kvs.map (·.2)))))
  | some (.pu (.dct ks ds)) => some (ks, ds, S)
  | _ => none
theorem dctS_ok {B : Bs} {F : Addr → Prop} {σ : L2.St} {H : Hp} {S S' : Sg} {i : Nat} {ks : List Key} {ds : List D} (R : Rel B F σ H S) (h : dctS S i = some (ks, ds, S')) :
    ∃ F' d vs, Ext F H F' H ∧ Rel B F' σ H S' ∧ σ[i]? = some (some (.ref d)) ∧ F' d ∧ Rd H d (.dK (ks.zip vs)) ∧ RpAll B.K F' H ds vs ∧ ks.length = ds.length := by
  unfold dctS at h
  cases q : S[i]? with
  | none => rw [q] at h; cases h
  | some s =>
    rw [q] at h
    rcases R.sl i s q with rfl | ⟨v, h1, h2⟩
    · cases h
    · cases s with
      | od kvs =>
        cases h
        obtain ⟨a, vs, rfl, g1, g2, g3, g4⟩ := h2
        have ex : Ext F H (Fz F a) H := ⟨fun _ h _ => .inl h, fun _ _ _ => rfl⟩
        have rp : Rp B.K (Fz F a) H (.dct (kvs.map (·.1)) (kvs.map (·.2))) (.ref a) := by
          unfold Rp; exact ⟨a, vs, rfl, .inr rfl, .inl g1, RpAll.ext ex _ _ g4, by simp⟩
        obtain ⟨e1, R1⟩ := R.freezeAt (i := i) (a := a) (by unfold ownAt; rw [q]; rfl) h1 g3 rp
        exact ⟨_, a, vs, e1, R1, h1, .inr rfl, .inl g1, RpAll.ext ex _ _ g4, by simp⟩
      | pu dd =>
        cases dd with
        | dct ks' ds' =>
          cases h
          have h2' : Rp B.K F H (.dct ks ds) v := h2
          unfold Rp at h2'
          obtain ⟨a, vs, rfl, g1, g2, g3, g4⟩ := h2'
          exact ⟨F, a, vs, Ext.refl, R, h1, g1, g2, g3, g4⟩
        | _ => cases h
      | _ => cases h
/-- a way to walk a dict: the iterator, what it gives -/
structure DWay (i : Nat) (iI : TI) (mk : Addr → Obj → List (Key × V) → It) (en : List Key → List D → List D) : Prop where
  run : ∀ σ H R d o kvs, σ[i]? = some (some (V.ref d)) → H d = some (.frz o (.dK kvs)) → R (mk d o kvs) H → iI σ H R
  ok : ∀ (K : PySem.W.Frag) F H d o ks vs ds, F d → H d = some (.frz o (.dK (ks.zip vs))) → RpAll K F H ds vs → ks.length = ds.length → IterOk K (mk d o (ks.zip vs)) (en ks ds) F H
def kD : Key → D
  | .inl i => .int i
  | .inr x => .str x
theorem kD_rp {K : PySem.W.Frag} {F : Addr → Prop} {H : Hp} (k : Key) : Rp K F H (kD k) (kV k) := by
  cases k <;> (unfold kD kV Rp; rfl)
theorem way_keys {i : Nat} : DWay i (iKeys (tVar i)) Itk (fun ks _ => ks.map kD) := by
  refine ⟨fun σ H R d o kvs h1 h2 h3 => ⟨.ref d, h1, d, o, rfl, .inl ⟨kvs, h2, h3⟩⟩, ?_⟩
  intro K F H d o ks vs ds hF hd ra hl F' H' e
  have hd' : H' d = some (.frz o (.dK (ks.zip vs))) := by rw [e.2 d hF (by rw [hd]; trivial)]; exact hd
  have l1 := ra.len
  have lz : (ks.zip vs).length = ks.length := by rw [List.length_zip]; omega
  refine ⟨fun j hj => ⟨hd', by rw [List.length_map] at hj; omega⟩, ⟨hd', by rw [List.length_map]; omega⟩, fun j x H'' hj hy => ?_⟩
  obtain ⟨rfl, k, v, g1, rfl⟩ := hy
  have hj' : j < ks.length := by simpa using hj
  have ek : ks[j]? = some k := by
    have := congrArg (Option.map Prod.fst) g1
    rw [← List.getElem?_map, List.map_fst_zip (by omega)] at this
    exact this
  exact ⟨kD k, by rw [List.getElem?_map, ek]; rfl, .inl ⟨rfl, kD_rp k⟩⟩
/-- a comprehension over the dict at the name i -/
def dLcK (i : Nat) (en : List Key → List D → List D) (g : DenG) (t : DenTs) (e : Den) (vs : List Nat) : Den := fun S Q => match dctS S i with
  | some (ks, ds, S') => dLc (fun S Q => Q (en ks ds) S) g t e vs S' Q
  | none => False
/-- a for over the dict at the name i -/
def dForK (i : Nat) (en : List Key → List D → List D) (g : DenG) (b : DenS) : DenS := fun E S => match dctS S i with
  | some (ks, ds, S') => dFor.go g b (en ks ds) E S'
  | none => False
section
variable {X : Cx} {B : Bs}
theorem ext_unlock {F F1 F' : Addr → Prop} {H H' : Hp} {d : Addr} {u : HO} {od : Obj} (e1 : Ext F H F1 H) (e' : Ext F1 (upd H d (.frz od u)) F' H') (hr : H d = some u) : Ext F H F' (upd H' d u) := by
  have nt : ∀ a, NT (H a) → NT (upd H d (.frz od u) a) := fun a n => by
    by_cases z : a = d
    · subst z; rw [upd_same]; trivial
    · rw [upd_ne z]; exact n
  refine ⟨fun a ha n => e'.1 a (e1.1 a ha n) (nt a n), fun a ha n => ?_⟩
  by_cases z : a = d
  · subst z; rw [upd_same, hr]
  · rw [upd_ne z, e'.2 a (e1.1 a ha n) (nt a n), upd_ne z]
theorem de_lcK {elt tg iter : Expr} {ifs : List Expr} {scope : Scope} (own : List (Str × Nat)) {pos : Pos} {i : Nat} {iI : TI} {mk : Addr → Obj → List (Key × V) → It} {en : List Key → List D → List D} {g : DenG} {t : DenTs} {e : Den} {ws : List Nat} (hB : B.K = X.K) (hc : X.calm = true) (hN : X.N.Nodup)
    (w : DWay i iI mk en) (hi : PI X tg iter iI) (ok : BlkOk X.N X.env.scope scope own) (hws : ∀ i ∈ ws, i ∈ own.map (·.2))
    (hg : ∀ B : Bs, B.K = X.K → ∀ (s : Shared) (H : Hp) (C : Addr) (cl : List (Str × Addr)) (fp : List Addr), PG (X.blk s H scope (compEnvC scope cl C X.env) fp) tg (tDG B ws g))
    (ht : ∀ B : Bs, B.K = X.K → ∀ (s : Shared) (H : Hp) (C : Addr) (cl : List (Str × Addr)) (fp : List Addr), PTs (X.blk s H scope (compEnvC scope cl C X.env) fp) ifs (tDT B t))
    (he : ∀ B : Bs, B.K = X.K → ∀ (s : Shared) (H : Hp) (C : Addr) (cl : List (Str × Addr)) (fp : List Addr), PE (X.blk s H scope (compEnvC scope cl C X.env) fp) elt (tD B e)) (hs : ∀ x, foldedSetIterable iter X.env x = pure x := by intro _; rfl) :
    PE X (.ListComp elt [⟨tg, iter, ifs, 0⟩] scope pos) (tD B (dLcK i en g t e (own.map (·.2)))) := by
  refine ⟨fun pins s σ H Q I h => ?_⟩
  obtain ⟨P, F, S, QQ, R, q, k⟩ := h
  have q' : (match dctS S i with
    | some (ks, ds, S') => dLc (fun S Q => Q (en ks ds) S) g t e (own.map (·.2)) S' QQ
    | none => False) := q
  cases hS : dctS S i with
  | none => rw [hS] at q'; exact q'.elim
  | some p =>
    obtain ⟨ks, ds, S1⟩ := p
    rw [hS] at q'
    obtain ⟨F1, d, vs, e1, R1, hd, hF, hr, ra, hl⟩ := dctS_ok R hS
    rcases hr with hr | ⟨o, hr⟩
    · -- locked for the while
      refine (pe_lock (pe_lc hc hN hi ok (hg (B.wo d) hB) (ht (B.wo d) hB) (he (B.wo d) hB) hs)).run pins s σ H Q I ⟨d, _, hr, trivial, fun od => ?_⟩
      have l : Lk d (ks.zip vs) H (upd H d (.frz od (.dK (ks.zip vs)))) := ⟨fun b hb => upd_ne hb, .inl hr, .inr ⟨od, upd_same⟩⟩
      have R2 : Rel ((B.wo d).p P) F1 σ (upd H d (.frz od (.dK (ks.zip vs)))) S1 := Rel.lock R1 l hF
      have J1 := w.ok (B.wo d).K F1 _ d od ks vs ds hF (upd_same (H := H) (a := d) (o := .frz od (.dK (ks.zip vs)))) (l.rpAll _ _ ra) hl
      refine w.run σ _ _ d od _ hd upd_same ?_
      refine lc_body (Q := fun v H' => H' d = some (.frz od (.dK (ks.zip vs))) ∧ Q v (upd H' d (.dK (ks.zip vs)))) hws R2 J1 q' fun rv S' qr v H' F' e' R' r' => ?_
      have hd' : H' d = some (.frz od (.dK (ks.zip vs))) := by rw [e'.2 d hF (by rw [upd_same]; trivial)]; exact upd_same
      have l2 : Lk d (ks.zip vs) H' (upd H' d (.dK (ks.zip vs))) := ⟨fun b hb => upd_ne hb, .inr ⟨od, hd'⟩, .inl upd_same⟩
      exact ⟨hd', k rv S' qr v _ F' (ext_unlock e1 e' hr) (Rel.unlock R1 R' l2 (e'.1 d hF (by rw [upd_same]; trivial)) hF (by rw [upd_same, hr])) (RelRv.unlock r' l2 (e'.1 d hF (by rw [upd_same]; trivial)))⟩
    · refine (pe_lc hc hN hi ok (hg B hB) (ht B hB) (he B hB) hs).run pins s σ H Q I ?_
      have J1 := w.ok B.K F1 _ d o ks vs ds hF hr ra hl
      refine w.run σ _ _ d o _ hd hr ?_
      exact lc_body (Q := Q) hws R1 J1 q' fun rv S' qr v H' F' e' R' r' => k rv S' qr v H' F' (e1.trans e') R' r'
theorem ds_forK {tg iter : Expr} {body : List Stmt} {pos : Pos} {i : Nat} {iI : TI} {mk : Addr → Obj → List (Key × V) → It} {en : List Key → List D → List D} {g : DenG} {b : DenS} {ws : List Nat} (hB : B.K = X.K) (hp : PassesOwn (model X.prog X.w) X.A X.env X.xe) (hc : X.calm = true)
    (w : DWay i iI mk en) (hi : PI X tg iter iI) (hg : ∀ B : Bs, B.K = X.K → PG X tg (tDG B ws g)) (hb : ∀ B : Bs, B.K = X.K → PSs X body (tS B b)) (hs : ∀ x, foldedSetIterable iter X.env x = pure x := by intro _; rfl) :
    PS X (.For tg iter body [] pos) (tS B (dForK i en g b)) := by
  refine ⟨fun pins s σ H E I h => ?_⟩
  obtain ⟨P, F, S, DD, R, q, k⟩ := h
  have q' : (match dctS S i with
    | some (ks, ds, S') => dFor.go g b (en ks ds) DD S'
    | none => False) := q
  cases hS : dctS S i with
  | none => rw [hS] at q'; exact q'.elim
  | some p =>
    obtain ⟨ks, ds, S1⟩ := p
    rw [hS] at q'
    obtain ⟨F1, d, vs, e1, R1, hd, hF, hr, ra, hl⟩ := dctS_ok R hS
    rcases hr with hr | ⟨o, hr⟩
    · refine (ps_lock (ps_for hp hc hi (hg (B.wo d) hB) (hb (B.wo d) hB) hs)).run pins s σ H E I ⟨d, _, hr, trivial, fun od => ?_⟩
      have l : Lk d (ks.zip vs) H (upd H d (.frz od (.dK (ks.zip vs)))) := ⟨fun b hb => upd_ne hb, .inl hr, .inr ⟨od, upd_same⟩⟩
      have R2 : Rel ((B.wo d).p P) F1 σ (upd H d (.frz od (.dK (ks.zip vs)))) S1 := Rel.lock R1 l hF
      have J1 := w.ok (B.wo d).K F1 _ d od ks vs ds hF (upd_same (H := H) (a := d) (o := .frz od (.dK (ks.zip vs)))) (l.rpAll _ _ ra) hl
      have fin : ∀ {H' : Hp} {F' : Addr → Prop}, Ext F1 (upd H d (.frz od (.dK (ks.zip vs)))) F' H' → H' d = some (.frz od (.dK (ks.zip vs))) ∧ Lk d (ks.zip vs) H' (upd H' d (.dK (ks.zip vs))) := fun {H' F'} e' => by
        have hd' : H' d = some (.frz od (.dK (ks.zip vs))) := by rw [e'.2 d hF (by rw [upd_same]; trivial)]; exact upd_same
        exact ⟨hd', fun b hb => upd_ne hb, .inr ⟨od, hd'⟩, .inl upd_same⟩
      refine w.run σ _ _ d od _ hd upd_same ?_
      refine for_body (B := B.wo d) R2 J1 q' ⟨fun S' q' σ' H' F' e' R' => ?_, fun S' q' σ' H' F' e' R' => ?_, fun S' q' σ' H' F' e' R' => ?_, fun rv S' q' v σ' H' F' e' R' r' => ?_⟩
      · obtain ⟨hd', l2⟩ := fin e'
        exact ⟨hd', k.nx S' q' σ' _ F' (ext_unlock e1 e' hr) (Rel.unlock R1 R' l2 (e'.1 d hF (by rw [upd_same]; trivial)) hF (by rw [upd_same, hr]))⟩
      · obtain ⟨hd', l2⟩ := fin e'
        exact ⟨hd', k.bk S' q' σ' _ F' (ext_unlock e1 e' hr) (Rel.unlock R1 R' l2 (e'.1 d hF (by rw [upd_same]; trivial)) hF (by rw [upd_same, hr]))⟩
      · obtain ⟨hd', l2⟩ := fin e'
        exact ⟨hd', k.ct S' q' σ' _ F' (ext_unlock e1 e' hr) (Rel.unlock R1 R' l2 (e'.1 d hF (by rw [upd_same]; trivial)) hF (by rw [upd_same, hr]))⟩
      · obtain ⟨hd', l2⟩ := fin e'
        refine ⟨hd', k.rt rv S' q' v σ' _ F' (ext_unlock e1 e' hr) (Rel.unlock R1 R' l2 (e'.1 d hF (by rw [upd_same]; trivial)) hF (by rw [upd_same, hr])) ?_⟩
        have nd : ∀ {a : Addr}, ¬ F' a → a ≠ d := fun h z => h (z ▸ e'.1 d hF (by rw [upd_same]; trivial))
        cases rv with
        | pu dd => exact l2.rp dd v r'
        | al i => exact r'
        | ol ds => obtain ⟨a, vs, rfl, h1, h2, h3, h4⟩ := r'; exact ⟨a, vs, rfl, by rw [l2.off a (nd h2)]; exact h1, h2, by have h3' : (B.wo d).H0 a = none := h3; rw [Bs.wo_ne (nd h2)] at h3'; exact h3', l2.rpAll _ _ h4⟩
        | od kvs => obtain ⟨a, vs, rfl, h1, h2, h3, h4⟩ := r'; exact ⟨a, vs, rfl, by rw [l2.off a (nd h2)]; exact h1, h2, by have h3' : (B.wo d).H0 a = none := h3; rw [Bs.wo_ne (nd h2)] at h3'; exact h3', l2.rpAll _ _ h4⟩
    · refine (ps_for hp hc hi (hg B hB) (hb B hB) hs).run pins s σ H E I ?_
      have J1 := w.ok B.K F1 _ d o ks vs ds hF hr ra hl
      refine w.run σ _ _ d o _ hd hr ?_
      exact for_body (B := B) R1 J1 q' ⟨fun S' q' σ' H' F' e' R' => k.nx S' q' σ' H' F' (e1.trans e') R', fun S' q' σ' H' F' e' R' => k.bk S' q' σ' H' F' (e1.trans e') R', fun S' q' σ' H' F' e' R' => k.ct S' q' σ' H' F' (e1.trans e') R', fun rv S' q' v σ' H' F' e' R' r' => k.rt rv S' q' v σ' H' F' (e1.trans e') R' r'⟩
end
end DL
namespace DL
open PySem PySem.Spec PyProof.Rows L2

/-! ### d.update(e) -/
def rDUpd : V → List V → Hp → VK → Prop := fun x xs H Q => ∃ d o kvs more, x = .ref d ∧ xs = [.ref o] ∧ d ≠ o ∧ H d = some (.dK kvs) ∧ Rd H o (.dK more) ∧ kvs.length + more.length ≤ sizeLine ∧ Q .non (upd H d (.dK (mergeK kvs more)))
section
variable {X : Cx}
theorem mt_dupdate : MtR X "dict.update" rDUpd := by
  intro pins s σ H x vs v us Q I rx rv h
  obtain ⟨d, o, kvs, more, rfl, rfl, hne, hd, ho, hz, q⟩ := h
  cases rx
  obtain ⟨u, rfl, ru⟩ := rv.one
  cases ru
  obtain ⟨z, hsd, ks, rel, dd⟩ := dk_of I.hok hd
  obtain ⟨z2, hso, ks2, rel2, dd2⟩ := dk_rd I.hok ho
  have hz' : ks.length + ks2.length ≤ sizeLine := by rw [← rel.length, ← rel2.length]; exact hz
  refine call_meetsIn F.slot_dict_update dd.typeIs F.entry_dict_update (F.args_dict_update_2 _ _) (PySem.meets_dict_update (mixKind X.prog X.w) d o hne hso) ⟨ks, ks2, dd, dd2, hz', fun h' dd' _ hs => ?_⟩
  have hl : (mergeK kvs more).length ≤ sizeLine := Nat.le_trans (length_mergeK more kvs) (by omega)
  have he : ∃ q, h'.get? d = some q := let ⟨q, _, _, hq, _⟩ := dd'; ⟨q, hq⟩
  exact ⟨.non, _, d_write I (by rw [hd]; exact True.intro) hs he (dk_new hl hsd (KV.merge rel2 rel) dd'), rfl, q⟩
end
/-- d.update(e): d an own dict at a name -/
def dUpdate (dx da : Den) : Den := fun S Q => dx S fun x S1 => match x with
  | .al i => (dctAt S1 i).isSome = true ∧ da S1 fun y S2 => (match frc S2 y with
    | some (.dct ks es, S3) => (match dctAt S3 i with
      | some kvs => ks.length = es.length ∧ kvs.length + ks.length ≤ sizeLine ∧ Q (.pu .non) (S3.set i (.od (mergeG kvs (ks.zip es))))
      | none => False)
    | _ => False)
  | _ => False
section
variable {X : Cx} {B : Bs} {o e : Expr} {apos cpos : Pos} {dx da : Den}
theorem dctAt_nf {F : Addr → Prop} {σ : L2.St} {H : Hp} {S : Sg} (R : Rel B F σ H S) {i : Nat} {kvs : List (Key × D)} {a : Addr} (e : dctAt S i = some kvs) (hv : σ[i]? = some (some (.ref a))) : ¬ F a := by
  have : ownAt S i = true := by
    unfold dctAt at e
    unfold ownAt
    split at e
    · rename_i q; rw [q]; rfl
    · cases e
  obtain ⟨a', _, e1, _, e2, _⟩ := R.ownA this
  rw [hv] at e1; cases e1
  exact e2
theorem de_dupdate (hB : B.K = X.K) (hx : PE X o (tD B dx)) (ha : PE X e (tD B da))
    (hbase : attributeBase o "update" X.env (eval o X.env) = eval o X.env := by rfl)
    (hfew : ((backTo cpos (starEach [e] X.env)).all (fun x => !x.1) && (backToKw cpos (keywordEach [] X.env)).all (fun x => x.1.isSome)
      && decide (([e] : List Expr).length + ([] : List Keyword).length + (if ([] : List Keyword).isEmpty then 0 else 1) < 30)) = true := by rfl)
    (hline : (apos.endLine == cpos.line) = true := by rfl) (hs : starEach [e] X.env = (false, eval e X.env) :: starEach [] X.env := by rfl) (hplain : (backTo cpos (starEach [] X.env)).any (·.1) = false := by rfl) :
    PE X (.Call (.Attribute o "update" apos) [e] [] cpos) (tD B (dUpdate dx da)) := by
  refine PE_imp (pe_bm PySem.F.plainAttrs_dict PySem.F.slot_dict_update PySem.F.type_dict_update mt_dupdate hx (pa_cons ha pa_nil hs) hbase hfew hline hs hplain) ?_
  rintro σ H Q ⟨P, F, S, QQ, R, q, k⟩
  refine ⟨P, F, S, _, R, q, fun x S1 q1 v1 H1 F1 e1 R1 r1 => ?_⟩
  cases x with
  | al i =>
    have r1' : σ[i]? = some (some v1) := r1
    obtain ⟨l1, q1⟩ := q1
    obtain ⟨kv0, hk0⟩ := Option.isSome_iff_exists.mp l1
    obtain ⟨a0, vs0, rfl, g0, _⟩ := dctAt_rel R1 hk0 r1'
    refine ⟨.inr (.inr (.inl ⟨rfl, .inl ⟨_, g0⟩⟩)), P, F1, S1, _, R1, q1, fun y S2 q2 u H2 F2 e2 R2 r2 => ?_⟩
    cases h1 : frc S2 y with
    | none => simp only [h1] at q2
    | some p =>
      obtain ⟨d, S3⟩ := p
      obtain ⟨F3, e3, R3, r3⟩ := RelRv.frc R2 r2 h1
      cases d with
      | dct ks es =>
        simp only [h1] at q2
        cases h2 : dctAt S3 i with
        | none => simp only [h2] at q2
        | some kvs =>
          simp only [h2] at q2
          obtain ⟨hle, hz, q3⟩ := q2
          obtain ⟨a, vs, ea, w1, w2, w3⟩ := dctAt_rel R3 h2 r1'
          have nf := dctAt_nf R3 h2 (ea ▸ r1')
          unfold Rp at r3
          obtain ⟨b, us, rfl, hb, rdb, rb, hl⟩ := r3
          have em1 : (ks.zip es).map (·.1) = ks := List.map_fst_zip (by omega)
          have em2 : (ks.zip es).map (·.2) = es := List.map_snd_zip (by omega)
          obtain ⟨ws, z1, z2⟩ := merge_rp (ks.zip es) us kvs vs (by rw [em2]; exact rb) w2
          rw [em1] at z1
          obtain ⟨e5, R5⟩ := w3 _ _ z2
          refine ⟨a, b, _, _, ea, rfl, fun z => nf (z ▸ hb), w1, rdb, ?_, ?_⟩
          · rw [List.length_zip, List.length_zip, w2.len, List.length_map, List.length_map, rb.len]; omega
          · rw [z1]
            exact k _ _ q3 _ _ F3 ((e1.trans e2).trans (e3.trans e5)) R5 rr_non
      | _ => simp only [h1] at q2
  | _ => exact q1.elim
end

/-! ### dict comprehensions -/
def dDc (di : DenI) (g : DenG) (t : DenTs) (ek ev : Den) (vs : List Nat) : Den := fun S Q => di S fun items S1 => items.length ≤ sizeLine ∧ go vs items [] (wipeS S1 vs) fun acc S2 => Q (.od acc) (unwipe S1 S2 vs)
where go (vs : List Nat) : List D → List (Key × D) → Sg → (List (Key × D) → Sg → Prop) → Prop
  | [], acc, S, Q => Q acc S
  | x :: xs, acc, S, Q => g (.pu x) S fun S1 => t S1 fun b S2 => if b = true then ek S2 fun r S3 => (match r with
      | .pu d => (match keyD d with
        | some k => ev S3 fun r S4 => (match frc S4 r with
          | some (d, S5) => go vs xs (putG acc k d) (wipeS S5 vs) Q
          | none => False)
        | none => False)
      | _ => False)
    else go vs xs acc (wipeS S2 vs) Q
theorem putG_len {α : Type} (kvs : List (Key × α)) (k : Key) (v : α) : (putG kvs k v).length ≤ kvs.length + 1 := by
  unfold putG
  split
  · rw [List.length_map]; omega
  · rw [List.length_append, List.length_singleton]; exact Nat.le_refl _
section
variable {B : Bs}
theorem dc_run {di : DenI} {g : DenG} {t : DenTs} {ek ev : Den} {vs ws : List Nat} (hws : ∀ i ∈ ws, i ∈ vs) :
    ∀ σ H Q, tD B (dDc di g t ek ev vs) σ H Q → tDc (tDI B di) (tDG B ws g) (tDT B t) (tD B ek) (tD B ev) vs σ H Q := by
  rintro σ H Q ⟨P, F, S, QQ, R, q, k⟩
  refine ⟨P, F, S, _, R, q, fun items S1 q1 J H1 F1 e1 R1 J1 D hD => ?_⟩
  obtain ⟨hlen, q1⟩ := q1
  obtain ⟨a1, a2, a3, _⟩ := R1.alloc (o := .dK []) hD
  have a4 := Rel.pin (B := B) (P := P) (p := D) (o := .dK []) (a2.wiped vs) upd_same ⟨a3.1, a3.2.1, a3.2.2.1, a3.2.2.2.1, fun j hj z => by
    obtain ⟨hv, ho⟩ := ownAt_wipe hj
    rw [wipe_ne hv] at z
    exact a3.2.2.2.2 j ho z⟩
  have h0 : B.H0 D = none := a3.2.1
  have hP : ∀ q ∈ P, q.1 ≠ D := a3.2.2.2.1
  let W : Nat → Hp → Prop := fun i H' => ∃ F' S' acc accv, acc.length ≤ i ∧ Ext F1 (upd H1 D (.dK [])) F' H' ∧ Rel (B.p ((D, .dK ((acc.map (·.1)).zip accv)) :: P)) F' (wipe σ vs) H' (wipeS S' vs) ∧ RpAll B.K F' H' (acc.map (·.2)) accv ∧
    dDc.go g t ek ev vs (items.drop i) acc (wipeS S' vs) fun acc S2 => QQ (.od acc) (unwipe S1 S2 vs)
  refine ⟨fun i m H' => m = items.length - i ∧ i ≤ items.length ∧ W i H', ⟨items.length, by simp, Nat.zero_le _, F1, S1, [], [], Nat.zero_le _, Ext.refl, a4, RpAll.nil, q1⟩, ?_⟩
  rintro i m H2 ⟨rfl, hi, F2, S2, acc, accv, hacc, e2, R2, ra, q2⟩
  obtain ⟨g1, g2, g3⟩ := J1 F2 H2 (a1.trans e2)
  have accD : H2 D = some (.dK ((acc.map (·.1)).zip accv)) := (R2.pns (D, .dK ((acc.map (·.1)).zip accv)) List.mem_cons_self).1
  by_cases hlt : i < items.length
  · refine .inr ⟨g1 i hlt, W (i + 1), fun H' w => ⟨items.length - (i + 1), by omega, rfl, hlt, w⟩, fun x H3 hy => ?_⟩
    obtain ⟨d, hd, hx⟩ := g3 i x H3 hlt hy
    have hdrop : items.drop i = d :: items.drop (i + 1) := by
      rw [List.drop_eq_getElem_cons hlt]
      rw [List.getElem?_eq_getElem hlt] at hd
      rw [Option.some.inj hd]
    rw [hdrop] at q2
    have fin : ∀ {F3 : Addr → Prop}, Ext F2 H2 F3 H3 → Rel (B.p ((D, .dK ((acc.map (·.1)).zip accv)) :: P)) F3 (wipe σ vs) H3 (wipeS S2 vs) → Rp B.K F3 H3 d x → tDG B ws g x (wipe σ vs) H3 fun σ2 H2 => wipe σ2 vs = wipe σ vs ∧ tDT B t σ2 H2 fun b H3 =>
        if b = true then tD B ek σ2 H3 fun y H4 => tD B ev σ2 H4 fun z H5 => ∃ kvs k, y = kV k ∧ H5 D = some (.dK kvs) ∧ kvs.length < sizeLine ∧ W (i + 1) (upd H5 D (.dK (putK kvs k z))) else W (i + 1) H3 := by
      intro F3 e3 R3 r3
      refine ⟨_, F3, wipeS S2 vs, .pu d, _, R3, r3, q2, fun S4 q4 σ4 H4 F4 e4 R4 w4 => ?_⟩
      have hsig : wipe σ4 vs = wipe σ vs := by
        rw [← wipe_wipe (σ := σ) (ws := vs)]
        exact wipe_same w4.1 fun j hj => w4.2 j fun z => hj (hws j z)
      refine ⟨hsig, _, F4, S4, _, R4, q4, fun b S5 q5 H5 F5 e5 R5 => ?_⟩
      have E5 : Ext F1 (upd H1 D (.dK [])) F5 H5 := e2.trans (e3.trans (e4.trans e5))
      have ra5 := RpAll.ext (e3.trans (e4.trans e5)) _ _ ra
      have q5' : if b = true then ek S5 fun r S3 => (match r with
          | .pu d => (match keyD d with
            | some k => ev S3 fun r S4 => (match frc S4 r with
              | some (d, S5) => dDc.go g t ek ev vs (items.drop (i + 1)) (putG acc k d) (wipeS S5 vs) fun acc S2 => QQ (.od acc) (unwipe S1 S2 vs)
              | none => False)
            | none => False)
          | _ => False)
        else dDc.go g t ek ev vs (items.drop (i + 1)) acc (wipeS S5 vs) fun acc S2 => QQ (.od acc) (unwipe S1 S2 vs) := q5
      dsimp only
      cases b with
      | true =>
        rw [if_pos rfl] at q5' ⊢
        refine ⟨_, F5, S5, _, R5, q5', fun r S6 q6 y H6 F6 e6 R6 r6 => ?_⟩
        cases r with
        | pu dk =>
          cases hk : keyD dk with
          | none => simp only [hk] at q6
          | some key =>
            simp only [hk] at q6
            have ek' : y = kV key := key_rel (Rp.t r6) hk
            refine ⟨_, F6, S6, _, R6, q6, fun rv7 S7 q7 z H7 F7 e7 R7 r7 => ?_⟩
            cases h1 : frc S7 rv7 with
            | none => simp only [h1] at q7
            | some p =>
              obtain ⟨dd, S8⟩ := p
              simp only [h1] at q7
              obtain ⟨F8, e8, R8, r8⟩ := RelRv.frc R7 r7 h1
              have pinD := R8.pns (D, .dK ((acc.map (·.1)).zip accv)) List.mem_cons_self
              have ra8 := RpAll.ext ((e6.trans e7).trans e8) _ _ ra5
              obtain ⟨vs', z1, z2⟩ := put_rp key ra8 r8
              have R9 := R8.wiped vs
              rw [hsig] at R9
              obtain ⟨e9, R10⟩ := R9.repin (o' := .dK (((putG acc key dd).map (·.1)).zip vs')) h0 hP
              have l1 := ra.len
              rw [List.length_map] at l1
              refine ⟨_, key, ek', pinD.1, ?_, ?_⟩
              · rw [List.length_zip, List.length_map]; omega
              · rw [z1]
                refine ⟨F8, S8, putG acc key dd, vs', ?_, (E5.trans ((e6.trans e7).trans e8)).trans e9, R10, RpAll.ext e9 _ _ z2, q7⟩
                have := putG_len acc key dd
                omega
        | _ => exact q6.elim
      | false =>
        rw [if_neg Bool.false_ne_true] at q5' ⊢
        have R8 := R5.wiped vs
        rw [hsig] at R8
        exact ⟨F5, S5, acc, accv, by omega, E5, R8, ra5, q5'⟩
    rcases hx with ⟨rfl, rx⟩ | ⟨T, ut, us, ds, rfl, hT, rfl, hut, rfl, rx⟩
    · exact fin Ext.refl R2 rx
    · obtain ⟨e3, R3⟩ := R2.allocF (o := ut) hT
      refine fin e3 R3 ?_
      unfold Rp
      exact ⟨T, us, rfl, .inl ⟨.inr rfl, ut, upd_same, hut⟩, RpAll.ext e3 _ _ rx⟩
  · have ei : i = items.length := by omega
    subst ei
    rw [List.drop_length] at q2
    refine .inl ⟨g2, ?_⟩
    have pinD := R2.pns (D, .dK ((acc.map (·.1)).zip accv)) List.mem_cons_self
    refine k _ _ q2 _ H2 F2 (e1.trans (a1.trans e2)) (Rel.unwiped R1 (a1.trans e2) R2.unpin) ⟨D, accv, rfl, accD, ⟨pinD.2.1, h0, pinD.2.2.1, hP, fun j hj z => ?_⟩, ra⟩
    have hj' := ownAt_unwipe hj
    have := pinD.2.2.2 j hj'
    rw [wipe_ne (ownAt_wipe hj').1] at this
    exact this z
end
section
variable {X : Cx} {B : Bs}
theorem de_dc {kx vx tg iter : Expr} {ifs : List Expr} {scope : Scope} (own : List (Str × Nat)) {pos : Pos} {di : DenI} {g : DenG} {t : DenTs} {ek ev : Den} {ws : List Nat} (hc : X.calm = true) (hN : X.N.Nodup) (hi : PI X tg iter (tDI B di)) (ok : BlkOk X.N X.env.scope scope own)
    (hws : ∀ i ∈ ws, i ∈ own.map (·.2))
    (hg : ∀ (s : Shared) (H : Hp) (C : Addr) (cl : List (Str × Addr)) (fp : List Addr), PG (X.blk s H scope (compEnvC scope cl C X.env) fp) tg (tDG B ws g)) (ht : ∀ (s : Shared) (H : Hp) (C : Addr) (cl : List (Str × Addr)) (fp : List Addr), PTs (X.blk s H scope (compEnvC scope cl C X.env) fp) ifs (tDT B t))
    (hk : ∀ (s : Shared) (H : Hp) (C : Addr) (cl : List (Str × Addr)) (fp : List Addr), PE (X.blk s H scope (compEnvC scope cl C X.env) fp) kx (tD B ek))
    (he : ∀ (s : Shared) (H : Hp) (C : Addr) (cl : List (Str × Addr)) (fp : List Addr), PE (X.blk s H scope (compEnvC scope cl C X.env) fp) vx (tD B ev)) (hs : ∀ x, foldedSetIterable iter X.env x = pure x := by intro _; rfl) :
    PE X (.DictComp kx vx [⟨tg, iter, ifs, 0⟩] scope pos) (tD B (dDc di g t ek ev (own.map (·.2)))) :=
  PE_imp (pe_dc hc hN hi ok hg ht hk he hs) (dc_run hws)
end
end DL
namespace DL
open PySem PySem.Spec PyProof.Rows L2
/-! ### list(range), tuple(range) as values -/
theorem rp_rints {K : PySem.W.Frag} {F : Addr → Prop} {H : Hp} : ∀ is : List Int, RpAll K F H (is.map D.int) (is.map V.int)
  | [] => RpAll.nil
  | i :: is => RpAll.cons rp_int (rp_rints is)
theorem rgV_ints (a b : Int) : rgV a b = ((List.range (b - a).toNat).map fun i => a + ((i : Nat) : Int)).map V.int := by unfold rgV; rw [List.map_map]; rfl
theorem rangeD_ints (a b : Int) : rangeD a (b - a).toNat = ((List.range (b - a).toNat).map fun i => a + ((i : Nat) : Int)).map D.int := by unfold rangeD; rw [List.map_map]; rfl
theorem rp_range {K : PySem.W.Frag} {F : Addr → Prop} {H : Hp} (a b : Int) : RpAll K F H (rangeD a (b - a).toNat) (rgV a b) := by
  rw [rgV_ints, rangeD_ints]; exact rp_rints _
def lstR (mk : List D → Rv) (a b : Int) (Q : Rv → Prop) : Prop := RgOk a b ∧ Q (mk (rangeD a (b - a).toNat))
def dRg1 (mk : List D → Rv) (d : Den) : Den := fun S Q => d S fun x S1 => match x with
  | .pu (.int n) => lstR mk 0 n fun r => Q r S1
  | _ => False
def dRg2 (mk : List D → Rv) (d e : Den) : Den := fun S Q => d S fun x S1 => e S1 fun y S2 => match x, y with
  | .pu (.int a), .pu (.int b) => lstR mk a b fun r => Q r S2
  | _, _ => False
section
variable {X : Cx} {B : Bs} {a b : Expr} {d d2 : Den} {p p2 q pos : Pos} {te : L2.St → Hp → (Int → Int → Hp → Prop) → Prop} {e : Expr}
def tTupRgS (te : L2.St → Hp → (Int → Int → Hp → Prop) → Prop) : TE := fun σ H Q => te σ H fun a b H1 => RgOk a b ∧ NewT (rgV a b) H1 Q
theorem pe_tupRgS (hc : X.calm = true) (hg : Gl X "tuple") (hm : X.mg "tuple" = none) (he : PRg X e te) (na : starEach [e] X.env = (false, eval e X.env) :: starEach [] X.env := by rfl) : PE X (.Call (.Name "tuple" p) [e] [] pos) (tTupRgS te) := by
  refine ⟨fun pins s σ H Q I h => ?_⟩
  refine Call_ (ld_blt I hg hm boot_tuple (PyProof.Rows.callWith_type1 (args_cons (thn (he pins s σ H _ I h) fun x s1 ⟨r, a, b, t, u, v, H1, ex, hr, I1, ok, q⟩ => args_nil ?_) na) na))
  subst ex
  obtain ⟨b1, b2, b3, b4, b5⟩ := ok
  refine call_tuple_range (n := (b - a).toNat) (I1.ok.hd hc) hr (small_one b1 b2 b3 b4) (rangeSize_nat a b) b5 fun h' tk acc hk hi => ?_
  have I2 : Inv X pins σ H1 { s1 with heap := h', toks := tk } := I1.kept hk
  have q' := q.put I2 (by rw [rgV_length, sizeLine_eq]; omega) (vals_rg hi)
  rw [Array.toArray_toList] at q'
  exact q'
theorem tRg1_of : ∀ (QQ : Rv → Sg → Prop) (mk : List D → Rv) (σ : L2.St) (H : Hp) (P : List (Addr × HO)) (F : Addr → Prop) (S : Sg) (T : Int → Int → Hp → Prop), Rel (B.p P) F σ H S → dRg1 mk d S QQ →
    (∀ a b S1 H1 F1, Ext F H F1 H1 → Rel (B.p P) F1 σ H1 S1 → lstR mk a b (fun r => QQ r S1) → T a b H1) → tRg1 (tD B d) σ H T := by
  intro QQ mk σ H P F S T R q k
  refine ⟨P, F, S, _, R, q, fun x S1 q1 v1 H1 F1 e1 R1 r1 => ?_⟩
  cases x with
  | pu y =>
    cases y with
    | int n =>
      have r1' : Rp B.K F1 H1 (.int n) v1 := r1
      unfold Rp at r1'
      exact ⟨n, r1', k _ _ _ _ _ e1 R1 q1⟩
    | _ => exact q1.elim
  | _ => exact q1.elim
theorem tRg2_of : ∀ (QQ : Rv → Sg → Prop) (mk : List D → Rv) (σ : L2.St) (H : Hp) (P : List (Addr × HO)) (F : Addr → Prop) (S : Sg) (T : Int → Int → Hp → Prop), Rel (B.p P) F σ H S → dRg2 mk d d2 S QQ →
    (∀ a b S1 H1 F1, Ext F H F1 H1 → Rel (B.p P) F1 σ H1 S1 → lstR mk a b (fun r => QQ r S1) → T a b H1) → tRg2 (tD B d) (tD B d2) σ H T := by
  intro QQ mk σ H P F S T R q k
  refine ⟨P, F, S, _, R, q, fun x S1 q1 v1 H1 F1 e1 R1 r1 => ?_⟩
  refine ⟨P, F1, S1, _, R1, q1, fun y S2 q2 v2 H2 F2 e2 R2 r2 => ?_⟩
  cases x with
  | pu x =>
    cases y with
    | pu y =>
      cases x with
      | int i =>
        cases y with
        | int j =>
          have r1' : Rp B.K F1 H1 (.int i) v1 := r1
          have r2' : Rp B.K F2 H2 (.int j) v2 := r2
          unfold Rp at r1' r2'
          exact ⟨i, j, r1', r2', k _ _ _ _ _ (e1.trans e2) R2 q2⟩
        | _ => exact q2.elim
      | _ => exact q2.elim
    | _ => cases x with
      | int i => exact q2.elim
      | _ => exact q2.elim
  | _ => exact q2.elim
theorem lstRg_of (hc : X.calm = true) (hg : Gl X "list") (hm : X.mg "list" = none) {dd : Den} (hp : PRg X e te)
    (ho : ∀ (QQ : Rv → Sg → Prop) (σ : L2.St) (H : Hp) (P : List (Addr × HO)) (F : Addr → Prop) (S : Sg) (T : Int → Int → Hp → Prop), Rel (B.p P) F σ H S → dd S QQ →
      (∀ a b S1 H1 F1, Ext F H F1 H1 → Rel (B.p P) F1 σ H1 S1 → lstR .ol a b (fun r => QQ r S1) → T a b H1) → te σ H T)
    (na : starEach [e] X.env = (false, eval e X.env) :: starEach [] X.env := by rfl) : PE X (.Call (.Name "list" p) [e] [] pos) (tD B dd) := by
  refine PE_imp (pe_listRg hc hg hm hp na) ?_
  rintro σ H Q ⟨P, F, S, QQ, R, q, k⟩
  refine ho QQ σ H P F S _ R q fun a b S1 H1 F1 e1 R1 q1 => ⟨q1.1, ?_⟩
  exact fin_lst (QQ := fun r => QQ r S1) R1 (rp_range a b) q1.2 fun rv qr v H' F' e' R' r' => k _ _ qr v H' F' (e1.trans e') R' r'
theorem tupRg_of (hc : X.calm = true) (hg : Gl X "tuple") (hm : X.mg "tuple" = none) {dd : Den} (hp : PRg X e te)
    (ho : ∀ (QQ : Rv → Sg → Prop) (σ : L2.St) (H : Hp) (P : List (Addr × HO)) (F : Addr → Prop) (S : Sg) (T : Int → Int → Hp → Prop), Rel (B.p P) F σ H S → dd S QQ →
      (∀ a b S1 H1 F1, Ext F H F1 H1 → Rel (B.p P) F1 σ H1 S1 → lstR (fun ds => .pu (.tup ds)) a b (fun r => QQ r S1) → T a b H1) → te σ H T)
    (na : starEach [e] X.env = (false, eval e X.env) :: starEach [] X.env := by rfl) : PE X (.Call (.Name "tuple" p) [e] [] pos) (tD B dd) := by
  refine PE_imp (pe_tupRgS hc hg hm hp na) ?_
  rintro σ H Q ⟨P, F, S, QQ, R, q, k⟩
  refine ho QQ σ H P F S _ R q fun a b S1 H1 F1 e1 R1 q1 => ⟨q1.1, ?_⟩
  exact fin_tup (QQ := fun r => QQ r S1) R1 (rp_range a b) q1.2 fun rv qr v H' F' e' R' r' => k _ _ qr v H' F' (e1.trans e') R' r'
abbrev mkT : List D → Rv := fun ds => .pu (.tup ds)
theorem de_lstR1 (hc : X.calm = true) (hg : Gl X "list") (hm : X.mg "list" = none) (hg2 : Gl X "range") (hm2 : X.mg "range" = none) (ha : PE X a (tD B d))
    (na : starEach [a] X.env = (false, eval a X.env) :: starEach [] X.env := by rfl) (ne : starEach [Expr.Call (.Name "range" p2) [a] [] q] X.env = (false, eval (Expr.Call (.Name "range" p2) [a] [] q) X.env) :: starEach [] X.env := by rfl) :
    PE X (.Call (.Name "list" p) [.Call (.Name "range" p2) [a] [] q] [] pos) (tD B (dRg1 .ol d)) :=
  lstRg_of hc hg hm (prg_1 hg2 hm2 ha na) (fun QQ => tRg1_of QQ .ol) ne
theorem de_tupR1 (hc : X.calm = true) (hg : Gl X "tuple") (hm : X.mg "tuple" = none) (hg2 : Gl X "range") (hm2 : X.mg "range" = none) (ha : PE X a (tD B d))
    (na : starEach [a] X.env = (false, eval a X.env) :: starEach [] X.env := by rfl) (ne : starEach [Expr.Call (.Name "range" p2) [a] [] q] X.env = (false, eval (Expr.Call (.Name "range" p2) [a] [] q) X.env) :: starEach [] X.env := by rfl) :
    PE X (.Call (.Name "tuple" p) [.Call (.Name "range" p2) [a] [] q] [] pos) (tD B (dRg1 mkT d)) :=
  tupRg_of hc hg hm (prg_1 hg2 hm2 ha na) (fun QQ => tRg1_of QQ mkT) ne
theorem de_lstR2 (hc : X.calm = true) (hg : Gl X "list") (hm : X.mg "list" = none) (hg2 : Gl X "range") (hm2 : X.mg "range" = none) (ha : PE X a (tD B d)) (hb : PE X b (tD B d2))
    (na : starEach [a, b] X.env = (false, eval a X.env) :: starEach [b] X.env := by rfl) (nb : starEach [b] X.env = (false, eval b X.env) :: starEach [] X.env := by rfl) (hp : (backTo q (starEach [b] X.env)).any (·.1) = false := by rfl) (ne : starEach [Expr.Call (.Name "range" p2) [a, b] [] q] X.env = (false, eval (Expr.Call (.Name "range" p2) [a, b] [] q) X.env) :: starEach [] X.env := by rfl) :
    PE X (.Call (.Name "list" p) [.Call (.Name "range" p2) [a, b] [] q] [] pos) (tD B (dRg2 .ol d d2)) :=
  lstRg_of hc hg hm (prg_2 hg2 hm2 ha hb na nb hp) (fun QQ => tRg2_of QQ .ol) ne
theorem de_tupR2 (hc : X.calm = true) (hg : Gl X "tuple") (hm : X.mg "tuple" = none) (hg2 : Gl X "range") (hm2 : X.mg "range" = none) (ha : PE X a (tD B d)) (hb : PE X b (tD B d2))
    (na : starEach [a, b] X.env = (false, eval a X.env) :: starEach [b] X.env := by rfl) (nb : starEach [b] X.env = (false, eval b X.env) :: starEach [] X.env := by rfl) (hp : (backTo q (starEach [b] X.env)).any (·.1) = false := by rfl) (ne : starEach [Expr.Call (.Name "range" p2) [a, b] [] q] X.env = (false, eval (Expr.Call (.Name "range" p2) [a, b] [] q) X.env) :: starEach [] X.env := by rfl) :
    PE X (.Call (.Name "tuple" p) [.Call (.Name "range" p2) [a, b] [] q] [] pos) (tD B (dRg2 mkT d d2)) :=
  tupRg_of hc hg hm (prg_2 hg2 hm2 ha hb na nb hp) (fun QQ => tRg2_of QQ mkT) ne
end
end DL
namespace DL
open PySem PySem.Spec PyProof.Rows L2
/-! ### l.count(x), l.index(x) over data -/
section
variable {X : Cx}
def rCountD (K : PySem.W.Frag) : V → List V → Hp → VK → Prop := fun x xs H Q => ∃ (a : Addr) (y : V) (d : PyData) (ds : List PyData), x = V.ref a ∧ xs = [y] ∧ Dp K H (V.ref a) (.list ds) ∧ Dp K H y d ∧
  SeqAt.shaped (.list ds) = true ∧ SeqAt.shaped d = true ∧ Q (.int ((ds.countP fun z => PyData.eqv z d : Nat) : Int)) H
theorem mt_countD (hu : X.A.units + 65 < cLine) : MtR X "list.count" (rCountD X.K) := by
  intro pins s σ H x xs v us Q I rx rxs h
  obtain ⟨a, y, d, ds, rfl, rfl, hl, hy, sl, sd, q⟩ := h
  cases rx
  cases rxs with
  | cons ry rt =>
    rename_i uy ut
    cases rt
    obtain ⟨bs, r1⟩ := Dp.reads I d y uy hy ry
    have hxs : PyData.canLayAll0 ds = true := SeqAt.canLay_of_shaped sl
    have hroom : X.A.units + 1 + min (PyData.depthAll ds) d.depth < cLine := room_in_shaped sd hu
    cases hl with
    | lst hs ha =>
      obtain ⟨its, rv, ⟨⟨cls, dd, data, sls⟩, n, ho, hc, hdn, hdt⟩, hlen⟩ := I.list hs
      simp only at hc hdt
      subst hc hdt
      obtain ⟨as, h4⟩ := Dp.readsAll I ds _ its ha rv
      have hmap : its.map (SeqAt.readOf s.heap) = ds := SeqAt.readsAll_map ds its as hxs h4
      refine call_meets PySem.F.slot_list_count ⟨_, ho, rfl⟩ PySem.F.entry_list_count (PySem.F.args_list_count_2 _ _)
        (SeqAt.list_countAt a its.toArray n dd sls uy (fun u => PyData.eqv (SeqAt.readOf s.heap u) d)) ⟨ho, SeqAt.items_eqAt (vs := its.toArray) (show ReadsAll s.heap its.toArray.toList ds as from h4) r1 hxs (SeqAt.canLay_of_shaped sd) hroom, ?_⟩
      have e : its.toArray.toList.countP (fun u => PyData.eqv (SeqAt.readOf s.heap u) d) = ds.countP fun z => PyData.eqv z d := by
        rw [← hmap, List.countP_map]; rfl
      refine ⟨.int ((ds.countP fun z => PyData.eqv z d : Nat) : Int), H, I.tok _, ⟨s.toks, ?_⟩, q⟩
      show Value.int ((its.toArray.toList.countP _ : Nat) : Int) s.toks = Value.int _ s.toks
      rw [e]
end
/-! methods of a list that only look -/
def isL : D → Bool
  | .lst _ => true
  | .scr _ => true
  | _ => false
def rdIs (p : D → Bool) : Option D → Bool
  | some d => p d
  | none => false
def dMeth (p : D → Bool) (o : Op2) (da db : Den) : Den := fun S Q => da S fun x S1 => rdIs p (rd S1 x) = true ∧ db S1 fun y S2 => match rd S2 (hold x), rd S2 y with
  | some d, some e => o d e fun r => Q r S2
  | _, _ => False
def MethOk (X : Cx) (r : V → List V → Hp → VK → Prop) (o : Op2) : Prop := ∀ (B : Bs) (F : Addr → Prop) (σ : L2.St) (H : Hp) (S : Sg) (d e : D) (x y : V) (QQ : Rv → Prop) (Q : VK), B.K = X.K → Rel B F σ H S → RpT B.K F H d x → RpT B.K F H e y → o d e QQ →
  (∀ rv, QQ rv → ∀ v H' F', Ext F H F' H' → Rel B F' σ H' S → RelRv B F' σ H' S rv v → Q v H') → r x [y] H Q
section
variable {X : Cx} {B : Bs} {o e : Expr} {apos cpos : Pos} {dx da : Den}
theorem tyL {F : Addr → Prop} {σ : L2.St} {H : Hp} {S : Sg} {rv : Rv} {v : V} (hB : B.K = X.K) (R : Rel B F σ H S) (r : RelRv B F σ H S rv v) (h : rdIs isL (rd S rv) = true) : tyV X.K "list" v H := by
  cases e : rd S rv with
  | none => rw [e] at h; cases h
  | some d =>
    rw [e] at h
    have t := RelRv.t R r e
    cases d with
    | lst ds => obtain ⟨a, us, rfl, fa, ra⟩ := t; exact .inl ⟨rfl, us, .inl (.inl fa)⟩
    | scr ds => obtain ⟨a, us, rfl, fa, ra⟩ := t_scr t; exact .inl ⟨rfl, us, hB ▸ fa.sq⟩
    | _ => cases h
theorem methL_run {r : V → List V → Hp → VK → Prop} {o : Op2} (hB : B.K = X.K) (ho : MethOk X r o) : ∀ σ H Q, tD B (dMeth isL o dx da) σ H Q → tBM X.K "list" r (tD B dx) (tCons (tD B da) tNil) σ H Q := by
  rintro σ H Q ⟨P, F, S, QQ, R, q, k⟩
  refine ⟨P, F, S, _, R, q, fun x S1 q1 v1 H1 F1 e1 R1 r1 => ?_⟩
  obtain ⟨t1, q1⟩ := q1
  refine ⟨tyL (B := B.p P) hB R1 r1 t1, ?_⟩
  obtain ⟨F1', e1', R1', r1'⟩ := hold_ok R1 r1
  refine ⟨P, F1', S1, _, R1', q1, fun y S2 q2 v2 H2 F2 e2 R2 r2 => ?_⟩
  have q2' : (match rd S2 (hold x), rd S2 y with
    | some d, some e => o d e fun r => QQ r S2
    | _, _ => False) := q2
  cases h1 : rd S2 (hold x) with
  | none => rw [h1] at q2'; exact q2'.elim
  | some d =>
    cases h2 : rd S2 y with
    | none => rw [h1, h2] at q2'; exact q2'.elim
    | some e =>
      rw [h1, h2] at q2'
      refine ho (B.p P) F2 σ H2 S2 d e v1 v2 _ Q hB R2 (RelRv.t R2 (RelH.rv (r1'.ext e2)) h1) (RelRv.t R2 r2 h2) q2' fun rv qr v H' F' e' R' r' => ?_
      exact k _ _ qr v H' F' ((e1.trans e1').trans (e2.trans e')) R' r'
end
def oCount : Op2 := fun d e Q => match d with
  | .lst ds => okE d = true ∧ okE e = true ∧ Q (.pu (.int ((ds.countP fun z => eqD z e : Nat) : Int)))
  | _ => False
def oIndex : Op2 := fun d e Q => match d with
  | .lst ds => okE d = true ∧ okE e = true ∧ ∃ j, (∃ z, ds[j]? = some z ∧ eqD z e = true) ∧ (∀ m z, m < j → ds[m]? = some z → eqD z e = false) ∧ Q (.pu (.int (j : Nat)))
  | _ => False
theorem pyAll_map : ∀ ds : List D, pyAll ds = ds.map pyOf
  | [] => rfl
  | d :: ds => by show pyOf d :: pyAll ds = _; rw [pyAll_map ds]; rfl
section
variable {X : Cx}
theorem ok_count (hu : X.A.units + 65 < cLine) : MethOk X (rCountD X.K) oCount := by
  intro B F σ H S d e x y QQ Q hB R rd re h k
  unfold oCount at h
  split at h
  · rename_i ds
    obtain ⟨h1, h2, q⟩ := h
    have t := rd.dp (okE_of h1).1
    obtain ⟨a, us, rfl, fa, ra⟩ := id rd
    refine ⟨a, y, pyOf e, pyAll ds, rfl, rfl, hB ▸ t, hB ▸ re.dp (okE_of h2).1, (okE_of h1).2, (okE_of h2).2, ?_⟩
    have e1 : (pyAll ds).countP (fun z => PyData.eqv z (pyOf e)) = ds.countP fun z => eqD z e := by rw [pyAll_map, List.countP_map]; rfl
    rw [e1]
    exact fin_int R q k
  · exact h.elim
theorem ok_index (hu : X.A.units + 65 < cLine) : MethOk X (rIndexD X.K) oIndex := by
  intro B F σ H S d e x y QQ Q hB R rd re h k
  unfold oIndex at h
  split at h
  · rename_i ds
    obtain ⟨h1, h2, j, ⟨z, hz, hz2⟩, hno, q⟩ := h
    have t := rd.dp (okE_of h1).1
    obtain ⟨a, us, rfl, fa, ra⟩ := id rd
    refine ⟨a, y, pyOf e, pyAll ds, j, pyOf z, rfl, rfl, hB ▸ t, hB ▸ re.dp (okE_of h2).1, (okE_of h1).2, (okE_of h2).2, ?_, hz2, ?_, fin_int R q k⟩
    · rw [pyAll_map, List.getElem?_map, hz]; rfl
    · intro m z' hm hz'
      rw [pyAll_map, List.getElem?_map] at hz'
      cases e1 : ds[m]? with
      | none => rw [e1] at hz'; cases hz'
      | some w =>
        rw [e1] at hz'
        cases hz'
        exact hno m w hm e1
  · exact h.elim
end
section
variable {X : Cx} {B : Bs} {o e : Expr} {apos cpos : Pos} {dx da : Den}
theorem de_lcount (hu : X.A.units + 65 < cLine) (hB : B.K = X.K) (hx : PE X o (tD B dx)) (ha : PE X e (tD B da))
    (hbase : attributeBase o "count" X.env (eval o X.env) = eval o X.env := by rfl)
    (hfew : ((backTo cpos (starEach [e] X.env)).all (fun x => !x.1) && (backToKw cpos (keywordEach [] X.env)).all (fun x => x.1.isSome)
      && decide (([e] : List Expr).length + ([] : List Keyword).length + (if ([] : List Keyword).isEmpty then 0 else 1) < 30)) = true := by rfl)
    (hline : (apos.endLine == cpos.line) = true := by rfl) (hs : starEach [e] X.env = (false, eval e X.env) :: starEach [] X.env := by rfl) (hplain : (backTo cpos (starEach [] X.env)).any (·.1) = false := by rfl) :
    PE X (.Call (.Attribute o "count" apos) [e] [] cpos) (tD B (dMeth isL oCount dx da)) :=
  PE_imp (pe_bm PySem.F.plainAttrs_list PySem.F.slot_list_count PySem.F.type_list_count (mt_countD hu) hx (pa_cons ha pa_nil hs) hbase hfew hline hs hplain) (methL_run hB (ok_count hu))
theorem de_lindex (hu : X.A.units + 65 < cLine) (hB : B.K = X.K) (hx : PE X o (tD B dx)) (ha : PE X e (tD B da))
    (hbase : attributeBase o "index" X.env (eval o X.env) = eval o X.env := by rfl)
    (hfew : ((backTo cpos (starEach [e] X.env)).all (fun x => !x.1) && (backToKw cpos (keywordEach [] X.env)).all (fun x => x.1.isSome)
      && decide (([e] : List Expr).length + ([] : List Keyword).length + (if ([] : List Keyword).isEmpty then 0 else 1) < 30)) = true := by rfl)
    (hline : (apos.endLine == cpos.line) = true := by rfl) (hs : starEach [e] X.env = (false, eval e X.env) :: starEach [] X.env := by rfl) (hplain : (backTo cpos (starEach [] X.env)).any (·.1) = false := by rfl) :
    PE X (.Call (.Attribute o "index" apos) [e] [] cpos) (tD B (dMeth isL oIndex dx da)) :=
  PE_imp (pe_bm PySem.F.plainAttrs_list PySem.F.slot_list_index PySem.F.type_list_index (mt_indexD hu) hx (pa_cons ha pa_nil hs) hbase hfew hline hs hplain) (methL_run hB (ok_index hu))
end
/-! ### x += e of numbers -/
def dAug (f : Int → Int → Int) (C : Int → Int → Prop) (i : Nat) (d : Den) : DenS := fun D S => match S[i]? with
  | some (.pu (.int a)) => d S fun y S1 => (match y with
    | .pu (.int b) => C a b ∧ D.nx (S1.set i (.pu (.int (f a b))))
    | _ => False)
  | _ => False
def ipC (f : Int → Int → Int) (C : Int → Int → Prop) : TIp := fun x y H Q => ∃ i j, x = .int i ∧ y = .int j ∧ C i j ∧ Q (.int (f i j)) H
section
variable {X : Cx} {B : Bs} {e : Expr} {d : Den} {pos pos' : Pos} {x : Str}
theorem ip_addC : PIp X .Add (ipC (fun i j => i + j) fun _ _ => True) := by
  intro pins s σ H x y v u Q I r1 r2 h
  obtain ⟨i, j, e1, e2, _, q⟩ := h
  exact ip_add pins s σ H x y v u Q I r1 r2 ⟨i, j, e1, e2, q⟩
theorem ip_subC : PIp X .Sub (ipC (fun i j => i - j) fun _ _ => True) := by
  intro pins s σ H x y v u Q I r1 r2 h
  obtain ⟨i, j, e1, e2, _, q⟩ := h
  exact ip_sub pins s σ H x y v u Q I r1 r2 ⟨i, j, e1, e2, q⟩
theorem ip_mulC : PIp X .Mult (ipC (fun i j => i * j) PySem.IntMulOk) := by
  intro pins s σ H x y v u Q I r1 r2 h
  obtain ⟨i, j, e1, e2, hc, q⟩ := h
  subst e1; subst e2
  obtain ⟨t, rfl⟩ := r1
  obtain ⟨t', rfl⟩ := r2
  exact PySem.P.imul_int ⟨.int _, H, I.tok _, ⟨_, rfl⟩, q⟩ hc
theorem ds_aug (i : Nat) {op : Operator} {f : Int → Int → Int} {C : Int → Int → Prop} (ho : PIp X op (ipC f C)) (hN : X.N.Nodup) (he : PE X e (tD B d)) (hi : X.N[i]? = some x := by rfl) (hx : Loc X.env.scope x := by first | exact Or.inl rfl | exact Or.inr rfl)
    (hf : X.fn x = true ∨ X.env.scope.names.lookup x = some .local := by first | exact .inl rfl | exact .inr rfl | assumption) : PS X (.AugAssign (.Name x pos') op e pos) (tS B (dAug f C i d)) := by
  refine PS_imp (ps_aug hN hi hx he ho hf) fun E σ H h => ?_
  obtain ⟨P, F, S, DD, R, q, k⟩ := h
  unfold dAug at q
  split at q
  · rename_i a ha
    rcases R.sl i _ ha with z | ⟨v, h1, h2⟩
    · cases z
    · have h2' : Rp B.K F H (.int a) v := h2
      unfold Rp at h2'
      subst h2'
      refine ⟨.int a, h1, P, F, S, _, R, q, fun y S1 q1 v1 H1 F1 e1 R1 r1 => ?_⟩
      cases y with
      | pu y =>
        cases y with
        | int b =>
          have r1' : Rp B.K F1 H1 (.int b) v1 := r1
          unfold Rp at r1'
          refine ⟨a, b, rfl, r1', q1.1, k.nx _ q1.2 _ _ F1 e1 (R1.store (s := .pu (.int (f a b))) (show Rp _ _ _ _ _ from rp_int) (fun z => nomatch z) fun z => nomatch z)⟩
        | _ => exact q1.elim
      | _ => exact q1.elim
  · exact q.elim
end
end DL
namespace DL
open PySem PySem.Spec PyProof.Rows L2
/-! ### len(set(t)), t a tuple of ints -/
def tLenSetT (K : PySem.W.Frag) (ta : TE) : TE := fun σ H Q => ta σ H fun x H1 => ∃ (l : Addr) (ns : List Int), x = V.ref l ∧ SqT K H1 l (ns.map V.int) ∧ ns.length < 64 ∧ ∀ ks : List Int, ks.Nodup → (∀ k, k ∈ ks ↔ k ∈ ns) → Q (.int ks.length) H1
theorem pe_lenSetT {X : Cx} {a : Expr} {ta : TE} {p p2 q pos : Pos} (hc : X.calm = true) (hg : Gl X "len") (hm : X.mg "len" = none) (hg2 : Gl X "set") (hm2 : X.mg "set" = none) (ha : PE X a ta)
    (na : starEach [a] X.env = (false, eval a X.env) :: starEach [] X.env := by rfl) : PE X (.Call (.Name "len" p) [.Call (.Name "set" p2) [a] [] q] [] pos) (tLenSetT X.K ta) := by
  refine ⟨fun pins s σ H Q I h => ?_⟩
  refine Call_ (ld_blt I hg hm PySem.boot_len ?_)
  refine PyProof.Rows.callWith_builtin1 (PyProof.Rows.args_cons ?_ rfl) rfl rfl
  refine Call_ (ld_blt I hg2 hm2 PyProof.Rows.boot_set ?_)
  refine PyProof.Rows.callWith_type1 (PyProof.Rows.args_cons (thn (ha.run pins s σ H _ I h) fun v s1 ⟨x, H1, I1, r1, q1⟩ => PyProof.Rows.args_nil ?_) na) na rfl
  obtain ⟨l, ns, rfl, hq, h1, q1⟩ := q1
  cases r1
  obtain ⟨its, r, pl, hz⟩ := I1.tuple hq
  refine call_set_tupI ns (I1.ok.hd hc) pl (by simpa using r.ints) (by unfold scanBound; omega) fun h' tk c hS hcn hk => ?_
  refine PyProof.Rows.args_nil ?_
  obtain ⟨o, es, ep, t, ho, hex, hd, _, hnd, hiff, _, hf, hn, _⟩ := hS
  have I2 : Inv X pins σ H1 { s1 with heap := h', toks := tk } := I1.kept fun b o e => hk b o e
  have e1 : (es.toList.map keyOf).length = es.size := by simp
  refine call_len_set ho hex hd hf (by rw [hn] <;> omega) ⟨.int (es.toList.map keyOf).length, H1, I2.tok _, ⟨_, by rw [e1]⟩, q1 _ hnd fun k => ?_⟩
  rw [← hiff, decide_eq_true_iff]
def dLenSet (d : Den) : Den := fun S Q => d S fun x S1 => match rd S1 x with
  | some (.tup ds) => (match intsD ds with
    | some ns => ns.length < 64 ∧ ∀ ks : List Int, ks.Nodup → (∀ k, k ∈ ks ↔ k ∈ ns) → Q (.pu (.int (ks.length : Nat))) S1
    | none => False)
  | _ => False
theorem de_lenSet {X : Cx} {B : Bs} {a : Expr} {d : Den} {p p2 q pos : Pos} (hB : B.K = X.K) (hc : X.calm = true) (hg : Gl X "len") (hm : X.mg "len" = none) (hg2 : Gl X "set") (hm2 : X.mg "set" = none) (ha : PE X a (tD B d))
    (na : starEach [a] X.env = (false, eval a X.env) :: starEach [] X.env := by rfl) : PE X (.Call (.Name "len" p) [.Call (.Name "set" p2) [a] [] q] [] pos) (tD B (dLenSet d)) := by
  refine PE_imp (pe_lenSetT hc hg hm hg2 hm2 ha na) ?_
  rintro σ H Q ⟨P, F, S, QQ, R, q, k⟩
  refine ⟨P, F, S, _, R, q, fun x S1 q1 v1 H1 F1 e1 R1 r1 => ?_⟩
  split at q1
  · rename_i ds hr
    split at q1
    · rename_i ns hn
      obtain ⟨a, us, rfl, fa, ra⟩ := t_tup (RelRv.t R1 r1 hr)
      have e2 := ints_rp ra hn
      rw [e2] at fa
      refine ⟨a, ns, rfl, hB ▸ fa.sq, q1.1, fun ks h1 h2 => k _ _ (q1.2 ks h1 h2) _ H1 F1 e1 R1 rv_int⟩
    · exact q1.elim
  · exact q1.elim
end DL
namespace DL
open PySem PySem.Spec PyProof.Rows L2
/-! ### sorted of tuples whose first items are unlike ints -/
/-- an int or a thing at an address -/
def plainV : Value → Bool
  | .int _ _ => true
  | .ref _ => true
  | _ => false
/-- a tuple whose head is an int -/
structure HeadI (h : Heap) (v : Value) (i : Int) : Prop where
  ex : ∃ (a : Addr) (o : Obj) (t : Tok) (its : List Value) (n : Nat), v = .ref a ∧ h.get? a = some o ∧ o.cls = .type "tuple" ∧ o.data = .seq (Value.int i t :: its).toArray n ∧ ∀ y ∈ its, plainV y = true
section
variable {prog : Program} {w : World} {A : Around} {E : Value → Shared → Prop} {s : Shared}
theorem eqBool_refl {v : Value} {Q : Bool → Shared → Prop} (hv : plainV v = true) (h : Q true s) : wpAny (model prog w) A (eqBool v v) Q E s := by
  unfold eqBool
  cases v with
  | int i t =>
    refine wpAny_holding ?_
    have e : (Value.int i t == Value.int i t) = true := by simp
    rw [if_pos e]
    exact wpAny_bind (wpAny_rule (wpAny_pure h))
  | ref a =>
    refine wpAny_holding ?_
    have e : (Value.ref a == Value.ref a) = true := by simp
    rw [if_pos e]
    exact wpAny_bind (wpAny_rule (wpAny_pure h))
  | _ => cases hv
theorem lex_refl {b : Bool} {Q : Bool → Shared → Prop} (h : Q false s) : ∀ (xs : List Value) (i : Nat), (∀ y ∈ xs, plainV y = true) → PySem.W.KatLex prog w A b false Q (xs.zip xs) i s
  | [], i, _ => PySem.W.kat_nil h
  | x :: xs, i, hx => by
    show PySem.W.KatLex prog w A b false Q ((x, x) :: xs.zip xs) i s
    exact PySem.W.kat_cons (eqBool_refl (hx x (by simp)) (PySem.W.kat_yes (lex_refl h xs (i + 1) fun y hy => hx y (by simp [hy]))))
def headOf (h : Heap) (v : Value) : Int := match v with
  | .ref a => (match h.get? a with
    | some o => (match o.data with
      | .seq xs _ => (match xs[0]? with
        | some (Value.int i _) => i
        | _ => 0)
      | _ => 0)
    | none => 0)
  | _ => 0
theorem HeadI.eq {h : Heap} {v : Value} {i : Int} (x : HeadI h v i) : headOf h v = i := by
  obtain ⟨a, o, t, its, n, rfl, h1, h2, h3, h4⟩ := x.ex
  unfold headOf
  simp only [h1, h3]
  simp
theorem HeadI.keep {h h' : Heap} {v : Value} {i : Int} (x : HeadI h v i) (k : ∀ a o, h.get? a = some o → o.cls = .type "tuple" → h'.get? a = some o) : HeadI h' v i := by
  obtain ⟨a, o, t, its, n, e, h1, h2, h3, h4⟩ := x.ex
  exact ⟨a, o, t, its, n, e, k a o h1 h2, h2, h3, h4⟩
theorem heads_kat {h : Heap} : ∀ vs : List Value, (∀ v ∈ vs, ∃ i, HeadI h v i) → ∃ fs, PySem.W.KatTups h vs fs ∧ fs.length = vs.length ∧ ∀ f ∈ fs, ∃ n t, f = Value.int n t
  | [], _ => ⟨[], PySem.W.KatTups.nil, rfl, fun f hf => by cases hf⟩
  | v :: vs, x => by
    obtain ⟨fs, k, hl, hi⟩ := heads_kat vs fun u hu => x u (by simp [hu])
    obtain ⟨i, hx⟩ := x v (by simp)
    obtain ⟨a, o, t, its, n, rfl, h1, h2, h3, h4⟩ := hx.ex
    refine ⟨.int i t :: fs, PySem.W.KatTups.cons h1 h2 h3 (by simp) k, by simp [hl], fun f hf => ?_⟩
    rcases List.mem_cons.mp hf with z | z
    · exact ⟨i, t, z⟩
    · exact hi f z
theorem sorted_heads {l : Addr} {vs : List Value} {Q : Value → Shared → Prop} (hl : s.heap.IsList l vs.toArray) (hz : vs.length ≤ sizeLine)
    (hh : ∀ v ∈ vs, ∃ i, HeadI s.heap v i) (hu : ∀ u ∈ vs, ∀ v ∈ vs, headOf s.heap u = headOf s.heap v → u = v)
    (h : ∀ out : List Value, out.Perm vs → out.Pairwise (fun u v => headOf s.heap u ≤ headOf s.heap v) → Q (.ref (s.heap.objs.size + 1)) { s with heap := sortedAll s.heap vs out.toArray }) :
    wpAny (model prog w) A (call (.builtin "sorted") [.ref l]) Q E s := by
  refine SrtO.sorted_ord (ltv := fun u v => decide (headOf s.heap u < headOf s.heap v)) ⟨fun x y h => ?_, fun x y z h1 h2 => ?_⟩ hl hz (fun h2 h₁ a e1 keep h' keep' => ?_) fun out h1 h2 => h out h2.perm ?_
  · rw [decide_eq_true_iff] at h; rw [decide_eq_false_iff_not]; omega
  · rw [decide_eq_false_iff_not] at *; omega
  · have k2 : ∀ b o, s.heap.get? b = some o → h'.get? b = some o := fun b o e => keep' b o (keep b o e).1 (keep b o e).2
    have hh' : ∀ v ∈ vs, ∃ i, HeadI h' v i := fun v hv => by
      obtain ⟨i, x⟩ := hh v hv
      exact ⟨i, x.keep fun b o e _ => k2 b o e⟩
    have he : ∀ v ∈ vs, headOf h' v = headOf s.heap v := fun v hv => by
      obtain ⟨i, x⟩ := hh v hv
      rw [x.eq, (x.keep (h' := h') fun b o e _ => k2 b o e).eq]
    obtain ⟨fs, k, hlf, hi⟩ := heads_kat vs hh'
    refine ⟨_, fun Q E hQ => PySem.W.kat_kind (T := Value.type "int") k (by omega) (fun f hf => ?_) rfl hQ, ?_⟩
    · obtain ⟨n, t, rfl⟩ := hi f hf
      exact PySem.W.Looks.of_pure rfl
    · intro p q hp hq
      obtain ⟨i, xp⟩ := hh' _ hp
      obtain ⟨j, xq⟩ := hh' _ hq
      have ei := xp.eq
      have ej := xq.eq
      have hlt : SrtO.lt2 (fun u v => decide (headOf s.heap u < headOf s.heap v)) p q = decide (i < j) := by
        show decide (headOf s.heap p.1 < headOf s.heap q.1) = _
        rw [← he _ hp, ← he _ hq, ei, ej]
      rw [hlt]
      obtain ⟨a, o, t, its, n, e1, h1, h2, h3, h4⟩ := id xp.ex
      obtain ⟨a2, o2, t2, its2, n2, e2, g1, g2, g3, g4⟩ := id xq.ex
      by_cases e : i = j
      · have same : p.1 = q.1 := hu _ hp _ hq (by rw [← he _ hp, ← he _ hq, ei, ej, e])
        rw [← same, e1]
        refine PySem.W.kat_lt h1 h3 h1 h3 ?_
        have e0 : decide (i < j) = false := decide_eq_false (by omega)
        rw [e0, decide_eq_false (Nat.lt_irrefl _)]
        exact lex_refl ⟨rfl, rfl⟩ _ 0 fun y hy => by
          rcases List.mem_cons.mp hy with z | z
          · subst z; rfl
          · exact h4 y z
      · rw [e1, e2]
        refine PySem.W.kat_lt h1 h3 g1 g3 ?_
        refine PySem.W.kat_cons (wpAny_eqBool_int ?_)
        rw [show (i == j) = false from beq_eq_false_iff_ne.mpr e]
        exact PySem.W.kat_no (TS.oneLt_ints _ ⟨rfl, rfl⟩)
  · refine List.Pairwise.imp (fun {u v} huv => ?_) h1
    have : decide (headOf s.heap v < headOf s.heap u) = false := huv
    rw [decide_eq_false_iff_not] at this
    omega
end

/-! .. over the layer -/
def HeadV (K : PySem.W.Frag) (H : Hp) (x : V) (i : Int) : Prop := ∃ t r, x = .ref t ∧ SqT K H t (.int i :: r)
def plV : V → Bool
  | .int _ => true
  | .ref _ => true
  | _ => false
theorem plV_vals : ∀ {xs : List V} {us : List Value}, Vals xs us → (∀ x ∈ xs, plV x = true) → ∀ u ∈ us, plainV u = true
  | _, _, .nil, _ => fun u hu => by cases hu
  | x :: xs, u :: us, .cons r t, h => fun y hy => by
    rcases List.mem_cons.mp hy with z | z
    · subst z
      have := h x (by simp)
      cases x with
      | int i => obtain ⟨t, rfl⟩ := r; rfl
      | ref a => cases r; rfl
      | _ => cases this
    · exact plV_vals t (fun x hx => h x (by simp [hx])) y z
section
variable {X : Cx} {pins : List (Addr × Obj)} {σ : L2.St} {H : Hp} {s : Shared}
theorem headI_of (I : Inv X pins σ H s) {t : Addr} {i : Int} {r : List V} (h : SqT X.K H t (.int i :: r)) (hr : ∀ y ∈ r, plV y = true) : HeadI s.heap (.ref t) i := by
  obtain ⟨its, rv, ⟨o, ho, hc, n, hd⟩, _⟩ := I.tuple h
  cases rv with
  | cons r1 r2 =>
    obtain ⟨tk, rfl⟩ := r1
    exact ⟨t, o, tk, _, n, rfl, ho, hc, hd, plV_vals r2 hr⟩
theorem headOf_of (I : Inv X pins σ H s) {t : Addr} {i : Int} {r : List V} (h : SqT X.K H t (.int i :: r)) : headOf s.heap (.ref t) = i := by
  obtain ⟨its, rv, ⟨o, ho, hc, n, hd⟩, _⟩ := I.tuple h
  cases rv with
  | cons r1 r2 =>
    obtain ⟨tk, rfl⟩ := r1
    unfold headOf
    simp only [ho, hd]
    simp
theorem backV_ref {u : Value} {t : Addr} (e : backV u = .ref t) : u = .ref t := by
  cases u with
  | ref a => cases e; rfl
  | _ => exact absurd e (by intro z; cases z)
def rSortF (K : PySem.W.Frag) : List V → Hp → VK → Prop := fun vs H Q => ∃ (a : Addr) (xs : List V) (is : List Int), vs = [V.ref a] ∧ SqL K H a xs ∧ (∀ (j : Nat) (x : V), xs[j]? = some x → ∃ t i r, is[j]? = some i ∧ x = .ref t ∧ SqT K H t (.int i :: r) ∧ ∀ y ∈ r, plV y = true) ∧
  is.Nodup ∧ ∀ (ys : List V) (p : Addr), ys.Perm xs → ys.Pairwise (fun x y => ∀ i j, HeadV K H x i → HeadV K H y j → i ≤ j) → H p = none → Q (.ref p) (upd H p (.lst ys))
theorem cr_sortF : CallR X (.builtin "sorted") (rSortF X.K) := by
  intro pins s σ H vs us Q I r h
  obtain ⟨a, xs, is, rfl, hs, hx, hu, q⟩ := h
  obtain ⟨its, rv, hl, hz⟩ := I.list hs
  rw [Vals.ref1 r]
  obtain ⟨e1, e2⟩ := refs_back rv fun x m => by
    obtain ⟨j, hj, hje⟩ := List.getElem_of_mem m
    obtain ⟨t, i, r, _, e, _⟩ := hx j x (by rw [List.getElem?_eq_getElem hj, hje])
    exact ⟨t, e⟩
  have mem : ∀ v ∈ its, ∃ j t i r, its[j]? = some v ∧ is[j]? = some i ∧ v = .ref t ∧ SqT X.K H t (.int i :: r) ∧ ∀ y ∈ r, plV y = true := fun v hv => by
    obtain ⟨j, hj, hje⟩ := List.getElem_of_mem hv
    have hv' : its[j]? = some v := by rw [List.getElem?_eq_getElem hj, hje]
    obtain ⟨t, rfl⟩ := e2 v hv
    have hm : xs[j]? = some (V.ref t) := by rw [e1, List.getElem?_map, hv']; rfl
    obtain ⟨t', i, r, h0, e, h1, h2⟩ := hx _ _ hm
    cases e
    exact ⟨j, t, i, r, hv', h0, rfl, h1, h2⟩
  refine sorted_heads hl.isList (by rw [← rv.length]; exact hz) (fun v hv => ?_) (fun u hu' v hv e => ?_) fun out h1 h2 => ?_
  · obtain ⟨j, t, i, r, _, _, rfl, h1, h2⟩ := mem v hv
    exact ⟨i, headI_of I h1 h2⟩
  · obtain ⟨j, t, i, r, m1, n1, rfl, h1, h2⟩ := mem u hu'
    obtain ⟨j', t', i', r', m2, n2, rfl, h1', h2'⟩ := mem v hv
    rw [headOf_of I h1, headOf_of I h1'] at e
    subst e
    have z : j = j' := (List.getElem?_inj (List.getElem?_eq_some_iff.mp n1).1 hu).mp (n1.trans n2.symm)
    subst z
    rw [m1] at m2
    cases m2
    rfl
  · obtain ⟨ep, he'⟩ := PyProof.Rows.sortedAll_at s.heap its out.toArray
    have h3 : ∀ u ∈ out, ∃ a, u = Value.ref a := fun u hu => e2 u (h1.mem_iff.mp hu)
    have hp : (out.map backV).Perm xs := by
      rw [e1]
      exact h1.map backV
    refine ⟨.ref _, upd H (s.heap.objs.size + 1) (.lst (out.map backV)), I.laid (t' := s.toks) (fun _ _ => PyProof.Rows.sortedAll_old) (Nat.le_succ _) ⟨by rw [hp.length_eq]; exact hz, out, ep, vals_back h3, he'⟩, rfl, q _ _ hp ?_ (I.hok.fresh (Nat.le_succ _))⟩
    rw [List.pairwise_map]
    refine List.Pairwise.imp (fun {u v} huv i j hi hj => ?_) h2
    obtain ⟨t, r, et, ht⟩ := hi
    obtain ⟨t', r', et', ht'⟩ := hj
    rw [backV_ref et, backV_ref et', headOf_of I ht, headOf_of I ht'] at huv
    exact huv
end
def headD : D → Int
  | .tup (.int i :: _) => i
  | _ => 0
def plD : D → Bool
  | .int _ => true
  | .tup _ => true
  | .lst _ => true
  | _ => false
def hdOk : D → Bool
  | .tup (.int _ :: r) => r.all plD
  | _ => false
/-- sorted of tuples with unlike whole numbers at the head -/
def oSortedP : OpN := fun ds Q => match ds with
  | [.lst xs] => xs.all hdOk = true ∧ (xs.map headD).Nodup ∧ ∀ ys : List D, ys.Perm xs → ys.Pairwise (fun d e => headD d ≤ headD e) → Q (.ol ys)
  | _ => False
theorem RpAll.perm {K : PySem.W.Frag} {F : Addr → Prop} {H : Hp} {vs us : List V} (p : us.Perm vs) : ∀ {ds : List D}, RpAll K F H ds vs → ∃ es, es.Perm ds ∧ RpAll K F H es us := by
  induction p with
  | nil => intro ds h; exact ⟨ds, .refl _, h⟩
  | cons x p ih =>
    intro ds h
    cases ds with
    | nil => unfold RpAll at h; cases h
    | cons d ds =>
      unfold RpAll at h
      obtain ⟨v, r, e, h1, h2⟩ := h
      cases e
      obtain ⟨es, p2, h3⟩ := ih h2
      exact ⟨d :: es, p2.cons d, RpAll.cons h1 h3⟩
  | swap x y l =>
    intro ds h
    cases ds with
    | nil => unfold RpAll at h; cases h
    | cons d ds =>
      unfold RpAll at h
      obtain ⟨v, r, e, h1, h2⟩ := h
      cases e
      cases ds with
      | nil => unfold RpAll at h2; cases h2
      | cons d2 ds =>
        unfold RpAll at h2
        obtain ⟨v2, r2, e2, h3, h4⟩ := h2
        cases e2
        exact ⟨d2 :: d :: ds, .swap _ _ _, RpAll.cons h3 (RpAll.cons h1 h4)⟩
  | trans p1 p2 ih1 ih2 =>
    intro ds h
    obtain ⟨es, q1, h1⟩ := ih2 h
    obtain ⟨fs, q2, h2⟩ := ih1 h1
    exact ⟨fs, q2.trans q1, h2⟩
theorem pl_rp {K : PySem.W.Frag} {F : Addr → Prop} {H : Hp} : ∀ {r : List D} {vs : List V}, RpAll K F H r vs → r.all plD = true → ∀ y ∈ vs, plV y = true
  | [], vs, h, _, y, hy => by unfold RpAll at h; subst h; cases hy
  | d :: ds, vs, h, hp, y, hy => by
    unfold RpAll at h
    obtain ⟨v, r, rfl, h1, h2⟩ := h
    rw [List.all_cons, Bool.and_eq_true] at hp
    rcases List.mem_cons.mp hy with z | z
    · subst z
      cases d with
      | int i => unfold Rp at h1; subst h1; rfl
      | tup es => unfold Rp at h1; obtain ⟨a, _, rfl, _⟩ := h1; rfl
      | lst es => unfold Rp at h1; obtain ⟨a, _, rfl, _⟩ := h1; rfl
      | _ => cases hp.1
    · exact pl_rp h2 hp.2 y z
theorem hdV {K : PySem.W.Frag} {F : Addr → Prop} {H : Hp} {d : D} {v : V} (h : Rp K F H d v) (hd : hdOk d = true) : ∃ t r, v = .ref t ∧ SqT K H t (.int (headD d) :: r) ∧ ∀ y ∈ r, plV y = true := by
  unfold hdOk at hd
  split at hd
  · rename_i i r
    unfold Rp at h
    obtain ⟨a, vs, rfl, h2, h3⟩ := h
    unfold RpAll at h3
    obtain ⟨u, r2, rfl, h4, h5⟩ := h3
    unfold Rp at h4
    subst h4
    exact ⟨a, r2, rfl, h2.sq, pl_rp h5 hd⟩
  · cases hd
theorem rp_pair {K : PySem.W.Frag} {F : Addr → Prop} {H : Hp} {R : V → V → Prop} {R' : D → D → Prop} : ∀ {ds : List D} {vs : List V}, RpAll K F H ds vs → vs.Pairwise R → (∀ d ∈ ds, ∀ e ∈ ds, ∀ v u, Rp K F H d v → Rp K F H e u → R v u → R' d e) → ds.Pairwise R'
  | [], vs, _, _, _ => .nil
  | d :: ds, vs, h, hp, k => by
    unfold RpAll at h
    obtain ⟨v, r, rfl, h1, h2⟩ := h
    obtain ⟨p1, p2⟩ := List.pairwise_cons.mp hp
    refine .cons (fun e he => ?_) (rp_pair h2 p2 fun d hd e he => k d (by simp [hd]) e (by simp [he]))
    obtain ⟨i, hi, hie⟩ := List.getElem_of_mem he
    obtain ⟨u, hu, h5⟩ := h2.get (List.getElem?_eq_getElem hi)
    rw [hie] at h5
    exact k d (by simp) e (by simp [he]) v u h1 h5 (p1 u (List.mem_of_getElem? hu))
theorem ok_sortedP {X : Cx} : OpNOk X (.builtin "sorted") oSortedP := by
  refine ⟨_, cr_sortF, ?_⟩
  intro B F σ H S ds vs QQ Q hB R rd h k
  unfold oSortedP at h
  split at h
  · rename_i xs
    obtain ⟨v, rfl, t⟩ := ts1 rd
    obtain ⟨a, us, rfl, fa, ra⟩ := t
    obtain ⟨h1, h2, h3⟩ := h
    rw [List.all_eq_true] at h1
    have hx : ∀ x ∈ us, ∃ d ∈ xs, Rp B.K F H d x := fun x hx => by
      obtain ⟨i, hi, hie⟩ := List.getElem_of_mem hx
      obtain ⟨d, hd, r⟩ := ra.getV (List.getElem?_eq_getElem hi)
      rw [hie] at r
      exact ⟨d, List.mem_of_getElem? hd, r⟩
    rw [← hB]
    refine ⟨a, us, xs.map headD, rfl, .inl (.inl fa), fun j x hj => ?_, h2, fun ys p h4 h5 hp => ?_⟩
    · obtain ⟨d, hd, r⟩ := ra.getV hj
      obtain ⟨t, r2, h6, h7, h8⟩ := hdV r (h1 d (List.mem_of_getElem? hd))
      exact ⟨t, _, r2, by rw [List.getElem?_map, hd]; rfl, h6, h7, h8⟩
    · obtain ⟨es, p2, r3⟩ := RpAll.perm h4 ra
      refine fin_lst R r3 (h3 es p2 (rp_pair r3 h5 fun d hd e he v u rv ru hvu => ?_)) k p hp
      obtain ⟨t1, q1, rfl, s1, _⟩ := hdV rv (h1 d (p2.mem_iff.mp hd))
      obtain ⟨t2, q2, rfl, s2, _⟩ := hdV ru (h1 e (p2.mem_iff.mp he))
      exact hvu _ _ ⟨t1, q1, rfl, s1⟩ ⟨t2, q2, rfl, s2⟩
  · exact h.elim
end DL
namespace DL
open PySem PySem.Spec PyProof.Rows L2
theorem lCount_l {ds : List D} {e : D} {Q : Rv → Prop} : oCount (.lst ds) e Q = (okE (.lst ds) = true ∧ okE e = true ∧ Q (.pu (.int ((ds.countP fun z => eqD z e : Nat) : Int)))) := rfl
theorem lIndex_l {ds : List D} {e : D} {Q : Rv → Prop} : oIndex (.lst ds) e Q = (okE (.lst ds) = true ∧ okE e = true ∧ ∃ j, (∃ z, ds[j]? = some z ∧ eqD z e = true) ∧ (∀ m z, m < j → ds[m]? = some z → eqD z e = false) ∧ Q (.pu (.int (j : Nat)))) := rfl
theorem lSortedP_l {xs : List D} {Q : Rv → Prop} : oSortedP [.lst xs] Q = (xs.all hdOk = true ∧ (xs.map headD).Nodup ∧ ∀ ys : List D, ys.Perm xs → ys.Pairwise (fun d e => headD d ≤ headD e) → Q (.ol ys)) := rfl
theorem lstR_i {mk : List D → Rv} {a b : Int} {Q : Rv → Prop} : lstR mk a b Q = (RgOk a b ∧ Q (mk (rangeD a (b - a).toNat))) := rfl
theorem rdIs_some {p : D → Bool} {d : D} : rdIs p (some d) = p d := rfl
theorem isL_lst {ds : List D} : isL (.lst ds) = true := rfl
theorem isL_scr {ds : List D} : isL (.scr ds) = true := rfl
end DL
namespace DL
open PySem PySem.Spec PyProof.Rows L2
/-! ### own lists lent to a call whose answer holds no list -/
mutual
def flatT : D → Bool
  | .lst _ => false
  | .dct _ _ => false
  | .scr _ => false
  | .tup ds => flatTs ds
  | _ => true
def flatTs : List D → Bool
  | [] => true
  | d :: ds => flatT d && flatTs ds
end
theorem flatTs_map {α : Type} {f : α → D} (h : ∀ x, flatT (f x) = true) : ∀ xs : List α, flatTs (xs.map f) = true
  | [] => by simp [flatTs]
  | x :: xs => by
    show (flatT (f x) && flatTs (xs.map f)) = true
    rw [h x, flatTs_map h xs]; rfl
theorem flatT_int (i : Int) : flatT (.int i) = true := by simp [flatT]
theorem flatT_bl (i : Bool) : flatT (.bl i) = true := by simp [flatT]
theorem flatT_str (i : Str) : flatT (.str i) = true := by simp [flatT]
theorem flatT_non : flatT .non = true := by simp [flatT]
theorem flatT_fq (x : Rat) : flatT (fq x) = true := by simp [fq, flatT, flatTs]
theorem flatT_tup (ds : List D) : flatT (.tup ds) = flatTs ds := by simp [flatT]
theorem flatTs_nil : flatTs [] = true := by simp [flatTs]
theorem flatTs_cons (d : D) (ds : List D) : flatTs (d :: ds) = (flatT d && flatTs ds) := by simp [flatTs]
def NoTup (H : Hp) (G : Addr → Prop) : Prop := ∀ a, G a → ∀ u vs, H a = some u → ¬ tupS u vs
mutual
theorem Rp.less {K : PySem.W.Frag} {F G : Addr → Prop} {H : Hp} (ng : NoTup H G) : ∀ (d : D) (v : V), flatT d = true → Rp K F H d v → Rp K (fun a => F a ∧ ¬ G a) H d v
  | .non, v, _, h => by unfold Rp at h ⊢; exact h
  | .bl b, v, _, h => by unfold Rp at h ⊢; exact h
  | .int i, v, _, h => by unfold Rp at h ⊢; exact h
  | .str x, v, _, h => by unfold Rp at h ⊢; exact h
  | .tup ds, v, hf, h => by
    unfold Rp at h ⊢
    obtain ⟨a, vs, h1, h2, h3⟩ := h
    refine ⟨a, vs, h1, ?_, RpAll.less ng ds vs (by simpa [flatT] using hf) h3⟩
    rcases h2 with ⟨f, u, e, t⟩ | h2
    · exact .inl ⟨⟨f, fun g => ng a g u vs e t⟩, u, e, t⟩
    · exact .inr h2
  | .lst ds, v, hf, h => by simp [flatT] at hf
  | .dct ks ds, v, hf, h => by simp [flatT] at hf
  | .scr ds, v, hf, h => by simp [flatT] at hf
theorem RpAll.less {K : PySem.W.Frag} {F G : Addr → Prop} {H : Hp} (ng : NoTup H G) : ∀ (ds : List D) (vs : List V), flatTs ds = true → RpAll K F H ds vs → RpAll K (fun a => F a ∧ ¬ G a) H ds vs
  | [], vs, _, h => by unfold RpAll at h ⊢; exact h
  | d :: ds, vs, hf, h => by
    have hf' : flatT d = true ∧ flatTs ds = true := by simpa [flatTs] using hf
    unfold RpAll at h ⊢
    obtain ⟨v, r, h1, h2, h3⟩ := h
    exact ⟨v, r, h1, Rp.less ng d v hf'.1 h2, RpAll.less ng ds r hf'.2 h3⟩
end
def dCallB (f : FDen) (da : DenA) : Den := fun S Q => da S fun xs S1 => match rds S1 xs with
  | some ds => f ds fun r => (match r with
    | .pu d => flatT d = true ∧ Q (.pu d) S1
    | .ol es => flatTs es = true ∧ Q (.ol es) S1
    | _ => False)
  | none => False
/-- where the own things stand -/
def OwnA (σ : L2.St) (S : Sg) (a : Addr) : Prop := ∃ j, ownAt S j = true ∧ σ[j]? = some (some (.ref a))
section
variable {X : Cx} {B : Bs} {pos p : Pos} {e : Expr} {es : List Expr} {da : DenA} {k : Nat} {ps : List Str} {x : Str} {g : FDen}
theorem own_ho {B : Bs} {F : Addr → Prop} {σ : L2.St} {H : Hp} {S : Sg} (R : Rel B F σ H S) {a : Addr} (h : OwnA σ S a) : ¬ F a ∧ ((∃ xs, H a = some (.lst xs)) ∨ ∃ kv, H a = some (.dK kv)) := by
  obtain ⟨j, h1, h2⟩ := h
  obtain ⟨s, e, o⟩ := ownAt_some h1
  rcases R.sl j s e with rfl | ⟨v, e1, r⟩
  · cases o
  · rw [h2] at e1
    cases e1
    cases s with
    | no => cases o
    | pu d => cases o
    | ex a => cases o
    | ol ds => obtain ⟨a', vs, z, h3, h4, _⟩ := r; cases z; exact ⟨h4, .inl ⟨_, h3⟩⟩
    | od kvs => obtain ⟨a', vs, z, h3, h4, _⟩ := r; cases z; exact ⟨h4, .inr ⟨_, h3⟩⟩
    | io k ds => obtain ⟨a', vs, z, _, h3, h4, _⟩ := r; cases z; exact ⟨h4, .inl ⟨_, h3⟩⟩
theorem rp_lent {B : Bs} {F : Addr → Prop} {σ : L2.St} {H : Hp} {S : Sg} (R : Rel B F σ H S) {rv : Rv} {v : V} {d : D} (h : RelH B F σ H rv v) (e : rd S rv = some d) : Rp B.K (fun a => F a ∨ OwnA σ S a) H d v := by
  have ex : Ext F H (fun a => F a ∨ OwnA σ S a) H := ⟨fun a f _ => .inl f, fun _ _ _ => rfl⟩
  cases rv with
  | pu d' => cases e; exact Rp.ext ex _ _ h
  | ol ds => exact h.elim
  | od kvs => exact h.elim
  | al i =>
    have hv : σ[i]? = some (some v) := h
    unfold rd at e
    cases q : S[i]? with
    | none => simp only [q] at e; cases e
    | some s =>
      simp only [q] at e
      rcases R.sl i s q with rfl | ⟨v', e1, r⟩
      · cases e
      · rw [hv] at e1
        cases e1
        have own : s.own = true → ∀ a, v = .ref a → OwnA σ S a := fun o a z => ⟨i, by unfold ownAt; rw [q]; exact o, by rw [hv, z]⟩
        cases s with
        | no => cases e
        | ex a => cases e
        | pu d' => cases e; exact Rp.ext ex _ _ r
        | ol ds =>
          cases e
          obtain ⟨a, vs, rfl, h1, _, _, h2⟩ := r
          unfold Rp
          exact ⟨a, vs, rfl, ⟨.inr (own rfl a rfl), h1⟩, RpAll.ext ex _ _ h2⟩
        | od kvs =>
          cases e
          obtain ⟨a, vs, rfl, h1, _, _, h2⟩ := r
          unfold Rp
          exact ⟨a, vs, rfl, .inr (own rfl a rfl), .inl h1, RpAll.ext ex _ _ h2, by simp⟩
        | io k' ds =>
          cases e
          obtain ⟨a, vs, rfl, _, h1, _, h2⟩ := r
          unfold Rp
          exact ⟨a, vs, rfl, ⟨.inr (own rfl a rfl), h1⟩, RpAll.ext ex _ _ h2⟩
theorem rps_lent {B : Bs} {F : Addr → Prop} {σ : L2.St} {H : Hp} {S : Sg} (R : Rel B F σ H S) : ∀ {rvs : List Rv} {vs : List V} {ds : List D}, RelHs B F σ H rvs vs → rds S rvs = some ds → RpAll B.K (fun a => F a ∨ OwnA σ S a) H ds vs
  | [], vs, ds, h, e => by cases e; unfold RpAll; exact h
  | r :: rs, vs, ds, h, e => by
    obtain ⟨v, us, rfl, h1, h2⟩ := h
    unfold rds at e
    cases q1 : rd S r with
    | none => simp only [q1] at e; cases e
    | some d =>
      cases q2 : rds S rs with
      | none => simp only [q1, q2] at e; cases e
      | some ds' =>
        simp only [q1, q2] at e
        cases e
        exact RpAll.cons (rp_lent R h1 q1) (rps_lent R h2 q2)
theorem callB_run (hB : B.K = X.K) : ∀ σ H Q, tD B (dCallB g da) σ H Q → tCall (spD X.K g) [] E0 (tDA B da) σ H Q := by
  rintro σ H Q ⟨P, F, S, QQ, R, q, k⟩
  refine ⟨P, F, S, _, R, q, fun xs S1 q1 vs H1 F1 e1 R1 r1 => ?_⟩
  cases h1 : rds S1 xs with
  | none => simp only [h1] at q1
  | some ds =>
    simp only [h1] at q1
    rw [List.append_nil]
    have own := fun a (h : OwnA σ S1 a) => own_ho R1 h
    refine ⟨fun a => F1 a ∨ OwnA σ S1 a, ds, _, fun a ha => ?_, hB ▸ rps_lent R1 r1 h1, q1, fun rv qr v H' F' h2 h3 h4 h5 hr => ?_⟩
    · rcases ha with ha | ha
      · exact R1.dom a ha
      · rcases (own a ha).2 with ⟨xs, e⟩ | ⟨kv, e⟩ <;> rw [e] <;> exact fun z => nomatch z
    · have ex : Ext F1 H1 (fun a => F' a ∧ ¬ OwnA σ S1 a) H' := ⟨fun a fa n => ⟨h2 a (.inl fa) n, fun z => (own a z).1 fa⟩, fun a fa _ => by
        cases q : H1 a with
        | none => exact absurd q (R1.dom a fa)
        | some o => exact h4 a o q⟩
      have ng : NoTup H' (OwnA σ S1) := fun a ha u vs e t => by
        obtain ⟨o, rfl, _⟩ := t
        rcases (own a ha).2 with ⟨xs, e2⟩ | ⟨kv, e2⟩
        · rw [h4 a _ e2] at e; cases e
        · rw [h4 a _ e2] at e; cases e
      have RR : Rel (B.p P) (fun a => F' a ∧ ¬ OwnA σ S1 a) σ H' S1 := R1.grow ex h4 (fun a ha => by
        rcases h3 a ha.1 with z | z
        · rcases z with z | z
          · exact .inl z
          · exact absurd z ha.2
        · exact .inr z) fun a ha => h5 a ha.1
      cases rv with
      | pu d =>
        obtain ⟨fd, qd⟩ := qr
        exact k _ _ qd v H' _ (e1.trans ex) RR (Rp.less ng d v fd (hB ▸ hr))
      | ol es =>
        obtain ⟨fd, qd⟩ := qr
        obtain ⟨a, us, rfl, z0, z1, z2, z3⟩ := hr
        have rr : RelRv (B.p P) (fun a => F' a ∧ ¬ OwnA σ S1 a) σ H' S1 (.ol es) (.ref a) :=
          ⟨a, us, rfl, z2, ⟨fun z => z1 z.1, (R1.freshNone z0).2⟩, RpAll.less ng es us fd (hB ▸ z3)⟩
        exact k _ _ qd _ H' _ (e1.trans ex) RR rr
      | od kvs => exact qr.elim
      | al i => exact qr.elim
end
end DL
namespace DL
open PySem PySem.Spec PyProof.Rows L2
section
variable {X : Cx} {B : Bs} {pos p : Pos} {e : Expr} {es : List Expr} {da : DenA} {k : Nat} {ps : List Str} {x : Str} {g : FDen}
theorem de_fnB (G : Fn1 X.prog X.w X.K X.mg X.base k x ps (spD X.K g)) (hr : Room k X.A) (hB : B.K = X.K) (ha : PA X (e :: es) (tDA B da)) (hg : Gl X x := by rfl)
    (hdb : (x == ("__debug__" : Str)) = false := by decide) (he : starEach (e :: es) X.env = (false, eval e X.env) :: starEach es X.env := by rfl) (hpl : (backTo pos (starEach es X.env)).any (·.1) = false := by rfl) :
    PE X (.Call (.Name x p) (e :: es) [] pos) (tD B (dCallB g da)) := by
  obtain ⟨f, fd, h1, h2, h3, h4⟩ := G
  exact PE_imp (pe_call h3 hr hg h1 h2 h4 .nil pass0 ha hdb he hpl) (callB_run hB)
end
end DL
namespace DL
open PySem PySem.Spec PyProof.Rows L2
/-! ### written constants in one piece -/
def IsC (d : D) (e : Den) : Prop := ∀ (S : Sg) (Q : Rv → Sg → Prop), Q (.pu d) S → e S Q
def IsA (ds : List D) (da : DenA) : Prop := ∀ (S : Sg) (Q : List Rv → Sg → Prop), Q (ds.map Rv.pu) S → da S Q
theorem isC_c {d : D} : IsC d (dC d) := fun _ _ h => h
theorem isC_neg {i : Int} : IsC (.int (-i)) (dNeg (dC (.int i))) := fun _ _ h => h
theorem isA_nil : IsA [] dNil := fun _ _ h => h
theorem isA_cons {d : D} {ds : List D} {e : Den} {r : DenA} (h1 : IsC d e) (h2 : IsA ds r) : IsA (d :: ds) (dCons e r) := fun S Q h => h1 S _ (h2 S _ h)
theorem frcs_pu (S : Sg) : ∀ ds : List D, frcs S (ds.map Rv.pu) = some (ds, S)
  | [] => rfl
  | d :: ds => by
    show (match frc S (.pu d) with
      | some (d, S1) => (match frcs S1 (ds.map Rv.pu) with
        | some (ds, S2) => some (d :: ds, S2)
        | none => none)
      | none => none) = _
    simp only [frc, frcs_pu S ds]
theorem isC_tup {ds : List D} {da : DenA} (h : IsA ds da) (hl : ds.length ≤ 1000) : IsC (.tup ds) (dTup da) := fun S Q q => by
  refine h S _ ?_
  show match frcs S (ds.map Rv.pu) with
    | some (ds, S2) => ds.length ≤ sizeLine ∧ Q (.pu (.tup ds)) S2
    | none => False
  rw [frcs_pu]
  exact ⟨Nat.le_trans hl (by decide), q⟩
theorem de_cst {X : Cx} {B : Bs} {e : Expr} {d : D} {d' : Den} (h : IsC d d') (hp : PE X e (tD B d')) : PE X e (tD B (dC d)) := by
  refine PE_imp hp ?_
  rintro σ H Q ⟨P, F, S, QQ, R, q, k⟩
  exact ⟨P, F, S, QQ, R, h S QQ q, k⟩
theorem flatT_pqD (p : Nat × Rat) : flatT (pqD p) = true := by
  unfold pqD
  rw [flatT_tup, flatTs_cons, flatTs_cons, flatTs_nil, flatT_int, flatT_fq]; rfl
theorem flatT_smD (ps : Ps) (c : Rat) : flatT (smD ps c) = true := by
  unfold smD
  rw [flatT_tup, flatTs_cons, flatTs_cons, flatTs_nil, flatT_tup, flatTs_map flatT_pqD, flatT_fq]; rfl
theorem flatT_sumD (m : Nat) (f : Nat → Rat) (c : Rat) : flatT (sumD m f c) = true := flatT_smD _ _
end DL
namespace DL
open PySem PySem.Spec PyProof.Rows L2
/-! ### xs[::-1], a list -/
def tRev (K : PySem.W.Frag) (te : TE) (tst : TO) : TE := fun σ H Q => te σ H fun x H1 => tst σ H1 fun o H2 => o = some (-1) ∧ ∃ a xs, x = .ref a ∧ SqL K H2 a xs ∧ ∀ p, H2 p = none → Q (.ref p) (upd H2 p (.lst xs.reverse))
section
variable {X : Cx} {B : Bs} {pos p2 : Pos} {e : Expr} {te : TE} {st : Expr} {tst : TO} {da : Den} {ds : DenO}
theorem pe_rev (he : PE X e te) (hs : PO X (some st) tst) : PE X (.Subscript e (.Slice none none (some st) p2) pos) (tRev X.K te tst) := by
  refine ⟨fun pins s σ H Q I h => ?_⟩
  refine Subscript_ (thn (he.run pins s σ H _ I h) fun v s1 ⟨x, H1, I1, r1, q1⟩ => ?_)
  refine wpAny_Slice ?_
  rw [evalPart_none]
  refine wpAny_pure ?_
  refine wpAny_pure ?_
  refine thn (hs.run pins s1 σ H1 _ I1 q1) fun vk s3 ⟨k, H3, I3, pk, q3⟩ => ?_
  obtain ⟨rfl, a, xs, rfl, hx, q⟩ := q3
  cases r1
  have I4 : Inv X pins σ H3 { s3 with heap := s3.heap.push { cls := .type "slice", data := .fields #[.none, .none, vk] } } := I3.kept (t' := s3.toks) fun b ob q => Heap.get?_push_of_some _ q
  obtain ⟨its, r, ht, hz⟩ := I4.list hx
  have hlen := r.length
  have hg : wpAny (model X.prog X.w) X.A (getItem (.ref a) (.ref s3.heap.objs.size)) (EP X pins σ Q) X.xe { s3 with heap := s3.heap.push { cls := .type "slice", data := .fields #[.none, .none, vk] } } := by
    refine wpAny_getItem_list_slice ht.isList (Heap.IsSliceOf.new ..) .none .none pk (by decide) ?_ (by rw [List.size_toArray] <;> omega)
    rw [PySem.W.krv_pick]
    refine ⟨.ref _, _, I4.laid (t' := s3.toks) (o := .lst xs.reverse) (fun b ob q => Heap.get?_push_of_some _ q) (Nat.le_refl _) ?_, rfl, q _ (I4.hok.fresh (Nat.le_refl _))⟩
    exact ⟨by rw [List.length_reverse]; exact hz, _, 0, r.reverse, Heap.get?_push_size _ rfl⟩
  show wpAny (model X.prog X.w) X.A (subscriptTail e (.Slice none none (some st) p2) (.ref a) (.ref s3.heap.objs.size)) (EP X pins σ Q) X.xe { s3 with heap := s3.heap.push { cls := .type "slice", data := .fields #[.none, .none, vk] } }
  exact tail_any (ops := [.ref a, .ref s3.heap.objs.size]) ht.isList.typeIs slot_list_getitem.lookup hg (by with_unfolding_all rfl)
def dRev (da : Den) (ds : DenO) : Den := fun S Q => da S fun x S1 => ds S1 fun o S2 => match rd S2 (hold x) with
  | some (.lst es) => o = some (-1) ∧ Q (.ol es.reverse) S2
  | _ => False
theorem RpAll.rev {K : PySem.W.Frag} {F : Addr → Prop} {H : Hp} : ∀ {ds : List D} {vs : List V}, RpAll K F H ds vs → RpAll K F H ds.reverse vs.reverse := by
  have app : ∀ {ds es : List D} {vs us : List V}, RpAll K F H ds vs → RpAll K F H es us → RpAll K F H (ds ++ es) (vs ++ us) := by
    intro ds
    induction ds with
    | nil => intro es vs us h g; unfold RpAll at h; subst h; exact g
    | cons d ds ih =>
      intro es vs us h g
      unfold RpAll at h
      obtain ⟨v, r, rfl, h2, h3⟩ := h
      show RpAll K F H (d :: (ds ++ es)) (v :: (r ++ us))
      unfold RpAll
      exact ⟨v, r ++ us, rfl, h2, ih h3 g⟩
  intro ds
  induction ds with
  | nil => intro vs h; unfold RpAll at h; subst h; unfold RpAll; rfl
  | cons d ds ih =>
    intro vs h
    unfold RpAll at h
    obtain ⟨v, r, rfl, h2, h3⟩ := h
    rw [List.reverse_cons, List.reverse_cons]
    exact app (ih h3) (by unfold RpAll; exact ⟨v, [], rfl, h2, by unfold RpAll; rfl⟩)
theorem de_rev (hB : B.K = X.K) (ha : PE X e (tD B da)) (hs : PO X (some st) (tDO B ds)) : PE X (.Subscript e (.Slice none none (some st) p2) pos) (tD B (dRev da ds)) := by
  refine PE_imp (pe_rev ha hs) ?_
  rintro σ H Q ⟨P, F, S, QQ, R, q, k⟩
  refine ⟨P, F, S, _, R, q, fun x S1 q1 v1 H1 F1 e1 R1 r1 => ?_⟩
  obtain ⟨F1', e1', R1', r1'⟩ := hold_ok R1 r1
  refine ⟨P, F1', S1, _, R1', q1, fun o S3 q3 H3 F3 e3 R3 => ?_⟩
  have q3' : (match rd S3 (hold x) with
    | some (.lst es) => o = some (-1) ∧ QQ (.ol es.reverse) S3
    | _ => False) := q3
  have E : Ext F H F3 H3 := (e1.trans e1').trans e3
  have r3 := r1'.ext e3
  have kk : ∀ rv, QQ rv S3 → ∀ v H' F', Ext F3 H3 F' H' → Rel (B.p P) F' σ H' S3 → RelRv (B.p P) F' σ H' S3 rv v → Q v H' := fun rv qr v H' F' e R' r' => k _ _ qr v H' F' (E.trans e) R' r'
  cases h1 : rd S3 (hold x) with
  | none => rw [h1] at q3'; exact q3'.elim
  | some dx =>
    have rt := RelRv.t R3 (RelH.rv r3) h1
    rw [h1] at q3'
    cases dx with
    | lst es =>
      obtain ⟨p, vs, rfl, fa, ra⟩ := rt
      exact ⟨q3'.1, p, vs, rfl, .inl (.inl fa), fin_lst R3 (RpAll.rev ra) q3'.2 kk⟩
    | _ => exact q3'.elim
end
end DL
namespace DL
open PySem PySem.Spec PyProof.Rows L2
open Sem (wp)
/-! ### sum(lists, []) -/
def cats (ls : Nat → List Value) : Nat → List Value
  | 0 => []
  | i + 1 => cats ls i ++ ls i
theorem cats_le (ls : Nat → List Value) : ∀ i j, i ≤ j → (cats ls i).length ≤ (cats ls j).length := by
  intro i j h
  induction h with
  | refl => exact Nat.le_refl _
  | step _ ih => refine Nat.le_trans ih ?_; show _ ≤ (cats ls _ ++ _).length; rw [List.length_append]; omega
section
variable {prog : Program} {w : World} {A : Around} {R : Result → Shared → Prop}
theorem args_sum2 (a b : Value) : argsOk "sum" ⟨[a, b], []⟩ := by unfold argsOk; kernel_rfl
theorem codeAny_sum_lists (hh : A.in1.handled = none) (items : List Value) (ls : Nat → List Value) (I l S N0 : Addr) (hlI : l ≠ I) (hlS : l ≠ S) (hIS : I ≠ S) (hNS : N0 ≤ S) (hz : (cats ls items.length).length ≤ sizeLine) :
    ∀ (k i : Nat) (s : Shared) (t c nt : Nat), items.length - i = k → i ≤ items.length → s.heap.IsListIter I l i → s.heap.IsList l items.toArray →
    (∀ j, j < items.length → ∃ a n, items[j]? = some (.ref a) ∧ IsL s.heap a (ls j).toArray n ∧ a ≠ I ∧ a ≠ S) →
    s.heap.get? S = some { cls := .type "list", dict := none, data := .seq #[.ref t] c, slots := #[] } → IsL s.heap t (cats ls i).toArray nt → t ≠ I → t ≠ S → (i = 0 ∨ N0 ≤ t) →
    (∀ h' tk r n, (∀ b o, b ≠ I → b ≠ S → s.heap.get? b = some o → h'.get? b = some o) → IsL h' r (cats ls items.length).toArray n → (items.length = 0 ∨ N0 ≤ r) → R (.ok (.ret (.ref r))) { s with heap := h', toks := tk }) →
    codeAny (model prog w) A (.builtin "sum.loop" ⟨[.ref I, .ref S, rawInt 2, rawInt 0], []⟩) R s := by
  have W := Walks.list (prog := prog) (w := w) (A := A.in1) hh I l hlI items.toArray
  intro k
  induction k with
  | zero =>
    intro i s t c nt hk hi hit hl hsub hS ht htI htS hN hR
    have hin : i = items.length := by omega
    subst hin
    refine codeAny_builtin F.entry_sum_loop ?_
    rw [Around.under_plainId F.plain_sum_loop _]
    show wpAny _ A.in1 (seqItems? (.ref S) >>= _) _ _ s
    refine wpAny_bind (wpAny_seqItems hS rfl ?_)
    show wpAny _ A.in1 (tryCatch (pyNext (.ref I)) _ >>= _) _ _ s
    refine wpAny_bind (wpAny_tryCatch (W.done s _ _ ⟨by rw [List.size_toArray]; exact hit, hl⟩ fun h' tk hk' => ?_))
    exact wpAny_pure (hR h' tk t nt (fun b o hbI _ e => hk' b o (by simp [hbI]) e) (hk' t _ (by simp [htI]) ht) hN)
  | succ k ih =>
    intro i s t c nt hk hi hit hl hsub hS ht htI htS hN hR
    have hlt : i < items.length := by omega
    refine codeAny_builtin F.entry_sum_loop ?_
    rw [Around.under_plainId F.plain_sum_loop _]
    show wpAny _ A.in1 (seqItems? (.ref S) >>= _) _ _ s
    refine wpAny_bind (wpAny_seqItems hS rfl ?_)
    show wpAny _ A.in1 (tryCatch (pyNext (.ref I)) _ >>= _) _ _ s
    refine wpAny_bind (wpAny_tryCatch (W.item i s _ _ (by rw [List.size_toArray]; exact hlt) ⟨hit, hl⟩ fun v h' tk hP hst' hk' => ?_))
    obtain ⟨a, n, ha, hLa, haI, haS⟩ := hsub i hlt
    have hv : v = .ref a := by
      have hP : items[i]? = some v := by simpa using hP
      rw [ha] at hP; exact (Option.some.inj hP).symm
    subst hv
    have hS' := hk' S _ (by simp [Ne.symm hIS]) hS
    have ht' := hk' t _ (by simp [htI]) ht
    have ha' := hk' a _ (by simp [haI]) hLa
    have hc1 := cats_le ls (i + 1) items.length (by omega)
    have hc2 : (cats ls (i + 1)).length = (cats ls i).length + (ls i).length := by show (cats ls i ++ ls i).length = _; rw [List.length_append]
    show wpAny _ A.in1 ((holding [Value.ref a] (binaryOp .Add (.ref t) (.ref a))).attempt >>= _) _ _ _
    refine wpAny_bind (wpAny_attempt (wpAny_holding (PySem.P.add_list (s := { s with heap := h', toks := tk }) ht' ha' ?_ (by rw [List.size_toArray, List.size_toArray]; omega))))
    have sS : S < h'.objs.size := Heap.lt_size hS'
    have hS2 : (h'.push { cls := .type "list", data := .seq ((cats ls i).toArray ++ (ls i).toArray) }).get? S = some { cls := .type "list", dict := none, data := .seq #[.ref t] c, slots := #[] } := Heap.get?_push_of_some _ hS'
    show wpAny _ A.in1 (updateSeq S (fun _ => #[.ref h'.objs.size]) >>= _) _ _ _
    refine wpAny_bind ?_
    refine wpAny_updateSeq hS2 rfl ?_
    refine wpAny_bind (wpAny_letGo ?_)
    refine wpAny_bind ?_
    have hS3 := Heap.get?_update_self (Obj.mapSeq fun _ => #[Value.ref h'.objs.size]) hS2 rfl
    refine wpAny_updateSeq hS3 rfl (wpAny_pure ⟨plainId_quiet F.plain_sum_loop _, ?_⟩)
    have keep : ∀ b o, b ≠ S → (h'.push { cls := .type "list", data := .seq ((cats ls i).toArray ++ (ls i).toArray) }).get? b = some o → (((h'.push { cls := .type "list", data := .seq ((cats ls i).toArray ++ (ls i).toArray) }).update S (Obj.mapSeq fun _ => #[Value.ref h'.objs.size])).update S (Obj.mapSeq fun _ => #[Value.ref h'.objs.size])).get? b = some o := fun b o hb e =>
      (Heap.get?_update_other _ _ (Ne.symm hb)).trans ((Heap.get?_update_other _ _ (Ne.symm hb)).trans e)
    have hI : h'.objs.size ≠ I := fun z => by
      obtain ⟨o, e, _⟩ := hst'.1
      exact Nat.ne_of_gt (Heap.lt_size e) z
    have eA : (cats ls i).toArray ++ (ls i).toArray = (cats ls (i + 1)).toArray := by simp [cats]
    refine ih (i + 1) _ h'.objs.size _ 0 (by omega) (by omega) ?_ ?_ (fun j hj => ?_) (Heap.get?_update_self _ hS3 rfl) ?_ hI (Nat.ne_of_gt sS) (.inr (Nat.le_trans hNS (Nat.le_of_lt sS))) fun h2 tk2 r n2 hk2 hL2 hN2 => ?_
    · obtain ⟨o, e, x⟩ := hst'.1
      exact ⟨o, keep I o hIS (Heap.get?_push_of_some _ e), x⟩
    · obtain ⟨o, e, x⟩ := hst'.2
      exact ⟨o, keep l o hlS (Heap.get?_push_of_some _ e), x⟩
    · obtain ⟨a2, n2, g1, g2, g3, g4⟩ := hsub j hj
      exact ⟨a2, n2, g1, keep a2 _ g4 (Heap.get?_push_of_some _ (hk' a2 _ (by simp [g3]) g2)), g3, g4⟩
    · rw [← eA]
      exact keep _ _ (Nat.ne_of_gt sS) (Heap.get?_push_size _ rfl)
    · exact hR h2 tk2 r n2 (fun b o hbI hbS e => hk2 b o hbI hbS (keep b o hbS (Heap.get?_push_of_some _ (hk' b o (by simp [hbI]) e)))) hL2 hN2
theorem sum_lists {E : Value → Shared → Prop} {s : Shared} {Q : Value → Shared → Prop} (hh : A.handled = none) (items : List Value) (ls : Nat → List Value) (l b : Addr) (nb : Nat) (hl : s.heap.IsList l items.toArray) (hb : IsL s.heap b #[] nb) (hne : 0 < items.length)
    (hsub : ∀ j, j < items.length → ∃ a n, items[j]? = some (.ref a) ∧ IsL s.heap a (ls j).toArray n) (hz : (cats ls items.length).length ≤ sizeLine)
    (h : ∀ h' tk r n, (∀ b o, s.heap.get? b = some o → h'.get? b = some o) → IsL h' r (cats ls items.length).toArray n → s.heap.objs.size ≤ r → Q (.ref r) { s with heap := h', toks := tk }) :
    wpAny (model prog w) A (call (.builtin "sum") [.ref l, .ref b]) Q E s := by
  refine call_function_tree F.kind_sum F.plain_sum F.entry_sum (args_sum2 _ _) ?_
  unfold Builtin.«sum»
  simp only [List.length_cons, List.length_nil]
  rw [if_neg (by decide)]
  refine wpAny_bind (wpAny_of_eq (show Builtin.Builtins.bindParams "sum" ["start"] 0 ⟨[.ref b], []⟩ = pure [some (.ref b)] from rfl) ?_)
  refine wpAny_bind (wpAny_pyIter_list hl ?_)
  refine wpAny_bind (wpAny_pure ?_)
  have hb2 : IsL (s.heap.push { cls := .type "list_iterator", data := .fields #[.ref l, .int 0 0] }) b #[] nb := Heap.get?_push_of_some _ hb
  have ty : ({ s with heap := s.heap.push { cls := .type "list_iterator", data := .fields #[.ref l, .int 0 0] } } : Shared).TypeIs (.ref b) "list" := ⟨_, hb2, rfl⟩
  simp only [List.forIn_cons, List.forIn_nil]
  refine wpAny_bind (wpAny_bind (wpAny_bind (wpAny_isInstance (T := "list") (b := false) ty F.sub_list_str ?_)))
  simp only [Bool.false_eq_true, if_false]
  refine wpAny_pure (wpAny_bind (wpAny_bind (wpAny_isInstance (T := "list") (b := false) ty F.sub_list_bytes ?_)))
  simp only [Bool.false_eq_true, if_false]
  refine wpAny_pure (wpAny_bind (wpAny_bind (wpAny_isInstance (T := "list") (b := false) ty F.sub_list_bytearray ?_)))
  simp only [Bool.false_eq_true, if_false]
  refine wpAny_pure (wpAny_pure ?_)
  refine wpAny_bind (wpAny_newObj_type ?_)
  have eS : (s.heap.push { cls := .type "list_iterator", data := .fields #[.ref l, .int 0 0] }).objs.size = s.heap.objs.size + 1 := Heap.size_push ..
  have ll : l < s.heap.objs.size := by obtain ⟨_, e, _⟩ := hl; exact Heap.lt_size e
  have up : ∀ c o, s.heap.get? c = some o → ((s.heap.push { cls := .type "list_iterator", data := .fields #[.ref l, .int 0 0] }).push { cls := .type "list", data := .seq #[.ref b] }).get? c = some o := fun c o e => Heap.get?_push_of_some _ (Heap.get?_push_of_some _ e)
  have lt : ∀ c o, s.heap.get? c = some o → c ≠ s.heap.objs.size ∧ c ≠ (s.heap.push { cls := .type "list_iterator", data := .fields #[.ref l, .int 0 0] }).objs.size := fun c o e => by
    have h1 := Heap.lt_size e
    rw [eS]
    exact ⟨Nat.ne_of_lt h1, Nat.ne_of_lt (Nat.lt_succ_of_lt h1)⟩
  have hlo := hl
  obtain ⟨ol, el, xl⟩ := hlo
  refine wpAny_pure ⟨plainId_quiet F.plain_sum_loop _, codeAny_sum_lists (N0 := s.heap.objs.size) hh items ls s.heap.objs.size l (s.heap.push { cls := .type "list_iterator", data := .fields #[.ref l, .int 0 0] }).objs.size (lt l _ el).1 (lt l _ el).2 (by rw [eS]; exact Nat.ne_of_lt (Nat.lt_succ_self _)) (by rw [eS]; exact Nat.le_succ _) hz items.length 0 _ b 0 nb rfl (Nat.zero_le _) ⟨_, Heap.get?_push_of_some _ (Heap.get?_push_size _ rfl), rfl, rfl⟩ ⟨ol, up l ol el, xl⟩ (fun j hj => ?_) (Heap.get?_push_size _ rfl) (up b _ hb) (lt b _ hb).1 (lt b _ hb).2 (.inl rfl) fun h' tk r n hk hL hN => ?_⟩
  · obtain ⟨a, n, g1, g2⟩ := hsub j hj
    exact ⟨a, n, g1, up a _ g2, (lt a _ g2).1, (lt a _ g2).2⟩
  · refine h h' tk r n (fun c o e => hk c o (lt c o e).1 (lt c o e).2 (up c o e)) hL ?_
    rcases hN with z | z
    · omega
    · exact z
end
section
variable {X : Cx}
/-- sum(xs, []) of a list of lists, not empty -/
def rSumL : List V → Hp → VK → Prop := fun vs H Q => ∃ (a b : Addr) (us : List V) (xss : List (List V)), vs = [V.ref a, V.ref b] ∧ H a = some (.lst us) ∧ H b = some (.lst []) ∧ us.length = xss.length ∧
  (∀ j, j < us.length → ∃ c, us[j]? = some (.ref c) ∧ H c = some (.lst (xss.getD j []))) ∧ 0 < us.length ∧ xss.flatten.length ≤ sizeLine ∧ ∀ p, H p = none → Q (.ref p) (upd H p (.lst xss.flatten))
theorem vals_ref {us : List V} {its : List Value} (r : Vals us its) : ∀ {j : Nat} {c : Addr}, us[j]? = some (.ref c) → its[j]? = some (.ref c) := by
  induction r with
  | nil => intro j c h; simp at h
  | cons r1 r2 ih =>
    intro j c h
    cases j with
    | zero =>
      simp only [List.getElem?_cons_zero, Option.some.injEq] at h ⊢
      subst h
      cases r1; rfl
    | succ j => simp only [List.getElem?_cons_succ] at h ⊢; exact ih h
theorem vals_cats {ls : Nat → List Value} {xss : List (List V)} (h : ∀ j, j < xss.length → Vals (xss.getD j []) (ls j)) : ∀ i, i ≤ xss.length → Vals (xss.take i).flatten (cats ls i)
  | 0, _ => .nil
  | i + 1, hi => by
    have e : xss.take (i + 1) = xss.take i ++ [xss.getD i []] := by
      rw [List.take_add_one, List.getD_eq_getElem?_getD, List.getElem?_eq_getElem (by omega)]; rfl
    rw [e, List.flatten_append]
    have e2 : ([xss.getD i []] : List (List V)).flatten = xss.getD i [] := by simp
    rw [e2]
    exact (vals_cats h i (by omega)).append (h i (by omega))
theorem cr_sumL (hc : X.calm = true) : CallR X (.builtin "sum") rSumL := by
  intro pins s σ H vs us' Q I r h
  obtain ⟨a, b, us, xss, rfl, ha, hb, hlen, hj, hne, hz, q⟩ := h
  obtain ⟨z1, its, n1, r1, l1, e1⟩ := I.lstM ha
  obtain ⟨z2, its2, n2, r2, l2, e2⟩ := I.lstM hb
  have hu : us' = [Value.ref a, Value.ref b] := by
    cases r with
    | cons x1 x2 =>
      cases x2 with
      | cons x3 x4 =>
        cases x4
        cases x1
        cases x3
        rfl
  subst hu
  have h0 : its2 = [] := by cases r2; rfl
  subst h0
  have key : ∀ j : Nat, ∃ l : List Value, j < us.length → Vals (xss.getD j []) l ∧ ∃ c n, its[j]? = some (.ref c) ∧ IsL s.heap c l.toArray n := by
    intro j
    by_cases hjl : j < us.length
    · obtain ⟨c, g1, g2⟩ := hj j hjl
      obtain ⟨z3, its3, n3, r3, l3, e3⟩ := I.lstM g2
      exact ⟨its3, fun _ => ⟨r3, c, n3, vals_ref r1 g1, e3⟩⟩
    · exact ⟨[], fun z => absurd z hjl⟩
  obtain ⟨ls, hls⟩ := Classical.skolem.mp key
  have hv := vals_cats (ls := ls) (xss := xss) (fun j hj' => (hls j (by omega)).1) xss.length (Nat.le_refl _)
  rw [List.take_length] at hv
  have en : its.length = xss.length := by omega
  rw [← en] at hv
  have hzz : (cats ls its.length).length ≤ sizeLine := by rw [← hv.length]; exact hz
  refine sum_lists (I.ok.hd hc) its ls a b n2 ⟨_, e1, rfl, n1, rfl⟩ e2 (by omega) (fun j hj' => (hls j (by omega)).2) hzz fun h' tk r n hk hL hr => ?_
  exact ⟨.ref r, _, I.laid (t' := tk) (o := .lst xss.flatten) hk hr ⟨hz, _, n, hv, hL⟩, rfl, q r (I.hok.fresh hr)⟩
def oSumL : OpN := fun ds Q => match ds with
  | [.lst xs, .lst []] => ∃ yss : List (List D), xs = yss.map D.lst ∧ 0 < yss.length ∧ yss.flatten.length ≤ sizeLine ∧ Q (.ol yss.flatten)
  | _ => False
theorem rp_lists {K : PySem.W.Frag} {F : Addr → Prop} {H : Hp} : ∀ {yss : List (List D)} {us : List V}, RpAll K F H (yss.map D.lst) us → ∃ xss : List (List V), us.length = xss.length ∧ yss.length = xss.length ∧
    (∀ j, j < us.length → ∃ c, us[j]? = some (.ref c) ∧ H c = some (.lst (xss.getD j []))) ∧ RpAll K F H yss.flatten xss.flatten ∧ yss.flatten.length = xss.flatten.length
  | [], us, h => by
    have h : us = [] := h
    subst h
    exact ⟨[], rfl, rfl, fun j hj => by simp at hj, rfl, rfl⟩
  | ys :: yss, us, h => by
    obtain ⟨v, r, rfl, h1, h2⟩ := h
    unfold Rp at h1
    obtain ⟨c, vs, rfl, h3, h4⟩ := h1
    obtain ⟨xss, g1, g2, g3, g4, g5⟩ := rp_lists h2
    have app : ∀ {ds es : List D} {vs us : List V}, RpAll K F H ds vs → RpAll K F H es us → RpAll K F H (ds ++ es) (vs ++ us) := by
      intro ds
      induction ds with
      | nil => intro es vs us h g; unfold RpAll at h; subst h; exact g
      | cons d ds ih =>
        intro es vs us h g
        unfold RpAll at h
        obtain ⟨v, r, rfl, h2, h3⟩ := h
        show RpAll K F H (d :: (ds ++ es)) (v :: (r ++ us))
        unfold RpAll
        exact ⟨v, r ++ us, rfl, h2, ih h3 g⟩
    refine ⟨vs :: xss, by simp [g1], by simp [g2], fun j hj => ?_, app h4 g4, by
      have := h4.len
      simp only [List.flatten_cons, List.length_append]
      omega⟩
    cases j with
    | zero => exact ⟨c, rfl, h3.2⟩
    | succ j =>
      obtain ⟨c2, k1, k2⟩ := g3 j (by simpa using hj)
      exact ⟨c2, by simpa using k1, by simpa using k2⟩
theorem ok_sumL (hc : X.calm = true) : OpNOk X (.builtin "sum") oSumL := by
  refine ⟨_, cr_sumL hc, ?_⟩
  intro B F σ H S ds vs QQ Q hB R rd h k
  unfold oSumL at h
  split at h
  · obtain ⟨yss, rfl, hne, hz, q⟩ := h
    obtain ⟨v, u, rfl, t1, t2⟩ := ts2 rd
    obtain ⟨a, us, rfl, fa, ra⟩ := t1
    obtain ⟨b, us2, rfl, fb, rb⟩ := t2
    have rb : us2 = [] := rb
    subst rb
    obtain ⟨xss, g1, g2, g3, g4, g5⟩ := rp_lists ra
    exact ⟨a, b, us, xss, rfl, fa, fb, g1, g3, by omega, by omega, fin_lst R g4 q k⟩
  · exact h.elim
end
end DL
namespace DL
open PySem PySem.Spec PyProof.Rows L2
/-! ### raising -/
section
variable {X : Cx} {C : Addr} {bmB : List Value} {B newId initId : String}
/-- C() -/
theorem pmk_own0 {x : Str} {p pos : Pos} (F : ExcBaseFacts B newId initId bmB) (q : PySem.W.excIn X.K C bmB newId = true) (gC : X.mg x = some (.ref C)) (kC : PySem.W.keepIn X.K (.ref C) = true) (r : Raises X (.ref C)) (hg : Gl X x)
    (hdb : (x == ("__debug__" : Str)) = false := by decide) : PMk X (.Call (.Name x p) [] [] pos) (fun _ H Q => Q (.ref C) none H) := by
  intro pins s σ H Q I h
  refine wpAny_Call_Name_kw (ld_glob I hg gC ?_ hdb)
  refine PySem.W.callWith_K0 I.kIn kC ?_
  obtain ⟨bm, N, nm, qn, bs, hdct, sn, sub, ab, col, dd, k0, k1, k2, k3, k5, mN, hC, hN, hni, T⟩ := exc_obj I.kIn q
  refine wpAny_call_exc_subT F T hC hN hni (fun h' e hm => ?_) (by show 0 ≤ sizeLine; exact Nat.zero_le _)
  exact mk_of I hm r h (I.hok.gone hm.new)
end
/-- what an exception carries -/
def ErD (K : PySem.W.Frag) (H : Hp) : List D → Option Addr → Prop
  | [], d => d = none
  | _, _ => False
/-- what leaves: the class's name, what it carries; all that stood at the entry stands -/
abbrev DenR := Sg → (Str → List D → Prop) → Prop
def Left (B : Bs) (cv : Str → Value) (E : XK) (EE : Str → List D → Prop) : Prop := ∀ c es, EE c es → ∀ d H', ErD B.K H' es d → (∀ b o, B.H0 b = some o → b ∉ B.io → H' b = some o) → E (cv c) d H'
/-- a raising reading of statements -/
def tR (B : Bs) (cv : Str → Value) (E : XK) (d : DenR) : TS := fun _ σ H => ∃ P F S EE, Rel (B.p P) F σ H S ∧ d S EE ∧ Left B cv E EE
/-- .. of an expression -/
def tRE (B : Bs) (cv : Str → Value) (E : XK) (d : DenR) : TE := fun σ H _ => ∃ P F S EE, Rel (B.p P) F σ H S ∧ d S EE ∧ Left B cv E EE
def rRaise (c : Str) : DenR := fun _ EE => EE c []
def rNo : DenR := fun _ _ => False
def rIf (dt : DenB) (a b : DenR) : DenR := fun S EE => dt S fun t S1 => (t = true ∧ a S1 EE) ∨ (t = false ∧ b S1 EE)
/-- here, or behind it -/
def rSeq (r : DenR) (a : DenS) (b : DenR) : DenR := fun S EE => r S EE ∨ a ⟨fun S1 => b S1 EE, fun _ _ => False, fun _ => False, fun _ => False⟩ S
section
variable {X : Cx} {B : Bs} {cv : Str → Value} {E : XK} {st : Stmt} {rest els : List Stmt} {e : Expr} {pos : Pos} {a : DenS} {b d : DenR} {dt : DenB} {t t' : TS} {u u' : TE}
theorem PS_or (h1 : PS X st t) (h2 : PS X st t') : PS X st (fun D σ H => t D σ H ∨ t' D σ H) := ⟨fun pins s σ H D I w => w.elim (fun w => h1.run pins s σ H D I w) fun w => h2.run pins s σ H D I w⟩
theorem PSs_or (h1 : PSs X rest t) (h2 : PSs X rest t') : PSs X rest (fun D σ H => t D σ H ∨ t' D σ H) := ⟨fun pins s σ H D I w => w.elim (fun w => h1.run pins s σ H D I w) fun w => h2.run pins s σ H D I w⟩
theorem PE_or (h1 : PE X e u) (h2 : PE X e u') : PE X e (fun σ H Q => u σ H Q ∨ u' σ H Q) := ⟨fun pins s σ H Q I w => w.elim (fun w => h1.run pins s σ H Q I w) fun w => h2.run pins s σ H Q I w⟩
theorem PS_ex {α : Type} {p : α → Prop} {t : α → TS} (h : ∀ x, p x → PS X st (t x)) : PS X st (fun D σ H => ∃ x, p x ∧ t x D σ H) := ⟨fun pins s σ H D I ⟨x, q, w⟩ => (h x q).run pins s σ H D I w⟩
theorem PSs_ex {α : Type} {p : α → Prop} {t : α → TS} (h : ∀ x, p x → PSs X rest (t x)) : PSs X rest (fun D σ H => ∃ x, p x ∧ t x D σ H) := ⟨fun pins s σ H D I ⟨x, q, w⟩ => (h x q).run pins s σ H D I w⟩
theorem rs_no : PS X st (tR B cv E rNo) := ⟨fun _ _ _ _ _ _ ⟨_, _, _, _, _, q, _⟩ => q.elim⟩
theorem rss_no : PSs X rest (tR B cv E rNo) := ⟨fun _ _ _ _ _ _ ⟨_, _, _, _, _, q, _⟩ => q.elim⟩
theorem pss_false : PSs X rest (fun _ _ _ => False) := ⟨fun _ _ _ _ _ _ h => h.elim⟩
theorem rs_raise {x : Str} {C : Addr} {bmB : List Value} {Bn newId initId : String} {p p2 : Pos} (hc : X.calm = true) (tk : Takes X fun cls d _ H => E cls d H) (F : ExcBaseFacts Bn newId initId bmB) (q : PySem.W.excIn X.K C bmB newId = true) (gC : X.mg x = some (.ref C)) (kC : PySem.W.keepIn X.K (.ref C) = true) (r : Raises X (.ref C)) (hg : Gl X x) (hcv : cv x = .ref C)
    (hdb : (x == ("__debug__" : Str)) = false := by decide) : PS X (.Raise (some (.Call (.Name x p) [] [] p2)) none pos) (tR B cv E (rRaise x)) := by
  refine PS_imp (ps_raise hc tk (pmk_own0 F q gC kC r hg hdb)) ?_
  rintro D σ H ⟨P, F, S, EE, R, q, k⟩
  have h := k x [] q none H rfl fun b o hb hi => R.keep b o hb hi
  rw [hcv] at h
  exact h
theorem rs_if {c : Expr} {ra rb : DenR} (hc : PT X c (tDT B dt)) (ha : PSs X rest (tR B cv E ra)) (hb : PSs X els (tR B cv E rb)) : PS X (.If c rest els pos) (tR B cv E (rIf dt ra rb)) := by
  refine PS_imp (ps_if hc ha hb) ?_
  rintro D σ H ⟨P, F, S, EE, R, q, k⟩
  refine ⟨P, F, S, _, R, q, fun t S1 q1 H1 F1 e1 R1 => ?_⟩
  rcases q1 with ⟨rfl, q1⟩ | ⟨rfl, q1⟩
  · exact ⟨P, F1, S1, EE, R1, q1, k⟩
  · exact ⟨P, F1, S1, EE, R1, q1, k⟩
theorem rss_seq {r : DenR} (h0 : PS X st (tR B cv E r)) (h1 : PS X st (tS B a)) (h2 : PSs X rest (tR B cv E b)) : PSs X (st :: rest) (tR B cv E (rSeq r a b)) := by
  refine PSs_imp (PSs_or (pss_cons h0 (pss_false (rest := rest))) (pss_cons h1 h2)) ?_
  rintro D σ H ⟨P, F, S, EE, R, q | q, k⟩
  · exact .inl ⟨P, F, S, EE, R, q, k⟩
  · exact .inr ⟨P, F, S, _, R, q, ⟨fun S' q' σ' H' F' e R' => ⟨P, F', S', EE, R', q', k⟩, fun S' q' => q'.elim, fun S' q' => q'.elim, fun rv S' q' => q'.elim⟩⟩
/-- the last one -/
theorem rss_one (h1 : PS X st (tR B cv E d)) : PSs X [st] (tR B cv E d) := pss_one h1
/-- what follows is not reached -/
theorem rss_here (h1 : PS X st (tR B cv E d)) : PSs X (st :: rest) (tR B cv E d) := PSs_imp (pss_cons h1 (pss_false (rest := rest))) fun _ _ _ h => h
/-- it does not raise here -/
def rThen (a : DenS) (b : DenR) : DenR := fun S EE => a ⟨fun S1 => b S1 EE, fun _ _ => False, fun _ => False, fun _ => False⟩ S
theorem rss_then (h1 : PS X st (tS B a)) (h2 : PSs X rest (tR B cv E b)) : PSs X (st :: rest) (tR B cv E (rThen a b)) := by
  refine PSs_imp (pss_cons h1 h2) ?_
  rintro D σ H ⟨P, F, S, EE, R, q, k⟩
  exact ⟨P, F, S, _, R, q, ⟨fun S' q' σ' H' F' e R' => ⟨P, F', S', EE, R', q', k⟩, fun S' q' => q'.elim, fun S' q' => q'.elim, fun rv S' q' => q'.elim⟩⟩
end
/-- the promise of a def that lets an exception out -/
abbrev FDenR := List D → (Str → List D → Prop) → Prop
def spR (K : PySem.W.Frag) (cv : Str → Value) (g : FDenR) : Sp := fun vs H _ E => ∃ F ds EE, (∀ a, F a → H a ≠ none) ∧ RpAll K F H ds vs ∧ g ds EE ∧ ∀ c es, EE c es → ∀ d H', ErD K H' es d → (∀ b o, H b = some o → H' b = some o) → E (cv c) d H'
def mkR (n N : Nat) (b : DenR) : FDenR := fun ds EE => ds.length = n ∧ b (ds.map Sl.pu ++ List.replicate (N - n) .no) EE
def rCall (g : FDenR) (da : DenA) : DenR := fun S EE => da S fun xs S1 => match frcs S1 xs with
  | some (ds, _) => g ds EE
  | none => False
/-- a def that may let an exception out, under its name -/
def FnR (P : Program) (w : World) (K : PySem.W.Frag) (mg : Str → Option Value) (base : Heap) (k : Nat) (x : Str) (ps : List Str) (sp : Sp) : Prop :=
  ∃ f fd, mg x = some (.ref f) ∧ PySem.W.keepIn K (.ref f) = true ∧ FnOk P w K mg base (L2.CX P w) k f fd ps sp ∧ Binds K fd ps []
section
variable {X : Cx} {B : Bs} {cv : Str → Value} {E : XK} {e : Expr} {es : List Expr} {pos p : Pos} {g : FDenR} {da : DenA} {x : Str} {ps : List Str} {k : Nat} {d : DenR}
theorem re_fn (G : FnR X.prog X.w X.K X.mg X.base k x ps (spR X.K cv g)) (hr : Room k X.A) (hB : B.K = X.K) (tk : Takes X fun cls d _ H => E cls d H) (ha : PA X (e :: es) (tDA B da)) (hg : Gl X x := by rfl)
    (hdb : (x == ("__debug__" : Str)) = false := by decide) (he : starEach (e :: es) X.env = (false, eval e X.env) :: starEach es X.env := by rfl) (hpl : (backTo pos (starEach es X.env)).any (·.1) = false := by rfl) :
    PE X (.Call (.Name x p) (e :: es) [] pos) (tRE B cv E (rCall g da)) := by
  obtain ⟨f, fd, g1, g2, g3, g4⟩ := G
  refine PE_imp (pe_call g3 hr hg g1 g2 g4 .nil (passes_call (E := E) tk fun _ _ _ _ h => h) ha hdb he hpl) ?_
  rintro σ H Q ⟨P, F, S, EE, R, q, kk⟩
  refine ⟨P, F, S, _, R, q, fun xs S1 q1 vs H1 F1 e1 R1 r1 => ?_⟩
  cases h1 : frcs S1 xs with
  | none => simp only [h1] at q1
  | some p =>
    obtain ⟨ds, S2⟩ := p
    simp only [h1] at q1
    obtain ⟨F2, e2, R2, r2⟩ := RelHs.frc R1 r1 h1
    rw [List.append_nil]
    exact ⟨F2, ds, EE, R2.dom, hB ▸ r2, q1, fun c es hc d H' hd hk => kk c es hc d H' (by rw [hB]; exact hd) fun b o hb hi => hk b o (R2.keep b o hb hi)⟩
theorem rs_expr (he : PE X e (tRE B cv E d)) (hs : swapsWith e none pos.line X.env = pure false := by rfl) : PS X (.Expr e pos) (tR B cv E d) := by
  refine PS_imp (ps_expr he hs) ?_
  rintro D σ H ⟨P, F, S, EE, R, q, k⟩
  exact ⟨P, F, S, EE, R, q, k⟩
theorem rs_ret (he : PE X e (tRE B cv E d)) : PS X (.Return (some e) pos) (tR B cv E d) := by
  refine PS_imp (ps_ret he) ?_
  rintro D σ H ⟨P, F, S, EE, R, q, k⟩
  exact ⟨P, F, S, EE, R, q, k⟩
theorem rs_set (i : Nat) {y : Str} {pos' : Pos} (hN : X.N.Nodup) (he : PE X e (tRE B cv E d)) (hi : X.N[i]? = some y := by rfl) (hx : Loc X.env.scope y := by first | exact Or.inl rfl | exact Or.inr rfl)
    (hs : swapsWith e (some (.Name y pos')) pos.line X.env = pure false := by rfl) (hf : X.fn y = true ∨ X.env.scope.names.lookup y = some .local := by first | exact .inl rfl | exact .inr rfl | assumption) :
    PS X (.Assign [.Name y pos'] e pos) (tR B cv E d) := by
  refine PS_imp (ps_set hN hi hx he hs hf) ?_
  rintro D σ H ⟨P, F, S, EE, R, q, k⟩
  exact ⟨P, F, S, EE, R, q, k⟩
end
section
variable {P : Program} {w : World} {K : PySem.W.Frag} {mg : Str → Option Value} {base : Heap} {x qual : Str} {params : Arguments} {body : List Stmt} {scope : Scope} {f : Addr} {fd : FuncData} {N ps : List Str} {k : Nat} {b : DenR} {cv : Str → Value}
theorem fn_R {n : Nat} (hn : n = ps.length) {M : Nat} (hM : M = N.length) (Fd : FunD K x qual params body scope [] [] f fd) (S : FnScope N ps scope)
    (hb : ∀ (cdv : Value) (A : Around) (outer : List Env) (s : Shared) (H : Hp) (E : XK), Room k (A.deeper (envOfC qual scope s.heap.objs.size f cdv)) → ∀ B : Bs, B.K = K →
      PSs (cxOf (L2.CX P w) P w K mg base N qual scope f cdv A outer s H E) body (tR B cv E b)) : FnOk P w K mg base (L2.CX P w) (k + 1) f fd ps (spR K cv (mkR n M b)) := by
  subst hn hM
  have len : ∀ vs H Q E, spR K cv (mkR ps.length N.length b) vs H Q E → vs.length = ps.length := by
    rintro vs H Q E ⟨F, ds, EE, h1, h2, h3, _⟩
    rw [h2.len]; exact h3.1
  refine Fd.ok S len fun cdv A outer s H vs Q E hr h => ?_
  obtain ⟨F, ds, EE, h1, h2, ⟨h3, h5⟩, h4⟩ := h
  refine ⟨_, hb cdv A outer s H E hr ⟨K, H, F, [], [], []⟩ rfl, [], F, _, EE, start_rel h1 h2, by rw [h3]; exact h5, fun c es hc d H' hd hk => h4 c es hc d H' hd fun b o hb => hk b o hb (by simp)⟩
/-- within such a def exceptions may leave -/
theorem takes_def {qual : Str} {scope : Scope} {f : Addr} {cdv : Value} {A : Around} {outer : List Env} {s : Shared} {H : Hp} {E : XK} : Takes (cxOf (L2.CX P w) P w K mg base N qual scope f cdv A outer s H E) fun cls d _ H => E cls d H :=
  takes_of rfl rfl rfl rfl
end
section
variable {P : Program} {w : World} {K : PySem.W.Frag} {mg : Str → Option Value} {base : Heap} {fa : List He.Fa} {fn : List He.DefD} {cs : List (Str × D)} {x : Str} {ps N : List Str} {k : Nat} {b : DenR}
/-- the class of a name -/
def cvK (K : PySem.W.Frag) (x : Str) : Value := .ref (He.ga K x)
theorem Hd.exc (hd : Hd fa fn cs K mg) {x : Str} (h : (x, .scr []) ∈ cs) : mg x = some (.ref (He.ga K x)) ∧ ExOk K (exNames cs) x := by
  obtain ⟨h', X, G, c⟩ := hd
  exact exB_ok X G (List.all_eq_true.mp c.c _ h)
theorem Hd.exn (hd : Hd fa fn cs K mg) (j : Nat) {x : Str} {l : List D} (h : cs[j]? = some (x, .scr l) := by rfl) : mg x = some (.ref (He.ga K x)) := by
  obtain ⟨h', X, G, c⟩ := hd
  exact exN_ok X G (List.all_eq_true.mp c.c _ (List.mem_of_getElem? h))
theorem exNames_mem {cs : List (Str × D)} {x : Str} {l : List D} (h : (x, .scr l) ∈ cs) : x ∈ exNames cs := by
  unfold exNames
  exact List.mem_filterMap.mpr ⟨_, h, rfl⟩
theorem rs_raiseH {X : Cx} {B : Bs} {E : XK} {p p2 pos : Pos} (hd : Hd fa fn cs X.K X.mg) (j : Nat) (hc : X.calm = true) (tk : Takes X fun cls d _ H => E cls d H) (hj : cs[j]? = some (x, .scr []) := by rfl) (hg : Gl X x := by rfl)
    (hdb : (x == ("__debug__" : Str)) = false := by decide) : PS X (.Raise (some (.Call (.Name x p) [] [] p2)) none pos) (tR B (cvK X.K) E (rRaise x)) := by
  obtain ⟨g1, g⟩ := hd.exc (List.mem_of_getElem? hj)
  exact rs_raise hc tk PySem.F.excBase_Exception g.ex g1 g.kp (raises_own g.sb g.ty) hg rfl hdb
theorem fn1_R {d : He.DefD} (hd : Hd fa fn cs K mg) (i j n : Nat) {M : Nat} (hi : fn[i]? = some d) (hj : fa[j]? = some (.glo x)) (ha : d.at_ = (x, none)) (hdv : d.dfl = []) (hkw : d.kwd = []) (S : FnScope N ps d.scope)
    (hbind : ∀ (kV doc pm : Value) (an : Option Addr) (cdv ct : Value) (us : List Value), us.length = ps.length → bindArgs (PySem.W.fnOf d.name d.qual d.params d.body d.scope .none kV doc pm an cdv ct) ⟨us, []⟩ = pure (ps.zip us))
    (hn : n = ps.length) (hM : M = N.length)
    (hb : ∀ (f : Addr) (cdv : Value) (A : Around) (outer : List Env) (s : Shared) (H : Hp) (E : XK), Room k (A.deeper (envOfC d.qual d.scope s.heap.objs.size f cdv)) → ∀ B : Bs, B.K = K →
      PSs (cxOf (L2.CX P w) P w K mg base N d.qual d.scope f cdv A outer s H E) d.body (tR B (cvK K) E b)) : FnR P w K mg base (k + 1) x ps (spR K (cvK K) (mkR n M b)) := by
  obtain ⟨h', X, G, c⟩ := hd
  obtain ⟨fd, F⟩ := c.d.def_ i hi
  unfold He.DefD.dvs He.DefD.kws at F
  rw [hdv, hkw] at F
  have e := He.glo_ok X G (c.d.fact j hj)
  refine ⟨He.fAd K d.at_, fd, ?_, F.kp, fn_R hn hM F S (hb _), F.bindsN hbind⟩
  rw [e, ha]; rfl
end
end DL
namespace DL
open PySem PySem.Spec PyProof.Rows L2
/-! ### try with several clauses, some with a name -/
abbrev Clause := Value × Option Nat × (Addr → Value → Option Addr → TS)
/-- the ends of a named clause's suite: the name is gone behind it -/
def endsN (o : Option Nat) (D : Ends) : Ends := match o with
  | none => D
  | some i => { nx := fun σ' H' => D.nx (σ'.set i none) H', rt := D.rt, bk := fun σ' H' => D.bk (σ'.set i none) H', ct := fun σ' H' => D.ct (σ'.set i none) H' }
def setN (o : Option Nat) (a : Addr) (σ : L2.St) : L2.St := match o with
  | none => σ
  | some i => σ.set i (some (.ref a))
def wCl (K : PySem.W.Frag) (Wout : WX) (D : Ends) : List Clause → WX
  | [] => Wout
  | (c, o, ts) :: r => fun cls d σ H => ∃ b, PySem.W.exmOne K cls c = some b ∧ (b = true → ∀ a, H a = none → ts a cls d (endsN o D) (setN o a σ) H) ∧ (b = false → wCl K Wout D r cls d σ H)
inductive ClOk (X : Cx) : List ExceptHandler → List Clause → Prop
  | nil : ClOk X [] []
  | plain {x : Str} {c : Value} {ts : Addr → Value → Option Addr → TS} {b₀ : Stmt} {suite : List Stmt} {np pos' : Pos} {hds : List ExceptHandler} {l : List Clause} (hc : Names X x c)
      (hsu : ∀ (a : Addr) (oe : Obj) (cls : Value) (d : Option Addr) (pn : List (Addr × Obj)), Zc cls d oe → (∃ vs, oe.data = .fields vs) → PSs (X.suite a ((a, oe) :: pn)) (b₀ :: suite) (ts a cls d)) (r : ClOk X hds l) :
      ClOk X (.ExceptHandler (some (.Name x np)) none (b₀ :: suite) pos' :: hds) ((c, none, ts) :: l)
  | named {x n : Str} {i : Nat} {c : Value} {ts : Addr → Value → Option Addr → TS} {b₀ : Stmt} {suite : List Stmt} {np pos' : Pos} {hds : List ExceptHandler} {l : List Clause} (hi : X.N[i]? = some n) (hln : X.env.kindOf n = some .local) (hc : Names X x c)
      (hsu : ∀ (a : Addr) (oe : Obj) (cls : Value) (d : Option Addr) (pn : List (Addr × Obj)), Zc cls d oe → (∃ vs, oe.data = .fields vs) → PSs (X.suite a ((a, oe) :: pn)) (b₀ :: suite) (ts a cls d)) (r : ClOk X hds l) :
      ClOk X (.ExceptHandler (some (.Name x np)) (some n) (b₀ :: suite) pos' :: hds) ((c, some i, ts) :: l)
section
variable {X : Cx} {body : List Stmt} {h₀ : ExceptHandler} {hds : List ExceptHandler} {l : List Clause} {pos : Pos} {tb : WX → TS} {Wout : WX}
theorem ps_try_cl (hs : X.stack = X.env :: X.outer) (hf : X.env.frame = some X.env.locals) (hN : X.N.Nodup) (tk : Takes X Wout)
    (hb : ∀ (W : WX) (pn : List (Addr × Obj)) (xe : Value → Shared → Prop), Takes (X.tr pn xe) W → PassesOwn (model X.prog X.w) X.A X.env xe → PSs (X.tr pn xe) body (tb W))
    (hh : ClOk X (h₀ :: hds) l) : PS X (.Try body (h₀ :: hds) [] [] pos) (fun D σ H => tb (wCl X.K Wout D l) D σ H) := by
  refine ⟨fun pins s σ H D I h => ?_⟩
  have ok := I.ok
  have hfr : X.A.frames = some (X.env :: X.outer) := by rw [ok.frames, hs]
  refine wpAny_Try_except ?_
  refine wpAny_mono ((hb (wCl X.K Wout D l) (X.pn ++ pins) (fun e s₁ => wpAny (model X.prog X.w) X.A (noteFrame e X.env) (fun _ s₂ => wpAny (model X.prog X.w) X.A (setFlight e none) (fun _ s₃ =>
    wpAny (model X.prog X.w) X.A (handleBy e X.env (h₀ :: hds)) (SP X pins D) X.xe s₃) X.xe s₂) X.xe s₁) (fun u s' xx => ?_) PassesOwn.looking).run [] s σ H D (I.toTry _) h) (fun f s1 hsp => ?_) (fun e s1 he => he)
  · obtain ⟨a, B, sI, pins', σ', H', cls, d, rfl, J', nb, up, sky, na, os, ag, w⟩ := xx
    have J : Inv X pins σ' H' sI := J'.ofTry ok
    have sky' : Sky B (X.env :: X.outer) a (Zc cls d) X.env.locals s'.heap := by rw [← hs]; exact sky
    show wpAny (model X.prog X.w) X.A (noteFrame (.ref a) X.env) _ _ _
    refine Sky.land Zc.steady hfr hf sky' fun h3 fl3 up3 => ?_
    have J3 : Inv X pins σ' H' { s' with heap := h3 } := J.landed nb fl3.1 (up.trans up3) os ag
    obtain ⟨oe3, vs3, he3, hz3, hd3⟩ := fl3.there
    have notFr : ∀ {h : Heap} {o : Obj} {vs : Array Value}, h.FunFrames B (X.env :: X.outer) → h.get? a = some o → o.data = .fields vs → a ∉ frs (X.env :: X.outer) := fun {h o vs} ff e dd hm => by
      obtain ⟨_, o', e', hnf⟩ := ff.mem hm
      rw [e] at e'; cases e'
      exact hnf _ dd
    have nfr := notFr fl3.2.2.1 he3 hd3
    have nL : a ≠ X.env.locals := fun z => nfr (List.mem_filterMap.mpr ⟨X.env, List.mem_cons_self, by rw [hf, z]⟩)
    have nF : a ∉ X.fs := fun hm => by
      obtain ⟨e, he, q⟩ := List.mem_filterMap.mp hm
      exact nfr (List.mem_filterMap.mpr ⟨e, List.mem_cons_of_mem _ he, q⟩)
    have S3 := J3.suite he3 hd3 na nL nF
    have LT : PySem.W.Looks (model X.prog X.w) h3 (typeOf (.ref a)) cls := fun A Q E s k q => wpAny_typeOf_ref (k _ _ he3) (by rw [hz3.1]; exact q)
    have test : ∀ {x : Str} {c : Value} {np : Pos}, Names X x c → ∀ {Q : Value → Shared → Prop} {E : Value → Shared → Prop}, Q c { s' with heap := h3 } → wpAny (model X.prog X.w) (X.A.mark (some (.ref a))) (eval (.Name x np) X.env) Q E { s' with heap := h3 } := fun {x c np} hc {Q E} q => by
      obtain ⟨hg, hdbg, hm | ⟨hm, hv, hnn⟩⟩ := hc
      · exact ld_glob (X := X.suite a ((a, oe3) :: (X.pn ++ pins))) S3 hg hm q hdbg
      · exact ld_blt (X := X.suite a ((a, oe3) :: (X.pn ++ pins))) S3 hg hm hv q hnn hdbg
    have go : ∀ {hds' : List ExceptHandler} {l' : List Clause}, ClOk X hds' l' → wCl X.K Wout D l' cls d σ' H' →
        wpAny (model X.prog X.w) X.A (handleBy (.ref a) X.env hds') (SP X pins D) X.xe { s' with heap := h3 } := by
      intro hds' l' hk
      induction hk with
      | nil =>
        intro w
        refine wpAny_handleBy_nil ?_
        obtain ⟨k1, k2, k3, oe, vs, T, oT, ts', he, hz, hd, h1, hr⟩ := id fl3
        unfold PySem.passOn
        refine wpAny_bind (wpAny_field he hd h1 ?_)
        rw [if_neg (show ¬ ((Value.ref T == Value.none) = true) from by simp)]
        have fin : wpAny (model X.prog X.w) X.A (setFlight (.ref a) X.env.frame) (fun _ s4 => wpAny (model X.prog X.w) X.A (throw (.ref a) : Sem Flow) (SP X pins D) X.xe s4) X.xe { s' with heap := h3 } := by
          rw [hf]
          refine HandSPX.setFlight_upZ fl3 fun h4 hh4 up4 => wpAny_throw (tk _ _ ?_)
          exact ⟨a, B, sI, pins, σ', H', cls, d, rfl, J, nb, (up.trans up3).trans up4, .inr (.inr (by rw [hs]; exact hh4)), na, os, ag, w⟩
        first
          | exact wpAny_bind (wpAny_pure (wpAny_bind fin))
          | exact wpAny_bind fin
      | @plain x c ts b₀ suite np pos' hds2 l2 hc hsu r ih =>
        intro w
        obtain ⟨b, hb1, hyes, hno⟩ := w
        refine wpAny_handleBy_cons (codeAny_handlers_test ?_) (by intro q; cases q)
        have LM := PySem.W.exm_one (M := model X.prog X.w) (J3.kIn) LT hb1
        refine test hc (LM.here ?_)
        cases b with
        | true =>
          refine codeAny_handlers_suite ?_
          refine HandSPX.lands_againZ fl3 fun h4 fl4 up4 => ?_
          have J4 : Inv X pins σ' H' { s' with heap := h4 } := J.landed nb fl4.1 ((up.trans up3).trans up4) os ag
          obtain ⟨oe4, vs4, he4, hz4, hd4⟩ := fl4.there
          have S4 := J4.suite he4 hd4 na nL nF
          refine wpAny_mono ((hsu a oe4 cls d (X.pn ++ pins) hz4 ⟨_, hd4⟩).run [] _ _ H' _ S4 (hyes rfl a na)) (fun f s6 hsp => ?_) (fun _ _ z => False.elim z)
          cases f with
          | next =>
            obtain ⟨σ6, H6, S6, q6⟩ := hsp
            exact ⟨_, _, S6.unsuite ok, q6⟩
          | brk =>
            obtain ⟨σ6, H6, S6, q6⟩ := hsp
            exact ⟨_, _, S6.unsuite ok, q6⟩
          | cont =>
            obtain ⟨σ6, H6, S6, q6⟩ := hsp
            exact ⟨_, _, S6.unsuite ok, q6⟩
          | ret u =>
            obtain ⟨v6, σ6, H6, S6, r6, q6⟩ := hsp
            exact ⟨_, _, _, S6.unsuite ok, r6, q6⟩
        | false =>
          show wpAny _ X.A (handleBy (.ref a) X.env hds2) _ _ _
          exact ih (hno rfl)
      | @named x n i c ts b₀ suite np pos' hds2 l2 hi hln hc hsu r ih =>
        intro w
        obtain ⟨b, hb1, hyes, hno⟩ := w
        refine wpAny_handleBy_cons (codeAny_handlers_test ?_) (by intro q; cases q)
        have LM := PySem.W.exm_one (M := model X.prog X.w) (J3.kIn) LT hb1
        refine test hc (LM.here ?_)
        cases b with
        | true =>
          refine codeAny_handlers_suite_as ?_
          refine HandSPX.lands_againZ fl3 fun h4 fl4 up4 => ?_
          have J4 : Inv X pins σ' H' { s' with heap := h4 } := J.landed nb fl4.1 ((up.trans up3).trans up4) os ag
          obtain ⟨oe4, vs4, he4, hz4, hd4⟩ := fl4.there
          have S4 := J4.suite he4 hd4 na nL nF
          have hloc : Loc X.env.scope n := .inl hln
          refine store_ok (X := X.suite a ((a, oe4) :: (X.pn ++ pins))) (v := .ref a) S4 hN hi hloc rfl (fun s5 S5 => ?_) (.inr hln)
          refine wpAny_mono ((hsu a oe4 cls d (X.pn ++ pins) hz4 ⟨_, hd4⟩).run [] s5 _ H' _ S5 (hyes rfl a na)) (fun f s6 hsp => ?_) (fun _ _ z => False.elim z)
          have end_ : ∀ {σ6 : L2.St} {H6 : Hp} {Q : Shared → Prop}, Inv (X.suite a ((a, oe4) :: (X.pn ++ pins))) [] σ6 H6 s6 → (∀ s7, Inv X pins (σ6.set i none) H6 s7 → Q s7) →
              wpAny (model X.prog X.w) X.A (do bindName X.env n .none; unbindBehindTheSuite X.env n pos') (fun _ s7 => Q s7) X.xe s6 := fun {σ6 H6 Q} S6 hq => gone_ok (S6.unsuite ok) hN hi hln hq
          cases f with
          | next =>
            obtain ⟨σ6, H6, S6, q6⟩ := hsp
            exact end_ S6 fun s7 J7 => ⟨_, _, J7, q6⟩
          | brk =>
            obtain ⟨σ6, H6, S6, q6⟩ := hsp
            exact end_ S6 fun s7 J7 => ⟨_, _, J7, q6⟩
          | cont =>
            obtain ⟨σ6, H6, S6, q6⟩ := hsp
            exact end_ S6 fun s7 J7 => ⟨_, _, J7, q6⟩
          | ret u =>
            obtain ⟨v6, σ6, H6, S6, r6, q6⟩ := hsp
            exact end_ S6 fun s7 J7 => ⟨_, _, _, J7, r6, q6⟩
        | false =>
          show wpAny _ X.A (handleBy (.ref a) X.env hds2) _ _ _
          exact ih (hno rfl)
    exact go hh w
  · cases f with
    | next =>
      obtain ⟨σ', H', J', q⟩ := hsp
      exact wpAny_execs_nil ⟨σ', H', J'.ofTry ok, q⟩
    | brk =>
      obtain ⟨σ', H', J', q⟩ := hsp
      exact ⟨σ', H', J'.ofTry ok, q⟩
    | cont =>
      obtain ⟨σ', H', J', q⟩ := hsp
      exact ⟨σ', H', J'.ofTry ok, q⟩
    | ret u =>
      obtain ⟨v, σ', H', J', r, q⟩ := hsp
      exact ⟨v, σ', H', J'.ofTry ok, r, q⟩
end
end DL
namespace DL
open PySem PySem.Spec PyProof.Rows L2
/-! ### the suite of an except clause; isinstance of the exception that it holds -/
/-- isinstance(e, C), e at slot i -/
def dIsE (i : Nat) (a : Addr) (b : Bool) : Den := fun S Q => S[i]? = some (.ex a) ∧ Q (.pu (.bl b)) S
section
variable {X : Cx} {B : Bs}
theorem de_isE {a : Addr} {oe : Obj} {pn : List (Addr × Obj)} {c y e : Str} {es : List Str} (i : Nat) {p p1 p2 pos : Pos} (ok : ExOk X.K es c) (hy : y ∈ es) (my : X.mg y = some (.ref (He.ga X.K y))) (hz : Zc (cvK X.K c) none oe) (hf : ∃ vs, oe.data = .fields vs)
    (hm : X.mg "isinstance" = none) (hN : X.N[i]? = some e := by rfl) (hv : Vis X.env.scope e := by first | exact Or.inl rfl | exact Or.inr (Or.inl rfl))
    (hg : Gl X "isinstance" := by rfl) (hgy : Gl X y := by rfl) (hdb : (e == ("__debug__" : Str)) = false := by decide) (hcd : (e == ("__classdict__" : Str)) = false := by decide) (hdy : (y == ("__debug__" : Str)) = false := by decide)
    (he1 : starEach [Expr.Name e p1, .Name y p2] X.env = (false, eval (.Name e p1) X.env) :: starEach [.Name y p2] X.env := by rfl) (he : starEach [Expr.Name y p2] X.env = (false, eval (.Name y p2) X.env) :: starEach [] X.env := by rfl)
    (hpl : (backTo pos (starEach [Expr.Name y p2] X.env)).any (·.1) = false := by rfl) :
    PE (X.suite a ((a, oe) :: pn)) (.Call (.Name "isinstance" p) [.Name e p1, .Name y p2] [] pos) (tD B (dIsE i a (subE c y))) := by
  refine PE_imp (pe_callB (call_isE (X := X) ok.c hz hf) (show Gl (X.suite a ((a, oe) :: pn)) "isinstance" from hg) hm (by decide +kernel) (pa_cons (pe_var (X := X.suite a ((a, oe) :: pn)) (i := i) hN hv hdb hcd) (pa_cons (pe_glob (X := X.suite a ((a, oe) :: pn)) (v := .ref (He.ga X.K y)) hgy my rfl hdy) pa_nil he) he1) (by decide) (by decide) he1 hpl) ?_
  rintro σ H Q ⟨P, F, S, QQ, R, ⟨q1, q2⟩, k⟩
  rcases R.sl i _ q1 with z | ⟨v, e1, r⟩
  · cases z
  · have r' : v = .ref a := r
    subst r'
    refine ⟨.ref a, e1, .ref (He.ga X.K y), .ref (He.ga X.K y), _, rfl, fun u r => ?_, (ok.all y hy).2, ?_⟩
    · exact r
    · exact k _ _ q2 _ H F Ext.refl R rv_bl
end
/-- a slot is emptied -/
theorem Rel.unset {B : Bs} {F : Addr → Prop} {σ : L2.St} {H : Hp} {S : Sg} (R : Rel B F σ H S) (i : Nat) : Rel B F (σ.set i none) H (S.set i .no) := by
  have sg : ∀ {j : Nat} {v : V}, (σ.set i none)[j]? = some (some v) → j ≠ i ∧ σ[j]? = some (some v) := fun {j v} e => by
    by_cases z : i = j
    · subst z
      by_cases hl : i < σ.length
      · rw [List.getElem?_set_self hl] at e; cases e
      · rw [List.set_eq_of_length_le (by omega), List.getElem?_eq_none (by omega)] at e; cases e
    · rw [List.getElem?_set_ne z] at e; exact ⟨fun h => z h.symm, e⟩
  have ow : ∀ j, ownAt (S.set i .no) j = true → ownAt S j = true := fun j hj => by
    rw [ownAt_set] at hj
    split at hj
    · cases hj
    · exact hj
  refine ⟨by simp [R.len], fun j s hs => ?_, fun a b u ha hb ea eb => R.dist a b u (ow a ha) (ow b hb) (sg ea).2 (sg eb).2, R.keep, R.ios, R.frz, R.dom, R.iof, fun p hp => ?_, R.tab, R.pnl⟩
  · by_cases z : i = j
    · subst z
      by_cases hl : i < S.length
      · rw [List.getElem?_set_self hl] at hs; cases hs; exact .inl rfl
      · rw [List.set_eq_of_length_le (by omega), List.getElem?_eq_none (by omega)] at hs; cases hs
    · rw [List.getElem?_set_ne z] at hs ⊢
      exact R.sl j s hs
  · obtain ⟨h1, h2, h3, h4⟩ := R.pns p hp
    exact ⟨h1, h2, h3, fun j hj z => h4 j (ow j hj) (sg z).2⟩
/-! ### a def that calls what it got in a try -/
/-- a clause: the class's name, the slot of its name, the suite's reading for (where, class, what it carries) -/
abbrev CD := Str × Option Nat × (Addr → Str → List D → DenS)
def endsO (o : Option Nat) (D : DEnds) : DEnds := match o with
  | none => D
  | some i => { nx := fun S => D.nx (S.set i .no), rt := D.rt, bk := fun S => D.bk (S.set i .no), ct := fun S => D.ct (S.set i .no) }
def setO (o : Option Nat) (a : Addr) (S : Sg) : Sg := match o with
  | none => S
  | some i => S.set i (.ex a)
/-- the clause that takes c -/
def wSel : List CD → Str → List D → DEnds → Sg → Prop
  | [], _, _, _, _ => False
  | (y, o, b) :: r, c, es, DD, S => (subE c y = true ∧ ∀ a, b a c es (endsO o DD) (setO o a S)) ∨ (subE c y = false ∧ wSel r c es DD S)
/-- an exception that may come: its class's facts, what it carries -/
structure Ek (K : PySem.W.Frag) (es : List Str) (H : Hp) (c : Str) (xs : List D) (d : Option Addr) : Prop where
  ok : ExOk K es c
  er : ErD K H xs d
inductive ClD (X : Cx) (es : List Str) : List ExceptHandler → List CD → Prop
  | nil : ClD X es [] []
  | plain {y : Str} {b : Addr → Str → List D → DenS} {b₀ : Stmt} {suite : List Stmt} {np pos' : Pos} {hds : List ExceptHandler} {l : List CD} (hy : y ∈ es) (hc : Names X y (cvK X.K y))
      (hsu : ∀ (a : Addr) (oe : Obj) (c : Str) (xs : List D) (d : Option Addr) (pn : List (Addr × Obj)) (H : Hp), Ek X.K es H c xs d → Zc (cvK X.K c) d oe → (∃ vs, oe.data = .fields vs) → ∀ B : Bs, B.K = X.K → PSs (X.suite a ((a, oe) :: pn)) (b₀ :: suite) (tS B (b a c xs))) (r : ClD X es hds l) :
      ClD X es (.ExceptHandler (some (.Name y np)) none (b₀ :: suite) pos' :: hds) ((y, none, b) :: l)
  | named {y n : Str} {i : Nat} {b : Addr → Str → List D → DenS} {b₀ : Stmt} {suite : List Stmt} {np pos' : Pos} {hds : List ExceptHandler} {l : List CD} (hy : y ∈ es) (hi : X.N[i]? = some n) (hln : X.env.kindOf n = some .local) (hc : Names X y (cvK X.K y))
      (hsu : ∀ (a : Addr) (oe : Obj) (c : Str) (xs : List D) (d : Option Addr) (pn : List (Addr × Obj)) (H : Hp), Ek X.K es H c xs d → Zc (cvK X.K c) d oe → (∃ vs, oe.data = .fields vs) → ∀ B : Bs, B.K = X.K → PSs (X.suite a ((a, oe) :: pn)) (b₀ :: suite) (tS B (b a c xs))) (r : ClD X es hds l) :
      ClD X es (.ExceptHandler (some (.Name y np)) (some n) (b₀ :: suite) pos' :: hds) ((y, some i, b) :: l)
/-- the frame of such a def over the heap H -/
abbrev wB (K : PySem.W.Frag) (H : Hp) : Bs := ⟨K, H, fun _ => False, [], [], []⟩
/-- the suite's wish -/
def tsD (K : PySem.W.Frag) (es : List Str) (b : Addr → Str → List D → DenS) (a : Addr) (cls : Value) (d : Option Addr) : TS := fun Dd σ H => ∃ x : Hp × Str × List D, (cls = cvK K x.2.1 ∧ Ek K es x.1 x.2.1 x.2.2 d) ∧ tS (wB K x.1) (b a x.2.1 x.2.2) Dd σ H
def clD (K : PySem.W.Frag) (es : List Str) : List CD → List Clause
  | [] => []
  | (y, o, b) :: r => (cvK K y, o, tsD K es b) :: clD K es r
theorem ClD.ok {X : Cx} {es : List Str} {hds : List ExceptHandler} {l : List CD} (h : ClD X es hds l) : ClOk X hds (clD X.K es l) := by
  induction h with
  | nil => exact .nil
  | plain hy hc hsu r ih =>
    refine .plain hc (fun a oe cls d pn hz hf => ?_) ih
    refine ⟨fun pins s σ H D I w => ?_⟩
    obtain ⟨⟨Hx, c, xs⟩, ⟨e1, e2⟩, w⟩ := w
    dsimp only at e1 e2 w
    subst e1
    exact (hsu a oe c xs d pn Hx e2 hz hf _ rfl).run pins s σ H D I w
  | named hy hi hln hc hsu r ih =>
    refine .named hi hln hc (fun a oe cls d pn hz hf => ?_) ih
    refine ⟨fun pins s σ H D I w => ?_⟩
    obtain ⟨⟨Hx, c, xs⟩, ⟨e1, e2⟩, w⟩ := w
    dsimp only at e1 e2 w
    subst e1
    exact (hsu a oe c xs d pn Hx e2 hz hf _ rfl).run pins s σ H D I w
theorem ClD.mem {X : Cx} {es : List Str} {hds : List ExceptHandler} {l : List CD} (h : ClD X es hds l) : ∀ p ∈ l, p.1 ∈ es := by
  induction h with
  | nil => intro p hp; cases hp
  | plain hy hc hsu r ih => intro p hp; exact (List.mem_cons.mp hp).elim (fun e => by rw [e]; exact hy) (ih p)
  | named hy hi hln hc hsu r ih => intro p hp; exact (List.mem_cons.mp hp).elim (fun e => by rw [e]; exact hy) (ih p)
/-- what comes back of such a def, over the heap H behind the call -/
def wFin (K : PySem.W.Frag) (Q : VK) (H : Hp) (QQ : Rv → Prop) : Prop := ∀ rv, QQ rv → ∀ v H' F', (∀ a, F' a → H a = none) → (∀ b o, H b = some o → H' b = some o) → (∀ a, F' a → H' a ≠ none) → RetOk K F' H H' rv v → Q v H'
/-- the ends of the def's body -/
def wEnds (K : PySem.W.Frag) (Q : VK) : Ends := { nx := fun _ H' => Q .non H', rt := Q }
def wD (QQ : Rv → Prop) : DEnds := ⟨fun _ => QQ (.pu .non), fun rv _ => QQ rv, fun _ => False, fun _ => False⟩
theorem wends {K : PySem.W.Frag} {Q : VK} {H : Hp} {QQ : Rv → Prop} (f : wFin K Q H QQ) : Stands (wB K H) [] (fun _ => False) H (wD QQ) (wEnds K Q) := by
  have key : ∀ {rv : Rv} {v : V} {H' : Hp} {F' : Addr → Prop} {σ' : L2.St} {S' : Sg}, QQ rv → Rel (Bs.p (wB K H) []) F' σ' H' S' → RetOk K F' H H' rv v → Q v H' := by
    intro rv v H' F' σ' S' q R r
    exact f rv q v H' F' (fun a ha => (R.frz a ha).elim False.elim id) (fun b o hb => R.keep b o hb (by simp [Bs.p])) R.dom r
  refine ⟨fun S' q σ' H' F' e R => ?_, fun S' q => q.elim, fun S' q => q.elim, fun rv S' q v σ' H' F' e R r => ?_⟩
  · exact key (v := .non) q R (rp_non (K := K) (F := F') (H := H'))
  · refine key q R ?_
    cases rv with
    | pu d => exact r
    | ol ds => obtain ⟨a, vs, e1, e2, e3, e4, e5⟩ := r; exact ⟨a, vs, e1, e4, e3, e2, e5⟩
    | od ds => obtain ⟨a, vs, e1, e2, e3, e4, e5⟩ := r; exact ⟨a, vs, e1, e4, e3, e2, e5⟩
    | al i => exact r
/-- nothing known of the names -/
theorem rel_none {K : PySem.W.Frag} {H : Hp} {σ : L2.St} {n : Nat} (h : σ.length = n) : Rel (Bs.p (wB K H) []) (fun _ => False) σ H (List.replicate n .no) := by
  have noown : ∀ i, ownAt (List.replicate n Sl.no) i = false := fun i => by
    unfold ownAt
    by_cases h2 : i < n
    · rw [List.getElem?_replicate, if_pos h2]; rfl
    · rw [List.getElem?_replicate, if_neg h2]
  refine ⟨by rw [h, List.length_replicate], fun i s hs => ?_, fun i j v hi => by (rw [noown] at hi; cases hi), fun b o hb _ => hb, fun b hb => (by cases hb), fun a ha => ha.elim, fun a ha => ha.elim, fun b hb => (by cases hb), fun p hp => (by cases hp), fun p hp => (by cases hp), fun p hp => (by cases hp)⟩
  rw [List.getElem?_replicate] at hs
  split at hs
  · cases hs; exact .inl rfl
  · cases hs
/-- the rest behind the try -/
def tPost (K : PySem.W.Frag) (b : DenS) : TS := fun D σ H => ∃ H1 : Hp, True ∧ tS (wB K H1) b D σ H
/-- the data's ends in a suite: the rest follows -/
def wMid (post : DenS) (QQ : Rv → Prop) : DEnds := ⟨fun S => post (wD QQ) S, fun rv _ => QQ rv, fun _ => False, fun _ => False⟩
theorem Stands.mid {K : PySem.W.Frag} {Q : VK} {H : Hp} {post : DenS} {QQ : Rv → Prop} (f : wFin K Q H QQ) : Stands (wB K H) [] (fun _ => False) H (wMid post QQ) { wEnds K Q with nx := tPost K post (wEnds K Q) } := by
  have s := wends f
  exact ⟨fun S' q σ' H' F' e R => ⟨H, trivial, [], F', S', _, R, q, s.ext e⟩, fun S' q => q.elim, fun S' q => q.elim, fun rv S' q => s.rt rv S' q⟩
theorem Stands.endsN {K : PySem.W.Frag} {H : Hp} {DD : DEnds} {D : Ends} {o : Option Nat} (s : Stands (wB K H) [] (fun _ => False) H DD D) : Stands (wB K H) [] (fun _ => False) H (endsO o DD) (DL.endsN o D) := by
  cases o with
  | none => exact s
  | some i => exact ⟨fun S' q σ' H' F' e R => s.nx _ q _ H' F' e (R.unset i), fun S' q σ' H' F' e R => s.bk _ q _ H' F' e (R.unset i), fun S' q σ' H' F' e R => s.ct _ q _ H' F' e (R.unset i), s.rt⟩
theorem Rel.setN {B : Bs} {F : Addr → Prop} {σ : L2.St} {H : Hp} {S : Sg} (R : Rel B F σ H S) (o : Option Nat) (a : Addr) : Rel B F (DL.setN o a σ) H (setO o a S) := by
  cases o with
  | none => exact R
  | some i => exact R.store (s := .ex a) (v := .ref a) rfl (fun z => nomatch z) (fun z => nomatch z)
theorem wcl_ok {K : PySem.W.Frag} {es : List Str} {Q : VK} {H : Hp} {post : DenS} {QQ : Rv → Prop} {c : Str} {xs : List D} {d : Option Addr} {σ : L2.St} {n : Nat} {Wout : WX} (f : wFin K Q H QQ) (ek : Ek K es H c xs d) (hl : σ.length = n) : ∀ (l : List CD), (∀ p ∈ l, p.1 ∈ es) → wSel l c xs (wMid post QQ) (List.replicate n .no) →
    wCl K Wout { wEnds K Q with nx := tPost K post (wEnds K Q) } (clD K es l) (cvK K c) d σ H
  | [], _, h => h.elim
  | (y, o, b) :: r, hm, h => by
    refine ⟨subE c y, (ek.ok.all y (hm _ List.mem_cons_self)).1, fun e a na => ?_, fun e => ?_⟩
    · rcases h with ⟨_, h⟩ | ⟨z, _⟩
      · exact ⟨(H, c, xs), ⟨rfl, ek⟩, [], fun _ => False, _, _, (rel_none hl).setN o a, h a, (Stands.mid f).endsN⟩
      · rw [z] at e; cases e
    · rcases h with ⟨z, _⟩ | ⟨_, h⟩
      · rw [z] at e; cases e
      · exact wcl_ok f ek hl r (fun p hp => hm p (List.mem_cons_of_mem _ hp)) h
/-- an exception's wish in such a def -/
def wExc (K : PySem.W.Frag) (es : List Str) (l : List CD) (n : Nat) (post : DenS) (Q : VK) : XK := fun cls d H1 => ∃ c xs QQ, cls = cvK K c ∧ Ek K es H1 c xs d ∧ wSel l c xs (wMid post QQ) (List.replicate n .no) ∧ wFin K Q H1 QQ
/-- what such a def makes of what it got; σ0: the names at the try -/
def TTw (K : PySem.W.Frag) (es : List Str) (l : List CD) (n : Nat) (σ0 : Addr → L2.St) (post : DenS) : (XK → Hp → VK → Prop) → Hp → VK → Prop := fun tl H Q =>
  ∀ f : Addr, tl (wExc K es l n post Q) H fun _ H1 => tPost K post (wEnds K Q) (σ0 f) H1
theorem takes_len {X : Cx} {W : WX} (tk : Takes X W) : Takes X fun cls d σ H => σ.length = X.N.length → W cls d σ H := fun u s' x => by
  obtain ⟨a, B, sI, pins, σ, H, cls, d, e, I, nb, up, sky, na, os, ag, w⟩ := x
  exact tk u s' ⟨a, B, sI, pins, σ, H, cls, d, e, I, nb, up, sky, na, os, ag, w I.len⟩
/-- the context of such a def -/
abbrev wCx (X : Cx) (Ng : List Str) (x : Str) (sg : Scope) (g : Addr) (cdg : Value) (s : Shared) (H : Hp) : Cx := (cxOf C8.CX0 X.prog X.w X.K X.mg X.base Ng x sg g cdg X.A X.stack s H C8.E0).nox
theorem try_gives {X : Cx} {Ng : List Str} {x a q : Str} {sg : Scope} {g : Addr} {cdg : Value} {es : List Str} {l : List CD} {h₀ : ExceptHandler} {hds : List ExceptHandler} {n : Nat} {b : DenS} {p1 p2 p3 p8 : Pos} {f c' : Addr} {s : Shared} {H : Hp} {Q : VK} {tl : XK → Hp → VK → Prop} {post : List Stmt} (hN : Ng.Nodup) (hn : n = Ng.length)
    (hcl : ClD (wCx X Ng x sg g cdg s H) es (h₀ :: hds) l) (hpost : ∀ B : Bs, B.K = X.K → PSs (wCx X Ng x sg g cdg s H) post (tS B b))
    (act : ∀ (W : WX) (pn : List (Addr × Obj)) (xe : Value → Shared → Prop) (E : XK) (p1 p2 : Pos), Takes ((cxOf C8.CX0 X.prog X.w X.K X.mg X.base Ng x sg g cdg X.A X.stack s H C8.E0).tr pn xe) W → (∀ cls d σ' H', E cls d H' → W cls d σ' H') →
      PE ((cxOf C8.CX0 X.prog X.w X.K X.mg X.base Ng x sg g cdg X.A X.stack s H C8.E0).tr pn xe) (.Call (.Name a p1) [] [] p2) (fun σZ HZ Q => σZ[0]? = some (some (.ref f)) ∧ HZ c' = some (LamX.CodeO c' q) ∧ tl E HZ Q)) :
    PSs (wCx X Ng x sg g cdg s H) (.Try [.Expr (.Call (.Name a p1) [] [] p2) p3] (h₀ :: hds) [] [] p8 :: post)
      (fun D σ H1 => D = wEnds X.K Q ∧ σ[0]? = some (some (.ref f)) ∧ H1 c' = some (LamX.CodeO c' q) ∧ tl (wExc X.K es l n b Q) H1 fun _ H2 => tPost X.K b (wEnds X.K Q) σ H2) := by
  subst hn
  refine PSs_imp (pss_cons (ps_try_cl (X := wCx X Ng x sg g cdg s H) (Wout := fun _ _ _ _ => False) (tb := fun W D σ H => ∃ Ech : XK, (∀ cls d σ' H', Ech cls d H' → σ'.length = Ng.length → W cls d σ' H') ∧ σ[0]? = some (some (.ref f)) ∧ H c' = some (LamX.CodeO c' q) ∧ tl Ech H fun _ H' => D.nx σ H')
    rfl rfl hN LamX.takes0 (fun W pn xe tk _ => ?_) hcl.ok) (PSs_ex (X := wCx X Ng x sg g cdg s H) (p := fun _ : Hp => True) (t := fun H1 => tS (wB X.K H1) b) fun H1 _ => hpost _ rfl)) ?_
  · refine ⟨fun pins s' σ H' D I h' => ?_⟩
    obtain ⟨Ech, hW, h1, h2, h3⟩ := h'
    have hp := act _ pn xe Ech p1 p2 (takes_len tk) hW
    exact (pss_one (ps_expr (pos := p3) hp)).run pins s' σ H' D I ⟨h1, h2, h3⟩
  · rintro D σ H1 ⟨rfl, h0, hc, h⟩
    refine ⟨wExc X.K es l Ng.length b Q, fun cls d σ' H' hE hl' => ?_, h0, hc, h⟩
    obtain ⟨c, xs, QQ, rfl, ek, hs, hf⟩ := hE
    exact wcl_ok hf ek hl' l hcl.mem hs
theorem word_gives {X : Cx} {Ng : List Str} {x a q : Str} {sg : Scope} {g : Addr} {cdg : Value} {es : List Str} {l : List CD} {h₀ : ExceptHandler} {hds : List ExceptHandler} {n : Nat} {b : DenS} {p1 p2 p3 p8 : Pos} {post : List Stmt} (hN : Ng.Nodup) (hn : n = Ng.length) (h0 : ∀ f : Addr, (L2.start Ng [V.ref f])[0]? = some (some (V.ref f)))
    (hcl : ∀ (s : Shared) (H : Hp), ClD (wCx X Ng x sg g cdg s H) es (h₀ :: hds) l) (hpost : ∀ (s : Shared) (H : Hp) (B : Bs), B.K = X.K → PSs (wCx X Ng x sg g cdg s H) post (tS B b)) :
    LamX.GivesTo X Ng x sg g cdg (.Try [.Expr (.Call (.Name a p1) [] [] p2) p3] (h₀ :: hds) [] [] p8 :: post) a q (TTw X.K es l n (fun f => L2.start Ng [.ref f]) b) := by
  intro f c' s H Q tl act hc h
  exact ⟨_, try_gives hN hn (hcl s H) (hpost s H) act, rfl, h0 f, hc, h f⟩
/-- w = 'let' first -/
theorem word_gives1 {X : Cx} {Ng : List Str} {x a q y z : Str} {sg : Scope} {g : Addr} {cdg : Value} {es : List Str} {l : List CD} {h₀ : ExceptHandler} {hds : List ExceptHandler} {n i j : Nat} {b : DenS} {p1 p2 p3 p8 py pz pa : Pos} {post : List Stmt} (hN : Ng.Nodup) (hn : n = Ng.length) (h0 : ∀ f : Addr, (L2.start Ng [V.ref f])[0]? = some (some (V.ref f))) (hi : Ng[i]? = some y) (hi0 : i ≠ 0) (hy : sg.names.lookup y = some .local)
    (hcl : ∀ (s : Shared) (H : Hp), ClD (wCx X Ng x sg g cdg s H) es (h₀ :: hds) l) (hpost : ∀ (s : Shared) (H : Hp) (B : Bs), B.K = X.K → PSs (wCx X Ng x sg g cdg s H) post (tS B b)) :
    LamX.GivesTo X Ng x sg g cdg (.Assign [.Name y py] (.Constant (.str z) j pz) pa :: .Try [.Expr (.Call (.Name a p1) [] [] p2) p3] (h₀ :: hds) [] [] p8 :: post) a q (TTw X.K es l n (fun f => (L2.start Ng [.ref f]).set i (some (.str z))) b) := by
  intro f c' s H Q tl act hc h
  refine ⟨_, pss_cons (ps_set (X := wCx X Ng x sg g cdg s H) (te := tC (.str z)) hN hi (.inl hy) pe_str rfl (.inr hy)) (try_gives hN hn (hcl s H) (hpost s H) act), rfl, ?_, hc, h f⟩
  rw [List.getElem?_set_ne hi0]
  exact h0 f
end DL
namespace DL
open PySem PySem.Spec PyProof.Rows L2
/-! ### w(lambda: f(..)) -/
abbrev DenL := Sg → (Str → List D → Sg → Prop) → Prop
/-- the body raises; the names' content where it does -/
def tREL (B : Bs) (E : XK) (d : DenL) : TE := fun σ H _ => ∃ P F S EE, Rel (B.p P) F σ H S ∧ d S EE ∧ ∀ c xs S', EE c xs S' → ∀ dd H' F', Ext F H F' H' → Rel (B.p P) F' σ H' S' → ErD B.K H' xs dd → E (cvK B.K c) dd H'
def rLam (g : FDenR) (da : DenA) : DenL := fun S EE => da S fun xs S1 => match frcs S1 xs with
  | some (ds, S2) => g ds fun c es => EE c es S2
  | none => False
section
variable {X : Cx} {B : Bs} {E : XK} {e : Expr} {es : List Expr} {pos p : Pos} {g : FDenR} {da : DenA} {x : Str} {ps : List Str} {k : Nat}
theorem rl_fn (G : FnR X.prog X.w X.K X.mg X.base k x ps (spR X.K (cvK X.K) g)) (hr : Room k X.A) (hB : B.K = X.K) (tk : Takes X fun cls d _ H => E cls d H) (ha : PA X (e :: es) (tDA B da)) (hg : Gl X x := by rfl)
    (hdb : (x == ("__debug__" : Str)) = false := by decide) (he : starEach (e :: es) X.env = (false, eval e X.env) :: starEach es X.env := by rfl) (hpl : (backTo pos (starEach es X.env)).any (·.1) = false := by rfl) :
    PE X (.Call (.Name x p) (e :: es) [] pos) (tREL B E (rLam g da)) := by
  obtain ⟨f, fd, g1, g2, g3, g4⟩ := G
  refine PE_imp (pe_call g3 hr hg g1 g2 g4 .nil (passes_call (E := E) tk fun _ _ _ _ h => h) ha hdb he hpl) ?_
  rintro σ H Q ⟨P, F, S, EE, R, q, kk⟩
  refine ⟨P, F, S, _, R, q, fun xs S1 q1 vs H1 F1 e1 R1 r1 => ?_⟩
  cases h1 : frcs S1 xs with
  | none => simp only [h1] at q1
  | some p =>
    obtain ⟨ds, S2⟩ := p
    simp only [h1] at q1
    obtain ⟨F2, e2, R2, r2⟩ := RelHs.frc R1 r1 h1
    rw [List.append_nil]
    refine ⟨F2, ds, _, R2.dom, hB ▸ r2, q1, fun c es hc d H' hd hk => ?_⟩
    have ex : Ext F2 H1 F2 H' := ⟨fun _ h _ => h, fun a ha _ => by
      cases q : H1 a with
      | none => exact absurd q (R2.dom a ha)
      | some o => exact hk a o q⟩
    have R3 := R2.grow ex hk (fun a ha => .inl ha) fun a ha => by
      cases q : H1 a with
      | none => exact absurd q (R2.dom a ha)
      | some o => rw [hk a o q]; exact fun z => nomatch z
    have z := kk c es S2 hc d H' F2 ((e1.trans e2).trans ex) R3 (by rw [hB]; exact hd)
    rw [hB] at z
    exact z
end
/-- the maker's frame: its tables may change, no other; what is lent are tables -/
structure LamB (B : Bs) : Prop where
  t0 : ∀ b ps, B.H0 b = some (.tbl ps) → b ∈ B.io
  io : ∀ b ∈ B.io, ∃ q, (b, q) ∈ B.T
theorem Rel.extN {B : Bs} {F : Addr → Prop} {σ : L2.St} {H H' : Hp} {S : Sg} (R : Rel B F σ H S) (L : LamB B) (e : LamX.ExtN H H') (t : LamX.Tabs B.T H') : Ext F H (fun a => F a ∧ H' a ≠ none) H' ∧ Rel B (fun a => F a ∧ H' a ≠ none) σ H' S := by
  have nt : ∀ {a o}, H a = some o → NT (H a) → H' a = some o := fun {a o} h n => e a o h fun ps z => by rw [h, z] at n; exact n
  have ex : Ext F H (fun a => F a ∧ H' a ≠ none) H' := by
    have key : ∀ a, F a → NT (H a) → H' a = H a := fun a fa n => by
      cases q : H a with
      | none => exact absurd q (R.dom a fa)
      | some o => exact nt q n
    exact ⟨fun a fa n => ⟨fa, fun z => by rw [key a fa n] at z; exact R.dom a fa z⟩, key⟩
  refine ⟨ex, R.len, fun i s hs => ?_, R.dist, fun b o h1 h2 => ?_, fun b hb => ?_, fun a ha => R.frz a ha.1, fun a ha => ha.2, R.iof, fun p hp => ?_, t, R.pnl⟩
  · rcases R.sl i s hs with z | ⟨v, e1, r⟩
    · exact .inl z
    · refine .inr ⟨v, e1, r.ext ex (fun o a ea fa => ?_) fun o a ea => ?_⟩
      · obtain ⟨a', ob, e2, e3, e4, _⟩ := R.ownA (i := i) (by unfold ownAt; rw [hs]; exact o)
        rw [e1, ea] at e2; cases e2
        exact e4 fa.1
      · obtain ⟨a', ob, e2, e3, lo⟩ := R.ownLD (i := i) (by unfold ownAt; rw [hs]; exact o)
        rw [e1, ea] at e2; cases e2
        rw [e3]; exact e _ _ e3 lo.1
  · exact e b o (R.keep b o h1 h2) fun ps z => h2 (L.t0 b ps (by rw [h1, z]))
  · obtain ⟨q, hq⟩ := L.io b hb
    obtain ⟨ps, z, _⟩ := t _ hq
    rw [z]; exact fun z => nomatch z
  · obtain ⟨h1, h2, h3, h4⟩ := R.pns p hp
    exact ⟨e _ _ h1 (R.pnl p hp).1, fun z => h2 z.1, h3, h4⟩
/-- w(lambda: f(..)): w's word where the call comes back, where it raises -/
def dLam (pl : List Str) (l : List CD) (n : Nat) (S0 : Sg) (post : DenS) (dc : Den) (rc : DenL) : Den := fun S Q =>
  (dc S fun _ S1 => post (wD fun rv => Q rv S1) S0) ∨ (rc S fun c xs S1 => c ∈ pl ∧ wSel l c xs (wMid post fun rv => Q rv S1) (List.replicate n .no))
theorem RetOk.rel {K : PySem.W.Frag} {B : Bs} {F F' : Addr → Prop} {σ : L2.St} {H H' : Hp} {S : Sg} {rv : Rv} {v : V} (R : Rel B F σ H S) (hK : B.K = K) (f1 : ∀ a, F' a → H a = none) (k : ∀ b o, H b = some o → H' b = some o) (f2 : ∀ a, F' a → H' a ≠ none) (r : RetOk K F' H H' rv v) :
    Ext F H (fun a => F a ∨ F' a) H' ∧ Rel B (fun a => F a ∨ F' a) σ H' S ∧ RelRv B (fun a => F a ∨ F' a) σ H' S rv v := by
  subst hK
  have ex : Ext F H (fun a => F a ∨ F' a) H' := ⟨fun a fa _ => .inl fa, fun a fa _ => by
    cases q : H a with
    | none => exact absurd q (R.dom a fa)
    | some o => exact k a o q⟩
  have ex2 : Ext F' H' (fun a => F a ∨ F' a) H' := ⟨fun a fa _ => .inr fa, fun a fa _ => rfl⟩
  have R' := R.grow ex k (fun a ha => ha.elim .inl fun z => .inr (f1 a z)) fun a ha => ha.elim (fun fa => by
    cases q : H a with
    | none => exact absurd q (R.dom a fa)
    | some o => rw [k a o q]; exact fun z => nomatch z) (f2 a)
  refine ⟨ex, R', ?_⟩
  have r2 : RetOk B.K (fun a => F a ∨ F' a) H H' rv v := by
    cases rv with
    | pu d => exact Rp.ext ex2 d v r
    | ol ds => obtain ⟨a, vs, e1, e2, e3, e4, e5⟩ := r; exact ⟨a, vs, e1, e2, fun z => z.elim (fun z => R.dom a z e2) e3, e4, RpAll.ext ex2 _ _ e5⟩
    | od ds => obtain ⟨a, vs, e1, e2, e3, e4, e5⟩ := r; exact ⟨a, vs, e1, e2, fun z => z.elim (fun z => R.dom a z e2) e3, e4, RpAll.ext ex2 _ _ e5⟩
    | al i => exact r
  exact RetOk.rv R r2
/-- the maker: its code object, its table -/
structure Mkr (X : Cx) (B : Bs) (c P : Addr) : Prop where
  tb : LamX.TabB X.base X.mg c P
  code : X.env.code = .ref c
  T : B.T = [(P, X.env.qual ++ "<lambda>")]
  l : LamB B
  K : B.K = X.K
theorem tlam_run {X : Cx} {B : Bs} {es pl : List Str} {l : List CD} {n : Nat} {S0 : Sg} {σ0 : Addr → L2.St} {post : DenS} {dc : Den} {rc : DenL} {c P : Addr} (m : Mkr X B c P) (hpl : ∀ c ∈ pl, ExOk X.K es c) (r0 : ∀ (f : Addr) (H : Hp), Rel (Bs.p (wB X.K H) []) (fun _ => False) (σ0 f) H S0)
    (σ : L2.St) (H : Hp) (Q : VK) (h : tD B (dLam pl l n S0 post dc rc) σ H Q) :
    LamX.tLam [(P, X.env.qual ++ "<lambda>")] (TTw X.K es l n σ0 post) (fun E σ H Q => tD B dc σ H Q ∨ tREL B E rc σ H Q) σ H Q := by
  obtain ⟨PP, F, S, QQ, R, q, k⟩ := h
  have hT : B.T = [(P, X.env.qual ++ "<lambda>")] := m.T
  refine ⟨by rw [← hT]; exact R.tab, fun H1 eN T1 f => ?_⟩
  obtain ⟨ex, R1⟩ := Rel.extN R ⟨m.l.t0, m.l.io⟩ eN (by show LamX.Tabs B.T H1; rw [hT]; exact T1)
  have fin : ∀ {F2 : Addr → Prop} {H2 : Hp} {S1 : Sg}, Ext (fun a => F a ∧ H1 a ≠ none) H1 F2 H2 → Rel (B.p PP) F2 σ H2 S1 → wFin X.K Q H2 fun rv => QQ rv S1 := by
    intro F2 H2 S1 e2 R2 rv qq v H' F' f1 kp f2 r
    obtain ⟨e3, R3, r3⟩ := RetOk.rel (B := B.p PP) R2 m.K f1 kp f2 r
    exact k rv S1 qq v H' _ ((ex.trans e2).trans e3) R3 r3
  rcases q with q | q
  · refine .inl ⟨PP, _, S, _, R1, q, fun rv S1 q1 v H2 F2 e2 R2 _ => ?_⟩
    exact ⟨H2, trivial, [], _, S0, _, r0 f H2, q1, wends (fin e2 R2)⟩
  · refine .inr ⟨PP, _, S, _, R1, q, fun c' xs S1 q1 dd H2 F2 e2 R2 er => ?_⟩
    rw [m.K] at er ⊢
    exact ⟨c', xs, _, rfl, ⟨hpl c' q1.1, er⟩, q1.2, fin e2 R2⟩
section
variable {fa : List He.Fa} {fn : List He.DefD} {cs : List (Str × D)}
/-- w(lambda: body), w the i-th def -/
theorem de_lam {X : Cx} {B : Bs} {Ng : List Str} {x a : Str} {d : He.DefD} {es pl : List Str} {l : List CD} {n k : Nat} {S0 : Sg} {σ0 : Addr → L2.St} {post : DenS} {dc : Den} {rc : DenL} {c P : Addr} {params : Arguments} {body : Expr} {scope : Scope} {p lpos pos : Pos} (hd : Hd fa fn cs X.K X.mg) (m : Mkr X B c P) (i j : Nat)
    (hi : fn[i]? = some d) (hj : fa[j]? = some (.glo x)) (hat : d.at_ = (x, none)) (hnm : d.name = x) (hql : d.qual = x) (hdv : d.dfl = []) (hkw : d.kwd = []) (S : FnScope Ng [a] d.scope)
    (hbd : ∀ (kV doc pm : Value) (an : Option Addr) (cdv ct : Value) (us : List Value), us.length = 1 → bindArgs (PySem.W.fnOf d.name d.qual d.params d.body d.scope .none kV doc pm an cdv ct) ⟨us, []⟩ = pure ([a].zip us))
    (hNg : Ng[0]? = some a) (hva : Vis d.scope a) (hG : ∀ (g : Addr) (cdg : Value), LamX.GivesTo X Ng x d.scope g cdg d.body a (X.env.qual ++ "<lambda>") (TTw X.K es l n σ0 post)) (r0 : ∀ (f : Addr) (H : Hp), Rel (Bs.p (wB X.K H) []) (fun _ => False) (σ0 f) H S0)
    (hpl : ∀ c ∈ pl, ExOk X.K es c) (hr : Room (k + 2) X.A) (L : LamX.LamS X.env.scope scope) (hdef : defaultsOf params X.env = ([], [])) (hbl : ∀ (q : Str) (cl : List (Str × Addr)) (pm cv ctv : Value), bindArgs (PySem.W.kla_fn "<lambda>" q params body scope cl pm cv ctv) ⟨[], []⟩ = pure [])
    (h1 : ∀ (A : Around) (outer : List Env) (s : Shared) (H : Hp) (E : XK) (f c' : Addr), Room k (A.deeper (LamX.lamEnv X scope s.heap.objs.size f c')) → PE (LamX.lamCx X A outer s H E scope f c') body (tD B dc))
    (h2 : ∀ (A : Around) (outer : List Env) (s : Shared) (H : Hp) (E : XK) (f c' : Addr), Room k (A.deeper (LamX.lamEnv X scope s.heap.objs.size f c')) → Takes (LamX.lamCx X A outer s H E scope f c') (fun cls d _ H => E cls d H) → PE (LamX.lamCx X A outer s H E scope f c') body (tREL B E rc))
    (hg : Gl X x := by rfl) (hdb : (x == ("__debug__" : Str)) = false := by decide) (hda : (a == ("__debug__" : Str)) = false := by decide) (hcd : (a == ("__classdict__" : Str)) = false := by decide) :
    PE X (.Call (.Name x p) [.Lambda params body scope lpos] [] pos) (tD B (dLam pl l n S0 post dc rc)) := by
  obtain ⟨h', XX, G, cc⟩ := hd
  obtain ⟨fd, F⟩ := cc.d.def_ i hi
  unfold He.DefD.dvs He.DefD.kws at F
  rw [hdv, hkw] at F
  have e := He.glo_ok XX G (cc.d.fact j hj)
  have eg : X.mg x = some (.ref (He.fAd X.K d.at_)) := by rw [e, hat]; rfl
  have hb := F.bindsN (ps := [a]) hbd
  obtain ⟨oc, od, dV, kV, doc, pm, an, cdv, ct, osl, efd, lk, hcg, _, _⟩ := F.ex
  subst efd
  rw [hnm, hql] at lk
  rw [hnm, hql] at hb
  rw [hql] at hcg
  refine PE_imp (LamX.pe_lamcall (T := [(P, X.env.qual ++ "<lambda>")]) (TT := TTw X.K es l n σ0 post) (t := fun E σ H Q => tD B dc σ H Q ∨ tREL B E rc σ H Q) (c := c) (P := P) hg eg F.kp lk hcg hb S hNg hva (hG _ _) m.tb m.code (List.mem_singleton.mpr rfl)
    (fun p hp _ => by rw [List.mem_singleton.mp hp]) hr L hdef hbl (fun A outer s H E f c' hr' => PE_or (h1 A outer s H E f c' hr') (h2 A outer s H E f c' hr' (takes_of rfl rfl rfl rfl))) hdb hda hcd) (tlam_run m hpl r0)
end
end DL
namespace DL
open PySem PySem.Spec PyProof.Rows L2
/-! ### the end of a law that makes lambdas -/
/-- the promise of the law's def: at the start its table is empty -/
def spT (K : PySem.W.Frag) (P : Addr) (g : FDen) : Sp := fun vs H Q _ => ∃ F ds, (∀ a, F a → H a ≠ none) ∧ ¬ F P ∧ H P = some (.tbl #[]) ∧ RpAll K F H ds vs ∧ g ds (fun rv => rv = .pu (.bl true)) ∧ ∀ H', Q (.bl true) H'
/-- what stands at the entry: of the tables only the own -/
def h0T (H : Hp) (P : Addr) : Hp := fun b => match H b with
  | some (.tbl ps) => if b = P then some (.tbl ps) else none
  | o => o
abbrev bT (K : PySem.W.Frag) (H : Hp) (F : Addr → Prop) (P : Addr) (qn : Str) : Bs := ⟨K, h0T H P, F, [P], [], [(P, qn)]⟩
theorem h0T_le {H : Hp} {P b : Addr} {o : HO} (h : h0T H P b = some o) : H b = some o := by
  unfold h0T at h
  split at h
  · rename_i ps e
    split at h
    · cases h; exact e
    · cases h
  · exact h
theorem h0T_tbl {H : Hp} {P b : Addr} {ps : Array Value} (h : h0T H P b = some (.tbl ps)) : b = P := by
  unfold h0T at h
  split at h
  · split at h
    · assumption
    · cases h
  · rename_i n
    exact absurd h (n ps)
theorem h0T_P {H : Hp} {P : Addr} {ps : Array Value} (h : H P = some (.tbl ps)) : h0T H P P = some (.tbl ps) := by
  unfold h0T
  rw [h]
  exact if_pos rfl
theorem bT_lam {K : PySem.W.Frag} {H : Hp} {F : Addr → Prop} {P : Addr} {qn : Str} : LamB (bT K H F P qn) :=
  ⟨fun b ps h => List.mem_singleton.mpr (h0T_tbl h), fun b hb => ⟨qn, List.mem_singleton.mpr (by rw [List.mem_singleton.mp hb])⟩⟩
theorem startT_rel {K : PySem.W.Frag} {F : Addr → Prop} {H : Hp} {ds : List D} {vs : List V} {N : List Str} {P : Addr} {qn : Str} (hd : ∀ a, F a → H a ≠ none) (nf : ¬ F P) (hP : H P = some (.tbl #[])) (r : RpAll K F H ds vs) :
    Rel (bT K H F P qn) F (L2.start N vs) H (ds.map Sl.pu ++ List.replicate (N.length - ds.length) .no) := by
  have R := start_rel (N := N) hd r
  have sl : ∀ s ∈ ds.map Sl.pu ++ List.replicate (N.length - ds.length) .no, s = .no ∨ ∃ d, s = .pu d := fun s hs => by
    rcases List.mem_append.mp hs with z | z
    · obtain ⟨d, _, e⟩ := List.mem_map.mp z
      exact .inr ⟨d, e.symm⟩
    · exact .inl (List.mem_replicate.mp z).2
  refine ⟨R.len, fun i s hs => ?_, R.dist, fun b o h _ => h0T_le h, fun b hb => ?_, fun a ha => .inl ha, hd, fun b hb => ?_, fun p hp => by (cases hp), fun p hp => ?_, fun p hp => by (cases hp)⟩
  · rcases R.sl i s hs with z | ⟨v, e1, e2⟩
    · exact .inl z
    · rcases sl s (List.mem_of_getElem? hs) with z | ⟨d, rfl⟩
      · exact .inl z
      · exact .inr ⟨v, e1, e2⟩
  · rw [List.mem_singleton.mp hb, hP]; exact fun z => nomatch z
  · rw [List.mem_singleton.mp hb]
    refine ⟨nf, ?_⟩
    show h0T H P P ≠ none
    rw [h0T_P hP]; exact fun z => nomatch z
  · rw [List.mem_singleton.mp hp]
    exact LamX.TabS.nil hP
section
variable {P : Program} {w : World} {K : PySem.W.Frag} {mg : Str → Option Value} {fa : List He.Fa} {fn : List He.DefD} {cs : List (Str × D)} {N : List Str} {k : Nat}
theorem Hd.tab {h : Heap} (X : K.In h) (G : h.Ns mainGlobals mg) (c : SaysM fa fn cs K) (j : Nat) {x : Str} {ks : List Key} {ds : List D} (hj : cs[j]? = some (x, .dct ks ds)) : ∃ cc P, PySem.W.tabIn K x = some (cc, P) ∧ K.lookup P = none :=
  tabB_ok (List.all_eq_true.mp c.c _ (List.mem_of_getElem? hj))
/-- the law's def, where it makes lambdas -/
theorem law_factT {d : He.DefD} {h : Heap} {f : Addr} {x : Str} {b : DenS} (i j jt : Nat) {M : Nat} {p : Str} {ks : List Key} {dl : List D} (X : K.In h) (G : h.Ns mainGlobals mg) (hfa : mg x = some (.ref f)) (c : SaysM fa fn cs K)
    (hi : fn[i]? = some d) (hj : fa[j]? = some (.glo x)) (hjt : cs[jt]? = some (x, .dct ks dl)) (ha : d.at_ = (x, none)) (hdv : d.dfl = []) (hkw : d.kwd = []) (S : FnScope N [p] d.scope)
    (hbind : ∀ (kV doc pm : Value) (an : Option Addr) (cdv ct : Value) (us : List Value), us.length = 1 → bindArgs (PySem.W.fnOf d.name d.qual d.params d.body d.scope .none kV doc pm an cdv ct) ⟨us, []⟩ = pure ([p].zip us))
    (hM : M = N.length)
    (hb : ∀ (base : Heap), Hd fa fn cs K mg → ∀ (f : Addr) (cdv : Value) (A : Around) (outer : List Env) (s : Shared) (H : Hp) (E : XK), Room k (A.deeper (envOfC d.qual d.scope s.heap.objs.size f cdv)) → ∀ (B : Bs) (cc T : Addr), Mkr (cxOf CX0 P w K mg base N d.qual d.scope f cdv A outer s H E).nox B cc T →
      PSs (cxOf CX0 P w K mg base N d.qual d.scope f cdv A outer s H E).nox d.body (tS B b)) :
    ∃ (fd : FuncData) (cc T : Addr), PySem.W.tabIn K x = some (cc, T) ∧ K.lookup T = none ∧ (∀ (s : Shared) (v : Value), BindsTo s fd ⟨[v], []⟩ [(p, v)]) ∧ ∀ base : Heap, K.In base → base.Ns mainGlobals mg → LamX.TabB base mg cc T → FnOk P w K mg base CX0 (k + 1) f fd [p] (spT K T (mkF 1 M b)) := by
  obtain ⟨cc, T, ht, nT⟩ := Hd.tab X G c jt hjt
  obtain ⟨fd, F⟩ := c.d.def_ i hi
  unfold He.DefD.dvs He.DefD.kws at F
  rw [hdv, hkw] at F
  have e := He.glo_ok X G (c.d.fact j hj)
  have e2 := hfa.symm.trans e
  have ef : f = He.fAd K d.at_ := by rw [ha]; cases e2; rfl
  subst ef
  have bb := FunD.bindsA (ps := [p]) F hbind
  refine ⟨fd, cc, T, ht, nT, fun s v => bb s [v] rfl, fun base _ _ TB => ?_⟩
  obtain ⟨oc, od, dV, kV, doc, pm, an, cdv, ct, osl, efd, lk, hcd, _, _⟩ := F.ex
  subst efd
  have ecd : cdv = .ref cc := by
    have hx : PySem.W.nsIn K mainGlobals x = some (some (.ref (He.ga K x))) := He.eqO_ok (c.d.fact j hj)
    have hf' : He.fAd K d.at_ = He.ga K x := by rw [ha]; rfl
    rw [hf'] at lk
    unfold PySem.W.tabIn at ht
    rw [hx] at ht
    simp only [lk] at ht
    cases q : cdv with
    | ref c1 =>
      simp only [PySem.W.fnOf, q] at ht
      split at ht
      · split at ht
        · cases ht; rfl
        · cases ht
      · cases ht
    | _ => simp only [PySem.W.fnOf, q] at ht; cases ht
  subst hM
  have len : ∀ vs H Q E, spT K T (mkF 1 N.length b) vs H Q E → vs.length = [p].length := by
    rintro vs H Q E ⟨F, ds, h1, _, _, h2, h3, _⟩
    rw [h2.len]; exact h3.1
  refine fn_of lk hcd S len fun A outer s H vs Q E hr hsp => ?_
  obtain ⟨F0, ds, h1, nf, hT, h2, ⟨h3, h5⟩, h4⟩ := hsp
  have m : Mkr (cxOf CX0 P w K mg base N d.qual d.scope (He.fAd K d.at_) cdv A outer s H E).nox (bT K H F0 T ((cxOf CX0 P w K mg base N d.qual d.scope (He.fAd K d.at_) cdv A outer s H E).nox.env.qual ++ "<lambda>")) cc T := ⟨TB, ecd, rfl, bT_lam, rfl⟩
  refine ⟨_, PSs.nox (hb base ⟨h, X, G, c⟩ _ cdv A outer s H E hr _ cc T m), [], F0, _, _, startT_rel h1 nf hT h2, by rw [h3]; exact h5, ?_⟩
  refine ⟨fun S' q σ' H' F' e R => (by cases q), fun S' q => q.elim, fun S' q => q.elim, fun rv S' q v σ' H' F' e R r => ?_⟩
  subst q
  have r' : Rp K F' H' (.bl true) v := r
  unfold Rp at r'
  subst r'
  exact h4 H'
end
theorem law_walkT {l : PySem.W.OpenLaw} {n k : Nat} {q : Program} {loose : List Str} {XP : (Str → Option Value) → Heap → Prop} {YP : World → Heap → Prop} {d : DefRec} {x : Str} {g : FDen}
    (hn : l.most = some n) (hn2 : n ≤ sizeLine) (hdf : d.params.defaults = []) (hr : Room k callerA) (hrec : (recsOf q).find? (fun e => e.name == d.name) = some d)
    (F : ∀ (w : World) (mg : Str → Option Value) (fa : Addr) (h : Heap), YP w h → h.Ns mainGlobals mg → mg d.name = some (.ref fa) →
      ∃ (K : PySem.W.Frag) (fd : FuncData) (cc T : Addr), K.In h ∧ PySem.W.tabIn K d.name = some (cc, T) ∧ K.lookup T = none ∧ (∀ (s : Shared) (v : Value), BindsTo s fd ⟨[v], []⟩ [(x, v)]) ∧ ∀ base : Heap, K.In base → base.Ns mainGlobals mg → LamX.TabB base mg cc T → FnOk l.prog w K mg base CX0 k fa fd [x] (spT K T g))
    (hg : ∀ ns : List Int, ns.length ≤ n → (∀ i ∈ ns, Builtin.Int.intBits i ≤ 1048576) → g [.scr (ns.map D.int)] fun rv => rv = .pu (.bl true)) :
    PySem.W.WalkO q loose XP YP l.row.toRowW d [] (fun f vs => PySem.call f vs) := by
  refine Att.attach_callB hn hdf fun w s₀ s₁ mg mb fa o pm cd doc a vs ns G Y ho hd hcd hmg hobj hints hlen hbits hg0 => ?_
  obtain ⟨K, fd, cc, T, KX, ht, nT, hb, hF⟩ := F w mg fa _ Y G.T.g hmg
  obtain ⟨tc, tt⟩ := PySem.W.tab_of G.T KX hrec ht
  refine LamX.law_callTs (cs := [(cc, T)]) (sp := spT K T g) (CX := CX0) KX G.T.g G.T.b G.T.builtins G.T.nolimit hg0 (fun p hp => by rw [List.mem_singleton.mp hp]; exact tt) (fun p hp => by rw [List.mem_singleton.mp hp]; exact nT) (fun p hp => by rw [List.mem_singleton.mp hp]; exact tc) G.T.bmain hobj hints (Nat.le_trans hlen hn2) hr (fun base h1 h2 h3 => hF base h1 h2 (h3 _ (List.mem_singleton.mpr rfl))) hb (fun H hH hS => ?_) fun H e s' z => z
  have hT : H T = some (.tbl #[]) := hH _ (List.mem_singleton.mpr rfl)
  refine ⟨fun b => H b ≠ none ∧ b ≠ T, [.scr (ns.map D.int)], fun _ h => h.1, fun h => h.2 rfl, hT, ?_, hg ns hlen hbits, fun _ => rfl⟩
  have rl : ∀ l : List Int, RpAll K (fun b => H b ≠ none ∧ b ≠ T) H (l.map D.int) (l.map V.int) := by
    intro l
    induction l with
    | nil => exact RpAll.nil
    | cons i l ih => exact RpAll.cons rp_int ih
  refine RpAll.cons ?_ RpAll.nil
  unfold Rp
  refine ⟨a, _, rfl, ?_, rl ns⟩
  rcases hS with z | z
  · have na : a ≠ T := fun e => by
      rw [e] at z
      rcases z with z | ⟨o, z⟩ <;> (rw [hT] at z; cases z)
    refine .inl ⟨⟨?_, na⟩, z⟩
    rcases z with z | ⟨o, z⟩
    · rw [z]; exact fun z => nomatch z
    · rw [z]; exact fun z => nomatch z
  · exact .inr z
end DL
namespace DL
open PySem PySem.Spec PyProof.Rows L2
theorem er0 {K : PySem.W.Frag} {es : List Str} {H : Hp} {c : Str} {xs : List D} {d : Option Addr} (h : Ek K es H c xs d) : d = none := by
  have e := h.er
  unfold ErD at e
  split at e
  · exact e
  · exact e.elim
theorem zc0 {K : PySem.W.Frag} {es : List Str} {H : Hp} {c : Str} {xs : List D} {d : Option Addr} {oe : Obj} (h : Ek K es H c xs d) (hz : Zc (cvK K c) d oe) : Zc (cvK K c) none oe := by
  have e := er0 h
  subst e
  exact hz
/-- names at the try, none of them known -/
theorem r0_no {K : PySem.W.Frag} {Ng : List Str} {n : Nat} (hn : n = Ng.length) (h : 1 ≤ Ng.length := by decide) (f : Addr) (H : Hp) : Rel (Bs.p (wB K H) []) (fun _ => False) (L2.start Ng [.ref f]) H (List.replicate n .no) :=
  rel_none (by rw [hn]; unfold L2.start; simp; omega)
theorem r0_str {K : PySem.W.Frag} {Ng : List Str} {n : Nat} {i : Nat} {z : Str} (hn : n = Ng.length) (h : 1 ≤ Ng.length := by decide) (f : Addr) (H : Hp) : Rel (Bs.p (wB K H) []) (fun _ => False) ((L2.start Ng [.ref f]).set i (some (.str z))) H ((List.replicate n .no).set i (.pu (.str z))) :=
  (r0_no hn h f H).store (s := .pu (.str z)) (by unfold RelC Rp; rfl) (fun z => nomatch z) (fun z => nomatch z)
/-- the classes that may come -/
def plNames (cs : List (Str × D)) : List Str := cs.filterMap fun p => match p.2 with
  | .scr [] => some p.1
  | _ => none
theorem pl_ok {fa : List He.Fa} {fn : List He.DefD} {cs : List (Str × D)} {K : PySem.W.Frag} {mg : Str → Option Value} (hd : Hd fa fn cs K mg) : ∀ c ∈ plNames cs, ExOk K (exNames cs) c := fun c hc => by
  unfold plNames at hc
  obtain ⟨⟨x, d⟩, hm, e⟩ := List.mem_filterMap.mp hc
  split at e
  · rename_i q
    have q' : d = .scr [] := q
    cases e
    subst q'
    exact (hd.exc hm).2
  · cases e
theorem us64 {k : Nat} {A : Around} {env : Env} {v : Option Value} (r : Room k A) : ((A.deeper env).mark v).units + 64 < cLine := by have := r.un; show A.units + 3 + 64 < cLine; omega
theorem us65 {k : Nat} {A : Around} {env : Env} {v : Option Value} (r : Room k A) : ((A.deeper env).mark v).units + 65 < cLine := by have := r.un; show A.units + 3 + 65 < cLine; omega
theorem us1 {k : Nat} {A : Around} {env : Env} {v : Option Value} (r : Room k A) : ((A.deeper env).mark v).units + 1 < cLine := by have := r.un; show A.units + 3 + 1 < cLine; omega
end DL
local macro_rules | `(tactic| simp! [$ls,*]) => `(tactic| (try simp only [DL.mkF, DL.mkIO, DL.dThen, DL.dNext, DL.dBreak, DL.dCont, DL.dNever, DL.dDrop, DL.dRet, DL.dRetN, DL.dIfS, DL.dAsg, DL.dgNil, DL.dgCons, DL.dgSub, DL.dPar, DL.dPar3, DL.dC, DL.dVar, DL.dBin, DL.dTest, DL.dNot, DL.dAnd, DL.dOr, DL.dAndV, DL.dOrV, DL.dNotV, DL.dIf, DL.dNil, DL.dCons, DL.dTup, DL.dLst, DL.dCall, DL.dCallIO, DL.dCB, DL.rds, DL.rd, DL.rdS, DL.hold, DL.frc, DL.frcs, DL.oLt, DL.oLe, DL.oGt, DL.oGe, DL.oEq, DL.oNe, DL.ix_fq0, DL.ix_fq1, DL.eq_fq, DL.okE_fq, DL.okE_t2, DL.keyD, L2.ixN, DL.dNoP, DL.dPart, DL.dIsi, DL.isTy, DL.dNeg, DL.dChain, DL.dAppend, DL.dExtend, DL.dPop, DL.lstAt, DL.putLst, DL.dDct0, DL.unwipe, DL.wipeS, DL.eq_int, DL.eq_bl, DL.eq_str, DL.eq_non, DL.eq_tup, DL.eq_lst, DL.eqDs_nil, DL.eqDs_cons, DL.eqDs_nc, DL.eqDs_cn, DL.okE_int, DL.okE_bl, DL.okE_non, DL.okE_str, DL.lAdd_ii, DL.lAdd_bb, DL.lAdd_ib, DL.lAdd_bi, DL.lAdd_tt, DL.lAdd_ll, DL.lAdd_ss, DL.lSub_ii, DL.lSub_bb, DL.lSub_ib, DL.lSub_bi, DL.lMul_ii, DL.lMul_li, DL.lDiv_ii, DL.lMod_ii, DL.lPow_ii, DL.lOrd_ii, DL.lIs_bb, DL.lIs_nn, DL.lIsN_bb, DL.lIsN_nn, DL.lIs_in, DL.lIsN_in, DL.lIs_sn, DL.lIsN_sn, DL.lIs_tn, DL.lIsN_tn, DL.lIs_ln, DL.lIsN_ln, DL.lIs_bn, DL.lIsN_bn, DL.lIs_dn, DL.lIsN_dn, DL.lIx_tup0, DL.lIx_tup1, DL.lIx_tup2, DL.lIx_tup3, DL.lIx_tup4, DL.lIx_tup5, DL.lIx_tup6, DL.lIx_tup7, DL.lIx_tup8, DL.lIx_tup9, DL.lIx_lst0, DL.lIx_lst1, DL.lIx_lst2, DL.lIx_lst3, DL.lIx_lst4, DL.lIx_lst5, DL.lIx_lst6, DL.lIx_lst7, DL.lIx_lst8, DL.lIx_lst9, DL.oIx_dct, DL.lLen_tup, DL.lTuple_tup, DL.lList_tup, DL.lLen_lst, DL.lTuple_lst, DL.lList_lst, DL.lLen_scr, DL.lTuple_scr, DL.lList_scr, DL.lLen_dct, DL.lLen_str, DL.lAbs_i, DL.lInt_i, DL.lInt_b, DL.lAll_l, DL.lAny_l, DL.lSum_l, DL.lMax_ii, DL.lMin_ii, DL.lMax_l, DL.lMin_l, DL.lSorted_l, DL.lName_pu, DL.lName_ol, DL.lName_od, DL.lName_al, DL.lTup_pu, DL.lTup_pl, DL.lTup_ol, DL.lSl, DL.lSlF_tup, DL.lSlF_lst, DL.lSlF_scr, true_and, and_true, Bool.and_true, Bool.true_and, Bool.and_false, Bool.false_and, List.map_cons, List.map_nil, List.cons_append, List.nil_append, List.append_nil, List.reduceReplicate, List.length_cons, List.length_nil, List.getElem?_cons_zero, List.getElem?_cons_succ, List.set_cons_zero, List.set_cons_succ, Nat.reduceAdd, Nat.reduceSub, Nat.reduceEqDiff, Nat.reduceLT, Nat.reduceLeDiff, Int.cast_ofNat_Int, DL.le_sz, DL.lt_sz, Int.reducePow, Nat.reducePow, Int.reduceLT, Int.reduceEq, Int.reduceLE, Int.reduceAdd, Int.reduceNeg, Int.reduceSub, Int.reduceMul, Int.reduceToNat, decide_eq_true_eq, decide_true, decide_false, if_true, if_false, ite_true, ite_false, reduceCtorEq, Bool.not_true, Bool.not_false, Bool.false_eq_true, Bool.true_eq_false, Option.isSome_some, ↓reduceIte, not_false_eq_true, not_true_eq_false, DL.lMulT_ii, DL.lMulT_li, DL.lMulT_ti, DL.ofs_inj, DL.ofs_ok, String.reduceEq, DL.lIn_l, DL.lIn_t, DL.lNotIn_l, DL.lNotIn_t, DL.inD_nil, DL.inD_cons, DL.flat_int, DL.flat_str, DL.flat_bl, DL.flat_non, List.all_cons, List.all_nil, Bool.or_false, Bool.or_true, Bool.false_or, Bool.true_or, DL.dParN, DL.dConsO, DL.frcO_nil, DL.frcO_pu, DL.frcO_ol, DL.frcO_od, DL.frcO_al, DL.setsS_nil, DL.setsS_cons, DL.slOf_pu, DL.slOf_ol, DL.slOf_od, DL.dctS, DL.puO_pu, DL.puO_no, DL.puO_ol, DL.puO_od, DL.puO_io, DL.dUpdate, DL.dctAt, DL.dRg1, DL.dRg2, DL.lstR_i, DL.dMeth, DL.dLenSet, DL.dAug, DL.rdIs_some, DL.isL_lst, DL.isL_scr, DL.lCount_l, DL.lIndex_l, DL.mkT, DL.dCallB, DL.flatT_int, DL.flatT_bl, DL.flatT_str, DL.flatT_non, DL.flatT_fq, DL.flatT_tup, DL.flatTs_nil, DL.flatTs_cons, DL.flatT_smD, DL.flatT_sumD, DL.dRev, DL.mkR, DL.rCall, DL.rRaise, DL.rLam, DL.wSel, DL.wMid, DL.wD, DL.endsO, DL.setO, DL.dIsE, $ls,*]))

namespace My
open PySem PySem.Spec PyProof.Rows L2 DL
def top (i : Nat) : Stmt := PySem.Challenge.pw_cutsumsways_k17_whole_what_nets_tell.main.body.getD i (.Pass ⟨0, 0, 0, 0⟩)
abbrev s__law_hand : Stmt := top 60
abbrev s__law_draw : Stmt := top 61
abbrev s__law_some : Stmt := top 62
abbrev s__law_sum : Stmt := top 68
abbrev s__law_net : Stmt := top 69
abbrev s__law_point : Stmt := top 71
abbrev s__law_word : Stmt := top 72
abbrev s_is_tuple_of : Stmt := top 14
abbrev s_is_integer : Stmt := top 12
abbrev s_is_within : Stmt := top 13
abbrev s_common : Stmt := top 15
abbrev s_is_fraction : Stmt := top 16
abbrev s_is_pair_of : Stmt := top 25
abbrev s_raw_is_sum : Stmt := top 26
abbrev s_raw_is_cell : Stmt := top 40
abbrev s_is_net : Stmt := top 41
abbrev s_check_net : Stmt := top 42
abbrev s_are_values : Stmt := top 23
abbrev s_raw_is_point : Stmt := top 45
abbrev s_is_point : Stmt := top 46
abbrev s__law_low : Stmt := top 63
abbrev s__law_plus : Stmt := top 64
abbrev s__law_times : Stmt := top 65
abbrev s__law_worth : Stmt := top 67
abbrev s__law_is_less : Stmt := top 66
abbrev s__law_values : Stmt := top 70
abbrev s_check_point : Stmt := top 47
abbrev s_raw_cut : Stmt := top 22
abbrev s_raw_at_most : Stmt := top 20
abbrev s_raw_greater : Stmt := top 21
abbrev s_value_by : Stmt := top 49
abbrev s_made : Stmt := top 17
abbrev s_raw_plus : Stmt := top 18
abbrev s_raw_times : Stmt := top 19
abbrev s_raw_worth : Stmt := top 27
abbrev s_raw_cell_sums : Stmt := top 43
abbrev s_raw_cell_value : Stmt := top 48
abbrev s_raw_sources_at : Stmt := top 50
abbrev s_out_parts : Stmt := top 58
abbrev s_values : Stmt := top 52
abbrev s_raw_run : Stmt := top 51
abbrev s_run : Stmt := top 53
abbrev s_parts_of : Stmt := top 57
abbrev s_first_wrong : Stmt := top 56
abbrev s_is_values : Stmt := top 55
abbrev s_value_of : Stmt := top 54
abbrev s__law_right : Stmt := top 73
abbrev s_law : Stmt := top 74
def d__law_hand : He.DefD := ⟨("_law_hand", none), "_law_hand", "_law_hand", defArgs s__law_hand, defBody s__law_hand, defScope s__law_hand, [], []⟩
def d__law_draw : He.DefD := ⟨("_law_draw", none), "_law_draw", "_law_draw", defArgs s__law_draw, defBody s__law_draw, defScope s__law_draw, [], []⟩
def d__law_some : He.DefD := ⟨("_law_some", none), "_law_some", "_law_some", defArgs s__law_some, defBody s__law_some, defScope s__law_some, [], []⟩
def d__law_sum : He.DefD := ⟨("_law_sum", none), "_law_sum", "_law_sum", defArgs s__law_sum, defBody s__law_sum, defScope s__law_sum, [], []⟩
def d__law_net : He.DefD := ⟨("_law_net", none), "_law_net", "_law_net", defArgs s__law_net, defBody s__law_net, defScope s__law_net, [], []⟩
def d__law_point : He.DefD := ⟨("_law_point", none), "_law_point", "_law_point", defArgs s__law_point, defBody s__law_point, defScope s__law_point, [], []⟩
def d__law_word : He.DefD := ⟨("_law_word", none), "_law_word", "_law_word", defArgs s__law_word, defBody s__law_word, defScope s__law_word, [], []⟩
def d_is_tuple_of : He.DefD := ⟨("is_tuple_of", none), "is_tuple_of", "is_tuple_of", defArgs s_is_tuple_of, defBody s_is_tuple_of, defScope s_is_tuple_of, [], []⟩
def d_is_integer : He.DefD := ⟨("is_integer", none), "is_integer", "is_integer", defArgs s_is_integer, defBody s_is_integer, defScope s_is_integer, [], []⟩
def d_is_within : He.DefD := ⟨("is_within", none), "is_within", "is_within", defArgs s_is_within, defBody s_is_within, defScope s_is_within, [], []⟩
def d_common : He.DefD := ⟨("common", none), "common", "common", defArgs s_common, defBody s_common, defScope s_common, [], []⟩
def d_is_fraction : He.DefD := ⟨("is_fraction", none), "is_fraction", "is_fraction", defArgs s_is_fraction, defBody s_is_fraction, defScope s_is_fraction, [], []⟩
def d_is_pair_of : He.DefD := ⟨("is_pair_of", none), "is_pair_of", "is_pair_of", defArgs s_is_pair_of, defBody s_is_pair_of, defScope s_is_pair_of, [], []⟩
def d_raw_is_sum : He.DefD := ⟨("raw_is_sum", none), "raw_is_sum", "raw_is_sum", defArgs s_raw_is_sum, defBody s_raw_is_sum, defScope s_raw_is_sum, [], []⟩
def d_raw_is_cell : He.DefD := ⟨("raw_is_cell", none), "raw_is_cell", "raw_is_cell", defArgs s_raw_is_cell, defBody s_raw_is_cell, defScope s_raw_is_cell, [], []⟩
def d_is_net : He.DefD := ⟨("is_net", none), "is_net", "is_net", defArgs s_is_net, defBody s_is_net, defScope s_is_net, [], []⟩
def d_check_net : He.DefD := ⟨("check_net", none), "check_net", "check_net", defArgs s_check_net, defBody s_check_net, defScope s_check_net, [], []⟩
def d_are_values : He.DefD := ⟨("are_values", none), "are_values", "are_values", defArgs s_are_values, defBody s_are_values, defScope s_are_values, [], []⟩
def d_raw_is_point : He.DefD := ⟨("raw_is_point", none), "raw_is_point", "raw_is_point", defArgs s_raw_is_point, defBody s_raw_is_point, defScope s_raw_is_point, [], []⟩
def d_is_point : He.DefD := ⟨("is_point", none), "is_point", "is_point", defArgs s_is_point, defBody s_is_point, defScope s_is_point, [], []⟩
def d__law_low : He.DefD := ⟨("_law_low", none), "_law_low", "_law_low", defArgs s__law_low, defBody s__law_low, defScope s__law_low, [], []⟩
def d__law_plus : He.DefD := ⟨("_law_plus", none), "_law_plus", "_law_plus", defArgs s__law_plus, defBody s__law_plus, defScope s__law_plus, [], []⟩
def d__law_times : He.DefD := ⟨("_law_times", none), "_law_times", "_law_times", defArgs s__law_times, defBody s__law_times, defScope s__law_times, [], []⟩
def d__law_worth : He.DefD := ⟨("_law_worth", none), "_law_worth", "_law_worth", defArgs s__law_worth, defBody s__law_worth, defScope s__law_worth, [], []⟩
def d__law_is_less : He.DefD := ⟨("_law_is_less", none), "_law_is_less", "_law_is_less", defArgs s__law_is_less, defBody s__law_is_less, defScope s__law_is_less, [], []⟩
def d__law_values : He.DefD := ⟨("_law_values", none), "_law_values", "_law_values", defArgs s__law_values, defBody s__law_values, defScope s__law_values, [], []⟩
def d_check_point : He.DefD := ⟨("check_point", none), "check_point", "check_point", defArgs s_check_point, defBody s_check_point, defScope s_check_point, [], []⟩
def d_raw_cut : He.DefD := ⟨("raw_cut", none), "raw_cut", "raw_cut", defArgs s_raw_cut, defBody s_raw_cut, defScope s_raw_cut, [], []⟩
def d_raw_at_most : He.DefD := ⟨("raw_at_most", none), "raw_at_most", "raw_at_most", defArgs s_raw_at_most, defBody s_raw_at_most, defScope s_raw_at_most, [], []⟩
def d_raw_greater : He.DefD := ⟨("raw_greater", none), "raw_greater", "raw_greater", defArgs s_raw_greater, defBody s_raw_greater, defScope s_raw_greater, [], []⟩
def d_value_by : He.DefD := ⟨("value_by", none), "value_by", "value_by", defArgs s_value_by, defBody s_value_by, defScope s_value_by, [], []⟩
def d_made : He.DefD := ⟨("made", none), "made", "made", defArgs s_made, defBody s_made, defScope s_made, [], []⟩
def d_raw_plus : He.DefD := ⟨("raw_plus", none), "raw_plus", "raw_plus", defArgs s_raw_plus, defBody s_raw_plus, defScope s_raw_plus, [], []⟩
def d_raw_times : He.DefD := ⟨("raw_times", none), "raw_times", "raw_times", defArgs s_raw_times, defBody s_raw_times, defScope s_raw_times, [], []⟩
def d_raw_worth : He.DefD := ⟨("raw_worth", none), "raw_worth", "raw_worth", defArgs s_raw_worth, defBody s_raw_worth, defScope s_raw_worth, [], []⟩
def d_raw_cell_sums : He.DefD := ⟨("raw_cell_sums", none), "raw_cell_sums", "raw_cell_sums", defArgs s_raw_cell_sums, defBody s_raw_cell_sums, defScope s_raw_cell_sums, [], []⟩
def d_raw_cell_value : He.DefD := ⟨("raw_cell_value", none), "raw_cell_value", "raw_cell_value", defArgs s_raw_cell_value, defBody s_raw_cell_value, defScope s_raw_cell_value, [], []⟩
def d_raw_sources_at : He.DefD := ⟨("raw_sources_at", none), "raw_sources_at", "raw_sources_at", defArgs s_raw_sources_at, defBody s_raw_sources_at, defScope s_raw_sources_at, [], []⟩
def d_out_parts : He.DefD := ⟨("out_parts", none), "out_parts", "out_parts", defArgs s_out_parts, defBody s_out_parts, defScope s_out_parts, [], []⟩
def d_values : He.DefD := ⟨("values", none), "values", "values", defArgs s_values, defBody s_values, defScope s_values, [], []⟩
def d_raw_run : He.DefD := ⟨("raw_run", none), "raw_run", "raw_run", defArgs s_raw_run, defBody s_raw_run, defScope s_raw_run, [], []⟩
def d_run : He.DefD := ⟨("run", none), "run", "run", defArgs s_run, defBody s_run, defScope s_run, [], []⟩
def d_parts_of : He.DefD := ⟨("parts_of", none), "parts_of", "parts_of", defArgs s_parts_of, defBody s_parts_of, defScope s_parts_of, [], []⟩
def d_first_wrong : He.DefD := ⟨("first_wrong", none), "first_wrong", "first_wrong", defArgs s_first_wrong, defBody s_first_wrong, defScope s_first_wrong, [], []⟩
def d_is_values : He.DefD := ⟨("is_values", none), "is_values", "is_values", defArgs s_is_values, defBody s_is_values, defScope s_is_values, [], []⟩
def d_value_of : He.DefD := ⟨("value_of", none), "value_of", "value_of", defArgs s_value_of, defBody s_value_of, defScope s_value_of, [], []⟩
def d__law_right : He.DefD := ⟨("_law_right", none), "_law_right", "_law_right", defArgs s__law_right, defBody s__law_right, defScope s__law_right, [], []⟩
def d_law : He.DefD := ⟨("law", none), "law", "law", defArgs s_law, defBody s_law, defScope s_law, [], []⟩
def fn : List He.DefD := [d__law_hand, d__law_draw, d__law_some, d__law_sum, d__law_net, d__law_point, d__law_word, d_is_tuple_of, d_is_integer, d_is_within, d_common, d_is_fraction, d_is_pair_of, d_raw_is_sum, d_raw_is_cell, d_is_net, d_check_net, d_are_values, d_raw_is_point, d_is_point, d__law_low, d__law_plus, d__law_times, d__law_worth, d__law_is_less, d__law_values, d_check_point, d_raw_cut, d_raw_at_most, d_raw_greater, d_value_by, d_made, d_raw_plus, d_raw_times, d_raw_worth, d_raw_cell_sums, d_raw_cell_value, d_raw_sources_at, d_out_parts, d_values, d_raw_run, d_run, d_parts_of, d_first_wrong, d_is_values, d_value_of, d__law_right, d_law]
def fa : List He.Fa := [.glo "_law_hand", .glo "_law_draw", .glo "_law_some", .glo "_law_sum", .glo "_law_net", .glo "_law_point", .glo "_law_word", .glo "is_tuple_of", .glo "is_integer", .glo "is_within", .glo "common", .glo "is_fraction", .glo "is_pair_of", .glo "raw_is_sum", .glo "raw_is_cell", .glo "is_net", .glo "check_net", .glo "are_values", .glo "raw_is_point", .glo "is_point", .glo "_law_low", .glo "_law_plus", .glo "_law_times", .glo "_law_worth", .glo "_law_is_less", .glo "_law_values", .glo "check_point", .glo "raw_cut", .glo "raw_at_most", .glo "raw_greater", .glo "value_by", .glo "made", .glo "raw_plus", .glo "raw_times", .glo "raw_worth", .glo "raw_cell_sums", .glo "raw_cell_value", .glo "raw_sources_at", .glo "out_parts", .glo "values", .glo "raw_run", .glo "run", .glo "parts_of", .glo "first_wrong", .glo "is_values", .glo "value_of", .glo "_law_right", .glo "law", .free "abs", .free "int", .free "len", .free "range", .free "tuple", .free "sorted", .free "isinstance", .free "bool", .free "all", .free "zip", .free "str", .free "enumerate", .free "list"]
def cs : List (PySem.Str × D) := [("NOUGHT", (.tup [(.int 0), (.int 1)])), ("ONE", (.tup [(.int 1), (.int 1)])), ("MOST_INPUTS", (.int 4)), ("MOST_CELLS", (.int 40)), ("MOST_OUTS", (.int 4)), ("LEAST_MOST", (.int 2)), ("MOST_MOST", (.int 4)), ("PLAIN", (.str "plain")), ("CUT", (.str "cut")), ("STEP", (.str "step")), ("MOST", (.str "most")), ("SWITCH", (.str "switch")), ("WORDS", (.tup [(.str "cut"), (.str "most"), (.str "plain"), (.str "step"), (.str "switch")])), ("SumError", .scr []), ("NoCell", .scr []), ("NoNet", .scr []), ("NoOut", .scr []), ("NoPoint", .scr []), ("NoSource", .scr []), ("NoTrace", .scr []), ("TooMany", .scr [.non]), ("law", .dct [] [])]
def names0 : List PySem.Str := ["SumError", "NoCell", "NoNet", "NoOut", "NoPoint", "NoSource", "NoTrace", "TooMany", "NOUGHT", "ONE", "is_integer", "is_within", "is_tuple_of", "common", "is_fraction", "made", "raw_plus", "raw_times", "raw_at_most", "raw_greater", "raw_cut", "are_values", "is_pair_of", "raw_is_sum", "raw_worth", "MOST_INPUTS", "MOST_CELLS", "MOST_OUTS", "LEAST_MOST", "MOST_MOST"]
def names1 : List PySem.Str := ["PLAIN", "CUT", "STEP", "MOST", "SWITCH", "WORDS", "raw_is_cell", "is_net", "check_net", "raw_cell_sums", "raw_is_point", "is_point", "check_point", "raw_cell_value", "value_by", "raw_sources_at", "raw_run", "values", "run", "value_of", "is_values", "first_wrong", "parts_of", "out_parts", "_law_hand", "_law_draw", "_law_some", "_law_low", "_law_plus", "_law_times"]
def names2 : List PySem.Str := ["_law_is_less", "_law_worth", "_law_sum", "_law_net", "_law_values", "_law_point", "_law_word", "_law_right"]
def names : List PySem.Str := names0 ++ names1 ++ names2
abbrev R : PySem.W.OpenRow := PySem.W.OpenLaw.row PySem.Challenge.rw_cutsumsways_k17_whole_what_nets_tell
abbrev hk : PySem.W.Hook := hookP fa fn cs
def ob (s : PySem.W.SharedT) : AlM := obsP fa fn cs (HandSHeadRun.getT s)
theorem ob_eq (s : PySem.W.SharedT) : ob s = hk.obs s.abs := obsP_eq (HandSHeadRun.getT_eq s)
theorem run1 (w : World) (os : OsState) : (HandSHeadRun.endF (HandSHeadRun.stepQ (HandSHeadRun.denQ HandSHeadRun.tabQ) R.prog w) 20000 R.prog w os).map (fun s => HandSHeadRun.looksF R.prog (PySem.W.boot_heap w.params) s.abs) = some true := by kernel_rfl
theorem run2 (w : World) (os : OsState) : (HandSHeadRun.endF (HandSHeadRun.stepQ (HandSHeadRun.denQ HandSHeadRun.tabQ) R.prog w) 20000 R.prog w os).map (fun s => HandSHeadRun.seenQ (PySem.W.view R.prog [74]) names (importedModules R.prog.main.body) (fun s => PySem.W.xlAt (PySem.W.view R.prog [74]) [] s && PySem.W.recOk R.toRowW.records s) s.abs) = some (PySem.W.openGood (PySem.W.view R.prog [74]) names) := by kernel_rfl
theorem run3 (w : World) (os : OsState) : (HandSHeadRun.endF (HandSHeadRun.stepQ (HandSHeadRun.denQ HandSHeadRun.tabQ) R.prog w) 20000 R.prog w os).map ob = some (hk.val w) := by kernel_rfl
theorem run (w : World) : HandSHeadRun.RunEq R (PySem.W.view R.prog [74]) hk ob 20000 names w := fun os => map3 (run1 w os) (run2 w os) (run3 w os)
end My
namespace My
open PySem PySem.Spec PyProof.Rows L2 DL
section
variable {P : Program} {w : World} {K : PySem.W.Frag} {mg : PySem.Str → Option Value} {base : Heap}
def b__law_hand : DenS := dThen (dAsg (dLc (dSeq (dSl (dVar 0) (dNoP) (dPart (dC (.int 63))))) (dgName 2) (dYes) (dCB oAbs (dCons (dCB oInt (dCons (dVar 2) (dNil))) (dNil))) [2]) (dgName 1))
  (dRet (dLst (dCons (dVar 1) (dCons (dC (.int 0)) (dCons (dC (.int 0)) (dCons (dBin oAdd (dC (.int 151)) (dBin oMulT (dC (.int 79)) (dCB oLen (dCons (dVar 1) (dNil))))) (dCons (dC (.int 0)) (dNil))))))))
def m__law_hand : FDen := mkF 1 3 b__law_hand
theorem sc__law_hand : FnScope ["script", "cells", "cell"] ["script"] (defScope s__law_hand) := ⟨rfl, rfl, rfl, by decide +kernel, rfl, by decide +kernel, by decide +kernel⟩
theorem f__law_hand (hd : Hd fa fn cs K mg) : Fn1 P w K mg base 1 "_law_hand" ["script"] (spD K m__law_hand) :=
  fn1_pure hd 0 0 1 rfl rfl rfl rfl rfl sc__law_hand (fun _ _ _ _ _ _ us hl => match us, hl with | [_], _ => rfl) rfl rfl fun f cdv A outer s H E hr B hB =>
    dss_cons (by first | exact ds_set 1 sc__law_hand.nd (de_lc [("cell", 2)] (by rfl) sc__law_hand.nd (di_seq hB (de_slice hB (de_var 0) (do_none) (do_some (de_int)))) (blkOk_by (by rfl)) (by decide) (fun _ _ _ _ _ => dg_name 2 sc__law_hand.nd) (fun _ _ _ _ _ => dts_nil) (fun _ _ _ _ _ => de_callB ok_abs hB (by rfl) (hd.free 48 (x := "abs")) bt_abs (da_cons (de_callTy ok_int hB (by rfl) (hd.free 49 (x := "int")) bt_int (da_cons (de_var 2) (da_nil))) (da_nil)))) | exact ds_setLc 1 [("cell", 2)] (by rfl) sc__law_hand.nd (by rfl) (by rfl) (by rfl) (di_seq hB (de_slice hB (de_var 0) (do_none) (do_some (de_int)))) (blkOk_by (by rfl)) (by decide) (fun _ _ _ _ _ => dg_name 2 sc__law_hand.nd) (fun _ _ _ _ _ => dts_nil) (fun _ _ _ _ _ => de_callB ok_abs hB (by rfl) (hd.free 48 (x := "abs")) bt_abs (da_cons (de_callTy ok_int hB (by rfl) (hd.free 49 (x := "int")) bt_int (da_cons (de_var 2) (da_nil))) (da_nil))))
    (dss_one (ds_ret (de_lst (da_cons (de_var 1) (da_cons (de_int) (da_cons (de_int) (da_cons (de_bin ok_add hB (de_int) (de_bin ok_mulT hB (de_int) (de_callB ok_len hB (by rfl) (hd.free 50 (x := "len")) bt_len (da_cons (de_var 1) (da_nil))))) (da_cons (de_int) (da_nil)))))))))
def b__law_draw_1 : DenS := dThen (dIfS (dTest (dBin oGt (dBin oIx (dVar 0) (dC (.int 2))) (dC (.int 0)))) (dThen (dAsg (dBin oMod (dCB oInt (dCons (dBin oIx (dVar 0) (dC (.int 2))) (dNil))) (dVar 1)) (dgName 4))
  (dThen (dAsg (dBin oDiv (dBin oIx (dVar 0) (dC (.int 2))) (dVar 1)) (dgSub (dVar 0) (dC (.int 2))))
  (dRet (dVar 4)))) (dNext))
  (dThen (dAsg (dBin oAdd (dBin oIx (dVar 0) (dC (.int 4))) (dC (.int 1))) (dgSub (dVar 0) (dC (.int 4))))
  (dThen (dAsg (dBin oMod (dCB oInt (dCons (dBin oMulT (dCB oInt (dCons (dBin oAdd (dBin oIx (dVar 0) (dC (.int 3))) (dBin oMulT (dC (.int 7919)) (dBin oIx (dVar 0) (dC (.int 4))))) (dNil))) (dC (.int 48271))) (dNil))) (dC (.int 2147483647))) (dgName 2))
  (dThen (dAsg (dBin oMod (dCB oInt (dCons (dBin oMulT (dVar 2) (dBin oAdd (dBin oDiv (dVar 2) (dC (.int 1009))) (dC (.int 69621)))) (dNil))) (dC (.int 2147483647))) (dgName 2))
  (dThen (dAsg (dBin oMod (dCB oInt (dCons (dBin oMulT (dVar 2) (dBin oAdd (dBin oDiv (dVar 2) (dC (.int 2003))) (dC (.int 40692)))) (dNil))) (dC (.int 2147483399))) (dgName 2))
  (dRet (dBin oMod (dCB oInt (dCons (dBin oDiv (dVar 2) (dC (.int 16))) (dNil))) (dVar 1)))))))
def b__law_draw : DenS := dThen (dIfS (dAnd (dTest (dBin oEq (dBin oIx (dVar 0) (dC (.int 2))) (dC (.int 0)))) (dTest (dBin oLt (dBin oIx (dVar 0) (dC (.int 1))) (dCB oLen (dCons (dBin oIx (dVar 0) (dC (.int 0))) (dNil)))))) (dThen (dAsg (dBin oIx (dBin oIx (dVar 0) (dC (.int 0))) (dBin oIx (dVar 0) (dC (.int 1)))) (dgName 3))
  (dThen (dAsg (dBin oAdd (dBin oIx (dVar 0) (dC (.int 1))) (dC (.int 1))) (dgSub (dVar 0) (dC (.int 1))))
  (dThen (dAsg (dBin oMod (dCB oInt (dCons (dBin oAdd (dBin oAdd (dBin oMulT (dBin oIx (dVar 0) (dC (.int 3))) (dC (.int 69621))) (dBin oMulT (dVar 3) (dC (.int 40692)))) (dC (.int 79))) (dNil))) (dC (.int 2147483629))) (dgSub (dVar 0) (dC (.int 3))))
  (dIfS (dTest (dBin oGe (dVar 3) (dBin oPow (dC (.int 10)) (dC (.int 18))))) (dAsg (dVar 3) (dgSub (dVar 0) (dC (.int 2)))) (dNext))))) (dNext))
  (b__law_draw_1)
def m__law_draw : IDen := mkIO 2 5 b__law_draw
theorem sc__law_draw : FnScope ["hand", "many", "number", "cell", "digit"] ["hand", "many"] (defScope s__law_draw) := ⟨rfl, rfl, rfl, by decide +kernel, rfl, by decide +kernel, by decide +kernel⟩
theorem f__law_draw (hd : Hd fa fn cs K mg) : Fn1 P w K mg base 1 "_law_draw" ["hand", "many"] (spIO K m__law_draw) :=
  fn1_io hd 1 1 2 rfl rfl rfl rfl rfl sc__law_draw (fun _ _ _ _ _ _ us hl => match us, hl with | [_, _], _ => rfl) rfl rfl fun f cdv A outer s H E hr B hB =>
    dss_cons (ds_if ((dw_and (dt_cmp (ok_eq (ru64 hr)) hB (de_ix (ru1 hr) hB (de_var 0) (de_int) (fun _ _ => rfl)) (de_int) (nomark _)) (dw_and1 (dt_cmp ok_lt hB (de_ix (ru1 hr) hB (de_var 0) (de_int) (fun _ _ => rfl)) (de_callB ok_len hB (by rfl) (hd.free 50 (x := "len")) bt_len (da_cons (de_ix (ru1 hr) hB (de_var 0) (de_int) (fun _ _ => rfl)) (da_nil))) (nomark _)))).pt) (dss_cons (ds_set 3 sc__law_draw.nd (de_ix (ru1 hr) hB (de_ix (ru1 hr) hB (de_var 0) (de_int) (fun _ _ => rfl)) (de_ix (ru1 hr) hB (de_var 0) (de_int) (fun _ _ => rfl)) (fun _ _ => rfl)))
    (dss_cons (ds_asg (de_bin ok_add hB (de_ix (ru1 hr) hB (de_var 0) (de_int) (fun _ _ => rfl)) (de_int)) (dg_sub (ru1 hr) (de_var 0) (de_int)))
    (dss_cons (ds_asg (de_bin ok_mod hB (de_callTy ok_int hB (by rfl) (hd.free 49 (x := "int")) bt_int (da_cons (de_bin ok_add hB (de_bin ok_add hB (de_bin ok_mulT hB (de_ix (ru1 hr) hB (de_var 0) (de_int) (fun _ _ => rfl)) (de_int)) (de_bin ok_mulT hB (de_var 3) (de_int))) (de_int)) (da_nil))) (de_int)) (dg_sub (ru1 hr) (de_var 0) (de_int)))
    (dss_one (ds_if (dt_cmp ok_ge hB (de_var 3) (de_bin ok_pow hB (de_int) (de_int)) (nomark _)) (dss_one (ds_asg (de_var 3) (dg_sub (ru1 hr) (de_var 0) (de_int)))) (dss_nil)))))) (dss_nil))
    (dss_cons (ds_if (dt_cmp ok_gt hB (de_ix (ru1 hr) hB (de_var 0) (de_int) (fun _ _ => rfl)) (de_int) (nomark _)) (dss_cons (ds_set 4 sc__law_draw.nd (de_bin ok_mod hB (de_callTy ok_int hB (by rfl) (hd.free 49 (x := "int")) bt_int (da_cons (de_ix (ru1 hr) hB (de_var 0) (de_int) (fun _ _ => rfl)) (da_nil))) (de_var 1)))
    (dss_cons (ds_asg (de_bin ok_div hB (de_ix (ru1 hr) hB (de_var 0) (de_int) (fun _ _ => rfl)) (de_var 1)) (dg_sub (ru1 hr) (de_var 0) (de_int)))
    (dss_one (ds_ret (de_var 4))))) (dss_nil))
    (dss_cons (ds_asg (de_bin ok_add hB (de_ix (ru1 hr) hB (de_var 0) (de_int) (fun _ _ => rfl)) (de_int)) (dg_sub (ru1 hr) (de_var 0) (de_int)))
    (dss_cons (ds_set 2 sc__law_draw.nd (de_bin ok_mod hB (de_callTy ok_int hB (by rfl) (hd.free 49 (x := "int")) bt_int (da_cons (de_bin ok_mulT hB (de_callTy ok_int hB (by rfl) (hd.free 49 (x := "int")) bt_int (da_cons (de_bin ok_add hB (de_ix (ru1 hr) hB (de_var 0) (de_int) (fun _ _ => rfl)) (de_bin ok_mulT hB (de_int) (de_ix (ru1 hr) hB (de_var 0) (de_int) (fun _ _ => rfl)))) (da_nil))) (de_int)) (da_nil))) (de_int)))
    (dss_cons (ds_set 2 sc__law_draw.nd (de_bin ok_mod hB (de_callTy ok_int hB (by rfl) (hd.free 49 (x := "int")) bt_int (da_cons (de_bin ok_mulT hB (de_var 2) (de_bin ok_add hB (de_bin ok_div hB (de_var 2) (de_int)) (de_int))) (da_nil))) (de_int)))
    (dss_cons (ds_set 2 sc__law_draw.nd (de_bin ok_mod hB (de_callTy ok_int hB (by rfl) (hd.free 49 (x := "int")) bt_int (da_cons (de_bin ok_mulT hB (de_var 2) (de_bin ok_add hB (de_bin ok_div hB (de_var 2) (de_int)) (de_int))) (da_nil))) (de_int)))
    (dss_one (ds_ret (de_bin ok_mod hB (de_callTy ok_int hB (by rfl) (hd.free 49 (x := "int")) bt_int (da_cons (de_bin ok_div hB (de_var 2) (de_int)) (da_nil))) (de_var 1)))))))))
def b__law_some : DenS := dRet (dBin oIx (dVar 1) (dCallIO m__law_draw (dCons (dVar 0) (dCons (dCB oLen (dCons (dVar 1) (dNil))) (dNil)))))
def m__law_some : IDen := mkIO 2 2 b__law_some
theorem sc__law_some : FnScope ["hand", "items"] ["hand", "items"] (defScope s__law_some) := ⟨rfl, rfl, rfl, by decide +kernel, rfl, by decide +kernel, by decide +kernel⟩
theorem f__law_some (hd : Hd fa fn cs K mg) : Fn1 P w K mg base 2 "_law_some" ["hand", "items"] (spIO K m__law_some) :=
  fn1_io hd 2 2 2 rfl rfl rfl rfl rfl sc__law_some (fun _ _ _ _ _ _ us hl => match us, hl with | [_, _], _ => rfl) rfl rfl fun f cdv A outer s H E hr B hB =>
    dss_one (ds_ret (de_ix (ru1 hr) hB (de_var 1) (de_fnIO (f__law_draw hd) (hr.mono (by decide)) hB (da_cons (de_var 0) (da_cons (de_callB ok_len hB (by rfl) (hd.free 50 (x := "len")) bt_len (da_cons (de_var 1) (da_nil))) (da_nil)))) (fun _ _ => rfl)))
def b__law_sum : DenS := dThen (dAsg (dDct0) (dgName 3))
  (dThen (dFor ((fun S Q => dRng (fun S Q => (dCons (dBin oAdd (dC (.int 1)) (dCallIO m__law_draw (dCons (dVar 0) (dCons (dVar 2) (dNil))))) (dNil)) S fun xs S1 => xs.length = 1 ∧ Q xs S1) S Q)) (dgName 4) (dAsg (dCallIO m__law_some (dCons (dVar 0) (dCons (dLst (dCons (dC (.tup [(.int 1), (.int 1)])) (dCons (dC (.tup [(.int (-1)), (.int 1)])) (dCons (dC (.tup [(.int 2), (.int 1)])) (dCons (dC (.tup [(.int (-2)), (.int 1)])) (dCons (dC (.tup [(.int 1), (.int 2)])) (dCons (dC (.tup [(.int (-3)), (.int 2)])) (dNil)))))))) (dNil)))) (dgSub (dVar 3) (dCallIO m__law_draw (dCons (dVar 0) (dCons (dVar 1) (dNil)))))))
  (dThen (dAsg (dCallIO m__law_some (dCons (dVar 0) (dCons (dLst (dCons (dC (.tup [(.int 0), (.int 1)])) (dCons (dC (.tup [(.int 1), (.int 1)])) (dCons (dC (.tup [(.int (-1)), (.int 1)])) (dCons (dC (.tup [(.int 2), (.int 1)])) (dCons (dC (.tup [(.int 1), (.int 2)])) (dCons (dC (.tup [(.int (-1)), (.int 3)])) (dCons (dC (.tup [(.int (-3)), (.int 1)])) (dNil))))))))) (dNil)))) (dgName 5))
  (dRet (dTup (dCons (dCB oTuple (dCons (dLc (dSeq (dCB oSortedU (dCons (dVar 3) (dNil)))) (dgName 6) (dYes) (dTup (dCons (dVar 6) (dCons (dBin oIx (dVar 3) (dVar 6)) (dNil)))) [6]) (dNil))) (dCons (dVar 5) (dNil)))))))
def m__law_sum : IDen := mkIO 3 7 b__law_sum
theorem sc__law_sum : FnScope ["hand", "many", "most", "told", "step", "constant", "source"] ["hand", "many", "most"] (defScope s__law_sum) := ⟨rfl, rfl, rfl, by decide +kernel, rfl, by decide +kernel, by decide +kernel⟩
theorem f__law_sum (hd : Hd fa fn cs K mg) : Fn1 P w K mg base 3 "_law_sum" ["hand", "many", "most"] (spIO K m__law_sum) :=
  fn1_io hd 3 3 3 rfl rfl rfl rfl rfl sc__law_sum (fun _ _ _ _ _ _ us hl => match us, hl with | [_, _, _], _ => rfl) rfl rfl fun f cdv A outer s H E hr B hB =>
    dss_cons (ds_set 3 sc__law_sum.nd (de_dct0))
    (dss_cons (ds_for PassesOwn.never (by rfl) (di_range1 (by rfl) (hd.free 51 (x := "range")) (da_cons (de_bin ok_add hB (de_int) (de_fnIO (f__law_draw hd) (hr.mono (by decide)) hB (da_cons (de_var 0) (da_cons (de_var 2) (da_nil))))) (da_nil))) (dg_name 4 sc__law_sum.nd) (dss_one (ds_asg (de_fnIO (f__law_some hd) (hr.mono (by decide)) hB (da_cons (de_var 0) (da_cons (de_lst (da_cons (de_cst (isC_tup (isA_cons isC_c (isA_cons isC_c isA_nil)) (by decide)) (de_tup (da_cons (de_int) (da_cons (de_int) (da_nil))))) (da_cons (de_cst (isC_tup (isA_cons isC_neg (isA_cons isC_c isA_nil)) (by decide)) (de_tup (da_cons (de_neg (de_int)) (da_cons (de_int) (da_nil))))) (da_cons (de_cst (isC_tup (isA_cons isC_c (isA_cons isC_c isA_nil)) (by decide)) (de_tup (da_cons (de_int) (da_cons (de_int) (da_nil))))) (da_cons (de_cst (isC_tup (isA_cons isC_neg (isA_cons isC_c isA_nil)) (by decide)) (de_tup (da_cons (de_neg (de_int)) (da_cons (de_int) (da_nil))))) (da_cons (de_cst (isC_tup (isA_cons isC_c (isA_cons isC_c isA_nil)) (by decide)) (de_tup (da_cons (de_int) (da_cons (de_int) (da_nil))))) (da_cons (de_cst (isC_tup (isA_cons isC_neg (isA_cons isC_c isA_nil)) (by decide)) (de_tup (da_cons (de_neg (de_int)) (da_cons (de_int) (da_nil))))) (da_nil)))))))) (da_nil)))) (dg_sub (ru1 hr) (de_var 3) (de_fnIO (f__law_draw hd) (hr.mono (by decide)) hB (da_cons (de_var 0) (da_cons (de_var 1) (da_nil))))))))
    (dss_cons (ds_set 5 sc__law_sum.nd (de_fnIO (f__law_some hd) (hr.mono (by decide)) hB (da_cons (de_var 0) (da_cons (de_lst (da_cons (de_cst (isC_tup (isA_cons isC_c (isA_cons isC_c isA_nil)) (by decide)) (de_tup (da_cons (de_int) (da_cons (de_int) (da_nil))))) (da_cons (de_cst (isC_tup (isA_cons isC_c (isA_cons isC_c isA_nil)) (by decide)) (de_tup (da_cons (de_int) (da_cons (de_int) (da_nil))))) (da_cons (de_cst (isC_tup (isA_cons isC_neg (isA_cons isC_c isA_nil)) (by decide)) (de_tup (da_cons (de_neg (de_int)) (da_cons (de_int) (da_nil))))) (da_cons (de_cst (isC_tup (isA_cons isC_c (isA_cons isC_c isA_nil)) (by decide)) (de_tup (da_cons (de_int) (da_cons (de_int) (da_nil))))) (da_cons (de_cst (isC_tup (isA_cons isC_c (isA_cons isC_c isA_nil)) (by decide)) (de_tup (da_cons (de_int) (da_cons (de_int) (da_nil))))) (da_cons (de_cst (isC_tup (isA_cons isC_neg (isA_cons isC_c isA_nil)) (by decide)) (de_tup (da_cons (de_neg (de_int)) (da_cons (de_int) (da_nil))))) (da_cons (de_cst (isC_tup (isA_cons isC_neg (isA_cons isC_c isA_nil)) (by decide)) (de_tup (da_cons (de_neg (de_int)) (da_cons (de_int) (da_nil))))) (da_nil))))))))) (da_nil)))))
    (dss_one (ds_ret (de_tup (da_cons (de_callTy ok_tuple hB (by rfl) (hd.free 52 (x := "tuple")) bt_tuple (da_cons (de_lc [("source", 6)] (by rfl) sc__law_sum.nd (di_seq hB (de_callB (ok_sortedU rfl) hB (by rfl) (hd.free 53 (x := "sorted")) bt_sorted (da_cons (de_var 3) (da_nil)))) (blkOk_by (by rfl)) (by decide) (fun _ _ _ _ _ => dg_name 6 sc__law_sum.nd) (fun _ _ _ _ _ => dts_nil) (fun _ _ _ _ _ => de_tup (da_cons (de_var 6) (da_cons (de_ix (ru1 hr) hB (de_var 3) (de_var 6) (fun _ _ => rfl)) (da_nil))))) (da_nil))) (da_cons (de_var 5) (da_nil))))))))
def b__law_net : DenS := dThen (dAsg (dLst (dNil)) (dgName 3))
  (dThen (dFor ((fun S Q => dRng (fun S Q => (dCons (dBin oAdd (dC (.int 1)) (dCallIO m__law_draw (dCons (dVar 0) (dCons (dVar 2) (dNil))))) (dNil)) S fun xs S1 => xs.length = 1 ∧ Q xs S1) S Q)) (dgName 4) (dThen (dParN [6, 7] (dConsO (dCallIO m__law_some (dCons (dVar 0) (dCons (dLst (dCons (dC (.str "cut")) (dCons (dC (.str "cut")) (dCons (dC (.str "step")) (dCons (dC (.str "most")) (dCons (dC (.str "switch")) (dCons (dC (.str "plain")) (dNil)))))))) (dNil)))) (dConsO (dBin oAdd (dVar 1) (dVar 4)) (dNil))))
  (dIfS (dTest (dBin oEq (dVar 6) (dC (.str "most")))) (dDrop (dAppend (dVar 3) (dTup (dCons (dVar 6) (dCons (dCB oTuple (dCons (dLc ((fun S Q => dRng (fun S Q => (dCons (dBin oAdd (dC (.int 2)) (dCallIO m__law_draw (dCons (dVar 0) (dCons (dC (.int 2)) (dNil))))) (dNil)) S fun xs S1 => xs.length = 1 ∧ Q xs S1) S Q)) (dgName 8) (dYes) (dCallIO m__law_sum (dCons (dVar 0) (dCons (dVar 7) (dCons (dC (.int 2)) (dNil))))) [8]) (dNil))) (dNil)))))) (dDrop (dAppend (dVar 3) (dBin oAdd (dTup (dCons (dVar 6) (dNil))) (dCB oTuple (dCons (dLc ((fun S Q => dRng (fun S Q => (dCons (dIf (dTest (dBin oEq (dVar 6) (dC (.str "switch")))) (dC (.int 3)) (dC (.int 1))) (dNil)) S fun xs S1 => xs.length = 1 ∧ Q xs S1) S Q)) (dgName 8) (dYes) (dCallIO m__law_sum (dCons (dVar 0) (dCons (dVar 7) (dCons (dC (.int 2)) (dNil))))) [8]) (dNil)))))))))
  (dThen (dAsg (dCB oTuple (dCons (dLc ((fun S Q => dRng (fun S Q => (dCons (dBin oAdd (dC (.int 1)) (dCallIO m__law_draw (dCons (dVar 0) (dCons (dC (.int 2)) (dNil))))) (dNil)) S fun xs S1 => xs.length = 1 ∧ Q xs S1) S Q)) (dgName 8) (dYes) (dCallIO m__law_sum (dCons (dVar 0) (dCons (dBin oAdd (dVar 1) (dCB oLen (dCons (dVar 3) (dNil)))) (dCons (dC (.int 3)) (dNil))))) [8]) (dNil))) (dgName 5))
  (dRet (dTup (dCons (dVar 1) (dCons (dCB oTuple (dCons (dVar 3) (dNil))) (dCons (dVar 5) (dNil))))))))
def m__law_net : IDen := mkIO 3 9 b__law_net
theorem sc__law_net : FnScope ["hand", "m", "most", "cells", "c", "outs", "word", "many", "at"] ["hand", "m", "most"] (defScope s__law_net) := ⟨rfl, rfl, rfl, by decide +kernel, rfl, by decide +kernel, by decide +kernel⟩
theorem f__law_net (hd : Hd fa fn cs K mg) : Fn1 P w K mg base 4 "_law_net" ["hand", "m", "most"] (spIO K m__law_net) :=
  fn1_io hd 4 4 3 rfl rfl rfl rfl rfl sc__law_net (fun _ _ _ _ _ _ us hl => match us, hl with | [_, _, _], _ => rfl) rfl rfl fun f cdv A outer s H E hr B hB =>
    dss_cons (ds_set 3 sc__law_net.nd (de_lst (da_nil)))
    (dss_cons (ds_for PassesOwn.never (by rfl) (di_range1 (by rfl) (hd.free 51 (x := "range")) (da_cons (de_bin ok_add hB (de_int) (de_fnIO (f__law_draw hd) (hr.mono (by decide)) hB (da_cons (de_var 0) (da_cons (de_var 2) (da_nil))))) (da_nil))) (dg_name 4 sc__law_net.nd) (dss_cons (ds_parT hB (by rfl) (pgs_cons (pg_name (i := 6) sc__law_net.nd rfl (by first | exact Or.inl rfl | exact Or.inr rfl)) (pgs_cons (pg_name (i := 7) sc__law_net.nd rfl (by first | exact Or.inl rfl | exact Or.inr rfl)) (pgs_nil))) (da_consO (de_fnIO (f__law_some hd) (hr.mono (by decide)) hB (da_cons (de_var 0) (da_cons (de_lst (da_cons (de_str) (da_cons (de_str) (da_cons (de_str) (da_cons (de_str) (da_cons (de_str) (da_cons (de_str) (da_nil)))))))) (da_nil)))) (da_consO (de_bin ok_add hB (de_var 1) (de_var 4)) (da_nilO))) (n := 2) (by rfl) (by decide))
    (dss_one (ds_if (dt_cmp (ok_eq (ru64 hr)) hB (de_var 6) (de_str) (nomark _)) (dss_one (ds_expr (de_append hB (de_var 3) (de_tup (da_cons (de_var 6) (da_cons (de_callTy ok_tuple hB (by rfl) (hd.free 52 (x := "tuple")) bt_tuple (da_cons (de_lc [("at", 8)] (by rfl) sc__law_net.nd (di_range1 (by rfl) (hd.free 51 (x := "range")) (da_cons (de_bin ok_add hB (de_int) (de_fnIO (f__law_draw hd) (hr.mono (by decide)) hB (da_cons (de_var 0) (da_cons (de_int) (da_nil))))) (da_nil))) (blkOk_by (by rfl)) (by decide) (fun _ _ _ _ _ => dg_name 8 sc__law_net.nd) (fun _ _ _ _ _ => dts_nil) (fun _ _ _ _ _ => de_fnIO (f__law_sum hd) (hr.mono (by decide)) hB (da_cons (de_var 0) (da_cons (de_var 7) (da_cons (de_int) (da_nil)))))) (da_nil))) (da_nil))))))) (dss_one (ds_expr (de_append hB (de_var 3) (de_bin ok_add hB (de_tup (da_cons (de_var 6) (da_nil))) (de_callTy ok_tuple hB (by rfl) (hd.free 52 (x := "tuple")) bt_tuple (da_cons (de_lc [("at", 8)] (by rfl) sc__law_net.nd (di_range1 (by rfl) (hd.free 51 (x := "range")) (da_cons (de_ifExp (dt_cmp (ok_eq (ru64 hr)) hB (de_var 6) (de_str) (nomark _)) (de_int) (de_int)) (da_nil))) (blkOk_by (by rfl)) (by decide) (fun _ _ _ _ _ => dg_name 8 sc__law_net.nd) (fun _ _ _ _ _ => dts_nil) (fun _ _ _ _ _ => de_fnIO (f__law_sum hd) (hr.mono (by decide)) hB (da_cons (de_var 0) (da_cons (de_var 7) (da_cons (de_int) (da_nil)))))) (da_nil)))))))))))
    (dss_cons (ds_set 5 sc__law_net.nd (de_callTy ok_tuple hB (by rfl) (hd.free 52 (x := "tuple")) bt_tuple (da_cons (de_lc [("at", 8)] (by rfl) sc__law_net.nd (di_range1 (by rfl) (hd.free 51 (x := "range")) (da_cons (de_bin ok_add hB (de_int) (de_fnIO (f__law_draw hd) (hr.mono (by decide)) hB (da_cons (de_var 0) (da_cons (de_int) (da_nil))))) (da_nil))) (blkOk_by (by rfl)) (by decide) (fun _ _ _ _ _ => dg_name 8 sc__law_net.nd) (fun _ _ _ _ _ => dts_nil) (fun _ _ _ _ _ => de_fnIO (f__law_sum hd) (hr.mono (by decide)) hB (da_cons (de_var 0) (da_cons (de_bin ok_add hB (de_var 1) (de_callB ok_len hB (by rfl) (hd.free 50 (x := "len")) bt_len (da_cons (de_var 3) (da_nil)))) (da_cons (de_int) (da_nil)))))) (da_nil))))
    (dss_one (ds_ret (de_tup (da_cons (de_var 1) (da_cons (de_callTy ok_tuple hB (by rfl) (hd.free 52 (x := "tuple")) bt_tuple (da_cons (de_var 3) (da_nil))) (da_cons (de_var 5) (da_nil)))))))))
def b__law_point : DenS := dThen (dAsg (dLst (dCons (dC (.tup [(.int 0), (.int 1)])) (dCons (dC (.tup [(.int 1), (.int 1)])) (dCons (dC (.tup [(.int (-1)), (.int 1)])) (dCons (dC (.tup [(.int 1), (.int 2)])) (dCons (dC (.tup [(.int (-2)), (.int 3)])) (dCons (dC (.tup [(.int 3), (.int 1)])) (dCons (dC (.tup [(.int 5), (.int 7)])) (dCons (dC (.tup [(.int (-40)), (.int 1)])) (dNil)))))))))) (dgName 2))
  (dRet (dCB oTuple (dCons (dLc ((fun S Q => dRng (fun S Q => (dCons (dVar 1) (dNil)) S fun xs S1 => xs.length = 1 ∧ Q xs S1) S Q)) (dgName 3) (dYes) (dCallIO m__law_some (dCons (dVar 0) (dCons (dVar 2) (dNil)))) [3]) (dNil))))
def m__law_point : IDen := mkIO 2 4 b__law_point
theorem sc__law_point : FnScope ["hand", "m", "some", "i"] ["hand", "m"] (defScope s__law_point) := ⟨rfl, rfl, rfl, by decide +kernel, rfl, by decide +kernel, by decide +kernel⟩
theorem f__law_point (hd : Hd fa fn cs K mg) : Fn1 P w K mg base 3 "_law_point" ["hand", "m"] (spIO K m__law_point) :=
  fn1_io hd 5 5 2 rfl rfl rfl rfl rfl sc__law_point (fun _ _ _ _ _ _ us hl => match us, hl with | [_, _], _ => rfl) rfl rfl fun f cdv A outer s H E hr B hB =>
    dss_cons (ds_set 2 sc__law_point.nd (de_lst (da_cons (de_cst (isC_tup (isA_cons isC_c (isA_cons isC_c isA_nil)) (by decide)) (de_tup (da_cons (de_int) (da_cons (de_int) (da_nil))))) (da_cons (de_cst (isC_tup (isA_cons isC_c (isA_cons isC_c isA_nil)) (by decide)) (de_tup (da_cons (de_int) (da_cons (de_int) (da_nil))))) (da_cons (de_cst (isC_tup (isA_cons isC_neg (isA_cons isC_c isA_nil)) (by decide)) (de_tup (da_cons (de_neg (de_int)) (da_cons (de_int) (da_nil))))) (da_cons (de_cst (isC_tup (isA_cons isC_c (isA_cons isC_c isA_nil)) (by decide)) (de_tup (da_cons (de_int) (da_cons (de_int) (da_nil))))) (da_cons (de_cst (isC_tup (isA_cons isC_neg (isA_cons isC_c isA_nil)) (by decide)) (de_tup (da_cons (de_neg (de_int)) (da_cons (de_int) (da_nil))))) (da_cons (de_cst (isC_tup (isA_cons isC_c (isA_cons isC_c isA_nil)) (by decide)) (de_tup (da_cons (de_int) (da_cons (de_int) (da_nil))))) (da_cons (de_cst (isC_tup (isA_cons isC_c (isA_cons isC_c isA_nil)) (by decide)) (de_tup (da_cons (de_int) (da_cons (de_int) (da_nil))))) (da_cons (de_cst (isC_tup (isA_cons isC_neg (isA_cons isC_c isA_nil)) (by decide)) (de_tup (da_cons (de_neg (de_int)) (da_cons (de_int) (da_nil))))) (da_nil)))))))))))
    (dss_one (ds_ret (de_callTy ok_tuple hB (by rfl) (hd.free 52 (x := "tuple")) bt_tuple (da_cons (de_lc [("i", 3)] (by rfl) sc__law_point.nd (di_range1 (by rfl) (hd.free 51 (x := "range")) (da_cons (de_var 1) (da_nil))) (blkOk_by (by rfl)) (by decide) (fun _ _ _ _ _ => dg_name 3 sc__law_point.nd) (fun _ _ _ _ _ => dts_nil) (fun _ _ _ _ _ => de_fnIO (f__law_some hd) (hr.mono (by decide)) hB (da_cons (de_var 0) (da_cons (de_var 2) (da_nil))))) (da_nil)))))
def b__law_word_c0 (a : Addr) (c : PySem.Str) (xs : List D) : DenS := dRet (dC (.str "many"))
def b__law_word_c1 (a : Addr) (c : PySem.Str) (xs : List D) : DenS := dThen (dAsg (dLst (dCons (dIsE 1 a (subE c "NoNet")) (dCons (dIsE 1 a (subE c "NoPoint")) (dCons (dIsE 1 a (subE c "NoSource")) (dNil))))) (dgName 2))
  (dThen (dAsg (dBin oAdd (dVar 2) (dLst (dCons (dIsE 1 a (subE c "NoTrace")) (dCons (dIsE 1 a (subE c "NoCell")) (dCons (dIsE 1 a (subE c "NoOut")) (dNil)))))) (dgName 2))
  (dThen (dAsg (dLst (dCons (dC (.str "net")) (dCons (dC (.str "point")) (dCons (dC (.str "source")) (dCons (dC (.str "trace")) (dCons (dC (.str "cell")) (dCons (dC (.str "out")) (dNil)))))))) (dgName 3))
  (dRet (dIf (dTest (dBin oEq (dMeth isL oCount (dVar 2) (dC (.bl true))) (dC (.int 1)))) (dBin oIx (dVar 3) (dMeth isL oIndex (dVar 2) (dC (.bl true)))) (dC (.str "other"))))))
def l__law_word : List CD := [("TooMany", none, b__law_word_c0), ("SumError", (some 1), b__law_word_c1)]
def p__law_word : DenS := dRet (dC (.str "told"))
theorem sc__law_word : FnScope ["call", "error", "flags", "words"] ["call"] (defScope s__law_word) := ⟨rfl, rfl, rfl, by decide +kernel, rfl, by decide +kernel, by decide +kernel⟩
theorem G__law_word {X : Cx} (hd : Hd fa fn cs X.K X.mg) (hr : Room 2 X.A) {q : PySem.Str} (g : Addr) (cdg : Value) : LamX.GivesTo X ["call", "error", "flags", "words"] "_law_word" d__law_word.scope g cdg d__law_word.body "call" q (TTw X.K (exNames cs) l__law_word 4 (fun f => L2.start ["call", "error", "flags", "words"] [.ref f]) p__law_word) :=
  word_gives sc__law_word.nd rfl (fun _ => rfl) (fun s H => .plain (List.mem_of_getElem? (i := 7) (by rfl)) ⟨rfl, by decide, .inl (hd.exn 20)⟩ (fun a oe c xs d pn H ek hz hf B hB => dss_one (ds_ret (de_str))) (.named (List.mem_of_getElem? (i := 0) (by rfl)) (i := 1) rfl rfl ⟨rfl, by decide, .inl (hd.exn 13)⟩ (fun a oe c xs d pn H ek hz hf B hB => dss_cons (ds_set 2 sc__law_word.nd (de_lst (da_cons (de_isE 1 ek.ok (List.mem_of_getElem? (i := 2) (by rfl)) (hd.exn 15) (zc0 ek hz) hf (hd.free 54 (x := "isinstance"))) (da_cons (de_isE 1 ek.ok (List.mem_of_getElem? (i := 4) (by rfl)) (hd.exn 17) (zc0 ek hz) hf (hd.free 54 (x := "isinstance"))) (da_cons (de_isE 1 ek.ok (List.mem_of_getElem? (i := 5) (by rfl)) (hd.exn 18) (zc0 ek hz) hf (hd.free 54 (x := "isinstance"))) (da_nil))))))
    (dss_cons (ds_set 2 sc__law_word.nd (de_bin ok_add hB (de_var 2) (de_lst (da_cons (de_isE 1 ek.ok (List.mem_of_getElem? (i := 6) (by rfl)) (hd.exn 19) (zc0 ek hz) hf (hd.free 54 (x := "isinstance"))) (da_cons (de_isE 1 ek.ok (List.mem_of_getElem? (i := 1) (by rfl)) (hd.exn 14) (zc0 ek hz) hf (hd.free 54 (x := "isinstance"))) (da_cons (de_isE 1 ek.ok (List.mem_of_getElem? (i := 3) (by rfl)) (hd.exn 16) (zc0 ek hz) hf (hd.free 54 (x := "isinstance"))) (da_nil)))))))
    (dss_cons (ds_set 3 sc__law_word.nd (de_lst (da_cons (de_str) (da_cons (de_str) (da_cons (de_str) (da_cons (de_str) (da_cons (de_str) (da_cons (de_str) (da_nil)))))))))
    (dss_one (ds_ret (de_ifExp (dt_cmp (ok_eq (us64 hr)) hB (de_lcount (us65 hr) hB (de_var 2) (de_bl)) (de_int) (nomark _)) (de_ix (us1 hr) hB (de_var 3) (de_lindex (us65 hr) hB (de_var 2) (de_bl)) (fun _ _ => rfl)) (de_str))))))) (.nil))) (fun s H B hB => dss_one (ds_ret (de_str)))
theorem r0__law_word {K : PySem.W.Frag} (f : Addr) (H : Hp) : Rel (Bs.p (wB K H) []) (fun _ => False) ((fun f => L2.start ["call", "error", "flags", "words"] [.ref f]) f) H (List.replicate 4 .no) := r0_no rfl (by decide) f H
def w__law_word (dc : Den) (rc : DenL) : Den := dLam (plNames cs) l__law_word 4 (List.replicate 4 .no) p__law_word dc rc
def b_is_tuple_of : DenS := dRet (dAndV (dIsi .tuple (dVar 0)) (dBin oEq (dCB oLen (dCons (dVar 0) (dNil))) (dVar 1)))
def m_is_tuple_of : FDen := mkF 2 2 b_is_tuple_of
theorem sc_is_tuple_of : FnScope ["thing", "size"] ["thing", "size"] (defScope s_is_tuple_of) := ⟨rfl, rfl, rfl, by decide +kernel, rfl, by decide +kernel, by decide +kernel⟩
theorem f_is_tuple_of (hd : Hd fa fn cs K mg) : Fn1 P w K mg base 1 "is_tuple_of" ["thing", "size"] (spD K m_is_tuple_of) :=
  fn1_pure hd 7 7 2 rfl rfl rfl rfl rfl sc_is_tuple_of (fun _ _ _ _ _ _ us hl => match us, hl with | [_, _], _ => rfl) rfl rfl fun f cdv A outer s H E hr B hB =>
    dss_one (ds_ret (de_and (de_isi .tuple hB (by rfl) (hd.free 54 (x := "isinstance")) (by rfl) (hd.free 52 (x := "tuple")) (by rfl) (de_var 0)) (de_one (de_cmp (ok_eq (ru64 hr)) hB (de_callB ok_len hB (by rfl) (hd.free 50 (x := "len")) bt_len (da_cons (de_var 0) (da_nil))) (de_var 1) (nomark _)))))
def b_is_integer : DenS := dRet (dAndV (dIsi .int (dVar 0)) (dNotV (dIsi .bool (dVar 0))))
def m_is_integer : FDen := mkF 1 1 b_is_integer
theorem sc_is_integer : FnScope ["thing"] ["thing"] (defScope s_is_integer) := ⟨rfl, rfl, rfl, by decide +kernel, rfl, by decide +kernel, by decide +kernel⟩
theorem f_is_integer (hd : Hd fa fn cs K mg) : Fn1 P w K mg base 1 "is_integer" ["thing"] (spD K m_is_integer) :=
  fn1_pure hd 8 8 1 rfl rfl rfl rfl rfl sc_is_integer (fun _ _ _ _ _ _ us hl => match us, hl with | [_], _ => rfl) rfl rfl fun f cdv A outer s H E hr B hB =>
    dss_one (ds_ret (de_and (de_isi .int hB (by rfl) (hd.free 54 (x := "isinstance")) (by rfl) (hd.free 49 (x := "int")) (by rfl) (de_var 0)) (de_one (de_not (de_isi .bool hB (by rfl) (hd.free 54 (x := "isinstance")) (by rfl) (hd.free 55 (x := "bool")) (by rfl) (de_var 0))))))
def b_is_within : DenS := dRet (dAndV (dCall m_is_integer (dCons (dVar 0) (dNil))) (dChain oLe oLe (dVar 1) (dVar 0) (dVar 2)))
def m_is_within : FDen := mkF 3 3 b_is_within
theorem sc_is_within : FnScope ["thing", "low", "high"] ["thing", "low", "high"] (defScope s_is_within) := ⟨rfl, rfl, rfl, by decide +kernel, rfl, by decide +kernel, by decide +kernel⟩
theorem f_is_within (hd : Hd fa fn cs K mg) : Fn1 P w K mg base 2 "is_within" ["thing", "low", "high"] (spD K m_is_within) :=
  fn1_pure hd 9 9 3 rfl rfl rfl rfl rfl sc_is_within (fun _ _ _ _ _ _ us hl => match us, hl with | [_, _, _], _ => rfl) rfl rfl fun f cdv A outer s H E hr B hB =>
    dss_one (ds_ret (de_and (de_fn (f_is_integer hd) (hr.mono (by decide)) hB (da_cons (de_var 0) (da_nil))) (de_one (de_chain ok_le ok_le hB (de_var 1) (de_var 0) (de_var 2)))))
def b_common : DenS := dThen (dWhile (dTest (dBin oNe (dVar 1) (dC (.int 0)))) (dPar 0 1 (dCons (dVar 1) (dCons (dBin oSub (dVar 0) (dBin oMulT (dVar 1) (dBin oDiv (dVar 0) (dVar 1)))) (dNil)))))
  (dRet (dVar 0))
def m_common : FDen := mkF 2 2 b_common
theorem sc_common : FnScope ["x", "y"] ["x", "y"] (defScope s_common) := ⟨rfl, rfl, rfl, by decide +kernel, rfl, by decide +kernel, by decide +kernel⟩
theorem f_common (hd : Hd fa fn cs K mg) : Fn1 P w K mg base 1 "common" ["x", "y"] (spD K m_common) :=
  fn1_pure hd 10 10 2 rfl rfl rfl rfl rfl sc_common (fun _ _ _ _ _ _ us hl => match us, hl with | [_, _], _ => rfl) rfl rfl fun f cdv A outer s H E hr B hB =>
    dss_cons (ds_while PassesOwn.never (dt_cmp (ok_ne (ru64 hr)) hB (de_var 1) (de_int) (nomark _)) (dss_one (ds_par 0 1 sc_common.nd (da_cons (de_var 1) (da_cons (de_bin ok_sub hB (de_var 0) (de_bin ok_mulT hB (de_var 1) (de_bin ok_div hB (de_var 0) (de_var 1)))) (da_nil))))))
    (dss_one (ds_ret (de_var 0)))
def b_is_fraction : DenS := dThen (dIfS (dOr (dNot (dTest (dCall m_is_tuple_of (dCons (dVar 0) (dCons (dC (.int 2)) (dNil)))))) (dOr (dNot (dTest (dCall m_is_integer (dCons (dBin oIx (dVar 0) (dC (.int 0))) (dNil))))) (dNot (dTest (dCall m_is_integer (dCons (dBin oIx (dVar 0) (dC (.int 1))) (dNil))))))) (dRet (dC (.bl false))) (dNext))
  (dRet (dAndV (dBin oGt (dBin oIx (dVar 0) (dC (.int 1))) (dC (.int 0))) (dBin oEq (dCall m_common (dCons (dCB oAbs (dCons (dBin oIx (dVar 0) (dC (.int 0))) (dNil))) (dCons (dBin oIx (dVar 0) (dC (.int 1))) (dNil)))) (dC (.int 1)))))
def m_is_fraction : FDen := mkF 1 1 b_is_fraction
theorem sc_is_fraction : FnScope ["thing"] ["thing"] (defScope s_is_fraction) := ⟨rfl, rfl, rfl, by decide +kernel, rfl, by decide +kernel, by decide +kernel⟩
theorem f_is_fraction (hd : Hd fa fn cs K mg) : Fn1 P w K mg base 2 "is_fraction" ["thing"] (spD K m_is_fraction) :=
  fn1_pure hd 11 11 1 rfl rfl rfl rfl rfl sc_is_fraction (fun _ _ _ _ _ _ us hl => match us, hl with | [_], _ => rfl) rfl rfl fun f cdv A outer s H E hr B hB =>
    dss_cons (ds_if ((dw_or (dt_not (dt_val (de_fn (f_is_tuple_of hd) (hr.mono (by decide)) hB (da_cons (de_var 0) (da_cons (de_int) (da_nil)))))) (dw_or (dt_not (dt_val (de_fn (f_is_integer hd) (hr.mono (by decide)) hB (da_cons (de_ix (ru1 hr) hB (de_var 0) (de_int) (fun _ _ => rfl)) (da_nil))))) (dw_or1 (dt_not (dt_val (de_fn (f_is_integer hd) (hr.mono (by decide)) hB (da_cons (de_ix (ru1 hr) hB (de_var 0) (de_int) (fun _ _ => rfl)) (da_nil)))))))).pt) (dss_one (ds_ret (de_bl))) (dss_nil))
    (dss_one (ds_ret (de_and (de_cmp ok_gt hB (de_ix (ru1 hr) hB (de_var 0) (de_int) (fun _ _ => rfl)) (de_int) (nomark _)) (de_one (de_cmp (ok_eq (ru64 hr)) hB (de_fn (f_common hd) (hr.mono (by decide)) hB (da_cons (de_callB ok_abs hB (by rfl) (hd.free 48 (x := "abs")) bt_abs (da_cons (de_ix (ru1 hr) hB (de_var 0) (de_int) (fun _ _ => rfl)) (da_nil))) (da_cons (de_ix (ru1 hr) hB (de_var 0) (de_int) (fun _ _ => rfl)) (da_nil)))) (de_int) (nomark _))))))
def b_is_pair_of : DenS := dThen (dIfS (dOr (dNot (dTest (dCall m_is_tuple_of (dCons (dVar 1) (dCons (dC (.int 2)) (dNil)))))) (dNot (dTest (dCall m_is_within (dCons (dBin oIx (dVar 1) (dC (.int 0))) (dCons (dC (.int 0)) (dCons (dBin oSub (dVar 0) (dC (.int 1))) (dNil)))))))) (dRet (dC (.bl false))) (dNext))
  (dRet (dAndV (dCall m_is_fraction (dCons (dBin oIx (dVar 1) (dC (.int 1))) (dNil))) (dBin oNe (dBin oIx (dBin oIx (dVar 1) (dC (.int 1))) (dC (.int 0))) (dC (.int 0)))))
def m_is_pair_of : FDen := mkF 2 2 b_is_pair_of
theorem sc_is_pair_of : FnScope ["many", "thing"] ["many", "thing"] (defScope s_is_pair_of) := ⟨rfl, rfl, rfl, by decide +kernel, rfl, by decide +kernel, by decide +kernel⟩
theorem f_is_pair_of (hd : Hd fa fn cs K mg) : Fn1 P w K mg base 3 "is_pair_of" ["many", "thing"] (spD K m_is_pair_of) :=
  fn1_pure hd 12 12 2 rfl rfl rfl rfl rfl sc_is_pair_of (fun _ _ _ _ _ _ us hl => match us, hl with | [_, _], _ => rfl) rfl rfl fun f cdv A outer s H E hr B hB =>
    dss_cons (ds_if ((dw_or (dt_not (dt_val (de_fn (f_is_tuple_of hd) (hr.mono (by decide)) hB (da_cons (de_var 1) (da_cons (de_int) (da_nil)))))) (dw_or1 (dt_not (dt_val (de_fn (f_is_within hd) (hr.mono (by decide)) hB (da_cons (de_ix (ru1 hr) hB (de_var 1) (de_int) (fun _ _ => rfl)) (da_cons (de_int) (da_cons (de_bin ok_sub hB (de_var 0) (de_int)) (da_nil))))))))).pt) (dss_one (ds_ret (de_bl))) (dss_nil))
    (dss_one (ds_ret (de_and (de_fn (f_is_fraction hd) (hr.mono (by decide)) hB (da_cons (de_ix (ru1 hr) hB (de_var 1) (de_int) (fun _ _ => rfl)) (da_nil))) (de_one (de_cmp (ok_ne (ru64 hr)) hB (de_ix (ru1 hr) hB (de_ix (ru1 hr) hB (de_var 1) (de_int) (fun _ _ => rfl)) (de_int) (fun _ _ => rfl)) (de_int) (nomark _))))))
def b_raw_is_sum : DenS := dThen (dIfS (dOr (dNot (dTest (dCall m_is_tuple_of (dCons (dVar 1) (dCons (dC (.int 2)) (dNil)))))) (dOr (dNot (dTest (dIsi .tuple (dBin oIx (dVar 1) (dC (.int 0)))))) (dNot (dTest (dCall m_is_fraction (dCons (dBin oIx (dVar 1) (dC (.int 1))) (dNil))))))) (dRet (dC (.bl false))) (dNext))
  (dThen (dIfS (dNot (dTest (dCB oAll (dCons (dLc (dSeq (dBin oIx (dVar 1) (dC (.int 0)))) (dgName 2) (dYes) (dCall m_is_pair_of (dCons (dVar 0) (dCons (dVar 2) (dNil)))) [2]) (dNil))))) (dRet (dC (.bl false))) (dNext))
  (dRet (dCB oAll (dCons (dLc (dZip (dCons (dBin oIx (dVar 1) (dC (.int 0))) (dCons (dSl (dBin oIx (dVar 1) (dC (.int 0))) (dPart (dC (.int 1))) (dNoP)) (dNil)))) (dgTup 2 (dgCons (dgName 3) (dgCons (dgName 4) (dgNil)))) (dYes) (dBin oLt (dBin oIx (dVar 3) (dC (.int 0))) (dBin oIx (dVar 4) (dC (.int 0)))) [3, 4]) (dNil)))))
def m_raw_is_sum : FDen := mkF 2 5 b_raw_is_sum
theorem sc_raw_is_sum : FnScope ["many", "thing", "pair", "one", "other"] ["many", "thing"] (defScope s_raw_is_sum) := ⟨rfl, rfl, rfl, by decide +kernel, rfl, by decide +kernel, by decide +kernel⟩
theorem f_raw_is_sum (hd : Hd fa fn cs K mg) : Fn1 P w K mg base 4 "raw_is_sum" ["many", "thing"] (spD K m_raw_is_sum) :=
  fn1_pure hd 13 13 2 rfl rfl rfl rfl rfl sc_raw_is_sum (fun _ _ _ _ _ _ us hl => match us, hl with | [_, _], _ => rfl) rfl rfl fun f cdv A outer s H E hr B hB =>
    dss_cons (ds_if ((dw_or (dt_not (dt_val (de_fn (f_is_tuple_of hd) (hr.mono (by decide)) hB (da_cons (de_var 1) (da_cons (de_int) (da_nil)))))) (dw_or (dt_not (dt_val (de_isi .tuple hB (by rfl) (hd.free 54 (x := "isinstance")) (by rfl) (hd.free 52 (x := "tuple")) (by rfl) (de_ix (ru1 hr) hB (de_var 1) (de_int) (fun _ _ => rfl))))) (dw_or1 (dt_not (dt_val (de_fn (f_is_fraction hd) (hr.mono (by decide)) hB (da_cons (de_ix (ru1 hr) hB (de_var 1) (de_int) (fun _ _ => rfl)) (da_nil)))))))).pt) (dss_one (ds_ret (de_bl))) (dss_nil))
    (dss_cons (ds_if (dt_not (dt_val (de_callB (ok_all rfl) hB (by rfl) (hd.free 56 (x := "all")) bt_all (da_cons (de_lc [("pair", 2)] (by rfl) sc_raw_is_sum.nd (di_seq hB (de_ix (ru1 hr) hB (de_var 1) (de_int) (fun _ _ => rfl))) (blkOk_by (by rfl)) (by decide) (fun _ _ _ _ _ => dg_name 2 sc_raw_is_sum.nd) (fun _ _ _ _ _ => dts_nil) (fun _ _ _ _ _ => de_fn (f_is_pair_of hd) (hr.mono (by decide)) hB (da_cons (de_var 0) (da_cons (de_var 2) (da_nil))))) (da_nil))))) (dss_one (ds_ret (de_bl))) (dss_nil))
    (dss_one (ds_ret (de_callB (ok_all rfl) hB (by rfl) (hd.free 56 (x := "all")) bt_all (da_cons (de_lc [("one", 3), ("other", 4)] (by rfl) sc_raw_is_sum.nd (di_zip hB (by rfl) (hd.free 57 (x := "zip")) (da_cons (de_ix (ru1 hr) hB (de_var 1) (de_int) (fun _ _ => rfl)) (da_cons (de_slice hB (de_ix (ru1 hr) hB (de_var 1) (de_int) (fun _ _ => rfl)) (do_some (de_int)) (do_none)) (da_nil)))) (blkOk_by (by rfl)) (by decide) (fun _ _ _ _ _ => dg_tup hB (by rfl) (dgs_cons (dg_name 3 sc_raw_is_sum.nd) (dgs_cons (dg_name 4 sc_raw_is_sum.nd) (dgs_nil)))) (fun _ _ _ _ _ => dts_nil) (fun _ _ _ _ _ => de_cmp ok_lt hB (de_ix (ru1 hr) hB (de_var 3) (de_int) (fun _ _ => rfl)) (de_ix (ru1 hr) hB (de_var 4) (de_int) (fun _ _ => rfl)) (nomark _))) (da_nil))))))
def b_raw_is_cell : DenS := dThen (dIfS (dOr (dNot (dTest (dIsi .tuple (dVar 1)))) (dOr (dTest (dBin oLt (dCB oLen (dCons (dVar 1) (dNil))) (dC (.int 2)))) (dOr (dNot (dTest (dIsi .str (dBin oIx (dVar 1) (dC (.int 0)))))) (dTest (dBin oNotIn (dBin oIx (dVar 1) (dC (.int 0))) (dC (.tup [(.str "cut"), (.str "most"), (.str "plain"), (.str "step"), (.str "switch")]))))))) (dRet (dC (.bl false))) (dNext))
  (dThen (dIfS (dTest (dBin oEq (dBin oIx (dVar 1) (dC (.int 0))) (dC (.str "most")))) (dThen (dIfS (dOr (dTest (dBin oNe (dCB oLen (dCons (dVar 1) (dNil))) (dC (.int 2)))) (dOr (dNot (dTest (dIsi .tuple (dBin oIx (dVar 1) (dC (.int 1)))))) (dNot (dTest (dChain oLe oLe (dC (.int 2)) (dCB oLen (dCons (dBin oIx (dVar 1) (dC (.int 1))) (dNil))) (dC (.int 4))))))) (dRet (dC (.bl false))) (dNext))
  (dRet (dCB oAll (dCons (dLc (dSeq (dBin oIx (dVar 1) (dC (.int 1)))) (dgName 3) (dYes) (dCall m_raw_is_sum (dCons (dVar 0) (dCons (dVar 3) (dNil)))) [3]) (dNil))))) (dNext))
  (dThen (dAsg (dIf (dTest (dBin oEq (dBin oIx (dVar 1) (dC (.int 0))) (dC (.str "switch")))) (dC (.int 4)) (dC (.int 2))) (dgName 2))
  (dRet (dAndV (dBin oEq (dCB oLen (dCons (dVar 1) (dNil))) (dVar 2)) (dCB oAll (dCons (dLc (dSeq (dSl (dVar 1) (dPart (dC (.int 1))) (dNoP))) (dgName 3) (dYes) (dCall m_raw_is_sum (dCons (dVar 0) (dCons (dVar 3) (dNil)))) [3]) (dNil)))))))
def m_raw_is_cell : FDen := mkF 2 4 b_raw_is_cell
theorem sc_raw_is_cell : FnScope ["many", "thing", "size", "one"] ["many", "thing"] (defScope s_raw_is_cell) := ⟨rfl, rfl, rfl, by decide +kernel, rfl, by decide +kernel, by decide +kernel⟩
theorem f_raw_is_cell (hd : Hd fa fn cs K mg) : Fn1 P w K mg base 5 "raw_is_cell" ["many", "thing"] (spD K m_raw_is_cell) :=
  fn1_pure hd 14 14 2 rfl rfl rfl rfl rfl sc_raw_is_cell (fun _ _ _ _ _ _ us hl => match us, hl with | [_, _], _ => rfl) rfl rfl fun f cdv A outer s H E hr B hB =>
    dss_cons (ds_if ((dw_or (dt_not (dt_val (de_isi .tuple hB (by rfl) (hd.free 54 (x := "isinstance")) (by rfl) (hd.free 52 (x := "tuple")) (by rfl) (de_var 1)))) (dw_or (dt_cmp ok_lt hB (de_callB ok_len hB (by rfl) (hd.free 50 (x := "len")) bt_len (da_cons (de_var 1) (da_nil))) (de_int) (nomark _)) (dw_or (dt_not (dt_val (de_isi .str hB (by rfl) (hd.free 54 (x := "isinstance")) (by rfl) (hd.free 58 (x := "str")) (by rfl) (de_ix (ru1 hr) hB (de_var 1) (de_int) (fun _ _ => rfl))))) (dw_or1 (dt_cmp (ok_notIn (ru65 hr)) hB (de_ix (ru1 hr) hB (de_var 1) (de_int) (fun _ _ => rfl)) (de_con (hd.con 12) hB) (by rfl)))))).pt) (dss_one (ds_ret (de_bl))) (dss_nil))
    (dss_cons (ds_if (dt_cmp (ok_eq (ru64 hr)) hB (de_ix (ru1 hr) hB (de_var 1) (de_int) (fun _ _ => rfl)) (de_con (hd.con 10) hB) (nomark _)) (dss_cons (ds_if ((dw_or (dt_cmp (ok_ne (ru64 hr)) hB (de_callB ok_len hB (by rfl) (hd.free 50 (x := "len")) bt_len (da_cons (de_var 1) (da_nil))) (de_int) (nomark _)) (dw_or (dt_not (dt_val (de_isi .tuple hB (by rfl) (hd.free 54 (x := "isinstance")) (by rfl) (hd.free 52 (x := "tuple")) (by rfl) (de_ix (ru1 hr) hB (de_var 1) (de_int) (fun _ _ => rfl))))) (dw_or1 (dt_not (dt_chain ok_le ok_le hB (de_con (hd.con 5) hB) (de_callB ok_len hB (by rfl) (hd.free 50 (x := "len")) bt_len (da_cons (de_ix (ru1 hr) hB (de_var 1) (de_int) (fun _ _ => rfl)) (da_nil))) (de_con (hd.con 6) hB)))))).pt) (dss_one (ds_ret (de_bl))) (dss_nil))
    (dss_one (ds_ret (de_callB (ok_all rfl) hB (by rfl) (hd.free 56 (x := "all")) bt_all (da_cons (de_lc [("one", 3)] (by rfl) sc_raw_is_cell.nd (di_seq hB (de_ix (ru1 hr) hB (de_var 1) (de_int) (fun _ _ => rfl))) (blkOk_by (by rfl)) (by decide) (fun _ _ _ _ _ => dg_name 3 sc_raw_is_cell.nd) (fun _ _ _ _ _ => dts_nil) (fun _ _ _ _ _ => de_fn (f_raw_is_sum hd) (hr.mono (by decide)) hB (da_cons (de_var 0) (da_cons (de_var 3) (da_nil))))) (da_nil)))))) (dss_nil))
    (dss_cons (ds_set 2 sc_raw_is_cell.nd (de_ifExp (dt_cmp (ok_eq (ru64 hr)) hB (de_ix (ru1 hr) hB (de_var 1) (de_int) (fun _ _ => rfl)) (de_con (hd.con 11) hB) (nomark _)) (de_int) (de_int)))
    (dss_one (ds_ret (de_and (de_cmp (ok_eq (ru64 hr)) hB (de_callB ok_len hB (by rfl) (hd.free 50 (x := "len")) bt_len (da_cons (de_var 1) (da_nil))) (de_var 2) (nomark _)) (de_one (de_callB (ok_all rfl) hB (by rfl) (hd.free 56 (x := "all")) bt_all (da_cons (de_lc [("one", 3)] (by rfl) sc_raw_is_cell.nd (di_seq hB (de_slice hB (de_var 1) (do_some (de_int)) (do_none))) (blkOk_by (by rfl)) (by decide) (fun _ _ _ _ _ => dg_name 3 sc_raw_is_cell.nd) (fun _ _ _ _ _ => dts_nil) (fun _ _ _ _ _ => de_fn (f_raw_is_sum hd) (hr.mono (by decide)) hB (da_cons (de_var 0) (da_cons (de_var 3) (da_nil))))) (da_nil)))))))))
def b_is_net : DenS := dThen (dIfS (dOr (dNot (dTest (dCall m_is_tuple_of (dCons (dVar 0) (dCons (dC (.int 3)) (dNil)))))) (dNot (dTest (dCall m_is_within (dCons (dBin oIx (dVar 0) (dC (.int 0))) (dCons (dC (.int 1)) (dCons (dC (.int 4)) (dNil)))))))) (dRet (dC (.bl false))) (dNext))
  (dThen (dAsg (dVar 0) (dgTup 3 (dgCons (dgName 1) (dgCons (dgName 2) (dgCons (dgName 3) (dgNil))))))
  (dThen (dIfS (dOr (dNot (dTest (dIsi .tuple (dVar 2)))) (dTest (dBin oGt (dCB oLen (dCons (dVar 2) (dNil))) (dC (.int 40))))) (dRet (dC (.bl false))) (dNext))
  (dThen (dIfS (dOr (dNot (dTest (dIsi .tuple (dVar 3)))) (dNot (dTest (dChain oLe oLe (dC (.int 1)) (dCB oLen (dCons (dVar 3) (dNil))) (dC (.int 4)))))) (dRet (dC (.bl false))) (dNext))
  (dThen (dIfS (dNot (dTest (dCB oAll (dCons (dLc (dEnum (dCons (dVar 2) (dNil))) (dgTup 2 (dgCons (dgName 5) (dgCons (dgName 6) (dgNil)))) (dYes) (dCall m_raw_is_cell (dCons (dBin oAdd (dVar 1) (dVar 5)) (dCons (dVar 6) (dNil)))) [5, 6]) (dNil))))) (dRet (dC (.bl false))) (dNext))
  (dRet (dCB oAll (dCons (dLc (dSeq (dVar 3)) (dgName 4) (dYes) (dCall m_raw_is_sum (dCons (dBin oAdd (dVar 1) (dCB oLen (dCons (dVar 2) (dNil)))) (dCons (dVar 4) (dNil)))) [4]) (dNil))))))))
def m_is_net : FDen := mkF 1 7 b_is_net
theorem sc_is_net : FnScope ["thing", "m", "cells", "outs", "one", "c", "cell"] ["thing"] (defScope s_is_net) := ⟨rfl, rfl, rfl, by decide +kernel, rfl, by decide +kernel, by decide +kernel⟩
theorem f_is_net (hd : Hd fa fn cs K mg) : Fn1 P w K mg base 6 "is_net" ["thing"] (spD K m_is_net) :=
  fn1_pure hd 15 15 1 rfl rfl rfl rfl rfl sc_is_net (fun _ _ _ _ _ _ us hl => match us, hl with | [_], _ => rfl) rfl rfl fun f cdv A outer s H E hr B hB =>
    dss_cons (ds_if ((dw_or (dt_not (dt_val (de_fn (f_is_tuple_of hd) (hr.mono (by decide)) hB (da_cons (de_var 0) (da_cons (de_int) (da_nil)))))) (dw_or1 (dt_not (dt_val (de_fn (f_is_within hd) (hr.mono (by decide)) hB (da_cons (de_ix (ru1 hr) hB (de_var 0) (de_int) (fun _ _ => rfl)) (da_cons (de_int) (da_cons (de_con (hd.con 2) hB) (da_nil))))))))).pt) (dss_one (ds_ret (de_bl))) (dss_nil))
    (dss_cons (ds_asg (de_var 0) (dg_tup hB (by rfl) (dgs_cons (dg_name 1 sc_is_net.nd) (dgs_cons (dg_name 2 sc_is_net.nd) (dgs_cons (dg_name 3 sc_is_net.nd) (dgs_nil))))))
    (dss_cons (ds_if ((dw_or (dt_not (dt_val (de_isi .tuple hB (by rfl) (hd.free 54 (x := "isinstance")) (by rfl) (hd.free 52 (x := "tuple")) (by rfl) (de_var 2)))) (dw_or1 (dt_cmp ok_gt hB (de_callB ok_len hB (by rfl) (hd.free 50 (x := "len")) bt_len (da_cons (de_var 2) (da_nil))) (de_con (hd.con 3) hB) (nomark _)))).pt) (dss_one (ds_ret (de_bl))) (dss_nil))
    (dss_cons (ds_if ((dw_or (dt_not (dt_val (de_isi .tuple hB (by rfl) (hd.free 54 (x := "isinstance")) (by rfl) (hd.free 52 (x := "tuple")) (by rfl) (de_var 3)))) (dw_or1 (dt_not (dt_chain ok_le ok_le hB (de_int) (de_callB ok_len hB (by rfl) (hd.free 50 (x := "len")) bt_len (da_cons (de_var 3) (da_nil))) (de_con (hd.con 4) hB))))).pt) (dss_one (ds_ret (de_bl))) (dss_nil))
    (dss_cons (ds_if (dt_not (dt_val (de_callB (ok_all rfl) hB (by rfl) (hd.free 56 (x := "all")) bt_all (da_cons (de_lc [("c", 5), ("cell", 6)] (by rfl) sc_is_net.nd (di_enum hB (by rfl) (hd.free 59 (x := "enumerate")) (da_cons (de_var 2) (da_nil))) (blkOk_by (by rfl)) (by decide) (fun _ _ _ _ _ => dg_tup hB (by rfl) (dgs_cons (dg_name 5 sc_is_net.nd) (dgs_cons (dg_name 6 sc_is_net.nd) (dgs_nil)))) (fun _ _ _ _ _ => dts_nil) (fun _ _ _ _ _ => de_fn (f_raw_is_cell hd) (hr.mono (by decide)) hB (da_cons (de_bin ok_add hB (de_var 1) (de_var 5)) (da_cons (de_var 6) (da_nil))))) (da_nil))))) (dss_one (ds_ret (de_bl))) (dss_nil))
    (dss_one (ds_ret (de_callB (ok_all rfl) hB (by rfl) (hd.free 56 (x := "all")) bt_all (da_cons (de_lc [("one", 4)] (by rfl) sc_is_net.nd (di_seq hB (de_var 3)) (blkOk_by (by rfl)) (by decide) (fun _ _ _ _ _ => dg_name 4 sc_is_net.nd) (fun _ _ _ _ _ => dts_nil) (fun _ _ _ _ _ => de_fn (f_raw_is_sum hd) (hr.mono (by decide)) hB (da_cons (de_bin ok_add hB (de_var 1) (de_callB ok_len hB (by rfl) (hd.free 50 (x := "len")) bt_len (da_cons (de_var 2) (da_nil)))) (da_cons (de_var 4) (da_nil))))) (da_nil)))))))))
def b_check_net : DenS := dIfS (dNot (dTest (dCall m_is_net (dCons (dVar 0) (dNil))))) (dNever) (dNext)
def m_check_net : FDen := mkF 1 1 b_check_net
theorem sc_check_net : FnScope ["net"] ["net"] (defScope s_check_net) := ⟨rfl, rfl, rfl, by decide +kernel, rfl, by decide +kernel, by decide +kernel⟩
theorem f_check_net (hd : Hd fa fn cs K mg) : Fn1 P w K mg base 7 "check_net" ["net"] (spD K m_check_net) :=
  fn1_pure hd 16 16 1 rfl rfl rfl rfl rfl sc_check_net (fun _ _ _ _ _ _ us hl => match us, hl with | [_], _ => rfl) rfl rfl fun f cdv A outer s H E hr B hB =>
    dss_one (ds_if (dt_not (dt_val (de_fn (f_is_net hd) (hr.mono (by decide)) hB (da_cons (de_var 0) (da_nil))))) (dss_one (ds_never)) (dss_nil))
def rb_check_net : DenR := rIf (dNot (dTest (dCall m_is_net (dCons (dVar 0) (dNil))))) (rRaise "NoNet") (rNo)
def r_check_net : FDenR := mkR 1 1 rb_check_net
theorem g_check_net (hd : Hd fa fn cs K mg) : FnR P w K mg base 7 "check_net" ["net"] (spR K (cvK K) r_check_net) :=
  fn1_R hd 16 16 1 rfl rfl rfl rfl rfl sc_check_net (fun _ _ _ _ _ _ us hl => match us, hl with | [_], _ => rfl) rfl rfl fun f cdv A outer s H E hr B hB =>
    rss_here (rs_if (dt_not (dt_val (de_fn (f_is_net hd) (hr.mono (by decide)) hB (da_cons (de_var 0) (da_nil))))) (rss_here (rs_raiseH hd 15 rfl takes_def)) (rss_no))
def b_are_values : DenS := dRet (dAndV (dIsi .tuple (dVar 0)) (dCB oAll (dCons (dLc (dSeq (dVar 0)) (dgName 1) (dYes) (dCall m_is_fraction (dCons (dVar 1) (dNil))) [1]) (dNil))))
def m_are_values : FDen := mkF 1 2 b_are_values
theorem sc_are_values : FnScope ["thing", "one"] ["thing"] (defScope s_are_values) := ⟨rfl, rfl, rfl, by decide +kernel, rfl, by decide +kernel, by decide +kernel⟩
theorem f_are_values (hd : Hd fa fn cs K mg) : Fn1 P w K mg base 3 "are_values" ["thing"] (spD K m_are_values) :=
  fn1_pure hd 17 17 1 rfl rfl rfl rfl rfl sc_are_values (fun _ _ _ _ _ _ us hl => match us, hl with | [_], _ => rfl) rfl rfl fun f cdv A outer s H E hr B hB =>
    dss_one (ds_ret (de_and (de_isi .tuple hB (by rfl) (hd.free 54 (x := "isinstance")) (by rfl) (hd.free 52 (x := "tuple")) (by rfl) (de_var 0)) (de_one (de_callB (ok_all rfl) hB (by rfl) (hd.free 56 (x := "all")) bt_all (da_cons (de_lc [("one", 1)] (by rfl) sc_are_values.nd (di_seq hB (de_var 0)) (blkOk_by (by rfl)) (by decide) (fun _ _ _ _ _ => dg_name 1 sc_are_values.nd) (fun _ _ _ _ _ => dts_nil) (fun _ _ _ _ _ => de_fn (f_is_fraction hd) (hr.mono (by decide)) hB (da_cons (de_var 1) (da_nil)))) (da_nil))))))
def b_raw_is_point : DenS := dRet (dAndV (dCall m_are_values (dCons (dVar 1) (dNil))) (dBin oEq (dCB oLen (dCons (dVar 1) (dNil))) (dVar 0)))
def m_raw_is_point : FDen := mkF 2 2 b_raw_is_point
theorem sc_raw_is_point : FnScope ["m", "thing"] ["m", "thing"] (defScope s_raw_is_point) := ⟨rfl, rfl, rfl, by decide +kernel, rfl, by decide +kernel, by decide +kernel⟩
theorem f_raw_is_point (hd : Hd fa fn cs K mg) : Fn1 P w K mg base 4 "raw_is_point" ["m", "thing"] (spD K m_raw_is_point) :=
  fn1_pure hd 18 18 2 rfl rfl rfl rfl rfl sc_raw_is_point (fun _ _ _ _ _ _ us hl => match us, hl with | [_, _], _ => rfl) rfl rfl fun f cdv A outer s H E hr B hB =>
    dss_one (ds_ret (de_and (de_fn (f_are_values hd) (hr.mono (by decide)) hB (da_cons (de_var 1) (da_nil))) (de_one (de_cmp (ok_eq (ru64 hr)) hB (de_callB ok_len hB (by rfl) (hd.free 50 (x := "len")) bt_len (da_cons (de_var 1) (da_nil))) (de_var 0) (nomark _)))))
def b_is_point : DenS := dThen (dDrop (dCall m_check_net (dCons (dVar 0) (dNil))))
  (dRet (dCall m_raw_is_point (dCons (dBin oIx (dVar 0) (dC (.int 0))) (dCons (dVar 1) (dNil)))))
def m_is_point : FDen := mkF 2 2 b_is_point
theorem sc_is_point : FnScope ["net", "thing"] ["net", "thing"] (defScope s_is_point) := ⟨rfl, rfl, rfl, by decide +kernel, rfl, by decide +kernel, by decide +kernel⟩
theorem f_is_point (hd : Hd fa fn cs K mg) : Fn1 P w K mg base 8 "is_point" ["net", "thing"] (spD K m_is_point) :=
  fn1_pure hd 19 19 2 rfl rfl rfl rfl rfl sc_is_point (fun _ _ _ _ _ _ us hl => match us, hl with | [_, _], _ => rfl) rfl rfl fun f cdv A outer s H E hr B hB =>
    dss_cons (ds_expr (de_fn (f_check_net hd) (hr.mono (by decide)) hB (da_cons (de_var 0) (da_nil))))
    (dss_one (ds_ret (de_fn (f_raw_is_point hd) (hr.mono (by decide)) hB (da_cons (de_ix (ru1 hr) hB (de_var 0) (de_int) (fun _ _ => rfl)) (da_cons (de_var 1) (da_nil))))))
def b__law_low : DenS := dThen (dParN [2, 3] (dConsO (dCB oAbs (dCons (dVar 0) (dNil))) (dConsO (dCB oAbs (dCons (dVar 1) (dNil))) (dNil))))
  (dThen (dWhile (dTest (dBin oGt (dVar 3) (dC (.int 0)))) (dPar 2 3 (dCons (dVar 3) (dCons (dBin oMod (dCB oInt (dCons (dVar 2) (dNil))) (dVar 3)) (dNil)))))
  (dThen (dAsg (dIf (dTest (dBin oGt (dVar 1) (dC (.int 0)))) (dVar 2) (dBin oSub (dC (.int 0)) (dVar 2))) (dgName 2))
  (dRet (dTup (dCons (dBin oDiv (dVar 0) (dVar 2)) (dCons (dBin oDiv (dVar 1) (dVar 2)) (dNil)))))))
def m__law_low : FDen := mkF 2 4 b__law_low
theorem sc__law_low : FnScope ["top", "bottom", "one", "other"] ["top", "bottom"] (defScope s__law_low) := ⟨rfl, rfl, rfl, by decide +kernel, rfl, by decide +kernel, by decide +kernel⟩
theorem f__law_low (hd : Hd fa fn cs K mg) : Fn1 P w K mg base 1 "_law_low" ["top", "bottom"] (spD K m__law_low) :=
  fn1_pure hd 20 20 2 rfl rfl rfl rfl rfl sc__law_low (fun _ _ _ _ _ _ us hl => match us, hl with | [_, _], _ => rfl) rfl rfl fun f cdv A outer s H E hr B hB =>
    dss_cons (ds_parN2 2 3 sc__law_low.nd (da_consO (de_callB ok_abs hB (by rfl) (hd.free 48 (x := "abs")) bt_abs (da_cons (de_var 0) (da_nil))) (da_consO (de_callB ok_abs hB (by rfl) (hd.free 48 (x := "abs")) bt_abs (da_cons (de_var 1) (da_nil))) (da_nilO))))
    (dss_cons (ds_while PassesOwn.never (dt_cmp ok_gt hB (de_var 3) (de_int) (nomark _)) (dss_one (ds_par 2 3 sc__law_low.nd (da_cons (de_var 3) (da_cons (de_bin ok_mod hB (de_callTy ok_int hB (by rfl) (hd.free 49 (x := "int")) bt_int (da_cons (de_var 2) (da_nil))) (de_var 3)) (da_nil))))))
    (dss_cons (ds_set 2 sc__law_low.nd (de_ifExp (dt_cmp ok_gt hB (de_var 1) (de_int) (nomark _)) (de_var 2) (de_bin ok_sub hB (de_int) (de_var 2))))
    (dss_one (ds_ret (de_tup (da_cons (de_bin ok_div hB (de_var 0) (de_var 2)) (da_cons (de_bin ok_div hB (de_var 1) (de_var 2)) (da_nil))))))))
def b__law_plus : DenS := dRet (dCall m__law_low (dCons (dBin oAdd (dBin oMulT (dBin oIx (dVar 0) (dC (.int 0))) (dBin oIx (dVar 1) (dC (.int 1)))) (dBin oMulT (dBin oIx (dVar 1) (dC (.int 0))) (dBin oIx (dVar 0) (dC (.int 1))))) (dCons (dBin oMulT (dBin oIx (dVar 0) (dC (.int 1))) (dBin oIx (dVar 1) (dC (.int 1)))) (dNil))))
def m__law_plus : FDen := mkF 2 2 b__law_plus
theorem sc__law_plus : FnScope ["x", "y"] ["x", "y"] (defScope s__law_plus) := ⟨rfl, rfl, rfl, by decide +kernel, rfl, by decide +kernel, by decide +kernel⟩
theorem f__law_plus (hd : Hd fa fn cs K mg) : Fn1 P w K mg base 2 "_law_plus" ["x", "y"] (spD K m__law_plus) :=
  fn1_pure hd 21 21 2 rfl rfl rfl rfl rfl sc__law_plus (fun _ _ _ _ _ _ us hl => match us, hl with | [_, _], _ => rfl) rfl rfl fun f cdv A outer s H E hr B hB =>
    dss_one (ds_ret (de_fn (f__law_low hd) (hr.mono (by decide)) hB (da_cons (de_bin ok_add hB (de_bin ok_mulT hB (de_ix (ru1 hr) hB (de_var 0) (de_int) (fun _ _ => rfl)) (de_ix (ru1 hr) hB (de_var 1) (de_int) (fun _ _ => rfl))) (de_bin ok_mulT hB (de_ix (ru1 hr) hB (de_var 1) (de_int) (fun _ _ => rfl)) (de_ix (ru1 hr) hB (de_var 0) (de_int) (fun _ _ => rfl)))) (da_cons (de_bin ok_mulT hB (de_ix (ru1 hr) hB (de_var 0) (de_int) (fun _ _ => rfl)) (de_ix (ru1 hr) hB (de_var 1) (de_int) (fun _ _ => rfl))) (da_nil)))))
def b__law_times : DenS := dRet (dCall m__law_low (dCons (dBin oMulT (dBin oIx (dVar 0) (dC (.int 0))) (dBin oIx (dVar 1) (dC (.int 0)))) (dCons (dBin oMulT (dBin oIx (dVar 0) (dC (.int 1))) (dBin oIx (dVar 1) (dC (.int 1)))) (dNil))))
def m__law_times : FDen := mkF 2 2 b__law_times
theorem sc__law_times : FnScope ["x", "y"] ["x", "y"] (defScope s__law_times) := ⟨rfl, rfl, rfl, by decide +kernel, rfl, by decide +kernel, by decide +kernel⟩
theorem f__law_times (hd : Hd fa fn cs K mg) : Fn1 P w K mg base 2 "_law_times" ["x", "y"] (spD K m__law_times) :=
  fn1_pure hd 22 22 2 rfl rfl rfl rfl rfl sc__law_times (fun _ _ _ _ _ _ us hl => match us, hl with | [_, _], _ => rfl) rfl rfl fun f cdv A outer s H E hr B hB =>
    dss_one (ds_ret (de_fn (f__law_low hd) (hr.mono (by decide)) hB (da_cons (de_bin ok_mulT hB (de_ix (ru1 hr) hB (de_var 0) (de_int) (fun _ _ => rfl)) (de_ix (ru1 hr) hB (de_var 1) (de_int) (fun _ _ => rfl))) (da_cons (de_bin ok_mulT hB (de_ix (ru1 hr) hB (de_var 0) (de_int) (fun _ _ => rfl)) (de_ix (ru1 hr) hB (de_var 1) (de_int) (fun _ _ => rfl))) (da_nil)))))
def b__law_worth : DenS := dThen (dAsg (dBin oIx (dVar 1) (dC (.int 1))) (dgName 2))
  (dThen (dFor (dSeq (dBin oIx (dVar 1) (dC (.int 0)))) (dgTup 2 (dgCons (dgName 3) (dgCons (dgName 4) (dgNil)))) (dAsg (dCall m__law_plus (dCons (dVar 2) (dCons (dCall m__law_times (dCons (dVar 4) (dCons (dBin oIx (dVar 0) (dVar 3)) (dNil)))) (dNil)))) (dgName 2)))
  (dRet (dVar 2)))
def m__law_worth : FDen := mkF 2 5 b__law_worth
theorem sc__law_worth : FnScope ["held", "one", "found", "source", "factor"] ["held", "one"] (defScope s__law_worth) := ⟨rfl, rfl, rfl, by decide +kernel, rfl, by decide +kernel, by decide +kernel⟩
theorem f__law_worth (hd : Hd fa fn cs K mg) : Fn1 P w K mg base 3 "_law_worth" ["held", "one"] (spD K m__law_worth) :=
  fn1_pure hd 23 23 2 rfl rfl rfl rfl rfl sc__law_worth (fun _ _ _ _ _ _ us hl => match us, hl with | [_, _], _ => rfl) rfl rfl fun f cdv A outer s H E hr B hB =>
    dss_cons (ds_set 2 sc__law_worth.nd (de_ix (ru1 hr) hB (de_var 1) (de_int) (fun _ _ => rfl)))
    (dss_cons (ds_for PassesOwn.never (by rfl) (di_seq hB (de_ix (ru1 hr) hB (de_var 1) (de_int) (fun _ _ => rfl))) (dg_tup hB (by rfl) (dgs_cons (dg_name 3 sc__law_worth.nd) (dgs_cons (dg_name 4 sc__law_worth.nd) (dgs_nil)))) (dss_one (ds_set 2 sc__law_worth.nd (de_fn (f__law_plus hd) (hr.mono (by decide)) hB (da_cons (de_var 2) (da_cons (de_fn (f__law_times hd) (hr.mono (by decide)) hB (da_cons (de_var 4) (da_cons (de_ix (ru1 hr) hB (de_var 0) (de_var 3) (fun _ _ => rfl)) (da_nil)))) (da_nil)))))))
    (dss_one (ds_ret (de_var 2))))
def b__law_is_less : DenS := dRet (dBin oLt (dBin oMulT (dBin oIx (dVar 0) (dC (.int 0))) (dBin oIx (dVar 1) (dC (.int 1)))) (dBin oMulT (dBin oIx (dVar 1) (dC (.int 0))) (dBin oIx (dVar 0) (dC (.int 1)))))
def m__law_is_less : FDen := mkF 2 2 b__law_is_less
theorem sc__law_is_less : FnScope ["x", "y"] ["x", "y"] (defScope s__law_is_less) := ⟨rfl, rfl, rfl, by decide +kernel, rfl, by decide +kernel, by decide +kernel⟩
theorem f__law_is_less (hd : Hd fa fn cs K mg) : Fn1 P w K mg base 1 "_law_is_less" ["x", "y"] (spD K m__law_is_less) :=
  fn1_pure hd 24 24 2 rfl rfl rfl rfl rfl sc__law_is_less (fun _ _ _ _ _ _ us hl => match us, hl with | [_, _], _ => rfl) rfl rfl fun f cdv A outer s H E hr B hB =>
    dss_one (ds_ret (de_cmp ok_lt hB (de_bin ok_mulT hB (de_ix (ru1 hr) hB (de_var 0) (de_int) (fun _ _ => rfl)) (de_ix (ru1 hr) hB (de_var 1) (de_int) (fun _ _ => rfl))) (de_bin ok_mulT hB (de_ix (ru1 hr) hB (de_var 1) (de_int) (fun _ _ => rfl)) (de_ix (ru1 hr) hB (de_var 0) (de_int) (fun _ _ => rfl))) (nomark _)))
def b__law_values_L1_4 : DenS := dDrop (dAppend (dVar 2) (dIf (dAnd (dTest (dBin oEq (dBin oIx (dVar 3) (dC (.int 0))) (dC (.str "cut")))) (dTest (dBin oLt (dBin oIx (dBin oIx (dVar 4) (dC (.int 0))) (dC (.int 0))) (dC (.int 0))))) (dC (.tup [(.int 0), (.int 1)])) (dBin oIx (dVar 4) (dC (.int 0)))))
def b__law_values_L1_3 : DenS := dThen (dIfS (dTest (dBin oEq (dBin oIx (dVar 3) (dC (.int 0))) (dC (.str "step")))) (dAsg (dLst (dCons (dTup (dCons (dCB oInt (dCons (dBin oGt (dBin oIx (dBin oIx (dVar 4) (dC (.int 0))) (dC (.int 0))) (dC (.int 0))) (dNil))) (dCons (dC (.int 1)) (dNil)))) (dNil))) (dgName 4)) (dNext))
  (b__law_values_L1_4)
def b__law_values_L1_2 : DenS := dThen (dIfS (dTest (dBin oEq (dBin oIx (dVar 3) (dC (.int 0))) (dC (.str "switch")))) (dAsg (dIf (dTest (dBin oGt (dBin oIx (dBin oIx (dVar 4) (dC (.int 0))) (dC (.int 0))) (dC (.int 0)))) (dSl (dVar 4) (dPart (dC (.int 1))) (dNoP)) (dSl (dVar 4) (dPart (dC (.int 2))) (dNoP))) (dgName 4)) (dNext))
  (b__law_values_L1_3)
def b__law_values_L1_1 : DenS := dThen (dIfS (dTest (dBin oEq (dBin oIx (dVar 3) (dC (.int 0))) (dC (.str "most")))) (dFor (dSeq (dSl (dVar 4) (dPart (dC (.int 1))) (dNoP))) (dgName 5) (dAsg (dIf (dTest (dCall m__law_is_less (dCons (dBin oIx (dVar 4) (dC (.int 0))) (dCons (dVar 5) (dNil))))) (dVar 5) (dBin oIx (dVar 4) (dC (.int 0)))) (dgSub (dVar 4) (dC (.int 0))))) (dNext))
  (b__law_values_L1_2)
def b__law_values_L1 : DenS := dThen (dAsg (dLc (dSeq (dIf (dTest (dBin oEq (dBin oIx (dVar 3) (dC (.int 0))) (dC (.str "most")))) (dBin oIx (dVar 3) (dC (.int 1))) (dSl (dVar 3) (dPart (dC (.int 1))) (dNoP)))) (dgName 5) (dYes) (dCallB m__law_worth (dCons (dVar 2) (dCons (dVar 5) (dNil)))) [5]) (dgName 4))
  (b__law_values_L1_1)
def b__law_values : DenS := dThen (dAsg (dCB oList (dCons (dVar 1) (dNil))) (dgName 2))
  (dThen (dFor (dSeq (dBin oIx (dVar 0) (dC (.int 1)))) (dgName 3) (b__law_values_L1))
  (dRet (dVar 2)))
def m__law_values : FDen := mkF 2 6 b__law_values
theorem sc__law_values : FnScope ["net", "point", "held", "cell", "told", "one"] ["net", "point"] (defScope s__law_values) := ⟨rfl, rfl, rfl, by decide +kernel, rfl, by decide +kernel, by decide +kernel⟩
theorem f__law_values (hd : Hd fa fn cs K mg) : Fn1 P w K mg base 4 "_law_values" ["net", "point"] (spD K m__law_values) :=
  fn1_pure hd 25 25 2 rfl rfl rfl rfl rfl sc__law_values (fun _ _ _ _ _ _ us hl => match us, hl with | [_, _], _ => rfl) rfl rfl fun f cdv A outer s H E hr B hB =>
    dss_cons (ds_set 2 sc__law_values.nd (de_callTy ok_list hB (by rfl) (hd.free 60 (x := "list")) bt_list (da_cons (de_var 1) (da_nil))))
    (dss_cons (ds_for PassesOwn.never (by rfl) (di_seq hB (de_ix (ru1 hr) hB (de_var 0) (de_int) (fun _ _ => rfl))) (dg_name 3 sc__law_values.nd) (dss_cons (by first | exact ds_set 4 sc__law_values.nd (de_lc [("one", 5)] (by rfl) sc__law_values.nd (di_seq hB (de_ifExp (dt_cmp (ok_eq (ru64 hr)) hB (de_ix (ru1 hr) hB (de_var 3) (de_int) (fun _ _ => rfl)) (de_str) (nomark _)) (de_ix (ru1 hr) hB (de_var 3) (de_int) (fun _ _ => rfl)) (de_slice hB (de_var 3) (do_some (de_int)) (do_none)))) (blkOk_by (by rfl)) (by decide) (fun _ _ _ _ _ => dg_name 5 sc__law_values.nd) (fun _ _ _ _ _ => dts_nil) (fun _ _ _ _ _ => de_fnB (f__law_worth hd) (hr.mono (by decide)) hB (da_cons (de_var 2) (da_cons (de_var 5) (da_nil))))) | exact ds_setLc 4 [("one", 5)] (by rfl) sc__law_values.nd (by rfl) (by rfl) (by rfl) (di_seq hB (de_ifExp (dt_cmp (ok_eq (ru64 hr)) hB (de_ix (ru1 hr) hB (de_var 3) (de_int) (fun _ _ => rfl)) (de_str) (nomark _)) (de_ix (ru1 hr) hB (de_var 3) (de_int) (fun _ _ => rfl)) (de_slice hB (de_var 3) (do_some (de_int)) (do_none)))) (blkOk_by (by rfl)) (by decide) (fun _ _ _ _ _ => dg_name 5 sc__law_values.nd) (fun _ _ _ _ _ => dts_nil) (fun _ _ _ _ _ => de_fnB (f__law_worth hd) (hr.mono (by decide)) hB (da_cons (de_var 2) (da_cons (de_var 5) (da_nil)))))
    (dss_cons (ds_if (dt_cmp (ok_eq (ru64 hr)) hB (de_ix (ru1 hr) hB (de_var 3) (de_int) (fun _ _ => rfl)) (de_str) (nomark _)) (dss_one (ds_for PassesOwn.never (by rfl) (di_seq hB (de_slice hB (de_var 4) (do_some (de_int)) (do_none))) (dg_name 5 sc__law_values.nd) (dss_one (ds_asg (de_ifExp (dt_val (de_fn (f__law_is_less hd) (hr.mono (by decide)) hB (da_cons (de_ix (ru1 hr) hB (de_var 4) (de_int) (fun _ _ => rfl)) (da_cons (de_var 5) (da_nil))))) (de_var 5) (de_ix (ru1 hr) hB (de_var 4) (de_int) (fun _ _ => rfl))) (dg_sub (ru1 hr) (de_var 4) (de_int)))))) (dss_nil))
    (dss_cons (ds_if (dt_cmp (ok_eq (ru64 hr)) hB (de_ix (ru1 hr) hB (de_var 3) (de_int) (fun _ _ => rfl)) (de_str) (nomark _)) (dss_one (ds_set 4 sc__law_values.nd (de_ifExp (dt_cmp ok_gt hB (de_ix (ru1 hr) hB (de_ix (ru1 hr) hB (de_var 4) (de_int) (fun _ _ => rfl)) (de_int) (fun _ _ => rfl)) (de_int) (nomark _)) (de_slice hB (de_var 4) (do_some (de_int)) (do_none)) (de_slice hB (de_var 4) (do_some (de_int)) (do_none))))) (dss_nil))
    (dss_cons (ds_if (dt_cmp (ok_eq (ru64 hr)) hB (de_ix (ru1 hr) hB (de_var 3) (de_int) (fun _ _ => rfl)) (de_str) (nomark _)) (dss_one (ds_set 4 sc__law_values.nd (de_lst (da_cons (de_tup (da_cons (de_callTy ok_int hB (by rfl) (hd.free 49 (x := "int")) bt_int (da_cons (de_cmp ok_gt hB (de_ix (ru1 hr) hB (de_ix (ru1 hr) hB (de_var 4) (de_int) (fun _ _ => rfl)) (de_int) (fun _ _ => rfl)) (de_int) (nomark _)) (da_nil))) (da_cons (de_int) (da_nil)))) (da_nil))))) (dss_nil))
    (dss_one (ds_expr (de_append hB (de_var 2) (de_ifExp ((dw_and (dt_cmp (ok_eq (ru64 hr)) hB (de_ix (ru1 hr) hB (de_var 3) (de_int) (fun _ _ => rfl)) (de_str) (nomark _)) (dw_and1 (dt_cmp ok_lt hB (de_ix (ru1 hr) hB (de_ix (ru1 hr) hB (de_var 4) (de_int) (fun _ _ => rfl)) (de_int) (fun _ _ => rfl)) (de_int) (nomark _)))).pt) (de_cst (isC_tup (isA_cons isC_c (isA_cons isC_c isA_nil)) (by decide)) (de_tup (da_cons (de_int) (da_cons (de_int) (da_nil))))) (de_ix (ru1 hr) hB (de_var 4) (de_int) (fun _ _ => rfl)))))))))))
    (dss_one (ds_ret (de_var 2))))
def b_check_point : DenS := dThen (dDrop (dCall m_check_net (dCons (dVar 0) (dNil))))
  (dIfS (dNot (dTest (dCall m_raw_is_point (dCons (dBin oIx (dVar 0) (dC (.int 0))) (dCons (dVar 1) (dNil)))))) (dNever) (dNext))
def m_check_point : FDen := mkF 2 2 b_check_point
theorem sc_check_point : FnScope ["net", "point"] ["net", "point"] (defScope s_check_point) := ⟨rfl, rfl, rfl, by decide +kernel, rfl, by decide +kernel, by decide +kernel⟩
theorem f_check_point (hd : Hd fa fn cs K mg) : Fn1 P w K mg base 8 "check_point" ["net", "point"] (spD K m_check_point) :=
  fn1_pure hd 26 26 2 rfl rfl rfl rfl rfl sc_check_point (fun _ _ _ _ _ _ us hl => match us, hl with | [_, _], _ => rfl) rfl rfl fun f cdv A outer s H E hr B hB =>
    dss_cons (ds_expr (de_fn (f_check_net hd) (hr.mono (by decide)) hB (da_cons (de_var 0) (da_nil))))
    (dss_one (ds_if (dt_not (dt_val (de_fn (f_raw_is_point hd) (hr.mono (by decide)) hB (da_cons (de_ix (ru1 hr) hB (de_var 0) (de_int) (fun _ _ => rfl)) (da_cons (de_var 1) (da_nil)))))) (dss_one (ds_never)) (dss_nil)))
def rb_check_point : DenR := rSeq (rCall r_check_net (dCons (dVar 0) (dNil))) (dDrop (dCall m_check_net (dCons (dVar 0) (dNil))))
  (rIf (dNot (dTest (dCall m_raw_is_point (dCons (dBin oIx (dVar 0) (dC (.int 0))) (dCons (dVar 1) (dNil)))))) (rRaise "NoPoint") (rNo))
def r_check_point : FDenR := mkR 2 2 rb_check_point
theorem g_check_point (hd : Hd fa fn cs K mg) : FnR P w K mg base 8 "check_point" ["net", "point"] (spR K (cvK K) r_check_point) :=
  fn1_R hd 26 26 2 rfl rfl rfl rfl rfl sc_check_point (fun _ _ _ _ _ _ us hl => match us, hl with | [_, _], _ => rfl) rfl rfl fun f cdv A outer s H E hr B hB =>
    rss_seq (rs_expr (re_fn (g_check_net hd) (hr.mono (by decide)) hB takes_def (da_cons (de_var 0) (da_nil)))) (ds_expr (de_fn (f_check_net hd) (hr.mono (by decide)) hB (da_cons (de_var 0) (da_nil))))
    (rss_here (rs_if (dt_not (dt_val (de_fn (f_raw_is_point hd) (hr.mono (by decide)) hB (da_cons (de_ix (ru1 hr) hB (de_var 0) (de_int) (fun _ _ => rfl)) (da_cons (de_var 1) (da_nil)))))) (rss_here (rs_raiseH hd 17 rfl takes_def)) (rss_no)))
def b_raw_cut : DenS := dRet (dIf (dTest (dBin oGt (dBin oIx (dVar 0) (dC (.int 0))) (dC (.int 0)))) (dVar 0) (dC (.tup [(.int 0), (.int 1)])))
def m_raw_cut : FDen := mkF 1 1 b_raw_cut
theorem sc_raw_cut : FnScope ["x"] ["x"] (defScope s_raw_cut) := ⟨rfl, rfl, rfl, by decide +kernel, rfl, by decide +kernel, by decide +kernel⟩
theorem f_raw_cut (hd : Hd fa fn cs K mg) : Fn1 P w K mg base 1 "raw_cut" ["x"] (spD K m_raw_cut) :=
  fn1_pure hd 27 27 1 rfl rfl rfl rfl rfl sc_raw_cut (fun _ _ _ _ _ _ us hl => match us, hl with | [_], _ => rfl) rfl rfl fun f cdv A outer s H E hr B hB =>
    dss_one (ds_ret (de_ifExp (dt_cmp ok_gt hB (de_ix (ru1 hr) hB (de_var 0) (de_int) (fun _ _ => rfl)) (de_int) (nomark _)) (de_var 0) (de_con (hd.con 0) hB)))
def b_raw_at_most : DenS := dRet (dBin oLe (dBin oMulT (dBin oIx (dVar 0) (dC (.int 0))) (dBin oIx (dVar 1) (dC (.int 1)))) (dBin oMulT (dBin oIx (dVar 1) (dC (.int 0))) (dBin oIx (dVar 0) (dC (.int 1)))))
def m_raw_at_most : FDen := mkF 2 2 b_raw_at_most
theorem sc_raw_at_most : FnScope ["x", "y"] ["x", "y"] (defScope s_raw_at_most) := ⟨rfl, rfl, rfl, by decide +kernel, rfl, by decide +kernel, by decide +kernel⟩
theorem f_raw_at_most (hd : Hd fa fn cs K mg) : Fn1 P w K mg base 1 "raw_at_most" ["x", "y"] (spD K m_raw_at_most) :=
  fn1_pure hd 28 28 2 rfl rfl rfl rfl rfl sc_raw_at_most (fun _ _ _ _ _ _ us hl => match us, hl with | [_, _], _ => rfl) rfl rfl fun f cdv A outer s H E hr B hB =>
    dss_one (ds_ret (de_cmp ok_le hB (de_bin ok_mulT hB (de_ix (ru1 hr) hB (de_var 0) (de_int) (fun _ _ => rfl)) (de_ix (ru1 hr) hB (de_var 1) (de_int) (fun _ _ => rfl))) (de_bin ok_mulT hB (de_ix (ru1 hr) hB (de_var 1) (de_int) (fun _ _ => rfl)) (de_ix (ru1 hr) hB (de_var 0) (de_int) (fun _ _ => rfl))) (nomark _)))
def b_raw_greater : DenS := dRet (dIf (dTest (dCall m_raw_at_most (dCons (dVar 0) (dCons (dVar 1) (dNil))))) (dVar 1) (dVar 0))
def m_raw_greater : FDen := mkF 2 2 b_raw_greater
theorem sc_raw_greater : FnScope ["x", "y"] ["x", "y"] (defScope s_raw_greater) := ⟨rfl, rfl, rfl, by decide +kernel, rfl, by decide +kernel, by decide +kernel⟩
theorem f_raw_greater (hd : Hd fa fn cs K mg) : Fn1 P w K mg base 2 "raw_greater" ["x", "y"] (spD K m_raw_greater) :=
  fn1_pure hd 29 29 2 rfl rfl rfl rfl rfl sc_raw_greater (fun _ _ _ _ _ _ us hl => match us, hl with | [_, _], _ => rfl) rfl rfl fun f cdv A outer s H E hr B hB =>
    dss_one (ds_ret (de_ifExp (dt_val (de_fn (f_raw_at_most hd) (hr.mono (by decide)) hB (da_cons (de_var 0) (da_cons (de_var 1) (da_nil))))) (de_var 1) (de_var 0)))
def b_value_by : DenS := dThen (dIfS (dTest (dBin oEq (dVar 0) (dC (.str "plain")))) (dRet (dBin oIx (dVar 1) (dC (.int 0)))) (dNext))
  (dThen (dIfS (dTest (dBin oEq (dVar 0) (dC (.str "cut")))) (dRet (dCall m_raw_cut (dCons (dBin oIx (dVar 1) (dC (.int 0))) (dNil)))) (dNext))
  (dThen (dIfS (dTest (dBin oEq (dVar 0) (dC (.str "step")))) (dRet (dIf (dTest (dBin oGt (dBin oIx (dBin oIx (dVar 1) (dC (.int 0))) (dC (.int 0))) (dC (.int 0)))) (dC (.tup [(.int 1), (.int 1)])) (dC (.tup [(.int 0), (.int 1)])))) (dNext))
  (dThen (dIfS (dTest (dBin oEq (dVar 0) (dC (.str "switch")))) (dRet (dIf (dTest (dBin oGt (dBin oIx (dBin oIx (dVar 1) (dC (.int 0))) (dC (.int 0))) (dC (.int 0)))) (dBin oIx (dVar 1) (dC (.int 1))) (dBin oIx (dVar 1) (dC (.int 2))))) (dNext))
  (dThen (dAsg (dBin oIx (dVar 1) (dC (.int 0))) (dgName 2))
  (dThen (dFor (dSeq (dSl (dVar 1) (dPart (dC (.int 1))) (dNoP))) (dgName 3) (dAsg (dCall m_raw_greater (dCons (dVar 2) (dCons (dVar 3) (dNil)))) (dgName 2)))
  (dRet (dVar 2)))))))
def m_value_by : FDen := mkF 2 4 b_value_by
theorem sc_value_by : FnScope ["word", "parts", "found", "one"] ["word", "parts"] (defScope s_value_by) := ⟨rfl, rfl, rfl, by decide +kernel, rfl, by decide +kernel, by decide +kernel⟩
theorem f_value_by (hd : Hd fa fn cs K mg) : Fn1 P w K mg base 3 "value_by" ["word", "parts"] (spD K m_value_by) :=
  fn1_pure hd 30 30 2 rfl rfl rfl rfl rfl sc_value_by (fun _ _ _ _ _ _ us hl => match us, hl with | [_, _], _ => rfl) rfl rfl fun f cdv A outer s H E hr B hB =>
    dss_cons (ds_if (dt_cmp (ok_eq (ru64 hr)) hB (de_var 0) (de_con (hd.con 7) hB) (nomark _)) (dss_one (ds_ret (de_ix (ru1 hr) hB (de_var 1) (de_int) (fun _ _ => rfl)))) (dss_nil))
    (dss_cons (ds_if (dt_cmp (ok_eq (ru64 hr)) hB (de_var 0) (de_con (hd.con 8) hB) (nomark _)) (dss_one (ds_ret (de_fn (f_raw_cut hd) (hr.mono (by decide)) hB (da_cons (de_ix (ru1 hr) hB (de_var 1) (de_int) (fun _ _ => rfl)) (da_nil))))) (dss_nil))
    (dss_cons (ds_if (dt_cmp (ok_eq (ru64 hr)) hB (de_var 0) (de_con (hd.con 9) hB) (nomark _)) (dss_one (ds_ret (de_ifExp (dt_cmp ok_gt hB (de_ix (ru1 hr) hB (de_ix (ru1 hr) hB (de_var 1) (de_int) (fun _ _ => rfl)) (de_int) (fun _ _ => rfl)) (de_int) (nomark _)) (de_con (hd.con 1) hB) (de_con (hd.con 0) hB)))) (dss_nil))
    (dss_cons (ds_if (dt_cmp (ok_eq (ru64 hr)) hB (de_var 0) (de_con (hd.con 11) hB) (nomark _)) (dss_one (ds_ret (de_ifExp (dt_cmp ok_gt hB (de_ix (ru1 hr) hB (de_ix (ru1 hr) hB (de_var 1) (de_int) (fun _ _ => rfl)) (de_int) (fun _ _ => rfl)) (de_int) (nomark _)) (de_ix (ru1 hr) hB (de_var 1) (de_int) (fun _ _ => rfl)) (de_ix (ru1 hr) hB (de_var 1) (de_int) (fun _ _ => rfl))))) (dss_nil))
    (dss_cons (ds_set 2 sc_value_by.nd (de_ix (ru1 hr) hB (de_var 1) (de_int) (fun _ _ => rfl)))
    (dss_cons (ds_for PassesOwn.never (by rfl) (di_seq hB (de_slice hB (de_var 1) (do_some (de_int)) (do_none))) (dg_name 3 sc_value_by.nd) (dss_one (ds_set 2 sc_value_by.nd (de_fn (f_raw_greater hd) (hr.mono (by decide)) hB (da_cons (de_var 2) (da_cons (de_var 3) (da_nil)))))))
    (dss_one (ds_ret (de_var 2))))))))
def b_made : DenS := dThen (dAsg (dCall m_common (dCons (dCB oAbs (dCons (dVar 0) (dNil))) (dCons (dCB oAbs (dCons (dVar 1) (dNil))) (dNil)))) (dgName 2))
  (dThen (dAsg (dIf (dTest (dBin oGt (dVar 1) (dC (.int 0)))) (dVar 2) (dBin oSub (dC (.int 0)) (dVar 2))) (dgName 2))
  (dRet (dTup (dCons (dBin oDiv (dVar 0) (dVar 2)) (dCons (dBin oDiv (dVar 1) (dVar 2)) (dNil))))))
def m_made : FDen := mkF 2 3 b_made
theorem sc_made : FnScope ["top", "bottom", "low"] ["top", "bottom"] (defScope s_made) := ⟨rfl, rfl, rfl, by decide +kernel, rfl, by decide +kernel, by decide +kernel⟩
theorem f_made (hd : Hd fa fn cs K mg) : Fn1 P w K mg base 2 "made" ["top", "bottom"] (spD K m_made) :=
  fn1_pure hd 31 31 2 rfl rfl rfl rfl rfl sc_made (fun _ _ _ _ _ _ us hl => match us, hl with | [_, _], _ => rfl) rfl rfl fun f cdv A outer s H E hr B hB =>
    dss_cons (ds_set 2 sc_made.nd (de_fn (f_common hd) (hr.mono (by decide)) hB (da_cons (de_callB ok_abs hB (by rfl) (hd.free 48 (x := "abs")) bt_abs (da_cons (de_var 0) (da_nil))) (da_cons (de_callB ok_abs hB (by rfl) (hd.free 48 (x := "abs")) bt_abs (da_cons (de_var 1) (da_nil))) (da_nil)))))
    (dss_cons (ds_set 2 sc_made.nd (de_ifExp (dt_cmp ok_gt hB (de_var 1) (de_int) (nomark _)) (de_var 2) (de_bin ok_sub hB (de_int) (de_var 2))))
    (dss_one (ds_ret (de_tup (da_cons (de_bin ok_div hB (de_var 0) (de_var 2)) (da_cons (de_bin ok_div hB (de_var 1) (de_var 2)) (da_nil)))))))
def b_raw_plus : DenS := dRet (dCall m_made (dCons (dBin oAdd (dBin oMulT (dBin oIx (dVar 0) (dC (.int 0))) (dBin oIx (dVar 1) (dC (.int 1)))) (dBin oMulT (dBin oIx (dVar 1) (dC (.int 0))) (dBin oIx (dVar 0) (dC (.int 1))))) (dCons (dBin oMulT (dBin oIx (dVar 0) (dC (.int 1))) (dBin oIx (dVar 1) (dC (.int 1)))) (dNil))))
def m_raw_plus : FDen := mkF 2 2 b_raw_plus
theorem sc_raw_plus : FnScope ["x", "y"] ["x", "y"] (defScope s_raw_plus) := ⟨rfl, rfl, rfl, by decide +kernel, rfl, by decide +kernel, by decide +kernel⟩
theorem f_raw_plus (hd : Hd fa fn cs K mg) : Fn1 P w K mg base 3 "raw_plus" ["x", "y"] (spD K m_raw_plus) :=
  fn1_pure hd 32 32 2 rfl rfl rfl rfl rfl sc_raw_plus (fun _ _ _ _ _ _ us hl => match us, hl with | [_, _], _ => rfl) rfl rfl fun f cdv A outer s H E hr B hB =>
    dss_one (ds_ret (de_fn (f_made hd) (hr.mono (by decide)) hB (da_cons (de_bin ok_add hB (de_bin ok_mulT hB (de_ix (ru1 hr) hB (de_var 0) (de_int) (fun _ _ => rfl)) (de_ix (ru1 hr) hB (de_var 1) (de_int) (fun _ _ => rfl))) (de_bin ok_mulT hB (de_ix (ru1 hr) hB (de_var 1) (de_int) (fun _ _ => rfl)) (de_ix (ru1 hr) hB (de_var 0) (de_int) (fun _ _ => rfl)))) (da_cons (de_bin ok_mulT hB (de_ix (ru1 hr) hB (de_var 0) (de_int) (fun _ _ => rfl)) (de_ix (ru1 hr) hB (de_var 1) (de_int) (fun _ _ => rfl))) (da_nil)))))
def b_raw_times : DenS := dRet (dCall m_made (dCons (dBin oMulT (dBin oIx (dVar 0) (dC (.int 0))) (dBin oIx (dVar 1) (dC (.int 0)))) (dCons (dBin oMulT (dBin oIx (dVar 0) (dC (.int 1))) (dBin oIx (dVar 1) (dC (.int 1)))) (dNil))))
def m_raw_times : FDen := mkF 2 2 b_raw_times
theorem sc_raw_times : FnScope ["x", "y"] ["x", "y"] (defScope s_raw_times) := ⟨rfl, rfl, rfl, by decide +kernel, rfl, by decide +kernel, by decide +kernel⟩
theorem f_raw_times (hd : Hd fa fn cs K mg) : Fn1 P w K mg base 3 "raw_times" ["x", "y"] (spD K m_raw_times) :=
  fn1_pure hd 33 33 2 rfl rfl rfl rfl rfl sc_raw_times (fun _ _ _ _ _ _ us hl => match us, hl with | [_, _], _ => rfl) rfl rfl fun f cdv A outer s H E hr B hB =>
    dss_one (ds_ret (de_fn (f_made hd) (hr.mono (by decide)) hB (da_cons (de_bin ok_mulT hB (de_ix (ru1 hr) hB (de_var 0) (de_int) (fun _ _ => rfl)) (de_ix (ru1 hr) hB (de_var 1) (de_int) (fun _ _ => rfl))) (da_cons (de_bin ok_mulT hB (de_ix (ru1 hr) hB (de_var 0) (de_int) (fun _ _ => rfl)) (de_ix (ru1 hr) hB (de_var 1) (de_int) (fun _ _ => rfl))) (da_nil)))))
def b_raw_worth : DenS := dThen (dAsg (dBin oIx (dVar 1) (dC (.int 1))) (dgName 2))
  (dThen (dFor (dSeq (dBin oIx (dVar 1) (dC (.int 0)))) (dgTup 2 (dgCons (dgName 3) (dgCons (dgName 4) (dgNil)))) (dAsg (dCall m_raw_plus (dCons (dVar 2) (dCons (dCall m_raw_times (dCons (dVar 4) (dCons (dBin oIx (dVar 0) (dVar 3)) (dNil)))) (dNil)))) (dgName 2)))
  (dRet (dVar 2)))
def m_raw_worth : FDen := mkF 2 5 b_raw_worth
theorem sc_raw_worth : FnScope ["values", "one", "found", "source", "factor"] ["values", "one"] (defScope s_raw_worth) := ⟨rfl, rfl, rfl, by decide +kernel, rfl, by decide +kernel, by decide +kernel⟩
theorem f_raw_worth (hd : Hd fa fn cs K mg) : Fn1 P w K mg base 4 "raw_worth" ["values", "one"] (spD K m_raw_worth) :=
  fn1_pure hd 34 34 2 rfl rfl rfl rfl rfl sc_raw_worth (fun _ _ _ _ _ _ us hl => match us, hl with | [_, _], _ => rfl) rfl rfl fun f cdv A outer s H E hr B hB =>
    dss_cons (ds_set 2 sc_raw_worth.nd (de_ix (ru1 hr) hB (de_var 1) (de_int) (fun _ _ => rfl)))
    (dss_cons (ds_for PassesOwn.never (by rfl) (di_seq hB (de_ix (ru1 hr) hB (de_var 1) (de_int) (fun _ _ => rfl))) (dg_tup hB (by rfl) (dgs_cons (dg_name 3 sc_raw_worth.nd) (dgs_cons (dg_name 4 sc_raw_worth.nd) (dgs_nil)))) (dss_one (ds_set 2 sc_raw_worth.nd (de_fn (f_raw_plus hd) (hr.mono (by decide)) hB (da_cons (de_var 2) (da_cons (de_fn (f_raw_times hd) (hr.mono (by decide)) hB (da_cons (de_var 4) (da_cons (de_ix (ru1 hr) hB (de_var 0) (de_var 3) (fun _ _ => rfl)) (da_nil)))) (da_nil)))))))
    (dss_one (ds_ret (de_var 2))))
def b_raw_cell_sums : DenS := dRet (dIf (dTest (dBin oEq (dBin oIx (dVar 0) (dC (.int 0))) (dC (.str "most")))) (dBin oIx (dVar 0) (dC (.int 1))) (dSl (dVar 0) (dPart (dC (.int 1))) (dNoP)))
def m_raw_cell_sums : FDen := mkF 1 1 b_raw_cell_sums
theorem sc_raw_cell_sums : FnScope ["cell"] ["cell"] (defScope s_raw_cell_sums) := ⟨rfl, rfl, rfl, by decide +kernel, rfl, by decide +kernel, by decide +kernel⟩
theorem f_raw_cell_sums (hd : Hd fa fn cs K mg) : Fn1 P w K mg base 1 "raw_cell_sums" ["cell"] (spD K m_raw_cell_sums) :=
  fn1_pure hd 35 35 1 rfl rfl rfl rfl rfl sc_raw_cell_sums (fun _ _ _ _ _ _ us hl => match us, hl with | [_], _ => rfl) rfl rfl fun f cdv A outer s H E hr B hB =>
    dss_one (ds_ret (de_ifExp (dt_cmp (ok_eq (ru64 hr)) hB (de_ix (ru1 hr) hB (de_var 0) (de_int) (fun _ _ => rfl)) (de_con (hd.con 10) hB) (nomark _)) (de_ix (ru1 hr) hB (de_var 0) (de_int) (fun _ _ => rfl)) (de_slice hB (de_var 0) (do_some (de_int)) (do_none))))
def b_raw_cell_value : DenS := dThen (dAsg (dLc (dSeq (dCall m_raw_cell_sums (dCons (dVar 0) (dNil)))) (dgName 3) (dYes) (dCall m_raw_worth (dCons (dVar 1) (dCons (dVar 3) (dNil)))) [3]) (dgName 2))
  (dRet (dCall m_value_by (dCons (dBin oIx (dVar 0) (dC (.int 0))) (dCons (dVar 2) (dNil)))))
def m_raw_cell_value : FDen := mkF 2 4 b_raw_cell_value
theorem sc_raw_cell_value : FnScope ["cell", "sources", "parts", "one"] ["cell", "sources"] (defScope s_raw_cell_value) := ⟨rfl, rfl, rfl, by decide +kernel, rfl, by decide +kernel, by decide +kernel⟩
theorem f_raw_cell_value (hd : Hd fa fn cs K mg) : Fn1 P w K mg base 5 "raw_cell_value" ["cell", "sources"] (spD K m_raw_cell_value) :=
  fn1_pure hd 36 36 2 rfl rfl rfl rfl rfl sc_raw_cell_value (fun _ _ _ _ _ _ us hl => match us, hl with | [_, _], _ => rfl) rfl rfl fun f cdv A outer s H E hr B hB =>
    dss_cons (by first | exact ds_set 2 sc_raw_cell_value.nd (de_lc [("one", 3)] (by rfl) sc_raw_cell_value.nd (di_seq hB (de_fn (f_raw_cell_sums hd) (hr.mono (by decide)) hB (da_cons (de_var 0) (da_nil)))) (blkOk_by (by rfl)) (by decide) (fun _ _ _ _ _ => dg_name 3 sc_raw_cell_value.nd) (fun _ _ _ _ _ => dts_nil) (fun _ _ _ _ _ => de_fn (f_raw_worth hd) (hr.mono (by decide)) hB (da_cons (de_var 1) (da_cons (de_var 3) (da_nil))))) | exact ds_setLc 2 [("one", 3)] (by rfl) sc_raw_cell_value.nd (by rfl) (by rfl) (by rfl) (di_seq hB (de_fn (f_raw_cell_sums hd) (hr.mono (by decide)) hB (da_cons (de_var 0) (da_nil)))) (blkOk_by (by rfl)) (by decide) (fun _ _ _ _ _ => dg_name 3 sc_raw_cell_value.nd) (fun _ _ _ _ _ => dts_nil) (fun _ _ _ _ _ => de_fn (f_raw_worth hd) (hr.mono (by decide)) hB (da_cons (de_var 1) (da_cons (de_var 3) (da_nil)))))
    (dss_one (ds_ret (de_fn (f_value_by hd) (hr.mono (by decide)) hB (da_cons (de_ix (ru1 hr) hB (de_var 0) (de_int) (fun _ _ => rfl)) (da_cons (de_var 2) (da_nil))))))
def b_raw_sources_at : DenS := dThen (dAsg (dCB oList (dCons (dVar 1) (dNil))) (dgName 2))
  (dThen (dFor (dSeq (dBin oIx (dVar 0) (dC (.int 1)))) (dgName 3) (dDrop (dAppend (dVar 2) (dCallB m_raw_cell_value (dCons (dVar 3) (dCons (dVar 2) (dNil)))))))
  (dRet (dVar 2)))
def m_raw_sources_at : FDen := mkF 2 4 b_raw_sources_at
theorem sc_raw_sources_at : FnScope ["net", "point", "found", "cell"] ["net", "point"] (defScope s_raw_sources_at) := ⟨rfl, rfl, rfl, by decide +kernel, rfl, by decide +kernel, by decide +kernel⟩
theorem f_raw_sources_at (hd : Hd fa fn cs K mg) : Fn1 P w K mg base 6 "raw_sources_at" ["net", "point"] (spD K m_raw_sources_at) :=
  fn1_pure hd 37 37 2 rfl rfl rfl rfl rfl sc_raw_sources_at (fun _ _ _ _ _ _ us hl => match us, hl with | [_, _], _ => rfl) rfl rfl fun f cdv A outer s H E hr B hB =>
    dss_cons (ds_set 2 sc_raw_sources_at.nd (de_callTy ok_list hB (by rfl) (hd.free 60 (x := "list")) bt_list (da_cons (de_var 1) (da_nil))))
    (dss_cons (ds_for PassesOwn.never (by rfl) (di_seq hB (de_ix (ru1 hr) hB (de_var 0) (de_int) (fun _ _ => rfl))) (dg_name 3 sc_raw_sources_at.nd) (dss_one (ds_expr (de_append hB (de_var 2) (de_fnB (f_raw_cell_value hd) (hr.mono (by decide)) hB (da_cons (de_var 3) (da_cons (de_var 2) (da_nil))))))))
    (dss_one (ds_ret (de_var 2))))
def b_out_parts : DenS := dThen (dDrop (dCall m_check_point (dCons (dVar 0) (dCons (dVar 1) (dNil)))))
  (dThen (dIfS (dNot (dTest (dCall m_is_within (dCons (dVar 2) (dCons (dC (.int 0)) (dCons (dBin oSub (dCB oLen (dCons (dBin oIx (dVar 0) (dC (.int 2))) (dNil))) (dC (.int 1))) (dNil))))))) (dNever) (dNext))
  (dThen (dAsg (dTup (dCons (dCall m_raw_sources_at (dCons (dVar 0) (dCons (dVar 1) (dNil)))) (dCons (dBin oIx (dBin oIx (dVar 0) (dC (.int 2))) (dVar 2)) (dNil)))) (dgTup 2 (dgCons (dgName 4) (dgCons (dgTup 2 (dgCons (dgName 5) (dgCons (dgName 6) (dgNil)))) (dgNil)))))
  (dThen (dAsg (dLst (dCons (dTup (dCons (dNeg (dC (.int 1))) (dCons (dVar 6) (dNil)))) (dNil))) (dgName 3))
  (dThen (dDrop (dExtend (dVar 3) (dLc (dSeq (dVar 5)) (dgTup 2 (dgCons (dgName 7) (dgCons (dgName 8) (dgNil)))) (dYes) (dTup (dCons (dVar 7) (dCons (dCall m_raw_times (dCons (dVar 8) (dCons (dBin oIx (dVar 4) (dVar 7)) (dNil)))) (dNil)))) [7, 8])))
  (dRet (dCB oTuple (dCons (dVar 3) (dNil))))))))
def m_out_parts : FDen := mkF 3 9 b_out_parts
theorem sc_out_parts : FnScope ["net", "point", "k", "found", "sources", "pairs", "constant", "source", "factor"] ["net", "point", "k"] (defScope s_out_parts) := ⟨rfl, rfl, rfl, by decide +kernel, rfl, by decide +kernel, by decide +kernel⟩
theorem f_out_parts (hd : Hd fa fn cs K mg) : Fn1 P w K mg base 9 "out_parts" ["net", "point", "k"] (spD K m_out_parts) :=
  fn1_pure hd 38 38 3 rfl rfl rfl rfl rfl sc_out_parts (fun _ _ _ _ _ _ us hl => match us, hl with | [_, _, _], _ => rfl) rfl rfl fun f cdv A outer s H E hr B hB =>
    dss_cons (ds_expr (de_fn (f_check_point hd) (hr.mono (by decide)) hB (da_cons (de_var 0) (da_cons (de_var 1) (da_nil)))))
    (dss_cons (ds_if (dt_not (dt_val (de_fn (f_is_within hd) (hr.mono (by decide)) hB (da_cons (de_var 2) (da_cons (de_int) (da_cons (de_bin ok_sub hB (de_callB ok_len hB (by rfl) (hd.free 50 (x := "len")) bt_len (da_cons (de_ix (ru1 hr) hB (de_var 0) (de_int) (fun _ _ => rfl)) (da_nil))) (de_int)) (da_nil))))))) (dss_one (ds_never)) (dss_nil))
    (dss_cons (ds_asg (de_tup (da_cons (de_fn (f_raw_sources_at hd) (hr.mono (by decide)) hB (da_cons (de_var 0) (da_cons (de_var 1) (da_nil)))) (da_cons (de_ix (ru1 hr) hB (de_ix (ru1 hr) hB (de_var 0) (de_int) (fun _ _ => rfl)) (de_var 2) (fun _ _ => rfl)) (da_nil)))) (dg_tup hB (by rfl) (dgs_cons (dg_name 4 sc_out_parts.nd) (dgs_cons (dg_tup hB (by rfl) (dgs_cons (dg_name 5 sc_out_parts.nd) (dgs_cons (dg_name 6 sc_out_parts.nd) (dgs_nil)))) (dgs_nil)))))
    (dss_cons (ds_set 3 sc_out_parts.nd (de_lst (da_cons (de_tup (da_cons (de_neg (de_int)) (da_cons (de_var 6) (da_nil)))) (da_nil))))
    (dss_cons (ds_expr (de_extend hB (de_var 3) (de_lc [("source", 7), ("factor", 8)] (by rfl) sc_out_parts.nd (di_seq hB (de_var 5)) (blkOk_by (by rfl)) (by decide) (fun _ _ _ _ _ => dg_tup hB (by rfl) (dgs_cons (dg_name 7 sc_out_parts.nd) (dgs_cons (dg_name 8 sc_out_parts.nd) (dgs_nil)))) (fun _ _ _ _ _ => dts_nil) (fun _ _ _ _ _ => de_tup (da_cons (de_var 7) (da_cons (de_fn (f_raw_times hd) (hr.mono (by decide)) hB (da_cons (de_var 8) (da_cons (de_ix (ru1 hr) hB (de_var 4) (de_var 7) (fun _ _ => rfl)) (da_nil)))) (da_nil)))))))
    (dss_one (ds_ret (de_callTy ok_tuple hB (by rfl) (hd.free 52 (x := "tuple")) bt_tuple (da_cons (de_var 3) (da_nil)))))))))
def rb_out_parts : DenR := rSeq (rCall r_check_point (dCons (dVar 0) (dCons (dVar 1) (dNil)))) (dDrop (dCall m_check_point (dCons (dVar 0) (dCons (dVar 1) (dNil)))))
  (rIf (dNot (dTest (dCall m_is_within (dCons (dVar 2) (dCons (dC (.int 0)) (dCons (dBin oSub (dCB oLen (dCons (dBin oIx (dVar 0) (dC (.int 2))) (dNil))) (dC (.int 1))) (dNil))))))) (rRaise "NoOut") (rNo))
def r_out_parts : FDenR := mkR 3 9 rb_out_parts
theorem g_out_parts (hd : Hd fa fn cs K mg) : FnR P w K mg base 9 "out_parts" ["net", "point", "k"] (spR K (cvK K) r_out_parts) :=
  fn1_R hd 38 38 3 rfl rfl rfl rfl rfl sc_out_parts (fun _ _ _ _ _ _ us hl => match us, hl with | [_, _, _], _ => rfl) rfl rfl fun f cdv A outer s H E hr B hB =>
    rss_seq (rs_expr (re_fn (g_check_point hd) (hr.mono (by decide)) hB takes_def (da_cons (de_var 0) (da_cons (de_var 1) (da_nil))))) (ds_expr (de_fn (f_check_point hd) (hr.mono (by decide)) hB (da_cons (de_var 0) (da_cons (de_var 1) (da_nil)))))
    (rss_here (rs_if (dt_not (dt_val (de_fn (f_is_within hd) (hr.mono (by decide)) hB (da_cons (de_var 2) (da_cons (de_int) (da_cons (de_bin ok_sub hB (de_callB ok_len hB (by rfl) (hd.free 50 (x := "len")) bt_len (da_cons (de_ix (ru1 hr) hB (de_var 0) (de_int) (fun _ _ => rfl)) (da_nil))) (de_int)) (da_nil))))))) (rss_here (rs_raiseH hd 16 rfl takes_def)) (rss_no)))
def b_values : DenS := dThen (dDrop (dCall m_check_point (dCons (dVar 0) (dCons (dVar 1) (dNil)))))
  (dRet (dCB oTuple (dCons (dSl (dCall m_raw_sources_at (dCons (dVar 0) (dCons (dVar 1) (dNil)))) (dPart (dBin oIx (dVar 0) (dC (.int 0)))) (dNoP)) (dNil))))
def m_values : FDen := mkF 2 2 b_values
theorem sc_values : FnScope ["net", "point"] ["net", "point"] (defScope s_values) := ⟨rfl, rfl, rfl, by decide +kernel, rfl, by decide +kernel, by decide +kernel⟩
theorem f_values (hd : Hd fa fn cs K mg) : Fn1 P w K mg base 9 "values" ["net", "point"] (spD K m_values) :=
  fn1_pure hd 39 39 2 rfl rfl rfl rfl rfl sc_values (fun _ _ _ _ _ _ us hl => match us, hl with | [_, _], _ => rfl) rfl rfl fun f cdv A outer s H E hr B hB =>
    dss_cons (ds_expr (de_fn (f_check_point hd) (hr.mono (by decide)) hB (da_cons (de_var 0) (da_cons (de_var 1) (da_nil)))))
    (dss_one (ds_ret (de_callTy ok_tuple hB (by rfl) (hd.free 52 (x := "tuple")) bt_tuple (da_cons (de_slice hB (de_fn (f_raw_sources_at hd) (hr.mono (by decide)) hB (da_cons (de_var 0) (da_cons (de_var 1) (da_nil)))) (do_some (de_ix (ru1 hr) hB (de_var 0) (de_int) (fun _ _ => rfl))) (do_none)) (da_nil)))))
def rb_values : DenR := rCall r_check_point (dCons (dVar 0) (dCons (dVar 1) (dNil)))
def r_values : FDenR := mkR 2 2 rb_values
theorem g_values (hd : Hd fa fn cs K mg) : FnR P w K mg base 9 "values" ["net", "point"] (spR K (cvK K) r_values) :=
  fn1_R hd 39 39 2 rfl rfl rfl rfl rfl sc_values (fun _ _ _ _ _ _ us hl => match us, hl with | [_, _], _ => rfl) rfl rfl fun f cdv A outer s H E hr B hB =>
    rss_here (rs_expr (re_fn (g_check_point hd) (hr.mono (by decide)) hB takes_def (da_cons (de_var 0) (da_cons (de_var 1) (da_nil)))))
def b_raw_run : DenS := dThen (dAsg (dCall m_raw_sources_at (dCons (dVar 0) (dCons (dVar 1) (dNil)))) (dgName 2))
  (dRet (dCB oTuple (dCons (dLc (dSeq (dBin oIx (dVar 0) (dC (.int 2)))) (dgName 3) (dYes) (dCall m_raw_worth (dCons (dVar 2) (dCons (dVar 3) (dNil)))) [3]) (dNil))))
def m_raw_run : FDen := mkF 2 4 b_raw_run
theorem sc_raw_run : FnScope ["net", "point", "found", "one"] ["net", "point"] (defScope s_raw_run) := ⟨rfl, rfl, rfl, by decide +kernel, rfl, by decide +kernel, by decide +kernel⟩
theorem f_raw_run (hd : Hd fa fn cs K mg) : Fn1 P w K mg base 7 "raw_run" ["net", "point"] (spD K m_raw_run) :=
  fn1_pure hd 40 40 2 rfl rfl rfl rfl rfl sc_raw_run (fun _ _ _ _ _ _ us hl => match us, hl with | [_, _], _ => rfl) rfl rfl fun f cdv A outer s H E hr B hB =>
    dss_cons (ds_set 2 sc_raw_run.nd (de_fn (f_raw_sources_at hd) (hr.mono (by decide)) hB (da_cons (de_var 0) (da_cons (de_var 1) (da_nil)))))
    (dss_one (ds_ret (de_callTy ok_tuple hB (by rfl) (hd.free 52 (x := "tuple")) bt_tuple (da_cons (de_lc [("one", 3)] (by rfl) sc_raw_run.nd (di_seq hB (de_ix (ru1 hr) hB (de_var 0) (de_int) (fun _ _ => rfl))) (blkOk_by (by rfl)) (by decide) (fun _ _ _ _ _ => dg_name 3 sc_raw_run.nd) (fun _ _ _ _ _ => dts_nil) (fun _ _ _ _ _ => de_fn (f_raw_worth hd) (hr.mono (by decide)) hB (da_cons (de_var 2) (da_cons (de_var 3) (da_nil))))) (da_nil)))))
def b_run : DenS := dThen (dDrop (dCall m_check_point (dCons (dVar 0) (dCons (dVar 1) (dNil)))))
  (dRet (dCall m_raw_run (dCons (dVar 0) (dCons (dVar 1) (dNil)))))
def m_run : FDen := mkF 2 2 b_run
theorem sc_run : FnScope ["net", "point"] ["net", "point"] (defScope s_run) := ⟨rfl, rfl, rfl, by decide +kernel, rfl, by decide +kernel, by decide +kernel⟩
theorem f_run (hd : Hd fa fn cs K mg) : Fn1 P w K mg base 9 "run" ["net", "point"] (spD K m_run) :=
  fn1_pure hd 41 41 2 rfl rfl rfl rfl rfl sc_run (fun _ _ _ _ _ _ us hl => match us, hl with | [_, _], _ => rfl) rfl rfl fun f cdv A outer s H E hr B hB =>
    dss_cons (ds_expr (de_fn (f_check_point hd) (hr.mono (by decide)) hB (da_cons (de_var 0) (da_cons (de_var 1) (da_nil)))))
    (dss_one (ds_ret (de_fn (f_raw_run hd) (hr.mono (by decide)) hB (da_cons (de_var 0) (da_cons (de_var 1) (da_nil))))))
def rb_run : DenR := rCall r_check_point (dCons (dVar 0) (dCons (dVar 1) (dNil)))
def r_run : FDenR := mkR 2 2 rb_run
theorem g_run (hd : Hd fa fn cs K mg) : FnR P w K mg base 9 "run" ["net", "point"] (spR K (cvK K) r_run) :=
  fn1_R hd 41 41 2 rfl rfl rfl rfl rfl sc_run (fun _ _ _ _ _ _ us hl => match us, hl with | [_, _], _ => rfl) rfl rfl fun f cdv A outer s H E hr B hB =>
    rss_here (rs_expr (re_fn (g_check_point hd) (hr.mono (by decide)) hB takes_def (da_cons (de_var 0) (da_cons (de_var 1) (da_nil)))))
def b_parts_of : DenS := dThen (dDrop (dCall m_check_point (dCons (dVar 0) (dCons (dVar 1) (dNil)))))
  (dThen (dIfS (dNot (dTest (dCall m_is_within (dCons (dVar 2) (dCons (dC (.int 0)) (dCons (dBin oSub (dCB oLen (dCons (dBin oIx (dVar 0) (dC (.int 1))) (dNil))) (dC (.int 1))) (dNil))))))) (dNever) (dNext))
  (dThen (dAsg (dCall m_raw_sources_at (dCons (dVar 0) (dCons (dVar 1) (dNil)))) (dgName 3))
  (dRet (dCB oTuple (dCons (dLc (dSeq (dCall m_raw_cell_sums (dCons (dBin oIx (dBin oIx (dVar 0) (dC (.int 1))) (dVar 2)) (dNil)))) (dgName 4) (dYes) (dCall m_raw_worth (dCons (dVar 3) (dCons (dVar 4) (dNil)))) [4]) (dNil))))))
def m_parts_of : FDen := mkF 3 5 b_parts_of
theorem sc_parts_of : FnScope ["net", "point", "c", "found", "one"] ["net", "point", "c"] (defScope s_parts_of) := ⟨rfl, rfl, rfl, by decide +kernel, rfl, by decide +kernel, by decide +kernel⟩
theorem f_parts_of (hd : Hd fa fn cs K mg) : Fn1 P w K mg base 9 "parts_of" ["net", "point", "c"] (spD K m_parts_of) :=
  fn1_pure hd 42 42 3 rfl rfl rfl rfl rfl sc_parts_of (fun _ _ _ _ _ _ us hl => match us, hl with | [_, _, _], _ => rfl) rfl rfl fun f cdv A outer s H E hr B hB =>
    dss_cons (ds_expr (de_fn (f_check_point hd) (hr.mono (by decide)) hB (da_cons (de_var 0) (da_cons (de_var 1) (da_nil)))))
    (dss_cons (ds_if (dt_not (dt_val (de_fn (f_is_within hd) (hr.mono (by decide)) hB (da_cons (de_var 2) (da_cons (de_int) (da_cons (de_bin ok_sub hB (de_callB ok_len hB (by rfl) (hd.free 50 (x := "len")) bt_len (da_cons (de_ix (ru1 hr) hB (de_var 0) (de_int) (fun _ _ => rfl)) (da_nil))) (de_int)) (da_nil))))))) (dss_one (ds_never)) (dss_nil))
    (dss_cons (ds_set 3 sc_parts_of.nd (de_fn (f_raw_sources_at hd) (hr.mono (by decide)) hB (da_cons (de_var 0) (da_cons (de_var 1) (da_nil)))))
    (dss_one (ds_ret (de_callTy ok_tuple hB (by rfl) (hd.free 52 (x := "tuple")) bt_tuple (da_cons (de_lc [("one", 4)] (by rfl) sc_parts_of.nd (di_seq hB (de_fn (f_raw_cell_sums hd) (hr.mono (by decide)) hB (da_cons (de_ix (ru1 hr) hB (de_ix (ru1 hr) hB (de_var 0) (de_int) (fun _ _ => rfl)) (de_var 2) (fun _ _ => rfl)) (da_nil)))) (blkOk_by (by rfl)) (by decide) (fun _ _ _ _ _ => dg_name 4 sc_parts_of.nd) (fun _ _ _ _ _ => dts_nil) (fun _ _ _ _ _ => de_fn (f_raw_worth hd) (hr.mono (by decide)) hB (da_cons (de_var 3) (da_cons (de_var 4) (da_nil))))) (da_nil)))))))
def rb_parts_of : DenR := rSeq (rCall r_check_point (dCons (dVar 0) (dCons (dVar 1) (dNil)))) (dDrop (dCall m_check_point (dCons (dVar 0) (dCons (dVar 1) (dNil)))))
  (rIf (dNot (dTest (dCall m_is_within (dCons (dVar 2) (dCons (dC (.int 0)) (dCons (dBin oSub (dCB oLen (dCons (dBin oIx (dVar 0) (dC (.int 1))) (dNil))) (dC (.int 1))) (dNil))))))) (rRaise "NoCell") (rNo))
def r_parts_of : FDenR := mkR 3 5 rb_parts_of
theorem g_parts_of (hd : Hd fa fn cs K mg) : FnR P w K mg base 9 "parts_of" ["net", "point", "c"] (spR K (cvK K) r_parts_of) :=
  fn1_R hd 42 42 3 rfl rfl rfl rfl rfl sc_parts_of (fun _ _ _ _ _ _ us hl => match us, hl with | [_, _, _], _ => rfl) rfl rfl fun f cdv A outer s H E hr B hB =>
    rss_seq (rs_expr (re_fn (g_check_point hd) (hr.mono (by decide)) hB takes_def (da_cons (de_var 0) (da_cons (de_var 1) (da_nil))))) (ds_expr (de_fn (f_check_point hd) (hr.mono (by decide)) hB (da_cons (de_var 0) (da_cons (de_var 1) (da_nil)))))
    (rss_here (rs_if (dt_not (dt_val (de_fn (f_is_within hd) (hr.mono (by decide)) hB (da_cons (de_var 2) (da_cons (de_int) (da_cons (de_bin ok_sub hB (de_callB ok_len hB (by rfl) (hd.free 50 (x := "len")) bt_len (da_cons (de_ix (ru1 hr) hB (de_var 0) (de_int) (fun _ _ => rfl)) (da_nil))) (de_int)) (da_nil))))))) (rss_here (rs_raiseH hd 14 rfl takes_def)) (rss_no)))
def b_first_wrong : DenS := dThen (dDrop (dCall m_check_point (dCons (dVar 0) (dCons (dVar 1) (dNil)))))
  (dThen (dIfS (dOr (dNot (dTest (dCall m_are_values (dCons (dVar 2) (dNil))))) (dTest (dBin oNe (dCB oLen (dCons (dVar 2) (dNil))) (dCB oLen (dCons (dBin oIx (dVar 0) (dC (.int 1))) (dNil)))))) (dNever) (dNext))
  (dThen (dAsg (dBin oAdd (dCB oList (dCons (dVar 1) (dNil))) (dCB oList (dCons (dVar 2) (dNil)))) (dgName 3))
  (dThen (dFor (dEnum (dCons (dBin oIx (dVar 0) (dC (.int 1))) (dNil))) (dgTup 2 (dgCons (dgName 4) (dgCons (dgName 5) (dgNil)))) (dIfS (dTest (dBin oNe (dCall m_raw_cell_value (dCons (dVar 5) (dCons (dVar 3) (dNil)))) (dBin oIx (dVar 2) (dVar 4)))) (dRet (dVar 4)) (dNext)))
  (dRet (dC .non)))))
def m_first_wrong : FDen := mkF 3 6 b_first_wrong
theorem sc_first_wrong : FnScope ["net", "point", "told", "sources", "c", "cell"] ["net", "point", "told"] (defScope s_first_wrong) := ⟨rfl, rfl, rfl, by decide +kernel, rfl, by decide +kernel, by decide +kernel⟩
theorem f_first_wrong (hd : Hd fa fn cs K mg) : Fn1 P w K mg base 9 "first_wrong" ["net", "point", "told"] (spD K m_first_wrong) :=
  fn1_pure hd 43 43 3 rfl rfl rfl rfl rfl sc_first_wrong (fun _ _ _ _ _ _ us hl => match us, hl with | [_, _, _], _ => rfl) rfl rfl fun f cdv A outer s H E hr B hB =>
    dss_cons (ds_expr (de_fn (f_check_point hd) (hr.mono (by decide)) hB (da_cons (de_var 0) (da_cons (de_var 1) (da_nil)))))
    (dss_cons (ds_if ((dw_or (dt_not (dt_val (de_fn (f_are_values hd) (hr.mono (by decide)) hB (da_cons (de_var 2) (da_nil))))) (dw_or1 (dt_cmp (ok_ne (ru64 hr)) hB (de_callB ok_len hB (by rfl) (hd.free 50 (x := "len")) bt_len (da_cons (de_var 2) (da_nil))) (de_callB ok_len hB (by rfl) (hd.free 50 (x := "len")) bt_len (da_cons (de_ix (ru1 hr) hB (de_var 0) (de_int) (fun _ _ => rfl)) (da_nil))) (nomark _)))).pt) (dss_one (ds_never)) (dss_nil))
    (dss_cons (ds_set 3 sc_first_wrong.nd (de_bin ok_add hB (de_callTy ok_list hB (by rfl) (hd.free 60 (x := "list")) bt_list (da_cons (de_var 1) (da_nil))) (de_callTy ok_list hB (by rfl) (hd.free 60 (x := "list")) bt_list (da_cons (de_var 2) (da_nil)))))
    (dss_cons (ds_for PassesOwn.never (by rfl) (di_enum hB (by rfl) (hd.free 59 (x := "enumerate")) (da_cons (de_ix (ru1 hr) hB (de_var 0) (de_int) (fun _ _ => rfl)) (da_nil))) (dg_tup hB (by rfl) (dgs_cons (dg_name 4 sc_first_wrong.nd) (dgs_cons (dg_name 5 sc_first_wrong.nd) (dgs_nil)))) (dss_one (ds_if (dt_cmp (ok_ne (ru64 hr)) hB (de_fn (f_raw_cell_value hd) (hr.mono (by decide)) hB (da_cons (de_var 5) (da_cons (de_var 3) (da_nil)))) (de_ix (ru1 hr) hB (de_var 2) (de_var 4) (fun _ _ => rfl)) (nomark _)) (dss_one (ds_ret (de_var 4))) (dss_nil))))
    (dss_one (ds_ret (de_non))))))
def rb_first_wrong : DenR := rSeq (rCall r_check_point (dCons (dVar 0) (dCons (dVar 1) (dNil)))) (dDrop (dCall m_check_point (dCons (dVar 0) (dCons (dVar 1) (dNil)))))
  (rIf (dOr (dNot (dTest (dCall m_are_values (dCons (dVar 2) (dNil))))) (dTest (dBin oNe (dCB oLen (dCons (dVar 2) (dNil))) (dCB oLen (dCons (dBin oIx (dVar 0) (dC (.int 1))) (dNil)))))) (rRaise "NoTrace") (rNo))
def r_first_wrong : FDenR := mkR 3 6 rb_first_wrong
theorem g_first_wrong (hd : Hd fa fn cs K mg) : FnR P w K mg base 9 "first_wrong" ["net", "point", "told"] (spR K (cvK K) r_first_wrong) :=
  fn1_R hd 43 43 3 rfl rfl rfl rfl rfl sc_first_wrong (fun _ _ _ _ _ _ us hl => match us, hl with | [_, _, _], _ => rfl) rfl rfl fun f cdv A outer s H E hr B hB =>
    rss_seq (rs_expr (re_fn (g_check_point hd) (hr.mono (by decide)) hB takes_def (da_cons (de_var 0) (da_cons (de_var 1) (da_nil))))) (ds_expr (de_fn (f_check_point hd) (hr.mono (by decide)) hB (da_cons (de_var 0) (da_cons (de_var 1) (da_nil)))))
    (rss_here (rs_if ((dw_or (dt_not (dt_val (de_fn (f_are_values hd) (hr.mono (by decide)) hB (da_cons (de_var 2) (da_nil))))) (dw_or1 (dt_cmp (ok_ne (ru64 hr)) hB (de_callB ok_len hB (by rfl) (hd.free 50 (x := "len")) bt_len (da_cons (de_var 2) (da_nil))) (de_callB ok_len hB (by rfl) (hd.free 50 (x := "len")) bt_len (da_cons (de_ix (ru1 hr) hB (de_var 0) (de_int) (fun _ _ => rfl)) (da_nil))) (nomark _)))).pt) (rss_here (rs_raiseH hd 19 rfl takes_def)) (rss_no)))
def b_is_values : DenS := dThen (dDrop (dCall m_check_point (dCons (dVar 0) (dCons (dVar 1) (dNil)))))
  (dRet (dAndV (dCall m_are_values (dCons (dVar 2) (dNil))) (dBin oEq (dVar 2) (dCB oTuple (dCons (dSl (dCall m_raw_sources_at (dCons (dVar 0) (dCons (dVar 1) (dNil)))) (dPart (dBin oIx (dVar 0) (dC (.int 0)))) (dNoP)) (dNil))))))
def m_is_values : FDen := mkF 3 3 b_is_values
theorem sc_is_values : FnScope ["net", "point", "thing"] ["net", "point", "thing"] (defScope s_is_values) := ⟨rfl, rfl, rfl, by decide +kernel, rfl, by decide +kernel, by decide +kernel⟩
theorem f_is_values (hd : Hd fa fn cs K mg) : Fn1 P w K mg base 9 "is_values" ["net", "point", "thing"] (spD K m_is_values) :=
  fn1_pure hd 44 44 3 rfl rfl rfl rfl rfl sc_is_values (fun _ _ _ _ _ _ us hl => match us, hl with | [_, _, _], _ => rfl) rfl rfl fun f cdv A outer s H E hr B hB =>
    dss_cons (ds_expr (de_fn (f_check_point hd) (hr.mono (by decide)) hB (da_cons (de_var 0) (da_cons (de_var 1) (da_nil)))))
    (dss_one (ds_ret (de_and (de_fn (f_are_values hd) (hr.mono (by decide)) hB (da_cons (de_var 2) (da_nil))) (de_one (de_cmp (ok_eq (ru64 hr)) hB (de_var 2) (de_callTy ok_tuple hB (by rfl) (hd.free 52 (x := "tuple")) bt_tuple (da_cons (de_slice hB (de_fn (f_raw_sources_at hd) (hr.mono (by decide)) hB (da_cons (de_var 0) (da_cons (de_var 1) (da_nil)))) (do_some (de_ix (ru1 hr) hB (de_var 0) (de_int) (fun _ _ => rfl))) (do_none)) (da_nil))) (nomark _))))))
def b_value_of : DenS := dThen (dDrop (dCall m_check_point (dCons (dVar 0) (dCons (dVar 1) (dNil)))))
  (dThen (dIfS (dNot (dTest (dCall m_is_within (dCons (dVar 2) (dCons (dC (.int 0)) (dCons (dBin oSub (dBin oAdd (dBin oIx (dVar 0) (dC (.int 0))) (dCB oLen (dCons (dBin oIx (dVar 0) (dC (.int 1))) (dNil)))) (dC (.int 1))) (dNil))))))) (dNever) (dNext))
  (dRet (dBin oIx (dCall m_raw_sources_at (dCons (dVar 0) (dCons (dVar 1) (dNil)))) (dVar 2))))
def m_value_of : FDen := mkF 3 3 b_value_of
theorem sc_value_of : FnScope ["net", "point", "source"] ["net", "point", "source"] (defScope s_value_of) := ⟨rfl, rfl, rfl, by decide +kernel, rfl, by decide +kernel, by decide +kernel⟩
theorem f_value_of (hd : Hd fa fn cs K mg) : Fn1 P w K mg base 9 "value_of" ["net", "point", "source"] (spD K m_value_of) :=
  fn1_pure hd 45 45 3 rfl rfl rfl rfl rfl sc_value_of (fun _ _ _ _ _ _ us hl => match us, hl with | [_, _, _], _ => rfl) rfl rfl fun f cdv A outer s H E hr B hB =>
    dss_cons (ds_expr (de_fn (f_check_point hd) (hr.mono (by decide)) hB (da_cons (de_var 0) (da_cons (de_var 1) (da_nil)))))
    (dss_cons (ds_if (dt_not (dt_val (de_fn (f_is_within hd) (hr.mono (by decide)) hB (da_cons (de_var 2) (da_cons (de_int) (da_cons (de_bin ok_sub hB (de_bin ok_add hB (de_ix (ru1 hr) hB (de_var 0) (de_int) (fun _ _ => rfl)) (de_callB ok_len hB (by rfl) (hd.free 50 (x := "len")) bt_len (da_cons (de_ix (ru1 hr) hB (de_var 0) (de_int) (fun _ _ => rfl)) (da_nil)))) (de_int)) (da_nil))))))) (dss_one (ds_never)) (dss_nil))
    (dss_one (ds_ret (de_ix (ru1 hr) hB (de_fn (f_raw_sources_at hd) (hr.mono (by decide)) hB (da_cons (de_var 0) (da_cons (de_var 1) (da_nil)))) (de_var 2) (fun _ _ => rfl)))))
def rb_value_of : DenR := rSeq (rCall r_check_point (dCons (dVar 0) (dCons (dVar 1) (dNil)))) (dDrop (dCall m_check_point (dCons (dVar 0) (dCons (dVar 1) (dNil)))))
  (rIf (dNot (dTest (dCall m_is_within (dCons (dVar 2) (dCons (dC (.int 0)) (dCons (dBin oSub (dBin oAdd (dBin oIx (dVar 0) (dC (.int 0))) (dCB oLen (dCons (dBin oIx (dVar 0) (dC (.int 1))) (dNil)))) (dC (.int 1))) (dNil))))))) (rRaise "NoSource") (rNo))
def r_value_of : FDenR := mkR 3 3 rb_value_of
theorem g_value_of (hd : Hd fa fn cs K mg) : FnR P w K mg base 9 "value_of" ["net", "point", "source"] (spR K (cvK K) r_value_of) :=
  fn1_R hd 45 45 3 rfl rfl rfl rfl rfl sc_value_of (fun _ _ _ _ _ _ us hl => match us, hl with | [_, _, _], _ => rfl) rfl rfl fun f cdv A outer s H E hr B hB =>
    rss_seq (rs_expr (re_fn (g_check_point hd) (hr.mono (by decide)) hB takes_def (da_cons (de_var 0) (da_cons (de_var 1) (da_nil))))) (ds_expr (de_fn (f_check_point hd) (hr.mono (by decide)) hB (da_cons (de_var 0) (da_cons (de_var 1) (da_nil)))))
    (rss_here (rs_if (dt_not (dt_val (de_fn (f_is_within hd) (hr.mono (by decide)) hB (da_cons (de_var 2) (da_cons (de_int) (da_cons (de_bin ok_sub hB (de_bin ok_add hB (de_ix (ru1 hr) hB (de_var 0) (de_int) (fun _ _ => rfl)) (de_callB ok_len hB (by rfl) (hd.free 50 (x := "len")) bt_len (da_cons (de_ix (ru1 hr) hB (de_var 0) (de_int) (fun _ _ => rfl)) (da_nil)))) (de_int)) (da_nil))))))) (rss_here (rs_raiseH hd 18 rfl takes_def)) (rss_no)))
def b__law_right_L1_1 : DenS := dIfS (dTest (dBin oNe (dCall m_parts_of (dCons (dVar 6) (dCons (dVar 7) (dCons (dVar 8) (dNil))))) (dCB oTuple (dCons (dLc (dSeq (dVar 10)) (dgName 20) (dYes) (dCall m__law_worth (dCons (dVar 2) (dCons (dVar 20) (dNil)))) [20]) (dNil))))) (dRet (dC (.bl false))) (dNext)
def b__law_right_L1 : DenS := dThen (dAsg (dIf (dTest (dBin oEq (dBin oIx (dVar 9) (dC (.int 0))) (dC (.str "most")))) (dBin oIx (dVar 9) (dC (.int 1))) (dSl (dVar 9) (dPart (dC (.int 1))) (dNoP))) (dgName 10))
  (b__law_right_L1_1)
def b__law_right_L3 : DenS := dAsg (dCall m__law_plus (dCons (dVar 13) (dCons (dVar 19) (dNil)))) (dgName 13)
def b__law_right_L2_3 : DenS := dIfS (dOr (dTest (dBin oNe (dCall m_out_parts (dCons (dVar 6) (dCons (dVar 7) (dCons (dVar 11) (dNil))))) (dVar 12))) (dTest (dBin oNe (dVar 13) (dBin oIx (dVar 3) (dVar 11))))) (dRet (dC (.bl false))) (dNext)
def b__law_right_L2_2 : DenS := dThen (dFor (dSeq (dCall m_out_parts (dCons (dVar 6) (dCons (dVar 7) (dCons (dVar 11) (dNil)))))) (dgTup 2 (dgCons (dgName 18) (dgCons (dgName 19) (dgNil)))) (b__law_right_L3))
  (b__law_right_L2_3)
def b__law_right_L2 : DenS := dThen (dAsg (dBin oAdd (dTup (dCons (dTup (dCons (dNeg (dC (.int 1))) (dCons (dVar 17) (dNil)))) (dNil))) (dCB oTuple (dCons (dLc (dSeq (dVar 16)) (dgTup 2 (dgCons (dgName 18) (dgCons (dgName 19) (dgNil)))) (dYes) (dTup (dCons (dVar 18) (dCons (dCall m__law_times (dCons (dVar 19) (dCons (dBin oIx (dVar 2) (dVar 18)) (dNil)))) (dNil)))) [18, 19]) (dNil)))) (dgName 12))
  (dThen (dAsg (dC (.tup [(.int 0), (.int 1)])) (dgName 13))
  (b__law_right_L2_2))
def b__law_right_11 : DenS := dThen (dAsg (dLst (dCons (dC .non) (dCons (dCB oList (dCons (dVar 14) (dNil))) (dCons (dSl (dVar 14) (dNoP) (dPart (dNeg (dC (.int 1))))) (dCons (dVar 4) (dCons (dBin oAdd (dVar 14) (dSl (dVar 14) (dNoP) (dPart (dC (.int 1))))) (dCons (dBin oAdd (dBin oAdd (dSl (dVar 14) (dNoP) (dPart (dVar 15))) (dC (.tup [.non]))) (dSl (dVar 14) (dPart (dBin oAdd (dVar 15) (dC (.int 1)))) (dNoP))) (dCons (dC (.int 0)) (dCons (dDct0) (dNil)))))))))) (dgName 5))
  (dRet (dAndV (dBin oIs (dCall m_is_values (dCons (dVar 6) (dCons (dVar 7) (dCons (dVar 14) (dNil))))) (dC (.bl true))) (dBin oIs (dCall m_is_values (dCons (dVar 6) (dCons (dVar 7) (dCons (dCallIO m__law_some (dCons (dVar 0) (dCons (dVar 5) (dNil)))) (dNil))))) (dC (.bl false)))))
def b__law_right_10 : DenS := dThen (dIfS (dOr (dTest (dBin oIsNot (dCall m_first_wrong (dCons (dVar 6) (dCons (dVar 7) (dCons (dVar 14) (dNil))))) (dC .non))) (dTest (dBin oNe (dCall m_first_wrong (dCons (dVar 6) (dCons (dVar 7) (dCons (dVar 4) (dNil))))) (dVar 15)))) (dRet (dC (.bl false))) (dNext))
  (b__law_right_11)
def b__law_right_9 : DenS := dThen (dAsg (dBin oAdd (dBin oAdd (dSl (dVar 14) (dNoP) (dPart (dVar 15))) (dTup (dCons (dCall m__law_plus (dCons (dBin oIx (dVar 14) (dVar 15)) (dCons (dC (.tup [(.int 1), (.int 3)])) (dNil)))) (dNil)))) (dSl (dVar 14) (dPart (dBin oAdd (dVar 15) (dC (.int 1)))) (dNoP))) (dgName 4))
  (b__law_right_10)
def b__law_right_8 : DenS := dThen (dParN [14, 15] (dConsO (dCB oTuple (dCons (dSl (dVar 2) (dPart (dVar 1)) (dNoP)) (dNil))) (dConsO (dCallIO m__law_draw (dCons (dVar 0) (dCons (dCB oLen (dCons (dBin oIx (dVar 6) (dC (.int 1))) (dNil))) (dNil)))) (dNil))))
  (b__law_right_9)
def b__law_right_7 : DenS := dThen (dFor (dEnum (dCons (dBin oIx (dVar 6) (dC (.int 2))) (dNil))) (dgTup 2 (dgCons (dgName 11) (dgCons (dgTup 2 (dgCons (dgName 16) (dgCons (dgName 17) (dgNil)))) (dgNil)))) (b__law_right_L2))
  (b__law_right_8)
def b__law_right_6 : DenS := dThen (dFor (dEnum (dCons (dBin oIx (dVar 6) (dC (.int 1))) (dNil))) (dgTup 2 (dgCons (dgName 8) (dgCons (dgName 9) (dgNil)))) (b__law_right_L1))
  (b__law_right_7)
def b__law_right_5 : DenS := dThen (dIfS (dTest (dBin oNe (dCB oTuple (dCons (dLc ((fun S Q => dRng (fun S Q => (dCons (dCB oLen (dCons (dVar 2) (dNil))) (dNil)) S fun xs S1 => xs.length = 1 ∧ Q xs S1) S Q)) (dgName 18) (dYes) (dCall m_value_of (dCons (dVar 6) (dCons (dVar 7) (dCons (dVar 18) (dNil))))) [18]) (dNil))) (dCB oTuple (dCons (dVar 2) (dNil))))) (dRet (dC (.bl false))) (dNext))
  (b__law_right_6)
def b__law_right_4 : DenS := dThen (dIfS (dOr (dTest (dBin oNe (dCall m_values (dCons (dVar 6) (dCons (dVar 7) (dNil)))) (dCB oTuple (dCons (dSl (dVar 2) (dPart (dVar 1)) (dNoP)) (dNil))))) (dOr (dTest (dBin oNe (dCall m_run (dCons (dVar 6) (dCons (dVar 7) (dNil)))) (dVar 3))) (dTest (dBin oIsNot (dCall m_is_point (dCons (dVar 6) (dCons (dVar 7) (dNil)))) (dC (.bl true)))))) (dRet (dC (.bl false))) (dNext))
  (b__law_right_5)
def b__law_right_3 : DenS := dThen (dAsg (dCB oTuple (dCons (dLc (dSeq (dBin oIx (dVar 6) (dC (.int 2)))) (dgName 20) (dYes) (dCall m__law_worth (dCons (dVar 2) (dCons (dVar 20) (dNil)))) [20]) (dNil))) (dgName 3))
  (b__law_right_4)
def b__law_right_2 : DenS := dThen (dAsg (dCall m__law_values (dCons (dVar 6) (dCons (dVar 7) (dNil)))) (dgName 2))
  (b__law_right_3)
def b__law_right : DenS := dThen (dAsg (dBin oAdd (dC (.int 1)) (dCallIO m__law_draw (dCons (dVar 0) (dCons (dC (.int 4)) (dNil))))) (dgName 1))
  (dThen (dParN [6, 7] (dConsO (dCallIO m__law_net (dCons (dVar 0) (dCons (dVar 1) (dCons (dC (.int 8)) (dNil))))) (dConsO (dCallIO m__law_point (dCons (dVar 0) (dCons (dVar 1) (dNil)))) (dNil))))
  (b__law_right_2))
def m__law_right : IDen := mkIO 1 21 b__law_right
theorem sc__law_right : FnScope ["hand", "m", "own", "outs", "other", "odd", "net", "point", "c", "cell", "sums", "k", "due", "total", "told", "at", "pairs", "constant", "source", "x", "one"] ["hand"] (defScope s__law_right) := ⟨rfl, rfl, rfl, by decide +kernel, rfl, by decide +kernel, by decide +kernel⟩
theorem f__law_right (hd : Hd fa fn cs K mg) : Fn1 P w K mg base 10 "_law_right" ["hand"] (spIO K m__law_right) :=
  fn1_io hd 46 46 1 rfl rfl rfl rfl rfl sc__law_right (fun _ _ _ _ _ _ us hl => match us, hl with | [_], _ => rfl) rfl rfl fun f cdv A outer s H E hr B hB =>
    dss_cons (ds_set 1 sc__law_right.nd (de_bin ok_add hB (de_int) (de_fnIO (f__law_draw hd) (hr.mono (by decide)) hB (da_cons (de_var 0) (da_cons (de_int) (da_nil))))))
    (dss_cons (ds_parT hB (by rfl) (pgs_cons (pg_name (i := 6) sc__law_right.nd rfl (by first | exact Or.inl rfl | exact Or.inr rfl)) (pgs_cons (pg_name (i := 7) sc__law_right.nd rfl (by first | exact Or.inl rfl | exact Or.inr rfl)) (pgs_nil))) (da_consO (de_fnIO (f__law_net hd) (hr.mono (by decide)) hB (da_cons (de_var 0) (da_cons (de_var 1) (da_cons (de_int) (da_nil))))) (da_consO (de_fnIO (f__law_point hd) (hr.mono (by decide)) hB (da_cons (de_var 0) (da_cons (de_var 1) (da_nil)))) (da_nilO))) (n := 2) (by rfl) (by decide))
    (dss_cons (ds_set 2 sc__law_right.nd (de_fn (f__law_values hd) (hr.mono (by decide)) hB (da_cons (de_var 6) (da_cons (de_var 7) (da_nil)))))
    (dss_cons (ds_set 3 sc__law_right.nd (de_callTy ok_tuple hB (by rfl) (hd.free 52 (x := "tuple")) bt_tuple (da_cons (de_lc [("one", 20)] (by rfl) sc__law_right.nd (di_seq hB (de_ix (ru1 hr) hB (de_var 6) (de_int) (fun _ _ => rfl))) (blkOk_by (by rfl)) (by decide) (fun _ _ _ _ _ => dg_name 20 sc__law_right.nd) (fun _ _ _ _ _ => dts_nil) (fun _ _ _ _ _ => de_fn (f__law_worth hd) (hr.mono (by decide)) hB (da_cons (de_var 2) (da_cons (de_var 20) (da_nil))))) (da_nil))))
    (dss_cons (ds_if ((dw_or (dt_cmp (ok_ne (ru64 hr)) hB (de_fn (f_values hd) (hr.mono (by decide)) hB (da_cons (de_var 6) (da_cons (de_var 7) (da_nil)))) (de_callTy ok_tuple hB (by rfl) (hd.free 52 (x := "tuple")) bt_tuple (da_cons (de_slice hB (de_var 2) (do_some (de_var 1)) (do_none)) (da_nil))) (nomark _)) (dw_or (dt_cmp (ok_ne (ru64 hr)) hB (de_fn (f_run hd) (hr.mono (by decide)) hB (da_cons (de_var 6) (da_cons (de_var 7) (da_nil)))) (de_var 3) (nomark _)) (dw_or1 (dt_cmp ok_isNot hB (de_fn (f_is_point hd) (hr.mono (by decide)) hB (da_cons (de_var 6) (da_cons (de_var 7) (da_nil)))) (de_bl) (nomark _))))).pt) (dss_one (ds_ret (de_bl))) (dss_nil))
    (dss_cons (ds_if (dt_cmp (ok_ne (ru64 hr)) hB (de_callTy ok_tuple hB (by rfl) (hd.free 52 (x := "tuple")) bt_tuple (da_cons (de_lc [("source", 18)] (by rfl) sc__law_right.nd (di_range1 (by rfl) (hd.free 51 (x := "range")) (da_cons (de_callB ok_len hB (by rfl) (hd.free 50 (x := "len")) bt_len (da_cons (de_var 2) (da_nil))) (da_nil))) (blkOk_by (by rfl)) (by decide) (fun _ _ _ _ _ => dg_name 18 sc__law_right.nd) (fun _ _ _ _ _ => dts_nil) (fun _ _ _ _ _ => de_fn (f_value_of hd) (hr.mono (by decide)) hB (da_cons (de_var 6) (da_cons (de_var 7) (da_cons (de_var 18) (da_nil)))))) (da_nil))) (de_callTy ok_tuple hB (by rfl) (hd.free 52 (x := "tuple")) bt_tuple (da_cons (de_var 2) (da_nil))) (nomark _)) (dss_one (ds_ret (de_bl))) (dss_nil))
    (dss_cons (ds_for PassesOwn.never (by rfl) (di_enum hB (by rfl) (hd.free 59 (x := "enumerate")) (da_cons (de_ix (ru1 hr) hB (de_var 6) (de_int) (fun _ _ => rfl)) (da_nil))) (dg_tup hB (by rfl) (dgs_cons (dg_name 8 sc__law_right.nd) (dgs_cons (dg_name 9 sc__law_right.nd) (dgs_nil)))) (dss_cons (ds_set 10 sc__law_right.nd (de_ifExp (dt_cmp (ok_eq (ru64 hr)) hB (de_ix (ru1 hr) hB (de_var 9) (de_int) (fun _ _ => rfl)) (de_str) (nomark _)) (de_ix (ru1 hr) hB (de_var 9) (de_int) (fun _ _ => rfl)) (de_slice hB (de_var 9) (do_some (de_int)) (do_none))))
    (dss_one (ds_if (dt_cmp (ok_ne (ru64 hr)) hB (de_fn (f_parts_of hd) (hr.mono (by decide)) hB (da_cons (de_var 6) (da_cons (de_var 7) (da_cons (de_var 8) (da_nil))))) (de_callTy ok_tuple hB (by rfl) (hd.free 52 (x := "tuple")) bt_tuple (da_cons (de_lc [("one", 20)] (by rfl) sc__law_right.nd (di_seq hB (de_var 10)) (blkOk_by (by rfl)) (by decide) (fun _ _ _ _ _ => dg_name 20 sc__law_right.nd) (fun _ _ _ _ _ => dts_nil) (fun _ _ _ _ _ => de_fn (f__law_worth hd) (hr.mono (by decide)) hB (da_cons (de_var 2) (da_cons (de_var 20) (da_nil))))) (da_nil))) (nomark _)) (dss_one (ds_ret (de_bl))) (dss_nil)))))
    (dss_cons (ds_for PassesOwn.never (by rfl) (di_enum hB (by rfl) (hd.free 59 (x := "enumerate")) (da_cons (de_ix (ru1 hr) hB (de_var 6) (de_int) (fun _ _ => rfl)) (da_nil))) (dg_tup hB (by rfl) (dgs_cons (dg_name 11 sc__law_right.nd) (dgs_cons (dg_tup hB (by rfl) (dgs_cons (dg_name 16 sc__law_right.nd) (dgs_cons (dg_name 17 sc__law_right.nd) (dgs_nil)))) (dgs_nil)))) (dss_cons (ds_set 12 sc__law_right.nd (de_bin ok_add hB (de_tup (da_cons (de_tup (da_cons (de_neg (de_int)) (da_cons (de_var 17) (da_nil)))) (da_nil))) (de_callTy ok_tuple hB (by rfl) (hd.free 52 (x := "tuple")) bt_tuple (da_cons (de_lc [("source", 18), ("x", 19)] (by rfl) sc__law_right.nd (di_seq hB (de_var 16)) (blkOk_by (by rfl)) (by decide) (fun _ _ _ _ _ => dg_tup hB (by rfl) (dgs_cons (dg_name 18 sc__law_right.nd) (dgs_cons (dg_name 19 sc__law_right.nd) (dgs_nil)))) (fun _ _ _ _ _ => dts_nil) (fun _ _ _ _ _ => de_tup (da_cons (de_var 18) (da_cons (de_fn (f__law_times hd) (hr.mono (by decide)) hB (da_cons (de_var 19) (da_cons (de_ix (ru1 hr) hB (de_var 2) (de_var 18) (fun _ _ => rfl)) (da_nil)))) (da_nil))))) (da_nil)))))
    (dss_cons (ds_set 13 sc__law_right.nd (de_cst (isC_tup (isA_cons isC_c (isA_cons isC_c isA_nil)) (by decide)) (de_tup (da_cons (de_int) (da_cons (de_int) (da_nil))))))
    (dss_cons (ds_for PassesOwn.never (by rfl) (di_seq hB (de_fn (f_out_parts hd) (hr.mono (by decide)) hB (da_cons (de_var 6) (da_cons (de_var 7) (da_cons (de_var 11) (da_nil)))))) (dg_tup hB (by rfl) (dgs_cons (dg_name 18 sc__law_right.nd) (dgs_cons (dg_name 19 sc__law_right.nd) (dgs_nil)))) (dss_one (ds_set 13 sc__law_right.nd (de_fn (f__law_plus hd) (hr.mono (by decide)) hB (da_cons (de_var 13) (da_cons (de_var 19) (da_nil)))))))
    (dss_one (ds_if ((dw_or (dt_cmp (ok_ne (ru64 hr)) hB (de_fn (f_out_parts hd) (hr.mono (by decide)) hB (da_cons (de_var 6) (da_cons (de_var 7) (da_cons (de_var 11) (da_nil))))) (de_var 12) (nomark _)) (dw_or1 (dt_cmp (ok_ne (ru64 hr)) hB (de_var 13) (de_ix (ru1 hr) hB (de_var 3) (de_var 11) (fun _ _ => rfl)) (nomark _)))).pt) (dss_one (ds_ret (de_bl))) (dss_nil)))))))
    (dss_cons (ds_parN2 14 15 sc__law_right.nd (da_consO (de_callTy ok_tuple hB (by rfl) (hd.free 52 (x := "tuple")) bt_tuple (da_cons (de_slice hB (de_var 2) (do_some (de_var 1)) (do_none)) (da_nil))) (da_consO (de_fnIO (f__law_draw hd) (hr.mono (by decide)) hB (da_cons (de_var 0) (da_cons (de_callB ok_len hB (by rfl) (hd.free 50 (x := "len")) bt_len (da_cons (de_ix (ru1 hr) hB (de_var 6) (de_int) (fun _ _ => rfl)) (da_nil))) (da_nil)))) (da_nilO))))
    (dss_cons (ds_set 4 sc__law_right.nd (de_bin ok_add hB (de_bin ok_add hB (de_slice hB (de_var 14) (do_none) (do_some (de_var 15))) (de_tup (da_cons (de_fn (f__law_plus hd) (hr.mono (by decide)) hB (da_cons (de_ix (ru1 hr) hB (de_var 14) (de_var 15) (fun _ _ => rfl)) (da_cons (de_cst (isC_tup (isA_cons isC_c (isA_cons isC_c isA_nil)) (by decide)) (de_tup (da_cons (de_int) (da_cons (de_int) (da_nil))))) (da_nil)))) (da_nil)))) (de_slice hB (de_var 14) (do_some (de_bin ok_add hB (de_var 15) (de_int))) (do_none))))
    (dss_cons (ds_if ((dw_or (dt_cmp ok_isNot hB (de_fn (f_first_wrong hd) (hr.mono (by decide)) hB (da_cons (de_var 6) (da_cons (de_var 7) (da_cons (de_var 14) (da_nil))))) (de_non) (nomark _)) (dw_or1 (dt_cmp (ok_ne (ru64 hr)) hB (de_fn (f_first_wrong hd) (hr.mono (by decide)) hB (da_cons (de_var 6) (da_cons (de_var 7) (da_cons (de_var 4) (da_nil))))) (de_var 15) (nomark _)))).pt) (dss_one (ds_ret (de_bl))) (dss_nil))
    (dss_cons (ds_set 5 sc__law_right.nd (de_lst (da_cons (de_non) (da_cons (de_callTy ok_list hB (by rfl) (hd.free 60 (x := "list")) bt_list (da_cons (de_var 14) (da_nil))) (da_cons (de_slice hB (de_var 14) (do_none) (do_some (de_neg (de_int)))) (da_cons (de_var 4) (da_cons (de_bin ok_add hB (de_var 14) (de_slice hB (de_var 14) (do_none) (do_some (de_int)))) (da_cons (de_bin ok_add hB (de_bin ok_add hB (de_slice hB (de_var 14) (do_none) (do_some (de_var 15))) (de_cst (isC_tup (isA_cons isC_c isA_nil) (by decide)) (de_tup (da_cons (de_non) (da_nil))))) (de_slice hB (de_var 14) (do_some (de_bin ok_add hB (de_var 15) (de_int))) (do_none))) (da_cons (de_int) (da_cons (de_dct0) (da_nil)))))))))))
    (dss_one (ds_ret (de_and (de_cmp ok_is hB (de_fn (f_is_values hd) (hr.mono (by decide)) hB (da_cons (de_var 6) (da_cons (de_var 7) (da_cons (de_var 14) (da_nil))))) (de_bl) (nomark _)) (de_one (de_cmp ok_is hB (de_fn (f_is_values hd) (hr.mono (by decide)) hB (da_cons (de_var 6) (da_cons (de_var 7) (da_cons (de_fnIO (f__law_some hd) (hr.mono (by decide)) hB (da_cons (de_var 0) (da_cons (de_var 5) (da_nil)))) (da_nil))))) (de_bl) (nomark _)))))))))))))))))
def b_law_12 : DenS := dRet (dAndV (dBin oEq (dVar 4) (dLst (dCons (dC (.str "net")) (dCons (dC (.str "point")) (dCons (dC (.str "source")) (dCons (dC (.str "trace")) (dCons (dC (.str "cell")) (dCons (dC (.str "point")) (dCons (dC (.str "out")) (dNil)))))))))) (dBin oIs (dCall m_is_point (dCons (dVar 5) (dCons (dVar 2) (dNil)))) (dC (.bl false))))
def b_law_11 : DenS := dThen (dDrop (dAppend (dVar 4) (w__law_word (dCall m_out_parts (dCons (dVar 5) (dCons (dVar 6) (dCons (dCallIO m__law_some (dCons (dVar 1) (dCons (dLst (dCons (dC .non) (dCons (dNeg (dC (.int 1))) (dCons (dC (.int 4)) (dCons (dC (.bl true)) (dNil)))))) (dNil)))) (dNil))))) (rLam r_out_parts (dCons (dVar 5) (dCons (dVar 6) (dCons (dCallIO m__law_some (dCons (dVar 1) (dCons (dLst (dCons (dC .non) (dCons (dNeg (dC (.int 1))) (dCons (dC (.int 4)) (dCons (dC (.bl true)) (dNil)))))) (dNil)))) (dNil))))))))
  (b_law_12)
def b_law_10 : DenS := dThen (dDrop (dAppend (dVar 4) (w__law_word (dCall m_out_parts (dCons (dVar 5) (dCons (dVar 2) (dCons (dC .non) (dNil))))) (rLam r_out_parts (dCons (dVar 5) (dCons (dVar 2) (dCons (dC .non) (dNil))))))))
  (b_law_11)
def b_law_9 : DenS := dThen (dDrop (dAppend (dVar 4) (w__law_word (dCall m_parts_of (dCons (dVar 5) (dCons (dVar 6) (dCons (dCallIO m__law_some (dCons (dVar 1) (dCons (dLst (dCons (dC .non) (dCons (dNeg (dC (.int 1))) (dCons (dCB oLen (dCons (dBin oIx (dVar 5) (dC (.int 1))) (dNil))) (dCons (dC (.bl true)) (dNil)))))) (dNil)))) (dNil))))) (rLam r_parts_of (dCons (dVar 5) (dCons (dVar 6) (dCons (dCallIO m__law_some (dCons (dVar 1) (dCons (dLst (dCons (dC .non) (dCons (dNeg (dC (.int 1))) (dCons (dCB oLen (dCons (dBin oIx (dVar 5) (dC (.int 1))) (dNil))) (dCons (dC (.bl true)) (dNil)))))) (dNil)))) (dNil))))))))
  (b_law_10)
def b_law_8 : DenS := dThen (dDrop (dAppend (dVar 4) (w__law_word (dCall m_first_wrong (dCons (dVar 5) (dCons (dVar 6) (dCons (dCallIO m__law_some (dCons (dVar 1) (dCons (dLst (dCons (dC .non) (dCons (dTup (dNil)) (dCons (dLst (dNil)) (dCons (dBin oMulT (dC (.tup [(.tup [(.int 1), (.int 1)])])) (dC (.int 9))) (dNil)))))) (dNil)))) (dNil))))) (rLam r_first_wrong (dCons (dVar 5) (dCons (dVar 6) (dCons (dCallIO m__law_some (dCons (dVar 1) (dCons (dLst (dCons (dC .non) (dCons (dTup (dNil)) (dCons (dLst (dNil)) (dCons (dBin oMulT (dC (.tup [(.tup [(.int 1), (.int 1)])])) (dC (.int 9))) (dNil)))))) (dNil)))) (dNil))))))))
  (b_law_9)
def b_law_7 : DenS := dThen (dDrop (dAppend (dVar 4) (w__law_word (dCall m_value_of (dCons (dVar 5) (dCons (dVar 6) (dCons (dCallIO m__law_some (dCons (dVar 1) (dCons (dLst (dCons (dC .non) (dCons (dNeg (dC (.int 1))) (dCons (dBin oAdd (dC (.int 2)) (dCB oLen (dCons (dBin oIx (dVar 5) (dC (.int 1))) (dNil)))) (dCons (dC (.bl true)) (dNil)))))) (dNil)))) (dNil))))) (rLam r_value_of (dCons (dVar 5) (dCons (dVar 6) (dCons (dCallIO m__law_some (dCons (dVar 1) (dCons (dLst (dCons (dC .non) (dCons (dNeg (dC (.int 1))) (dCons (dBin oAdd (dC (.int 2)) (dCB oLen (dCons (dBin oIx (dVar 5) (dC (.int 1))) (dNil)))) (dCons (dC (.bl true)) (dNil)))))) (dNil)))) (dNil))))))))
  (b_law_8)
def b_law_6 : DenS := dThen (dDrop (dAppend (dVar 4) (w__law_word (dCall m_values (dCons (dVar 5) (dCons (dVar 2) (dNil)))) (rLam r_values (dCons (dVar 5) (dCons (dVar 2) (dNil)))))))
  (b_law_7)
def b_law_5 : DenS := dThen (dAsg (dLst (dCons (w__law_word (dCall m_run (dCons (dVar 3) (dCons (dVar 2) (dNil)))) (rLam r_run (dCons (dVar 3) (dCons (dVar 2) (dNil))))) (dNil))) (dgName 4))
  (b_law_6)
def b_law_3 : DenS := dThen (dAsg (dCallIO m__law_some (dCons (dVar 1) (dCons (dLst (dCons (dC .non) (dCons (dTup (dNil)) (dCons (dSl (dVar 6) (dNoP) (dPart (dC (.int 1)))) (dCons (dCB oList (dCons (dVar 6) (dNil))) (dCons (dBin oAdd (dVar 6) (dVar 6)) (dCons (dC (.tup [(.int 0), (.int 1)])) (dCons (dC (.tup [(.tup [(.int 2), (.int 4)]), (.tup [(.int 0), (.int 1)])])) (dCons (dC (.int 0)) (dNil)))))))))) (dNil)))) (dgName 2))
  (dThen (dAsg (dCallIO m__law_some (dCons (dVar 1) (dCons (dLst (dCons (dC .non) (dCons (dTup (dNil)) (dCons (dSl (dVar 5) (dNoP) (dPart (dC (.int 2)))) (dCons (dCB oList (dCons (dVar 5) (dNil))) (dCons (dTup (dCons (dC (.int 5)) (dCons (dBin oIx (dVar 5) (dC (.int 1))) (dCons (dBin oIx (dVar 5) (dC (.int 2))) (dNil))))) (dCons (dTup (dCons (dC (.int 2)) (dCons (dBin oIx (dVar 5) (dC (.int 1))) (dCons (dTup (dNil)) (dNil))))) (dCons (dC (.str "net")) (dNil))))))))) (dNil)))) (dgName 3))
  (b_law_5))
def b_law_2 : DenS := dThen (dParN [5, 6] (dConsO (dCallIO m__law_net (dCons (dVar 1) (dCons (dC (.int 2)) (dCons (dC (.int 3)) (dNil))))) (dConsO (dCallIO m__law_point (dCons (dVar 1) (dCons (dC (.int 2)) (dNil)))) (dNil))))
  (b_law_3)
def b_law : DenS := dThen (dAsg (dCall m__law_hand (dCons (dVar 0) (dNil))) (dgName 1))
  (dThen (dIfS (dNot (dTest (dCB oAll (dCons (dLc ((fun S Q => dRng (fun S Q => (dCons (dC (.int 4)) (dNil)) S fun xs S1 => xs.length = 1 ∧ Q xs S1) S Q)) (dgName 7) (dYes) (dCallIO m__law_right (dCons (dVar 1) (dNil))) [7]) (dNil))))) (dRet (dC (.bl false))) (dNext))
  (b_law_2))
def m_law : FDen := mkF 1 8 b_law
theorem sc_law : FnScope ["script", "hand", "off", "bad", "said", "net", "point", "turn"] ["script"] (defScope s_law) := ⟨rfl, rfl, rfl, by decide +kernel, rfl, by decide +kernel, by decide +kernel⟩
theorem p_law (hd : Hd fa fn cs K mg) {base : Heap} (f : Addr) (cdv : Value) (A : Around) (outer : List Env) (s : Shared) (H : Hp) (E : XK) (hr : Room 11 (A.deeper (envOfC d_law.qual d_law.scope s.heap.objs.size f cdv))) (B : Bs) (cc T : Addr) (m : Mkr (cxOf CX0 P w K mg base ["script", "hand", "off", "bad", "said", "net", "point", "turn"] d_law.qual d_law.scope f cdv A outer s H E).nox B cc T) :
    PSs (cxOf CX0 P w K mg base ["script", "hand", "off", "bad", "said", "net", "point", "turn"] d_law.qual d_law.scope f cdv A outer s H E).nox d_law.body (tS B b_law) :=
    have hB := m.K
    dss_cons (ds_set 1 sc_law.nd (de_fn (f__law_hand hd) (hr.mono (by decide)) hB (da_cons (de_var 0) (da_nil))))
    (dss_cons (ds_if (dt_not (dt_val (de_callB (ok_all rfl) hB (by rfl) (hd.free 56 (x := "all")) bt_all (da_cons (de_lc [("turn", 7)] (by rfl) sc_law.nd (di_range1 (by rfl) (hd.free 51 (x := "range")) (da_cons (de_int) (da_nil))) (blkOk_by (by rfl)) (by decide) (fun _ _ _ _ _ => dg_name 7 sc_law.nd) (fun _ _ _ _ _ => dts_nil) (fun _ _ _ _ _ => de_fnIO (f__law_right hd) (hr.mono (by decide)) hB (da_cons (de_var 1) (da_nil)))) (da_nil))))) (dss_one (ds_ret (de_bl))) (dss_nil))
    (dss_cons (ds_parT hB (by rfl) (pgs_cons (pg_name (i := 5) sc_law.nd rfl (by first | exact Or.inl rfl | exact Or.inr rfl)) (pgs_cons (pg_name (i := 6) sc_law.nd rfl (by first | exact Or.inl rfl | exact Or.inr rfl)) (pgs_nil))) (da_consO (de_fnIO (f__law_net hd) (hr.mono (by decide)) hB (da_cons (de_var 1) (da_cons (de_int) (da_cons (de_int) (da_nil))))) (da_consO (de_fnIO (f__law_point hd) (hr.mono (by decide)) hB (da_cons (de_var 1) (da_cons (de_int) (da_nil)))) (da_nilO))) (n := 2) (by rfl) (by decide))
    (dss_cons (ds_set 2 sc_law.nd (de_fnIO (f__law_some hd) (hr.mono (by decide)) hB (da_cons (de_var 1) (da_cons (de_lst (da_cons (de_non) (da_cons (de_tup (da_nil)) (da_cons (de_slice hB (de_var 6) (do_none) (do_some (de_int))) (da_cons (de_callTy ok_list hB (by rfl) (hd.free 60 (x := "list")) bt_list (da_cons (de_var 6) (da_nil))) (da_cons (de_bin ok_add hB (de_var 6) (de_var 6)) (da_cons (de_cst (isC_tup (isA_cons isC_c (isA_cons isC_c isA_nil)) (by decide)) (de_tup (da_cons (de_int) (da_cons (de_int) (da_nil))))) (da_cons (de_cst (isC_tup (isA_cons (isC_tup (isA_cons isC_c (isA_cons isC_c isA_nil)) (by decide)) (isA_cons (isC_tup (isA_cons isC_c (isA_cons isC_c isA_nil)) (by decide)) isA_nil)) (by decide)) (de_tup (da_cons (de_tup (da_cons (de_int) (da_cons (de_int) (da_nil)))) (da_cons (de_tup (da_cons (de_int) (da_cons (de_int) (da_nil)))) (da_nil))))) (da_cons (de_int) (da_nil)))))))))) (da_nil)))))
    (dss_cons (ds_set 3 sc_law.nd (de_fnIO (f__law_some hd) (hr.mono (by decide)) hB (da_cons (de_var 1) (da_cons (de_lst (da_cons (de_non) (da_cons (de_tup (da_nil)) (da_cons (de_slice hB (de_var 5) (do_none) (do_some (de_int))) (da_cons (de_callTy ok_list hB (by rfl) (hd.free 60 (x := "list")) bt_list (da_cons (de_var 5) (da_nil))) (da_cons (de_tup (da_cons (de_int) (da_cons (de_ix (ru1 hr) hB (de_var 5) (de_int) (fun _ _ => rfl)) (da_cons (de_ix (ru1 hr) hB (de_var 5) (de_int) (fun _ _ => rfl)) (da_nil))))) (da_cons (de_tup (da_cons (de_int) (da_cons (de_ix (ru1 hr) hB (de_var 5) (de_int) (fun _ _ => rfl)) (da_cons (de_tup (da_nil)) (da_nil))))) (da_cons (de_str) (da_nil))))))))) (da_nil)))))
    (dss_cons (ds_set 4 sc_law.nd (de_lst (da_cons (de_lam (k := 9) hd m 6 6 rfl rfl rfl rfl rfl rfl rfl sc__law_word (fun _ _ _ _ _ _ us hl => match us, hl with | [_], _ => rfl) rfl (Or.inl rfl) (fun g cdg => G__law_word (X := _) hd (hr.mono (by decide)) g cdg) r0__law_word (pl_ok hd) (hr.mono (by decide)) (LamX.lamS_by (by rfl)) rfl (fun _ _ _ _ _ => rfl) (fun A outer s H E f c hr => de_fn (f_run hd) (hr.mono (by decide)) hB (da_cons (de_var 3) (da_cons (de_var 2) (da_nil)))) (fun A outer s H E f c hr tk => rl_fn (g_run hd) (hr.mono (by decide)) hB tk (da_cons (de_var 3) (da_cons (de_var 2) (da_nil))))) (da_nil))))
    (dss_cons (ds_expr (de_append hB (de_var 4) (de_lam (k := 9) hd m 6 6 rfl rfl rfl rfl rfl rfl rfl sc__law_word (fun _ _ _ _ _ _ us hl => match us, hl with | [_], _ => rfl) rfl (Or.inl rfl) (fun g cdg => G__law_word (X := _) hd (hr.mono (by decide)) g cdg) r0__law_word (pl_ok hd) (hr.mono (by decide)) (LamX.lamS_by (by rfl)) rfl (fun _ _ _ _ _ => rfl) (fun A outer s H E f c hr => de_fn (f_values hd) (hr.mono (by decide)) hB (da_cons (de_var 5) (da_cons (de_var 2) (da_nil)))) (fun A outer s H E f c hr tk => rl_fn (g_values hd) (hr.mono (by decide)) hB tk (da_cons (de_var 5) (da_cons (de_var 2) (da_nil)))))))
    (dss_cons (ds_expr (de_append hB (de_var 4) (de_lam (k := 9) hd m 6 6 rfl rfl rfl rfl rfl rfl rfl sc__law_word (fun _ _ _ _ _ _ us hl => match us, hl with | [_], _ => rfl) rfl (Or.inl rfl) (fun g cdg => G__law_word (X := _) hd (hr.mono (by decide)) g cdg) r0__law_word (pl_ok hd) (hr.mono (by decide)) (LamX.lamS_by (by rfl)) rfl (fun _ _ _ _ _ => rfl) (fun A outer s H E f c hr => de_fn (f_value_of hd) (hr.mono (by decide)) hB (da_cons (de_var 5) (da_cons (de_var 6) (da_cons (de_fnIO (f__law_some hd) (hr.mono (by decide)) hB (da_cons (de_var 1) (da_cons (de_lst (da_cons (de_non) (da_cons (de_neg (de_int)) (da_cons (de_bin ok_add hB (de_int) (de_callB ok_len hB (by rfl) (hd.free 50 (x := "len")) bt_len (da_cons (de_ix (ru1 hr) hB (de_var 5) (de_int) (fun _ _ => rfl)) (da_nil)))) (da_cons (de_bl) (da_nil)))))) (da_nil)))) (da_nil))))) (fun A outer s H E f c hr tk => rl_fn (g_value_of hd) (hr.mono (by decide)) hB tk (da_cons (de_var 5) (da_cons (de_var 6) (da_cons (de_fnIO (f__law_some hd) (hr.mono (by decide)) hB (da_cons (de_var 1) (da_cons (de_lst (da_cons (de_non) (da_cons (de_neg (de_int)) (da_cons (de_bin ok_add hB (de_int) (de_callB ok_len hB (by rfl) (hd.free 50 (x := "len")) bt_len (da_cons (de_ix (ru1 hr) hB (de_var 5) (de_int) (fun _ _ => rfl)) (da_nil)))) (da_cons (de_bl) (da_nil)))))) (da_nil)))) (da_nil))))))))
    (dss_cons (ds_expr (de_append hB (de_var 4) (de_lam (k := 9) hd m 6 6 rfl rfl rfl rfl rfl rfl rfl sc__law_word (fun _ _ _ _ _ _ us hl => match us, hl with | [_], _ => rfl) rfl (Or.inl rfl) (fun g cdg => G__law_word (X := _) hd (hr.mono (by decide)) g cdg) r0__law_word (pl_ok hd) (hr.mono (by decide)) (LamX.lamS_by (by rfl)) rfl (fun _ _ _ _ _ => rfl) (fun A outer s H E f c hr => de_fn (f_first_wrong hd) (hr.mono (by decide)) hB (da_cons (de_var 5) (da_cons (de_var 6) (da_cons (de_fnIO (f__law_some hd) (hr.mono (by decide)) hB (da_cons (de_var 1) (da_cons (de_lst (da_cons (de_non) (da_cons (de_tup (da_nil)) (da_cons (de_lst (da_nil)) (da_cons (de_bin ok_mulT hB (de_cst (isC_tup (isA_cons (isC_tup (isA_cons isC_c (isA_cons isC_c isA_nil)) (by decide)) isA_nil) (by decide)) (de_tup (da_cons (de_tup (da_cons (de_int) (da_cons (de_int) (da_nil)))) (da_nil)))) (de_int)) (da_nil)))))) (da_nil)))) (da_nil))))) (fun A outer s H E f c hr tk => rl_fn (g_first_wrong hd) (hr.mono (by decide)) hB tk (da_cons (de_var 5) (da_cons (de_var 6) (da_cons (de_fnIO (f__law_some hd) (hr.mono (by decide)) hB (da_cons (de_var 1) (da_cons (de_lst (da_cons (de_non) (da_cons (de_tup (da_nil)) (da_cons (de_lst (da_nil)) (da_cons (de_bin ok_mulT hB (de_cst (isC_tup (isA_cons (isC_tup (isA_cons isC_c (isA_cons isC_c isA_nil)) (by decide)) isA_nil) (by decide)) (de_tup (da_cons (de_tup (da_cons (de_int) (da_cons (de_int) (da_nil)))) (da_nil)))) (de_int)) (da_nil)))))) (da_nil)))) (da_nil))))))))
    (dss_cons (ds_expr (de_append hB (de_var 4) (de_lam (k := 9) hd m 6 6 rfl rfl rfl rfl rfl rfl rfl sc__law_word (fun _ _ _ _ _ _ us hl => match us, hl with | [_], _ => rfl) rfl (Or.inl rfl) (fun g cdg => G__law_word (X := _) hd (hr.mono (by decide)) g cdg) r0__law_word (pl_ok hd) (hr.mono (by decide)) (LamX.lamS_by (by rfl)) rfl (fun _ _ _ _ _ => rfl) (fun A outer s H E f c hr => de_fn (f_parts_of hd) (hr.mono (by decide)) hB (da_cons (de_var 5) (da_cons (de_var 6) (da_cons (de_fnIO (f__law_some hd) (hr.mono (by decide)) hB (da_cons (de_var 1) (da_cons (de_lst (da_cons (de_non) (da_cons (de_neg (de_int)) (da_cons (de_callB ok_len hB (by rfl) (hd.free 50 (x := "len")) bt_len (da_cons (de_ix (ru1 hr) hB (de_var 5) (de_int) (fun _ _ => rfl)) (da_nil))) (da_cons (de_bl) (da_nil)))))) (da_nil)))) (da_nil))))) (fun A outer s H E f c hr tk => rl_fn (g_parts_of hd) (hr.mono (by decide)) hB tk (da_cons (de_var 5) (da_cons (de_var 6) (da_cons (de_fnIO (f__law_some hd) (hr.mono (by decide)) hB (da_cons (de_var 1) (da_cons (de_lst (da_cons (de_non) (da_cons (de_neg (de_int)) (da_cons (de_callB ok_len hB (by rfl) (hd.free 50 (x := "len")) bt_len (da_cons (de_ix (ru1 hr) hB (de_var 5) (de_int) (fun _ _ => rfl)) (da_nil))) (da_cons (de_bl) (da_nil)))))) (da_nil)))) (da_nil))))))))
    (dss_cons (ds_expr (de_append hB (de_var 4) (de_lam (k := 9) hd m 6 6 rfl rfl rfl rfl rfl rfl rfl sc__law_word (fun _ _ _ _ _ _ us hl => match us, hl with | [_], _ => rfl) rfl (Or.inl rfl) (fun g cdg => G__law_word (X := _) hd (hr.mono (by decide)) g cdg) r0__law_word (pl_ok hd) (hr.mono (by decide)) (LamX.lamS_by (by rfl)) rfl (fun _ _ _ _ _ => rfl) (fun A outer s H E f c hr => de_fn (f_out_parts hd) (hr.mono (by decide)) hB (da_cons (de_var 5) (da_cons (de_var 2) (da_cons (de_non) (da_nil))))) (fun A outer s H E f c hr tk => rl_fn (g_out_parts hd) (hr.mono (by decide)) hB tk (da_cons (de_var 5) (da_cons (de_var 2) (da_cons (de_non) (da_nil))))))))
    (dss_cons (ds_expr (de_append hB (de_var 4) (de_lam (k := 9) hd m 6 6 rfl rfl rfl rfl rfl rfl rfl sc__law_word (fun _ _ _ _ _ _ us hl => match us, hl with | [_], _ => rfl) rfl (Or.inl rfl) (fun g cdg => G__law_word (X := _) hd (hr.mono (by decide)) g cdg) r0__law_word (pl_ok hd) (hr.mono (by decide)) (LamX.lamS_by (by rfl)) rfl (fun _ _ _ _ _ => rfl) (fun A outer s H E f c hr => de_fn (f_out_parts hd) (hr.mono (by decide)) hB (da_cons (de_var 5) (da_cons (de_var 6) (da_cons (de_fnIO (f__law_some hd) (hr.mono (by decide)) hB (da_cons (de_var 1) (da_cons (de_lst (da_cons (de_non) (da_cons (de_neg (de_int)) (da_cons (de_int) (da_cons (de_bl) (da_nil)))))) (da_nil)))) (da_nil))))) (fun A outer s H E f c hr tk => rl_fn (g_out_parts hd) (hr.mono (by decide)) hB tk (da_cons (de_var 5) (da_cons (de_var 6) (da_cons (de_fnIO (f__law_some hd) (hr.mono (by decide)) hB (da_cons (de_var 1) (da_cons (de_lst (da_cons (de_non) (da_cons (de_neg (de_int)) (da_cons (de_int) (da_cons (de_bl) (da_nil)))))) (da_nil)))) (da_nil))))))))
    (dss_one (ds_ret (de_and (de_cmp (ok_eq (ru64 hr)) hB (de_var 4) (de_lst (da_cons (de_str) (da_cons (de_str) (da_cons (de_str) (da_cons (de_str) (da_cons (de_str) (da_cons (de_str) (da_cons (de_str) (da_nil))))))))) (nomark _)) (de_one (de_cmp ok_is hB (de_fn (f_is_point hd) (hr.mono (by decide)) hB (da_cons (de_var 5) (da_cons (de_var 2) (da_nil)))) (de_bl) (nomark _)))))))))))))))))
end
end My
namespace My
open PySem PySem.Spec PyProof.Rows L2 DL
variable {Q : Rv → Prop}
variable {Q : Rv → Prop}
def isI : D → Bool | .int _ => true | _ => false
theorem isI_int (i : Int) : isI (.int i) = true := rfl
theorem q_is_integer {d : D} (h : Q (.pu (.bl (isI d)))) : m_is_integer [d] Q := by
  unfold m_is_integer b_is_integer
  cases d <;> simp! [] <;> exact h
theorem q_is_tuple_of {d : D} {n : Int} (h : Q (.pu (.bl (match d with | .tup ds => decide ((ds.length : Int) = n) | _ => false)))) : m_is_tuple_of [d, .int n] Q := by
  unfold m_is_tuple_of b_is_tuple_of
  cases d <;> simp! [] <;> exact h
theorem q_common {n x y : Nat} (hn : n ≤ 9000) (hx : x < 2 ^ n) (hy : y < 2 ^ n) (h : Q (.pu (.int (Nat.gcd x y)))) : m_common [.int x, .int y] Q := by
  unfold m_common b_common
  simp! []
  refine while_by (fun m S => ∃ a b : Nat, S = [.pu (.int a), .pu (.int b)] ∧ a < 2 ^ n ∧ b < 2 ^ n ∧ Nat.gcd a b = Nat.gcd x y ∧ m = b) y ⟨x, y, rfl, hx, hy, rfl, rfl⟩ ?_
  rintro m S ⟨a, b, rfl, ha, hb, hg, rfl⟩
  simp! [Bool.not_eq_true', decide_eq_false_iff_not]
  split
  · rename_i h0
    have hb0 : (m : Int) ≠ 0 := h0
    have hm : 0 < m := by omega
    have e : (a : Int) - m * (a : Int).fdiv m = ((a % m : Nat) : Int) := by
      rw [Int.fdiv_eq_ediv_of_nonneg _ (by omega), ← Int.emod_def]; rfl
    have hd : (a : Int).fdiv m = ((a / m : Nat) : Int) := by rw [Int.fdiv_eq_ediv_of_nonneg _ (by omega)]; rfl
    have h1 : a / m < 2 ^ n := Nat.lt_of_le_of_lt (Nat.div_le_self _ _) ha
    have hb' : (m : Int).natAbs < 2 ^ n := hb
    have h1' : ((a : Int).fdiv m).natAbs < 2 ^ n := by rw [hd]; exact h1
    refine ⟨dok hb0 hb' hn, mok hb' h1', a % m, Nat.mod_lt _ hm, m, a % m, ?_, hb, Nat.lt_trans (Nat.mod_lt _ hm) hb, ?_, rfl⟩
    · rw [e]
    · rw [← hg, Nat.gcd_comm m, ← Nat.gcd_rec, Nat.gcd_comm]
  · rename_i h0
    have hb0 : (m : Int) = 0 := Decidable.byContradiction h0
    have : m = 0 := by omega
    subst this
    rw [Nat.gcd_zero_right] at hg
    rw [hg]; exact h
def isF : D → Bool
  | .tup [.int a, .int b] => decide (0 < b) && decide (Int.gcd a b = 1)
  | _ => false
theorem isF_len {ds : List D} (h : ds.length ≠ 2) : isF (.tup ds) = false := by
  match ds, h with
  | [], _ => rfl
  | [x], _ => cases x <;> rfl
  | [x, y], h => exact absurd rfl h
  | x :: y :: z :: r, _ => cases x <;> cases y <;> rfl
theorem q_is_fraction {n : Nat} (hn : n ≤ 9000) {d : D} (hs : ∀ a b : Int, d = .tup [.int a, .int b] → a.natAbs < 2 ^ n ∧ b.natAbs < 2 ^ n) (h : Q (.pu (.bl (isF d)))) : m_is_fraction [d] Q := by
  unfold m_is_fraction b_is_fraction
  simp! []
  refine q_is_tuple_of ?_
  simp! []
  have two : ∀ x y : D, d = .tup [x, y] → (∀ a b, ¬ (x = .int a ∧ y = .int b)) → isF d = false := by
    rintro x y rfl hno
    cases x <;> cases y <;> first | rfl | exact absurd ⟨rfl, rfl⟩ (hno _ _)
  cases d with
  | tup ds =>
    match ds, hs, h, two with
    | [x, y], hs, h, two =>
      simp! []
      refine q_is_integer ?_
      by_cases hx : ∃ a, x = .int a
      · obtain ⟨a, rfl⟩ := hx
        simp! [isI_int]
        refine q_is_integer ?_
        by_cases hy : ∃ b, y = .int b
        · obtain ⟨b, rfl⟩ := hy
          obtain ⟨h1, h2⟩ := hs a b rfl
          simp! [isI_int]
          by_cases hb : 0 < b
          · simp! [hb]
            obtain ⟨c, rfl⟩ : ∃ c : Nat, b = (c : Int) := ⟨b.natAbs, by omega⟩
            refine q_common hn h1 h2 ?_
            simp! []
            have e : isF (.tup [.int a, .int (c : Int)]) = decide (((Nat.gcd a.natAbs c : Nat) : Int) = 1) := by
              have e2 : Int.gcd a (c : Int) = Nat.gcd a.natAbs c := rfl
              unfold isF
              simp only [hb, decide_true, Bool.true_and, e2]
              by_cases q : Nat.gcd a.natAbs c = 1
              · rw [decide_eq_true q, decide_eq_true (by omega)]
              · rw [decide_eq_false q, decide_eq_false (by omega)]
            rw [e] at h; exact h
          · simp! [hb]
            have e : isF (.tup [.int a, .int b]) = false := by unfold isF; simp [hb]
            rw [e] at h; exact h
        · have e : isI y = false := by cases y <;> first | rfl | exact absurd ⟨_, rfl⟩ hy
          simp! [e]
          rw [two _ _ rfl (fun a b z => hy ⟨b, z.2⟩)] at h; exact h
      · have e : isI x = false := by cases x <;> first | rfl | exact absurd ⟨_, rfl⟩ hx
        simp! [e]
        rw [two _ _ rfl (fun a b z => hx ⟨a, z.1⟩)] at h; exact h
    | [], _, h, _ => simp! []; exact h
    | [_], _, h, _ => simp! []; rw [isF_len (by simp)] at h; exact h
    | x :: y :: z :: r, _, h, _ =>
      have e : ¬ (((x :: y :: z :: r).length : Int) = 2) := by simp only [List.length_cons]; omega
      simp only [e]
      simp! []; rw [isF_len (by simp only [List.length_cons]; omega)] at h; exact h
  | _ => simp! []; exact h
theorem isF_fq (q : Rat) : isF (fq q) = true := by
  unfold fq isF
  have h1 : (0 : Int) < q.den := by have := q.den_nz; omega
  have h2 : Int.gcd q.num q.den = 1 := q.reduced
  simp only [h1, h2, decide_true, Bool.and_true]
theorem q_is_fq {n : Nat} {q : Rat} (hs : Sz n q) (hn : n ≤ 9000 := by omega) (h : Q (.pu (.bl true))) : m_is_fraction [fq q] Q := by
  refine q_is_fraction hn (fun a b e => ?_) (by rw [isF_fq]; exact h)
  have e' : q.num = a ∧ (q.den : Int) = b := by unfold fq at e; simpa using e
  rw [← e'.1, ← e'.2]; exact ⟨hs.1, dn hs⟩
theorem q_made {n : Nat} {t b : Int} (hb : b ≠ 0) (h1 : t.natAbs < 2 ^ n) (h2 : b.natAbs < 2 ^ n) (hn : n ≤ 9000 := by omega) (h : Q (.pu (fq (Rat.divInt t b)))) : m_made [.int t, .int b] Q := by
  unfold m_made b_made
  simp! []
  refine q_common hn h1 h2 ?_
  have hg0 : 0 < Nat.gcd t.natAbs b.natAbs := Nat.gcd_pos_of_pos_right _ (by omega)
  have hg1 : Nat.gcd t.natAbs b.natAbs < 2 ^ n := Nat.lt_of_le_of_lt (Nat.gcd_le_right _ (by omega)) h2
  have dt : ((Nat.gcd t.natAbs b.natAbs : Nat) : Int) ∣ t := Int.gcd_dvd_left ..
  have db : ((Nat.gcd t.natAbs b.natAbs : Nat) : Int) ∣ b := Int.gcd_dvd_right ..
  have en : (Rat.divInt t b).num = b.sign * t / (Nat.gcd t.natAbs b.natAbs : Nat) := by
    rw [Rat.num_divInt, show b.gcd t = Nat.gcd t.natAbs b.natAbs from Nat.gcd_comm ..]
  have ed : ((Rat.divInt t b).den : Int) = b.natAbs / (Nat.gcd t.natAbs b.natAbs : Nat) := by
    rw [Rat.den_divInt, if_neg hb, show b.gcd t = Nat.gcd t.natAbs b.natAbs from Nat.gcd_comm ..]; rfl
  generalize Nat.gcd t.natAbs b.natAbs = g at *
  have hgi : (g : Int) ≠ 0 := by omega
  by_cases hp : 0 < b
  · simp! [hp]
    refine ⟨dok hgi hg1 hn, dok hgi hg1 hn, ?_⟩
    have e1 : t.fdiv g = (Rat.divInt t b).num := by
      rw [en, Int.sign_eq_one_of_pos hp, Int.one_mul, Int.fdiv_eq_ediv_of_nonneg _ (by omega)]
    have e2 : b.fdiv g = ((Rat.divInt t b).den : Int) := by
      rw [ed, Int.fdiv_eq_ediv_of_nonneg _ (by omega)]
      congr 1; omega
    rw [e1, e2]; exact h
  · simp! [hp]
    have hn0 : (0 : Int) - g ≠ 0 := by omega
    have hg1' : ((0 : Int) - g).natAbs < 2 ^ n := by rw [show ((0 : Int) - g).natAbs = g by omega]; exact hg1
    refine ⟨dok hn0 hg1' hn, dok hn0 hg1' hn, ?_⟩
    have hb' : b < 0 := by omega
    obtain ⟨t', rfl⟩ := dt
    obtain ⟨b', rfl⟩ := db
    have f : ∀ z : Int, ((g : Int) * z).fdiv (0 - g) = -z := by
      intro z
      rw [show (g : Int) * z = (0 - g) * (-z) by grind]
      exact Int.mul_fdiv_cancel_left _ hn0
    have e1 : ((g : Int) * t').fdiv (0 - g) = (Rat.divInt (g * t') (g * b')).num := by
      rw [en, Int.sign_eq_neg_one_of_neg hb', f]
      rw [show (-1 : Int) * (g * t') = g * (-t') by grind, Int.mul_ediv_cancel_left _ hgi]
    have e2 : ((g : Int) * b').fdiv (0 - g) = ((Rat.divInt (g * t') (g * b')).den : Int) := by
      rw [ed, f]
      have : ((((g : Int) * b').natAbs : Nat) : Int) = g * (-b') := by
        rw [show ((((g : Int) * b').natAbs : Nat) : Int) = -(g * b') by omega]; grind
      rw [this, Int.mul_ediv_cancel_left _ hgi]
    rw [e1, e2]; exact h
theorem mulf {m n : Nat} {x y : Int} (hx : x.natAbs < 2 ^ m) (hy : y.natAbs < 2 ^ n) (hm : m ≤ 9000 := by omega) (hn : n ≤ 9000 := by omega) : mulOk x y := mok hx hy (by omega)
section
variable {m n : Nat} {x y : Rat}
theorem q_raw_plus (hx : Sz m x) (hy : Sz n y) (hl : m + n + 1 ≤ 9000 := by omega) (h : Q (.pu (fq (x + y)))) : m_raw_plus [fq x, fq y] Q := by
  unfold m_raw_plus b_raw_plus
  simp! [fq]
  refine ⟨mulf hx.1 (dn hy), mulf hy.1 (dn hx), mulf (dn hx) (dn hy), ?_⟩
  refine q_made (n := m + n + 1) (mden x y) (abs_add_lt (abs_mul_lt hx.1 (dn hy)) (Nat.add_comm m n ▸ abs_mul_lt hy.1 (dn hx))) (lt_mono (abs_mul_lt (dn hx) (dn hy)) (by omega)) hl ?_
  rw [add_div]; exact h
theorem q_raw_times (hx : Sz m x) (hy : Sz n y) (hl : m + n ≤ 9000 := by omega) (h : Q (.pu (fq (x * y)))) : m_raw_times [fq x, fq y] Q := by
  unfold m_raw_times b_raw_times
  simp! [fq]
  refine ⟨mulf hx.1 hy.1, mulf (dn hx) (dn hy), ?_⟩
  refine q_made (n := m + n) (mden x y) (abs_mul_lt hx.1 hy.1) (abs_mul_lt (dn hx) (dn hy)) hl ?_
  rw [mul_div]; exact h
theorem q_raw_at_most (hx : Sz m x) (hy : Sz n y) (hl : m + n ≤ 9000 := by omega) (h : Q (.pu (.bl (decide (x ≤ y))))) : m_raw_at_most [fq x, fq y] Q := by
  unfold m_raw_at_most b_raw_at_most
  simp! [fq]
  refine ⟨mulf hx.1 (dn hy), mulf hy.1 (dn hx), ?_⟩
  rw [decide_eq_decide.mpr (Rat.le_iff x y)] at h; exact h
theorem q_raw_greater (hx : Sz m x) (hy : Sz n y) (hl : m + n ≤ 9000 := by omega) (h : Q (.pu (fq (if x ≤ y then y else x)))) : m_raw_greater [fq x, fq y] Q := by
  unfold m_raw_greater b_raw_greater
  simp! []
  refine q_raw_at_most hx hy hl ?_
  simp! []
  split <;> simp_all
theorem q_raw_cut (h : Q (.pu (fq (if 0 < x then x else 0)))) : m_raw_cut [fq x] Q := by
  unfold m_raw_cut b_raw_cut
  simp! [fq]
  have e : 0 < x.num ↔ 0 < x := by rw [Rat.lt_iff]; simp
  by_cases hx : 0 < x
  · rw [if_pos (e.mpr hx)]; rw [if_pos hx] at h; exact h
  · rw [if_neg (fun z => hx (e.mp z))]; rw [if_neg hx] at h; exact h
/-- sums from the left -/
def tot (a : Rat) (xs : List Rat) : Rat := xs.foldl (· + ·) a
/-- all sums on the way are of size n -/
def SzAll (n : Nat) : Rat → List Rat → Prop
  | a, [] => Sz n a
  | a, x :: xs => Sz n a ∧ Sz n x ∧ SzAll n (a + x) xs
theorem SzAll.hd {n : Nat} {a : Rat} : ∀ {xs : List Rat}, SzAll n a xs → Sz n a
  | [], h => h
  | _ :: _, h => h.1
theorem szAll_of {n : Nat} (hn : 0 < n) : ∀ (xs : List Rat) (a : Rat) (k : Nat), Sz (k * (n + 1) + 1) a → (∀ x ∈ xs, Sz n x) → SzAll ((k + xs.length) * (n + 1) + n + 1) a xs
  | [], a, k, h, _ => h.mono (by simp)
  | x :: xs, a, k, h, hx => by
    have h1 : Sz n x := hx x (by simp)
    have e : (k + (x :: xs).length) = (k + 1) + xs.length := by simp only [List.length_cons]; omega
    have h2 : k * (n + 1) ≤ (k + (x :: xs).length) * (n + 1) := Nat.mul_le_mul_right _ (by omega)
    refine ⟨h.mono (by omega), h1.mono (by omega), ?_⟩
    rw [e]
    refine szAll_of hn xs (a + x) (k + 1) ((sz_add h h1).mono ?_) fun z hz => hx z (by simp [hz])
    rw [Nat.succ_mul]; omega
end
theorem bls_true {α : Type} (f : α → D) : ∀ xs : List α, blsD (xs.map fun _ => D.bl true) = some (xs.map fun _ => true)
  | [] => rfl
  | x :: xs => by
    show (blsD (xs.map fun _ => D.bl true)).map (true :: ·) = _
    rw [bls_true f xs]; rfl
theorem q_are_values {n : Nat} {xs : List Rat} (hs : ∀ x ∈ xs, Sz n x) (hn : n ≤ 9000 := by omega) (hl : xs.length ≤ sizeLine) (h : Q (.pu (.bl true))) : m_are_values [.tup (xs.map fq)] Q := by
  unfold m_are_values b_are_values
  simp! [dLc, dSeq, List.length_map]
  refine ⟨hl, lc_map (fun _ => .bl true) ?_ ?_⟩
  · rw [List.map_map]
    have e : (List.map ((fun _ => D.bl true) ∘ fq) xs) = xs.map fun _ => D.bl true := rfl
    rw [e]
    have e2 : (xs.map fun _ => true).all id = true := by simp
    simp! [bls_true fq, unwipe, e2]
    exact h
  · intro d hd R hR
    obtain ⟨x, hx, rfl⟩ := List.mem_map.mp hd
    simp! [wipeS]
    refine q_is_fq (hs x hx) hn ?_
    simp! []
    exact hR
/-! the law's draws -/
/-- the law's hand, good for r draws more -/
def HS (M r : Nat) (hs : List D) : Prop := ∃ (cells : List Nat) (i big st cnt : Nat), hs = [.lst (cells.map fun c => .int (c : Nat)), .int i, .int big, .int st, .int cnt] ∧
  (∀ c ∈ cells, c < 2 ^ M) ∧ big < 2 ^ M ∧ st < 2 ^ 40 ∧ cnt + r ≤ 2 ^ 40
theorem HS.mono {M r r' : Nat} {hs : List D} (h : HS M r hs) (hr : r' ≤ r := by omega) : HS M r' hs := by
  obtain ⟨cells, i, big, st, cnt, e, h1, h2, h3, h4⟩ := h
  exact ⟨cells, i, big, st, cnt, e, h1, h2, h3, by omega⟩
section
variable {M r : Nat} {hs : List D} {QQ : Rv → List D → Prop}
theorem emod_nat {x : Int} {k : Nat} (hk : 0 < k) : ∃ d : Nat, x % (k : Int) = d ∧ d < k := by
  have h1 := Int.emod_nonneg x (b := (k : Int)) (by omega)
  have h2 := Int.emod_lt_of_pos x (b := (k : Int)) (by omega)
  exact ⟨(x % (k : Int)).toNat, by omega, by omega⟩
theorem emod_int {x k : Int} (hk : 0 < k) : ∃ d : Nat, x % k = d ∧ (d : Int) < k := by
  have h1 := Int.emod_nonneg x (b := k) (by omega)
  have h2 := Int.emod_lt_of_pos x (b := k) (by omega)
  exact ⟨(x % k).toNat, by omega, by omega⟩
theorem fdiv_nat (a b : Nat) : (a : Int).fdiv b = ((a / b : Nat) : Int) := by
  rw [Int.fdiv_eq_ediv_of_nonneg _ (by omega)]; rfl
theorem small_nat {a n : Nat} (h : a < 2 ^ n) : ((a : Nat) : Int).natAbs < 2 ^ n := by rw [Int.natAbs_natCast]; exact h
theorem draw_rest {E : DEnds} {many i big st cnt : Nat} {cells : List D} {a b c : Sl} (hM : M ≤ 2000000) (hm : 0 < many) (hmm : many < 2 ^ 40) (h2 : big < 2 ^ M) (h3 : st < 2 ^ 40) (h4 : cnt + (r + 1) ≤ 2 ^ 40)
    (k : ∀ d : Nat, d < many → ∀ (big' cnt' : Nat) (a b c : Sl), big' < 2 ^ M → cnt' + r ≤ 2 ^ 40 → E.rt (.pu (.int d)) [.io 0 [.lst cells, .int i, .int big', .int st, .int cnt'], .pu (.int many), a, b, c]) :
    b__law_draw_1 E [.io 0 [.lst cells, .int i, .int big, .int st, .int cnt], .pu (.int many), a, b, c] := by
  unfold b__law_draw_1
  simp! []
  have hm' : (0 : Int) < many := by omega
  by_cases hb : (0 : Int) < big
  · rw [if_pos hb]
    obtain ⟨d, e, hd⟩ := emod_nat (x := (big : Int)) hm
    refine ⟨hm', dok (n := 40) (by omega) (small_nat hmm), ?_⟩
    rw [e, fdiv_nat]
    exact k d hd _ _ _ _ _ (Nat.lt_of_le_of_lt (Nat.div_le_self _ _) h2) (by omega)
  · rw [if_neg hb]
    have f1 : ((cnt : Int) + 1).natAbs < 2 ^ 41 := by omega
    have f2 : ((st : Int) + 7919 * ((cnt : Int) + 1)).natAbs < 2 ^ 60 := by omega
    obtain ⟨n1, e1, g1⟩ := emod_int (x := ((st : Int) + 7919 * ((cnt : Int) + 1)) * 48271) (k := 2147483647) (by decide)
    rw [e1]
    have f4 : ((n1 : Int).fdiv 1009) = ((n1 / 1009 : Nat) : Int) := fdiv_nat n1 1009
    obtain ⟨n2, e2, g2⟩ := emod_int (x := (n1 : Int) * (((n1 / 1009 : Nat) : Int) + 69621)) (k := 2147483647) (by decide)
    rw [f4, e2]
    have f5 : ((n2 : Int).fdiv 2003) = ((n2 / 2003 : Nat) : Int) := fdiv_nat n2 2003
    obtain ⟨n3, e3, g3⟩ := emod_int (x := (n2 : Int) * (((n2 / 2003 : Nat) : Int) + 40692)) (k := 2147483399) (by decide)
    rw [f5, e3]
    have f6 : ((n3 : Int).fdiv 16) = ((n3 / 16 : Nat) : Int) := fdiv_nat n3 16
    rw [f6]
    obtain ⟨d, e, hd⟩ := emod_nat (x := ((n3 / 16 : Nat) : Int)) hm
    rw [e]
    have e0 : ((cnt : Int) + 1) = ((cnt + 1 : Nat) : Int) := rfl
    refine ⟨mok (m := 40) (n := 41) (by decide) f1, mok (m := 60) (n := 40) f2 (by decide), dok (n := 40) (by decide) (by decide), mok (m := 40) (n := 40) (by omega) (by omega), dok (n := 40) (by decide) (by decide), mok (m := 40) (n := 40) (by omega) (by omega), dok (n := 40) (by decide) (by decide), hm', ?_⟩
    rw [e0]
    exact k d hd _ _ _ _ _ h2 (by omega)
theorem q_draw {many : Nat} (hM : M ≤ 2000000) (h : HS M (r + 1) hs) (hm : 0 < many) (hmm : many < 2 ^ 40) (k : ∀ i : Nat, i < many → ∀ hs', HS M r hs' → QQ (.pu (.int i)) hs') : m__law_draw hs [.int many] QQ := by
  obtain ⟨cells, i, big, st, cnt, rfl, h1, h2, h3, h4⟩ := h
  refine io_by rfl fun E hn hr => ?_
  simp only [List.map_cons, List.map_nil, List.cons_append, List.nil_append, List.append_nil, Nat.reduceSub, List.reduceReplicate]
  unfold b__law_draw
  simp! []
  have fin : ∀ {i big st : Nat} {a b c : Sl}, big < 2 ^ M → st < 2 ^ 40 → b__law_draw_1 E
      [.io 0 [.lst (cells.map fun c => .int (c : Nat)), .int i, .int big, .int st, .int cnt], .pu (.int many), a, b, c] := by
    intro i big st a b c h2 h3
    refine draw_rest hM hm hmm h2 h3 h4 fun d hd big' cnt' a b c h5 h6 => hr _ _ _ (k d hd _ ⟨cells, i, big', st, cnt', rfl, h1, h5, h3, h6⟩)
  by_cases hb : (big : Int) = 0
  · simp only [hb, if_true]
    by_cases hi : (i : Int) < ((cells.map fun c => D.int (c : Nat)).length : Nat)
    · have hi' : i < cells.length := by simpa using hi
      have hc : atI (cells.map fun c => D.int (c : Nat)) (i : Int) = some (.int (cells[i] : Nat)) := by rw [atI_n]; simp [hi']
      have hcm : cells[i] < 2 ^ M := h1 _ (List.getElem_mem hi')
      simp only [hi, if_true]
      rw [ix_at hc]
      generalize cells[i] = c at *
      simp! []
      obtain ⟨n1, e1, g1⟩ := emod_int (x := (st : Int) * 69621 + (c : Int) * 40692 + 79) (k := 2147483629) (by decide)
      rw [e1]
      have e0 : ((i : Int) + 1) = ((i + 1 : Nat) : Int) := rfl
      have hb' : big = 0 := by omega
      subst hb'
      refine ⟨mok (m := 40) (n := 40) (by omega) (by decide), mok (m := M) (n := 40) (small_nat hcm) (by decide), by unfold CPow; decide, ?_⟩
      rw [e0]
      split
      · exact fin hcm (by omega)
      · exact fin h2 (by omega)
    · simp only [hi, if_false]
      have hb' : big = 0 := by omega
      subst hb'
      exact fin h2 h3
  · simp only [hb, if_false]
    exact fin h2 h3
theorem q_some {items : List D} (hM : M ≤ 2000000) (h : HS M (r + 1) hs) (h0 : 0 < items.length) (hl : items.length < 2 ^ 40) (k : ∀ d ∈ items, ∀ hs', HS M r hs' → QQ (.pu d) hs') : m__law_some hs [.lst items] QQ := by
  refine io_by rfl fun E hn hr => ?_
  simp only [List.map_cons, List.map_nil, List.cons_append, List.nil_append, List.append_nil, Nat.reduceSub, List.reduceReplicate]
  unfold b__law_some
  simp! []
  refine q_draw hM h h0 hl fun i hi hs' h' => ?_
  have e : atI items (i : Int) = some items[i] := by rw [atI_n]; simp [hi]
  simp! []
  rw [ix_at e]
  exact hr _ _ _ (k _ (List.getElem_mem hi) _ h')
end
/-! the law's draws, forward -/
def HR (r : Nat) (hs : List D) : Prop := HS 1048576 r hs
theorem HR.mono {r r' : Nat} {hs : List D} (h : HR r hs) (hr : r' ≤ r := by omega) : HR r' hs := HS.mono h hr
section
variable {r : Nat} {hs : List D} {QQ : Rv → List D → Prop}
theorem q_dr {many : Int} (h : HR r hs) (hr : 1 ≤ r := by omega) (hm : 0 < many := by omega) (hmm : many < 2 ^ 40 := by omega) (k : ∀ i : Nat, (i : Int) < many → ∀ hs', HR (r - 1) hs' → QQ (.pu (.int i)) hs') : m__law_draw hs [.int many] QQ := by
  obtain ⟨r, rfl⟩ : ∃ q, r = q + 1 := ⟨r - 1, by omega⟩
  obtain ⟨n, rfl⟩ : ∃ n : Nat, many = (n : Int) := ⟨many.toNat, by omega⟩
  exact q_draw (M := 1048576) (r := r) (by decide) h (by omega) (by omega) fun i hi hs' h' => k i (by omega) hs' h'
theorem q_sm {items : List D} (h : HR r hs) (hr : 1 ≤ r := by omega) (h0 : 0 < items.length) (hl : items.length < 2 ^ 40) (k : ∀ d ∈ items, ∀ hs', HR (r - 1) hs' → QQ (.pu d) hs') : m__law_some hs [.lst items] QQ := by
  obtain ⟨r, rfl⟩ : ∃ q, r = q + 1 := ⟨r - 1, by omega⟩
  exact q_some (M := 1048576) (r := r) (by decide) h h0 hl k
end
/-- a list comprehension that draws -/
theorem lc_gen {α : Type} {g : DenG} {e : Den} {vs : List Nat} {Q : List D → Sg → Prop} {r : Nat} {hs : List D} {items : List D} (enc : α → D) (P : α → Prop) (c : Nat) (St : List D → Sg) (h : HR r hs) (hr : c * items.length ≤ r)
    (fin : ∀ as : List α, as.length = items.length → (∀ a ∈ as, P a) → ∀ hs', HR (r - c * items.length) hs' → Q (as.map enc) (St hs'))
    (step : ∀ x ∈ items, ∀ hs1 r1, HR r1 hs1 → c ≤ r1 → ∀ R : D → Sg → Prop, (∀ a, P a → ∀ hs2, HR (r1 - c) hs2 → R (enc a) (St hs2)) → g (.pu x) (St hs1) fun S1 => e S1 fun rv S3 => (match frc S3 rv with
      | some (d, S4) => R d (wipeS S4 vs)
      | none => False)) : dLc.go g dYes e vs items [] (St hs) Q := by
  have key : ∀ (rest done : List D) (as : List α) (hs1 : List D) (r1 : Nat), items = done ++ rest → as.length = done.length → (∀ a ∈ as, P a) → HR r1 hs1 → r1 = r - c * done.length → dLc.go g dYes e vs rest (as.map enc) (St hs1) Q := by
    intro rest
    induction rest with
    | nil =>
      intro done as hs1 r1 e1 e2 hp h1 er
      rw [List.append_nil] at e1; subst e1
      exact fin as e2 hp hs1 (er ▸ h1)
    | cons x xs ih =>
      intro done as hs1 r1 e1 e2 hp h1 er
      have hx : x ∈ items := by rw [e1]; simp
      have hl : items.length = done.length + (xs.length + 1) := by rw [e1]; simp
      have hmul : c * items.length = c * done.length + (c * xs.length + c) := by rw [hl, Nat.mul_add, Nat.mul_add, Nat.mul_one]
      refine step x hx hs1 r1 h1 (by omega) (fun d S' => dLc.go g dYes e vs xs (as.map enc ++ [d]) S' Q) fun a pa hs2 h2 => ?_
      have h3 := ih (done ++ [x]) (as ++ [a]) hs2 (r1 - c) (by rw [e1]; simp) (by simp [e2]) (fun b hb => by
        rcases List.mem_append.mp hb with z | z
        · exact hp b z
        · rw [List.mem_singleton.mp z]; exact pa) h2 (by rw [er, List.length_append, List.length_singleton, Nat.mul_add, Nat.mul_one]; omega)
      rw [List.map_append] at h3
      exact h3
  exact key items [] [] hs r rfl rfl (fun a ha => by cases ha) h (by simp)
theorem range_len (k : Int) : (rangeD 0 k.toNat).length = k.toNat := by unfold rangeD; rw [List.length_map, List.length_range]
/-! the law's own fractions -/
section
variable {m n : Nat} {x y : Rat}
theorem q_law_low {n : Nat} {t b : Int} (hb : b ≠ 0) (h1 : t.natAbs < 2 ^ n) (h2 : b.natAbs < 2 ^ n) (hn : n ≤ 9000 := by omega) (h : Q (.pu (fq (Rat.divInt t b)))) : m__law_low [.int t, .int b] Q := by
  unfold m__law_low b__law_low
  simp! []
  refine while_by (fun k S => ∃ u v : Nat, S = [.pu (.int t), .pu (.int b), .pu (.int u), .pu (.int v)] ∧ Nat.gcd u v = Nat.gcd t.natAbs b.natAbs ∧ k = v) b.natAbs ⟨t.natAbs, b.natAbs, rfl, rfl, rfl⟩ ?_
  rintro k S ⟨u, v, rfl, hg, rfl⟩
  simp! []
  by_cases hv : (0 : Int) < k
  · rw [if_pos hv]
    obtain ⟨d, e, hd⟩ := emod_int (x := (u : Int)) hv
    refine ⟨hv, d, by omega, k, d, by rw [e], ?_, rfl⟩
    have e' : d = u % k := by omega
    rw [← hg, e', Nat.gcd_comm k, ← Nat.gcd_rec, Nat.gcd_comm]
  · rw [if_neg hv]
    have hk : k = 0 := by omega
    subst hk
    rw [Nat.gcd_zero_right] at hg
    have hg1 : u < 2 ^ n := by rw [hg]; exact Nat.lt_of_le_of_lt (Nat.gcd_le_right _ (by omega)) h2
    have hg0 : 0 < u := by rw [hg]; exact Nat.gcd_pos_of_pos_right _ (by omega)
    obtain ⟨l1, l2⟩ := low_eq (t := t) hb
    rw [← hg] at l1 l2
    by_cases hp : 0 < b
    · simp! [hp]
      refine ⟨dok (n := n) (by omega) (small_nat hg1) hn, dok (n := n) (by omega) (small_nat hg1) hn, ?_⟩
      rw [(l1 hp).1, (l1 hp).2]; exact h
    · simp! [hp]
      have f : ((0 : Int) - u).natAbs < 2 ^ n := by rw [show ((0 : Int) - u).natAbs = u by omega]; exact hg1
      refine ⟨dok (n := n) (by omega) f hn, dok (n := n) (by omega) f hn, ?_⟩
      rw [(l2 hp).1, (l2 hp).2]; exact h
theorem q_law_plus (hx : Sz m x) (hy : Sz n y) (hl : m + n + 1 ≤ 9000 := by omega) (h : Q (.pu (fq (x + y)))) : m__law_plus [fq x, fq y] Q := by
  unfold m__law_plus b__law_plus
  simp! [fq]
  refine ⟨mulf hx.1 (dn hy), mulf hy.1 (dn hx), mulf (dn hx) (dn hy), ?_⟩
  refine q_law_low (n := m + n + 1) (mden x y) (abs_add_lt (abs_mul_lt hx.1 (dn hy)) (Nat.add_comm m n ▸ abs_mul_lt hy.1 (dn hx))) (lt_mono (abs_mul_lt (dn hx) (dn hy)) (by omega)) hl ?_
  rw [add_div]; exact h
theorem q_law_times (hx : Sz m x) (hy : Sz n y) (hl : m + n ≤ 9000 := by omega) (h : Q (.pu (fq (x * y)))) : m__law_times [fq x, fq y] Q := by
  unfold m__law_times b__law_times
  simp! [fq]
  refine ⟨mulf hx.1 hy.1, mulf (dn hx) (dn hy), ?_⟩
  refine q_law_low (n := m + n) (mden x y) (abs_mul_lt hx.1 hy.1) (abs_mul_lt (dn hx) (dn hy)) hl ?_
  rw [mul_div]; exact h
theorem fq_neg (y : Rat) : fq (-y) = .tup [.int (0 - y.num), .int y.den] := by
  unfold fq; rw [Rat.neg_num, Rat.neg_den, Int.zero_sub]
end
section
variable {m n : Nat} {x y : Rat}
theorem q_law_is_less (hx : Sz m x) (hy : Sz n y) (hl : m + n ≤ 9000 := by omega) (h : Q (.pu (.bl (decide (x < y))))) : m__law_is_less [fq x, fq y] Q := by
  unfold m__law_is_less b__law_is_less
  simp! [fq]
  refine ⟨mulf hx.1 (dn hy), mulf hy.1 (dn hx), ?_⟩
  rw [decide_eq_decide.mpr (Rat.lt_iff x y)] at h; exact h
end
theorem map_abs (ns : List Int) : (ns.map D.int).map (fun d => match d with | .int i => .int (i.natAbs : Nat) | d => d) = (ns.map Int.natAbs).map fun c => D.int (c : Nat) := by
  rw [List.map_map, List.map_map]; rfl
theorem q_hand {M : Nat} {ns : List Int} (hM : M ≤ 2000000) (hb : ∀ i ∈ ns, i.natAbs < 2 ^ M) (h : ∀ hs, HS M (2 ^ 30) hs → Q (.ol hs)) : m__law_hand [.scr (ns.map D.int)] Q := by
  unfold m__law_hand b__law_hand
  simp! [dLc, dSeq]
  have e : cutL (ns.map D.int) none (some 63) = (ns.take 63).map D.int := by
    rw [List.map_take]; exact cut_take 63
  have hl : (ns.take 63).length ≤ 63 := List.length_take_le ..
  rw [e]
  refine ⟨?_, lc_map (fun d => match d with | .int i => .int (i.natAbs : Nat) | d => d) ?_ ?_⟩
  · rw [List.length_map]; exact Nat.le_trans hl (by decide)
  · rw [map_abs]
    simp! [unwipe]
    have hl2 : (((ns.take 63).map Int.natAbs).map fun c => D.int (c : Nat)).length ≤ 63 := by rw [List.length_map, List.length_map]; exact hl
    refine ⟨mok (m := 8) (n := 8) (by decide) (by rw [Int.natAbs_natCast]; omega), h _ ⟨(ns.take 63).map Int.natAbs, 0, 0, 151 + 79 * ((((ns.take 63).map Int.natAbs).map fun c => D.int (c : Nat)).length), 0, rfl, ?_, Nat.pow_pos (by decide), by omega, by decide⟩⟩
    intro c hc
    obtain ⟨i, hi, rfl⟩ := List.mem_map.mp hc
    exact hb i (List.mem_of_mem_take hi)
  · intro d hd R hR
    obtain ⟨i, hi, rfl⟩ := List.mem_map.mp hd
    simp! [wipeS]
    exact hR
/-! sums over sources: what is one -/
def inR (lo hi : Int) : D → Bool
  | .int i => decide (lo ≤ i) && decide (i ≤ hi)
  | _ => false
theorem q_is_within {d : D} {lo hi : Int} (h : Q (.pu (.bl (inR lo hi d)))) : m_is_within [d, .int lo, .int hi] Q := by
  refine pure_by rfl fun E hn hr => ?_
  simp only [List.map_cons, List.map_nil, List.cons_append, List.nil_append, List.append_nil, Nat.reduceSub, List.reduceReplicate]
  unfold b_is_within
  simp! []
  refine q_is_integer ?_
  cases d with
  | int i =>
    simp! [isI_int]
    have e : inR lo hi (.int i) = (decide (lo ≤ i) && decide (i ≤ hi)) := rfl
    rw [e] at h
    by_cases h1 : lo ≤ i
    · simp only [h1, decide_true, Bool.true_and] at h
      simp! [h1]; exact hr _ _ h
    · simp only [h1, decide_false, Bool.false_and] at h
      simp! [h1]; exact hr _ _ h
  | _ => simp! [isI]; exact hr _ _ h
def nzF : D → Bool
  | .tup (.int a :: _) => decide (a ≠ 0)
  | _ => false
def isPair (many : Int) : D → Bool
  | .tup [s, x] => inR 0 (many - 1) s && (isF x && nzF x)
  | _ => false
/-- whatever looks like a fraction within is of that size -/
def SzD (n : Nat) (d : D) : Prop := ∀ a b : Int, d = .tup [.int a, .int b] → a.natAbs < 2 ^ n ∧ b.natAbs < 2 ^ n
theorem isF_shape {d : D} (h : isF d = true) : ∃ a b : Int, d = .tup [.int a, .int b] := by
  unfold isF at h
  split at h
  · exact ⟨_, _, rfl⟩
  · cases h
theorem q_is_pair_of {n : Nat} (hn : n ≤ 9000) {many : Int} {d : D} (hs : ∀ s x, d = .tup [s, x] → SzD n x) (h : Q (.pu (.bl (isPair many d)))) : m_is_pair_of [.int many, d] Q := by
  refine pure_by rfl fun E hn' hr => ?_
  simp only [List.map_cons, List.map_nil, List.cons_append, List.nil_append, List.append_nil, Nat.reduceSub, List.reduceReplicate]
  unfold b_is_pair_of
  simp! []
  refine q_is_tuple_of ?_
  cases d with
  | tup ds =>
    match ds, hs, h with
    | [s, x], hs, h =>
      simp! []
      refine q_is_within ?_
      have e : isPair many (.tup [s, x]) = (inR 0 (many - 1) s && (isF x && nzF x)) := rfl
      rw [e] at h
      by_cases h1 : inR 0 (many - 1) s = true
      · rw [h1, Bool.true_and] at h
        simp! [h1]
        refine q_is_fraction hn (hs s x rfl) ?_
        by_cases h2 : isF x = true
        · rw [h2, Bool.true_and] at h
          simp! [h2]
          obtain ⟨a, b, rfl⟩ := isF_shape h2
          simp! []
          have e2 : nzF (.tup [.int a, .int b]) = !decide (a = 0) := by
            show decide (a ≠ 0) = _
            by_cases q : a = 0 <;> simp [q]
          rw [e2] at h
          exact hr _ _ h
        · have h2' : isF x = false := by simpa using h2
          rw [h2', Bool.false_and] at h
          simp! [h2']
          exact hr _ _ h
      · have h1' : inR 0 (many - 1) s = false := by simpa using h1
        rw [h1', Bool.false_and] at h
        simp! [h1']
        exact hr _ _ h
    | [], _, h => simp! []; exact hr _ _ h
    | [_], _, h => simp! []; exact hr _ _ h
    | x :: y :: z :: r, _, h =>
      have e : ¬ (((x :: y :: z :: r).length : Int) = 2) := by simp only [List.length_cons]; omega
      simp only [e]
      simp! []; exact hr _ _ h
  | _ => simp! []; exact hr _ _ h
theorem bls_map {α : Type} (b : α → Bool) : ∀ xs : List α, blsD (xs.map fun x => D.bl (b x)) = some (xs.map b)
  | [] => rfl
  | x :: xs => by
    show (blsD (xs.map fun x => D.bl (b x))).map (b x :: ·) = _
    rw [bls_map b xs]; rfl
def fstI : D → Int
  | .tup (.int i :: _) => i
  | _ => 0
def ltP : D → Bool
  | .tup [x, y] => decide (fstI x < fstI y)
  | _ => false
def isSum (many : Int) : D → Bool
  | .tup [.tup ps, c] => isF c && (ps.all (isPair many) && (zipD ps (ps.drop 1)).all ltP)
  | _ => false
theorem pair_shape {many : Int} {d : D} (h : isPair many d = true) : ∃ (i : Int) (x : D), d = .tup [.int i, x] := by
  unfold isPair at h
  split at h
  · rename_i s x
    cases s with
    | int i => exact ⟨i, x, rfl⟩
    | _ => simp [inR] at h
  · cases h
theorem mem_zip {xs ys : List D} {d : D} (h : d ∈ zipD xs ys) : ∃ x y, d = .tup [x, y] ∧ x ∈ xs ∧ y ∈ ys := by
  unfold zipD at h
  obtain ⟨⟨x, y⟩, h1, rfl⟩ := List.mem_map.mp h
  exact ⟨x, y, rfl, (List.of_mem_zip h1).1, (List.of_mem_zip h1).2⟩
theorem all_id (b : D → Bool) (xs : List D) : (xs.map b).all id = xs.all b := by
  induction xs with
  | nil => rfl
  | cons x xs ih => simp only [List.map_cons, List.all_cons, ih]; rfl
theorem isSum_no {many : Int} {x c : D} (h : ∀ ps, x ≠ .tup ps) : isSum many (.tup [x, c]) = false := by
  cases x <;> first | rfl | exact absurd rfl (h _)
theorem isSum_len {many : Int} {ds : List D} (h : ds.length ≠ 2) : isSum many (.tup ds) = false := by
  match ds, h with
  | [], _ => rfl
  | [x], _ => cases x <;> rfl
  | [x, y], h => exact absurd rfl h
  | x :: y :: z :: r, _ => cases x <;> rfl
/-- what is_sum wants of sizes -/
structure SumSz (n : Nat) (d : D) : Prop where
  c : ∀ x c, d = .tup [x, c] → SzD n c
  ps : ∀ ps c, d = .tup [.tup ps, c] → ps.length ≤ 1000 ∧ ∀ p ∈ ps, ∀ s x, p = .tup [s, x] → SzD n x
theorem q_raw_is_sum {n : Nat} (hn : n ≤ 9000) {many : Int} {d : D} (hs : SumSz n d) (h : Q (.pu (.bl (isSum many d)))) : m_raw_is_sum [.int many, d] Q := by
  refine pure_by rfl fun E hn' hr => ?_
  simp only [List.map_cons, List.map_nil, List.cons_append, List.nil_append, List.append_nil, Nat.reduceSub, List.reduceReplicate]
  unfold b_raw_is_sum
  simp! []
  refine q_is_tuple_of ?_
  cases d with
  | tup ds =>
    match ds, hs, h with
    | [x, c], hs, h =>
      simp! []
      cases x with
      | tup ps =>
        obtain ⟨hl, hp⟩ := hs.ps ps c rfl
        have hsz : ps.length ≤ sizeLine := Nat.le_trans hl (by decide)
        simp! []
        refine q_is_fraction hn (hs.c _ c rfl) ?_
        have e : isSum many (.tup [.tup ps, c]) = (isF c && (ps.all (isPair many) && (zipD ps (ps.drop 1)).all ltP)) := rfl
        rw [e] at h
        by_cases h1 : isF c = true
        · rw [h1, Bool.true_and] at h
          simp! [h1, dLc, dSeq]
          refine ⟨hsz, lc_map (fun p => .bl (isPair many p)) ?_ ?_⟩
          · simp! [bls_map (isPair many), all_id]
            by_cases h2 : ps.all (isPair many) = true
            · rw [h2, Bool.true_and] at h
              have c1 : cutL ps (some 1) none = ps.drop 1 := cut_drop 1
              simp! [h2, dLc, dZip, c1, seqD]
              have lz : (zipD ps (ps.drop 1)).length ≤ sizeLine := by
                unfold zipD; rw [List.length_map, List.length_zip]; omega
              refine ⟨lz, lc_map (fun p => .bl (ltP p)) ?_ ?_⟩
              · simp! [bls_map ltP, all_id]
                exact hr _ _ h
              · intro z hz R hR
                obtain ⟨u, v, rfl, hu, hv⟩ := mem_zip hz
                have hv' : v ∈ ps := List.mem_of_mem_drop hv
                obtain ⟨i, x, rfl⟩ := pair_shape (List.all_eq_true.mp h2 u hu)
                obtain ⟨j, y, rfl⟩ := pair_shape (List.all_eq_true.mp h2 v hv')
                simp! []
                exact hR
            · have h2' : ps.all (isPair many) = false := by simpa using h2
              rw [h2', Bool.false_and] at h
              simp! [h2']
              exact hr _ _ h
          · intro p hp' R hR
            simp! []
            refine q_is_pair_of hn (hp p hp') ?_
            simp! []
            exact hR
        · have h1' : isF c = false := by simpa using h1
          rw [h1', Bool.false_and] at h
          simp! [h1']
          exact hr _ _ h
      | _ =>
        simp! []
        rw [isSum_no (by intro _ z; cases z)] at h
        exact hr _ _ h
    | [], _, h => simp! []; exact hr _ _ h
    | [_], _, h => simp! []; rw [isSum_len (by simp)] at h; exact hr _ _ h
    | x :: y :: z :: r, _, h =>
      have e : ¬ (((x :: y :: z :: r).length : Int) = 2) := by simp only [List.length_cons]; omega
      simp only [e]
      simp! []; rw [isSum_len (by simp only [List.length_cons]; omega)] at h; exact hr _ _ h
  | _ => simp! []; exact hr _ _ h
/-! worths -/
def terms (vs : List Rat) (ps : Ps) : List Rat := ps.map fun p => p.2 * vs.getD p.1 0
theorem ix_vals {vs : List Rat} {i : Nat} (h : i < vs.length) : atI (vs.map fq) (i : Int) = some (fq (vs.getD i 0)) := by
  rw [atI_n, List.getElem?_map, List.getElem?_eq_getElem h, List.getD_eq_getElem?_getD, List.getElem?_eq_getElem h]; rfl
theorem getD_mem {vs : List Rat} {i : Nat} (h : i < vs.length) : vs.getD i 0 ∈ vs := by
  rw [List.getD_eq_getElem?_getD, List.getElem?_eq_getElem h]; exact List.getElem_mem h
section
variable {n N : Nat} {vs : List Rat} {ps : Ps} {c : Rat}
theorem q_raw_worth (hlt : ∀ p ∈ ps, p.1 < vs.length) (hp : ∀ p ∈ ps, Sz n p.2) (hv : ∀ v ∈ vs, Sz n v) (hs : SzAll N c (terms vs ps)) (hN : N + N + 1 ≤ 9000 := by omega) (hn : n + n ≤ 9000 := by omega) (h : Q (.pu (fq (tot c (terms vs ps))))) :
    m_raw_worth [.tup (vs.map fq), smD ps c] Q := by
  refine pure_by rfl fun E hn' hr => ?_
  simp only [List.map_cons, List.map_nil, List.cons_append, List.nil_append, List.append_nil, Nat.reduceSub, List.reduceReplicate]
  unfold b_raw_worth smD
  simp! [dFor, dSeq]
  refine for_by (fun items S => ∃ a qs o1 o2, items = List.map pqD qs ∧ S = [.pu (.tup (vs.map fq)), .pu (.tup [.tup (ps.map pqD), fq c]), .pu (fq a), o1, o2] ∧ SzAll N a (terms vs qs) ∧ (∀ p ∈ qs, p ∈ ps) ∧ tot a (terms vs qs) = tot c (terms vs ps)) ?_ ?_ _ _ ⟨c, ps, _, _, rfl, rfl, hs, fun p h => h, rfl⟩
  · rintro S ⟨a, qs, o1, o2, e, rfl, h1, h2, h3⟩
    cases qs with
    | nil => simp! []; have : a = tot c (terms vs ps) := h3; rw [this]; exact hr _ _ h
    | cons => cases e
  · rintro d ds S ⟨a, qs, o1, o2, e, rfl, h1, h2, h3⟩ ih
    cases qs with
    | nil => cases e
    | cons p qs =>
      cases e
      have hm := h2 p (by simp)
      have hl := hlt p hm
      have e1 := ix_vals hl
      have hvv := hv _ (getD_mem hl)
      unfold pqD
      simp! []
      rw [ixt_at e1]
      simp! []
      refine q_raw_times (hp p hm) hvv hn ?_
      simp! []
      have t1 : SzAll N a (p.2 * vs.getD p.1 0 :: terms vs qs) := h1
      refine q_raw_plus t1.1 t1.2.1 hN ?_
      simp! []
      exact ih _ ⟨a + p.2 * vs.getD p.1 0, qs, _, _, rfl, rfl, t1.2.2, fun q hq => h2 q (by simp [hq]), h3⟩
theorem q_law_worth (hlt : ∀ p ∈ ps, p.1 < vs.length) (hp : ∀ p ∈ ps, Sz n p.2) (hv : ∀ v ∈ vs, Sz n v) (hs : SzAll N c (terms vs ps)) (hN : N + N + 1 ≤ 9000 := by omega) (hn : n + n ≤ 9000 := by omega) (h : Q (.pu (fq (tot c (terms vs ps))))) :
    m__law_worth [.tup (vs.map fq), smD ps c] Q := by
  refine pure_by rfl fun E hn' hr => ?_
  simp only [List.map_cons, List.map_nil, List.cons_append, List.nil_append, List.append_nil, Nat.reduceSub, List.reduceReplicate]
  unfold b__law_worth smD
  simp! [dFor, dSeq]
  refine for_by (fun items S => ∃ a qs o1 o2, items = List.map pqD qs ∧ S = [.pu (.tup (vs.map fq)), .pu (.tup [.tup (ps.map pqD), fq c]), .pu (fq a), o1, o2] ∧ SzAll N a (terms vs qs) ∧ (∀ p ∈ qs, p ∈ ps) ∧ tot a (terms vs qs) = tot c (terms vs ps)) ?_ ?_ _ _ ⟨c, ps, _, _, rfl, rfl, hs, fun p h => h, rfl⟩
  · rintro S ⟨a, qs, o1, o2, e, rfl, h1, h2, h3⟩
    cases qs with
    | nil => simp! []; have : a = tot c (terms vs ps) := h3; rw [this]; exact hr _ _ h
    | cons => cases e
  · rintro d ds S ⟨a, qs, o1, o2, e, rfl, h1, h2, h3⟩ ih
    cases qs with
    | nil => cases e
    | cons p qs =>
      cases e
      have hm := h2 p (by simp)
      have hl := hlt p hm
      have e1 := ix_vals hl
      have hvv := hv _ (getD_mem hl)
      unfold pqD
      simp! []
      rw [ixt_at e1]
      simp! []
      refine q_law_times (hp p hm) hvv hn ?_
      simp! []
      have t1 : SzAll N a (p.2 * vs.getD p.1 0 :: terms vs qs) := h1
      refine q_law_plus t1.1 t1.2.1 hN ?_
      simp! []
      exact ih _ ⟨a + p.2 * vs.getD p.1 0, qs, _, _, rfl, rfl, t1.2.2, fun q hq => h2 q (by simp [hq]), h3⟩
end
/-! a sum of ours is one -/
theorem szD_fq {n : Nat} {x : Rat} (h : Sz n x) : SzD n (fq x) := fun a b e => by
  have e' : x.num = a ∧ (x.den : Int) = b := by unfold fq at e; simpa using e
  rw [← e'.1, ← e'.2]; exact ⟨h.1, dn h⟩
theorem sumSz_of {n : Nat} {ps : Ps} {c : Rat} (hl : ps.length ≤ 1000) (hp : ∀ p ∈ ps, Sz n p.2) (hc : Sz n c) : SumSz n (smD ps c) := by
  constructor
  · intro x c' e
    have e' : fq c = c' := by unfold smD at e; simp at e; exact e.2
    rw [← e']; exact szD_fq hc
  · intro qs c' e
    have e' : ps.map pqD = qs := by unfold smD at e; simp at e; exact e.1
    rw [← e']
    refine ⟨by rw [List.length_map]; exact hl, fun q hq s x e2 => ?_⟩
    obtain ⟨p, hp', rfl⟩ := List.mem_map.mp hq
    have e3 : fq p.2 = x := by unfold pqD at e2; simp at e2; exact e2.2
    rw [← e3]; exact szD_fq (hp p hp')
theorem nzF_fq {x : Rat} (h : x ≠ 0) : nzF (fq x) = true := decide_eq_true (num_ne h)
theorem ord_zip : ∀ {a : Nat} {ps : Ps}, Ord_ a ps → (zipD (ps.map pqD) ((ps.map pqD).drop 1)).all ltP = true
  | _, [], _ => rfl
  | _, [p], _ => rfl
  | a, p :: q :: ps, h => by
    have ih := ord_zip (ps := q :: ps) h.2.2
    have e : zipD ((p :: q :: ps).map pqD) (((p :: q :: ps).map pqD).drop 1) = .tup [pqD p, pqD q] :: zipD ((q :: ps).map pqD) (((q :: ps).map pqD).drop 1) := rfl
    rw [e, List.all_cons, ih, Bool.and_true]
    show decide ((p.1 : Int) < (q.1 : Int)) = true
    have := h.2.2.1
    exact decide_eq_true (by omega)
theorem isSum_of {m : Nat} {ps : Ps} {c : Rat} (h : Ord_ 0 ps) (hm : ∀ p ∈ ps, p.1 < m) : isSum (m : Int) (smD ps c) = true := by
  have nz : ∀ {a : Nat} {ps : Ps}, Ord_ a ps → ∀ p ∈ ps, p.2 ≠ 0 := by
    intro a ps
    induction ps generalizing a with
    | nil => intro _ p hp; cases hp
    | cons q ps ih =>
      intro h p hp
      rcases List.mem_cons.mp hp with e | e
      · rw [e]; exact h.2.1
      · exact ih h.2.2 p e
  show (isF (fq c) && ((ps.map pqD).all (isPair m) && (zipD (ps.map pqD) ((ps.map pqD).drop 1)).all ltP)) = true
  rw [isF_fq, ord_zip h, Bool.true_and, Bool.and_true, List.all_eq_true]
  intro d hd
  obtain ⟨p, hp, rfl⟩ := List.mem_map.mp hd
  show (inR 0 ((m : Int) - 1) (.int (p.1 : Int)) && (isF (fq p.2) && nzF (fq p.2))) = true
  rw [isF_fq, nzF_fq (nz h p hp)]
  have := hm p hp
  show ((decide ((0 : Int) ≤ p.1) && decide ((p.1 : Int) ≤ (m : Int) - 1)) && (true && true)) = true
  simp; omega
/-! sums made -/
section
variable {m n : Nat} {c : Rat}
def keepD (g : Nat → Rat) : D → Option D
  | .int i => if g i.toNat = 0 then none else some (pqD (i.toNat, g i.toNat))
  | _ => none
theorem keepD_map (g : Nat → Rat) (ks : List Nat) : (ks.map fun k : Nat => D.int (k : Int)).filterMap (keepD g) = (ks.filterMap fun k => if g k = 0 then none else some (k, g k)).map pqD := by
  rw [List.filterMap_map, List.map_filterMap]
  congr 1; funext k
  show (if g ((k : Int).toNat) = 0 then none else some (pqD ((k : Int).toNat, g ((k : Int).toNat)))) = _
  rw [Int.toNat_natCast]
  by_cases e : g k = 0 <;> simp [e]
/-- pairs of a sum as a dict -/
theorem pairs_pq : ∀ ps : Ps, pairsD (ps.map pqD) = some (kvD ps)
  | [] => rfl
  | p :: ps => by
    show (match keyD (.int (p.1 : Int)), pairsD (ps.map pqD) with | some key, some kvs => some ((key, fq p.2) :: kvs) | _, _ => none) = _
    rw [pairs_pq ps]; rfl
theorem merge_nodup : ∀ (ps done : Ps), ((done ++ ps).map (·.1)).Nodup → mergeG (kvD done) (kvD ps) = kvD (done ++ ps)
  | [], done, _ => by rw [List.append_nil]; rfl
  | p :: ps, done, h => by
    have e : mergeG (kvD done) (kvD (p :: ps)) = mergeG (putG (kvD done) (.inl (p.1 : Int)) (fq p.2)) (kvD ps) := rfl
    rw [e, put_kvD]
    have e2 : putR done p.1 p.2 = done ++ [p] := by
      unfold putR
      rw [if_neg]
      intro z
      obtain ⟨q, hq, e⟩ := List.any_eq_true.mp z
      have e : q.1 = p.1 := by simpa using e
      rw [List.map_append, List.nodup_append] at h
      exact h.2.2 q.1 (List.mem_map.mpr ⟨q, hq, rfl⟩) p.1 (by simp) e
    rw [e2, merge_nodup ps (done ++ [p]) (by rw [List.append_assoc]; exact h), List.append_assoc]; rfl
theorem canon_nodup (m : Nat) (f : Nat → Rat) : ((canon m f).map (·.1)).Nodup := by
  have : ∀ {a : Nat} {ps : Ps}, Ord_ a ps → (ps.map (·.1)).Nodup := by
    intro a ps
    induction ps generalizing a with
    | nil => intro _; exact List.nodup_nil
    | cons p ps ih =>
      intro h
      rw [List.map_cons, List.nodup_cons]
      refine ⟨fun z => ?_, ih h.2.2⟩
      obtain ⟨q, hq, e⟩ := List.mem_map.mp z
      have := Ord_.ge h.2.2 q hq
      omega
  exact this (canon_ord m f)
theorem nodup_len : ∀ {m : Nat} {ts : Ps}, (ts.map (·.1)).Nodup → (∀ p ∈ ts, p.1 < m) → ts.length ≤ m := by
  intro m ts h1 h2
  have := List.Nodup.length_le_of_subset h1 (l₂ := List.range m) fun k hk => by
    obtain ⟨p, hp, rfl⟩ := List.mem_map.mp hk
    exact List.mem_range.mpr (h2 p hp)
  rwa [List.length_map, List.length_range] at this
def SzF (n m : Nat) (f : Nat → Rat) : Prop := ∀ i, i < m → Sz n (f i)
end
/-! sums: the rest -/
section
variable {m n : Nat} {c d x : Rat} {f g : Nat → Rat}
theorem told_sum_eq (m : Nat) (x : Rat) : D.tup [.tup [], fq x] = sumD m (fun _ => 0) x := by
  have e : canon m (fun _ => 0) = [] := canon_eq trivial (fun p hp => by cases hp) fun i _ => rfl
  unfold sumD; rw [e]; rfl
theorem canon_scale (hx : x ≠ 0) : canon m (fun i => f i * x) = (canon m f).map fun p => (p.1, p.2 * x) := by
  refine canon_eq ?_ (fun p hp => ?_) fun i hi => ?_
  · have : ∀ {a : Nat} {ps : Ps}, Ord_ a ps → Ord_ a (ps.map fun p => (p.1, p.2 * x)) := by
      intro a ps
      induction ps generalizing a with
      | nil => intro _; trivial
      | cons p ps ih =>
        intro h
        exact ⟨h.1, fun z => (Rat.mul_eq_zero.mp z).elim h.2.1 hx, ih h.2.2⟩
    exact this (canon_ord m f)
  · obtain ⟨q, hq, rfl⟩ := List.mem_map.mp hp
    exact (canon_mem hq).1
  · have : ∀ ps : Ps, at_ (ps.map fun p => (p.1, p.2 * x)) i = at_ ps i * x := by
      intro ps
      induction ps with
      | nil => exact (Rat.zero_mul x).symm
      | cons p ps ih =>
        rw [List.map_cons, at_cons, at_cons, ih]
        by_cases e : p.1 = i
        · rw [if_pos e, if_pos e]
        · rw [if_neg e, if_neg e]
    rw [this, canon_at hi]
end
/-! sums: what the callers see -/
section
variable {m n : Nat} {c d x : Rat} {f g : Nat → Rat}
/-- a sum of ours over m sources, of size n -/
structure GS (n m : Nat) (f : Nat → Rat) (c : Rat) : Prop where
  hm : m < 64
  hf : SzF n m f
  hc : Sz n c
  hn : n ≤ 2000
theorem GS.sumSz (h : GS n m f c) : SumSz n (sumD m f c) := sumSz_of (Nat.le_trans (canon_len m f) (by have := h.hm; omega)) (fun p hp => by
  obtain ⟨h1, h2, _⟩ := canon_mem hp
  rw [h2]; exact h.hf p.1 h1) h.hc
theorem GS.isSum (h : GS n m f c) : isSum (m : Int) (sumD m f c) = true := isSum_of (canon_ord m f) fun p hp => (canon_mem hp).1
theorem unit_eq {i : Nat} (hi : i < m) : smD [(i, 1)] 0 = sumD m (fun j => if i = j then 1 else 0) 0 := by
  have e : canon m (fun j => if i = j then (1 : Rat) else 0) = [(i, 1)] := canon_eq ⟨Nat.zero_le _, show (1 : Rat) ≠ 0 from by decide, trivial⟩ (fun p hp => by rw [List.mem_singleton.mp hp]; exact hi) fun j _ => by rw [at_cons]; rfl
  unfold sumD; rw [e]
end
/-! sums and their factors -/
section
variable {m n : Nat} {c d x : Rat} {f g : Nat → Rat}
def vecD (m : Nat) (f : Nat → Rat) : List D := (List.range m).map fun i => fq (f i)
theorem vec_len (m : Nat) (f : Nat → Rat) : (vecD m f).length = m := by unfold vecD; rw [List.length_map, List.length_range]
theorem vec_map (m : Nat) (f : Nat → Rat) : vecD m f = ((List.range m).map f).map fq := by unfold vecD; rw [List.map_map]; rfl
theorem enum_vec (m : Nat) (f : Nat → Rat) : enumD (vecD m f) = (List.range m).map fun i : Nat => D.tup [.int (i : Int), fq (f i)] := by
  unfold enumD vecD
  apply List.ext_getElem?
  intro i
  by_cases h : i < m
  · simp [List.getElem?_range, h]
  · rw [List.getElem?_eq_none (by simp; omega), List.getElem?_eq_none (by simp; omega)]
def keepE : D → Option D
  | .tup [i, .tup (.int a :: r)] => if a = 0 then none else some (.tup [i, .tup (.int a :: r)])
  | _ => none
theorem keepE_map (m : Nat) (f : Nat → Rat) : ((List.range m).map fun i : Nat => D.tup [.int (i : Int), fq (f i)]).filterMap keepE = (canon m f).map pqD := by
  rw [← keep_canon (g := f) (ks := List.range m) List.pairwise_lt_range (fun k hk => List.mem_range.mp hk) (fun i hi hn => absurd (List.mem_range.mpr hi) hn)]
  rw [List.filterMap_map, List.map_filterMap]
  congr 1; funext k
  show (if (f k).num = 0 then none else some (D.tup [.int (k : Int), fq (f k)])) = _
  by_cases e : f k = 0
  · have e0 : (f k).num = 0 := by rw [e]; rfl
    rw [if_pos e0, if_pos e]; rfl
  · rw [if_neg (num_ne e), if_neg e]; rfl
end
section
variable {m n : Nat} {c d x : Rat} {f g : Nat → Rat}
theorem vec_set {i : Nat} (hi : i < m) : (vecD m f).set i (fq x) = vecD m (fun j => if j = i then x else f j) := by
  unfold vecD
  apply List.ext_getElem?
  intro j
  rw [List.getElem?_set]
  by_cases e : i = j
  · subst e
    rw [if_pos rfl]
    simp [hi]
  · rw [if_neg e]
    by_cases hj : j < m
    · simp [List.getElem?_range, hj]; rw [if_neg (fun z => e z.symm)]
    · rw [List.getElem?_eq_none (by simp; omega), List.getElem?_eq_none (by simp; omega)]
theorem vec_congr (h : ∀ i, i < m → f i = g i) : vecD m f = vecD m g := by
  unfold vecD; apply List.map_congr_left; intro i hi; rw [h i (List.mem_range.mp hi)]
theorem ixN_nat {k i : Nat} (h : i < k) : ixN k (i : Int) = some i := by
  unfold ixN; rw [if_pos (by omega), if_pos (by omega), Int.toNat_natCast]
end
/-! the law's sums -/
section
variable {M r : Nat} {hs : List D} {QQ : Rv → List D → Prop}
def facs : List Rat := [1, -1, 2, -2, 1 / 2, -3 / 2]
def cons_ : List Rat := [0, 1, -1, 2, 1 / 2, -1 / 3, -3]
theorem facs_D : facs.map fq = [.tup [.int 1, .int 1], .tup [.int (-1), .int 1], .tup [.int 2, .int 1], .tup [.int (-2), .int 1], .tup [.int 1, .int 2], .tup [.int (-3), .int 2]] := by
  rw [show facs = [1, -1, 2, -2, Rat.divInt 1 2, Rat.divInt (-3) 2] by decide +kernel]; rfl
theorem cons_D : cons_.map fq = [.tup [.int 0, .int 1], .tup [.int 1, .int 1], .tup [.int (-1), .int 1], .tup [.int 2, .int 1], .tup [.int 1, .int 2], .tup [.int (-1), .int 3], .tup [.int (-3), .int 1]] := by
  rw [show cons_ = [0, 1, -1, 2, Rat.divInt 1 2, Rat.divInt (-1) 3, -3] by decide +kernel]; rfl
theorem facs_ok : ∀ x ∈ facs, Sz 4 x ∧ x ≠ 0 := by
  intro x hx
  simp only [facs, List.mem_cons, List.not_mem_nil, or_false] at hx
  unfold Sz
  rcases hx with rfl | rfl | rfl | rfl | rfl | rfl <;> decide +kernel
theorem cons_ok : ∀ x ∈ cons_, Sz 4 x := by
  intro x hx
  simp only [cons_, List.mem_cons, List.not_mem_nil, or_false] at hx
  unfold Sz
  rcases hx with rfl | rfl | rfl | rfl | rfl | rfl | rfl <;> decide +kernel
/-- any of ours -/
theorem q_some_fq {xs : List Rat} (hM : M ≤ 2000000) (h : HS M (r + 1) hs) (h0 : 0 < xs.length) (hl : xs.length < 1000) (k : ∀ x ∈ xs, ∀ hs', HS M r hs' → QQ (.pu (fq x)) hs') : m__law_some hs [.lst (xs.map fq)] QQ := by
  refine q_some hM h (by rw [List.length_map]; exact h0) (by rw [List.length_map]; omega) fun d hd hs' h' => ?_
  obtain ⟨x, hx, rfl⟩ := List.mem_map.mp hd
  exact k x hx hs' h'
theorem q_law_sum {m most : Nat} (hM : M ≤ 2000000) (h : HS M (r + 2 + 2 * most) hs) (hm : 0 < m) (hm2 : m < 60) (hmo : 0 < most) (hmo2 : most < 60)
    (k : ∀ (f : Nat → Rat) (c : Rat) (hs' : List D), SzF 4 m f → Sz 4 c → HS M r hs' → QQ (.pu (sumD m f c)) hs') : m__law_sum hs [.int m, .int most] QQ := by
  refine io_by rfl fun E hn hr => ?_
  simp only [List.map_cons, List.map_nil, List.cons_append, List.nil_append, List.append_nil, Nat.reduceSub, List.reduceReplicate]
  unfold b__law_sum
  simp! [dFor, dRng]
  refine q_draw (r := r + 1 + 2 * most) (many := most) hM (h.mono (by omega)) hmo (by omega) fun i hi hs1 h1 => ?_
  simp! []
  refine ⟨by omega, by omega, ?_⟩
  refine for_by (fun items S => ∃ ts hs2 o4, S = [.io 0 hs2, .pu (.int m), .pu (.int most), .od (kvD ts), o4, .no, .no] ∧ items.length ≤ most ∧ HS M (r + 1 + 2 * items.length) hs2 ∧ (ts.map (·.1)).Nodup ∧ (∀ p ∈ ts, p.1 < m) ∧ ∀ p ∈ ts, p.2 ∈ facs) ?_ ?_ _ _ ⟨[], hs1, _, rfl, ?_, ?_, List.nodup_nil, fun p hp => (by cases hp), fun p hp => (by cases hp)⟩
  · rintro S ⟨ts, hs2, o4, rfl, _, h2, t1, t2, t3⟩
    simp! []
    rw [← cons_D]
    refine q_some_fq (r := r) hM (h2.mono (by simp only [List.length_nil]; omega)) (by decide) (by decide) fun c hc hs3 h3 => ?_
    simp! [dLc, dSeq]
    rw [sortedU_kv]
    have hl := nodup_len t1 t2
    refine ⟨by rw [List.length_map]; omega, fun ns hp hsn => ?_⟩
    obtain ⟨ks, rfl, g1, g2, g3⟩ := sorted_keep hp hsn t1 t2
    have hlen : ks.length < 60 := by
      have := hp.length_eq
      rw [List.length_map, List.length_map] at this; omega
    have e1 : ((ks.map fun k : Nat => (k : Int)).map D.int) = ks.map fun k : Nat => D.int (k : Int) := by rw [List.map_map]; rfl
    rw [e1]
    simp! []
    have nz : ∀ k ∈ ks, at_ ts k ∈ facs := fun k hk => t3 _ (find_mem (find_of_mem ((g3 k).mp hk)))
    refine ⟨by rw [List.length_map]; exact Nat.le_trans (Nat.le_of_lt hlen) (by decide), lc_map (fun d => match d with | .int i => pqD (i.toNat, at_ ts i.toNat) | d => d) ?_ ?_⟩
    · have e2 : (ks.map fun k : Nat => D.int (k : Int)).map (fun d => match d with | .int i => pqD (i.toNat, at_ ts i.toNat) | d => d) = (canon m (at_ ts)).map pqD := by
        rw [← keep_canon g1 g2 (fun i _ hi => at_of_not fun z => hi ((g3 i).mpr z)), List.map_map]
        have : ∀ l : List Nat, (∀ k ∈ l, at_ ts k ≠ 0) → (l.filterMap fun k => if at_ ts k = 0 then none else some (k, at_ ts k)) = l.map fun k => (k, at_ ts k) := by
          intro l
          induction l with
          | nil => intro _; rfl
          | cons k l ih2 =>
            intro hl
            rw [List.filterMap_cons, if_neg (hl k (by simp)), List.map_cons, ih2 fun j hj => hl j (by simp [hj])]
        rw [this ks fun k hk => (facs_ok _ (nz k hk)).2, List.map_map]
        apply List.map_congr_left
        intro k _
        show pqD (((k : Int)).toNat, at_ ts ((k : Int)).toNat) = _
        rw [Int.toNat_natCast]; rfl
      rw [e2]
      simp! []
      refine hr _ _ _ (k (at_ ts) c hs3 (fun i hi => ?_) (cons_ok c hc) h3)
      by_cases z : i ∈ ts.map (·.1)
      · exact (facs_ok _ (t3 _ (find_mem (find_of_mem z)))).1
      · rw [at_of_not z]; constructor <;> decide
    · intro d hd R hR
      obtain ⟨k, hk, rfl⟩ := List.mem_map.mp hd
      have hR' : R (pqD (((k : Int)).toNat, at_ ts ((k : Int)).toNat)) _ := hR
      rw [Int.toNat_natCast] at hR'
      have e4 : dget ((kvD ts).map (·.1)) ((kvD ts).map (·.2)) (.inl (k : Int)) = some (fq (at_ ts k)) := by
        rw [dget_kvD, find_of_mem ((g3 k).mp hk)]; rfl
      simp! [e4]
      exact hR'
  · rintro d ds S ⟨ts, hs2, o4, rfl, hl, h2, t1, t2, t3⟩ ih
    rw [List.length_cons] at hl h2
    simp! []
    rw [← facs_D]
    refine q_some_fq (r := r + 1 + 2 * ds.length + 1) hM (h2.mono (by omega)) (by decide) (by decide) fun x hx hs3 h3 => ?_
    simp! []
    refine q_draw (r := r + 1 + 2 * ds.length) (many := m) hM h3 hm (by omega) fun j hj hs4 h4 => ?_
    simp! [dctAt, put_kvD]
    refine ⟨?_, ?_⟩
    · unfold kvD; rw [List.length_map]; exact Nat.lt_of_le_of_lt (nodup_len t1 t2) (Nat.lt_of_lt_of_le hm2 (by decide))
    · refine ih _ ⟨putR ts j x, hs4, _, rfl, by omega, h4, (put_keys ts j x).2 t1, (put_keys ts j x).1 m t2 hj, fun p hp => ?_⟩
      unfold putR at hp
      split at hp
      · obtain ⟨q, hq, e⟩ := List.mem_map.mp hp
        by_cases z : q.1 = j
        · rw [if_pos z] at e; rw [← e]; exact hx
        · rw [if_neg z] at e; rw [← e]; exact t3 q hq
      · rcases List.mem_append.mp hp with z | z
        · exact t3 p z
        · rw [List.mem_singleton.mp z]; exact hx
  · unfold rangeD; rw [List.length_map, List.length_range]; omega
  · refine h1.mono ?_
    unfold rangeD; rw [List.length_map, List.length_range]; omega
end
/-! worths are linear -/
section
variable {n m : Nat} {vs : List Rat} {f g : Nat → Rat} {c d : Rat}
def SS (vs : List Rat) (f : Nat → Rat) : Nat → Nat → Rat
  | _, 0 => 0
  | a, k + 1 => f a * vs.getD a 0 + SS vs f (a + 1) k
theorem tot_cons (c x : Rat) (xs : List Rat) : tot c (x :: xs) = tot (c + x) xs := rfl
theorem W_eqF : ∀ (k a : Nat) (c : Rat), tot c (terms vs (canF f a k)) = c + SS vs f a k
  | 0, a, c => by unfold canF SS; exact (Rat.add_zero c).symm
  | k + 1, a, c => by
    unfold canF SS
    by_cases e : f a = 0
    · rw [if_pos e, W_eqF k (a + 1) c, e]; grind
    · rw [if_neg e]
      have : tot c (terms vs ((a, f a) :: canF f (a + 1) k)) = tot (c + f a * vs.getD a 0) (terms vs (canF f (a + 1) k)) := rfl
      rw [this, W_eqF k (a + 1)]; grind
theorem W_eq : tot c (terms vs (canon m f)) = c + SS vs f 0 m := W_eqF m 0 c
theorem SS_add : ∀ (k a : Nat), SS vs (fun i => f i + g i) a k = SS vs f a k + SS vs g a k
  | 0, _ => by unfold SS; grind
  | k + 1, a => by unfold SS; rw [SS_add k (a + 1)]; grind
theorem SS_sub : ∀ (k a : Nat), SS vs (fun i => f i - g i) a k = SS vs f a k - SS vs g a k
  | 0, _ => by unfold SS; grind
  | k + 1, a => by unfold SS; rw [SS_sub k (a + 1)]; grind
theorem SS_unit {i : Nat} : ∀ (k a : Nat), SS vs (fun j => if i = j then 1 else 0) a k = if a ≤ i ∧ i < a + k then vs.getD i 0 else 0
  | 0, a => by unfold SS; rw [if_neg (by omega)]
  | k + 1, a => by
    unfold SS
    rw [SS_unit k (a + 1)]
    by_cases e : i = a
    · subst e; rw [if_pos rfl, if_neg (by omega), if_pos (by omega)]; grind
    · rw [if_neg e]
      by_cases h : a ≤ i ∧ i < a + (k + 1)
      · rw [if_pos h, if_pos (by omega)]; grind
      · rw [if_neg h, if_neg (by omega)]; grind
theorem W_add : tot (c + d) (terms vs (canon m fun i => f i + g i)) = tot c (terms vs (canon m f)) + tot d (terms vs (canon m g)) := by
  rw [W_eq, W_eq, W_eq, SS_add]; grind
theorem W_sub : tot (c - d) (terms vs (canon m fun i => f i - g i)) = tot c (terms vs (canon m f)) - tot d (terms vs (canon m g)) := by
  rw [W_eq, W_eq, W_eq, SS_sub]; grind
theorem W_unit {i : Nat} (hi : i < m) : tot 0 (terms vs (canon m fun j => if i = j then 1 else 0)) = vs.getD i 0 := by
  rw [W_eq, SS_unit, if_pos (by omega)]; grind
theorem W_sz {N : Nat} (hf : SzF n m f) (hc : Sz n c) (hv : ∀ v ∈ vs, Sz 8 v) (hl : vs.length = m) (hm : m ≤ 20) (hN : 22 * (n + 9) ≤ N) : SzAll N c (terms vs (canon m f)) := by
  have h1 : ∀ x ∈ terms vs (canon m f), Sz (n + 8) x := fun x hx => by
    obtain ⟨p, hp, rfl⟩ := List.mem_map.mp hx
    obtain ⟨a1, a2, _⟩ := canon_mem hp
    rw [a2]
    exact sz_mul (hf _ a1) (hv _ (getD_mem (by omega)))
  have h2 := szAll_of (n := n + 8) (by omega) (terms vs (canon m f)) c 1 (hc.mono (by omega)) h1
  have hlen : (terms vs (canon m f)).length ≤ 20 := by unfold terms; rw [List.length_map]; exact Nat.le_trans (canon_len m f) hm
  have hmono : ∀ {a b : Nat} (h : a ≤ b) {xs : List Rat} {y : Rat}, SzAll a y xs → SzAll b y xs := by
    intro a b h xs
    induction xs with
    | nil => intro y z; exact Sz.mono z h
    | cons x xs ih => intro y z; exact ⟨z.1.mono h, z.2.1.mono h, ih z.2.2⟩
  refine hmono ?_ h2
  have : (1 + (terms vs (canon m f)).length) * (n + 8 + 1) ≤ 21 * (n + 9) := Nat.mul_le_mul_right _ (by omega)
  omega
end
def unF : D → Rat
  | .tup [.int a, .int b] => Rat.divInt a b
  | _ => 0
theorem unF_fq (x : Rat) : unF (fq x) = x := Rat.num_divInt_den x
theorem zip_vec (m : Nat) (f g : Nat → Rat) : zipD (vecD m f) (vecD m g) = (List.range m).map fun i => D.tup [fq (f i), fq (g i)] := by
  unfold zipD vecD
  rw [List.zip_map', List.map_map]
  rfl
def on2 (h : Rat → Rat → Rat) : D → D
  | .tup [a, b] => fq (h (unF a) (unF b))
  | d => d
theorem on2_map (h : Rat → Rat → Rat) (m : Nat) (f g : Nat → Rat) : ((List.range m).map fun i => D.tup [fq (f i), fq (g i)]).map (on2 h) = vecD m fun i => h (f i) (g i) := by
  unfold vecD
  rw [List.map_map]
  apply List.map_congr_left
  intro i _
  show fq (h (unF (fq (f i))) (unF (fq (g i)))) = _
  rw [unF_fq, unF_fq]
/-! nets -/
structure Sm where
  f : Nat → Rat
  c : Rat
def sD (k : Nat) (s : Sm) : D := sumD k s.f s.c
structure SmOk (n k : Nat) (s : Sm) : Prop where
  f : SzF n k s.f
  c : Sz n s.c
inductive CW where
  | plain | cut | step | most | switch
  deriving DecidableEq
def CW.s : CW → Str
  | .plain => "plain" | .cut => "cut" | .step => "step" | .most => "most" | .switch => "switch"
structure Cel where
  w : CW
  ss : List Sm
def cellD (k : Nat) (c : Cel) : D := match c.w with
  | .most => .tup [.str "most", .tup (c.ss.map (sD k))]
  | w => .tup (.str w.s :: c.ss.map (sD k))
/-- how many sums a cell may have -/
def CW.many : CW → Nat → Prop
  | .most, j => 2 ≤ j ∧ j ≤ 4
  | .switch, j => j = 3
  | _, j => j = 1
structure CelOk (n k : Nat) (c : Cel) : Prop where
  ss : ∀ s ∈ c.ss, SmOk n k s
  many : c.w.many c.ss.length
def cellsD (m : Nat) (cs : List Cel) : List D := cs.zipIdx.map fun p => cellD (m + p.2) p.1
structure Net where
  m : Nat
  cells : List Cel
  outs : List Sm
def netD (N : Net) : D := .tup [.int N.m, .tup (cellsD N.m N.cells), .tup (N.outs.map (sD (N.m + N.cells.length)))]
structure NetOk (n : Nat) (N : Net) : Prop where
  m1 : 1 ≤ N.m
  m4 : N.m ≤ 4
  cl : N.cells.length ≤ 40
  o1 : 1 ≤ N.outs.length
  o4 : N.outs.length ≤ 4
  cells : ∀ p ∈ N.cells.zipIdx, CelOk n (N.m + p.2) p.1
  outs : ∀ s ∈ N.outs, SmOk n (N.m + N.cells.length) s
  n2 : n ≤ 2000
theorem cells_len (m : Nat) (cs : List Cel) : (cellsD m cs).length = cs.length := by unfold cellsD; rw [List.length_map, List.length_zipIdx]
theorem enum_cells (m : Nat) (cs : List Cel) : enumD (cellsD m cs) = cs.zipIdx.map fun p => D.tup [.int (p.2 : Nat), cellD (m + p.2) p.1] := by
  unfold enumD cellsD
  apply List.ext_getElem?
  intro i
  by_cases h : i < cs.length
  · simp [h]
  · rw [List.getElem?_eq_none (by simp; omega), List.getElem?_eq_none (by simp; omega)]
theorem CW.len {w : CW} {j : Nat} (h : w.many j) : 1 ≤ j ∧ j ≤ 4 := by
  cases w <;> simp only [CW.many] at h <;> omega
section
variable {n k : Nat} {N : Net}
theorem SmOk.gs {s : Sm} (h : SmOk n k s) (hk : k < 64) (hn : n ≤ 2000) : GS n k s.f s.c := ⟨hk, h.f, h.c, hn⟩
theorem q_raw_is_sumS {s : Sm} (h0 : SmOk n k s) (hk : k < 64) (hn : n ≤ 2000) (h : Q (.pu (.bl true))) : m_raw_is_sum [.int k, sD k s] Q := by
  refine q_raw_is_sum (n := n) (by omega) (h0.gs hk hn).sumSz ?_
  have e : isSum (k : Int) (sD k s) = true := (h0.gs hk hn).isSum
  rw [e]; exact h
theorem q_raw_is_cell {c : Cel} (h0 : CelOk n k c) (hk : k < 64) (hn : n ≤ 2000) (h : Q (.pu (.bl true))) : m_raw_is_cell [.int k, cellD k c] Q := by
  refine pure_by rfl fun E hn' hr => ?_
  simp only [List.map_cons, List.map_nil, List.cons_append, List.nil_append, List.append_nil, Nat.reduceSub, List.reduceReplicate]
  unfold b_raw_is_cell
  obtain ⟨w, ss⟩ := c
  obtain ⟨hs, hm⟩ := h0
  have hl := CW.len hm
  have lz : ss.length ≤ sizeLine := Nat.le_trans hl.2 (by decide)
  have e2 : (ss.map fun _ => true).all id = true := by simp
  have step : ∀ s ∈ ss, ∀ Q : Rv → Prop, Q (.pu (.bl true)) → m_raw_is_sum [.int k, sD k s] Q := fun s hs' Q hQ => q_raw_is_sumS (hs s hs') hk hn hQ
  cases w
  case most =>
    have hm' : 2 ≤ ss.length ∧ ss.length ≤ 4 := hm
    have l1 : (2 : Int) ≤ ((ss.length : Nat) : Int) := by omega
    have l2 : ((ss.length : Nat) : Int) ≤ 4 := by omega
    simp! [cellD, List.length_map, l1, l2, dLc, dSeq]
    refine ⟨lz, lc_mapA (sD k) (fun _ => .bl true) ?_ ?_⟩
    · simp! [bls_true (sD k), e2]; exact hr _ _ h
    · intro s hs' R hR
      simp! []
      refine step s hs' _ ?_
      simp! []; exact hR
  all_goals
    have hm' : ss.length = 1 ∨ ss.length = 3 := by simp only [CW.many] at hm; omega
    have c1 : ∀ d : D, cutL (d :: ss.map (sD k)) (some 1) none = ss.map (sD k) := fun d => by rw [show (1 : Int) = ((1 : Nat) : Int) from rfl, cut_drop]; rfl
    have l1 : ¬ ((ss.length : Nat) : Int) + 1 < 2 := by omega
    have l2 : (((ss.length + 1 : Nat)) : Int) = ((ss.length : Nat) : Int) + 1 := by omega
    have l3 : ((ss.length : Nat) : Int) = 1 ∨ ((ss.length : Nat) : Int) = 3 := by omega
    simp only [CW.many] at hm
    have l4 : ((ss.length : Nat) : Int) = (ss.length : Int) := rfl
    simp! [cellD, CW.s, List.length_map, l2, l1, hm, dLc, dSeq, c1]
    try refine ⟨lz, ?_⟩
    refine lc_mapA (sD k) (fun _ => .bl true) ?_ ?_
    · simp! [bls_true (sD k), e2]; exact hr _ _ h
    · intro s hs' R hR
      simp! []
      refine step s hs' _ ?_
      simp! []; exact hR
theorem NetOk.k44 (h : NetOk n N) : N.m + N.cells.length < 64 := by have := h.m4; have := h.cl; omega
theorem q_is_net (h0 : NetOk n N) (h : Q (.pu (.bl true))) : m_is_net [netD N] Q := by
  refine pure_by rfl fun E hn' hr => ?_
  simp only [List.map_cons, List.map_nil, List.cons_append, List.nil_append, List.append_nil, Nat.reduceSub, List.reduceReplicate]
  unfold b_is_net netD
  simp! []
  refine q_is_tuple_of ?_
  simp! []
  refine q_is_within ?_
  have e1 : inR 1 4 (.int (N.m : Int)) = true := by have := h0.m1; have := h0.m4; unfold inR; simp; omega
  have l0 : ¬ (40 : Int) < ((N.cells.length : Nat) : Int) := by have := h0.cl; omega
  have l1 : (1 : Int) ≤ ((N.outs.length : Nat) : Int) := by have := h0.o1; omega
  have l2 : ((N.outs.length : Nat) : Int) ≤ 4 := by have := h0.o4; omega
  have lz : N.cells.length ≤ sizeLine := Nat.le_trans h0.cl (by decide)
  have lo : N.outs.length ≤ sizeLine := Nat.le_trans h0.o4 (by decide)
  simp! [e1, lTup_pu, cells_len, l0, List.length_map, l1, l2, dLc, dEnum, seqD, enum_cells]
  refine ⟨by rw [List.length_zipIdx]; exact lz, lc_mapA (fun p : Cel × Nat => D.tup [.int (p.2 : Nat), cellD (N.m + p.2) p.1]) (fun _ => .bl true) ?_ ?_⟩
  · have e2 : (N.cells.zipIdx.map fun _ => true).all id = true := by simp
    simp! [bls_map (fun _ : Cel × Nat => true), e2, dLc, dSeq]
    refine ⟨by rw [List.length_map]; exact lo, lc_mapA (sD (N.m + N.cells.length)) (fun _ => .bl true) ?_ ?_⟩
    · have e3 : (N.outs.map fun _ => true).all id = true := by simp
      simp! [bls_map (fun _ : Sm => true), e3]
      exact hr _ _ h
    · intro s hs' R hR
      simp! []
      have ec : ((N.m : Nat) : Int) + ((N.cells.length : Nat) : Int) = ((N.m + N.cells.length : Nat) : Int) := by omega
      rw [cells_len, ec]
      refine q_raw_is_sumS (h0.outs s hs') h0.k44 h0.n2 ?_
      simp! []
      exact hR
  · intro p hp R hR
    simp! [lTup_pu]
    have ec : ((N.m : Nat) : Int) + ((p.2 : Nat) : Int) = ((N.m + p.2 : Nat) : Int) := by omega
    rw [ec]
    have hp2 : p.2 < N.cells.length := by have := List.mem_zipIdx hp; omega
    refine q_raw_is_cell (h0.cells p hp) (by have := h0.k44; omega) h0.n2 ?_
    simp! []
    exact hR
theorem q_check_net (h0 : NetOk n N) (h : Q (.pu .non)) : m_check_net [netD N] Q := by
  refine pure_by rfl fun E hn' hr => ?_
  simp only [List.map_cons, List.map_nil, List.cons_append, List.nil_append, List.append_nil, Nat.reduceSub, List.reduceReplicate]
  unfold b_check_net
  simp! []
  refine q_is_net h0 ?_
  simp! []
  exact hn' _ h
end
/-! the law's nets -/
section
variable {r : Nat} {hs : List D} {QQ : Rv → List D → Prop} {m : Nat}
theorem q_lsum {k most : Nat} (h : HR r hs) (hk : 0 < k) (hk2 : k < 60) (hmo : 0 < most) (hmo2 : most < 60) (hr : 2 + 2 * most ≤ r) (kk : ∀ s : Sm, SmOk 4 k s → ∀ hs', HR (r - (2 + 2 * most)) hs' → QQ (.pu (sD k s)) hs') : m__law_sum hs [.int k, .int most] QQ := by
  refine q_law_sum (M := 1048576) (r := r - (2 + 2 * most)) (by decide) (HS.mono h (by omega)) hk hk2 hmo hmo2 fun f c hs' hf hc h' => ?_
  exact kk ⟨f, c⟩ ⟨hf, hc⟩ hs' h'
def cwords : List CW := [.cut, .cut, .step, .most, .switch, .plain]
theorem q_some_word {ws : List CW} (h : HR r hs) (hr : 1 ≤ r := by omega) (h0 : 0 < ws.length) (hl : ws.length < 1000) (k : ∀ w : CW, ∀ hs', HR (r - 1) hs' → QQ (.pu (.str w.s)) hs') : m__law_some hs [.lst (ws.map fun w => D.str w.s)] QQ := by
  refine q_sm h hr (by rw [List.length_map]; exact h0) (by rw [List.length_map]; omega) fun d hd hs' h' => ?_
  obtain ⟨w, _, rfl⟩ := List.mem_map.mp hd
  exact k w hs' h'
theorem cellsD_snoc (m : Nat) (cs : List Cel) (c : Cel) : cellsD m (cs ++ [c]) = cellsD m cs ++ [cellD (m + cs.length) c] := by
  unfold cellsD
  rw [List.zipIdx_append, List.map_append]
  simp
theorem q_law_net {most : Nat} (h : HR r hs) (hm : 1 ≤ m) (hm4 : m ≤ 4) (h0 : 0 < most) (hmo : most ≤ 12) (hr : 400 ≤ r := by omega)
    (k : ∀ N : Net, N.m = m → 1 ≤ N.cells.length → N.cells.length ≤ most → NetOk 4 N → ∀ hs', HR (r - 400) hs' → QQ (.pu (netD N)) hs') : m__law_net hs [.int m, .int most] QQ := by
  refine io_by rfl fun E hn hr' => ?_
  simp only [List.map_cons, List.map_nil, List.cons_append, List.nil_append, List.append_nil, Nat.reduceSub, List.reduceReplicate]
  unfold b__law_net
  simp! [dFor, dRng]
  refine q_dr h (by omega) (by omega) (by omega) fun i hi hs1 h1 => ?_
  simp! []
  have hl : (rangeD 0 ((1 : Int) + (i : Int)).toNat).length = i + 1 := by rw [range_len]; omega
  refine ⟨by omega, by omega, ?_⟩
  have er : rangeD 0 ((1 : Int) + (i : Int)).toNat = (List.range (i + 1)).map fun j : Nat => D.int (j : Int) := by
    unfold rangeD
    rw [show ((1 : Int) + (i : Int)).toNat = i + 1 by omega]
    apply List.map_congr_left
    intro j _
    show D.int (0 + (j : Int)) = _
    rw [Int.zero_add]
  rw [er]
  refine for_byA (fun j : Nat => D.int (j : Int)) (fun items S => ∃ cs hs2 s4 s5 s6 s7 s8, S = [.io 0 hs2, .pu (.int m), .pu (.int most), .ol (cellsD m cs), s4, s5, s6, s7, s8] ∧ items = List.range' cs.length items.length ∧ cs.length + items.length = i + 1 ∧ HR (r - 400 + 30 + 27 * items.length) hs2 ∧ ∀ p ∈ cs.zipIdx, CelOk 4 (m + p.2) p.1) ?_ ?_ _ _ ⟨[], hs1, _, _, _, _, _, rfl, ?_, ?_, h1.mono ?_, fun p hp => by cases hp⟩
  · rintro S ⟨cs, hs2, s4, s5, s6, s7, s8, rfl, _, e, h2, hc⟩
    rw [List.length_nil, Nat.add_zero] at e
    simp! [dLc, dRng]
    refine q_dr h2 (by omega) (by omega) (by omega) fun i2 hi2 hs3 h3 => ?_
    simp! []
    have hl2 : (rangeD 0 ((1 : Int) + (i2 : Int)).toNat).length = i2 + 1 := by rw [range_len]; omega
    refine ⟨by omega, by omega, by rw [hl2]; unfold sizeLine; omega, ?_⟩
    refine lc_gen (sD (m + cs.length)) (SmOk 4 (m + cs.length)) 8 (fun hs => [.io 0 hs, .pu (.int m), .pu (.int most), .ol (cellsD m cs), s4, s5, s6, s7, .no]) h3 (by rw [hl2]; omega) (fun ss e2 hss hs4 h4 => ?_) fun x hx hs4 r4 h4 hr4 R hR => ?_
    · simp! []
      have hlen : ss.length = i2 + 1 := by rw [e2, hl2]
      refine hr' _ _ _ (k ⟨m, cs, ss⟩ rfl (by show 1 ≤ cs.length; omega) (by show cs.length ≤ most; omega) ⟨hm, hm4, by show cs.length ≤ 40; omega, by show 1 ≤ ss.length; omega, by show ss.length ≤ 4; omega, hc, hss, by decide⟩ hs4 (h4.mono ?_))
      rw [hl2]; omega
    · simp! []
      rw [cells_len]
      have ec : ((m : Nat) : Int) + ((cs.length : Nat) : Int) = ((m + cs.length : Nat) : Int) := by omega
      rw [ec]
      refine q_lsum (r := r4) (most := 3) h4 (by omega) (by omega) (by decide) (by decide) (by omega) fun s hs' hs5 h5 => ?_
      simp! []
      exact hR s hs' hs5 (h5.mono (by omega))
  · rintro j js S ⟨cs, hs2, s4, s5, s6, s7, s8, rfl, e, el, h2, hc⟩ N hN
    rw [List.length_cons] at e el h2
    have ej : j = cs.length ∧ js = List.range' (cs.length + 1) js.length := by
      rw [List.range'_succ] at e
      exact ⟨(List.cons.inj e).1, (List.cons.inj e).2⟩
    obtain ⟨rfl, ejs⟩ := ej
    simp! [dConsO, dParN]
    have ec : ((m : Nat) : Int) + ((cs.length : Nat) : Int) = ((m + cs.length : Nat) : Int) := by omega
    refine q_some_word (ws := cwords) h2 (by omega) (by decide) (by decide) fun w hs3 h3 => ?_
    have fin : ∀ (w : CW) (ss : List Sm) (hs4 : List D) (s4 s5 s6 s7 s8 : Sl), w.many ss.length → (∀ s ∈ ss, SmOk 4 (m + cs.length) s) → HR (r - 400 + 30 + 27 * js.length) hs4 → N [.io 0 hs4, .pu (.int m), .pu (.int most), .ol (cellsD m cs ++ [cellD (m + cs.length) ⟨w, ss⟩]), s4, s5, s6, s7, s8] := by
      intro w ss hs4 s4 s5 s6 s7 s8 hw hss h4
      refine hN _ ⟨cs ++ [⟨w, ss⟩], hs4, s4, s5, s6, s7, s8, by rw [cellsD_snoc], by rw [List.length_append]; exact ejs, by rw [List.length_append]; simp; omega, h4, fun p hp => ?_⟩
      rw [List.zipIdx_append] at hp
      rcases List.mem_append.mp hp with hp | hp
      · exact hc p hp
      · simp at hp
        subst hp
        exact ⟨hss, hw⟩
    have gen : ∀ (j : Nat) (c : Int) (w : CW) (hs3 : List D) (Q : List D → Sg → Prop), c = 1 ∨ c = 2 ∨ c = 3 → HR (r - 400 + 30 + 27 * js.length + 18) hs3 → (∀ ss : List Sm, ss.length = c.toNat → (∀ s ∈ ss, SmOk 4 (m + cs.length) s) → ∀ hs4, HR (r - 400 + 30 + 27 * js.length) hs4 → Q (ss.map (sD (m + cs.length))) [.io 0 hs4, .pu (.int m), .pu (.int most), .ol (cellsD m cs), .pu (.int cs.length), s5, .pu (.str w.s), .pu (.int (m + cs.length : Nat)), .no]) →
        dLc.go (dgName 8) dYes (dCallIO m__law_sum (dCons (dVar 0) (dCons (dVar 7) (dCons (dC (.int 2)) dNil)))) [8] (rangeD 0 c.toNat) [] [.io 0 hs3, .pu (.int m), .pu (.int most), .ol (cellsD m cs), .pu (.int cs.length), s5, .pu (.str w.s), .pu (.int (m + cs.length : Nat)), .no] Q := by
      intro j c w hs3 Q hc3 h3 hQ
      have hl2 : (rangeD 0 c.toNat).length = c.toNat := range_len c
      have hc4 : c.toNat ≤ 3 := by omega
      refine lc_gen (sD (m + cs.length)) (SmOk 4 (m + cs.length)) 6 (fun hs => [.io 0 hs, .pu (.int m), .pu (.int most), .ol (cellsD m cs), .pu (.int cs.length), s5, .pu (.str w.s), .pu (.int (m + cs.length : Nat)), .no]) h3 (by rw [hl2]; omega) (fun ss e2 hss hs4 h4 => hQ ss (by rw [e2, hl2]) hss hs4 (h4.mono (by rw [hl2]; omega))) fun x hx hs4 r4 h4 hr4 R hR => ?_
      simp! []
      refine q_lsum (r := r4) (most := 2) h4 (by omega) (by omega) (by decide) (by decide) (by omega) fun s hs' hs5 h5 => ?_
      simp! []
      exact hR s hs' hs5 (h5.mono (by omega))
    have lb : cs.length < sizeLine := by unfold sizeLine; omega
    cases w
    all_goals simp! [CW.s, dLc, dRng, ec]
    case most =>
      refine q_dr h3 (by omega) (by omega) (by omega) fun i2 hi2 hs4 h4 => ?_
      simp! []
      have hl2 : (rangeD 0 ((2 : Int) + (i2 : Int)).toNat).length = i2 + 2 := by rw [range_len]; omega
      refine ⟨by omega, by omega, by rw [hl2]; unfold sizeLine; omega, ?_⟩
      refine gen 0 (2 + (i2 : Int)) .most hs4 _ (by omega) (h4.mono (by omega)) fun ss e2 hss hs5 h5 => ?_
      simp! [CW.s, cells_len, lb]
      exact fin .most ss hs5 _ _ _ _ _ (by show 2 ≤ ss.length ∧ ss.length ≤ 4; omega) hss h5
    case switch =>
      refine ⟨by decide, ?_⟩
      refine gen 0 3 .switch hs3 _ (by omega) (h3.mono (by omega)) fun ss e2 hss hs5 h5 => ?_
      have e4 : 1 + ss.length ≤ sizeLine := by rw [e2]; decide
      simp! [CW.s, cells_len, lb, e4, List.length_map]
      exact fin .switch ss hs5 _ _ _ _ _ e2 hss h5
    case plain =>
      refine ⟨by decide, ?_⟩
      refine gen 0 1 .plain hs3 _ (by omega) (h3.mono (by omega)) fun ss e2 hss hs5 h5 => ?_
      have e4 : 1 + ss.length ≤ sizeLine := by rw [e2]; decide
      simp! [CW.s, cells_len, lb, e4, List.length_map]
      exact fin .plain ss hs5 _ _ _ _ _ e2 hss h5
    case cut =>
      refine ⟨by decide, ?_⟩
      refine gen 0 1 .cut hs3 _ (by omega) (h3.mono (by omega)) fun ss e2 hss hs5 h5 => ?_
      have e4 : 1 + ss.length ≤ sizeLine := by rw [e2]; decide
      simp! [CW.s, cells_len, lb, e4, List.length_map]
      exact fin .cut ss hs5 _ _ _ _ _ e2 hss h5
    case step =>
      refine ⟨by decide, ?_⟩
      refine gen 0 1 .step hs3 _ (by omega) (h3.mono (by omega)) fun ss e2 hss hs5 h5 => ?_
      have e4 : 1 + ss.length ≤ sizeLine := by rw [e2]; decide
      simp! [CW.s, cells_len, lb, e4, List.length_map]
      exact fin .step ss hs5 _ _ _ _ _ e2 hss h5
  · rw [List.length_range, List.range_eq_range']; rfl
  · rw [List.length_range]; simp
  · rw [List.length_range]; omega
end
/-! sets of numbers held as dicts, lists of numbers -/
def natD (is : List Nat) : List D := is.map fun i => D.int (i : Nat)
def setD (is : List Nat) : List (Key × D) := is.map fun i => (.inl ((i : Nat) : Int), .bl true)
def rg (n : Nat) (p : Nat → Bool) : List Nat := (List.range n).filter p
theorem mem_rg {n : Nat} {p : Nat → Bool} {i : Nat} : i ∈ rg n p ↔ i < n ∧ p i = true := by unfold rg; rw [List.mem_filter, List.mem_range]
theorem rg_lt {n : Nat} {p : Nat → Bool} : (rg n p).Pairwise (· < ·) := List.Pairwise.filter _ List.pairwise_lt_range
theorem rg_len {n : Nat} {p : Nat → Bool} : (rg n p).length ≤ n := by
  have := List.length_filter_le p (List.range n)
  rw [List.length_range] at this; exact this
theorem lt_eq : ∀ {xs ys : List Nat}, xs.Pairwise (· < ·) → ys.Pairwise (· < ·) → (∀ i, i ∈ xs ↔ i ∈ ys) → xs = ys := by
  intro xs
  induction xs with
  | nil =>
    intro ys _ _ h
    cases ys with
    | nil => rfl
    | cons y ys => exact absurd ((h y).mpr (by simp)) (by simp)
  | cons x xs ih =>
    intro ys hx hy h
    cases ys with
    | nil => exact absurd ((h x).mp (by simp)) (by simp)
    | cons y ys =>
      rw [List.pairwise_cons] at hx hy
      have e : x = y := by
        rcases List.mem_cons.mp ((h x).mp (by simp)) with e | hxy
        · exact e
        · rcases List.mem_cons.mp ((h y).mpr (by simp)) with e | hyx
          · exact e.symm
          · have := hx.1 y hyx; have := hy.1 x hxy; omega
      subst e
      congr 1
      refine ih hx.2 hy.2 fun i => ⟨fun hi => ?_, fun hi => ?_⟩
      · rcases List.mem_cons.mp ((h i).mp (List.mem_cons_of_mem _ hi)) with e | h2
        · have := hx.1 i hi; omega
        · exact h2
      · rcases List.mem_cons.mp ((h i).mpr (List.mem_cons_of_mem _ hi)) with e | h2
        · have := hy.1 i hi; omega
        · exact h2
theorem rg_eq {n : Nat} {p : Nat → Bool} {xs : List Nat} (h : xs.Pairwise (· < ·)) (h2 : ∀ i, i ∈ xs ↔ i < n ∧ p i = true) : xs = rg n p :=
  lt_eq h rg_lt fun i => by rw [h2, mem_rg]
/-- numbers sorted, told apart -/
theorem sorted_rg {n : Nat} {p : Nat → Bool} {ks : List Nat} {ns : List Int} (hd : ks.Nodup) (hk : ∀ i, i ∈ ks ↔ i < n ∧ p i = true) (hp : ns.Perm (ks.map fun i : Nat => (i : Int))) (hs : ns.Pairwise (· ≤ ·)) : ns.map D.int = natD (rg n p) := by
  have hn : ∀ z ∈ ns, ∃ k : Nat, z = k ∧ k ∈ ks := fun z hz => by
    obtain ⟨k, h1, h2⟩ := List.mem_map.mp (hp.mem_iff.mp hz)
    exact ⟨k, h2.symm, h1⟩
  have nd : ns.Nodup := hp.nodup_iff.mpr (List.Pairwise.map _ (fun a b h => by omega) hd)
  have e : ns = (rg n p).map fun i : Nat => (i : Int) := by
    have e1 : ns.map Int.toNat = rg n p := by
      refine rg_eq ?_ fun i => ⟨fun hi => ?_, fun hi => ?_⟩
      · rw [List.pairwise_map]
        refine (List.Pairwise.and_mem.mp (hs.and nd)).imp fun {a b} h => ?_
        obtain ⟨ha, hb, h1, h2⟩ := h
        obtain ⟨k, e, _⟩ := hn a ha
        obtain ⟨k', e', _⟩ := hn b hb
        subst e e'
        show k < k'
        omega
      · obtain ⟨z, h1, rfl⟩ := List.mem_map.mp hi
        obtain ⟨k, e, h2⟩ := hn z h1
        subst e
        exact (hk k).mp h2
      · exact List.mem_map.mpr ⟨(i : Int), hp.mem_iff.mpr (List.mem_map.mpr ⟨i, (hk i).mpr hi, rfl⟩), rfl⟩
    rw [← e1, List.map_map]
    have : ns.map ((fun i : Nat => (i : Int)) ∘ Int.toNat) = ns.map id := by
      apply List.map_congr_left; intro z h
      obtain ⟨k, e, _⟩ := hn z h
      subst e; rfl
    rw [this, List.map_id]
  rw [e]
  unfold natD
  rw [List.map_map]; rfl
theorem intKeys_setD : ∀ ks : List Nat, intKeys ((setD ks).map (·.1)) = some (ks.map fun i : Nat => (i : Int))
  | [] => rfl
  | p :: ts => by
    show (intKeys ((setD ts).map (·.1))).map ((p : Int) :: ·) = _
    rw [intKeys_setD ts]; rfl
theorem intsD_natD : ∀ ks : List Nat, intsD (natD ks) = some (ks.map fun i : Nat => (i : Int))
  | [] => rfl
  | p :: ts => by
    show (intsD (natD ts)).map ((p : Int) :: ·) = _
    rw [intsD_natD ts]; rfl
structure IsSet (P : Nat → Prop) (kvs : List (Key × D)) : Prop where
  ks : ∃ ks : List Nat, kvs = setD ks ∧ ks.Nodup ∧ ∀ i, i ∈ ks ↔ P i
theorem IsSet.nil : IsSet (fun _ => False) [] := ⟨[], rfl, .nil, fun i => by simp⟩
theorem IsSet.iff {P P' : Nat → Prop} {kvs : List (Key × D)} (h : IsSet P kvs) (e : ∀ i, P i ↔ P' i) : IsSet P' kvs := by
  obtain ⟨ks, h1, h2, h3⟩ := h.ks
  exact ⟨ks, h1, h2, fun i => (h3 i).trans (e i)⟩
theorem any_setD (ks : List Nat) (j : Nat) : ((setD ks).any fun kv => decide (kv.1 = .inl ((j : Nat) : Int))) = decide (j ∈ ks) := by
  induction ks with
  | nil => rfl
  | cons k ks ih =>
    show (decide ((Sum.inl ((k : Nat) : Int) : Key) = .inl ((j : Nat) : Int)) || (setD ks).any _) = _
    rw [ih]
    by_cases e : k = j
    · subst e; simp
    · have h1 : ¬ (Sum.inl ((k : Nat) : Int) : Key) = .inl ((j : Nat) : Int) := by rw [key_eq]; exact e
      have h2 : (j ∈ k :: ks) = (j ∈ ks) := by simp [Ne.symm e]
      rw [decide_eq_false h1, Bool.false_or]
      simp only [h2]
theorem IsSet.put {P : Nat → Prop} {kvs : List (Key × D)} (h : IsSet P kvs) (j : Nat) : IsSet (fun i => P i ∨ i = j) (putG kvs (.inl ((j : Nat) : Int)) (.bl true)) := by
  obtain ⟨ks, rfl, h2, h3⟩ := h.ks
  unfold putG
  rw [any_setD]
  by_cases hj : j ∈ ks
  · rw [if_pos (by simpa using hj)]
    refine ⟨ks, ?_, h2, fun i => ⟨fun hi => Or.inl ((h3 i).mp hi), ?_⟩⟩
    · unfold setD
      rw [List.map_map]
      apply List.map_congr_left
      intro k _
      show (if (Sum.inl ((k : Nat) : Int) : Key) = .inl ((j : Nat) : Int) then _ else _) = _
      split
      · rfl
      · rfl
    · rintro (h | rfl)
      · exact (h3 i).mpr h
      · exact hj
  · rw [if_neg (by simpa using hj)]
    refine ⟨ks ++ [j], ?_, ?_, fun i => ?_⟩
    · unfold setD; rw [List.map_append]; rfl
    · rw [List.nodup_append]
      exact ⟨h2, by simp, fun a ha b hb => by
        rw [List.mem_singleton] at hb; subst hb
        exact fun e => hj (e ▸ ha)⟩
    · rw [List.mem_append, List.mem_singleton, h3]
theorem IsSet.merge {P : Nat → Prop} {kvs : List (Key × D)} (h : IsSet P kvs) (js : List Nat) : IsSet (fun i => P i ∨ i ∈ js) (mergeG kvs (setD js)) := by
  induction js generalizing P kvs with
  | nil => exact h.iff fun i => by simp
  | cons j js ih =>
    show IsSet _ (mergeG (putG kvs (.inl ((j : Nat) : Int)) (.bl true)) (setD js))
    refine (ih (h.put j)).iff fun i => ?_
    rw [List.mem_cons]
    constructor
    · rintro ((h | h) | h)
      · exact Or.inl h
      · exact Or.inr (Or.inl h)
      · exact Or.inr (Or.inr h)
    · rintro (h | h | h)
      · exact Or.inl (Or.inl h)
      · exact Or.inl (Or.inr h)
      · exact Or.inr h
theorem nodup_lt : ∀ {n : Nat} {ks : List Nat}, ks.Nodup → (∀ i ∈ ks, i < n) → ks.length ≤ n
  | 0, [], _, _ => Nat.le_refl _
  | 0, k :: ks, _, h => absurd (h k (by simp)) (by omega)
  | n + 1, ks, hd, h => by
    by_cases hn : n ∈ ks
    · have := nodup_lt (n := n) (hd.erase n) fun i hi => by
        obtain ⟨h1, h2⟩ := (List.Nodup.mem_erase_iff hd).mp hi
        have := h i h2; omega
      rw [List.length_erase_of_mem hn] at this
      omega
    · have := nodup_lt (n := n) hd fun i hi => by
        have := h i hi
        have : i ≠ n := fun e => hn (e ▸ hi)
        omega
      omega
theorem IsSet.len {P : Nat → Prop} {kvs : List (Key × D)} (h : IsSet P kvs) {n : Nat} (hn : ∀ i, P i → i < n) : kvs.length ≤ n := by
  obtain ⟨ks, rfl, h2, h3⟩ := h.ks
  unfold setD
  rw [List.length_map]
  exact nodup_lt h2 fun i hi => hn i ((h3 i).mp hi)
theorem IsSet.sorted {P : Nat → Prop} {kvs : List (Key × D)} (h : IsSet P kvs) {n : Nat} {p : Nat → Bool} (hp : ∀ i, P i ↔ i < n ∧ p i = true) (hn : n < 64) {ds : List D} {Q : Rv → Prop} (hQ : Q (.ol (natD (rg n p)))) : oSortedU [.dct (kvs.map (·.1)) ds] Q := by
  have hl := h.len (n := n) fun i hi => ((hp i).mp hi).1
  obtain ⟨ks, rfl, h2, h3⟩ := h.ks
  show (match intKeys ((setD ks).map (·.1)) with | some ns => _ | none => False)
  rw [intKeys_setD]
  unfold setD at hl
  rw [List.length_map] at hl
  refine ⟨by rw [List.length_map]; omega, fun ns h4 h5 => ?_⟩
  rw [sorted_rg h2 (fun i => (h3 i).trans (hp i)) h4 h5]
  exact hQ
theorem IsSet.has {P : Nat → Prop} {kvs : List (Key × D)} (h : IsSet P kvs) (j : Nat) : hasK (.inl ((j : Nat) : Int)) (kvs.map (·.1)) = true ↔ P j := by
  obtain ⟨ks, rfl, h2, h3⟩ := h.ks
  rw [← h3]
  have e : hasK (.inl ((j : Nat) : Int)) ((setD ks).map (·.1)) = decide (j ∈ ks) := by
    rw [← any_setD]; unfold hasK; rw [List.any_map]; rfl
  rw [e, decide_eq_true_iff]
theorem pairsD_set : ∀ js : List Nat, pairsD (js.map fun i => D.tup [.int (i : Nat), .bl true]) = some (setD js)
  | [] => rfl
  | j :: js => by
    show (match keyD (.int (j : Nat)), pairsD (js.map fun i => D.tup [.int (i : Nat), .bl true]) with
      | some key, some kvs => some ((key, D.bl true) :: kvs)
      | _, _ => none) = _
    rw [pairsD_set js]; rfl
theorem zip_kv (kvs : List (Key × D)) : (kvs.map (·.1)).zip (kvs.map (·.2)) = kvs := by
  induction kvs with
  | nil => rfl
  | cons p kvs ih => show (p.1, p.2) :: (kvs.map (·.1)).zip (kvs.map (·.2)) = _; rw [ih]
/-- a dict comprehension of numbers -/
theorem dc_set {g : DenG} {ek ev : Den} {vs : List Nat} {Q : List (Key × D) → Sg → Prop} {S : Sg} {items : List Nat}
    (fin : ∀ kvs, IsSet (fun i => i ∈ items) kvs → Q kvs S)
    (step : ∀ i ∈ items, ∀ R : Key → D → Sg → Prop, R (.inl ((i : Nat) : Int)) (.bl true) S → g (.pu (.int (i : Nat))) S fun S1 => ek S1 fun r S3 => (match r with
      | .pu d => (match keyD d with
        | some k => ev S3 fun r S4 => (match frc S4 r with
          | some (d, S5) => R k d (wipeS S5 vs)
          | none => False)
        | none => False)
      | _ => False)) : dDc.go g dYes ek ev vs (natD items) [] S Q := by
  have key : ∀ (rest : List Nat) (kvs : List (Key × D)) (P : Nat → Prop), IsSet P kvs → (∀ i ∈ rest, i ∈ items) → (∀ i, (P i ∨ i ∈ rest) ↔ i ∈ items) → dDc.go g dYes ek ev vs (natD rest) kvs S Q := by
    intro rest
    induction rest with
    | nil => exact fun kvs P h _ h2 => fin kvs (h.iff fun i => by rw [← h2]; simp)
    | cons x xs ih =>
      intro kvs P h h1 h2
      refine step x (h1 x (by simp)) (fun k d S' => dDc.go g dYes ek ev vs (natD xs) (putG kvs k d) S' Q) ?_
      refine ih _ _ (h.put x) (fun i hi => h1 i (List.mem_cons_of_mem _ hi)) fun i => ?_
      rw [← h2, List.mem_cons]
      constructor
      · rintro ((h | h) | h)
        · exact Or.inl h
        · exact Or.inr (Or.inl h)
        · exact Or.inr (Or.inr h)
      · rintro (h | h | h)
        · exact Or.inl (Or.inl h)
        · exact Or.inl (Or.inr h)
        · exact Or.inr h
  exact key items [] _ .nil (fun _ h => h) fun i => by simp
theorem inD_nat (j : Nat) (is : List Nat) : inD (.int (j : Nat)) (natD is) = decide (j ∈ is) := by
  unfold inD natD
  induction is with
  | nil => rfl
  | cons i is ih =>
    rw [List.map_cons, List.any_cons, ih, DL.eq_int]
    by_cases e : i = j
    · subst e; simp
    · have h1 : ¬ ((i : Nat) : Int) = ((j : Nat) : Int) := by omega
      have h2 : (j ∈ i :: is) = (j ∈ is) := by simp [Ne.symm e]
      rw [decide_eq_false h1, Bool.false_or]
      simp only [h2]
theorem okE_nat (is : List Nat) : okE (.lst (natD is)) = true := by
  refine okE_by 2 ?_
  unfold okAt natD
  simp [okAt]
theorem nat_len (is : List Nat) : (natD is).length = is.length := by unfold natD; rw [List.length_map]
/-! the sources of a cell, the cells ahead -/
def Cel.has (c : Cel) (i : Nat) : Bool := c.ss.any fun s => decide (s.f i ≠ 0)
theorem Cel.has_iff {c : Cel} {i : Nat} : c.has i = true ↔ ∃ s ∈ c.ss, s.f i ≠ 0 := by
  unfold Cel.has; rw [List.any_eq_true]; simp
theorem ord_pair : ∀ {a : Nat} {ps : Ps}, Ord_ a ps → (ps.map (·.1)).Pairwise (· < ·)
  | _, [], _ => .nil
  | a, p :: ps, h => by
    rw [List.map_cons, List.pairwise_cons]
    refine ⟨fun j hj => ?_, ord_pair h.2.2⟩
    obtain ⟨q, h1, rfl⟩ := List.mem_map.mp hj
    exact Ord_.ge h.2.2 q h1
theorem IsSet.merge2 {P P2 : Nat → Prop} {kvs more : List (Key × D)} (h : IsSet P kvs) (h2 : IsSet P2 more) : IsSet (fun i => P i ∨ P2 i) (mergeG kvs more) := by
  obtain ⟨js, rfl, h3, h4⟩ := h2.ks
  exact (h.merge js).iff fun i => by rw [h4]
theorem canon_fst {m : Nat} {f : Nat → Rat} {i : Nat} : i ∈ (canon m f).map (·.1) ↔ i < m ∧ f i ≠ 0 := by
  constructor
  · intro h
    obtain ⟨p, h1, rfl⟩ := List.mem_map.mp h
    have := canon_mem h1
    exact ⟨this.1, this.2.2⟩
  · rintro ⟨h1, h2⟩
    rcases Classical.em (i ∈ (canon m f).map (·.1)) with h | h
    · exact h
    · exact absurd ((canon_at (f := f) h1).symm.trans (at_of_not h)) h2
section
variable {n k : Nat} {N : Net}
theorem q_raw_cell_sums {c : Cel} (h0 : CelOk n k c) (h : ∀ (w : List D → D), w = D.lst ∨ w = D.tup → Q (.pu (w (c.ss.map (sD k))))) : m_raw_cell_sums [cellD k c] Q := by
  refine pure_by rfl fun E hn' hr => ?_
  simp only [List.map_cons, List.map_nil, List.cons_append, List.nil_append, List.append_nil, Nat.reduceSub, List.reduceReplicate]
  unfold b_raw_cell_sums
  obtain ⟨w, ss⟩ := c
  have c1 : ∀ d : D, cutL (d :: ss.map (sD k)) (some 1) none = ss.map (sD k) := fun d => by rw [show (1 : Int) = ((1 : Nat) : Int) from rfl, cut_drop]; rfl
  cases w
  all_goals simp! [cellD, CW.s, c1]
  all_goals exact hr _ _ (h D.tup (Or.inr rfl))
end
/-! the cells ahead -/
def Net.cel (N : Net) (c : Nat) : Cel := N.cells.getD c ⟨.plain, []⟩
def Net.has (N : Net) (c i : Nat) : Bool := (N.cel c).has i
/-- b stands ahead of c -/
def Net.ah (N : Net) (c b : Nat) : Bool := N.has c (N.m + b)
theorem rg_shift {m c : Nat} {p : Nat → Bool} : (rg (m + c) p).filterMap (fun i => if m ≤ i then some (i - m) else none) = rg c fun b => p (m + b) := by
  refine rg_eq ?_ fun i => ?_
  · refine List.Pairwise.filterMap _ ?_ rg_lt
    intro a b h x hx y hy
    split at hx
    · split at hy
      · cases hx; cases hy; omega
      · cases hy
    · cases hx
  · rw [List.mem_filterMap]
    constructor
    · rintro ⟨a, h1, h2⟩
      rw [mem_rg] at h1
      split at h2
      · rename_i h3
        cases h2
        refine ⟨by omega, ?_⟩
        rw [show m + (a - m) = a by omega]; exact h1.2
      · cases h2
    · rintro ⟨h1, h2⟩
      exact ⟨m + i, mem_rg.mpr ⟨by omega, h2⟩, by rw [if_pos (by omega)]; congr 1; omega⟩
section
variable {n c : Nat} {N : Net}
theorem cel_at (hc : c < N.cells.length) : N.cells[c]? = some (N.cel c) := by
  unfold Net.cel
  rw [List.getD_eq_getElem?_getD, List.getElem?_eq_getElem hc]; rfl
theorem NetOk.cel (h : NetOk n N) (hc : c < N.cells.length) : CelOk n (N.m + c) (N.cel c) := by
  refine h.cells (N.cel c, c) ?_
  rw [List.mem_zipIdx_iff_getElem?]
  exact cel_at hc
theorem cells_at (hc : c < N.cells.length) : atI (cellsD N.m N.cells) (c : Int) = some (cellD (N.m + c) (N.cel c)) := by
  rw [atI_n]
  unfold cellsD
  rw [List.getElem?_map, List.getElem?_zipIdx, cel_at hc]
  simp
end
/-! levels, the law's own sources -/
theorem cellD_cases (k : Nat) (c : Cel) : cellD k c = .tup [.str "most", .tup (c.ss.map (sD k))] ∨ ∃ w : Str, PyData.strOk w = true ∧ ¬ w = Str.ofString "most" ∧ cellD k c = .tup (.str w :: c.ss.map (sD k)) := by
  obtain ⟨w, ss⟩ := c
  cases w
  case most => exact Or.inl rfl
  case plain => exact Or.inr ⟨"plain", by decide +kernel, by decide +kernel, rfl⟩
  case cut => exact Or.inr ⟨"cut", by decide +kernel, by decide +kernel, rfl⟩
  case step => exact Or.inr ⟨"step", by decide +kernel, by decide +kernel, rfl⟩
  case switch => exact Or.inr ⟨"switch", by decide +kernel, by decide +kernel, rfl⟩
theorem cut1 (d : D) (ds : List D) : cutL (d :: ds) (some 1) none = ds := by rw [show (1 : Int) = ((1 : Nat) : Int) from rfl, cut_drop]; rfl
theorem fm_if {α β : Type} (p : α → Prop) [DecidablePred p] (g : α → β) : ∀ xs : List α, (xs.filterMap fun x => if p x then some (g x) else none) = (xs.filter fun x => decide (p x)).map g
  | [] => rfl
  | x :: xs => by
    rw [List.filterMap_cons, List.filter_cons, fm_if p g xs]
    by_cases h : p x <;> simp [h]
theorem lc_mapJ {α : Type} {g : DenG} {e : Den} {vs : List Nat} {Q : List D → Sg → Prop} {S : Sg} {xs : List α} (enc : α → D) (f : α → D) (J : Sg → Prop) (hS : J S) (fin : ∀ S, J S → Q (xs.map f) S)
    (step : ∀ x ∈ xs, ∀ S, J S → ∀ R : D → Sg → Prop, (∀ S', J S' → R (f x) S') → g (.pu (enc x)) S fun S1 => e S1 fun r S3 => (match frc S3 r with
      | some (d, S4) => R d (wipeS S4 vs)
      | none => False)) : dLc.go g dYes e vs (xs.map enc) [] S Q := by
  have key : ∀ rest done S, J S → xs = done ++ rest → dLc.go g dYes e vs (rest.map enc) (done.map f) S Q := by
    intro rest
    induction rest with
    | nil => intro done S hS h; rw [List.append_nil] at h; subst h; exact fin S hS
    | cons x rest ih =>
      intro done S hS h
      have hx : x ∈ xs := by rw [h]; simp
      refine step x hx S hS (fun d S' => dLc.go g dYes e vs (rest.map enc) (done.map f ++ [d]) S' Q) fun S' hS' => ?_
      have h1 := ih (done ++ [x]) S' hS' (by rw [h]; simp)
      rw [List.map_append] at h1
      exact h1
  exact key xs [] S hS rfl
def mxN (xs : List Nat) : Nat := xs.foldr (fun x a => max (x + 1) a) 0
theorem mx_lt : ∀ {xs : List Nat} {x : Nat}, x ∈ xs → x < mxN xs
  | y :: ys, x, h => by
    show x < max (y + 1) (mxN ys)
    rcases List.mem_cons.mp h with rfl | h
    · omega
    · have := mx_lt h; omega
theorem mx_mem : ∀ (xs : List Nat), mxN xs = 0 ∨ ∃ x ∈ xs, mxN xs = x + 1
  | [] => Or.inl rfl
  | y :: ys => by
    have e : mxN (y :: ys) = max (y + 1) (mxN ys) := rfl
    rcases mx_mem ys with h | ⟨x, h1, h2⟩
    · exact Or.inr ⟨y, by simp, by rw [e, h]; omega⟩
    · by_cases g : x ≤ y
      · exact Or.inr ⟨y, by simp, by rw [e, h2]; omega⟩
      · exact Or.inr ⟨x, by simp [h1], by rw [e, h2]; omega⟩
theorem mx_pos {xs : List Nat} (h : xs ≠ []) : 0 < mxN xs := by
  cases xs with
  | nil => exact absurd rfl h
  | cons y ys => exact Nat.lt_of_le_of_lt (Nat.zero_le y) (mx_lt (by simp))
theorem max_neg {xs : List Nat} {R : Int → Prop} (h : R (((mxN xs : Nat) : Int) - 1)) : match intsD (.int (-1) :: natD xs) with
    | some ns => 0 < ns.length ∧ ∀ m, m ∈ ns → (∀ y, y ∈ ns → y ≤ m) → R m
    | none => False := by
  have e : intsD (.int (-1) :: natD xs) = some (-1 :: xs.map fun i : Nat => (i : Int)) := by
    show (intsD (natD xs)).map ((-1) :: ·) = _
    rw [intsD_natD]; rfl
  rw [e]
  refine ⟨by simp, fun m hm hy => ?_⟩
  have : m = ((mxN xs : Nat) : Int) - 1 := by
    rcases mx_mem xs with h0 | ⟨x, h1, h2⟩
    · rcases List.mem_cons.mp hm with rfl | hm
      · rw [h0]; rfl
      · obtain ⟨z, h3, rfl⟩ := List.mem_map.mp hm
        have := mx_lt h3; omega
    · have h3 := hy (x : Int) (List.mem_cons_of_mem _ (List.mem_map.mpr ⟨x, h1, rfl⟩))
      rcases List.mem_cons.mp hm with rfl | hm
      · omega
      · obtain ⟨z, h4, rfl⟩ := List.mem_map.mp hm
        have := mx_lt h4; omega
  rw [this]; exact h
theorem max_nat {xs : List Nat} {R : Int → Prop} (h0 : xs ≠ []) (h : R (((mxN xs : Nat) : Int) - 1)) : match intsD (natD xs) with
    | some ns => 0 < ns.length ∧ ∀ m, m ∈ ns → (∀ y, y ∈ ns → y ≤ m) → R m
    | none => False := by
  rw [intsD_natD]
  refine ⟨by rw [List.length_map]; exact List.length_pos_iff.mpr h0, fun m hm hy => ?_⟩
  have : m = ((mxN xs : Nat) : Int) - 1 := by
    have hp := mx_pos h0
    rcases mx_mem xs with h0 | ⟨x, h1, h2⟩
    · omega
    · have h3 := hy (x : Int) (List.mem_map.mpr ⟨x, h1, rfl⟩)
      obtain ⟨z, h4, rfl⟩ := List.mem_map.mp hm
      have := mx_lt h4; omega
  rw [this]; exact h
theorem range_nat (k : Nat) : rangeD 0 ((k : Nat) : Int).toNat = natD (List.range k) := by
  unfold rangeD natD
  apply List.map_congr_left
  intro j _
  show D.int (0 + (j : Int)) = _
  rw [Int.zero_add]
def Net.lvs (N : Net) : Nat → List Nat
  | 0 => []
  | c + 1 => N.lvs c ++ [mxN ((rg c (N.ah c)).map fun b => (N.lvs c).getD b 0)]
def Net.lv (N : Net) (c : Nat) : Nat := (N.lvs (c + 1)).getD c 0
theorem lvs_eq (N : Net) : ∀ c, N.lvs c = (List.range c).map N.lv
  | 0 => rfl
  | c + 1 => by
    have h : (N.lvs c).length = c := by rw [lvs_eq N c, List.length_map, List.length_range]
    rw [List.range_succ, List.map_append, ← lvs_eq N c]
    show N.lvs c ++ _ = N.lvs c ++ [N.lv c]
    congr 2
    unfold Net.lv
    show _ = (N.lvs c ++ [_]).getD c 0
    rw [List.getD_eq_getElem?_getD, List.getElem?_append_right (by omega), h]
    simp
theorem lvs_get (N : Net) {c b : Nat} (h : b < c) : (N.lvs c).getD b 0 = N.lv b := by
  rw [lvs_eq, List.getD_eq_getElem?_getD, List.getElem?_map, List.getElem?_range h]; rfl
theorem lv_eq (N : Net) (c : Nat) : N.lv c = mxN ((rg c (N.ah c)).map N.lv) := by
  have h : (N.lvs c).length = c := by rw [lvs_eq N c, List.length_map, List.length_range]
  have e : ((rg c (N.ah c)).map fun b => (N.lvs c).getD b 0) = (rg c (N.ah c)).map N.lv := by
    apply List.map_congr_left
    intro b hb
    exact lvs_get N (mem_rg.mp hb).1
  rw [← e]
  show (N.lvs c ++ [_]).getD c 0 = _
  rw [List.getD_eq_getElem?_getD, List.getElem?_append_right (by omega), h]
  simp
theorem lv_le (N : Net) : ∀ c, N.lv c ≤ c := by
  intro c
  induction c using Nat.strongRecOn with
  | _ c ih =>
    rw [lv_eq]
    rcases mx_mem ((rg c (N.ah c)).map N.lv) with h | ⟨x, h1, h2⟩
    · omega
    · obtain ⟨b, h3, rfl⟩ := List.mem_map.mp h1
      have := mem_rg.mp h3
      have := ih b this.1
      omega
theorem enum_nat {f : Nat → Nat} (n : Nat) : enumD (natD ((List.range n).map f)) = (List.range n).map fun c => D.tup [.int (c : Nat), .int (f c : Nat)] := by
  unfold enumD natD
  apply List.ext_getElem?
  intro i
  by_cases h : i < n
  · simp [h]
  · rw [List.getElem?_eq_none (by simp; omega), List.getElem?_eq_none (by simp; omega)]
theorem nat_at {xs : List Nat} {b x : Nat} (h : xs[b]? = some x) : atI (natD xs) ((b : Nat) : Int) = some (.int (x : Nat)) := by
  rw [atI_n]; unfold natD; rw [List.getElem?_map, h]; rfl
theorem lv_at {N : Net} {c b : Nat} (h : b < c) : atI (natD ((List.range c).map N.lv)) ((b : Nat) : Int) = some (.int (N.lv b : Nat)) :=
  nat_at (by rw [List.getElem?_map, List.getElem?_range h]; rfl)
theorem natD_snoc (xs : List Nat) (x : Nat) : natD xs ++ [.int (x : Nat)] = natD (xs ++ [x]) := by unfold natD; rw [List.map_append]; rfl
section
variable {n c : Nat} {N : Net}
/-- how many levels -/
def Net.top (N : Net) : Nat := mxN ((List.range N.cells.length).map N.lv)
def Net.at (N : Net) (l : Nat) : List Nat := rg N.cells.length fun c => decide (N.lv c = l)
def Net.levD (N : Net) : D := .tup ((List.range N.top).map fun l => .tup (natD (N.at l)))
theorem top_le : N.top ≤ N.cells.length := by
  unfold Net.top
  rcases mx_mem ((List.range N.cells.length).map N.lv) with h | ⟨x, h1, h2⟩
  · omega
  · obtain ⟨b, h3, rfl⟩ := List.mem_map.mp h1
    have := List.mem_range.mp h3
    have := lv_le N b
    omega
end
/-! sums put in: the plain side -/
def zS : Sm := ⟨fun _ => 0, 0⟩
def pF (ss : List Sm) (ps : Ps) (j : Nat) : Rat := tot 0 (ps.map fun p => (ss.getD p.1 zS).f j * p.2)
def pC (ss : List Sm) (ps : Ps) (c : Rat) : Rat := tot c (ps.map fun p => (ss.getD p.1 zS).c * p.2)
theorem tot_snoc (c x : Rat) (xs : List Rat) : tot c (xs ++ [x]) = tot c xs + x := by unfold tot; rw [List.foldl_append]; rfl
theorem tot_szz {k b : Nat} : ∀ (xs : List Rat) (a : Rat), Sz b a → (∀ x ∈ xs, Sz k x) → Sz (b + xs.length * (k + 1)) (tot a xs)
  | [], a, h, _ => Sz.mono h (by simp)
  | x :: xs, a, h, hx => by
    have h1 := tot_szz xs (a + x) (sz_add h (hx x (by simp))) fun y hy => hx y (by simp [hy])
    exact Sz.mono h1 (by rw [List.length_cons, Nat.add_mul]; omega)
theorem getD_ss {ss : List Sm} {i : Nat} (h : i < ss.length) : ss.getD i zS ∈ ss := by
  rw [List.getD_eq_getElem?_getD, List.getElem?_eq_getElem h]; exact List.getElem_mem h
/-- pairs that fit the sums -/
structure PsOk (n : Nat) (ss : List Sm) (ps : Ps) : Prop where
  lt : ∀ p ∈ ps, p.1 < ss.length
  sz : ∀ p ∈ ps, Sz n p.2
section
variable {n m k : Nat} {ss : List Sm} {ps : Ps} {c : Rat}
theorem pF_sz (hs : ∀ s ∈ ss, SmOk n m s) (h : PsOk n ss ps) {j : Nat} (hj : j < m) : Sz (1 + ps.length * (2 * n + 1)) (pF ss ps j) := by
  have h1 := tot_szz (k := n + n) (b := 1) (ps.map fun p => (ss.getD p.1 zS).f j * p.2) 0 sz0 fun x hx => by
    obtain ⟨p, hp, rfl⟩ := List.mem_map.mp hx
    exact sz_mul ((hs _ (getD_ss (h.lt p hp))).f j hj) (h.sz p hp)
  rw [List.length_map] at h1
  rw [show 2 * n + 1 = n + n + 1 by omega]
  exact h1
theorem pC_sz (hs : ∀ s ∈ ss, SmOk n m s) (h : PsOk n ss ps) (hc : Sz n c) : Sz (n + ps.length * (2 * n + 1)) (pC ss ps c) := by
  have h1 := tot_szz (k := n + n) (b := n) (ps.map fun p => (ss.getD p.1 zS).c * p.2) c hc fun x hx => by
    obtain ⟨p, hp, rfl⟩ := List.mem_map.mp hx
    exact sz_mul (hs _ (getD_ss (h.lt p hp))).c (h.sz p hp)
  rw [List.length_map] at h1
  rw [show 2 * n + 1 = n + n + 1 by omega]
  exact h1
theorem pF_snoc (p : Nat × Rat) (j : Nat) : pF ss (ps ++ [p]) j = pF ss ps j + (ss.getD p.1 zS).f j * p.2 := by unfold pF; rw [List.map_append]; exact tot_snoc _ _ _
theorem pC_snoc (p : Nat × Rat) : pC ss (ps ++ [p]) c = pC ss ps c + (ss.getD p.1 zS).c * p.2 := by unfold pC; rw [List.map_append]; exact tot_snoc _ _ _
/-- what is put in -/
def putS (k : Nat) (ss : List Sm) (s : Sm) : Sm := ⟨pF ss (canon k s.f), pC ss (canon k s.f) s.c⟩
def pSz (n k : Nat) : Nat := n + 1 + k * (2 * n + 1)
theorem canon_ok {g : Nat → Rat} (hg : SzF n k g) (hl : ss.length = k) : PsOk n ss (canon k g) :=
  ⟨fun p hp => by rw [hl]; exact (canon_mem hp).1, fun p hp => by rw [(canon_mem hp).2.1]; exact hg _ (canon_mem hp).1⟩
theorem PsOk.pre {qs : Ps} (h : PsOk n ss (ps ++ qs)) : PsOk n ss ps := ⟨fun p hp => h.lt p (by simp [hp]), fun p hp => h.sz p (by simp [hp])⟩
theorem putS_ok {s : Sm} (hs : ∀ s ∈ ss, SmOk n m s) (h : SmOk n k s) (hl : ss.length = k) : SmOk (pSz n k) m (putS k ss s) := by
  have l1 := Nat.mul_le_mul_right (2 * n + 1) (canon_len k s.f)
  exact ⟨fun j hj => (pF_sz hs (canon_ok h.f hl) hj).mono (by unfold pSz; omega), (pC_sz hs (canon_ok h.f hl) h.c).mono (by unfold pSz; omega)⟩
/-! worths, by sums over all sources -/
def cf (ss : List Sm) (j : Nat) : List Rat := ss.map fun s => s.f j
def cc_ (ss : List Sm) : List Rat := ss.map fun s => s.c
theorem cf_at {i j : Nat} : (cf ss j).getD i 0 = (ss.getD i zS).f j := by
  unfold cf
  rw [List.getD_eq_getElem?_getD, List.getD_eq_getElem?_getD, List.getElem?_map]
  cases ss[i]? <;> rfl
theorem cc_at {i : Nat} : (cc_ ss).getD i 0 = (ss.getD i zS).c := by
  unfold cc_
  rw [List.getD_eq_getElem?_getD, List.getD_eq_getElem?_getD, List.getElem?_map]
  cases ss[i]? <;> rfl
theorem pF_eq {g : Nat → Rat} (j : Nat) : pF ss (canon k g) j = SS (cf ss j) g 0 k := by
  have e : pF ss (canon k g) j = tot 0 (terms (cf ss j) (canon k g)) := by
    unfold pF terms
    congr 1
    apply List.map_congr_left
    intro p _
    rw [cf_at, Rat.mul_comm]
  rw [e, W_eq, Rat.zero_add]
theorem pC_eq {g : Nat → Rat} : pC ss (canon k g) c = c + SS (cc_ ss) g 0 k := by
  have e : pC ss (canon k g) c = tot c (terms (cc_ ss) (canon k g)) := by
    unfold pC terms
    congr 1
    apply List.map_congr_left
    intro p _
    rw [cc_at, Rat.mul_comm]
  rw [e, W_eq]
/-- the worth of a sum over so many -/
def wS (m : Nat) (vs : List Rat) (s : Sm) : Rat := s.c + SS vs s.f 0 m
theorem SS_zero (vs : List Rat) : ∀ (k a : Nat), SS vs (fun _ => 0) a k = 0
  | 0, _ => rfl
  | k + 1, a => by unfold SS; rw [SS_zero vs k (a + 1)]; grind
theorem SS_lin (vs : List Rat) (f g : Nat → Rat) (x : Rat) : ∀ (k a : Nat), SS vs (fun j => f j + x * g j) a k = SS vs f a k + x * SS vs g a k
  | 0, _ => by unfold SS; grind
  | k + 1, a => by unfold SS; rw [SS_lin vs f g x k (a + 1)]; grind
theorem SS_congr {vs ws : List Rat} {f g : Nat → Rat} : ∀ (k a : Nat), (∀ i, a ≤ i → i < a + k → f i * vs.getD i 0 = g i * ws.getD i 0) → SS vs f a k = SS ws g a k
  | 0, _, _ => rfl
  | k + 1, a, h => by
    unfold SS
    rw [SS_congr k (a + 1) fun i h1 h2 => h i (by omega) (by omega), h a (Nat.le_refl _) (by omega)]
/-- sums over sums, the other way about -/
theorem SS_swap (vs : List Rat) (ss : List Sm) (g : Nat → Rat) (m b : Nat) : ∀ (k a : Nat), SS vs (fun j => SS (cf ss j) g a k) b m = SS (ss.map fun s => SS vs s.f b m) g a k
  | 0, a => SS_zero vs m b
  | k + 1, a => by
    have e : (fun j => SS (cf ss j) g a (k + 1)) = fun j => SS (cf ss j) g (a + 1) k + g a * (ss.getD a zS).f j := by
      funext j
      show g a * (cf ss j).getD a 0 + SS (cf ss j) g (a + 1) k = _
      rw [cf_at]; grind
    rw [e, SS_lin, SS_swap vs ss g m b k (a + 1)]
    show _ = g a * (ss.map fun s => SS vs s.f b m).getD a 0 + SS (ss.map fun s => SS vs s.f b m) g (a + 1) k
    have e2 : (ss.map fun s => SS vs s.f b m).getD a 0 = SS vs (ss.getD a zS).f b m := by
      rw [List.getD_eq_getElem?_getD, List.getD_eq_getElem?_getD, List.getElem?_map]
      cases ss[a]? with
      | none => exact (SS_zero vs m b).symm
      | some s => rfl
    rw [e2]; grind
theorem SS_vadd (g : Nat → Rat) (ss : List Sm) (p q : Sm → Rat) (h : p zS + q zS = 0) (hp : p zS = 0) : ∀ (k a : Nat), SS (ss.map fun s => p s + q s) g a k = SS (ss.map p) g a k + SS (ss.map q) g a k
  | 0, _ => by unfold SS; grind
  | k + 1, a => by
    have e : ∀ f : Sm → Rat, f zS = 0 → (ss.map f).getD a 0 = f (ss.getD a zS) := fun f hf => by
      rw [List.getD_eq_getElem?_getD, List.getD_eq_getElem?_getD, List.getElem?_map]
      cases ss[a]? with
      | none => exact hf.symm
      | some s => rfl
    unfold SS
    rw [SS_vadd g ss p q h hp k (a + 1), e (fun s => p s + q s) h, e p hp, e q (by grind)]
    grind
/-- THE FACT OF SUMS -/
theorem wS_put (vs : List Rat) (ss : List Sm) (s : Sm) (k m : Nat) : wS m vs (putS k ss s) = wS k (ss.map (wS m vs)) s := by
  unfold wS putS
  show pC ss (canon k s.f) s.c + SS vs (pF ss (canon k s.f)) 0 m = s.c + SS (ss.map fun t => t.c + SS vs t.f 0 m) s.f 0 k
  rw [pC_eq]
  have e : pF ss (canon k s.f) = fun j => SS (cf ss j) s.f 0 k := funext fun j => pF_eq j
  rw [e, SS_swap, SS_vadd s.f ss (fun t => t.c) (fun t => SS vs t.f 0 m) (by show (0 : Rat) + SS vs (fun _ => 0) 0 m = 0; rw [SS_zero]; exact Rat.add_zero 0) rfl]
  have e2 : cc_ ss = ss.map fun t => t.c := rfl
  rw [e2, Rat.add_assoc]
theorem wS_eq {vs : List Rat} {s : Sm} : tot s.c (terms vs (canon m s.f)) = wS m vs s := W_eq
/-- put in twice -/
theorem put_put (os ss : List Sm) (s : Sm) (k m j : Nat) : (putS m os (putS k ss s)).f j = (putS k (ss.map (putS m os)) s).f j ∧ (putS m os (putS k ss s)).c = (putS k (ss.map (putS m os)) s).c := by
  have e : pF ss (canon k s.f) = fun j => SS (cf ss j) s.f 0 k := funext fun j => pF_eq j
  constructor
  · show pF os (canon m (pF ss (canon k s.f))) j = pF (ss.map (putS m os)) (canon k s.f) j
    rw [pF_eq, pF_eq, e, SS_swap]
    have e2 : cf (ss.map (putS m os)) j = ss.map fun t => SS (cf os j) t.f 0 m := by
      unfold cf
      rw [List.map_map]
      apply List.map_congr_left
      intro t _
      exact pF_eq j
    rw [e2]
  · show pC os (canon m (pF ss (canon k s.f))) (pC ss (canon k s.f) s.c) = pC (ss.map (putS m os)) (canon k s.f) s.c
    rw [pC_eq, pC_eq, pC_eq, e, SS_swap]
    have e2 : cc_ (ss.map (putS m os)) = ss.map fun t => t.c + SS (cc_ os) t.f 0 m := by
      unfold cc_
      rw [List.map_map]
      apply List.map_congr_left
      intro t _
      exact pC_eq
    rw [e2, SS_vadd s.f ss (fun t => t.c) (fun t => SS (cc_ os) t.f 0 m) (by show (0 : Rat) + SS (cc_ os) (fun _ => 0) 0 m = 0; rw [SS_zero]; exact Rat.add_zero 0) rfl, Rat.add_assoc]
    rfl
theorem sumD_congr {f g : Nat → Rat} {c d : Rat} (h : ∀ i, i < m → f i = g i) (hc : c = d) : sumD m f c = sumD m g d := by unfold sumD; rw [canon_congr h, hc]
end
/-! worths of sums, with sizes -/
section
variable {n b m : Nat} {vs : List Rat} {s : Sm}
theorem W_szG (h0 : SmOk n m s) (hv : ∀ v ∈ vs, Sz b v) (hl : vs.length = m) (hn : 1 ≤ n) : SzAll ((m + 2) * (n + b + 1)) s.c (terms vs (canon m s.f)) := by
  have h1 : ∀ x ∈ terms vs (canon m s.f), Sz (n + b) x := fun x hx => by
    obtain ⟨p, hp, rfl⟩ := List.mem_map.mp hx
    obtain ⟨a1, a2, _⟩ := canon_mem hp
    rw [a2]
    exact sz_mul (h0.f _ a1) (hv _ (getD_mem (by omega)))
  have h2 := szAll_of (n := n + b) (by omega) (terms vs (canon m s.f)) s.c 1 (h0.c.mono (by omega)) h1
  have hlen : (terms vs (canon m s.f)).length ≤ m := by unfold terms; rw [List.length_map]; exact canon_len m s.f
  have hmono : ∀ {a b : Nat} (h : a ≤ b) {xs : List Rat} {y : Rat}, SzAll a y xs → SzAll b y xs := by
    intro a b h xs
    induction xs with
    | nil => intro y z; exact Sz.mono z h
    | cons x xs ih => intro y z; exact ⟨z.1.mono h, z.2.1.mono h, ih z.2.2⟩
  refine hmono ?_ h2
  have h3 : (1 + (terms vs (canon m s.f)).length) * (n + b + 1) ≤ (1 + m) * (n + b + 1) := Nat.mul_le_mul_right _ (by omega)
  rw [show (m + 2) * (n + b + 1) = (1 + m) * (n + b + 1) + (n + b + 1) by rw [show m + 2 = (1 + m) + 1 by omega, Nat.succ_mul]]
  omega
theorem wS_sz (h0 : SmOk n m s) (hv : ∀ v ∈ vs, Sz b v) (hl : vs.length = m) : Sz (n + m * (n + b + 1)) (wS m vs s) := by
  rw [← wS_eq]
  have h1 := tot_szz (k := n + b) (terms vs (canon m s.f)) s.c h0.c fun x hx => by
    obtain ⟨p, hp, rfl⟩ := List.mem_map.mp hx
    obtain ⟨a1, a2, _⟩ := canon_mem hp
    rw [a2]
    exact sz_mul (h0.f _ a1) (hv _ (getD_mem (by omega)))
  have hlen : (terms vs (canon m s.f)).length ≤ m := by unfold terms; rw [List.length_map]; exact canon_len m s.f
  have h2 := Nat.mul_le_mul_right (n + b + 1) hlen
  exact h1.mono (by omega)
theorem q_raw_worthS (h0 : SmOk n m s) (hv : ∀ v ∈ vs, Sz b v) (hl : vs.length = m) (hn : 1 ≤ n) (hnb : n + b ≤ 4000) (hN : (m + 2) * (n + b + 1) ≤ 4000) (h : Q (.pu (fq (wS m vs s)))) : m_raw_worth [.tup (vs.map fq), sD m s] Q :=
  q_raw_worth (n := n + b) (fun p hp => by rw [hl]; exact (canon_mem hp).1) (fun p hp => by rw [(canon_mem hp).2.1]; exact (h0.f _ (canon_mem hp).1).mono) (fun v hv' => (hv v hv').mono) (W_szG h0 hv hl hn) (by omega) (by omega) (by rw [wS_eq]; exact h)
theorem oIx_t {vs : List Rat} {i : Nat} (h : i < vs.length) (Q : Rv → Prop) : oIx (.tup (vs.map fq)) (.int (i : Nat)) Q = Q (.pu (fq (vs.getD i 0))) := ixt_at (ix_vals h)
theorem oIx_l {vs : List Rat} {i : Nat} (h : i < vs.length) (Q : Rv → Prop) : oIx (.lst (vs.map fq)) (.int (i : Nat)) Q = Q (.pu (fq (vs.getD i 0))) := ix_at (ix_vals h)
theorem sD_congr {s t : Sm} (h : ∀ i, i < m → s.f i = t.f i) (hc : s.c = t.c) : sD m s = sD m t := by unfold sD; exact sumD_congr h hc
theorem okE_sD (k : Nat) (s : Sm) : okE (sD k s) = true := okE_sumD _ _ _
theorem eq_sD (k : Nat) (s : Sm) : eqD (sD k s) (sD k s) = true := eq_sumD _ _ _
theorem okE_fqq (x : Rat) : okE (fq x) = true := okE_by 1 (okAt_fq 0 x)
theorem eq_fqq (x : Rat) : eqD (fq x) (fq x) = true := eqD_refl (okAt_fq 0 x)
theorem SmOk.mono {n n' k : Nat} {s : Sm} (h : SmOk n k s) (hn : n ≤ n') : SmOk n' k s := ⟨fun i hi => (h.f i hi).mono, h.c.mono⟩
end
/-! fractions over one bottom -/
def Cd (d B : Nat) (x : Rat) : Prop := 0 < d ∧ ∃ k : Int, x = Rat.divInt k d ∧ k.natAbs ≤ B * d
section
variable {d e B C : Nat} {x y : Rat}
theorem Cd.sz {N : Nat} (h : Cd d B x) (h1 : d < 2 ^ N) (h2 : B * d < 2 ^ N) : Sz N x := by
  obtain ⟨h0, k, rfl, hk⟩ := h
  exact sz_divInt (by omega) (Nat.lt_of_le_of_lt hk h2) (by rw [Int.natAbs_natCast]; exact h1)
theorem Cd.add (h : Cd d B x) (g : Cd d C y) : Cd d (B + C) (x + y) := by
  obtain ⟨h0, k, rfl, hk⟩ := h
  obtain ⟨_, l, rfl, hl⟩ := g
  refine ⟨h0, k + l, ?_, ?_⟩
  · rw [Rat.divInt_add_divInt _ _ (by omega) (by omega), ← Int.add_mul, Rat.divInt_mul_right (by omega)]
  · rw [Nat.add_mul]
    have := Int.natAbs_add_le k l
    omega
theorem Cd.mul (h : Cd d B x) (g : Cd e C y) : Cd (d * e) (B * C) (x * y) := by
  obtain ⟨h0, k, rfl, hk⟩ := h
  obtain ⟨g0, l, rfl, hl⟩ := g
  refine ⟨Nat.mul_pos h0 g0, k * l, ?_, ?_⟩
  · rw [Rat.divInt_mul_divInt]; rfl
  · rw [Int.natAbs_mul]
    have := Nat.mul_le_mul hk hl
    rw [show B * C * (d * e) = B * d * (C * e) by rw [Nat.mul_mul_mul_comm]]
    exact this
theorem Cd.up (h : Cd d B x) (he : 0 < e) (hB : B ≤ C) : Cd (d * e) C x := by
  obtain ⟨h0, k, rfl, hk⟩ := h
  refine ⟨Nat.mul_pos h0 he, k * e, ?_, ?_⟩
  · rw [show ((d * e : Nat) : Int) = (d : Int) * (e : Int) by push_cast; rfl, Rat.divInt_mul_right (by omega)]
  · rw [Int.natAbs_mul, Int.natAbs_natCast]
    have h1 := Nat.mul_le_mul_right e hk
    have h2 := Nat.mul_le_mul_right (d * e) hB
    rw [Nat.mul_assoc] at h1
    omega
theorem Cd.le (h : Cd d B x) (hB : B ≤ C) : Cd d C x := by
  obtain ⟨h0, k, e, hk⟩ := h
  exact ⟨h0, k, e, Nat.le_trans hk (Nat.mul_le_mul_right d hB)⟩
theorem Cd.zero (h : 0 < d) : Cd d B 0 := ⟨h, 0, by rw [Rat.zero_divInt], by simp⟩
theorem Cd.one (h : 0 < d) (hB : 1 ≤ B) : Cd d B 1 := ⟨h, d, by rw [Rat.divInt_self' (by omega)], by rw [Int.natAbs_natCast]; exact Nat.le_mul_of_pos_left d hB⟩
theorem Cd.pos (h : Cd d B x) : 0 < d := h.1
/-- all bottoms below 16 -/
def Lc : Nat := 360360
theorem lc_dvd {k : Nat} (h1 : 0 < k) (h2 : k < 16) : ∃ e, Lc = k * e := by
  have : ∀ k, k < 16 → 0 < k → Lc % k = 0 := by decide
  exact ⟨Lc / k, (Nat.mul_div_cancel' (Nat.dvd_of_mod_eq_zero (this k h2 h1))).symm⟩
theorem cd_of (h : Sz 4 x) : Cd Lc 16 x := by
  obtain ⟨h1, h2⟩ := h
  have h0 : 0 < x.den := Nat.pos_of_ne_zero x.den_nz
  obtain ⟨e, he⟩ := lc_dvd h0 h2
  refine ⟨by decide, x.num * e, ?_, ?_⟩
  · rw [he, show ((x.den * e : Nat) : Int) = (x.den : Int) * (e : Int) by push_cast; rfl, Rat.divInt_mul_right (by
      intro z
      have : e = 0 := by omega
      subst this
      cases he)]
    exact (Rat.num_divInt_den x).symm
  · rw [Int.natAbs_mul, Int.natAbs_natCast, he]
    have a1 : x.num.natAbs ≤ 16 := by omega
    have a2 := Nat.mul_le_mul_right e a1
    have a3 : 16 * e ≤ 16 * (x.den * e) := Nat.mul_le_mul_left 16 (Nat.le_mul_of_pos_left e h0)
    omega
theorem cd_tot {N : Nat} : ∀ (xs : List Rat) (c : Rat) (j : Nat), Cd d (j * B) c → (∀ x ∈ xs, Cd d B x) → d < 2 ^ N → (j + 1 + xs.length) * B * d < 2 ^ N → SzAll N c xs ∧ Cd d ((j + xs.length) * B) (tot c xs)
  | [], c, j, h, _, hd, hN => ⟨h.sz hd (by
      refine Nat.lt_of_le_of_lt (Nat.mul_le_mul_right d (Nat.mul_le_mul_right B ?_)) hN
      omega), by simpa [tot] using h⟩
  | x :: xs, c, j, h, hx, hd, hN => by
    rw [List.length_cons] at hN
    have hx1 := hx x (by simp)
    have h1 : Cd d ((j + 1) * B) (c + x) := by
      rw [Nat.add_mul, Nat.one_mul]; exact h.add hx1
    obtain ⟨a1, a2⟩ := cd_tot xs (c + x) (j + 1) h1 (fun y hy => hx y (by simp [hy])) hd (by rw [show j + 1 + 1 + xs.length = j + 1 + (xs.length + 1) by omega]; exact hN)
    refine ⟨⟨h.sz hd ?_, hx1.sz hd ?_, a1⟩, by rw [List.length_cons, show j + (xs.length + 1) = j + 1 + xs.length by omega]; exact a2⟩
    · refine Nat.lt_of_le_of_lt (Nat.mul_le_mul_right d (Nat.mul_le_mul_right B ?_)) hN
      omega
    · refine Nat.lt_of_le_of_lt (Nat.mul_le_mul_right d ?_) hN
      exact Nat.le_mul_of_pos_left B (by omega)
end
/-! worths over one bottom -/
/-- sums whose factors are over Lc -/
structure SmCd (k : Nat) (s : Sm) : Prop where
  f : ∀ i, i < k → Cd Lc 16 (s.f i)
  c : Cd Lc 16 s.c
theorem SmOk.cd {k : Nat} {s : Sm} (h : SmOk 4 k s) : SmCd k s := ⟨fun i hi => cd_of (h.f i hi), cd_of h.c⟩
section
variable {d B k N : Nat} {vs : List Rat} {s : Sm}
theorem wS_cd (h0 : SmCd k s) (hv : ∀ v ∈ vs, Cd d B v) (hl : vs.length = k) (hd0 : 0 < d) (hB : 1 ≤ B) (hk : k ≤ 63) (hd : Lc * d < 2 ^ N) (hN : 65 * (16 * B) * (Lc * d) < 2 ^ N) : SzAll N s.c (terms vs (canon k s.f)) ∧ Cd (Lc * d) (1024 * B) (wS k vs s) := by
  have h1 : ∀ x ∈ terms vs (canon k s.f), Cd (Lc * d) (16 * B) x := fun x hx => by
    obtain ⟨p, hp, rfl⟩ := List.mem_map.mp hx
    obtain ⟨a1, a2, _⟩ := canon_mem hp
    rw [a2]
    exact (h0.f _ a1).mul (hv _ (getD_mem (by omega)))
  have hlen : (terms vs (canon k s.f)).length ≤ 63 := by unfold terms; rw [List.length_map]; exact Nat.le_trans (canon_len k s.f) hk
  have hc : Cd (Lc * d) (1 * (16 * B)) s.c := h0.c.up hd0 (by omega)
  have h2 := cd_tot (N := N) _ s.c 1 hc h1 hd (Nat.lt_of_le_of_lt (Nat.mul_le_mul_right _ (Nat.mul_le_mul_right _ (by omega))) hN)
  rw [wS_eq] at h2
  refine ⟨h2.1, h2.2.le ?_⟩
  have := Nat.mul_le_mul_right (16 * B) (by omega : 1 + (terms vs (canon k s.f)).length ≤ 64)
  omega
end
/-! what cells tell -/
def IsVs (P : D) (vs : List Rat) : Prop := P = .tup (vs.map fq) ∨ P = .lst (vs.map fq)
theorem IsVs.ix {P : D} {vs : List Rat} (h : IsVs P vs) {i : Nat} (hi : i < vs.length) (Q : Rv → Prop) : oIx P (.int (i : Nat)) Q = Q (.pu (fq (vs.getD i 0))) := by
  rcases h with e | e
  · rw [e]; exact oIx_t hi Q
  · rw [e]; exact oIx_l hi Q
/-- the place of the first greatest -/
def sgnI (ps : List Rat) : Nat := (List.range ps.length).foldl (fun s a => if ps.getD s 0 < ps.getD a 0 then a else s) 0
def mxR (a b : Rat) : Rat := if a < b then b else a
theorem mxR_le (a b : Rat) : (if a ≤ b then b else a) = mxR a b := by
  unfold mxR
  by_cases h : a < b
  · rw [if_pos h, if_pos (Rat.le_of_lt h)]
  · rw [if_neg h]
    by_cases h2 : a ≤ b
    · rw [if_pos h2]; grind
    · rw [if_neg h2]
def cval (w : CW) (ps : List Rat) : Rat := match w with
  | .plain => ps.getD 0 0
  | .cut => if 0 < ps.getD 0 0 then ps.getD 0 0 else 0
  | .step => if 0 < ps.getD 0 0 then 1 else 0
  | .switch => if 0 < ps.getD 0 0 then ps.getD 1 0 else ps.getD 2 0
  | .most => ps.getD (sgnI ps) 0
def csgn (w : CW) (ps : List Rat) : Nat := match w with
  | .plain => 0
  | .most => sgnI ps
  | _ => if 0 < ps.getD 0 0 then 1 else 0
theorem sgn_pre (ps : List Rat) : ∀ j, j ≤ ps.length → 1 ≤ j → ((List.range j).foldl (fun s a => if ps.getD s 0 < ps.getD a 0 then a else s) 0) < j ∧ ps.getD ((List.range j).foldl (fun s a => if ps.getD s 0 < ps.getD a 0 then a else s) 0) 0 = ((ps.take j).tail).foldl mxR (ps.getD 0 0) := by
  intro j
  induction j with
  | zero => intro _ h; omega
  | succ j ih =>
    intro h1 _
    rw [List.range_succ, List.foldl_append]
    by_cases hj : j = 0
    · subst hj
      simp only [List.range_zero, List.foldl_nil, List.foldl_cons]
      have e : (ps.take (0 + 1)).tail = [] := by cases ps <;> rfl
      rw [e]
      by_cases h : ps.getD 0 0 < ps.getD 0 0
      · exact absurd h (Rat.lt_irrefl)
      · rw [if_neg h]; exact ⟨by omega, rfl⟩
    · obtain ⟨i1, i2⟩ := ih (by omega) (by omega)
      have e : (ps.take (j + 1)).tail = (ps.take j).tail ++ [ps.getD j 0] := by
        rw [List.take_add_one, List.getD_eq_getElem?_getD, List.getElem?_eq_getElem (by omega : j < ps.length)]
        rw [List.tail_append_of_ne_nil (by
          intro z
          have := congrArg List.length z
          rw [List.length_take, List.length_nil] at this
          omega)]
        rfl
      rw [e, List.foldl_append, ← i2]
      generalize (List.range j).foldl (fun s a => if ps.getD s 0 < ps.getD a 0 then a else s) 0 = q at i1 i2
      show (if ps.getD q 0 < ps.getD j 0 then j else q) < j + 1 ∧ ps.getD (if ps.getD q 0 < ps.getD j 0 then j else q) 0 = mxR (ps.getD q 0) (ps.getD j 0)
      unfold mxR
      by_cases h : ps.getD q 0 < ps.getD j 0
      · rw [if_pos h, if_pos h]; exact ⟨by omega, rfl⟩
      · rw [if_neg h, if_neg h]; exact ⟨by omega, rfl⟩
theorem most_val {ps : List Rat} (h : 1 ≤ ps.length) : ps.getD (sgnI ps) 0 = ps.tail.foldl mxR (ps.getD 0 0) := by
  have := (sgn_pre ps ps.length (Nat.le_refl _) h).2
  rw [List.take_length] at this
  exact this
theorem sgn_lt {ps : List Rat} (h : 1 ≤ ps.length) : sgnI ps < ps.length := (sgn_pre ps ps.length (Nat.le_refl _) h).1
theorem tp_pqv (p : Nat × Rat) (gs : DenGs) (S : Sg) (Q : Sg → Prop) : dgTup 2 gs (.pu (pqD p)) S Q = ((2 : Nat) = 2 ∧ gs [.int (p.1 : Int), fq p.2] S Q) := rfl
/-! values over one bottom -/
structure Vd (x y d B : Nat) (vs : List Rat) : Prop where
  d0 : 0 < d
  dx : d ≤ 2 ^ x
  b1 : 1 ≤ B
  yb : B ≤ 2 ^ y
  vs : ∀ v ∈ vs, Cd d B v
section
variable {x y d B k : Nat} {vs : List Rat} {s : Sm}
theorem Vd.nums (h : Vd x y d B vs) : Lc * d < 2 ^ (x + y + 31) ∧ 65 * (16 * B) * (Lc * d) < 2 ^ (x + y + 31) ∧ B * d < 2 ^ (x + y + 31) ∧ d < 2 ^ (x + y + 31) := by
  have a1 : Lc * d ≤ 2 ^ 19 * 2 ^ x := Nat.mul_le_mul (by decide) h.dx
  have a2 : 65 * (16 * B) ≤ 2 ^ 11 * 2 ^ y := by
    have := h.yb
    have e : (65 * (16 * B)) = 1040 * B := by omega
    rw [e]
    exact Nat.mul_le_mul (by decide) this
  have a3 := Nat.mul_le_mul a2 a1
  have e1 : 2 ^ 11 * 2 ^ y * (2 ^ 19 * 2 ^ x) = 2 ^ (x + y + 30) := by
    rw [← Nat.pow_add, ← Nat.pow_add, ← Nat.pow_add]; congr 1; omega
  rw [e1] at a3
  have e2 : 2 ^ (x + y + 31) = 2 * 2 ^ (x + y + 30) := by rw [show x + y + 31 = (x + y + 30) + 1 by omega, Nat.pow_succ]; omega
  have p : 0 < 2 ^ (x + y + 30) := Nat.pow_pos (by decide)
  have b1 := h.b1
  have c1 : Lc * d ≤ 65 * (16 * B) * (Lc * d) := Nat.le_mul_of_pos_left _ (by omega)
  have c2 : B * d ≤ 65 * (16 * B) * (Lc * d) := Nat.mul_le_mul (by omega) (Nat.le_mul_of_pos_left _ (by decide))
  have c3 : d ≤ Lc * d := Nat.le_mul_of_pos_left _ (by decide)
  omega
theorem Vd.sz (h : Vd x y d B vs) {v : Rat} (hv : v ∈ vs) : Sz (x + y + 31) v := (h.vs v hv).sz h.nums.2.2.2 h.nums.2.2.1
theorem Vd.worth (h : Vd x y d B vs) (h0 : SmCd k s) (hl : vs.length = k) (hk : k ≤ 63) : SzAll (x + y + 31) s.c (terms vs (canon k s.f)) ∧ Cd (Lc * d) (1024 * B) (wS k vs s) :=
  wS_cd h0 h.vs hl h.d0 h.b1 hk h.nums.1 h.nums.2.1
theorem Vd.next (h : Vd x y d B vs) {ws : List Rat} (hw : ∀ w ∈ ws, Cd (Lc * d) (1024 * B) w) : Vd (x + 19) (y + 10) (Lc * d) (1024 * B) (vs ++ ws) := by
  refine ⟨Nat.mul_pos (by decide) h.d0, ?_, by have := h.b1; omega, ?_, fun v hv => ?_⟩
  · rw [Nat.pow_add, Nat.mul_comm]; exact Nat.mul_le_mul h.dx (by decide)
  · rw [Nat.pow_add, Nat.mul_comm]; exact Nat.mul_le_mul h.yb (by decide)
  · rcases List.mem_append.mp hv with z | z
    · rw [Nat.mul_comm]
      exact (h.vs v z).up (by decide) (by omega)
    · exact hw v z
theorem q_raw_worthP {P : D} (hP : IsVs P vs) (h : Vd x y d B vs) (h0 : SmCd k s) (hl : vs.length = k) (hk : k ≤ 63) (hN : x + y + 31 ≤ 4000) (hQ : Q (.pu (fq (wS k vs s)))) : m_raw_worth [P, sD k s] Q := by
  have hs := (h.worth h0 hl hk).1
  rw [← wS_eq] at hQ
  refine pure_by rfl fun E hn' hr => ?_
  simp only [List.map_cons, List.map_nil, List.cons_append, List.nil_append, List.append_nil, Nat.reduceSub, List.reduceReplicate]
  unfold b_raw_worth sD sumD smD
  simp! [dFor, dSeq]
  refine for_byA pqD (fun qs S => ∃ a o1 o2, S = [.pu P, .pu (.tup [.tup ((canon k s.f).map pqD), fq s.c]), .pu (fq a), o1, o2] ∧ SzAll (x + y + 31) a (terms vs qs) ∧ (∀ p ∈ qs, p ∈ canon k s.f) ∧ tot a (terms vs qs) = tot s.c (terms vs (canon k s.f))) ?_ ?_ _ _ ⟨s.c, _, _, rfl, hs, fun p h => h, rfl⟩
  · rintro S ⟨a, o1, o2, rfl, h1, h2, h3⟩
    simp! []
    have : a = tot s.c (terms vs (canon k s.f)) := h3
    rw [this]; exact hr _ _ hQ
  · rintro p qs S ⟨a, o1, o2, rfl, h1, h2, h3⟩ M hM
    obtain ⟨a1, a2, _⟩ := canon_mem (h2 p (by simp))
    have hpl : p.1 < vs.length := by omega
    have hpz : Sz 24 p.2 := by rw [a2]; exact (h0.f _ a1).sz (by decide) (by decide)
    simp! [tp_pqv]
    rw [hP.ix hpl]
    simp! []
    refine q_raw_times hpz (h.sz (getD_mem hpl)) (by omega) ?_
    simp! []
    have t1 : SzAll (x + y + 31) a (p.2 * vs.getD p.1 0 :: terms vs qs) := h1
    refine q_raw_plus t1.1 t1.2.1 (by omega) ?_
    simp! []
    exact hM _ ⟨a + p.2 * vs.getD p.1 0, _, _, rfl, t1.2.2, fun q hq => h2 q (by simp [hq]), h3⟩
theorem q_law_worthP {P : D} (hP : IsVs P vs) (h : Vd x y d B vs) (h0 : SmCd k s) (hl : vs.length = k) (hk : k ≤ 63) (hN : x + y + 31 ≤ 4000) (hQ : Q (.pu (fq (wS k vs s)))) : m__law_worth [P, sD k s] Q := by
  have hs := (h.worth h0 hl hk).1
  rw [← wS_eq] at hQ
  refine pure_by rfl fun E hn' hr => ?_
  simp only [List.map_cons, List.map_nil, List.cons_append, List.nil_append, List.append_nil, Nat.reduceSub, List.reduceReplicate]
  unfold b__law_worth sD sumD smD
  simp! [dFor, dSeq]
  refine for_byA pqD (fun qs S => ∃ a o1 o2, S = [.pu P, .pu (.tup [.tup ((canon k s.f).map pqD), fq s.c]), .pu (fq a), o1, o2] ∧ SzAll (x + y + 31) a (terms vs qs) ∧ (∀ p ∈ qs, p ∈ canon k s.f) ∧ tot a (terms vs qs) = tot s.c (terms vs (canon k s.f))) ?_ ?_ _ _ ⟨s.c, _, _, rfl, hs, fun p h => h, rfl⟩
  · rintro S ⟨a, o1, o2, rfl, h1, h2, h3⟩
    simp! []
    have : a = tot s.c (terms vs (canon k s.f)) := h3
    rw [this]; exact hr _ _ hQ
  · rintro p qs S ⟨a, o1, o2, rfl, h1, h2, h3⟩ M hM
    obtain ⟨a1, a2, _⟩ := canon_mem (h2 p (by simp))
    have hpl : p.1 < vs.length := by omega
    have hpz : Sz 24 p.2 := by rw [a2]; exact (h0.f _ a1).sz (by decide) (by decide)
    simp! [tp_pqv]
    rw [hP.ix hpl]
    simp! []
    refine q_law_times hpz (h.sz (getD_mem hpl)) (by omega) ?_
    simp! []
    have t1 : SzAll (x + y + 31) a (p.2 * vs.getD p.1 0 :: terms vs qs) := h1
    refine q_law_plus t1.1 t1.2.1 (by omega) ?_
    simp! []
    exact hM _ ⟨a + p.2 * vs.getD p.1 0, _, _, rfl, t1.2.2, fun q hq => h2 q (by simp [hq]), h3⟩
end
/-! what nets tell: the defs -/
theorem drop_zip {α : Type} {xs : List α} {c : Nat} {p : α × Nat} {ps : List (α × Nat)} (h : xs.zipIdx.drop c = p :: ps) : xs[c]? = some p.1 ∧ p.2 = c ∧ ps = xs.zipIdx.drop (c + 1) ∧ c < xs.length := by
  have h1 : (xs.zipIdx.drop c)[0]? = some p := by rw [h]; rfl
  rw [List.getElem?_drop, Nat.add_zero, List.getElem?_zipIdx] at h1
  have h2 := congrArg List.tail h
  rw [List.tail_cons, List.tail_drop] at h2
  cases e : xs[c]? with
  | none => rw [e] at h1; cases h1
  | some x =>
    rw [e] at h1
    simp at h1
    subst h1
    exact ⟨rfl, rfl, h2.symm, (List.getElem?_eq_some_iff.mp e).1⟩
def Cel.ps (c : Cel) (k : Nat) (vs : List Rat) : List Rat := c.ss.map (wS k vs)
def Cel.val (c : Cel) (k : Nat) (vs : List Rat) : Rat := cval c.w (c.ps k vs)
def Cel.sgn (c : Cel) (k : Nat) (vs : List Rat) : Nat := csgn c.w (c.ps k vs)
theorem Cel.ps_len (c : Cel) (k : Nat) (vs : List Rat) : (c.ps k vs).length = c.ss.length := by unfold Cel.ps; rw [List.length_map]
theorem fqs_at {ps : List Rat} {i : Nat} (h : i < ps.length) : atI (ps.map fq) ((i : Nat) : Int) = some (fq (ps.getD i 0)) := ix_vals h
theorem fq_0 (x : Rat) (Q : Rv → Prop) : oIx (fq x) (.int 0) Q = Q (.pu (.int x.num)) := rfl
theorem num_pos {x : Rat} : (0 < x.num) = (0 < x) := by rw [eq_iff_iff, Rat.lt_iff]; simp
theorem cutTl (ps : List Rat) : cutL (ps.map fq) (some 1) none = ps.tail.map fq := by
  rw [show (1 : Int) = ((1 : Nat) : Int) from rfl, cut_drop, ← List.map_drop, List.drop_one]
theorem cval_mem {w : CW} {ps : List Rat} (hm : w.many ps.length) : cval w ps ∈ ps ∨ cval w ps = 0 ∨ cval w ps = 1 := by
  have hl := CW.len hm
  have mem : ∀ i, i < ps.length → ps.getD i 0 ∈ ps := fun i hi => getD_mem hi
  cases w
  · exact .inl (mem 0 (by omega))
  · show (if _ then _ else _) ∈ ps ∨ _
    unfold cval
    by_cases h : 0 < ps.getD 0 0
    · simp only [if_pos h]; exact .inl (mem 0 (by omega))
    · simp only [if_neg h]; exact .inr (.inl trivial)
  · unfold cval
    by_cases h : 0 < ps.getD 0 0
    · simp only [if_pos h]; exact .inr (.inr trivial)
    · simp only [if_neg h]; exact .inr (.inl trivial)
  · exact .inl (mem _ (sgn_lt (by omega)))
  · have h3 : ps.length = 3 := hm
    unfold cval
    by_cases h : 0 < ps.getD 0 0
    · simp only [if_pos h]; exact .inl (mem 1 (by omega))
    · simp only [if_neg h]; exact .inl (mem 2 (by omega))
theorem cell_0 (k : Nat) (c : Cel) (Q : Rv → Prop) : oIx (cellD k c) (.int 0) Q = Q (.pu (.str c.w.s)) := by
  obtain ⟨w, ss⟩ := c
  cases w <;> exact DL.lIx_tup0
section
variable {n k x y d B : Nat} {vs : List Rat} {c : Cel} {N : Net}
theorem q_value_by {w : CW} {ps : List Rat} {M : Nat} (hm : w.many ps.length) (hp : ∀ p ∈ ps, Sz M p) (hM : M ≤ 4000) (h : Q (.pu (fq (cval w ps)))) : m_value_by [.str w.s, .lst (ps.map fq)] Q := by
  refine pure_by rfl fun E hn' hr => ?_
  simp only [List.map_cons, List.map_nil, List.cons_append, List.nil_append, List.append_nil, Nat.reduceSub, List.reduceReplicate]
  unfold b_value_by
  have hl := CW.len hm
  have i0 : atI (ps.map fq) (0 : Int) = some (fq (ps.getD 0 0)) := fqs_at (i := 0) (by omega)
  cases w
  case plain =>
    simp! [CW.s]
    rw [ix_at i0]
    simp! []
    exact hr _ _ h
  case cut =>
    simp! [CW.s]
    rw [ix_at i0]
    simp! []
    refine q_raw_cut ?_
    simp! []
    exact hr _ _ h
  case step =>
    simp! [CW.s]
    rw [ix_at i0]
    simp! [fq_0, num_pos]
    unfold cval at h
    by_cases h1 : 0 < ps.getD 0 0
    · rw [if_pos h1]
      simp only [if_pos h1] at h
      exact hr _ _ h
    · rw [if_neg h1]
      simp only [if_neg h1] at h
      exact hr _ _ h
  case switch =>
    have h3 : ps.length = 3 := hm
    have i1 : atI (ps.map fq) (1 : Int) = some (fq (ps.getD 1 0)) := fqs_at (i := 1) (by omega)
    have i2 : atI (ps.map fq) (2 : Int) = some (fq (ps.getD 2 0)) := fqs_at (i := 2) (by omega)
    simp! [CW.s]
    rw [ix_at i0]
    simp! [fq_0, num_pos]
    unfold cval at h
    by_cases h1 : 0 < ps.getD 0 0
    · rw [if_pos h1]
      simp only [if_pos h1] at h
      rw [ix_at i1]
      simp! []
      exact hr _ _ h
    · rw [if_neg h1]
      simp only [if_neg h1] at h
      rw [ix_at i2]
      simp! []
      exact hr _ _ h
  case most =>
    simp! [CW.s]
    rw [ix_at i0]
    simp! [dFor, dSeq, cutTl]
    have hmv := most_val (ps := ps) (by omega)
    have h' : Q (.pu (fq (ps.tail.foldl mxR (ps.getD 0 0)))) := by rw [← hmv]; exact h
    refine for_byA fq (fun qs S => ∃ a s3, S = [.pu (.str (Str.ofString "most")), .pu (.lst (ps.map fq)), .pu (fq a), s3] ∧ (∀ q ∈ qs, q ∈ ps) ∧ a ∈ ps ∧ qs.foldl mxR a = ps.tail.foldl mxR (ps.getD 0 0)) ?_ ?_ _ _ ⟨ps.getD 0 0, _, rfl, fun q hq => List.mem_of_mem_tail hq, getD_mem (by omega), rfl⟩
    · rintro S ⟨a, s3, rfl, h1, h2, h3⟩
      simp! []
      have h4 : a = ps.tail.foldl mxR (ps.getD 0 0) := h3
      rw [h4]
      exact hr _ _ h'
    · rintro q qs S ⟨a, s3, rfl, h1, h2, h3⟩ M' hM'
      simp! []
      refine q_raw_greater (hp a h2) (hp q (h1 q (by simp))) (by omega) ?_
      rw [mxR_le]
      simp! []
      refine hM' _ ⟨mxR a q, _, rfl, fun z hz => h1 z (by simp [hz]), ?_, h3⟩
      unfold mxR
      split
      · exact h1 q (by simp)
      · exact h2
theorem q_raw_cell_value {P : D} (hP : IsVs P vs) (h0 : CelOk n k c) (hc : ∀ s ∈ c.ss, SmCd k s) (hv : Vd x y d B vs) (hl : vs.length = k) (hk : k ≤ 63) (hN : x + y + 70 ≤ 4000) (h : Q (.pu (fq (c.val k vs)))) : m_raw_cell_value [cellD k c, P] Q := by
  refine pure_by rfl fun E hn' hr => ?_
  simp only [List.map_cons, List.map_nil, List.cons_append, List.nil_append, List.append_nil, Nat.reduceSub, List.reduceReplicate]
  unfold b_raw_cell_value
  have hcl := CW.len h0.many
  simp! [dLc, dSeq]
  refine q_raw_cell_sums h0 fun w hw => ?_
  have hps : ∀ p ∈ c.ps k vs, Sz (x + y + 60) p := fun p hp => by
    obtain ⟨s, hs, rfl⟩ := List.mem_map.mp hp
    have a1 := (hv.worth (hc s hs) hl hk).2
    have a2 := hv.next (ws := [wS k vs s]) fun w hw => by rw [List.mem_singleton.mp hw]; exact a1
    exact (a2.sz (v := wS k vs s) (by simp)).mono (by omega)
  have e2 : (c.ss.map fun s => fq (wS k vs s)) = (c.ps k vs).map fq := by unfold Cel.ps; rw [List.map_map]; rfl
  rcases hw with rfl | rfl
  all_goals
    simp! []
    refine ⟨by rw [List.length_map]; unfold sizeLine; omega, lc_mapA (sD k) (fun s => fq (wS k vs s)) ?_ fun s hs R hR => ?_⟩
    · rw [e2]
      simp! [cell_0]
      refine q_value_by (M := x + y + 60) (by rw [Cel.ps_len]; exact h0.many) hps (by omega) ?_
      simp! []
      exact hr _ _ h
    · simp! []
      refine q_raw_worthP hP hv (hc s hs) hl hk (by omega) ?_
      simp! []
      exact hR
def Net.vals (N : Net) (pt : List Rat) : Nat → List Rat
  | 0 => pt
  | c + 1 => N.vals pt c ++ [(N.cel c).val (N.m + c) (N.vals pt c)]
theorem vals_len (N : Net) (pt : List Rat) : ∀ c, (N.vals pt c).length = pt.length + c
  | 0 => rfl
  | c + 1 => by unfold Net.vals; rw [List.length_append, vals_len N pt c]; rfl
structure NetCd (N : Net) : Prop where
  cells : ∀ c, c < N.cells.length → ∀ s ∈ (N.cel c).ss, SmCd (N.m + c) s
  outs : ∀ s ∈ N.outs, SmCd (N.m + N.cells.length) s
theorem NetOk.cd (h : NetOk 4 N) : NetCd N := ⟨fun c hc s hs => ((h.cel hc).ss s hs).cd, fun s hs => (h.outs s hs).cd⟩
theorem cd_val {w : CW} {ps : List Rat} (hm : w.many ps.length) (hp : ∀ p ∈ ps, Cd d B p) (hd : 0 < d) (hB : 1 ≤ B) : Cd d B (cval w ps) := by
  rcases cval_mem hm with h | h | h
  · exact hp _ h
  · rw [h]; exact Cd.zero hd
  · rw [h]; exact Cd.one hd hB
theorem vals_vd {pt : List Rat} (h0 : NetOk n N) (hc : NetCd N) (hp : Vd x y d B pt) (hl : pt.length = N.m) : ∀ c, c ≤ N.cells.length → ∃ d B, Vd (x + 19 * c) (y + 10 * c) d B (N.vals pt c)
  | 0, _ => ⟨d, B, hp⟩
  | c + 1, hcl => by
    obtain ⟨d2, B2, h⟩ := vals_vd h0 hc hp hl c (by omega)
    have hk := h0.k44
    refine ⟨Lc * d2, 1024 * B2, ?_⟩
    have h1 := h.next (ws := [(N.cel c).val (N.m + c) (N.vals pt c)]) fun w hw => by
      rw [List.mem_singleton.mp hw]
      refine cd_val (by rw [Cel.ps_len]; exact (h0.cel (by omega)).many) (fun p hp => ?_) (Nat.mul_pos (by decide) h.d0) (by have := h.b1; omega)
      obtain ⟨s, hs, rfl⟩ := List.mem_map.mp hp
      exact (h.worth (hc.cells c (by omega) s hs) (by rw [vals_len, hl]) (by omega)).2
    exact h1
/-- what outs tell -/
def Net.run (N : Net) (pt : List Rat) : List Rat := N.outs.map (wS (N.m + N.cells.length) (N.vals pt N.cells.length))
theorem fqs_snoc (xs : List Rat) (x : Rat) : xs.map fq ++ [fq x] = (xs ++ [x]).map fq := by rw [List.map_append]; rfl
theorem q_raw_sources_at {pt : List Rat} (h0 : NetOk n N) (hc : NetCd N) (hp : Vd x y d B pt) (hl : pt.length = N.m) (hN : x + y ≤ 2500) (h : Q (.ol ((N.vals pt N.cells.length).map fq))) : m_raw_sources_at [netD N, .tup (pt.map fq)] Q := by
  refine pure_by rfl fun E hn' hr => ?_
  simp only [List.map_cons, List.map_nil, List.cons_append, List.nil_append, List.append_nil, Nat.reduceSub, List.reduceReplicate]
  unfold b_raw_sources_at
  have hk := h0.k44
  have h4 := h0.cl
  simp! [dFor, dSeq, netD]
  refine for_byA (fun p : Cel × Nat => cellD (N.m + p.2) p.1) (fun items S => ∃ c s3, c + items.length = N.cells.length ∧ items = N.cells.zipIdx.drop c ∧ S = [.pu (netD N), .pu (.tup (pt.map fq)), .ol ((N.vals pt c).map fq), s3]) ?_ ?_ _ _ ⟨0, _, by rw [List.length_zipIdx]; omega, rfl, rfl⟩
  · rintro S ⟨c, s3, e, _, rfl⟩
    rw [List.length_nil, Nat.add_zero] at e
    subst e
    simp! []
    exact hr _ _ h
  · rintro ⟨q, i⟩ ps S ⟨c, s3, e, e2, rfl⟩ M hM
    obtain ⟨h5, h6, h7, hcl⟩ := drop_zip e2.symm
    simp only at h5 h6
    subst h6
    rw [cel_at hcl] at h5
    cases h5
    rw [List.length_cons] at e
    obtain ⟨d2, B2, hv⟩ := vals_vd h0 hc hp hl i (by omega)
    have l1 : ((N.vals pt i).map fq).length < sizeLine := by rw [List.length_map, vals_len]; unfold sizeLine; omega
    simp! []
    refine q_raw_cell_value (.inr rfl) (h0.cel hcl) (hc.cells i hcl) hv (by rw [vals_len, hl]) (by omega) (by omega) ?_
    simp! [l1, fqs_snoc]
    exact hM _ ⟨i + 1, _, by omega, h7, rfl⟩
theorem q_raw_run {pt : List Rat} (h0 : NetOk n N) (hc : NetCd N) (hp : Vd x y d B pt) (hl : pt.length = N.m) (hN : x + y ≤ 2500) (h : Q (.pu (.tup ((N.run pt).map fq)))) : m_raw_run [netD N, .tup (pt.map fq)] Q := by
  refine pure_by rfl fun E hn' hr => ?_
  simp only [List.map_cons, List.map_nil, List.cons_append, List.nil_append, List.append_nil, Nat.reduceSub, List.reduceReplicate]
  unfold b_raw_run
  have hk := h0.k44
  have h4 := h0.cl
  have ho := h0.o4
  obtain ⟨d2, B2, hv⟩ := vals_vd h0 hc hp hl N.cells.length (Nat.le_refl _)
  simp! []
  refine q_raw_sources_at h0 hc hp hl hN ?_
  simp! [dLc, dSeq, netD]
  refine ⟨by rw [List.length_map]; unfold sizeLine; omega, ?_⟩
  refine lc_mapJ (sD (N.m + N.cells.length)) (fun s => fq (wS (N.m + N.cells.length) (N.vals pt N.cells.length) s)) (fun S => ∃ x, (x = .ol ((N.vals pt N.cells.length).map fq) ∨ x = .pu (.lst ((N.vals pt N.cells.length).map fq))) ∧ S = [.pu (netD N), .pu (.tup (pt.map fq)), x, .no]) ⟨_, Or.inl rfl, rfl⟩ ?_ ?_
  · rintro S ⟨x, hx, rfl⟩
    have e1 : (N.outs.map fun s => fq (wS (N.m + N.cells.length) (N.vals pt N.cells.length) s)) = (N.run pt).map fq := by unfold Net.run; rw [List.map_map]; rfl
    rw [e1]
    simp! []
    exact hr _ _ h
  · rintro s hs S ⟨x, hx, rfl⟩ R hR
    rcases hx with rfl | rfl
    all_goals
      simp! []
      refine q_raw_worthP (.inr rfl) hv (hc.outs s hs) (by rw [vals_len, hl]) (by omega) (by omega) ?_
      simp! []
      exact hR _ ⟨_, Or.inr rfl, rfl⟩
theorem q_raw_is_point {pt : List Rat} {M m : Nat} (hp : ∀ v ∈ pt, Sz M v) (hM : M ≤ 9000) (hl : pt.length = m) (hm : m ≤ 1000) (h : Q (.pu (.bl true))) : m_raw_is_point [.int m, .tup (pt.map fq)] Q := by
  refine pure_by rfl fun E hn' hr => ?_
  simp only [List.map_cons, List.map_nil, List.cons_append, List.nil_append, List.append_nil, Nat.reduceSub, List.reduceReplicate]
  unfold b_raw_is_point
  simp! []
  refine q_are_values (n := M) hp hM (by unfold sizeLine; omega) ?_
  have e1 : ((pt.length : Nat) : Int) = ((m : Nat) : Int) := by omega
  simp! [List.length_map, e1]
  exact hr _ _ h
theorem q_check_point {pt : List Rat} {M : Nat} (h0 : NetOk n N) (hp : ∀ v ∈ pt, Sz M v) (hM : M ≤ 9000) (hl : pt.length = N.m) (h : Q (.pu .non)) : m_check_point [netD N, .tup (pt.map fq)] Q := by
  refine pure_by rfl fun E hn' hr => ?_
  simp only [List.map_cons, List.map_nil, List.cons_append, List.nil_append, List.append_nil, Nat.reduceSub, List.reduceReplicate]
  unfold b_check_point
  have hk := h0.k44
  simp! []
  refine q_check_net h0 ?_
  simp! [netD]
  refine q_raw_is_point hp hM hl (by omega) ?_
  simp! []
  exact hn' _ h
theorem q_run {pt : List Rat} (h0 : NetOk n N) (hc : NetCd N) (hp : Vd x y d B pt) (hl : pt.length = N.m) (hN : x + y ≤ 2500) (h : Q (.pu (.tup ((N.run pt).map fq)))) : m_run [netD N, .tup (pt.map fq)] Q := by
  refine pure_by rfl fun E hn' hr => ?_
  simp only [List.map_cons, List.map_nil, List.cons_append, List.nil_append, List.append_nil, Nat.reduceSub, List.reduceReplicate]
  unfold b_run
  simp! []
  refine q_check_point (M := x + y + 31) h0 (fun v hv => hp.sz hv) (by omega) hl ?_
  simp! []
  refine q_raw_run h0 hc hp hl hN ?_
  simp! []
  exact hr _ _ h
end
/-! sums over the first of some values -/
section
variable {x y d B k m n M r : Nat} {s : Sm} {N : Net} {vs : List Rat} {P : D} {c : Cel}
theorem take_getD {i k : Nat} (h : i < k) : (vs.take k).getD i 0 = vs.getD i 0 := by
  rw [List.getD_eq_getElem?_getD, List.getD_eq_getElem?_getD, List.getElem?_take_of_lt h]
theorem terms_take (k : Nat) (f : Nat → Rat) : terms (vs.take k) (canon k f) = terms vs (canon k f) := by
  unfold terms
  apply List.map_congr_left
  intro p hp
  rw [take_getD (canon_mem hp).1]
theorem q_raw_worthQ (hP : IsVs P vs) (h : Vd x y d B (vs.take k)) (h0 : SmCd k s) (hl : k ≤ vs.length) (hk : k ≤ 63) (hN : x + y + 31 ≤ 4000) (hQ : Q (.pu (fq (wS k (vs.take k) s)))) : m_raw_worth [P, sD k s] Q := by
  have hs := (h.worth h0 (by rw [List.length_take]; omega) hk).1
  rw [← wS_eq] at hQ
  rw [terms_take] at hs hQ
  refine pure_by rfl fun E hn' hr => ?_
  simp only [List.map_cons, List.map_nil, List.cons_append, List.nil_append, List.append_nil, Nat.reduceSub, List.reduceReplicate]
  unfold b_raw_worth sD sumD smD
  simp! [dFor, dSeq]
  refine for_byA pqD (fun qs S => ∃ a o1 o2, S = [.pu P, .pu (.tup [.tup ((canon k s.f).map pqD), fq s.c]), .pu (fq a), o1, o2] ∧ SzAll (x + y + 31) a (terms vs qs) ∧ (∀ p ∈ qs, p ∈ canon k s.f) ∧ tot a (terms vs qs) = tot s.c (terms vs (canon k s.f))) ?_ ?_ _ _ ⟨s.c, _, _, rfl, hs, fun p h => h, rfl⟩
  · rintro S ⟨a, o1, o2, rfl, h1, h2, h3⟩
    simp! []
    have : a = tot s.c (terms vs (canon k s.f)) := h3
    rw [this]; exact hr _ _ hQ
  · rintro p qs S ⟨a, o1, o2, rfl, h1, h2, h3⟩ M hM
    obtain ⟨a1, a2, _⟩ := canon_mem (h2 p (by simp))
    have hpl : p.1 < vs.length := by omega
    have hpz : Sz 24 p.2 := by rw [a2]; exact (h0.f _ a1).sz (by decide) (by decide)
    have hvz : Sz (x + y + 31) (vs.getD p.1 0) := by rw [← take_getD a1]; exact h.sz (getD_mem (by rw [List.length_take]; omega))
    simp! [tp_pqv]
    rw [hP.ix hpl]
    simp! []
    refine q_raw_times hpz hvz (by omega) ?_
    simp! []
    have t1 : SzAll (x + y + 31) a (p.2 * vs.getD p.1 0 :: terms vs qs) := h1
    refine q_raw_plus t1.1 t1.2.1 (by omega) ?_
    simp! []
    exact hM _ ⟨a + p.2 * vs.getD p.1 0, _, _, rfl, t1.2.2, fun q hq => h2 q (by simp [hq]), h3⟩
theorem q_law_worthQ (hP : IsVs P vs) (h : Vd x y d B (vs.take k)) (h0 : SmCd k s) (hl : k ≤ vs.length) (hk : k ≤ 63) (hN : x + y + 31 ≤ 4000) (hQ : Q (.pu (fq (wS k (vs.take k) s)))) : m__law_worth [P, sD k s] Q := by
  have hs := (h.worth h0 (by rw [List.length_take]; omega) hk).1
  rw [← wS_eq] at hQ
  rw [terms_take] at hs hQ
  refine pure_by rfl fun E hn' hr => ?_
  simp only [List.map_cons, List.map_nil, List.cons_append, List.nil_append, List.append_nil, Nat.reduceSub, List.reduceReplicate]
  unfold b__law_worth sD sumD smD
  simp! [dFor, dSeq]
  refine for_byA pqD (fun qs S => ∃ a o1 o2, S = [.pu P, .pu (.tup [.tup ((canon k s.f).map pqD), fq s.c]), .pu (fq a), o1, o2] ∧ SzAll (x + y + 31) a (terms vs qs) ∧ (∀ p ∈ qs, p ∈ canon k s.f) ∧ tot a (terms vs qs) = tot s.c (terms vs (canon k s.f))) ?_ ?_ _ _ ⟨s.c, _, _, rfl, hs, fun p h => h, rfl⟩
  · rintro S ⟨a, o1, o2, rfl, h1, h2, h3⟩
    simp! []
    have : a = tot s.c (terms vs (canon k s.f)) := h3
    rw [this]; exact hr _ _ hQ
  · rintro p qs S ⟨a, o1, o2, rfl, h1, h2, h3⟩ M hM
    obtain ⟨a1, a2, _⟩ := canon_mem (h2 p (by simp))
    have hpl : p.1 < vs.length := by omega
    have hpz : Sz 24 p.2 := by rw [a2]; exact (h0.f _ a1).sz (by decide) (by decide)
    have hvz : Sz (x + y + 31) (vs.getD p.1 0) := by rw [← take_getD a1]; exact h.sz (getD_mem (by rw [List.length_take]; omega))
    simp! [tp_pqv]
    rw [hP.ix hpl]
    simp! []
    refine q_law_times hpz hvz (by omega) ?_
    simp! []
    have t1 : SzAll (x + y + 31) a (p.2 * vs.getD p.1 0 :: terms vs qs) := h1
    refine q_law_plus t1.1 t1.2.1 (by omega) ?_
    simp! []
    exact hM _ ⟨a + p.2 * vs.getD p.1 0, _, _, rfl, t1.2.2, fun q hq => h2 q (by simp [hq]), h3⟩
theorem q_raw_cell_valueQ {P : D} (hP : IsVs P vs) (h0 : CelOk n k c) (hc : ∀ s ∈ c.ss, SmCd k s) (hv : Vd x y d B (vs.take k)) (hl : k ≤ vs.length) (hk : k ≤ 63) (hN : x + y + 70 ≤ 4000) (h : Q (.pu (fq (c.val k (vs.take k))))) : m_raw_cell_value [cellD k c, P] Q := by
  refine pure_by rfl fun E hn' hr => ?_
  simp only [List.map_cons, List.map_nil, List.cons_append, List.nil_append, List.append_nil, Nat.reduceSub, List.reduceReplicate]
  unfold b_raw_cell_value
  have hcl := CW.len h0.many
  simp! [dLc, dSeq]
  refine q_raw_cell_sums h0 fun w hw => ?_
  have hps : ∀ p ∈ c.ps k (vs.take k), Sz (x + y + 60) p := fun p hp => by
    obtain ⟨s, hs, rfl⟩ := List.mem_map.mp hp
    have a1 := (hv.worth (hc s hs) (by rw [List.length_take]; omega) hk).2
    have a2 := hv.next (ws := [wS k (vs.take k) s]) fun w hw => by rw [List.mem_singleton.mp hw]; exact a1
    exact (a2.sz (v := wS k (vs.take k) s) (by simp)).mono (by omega)
  have e2 : (c.ss.map fun s => fq (wS k (vs.take k) s)) = (c.ps k (vs.take k)).map fq := by unfold Cel.ps; rw [List.map_map]; rfl
  rcases hw with rfl | rfl
  all_goals
    simp! []
    refine ⟨by rw [List.length_map]; unfold sizeLine; omega, lc_mapA (sD k) (fun s => fq (wS k (vs.take k) s)) ?_ fun s hs R hR => ?_⟩
    · rw [e2]
      simp! [cell_0]
      refine q_value_by (M := x + y + 60) (by rw [Cel.ps_len]; exact h0.many) hps (by omega) ?_
      simp! []
      exact hr _ _ h
    · simp! []
      refine q_raw_worthQ hP hv (hc s hs) hl hk (by omega) ?_
      simp! []
      exact hR
end
/-! values of nets by the law's own going -/
section
variable {x y d B k m n M r : Nat} {s : Sm} {N : Net} {P : D} {hs : List D} {QQ : Rv → List D → Prop} {pt vs ps : List Rat} {E : DEnds}
theorem fqz : D.tup [.int 0, .int 1] = fq 0 := rfl
theorem bi_fq (b : Bool) : D.tup [.int (b2i b), .int 1] = fq (if b = true then 1 else 0) := by cases b <;> rfl
theorem num_neg {x : Rat} : (x.num < 0) = (x < 0) := by rw [eq_iff_iff, Rat.lt_iff]; simp
def lastV (w : CW) (v : Rat) : Rat := if w = .cut ∧ v < 0 then 0 else v
theorem lv_4 {w : CW} {ss : List Sm} {v : Rat} {rest : List D} {s0 s1 s5 : Sl} (hl : vs.length ≤ 100) (h : ∀ s4 s5, E.nx [s0, s1, .ol ((vs ++ [lastV w v]).map fq), .pu (cellD k ⟨w, ss⟩), s4, s5]) :
    b__law_values_L1_4 E [s0, s1, .ol (vs.map fq), .pu (cellD k ⟨w, ss⟩), .ol (fq v :: rest), s5] := by
  unfold b__law_values_L1_4
  have c0 : ∀ Q : Rv → Prop, oIx (cellD k ⟨w, ss⟩) (.int 0) Q = Q (.pu (.str w.s)) := cell_0 k ⟨w, ss⟩
  have l1 : (vs.map fq).length < sizeLine := by rw [List.length_map]; unfold sizeLine; omega
  have es : ∀ u : Rat, vs.map fq ++ [fq u] = (vs ++ [u]).map fq := fun u => by rw [List.map_append]; rfl
  unfold lastV at h
  cases w
  case cut =>
    have h : ∀ s4 s5, E.nx [s0, s1, .ol ((vs ++ [if v < 0 then 0 else v]).map fq), .pu (cellD k ⟨.cut, ss⟩), s4, s5] := fun s4 s5 => by
      have z := h s4 s5
      simpa using z
    by_cases hv : v < 0
    · simp only [if_pos hv] at h
      simp! [c0, CW.s, fq_0, num_neg, hv, fqz, l1, es]
      exact h _ _
    · simp only [if_neg hv] at h
      simp! [c0, CW.s, fq_0, num_neg, hv, l1, es]
      exact h _ _
  all_goals
    simp only [reduceCtorEq, false_and, if_false] at h
    simp! [c0, CW.s, l1, es]
    exact h _ _
theorem drop1_map (ps : List Rat) : cutL (ps.map fq) (some 1) none = (ps.drop 1).map fq := by rw [show (1 : Int) = ((1 : Nat) : Int) from rfl, cut_drop, List.map_drop]
theorem drop2_map (ps : List Rat) : cutL (ps.map fq) (some 2) none = (ps.drop 2).map fq := by rw [show (2 : Int) = ((2 : Nat) : Int) from rfl, cut_drop, List.map_drop]
theorem lv_cell {w : CW} {ss : List Sm} {s0 s1 s5 : Sl} (hm : w.many ps.length) (hs : ∀ p ∈ ps, Sz M p) (hM : M ≤ 4000) (hl : vs.length ≤ 100) (h : ∀ s4 s5, E.nx [s0, s1, .ol ((vs ++ [cval w ps]).map fq), .pu (cellD k ⟨w, ss⟩), s4, s5]) :
    b__law_values_L1_1 E [s0, s1, .ol (vs.map fq), .pu (cellD k ⟨w, ss⟩), .ol (ps.map fq), s5] := by
  unfold b__law_values_L1_1
  have c0 : ∀ Q : Rv → Prop, oIx (cellD k ⟨w, ss⟩) (.int 0) Q = Q (.pu (.str w.s)) := cell_0 k ⟨w, ss⟩
  have hcw := CW.len hm
  cases w
  case most =>
    have h2 : 2 ≤ ps.length ∧ ps.length ≤ 4 := hm
    obtain ⟨p0, pr, rfl⟩ : ∃ p0 pr, ps = p0 :: pr := by
      cases ps with
      | nil => simp at h2
      | cons a b => exact ⟨a, b, rfl⟩
    have e : cval .most (p0 :: pr) = pr.foldl mxR p0 := most_val (ps := p0 :: pr) (by simp)
    rw [e] at h
    have d1 : cutL (fq p0 :: pr.map fq) (some 1) none = pr.map fq := drop1_map (p0 :: pr)
    simp! [c0, CW.s, d1, dFor, dSeq]
    refine for_byA fq (fun items S => ∃ a rest s5, S = [s0, s1, .ol (vs.map fq), .pu (cellD k ⟨.most, ss⟩), .ol (fq a :: rest), s5] ∧ (∀ p ∈ items, p ∈ pr) ∧ Sz M a ∧ items.foldl mxR a = pr.foldl mxR p0) ?_ ?_ _ _ ⟨p0, pr.map fq, _, rfl, fun p hp => hp, hs _ (by simp), rfl⟩
    · rintro S ⟨a, rest, s5, rfl, _, _, g⟩
      have g : a = pr.foldl mxR p0 := g
      unfold b__law_values_L1_2 b__law_values_L1_3
      simp! [c0, CW.s]
      refine lv_4 hl fun s4 s5 => ?_
      have e2 : lastV .most a = a := by unfold lastV; simp
      rw [e2, g]
      exact h _ _
    · rintro q qs S ⟨a, rest, s5, rfl, hmm, ha, g⟩ N2 hN2
      have hq := hs q (by simp [hmm q (by simp)])
      simp! []
      refine q_law_is_less ha hq (by omega) ?_
      have g' : qs.foldl mxR (mxR a q) = pr.foldl mxR p0 := g
      by_cases hlt : a < q
      · have em : mxR a q = q := by unfold mxR; rw [if_pos hlt]
        rw [em] at g'
        simp! [hlt]
        rw [if_pos (by omega)]
        exact hN2 _ ⟨q, rest, _, rfl, fun p hp => hmm p (by simp [hp]), hq, g'⟩
      · have em : mxR a q = a := by unfold mxR; rw [if_neg hlt]
        rw [em] at g'
        simp! [hlt]
        rw [if_pos (by omega)]
        exact hN2 _ ⟨a, rest, _, rfl, fun p hp => hmm p (by simp [hp]), ha, g'⟩
  case switch =>
    have h3 : ps.length = 3 := hm
    obtain ⟨a, b, c, rfl⟩ : ∃ a b c, ps = [a, b, c] := by
      match ps, h3 with
      | [a, b, c], _ => exact ⟨a, b, c, rfl⟩
    have h : ∀ s4 s5, E.nx [s0, s1, .ol ((vs ++ [if 0 < a then b else c]).map fq), .pu (cellD k ⟨.switch, ss⟩), s4, s5] := h
    have d1 := drop1_map [a, b, c]
    have d2 := drop2_map [a, b, c]
    have e2 : ∀ v, lastV .switch v = v := fun v => by unfold lastV; simp
    simp only [List.map_cons, List.map_nil, List.drop_succ_cons, List.drop_zero] at d1 d2
    unfold b__law_values_L1_2
    by_cases ha : 0 < a
    · simp only [if_pos ha] at h
      simp! [c0, CW.s, fq_0, num_pos, ha, d1]
      unfold b__law_values_L1_3
      simp! [c0, CW.s]
      exact lv_4 hl fun s4 s5 => by rw [e2]; exact h _ _
    · simp only [if_neg ha] at h
      simp! [c0, CW.s, fq_0, num_pos, ha, d2]
      unfold b__law_values_L1_3
      simp! [c0, CW.s]
      exact lv_4 hl fun s4 s5 => by rw [e2]; exact h _ _
  case step =>
    have h1 : ps.length = 1 := hm
    obtain ⟨a, rfl⟩ := List.length_eq_one_iff.mp h1
    have h : ∀ s4 s5, E.nx [s0, s1, .ol ((vs ++ [if 0 < a then (1 : Rat) else 0]).map fq), .pu (cellD k ⟨.step, ss⟩), s4, s5] := h
    have e2 : ∀ v, lastV .step v = v := fun v => by unfold lastV; simp
    have eb : (if decide (0 < a) = true then (1 : Rat) else 0) = if 0 < a then 1 else 0 := by simp
    unfold b__law_values_L1_2 b__law_values_L1_3
    simp! [c0, CW.s, fq_0, num_pos, bi_fq]
    refine lv_4 hl fun s4 s5 => ?_
    rw [e2]
    exact h _ _
  case cut =>
    have h1 : ps.length = 1 := hm
    obtain ⟨a, rfl⟩ := List.length_eq_one_iff.mp h1
    have h : ∀ s4 s5, E.nx [s0, s1, .ol ((vs ++ [if 0 < a then a else 0]).map fq), .pu (cellD k ⟨.cut, ss⟩), s4, s5] := h
    have e2 : lastV .cut a = if 0 < a then a else 0 := by
      unfold lastV
      simp only [true_and]
      split <;> split <;> grind
    unfold b__law_values_L1_2 b__law_values_L1_3
    simp! [c0, CW.s]
    refine lv_4 hl fun s4 s5 => ?_
    rw [e2]
    exact h _ _
  case plain =>
    have h1 : ps.length = 1 := hm
    obtain ⟨a, rfl⟩ := List.length_eq_one_iff.mp h1
    have h : ∀ s4 s5, E.nx [s0, s1, .ol ((vs ++ [a]).map fq), .pu (cellD k ⟨.plain, ss⟩), s4, s5] := h
    have e2 : lastV .plain a = a := by unfold lastV; simp
    unfold b__law_values_L1_2 b__law_values_L1_3
    simp! [c0, CW.s]
    refine lv_4 hl fun s4 s5 => ?_
    rw [e2]
    exact h _ _
theorem flat_fqT (u : Rat) : flatT (fq u) = true := flatT_fq u
theorem q_law_values (h0 : NetOk n N) (hc : NetCd N) (hp : Vd x y d B pt) (hl : pt.length = N.m) (hN : x + y ≤ 2500) (h : Q (.ol ((N.vals pt N.cells.length).map fq))) : m__law_values [netD N, .tup (pt.map fq)] Q := by
  refine pure_by rfl fun E hn' hr => ?_
  simp only [List.map_cons, List.map_nil, List.cons_append, List.nil_append, List.append_nil, Nat.reduceSub, List.reduceReplicate]
  unfold b__law_values
  have hk := h0.k44
  have hcl40 := h0.cl
  have n1 : ∀ Q : Rv → Prop, oIx (netD N) (.int 1) Q = Q (.pu (.tup (cellsD N.m N.cells))) := fun Q => rfl
  simp! [n1, dFor, dSeq]
  have ecs : cellsD N.m N.cells = (List.range N.cells.length).map fun c => cellD (N.m + c) (N.cel c) := by
    unfold cellsD
    apply List.ext_getElem?
    intro i
    rw [List.getElem?_map, List.getElem?_map, List.getElem?_zipIdx]
    by_cases hi : i < N.cells.length
    · rw [List.getElem?_range hi, cel_at hi]; simp
    · rw [List.getElem?_eq_none (by omega), List.getElem?_eq_none (by rw [List.length_range]; omega)]; rfl
  rw [ecs]
  refine for_byA (fun c => cellD (N.m + c) (N.cel c)) (fun items S => ∃ c s3 s4 s5, S = [.pu (netD N), .pu (.tup (pt.map fq)), .ol ((N.vals pt c).map fq), s3, s4, s5] ∧ c + items.length = N.cells.length ∧ items = List.range' c items.length) ?_ ?_ _ _ ⟨0, _, _, _, rfl, by rw [List.length_range]; omega, by rw [List.length_range, List.range_eq_range']⟩
  · rintro S ⟨c, s3, s4, s5, rfl, e1, _⟩
    rw [List.length_nil, Nat.add_zero] at e1
    subst e1
    simp! []
    exact hr _ _ h
  · rintro j js S ⟨c, s3, s4, s5, rfl, e1, e2⟩ N2 hN2
    have ej : j = c ∧ js = List.range' (c + 1) js.length := by
      rw [List.length_cons, List.range'_succ] at e2
      exact ⟨(List.cons.inj e2).1, (List.cons.inj e2).2⟩
    obtain ⟨rfl, e3⟩ := ej
    rw [List.length_cons] at e1
    have hcl : j < N.cells.length := by omega
    obtain ⟨d2, B2, hv⟩ := vals_vd h0 hc hp hl j (by omega)
    have hvl := vals_len N pt j
    have hm := (h0.cel hcl).many
    have hcd := hc.cells j hcl
    have hcw := CW.len hm
    have hpsz : ∀ p ∈ (N.cel j).ss.map (wS (N.m + j) (N.vals pt j)), Sz 3900 p := fun p hp => by
      obtain ⟨s, hs, rfl⟩ := List.mem_map.mp hp
      exact Cd.sz (N := 3900) (hv.worth (hcd s hs) (by omega) (by omega)).2 (by
        have := hv.dx
        have a1 : Lc * d2 ≤ 2 ^ 19 * 2 ^ (x + 19 * j) := Nat.mul_le_mul (by decide) this
        rw [← Nat.pow_add] at a1
        exact Nat.lt_of_le_of_lt a1 (Nat.pow_lt_pow_right (by decide) (by omega))) (by
        have a1 : Lc * d2 ≤ 2 ^ 19 * 2 ^ (x + 19 * j) := Nat.mul_le_mul (by decide) hv.dx
        have a2 : 1024 * B2 ≤ 2 ^ 10 * 2 ^ (y + 10 * j) := Nat.mul_le_mul (by decide) hv.yb
        have a3 := Nat.mul_le_mul a2 a1
        rw [← Nat.pow_add, ← Nat.pow_add, ← Nat.pow_add] at a3
        exact Nat.lt_of_le_of_lt a3 (Nat.pow_lt_pow_right (by decide) (by omega)))
    have step : ∀ s ∈ (N.cel j).ss, ∀ Q : Rv → Prop, Q (.pu (fq (wS (N.m + j) (N.vals pt j) s))) → m__law_worth [.lst ((N.vals pt j).map fq), sD (N.m + j) s] Q := fun s hs Q hQ =>
      q_law_worthP (.inr rfl) hv (hcd s hs) (by omega) (by omega) (by omega) hQ
    have e9 : ((N.cel j).ss.map fun s => fq (wS (N.m + j) (N.vals pt j) s)) = ((N.cel j).ss.map (wS (N.m + j) (N.vals pt j))).map fq := by rw [List.map_map]; rfl
    have ev : N.vals pt (j + 1) = N.vals pt j ++ [cval (N.cel j).w ((N.cel j).ss.map (wS (N.m + j) (N.vals pt j)))] := rfl
    have hnx : ∀ s4 s5, N2 [.pu (netD N), .pu (.tup (pt.map fq)), .ol ((N.vals pt j ++ [cval (N.cel j).w ((N.cel j).ss.map (wS (N.m + j) (N.vals pt j)))]).map fq), .pu (cellD (N.m + j) (N.cel j)), s4, s5] := fun s4 s5 =>
      hN2 _ ⟨j + 1, _, _, _, by rw [ev], by omega, e3⟩
    have hpl : ((N.cel j).ss.map (wS (N.m + j) (N.vals pt j))).length = (N.cel j).ss.length := by rw [List.length_map]
    generalize N.cel j = ce at *
    obtain ⟨w, ss⟩ := ce
    have hvl2 : (N.vals pt j).length ≤ 100 := by omega
    generalize N.vals pt j = vv at *
    simp only at hm hcd hcw hpsz step e9 hnx hpl
    have fin : ∀ (E : DEnds) (s5 : Sl), E.nx = N2 → b__law_values_L1_1 E [.pu (netD N), .pu (.tup (pt.map fq)), .ol (vv.map fq), .pu (cellD (N.m + j) ⟨w, ss⟩), .ol ((ss.map (wS (N.m + j) vv)).map fq), s5] := fun E s5 hE =>
      lv_cell (M := 3900) (by rw [hpl]; exact hm) hpsz (by omega) hvl2 (by rw [hE]; exact hnx)
    have c1 : ∀ d : D, cutL (d :: ss.map (sD (N.m + j))) (some 1) none = ss.map (sD (N.m + j)) := fun d => by rw [show (1 : Int) = ((1 : Nat) : Int) from rfl, cut_drop]; rfl
    unfold b__law_values_L1
    cases w
    all_goals
      simp only [cellD, CW.s] at fin ⊢
      simp! [c1, dLc, dSeq]
      refine ⟨by rw [List.length_map]; unfold sizeLine; omega, ?_⟩
      refine lc_mapA (sD (N.m + j)) (fun s => fq (wS (N.m + j) vv s)) ?_ fun s hs R hR => ?_
      · rw [e9]
        simp! []
        exact fin _ _ rfl
      · simp! []
        refine step s hs _ ?_
        simp! [flat_fqT]
        exact hR
end
/-! k17: what the package tells of nets at points -/
section
variable {x y d B k m n M r : Nat} {s : Sm} {N : Net} {P : D} {hs : List D} {QQ : Rv → List D → Prop} {pt vs ps : List Rat} {E : DEnds} {z : D}
/-- a net, a point of it, all worths over one bottom -/
structure AtP (N : Net) (pt : List Rat) : Prop where
  ok : NetOk 4 N
  v : Vd 20 8 (Lc * 2) 256 pt
  l : pt.length = N.m
  c8 : N.cells.length ≤ 8
theorem AtP.vd (a : AtP N pt) (c : Nat) (hc : c ≤ N.cells.length) : ∃ d B, Vd (20 + 19 * c) (8 + 10 * c) d B (N.vals pt c) := by
  obtain ⟨d, B, h⟩ := vals_vd a.ok a.ok.cd a.v a.l c hc
  exact ⟨d, B, h⟩
theorem AtP.len (a : AtP N pt) (c : Nat) : (N.vals pt c).length = N.m + c := by rw [vals_len, a.l]
theorem AtP.sz (a : AtP N pt) : ∀ v ∈ N.vals pt N.cells.length, Sz 400 v := fun v hv => by
  obtain ⟨d, B, h⟩ := a.vd N.cells.length (Nat.le_refl _)
  have := a.c8
  exact (h.sz hv).mono (by omega)
theorem AtP.ptz (a : AtP N pt) : ∀ v ∈ pt, Sz 400 v := fun v hv => (a.v.sz hv).mono (by omega)
theorem AtP.kk (a : AtP N pt) : N.m + N.cells.length ≤ 44 := by have := a.ok.m4; have := a.c8; omega
theorem AtP.tk (a : AtP N pt) (c j : Nat) : (N.vals pt (c + j)).take (N.m + c) = N.vals pt c := by
  induction j with
  | zero => rw [Nat.add_zero, List.take_of_length_le (by rw [a.len]; exact Nat.le_refl _)]
  | succ j ih =>
    show (N.vals pt (c + j) ++ [_]).take (N.m + c) = _
    rw [List.take_append_of_le_length (by rw [a.len]; omega), ih]
theorem AtP.take (a : AtP N pt) {c : Nat} (hc : c ≤ N.cells.length) : (N.vals pt N.cells.length).take (N.m + c) = N.vals pt c := by
  have := a.tk c (N.cells.length - c)
  rw [show c + (N.cells.length - c) = N.cells.length by omega] at this
  exact this
theorem AtP.q_chk (a : AtP N pt) {Q : Rv → Prop} (h : Q (.pu .non)) : m_check_point [netD N, .tup (pt.map fq)] Q := q_check_point (M := 400) a.ok a.ptz (by omega) a.l h
theorem AtP.q_src (a : AtP N pt) {Q : Rv → Prop} (h : Q (.ol ((N.vals pt N.cells.length).map fq))) : m_raw_sources_at [netD N, .tup (pt.map fq)] Q := q_raw_sources_at a.ok a.ok.cd a.v a.l (by decide) h
theorem nd0 (Q : Rv → Prop) : oIx (netD N) (.int 0) Q = Q (.pu (.int N.m)) := rfl
theorem nd1 (Q : Rv → Prop) : oIx (netD N) (.int 1) Q = Q (.pu (.tup (cellsD N.m N.cells))) := rfl
theorem nd2 (Q : Rv → Prop) : oIx (netD N) (.int 2) Q = Q (.pu (.tup (N.outs.map (sD (N.m + N.cells.length))))) := rfl
theorem q_values17 (a : AtP N pt) {Q : Rv → Prop} (h : Q (.pu (.tup (((N.vals pt N.cells.length).drop N.m).map fq)))) : m_values [netD N, .tup (pt.map fq)] Q := by
  refine pure_by rfl fun E hn' hr => ?_
  simp only [List.map_cons, List.map_nil, List.cons_append, List.nil_append, List.append_nil, Nat.reduceSub, List.reduceReplicate]
  unfold b_values
  simp! []
  refine a.q_chk ?_
  simp! []
  refine a.q_src ?_
  simp! [nd0, cut_drop]
  rw [← List.map_drop]
  exact hr _ _ h
theorem q_is_point (a : AtP N pt) {Q : Rv → Prop} (h : Q (.pu (.bl true))) : m_is_point [netD N, .tup (pt.map fq)] Q := by
  refine pure_by rfl fun E hn' hr => ?_
  simp only [List.map_cons, List.map_nil, List.cons_append, List.nil_append, List.append_nil, Nat.reduceSub, List.reduceReplicate]
  unfold b_is_point
  simp! []
  refine q_check_net a.ok ?_
  simp! [nd0]
  refine q_raw_is_point a.ptz (by omega) a.l (by have := a.ok.m4; omega) ?_
  simp! []
  exact hr _ _ h
theorem inR_nat {i j : Nat} (h : i < j) : inR 0 ((j : Int) - 1) (.int (i : Nat)) = true := by
  show (decide ((0 : Int) ≤ (i : Nat)) && decide (((i : Nat) : Int) ≤ (j : Int) - 1)) = true
  rw [decide_eq_true (by omega), decide_eq_true (by omega)]; rfl
theorem q_value_of (a : AtP N pt) {i : Nat} (hi : i < N.m + N.cells.length) {Q : Rv → Prop} (h : Q (.pu (fq ((N.vals pt N.cells.length).getD i 0)))) : m_value_of [netD N, .tup (pt.map fq), .int (i : Nat)] Q := by
  refine pure_by rfl fun E hn' hr => ?_
  simp only [List.map_cons, List.map_nil, List.cons_append, List.nil_append, List.append_nil, Nat.reduceSub, List.reduceReplicate]
  unfold b_value_of
  have e : inR 0 (((N.m : Nat) : Int) + ((N.cells.length : Nat) : Int) - 1) (.int (i : Nat)) = true := by
    have := inR_nat hi
    rw [show (((N.m + N.cells.length : Nat) : Nat) : Int) = ((N.m : Nat) : Int) + ((N.cells.length : Nat) : Int) by omega] at this
    exact this
  simp! []
  refine a.q_chk ?_
  simp! [nd0, nd1, cells_len]
  refine q_is_within ?_
  rw [e]
  simp! []
  refine a.q_src ?_
  simp! []
  rw [ix_at (fqs_at (by rw [a.len]; exact hi))]
  exact hr _ _ h
theorem cellsR (N : Net) : cellsD N.m N.cells = (List.range N.cells.length).map fun c => cellD (N.m + c) (N.cel c) := by
  unfold cellsD
  apply List.ext_getElem?
  intro i
  rw [List.getElem?_map, List.getElem?_map, List.getElem?_zipIdx]
  by_cases hi : i < N.cells.length
  · rw [List.getElem?_range hi, cel_at hi]; simp
  · rw [List.getElem?_eq_none (by omega), List.getElem?_eq_none (by rw [List.length_range]; omega)]; rfl
theorem cellsR_at {c : Nat} (hc : c < N.cells.length) : atI ((List.range N.cells.length).map fun c => cellD (N.m + c) (N.cel c)) ((c : Nat) : Int) = some (cellD (N.m + c) (N.cel c)) := by
  rw [atI_n, List.getElem?_map, List.getElem?_range hc]; rfl
/-- the worths of a cell's sums -/
def Net.pts (N : Net) (pt : List Rat) (c : Nat) : List Rat := (N.cel c).ss.map (wS (N.m + c) (N.vals pt c))
theorem q_parts_of (a : AtP N pt) {c : Nat} (hc : c < N.cells.length) {Q : Rv → Prop} (h : Q (.pu (.tup ((N.pts pt c).map fq)))) : m_parts_of [netD N, .tup (pt.map fq), .int (c : Nat)] Q := by
  refine pure_by rfl fun E hn' hr => ?_
  simp only [List.map_cons, List.map_nil, List.cons_append, List.nil_append, List.append_nil, Nat.reduceSub, List.reduceReplicate]
  unfold b_parts_of
  have hk := a.kk
  have e := inR_nat hc
  have hcw := CW.len (a.ok.cel hc).many
  obtain ⟨d, B, hv⟩ := a.vd c (by omega)
  have htk := a.take (c := c) (by omega)
  rw [← htk] at hv
  have h8 := a.c8
  have e9 : ((N.cel c).ss.map fun s => fq (wS (N.m + c) ((N.vals pt N.cells.length).take (N.m + c)) s)) = (N.pts pt c).map fq := by unfold Net.pts; rw [htk, List.map_map]; rfl
  simp! []
  refine a.q_chk ?_
  simp! [nd1, cells_len]
  refine q_is_within ?_
  rw [e]
  simp! []
  refine a.q_src ?_
  simp! [nd1, cellsR, dLc, dSeq]
  rw [ixt_at (cellsR_at hc)]
  simp! []
  refine q_raw_cell_sums (a.ok.cel hc) fun w hw => ?_
  rcases hw with rfl | rfl
  all_goals
    simp! []
    refine ⟨by rw [List.length_map]; unfold sizeLine; omega, ?_⟩
    refine lc_mapJ (sD (N.m + c)) (fun s => fq (wS (N.m + c) ((N.vals pt N.cells.length).take (N.m + c)) s)) (fun S => ∃ s3, (s3 = .ol ((N.vals pt N.cells.length).map fq) ∨ s3 = .pu (.lst ((N.vals pt N.cells.length).map fq))) ∧ S = [.pu (netD N), .pu (.tup (pt.map fq)), .pu (.int (c : Nat)), s3, .no]) ⟨_, .inl rfl, rfl⟩ ?_ fun s hs S hS R hR => ?_
    · rintro S ⟨s3, _, rfl⟩
      rw [e9]
      simp! []
      exact hr _ _ h
    · obtain ⟨s3, hs3, rfl⟩ := hS
      rcases hs3 with rfl | rfl
      all_goals
        simp! []
        refine q_raw_worthQ (.inr rfl) hv (a.ok.cd.cells c hc s hs) (by rw [a.len]; omega) (by omega) (by omega) ?_
        simp! []
        exact hR _ ⟨_, .inr rfl, rfl⟩
/-- the shares of a sum -/
def shares (k : Nat) (vs : List Rat) (s : Sm) : List D := .tup [.int (-1), fq s.c] :: (canon k s.f).map fun p => .tup [.int (p.1 : Nat), fq (p.2 * vs.getD p.1 0)]
theorem q_out_parts (a : AtP N pt) {j : Nat} (hj : j < N.outs.length) {Q : Rv → Prop} (h : Q (.pu (.tup (shares (N.m + N.cells.length) (N.vals pt N.cells.length) (N.outs.getD j zS))))) : m_out_parts [netD N, .tup (pt.map fq), .int (j : Nat)] Q := by
  refine pure_by rfl fun E hn' hr => ?_
  simp only [List.map_cons, List.map_nil, List.cons_append, List.nil_append, List.append_nil, Nat.reduceSub, List.reduceReplicate]
  unfold b_out_parts
  have hk := a.kk
  have e := inR_nat hj
  have hl := a.len N.cells.length
  have ho := a.ok.outs (N.outs.getD j zS) (by rw [List.getD_eq_getElem?_getD, List.getElem?_eq_getElem hj]; exact List.getElem_mem hj)
  have e1 : atI (N.outs.map (sD (N.m + N.cells.length))) ((j : Nat) : Int) = some (sD (N.m + N.cells.length) (N.outs.getD j zS)) := by
    rw [atI_n, List.getElem?_map, List.getD_eq_getElem?_getD, List.getElem?_eq_getElem hj]; rfl
  have hcl := canon_len (N.m + N.cells.length) (N.outs.getD j zS).f
  have hz := a.sz
  unfold shares at h
  simp! []
  refine a.q_chk ?_
  simp! [nd2, List.length_map]
  refine q_is_within ?_
  rw [e]
  simp! []
  refine a.q_src ?_
  simp! [nd2]
  rw [ixt_at e1]
  generalize N.outs.getD j zS = s at *
  generalize N.m + N.cells.length = k at *
  generalize N.vals pt N.cells.length = V at *
  have esd : sD k s = .tup [.tup ((canon k s.f).map pqD), fq s.c] := rfl
  rw [esd]
  simp! [dLc, dSeq]
  refine ⟨by rw [List.length_map]; unfold sizeLine; omega, ?_⟩
  refine lc_mapA pqD (fun p => .tup [.int (p.1 : Nat), fq (p.2 * V.getD p.1 0)]) ?_ fun p hp R hR => ?_
  · simp! []
    refine ⟨by rw [List.length_map]; unfold sizeLine; omega, ?_⟩
    simp! []
    exact hr _ _ h
  · obtain ⟨a1, a2, _⟩ := canon_mem hp
    have hpl : p.1 < V.length := by omega
    simp! [tp_pqv]
    rw [ix_at (fqs_at hpl)]
    simp! []
    refine q_raw_times (m := 40) (n := 400) ?_ (hz _ (getD_mem hpl)) (by omega) ?_
    · rw [a2]; exact (ho.f _ a1).mono (by omega)
    simp! []
    exact hR
end
/-! k17: traces judged, first wrong; points drawn -/
section
variable {x y d B k m n M r : Nat} {s : Sm} {N : Net} {P : D} {hs : List D} {QQ : Rv → List D → Prop} {pt vs ps ts us : List Rat} {E : DEnds} {z : D}
theorem q_are_valuesG {ds : List D} (hn : n ≤ 9000) (hl : ds.length ≤ sizeLine) (hs : ∀ d ∈ ds, ∀ a b : Int, d = .tup [.int a, .int b] → a.natAbs < 2 ^ n ∧ b.natAbs < 2 ^ n) {Q : Rv → Prop} (h : Q (.pu (.bl (ds.all isF)))) : m_are_values [.tup ds] Q := by
  refine pure_by rfl fun E hn' hr => ?_
  simp only [List.map_cons, List.map_nil, List.cons_append, List.nil_append, List.append_nil, Nat.reduceSub, List.reduceReplicate]
  unfold b_are_values
  simp! [dLc, dSeq]
  refine ⟨hl, ?_⟩
  have e0 : ds = ds.map fun d => d := by simp
  rw [e0]
  refine lc_mapA (fun d => d) (fun d => .bl (isF d)) ?_ fun d hd R hR => ?_
  · have e2 : (((ds.map fun d => d).map isF).all id) = ds.all isF := by rw [List.map_map, List.all_map]; rfl
    have e3 : blsD ((ds.map fun d => d).map fun d => D.bl (isF d)) = some ((ds.map fun d => d).map isF) := bls_map isF _
    simp only [List.map_id_fun', id_eq] at e2 e3 ⊢
    simp! [e3, e2]
    exact hr _ _ h
  · simp! []
    refine q_is_fraction hn (hs d (by simpa using hd)) ?_
    simp! []
    exact hR
theorem q_are_values_n {Q : Rv → Prop} (hz : ∀ ds, z ≠ .tup ds) (h : Q (.pu (.bl false))) : m_are_values [z] Q := by
  refine pure_by rfl fun E hn' hr => ?_
  simp only [List.map_cons, List.map_nil, List.cons_append, List.nil_append, List.append_nil, Nat.reduceSub, List.reduceReplicate]
  unfold b_are_values
  cases z with
  | tup ds => exact absurd rfl (hz ds)
  | _ => simp! []; exact hr _ _ h
theorem eqDs_fq : ∀ us ts : List Rat, eqDs (us.map fq) (ts.map fq) = decide (us = ts)
  | [], [] => rfl
  | [], t :: ts => by rw [List.map_nil, List.map_cons, eqDs_nc]; simp
  | u :: us, [] => by rw [List.map_nil, List.map_cons, eqDs_cn]; simp
  | u :: us, t :: ts => by
    rw [List.map_cons, List.map_cons, eqDs_cons, eq_fq, eqDs_fq us ts]
    rw [← Bool.decide_and]
    simp
theorem okE_fqs (us : List Rat) : okE (.tup (us.map fq)) = true := okE_by 2 (by
  show (us.map fq).all (okAt 1) = true
  rw [List.all_eq_true]
  intro d hd
  obtain ⟨v, _, rfl⟩ := List.mem_map.mp hd
  exact okAt_fq 0 v)
/-- the cells' worths -/
abbrev Net.cvs (N : Net) (pt : List Rat) : List Rat := (N.vals pt N.cells.length).drop N.m
theorem q_is_values {L : Nat} (hL : L ≤ 9000) (a : AtP N pt) (hu : ∀ u ∈ us, Sz L u) (hl : us.length ≤ 1000) {Q : Rv → Prop} (h : Q (.pu (.bl (decide (us = N.cvs pt))))) : m_is_values [netD N, .tup (pt.map fq), .tup (us.map fq)] Q := by
  refine pure_by rfl fun E hn' hr => ?_
  simp only [List.map_cons, List.map_nil, List.cons_append, List.nil_append, List.append_nil, Nat.reduceSub, List.reduceReplicate]
  unfold b_is_values
  simp! []
  refine a.q_chk ?_
  simp! []
  refine q_are_values (n := L) hu hL (by unfold sizeLine; omega) ?_
  simp! []
  refine a.q_src ?_
  simp! [nd0, cut_drop]
  rw [← List.map_drop]
  simp! [okE_fqs, eqDs_fq]
  exact hr _ _ h
theorem q_is_values_f {L : Nat} (hL : L ≤ 9000) (a : AtP N pt) (hz : (∀ ds, z ≠ .tup ds) ∨ ∃ ds, z = .tup ds ∧ ds.length ≤ 1000 ∧ ds.all isF = false ∧ ∀ d ∈ ds, ∀ a b : Int, d = .tup [.int a, .int b] → a.natAbs < 2 ^ L ∧ b.natAbs < 2 ^ L) {Q : Rv → Prop} (h : Q (.pu (.bl false))) : m_is_values [netD N, .tup (pt.map fq), z] Q := by
  refine pure_by rfl fun E hn' hr => ?_
  simp only [List.map_cons, List.map_nil, List.cons_append, List.nil_append, List.append_nil, Nat.reduceSub, List.reduceReplicate]
  unfold b_is_values
  simp! []
  refine a.q_chk ?_
  simp! []
  rcases hz with hz | ⟨ds, rfl, h1, h2, h3⟩
  · refine q_are_values_n hz ?_
    simp! []
    exact hr _ _ h
  · refine q_are_valuesG (n := L) hL (by unfold sizeLine; omega) h3 ?_
    rw [h2]
    simp! []
    exact hr _ _ h
theorem cvs_len (a : AtP N pt) : (N.cvs pt).length = N.cells.length := by rw [List.length_drop, a.len]; omega
theorem cvs_at (a : AtP N pt) {c : Nat} (hc : c < N.cells.length) : (N.cvs pt).getD c 0 = (N.cel c).val (N.m + c) (N.vals pt c) := by
  have h1 := a.take (c := c + 1) (by omega)
  have h2 : (N.vals pt (c + 1)).getD (N.m + c) 0 = (N.cel c).val (N.m + c) (N.vals pt c) := by
    show (N.vals pt c ++ [_]).getD (N.m + c) 0 = _
    rw [List.getD_eq_getElem?_getD, List.getElem?_append_right (by rw [a.len]; exact Nat.le_refl _), a.len]
    simp
  rw [← h2, ← h1, List.getD_eq_getElem?_getD, List.getD_eq_getElem?_getD, List.getElem?_drop, List.getElem?_take_of_lt (by omega)]
theorem src_take (a : AtP N pt) {c : Nat} (hc : c ≤ N.cells.length) (hl : ts.length = N.cells.length) (he : ∀ i, i < c → ts.getD i 0 = (N.cvs pt).getD i 0) : (pt ++ ts).take (N.m + c) = N.vals pt c := by
  rw [← a.take hc]
  apply List.ext_getElem?
  intro i
  by_cases hi : i < N.m + c
  · rw [List.getElem?_take_of_lt hi, List.getElem?_take_of_lt hi]
    by_cases h1 : i < N.m
    · rw [List.getElem?_append_left (by rw [a.l]; exact h1)]
      have := a.take (c := 0) (by omega)
      have e : (N.vals pt N.cells.length).take N.m = pt := this
      have e2 := congrArg (·[i]?) e
      simp only [List.getElem?_take_of_lt h1] at e2
      exact e2.symm
    · rw [List.getElem?_append_right (by rw [a.l]; omega), a.l]
      have := he (i - N.m) (by omega)
      rw [List.getD_eq_getElem?_getD, List.getD_eq_getElem?_getD, List.getElem?_drop, show N.m + (i - N.m) = i by omega, List.getElem?_eq_getElem (by omega), List.getElem?_eq_getElem (by rw [a.len]; omega)] at this
      rw [List.getElem?_eq_getElem (by omega), List.getElem?_eq_getElem (by rw [a.len]; omega)]
      exact congrArg some this
  · rw [List.getElem?_eq_none (by rw [List.length_take]; omega), List.getElem?_eq_none (by rw [List.length_take]; omega)]
theorem zip_range17 (n : Nat) : (List.range n).zipIdx = (List.range n).map fun c => (c, c) := by
  apply List.ext_getElem?
  intro i
  rw [List.getElem?_zipIdx, List.getElem?_map]
  by_cases hi : i < n
  · rw [List.getElem?_range hi]; simp
  · rw [List.getElem?_eq_none (by rw [List.length_range]; omega)]; rfl
theorem q_first_wrong {L : Nat} (hL : L ≤ 9000) (at_ : AtP N pt) {a : Nat} (hts : ∀ u ∈ ts, Sz L u) (hl : ts.length = N.cells.length) (ha : a ≤ N.cells.length) (he : ∀ i, i < a → ts.getD i 0 = (N.cvs pt).getD i 0) (hne : a < N.cells.length → ts.getD a 0 ≠ (N.cvs pt).getD a 0) {Q : Rv → Prop}
    (h : Q (.pu (if a < N.cells.length then .int (a : Nat) else .non))) : m_first_wrong [netD N, .tup (pt.map fq), .tup (ts.map fq)] Q := by
  refine pure_by rfl fun E hn' hr => ?_
  simp only [List.map_cons, List.map_nil, List.cons_append, List.nil_append, List.append_nil, Nat.reduceSub, List.reduceReplicate]
  unfold b_first_wrong
  have hk := at_.kk
  have h8 := at_.c8
  have e1 : ((ts.length : Nat) : Int) = ((N.cells.length : Nat) : Int) := by omega
  have hpl := at_.l
  simp! []
  refine at_.q_chk ?_
  simp! []
  refine q_are_values (n := L) hts hL (by unfold sizeLine; omega) ?_
  simp! [nd1, cells_len, List.length_map, e1]
  have l1 : (pt.map fq).length + (ts.map fq).length ≤ sizeLine := by rw [List.length_map, List.length_map]; unfold sizeLine; omega
  have e2 : pt.map fq ++ ts.map fq = (pt ++ ts).map fq := by rw [List.map_append]
  have l2 : pt.length + ts.length ≤ sizeLine := by unfold sizeLine; omega
  simp! [l1, l2, e2, dFor, dEnum, seqD, nd1]
  rw [cellsR]
  rw [enumA, zip_range17, List.map_map]
  refine for_byA (fun c => D.tup [.int (c : Nat), cellD (N.m + c) (N.cel c)]) (fun items S => ∃ c s3 s4 s5, S = [.pu (netD N), .pu (.tup (pt.map fq)), .pu (.tup (ts.map fq)), s3, s4, s5] ∧ (s3 = .ol ((pt ++ ts).map fq) ∨ s3 = .pu (.lst ((pt ++ ts).map fq))) ∧ c ≤ a ∧ c + items.length = N.cells.length ∧ items = List.range' c items.length) ?_ ?_ _ _ ⟨0, _, _, _, rfl, .inl rfl, by omega, by rw [List.length_range]; omega, by rw [List.length_range, List.range_eq_range']⟩
  · rintro S ⟨c, s3, s4, s5, rfl, _, hca, e3, _⟩
    rw [List.length_nil, Nat.add_zero] at e3
    rw [if_neg (by omega)] at h
    simp! []
    exact hr _ _ h
  · rintro j js S ⟨c, s3, s4, s5, rfl, hs3, hca, e3, e4⟩ N2 hN2
    have ej : j = c ∧ js = List.range' (c + 1) js.length := by
      rw [List.length_cons, List.range'_succ] at e4
      exact ⟨(List.cons.inj e4).1, (List.cons.inj e4).2⟩
    obtain ⟨rfl, e5⟩ := ej
    rw [List.length_cons] at e3
    have hcl : j < N.cells.length := by omega
    have htk := src_take at_ (c := j) (by omega) hl fun i hi => he i (by omega)
    obtain ⟨d, B, hv⟩ := at_.vd j (by omega)
    rw [← htk] at hv
    have hat := cvs_at at_ hcl
    have hts1 : atI (ts.map fq) ((j : Nat) : Int) = some (fq (ts.getD j 0)) := fqs_at (by omega)
    have same : ts.getD j 0 = (N.cvs pt).getD j 0 ∨ (j = a ∧ ts.getD j 0 ≠ (N.cvs pt).getD j 0) := by
      by_cases hj : j < a
      · exact .inl (he j hj)
      · have : j = a := by omega
        subst this
        exact .inr ⟨rfl, hne hcl⟩
    rw [hat] at same
    rcases hs3 with rfl | rfl
    all_goals
      simp! [lTup_pu]
      refine q_raw_cell_valueQ (.inr rfl) (at_.ok.cel hcl) (at_.ok.cd.cells j hcl) hv (by rw [List.length_append]; omega) (by omega) (by omega) ?_
      rw [htk]
      simp! []
      rw [ixt_at hts1]
      rcases same with e6 | ⟨e6, e7⟩
      · have e8 : (N.cel j).val (N.m + j) (N.vals pt j) = ts.getD j 0 := e6.symm
        simp! [e8, okE_fqq]
        exact hN2 _ ⟨j + 1, _, _, _, rfl, .inr rfl, by
          by_cases hj : j < a
          · omega
          · exfalso
            have : j = a := by omega
            subst this
            exact hne hcl (by rw [hat]; exact e6), by omega, e5⟩
      · have e8 : ¬ (N.cel j).val (N.m + j) (N.vals pt j) = ts.getD j 0 := fun z => e7 z.symm
        rw [if_pos (by omega), ← e6] at h
        simp! [e8, okE_fqq]
        exact hr _ _ h
def ptXs : List Rat := [0, 1, -1, 1 / 2, -2 / 3, 3, 5 / 7, -40]
theorem ptXs_D : ptXs.map fq = [.tup [.int 0, .int 1], .tup [.int 1, .int 1], .tup [.int (-1), .int 1], .tup [.int 1, .int 2], .tup [.int (-2), .int 3], .tup [.int 3, .int 1], .tup [.int 5, .int 7], .tup [.int (-40), .int 1]] := by
  rw [show ptXs = [0, 1, -1, Rat.divInt 1 2, Rat.divInt (-2) 3, 3, Rat.divInt 5 7, -40] by decide +kernel]; rfl
theorem ptXs_cd : ∀ v ∈ ptXs, Cd (Lc * 2) 256 v := by
  intro v hv
  simp only [ptXs, List.mem_cons, List.not_mem_nil, or_false] at hv
  rcases hv with rfl | rfl | rfl | rfl | rfl | rfl | rfl | rfl
  · exact ⟨by decide, 0, by decide +kernel, by decide⟩
  · exact ⟨by decide, 720720, by decide +kernel, by decide⟩
  · exact ⟨by decide, -720720, by decide +kernel, by decide⟩
  · exact ⟨by decide, 360360, by decide +kernel, by decide⟩
  · exact ⟨by decide, -480480, by decide +kernel, by decide⟩
  · exact ⟨by decide, 2162160, by decide +kernel, by decide⟩
  · exact ⟨by decide, 514800, by decide +kernel, by decide⟩
  · exact ⟨by decide, -28828800, by decide +kernel, by decide⟩
theorem q_law_point {m : Nat} (h : HR r hs) (hm : m ≤ 4) (hr : 4 ≤ r) (k : ∀ pt : List Rat, pt.length = m → (∀ v ∈ pt, Cd (Lc * 2) 256 v) → ∀ hs', HR (r - 4) hs' → QQ (.pu (.tup (pt.map fq))) hs') : m__law_point hs [.int m] QQ := by
  refine io_by rfl fun E hn hr' => ?_
  simp only [List.map_cons, List.map_nil, List.cons_append, List.nil_append, List.append_nil, Nat.reduceSub, List.reduceReplicate]
  unfold b__law_point
  have er : (rangeD 0 ((m : Nat) : Int).toNat).length = m := by rw [range_len]; omega
  simp! [dLc, dRng]
  rw [← ptXs_D]
  refine ⟨by omega, by omega, by rw [er]; unfold sizeLine; omega, ?_⟩
  refine lc_by (fun items acc S => ∃ hs2 s2 pt, S = [.io 0 hs2, .pu (.int m), s2, .no] ∧ (s2 = .ol (ptXs.map fq) ∨ s2 = .pu (.lst (ptXs.map fq))) ∧ acc = List.map fq pt ∧ pt.length + items.length = m ∧ HR (r - 4 + items.length) hs2 ∧ ∀ v ∈ pt, Cd (Lc * 2) 256 v) ?_ ?_ _ _ _ ⟨hs, _, [], rfl, .inl rfl, rfl, by rw [er]; simp, h.mono (by rw [er]; omega), fun v hv => by cases hv⟩
  · rintro acc S ⟨hs2, s2, pt, rfl, _, rfl, e, h1, h2⟩
    rw [List.length_nil, Nat.add_zero] at e
    simp! []
    exact hr' _ _ _ (k pt e h2 _ (h1.mono (by simp)))
  · rintro d ds acc S ⟨hs2, s2, pt, rfl, hs2', rfl, e, h1, h2⟩ ih
    rw [List.length_cons] at e h1
    rcases hs2' with rfl | rfl
    all_goals
      simp! [dYes]
      refine q_sm h1 (by omega) (by simp [ptXs]) (by simp [ptXs]) fun d hd hs3 h3 => ?_
      obtain ⟨v, hv, rfl⟩ := List.mem_map.mp hd
      simp! []
      refine ih _ _ ⟨hs3, _, pt ++ [v], rfl, .inr rfl, by rw [List.map_append]; rfl, by rw [List.length_append, List.length_singleton]; omega, h3.mono (by omega), fun u hu => ?_⟩
      rcases List.mem_append.mp hu with q | q
      · exact h2 u q
      · rw [List.mem_singleton.mp q]; exact ptXs_cd v hv
end
/-! k17: the law's rounds -/
section
variable {x y d B k m n M r : Nat} {s : Sm} {N : Net} {P : D} {hs : List D} {QQ : Rv → List D → Prop} {pt vs ps ts us : List Rat} {E : DEnds} {z : D} {s0 s1 s2 s3 s4 s5 s6 s7 s8 s9 s10 s11 s12 s13 s14 s15 s16 s17 s18 s19 s20 : Sl}
abbrev Net.vD (N : Net) (pt : List Rat) : List D := (N.vals pt N.cells.length).map fq
theorem cvs_sz (a : AtP N pt) : ∀ u ∈ N.cvs pt, Sz 400 u := fun u hu => a.sz u (List.mem_of_mem_drop hu)
theorem fq13 : D.tup [.int 1, .int 3] = fq (1 / 3) := by
  rw [show (1 / 3 : Rat) = Rat.divInt 1 3 by decide +kernel]; rfl
theorem cut_neg17 (ds : List D) (h : 1 ≤ ds.length) : cutL ds none (some (-1)) = ds.take (ds.length - 1) := by
  unfold cutL HT.sIx
  rw [List.drop_zero]
  simp only [show ((-1 : Int) < 0) from by decide, if_true]
  rw [show ((-1 : Int) + (ds.length : Int)).toNat - 0 = ds.length - 1 by omega]
theorem getD_set' {us : List Rat} {i j : Nat} {v : Rat} : (us.set i v).getD j 0 = if i = j ∧ i < us.length then v else us.getD j 0 := by
  rw [List.getD_eq_getElem?_getD, List.getD_eq_getElem?_getD]
  by_cases h : i = j
  · subst h
    by_cases h2 : i < us.length
    · rw [List.getElem?_set_self h2, if_pos ⟨rfl, h2⟩]; rfl
    · rw [if_neg (fun z => h2 z.2), List.set_eq_of_length_le (by omega)]
  · rw [List.getElem?_set_ne h, if_neg (fun z => h z.1)]
theorem r17_11 {w : Rat} (a : AtP N pt) {i : Nat} (hi : i < N.cells.length) (hw : w ≠ (N.cvs pt).getD i 0) (hwz : Sz 405 w) (h : HR r hs) (hr : 1 ≤ r) (hR : ∀ hs' S, HR (r - 1) hs' → E.rt (.pu (.bl true)) (.io 0 hs' :: S)) :
    b__law_right_11 E [.io 0 hs, s1, s2, s3, .pu (.tup (((N.cvs pt).set i w).map fq)), s5, .pu (netD N), .pu (.tup (pt.map fq)), s8, s9, s10, s11, s12, s13, .pu (.tup ((N.cvs pt).map fq)), .pu (.int (i : Nat)), s16, s17, s18, s19, s20] := by
  unfold b__law_right_11
  have hl := cvs_len a
  have h8 := a.c8
  have hz := cvs_sz a
  obtain ⟨L, hL1, hL2⟩ : ∃ L : Nat, 405 ≤ L ∧ L ≤ 9000 := ⟨500, by omega, by omega⟩
  have yes : ∀ Q : Rv → Prop, Q (.pu (.bl true)) → m_is_values [netD N, .tup (pt.map fq), .tup ((N.cvs pt).map fq)] Q := fun Q hQ =>
    q_is_values hL2 a (fun u hu => (hz u hu).mono (by omega)) (by omega) (by rw [decide_eq_true rfl]; exact hQ)
  have no : ∀ us : List Rat, (∀ u ∈ us, Sz L u) → us.length ≤ 1000 → us ≠ N.cvs pt → ∀ Q : Rv → Prop, Q (.pu (.bl false)) → m_is_values [netD N, .tup (pt.map fq), .tup (us.map fq)] Q := fun us h1 h2 h3 Q hQ =>
    q_is_values hL2 a h1 h2 (by rw [decide_eq_false h3]; exact hQ)
  have nz := fun z hz Q hQ => q_is_values_f hL2 (z := z) a hz (Q := Q) hQ
  have hz5 : ∀ u ∈ N.cvs pt, Sz L u := fun u hu => (hz u hu).mono (by omega)
  have hoz : Sz L w := hwz.mono hL1
  have hneq : (N.cvs pt).set i w ≠ N.cvs pt := fun e => by
    have e2 : ((N.cvs pt).set i w).getD i 0 = (N.cvs pt).getD i 0 := congrArg (fun l : List Rat => l.getD i 0) e
    rw [getD_set', if_pos ⟨rfl, by omega⟩] at e2
    exact hw e2
  have hmap : ∀ u ∈ (N.cvs pt).map fq, isF u = true ∧ ∀ a b : Int, u = .tup [.int a, .int b] → a.natAbs < 2 ^ L ∧ b.natAbs < 2 ^ L := fun u hu => by
    obtain ⟨v, hv, rfl⟩ := List.mem_map.mp hu
    refine ⟨isF_fq v, fun a b e => ?_⟩
    have := hz5 v hv
    have e' : fq v = .tup [.int a, .int b] := e
    unfold fq at e'
    cases e'
    exact ⟨this.1, by rw [Int.natAbs_natCast]; exact this.2⟩
  generalize N.cvs pt = C at *
  have g1 : cutL (C.map fq) none (some (-1)) = (C.take (C.length - 1)).map fq := by rw [cut_neg17 _ (by rw [List.length_map]; omega), List.length_map, List.map_take]
  have g2 : cutL (C.map fq) none (some 1) = (C.take 1).map fq := by rw [show (1 : Int) = ((1 : Nat) : Int) from rfl, cut_take, List.map_take]
  have g3 : cutL (C.map fq) none (some ((i : Nat) : Int)) = (C.map fq).take i := cut_take i
  have g4 : cutL (C.map fq) (some (((i : Nat) : Int) + 1)) none = (C.map fq).drop (i + 1) := by rw [show ((i : Nat) : Int) + 1 = ((i + 1 : Nat) : Int) by omega, cut_drop]
  have l2 : (C.map fq).length + ((C.take 1).map fq).length ≤ sizeLine := by rw [List.length_map, List.length_map, List.length_take]; unfold sizeLine; omega
  have l3 : ((C.map fq).take i).length + 1 ≤ sizeLine := by rw [List.length_take, List.length_map]; unfold sizeLine; omega
  have l4 : ((C.map fq).take i ++ [D.non]).length + ((C.map fq).drop (i + 1)).length ≤ sizeLine := by rw [List.length_append, List.length_take, List.length_drop, List.length_map, List.length_singleton]; unfold sizeLine; omega
  have g5 : C.map fq ++ (C.take 1).map fq = (C ++ C.take 1).map fq := by rw [List.map_append]
  simp! [g1, g2, g3, g4, l2, l3, l4, g5]
  have l2' : C.length + (C.take 1).length ≤ sizeLine := by rw [List.length_take]; unfold sizeLine; omega
  simp! [l2', List.length_map]
  refine yes _ ?_
  simp! []
  refine q_sm h hr (by simp) (by simp) fun z hz2 hs2 h2 => ?_
  simp only [List.mem_cons, List.not_mem_nil, or_false] at hz2
  simp! []
  have key : ∀ Q : Rv → Prop, Q (.pu (.bl false)) → m_is_values [netD N, .tup (pt.map fq), z] Q := by
    intro Q hQ
    rcases hz2 with rfl | rfl | rfl | rfl | rfl | rfl | rfl | rfl
    · exact nz _ (.inl fun ds e => by cases e) Q hQ
    · exact nz _ (.inl fun ds e => by cases e) Q hQ
    · exact no _ (fun u hu => hz5 u (List.mem_of_mem_take hu)) (by rw [List.length_take]; omega) (fun e => by
        have := congrArg List.length e
        rw [List.length_take] at this
        omega) Q hQ
    · exact no _ (fun u hu => by
        rcases List.mem_or_eq_of_mem_set hu with q | rfl
        · exact hz5 u q
        · exact hoz) (by rw [List.length_set]; omega) hneq Q hQ
    · exact no _ (fun u hu => by
        rcases List.mem_append.mp hu with q | q
        · exact hz5 u q
        · exact hz5 u (List.mem_of_mem_take q)) (by rw [List.length_append, List.length_take]; omega) (fun e => by
        have := congrArg List.length e
        rw [List.length_append, List.length_take] at this
        omega) Q hQ
    · refine nz _ (.inr ⟨_, rfl, by rw [List.length_append, List.length_append, List.length_take, List.length_drop, List.length_map, List.length_singleton]; omega, ?_, fun u hu => ?_⟩) Q hQ
      · rw [List.all_append, List.all_append]
        have e : ([D.non].all isF) = false := rfl
        rw [e, Bool.and_false, Bool.false_and]
      · rcases List.mem_append.mp hu with q | q
        · rcases List.mem_append.mp q with q | q
          · exact (hmap u (List.mem_of_mem_take q)).2
          · rw [List.mem_singleton.mp q]; intro a b e; cases e
        · exact (hmap u (List.mem_of_mem_drop q)).2
    · exact nz _ (.inl fun ds e => by cases e) Q hQ
    · exact nz _ (.inl fun ds e => by cases e) Q hQ
  refine key _ ?_
  simp! []
  exact hR _ _ h2
theorem r17_8 (a : AtP N pt) (h1 : 1 ≤ N.cells.length) (h : HR r hs) (hr : 2 ≤ r) (hR : ∀ hs' S, HR (r - 2) hs' → E.rt (.pu (.bl true)) (.io 0 hs' :: S)) :
    b__law_right_8 E [.io 0 hs, .pu (.int N.m), .pu (.lst (N.vD pt)), s3, s4, s5, .pu (netD N), .pu (.tup (pt.map fq)), s8, s9, s10, s11, s12, s13, s14, s15, s16, s17, s18, s19, s20] := by
  unfold b__law_right_8
  have hl := cvs_len a
  have h8 := a.c8
  have hz := cvs_sz a
  have g0 : cutL (N.vD pt) (some ((N.m : Nat) : Int)) none = (N.cvs pt).map fq := by unfold Net.vD Net.cvs; rw [cut_drop, List.map_drop]
  simp! [g0, dConsO, dParN, nd1, cells_len]
  refine q_dr h (by omega) (by omega) (by omega) fun i hi hs2 h2 => ?_
  have hi' : i < N.cells.length := by omega
  obtain ⟨L, hL1, hL2⟩ : ∃ L : Nat, 405 ≤ L ∧ L ≤ 9000 := ⟨500, by omega, by omega⟩
  have hoz : Sz L ((N.cvs pt).getD i 0 + 1 / 3) := (sz_add (hz _ (getD_mem (by omega))) (y := (1 / 3 : Rat)) (n := 4) (by unfold Sz; decide +kernel)).mono (by omega)
  have e1 : atI ((N.cvs pt).map fq) ((i : Nat) : Int) = some (fq ((N.cvs pt).getD i 0)) := fqs_at (by omega)
  have g3 : cutL ((N.cvs pt).map fq) none (some ((i : Nat) : Int)) = ((N.cvs pt).map fq).take i := cut_take i
  have g4 : cutL ((N.cvs pt).map fq) (some (((i : Nat) : Int) + 1)) none = ((N.cvs pt).map fq).drop (i + 1) := by rw [show ((i : Nat) : Int) + 1 = ((i + 1 : Nat) : Int) by omega, cut_drop]
  have l3 : (((N.cvs pt).map fq).take i).length + 1 ≤ sizeLine := by rw [List.length_take, List.length_map]; unfold sizeLine; omega
  have l4 : ∀ z : D, (((N.cvs pt).map fq).take i ++ [z]).length + (((N.cvs pt).map fq).drop (i + 1)).length ≤ sizeLine := fun z => by rw [List.length_append, List.length_take, List.length_drop, List.length_map, List.length_singleton]; unfold sizeLine; omega
  have g5 : ((N.cvs pt).map fq).take i ++ [fq ((N.cvs pt).getD i 0 + 1 / 3)] ++ ((N.cvs pt).map fq).drop (i + 1) = ((N.cvs pt).set i ((N.cvs pt).getD i 0 + 1 / 3)).map fq := by
    rw [List.map_set, List.set_eq_take_append_cons_drop, if_pos (by rw [List.length_map]; omega), List.append_assoc]; rfl
  simp! []
  unfold b__law_right_9
  simp! [g3, g4, fq13]
  rw [ixt_at e1]
  simp! []
  refine q_law_plus (hz _ (getD_mem (by omega))) (n := 4) (by unfold Sz; decide +kernel) (by omega) ?_
  simp! [g3, g4, l3, l4, g5]
  unfold b__law_right_10
  have w1 : ∀ Q : Rv → Prop, Q (.pu .non) → m_first_wrong [netD N, .tup (pt.map fq), .tup ((N.cvs pt).map fq)] Q := fun Q hQ =>
    q_first_wrong hL2 a (a := N.cells.length) (fun u hu => (hz u hu).mono (by omega)) hl (by omega) (fun _ _ => rfl) (fun h => by omega) (by rw [if_neg (by omega)]; exact hQ)
  have w2 : ∀ Q : Rv → Prop, Q (.pu (.int (i : Nat))) → m_first_wrong [netD N, .tup (pt.map fq), .tup (((N.cvs pt).set i ((N.cvs pt).getD i 0 + 1 / 3)).map fq)] Q := fun Q hQ =>
    q_first_wrong hL2 a (a := i) (fun u hu => by
      rcases List.mem_or_eq_of_mem_set hu with q | rfl
      · exact (hz u q).mono (by omega)
      · exact hoz) (by rw [List.length_set]; exact hl) (by omega) (fun j hj => by rw [getD_set', if_neg (fun z => by omega)]) (fun _ => by
      rw [getD_set', if_pos ⟨rfl, by omega⟩]
      grind) (by rw [if_pos hi']; exact hQ)
  simp! []
  refine w1 _ ?_
  simp! []
  refine w2 _ ?_
  simp! []
  exact r17_11 a hi' (by grind) ((sz_add (hz _ (getD_mem (by omega))) (y := (1 / 3 : Rat)) (n := 4) (by unfold Sz; decide +kernel)).mono (by omega)) h2 (by omega) fun hs' S h3 => hR _ _ (h3.mono (by omega))
def shP (k : Nat) (vs : List Rat) (s : Sm) : List (Int × Rat) := (-1, s.c) :: (canon k s.f).map fun p => ((p.1 : Nat), p.2 * vs.getD p.1 0)
theorem shares_eq (k : Nat) (vs : List Rat) (s : Sm) : shares k vs s = (shP k vs s).map fun q => D.tup [.int q.1, fq q.2] := by
  unfold shares shP
  rw [List.map_cons, List.map_map]; rfl
theorem shP_snd (k : Nat) (vs : List Rat) (s : Sm) : (shP k vs s).map (·.2) = s.c :: terms vs (canon k s.f) := by
  unfold shP terms
  rw [List.map_cons, List.map_map]; rfl
theorem shares_same (k : Nat) (vs : List Rat) (s : Sm) : okE (.tup (shares k vs s)) = true ∧ eqDs (shares k vs s) (shares k vs s) = true := by
  have h : okAt 3 (.tup (shares k vs s)) = true := by
    rw [shares_eq]
    show (((shP k vs s).map fun q => D.tup [.int q.1, fq q.2]).all (okAt 2)) = true
    rw [List.all_eq_true]
    intro d hd
    obtain ⟨q, _, rfl⟩ := List.mem_map.mp hd
    show (okAt 1 (.int q.1) && (okAt 1 (fq q.2) && true)) = true
    rw [okAt_int, okAt_fq]; rfl
  exact ⟨okE_by 3 h, by rw [← eq_tup]; exact eqD_refl h⟩
theorem sD_eq (k : Nat) (s : Sm) : sD k s = .tup [.tup ((canon k s.f).map pqD), fq s.c] := rfl
theorem r17_L2 {k i : Nat} {V R : List Rat} {NX : Sg → Prop} (hop : ∀ Q : Rv → Prop, Q (.pu (.tup (shares k V s))) → m_out_parts [netD N, .tup (pt.map fq), .int (i : Nat)] Q) (hR : R.getD i 0 = wS k V s) (hi : i < R.length) (hM : M ≤ 4000) (hz : Sz M 0) (hc : Sz M s.c) (hw : SzAll M s.c (terms V (canon k s.f))) (hV : V.length = k) (hk : k ≤ 63)
    (hsf : ∀ i, i < k → Sz 24 (s.f i)) (hvz : ∀ v ∈ V, Sz M v) (hE : E.nx = NX) (nx : ∀ s12 s13 s18 s19, NX [s0, s1, .pu (.lst (V.map fq)), .pu (.tup (R.map fq)), s4, s5, .pu (netD N), .pu (.tup (pt.map fq)), s8, s9, s10, .pu (.int (i : Nat)), s12, s13, s14, s15, .pu (.tup ((canon k s.f).map pqD)), .pu (fq s.c), s18, s19, s20]) :
    b__law_right_L2 E [s0, s1, .pu (.lst (V.map fq)), .pu (.tup (R.map fq)), s4, s5, .pu (netD N), .pu (.tup (pt.map fq)), s8, s9, s10, .pu (.int (i : Nat)), s12, s13, s14, s15, .pu (.tup ((canon k s.f).map pqD)), .pu (fq s.c), s18, s19, s20] := by
  unfold b__law_right_L2
  have hcl := canon_len k s.f
  have hrt : atI (R.map fq) ((i : Nat) : Int) = some (fq (R.getD i 0)) := fqs_at hi
  obtain ⟨e1, e2⟩ := shares_same k V s
  have esh : D.tup [.int (-1), fq s.c] :: (canon k s.f).map (fun p => D.tup [.int (p.1 : Nat), fq (p.2 * V.getD p.1 0)]) = shares k V s := rfl
  simp! [dLc, dSeq]
  refine ⟨by rw [List.length_map]; unfold sizeLine; omega, ?_⟩
  refine lc_mapA pqD (fun p => .tup [.int (p.1 : Nat), fq (p.2 * V.getD p.1 0)]) ?_ fun p hp R' hR' => ?_
  · simp! []
    refine ⟨by rw [List.length_map]; unfold sizeLine; omega, ?_⟩
    rw [esh]
    simp! [fqz]
    unfold b__law_right_L2_2
    simp! [dFor, dSeq]
    refine hop _ ?_
    simp! []
    rw [shares_eq]
    refine for_byA (fun q : Int × Rat => D.tup [.int q.1, fq q.2]) (fun items S => ∃ t s18 s19, S = [s0, s1, .pu (.lst (V.map fq)), .pu (.tup (R.map fq)), s4, s5, .pu (netD N), .pu (.tup (pt.map fq)), s8, s9, s10, .pu (.int (i : Nat)), .pu (.tup ((shP k V s).map fun q => D.tup [.int q.1, fq q.2])), .pu (fq t), s14, s15, .pu (.tup ((canon k s.f).map pqD)), .pu (fq s.c), s18, s19, s20] ∧ SzAll M t (items.map (·.2)) ∧ tot t (items.map (·.2)) = wS k V s) ?_ ?_ _ _ ⟨0, _, _, rfl, ?_, ?_⟩
    · rintro S ⟨t, s18, s19, rfl, _, g⟩
      have g : t = wS k V s := g
      subst g
      rw [← shares_eq]
      unfold b__law_right_L2_3
      simp! []
      refine hop _ ?_
      simp! [e1, e2]
      rw [ixt_at hrt, hR]
      simp! [okE_fqq, eq_fqq, hE]
      exact nx _ _ _ _
    · rintro ⟨a, u⟩ qs S ⟨t, s18, s19, rfl, g1, g2⟩ N2 hN2
      obtain ⟨g3, g4, g5⟩ := g1
      unfold b__law_right_L3
      simp! []
      refine q_law_plus g3 g4 (by omega) ?_
      simp! []
      exact hN2 _ ⟨t + u, _, _, rfl, g5, g2⟩
    · rw [shP_snd]
      exact ⟨hz, hc, by rw [Rat.zero_add]; exact hw⟩
    · rw [shP_snd, tot_cons, Rat.zero_add]
      exact wS_eq
  · obtain ⟨a1, a2, _⟩ := canon_mem hp
    have hpl : p.1 < V.length := by omega
    simp! [tp_pqv]
    rw [ix_at (fqs_at hpl)]
    simp! []
    refine q_law_times (m := 24) (n := M) (by rw [a2]; exact hsf _ a1) (hvz _ (getD_mem hpl)) (by omega) ?_
    simp! []
    exact hR'
theorem r17_7 (a : AtP N pt) (h1 : 1 ≤ N.cells.length) (h : HR r hs) (hr : 2 ≤ r) (hR : ∀ hs' S, HR (r - 2) hs' → E.rt (.pu (.bl true)) (.io 0 hs' :: S)) :
    b__law_right_7 E [.io 0 hs, .pu (.int N.m), .pu (.lst (N.vD pt)), .pu (.tup ((N.run pt).map fq)), s4, s5, .pu (netD N), .pu (.tup (pt.map fq)), s8, s9, s10, s11, s12, s13, s14, s15, s16, s17, s18, s19, s20] := by
  unfold b__law_right_7
  have hk := a.kk
  have h8 := a.c8
  have ho := a.ok.o4
  have hl := a.len N.cells.length
  have hz := a.sz
  simp! [nd2, dFor, dEnum, seqD, enumA]
  refine for_byA (fun p : Sm × Nat => D.tup [.int (p.2 : Nat), sD (N.m + N.cells.length) p.1]) (fun items S => ∃ j s11 s12 s13 s16 s17 s18 s19, S = [.io 0 hs, .pu (.int N.m), .pu (.lst (N.vD pt)), .pu (.tup ((N.run pt).map fq)), s4, s5, .pu (netD N), .pu (.tup (pt.map fq)), s8, s9, s10, s11, s12, s13, s14, s15, s16, s17, s18, s19, s20] ∧ items = N.outs.zipIdx.drop j) ?_ ?_ _ _ ⟨0, _, _, _, _, _, _, _, rfl, rfl⟩
  · rintro S ⟨j, s11, s12, s13, s16, s17, s18, s19, rfl, _⟩
    exact r17_8 a h1 h hr hR
  · rintro ⟨s, i⟩ qs S ⟨j, s11, s12, s13, s16, s17, s18, s19, rfl, e⟩ N2 hN2
    obtain ⟨h5, h6, h7, hj⟩ := drop_zip e.symm
    simp only at h5 h6
    subst h6
    have es : N.outs.getD i zS = s := by rw [List.getD_eq_getElem?_getD, h5]; rfl
    have hos := a.ok.outs s (List.mem_of_getElem? h5)
    have hcd := a.ok.cd.outs s (List.mem_of_getElem? h5)
    have hrun : (N.run pt).getD i 0 = wS (N.m + N.cells.length) (N.vals pt N.cells.length) s := by
      unfold Net.run
      rw [List.getD_eq_getElem?_getD, List.getElem?_map, h5]; rfl
    have hrl : (N.run pt).length = N.outs.length := by unfold Net.run; rw [List.length_map]
    obtain ⟨d, B, hv⟩ := a.vd N.cells.length (Nat.le_refl _)
    have hop : ∀ Q : Rv → Prop, Q (.pu (.tup (shares (N.m + N.cells.length) (N.vals pt N.cells.length) s))) → m_out_parts [netD N, .tup (pt.map fq), .int (i : Nat)] Q := fun Q hQ => q_out_parts a hj (by rw [es]; exact hQ)
    have hw := (hv.worth hcd hl (by omega)).1
    simp! [sD_eq]
    refine r17_L2 (M := 20 + 19 * N.cells.length + (8 + 10 * N.cells.length) + 31) hop hrun (by omega) (by omega) ?_ hw.hd hw hl (by omega) (fun i hi => (hcd.f i hi).sz (by decide) (by decide)) (fun v hv2 => hv.sz hv2) rfl fun s12 s13 s18 s19 => hN2 _ ⟨i + 1, _, _, _, _, _, _, _, rfl, h7⟩
    exact sz0 (by omega)
theorem run_cd (a : AtP N pt) : ∀ s ∈ N.outs, ∀ Q : Rv → Prop, Q (.pu (fq (wS (N.m + N.cells.length) (N.vals pt N.cells.length) s))) → m__law_worth [.lst (N.vD pt), sD (N.m + N.cells.length) s] Q := fun s hs Q hQ => by
  obtain ⟨d, B, hv⟩ := a.vd N.cells.length (Nat.le_refl _)
  have hk := a.kk
  have h8 := a.c8
  exact q_law_worthP (.inr rfl) hv (a.ok.cd.outs s hs) (a.len _) (by omega) (by omega) hQ
end
/-! k17: the law's rounds, on -/
section
variable {x y d B k m n M r : Nat} {s : Sm} {N : Net} {P : D} {hs : List D} {QQ : Rv → List D → Prop} {pt vs ps ts us : List Rat} {E : DEnds} {z : D} {s0 s1 s2 s3 s4 s5 s6 s7 s8 s9 s10 s11 s12 s13 s14 s15 s16 s17 s18 s19 s20 : Sl}
theorem r17_6 (a : AtP N pt) (h1 : 1 ≤ N.cells.length) (h : HR r hs) (hr : 2 ≤ r) (hR : ∀ hs' S, HR (r - 2) hs' → E.rt (.pu (.bl true)) (.io 0 hs' :: S)) :
    b__law_right_6 E [.io 0 hs, .pu (.int N.m), .pu (.lst (N.vD pt)), .pu (.tup ((N.run pt).map fq)), s4, s5, .pu (netD N), .pu (.tup (pt.map fq)), s8, s9, s10, s11, s12, s13, s14, s15, s16, s17, s18, s19, s20] := by
  unfold b__law_right_6
  have hk := a.kk
  have h8 := a.c8
  simp! [nd1, dFor, dEnum, seqD]
  rw [cellsR, enumA, zip_range17, List.map_map]
  refine for_byA (fun c => D.tup [.int (c : Nat), cellD (N.m + c) (N.cel c)]) (fun items S => ∃ c s8 s9 s10 s20, S = [.io 0 hs, .pu (.int N.m), .pu (.lst (N.vD pt)), .pu (.tup ((N.run pt).map fq)), s4, s5, .pu (netD N), .pu (.tup (pt.map fq)), s8, s9, s10, s11, s12, s13, s14, s15, s16, s17, s18, s19, s20] ∧ c + items.length = N.cells.length ∧ items = List.range' c items.length) ?_ ?_ _ _ ⟨0, _, _, _, _, rfl, by rw [List.length_range]; omega, by rw [List.length_range, List.range_eq_range']⟩
  · rintro S ⟨c, s8, s9, s10, s20, rfl, _, _⟩
    exact r17_7 a h1 h hr hR
  · rintro j js S ⟨c, s8, s9, s10, s20, rfl, e3, e4⟩ N2 hN2
    have ej : j = c ∧ js = List.range' (c + 1) js.length := by
      rw [List.length_cons, List.range'_succ] at e4
      exact ⟨(List.cons.inj e4).1, (List.cons.inj e4).2⟩
    obtain ⟨rfl, e5⟩ := ej
    rw [List.length_cons] at e3
    have hcl : j < N.cells.length := by omega
    have hm := (a.ok.cel hcl).many
    have hcw := CW.len hm
    obtain ⟨d, B, hv⟩ := a.vd j (by omega)
    have htk := a.take (c := j) (by omega)
    rw [← htk] at hv
    have hl := a.len N.cells.length
    have hpo : ∀ Q : Rv → Prop, Q (.pu (.tup ((N.pts pt j).map fq))) → m_parts_of [netD N, .tup (pt.map fq), .int (j : Nat)] Q := fun Q hQ => q_parts_of a hcl hQ
    have step : ∀ s ∈ (N.cel j).ss, ∀ Q : Rv → Prop, Q (.pu (fq (wS (N.m + j) (N.vals pt j) s))) → m__law_worth [.lst (N.vD pt), sD (N.m + j) s] Q := fun s hs Q hQ =>
      q_law_worthQ (.inr rfl) hv (a.ok.cd.cells j hcl s hs) (by omega) (by omega) (by omega) (by rw [htk]; exact hQ)
    have e9 : ((N.cel j).ss.map fun s => fq (wS (N.m + j) (N.vals pt j) s)) = (N.pts pt j).map fq := by unfold Net.pts; rw [List.map_map]; rfl
    have e10 : eqDs ((N.pts pt j).map fq) ((N.pts pt j).map fq) = true := by rw [eqDs_fq]; simp
    have nx : ∀ s9 s10 s20, N2 [.io 0 hs, .pu (.int N.m), .pu (.lst (N.vD pt)), .pu (.tup ((N.run pt).map fq)), s4, s5, .pu (netD N), .pu (.tup (pt.map fq)), .pu (.int (j : Nat)), s9, s10, s11, s12, s13, s14, s15, s16, s17, s18, s19, s20] := fun s9 s10 s20 => hN2 _ ⟨j + 1, _, _, _, _, rfl, by omega, e5⟩
    generalize N.pts pt j = pp at *
    generalize N.cel j = ce at *
    obtain ⟨w, ss⟩ := ce
    simp only at hm hcw step e9
    have c1 : ∀ d : D, cutL (d :: ss.map (sD (N.m + j))) (some 1) none = ss.map (sD (N.m + j)) := fun d => by rw [show (1 : Int) = ((1 : Nat) : Int) from rfl, cut_drop]; rfl
    unfold b__law_right_L1
    cases w
    all_goals
      simp! [cellD, CW.s, c1]
      unfold b__law_right_L1_1
      simp! []
      refine hpo _ ?_
      simp! [dLc, dSeq]
      refine ⟨by rw [List.length_map]; unfold sizeLine; omega, ?_⟩
      refine lc_mapA (sD (N.m + j)) (fun s => fq (wS (N.m + j) (N.vals pt j) s)) ?_ fun s hs R hR' => ?_
      · rw [e9]
        simp! [okE_fqs, e10]
        exact nx _ _ _
      · simp! []
        refine step s hs _ ?_
        simp! []
        exact hR'
theorem r17_4 (a : AtP N pt) (h1 : 1 ≤ N.cells.length) (h : HR r hs) (hr : 2 ≤ r) (hR : ∀ hs' S, HR (r - 2) hs' → E.rt (.pu (.bl true)) (.io 0 hs' :: S)) :
    b__law_right_4 E [.io 0 hs, .pu (.int N.m), .pu (.lst (N.vD pt)), .pu (.tup ((N.run pt).map fq)), s4, s5, .pu (netD N), .pu (.tup (pt.map fq)), s8, s9, s10, s11, s12, s13, s14, s15, s16, s17, s18, s19, s20] := by
  unfold b__law_right_4
  have hl := a.len N.cells.length
  have hk := a.kk
  have g0 : cutL (N.vD pt) (some ((N.m : Nat) : Int)) none = (N.cvs pt).map fq := by unfold Net.vD Net.cvs; rw [cut_drop, List.map_drop]
  have e1 : eqDs ((N.cvs pt).map fq) ((N.cvs pt).map fq) = true := by rw [eqDs_fq]; simp
  have e2 : eqDs ((N.run pt).map fq) ((N.run pt).map fq) = true := by rw [eqDs_fq]; simp
  have e3 : eqDs (N.vD pt) (N.vD pt) = true := by unfold Net.vD; rw [eqDs_fq]; simp
  have e4 : okE (.tup (N.vD pt)) = true := okE_fqs _
  have lv : (N.vD pt).length = N.m + N.cells.length := by unfold Net.vD; rw [List.length_map, hl]
  simp! []
  refine q_values17 a ?_
  simp! [g0, okE_fqs, e1]
  refine q_run a.ok a.ok.cd a.v a.l (by decide) ?_
  simp! [okE_fqs, e2]
  refine q_is_point a ?_
  simp! []
  unfold b__law_right_5
  simp! [dLc, dRng, lv]
  have er : rangeD 0 (((N.m + N.cells.length : Nat) : Int)).toNat = (List.range (N.m + N.cells.length)).map fun j : Nat => D.int (j : Int) := by
    unfold rangeD
    rw [show ((((N.m + N.cells.length : Nat) : Nat) : Int)).toNat = N.m + N.cells.length by omega]
    apply List.map_congr_left
    intro j _
    show D.int (0 + (j : Int)) = _
    rw [Int.zero_add]
  rw [er]
  refine ⟨by omega, by omega, by rw [List.length_map, List.length_range]; unfold sizeLine; omega, ?_⟩
  refine lc_mapA (fun j : Nat => D.int (j : Int)) (fun j => fq ((N.vals pt N.cells.length).getD j 0)) ?_ fun j hj R hR' => ?_
  · have e5 : ((List.range (N.m + N.cells.length)).map fun j => fq ((N.vals pt N.cells.length).getD j 0)) = N.vD pt := by
      unfold Net.vD
      apply List.ext_getElem?
      intro i
      rw [List.getElem?_map, List.getElem?_map]
      by_cases hi : i < N.m + N.cells.length
      · rw [List.getElem?_range hi, Option.map_some, List.getD_eq_getElem?_getD, List.getElem?_eq_getElem (by omega)]; rfl
      · rw [List.getElem?_eq_none (by rw [List.length_range]; omega), List.getElem?_eq_none (by omega)]; rfl
    rw [e5]
    simp! [e3, e4]
    exact r17_6 a h1 h hr hR
  · simp! []
    refine q_value_of a (List.mem_range.mp hj) ?_
    simp! []
    exact hR'
theorem q_law_right17 (h : HR r hs) (hr : 450 ≤ r := by omega) (k : ∀ hs', HR (r - 450) hs' → QQ (.pu (.bl true)) hs') : m__law_right hs [] QQ := by
  refine io_by rfl fun E hn hr' => ?_
  simp only [List.map_cons, List.map_nil, List.cons_append, List.nil_append, List.append_nil, Nat.reduceSub, List.reduceReplicate]
  unfold b__law_right
  simp! []
  refine q_dr h (by omega) (by omega) (by omega) fun i hi hs1 h1 => ?_
  have em : (1 : Int) + (i : Int) = ((i + 1 : Nat) : Int) := by omega
  simp! [em, dConsO, dParN]
  refine q_law_net (most := 8) h1 (by omega) (by omega) (by omega) (by omega) (by omega) fun N hm c1 c6 h0 hs2 h2 => ?_
  rw [← hm]
  simp! []
  refine q_law_point h2 h0.m4 (by omega) fun pt hl hcd hs3 h3 => ?_
  have a : AtP N pt := ⟨h0, ⟨by decide, by decide, by decide, by decide, hcd⟩, hl, c6⟩
  simp! []
  unfold b__law_right_2
  simp! []
  refine q_law_values h0 h0.cd a.v a.l (by decide) ?_
  simp! []
  unfold b__law_right_3
  have ho := h0.o4
  have ho1 := h0.o1
  simp! [nd2, dLc, dSeq]
  refine ⟨by rw [List.length_map]; unfold sizeLine; omega, ?_⟩
  have e9 : (N.outs.map fun s => fq (wS (N.m + N.cells.length) (N.vals pt N.cells.length) s)) = (N.run pt).map fq := by unfold Net.run; rw [List.map_map]; rfl
  refine lc_by (fun items acc S => ∃ done rest s2 s20, N.outs = done ++ rest ∧ items = rest.map (sD (N.m + N.cells.length)) ∧ acc = done.map (fun s => fq (wS (N.m + N.cells.length) (N.vals pt N.cells.length) s)) ∧ (s2 = .pu (.lst (N.vD pt)) ∨ (done = [] ∧ s2 = .ol (N.vD pt))) ∧ S = [.io 0 hs3, .pu (.int N.m), s2, .no, .no, .no, .pu (netD N), .pu (.tup (pt.map fq)), .no, .no, .no, .no, .no, .no, .no, .no, .no, .no, .no, .no, s20]) ?_ ?_ _ _ _ ⟨[], N.outs, _, _, rfl, rfl, rfl, .inr ⟨rfl, rfl⟩, rfl⟩
  · rintro acc S ⟨done, rest, s2, s20, e, e2, rfl, hs2, rfl⟩
    have er : rest = [] := List.map_eq_nil_iff.mp e2.symm
    subst er
    rw [List.append_nil] at e
    rcases hs2 with rfl | ⟨z, _⟩
    · rw [← e, e9]
      simp! []
      exact r17_4 a c1 h3 (by omega) fun hs' S h4 => hr' _ _ _ (k _ (h4.mono (by omega)))
    · rw [z] at e
      rw [e] at ho1
      simp at ho1
  · rintro d ds acc S ⟨done, rest, s2, s20, e, e2, rfl, hs2, rfl⟩ ih
    obtain ⟨s, rest2, rfl⟩ : ∃ s rest2, rest = s :: rest2 := by
      cases rest with
      | nil => cases e2
      | cons s r => exact ⟨s, r, rfl⟩
    rw [List.map_cons] at e2
    obtain ⟨rfl, rfl⟩ := List.cons.inj e2
    have hso : s ∈ N.outs := by rw [e]; simp
    rcases hs2 with rfl | ⟨_, rfl⟩
    all_goals
      simp! [dYes]
      refine run_cd a s hso _ ?_
      simp! []
      exact ih _ _ ⟨done ++ [s], rest2, _, _, by rw [e, List.append_assoc]; rfl, rfl, by rw [List.map_append]; rfl, .inl rfl, rfl⟩
end
/-! k17: the words -/
def WQ (c : PySem.Str) (xs : List D) (Q : Rv → Prop) : Prop := c ∈ plNames cs ∧ wSel l__law_word c xs (wMid p__law_word Q) (List.replicate 4 .no)
theorem w_raise {dc : Den} {rc : DenL} {S : Sg} {QQ : Rv → Sg → Prop} (h : rc S fun c xs S1 => WQ c xs fun rv => QQ rv S1) : w__law_word dc rc S QQ := .inr h
theorem word_net {Q : Rv → Prop} (h : Q (.pu (.str "net"))) : WQ "NoNet" [] Q := by
  have s0 : subE "NoNet" "NoNet" = true := by decide
  have s1 : subE "NoNet" "NoPoint" = false := by decide
  have s2 : subE "NoNet" "NoSource" = false := by decide
  have s3 : subE "NoNet" "NoTrace" = false := by decide
  have s4 : subE "NoNet" "NoCell" = false := by decide
  have s5 : subE "NoNet" "NoOut" = false := by decide
  refine ⟨by decide +kernel, ?_⟩
  unfold l__law_word
  refine .inr ⟨by decide, .inl ⟨by decide, fun a => ?_⟩⟩
  unfold b__law_word_c1
  have e0 : (List.replicate 4 Sl.no) = [.no, .no, .no, .no] := rfl
  rw [e0]
  have c1 : ([D.bl true, D.bl false, D.bl false, D.bl false, D.bl false, D.bl false].countP fun z => eqD z (.bl true)) = 1 := by decide
  have e1 : okE (.lst [D.bl true, D.bl false, D.bl false, D.bl false, D.bl false, D.bl false]) = true := by decide
  simp! [s0, s1, s2, s3, s4, s5, e1, c1]
  refine ⟨0, ⟨_, rfl, by decide⟩, fun m z hm e => ?_, ?_⟩
  · have q := (show ∀ m, m < 0 → (([D.bl true, D.bl false, D.bl false, D.bl false, D.bl false, D.bl false] : List D)[m]?.map fun z => eqD z (.bl true)) = some false from by decide) m hm
    rw [e] at q
    exact Option.some.inj q
  simp! []
  exact h
theorem word_point {Q : Rv → Prop} (h : Q (.pu (.str "point"))) : WQ "NoPoint" [] Q := by
  have s0 : subE "NoPoint" "NoNet" = false := by decide
  have s1 : subE "NoPoint" "NoPoint" = true := by decide
  have s2 : subE "NoPoint" "NoSource" = false := by decide
  have s3 : subE "NoPoint" "NoTrace" = false := by decide
  have s4 : subE "NoPoint" "NoCell" = false := by decide
  have s5 : subE "NoPoint" "NoOut" = false := by decide
  refine ⟨by decide +kernel, ?_⟩
  unfold l__law_word
  refine .inr ⟨by decide, .inl ⟨by decide, fun a => ?_⟩⟩
  unfold b__law_word_c1
  have e0 : (List.replicate 4 Sl.no) = [.no, .no, .no, .no] := rfl
  rw [e0]
  have c1 : ([D.bl false, D.bl true, D.bl false, D.bl false, D.bl false, D.bl false].countP fun z => eqD z (.bl true)) = 1 := by decide
  have e1 : okE (.lst [D.bl false, D.bl true, D.bl false, D.bl false, D.bl false, D.bl false]) = true := by decide
  simp! [s0, s1, s2, s3, s4, s5, e1, c1]
  refine ⟨1, ⟨_, rfl, by decide⟩, fun m z hm e => ?_, ?_⟩
  · have q := (show ∀ m, m < 1 → (([D.bl false, D.bl true, D.bl false, D.bl false, D.bl false, D.bl false] : List D)[m]?.map fun z => eqD z (.bl true)) = some false from by decide) m hm
    rw [e] at q
    exact Option.some.inj q
  simp! []
  exact h
theorem word_source {Q : Rv → Prop} (h : Q (.pu (.str "source"))) : WQ "NoSource" [] Q := by
  have s0 : subE "NoSource" "NoNet" = false := by decide
  have s1 : subE "NoSource" "NoPoint" = false := by decide
  have s2 : subE "NoSource" "NoSource" = true := by decide
  have s3 : subE "NoSource" "NoTrace" = false := by decide
  have s4 : subE "NoSource" "NoCell" = false := by decide
  have s5 : subE "NoSource" "NoOut" = false := by decide
  refine ⟨by decide +kernel, ?_⟩
  unfold l__law_word
  refine .inr ⟨by decide, .inl ⟨by decide, fun a => ?_⟩⟩
  unfold b__law_word_c1
  have e0 : (List.replicate 4 Sl.no) = [.no, .no, .no, .no] := rfl
  rw [e0]
  have c1 : ([D.bl false, D.bl false, D.bl true, D.bl false, D.bl false, D.bl false].countP fun z => eqD z (.bl true)) = 1 := by decide
  have e1 : okE (.lst [D.bl false, D.bl false, D.bl true, D.bl false, D.bl false, D.bl false]) = true := by decide
  simp! [s0, s1, s2, s3, s4, s5, e1, c1]
  refine ⟨2, ⟨_, rfl, by decide⟩, fun m z hm e => ?_, ?_⟩
  · have q := (show ∀ m, m < 2 → (([D.bl false, D.bl false, D.bl true, D.bl false, D.bl false, D.bl false] : List D)[m]?.map fun z => eqD z (.bl true)) = some false from by decide) m hm
    rw [e] at q
    exact Option.some.inj q
  simp! []
  exact h
theorem word_trace {Q : Rv → Prop} (h : Q (.pu (.str "trace"))) : WQ "NoTrace" [] Q := by
  have s0 : subE "NoTrace" "NoNet" = false := by decide
  have s1 : subE "NoTrace" "NoPoint" = false := by decide
  have s2 : subE "NoTrace" "NoSource" = false := by decide
  have s3 : subE "NoTrace" "NoTrace" = true := by decide
  have s4 : subE "NoTrace" "NoCell" = false := by decide
  have s5 : subE "NoTrace" "NoOut" = false := by decide
  refine ⟨by decide +kernel, ?_⟩
  unfold l__law_word
  refine .inr ⟨by decide, .inl ⟨by decide, fun a => ?_⟩⟩
  unfold b__law_word_c1
  have e0 : (List.replicate 4 Sl.no) = [.no, .no, .no, .no] := rfl
  rw [e0]
  have c1 : ([D.bl false, D.bl false, D.bl false, D.bl true, D.bl false, D.bl false].countP fun z => eqD z (.bl true)) = 1 := by decide
  have e1 : okE (.lst [D.bl false, D.bl false, D.bl false, D.bl true, D.bl false, D.bl false]) = true := by decide
  simp! [s0, s1, s2, s3, s4, s5, e1, c1]
  refine ⟨3, ⟨_, rfl, by decide⟩, fun m z hm e => ?_, ?_⟩
  · have q := (show ∀ m, m < 3 → (([D.bl false, D.bl false, D.bl false, D.bl true, D.bl false, D.bl false] : List D)[m]?.map fun z => eqD z (.bl true)) = some false from by decide) m hm
    rw [e] at q
    exact Option.some.inj q
  simp! []
  exact h
theorem word_cell {Q : Rv → Prop} (h : Q (.pu (.str "cell"))) : WQ "NoCell" [] Q := by
  have s0 : subE "NoCell" "NoNet" = false := by decide
  have s1 : subE "NoCell" "NoPoint" = false := by decide
  have s2 : subE "NoCell" "NoSource" = false := by decide
  have s3 : subE "NoCell" "NoTrace" = false := by decide
  have s4 : subE "NoCell" "NoCell" = true := by decide
  have s5 : subE "NoCell" "NoOut" = false := by decide
  refine ⟨by decide +kernel, ?_⟩
  unfold l__law_word
  refine .inr ⟨by decide, .inl ⟨by decide, fun a => ?_⟩⟩
  unfold b__law_word_c1
  have e0 : (List.replicate 4 Sl.no) = [.no, .no, .no, .no] := rfl
  rw [e0]
  have c1 : ([D.bl false, D.bl false, D.bl false, D.bl false, D.bl true, D.bl false].countP fun z => eqD z (.bl true)) = 1 := by decide
  have e1 : okE (.lst [D.bl false, D.bl false, D.bl false, D.bl false, D.bl true, D.bl false]) = true := by decide
  simp! [s0, s1, s2, s3, s4, s5, e1, c1]
  refine ⟨4, ⟨_, rfl, by decide⟩, fun m z hm e => ?_, ?_⟩
  · have q := (show ∀ m, m < 4 → (([D.bl false, D.bl false, D.bl false, D.bl false, D.bl true, D.bl false] : List D)[m]?.map fun z => eqD z (.bl true)) = some false from by decide) m hm
    rw [e] at q
    exact Option.some.inj q
  simp! []
  exact h
theorem word_out {Q : Rv → Prop} (h : Q (.pu (.str "out"))) : WQ "NoOut" [] Q := by
  have s0 : subE "NoOut" "NoNet" = false := by decide
  have s1 : subE "NoOut" "NoPoint" = false := by decide
  have s2 : subE "NoOut" "NoSource" = false := by decide
  have s3 : subE "NoOut" "NoTrace" = false := by decide
  have s4 : subE "NoOut" "NoCell" = false := by decide
  have s5 : subE "NoOut" "NoOut" = true := by decide
  refine ⟨by decide +kernel, ?_⟩
  unfold l__law_word
  refine .inr ⟨by decide, .inl ⟨by decide, fun a => ?_⟩⟩
  unfold b__law_word_c1
  have e0 : (List.replicate 4 Sl.no) = [.no, .no, .no, .no] := rfl
  rw [e0]
  have c1 : ([D.bl false, D.bl false, D.bl false, D.bl false, D.bl false, D.bl true].countP fun z => eqD z (.bl true)) = 1 := by decide
  have e1 : okE (.lst [D.bl false, D.bl false, D.bl false, D.bl false, D.bl false, D.bl true]) = true := by decide
  simp! [s0, s1, s2, s3, s4, s5, e1, c1]
  refine ⟨5, ⟨_, rfl, by decide⟩, fun m z hm e => ?_, ?_⟩
  · have q := (show ∀ m, m < 5 → (([D.bl false, D.bl false, D.bl false, D.bl false, D.bl false, D.bl true] : List D)[m]?.map fun z => eqD z (.bl true)) = some false from by decide) m hm
    rw [e] at q
    exact Option.some.inj q
  simp! []
  exact h
/-! a tuple of so many -/
def isT (n : Int) : D → Bool
  | .tup ds => decide ((ds.length : Int) = n)
  | _ => false
theorem isT_t (n : Int) (ds : List D) : isT n (.tup ds) = decide ((ds.length : Int) = n) := rfl
theorem isT_l (n : Int) (ds : List D) : isT n (.lst ds) = false := rfl
theorem q_isT {d : D} {n : Int} (h : Q (.pu (.bl (isT n d)))) : m_is_tuple_of [d, .int n] Q := by
  refine q_is_tuple_of ?_
  cases d <;> exact h
/-! k17: what is refused -/
section
variable {n r : Nat} {N : Net} {hs : List D} {QQ : Rv → List D → Prop} {E : DEnds} {EE : PySem.Str → List D → Prop} {z b : D} {pt : List Rat}
def offs (T : List D) : List D := [.non, .tup [], .tup (cutL T none (some 1)), .lst T, .tup (T ++ T), .tup [.int 0, .int 1], .tup [.tup [.int 2, .int 4], .tup [.int 0, .int 1]], .int 0]
theorem no_point (hl : pt.length = 2) (hp : ∀ v ∈ pt, Sz 400 v) (hz : z ∈ offs (pt.map fq)) (Q : Rv → Prop) (h : Q (.pu (.bl false))) : m_raw_is_point [.int 2, z] Q := by
  refine pure_by rfl fun E hn hr => ?_
  simp only [List.map_cons, List.map_nil, List.cons_append, List.nil_append, List.append_nil, Nat.reduceSub, List.reduceReplicate]
  unfold b_raw_is_point
  have go : ∀ us : List Rat, (∀ u ∈ us, Sz 400 u) → us.length ≤ 10 → us.length ≠ 2 → z = .tup (us.map fq) → dRet (dAndV (dCall m_are_values (dCons (dVar 1) dNil)) (dBin oEq (dCB oLen (dCons (dVar 1) dNil)) (dVar 0))) E [.pu (.int 2), .pu z] := by
    rintro us h1 h2 h3 rfl
    simp! []
    refine q_are_values (n := 400) h1 (by omega) (by unfold sizeLine; omega) ?_
    have e : ¬ ((us.length : Nat) : Int) = 2 := by omega
    simp! [List.length_map, e]
    exact hr _ _ h
  have gn : (∀ ds, z ≠ .tup ds) → dRet (dAndV (dCall m_are_values (dCons (dVar 1) dNil)) (dBin oEq (dCB oLen (dCons (dVar 1) dNil)) (dVar 0))) E [.pu (.int 2), .pu z] := fun hz => by
    simp! []
    refine q_are_values_n hz ?_
    simp! []
    exact hr _ _ h
  have gf : ∀ ds : List D, ds.length ≤ 10 → (∀ d ∈ ds, ∀ a b : Int, d = .tup [.int a, .int b] → a.natAbs < 2 ^ 10 ∧ b.natAbs < 2 ^ 10) → ds.all isF = false → z = .tup ds → dRet (dAndV (dCall m_are_values (dCons (dVar 1) dNil)) (dBin oEq (dCB oLen (dCons (dVar 1) dNil)) (dVar 0))) E [.pu (.int 2), .pu z] := by
    rintro ds h1 h2 h3 rfl
    simp! []
    refine q_are_valuesG (n := 10) (by omega) (by unfold sizeLine; omega) h2 ?_
    rw [h3]
    simp! []
    exact hr _ _ h
  unfold offs at hz
  simp only [List.mem_cons, List.not_mem_nil, or_false] at hz
  rcases hz with rfl | rfl | rfl | rfl | rfl | rfl | rfl | rfl
  · exact gn (fun ds e => by cases e)
  · exact go [] (fun u hu => by cases hu) (by decide) (by decide) rfl
  · refine go (pt.take 1) (fun u hu => hp u (List.mem_of_mem_take hu)) (by rw [List.length_take]; omega) (by rw [List.length_take]; omega) ?_
    rw [show (1 : Int) = ((1 : Nat) : Int) from rfl, cut_take, List.map_take]
  · exact gn (fun ds e => by cases e)
  · refine go (pt ++ pt) (fun u hu => (List.mem_append.mp hu).elim (hp u) (hp u)) (by rw [List.length_append]; omega) (by rw [List.length_append]; omega) ?_
    rw [List.map_append]
  · exact gf _ (by decide) (fun d hd a b e => by
      simp only [List.mem_cons, List.not_mem_nil, or_false] at hd
      rcases hd with rfl | rfl <;> cases e) rfl rfl
  · exact gf _ (by decide) (fun d hd a b e => by
      simp only [List.mem_cons, List.not_mem_nil, or_false] at hd
      rcases hd with rfl | rfl <;> (cases e; decide)) rfl rfl
  · exact gn (fun ds e => by cases e)
def bads (N : Net) : List D := [.non, .tup [], .tup (cutL [.int N.m, .tup (cellsD N.m N.cells), .tup (N.outs.map (sD (N.m + N.cells.length)))] none (some 2)), .lst [.int N.m, .tup (cellsD N.m N.cells), .tup (N.outs.map (sD (N.m + N.cells.length)))], .tup [.int 5, .tup (cellsD N.m N.cells), .tup (N.outs.map (sD (N.m + N.cells.length)))], .tup [.int 2, .tup (cellsD N.m N.cells), .tup []], .str "net"]
theorem no_net (h0 : NetOk n N) (hz : z ∈ bads N) (Q : Rv → Prop) (h : Q (.pu (.bl false))) : m_is_net [z] Q := by
  refine pure_by rfl fun E hn hr => ?_
  simp only [List.map_cons, List.map_nil, List.cons_append, List.nil_append, List.append_nil, Nat.reduceSub, List.reduceReplicate]
  unfold b_is_net
  have hc := h0.cl
  unfold bads at hz
  simp only [List.mem_cons, List.not_mem_nil, or_false] at hz
  have gn : ∀ {z : D}, (∀ ds, z = .tup ds → ds.length ≠ 3) → isT 3 z = false := fun {z} hz => by
    cases z with
    | tup ds =>
      have := hz ds rfl
      rw [isT_t]
      exact decide_eq_false (by omega)
    | _ => rfl
  have c2 : cutL [D.int N.m, .tup (cellsD N.m N.cells), .tup (N.outs.map (sD (N.m + N.cells.length)))] none (some 2) = [D.int N.m, .tup (cellsD N.m N.cells)] := by rw [show (2 : Int) = ((2 : Nat) : Int) from rfl, cut_take]; rfl
  rw [c2] at hz
  rcases hz with rfl | rfl | rfl | rfl | rfl | rfl | rfl
  · simp! []
    refine q_isT ?_
    rw [gn (fun ds e => by cases e)]
    simp! []
    exact hr _ _ h
  · simp! []
    refine q_isT ?_
    rw [gn (fun ds e => by cases e; decide)]
    simp! []
    exact hr _ _ h
  · simp! []
    refine q_isT ?_
    rw [gn (fun ds e => by cases e; show 2 ≠ 3; decide)]
    simp! []
    exact hr _ _ h
  · simp! []
    refine q_isT ?_
    rw [gn (fun ds e => by cases e)]
    simp! []
    exact hr _ _ h
  · simp! []
    refine q_isT ?_
    rw [isT_t]
    simp! []
    refine q_is_within ?_
    have e : inR 1 4 (.int 5) = false := by decide
    simp! [e]
    exact hr _ _ h
  · simp! []
    refine q_isT ?_
    rw [isT_t]
    simp! []
    refine q_is_within ?_
    have e : inR 1 4 (.int 2) = true := by decide
    have l1 : ¬ (40 : Int) < ((N.cells.length : Nat) : Int) := by omega
    simp! [e, cells_len, l1]
    exact hr _ _ h
  · simp! []
    refine q_isT ?_
    rw [gn (fun ds e => by cases e)]
    simp! []
    exact hr _ _ h
theorem rq_check_net (hq : ∀ Q : Rv → Prop, Q (.pu (.bl false)) → m_is_net [z] Q) (h : EE "NoNet" []) : r_check_net [z] EE := by
  unfold r_check_net rb_check_net
  simp! []
  unfold rIf
  simp! []
  refine hq _ ?_
  simp! []
  exact .inl h
theorem rq_check_point0 (hq : ∀ Q : Rv → Prop, Q (.pu (.bl false)) → m_is_net [z] Q) (h : EE "NoNet" []) : r_check_point [z, b] EE := by
  unfold r_check_point rb_check_point
  unfold rSeq rIf
  simp! []
  exact .inl (rq_check_net hq h)
theorem rq_check_point (h0 : NetOk n N) (hq : ∀ Q : Rv → Prop, Q (.pu (.bl false)) → m_raw_is_point [.int N.m, z] Q) (h : EE "NoPoint" []) : r_check_point [netD N, z] EE := by
  unfold r_check_point rb_check_point
  unfold rSeq rIf
  simp! []
  refine .inr ?_
  refine q_check_net h0 ?_
  simp! [nd0]
  refine hq _ ?_
  simp! []
  exact .inl h
theorem rq_value_of (a : AtP N pt) (hz : inR 0 (((N.m : Nat) : Int) + ((N.cells.length : Nat) : Int) - 1) z = false) (h : EE "NoSource" []) : r_value_of [netD N, .tup (pt.map fq), z] EE := by
  unfold r_value_of rb_value_of
  unfold rSeq rIf
  simp! []
  refine .inr ?_
  refine a.q_chk ?_
  simp! [nd0, nd1, cells_len]
  refine q_is_within ?_
  simp! [hz]
  exact .inl h
theorem rq_parts_of (a : AtP N pt) (hz : inR 0 (((N.cells.length : Nat) : Int) - 1) z = false) (h : EE "NoCell" []) : r_parts_of [netD N, .tup (pt.map fq), z] EE := by
  unfold r_parts_of rb_parts_of
  unfold rSeq rIf
  simp! []
  refine .inr ?_
  refine a.q_chk ?_
  simp! [nd0, nd1, cells_len]
  refine q_is_within ?_
  simp! [hz]
  exact .inl h
theorem rq_out_parts (a : AtP N pt) (hz : inR 0 (((N.outs.length : Nat) : Int) - 1) z = false) (h : EE "NoOut" []) : r_out_parts [netD N, .tup (pt.map fq), z] EE := by
  unfold r_out_parts rb_out_parts
  unfold rSeq rIf
  simp! []
  refine .inr ?_
  refine a.q_chk ?_
  simp! [nd2, List.length_map]
  refine q_is_within ?_
  simp! [hz]
  exact .inl h
theorem rq_first_wrong (a : AtP N pt) (hz : (∀ ds, z ≠ .tup ds) ∨ ∃ us : List Rat, z = .tup (us.map fq) ∧ us.length ≤ 100 ∧ us.length ≠ N.cells.length ∧ ∀ u ∈ us, Sz 400 u) (h : EE "NoTrace" []) : r_first_wrong [netD N, .tup (pt.map fq), z] EE := by
  unfold r_first_wrong rb_first_wrong
  unfold rSeq rIf
  simp! []
  refine .inr ?_
  refine a.q_chk ?_
  simp! []
  rcases hz with hz | ⟨us, rfl, h1, h2, h3⟩
  · refine q_are_values_n hz ?_
    simp! []
    exact .inl h
  · refine q_are_values (n := 400) h3 (by omega) (by unfold sizeLine; omega) ?_
    have e : ¬ ((us.length : Nat) : Int) = ((N.cells.length : Nat) : Int) := by omega
    simp! [nd1, cells_len, List.length_map, e]
    exact .inl h
theorem q_is_point_f (h0 : NetOk n N) (hq : ∀ Q : Rv → Prop, Q (.pu (.bl false)) → m_raw_is_point [.int N.m, z] Q) {Q : Rv → Prop} (h : Q (.pu (.bl false))) : m_is_point [netD N, z] Q := by
  refine pure_by rfl fun E hn' hr => ?_
  simp only [List.map_cons, List.map_nil, List.cons_append, List.nil_append, List.append_nil, Nat.reduceSub, List.reduceReplicate]
  unfold b_is_point
  simp! []
  refine q_check_net h0 ?_
  simp! [nd0]
  refine hq _ ?_
  simp! []
  exact hr _ _ h
end
/-! k17: the law -/
section
variable {n r : Nat} {N : Net} {hs : List D} {QQ : Rv → List D → Prop} {E : DEnds} {z zb : D} {pt : List Rat} {s2 s3 s4 : Sl}
theorem none_f (j : Int) : inR 0 j .non = false := rfl
theorem bl_f (j : Int) (b : Bool) : inR 0 j (.bl b) = false := rfl
theorem neg_f (j : Int) : inR 0 j (.int (-1)) = false := by
  show (decide ((0 : Int) ≤ -1) && decide ((-1 : Int) ≤ j)) = false
  rw [decide_eq_false (by decide), Bool.false_and]
theorem big_f {i j : Int} (h : j < i) : inR 0 j (.int i) = false := by
  show (decide ((0 : Int) ≤ i) && decide (i ≤ j)) = false
  rw [decide_eq_false (p := i ≤ j) (by omega), Bool.and_false]
theorem law_11 {sc : D} (a : AtP N pt) (hm : N.m = 2) (hz : z ∈ offs (pt.map fq)) (h : HR r hs) (hr : 1 ≤ r) (hR : ∀ S, E.rt (.pu (.bl true)) S) :
    b_law_11 E [.pu sc, .ol hs, .pu z, s3, .ol [.str "net", .str "point", .str "source", .str "trace", .str "cell", .str "point"], .pu (netD N), .pu (.tup (pt.map fq)), .no] := by
  unfold b_law_11
  have ho := a.ok.o4
  have hb : ∀ Q : Rv → Prop, Q (.pu (.bl false)) → m_raw_is_point [.int N.m, z] Q := fun Q hQ => by
    rw [hm]; exact no_point (by rw [a.l, hm]) a.ptz hz Q hQ
  simp! []
  refine w_raise ?_
  simp! []
  refine q_sm h hr (by simp) (by simp) fun d hd hs2 h2 => ?_
  simp! []
  have hf : inR 0 (((N.outs.length : Nat) : Int) - 1) d = false := by
    simp only [List.mem_cons, List.not_mem_nil, or_false] at hd
    rcases hd with rfl | rfl | rfl | rfl
    · exact none_f _
    · exact neg_f _
    · exact big_f (by omega)
    · exact bl_f _ _
  refine rq_out_parts a hf (word_out ?_)
  simp! []
  unfold b_law_12
  have okL : okAt 3 (.lst [.str (Str.ofString "net"), .str (Str.ofString "point"), .str (Str.ofString "source"), .str (Str.ofString "trace"), .str (Str.ofString "cell"), .str (Str.ofString "point"), .str (Str.ofString "out")]) = true := by decide +kernel
  have eL := okE_by 3 okL
  have qL := eqD_refl okL
  rw [eq_lst] at qL
  simp! [eL, qL]
  refine q_is_point_f a.ok hb ?_
  simp! []
  exact hR _
theorem law_9 {sc : D} (a : AtP N pt) (hm : N.m = 2) (hz : z ∈ offs (pt.map fq)) (h : HR r hs) (hr : 2 ≤ r) (hR : ∀ S, E.rt (.pu (.bl true)) S) :
    b_law_9 E [.pu sc, .ol hs, .pu z, s3, .ol [.str "net", .str "point", .str "source", .str "trace"], .pu (netD N), .pu (.tup (pt.map fq)), .no] := by
  unfold b_law_9
  have hb : ∀ Q : Rv → Prop, Q (.pu (.bl false)) → m_raw_is_point [.int N.m, z] Q := fun Q hQ => by
    rw [hm]; exact no_point (by rw [a.l, hm]) a.ptz hz Q hQ
  simp! []
  refine w_raise ?_
  simp! [nd1, cells_len]
  refine q_sm h (by omega) (by simp) (by simp) fun d hd hs2 h2 => ?_
  simp! []
  have hf : inR 0 (((N.cells.length : Nat) : Int) - 1) d = false := by
    simp only [List.mem_cons, List.not_mem_nil, or_false] at hd
    rcases hd with rfl | rfl | rfl | rfl
    · exact none_f _
    · exact neg_f _
    · exact big_f (by omega)
    · exact bl_f _ _
  refine rq_parts_of a hf (word_cell ?_)
  simp! []
  unfold b_law_10
  simp! []
  refine w_raise ?_
  simp! []
  unfold r_out_parts rb_out_parts
  unfold rSeq
  simp! []
  refine .inl ?_
  refine rq_check_point a.ok hb (word_point ?_)
  simp! []
  exact law_11 a hm hz h2 (by omega) hR
theorem law_7 {sc : D} (a : AtP N pt) (h1 : 1 ≤ N.cells.length) (hc : N.cells.length ≤ 3) (hm : N.m = 2) (hz : z ∈ offs (pt.map fq)) (h : HR r hs) (hr : 4 ≤ r) (hR : ∀ S, E.rt (.pu (.bl true)) S) :
    b_law_7 E [.pu sc, .ol hs, .pu z, s3, .ol [.str "net", .str "point"], .pu (netD N), .pu (.tup (pt.map fq)), .no] := by
  unfold b_law_7
  simp! []
  refine w_raise ?_
  simp! [nd1, cells_len]
  refine q_sm h (by omega) (by simp) (by simp) fun d hd hs2 h2 => ?_
  simp! []
  have hf : inR 0 (((N.m : Nat) : Int) + ((N.cells.length : Nat) : Int) - 1) d = false := by
    simp only [List.mem_cons, List.not_mem_nil, or_false] at hd
    rcases hd with rfl | rfl | rfl | rfl
    · exact none_f _
    · exact neg_f _
    · exact big_f (by omega)
    · exact bl_f _ _
  refine rq_value_of a hf (word_source ?_)
  simp! []
  unfold b_law_8
  simp! []
  refine w_raise ?_
  simp! []
  refine q_sm h2 (by omega) (by simp) (by simp) fun d hd hs3 h3 => ?_
  simp! []
  have hf : (∀ ds, d ≠ .tup ds) ∨ ∃ us : List Rat, d = .tup (us.map fq) ∧ us.length ≤ 100 ∧ us.length ≠ N.cells.length ∧ ∀ u ∈ us, Sz 400 u := by
    simp only [List.mem_cons, List.not_mem_nil, or_false] at hd
    rcases hd with rfl | rfl | rfl | rfl
    · exact .inl fun ds e => by cases e
    · exact .inr ⟨[], rfl, by decide, by show 0 ≠ _; omega, fun u hu => by cases hu⟩
    · exact .inl fun ds e => by cases e
    · refine .inr ⟨[1, 1, 1, 1, 1, 1, 1, 1, 1], rfl, by decide, by show 9 ≠ _; omega, fun u hu => ?_⟩
      simp only [List.mem_cons, List.not_mem_nil, or_false, or_self] at hu
      subst hu
      exact sz1 (by omega)
  refine rq_first_wrong a hf (word_trace ?_)
  simp! []
  exact law_9 a hm hz h3 (by omega) hR
theorem law_5 {sc : D} (a : AtP N pt) (h1 : 1 ≤ N.cells.length) (hc : N.cells.length ≤ 3) (hm : N.m = 2) (hz : z ∈ offs (pt.map fq)) (hb : zb ∈ bads N) (h : HR r hs) (hr : 4 ≤ r) (hR : ∀ S, E.rt (.pu (.bl true)) S) :
    b_law_5 E [.pu sc, .ol hs, .pu z, .pu zb, .no, .pu (netD N), .pu (.tup (pt.map fq)), .no] := by
  unfold b_law_5
  have hp : ∀ Q : Rv → Prop, Q (.pu (.bl false)) → m_raw_is_point [.int N.m, z] Q := fun Q hQ => by
    rw [hm]; exact no_point (by rw [a.l, hm]) a.ptz hz Q hQ
  simp! []
  refine w_raise ?_
  simp! []
  unfold r_run rb_run
  simp! []
  refine rq_check_point0 (no_net a.ok hb) (word_net ?_)
  simp! []
  unfold b_law_6
  simp! []
  refine w_raise ?_
  simp! []
  unfold r_values rb_values
  simp! []
  refine rq_check_point a.ok hp (word_point ?_)
  simp! []
  exact law_7 a h1 hc hm hz h hr hR
theorem law_3 {sc : D} (a : AtP N pt) (h1 : 1 ≤ N.cells.length) (hc : N.cells.length ≤ 3) (hm : N.m = 2) (h : HR r hs) (hr : 6 ≤ r) (hR : ∀ S, E.rt (.pu (.bl true)) S) :
    b_law_3 E [.pu sc, .ol hs, .no, .no, .no, .pu (netD N), .pu (.tup (pt.map fq)), .no] := by
  unfold b_law_3
  have hl := a.l
  have l1 : (pt.map fq).length + (pt.map fq).length ≤ sizeLine := by rw [List.length_map]; unfold sizeLine; omega
  have l2 : pt.length + pt.length ≤ sizeLine := by unfold sizeLine; omega
  have en : netD N = .tup [.int N.m, .tup (cellsD N.m N.cells), .tup (N.outs.map (sD (N.m + N.cells.length)))] := rfl
  simp! [l1, l2]
  refine q_sm h (by omega) (by simp) (by simp) fun z hz hs2 h2 => ?_
  simp! [nd1, nd2]
  rw [en]
  simp! []
  refine q_sm h2 (by omega) (by simp) (by simp) fun zb hb hs3 h3 => ?_
  rw [← en]
  simp! []
  exact law_5 a h1 hc hm hz hb h3 (by omega) hR
theorem law_2 {sc : D} (h : HR r hs) (hr : 1000 ≤ r) (hR : ∀ S, E.rt (.pu (.bl true)) S) : b_law_2 E [.pu sc, .ol hs, .no, .no, .no, .no, .no, .no] := by
  unfold b_law_2
  simp! [dConsO, dParN]
  refine q_law_net (m := 2) (most := 3) h (by omega) (by omega) (by omega) (by omega) (by omega) fun N hm c1 c6 h0 hs2 h2 => ?_
  simp! []
  refine q_law_point (m := 2) h2 (by omega) (by omega) fun pt hl hcd hs3 h3 => ?_
  have a : AtP N pt := ⟨h0, ⟨by decide, by decide, by decide, by decide, hcd⟩, by omega, by omega⟩
  simp! []
  exact law_3 a c1 c6 hm h3 (by omega) hR
end
theorem bls_all17 {acc : List D} (h : ∀ d ∈ acc, d = .bl true) : blsD acc = some (acc.map fun _ => true) := by
  induction acc with
  | nil => rfl
  | cons d ds ih =>
    have e : d = .bl true := h d (by simp)
    subst e
    show (blsD ds).map (true :: ·) = _
    rw [ih fun d hd => h d (by simp [hd])]; rfl
def most : Nat := 63
theorem law_true : ∀ ns : List Int, ns.length ≤ most → (∀ i ∈ ns, Builtin.Int.intBits i ≤ 1048576) → m_law [.scr (ns.map D.int)] fun rv => rv = .pu (.bl true) := by
  intro ns hl hb
  refine pure_by rfl fun E hn hr => ?_
  simp only [List.map_cons, List.map_nil, List.cons_append, List.nil_append, List.append_nil, Nat.reduceSub, List.reduceReplicate]
  unfold b_law
  simp! []
  refine q_hand (M := 1048576) (by decide) (fun i hi => abs_bits (hb i hi)) fun hs h => ?_
  have h' : HR (2 ^ 30) hs := h
  simp! [dLc, dRng]
  refine ⟨by decide, ?_⟩
  refine lc_by (fun items acc S => ∃ hs, S = [.pu (.scr (ns.map D.int)), .ol hs, .no, .no, .no, .no, .no, .no] ∧ HR (2000 + 450 * items.length) hs ∧ ∀ d ∈ acc, d = .bl true) ?_ ?_ _ _ _ ⟨hs, rfl, h'.mono (by rw [show (rangeD 0 4).length = 4 from rfl]; omega), by simp⟩
  · rintro acc S ⟨hs, rfl, h1, h2⟩
    have e : (acc.map fun _ => true).all id = true := by simp
    simp! [bls_all17 h2, e]
    exact law_2 h1 (by omega) fun S => hr _ _ rfl
  · rintro d ds acc S ⟨hs, rfl, h1, h2⟩ ih
    simp! [dYes]
    refine q_law_right17 (h1.mono (Nat.le_refl _)) (by simp only [List.length_cons]; omega) fun hs' h' => ?_
    simp! []
    refine ih _ _ ⟨hs', rfl, h'.mono (by simp only [List.length_cons]; omega), fun d hd => ?_⟩
    rcases List.mem_append.mp hd with q | q
    · exact h2 d q
    · exact List.mem_singleton.mp q
end My
open PySem PySem.W PySem.Calls PyProof.Rows
theorem PySem.Challenge.cw_cutsumsways_k17_whole_what_nets_tell_holds : PySem.Challenge.rw_cutsumsways_k17_whole_what_nets_tell.Holds := by
  w_on; o_law
  refine HandSHeadRun.head_any (r := OpenLaw.row PySem.Challenge.rw_cutsumsways_k17_whole_what_nets_tell) (q := view (OpenLaw.row PySem.Challenge.rw_cutsumsways_k17_whole_what_nets_tell).prog [74]) (H := My.hk) (ob := My.ob) (M := 20000) (loose := My.names) (d := HandSHeadRun.topDef (OpenLaw.row PySem.Challenge.rw_cutsumsways_k17_whole_what_nets_tell).prog 74) (kwd := []) My.ob_eq
    (by kernel_rfl) (fun s => by kernel_rfl) My.run (by kernel_rfl) (by kernel_rfl) (by kernel_rfl) (by rfl) (by first | assumption | decide +kernel) (by decide +kernel) ⟨rfl, rfl, rfl, rfl, rfl, by decide +kernel⟩ ?hw ?hc
  case hw => w_witness2
  case hc =>
    refine DL.law_walkT (l := PySem.Challenge.rw_cutsumsways_k17_whole_what_nets_tell) (n := My.most) (k := 12) (x := "script") (g := My.m_law) rfl (by decide) (by kernel_rfl) ⟨rfl, by decide, by decide⟩ (by kernel_rfl) ?F My.law_true
    intro w mg fa h Y G hmg0
    obtain ⟨K, KX, c⟩ := Y
    have en : (HandSHeadRun.topDef (OpenLaw.row PySem.Challenge.rw_cutsumsways_k17_whole_what_nets_tell).prog 74).name = ("law" : PySem.Str) := by kernel_rfl
    have hmg : mg ("law" : PySem.Str) = some (.ref fa) := by
      rw [← en]
      exact hmg0
    obtain ⟨fd, cc, T, ht, nT, hb, hF⟩ := DL.law_factT (P := (PySem.Challenge.rw_cutsumsways_k17_whole_what_nets_tell).prog) (w := w) (d := My.d_law) 47 47 21 KX G hmg c rfl rfl rfl rfl rfl rfl My.sc_law (fun _ _ _ _ _ _ us hl => match us, hl with | [_], _ => rfl) rfl
      fun base hd => My.p_law (w := w) hd (base := base)
    exact ⟨K, fd, cc, T, KX, by rw [en]; exact ht, nT, hb, hF⟩
