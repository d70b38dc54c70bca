import PyProof.Rows.All
import Wide.All
import OpenK.AllK
import Wide.FinOn
import HandS.TryOnly
import HandS.ForMost
import HandS.Flow
import HandS.Style
import HandS.IsInst
import HandS.TupAny
import HandS.Conv
import HandS.Zip
import PyProof.NeData
import HandS.Wide
import HandS.WideBits
import HandS.TupMul
import HandS.Codes
import HandS.Dict
import PyProof.Rows.IntBool
import PyProof.StrBlock2
import HandS.Small
import HandS.Text
import HandS.More
import KE.KDictPairs
import HandS.SetKeys
import HandS.Sort
import HandS.RaiseMore
import HandS.WordsDict
import KE.SortData
import PyProof.ReprRoads
import KE.KRevSl
import HandS.SetFor
import HandS.TupSets
import HandS.HeadEnd
import HandS.Defaults
import HandS.Head0
import HandS.Head1
import HandS.Head2
import HandS.HeadHook1
import HandS.HeadHook2
import PyProof.Rows.StrFit
import PyProof.StrLawsRepr
import PyProof.FitsInt
import PySem.Challenge.RW_tellalike_k06_whole_what_is_in_a_concept
set_option Elab.async false
set_option linter.all false
set_option maxRecDepth 100000
set_option maxHeartbeats 6400000
-- GTP
section
namespace GL
open PyProof.Rows PySem PySem.Spec L2
/-! ### new tuples, told with the object that they are -/
def NewT (H : Hp) (xs : List V) (Q : VK) : Prop := ∀ p o, H p = none → o.dict = none → Q (.ref p) (upd H p (.frz o (.tup xs)))
section
variable {X : Cx}
theorem laidT {pins : List (Addr × Obj)} {σ : L2.St} {H : Hp} {s : Shared} {Q : VK} {xs : List V} {us : List Value} {t : Nat} (I : Inv X pins σ H s) (r : Vals xs us) (hz : xs.length ≤ sizeLine) (q : NewT H xs Q) :
    EP X pins σ Q (.ref s.heap.objs.size) { s with heap := s.heap.push { cls := .type "tuple", data := .seq us.toArray }, toks := t } :=
  ⟨.ref _, upd H _ (.frz { cls := .type "tuple", data := .seq us.toArray } (.tup xs)), I.laid (t' := t) (o := .frz _ _) (fun b ob q => Heap.get?_push_of_some _ q) (Nat.le_refl _) ⟨Heap.get?_push_size _ rfl, hz, us, r, IsTup.new _ _⟩, rfl, q _ _ (I.hok.fresh (Nat.le_refl _)) rfl⟩
def tTupX (t : TA) : TE := fun σ H Q => t σ H fun xs H1 => xs.length ≤ sizeLine ∧ NewT H1 xs Q
theorem pe_tupX {es : List Expr} {t : TA} {pos : Pos} {x1} (h : PA X es t) : PE X (.Tuple es x1 pos) (tTupX t) :=
  ⟨fun pins s σ H Q I hq => wpAny_Tuple_spliced (thn (h.run pos pins s σ H _ I hq) fun us s1 ⟨xs, H1, I1, r, z, q⟩ => ⟨by rw [← r.length]; exact z, laidT (t := s1.toks) I1 r z q⟩)⟩
def rCatX (K : PySem.W.Frag) : R2 := fun x y H Q => ∃ a b xs ys, x = .ref a ∧ y = .ref b ∧ SqT K H a xs ∧ SqT K H b ys ∧ xs.length + ys.length ≤ sizeLine ∧
  (xs = [] → Q (.ref b) H) ∧ (xs ≠ [] → ys = [] → Q (.ref a) H) ∧ (xs ≠ [] → ys ≠ [] → NewT H (xs ++ ys) Q)
theorem op_catX : OpR X (binaryOp .Add) (rCatX X.K) := by
  rintro pins s σ H x y v u Q I rx ry ⟨a, b, xs, ys, rfl, rfl, ha, hb, hz, q0, q1, q2⟩
  cases rx
  cases ry
  (obtain ⟨its, r1, p1, _⟩ := I.tuple ha)
  (obtain ⟨its2, r2, p2, _⟩ := I.tuple hb)
  by_cases hx : xs = []
  · subst hx
    cases r1
    (exact cat_tup0 p1 p2 ⟨.ref b, H, I, rfl, q0 rfl⟩)
  · refine HT.cat_tup p1 p2 (fun z => hx (r1.nil_iff.mp z)) (fun z => ⟨.ref a, H, I, rfl, q1 hx (r2.nil_iff.mp z)⟩) (fun z => ?_) (by rw [← r1.length, ← r2.length]; exact hz)
    exact laidT (t := s.toks) I (r1.append r2) (by rw [List.length_append]; exact hz) (q2 hx fun w => z (r2.nil_iff.mpr w))
def rSlX (K : PySem.W.Frag) : V → Option Int → Option Int → Hp → VK → Prop := fun x lo hi H Q => ∃ a xs, x = .ref a ∧ SqT K H a xs ∧
  (HT.sIx xs.length 0 lo = 0 ∧ HT.sIx xs.length xs.length hi = xs.length → Q (.ref a) H) ∧ (¬ (HT.sIx xs.length 0 lo = 0 ∧ HT.sIx xs.length xs.length hi = xs.length) → NewT H (cutV xs lo hi) Q)
theorem sl_tupX : SlR X (rSlX X.K) := by
  rintro pins s σ H x v vl vu lo hi sl Q I rx hs pl pu ⟨a, xs, rfl, hx, q1, q2⟩
  cases rx
  (obtain ⟨its, r, ht, hz⟩ := I.tuple hx)
  (have hlen : its.toArray.size = xs.length := by rw [List.size_toArray]; exact r.length.symm)
  (refine ⟨"tuple", _, PyProof.Rows.slot_tuple_getitem.lookup, ht.typeIs, ?_⟩)
  (by_cases hw : HT.sIx xs.length 0 lo = 0 ∧ HT.sIx xs.length xs.length hi = xs.length)
  · exact getItem_tuple_whole ht hs pl pu (by rw [hlen]; exact hw) ⟨.ref a, H, I, rfl, q1 hw⟩
  · refine HT.getItem_tuple_cut ht hs pl pu (by rw [hlen]; exact hw) ?_ (by rw [hlen]; exact hz)
    rw [hlen]
    exact laidT (t := s.toks) I ((r.drop (HT.sIx xs.length 0 lo)).take (HT.sIx xs.length xs.length hi - HT.sIx xs.length 0 lo)) (Nat.le_trans (cutV_length xs lo hi) hz) (q2 hw)
theorem call_tupleX : CallR X (.type "tuple") (fun xs H Q => ∃ p ys, xs = [.ref p] ∧ ((SqL X.K H p ys ∧ NewT H ys Q) ∨ (SqT X.K H p ys ∧ Q (.ref p) H))) := by
  rintro pins s σ H xs us Q I r ⟨p, ys, rfl, h⟩
  rw [Vals.ref1 r]
  (rcases h with ⟨hq, q⟩ | ⟨hq, q⟩)
  · (obtain ⟨its, r', pl, hz⟩ := I.list hq)
    have hlen := r'.length
    (refine call_tuple_list pl.isList (fun h' kp => ?_) (by simp only [List.size_toArray] <;> omega))
    exact laidT (t := s.toks) (I.kept (t' := s.toks) kp) r' hz q
  · (obtain ⟨its, r', pl, hz⟩ := I.tuple hq)
    (exact call_tuple_same pl ⟨.ref p, H, I, rfl, q⟩)
variable {e : Expr} {te : L2.St → Hp → (Int → Int → Hp → Prop) → Prop}
def tTupRgX (te : L2.St → Hp → (Int → Int → Hp → Prop) → Prop) : TE := fun σ H Q => te σ H fun a b H1 => RgOk a b ∧ NewT H1 (rgV a b) Q
theorem pe_tupRgX {p pos : Pos} (hc : X.calm = true) (hg : Gl X "tuple") (hm : X.mg "tuple" = none) (he : PRg X e te) (na : starEach [e] X.env = (false, eval e X.env) :: starEach [] X.env) : PE X (.Call (.Name "tuple" p) [e] [] pos) (tTupRgX te) := by
  (refine ⟨fun pins s σ H Q I h => ?_⟩)
  (refine Call_ (ld_blt I hg hm boot_tuple (PyProof.Rows.callWith_type1 (args_cons (thn (he pins s σ H _ I h) fun x s1 ⟨r, a, b, t, u, v, H1, ex, hr, I1, ok, q⟩ => args_nil ?_) na) na)))
  subst ex
  (obtain ⟨b1, b2, b3, b4, b5⟩ := ok)
  (refine call_tuple_range (n := (b - a).toNat) (I1.ok.hd hc) hr (small_one b1 b2 b3 b4) (rangeSize_nat a b) b5 fun h' tk acc hk hi => ?_)
  have q' := laidT (t := tk) (I1.kept (t' := tk) hk) (vals_rg hi) (by rw [rgV_length, sizeLine_eq]; omega) q
  rw [Array.toArray_toList] at q'
  exact q'
end
end GL
end

-- G1
section
namespace GL
open PyProof.Rows PySem PySem.Spec L2

/-! ### values with immutable data as trees -/
inductive D where
  | non | bl (b : Bool) | int (i : Int) | str (x : Str) | tup (ds : List D) | wtup (ds : List D) | frl (ds : List D) | ref (a : Addr) | ty (n : String) | glo (x : Str)
deriving Inhabited

structure Md where
  K : PySem.W.Frag
  mg : Str → Option Value

/-- a list that nobody changes: locked, or written at the top -/
def FrL (K : PySem.W.Frag) (H : Hp) (a : Addr) (xs : List V) : Prop :=
  (∃ o, H a = some (.frz o (.lst xs))) ∨ ∃ (o : Obj) (its : Array Value) (n : Nat), K.lookup a = some o ∧ o.cls = .type "list" ∧ o.dict = none ∧ o.data = .seq its n ∧ its.size ≤ sizeLine ∧ Vals xs its.toList
theorem FrL.sql {K : PySem.W.Frag} {H : Hp} {a : Addr} {xs : List V} (h : FrL K H a xs) : SqL K H a xs := by
  rcases h with h | h
  · exact .inl (.inr h)
  · exact .inr h

/-- a tuple without a dict of its own: as every tuple is that the program makes -/
def TpT (K : PySem.W.Frag) (H : Hp) (a : Addr) (xs : List V) : Prop := (∃ o, H a = some (.frz o (.tup xs)) ∧ o.dict = none) ∨
  ∃ (o : Obj) (its : Array Value) (n : Nat), K.lookup a = some o ∧ o.cls = .type "tuple" ∧ o.dict = none ∧ o.data = .seq its n ∧ its.size ≤ sizeLine ∧ Vals xs its.toList
theorem TpT.sqt {K : PySem.W.Frag} {H : Hp} {a : Addr} {xs : List V} (h : TpT K H a xs) : SqT K H a xs := by
  rcases h with ⟨o, h, _⟩ | ⟨o, its, n, h1, h2, _, h3⟩
  · exact .inl (.inr ⟨o, h⟩)
  · exact .inr ⟨o, its, n, h1, h2, h3⟩
mutual
def Rp (M : Md) (H : Hp) : D → V → Prop
  | .non, v => v = .non
  | .bl b, v => v = .bl b
  | .int i, v => v = .int i
  | .str x, v => v = .str x
  | .ref a, v => v = .ref a
  | .ty n, v => v = .ty n
  | .glo x, v => ∃ f, M.mg x = some (.ref f) ∧ v = .ref f
  | .tup ds, v => ∃ a xs, v = .ref a ∧ TpT M.K H a xs ∧ Rps M H ds xs
  | .wtup ds, v => ∃ a xs, v = .ref a ∧ SqT M.K H a xs ∧ Rps M H ds xs
  | .frl ds, v => ∃ a xs, v = .ref a ∧ FrL M.K H a xs ∧ Rps M H ds xs
def Rps (M : Md) (H : Hp) : List D → List V → Prop
  | [], vs => vs = []
  | d :: ds, vs => ∃ v r, vs = v :: r ∧ Rp M H d v ∧ Rps M H ds r
end

/-- tuples and locked things stay -/
def Keep (H H' : Hp) : Prop := (∀ a xs, H a = some (.tup xs) → H' a = some (.tup xs)) ∧ ∀ a o u, H a = some (.frz o u) → H' a = some (.frz o u)
theorem Keep.refl (H : Hp) : Keep H H := ⟨fun _ _ h => h, fun _ _ _ h => h⟩
theorem Keep.trans {H1 H2 H3 : Hp} (a : Keep H1 H2) (b : Keep H2 H3) : Keep H1 H3 := ⟨fun x xs h => b.1 x xs (a.1 x xs h), fun x o u h => b.2 x o u (a.2 x o u h)⟩
theorem Keep.new {H : Hp} {p : Addr} {o : HO} (n : H p = none) : Keep H (upd H p o) :=
  ⟨fun a xs h => by rw [upd_ne (ne_of_none h n)]; exact h, fun a q u h => by rw [upd_ne (ne_of_none h n)]; exact h⟩
theorem Keep.upd {H : Hp} {p : Addr} {o u : HO} (n : H p = some o) (m : Mut (some o)) : Keep H (upd H p u) :=
  ⟨fun a xs h => by rw [upd_ne (ne_of h n (by rintro rfl; exact m))]; exact h, fun a q v h => by rw [upd_ne (ne_of h n (by rintro rfl; exact m))]; exact h⟩
theorem Keep.sqt {H H' : Hp} (k : Keep H H') {K : PySem.W.Frag} {a : Addr} {xs : List V} (h : SqT K H a xs) : SqT K H' a xs := by
  (rcases h with (h | ⟨o, h⟩) | h)
  · exact .inl (.inl (k.1 _ _ h))
  · exact .inl (.inr ⟨o, k.2 _ _ _ h⟩)
  · exact .inr h
theorem Keep.frl {H H' : Hp} (k : Keep H H') {K : PySem.W.Frag} {a : Addr} {xs : List V} (h : FrL K H a xs) : FrL K H' a xs := by
  rcases h with ⟨o, h⟩ | h
  · exact .inl ⟨o, k.2 _ _ _ h⟩
  · exact .inr h
theorem Keep.tpt {H H' : Hp} (k : Keep H H') {K : PySem.W.Frag} {a : Addr} {xs : List V} (h : TpT K H a xs) : TpT K H' a xs := by
  rcases h with ⟨o, h, e⟩ | h
  · exact .inl ⟨o, k.2 _ _ _ h, e⟩
  · exact .inr h
mutual
theorem Rp.mono {M : Md} {H H' : Hp} (k : Keep H H') : ∀ {d : D} {v : V}, Rp M H d v → Rp M H' d v
  | .non, _, h => h
  | .bl _, _, h => h
  | .int _, _, h => h
  | .str _, _, h => h
  | .ref _, _, h => h
  | .ty _, _, h => h
  | .glo _, _, h => h
  | .tup ds, v, h => by
    simp only [Rp] at h ⊢
    obtain ⟨a, xs, e, s, r⟩ := h
    exact ⟨a, xs, e, k.tpt s, Rps.mono k r⟩
  | .wtup ds, v, h => by
    simp only [Rp] at h ⊢
    obtain ⟨a, xs, e, s, r⟩ := h
    exact ⟨a, xs, e, k.sqt s, Rps.mono k r⟩
  | .frl ds, v, h => by
    simp only [Rp] at h ⊢
    obtain ⟨a, xs, e, s, r⟩ := h
    exact ⟨a, xs, e, k.frl s, Rps.mono k r⟩
theorem Rps.mono {M : Md} {H H' : Hp} (k : Keep H H') : ∀ {ds : List D} {vs : List V}, Rps M H ds vs → Rps M H' ds vs
  | [], _, h => h
  | d :: ds, vs, h => by
    simp only [Rps] at h ⊢
    obtain ⟨v, r, e, h1, h2⟩ := h
    exact ⟨v, r, e, Rp.mono k h1, Rps.mono k h2⟩
end
section
variable {M : Md} {H : Hp}
theorem Rps.nil : Rps M H [] [] := by simp only [Rps]
theorem Rps.cons {d : D} {ds : List D} {v : V} {vs : List V} (h : Rp M H d v) (t : Rps M H ds vs) : Rps M H (d :: ds) (v :: vs) := by
  simp only [Rps]; exact ⟨v, vs, rfl, h, t⟩
theorem Rps.nil' {vs : List V} (h : Rps M H [] vs) : vs = [] := by simpa only [Rps] using h
theorem Rps.cons' {d : D} {ds : List D} {vs : List V} (h : Rps M H (d :: ds) vs) : ∃ v r, vs = v :: r ∧ Rp M H d v ∧ Rps M H ds r := by simpa only [Rps] using h
theorem Rps.length : ∀ {ds : List D} {vs : List V}, Rps M H ds vs → ds.length = vs.length
  | [], vs, h => by rw [Rps.nil' h]; rfl
  | d :: ds, vs, h => by obtain ⟨v, r, rfl, _, t⟩ := Rps.cons' h; rw [List.length_cons, List.length_cons, Rps.length t]
theorem Rps.get : ∀ {ds : List D} {vs : List V} {i : Nat} {d : D}, Rps M H ds vs → ds[i]? = some d → ∃ v, vs[i]? = some v ∧ Rp M H d v
  | [], _, _, _, _, e => by simp at e
  | d :: ds, vs, 0, x, h, e => by
    obtain ⟨v, r, rfl, h1, _⟩ := Rps.cons' h
    simp at e; subst e
    exact ⟨v, by simp, h1⟩
  | d :: ds, vs, i + 1, x, h, e => by
    obtain ⟨v, r, rfl, _, t⟩ := Rps.cons' h
    obtain ⟨w, h1, h2⟩ := Rps.get (i := i) t (by simpa using e)
    exact ⟨w, by simpa using h1, h2⟩
theorem Rps.append : ∀ {ds es : List D} {vs ws : List V}, Rps M H ds vs → Rps M H es ws → Rps M H (ds ++ es) (vs ++ ws)
  | [], _, vs, _, h, k => by rw [Rps.nil' h]; exact k
  | d :: ds, _, vs, _, h, k => by obtain ⟨v, r, rfl, h1, t⟩ := Rps.cons' h; exact Rps.cons h1 (Rps.append t k)
theorem Rps.take : ∀ {ds : List D} {vs : List V} (n : Nat), Rps M H ds vs → Rps M H (ds.take n) (vs.take n)
  | _, _, 0, _ => by simp only [List.take_zero]; exact Rps.nil
  | [], vs, n + 1, h => by rw [Rps.nil' h]; exact Rps.nil
  | d :: ds, vs, n + 1, h => by obtain ⟨v, r, rfl, h1, t⟩ := Rps.cons' h; exact Rps.cons h1 (Rps.take n t)
theorem Rps.drop : ∀ {ds : List D} {vs : List V} (n : Nat), Rps M H ds vs → Rps M H (ds.drop n) (vs.drop n)
  | _, _, 0, h => h
  | [], vs, n + 1, h => by rw [Rps.nil' h]; exact Rps.nil
  | d :: ds, vs, n + 1, h => by obtain ⟨v, r, rfl, h1, t⟩ := Rps.cons' h; exact Rps.drop n t
theorem Rps.reverse : ∀ {ds : List D} {vs : List V}, Rps M H ds vs → Rps M H ds.reverse vs.reverse
  | [], vs, h => by rw [Rps.nil' h]; exact Rps.nil
  | d :: ds, vs, h => by
    obtain ⟨v, r, rfl, h1, t⟩ := Rps.cons' h
    (rw [List.reverse_cons, List.reverse_cons])
    exact Rps.append (Rps.reverse t) (Rps.cons h1 Rps.nil)
theorem Rps.set {x : D} {v : V} (r : Rp M H x v) : ∀ {ds : List D} {vs : List V} (i : Nat), Rps M H ds vs → Rps M H (ds.set i x) (vs.set i v)
  | [], vs, _, h => by rw [Rps.nil' h]; exact Rps.nil
  | d :: ds, vs, 0, h => by obtain ⟨v, r', rfl, h1, t⟩ := Rps.cons' h; exact Rps.cons r t
  | d :: ds, vs, i + 1, h => by obtain ⟨v, r', rfl, h1, t⟩ := Rps.cons' h; exact Rps.cons h1 (Rps.set r i t)
theorem Rps.dropLast : ∀ {ds : List D} {vs : List V}, Rps M H ds vs → Rps M H ds.dropLast vs.dropLast := fun {ds vs} h => by
  rw [List.dropLast_eq_take, List.dropLast_eq_take, h.length]
  exact h.take _
theorem Rps.ints : ∀ (ns : List Int), Rps M H (ns.map D.int) (ns.map V.int)
  | [] => Rps.nil
  | n :: ns => Rps.cons (by simp only [Rp]) (Rps.ints ns)
end

/-! ### the store: things that may change -/
inductive Cell where
  | lst (ds : List D)
  | dct (kvs : List (Key × D))
  | ins (C : Str) (fs : List (Str × D))
abbrev Store := Addr → Option Cell
def put (S : Store) (a : Addr) (c : Cell) : Store := fun b => if b = a then some c else S b
theorem put_same {S : Store} {a : Addr} {c : Cell} : put S a c a = some c := by unfold put; rw [if_pos rfl]
theorem put_ne {S : Store} {a b : Addr} {c : Cell} (h : b ≠ a) : put S a c b = S b := by unfold put; rw [if_neg h]
theorem put_put {S : Store} {a : Addr} {c c' : Cell} : put (put S a c) a c' = put S a c' := by funext b; unfold put; split <;> rfl
def Kvs (M : Md) (H : Hp) : List (Key × D) → List (Key × V) → Prop
  | [], l => l = []
  | (k, d) :: r, l => ∃ v l', l = (k, v) :: l' ∧ Rp M H d v ∧ Kvs M H r l'
def Fvs (M : Md) (H : Hp) : List (Str × D) → List (Str × V) → Prop
  | [], l => l = []
  | (k, d) :: r, l => ∃ v l', l = (k, v) :: l' ∧ Rp M H d v ∧ Fvs M H r l'
def CellOk (M : Md) (H : Hp) (a : Addr) : Cell → Prop
  | .lst ds => ∃ xs, H a = some (.lst xs) ∧ Rps M H ds xs
  | .dct kvs => ∃ l, H a = some (.dK l) ∧ Kvs M H kvs l
  | .ins C fs => ∃ c dx l, M.mg C = some (.ref c) ∧ H a = some (.ins c dx l) ∧ Fvs M H fs l
def RS (M : Md) (H : Hp) (S : Store) : Prop := ∀ a c, S a = some c → CellOk M H a c
theorem Kvs.mono {M : Md} {H H' : Hp} (k : Keep H H') : ∀ {ds : List (Key × D)} {vs : List (Key × V)}, Kvs M H ds vs → Kvs M H' ds vs
  | [], _, h => h
  | (x, d) :: ds, vs, h => by
    obtain ⟨v, r, e, h1, h2⟩ := h
    exact ⟨v, r, e, h1.mono k, Kvs.mono k h2⟩
theorem Fvs.mono {M : Md} {H H' : Hp} (k : Keep H H') : ∀ {ds : List (Str × D)} {vs : List (Str × V)}, Fvs M H ds vs → Fvs M H' ds vs
  | [], _, h => h
  | (x, d) :: ds, vs, h => by
    obtain ⟨v, r, e, h1, h2⟩ := h
    exact ⟨v, r, e, h1.mono k, Fvs.mono k h2⟩
theorem CellOk.mono {M : Md} {H H' : Hp} {a : Addr} (k : Keep H H') (e : H' a = H a) : ∀ {c : Cell}, CellOk M H a c → CellOk M H' a c
  | .lst ds, ⟨xs, h, r⟩ => ⟨xs, e.trans h, r.mono k⟩
  | .dct kvs, ⟨l, h, r⟩ => ⟨l, e.trans h, r.mono k⟩
  | .ins C fs, ⟨c, dx, l, g, h, r⟩ => ⟨c, dx, l, g, e.trans h, r.mono k⟩
theorem CellOk.there {M : Md} {H : Hp} {a : Addr} : ∀ {c : Cell}, CellOk M H a c → ∃ o, H a = some o ∧ Mut (some o)
  | .lst ds, ⟨xs, h, r⟩ => ⟨_, h, trivial⟩
  | .dct kvs, ⟨l, h, r⟩ => ⟨_, h, trivial⟩
  | .ins C fs, ⟨c, dx, l, g, h, r⟩ => ⟨_, h, trivial⟩
theorem RS.fresh {M : Md} {H : Hp} {S : Store} {p : Addr} (r : RS M H S) (n : H p = none) : S p = none := by
  cases e : S p with
  | none => rfl
  | some c =>
    obtain ⟨o, h, _⟩ := (r p c e).there
    rw [n] at h; cases h
/-- a new thing that is no cell -/
theorem RS.new {M : Md} {H : Hp} {S : Store} {p : Addr} {o : HO} (r : RS M H S) (n : H p = none) : RS M (upd H p o) S := fun a c e => by
  have ha : a ≠ p := by rintro rfl; rw [r.fresh n] at e; cases e
  exact (r a c e).mono (Keep.new n) (upd_ne ha)
/-- a cell is laid or stored -/
theorem RS.put {M : Md} {H : Hp} {S : Store} {p : Addr} {o : HO} {c : Cell} (r : RS M H S) (k : Keep H (upd H p o)) (h : CellOk M (upd H p o) p c) : RS M (upd H p o) (GL.put S p c) := fun a c' e => by
  by_cases ha : a = p
  · subst ha; rw [put_same] at e; cases e; exact h
  · rw [put_ne ha] at e
    exact (r a c' e).mono k (upd_ne ha)
/-- forgetting -/
theorem RS.sub {M : Md} {H : Hp} {S S' : Store} (r : RS M H S) (h : ∀ a c, S' a = some c → S a = some c) : RS M H S' := fun a c e => r a c (h a c e)

/-! ### slots -/
abbrev Ev := List (Option D)
def Re (M : Md) (H : Hp) (ρ : Ev) (σ : L2.St) : Prop := ρ.length = σ.length ∧ ∀ (i : Nat) (d : D), ρ[i]? = some (some d) → ∃ v, σ[i]? = some (some v) ∧ Rp M H d v
theorem Re.mono {M : Md} {H H' : Hp} {ρ : Ev} {σ : L2.St} (r : Re M H ρ σ) (k : Keep H H') : Re M H' ρ σ := ⟨r.1, fun i d e => let ⟨v, h, q⟩ := r.2 i d e; ⟨v, h, q.mono k⟩⟩
theorem Re.set {M : Md} {H : Hp} {ρ : Ev} {σ : L2.St} (r : Re M H ρ σ) {d : D} {v : V} (h : Rp M H d v) (i : Nat) : Re M H (ρ.set i (some d)) (σ.set i (some v)) := by
  refine ⟨by rw [List.length_set, List.length_set]; exact r.1, fun j e hj => ?_⟩
  by_cases hij : i = j
  · subst hij
    rw [List.getElem?_set] at hj
    rw [List.getElem?_set]
    rw [if_pos rfl] at hj ⊢
    by_cases hl : i < ρ.length
    · rw [if_pos hl] at hj
      cases hj
      rw [if_pos (by rw [← r.1]; exact hl)]
      exact ⟨v, rfl, h⟩
    · rw [if_neg hl] at hj; cases hj
  · rw [List.getElem?_set_ne hij] at hj ⊢
    exact r.2 j e hj
theorem Re.unset {M : Md} {H : Hp} {ρ : Ev} {σ : L2.St} (r : Re M H ρ σ) (i : Nat) : Re M H (ρ.set i none) (σ.set i none) := by
  refine ⟨by rw [List.length_set, List.length_set]; exact r.1, fun j e hj => ?_⟩
  by_cases hij : i = j
  · subst hij
    rw [List.getElem?_set, if_pos rfl] at hj
    split at hj <;> cases hj
  · rw [List.getElem?_set_ne hij] at hj ⊢
    exact r.2 j e hj
def wipeE (ρ : Ev) : List Nat → Ev
  | [] => ρ
  | v :: vs => (wipeE ρ vs).set v none
theorem Re.wipe {M : Md} {H : Hp} {ρ : Ev} {σ : L2.St} (r : Re M H ρ σ) : ∀ vs : List Nat, Re M H (wipeE ρ vs) (wipe σ vs)
  | [] => r
  | v :: vs => (r.wipe vs).unset v
end GL
end

-- G2
section
namespace GL
open PyProof.Rows PySem PySem.Spec L2

/-! ### the wishes -/
abbrev GQ := D → Store → Prop
abbrev GQs := List D → Store → Prop
abbrev GT := Bool → Store → Prop
structure GEnd where
  nx : Ev → Store → Prop
  rt : GQ
  bk : Ev → Store → Prop := fun _ _ => False
  ct : Ev → Store → Prop := fun _ _ => False
/-- wp's of an expression, a test, arguments, a statement -/
abbrev WE := Ev → Store → GQ → Prop
abbrev WT := Ev → Store → GT → Prop
abbrev WA := Ev → Store → GQs → Prop
abbrev WS := GEnd → Ev → Store → Prop

def LQ (M : Md) (H : Hp) (G : GQ) (Q : VK) : Prop := ∀ d S' v H', Keep H H' → Rp M H' d v → RS M H' S' → G d S' → Q v H'
def LT (M : Md) (H : Hp) (G : GT) (Q : Bool → Hp → Prop) : Prop := ∀ b S' H', Keep H H' → RS M H' S' → G b S' → Q b H'
def LA (M : Md) (H : Hp) (G : GQs) (Q : List V → Hp → Prop) : Prop := ∀ ds S' vs H', Keep H H' → Rps M H' ds vs → RS M H' S' → G ds S' → Q vs H'
def LN (M : Md) (H : Hp) (G : Ev → Store → Prop) (Q : L2.St → Hp → Prop) : Prop := ∀ ρ' S' σ' H', Keep H H' → Re M H' ρ' σ' → RS M H' S' → G ρ' S' → Q σ' H'
structure LEnd (M : Md) (H : Hp) (G : GEnd) (E : Ends) : Prop where
  nx : LN M H G.nx E.nx
  rt : LQ M H G.rt E.rt
  bk : LN M H G.bk E.bk
  ct : LN M H G.ct E.ct
theorem LQ.mono {M : Md} {H H' : Hp} {G : GQ} {Q : VK} (h : LQ M H G Q) (k : Keep H H') : LQ M H' G Q := fun d S v H2 k2 r s g => h d S v H2 (k.trans k2) r s g
theorem LT.mono {M : Md} {H H' : Hp} {G : GT} {Q : Bool → Hp → Prop} (h : LT M H G Q) (k : Keep H H') : LT M H' G Q := fun b S H2 k2 s g => h b S H2 (k.trans k2) s g
theorem LA.mono {M : Md} {H H' : Hp} {G : GQs} {Q : List V → Hp → Prop} (h : LA M H G Q) (k : Keep H H') : LA M H' G Q := fun d S v H2 k2 r s g => h d S v H2 (k.trans k2) r s g
theorem LN.mono {M : Md} {H H' : Hp} {G : Ev → Store → Prop} {Q : L2.St → Hp → Prop} (h : LN M H G Q) (k : Keep H H') : LN M H' G Q := fun d S v H2 k2 r s g => h d S v H2 (k.trans k2) r s g
theorem LEnd.mono {M : Md} {H H' : Hp} {G : GEnd} {E : Ends} (h : LEnd M H G E) (k : Keep H H') : LEnd M H' G E := ⟨h.nx.mono k, h.rt.mono k, h.bk.mono k, h.ct.mono k⟩

def liftE (M : Md) (g : WE) : TE := fun σ H Q => ∃ ρ S G, Re M H ρ σ ∧ RS M H S ∧ g ρ S G ∧ LQ M H G Q
def liftT (M : Md) (g : WT) : TT := fun σ H Q => ∃ ρ S G, Re M H ρ σ ∧ RS M H S ∧ g ρ S G ∧ LT M H G Q
def liftA (M : Md) (g : WA) : TA := fun σ H Q => ∃ ρ S G, Re M H ρ σ ∧ RS M H S ∧ g ρ S G ∧ LA M H G Q
def liftS (M : Md) (g : WS) : TS := fun E σ H => ∃ ρ S G, Re M H ρ σ ∧ RS M H S ∧ g G ρ S ∧ LEnd M H G E

abbrev md (X : Cx) : Md := ⟨X.K, X.mg⟩
abbrev JE (X : Cx) (e : Expr) (g : WE) : Prop := PE X e (liftE (md X) g)
abbrev JT (X : Cx) (e : Expr) (g : WT) : Prop := PT X e (liftT (md X) g)
abbrev JW (X : Cx) (e : Expr) (g : WT) : Prop := PW X e (liftT (md X) g)
abbrev JA (X : Cx) (es : List Expr) (g : WA) : Prop := PA X es (liftA (md X) g)
abbrev JS (X : Cx) (s : Stmt) (g : WS) : Prop := PS X s (liftS (md X) g)
abbrev JSs (X : Cx) (s : List Stmt) (g : WS) : Prop := PSs X s (liftS (md X) g)

theorem PE.imp {X : Cx} {e : Expr} {t t' : TE} (h : PE X e t) (i : ∀ σ H Q, t' σ H Q → t σ H Q) : PE X e t' := ⟨fun pins s σ H Q I w => h.run pins s σ H Q I (i σ H Q w)⟩
theorem PT.imp {X : Cx} {e : Expr} {t t' : TT} (h : PT X e t) (i : ∀ σ H Q, t' σ H Q → t σ H Q) : PT X e t' := ⟨fun pins s σ H Q I w => h.run pins s σ H Q I (i σ H Q w)⟩
theorem PW.imp {X : Cx} {e : Expr} {t t' : TT} (h : PW X e t) (i : ∀ σ H Q, t' σ H Q → t σ H Q) : PW X e t' := ⟨fun wh pins s σ H Q I w => h.run wh pins s σ H Q I (i σ H Q w)⟩
theorem PA.imp {X : Cx} {e : List Expr} {t t' : TA} (h : PA X e t) (i : ∀ σ H Q, t' σ H Q → t σ H Q) : PA X e t' := ⟨fun pos pins s σ H Q I w => h.run pos pins s σ H Q I (i σ H Q w)⟩
theorem PS.imp {X : Cx} {e : Stmt} {t t' : TS} (h : PS X e t) (i : ∀ E σ H, t' E σ H → t E σ H) : PS X e t' := ⟨fun pins s σ H E I w => h.run pins s σ H E I (i E σ H w)⟩
theorem PSs.imp {X : Cx} {e : List Stmt} {t t' : TS} (h : PSs X e t) (i : ∀ E σ H, t' E σ H → t E σ H) : PSs X e t' := ⟨fun pins s σ H E I w => h.run pins s σ H E I (i E σ H w)⟩

/-- from one lift into the next -/
theorem liftE.then {M : Md} {g : WE} {ρ : Ev} {S : Store} {G : GQ} {σ : L2.St} {H : Hp} {Q : VK} (re : Re M H ρ σ) (rs : RS M H S) (h : g ρ S G) (k : LQ M H G Q) : liftE M g σ H Q := ⟨ρ, S, G, re, rs, h, k⟩
theorem liftA.then {M : Md} {g : WA} {ρ : Ev} {S : Store} {G : GQs} {σ : L2.St} {H : Hp} {Q : List V → Hp → Prop} (re : Re M H ρ σ) (rs : RS M H S) (h : g ρ S G) (k : LA M H G Q) : liftA M g σ H Q := ⟨ρ, S, G, re, rs, h, k⟩
theorem liftT.then {M : Md} {g : WT} {ρ : Ev} {S : Store} {G : GT} {σ : L2.St} {H : Hp} {Q : Bool → Hp → Prop} (re : Re M H ρ σ) (rs : RS M H S) (h : g ρ S G) (k : LT M H G Q) : liftT M g σ H Q := ⟨ρ, S, G, re, rs, h, k⟩
theorem liftS.then {M : Md} {g : WS} {ρ : Ev} {S : Store} {G : GEnd} {σ : L2.St} {H : Hp} {E : Ends} (re : Re M H ρ σ) (rs : RS M H S) (h : g G ρ S) (k : LEnd M H G E) : liftS M g E σ H := ⟨ρ, S, G, re, rs, h, k⟩

/-! ### operations by values -/
abbrev G2 := D → D → Store → GQ → Prop
abbrev G1 := D → Store → GQ → Prop
abbrev GN := List D → Store → GQ → Prop
abbrev GM := D → List D → Store → GQ → Prop
/-- a comparison -/
abbrev GC := D → D → Store → GT → Prop
def lop (M : Md) (r : G2) : R2 := fun x y H Q => ∃ d e S G, Rp M H d x ∧ Rp M H e y ∧ RS M H S ∧ r d e S G ∧ LQ M H G Q
def lop1 (M : Md) (r : G1) : V → Hp → VK → Prop := fun x H Q => ∃ d S G, Rp M H d x ∧ RS M H S ∧ r d S G ∧ LQ M H G Q
def lopN (M : Md) (r : GN) : List V → Hp → VK → Prop := fun xs H Q => ∃ ds S G, Rps M H ds xs ∧ RS M H S ∧ r ds S G ∧ LQ M H G Q
def lopM (M : Md) (r : GM) : V → List V → Hp → VK → Prop := fun x xs H Q => ∃ d ds S G, Rp M H d x ∧ Rps M H ds xs ∧ RS M H S ∧ r d ds S G ∧ LQ M H G Q
def lopC (M : Md) (r : GC) : R2 := fun x y H Q => ∃ d e S G, Rp M H d x ∧ Rp M H e y ∧ RS M H S ∧ r d e S G ∧ LT M H G fun b H' => Q (.bl b) H'
abbrev OpG (X : Cx) (f : Value → Value → Sem Value) (r : G2) : Prop := OpR X f (lop (md X) r)
abbrev CmpG (X : Cx) (f : Value → Value → Sem Value) (r : GC) : Prop := OpR X f (lopC (md X) r)
abbrev UnG (X : Cx) (f : Value → Sem Value) (r : G1) : Prop := UnR X f (lop1 (md X) r)
abbrev CallG (X : Cx) (f : Value) (r : GN) : Prop := CallR X f (lopN (md X) r)
abbrev MtG (X : Cx) (id : String) (r : GM) : Prop := MtR X id (lopM (md X) r)
abbrev IxG (X : Cx) (r : G2) : Prop := IxR X (lop (md X) r)
theorem OpR.imp {X : Cx} {f : Value → Value → Sem Value} {r r' : R2} (h : OpR X f r) (i : ∀ x y H Q, r' x y H Q → r x y H Q) : OpR X f r' := fun pins s σ H x y v u Q I a b w => h pins s σ H x y v u Q I a b (i x y H Q w)
theorem OpR.or {X : Cx} {f : Value → Value → Sem Value} {r r' : R2} (h : OpR X f r) (h' : OpR X f r') : OpR X f (fun x y H Q => r x y H Q ∨ r' x y H Q) := fun pins s σ H x y v u Q I a b w => w.elim (h pins s σ H x y v u Q I a b) (h' pins s σ H x y v u Q I a b)
theorem CallR.imp {X : Cx} {f : Value} {r r' : List V → Hp → VK → Prop} (h : CallR X f r) (i : ∀ x H Q, r' x H Q → r x H Q) : CallR X f r' := fun pins s σ H x v Q I a w => h pins s σ H x v Q I a (i x H Q w)
theorem UnR.imp {X : Cx} {f : Value → Sem Value} {r r' : V → Hp → VK → Prop} (h : UnR X f r) (i : ∀ x H Q, r' x H Q → r x H Q) : UnR X f r' := fun pins s σ H x v Q I a w => h pins s σ H x v Q I a (i x H Q w)
theorem MtR.imp {X : Cx} {f : String} {r r' : V → List V → Hp → VK → Prop} (h : MtR X f r) (i : ∀ x xs H Q, r' x xs H Q → r x xs H Q) : MtR X f r' := fun pins s σ H x xs v us Q I a b w => h pins s σ H x xs v us Q I a b (i x xs H Q w)
theorem IxR.imp {X : Cx} {r r' : R2} (h : IxR X r) (i : ∀ x y H Q, r' x y H Q → r x y H Q) : IxR X r' := fun va sl pins s σ H x y v u Q I a b w => h va sl pins s σ H x y v u Q I a b (i x y H Q w)

section
variable {X : Cx} {a b c e : Expr} {es : List Expr} {ga gb gc : WE} {ta tb : WT} {gs : WA} {pos : Pos}

/-! ### expressions -/
def wSlot (i : Nat) : WE := fun ρ S Q => ∃ d, ρ[i]? = some (some d) ∧ Q d S
def wVal (d : D) : WE := fun _ S Q => Q d S
theorem je_slot {i : Nat} (h : PE X e (tVar i)) : JE X e (wSlot i) := PE.imp h fun σ H Q ⟨ρ, S, G, re, rs, ⟨d, hd, hg⟩, k⟩ => by
  obtain ⟨v, hv, r⟩ := re.2 i d hd
  exact ⟨v, hv, k d S v H (Keep.refl H) r rs hg⟩
theorem je_val {d : D} {v : V} (h : PE X e (tC v)) (r : ∀ H, Rp (md X) H d v) : JE X e (wVal d) := PE.imp h fun σ H Q ⟨ρ, S, G, re, rs, hg, k⟩ => k d S v H (Keep.refl H) (r H) rs hg
def wBin (r : G2) (ga gb : WE) : WE := fun ρ S Q => ga ρ S fun d S1 => gb ρ S1 fun e S2 => r d e S2 Q
theorem bin_lift {M : Md} {r : D → D → Store → Prop} {R : V → V → Hp → Prop} {ρ : Ev} {S : Store} {σ : L2.St} {H : Hp} (re : Re M H ρ σ) (rs : RS M H S) (h : ga ρ S fun d S1 => gb ρ S1 fun e S2 => r d e S2)
    (k : ∀ d e S2 x y H2, Keep H H2 → Rp M H2 d x → Rp M H2 e y → RS M H2 S2 → r d e S2 → R x y H2) : liftE M ga σ H fun x H1 => liftE M gb σ H1 fun y H2 => R x y H2 :=
  liftE.then re rs h fun d S1 x H1 k1 r1 s1 h1 => liftE.then (re.mono k1) s1 h1 fun e S2 y H2 k2 r2 s2 h2 => k d e S2 x y H2 (k1.trans k2) (r1.mono k2) r2 s2 h2
theorem je_bin {op : Operator} {r : G2} (ho : OpG X (binaryOp op) r) (ha : JE X a ga) (hb : JE X b gb) : JE X (.BinOp a op b pos) (wBin r ga gb) :=
  PE.imp (pe_op ho ha hb) fun σ H Q ⟨ρ, S, G, re, rs, h, k⟩ => bin_lift re rs h fun d e S2 x y H2 k2 r1 r2 s2 h2 => ⟨d, e, S2, G, r1, r2, s2, h2, k.mono k2⟩
def wUn (r : G1) (ga : WE) : WE := fun ρ S Q => ga ρ S fun d S1 => r d S1 Q
theorem je_un {op : UnaryOp} {r : G1} (ho : UnG X (unaryOp op) r) (ha : JE X a ga) : JE X (.UnaryOp op a pos) (wUn r ga) :=
  PE.imp (pe_un ho ha) fun σ H Q ⟨ρ, S, G, re, rs, h, k⟩ => liftE.then re rs h fun d S1 x H1 k1 r1 s1 h1 => ⟨d, S1, G, r1, s1, h1, k.mono k1⟩
/-- a comparison as a test; as a value -/
def wCmp (r : GC) (ga gb : WE) : WT := fun ρ S Q => ga ρ S fun d S1 => gb ρ S1 fun e S2 => r d e S2 Q
def wB (t : WT) : WE := fun ρ S Q => t ρ S fun b S1 => Q (.bl b) S1
theorem rp_bl {M : Md} {H : Hp} (b : Bool) : Rp M H (.bl b) (.bl b) := by simp only [Rp]
theorem je_cmp {op : CmpOp} {r : GC} (ho : CmpG X (compareOp op) r) (ha : JE X a ga) (hb : JE X b gb) (hm : behindInMarks op b = false) : JE X (.Compare a [op] [b] pos) (wB (wCmp r ga gb)) :=
  PE.imp (pe_cmpR ho ha hb hm) fun σ H Q ⟨ρ, S, G, re, rs, h, k⟩ => bin_lift re rs h fun d e S2 x y H2 k2 r1 r2 s2 h2 => ⟨d, e, S2, _, r1, r2, s2, h2, fun b S' H' k' s' g => k _ S' _ H' (k2.trans k') (rp_bl b) s' g⟩
theorem jt_cmp {op : CmpOp} {r : GC} (ho : CmpG X (compareOp op) r) (ha : JE X a ga) (hb : JE X b gb) (hm : behindInMarks op b = false) : JT X (.Compare a [op] [b] pos) (wCmp r ga gb) :=
  PT.imp (pt_cmpR ho ha hb hm) fun σ H Q ⟨ρ, S, G, re, rs, h, k⟩ => bin_lift re rs h fun d e S2 x y H2 k2 r1 r2 s2 h2 => ⟨d, e, S2, _, r1, r2, s2, h2, fun b S' H' k' s' g => ⟨b, rfl, k b S' H' (k2.trans k') s' g⟩⟩
/-- a < b < c -/
def wCmp2 (r r' : GC) (ga gb gc : WE) : WT := fun ρ S Q => ga ρ S fun d S1 => gb ρ S1 fun e S2 => r d e S2 fun b S3 => if b = true then gc ρ S3 fun f S4 => r' e f S4 Q else Q false S3
theorem je_cmp2 {op op' : CmpOp} {r r' : GC} (ho : CmpG X (compareOp op) r) (ho' : CmpG X (compareOp op') r') (ha : JE X a ga) (hb : JE X b gb) (hc : JE X c gc) (hm : lastMarks [op, op'] [b, c] = false) : JE X (.Compare a [op, op'] [b, c] pos) (wB (wCmp2 r r' ga gb gc)) :=
  PE.imp (pe_chain ho ho' ha hb hc hm) fun σ H Q ⟨ρ, S, G, re, rs, h, k⟩ => bin_lift re rs h fun d e S2 x y H2 k2 r1 r2 s2 h2 => ⟨d, e, S2, _, r1, r2, s2, h2, fun b S' H' k' s' g => by
    refine ⟨b, rfl, ?_⟩
    cases b with
    | false => rw [if_neg (by decide)] at g ⊢; exact k _ _ _ _ (k2.trans k') (rp_bl _) s' g
    | true =>
      rw [if_pos rfl] at g ⊢
      exact liftE.then (re.mono (k2.trans k')) s' g fun f S4 z H4 k4 r4 s4 h4 => ⟨e, f, S4, _, r2.mono (k'.trans k4), r4, s4, h4, fun b S5 H5 k5 s5 g5 => k _ _ _ _ ((k2.trans k').trans (k4.trans k5)) (rp_bl _) s5 g5⟩⟩
theorem jt_cmp2 {op op' : CmpOp} {r r' : GC} (ho : CmpG X (compareOp op) r) (ho' : CmpG X (compareOp op') r') (ha : JE X a ga) (hb : JE X b gb) (hc : JE X c gc) (hm : lastMarks [op, op'] [b, c] = false) : JT X (.Compare a [op, op'] [b, c] pos) (wCmp2 r r' ga gb gc) :=
  PT.imp (pt_chain ho ho' ha hb hc hm) fun σ H Q ⟨ρ, S, G, re, rs, h, k⟩ => bin_lift re rs h fun d e S2 x y H2 k2 r1 r2 s2 h2 => ⟨d, e, S2, _, r1, r2, s2, h2, fun b S' H' k' s' g => by
    refine ⟨b, rfl, ?_⟩
    cases b with
    | false => rw [if_neg (by decide)] at g ⊢; exact ⟨false, rfl, k _ _ _ (k2.trans k') s' g⟩
    | true =>
      rw [if_pos rfl] at g ⊢
      exact liftE.then (re.mono (k2.trans k')) s' g fun f S4 z H4 k4 r4 s4 h4 => ⟨e, f, S4, _, r2.mono (k'.trans k4), r4, s4, h4, fun b S5 H5 k5 s5 g5 => ⟨b, rfl, k _ _ _ ((k2.trans k').trans (k4.trans k5)) s5 g5⟩⟩⟩
/-! truth -/
def tru (d : D) (S : Store) (Q : GT) : Prop := match d with
  | .non => Q false S
  | .bl b => Q b S
  | .int i => Q (i != 0) S
  | .str x => x.length ≤ sizeLine ∧ Q ((x.length : Int) != 0) S
  | .tup ds => Q (!ds.isEmpty) S
  | .wtup ds => Q (!ds.isEmpty) S
  | .frl ds => Q (!ds.isEmpty) S
  | .ref a => match S a with
    | some (.lst ds) => Q (!ds.isEmpty) S
    | some (.dct kvs) => Q (!kvs.isEmpty) S
    | _ => False
  | _ => False
theorem Rps.isEmpty {M : Md} {H : Hp} {ds : List D} {vs : List V} (h : Rps M H ds vs) : ds.isEmpty = vs.isEmpty := by
  have := h.length
  cases ds <;> cases vs <;> first | rfl | (simp at this)
theorem Kvs.length {M : Md} {H : Hp} : ∀ {ds : List (Key × D)} {vs : List (Key × V)}, Kvs M H ds vs → ds.length = vs.length
  | [], vs, h => by rw [show vs = [] from h]; rfl
  | (x, d) :: ds, vs, h => by obtain ⟨v, r, rfl, _, t⟩ := h; rw [List.length_cons, List.length_cons, Kvs.length t]
theorem Kvs.isEmpty {M : Md} {H : Hp} {ds : List (Key × D)} {vs : List (Key × V)} (h : Kvs M H ds vs) : ds.isEmpty = vs.isEmpty := by
  have := h.length
  cases ds <;> cases vs <;> first | rfl | (simp at this)
theorem tru_ok' {M : Md} {H : Hp} {d : D} {S : Store} {G : GT} {x : V} (r : Rp M H d x) (s : RS M H S) (h : tru d S G) : ∃ k, TruV M.K x H k ∧ G k S := by
  cases d with
  | non => simp only [Rp] at r; subst r; exact ⟨false, rfl, h⟩
  | bl b => simp only [Rp] at r; subst r; exact ⟨b, rfl, h⟩
  | int i => simp only [Rp] at r; subst r; exact ⟨_, rfl, h⟩
  | str z => simp only [Rp] at r; subst r; exact ⟨_, ⟨h.1, rfl⟩, h.2⟩
  | tup ds =>
    simp only [Rp] at r
    obtain ⟨a, xs, rfl, q, t⟩ := r
    exact ⟨_, .inr (.inl ⟨xs, q.sqt, rfl⟩), by rw [← t.isEmpty]; exact h⟩
  | wtup ds =>
    simp only [Rp] at r
    obtain ⟨a, xs, rfl, q, t⟩ := r
    exact ⟨_, .inr (.inl ⟨xs, q, rfl⟩), by rw [← t.isEmpty]; exact h⟩
  | frl ds =>
    simp only [Rp] at r
    obtain ⟨a, xs, rfl, q, t⟩ := r
    exact ⟨_, .inl ⟨xs, q.sql, rfl⟩, by rw [← t.isEmpty]; exact h⟩
  | ref a =>
    simp only [Rp] at r; subst r
    simp only [tru] at h
    split at h
    · rename_i ds e
      obtain ⟨xs, hx, t⟩ := s a _ e
      exact ⟨_, .inl ⟨xs, SqL.of hx, rfl⟩, by rw [← t.isEmpty]; exact h⟩
    · rename_i kvs e
      obtain ⟨l, hx, t⟩ := s a _ e
      exact ⟨_, .inr (.inr ⟨l, hx, rfl⟩), by rw [← t.isEmpty]; exact h⟩
    · exact h.elim
  | ty n => exact h.elim
  | glo x => exact h.elim
def wTru (g : WE) : WT := fun ρ S Q => g ρ S fun d S1 => tru d S1 Q
theorem jt_tru (ha : JE X a ga) (he : ∀ whole, isTrue a X.env whole = (do let v ← whole; standAt a.pos; holding [v] (truthy v))) : JT X a (wTru ga) :=
  PT.imp (pt_truth ha he) fun σ H Q ⟨ρ, S, G, re, rs, h, k⟩ => liftE.then re rs h fun d S1 x H1 k1 r1 s1 h1 => by
    obtain ⟨b, t, g⟩ := tru_ok' r1 s1 h1
    exact ⟨b, t, k b S1 H1 k1 s1 g⟩
def wAndE (ga gb : WE) : WE := fun ρ S Q => ga ρ S fun d S1 => tru d S1 fun b S2 => if b = true then gb ρ S2 Q else Q d S2
def wOrE (ga gb : WE) : WE := fun ρ S Q => ga ρ S fun d S1 => tru d S1 fun b S2 => if b = true then Q d S2 else gb ρ S2 Q
theorem je_and {rest : List Expr} (ha : JE X a ga) (hb : JE X (.BoolOp .And (b :: rest) pos) gb) : JE X (.BoolOp .And (a :: b :: rest) pos) (wAndE ga gb) :=
  PE.imp (pe_andT ha hb) fun σ H Q ⟨ρ, S, G, re, rs, h, k⟩ => liftE.then re rs h fun d S1 x H1 k1 r1 s1 h1 => by
    obtain ⟨c, t, g⟩ := tru_ok' r1 s1 h1
    refine ⟨c, t, ?_⟩
    cases c with
    | true => rw [if_pos rfl] at g ⊢; exact liftE.then (re.mono k1) s1 g (k.mono k1)
    | false => rw [if_neg (by decide)] at g ⊢; exact k d S1 x H1 k1 r1 s1 g
theorem je_or {rest : List Expr} (ha : JE X a ga) (hb : JE X (.BoolOp .Or (b :: rest) pos) gb) : JE X (.BoolOp .Or (a :: b :: rest) pos) (wOrE ga gb) :=
  PE.imp (pe_orT ha hb) fun σ H Q ⟨ρ, S, G, re, rs, h, k⟩ => liftE.then re rs h fun d S1 x H1 k1 r1 s1 h1 => by
    obtain ⟨c, t, g⟩ := tru_ok' r1 s1 h1
    refine ⟨c, t, ?_⟩
    cases c with
    | true => rw [if_pos rfl] at g ⊢; exact k d S1 x H1 k1 r1 s1 g
    | false => rw [if_neg (by decide)] at g ⊢; exact liftE.then (re.mono k1) s1 g (k.mono k1)
theorem je_not (ha : JE X a ga) : JE X (.UnaryOp .Not a pos) (fun ρ S Q => ga ρ S fun d S1 => tru d S1 fun b S2 => Q (.bl (!b)) S2) :=
  PE.imp (pe_notT ha) fun σ H Q ⟨ρ, S, G, re, rs, h, k⟩ => liftE.then re rs h fun d S1 x H1 k1 r1 s1 h1 => by
    obtain ⟨c, t, g⟩ := tru_ok' r1 s1 h1
    exact ⟨c, t, k _ S1 _ H1 k1 (rp_bl _) s1 g⟩
def wNot (t : WT) : WT := fun ρ S Q => t ρ S fun b S1 => Q (!b) S1
def wAnd (t u : WT) : WT := fun ρ S Q => t ρ S fun b S1 => if b = true then u ρ S1 Q else Q false S1
def wOr (t u : WT) : WT := fun ρ S Q => t ρ S fun b S1 => if b = true then Q true S1 else u ρ S1 Q
theorem jt_not (ha : JT X a ta) : JT X (.UnaryOp .Not a pos) (wNot ta) :=
  PT.imp (pt_not ha) fun σ H Q ⟨ρ, S, G, re, rs, h, k⟩ => liftT.then re rs h fun b S1 H1 k1 s1 h1 => k _ S1 H1 k1 s1 h1
theorem jw_and {rest : List Expr} (ha : JT X a ta) (hb : JW X (.BoolOp .And (b :: rest) pos) tb) : JW X (.BoolOp .And (a :: b :: rest) pos) (wAnd ta tb) :=
  PW.imp (pw_and ha hb) fun σ H Q ⟨ρ, S, G, re, rs, h, k⟩ => liftT.then re rs h fun c S1 H1 k1 s1 h1 => by
    cases c with
    | true => rw [if_pos rfl] at h1 ⊢; exact liftT.then (re.mono k1) s1 h1 (k.mono k1)
    | false => rw [if_neg (by decide)] at h1 ⊢; exact k _ S1 H1 k1 s1 h1
theorem jw_or {rest : List Expr} (ha : JT X a ta) (hb : JW X (.BoolOp .Or (b :: rest) pos) tb) : JW X (.BoolOp .Or (a :: b :: rest) pos) (wOr ta tb) :=
  PW.imp (pw_or ha hb) fun σ H Q ⟨ρ, S, G, re, rs, h, k⟩ => liftT.then re rs h fun c S1 H1 k1 s1 h1 => by
    cases c with
    | true => rw [if_pos rfl] at h1 ⊢; exact k _ S1 H1 k1 s1 h1
    | false => rw [if_neg (by decide)] at h1 ⊢; exact liftT.then (re.mono k1) s1 h1 (k.mono k1)
def wIfE (t : WT) (ga gb : WE) : WE := fun ρ S Q => t ρ S fun c S1 => if c = true then ga ρ S1 Q else gb ρ S1 Q
theorem je_if (hc : JT X c ta) (ha : JE X a ga) (hb : JE X b gb) : JE X (.IfExp c a b pos) (wIfE ta ga gb) :=
  PE.imp (pe_ifExp hc ha hb) fun σ H Q ⟨ρ, S, G, re, rs, h, k⟩ => liftT.then re rs h fun c S1 H1 k1 s1 h1 => by
    cases c with
    | true => rw [if_pos rfl] at h1 ⊢; exact liftE.then (re.mono k1) s1 h1 (k.mono k1)
    | false => rw [if_neg (by decide)] at h1 ⊢; exact liftE.then (re.mono k1) s1 h1 (k.mono k1)

/-! ### arguments and displays -/
def wNil : WA := fun _ S Q => Q [] S
def wCons (g : WE) (gs : WA) : WA := fun ρ S Q => g ρ S fun d S1 => gs ρ S1 fun ds S2 => Q (d :: ds) S2
theorem ja_nil : JA X [] wNil := PA.imp pa_nil fun σ H Q ⟨ρ, S, G, re, rs, h, k⟩ => k _ S _ H (Keep.refl H) Rps.nil rs h
theorem ja_cons (ha : JE X e ga) (hr : JA X es gs) (hs : starEach (e :: es) X.env = (false, eval e X.env) :: starEach es X.env) : JA X (e :: es) (wCons ga gs) :=
  PA.imp (pa_cons ha hr hs) fun σ H Q ⟨ρ, S, G, re, rs, h, k⟩ => liftE.then re rs h fun d S1 x H1 k1 r1 s1 h1 => liftA.then (re.mono k1) s1 h1 fun ds S2 xs H2 k2 r2 s2 h2 => k _ S2 _ H2 (k1.trans k2) (Rps.cons (r1.mono k2) r2) s2 h2
def wTup (gs : WA) : WE := fun ρ S Q => gs ρ S fun ds S1 => ds.length ≤ sizeLine ∧ Q (.tup ds) S1
theorem je_tup {x1} (h : JA X es gs) : JE X (.Tuple es x1 pos) (wTup gs) :=
  PE.imp (pe_tupX h) fun σ H Q ⟨ρ, S, G, re, rs, h, k⟩ => liftA.then re rs h fun ds S1 xs H1 k1 r1 s1 h1 => ⟨by rw [← r1.length]; exact h1.1, fun p o np no =>
    k _ S1 _ _ (k1.trans (Keep.new np)) (by simp only [Rp]; exact ⟨p, xs, rfl, .inl ⟨o, upd_same, no⟩, r1.mono (Keep.new np)⟩) (s1.new np) h1.2⟩
def wNew (c : Cell) (S : Store) (Q : GQ) : Prop := ∀ a, S a = none → Q (.ref a) (put S a c)
def wLst (gs : WA) : WE := fun ρ S Q => gs ρ S fun ds S1 => ds.length ≤ sizeLine ∧ wNew (.lst ds) S1 Q
theorem je_lst (h : JA X es gs) : JE X (.List es pos) (wLst gs) :=
  PE.imp (pe_lst h) fun σ H Q ⟨ρ, S, G, re, rs, h, k⟩ => liftA.then re rs h fun ds S1 xs H1 k1 r1 s1 h1 => ⟨by rw [← r1.length]; exact h1.1, fun p np =>
    k _ _ _ _ (k1.trans (Keep.new np)) (by simp only [Rp]) (s1.put (c := .lst ds) (Keep.new np) ⟨xs, upd_same, r1.mono (Keep.new np)⟩) (h1.2 p (s1.fresh np))⟩

/-! ### subscripts, slices -/
theorem je_ix {r : G2} (hr : IxG X r) (ha : JE X a ga) (hb : JE X b gb) (hs : PlainIx b) : JE X (.Subscript a b pos) (wBin r ga gb) :=
  PE.imp (pe_ix hr ha hb hs) fun σ H Q ⟨ρ, S, G, re, rs, h, k⟩ => bin_lift re rs h fun d e S2 x y H2 k2 r1 r2 s2 h2 => ⟨d, e, S2, G, r1, r2, s2, h2, k.mono k2⟩

/-! ### calls -/
theorem je_callB {x : Str} {p : Pos} {id : String} {r : GN} (hc : CallG X (.builtin id) r) (hg : Gl X x) (hm : X.mg x = none) (hv : bootBuiltins x = some (.builtin id)) (ha : JA X (e :: es) gs) (hn : x ≠ "__name__") (hdb : (x == ("__debug__" : Str)) = false)
    (he : starEach (e :: es) X.env = (false, eval e X.env) :: starEach es X.env) (hpl : (backTo pos (starEach es X.env)).any (·.1) = false) : JE X (.Call (.Name x p) (e :: es) [] pos) (fun ρ S Q => gs ρ S fun ds S1 => r ds S1 Q) :=
  PE.imp (pe_callB hc hg hm hv ha hn hdb he hpl) fun σ H Q ⟨ρ, S, G, re, rs, h, k⟩ => liftA.then re rs h fun ds S1 xs H1 k1 r1 s1 h1 => ⟨ds, S1, G, r1, s1, h1, k.mono k1⟩
theorem je_callTy {x : Str} {p : Pos} {T : String} {r : GN} (hc : CallG X (.type T) r) (hg : Gl X x) (hm : X.mg x = none) (hv : bootBuiltins x = some (.type T)) (ha : JA X (e :: es) gs) (hn : x ≠ "__name__") (hdb : (x == ("__debug__" : Str)) = false)
    (he : starEach (e :: es) X.env = (false, eval e X.env) :: starEach es X.env) (hpl : (backTo pos (starEach es X.env)).any (·.1) = false) : JE X (.Call (.Name x p) (e :: es) [] pos) (fun ρ S Q => gs ρ S fun ds S1 => r ds S1 Q) :=
  PE.imp (pe_callTy hc hg hm hv ha hn hdb he hpl) fun σ H Q ⟨ρ, S, G, re, rs, h, k⟩ => liftA.then re rs h fun ds S1 xs H1 k1 r1 s1 h1 => ⟨ds, S1, G, r1, s1, h1, k.mono k1⟩
end
end GL
end

-- G3
section
namespace GL
open PyProof.Rows PySem PySem.Spec L2

/-! ### what is walked -/
structure Src where
  items : List D
  live : Store → Prop
abbrev WI := Ev → Store → (Src → Store → Prop) → Prop
def SrcOk (M : Md) (H0 : Hp) (src : Src) (J : It) : Prop := ∀ i H S, Keep H0 H → RS M H S → src.live S →
  (∀ d, src.items[i]? = some d → J.go i H ∧ ∀ x H', J.yld i H x H' → Keep H H' ∧ Rp M H' d x ∧ ∀ S', RS M H S' → RS M H' S') ∧ (src.items.length ≤ i → J.stop i H)
theorem SrcOk.mono {M : Md} {H H' : Hp} {src : Src} {J : It} (h : SrcOk M H src J) (k : Keep H H') : SrcOk M H' src J := fun i H2 S k2 => h i H2 S (k.trans k2)
def LI (M : Md) (H : Hp) (G : Src → Store → Prop) (R : It → Hp → Prop) : Prop := ∀ src S' J H', Keep H H' → RS M H' S' → SrcOk M H' src J → G src S' → R J H'
theorem LI.mono {M : Md} {H H' : Hp} {G : Src → Store → Prop} {R : It → Hp → Prop} (h : LI M H G R) (k : Keep H H') : LI M H' G R := fun src S J H2 k2 => h src S J H2 (k.trans k2)
def liftI (M : Md) (w : WI) : TI := fun σ H R => ∃ ρ S G, Re M H ρ σ ∧ RS M H S ∧ w ρ S G ∧ LI M H G R
abbrev JI (X : Cx) (tg it : Expr) (w : WI) : Prop := PI X tg it (liftI (md X) w)
theorem PI.imp {X : Cx} {tg it : Expr} {w w' : TI} (h : PI X tg it w) (i : ∀ σ H R, w' σ H R → w σ H R) : PI X tg it w' := ⟨fun pins s σ H R I q => h.run pins s σ H R I (i σ H R q)⟩

/-! ### targets -/
abbrev WG := D → Ev → Store → (Ev → Store → Prop) → Prop
abbrev WGs := List D → Ev → Store → (Ev → Store → Prop) → Prop
/-- what a target leaves: the slots ts alone have changed -/
def LG (M : Md) (ts : List Nat) (σ : L2.St) (H : Hp) (G : Ev → Store → Prop) (Q : L2.St → Hp → Prop) : Prop :=
  ∀ ρ' S' σ' H', Keep H H' → Re M H' ρ' σ' → RS M H' S' → σ'.length = σ.length → (∀ j, j ∉ ts → σ'[j]? = σ[j]?) → G ρ' S' → Q σ' H'
def liftG (M : Md) (ts : List Nat) (w : WG) : TG := fun v σ H Q => ∃ d ρ S G, Rp M H d v ∧ Re M H ρ σ ∧ RS M H S ∧ w d ρ S G ∧ LG M ts σ H G Q
def liftGs (M : Md) (ts : List Nat) (w : WGs) : TGs := fun vs σ H Q => ∃ ds ρ S G, Rps M H ds vs ∧ Re M H ρ σ ∧ RS M H S ∧ w ds ρ S G ∧ LG M ts σ H G Q
abbrev JG (X : Cx) (tg : Expr) (ts : List Nat) (w : WG) : Prop := PG X tg (liftG (md X) ts w)
abbrev JGs (X : Cx) (tg : List Expr) (ts : List Nat) (w : WGs) : Prop := PGs X tg (liftGs (md X) ts w)
theorem PG.imp {X : Cx} {tg : Expr} {w w' : TG} (h : PG X tg w) (i : ∀ v σ H R, w' v σ H R → w v σ H R) : PG X tg w' := ⟨fun pins s σ H v u Q I r q => h.run pins s σ H v u Q I r (i v σ H Q q)⟩
theorem PGs.imp {X : Cx} {tg : List Expr} {w w' : TGs} (h : PGs X tg w) (i : ∀ v σ H R, w' v σ H R → w v σ H R) : PGs X tg w' := ⟨fun pins s σ H v u Q I r q => h.run pins s σ H v u Q I r (i v σ H Q q)⟩
def wgName (i : Nat) : WG := fun d ρ S Q => Q (ρ.set i (some d)) S
def wgNil : WGs := fun ds ρ S Q => ds = [] ∧ Q ρ S
def wgCons (g : WG) (gs : WGs) : WGs := fun ds ρ S Q => ∃ d r, ds = d :: r ∧ g d ρ S fun ρ' S' => gs r ρ' S' Q
/-- the items of a tuple -/
def wgTup (n : Nat) (gs : WGs) : WG := fun d ρ S Q => match d with
  | .ref p => ∃ ds, S p = some (.lst ds) ∧ ds.length = n ∧ gs ds ρ S Q
  | .wtup es => ∃ ds, es = ds ∧ ds.length = n ∧ gs ds ρ S Q
  | d => ∃ ds, d = .tup ds ∧ ds.length = n ∧ gs ds ρ S Q
section
variable {X : Cx} {e tg : Expr} {es : List Expr} {ga : WE} {pos : Pos}
theorem set_off {σ : L2.St} {i : Nat} {v : Option V} : ∀ j, j ∉ [i] → (σ.set i v)[j]? = σ[j]? := fun j hj => List.getElem?_set_ne (by simpa using fun e => hj (by simp [e]))
theorem jg_name {i : Nat} (h : PG X e (gName i)) : JG X e [i] (wgName i) := PG.imp h fun v σ H Q ⟨d, ρ, S, G, r, re, rs, h, k⟩ =>
  k _ S _ H (Keep.refl H) (re.set r i) rs (List.length_set ..) set_off h
theorem jgs_nil : JGs X [] [] wgNil := PGs.imp pgs_nil fun v σ H Q ⟨ds, ρ, S, G, r, re, rs, ⟨e, h⟩, k⟩ => by
  subst e
  exact ⟨r.nil', k ρ S σ H (Keep.refl H) re rs rfl (fun _ _ => rfl) h⟩
theorem jgs_cons {ts us : List Nat} {g : WG} {gs : WGs} (h1 : JG X e ts g) (h2 : JGs X es us gs) (hs : (assignEach (e :: es) X.env).map (·.2) = assign e X.env :: (assignEach es X.env).map (·.2)) : JGs X (e :: es) (ts ++ us) (wgCons g gs) :=
  PGs.imp (pgs_cons h1 h2 hs) fun v σ H Q ⟨ds, ρ, S, G, r, re, rs, ⟨d, ds', e, h⟩, k⟩ => by
    subst e
    obtain ⟨x, xs, rfl, r1, r2⟩ := r.cons'
    refine ⟨x, xs, rfl, d, ρ, S, _, r1, re, rs, h, fun ρ1 S1 σ1 H1 k1 re1 rs1 l1 o1 g1 => ?_⟩
    refine ⟨ds', ρ1, S1, G, r2.mono k1, re1, rs1, g1, fun ρ2 S2 σ2 H2 k2 re2 rs2 l2 o2 g2 => ?_⟩
    exact k ρ2 S2 σ2 H2 (k1.trans k2) re2 rs2 (l2.trans l1) (fun j hj => by rw [List.mem_append, not_or] at hj; exact (o2 j hj.2).trans (o1 j hj.1)) g2
theorem PG.or {X : Cx} {e : Expr} {t u : TG} (h : PG X e t) (k : PG X e u) : PG X e fun v σ H Q => t v σ H Q ∨ u v σ H Q :=
  ⟨fun pins s σ H v x Q I r q => q.elim (h.run pins s σ H v x Q I r) (k.run pins s σ H v x Q I r)⟩
theorem jg_tup {k : Nat} {ts : List Nat} {gs : WGs} {n : Nat} (hc : X.calm = true) (h : JGs X es ts gs) (hn : (assignEach es X.env).length = n) (hst : (assignEach es X.env).findIdx? (·.1) = none) : JG X (.Tuple es k pos) ts (wgTup n gs) :=
  PG.imp (PG.or (pg_tup hc h hn hst) (pg_lst hc h hn hst)) fun v σ H Q ⟨d, ρ, S, G, r, re, rs, h, k⟩ => by
    unfold wgTup at h
    split at h
    · rename_i p
      obtain ⟨ds, e, hl, h⟩ := h
      simp only [Rp] at r
      subst r
      obtain ⟨xs, hx, t⟩ := rs _ _ e
      exact .inr ⟨p, xs, rfl, SqL.of hx, by rw [← t.length]; exact hl, ds, ρ, S, G, t, re, rs, h, k⟩
    · obtain ⟨ds, e, hl, h⟩ := h
      subst e
      simp only [Rp] at r
      obtain ⟨a, xs, rfl, q, t⟩ := r
      exact .inl ⟨a, xs, rfl, q, by rw [← t.length]; exact hl, _, ρ, S, G, t, re, rs, h, k⟩
    · obtain ⟨ds, e, hl, h⟩ := h
      subst e
      simp only [Rp] at r
      obtain ⟨a, xs, rfl, q, t⟩ := r
      have q := q.sqt
      exact .inl ⟨a, xs, rfl, q, by rw [← t.length]; exact hl, ds, ρ, S, G, t, re, rs, h, k⟩
theorem LN.lg {M : Md} {ts : List Nat} {σ : L2.St} {H : Hp} {G : Ev → Store → Prop} {Q : L2.St → Hp → Prop} (h : LN M H G Q) : LG M ts σ H G Q := fun ρ S σ' H' k re rs _ _ g => h ρ S σ' H' k re rs g

/-! ### statements -/
def wSkip : WS := fun E ρ S => E.nx ρ S
def wSeq (t u : WS) : WS := fun E ρ S => t { E with nx := u E } ρ S
def wDrop (g : WE) : WS := fun E ρ S => g ρ S fun _ S1 => E.nx ρ S1
def wRet (g : WE) : WS := fun E ρ S => g ρ S E.rt
def wAsg (g : WE) (t : WG) : WS := fun E ρ S => g ρ S fun d S1 => t d ρ S1 E.nx
def wIf (c : WT) (t u : WS) : WS := fun E ρ S => c ρ S fun b S1 => if b = true then t E ρ S1 else u E ρ S1
variable {st : Stmt} {rest sa sb : List Stmt} {t u : WS} {c : Expr} {tc : WT}
theorem jss_nil : JSs X [] wSkip := PSs.imp pss_nil fun E σ H ⟨ρ, S, G, re, rs, h, k⟩ => k.nx ρ S σ H (Keep.refl H) re rs h
theorem jss_cons (h1 : JS X st t) (h2 : JSs X rest u) : JSs X (st :: rest) (wSeq t u) :=
  PSs.imp (pss_cons h1 h2) fun E σ H ⟨ρ, S, G, re, rs, h, k⟩ => liftS.then re rs h ⟨fun ρ1 S1 σ1 H1 k1 re1 rs1 h1 => liftS.then re1 rs1 h1 (k.mono k1), k.rt, k.bk, k.ct⟩
theorem jss_never : JSs X rest (fun _ _ _ => False) := PSs.imp pss_never fun E σ H ⟨ρ, S, G, re, rs, h, k⟩ => h.elim
theorem js_never : JS X st (fun _ _ _ => False) := PS.imp ps_never fun E σ H ⟨ρ, S, G, re, rs, h, k⟩ => h.elim
theorem js_pass : JS X (.Pass pos) wSkip := PS.imp ps_pass fun E σ H ⟨ρ, S, G, re, rs, h, k⟩ => k.nx ρ S σ H (Keep.refl H) re rs h
theorem js_break : JS X (.Break pos) (fun E ρ S => E.bk ρ S) := PS.imp ps_break fun E σ H ⟨ρ, S, G, re, rs, h, k⟩ => k.bk ρ S σ H (Keep.refl H) re rs h
theorem js_continue : JS X (.Continue pos) (fun E ρ S => E.ct ρ S) := PS.imp ps_continue fun E σ H ⟨ρ, S, G, re, rs, h, k⟩ => k.ct ρ S σ H (Keep.refl H) re rs h
theorem js_expr (he : JE X e ga) (hs : swapsWith e none pos.line X.env = pure false) : JS X (.Expr e pos) (wDrop ga) :=
  PS.imp (ps_expr he hs) fun E σ H ⟨ρ, S, G, re, rs, h, k⟩ => liftE.then re rs h fun d S1 x H1 k1 r1 s1 h1 => k.nx ρ S1 σ H1 k1 (re.mono k1) s1 h1
theorem js_ret (he : JE X e ga) : JS X (.Return (some e) pos) (wRet ga) :=
  PS.imp (ps_ret he) fun E σ H ⟨ρ, S, G, re, rs, h, k⟩ => liftE.then re rs h k.rt
theorem js_retN : JS X (.Return none pos) (fun E _ S => E.rt .non S) :=
  PS.imp ps_retN fun E σ H ⟨ρ, S, G, re, rs, h, k⟩ => k.rt .non S .non H (Keep.refl H) (by simp only [Rp]) rs h
theorem js_if (hc : JT X c tc) (ha : JSs X sa t) (hb : JSs X sb u) : JS X (.If c sa sb pos) (wIf tc t u) :=
  PS.imp (ps_if hc ha hb) fun E σ H ⟨ρ, S, G, re, rs, h, k⟩ => liftT.then re rs h fun b S1 H1 k1 s1 h1 => by
    cases b with
    | true => rw [if_pos rfl] at h1 ⊢; exact liftS.then (re.mono k1) s1 h1 (k.mono k1)
    | false => rw [if_neg (by decide)] at h1 ⊢; exact liftS.then (re.mono k1) s1 h1 (k.mono k1)
theorem js_asg {ts : List Nat} {g : WG} (he : JE X e ga) (hg : JG X tg ts g) (hs : swapsWithSole [tg] e pos.line X.env = pure false) (hw : swappedStores [tg] e X.env = pure none) (h1 : (assignEach [tg] X.env).map (·.2) = [assign tg X.env]) :
    JS X (.Assign [tg] e pos) (wAsg ga g) :=
  PS.imp (ps_asg he hg hs hw h1) fun E σ H ⟨ρ, S, G, re, rs, h, k⟩ => liftE.then re rs h fun d S1 x H1 k1 r1 s1 h1 => ⟨d, ρ, S1, G.nx, r1, re.mono k1, s1, h1, (k.mono k1).nx.lg⟩
theorem js_set {i : Nat} {x : Str} {pos' : Pos} (hN : X.N.Nodup) (hi : X.N[i]? = some x) (hx : Loc X.env.scope x) (he : JE X e ga) (hs : swapsWith e (some (.Name x pos')) pos.line X.env = pure false) (hf : X.fn x = true ∨ X.env.scope.names.lookup x = some .local) :
    JS X (.Assign [.Name x pos'] e pos) (wAsg ga (wgName i)) :=
  PS.imp (ps_set hN hi hx he hs hf) fun E σ H ⟨ρ, S, G, re, rs, h, k⟩ => liftE.then re rs h fun d S1 x H1 k1 r1 s1 h1 => k.nx _ S1 _ H1 k1 ((re.mono k1).set r1 i) s1 h1
/-- a, b = x, y -/
def wPar (is : List Nat) (gs : WA) : WS := fun E ρ S => gs ρ S fun ds S1 => ds.length = is.length ∧ E.nx ((is.zip ds).foldl (fun r p => r.set p.1 (some p.2)) ρ) S1

/-! ### for -/
def wForL (live : Store → Prop) (g : WG) (tb : WS) (E : GEnd) : List D → Ev → Store → Prop
  | [], ρ, S => live S ∧ E.nx ρ S
  | d :: ds, ρ, S => live S ∧ g d ρ S (fun ρ2 S2 => tb { nx := wForL live g tb E ds, ct := wForL live g tb E ds, bk := E.nx, rt := E.rt } ρ2 S2)
def wFor (wi : WI) (g : WG) (tb : WS) : WS := fun E ρ S => wi ρ S fun src S1 => wForL src.live g tb E src.items ρ S1
theorem drop_cons_of {α : Type} {l : List α} {i : Nat} {x : α} (h : l[i]? = some x) : l.drop i = x :: l.drop (i + 1) := by
  (obtain ⟨hi, e⟩ := List.getElem?_eq_some_iff.mp h)
  rw [List.drop_eq_getElem_cons hi, e]
theorem js_for {iter : Expr} {body : List Stmt} {wi : WI} {ts : List Nat} {g : WG} {tb : WS} (hp : PassesOwn (model X.prog X.w) X.A X.env X.xe) (hc : X.calm = true) (hi : JI X tg iter wi) (hg : JG X tg ts g) (hb : JSs X body tb) (hs : ∀ x, foldedSetIterable iter X.env x = pure x) :
    JS X (.For tg iter body [] pos) (wFor wi g tb) := by
  refine PS.imp (ps_for hp hc hi hg hb hs) fun E σ H ⟨ρ, S, G, re, rs, h, k⟩ => ⟨ρ, S, _, re, rs, h, fun src S1 J H1 k1 rs1 ok h1 => ?_⟩
  refine ⟨fun i m σ' H' => ∃ ρ' S', Keep H1 H' ∧ Re (md X) H' ρ' σ' ∧ RS (md X) H' S' ∧ i + m = src.items.length ∧ wForL src.live g tb G (src.items.drop i) ρ' S', ⟨src.items.length, ρ, S1, Keep.refl _, re.mono k1, rs1, by omega, by simpa using h1⟩, ?_⟩
  rintro i m σ2 H2 ⟨ρ2, S2, k2, re2, rs2, hm, h2⟩
  cases e : src.items[i]? with
  | none =>
    have hl : src.items.length ≤ i := List.getElem?_eq_none_iff.mp e
    rw [List.drop_eq_nil_of_le hl] at h2
    obtain ⟨lv, hn⟩ := h2
    exact .inl ⟨(ok i H2 S2 k2 rs2 lv).2 hl, k.nx ρ2 S2 σ2 H2 (k1.trans k2) re2 rs2 hn⟩
  | some d =>
    have hl : i < src.items.length := (List.getElem?_eq_some_iff.mp e).1
    rw [drop_cons_of e] at h2
    obtain ⟨lv, h2⟩ := h2
    obtain ⟨go, yl⟩ := (ok i H2 S2 k2 rs2 lv).1 d e
    refine .inr ⟨go, fun σ3 H3 => ∃ ρ3 S3, Keep H1 H3 ∧ Re (md X) H3 ρ3 σ3 ∧ RS (md X) H3 S3 ∧ wForL src.live g tb G (src.items.drop (i + 1)) ρ3 S3, fun σ3 H3 ⟨ρ3, S3, k3, re3, rs3, h3⟩ => ⟨m - 1, by omega, ρ3, S3, k3, re3, rs3, by omega, h3⟩, fun x H3 hy => ?_⟩
    obtain ⟨k3, r3, s3⟩ := yl x H3 hy
    refine ⟨d, ρ2, S2, _, r3, re2.mono k3, s3 _ rs2, h2, fun ρ4 S4 σ4 H4 k4 re4 rs4 _ _ h4 => ?_⟩
    have kk : Keep H1 H4 := (k2.trans k3).trans k4
    refine liftS.then re4 rs4 h4 ⟨fun ρ5 S5 σ5 H5 k5 re5 rs5 h5 => ⟨ρ5, S5, kk.trans k5, re5, rs5, h5⟩, k.rt.mono (k1.trans kk), k.nx.mono (k1.trans kk), fun ρ5 S5 σ5 H5 k5 re5 rs5 h5 => ⟨ρ5, S5, kk.trans k5, re5, rs5, h5⟩⟩

/-! ### while -/
def wWhileN (c : WT) (tb : WS) (E : GEnd) : Nat → Ev → Store → Prop
  | 0, _, _ => False
  | n + 1, ρ, S => c ρ S fun b S1 => if b = true then tb { nx := wWhileN c tb E n, ct := wWhileN c tb E n, bk := E.nx, rt := E.rt } ρ S1 else E.nx ρ S1
def wWhile (c : WT) (tb : WS) : WS := fun E ρ S => ∃ n, wWhileN c tb E n ρ S
theorem js_while {body : List Stmt} {tb : WS} (hp : PassesOwn (model X.prog X.w) X.A X.env X.xe) (hc : JT X c tc) (hb : JSs X body tb) : JS X (.While c body [] pos) (wWhile tc tb) := by
  refine PS.imp (ps_while hp hc hb) fun E σ H ⟨ρ, S, G, re, rs, ⟨n, h⟩, k⟩ => ?_
  refine ⟨fun m σ' H' => ∃ ρ' S', Keep H H' ∧ Re (md X) H' ρ' σ' ∧ RS (md X) H' S' ∧ wWhileN tc tb G m ρ' S', ⟨n, ρ, S, Keep.refl _, re, rs, h⟩, ?_⟩
  rintro m σ2 H2 ⟨ρ2, S2, k2, re2, rs2, h2⟩
  cases m with
  | zero => exact h2.elim
  | succ m =>
    refine liftT.then re2 rs2 h2 fun b S3 H3 k3 rs3 h3 => ?_
    cases b with
    | true =>
      rw [if_pos rfl] at h3 ⊢
      refine ⟨fun σ' H' => ∃ ρ' S', Keep H H' ∧ Re (md X) H' ρ' σ' ∧ RS (md X) H' S' ∧ wWhileN tc tb G m ρ' S', fun σ' H' hw => ⟨m, Nat.lt_succ_self m, hw⟩, ?_⟩
      have kk : Keep H H3 := k2.trans k3
      exact liftS.then (re2.mono k3) rs3 h3 ⟨fun ρ5 S5 σ5 H5 k5 re5 rs5 h5 => ⟨ρ5, S5, kk.trans k5, re5, rs5, h5⟩, k.rt.mono kk, k.nx.mono kk, fun ρ5 S5 σ5 H5 k5 re5 rs5 h5 => ⟨ρ5, S5, kk.trans k5, re5, rs5, h5⟩⟩
    | false =>
      rw [if_neg (by decide)] at h3 ⊢
      exact k.nx ρ2 S3 σ2 H3 (k2.trans k3) (re2.mono k3) rs3 h3

/-! ### list comprehensions -/
def wLcL (live : Store → Prop) (g : WG) (tt : WT) (te : WE) (ρ : Ev) (a : Addr) (Q : Store → Prop) : List D → Store → Prop
  | [], S => live S ∧ Q S
  | d :: ds, S => live S ∧ g d ρ S fun ρ2 S2 => tt ρ2 S2 fun b S3 => if b = true then te ρ2 S3 fun y S4 => ∃ acc, S4 a = some (.lst acc) ∧ acc.length < sizeLine ∧ wLcL live g tt te ρ a Q ds (put S4 a (.lst (acc ++ [y]))) else wLcL live g tt te ρ a Q ds S3
def wLc (wi : WI) (g : WG) (tt : WT) (te : WE) (own : List Nat) : WE := fun ρ S Q => wi ρ S fun src S1 => ∀ a, S1 a = none → wLcL src.live g tt te (wipeE ρ own) a (fun S' => Q (.ref a) S') src.items (put S1 a (.lst []))
theorem wipe_eq {σ σ' : L2.St} {vs : List Nat} (hl : σ'.length = σ.length) (h : ∀ j, j ∉ vs → σ'[j]? = σ[j]?) : wipe σ' vs = wipe σ vs := by
  have gen : ∀ (τ : L2.St) (us : List Nat) (j : Nat), (wipe τ us)[j]? = if j ∈ us then (if j < τ.length then some none else none) else τ[j]? := by
    intro τ us
    induction us with
    | nil => intro j; rfl
    | cons u us ih =>
      intro j
      show ((wipe τ us).set u none)[j]? = _
      rw [List.getElem?_set]
      by_cases e : u = j
      · subst e
        rw [if_pos rfl, if_pos (List.mem_cons_self ..), wipe_length]
      · rw [if_neg e, ih j]
        by_cases hm : j ∈ us
        · rw [if_pos hm, if_pos (List.mem_cons_of_mem _ hm)]
        · rw [if_neg hm, if_neg (by rw [List.mem_cons, not_or]; exact ⟨fun z => e z.symm, hm⟩)]
  apply List.ext_getElem?
  intro j
  rw [gen, gen, hl]
  by_cases hm : j ∈ vs
  · rw [if_pos hm, if_pos hm]
  · rw [if_neg hm, if_neg hm, h j hm]
theorem wipe_wipe {σ : L2.St} {vs : List Nat} : wipe (wipe σ vs) vs = wipe σ vs := by
  have gen : ∀ (τ : L2.St) (us : List Nat) (j : Nat), j ∉ us → (wipe τ us)[j]? = τ[j]? := by
    intro τ us
    induction us with
    | nil => intro j _; rfl
    | cons u us ih =>
      intro j hj
      rw [List.mem_cons, not_or] at hj
      show ((wipe τ us).set u none)[j]? = _
      rw [List.getElem?_set_ne (fun z => hj.1 z.symm), ih j hj.2]
  exact wipe_eq (wipe_length _ _) (fun j hj => gen σ vs j hj)
theorem lift_lc {M : Md} {wi : WI} {g : WG} {tt : WT} {te : WE} {ts own : List Nat} (hts : ∀ i ∈ ts, i ∈ own) {σ : L2.St} {H : Hp} {Q : VK} {ρ : Ev} {S : Store} {G : GQ} (re : Re M H ρ σ) (rs : RS M H S) (h : wLc wi g tt te own ρ S G) (k : LQ M H G Q) :
    tLc (liftI M wi) (liftG M ts g) (liftT M tt) (liftE M te) own σ H Q := by
  refine ⟨ρ, S, _, re, rs, h, fun src S1 J H1 k1 rs1 ok h1 a na => ?_⟩
  have h1 := h1 a (rs1.fresh na)
  have kn : Keep H1 (upd H1 a (.lst [])) := Keep.new na
  refine ⟨fun i m H' => ∃ S', Keep (upd H1 a (.lst [])) H' ∧ RS M H' S' ∧ i + m = src.items.length ∧ wLcL src.live g tt te (wipeE ρ own) a (fun S' => G (.ref a) S') (src.items.drop i) S',
    ⟨src.items.length, _, Keep.refl _, rs1.put (c := .lst []) kn ⟨[], upd_same, Rps.nil⟩, by omega, by simpa using h1⟩, ?_⟩
  rintro i m H2 ⟨S2, k2, rs2, hm, h2⟩
  have kk : Keep H1 H2 := kn.trans k2
  cases e : src.items[i]? with
  | none =>
    have hl : src.items.length ≤ i := List.getElem?_eq_none_iff.mp e
    rw [List.drop_eq_nil_of_le hl] at h2
    obtain ⟨lv, hn⟩ := h2
    exact .inl ⟨(ok i H2 S2 kk rs2 lv).2 hl, k (.ref a) S2 (.ref a) H2 (k1.trans kk) (by simp only [Rp]) rs2 hn⟩
  | some d =>
    have hl : i < src.items.length := (List.getElem?_eq_some_iff.mp e).1
    rw [drop_cons_of e] at h2
    obtain ⟨lv, h2⟩ := h2
    obtain ⟨go, yl⟩ := (ok i H2 S2 kk rs2 lv).1 d e
    refine .inr ⟨go, fun H3 => ∃ S3, Keep (upd H1 a (.lst [])) H3 ∧ RS M H3 S3 ∧ wLcL src.live g tt te (wipeE ρ own) a (fun S' => G (.ref a) S') (src.items.drop (i + 1)) S3, fun H3 ⟨S3, k3, rs3, h3⟩ => ⟨m - 1, by omega, S3, k3, rs3, by omega, h3⟩, fun x H3 hy => ?_⟩
    obtain ⟨k3, r3, s3⟩ := yl x H3 hy
    have k13 : Keep (upd H1 a (.lst [])) H3 := k2.trans k3
    refine ⟨d, wipeE ρ own, S2, _, r3, (re.mono (k1.trans (kn.trans k13))).wipe own, s3 _ rs2, h2, fun ρ4 S4 σ4 H4 k4 re4 rs4 l4 o4 h4 => ⟨?_, ?_⟩⟩
    · rw [wipe_eq l4 (fun j hj => o4 j fun z => hj (hts j z)), wipe_wipe]
    · refine liftT.then re4 rs4 h4 fun b S5 H5 k5 rs5 h5 => ?_
      have k15 : Keep (upd H1 a (.lst [])) H5 := (k13.trans k4).trans k5
      cases b with
      | false => rw [if_neg (by decide)] at h5 ⊢; exact ⟨S5, k15, rs5, h5⟩
      | true =>
        rw [if_pos rfl] at h5 ⊢
        refine liftE.then (re4.mono k5) rs5 h5 fun y S6 v H6 k6 r6 rs6 ⟨acc, ea, hz, h6⟩ => ?_
        obtain ⟨xs, hx, rx⟩ := rs6 a _ ea
        have ku : Keep H6 (upd H6 a (.lst (xs ++ [v]))) := Keep.upd hx trivial
        exact ⟨xs, hx, by rw [← rx.length]; exact hz, _, (k15.trans k6).trans ku, rs6.put (c := .lst (acc ++ [y])) ku ⟨_, upd_same, (rx.mono ku).append (Rps.cons (r6.mono ku) Rps.nil)⟩, h6⟩
end
end GL
end

-- G3b
section
namespace GL
open PyProof.Rows PySem PySem.Spec L2

/-! ### defs that are called where nothing is being shown (repr) -/
structure RoomG (k : Nat) (A : Around) : Prop where
  r : Room k A
  gd : A.guards = some []
theorem RoomG.mono {j k : Nat} {A : Around} (r : RoomG k A) (h : j ≤ k) : RoomG j A := ⟨r.r.mono h, r.gd⟩
theorem RoomG.deeper {k : Nat} {A : Around} (r : RoomG (k + 1) A) (env : Env) : RoomG k (A.deeper env) := ⟨r.r.deeper env, r.gd⟩
structure FnOkG (P : Program) (w : World) (K : PySem.W.Frag) (mg : Str → Option Value) (base : Heap) (CX : CXT) (k : Nat) (f : Addr) (fd : FuncData) (ps : List Str) (sp : Sp) : Prop where
  len : (∀ vs H Q E, sp vs H Q E → vs.length = ps.length)
  run : ∀ (A : Around) (outer : List Env) (s : Shared) (H : Hp) (args : Args) (us : List Value) (vs : List V) (Q : VK) (E : XK), RoomG k A → Env0 P w K mg base A outer s H → BindsTo s fd args (ps.zip us) → Vals vs us → sp vs H Q E → codeAny (model P w) A (.call (.ref f) args) (CR CX outer P w H s Q E) s

section
variable {X : Cx} {CX : CXT} {k : Nat} {f C : Addr} {fd : FuncData} {ps ks : List Str} {sp : Sp} {dvs : List V} {ds : List Value} {E : XK} {x m : Str} {p pos apos : Pos} {e o : Expr} {es : List Expr} {kws : List Keyword} {ta : TE} {t tk : TA}
variable {g : List Value → List Value → List Value}
variable {gV : List V → List V → List V}
theorem run_codeG {pins : List (Addr × Obj)} {σ : L2.St} {H : Hp} {s : Shared} {Q : VK} {args : Args} {us : List Value} {vs : List V} (F : FnOkG X.prog X.w X.K X.mg X.base CX k f fd ps sp) (hr : RoomG k X.A) (hx : Passes CX X E)
    (I : Inv X pins σ H s) (hb : BindsTo s fd args (ps.zip us)) (r : Vals vs us) (h : sp vs H Q E) : codeAny (model X.prog X.w) X.A (.call (.ref f) args) (fun r s' => match r with
      | .ok (.ret u) => EP X pins σ Q u s'
      | .ok _ => False
      | .error e => X.xe e s') s := by
  refine codeAny_mono (F.run X.A X.stack s H args us vs Q E hr I.env0 hb r h) fun r s' hq => ?_
  rcases r with e | fl
  · exact hx pins σ H s e s' I hq
  · cases fl with
    | ret u => exact I.after hq
    | next => exact hq
    | brk => exact hq
    | cont => exact hq
theorem run_fnG {pins : List (Addr × Obj)} {σ : L2.St} {H : Hp} {s : Shared} {Q : VK} {us : List Value} {vs : List V} (F : FnOkG X.prog X.w X.K X.mg X.base CX k f fd ps sp) (hr : RoomG k X.A) (hb : Binds X.K fd ps ds) (hd : Vals dvs ds) (hx : Passes CX X E) (I : Inv X pins σ H s) (r : Vals vs us) (h : sp (vs ++ dvs) H Q E) : wpAny (model X.prog X.w) X.A (call (.ref f) us) (EP X pins σ Q) X.xe s := by
  (have r2 : Vals (vs ++ dvs) (us ++ ds) := r.append hd)
  (have hl : (us ++ ds).length = ps.length := by rw [← r2.length]; exact F.len _ _ _ _ h)
  refine wpAny_call (codeAny_mono (run_codeG F hr hx I (hb s us I.kIn hl) r2 h) fun r s' hq => ?_)
  rcases r with e | fl
  · exact hq
  · cases fl <;> first | exact hq | exact False.elim hq
theorem run_fnkG {pins : List (Addr × Obj)} {σ : L2.St} {H : Hp} {s : Shared} {Q : VK} {us ws : List Value} {vs zs : List V} (F : FnOkG X.prog X.w X.K X.mg X.base CX k f fd ps sp) (hr : RoomG k X.A) (hb : KBinds X.K fd ps ks g gV) (hx : Passes CX X E) (I : Inv X pins σ H s) (r : Vals vs us) (rz : Vals zs ws) (h : sp (gV vs zs) H Q E) : wpAny (model X.prog X.w) X.A (call (.ref f) us (ks.zip ws)) (EP X pins σ Q) X.xe s := by
  have r2 := hb.rel r rz
  (have hl : (g us ws).length = ps.length := by rw [← r2.length]; exact F.len _ _ _ _ h)
  refine wpAny_call (codeAny_mono (run_codeG F hr hx I (hb.to s us ws I.kIn hl) r2 h) fun r s' hq => ?_)
  rcases r with e | fl
  · exact hq
  · cases fl <;> first | exact hq | exact False.elim hq
theorem pe_callG (F : FnOkG X.prog X.w X.K X.mg X.base CX k f fd ps sp) (hr : RoomG k X.A) (hg : Gl X x) (hm : X.mg x = some (.ref f)) (hk : PySem.W.keepIn X.K (.ref f) = true) (hb : Binds X.K fd ps ds) (hd : Vals dvs ds) (hx : Passes CX X E)
    (ha : PA X (e :: es) t) (hdb : (x == ("__debug__" : Str)) = false) (he : starEach (e :: es) X.env = (false, eval e X.env) :: starEach es X.env) (hpl : (backTo pos (starEach es X.env)).any (·.1) = false) :
    PE X (.Call (.Name x p) (e :: es) [] pos) (tCall sp dvs E t) :=
  ⟨fun pins s σ H Q I h => wpAny_Call_Name_kw (ld_glob I hg hm (PySem.W.callWith_K (h₀ := X.base) I.ok.mod.kin hk (thn (ha.run pos pins s σ H _ I h) fun us s1 ⟨vs, H1, I1, r, q⟩ => ⟨I1.kIn, run_fnG F hr hb hd hx I1 r q⟩) he hpl) hdb)⟩
theorem pe_call0G (F : FnOkG X.prog X.w X.K X.mg X.base CX k f fd ps sp) (hr : RoomG k X.A) (hg : Gl X x) (hm : X.mg x = some (.ref f)) (hk : PySem.W.keepIn X.K (.ref f) = true) (hb : Binds X.K fd ps ds) (hd : Vals dvs ds) (hx : Passes CX X E)
    (hdb : (x == ("__debug__" : Str)) = false) : PE X (.Call (.Name x p) [] [] pos) (tCall sp dvs E tNil) :=
  ⟨fun pins s σ H Q I h => wpAny_Call_Name_kw (ld_glob I hg hm (PySem.W.callWith_K0 I.kIn hk (run_fnG (us := []) F hr hb hd hx I .nil h)) hdb)⟩
theorem pe_callKG (F : FnOkG X.prog X.w X.K X.mg X.base CX k f fd ps sp) (hr : RoomG k X.A) (hg : Gl X x) (hm : X.mg x = some (.ref f)) (hk : PySem.W.keepIn X.K (.ref f) = true) (hb : KBinds X.K fd ps ks g gV) (hx : Passes CX X E)
    (ha : PA X (e :: es) t) (hkw : PK X kws tk) (hall : (backToKw pos (keywordEach kws X.env)).all (·.1.isSome) = true) (hks : (backToKw pos (keywordEach kws X.env)).filterMap (·.1) = ks)
    (hdb : (x == ("__debug__" : Str)) = false) (he : starEach (e :: es) X.env = (false, eval e X.env) :: starEach es X.env)
    (hpl : ((backTo pos (starEach (e :: es) X.env)).any (·.1) || (backToKw pos (keywordEach kws X.env)).any (·.1.isNone)) = false) : PE X (.Call (.Name x p) (e :: es) kws pos) (tCallK sp gV E t tk) := by
  (refine ⟨fun pins s σ H Q I h => ?_⟩)
  (refine wpAny_Call_Name_kw (ld_glob I hg hm ?_ hdb))
  (refine PySem.W.callWith_KW (h₀ := X.base) I.ok.mod.kin hk hall (thn (ha.run pos pins s σ H _ I h) fun us s1 ⟨vs, H1, I1, r, q⟩ => ?_) hpl he)
  (refine thn (hkw.run pos pins s1 σ H1 _ I1 q) fun ws s2 ⟨zs, H2, I2, rz, q2⟩ => ⟨I2.kIn, ?_⟩)
  rw [hks]
  exact run_fnkG F hr hb hx I2 r rz q2
theorem pe_callK0G (F : FnOkG X.prog X.w X.K X.mg X.base CX k f fd ps sp) (hr : RoomG k X.A) (hg : Gl X x) (hm : X.mg x = some (.ref f)) (hk : PySem.W.keepIn X.K (.ref f) = true) (hb : KBinds X.K fd ps ks g gV) (hx : Passes CX X E)
    (hkw : PK X kws tk) (hall : (backToKw pos (keywordEach kws X.env)).all (·.1.isSome) = true) (hks : (backToKw pos (keywordEach kws X.env)).filterMap (·.1) = ks)
    (hdb : (x == ("__debug__" : Str)) = false)
    (hpl : ((backTo pos (starEach [] X.env)).any (·.1) || (backToKw pos (keywordEach kws X.env)).any (·.1.isNone)) = false) :
    PE X (.Call (.Name x p) [] kws pos) (tCallK sp gV E tNil tk) := by
  (refine ⟨fun pins s σ H Q I h => ?_⟩)
  (refine wpAny_Call_Name_kw (ld_glob I hg hm ?_ hdb))
  refine PySem.W.callWith_KW0 (h₀ := X.base) I.ok.mod.kin hk hall ?_ hpl
  refine thn (hkw.run pos pins s σ H _ I h) fun ws s2 ⟨zs, H2, I2, rz, q2⟩ => ⟨I2.kIn, ?_⟩
  rw [hks]
  exact run_fnkG (us := []) (vs := []) F hr hb hx I2 .nil rz q2
end
section
variable {P : Program}
variable {w : World}
variable {K : PySem.W.Frag}
variable {mg : Str → Option Value}
variable {base : Heap}
/-- a def by its body, at a place where nothing is being shown -/
theorem Fun.okG {CX : CXT} {x qual : Str} {st : Stmt} {f : Addr} {fd : FuncData} {N ps : List Str} {k : Nat} {sp : Sp} (F : Fun K x qual st f fd) (S : FnScope N ps (defScope st)) (len : ∀ vs H Q E, sp vs H Q E → vs.length = ps.length)
    (hbody : ∀ (cdv : Value) (A : Around) (outer : List Env) (s : Shared) (H : Hp) (vs : List V) (Q : VK) (E : XK), RoomG k (A.deeper (envOfC qual (defScope st) s.heap.objs.size f cdv)) → sp vs H Q E →
      ∃ t, PSs (cxOf CX P w K mg base N qual (defScope st) f cdv A outer s H E) (defBody st) t ∧ t { nx := fun _ H' => Q .non H', rt := Q } (L2.start N vs) H) : FnOkG P w K mg base CX (k + 1) f fd ps sp := by
  (obtain ⟨oc, od, kV, doc, pm, an, cdv, ct, osl, rfl, lk, hcd⟩ := F.ex)
  (refine ⟨len, fun A outer s H args us vs Q E hr e0 hb r hsp => ?_⟩)
  (have KX : K.In s.heap := e0.mod.kin.keeps fun b o e => (e0.bs b o e).1)
  have hkind : ∀ y ∈ ps.zip us, (defScope st).names.lookup y.1 = some .local ∨ ((defScope st).names.lookup y.1 = some .cell ∧ ((cellsFrom (s.heap.objs.size + 1) (defScope st).names []).lookup y.1).isSome = true) := fun y hy =>
    (S.par y.1 (List.of_mem_zip (a := y.1) (b := y.2) hy).1).imp id fun q => ⟨q, PySem.W.cellsFrom_some _ _ _ (.inl q)⟩
  refine codeAny_call_function hr.r.depth (KX _ _ lk) rfl S.co S.gen rfl (PySem.W.codeRec_of KX hcd) (hb _ _ _ _ (wpAny_newFunctionEnv_cells S.kind hkind fun env he s1 y => ?_))
  subst he
  refine ⟨(e0.mod.nolimit.keeps fun b o e => (e0.bs b o e).1).keeps y.toInCall.keep, codeAny_func ?_⟩
  obtain ⟨t, ht, hq⟩ := hbody cdv A outer s H vs Q E (hr.deeper _) hsp
  refine wpAny_mono (ht.run [] s1 (L2.start N vs) H _ (inv_start S hr.r.hd e0 (len _ _ _ _ hsp) r y) hq) (fun fl s' hs => ?_) fun e s' hs => hs
  cases fl with
  | ret u => obtain ⟨v, σ', H', J, rv, q⟩ := hs; exact ⟨v, H', J.os, J.bare, J.base, J.hok, rv, q⟩
  | next => obtain ⟨σ', H', J, q⟩ := hs; exact ⟨.non, H', J.os, J.bare, J.base, J.hok, rfl, q⟩
  | brk => exact False.elim hs.choose_spec.choose_spec.2
  | cont => exact False.elim hs.choose_spec.choose_spec.2
end
end GL
end

-- G4
section
namespace GL
open PyProof.Rows PySem PySem.Spec L2

/-! ### a def's contract -/
/-- what is wanted of an exception: its class, its value -/
abbrev GE := Str → D → Store → Prop
abbrev GSp := List D → Store → GQ → GE → Prop
structure Fn where
  ps : List Str
  kl : List (Nat × List Str)
  c : GSp
/-- the defs and the constants of the module -/
structure Tb where
  fn : Str → Option Fn
  val : Str → Option D
  /-- kept in the instances of a class alone; a class's methods; how it is made -/
  cls : Str → Str → Bool := fun _ _ => false
  mt : Str → Str → Option Fn := fun _ _ => none
  nw : Str → Option Fn := fun _ => none
abbrev XW := Str → D → Ev → Store → Prop

/-- positional and keyword arguments in the parameters' order -/
def ordL {α : Type} (z : α) (n : Nat) (ps ks : List Str) (us ws : List α) : List α :=
  if us.length = n ∧ ws.length = ks.length then us ++ (ps.drop n).map (fun p => ((ks.zip ws).lookup p).getD z) else []

def liftSp (M : Md) (ps : List Str) (c : GSp) : Sp := fun vs H Q _ => vs.length = ps.length ∧ ∃ ds S G E, Rps M H ds vs ∧ RS M H S ∧ c ds S G E ∧ LQ M H G Q ∧ ∀ n d S', ¬ E n d S'
/-- a def as the text has it, called at the room that is left -/
structure FnG (X : Cx) (f : Str) (F : Fn) : Prop where
  ex : ∃ (fa : Addr) (fd : FuncData) (k : Nat), X.mg f = some (.ref fa) ∧ PySem.W.keepIn X.K (.ref fa) = true ∧ Binds X.K fd F.ps [] ∧
    (∀ n ks, (n, ks) ∈ F.kl → KBinds X.K fd F.ps ks (ordL Value.none n F.ps ks) (ordL V.non n F.ps ks)) ∧
    FnOkG X.prog X.w X.K X.mg X.base CX0 k fa fd F.ps (liftSp (md X) F.ps F.c) ∧ RoomG k X.A

section
variable {X : Cx} {f x : Str} {F : Fn} {e : Expr} {es : List Expr} {gs gz : WA} {p pos : Pos} {W : XW} {kws : List Keyword}
def wCall (F : Fn) (W : XW) (gs : WA) : WE := fun ρ S Q => gs ρ S fun ds S1 => ds.length = F.ps.length ∧ F.c ds S1 Q (fun n d S' => W n d ρ S')
def wCallK (F : Fn) (W : XW) (n : Nat) (gs : WA) (ks : List Str) (gz : WA) : WE := fun ρ S Q => (n, ks) ∈ F.kl ∧ gs ρ S fun us S1 => gz ρ S1 fun zs S2 => (ordL D.non n F.ps ks us zs).length = F.ps.length ∧ F.c (ordL D.non n F.ps ks us zs) S2 Q (fun n d S' => W n d ρ S')
theorem je_call (hF : FnG X x F) (hW : ∀ n d ρ S, ¬ W n d ρ S) (hg : Gl X x) (ha : JA X (e :: es) gs) (hdb : (x == ("__debug__" : Str)) = false)
    (he : starEach (e :: es) X.env = (false, eval e X.env) :: starEach es X.env) (hpl : (backTo pos (starEach es X.env)).any (·.1) = false) : JE X (.Call (.Name x p) (e :: es) [] pos) (wCall F W gs) := by
  obtain ⟨fa, fd, k, hm, hk, hb, _, ok, hr⟩ := hF.ex
  refine PE.imp (pe_callG ok hr hg hm hk hb .nil pass0 ha hdb he hpl) fun σ H Q ⟨ρ, S, G, re, rs, h, k⟩ => liftA.then re rs h fun ds S1 xs H1 k1 r1 s1 h1 => ?_
  rw [List.append_nil]
  exact ⟨by rw [← r1.length]; exact h1.1, ds, S1, G, _, r1, s1, h1.2, k.mono k1, fun n d S' => hW n d ρ S'⟩
theorem je_call0 (hF : FnG X x F) (hW : ∀ n d ρ S, ¬ W n d ρ S) (hg : Gl X x) (hdb : (x == ("__debug__" : Str)) = false) : JE X (.Call (.Name x p) [] [] pos) (wCall F W wNil) := by
  obtain ⟨fa, fd, k, hm, hk, hb, _, ok, hr⟩ := hF.ex
  refine PE.imp (pe_call0G ok hr hg hm hk hb .nil pass0 hdb) fun σ H Q ⟨ρ, S, G, re, rs, h, k⟩ => ?_
  exact ⟨by rw [← h.1]; rfl, [], S, G, _, Rps.nil, rs, h.2, k, fun n d S' => hW n d ρ S'⟩
/-- f(e, ..), f a name of the def's own that holds a def -/
theorem je_callv {FN : Str → Option Fn} {i : Nat} (hf : PE X (.Name x p) (tVar i)) (hfn : ∀ f F, FN f = some F → FnG X f F) (hW : ∀ n d ρ S, ¬ W n d ρ S) (ha : JA X (e :: es) gs) (he : starEach (e :: es) X.env = (false, eval e X.env) :: starEach es X.env) (hpl : (backTo pos (starEach es X.env)).any (·.1) = false) :
    JE X (.Call (.Name x p) (e :: es) [] pos) (fun ρ S Q => ∃ f F, ρ[i]? = some (some (.glo f)) ∧ FN f = some F ∧ wCall F W gs ρ S Q) := by
  refine ⟨fun pins s σ H Q I q0 => ?_⟩
  obtain ⟨ρ, S, G, re, rs, ⟨f, F, hi, hF, h⟩, k⟩ := q0
  obtain ⟨fa, fd, n, hm, hk, hb, _, ok, hr⟩ := (hfn f F hF).ex
  obtain ⟨v, hv, rv⟩ := re.2 i _ hi
  simp only [Rp] at rv
  obtain ⟨fa', hm', rfl⟩ := rv
  have ef : fa' = fa := by
    have z : some (Value.ref fa') = some (Value.ref fa) := hm'.symm.trans hm
    injection z with z
    injection z
  subst ef
  refine wpAny_Call_Name_kw (thn (hf.run pins s σ H (fun v H' => v = .ref fa' ∧ H' = H) I ⟨_, hv, rfl, rfl⟩) fun u s0 ⟨v, H0, I0, r0, e1, e2⟩ => ?_)
  subst e1 e2
  obtain rfl : u = Value.ref fa' := r0
  refine PySem.W.callWith_K (h₀ := X.base) I0.ok.mod.kin hk (thn (ha.run pos pins s0 σ _ (fun vs H1 => liftSp (md X) F.ps F.c (vs ++ []) H1 Q fun _ _ _ => False) I0 (liftA.then re rs h fun ds S1 xs H1 k1 r1 s1 h1 => ?_)) fun us s1 ⟨vs, H1, I1, r, q⟩ => ⟨I1.kIn, run_fnG (ds := []) (dvs := []) ok hr hb .nil pass0 I1 r q⟩) he hpl
  rw [List.append_nil]
  exact ⟨by rw [← r1.length]; exact h1.1, ds, S1, G, _, r1, s1, h1.2, k.mono k1, fun n d S' => hW n d ρ S'⟩
abbrev JK (X : Cx) (kws : List Keyword) (g : WA) : Prop := PK X kws (liftA (md X) g)
theorem PK.imp {t t' : TA} (h : PK X kws t) (i : ∀ σ H Q, t' σ H Q → t σ H Q) : PK X kws t' := ⟨fun pos pins s σ H Q I w => h.run pos pins s σ H Q I (i σ H Q w)⟩
theorem jk_nil : JK X [] wNil := PK.imp pk_nil fun σ H Q ⟨ρ, S, G, re, rs, h, k⟩ => k _ S _ H (Keep.refl H) Rps.nil rs h
theorem jk_cons {ga : WE} {nm : Option Str} {kpos : Pos} (ha : JE X e ga) (hr : JK X kws gz) : JK X (⟨nm, e, kpos⟩ :: kws) (wCons ga gz) :=
  PK.imp (pk_cons ha hr) fun σ H Q ⟨ρ, S, G, re, rs, h, k⟩ => liftE.then re rs h fun d S1 x H1 k1 r1 s1 h1 => liftA.then (re.mono k1) s1 h1 fun ds S2 xs H2 k2 r2 s2 h2 => k _ S2 _ H2 (k1.trans k2) (Rps.cons (r1.mono k2) r2) s2 h2
theorem Rps.lookup {M : Md} {H : Hp} : ∀ {ks : List Str} {ds : List D} {vs : List V} {p : Str}, Rps M H ds vs → Rp M H (((ks.zip ds).lookup p).getD D.non) (((ks.zip vs).lookup p).getD V.non)
  | [], _, _, _, _ => by simp only [List.zip_nil_left, List.lookup_nil, Option.getD_none, Rp]
  | k :: ks, [], vs, p, h => by rw [Rps.nil' h]; simp only [List.zip_nil_right, List.lookup_nil, Option.getD_none, Rp]
  | k :: ks, d :: ds, vs, p, h => by
    obtain ⟨v, r, rfl, h1, h2⟩ := h.cons'
    simp only [List.zip_cons_cons, List.lookup_cons]
    split
    · exact h1
    · exact Rps.lookup h2
theorem Rps.ord {M : Md} {H : Hp} {n : Nat} {ps ks : List Str} {ds es : List D} {vs ws : List V} (h : Rps M H ds vs) (k : Rps M H es ws) : Rps M H (ordL D.non n ps ks ds es) (ordL V.non n ps ks vs ws) := by
  unfold ordL
  rw [h.length, k.length]
  split
  · refine h.append ?_
    generalize ps.drop n = qs
    induction qs with
    | nil => exact Rps.nil
    | cons q qs ih => exact Rps.cons k.lookup ih
  · exact Rps.nil
theorem je_callK {ks : List Str} {n : Nat} (hF : FnG X x F) (hW : ∀ n d ρ S, ¬ W n d ρ S) (hg : Gl X x) (ha : JA X (e :: es) gs) (hz : JK X kws gz) (hdb : (x == ("__debug__" : Str)) = false)
    (hall : (backToKw pos (keywordEach kws X.env)).all (·.1.isSome) = true) (hks : (backToKw pos (keywordEach kws X.env)).filterMap (·.1) = ks)
    (he : starEach (e :: es) X.env = (false, eval e X.env) :: starEach es X.env) (hpl : ((backTo pos (starEach (e :: es) X.env)).any (·.1) || (backToKw pos (keywordEach kws X.env)).any (·.1.isNone)) = false) :
    JE X (.Call (.Name x p) (e :: es) kws pos) (wCallK F W n gs ks gz) := by
  obtain ⟨fa, fd, k, hm, hk, _, hb, ok, hr⟩ := hF.ex
  (refine ⟨fun pins s σ H Q I hq => ?_⟩)
  obtain ⟨ρ, S, G, re, rs, ⟨hnk, h⟩, k⟩ := hq
  refine (pe_callKG ok hr hg hm hk (hb n ks hnk) pass0 ha hz hall hks hdb he hpl).run pins s σ H Q I ?_
  refine liftA.then re rs h fun ds S1 xs H1 k1 r1 s1 h1 => liftA.then (re.mono k1) s1 h1 fun es' S2 ys H2 k2 r2 s2 h2 => ?_
  have ro := (r1.mono k2).ord (n := n) (ps := F.ps) (ks := ks) r2
  exact ⟨by rw [← ro.length]; exact h2.1, _, S2, G, _, ro, s2, h2.2, k.mono (k1.trans k2), fun n d S' => hW n d ρ S'⟩
theorem je_callK0 {ks : List Str} {n : Nat} (hF : FnG X x F) (hW : ∀ n d ρ S, ¬ W n d ρ S) (hg : Gl X x) (hz : JK X kws gz) (hdb : (x == ("__debug__" : Str)) = false)
    (hall : (backToKw pos (keywordEach kws X.env)).all (·.1.isSome) = true) (hks : (backToKw pos (keywordEach kws X.env)).filterMap (·.1) = ks)
    (hpl : ((backTo pos (starEach [] X.env)).any (·.1) || (backToKw pos (keywordEach kws X.env)).any (·.1.isNone)) = false) :
    JE X (.Call (.Name x p) [] kws pos) (wCallK F W n wNil ks gz) := by
  obtain ⟨fa, fd, k, hm, hk, _, hb, ok, hr⟩ := hF.ex
  (refine ⟨fun pins s σ H Q I hq => ?_⟩)
  obtain ⟨ρ, S, G, re, rs, ⟨hnk, h⟩, k⟩ := hq
  refine (pe_callK0G ok hr hg hm hk (hb n ks hnk) pass0 hz hall hks hdb hpl).run pins s σ H Q I ?_
  refine liftA.then re rs h fun es' S2 ys H2 k2 r2 s2 h2 => ?_
  have ro := (Rps.nil (M := md X) (H := H2)).ord (n := n) (ps := F.ps) (ks := ks) r2
  exact ⟨by rw [← ro.length]; exact h2.1, _, S2, G, _, ro, s2, h2.2, k.mono k2, fun n d S' => hW n d ρ S'⟩

/-! ### list comprehensions by their parts -/
theorem je_lc {elt tg iter : Expr} {ifs : List Expr} {scope : Scope} {own : List (Str × Nat)} {wi : WI} {ts : List Nat} {g : WG} {tt : WT} {te : WE} (hts : ∀ i ∈ ts, i ∈ own.map (·.2)) (hc : X.calm = true) (hN : X.N.Nodup) (hi : JI X tg iter wi) (ok : BlkOk X.N X.env.scope scope own)
    (hg : ∀ (s : Shared) (H : Hp) (C : Addr) (cl : List (Str × Addr)) (fp : List Addr), JG (X.blk s H scope (compEnvC scope cl C X.env) fp) tg ts g) (ht : ∀ (s : Shared) (H : Hp) (C : Addr) (cl : List (Str × Addr)) (fp : List Addr), PTs (X.blk s H scope (compEnvC scope cl C X.env) fp) ifs (liftT (md X) tt))
    (he : ∀ (s : Shared) (H : Hp) (C : Addr) (cl : List (Str × Addr)) (fp : List Addr), JE (X.blk s H scope (compEnvC scope cl C X.env) fp) elt te) (hs : ∀ x, foldedSetIterable iter X.env x = pure x) :
    JE X (.ListComp elt [⟨tg, iter, ifs, 0⟩] scope pos) (wLc wi g tt te (own.map (·.2))) :=
  PE.imp (pe_lc hc hN hi ok hg ht he hs) fun σ H Q ⟨ρ, S, G, re, rs, h, k⟩ => lift_lc hts re rs h k
theorem js_setLc {i : Nat} {y : Str} {py spos : Pos} {elt tg iter : Expr} {ifs : List Expr} {scope : Scope} {own : List (Str × Nat)} {wi : WI} {ts : List Nat} {g : WG} {tt : WT} {te : WE} (hts : ∀ i ∈ ts, i ∈ own.map (·.2)) (hc : X.calm = true) (hN : X.N.Nodup) (hy : X.N[i]? = some y) (hyl : X.env.scope.names.lookup y = some .local)
    (hsw : swapsWith (.ListComp elt [⟨tg, iter, ifs, 0⟩] scope pos) (some (.Name y py)) spos.line X.env = pure true) (hi : JI X tg iter wi) (ok : BlkOk X.N X.env.scope scope own)
    (hg : ∀ (s : Shared) (H : Hp) (C : Addr) (cl : List (Str × Addr)) (fp : List Addr), JG (X.blk s H scope (compEnvC scope cl C X.env) fp) tg ts g) (ht : ∀ (s : Shared) (H : Hp) (C : Addr) (cl : List (Str × Addr)) (fp : List Addr), PTs (X.blk s H scope (compEnvC scope cl C X.env) fp) ifs (liftT (md X) tt))
    (he : ∀ (s : Shared) (H : Hp) (C : Addr) (cl : List (Str × Addr)) (fp : List Addr), JE (X.blk s H scope (compEnvC scope cl C X.env) fp) elt te) (hs : ∀ x, foldedSetIterable iter X.env x = pure x) :
    JS X (.Assign [.Name y py] (.ListComp elt [⟨tg, iter, ifs, 0⟩] scope pos) spos) (wAsg (wLc wi g tt te (own.map (·.2))) (wgName i)) :=
  PS.imp (ps_setLc hc hN hy hyl hsw hi ok hg ht he hs) fun E σ H ⟨ρ, S, G, re, rs, h, k⟩ => lift_lc hts re rs h fun d S1 x H1 k1 r1 s1 h1 => k.nx _ S1 _ H1 k1 ((re.mono k1).set r1 i) s1 h1
end
end GL
end

-- G5
section
namespace GL
open PyProof.Rows PySem PySem.Spec L2

/-! ### == -/
/-- how a value is looked at -/
inductive Vw where
  | sc | seq (l : Bool) (ds : List D) | oth
def vw (S : Store) : D → Vw
  | .non => .sc
  | .bl _ => .sc
  | .int _ => .sc
  | .str _ => .sc
  | .tup ds => .seq false ds
  | .wtup _ => .oth
  | .frl ds => .seq true ds
  | .ref a => match S a with
    | some (.lst ds) => .seq true ds
    | _ => .oth
  | .ty _ => .oth
  | .glo _ => .oth
def eqS : D → D → Bool
  | .non, .non => true
  | .bl a, .bl b => a == b
  | .bl a, .int b => ((if a then 1 else 0) == b)
  | .int a, .bl b => (a == (if b then 1 else 0))
  | .int a, .int b => a == b
  | .str a, .str b => a == b
  | _, _ => false
def sameRef : D → D → Bool
  | .ref a, .ref b => a == b
  | _, _ => false
/-- one level, with what the items say -/
def eqT (f : D → D → Option Bool) (S : Store) (a b : D) : Option Bool :=
  match vw S a, vw S b with
  | .sc, .sc => some (eqS a b)
  | .sc, .seq _ _ => some false
  | .seq _ _, .sc => some false
  | .seq l xs, .seq l' ys =>
    if l = l' then
      (if l = true ∧ xs.length ≠ ys.length then some false
      else ((xs.zip ys).mapM fun p => f p.1 p.2).map fun bs => bs.all id && xs.length == ys.length)
    else some false
  | _, _ => none
def eqF (S : Store) : Nat → D → D → Option Bool
  | 0, _, _ => none
  | n + 1, a, b => if sameRef a b = true then some true else eqT (eqF S n) S a b

theorem mapM_get {α : Type} {f : α → Option Bool} : ∀ {l : List α} {bs : List Bool}, l.mapM f = some bs → bs.length = l.length ∧ ∀ (i : Nat) (x : α), l[i]? = some x → ∃ b, f x = some b ∧ bs[i]? = some b
  | [], bs, h => by
    simp only [List.mapM_nil] at h
    cases h
    exact ⟨rfl, fun i x e => by simp at e⟩
  | x :: l, bs, h => by
    rw [List.mapM_cons] at h
    cases e : f x with
    | none => (rw [e] at h; cases h)
    | some b =>
      rw [e] at h
      cases e2 : l.mapM f with
      | none => rw [e2] at h; cases h
      | some cs =>
        rw [e2] at h
        cases h
        obtain ⟨h1, h2⟩ := mapM_get e2
        refine ⟨by simp [h1], fun i y hy => ?_⟩
        cases i with
        | zero => simp at hy; subst hy; exact ⟨b, e, by simp⟩
        | succ i => simpa using h2 i y (by simpa using hy)
theorem all_range_of {bs : List Bool} {n : Nat} (h : bs.length = n) : (List.range n).all (fun i => bs.getD i false) = bs.all id := by
  rw [← h]; exact all_range bs

section
variable {X : Cx} {pins : List (Addr × Obj)} {σ : L2.St} {H : Hp} {s : Shared} {S : Store}
/-- what a value looks like in the heap -/
theorem vw_seq (I : Inv X pins σ H s) (rs : RS (md X) H S) {d : D} {x : V} {v : Value} {l : Bool} {ds : List D} (r : Rp (md X) H d x) (rv : L2.RelV x v) (h : vw S d = .seq l ds) :
    ∃ (a : Addr) (xs : List V) (its : List Value), v = .ref a ∧ Rps (md X) H ds xs ∧ Vals xs its ∧ (if l = true then s.heap.IsList a its.toArray else s.heap.IsTuple a its.toArray) ∧ x = .ref a ∧ (if l = true then SqL X.K H a xs else SqT X.K H a xs) := by
  cases d with
  | tup es =>
    simp only [vw] at h
    injection h with h1 h2
    subst h1; subst h2
    simp only [Rp] at r
    obtain ⟨a, xs, rfl, q, t⟩ := r
    have q := q.sqt
    obtain ⟨its, r1, r2, _⟩ := I.tuple q
    cases rv
    exact ⟨a, xs, its, rfl, t, r1, by rw [if_neg (by decide)]; exact r2, rfl, by rw [if_neg (by decide)]; exact q⟩
  | frl es =>
    simp only [vw] at h
    injection h with h1 h2
    subst h1; subst h2
    simp only [Rp] at r
    obtain ⟨a, xs, rfl, q, t⟩ := r
    obtain ⟨its, r1, r2, _⟩ := I.list q.sql
    cases rv
    obtain ⟨o, n, e1, e2, e3, e4⟩ := r2
    exact ⟨a, xs, its, rfl, t, r1, by rw [if_pos rfl]; exact ⟨o, e1, e2, n, e4⟩, rfl, by rw [if_pos rfl]; exact q.sql⟩
  | ref a =>
    simp only [vw] at h
    simp only [Rp] at r
    subst r
    split at h
    · rename_i es e
      injection h with h1 h2
      subst h1; subst h2
      obtain ⟨xs, hx, t⟩ := rs a _ e
      obtain ⟨its, r1, r2, _⟩ := I.list (SqL.of hx)
      cases rv
      obtain ⟨o, n, e1, e2, e3, e4⟩ := r2
      exact ⟨a, xs, its, rfl, t, r1, by rw [if_pos rfl]; exact ⟨o, e1, e2, n, e4⟩, rfl, by rw [if_pos rfl]; exact SqL.of hx⟩
    · cases h
  | wtup _ => cases h
  | non => cases h
  | bl _ => cases h
  | int _ => cases h
  | str _ => cases h
  | ty _ => cases h
  | glo _ => cases h
theorem vw_sc {d : D} (h : vw S d = .sc) : d = .non ∨ (∃ b, d = .bl b) ∨ (∃ i, d = .int i) ∨ ∃ x, d = .str x := by
  cases d with
  | non => exact .inl rfl
  | bl b => exact .inr (.inl ⟨b, rfl⟩)
  | int i => (exact .inr (.inr (.inl ⟨i, rfl⟩)))
  | str x => exact .inr (.inr (.inr ⟨x, rfl⟩))
  | tup es => cases h
  | wtup es => cases h
  | frl es => cases h
  | ref a => simp only [vw] at h; split at h <;> cases h
  | ty _ => cases h
  | glo _ => cases h
theorem eqS_at {A : Around} {d e : D} {x y : V} {v u : Value} (hd : vw S d = .sc) (he : vw S e = .sc) (r : Rp (md X) H d x) (r' : Rp (md X) H e y) (rv : L2.RelV x v) (ru : L2.RelV y u) : SeqAt.EqAt A s v u (eqS d e) := by
  rcases vw_sc hd with rfl | ⟨b, rfl⟩ | ⟨i, rfl⟩ | ⟨z, rfl⟩ <;> rcases vw_sc he with rfl | ⟨b', rfl⟩ | ⟨j, rfl⟩ | ⟨z', rfl⟩ <;> simp only [Rp] at r r' <;> subst r <;> subst r' <;> simp only [L2.RelV] at rv ru
  · subst rv; subst ru; exact .same _
  · subst rv; subst ru; exact .none_bool _
  · obtain ⟨t, rfl⟩ := ru; subst rv; exact .none_int _ _
  · obtain ⟨t, rfl⟩ := ru; subst rv; exact .none_str _ _
  · subst rv; subst ru; exact .bool_none _
  · subst rv; subst ru; exact .bool_bool _ _
  · obtain ⟨t, rfl⟩ := ru; subst rv; exact .bool_int _ _ _
  · obtain ⟨t, rfl⟩ := ru; subst rv; exact .bool_str _ _ _
  · obtain ⟨t, rfl⟩ := rv; subst ru; exact .int_none _ _
  · obtain ⟨t, rfl⟩ := rv; subst ru; exact .int_bool _ _ _
  · obtain ⟨t, rfl⟩ := rv; obtain ⟨t', rfl⟩ := ru; exact .int_int _ _ _ _
  · obtain ⟨t, rfl⟩ := rv; obtain ⟨t', rfl⟩ := ru; exact .int_str _ _ _ _
  · obtain ⟨t, rfl⟩ := rv; subst ru; exact .str_none _ _
  · obtain ⟨t, rfl⟩ := rv; subst ru; exact .str_bool _ _ _
  · obtain ⟨t, rfl⟩ := rv; obtain ⟨t', rfl⟩ := ru; exact .str_int _ _ _ _
  · obtain ⟨t, rfl⟩ := rv; obtain ⟨t', rfl⟩ := ru; exact .str_str _ _ _ _
theorem not_list_tuple {h : Heap} {a : Addr} {is js : Array Value} (hl : h.IsList a is) (ht : h.IsTuple a js) : False := by
  obtain ⟨o, e, c, _⟩ := hl
  obtain ⟨o', e', c', _⟩ := ht
  rw [e] at e'; cases e'
  rw [c] at c'; injection c' with z; exact absurd z (by decide)
theorem eqF_same (I : Inv X pins σ H s) (rs : RS (md X) H S) : ∀ (n : Nat) (d e : D) (x : V) (b : Bool), Rp (md X) H d x → Rp (md X) H e x → eqF S n d e = some b → b = true
  | 0, _, _, _, _, _, _, h => (by cases h)
  | n + 1, d, e, x, b, r, r', h => by
    unfold eqF at h
    split at h
    · cases h; rfl
    · unfold eqT at h
      split at h
      · rename_i h1 h2
        cases h
        rcases vw_sc h1 with rfl | ⟨b, rfl⟩ | ⟨i, rfl⟩ | ⟨z, rfl⟩ <;> rcases vw_sc h2 with rfl | ⟨b', rfl⟩ | ⟨j, rfl⟩ | ⟨z', rfl⟩ <;> simp only [Rp] at r r' <;> subst r <;> first | (cases r'; done) | (cases r'; simp [eqS])
      · rename_i l ds h1 h2
        exfalso
        have hv : ∃ v, L2.RelV x v := by
          rcases vw_sc h1 with rfl | ⟨b, rfl⟩ | ⟨i, rfl⟩ | ⟨z, rfl⟩ <;> simp only [Rp] at r <;> subst r <;> exact ⟨_, by first | exact rfl | exact ⟨0, rfl⟩⟩
        obtain ⟨v, rv⟩ := hv
        obtain ⟨a, xs, its, rfl, t, rt, hl, rfl, _⟩ := vw_seq I rs r' rv h2
        rcases vw_sc h1 with rfl | ⟨b, rfl⟩ | ⟨i, rfl⟩ | ⟨z, rfl⟩ <;> simp only [Rp] at r <;> cases r
      · rename_i l ds h1 h2
        exfalso
        have hv : ∃ v, L2.RelV x v := by
          rcases vw_sc h2 with rfl | ⟨b, rfl⟩ | ⟨i, rfl⟩ | ⟨z, rfl⟩ <;> simp only [Rp] at r' <;> subst r' <;> exact ⟨_, by first | exact rfl | exact ⟨0, rfl⟩⟩
        obtain ⟨v, rv⟩ := hv
        obtain ⟨a, xs, its, rfl, t, rt, hl, rfl, _⟩ := vw_seq I rs r rv h1
        rcases vw_sc h2 with rfl | ⟨b, rfl⟩ | ⟨i, rfl⟩ | ⟨z, rfl⟩ <;> simp only [Rp] at r' <;> cases r'
      · rename_i l ds l' es h1 h2
        have hv : ∃ a, x = .ref a := by
          cases d with
          | tup _ => simp only [Rp] at r; obtain ⟨a, _, e, _⟩ := r; exact ⟨a, e⟩
          | frl _ => simp only [Rp] at r; obtain ⟨a, _, e, _⟩ := r; exact ⟨a, e⟩
          | ref a => simp only [Rp] at r; exact ⟨a, r⟩
          | _ => cases h1
        obtain ⟨a, rfl⟩ := hv
        obtain ⟨a1, xs, its, e1, t, rt, hl, e2, sq⟩ := vw_seq I rs r (v := .ref a) rfl h1
        obtain ⟨a2, ys, its', e3, t', rt', hl', e4, sq'⟩ := vw_seq I rs r' (v := .ref a) rfl h2
        cases e2; cases e4
        have hll : l = l' := by
          cases l <;> cases l' <;> first | rfl | skip
          · rw [if_neg (by decide)] at hl; rw [if_pos rfl] at hl'; exact (not_list_tuple hl' hl).elim
          · rw [if_pos rfl] at hl; rw [if_neg (by decide)] at hl'; exact (not_list_tuple hl hl').elim
        subst hll
        have hxy : xs = ys := by
          cases l
          · rw [if_neg (by decide)] at sq sq'; exact I.tuple_inj sq sq'
          · rw [if_pos rfl] at sq sq'; exact I.list_inj sq sq'
        subst hxy
        have hlen : ds.length = es.length := by rw [t.length, t'.length]
        rw [if_pos rfl, if_neg (fun z => z.2 hlen)] at h
        cases hm : (ds.zip es).mapM (fun p => eqF S n p.1 p.2) with
        | none => (rw [hm] at h; cases h)
        | some bs =>
          rw [hm] at h
          simp only [Option.map_some, Option.some.injEq] at h
          obtain ⟨hbl, hbs⟩ := mapM_get hm
          have : bs.all id = true := by
            rw [List.all_eq_true]
            intro c hc
            obtain ⟨j, hj, ej⟩ := List.getElem_of_mem hc
            have hj' : j < ds.length := by rw [hbl, List.length_zip] at hj; omega
            have e1 : ds[j]? = some ds[j] := List.getElem?_eq_getElem hj'
            have e2 : es[j]? = some (es[j]'(by omega)) := List.getElem?_eq_getElem (by omega)
            obtain ⟨vx, hx, rx⟩ := t.get e1
            obtain ⟨vy, hy, ry⟩ := t'.get e2
            rw [hx] at hy; cases hy
            obtain ⟨b', hb', hg⟩ := hbs j (ds[j], es[j]'(by omega)) (by rw [List.getElem?_zip_eq_some]; exact ⟨e1, e2⟩)
            rw [List.getElem?_eq_getElem hj, ej] at hg
            cases hg
            exact eqF_same I rs n _ _ _ _ rx ry hb'
          rw [← h, this, hlen]
          simp
      · cases h

theorem eqS_rc {A : Around} {d e : D} {x y : V} {v u : Value} (hd : vw S d = .sc) (he : vw S e = .sc) (r : Rp (md X) H d x) (r' : Rp (md X) H e y) (rv : L2.RelV x v) (ru : L2.RelV y u) : SeqAt.RcAt A s v u (eqS d e) ∧ SeqAt.RcNeAt A s v u (!(eqS d e)) := by
  rcases vw_sc hd with rfl | ⟨b, rfl⟩ | ⟨i, rfl⟩ | ⟨z, rfl⟩ <;> rcases vw_sc he with rfl | ⟨b', rfl⟩ | ⟨j, rfl⟩ | ⟨z', rfl⟩ <;> simp only [Rp] at r r' <;> subst r <;> subst r' <;> simp only [L2.RelV] at rv ru
  · subst rv; subst ru; exact ⟨.none_none, .none_none⟩
  · subst rv; subst ru; exact ⟨.none_bool _, .none_bool _⟩
  · obtain ⟨t, rfl⟩ := ru; subst rv; exact ⟨.none_int _ _, .none_int _ _⟩
  · obtain ⟨t, rfl⟩ := ru; subst rv; exact ⟨.none_str _ _, .none_str _ _⟩
  · subst rv; subst ru; exact ⟨.bool_none _, .bool_none _⟩
  · subst rv; subst ru; exact ⟨.bool_bool _ _, .bool_bool _ _⟩
  · obtain ⟨t, rfl⟩ := ru; subst rv; exact ⟨.bool_int _ _ _, .bool_int _ _ _⟩
  · obtain ⟨t, rfl⟩ := ru; subst rv; exact ⟨.bool_str _ _ _, .bool_str _ _ _⟩
  · obtain ⟨t, rfl⟩ := rv; subst ru; exact ⟨.int_none _ _, .int_none _ _⟩
  · obtain ⟨t, rfl⟩ := rv; subst ru; exact ⟨.int_bool _ _ _, .int_bool _ _ _⟩
  · obtain ⟨t, rfl⟩ := rv; obtain ⟨t', rfl⟩ := ru; exact ⟨.int_int _ _ _ _, .int_int _ _ _ _⟩
  · obtain ⟨t, rfl⟩ := rv; obtain ⟨t', rfl⟩ := ru; exact ⟨.int_str _ _ _ _, .int_str _ _ _ _⟩
  · obtain ⟨t, rfl⟩ := rv; subst ru; exact ⟨.str_none _ _, .str_none _ _⟩
  · obtain ⟨t, rfl⟩ := rv; subst ru; exact ⟨.str_bool _ _ _, .str_bool _ _ _⟩
  · obtain ⟨t, rfl⟩ := rv; obtain ⟨t', rfl⟩ := ru; exact ⟨.str_int _ _ _ _, .str_int _ _ _ _⟩
  · obtain ⟨t, rfl⟩ := rv; obtain ⟨t', rfl⟩ := ru; exact ⟨.str_str _ _ _ _, .str_str _ _ _ _⟩
theorem in1_units (A : Around) : A.in1.units = A.units + 1 := rfl
/-- == and != at the top -/
theorem eqT_rc (I : Inv X pins σ H s) (rs : RS (md X) H S) {A : Around} {f : D → D → Option Bool} (hA : A.units < cLine)
    (hf : ∀ (d e : D) (x y : V) (v u : Value) (b : Bool), Rp (md X) H d x → Rp (md X) H e y → L2.RelV x v → L2.RelV y u → f d e = some b → SeqAt.EqAt A.in1 s v u b)
    {d e : D} {x y : V} {v u : Value} {b : Bool} (r : Rp (md X) H d x) (r' : Rp (md X) H e y) (rv : L2.RelV x v) (ru : L2.RelV y u) (h : eqT f S d e = some b) : SeqAt.RcAt A s v u b ∧ SeqAt.RcNeAt A s v u (!b) := by
  unfold eqT at h
  split at h
  · rename_i h1 h2
    cases h
    exact eqS_rc h1 h2 r r' rv ru
  · rename_i l ds h1 h2
    cases h
    obtain ⟨a, xs, its, rfl, t, rt, hl, _, _⟩ := vw_seq I rs r' ru h2
    rcases vw_sc h1 with rfl | ⟨b, rfl⟩ | ⟨i, rfl⟩ | ⟨z, rfl⟩ <;> simp only [Rp] at r <;> subst r <;> simp only [L2.RelV] at rv <;> cases l
    · subst rv; rw [if_neg (by decide)] at hl; exact ⟨.none_tuple hl hA, .none_tuple hl hA⟩
    · subst rv; rw [if_pos rfl] at hl; exact ⟨.none_list hl hA, .none_list hl hA⟩
    · subst rv; rw [if_neg (by decide)] at hl; exact ⟨.bool_tuple _ hl hA, .bool_tuple _ hl hA⟩
    · subst rv; rw [if_pos rfl] at hl; exact ⟨.bool_list _ hl hA, .bool_list _ hl hA⟩
    · obtain ⟨t, rfl⟩ := rv; rw [if_neg (by decide)] at hl; exact ⟨.int_tuple _ _ hl hA, .int_tuple _ _ hl hA⟩
    · obtain ⟨t, rfl⟩ := rv; rw [if_pos rfl] at hl; exact ⟨.int_list _ _ hl hA, .int_list _ _ hl hA⟩
    · obtain ⟨t, rfl⟩ := rv; rw [if_neg (by decide)] at hl; exact ⟨.str_tuple _ _ hl hA, .str_tuple _ _ hl hA⟩
    · obtain ⟨t, rfl⟩ := rv; rw [if_pos rfl] at hl; exact ⟨.str_list _ _ hl hA, .str_list _ _ hl hA⟩
  · rename_i l ds h1 h2
    cases h
    obtain ⟨a, xs, its, rfl, t, rt, hl, _, _⟩ := vw_seq I rs r rv h1
    rcases vw_sc h2 with rfl | ⟨b, rfl⟩ | ⟨i, rfl⟩ | ⟨z, rfl⟩ <;> simp only [Rp] at r' <;> subst r' <;> simp only [L2.RelV] at ru <;> cases l
    · subst ru; rw [if_neg (by decide)] at hl; exact ⟨.tuple_none hl hA, .tuple_none hl hA⟩
    · subst ru; rw [if_pos rfl] at hl; exact ⟨.list_none hl hA, .list_none hl hA⟩
    · subst ru; rw [if_neg (by decide)] at hl; exact ⟨.tuple_bool _ hl hA, .tuple_bool _ hl hA⟩
    · subst ru; rw [if_pos rfl] at hl; exact ⟨.list_bool _ hl hA, .list_bool _ hl hA⟩
    · obtain ⟨t, rfl⟩ := ru; rw [if_neg (by decide)] at hl; exact ⟨.tuple_int _ _ hl hA, .tuple_int _ _ hl hA⟩
    · obtain ⟨t, rfl⟩ := ru; rw [if_pos rfl] at hl; exact ⟨.list_int _ _ hl hA, .list_int _ _ hl hA⟩
    · obtain ⟨t, rfl⟩ := ru; rw [if_neg (by decide)] at hl; exact ⟨.tuple_str _ _ hl hA, .tuple_str _ _ hl hA⟩
    · obtain ⟨t, rfl⟩ := ru; rw [if_pos rfl] at hl; exact ⟨.list_str _ _ hl hA, .list_str _ _ hl hA⟩
  · rename_i l ds l' es h1 h2
    obtain ⟨a, xs, its, rfl, t, rt, hl, hxa, sq⟩ := vw_seq I rs r rv h1
    obtain ⟨c, ys, its', rfl, t', rt', hl', hyc, sq'⟩ := vw_seq I rs r' ru h2
    have len1 : its.length = ds.length := by rw [t.length, rt.length]
    have len2 : its'.length = es.length := by rw [t'.length, rt'.length]
    split at h
    · rename_i hll
      subst hll
      split at h
      · rename_i hz
        obtain ⟨rfl, hz⟩ := hz
        cases h
        rw [if_pos rfl] at hl hl'
        have hs : (its.toArray.size != its'.toArray.size) = true := by simpa [len1, len2] using hz
        exact ⟨.lists_lengths hl hl' hs hA, .lists_lengths hl hl' hs hA⟩
      · rename_i hz
        cases hm : (ds.zip es).mapM (fun p => f p.1 p.2) with
        | none => (rw [hm] at h; cases h)
        | some bs =>
          rw [hm] at h
          simp only [Option.map_some, Option.some.injEq] at h
          obtain ⟨hbl, hbs⟩ := mapM_get hm
          have items : ∀ j (h1 : j < its.toArray.size) (h2 : j < its'.toArray.size), SeqAt.EqAt A.in1 s its.toArray[j] its'.toArray[j] (bs.getD j false) := by
            intro j h1 h2
            have h1' : j < its.length := by simpa using h1
            have h2' : j < its'.length := by simpa using h2
            have e1 : ds[j]? = some (ds[j]'(by omega)) := List.getElem?_eq_getElem (by omega)
            have e2 : es[j]? = some (es[j]'(by omega)) := List.getElem?_eq_getElem (by omega)
            obtain ⟨vx, hx, rx⟩ := t.get e1
            obtain ⟨vy, hy, ry⟩ := t'.get e2
            obtain ⟨ux, hux, rux⟩ := Vals.get rt hx
            obtain ⟨uy, huy, ruy⟩ := Vals.get rt' hy
            have z1 : its.toArray[j] = ux := by
              have := List.getElem?_eq_getElem h1'
              rw [hux] at this
              simpa using (Option.some.inj this).symm
            have z2 : its'.toArray[j] = uy := by
              have := List.getElem?_eq_getElem h2'
              rw [huy] at this
              simpa using (Option.some.inj this).symm
            obtain ⟨b', hb', hg⟩ := hbs j (ds[j]'(by omega), es[j]'(by omega)) (by rw [List.getElem?_zip_eq_some]; exact ⟨e1, e2⟩)
            rw [z1, z2, show bs.getD j false = b' by rw [List.getD_eq_getElem?_getD, hg]; rfl]
            exact hf _ _ _ _ _ _ _ rx ry rux ruy hb'
          have hsz : bs.length = min ds.length es.length := by rw [hbl, List.length_zip]
          cases l with
          | true =>
            rw [if_pos rfl] at hl hl'
            have hq : ds.length = es.length := by
              by_cases q : ds.length = es.length
              · exact q
              · exact absurd ⟨rfl, q⟩ hz
            have rule := SeqAt.RcAt.lists (e := fun j => bs.getD j false) hl hl' (by simp [len1, len2, hq]) hA items
            have rule' := SeqAt.RcNeAt.lists (e := fun j => bs.getD j false) hl hl' (by simp [len1, len2, hq]) hA items
            have e3 : (List.range its.toArray.size).all (fun j => bs.getD j false) = b := by
              rw [← h, all_range_of (by simp [len1, hsz, hq])]
              simp [hq]
            rw [e3] at rule rule'
            exact ⟨rule, rule'⟩
          | false =>
            rw [if_neg (by decide)] at hl hl'
            have rule := SeqAt.RcAt.tuples (e := fun j => bs.getD j false) hl hl' hA items
            have rule' := SeqAt.RcNeAt.tuples (e := fun j => bs.getD j false) hl hl' hA items
            have e3 : ((List.range (min its.toArray.size its'.toArray.size)).all (fun j => bs.getD j false) && its.toArray.size == its'.toArray.size) = b := by
              rw [← h, all_range_of (by simp [len1, len2, hsz])]
              simp [len1, len2]
            rw [e3] at rule rule'
            exact ⟨rule, rule'⟩
    · rename_i hll
      cases h
      cases l <;> cases l'
      · exact absurd rfl hll
      · rw [if_neg (by decide)] at hl; rw [if_pos rfl] at hl'; exact ⟨.tuple_list hl hl' hA, .tuple_list hl hl' hA⟩
      · rw [if_pos rfl] at hl; rw [if_neg (by decide)] at hl'; exact ⟨.list_tuple hl hl' hA, .list_tuple hl hl' hA⟩
      · exact absurd rfl hll
  · cases h
theorem eqF_at (I : Inv X pins σ H s) (rs : RS (md X) H S) : ∀ (n : Nat) (A : Around) (d e : D) (x y : V) (v u : Value) (b : Bool), A.units + n < cLine → Rp (md X) H d x → Rp (md X) H e y → L2.RelV x v → L2.RelV y u → eqF S n d e = some b → SeqAt.EqAt A s v u b
  | 0, _, _, _, _, _, _, _, _, _, _, _, _, _, h => by cases h
  | n + 1, A, d, e, x, y, v, u, b, hu, r, r', rv, ru, h0 => by
    have hA : A.units < cLine := by omega
    have h := h0
    unfold eqF at h
    split at h
    · rename_i hs
      cases h
      cases d with
      | ref a =>
        cases e with
        | ref c =>
          have ha : a = c := by simpa [sameRef] using hs
          subst ha
          simp only [Rp] at r r'
          subst r; subst r'
          cases rv; cases ru
          exact .same _
        | _ => cases hs
      | _ => cases hs
    · have rc := (eqT_rc I rs hA (fun d e x y v u b => eqF_at I rs n A.in1 d e x y v u b (by rw [in1_units]; omega)) r r' rv ru h).1
      unfold eqT at h
      split at h
      · rename_i h1 h2
        cases h
        exact eqS_at h1 h2 r r' rv ru
      · rename_i l ds h1 h2
        cases h
        obtain ⟨a, xs, its, rfl, t, rt, hl, _, _⟩ := vw_seq I rs r' ru h2
        rcases vw_sc h1 with rfl | ⟨b, rfl⟩ | ⟨i, rfl⟩ | ⟨z, rfl⟩ <;> simp only [Rp] at r <;> subst r <;> simp only [L2.RelV] at rv <;> cases l
        · subst rv; rw [if_neg (by decide)] at hl; exact .none_tuple hl hA
        · subst rv; rw [if_pos rfl] at hl; exact .none_list hl hA
        · subst rv; rw [if_neg (by decide)] at hl; exact .bool_tuple _ hl hA
        · subst rv; rw [if_pos rfl] at hl; exact .bool_list _ hl hA
        · obtain ⟨t, rfl⟩ := rv; rw [if_neg (by decide)] at hl; exact .int_tuple _ _ hl hA
        · obtain ⟨t, rfl⟩ := rv; rw [if_pos rfl] at hl; exact .int_list _ _ hl hA
        · obtain ⟨t, rfl⟩ := rv; rw [if_neg (by decide)] at hl; exact .str_tuple _ _ hl hA
        · obtain ⟨t, rfl⟩ := rv; rw [if_pos rfl] at hl; exact .str_list _ _ hl hA
      · rename_i l ds h1 h2
        cases h
        obtain ⟨a, xs, its, rfl, t, rt, hl, _, _⟩ := vw_seq I rs r rv h1
        rcases vw_sc h2 with rfl | ⟨b, rfl⟩ | ⟨i, rfl⟩ | ⟨z, rfl⟩ <;> simp only [Rp] at r' <;> subst r' <;> simp only [L2.RelV] at ru <;> cases l
        · subst ru; rw [if_neg (by decide)] at hl; exact .tuple_none hl hA
        · subst ru; rw [if_pos rfl] at hl; exact .list_none hl hA
        · subst ru; rw [if_neg (by decide)] at hl; exact .tuple_bool _ hl hA
        · subst ru; rw [if_pos rfl] at hl; exact .list_bool _ hl hA
        · obtain ⟨t, rfl⟩ := ru; rw [if_neg (by decide)] at hl; exact .tuple_int _ _ hl hA
        · obtain ⟨t, rfl⟩ := ru; rw [if_pos rfl] at hl; exact .list_int _ _ hl hA
        · obtain ⟨t, rfl⟩ := ru; rw [if_neg (by decide)] at hl; exact .tuple_str _ _ hl hA
        · obtain ⟨t, rfl⟩ := ru; rw [if_pos rfl] at hl; exact .list_str _ _ hl hA
      · rename_i l ds l' es h1 h2
        obtain ⟨a, xs, its, rfl, t, rt, hl, hxa, sq⟩ := vw_seq I rs r rv h1
        obtain ⟨c, ys, its', rfl, t', rt', hl', hyc, sq'⟩ := vw_seq I rs r' ru h2
        by_cases hac : a = c
        · subst hac
          rw [eqF_same I rs (n + 1) d e x b r (by rw [hxa, ← hyc]; exact r') h0]
          exact .same _
        · exact .of_refs hac rc
      · cases h
end
end GL
end

-- G6
section
namespace GL
open PyProof.Rows PySem PySem.Spec L2

/-! ### operators by values -/
def binD (o : Operator) : G2 := fun a b S Q =>
  match o, a, b with
  | .Add, .int i, .int j => Q (.int (i + j)) S
  | .Add, .str x, .str y => x.length + y.length ≤ sizeLine ∧ Q (.str (x ++ y)) S
  | .Add, .tup xs, .tup ys => xs.length + ys.length ≤ sizeLine ∧ Q (.tup (xs ++ ys)) S
  | .Add, .ref p, .ref q => ∃ xs ys, S p = some (.lst xs) ∧ S q = some (.lst ys) ∧ xs.length + ys.length ≤ sizeLine ∧ wNew (.lst (xs ++ ys)) S Q
  | .Add, .bl b, .int j => Q (.int ((if b then 1 else 0) + j)) S
  | .Sub, .int i, .int j => Q (.int (i - j)) S
  | .Sub, .bl b, .int j => Q (.int ((if b then 1 else 0) - j)) S
  | .Mult, .str x, .int k => MulOk x k ∧ Q (.str (Txt.mul x k)) S
  | .Mult, .int i, .int j => CMul i j ∧ Q (.int (i * j)) S
  | .Mult, .ref p, .int k => ∃ xs, S p = some (.lst xs) ∧ 0 ≤ k ∧ k ≤ 1000 ∧ xs.length * k.toNat ≤ sizeLine ∧ wNew (.lst (List.replicate k.toNat xs).flatten) S Q
  | .FloorDiv, .int i, .int j => CDivW i j ∧ Q (.int (i / j)) S
  | .Mod, .int i, .int j => 0 < j ∧ Q (.int (i % j)) S
  | .Pow, .int i, .int j => CPow i j ∧ Q (.int (i ^ j.toNat)) S
  | _, _, _ => False
def isNon : D → Bool
  | .non => true
  | _ => false
def cmpD (o : CmpOp) : GC := fun a b S Q =>
  match o with
  | .Eq => ∃ r, eqT (eqF S 60) S a b = some r ∧ Q r S
  | .NotEq => ∃ r, eqT (eqF S 60) S a b = some r ∧ Q (!r) S
  | .Lt => match a, b with
    | .int i, .int j => Q (decide (i < j)) S
    | .str x, .str y => Q (decide (x.cps.toList < y.cps.toList)) S
    | .tup xs, .tup ys => ∃ ns ms, xs = ns.map D.int ∧ ys = ms.map D.int ∧ Q (HT.lexLt ns ms) S
    | _, _ => False
  | .LtE => match a, b with
    | .int i, .int j => Q (decide (i ≤ j)) S
    | _, _ => False
  | .Gt => match a, b with
    | .int i, .int j => Q (decide (j < i)) S
    | _, _ => False
  | .GtE => match a, b with
    | .int i, .int j => Q (decide (j ≤ i)) S
    | _, _ => False
  | .Is => match a, b with
    | x, .non => Q (isNon x) S
    | .bl x, .bl y => Q (decide (x = y)) S
    | _, _ => False
  | .IsNot => match a, b with
    | x, .non => Q (!isNon x) S
    | .bl x, .bl y => Q (!decide (x = y)) S
    | _, _ => False
  | .In => match a, b with
    | .str x, .str y => Q (!(Builtin.Str.occurrences y x 0 y.length 1).isEmpty) S
    | x, c => ∃ l ds bs, vw S c = .seq l ds ∧ ds.mapM (fun y => eqF S 60 y x) = some bs ∧ Q (bs.any id) S
  | .NotIn => match a, b with
    | .str x, .str y => Q (!(!(Builtin.Str.occurrences y x 0 y.length 1).isEmpty)) S
    | x, c => ∃ l ds bs, vw S c = .seq l ds ∧ ds.mapM (fun y => eqF S 60 y x) = some bs ∧ Q (!(bs.any id)) S
def negD : G1 := fun a S Q => match a with
  | .int i => Q (.int (-i)) S
  | .bl b => Q (.int (-(if b then 1 else 0))) S
  | _ => False

section
variable {X : Cx}
theorem lq {M : Md} {H : Hp} {G : GQ} {Q : VK} (k : LQ M H G Q) {d : D} {S : Store} {v : V} (r : Rp M H d v) (s : RS M H S) (g : G d S) : Q v H := k d S v H (Keep.refl H) r s g
theorem lqNew {M : Md} {H : Hp} {G : GQ} {Q : VK} (k : LQ M H G Q) {S : Store} {ds : List D} {xs : List V} (r : Rps M H ds xs) (s : RS M H S) (g : wNew (.lst ds) S G) {p : Addr} (np : H p = none) : Q (.ref p) (upd H p (.lst xs)) :=
  k _ _ _ _ (Keep.new np) (by simp only [Rp]) (s.put (c := .lst ds) (Keep.new np) ⟨xs, upd_same, r.mono (Keep.new np)⟩) (g p (s.fresh np))
theorem lqTup {M : Md} {H : Hp} {G : GQ} {Q : VK} (k : LQ M H G Q) {S : Store} {ds : List D} {xs : List V} (r : Rps M H ds xs) (s : RS M H S) (g : G (.tup ds) S) {p : Addr} {o : Obj} (np : H p = none) (no : o.dict = none) : Q (.ref p) (upd H p (.frz o (.tup xs))) :=
  k _ _ _ _ (Keep.new np) (by simp only [Rp]; exact ⟨p, xs, rfl, .inl ⟨o, upd_same, no⟩, r.mono (Keep.new np)⟩) (s.new np) g
theorem Rps.rep {M : Md} {H : Hp} {ds : List D} {vs : List V} (h : Rps M H ds vs) : ∀ n : Nat, Rps M H (List.replicate n ds).flatten (List.replicate n vs).flatten
  | 0 => Rps.nil
  | n + 1 => by rw [List.replicate_succ, List.replicate_succ, List.flatten_cons, List.flatten_cons]; exact h.append (Rps.rep h n)
theorem bin_ok (o : Operator) : OpG X (binaryOp o) (binD o) := by
  rintro pins s σ H x y v u Q I rv ru ⟨d, e, S, G, rd, re, rs, h, k⟩
  unfold binD at h
  split at h <;> (try simp only [Rp] at rd re)
  · subst rd; subst re; exact op_add pins s σ H _ _ v u Q I rv ru ⟨_, _, rfl, rfl, lq k (by simp only [Rp]) rs h⟩
  · subst rd; subst re; exact op_add_str pins s σ H _ _ v u Q I rv ru ⟨_, _, rfl, rfl, h.1, lq k (by simp only [Rp]) rs h.2⟩
  · rename_i xs ys
    obtain ⟨a, vs, rfl, q, t⟩ := rd
    obtain ⟨b, ws, rfl, q', t'⟩ := re
    have ee : Rps (md X) H (xs ++ ys) (vs ++ ws) := t.append t'
    refine op_catX pins s σ H _ _ v u Q I rv ru ⟨a, b, vs, ws, rfl, rfl, q.sqt, q'.sqt, by rw [← t.length, ← t'.length]; exact h.1, fun e => ?_, fun _ e => ?_, fun _ _ p o np no => lqTup k ee rs h.2 np no⟩
    · subst e; exact lq k (by simp only [Rp]; exact ⟨b, ws, rfl, q', ee⟩) rs h.2
    · subst e; rw [List.append_nil] at ee; exact lq k (by simp only [Rp]; exact ⟨a, vs, rfl, q, ee⟩) rs h.2
  · subst rd; subst re
    obtain ⟨xs, ys, e1, e2, hl, hn⟩ := h
    obtain ⟨vs, h1, t⟩ := rs _ _ e1
    obtain ⟨ws, h2, t'⟩ := rs _ _ e2
    exact op_cat pins s σ H _ _ v u Q I rv ru ⟨_, _, vs, ws, rfl, rfl, h1, h2, by rw [← t.length, ← t'.length]; exact hl, fun p np => lqNew k (t.append t') rs hn np⟩
  · subst rd; subst re
    cases rv; obtain ⟨t, rfl⟩ := ru
    exact PySem.IntBool.add_bool_int ⟨.int _, H, I.tok _, ⟨_, rfl⟩, lq k (by simp only [Rp]) rs h⟩
  · subst rd; subst re; exact op_sub pins s σ H _ _ v u Q I rv ru ⟨_, _, rfl, rfl, lq k (by simp only [Rp]) rs h⟩
  · subst rd; subst re
    cases rv; obtain ⟨t, rfl⟩ := ru
    exact PySem.IntBool.sub_bool_int ⟨.int _, H, I.tok _, ⟨_, rfl⟩, lq k (by simp only [Rp]) rs h⟩
  · subst rd; subst re
    obtain ⟨t, rfl⟩ := rv; obtain ⟨t', rfl⟩ := ru
    exact PySem.SB.mul h.1 fun t' k' => ⟨.str _, H, I.tok _, ⟨_, rfl⟩, lq k (by simp only [Rp]) rs h.2⟩
  · subst rd; subst re; exact op_mul pins s σ H _ _ v u Q I rv ru ⟨_, _, rfl, rfl, h.1, lq k (by simp only [Rp]) rs h.2⟩
  · subst rd; subst re
    obtain ⟨xs, e1, h0, h1, hl, hn⟩ := h
    obtain ⟨vs, h2, t⟩ := rs _ _ e1
    exact op_rep pins s σ H _ _ v u Q I rv ru ⟨_, _, vs, rfl, rfl, h2, by omega, by omega, by rw [← t.length]; exact hl, fun p np => lqNew k (t.rep _) rs hn np⟩
  · subst rd; subst re; exact op_fdivW pins s σ H _ _ v u Q I rv ru ⟨_, _, rfl, rfl, h.1, lq k (by simp only [Rp]) rs h.2⟩
  · subst rd; subst re; exact op_mod pins s σ H _ _ v u Q I rv ru ⟨_, _, rfl, rfl, h.1, lq k (by simp only [Rp]) rs h.2⟩
  · subst rd; subst re; exact op_pow pins s σ H _ _ v u Q I rv ru ⟨_, _, rfl, rfl, h.1, lq k (by simp only [Rp]) rs h.2⟩
  · exact h.elim
theorem gives_int_neg_bool (p : Bool) : Gives (Builtin.«int.__neg__» ⟨[.bool p], []⟩) (.int (-(if p = true then (1 : Int) else 0))) := .of_wp fun M A E s Q h => by obtain ⟨hp, g, d, tk, os⟩ := s; wp_walk; exact ⟨_, rfl, h⟩
theorem neg_ok : UnG X (unaryOp .USub) negD := by
  rintro pins s σ H x v Q I rv ⟨d, S, G, rd, rs, h, k⟩
  unfold negD at h
  split at h
  · simp only [Rp] at rd; subst rd
    exact un_neg pins s σ H _ v Q I rv ⟨_, rfl, lq k (by simp only [Rp]) rs h⟩
  · simp only [Rp] at rd; subst rd
    cases rv
    exact unaryOp_gives (op := .USub) (PyProof.Rows.typeIs_bool' s _) rfl PySem.F.slot_bool_neg PySem.F.entry_int_neg (PySem.F.args_int_neg_1 _) (gives_int_neg_bool _) ⟨.int _, H, I.tok _, ⟨_, rfl⟩, lq k (by simp only [Rp]) rs h⟩
  · exact h.elim
theorem lt' {M : Md} {H : Hp} {G : GT} {Q : VK} (k : LT M H G fun b H' => Q (.bl b) H') {b : Bool} {S : Store} (s : RS M H S) (g : G b S) : Q (.bl b) H := k b S H (Keep.refl H) s g
/-- what `in` reads -/
theorem in_at (hu : X.A.units + 62 < cLine) {pins : List (Addr × Obj)} {σ : L2.St} {H : Hp} {s : Shared} {S : Store} {d c : D} {x y : V} {v u : Value} {l : Bool} {ds : List D} {bs : List Bool} (I : Inv X pins σ H s) (rs : RS (md X) H S) (rd : Rp (md X) H d x) (rc : Rp (md X) H c y) (rv : L2.RelV x v) (ru : L2.RelV y u)
    (hv : vw S c = .seq l ds) (hb : ds.mapM (fun y => eqF S 60 y d) = some bs) : ∃ (a : Addr) (its : List Value) (e : Value → Bool), u = .ref a ∧ (if l = true then s.heap.IsList a its.toArray else s.heap.IsTuple a its.toArray) ∧ (∀ z, z ∈ its.toArray → SeqAt.EqAt X.A.in1 s z v (e z)) ∧ its.toArray.any e = bs.any id := by
  obtain ⟨a, xs, its, rfl, t, rt, hl, _, _⟩ := vw_seq I rs rc ru hv
  obtain ⟨hbl, hbs⟩ := mapM_get hb
  -- the truth of an item's == by its value
  have key : ∀ z ∈ its, ∃ b, SeqAt.EqAt X.A.in1 s z v b := fun z hz => by
    obtain ⟨j, hj, ej⟩ := List.getElem_of_mem hz
    have hjx : j < xs.length := by rw [rt.length]; exact hj
    have hjd : j < ds.length := by rw [t.length]; exact hjx
    obtain ⟨vx, hx, rx⟩ := t.get (List.getElem?_eq_getElem hjd)
    obtain ⟨ux, hux, rux⟩ := Vals.get rt hx
    rw [List.getElem?_eq_getElem hj, ej] at hux
    cases hux
    obtain ⟨b, hb', _⟩ := hbs j _ (List.getElem?_eq_getElem hjd)
    exact ⟨b, eqF_at I rs 60 X.A.in1 _ _ _ _ _ _ _ (by rw [in1_units]; omega) rx rd rux rv hb'⟩
  have at_ : ∀ j z, its[j]? = some z → ∃ b, bs[j]? = some b ∧ SeqAt.EqAt X.A.in1 s z v b := fun j z hz => by
    obtain ⟨hj, ej⟩ := List.getElem?_eq_some_iff.mp hz
    have hjx : j < xs.length := by rw [rt.length]; exact hj
    have hjd : j < ds.length := by rw [t.length]; exact hjx
    obtain ⟨vx, hx, rx⟩ := t.get (List.getElem?_eq_getElem hjd)
    obtain ⟨ux, hux, rux⟩ := Vals.get rt hx
    rw [hz] at hux
    cases hux
    obtain ⟨b, hb', hg⟩ := hbs j _ (List.getElem?_eq_getElem hjd)
    exact ⟨b, hg, eqF_at I rs 60 X.A.in1 _ _ _ _ _ _ _ (by rw [in1_units]; omega) rx rd rux rv hb'⟩
  let e : Value → Bool := fun z => @decide (∃ j : Nat, its[j]? = some z ∧ bs[j]? = some true) (Classical.propDecidable _)
  have he : ∀ z, e z = true ↔ ∃ j : Nat, its[j]? = some z ∧ bs[j]? = some true := fun z => @decide_eq_true_iff _ (Classical.propDecidable _)
  refine ⟨a, its, e, rfl, hl, fun z hz => ?_, ?_⟩
  · cases q : e z with
    | true =>
      obtain ⟨j, h1, h2⟩ := (he z).mp q
      obtain ⟨b, h3, h4⟩ := at_ j z h1
      rw [h2] at h3; cases h3
      exact h4
    | false =>
      obtain ⟨j, hj, ej⟩ := List.getElem_of_mem (show z ∈ its by simpa using hz)
      have h1 : its[j]? = some z := by rw [List.getElem?_eq_getElem hj, ej]
      obtain ⟨b, h3, h4⟩ := at_ j z h1
      cases b with
      | false => exact h4
      | true =>
        have := (he z).mpr ⟨j, h1, h3⟩
        rw [q] at this; cases this
  · rw [Bool.eq_iff_iff]
    simp only [List.any_toArray, List.any_eq_true]
    constructor
    · rintro ⟨z, _, hz⟩
      obtain ⟨j, _, h2⟩ := (he z).mp hz
      exact ⟨true, List.mem_of_getElem? h2, rfl⟩
    · rintro ⟨b, hb1, hb2⟩
      have hb2 : b = true := hb2
      subst hb2
      obtain ⟨j, hj, ej⟩ := List.getElem_of_mem hb1
      have h2 : bs[j]? = some true := by rw [List.getElem?_eq_getElem hj, ej]
      have hj' : j < its.length := by rw [← rt.length, ← t.length, ← hbl]; exact hj
      exact ⟨its[j], List.getElem_mem hj', (he _).mpr ⟨j, List.getElem?_eq_getElem hj', h2⟩⟩
theorem isNon_ok {M : Md} {H : Hp} {d : D} {x : V} (r : Rp M H d x) : decide (x = V.non) = isNon d := by
  cases d <;> simp only [Rp] at r <;> first | (subst r; rfl) | (obtain ⟨_, _, rfl, _⟩ := r; rfl) | (obtain ⟨_, _, rfl⟩ := r; rfl)
theorem cmp_ok (hu : X.A.units + 62 < cLine) (o : CmpOp) : CmpG X (compareOp o) (cmpD o) := by
  rintro pins s σ H x y v u Q I rv ru ⟨d, e, S, G, rd, re, rs, h, k⟩
  have hu0 : X.A.units < cLine := by omega
  cases o with
  | Eq =>
    obtain ⟨r, hr, hg⟩ := h
    exact (eqT_rc I rs hu0 (fun d e x y v u b => eqF_at I rs 60 X.A.in1 d e x y v u b (by rw [in1_units]; omega)) rd re rv ru hr).1 _ _ _ _ ⟨.bl r, H, I, rfl, lt' k rs hg⟩
  | NotEq =>
    obtain ⟨r, hr, hg⟩ := h
    exact (eqT_rc I rs hu0 (fun d e x y v u b => eqF_at I rs 60 X.A.in1 d e x y v u b (by rw [in1_units]; omega)) rd re rv ru hr).2 _ _ _ _ ⟨.bl (!r), H, I, rfl, lt' k rs hg⟩
  | Lt =>
    simp only [cmpD] at h
    split at h <;> (try simp only [Rp] at rd re)
    · subst rd; subst re; exact op_lt pins s σ H _ _ v u Q I rv ru ⟨_, _, rfl, rfl, lt' k rs h⟩
    · subst rd; subst re; exact op_lt_str pins s σ H _ _ v u Q I rv ru ⟨_, _, rfl, rfl, lt' k rs h⟩
    · obtain ⟨ns, ms, rfl, rfl, h⟩ := h
      obtain ⟨a, xs, rfl, q, t⟩ := rd
      obtain ⟨b, ys, rfl, q', t'⟩ := re
      have intsEq : ∀ (ns : List Int) (xs : List V), Rps (md X) H (ns.map D.int) xs → xs = ns.map V.int := by
        intro ns
        induction ns with
        | nil => intro xs h; exact h.nil'
        | cons n ns ih => intro xs h; obtain ⟨v, r, rfl, h1, h2⟩ := h.cons'; simp only [Rp] at h1; rw [h1, ih r h2]; rfl
      have e1 := intsEq _ _ t
      have e2 := intsEq _ _ t'
      subst e1; subst e2
      exact op_ltT hu0 pins s σ H _ _ v u Q I rv ru ⟨a, b, ns, ms, rfl, rfl, q.sqt, q'.sqt, lt' k rs h⟩
    · exact h.elim
  | LtE =>
    simp only [cmpD] at h
    split at h <;> (try simp only [Rp] at rd re)
    · subst rd; subst re; exact op_le pins s σ H _ _ v u Q I rv ru ⟨_, _, rfl, rfl, lt' k rs h⟩
    · exact h.elim
  | Gt =>
    simp only [cmpD] at h
    split at h <;> (try simp only [Rp] at rd re)
    · subst rd; subst re; exact op_gt pins s σ H _ _ v u Q I rv ru ⟨_, _, rfl, rfl, lt' k rs h⟩
    · exact h.elim
  | GtE =>
    simp only [cmpD] at h
    split at h <;> (try simp only [Rp] at rd re)
    · subst rd; subst re; exact op_ge pins s σ H _ _ v u Q I rv ru ⟨_, _, rfl, rfl, lt' k rs h⟩
    · exact h.elim
  | Is =>
    simp only [cmpD] at h
    split at h
    · simp only [Rp] at re; subst re
      exact op_isN pins s σ H _ _ v u Q I rv ru ⟨rfl, by rw [isNon_ok rd]; exact lt' k rs h⟩
    · simp only [Rp] at rd re; subst rd; subst re
      exact op_isBl pins s σ H _ _ v u Q I rv ru ⟨_, _, rfl, rfl, lt' k rs h⟩
    · exact h.elim
  | IsNot =>
    simp only [cmpD] at h
    split at h
    · simp only [Rp] at re; subst re
      exact op_notN pins s σ H _ _ v u Q I rv ru ⟨rfl, by rw [isNon_ok rd]; exact lt' k rs h⟩
    · simp only [Rp] at rd re; subst rd; subst re
      exact op_notBl pins s σ H _ _ v u Q I rv ru ⟨_, _, rfl, rfl, lt' k rs h⟩
    · exact h.elim
  | In =>
    simp only [cmpD] at h
    split at h
    · simp only [Rp] at rd re
      subst rd; subst re; exact op_in_str pins s σ H _ _ v u Q I rv ru ⟨_, _, rfl, rfl, lt' k rs h⟩
    · obtain ⟨l, ds, bs, h1, h2, h⟩ := h
      obtain ⟨a, its, e', rfl, hl, he, hany⟩ := in_at hu I rs rd re rv ru h1 h2
      cases l
      · rw [if_neg (by decide)] at hl
        exact SeqAt.in_tupleAt e' hl he ⟨.bl _, H, I, rfl, by rw [hany]; exact lt' k rs h⟩
      · rw [if_pos rfl] at hl
        exact SeqAt.in_listAt e' hl he ⟨.bl _, H, I, rfl, by rw [hany]; exact lt' k rs h⟩
  | NotIn =>
    simp only [cmpD] at h
    split at h
    · simp only [Rp] at rd re
      subst rd; subst re; exact op_notin_str pins s σ H _ _ v u Q I rv ru ⟨_, _, rfl, rfl, lt' k rs h⟩
    · obtain ⟨l, ds, bs, h1, h2, h⟩ := h
      obtain ⟨a, its, e', rfl, hl, he, hany⟩ := in_at hu I rs rd re rv ru h1 h2
      cases l
      · rw [if_neg (by decide)] at hl
        exact SeqAt.notIn_tupleAt e' hl he ⟨.bl _, H, I, rfl, by rw [hany]; exact lt' k rs h⟩
      · rw [if_pos rfl] at hl
        exact SeqAt.notIn_listAt e' hl he ⟨.bl _, H, I, rfl, by rw [hany]; exact lt' k rs h⟩
end
end GL
end

-- G7
section
namespace GL
open PyProof.Rows PySem PySem.Spec L2

/-! ### dicts -/
def keyD : D → Option Key
  | .int i => some (.inl i)
  | .str x => some (.inr x)
  | _ => none
def valD (kvs : List (Key × D)) (k : Key) : Option D := (kvs.find? fun kv => decide (kv.1 = k)).map (·.2)
def putD (kvs : List (Key × D)) (k : Key) (d : D) : List (Key × D) :=
  if (kvs.any fun kv => decide (kv.1 = k)) = true then kvs.map (fun kv => if kv.1 = k then (kv.1, d) else kv) else kvs ++ [(k, d)]
def mergeD (kvs more : List (Key × D)) : List (Key × D) := more.foldl (fun acc kv => putD acc kv.1 kv.2) kvs
section
variable {M : Md} {H : Hp}
theorem keyD_ok {d : D} {x : V} {k : Key} (r : Rp M H d x) (h : keyD d = some k) : x = kV k := by
  cases d <;> simp only [keyD] at h <;> first | (cases h; done) | (cases h; simp only [Rp] at r; exact r)
theorem kV_rp (k : Key) : ∃ d, keyD d = some k ∧ Rp M H d (kV k) := by
  cases k with
  | inl i => exact ⟨.int i, rfl, by simp only [Rp]; rfl⟩
  | inr x => exact ⟨.str x, rfl, by simp only [Rp]; rfl⟩
theorem Kvs.val : ∀ {kvs : List (Key × D)} {l : List (Key × V)} {k : Key}, Kvs M H kvs l → (valD kvs k = none ∧ valV l k = none) ∨ ∃ d v, valD kvs k = some d ∧ valV l k = some v ∧ Rp M H d v
  | [], l, k, h => .inl ⟨rfl, by rw [show l = [] from h]; rfl⟩
  | (k', d) :: r, l, k, h => by
    obtain ⟨v, l', rfl, h1, h2⟩ := h
    by_cases e : k' = k
    · exact .inr ⟨d, v, by simp [valD, List.find?_cons, e], by simp [valV, List.find?_cons, e], h1⟩
    · rcases Kvs.val (k := k) h2 with ⟨a, b⟩ | ⟨x, y, a, b, c⟩
      · exact .inl ⟨by simpa [valD, List.find?_cons, e] using a, by simpa [valV, List.find?_cons, e] using b⟩
      · exact .inr ⟨x, y, by simpa [valD, List.find?_cons, e] using a, by simpa [valV, List.find?_cons, e] using b, c⟩
theorem Kvs.keys : ∀ {kvs : List (Key × D)} {l : List (Key × V)}, Kvs M H kvs l → kvs.map (·.1) = l.map (·.1)
  | [], l, h => by rw [show l = [] from h]; rfl
  | (k', d) :: r, l, h => by obtain ⟨v, l', rfl, h1, h2⟩ := h; rw [List.map_cons, List.map_cons, Kvs.keys h2]
theorem any_keys {α : Type} (l : List (Key × α)) (k : Key) : (l.any fun kv => decide (kv.1 = k)) = ((l.map (·.1)).any fun x => decide (x = k)) := by
  induction l with
  | nil => rfl
  | cons a r ih => rw [List.map_cons, List.any_cons, List.any_cons, ih]
theorem Kvs.snoc {k : Key} {d : D} {v : V} (r : Rp M H d v) : ∀ {kvs : List (Key × D)} {l : List (Key × V)}, Kvs M H kvs l → Kvs M H (kvs ++ [(k, d)]) (l ++ [(k, v)])
  | [], l, h => by rw [show l = [] from h]; exact ⟨v, [], rfl, r, rfl⟩
  | (k', e) :: q, l, h => by obtain ⟨w, l', rfl, h1, h2⟩ := h; exact ⟨w, _, rfl, h1, Kvs.snoc r h2⟩
theorem Kvs.putm {k : Key} {d : D} {v : V} (r : Rp M H d v) : ∀ {kvs : List (Key × D)} {l : List (Key × V)}, Kvs M H kvs l → Kvs M H (kvs.map fun kv => if kv.1 = k then (kv.1, d) else kv) (l.map fun kv => if kv.1 = k then (kv.1, v) else kv)
  | [], l, h => by rw [show l = [] from h]; exact rfl
  | (k', e) :: q, l, h => by
    obtain ⟨w, l', rfl, h1, h2⟩ := h
    simp only [List.map_cons]
    by_cases e' : k' = k
    · rw [if_pos e', if_pos e']; exact ⟨v, _, rfl, r, Kvs.putm r h2⟩
    · rw [if_neg e', if_neg e']; exact ⟨w, _, rfl, h1, Kvs.putm r h2⟩
theorem Kvs.put {k : Key} {d : D} {v : V} (r : Rp M H d v) {kvs : List (Key × D)} {l : List (Key × V)} (h : Kvs M H kvs l) : Kvs M H (putD kvs k d) (putK l k v) := by
  unfold putD putK
  rw [any_keys, any_keys, h.keys]
  split
  · exact h.putm r
  · exact h.snoc r
theorem Kvs.merge : ∀ {more : List (Key × D)} {ml : List (Key × V)} {kvs : List (Key × D)} {l : List (Key × V)}, Kvs M H more ml → Kvs M H kvs l → Kvs M H (mergeD kvs more) (mergeK l ml)
  | [], ml, _, _, h, g => by rw [show ml = [] from h]; exact g
  | (k, d) :: r, ml, _, _, h, g => by
    obtain ⟨v, l', rfl, h1, h2⟩ := h
    show Kvs M H (mergeD (putD _ k d) r) (mergeK (putK _ k v) l')
    exact Kvs.merge h2 (g.put h1)
end

/-! ### subscripts -/
def idxD : G2 := fun a b S Q => match a, b with
  | .tup ds, .int i => ∃ d, atI ds i = some d ∧ Q d S
  | .frl ds, .int i => ∃ d, atI ds i = some d ∧ Q d S
  | .str x, .int i => x.length ≤ sizeLine ∧ ∃ c, atI x.cps.toList i = some c ∧ Q (.str ⟨#[c]⟩) S
  | .ref p, k => match S p with
    | some (.lst ds) => ∃ i, k = .int i ∧ ∃ d, atI ds i = some d ∧ Q d S
    | some (.dct kvs) => ∃ k' d, keyD k = some k' ∧ valD kvs k' = some d ∧ Q d S
    | _ => False
  | _, _ => False
section
variable {X : Cx}
theorem Rps.atI {M : Md} {H : Hp} {ds : List D} {vs : List V} {i : Int} {d : D} (r : Rps M H ds vs) (h : L2.atI ds i = some d) : ∃ v, L2.atI vs i = some v ∧ Rp M H d v := by
  unfold L2.atI at h ⊢
  rw [r.length] at h
  cases e : ixN vs.length i with
  | none => (rw [e] at h; cases h)
  | some j =>
    rw [e] at h
    obtain ⟨v, h1, h2⟩ := r.get (show ds[j]? = some d from h)
    exact ⟨v, h1, h2⟩
theorem ix_dct (hu : X.A.units + 1 < cLine) : IxR X (fun x y H Q => ∃ a v, x = .ref a ∧ DGet H a y (some v) ∧ Q v H) := by
  (intro value slice pins s σ H x y v u Q I rx ry h hs)
  obtain ⟨a, w', rfl, g, q⟩ := h
  (obtain rfl : v = Value.ref a := rx)
  exact tail_any (dict_typeIs I g) PySem.F.slot_dict_getitem.lookup (d_getItem hu I g ry fun w2 s3 I3 rw' => ⟨w', H, I3, rw', q⟩) hs
theorem idx_ok (hu : X.A.units + 1 < cLine) : IxG X idxD := by
  rintro value slice pins s σ H x y v u Q I rv ru ⟨d, e, S, G, rd, re, rs, h, k⟩ hs
  unfold idxD at h
  split at h <;> (try simp only [Rp] at rd re)
  · subst re
    obtain ⟨a, vs, rfl, q, t⟩ := rd
    obtain ⟨d, hd, hg⟩ := h
    obtain ⟨z, hz, rz⟩ := t.atI hd
    exact ix_tup value slice pins s σ H _ _ v u Q I rv ru ⟨a, vs, _, z, rfl, rfl, q.sqt, hz, lq k rz rs hg⟩ hs
  · subst re
    obtain ⟨a, vs, rfl, q, t⟩ := rd
    obtain ⟨d, hd, hg⟩ := h
    obtain ⟨z, hz, rz⟩ := t.atI hd
    exact ix_list value slice pins s σ H _ _ v u Q I rv ru ⟨a, vs, _, z, rfl, rfl, q.sql, hz, lq k rz rs hg⟩ hs
  · subst re; subst rd
    obtain ⟨hl, c, hc, hg⟩ := h
    exact ix_str value slice pins s σ H _ _ v u Q I rv ru ⟨_, _, c, rfl, rfl, hl, hc, lq k (by simp only [Rp]) rs hg⟩ hs
  · subst rd
    split at h
    · rename_i ds e1
      obtain ⟨i, rfl, d, hd, hg⟩ := h
      simp only [Rp] at re; subst re
      obtain ⟨vs, hq, t⟩ := rs _ _ e1
      obtain ⟨z, hz, rz⟩ := t.atI hd
      exact ix_list value slice pins s σ H _ _ v u Q I rv ru ⟨_, vs, _, z, rfl, rfl, SqL.of hq, hz, lq k rz rs hg⟩ hs
    · rename_i kvs e1
      obtain ⟨k', d, hk, hv, hg⟩ := h
      obtain ⟨l, hq, t⟩ := rs _ _ e1
      have hy := keyD_ok re hk
      subst hy
      rcases t.val (k := k') with ⟨a, _⟩ | ⟨d', z, a, b, c⟩
      · rw [hv] at a; cases a
      · rw [hv] at a; cases a
        exact ix_dct hu value slice pins s σ H _ _ v u Q I rv ru ⟨_, z, rfl, .inl ⟨l, k', .inl hq, rfl, b.symm⟩, lq k c rs hg⟩ hs
    · exact h.elim
  · exact h.elim

/-! ### stores at a place -/
def setD (o i v : D) (S : Store) (Q : Store → Prop) : Prop := match o with
  | .ref p => match S p with
    | some (.lst ds) => ∃ n j, i = .int n ∧ ixN ds.length n = some j ∧ Q (put S p (.lst (ds.set j v)))
    | some (.dct kvs) => ∃ k, keyD i = some k ∧ kvs.length < sizeLine ∧ Q (put S p (.dct (putD kvs k v)))
    | _ => False
  | _ => False
def LS (M : Md) (H : Hp) (G : Store → Prop) (Q : Hp → Prop) : Prop := ∀ S' H', Keep H H' → RS M H' S' → G S' → Q H'
def lopS (M : Md) : V → V → V → Hp → (Hp → Prop) → Prop := fun o i v H Q => ∃ od id vd S G, Rp M H od o ∧ Rp M H id i ∧ Rp M H vd v ∧ RS M H S ∧ setD od id vd S G ∧ LS M H G Q
theorem set_ok (hu : X.A.units + 1 < cLine) : PSet X (lopS (md X)) := by
  rintro pins s σ H o i v ov iv u Q I ro ri rv ⟨od, id, vd, S, G, rod, rid, rvd, rs, h, k⟩
  unfold setD at h
  split at h
  · rename_i p
    simp only [Rp] at rod
    subst rod
    split at h
    · rename_i ds e
      obtain ⟨n, j, rfl, hj, hg⟩ := h
      simp only [Rp] at rid
      subst rid
      obtain ⟨xs, hx, t⟩ := rs _ _ e
      have ku : Keep H (upd H p (.lst (xs.set j v))) := Keep.upd hx trivial
      exact set_list pins s σ H _ _ _ ov iv u Q I ro ri rv ⟨p, xs, n, j, rfl, rfl, hx, by rw [← t.length]; exact hj, k _ _ ku (rs.put (c := .lst (ds.set j vd)) ku ⟨_, upd_same, (t.mono ku).set (rvd.mono ku) j⟩) hg⟩
    · rename_i kvs e
      obtain ⟨k', hk, hl, hg⟩ := h
      obtain ⟨l, hx, t⟩ := rs _ _ e
      have hy := keyD_ok rid hk
      subst hy
      have ku : Keep H (upd H p (.dK (putK l k' v))) := Keep.upd hx trivial
      exact set_dict hu pins s σ H _ _ _ ov iv u Q I ro ri rv ⟨p, _, rfl, .inl ⟨l, k', hx, rfl, by rw [← t.length]; exact hl, rfl⟩, k _ _ ku (rs.put (c := .dct (putD kvs k' vd)) ku ⟨_, upd_same, (t.mono ku).put (rvd.mono ku)⟩) hg⟩
    · exact h.elim
  · exact h.elim
/-- o[i] = v -/
def wSetIx (go gi gv : WE) : WS := fun E ρ S => gv ρ S fun v S1 => go ρ S1 fun o S2 => gi ρ S2 fun i S3 => setD o i v S3 fun S4 => E.nx ρ S4
theorem js_setIx (hu : X.A.units + 1 < cLine) {o i e : Expr} {go gi gv : WE} {pos pos' : Pos} (ho : JE X o go) (hi : JE X i gi) (he : JE X e gv) (ha : ∀ v, assign (.Subscript o i pos') X.env v = (do
      let ov ← (holding [v] (eval o X.env))
      let iv ← (holding [v, ov] (eval i X.env))
      standAt pos'
      (holding [v, ov, iv] (setItem ov iv v))
      release [v, ov, iv] [])) (hs : swapsWithSole [.Subscript o i pos'] e pos.line X.env = pure false) (hw : swappedStores [.Subscript o i pos'] e X.env = pure none) (h1 : (assignEach [.Subscript o i pos'] X.env).map (·.2) = [assign (.Subscript o i pos') X.env]) :
    JS X (.Assign [.Subscript o i pos'] e pos) (wSetIx go gi gv) :=
  PS.imp (ps_asg he (pg_sub ho hi (set_ok hu) ha) hs hw h1) fun E σ H ⟨ρ, S, G, re, rs, h, k⟩ => liftE.then re rs h fun v S1 x H1 k1 r1 s1 h1 => liftE.then (re.mono k1) s1 h1 fun o S2 y H2 k2 r2 s2 h2 => liftE.then (re.mono (k1.trans k2)) s2 h2 fun i S3 z H3 k3 r3 s3 h3 =>
    ⟨o, i, v, S3, _, r2.mono k3, r3, r1.mono (k2.trans k3), s3, h3, fun S4 H4 k4 s4 h4 => k.nx ρ S4 σ H4 (k1.trans (k2.trans (k3.trans k4))) (re.mono (k1.trans (k2.trans (k3.trans k4)))) s4 h4⟩

/-! ### slices -/
def cutD (ds : List D) (lo hi : Option Int) : List D := (ds.drop (HT.sIx ds.length 0 lo)).take (HT.sIx ds.length ds.length hi - HT.sIx ds.length 0 lo)
theorem Rps.cut {M : Md} {H : Hp} {ds : List D} {vs : List V} (r : Rps M H ds vs) (lo hi : Option Int) : Rps M H (cutD ds lo hi) (cutV vs lo hi) := by
  unfold cutD cutV; rw [r.length]; exact (r.drop _).take _
def slcD (a : D) (lo hi : Option Int) (S : Store) (Q : GQ) : Prop := match a with
  | .tup ds => Q (.tup (cutD ds lo hi)) S
  | .frl ds => wNew (.lst (cutD ds lo hi)) S Q
  | .str x => x.length ≤ sizeLine ∧ Q (.str (cutS x lo hi)) S
  | .ref p => match S p with
    | some (.lst ds) => wNew (.lst (cutD ds lo hi)) S Q
    | _ => False
  | _ => False
def lopSl (M : Md) : V → Option Int → Option Int → Hp → VK → Prop := fun x lo hi H Q => ∃ d S G, Rp M H d x ∧ RS M H S ∧ slcD d lo hi S G ∧ LQ M H G Q
theorem cutV_all {xs : List V} {lo hi : Option Int} (h : HT.sIx xs.length 0 lo = 0 ∧ HT.sIx xs.length xs.length hi = xs.length) : cutV xs lo hi = xs := by
  unfold cutV; rw [h.1, h.2]; simp
theorem slc_ok : SlR X (lopSl (md X)) := by
  rintro pins s σ H x v vl vu lo hi sl Q I rv hsl pl pu ⟨d, S, G, rd, rs, h, k⟩
  unfold slcD at h
  split at h <;> (try simp only [Rp] at rd)
  · rename_i ds
    obtain ⟨a, vs, rfl, q, t⟩ := rd
    have tc := t.cut lo hi
    refine sl_tupX pins s σ H _ v vl vu lo hi sl Q I rv hsl pl pu ⟨a, vs, rfl, q.sqt, fun hw => ?_, fun _ p o np no => lqTup k tc rs h np no⟩
    rw [cutV_all hw] at tc
    exact lq k (by simp only [Rp]; exact ⟨a, vs, rfl, q, tc⟩) rs h
  · obtain ⟨a, vs, rfl, q, t⟩ := rd
    exact sl_list pins s σ H _ v vl vu lo hi sl Q I rv hsl pl pu ⟨a, vs, rfl, q.sql, fun p np => lqNew k (t.cut lo hi) rs h np⟩
  · subst rd
    exact sl_str pins s σ H _ v vl vu lo hi sl Q I rv hsl pl pu ⟨_, rfl, h.1, lq k (by simp only [Rp]) rs h.2⟩
  · subst rd
    split at h
    · rename_i ds e
      obtain ⟨vs, hq, t⟩ := rs _ _ e
      exact sl_list pins s σ H _ v vl vu lo hi sl Q I rv hsl pl pu ⟨_, vs, rfl, SqL.of hq, fun p np => lqNew k (t.cut lo hi) rs h np⟩
    · exact h.elim
  · exact h.elim
abbrev WO := Ev → Store → (Option Int → Store → Prop) → Prop
def liftO (M : Md) (g : WO) : TO := fun σ H Q => ∃ ρ S G, Re M H ρ σ ∧ RS M H S ∧ g ρ S G ∧ ∀ o S' H', Keep H H' → RS M H' S' → G o S' → Q o H'
def wNoP : WO := fun _ S Q => Q none S
def wPart (g : WE) : WO := fun ρ S Q => g ρ S fun d S1 => ∃ i, d = .int i ∧ Q (some i) S1
abbrev JO (X : Cx) (e : Option Expr) (g : WO) : Prop := PO X e (liftO (md X) g)
theorem PO.imp {e : Option Expr} {t t' : TO} (h : PO X e t) (i : ∀ σ H Q, t' σ H Q → t σ H Q) : PO X e t' := ⟨fun pins s σ H Q I w => h.run pins s σ H Q I (i σ H Q w)⟩
theorem jo_none : JO X none wNoP := PO.imp po_none fun σ H Q ⟨ρ, S, G, re, rs, h, k⟩ => k none S H (Keep.refl H) rs h
theorem jo_some {e : Expr} {g : WE} (h : JE X e g) : JO X (some e) (wPart g) := PO.imp (po_some h) fun σ H Q ⟨ρ, S, G, re, rs, h, k⟩ => liftE.then re rs h fun d S1 x H1 k1 r1 s1 ⟨i, e, h1⟩ => by
  subst e; simp only [Rp] at r1; exact ⟨i, r1, k _ S1 H1 k1 s1 h1⟩
def wSlc (g : WE) (lo hi : WO) : WE := fun ρ S Q => g ρ S fun d S1 => lo ρ S1 fun l S2 => hi ρ S2 fun h S3 => slcD d l h S3 Q
theorem je_slice {e : Expr} {lo hi : Option Expr} {g : WE} {gl gh : WO} {p2 pos : Pos} (he : JE X e g) (hl : JO X lo gl) (hh : JO X hi gh) : JE X (.Subscript e (.Slice lo hi none p2) pos) (wSlc g gl gh) :=
  PE.imp (pe_slice slc_ok he hl hh) fun σ H Q ⟨ρ, S, G, re, rs, h, k⟩ => liftE.then re rs h fun d S1 x H1 k1 r1 s1 h1 => ⟨ρ, S1, _, re.mono k1, s1, h1, fun l S2 H2 k2 s2 h2 => ⟨ρ, S2, _, re.mono (k1.trans k2), s2, h2, fun u S3 H3 k3 s3 h3 =>
    ⟨d, S3, G, r1.mono (k2.trans k3), s3, h3, k.mono (k1.trans (k2.trans k3))⟩⟩⟩

/-! ### what a for or a comprehension walks -/
def srcT (ds : List D) : Src := ⟨ds, fun _ => True⟩
def srcL (a : Addr) (ds : List D) : Src := ⟨ds, fun S => S a = some (.lst ds)⟩
def signs (x : Str) : List D := x.cps.toList.map fun c => D.str ⟨#[c]⟩
def itD (d : D) (S : Store) (Q : Src → Store → Prop) : Prop := match d with
  | .tup ds => Q (srcT ds) S
  | .frl ds => Q (srcT ds) S
  | .str x => Q (srcT (signs x)) S
  | .ref a => match S a with
    | some (.lst ds) => Q (srcL a ds) S
    | _ => False
  | _ => False
theorem src_tup {M : Md} {H : Hp} {a : Addr} {ds : List D} {xs : List V} (q : SqT M.K H a xs) (t : Rps M H ds xs) (hinj : ∀ H', Keep H H' → ∀ ys, SqT M.K H' a ys → ys = xs) : SrcOk M H (srcT ds) (Itt M.K a) := fun i H' S k rs lv => by
  refine ⟨fun d hd => ?_, fun hl => ⟨xs, k.sqt q, by rw [← t.length]; exact hl⟩⟩
  obtain ⟨x, hx, r⟩ := t.get hd
  refine ⟨⟨xs, x, k.sqt q, hx⟩, fun y H2 ⟨e, hy⟩ => ?_⟩
  subst e
  have := hy xs (k.sqt q)
  rw [hx] at this; cases this
  exact ⟨Keep.refl _, r.mono k, fun _ z => z⟩
theorem src_frl {M : Md} {H : Hp} {a : Addr} {ds : List D} {xs : List V} (q : FrL M.K H a xs) (t : Rps M H ds xs) : SrcOk M H (srcT ds) (Itl M.K a) := fun i H' S k rs lv => by
  refine ⟨fun d hd => ?_, fun hl => ⟨xs, (k.frl q).sql, by rw [← t.length]; exact hl⟩⟩
  obtain ⟨x, hx, r⟩ := t.get hd
  refine ⟨⟨xs, x, (k.frl q).sql, hx⟩, fun y H2 ⟨e, hy⟩ => ?_⟩
  subst e
  have := hy xs (k.frl q).sql
  rw [hx] at this; cases this
  exact ⟨Keep.refl _, r.mono k, fun _ z => z⟩
theorem src_lst {M : Md} {H : Hp} {a : Addr} {ds : List D} : SrcOk M H (srcL a ds) (Itl M.K a) := fun i H' S k rs lv => by
  obtain ⟨xs, hx, t⟩ := rs a _ lv
  refine ⟨fun d hd => ?_, fun hl => ⟨xs, SqL.of hx, by rw [← t.length]; exact hl⟩⟩
  obtain ⟨x, hx', r⟩ := t.get hd
  refine ⟨⟨xs, x, SqL.of hx, hx'⟩, fun y H2 ⟨e, hy⟩ => ?_⟩
  subst e
  have := hy xs (SqL.of hx)
  rw [hx'] at this; cases this
  exact ⟨Keep.refl _, r, fun _ z => z⟩
theorem src_str {M : Md} {H : Hp} {x : Str} : SrcOk M H (srcT (signs x)) (Its x) := fun i H' S k rs lv => by
  have hlen : (signs x).length = x.cps.size := by simp [signs]
  refine ⟨fun d hd => ?_, fun hl => by rw [show (srcT (signs x)).items = signs x from rfl, hlen] at hl; exact hl⟩
  have hi : i < x.cps.size := by rw [← hlen]; exact (List.getElem?_eq_some_iff.mp hd).1
  refine ⟨hi, fun y H2 ⟨e, c, hc, hy⟩ => ?_⟩
  subst e; subst hy
  have : d = .str ⟨#[c]⟩ := by
    have hd' : (signs x)[i]? = some d := hd
    unfold signs at hd'
    rw [List.getElem?_map, Array.getElem?_toList, hc] at hd'
    exact (Option.some.inj hd').symm
  subst this
  exact ⟨Keep.refl _, by simp only [Rp], fun _ z => z⟩
def iAny (K : PySem.W.Frag) (te : TE) : TI := fun σ H R => te σ H fun x H1 =>
  (∃ a, x = .ref a ∧ (∃ xs, SqL K H1 a xs) ∧ R (Itl K a) H1) ∨ (∃ a, x = .ref a ∧ (∃ xs, SqT K H1 a xs) ∧ R (Itt K a) H1) ∨ ∃ z, x = .str z ∧ R (Its z) H1
theorem pi_any {tg e : Expr} {te : TE} (he : PE X e te) : PI X tg e (iAny X.K te) := by
  (refine ⟨fun pins s σ H R I h => ?_⟩)
  refine thn (he.run pins s σ H _ I h) fun v s1 ⟨x, H1, I1, r1, q1⟩ => ?_
  rcases q1 with ⟨a, e, ⟨xs, hq⟩, q⟩ | ⟨a, e, ⟨xs, hq⟩, q⟩ | ⟨z, e, q⟩
  · subst e
    cases r1
    (obtain ⟨its, rv, p, hz⟩ := I1.list hq)
    (refine wpAny_pyIter_list p.isList ?_)
    (refine ⟨s1.heap.objs.size, [s1.heap.objs.size], _, _, H1, rfl, I1.kept (t' := s1.toks) fun b o e => Heap.get?_push_of_some _ e, turn_list a _, ⟨_, Heap.get?_push_size _ rfl, rfl, rfl⟩, fun b hb => ?_, q⟩)
    (have e : b = s1.heap.objs.size := by simpa using hb)
    subst e
    (exact I1.fpOk (Nat.le_refl _) (I1.hok.fresh (Nat.le_refl _)))
  · subst e
    cases r1
    (obtain ⟨its, rv, p, hz⟩ := I1.tuple hq)
    (refine wpAny_pyIter_tuple (show s1.heap.IsTuple a its.toArray from p) ?_)
    (refine ⟨s1.heap.objs.size, [s1.heap.objs.size], _, _, H1, rfl, I1.kept (t' := s1.toks) fun b o e => Heap.get?_push_of_some _ e, turn_tuple a _, ⟨_, Heap.get?_push_size _ rfl, rfl, rfl⟩, fun b hb => ?_, q⟩)
    (have e : b = s1.heap.objs.size := by simpa using hb)
    subst e
    (exact I1.fpOk (Nat.le_refl _) (I1.hok.fresh (Nat.le_refl _)))
  · subst e
    obtain ⟨t, rfl⟩ := r1
    cases ha : z.cps.all (· < 128)
    · exact wpAny_pyIter_wide ha (pi_one (tk := s1.toks) I1 _ (turn_str _ z t "str_iterator" (.inr rfl)) ⟨_, Heap.get?_push_size _ rfl, rfl, rfl⟩ q)
    · exact wpAny_pyIter_ascii ha (pi_one (tk := s1.toks) I1 _ (turn_str _ z t "str_ascii_iterator" (.inl rfl)) ⟨_, Heap.get?_push_size _ rfl, rfl, rfl⟩ q)
def wIt (g : WE) : WI := fun ρ S Q => g ρ S fun d S1 => itD d S1 Q
theorem ji_any {tg e : Expr} {g : WE} (he : JE X e g) : JI X tg e (wIt g) :=
  PI.imp (pi_any he) fun σ H R ⟨ρ, S, G, re, rs, h, k⟩ => liftE.then re rs h fun d S1 x H1 k1 r1 s1 h1 => by
    unfold itD at h1
    split at h1 <;> (try simp only [Rp] at r1)
    · obtain ⟨a, xs, rfl, q, t⟩ := r1
      refine .inr (.inl ⟨a, rfl, ⟨xs, q.sqt⟩, k _ S1 _ H1 k1 s1 (fun i H' S' k' rs' lv => ?_) h1⟩)
      refine ⟨fun d hd => ?_, fun hl => ⟨xs, k'.sqt q.sqt, by rw [← t.length]; exact hl⟩⟩
      obtain ⟨x, hx, r⟩ := t.get hd
      refine ⟨⟨xs, x, k'.sqt q.sqt, hx⟩, fun y H2 ⟨e, hy⟩ => ?_⟩
      subst e
      have := hy xs (k'.sqt q.sqt)
      rw [hx] at this; cases this
      exact ⟨Keep.refl _, r.mono k', fun _ z => z⟩
    · obtain ⟨a, xs, rfl, q, t⟩ := r1
      exact .inl ⟨a, rfl, ⟨xs, q.sql⟩, k _ S1 _ H1 k1 s1 (src_frl q t) h1⟩
    · subst r1
      exact .inr (.inr ⟨_, rfl, k _ S1 _ H1 k1 s1 src_str h1⟩)
    · subst r1
      split at h1
      · rename_i ds e
        obtain ⟨xs, hx, t⟩ := s1 _ _ e
        exact .inl ⟨_, rfl, ⟨xs, SqL.of hx⟩, k _ S1 _ H1 k1 s1 src_lst h1⟩
      · exact h1.elim
    · exact h1.elim
/-- range(n), range(a, b) -/
def rangeD (lo : Int) (n : Nat) : List D := (List.range n).map fun i => D.int (lo + (i : Nat))
theorem src_range {M : Md} {H : Hp} {lo : Int} {n : Nat} : SrcOk M H (srcT (rangeD lo n)) (Itr lo n) := fun i H' S k rs lv => by
  refine ⟨fun d hd => ?_, fun hl => show n ≤ i by simpa [srcT, rangeD] using hl⟩
  have hd' : (rangeD lo n)[i]? = some d := hd
  have hi : i < n := by simpa [rangeD] using (List.getElem?_eq_some_iff.mp hd').1
  refine ⟨hi, fun y H2 ⟨e, hy⟩ => ?_⟩
  subst e; subst hy
  have : d = .int (lo + (i : Nat)) := by
    unfold rangeD at hd'
    rw [List.getElem?_map, List.getElem?_range hi] at hd'
    exact (Option.some.inj hd').symm
  subst this
  exact ⟨Keep.refl _, by simp only [Rp], fun _ z => z⟩
def wRange1 (g : WE) : WI := fun ρ S Q => g ρ S fun d S1 => ∃ n, d = .int n ∧ n < 2 ^ 62 ∧ -(2 ^ 62) ≤ n ∧ Q (srcT (rangeD 0 n.toNat)) S1
def wRange2 (ga gb : WE) : WI := fun ρ S Q => ga ρ S fun d S1 => gb ρ S1 fun e S2 => ∃ a b, d = .int a ∧ e = .int b ∧ (-(2 ^ 62) ≤ a ∧ a < 2 ^ 62 ∧ -(2 ^ 62) ≤ b ∧ b < 2 ^ 62) ∧ Q (srcT (rangeD a (b - a).toNat)) S2
theorem ji_range1 {tg a : Expr} {g : WE} {p pos : Pos} (hg : Gl X "range") (hm : X.mg "range" = none) (ha : JE X a g) (hs : starEach [a] X.env = [(false, eval a X.env)]) : JI X tg (.Call (.Name "range" p) [a] [] pos) (wRange1 g) :=
  PI.imp (pi_range1 hg hm (ja_cons ha ja_nil (by rw [hs]; rfl)) hs) fun σ H R ⟨ρ, S, G, re, rs, h, k⟩ =>
    ⟨ρ, S, fun ds S1 => (match ds with | [d] => ∃ n, d = .int n ∧ n < 2 ^ 62 ∧ -(2 ^ 62) ≤ n ∧ G (srcT (rangeD 0 n.toNat)) S1 | _ => False), re, rs, h, fun ds S1 vs H1 k1 r1 s1 h1 => by
      dsimp only at h1
      split at h1
      · obtain ⟨n, rfl, h2, h3, h4⟩ := h1
        obtain ⟨v, r, rfl, ra, rb⟩ := r1.cons'
        obtain rfl := rb.nil'
        simp only [Rp] at ra; subst ra
        exact ⟨n, rfl, h3, h2, k _ S1 _ H1 k1 s1 src_range h4⟩
      · exact h1.elim⟩
theorem ji_range2 {tg a b : Expr} {ga gb : WE} {p pos : Pos} (hg : Gl X "range") (hm : X.mg "range" = none) (ha : JE X a ga) (hb : JE X b gb) (hs : starEach [a, b] X.env = [(false, eval a X.env), (false, eval b X.env)]) (hs2 : starEach [b] X.env = [(false, eval b X.env)]) : JI X tg (.Call (.Name "range" p) [a, b] [] pos) (wRange2 ga gb) :=
  PI.imp (pi_range2 hg hm (ja_cons ha (ja_cons hb ja_nil (by rw [hs2]; rfl)) (by rw [hs, hs2])) hs hs2) fun σ H R ⟨ρ, S, G, re, rs, h, k⟩ =>
    ⟨ρ, S, fun ds S1 => (match ds with | [d, e] => ∃ a b, d = .int a ∧ e = .int b ∧ (-(2 ^ 62) ≤ a ∧ a < 2 ^ 62 ∧ -(2 ^ 62) ≤ b ∧ b < 2 ^ 62) ∧ G (srcT (rangeD a (b - a).toNat)) S1 | _ => False), re, rs, h, fun ds S1 vs H1 k1 r1 s1 h1 => by
      dsimp only at h1
      split at h1
      · obtain ⟨n, m, rfl, rfl, h2, h4⟩ := h1
        obtain ⟨v, r, rfl, ra, rb⟩ := r1.cons'
        obtain ⟨v', r', rfl, ra', rb'⟩ := rb.cons'
        obtain rfl := rb'.nil'
        simp only [Rp] at ra ra'; subst ra; subst ra'
        exact ⟨n, m, rfl, h2, k _ S1 _ H1 k1 s1 src_range h4⟩
      · exact h1.elim⟩
/-- enumerate of a list -/
def enumD (ds : List D) : List D := ds.mapIdx fun i d => .wtup [.int (i : Nat), d]
def wEnum (g : WE) : WI := fun ρ S Q => g ρ S fun d S1 => ∃ a ds, d = .ref a ∧ S1 a = some (.lst ds) ∧ Q ⟨enumD ds, fun S => S a = some (.lst ds)⟩ S1
theorem ji_enum {e : Expr} {g : WE} {p pos tpos : Pos} {elts : List Expr} {kk : Nat} (hg : Gl X "enumerate") (hm : X.mg "enumerate" = none) (ha : JE X e g) (hs : starEach [e] X.env = [(false, eval e X.env)]) :
    JI X (.Tuple elts kk tpos) (.Call (.Name "enumerate" p) [e] [] pos) (wEnum g) :=
  PI.imp (pi_enum hg hm (ja_cons ha ja_nil (by rw [hs]; rfl)) hs) fun σ H R ⟨ρ, S, G, re, rs, h, k⟩ =>
    ⟨ρ, S, fun xs S1 => (match xs with | [d] => ∃ a ds, d = .ref a ∧ S1 a = some (.lst ds) ∧ G ⟨enumD ds, fun S => S a = some (.lst ds)⟩ S1 | _ => False), re, rs, h, fun xs S1 vs H1 k1 r1 s1 h1 => by
      dsimp only at h1
      split at h1
      · obtain ⟨a, ds, rfl, ea, h4⟩ := h1
        obtain ⟨v, r, rfl, ra, rb⟩ := r1.cons'
        obtain rfl := rb.nil'
        simp only [Rp] at ra; subst ra
        obtain ⟨ys, hy, t⟩ := s1 _ _ ea
        refine ⟨a, ys, rfl, SqL.of hy, k _ S1 _ H1 k1 s1 (fun i H' S' k' rs' lv => ?_) h4⟩
        obtain ⟨xs, hx, t⟩ := rs' a _ lv
        have hlen : (enumD ds).length = ds.length := by simp [enumD]
        refine ⟨fun d hd => ?_, fun hl => ⟨xs, SqL.of hx, by rw [← t.length, ← hlen]; exact hl⟩⟩
        have hd' : (enumD ds)[i]? = some d := hd
        unfold enumD at hd'
        rw [List.getElem?_mapIdx] at hd'
        cases ei : ds[i]? with
        | none => rw [ei] at hd'; cases hd'
        | some d0 =>
          rw [ei] at hd'
          simp only [Option.map_some, Option.some.injEq] at hd'
          subst hd'
          obtain ⟨x, hx', r⟩ := t.get ei
          refine ⟨⟨xs, x, SqL.of hx, hx'⟩, fun y H2 ⟨T, x', e1, nT, e2, hy⟩ => ?_⟩
          subst e1; subst e2
          have := hy xs (SqL.of hx)
          rw [hx'] at this; cases this
          exact ⟨Keep.new nT, by simp only [Rp]; exact ⟨T, _, rfl, SqT.of upd_same, Rps.cons (by simp only [Rp]) (Rps.cons (r.mono (Keep.new nT)) Rps.nil)⟩, fun S'' z => z.new nT⟩
      · exact h1.elim⟩
/-- zip of two lists, of two tuples -/
def zipD (xs ys : List D) : List D := (xs.zip ys).map fun p => .wtup [p.1, p.2]
def zipS (d e : D) (S : Store) (Q : Src → Store → Prop) : Prop := match d, e with
  | .ref a, .ref b => ∃ xs ys, S a = some (.lst xs) ∧ S b = some (.lst ys) ∧ Q ⟨zipD xs ys, fun S => S a = some (.lst xs) ∧ S b = some (.lst ys)⟩ S
  | .tup xs, .tup ys => Q (srcT (zipD xs ys)) S
  | _, _ => False
def wZip (ga gb : WE) : WI := fun ρ S Q => ga ρ S fun d S1 => gb ρ S1 fun e S2 => zipS d e S2 Q
theorem zipD_get {xs ys : List D} {i : Nat} {d : D} (h : (zipD xs ys)[i]? = some d) : ∃ x y, xs[i]? = some x ∧ ys[i]? = some y ∧ d = .wtup [x, y] := by
  unfold zipD at h
  rw [List.getElem?_map] at h
  cases e : (xs.zip ys)[i]? with
  | none => (rw [e] at h; cases h)
  | some p =>
    rw [e] at h
    cases h
    have := List.getElem?_zip_eq_some.mp e
    exact ⟨p.1, p.2, this.1, this.2, rfl⟩
theorem ji_zip {e e2 : Expr} {ga gb : WE} {p pos tpos : Pos} {elts : List Expr} {kk : Nat} (hg : Gl X "zip") (hm : X.mg "zip" = none) (ha : JE X e ga) (hb : JE X e2 gb)
    (hs : starEach [e, e2] X.env = (false, eval e X.env) :: starEach [e2] X.env) (hs2 : starEach [e2] X.env = [(false, eval e2 X.env)]) (hpl : (backTo pos (starEach [e2] X.env)).any (·.1) = false) :
    JI X (.Tuple elts kk tpos) (.Call (.Name "zip" p) [e, e2] [] pos) (wZip ga gb) :=
  PI.imp (RZ.pi_zipA hg hm (ja_cons ha (ja_cons hb ja_nil (by rw [hs2]; rfl)) hs) hs hpl) fun σ H R ⟨ρ, S, G, re, rs, h, k⟩ =>
    ⟨ρ, S, fun xs S1 => (match xs with | [d, e] => zipS d e S1 G | _ => False), re, rs, h, fun zs S1 vs H1 k1 r1 s1 h1 => by
      dsimp only at h1
      split at h1
      · rename_i d e
        obtain ⟨v, r, rfl, ra, rb⟩ := r1.cons'
        obtain ⟨v', r', rfl, ra', rb'⟩ := rb.cons'
        obtain rfl := rb'.nil'
        unfold zipS at h1
        split at h1
        · rename_i a b
          obtain ⟨xs, ys, ea, eb, h2⟩ := h1
          simp only [Rp] at ra ra'; subst ra; subst ra'
          obtain ⟨us, hu, t⟩ := s1 _ _ ea
          obtain ⟨ws, hw, t'⟩ := s1 _ _ eb
          refine ⟨a, b, us, ws, rfl, .inl ⟨SqL.of hu, SqL.of hw, k _ S1 _ H1 k1 s1 (fun i H' S' k' rs' lv => ?_) h2⟩⟩
          obtain ⟨us, hu, t⟩ := rs' _ _ lv.1
          obtain ⟨ws, hw, t'⟩ := rs' _ _ lv.2
          refine ⟨fun d hd => ?_, fun hl => ⟨us, ws, SqL.of hu, SqL.of hw, ?_⟩⟩
          · obtain ⟨x, y, hx, hy, rfl⟩ := zipD_get hd
            obtain ⟨u, hu', ru⟩ := t.get hx
            obtain ⟨w, hw', rw'⟩ := t'.get hy
            refine ⟨⟨us, ws, u, w, SqL.of hu, SqL.of hw, hu', hw'⟩, fun z H2 ⟨T, x', y', e1, nT, e2, hx2, hy2⟩ => ?_⟩
            subst e1; subst e2
            have q1 := hx2 us (SqL.of hu)
            have q2 := hy2 ws (SqL.of hw)
            rw [hu'] at q1; cases q1
            rw [hw'] at q2; cases q2
            exact ⟨Keep.new nT, by simp only [Rp]; exact ⟨T, _, rfl, SqT.of upd_same, Rps.cons (ru.mono (Keep.new nT)) (Rps.cons (rw'.mono (Keep.new nT)) Rps.nil)⟩, fun S'' z => z.new nT⟩
          · have : (zipD xs ys).length = min xs.length ys.length := by simp [zipD]
            have hl' : (zipD xs ys).length ≤ i := hl
            rw [← t.length, ← t'.length]
            omega
        · rename_i xs ys
          simp only [Rp] at ra ra'
          obtain ⟨a, us, rfl, q, t⟩ := ra
          obtain ⟨b, ws, rfl, q', t'⟩ := ra'
          have q := q.sqt
          have q' := q'.sqt
          refine ⟨a, b, us, ws, rfl, .inr ⟨q, q', k _ S1 _ H1 k1 s1 (fun i H' S' k' rs' lv => ?_) h1⟩⟩
          refine ⟨fun d hd => ?_, fun hl => ⟨us, ws, k'.sqt q, k'.sqt q', ?_⟩⟩
          · obtain ⟨x, y, hx, hy, rfl⟩ := zipD_get hd
            obtain ⟨u, hu', ru⟩ := t.get hx
            obtain ⟨w, hw', rw'⟩ := t'.get hy
            refine ⟨⟨us, ws, u, w, k'.sqt q, k'.sqt q', hu', hw'⟩, fun z H2 ⟨T, x', y', e1, nT, e2, hx2, hy2⟩ => ?_⟩
            subst e1; subst e2
            have q1 := hx2 us (k'.sqt q)
            have q2 := hy2 ws (k'.sqt q')
            rw [hu'] at q1; cases q1
            rw [hw'] at q2; cases q2
            have kk := k'.trans (Keep.new nT (o := .tup [u, w]))
            exact ⟨Keep.new nT, by simp only [Rp]; exact ⟨T, _, rfl, SqT.of upd_same, Rps.cons (ru.mono kk) (Rps.cons (rw'.mono kk) Rps.nil)⟩, fun S'' z => z.new nT⟩
          · have : (zipD xs ys).length = min xs.length ys.length := by simp [zipD]
            have hl' : (zipD xs ys).length ≤ i := hl
            rw [← t.length, ← t'.length]
            omega
        · exact h1.elim
      · exact h1.elim⟩
end
end GL
end

-- GDP
section
namespace GL
open PyProof.Rows PySem PySem.Spec L2
/-- a tuple whose items are pairs, as dict() takes it -/
theorem dict_tup_pairs {prog : Program} {w : World} {A : Around} {E : Value → Shared → Prop} {s : Shared} {l : Addr} {ol : Obj} {items : Array Value} {n : Nat} {prs : List (Key × Value)} {Q : Value → Shared → Prop}
    (calm : A.handled = none) (at_ : s.heap.get? l = some ol) (cls : ol.cls = .type "tuple") (own : ol.dict = none) (dat : ol.data = .seq items n) (size : items.size = prs.length) (few : prs.length ≤ sizeLine)
    (each : ∀ (j : Nat) (q : Key × Value), prs[j]? = some q → ∃ bu : Addr × Value, items[j]? = some (.ref bu.1) ∧ IsTup s.heap bu.1 #[bu.2, q.2] ∧ keyIs q.1 bu.2 = true)
    (after : ∀ h' tk, h'.DictOf (mixKind prog w) s.heap.objs.size (merged [] prs) → (∀ b o, s.heap.get? b = some o → h'.get? b = some o) → Q (.ref s.heap.objs.size) { s with heap := h', toks := tk }) : wpAny (model prog w) A (call (.type "dict") [.ref l]) Q E s := by
  have some_ : ∀ j : Nat, ∃ bu : Addr × Value, ∀ q : Key × Value, prs[j]? = some q → items[j]? = some (.ref bu.1) ∧ IsTup s.heap bu.1 #[bu.2, q.2] ∧ keyIs q.1 bu.2 = true := fun j => by
    cases e : prs[j]? with
    | none => exact ⟨(0, .none), fun q z => by cases z⟩
    | some q =>
      obtain ⟨bu, z⟩ := each j q e
      exact ⟨bu, fun q' z' => by cases z'; exact z⟩
  obtain ⟨F, hF⟩ := Classical.axiomOfChoice some_
  have back : ∀ (j : Nat) (k v : Value), (prs.mapIdx fun j q => ((F j).2, q.2))[j]? = some (k, v) → ∃ q, prs[j]? = some q ∧ k = (F j).2 ∧ v = q.2 := fun j k v z => by
    rw [List.getElem?_mapIdx] at z
    cases e : prs[j]? with
    | none => rw [e] at z; exact nomatch z
    | some q => rw [e] at z; cases z; exact ⟨q, rfl, rfl, rfl⟩
  have arg := PairArg.tuple (prog := prog) (w := w) l items (fun j => (F j).1) (prs.mapIdx fun j q => ((F j).2, q.2))
  refine call_dict_pairs (knd := mixKind prog w) (kvs := prs) arg calm ⟨⟨ol, n, at_, cls, own, dat⟩, by rw [List.length_mapIdx]; exact size, fun j k v z => ?_⟩ ⟨by rw [List.length_mapIdx], fun j k v z => ?_⟩ (by rw [List.length_mapIdx]; exact few) fun h' tk hd' kp => after h' tk hd' fun b o => kp b o (List.not_mem_nil)
  · obtain ⟨q, e, rfl, rfl⟩ := back j k v z
    exact ⟨(hF j q e).1, .inl (hF j q e).2.1⟩
  · obtain ⟨q, e, rfl, rfl⟩ := back j k v z
    exact ⟨q.1, e, (hF j q e).2.2⟩
/-- dict(t) of a tuple of pairs -/
theorem call_dictT {X : Cx} (hcalm : X.calm = true) : CallR X (.type "dict") (fun xs H Q => ∃ (a : Addr) (ps : List Addr) (kvs : List (Key × V)), xs = [.ref a] ∧ TpT X.K H a (ps.map V.ref) ∧ Paired (fun p kv => SqT X.K H p [kV kv.1, kv.2]) ps kvs ∧ ∀ p, H p = none → Q (.ref p) (upd H p (.dK (mergeK [] kvs)))) := by
  rintro pins s σ H xs us Q I r ⟨a, ps, kvs, rfl, hq, hp, q⟩
  rw [Vals.ref1 r]
  obtain ⟨its, rv, ⟨o, ho, hc, n, hdat⟩, hz⟩ := I.tuple hq.sqt
  obtain rfl := refs_at rv
  rw [List.length_map] at hz
  (obtain ⟨prs, rel, hl, hpr⟩ := pairs_of I hp)
  have hd : o.dict = none := by
    rcases hq with ⟨o', h1, h2⟩ | ⟨o', its', n', h1, _, h2, _⟩
    · have e := (I.hok _ _ h1).1
      rw [ho] at e; cases e; exact h2
    · have e := I.kIn _ _ h1
      rw [ho] at e; cases e; exact h2
  refine dict_tup_pairs (prs := prs) (I.ok.hd hcalm) ho hc hd hdat (by simp [hl]) (by rw [hl]; exact hz) (fun j q' e => ?_) fun h' tk hd' k => ?_
  · (obtain ⟨b, u, e1, e2, e3⟩ := hpr j q' e)
    exact ⟨(b, u), by simp [e1], e2, e3⟩
  · (have hm : (s.heap.objs.size == sysModules) = false := beq_eq_false_iff_ne.mpr (Nat.ne_of_gt I.big))
    have hlen : ((mergeK [] kvs).length ≤ sizeLine) := by
      have := length_mergeK kvs []
      rw [List.length_nil, Nat.zero_add, rel.length, hl] at this
      omega
    (exact ⟨.ref s.heap.objs.size, upd H s.heap.objs.size (.dK (mergeK [] kvs)), I.laid (t' := tk) k (Nat.le_refl _) (show ObjOk X.prog X.w _ _ _ (.dK (mergeK [] kvs)) from ⟨hlen, hm, merged [] prs, KV.merge rel .nil, hd'⟩), rfl, q _ (I.hok.fresh (Nat.le_refl _))⟩)
/-- pairs of a key and a value -/
def pairD : D → Option (Key × D)
  | .tup [k, v] => (keyD k).map fun x => (x, v)
  | _ => none
def pairsD : List D → Option (List (Key × D))
  | [] => some []
  | d :: r => (pairD d).bind fun p => (pairsD r).map fun q => p :: q
theorem pairs_rel {X : Cx} {H : Hp} : ∀ {ds : List D} {kvs : List (Key × D)} {xs : List V}, pairsD ds = some kvs → Rps (md X) H ds xs → ∃ (ps : List Addr) (l : List (Key × V)), xs = ps.map V.ref ∧ Paired (fun p kv => SqT X.K H p [kV kv.1, kv.2]) ps l ∧ Kvs (md X) H kvs l
  | [], _, xs, h, r => by
    cases h
    rw [r.nil']
    exact ⟨[], [], rfl, .nil, rfl⟩
  | d :: ds, _, xs, h, r => by
    obtain ⟨v, l, rfl, r1, r2⟩ := r.cons'
    unfold pairsD at h
    cases e : pairD d with
    | none => (rw [e] at h; cases h)
    | some p =>
      rw [e] at h
      cases e2 : pairsD ds with
      | none => rw [e2] at h; cases h
      | some q =>
        rw [e2] at h
        cases h
        obtain ⟨ps, l', rfl, pr, kv⟩ := pairs_rel e2 r2
        unfold pairD at e
        split at e
        · rename_i k w
          cases e3 : keyD k with
          | none => rw [e3] at e; cases e
          | some x =>
            rw [e3] at e
            cases e
            simp only [Rp] at r1
            obtain ⟨a, ys, rfl, t, r3⟩ := r1
            obtain ⟨y, ys', rfl, r4, r5⟩ := r3.cons'
            obtain ⟨z, ys'', rfl, r6, r7⟩ := r5.cons'
            rw [r7.nil'] at t
            rw [keyD_ok r4 e3] at t
            exact ⟨a :: ps, (x, z) :: l', rfl, .cons t.sqt pr, ⟨z, l', rfl, r6, kv⟩⟩
        · cases e
end GL
end

-- G8
section
namespace GL
open PyProof.Rows PySem PySem.Spec L2

/-! ### data without anything that may change -/
mutual
def pyD : D → PyData
  | .non => .none
  | .bl b => .bool b
  | .int i => .int i
  | .str x => .str x
  | .tup ds => .tuple (pyDs ds)
  | .frl ds => .list (pyDs ds)
  | .wtup _ => .none
  | .ref _ => .none
  | .ty _ => .none
  | .glo _ => .none
def pyDs : List D → List PyData
  | [] => []
  | d :: ds => pyD d :: pyDs ds
end
mutual
def plainD : D → Bool
  | .non => true
  | .bl _ => true
  | .int _ => true
  | .str _ => true
  | .tup ds => plainDs ds
  | .frl ds => plainDs ds
  | .wtup _ => false
  | .ref _ => false
  | .ty _ => false
  | .glo _ => false
def plainDs : List D → Bool
  | [] => true
  | d :: ds => plainD d && plainDs ds
end
theorem pyDs_map : ∀ ds : List D, pyDs ds = ds.map pyD
  | [] => by simp only [pyDs, List.map_nil]
  | d :: ds => by simp only [pyDs, List.map_cons, pyDs_map ds]
mutual
theorem pyD_dp {K : PySem.W.Frag} {mg : Str → Option Value} {H : Hp} : ∀ (d : D) (x : V), plainD d = true → Rp ⟨K, mg⟩ H d x → Dp K H x (pyD d)
  | .non, x, _, r => by simp only [Rp] at r; subst r; simp only [pyD]; exact .non
  | .bl b, x, _, r => by simp only [Rp] at r; subst r; simp only [pyD]; exact .bl b
  | .int b, x, _, r => by simp only [Rp] at r; subst r; simp only [pyD]; exact .int b
  | .str b, x, _, r => by simp only [Rp] at r; subst r; simp only [pyD]; exact .str b
  | .wtup ds, x, p, r => by simp only [plainD] at p; cases p
  | .tup ds, x, p, r => by
    simp only [Rp] at r
    obtain ⟨a, xs, rfl, q, t⟩ := r
    simp only [pyD]
    exact .tup q.sqt (pyDs_dp ds xs (by simpa only [plainD] using p) t)
  | .frl ds, x, p, r => by
    simp only [Rp] at r
    obtain ⟨a, xs, rfl, q, t⟩ := r
    simp only [pyD]
    exact .lst q.sql (pyDs_dp ds xs (by simpa only [plainD] using p) t)
  | .ref _, _, p, _ => by simp [plainD] at p
  | .ty _, _, p, _ => by simp [plainD] at p
  | .glo _, _, p, _ => by simp [plainD] at p
theorem pyDs_dp {K : PySem.W.Frag} {mg : Str → Option Value} {H : Hp} : ∀ (ds : List D) (xs : List V), plainDs ds = true → Rps ⟨K, mg⟩ H ds xs → DpAll K H xs (pyDs ds)
  | [], xs, _, r => by rw [r.nil']; simp only [pyDs]; exact .nil
  | d :: ds, xs, p, r => by
    obtain ⟨v, l, rfl, h1, h2⟩ := r.cons'
    have p' : plainD d = true ∧ plainDs ds = true := by simpa [plainDs] using p
    simp only [pyDs]
    exact .cons (pyD_dp d v p'.1 h1) (pyDs_dp ds l p'.2 h2)
end
/-- what can be sorted; the order -/
def sortable (es : List D) : Prop := es.length ≤ sizeLine ∧ (∀ d ∈ es, plainD d = true ∧ (pyD d).depth ≤ 40) ∧ PySem.W.AllAlike (es.map pyD) ∧ PySem.W.Sortable (es.map pyD)
def sortD (es : List D) : List D := es.mergeSort (PySem.W.dataLe false pyD)

/-! ### kinds of values -/
inductive Kn where
  | non | bl | int | str | tup | lst | dct
deriving DecidableEq
def Kn.name : Kn → String
  | .non => "NoneType" | .bl => "bool" | .int => "int" | .str => "str" | .tup => "tuple" | .lst => "list" | .dct => "dict"
def kindD (S : Store) : D → Option Kn
  | .non => some .non
  | .bl _ => some .bl
  | .int _ => some .int
  | .str _ => some .str
  | .tup _ => some .tup
  | .frl _ => some .lst
  | .ref a => match S a with
    | some (.lst _) => some .lst
    | some (.dct _) => some .dct
    | _ => none
  | _ => none
def knOf (n : String) : Option Kn :=
  if n = "tuple" then some .tup else if n = "str" then some .str else if n = "int" then some .int else if n = "bool" then some .bl else if n = "list" then some .lst else if n = "dict" then some .dct else none
def isK (k n : Kn) : Bool := match n with
  | .int => k == .int || k == .bl
  | n => k == n
theorem kit_all : ∀ k n : Kn, n ≠ .non → kitB k.name n.name = some (isK k n) := by
  intro k n hn
  cases k <;> cases n <;> first | exact absurd rfl hn | decide +kernel
theorem knOf_name {n : String} {k : Kn} (h : knOf n = some k) : n = k.name ∧ k ≠ .non := by
  unfold knOf at h
  repeat' split at h
  all_goals (cases h; try subst_vars)
  all_goals exact ⟨rfl, by decide⟩
section
variable {X : Cx}
theorem kindD_ok {H : Hp} {S : Store} {d : D} {x : V} {k : Kn} (r : Rp (md X) H d x) (s : RS (md X) H S) (h : kindD S d = some k) : TyX X.K H x (.type k.name) := by
  cases d with
  | non => simp only [Rp] at r; subst r; cases h; exact .base .non
  | bl b => simp only [Rp] at r; subst r; cases h; exact .base (.bl b)
  | int i => simp only [Rp] at r; subst r; cases h; exact .base (.int i)
  | str z => simp only [Rp] at r; subst r; cases h; exact .base (.str z)
  | tup ds =>
    simp only [Rp] at r
    obtain ⟨a, xs, rfl, q, _⟩ := r
    cases h
    rcases q with ⟨o, q, _⟩ | ⟨o, its, n, q, c, _⟩
    · exact .fTuple q
    · exact .kTuple q c
  | frl ds =>
    simp only [Rp] at r
    obtain ⟨a, xs, rfl, q, _⟩ := r
    cases h
    rcases q with ⟨o, q⟩ | ⟨o, its, n, q, c, _⟩
    · exact .base (.frz q)
    · exact .kList q c
  | ref a =>
    simp only [Rp] at r; subst r
    simp only [kindD] at h
    split at h
    · rename_i ds e; cases h; obtain ⟨xs, hx, _⟩ := s _ _ e; exact .base (.lst hx)
    · rename_i kvs e; cases h; obtain ⟨xs, hx, _⟩ := s _ _ e; exact .base (.dK hx)
    · cases h
  | wtup _ => cases h
  | ty _ => cases h
  | glo _ => cases h

/-! ### calls of the language's own functions, by name -/
inductive Bl where
  | len | isinstance | int | list | tuple | all | any | max | min | sum | sorted | str | dict | repr | dictP
deriving DecidableEq
def Bl.name : Bl → Str
  | .len => "len" | .isinstance => "isinstance" | .int => "int" | .list => "list" | .tuple => "tuple" | .all => "all" | .any => "any" | .max => "max" | .min => "min" | .sum => "sum" | .sorted => "sorted" | .str => "str" | .dict => "dict" | .dictP => "dict" | .repr => "repr"
/-- is it a class -/
def Bl.ty : Bl → Option String
  | .int => some "int" | .list => some "list" | .tuple => some "tuple" | .str => some "str" | .dict => some "dict" | .dictP => some "dict" | _ => none
def Bl.id : Bl → String
  | .len => "len" | .isinstance => "isinstance" | .all => "all" | .any => "any" | .max => "max" | .min => "min" | .sum => "sum" | .sorted => "sorted" | .repr => "repr" | _ => ""
theorem Bl.boot_ty : ∀ (b : Bl) (T : String), b.ty = some T → bootBuiltins b.name = some (.type T) := by
  intro b T h; cases b <;> cases h <;> decide +kernel
theorem Bl.boot_id : ∀ (b : Bl), b.ty = none → bootBuiltins b.name = some (.builtin b.id) := by
  intro b h; cases b <;> first | (cases h; done) | decide +kernel
theorem Bl.name_ok : ∀ (b : Bl), b.name ≠ "__name__" ∧ (b.name == ("__debug__" : Str)) = false := by
  intro b; cases b <;> decide +kernel
def lenD (S : Store) : D → Option Nat
  | .str x => if x.length ≤ sizeLine then some x.length else none
  | .tup ds => some ds.length
  | .frl ds => some ds.length
  | .ref a => match S a with
    | some (.lst ds) => some ds.length
    | some (.dct kvs) => some kvs.length
    | _ => none
  | _ => none
/-- the items of a list or a tuple -/
def seqD (S : Store) : D → Option (List D)
  | .tup ds => some ds
  | .frl ds => some ds
  | .ref a => match S a with
    | some (.lst ds) => some ds
    | _ => none
  | _ => none
/-- a value as data, as the store stands -/
def keyP : Key → PyData
  | .inl i => .int i
  | .inr x => .str x
def dataD (S : Store) : Nat → D → Option PyData
  | 0, _ => none
  | n + 1, d => match d with
    | .non => some .none
    | .bl b => some (.bool b)
    | .int i => some (.int i)
    | .str x => some (.str x)
    | .tup ds => (ds.mapM (dataD S n)).map PyData.tuple
    | .frl ds => (ds.mapM (dataD S n)).map PyData.list
    | .ref a => match S a with
      | some (.lst ds) => (ds.mapM (dataD S n)).map PyData.list
      | some (.dct kvs) => ((kvs.map (·.2)).mapM (dataD S n)).map fun ps => PyData.dict ((kvs.map fun kv => keyP kv.1).zip ps)
      | _ => none
    | _ => none
/-- the text that repr gives -/
def reprT (S : Store) (d : D) : Option Str := (dataD S 50 d).bind fun p => if p.showable = true ∧ p.depth ≤ 58 ∧ p.shown.length ≤ sizeLine then some p.shown else none
def bltD (b : Bl) : GN := fun ds S Q => match b, ds with
  | .len, [d] => ∃ n, lenD S d = some n ∧ Q (.int (n : Nat)) S
  | .isinstance, [d, .ty n] => ∃ k t, kindD S d = some k ∧ knOf n = some t ∧ Q (.bl (isK k t)) S
  | .int, [.int i] => Q (.int i) S
  | .int, [.bl b] => Q (.int (if b then 1 else 0)) S
  | .list, [d] => ∃ es, seqD S d = some es ∧ wNew (.lst es) S Q
  | .tuple, [.tup es] => Q (.tup es) S
  | .tuple, [d] => ∃ es, seqD S d = some es ∧ Q (.tup es) S
  | .all, [.ref a] => ∃ bs : List Bool, S a = some (.lst (bs.map D.bl)) ∧ Q (.bl (bs.all id)) S
  | .any, [.ref a] => ∃ bs : List Bool, S a = some (.lst (bs.map D.bl)) ∧ Q (.bl (bs.any id)) S
  | .max, [.int i, .int j] => Q (.int (if j > i then j else i)) S
  | .min, [.int i, .int j] => Q (.int (if j < i then j else i)) S
  | .max, [.ref a] => ∃ ns : List Int, S a = some (.lst (ns.map D.int)) ∧ 0 < ns.length ∧ ∀ m, m ∈ ns → (∀ y, y ∈ ns → y ≤ m) → Q (.int m) S
  | .min, [.ref a] => ∃ ns : List Int, S a = some (.lst (ns.map D.int)) ∧ 0 < ns.length ∧ ∀ m, m ∈ ns → (∀ y, y ∈ ns → m ≤ y) → Q (.int m) S
  | .sum, [.ref a] => ∃ ns : List Int, S a = some (.lst (ns.map D.int)) ∧ Q (.int ns.sum) S
  | .sorted, [.ref a] => ∃ es, S a = some (.lst es) ∧ sortable es ∧ wNew (.lst (sortD es)) S Q
  | .str, [.int i] => i.natAbs.log2 < 1920 ∧ Q (.str (toString i)) S
  | .str, [.str x] => Q (.str x) S
  | .str, [.bl b] => Q (.str (if b then "True" else "False")) S
  | .repr, [d] => ∃ t, reprT S d = some t ∧ Q (.str t) S
  | .dict, [.ref a] => ∃ kvs, S a = some (.dct kvs) ∧ wNew (.dct kvs) S Q
  | .dictP, [d] => ∃ ds kvs, seqD S d = some ds ∧ pairsD ds = some kvs ∧ wNew (.dct (mergeD [] kvs)) S Q
  | _, _ => False
end
end GL
end

-- GR
section
namespace GL
open PyProof.Rows PySem PySem.Spec L2
section
variable {X : Cx}
/-- the table of modules stands in the base -/
def SysM (X : Cx) : Prop := ∃ o es ep, X.base.get? sysModules = some o ∧ o.data = .dict es ep
variable {pins : List (Addr × Obj)} {σ : L2.St} {H : Hp} {s : Shared} {S : Store}
theorem SysM.noseq (m : SysM X) (I : Inv X pins σ H s) {a : Addr} {o : Obj} {its : Array Value} {n : Nat} (e : s.heap.get? a = some o) (d : o.data = .seq its n) : a ≠ sysModules := by
  rintro rfl
  obtain ⟨o', es, ep, h1, h2⟩ := m
  rw [I.bk _ _ h1] at e
  cases e
  rw [h2] at d; cases d
theorem mapM_cons' {α β : Type} {f : α → Option β} {x : α} {xs : List α} {ps : List β} (h : (x :: xs).mapM f = some ps) : ∃ p qs, ps = p :: qs ∧ f x = some p ∧ xs.mapM f = some qs := by
  rw [List.mapM_cons] at h
  cases e : f x with
  | none => (rw [e] at h; cases h)
  | some p =>
    cases e2 : xs.mapM f with
    | none => rw [e, e2] at h; cases h
    | some qs => rw [e, e2] at h; cases h; exact ⟨p, qs, rfl, rfl, rfl⟩
theorem kv_read {k : Key} {u : Value} {h : Heap} (r : keyIs k u = true) : Reads h u (keyP k) [] := by
  rcases keyIs_shape r with ⟨i, t, rfl, rfl⟩ | ⟨x, t, rfl, rfl⟩
  · exact .int i t
  · exact .str x t
theorem dk_keys {P : Program} {w : World} {h : Heap} : ∀ {kvs : List (Key × D)} {l : List (Key × V)} {vs : List (Key × Value)} {es : List DictEntry} {M : Md} {H : Hp}, Kvs M H kvs l → KV l vs → Pairs (mixKind P w) es vs → ReadsAll h (es.map (·.key)) (kvs.map fun kv => keyP kv.1) []
  | [], l, vs, es, M, H, h1, h2, h3 => by
    obtain rfl : l = [] := h1
    cases h2; cases h3; exact .nil
  | (k, d) :: kvs, l, vs, es, M, H, h1, h2, h3 => by
    obtain ⟨v, l', rfl, _, t⟩ := h1
    cases h2 with
    | cons q1 q2 => cases h3 with
      | cons r1 r2 r3 =>
        have := ReadsAll.cons (kv_read (h := h) (k := k) (by rw [← q1.1] at r1; exact r1)) (dk_keys (h := h) t q2 r3)
        exact this
theorem dk_vals {P : Program} {w : World} : ∀ {kvs : List (Key × D)} {l : List (Key × V)} {vs : List (Key × Value)} {es : List DictEntry} {M : Md} {H : Hp}, Kvs M H kvs l → KV l vs → Pairs (mixKind P w) es vs → Rps M H (kvs.map (·.2)) (l.map (·.2)) ∧ Vals (l.map (·.2)) (es.map (·.val))
  | [], l, vs, es, M, H, h1, h2, h3 => by
    obtain rfl : l = [] := h1
    cases h2; cases h3; exact ⟨Rps.nil, .nil⟩
  | (k, d) :: kvs, l, vs, es, M, H, h1, h2, h3 => by
    obtain ⟨v, l', rfl, r, t⟩ := h1
    cases h2 with
    | cons q1 q2 => cases h3 with
      | cons r1 r2 r3 =>
        obtain ⟨a1, a2⟩ := dk_vals t q2 r3
        exact ⟨Rps.cons r a1, .cons (by show L2.RelV v (DictEntry.val _); rw [r2]; exact q1.2) a2⟩
theorem mapM_len {α β : Type} {f : α → Option β} : ∀ {xs : List α} {ps : List β}, xs.mapM f = some ps → ps.length = xs.length
  | [], ps, h => by cases h; rfl
  | x :: xs, ps, h => by obtain ⟨p, qs, rfl, _, h2⟩ := mapM_cons' h; rw [List.length_cons, List.length_cons, mapM_len h2]
mutual
theorem dataD_reads (m : SysM X) (I : Inv X pins σ H s) (rs : RS (md X) H S) : ∀ (n : Nat) (d : D) (p : PyData) (v : V) (u : Value), dataD S n d = some p → Rp (md X) H d v → L2.RelV v u → ∃ as, Reads s.heap u p as ∧ sysModules ∉ as
  | 0, _, _, _, _, h, _, _ => by cases h
  | n + 1, d, p, v, u, h, r, rv => by
    cases d with
    | non => simp only [Rp] at r; subst r; simp only [dataD] at h; cases h; cases rv; exact ⟨[], .none, by simp⟩
    | bl b => simp only [Rp] at r; subst r; simp only [dataD] at h; cases h; cases rv; exact ⟨[], .bool b, by simp⟩
    | int b => simp only [Rp] at r; subst r; simp only [dataD] at h; cases h; obtain ⟨t, rfl⟩ := rv; exact ⟨[], .int b t, by simp⟩
    | str b => simp only [Rp] at r; subst r; simp only [dataD] at h; cases h; obtain ⟨t, rfl⟩ := rv; exact ⟨[], .str b t, by simp⟩
    | tup ds =>
      simp only [dataD] at h
      cases e : ds.mapM (dataD S n) with
      | none => (rw [e] at h; cases h)
      | some ps =>
        rw [e] at h; cases h
        simp only [Rp] at r
        obtain ⟨a, xs, rfl, q, t⟩ := r
        obtain ⟨its, r1, ⟨o, h1, h2, n', h3⟩, _⟩ := I.tuple q.sqt
        cases rv
        obtain ⟨as, hr, hs⟩ := dataD_readsAll m I rs n ds ps xs its e t r1
        exact ⟨as, .tuple h1 h2 h3 hr, hs⟩
    | frl ds =>
      simp only [dataD] at h
      cases e : ds.mapM (dataD S n) with
      | none => (rw [e] at h; cases h)
      | some ps =>
        rw [e] at h; cases h
        simp only [Rp] at r
        obtain ⟨a, xs, rfl, q, t⟩ := r
        obtain ⟨its, r1, ⟨o, n', h1, h2, _, h3⟩, _⟩ := I.list q.sql
        cases rv
        obtain ⟨as, hr, hs⟩ := dataD_readsAll m I rs n ds ps xs its e t r1
        exact ⟨_, .list h1 h2 h3 hr, fun hm => (List.mem_cons.mp hm).elim (fun e => m.noseq I h1 h3 e.symm) hs⟩
    | ref a =>
      simp only [Rp] at r; subst r
      simp only [dataD] at h
      cases rv
      split at h
      · rename_i ds hS
        cases e : ds.mapM (dataD S n) with
        | none => (rw [e] at h; cases h)
        | some ps =>
          rw [e] at h; cases h
          obtain ⟨xs, hx, t⟩ := rs _ _ hS
          obtain ⟨its, r1, ⟨o, n', h1, h2, _, h3⟩, _⟩ := I.list (SqL.of (K := X.K) hx)
          obtain ⟨as, hr, hs⟩ := dataD_readsAll m I rs n ds ps xs its e t r1
          exact ⟨_, .list h1 h2 h3 hr, fun hm => (List.mem_cons.mp hm).elim (fun e => m.noseq I h1 h3 e.symm) hs⟩
      · rename_i kvs hS
        cases e : (kvs.map (·.2)).mapM (dataD S n) with
        | none => (rw [e] at h; cases h)
        | some ps =>
          rw [e] at h; cases h
          obtain ⟨l, hl, t⟩ := rs _ _ hS
          obtain ⟨_, hsy, vs, kv, o, es, ep, h1, h2, h3, _, hp, _⟩ := I.hok _ _ hl
          have hsy' : sysModules ≠ a := by intro z; rw [← z] at hsy; exact absurd hsy (by decide)
          obtain ⟨b1, b2⟩ := dk_vals t kv hp
          obtain ⟨as, hr, hs⟩ := dataD_readsAll m I rs n _ ps _ _ e b1 b2
          have hk := dk_keys (h := s.heap) t kv hp
          have hlen : (kvs.map fun kv => keyP kv.1).length = ps.length := by rw [mapM_len e, List.length_map, List.length_map]
          refine ⟨a :: [] ++ as, .dict h1 h2.1 h3 (by rw [List.map_fst_zip (by omega)]; exact hk) (by rw [List.map_snd_zip (by omega)]; exact hr), fun hm => ?_⟩
          rw [List.singleton_append] at hm
          exact (List.mem_cons.mp hm).elim hsy' hs
      · cases h
    | wtup _ => simp only [dataD] at h; cases h
    | ty _ => simp only [dataD] at h; cases h
    | glo _ => simp only [dataD] at h; cases h
theorem dataD_readsAll (m : SysM X) (I : Inv X pins σ H s) (rs : RS (md X) H S) : ∀ (n : Nat) (ds : List D) (ps : List PyData) (xs : List V) (us : List Value), ds.mapM (dataD S n) = some ps → Rps (md X) H ds xs → Vals xs us → ∃ as, ReadsAll s.heap us ps as ∧ sysModules ∉ as
  | n, [], ps, xs, us, h, r, rv => by
    obtain rfl := r.nil'
    cases rv
    cases h
    exact ⟨[], .nil, by simp⟩
  | n, d :: ds, ps, xs, us, h, r, rv => by
    obtain ⟨p, qs, rfl, h1, h2⟩ := mapM_cons' h
    obtain ⟨v, l, rfl, h3, h4⟩ := r.cons'
    cases rv with
    | cons r1 r2 =>
      obtain ⟨as, a1, a2⟩ := dataD_reads m I rs n d p v _ h1 h3 r1
      obtain ⟨bs, b1, b2⟩ := dataD_readsAll m I rs n ds qs l _ h2 h4 r2
      exact ⟨_, .cons a1 b1, fun hm => (List.mem_append.mp hm).elim a2 b2⟩
end
/-- repr -/
theorem repr_ok (m : SysM X) (hg : X.A.guards = some []) (hu : X.A.units + 62 < cLine) (I : Inv X pins σ H s) (rs : RS (md X) H S) {d : D} {v : V} {t : Str} {us : List Value} {Q : VK} (r : Rp (md X) H d v) (rv : Vals [v] us) (h : reprT S d = some t) (hQ : Q (.str t) H) :
    wpAny (model X.prog X.w) X.A (call (.builtin "repr") us) (EP X pins σ Q) X.xe s := by
  unfold reprT at h
  cases e : dataD S 50 d with
  | none => (rw [e] at h; cases h)
  | some p =>
    rw [e] at h
    simp only [Option.bind_some] at h
    split at h
    · rename_i hp
      cases h
      cases rv with
      | cons r1 r2 =>
        cases r2
        rename_i u
        obtain ⟨as, hr, hs⟩ := dataD_reads m I rs 50 d p v u e r r1
        have fin : ∀ tk u, EP X pins σ Q (.str p.shown u) { s with toks := tk } := fun tk u => ⟨.str p.shown, H, I.tok tk, ⟨u, rfl⟩, hQ⟩
        have key : ∀ {a : Addr}, u = .ref a → wpAny (model X.prog X.w) X.A (call (.builtin "repr") [u]) (EP X pins σ Q) X.xe s := fun {a} ha => by
          subst ha
          refine repr_of_reads' hr hp.1 (fun _ => hs) hg (by have := hp.2.1; omega) (fun _ _ e => e) (fun h' u tk hk => ?_) hp.2.2
          exact ⟨.str p.shown, H, I.kept hk, ⟨u, rfl⟩, hQ⟩
        cases hr with
        | none => exact P.repr_of_none (by simpa only [PyData.shown] using fin _ _)
        | bool b => exact P.repr_of_bool (by simpa only [PyData.shown] using fin _ _)
        | int i t => exact P.repr_of_int (by simpa [PyData.showable] using hp.1) (by simpa only [PyData.shown] using fin _ _)
        | str x t => exact P.repr_of_str (by simpa only [PyData.shown] using fin _ _) (by simpa only [PyData.shown] using hp.2.2)
        | list => exact key rfl
        | tuple => exact key rfl
        | dict => exact key rfl
    · cases h
end
end GL
end

-- G9
section
namespace GL
open PyProof.Rows PySem PySem.Spec L2
section
variable {X : Cx}
theorem Rps.one {M : Md} {H : Hp} {d : D} {xs : List V} (r : Rps M H [d] xs) : ∃ v, xs = [v] ∧ Rp M H d v := by
  obtain ⟨v, l, rfl, h, t⟩ := r.cons'
  obtain rfl := t.nil'
  exact ⟨v, rfl, h⟩
theorem Rps.two {M : Md} {H : Hp} {d e : D} {xs : List V} (r : Rps M H [d, e] xs) : ∃ v w, xs = [v, w] ∧ Rp M H d v ∧ Rp M H e w := by
  obtain ⟨v, l, rfl, h, t⟩ := r.cons'
  obtain ⟨w, rfl, h'⟩ := t.one
  exact ⟨v, w, rfl, h, h'⟩
theorem Rps.bls {M : Md} {H : Hp} : ∀ {bs : List Bool} {xs : List V}, Rps M H (bs.map D.bl) xs → xs = bs.map V.bl
  | [], xs, h => h.nil'
  | b :: bs, xs, h => by obtain ⟨v, r, rfl, h1, h2⟩ := Rps.cons' (by simpa using h); simp only [Rp] at h1; rw [h1, Rps.bls h2]; rfl
theorem Rps.ints' {M : Md} {H : Hp} : ∀ {ns : List Int} {xs : List V}, Rps M H (ns.map D.int) xs → xs = ns.map V.int
  | [], xs, h => h.nil'
  | b :: bs, xs, h => by obtain ⟨v, r, rfl, h1, h2⟩ := Rps.cons' (by simpa using h); simp only [Rp] at h1; rw [h1, Rps.ints' h2]; rfl
theorem Rps.strs' {M : Md} {H : Hp} : ∀ {ns : List Str} {xs : List V}, Rps M H (ns.map D.str) xs → xs = ns.map V.str
  | [], xs, h => h.nil'
  | b :: bs, xs, h => by obtain ⟨v, r, rfl, h1, h2⟩ := Rps.cons' (by simpa using h); simp only [Rp] at h1; rw [h1, Rps.strs' h2]; rfl
theorem Rps.strs {M : Md} {H : Hp} : ∀ (ns : List Str), Rps M H (ns.map D.str) (ns.map V.str)
  | [] => Rps.nil
  | n :: ns => Rps.cons (by simp only [Rp]) (Rps.strs ns)
theorem seqD_ok {H : Hp} {S : Store} {d : D} {x : V} {es : List D} (r : Rp (md X) H d x) (s : RS (md X) H S) (h : seqD S d = some es) : ∃ a ys, x = .ref a ∧ Rps (md X) H es ys ∧ ((SqL X.K H a ys) ∨ (TpT X.K H a ys)) := by
  cases d with
  | tup ds => simp only [Rp] at r; obtain ⟨a, xs, rfl, q, t⟩ := r; cases h; exact ⟨a, xs, rfl, t, .inr q⟩
  | frl ds => simp only [Rp] at r; obtain ⟨a, xs, rfl, q, t⟩ := r; cases h; exact ⟨a, xs, rfl, t, .inl q.sql⟩
  | ref a =>
    simp only [Rp] at r; subst r
    simp only [seqD] at h
    split at h
    · rename_i ds e; cases h; obtain ⟨xs, hx, t⟩ := s _ _ e; exact ⟨a, xs, rfl, t, .inl (SqL.of hx)⟩
    · cases h
  | _ => cases h
theorem lenD_ok {pins : List (Addr × Obj)} {s : Shared} {σ : L2.St} {H : Hp} {S : Store} {d : D} {x : V} {us : List Value} {n : Nat} {Q : VK} (I : Inv X pins σ H s) (r : Rp (md X) H d x) (rs : RS (md X) H S) (h : lenD S d = some n) (rv : Vals [x] us) (q : Q (.int (n : Nat)) H) :
    wpAny (model X.prog X.w) X.A (call (.builtin "len") us) (EP X pins σ Q) X.xe s := by
  cases d with
  | str z =>
    simp only [Rp] at r; subst r
    simp only [lenD] at h
    split at h
    · rename_i hl; cases h; exact call_len_str pins s σ H _ us Q I rv ⟨z, rfl, hl, q⟩
    · cases h
  | tup ds =>
    simp only [Rp] at r; obtain ⟨a, xs, rfl, q', t⟩ := r; cases h
    exact call_len_seq pins s σ H _ us Q I rv ⟨a, xs, rfl, .inr q'.sqt, by rw [← t.length]; exact q⟩
  | frl ds =>
    simp only [Rp] at r; obtain ⟨a, xs, rfl, q', t⟩ := r; cases h
    exact call_len_seq pins s σ H _ us Q I rv ⟨a, xs, rfl, .inl q'.sql, by rw [← t.length]; exact q⟩
  | ref a =>
    simp only [Rp] at r; subst r
    simp only [lenD] at h
    split at h
    · rename_i ds e; cases h; obtain ⟨xs, hx, t⟩ := rs _ _ e
      exact call_len_seq pins s σ H _ us Q I rv ⟨a, xs, rfl, .inl (SqL.of hx), by rw [← t.length]; exact q⟩
    · rename_i kvs e; cases h; obtain ⟨xs, hx, t⟩ := rs _ _ e
      exact call_lenD pins s σ H _ us Q I rv ⟨a, xs, rfl, hx, by rw [← t.length]; exact q⟩
    · cases h
  | _ => cases h
def Bl.val (b : Bl) : Value := match b.ty with
  | some T => .type T
  | none => .builtin b.id
theorem rp_int {M : Md} {H : Hp} (i : Int) : Rp M H (.int i) (.int i) := by simp only [Rp]
theorem rp_str {M : Md} {H : Hp} (i : Str) : Rp M H (.str i) (.str i) := by simp only [Rp]
theorem perm_map_inv {α β : Type} {f : α → β} (hf : ∀ a b, f a = f b → a = b) {l : List α} {m : List β} (h : m.Perm (l.map f)) : ∃ l' : List α, m = l'.map f ∧ l'.Perm l := by
  have : ∀ (m n : List β), m.Perm n → ∀ l, n = l.map f → ∃ l' : List α, m = l'.map f ∧ l'.Perm l := by
    intro m n h
    induction h with
    | nil => intro l e; cases l with
      | nil => exact ⟨[], rfl, .nil⟩
      | cons _ _ => cases e
    | cons x _ ih => intro l e; cases l with
      | nil => cases e
      | cons a l => injection e with e1 e2; obtain ⟨l', h1, h2⟩ := ih l e2; exact ⟨a :: l', by rw [h1, e1]; rfl, .cons a h2⟩
    | swap x y t => intro l e; cases l with
      | nil => cases e
      | cons a l => cases l with
        | nil => cases e
        | cons b l => injection e with e1 e2; injection e2 with e2 e3; exact ⟨b :: a :: l, by simp [e1, e2, e3], .swap a b l⟩
    | trans _ _ ih1 ih2 => intro l e; obtain ⟨l2, h1, h2⟩ := ih2 l e; obtain ⟨l1, h3, h4⟩ := ih1 l2 h1; exact ⟨l1, h3, h4.trans h2⟩
  exact this m _ h l rfl
theorem blt_ok (hm : SysM X) (hgd : X.A.guards = some []) (hc : X.calm = true) (hu : X.A.units + 62 < cLine) (b : Bl) : CallG X b.val (bltD b) := by
  rintro pins s σ H xs us Q I rv ⟨ds, S, G, r, rs, h, k⟩
  unfold bltD at h
  split at h
  · obtain ⟨x, rfl, r1⟩ := r.one
    obtain ⟨n, hn, hg⟩ := h
    exact lenD_ok I r1 rs hn rv (lq k (rp_int _) rs hg)
  · obtain ⟨x, y, rfl, r1, r2⟩ := r.two
    obtain ⟨kd, t, hk, ht, hg⟩ := h
    simp only [Rp] at r2; subst r2
    obtain ⟨rfl, hne⟩ := knOf_name ht
    exact call_isi pins s σ H _ us Q I rv ⟨x, .ty t.name, _, _, _, rfl, .ty _, kindD_ok r1 rs hk, kit_ty (kit_all kd t hne), lq k (rp_bl _) rs hg⟩
  · obtain ⟨x, rfl, r1⟩ := r.one
    simp only [Rp] at r1; subst r1
    exact call_int1 pins s σ H _ us Q I rv (.inl ⟨_, rfl, lq k (rp_int _) rs h⟩)
  · obtain ⟨x, rfl, r1⟩ := r.one
    simp only [Rp] at r1; subst r1
    exact call_int1 pins s σ H _ us Q I rv (.inr ⟨_, rfl, lq k (rp_int _) rs h⟩)
  · obtain ⟨x, rfl, r1⟩ := r.one
    obtain ⟨es, he, hg⟩ := h
    obtain ⟨a, ys, rfl, t, q⟩ := seqD_ok r1 rs he
    exact call_list_of pins s σ H _ us Q I rv ⟨a, ys, rfl, q.imp id TpT.sqt, fun p np => lqNew k t rs hg np⟩
  · obtain ⟨x, rfl, r1⟩ := r.one
    have r1' := r1
    simp only [Rp] at r1
    obtain ⟨a, ys, rfl, q, t⟩ := r1
    exact call_tuple_of pins s σ H _ us Q I rv ⟨a, ys, rfl, .inr ⟨q.sqt, lq k r1' rs h⟩⟩
  · obtain ⟨x, rfl, r1⟩ := r.one
    obtain ⟨es, he, hg⟩ := h
    obtain ⟨a, ys, rfl, t, q⟩ := seqD_ok r1 rs he
    rcases q with q | q
    · exact call_tupleX pins s σ H _ us Q I rv ⟨a, ys, rfl, .inl ⟨q, fun p o np no => lqTup k t rs hg np no⟩⟩
    · exact call_tuple_of pins s σ H _ us Q I rv ⟨a, ys, rfl, .inr ⟨q.sqt, lq k (by simp only [Rp]; exact ⟨a, ys, rfl, q, t⟩) rs hg⟩⟩
  · obtain ⟨x, rfl, r1⟩ := r.one
    simp only [Rp] at r1; subst r1
    obtain ⟨bs, e, hg⟩ := h
    obtain ⟨ys, hy, t⟩ := rs _ _ e
    obtain rfl := t.bls
    exact cr_all hc pins s σ H _ us Q I rv ⟨_, bs, rfl, SqL.of hy, lq k (rp_bl _) rs hg⟩
  · obtain ⟨x, rfl, r1⟩ := r.one
    simp only [Rp] at r1; subst r1
    obtain ⟨bs, e, hg⟩ := h
    obtain ⟨ys, hy, t⟩ := rs _ _ e
    obtain rfl := t.bls
    exact cr_any hc pins s σ H _ us Q I rv ⟨_, bs, rfl, SqL.of hy, lq k (rp_bl _) rs hg⟩
  · obtain ⟨x, y, rfl, r1, r2⟩ := r.two
    simp only [Rp] at r1 r2; subst r1; subst r2
    exact call_max2 hc pins s σ H _ us Q I rv ⟨_, _, rfl, lq k (rp_int _) rs h⟩
  · obtain ⟨x, y, rfl, r1, r2⟩ := r.two
    simp only [Rp] at r1 r2; subst r1; subst r2
    exact call_min2 hc pins s σ H _ us Q I rv ⟨_, _, rfl, lq k (rp_int _) rs h⟩
  · obtain ⟨x, rfl, r1⟩ := r.one
    simp only [Rp] at r1; subst r1
    obtain ⟨ns, e, hp, hg⟩ := h
    obtain ⟨ys, hy, t⟩ := rs _ _ e
    obtain rfl := t.ints'
    exact cr_max hc pins s σ H _ us Q I rv ⟨_, ns, rfl, SqL.of hy, hp, fun m h1 h2 => lq k (rp_int _) rs (hg m h1 h2)⟩
  · obtain ⟨x, rfl, r1⟩ := r.one
    simp only [Rp] at r1; subst r1
    obtain ⟨ns, e, hp, hg⟩ := h
    obtain ⟨ys, hy, t⟩ := rs _ _ e
    obtain rfl := t.ints'
    exact cr_min hc pins s σ H _ us Q I rv ⟨_, ns, rfl, SqL.of hy, hp, fun m h1 h2 => lq k (rp_int _) rs (hg m h1 h2)⟩
  · obtain ⟨x, rfl, r1⟩ := r.one
    simp only [Rp] at r1; subst r1
    obtain ⟨ns, e, hg⟩ := h
    obtain ⟨ys, hy, t⟩ := rs _ _ e
    obtain rfl := t.ints'
    exact cr_sum hc pins s σ H _ us Q I rv ⟨_, ns, rfl, SqL.of hy, lq k (rp_int _) rs hg⟩
  · obtain ⟨x, rfl, r1⟩ := r.one
    simp only [Rp] at r1; subst r1
    obtain ⟨es, e, hs, hg⟩ := h
    obtain ⟨ys, hy, t⟩ := rs _ _ e
    obtain ⟨its, rv', hl, _⟩ := I.list (SqL.of (K := X.K) hy)
    rw [Vals.ref1 rv]
    obtain ⟨hz, hpl, hal, hso⟩ := hs
    have each : ∀ (es : List D) (ys : List V) (its : List Value), Rps (md X) H es ys → Vals ys its → PySem.W.EachIs (fun v d => ∃ x, Rp (md X) H d x ∧ L2.RelV x v) its es := by
      intro es
      induction es with
      | nil => intro ys its h1 h2; obtain rfl := h1.nil'; cases h2; exact .nil
      | cons d es ih => intro ys its h1 h2; obtain ⟨v, l, rfl, h3, h4⟩ := h1.cons'; cases h2 with | cons r t => exact .cons ⟨v, h3, r⟩ (ih _ _ h4 t)
    have back : ∀ (es : List D) (out : List Value), PySem.W.EachIs (fun v d => ∃ x, Rp (md X) H d x ∧ L2.RelV x v) out es → ∃ ys, Rps (md X) H es ys ∧ Vals ys out := by
      intro es
      induction es with
      | nil => intro out h; cases h; exact ⟨[], Rps.nil, .nil⟩
      | cons d es ih => intro out h; cases h with | cons h1 h2 => obtain ⟨x, a1, a2⟩ := h1; obtain ⟨ys, b1, b2⟩ := ih _ h2; exact ⟨x :: ys, Rps.cons a1 b1, .cons a2 b2⟩
    have ea := each es ys its t rv'
    have er : ∀ (es : List D) (its : List Value), (∀ d ∈ es, plainD d = true) → PySem.W.EachIs (fun v d => ∃ x, Rp (md X) H d x ∧ L2.RelV x v) its es → PySem.W.EachIs (fun v d => ∃ as, Reads s.heap v (pyD d) as) its es := by
      intro es
      induction es with
      | nil => intro its _ h; cases h; exact .nil
      | cons d es ih => intro its hp h; cases h with | cons h1 h2 => obtain ⟨x, a1, a2⟩ := h1; exact .cons (Dp.reads I _ _ _ (pyD_dp d x (hp d (List.mem_cons_self ..)) a1) a2) (ih _ (fun e he => hp e (List.mem_cons_of_mem _ he)) h2)
    refine PySem.W.sorted_data hl.isList ea (er es its (fun d hd => (hpl d hd).1) ea) hal hso hz (fun d hd => by have := (hpl d hd).2; omega) fun out hlen hout => ?_
    obtain ⟨zs, b1, b2⟩ := back _ _ hout
    (obtain ⟨ep, he'⟩ := PyProof.Rows.sortedAll_at s.heap its out.toArray)
    have hlen' : zs.length ≤ sizeLine := by rw [b2.length, hlen]; exact hz
    exact ⟨.ref _, upd H (s.heap.objs.size + 1) (.lst zs), I.laid (t' := s.toks) (fun _ _ => PyProof.Rows.sortedAll_old) (Nat.le_succ _) ⟨hlen', out, ep, b2, he'⟩, rfl, lqNew k b1 rs hg (I.hok.fresh (Nat.le_succ _))⟩
  · obtain ⟨x, rfl, r1⟩ := r.one
    simp only [Rp] at r1; subst r1
    exact call_str_int pins s σ H _ us Q I rv ⟨_, rfl, h.1, lq k (rp_str _) rs h.2⟩
  · obtain ⟨x, rfl, r1⟩ := r.one
    simp only [Rp] at r1; subst r1
    exact SkE.call_str_str pins s σ H _ us Q I rv ⟨_, rfl, lq k (rp_str _) rs h⟩
  · obtain ⟨x, rfl, r1⟩ := r.one
    simp only [Rp] at r1; subst r1
    cases rv with
    | cons a b => cases b; cases a; exact PySem.P.str_of_bool ⟨.str _, H, I.tok _, ⟨_, rfl⟩, lq k (rp_str _) rs h⟩
  · obtain ⟨x, rfl, r1⟩ := r.one
    obtain ⟨t, ht, hg⟩ := h
    exact repr_ok hm hgd hu I rs r1 rv ht (lq k (rp_str _) rs hg)
  · obtain ⟨x, rfl, r1⟩ := r.one
    simp only [Rp] at r1; subst r1
    obtain ⟨kvs, e, hg⟩ := h
    obtain ⟨l, hl, t⟩ := rs _ _ e
    exact call_dictD pins s σ H _ us Q I rv ⟨_, l, rfl, .inl hl, fun p np => k _ _ _ _ (Keep.new np) (by simp only [Rp]) (rs.put (c := .dct kvs) (Keep.new np) ⟨l, upd_same, t.mono (Keep.new np)⟩) (hg p (rs.fresh np))⟩
  · obtain ⟨x, rfl, r1⟩ := r.one
    obtain ⟨ds, kvs, he, hp, hg⟩ := h
    have fin : ∀ (l : List (Key × V)) (q : Kvs (md X) H kvs l) (p : Addr), H p = none → Q (.ref p) (upd H p (.dK (mergeK [] l))) := fun l q p np =>
      k _ _ _ _ (Keep.new np) (by simp only [Rp]) (rs.put (c := .dct (mergeD [] kvs)) (Keep.new np) ⟨_, upd_same, Kvs.merge (q.mono (Keep.new np)) rfl⟩) (hg p (rs.fresh np))
    obtain ⟨a', ys, rfl, t, q⟩ := seqD_ok r1 rs he
    obtain ⟨ps, l, rfl, pr, kv⟩ := pairs_rel hp t
    rcases q with q | q
    · exact call_dictP hc pins s σ H _ us Q I rv ⟨a', ps, l, rfl, q, pr, fin l kv⟩
    · exact call_dictT hc pins s σ H _ us Q I rv ⟨a', ps, l, rfl, q, pr, fin l kv⟩
  · exact h.elim
end
end GL
end

-- G10
section
namespace GL
open PyProof.Rows PySem PySem.Spec L2
inductive Me where
  | append | extend | pop | get | setdefault | join | upper | split | startswith | find | count
deriving DecidableEq
def Me.name : Me → Str
  | .append => "append" | .extend => "extend" | .pop => "pop" | .get => "get" | .setdefault => "setdefault" | .join => "join" | .upper => "upper" | .split => "split" | .startswith => "startswith" | .find => "find" | .count => "count"
/-- served of this kind; the built-in's name -/
def meId : Me → Kn → Option String
  | .append, .lst => some "list.append"
  | .extend, .lst => some "list.extend"
  | .pop, .lst => some "list.pop"
  | .get, .dct => some "dict.get"
  | .setdefault, .dct => some "dict.setdefault"
  | .join, .str => some "str.join"
  | .upper, .str => some "str.upper"
  | .split, .str => some "str.split"
  | .startswith, .str => some "str.startswith"
  | .find, .str => some "str.find"
  | .count, .str => some "str.count"
  | _, _ => none
def meD (m : Me) (k : Kn) : GM := fun d ds S Q => match m, k, d, ds with
  | .append, .lst, .ref a, [y] => ∃ xs, S a = some (.lst xs) ∧ xs.length < sizeLine ∧ Q .non (put S a (.lst (xs ++ [y])))
  | .extend, .lst, .ref a, [.ref b] => ∃ xs ys, S a = some (.lst xs) ∧ S b = some (.lst ys) ∧ xs.length + ys.length ≤ sizeLine ∧ Q .non (put S a (.lst (xs ++ ys)))
  | .pop, .lst, .ref a, [] => ∃ xs y, S a = some (.lst xs) ∧ xs[xs.length - 1]? = some y ∧ Q y (put S a (.lst xs.dropLast))
  | .get, .dct, .ref a, [x] => ∃ kvs k, S a = some (.dct kvs) ∧ keyD x = some k ∧ Q ((valD kvs k).getD .non) S
  | .get, .dct, .ref a, [x, z] => ∃ kvs k, S a = some (.dct kvs) ∧ keyD x = some k ∧ Q ((valD kvs k).getD z) S
  | .setdefault, .dct, .ref a, [x, z] => ∃ kvs k, S a = some (.dct kvs) ∧ keyD x = some k ∧ kvs.length < sizeLine ∧ (∀ v, valD kvs k = some v → Q v S) ∧ (valD kvs k = none → Q z (put S a (.dct (putD kvs k z))))
  | .join, .str, .str x, [e] => ∃ es : List Str, seqD S e = some (es.map D.str) ∧ (es.map (·.length)).sum + es.length * x.length ≤ 16777216 ∧ Q (.str (Txt.join x es)) S
  | .upper, .str, .str x, [] => x.length ≤ 5592405 ∧ Q (.str (Txt.upper x)) S
  | .split, .str, .str x, [.str y] => (y.length == 0) = false ∧ x.length + 2 ≤ sizeLine ∧ wNew (.lst ((Txt.split x y).map D.str)) S Q
  | .startswith, .str, .str x, [.str y] => Q (.bl (Txt.startswith x y)) S
  | .find, .str, .str x, [.str y] => Q (.int (Txt.find x y)) S
  | .count, .str, .str x, [.str y] => Q (.int (Txt.count x y)) S
  | _, _, _, _ => False
section
variable {X : Cx}
theorem meId_ok {m : Me} {k : Kn} {id : String} (h : meId m k = some id) : PlainAttrs k.name ∧ Slot k.name m.name id ∧ typeOf (.builtin id) = pure (.type "method_descriptor") ∧ (k = .lst ∨ k = .dct ∨ k = .str) := by
  unfold meId at h
  split at h <;> cases h
  · exact ⟨PySem.F.plainAttrs_list, PySem.F.slot_list_append, PySem.F.type_list_append, .inl rfl⟩
  · exact ⟨PySem.F.plainAttrs_list, PySem.F.slot_list_extend, PySem.F.type_list_extend, .inl rfl⟩
  · exact ⟨PySem.F.plainAttrs_list, PySem.F.slot_list_pop, PySem.F.type_list_pop, .inl rfl⟩
  · exact ⟨PySem.F.plainAttrs_dict, PySem.F.slot_dict_get, PySem.F.type_dict_get, .inr (.inl rfl)⟩
  · exact ⟨PySem.F.plainAttrs_dict, PySem.F.slot_dict_setdefault, PySem.F.type_dict_setdefault, .inr (.inl rfl)⟩
  · exact ⟨PySem.F.plainAttrs_str, PySem.F.slot_str_join, PySem.F.type_str_join, .inr (.inr rfl)⟩
  · exact ⟨PySem.F.plainAttrs_str, PySem.F.slot_str_upper, PySem.F.type_str_upper, .inr (.inr rfl)⟩
  · exact ⟨PySem.F.plainAttrs_str, PySem.F.slot_str_split, PySem.F.type_str_split, .inr (.inr rfl)⟩
  · exact ⟨PySem.F.plainAttrs_str, PySem.F.slot_str_startswith, PySem.F.type_str_startswith, .inr (.inr rfl)⟩
  · exact ⟨PySem.F.plainAttrs_str, PySem.F.slot_str_find, PySem.F.type_str_find, .inr (.inr rfl)⟩
  · exact ⟨PySem.F.plainAttrs_str, PySem.F.slot_str_count, PySem.F.type_str_count, .inr (.inr rfl)⟩
theorem kind_tyV {H : Hp} {S : Store} {d : D} {x : V} {k : Kn} (r : Rp (md X) H d x) (s : RS (md X) H S) (h : kindD S d = some k) (hk : k = .lst ∨ k = .dct ∨ k = .str) : tyV X.K k.name x H := by
  cases d with
  | str z => simp only [Rp] at r; subst r; cases h; rfl
  | frl ds => simp only [Rp] at r; obtain ⟨a, xs, rfl, q, _⟩ := r; cases h; exact .inl ⟨rfl, xs, q.sql⟩
  | ref a =>
    simp only [Rp] at r; subst r
    simp only [kindD] at h
    split at h
    · rename_i ds e; cases h; obtain ⟨xs, hx, _⟩ := s _ _ e; exact .inl ⟨rfl, xs, SqL.of hx⟩
    · rename_i kvs e; cases h; obtain ⟨xs, hx, _⟩ := s _ _ e; exact .inr (.inr (.inl ⟨rfl, .inl ⟨xs, hx⟩⟩))
    · cases h
  | non => cases h; simp at hk
  | bl _ => cases h; simp at hk
  | int _ => cases h; simp at hk
  | tup _ => cases h; simp at hk
  | wtup _ => cases h
  | ty _ => cases h
  | glo _ => cases h
theorem mt_dget (hu : X.A.units + 1 < cLine) : MtR X "dict.get" (fun x xs H Q => ∃ a y o, x = .ref a ∧ DGet H a y o ∧ ((xs = [y] ∧ Q (o.getD .non) H) ∨ ∃ z, xs = [y, z] ∧ Q (o.getD z) H)) := by
  rintro pins s σ H x xs v us Q I rx rxs ⟨a, y, o, rfl, g, h⟩
  (obtain rfl : v = Value.ref a := rx)
  rcases h with ⟨rfl, q⟩ | ⟨z, rfl, q⟩
  · cases rxs with
    | cons r t => cases t; exact d_get1 hu I g r fun w' s' I' r' => ⟨_, H, I', r', q⟩
  · cases rxs with
    | cons r t => cases t with
      | cons r2 t => cases t; exact d_get2 hu I g r r2 fun w' s' I' r' => ⟨_, H, I', r', q⟩
theorem mt_dsetd : MtR X "dict.setdefault" (fun x xs H Q => ∃ a kvs k z, x = .ref a ∧ xs = [kV k, z] ∧ H a = some (.dK kvs) ∧ kvs.length < sizeLine ∧ (∀ v, valV kvs k = some v → Q v H) ∧ (valV kvs k = none → Q z (upd H a (.dK (putK kvs k z))))) := by
  rintro pins s σ H x xs v us Q I rx rxs ⟨a, kvs, k, z, rfl, rfl, e, hl, h1, h2⟩
  (obtain rfl : v = Value.ref a := rx)
  cases rxs with
  | cons r t => cases t with
    | cons r2 t => cases t; exact d_setd I e r r2 hl (fun v hv w' s' I' r' => ⟨v, H, I', r', h1 v hv⟩) fun hn w' s' I' r' => ⟨z, _, I', r', h2 hn⟩
theorem me_ok (hu : X.A.units + 62 < cLine) (m : Me) (k : Kn) (id : String) (h : meId m k = some id) : MtG X id (meD m k) := by
  rintro pins s σ H x xs v us Q I rv rvs ⟨d, ds, S, G, r, rs', rs, hm, kk⟩
  unfold meD at hm
  split at hm
  · cases h
    obtain ⟨y, rfl, ry⟩ := rs'.one
    simp only [Rp] at r; subst r
    obtain ⟨es, e, hl, hg⟩ := hm
    obtain ⟨ys, hy, t⟩ := rs _ _ e
    have ku : Keep H (upd H _ (.lst (ys ++ [y]))) := Keep.upd hy trivial
    exact mt_append pins s σ H _ _ v us Q I rv rvs ⟨_, ys, y, rfl, rfl, hy, by rw [← t.length]; exact hl, kk _ _ _ _ ku (by simp only [Rp]) (rs.put (c := .lst _) ku ⟨_, upd_same, (t.mono ku).append (Rps.cons (ry.mono ku) Rps.nil)⟩) hg⟩
  · cases h
    obtain ⟨y, rfl, ry⟩ := rs'.one
    simp only [Rp] at r ry; subst r; subst ry
    obtain ⟨es, fs, e, f, hl, hg⟩ := hm
    obtain ⟨ys, hy, t⟩ := rs _ _ e
    obtain ⟨zs, hz, t'⟩ := rs _ _ f
    have ku : Keep H (upd H _ (.lst (ys ++ zs))) := Keep.upd hy trivial
    exact mt_extend pins s σ H _ _ v us Q I rv rvs ⟨_, _, ys, zs, rfl, rfl, hy, hz, by rw [← t.length, ← t'.length]; exact hl, kk _ _ _ _ ku (by simp only [Rp]) (rs.put (c := .lst _) ku ⟨_, upd_same, (t.mono ku).append (t'.mono ku)⟩) hg⟩
  · cases h
    obtain rfl := rs'.nil'
    simp only [Rp] at r; subst r
    obtain ⟨es, y, e, hy', hg⟩ := hm
    obtain ⟨ys, hy, t⟩ := rs _ _ e
    obtain ⟨z, hz, rz⟩ := t.get hy'
    have ku : Keep H (upd H _ (.lst ys.dropLast)) := Keep.upd hy trivial
    exact mt_pop pins s σ H _ _ v us Q I rv rvs ⟨_, ys, z, rfl, rfl, hy, by rw [← t.length]; exact hz, kk _ _ _ _ ku (rz.mono ku) (rs.put (c := .lst _) ku ⟨_, upd_same, (t.mono ku).dropLast⟩) hg⟩
  · cases h
    obtain ⟨y, rfl, ry⟩ := rs'.one
    simp only [Rp] at r; subst r
    obtain ⟨kvs, k', e, hk, hg⟩ := hm
    obtain ⟨l, hl, t⟩ := rs _ _ e
    obtain rfl := keyD_ok ry hk
    rcases t.val (k := k') with ⟨a1, a2⟩ | ⟨d', w', a1, a2, a3⟩
    · rw [a1] at hg
      exact mt_dget (by omega) pins s σ H _ _ v us Q I rv rvs ⟨_, _, none, rfl, .inl ⟨l, k', .inl hl, rfl, a2.symm⟩, .inl ⟨rfl, lq kk (by simp only [Option.getD_none, Rp]) rs hg⟩⟩
    · rw [a1] at hg
      exact mt_dget (by omega) pins s σ H _ _ v us Q I rv rvs ⟨_, _, some w', rfl, .inl ⟨l, k', .inl hl, rfl, a2.symm⟩, .inl ⟨rfl, lq kk a3 rs hg⟩⟩
  · cases h
    obtain ⟨y, z, rfl, ry, rz⟩ := rs'.two
    simp only [Rp] at r; subst r
    obtain ⟨kvs, k', e, hk, hg⟩ := hm
    obtain ⟨l, hl, t⟩ := rs _ _ e
    obtain rfl := keyD_ok ry hk
    rcases t.val (k := k') with ⟨a1, a2⟩ | ⟨d', w', a1, a2, a3⟩
    · rw [a1] at hg
      exact mt_dget (by omega) pins s σ H _ _ v us Q I rv rvs ⟨_, _, none, rfl, .inl ⟨l, k', .inl hl, rfl, a2.symm⟩, .inr ⟨z, rfl, lq kk rz rs hg⟩⟩
    · rw [a1] at hg
      exact mt_dget (by omega) pins s σ H _ _ v us Q I rv rvs ⟨_, _, some w', rfl, .inl ⟨l, k', .inl hl, rfl, a2.symm⟩, .inr ⟨z, rfl, lq kk a3 rs hg⟩⟩
  · cases h
    obtain ⟨y, z, rfl, ry, rz⟩ := rs'.two
    simp only [Rp] at r; subst r
    obtain ⟨kvs, k', e, hk, hl', h1, h2⟩ := hm
    obtain ⟨l, hl, t⟩ := rs _ _ e
    obtain rfl := keyD_ok ry hk
    refine mt_dsetd pins s σ H _ _ v us Q I rv rvs ⟨_, l, k', z, rfl, rfl, hl, by rw [← t.length]; exact hl', fun w' hw => ?_, fun hn => ?_⟩
    · rcases t.val (k := k') with ⟨a1, a2⟩ | ⟨d', w2, a1, a2, a3⟩
      · rw [hw] at a2; cases a2
      · rw [hw] at a2; cases a2; exact lq kk a3 rs (h1 _ a1)
    · rcases t.val (k := k') with ⟨a1, a2⟩ | ⟨d', w2, a1, a2, a3⟩
      · have ku : Keep H (upd H _ (.dK (putK l k' z))) := Keep.upd hl trivial
        exact kk _ _ _ _ ku (rz.mono ku) (rs.put (c := .dct _) ku ⟨_, upd_same, (t.mono ku).put (rz.mono ku)⟩) (h2 a1)
      · rw [hn] at a2; cases a2
  · cases h
    obtain ⟨y, rfl, ry⟩ := rs'.one
    simp only [Rp] at r; subst r
    obtain ⟨es, he, hl, hg⟩ := hm
    obtain ⟨a, ys, rfl, t, q⟩ := seqD_ok ry rs he
    obtain rfl := t.strs'
    exact mt_join pins s σ H _ _ v us Q I rv rvs ⟨_, a, es, rfl, rfl, q.imp id TpT.sqt, hl, lq kk (rp_str _) rs hg⟩
  · cases h
    obtain rfl := rs'.nil'
    simp only [Rp] at r; subst r
    exact mt_upper pins s σ H _ _ v us Q I rv rvs ⟨_, rfl, rfl, hm.1, lq kk (rp_str _) rs hm.2⟩
  · cases h
    obtain ⟨y, rfl, ry⟩ := rs'.one
    simp only [Rp] at r ry; subst r; subst ry
    exact mt_split pins s σ H _ _ v us Q I rv rvs ⟨_, _, rfl, rfl, hm.1, hm.2.1, fun p np => lqNew kk (Rps.strs _) rs hm.2.2 np⟩
  · cases h
    obtain ⟨y, rfl, ry⟩ := rs'.one
    simp only [Rp] at r ry; subst r; subst ry
    exact mt_startswith pins s σ H _ _ v us Q I rv rvs ⟨_, _, rfl, rfl, lq kk (rp_bl _) rs hm⟩
  · cases h
    obtain ⟨y, rfl, ry⟩ := rs'.one
    simp only [Rp] at r ry; subst r; subst ry
    exact mt_find pins s σ H _ _ v us Q I rv rvs ⟨_, _, rfl, rfl, lq kk (rp_int _) rs hm⟩
  · cases h
    obtain ⟨y, rfl, ry⟩ := rs'.one
    simp only [Rp] at r ry; subst r; subst ry
    exact mt_count pins s σ H _ _ v us Q I rv rvs ⟨_, _, rfl, rfl, lq kk (rp_int _) rs hm⟩
  · exact hm.elim
def wMth (m : Me) (go : WE) (gs : WA) : WE := fun ρ S Q => go ρ S fun d S1 => ∃ k, kindD S1 d = some k ∧ (meId m k).isSome = true ∧ gs ρ S1 fun ds S2 => meD m k d ds S2 Q
variable {o e : Expr} {es : List Expr} {go : WE} {gs : WA} {apos cpos : Pos}
theorem je_mth0 (hu : X.A.units + 62 < cLine) (m : Me) (ho : JE X o go) (hbase : attributeBase o m.name X.env (eval o X.env) = eval o X.env) (hline : (apos.endLine == cpos.line) = true) : JE X (.Call (.Attribute o m.name apos) [] [] cpos) (wMth m go wNil) := by
  (refine ⟨fun pins s σ H Q I hq => ?_⟩)
  obtain ⟨ρ, S, G, re, rs, h, kk⟩ := hq
  refine wpAny_Call_method0_late hbase hline (thn (ho.run pins s σ H _ I (liftE.then re rs h (Q := fun x H1 => ∃ d S1, Keep H H1 ∧ Rp (md X) H1 d x ∧ RS (md X) H1 S1 ∧ ∃ k, kindD S1 d = some k ∧ (meId m k).isSome = true ∧ meD m k d [] S1 G) fun d S1 x H1 k1 r1 s1 h1 => ⟨d, S1, k1, r1, s1, h1⟩)) fun v s1 ⟨x, H1, I1, r1, d, S1, k1, rd, rs1, k, hk, hid, hm⟩ => ?_)
  obtain ⟨id, hid⟩ := Option.isSome_iff_exists.mp hid
  obtain ⟨pa, slot, hty, hkk⟩ := meId_ok hid
  obtain ⟨h1, h2⟩ := tyV_is I1 r1 (kind_tyV rd rs1 hk hkk)
  exact ⟨k.name, id, pa, slot, hty, h1, h2, Calls.callWith_builtin rfl (PySem.evalArgs_none (me_ok hu m k id hid pins s1 σ H1 x [] v [] Q I1 r1 .nil ⟨d, [], S1, G, rd, Rps.nil, rs1, hm, kk.mono k1⟩))⟩
theorem je_mth (hu : X.A.units + 62 < cLine) (m : Me) (ho : JE X o go) (ha : JA X (e :: es) gs) (hbase : attributeBase o m.name X.env (eval o X.env) = eval o X.env) (hfew : ((backTo cpos (starEach (e :: es) X.env)).all (fun x => !x.1) && (backToKw cpos (keywordEach [] X.env)).all (fun x => x.1.isSome)
      && decide ((e :: es).length + ([] : List Keyword).length + (if ([] : List Keyword).isEmpty then 0 else 1) < 30)) = true)
    (hline : (apos.endLine == cpos.line) = true) (hs : starEach (e :: es) X.env = (false, eval e X.env) :: starEach es X.env) (hplain : (backTo cpos (starEach es X.env)).any (·.1) = false) : JE X (.Call (.Attribute o m.name apos) (e :: es) [] cpos) (wMth m go gs) := by
  (refine ⟨fun pins s σ H Q I hq => ?_⟩)
  obtain ⟨ρ, S, G, re, rs, h, kk⟩ := hq
  refine wpAny_Call_method_late hbase hfew hline rfl (thn (ho.run pins s σ H _ I (liftE.then re rs h (Q := fun x H1 => ∃ d S1, Keep H H1 ∧ Rp (md X) H1 d x ∧ RS (md X) H1 S1 ∧ ∃ k, kindD S1 d = some k ∧ (meId m k).isSome = true ∧ gs ρ S1 fun ds S2 => meD m k d ds S2 G) fun d S1 x H1 k1 r1 s1 h1 => ⟨d, S1, k1, r1, s1, h1⟩)) fun v s1 ⟨x, H1, I1, r1, d, S1, k1, rd, rs1, k, hk, hid, hm⟩ => ?_)
  obtain ⟨id, hid⟩ := Option.isSome_iff_exists.mp hid
  obtain ⟨pa, slot, hty, hkk⟩ := meId_ok hid
  obtain ⟨h1, h2⟩ := tyV_is I1 r1 (kind_tyV rd rs1 hk hkk)
  refine ⟨k.name, id, pa, slot, hty, h1, h2, ?_⟩
  have hA := ha.run cpos pins s1 σ H1 (fun xs H2 => ∃ ds S2, Keep H1 H2 ∧ Rps (md X) H2 ds xs ∧ RS (md X) H2 S2 ∧ meD m k d ds S2 G) I1 (liftA.then (re.mono k1) rs1 hm fun ds S2 xs H2 k2 r2 s2 h2 => ⟨ds, S2, k2, r2, s2, h2⟩)
  rw [hs] at hA ⊢
  (refine Calls.callWith_builtin (by show (false || (backTo cpos (starEach es X.env)).any (·.1)) = false; rw [hplain] <;> rfl) (Calls.evalArgs_plain ?_))
  exact thn hA fun us s2 ⟨xs, H2, I2, r2, ds, S2, k2, rds, rs2, h2⟩ => me_ok hu m k id hid pins s2 σ H2 x xs v us Q I2 r1 r2 ⟨d, ds, S2, G, rd.mono k2, rds, rs2, h2, kk.mono (k1.trans k2)⟩
/-- a dict display -/
def wPairs : List (WE × WE) → Ev → Store → (List (D × D) → Store → Prop) → Prop
  | [], _, S, Q => Q [] S
  | (gk, gv) :: r, ρ, S, Q => gk ρ S fun x S1 => gv ρ S1 fun y S2 => wPairs r ρ S2 fun ps S3 => Q ((x, y) :: ps) S3
end
end GL
end

-- GTR
section
namespace GL
open PyProof.Rows PySem PySem.Spec L2
/-- tuple(range(n)) -/
def wTrg (g : WE) : WE := fun ρ S Q => g ρ S fun d S1 => ∃ n : Int, d = .int n ∧ (0 ≤ n ∧ n ≤ 16777216) ∧ Q (.tup (rangeD 0 n.toNat)) S1
section
variable {X : Cx} {e : Expr} {g : WE} {p1 p2 pos pos2 : Pos}
theorem rps_range {M : Md} {H : Hp} (n : Nat) : Rps M H (rangeD 0 n) ((List.range n).map fun i => V.int (0 + (i : Nat))) := by
  unfold rangeD
  generalize List.range n = l
  induction l with
  | nil => exact Rps.nil
  | cons i l ih => exact Rps.cons (by simp only [Rp]) ih
theorem je_trg (hc : X.calm = true) (g1 : Gl X "tuple") (m1 : X.mg "tuple" = none) (g2 : Gl X "range") (m2 : X.mg "range" = none) (he : JE X e g) (hs : starEach [e] X.env = [(false, eval e X.env)]) :
    JE X (.Call (.Name "tuple" p1) [.Call (.Name "range" p2) [e] [] pos] [] pos2) (wTrg g) := by
  refine PE.imp (pe_tupRgX hc g1 m1 (prg_1 g2 m2 he (by rw [hs]; rfl)) (by rfl)) fun σ H Q ⟨ρ, S, G, re, rs, h, k⟩ => ?_
  refine liftE.then re rs h fun d S1 x H1 k1 r1 s1 h1 => ?_
  obtain ⟨n, rfl, ⟨h0, hn⟩, hq⟩ := h1
  simp only [Rp] at r1
  subst r1
  refine ⟨n, rfl, RgOk.of_le (Int.le_refl _) hn (by decide) h0, fun q o hq' no => ?_⟩
  refine k _ _ _ _ (k1.trans (Keep.new hq')) ?_ (s1.new hq') hq
  simp only [Rp]
  refine ⟨q, _, rfl, .inl ⟨o, upd_same, no⟩, ?_⟩
  unfold rgV
  rw [Int.sub_zero]
  exact rps_range _
/-- list(range(n)) -/
def wLrg (g : WE) : WE := fun ρ S Q => g ρ S fun d S1 => ∃ n : Int, d = .int n ∧ (0 ≤ n ∧ n ≤ 16777216) ∧ wNew (.lst (rangeD 0 n.toNat)) S1 Q
theorem je_lrg (hc : X.calm = true) (g1 : Gl X "list") (m1 : X.mg "list" = none) (g2 : Gl X "range") (m2 : X.mg "range" = none) (he : JE X e g) (hs : starEach [e] X.env = [(false, eval e X.env)]) :
    JE X (.Call (.Name "list" p1) [.Call (.Name "range" p2) [e] [] pos] [] pos2) (wLrg g) := by
  refine PE.imp (pe_listRg hc g1 m1 (prg_1 g2 m2 he (by rw [hs]; rfl)) (by rfl)) fun σ H Q ⟨ρ, S, G, re, rs, h, k⟩ => ?_
  refine liftE.then re rs h fun d S1 x H1 k1 r1 s1 h1 => ?_
  obtain ⟨n, rfl, ⟨h0, hn⟩, hq⟩ := h1
  simp only [Rp] at r1
  subst r1
  refine ⟨n, rfl, RgOk.of_le (Int.le_refl _) hn (by decide) h0, fun q hq' => ?_⟩
  have kn := Keep.new (o := .lst (rgV 0 n)) hq'
  refine k _ _ _ _ (k1.trans kn) (by simp only [Rp]) (s1.put (c := .lst (rangeD 0 n.toNat)) kn ⟨_, upd_same, ?_⟩) (hq q (s1.fresh hq'))
  unfold rgV
  rw [Int.sub_zero]
  exact rps_range _
end
end GL
end

-- GC
section
namespace GL
open PyProof.Rows PySem PySem.Spec L2

/-! ### instances of own classes -/
def putFD (f : Str) (v : D) : List (Str × D) → List (Str × D)
  | [] => [(f, v)]
  | (g, x) :: r => if g = f then (g, v) :: r else (g, x) :: putFD f v r
section
variable {M : Md} {H : Hp}
theorem Fvs.look {f : Str} : ∀ {ds : List (Str × D)} {vs : List (Str × V)}, Fvs M H ds vs → (ds.lookup f = none ∧ vs.lookup f = none) ∨ ∃ d v, ds.lookup f = some d ∧ vs.lookup f = some v ∧ Rp M H d v
  | [], vs, h => .inl ⟨rfl, by rw [show vs = [] from h]; rfl⟩
  | (g, d) :: r, vs, h => by
    obtain ⟨v, l, rfl, h1, h2⟩ := h
    simp only [List.lookup_cons]
    cases e : (f == g) with
    | true => exact .inr ⟨d, v, rfl, rfl, h1⟩
    | false => exact Fvs.look h2
theorem Fvs.put {f : Str} {d : D} {v : V} (r : Rp M H d v) : ∀ {ds : List (Str × D)} {vs : List (Str × V)}, Fvs M H ds vs → Fvs M H (putFD f d ds) (putF f v vs)
  | [], vs, h => by rw [show vs = [] from h]; exact ⟨v, [], rfl, r, rfl⟩
  | (g, x) :: q, vs, h => by
    obtain ⟨y, l, rfl, h1, h2⟩ := h
    unfold putFD putF
    by_cases e : g = f
    · rw [if_pos e, if_pos e]; exact ⟨v, l, rfl, r, h2⟩
    · rw [if_neg e, if_neg e]; exact ⟨y, _, rfl, h1, Fvs.put r h2⟩
theorem Fvs.length : ∀ {ds : List (Str × D)} {vs : List (Str × V)}, Fvs M H ds vs → ds.length = vs.length
  | [], vs, h => by rw [show vs = [] from h]; rfl
  | (g, d) :: r, vs, h => by obtain ⟨v, l, rfl, h1, h2⟩ := h; rw [List.length_cons, List.length_cons, Fvs.length h2]
end
/-- a class of the module: its attribute f is kept in the instance alone -/
structure FldG (X : Cx) (C f : Str) : Prop where
  ex : ∃ c, X.mg C = some (.ref c) ∧ Cls X.K c ∧ NoAttr X.K c f
/-- its method -/
structure MtdG (X : Cx) (C m : Str) (F : Fn) : Prop where
  ex : ∃ (c fa : Addr) (fd : FuncData) (k : Nat), X.mg C = some (.ref c) ∧ Cls X.K c ∧ Meth X.K c m fa ∧ Binds X.K fd F.ps [] ∧ FnOkG X.prog X.w X.K X.mg X.base CX0 k fa fd F.ps (liftSp (md X) F.ps F.c) ∧ RoomG k X.A
/-- it is made -/
structure MakG (X : Cx) (C : Str) (F : Fn) : Prop where
  ex : ∃ (c fa : Addr) (fd : FuncData) (k : Nat), X.mg C = some (.ref c) ∧ Mk X.K c fa ∧ Binds X.K fd F.ps [] ∧ FnOkG X.prog X.w X.K X.mg X.base CX0 k fa fd F.ps (liftSp (md X) F.ps F.c) ∧ RoomG (k + 1) X.A
def wFld (cls : Str → Str → Bool) (f : Str) (go : WE) : WE := fun ρ S Q => go ρ S fun d S1 => ∃ a, d = .ref a ∧ ∃ C fs, S1 a = some (.ins C fs) ∧ cls C f = true ∧ ∃ v, fs.lookup f = some v ∧ Q v S1
def wMtd (mt : Str → Str → Option Fn) (W : XW) (m : Str) (go : WE) (gs : WA) : WE := fun ρ S Q => go ρ S fun d S1 => ∃ a, d = .ref a ∧ ∃ C fs, S1 a = some (.ins C fs) ∧ fs.lookup m = none ∧ ∃ F, mt C m = some F ∧
  gs ρ S1 fun ds S2 => ds.length + 1 = F.ps.length ∧ F.c (.ref a :: ds) S2 Q (fun n d S' => W n d ρ S')
def wMake (C : Str) (F : Fn) (W : XW) (gs : WA) : WE := fun ρ S Q => gs ρ S fun ds S1 => ds.length + 1 = F.ps.length ∧ ∀ a, S1 a = none → F.c (.ref a :: ds) (put S1 a (.ins C [])) (fun d S2 => d = .non ∧ Q (.ref a) S2) (fun n d S' => W n d ρ S')
section
variable {X : Cx} {o e : Expr} {es : List Expr} {go gv : WE} {gs : WA} {pos pos' apos p : Pos} {f m C : Str} {cls : Str → Str → Bool} {mt : Str → Str → Option Fn} {W : XW} {F : Fn}
theorem je_fld (hT : ∀ C f, cls C f = true → FldG X C f) (ho : JE X o go) (hb : attributeBase o f X.env (eval o X.env) = eval o X.env) : JE X (.Attribute o f pos) (wFld cls f go) :=
  PE.imp (pe_fld ho hb) fun σ H Q ⟨ρ, S, G, re, rs, h, k⟩ => liftE.then re rs h fun d S1 x H1 k1 r1 s1 ⟨a, e, C, fs, ea, hC, v, hl, hg⟩ => by
    subst e
    simp only [Rp] at r1; subst r1
    obtain ⟨c, dx, l, hm, hx, t⟩ := s1 a _ ea
    obtain ⟨c', hm', cl, na⟩ := (hT C f hC).ex
    obtain rfl : c' = c := by
      have z : some (Value.ref c') = some (Value.ref c) := hm'.symm.trans hm
      injection z with z
      injection z
    rcases t.look (f := f) with ⟨a1, _⟩ | ⟨d, w, a1, a2, a3⟩
    · rw [hl] at a1; cases a1
    · rw [hl] at a1; cases a1
      exact ⟨a, c', dx, l, w, rfl, hx, cl, na, a2, k _ S1 _ H1 k1 a3 s1 hg⟩
/-- the run of a call by an own method -/
theorem run_own {few : Bool} {env : Env} {n : Nat} {args : List (Bool × Sem Value)} {prog : Program} {w : World} {A : Around} {E : Value → Shared → Prop} {es : List Expr} {Q : Value → Shared → Prop} {s : Shared}
    (hbase : attributeBase o m env (eval o env) = eval o env)
    (hform : methodCallForm (es.length + ([] : List Keyword).length) (backTo pos (starEach es env)) (backToKw pos (keywordEach [] env)) = true) (hline : (apos.endLine == pos.line) = true)
    (h : wpAny (model prog w) A (eval o env) (fun ov s1 => wpAny (model prog w) A (getMethod ov m (do return (← importBound o env).getD true)) (fun fx s2 => wpAny (model prog w) A (callWith pos fx.1 fx.2 (backTo pos (starEach es env)) (backToKw pos (keywordEach [] env))) Q E s2) E s1) E s) :
    wpAny (model prog w) A (eval (.Call (.Attribute o m apos) es [] pos) env) Q E s := by
  rw [arm_eval_Call, hbase]
  refine wpAny_bind (wpAny_mono h (fun ov s1 h1 => ?_) fun _ _ e => e)
  (refine wpAny_bind (wpAny_standAt ?_))
  (have hpos : methodCallPos true o env apos pos = pure pos := by unfold methodCallPos; simp [hline])
  unfold methodCall
  rw [hform]
  refine wpAny_bind (wpAny_holding (wpAny_mono h1 (fun fx s2 h2 => ?_) fun _ _ e => e))
  exact wpAny_bind (wpAny_of_eq hpos h2)
theorem je_mtd (hT : ∀ C m F, mt C m = some F → MtdG X C m F) (hW : ∀ n d ρ S, ¬ W n d ρ S) (ho : JE X o go) (ha : JA X (e :: es) gs) (hbase : attributeBase o m X.env (eval o X.env) = eval o X.env)
    (hform : methodCallForm ((e :: es).length + ([] : List Keyword).length) (backTo pos (starEach (e :: es) X.env)) (backToKw pos (keywordEach [] X.env)) = true)
    (hline : (apos.endLine == pos.line) = true) (he : starEach (e :: es) X.env = (false, eval e X.env) :: starEach es X.env) (hpl : (backTo pos (starEach es X.env)).any (·.1) = false) : JE X (.Call (.Attribute o m apos) (e :: es) [] pos) (wMtd mt W m go gs) := by
  (refine ⟨fun pins s σ H Q I hq => ?_⟩)
  obtain ⟨ρ, S, G, re, rs, h, k⟩ := hq
  refine run_own (n := 0) (args := []) (few := true) hbase hform hline (thn (ho.run pins s σ H (fun x H1 => ∃ a C fs F S1, Keep H H1 ∧ x = .ref a ∧ RS (md X) H1 S1 ∧ S1 a = some (.ins C fs) ∧ fs.lookup m = none ∧ mt C m = some F ∧ gs ρ S1 fun ds S2 => ds.length + 1 = F.ps.length ∧ F.c (.ref a :: ds) S2 G (fun n d S' => W n d ρ S')) I
    (liftE.then re rs h fun d S1 x H1 k1 r1 s1 ⟨a, e, C, fs, ea, hl, F, hF, hg⟩ => by subst e; simp only [Rp] at r1; exact ⟨a, C, fs, F, S1, k1, r1, s1, ea, hl, hF, hg⟩)) fun u s1 ⟨x, H1, I1, r1, a, C, fs, F, S1, k1, e1, rs1, ea, hl, hF, hg⟩ => ?_)
  subst e1
  (obtain rfl : u = Value.ref a := r1)
  obtain ⟨c, dx, l, hm, hx, t⟩ := rs1 a _ ea
  obtain ⟨c', fa, fd, n, hm', cl, me, hb, ok, hr⟩ := (hT C m F hF).ex
  obtain rfl : c' = c := by
    have z : some (Value.ref c') = some (Value.ref c) := hm'.symm.trans hm
    injection z with z
    injection z
  have hl' : l.lookup m = none := by
    rcases t.look (f := m) with ⟨_, a2⟩ | ⟨d, w, a1, _, _⟩
    · exact a2
    · rw [hl] at a1; cases a1
  refine getmeth_ok I1 hx cl me hl' ?_
  refine PySem.W.callWith_K (first := [.ref a]) (h₀ := X.base) I1.ok.mod.kin me.kp (thn (ha.run pos pins s1 σ H1 (fun vs H2 => liftSp (md X) F.ps F.c ((V.ref a :: vs) ++ []) H2 Q fun _ _ _ => False) I1 (liftA.then (re.mono k1) rs1 hg fun ds S2 xs H2 k2 r2 s2 h2 => ?_)) fun us s2 ⟨vs, H2, I2, r, q2⟩ => ⟨I2.kIn, ?_⟩) he hpl
  · rw [List.append_nil]
    exact ⟨by rw [List.length_cons, ← r2.length]; exact h2.1, _, S2, G, _, Rps.cons (by simp only [Rp]) r2, s2, h2.2, k.mono (k1.trans k2), fun n d S' => hW n d ρ S'⟩
  · exact run_fnG (us := .ref a :: us) (vs := .ref a :: vs) (ds := []) (dvs := []) ok hr hb .nil pass0 I2 (.cons rfl r) q2
theorem je_mtd0 (hT : ∀ C m F, mt C m = some F → MtdG X C m F) (hW : ∀ n d ρ S, ¬ W n d ρ S) (ho : JE X o go) (hbase : attributeBase o m X.env (eval o X.env) = eval o X.env)
    (hline : (apos.endLine == pos.line) = true) : JE X (.Call (.Attribute o m apos) [] [] pos) (wMtd mt W m go wNil) := by
  (refine ⟨fun pins s σ H Q I hq => ?_⟩)
  obtain ⟨ρ, S, G, re, rs, h, k⟩ := hq
  refine run_own (n := 0) (args := []) (few := true) hbase rfl hline (thn (ho.run pins s σ H (fun x H1 => ∃ a C fs F S1, Keep H H1 ∧ x = .ref a ∧ RS (md X) H1 S1 ∧ S1 a = some (.ins C fs) ∧ fs.lookup m = none ∧ mt C m = some F ∧ 1 = F.ps.length ∧ F.c [.ref a] S1 G (fun n d S' => W n d ρ S')) I
    (liftE.then re rs h fun d S1 x H1 k1 r1 s1 ⟨a, e, C, fs, ea, hl, F, hF, hg⟩ => by subst e; simp only [Rp] at r1; exact ⟨a, C, fs, F, S1, k1, r1, s1, ea, hl, hF, hg⟩)) fun u s1 ⟨x, H1, I1, r1, a, C, fs, F, S1, k1, e1, rs1, ea, hl, hF, hg⟩ => ?_)
  subst e1
  (obtain rfl : u = Value.ref a := r1)
  obtain ⟨c, dx, l, hm, hx, t⟩ := rs1 a _ ea
  obtain ⟨c', fa, fd, n, hm', cl, me, hb, ok, hr⟩ := (hT C m F hF).ex
  obtain rfl : c' = c := by
    have z : some (Value.ref c') = some (Value.ref c) := hm'.symm.trans hm
    injection z with z
    injection z
  have hl' : l.lookup m = none := by
    rcases t.look (f := m) with ⟨_, a2⟩ | ⟨d, w, a1, _, _⟩
    · exact a2
    · rw [hl] at a1; cases a1
  refine getmeth_ok I1 hx cl me hl' ?_
  refine PySem.W.callWith_K0 (first := [.ref a]) I1.kIn me.kp ?_
  refine run_fnG (us := [.ref a]) (vs := [.ref a]) (ds := []) (dvs := []) ok hr hb .nil pass0 I1 (.cons rfl .nil) ?_
  exact ⟨by rw [← hg.1]; rfl, _, S1, G, _, Rps.cons (by simp only [Rp]) Rps.nil, rs1, hg.2, k.mono k1, fun n d S' => hW n d ρ S'⟩
theorem run_makeG {c fa : Addr} {fd : FuncData} {k : Nat} {ps : List Str} {sp : Sp} {pins : List (Addr × Obj)} {σ : L2.St} {H : Hp} {s : Shared} {Q : VK} {us : List Value} {vs : List V} (M : Mk X.K c fa) (F : FnOkG X.prog X.w X.K X.mg X.base CX0 k fa fd ps sp) (hr : RoomG (k + 1) X.A) (hb : Binds X.K fd ps [])
    (I : Inv X pins σ H s) (r : Vals vs us)
    (h : ∀ x dx, H x = none → H dx = none → dx ≠ x → sp (.ref x :: vs) (upd (upd H dx (.own x)) x (.ins c dx [])) (fun v H2 => v = .non ∧ Q (.ref x) H2) fun _ _ _ => False) :
    wpAny (model X.prog X.w) X.A (call (.ref c) us) (EP X pins σ Q) X.xe s := by
  (have hq := h (s.heap.objs.size + 1) s.heap.objs.size (I.hok.fresh (Nat.le_succ _)) (I.hok.fresh (Nat.le_refl _)) (Nat.ne_of_lt (Nat.lt_succ_self _)))
  have I2 := Inv.made (C := c) I
  (have r2 : Vals (V.ref (s.heap.objs.size + 1) :: vs) (Value.ref (s.heap.objs.size + 1) :: us) := .cons rfl r)
  have hl : ((Value.ref (s.heap.objs.size + 1) :: us) ++ []).length = ps.length := by
    have e := r2.length
    rw [F.len _ _ _ _ hq] at e
    rw [List.append_nil]
    exact e.symm
  have hb' := hb _ (Value.ref (s.heap.objs.size + 1) :: us) I2.kIn hl
  rw [List.append_nil] at hb'
  have hR : RoomG k (X.A.under (.builtin "type.__call__" ⟨.ref c :: us, []⟩)) := ⟨hr.r.make c us [], hr.gd⟩
  refine wpAny_call (make_map (f := fa) I.kIn M.makes M.init (beq_iff_eq.mp M.fn) (codeAny_mono (F.run _ X.stack _ _ ⟨Value.ref (s.heap.objs.size + 1) :: us, []⟩ (Value.ref (s.heap.objs.size + 1) :: us) _ _ _ hR
    (I2.env0.make c us []) hb' r2 hq) fun r s' hq' => ?_))
  cases r with
  | error e => exact hq'.elim
  | ok fl =>
    cases fl with
    | ret u =>
      (obtain ⟨v, H', I3, rv, ev, q3⟩ := I2.after hq')
      subst ev
      (exact ⟨rv, ⟨V.ref (s.heap.objs.size + 1), H', I3, rfl, q3⟩⟩)
    | next => (exact False.elim hq')
    | brk => exact False.elim hq'
    | cont => (exact False.elim hq')
theorem make_lift {c fa : Addr} {H : Hp} {S : Store} {ds : List D} {vs : List V} {G : GQ} {Q : VK} {ρ : Ev} (hm : X.mg C = some (.ref c)) (hW : ∀ n d ρ S, ¬ W n d ρ S) (r : Rps (md X) H ds vs) (rs : RS (md X) H S) (k : LQ (md X) H G Q)
    (h : ds.length + 1 = F.ps.length ∧ ∀ a, S a = none → F.c (.ref a :: ds) (put S a (.ins C [])) (fun d S2 => d = .non ∧ G (.ref a) S2) (fun n d S' => W n d ρ S')) :
    ∀ x dx, H x = none → H dx = none → dx ≠ x → liftSp (md X) F.ps F.c (.ref x :: vs) (upd (upd H dx (.own x)) x (.ins c dx [])) (fun v H2 => v = .non ∧ Q (.ref x) H2) fun _ _ _ => False := by
  intro x dx hx hdx hne
  have k1 : Keep H (upd H dx (.own x)) := Keep.new hdx
  have hx' : upd H dx (.own x) x = none := by rw [upd_ne (Ne.symm hne)]; exact hx
  have k2 : Keep (upd H dx (.own x)) (upd (upd H dx (.own x)) x (.ins c dx [])) := Keep.new hx'
  refine ⟨by rw [List.length_cons, ← r.length]; exact h.1, _, _, _, _, Rps.cons (by simp only [Rp]) (r.mono (k1.trans k2)), (rs.new hdx).put (c := .ins C []) k2 ⟨c, dx, [], hm, upd_same, rfl⟩, h.2 x (rs.fresh hx), ?_, fun n d S' => hW n d ρ S'⟩
  intro d S' v H' k' r' rs' ⟨e, hg⟩
  subst e
  simp only [Rp] at r'
  exact ⟨r', k _ S' _ H' ((k1.trans k2).trans k') (by simp only [Rp]) rs' hg⟩
theorem je_make (hF : MakG X C F) (hW : ∀ n d ρ S, ¬ W n d ρ S) (hg : Gl X C) (ha : JA X (e :: es) gs) (hdb : (C == ("__debug__" : Str)) = false)
    (he : starEach (e :: es) X.env = (false, eval e X.env) :: starEach es X.env) (hpl : (backTo pos (starEach es X.env)).any (·.1) = false) : JE X (.Call (.Name C p) (e :: es) [] pos) (wMake C F W gs) := by
  obtain ⟨c, fa, fd, n, hm, mk, hb, ok, hr⟩ := hF.ex
  (refine ⟨fun pins s σ H Q I hq => ?_⟩)
  obtain ⟨ρ, S, G, re, rs, h, k⟩ := hq
  (refine wpAny_Call_Name_kw (ld_glob I hg hm ?_ hdb))
  refine PySem.W.callWith_K (h₀ := X.base) I.ok.mod.kin mk.kp (thn (ha.run pos pins s σ H (fun vs H1 => ∀ x dx, H1 x = none → H1 dx = none → dx ≠ x → liftSp (md X) F.ps F.c (.ref x :: vs) (upd (upd H1 dx (.own x)) x (.ins c dx [])) (fun v H2 => v = .non ∧ Q (.ref x) H2) fun _ _ _ => False) I (liftA.then re rs h fun ds S1 xs H1 k1 r1 s1 h1 => ?_)) fun us s1 ⟨vs, H1, I1, r, q⟩ => ⟨I1.kIn, ?_⟩) he hpl
  · exact make_lift (fa := fa) hm hW r1 s1 (k.mono k1) h1
  · exact run_makeG mk ok hr hb I1 r q
theorem je_make0 (hF : MakG X C F) (hW : ∀ n d ρ S, ¬ W n d ρ S) (hg : Gl X C) (hdb : (C == ("__debug__" : Str)) = false) : JE X (.Call (.Name C p) [] [] pos) (wMake C F W wNil) := by
  obtain ⟨c, fa, fd, n, hm, mk, hb, ok, hr⟩ := hF.ex
  (refine ⟨fun pins s σ H Q I hq => ?_⟩)
  obtain ⟨ρ, S, G, re, rs, h, k⟩ := hq
  (refine wpAny_Call_Name_kw (ld_glob I hg hm ?_ hdb))
  exact PySem.W.callWith_K0 I.kIn mk.kp (run_makeG (us := []) mk ok hr hb I .nil (make_lift (fa := fa) hm hW Rps.nil rs k h))
/-- o.f = e -/
def wSetFld (cls : Str → Str → Bool) (go gv : WE) (f : Str) : WS := fun E ρ S => gv ρ S fun v S1 => go ρ S1 fun d S2 => ∃ a, d = .ref a ∧ ∃ C fs, S2 a = some (.ins C fs) ∧ cls C f = true ∧ fs.length < 1000 ∧ E.nx ρ (put S2 a (.ins C (putFD f v fs)))
theorem js_setFld (hT : ∀ C f, cls C f = true → FldG X C f) (ho : JE X o go) (hv : JE X e gv) (hs : swapsWith e (some (.Attribute o f pos')) pos.line X.env = pure false) : JS X (.Assign [.Attribute o f pos'] e pos) (wSetFld cls go gv f) :=
  PS.imp (ps_fld ho hv hs) fun E σ H ⟨ρ, S, G, re, rs, h, k⟩ => liftE.then re rs h fun v S1 x H1 k1 r1 s1 h1 => liftE.then (re.mono k1) s1 h1 fun d S2 y H2 k2 r2 s2 ⟨a, e, C, fs, ea, hC, hl, hg⟩ => by
    subst e
    simp only [Rp] at r2; subst r2
    obtain ⟨c, dx, l, hm, hx, t⟩ := s2 a _ ea
    obtain ⟨c', hm', cl, na⟩ := (hT C f hC).ex
    obtain rfl : c' = c := by
      have z : some (Value.ref c') = some (Value.ref c) := hm'.symm.trans hm
      injection z with z
      injection z
    have ku : Keep H2 (upd H2 a (.ins c' dx (putF f x l))) := Keep.upd hx trivial
    exact ⟨a, c', dx, l, rfl, hx, cl, na, by rw [← t.length]; exact hl, k.nx _ _ _ _ ((k1.trans k2).trans ku) (re.mono ((k1.trans k2).trans ku)) (s2.put (c := .ins C _) ku ⟨c', dx, _, hm, upd_same, (t.mono ku).put (r1.mono (k2.trans ku))⟩) hg⟩
/-- k in d, k not in d: a dict -/
def wInd (neg : Bool) (gk gd : WE) : WT := fun ρ S Q => gk ρ S fun x S1 => gd ρ S1 fun c S2 => ∃ p, c = .ref p ∧ ∃ kvs, S2 p = some (.dct kvs) ∧ ∃ k, keyD x = some k ∧ Q (neg != (valD kvs k).isSome) S2
theorem pc_ind (hu : X.A.units + 1 < cLine) {k d : Expr} {gk gd : WE} (neg : Bool) (hk : JE X k gk) (hd : JE X d gd) : PC X (if neg = true then .NotIn else .In) k d (liftE (md X) (wB (wInd neg gk gd))) := by
  have key : ∀ {σ : L2.St} {H : Hp} {Q : VK}, liftE (md X) (wB (wInd neg gk gd)) σ H Q → liftE (md X) gk σ H fun y H1 => liftE (md X) gd σ H1 fun x H2 => ∃ a o, x = .ref a ∧ DGet H2 a y o ∧ Q (.bl (neg != o.isSome)) H2 := fun {σ H Q} ⟨ρ, S, G, re, rs, h, kk⟩ =>
    liftE.then re rs h fun x S1 y H1 k1 r1 s1 h1 => liftE.then (re.mono k1) s1 h1 fun c S2 z H2 k2 r2 s2 ⟨p, e, kvs, ep, k', ek, hq⟩ => by
      subst e
      simp only [Rp] at r2; subst r2
      obtain ⟨l, hl, t⟩ := s2 _ _ ep
      obtain rfl := keyD_ok r1 ek
      refine ⟨p, valV l k', rfl, .inl ⟨l, k', .inl hl, rfl, rfl⟩, ?_⟩
      have e : (valV l k').isSome = (valD kvs k').isSome := by
        rcases t.val (k := k') with ⟨a1, a2⟩ | ⟨d', w', a1, a2, a3⟩ <;> rw [a1, a2] <;> rfl
      rw [e]
      exact kk _ S2 _ H2 (k1.trans k2) (rp_bl _) s2 hq
  cases neg with
  | false => exact ⟨fun pins s σ H Q I h => (pc_din hu hk hd).run pins s σ H Q I (by
      obtain ⟨ρ, S, G, a1, a2, a3, a4⟩ := key h
      refine ⟨ρ, S, G, a1, a2, a3, fun d S' v H' k r s g => ?_⟩
      obtain ⟨ρ2, S2, G2, b1, b2, b3, b4⟩ := a4 d S' v H' k r s g
      refine ⟨ρ2, S2, G2, b1, b2, b3, fun d S' v H' k r s g => ?_⟩
      obtain ⟨a, o, c1, c2, c3⟩ := b4 d S' v H' k r s g
      refine ⟨a, o, c1, c2, ?_⟩
      rw [Bool.false_bne] at c3
      exact c3)⟩
  | true => exact ⟨fun pins s σ H Q I h => (pc_dnotin hu hk hd).run pins s σ H Q I (by
      obtain ⟨ρ, S, G, a1, a2, a3, a4⟩ := key h
      refine ⟨ρ, S, G, a1, a2, a3, fun d S' v H' k r s g => ?_⟩
      obtain ⟨ρ2, S2, G2, b1, b2, b3, b4⟩ := a4 d S' v H' k r s g
      refine ⟨ρ2, S2, G2, b1, b2, b3, fun d S' v H' k r s g => ?_⟩
      obtain ⟨a, o, c1, c2, c3⟩ := b4 d S' v H' k r s g
      refine ⟨a, o, c1, c2, ?_⟩
      rw [Bool.true_bne] at c3
      exact c3)⟩
theorem je_ind (hu : X.A.units + 1 < cLine) {k d : Expr} {gk gd : WE} {neg : Bool} (hk : JE X k gk) (hd : JE X d gd) (hm : behindInMarks (if neg = true then .NotIn else .In) d = false) : JE X (.Compare k [if neg = true then .NotIn else .In] [d] pos) (wB (wInd neg gk gd)) :=
  pe_cmp (pc_ind hu neg hk hd) hm
theorem jt_ind (hu : X.A.units + 1 < cLine) {k d : Expr} {gk gd : WE} {neg : Bool} (hk : JE X k gk) (hd : JE X d gd) (hm : behindInMarks (if neg = true then .NotIn else .In) d = false) : JT X (.Compare k [if neg = true then .NotIn else .In] [d] pos) (wInd neg gk gd) :=
  PT.imp (pt_cmp (pc_ind hu neg hk hd) hm) fun σ H Q ⟨ρ, S, G, re, rs, h, kk⟩ => by
    refine ⟨ρ, S, (fun d S' => match d with
      | .bl b => G b S'
      | _ => False), re, rs, h, fun d S' v H' k r s g => ?_⟩
    cases d with
    | bl b => simp only [Rp] at r; subst r; exact ⟨b, rfl, kk b S' H' k s g⟩
    | _ => exact g.elim
end
end GL
end

-- G11
section
namespace GL
open PyProof.Rows PySem PySem.Spec L2

/-! ### the small language -/
mutual
inductive GX where
  | slot (i : Nat) | int (i : Int) | str (s : Str) | bl (b : Bool) | non
  /-- a constant of the module; a class of the language; a def as a value -/
  | val (x : Str) | bty (n : String) | fnv (x : Str)
  | bin (o : Operator) (a b : GX) | cmp (o : CmpOp) (a b : GX) | cmp2 (o p : CmpOp) (a b c : GX)
  | and_ (a b : GX) | or_ (a b : GX) | not_ (a : GX) | neg (a : GX) | ite (c a b : GX)
  | tup (es : GXs) | lst (es : GXs) | dct (ps : GPs)
  | idx (a b : GX) | slc (a : GX) (lo hi : GO) | rev (a : GX)
  | call (f : Str) (es : GXs) | callk (f : Str) (es : GXs) (ks : List Str) (zs : GXs)
  | blt (b : Bl) (es : GXs) | sset (a : GX) | callv (i : Nat) (es : GXs) | trg (e : GX) | lrg (e : GX) | ind (neg : Bool) (k d : GX) | mth (m : Me) (o : GX) (es : GXs)
  | fld (o : GX) (f : Str) | mtd (m : Str) (o : GX) (es : GXs) | make (C : Str) (es : GXs)
  | lc (own : List (Str × Nat)) (tg : GTg) (it : GIt) (c : GO) (elt : GX)
inductive GXs where
  | nil | cons (e : GX) (es : GXs)
inductive GPs where
  | nil | cons (k v : GX) (ps : GPs)
inductive GO where
  | none | some (e : GX)
inductive GIt where
  | ex (e : GX) | range1 (e : GX) | range2 (a b : GX) | enum (e : GX) | zip (a b : GX)
inductive GTg where
  | name (i : Nat) | tup (ts : GTgs)
inductive GTgs where
  | nil | cons (t : GTg) (ts : GTgs)
end
def GXs.len : GXs → Nat
  | .nil => 0
  | .cons _ es => es.len + 1
mutual
def GTg.slots : GTg → List Nat
  | .name i => [i]
  | .tup ts => ts.slots
def GTgs.slots : GTgs → List Nat
  | .nil => []
  | .cons t ts => t.slots ++ ts.slots
end
def GTgs.len : GTgs → Nat
  | .nil => 0
  | .cons _ ts => ts.len + 1
mutual
def wG : GTg → WG
  | .name i => wgName i
  | .tup ts => wgTup ts.len (wGs ts)
def wGs : GTgs → WGs
  | .nil => wgNil
  | .cons t ts => wgCons (wG t) (wGs ts)
end

/-- an expression's two readings: as a value, as a test -/
structure W2 where
  e : WE
  t : WT
def both (g : WE) : W2 := ⟨g, wTru g⟩
def wDct (ps : List (WE × WE)) : WE := fun ρ S Q => ∀ a, S a = none → wPairs ps ρ (put S a (.dct [])) fun xs S2 => S2 a = some (.dct []) ∧ ∃ kvs : List (Key × D), xs.map (fun p => (keyD p.1, p.2)) = kvs.map (fun kv => (some kv.1, kv.2)) ∧ kvs.length ≤ 15 ∧ Q (.ref a) (put S2 a (.dct (mergeD [] kvs)))
def revD (d : D) (S : Store) (Q : GQ) : Prop := match d with
  | .tup ds => Q (.tup ds.reverse) S
  | .frl ds => wNew (.lst ds.reverse) S Q
  | .ref a => match S a with
    | some (.lst ds) => wNew (.lst ds.reverse) S Q
    | _ => False
  | _ => False
/-- keys as values, as data -/
def dK : Key → D
  | .inl i => .int i
  | .inr x => .str x
def kP : Key → PyData
  | .inl i => .int i
  | .inr x => .str x
def OneKind (ks : List Key) : Prop := (∀ k ∈ ks, ∃ x, k = .inr x) ∨ (∀ k ∈ ks, ∃ i, k = .inl i)
theorem OneKind.sub {ks us : List Key} (h : OneKind ks) (s : ∀ k ∈ us, k ∈ ks) : OneKind us := h.imp (fun h k hk => h k (s k hk)) (fun h k hk => h k (s k hk))
/-- sorted(set(d)), d's items all texts or all ints -/
def ssetK (d : D) (S : Store) (Q : GQ) : Prop := ∃ ks : List Key, seqD S d = some (ks.map dK) ∧ ks.length + 1 < scanBound ∧ OneKind ks ∧
  ∀ us : List Key, us.Nodup → (∀ k, k ∈ us ↔ k ∈ ks) → wNew (.lst ((us.mergeSort (PySem.W.dataLe false kP)).map dK)) S Q
/-- pairs of ints -/
def pD (p : Int × Int) : D := .tup [.int p.1, .int p.2]
def ltP (p q : Int × Int) : Prop := p.1 < q.1 ∨ (p.1 = q.1 ∧ p.2 < q.2)
/-- the same, d's items pairs of small ints -/
def ssetP (d : D) (S : Store) (Q : GQ) : Prop := ∃ (ps : List (Int × Int)) (B : Int), seqD S d = some (ps.map pD) ∧ ps.length < 64 ∧ (∀ p ∈ ps, (0 ≤ p.1 ∧ p.1 < B) ∧ 0 ≤ p.2 ∧ p.2 < B) ∧
  ∀ us : List (Int × Int), us.Pairwise ltP → (∀ p, p ∈ us ↔ p ∈ ps) → wNew (.lst (us.map pD)) S Q
def ssetD (d : D) (S : Store) (Q : GQ) : Prop := ssetK d S Q ∨ ssetP d S Q
mutual
def w (T : Tb) (W : XW) : GX → W2
  | .slot i => both (wSlot i)
  | .int i => both (wVal (.int i))
  | .str s => both (wVal (.str s))
  | .bl b => both (wVal (.bl b))
  | .non => both (wVal .non)
  | .val x => both fun _ S Q => ∃ d, T.val x = some d ∧ Q d S
  | .bty n => both (wVal (.ty n))
  | .fnv x => both fun _ S Q => (T.fn x).isSome = true ∧ Q (.glo x) S
  | .bin o a b => both (wBin (binD o) (w T W a).e (w T W b).e)
  | .cmp o a b => ⟨wB (wCmp (cmpD o) (w T W a).e (w T W b).e), wCmp (cmpD o) (w T W a).e (w T W b).e⟩
  | .cmp2 o p a b c => ⟨wB (wCmp2 (cmpD o) (cmpD p) (w T W a).e (w T W b).e (w T W c).e), wCmp2 (cmpD o) (cmpD p) (w T W a).e (w T W b).e (w T W c).e⟩
  | .and_ a b => ⟨wAndE (w T W a).e (w T W b).e, wAnd (w T W a).t (w T W b).t⟩
  | .or_ a b => ⟨wOrE (w T W a).e (w T W b).e, wOr (w T W a).t (w T W b).t⟩
  | .not_ a => ⟨fun ρ S Q => (w T W a).e ρ S fun d S1 => tru d S1 fun b S2 => Q (.bl (!b)) S2, wNot (w T W a).t⟩
  | .neg a => both (wUn negD (w T W a).e)
  | .ite c a b => both (wIfE (w T W c).t (w T W a).e (w T W b).e)
  | .tup es => both (wTup (wAs T W es))
  | .lst es => both (wLst (wAs T W es))
  | .dct ps => both (wDct (wPs T W ps))
  | .idx a b => both (wBin idxD (w T W a).e (w T W b).e)
  | .slc a lo hi => both (wSlc (w T W a).e (wO T W lo) (wO T W hi))
  | .rev a => both fun ρ S Q => (w T W a).e ρ S fun d S1 => revD d S1 Q
  | .call f es => both fun ρ S Q => ∃ F, T.fn f = some F ∧ wCall F W (wAs T W es) ρ S Q
  | .trg e => both (wTrg (w T W e).e)
  | .lrg e => both (wLrg (w T W e).e)
  | .ind neg k d => ⟨wB (wInd neg (w T W k).e (w T W d).e), wInd neg (w T W k).e (w T W d).e⟩
  | .callv i es => both fun ρ S Q => ∃ f F, ρ[i]? = some (some (.glo f)) ∧ T.fn f = some F ∧ wCall F W (wAs T W es) ρ S Q
  | .callk f es ks zs => both fun ρ S Q => ∃ F, T.fn f = some F ∧ wCallK F W es.len (wAs T W es) ks (wAs T W zs) ρ S Q
  | .blt b es => both fun ρ S Q => wAs T W es ρ S fun ds S1 => bltD b ds S1 Q
  | .sset a => both fun ρ S Q => (w T W a).e ρ S fun d S1 => ssetD d S1 Q
  | .mth m o es => both (wMth m (w T W o).e (wAs T W es))
  | .fld o f => both (wFld T.cls f (w T W o).e)
  | .mtd m o es => both (wMtd T.mt W m (w T W o).e (wAs T W es))
  | .make C es => both fun ρ S Q => ∃ F, T.nw C = some F ∧ wMake C F W (wAs T W es) ρ S Q
  | .lc own tg it c elt => both (wLc (wI T W it) (wG tg) (wC T (fun _ _ _ _ => False) c) (w T (fun _ _ _ _ => False) elt).e (own.map (·.2)))
def wAs (T : Tb) (W : XW) : GXs → WA
  | .nil => wNil
  | .cons e es => wCons (w T W e).e (wAs T W es)
def wPs (T : Tb) (W : XW) : GPs → List (WE × WE)
  | .nil => []
  | .cons k v ps => ((w T W k).e, (w T W v).e) :: wPs T W ps
def wO (T : Tb) (W : XW) : GO → WO
  | .none => wNoP
  | .some e => wPart (w T W e).e
/-- the tests of a comprehension -/
def wC (T : Tb) (W : XW) : GO → WT
  | .none => fun _ S Q => Q true S
  | .some e => (w T W e).t
def wI (T : Tb) (W : XW) : GIt → WI
  | .ex e => wIt (w T W e).e
  | .range1 e => wRange1 (w T W e).e
  | .range2 a b => wRange2 (w T W a).e (w T W b).e
  | .enum e => wEnum (w T W e).e
  | .zip a b => wZip (w T W a).e (w T W b).e
end
end GL
end

-- G12
section
namespace GL
open PyProof.Rows PySem PySem.Spec L2

/-! ### does the text say what the small language says -/
structure Sc where
  sc : Scope
  cl : Str → Bool
def vis (sc : Scope) (x : Str) : Bool := match sc.names.lookup x with
  | some .local => true
  | some .cell => true
  | some .free => true
  | _ => false
def glb (sc : Scope) (x : Str) : Bool := decide (sc.names.lookup x = some .globalImplicit) && !(x == ("__debug__" : Str))
def locB (z : Sc) (x : Str) : Bool := match z.sc.names.lookup x with
  | some .local => true
  | some .cell => z.cl x
  | _ => false
def nostar : Expr → Bool
  | .Starred _ _ => false
  | _ => true
def noslice : Expr → Bool
  | .Slice _ _ _ _ => false
  | _ => true
def noset : Expr → Bool
  | .Set _ _ _ => false
  | _ => true
def plainBase : Expr → Bool
  | .Call (.Name _ _) [] [] _ => false
  | _ => true
/-- its truth is that of its value -/
def plainTest : Expr → Bool
  | .UnaryOp .Not _ _ => false
  | .BoolOp _ _ _ => false
  | .IfExp _ _ _ _ => false
  | .Compare _ _ _ _ => false
  | _ => true
/-- a test that the rules know -/
def tst : GX → Bool
  | .ite _ _ _ => false
  | .and_ a b => tst a && tst b
  | .or_ a b => tst a && tst b
  | .not_ a => tst a
  | _ => true
def isTup : Expr → Bool
  | .Tuple _ _ _ => true
  | _ => false
mutual
def chkG (N : List Str) (z : Sc) : GTg → Expr → Bool
  | .name i, e => match e with
    | .Name x _ => decide (N[i]? = some x) && locB z x
    | _ => false
  | .tup ts, e => match e with
    | .Tuple es _ _ => chkGs N z ts es
    | _ => false
def chkGs (N : List Str) (z : Sc) : GTgs → List Expr → Bool
  | .nil, es => match es with
    | [] => true
    | _ => false
  | .cons t ts, es => match es with
    | e :: es => nostar e && chkG N z t e && chkGs N z ts es
    | _ => false
end
def blkSc (z : Sc) (scope : Scope) : Sc := ⟨relS scope z.sc, fun x => scope.names.lookup x == some .cell⟩
mutual
def chk (N : List Str) (z : Sc) : GX → Expr → Bool
  | .slot i, e => match e with
    | .Name x _ => decide (N[i]? = some x) && vis z.sc x && !(x == ("__debug__" : Str)) && !(x == ("__classdict__" : Str))
    | _ => false
  | .int i, e => match e with
    | .Constant (.int j) _ _ => decide (i = j)
    | _ => false
  | .str i, e => match e with
    | .Constant (.str j) _ _ => decide (i = j)
    | _ => false
  | .bl i, e => match e with
    | .Constant (.bool j) _ _ => decide (i = j)
    | _ => false
  | .non, e => match e with
    | .Constant .none _ _ => true
    | _ => false
  | .val x, e => match e with
    | .Name y _ => decide (x = y) && glb z.sc y
    | _ => false
  | .bty n, e => match e with
    | .Name y _ => decide (y = Str.ofString n) && glb z.sc y && (n == "tuple" || n == "str" || n == "int" || n == "bool" || n == "list" || n == "dict")
    | _ => false
  | .fnv x, e => match e with
    | .Name y _ => decide (x = y) && glb z.sc y
    | _ => false
  | .bin o a b, e => match e with
    | .BinOp a' o' b' _ => decide (o = o') && chk N z a a' && chk N z b b'
    | _ => false
  | .cmp o a b, e => match e with
    | .Compare a' [o'] [b'] _ => decide (o = o') && chk N z a a' && chk N z b b' && noset b'
    | _ => false
  | .cmp2 o p a b c, e => match e with
    | .Compare a' [o', p'] [b', c'] _ => decide (o = o') && decide (p = p') && chk N z a a' && chk N z b b' && chk N z c c' && noset c'
    | _ => false
  | .and_ a b, e => match e with
    | .BoolOp .And (x :: y :: rest) pos => chk N z a x && (match rest with
      | [] => chk N z b y
      | r :: rs => chk N z b (.BoolOp .And (y :: r :: rs) pos))
    | _ => false
  | .or_ a b, e => match e with
    | .BoolOp .Or (x :: y :: rest) pos => chk N z a x && (match rest with
      | [] => chk N z b y
      | r :: rs => chk N z b (.BoolOp .Or (y :: r :: rs) pos))
    | _ => false
  | .not_ a, e => match e with
    | .UnaryOp .Not a' _ => chk N z a a'
    | _ => false
  | .neg a, e => match e with
    | .UnaryOp .USub a' _ => chk N z a a'
    | _ => false
  | .ite c a b, e => match e with
    | .IfExp c' a' b' _ => chk N z c c' && tst c && chk N z a a' && chk N z b b'
    | _ => false
  | .tup es, e => match e with
    | .Tuple es' _ _ => chks N z es es'
    | _ => false
  | .lst es, e => match e with
    | .List es' _ => chks N z es es'
    | _ => false
  | .dct ps, e => match e with
    | .Dict ks vs _ => chkP N z ps ks vs && decide (ks.length ≤ 15)
    | _ => false
  | .idx a b, e => match e with
    | .Subscript a' b' _ => chk N z a a' && chk N z b b' && noslice b'
    | _ => false
  | .slc a lo hi, e => match e with
    | .Subscript a' (.Slice lo' hi' none _) _ => chk N z a a' && chkO N z lo lo' && chkO N z hi hi'
    | _ => false
  | .rev a, e => match e with
    | .Subscript a' (.Slice none none (some (.UnaryOp .USub (.Constant (.int 1) _ _) _)) _) _ => chk N z a a'
    | _ => false
  | .call f es, e => match e with
    | .Call (.Name x _) es' [] _ => decide (f = x) && glb z.sc x && chks N z es es'
    | _ => false
  | .trg a, e => match e with
    | .Call (.Name x _) [.Call (.Name y _) [a'] [] _] [] _ => decide (x = "tuple") && glb z.sc x && decide (y = "range") && glb z.sc y && chk N z a a' && nostar a'
    | _ => false
  | .lrg a, e => match e with
    | .Call (.Name x _) [.Call (.Name y _) [a'] [] _] [] _ => decide (x = "list") && glb z.sc x && decide (y = "range") && glb z.sc y && chk N z a a' && nostar a'
    | _ => false
  | .ind neg k d, e => match e with
    | .Compare a' [o'] [b'] _ => decide (o' = (if neg = true then .NotIn else .In)) && chk N z k a' && chk N z d b' && noset b'
    | _ => false
  | .callv i es, e => match e with
    | .Call (.Name x _) (e0 :: er) [] _ => decide (N[i]? = some x) && vis z.sc x && !(x == ("__debug__" : Str)) && !(x == ("__classdict__" : Str)) && chks N z es (e0 :: er)
    | _ => false
  | .callk f es ks zs, e => match e with
    | .Call (.Name x _) es' kws _ => decide (f = x) && glb z.sc x && chks N z es es' && chkK N z ks zs kws
    | _ => false
  | .blt b es, e => match e with
    | .Call (.Name x _) es' [] _ => decide (b.name = x) && glb z.sc x && chks N z es es' && !es'.isEmpty
    | _ => false
  | .sset a, e => match e with
    | .Call (.Name x _) [.Call (.Name y _) [a'] [] _] [] _ => decide (x = "sorted") && glb z.sc x && decide (y = "set") && glb z.sc y && chk N z a a' && nostar a'
    | _ => false
  | .mth m o es, e => match e with
    | .Call (.Attribute o' x apos) es' [] cpos => decide (m.name = x) && chk N z o o' && chks N z es es' && plainBase o' && (apos.endLine == cpos.line) && decide (es'.length < 29)
    | _ => false
  | .fld o f, e => match e with
    | .Attribute o' x _ => decide (f = x) && chk N z o o' && plainBase o'
    | _ => false
  | .mtd m o es, e => match e with
    | .Call (.Attribute o' x apos) es' [] cpos => decide (m = x) && chk N z o o' && chks N z es es' && plainBase o' && (apos.endLine == cpos.line) && decide (es'.length < 29)
    | _ => false
  | .make C es, e => match e with
    | .Call (.Name x _) es' [] _ => decide (C = x) && glb z.sc x && chks N z es es'
    | _ => false
  | .lc own tg it c elt, e => match e with
    | .ListComp elt' [⟨tg', it', ifs', 0⟩] scope _ => blkC N z.sc scope own && decide (∀ i ∈ tg.slots, i ∈ own.map (·.2)) && chkG N (blkSc z scope) tg tg' && chkI N z it it' && (isTup tg' || !(match it with | .enum _ => true | .zip _ _ => true | _ => false)) &&
        chkC N (blkSc z scope) c ifs' && chk N (blkSc z scope) elt elt' && noset it'
    | _ => false
def chks (N : List Str) (z : Sc) : GXs → List Expr → Bool
  | .nil, es => match es with
    | [] => true
    | _ => false
  | .cons g gs, es => match es with
    | e :: es => nostar e && chk N z g e && chks N z gs es
    | _ => false
def chkK (N : List Str) (z : Sc) : List Str → GXs → List Keyword → Bool
  | ks, .nil, kws => match ks, kws with
    | [], [] => true
    | _, _ => false
  | ks, .cons g gs, kws => match ks, kws with
    | k :: ks, ⟨nm, e, _⟩ :: kws => decide (nm = some k) && chk N z g e && chkK N z ks gs kws
    | _, _ => false
def chkP (N : List Str) (z : Sc) : GPs → List (Option Expr) → List Expr → Bool
  | .nil, ks, vs => match ks, vs with
    | [], [] => true
    | _, _ => false
  | .cons gk gv ps, ks, vs => match ks, vs with
    | some k :: ks, v :: vs => chk N z gk k && chk N z gv v && chkP N z ps ks vs
    | _, _ => false
def chkO (N : List Str) (z : Sc) : GO → Option Expr → Bool
  | .none, o => match o with
    | none => true
    | some _ => false
  | .some g, o => match o with
    | some e => chk N z g e
    | none => false
def chkC (N : List Str) (z : Sc) : GO → List Expr → Bool
  | .none, o => match o with
    | [] => true
    | _ => false
  | .some g, o => match o with
    | [e] => chk N z g e && tst g
    | _ => false
def chkI (N : List Str) (z : Sc) : GIt → Expr → Bool
  | .ex g, e => chk N z g e
  | .range1 g, e => match e with
    | .Call (.Name x _) [a] [] _ => decide (x = "range") && glb z.sc x && chk N z g a && nostar a
    | _ => false
  | .range2 g h, e => match e with
    | .Call (.Name x _) [a, b] [] _ => decide (x = "range") && glb z.sc x && chk N z g a && chk N z h b && nostar a && nostar b
    | _ => false
  | .enum g, e => match e with
    | .Call (.Name x _) [a] [] _ => decide (x = "enumerate") && glb z.sc x && chk N z g a && nostar a
    | _ => false
  | .zip g h, e => match e with
    | .Call (.Name x _) [a, b] [] _ => decide (x = "zip") && glb z.sc x && chk N z g a && chk N z h b && nostar a && nostar b
    | _ => false
end

/-! ### side conditions -/
theorem star_cons {e : Expr} {es : List Expr} {env : Env} (h : nostar e = true) : starEach (e :: es) env = (false, eval e env) :: starEach es env := by
  cases e <;> first | rfl | (cases h; done)
theorem plain_ix {b : Expr} (h : noslice b = true) : PlainIx b := by
  intro o i; cases b <;> first | rfl | (cases h; done)
theorem noset_b {b : Expr} {op : CmpOp} (h : noset b = true) : behindInMarks op b = false := by
  cases b <;> first | rfl | (cases h; done)
theorem noset_f {b : Expr} {env : Env} (h : noset b = true) : ∀ x, foldedSetIterable b env x = pure x := by
  intro x; cases b <;> first | rfl | (cases h; done)
theorem base_ok {o : Expr} {m : Str} {env : Env} {wh : Sem Value} (h : plainBase o = true) : attributeBase o m env wh = wh := by
  cases o with
  | Call f as ks pos =>
    cases f <;> first | rfl | skip
    cases as <;> first | rfl | skip
    cases ks <;> first | rfl | (cases h; done)
  | _ => rfl
theorem test_ok {e : Expr} {env : Env} (h : plainTest e = true) : ∀ whole, isTrue e env whole = (do let v ← whole; standAt e.pos; holding [v] (truthy v)) := by
  intro whole
  cases e with
  | UnaryOp op _ _ => cases op <;> first | rfl | (cases h; done)
  | BoolOp _ _ _ => cases h
  | IfExp _ _ _ _ => cases h
  | Compare _ _ _ _ => cases h
  | _ => rfl
theorem asg_cons {e : Expr} {es : List Expr} {env : Env} (h : nostar e = true) : assignEach (e :: es) env = (false, assign e env) :: assignEach es env := by
  cases e <;> first | rfl | (cases h; done)
end GL
end

-- GA
section
namespace GL
open PyProof.Rows PySem PySem.Spec L2
theorem sliceAdjust_rev (n : Nat) : Builtin.Slice.sliceAdjust none none (-1) (n : Int) = ((n : Int) - 1, -1) := by
  first | rfl | simp [Builtin.Slice.sliceAdjust]
theorem slicePlaces_rev (n : Nat) : Builtin.Slice.slicePlaces ((n : Int) - 1) (-1) (-1) = n := by
  (unfold Builtin.Slice.slicePlaces)
  (have h1 : ¬ ((-1 : Int) > 0) := by decide)
  simp
  try omega
theorem pick_rev (xs : Array Value) : ((List.range xs.size).filterMap fun (m : Nat) => xs[(((xs.size : Int) - 1) + (m : Int) * (-1)).toNat]?).toArray = xs.toList.reverse.toArray := by
  have e : ∀ m ∈ List.range xs.size, xs[(((xs.size : Int) - 1) + (m : Int) * (-1)).toNat]? = xs[xs.size - 1 - m]? := by
    intro m hm
    have := List.mem_range.mp hm
    rw [show (((xs.size : Int) - 1) + (m : Int) * (-1)).toNat = xs.size - 1 - m by omega]
  have cong : ∀ (l : List Nat) (f g : Nat → Option Value), (∀ m ∈ l, f m = g m) → l.filterMap f = l.filterMap g := by
    intro l f g
    induction l with
    | nil => intro _; rfl
    | cons a l ih => intro h; rw [List.filterMap_cons, List.filterMap_cons, h a (List.mem_cons_self ..), ih fun m hm => h m (List.mem_cons_of_mem _ hm)]
  rw [cong _ _ _ e]
  have h2 : (fun m => xs[xs.size - 1 - m]?) = (fun j => xs[j]?) ∘ fun m => xs.size - 1 - m := rfl
  rw [h2, ← List.filterMap_map, PySem.W.krv_range, List.filterMap_reverse, PySem.W.krv_all]
section
variable {prog : Program}
variable {w : World}
variable {A : Around}
variable {E : Value → Shared → Prop}
variable {s : Shared}
theorem getItem_tuple_rev {t sl : Addr} {items : Array Value} {vl vu vs : Value} {Q : Value → Shared → Prop} (ht : IsTup s.heap t items) (hs : s.heap.IsSliceOf sl vl vu vs) (pl : IsPart vl none) (pu : IsPart vu none) (ps : IsPart vs (some (-1)))
    (h : Q (.ref s.heap.objs.size) { s with heap := s.heap.push { cls := .type "tuple", data := .seq items.toList.reverse.toArray } }) (hsz : items.size ≤ sizeLine) : wpAny (model prog w) A (getItem (.ref t) (.ref sl)) Q E s := by
  have htake : sizeOk (.seq items.toList.reverse.toArray) := by
    show items.toList.reverse.toArray.size ≤ sizeLine
    simpa using hsz
  (obtain ⟨os, hos, hcs, hds⟩ := id hs)
  (have hTs : s.TypeIs (.ref sl) "slice" := ⟨os, hos, hcs⟩)
  unfold getItem
  (try with_reducible refine wpAny_holding ?_)
  (first | refine wpAny_bind (wpAny_pure ?_) | skip)
  (refine wpAny_bind (wpAny_sequenceKey ht.typeIs (by decide) ?_))
  refine wpAny_bind (wpAny_callSpecial?_slot (name := Str.ofString "__getitem__") ht.typeIs PyProof.Rows.slot_tuple_getitem (wpAny_call_entry PyProof.Rows.slot_tuple_getitem ht.typeIs entry_tuple_getitem ?_ (args_tuple_getitem _ _)))
  (show wpAny _ _ (Builtin.Tuple.tupleItemsOf (.ref t) >>= _) _ _ s)
  (refine wpAny_bind (tupleItemsOf_ ht ?_))
  (refine wpAny_bind (wpAny_typeOf hTs ?_))
  rw [if_pos (by decide)]
  have ha : ∀ (E : Value → Shared → Prop), wpAny (model prog w) A.in1 (Builtin.Slice.sliceApplied (.ref sl) (pure (items.size : Int))) (fun r s' => r = ((items.size : Int) - 1, -1, items.size) ∧ s' = s) E s := by
    intro E
    (unfold Builtin.Slice.sliceApplied Builtin.Slice.sliceFields)
    refine wpAny_bind (wpAny_bind (wpAny_field hos hds (x := vl) rfl (wpAny_bind (wpAny_field hos hds (x := vu) rfl (wpAny_bind (wpAny_field hos hds (x := vs) rfl (wpAny_pure ?_)))))))
    refine wpAny_bind (HT.slicePart_ ps ?_)
    show wpAny _ _ (if ((-1 : Int) == 0) = true then _ else _) _ _ s
    rw [if_neg (by decide)]
    refine wpAny_bind (HT.slicePart_ pl (wpAny_bind (HT.slicePart_ pu (wpAny_bind (wpAny_pure ?_)))))
    show wpAny _ _ (match Builtin.Slice.sliceAdjust none none (-1) (items.size : Int) with | (lo, hi) => pure (lo, (-1 : Int), Builtin.Slice.slicePlaces lo hi (-1))) _ _ s
    rw [sliceAdjust_rev]
    show wpAny _ _ (pure (((items.size : Int) - 1), (-1 : Int), Builtin.Slice.slicePlaces ((items.size : Int) - 1) (-1) (-1))) _ _ s
    rw [slicePlaces_rev]
    exact wpAny_pure ⟨rfl, rfl⟩
  refine wpAny_bind (wpAny_mono (ha _) (fun r s' hr => ?_) fun _ _ e => e)
  obtain ⟨rfl, rfl⟩ := hr
  show wpAny _ _ (if (((items.size : Int) - 1) == 0 && (-1 : Int) == 1 && items.size == items.size) = true then _ else _) _ _ s'
  rw [if_neg (by simp), pick_rev]
  first | exact wpAny_bind (m := Builtin.Tuple.tupleExact _) (wpAny_newObj_type (wpAny_pure ⟨_, rfl, wpAny_pure h⟩) htake) | exact wpAny_bind (m := Builtin.Tuple.tupleExact _) (wpAny_newObj_type (wpAny_bind (wpAny_pure (wpAny_pure ⟨_, rfl, wpAny_pure h⟩))) htake)
end
def tRevA (K : PySem.W.Frag) (te : TE) : TE := fun σ H Q => te σ H fun x H1 => ∃ a xs, x = .ref a ∧ ((SqL K H1 a xs ∧ ∀ p, H1 p = none → Q (.ref p) (upd H1 p (.lst xs.reverse))) ∨ (SqT K H1 a xs ∧ NewT H1 xs.reverse Q))
theorem Vals.rev {xs : List V} {us : List Value} (h : Vals xs us) : Vals xs.reverse us.reverse := by
  induction h with
  | nil => exact .nil
  | cons r t ih => rw [List.reverse_cons, List.reverse_cons]; exact ih.append (.cons r .nil)
section
variable {X : Cx}
theorem pe_revA {e : Expr} {te : TE} {k : Nat} {p1 p2 p3 pos : Pos} (he : PE X e te) : PE X (.Subscript e (.Slice none none (some (.UnaryOp .USub (.Constant (.int 1) k p1) p2)) p3) pos) (tRevA X.K te) := by
  (refine ⟨fun pins s σ H Q I h => ?_⟩)
  (refine Subscript_ (thn (he.run pins s σ H _ I h) fun v s1 ⟨x, H1, I1, r1, q1⟩ => ?_))
  obtain ⟨a, xs, ex, q1⟩ := q1
  subst ex
  cases r1
  (have hst : PO X (some (.UnaryOp .USub (.Constant (.int 1) k p1) p2)) (tPart (tUn (rU fun i => .int (-i)) (tC (.int 1)))) := po_some (pe_un un_neg pe_int))
  (refine wpAny_Slice (thn (po_none.run pins s1 σ H1 (fun o H2 => o = none ∧ H2 = H1) I1 ⟨rfl, rfl⟩) fun vl s2 ⟨l, H2, I2, pl, el, e2⟩ => ?_))
  subst el e2
  (refine thn (po_none.run pins s2 σ H2 (fun o H3 => o = none ∧ H3 = H2) I2 ⟨rfl, rfl⟩) fun vu s3 ⟨u, H3, I3, pu, eu, e3⟩ => ?_)
  subst eu e3
  (refine thn (hst.run pins s3 σ H3 (fun o H4 => o = some (-1) ∧ H4 = H3) I3 ⟨1, rfl, -1, rfl, rfl, rfl⟩) fun vs s4 ⟨o, H4, I4, ps, eo, e4⟩ => ?_)
  subst eo e4
  (have I5 : Inv X pins σ H4 { s4 with heap := s4.heap.push { cls := .type "slice", data := .fields #[vl, vu, vs] } } := I4.kept (t' := s4.toks) fun b ob q => Heap.get?_push_of_some _ q)
  (show wpAny (model X.prog X.w) X.A (subscriptTail e (.Slice none none (some (.UnaryOp .USub (.Constant (.int 1) k p1) p2)) p3) (.ref a) (.ref s4.heap.objs.size)) (EP X pins σ Q) X.xe { s4 with heap := s4.heap.push { cls := .type "slice", data := .fields #[vl, vu, vs] } })
  rcases q1 with ⟨hx, q⟩ | ⟨hx, q⟩
  · obtain ⟨its, r, ht, hz⟩ := I5.list hx
    have hlen := r.length
    (refine tail_any (ops := [.ref a, .ref s4.heap.objs.size]) ht.isList.typeIs (PySem.slot_list_getitem.lookup) ?_ (by with_unfolding_all rfl))
    (refine wpAny_getItem_list_slice ht.isList (Heap.IsSliceOf.new _ vl vu vs) pl pu ps (by decide) ?_ (by rw [List.size_toArray]; omega))
    rw [PySem.W.krv_pick]
    (refine ⟨.ref _, _, I5.laid (t' := s4.toks) (o := .lst xs.reverse) (fun b ob q => Heap.get?_push_of_some _ q) (Nat.le_refl _) ?_, rfl, q _ (I5.hok.fresh (Nat.le_refl _))⟩)
    exact ⟨by rw [List.length_reverse]; exact hz, _, 0, Vals.rev r, Heap.get?_push_size _ rfl⟩
  · obtain ⟨its, r, ht, hz⟩ := I5.tuple hx
    have hlen := r.length
    refine tail_any (ops := [.ref a, .ref s4.heap.objs.size]) (show Shared.TypeIs _ (.ref a) "tuple" from ht.typeIs) (PyProof.Rows.slot_tuple_getitem.lookup) ?_ (by with_unfolding_all rfl)
    refine getItem_tuple_rev ht (Heap.IsSliceOf.new _ vl vu vs) pl pu ps ?_ (by rw [List.size_toArray]; omega)
    exact laidT (t := s4.toks) I5 (Vals.rev r) (by rw [List.length_reverse]; exact hz) q
theorem je_rev {e : Expr} {g : WE} {k : Nat} {p1 p2 p3 pos : Pos} (he : JE X e g) : JE X (.Subscript e (.Slice none none (some (.UnaryOp .USub (.Constant (.int 1) k p1) p2)) p3) pos) (fun ρ S Q => g ρ S fun d S1 => revD d S1 Q) :=
  PE.imp (pe_revA he) fun σ H Q ⟨ρ, S, G, re, rs, h, kk⟩ => liftE.then re rs h fun d S1 x H1 k1 r1 s1 h1 => by
    unfold revD at h1
    split at h1 <;> (try simp only [Rp] at r1)
    · obtain ⟨a, xs, rfl, q, t⟩ := r1
      exact ⟨a, xs, rfl, .inr ⟨q.sqt, fun p o np no => lqTup (kk.mono k1) t.reverse s1 h1 np no⟩⟩
    · obtain ⟨a, xs, rfl, q, t⟩ := r1
      exact ⟨a, xs, rfl, .inl ⟨q.sql, fun p np => lqNew (kk.mono k1) t.reverse s1 h1 np⟩⟩
    · subst r1
      split at h1
      · rename_i ds e
        obtain ⟨xs, hx, t⟩ := s1 _ _ e
        exact ⟨_, xs, rfl, .inl ⟨SqL.of hx, fun p np => lqNew (kk.mono k1) t.reverse s1 h1 np⟩⟩
      · exact h1.elim
    · exact h1.elim
theorem kw_facts {env : Env} {pos : Pos} : ∀ {ks : List Str} {kws : List Keyword}, kws.map (·.arg) = ks.map some → (backToKw pos (keywordEach kws env)).all (·.1.isSome) = true ∧ (backToKw pos (keywordEach kws env)).filterMap (·.1) = ks ∧ (backToKw pos (keywordEach kws env)).any (·.1.isNone) = false
  | [], [], _ => ⟨rfl, rfl, rfl⟩
  | [], _ :: _, h => by cases h
  | _ :: _, [], h => by cases h
  | k :: ks, ⟨nm, e, p⟩ :: kws, h => by
    (rw [List.map_cons, List.map_cons] at h)
    injection h with h1 h2
    obtain ⟨a, b, c⟩ := kw_facts (env := env) (pos := pos) h2
    have h1 : nm = some k := h1
    subst h1
    refine ⟨?_, ?_, ?_⟩
    · show (true && (backToKw pos (keywordEach kws env)).all (·.1.isSome)) = true
      rw [a]; rfl
    · show k :: (backToKw pos (keywordEach kws env)).filterMap (·.1) = k :: ks
      rw [b]
    · show (false || (backToKw pos (keywordEach kws env)).any (·.1.isNone)) = false
      rw [c]; rfl
/-- dict displays -/
def Pd (M : Md) (H : Hp) : List (D × D) → List (V × V) → Prop
  | [], l => l = []
  | (a, b) :: r, l => ∃ x y l', l = (x, y) :: l' ∧ Rp M H a x ∧ Rp M H b y ∧ Pd M H r l'
theorem pairs_lift {M : Md} {ρ : Ev} {σ : L2.St} : ∀ {ps : List (WE × WE)} {S : Store} {H : Hp} {G : List (D × D) → Store → Prop} {R : List (V × V) → Hp → Prop}, Re M H ρ σ → RS M H S → wPairs ps ρ S G → (∀ xs S' vs H', Keep H H' → Pd M H' xs vs → RS M H' S' → G xs S' → R vs H') →
    tPairs (ps.map fun p => (liftE M p.1, liftE M p.2)) σ H R
  | [], S, H, G, R, re, rs, h, k => k [] S [] H (Keep.refl H) rfl rs h
  | (gk, gv) :: r, S, H, G, R, re, rs, h, k => by
    show liftE M gk σ H fun x H1 => liftE M gv σ H1 fun y H2 => tPairs (r.map fun p => (liftE M p.1, liftE M p.2)) σ H2 fun ps H3 => R ((x, y) :: ps) H3
    refine liftE.then re rs h fun d S1 x H1 k1 r1 s1 h1 => liftE.then (re.mono k1) s1 h1 fun e S2 y H2 k2 r2 s2 h2 => ?_
    refine pairs_lift (re.mono (k1.trans k2)) s2 h2 fun xs S3 vs H3 k3 r3 s3 h3 => ?_
    exact k ((d, e) :: xs) S3 _ H3 ((k1.trans k2).trans k3) ⟨x, y, vs, rfl, r1.mono (k2.trans k3), r2.mono k3, r3⟩ s3 h3
theorem Pd.kvs {M : Md} {H : Hp} : ∀ {xs : List (D × D)} {vs : List (V × V)} {kvs : List (Key × D)}, Pd M H xs vs → xs.map (fun p => (keyD p.1, p.2)) = kvs.map (fun kv => (some kv.1, kv.2)) → ∃ l, vs = l.map (fun kv => (kV kv.1, kv.2)) ∧ Kvs M H kvs l
  | [], vs, kvs, h, e => by
    cases kvs with
    | nil => exact ⟨[], h, rfl⟩
    | cons _ _ => cases e
  | (a, b) :: r, vs, kvs, h, e => by
    cases kvs with
    | nil => cases e
    | cons kv kvs =>
      obtain ⟨x, y, l', rfl, r1, r2, r3⟩ := h
      (rw [List.map_cons, List.map_cons] at e)
      injection e with e1 e2
      injection e1 with e3 e4
      obtain ⟨l, rfl, kk⟩ := Pd.kvs r3 e2
      obtain rfl := keyD_ok r1 e3
      have e4 : b = kv.2 := e4
      subst e4
      exact ⟨(kv.1, y) :: l, rfl, y, l, rfl, r2, kk⟩
theorem je_dct {ks : List (Option Expr)} {vs : List Expr} {pos : Pos} {ps : List (WE × WE)} (h : PPs X pos ks vs (ps.map fun p => (liftE (md X) p.1, liftE (md X) p.2))) (hall : ks.all (·.isSome) = true) (hl : ks.length = vs.length) (h15 : ks.length ≤ 15) (h0 : ks = [] → ps = []) : JE X (.Dict ks vs pos) (wDct ps) := by
  cases ks with
  | nil =>
    cases vs with
    | cons _ _ => cases hl
    | nil =>
      obtain rfl := h0 rfl
      refine PE.imp pe_dnewK fun σ H Q ⟨ρ, S, G, re, rs, h, k⟩ p np => ?_
      obtain ⟨h1, kvs, e, _, h3⟩ := h p (rs.fresh np)
      cases kvs with
      | cons _ _ => cases e
      | nil =>
        rw [put_put] at h3
        exact k _ _ _ _ (Keep.new np) (by simp only [Rp]) (rs.put (c := .dct []) (Keep.new np) ⟨[], upd_same, rfl⟩) h3
  | cons k0 ks =>
    refine PE.imp (pe_disp h hall hl (by simp) h15) fun σ H Q ⟨ρ, S, G, re, rs, hq, k⟩ p np => ?_
    have kn : Keep H (upd H p (.dK [])) := Keep.new np
    refine pairs_lift (re.mono kn) (rs.put (c := .dct []) kn ⟨[], upd_same, rfl⟩) (hq p (rs.fresh np)) fun xs S' vs' H' k' pd rs' ⟨hS, kvs, e, hlen, hg⟩ => ?_
    obtain ⟨l, rfl, kk⟩ := pd.kvs e
    obtain ⟨l0, hl0, e0⟩ := rs' _ _ hS
    obtain rfl : l0 = [] := e0
    have ku : Keep H' (upd H' p (.dK (mergeK [] l))) := Keep.upd hl0 trivial
    exact ⟨hl0, l, rfl, by rw [← kk.length]; exact hlen, k _ _ _ _ (kn.trans (k'.trans ku)) (by simp only [Rp]) (rs'.put (c := .dct _) ku ⟨_, upd_same, Kvs.merge (kvs := []) (l := []) (kk.mono ku) rfl⟩) hg⟩
end
end GL
end

-- GT
section
namespace GL
open PyProof.Rows PySem PySem.Spec L2
/-! ### sets whose items are scanned (ints, texts), over any kind of key -/
section
variable {P : Program} {w : World} {K : Type} [DecidableEq K] (kn : _root_.PySem.KeyKind P w K) (ky : Value → K)
/-- an entry: one of the values its, under its own key's hash -/
structure Ent (its : List Value) (e : Int × Value) : Prop where
  mem : e.2 ∈ its
  is_ : kn.is (ky e.2) e.2 = true
  hash_ : e.1 = kn.hash (ky e.2)
  scan : e.2.scannable = true
abbrev keysE (l : List (Int × Value)) : List K := l.map fun e => ky e.2
/-- the payload of a set that holds the keys ks -/
structure PayG (its : List Value) (ks : List K) (es : Array (Int × Value)) (t : SetTable) : Prop where
  ent : ∀ e ∈ es.toList, Ent kn ky its e
  nd : (keysE ky es.toList).Nodup
  mem : ∀ k, k ∈ ks ↔ k ∈ keysE ky es.toList
  few : es.size ≤ ks.length
  fit : t.fits es.size = true
  ris : Ris t.place.toList
  led : (w.params.followText "set-order" = true ∨ t.led = true)
def SetG (h : Heap) (a : Addr) (its : List Value) (ks : List K) : Prop :=
  ∃ o es ep t, h.get? a = some o ∧ o.ExactSet ∧ o.data = .set es ep t ∧ PayG kn ky its ks es t
end
section
variable {P : Program} {w : World} {K : Type} [DecidableEq K] {kn : _root_.PySem.KeyKind P w K} {ky : Value → K} {its : List Value} {ks : List K}
theorem SetG.moved {h h' : Heap} {a : Addr} (R : SetG kn ky h a its ks) (k : ∀ o, h.get? a = some o → h'.get? a = some o) : SetG kn ky h' a its ks := by
  (obtain ⟨o, es, ep, t, ho, r⟩ := R)
  (exact ⟨o, es, ep, t, k o ho, r⟩)
theorem ents_of {l : List (Int × Value)} (g : ∀ e ∈ l, Ent kn ky its e) : ElemsOf kn l :=
  fun e he => ⟨⟨_, (g e he).is_, (g e he).hash_⟩, (g e he).scan⟩
theorem ent_is {e : Int × Value} (g : Ent kn ky its e) (k : K) : kn.is k e.2 = true ↔ ky e.2 = k :=
  ⟨fun h => kn.inj _ _ _ g.is_ h, fun h => by subst h; exact g.is_⟩
theorem keys_mem {l : List (Int × Value)} (g : ∀ e ∈ l, Ent kn ky its e) (k : K) : k ∈ keysE ky l ↔ ∃ e ∈ l, kn.is k e.2 = true := by
  simp only [keysE, List.mem_map]
  exact ⟨fun ⟨e, he, q⟩ => ⟨e, he, (ent_is (g e he) k).2 q⟩, fun ⟨e, he, q⟩ => ⟨e, he, (ent_is (g e he) k).1 q⟩⟩
variable {A : Around} {E : Value → Shared → Prop} {s : Shared} {a : Addr}
/-- the table laid anew, perhaps -/
theorem setG_tail {g : Bool → Sem Unit} (hg : ∀ (b : Bool) (s₁ : Shared) (Q' : Unit → Shared → Prop), Q' () s₁ → wpAny (model P w) A (g b) Q' E s₁) {o : Obj} {es : Array (Int × Value)} {ep : Nat} {t : SetTable} (ho : s.heap.get? a = some o) (hex : o.ExactSet) (hd : o.data = .set es ep t)
    {es1 : Array (Int × Value)} {t2 : SetTable} {ks' : List K} (p1 : PayG kn ky its ks' es1 t2) (few : ks'.length < scanBound)
    {dm : Bool} {R : Option Bool → Shared → Prop} (hR : ∀ h', Heap.SameBut a s.heap h' → SetG kn ky h' a its ks' → R (some true) { s with heap := h' }) :
    wpAny (model P w) A (do
        storeSet a es1 t2
        if (!dm && t2.tooFull) = true then do
            (g (relayAll t2 es1 (SetTable.grown es1.size)).2.2)
            (storeSet a (relayAll t2 es1 (SetTable.grown es1.size)).1 (relayAll t2 es1 (SetTable.grown es1.size)).2.1)
            pure (some true)
          else (pure (some true))) R E s := by
  have hb1 : es1.size < scanBound := Nat.lt_of_le_of_lt p1.few few
  (refine wpAny_bind (wpAny_storeSet_of ho hd ?_ (fits_of_scanBound hb1)))
  (have ho1 := store_at (es' := es1) (t' := t2) ho hd)
  (have sb1 := Heap.SameBut.update s.heap a (Obj.putSet es1 t2))
  split
  · (have pm := relayAll_perm t2 es1 (SetTable.grown es1.size))
    have f3 := relayAll_fits t2 es1 (SetTable.grown es1.size)
    have r3 := relayAll_ris t2 es1 (SetTable.grown es1.size)
    have l3 := relayAll_led t2 es1 (SetTable.grown es1.size)
    generalize relayAll t2 es1 (SetTable.grown es1.size) = Z at pm f3 r3 l3 ⊢
    obtain ⟨es2, t3, gave⟩ := Z
    dsimp only at pm f3 r3 l3 ⊢
    have hsz : es2.size = es1.size := by
      have := pm.length_eq
      simpa using this
    (refine wpAny_bind (hg _ _ _ ?_))
    refine wpAny_bind (wpAny_storeSet_of ho1 rfl ?_ (fits_of_scanBound (by omega)))
    (have ho2 := store_at (es' := es2) (t' := t3) ho1 rfl)
    refine wpAny_pure (hR _ (sb1.trans (Heap.SameBut.update _ a _)) ⟨_, es2, _, t3, ho2, hex, rfl, ?_⟩)
    have pk : (keysE ky es2.toList).Perm (keysE ky es1.toList) := pm.map _
    exact ⟨fun e he => p1.ent e (pm.mem_iff.mp he), pk.nodup_iff.mpr p1.nd, fun k => (p1.mem k).trans pk.mem_iff.symm, by have := p1.few; omega, f3, r3, p1.led.imp id fun z => by rw [l3]; exact z⟩
  · exact wpAny_pure (hR _ sb1 ⟨_, es1, _, t2, ho1, hex, rfl, p1⟩)
/-- one value more -/
theorem setG_add {x : Value} {k : K} {Q : Bool → Shared → Prop} (hkey : kn.is k x = true) (hky : ky x = k) (hsc : x.scannable = true) (hx : x ∈ its) (S : SetG kn ky s.heap a its ks) (room : ks.length + 1 < scanBound)
    (hQ : ∀ b h', Heap.SameBut a s.heap h' → SetG kn ky h' a its (k :: ks) → Q b { s with heap := h' }) : wpAny (model P w) A (setAddHashed a x (kn.hash k)) Q E s := by
  obtain ⟨o, es, ep, t, ho, hex, hd, p⟩ := S
  have hel := ents_of p.ent
  have hb : es.size < scanBound := by have := p.few; omega
  (unfold setAddHashed setAddHashedIn)
  refine wpAny_holding (wpAny_bind (wpAny_setState_of ho hd p.fit ?_))
  dsimp only
  rw [byScan_of hsc hb hel]
  simp only [↓reduceIte]
  unfold setAddByScan
  refine wpAny_bind ?_
  (refine wpAny_bind (wpAny_rule ?_))
  refine wpAny_bind (wpAny_setScan_of hkey ho hd p.fit hel ?_)
  cases hfi : List.findIdx? (fun e => kn.is k e.2) es.toList with
  | some j =>
    dsimp only
    (obtain ⟨hj, pj, _⟩ := List.findIdx?_eq_some_iff_getElem.mp hfi)
    have hin : k ∈ ks := (p.mem k).2 ((keys_mem p.ent k).2 ⟨_, List.getElem_mem hj, pj⟩)
    refine wpAny_pure (wpAny_pure (hQ _ s.heap (Heap.SameBut.refl a s.heap) ⟨o, es, ep, t, ho, hex, hd, ?_⟩))
    exact ⟨p.ent, p.nd, fun i => by
      rw [← p.mem i, List.mem_cons]
      exact ⟨fun z => z.elim (fun e => e ▸ hin) id, .inr⟩, by have := p.few; simp only [List.length_cons]; omega, p.fit, p.ris, p.led⟩
  | none =>
    dsimp only
    have hnk : k ∉ keysE ky es.toList := fun z => by
      obtain ⟨e, he, q⟩ := (keys_mem p.ent k).1 z
      (have c := List.findIdx?_eq_none_iff.mp hfi e he)
      rw [q] at c
      cases c
    have hgw : (∀ (b : Bool) {s₁ : Shared} {Q' : Unit → Shared → Prop}, Q' () s₁ → wpAny (model P w) A (match b with | true => rule "set.scan.the-table-gave-way" | false => pure ()) Q' E s₁) := fun b s₁ Q' q => by cases b <;> first | exact wpAny_pure q | exact wpAny_rule q
    have pm := layNew_perm t es (kn.hash k) x
    have hf1 := layNew_fits t es (kn.hash k) x
    have hr1 := layNew_ris t es (kn.hash k) x p.ris
    have hl1 := layNew_led t es (kn.hash k) x
    generalize layNew t es (kn.hash k) x = Z at pm hf1 hr1 hl1 ⊢
    obtain ⟨es1, t1, dm, gave⟩ := Z
    (dsimp only at pm hf1 hr1 hl1 ⊢)
    rw [Array.toList_push] at pm
    have pc : es1.toList.Perm ((kn.hash k, x) :: es.toList) := pm.trans (List.perm_append_singleton _ _)
    have pk : (keysE ky es1.toList).Perm (k :: keysE ky es.toList) := by
      have := pc.map fun e => ky e.2
      rw [List.map_cons, hky] at this
      exact this
    have hsz : es1.size = es.size + 1 := by
      have := pc.length_eq
      simpa using this
    have led' : w.params.followText "set-order" = true ∨ t1.led = true := p.led.imp id fun z => by rw [hl1]; exact z
    have p1 : PayG kn ky its (k :: ks) es1 t1 := by
      refine ⟨fun e he => ?_, pk.nodup_iff.mpr (List.nodup_cons.mpr ⟨hnk, p.nd⟩), fun i => ?_, by have := p.few; simp only [List.length_cons]; omega, hf1, hr1, led'⟩
      · rcases List.mem_cons.mp (pc.mem_iff.mp he) with z | z
        · subst z
          exact ⟨hx, by rw [hky]; exact hkey, by rw [hky], hsc⟩
        · exact p.ent e z
      · rw [pk.mem_iff, List.mem_cons, List.mem_cons, p.mem i]
    have few' : (k :: ks).length < scanBound := by simpa using room
    refine wpAny_bind (hgw _ ?_)
    split
    · refine wpAny_bind ?_
      (rw [hashByValue_scannable 8 hsc])
      refine wpAny_pure ?_
      refine setG_tail (kn := kn) (ky := ky) (its := its) (ks' := k :: ks) ?_ ho hex hd ?_ few' ?_
      · intro b s₁ Q' q
        cases b <;> first | exact wpAny_pure q | exact wpAny_rule q
      · split
        · exact p1
        · exact ⟨p1.ent, p1.nd, p1.mem, p1.few, SetTable.fits_plain_off hf1, hr1, led'⟩
      · intro h' sb r
        dsimp only
        exact wpAny_pure (hQ _ h' sb r)
    · (refine wpAny_bind (wpAny_pure ?_))
      simp only [↓reduceIte]
      refine setG_tail (kn := kn) (ky := ky) (its := its) (ks' := k :: ks) ?_ ho hex hd p1 few' ?_
      · intro b s₁ Q' q
        cases b <;> first | exact wpAny_pure q | exact wpAny_rule q
      · intro h' sb r
        dsimp only
        exact wpAny_pure (hQ _ h' sb r)
/-- what the values are under their keys -/
structure Scn (kn : _root_.PySem.KeyKind P w K) (ky : Value → K) (v : Value) : Prop where
  is_ : kn.is (ky v) v = true
  scan : v.scannable = true
theorem rev_take {α β : Type} (f : α → β) (l : List α) (i : Nat) {x : α} (h : l[i]? = some x) : ((l.take (i + 1)).map f).reverse = f x :: ((l.take i).map f).reverse := by
  rw [List.take_add_one, h]
  simp
theorem setG_upd {I : Addr} {fp wr : List Addr} {G : Array GenState → Array GenState → Prop} {n : Nat} {Pv : Nat → Value → Prop} {St : Nat → Shared → Prop} {R : Result → Shared → Prop}
    (W : WalksS P w A.in1 I fp wr G n Pv St) (S : Addr) (hSf : S ∉ fp) (hn : n = its.length) (hb : its.length + 1 < scanBound) (hval : ∀ i v, Pv i v → its[i]? = some v) (hsc : ∀ v ∈ its, Scn kn ky v) :
    ∀ (k i : Nat) (s : Shared), n - i = k → i ≤ n → St i s → SetG kn ky s.heap S its ((its.take i).map ky).reverse →
      (∀ s', Moved (S :: wr) G s s' → SetG kn ky s'.heap S its (its.map ky).reverse → R (.ok (.ret .none)) s') → codeAny (model P w) A (.builtin "set.update.loop" ⟨[.ref S, .ref I], []⟩) R s := by
  (have hSw : S ∉ wr := fun h => hSf (W.sub _ h))
  have hsub : ∀ b ∈ wr, b ∈ S :: wr := fun b hb => .tail _ hb
  intro k
  induction k with
  | zero =>
    intro i s hk' hi hst hS hR
    have hin : i = n := by omega
    subst hin
    (refine codeAny_builtin F.entry_set_update_loop ?_)
    (rw [Around.under_plainId F.plain_set_update_loop _])
    (show wpAny _ A.in1 (pyNext (.ref I) >>= _) _ _ s)
    (refine wpAny_bind (W.done s _ _ hst fun s' hm => ?_))
    (show wpAny _ A.in1 (ret Value.none) _ _ s')
    rw [List.take_of_length_le (by omega)] at hS
    exact wpAny_pure (hR s' (hm.mono hsub) (hS.moved fun o e => hm.heap S o hSw e))
  | succ k ih =>
    intro i s hk' hi hst hS hR
    have hlt : i < n := by omega
    (refine codeAny_builtin F.entry_set_update_loop ?_)
    (rw [Around.under_plainId F.plain_set_update_loop _])
    (show wpAny _ A.in1 (pyNext (.ref I) >>= _) _ _ s)
    (refine wpAny_bind (W.item i s _ _ hlt hst fun v s' hP hst' hm => ?_))
    have hv := hval i v hP
    have hmem : v ∈ its := List.mem_of_getElem? hv
    have hS' : SetG kn ky s'.heap S its ((its.take i).map ky).reverse := hS.moved fun o e => hm.heap S o hSw e
    show wpAny _ A.in1 (holding [v] (setAdd S v) >>= _) _ _ s'
    (refine wpAny_bind (wpAny_holding ?_))
    unfold setAdd
    refine wpAny_holding ?_
    refine wpAny_bind (kn.pyHash (hsc v hmem).is_ ?_)
    refine setG_add (s := { s' with toks := s'.toks + 1 }) (hsc v hmem).is_ rfl (hsc v hmem).scan hmem hS' (by simp only [List.length_reverse, List.length_map, List.length_take]; omega) fun b h' hsb hS2 => ?_
    rw [← rev_take ky its i hv] at hS2
    refine wpAny_pure ⟨plainId_quiet F.plain_set_update_loop _, ih (i + 1) _ (by omega) hlt (W.frame _ s' _ _ hst' (Nat.le_succ _) fun b hb o e => ?_) hS2 fun s'' hm'' hS'' => ?_⟩
    · rw [hsb.2 b (fun h : b = S => hSf (by rw [← h]; exact hb))]
      exact e
    · (refine hR s'' (Moved.trans W.gtrans ((hm.mono hsub).then_heap (Nat.le_succ _) fun b o hb e => ?_) hm'') hS'')
      rw [hsb.2 b (fun h : b = S => hb (by rw [h]; exact List.mem_cons_self))]
      exact e
theorem setG_fresh {h : Heap} (ho : h.get? a = some { cls := .type "set", dict := none, data := .set #[] 0 (.fresh 0 0 (!w.params.followText "set-order")) }) : SetG kn ky h a its [] := by
  refine ⟨_, #[], 0, _, ho, ⟨rfl, rfl, rfl⟩, rfl, fun e he => by simp at he, by simp [keysE], fun k => by simp [keysE], Nat.le_refl _, by rfl, List.Pairwise.nil, ?_⟩
  (show _ ∨ (!w.params.followText "set-order") = true)
  (cases w.params.followText "set-order")
  · exact .inr rfl
  · exact .inl rfl
end
end GL
end

-- GT2
section
namespace GL
open PyProof.Rows PySem PySem.Spec L2
section
variable {P : Program}
variable {w : World}
variable {A : Around}
variable {E : Value → Shared → Prop}
variable {s : Shared}
def newSetO (w : World) : Obj := { cls := .type "set", dict := none, data := .set #[] 0 (.fresh 0 0 (!w.params.followText "set-order")) }
/-- the state behind the laying of a new set -/
abbrev setS (w : World) (s : Shared) : Shared := { s with heap := s.heap.push (newSetO w) }
/-- the state behind a filling of that set: what stood before stands, Z holds -/
structure Filled (w : World) (s : Shared) (Z : Heap → Prop) (s' : Shared) : Prop where
  gens : s'.gens = s.gens
  drawn : s'.drawn = s.drawn
  os : s'.os = s.os
  old : ∀ b o, s.heap.get? b = some o → s'.heap.get? b = some o
  z : Z s'.heap
/-- the walk of x into the new set: its iterator, then the updating loop -/
def Fills (P : Program) (w : World) (A : Around) (s : Shared) (x : Value) (Z : Heap → Prop) : Prop :=
  ∀ (A' : Around) (E' : Value → Shared → Prop) (R : Result → Shared → Prop), A'.handled = none → A'.units ≤ A.units + 2 → (∀ s', Filled w s Z s' → R (.ok (.ret .none)) s') →
    wpAny (model P w) A' (pyIter x) (fun I s2 => codeAny (model P w) A' (.builtin "set.update.loop" ⟨[.ref s.heap.objs.size, I], []⟩) R s2) E' (setS w s)
/-- what set() asks of its argument's class -/
structure PlainIt (T : String) : Prop where
  notSet : isSubtype (.type T) (.type "set") = pure false
  notFrz : isSubtype (.type T) (.type "frozenset") = pure false
  notDct : (Value.type T == Value.type "dict") = false
theorem plain_tuple : PlainIt "tuple" := ⟨F.sub_tuple_set, F.sub_tuple_frozenset, by decide⟩
theorem plain_list : PlainIt "list" := ⟨F.sub_list_set, F.sub_list_frozenset, by decide⟩
/-- set(x): laid by __new__, filled by __init__ -/
theorem call_set_gen {T : String} {l : Addr} {Z : Heap → Prop} {Q : Value → Shared → Prop} (hT0 : s.TypeIs (.ref l) T) (pt : PlainIt T) (hh : A.handled = none) (fill : Fills P w A s (.ref l) Z)
    (h : ∀ s', Filled w s Z s' → Q (.ref s.heap.objs.size) s') : wpAny (model P w) A (call (.type "set") [.ref l]) Q E s := by
  have typ := F.called_set
  obtain ⟨c, tl, hmro⟩ := typ.mro
  have made := typ.made; have sub := typ.sub; have nt := typ.notType; have cc := typ.canCreate; have tc := F.typeCall_set_1 (.ref l)
  refine wpAny_call (codeAny_of_tree (show wpAny _ _ (callAny (.type "set") _) _ _ _ from wpAny_pure ⟨Code.quiet_builtin _ (by decide +kernel), codeAny_builtin F.entry_type_call ?_⟩))
  rw [show (A.under (.builtin "type.__call__" _)) = _ from Around.under_plain (weight_type_call_type "set" [.ref l] []) rfl]
  repeat (any_goals first | assumption | wp_step)
  refine codeAny_mono (code_set_led1 (.ref l) (E := E) (Q₁ := fun obj s₁ => obj = .ref s.heap.objs.size ∧ s₁ = setS w s) ⟨rfl, rfl⟩) fun r s₁ hr => ?_
  match r, hr with
  | .error e, hr => exact hr
  | .ok (.ret obj), hr =>
    obtain ⟨rfl, rfl⟩ := hr
    have hS : (s.heap.push (newSetO w)).get? s.heap.objs.size = some (newSetO w) := Heap.get?_push_size _ rfl
    have hT : Shared.TypeIs (setS w s) (.ref s.heap.objs.size) "set" := ⟨_, hS, rfl⟩
    have hl1 : Shared.TypeIs (setS w s) (.ref l) T := by
      obtain ⟨o, e, q⟩ := hT0
      exact ⟨o, Heap.get?_push_of_some _ e, q⟩
    have li := typ.init.lookup; have bi := typ.init.bind (.ref s.heap.objs.size)
    repeat (any_goals first | assumption | wp_step)
    refine codeAny_mono (codeAny_call_builtin (R := wants (fun r s₂ => r = .none ∧ Filled w s Z s₂) E) typ.init.plain F.entry_set_init (check_set_init_1 hT ?_)) fun r₂ s₂ hr₂ => ?_
    · unfold Builtin.«set.__init__» noKeywords Builtin.Frozenset.updateFrom
      have p1 := pt.notSet; have p2 := pt.notFrz; have p3 := pt.notDct
      obtain ⟨ol, hol, hcl⟩ := hl1
      obtain ⟨oc, od, odt, osl⟩ := ol
      simp only at hcl
      subst hcl
      generalize hPI : pyIter = PI
      wp_walk
      subst hPI
      refine wpAny_mono (fill _ _ (fun r s' => r = .ok (.ret .none) ∧ Filled w s Z s') (by simp [hh]) (by show _ ≤ _; simp only [Around.in1]; omega) fun s' f => ⟨rfl, f⟩) (fun I s2 hI => ?_) fun _ _ e => e
      refine wpAny_bind (wpAny_runValue (codeAny_mono hI fun r s' ⟨e, f⟩ => ?_))
      subst e
      exact wpAny_pure (show wpAny _ _ (ret Value.none) _ _ _ from wpAny_pure ⟨rfl, f⟩)
    · match r₂, hr₂ with
      | .error e, hr₂ => exact hr₂
      | .ok (.ret r), hr₂ =>
        obtain ⟨rfl, f⟩ := hr₂
        repeat (any_goals first | assumption | wp_step)
        exact h _ f
end
end GL
end

-- GT4
section
namespace GL
open PyProof.Rows PySem PySem.Spec L2
section
variable {P : Program} {w : World} {A : Around} {E : Value → Shared → Prop} {s : Shared} {l : Addr} {items : Array Value}
theorem filled_of {Z : Heap → Prop} {wr : List Addr} {s1 s' : Shared} (m : Moved wr (fun a b => b = a) s1 s') (z : Z s'.heap) (g : s1.gens = s.gens) (d : s1.drawn = s.drawn) (o : s1.os = s.os) (k : ∀ b u, s.heap.get? b = some u → s1.heap.get? b = some u) (hw : ∀ b ∈ wr, s.heap.objs.size ≤ b) : Filled w s Z s' :=
  ⟨m.gens.trans g, m.drawn.trans d, m.os.trans o, fun b u e => m.heap b u (fun hb => Nat.lt_irrefl _ (Nat.lt_of_lt_of_le (Heap.lt_size e) (hw b hb))) (k b u e), z⟩

theorem fills_tup {K : Type} [DecidableEq K] {kn : _root_.PySem.KeyKind P w K} {ky : Value → K} (hl : s.heap.IsTuple l items) (hsc : ∀ v ∈ items.toList, Scn kn ky v) (hb : items.size + 1 < scanBound) :
    Fills P w A s (.ref l) fun h' => SetG kn ky h' s.heap.objs.size items.toList (items.toList.map ky).reverse := by
  intro A' E' R hh' hu hR
  have hl1 : (s.heap.push (newSetO w)).IsTuple l items := hl.push _
  have lt : l < s.heap.objs.size := by
    obtain ⟨o, e, _⟩ := hl
    exact Heap.lt_size e
  have z1 : (s.heap.push (newSetO w)).objs.size = s.heap.objs.size + 1 := Heap.size_push ..
  have nI : l ≠ (s.heap.push (newSetO w)).objs.size := fun e => by rw [z1] at e; exact Nat.lt_irrefl _ (e ▸ Nat.lt_succ_of_lt lt)
  (refine wpAny_pyIter_tuple hl1 ?_)
  have hS : (s.heap.push (newSetO w)).get? s.heap.objs.size = some (newSetO w) := Heap.get?_push_size _ rfl
  refine setG_upd (kn := kn) (ky := ky) (its := items.toList) ((Walks.tuple (A := A'.in1) (by simp [hh']) _ l nI items).toS) s.heap.objs.size (fun hm => ?_) (by simp) (by simpa using hb)
    (fun i v hv => by rw [Array.getElem?_toList]; exact hv) hsc (items.size - 0) 0 _ (by omega) (Nat.zero_le _) ⟨⟨_, Heap.get?_push_size _ rfl, rfl, rfl⟩, hl1.push _⟩ (setG_fresh (Heap.get?_push_of_some _ hS)) fun s' m z => ?_
  · rw [z1] at hm
    (simp only [List.mem_cons, List.not_mem_nil, or_false] at hm)
    rcases hm with e | e
    · exact Nat.ne_of_lt (Nat.lt_succ_self _) e
    · exact Nat.ne_of_gt lt e
  · exact hR s' (filled_of m z rfl rfl rfl (fun b u e => Heap.get?_push_of_some _ (Heap.get?_push_of_some _ e)) (fun b hb => by
      rw [z1] at hb
      (simp only [List.mem_cons, List.not_mem_nil, or_false] at hb)
      rcases hb with e | e
      · exact Nat.le_of_eq e.symm
      · rw [e]; exact Nat.le_succ _))
theorem fillsT_tup (ks : List (Addr × List Int)) (hl : s.heap.IsTuple l items) (hit : items.toList = ks.map fun p => Value.ref p.1) (hk : ∀ p ∈ ks, IsT P w s.heap p.2 p.1) (few : ks.length < 64) (hu0 : A.units + 4 < cLine) :
    Fills P w A s (.ref l) fun h' => ∃ L es ep t, SetTR P w h' s.heap.objs.size L es ep t ∧ Got ks ks.length L := by
  intro A' E' R hh' hu hR
  have isz : items.size = ks.length := by
    (have q := congrArg List.length hit)
    simpa using q
  have hl1 : (s.heap.push (newSetO w)).IsTuple l items := hl.push _
  have lt : l < s.heap.objs.size := by
    obtain ⟨o, e, _⟩ := hl
    exact Heap.lt_size e
  have z1 : (s.heap.push (newSetO w)).objs.size = s.heap.objs.size + 1 := Heap.size_push ..
  have nI : l ≠ (s.heap.push (newSetO w)).objs.size := fun e => by rw [z1] at e; exact Nat.lt_irrefl _ (e ▸ Nat.lt_succ_of_lt lt)
  (refine wpAny_pyIter_tuple hl1 ?_)
  have hS : (s.heap.push (newSetO w)).get? s.heap.objs.size = some (newSetO w) := Heap.get?_push_size _ rfl
  have no : ∀ b, s.heap.objs.size ≤ b → s.heap.get? b = none := fun b hb => by
    cases e : s.heap.get? b with
    | none => rfl
    | some o => exact absurd (Heap.lt_size e) (Nat.not_lt.mpr hb)
  refine set_update_tups ((Walks.tuple (A := A'.in1) (by simp [hh']) _ l nI items).toS) s.heap.objs.size (fun hm => ?_) ks isz few (fun i v hv => ?_) s.heap hk (no _ (Nat.le_refl _)) (fun b hb => ?_) (by show _ < cLine; simp only [Around.in1]; omega) (items.size - 0) 0 _ (by omega) (Nat.zero_le _)
    ⟨⟨_, Heap.get?_push_size _ rfl, rfl, rfl⟩, hl1.push _⟩ (fun b u e => Heap.get?_push_of_some _ (Heap.get?_push_of_some _ e)) ⟨[], _, _, _, setTR_fresh (Heap.get?_push_of_some _ hS), Got.zero ks⟩ fun s' L es ep t m z g _ => ?_
  · rw [z1] at hm
    (simp only [List.mem_cons, List.not_mem_nil, or_false] at hm)
    rcases hm with e | e
    · exact Nat.ne_of_lt (Nat.lt_succ_self _) e
    · exact Nat.ne_of_gt lt e
  · have hv' : items.toList[i]? = some v := by rw [Array.getElem?_toList]; exact hv
    rw [hit, List.getElem?_map] at hv'
    cases e : ks[i]? with
    | none => rw [e] at hv'; cases hv'
    | some p => rw [e] at hv'; cases hv'; exact ⟨p, rfl, rfl⟩
  · rw [z1] at hb
    (simp only [List.mem_cons, List.not_mem_nil, or_false] at hb)
    exact no b (by rw [hb]; exact Nat.le_succ _)
  · exact hR s' (filled_of (Z := fun h' => ∃ L es ep t, SetTR P w h' s.heap.objs.size L es ep t ∧ Got ks ks.length L) m ⟨L, es, ep, t, z, by rw [isz] at g; exact g⟩ rfl rfl rfl (fun b u e => Heap.get?_push_of_some _ (Heap.get?_push_of_some _ e)) (fun b hb => by
      rw [z1] at hb
      (simp only [List.mem_cons, List.not_mem_nil, or_false] at hb)
      rcases hb with e | e
      · exact Nat.le_of_eq e.symm
      · rw [e]; exact Nat.le_succ _))

theorem fills_lst {K : Type} [DecidableEq K] {kn : _root_.PySem.KeyKind P w K} {ky : Value → K} (hl : s.heap.IsList l items) (hsc : ∀ v ∈ items.toList, Scn kn ky v) (hb : items.size + 1 < scanBound) :
    Fills P w A s (.ref l) fun h' => SetG kn ky h' s.heap.objs.size items.toList (items.toList.map ky).reverse := by
  intro A' E' R hh' hu hR
  have hl1 : (s.heap.push (newSetO w)).IsList l items := hl.push _
  have lt : l < s.heap.objs.size := by
    obtain ⟨o, e, _⟩ := hl
    exact Heap.lt_size e
  have z1 : (s.heap.push (newSetO w)).objs.size = s.heap.objs.size + 1 := Heap.size_push ..
  have nI : l ≠ (s.heap.push (newSetO w)).objs.size := fun e => by rw [z1] at e; exact Nat.lt_irrefl _ (e ▸ Nat.lt_succ_of_lt lt)
  (refine wpAny_pyIter_list hl1 ?_)
  have hS : (s.heap.push (newSetO w)).get? s.heap.objs.size = some (newSetO w) := Heap.get?_push_size _ rfl
  refine setG_upd (kn := kn) (ky := ky) (its := items.toList) ((Walks.list (A := A'.in1) (by simp [hh']) _ l nI items).toS) s.heap.objs.size (fun hm => ?_) (by simp) (by simpa using hb)
    (fun i v hv => by rw [Array.getElem?_toList]; exact hv) hsc (items.size - 0) 0 _ (by omega) (Nat.zero_le _) ⟨⟨_, Heap.get?_push_size _ rfl, rfl, rfl⟩, hl1.push _⟩ (setG_fresh (Heap.get?_push_of_some _ hS)) fun s' m z => ?_
  · rw [z1] at hm
    (simp only [List.mem_cons, List.not_mem_nil, or_false] at hm)
    rcases hm with e | e
    · exact Nat.ne_of_lt (Nat.lt_succ_self _) e
    · exact Nat.ne_of_gt lt e
  · exact hR s' (filled_of m z rfl rfl rfl (fun b u e => Heap.get?_push_of_some _ (Heap.get?_push_of_some _ e)) (fun b hb => by
      rw [z1] at hb
      (simp only [List.mem_cons, List.not_mem_nil, or_false] at hb)
      rcases hb with e | e
      · exact Nat.le_of_eq e.symm
      · rw [e]; exact Nat.le_succ _))
theorem fillsT_lst (ks : List (Addr × List Int)) (hl : s.heap.IsList l items) (hit : items.toList = ks.map fun p => Value.ref p.1) (hk : ∀ p ∈ ks, IsT P w s.heap p.2 p.1) (few : ks.length < 64) (hu0 : A.units + 4 < cLine) :
    Fills P w A s (.ref l) fun h' => ∃ L es ep t, SetTR P w h' s.heap.objs.size L es ep t ∧ Got ks ks.length L := by
  intro A' E' R hh' hu hR
  have isz : items.size = ks.length := by
    (have q := congrArg List.length hit)
    simpa using q
  have hl1 : (s.heap.push (newSetO w)).IsList l items := hl.push _
  have lt : l < s.heap.objs.size := by
    obtain ⟨o, e, _⟩ := hl
    exact Heap.lt_size e
  have z1 : (s.heap.push (newSetO w)).objs.size = s.heap.objs.size + 1 := Heap.size_push ..
  have nI : l ≠ (s.heap.push (newSetO w)).objs.size := fun e => by rw [z1] at e; exact Nat.lt_irrefl _ (e ▸ Nat.lt_succ_of_lt lt)
  (refine wpAny_pyIter_list hl1 ?_)
  have hS : (s.heap.push (newSetO w)).get? s.heap.objs.size = some (newSetO w) := Heap.get?_push_size _ rfl
  have no : ∀ b, s.heap.objs.size ≤ b → s.heap.get? b = none := fun b hb => by
    cases e : s.heap.get? b with
    | none => rfl
    | some o => exact absurd (Heap.lt_size e) (Nat.not_lt.mpr hb)
  refine set_update_tups ((Walks.list (A := A'.in1) (by simp [hh']) _ l nI items).toS) s.heap.objs.size (fun hm => ?_) ks isz few (fun i v hv => ?_) s.heap hk (no _ (Nat.le_refl _)) (fun b hb => ?_) (by show _ < cLine; simp only [Around.in1]; omega) (items.size - 0) 0 _ (by omega) (Nat.zero_le _)
    ⟨⟨_, Heap.get?_push_size _ rfl, rfl, rfl⟩, hl1.push _⟩ (fun b u e => Heap.get?_push_of_some _ (Heap.get?_push_of_some _ e)) ⟨[], _, _, _, setTR_fresh (Heap.get?_push_of_some _ hS), Got.zero ks⟩ fun s' L es ep t m z g _ => ?_
  · rw [z1] at hm
    (simp only [List.mem_cons, List.not_mem_nil, or_false] at hm)
    rcases hm with e | e
    · exact Nat.ne_of_lt (Nat.lt_succ_self _) e
    · exact Nat.ne_of_gt lt e
  · have hv' : items.toList[i]? = some v := by rw [Array.getElem?_toList]; exact hv
    rw [hit, List.getElem?_map] at hv'
    cases e : ks[i]? with
    | none => rw [e] at hv'; cases hv'
    | some p => rw [e] at hv'; cases hv'; exact ⟨p, rfl, rfl⟩
  · rw [z1] at hb
    (simp only [List.mem_cons, List.not_mem_nil, or_false] at hb)
    exact no b (by rw [hb]; exact Nat.le_succ _)
  · exact hR s' (filled_of (Z := fun h' => ∃ L es ep t, SetTR P w h' s.heap.objs.size L es ep t ∧ Got ks ks.length L) m ⟨L, es, ep, t, z, by rw [isz] at g; exact g⟩ rfl rfl rfl (fun b u e => Heap.get?_push_of_some _ (Heap.get?_push_of_some _ e)) (fun b hb => by
      rw [z1] at hb
      (simp only [List.mem_cons, List.not_mem_nil, or_false] at hb)
      rcases hb with e | e
      · exact Nat.le_of_eq e.symm
      · rw [e]; exact Nat.le_succ _))

/-- sorted of a set: its values, each key once, in the order of their data -/
theorem sorted_setG {K : Type} [DecidableEq K] {kn : _root_.PySem.KeyKind P w K} {ky : Value → K} {a : Addr} {its : List Value} {ks : List K} {β : Type} {enc : β → PyData} {Rr : Value → β → Prop} {Q : Value → Shared → Prop} (R : SetG kn ky s.heap a its ks) (hh : A.handled = none) (few : ks.length < scanBound)
    (hr : ∀ h', (∀ b o, s.heap.get? b = some o → h'.get? b = some o) → ∀ vs : List Value, (∀ v ∈ vs, v ∈ its) → (vs.map ky).Nodup → (∀ k, k ∈ ks ↔ k ∈ vs.map ky) → ∃ bs : List β, PySem.W.EachIs Rr vs bs ∧ PySem.W.EachIs (fun v b => ∃ as, Reads h' v (enc b) as) vs bs ∧
      PySem.W.AllAlike (bs.map enc) ∧ PySem.W.Sortable (bs.map enc) ∧ (∀ b, b ∈ bs → A.units + 2 + (enc b).depth < cLine) ∧ (∀ b ∈ bs, ∀ v as, Reads h' v (enc b) as → ∀ x ∈ as, x < s.heap.objs.size) ∧
      ∀ s' p out c, (∀ b o, s.heap.get? b = some o → s'.heap.get? b = some o) → s'.gens = s.gens → s'.os = s.os → s.heap.objs.size ≤ p → s'.heap.get? p = some (seqObj "list" (List.toArray out) c) → out.length = bs.length →
        PySem.W.EachIs Rr out (bs.mergeSort (PySem.W.dataLe false enc)) → Q (.ref p) s') : wpAny (model P w) A (call (.builtin "sorted") [.ref a]) Q E s := by
  obtain ⟨o, es, ep, t, ho, hex, hd, p⟩ := R
  have hb : es.size < scanBound := Nat.lt_of_le_of_lt p.few few
  (refine Calls.call_function_entry kind_sorted plain_sorted entry_sorted (args_sorted1 _) ?_)
  unfold Builtin.«sorted»
  (refine wpAny_bind (m := checkCount "sorted" 1 1 _) (wpAny_pure ?_))
  refine wpAny_bind (collect_set (A := A.in1) hh ⟨o, ho, hex.1, hd⟩ p.fit hb p.ris p.led fun s1 vs k1 hz g1 o1 pm => ?_)
  have pk : (vs.map ky).Perm (keysE ky es.toList) := by
    have q := pm.map ky
    rw [List.map_map] at q
    exact q
  have kk2 : ∀ b o, s.heap.get? b = some o → (s1.heap.push (seqObj "list" vs.toArray 0)).get? b = some o := fun b u e => Heap.get?_push_of_some _ (k1 b u e)
  obtain ⟨bs, e1, e2, hal, hso, hu, hx, hQ⟩ := hr (s1.heap.push (seqObj "list" vs.toArray 0)) kk2 vs
    (fun v hv => by
      (obtain ⟨e, he, q⟩ := List.mem_map.mp (pm.mem_iff.mp hv))
      exact q ▸ (p.ent e he).mem)
    (pk.nodup_iff.mpr p.nd) (fun k => by rw [pk.mem_iff, ← p.mem k])
  have hvl : vs.length = es.size := by rw [pm.length_eq, List.length_map, Array.length_toList]
  have hbl : bs.length = vs.length := e1.length.symm
  have hsz : vs.length ≤ sizeLine := by rw [hvl]; exact fits_of_scanBound hb
  refine wpAny_bind (wpAny_newList ?_ hsz)
  (have hoL : (s1.heap.push (seqObj "list" vs.toArray 0)).get? s1.heap.objs.size = some (seqObj "list" vs.toArray 0) := Heap.get?_push_size _ rfl)
  refine wpAny_bind (wpAny_holding (PySem.W.list_sort_data (s := { s1 with heap := s1.heap.push (seqObj "list" vs.toArray 0) }) hoL e1 ?_ hal hso (by omega) (fun b hb' => ?_) fun out hlen eo => ?_))
  · exact (PySem.W.each_mem e2).mono fun v b ⟨⟨as, r⟩, hb'⟩ => ⟨as, r, fun hm => by
      exact absurd (hx b hb' v as r _ hm) (Nat.not_lt.mpr hz)⟩
  · have := hu b hb'
    show A.in1.units + 1 + _ < _
    have e : A.in1.units = A.units + 1 := rfl
    omega
  · obtain ⟨c, hc⟩ := sortedHeap_at (vs := vs) (out := out.toArray) hoL
    refine wpAny_pure ⟨_, rfl, hQ _ s1.heap.objs.size out c (fun b u e => ?_) g1 o1 hz hc hlen eo⟩
    have q := k1 b u e
    have hlt := Heap.lt_size q
    show (sortedHeap (s1.heap.push (seqObj "list" vs.toArray 0)) s1.heap.objs.size vs out.toArray).get? b = some u
    (rw [sortedHeap_old (Nat.ne_of_lt hlt) (by rw [size_push']; exact Nat.lt_succ_of_lt hlt)])
    (exact Heap.get?_push_of_some _ q)
end
end GL
end

-- GT3
section
namespace GL
open PyProof.Rows PySem PySem.Spec L2
/-! ### sorted(set(xs)), xs all texts or all ints -/
def kyV (v : Value) : Key := match v with
  | .int i _ => .inl i
  | .str x _ => .inr x
  | _ => .inl 0
theorem ky_rel {k : Key} {v : Value} (r : RelV (kV k) v) : kyV v = k := by
  cases k with
  | inl i => obtain ⟨t, rfl⟩ := (show ∃ t, v = Value.int i t from r); rfl
  | inr x => obtain ⟨t, rfl⟩ := (show ∃ t, v = Value.str x t from r); rfl
theorem scn_rel {P : Program} {w : World} {k : Key} {v : Value} (r : RelV (kV k) v) : Scn (mixKind P w) kyV v :=
  ⟨by rw [ky_rel r]; exact kV_is r, key_scan r⟩
def SetGO (P : Program) (w : World) (a : Addr) (its : List Value) (ks : List Key) : HO := .ext fun h => SetG (mixKind P w) kyV h a its ks
theorem setGO_new {P : Program} {w : World} {H : Hp} {h : Heap} {a : Addr} {its : List Value} {ks : List Key} (R : SetG (mixKind P w) kyV h a its ks) : ObjOk P w H h a (SetGO P w a its ks) := by
  have ⟨o, es, ep, t, ho, r⟩ := R
  exact ⟨R, ⟨o, ho⟩, fun h1 h2 p k => SetG.moved p k⟩
theorem vals_keys : ∀ {ks : List Key} {us : List Value}, Vals (ks.map kV) us → us.map kyV = ks
  | [], _, .nil => rfl
  | k :: ks, _, .cons r t => by rw [List.map_cons, ky_rel r, vals_keys t]
theorem vals_scn {P : Program} {w : World} : ∀ {ks : List Key} {us : List Value}, Vals (ks.map kV) us → ∀ v ∈ us, Scn (mixKind P w) kyV v
  | [], _, .nil, v, h => by cases h
  | k :: ks, _, .cons r t, v, h => by
    (rcases List.mem_cons.mp h with rfl | h)
    · exact scn_rel r
    · exact vals_scn t v h
theorem vals_mem : ∀ {ks : List Key} {us : List Value}, Vals (ks.map kV) us → ∀ v ∈ us, RelV (kV (kyV v)) v
  | [], _, .nil, v, h => by cases h
  | k :: ks, _, .cons r t, v, h => by
    (rcases List.mem_cons.mp h with rfl | h)
    · rw [ky_rel r]; exact r
    · exact vals_mem t v h
section
variable {X : Cx}
/-- set(xs) -/
def rSetG (K : PySem.W.Frag) (P : Program) (w : World) : List V → Hp → VK → Prop := fun xs H Q => ∃ (l : Addr) (ks : List Key), xs = [V.ref l] ∧ (SqL K H l (ks.map kV) ∨ SqT K H l (ks.map kV)) ∧ ks.length + 1 < scanBound ∧
  ∀ a its, Vals (ks.map kV) its → H a = none → Q (.ref a) (upd H a (SetGO P w a its ks.reverse))
theorem filled_eq {w : World} {s s' : Shared} {Z : Heap → Prop} (f : Filled w s Z s') : s' = { s with heap := s'.heap, toks := s'.toks } := by
  (obtain ⟨h', g', d', t', o'⟩ := s')
  obtain ⟨rfl, rfl, rfl, _, _⟩ := f
  rfl
theorem cr_setG (hc : X.calm = true) : CallR X (.type "set") (rSetG X.K X.prog X.w) := by
  (intro pins s σ H xs us Q I r h)
  obtain ⟨l, ks, rfl, hl, hf, q⟩ := h
  rw [Vals.ref1 r]
  (have hn : H s.heap.objs.size = none := I.hok.fresh (Nat.le_refl _))
  have fin : ∀ (its : List Value) (rv : Vals (ks.map kV) its) (s' : Shared), Filled X.w s (fun h' => SetG (mixKind X.prog X.w) kyV h' s.heap.objs.size its (its.map kyV).reverse) s' → EP X pins σ Q (.ref s.heap.objs.size) s' := fun its rv s' f => by
    have R := f.z
    rw [vals_keys rv] at R
    rw [filled_eq f]
    exact ⟨.ref s.heap.objs.size, upd H s.heap.objs.size (SetGO X.prog X.w s.heap.objs.size its ks.reverse), I.laid (t' := s'.toks) f.old (Nat.le_refl _) (setGO_new R), rfl, q _ its rv hn⟩
  rcases hl with hl | hl
  · obtain ⟨its, rv, pl, hz⟩ := I.list hl
    have el := rv.length
    rw [List.length_map] at el
    have il := pl.isList
    refine call_set_gen (T := "list") (by obtain ⟨o, e, c, _⟩ := il; exact ⟨o, e, c⟩) plain_list (I.ok.hd hc) (fills_lst (kn := mixKind X.prog X.w) (ky := kyV) il (by simpa using vals_scn rv) (by simpa using (by omega : its.length + 1 < scanBound))) fun s' f => fin its rv s' (by simpa using f)
  · obtain ⟨its, rv, pl, hz⟩ := I.tuple hl
    have el := rv.length
    rw [List.length_map] at el
    have il : s.heap.IsTuple l its.toArray := pl
    refine call_set_gen (T := "tuple") (by obtain ⟨o, e, c, _⟩ := il; exact ⟨o, e, c⟩) plain_tuple (I.ok.hd hc) (fills_tup (kn := mixKind X.prog X.w) (ky := kyV) il (by simpa using vals_scn rv) (by simpa using (by omega : its.length + 1 < scanBound))) fun s' f => fin its rv s' (by simpa using f)
theorem each_ky : ∀ {vs : List Value}, (∀ v ∈ vs, RelV (kV (kyV v)) v) → PySem.W.EachIs (fun v k => RelV (kV k) v) vs (vs.map kyV)
  | [], _ => .nil
  | v :: vs, h => .cons (h v (List.mem_cons_self ..)) (each_ky fun x hx => h x (List.mem_cons_of_mem _ hx))
theorem reads_key {h : Heap} {k : Key} {v : Value} (r : RelV (kV k) v) : Reads h v (kP k) [] := by
  cases k with
  | inl i => obtain ⟨t, rfl⟩ := (show ∃ t, v = Value.int i t from r); exact .int i t
  | inr x => obtain ⟨t, rfl⟩ := (show ∃ t, v = Value.str x t from r); exact .str x t
theorem reads_none {h : Heap} {k : Key} {v : Value} {as : List Addr} (r : Reads h v (kP k) as) : as = [] := by
  cases k with
  | inl i => cases r; rfl
  | inr x => cases r; rfl
theorem each_vals : ∀ {out : List Value} {ks : List Key}, PySem.W.EachIs (fun v k => RelV (kV k) v) out ks → Vals (ks.map kV) out
  | _, _, .nil => .nil
  | _, _, .cons h t => .cons h (each_vals t)
theorem one_alike {ks : List Key} (h : OneKind ks) : PySem.W.AllAlike (ks.map kP) := by
  intro d hd d' hd'
  obtain ⟨k, hk, rfl⟩ := List.mem_map.mp hd
  obtain ⟨k', hk', rfl⟩ := List.mem_map.mp hd'
  rcases h with h | h
  · obtain ⟨x, rfl⟩ := h k hk
    obtain ⟨y, rfl⟩ := h k' hk'
    simp [kP, PySem.W.alike]
  · obtain ⟨x, rfl⟩ := h k hk
    obtain ⟨y, rfl⟩ := h k' hk'
    simp [kP, PySem.W.alike]
theorem one_sortable (ks : List Key) : PySem.W.Sortable (ks.map kP) := .inr fun d hd => by
  obtain ⟨k, _, rfl⟩ := List.mem_map.mp hd
  cases k <;> exact ⟨(fun h => nomatch h), (fun xs h => nomatch h)⟩
def rSrtG (P : Program) (w : World) : List V → Hp → VK → Prop := fun xs H Q => ∃ (a : Addr) (its : List Value) (ks : List Key), xs = [V.ref a] ∧ H a = some (SetGO P w a its ks.reverse) ∧ Vals (ks.map kV) its ∧ ks.length + 1 < scanBound ∧ OneKind ks ∧
  ∀ us : List Key, us.Nodup → (∀ k, k ∈ us ↔ k ∈ ks) → ∀ p, H p = none → Q (.ref p) (upd H p (.lst ((us.mergeSort (PySem.W.dataLe false kP)).map kV)))
theorem cr_srtG (hc : X.calm = true) (hu : X.A.units + 62 < cLine) : CallR X (.builtin "sorted") (rSrtG X.prog X.w) := by
  (intro pins s σ H xs us Q I r h)
  obtain ⟨a, its, ks, rfl, ha, rv, hf, one, q⟩ := h
  rw [Vals.ref1 r]
  have R : SetG (mixKind X.prog X.w) kyV s.heap a its ks.reverse := (I.hok a _ ha).1
  refine sorted_setG (enc := kP) (Rr := fun v k => RelV (kV k) v) R (I.ok.hd hc) (by rw [List.length_reverse]; omega) fun h' hk' vs hv nd hm => ?_
  have ek := each_ky (vs := vs) fun v h => vals_mem rv v (hv v h)
  have sub : ∀ k, k ∈ vs.map kyV ↔ k ∈ ks := fun k => by rw [← hm k, List.mem_reverse]
  refine ⟨vs.map kyV, ek, ek.mono fun v k r => ⟨[], reads_key r⟩, one_alike (one.sub fun k h => (sub k).1 h), one_sortable _, fun b _ => ?_, fun b _ v as r x hx => (by rw [reads_none r] at hx; cases hx), fun s' p out c k g o hp hg hlen eo => ?_⟩
  · have : (kP b).depth = 0 := by cases b <;> simp [kP, PyData.depth]
    omega
  · have hn : H p = none := I.hok.fresh hp
    have hv' := each_vals eo
    have hl : (((vs.map kyV).mergeSort (PySem.W.dataLe false kP)).map kV).length ≤ sizeLine := by
      have e1 := hv'.length
      have e2 : vs.length ≤ ks.length := by
        have : (vs.map kyV).length ≤ ks.length := (List.Nodup.length_le_of_subset nd fun k h => (sub k).1 h)
        simpa using this
      have e3 : out.length = vs.length := by simpa using hlen
      have : ks.length ≤ sizeLine := fits_of_scanBound (by omega)
      omega
    have J : Inv X pins σ (upd H p (.lst (((vs.map kyV).mergeSort (PySem.W.dataLe false kP)).map kV))) { s with heap := s'.heap, gens := s'.gens, drawn := s'.drawn, toks := s'.toks } :=
      I.call (ch := []) (Un.laid k hp hn) (I.hok.laid k hp ⟨hl, out, c, hv', hg⟩) (by rw [g]; exact I.bare) (fun _ z => nomatch z)
    have e : (s' = { s with heap := s'.heap, gens := s'.gens, drawn := s'.drawn, toks := s'.toks }) := by
      cases s'
      cases s
      cases o
      rfl
    rw [e]
    exact ⟨.ref p, _, J, rfl, q _ nd sub p hn⟩
theorem rps_keys {M : Md} {H : Hp} : ∀ {ks : List Key} {xs : List V}, Rps M H (ks.map dK) xs → xs = ks.map kV
  | [], xs, h => h.nil'
  | k :: ks, xs, h => by
    obtain ⟨v, r, rfl, h1, h2⟩ := Rps.cons' (by simpa using h)
    rw [rps_keys h2]
    cases k <;> (simp only [dK, Rp] at h1; rw [h1]; rfl)
theorem rps_ofKeys {M : Md} {H : Hp} : ∀ (ks : List Key), Rps M H (ks.map dK) (ks.map kV)
  | [] => Rps.nil
  | k :: ks => Rps.cons (by cases k <;> simp only [dK, kV, Rp]) (rps_ofKeys ks)
/-! ### sets of pairs -/
theorem rps_pairs {M : Md} {H : Hp} : ∀ {ps : List (Int × Int)} {xs : List V}, Rps M H (ps.map pD) xs → ∃ ks : List (Addr × List Int), xs = ks.map (fun p => V.ref p.1) ∧ ks.map (·.2) = ps.map (fun p => [p.1, p.2]) ∧ ∀ q ∈ ks, TpT M.K H q.1 (q.2.map V.int)
  | [], xs, h => ⟨[], h.nil', rfl, fun q hq => by cases hq⟩
  | p :: ps, xs, h => by
    obtain ⟨v, r, rfl, h1, h2⟩ := Rps.cons' (by simpa using h)
    obtain ⟨ks, rfl, e, hk⟩ := rps_pairs h2
    simp only [pD, Rp] at h1
    obtain ⟨a, ys, rfl, sq, t⟩ := h1
    obtain ⟨y1, z1, e1, t1, t2⟩ := Rps.cons' t
    obtain ⟨y2, z2, e2, t3, t4⟩ := Rps.cons' t2
    obtain rfl := t4.nil'
    subst e2 e1
    simp only [Rp] at t1 t3
    subst t1 t3
    refine ⟨(a, [p.1, p.2]) :: ks, rfl, by rw [List.map_cons, List.map_cons, e], fun q hq => ?_⟩
    (rcases List.mem_cons.mp hq with rfl | hq)
    · exact sq
    · exact hk q hq
def prOf (l : List Int) : Int × Int := (l.getD 0 0, l.getD 1 0)
theorem rps_back {M : Md} {H : Hp} : ∀ {ks : List (Addr × List Int)}, (∀ q ∈ ks, TpT M.K H q.1 (q.2.map V.int)) → (∀ q ∈ ks, q.2.length = 2) → Rps M H (ks.map fun q => pD (prOf q.2)) (ks.map fun q => V.ref q.1)
  | [], _, _ => Rps.nil
  | q :: ks, h, hl => by
    refine Rps.cons ?_ (rps_back (fun q hq => h q (List.mem_cons_of_mem _ hq)) fun q hq => hl q (List.mem_cons_of_mem _ hq))
    have h1 := h q (List.mem_cons_self ..)
    have h2 := hl q (List.mem_cons_self ..)
    obtain ⟨a, l⟩ := q
    match l, h2 with
    | [x, y], _ =>
      simp only [pD, prOf, Rp]
      exact ⟨a, _, rfl, h1, Rps.cons (by simp [Rp]) (Rps.cons (by simp [Rp]) Rps.nil)⟩
/-- set(xs), xs a list or a tuple of tuples of ints -/
def rSetP (K : PySem.W.Frag) (P : Program) (w : World) : List V → Hp → VK → Prop := fun xs H Q => ∃ (l : Addr) (ks : List (Addr × List Int)), xs = [V.ref l] ∧ (SqL K H l (ks.map fun p => V.ref p.1) ∨ SqT K H l (ks.map fun p => V.ref p.1)) ∧ (∀ p ∈ ks, SqT K H p.1 (p.2.map V.int)) ∧ ks.length < 64 ∧ ∀ a L, H a = none → (∀ p ∈ L, p ∈ ks) → (∀ p ∈ ks, p.2 ∈ L.map (·.2)) → Q (.ref a) (upd H a (SetTO P w a L))
theorem cr_setP (hc : X.calm = true) (hu : X.A.units + 62 < cLine) : CallR X (.type "set") (rSetP X.K X.prog X.w) := by
  (intro pins s σ H xs us Q I r h)
  (obtain ⟨l, ks, rfl, hl, hk, hf, q⟩ := h)
  rw [Vals.ref1 r]
  (have hn : H s.heap.objs.size = none := I.hok.fresh (Nat.le_refl _))
  have fin : ∀ (s' : Shared), Filled X.w s (fun h' => ∃ L es ep t, SetTR X.prog X.w h' s.heap.objs.size L es ep t ∧ Got ks ks.length L) s' → EP X pins σ Q (.ref s.heap.objs.size) s' := fun s' f => by
    obtain ⟨L, es, ep, t, R, g⟩ := f.z
    rw [filled_eq f]
    refine ⟨.ref s.heap.objs.size, upd H s.heap.objs.size (SetTO X.prog X.w s.heap.objs.size L), I.laid (t' := s'.toks) f.old (Nat.le_refl _) (setTO_new R.t0), rfl, q _ L hn (fun p hp => List.mem_of_mem_take (g.sub p hp)) fun p hp => g.all p (by rw [List.take_length]; exact hp)⟩
  rcases hl with hl | hl
  · obtain ⟨its, rv, pl, hz⟩ := I.list hl
    have il := pl.isList
    exact call_set_gen (T := "list") (by obtain ⟨o, e, c, _⟩ := il; exact ⟨o, e, c⟩) plain_list (I.ok.hd hc) (fillsT_lst ks il (by simpa using refs_of_vals rv) (fun p hp => I.isT (hk p hp)) hf (by omega)) fin
  · obtain ⟨its, rv, pl, hz⟩ := I.tuple hl
    have il : s.heap.IsTuple l its.toArray := pl
    exact call_set_gen (T := "tuple") (by obtain ⟨o, e, c, _⟩ := il; exact ⟨o, e, c⟩) plain_tuple (I.ok.hd hc) (fillsT_tup ks il (by simpa using refs_of_vals rv) (fun p hp => I.isT (hk p hp)) hf (by omega)) fin
theorem CallR.or {f : Value} {r r' : List V → Hp → VK → Prop} (h : CallR X f r) (k : CallR X f r') : CallR X f fun xs H Q => r xs H Q ∨ r' xs H Q :=
  fun pins s σ H xs us Q I v w => w.elim (h pins s σ H xs us Q I v) (k pins s σ H xs us Q I v)
theorem lt_of_code {B : Int} {p q : Int × Int} (hp : (0 ≤ p.1 ∧ p.1 < B) ∧ 0 ≤ p.2 ∧ p.2 < B) (hq : (0 ≤ q.1 ∧ q.1 < B) ∧ 0 ≤ q.2 ∧ q.2 < B) (h : TS.code B [p.1, p.2] ≤ TS.code B [q.1, q.2]) (ne : p ≠ q) : ltP p q := by
  have e : ∀ x y : Int, TS.code B [x, y] = x * B + y := fun x y => by
    show x * B ^ 1 + (y * B ^ 0 + 0) = x * B + y
    rw [Int.pow_succ, Int.pow_zero, Int.one_mul, Int.mul_one, Int.add_zero]
  rw [e, e] at h
  unfold ltP
  rcases Int.lt_trichotomy p.1 q.1 with c | c | c
  · exact .inl c
  · refine .inr ⟨c, ?_⟩
    rw [c] at h
    rcases Int.lt_trichotomy p.2 q.2 with d | d | d
    · exact d
    · exact absurd (Prod.ext c d) ne
    · omega
  · exfalso
    have : (q.1 + 1) * B ≤ p.1 * B := Int.mul_le_mul_of_nonneg_right (by omega) (by omega)
    rw [Int.add_mul, Int.one_mul] at this
    omega
theorem je_sset {e : Expr} {g : WE} {p1 p2 pos pos2 : Pos} (hc : X.calm = true) (hu : X.A.units + 62 < cLine) (g1 : Gl X "sorted") (m1 : X.mg "sorted" = none) (g2 : Gl X "set") (m2 : X.mg "set" = none) (he : JE X e g)
    (hs : starEach [e] X.env = [(false, eval e X.env)]) : JE X (.Call (.Name "sorted" p1) [.Call (.Name "set" p2) [e] [] pos] [] pos2) (fun ρ S Q => g ρ S fun d S1 => ssetD d S1 Q) := by
  have inner := pe_callTy (CallR.or (cr_setG hc) (cr_setP hc hu)) g2 m2 PyProof.Rows.boot_set (PA.imp (pa_cons he pa_nil (by rw [hs]; rfl)) fun σ H Q q => q) (by decide) (by decide) (by rw [hs]; rfl) (pos := pos) (p := p2) (by rfl)
  have outer := pe_callB (CallR.or (cr_srtG hc hu) (cr_sortedT hc)) g1 m1 PyProof.Rows.boot_sorted (pa_cons inner pa_nil (by rfl)) (by decide) (by decide) (by rfl) (pos := pos2) (p := p1) (by rfl)
  refine PE.imp outer fun σ H Q ⟨ρ, S, G, re, rs, h, k⟩ => ?_
  refine liftE.then re rs h fun d S1 x H1 k1 r1 s1 h1 => ?_
  have out : ∀ {b p : Addr} {ho : HO}, H1 b = none → (upd H1 b ho) p = none → H1 p = none := fun {b p ho} hb hp => by
    by_cases e : p = b
    · subst e; exact hb
    · rwa [upd_ne e] at hp
  rcases h1 with ⟨ks, hd, hf, one, hq⟩ | ⟨ps, B, hd, hf, bd, hq⟩
  · obtain ⟨a, ys, rfl, ry, sq⟩ := seqD_ok r1 s1 hd
    obtain rfl := rps_keys ry
    refine .inl ⟨a, ks, rfl, sq.imp id TpT.sqt, hf, fun b its rv hb => ?_⟩
    refine .inl ⟨b, its, ks, rfl, upd_same, rv, hf, one, fun us nd hm p hp => ?_⟩
    have n1 := out hb hp
    have K2 : Keep H1 (upd (upd H1 b (SetGO X.prog X.w b its ks.reverse)) p (.lst ((us.mergeSort (PySem.W.dataLe false kP)).map kV))) := (Keep.new hb).trans (Keep.new hp)
    exact k _ _ _ _ (k1.trans K2) (by simp only [Rp]) ((s1.new hb).put (c := .lst _) (Keep.new hp) ⟨_, upd_same, rps_ofKeys _⟩) (hq us nd hm p (s1.fresh n1))
  · obtain ⟨a, ys, rfl, ry, sq⟩ := seqD_ok r1 s1 hd
    obtain ⟨ks, rfl, ek, hk⟩ := rps_pairs ry
    have lk : ks.length = ps.length := by
      have := congrArg List.length ek
      simpa using this
    have two : ∀ q ∈ ks, ∃ p ∈ ps, q.2 = [p.1, p.2] := fun q hq => by
      have : q.2 ∈ ps.map fun p => [p.1, p.2] := by rw [← ek]; exact List.mem_map_of_mem hq
      obtain ⟨p, hp, e⟩ := List.mem_map.mp this
      exact ⟨p, hp, e.symm⟩
    refine .inr ⟨a, ks, rfl, sq.imp id TpT.sqt, fun p hp => (hk p hp).sqt, by omega, fun b L hb hsub hall => ?_⟩
    have hkL : ∀ {H' : Hp}, Keep H1 H' → ∀ q ∈ L, TpT X.K H' q.1 (q.2.map V.int) := fun kk q hq => kk.tpt (hk q (hsub q hq))
    have twoL : ∀ q ∈ L, ∃ p ∈ ps, q.2 = [p.1, p.2] := fun q hq => two q (hsub q hq)
    refine .inr ⟨b, L, 2, B, rfl, upd_same, fun q hq => (hkL (Keep.new hb) q hq).sqt, by decide, fun q hq => ?_, fun L' p pm nd l64 pw hp => ?_⟩
    · obtain ⟨p, hp, e⟩ := twoL q hq
      rw [e]
      refine ⟨rfl, fun m hm => ?_⟩
      have := bd p hp
      (simp only [List.mem_cons, List.not_mem_nil, or_false] at hm)
      rcases hm with rfl | rfl
      · exact this.1
      · exact this.2
    · have n1 := out hb hp
      have K2 : Keep H1 (upd (upd H1 b (SetTO X.prog X.w b L)) p (.lst (L'.map fun q => V.ref q.1))) := (Keep.new hb).trans (Keep.new hp)
      have inL : ∀ q ∈ L', q ∈ L := fun q hq => pm.mem_iff.mp hq
      have len2 : ∀ q ∈ L', q.2.length = 2 := fun q hq => by
        obtain ⟨p, _, e⟩ := twoL q (inL q hq)
        rw [e]; rfl
      have pr : ∀ q ∈ L', q.2 = [(prOf q.2).1, (prOf q.2).2] ∧ prOf q.2 ∈ ps := fun q hq => by
        obtain ⟨p, hp, e⟩ := twoL q (inL q hq)
        rw [e]
        exact ⟨rfl, hp⟩
      have rb := rps_back (M := md X) (ks := L') (fun q hq => hkL K2 q (inL q hq)) len2
      have em : (L'.map fun q => pD (prOf q.2)) = (L'.map fun q => prOf q.2).map pD := by rw [List.map_map]; rfl
      rw [em] at rb
      refine k _ _ _ _ (k1.trans K2) (by simp only [Rp]) ((s1.new hb).put (c := .lst _) (Keep.new hp) ⟨_, upd_same, rb⟩) (hq (L'.map fun q => prOf q.2) ?_ (fun x => ?_) p (s1.fresh n1))
      · rw [List.pairwise_map]
        have nd2 : L'.Pairwise fun q r => q.2 ≠ r.2 := List.pairwise_map.mp nd
        refine (List.Pairwise.and pw nd2).imp_of_mem fun {q r} hq hr h => ?_
        obtain ⟨e1, m1'⟩ := pr q hq
        obtain ⟨e2, m2'⟩ := pr r hr
        refine lt_of_code (bd _ m1') (bd _ m2') (by rw [← e1, ← e2]; exact h.1) fun e => h.2 ?_
        rw [e1, e2, e]
      · rw [List.mem_map]
        constructor
        · rintro ⟨q, hq, rfl⟩
          exact (pr q hq).2
        · intro hx
          have h1 : [x.1, x.2] ∈ ks.map (·.2) := by rw [ek]; exact List.mem_map.mpr ⟨x, hx, rfl⟩
          (obtain ⟨q, hq, e⟩ := List.mem_map.mp h1)
          obtain ⟨q2, hq2, e2⟩ := List.mem_map.mp (hall q hq)
          refine ⟨q2, pm.mem_iff.mpr hq2, ?_⟩
          rw [e2, e]
          rfl
end
end GL
end

-- G13
section
namespace GL
open PyProof.Rows PySem PySem.Spec L2

structure Good (T : Tb) (X : Cx) (N : List Str) (z : Sc) : Prop where
  hN : X.N = N
  hsc : X.env.scope = z.sc
  hcl : ∀ x, z.cl x = true → X.fn x = true
  nd : N.Nodup
  calm : X.calm = true
  room : X.A.units + 62 < cLine
  gd : X.A.guards = some []
  sm : SysM X
  fn : ∀ x F, T.fn x = some F → FnG X x F
  val : ∀ x d, T.val x = some d → ∃ u v, X.mg x = some u ∧ L2.RelV v u ∧ ∀ H, Rp (md X) H d v
  fld : ∀ C f, T.cls C f = true → FldG X C f
  mtd : ∀ C m F, T.mt C m = some F → MtdG X C m F
  mak : ∀ C F, T.nw C = some F → MakG X C F
  free : ∀ x, x ∈ (["len", "isinstance", "int", "list", "tuple", "all", "any", "max", "min", "sum", "sorted", "str", "dict", "range", "enumerate", "zip", "bool", "repr", "set"] : List Str) → X.mg x = none
section
variable {T : Tb} {X : Cx} {N : List Str} {z : Sc}
theorem glb_ok (G : Good T X N z) {x : Str} (h : glb z.sc x = true) : Gl X x ∧ (x == ("__debug__" : Str)) = false := by
  unfold glb at h
  rw [Bool.and_eq_true] at h
  refine ⟨?_, by simpa using h.2⟩
  show X.env.scope.names.lookup x = _
  rw [G.hsc]
  exact of_decide_eq_true h.1
theorem blkC_ok (G : Good T X N z) {scope : Scope} {own : List (Str × Nat)} (h : blkC N z.sc scope own = true) : BlkOk X.N X.env.scope scope own := by
  rw [G.hN, G.hsc]; exact blkOk_by h
theorem Good.blk (G : Good T X N z) (s : Shared) (H : Hp) (scope : Scope) (C : Addr) (cl : List (Str × Addr)) (fp : List Addr) : Good T (X.blk s H scope (compEnvC scope cl C X.env) fp) N (blkSc z scope) where
  hN := G.hN
  hsc := by
    show relabel scope X.env = relS scope z.sc
    rw [← G.hsc]; rfl
  hcl := fun x h => h
  nd := G.nd
  calm := G.calm
  room := G.room
  gd := G.gd
  sm := G.sm
  fn := fun x F h => ⟨(G.fn x F h).ex⟩
  val := G.val
  fld := fun C f h => ⟨(G.fld C f h).ex⟩
  mtd := fun C m F h => ⟨(G.mtd C m F h).ex⟩
  mak := fun C F h => ⟨(G.mak C F h).ex⟩
  free := G.free
theorem star_find {env : Env} : ∀ {es : List Expr}, (∀ e ∈ es, nostar e = true) → (assignEach es env).findIdx? (·.1) = none ∧ (assignEach es env).length = es.length
  | [], _ => ⟨rfl, rfl⟩
  | e :: es, h => by
    have he := h e (List.mem_cons_self ..)
    have ht := star_find (env := env) fun x hx => h x (List.mem_cons_of_mem _ hx)
    rw [asg_cons he]
    refine ⟨?_, by rw [List.length_cons, List.length_cons, ht.2]⟩
    rw [List.findIdx?_cons]
    simp [ht.1]
mutual
theorem jg_ok (G : Good T X N z) : ∀ (t : GTg) (e : Expr), chkG N z t e = true → JG X e t.slots (wG t)
  | .name i, e, h => by
    unfold chkG at h
    split at h
    · rename_i x p
      rw [Bool.and_eq_true] at h
      obtain ⟨h1, h2⟩ := h
      have h1 := of_decide_eq_true h1
      unfold locB at h2
      unfold GTg.slots wG
      split at h2
      · rename_i hl
        exact jg_name (pg_name (by rw [G.hN]; exact G.nd) (by rw [G.hN]; exact h1) (.inl (by rw [G.hsc]; exact hl)) (.inr (by rw [G.hsc]; exact hl)))
      · rename_i hl
        exact jg_name (pg_name (by rw [G.hN]; exact G.nd) (by rw [G.hN]; exact h1) (.inr (by rw [G.hsc]; exact hl)) (.inl (G.hcl x h2)))
      · cases h2
    · cases h
  | .tup ts, e, h => by
    unfold chkG at h
    split at h
    · rename_i es k p
      obtain ⟨h1, h2, h3⟩ := jgs_ok G ts es h
      unfold GTg.slots wG
      exact jg_tup G.calm h1 (by rw [(star_find h3).2, h2]) (star_find h3).1
    · cases h
theorem jgs_ok (G : Good T X N z) : ∀ (ts : GTgs) (es : List Expr), chkGs N z ts es = true → JGs X es ts.slots (wGs ts) ∧ es.length = ts.len ∧ ∀ e ∈ es, nostar e = true
  | .nil, es, h => by
    unfold chkGs at h
    split at h
    · unfold GTgs.slots wGs GTgs.len
      exact ⟨jgs_nil, rfl, fun e he => by cases he⟩
    · cases h
  | .cons t ts, es, h => by
    unfold chkGs at h
    split at h
    · rename_i e es
      rw [Bool.and_eq_true, Bool.and_eq_true] at h
      obtain ⟨⟨h1, h2⟩, h3⟩ := h
      obtain ⟨a, b, c⟩ := jgs_ok G ts es h3
      unfold GTgs.slots wGs GTgs.len
      refine ⟨jgs_cons (jg_ok G t e h2) a (by rw [asg_cons h1]; rfl), by rw [List.length_cons, b], fun x hx => ?_⟩
      (rcases List.mem_cons.mp hx with rfl | hx)
      · exact h1
      · exact c x hx
    · cases h
end
theorem any_nostar {env : Env} {pos : Pos} : ∀ {es : List Expr}, (∀ e ∈ es, nostar e = true) → (backTo pos (starEach es env)).any (·.1) = false
  | [], _ => rfl
  | e :: es, h => by
    rw [star_cons (h e (List.mem_cons_self ..))]
    show (false || (backTo pos (starEach es env)).any (·.1)) = false
    rw [any_nostar fun x hx => h x (List.mem_cons_of_mem _ hx)]
    rfl
theorem all_nostar {env : Env} {pos : Pos} : ∀ {es : List Expr}, (∀ e ∈ es, nostar e = true) → (backTo pos (starEach es env)).all (fun x => !x.1) = true
  | [], _ => rfl
  | e :: es, h => by
    rw [star_cons (h e (List.mem_cons_self ..))]
    show (true && (backTo pos (starEach es env)).all (fun x => !x.1)) = true
    rw [all_nostar fun x hx => h x (List.mem_cons_of_mem _ hx)]
    rfl
structure Snd (X : Cx) (ex : Expr) (g : W2) (b : Bool) : Prop where
  e : JE X ex g.e
  t : b = true → JT X ex g.t
  w : b = true → ∀ op vs pos, ex = .BoolOp op vs pos → JW X ex g.t
theorem snd_both {e : Expr} {g : WE} {t : Bool} (h : JE X e g) (p : plainTest e = true) : Snd X e (both g) t := ⟨h, fun _ => jt_tru h (test_ok p), fun _ op vs pos he => by subst he; cases p⟩
theorem orL {a b c : Bool} (h : (a && b && c) = true) : a = true ∧ b = true ∧ c = true := by
  rw [Bool.and_eq_true, Bool.and_eq_true] at h; exact ⟨h.1.1, h.1.2, h.2⟩
mutual
theorem chk_ok : ∀ (g : GX) (W : XW) (hW : ∀ n d ρ S, ¬ W n d ρ S) (X : Cx) (N : List Str) (z : Sc) (e : Expr), Good T X N z → chk N z g e = true → Snd X e (w T W g) (tst g)
  | .slot i, W, hW, X, N, z, e, G, h => by
    unfold chk at h
    split at h
    · rename_i x p
      simp only [Bool.and_eq_true, decide_eq_true_eq, Bool.not_eq_true'] at h
      (obtain ⟨⟨⟨h1, h2⟩, h3⟩, h4⟩ := h)
      unfold w
      refine snd_both (je_slot (pe_var (by rw [G.hN]; exact h1) ?_ h3 h4)) rfl
      unfold vis at h2
      show Vis X.env.scope x
      rw [G.hsc]
      split at h2
      · exact .inl (by assumption)
      · exact .inr (.inl (by assumption))
      · exact .inr (.inr (by assumption))
      · cases h2
    · cases h
  | .int i, W, hW, X, N, z, e, G, h => by
    unfold chk at h
    split at h
    · have := of_decide_eq_true h; subst this
      unfold w; exact snd_both (je_val pe_int fun H => by simp only [Rp]) rfl
    · cases h
  | .str i, W, hW, X, N, z, e, G, h => by
    unfold chk at h
    split at h
    · have := of_decide_eq_true h; subst this
      unfold w; exact snd_both (je_val pe_str fun H => by simp only [Rp]) rfl
    · cases h
  | .bl i, W, hW, X, N, z, e, G, h => by
    unfold chk at h
    split at h
    · have := of_decide_eq_true h; subst this
      unfold w; exact snd_both (je_val pe_bl fun H => by simp only [Rp]) rfl
    · cases h
  | .non, W, hW, X, N, z, e, G, h => by
    unfold chk at h
    split at h
    · unfold w; exact snd_both (je_val pe_non fun H => by simp only [Rp]) rfl
    · cases h
  | .val x, W, hW, X, N, z, e, G, h => by
    unfold chk at h
    split at h
    · rename_i y p
      (rw [Bool.and_eq_true, decide_eq_true_eq] at h)
      obtain ⟨rfl, h2⟩ := h
      obtain ⟨g1, g2⟩ := glb_ok G h2
      unfold w
      refine snd_both ⟨fun pins s σ H Q I hq => ?_⟩ rfl
      obtain ⟨ρ, S, G', re, rs, ⟨d, hd, hg⟩, k⟩ := hq
      obtain ⟨u, v, hm, rv, rd⟩ := G.val x d hd
      exact (pe_glob g1 hm rv g2).run pins s σ H Q I (lq k (rd H) rs hg)
    · cases h
  | .bty n, W, hW, X, N, z, e, G, h => by
    unfold chk at h
    split at h
    · rename_i y p
      simp only [Bool.and_eq_true, decide_eq_true_eq, Bool.or_eq_true, beq_iff_eq] at h
      obtain ⟨⟨rfl, h2⟩, h3⟩ := h
      obtain ⟨g1, g2⟩ := glb_ok G h2
      unfold w
      refine snd_both (je_val (v := .ty n) ?_ fun H => by simp only [Rp]) rfl
      rcases h3 with ((((rfl | rfl) | rfl) | rfl) | rfl) | rfl
      · exact pe_bltn g1 (G.free _ (by decide +kernel)) (by decide +kernel) rfl (by decide +kernel) g2
      · exact pe_bltn g1 (G.free _ (by decide +kernel)) (by decide +kernel) rfl (by decide +kernel) g2
      · exact pe_bltn g1 (G.free _ (by decide +kernel)) (by decide +kernel) rfl (by decide +kernel) g2
      · exact pe_bltn g1 (G.free _ (by decide +kernel)) (by decide +kernel) rfl (by decide +kernel) g2
      · exact pe_bltn g1 (G.free _ (by decide +kernel)) (by decide +kernel) rfl (by decide +kernel) g2
      · exact pe_bltn g1 (G.free _ (by decide +kernel)) (by decide +kernel) rfl (by decide +kernel) g2
    · cases h
  | .fnv x, W, hW, X, N, z, e, G, h => by
    unfold chk at h
    split at h
    · rename_i y p
      (rw [Bool.and_eq_true, decide_eq_true_eq] at h)
      obtain ⟨rfl, h2⟩ := h
      obtain ⟨g1, g2⟩ := glb_ok G h2
      unfold w
      refine snd_both ⟨fun pins s σ H Q I hq => ?_⟩ rfl
      obtain ⟨ρ, S, G', re, rs, ⟨hd, hg⟩, k⟩ := hq
      obtain ⟨F, hF⟩ := Option.isSome_iff_exists.mp hd
      obtain ⟨fa, fd, k', hm, _⟩ := (G.fn x F hF).ex
      exact (pe_glob (v := .ref fa) g1 hm rfl g2).run pins s σ H Q I (lq k (by simp only [Rp]; exact ⟨fa, hm, rfl⟩) rs hg)
    · cases h
  | .bin o a b, W, hW, X, N, z, e, G, h => by
    unfold chk at h
    split at h
    · obtain ⟨h1, h2, h3⟩ := orL h
      have := of_decide_eq_true h1; subst this
      unfold w
      exact snd_both (je_bin (bin_ok _) (chk_ok a W hW X N z _ G h2).e (chk_ok b W hW X N z _ G h3).e) rfl
    · cases h
  | .cmp o a b, W, hW, X, N, z, e, G, h => by
    unfold chk at h
    split at h
    · rw [Bool.and_eq_true] at h
      obtain ⟨h, h4⟩ := h
      obtain ⟨h1, h2, h3⟩ := orL h
      have := of_decide_eq_true h1; subst this
      unfold w
      exact ⟨je_cmp (cmp_ok G.room _) (chk_ok a W hW X N z _ G h2).e (chk_ok b W hW X N z _ G h3).e (noset_b h4), fun _ => jt_cmp (cmp_ok G.room _) (chk_ok a W hW X N z _ G h2).e (chk_ok b W hW X N z _ G h3).e (noset_b h4), fun _ op vs pos he => by cases he⟩
    · cases h
  | .cmp2 o p a b c, W, hW, X, N, z, e, G, h => by
    unfold chk at h
    split at h
    · (simp only [Bool.and_eq_true, decide_eq_true_eq] at h)
      obtain ⟨⟨⟨⟨⟨rfl, rfl⟩, h2⟩, h3⟩, h4⟩, h5⟩ := h
      unfold w
      exact ⟨je_cmp2 (cmp_ok G.room _) (cmp_ok G.room _) (chk_ok a W hW X N z _ G h2).e (chk_ok b W hW X N z _ G h3).e (chk_ok c W hW X N z _ G h4).e (noset_b h5), fun _ => jt_cmp2 (cmp_ok G.room _) (cmp_ok G.room _) (chk_ok a W hW X N z _ G h2).e (chk_ok b W hW X N z _ G h3).e (chk_ok c W hW X N z _ G h4).e (noset_b h5), fun _ op vs pos he => by cases he⟩
    · cases h
  | .and_ a b, W, hW, X, N, z, e, G, h => by
    unfold chk at h
    split at h
    · rename_i x y rest pos
      rw [Bool.and_eq_true] at h
      obtain ⟨h1, h2⟩ := h
      have A := chk_ok a W hW X N z _ G h1
      unfold w tst
      split at h2
      · have B := chk_ok b W hW X N z _ G h2
        refine ⟨je_and A.e (PE.imp (pe_one B.e) fun _ _ _ q => q), fun ht => ?_, fun ht op vs pos' he => ?_⟩
        · rw [Bool.and_eq_true] at ht
          exact (jw_and (A.t ht.1) (PW.imp (pw_and1 (B.t ht.2)) fun _ _ _ q => q)).pt
        · rw [Bool.and_eq_true] at ht
          exact jw_and (A.t ht.1) (PW.imp (pw_and1 (B.t ht.2)) fun _ _ _ q => q)
      · have B := chk_ok b W hW X N z _ G h2
        refine ⟨je_and A.e B.e, fun ht => ?_, fun ht op vs pos' he => ?_⟩
        · rw [Bool.and_eq_true] at ht
          exact (jw_and (A.t ht.1) (B.w ht.2 _ _ _ rfl)).pt
        · rw [Bool.and_eq_true] at ht
          exact jw_and (A.t ht.1) (B.w ht.2 _ _ _ rfl)
    · cases h
  | .or_ a b, W, hW, X, N, z, e, G, h => by
    unfold chk at h
    split at h
    · rename_i x y rest pos
      rw [Bool.and_eq_true] at h
      obtain ⟨h1, h2⟩ := h
      have A := chk_ok a W hW X N z _ G h1
      unfold w tst
      split at h2
      · have B := chk_ok b W hW X N z _ G h2
        refine ⟨je_or A.e (PE.imp (pe_one B.e) fun _ _ _ q => q), fun ht => ?_, fun ht op vs pos' he => ?_⟩
        · rw [Bool.and_eq_true] at ht
          exact (jw_or (A.t ht.1) (PW.imp (pw_or1 (B.t ht.2)) fun _ _ _ q => q)).pt
        · rw [Bool.and_eq_true] at ht
          exact jw_or (A.t ht.1) (PW.imp (pw_or1 (B.t ht.2)) fun _ _ _ q => q)
      · have B := chk_ok b W hW X N z _ G h2
        refine ⟨je_or A.e B.e, fun ht => ?_, fun ht op vs pos' he => ?_⟩
        · rw [Bool.and_eq_true] at ht
          exact (jw_or (A.t ht.1) (B.w ht.2 _ _ _ rfl)).pt
        · rw [Bool.and_eq_true] at ht
          exact jw_or (A.t ht.1) (B.w ht.2 _ _ _ rfl)
    · cases h
  | .not_ a, W, hW, X, N, z, e, G, h => by
    unfold chk at h
    split at h
    · have A := chk_ok a W hW X N z _ G h
      unfold w tst
      exact ⟨je_not A.e, fun ht => jt_not (A.t ht), fun _ op vs pos he => by cases he⟩
    · cases h
  | .neg a, W, hW, X, N, z, e, G, h => by
    unfold chk at h
    split at h
    · have A := chk_ok a W hW X N z _ G h
      unfold w
      exact snd_both (je_un neg_ok A.e) rfl
    · cases h
  | .ite c a b, W, hW, X, N, z, e, G, h => by
    unfold chk at h
    split at h
    · simp only [Bool.and_eq_true] at h
      (obtain ⟨⟨⟨h1, h2⟩, h3⟩, h4⟩ := h)
      unfold w tst
      exact ⟨je_if ((chk_ok c W hW X N z _ G h1).t h2) (chk_ok a W hW X N z _ G h3).e (chk_ok b W hW X N z _ G h4).e, fun ht => (Bool.false_ne_true ht).elim, fun ht => (Bool.false_ne_true ht).elim⟩
    · cases h
  | .tup es, W, hW, X, N, z, e, G, h => by
    unfold chk at h
    split at h
    · unfold w; exact snd_both (je_tup (chks_ok es W hW X N z _ G h).1) rfl
    · cases h
  | .lst es, W, hW, X, N, z, e, G, h => by
    unfold chk at h
    split at h
    · unfold w; exact snd_both (je_lst (chks_ok es W hW X N z _ G h).1) rfl
    · cases h
  | .dct ps, W, hW, X, N, z, e, G, h => by
    unfold chk at h
    split at h
    · rename_i ks vs p
      (rw [Bool.and_eq_true, decide_eq_true_eq] at h)
      obtain ⟨a1, a2, a3, a4⟩ := chkP_ok ps W hW X N z ks vs p G h.1
      unfold w
      exact snd_both (je_dct a1 a2 a3 h.2 a4) rfl
    · cases h
  | .idx a b, W, hW, X, N, z, e, G, h => by
    unfold chk at h
    split at h
    · obtain ⟨h1, h2, h3⟩ := orL h
      unfold w
      exact snd_both (je_ix (idx_ok (by have := G.room; omega)) (chk_ok a W hW X N z _ G h1).e (chk_ok b W hW X N z _ G h2).e (plain_ix h3)) rfl
    · cases h
  | .slc a lo hi, W, hW, X, N, z, e, G, h => by
    unfold chk at h
    split at h
    · obtain ⟨h1, h2, h3⟩ := orL h
      unfold w
      exact snd_both (je_slice (chk_ok a W hW X N z _ G h1).e (chkO_ok lo W hW X N z _ G h2) (chkO_ok hi W hW X N z _ G h3)) rfl
    · cases h
  | .rev a, W, hW, X, N, z, e, G, h => by
    unfold chk at h
    split at h
    · unfold w
      exact snd_both (je_rev (chk_ok a W hW X N z _ G h).e) rfl
    · cases h
  | .call f es, W, hW, X, N, z, e, G, h => by
    unfold chk at h
    split at h
    · rename_i x p es' pos
      obtain ⟨h1, h2, h3⟩ := orL h
      have := of_decide_eq_true h1; subst this
      obtain ⟨g1, g2⟩ := glb_ok G h2
      have A := chks_ok es W hW X N z _ G h3
      unfold w
      refine snd_both ⟨fun pins s σ H Q I hq => ?_⟩ rfl
      obtain ⟨ρ, S, G', re, rs, ⟨F, hF, hg⟩, k⟩ := hq
      have FF := G.fn f F hF
      cases es' with
      | nil =>
        cases es with
        | nil => exact (je_call0 FF hW g1 g2).run pins s σ H Q I ⟨ρ, S, G', re, rs, by unfold wAs at hg; exact hg, k⟩
        | cons _ _ => simp [chks] at h3
      | cons e0 er =>
        exact (je_call FF hW g1 A.1 g2 (star_cons (A.2 e0 (List.mem_cons_self ..))) (any_nostar fun x hx => A.2 x (List.mem_cons_of_mem _ hx))).run pins s σ H Q I ⟨ρ, S, G', re, rs, hg, k⟩
    · cases h
  | .trg a, W, hW, X, N, z, e, G, h => by
    unfold chk at h
    split at h
    · (simp only [Bool.and_eq_true, decide_eq_true_eq] at h)
      obtain ⟨⟨⟨⟨⟨rfl, h2⟩, rfl⟩, h4⟩, h5⟩, h6⟩ := h
      unfold w
      exact snd_both (je_trg G.calm (glb_ok G h2).1 (G.free _ (by decide +kernel)) (glb_ok G h4).1 (G.free _ (by decide +kernel)) (chk_ok a W hW X N z _ G h5).e (star_cons h6)) rfl
    · cases h
  | .lrg a, W, hW, X, N, z, e, G, h => by
    unfold chk at h
    split at h
    · (simp only [Bool.and_eq_true, decide_eq_true_eq] at h)
      obtain ⟨⟨⟨⟨⟨rfl, h2⟩, rfl⟩, h4⟩, h5⟩, h6⟩ := h
      unfold w
      exact snd_both (je_lrg G.calm (glb_ok G h2).1 (G.free _ (by decide +kernel)) (glb_ok G h4).1 (G.free _ (by decide +kernel)) (chk_ok a W hW X N z _ G h5).e (star_cons h6)) rfl
    · cases h
  | .ind neg k d, W, hW, X, N, z, e, G, h => by
    unfold chk at h
    split at h
    · rw [Bool.and_eq_true] at h
      obtain ⟨h, h4⟩ := h
      obtain ⟨h1, h2, h3⟩ := orL h
      have := of_decide_eq_true h1; subst this
      have hu : X.A.units + 1 < cLine := by have := G.room; omega
      unfold w
      exact ⟨je_ind hu (chk_ok k W hW X N z _ G h2).e (chk_ok d W hW X N z _ G h3).e (noset_b h4), fun _ => jt_ind hu (chk_ok k W hW X N z _ G h2).e (chk_ok d W hW X N z _ G h3).e (noset_b h4), fun _ op vs pos he => by cases he⟩
    · cases h
  | .callv i es, W, hW, X, N, z, e, G, h => by
    unfold chk at h
    split at h
    · rename_i x p e0 er pos
      simp only [Bool.and_eq_true, decide_eq_true_eq, Bool.not_eq_true'] at h
      obtain ⟨⟨⟨⟨h1, h2⟩, h3⟩, h4⟩, h5⟩ := h
      have A := chks_ok es W hW X N z _ G h5
      unfold w
      refine snd_both (je_callv (FN := T.fn) (pe_var (by rw [G.hN]; exact h1) ?_ h3 h4) G.fn hW A.1 (star_cons (A.2 e0 (List.mem_cons_self ..))) (any_nostar fun x hx => A.2 x (List.mem_cons_of_mem _ hx))) rfl
      unfold vis at h2
      show Vis X.env.scope x
      rw [G.hsc]
      split at h2
      · exact .inl (by assumption)
      · exact .inr (.inl (by assumption))
      · exact .inr (.inr (by assumption))
      · cases h2
    · cases h
  | .callk f es ks zs, W, hW, X, N, z, e, G, h => by
    unfold chk at h
    split at h
    · rename_i x p es' kws pos
      (simp only [Bool.and_eq_true, decide_eq_true_eq] at h)
      obtain ⟨⟨⟨rfl, h2⟩, h3⟩, h4⟩ := h
      obtain ⟨g1, g2⟩ := glb_ok G h2
      have A := chks_ok es W hW X N z _ G h3
      obtain ⟨B, hk⟩ := chkK_ok ks zs W hW X N z _ G h4
      obtain ⟨k1, k2, k3⟩ := kw_facts (env := X.env) (pos := pos) hk
      unfold w
      refine snd_both ⟨fun pins s σ H Q I hq => ?_⟩ rfl
      obtain ⟨ρ, S, G', re, rs, ⟨F, hF, hg⟩, k⟩ := hq
      have FF := G.fn f F hF
      cases es' with
      | nil =>
        cases es with
        | nil => exact (je_callK0 FF hW g1 B g2 k1 k2 (by rw [k3]; rfl)).run pins s σ H Q I ⟨ρ, S, G', re, rs, by rw [show wAs T W .nil = wNil from rfl] at hg; exact hg, k⟩
        | cons _ _ => simp [chks] at h3
      | cons e0 er =>
        exact (je_callK FF hW g1 A.1 B g2 k1 k2 (star_cons (A.2 e0 (List.mem_cons_self ..))) (by rw [k3, any_nostar A.2]; rfl)).run pins s σ H Q I ⟨ρ, S, G', re, rs, hg, k⟩
    · cases h
  | .blt b es, W, hW, X, N, z, e, G, h => by
    unfold chk at h
    split at h
    · rename_i x p es' pos
      (simp only [Bool.and_eq_true, decide_eq_true_eq] at h)
      obtain ⟨⟨⟨rfl, h2⟩, h3⟩, h4⟩ := h
      obtain ⟨g1, g2⟩ := glb_ok G h2
      have A := chks_ok es W hW X N z _ G h3
      have hm : X.mg b.name = none := G.free _ (by cases b <;> decide +kernel)
      unfold w
      refine snd_both ?_ rfl
      cases es' with
      | nil => cases h4
      | cons e0 er =>
        have st := star_cons (env := X.env) (es := er) (A.2 e0 (List.mem_cons_self ..))
        have an := any_nostar (env := X.env) (pos := pos) fun x hx => A.2 x (List.mem_cons_of_mem e0 hx)
        have ok := blt_ok G.sm G.gd G.calm G.room b
        unfold Bl.val at ok
        cases ht : b.ty with
        | some T' =>
          rw [ht] at ok
          exact je_callTy ok g1 hm (Bl.boot_ty b T' ht) A.1 (Bl.name_ok b).1 g2 st an
        | none =>
          rw [ht] at ok
          exact je_callB ok g1 hm (Bl.boot_id b ht) A.1 (Bl.name_ok b).1 g2 st an
    · cases h
  | .sset a, W, hW, X, N, z, e, G, h => by
    unfold chk at h
    split at h
    · (simp only [Bool.and_eq_true, decide_eq_true_eq] at h)
      obtain ⟨⟨⟨⟨⟨rfl, h2⟩, rfl⟩, h4⟩, h5⟩, h6⟩ := h
      unfold w
      exact snd_both (je_sset G.calm G.room (glb_ok G h2).1 (G.free _ (by decide +kernel)) (glb_ok G h4).1 (G.free _ (by decide +kernel)) (chk_ok a W hW X N z _ G h5).e (star_cons h6)) rfl
    · cases h
  | .mth m o es, W, hW, X, N, z, e, G, h => by
    unfold chk at h
    split at h
    · rename_i o' x apos es' cpos
      (simp only [Bool.and_eq_true, decide_eq_true_eq] at h)
      obtain ⟨⟨⟨⟨⟨rfl, h2⟩, h3⟩, h4⟩, h5⟩, h6⟩ := h
      have O := chk_ok o W hW X N z _ G h2
      have A := chks_ok es W hW X N z _ G h3
      unfold w
      refine snd_both ?_ rfl
      cases es' with
      | nil =>
        cases es with
        | nil => unfold wAs; exact je_mth0 G.room m O.e (base_ok h4) h5
        | cons _ _ => simp [chks] at h3
      | cons e0 er =>
        refine je_mth G.room m O.e A.1 (base_ok h4) ?_ h5 (star_cons (A.2 e0 (List.mem_cons_self ..))) (any_nostar fun x hx => A.2 x (List.mem_cons_of_mem _ hx))
        rw [all_nostar A.2]
        simp only [List.length_cons] at h6
        simp [backToKw, keywordEach]
        omega
    · cases h
  | .fld o f, W, hW, X, N, z, e, G, h => by
    unfold chk at h
    split at h
    · obtain ⟨h1, h2, h3⟩ := orL h
      have := of_decide_eq_true h1; subst this
      unfold w
      exact snd_both (je_fld G.fld (chk_ok o W hW X N z _ G h2).e (base_ok h3)) rfl
    · cases h
  | .mtd m o es, W, hW, X, N, z, e, G, h => by
    unfold chk at h
    split at h
    · rename_i o' x apos es' cpos
      (simp only [Bool.and_eq_true, decide_eq_true_eq] at h)
      obtain ⟨⟨⟨⟨⟨rfl, h2⟩, h3⟩, h4⟩, h5⟩, h6⟩ := h
      have O := chk_ok o W hW X N z _ G h2
      have A := chks_ok es W hW X N z _ G h3
      unfold w
      refine snd_both ?_ rfl
      cases es' with
      | nil =>
        cases es with
        | nil => unfold wAs; exact je_mtd0 G.mtd hW O.e (base_ok h4) h5
        | cons _ _ => simp [chks] at h3
      | cons e0 er =>
        refine je_mtd G.mtd hW O.e A.1 (base_ok h4) ?_ h5 (star_cons (A.2 e0 (List.mem_cons_self ..))) (any_nostar fun x hx => A.2 x (List.mem_cons_of_mem _ hx))
        unfold methodCallForm
        rw [all_nostar A.2]
        simp only [List.length_cons] at h6
        simp [backToKw, keywordEach]
        omega
    · cases h
  | .make C es, W, hW, X, N, z, e, G, h => by
    unfold chk at h
    split at h
    · rename_i x p es' pos
      obtain ⟨h1, h2, h3⟩ := orL h
      have := of_decide_eq_true h1; subst this
      obtain ⟨g1, g2⟩ := glb_ok G h2
      have A := chks_ok es W hW X N z _ G h3
      unfold w
      refine snd_both ⟨fun pins s σ H Q I hq => ?_⟩ rfl
      obtain ⟨ρ, S, G', re, rs, ⟨F, hF, hg⟩, k⟩ := hq
      have FF := G.mak C F hF
      cases es' with
      | nil =>
        cases es with
        | nil => exact (je_make0 FF hW g1 g2).run pins s σ H Q I ⟨ρ, S, G', re, rs, by unfold wAs at hg; exact hg, k⟩
        | cons _ _ => simp [chks] at h3
      | cons e0 er =>
        exact (je_make FF hW g1 A.1 g2 (star_cons (A.2 e0 (List.mem_cons_self ..))) (any_nostar fun x hx => A.2 x (List.mem_cons_of_mem _ hx))).run pins s σ H Q I ⟨ρ, S, G', re, rs, hg, k⟩
    · cases h
  | .lc own tg it c elt, W, hW, X, N, z, e, G, h => by
    unfold chk at h
    split at h
    · rename_i elt' tg' it' ifs' scope pos
      (simp only [Bool.and_eq_true, decide_eq_true_eq] at h)
      (obtain ⟨⟨⟨⟨⟨⟨⟨h1, h2⟩, h3⟩, h4⟩, h5⟩, h6⟩, h7⟩, h8⟩ := h)
      have hWF : ∀ (n : Str) (d : D) (ρ : Ev) (S : Store), ¬ (fun _ _ _ _ => False : XW) n d ρ S := fun _ _ _ _ q => q
      unfold w
      refine snd_both (je_lc h2 G.calm (by rw [G.hN]; exact G.nd) (chkI_ok it W hW X N z tg' it' G h5 h4) (blkC_ok G h1) (fun s H C cl fp => jg_ok (G.blk s H scope C cl fp) tg tg' h3) (fun s H C cl fp => chkC_ok c _ hWF _ N _ ifs' (G.blk s H scope C cl fp) h6)
        (fun s H C cl fp => (chk_ok elt _ hWF _ N _ elt' (G.blk s H scope C cl fp) h7).e) (noset_f h8)) rfl
    · cases h
theorem chks_ok : ∀ (gs : GXs) (W : XW) (hW : ∀ n d ρ S, ¬ W n d ρ S) (X : Cx) (N : List Str) (z : Sc) (es : List Expr), Good T X N z → chks N z gs es = true → JA X es (wAs T W gs) ∧ ∀ e ∈ es, nostar e = true
  | .nil, W, hW, X, N, z, es, G, h => by
    unfold chks at h
    split at h
    · unfold wAs; exact ⟨ja_nil, fun e he => by cases he⟩
    · cases h
  | .cons g gs, W, hW, X, N, z, es, G, h => by
    unfold chks at h
    split at h
    · obtain ⟨h1, h2, h3⟩ := orL h
      have A := chks_ok gs W hW X N z _ G h3
      unfold wAs
      refine ⟨ja_cons (chk_ok g W hW X N z _ G h2).e A.1 (star_cons h1), fun x hx => ?_⟩
      (rcases List.mem_cons.mp hx with rfl | hx)
      · exact h1
      · exact A.2 x hx
    · cases h
theorem chkK_ok : ∀ (ks : List Str) (gs : GXs) (W : XW) (hW : ∀ n d ρ S, ¬ W n d ρ S) (X : Cx) (N : List Str) (z : Sc) (kws : List Keyword), Good T X N z → chkK N z ks gs kws = true → JK X kws (wAs T W gs) ∧ kws.map (·.arg) = ks.map some
  | ks, .nil, W, hW, X, N, z, kws, G, h => by
    unfold chkK at h
    split at h
    · unfold wAs; exact ⟨jk_nil, rfl⟩
    · cases h
  | ks, .cons g gs, W, hW, X, N, z, kws, G, h => by
    unfold chkK at h
    split at h
    · obtain ⟨h1, h2, h3⟩ := orL h
      have h1 := of_decide_eq_true h1
      have A := chkK_ok _ gs W hW X N z _ G h3
      unfold wAs
      exact ⟨jk_cons (chk_ok g W hW X N z _ G h2).e A.1, by rw [List.map_cons, List.map_cons, A.2, h1]⟩
    · cases h
theorem chkP_ok : ∀ (ps : GPs) (W : XW) (hW : ∀ n d ρ S, ¬ W n d ρ S) (X : Cx) (N : List Str) (z : Sc) (ks : List (Option Expr)) (vs : List Expr) (pos : Pos), Good T X N z → chkP N z ps ks vs = true →
    PPs X pos ks vs ((wPs T W ps).map fun p => (liftE (md X) p.1, liftE (md X) p.2)) ∧ ks.all (·.isSome) = true ∧ ks.length = vs.length ∧ (ks = [] → wPs T W ps = [])
  | .nil, W, hW, X, N, z, ks, vs, pos, G, h => by
    unfold chkP at h
    split at h
    · unfold wPs; exact ⟨pps_nil, rfl, rfl, fun _ => rfl⟩
    · cases h
  | .cons gk gv ps, W, hW, X, N, z, ks, vs, pos, G, h => by
    unfold chkP at h
    split at h
    · obtain ⟨h1, h2, h3⟩ := orL h
      obtain ⟨a1, a2, a3, a4⟩ := chkP_ok ps W hW X N z _ _ pos G h3
      unfold wPs
      exact ⟨pps_cons (chk_ok gk W hW X N z _ G h1).e (chk_ok gv W hW X N z _ G h2).e a1, by rw [List.all_cons, a2]; rfl, by rw [List.length_cons, List.length_cons, a3], fun e => by cases e⟩
    · cases h
theorem chkO_ok : ∀ (g : GO) (W : XW) (hW : ∀ n d ρ S, ¬ W n d ρ S) (X : Cx) (N : List Str) (z : Sc) (e : Option Expr), Good T X N z → chkO N z g e = true → JO X e (wO T W g)
  | .none, W, hW, X, N, z, e, G, h => by
    unfold chkO at h
    split at h
    · unfold wO; exact jo_none
    · cases h
  | .some g, W, hW, X, N, z, e, G, h => by
    unfold chkO at h
    split at h
    · unfold wO; exact jo_some (chk_ok g W hW X N z _ G h).e
    · cases h
theorem chkC_ok : ∀ (g : GO) (W : XW) (hW : ∀ n d ρ S, ¬ W n d ρ S) (X : Cx) (N : List Str) (z : Sc) (es : List Expr), Good T X N z → chkC N z g es = true → PTs X es (liftT (md X) (wC T W g))
  | .none, W, hW, X, N, z, es, G, h => by
    unfold chkC at h
    split at h
    · unfold wC; exact ⟨fun pins s σ H Q I ⟨ρ, S, G', re, rs, hg, k⟩ => pts_nil.run pins s σ H Q I (k true S H (Keep.refl H) rs hg)⟩
    · cases h
  | .some g, W, hW, X, N, z, es, G, h => by
    unfold chkC at h
    split at h
    · rw [Bool.and_eq_true] at h
      unfold wC; exact pts_one ((chk_ok g W hW X N z _ G h.1).t h.2)
    · cases h
theorem chkI_ok : ∀ (g : GIt) (W : XW) (hW : ∀ n d ρ S, ¬ W n d ρ S) (X : Cx) (N : List Str) (z : Sc) (tg e : Expr), Good T X N z → (isTup tg || !(match g with | .enum _ => true | .zip _ _ => true | _ => false)) = true → chkI N z g e = true → JI X tg e (wI T W g)
  | .ex g, W, hW, X, N, z, tg, e, G, ht, h => by
    unfold chkI at h
    unfold wI
    exact ji_any (chk_ok g W hW X N z _ G h).e
  | .range1 g, W, hW, X, N, z, tg, e, G, ht, h => by
    unfold chkI at h
    split at h
    · (simp only [Bool.and_eq_true, decide_eq_true_eq] at h)
      obtain ⟨⟨⟨rfl, h2⟩, h3⟩, h4⟩ := h
      unfold wI
      exact ji_range1 (glb_ok G h2).1 (G.free _ (by decide +kernel)) (chk_ok g W hW X N z _ G h3).e (by rw [star_cons h4]; rfl)
    · cases h
  | .range2 g k, W, hW, X, N, z, tg, e, G, ht, h => by
    unfold chkI at h
    split at h
    · (simp only [Bool.and_eq_true, decide_eq_true_eq] at h)
      obtain ⟨⟨⟨⟨⟨rfl, h2⟩, h3⟩, h4⟩, h5⟩, h6⟩ := h
      unfold wI
      exact ji_range2 (glb_ok G h2).1 (G.free _ (by decide +kernel)) (chk_ok g W hW X N z _ G h3).e (chk_ok k W hW X N z _ G h4).e (by rw [star_cons h5, star_cons h6]; rfl) (by rw [star_cons h6]; rfl)
    · cases h
  | .enum g, W, hW, X, N, z, tg, e, G, ht, h => by
    unfold chkI at h
    split at h
    · (simp only [Bool.and_eq_true, decide_eq_true_eq] at h)
      obtain ⟨⟨⟨rfl, h2⟩, h3⟩, h4⟩ := h
      unfold wI
      cases tg with
      | Tuple es k p => exact ji_enum (glb_ok G h2).1 (G.free _ (by decide +kernel)) (chk_ok g W hW X N z _ G h3).e (by rw [star_cons h4]; rfl)
      | _ => cases ht
    · cases h
  | .zip g k, W, hW, X, N, z, tg, e, G, ht, h => by
    unfold chkI at h
    split at h
    · (simp only [Bool.and_eq_true, decide_eq_true_eq] at h)
      obtain ⟨⟨⟨⟨⟨rfl, h2⟩, h3⟩, h4⟩, h5⟩, h6⟩ := h
      unfold wI
      cases tg with
      | Tuple es k' p => exact ji_zip (glb_ok G h2).1 (G.free _ (by decide +kernel)) (chk_ok g W hW X N z _ G h3).e (chk_ok k W hW X N z _ G h4).e (star_cons h5) (by rw [star_cons h6]; rfl) (any_nostar fun x hx => by
          (rcases List.mem_cons.mp hx with rfl | hx)
          · exact h6
          · cases hx)
      | _ => cases ht
    · cases h
end
end
end GL
end

-- G14
section
namespace GL
open PyProof.Rows PySem PySem.Spec L2

mutual
inductive GS where
  | expr (e : GX) | set (tg : GTg) (e : GX) | setLc (i : Nat) (e : GX) | setIx (o i e : GX) | setFld (o : GX) (f : Str) (e : GX) | par (is : List Nat) (es : GXs)
  | ret (e : GX) | retN | if_ (c : GX) (t u : GB) | for_ (tg : GTg) (it : GIt) (b : GB) | while_ (c : GX) (b : GB)
  | brk | cont | pass | aug (i : Nat) (o : Operator) (e : GX)
  /-- what is never reached -/
  | dead
inductive GB where
  | nil | cons (s : GS) (b : GB)
end
def augD (o : Operator) (a b : D) (S : Store) (Q : GQ) : Prop := match o, a, b with
  | .Add, .int i, .int j => Q (.int (i + j)) S
  | .Sub, .int i, .int j => Q (.int (i - j)) S
  | _, _, _ => False
mutual
def wS (T : Tb) (W : XW) : GS → WS
  | .expr e => wDrop (w T W e).e
  | .set tg e => wAsg (w T W e).e (wG tg)
  | .setLc i e => wAsg (w T W e).e (wgName i)
  | .setIx o i e => wSetIx (w T W o).e (w T W i).e (w T W e).e
  | .setFld o f e => wSetFld T.cls (w T W o).e (w T W e).e f
  | .par is es => wPar is (wAs T W es)
  | .ret e => wRet (w T W e).e
  | .retN => fun E _ S => E.rt .non S
  | .if_ c t u => wIf (w T W c).t (wB_ T W t) (wB_ T W u)
  | .for_ tg it b => wFor (wI T W it) (wG tg) (wB_ T W b)
  | .while_ c b => wWhile (w T W c).t (wB_ T W b)
  | .brk => fun E ρ S => E.bk ρ S
  | .cont => fun E ρ S => E.ct ρ S
  | .pass => wSkip
  | .aug i o e => fun E ρ S => ∃ x, ρ[i]? = some (some x) ∧ (w T W e).e ρ S fun y S1 => augD o x y S1 fun z S2 => E.nx (ρ.set i (some z)) S2
  | .dead => fun _ _ _ => False
def wB_ (T : Tb) (W : XW) : GB → WS
  | .nil => wSkip
  | .cons s b => wSeq (wS T W s) (wB_ T W b)
end

/-! ### the checker -/
def nocomp : Expr → Bool
  | .ListComp _ _ _ _ => false
  | .SetComp _ _ _ _ => false
  | .DictComp _ _ _ _ _ => false
  | _ => true
def isName : Expr → Bool
  | .Name _ _ => true
  | _ => false
/-- no swapping of stores -/
def noSwap : Expr → Expr → Bool
  | .Tuple ts _ _, .Tuple vs _ _ => !(ts.length == 2 || ts.length == 3) || vs.all (foldedForSure 8)
  | .List _ _, _ => false
  | _, _ => true
/-- a target that is no plain local: the stores are not swapped -/
def cellTg (z : Sc) : Expr → Bool
  | .Tuple ts _ _ => ts.any fun t => match t with
    | .Name x _ => !(z.sc.names.lookup x == some .local)
    | _ => false
  | _ => false
/-- the names of a swap -/
def parOk (N : List Str) (z : Sc) (is : List Nat) (ts vs : List Expr) : Bool :=
  match is, ts, vs with
  | [i, j], [.Name x px, .Name y py], [a, b] => decide (N[i]? = some x) && decide (N[j]? = some y) && decide (i ≠ j) && decide (z.sc.names.lookup x = some .local) && decide (z.sc.names.lookup y = some .local) && (py.line == px.line) && !(x == y) && nostar a && nostar b && !([a, b].all (foldedForSure 8)) && !([a, b].all (constantsAlone 8))
  | [i, j, k], [.Name x px, .Name y py, .Name u pu], [a, b, c] => decide (N[i]? = some x) && decide (N[j]? = some y) && decide (N[k]? = some u) && decide (i ≠ j) && decide (i ≠ k) && decide (j ≠ k) && decide (z.sc.names.lookup x = some .local) && decide (z.sc.names.lookup y = some .local) && decide (z.sc.names.lookup u = some .local) && (py.line == px.line) && (pu.line == px.line) && !(x == y) && !(x == u) && !(y == u) && nostar a && nostar b && nostar c && !([a, b, c].all (foldedForSure 8)) && !([a, b, c].all (constantsAlone 8))
  | _, _, _ => false
mutual
def chkS (N : List Str) (z : Sc) : GS → Stmt → Bool
  | .expr g, s => match s with
    | .Expr e _ => chk N z g e && nocomp e
    | _ => false
  | .set tg g, s => match s with
    | .Assign [t] e _ => chkG N z tg t && chk N z g e && (nocomp e || !isName t) && (noSwap t e || cellTg z t) && nostar t
    | _ => false
  | .setLc i g, s => match s with
    | .Assign [.Name y py] (.ListComp elt [⟨tg', it', ifs', 0⟩] scope pos) _ => decide (N[i]? = some y) && decide (z.sc.names.lookup y = some .local) && (py.line == pos.line) && !(scope.names.any fun (n, k) => n == y && (k == .local || k == .cell)) && (match g with
      | .lc own tg it c elt' => blkC N z.sc scope own && decide (∀ i ∈ tg.slots, i ∈ own.map (·.2)) && chkG N (blkSc z scope) tg tg' && chkI N z it it' && (isTup tg' || !(match it with | .enum _ => true | .zip _ _ => true | _ => false)) &&
        chkC N (blkSc z scope) c ifs' && chk N (blkSc z scope) elt' elt && noset it'
      | _ => false)
    | _ => false
  | .setIx o i g, s => match s with
    | .Assign [.Subscript o' i' _] e _ => chk N z o o' && chk N z i i' && chk N z g e && noslice i' && nocomp e
    | _ => false
  | .setFld o f g, s => match s with
    | .Assign [.Attribute o' x _] e _ => decide (f = x) && chk N z o o' && chk N z g e
    | _ => false
  | .par is es, s => match s with
    | .Assign [.Tuple ts _ _] (.Tuple vs _ _) _ => parOk N z is ts vs && chks N z es vs
    | _ => false
  | .ret g, s => match s with
    | .Return (some e) _ => chk N z g e
    | _ => false
  | .retN, s => match s with
    | .Return none _ => true
    | _ => false
  | .if_ c t u, s => match s with
    | .If c' t' u' _ => chk N z c c' && tst c && chkB N z t t' && chkB N z u u'
    | _ => false
  | .for_ tg it b, s => match s with
    | .For t' it' b' [] _ => chkG N z tg t' && chkI N z it it' && (isTup t' || !(match it with | .enum _ => true | .zip _ _ => true | _ => false)) && chkB N z b b' && noset it'
    | _ => false
  | .while_ c b, s => match s with
    | .While c' b' [] _ => chk N z c c' && tst c && chkB N z b b'
    | _ => false
  | .brk, s => match s with
    | .Break _ => true
    | _ => false
  | .cont, s => match s with
    | .Continue _ => true
    | _ => false
  | .pass, s => match s with
    | .Pass _ => true
    | _ => false
  | .aug i o g, s => match s with
    | .AugAssign (.Name x _) o' e _ => decide (N[i]? = some x) && decide (z.sc.names.lookup x = some .local) && decide (o = o') && chk N z g e && (o' == .Add || o' == .Sub)
    | _ => false
  | .dead, _ => true
def chkB (N : List Str) (z : Sc) : GB → List Stmt → Bool
  | .nil, ss => match ss with
    | [] => true
    | _ => false
  | .cons g b, ss => match ss with
    | s :: ss => chkS N z g s && chkB N z b ss
    | _ => false
end

structure GoodS (T : Tb) (X : Cx) (N : List Str) (z : Sc) : Prop where
  g : Good T X N z
  hp : PassesOwn (model X.prog X.w) X.A X.env X.xe
  kind : z.sc.kind = .function
section
variable {T : Tb} {X : Cx} {N : List Str} {z : Sc}
theorem comp_sw {e : Expr} {t : Option Expr} {l : Nat} {env : Env} (h : nocomp e = true) : swapsWith e t l env = pure false := by
  cases e <;> first | rfl | (cases h; done)
theorem name_sw {e t : Expr} {l : Nat} {env : Env} (h : (nocomp e || !isName t) = true) : swapsWith e (some t) l env = pure false := by
  rw [Bool.or_eq_true] at h
  rcases h with h | h
  · exact comp_sw h
  · cases t <;> first | (cases h; done) | (cases e <;> rfl)
theorem noSwap_ok {t e : Expr} {env : Env} (h : noSwap t e = true) : swappedStores [t] e env = pure none := by
  cases t with
  | Tuple ts k p =>
    cases e with
    | Tuple vs k' p' =>
      unfold noSwap at h
      rw [Bool.or_eq_true] at h
      unfold swappedStores
      simp only [pure_bind]
      rcases h with h | h
      · rw [if_pos (by rw [h]; rfl)]
      · split
        · rfl
        · split
          · rfl
          · split
            · rfl
            · first | rfl | rw [if_pos h]
    | _ => rfl
  | List _ _ => cases h
  | _ => cases e <;> rfl
theorem fm_less {α β : Type} {f : α → Option β} {p : α → Bool} (hp : ∀ a, p a = true → f a = none) : ∀ l : List α, l.any p = true → (l.filterMap f).length < l.length
  | [], h => by cases h
  | a :: l, h => by
    have le := List.length_filterMap_le f l
    rw [List.any_cons, Bool.or_eq_true] at h
    rcases h with h | h
    · rw [List.filterMap_cons, hp a h, List.length_cons]
      exact Nat.lt_succ_of_le le
    · have ih := fm_less hp l h
      rw [List.filterMap_cons, List.length_cons]
      split
      · exact Nat.lt_succ_of_lt ih
      · rw [List.length_cons]; exact Nat.succ_lt_succ ih
theorem cellTg_ok {z : Sc} {t e : Expr} {env : Env} (hs : env.scope = z.sc) (h : cellTg z t = true) : swappedStores [t] e env = pure none := by
  cases t with
  | Tuple ts k p =>
    cases e with
    | Tuple vs k' p' =>
      unfold cellTg at h
      unfold swappedStores
      simp only [pure_bind]
      split
      · rfl
      · split
        · rfl
        · rw [if_pos]
          rw [Bool.or_eq_true]
          refine .inl ?_
          rw [bne_iff_ne]
          refine Nat.ne_of_lt (fm_less (p := fun t => match t with | .Name x _ => !(z.sc.names.lookup x == some .local) | _ => false) (fun a ha => ?_) ts h)
          cases a with
          | Name x q =>
            have e1 : (z.sc.names.lookup x == some NameKind.local) = false := by simpa using ha
            show (if (env.kindOf x == some .local && _) = true then some x else none) = none
            have e2 : env.kindOf x = z.sc.names.lookup x := by unfold Env.kindOf; rw [hs]
            rw [e2, e1, Bool.false_and, if_neg Bool.false_ne_true]
          | _ => cases ha
    | _ => rfl
  | _ => cases h
theorem tup_sw {ts : List Expr} {k : Nat} {p : Pos} {e : Expr} {l : Nat} {env : Env} : swapsWithSole [.Tuple ts k p] e l env = pure false := by
  cases e <;> rfl
theorem asg_one {t : Expr} {env : Env} (h : nostar t = true) : (assignEach [t] env).map (·.2) = [assign t env] := by
  rw [asg_cons h]; rfl
theorem sub_assign {o i : Expr} {p : Pos} {env : Env} (h : noslice i = true) : ∀ v, assign (.Subscript o i p) env v = (do
      let ov ← (holding [v] (eval o env))
      let iv ← (holding [v, ov] (eval i env))
      standAt p
      (holding [v, ov, iv] (setItem ov iv v))
      release [v, ov, iv] []) := by
  intro v; cases i <;> first | rfl | (cases h; done)
theorem sole_sub {o i e : Expr} {p : Pos} {l : Nat} {env : Env} : swapsWithSole [.Subscript o i p] e l env = pure false := by cases e <;> rfl
theorem swst_sub {o i e : Expr} {p : Pos} {env : Env} : swappedStores [.Subscript o i p] e env = pure none := by cases e <;> rfl
/-- two or three names at once -/
theorem blockFn (G : GoodS T X N z) : X.env.blockKind = .function := by
  unfold Env.blockKind
  rw [G.g.hsc, G.kind]
  rfl
theorem loc_kind (G : GoodS T X N z) {x : Str} (h : z.sc.names.lookup x = some .local) : X.env.kindOf x = some .local := by
  show X.env.scope.names.lookup x = _
  rw [G.g.hsc]; exact h
theorem par_ok (G : GoodS T X N z) {is : List Nat} {ts vs : List Expr} {gs : WA} {k1 k2 : Nat} {p1 p2 pos : Pos} (h : parOk N z is ts vs = true) (ha : JA X vs gs) : JS X (.Assign [.Tuple ts k1 p1] (.Tuple vs k2 p2) pos) (wPar is gs) := by
  unfold parOk at h
  split at h
  · rename_i i j x px y py a b
    simp only [Bool.and_eq_true, decide_eq_true_eq, Bool.not_eq_true'] at h
    obtain ⟨⟨⟨⟨⟨⟨⟨⟨⟨⟨h1, h2⟩, h3⟩, h4⟩, h5⟩, h6⟩, h7⟩, h8⟩, h9⟩, h10⟩, h11⟩ := h
    have hx := loc_kind G h4
    have hy := loc_kind G h5
    have hw : swappedStores [.Tuple [.Name x px, .Name y py] k1 p1] (.Tuple [a, b] k2 p2) X.env = pure (some [x, y]) := by
      unfold swappedStores
      simp only [pure_bind]
      rw [if_neg (by rw [blockFn G]; simp)]
      split
      · rename_i hs
        exfalso
        simp only [List.any_cons, List.any_nil, Bool.or_false, Bool.or_eq_true] at hs
        rcases hs with hs | hs
        · cases a <;> first | (cases h8; done) | (cases hs; done)
        · cases b <;> first | (cases h9; done) | (cases hs; done)
      have hne : ¬ x = y := by simpa using h7
      have h6' : py.line = px.line := by simpa using h6
      have e3 : [x, y].eraseDups = [x, y] := by simp [List.eraseDups_cons, hne, Ne.symm hne]
      simp [List.filterMap_cons, hx, hy, h6', Expr.pos, e3, h10, h11]
    exact PS.imp (ps_par G.g.calm (by rw [G.g.hN]; exact G.g.nd) (by rw [G.g.hN]; exact h1) (by rw [G.g.hN]; exact h2) h3 hx hy ha hw rfl) fun E σ H ⟨ρ, S, G', re, rs, hq, k⟩ => by
      refine liftA.then re rs hq fun ds S1 xs H1 kk r1 s1 h1 => ?_
      obtain ⟨hl, hn⟩ := h1
      match ds, hl with
      | [d, e], _ =>
        obtain ⟨u, v, rfl, ru, rv⟩ := r1.two
        exact ⟨u, v, rfl, k.nx _ S1 _ H1 kk (((re.mono kk).set ru i).set rv j) s1 hn⟩
  · rename_i i j l x px y py u pu a b c
    simp only [Bool.and_eq_true, decide_eq_true_eq, Bool.not_eq_true'] at h
    obtain ⟨⟨⟨⟨⟨⟨⟨⟨⟨⟨⟨⟨⟨⟨⟨⟨⟨⟨h1, h2⟩, h3⟩, h4⟩, h5⟩, h6⟩, h7⟩, h8⟩, h9⟩, h10⟩, h11⟩, h12⟩, h13⟩, h14⟩, h15⟩, h16⟩, h17⟩, h18⟩, h19⟩ := h
    have hx := loc_kind G h7
    have hy := loc_kind G h8
    have hu := loc_kind G h9
    have hw : swappedStores [.Tuple [.Name x px, .Name y py, .Name u pu] k1 p1] (.Tuple [a, b, c] k2 p2) X.env = pure (some [x, y, u]) := by
      unfold swappedStores
      simp only [pure_bind]
      rw [if_neg (by rw [blockFn G]; simp)]
      split
      · rename_i hs
        exfalso
        simp only [List.any_cons, List.any_nil, Bool.or_false, Bool.or_eq_true] at hs
        rcases hs with hs | hs | hs
        · cases a <;> first | (cases h15; done) | (cases hs; done)
        · cases b <;> first | (cases h16; done) | (cases hs; done)
        · cases c <;> first | (cases h17; done) | (cases hs; done)
      have n1 : ¬ x = y := by simpa using h12
      have n2 : ¬ x = u := by simpa using h13
      have n3 : ¬ y = u := by simpa using h14
      have l1 : py.line = px.line := by simpa using h10
      have l2 : pu.line = px.line := by simpa using h11
      have e3 : [x, y, u].eraseDups = [x, y, u] := by simp [List.eraseDups_cons, n1, n2, n3, Ne.symm n1, Ne.symm n2, Ne.symm n3]
      simp [List.filterMap_cons, hx, hy, hu, l1, l2, Expr.pos, e3, h18, h19]
    exact PS.imp (ps_par3 G.g.calm (by rw [G.g.hN]; exact G.g.nd) (by rw [G.g.hN]; exact h1) (by rw [G.g.hN]; exact h2) (by rw [G.g.hN]; exact h3) h4 h5 h6 hx hy hu ha hw rfl) fun E σ H ⟨ρ, S, G', re, rs, hq, k⟩ => by
      refine liftA.then re rs hq fun ds S1 xs H1 kk r1 s1 h1 => ?_
      obtain ⟨hl, hn⟩ := h1
      match ds, hl with
      | [d, e, f], _ =>
        obtain ⟨u, r, rfl, ru, rr⟩ := r1.cons'
        obtain ⟨v, w', rfl, rv, rw'⟩ := rr.two
        exact ⟨u, v, w', rfl, k.nx _ S1 _ H1 kk ((((re.mono kk).set ru i).set rv j).set rw' l) s1 hn⟩
  · cases h
theorem fld_sw {e o : Expr} {f : Str} {p : Pos} {l : Nat} {env : Env} : swapsWith e (some (.Attribute o f p)) l env = pure false := by cases e <;> rfl
mutual
theorem chkS_ok : ∀ (g : GS) (W : XW) (hW : ∀ n d ρ S, ¬ W n d ρ S) (X : Cx) (N : List Str) (z : Sc) (s : Stmt), GoodS T X N z → chkS N z g s = true → JS X s (wS T W g)
  | .expr g, W, hW, X, N, z, s, G, h => by
    unfold chkS at h
    split at h
    · rw [Bool.and_eq_true] at h
      unfold wS
      exact js_expr (chk_ok g W hW X N z _ G.g h.1).e (comp_sw h.2)
    · cases h
  | .set tg g, W, hW, X, N, z, s, G, h => by
    unfold chkS at h
    split at h
    · rename_i t e pos
      (simp only [Bool.and_eq_true] at h)
      obtain ⟨⟨⟨⟨h1, h2⟩, h3⟩, h4⟩, h5⟩ := h
      unfold wS
      exact js_asg (chk_ok g W hW X N z _ G.g h2).e (jg_ok G.g tg t h1) (name_sw h3) ((Bool.or_eq_true _ _ ▸ h4 : noSwap t e = true ∨ cellTg z t = true).elim noSwap_ok (cellTg_ok G.g.hsc)) (asg_one h5)
    · cases h
  | .setLc i g, W, hW, X, N, z, s, G, h => by
    unfold chkS at h
    split at h
    · rename_i y py elt tg' it' ifs' scope pos spos
      (simp only [Bool.and_eq_true, decide_eq_true_eq] at h)
      obtain ⟨⟨⟨⟨h1, h2⟩, h3⟩, h4⟩, h5⟩ := h
      split at h5
      · rename_i own tg it c elt'
        simp only [Bool.and_eq_true, decide_eq_true_eq] at h5
        obtain ⟨⟨⟨⟨⟨⟨⟨a1, a2⟩, a3⟩, a4⟩, a5⟩, a6⟩, a7⟩, a8⟩ := h5
        have hWF : ∀ (n : Str) (d : D) (ρ : Ev) (S : Store), ¬ (fun _ _ _ _ => False : XW) n d ρ S := fun _ _ _ _ q => q
        unfold wS w
        exact js_setLc a2 G.g.calm (by rw [G.g.hN]; exact G.g.nd) (by rw [G.g.hN]; exact h1) (by rw [G.g.hsc]; exact h2) (sw_true (by rw [G.g.hsc]; exact G.kind) (by rw [G.g.hsc]; exact h2) h3 (by simpa using h4)) (chkI_ok it W hW X N z tg' it' G.g a5 a4) (blkC_ok G.g a1)
          (fun s H C cl fp => jg_ok (G.g.blk s H scope C cl fp) tg tg' a3) (fun s H C cl fp => chkC_ok c _ hWF _ N _ ifs' (G.g.blk s H scope C cl fp) a6)
          (fun s H C cl fp => (chk_ok elt' _ hWF _ N _ elt (G.g.blk s H scope C cl fp) a7).e) (noset_f a8)
      · cases h5
    · cases h
  | .setIx o i g, W, hW, X, N, z, s, G, h => by
    unfold chkS at h
    split at h
    · rename_i o' i' p e pos
      (simp only [Bool.and_eq_true] at h)
      obtain ⟨⟨⟨⟨h1, h2⟩, h3⟩, h4⟩, h5⟩ := h
      unfold wS
      exact js_setIx (by have := G.g.room; omega) (chk_ok o W hW X N z _ G.g h1).e (chk_ok i W hW X N z _ G.g h2).e (chk_ok g W hW X N z _ G.g h3).e (sub_assign h4) sole_sub swst_sub rfl
    · cases h
  | .setFld o f g, W, hW, X, N, z, s, G, h => by
    unfold chkS at h
    split at h
    · obtain ⟨h1, h2, h3⟩ := orL h
      have := of_decide_eq_true h1; subst this
      unfold wS
      exact js_setFld G.g.fld (chk_ok o W hW X N z _ G.g h2).e (chk_ok g W hW X N z _ G.g h3).e fld_sw
    · cases h
  | .par is es, W, hW, X, N, z, s, G, h => by
    unfold chkS at h
    split at h
    · rw [Bool.and_eq_true] at h
      unfold wS
      exact par_ok G h.1 (chks_ok es W hW X N z _ G.g h.2).1
    · cases h
  | .ret g, W, hW, X, N, z, s, G, h => by
    unfold chkS at h
    split at h
    · unfold wS; exact js_ret (chk_ok g W hW X N z _ G.g h).e
    · cases h
  | .retN, W, hW, X, N, z, s, G, h => by
    unfold chkS at h
    split at h
    · unfold wS; exact js_retN
    · cases h
  | .if_ c t u, W, hW, X, N, z, s, G, h => by
    unfold chkS at h
    split at h
    · simp only [Bool.and_eq_true] at h
      (obtain ⟨⟨⟨h1, h2⟩, h3⟩, h4⟩ := h)
      unfold wS
      exact js_if ((chk_ok c W hW X N z _ G.g h1).t h2) (chkB_ok t W hW X N z _ G h3) (chkB_ok u W hW X N z _ G h4)
    · cases h
  | .for_ tg it b, W, hW, X, N, z, s, G, h => by
    unfold chkS at h
    split at h
    · rename_i t' it' b' pos
      (simp only [Bool.and_eq_true] at h)
      obtain ⟨⟨⟨⟨h1, h2⟩, h3⟩, h4⟩, h5⟩ := h
      unfold wS
      exact js_for G.hp G.g.calm (chkI_ok it W hW X N z t' it' G.g h3 h2) (jg_ok G.g tg t' h1) (chkB_ok b W hW X N z _ G h4) (noset_f h5)
    · cases h
  | .while_ c b, W, hW, X, N, z, s, G, h => by
    unfold chkS at h
    split at h
    · simp only [Bool.and_eq_true] at h
      obtain ⟨⟨h1, h2⟩, h3⟩ := h
      unfold wS
      exact js_while G.hp ((chk_ok c W hW X N z _ G.g h1).t h2) (chkB_ok b W hW X N z _ G h3)
    · cases h
  | .brk, W, hW, X, N, z, s, G, h => by
    unfold chkS at h
    split at h
    · unfold wS; exact js_break
    · cases h
  | .cont, W, hW, X, N, z, s, G, h => by
    unfold chkS at h
    split at h
    · unfold wS; exact js_continue
    · cases h
  | .pass, W, hW, X, N, z, s, G, h => by
    unfold chkS at h
    split at h
    · unfold wS; exact js_pass
    · cases h
  | .aug i o g, W, hW, X, N, z, s, G, h => by
    unfold chkS at h
    split at h
    · rename_i x p o' e pos
      simp only [Bool.and_eq_true, decide_eq_true_eq, Bool.or_eq_true, beq_iff_eq] at h
      obtain ⟨⟨⟨⟨h1, h2⟩, rfl⟩, h4⟩, h5⟩ := h
      have A := (chk_ok g W hW X N z _ G.g h4).e
      have hl : X.env.scope.names.lookup x = some .local := by rw [G.g.hsc]; exact h2
      unfold wS
      rcases h5 with rfl | rfl
      · refine PS.imp (ps_aug (by rw [G.g.hN]; exact G.g.nd) (by rw [G.g.hN]; exact h1) (.inl hl) A ip_add (.inr hl)) fun E σ H ⟨ρ, S, G', re, rs, ⟨d, hd, hq⟩, k⟩ => ?_
        obtain ⟨v, hv, rv⟩ := re.2 i d hd
        refine ⟨v, hv, liftE.then re rs hq fun e S1 y H1 k1 r1 s1 h1 => ?_⟩
        unfold augD at h1
        split at h1
        · simp only [Rp] at rv r1; subst rv; subst r1
          exact ⟨_, _, rfl, rfl, k.nx _ S1 _ H1 k1 ((re.mono k1).set (rp_int _) i) s1 h1⟩
        · exact absurd (show Operator.Add = Operator.Sub by assumption) (by decide)
        · exact h1.elim
      · refine PS.imp (ps_aug (by rw [G.g.hN]; exact G.g.nd) (by rw [G.g.hN]; exact h1) (.inl hl) A ip_sub (.inr hl)) fun E σ H ⟨ρ, S, G', re, rs, ⟨d, hd, hq⟩, k⟩ => ?_
        obtain ⟨v, hv, rv⟩ := re.2 i d hd
        refine ⟨v, hv, liftE.then re rs hq fun e S1 y H1 k1 r1 s1 h1 => ?_⟩
        unfold augD at h1
        split at h1
        · exact absurd (show Operator.Sub = Operator.Add by assumption) (by decide)
        · simp only [Rp] at rv r1; subst rv; subst r1
          exact ⟨_, _, rfl, rfl, k.nx _ S1 _ H1 k1 ((re.mono k1).set (rp_int _) i) s1 h1⟩
        · exact h1.elim
    · cases h
  | .dead, W, hW, X, N, z, s, G, h => by
    unfold wS; exact js_never
theorem chkB_ok : ∀ (b : GB) (W : XW) (hW : ∀ n d ρ S, ¬ W n d ρ S) (X : Cx) (N : List Str) (z : Sc) (ss : List Stmt), GoodS T X N z → chkB N z b ss = true → JSs X ss (wB_ T W b)
  | .nil, W, hW, X, N, z, ss, G, h => by
    unfold chkB at h
    split at h
    · unfold wB_; exact jss_nil
    · cases h
  | .cons g b, W, hW, X, N, z, ss, G, h => by
    unfold chkB at h
    split at h
    · rw [Bool.and_eq_true] at h
      unfold wB_
      exact jss_cons (chkS_ok g W hW X N z _ G h.1) (chkB_ok b W hW X N z _ G h.2)
    · cases h
end
end
end GL
end

-- G15
section
namespace GL
open PyProof.Rows PySem PySem.Spec L2

/-! ### a whole module of defs -/
/-- a statement of a class's body -/
def inCls (s : Stmt) (j : Nat) : Stmt := match s with
  | .ClassDef _ _ _ body _ _ _ _ _ _ _ => (body.getD j (.Pass ⟨0, 0, 0, 0⟩))
  | _ => .Pass ⟨0, 0, 0, 0⟩
structure Df where
  name : Str
  st : Stmt
  ps : List Str
  N : List Str
  kl : List (Nat × List Str)
  body : GB
  c : Nat → GSp
  /-- a method: of which class, its name there -/
  mth : Option (Str × Str) := none
def Df.code (d : Df) : Str := match d.mth with
  | none => d.name
  | some (_, m) => m
def lvl (d : Df) : Nat → GSp
  | 0 => fun _ _ _ _ => False
  | n + 1 => d.c n
def newAt (ds : List Df) (n : Nat) (C : Str) : Option Fn := match n with
  | 0 => none
  | m + 1 => (ds.find? fun d => decide (d.mth = some (C, ("__init__" : Str)))).map fun d => ⟨d.ps, d.kl, lvl d m⟩
def tbl (ds : List Df) (vals : Str → Option D) (fl : Str → Str → Bool) (n : Nat) : Tb where
  fn := fun x => (ds.find? fun d => decide (d.name = x) && d.mth.isNone).map fun d => ⟨d.ps, d.kl, lvl d n⟩
  val := vals
  cls := fl
  mt := fun C m => (ds.find? fun d => decide (d.mth = some (C, m))).map fun d => ⟨d.ps, d.kl, lvl d n⟩
  nw := newAt ds n
def initE (N : List Str) (ds : List D) : Ev := ds.map some ++ List.replicate (N.length - ds.length) none
/-- the ends of a def: what is new may be forgotten -/
def fnEnd (Q : GQ) : GEnd where
  nx := fun _ S => ∃ S0, (∀ a c, S0 a = some c → S a = some c) ∧ Q .non S0
  rt := fun d S => ∃ S0, (∀ a c, S0 a = some c → S a = some c) ∧ Q d S0
theorem Rps.initE {M : Md} {H : Hp} {N : List Str} {ds : List D} {vs : List V} (r : Rps M H ds vs) : Re M H (GL.initE N ds) (L2.start N vs) := by
  have hl := r.length
  refine ⟨by unfold GL.initE L2.start; simp [hl], fun i d e => ?_⟩
  unfold GL.initE at e
  unfold L2.start
  by_cases hi : i < ds.length
  · rw [List.getElem?_append_left (by simpa using hi), List.getElem?_map] at e
    rw [List.getElem?_append_left (by simpa [hl] using hi), List.getElem?_map]
    cases q : ds[i]? with
    | none => (rw [q] at e; cases e)
    | some d' =>
      rw [q] at e; cases e
      obtain ⟨v, h1, h2⟩ := r.get q
      exact ⟨v, by rw [h1]; rfl, h2⟩
  · rw [List.getElem?_append_right (by simpa using hi), List.getElem?_replicate] at e
    split at e <;> cases e
def noW : XW := fun _ _ _ _ => False
section
variable {P : Program}
variable {w : World}
variable {K : PySem.W.Frag}
variable {mg : Str → Option Value}
variable {base : Heap}
/-- the def stands in the module, or in a class of it -/
def PlaceAt (K : PySem.W.Frag) (mg : Str → Option Value) (d : Df) (fa : Addr) : Prop := match d.mth with
  | none => mg d.name = some (.ref fa)
  | some (C, m) => ∃ c, mg C = some (.ref c) ∧ Cls K c ∧ Meth K c m fa ∧ (m = "__init__" → Mk K c fa)
structure DefAt (K : PySem.W.Frag) (mg : Str → Option Value) (d : Df) (fa : Addr) (fd : FuncData) : Prop where
  fn : Fun K d.code d.name d.st fa fd
  at_ : PlaceAt K mg d fa
  bd : Binds K fd d.ps []
  kb : ∀ n ks, (n, ks) ∈ d.kl → KBinds K fd d.ps ks (ordL Value.none n d.ps ks) (ordL V.non n d.ps ks)
/-- the text of a def is what its small text says -/
structure TextOk (d : Df) : Prop where
  sc : FnScope d.N d.ps (defScope d.st)
  chk : chkB d.N ⟨defScope d.st, fun _ => true⟩ d.body (defBody d.st) = true
theorem prog_ok (hsys : ∃ o es ep, base.get? sysModules = some o ∧ o.data = .dict es ep) {ds : List Df} {vals : Str → Option D} {fl : Str → Str → Bool} (hat : ∀ d ∈ ds, ∃ fa fd, DefAt K mg d fa fd) (htx : ∀ d ∈ ds, TextOk d)
    (hval : ∀ x d, vals x = some d → ∃ u v, mg x = some u ∧ L2.RelV v u ∧ ∀ H, Rp ⟨K, mg⟩ H d v)
    (hfl : ∀ C f, fl C f = true → ∃ c, mg C = some (.ref c) ∧ Cls K c ∧ NoAttr K c f)
    (hfree : ∀ x, x ∈ (["len", "isinstance", "int", "list", "tuple", "all", "any", "max", "min", "sum", "sorted", "str", "dict", "range", "enumerate", "zip", "bool", "repr", "set"] : List Str) → mg x = none)
    (hc : ∀ d ∈ ds, ∀ n args S Q E, d.c n args S Q E → wB_ (tbl ds vals fl n) noW d.body (fnEnd Q) (initE d.N args) S) :
    ∀ n, ∀ d ∈ ds, ∀ fa fd, DefAt K mg d fa fd → FnOkG P w K mg base CX0 n fa fd d.ps (liftSp ⟨K, mg⟩ d.ps (lvl d n)) := by
  intro n
  induction (n) using Nat.strongRecOn with
  | _ n0 ih0 =>
  cases n0 with
  | zero =>
    intro d hd fa fd hD
    exact ⟨fun vs H Q E h => h.1, fun A outer s H args us vs Q E hr he hb hv h => by obtain ⟨_, _, _, _, _, _, _, h, _⟩ := h; exact h.elim⟩
  | succ n =>
    have ih := ih0 n (Nat.lt_succ_self n)
    intro d hd fa fd hD
    refine GL.Fun.okG hD.fn (htx d hd).sc (fun vs H Q E h => h.1) fun cdv A outer s H vs Q E hr h => ?_
    obtain ⟨hlen, ds', S, G, E', r, rs, hcc, k, _⟩ := h
    have hT := htx d hd
    have good : GoodS (tbl ds vals fl n) (cxOf CX0 P w K mg base d.N d.name (defScope d.st) fa cdv A outer s H E).nox d.N ⟨defScope d.st, fun _ => true⟩ := by
      refine ⟨⟨rfl, rfl, fun _ _ => rfl, hT.sc.nd, rfl, ?_, hr.gd, hsys, fun x F hx => ?_, hval, fun C f hf => ⟨hfl C f hf⟩, fun C m F hx => ?_, fun C F hx => ?_, hfree⟩, PassesOwn.never, hT.sc.kind⟩
      · have := hr.r.un
        show (A.deeper _).units + 62 < cLine
        omega
      · have hx' : ((ds.find? fun d => decide (d.name = x) && d.mth.isNone).map fun d => (⟨d.ps, d.kl, lvl d n⟩ : Fn)) = some F := hx
        cases e : ds.find? (fun d => decide (d.name = x) && d.mth.isNone) with
        | none => rw [e] at hx'; cases hx'
        | some d' =>
          rw [e] at hx'
          cases hx'
          have hm := List.mem_of_find?_eq_some e
          have hn := List.find?_some e
          rw [Bool.and_eq_true, decide_eq_true_eq, Option.isNone_iff_eq_none] at hn
          obtain ⟨fa', fd', hD'⟩ := hat d' hm
          have hp := hD'.at_
          unfold PlaceAt at hp
          rw [hn.2] at hp
          exact ⟨fa', fd', n, by rw [← hn.1]; exact hp, hD'.fn.kp, hD'.bd, hD'.kb, ih d' hm fa' fd' hD', hr⟩
      · have hx' : ((ds.find? fun d => decide (d.mth = some (C, m))).map fun d => (⟨d.ps, d.kl, lvl d n⟩ : Fn)) = some F := hx
        cases e : ds.find? (fun d => decide (d.mth = some (C, m))) with
        | none => rw [e] at hx'; cases hx'
        | some d' =>
          rw [e] at hx'
          cases hx'
          have hm := List.mem_of_find?_eq_some e
          have hn := List.find?_some e
          rw [decide_eq_true_eq] at hn
          obtain ⟨fa', fd', hD'⟩ := hat d' hm
          have hp := hD'.at_
          unfold PlaceAt at hp
          rw [hn] at hp
          obtain ⟨c, h1, h2, h3, _⟩ := hp
          exact ⟨c, fa', fd', n, h1, h2, h3, hD'.bd, ih d' hm fa' fd' hD', hr⟩
      · cases n with
        | zero => cases hx
        | succ n =>
          have hx' : ((ds.find? fun d => decide (d.mth = some (C, ("__init__" : Str)))).map fun d => (⟨d.ps, d.kl, lvl d n⟩ : Fn)) = some F := hx
          cases e : ds.find? (fun d => decide (d.mth = some (C, ("__init__" : Str)))) with
          | none => rw [e] at hx'; cases hx'
          | some d' =>
            rw [e] at hx'
            cases hx'
            have hm := List.mem_of_find?_eq_some e
            have hn := List.find?_some e
            rw [decide_eq_true_eq] at hn
            obtain ⟨fa', fd', hD'⟩ := hat d' hm
            have hp := hD'.at_
            unfold PlaceAt at hp
            rw [hn] at hp
            obtain ⟨c, h1, h2, h3, h4⟩ := hp
            exact ⟨c, fa', fd', n, h1, h4 rfl, hD'.bd, ih0 n (by omega) d' hm fa' fd' hD', hr⟩
    refine ⟨liftS ⟨K, mg⟩ (wB_ (tbl ds vals fl n) noW d.body), (chkB_ok d.body noW (fun _ _ _ _ q => q) _ d.N _ (defBody d.st) good hT.chk).nox, ?_⟩
    refine ⟨initE d.N ds', S, fnEnd G, r.initE, rs, hc d hd n ds' S G E' hcc, ⟨fun ρ' S' σ' H' k' re' rs' ⟨S0, hs, hg⟩ => ?_, fun x S' v H' k' r' rs' ⟨S0, hs, hg⟩ => ?_, fun _ _ _ _ _ _ _ q => q.elim, fun _ _ _ _ _ _ _ q => q.elim⟩⟩
    · exact k .non S0 .non H' k' (by simp only [Rp]) (rs'.sub hs) hg
    · exact k x S0 v H' k' r' (rs'.sub hs) hg
end
/-! ### the law -/
/-- what is shown of the law's def: from any script of at most n ints, True -/
def lawC (most need : Nat) : Nat → GSp := fun n ds S Q _ => need ≤ n ∧ ∃ ns : List Int, ds = [.frl (ns.map D.int)] ∧ ns.length ≤ most ∧ ∀ S', Q (.bl true) S'
theorem frl_of {K : PySem.W.Frag} {H : Hp} {a : Addr} {xs : List V} (hO : Only H) (h : SqL K H a xs) : FrL K H a xs := by
  rcases h with (h | h) | h
  · rcases hO a with z | ⟨o, ys, z⟩
    · rw [h] at z; cases z
    · rw [h] at z; cases z
  · exact .inl h
  · exact .inr h
end GL
end

-- GE
section
namespace GL
open PyProof.Rows PySem PySem.Spec L2
/-- the law's def runs from the caller's place: the promise with guards known is enough -/
theorem lawCallG {P : Program} {w : World} {K : PySem.W.Frag} {mg mb : Str → Option Value} {CX : CXT} {k : Nat} {fa a : Addr} {fd : FuncData} {x : Str} {sp : Sp} {s : Shared} {vs : List Value} {ns : List Int}
    (KX : K.In s.heap) (hg : s.heap.Ns mainGlobals mg) (hb : s.heap.Ns builtinsNs mb) (hbb : ∀ y : Str, y ≠ "__name__" → mb y = bootBuiltins y) (hlim : s.heap.NoLimit) (hsys : ∃ mm, s.heap.Ns sysModules mm) (hgen : s.gens = #[])
    (ha : s.heap.get? a = some { cls := .type "list", data := .seq vs.toArray }) (hi : IntsAre vs ns) (hl : ns.length ≤ sizeLine) (hr : Room k callerA)
    (F : ∀ base : Heap, K.In base → base.Ns mainGlobals mg → (∃ o es ep, base.get? sysModules = some o ∧ o.data = .dict es ep) → FnOkG P w K mg base CX k fa fd [x] sp) (hbind : ∀ (s : Shared) (u : Value), BindsTo s fd ⟨[u], []⟩ [(x, u)]) (hsp : ∀ H : Hp, Only H → SqL K H a (ns.map V.int) → sp [.ref a] H (fun v _ => v = .bl true) fun _ _ _ => False)
    (hCX : ∀ H e s', CX [] H s (fun _ _ _ => False) e s' → False) :
    codeAny (model P w) callerA (.call (.ref fa) ⟨[.ref a], []⟩) (fun r s' => r = .ok (.ret (.bool true)) ∧ OldK s.heap s'.heap ∧ s'.os = s.os ∧ AllBare s'.gens) s := by
  have main : ∀ H : Hp, Only H → SqL K H a (ns.map V.int) → HOk P w H s.heap → (∀ b, H b ≠ none → b = a) → (H a ≠ none → K.lookup a = none) →
      codeAny (model P w) callerA (.call (.ref fa) ⟨[.ref a], []⟩) (fun r s' => r = .ok (.ret (.bool true)) ∧ OldK s.heap s'.heap ∧ s'.os = s.os ∧ AllBare s'.gens) s := by
    intro H hO hS hok hA hK
    have at_ : ∀ {b : Addr} {o : Obj}, s.heap.get? b = some o → H b = none → (hidT s.heap H).get? b = some o := fun e n => hidT_get e n
    have dictOff : ∀ {b : Addr} {o : Obj} {es : Array DictEntry} {ep : Nat}, s.heap.get? b = some o → o.data = .dict es ep → H b = none := fun {b o es ep} e d => Classical.byContradiction fun q => by
      obtain rfl := hA b q
      rw [ha] at e
      cases e
      exact nomatch (show Data.seq vs.toArray 0 = Data.dict es ep from d)
    have nsOf : ∀ {b : Addr} {m : Str → Option Value}, s.heap.Ns b m → (hidT s.heap H).Ns b m := fun {b m} q => by
      obtain ⟨o, es, ep, e, d, r⟩ := q
      exact ⟨o, es, ep, at_ e (dictOff e d), d, r⟩
    have KB : K.In (hidT s.heap H) := fun b o e => at_ (KX b o e) (Classical.byContradiction fun q => by
      obtain rfl := hA b q
      rw [hK q] at e; cases e)
    have MB : Mod K mg (hidT s.heap H) := ⟨KB, nsOf hg, ⟨mb, nsOf hb, hbb⟩, by obtain ⟨mc, h1, h2⟩ := hlim; exact ⟨mc, nsOf h1, h2⟩⟩
    have SB : ∃ o es ep, (hidT s.heap H).get? sysModules = some o ∧ o.data = .dict es ep := by
      obtain ⟨mm, o, es, ep, e, d, r⟩ := hsys
      exact ⟨o, es, ep, at_ e (dictOff e d), d⟩
    have e0 : Env0 P w K mg (hidT s.heap H) callerA [] s H := ⟨rfl, MB, fun b o e => of_hidT e, Nat.le_of_eq (hidT_size _ _), trivial, (fun b hb => by cases (show b ∈ ([] : List Addr) from hb)), hok, .of_eq hgen⟩
    refine codeAny_mono ((F _ KB (nsOf hg) SB).run callerA [] s H ⟨[.ref a], []⟩ [.ref a] [.ref a] _ _ ⟨hr, rfl⟩ e0 (hbind s (.ref a)) (.cons rfl .nil) (hsp H hO hS)) fun r s' h => ?_
    rcases r with e | fl
    · exact (hCX H e s' h).elim
    · cases fl with
      | ret u =>
        obtain ⟨v, H', os, bare, un, hok', rv, q⟩ := h
        obtain rfl : v = .bl true := q
        obtain rfl : u = Value.bool true := rv
        (refine ⟨rfl, OldK.of_keep fun b o e => ?_, os, bare⟩)
        by_cases q : H b = none
        · exact un.keep b o e q (fun z => by cases (show b ∈ ([] : List Addr) from z)) (by simp)
        · rcases hO b with z | ⟨ob, xs, z⟩
          · exact absurd z q
          · obtain ⟨e1, _⟩ := hok b _ z
            obtain ⟨e2, _⟩ := hok' b _ (un.frzs b ob _ z)
            rw [e] at e1; cases e1
            exact e2
      | next => exact False.elim h
      | brk => exact False.elim h
      | cont => exact False.elim h
  have rv := vals_ints hi
  cases hk : K.lookup a with
  | some o =>
    have e := KX a o hk
    rw [ha] at e
    cases e
    exact main (fun _ => none) (fun _ => .inl rfl) (.inr ⟨_, vs.toArray, _, hk, rfl, rfl, rfl, by rw [List.size_toArray, hi.length]; exact hl, by simpa using rv⟩) (fun b u z => by cases (show (none : Option HO) = some u from z)) (fun b z => absurd rfl z) fun z => absurd rfl z
  | none =>
    have eq1 : ∀ b, (fun b => if b = a then some (HO.frz { cls := .type "list", data := .seq vs.toArray } (.lst (ns.map V.int))) else none) b = if b = a then some (HO.frz { cls := .type "list", data := .seq vs.toArray } (.lst (ns.map V.int))) else none := fun _ => rfl
    refine main (fun b => if b = a then some (HO.frz { cls := .type "list", data := .seq vs.toArray } (.lst (ns.map V.int))) else none) (fun b => ?_) (.inl (.inr ⟨_, if_pos rfl⟩)) (fun b u z => ?_) (fun b z => Classical.byContradiction fun q => z (if_neg q)) fun _ => hk
    · by_cases q : b = a
      · exact .inr ⟨_, _, if_pos q⟩
      · exact .inl (if_neg q)
    · by_cases q : b = a
      · have z2 := (if_pos q).symm.trans z
        cases z2
        subst q
        (exact ⟨ha, by rw [List.length_map]; exact hl, vs, _, rv, ha⟩)
      · have z2 := (if_neg q).symm.trans z
        cases z2
/-- the walk of a law from its def's promise, guards known -/
theorem walkG {l : PySem.W.OpenLaw} {n k : Nat} {q : Program} {loose : List Str} {XP : (Str → Option Value) → Heap → Prop} {YP : World → Heap → Prop} {d : DefRec} {CX : CXT} {x : Str}
    (hn : l.most = some n) (hn2 : n ≤ sizeLine) (hdf : d.params.defaults = []) (hr : Room k callerA) (him : importsNone q = true) (F : ∀ (w : World) (mg : Str → Option Value) (fa : Addr) (h : Heap), YP w h → h.Ns mainGlobals mg → mg d.name = some (.ref fa) → ∃ (K : PySem.W.Frag) (fd : FuncData) (sp : Sp), K.In h ∧ (∀ (s : Shared) (u : Value), BindsTo s fd ⟨[u], []⟩ [(x, u)]) ∧ (∀ (H : Hp) (a : Addr) (ns : List Int), ns.length ≤ n → Only H → SqL K H a (ns.map V.int) → sp [.ref a] H (fun v _ => v = .bl true) fun _ _ _ => False) ∧
        ∀ base : Heap, K.In base → base.Ns mainGlobals mg → (∃ o es ep, base.get? sysModules = some o ∧ o.data = .dict es ep) → FnOkG l.prog w K mg base CX k fa fd [x] sp) (hCX : ∀ (H : Hp) (s : Shared) (e : Value) (s' : Shared), CX [] H s (fun _ _ _ => False) e s' → False) : PySem.W.WalkO q loose XP YP l.row.toRowW d [] (fun f vs => PySem.call f vs) :=
  Att.attach_call hn hdf fun w s0 s1 mg mb fa o pm cd doc a vs ns G Y ho hd hcd hmg hobj hints hlen hg => by
    (obtain ⟨K, fd, sp, KX, hb, hsp, hF⟩ := F w mg fa _ Y G.T.g hmg)
    obtain ⟨mm, hmm, _⟩ := (G.T.seer him).mods
    exact lawCallG KX G.T.g G.T.b G.T.builtins G.T.nolimit ⟨mm, hmm⟩ hg hobj hints (Nat.le_trans hlen hn2) hr hF hb (fun H hO hS => hsp H a ns hlen hO hS) fun H e s' => hCX H s1 e s'
end GL
end

-- GF
section
namespace GL
open PyProof.Rows PySem PySem.Spec L2
theorem funOf {K : PySem.W.Frag} {x q : Str} {st : Stmt} {f : Addr} {fd : FuncData} (F : FunD K x q (defArgs st) (defBody st) (defScope st) [] [] f fd) : L2.Fun K x q st f fd := by
  obtain ⟨oc, od, dV, kV, doc, pm, an, cdv, ct, osl, e, lk, hcd, hd, hk⟩ := F.ex
  obtain rfl : dV = .none := by
    rcases hd with ⟨_, h⟩ | ⟨h, _⟩
    · exact h
    · exact absurd rfl h
  exact ⟨⟨oc, od, kV, doc, pm, an, cdv, ct, osl, e, lk, hcd⟩, F.kp⟩
theorem vals_lookup : ∀ {ks : List Str} {zs : List V} {ws : List Value} {p : Str}, Vals zs ws → L2.RelV (((ks.zip zs).lookup p).getD V.non) (((ks.zip ws).lookup p).getD Value.none)
  | [], _, _, _, _ => rfl
  | k :: ks, _, _, _, .nil => rfl
  | k :: ks, _, _, p, .cons r t => by
    simp only [List.zip_cons_cons, List.lookup_cons]
    split
    · exact r
    · exact vals_lookup t
theorem ord_rel {n : Nat} {ps ks : List Str} {vs zs : List V} {us ws : List Value} (r : Vals vs us) (t : Vals zs ws) : Vals (ordL V.non n ps ks vs zs) (ordL Value.none n ps ks us ws) := by
  unfold ordL
  rw [r.length, t.length]
  split
  · refine r.append ?_
    generalize ps.drop n = qs
    induction qs with
    | nil => exact .nil
    | cons q qs ih => exact .cons (vals_lookup t) ih
  · exact .nil
/-- how a def with one parameter binds it by its name -/
theorem kb1 {K : PySem.W.Frag} {fd : FuncData} {p : Str} (h : ∀ u : Value, bindArgs fd ⟨[], [(p, u)]⟩ = pure [(p, u)]) : KBinds K fd [p] [p] (ordL Value.none 0 [p] [p]) (ordL V.non 0 [p] [p]) := by
  refine ⟨fun s us ws _ hl => ?_, fun r t => ord_rel r t⟩
  unfold ordL at hl ⊢
  split at hl
  · rename_i hc
    obtain ⟨h1, h2⟩ := hc
    match us, ws, h1, h2 with
    | [], [u], _, _ =>
      rw [if_pos ⟨rfl, rfl⟩]
      have e : (List.lookup p ([p].zip [u])).getD Value.none = u := by simp
      show BindsTo s fd ⟨[], [(p, u)]⟩ [(p, (List.lookup p ([p].zip [u])).getD Value.none)]
      rw [e]
      exact .of_eq (h u)
  · cases hl
end GL
end

-- GH
section
namespace GL
open PyProof.Rows PySem PySem.Spec L2
/-! ### the head of a module of defs and constants -/
/-- a constant: an int, a text, a row of texts -/
inductive CD where
  | int (i : Int) | str (z : Str) | tup (zs : List Str)
def CD.d : CD → D
  | .int i => .int i
  | .str z => .str z
  | .tup zs => .tup (zs.map D.str)
def CD.fa (x : Str) : CD → He.Fa
  | .int i => .int x i
  | .str z => .str x z
  | .tup _ => .glo x
def CD.tu (x : Str) : CD → List (Str × List He.Dv)
  | .tup zs => [(x, zs.map He.Dv.str)]
  | _ => []
/-- a written tuple without a dict of its own -/
def tupN (K : PySem.W.Frag) (x : Str) : Bool := match K.lookup (He.ga K x) with
  | some o => o.dict.isNone
  | none => false
abbrev AlV : Type := He.AlD × Bool
def obsV (fa : List He.Fa) (fn : List He.DefD) (tu : List (Str × List He.Dv)) (K : PySem.W.Frag) : AlV := (He.obsD fa fn K, tu.all fun t => He.tupB K t.1 t.2 && tupN K t.1)
def valV (fn : List He.DefD) : AlV := (He.valD fn, true)
def SaysV (fa : List He.Fa) (fn : List He.DefD) (tu : List (Str × List He.Dv)) (K : PySem.W.Frag) : Prop := obsV fa fn tu K = valV fn
def obsVG (n : Nat) (fa : List He.Fa) (fn : List He.DefD) (tu : List (Str × List He.Dv)) (g : Addr → Option Obj) : AlV := obsV fa fn tu (He.frG g (He.asD g n))
def hookV (n : Nat) (fa : List He.Fa) (fn : List He.DefD) (tu : List (Str × List He.Dv)) : PySem.W.Hook where
  α := AlV
  obs := fun s => obsVG n fa fn tu s.heap.get?
  val := fun _ => valV fn
  says := fun _ h => ∃ K : PySem.W.Frag, K.In h ∧ SaysV fa fn tu K
  of := fun _ _ e => ⟨_, He.frG_in, e⟩
  keeps := (fun _ _ _ ⟨K, hK, c⟩ k => ⟨K, PySem.W.Frag.In.keeps hK k, c⟩)
theorem obsVG_eq {n : Nat} {fa : List He.Fa} {fn : List He.DefD} {tu : List (Str × List He.Dv)} {g : Addr → Option Obj} {s : Shared} (h : ∀ a, g a = s.heap.get? a) : obsVG n fa fn tu g = (hookV n fa fn tu).obs s := by
  (have e : g = s.heap.get? := funext h)
  rw [e] <;> rfl
section
variable {fa : List He.Fa} {fn : List He.DefD} {tu : List (Str × List He.Dv)} {K : PySem.W.Frag}
theorem SaysV.d (c : SaysV fa fn tu K) : He.SaysD fa fn K := congrArg (fun z : AlV => z.1) c
theorem SaysV.fact (c : SaysV fa fn tu K) {f : He.Fa} (h : f ∈ fa) : f.ok K = true := by
  obtain ⟨i, hi⟩ := List.mem_iff_getElem?.mp h
  exact c.d.fact i hi
theorem SaysV.fun_ (c : SaysV fa fn tu K) {d : He.DefD} (h : d ∈ fn) : ∃ fd, FunD K d.name d.qual d.params d.body d.scope (d.dvs K) (d.kws K) (He.fAd K d.at_) fd := by
  obtain ⟨i, hi⟩ := List.mem_iff_getElem?.mp h
  exact c.d.def_ i hi
theorem SaysV.tup (c : SaysV fa fn tu K) {t : Str × List He.Dv} (h : t ∈ tu) : He.tupB K t.1 t.2 = true ∧ tupN K t.1 = true := by
  have e : (tu.all fun t => He.tupB K t.1 t.2 && tupN K t.1) = true := congrArg (fun z : AlV => z.2) c
  exact Bool.and_eq_true_iff.mp (List.all_eq_true.mp e t h)
end
def Df.place (d : Df) : Str × Option Str := match d.mth with
  | none => (d.name, none)
  | some (C, m) => (C, some m)
def toDef (d : Df) : He.DefD := ⟨d.place, d.code, d.name, defArgs d.st, defBody d.st, defScope d.st, [], []⟩
def Df.facts (d : Df) : List He.Fa := match d.mth with
  | none => [.glo d.name]
  | some (C, m) => [.glo C, .cls C, .meth C m] ++ (if m = "__init__" then [.mkr C] else [])
def flOf (l : List (Str × Str)) : Str → Str → Bool := fun C f => decide ((C, f) ∈ l)
def flFacts (l : List (Str × Str)) : List He.Fa := l.flatMap fun p => [.glo p.1, .cls p.1, .noat p.1 p.2]
def freeNames : List Str := ["len", "isinstance", "int", "list", "tuple", "all", "any", "max", "min", "sum", "sorted", "str", "dict", "range", "enumerate", "zip", "bool", "repr", "set"]
def factsOf (ds : List Df) (cs : List (Str × CD)) (fl : List (Str × Str)) : List He.Fa := ds.flatMap Df.facts ++ freeNames.map He.Fa.free ++ cs.map (fun q => q.2.fa q.1) ++ flFacts fl
def tupsOf (cs : List (Str × CD)) : List (Str × List He.Dv) := cs.flatMap fun q => q.2.tu q.1
def valsOf (cs : List (Str × CD)) : Str → Option D := fun x => (cs.lookup x).map CD.d
/-- how a def binds -/
structure DfOk (d : Df) : Prop where
  tx : TextOk d
  bd : ∀ (kV doc pm : Value) (an : Option Addr) (cdv ct : Value) (us : List Value), us.length = d.ps.length → bindArgs (PySem.W.fnOf d.code d.name (defArgs d.st) (defBody d.st) (defScope d.st) .none kV doc pm an cdv ct) ⟨us, []⟩ = pure (d.ps.zip us)
  kb : ∀ n ks, (n, ks) ∈ d.kl → d.ps ≠ [] ∧ ∀ (kV doc pm : Value) (an : Option Addr) (cdv ct : Value) (us ws : List Value), us.length = n → ws.length = ks.length →
    bindArgs (PySem.W.fnOf d.code d.name (defArgs d.st) (defBody d.st) (defScope d.st) .none kV doc pm an cdv ct) ⟨us, ks.zip ws⟩ = pure (d.ps.zip (ordL Value.none n d.ps ks us ws))
section
variable {K : PySem.W.Frag} {mg : Str → Option Value} {h : Heap} {ds : List Df} {cs : List (Str × CD)} {fl : List (Str × Str)}
theorem fact_df (c : SaysV (factsOf ds cs fl) (ds.map toDef) (tupsOf cs) K) {d : Df} (hd : d ∈ ds) {f : He.Fa} (hf : f ∈ d.facts) : f.ok K = true :=
  c.fact (List.mem_append_left _ (List.mem_append_left _ (List.mem_append_left _ (List.mem_flatMap.mpr ⟨d, hd, hf⟩))))
theorem fls_at (X : K.In h) (G : h.Ns mainGlobals mg) (c : SaysV (factsOf ds cs fl) (ds.map toDef) (tupsOf cs) K) : ∀ C f, flOf fl C f = true → ∃ c, mg C = some (.ref c) ∧ Cls K c ∧ NoAttr K c f := by
  intro C f hf
  have hm : (C, f) ∈ fl := of_decide_eq_true hf
  have q : ∀ x ∈ [He.Fa.glo C, .cls C, .noat C f], x.ok K = true := fun x hx => c.fact (List.mem_append_right _ (List.mem_flatMap.mpr ⟨(C, f), hm, hx⟩))
  exact ⟨_, He.glo_ok X G (q (.glo C) (by simp)), He.cls_ok (q (.cls C) (by simp)), He.noat_ok (q (.noat C f) (by simp))⟩
theorem place_at (X : K.In h) (G : h.Ns mainGlobals mg) (c : SaysV (factsOf ds cs fl) (ds.map toDef) (tupsOf cs) K) {d : Df} (hd : d ∈ ds) : PlaceAt K mg d (He.fAd K d.place) := by
  unfold PlaceAt Df.place
  cases e : d.mth with
  | none => exact He.glo_ok X G (fact_df c hd (f := .glo d.name) (by unfold Df.facts; rw [e]; exact List.mem_singleton.mpr rfl))
  | some p =>
    obtain ⟨C, m⟩ := p
    have ef : d.facts = [.glo C, .cls C, .meth C m] ++ (if m = "__init__" then [.mkr C] else []) := by unfold Df.facts; rw [e]
    refine ⟨_, He.glo_ok X G (fact_df c hd (f := .glo C) (by rw [ef]; simp)), He.cls_ok (fact_df c hd (f := .cls C) (by rw [ef]; simp)), He.meth_ok (fact_df c hd (f := .meth C m) (by rw [ef]; simp)), fun em => ?_⟩
    have q := He.mkr_ok (fact_df c hd (f := .mkr C) (by rw [ef, if_pos em]; simp))
    rw [em]
    exact q
theorem defs_at (X : K.In h) (G : h.Ns mainGlobals mg) (ok : ∀ d ∈ ds, DfOk d) (c : SaysV (factsOf ds cs fl) (ds.map toDef) (tupsOf cs) K) : ∀ d ∈ ds, ∃ fa fd, DefAt K mg d fa fd := by
  intro d hd
  obtain ⟨fd, F⟩ := c.fun_ (d := toDef d) (List.mem_map_of_mem hd)
  have F' : FunD K d.code d.name (defArgs d.st) (defBody d.st) (defScope d.st) [] [] (He.fAd K d.place) fd := F
  have o := ok d hd
  refine ⟨_, fd, funOf F', place_at X G c hd, FunD.bindsN F' o.bd, fun n ks hk => ?_⟩
  refine ⟨fun s us ws _ hl => ?_, fun r t => ord_rel r t⟩
  by_cases hc : us.length = n ∧ ws.length = ks.length
  · obtain ⟨oc, od, dV, kV, doc, pm, an, cdv, ct, osl, rfl, lk, hcd, hD, hK⟩ := F'.ex
    (rcases hD with ⟨_, rfl⟩ | ⟨e, _⟩)
    · exact .of_eq ((o.kb n ks hk).2 kV doc pm an cdv ct us ws hc.1 hc.2)
    · exact absurd rfl e
  · unfold ordL at hl
    rw [if_neg hc] at hl
    exact absurd (List.length_eq_zero_iff.mp hl.symm) (o.kb n ks hk).1
theorem vals_at (X : K.In h) (G : h.Ns mainGlobals mg) (c : SaysV (factsOf ds cs fl) (ds.map toDef) (tupsOf cs) K) : ∀ x d, valsOf cs x = some d → ∃ u v, mg x = some u ∧ L2.RelV v u ∧ ∀ H, Rp ⟨K, mg⟩ H d v := by
  intro x d hx
  unfold valsOf at hx
  cases e : cs.lookup x with
  | none => rw [e] at hx; cases hx
  | some k =>
    rw [e] at hx
    cases hx
    have hm : (x, k) ∈ cs := by
      have : ∀ (l : List (Str × CD)), l.lookup x = some k → (x, k) ∈ l := by
        intro l
        induction l with
        | nil => intro h; cases h
        | cons q l ih =>
          intro h
          obtain ⟨y, z⟩ := q
          simp only [List.lookup] at h
          split at h
          · rename_i e
            cases h
            rw [eq_of_beq e]
            exact List.mem_cons_self ..
          · exact List.mem_cons_of_mem _ (ih h)
      exact this cs e
    have hf := c.fact (f := k.fa x) (List.mem_append_left _ (List.mem_append_right _ (List.mem_map_of_mem (f := fun q : Str × CD => q.2.fa q.1) hm)))
    cases k with
    | int i =>
      obtain ⟨t, q⟩ := He.int_ok X G hf
      exact ⟨_, .int i, q, ⟨t, rfl⟩, fun H => by simp only [CD.d, Rp]⟩
    | str z =>
      obtain ⟨t, q⟩ := He.str_ok X G hf
      exact ⟨_, .str z, q, ⟨t, rfl⟩, fun H => by simp only [CD.d, Rp]⟩
    | tup zs =>
      have q := He.glo_ok X G hf
      have ht := c.tup (t := (x, zs.map He.Dv.str)) (List.mem_flatMap.mpr ⟨(x, .tup zs), hm, List.mem_singleton.mpr rfl⟩)
      refine ⟨_, .ref _, q, rfl, fun H => ?_⟩
      have s := He.tupB_ok ht.1 (fun _ => none)
      simp only [CD.d, Rp]
      refine ⟨_, (zs.map He.Dv.str).map (He.Dv.v K), rfl, ?_, ?_⟩
      · rcases s with (s | ⟨o, s⟩) | ⟨o, its, n, h1, h2, h3⟩
        · cases s
        · cases s
        · have hn := ht.2
          unfold tupN at hn
          have h1' : K.lookup (He.ga K x) = some o := h1
          rw [h1'] at hn
          exact .inr ⟨o, its, n, h1, h2, Option.isNone_iff_eq_none.mp hn, h3⟩
      · have : (zs.map He.Dv.str).map (He.Dv.v K) = zs.map V.str := by rw [List.map_map]; rfl
        rw [this]
        exact Rps.strs zs
theorem free_at (X : K.In h) (G : h.Ns mainGlobals mg) (c : SaysV (factsOf ds cs fl) (ds.map toDef) (tupsOf cs) K) : ∀ x, x ∈ freeNames → mg x = none := fun x hx =>
  He.free_ok X G (c.fact (f := .free x) (List.mem_append_left _ (List.mem_append_left _ (List.mem_append_right _ (List.mem_map_of_mem hx)))))
/-- the law's def, from all defs' obligations -/
theorem law_at {P : Program} {w : World} (X : K.In h) (G : h.Ns mainGlobals mg) (ok : ∀ d ∈ ds, DfOk d) (c : SaysV (factsOf ds cs fl) (ds.map toDef) (tupsOf cs) K)
    (hc : ∀ d ∈ ds, ∀ n args S Q E, d.c n args S Q E → wB_ (tbl ds (valsOf cs) (flOf fl) n) noW d.body (fnEnd Q) (initE d.N args) S)
    {d : Df} (hd : d ∈ ds) (hpl : d.mth = none) {k : Nat} {x : Str} (hp : d.ps = [x]) (hl : ∀ S (ns : List Int), ns.length ≤ 63 → ∀ Q : GQ, (∀ S', Q (.bl true) S') → lvl d k [.frl (ns.map D.int)] S Q fun _ _ _ => False)
    {fa : Addr} (hmg : mg d.name = some (.ref fa)) :
    ∃ (K' : PySem.W.Frag) (fd : FuncData) (sp : Sp), K'.In h ∧ (∀ (s : Shared) (u : Value), BindsTo s fd ⟨[u], []⟩ [(x, u)]) ∧
        (∀ (H : Hp) (a : Addr) (ns : List Int), ns.length ≤ 63 → Only H → SqL K' H a (ns.map V.int) → sp [.ref a] H (fun v _ => v = .bl true) fun _ _ _ => False) ∧
        ∀ base : Heap, K'.In base → base.Ns mainGlobals mg → (∃ o es ep, base.get? sysModules = some o ∧ o.data = .dict es ep) → FnOkG P w K' mg base CX0 k fa fd [x] sp := by
  obtain ⟨fa', fd, hD⟩ := defs_at X G ok c d hd
  have hDm : mg d.name = some (.ref fa') := by
    have q := hD.at_
    unfold PlaceAt at q
    rw [hpl] at q
    exact q
  obtain rfl : fa = fa' := by
    have e := hmg.symm.trans hDm
    injection e with e
    injection e
  obtain ⟨fd2, F⟩ := c.fun_ (d := toDef d) (List.mem_map_of_mem hd)
  refine ⟨K, fd, liftSp ⟨K, mg⟩ d.ps (lvl d k), X, ?_, fun H a ns hn hO hS => ?_, fun base KB GB SB => ?_⟩
  · have F' : FunD K d.code d.name (defArgs d.st) (defBody d.st) (defScope d.st) [] [] (He.fAd K d.place) fd2 := F
    have b := FunD.bindsA F' (ok d hd).bd
    intro s u
    have e : fd = fd2 := by
      have hg : mg d.name = some (.ref (He.fAd K d.place)) := by
        have q := place_at X G c hd
        unfold PlaceAt at q
        rw [hpl] at q
        exact q
      have ea : fa = He.fAd K d.place := by
        have e := hDm.symm.trans hg
        injection e with e
        injection e
      subst ea
      obtain ⟨_, _, _, _, _, _, _, _, _, _, _, l1, _⟩ := F'.ex
      obtain ⟨oc, od, kV, doc, pm, an, cdv, ct, osl, _, l2, _⟩ := hD.fn.ex
      rw [l1] at l2
      injection l2 with l2
      injection l2 with _ _ l2 _
      injection l2 with l2
      exact l2.symm
    rw [e]
    have := b s [u] (by rw [hp]; rfl)
    rw [hp] at this
    exact this
  · refine ⟨by rw [hp]; rfl, [.frl (ns.map D.int)], fun _ => none, fun v _ => v = .bl true, fun _ _ _ => False, ?_, (fun p c e => (by cases e)), hl _ ns hn _ (fun _ => rfl), (fun d' S' v H' _ r _ e => ?_), (fun _ _ _ => id)⟩
    · refine Rps.cons ?_ Rps.nil
      simp only [Rp]
      refine ⟨a, ns.map V.int, rfl, frl_of hO hS, ?_⟩
      have : ∀ l : List Int, Rps ⟨K, mg⟩ H (l.map D.int) (l.map V.int) := by
        intro l
        induction l with
        | nil => exact Rps.nil
        | cons i l ih => exact Rps.cons (by simp only [Rp]) ih
      exact this ns
    · subst e
      simp only [Rp] at r
      exact r
  · have hv := vals_at X G c
    have hf := free_at X G c
    rw [← hp]
    exact prog_ok (base := base) SB (defs_at X G ok c) (fun d hd => (ok d hd).tx) hv (fls_at X G c) hf hc k d hd fa fd hD
end
end GL
end

-- GZ
section
namespace GL
open PySem PySem.Spec

/-! ### equations for running small texts -/
section
variable {S : Store} {Q : GQ} {a b : D} {T : Tb}
theorem q_len : bltD .len [a] S Q = ∃ n, lenD S a = some n ∧ Q (.int (n : Nat)) S := rfl
theorem q_isi {n : String} : bltD .isinstance [a, .ty n] S Q = ∃ k t, kindD S a = some k ∧ knOf n = some t ∧ Q (.bl (isK k t)) S := rfl
theorem q_int {i : Int} : bltD .int [.int i] S Q = Q (.int i) S := rfl
theorem q_list : bltD .list [a] S Q = ∃ es, seqD S a = some es ∧ wNew (.lst es) S Q := rfl
theorem q_tupt {es : List D} : bltD .tuple [.tup es] S Q = Q (.tup es) S := rfl
theorem q_tupr {p : Addr} : bltD .tuple [.ref p] S Q = ∃ es, seqD S (.ref p) = some es ∧ Q (.tup es) S := rfl
theorem q_all {p : Addr} : bltD .all [.ref p] S Q = ∃ bs : List Bool, S p = some (.lst (bs.map D.bl)) ∧ Q (.bl (bs.all id)) S := rfl
theorem q_any {p : Addr} : bltD .any [.ref p] S Q = ∃ bs : List Bool, S p = some (.lst (bs.map D.bl)) ∧ Q (.bl (bs.any id)) S := rfl
theorem q_max2 {i j : Int} : bltD .max [.int i, .int j] S Q = Q (.int (if j > i then j else i)) S := rfl
theorem q_min2 {i j : Int} : bltD .min [.int i, .int j] S Q = Q (.int (if j < i then j else i)) S := rfl
theorem q_sorted {p : Addr} : bltD .sorted [.ref p] S Q = ∃ es, S p = some (.lst es) ∧ sortable es ∧ wNew (.lst (sortD es)) S Q := rfl
theorem q_stri {i : Int} : bltD .str [.int i] S Q = (i.natAbs.log2 < 1920 ∧ Q (.str (toString i)) S) := rfl
theorem q_strs {x : Str} : bltD .str [.str x] S Q = Q (.str x) S := rfl
theorem q_strb {x : Bool} : bltD .str [.bl x] S Q = Q (.str (if x then "True" else "False")) S := rfl
theorem q_repr : bltD .repr [a] S Q = ∃ t, reprT S a = some t ∧ Q (.str t) S := rfl
theorem q_dict {p : Addr} : bltD .dict [.ref p] S Q = ∃ kvs, S p = some (.dct kvs) ∧ wNew (.dct kvs) S Q := rfl
theorem q_dictP : bltD .dictP [a] S Q = ∃ ds kvs, seqD S a = some ds ∧ pairsD ds = some kvs ∧ wNew (.dct (mergeD [] kvs)) S Q := rfl
theorem q_sum {p : Addr} : bltD .sum [.ref p] S Q = ∃ ns : List Int, S p = some (.lst (ns.map D.int)) ∧ Q (.int ns.sum) S := rfl
theorem q_addi {i j : Int} : binD .Add (.int i) (.int j) S Q = Q (.int (i + j)) S := rfl
theorem q_adds {x y : Str} : binD .Add (.str x) (.str y) S Q = (x.length + y.length ≤ sizeLine ∧ Q (.str (x ++ y)) S) := rfl
theorem q_addt {xs ys : List D} : binD .Add (.tup xs) (.tup ys) S Q = (xs.length + ys.length ≤ sizeLine ∧ Q (.tup (xs ++ ys)) S) := rfl
theorem q_addl {p q : Addr} : binD .Add (.ref p) (.ref q) S Q = ∃ xs ys, S p = some (.lst xs) ∧ S q = some (.lst ys) ∧ xs.length + ys.length ≤ sizeLine ∧ wNew (.lst (xs ++ ys)) S Q := rfl
theorem q_addb {x : Bool} {j : Int} : binD .Add (.bl x) (.int j) S Q = Q (.int ((if x then 1 else 0) + j)) S := rfl
theorem q_subi {i j : Int} : binD .Sub (.int i) (.int j) S Q = Q (.int (i - j)) S := rfl
theorem q_subb {x : Bool} {j : Int} : binD .Sub (.bl x) (.int j) S Q = Q (.int ((if x then 1 else 0) - j)) S := rfl
theorem q_muls {x : Str} {k : Int} : binD .Mult (.str x) (.int k) S Q = (MulOk x k ∧ Q (.str (Txt.mul x k)) S) := rfl
theorem q_muli {i j : Int} : binD .Mult (.int i) (.int j) S Q = (L2.CMul i j ∧ Q (.int (i * j)) S) := rfl
theorem q_divi {i j : Int} : binD .FloorDiv (.int i) (.int j) S Q = (L2.CDivW i j ∧ Q (.int (i / j)) S) := rfl
theorem q_modi {i j : Int} : binD .Mod (.int i) (.int j) S Q = (0 < j ∧ Q (.int (i % j)) S) := rfl
theorem q_powi {i j : Int} : binD .Pow (.int i) (.int j) S Q = (L2.CPow i j ∧ Q (.int (i ^ j.toNat)) S) := rfl
theorem q_negi {i : Int} : negD (.int i) S Q = Q (.int (-i)) S := rfl
theorem q_negb {x : Bool} : negD (.bl x) S Q = Q (.int (-(if x then 1 else 0))) S := rfl
variable {R : GT}
theorem q_eq : cmpD .Eq a b S R = ∃ r, eqT (eqF S 60) S a b = some r ∧ R r S := rfl
theorem q_ne : cmpD .NotEq a b S R = ∃ r, eqT (eqF S 60) S a b = some r ∧ R (!r) S := rfl
theorem q_lti {i j : Int} : cmpD .Lt (.int i) (.int j) S R = R (decide (i < j)) S := rfl
theorem q_lei {i j : Int} : cmpD .LtE (.int i) (.int j) S R = R (decide (i ≤ j)) S := rfl
theorem q_gti {i j : Int} : cmpD .Gt (.int i) (.int j) S R = R (decide (j < i)) S := rfl
theorem q_gei {i j : Int} : cmpD .GtE (.int i) (.int j) S R = R (decide (j ≤ i)) S := rfl
theorem q_lts {x y : Str} : cmpD .Lt (.str x) (.str y) S R = R (decide (x.cps.toList < y.cps.toList)) S := rfl
theorem q_ins {x y : Str} : cmpD .In (.str x) (.str y) S R = R (!(Builtin.Str.occurrences y x 0 y.length 1).isEmpty) S := rfl
theorem q_nins {x y : Str} : cmpD .NotIn (.str x) (.str y) S R = R (!(!(Builtin.Str.occurrences y x 0 y.length 1).isEmpty)) S := rfl
theorem q_int_ {ys : List D} : cmpD .In a (.tup ys) S R = ∃ l ds bs, vw S (.tup ys) = .seq l ds ∧ ds.mapM (fun y => eqF S 60 y a) = some bs ∧ R (bs.any id) S := by cases a <;> rfl
theorem q_inl {p : Addr} : cmpD .In a (.ref p) S R = ∃ l ds bs, vw S (.ref p) = .seq l ds ∧ ds.mapM (fun y => eqF S 60 y a) = some bs ∧ R (bs.any id) S := by cases a <;> rfl
theorem q_nint {ys : List D} : cmpD .NotIn a (.tup ys) S R = ∃ l ds bs, vw S (.tup ys) = .seq l ds ∧ ds.mapM (fun y => eqF S 60 y a) = some bs ∧ R (!(bs.any id)) S := by cases a <;> rfl
theorem q_ninl {p : Addr} : cmpD .NotIn a (.ref p) S R = ∃ l ds bs, vw S (.ref p) = .seq l ds ∧ ds.mapM (fun y => eqF S 60 y a) = some bs ∧ R (!(bs.any id)) S := by cases a <;> rfl
theorem q_trb {x : Bool} : tru (.bl x) S R = R x S := rfl
theorem q_tri {i : Int} : tru (.int i) S R = R (i != 0) S := rfl
theorem q_ixt {ds : List D} {i : Int} : idxD (.tup ds) (.int i) S Q = ∃ d, L2.atI ds i = some d ∧ Q d S := rfl
theorem q_ixs {x : Str} {i : Int} : idxD (.str x) (.int i) S Q = (x.length ≤ sizeLine ∧ ∃ c, L2.atI x.cps.toList i = some c ∧ Q (.str ⟨#[c]⟩) S) := rfl
theorem q_ixl {p : Addr} {ds : List D} {k : D} (h : S p = some (.lst ds)) : idxD (.ref p) k S Q = ∃ i, k = .int i ∧ ∃ d, L2.atI ds i = some d ∧ Q d S := by simp only [idxD, h]
theorem q_ixd {p : Addr} {kvs : List (L2.Key × D)} {k : D} (h : S p = some (.dct kvs)) : idxD (.ref p) k S Q = ∃ k' d, keyD k = some k' ∧ valD kvs k' = some d ∧ Q d S := by simp only [idxD, h]
theorem q_slt {ds : List D} {lo hi : Option Int} : slcD (.tup ds) lo hi S Q = Q (.tup (cutD ds lo hi)) S := rfl
theorem q_sls {x : Str} {lo hi : Option Int} : slcD (.str x) lo hi S Q = (x.length ≤ sizeLine ∧ Q (.str (L2.cutS x lo hi)) S) := rfl
theorem q_sll {p : Addr} {ds : List D} {lo hi : Option Int} (h : S p = some (.lst ds)) : slcD (.ref p) lo hi S Q = wNew (.lst (cutD ds lo hi)) S Q := by simp only [slcD, h]
end
end GL
namespace GL
open PySem PySem.Spec
/-- an item by a whole number, of a list or a dict -/
def ixC (c : Option Cell) (i : Int) : Option D := match c with
  | some (.lst ds) => L2.atI ds i
  | some (.dct kvs) => valD kvs (.inl i)
  | _ => none
section
variable {S : Store} {Q : GQ} {p : Addr} {k v : D}
theorem q_ixr {x : Str} : idxD (.ref p) (.str x) S Q = ∃ kvs, S p = some (.dct kvs) ∧ ∃ d, valD kvs (.inr x) = some d ∧ Q d S := by
  simp only [idxD]
  cases e : S p with
  | none => simp
  | some c => cases c <;> simp [keyD]
theorem q_ixi {i : Int} : idxD (.ref p) (.int i) S Q = ∃ d, ixC (S p) i = some d ∧ Q d S := by
  simp only [idxD, ixC]
  cases e : S p with
  | none => simp
  | some c => cases c <;> simp [keyD]
theorem ix_lst {ds : List D} {i : Int} : ixC (some (.lst ds)) i = L2.atI ds i := rfl
theorem q_setr {x : Str} {R : Store → Prop} : setD (.ref p) (.str x) v S R = ∃ kvs, S p = some (.dct kvs) ∧ kvs.length < sizeLine ∧ R (put S p (.dct (putD kvs (.inr x) v))) := by
  simp only [setD]
  cases e : S p with
  | none => simp
  | some c => cases c <;> simp [keyD]
theorem q_slr {lo hi : Option Int} : slcD (.ref p) lo hi S Q = ∃ ds, S p = some (.lst ds) ∧ wNew (.lst (cutD ds lo hi)) S Q := by
  simp only [slcD]
  cases e : S p with
  | none => simp
  | some c => cases c <;> simp
theorem q_revt {ds : List D} : revD (.tup ds) S Q = Q (.tup ds.reverse) S := rfl
theorem q_revr : revD (.ref p) S Q = ∃ ds, S p = some (.lst ds) ∧ wNew (.lst ds.reverse) S Q := by
  simp only [revD]
  cases e : S p with
  | none => simp
  | some c => cases c <;> simp
theorem q_kr : kindD S (.ref p) = (match S p with
    | some (.lst _) => some .lst
    | some (.dct _) => some .dct
    | _ => none) := rfl
theorem q_lr : lenD S (.ref p) = (match S p with
    | some (.lst ds) => some ds.length
    | some (.dct kvs) => some kvs.length
    | _ => none) := rfl
theorem q_sr : seqD S (.ref p) = (match S p with
    | some (.lst ds) => some ds
    | _ => none) := rfl
theorem q_vr : vw S (.ref p) = (match S p with
    | some (.lst ds) => .seq true ds
    | _ => .oth) := rfl
theorem q_trr {R : GT} : tru (.ref p) S R = (match S p with
    | some (.lst ds) => R (!ds.isEmpty) S
    | some (.dct kvs) => R (!kvs.isEmpty) S
    | _ => False) := rfl
theorem q_app : meD .append .lst (.ref p) [v] S Q = ∃ xs, S p = some (.lst xs) ∧ xs.length < sizeLine ∧ Q .non (put S p (.lst (xs ++ [v]))) := rfl
theorem q_ext {q : Addr} : meD .extend .lst (.ref p) [.ref q] S Q = ∃ xs ys, S p = some (.lst xs) ∧ S q = some (.lst ys) ∧ xs.length + ys.length ≤ sizeLine ∧ Q .non (put S p (.lst (xs ++ ys))) := rfl
theorem q_pop : meD .pop .lst (.ref p) [] S Q = ∃ xs y, S p = some (.lst xs) ∧ xs[xs.length - 1]? = some y ∧ Q y (put S p (.lst xs.dropLast)) := rfl
theorem q_get2 : meD .get .dct (.ref p) [k, v] S Q = ∃ kvs k', S p = some (.dct kvs) ∧ keyD k = some k' ∧ Q ((valD kvs k').getD v) S := rfl
theorem q_join {x : Str} : meD .join .str (.str x) [v] S Q = ∃ es : List Str, seqD S v = some (es.map D.str) ∧ (es.map (·.length)).sum + es.length * x.length ≤ 16777216 ∧ Q (.str (Txt.join x es)) S := rfl
theorem q_upper {x : Str} : meD .upper .str (.str x) [] S Q = (x.length ≤ 5592405 ∧ Q (.str (Txt.upper x)) S) := rfl
end
end GL
namespace GL
open PySem
theorem q_m1 : ((meId .append .lst).isSome = true) = True := by simp [meId]
theorem q_m2 : ((meId .extend .lst).isSome = true) = True := by simp [meId]
theorem q_m3 : ((meId .pop .lst).isSome = true) = True := by simp [meId]
theorem q_m4 : ((meId .get .dct).isSome = true) = True := by simp [meId]
theorem q_m5 : ((meId .join .str).isSome = true) = True := by simp [meId]
theorem q_m6 : ((meId .upper .str).isSome = true) = True := by simp [meId]
theorem q_k1 {S : Store} {i : Int} : kindD S (.int i) = some .int := rfl
theorem q_k2 {S : Store} {i : Bool} : kindD S (.bl i) = some .bl := rfl
theorem q_k3 {S : Store} {i : Str} : kindD S (.str i) = some .str := rfl
theorem q_k4 {S : Store} {i : List D} : kindD S (.tup i) = some .tup := rfl
theorem q_k5 {S : Store} : kindD S .non = some .non := rfl
end GL
namespace GL
open PySem
section
variable {S : Store} {Q : Src → Store → Prop} {a b : Addr}
theorem q_itt {ds : List D} : itD (.tup ds) S Q = Q (srcT ds) S := rfl
theorem q_its {x : Str} : itD (.str x) S Q = Q (srcT (signs x)) S := rfl
theorem q_itr : itD (.ref a) S Q = ∃ ds, S a = some (.lst ds) ∧ Q (srcL a ds) S := by
  simp only [itD]
  cases e : S a with
  | none => simp
  | some c => cases c <;> simp
theorem q_zt {xs ys : List D} : zipS (.tup xs) (.tup ys) S Q = Q (srcT (zipD xs ys)) S := rfl
theorem q_zr : zipS (.ref a) (.ref b) S Q = ∃ xs ys, S a = some (.lst xs) ∧ S b = some (.lst ys) ∧ Q ⟨zipD xs ys, fun S => S a = some (.lst xs) ∧ S b = some (.lst ys)⟩ S := rfl
end
end GL
namespace GL
open PySem
theorem q_st {S : Store} {ds : List D} : seqD S (.tup ds) = some ds := rfl
theorem q_sf {S : Store} {ds : List D} : seqD S (.frl ds) = some ds := rfl
theorem q_lt {S : Store} {ds : List D} : lenD S (.tup ds) = some ds.length := rfl
theorem q_vt {S : Store} {ds : List D} : vw S (.tup ds) = .seq false ds := rfl
end GL
namespace GL
open PySem
theorem ik_non_tup : isK .non .tup = false := rfl
theorem ik_non_int : isK .non .int = false := rfl
theorem ik_non_str : isK .non .str = false := rfl
theorem ik_non_lst : isK .non .lst = false := rfl
theorem ik_non_bl : isK .non .bl = false := rfl
theorem ik_non_dct : isK .non .dct = false := rfl
theorem ik_bl_tup : isK .bl .tup = false := rfl
theorem ik_bl_int : isK .bl .int = true := rfl
theorem ik_bl_str : isK .bl .str = false := rfl
theorem ik_bl_lst : isK .bl .lst = false := rfl
theorem ik_bl_bl : isK .bl .bl = true := rfl
theorem ik_bl_dct : isK .bl .dct = false := rfl
theorem ik_int_tup : isK .int .tup = false := rfl
theorem ik_int_int : isK .int .int = true := rfl
theorem ik_int_str : isK .int .str = false := rfl
theorem ik_int_lst : isK .int .lst = false := rfl
theorem ik_int_bl : isK .int .bl = false := rfl
theorem ik_int_dct : isK .int .dct = false := rfl
theorem ik_str_tup : isK .str .tup = false := rfl
theorem ik_str_int : isK .str .int = false := rfl
theorem ik_str_str : isK .str .str = true := rfl
theorem ik_str_lst : isK .str .lst = false := rfl
theorem ik_str_bl : isK .str .bl = false := rfl
theorem ik_str_dct : isK .str .dct = false := rfl
theorem ik_tup_tup : isK .tup .tup = true := rfl
theorem ik_tup_int : isK .tup .int = false := rfl
theorem ik_tup_str : isK .tup .str = false := rfl
theorem ik_tup_lst : isK .tup .lst = false := rfl
theorem ik_tup_bl : isK .tup .bl = false := rfl
theorem ik_tup_dct : isK .tup .dct = false := rfl
theorem ik_lst_tup : isK .lst .tup = false := rfl
theorem ik_lst_int : isK .lst .int = false := rfl
theorem ik_lst_str : isK .lst .str = false := rfl
theorem ik_lst_lst : isK .lst .lst = true := rfl
theorem ik_lst_bl : isK .lst .bl = false := rfl
theorem ik_lst_dct : isK .lst .dct = false := rfl
theorem ik_dct_tup : isK .dct .tup = false := rfl
theorem ik_dct_int : isK .dct .int = false := rfl
theorem ik_dct_str : isK .dct .str = false := rfl
theorem ik_dct_lst : isK .dct .lst = false := rfl
theorem ik_dct_bl : isK .dct .bl = false := rfl
theorem ik_dct_dct : isK .dct .dct = true := rfl
theorem ko_tup : knOf "tuple" = some .tup := rfl
theorem ko_int : knOf "int" = some .int := rfl
theorem ko_str : knOf "str" = some .str := rfl
theorem ko_lst : knOf "list" = some .lst := rfl
theorem ko_bl : knOf "bool" = some .bl := rfl
theorem ko_dct : knOf "dict" = some .dct := rfl
end GL
namespace GL
open PySem
theorem q_dct0 {ρ : Ev} {S : Store} {Q : GQ} : wDct [] ρ S Q = ∀ a, S a = none → Q (.ref a) (put S a (.dct [])) := by
  unfold wDct wPairs
  refine propext ⟨fun h a ha => ?_, fun h a ha => ⟨put_same, [], rfl, by decide, ?_⟩⟩
  · obtain ⟨_, kvs, e, _, q⟩ := h a ha
    cases kvs with
    | nil => rw [put_put] at q; exact q
    | cons _ _ => cases e
  · rw [put_put]; exact h a ha
end GL
end

-- GS
section
namespace GL
open PySem PySem.Spec
/-! ### texts of known length, of signs that can be shown -/
def sml (x : Str) : Prop := ∀ c ∈ x.cps.toList, c < 4294967296
instance {x : Str} : Decidable (sml x) := by unfold sml; infer_instance
structure okS (L : Nat) (x : Str) : Prop where
  len : x.length ≤ L
  sm : sml x
instance {L : Nat} {x : Str} : Decidable (okS L x) := if h : x.length ≤ L ∧ sml x then .isTrue ⟨h.1, h.2⟩ else .isFalse fun k => h ⟨k.1, k.2⟩
theorem okS.up {L L' : Nat} {x : Str} (h : okS L x) (k : L ≤ L') : okS L' x := ⟨Nat.le_trans h.len k, h.sm⟩
theorem sml_app {x y : Str} (h : sml x) (k : sml y) : sml (x ++ y) := fun c hc => by
  have e : (x ++ y).cps.toList = x.cps.toList ++ y.cps.toList := by
    show (x.cps ++ y.cps).toList = _
    rw [Array.toList_append]
  rw [e] at hc
  (rcases List.mem_append.mp hc with hc | hc)
  · exact h c hc
  · exact k c hc
theorem okS.app {a b L : Nat} {x y : Str} (h : okS a x) (k : okS b y) (e : a + b ≤ L) : okS L (x ++ y) :=
  ⟨by have h1 := h.len; have h2 := k.len; have h3 := strLen_append x y; omega, sml_app h.sm k.sm⟩
theorem sml_cut {x : Str} (h : sml x) (lo hi : Option Int) : sml (L2.cutS x lo hi) := fun c hc => by
  have : c ∈ (x.cps.toList.drop (HT.sIx x.length 0 lo)).take (HT.sIx x.length x.length hi - HT.sIx x.length 0 lo) := by simpa [L2.cutS] using hc
  exact h c (List.mem_of_mem_drop (List.mem_of_mem_take this))
theorem okS.cut {L : Nat} {x : Str} (h : okS L x) (lo hi : Option Int) : okS L (L2.cutS x lo hi) := ⟨Nat.le_trans (L2.cutS_length ..) h.len, sml_cut h.sm lo hi⟩
theorem all_lookup {p : Nat → List Nat → Prop} : ∀ (l : List (Nat × List Nat)) (c : Nat) (cs : List Nat), (∀ q ∈ l, p q.1 q.2) → l.lookup c = some cs → p c cs
  | [], _, _, _, h => (by cases h)
  | ((a, b) :: r), c, cs, hall, h => by
    simp only [List.lookup] at h
    split at h
    · rename_i e
      cases h
      have e := eq_of_beq e
      subst e
      exact hall (_, b) (List.mem_cons_self ..)
    · exact all_lookup r c cs (fun q hq => hall q (List.mem_cons_of_mem _ hq)) h
theorem sml_shift : ∀ (l : List (Nat × Nat × Nat)) (c t : Nat), (l.all fun q => decide (q.2.2 + (q.2.1 - q.1) < 4294967296)) = true → Unicode.shifted l c = some t → t < 4294967296
  | [], _, _, _, h => (by cases h)
  | (a, b, t0) :: r, c, t, hall, h => by
    rw [List.all_cons, Bool.and_eq_true, decide_eq_true_eq] at hall
    simp only [Unicode.shifted] at h
    split at h
    · cases h
    · split at h
      · cases h
        have := hall.1
        simp only at this
        omega
      · exact sml_shift r c t hall.2 h
theorem sml_upOf {c : Nat} (h : c < 4294967296) : ∀ d ∈ Unicode.upperOf c, d < 4294967296 := by
  unfold Unicode.upperOf Unicode.image
  split
  · rename_i cs hl
    have := PySem.StrLaws.lookup_all (p := fun l => l.all fun d => decide (d < 4294967296)) _ c cs (by decide +kernel) hl
    intro d hd
    simpa using List.all_eq_true.mp this d hd
  · intro d hd
    rw [List.mem_singleton] at hd
    subst hd
    cases e : Unicode.shifted UnicodeData.oneUpper c with
    | none => simpa using h
    | some t => simpa using sml_shift _ c t (by decide +kernel) e
theorem sml_upper {x : Str} (h : sml x) : sml (Txt.upper x) := fun c hc => by
  have hc' : c ∈ ((x.cps.mapIdx fun _ c => (Unicode.upperOf c).toArray).flatten).toList := hc
  rw [Array.mem_toList_iff, Array.mem_flatten] at hc'
  obtain ⟨xs, h1, h2⟩ := hc'
  obtain ⟨i, hi, rfl⟩ := Array.mem_iff_getElem.mp h1
  rw [Array.getElem_mapIdx, List.mem_toArray] at h2
  exact sml_upOf (h _ (by rw [Array.mem_toList_iff]; exact Array.getElem_mem _)) c h2
theorem okS.upper {a L : Nat} {x : Str} (h : okS a x) (e : 3 * a ≤ L) : okS L (Txt.upper x) := ⟨by have := PyProof.Rows.len_upper x; have := h.len; omega, sml_upper h.sm⟩
theorem sml_of (s : String) : sml (Str.ofString s) := fun c hc => by
  rw [Str.ofString_eq_toList] at hc
  simp only [List.mem_map] at hc
  obtain ⟨ch, _, rfl⟩ := hc
  have := ch.valid
  rcases this with h | h
  · have : ch.toNat < 55296 := h
    omega
  · have : ch.toNat < 1114112 := h.2
    omega
theorem sml_join : ∀ (zs : List Str), (∀ z ∈ zs, sml z) → sml (Str.join "" zs)
  | [], _ => fun c hc => by cases hc
  | [z], h => h z (List.mem_cons_self ..)
  | z :: y :: r, h => sml_app (sml_app (h z (List.mem_cons_self ..)) (fun c hc => by cases hc)) (sml_join (y :: r) fun x hx => h x (List.mem_cons_of_mem _ hx))
theorem okS_rep {L : Nat} {x : Str} (h : okS L x) : (reprText x).length ≤ 10 * L + 2 := by
  have := PySem.StrLaws.reprText_len x h.sm
  have := h.len
  omega
end GL
end

-- GY
section
namespace GL
open PySem PySem.Spec
/-! ### walks with an invariant -/
theorem lc_inv {live : Store → Prop} {g : WG} {tt : WT} {te : WE} {ρ : Ev} {a : Addr} {Q : Store → Prop} (J : Store → Prop) (hJ : ∀ S c, J S → J (put S a c)) (hl : ∀ S, J S → live S) (f : D → Option D) :
    ∀ (ds : List D) (acc : List D) (S : Store), J S → S a = some (.lst acc) → acc.length + ds.length ≤ sizeLine →
    (∀ d ∈ ds, ∀ S1 acc1 (K1 : D → Store → Prop) (K2 : Store → Prop), J S1 → S1 a = some (.lst acc1) → (∀ y S4, f d = some y → J S4 → S4 a = some (.lst acc1) → K1 y S4) → (∀ S4, f d = none → J S4 → S4 a = some (.lst acc1) → K2 S4) →
      g d ρ S1 fun ρ2 S2 => tt ρ2 S2 fun b S3 => if b = true then te ρ2 S3 K1 else K2 S3) →
    (∀ S', J S' → S' a = some (.lst (acc ++ ds.filterMap f)) → Q S') → wLcL live g tt te ρ a Q ds S
  | [], acc, S, j, hS, _, _, k => ⟨hl S j, k S j (by simpa using hS)⟩
  | d :: ds, acc, S, j, hS, hz, step, k => by
    refine ⟨hl S j, step d (List.mem_cons_self ..) S acc _ _ j hS (fun y S4 hf j4 h4 => ?_) fun S4 hf j4 h4 => ?_⟩
    · rw [List.length_cons] at hz
      refine ⟨acc, h4, by omega, ?_⟩
      refine lc_inv J hJ hl f ds (acc ++ [y]) _ (hJ _ _ j4) put_same (by rw [List.length_append, List.length_singleton]; omega) (fun d' hd' => step d' (List.mem_cons_of_mem _ hd')) fun S' j' h' => k S' j' ?_
      rw [h', List.filterMap_cons, hf, List.append_assoc]; rfl
    · rw [List.length_cons] at hz
      refine lc_inv J hJ hl f ds acc _ j4 h4 (by omega) (fun d' hd' => step d' (List.mem_cons_of_mem _ hd')) fun S' j' h' => k S' j' ?_
      rw [h', List.filterMap_cons, hf]
def All2 (R : D → D → Prop) : List D → List D → Prop
  | [], ys => ys = []
  | d :: ds, ys => ∃ y r, ys = y :: r ∧ R d y ∧ All2 R ds r
theorem lc_rel {live : Store → Prop} {g : WG} {tt : WT} {te : WE} {ρ : Ev} {a : Addr} {Q : Store → Prop} (J : Store → Prop) (hJ : ∀ S c, J S → J (put S a c)) (hl : ∀ S, J S → live S) (R : D → D → Prop) :
    ∀ (ds : List D) (acc : List D) (S : Store), J S → S a = some (.lst acc) → acc.length + ds.length ≤ sizeLine →
    (∀ d ∈ ds, ∀ S1 acc1 (K1 : D → Store → Prop) (K2 : Store → Prop), J S1 → S1 a = some (.lst acc1) → (∀ y S4, R d y → J S4 → S4 a = some (.lst acc1) → K1 y S4) →
      g d ρ S1 fun ρ2 S2 => tt ρ2 S2 fun b S3 => if b = true then te ρ2 S3 K1 else K2 S3) →
    (∀ S' ys, J S' → All2 R ds ys → S' a = some (.lst (acc ++ ys)) → Q S') → wLcL live g tt te ρ a Q ds S
  | [], acc, S, j, hS, _, _, k => ⟨hl S j, k S [] j rfl (by simpa using hS)⟩
  | d :: ds, acc, S, j, hS, hz, step, k => by
    refine ⟨hl S j, step d (List.mem_cons_self ..) S acc _ _ j hS fun y S4 hf j4 h4 => ?_⟩
    rw [List.length_cons] at hz
    refine ⟨acc, h4, by omega, ?_⟩
    refine lc_rel J hJ hl R ds (acc ++ [y]) _ (hJ _ _ j4) put_same (by rw [List.length_append, List.length_singleton]; omega) (fun d' hd' => step d' (List.mem_cons_of_mem _ hd')) fun S' ys j' h2 h' => k S' (y :: ys) j' ⟨y, ys, rfl, hf, h2⟩ ?_
    rw [h', List.append_assoc]; rfl
theorem All2.length {R : D → D → Prop} : ∀ {ds ys : List D}, All2 R ds ys → ys.length = ds.length
  | [], _, h => by rw [show _ = _ from h]
  | d :: ds, _, ⟨y, r, e, _, t⟩ => by rw [e, List.length_cons, List.length_cons, All2.length t]
theorem All2.all {R : D → D → Prop} {P : D → Prop} (h : ∀ d y, R d y → P y) : ∀ {ds ys : List D}, All2 R ds ys → ∀ y ∈ ys, P y
  | [], ys, e, y, hy => by rw [show ys = [] from e] at hy; cases hy
  | d :: ds, _, ⟨y', r, e, q, t⟩, y, hy => by
    rw [e] at hy
    (rcases List.mem_cons.mp hy with rfl | hy)
    · exact h _ _ q
    · exact All2.all h t y hy
theorem for_inv {live : Store → Prop} {g : WG} {tb : WS} {E : GEnd} (I : List D → Ev → Store → Prop) (hl : ∀ r ρ S, I r ρ S → live S) :
    ∀ (ds : List D) (ρ : Ev) (S : Store), I ds ρ S →
    (∀ d r ρ S (K : Ev → Store → Prop), I (d :: r) ρ S → (∀ ρ' S', I r ρ' S' → K ρ' S') → g d ρ S fun ρ2 S2 => tb { nx := K, ct := K, bk := E.nx, rt := E.rt } ρ2 S2) →
    (∀ ρ S, I [] ρ S → E.nx ρ S) → wForL live g tb E ds ρ S
  | [], ρ, S, i, _, k => ⟨hl _ _ _ i, k ρ S i⟩
  | d :: ds, ρ, S, i, step, k => ⟨hl _ _ _ i, step d ds ρ S _ i fun ρ' S' i' => for_inv I hl ds ρ' S' i' step k⟩
/-- the store may have grown -/
def Sub (S S' : Store) : Prop := ∀ x c, S x = some c → S' x = some c
theorem Sub.refl (S : Store) : Sub S S := fun _ _ h => h
theorem Sub.trans {S1 S2 S3 : Store} (h : Sub S1 S2) (k : Sub S2 S3) : Sub S1 S3 := fun x c e => k x c (h x c e)
theorem Sub.new {S : Store} {p : Addr} {c : Cell} (h : S p = none) : Sub S (put S p c) := fun x c' e => by
  rw [put_ne (by rintro rfl; rw [h] at e; cases e)]; exact e
theorem Sub.put {S S' : Store} {p : Addr} {c : Cell} (s : Sub S S') (h : S p = none) : Sub S (put S' p c) := fun x c' e => by
  rw [put_ne (by rintro rfl; rw [h] at e; cases e)]; exact s x c' e
theorem Sub.kind {S S' : Store} (s : Sub S S') {d : D} {k : Kn} (h : kindD S d = some k) : kindD S' d = some k := by
  cases d <;> try exact h
  rename_i a
  rw [q_kr] at h ⊢
  cases e : S a with
  | none => (rw [e] at h; cases h)
  | some c => rw [e] at h; rw [s a c e]; exact h
/-- a comprehension whose parts change nothing that was there -/
theorem lc_sub {live : Store → Prop} {g : WG} {tt : WT} {te : WE} {ρ : Ev} {a : Addr} {Q : Store → Prop} {S : Store} (hn : S a = none) (hl : ∀ S', Sub S S' → live S') (f : D → Option D) (ds : List D) (hz : ds.length ≤ sizeLine)
    (step : ∀ d ∈ ds, ∀ S1 (K1 : D → Store → Prop) (K2 : Store → Prop), Sub S S1 → (∀ y S4, f d = some y → Sub S1 S4 → K1 y S4) → (∀ S4, f d = none → Sub S1 S4 → K2 S4) → g d ρ S1 fun ρ2 S2 => tt ρ2 S2 fun b S3 => if b = true then te ρ2 S3 K1 else K2 S3)
    (k : ∀ S', Sub S S' → S' a = some (.lst (ds.filterMap f)) → Q S') : wLcL live g tt te ρ a Q ds (put S a (.lst [])) :=
  lc_inv (fun S' => Sub S S') (fun S' c s => s.put hn) hl f ds [] _ (Sub.new hn) put_same (by simpa using hz)
    (fun d hd S1 acc K1 K2 s1 h1 k1 k2 => step d hd S1 K1 K2 s1 (fun y S4 hf s4 => k1 y S4 hf (s1.trans s4) (s4 a _ h1)) fun S4 hf s4 => k2 S4 hf (s1.trans s4) (s4 a _ h1)) k
theorem lc_map {live : Store → Prop} {g : WG} {tt : WT} {te : WE} {ρ : Ev} {a : Addr} {Q : Store → Prop} {S : Store} (hn : S a = none) (hl : ∀ S', Sub S S' → live S') (f : D → D) (ds : List D) (hz : ds.length ≤ sizeLine)
    (step : ∀ d ∈ ds, ∀ S1 (K1 : D → Store → Prop) (K2 : Store → Prop), Sub S S1 → (∀ S4, Sub S1 S4 → K1 (f d) S4) → g d ρ S1 fun ρ2 S2 => tt ρ2 S2 fun b S3 => if b = true then te ρ2 S3 K1 else K2 S3)
    (k : ∀ S', Sub S S' → S' a = some (.lst (ds.map f)) → Q S') : wLcL live g tt te ρ a Q ds (put S a (.lst [])) :=
  lc_sub hn hl (fun d => some (f d)) ds hz (fun d hd S1 K1 K2 s1 k1 _ => step d hd S1 K1 K2 s1 fun S4 s4 => k1 _ S4 rfl s4) fun S' s' h' => k S' s' (by rw [h']; simp)
theorem cut_from (ds : List D) (k : Nat) : cutD ds (some (k : Int)) none = ds.drop k := by
  unfold cutD
  rw [HT.sIx_nat, HT.sIx_none]
  by_cases h : k ≤ ds.length
  · rw [Nat.min_eq_left h]; exact List.take_of_length_le (by rw [List.length_drop]; exact Nat.le_refl _)
  · rw [Nat.min_eq_right (by omega), List.drop_of_length_le (Nat.le_refl _), List.drop_of_length_le (by omega), List.take_nil]
theorem cut_to (ds : List D) (k : Nat) : cutD ds none (some (k : Int)) = ds.take k := by
  unfold cutD
  rw [HT.sIx_nat, HT.sIx_none, List.drop_zero, Nat.sub_zero]
  by_cases h : k ≤ ds.length
  · rw [Nat.min_eq_left h]
  · (rw [Nat.min_eq_right (by omega), List.take_of_length_le (Nat.le_refl _), List.take_of_length_le (by omega)])
theorem cut1 (ds : List D) : cutD ds (some 1) none = ds.drop 1 := cut_from ds 1
theorem cut2 (ds : List D) : cutD ds (some 2) none = ds.drop 2 := cut_from ds 2
theorem at0 {α : Type} {x : α} {r : List α} : L2.atI (x :: r) 0 = some x := L2.atI_nat (j := 0) rfl
theorem at1 {α : Type} {x y : α} {r : List α} : L2.atI (x :: y :: r) 1 = some y := L2.atI_nat (j := 1) rfl
theorem at2 {α : Type} {x y z : α} {r : List α} : L2.atI (x :: y :: z :: r) 2 = some z := L2.atI_nat (j := 2) rfl
/-! ### defs by their contracts -/
abbrev GC0 := List D → Store → GQ → Prop
def Has (T : Tb) (f : Str) (C : GC0) : Prop := ∃ F, T.fn f = some F ∧ ∀ args S Q E, C args S Q → args.length = F.ps.length ∧ F.c args S Q E
theorem Has.use {T : Tb} {f : Str} {C : GC0} (h : Has T f C) {args : List D} {S : Store} {Q : GQ} {E : GE} {n : Nat} (hn : args.length = n) (c : C args S Q) : ∃ F, T.fn f = some F ∧ n = F.ps.length ∧ F.c args S Q E := by
  obtain ⟨F, h1, h2⟩ := h
  obtain ⟨h3, h4⟩ := h2 args S Q E c
  exact ⟨F, h1, by omega, h4⟩
theorem use2 {F : Fn} {C : GC0} (u : ∀ args S Q E, C args S Q → args.length = F.ps.length ∧ F.c args S Q E) {args : List D} {S : Store} {Q : GQ} {E : GE} {n : Nat} (hn : args.length = n) (c : C args S Q) : n = F.ps.length ∧ F.c args S Q E := by
  obtain ⟨h3, h4⟩ := u args S Q E c
  exact ⟨by omega, h4⟩
def HasV (T : Tb) (x : Str) (d : D) : Prop := T.val x = some d
/-- a method; how a class is made -/
def HasM (T : Tb) (C m : Str) (Ct : GC0) : Prop := ∃ F, T.mt C m = some F ∧ ∀ args S Q E, Ct args S Q → args.length = F.ps.length ∧ F.c args S Q E
def HasN (T : Tb) (C : Str) (n : Nat) (Ct : GC0) : Prop := ∃ F, T.nw C = some F ∧ n = F.ps.length ∧ ∀ args S Q E, Ct args S Q → args.length = F.ps.length ∧ F.c args S Q E

/-! ### values of known size -/
mutual
inductive Gv (F : Addr → Prop) (S : Store) (L : Nat) : Nat → Nat → D → Prop
  | non {h c : Nat} : 1 ≤ c → Gv F S L h c .non
  | bl {h c : Nat} {b : Bool} : 1 ≤ c → Gv F S L h c (.bl b)
  | int {h c : Nat} {i : Int} : i.natAbs ≤ 10 ^ 39 + L → 1 ≤ c → Gv F S L h c (.int i)
  | str {h c : Nat} {x : Str} : okS L x → 1 ≤ c → Gv F S L h c (.str x)
  | tup {h m c : Nat} {ds : List D} : Gvs F S L h m ds → m + 1 ≤ c → Gv F S L (h + 1) c (.tup ds)
  | lst {h m c : Nat} {a : Addr} {ds : List D} : F a → S a = some (.lst ds) → Gvs F S L h m ds → m + 1 ≤ c → Gv F S L (h + 1) c (.ref a)
  | emp {h c : Nat} {a : Addr} : F a → S a = some (.dct []) → 1 ≤ c → Gv F S L (h + 1) c (.ref a)
inductive Gvs (F : Addr → Prop) (S : Store) (L : Nat) : Nat → Nat → List D → Prop
  | nil {h c : Nat} : Gvs F S L h c []
  | cons {h m k c : Nat} {d : D} {ds : List D} : Gv F S L h m d → Gvs F S L h k ds → m + k ≤ c → Gvs F S L h c (d :: ds)
end
section
variable {F F' : Addr → Prop} {S S' : Store} {L L' : Nat}
mutual
theorem Gv.up (hL : L ≤ L') (hF : ∀ x, F x → F' x) (hs : ∀ x c, F x → S x = some c → S' x = some c) : ∀ {h c h' c' : Nat} {d : D}, Gv F S L h c d → h ≤ h' → c ≤ c' → Gv F' S' L' h' c' d
  | _, _, _, _, _, .non q, h1, h2 => .non (by omega)
  | _, _, _, _, _, .bl q, h1, h2 => .bl (by omega)
  | _, _, _, _, _, .int p q, h1, h2 => .int (by omega) (by omega)
  | _, _, _, _, _, .str p q, h1, h2 => .str (p.up hL) (by omega)
  | _, _, h' + 1, _, _, .tup q r, h1, h2 => .tup (Gvs.up hL hF hs q (by omega) (Nat.le_refl _)) (by omega)
  | _, _, h' + 1, _, _, .lst p e q r, h1, h2 => .lst (hF _ p) (hs _ _ p e) (Gvs.up hL hF hs q (by omega) (Nat.le_refl _)) (by omega)
  | _, _, h' + 1, _, _, .emp p e r, h1, h2 => .emp (hF _ p) (hs _ _ p e) (by omega)
  | _, _, 0, _, _, .tup q r, h1, h2 => absurd h1 (by omega)
  | _, _, 0, _, _, .lst p e q r, h1, h2 => absurd h1 (by omega)
  | _, _, 0, _, _, .emp p e r, h1, h2 => absurd h1 (by omega)
theorem Gvs.up (hL : L ≤ L') (hF : ∀ x, F x → F' x) (hs : ∀ x c, F x → S x = some c → S' x = some c) : ∀ {h c h' c' : Nat} {ds : List D}, Gvs F S L h c ds → h ≤ h' → c ≤ c' → Gvs F' S' L' h' c' ds
  | _, _, _, _, _, .nil, _, _ => .nil
  | _, _, _, _, _, .cons p q r, h1, h2 => .cons (Gv.up hL hF hs p h1 (Nat.le_refl _)) (Gvs.up hL hF hs q h1 (Nat.le_refl _)) (by omega)
end
theorem Gv.kind {h c : Nat} {d : D} (g : Gv F S L h c d) : ∃ k, kindD S d = some k := by
  cases g with
  | non => exact ⟨_, rfl⟩
  | bl => exact ⟨_, rfl⟩
  | int => exact ⟨_, rfl⟩
  | str => exact ⟨_, rfl⟩
  | tup => exact ⟨_, rfl⟩
  | lst p e => exact ⟨.lst, by rw [q_kr, e]⟩
  | emp p e => exact ⟨.dct, by rw [q_kr, e]⟩
theorem Gvs.get : ∀ {h c : Nat} {ds : List D} {d : D}, Gvs F S L h c ds → d ∈ ds → Gv F S L h c d
  | _, _, _, _, .nil, hd => by cases hd
  | _, _, _, _, .cons p q r, hd => by
    (rcases List.mem_cons.mp hd with rfl | hd)
    · exact p.up (Nat.le_refl _) (fun _ z => z) (fun _ _ _ z => z) (Nat.le_refl _) (by omega)
    · exact (q.get hd).up (Nat.le_refl _) (fun _ z => z) (fun _ _ _ z => z) (Nat.le_refl _) (by omega)
theorem Gvs.len : ∀ {h c : Nat} {ds : List D}, Gvs F S L h c ds → ds.length ≤ c
  | _, _, _, .nil => Nat.zero_le _
  | _, c, _, .cons (m := m) p q r => by
    have := q.len
    have : 1 ≤ m := by cases p <;> omega
    rw [List.length_cons]; omega
end
end GL
end

-- GI
section
namespace GL
open PyProof.Rows PySem PySem.Spec L2
/-! ### defs by rank and level -/
def mkD (name : Str) (st : Stmt) (ps N : List Str) (kl : List (Nat × List Str)) (body : GB) (r : Nat) (C : Nat → GC0) (mth : Option (Str × Str) := none) : Df :=
  ⟨name, st, ps, N, kl, body, fun m args S Q _ => r ≤ m ∧ args.length = ps.length ∧ C (m - r + 1) args S Q, mth⟩
/-- what a contract owes: its arguments' number, and that a greater level allows more -/
structure CtOk (ps : List Str) (C : Nat → GC0) : Prop where
  len : ∀ k args S Q, C k args S Q → args.length = ps.length
  mono : ∀ a b args S Q, a ≤ b → C a args S Q → C b args S Q
section
variable {ds : List Df} {vals : Str → Option D} {fl : Str → Str → Bool} {x : Str} {st : Stmt} {ps N : List Str} {kl : List (Nat × List Str)} {body : GB} {r n k : Nat} {C : Nat → GC0} {mth : Option (Str × Str)} {c m : Str}
theorem fn_at (hd : ds.find? (fun d => decide (d.name = x) && d.mth.isNone) = some (mkD x st ps N kl body r C)) : (tbl ds vals fl n).fn x = some ⟨ps, kl, lvl (mkD x st ps N kl body r C) n⟩ := by
  show ((ds.find? fun d => decide (d.name = x) && d.mth.isNone).map fun d => (⟨d.ps, d.kl, lvl d n⟩ : Fn)) = _
  rw [hd]; rfl
theorem lv_at (o : CtOk ps C) (h1 : r + 1 ≤ n) (h2 : r + k ≤ n) {args : List D} {S : Store} {Q : GQ} {E : GE} (h : C k args S Q) : args.length = ps.length ∧ lvl (mkD x st ps N kl body r C mth) n args S Q E := by
  (obtain ⟨m, rfl⟩ : ∃ m, n = m + 1 := ⟨n - 1, by omega⟩)
  exact ⟨o.len _ _ _ _ h, by omega, o.len _ _ _ _ h, o.mono k _ _ _ _ (by omega) h⟩
theorem has_at (hd : ds.find? (fun d => decide (d.name = x) && d.mth.isNone) = some (mkD x st ps N kl body r C)) (o : CtOk ps C) (h1 : r + 1 ≤ n) (h2 : r + k ≤ n) : Has (tbl ds vals fl n) x (C k) :=
  ⟨_, fn_at hd, fun _ _ _ _ h => lv_at o h1 h2 h⟩
theorem has_self (hd : ds.find? (fun d => decide (d.name = x) && d.mth.isNone) = some (mkD x st ps N kl body r C)) (o : CtOk ps C) (h0 : ∀ args S Q, ¬ C 0 args S Q) (h1 : r ≤ n) : Has (tbl ds vals fl n) x (C (n - r)) := by
  refine ⟨_, fn_at hd, fun args S Q E h => ?_⟩
  rcases Nat.lt_or_ge r n with h2 | h2
  · exact lv_at o h2 (by omega) h
  · have e : n - r = 0 := by omega
    rw [e] at h
    exact (h0 _ _ _ h).elim
theorem mt_at (hd : ds.find? (fun d => decide (d.mth = some (c, m))) = some (mkD x st ps N kl body r C mth)) : (tbl ds vals fl n).mt c m = some ⟨ps, kl, lvl (mkD x st ps N kl body r C mth) n⟩ := by
  show ((ds.find? fun d => decide (d.mth = some (c, m))).map fun d => (⟨d.ps, d.kl, lvl d n⟩ : Fn)) = _
  rw [hd]; rfl
theorem hasM_at (hd : ds.find? (fun d => decide (d.mth = some (c, m))) = some (mkD x st ps N kl body r C mth)) (o : CtOk ps C) (h1 : r + 1 ≤ n) (h2 : r + k ≤ n) : HasM (tbl ds vals fl n) c m (C k) :=
  ⟨_, mt_at hd, fun _ _ _ _ h => lv_at o h1 h2 h⟩
theorem hasM_self (hd : ds.find? (fun d => decide (d.mth = some (c, m))) = some (mkD x st ps N kl body r C mth)) (o : CtOk ps C) (h0 : ∀ args S Q, ¬ C 0 args S Q) (h1 : r ≤ n) : HasM (tbl ds vals fl n) c m (C (n - r)) := by
  refine ⟨_, mt_at hd, fun args S Q E h => ?_⟩
  rcases Nat.lt_or_ge r n with h2 | h2
  · exact lv_at o h2 (by omega) h
  · have e : n - r = 0 := by omega
    rw [e] at h
    exact (h0 _ _ _ h).elim
theorem hasN_at (hd : ds.find? (fun d => decide (d.mth = some (c, ("__init__" : Str)))) = some (mkD x st ps N kl body r C mth)) (o : CtOk ps C) (h1 : r + 2 ≤ n) (h2 : r + k + 1 ≤ n) : HasN (tbl ds vals fl n) c ps.length (C k) := by
  (obtain ⟨m, rfl⟩ : ∃ m, n = m + 1 := ⟨n - 1, by omega⟩)
  refine ⟨⟨ps, kl, lvl (mkD x st ps N kl body r C mth) m⟩, ?_, rfl, fun _ _ _ _ h => lv_at o (by omega) (by omega) h⟩
  show ((ds.find? fun d => decide (d.mth = some (c, ("__init__" : Str)))).map fun d => (⟨d.ps, d.kl, lvl d m⟩ : Fn)) = _
  rw [hd]; rfl
end
end GL
end

-- K01a
section
namespace K01
open PySem L2 GL
def top (i : Nat) : Stmt := PySem.Challenge.pw_tellalike_k06_whole_what_is_in_a_concept.main.body.getD i (.Pass ⟨0, 0, 0, 0⟩)
def b_is_integer : GB :=
  (.cons (.ret (.and_ (.blt .isinstance (.cons (.slot 0) (.cons (.bty "int") .nil))) (.not_ (.blt .isinstance (.cons (.slot 0) (.cons (.bty "bool") .nil))))))
  .nil)
def N_is_integer : List Str := ["thing"]
def p_is_integer : List Str := ["thing"]
def k_is_integer : List (Nat × List Str) := []
theorem t_is_integer : TextOk ⟨"is_integer", (top 1), p_is_integer, N_is_integer, k_is_integer, b_is_integer, fun _ _ _ _ _ => False, none⟩ := ⟨⟨rfl, rfl, rfl, by decide +kernel, rfl, by decide +kernel, by decide +kernel⟩, by decide +kernel⟩
def b_is_between : GB :=
  (.cons (.ret (.and_ (.call "is_integer" (.cons (.slot 0) .nil)) (.cmp2 .LtE .LtE (.slot 1) (.slot 0) (.slot 2))))
  .nil)
def N_is_between : List Str := ["thing", "least", "most"]
def p_is_between : List Str := ["thing", "least", "most"]
def k_is_between : List (Nat × List Str) := []
theorem t_is_between : TextOk ⟨"is_between", (top 2), p_is_between, N_is_between, k_is_between, b_is_between, fun _ _ _ _ _ => False, none⟩ := ⟨⟨rfl, rfl, rfl, by decide +kernel, rfl, by decide +kernel, by decide +kernel⟩, by decide +kernel⟩
def b_is_row : GB :=
  (.cons (.ret (.and_ (.blt .isinstance (.cons (.slot 0) (.cons (.bty "tuple") .nil))) (.cmp .Eq (.blt .len (.cons (.slot 0) .nil)) (.slot 1))))
  .nil)
def N_is_row : List Str := ["thing", "many"]
def p_is_row : List Str := ["thing", "many"]
def k_is_row : List (Nat × List Str) := []
theorem t_is_row : TextOk ⟨"is_row", (top 3), p_is_row, N_is_row, k_is_row, b_is_row, fun _ _ _ _ _ => False, none⟩ := ⟨⟨rfl, rfl, rfl, by decide +kernel, rfl, by decide +kernel, by decide +kernel⟩, by decide +kernel⟩
def b_are_rising : GB :=
  (.cons (.ret (.blt .all (.cons (.lc [("near", 1), ("far", 2)] (.tup (.cons (.name 1) (.cons (.name 2) .nil))) (.zip (.slot 0) (.slc (.slot 0) (.some (.int 1)) .none)) .none (.cmp .Lt (.slot 1) (.slot 2))) .nil)))
  .nil)
def N_are_rising : List Str := ["items", "near", "far"]
def p_are_rising : List Str := ["items"]
def k_are_rising : List (Nat × List Str) := []
theorem t_are_rising : TextOk ⟨"are_rising", (top 4), p_are_rising, N_are_rising, k_are_rising, b_are_rising, fun _ _ _ _ _ => False, none⟩ := ⟨⟨rfl, rfl, rfl, by decide +kernel, rfl, by decide +kernel, by decide +kernel⟩, by decide +kernel⟩
def b_is_kind : GB :=
  (.cons (.ret (.and_ (.call "is_row" (.cons (.slot 0) (.cons (.slot 2) .nil))) (.and_ (.blt .isinstance (.cons (.idx (.slot 0) (.int 0)) (.cons (.bty "str") .nil))) (.cmp .Eq (.idx (.slot 0) (.int 0)) (.slot 1)))))
  .nil)
def N_is_kind : List Str := ["thing", "word", "many"]
def p_is_kind : List Str := ["thing", "word", "many"]
def k_is_kind : List (Nat × List Str) := []
theorem t_is_kind : TextOk ⟨"is_kind", (top 5), p_is_kind, N_is_kind, k_is_kind, b_is_kind, fun _ _ _ _ _ => False, none⟩ := ⟨⟨rfl, rfl, rfl, by decide +kernel, rfl, by decide +kernel, by decide +kernel⟩, by decide +kernel⟩
def b_is_word_value : GB :=
  (.cons (.if_ (.or_ (.not_ (.blt .isinstance (.cons (.slot 0) (.cons (.bty "str") .nil)))) (.or_ (.not_ (.cmp2 .LtE .LtE (.int 1) (.blt .len (.cons (.slot 0) .nil)) (.val "MOST_LETTERS"))) (.cmp .In (.slot 0) (.val "RESERVED"))))
  (.cons (.ret (.bl false))
  .nil)
  .nil)
  (.cons (.ret (.blt .all (.cons (.lc [("letter", 1)] (.name 1) (.ex (.slot 0)) .none (.cmp .In (.slot 1) (.val "LETTERS"))) .nil)))
  .nil))
def N_is_word_value : List Str := ["thing", "letter"]
def p_is_word_value : List Str := ["thing"]
def k_is_word_value : List (Nat × List Str) := []
theorem t_is_word_value : TextOk ⟨"is_word_value", (top 19), p_is_word_value, N_is_word_value, k_is_word_value, b_is_word_value, fun _ _ _ _ _ => False, none⟩ := ⟨⟨rfl, rfl, rfl, by decide +kernel, rfl, by decide +kernel, by decide +kernel⟩, by decide +kernel⟩
def b_is_concept_value : GB :=
  (.cons (.if_ (.or_ (.call "is_kind" (.cons (.slot 0) (.cons (.str "all") (.cons (.int 1) .nil)))) (.call "is_kind" (.cons (.slot 0) (.cons (.str "none") (.cons (.int 1) .nil)))))
  (.cons (.ret (.bl true))
  .nil)
  .nil)
  (.cons (.if_ (.call "is_kind" (.cons (.slot 0) (.cons (.val "WORD") (.cons (.int 2) .nil))))
  (.cons (.ret (.call "is_word_value" (.cons (.idx (.slot 0) (.int 1)) .nil)))
  .nil)
  .nil)
  (.cons (.if_ (.call "is_kind" (.cons (.slot 0) (.cons (.val "AND") (.cons (.int 3) .nil))))
  (.cons (.ret (.and_ (.call "is_concept_value" (.cons (.idx (.slot 0) (.int 1)) .nil)) (.call "is_concept_value" (.cons (.idx (.slot 0) (.int 2)) .nil))))
  .nil)
  .nil)
  (.cons (.ret (.and_ (.call "is_kind" (.cons (.slot 0) (.cons (.val "SOME") (.cons (.int 3) .nil)))) (.and_ (.call "is_word_value" (.cons (.idx (.slot 0) (.int 1)) .nil)) (.call "is_concept_value" (.cons (.idx (.slot 0) (.int 2)) .nil)))))
  .nil))))
def N_is_concept_value : List Str := ["thing"]
def p_is_concept_value : List Str := ["thing"]
def k_is_concept_value : List (Nat × List Str) := []
theorem t_is_concept_value : TextOk ⟨"is_concept_value", (top 20), p_is_concept_value, N_is_concept_value, k_is_concept_value, b_is_concept_value, fun _ _ _ _ _ => False, none⟩ := ⟨⟨rfl, rfl, rfl, by decide +kernel, rfl, by decide +kernel, by decide +kernel⟩, by decide +kernel⟩
def b_need_concept : GB :=
  (.cons (.if_ (.not_ (.call "is_concept_value" (.cons (.slot 0) .nil)))
  (.cons .dead
  .nil)
  .nil)
  .nil)
def N_need_concept : List Str := ["concept"]
def p_need_concept : List Str := ["concept"]
def k_need_concept : List (Nat × List Str) := []
theorem t_need_concept : TextOk ⟨"need_concept", (top 21), p_need_concept, N_need_concept, k_need_concept, b_need_concept, fun _ _ _ _ _ => False, none⟩ := ⟨⟨rfl, rfl, rfl, by decide +kernel, rfl, by decide +kernel, by decide +kernel⟩, by decide +kernel⟩
def b_text_of : GB :=
  (.cons (.if_ (.cmp .Eq (.idx (.slot 0) (.int 0)) (.val "WORD"))
  (.cons (.ret (.idx (.slot 0) (.int 1)))
  .nil)
  .nil)
  (.cons (.if_ (.cmp .Eq (.idx (.slot 0) (.int 0)) (.val "AND"))
  (.cons (.ret (.bin .Add (.bin .Add (.bin .Add (.bin .Add (.str "(") (.call "text_of" (.cons (.idx (.slot 0) (.int 1)) .nil))) (.str " and ")) (.call "text_of" (.cons (.idx (.slot 0) (.int 2)) .nil))) (.str ")")))
  .nil)
  .nil)
  (.cons (.if_ (.cmp .Eq (.idx (.slot 0) (.int 0)) (.val "SOME"))
  (.cons (.ret (.bin .Add (.bin .Add (.bin .Add (.str "some ") (.idx (.slot 0) (.int 1))) (.str " ")) (.call "text_of" (.cons (.idx (.slot 0) (.int 2)) .nil))))
  .nil)
  .nil)
  (.cons (.ret (.idx (.slot 0) (.int 0)))
  .nil))))
def N_text_of : List Str := ["concept"]
def p_text_of : List Str := ["concept"]
def k_text_of : List (Nat × List Str) := []
theorem t_text_of : TextOk ⟨"text_of", (top 22), p_text_of, N_text_of, k_text_of, b_text_of, fun _ _ _ _ _ => False, none⟩ := ⟨⟨rfl, rfl, rfl, by decide +kernel, rfl, by decide +kernel, by decide +kernel⟩, by decide +kernel⟩
def b_is_thing_of : GB :=
  (.cons (.ret (.call "is_between" (.cons (.slot 1) (.cons (.int 0) (.cons (.bin .Sub (.slot 0) (.int 1)) .nil)))))
  .nil)
def N_is_thing_of : List Str := ["many", "thing"]
def p_is_thing_of : List Str := ["many", "thing"]
def k_is_thing_of : List (Nat × List Str) := []
theorem t_is_thing_of : TextOk ⟨"is_thing_of", (top 25), p_is_thing_of, N_is_thing_of, k_is_thing_of, b_is_thing_of, fun _ _ _ _ _ => False, none⟩ := ⟨⟨rfl, rfl, rfl, by decide +kernel, rfl, by decide +kernel, by decide +kernel⟩, by decide +kernel⟩
def b_is_tie : GB :=
  (.cons (.ret (.and_ (.call "is_row" (.cons (.slot 1) (.cons (.int 2) .nil))) (.and_ (.call "is_thing_of" (.cons (.slot 0) (.cons (.idx (.slot 1) (.int 0)) .nil))) (.call "is_thing_of" (.cons (.slot 0) (.cons (.idx (.slot 1) (.int 1)) .nil))))))
  .nil)
def N_is_tie : List Str := ["many", "thing"]
def p_is_tie : List Str := ["many", "thing"]
def k_is_tie : List (Nat × List Str) := []
theorem t_is_tie : TextOk ⟨"is_tie", (top 26), p_is_tie, N_is_tie, k_is_tie, b_is_tie, fun _ _ _ _ _ => False, none⟩ := ⟨⟨rfl, rfl, rfl, by decide +kernel, rfl, by decide +kernel, by decide +kernel⟩, by decide +kernel⟩
def b_are_listed : GB :=
  (.cons (.if_ (.or_ (.not_ (.blt .isinstance (.cons (.slot 0) (.cons (.bty "tuple") .nil)))) (.or_ (.cmp .Eq (.slot 0) (.tup .nil)) (.not_ (.blt .all (.cons (.lc [("item", 3)] (.name 3) (.ex (.slot 0)) .none (.callv 2 (.cons (.slot 1) (.cons (.slot 3) .nil)))) .nil)))))
  (.cons (.ret (.bl false))
  .nil)
  .nil)
  (.cons (.ret (.call "are_rising" (.cons (.slot 0) .nil)))
  .nil))
def N_are_listed : List Str := ["thing", "many", "is_item", "item"]
def p_are_listed : List Str := ["thing", "many", "is_item"]
def k_are_listed : List (Nat × List Str) := []
theorem t_are_listed : TextOk ⟨"are_listed", (top 27), p_are_listed, N_are_listed, k_are_listed, b_are_listed, fun _ _ _ _ _ => False, none⟩ := ⟨⟨rfl, rfl, rfl, by decide +kernel, rfl, by decide +kernel, by decide +kernel⟩, by decide +kernel⟩
def b_is_list : GB :=
  (.cons (.if_ (.or_ (.not_ (.blt .isinstance (.cons (.slot 0) (.cons (.bty "tuple") .nil)))) (.not_ (.blt .all (.cons (.lc [("pair", 3)] (.name 3) (.ex (.slot 0)) .none (.and_ (.call "is_row" (.cons (.slot 3) (.cons (.int 2) .nil))) (.call "is_word_value" (.cons (.idx (.slot 3) (.int 0)) .nil)))) .nil))))
  (.cons (.ret (.bl false))
  .nil)
  .nil)
  (.cons (.ret (.and_ (.call "are_rising" (.cons (.lc [("pair", 3)] (.name 3) (.ex (.slot 0)) .none (.idx (.slot 3) (.int 0))) .nil)) (.blt .all (.cons (.lc [("pair", 3)] (.name 3) (.ex (.slot 0)) .none (.call "are_listed" (.cons (.idx (.slot 3) (.int 1)) (.cons (.slot 1) (.cons (.slot 2) .nil))))) .nil))))
  .nil))
def N_is_list : List Str := ["thing", "many", "is_item", "pair"]
def p_is_list : List Str := ["thing", "many", "is_item"]
def k_is_list : List (Nat × List Str) := []
theorem t_is_list : TextOk ⟨"is_list", (top 28), p_is_list, N_is_list, k_is_list, b_is_list, fun _ _ _ _ _ => False, none⟩ := ⟨⟨rfl, rfl, rfl, by decide +kernel, rfl, by decide +kernel, by decide +kernel⟩, by decide +kernel⟩
def b_is_world_value : GB :=
  (.cons (.if_ (.or_ (.not_ (.call "is_row" (.cons (.slot 0) (.cons (.int 3) .nil)))) (.not_ (.call "is_between" (.cons (.idx (.slot 0) (.int 0)) (.cons (.int 1) (.cons (.val "MOST_THINGS") .nil))))))
  (.cons (.ret (.bl false))
  .nil)
  .nil)
  (.cons (.ret (.and_ (.call "is_list" (.cons (.idx (.slot 0) (.int 1)) (.cons (.idx (.slot 0) (.int 0)) (.cons (.fnv "is_thing_of") .nil)))) (.call "is_list" (.cons (.idx (.slot 0) (.int 2)) (.cons (.idx (.slot 0) (.int 0)) (.cons (.fnv "is_tie") .nil))))))
  .nil))
def N_is_world_value : List Str := ["thing"]
def p_is_world_value : List Str := ["thing"]
def k_is_world_value : List (Nat × List Str) := []
theorem t_is_world_value : TextOk ⟨"is_world_value", (top 29), p_is_world_value, N_is_world_value, k_is_world_value, b_is_world_value, fun _ _ _ _ _ => False, none⟩ := ⟨⟨rfl, rfl, rfl, by decide +kernel, rfl, by decide +kernel, by decide +kernel⟩, by decide +kernel⟩
def b_need_world : GB :=
  (.cons (.if_ (.not_ (.call "is_world_value" (.cons (.slot 0) .nil)))
  (.cons .dead
  .nil)
  .nil)
  .nil)
def N_need_world : List Str := ["world"]
def p_need_world : List Str := ["world"]
def k_need_world : List (Nat × List Str) := []
theorem t_need_world : TextOk ⟨"need_world", (top 30), p_need_world, N_need_world, k_need_world, b_need_world, fun _ _ _ _ _ => False, none⟩ := ⟨⟨rfl, rfl, rfl, by decide +kernel, rfl, by decide +kernel, by decide +kernel⟩, by decide +kernel⟩
def b_things_of : GB :=
  (.cons (.ret (.mtd "things" (.make "Scene" (.cons (.slot 0) .nil)) (.cons (.slot 1) .nil)))
  .nil)
def N_things_of : List Str := ["world", "concept"]
def p_things_of : List Str := ["world", "concept"]
def k_things_of : List (Nat × List Str) := []
theorem t_things_of : TextOk ⟨"things_of", (top 32), p_things_of, N_things_of, k_things_of, b_things_of, fun _ _ _ _ _ => False, none⟩ := ⟨⟨rfl, rfl, rfl, by decide +kernel, rfl, by decide +kernel, by decide +kernel⟩, by decide +kernel⟩
def b_things_in : GB :=
  (.cons (.expr (.call "need_world" (.cons (.slot 0) .nil)))
  (.cons (.expr (.call "need_concept" (.cons (.slot 1) .nil)))
  (.cons (.ret (.call "things_of" (.cons (.slot 0) (.cons (.slot 1) .nil))))
  .nil)))
def N_things_in : List Str := ["world", "concept"]
def p_things_in : List Str := ["world", "concept"]
def k_things_in : List (Nat × List Str) := [(0, ["concept", "world"])]
theorem t_things_in : TextOk ⟨"things_in", (top 34), p_things_in, N_things_in, k_things_in, b_things_in, fun _ _ _ _ _ => False, none⟩ := ⟨⟨rfl, rfl, rfl, by decide +kernel, rfl, by decide +kernel, by decide +kernel⟩, by decide +kernel⟩
def b_does_hold_in : GB :=
  (.cons (.expr (.call "need_world" (.cons (.slot 0) .nil)))
  (.cons (.expr (.call "need_concept" (.cons (.slot 1) .nil)))
  (.cons (.expr (.call "need_concept" (.cons (.slot 2) .nil)))
  (.cons (.ret (.cmp .Eq (.mtd "outside" (.make "Scene" (.cons (.slot 0) .nil)) (.cons (.slot 1) (.cons (.slot 2) .nil))) (.lst .nil)))
  .nil))))
def N_does_hold_in : List Str := ["world", "left", "right"]
def p_does_hold_in : List Str := ["world", "left", "right"]
def k_does_hold_in : List (Nat × List Str) := [(0, ["right", "left", "world"])]
theorem t_does_hold_in : TextOk ⟨"does_hold_in", (top 35), p_does_hold_in, N_does_hold_in, k_does_hold_in, b_does_hold_in, fun _ _ _ _ _ => False, none⟩ := ⟨⟨rfl, rfl, rfl, by decide +kernel, rfl, by decide +kernel, by decide +kernel⟩, by decide +kernel⟩
def b_law_deck : GB :=
  (.cons (.set (.name 1) (.int 1440706))
  (.cons (.for_ (.name 2) (.ex (.slc (.slot 0) .none (.some (.int 63))))
  (.cons (.set (.name 1) (.bin .Mod (.blt .int (.cons (.bin .Add (.bin .Add (.bin .Mult (.slot 1) (.int 39373)) (.bin .Mod (.blt .int (.cons (.slot 2) .nil)) (.int 2147483629))) (.int 7)) .nil)) (.int 2147483647)))
  .nil))
  (.cons (.ret (.dct (.cons (.str "left") (.rev (.lc [("cell", 2)] (.name 2) (.ex (.slc (.slot 0) .none (.some (.int 63)))) .none (.blt .int (.cons (.slot 2) .nil)))) (.cons (.str "mixed") (.slot 1) (.cons (.str "turn") (.int 0) .nil)))))
  .nil)))
def N_law_deck : List Str := ["script", "mixed", "cell"]
def p_law_deck : List Str := ["script"]
def k_law_deck : List (Nat × List Str) := []
theorem t_law_deck : TextOk ⟨"_law_deck", (top 37), p_law_deck, N_law_deck, k_law_deck, b_law_deck, fun _ _ _ _ _ => False, none⟩ := ⟨⟨rfl, rfl, rfl, by decide +kernel, rfl, by decide +kernel, by decide +kernel⟩, by decide +kernel⟩
def b_law_draw : GB :=
  (.cons (.setIx (.slot 0) (.str "turn") (.bin .Add (.idx (.slot 0) (.str "turn")) (.int 1)))
  (.cons (.set (.name 2) (.bin .Add (.idx (.slot 0) (.str "mixed")) (.bin .Mult (.int 90001) (.idx (.slot 0) (.str "turn")))))
  (.cons (.if_ (.cmp .NotEq (.idx (.slot 0) (.str "left")) (.lst .nil))
  (.cons (.set (.name 3) (.mth .pop (.idx (.slot 0) (.str "left")) .nil))
  (.cons (.if_ (.cmp .GtE (.slot 3) (.bin .Pow (.int 10) (.int 18)))
  (.cons (.expr (.mth .append (.idx (.slot 0) (.str "left")) (.cons (.bin .FloorDiv (.slot 3) (.blt .max (.cons (.int 2) (.cons (.slot 1) .nil)))) .nil)))
  (.cons (.ret (.bin .Mod (.blt .int (.cons (.slot 3) .nil)) (.slot 1)))
  .nil))
  .nil)
  (.cons (.setIx (.slot 0) (.str "mixed") (.bin .Mod (.blt .int (.cons (.bin .Add (.bin .Add (.bin .Mult (.idx (.slot 0) (.str "mixed")) (.int 16807)) (.bin .Mod (.blt .int (.cons (.slot 3) .nil)) (.int 2147483587))) (.int 3)) .nil)) (.int 2147483647)))
  (.cons (.set (.name 2) (.bin .Add (.slot 2) (.bin .Mod (.blt .int (.cons (.slot 3) .nil)) (.int 2147483563))))
  .nil))))
  .nil)
  (.cons (.set (.name 2) (.bin .Mod (.blt .int (.cons (.bin .Add (.bin .Mult (.slot 2) (.int 16807)) (.int 23)) .nil)) (.int 2147483629)))
  (.cons (.set (.name 2) (.bin .Mod (.blt .int (.cons (.bin .Add (.bin .Add (.bin .Mult (.slot 2) (.slot 2)) (.bin .Mult (.int 77773) (.idx (.slot 0) (.str "turn")))) (.int 5)) .nil)) (.int 2147483587)))
  (.cons (.set (.name 2) (.bin .Mod (.blt .int (.cons (.bin .Add (.bin .Mult (.slot 2) (.int 40692)) (.int 3)) .nil)) (.int 2147483563)))
  (.cons (.ret (.bin .Mod (.blt .int (.cons (.bin .FloorDiv (.slot 2) (.int 64)) .nil)) (.slot 1)))
  .nil)))))))
def N_law_draw : List Str := ["deck", "below", "figure", "cell"]
def p_law_draw : List Str := ["deck", "below"]
def k_law_draw : List (Nat × List Str) := []
theorem t_law_draw : TextOk ⟨"_law_draw", (top 38), p_law_draw, N_law_draw, k_law_draw, b_law_draw, fun _ _ _ _ _ => False, none⟩ := ⟨⟨rfl, rfl, rfl, by decide +kernel, rfl, by decide +kernel, by decide +kernel⟩, by decide +kernel⟩
def b_law_pick : GB :=
  (.cons (.ret (.idx (.slot 1) (.call "_law_draw" (.cons (.slot 0) (.cons (.blt .len (.cons (.slot 1) .nil)) .nil)))))
  .nil)
def N_law_pick : List Str := ["deck", "some"]
def p_law_pick : List Str := ["deck", "some"]
def k_law_pick : List (Nat × List Str) := []
theorem t_law_pick : TextOk ⟨"_law_pick", (top 39), p_law_pick, N_law_pick, k_law_pick, b_law_pick, fun _ _ _ _ _ => False, none⟩ := ⟨⟨rfl, rfl, rfl, by decide +kernel, rfl, by decide +kernel, by decide +kernel⟩, by decide +kernel⟩
def b_law_name : GB :=
  (.cons (.set (.name 2) (.str "abcdefghijklmnopqrstuvwxyz"))
  (.cons (.set (.name 3) (.mth .join (.str "") (.cons (.lc [("turn", 4)] (.name 4) (.range1 (.bin .Add (.int 1) (.call "_law_pick" (.cons (.slot 0) (.cons (.lst (.cons (.int 0) (.cons (.int 0) (.cons (.int 1) (.cons (.int 2) (.cons (.int 3) (.cons (.int 9) .nil))))))) .nil))))) .none (.idx (.slot 2) (.call "_law_draw" (.cons (.slot 0) (.cons (.int 26) .nil))))) .nil)))
  (.cons (.set (.name 3) (.ite (.cmp .Eq (.call "_law_draw" (.cons (.slot 0) (.cons (.int 6) .nil))) (.int 0)) (.call "_law_pick" (.cons (.slot 0) (.cons (.lst (.cons (.str "alls") (.cons (.str "somes") (.cons (.str "an") (.cons (.str "ands") (.cons (.str "eachx") (.cons (.str "i") (.cons (.str "iss") (.cons (.str "so") (.cons (.str "nones") (.cons (.str "al") .nil))))))))))) .nil))) (.slot 3)))
  (.cons (.for_ (.name 4) (.range1 (.bin .Add (.blt .len (.cons (.slot 1) .nil)) (.int 2)))
  (.cons (.if_ (.or_ (.cmp .In (.slot 3) (.slot 1)) (.not_ (.call "_law_is_word" (.cons (.slot 3) .nil))))
  (.cons (.set (.name 3) (.bin .Add (.bin .Add (.bin .Add (.slc (.slot 3) .none (.some (.int 1))) (.idx (.slot 2) (.bin .FloorDiv (.slot 4) (.int 26)))) (.idx (.slot 2) (.bin .Mod (.blt .int (.cons (.slot 4) .nil)) (.int 26)))) (.str "q")))
  .nil)
  .nil)
  .nil))
  (.cons (.ret (.slot 3))
  .nil)))))
def N_law_name : List Str := ["deck", "found", "signs", "name", "turn"]
def p_law_name : List Str := ["deck", "found"]
def k_law_name : List (Nat × List Str) := []
theorem t_law_name : TextOk ⟨"_law_name", (top 40), p_law_name, N_law_name, k_law_name, b_law_name, fun _ _ _ _ _ => False, none⟩ := ⟨⟨rfl, rfl, rfl, by decide +kernel, rfl, by decide +kernel, by decide +kernel⟩, by decide +kernel⟩
def b_law_words : GB :=
  (.cons (.set (.name 2) (.lst .nil))
  (.cons (.for_ (.name 3) (.range1 (.slot 1))
  (.cons (.expr (.mth .append (.slot 2) (.cons (.call "_law_name" (.cons (.slot 0) (.cons (.slot 2) .nil))) .nil)))
  .nil))
  (.cons (.ret (.slot 2))
  .nil)))
def N_law_words : List Str := ["deck", "many", "found", "turn"]
def p_law_words : List Str := ["deck", "many"]
def k_law_words : List (Nat × List Str) := []
theorem t_law_words : TextOk ⟨"_law_words", (top 41), p_law_words, N_law_words, k_law_words, b_law_words, fun _ _ _ _ _ => False, none⟩ := ⟨⟨rfl, rfl, rfl, by decide +kernel, rfl, by decide +kernel, by decide +kernel⟩, by decide +kernel⟩
def b_law_is_word : GB :=
  (.cons (.if_ (.or_ (.not_ (.blt .isinstance (.cons (.slot 0) (.cons (.bty "str") .nil)))) (.or_ (.not_ (.cmp2 .Lt .Lt (.int 0) (.blt .len (.cons (.slot 0) .nil)) (.int 11))) (.cmp .In (.slot 0) (.tup (.cons (.str "all") (.cons (.str "none") (.cons (.str "some") (.cons (.str "and") (.cons (.str "each") (.cons (.str "is") .nil))))))))))
  (.cons (.ret (.bl false))
  .nil)
  .nil)
  (.cons (.ret (.cmp .Eq (.lc [("sign", 1)] (.name 1) (.ex (.slot 0)) (.some (.cmp .NotIn (.slot 1) (.str "abcdefghijklmnopqrstuvwxyz"))) (.slot 1)) (.lst .nil)))
  .nil))
def N_law_is_word : List Str := ["thing", "sign"]
def p_law_is_word : List Str := ["thing"]
def k_law_is_word : List (Nat × List Str) := []
theorem t_law_is_word : TextOk ⟨"_law_is_word", (top 42), p_law_is_word, N_law_is_word, k_law_is_word, b_law_is_word, fun _ _ _ _ _ => False, none⟩ := ⟨⟨rfl, rfl, rfl, by decide +kernel, rfl, by decide +kernel, by decide +kernel⟩, by decide +kernel⟩
def b_law_concept : GB :=
  (.cons (.set (.name 3) (.ite (.cmp .Gt (.slot 2) (.int 0)) (.call "_law_draw" (.cons (.slot 0) (.cons (.int 9) .nil))) (.call "_law_draw" (.cons (.slot 0) (.cons (.int 4) .nil)))))
  (.cons (.if_ (.cmp .Lt (.slot 3) (.int 3))
  (.cons (.ret (.tup (.cons (.str "word") (.cons (.call "_law_pick" (.cons (.slot 0) (.cons (.slot 1) .nil))) .nil))))
  .nil)
  .nil)
  (.cons (.if_ (.cmp .Eq (.slot 3) (.int 3))
  (.cons (.ret (.ite (.cmp .Eq (.call "_law_draw" (.cons (.slot 0) (.cons (.int 2) .nil))) (.int 0)) (.tup (.cons (.str "all") .nil)) (.tup (.cons (.str "none") .nil))))
  .nil)
  .nil)
  (.cons (.if_ (.cmp .Lt (.slot 3) (.int 6))
  (.cons (.ret (.tup (.cons (.str "some") (.cons (.call "_law_pick" (.cons (.slot 0) (.cons (.slot 1) .nil))) (.cons (.call "_law_concept" (.cons (.slot 0) (.cons (.slot 1) (.cons (.bin .Sub (.slot 2) (.int 1)) .nil)))) .nil)))))
  .nil)
  .nil)
  (.cons (.ret (.tup (.cons (.str "and") (.cons (.call "_law_concept" (.cons (.slot 0) (.cons (.slot 1) (.cons (.bin .Sub (.slot 2) (.int 1)) .nil)))) (.cons (.call "_law_concept" (.cons (.slot 0) (.cons (.slot 1) (.cons (.bin .Sub (.slot 2) (.int 1)) .nil)))) .nil)))))
  .nil)))))
def N_law_concept : List Str := ["deck", "words", "deep", "way"]
def p_law_concept : List Str := ["deck", "words", "deep"]
def k_law_concept : List (Nat × List Str) := []
theorem t_law_concept : TextOk ⟨"_law_concept", (top 43), p_law_concept, N_law_concept, k_law_concept, b_law_concept, fun _ _ _ _ _ => False, none⟩ := ⟨⟨rfl, rfl, rfl, by decide +kernel, rfl, by decide +kernel, by decide +kernel⟩, by decide +kernel⟩
def b_law_long : GB :=
  (.cons (.set (.name 2) (.tup (.cons (.str "word") (.cons (.call "_law_pick" (.cons (.slot 0) (.cons (.slot 1) .nil))) .nil))))
  (.cons (.for_ (.name 3) (.range1 (.bin .Add (.int 4) (.call "_law_draw" (.cons (.slot 0) (.cons (.int 7) .nil)))))
  (.cons (.set (.name 4) (.tup (.cons (.str "word") (.cons (.call "_law_pick" (.cons (.slot 0) (.cons (.slot 1) .nil))) .nil))))
  (.cons (.set (.name 2) (.call "_law_pick" (.cons (.slot 0) (.cons (.lst (.cons (.tup (.cons (.str "some") (.cons (.idx (.slot 4) (.int 1)) (.cons (.slot 2) .nil)))) (.cons (.tup (.cons (.str "and") (.cons (.slot 2) (.cons (.slot 4) .nil)))) (.cons (.tup (.cons (.str "and") (.cons (.slot 4) (.cons (.slot 2) .nil)))) (.cons (.tup (.cons (.str "some") (.cons (.idx (.slot 1) (.int 0)) (.cons (.slot 2) .nil)))) .nil))))) .nil))))
  .nil)))
  (.cons (.ret (.slot 2))
  .nil)))
def N_law_long : List Str := ["deck", "words", "found", "turn", "other"]
def p_law_long : List Str := ["deck", "words"]
def k_law_long : List (Nat × List Str) := []
theorem t_law_long : TextOk ⟨"_law_long", (top 44), p_law_long, N_law_long, k_law_long, b_law_long, fun _ _ _ _ _ => False, none⟩ := ⟨⟨rfl, rfl, rfl, by decide +kernel, rfl, by decide +kernel, by decide +kernel⟩, by decide +kernel⟩
def b_law_world : GB :=
  (.cons (.par [4, 5, 6] (.cons (.bin .Add (.int 1) (.call "_law_draw" (.cons (.slot 0) (.cons (.slot 2) .nil)))) (.cons (.lst .nil) (.cons (.lst .nil) .nil))))
  (.cons (.for_ (.name 3) (.ex (.blt .sorted (.cons (.slot 1) .nil)))
  (.cons (.set (.tup (.cons (.name 10) (.cons (.name 11) .nil))) (.tup (.cons (.call "_law_pick" (.cons (.slot 0) (.cons (.lst (.cons (.int 0) (.cons (.int 1) (.cons (.int 2) (.cons (.int 3) (.cons (.int 4) .nil)))))) .nil))) (.cons (.call "_law_pick" (.cons (.slot 0) (.cons (.lst (.cons (.int 0) (.cons (.int 1) (.cons (.int 1) (.cons (.int 2) (.cons (.int 3) .nil)))))) .nil))) .nil))))
  (.cons (.set (.name 7) (.blt .tuple (.cons (.lc [("x", 9)] (.name 9) (.range1 (.slot 4)) (.some (.cmp .Lt (.call "_law_draw" (.cons (.slot 0) (.cons (.int 4) .nil))) (.slot 10))) (.slot 9)) .nil)))
  (.cons (.set (.name 8) (.lst .nil))
  (.cons (.for_ (.name 9) (.range1 (.slot 4))
  (.cons (.expr (.mth .extend (.slot 8) (.cons (.lc [("y", 12)] (.name 12) (.range1 (.slot 4)) (.some (.cmp .Lt (.call "_law_draw" (.cons (.slot 0) (.cons (.int 5) .nil))) (.slot 11))) (.tup (.cons (.slot 9) (.cons (.slot 12) .nil)))) .nil)))
  .nil))
  (.cons (.expr (.mth .extend (.slot 5) (.cons (.ite (.cmp .NotEq (.slot 7) (.tup .nil)) (.lst (.cons (.tup (.cons (.slot 3) (.cons (.slot 7) .nil))) .nil)) (.lst .nil)) .nil)))
  (.cons (.expr (.mth .extend (.slot 6) (.cons (.ite (.cmp .NotEq (.slot 8) (.lst .nil)) (.lst (.cons (.tup (.cons (.slot 3) (.cons (.blt .tuple (.cons (.slot 8) .nil)) .nil))) .nil)) (.lst .nil)) .nil)))
  .nil)))))))
  (.cons (.ret (.tup (.cons (.slot 4) (.cons (.blt .tuple (.cons (.slot 5) .nil)) (.cons (.blt .tuple (.cons (.slot 6) .nil)) .nil)))))
  .nil)))
def N_law_world : List Str := ["deck", "words", "most", "word", "many", "names", "roles", "things", "pairs", "x", "few", "ties", "y"]
def p_law_world : List Str := ["deck", "words", "most"]
def k_law_world : List (Nat × List Str) := []
theorem t_law_world : TextOk ⟨"_law_world", (top 45), p_law_world, N_law_world, k_law_world, b_law_world, fun _ _ _ _ _ => False, none⟩ := ⟨⟨rfl, rfl, rfl, by decide +kernel, rfl, by decide +kernel, by decide +kernel⟩, by decide +kernel⟩
def b_law_things : GB :=
  (.cons (.if_ (.or_ (.cmp .Eq (.slot 2) (.int 0)) (.cmp .Eq (.idx (.slot 1) (.int 0)) (.str "none")))
  (.cons (.ret (.lst .nil))
  .nil)
  .nil)
  (.cons (.if_ (.cmp .Eq (.idx (.slot 1) (.int 0)) (.str "all"))
  (.cons (.ret (.lrg (.idx (.slot 0) (.int 0))))
  .nil)
  .nil)
  (.cons (.if_ (.cmp .Eq (.idx (.slot 1) (.int 0)) (.str "word"))
  (.cons (.ret (.blt .list (.cons (.mth .get (.blt .dictP (.cons (.blt .list (.cons (.idx (.slot 0) (.int 1)) .nil)) .nil)) (.cons (.idx (.slot 1) (.int 1)) (.cons (.tup .nil) .nil))) .nil)))
  .nil)
  .nil)
  (.cons (.if_ (.cmp .Eq (.idx (.slot 1) (.int 0)) (.str "and"))
  (.cons (.set (.name 4) (.call "_law_things" (.cons (.slot 0) (.cons (.idx (.slot 1) (.int 2)) (.cons (.bin .Sub (.slot 2) (.int 1)) .nil)))))
  (.cons (.ret (.lc [("x", 5)] (.name 5) (.ex (.call "_law_things" (.cons (.slot 0) (.cons (.idx (.slot 1) (.int 1)) (.cons (.bin .Sub (.slot 2) (.int 1)) .nil))))) (.some (.cmp .In (.slot 5) (.slot 4))) (.slot 5)))
  .nil))
  .nil)
  (.cons (.set (.name 3) (.call "_law_things" (.cons (.slot 0) (.cons (.idx (.slot 1) (.int 2)) (.cons (.bin .Sub (.slot 2) (.int 1)) .nil)))))
  (.cons (.ret (.sset (.lc [("x", 5), ("y", 6)] (.tup (.cons (.name 5) (.cons (.name 6) .nil))) (.ex (.mth .get (.blt .dictP (.cons (.blt .list (.cons (.idx (.slot 0) (.int 2)) .nil)) .nil)) (.cons (.idx (.slot 1) (.int 1)) (.cons (.tup .nil) .nil)))) (.some (.cmp .In (.slot 6) (.slot 3))) (.slot 5))))
  .nil))))))
def N_law_things : List Str := ["world", "concept", "deep", "goals", "others", "x", "y"]
def p_law_things : List Str := ["world", "concept", "deep"]
def k_law_things : List (Nat × List Str) := []
theorem t_law_things : TextOk ⟨"_law_things", (top 46), p_law_things, N_law_things, k_law_things, b_law_things, fun _ _ _ _ _ => False, none⟩ := ⟨⟨rfl, rfl, rfl, by decide +kernel, rfl, by decide +kernel, by decide +kernel⟩, by decide +kernel⟩
def b_law_is_tied : GB :=
  (.cons (.ret (.cmp .NotEq (.lc [("word", 4), ("pairs", 5)] (.tup (.cons (.name 4) (.cons (.name 5) .nil))) (.ex (.idx (.slot 0) (.int 2))) (.some (.and_ (.cmp .Eq (.slot 4) (.slot 1)) (.cmp .NotEq (.lc [("one", 6), ("other", 7)] (.tup (.cons (.name 6) (.cons (.name 7) .nil))) (.ex (.slot 5)) (.some (.and_ (.cmp .Eq (.slot 6) (.slot 2)) (.cmp .In (.slot 7) (.slot 3)))) (.int 1)) (.lst .nil)))) (.int 1)) (.lst .nil)))
  .nil)
def N_law_is_tied : List Str := ["world", "role", "x", "goals", "word", "pairs", "one", "other"]
def p_law_is_tied : List Str := ["world", "role", "x", "goals"]
def k_law_is_tied : List (Nat × List Str) := []
theorem t_law_is_tied : TextOk ⟨"_law_is_tied", (top 47), p_law_is_tied, N_law_is_tied, k_law_is_tied, b_law_is_tied, fun _ _ _ _ _ => False, none⟩ := ⟨⟨rfl, rfl, rfl, by decide +kernel, rfl, by decide +kernel, by decide +kernel⟩, by decide +kernel⟩
def b_law : GB :=
  (.cons (.set (.name 1) (.call "_law_deck" (.cons (.slot 0) .nil)))
  (.cons (.set (.name 2) (.call "_law_words" (.cons (.slot 1) (.cons (.int 4) .nil))))
  (.cons (.for_ (.name 3) (.range1 (.int 4))
  (.cons (.set (.name 4) (.call "_law_world" (.cons (.slot 1) (.cons (.slc (.slot 2) .none (.some (.int 3))) (.cons (.int 6) .nil)))))
  (.cons (.par [10, 11] (.cons (.call "_law_concept" (.cons (.slot 1) (.cons (.slot 2) (.cons (.int 3) .nil)))) (.cons (.ite (.cmp .Lt (.slot 3) (.int 3)) (.call "_law_concept" (.cons (.slot 1) (.cons (.slot 2) (.cons (.int 3) .nil)))) (.call "_law_long" (.cons (.slot 1) (.cons (.slot 2) .nil)))) .nil)))
  (.cons (.set (.name 5) (.call "_law_pick" (.cons (.slot 1) (.cons (.slot 2) .nil))))
  (.cons (.par [12, 13, 14] (.cons (.tup (.cons (.str "and") (.cons (.slot 10) (.cons (.slot 11) .nil)))) (.cons (.tup (.cons (.str "some") (.cons (.slot 5) (.cons (.slot 10) .nil)))) (.cons (.tup (.cons (.str "some") (.cons (.slot 5) (.cons (.slot 11) .nil)))) .nil))))
  (.cons (.set (.name 6) (.lst .nil))
  (.cons (.for_ (.name 7) (.ex (.tup (.cons (.slot 10) (.cons (.slot 11) (.cons (.slot 12) (.cons (.slot 13) (.cons (.slot 14) .nil)))))))
  (.cons (.set (.name 15) (.ite (.cmp .Gt (.slot 3) (.int 0)) (.call "things_in" (.cons (.slot 4) (.cons (.slot 7) .nil))) (.callk "things_in" .nil ["concept", "world"] (.cons (.slot 7) (.cons (.slot 4) .nil)))))
  (.cons (.if_ (.cmp .NotEq (.blt .repr (.cons (.slot 15) .nil)) (.blt .repr (.cons (.blt .tuple (.cons (.call "_law_things" (.cons (.slot 4) (.cons (.slot 7) (.cons (.int 40) .nil)))) .nil)) .nil)))
  (.cons (.ret (.bl false))
  .nil)
  .nil)
  (.cons (.expr (.mth .append (.slot 6) (.cons (.slot 15) .nil)))
  .nil))))
  (.cons (.if_ (.cmp .NotEq (.idx (.slot 6) (.int 2)) (.blt .tuple (.cons (.lc [("x", 19)] (.name 19) (.ex (.idx (.slot 6) (.int 0))) (.some (.cmp .In (.slot 19) (.idx (.slot 6) (.int 1)))) (.slot 19)) .nil)))
  (.cons (.ret (.bl false))
  .nil)
  .nil)
  (.cons (.if_ (.cmp .NotEq (.idx (.slot 6) (.int 3)) (.blt .tuple (.cons (.lc [("x", 19)] (.name 19) (.range1 (.idx (.slot 4) (.int 0))) (.some (.call "_law_is_tied" (.cons (.slot 4) (.cons (.slot 5) (.cons (.slot 19) (.cons (.idx (.slot 6) (.int 0)) .nil)))))) (.slot 19)) .nil)))
  (.cons (.ret (.bl false))
  .nil)
  .nil)
  (.cons (.set (.name 8) (.cmp .Eq (.lc [("x", 19)] (.name 19) (.ex (.idx (.slot 6) (.int 0))) (.some (.cmp .NotIn (.slot 19) (.idx (.slot 6) (.int 1)))) (.slot 19)) (.lst .nil)))
  (.cons (.set (.name 9) (.lst (.cons (.tup (.cons (.slot 10) (.cons (.slot 11) (.cons (.slot 8) .nil)))) (.cons (.tup (.cons (.slot 12) (.cons (.slot 10) (.cons (.bl true) .nil)))) (.cons (.tup (.cons (.slot 12) (.cons (.slot 11) (.cons (.bl true) .nil)))) (.cons (.tup (.cons (.tup (.cons (.str "none") .nil)) (.cons (.slot 10) (.cons (.bl true) .nil)))) (.cons (.tup (.cons (.slot 11) (.cons (.tup (.cons (.str "all") .nil)) (.cons (.bl true) .nil)))) .nil)))))))
  (.cons (.expr (.mth .append (.slot 9) (.cons (.tup (.cons (.slot 13) (.cons (.slot 14) (.cons (.cmp .Eq (.lc [("x", 19)] (.name 19) (.ex (.idx (.slot 6) (.int 3))) (.some (.cmp .NotIn (.slot 19) (.idx (.slot 6) (.int 4)))) (.slot 19)) (.lst .nil)) .nil)))) .nil)))
  (.cons (.for_ (.tup (.cons (.name 16) (.cons (.name 17) (.cons (.name 18) .nil)))) (.ex (.slot 9))
  (.cons (.set (.name 15) (.ite (.cmp .Gt (.slot 3) (.int 0)) (.call "does_hold_in" (.cons (.slot 4) (.cons (.slot 16) (.cons (.slot 17) .nil)))) (.callk "does_hold_in" .nil ["right", "left", "world"] (.cons (.slot 17) (.cons (.slot 16) (.cons (.slot 4) .nil))))))
  (.cons (.if_ (.cmp .NotEq (.blt .repr (.cons (.slot 15) .nil)) (.blt .repr (.cons (.slot 18) .nil)))
  (.cons (.ret (.bl false))
  .nil)
  .nil)
  .nil)))
  (.cons (.if_ (.and_ (.slot 8) (.cmp .IsNot (.idx (.idx (.slot 9) (.neg (.int 1))) (.int 2)) (.bl true)))
  (.cons (.ret (.bl false))
  .nil)
  .nil)
  .nil))))))))))))))
  (.cons (.ret (.bl true))
  .nil))))
def N_law : List Str := ["script", "deck", "words", "turn", "world", "role", "found", "concept", "is_within", "rows", "one", "other", "both", "tied", "last", "told", "left", "right", "due", "x"]
def p_law : List Str := ["script"]
def k_law : List (Nat × List Str) := []
theorem t_law : TextOk ⟨"law", (top 48), p_law, N_law, k_law, b_law, fun _ _ _ _ _ => False, none⟩ := ⟨⟨rfl, rfl, rfl, by decide +kernel, rfl, by decide +kernel, by decide +kernel⟩, by decide +kernel⟩
def b_Scene_init : GB :=
  (.cons (.setFld (.slot 0) "many" (.idx (.slot 1) (.int 0)))
  (.cons (.setFld (.slot 0) "named" (.blt .dictP (.cons (.idx (.slot 1) (.int 1)) .nil)))
  (.cons (.setFld (.slot 0) "ties" (.blt .dictP (.cons (.idx (.slot 1) (.int 2)) .nil)))
  (.cons (.setFld (.slot 0) "known" (.dct .nil))
  .nil))))
def N_Scene_init : List Str := ["self", "world"]
def p_Scene_init : List Str := ["self", "world"]
def k_Scene_init : List (Nat × List Str) := []
theorem t_Scene_init : TextOk ⟨"Scene.__init__", (GL.inCls (top 31) 0), p_Scene_init, N_Scene_init, k_Scene_init, b_Scene_init, fun _ _ _ _ _ => False, (some ("Scene", "__init__"))⟩ := ⟨⟨rfl, rfl, rfl, by decide +kernel, rfl, by decide +kernel, by decide +kernel⟩, by decide +kernel⟩
def b_Scene_things : GB :=
  (.cons (.set (.name 2) (.call "text_of" (.cons (.slot 1) .nil)))
  (.cons (.if_ (.ind true (.slot 2) (.fld (.slot 0) "known"))
  (.cons (.setIx (.fld (.slot 0) "known") (.slot 2) (.mtd "found" (.slot 0) (.cons (.slot 1) .nil)))
  .nil)
  .nil)
  (.cons (.ret (.idx (.fld (.slot 0) "known") (.slot 2)))
  .nil)))
def N_Scene_things : List Str := ["self", "concept", "text"]
def p_Scene_things : List Str := ["self", "concept"]
def k_Scene_things : List (Nat × List Str) := []
theorem t_Scene_things : TextOk ⟨"Scene.things", (GL.inCls (top 31) 1), p_Scene_things, N_Scene_things, k_Scene_things, b_Scene_things, fun _ _ _ _ _ => False, (some ("Scene", "things"))⟩ := ⟨⟨rfl, rfl, rfl, by decide +kernel, rfl, by decide +kernel, by decide +kernel⟩, by decide +kernel⟩
def b_Scene_found : GB :=
  (.cons (.if_ (.cmp .Eq (.slot 1) (.val "ALL"))
  (.cons (.ret (.trg (.fld (.slot 0) "many")))
  .nil)
  .nil)
  (.cons (.if_ (.cmp .Eq (.slot 1) (.val "NONE"))
  (.cons (.ret (.tup .nil))
  .nil)
  .nil)
  (.cons (.if_ (.cmp .Eq (.idx (.slot 1) (.int 0)) (.val "WORD"))
  (.cons (.ret (.mth .get (.fld (.slot 0) "named") (.cons (.idx (.slot 1) (.int 1)) (.cons (.tup .nil) .nil))))
  .nil)
  .nil)
  (.cons (.if_ (.cmp .Eq (.idx (.slot 1) (.int 0)) (.val "AND"))
  (.cons (.set (.name 3) (.mtd "things" (.slot 0) (.cons (.idx (.slot 1) (.int 2)) .nil)))
  (.cons (.ret (.blt .tuple (.cons (.lc [("x", 4)] (.name 4) (.ex (.mtd "things" (.slot 0) (.cons (.idx (.slot 1) (.int 1)) .nil))) (.some (.cmp .In (.slot 4) (.slot 3))) (.slot 4)) .nil)))
  .nil))
  .nil)
  (.cons (.set (.name 2) (.mtd "things" (.slot 0) (.cons (.idx (.slot 1) (.int 2)) .nil)))
  (.cons (.ret (.blt .tuple (.cons (.sset (.lc [("x", 4), ("y", 5)] (.tup (.cons (.name 4) (.cons (.name 5) .nil))) (.ex (.mth .get (.fld (.slot 0) "ties") (.cons (.idx (.slot 1) (.int 1)) (.cons (.tup .nil) .nil)))) (.some (.cmp .In (.slot 5) (.slot 2))) (.slot 4))) .nil)))
  .nil))))))
def N_Scene_found : List Str := ["self", "concept", "below", "far", "x", "y"]
def p_Scene_found : List Str := ["self", "concept"]
def k_Scene_found : List (Nat × List Str) := []
theorem t_Scene_found : TextOk ⟨"Scene.found", (GL.inCls (top 31) 2), p_Scene_found, N_Scene_found, k_Scene_found, b_Scene_found, fun _ _ _ _ _ => False, (some ("Scene", "found"))⟩ := ⟨⟨rfl, rfl, rfl, by decide +kernel, rfl, by decide +kernel, by decide +kernel⟩, by decide +kernel⟩
def b_Scene_outside : GB :=
  (.cons (.set (.name 3) (.mtd "things" (.slot 0) (.cons (.slot 2) .nil)))
  (.cons (.ret (.lc [("x", 4)] (.name 4) (.ex (.mtd "things" (.slot 0) (.cons (.slot 1) .nil))) (.some (.cmp .NotIn (.slot 4) (.slot 3))) (.slot 4)))
  .nil))
def N_Scene_outside : List Str := ["self", "left", "right", "there", "x"]
def p_Scene_outside : List Str := ["self", "left", "right"]
def k_Scene_outside : List (Nat × List Str) := []
theorem t_Scene_outside : TextOk ⟨"Scene.outside", (GL.inCls (top 31) 3), p_Scene_outside, N_Scene_outside, k_Scene_outside, b_Scene_outside, fun _ _ _ _ _ => False, (some ("Scene", "outside"))⟩ := ⟨⟨rfl, rfl, rfl, by decide +kernel, rfl, by decide +kernel, by decide +kernel⟩, by decide +kernel⟩
-- BAD BadConcept.__init__: call super
-- BAD BadWorld.__init__: call super
end K01
end

-- LW
section
local macro_rules | `(tactic| walk_at "gl") => `(tactic| simp only [GL.wB_, GL.wS, GL.wSeq, GL.wRet, GL.w, GL.both, GL.wAndE, GL.wOrE, GL.wSlot, GL.wAs, GL.wCons, GL.wNil, GL.wVal, GL.wB, GL.wCmp, GL.wCmp2, GL.wBin, GL.wUn, GL.wNot, GL.wAnd, GL.wOr, GL.wIfE, GL.wIf, GL.wTup, GL.wLst, GL.wSlc, GL.wNoP, GL.wPart, GL.wO, GL.wC, GL.wI, GL.wG, GL.wGs, GL.wIt, GL.wRange1, GL.wRange2, GL.wEnum, GL.wZip, GL.wgName, GL.wgTup, GL.wgCons, GL.wgNil, GL.wAsg, GL.wDrop, GL.wSkip, GL.wPar, GL.wSetIx, GL.wTru, GL.wFor, GL.wLc, GL.wMth, GL.wCall, GL.wCallK, GL.wPs, GL.wPairs, GL.q_len, GL.q_isi, GL.q_int, GL.q_list, GL.q_tupt, GL.q_tupr, GL.q_all, GL.q_any, GL.q_max2, GL.q_min2, GL.q_sorted, GL.q_stri, GL.q_strs, GL.q_strb, GL.q_repr, GL.q_dict, GL.q_sum, GL.q_addi, GL.q_adds, GL.q_addt, GL.q_addl, GL.q_addb, GL.q_subi, GL.q_subb, GL.q_muls, GL.q_muli, GL.q_divi, GL.q_modi, GL.q_powi, GL.q_negi, GL.q_negb, GL.q_eq, GL.q_ne, GL.q_lti, GL.q_lei, GL.q_gti, GL.q_gei, GL.q_lts, GL.q_ins, GL.q_nins, GL.q_int_, GL.q_inl, GL.q_nint, GL.q_ninl, GL.q_trb, GL.q_tri, GL.q_ixt, GL.q_ixs, GL.q_slt, GL.q_sls, GL.q_revt, GL.ix_lst, GL.q_dct0, GL.ik_non_tup, GL.ik_non_int, GL.ik_non_str, GL.ik_non_lst, GL.ik_non_bl, GL.ik_non_dct, GL.ik_bl_tup, GL.ik_bl_int, GL.ik_bl_str, GL.ik_bl_lst, GL.ik_bl_bl, GL.ik_bl_dct, GL.ik_int_tup, GL.ik_int_int, GL.ik_int_str, GL.ik_int_lst, GL.ik_int_bl, GL.ik_int_dct, GL.ik_str_tup, GL.ik_str_int, GL.ik_str_str, GL.ik_str_lst, GL.ik_str_bl, GL.ik_str_dct, GL.ik_tup_tup, GL.ik_tup_int, GL.ik_tup_str, GL.ik_tup_lst, GL.ik_tup_bl, GL.ik_tup_dct, GL.ik_lst_tup, GL.ik_lst_int, GL.ik_lst_str, GL.ik_lst_lst, GL.ik_lst_bl, GL.ik_lst_dct, GL.ik_dct_tup, GL.ik_dct_int, GL.ik_dct_str, GL.ik_dct_lst, GL.ik_dct_bl, GL.ik_dct_dct, GL.q_st, GL.q_sf, GL.q_lt, List.cons.injEq, GL.at0, GL.at1, GL.at2, GL.q_itt, GL.q_its, GL.q_itr, GL.q_zt, GL.q_zr, GL.srcT, GL.srcL, GL.q_m1, GL.q_m2, GL.q_m3, GL.q_m4, GL.q_m5, GL.q_m6, GL.q_k1, GL.q_k2, GL.q_k3, GL.q_k4, GL.q_k5, exists_and_left, GL.q_ixr, GL.q_ixi, GL.q_setr, GL.q_slr, GL.q_revr, GL.q_kr, GL.q_lr, GL.q_sr, GL.q_vr, GL.put_same, GL.put_put, GL.keyD, GL.wNew, GL.Cell.dct.injEq, GL.Cell.lst.injEq, GL.D.int.injEq, GL.D.str.injEq, GL.D.ref.injEq, GL.D.tup.injEq, reduceCtorEq, false_and, and_false, or_false, false_or, exists_false, exists_const, and_assoc, GL.q_app, GL.q_ext, GL.q_pop, GL.q_get2, GL.q_join, GL.q_upper, GL.GTgs.len, GL.GTg.slots, GL.GTgs.slots, GL.GXs.len, GL.wipeE, List.getElem?_cons_zero, List.getElem?_cons_succ, List.set_cons_zero, List.set_cons_succ, Option.some.injEq, exists_eq_left', exists_eq_left, List.map_cons, List.map_nil, List.length_cons, List.length_nil, List.replicate_succ, List.replicate_zero, List.cons_append, List.nil_append, List.zip_cons_cons, List.zip_nil_right, List.foldl_cons, List.foldl_nil, Nat.reduceAdd, Nat.reduceSub, true_and, and_true, ↓reduceIte, Bool.false_eq_true, GL.wFld, GL.wMtd, GL.wMake, GL.wSetFld, GL.wLrg, GL.wTrg, GL.q_dictP, GL.wInd])
local macro_rules | `(tactic| delta $xs* $[$loc]?) => `(tactic| simp only [GL.wB_, GL.wS, GL.wSeq, GL.wRet, GL.w, GL.both, GL.wAndE, GL.wOrE, GL.wSlot, GL.wAs, GL.wCons, GL.wNil, GL.wVal, GL.wB, GL.wCmp, GL.wCmp2, GL.wBin, GL.wUn, GL.wNot, GL.wAnd, GL.wOr, GL.wIfE, GL.wIf, GL.wTup, GL.wLst, GL.wSlc, GL.wNoP, GL.wPart, GL.wO, GL.wC, GL.wI, GL.wG, GL.wGs, GL.wIt, GL.wRange1, GL.wRange2, GL.wEnum, GL.wZip, GL.wgName, GL.wgTup, GL.wgCons, GL.wgNil, GL.wAsg, GL.wDrop, GL.wSkip, GL.wPar, GL.wSetIx, GL.wTru, GL.wFor, GL.wLc, GL.wMth, GL.wCall, GL.wCallK, GL.wPs, GL.wPairs, GL.q_len, GL.q_isi, GL.q_int, GL.q_list, GL.q_tupt, GL.q_tupr, GL.q_all, GL.q_any, GL.q_max2, GL.q_min2, GL.q_sorted, GL.q_stri, GL.q_strs, GL.q_strb, GL.q_repr, GL.q_dict, GL.q_sum, GL.q_addi, GL.q_adds, GL.q_addt, GL.q_addl, GL.q_addb, GL.q_subi, GL.q_subb, GL.q_muls, GL.q_muli, GL.q_divi, GL.q_modi, GL.q_powi, GL.q_negi, GL.q_negb, GL.q_eq, GL.q_ne, GL.q_lti, GL.q_lei, GL.q_gti, GL.q_gei, GL.q_lts, GL.q_ins, GL.q_nins, GL.q_int_, GL.q_inl, GL.q_nint, GL.q_ninl, GL.q_trb, GL.q_tri, GL.q_ixt, GL.q_ixs, GL.q_slt, GL.q_sls, GL.q_revt, GL.ix_lst, GL.q_dct0, GL.ik_non_tup, GL.ik_non_int, GL.ik_non_str, GL.ik_non_lst, GL.ik_non_bl, GL.ik_non_dct, GL.ik_bl_tup, GL.ik_bl_int, GL.ik_bl_str, GL.ik_bl_lst, GL.ik_bl_bl, GL.ik_bl_dct, GL.ik_int_tup, GL.ik_int_int, GL.ik_int_str, GL.ik_int_lst, GL.ik_int_bl, GL.ik_int_dct, GL.ik_str_tup, GL.ik_str_int, GL.ik_str_str, GL.ik_str_lst, GL.ik_str_bl, GL.ik_str_dct, GL.ik_tup_tup, GL.ik_tup_int, GL.ik_tup_str, GL.ik_tup_lst, GL.ik_tup_bl, GL.ik_tup_dct, GL.ik_lst_tup, GL.ik_lst_int, GL.ik_lst_str, GL.ik_lst_lst, GL.ik_lst_bl, GL.ik_lst_dct, GL.ik_dct_tup, GL.ik_dct_int, GL.ik_dct_str, GL.ik_dct_lst, GL.ik_dct_bl, GL.ik_dct_dct, GL.q_st, GL.q_sf, GL.q_lt, List.cons.injEq, GL.at0, GL.at1, GL.at2, GL.q_itt, GL.q_its, GL.q_itr, GL.q_zt, GL.q_zr, GL.srcT, GL.srcL, GL.q_m1, GL.q_m2, GL.q_m3, GL.q_m4, GL.q_m5, GL.q_m6, GL.q_k1, GL.q_k2, GL.q_k3, GL.q_k4, GL.q_k5, exists_and_left, GL.q_ixr, GL.q_ixi, GL.q_setr, GL.q_slr, GL.q_revr, GL.q_kr, GL.q_lr, GL.q_sr, GL.q_vr, GL.put_same, GL.put_put, GL.keyD, GL.wNew, GL.Cell.dct.injEq, GL.Cell.lst.injEq, GL.D.int.injEq, GL.D.str.injEq, GL.D.ref.injEq, GL.D.tup.injEq, reduceCtorEq, false_and, and_false, or_false, false_or, exists_false, exists_const, and_assoc, GL.q_app, GL.q_ext, GL.q_pop, GL.q_get2, GL.q_join, GL.q_upper, GL.GTgs.len, GL.GTg.slots, GL.GTgs.slots, GL.GXs.len, GL.wipeE, List.getElem?_cons_zero, List.getElem?_cons_succ, List.set_cons_zero, List.set_cons_succ, Option.some.injEq, exists_eq_left', exists_eq_left, List.map_cons, List.map_nil, List.length_cons, List.length_nil, List.replicate_succ, List.replicate_zero, List.cons_append, List.nil_append, List.zip_cons_cons, List.zip_nil_right, List.foldl_cons, List.foldl_nil, Nat.reduceAdd, Nat.reduceSub, true_and, and_true, ↓reduceIte, Bool.false_eq_true, GL.wFld, GL.wMtd, GL.wMake, GL.wSetFld, GL.wLrg, GL.wTrg, GL.q_dictP, GL.wInd, $[$xs:ident],*] $[$loc]?)
namespace GL
open PySem K01
/-! ### the deck -/
def dkv (b : Addr) (mixed turn : Int) : List (L2.Key × D) := [(.inr "left", .ref b), (.inr "mixed", .int mixed), (.inr "turn", .int turn)]
theorem dkv_left {b : Addr} {m t : Int} : valD (dkv b m t) (.inr "left") = some (.ref b) := rfl
theorem dkv_mixed {b : Addr} {m t : Int} : valD (dkv b m t) (.inr "mixed") = some (.int m) := rfl
theorem dkv_turn {b : Addr} {m t : Int} : valD (dkv b m t) (.inr "turn") = some (.int t) := rfl
theorem dkv_pmixed {b : Addr} {m t : Int} {d : Int} : putD (dkv b m t) (.inr "mixed") (.int d) = dkv b d t := rfl
theorem dkv_pturn {b : Addr} {m t : Int} {d : Int} : putD (dkv b m t) (.inr "turn") (.int d) = dkv b m d := rfl
structure Dk (S : Store) (a b : Addr) : Prop where
  ne : a ≠ b
  dc : ∃ m t, S a = some (.dct (dkv b m t))
  ls : ∃ ns : List Int, S b = some (.lst (ns.map D.int)) ∧ ns.length ≤ 63
/-- all but the deck is as it was -/
def FrE (a b : Addr) (S S' : Store) : Prop := ∀ x, x ≠ a → x ≠ b → S' x = S x
theorem eq_nil {f : D → D → Option Bool} {S : Store} {p q : Addr} {xs : List D} (h : S p = some (.lst xs)) (h' : S q = some (.lst [])) : eqT f S (.ref p) (.ref q) = some xs.isEmpty := by
  cases xs <;> simp [eqT, vw, h, h']
theorem lt_size {n : Nat} (h : n ≤ 1000000) : n < sizeLine := Nat.lt_of_le_of_lt h (by decide)
theorem le_size {n : Nat} (h : n ≤ 1000000) : n ≤ sizeLine := Nat.le_of_lt (lt_size h)
theorem fr_put {a b : Addr} {S : Store} {c : Cell} (p : Addr) (hp : p = a ∨ p = b) : FrE a b S (put S p c) := fun x h1 h2 => put_ne (by rintro rfl; rcases hp with h | h; exact h1 h; exact h2 h)
theorem FrE.refl {a b : Addr} (S : Store) : FrE a b S S := fun _ _ _ => rfl
theorem FrE.trans {a b : Addr} {S1 S2 S3 : Store} (h : FrE a b S1 S2) (k : FrE a b S2 S3) : FrE a b S1 S3 := fun x h1 h2 => (k x h1 h2).trans (h x h1 h2)
theorem div_ok {j : Int} (h : 0 < j) (h2 : j < 2 ^ 64) : L2.CDivW 0 j := by
  refine ⟨h, Nat.lt_of_le_of_lt (m := 64) ?_ (by decide)⟩
  by_cases hz : j.natAbs = 0
  · omega
  · exact Nat.le_of_lt ((Nat.log2_lt hz).mpr (by omega))
/-- forgetting -/
def wo (S : Store) (p : Addr) : Store := fun x => if x = p then none else S x
theorem wo_sub {S : Store} {p : Addr} : ∀ x c, wo S p x = some c → S x = some c := fun x c e => by
  unfold wo at e; split at e
  · cases e
  · exact e
theorem wo_ne {S : Store} {p x : Addr} (h : x ≠ p) : wo S p x = S x := by unfold wo; rw [if_neg h]
theorem wo_fr {a b p : Addr} {S S' : Store} (hn : S p = none) (h : ∀ x, x ≠ a → x ≠ b → x ≠ p → S' x = S x) : FrE a b S (wo S' p) := fun x h1 h2 => by
  by_cases hx : x = p
  · subst hx; unfold wo; rw [if_pos rfl, hn]
  · rw [wo_ne hx]; exact h x h1 h2 hx
theorem x_draw (T : Tb) (a b : Addr) (k : Int) (S : Store) (Q : GQ) (hk : 0 < k ∧ k < 2 ^ 64) (hD : Dk S a b) (h : ∀ r S', 0 ≤ r → r < k → Dk S' a b → FrE a b S S' → Q (.int r) S') :
    wB_ T noW b_law_draw (fnEnd Q) (initE N_law_draw [.ref a, .int k]) S := by
  obtain ⟨hne, ⟨m, t, hm⟩, ns, hn, hl⟩ := hD
  simp only [b_law_draw, initE, N_law_draw]
  delta hm dkv_turn dkv_mixed dkv_left dkv_pturn dkv_pmixed
  refine ⟨(by decide : 3 < sizeLine), .inl (by decide), by decide, fun p np => ?_⟩
  have hpa : p ≠ a := by rintro rfl; rw [put_same] at np; cases np
  have hpb : p ≠ b := by rintro rfl; rw [put_ne hne.symm, hn] at np; cases np
  have hSp : S p = none := by rw [put_ne hpa] at np; exact np
  have hmod : ∀ x : Int, 0 ≤ x % k ∧ x % k < k := fun x => ⟨Int.emod_nonneg _ (by omega), Int.emod_lt_of_pos _ hk.1⟩
  have msq : ∀ x : Int, L2.CMul (x % 2147483629) (x % 2147483629) := fun x => .inl ⟨by omega, by omega⟩
  have d64 : ∀ x : Int, L2.CDivW x 64 := fun x => ⟨by decide, by decide +kernel⟩
  have mr : ∀ x : Int, L2.CMul x 16807 := fun x => .inr (by decide)
  have mr2 : ∀ x : Int, L2.CMul x 40692 := fun x => .inr (by decide)
  have ml : ∀ x : Int, L2.CMul 77773 x := fun x => .inl (by decide)
  have eb : ∀ c, put (put S a c) p (.lst []) b = some (.lst (ns.map D.int)) := fun c => by rw [put_ne hpb.symm, put_ne hne.symm, hn]
  have ea : ∀ c, put (put S a c) p (.lst []) a = some c := fun c => by rw [put_ne hpa.symm, put_same]
  rw [eq_nil (eb _) put_same]
  rcases List.eq_nil_or_concat ns with rfl | ⟨l, z, rfl⟩
  · delta ea dkv_turn dkv_mixed dkv_left dkv_pturn dkv_pmixed fnEnd List.map_nil List.isEmpty_nil Bool.not_true Bool.not_false
    refine ⟨mr _, by decide, msq _, ml _, by decide, mr2 _, by decide, d64 _, hk.1, wo _ p, wo_sub, h _ _ (hmod _).1 (hmod _).2 ⟨hne, ⟨_, _, by rw [wo_ne hpa.symm, ea]⟩, [], by rw [wo_ne hpb.symm, eb], by decide⟩ (wo_fr hSp fun x h1 h2 h3 => by rw [put_ne h3, put_ne h1])⟩
  · rw [List.concat_eq_append] at *
    have hc : ∀ (x y : Cell), put (put (put S a x) p (.lst [])) b y a = some x := fun x y => by rw [put_ne hne, ea]
    have hl2 : (l ++ [z]).length ≤ 63 := by simpa using hl
    rw [List.length_append] at hl2
    have hemp : (l.map D.int ++ [D.int z]).isEmpty = false := by cases l <;> rfl
    have hz : (l.map D.int ++ [D.int z])[(l.map D.int ++ [D.int z]).length - 1]? = some (D.int z) := by simp
    delta ea eb hc hz dkv_turn dkv_mixed dkv_left dkv_pturn dkv_pmixed fnEnd List.map_append List.dropLast_concat hemp Bool.not_false
    refine ⟨⟨by decide, by decide, by decide⟩, ?_⟩
    have hk2 : (0 : Int) < (if k > 2 then k else 2) ∧ (if k > 2 then k else 2) < 2 ^ 64 := by split <;> omega
    by_cases hz18 : 10 ^ Int.toNat 18 ≤ z
    · rw [if_pos (decide_eq_true hz18)]
      refine ⟨⟨hk2.1, (div_ok hk2.1 hk2.2).2⟩, lt_size (by rw [List.length_map]; omega), hk.1, wo _ p, wo_sub, h _ _ (hmod _).1 (hmod _).2 ⟨hne, ⟨_, _, by rw [wo_ne hpa.symm, hc]⟩, l ++ [z / (if k > 2 then k else 2)], by rw [wo_ne hpb.symm, put_same, List.map_append]; rfl, by simpa using hl2⟩ (wo_fr hSp fun x h1 h2 h3 => by rw [put_ne h2, put_ne h3, put_ne h1])⟩
    · rw [if_neg (by simpa using hz18)]
      refine ⟨mr _, by decide, by decide, (by decide : 3 < sizeLine), by decide, mr _, by decide, msq _, ml _, by decide, mr2 _, by decide, d64 _, hk.1, wo _ p, wo_sub, h _ _ (hmod _).1 (hmod _).2 ⟨hne, ⟨_, _, by rw [wo_ne hpa.symm, put_same]⟩, l, by rw [wo_ne hpb.symm, put_ne hne.symm, put_same], by have : [z].length = 1 := rfl; omega⟩ (wo_fr hSp fun x h1 h2 h3 => by rw [put_ne h1, put_ne h2, put_ne h3, put_ne h1])⟩
/-- all but the deck is as it was, there may be more -/
def Fr (a b : Addr) (S S' : Store) : Prop := ∀ x c, x ≠ a → x ≠ b → S x = some c → S' x = some c
theorem FrE.fr {a b : Addr} {S S' : Store} (h : FrE a b S S') : Fr a b S S' := fun x c h1 h2 e => (h x h1 h2).trans e
theorem Fr.refl {a b : Addr} (S : Store) : Fr a b S S := fun _ _ _ _ e => e
theorem Fr.trans {a b : Addr} {S1 S2 S3 : Store} (h : Fr a b S1 S2) (k : Fr a b S2 S3) : Fr a b S1 S3 := fun x c h1 h2 e => k x c h1 h2 (h x c h1 h2 e)
theorem Sub.fr {a b : Addr} {S S' : Store} (h : Sub S S') : Fr a b S S' := fun x c _ _ e => h x c e
theorem Dk.sub {a b : Addr} {S S' : Store} (h : Dk S a b) (s : Sub S S') : Dk S' a b := by
  obtain ⟨h1, ⟨m, t, h2⟩, ns, h3, h4⟩ := h
  exact ⟨h1, ⟨m, t, s _ _ h2⟩, ns, s _ _ h3, h4⟩
def cDraw : GC0 := fun args S Q => ∃ a b k, args = [.ref a, .int k] ∧ (0 < k ∧ k < 2 ^ 64) ∧ Dk S a b ∧ ∀ r S', 0 ≤ r → r < k → Dk S' a b → Fr a b S S' → Q (.int r) S'
theorem y_draw (T : Tb) (args : List D) (S : Store) (Q : GQ) (h : cDraw args S Q) : wB_ T noW b_law_draw (fnEnd Q) (initE N_law_draw args) S := by
  obtain ⟨a, b, k, rfl, hk, hD, h⟩ := h
  exact x_draw T a b k S Q hk hD fun r S' h1 h2 h3 h4 => h r S' h1 h2 h3 h4.fr
def cPick : GC0 := fun args S Q => ∃ a b p ds, args = [.ref a, .ref p] ∧ (p ≠ a ∧ p ≠ b) ∧ S p = some (.lst ds) ∧ ds ≠ [] ∧ ds.length ≤ 1000000 ∧ Dk S a b ∧ ∀ d ∈ ds, ∀ S', Dk S' a b → Fr a b S S' → Q d S'
theorem pick_at {α : Type} {ds : List α} {r : Int} (h0 : 0 ≤ r) (h1 : r < (ds.length : Nat)) : ∃ d, L2.atI ds r = some d ∧ d ∈ ds := by
  have hl : r.toNat < ds.length := by omega
  refine ⟨ds[r.toNat], ?_, List.getElem_mem hl⟩
  have := L2.atI_nat (xs := ds) (j := r.toNat) (List.getElem?_eq_getElem hl)
  rwa [Int.toNat_of_nonneg h0] at this
theorem y_pick (T : Tb) (hd : Has T "_law_draw" cDraw) (args : List D) (S : Store) (Q : GQ) (h : cPick args S Q) : wB_ T noW b_law_pick (fnEnd Q) (initE N_law_pick args) S := by
  obtain ⟨a, b, p, ds, rfl, ⟨ha, hb⟩, hp, hne, hl, hD, h⟩ := h
  obtain ⟨Fd, ed, ud⟩ := hd
  simp only [b_law_pick, initE, N_law_pick]
  delta fnEnd ed hp
  have hpos : 0 < ds.length := List.length_pos_iff.mpr hne
  refine use2 ud rfl ⟨a, b, _, rfl, ⟨by omega, by omega⟩, hD, fun r S' h0 h1 hD' hF => ?_⟩
  have hp' := hF p _ ha hb hp
  obtain ⟨d, e, hm⟩ := pick_at h0 h1
  delta hp' e
  exact ⟨S', fun _ _ z => z, h d hm S' hD' hF⟩
def cDeck : GC0 := fun args S Q => ∃ ns : List Int, args = [.frl (ns.map D.int)] ∧ ns.length ≤ 63 ∧ ∀ a b S', Sub S S' → Dk S' a b → S a = none → S b = none → Q (.ref a) S'
theorem q_slf {S : Store} {Q : GQ} {ds : List D} {lo hi : Option Int} : slcD (.frl ds) lo hi S Q = wNew (.lst (cutD ds lo hi)) S Q := rfl
theorem y_deck (T : Tb) (args : List D) (S : Store) (Q : GQ) (h : cDeck args S Q) : wB_ T noW b_law_deck (fnEnd Q) (initE N_law_deck args) S := by
  obtain ⟨ns, rfl, hl, h⟩ := h
  simp only [b_law_deck, initE, N_law_deck]
  have ec : cutD (ns.map D.int) none (some 63) = ns.map D.int := by
    rw [show (63 : Int) = ((63 : Nat) : Int) from rfl, cut_to, List.take_of_length_le (by rw [List.length_map]; exact hl)]
  delta fnEnd q_slf ec
  intro p hp
  refine for_inv (fun r ρ S1 => ∃ (m : Int) (t : Option D) (ms : List Int), ρ = [some (.frl (ns.map D.int)), some (.int m), t] ∧ r = ms.map D.int ∧ S1 = put S p (.lst (ns.map D.int))) (fun r ρ S1 ⟨_, _, _, _, _, e⟩ => by rw [e, put_same]) _ _ _ ⟨_, _, ns, rfl, rfl, rfl⟩ ?_ ?_
  · rintro d r ρ S1 K ⟨m, t, ms, rfl, hr, rfl⟩ hK
    cases ms with
    | nil => cases hr
    | cons z zs =>
      rw [List.map_cons, List.cons.injEq] at hr
      obtain ⟨rfl, rfl⟩ := hr
      walk_at "gl"
      exact ⟨.inr (by decide), by decide, by decide, hK _ _ ⟨_, _, zs, rfl, rfl, rfl⟩⟩
  · rintro ρ S1 ⟨m, t, ms, rfl, hr, rfl⟩
    delta q_slf ec GL.wDct
    intro a ha q hq v hv
    generalize hS3 : put (put (put S p (.lst (ns.map D.int))) a (.dct [])) q (.lst (ns.map D.int)) = S3 at hv
    have hap : a ≠ p := by rintro rfl; rw [put_same] at ha; cases ha
    have hqa : q ≠ a := by rintro rfl; rw [put_same] at hq; cases hq
    have haS : S a = none := by rw [put_ne hap] at ha; exact ha
    have s1 : Sub S S3 := by
      rw [← hS3]
      exact ((Sub.new hp).trans (Sub.new ha)).trans (Sub.new hq)
    have e1 : S3 q = some (.lst (ns.map D.int)) := by rw [← hS3, put_same]
    have e2 : S3 a = some (.dct []) := by rw [← hS3, put_ne hqa.symm, put_same]
    refine lc_map hv (fun S' s => s _ _ e1) (fun d => d) (ns.map D.int) (le_size (by rw [List.length_map]; omega)) (fun d hd S1 K1 K2 s2 k1 => ?_) fun S' s2 h3 => ?_
    · obtain ⟨z, hz, rfl⟩ := List.mem_map.mp hd
      walk_at "gl"
      exact k1 S1 (Sub.refl S1)
    · refine ⟨_, h3, fun u hu => ?_⟩
      have hua : a ≠ u := by rintro rfl; rw [s2 _ _ e2] at hu; cases hu
      rw [List.map_id', ← List.map_reverse] at *
      refine ⟨by rw [put_ne hua]; exact s2 _ _ e2, [(.inr "left", .ref u), (.inr "mixed", .int m), (.inr "turn", .int 0)], rfl, (by decide : 3 ≤ 15), _, fun _ _ z => z, ?_⟩
      have huS : S u = none := by
        cases e : S u with
        | none => rfl
        | some c => rw [s2 _ _ (s1 _ _ e)] at hu; cases hu
      refine h a u _ (((s1.trans s2).put huS).put haS) ⟨hua, ⟨m, 0, put_same⟩, ns.reverse, by rw [put_ne hua.symm, put_same], by rw [List.length_reverse]; exact hl⟩ haS huS
end GL
end

-- LX
section
local macro_rules | `(tactic| walk_at "gl") => `(tactic| simp only [GL.wB_, GL.wS, GL.wSeq, GL.wRet, GL.w, GL.both, GL.wAndE, GL.wOrE, GL.wSlot, GL.wAs, GL.wCons, GL.wNil, GL.wVal, GL.wB, GL.wCmp, GL.wCmp2, GL.wBin, GL.wUn, GL.wNot, GL.wAnd, GL.wOr, GL.wIfE, GL.wIf, GL.wTup, GL.wLst, GL.wSlc, GL.wNoP, GL.wPart, GL.wO, GL.wC, GL.wI, GL.wG, GL.wGs, GL.wIt, GL.wRange1, GL.wRange2, GL.wEnum, GL.wZip, GL.wgName, GL.wgTup, GL.wgCons, GL.wgNil, GL.wAsg, GL.wDrop, GL.wSkip, GL.wPar, GL.wSetIx, GL.wTru, GL.wFor, GL.wLc, GL.wMth, GL.wCall, GL.wCallK, GL.wPs, GL.wPairs, GL.q_len, GL.q_isi, GL.q_int, GL.q_list, GL.q_tupt, GL.q_tupr, GL.q_all, GL.q_any, GL.q_max2, GL.q_min2, GL.q_sorted, GL.q_stri, GL.q_strs, GL.q_strb, GL.q_repr, GL.q_dict, GL.q_sum, GL.q_addi, GL.q_adds, GL.q_addt, GL.q_addl, GL.q_addb, GL.q_subi, GL.q_subb, GL.q_muls, GL.q_muli, GL.q_divi, GL.q_modi, GL.q_powi, GL.q_negi, GL.q_negb, GL.q_eq, GL.q_ne, GL.q_lti, GL.q_lei, GL.q_gti, GL.q_gei, GL.q_lts, GL.q_ins, GL.q_nins, GL.q_int_, GL.q_inl, GL.q_nint, GL.q_ninl, GL.q_trb, GL.q_tri, GL.q_ixt, GL.q_ixs, GL.q_slt, GL.q_sls, GL.q_revt, GL.ix_lst, GL.q_dct0, GL.ik_non_tup, GL.ik_non_int, GL.ik_non_str, GL.ik_non_lst, GL.ik_non_bl, GL.ik_non_dct, GL.ik_bl_tup, GL.ik_bl_int, GL.ik_bl_str, GL.ik_bl_lst, GL.ik_bl_bl, GL.ik_bl_dct, GL.ik_int_tup, GL.ik_int_int, GL.ik_int_str, GL.ik_int_lst, GL.ik_int_bl, GL.ik_int_dct, GL.ik_str_tup, GL.ik_str_int, GL.ik_str_str, GL.ik_str_lst, GL.ik_str_bl, GL.ik_str_dct, GL.ik_tup_tup, GL.ik_tup_int, GL.ik_tup_str, GL.ik_tup_lst, GL.ik_tup_bl, GL.ik_tup_dct, GL.ik_lst_tup, GL.ik_lst_int, GL.ik_lst_str, GL.ik_lst_lst, GL.ik_lst_bl, GL.ik_lst_dct, GL.ik_dct_tup, GL.ik_dct_int, GL.ik_dct_str, GL.ik_dct_lst, GL.ik_dct_bl, GL.ik_dct_dct, GL.q_st, GL.q_sf, GL.q_lt, List.cons.injEq, GL.at0, GL.at1, GL.at2, GL.q_itt, GL.q_its, GL.q_itr, GL.q_zt, GL.q_zr, GL.srcT, GL.srcL, GL.q_m1, GL.q_m2, GL.q_m3, GL.q_m4, GL.q_m5, GL.q_m6, GL.q_k1, GL.q_k2, GL.q_k3, GL.q_k4, GL.q_k5, exists_and_left, GL.q_ixr, GL.q_ixi, GL.q_setr, GL.q_slr, GL.q_revr, GL.q_kr, GL.q_lr, GL.q_sr, GL.q_vr, GL.put_same, GL.put_put, GL.keyD, GL.wNew, GL.Cell.dct.injEq, GL.Cell.lst.injEq, GL.D.int.injEq, GL.D.str.injEq, GL.D.ref.injEq, GL.D.tup.injEq, reduceCtorEq, false_and, and_false, or_false, false_or, exists_false, exists_const, and_assoc, GL.q_app, GL.q_ext, GL.q_pop, GL.q_get2, GL.q_join, GL.q_upper, GL.GTgs.len, GL.GTg.slots, GL.GTgs.slots, GL.GXs.len, GL.wipeE, List.getElem?_cons_zero, List.getElem?_cons_succ, List.set_cons_zero, List.set_cons_succ, Option.some.injEq, exists_eq_left', exists_eq_left, List.map_cons, List.map_nil, List.length_cons, List.length_nil, List.replicate_succ, List.replicate_zero, List.cons_append, List.nil_append, List.zip_cons_cons, List.zip_nil_right, List.foldl_cons, List.foldl_nil, Nat.reduceAdd, Nat.reduceSub, true_and, and_true, ↓reduceIte, Bool.false_eq_true, GL.wFld, GL.wMtd, GL.wMake, GL.wSetFld, GL.wLrg, GL.wTrg, GL.q_dictP, GL.wInd])
local macro_rules | `(tactic| delta $xs* $[$loc]?) => `(tactic| simp only [GL.wB_, GL.wS, GL.wSeq, GL.wRet, GL.w, GL.both, GL.wAndE, GL.wOrE, GL.wSlot, GL.wAs, GL.wCons, GL.wNil, GL.wVal, GL.wB, GL.wCmp, GL.wCmp2, GL.wBin, GL.wUn, GL.wNot, GL.wAnd, GL.wOr, GL.wIfE, GL.wIf, GL.wTup, GL.wLst, GL.wSlc, GL.wNoP, GL.wPart, GL.wO, GL.wC, GL.wI, GL.wG, GL.wGs, GL.wIt, GL.wRange1, GL.wRange2, GL.wEnum, GL.wZip, GL.wgName, GL.wgTup, GL.wgCons, GL.wgNil, GL.wAsg, GL.wDrop, GL.wSkip, GL.wPar, GL.wSetIx, GL.wTru, GL.wFor, GL.wLc, GL.wMth, GL.wCall, GL.wCallK, GL.wPs, GL.wPairs, GL.q_len, GL.q_isi, GL.q_int, GL.q_list, GL.q_tupt, GL.q_tupr, GL.q_all, GL.q_any, GL.q_max2, GL.q_min2, GL.q_sorted, GL.q_stri, GL.q_strs, GL.q_strb, GL.q_repr, GL.q_dict, GL.q_sum, GL.q_addi, GL.q_adds, GL.q_addt, GL.q_addl, GL.q_addb, GL.q_subi, GL.q_subb, GL.q_muls, GL.q_muli, GL.q_divi, GL.q_modi, GL.q_powi, GL.q_negi, GL.q_negb, GL.q_eq, GL.q_ne, GL.q_lti, GL.q_lei, GL.q_gti, GL.q_gei, GL.q_lts, GL.q_ins, GL.q_nins, GL.q_int_, GL.q_inl, GL.q_nint, GL.q_ninl, GL.q_trb, GL.q_tri, GL.q_ixt, GL.q_ixs, GL.q_slt, GL.q_sls, GL.q_revt, GL.ix_lst, GL.q_dct0, GL.ik_non_tup, GL.ik_non_int, GL.ik_non_str, GL.ik_non_lst, GL.ik_non_bl, GL.ik_non_dct, GL.ik_bl_tup, GL.ik_bl_int, GL.ik_bl_str, GL.ik_bl_lst, GL.ik_bl_bl, GL.ik_bl_dct, GL.ik_int_tup, GL.ik_int_int, GL.ik_int_str, GL.ik_int_lst, GL.ik_int_bl, GL.ik_int_dct, GL.ik_str_tup, GL.ik_str_int, GL.ik_str_str, GL.ik_str_lst, GL.ik_str_bl, GL.ik_str_dct, GL.ik_tup_tup, GL.ik_tup_int, GL.ik_tup_str, GL.ik_tup_lst, GL.ik_tup_bl, GL.ik_tup_dct, GL.ik_lst_tup, GL.ik_lst_int, GL.ik_lst_str, GL.ik_lst_lst, GL.ik_lst_bl, GL.ik_lst_dct, GL.ik_dct_tup, GL.ik_dct_int, GL.ik_dct_str, GL.ik_dct_lst, GL.ik_dct_bl, GL.ik_dct_dct, GL.q_st, GL.q_sf, GL.q_lt, List.cons.injEq, GL.at0, GL.at1, GL.at2, GL.q_itt, GL.q_its, GL.q_itr, GL.q_zt, GL.q_zr, GL.srcT, GL.srcL, GL.q_m1, GL.q_m2, GL.q_m3, GL.q_m4, GL.q_m5, GL.q_m6, GL.q_k1, GL.q_k2, GL.q_k3, GL.q_k4, GL.q_k5, exists_and_left, GL.q_ixr, GL.q_ixi, GL.q_setr, GL.q_slr, GL.q_revr, GL.q_kr, GL.q_lr, GL.q_sr, GL.q_vr, GL.put_same, GL.put_put, GL.keyD, GL.wNew, GL.Cell.dct.injEq, GL.Cell.lst.injEq, GL.D.int.injEq, GL.D.str.injEq, GL.D.ref.injEq, GL.D.tup.injEq, reduceCtorEq, false_and, and_false, or_false, false_or, exists_false, exists_const, and_assoc, GL.q_app, GL.q_ext, GL.q_pop, GL.q_get2, GL.q_join, GL.q_upper, GL.GTgs.len, GL.GTg.slots, GL.GTgs.slots, GL.GXs.len, GL.wipeE, List.getElem?_cons_zero, List.getElem?_cons_succ, List.set_cons_zero, List.set_cons_succ, Option.some.injEq, exists_eq_left', exists_eq_left, List.map_cons, List.map_nil, List.length_cons, List.length_nil, List.replicate_succ, List.replicate_zero, List.cons_append, List.nil_append, List.zip_cons_cons, List.zip_nil_right, List.foldl_cons, List.foldl_nil, Nat.reduceAdd, Nat.reduceSub, true_and, and_true, ↓reduceIte, Bool.false_eq_true, GL.wFld, GL.wMtd, GL.wMake, GL.wSetFld, GL.wLrg, GL.wTrg, GL.q_dictP, GL.wInd, $[$xs:ident],*] $[$loc]?)
namespace GL
open PySem K01
/-- the deck stands, the rest is as it was in S -/
def Jd (a b : Addr) (S S' : Store) : Prop := Dk S' a b ∧ Fr a b S S'
theorem Jd.put {a b p : Addr} {S S' : Store} (h : Jd a b S S') (hp : S p = none) (h1 : p ≠ a) (h2 : p ≠ b) (c : Cell) : Jd a b S (put S' p c) := by
  obtain ⟨⟨q1, ⟨m, t, q2⟩, ns, q3, q4⟩, f⟩ := h
  refine ⟨⟨q1, ⟨m, t, by rw [put_ne h1.symm]; exact q2⟩, ns, by rw [put_ne h2.symm]; exact q3, q4⟩, fun x c' e1 e2 e => ?_⟩
  rw [put_ne (by rintro rfl; rw [hp] at e; cases e)]
  exact f x c' e1 e2 e
theorem Dk.ne_new {a b p : Addr} {S : Store} (h : Dk S a b) (hp : S p = none) : p ≠ a ∧ p ≠ b := by
  obtain ⟨q1, ⟨m, t, q2⟩, ns, q3, q4⟩ := h
  refine ⟨?_, ?_⟩
  · rintro rfl; rw [q2] at hp; cases hp
  · rintro rfl; rw [q3] at hp; cases hp
def cMixed : GC0 := fun args S Q => ∃ a b p ds, args = [.ref a, .ref p] ∧ (p ≠ a ∧ p ≠ b) ∧ S p = some (.lst ds) ∧ ds.length ≤ 1000 ∧ Dk S a b ∧
  ∀ es q S', (∀ e ∈ es, e ∈ ds) → es.length = ds.length → Dk S' a b → Fr a b S S' → S q = none → S' q = some (.lst es) → Q (.ref q) S'
theorem pairs_sort {es : List D} (h : ∀ e ∈ es, ∃ i j : Int, e = .tup [.int i, .int j]) (hl : es.length ≤ 1000000) : sortable es := by
  refine ⟨le_size hl, fun d hd => ?_, fun x hx y hy => ?_, .inl fun x hx => ?_⟩
  · obtain ⟨i, j, rfl⟩ := h d hd
    exact ⟨rfl, by simp [pyD, pyDs, PyData.depth, PyData.depthAll]⟩
  · obtain ⟨d, hd, rfl⟩ := List.mem_map.mp hx
    obtain ⟨e, he, rfl⟩ := List.mem_map.mp hy
    obtain ⟨i, j, rfl⟩ := h d hd
    obtain ⟨i', j', rfl⟩ := h e he
    rfl
  · obtain ⟨d, hd, rfl⟩ := List.mem_map.mp hx
    obtain ⟨i, j, rfl⟩ := h d hd
    exact ⟨_, _, rfl⟩
end GL
end

-- K01b
section
local macro_rules | `(tactic| walk_at "gl") => `(tactic| simp only [GL.wB_, GL.wS, GL.wSeq, GL.wRet, GL.w, GL.both, GL.wAndE, GL.wOrE, GL.wSlot, GL.wAs, GL.wCons, GL.wNil, GL.wVal, GL.wB, GL.wCmp, GL.wCmp2, GL.wBin, GL.wUn, GL.wNot, GL.wAnd, GL.wOr, GL.wIfE, GL.wIf, GL.wTup, GL.wLst, GL.wSlc, GL.wNoP, GL.wPart, GL.wO, GL.wC, GL.wI, GL.wG, GL.wGs, GL.wIt, GL.wRange1, GL.wRange2, GL.wEnum, GL.wZip, GL.wgName, GL.wgTup, GL.wgCons, GL.wgNil, GL.wAsg, GL.wDrop, GL.wSkip, GL.wPar, GL.wSetIx, GL.wTru, GL.wFor, GL.wLc, GL.wMth, GL.wCall, GL.wCallK, GL.wPs, GL.wPairs, GL.q_len, GL.q_isi, GL.q_int, GL.q_list, GL.q_tupt, GL.q_tupr, GL.q_all, GL.q_any, GL.q_max2, GL.q_min2, GL.q_sorted, GL.q_stri, GL.q_strs, GL.q_strb, GL.q_repr, GL.q_dict, GL.q_sum, GL.q_addi, GL.q_adds, GL.q_addt, GL.q_addl, GL.q_addb, GL.q_subi, GL.q_subb, GL.q_muls, GL.q_muli, GL.q_divi, GL.q_modi, GL.q_powi, GL.q_negi, GL.q_negb, GL.q_eq, GL.q_ne, GL.q_lti, GL.q_lei, GL.q_gti, GL.q_gei, GL.q_lts, GL.q_ins, GL.q_nins, GL.q_int_, GL.q_inl, GL.q_nint, GL.q_ninl, GL.q_trb, GL.q_tri, GL.q_ixt, GL.q_ixs, GL.q_slt, GL.q_sls, GL.q_revt, GL.ix_lst, GL.q_dct0, GL.ik_non_tup, GL.ik_non_int, GL.ik_non_str, GL.ik_non_lst, GL.ik_non_bl, GL.ik_non_dct, GL.ik_bl_tup, GL.ik_bl_int, GL.ik_bl_str, GL.ik_bl_lst, GL.ik_bl_bl, GL.ik_bl_dct, GL.ik_int_tup, GL.ik_int_int, GL.ik_int_str, GL.ik_int_lst, GL.ik_int_bl, GL.ik_int_dct, GL.ik_str_tup, GL.ik_str_int, GL.ik_str_str, GL.ik_str_lst, GL.ik_str_bl, GL.ik_str_dct, GL.ik_tup_tup, GL.ik_tup_int, GL.ik_tup_str, GL.ik_tup_lst, GL.ik_tup_bl, GL.ik_tup_dct, GL.ik_lst_tup, GL.ik_lst_int, GL.ik_lst_str, GL.ik_lst_lst, GL.ik_lst_bl, GL.ik_lst_dct, GL.ik_dct_tup, GL.ik_dct_int, GL.ik_dct_str, GL.ik_dct_lst, GL.ik_dct_bl, GL.ik_dct_dct, GL.q_st, GL.q_sf, GL.q_lt, List.cons.injEq, GL.at0, GL.at1, GL.at2, GL.q_itt, GL.q_its, GL.q_itr, GL.q_zt, GL.q_zr, GL.srcT, GL.srcL, GL.q_m1, GL.q_m2, GL.q_m3, GL.q_m4, GL.q_m5, GL.q_m6, GL.q_k1, GL.q_k2, GL.q_k3, GL.q_k4, GL.q_k5, exists_and_left, GL.q_ixr, GL.q_ixi, GL.q_setr, GL.q_slr, GL.q_revr, GL.q_kr, GL.q_lr, GL.q_sr, GL.q_vr, GL.put_same, GL.put_put, GL.keyD, GL.wNew, GL.Cell.dct.injEq, GL.Cell.lst.injEq, GL.D.int.injEq, GL.D.str.injEq, GL.D.ref.injEq, GL.D.tup.injEq, reduceCtorEq, false_and, and_false, or_false, false_or, exists_false, exists_const, and_assoc, GL.q_app, GL.q_ext, GL.q_pop, GL.q_get2, GL.q_join, GL.q_upper, GL.GTgs.len, GL.GTg.slots, GL.GTgs.slots, GL.GXs.len, GL.wipeE, List.getElem?_cons_zero, List.getElem?_cons_succ, List.set_cons_zero, List.set_cons_succ, Option.some.injEq, exists_eq_left', exists_eq_left, List.map_cons, List.map_nil, List.length_cons, List.length_nil, List.replicate_succ, List.replicate_zero, List.cons_append, List.nil_append, List.zip_cons_cons, List.zip_nil_right, List.foldl_cons, List.foldl_nil, Nat.reduceAdd, Nat.reduceSub, true_and, and_true, ↓reduceIte, Bool.false_eq_true, GL.wFld, GL.wMtd, GL.wMake, GL.wSetFld, GL.wLrg, GL.wTrg, GL.q_dictP, GL.wInd])
local macro_rules | `(tactic| delta $xs* $[$loc]?) => `(tactic| simp only [GL.wB_, GL.wS, GL.wSeq, GL.wRet, GL.w, GL.both, GL.wAndE, GL.wOrE, GL.wSlot, GL.wAs, GL.wCons, GL.wNil, GL.wVal, GL.wB, GL.wCmp, GL.wCmp2, GL.wBin, GL.wUn, GL.wNot, GL.wAnd, GL.wOr, GL.wIfE, GL.wIf, GL.wTup, GL.wLst, GL.wSlc, GL.wNoP, GL.wPart, GL.wO, GL.wC, GL.wI, GL.wG, GL.wGs, GL.wIt, GL.wRange1, GL.wRange2, GL.wEnum, GL.wZip, GL.wgName, GL.wgTup, GL.wgCons, GL.wgNil, GL.wAsg, GL.wDrop, GL.wSkip, GL.wPar, GL.wSetIx, GL.wTru, GL.wFor, GL.wLc, GL.wMth, GL.wCall, GL.wCallK, GL.wPs, GL.wPairs, GL.q_len, GL.q_isi, GL.q_int, GL.q_list, GL.q_tupt, GL.q_tupr, GL.q_all, GL.q_any, GL.q_max2, GL.q_min2, GL.q_sorted, GL.q_stri, GL.q_strs, GL.q_strb, GL.q_repr, GL.q_dict, GL.q_sum, GL.q_addi, GL.q_adds, GL.q_addt, GL.q_addl, GL.q_addb, GL.q_subi, GL.q_subb, GL.q_muls, GL.q_muli, GL.q_divi, GL.q_modi, GL.q_powi, GL.q_negi, GL.q_negb, GL.q_eq, GL.q_ne, GL.q_lti, GL.q_lei, GL.q_gti, GL.q_gei, GL.q_lts, GL.q_ins, GL.q_nins, GL.q_int_, GL.q_inl, GL.q_nint, GL.q_ninl, GL.q_trb, GL.q_tri, GL.q_ixt, GL.q_ixs, GL.q_slt, GL.q_sls, GL.q_revt, GL.ix_lst, GL.q_dct0, GL.ik_non_tup, GL.ik_non_int, GL.ik_non_str, GL.ik_non_lst, GL.ik_non_bl, GL.ik_non_dct, GL.ik_bl_tup, GL.ik_bl_int, GL.ik_bl_str, GL.ik_bl_lst, GL.ik_bl_bl, GL.ik_bl_dct, GL.ik_int_tup, GL.ik_int_int, GL.ik_int_str, GL.ik_int_lst, GL.ik_int_bl, GL.ik_int_dct, GL.ik_str_tup, GL.ik_str_int, GL.ik_str_str, GL.ik_str_lst, GL.ik_str_bl, GL.ik_str_dct, GL.ik_tup_tup, GL.ik_tup_int, GL.ik_tup_str, GL.ik_tup_lst, GL.ik_tup_bl, GL.ik_tup_dct, GL.ik_lst_tup, GL.ik_lst_int, GL.ik_lst_str, GL.ik_lst_lst, GL.ik_lst_bl, GL.ik_lst_dct, GL.ik_dct_tup, GL.ik_dct_int, GL.ik_dct_str, GL.ik_dct_lst, GL.ik_dct_bl, GL.ik_dct_dct, GL.q_st, GL.q_sf, GL.q_lt, List.cons.injEq, GL.at0, GL.at1, GL.at2, GL.q_itt, GL.q_its, GL.q_itr, GL.q_zt, GL.q_zr, GL.srcT, GL.srcL, GL.q_m1, GL.q_m2, GL.q_m3, GL.q_m4, GL.q_m5, GL.q_m6, GL.q_k1, GL.q_k2, GL.q_k3, GL.q_k4, GL.q_k5, exists_and_left, GL.q_ixr, GL.q_ixi, GL.q_setr, GL.q_slr, GL.q_revr, GL.q_kr, GL.q_lr, GL.q_sr, GL.q_vr, GL.put_same, GL.put_put, GL.keyD, GL.wNew, GL.Cell.dct.injEq, GL.Cell.lst.injEq, GL.D.int.injEq, GL.D.str.injEq, GL.D.ref.injEq, GL.D.tup.injEq, reduceCtorEq, false_and, and_false, or_false, false_or, exists_false, exists_const, and_assoc, GL.q_app, GL.q_ext, GL.q_pop, GL.q_get2, GL.q_join, GL.q_upper, GL.GTgs.len, GL.GTg.slots, GL.GTgs.slots, GL.GXs.len, GL.wipeE, List.getElem?_cons_zero, List.getElem?_cons_succ, List.set_cons_zero, List.set_cons_succ, Option.some.injEq, exists_eq_left', exists_eq_left, List.map_cons, List.map_nil, List.length_cons, List.length_nil, List.replicate_succ, List.replicate_zero, List.cons_append, List.nil_append, List.zip_cons_cons, List.zip_nil_right, List.foldl_cons, List.foldl_nil, Nat.reduceAdd, Nat.reduceSub, true_and, and_true, ↓reduceIte, Bool.false_eq_true, GL.wFld, GL.wMtd, GL.wMake, GL.wSetFld, GL.wLrg, GL.wTrg, GL.q_dictP, GL.wInd, $[$xs:ident],*] $[$loc]?)
namespace K01
open PySem GL
def isRow (d : D) (m : Int) : Bool := match d with
  | .tup ds => decide ((ds.length : Int) = m)
  | _ => false
def cRow : GC0 := fun args S Q => ∃ d m, args = [d, .int m] ∧ (∃ k, kindD S d = some k) ∧ Q (.bl (isRow d m)) S
theorem eqT_int {f : D → D → Option Bool} {S : Store} {i j : Int} : eqT f S (.int i) (.int j) = some (i == j) := rfl
theorem eqT_str {f : D → D → Option Bool} {S : Store} {i j : Str} : eqT f S (.str i) (.str j) = some (i == j) := rfl
theorem x_is_row (T : Tb) (args : List D) (S : Store) (Q : GQ) (h : cRow args S Q) : wB_ T noW b_is_row (fnEnd Q) (initE N_is_row args) S := by
  obtain ⟨d, m, rfl, ⟨k, hk⟩, h⟩ := h
  simp only [b_is_row, initE, N_is_row]
  delta hk fnEnd
  refine ⟨.tup, rfl, ?_⟩
  cases d with
  | tup ds =>
    cases hk
    delta isK lenD eqT_int beq_self_eq_true
    exact ⟨S, fun _ _ z => z, by simpa [isRow, Bool.beq_eq_decide_eq] using h⟩
  | ref a =>
    have : k = .lst ∨ k = .dct := by rw [q_kr] at hk; split at hk <;> first | (cases hk; simp) | (cases hk)
    rcases this with rfl | rfl <;> exact ⟨S, fun _ _ z => z, h⟩
  | ty _ => cases hk
  | glo _ => cases hk
  | _ => cases hk <;> exact ⟨S, fun _ _ z => z, h⟩
def isTupD : D → Bool
  | .tup _ => true
  | _ => false
def isStrD : D → Bool
  | .str _ => true
  | _ => false
theorem kt {S : Store} {d : D} {k : Kn} (h : kindD S d = some k) : isK k .tup = isTupD d := by
  cases d with
  | ref a => rw [q_kr] at h; split at h <;> first | (cases h; rfl) | cases h
  | ty _ => cases h
  | glo _ => cases h
  | _ => cases h <;> rfl
theorem ks {S : Store} {d : D} {k : Kn} (h : kindD S d = some k) : isK k .str = isStrD d := by
  cases d with
  | ref a => rw [q_kr] at h; split at h <;> first | (cases h; rfl) | cases h
  | ty _ => cases h
  | glo _ => cases h
  | _ => cases h <;> rfl
theorem kn_t : knOf "tuple" = some .tup := rfl
theorem kn_s : knOf "str" = some .str := rfl
def KG (S : Store) (d : D) : Prop := ∃ F L h c, L ≤ 1000000 ∧ c ≤ 1000000 ∧ Gv F S L h c d
theorem KG.kind {S : Store} {d : D} (g : KG S d) : ∃ k, kindD S d = some k := by obtain ⟨F, L, h, c, _, _, g⟩ := g; exact g.kind
theorem KG.item {S : Store} {ds : List D} {d : D} (g : KG S (.tup ds)) (h : d ∈ ds) : KG S d := by
  obtain ⟨F, L, h', c, hL, hc, g⟩ := g
  cases g with
  | tup q r => exact ⟨F, L, _, _, hL, by omega, q.get h⟩
theorem KG.sub {S S' : Store} {d : D} (g : KG S d) (s : Sub S S') : KG S' d := by
  obtain ⟨F, L, h', c, hL, hc, g⟩ := g
  exact ⟨F, L, h', c, hL, hc, g.up (Nat.le_refl _) (fun _ z => z) (fun x c _ e => s x c e) (Nat.le_refl _) (Nat.le_refl _)⟩
theorem KG.slen {S : Store} {x : Str} (g : KG S (.str x)) : x.length ≤ 1000000 := by
  obtain ⟨F, L, h', c, hL, hc, g⟩ := g
  cases g with
  | str q r => exact Nat.le_trans q.len hL
theorem KG.tlen {S : Store} {x : List D} (g : KG S (.tup x)) : x.length ≤ 1000000 := by
  obtain ⟨F, L, h', c, hL, hc, g⟩ := g
  cases g with
  | tup q r => have := q.len; omega
def hdIs (d : D) (w : Str) : Bool := match d with
  | .tup (.str x :: _) => x == w
  | _ => false
def isKind (d : D) (w : Str) (m : Int) : Bool := isRow d m && hdIs d w
def cKind : GC0 := fun args S Q => ∃ d w m, args = [d, .str w, .int m] ∧ 1 ≤ m ∧ KG S d ∧ Q (.bl (isKind d w m)) S
theorem x_is_kind (T : Tb) (hr : Has T "is_row" cRow) (args : List D) (S : Store) (Q : GQ) (h : cKind args S Q) : wB_ T noW b_is_kind (fnEnd Q) (initE N_is_kind args) S := by
  obtain ⟨d, w, m, rfl, hm, g, h⟩ := h
  simp only [b_is_kind, initE, N_is_kind]
  delta fnEnd
  refine hr.use rfl ⟨d, m, rfl, g.kind, ?_⟩
  walk_at "gl"
  unfold isKind at h
  cases hr' : isRow d m with
  | false => rw [hr', Bool.false_and] at h; exact ⟨S, fun _ _ z => z, h⟩
  | true =>
    rw [hr', Bool.true_and] at h
    cases d with
    | tup ds =>
      simp only [isRow, decide_eq_true_eq] at hr'
      cases ds with
      | nil => simp at hr'; omega
      | cons x r =>
        obtain ⟨k, hk⟩ := (g.item (List.mem_cons_self ..)).kind
        simp only [GL.wB_, GL.wS, GL.wSeq, GL.wRet, GL.w, GL.both, GL.wAndE, GL.wOrE, GL.wSlot, GL.wAs, GL.wCons, GL.wNil, GL.wVal, GL.wB, GL.wCmp, GL.wCmp2, GL.wBin, GL.wUn, GL.wNot, GL.wAnd, GL.wOr, GL.wIfE, GL.wIf, GL.wTup, GL.wLst, GL.wSlc, GL.wNoP, GL.wPart, GL.wO, GL.wC, GL.wI, GL.wG, GL.wGs, GL.wIt, GL.wRange1, GL.wRange2, GL.wEnum, GL.wZip, GL.wgName, GL.wgTup, GL.wgCons, GL.wgNil, GL.wAsg, GL.wDrop, GL.wSkip, GL.wPar, GL.wSetIx, GL.wTru, GL.wFor, GL.wLc, GL.wMth, GL.wCall, GL.wCallK, GL.wPs, GL.wPairs, GL.q_len, GL.q_isi, GL.q_int, GL.q_list, GL.q_tupt, GL.q_tupr, GL.q_all, GL.q_any, GL.q_max2, GL.q_min2, GL.q_sorted, GL.q_stri, GL.q_strs, GL.q_strb, GL.q_repr, GL.q_dict, GL.q_sum, GL.q_addi, GL.q_adds, GL.q_addt, GL.q_addl, GL.q_addb, GL.q_subi, GL.q_subb, GL.q_muls, GL.q_muli, GL.q_divi, GL.q_modi, GL.q_powi, GL.q_negi, GL.q_negb, GL.q_eq, GL.q_ne, GL.q_lti, GL.q_lei, GL.q_gti, GL.q_gei, GL.q_lts, GL.q_ins, GL.q_nins, GL.q_int_, GL.q_inl, GL.q_nint, GL.q_ninl, GL.q_trb, GL.q_tri, GL.q_ixt, GL.q_ixs, GL.q_slt, GL.q_sls, GL.q_revt, GL.ix_lst, GL.q_dct0, GL.ik_non_tup, GL.ik_non_int, GL.ik_non_str, GL.ik_non_lst, GL.ik_non_bl, GL.ik_non_dct, GL.ik_bl_tup, GL.ik_bl_int, GL.ik_bl_str, GL.ik_bl_lst, GL.ik_bl_bl, GL.ik_bl_dct, GL.ik_int_tup, GL.ik_int_int, GL.ik_int_str, GL.ik_int_lst, GL.ik_int_bl, GL.ik_int_dct, GL.ik_str_tup, GL.ik_str_int, GL.ik_str_str, GL.ik_str_lst, GL.ik_str_bl, GL.ik_str_dct, GL.ik_tup_tup, GL.ik_tup_int, GL.ik_tup_str, GL.ik_tup_lst, GL.ik_tup_bl, GL.ik_tup_dct, GL.ik_lst_tup, GL.ik_lst_int, GL.ik_lst_str, GL.ik_lst_lst, GL.ik_lst_bl, GL.ik_lst_dct, GL.ik_dct_tup, GL.ik_dct_int, GL.ik_dct_str, GL.ik_dct_lst, GL.ik_dct_bl, GL.ik_dct_dct, GL.q_st, GL.q_sf, GL.q_lt, List.cons.injEq, GL.at0, GL.at1, GL.at2, GL.q_itt, GL.q_its, GL.q_itr, GL.q_zt, GL.q_zr, GL.srcT, GL.srcL, GL.q_m1, GL.q_m2, GL.q_m3, GL.q_m4, GL.q_m5, GL.q_m6, GL.q_k1, GL.q_k2, GL.q_k3, GL.q_k4, GL.q_k5, exists_and_left, GL.q_ixr, GL.q_ixi, GL.q_setr, GL.q_slr, GL.q_revr, GL.q_kr, GL.q_lr, GL.q_sr, GL.q_vr, GL.put_same, GL.put_put, GL.keyD, GL.wNew, GL.Cell.dct.injEq, GL.Cell.lst.injEq, GL.D.int.injEq, GL.D.str.injEq, GL.D.ref.injEq, GL.D.tup.injEq, reduceCtorEq, false_and, and_false, or_false, false_or, exists_false, exists_const, and_assoc, GL.q_app, GL.q_ext, GL.q_pop, GL.q_get2, GL.q_join, GL.q_upper, GL.GTgs.len, GL.GTg.slots, GL.GTgs.slots, GL.GXs.len, GL.wipeE, List.getElem?_cons_zero, List.getElem?_cons_succ, List.set_cons_zero, List.set_cons_succ, Option.some.injEq, exists_eq_left', exists_eq_left, List.map_cons, List.map_nil, List.length_cons, List.length_nil, List.replicate_succ, List.replicate_zero, List.cons_append, List.nil_append, List.zip_cons_cons, List.zip_nil_right, List.foldl_cons, List.foldl_nil, Nat.reduceAdd, Nat.reduceSub, true_and, and_true, ↓reduceIte, Bool.false_eq_true, GL.wFld, GL.wMtd, GL.wMake, GL.wSetFld, GL.wLrg, GL.wTrg, GL.q_dictP, GL.wInd, hk, kn_s, ks hk]
        cases x with
        | str y =>
          delta isStrD eqT_str
          exact ⟨S, fun _ _ z => z, h⟩
        | _ => exact ⟨S, fun _ _ z => z, h⟩
    | _ => cases hr'
def lettersS : Str := "abcdefghijklmnopqrstuvwxyz"
def okD (d : D) : Bool := match d with
  | .str y => !(Builtin.Str.occurrences lettersS y 0 lettersS.length 1).isEmpty
  | _ => false
def resv : List Str := ["all", "none", "some", "and", "each", "is"]
def isWord (d : D) : Bool := match d with
  | .str x => decide (1 ≤ x.length) && (decide (x.length ≤ 10) && (!(resv.any (· == x)) && (signs x).all okD))
  | _ => false
def cPure1 (f : D → Bool) : GC0 := fun args S Q => ∃ d, args = [d] ∧ KG S d ∧ ∀ S', Sub S S' → Q (.bl (f d)) S'
theorem eqF_str {S : Store} {n : Nat} {i j : Str} : eqF S (n + 1) (.str i) (.str j) = some (i == j) := rfl
theorem mapM_some {α β : Type} (f : α → β) : ∀ l : List α, l.mapM (fun x => some (f x)) = some (l.map f)
  | [] => rfl
  | x :: l => by rw [List.mapM_cons, mapM_some f l]; rfl
theorem in_strs {S : Store} {x : Str} (l : List Str) : (l.map D.str).mapM (fun y => eqF S 60 y (.str x)) = some (l.map (· == x)) := by
  induction l with
  | nil => rfl
  | cons y l ih => rw [List.map_cons, List.mapM_cons, ih]; rfl
theorem x_is_word_value (T : Tb) (v1 : HasV T "MOST_LETTERS" (.int 10)) (v2 : HasV T "RESERVED" (.tup (resv.map D.str))) (v3 : HasV T "LETTERS" (.str lettersS)) (args : List D) (S : Store) (Q : GQ) (h : cPure1 isWord args S Q) :
    wB_ T noW b_is_word_value (fnEnd Q) (initE N_is_word_value args) S := by
  obtain ⟨d, rfl, g, h⟩ := h
  simp only [b_is_word_value, initE, N_is_word_value]
  obtain ⟨k, hk⟩ := g.kind
  unfold HasV at v1 v2 v3
  simp only [GL.wB_, GL.wS, GL.wSeq, GL.wRet, GL.w, GL.both, GL.wAndE, GL.wOrE, GL.wSlot, GL.wAs, GL.wCons, GL.wNil, GL.wVal, GL.wB, GL.wCmp, GL.wCmp2, GL.wBin, GL.wUn, GL.wNot, GL.wAnd, GL.wOr, GL.wIfE, GL.wIf, GL.wTup, GL.wLst, GL.wSlc, GL.wNoP, GL.wPart, GL.wO, GL.wC, GL.wI, GL.wG, GL.wGs, GL.wIt, GL.wRange1, GL.wRange2, GL.wEnum, GL.wZip, GL.wgName, GL.wgTup, GL.wgCons, GL.wgNil, GL.wAsg, GL.wDrop, GL.wSkip, GL.wPar, GL.wSetIx, GL.wTru, GL.wFor, GL.wLc, GL.wMth, GL.wCall, GL.wCallK, GL.wPs, GL.wPairs, GL.q_len, GL.q_isi, GL.q_int, GL.q_list, GL.q_tupt, GL.q_tupr, GL.q_all, GL.q_any, GL.q_max2, GL.q_min2, GL.q_sorted, GL.q_stri, GL.q_strs, GL.q_strb, GL.q_repr, GL.q_dict, GL.q_sum, GL.q_addi, GL.q_adds, GL.q_addt, GL.q_addl, GL.q_addb, GL.q_subi, GL.q_subb, GL.q_muls, GL.q_muli, GL.q_divi, GL.q_modi, GL.q_powi, GL.q_negi, GL.q_negb, GL.q_eq, GL.q_ne, GL.q_lti, GL.q_lei, GL.q_gti, GL.q_gei, GL.q_lts, GL.q_ins, GL.q_nins, GL.q_int_, GL.q_inl, GL.q_nint, GL.q_ninl, GL.q_trb, GL.q_tri, GL.q_ixt, GL.q_ixs, GL.q_slt, GL.q_sls, GL.q_revt, GL.ix_lst, GL.q_dct0, GL.ik_non_tup, GL.ik_non_int, GL.ik_non_str, GL.ik_non_lst, GL.ik_non_bl, GL.ik_non_dct, GL.ik_bl_tup, GL.ik_bl_int, GL.ik_bl_str, GL.ik_bl_lst, GL.ik_bl_bl, GL.ik_bl_dct, GL.ik_int_tup, GL.ik_int_int, GL.ik_int_str, GL.ik_int_lst, GL.ik_int_bl, GL.ik_int_dct, GL.ik_str_tup, GL.ik_str_int, GL.ik_str_str, GL.ik_str_lst, GL.ik_str_bl, GL.ik_str_dct, GL.ik_tup_tup, GL.ik_tup_int, GL.ik_tup_str, GL.ik_tup_lst, GL.ik_tup_bl, GL.ik_tup_dct, GL.ik_lst_tup, GL.ik_lst_int, GL.ik_lst_str, GL.ik_lst_lst, GL.ik_lst_bl, GL.ik_lst_dct, GL.ik_dct_tup, GL.ik_dct_int, GL.ik_dct_str, GL.ik_dct_lst, GL.ik_dct_bl, GL.ik_dct_dct, GL.q_st, GL.q_sf, GL.q_lt, List.cons.injEq, GL.at0, GL.at1, GL.at2, GL.q_itt, GL.q_its, GL.q_itr, GL.q_zt, GL.q_zr, GL.srcT, GL.srcL, GL.q_m1, GL.q_m2, GL.q_m3, GL.q_m4, GL.q_m5, GL.q_m6, GL.q_k1, GL.q_k2, GL.q_k3, GL.q_k4, GL.q_k5, exists_and_left, GL.q_ixr, GL.q_ixi, GL.q_setr, GL.q_slr, GL.q_revr, GL.q_kr, GL.q_lr, GL.q_sr, GL.q_vr, GL.put_same, GL.put_put, GL.keyD, GL.wNew, GL.Cell.dct.injEq, GL.Cell.lst.injEq, GL.D.int.injEq, GL.D.str.injEq, GL.D.ref.injEq, GL.D.tup.injEq, reduceCtorEq, false_and, and_false, or_false, false_or, exists_false, exists_const, and_assoc, GL.q_app, GL.q_ext, GL.q_pop, GL.q_get2, GL.q_join, GL.q_upper, GL.GTgs.len, GL.GTg.slots, GL.GTgs.slots, GL.GXs.len, GL.wipeE, List.getElem?_cons_zero, List.getElem?_cons_succ, List.set_cons_zero, List.set_cons_succ, Option.some.injEq, exists_eq_left', exists_eq_left, List.map_cons, List.map_nil, List.length_cons, List.length_nil, List.replicate_succ, List.replicate_zero, List.cons_append, List.nil_append, List.zip_cons_cons, List.zip_nil_right, List.foldl_cons, List.foldl_nil, Nat.reduceAdd, Nat.reduceSub, true_and, and_true, ↓reduceIte, Bool.false_eq_true, GL.wFld, GL.wMtd, GL.wMake, GL.wSetFld, GL.wLrg, GL.wTrg, GL.q_dictP, GL.wInd, hk, fnEnd, kn_s, ks hk, v1, v2, v3]
  cases d with
  | str x =>
    simp only [GL.wB_, GL.wS, GL.wSeq, GL.wRet, GL.w, GL.both, GL.wAndE, GL.wOrE, GL.wSlot, GL.wAs, GL.wCons, GL.wNil, GL.wVal, GL.wB, GL.wCmp, GL.wCmp2, GL.wBin, GL.wUn, GL.wNot, GL.wAnd, GL.wOr, GL.wIfE, GL.wIf, GL.wTup, GL.wLst, GL.wSlc, GL.wNoP, GL.wPart, GL.wO, GL.wC, GL.wI, GL.wG, GL.wGs, GL.wIt, GL.wRange1, GL.wRange2, GL.wEnum, GL.wZip, GL.wgName, GL.wgTup, GL.wgCons, GL.wgNil, GL.wAsg, GL.wDrop, GL.wSkip, GL.wPar, GL.wSetIx, GL.wTru, GL.wFor, GL.wLc, GL.wMth, GL.wCall, GL.wCallK, GL.wPs, GL.wPairs, GL.q_len, GL.q_isi, GL.q_int, GL.q_list, GL.q_tupt, GL.q_tupr, GL.q_all, GL.q_any, GL.q_max2, GL.q_min2, GL.q_sorted, GL.q_stri, GL.q_strs, GL.q_strb, GL.q_repr, GL.q_dict, GL.q_sum, GL.q_addi, GL.q_adds, GL.q_addt, GL.q_addl, GL.q_addb, GL.q_subi, GL.q_subb, GL.q_muls, GL.q_muli, GL.q_divi, GL.q_modi, GL.q_powi, GL.q_negi, GL.q_negb, GL.q_eq, GL.q_ne, GL.q_lti, GL.q_lei, GL.q_gti, GL.q_gei, GL.q_lts, GL.q_ins, GL.q_nins, GL.q_int_, GL.q_inl, GL.q_nint, GL.q_ninl, GL.q_trb, GL.q_tri, GL.q_ixt, GL.q_ixs, GL.q_slt, GL.q_sls, GL.q_revt, GL.ix_lst, GL.q_dct0, GL.ik_non_tup, GL.ik_non_int, GL.ik_non_str, GL.ik_non_lst, GL.ik_non_bl, GL.ik_non_dct, GL.ik_bl_tup, GL.ik_bl_int, GL.ik_bl_str, GL.ik_bl_lst, GL.ik_bl_bl, GL.ik_bl_dct, GL.ik_int_tup, GL.ik_int_int, GL.ik_int_str, GL.ik_int_lst, GL.ik_int_bl, GL.ik_int_dct, GL.ik_str_tup, GL.ik_str_int, GL.ik_str_str, GL.ik_str_lst, GL.ik_str_bl, GL.ik_str_dct, GL.ik_tup_tup, GL.ik_tup_int, GL.ik_tup_str, GL.ik_tup_lst, GL.ik_tup_bl, GL.ik_tup_dct, GL.ik_lst_tup, GL.ik_lst_int, GL.ik_lst_str, GL.ik_lst_lst, GL.ik_lst_bl, GL.ik_lst_dct, GL.ik_dct_tup, GL.ik_dct_int, GL.ik_dct_str, GL.ik_dct_lst, GL.ik_dct_bl, GL.ik_dct_dct, GL.q_st, GL.q_sf, GL.q_lt, List.cons.injEq, GL.at0, GL.at1, GL.at2, GL.q_itt, GL.q_its, GL.q_itr, GL.q_zt, GL.q_zr, GL.srcT, GL.srcL, GL.q_m1, GL.q_m2, GL.q_m3, GL.q_m4, GL.q_m5, GL.q_m6, GL.q_k1, GL.q_k2, GL.q_k3, GL.q_k4, GL.q_k5, exists_and_left, GL.q_ixr, GL.q_ixi, GL.q_setr, GL.q_slr, GL.q_revr, GL.q_kr, GL.q_lr, GL.q_sr, GL.q_vr, GL.put_same, GL.put_put, GL.keyD, GL.wNew, GL.Cell.dct.injEq, GL.Cell.lst.injEq, GL.D.int.injEq, GL.D.str.injEq, GL.D.ref.injEq, GL.D.tup.injEq, reduceCtorEq, false_and, and_false, or_false, false_or, exists_false, exists_const, and_assoc, GL.q_app, GL.q_ext, GL.q_pop, GL.q_get2, GL.q_join, GL.q_upper, GL.GTgs.len, GL.GTg.slots, GL.GTgs.slots, GL.GXs.len, GL.wipeE, List.getElem?_cons_zero, List.getElem?_cons_succ, List.set_cons_zero, List.set_cons_succ, Option.some.injEq, exists_eq_left', exists_eq_left, List.map_cons, List.map_nil, List.length_cons, List.length_nil, List.replicate_succ, List.replicate_zero, List.cons_append, List.nil_append, List.zip_cons_cons, List.zip_nil_right, List.foldl_cons, List.foldl_nil, Nat.reduceAdd, Nat.reduceSub, true_and, and_true, ↓reduceIte, Bool.false_eq_true, GL.wFld, GL.wMtd, GL.wMake, GL.wSetFld, GL.wLrg, GL.wTrg, GL.q_dictP, GL.wInd, isStrD, lenD, Bool.not_true, Bool.not_false, if_pos (le_size g.slen)]
    have hr : vw S (.tup (resv.map D.str)) = .seq false (resv.map D.str) := rfl
    have h' := h
    simp only [isWord] at h
    by_cases h1 : 1 ≤ x.length
    · by_cases h2 : x.length ≤ 10
      · have e1 : (1 : Int) ≤ x.length := by omega
        have e2 : (x.length : Int) ≤ 10 := by omega
        rw [decide_eq_true h1, decide_eq_true h2] at h
        simp only [GL.wB_, GL.wS, GL.wSeq, GL.wRet, GL.w, GL.both, GL.wAndE, GL.wOrE, GL.wSlot, GL.wAs, GL.wCons, GL.wNil, GL.wVal, GL.wB, GL.wCmp, GL.wCmp2, GL.wBin, GL.wUn, GL.wNot, GL.wAnd, GL.wOr, GL.wIfE, GL.wIf, GL.wTup, GL.wLst, GL.wSlc, GL.wNoP, GL.wPart, GL.wO, GL.wC, GL.wI, GL.wG, GL.wGs, GL.wIt, GL.wRange1, GL.wRange2, GL.wEnum, GL.wZip, GL.wgName, GL.wgTup, GL.wgCons, GL.wgNil, GL.wAsg, GL.wDrop, GL.wSkip, GL.wPar, GL.wSetIx, GL.wTru, GL.wFor, GL.wLc, GL.wMth, GL.wCall, GL.wCallK, GL.wPs, GL.wPairs, GL.q_len, GL.q_isi, GL.q_int, GL.q_list, GL.q_tupt, GL.q_tupr, GL.q_all, GL.q_any, GL.q_max2, GL.q_min2, GL.q_sorted, GL.q_stri, GL.q_strs, GL.q_strb, GL.q_repr, GL.q_dict, GL.q_sum, GL.q_addi, GL.q_adds, GL.q_addt, GL.q_addl, GL.q_addb, GL.q_subi, GL.q_subb, GL.q_muls, GL.q_muli, GL.q_divi, GL.q_modi, GL.q_powi, GL.q_negi, GL.q_negb, GL.q_eq, GL.q_ne, GL.q_lti, GL.q_lei, GL.q_gti, GL.q_gei, GL.q_lts, GL.q_ins, GL.q_nins, GL.q_int_, GL.q_inl, GL.q_nint, GL.q_ninl, GL.q_trb, GL.q_tri, GL.q_ixt, GL.q_ixs, GL.q_slt, GL.q_sls, GL.q_revt, GL.ix_lst, GL.q_dct0, GL.ik_non_tup, GL.ik_non_int, GL.ik_non_str, GL.ik_non_lst, GL.ik_non_bl, GL.ik_non_dct, GL.ik_bl_tup, GL.ik_bl_int, GL.ik_bl_str, GL.ik_bl_lst, GL.ik_bl_bl, GL.ik_bl_dct, GL.ik_int_tup, GL.ik_int_int, GL.ik_int_str, GL.ik_int_lst, GL.ik_int_bl, GL.ik_int_dct, GL.ik_str_tup, GL.ik_str_int, GL.ik_str_str, GL.ik_str_lst, GL.ik_str_bl, GL.ik_str_dct, GL.ik_tup_tup, GL.ik_tup_int, GL.ik_tup_str, GL.ik_tup_lst, GL.ik_tup_bl, GL.ik_tup_dct, GL.ik_lst_tup, GL.ik_lst_int, GL.ik_lst_str, GL.ik_lst_lst, GL.ik_lst_bl, GL.ik_lst_dct, GL.ik_dct_tup, GL.ik_dct_int, GL.ik_dct_str, GL.ik_dct_lst, GL.ik_dct_bl, GL.ik_dct_dct, GL.q_st, GL.q_sf, GL.q_lt, List.cons.injEq, GL.at0, GL.at1, GL.at2, GL.q_itt, GL.q_its, GL.q_itr, GL.q_zt, GL.q_zr, GL.srcT, GL.srcL, GL.q_m1, GL.q_m2, GL.q_m3, GL.q_m4, GL.q_m5, GL.q_m6, GL.q_k1, GL.q_k2, GL.q_k3, GL.q_k4, GL.q_k5, exists_and_left, GL.q_ixr, GL.q_ixi, GL.q_setr, GL.q_slr, GL.q_revr, GL.q_kr, GL.q_lr, GL.q_sr, GL.q_vr, GL.put_same, GL.put_put, GL.keyD, GL.wNew, GL.Cell.dct.injEq, GL.Cell.lst.injEq, GL.D.int.injEq, GL.D.str.injEq, GL.D.ref.injEq, GL.D.tup.injEq, reduceCtorEq, false_and, and_false, or_false, false_or, exists_false, exists_const, and_assoc, GL.q_app, GL.q_ext, GL.q_pop, GL.q_get2, GL.q_join, GL.q_upper, GL.GTgs.len, GL.GTg.slots, GL.GTgs.slots, GL.GXs.len, GL.wipeE, List.getElem?_cons_zero, List.getElem?_cons_succ, List.set_cons_zero, List.set_cons_succ, Option.some.injEq, exists_eq_left', exists_eq_left, List.map_cons, List.map_nil, List.length_cons, List.length_nil, List.replicate_succ, List.replicate_zero, List.cons_append, List.nil_append, List.zip_cons_cons, List.zip_nil_right, List.foldl_cons, List.foldl_nil, Nat.reduceAdd, Nat.reduceSub, true_and, and_true, ↓reduceIte, Bool.false_eq_true, GL.wFld, GL.wMtd, GL.wMake, GL.wSetFld, GL.wLrg, GL.wTrg, GL.q_dictP, GL.wInd, decide_eq_true e1, decide_eq_true e2, hr, Vw.seq.injEq, in_strs, Bool.not_true]
        have ea : (resv.map (· == x)).any id = resv.any (· == x) := by rw [List.any_map]; rfl
        rw [ea]
        cases hv : resv.any (· == x) with
        | true => rw [hv] at h; exact ⟨S, fun _ _ z => z, h S (Sub.refl S)⟩
        | false =>
          rw [hv] at h
          rw [if_neg (by decide)]
          intro a ha
          refine lc_map ha (fun _ _ => trivial) (fun d => .bl (okD d)) (signs x) (le_size (by unfold signs; rw [List.length_map]; exact g.slen)) (fun d hd S1 K1 K2 s1 k1 => ?_) fun S' s' h3 => ?_
          · obtain ⟨c, hc, rfl⟩ := List.mem_map.mp hd
            walk_at "gl"
            exact k1 S1 (Sub.refl S1)
          · refine ⟨(signs x).map okD, by rw [h3, List.map_map]; rfl, S', fun _ _ z => z, ?_⟩
            have := h S' s'
            rw [List.all_map]
            simpa using this
      · have e1 : (1 : Int) ≤ x.length := by omega
        have e2 : ¬ (x.length : Int) ≤ 10 := by omega
        simp only [GL.wB_, GL.wS, GL.wSeq, GL.wRet, GL.w, GL.both, GL.wAndE, GL.wOrE, GL.wSlot, GL.wAs, GL.wCons, GL.wNil, GL.wVal, GL.wB, GL.wCmp, GL.wCmp2, GL.wBin, GL.wUn, GL.wNot, GL.wAnd, GL.wOr, GL.wIfE, GL.wIf, GL.wTup, GL.wLst, GL.wSlc, GL.wNoP, GL.wPart, GL.wO, GL.wC, GL.wI, GL.wG, GL.wGs, GL.wIt, GL.wRange1, GL.wRange2, GL.wEnum, GL.wZip, GL.wgName, GL.wgTup, GL.wgCons, GL.wgNil, GL.wAsg, GL.wDrop, GL.wSkip, GL.wPar, GL.wSetIx, GL.wTru, GL.wFor, GL.wLc, GL.wMth, GL.wCall, GL.wCallK, GL.wPs, GL.wPairs, GL.q_len, GL.q_isi, GL.q_int, GL.q_list, GL.q_tupt, GL.q_tupr, GL.q_all, GL.q_any, GL.q_max2, GL.q_min2, GL.q_sorted, GL.q_stri, GL.q_strs, GL.q_strb, GL.q_repr, GL.q_dict, GL.q_sum, GL.q_addi, GL.q_adds, GL.q_addt, GL.q_addl, GL.q_addb, GL.q_subi, GL.q_subb, GL.q_muls, GL.q_muli, GL.q_divi, GL.q_modi, GL.q_powi, GL.q_negi, GL.q_negb, GL.q_eq, GL.q_ne, GL.q_lti, GL.q_lei, GL.q_gti, GL.q_gei, GL.q_lts, GL.q_ins, GL.q_nins, GL.q_int_, GL.q_inl, GL.q_nint, GL.q_ninl, GL.q_trb, GL.q_tri, GL.q_ixt, GL.q_ixs, GL.q_slt, GL.q_sls, GL.q_revt, GL.ix_lst, GL.q_dct0, GL.ik_non_tup, GL.ik_non_int, GL.ik_non_str, GL.ik_non_lst, GL.ik_non_bl, GL.ik_non_dct, GL.ik_bl_tup, GL.ik_bl_int, GL.ik_bl_str, GL.ik_bl_lst, GL.ik_bl_bl, GL.ik_bl_dct, GL.ik_int_tup, GL.ik_int_int, GL.ik_int_str, GL.ik_int_lst, GL.ik_int_bl, GL.ik_int_dct, GL.ik_str_tup, GL.ik_str_int, GL.ik_str_str, GL.ik_str_lst, GL.ik_str_bl, GL.ik_str_dct, GL.ik_tup_tup, GL.ik_tup_int, GL.ik_tup_str, GL.ik_tup_lst, GL.ik_tup_bl, GL.ik_tup_dct, GL.ik_lst_tup, GL.ik_lst_int, GL.ik_lst_str, GL.ik_lst_lst, GL.ik_lst_bl, GL.ik_lst_dct, GL.ik_dct_tup, GL.ik_dct_int, GL.ik_dct_str, GL.ik_dct_lst, GL.ik_dct_bl, GL.ik_dct_dct, GL.q_st, GL.q_sf, GL.q_lt, List.cons.injEq, GL.at0, GL.at1, GL.at2, GL.q_itt, GL.q_its, GL.q_itr, GL.q_zt, GL.q_zr, GL.srcT, GL.srcL, GL.q_m1, GL.q_m2, GL.q_m3, GL.q_m4, GL.q_m5, GL.q_m6, GL.q_k1, GL.q_k2, GL.q_k3, GL.q_k4, GL.q_k5, exists_and_left, GL.q_ixr, GL.q_ixi, GL.q_setr, GL.q_slr, GL.q_revr, GL.q_kr, GL.q_lr, GL.q_sr, GL.q_vr, GL.put_same, GL.put_put, GL.keyD, GL.wNew, GL.Cell.dct.injEq, GL.Cell.lst.injEq, GL.D.int.injEq, GL.D.str.injEq, GL.D.ref.injEq, GL.D.tup.injEq, reduceCtorEq, false_and, and_false, or_false, false_or, exists_false, exists_const, and_assoc, GL.q_app, GL.q_ext, GL.q_pop, GL.q_get2, GL.q_join, GL.q_upper, GL.GTgs.len, GL.GTg.slots, GL.GTgs.slots, GL.GXs.len, GL.wipeE, List.getElem?_cons_zero, List.getElem?_cons_succ, List.set_cons_zero, List.set_cons_succ, Option.some.injEq, exists_eq_left', exists_eq_left, List.map_cons, List.map_nil, List.length_cons, List.length_nil, List.replicate_succ, List.replicate_zero, List.cons_append, List.nil_append, List.zip_cons_cons, List.zip_nil_right, List.foldl_cons, List.foldl_nil, Nat.reduceAdd, Nat.reduceSub, true_and, and_true, ↓reduceIte, Bool.false_eq_true, GL.wFld, GL.wMtd, GL.wMake, GL.wSetFld, GL.wLrg, GL.wTrg, GL.q_dictP, GL.wInd, decide_eq_true e1, decide_eq_false e2, Bool.not_false]
        rw [decide_eq_true h1, decide_eq_false h2] at h
        exact ⟨S, fun _ _ z => z, h S (Sub.refl S)⟩
    · have e1 : ¬ (1 : Int) ≤ x.length := by omega
      simp only [GL.wB_, GL.wS, GL.wSeq, GL.wRet, GL.w, GL.both, GL.wAndE, GL.wOrE, GL.wSlot, GL.wAs, GL.wCons, GL.wNil, GL.wVal, GL.wB, GL.wCmp, GL.wCmp2, GL.wBin, GL.wUn, GL.wNot, GL.wAnd, GL.wOr, GL.wIfE, GL.wIf, GL.wTup, GL.wLst, GL.wSlc, GL.wNoP, GL.wPart, GL.wO, GL.wC, GL.wI, GL.wG, GL.wGs, GL.wIt, GL.wRange1, GL.wRange2, GL.wEnum, GL.wZip, GL.wgName, GL.wgTup, GL.wgCons, GL.wgNil, GL.wAsg, GL.wDrop, GL.wSkip, GL.wPar, GL.wSetIx, GL.wTru, GL.wFor, GL.wLc, GL.wMth, GL.wCall, GL.wCallK, GL.wPs, GL.wPairs, GL.q_len, GL.q_isi, GL.q_int, GL.q_list, GL.q_tupt, GL.q_tupr, GL.q_all, GL.q_any, GL.q_max2, GL.q_min2, GL.q_sorted, GL.q_stri, GL.q_strs, GL.q_strb, GL.q_repr, GL.q_dict, GL.q_sum, GL.q_addi, GL.q_adds, GL.q_addt, GL.q_addl, GL.q_addb, GL.q_subi, GL.q_subb, GL.q_muls, GL.q_muli, GL.q_divi, GL.q_modi, GL.q_powi, GL.q_negi, GL.q_negb, GL.q_eq, GL.q_ne, GL.q_lti, GL.q_lei, GL.q_gti, GL.q_gei, GL.q_lts, GL.q_ins, GL.q_nins, GL.q_int_, GL.q_inl, GL.q_nint, GL.q_ninl, GL.q_trb, GL.q_tri, GL.q_ixt, GL.q_ixs, GL.q_slt, GL.q_sls, GL.q_revt, GL.ix_lst, GL.q_dct0, GL.ik_non_tup, GL.ik_non_int, GL.ik_non_str, GL.ik_non_lst, GL.ik_non_bl, GL.ik_non_dct, GL.ik_bl_tup, GL.ik_bl_int, GL.ik_bl_str, GL.ik_bl_lst, GL.ik_bl_bl, GL.ik_bl_dct, GL.ik_int_tup, GL.ik_int_int, GL.ik_int_str, GL.ik_int_lst, GL.ik_int_bl, GL.ik_int_dct, GL.ik_str_tup, GL.ik_str_int, GL.ik_str_str, GL.ik_str_lst, GL.ik_str_bl, GL.ik_str_dct, GL.ik_tup_tup, GL.ik_tup_int, GL.ik_tup_str, GL.ik_tup_lst, GL.ik_tup_bl, GL.ik_tup_dct, GL.ik_lst_tup, GL.ik_lst_int, GL.ik_lst_str, GL.ik_lst_lst, GL.ik_lst_bl, GL.ik_lst_dct, GL.ik_dct_tup, GL.ik_dct_int, GL.ik_dct_str, GL.ik_dct_lst, GL.ik_dct_bl, GL.ik_dct_dct, GL.q_st, GL.q_sf, GL.q_lt, List.cons.injEq, GL.at0, GL.at1, GL.at2, GL.q_itt, GL.q_its, GL.q_itr, GL.q_zt, GL.q_zr, GL.srcT, GL.srcL, GL.q_m1, GL.q_m2, GL.q_m3, GL.q_m4, GL.q_m5, GL.q_m6, GL.q_k1, GL.q_k2, GL.q_k3, GL.q_k4, GL.q_k5, exists_and_left, GL.q_ixr, GL.q_ixi, GL.q_setr, GL.q_slr, GL.q_revr, GL.q_kr, GL.q_lr, GL.q_sr, GL.q_vr, GL.put_same, GL.put_put, GL.keyD, GL.wNew, GL.Cell.dct.injEq, GL.Cell.lst.injEq, GL.D.int.injEq, GL.D.str.injEq, GL.D.ref.injEq, GL.D.tup.injEq, reduceCtorEq, false_and, and_false, or_false, false_or, exists_false, exists_const, and_assoc, GL.q_app, GL.q_ext, GL.q_pop, GL.q_get2, GL.q_join, GL.q_upper, GL.GTgs.len, GL.GTg.slots, GL.GTgs.slots, GL.GXs.len, GL.wipeE, List.getElem?_cons_zero, List.getElem?_cons_succ, List.set_cons_zero, List.set_cons_succ, Option.some.injEq, exists_eq_left', exists_eq_left, List.map_cons, List.map_nil, List.length_cons, List.length_nil, List.replicate_succ, List.replicate_zero, List.cons_append, List.nil_append, List.zip_cons_cons, List.zip_nil_right, List.foldl_cons, List.foldl_nil, Nat.reduceAdd, Nat.reduceSub, true_and, and_true, ↓reduceIte, Bool.false_eq_true, GL.wFld, GL.wMtd, GL.wMake, GL.wSetFld, GL.wLrg, GL.wTrg, GL.q_dictP, GL.wInd, decide_eq_false e1]
      rw [decide_eq_false h1] at h
      exact ⟨S, fun _ _ z => z, h S (Sub.refl S)⟩
  | _ => exact ⟨S, fun _ _ z => z, h S (Sub.refl S)⟩
end K01
end

-- K01c
section
local macro_rules | `(tactic| walk_at "gl") => `(tactic| simp only [GL.wB_, GL.wS, GL.wSeq, GL.wRet, GL.w, GL.both, GL.wAndE, GL.wOrE, GL.wSlot, GL.wAs, GL.wCons, GL.wNil, GL.wVal, GL.wB, GL.wCmp, GL.wCmp2, GL.wBin, GL.wUn, GL.wNot, GL.wAnd, GL.wOr, GL.wIfE, GL.wIf, GL.wTup, GL.wLst, GL.wSlc, GL.wNoP, GL.wPart, GL.wO, GL.wC, GL.wI, GL.wG, GL.wGs, GL.wIt, GL.wRange1, GL.wRange2, GL.wEnum, GL.wZip, GL.wgName, GL.wgTup, GL.wgCons, GL.wgNil, GL.wAsg, GL.wDrop, GL.wSkip, GL.wPar, GL.wSetIx, GL.wTru, GL.wFor, GL.wLc, GL.wMth, GL.wCall, GL.wCallK, GL.wPs, GL.wPairs, GL.q_len, GL.q_isi, GL.q_int, GL.q_list, GL.q_tupt, GL.q_tupr, GL.q_all, GL.q_any, GL.q_max2, GL.q_min2, GL.q_sorted, GL.q_stri, GL.q_strs, GL.q_strb, GL.q_repr, GL.q_dict, GL.q_sum, GL.q_addi, GL.q_adds, GL.q_addt, GL.q_addl, GL.q_addb, GL.q_subi, GL.q_subb, GL.q_muls, GL.q_muli, GL.q_divi, GL.q_modi, GL.q_powi, GL.q_negi, GL.q_negb, GL.q_eq, GL.q_ne, GL.q_lti, GL.q_lei, GL.q_gti, GL.q_gei, GL.q_lts, GL.q_ins, GL.q_nins, GL.q_int_, GL.q_inl, GL.q_nint, GL.q_ninl, GL.q_trb, GL.q_tri, GL.q_ixt, GL.q_ixs, GL.q_slt, GL.q_sls, GL.q_revt, GL.ix_lst, GL.q_dct0, GL.ik_non_tup, GL.ik_non_int, GL.ik_non_str, GL.ik_non_lst, GL.ik_non_bl, GL.ik_non_dct, GL.ik_bl_tup, GL.ik_bl_int, GL.ik_bl_str, GL.ik_bl_lst, GL.ik_bl_bl, GL.ik_bl_dct, GL.ik_int_tup, GL.ik_int_int, GL.ik_int_str, GL.ik_int_lst, GL.ik_int_bl, GL.ik_int_dct, GL.ik_str_tup, GL.ik_str_int, GL.ik_str_str, GL.ik_str_lst, GL.ik_str_bl, GL.ik_str_dct, GL.ik_tup_tup, GL.ik_tup_int, GL.ik_tup_str, GL.ik_tup_lst, GL.ik_tup_bl, GL.ik_tup_dct, GL.ik_lst_tup, GL.ik_lst_int, GL.ik_lst_str, GL.ik_lst_lst, GL.ik_lst_bl, GL.ik_lst_dct, GL.ik_dct_tup, GL.ik_dct_int, GL.ik_dct_str, GL.ik_dct_lst, GL.ik_dct_bl, GL.ik_dct_dct, GL.q_st, GL.q_sf, GL.q_lt, List.cons.injEq, GL.at0, GL.at1, GL.at2, GL.q_itt, GL.q_its, GL.q_itr, GL.q_zt, GL.q_zr, GL.srcT, GL.srcL, GL.q_m1, GL.q_m2, GL.q_m3, GL.q_m4, GL.q_m5, GL.q_m6, GL.q_k1, GL.q_k2, GL.q_k3, GL.q_k4, GL.q_k5, exists_and_left, GL.q_ixr, GL.q_ixi, GL.q_setr, GL.q_slr, GL.q_revr, GL.q_kr, GL.q_lr, GL.q_sr, GL.q_vr, GL.put_same, GL.put_put, GL.keyD, GL.wNew, GL.Cell.dct.injEq, GL.Cell.lst.injEq, GL.D.int.injEq, GL.D.str.injEq, GL.D.ref.injEq, GL.D.tup.injEq, reduceCtorEq, false_and, and_false, or_false, false_or, exists_false, exists_const, and_assoc, GL.q_app, GL.q_ext, GL.q_pop, GL.q_get2, GL.q_join, GL.q_upper, GL.GTgs.len, GL.GTg.slots, GL.GTgs.slots, GL.GXs.len, GL.wipeE, List.getElem?_cons_zero, List.getElem?_cons_succ, List.set_cons_zero, List.set_cons_succ, Option.some.injEq, exists_eq_left', exists_eq_left, List.map_cons, List.map_nil, List.length_cons, List.length_nil, List.replicate_succ, List.replicate_zero, List.cons_append, List.nil_append, List.zip_cons_cons, List.zip_nil_right, List.foldl_cons, List.foldl_nil, Nat.reduceAdd, Nat.reduceSub, true_and, and_true, ↓reduceIte, Bool.false_eq_true, GL.wFld, GL.wMtd, GL.wMake, GL.wSetFld, GL.wLrg, GL.wTrg, GL.q_dictP, GL.wInd])
local macro_rules | `(tactic| delta $xs* $[$loc]?) => `(tactic| simp only [GL.wB_, GL.wS, GL.wSeq, GL.wRet, GL.w, GL.both, GL.wAndE, GL.wOrE, GL.wSlot, GL.wAs, GL.wCons, GL.wNil, GL.wVal, GL.wB, GL.wCmp, GL.wCmp2, GL.wBin, GL.wUn, GL.wNot, GL.wAnd, GL.wOr, GL.wIfE, GL.wIf, GL.wTup, GL.wLst, GL.wSlc, GL.wNoP, GL.wPart, GL.wO, GL.wC, GL.wI, GL.wG, GL.wGs, GL.wIt, GL.wRange1, GL.wRange2, GL.wEnum, GL.wZip, GL.wgName, GL.wgTup, GL.wgCons, GL.wgNil, GL.wAsg, GL.wDrop, GL.wSkip, GL.wPar, GL.wSetIx, GL.wTru, GL.wFor, GL.wLc, GL.wMth, GL.wCall, GL.wCallK, GL.wPs, GL.wPairs, GL.q_len, GL.q_isi, GL.q_int, GL.q_list, GL.q_tupt, GL.q_tupr, GL.q_all, GL.q_any, GL.q_max2, GL.q_min2, GL.q_sorted, GL.q_stri, GL.q_strs, GL.q_strb, GL.q_repr, GL.q_dict, GL.q_sum, GL.q_addi, GL.q_adds, GL.q_addt, GL.q_addl, GL.q_addb, GL.q_subi, GL.q_subb, GL.q_muls, GL.q_muli, GL.q_divi, GL.q_modi, GL.q_powi, GL.q_negi, GL.q_negb, GL.q_eq, GL.q_ne, GL.q_lti, GL.q_lei, GL.q_gti, GL.q_gei, GL.q_lts, GL.q_ins, GL.q_nins, GL.q_int_, GL.q_inl, GL.q_nint, GL.q_ninl, GL.q_trb, GL.q_tri, GL.q_ixt, GL.q_ixs, GL.q_slt, GL.q_sls, GL.q_revt, GL.ix_lst, GL.q_dct0, GL.ik_non_tup, GL.ik_non_int, GL.ik_non_str, GL.ik_non_lst, GL.ik_non_bl, GL.ik_non_dct, GL.ik_bl_tup, GL.ik_bl_int, GL.ik_bl_str, GL.ik_bl_lst, GL.ik_bl_bl, GL.ik_bl_dct, GL.ik_int_tup, GL.ik_int_int, GL.ik_int_str, GL.ik_int_lst, GL.ik_int_bl, GL.ik_int_dct, GL.ik_str_tup, GL.ik_str_int, GL.ik_str_str, GL.ik_str_lst, GL.ik_str_bl, GL.ik_str_dct, GL.ik_tup_tup, GL.ik_tup_int, GL.ik_tup_str, GL.ik_tup_lst, GL.ik_tup_bl, GL.ik_tup_dct, GL.ik_lst_tup, GL.ik_lst_int, GL.ik_lst_str, GL.ik_lst_lst, GL.ik_lst_bl, GL.ik_lst_dct, GL.ik_dct_tup, GL.ik_dct_int, GL.ik_dct_str, GL.ik_dct_lst, GL.ik_dct_bl, GL.ik_dct_dct, GL.q_st, GL.q_sf, GL.q_lt, List.cons.injEq, GL.at0, GL.at1, GL.at2, GL.q_itt, GL.q_its, GL.q_itr, GL.q_zt, GL.q_zr, GL.srcT, GL.srcL, GL.q_m1, GL.q_m2, GL.q_m3, GL.q_m4, GL.q_m5, GL.q_m6, GL.q_k1, GL.q_k2, GL.q_k3, GL.q_k4, GL.q_k5, exists_and_left, GL.q_ixr, GL.q_ixi, GL.q_setr, GL.q_slr, GL.q_revr, GL.q_kr, GL.q_lr, GL.q_sr, GL.q_vr, GL.put_same, GL.put_put, GL.keyD, GL.wNew, GL.Cell.dct.injEq, GL.Cell.lst.injEq, GL.D.int.injEq, GL.D.str.injEq, GL.D.ref.injEq, GL.D.tup.injEq, reduceCtorEq, false_and, and_false, or_false, false_or, exists_false, exists_const, and_assoc, GL.q_app, GL.q_ext, GL.q_pop, GL.q_get2, GL.q_join, GL.q_upper, GL.GTgs.len, GL.GTg.slots, GL.GTgs.slots, GL.GXs.len, GL.wipeE, List.getElem?_cons_zero, List.getElem?_cons_succ, List.set_cons_zero, List.set_cons_succ, Option.some.injEq, exists_eq_left', exists_eq_left, List.map_cons, List.map_nil, List.length_cons, List.length_nil, List.replicate_succ, List.replicate_zero, List.cons_append, List.nil_append, List.zip_cons_cons, List.zip_nil_right, List.foldl_cons, List.foldl_nil, Nat.reduceAdd, Nat.reduceSub, true_and, and_true, ↓reduceIte, Bool.false_eq_true, GL.wFld, GL.wMtd, GL.wMake, GL.wSetFld, GL.wLrg, GL.wTrg, GL.q_dictP, GL.wInd, $[$xs:ident],*] $[$loc]?)
namespace K01
open PySem GL
def isCon : D → Bool
  | .tup [.str w] => w == "all" || w == "none"
  | .tup [.str w, y] => w == "word" && isWord y
  | .tup [.str w, y, z] => (w == "and" && (isCon y && isCon z)) || (w == "some" && (isWord y && isCon z))
  | _ => false
def GD (S : Store) (n : Nat) (d : D) : Prop := ∃ F L c, L ≤ 1000000 ∧ c ≤ 1000000 ∧ Gv F S L n c d
theorem GD.kg {S : Store} {n : Nat} {d : D} (g : GD S n d) : KG S d := by obtain ⟨F, L, c, hL, hc, g⟩ := g; exact ⟨F, L, n, c, hL, hc, g⟩
theorem GD.item {S : Store} {n : Nat} {ds : List D} {d : D} (g : GD S n (.tup ds)) (h : d ∈ ds) : ∃ m, n = m + 1 ∧ GD S m d := by
  obtain ⟨F, L, c, hL, hc, g⟩ := g
  cases g with
  | tup q r => exact ⟨_, rfl, F, L, _, hL, by omega, q.get h⟩
theorem GD.sub {S S' : Store} {n : Nat} {d : D} (g : GD S n d) (s : Sub S S') : GD S' n d := by
  obtain ⟨F, L, c, hL, hc, g⟩ := g
  exact ⟨F, L, c, hL, hc, g.up (Nat.le_refl _) (fun _ z => z) (fun x c _ e => s x c e) (Nat.le_refl _) (Nat.le_refl _)⟩
def cCon (n : Nat) : GC0 := fun args S Q => ∃ d m, args = [d] ∧ GD S m d ∧ m + 3 ≤ n ∧ ∀ S', Sub S S' → Q (.bl (isCon d)) S'
def itm (d : D) (i : Nat) : D := match d with
  | .tup ds => ds.getD i .non
  | _ => .non
theorem kind_shape {d : D} {w : Str} {m : Nat} (h : isKind d w (m + 1 : Nat) = true) : ∃ r, d = .tup (.str w :: r) ∧ r.length = m := by
  unfold isKind at h
  rw [Bool.and_eq_true] at h
  cases d with
  | tup ds =>
    cases ds with
    | nil => cases h.2
    | cons x r =>
      have h1 : decide (((x :: r).length : Int) = (m + 1 : Nat)) = true := h.1
      have h2 := of_decide_eq_true h1
      cases x with
      | str y =>
        have h3 : (y == w) = true := h.2
        rw [beq_iff_eq] at h3
        subst h3
        exact ⟨r, rfl, by rw [List.length_cons] at h2; omega⟩
      | _ => cases h.2
  | _ => cases h.2
theorem shape2 {d : D} {w : Str} (h : isKind d w 2 = true) : ∃ y, d = .tup [.str w, y] := by
  obtain ⟨r, e, hr⟩ := kind_shape (m := 1) h
  match r, hr with
  | [y], _ => exact ⟨y, e⟩
theorem shape3 {d : D} {w : Str} (h : isKind d w 3 = true) : ∃ y z, d = .tup [.str w, y, z] := by
  obtain ⟨r, e, hr⟩ := kind_shape (m := 2) h
  match r, hr with
  | [y, z], _ => exact ⟨y, z, e⟩
theorem shape1 {d : D} {w : Str} (h : isKind d w 1 = true) : d = .tup [.str w] := by
  obtain ⟨r, e, hr⟩ := kind_shape (m := 0) h
  match r, hr with
  | [], _ => exact e
theorem kind_1 {w v : Str} : isKind (.tup [.str w]) v 1 = (w == v) := by simp [isKind, isRow, hdIs]
theorem kind_2 {w v : Str} {y : D} : isKind (.tup [.str w, y]) v 2 = (w == v) := by simp [isKind, isRow, hdIs]
theorem kind_3 {w v : Str} {y z : D} : isKind (.tup [.str w, y, z]) v 3 = (w == v) := by simp [isKind, isRow, hdIs]
theorem con_no {d : D} (h1 : isKind d "all" 1 = false) (h2 : isKind d "none" 1 = false) (h3 : isKind d "word" 2 = false) (h4 : isKind d "and" 3 = false) (h5 : isKind d "some" 3 = false) : isCon d = false := by
  unfold isCon
  split
  · rw [kind_1] at h1 h2; rw [h1, h2]; rfl
  · rw [kind_2] at h3; rw [h3]; rfl
  · rw [kind_3] at h4 h5; rw [h4, h5]; rfl
  · rfl
theorem con_1 {w : Str} : isCon (.tup [.str w]) = (w == "all" || w == "none") := by rw [isCon]
theorem con_2 {w : Str} {y : D} : isCon (.tup [.str w, y]) = (w == "word" && isWord y) := by rw [isCon]
theorem con_3 {w : Str} {y z : D} : isCon (.tup [.str w, y, z]) = ((w == "and" && (isCon y && isCon z)) || (w == "some" && (isWord y && isCon z))) := by rw [isCon]
theorem x_is_concept_value (T : Tb) (n : Nat) (hk : Has T "is_kind" cKind) (hw : Has T "is_word_value" (cPure1 isWord)) (hc : Has T "is_concept_value" (cCon n)) (v1 : HasV T "WORD" (.str "word")) (v2 : HasV T "AND" (.str "and")) (v3 : HasV T "SOME" (.str "some"))
    (args : List D) (S : Store) (Q : GQ) (h : cCon (n + 1) args S Q) : wB_ T noW b_is_concept_value (fnEnd Q) (initE N_is_concept_value args) S := by
  obtain ⟨d, m, rfl, g, hn, h⟩ := h
  unfold HasV at v1 v2 v3
  obtain ⟨Fk, ek, uk⟩ := hk
  obtain ⟨Fw, ew, uw⟩ := hw
  obtain ⟨Fc, ec, uc⟩ := hc
  have fin : ∀ b, isCon d = b → ∀ S', Sub S S' → ∃ S0, (∀ (a : Addr) (c : Cell), S0 a = some c → S' a = some c) ∧ Q (.bl b) S0 := fun b e S' s => ⟨S', fun _ _ z => z, by rw [← e]; exact h S' s⟩
  simp only [b_is_concept_value, initE, N_is_concept_value]
  delta fnEnd ek ew ec v1 v2 v3
  refine use2 uk rfl ⟨d, "all", 1, rfl, by decide, g.kg, ?_⟩
  cases k1 : isKind d "all" 1 with
  | true =>
    walk_at "gl"
    exact fin true (by rw [shape1 k1, con_1]; rfl) S (Sub.refl S)
  | false =>
  delta ek
  refine use2 uk rfl ⟨d, "none", 1, rfl, by decide, g.kg, ?_⟩
  cases k2 : isKind d "none" 1 with
  | true =>
    walk_at "gl"
    exact fin true (by rw [shape1 k2, con_1]; rfl) S (Sub.refl S)
  | false =>
  delta v1 ek
  refine use2 uk rfl ⟨d, "word", 2, rfl, by decide, g.kg, ?_⟩
  cases k3 : isKind d "word" 2 with
  | true =>
    obtain ⟨y, rfl⟩ := shape2 k3
    obtain ⟨m', hm', gy⟩ := g.item (d := y) (by simp)
    delta ew
    exact use2 uw rfl ⟨y, rfl, gy.kg, fun S' s => fin _ (by rw [con_2]; rfl) S' s⟩
  | false =>
  delta v2 ek
  refine use2 uk rfl ⟨d, "and", 3, rfl, by decide, g.kg, ?_⟩
  cases k4 : isKind d "and" 3 with
  | true =>
    obtain ⟨y, z, rfl⟩ := shape3 k4
    obtain ⟨m1, hm1, gy⟩ := g.item (d := y) (by simp)
    obtain ⟨m2, hm2, gz⟩ := g.item (d := z) (by simp)
    delta ec
    refine use2 uc rfl ⟨y, m1, rfl, gy, by omega, fun S1 s1 => ?_⟩
    have e3 : isCon (.tup [.str "and", y, z]) = (isCon y && isCon z) := by rw [con_3, show (("and" : Str) == "and") = true from by decide +kernel, show (("and" : Str) == "some") = false from by decide +kernel]; simp
    cases hy : isCon y with
    | false =>
      walk_at "gl"
      exact fin _ (by rw [e3, hy]; rfl) S1 s1
    | true =>
      delta ec
      exact use2 uc rfl ⟨z, m2, rfl, gz.sub s1, by omega, fun S2 s2 => fin _ (by rw [e3, hy, Bool.true_and]) S2 (s1.trans s2)⟩
  | false =>
  delta v3 ek
  refine use2 uk rfl ⟨d, "some", 3, rfl, by decide, g.kg, ?_⟩
  cases k5 : isKind d "some" 3 with
  | true =>
    obtain ⟨y, z, rfl⟩ := shape3 k5
    obtain ⟨m1, hm1, gy⟩ := g.item (d := y) (by simp)
    obtain ⟨m2, hm2, gz⟩ := g.item (d := z) (by simp)
    delta ew
    refine use2 uw rfl ⟨y, rfl, gy.kg, fun S1 s1 => ?_⟩
    have e3 : isCon (.tup [.str "some", y, z]) = (isWord y && isCon z) := by rw [con_3, show (("some" : Str) == "and") = false from by decide +kernel, show (("some" : Str) == "some") = true from by decide +kernel]; simp
    cases hy : isWord y with
    | false =>
      walk_at "gl"
      exact fin _ (by rw [e3, hy]; rfl) S1 s1
    | true =>
      delta ec
      exact use2 uc rfl ⟨z, m2, rfl, gz.sub s1, by omega, fun S2 s2 => fin _ (by rw [e3, hy, Bool.true_and]) S2 (s1.trans s2)⟩
  | false =>
    walk_at "gl"
    exact fin _ (con_no k1 k2 k3 k4 k5) S (Sub.refl S)
end K01
end

-- K01d
section
local macro_rules | `(tactic| walk_at "gl") => `(tactic| simp only [GL.wB_, GL.wS, GL.wSeq, GL.wRet, GL.w, GL.both, GL.wAndE, GL.wOrE, GL.wSlot, GL.wAs, GL.wCons, GL.wNil, GL.wVal, GL.wB, GL.wCmp, GL.wCmp2, GL.wBin, GL.wUn, GL.wNot, GL.wAnd, GL.wOr, GL.wIfE, GL.wIf, GL.wTup, GL.wLst, GL.wSlc, GL.wNoP, GL.wPart, GL.wO, GL.wC, GL.wI, GL.wG, GL.wGs, GL.wIt, GL.wRange1, GL.wRange2, GL.wEnum, GL.wZip, GL.wgName, GL.wgTup, GL.wgCons, GL.wgNil, GL.wAsg, GL.wDrop, GL.wSkip, GL.wPar, GL.wSetIx, GL.wTru, GL.wFor, GL.wLc, GL.wMth, GL.wCall, GL.wCallK, GL.wPs, GL.wPairs, GL.q_len, GL.q_isi, GL.q_int, GL.q_list, GL.q_tupt, GL.q_tupr, GL.q_all, GL.q_any, GL.q_max2, GL.q_min2, GL.q_sorted, GL.q_stri, GL.q_strs, GL.q_strb, GL.q_repr, GL.q_dict, GL.q_sum, GL.q_addi, GL.q_adds, GL.q_addt, GL.q_addl, GL.q_addb, GL.q_subi, GL.q_subb, GL.q_muls, GL.q_muli, GL.q_divi, GL.q_modi, GL.q_powi, GL.q_negi, GL.q_negb, GL.q_eq, GL.q_ne, GL.q_lti, GL.q_lei, GL.q_gti, GL.q_gei, GL.q_lts, GL.q_ins, GL.q_nins, GL.q_int_, GL.q_inl, GL.q_nint, GL.q_ninl, GL.q_trb, GL.q_tri, GL.q_ixt, GL.q_ixs, GL.q_slt, GL.q_sls, GL.q_revt, GL.ix_lst, GL.q_dct0, GL.ik_non_tup, GL.ik_non_int, GL.ik_non_str, GL.ik_non_lst, GL.ik_non_bl, GL.ik_non_dct, GL.ik_bl_tup, GL.ik_bl_int, GL.ik_bl_str, GL.ik_bl_lst, GL.ik_bl_bl, GL.ik_bl_dct, GL.ik_int_tup, GL.ik_int_int, GL.ik_int_str, GL.ik_int_lst, GL.ik_int_bl, GL.ik_int_dct, GL.ik_str_tup, GL.ik_str_int, GL.ik_str_str, GL.ik_str_lst, GL.ik_str_bl, GL.ik_str_dct, GL.ik_tup_tup, GL.ik_tup_int, GL.ik_tup_str, GL.ik_tup_lst, GL.ik_tup_bl, GL.ik_tup_dct, GL.ik_lst_tup, GL.ik_lst_int, GL.ik_lst_str, GL.ik_lst_lst, GL.ik_lst_bl, GL.ik_lst_dct, GL.ik_dct_tup, GL.ik_dct_int, GL.ik_dct_str, GL.ik_dct_lst, GL.ik_dct_bl, GL.ik_dct_dct, GL.q_st, GL.q_sf, GL.q_lt, List.cons.injEq, GL.at0, GL.at1, GL.at2, GL.q_itt, GL.q_its, GL.q_itr, GL.q_zt, GL.q_zr, GL.srcT, GL.srcL, GL.q_m1, GL.q_m2, GL.q_m3, GL.q_m4, GL.q_m5, GL.q_m6, GL.q_k1, GL.q_k2, GL.q_k3, GL.q_k4, GL.q_k5, exists_and_left, GL.q_ixr, GL.q_ixi, GL.q_setr, GL.q_slr, GL.q_revr, GL.q_kr, GL.q_lr, GL.q_sr, GL.q_vr, GL.put_same, GL.put_put, GL.keyD, GL.wNew, GL.Cell.dct.injEq, GL.Cell.lst.injEq, GL.D.int.injEq, GL.D.str.injEq, GL.D.ref.injEq, GL.D.tup.injEq, reduceCtorEq, false_and, and_false, or_false, false_or, exists_false, exists_const, and_assoc, GL.q_app, GL.q_ext, GL.q_pop, GL.q_get2, GL.q_join, GL.q_upper, GL.GTgs.len, GL.GTg.slots, GL.GTgs.slots, GL.GXs.len, GL.wipeE, List.getElem?_cons_zero, List.getElem?_cons_succ, List.set_cons_zero, List.set_cons_succ, Option.some.injEq, exists_eq_left', exists_eq_left, List.map_cons, List.map_nil, List.length_cons, List.length_nil, List.replicate_succ, List.replicate_zero, List.cons_append, List.nil_append, List.zip_cons_cons, List.zip_nil_right, List.foldl_cons, List.foldl_nil, Nat.reduceAdd, Nat.reduceSub, true_and, and_true, ↓reduceIte, Bool.false_eq_true, GL.wFld, GL.wMtd, GL.wMake, GL.wSetFld, GL.wLrg, GL.wTrg, GL.q_dictP, GL.wInd])
local macro_rules | `(tactic| delta $xs* $[$loc]?) => `(tactic| simp only [GL.wB_, GL.wS, GL.wSeq, GL.wRet, GL.w, GL.both, GL.wAndE, GL.wOrE, GL.wSlot, GL.wAs, GL.wCons, GL.wNil, GL.wVal, GL.wB, GL.wCmp, GL.wCmp2, GL.wBin, GL.wUn, GL.wNot, GL.wAnd, GL.wOr, GL.wIfE, GL.wIf, GL.wTup, GL.wLst, GL.wSlc, GL.wNoP, GL.wPart, GL.wO, GL.wC, GL.wI, GL.wG, GL.wGs, GL.wIt, GL.wRange1, GL.wRange2, GL.wEnum, GL.wZip, GL.wgName, GL.wgTup, GL.wgCons, GL.wgNil, GL.wAsg, GL.wDrop, GL.wSkip, GL.wPar, GL.wSetIx, GL.wTru, GL.wFor, GL.wLc, GL.wMth, GL.wCall, GL.wCallK, GL.wPs, GL.wPairs, GL.q_len, GL.q_isi, GL.q_int, GL.q_list, GL.q_tupt, GL.q_tupr, GL.q_all, GL.q_any, GL.q_max2, GL.q_min2, GL.q_sorted, GL.q_stri, GL.q_strs, GL.q_strb, GL.q_repr, GL.q_dict, GL.q_sum, GL.q_addi, GL.q_adds, GL.q_addt, GL.q_addl, GL.q_addb, GL.q_subi, GL.q_subb, GL.q_muls, GL.q_muli, GL.q_divi, GL.q_modi, GL.q_powi, GL.q_negi, GL.q_negb, GL.q_eq, GL.q_ne, GL.q_lti, GL.q_lei, GL.q_gti, GL.q_gei, GL.q_lts, GL.q_ins, GL.q_nins, GL.q_int_, GL.q_inl, GL.q_nint, GL.q_ninl, GL.q_trb, GL.q_tri, GL.q_ixt, GL.q_ixs, GL.q_slt, GL.q_sls, GL.q_revt, GL.ix_lst, GL.q_dct0, GL.ik_non_tup, GL.ik_non_int, GL.ik_non_str, GL.ik_non_lst, GL.ik_non_bl, GL.ik_non_dct, GL.ik_bl_tup, GL.ik_bl_int, GL.ik_bl_str, GL.ik_bl_lst, GL.ik_bl_bl, GL.ik_bl_dct, GL.ik_int_tup, GL.ik_int_int, GL.ik_int_str, GL.ik_int_lst, GL.ik_int_bl, GL.ik_int_dct, GL.ik_str_tup, GL.ik_str_int, GL.ik_str_str, GL.ik_str_lst, GL.ik_str_bl, GL.ik_str_dct, GL.ik_tup_tup, GL.ik_tup_int, GL.ik_tup_str, GL.ik_tup_lst, GL.ik_tup_bl, GL.ik_tup_dct, GL.ik_lst_tup, GL.ik_lst_int, GL.ik_lst_str, GL.ik_lst_lst, GL.ik_lst_bl, GL.ik_lst_dct, GL.ik_dct_tup, GL.ik_dct_int, GL.ik_dct_str, GL.ik_dct_lst, GL.ik_dct_bl, GL.ik_dct_dct, GL.q_st, GL.q_sf, GL.q_lt, List.cons.injEq, GL.at0, GL.at1, GL.at2, GL.q_itt, GL.q_its, GL.q_itr, GL.q_zt, GL.q_zr, GL.srcT, GL.srcL, GL.q_m1, GL.q_m2, GL.q_m3, GL.q_m4, GL.q_m5, GL.q_m6, GL.q_k1, GL.q_k2, GL.q_k3, GL.q_k4, GL.q_k5, exists_and_left, GL.q_ixr, GL.q_ixi, GL.q_setr, GL.q_slr, GL.q_revr, GL.q_kr, GL.q_lr, GL.q_sr, GL.q_vr, GL.put_same, GL.put_put, GL.keyD, GL.wNew, GL.Cell.dct.injEq, GL.Cell.lst.injEq, GL.D.int.injEq, GL.D.str.injEq, GL.D.ref.injEq, GL.D.tup.injEq, reduceCtorEq, false_and, and_false, or_false, false_or, exists_false, exists_const, and_assoc, GL.q_app, GL.q_ext, GL.q_pop, GL.q_get2, GL.q_join, GL.q_upper, GL.GTgs.len, GL.GTg.slots, GL.GTgs.slots, GL.GXs.len, GL.wipeE, List.getElem?_cons_zero, List.getElem?_cons_succ, List.set_cons_zero, List.set_cons_succ, Option.some.injEq, exists_eq_left', exists_eq_left, List.map_cons, List.map_nil, List.length_cons, List.length_nil, List.replicate_succ, List.replicate_zero, List.cons_append, List.nil_append, List.zip_cons_cons, List.zip_nil_right, List.foldl_cons, List.foldl_nil, Nat.reduceAdd, Nat.reduceSub, true_and, and_true, ↓reduceIte, Bool.false_eq_true, GL.wFld, GL.wMtd, GL.wMake, GL.wSetFld, GL.wLrg, GL.wTrg, GL.q_dictP, GL.wInd, $[$xs:ident],*] $[$loc]?)
namespace K01
open PySem GL
def isSent (d : D) : Bool := isRow d 2 && (isCon (itm d 0) && isCon (itm d 1))
/-- a test of one value that goes down: the depth is known -/
def cDeep (k : Nat) (f : D → Bool) (n : Nat) : GC0 := fun args S Q => ∃ d m, args = [d] ∧ GD S m d ∧ m + k ≤ n ∧ ∀ S', Sub S S' → Q (.bl (f d)) S'
theorem row2 {d : D} (h : isRow d 2 = true) : ∃ y z, d = .tup [y, z] := by
  cases d with
  | tup ds =>
    have h1 : decide ((ds.length : Int) = 2) = true := h
    have h2 := of_decide_eq_true h1
    have h3 : ds.length = 2 := by omega
    match ds, h3 with
    | [y, z], _ => exact ⟨y, z, rfl⟩
  | _ => cases h
theorem fin_ {S : Store} {Q : GQ} {f : D → Bool} {d : D} (h : ∀ S', Sub S S' → Q (.bl (f d)) S') : ∀ b, f d = b → ∀ S', Sub S S' → ∃ S0, (∀ (a : Addr) (c : Cell), S0 a = some c → S' a = some c) ∧ Q (.bl b) S0 := fun b e S' s => ⟨S', fun _ _ z => z, by rw [← e]; exact h S' s⟩
def isBook (d : D) : Bool := match d with
  | .tup ds => ds.all isSent
  | _ => false
theorem map_bl (f : D → Bool) (ds : List D) : ds.map (fun d => D.bl (f d)) = (ds.map f).map D.bl := by rw [List.map_map]; rfl
theorem all_id (f : D → Bool) (ds : List D) : (ds.map f).all id = ds.all f := by rw [List.all_map]; rfl
def risingS (xs : List Str) : Bool := (xs.zip (xs.drop 1)).all fun p => decide (p.1.cps.toList < p.2.cps.toList)
def cRising : GC0 := fun args S Q => ∃ xs : List Str, args = [.tup (xs.map D.str)] ∧ xs.length ≤ 1000000 ∧ ∀ S', Sub S S' → Q (.bl (risingS xs)) S'
theorem x_are_rising (T : Tb) (args : List D) (S : Store) (Q : GQ) (h : cRising args S Q) : wB_ T noW b_are_rising (fnEnd Q) (initE N_are_rising args) S := by
  obtain ⟨xs, rfl, hl, h⟩ := h
  simp only [b_are_rising, initE, N_are_rising]
  delta fnEnd cut1
  intro a ha
  have e1 : zipD (xs.map D.str) ((xs.map D.str).drop 1) = (xs.zip (xs.drop 1)).map fun p => .wtup [.str p.1, .str p.2] := by
    unfold zipD
    rw [← List.map_drop, List.zip_map, List.map_map]
    rfl
  rw [e1]
  refine lc_map ha (fun _ _ => trivial) (fun d => match d with | .wtup [.str x, .str y] => .bl (decide (x.cps.toList < y.cps.toList)) | _ => .non) _ (le_size (by rw [List.length_map, List.length_zip]; omega)) (fun d hd S1 K1 K2 s1 k1 => ?_) fun S' s' h3 => ?_
  · obtain ⟨p, hp, rfl⟩ := List.mem_map.mp hd
    walk_at "gl"
    exact k1 S1 (Sub.refl S1)
  · refine ⟨(xs.zip (xs.drop 1)).map fun p => decide (p.1.cps.toList < p.2.cps.toList), by rw [h3, List.map_map, List.map_map]; rfl, S', fun _ _ z => z, ?_⟩
    rw [List.all_map]
    exact h S' s'
theorem all_strs {ds : List D} (h : ds.all isWord = true) : ∃ xs : List Str, ds = xs.map D.str := by
  induction ds with
  | nil => exact ⟨[], rfl⟩
  | cons d ds ih =>
    (rw [List.all_cons, Bool.and_eq_true] at h)
    obtain ⟨xs, rfl⟩ := ih h.2
    cases d with
    | str x => exact ⟨x :: xs, rfl⟩
    | _ => cases h.1
def strsOf : List D → List Str
  | [] => []
  | .str x :: ds => x :: strsOf ds
  | _ :: ds => strsOf ds
theorem strsOf_map : ∀ xs : List Str, strsOf (xs.map D.str) = xs
  | [] => rfl
  | x :: xs => by rw [List.map_cons, strsOf, strsOf_map xs]
def isWords (d : D) : Bool := match d with
  | .tup ds => ds.all isWord && risingS (strsOf ds)
  | _ => false
def isVoc (d : D) : Bool := isRow d 2 && (isWords (itm d 0) && isWords (itm d 1))
end K01
end

-- V5b
section
local macro_rules | `(tactic| walk_at "gl") => `(tactic| simp only [GL.wB_, GL.wS, GL.wSeq, GL.wRet, GL.w, GL.both, GL.wAndE, GL.wOrE, GL.wSlot, GL.wAs, GL.wCons, GL.wNil, GL.wVal, GL.wB, GL.wCmp, GL.wCmp2, GL.wBin, GL.wUn, GL.wNot, GL.wAnd, GL.wOr, GL.wIfE, GL.wIf, GL.wTup, GL.wLst, GL.wSlc, GL.wNoP, GL.wPart, GL.wO, GL.wC, GL.wI, GL.wG, GL.wGs, GL.wIt, GL.wRange1, GL.wRange2, GL.wEnum, GL.wZip, GL.wgName, GL.wgTup, GL.wgCons, GL.wgNil, GL.wAsg, GL.wDrop, GL.wSkip, GL.wPar, GL.wSetIx, GL.wTru, GL.wFor, GL.wLc, GL.wMth, GL.wCall, GL.wCallK, GL.wPs, GL.wPairs, GL.q_len, GL.q_isi, GL.q_int, GL.q_list, GL.q_tupt, GL.q_tupr, GL.q_all, GL.q_any, GL.q_max2, GL.q_min2, GL.q_sorted, GL.q_stri, GL.q_strs, GL.q_strb, GL.q_repr, GL.q_dict, GL.q_sum, GL.q_addi, GL.q_adds, GL.q_addt, GL.q_addl, GL.q_addb, GL.q_subi, GL.q_subb, GL.q_muls, GL.q_muli, GL.q_divi, GL.q_modi, GL.q_powi, GL.q_negi, GL.q_negb, GL.q_eq, GL.q_ne, GL.q_lti, GL.q_lei, GL.q_gti, GL.q_gei, GL.q_lts, GL.q_ins, GL.q_nins, GL.q_int_, GL.q_inl, GL.q_nint, GL.q_ninl, GL.q_trb, GL.q_tri, GL.q_ixt, GL.q_ixs, GL.q_slt, GL.q_sls, GL.q_revt, GL.ix_lst, GL.q_dct0, GL.ik_non_tup, GL.ik_non_int, GL.ik_non_str, GL.ik_non_lst, GL.ik_non_bl, GL.ik_non_dct, GL.ik_bl_tup, GL.ik_bl_int, GL.ik_bl_str, GL.ik_bl_lst, GL.ik_bl_bl, GL.ik_bl_dct, GL.ik_int_tup, GL.ik_int_int, GL.ik_int_str, GL.ik_int_lst, GL.ik_int_bl, GL.ik_int_dct, GL.ik_str_tup, GL.ik_str_int, GL.ik_str_str, GL.ik_str_lst, GL.ik_str_bl, GL.ik_str_dct, GL.ik_tup_tup, GL.ik_tup_int, GL.ik_tup_str, GL.ik_tup_lst, GL.ik_tup_bl, GL.ik_tup_dct, GL.ik_lst_tup, GL.ik_lst_int, GL.ik_lst_str, GL.ik_lst_lst, GL.ik_lst_bl, GL.ik_lst_dct, GL.ik_dct_tup, GL.ik_dct_int, GL.ik_dct_str, GL.ik_dct_lst, GL.ik_dct_bl, GL.ik_dct_dct, GL.q_st, GL.q_sf, GL.q_lt, List.cons.injEq, GL.at0, GL.at1, GL.at2, GL.q_itt, GL.q_its, GL.q_itr, GL.q_zt, GL.q_zr, GL.srcT, GL.srcL, GL.q_m1, GL.q_m2, GL.q_m3, GL.q_m4, GL.q_m5, GL.q_m6, GL.q_k1, GL.q_k2, GL.q_k3, GL.q_k4, GL.q_k5, exists_and_left, GL.q_ixr, GL.q_ixi, GL.q_setr, GL.q_slr, GL.q_revr, GL.q_kr, GL.q_lr, GL.q_sr, GL.q_vr, GL.put_same, GL.put_put, GL.keyD, GL.wNew, GL.Cell.dct.injEq, GL.Cell.lst.injEq, GL.D.int.injEq, GL.D.str.injEq, GL.D.ref.injEq, GL.D.tup.injEq, reduceCtorEq, false_and, and_false, or_false, false_or, exists_false, exists_const, and_assoc, GL.q_app, GL.q_ext, GL.q_pop, GL.q_get2, GL.q_join, GL.q_upper, GL.GTgs.len, GL.GTg.slots, GL.GTgs.slots, GL.GXs.len, GL.wipeE, List.getElem?_cons_zero, List.getElem?_cons_succ, List.set_cons_zero, List.set_cons_succ, Option.some.injEq, exists_eq_left', exists_eq_left, List.map_cons, List.map_nil, List.length_cons, List.length_nil, List.replicate_succ, List.replicate_zero, List.cons_append, List.nil_append, List.zip_cons_cons, List.zip_nil_right, List.foldl_cons, List.foldl_nil, Nat.reduceAdd, Nat.reduceSub, true_and, and_true, ↓reduceIte, Bool.false_eq_true, GL.wFld, GL.wMtd, GL.wMake, GL.wSetFld, GL.wLrg, GL.wTrg, GL.q_dictP, GL.wInd])
local macro_rules | `(tactic| delta $xs* $[$loc]?) => `(tactic| simp only [GL.wB_, GL.wS, GL.wSeq, GL.wRet, GL.w, GL.both, GL.wAndE, GL.wOrE, GL.wSlot, GL.wAs, GL.wCons, GL.wNil, GL.wVal, GL.wB, GL.wCmp, GL.wCmp2, GL.wBin, GL.wUn, GL.wNot, GL.wAnd, GL.wOr, GL.wIfE, GL.wIf, GL.wTup, GL.wLst, GL.wSlc, GL.wNoP, GL.wPart, GL.wO, GL.wC, GL.wI, GL.wG, GL.wGs, GL.wIt, GL.wRange1, GL.wRange2, GL.wEnum, GL.wZip, GL.wgName, GL.wgTup, GL.wgCons, GL.wgNil, GL.wAsg, GL.wDrop, GL.wSkip, GL.wPar, GL.wSetIx, GL.wTru, GL.wFor, GL.wLc, GL.wMth, GL.wCall, GL.wCallK, GL.wPs, GL.wPairs, GL.q_len, GL.q_isi, GL.q_int, GL.q_list, GL.q_tupt, GL.q_tupr, GL.q_all, GL.q_any, GL.q_max2, GL.q_min2, GL.q_sorted, GL.q_stri, GL.q_strs, GL.q_strb, GL.q_repr, GL.q_dict, GL.q_sum, GL.q_addi, GL.q_adds, GL.q_addt, GL.q_addl, GL.q_addb, GL.q_subi, GL.q_subb, GL.q_muls, GL.q_muli, GL.q_divi, GL.q_modi, GL.q_powi, GL.q_negi, GL.q_negb, GL.q_eq, GL.q_ne, GL.q_lti, GL.q_lei, GL.q_gti, GL.q_gei, GL.q_lts, GL.q_ins, GL.q_nins, GL.q_int_, GL.q_inl, GL.q_nint, GL.q_ninl, GL.q_trb, GL.q_tri, GL.q_ixt, GL.q_ixs, GL.q_slt, GL.q_sls, GL.q_revt, GL.ix_lst, GL.q_dct0, GL.ik_non_tup, GL.ik_non_int, GL.ik_non_str, GL.ik_non_lst, GL.ik_non_bl, GL.ik_non_dct, GL.ik_bl_tup, GL.ik_bl_int, GL.ik_bl_str, GL.ik_bl_lst, GL.ik_bl_bl, GL.ik_bl_dct, GL.ik_int_tup, GL.ik_int_int, GL.ik_int_str, GL.ik_int_lst, GL.ik_int_bl, GL.ik_int_dct, GL.ik_str_tup, GL.ik_str_int, GL.ik_str_str, GL.ik_str_lst, GL.ik_str_bl, GL.ik_str_dct, GL.ik_tup_tup, GL.ik_tup_int, GL.ik_tup_str, GL.ik_tup_lst, GL.ik_tup_bl, GL.ik_tup_dct, GL.ik_lst_tup, GL.ik_lst_int, GL.ik_lst_str, GL.ik_lst_lst, GL.ik_lst_bl, GL.ik_lst_dct, GL.ik_dct_tup, GL.ik_dct_int, GL.ik_dct_str, GL.ik_dct_lst, GL.ik_dct_bl, GL.ik_dct_dct, GL.q_st, GL.q_sf, GL.q_lt, List.cons.injEq, GL.at0, GL.at1, GL.at2, GL.q_itt, GL.q_its, GL.q_itr, GL.q_zt, GL.q_zr, GL.srcT, GL.srcL, GL.q_m1, GL.q_m2, GL.q_m3, GL.q_m4, GL.q_m5, GL.q_m6, GL.q_k1, GL.q_k2, GL.q_k3, GL.q_k4, GL.q_k5, exists_and_left, GL.q_ixr, GL.q_ixi, GL.q_setr, GL.q_slr, GL.q_revr, GL.q_kr, GL.q_lr, GL.q_sr, GL.q_vr, GL.put_same, GL.put_put, GL.keyD, GL.wNew, GL.Cell.dct.injEq, GL.Cell.lst.injEq, GL.D.int.injEq, GL.D.str.injEq, GL.D.ref.injEq, GL.D.tup.injEq, reduceCtorEq, false_and, and_false, or_false, false_or, exists_false, exists_const, and_assoc, GL.q_app, GL.q_ext, GL.q_pop, GL.q_get2, GL.q_join, GL.q_upper, GL.GTgs.len, GL.GTg.slots, GL.GTgs.slots, GL.GXs.len, GL.wipeE, List.getElem?_cons_zero, List.getElem?_cons_succ, List.set_cons_zero, List.set_cons_succ, Option.some.injEq, exists_eq_left', exists_eq_left, List.map_cons, List.map_nil, List.length_cons, List.length_nil, List.replicate_succ, List.replicate_zero, List.cons_append, List.nil_append, List.zip_cons_cons, List.zip_nil_right, List.foldl_cons, List.foldl_nil, Nat.reduceAdd, Nat.reduceSub, true_and, and_true, ↓reduceIte, Bool.false_eq_true, GL.wFld, GL.wMtd, GL.wMake, GL.wSetFld, GL.wLrg, GL.wTrg, GL.q_dictP, GL.wInd, $[$xs:ident],*] $[$loc]?)
namespace K01
open PySem GL
def isInt : D → Bool
  | .int _ => true
  | _ => false
theorem x_is_integer (T : Tb) (args : List D) (S : Store) (Q : GQ) (h : cPure1 isInt args S Q) : wB_ T noW b_is_integer (fnEnd Q) (initE N_is_integer args) S := by
  obtain ⟨d, rfl, g, h⟩ := h
  have fin := fin_ h
  obtain ⟨k, hk⟩ := g.kind
  simp only [b_is_integer, initE, N_is_integer]
  cases d with
  | int i =>
    delta fnEnd ko_int ko_bl
    exact fin _ rfl S (Sub.refl S)
  | bl i =>
    delta fnEnd ko_int ko_bl
    exact fin _ rfl S (Sub.refl S)
  | non =>
    delta fnEnd ko_int ko_bl
    exact fin _ rfl S (Sub.refl S)
  | str x =>
    delta fnEnd ko_int ko_bl
    exact fin _ rfl S (Sub.refl S)
  | tup x =>
    delta fnEnd ko_int ko_bl
    exact fin _ rfl S (Sub.refl S)
  | ref r =>
    rw [q_kr] at hk
    have : ∃ k, (match S r with | some (.lst _) => some Kn.lst | some (.dct _) => some Kn.dct | _ => none) = some k := ⟨k, hk⟩
    cases e : S r with
    | none => rw [e] at hk; cases hk
    | some c =>
      cases c with
      | lst _ =>
        delta fnEnd ko_int ko_bl e
        exact fin _ rfl S (Sub.refl S)
      | dct _ =>
        delta fnEnd ko_int ko_bl e
        exact fin _ rfl S (Sub.refl S)
      | ins _ _ => rw [e] at hk; cases hk
  | frl _ => obtain ⟨F, L, h1, c, _, _, g⟩ := g; cases g
  | wtup _ => obtain ⟨F, L, h1, c, _, _, g⟩ := g; cases g
  | ty _ => obtain ⟨F, L, h1, c, _, _, g⟩ := g; cases g
  | glo _ => obtain ⟨F, L, h1, c, _, _, g⟩ := g; cases g
def isBtw (d : D) (lo hi : Int) : Bool := match d with
  | .int i => decide (lo ≤ i) && decide (i ≤ hi)
  | _ => false
def cBtw : GC0 := fun args S Q => ∃ d lo hi, args = [d, .int lo, .int hi] ∧ KG S d ∧ ∀ S', Sub S S' → Q (.bl (isBtw d lo hi)) S'
theorem x_is_between (T : Tb) (hi_ : Has T "is_integer" (cPure1 isInt)) (args : List D) (S : Store) (Q : GQ) (h : cBtw args S Q) : wB_ T noW b_is_between (fnEnd Q) (initE N_is_between args) S := by
  obtain ⟨d, lo, hi, rfl, g, h⟩ := h
  obtain ⟨F, e, u⟩ := hi_
  have fin : ∀ b, isBtw d lo hi = b → ∀ S', Sub S S' → ∃ S0, (∀ (a : Addr) (c : Cell), S0 a = some c → S' a = some c) ∧ Q (.bl b) S0 := fun b e S' s => ⟨S', fun _ _ z => z, by rw [← e]; exact h S' s⟩
  simp only [b_is_between, initE, N_is_between]
  delta fnEnd e
  refine use2 u rfl ⟨d, rfl, g, fun S1 s1 => ?_⟩
  cases d with
  | int i =>
    delta isInt
    by_cases h1 : lo ≤ i
    · simp only [GL.wB_, GL.wS, GL.wSeq, GL.wRet, GL.w, GL.both, GL.wAndE, GL.wOrE, GL.wSlot, GL.wAs, GL.wCons, GL.wNil, GL.wVal, GL.wB, GL.wCmp, GL.wCmp2, GL.wBin, GL.wUn, GL.wNot, GL.wAnd, GL.wOr, GL.wIfE, GL.wIf, GL.wTup, GL.wLst, GL.wSlc, GL.wNoP, GL.wPart, GL.wO, GL.wC, GL.wI, GL.wG, GL.wGs, GL.wIt, GL.wRange1, GL.wRange2, GL.wEnum, GL.wZip, GL.wgName, GL.wgTup, GL.wgCons, GL.wgNil, GL.wAsg, GL.wDrop, GL.wSkip, GL.wPar, GL.wSetIx, GL.wTru, GL.wFor, GL.wLc, GL.wMth, GL.wCall, GL.wCallK, GL.wPs, GL.wPairs, GL.q_len, GL.q_isi, GL.q_int, GL.q_list, GL.q_tupt, GL.q_tupr, GL.q_all, GL.q_any, GL.q_max2, GL.q_min2, GL.q_sorted, GL.q_stri, GL.q_strs, GL.q_strb, GL.q_repr, GL.q_dict, GL.q_sum, GL.q_addi, GL.q_adds, GL.q_addt, GL.q_addl, GL.q_addb, GL.q_subi, GL.q_subb, GL.q_muls, GL.q_muli, GL.q_divi, GL.q_modi, GL.q_powi, GL.q_negi, GL.q_negb, GL.q_eq, GL.q_ne, GL.q_lti, GL.q_lei, GL.q_gti, GL.q_gei, GL.q_lts, GL.q_ins, GL.q_nins, GL.q_int_, GL.q_inl, GL.q_nint, GL.q_ninl, GL.q_trb, GL.q_tri, GL.q_ixt, GL.q_ixs, GL.q_slt, GL.q_sls, GL.q_revt, GL.ix_lst, GL.q_dct0, GL.ik_non_tup, GL.ik_non_int, GL.ik_non_str, GL.ik_non_lst, GL.ik_non_bl, GL.ik_non_dct, GL.ik_bl_tup, GL.ik_bl_int, GL.ik_bl_str, GL.ik_bl_lst, GL.ik_bl_bl, GL.ik_bl_dct, GL.ik_int_tup, GL.ik_int_int, GL.ik_int_str, GL.ik_int_lst, GL.ik_int_bl, GL.ik_int_dct, GL.ik_str_tup, GL.ik_str_int, GL.ik_str_str, GL.ik_str_lst, GL.ik_str_bl, GL.ik_str_dct, GL.ik_tup_tup, GL.ik_tup_int, GL.ik_tup_str, GL.ik_tup_lst, GL.ik_tup_bl, GL.ik_tup_dct, GL.ik_lst_tup, GL.ik_lst_int, GL.ik_lst_str, GL.ik_lst_lst, GL.ik_lst_bl, GL.ik_lst_dct, GL.ik_dct_tup, GL.ik_dct_int, GL.ik_dct_str, GL.ik_dct_lst, GL.ik_dct_bl, GL.ik_dct_dct, GL.q_st, GL.q_sf, GL.q_lt, List.cons.injEq, GL.at0, GL.at1, GL.at2, GL.q_itt, GL.q_its, GL.q_itr, GL.q_zt, GL.q_zr, GL.srcT, GL.srcL, GL.q_m1, GL.q_m2, GL.q_m3, GL.q_m4, GL.q_m5, GL.q_m6, GL.q_k1, GL.q_k2, GL.q_k3, GL.q_k4, GL.q_k5, exists_and_left, GL.q_ixr, GL.q_ixi, GL.q_setr, GL.q_slr, GL.q_revr, GL.q_kr, GL.q_lr, GL.q_sr, GL.q_vr, GL.put_same, GL.put_put, GL.keyD, GL.wNew, GL.Cell.dct.injEq, GL.Cell.lst.injEq, GL.D.int.injEq, GL.D.str.injEq, GL.D.ref.injEq, GL.D.tup.injEq, reduceCtorEq, false_and, and_false, or_false, false_or, exists_false, exists_const, and_assoc, GL.q_app, GL.q_ext, GL.q_pop, GL.q_get2, GL.q_join, GL.q_upper, GL.GTgs.len, GL.GTg.slots, GL.GTgs.slots, GL.GXs.len, GL.wipeE, List.getElem?_cons_zero, List.getElem?_cons_succ, List.set_cons_zero, List.set_cons_succ, Option.some.injEq, exists_eq_left', exists_eq_left, List.map_cons, List.map_nil, List.length_cons, List.length_nil, List.replicate_succ, List.replicate_zero, List.cons_append, List.nil_append, List.zip_cons_cons, List.zip_nil_right, List.foldl_cons, List.foldl_nil, Nat.reduceAdd, Nat.reduceSub, true_and, and_true, ↓reduceIte, Bool.false_eq_true, GL.wFld, GL.wMtd, GL.wMake, GL.wSetFld, GL.wLrg, GL.wTrg, GL.q_dictP, GL.wInd, decide_eq_true h1]
      exact fin _ (by show (decide (lo ≤ i) && decide (i ≤ hi)) = _; rw [decide_eq_true h1, Bool.true_and]) S1 s1
    · simp only [GL.wB_, GL.wS, GL.wSeq, GL.wRet, GL.w, GL.both, GL.wAndE, GL.wOrE, GL.wSlot, GL.wAs, GL.wCons, GL.wNil, GL.wVal, GL.wB, GL.wCmp, GL.wCmp2, GL.wBin, GL.wUn, GL.wNot, GL.wAnd, GL.wOr, GL.wIfE, GL.wIf, GL.wTup, GL.wLst, GL.wSlc, GL.wNoP, GL.wPart, GL.wO, GL.wC, GL.wI, GL.wG, GL.wGs, GL.wIt, GL.wRange1, GL.wRange2, GL.wEnum, GL.wZip, GL.wgName, GL.wgTup, GL.wgCons, GL.wgNil, GL.wAsg, GL.wDrop, GL.wSkip, GL.wPar, GL.wSetIx, GL.wTru, GL.wFor, GL.wLc, GL.wMth, GL.wCall, GL.wCallK, GL.wPs, GL.wPairs, GL.q_len, GL.q_isi, GL.q_int, GL.q_list, GL.q_tupt, GL.q_tupr, GL.q_all, GL.q_any, GL.q_max2, GL.q_min2, GL.q_sorted, GL.q_stri, GL.q_strs, GL.q_strb, GL.q_repr, GL.q_dict, GL.q_sum, GL.q_addi, GL.q_adds, GL.q_addt, GL.q_addl, GL.q_addb, GL.q_subi, GL.q_subb, GL.q_muls, GL.q_muli, GL.q_divi, GL.q_modi, GL.q_powi, GL.q_negi, GL.q_negb, GL.q_eq, GL.q_ne, GL.q_lti, GL.q_lei, GL.q_gti, GL.q_gei, GL.q_lts, GL.q_ins, GL.q_nins, GL.q_int_, GL.q_inl, GL.q_nint, GL.q_ninl, GL.q_trb, GL.q_tri, GL.q_ixt, GL.q_ixs, GL.q_slt, GL.q_sls, GL.q_revt, GL.ix_lst, GL.q_dct0, GL.ik_non_tup, GL.ik_non_int, GL.ik_non_str, GL.ik_non_lst, GL.ik_non_bl, GL.ik_non_dct, GL.ik_bl_tup, GL.ik_bl_int, GL.ik_bl_str, GL.ik_bl_lst, GL.ik_bl_bl, GL.ik_bl_dct, GL.ik_int_tup, GL.ik_int_int, GL.ik_int_str, GL.ik_int_lst, GL.ik_int_bl, GL.ik_int_dct, GL.ik_str_tup, GL.ik_str_int, GL.ik_str_str, GL.ik_str_lst, GL.ik_str_bl, GL.ik_str_dct, GL.ik_tup_tup, GL.ik_tup_int, GL.ik_tup_str, GL.ik_tup_lst, GL.ik_tup_bl, GL.ik_tup_dct, GL.ik_lst_tup, GL.ik_lst_int, GL.ik_lst_str, GL.ik_lst_lst, GL.ik_lst_bl, GL.ik_lst_dct, GL.ik_dct_tup, GL.ik_dct_int, GL.ik_dct_str, GL.ik_dct_lst, GL.ik_dct_bl, GL.ik_dct_dct, GL.q_st, GL.q_sf, GL.q_lt, List.cons.injEq, GL.at0, GL.at1, GL.at2, GL.q_itt, GL.q_its, GL.q_itr, GL.q_zt, GL.q_zr, GL.srcT, GL.srcL, GL.q_m1, GL.q_m2, GL.q_m3, GL.q_m4, GL.q_m5, GL.q_m6, GL.q_k1, GL.q_k2, GL.q_k3, GL.q_k4, GL.q_k5, exists_and_left, GL.q_ixr, GL.q_ixi, GL.q_setr, GL.q_slr, GL.q_revr, GL.q_kr, GL.q_lr, GL.q_sr, GL.q_vr, GL.put_same, GL.put_put, GL.keyD, GL.wNew, GL.Cell.dct.injEq, GL.Cell.lst.injEq, GL.D.int.injEq, GL.D.str.injEq, GL.D.ref.injEq, GL.D.tup.injEq, reduceCtorEq, false_and, and_false, or_false, false_or, exists_false, exists_const, and_assoc, GL.q_app, GL.q_ext, GL.q_pop, GL.q_get2, GL.q_join, GL.q_upper, GL.GTgs.len, GL.GTg.slots, GL.GTgs.slots, GL.GXs.len, GL.wipeE, List.getElem?_cons_zero, List.getElem?_cons_succ, List.set_cons_zero, List.set_cons_succ, Option.some.injEq, exists_eq_left', exists_eq_left, List.map_cons, List.map_nil, List.length_cons, List.length_nil, List.replicate_succ, List.replicate_zero, List.cons_append, List.nil_append, List.zip_cons_cons, List.zip_nil_right, List.foldl_cons, List.foldl_nil, Nat.reduceAdd, Nat.reduceSub, true_and, and_true, ↓reduceIte, Bool.false_eq_true, GL.wFld, GL.wMtd, GL.wMake, GL.wSetFld, GL.wLrg, GL.wTrg, GL.q_dictP, GL.wInd, decide_eq_false h1]
      exact fin _ (by show (decide (lo ≤ i) && decide (i ≤ hi)) = _; rw [decide_eq_false h1]; rfl) S1 s1
  | _ =>
    delta isInt
    exact fin _ rfl S1 s1
/-- what is tested of an item -/
def cItem (f : Int → D → Bool) : GC0 := fun args S Q => ∃ m d, args = [.int m, d] ∧ KG S d ∧ ∀ S', Sub S S' → Q (.bl (f m d)) S'
def isThing (m : Int) (d : D) : Bool := isBtw d 0 (m - 1)
def isTie (m : Int) (d : D) : Bool := isRow d 2 && (isThing m (itm d 0) && isThing m (itm d 1))
theorem x_is_thing_of (T : Tb) (hb : Has T "is_between" cBtw) (args : List D) (S : Store) (Q : GQ) (h : cItem isThing args S Q) : wB_ T noW b_is_thing_of (fnEnd Q) (initE N_is_thing_of args) S := by
  obtain ⟨m, d, rfl, g, h⟩ := h
  obtain ⟨F, e, u⟩ := hb
  simp only [b_is_thing_of, initE, N_is_thing_of]
  delta fnEnd e
  exact use2 u rfl ⟨d, 0, m - 1, rfl, g, fun S1 s1 => ⟨S1, fun _ _ z => z, h S1 s1⟩⟩
theorem x_is_tie (T : Tb) (hr : Has T "is_row" cRow) (ht : Has T "is_thing_of" (cItem isThing)) (args : List D) (S : Store) (Q : GQ) (h : cItem isTie args S Q) : wB_ T noW b_is_tie (fnEnd Q) (initE N_is_tie args) S := by
  obtain ⟨m, d, rfl, g, h⟩ := h
  obtain ⟨Fr_, er, ur⟩ := hr
  obtain ⟨Ft, et, ut⟩ := ht
  have fin : ∀ b, isTie m d = b → ∀ S', Sub S S' → ∃ S0, (∀ (a : Addr) (c : Cell), S0 a = some c → S' a = some c) ∧ Q (.bl b) S0 := fun b e S' s => ⟨S', fun _ _ z => z, by rw [← e]; exact h S' s⟩
  simp only [b_is_tie, initE, N_is_tie]
  delta fnEnd er
  refine use2 ur rfl ⟨d, 2, rfl, g.kind, ?_⟩
  cases hr : isRow d 2 with
  | false =>
    walk_at "gl"
    exact fin _ (by unfold isTie; rw [hr]; rfl) S (Sub.refl S)
  | true =>
    obtain ⟨y, z, rfl⟩ := row2 hr
    have e3 : isTie m (.tup [y, z]) = (isThing m y && isThing m z) := by unfold isTie; rw [hr]; rfl
    delta et
    refine use2 ut rfl ⟨m, y, rfl, g.item (by simp), fun S1 s1 => ?_⟩
    cases hy : isThing m y with
    | false =>
      walk_at "gl"
      exact fin _ (by rw [e3, hy]; rfl) S1 s1
    | true =>
      delta et
      exact use2 ut rfl ⟨m, z, rfl, (g.item (by simp)).sub s1, fun S2 s2 => fin _ (by rw [e3, hy, Bool.true_and]) S2 (s1.trans s2)⟩
/-- less, of two texts, ints or pairs -/
def ltD : D → D → Bool
  | .int i, .int j => decide (i < j)
  | .str x, .str y => decide (x.cps.toList < y.cps.toList)
  | .tup [.int a, .int b], .tup [.int c, .int d] => HT.lexLt [a, b] [c, d]
  | _, _ => false
def Comp (ds : List D) : Prop := (∀ d ∈ ds, ∃ x : Str, d = .str x) ∨ (∀ d ∈ ds, ∃ i : Int, d = .int i) ∨ (∀ d ∈ ds, ∃ i j : Int, d = .tup [.int i, .int j])
def risingD (ds : List D) : Bool := (ds.zip (ds.drop 1)).all fun p => ltD p.1 p.2
def cRise : GC0 := fun args S Q => ∃ d ds, args = [d] ∧ (d = .tup ds ∨ ∃ p, d = .ref p ∧ S p = some (.lst ds)) ∧ ds.length ≤ 1000000 ∧ Comp ds ∧ ∀ S', Sub S S' → Q (.bl (risingD ds)) S'
theorem x_rise (T : Tb) (args : List D) (S : Store) (Q : GQ) (h : cRise args S Q) : wB_ T noW b_are_rising (fnEnd Q) (initE N_are_rising args) S := by
  obtain ⟨d, ds, rfl, hd, hl, hc, h⟩ := h
  have step : ∀ p ∈ ds.zip (ds.drop 1), ∀ (S1 : Store) (K : GT), K (ltD p.1 p.2) S1 → cmpD .Lt p.1 p.2 S1 K := fun p hp S1 K k => by
    have m1 := (List.of_mem_zip hp).1
    have m2 := List.mem_of_mem_drop (List.of_mem_zip hp).2
    rcases hc with hc | hc | hc
    · obtain ⟨x, e1⟩ := hc _ m1
      obtain ⟨y, e2⟩ := hc _ m2
      rw [e1, e2] at k ⊢
      exact k
    · obtain ⟨x, e1⟩ := hc _ m1
      obtain ⟨y, e2⟩ := hc _ m2
      rw [e1, e2] at k ⊢
      exact k
    · obtain ⟨x, x', e1⟩ := hc _ m1
      obtain ⟨y, y', e2⟩ := hc _ m2
      rw [e1, e2] at k ⊢
      exact ⟨[x, x'], [y, y'], rfl, rfl, k⟩
  simp only [b_are_rising, initE, N_are_rising]
  rcases hd with rfl | ⟨p, rfl, hp⟩
  · delta fnEnd cut1
    intro a ha
    have e1 : zipD ds (ds.drop 1) = (ds.zip (ds.drop 1)).map fun p => .wtup [p.1, p.2] := rfl
    rw [e1]
    refine lc_map ha (fun _ _ => trivial) (fun d => match d with | .wtup [x, y] => .bl (ltD x y) | _ => .non) _ (le_size (by rw [List.length_map, List.length_zip]; omega)) (fun d hd S1 K1 K2 s1 k1 => ?_) fun S' s' h3 => ?_
    · obtain ⟨p, hp, rfl⟩ := List.mem_map.mp hd
      walk_at "gl"
      exact step p hp S1 _ (k1 S1 (Sub.refl S1))
    · refine ⟨(ds.zip (ds.drop 1)).map fun p => ltD p.1 p.2, by rw [h3, List.map_map, List.map_map]; rfl, S', fun _ _ z => z, ?_⟩
      rw [List.all_map]
      exact h S' s'
  · delta fnEnd hp cut1
    intro q hq
    have npq : p ≠ q := by rintro rfl; rw [hp] at hq; cases hq
    have hp' : put S q (.lst (ds.drop 1)) p = some (.lst ds) := by rw [put_ne npq]; exact hp
    delta hp'
    intro a ha
    have e1 : zipD ds (ds.drop 1) = (ds.zip (ds.drop 1)).map fun p => .wtup [p.1, p.2] := rfl
    rw [e1]
    have sq : Sub S (put S q (.lst (ds.drop 1))) := Sub.new hq
    refine lc_map ha (fun S' s' => ⟨s' _ _ hp', s' _ _ put_same⟩) (fun d => match d with | .wtup [x, y] => .bl (ltD x y) | _ => .non) _ (le_size (by rw [List.length_map, List.length_zip]; omega)) (fun d hd S1 K1 K2 s1 k1 => ?_) fun S' s' h3 => ?_
    · obtain ⟨p, hp, rfl⟩ := List.mem_map.mp hd
      walk_at "gl"
      exact step p hp S1 _ (k1 S1 (Sub.refl S1))
    · refine ⟨(ds.zip (ds.drop 1)).map fun p => ltD p.1 p.2, by rw [h3, List.map_map, List.map_map]; rfl, S', fun _ _ z => z, ?_⟩
      rw [List.all_map]
      exact h S' (sq.trans s')
end K01
end

-- V5c
section
local macro_rules | `(tactic| walk_at "gl") => `(tactic| simp only [GL.wB_, GL.wS, GL.wSeq, GL.wRet, GL.w, GL.both, GL.wAndE, GL.wOrE, GL.wSlot, GL.wAs, GL.wCons, GL.wNil, GL.wVal, GL.wB, GL.wCmp, GL.wCmp2, GL.wBin, GL.wUn, GL.wNot, GL.wAnd, GL.wOr, GL.wIfE, GL.wIf, GL.wTup, GL.wLst, GL.wSlc, GL.wNoP, GL.wPart, GL.wO, GL.wC, GL.wI, GL.wG, GL.wGs, GL.wIt, GL.wRange1, GL.wRange2, GL.wEnum, GL.wZip, GL.wgName, GL.wgTup, GL.wgCons, GL.wgNil, GL.wAsg, GL.wDrop, GL.wSkip, GL.wPar, GL.wSetIx, GL.wTru, GL.wFor, GL.wLc, GL.wMth, GL.wCall, GL.wCallK, GL.wPs, GL.wPairs, GL.q_len, GL.q_isi, GL.q_int, GL.q_list, GL.q_tupt, GL.q_tupr, GL.q_all, GL.q_any, GL.q_max2, GL.q_min2, GL.q_sorted, GL.q_stri, GL.q_strs, GL.q_strb, GL.q_repr, GL.q_dict, GL.q_sum, GL.q_addi, GL.q_adds, GL.q_addt, GL.q_addl, GL.q_addb, GL.q_subi, GL.q_subb, GL.q_muls, GL.q_muli, GL.q_divi, GL.q_modi, GL.q_powi, GL.q_negi, GL.q_negb, GL.q_eq, GL.q_ne, GL.q_lti, GL.q_lei, GL.q_gti, GL.q_gei, GL.q_lts, GL.q_ins, GL.q_nins, GL.q_int_, GL.q_inl, GL.q_nint, GL.q_ninl, GL.q_trb, GL.q_tri, GL.q_ixt, GL.q_ixs, GL.q_slt, GL.q_sls, GL.q_revt, GL.ix_lst, GL.q_dct0, GL.ik_non_tup, GL.ik_non_int, GL.ik_non_str, GL.ik_non_lst, GL.ik_non_bl, GL.ik_non_dct, GL.ik_bl_tup, GL.ik_bl_int, GL.ik_bl_str, GL.ik_bl_lst, GL.ik_bl_bl, GL.ik_bl_dct, GL.ik_int_tup, GL.ik_int_int, GL.ik_int_str, GL.ik_int_lst, GL.ik_int_bl, GL.ik_int_dct, GL.ik_str_tup, GL.ik_str_int, GL.ik_str_str, GL.ik_str_lst, GL.ik_str_bl, GL.ik_str_dct, GL.ik_tup_tup, GL.ik_tup_int, GL.ik_tup_str, GL.ik_tup_lst, GL.ik_tup_bl, GL.ik_tup_dct, GL.ik_lst_tup, GL.ik_lst_int, GL.ik_lst_str, GL.ik_lst_lst, GL.ik_lst_bl, GL.ik_lst_dct, GL.ik_dct_tup, GL.ik_dct_int, GL.ik_dct_str, GL.ik_dct_lst, GL.ik_dct_bl, GL.ik_dct_dct, GL.q_st, GL.q_sf, GL.q_lt, List.cons.injEq, GL.at0, GL.at1, GL.at2, GL.q_itt, GL.q_its, GL.q_itr, GL.q_zt, GL.q_zr, GL.srcT, GL.srcL, GL.q_m1, GL.q_m2, GL.q_m3, GL.q_m4, GL.q_m5, GL.q_m6, GL.q_k1, GL.q_k2, GL.q_k3, GL.q_k4, GL.q_k5, exists_and_left, GL.q_ixr, GL.q_ixi, GL.q_setr, GL.q_slr, GL.q_revr, GL.q_kr, GL.q_lr, GL.q_sr, GL.q_vr, GL.put_same, GL.put_put, GL.keyD, GL.wNew, GL.Cell.dct.injEq, GL.Cell.lst.injEq, GL.D.int.injEq, GL.D.str.injEq, GL.D.ref.injEq, GL.D.tup.injEq, reduceCtorEq, false_and, and_false, or_false, false_or, exists_false, exists_const, and_assoc, GL.q_app, GL.q_ext, GL.q_pop, GL.q_get2, GL.q_join, GL.q_upper, GL.GTgs.len, GL.GTg.slots, GL.GTgs.slots, GL.GXs.len, GL.wipeE, List.getElem?_cons_zero, List.getElem?_cons_succ, List.set_cons_zero, List.set_cons_succ, Option.some.injEq, exists_eq_left', exists_eq_left, List.map_cons, List.map_nil, List.length_cons, List.length_nil, List.replicate_succ, List.replicate_zero, List.cons_append, List.nil_append, List.zip_cons_cons, List.zip_nil_right, List.foldl_cons, List.foldl_nil, Nat.reduceAdd, Nat.reduceSub, true_and, and_true, ↓reduceIte, Bool.false_eq_true, GL.wFld, GL.wMtd, GL.wMake, GL.wSetFld, GL.wLrg, GL.wTrg, GL.q_dictP, GL.wInd])
local macro_rules | `(tactic| delta $xs* $[$loc]?) => `(tactic| simp only [GL.wB_, GL.wS, GL.wSeq, GL.wRet, GL.w, GL.both, GL.wAndE, GL.wOrE, GL.wSlot, GL.wAs, GL.wCons, GL.wNil, GL.wVal, GL.wB, GL.wCmp, GL.wCmp2, GL.wBin, GL.wUn, GL.wNot, GL.wAnd, GL.wOr, GL.wIfE, GL.wIf, GL.wTup, GL.wLst, GL.wSlc, GL.wNoP, GL.wPart, GL.wO, GL.wC, GL.wI, GL.wG, GL.wGs, GL.wIt, GL.wRange1, GL.wRange2, GL.wEnum, GL.wZip, GL.wgName, GL.wgTup, GL.wgCons, GL.wgNil, GL.wAsg, GL.wDrop, GL.wSkip, GL.wPar, GL.wSetIx, GL.wTru, GL.wFor, GL.wLc, GL.wMth, GL.wCall, GL.wCallK, GL.wPs, GL.wPairs, GL.q_len, GL.q_isi, GL.q_int, GL.q_list, GL.q_tupt, GL.q_tupr, GL.q_all, GL.q_any, GL.q_max2, GL.q_min2, GL.q_sorted, GL.q_stri, GL.q_strs, GL.q_strb, GL.q_repr, GL.q_dict, GL.q_sum, GL.q_addi, GL.q_adds, GL.q_addt, GL.q_addl, GL.q_addb, GL.q_subi, GL.q_subb, GL.q_muls, GL.q_muli, GL.q_divi, GL.q_modi, GL.q_powi, GL.q_negi, GL.q_negb, GL.q_eq, GL.q_ne, GL.q_lti, GL.q_lei, GL.q_gti, GL.q_gei, GL.q_lts, GL.q_ins, GL.q_nins, GL.q_int_, GL.q_inl, GL.q_nint, GL.q_ninl, GL.q_trb, GL.q_tri, GL.q_ixt, GL.q_ixs, GL.q_slt, GL.q_sls, GL.q_revt, GL.ix_lst, GL.q_dct0, GL.ik_non_tup, GL.ik_non_int, GL.ik_non_str, GL.ik_non_lst, GL.ik_non_bl, GL.ik_non_dct, GL.ik_bl_tup, GL.ik_bl_int, GL.ik_bl_str, GL.ik_bl_lst, GL.ik_bl_bl, GL.ik_bl_dct, GL.ik_int_tup, GL.ik_int_int, GL.ik_int_str, GL.ik_int_lst, GL.ik_int_bl, GL.ik_int_dct, GL.ik_str_tup, GL.ik_str_int, GL.ik_str_str, GL.ik_str_lst, GL.ik_str_bl, GL.ik_str_dct, GL.ik_tup_tup, GL.ik_tup_int, GL.ik_tup_str, GL.ik_tup_lst, GL.ik_tup_bl, GL.ik_tup_dct, GL.ik_lst_tup, GL.ik_lst_int, GL.ik_lst_str, GL.ik_lst_lst, GL.ik_lst_bl, GL.ik_lst_dct, GL.ik_dct_tup, GL.ik_dct_int, GL.ik_dct_str, GL.ik_dct_lst, GL.ik_dct_bl, GL.ik_dct_dct, GL.q_st, GL.q_sf, GL.q_lt, List.cons.injEq, GL.at0, GL.at1, GL.at2, GL.q_itt, GL.q_its, GL.q_itr, GL.q_zt, GL.q_zr, GL.srcT, GL.srcL, GL.q_m1, GL.q_m2, GL.q_m3, GL.q_m4, GL.q_m5, GL.q_m6, GL.q_k1, GL.q_k2, GL.q_k3, GL.q_k4, GL.q_k5, exists_and_left, GL.q_ixr, GL.q_ixi, GL.q_setr, GL.q_slr, GL.q_revr, GL.q_kr, GL.q_lr, GL.q_sr, GL.q_vr, GL.put_same, GL.put_put, GL.keyD, GL.wNew, GL.Cell.dct.injEq, GL.Cell.lst.injEq, GL.D.int.injEq, GL.D.str.injEq, GL.D.ref.injEq, GL.D.tup.injEq, reduceCtorEq, false_and, and_false, or_false, false_or, exists_false, exists_const, and_assoc, GL.q_app, GL.q_ext, GL.q_pop, GL.q_get2, GL.q_join, GL.q_upper, GL.GTgs.len, GL.GTg.slots, GL.GTgs.slots, GL.GXs.len, GL.wipeE, List.getElem?_cons_zero, List.getElem?_cons_succ, List.set_cons_zero, List.set_cons_succ, Option.some.injEq, exists_eq_left', exists_eq_left, List.map_cons, List.map_nil, List.length_cons, List.length_nil, List.replicate_succ, List.replicate_zero, List.cons_append, List.nil_append, List.zip_cons_cons, List.zip_nil_right, List.foldl_cons, List.foldl_nil, Nat.reduceAdd, Nat.reduceSub, true_and, and_true, ↓reduceIte, Bool.false_eq_true, GL.wFld, GL.wMtd, GL.wMake, GL.wSetFld, GL.wLrg, GL.wTrg, GL.q_dictP, GL.wInd, $[$xs:ident],*] $[$loc]?)
namespace K01
open PySem GL
/-- the two tests of items, by the names of their defs -/
def ItemFn (nm : Str) (f : Int → D → Bool) : Prop := (nm = "is_thing_of" ∧ f = isThing) ∨ (nm = "is_tie" ∧ f = isTie)
def isListed (f : Int → D → Bool) (m : Int) (d : D) : Bool := match d with
  | .tup ds => !ds.isEmpty && (ds.all (f m) && risingD ds)
  | _ => false
theorem thing_int {m : Int} {d : D} (h : isThing m d = true) : ∃ i : Int, d = .int i := by
  cases d with
  | int i => exact ⟨i, rfl⟩
  | _ => cases h
theorem tie_pair {m : Int} {d : D} (h : isTie m d = true) : ∃ i j : Int, d = .tup [.int i, .int j] := by
  unfold isTie at h
  rw [Bool.and_eq_true, Bool.and_eq_true] at h
  obtain ⟨y, z, rfl⟩ := row2 h.1
  obtain ⟨i, e1⟩ := thing_int h.2.1
  obtain ⟨j, e2⟩ := thing_int h.2.2
  have e1' : y = .int i := e1
  have e2' : z = .int j := e2
  exact ⟨i, j, by rw [e1', e2']⟩
theorem comp_of {nm : Str} {f : Int → D → Bool} (hf : ItemFn nm f) {m : Int} {ds : List D} (h : ds.all (f m) = true) : Comp ds := by
  rcases hf with ⟨_, rfl⟩ | ⟨_, rfl⟩
  · exact .inr (.inl fun d hd => thing_int (List.all_eq_true.mp h d hd))
  · exact .inr (.inr fun d hd => tie_pair (List.all_eq_true.mp h d hd))
def cListed : GC0 := fun args S Q => ∃ d m nm f, args = [d, .int m, .glo nm] ∧ ItemFn nm f ∧ KG S d ∧ ∀ S', Sub S S' → Q (.bl (isListed f m d)) S'
theorem x_are_listed (T : Tb) (h1 : Has T "is_thing_of" (cItem isThing)) (h2 : Has T "is_tie" (cItem isTie)) (hr : Has T "are_rising" cRise) (args : List D) (S : Store) (Q : GQ) (h : cListed args S Q) : wB_ T noW b_are_listed (fnEnd Q) (initE N_are_listed args) S := by
  obtain ⟨d, m, nm, f, rfl, hf, g, h⟩ := h
  have hi : Has T nm (cItem f) := by
    rcases hf with ⟨rfl, rfl⟩ | ⟨rfl, rfl⟩
    · exact h1
    · exact h2
  obtain ⟨Fi, ei, ui⟩ := hi
  obtain ⟨Fr_, er, ur⟩ := hr
  have fin : ∀ b, isListed f m d = b → ∀ S', Sub S S' → ∃ S0, (∀ (a : Addr) (c : Cell), S0 a = some c → S' a = some c) ∧ Q (.bl b) S0 := fun b e S' s => ⟨S', fun _ _ z => z, by rw [← e]; exact h S' s⟩
  obtain ⟨k, hk⟩ := g.kind
  simp only [b_are_listed, initE, N_are_listed]
  simp only [GL.wB_, GL.wS, GL.wSeq, GL.wRet, GL.w, GL.both, GL.wAndE, GL.wOrE, GL.wSlot, GL.wAs, GL.wCons, GL.wNil, GL.wVal, GL.wB, GL.wCmp, GL.wCmp2, GL.wBin, GL.wUn, GL.wNot, GL.wAnd, GL.wOr, GL.wIfE, GL.wIf, GL.wTup, GL.wLst, GL.wSlc, GL.wNoP, GL.wPart, GL.wO, GL.wC, GL.wI, GL.wG, GL.wGs, GL.wIt, GL.wRange1, GL.wRange2, GL.wEnum, GL.wZip, GL.wgName, GL.wgTup, GL.wgCons, GL.wgNil, GL.wAsg, GL.wDrop, GL.wSkip, GL.wPar, GL.wSetIx, GL.wTru, GL.wFor, GL.wLc, GL.wMth, GL.wCall, GL.wCallK, GL.wPs, GL.wPairs, GL.q_len, GL.q_isi, GL.q_int, GL.q_list, GL.q_tupt, GL.q_tupr, GL.q_all, GL.q_any, GL.q_max2, GL.q_min2, GL.q_sorted, GL.q_stri, GL.q_strs, GL.q_strb, GL.q_repr, GL.q_dict, GL.q_sum, GL.q_addi, GL.q_adds, GL.q_addt, GL.q_addl, GL.q_addb, GL.q_subi, GL.q_subb, GL.q_muls, GL.q_muli, GL.q_divi, GL.q_modi, GL.q_powi, GL.q_negi, GL.q_negb, GL.q_eq, GL.q_ne, GL.q_lti, GL.q_lei, GL.q_gti, GL.q_gei, GL.q_lts, GL.q_ins, GL.q_nins, GL.q_int_, GL.q_inl, GL.q_nint, GL.q_ninl, GL.q_trb, GL.q_tri, GL.q_ixt, GL.q_ixs, GL.q_slt, GL.q_sls, GL.q_revt, GL.ix_lst, GL.q_dct0, GL.ik_non_tup, GL.ik_non_int, GL.ik_non_str, GL.ik_non_lst, GL.ik_non_bl, GL.ik_non_dct, GL.ik_bl_tup, GL.ik_bl_int, GL.ik_bl_str, GL.ik_bl_lst, GL.ik_bl_bl, GL.ik_bl_dct, GL.ik_int_tup, GL.ik_int_int, GL.ik_int_str, GL.ik_int_lst, GL.ik_int_bl, GL.ik_int_dct, GL.ik_str_tup, GL.ik_str_int, GL.ik_str_str, GL.ik_str_lst, GL.ik_str_bl, GL.ik_str_dct, GL.ik_tup_tup, GL.ik_tup_int, GL.ik_tup_str, GL.ik_tup_lst, GL.ik_tup_bl, GL.ik_tup_dct, GL.ik_lst_tup, GL.ik_lst_int, GL.ik_lst_str, GL.ik_lst_lst, GL.ik_lst_bl, GL.ik_lst_dct, GL.ik_dct_tup, GL.ik_dct_int, GL.ik_dct_str, GL.ik_dct_lst, GL.ik_dct_bl, GL.ik_dct_dct, GL.q_st, GL.q_sf, GL.q_lt, List.cons.injEq, GL.at0, GL.at1, GL.at2, GL.q_itt, GL.q_its, GL.q_itr, GL.q_zt, GL.q_zr, GL.srcT, GL.srcL, GL.q_m1, GL.q_m2, GL.q_m3, GL.q_m4, GL.q_m5, GL.q_m6, GL.q_k1, GL.q_k2, GL.q_k3, GL.q_k4, GL.q_k5, exists_and_left, GL.q_ixr, GL.q_ixi, GL.q_setr, GL.q_slr, GL.q_revr, GL.q_kr, GL.q_lr, GL.q_sr, GL.q_vr, GL.put_same, GL.put_put, GL.keyD, GL.wNew, GL.Cell.dct.injEq, GL.Cell.lst.injEq, GL.D.int.injEq, GL.D.str.injEq, GL.D.ref.injEq, GL.D.tup.injEq, reduceCtorEq, false_and, and_false, or_false, false_or, exists_false, exists_const, and_assoc, GL.q_app, GL.q_ext, GL.q_pop, GL.q_get2, GL.q_join, GL.q_upper, GL.GTgs.len, GL.GTg.slots, GL.GTgs.slots, GL.GXs.len, GL.wipeE, List.getElem?_cons_zero, List.getElem?_cons_succ, List.set_cons_zero, List.set_cons_succ, Option.some.injEq, exists_eq_left', exists_eq_left, List.map_cons, List.map_nil, List.length_cons, List.length_nil, List.replicate_succ, List.replicate_zero, List.cons_append, List.nil_append, List.zip_cons_cons, List.zip_nil_right, List.foldl_cons, List.foldl_nil, Nat.reduceAdd, Nat.reduceSub, true_and, and_true, ↓reduceIte, Bool.false_eq_true, GL.wFld, GL.wMtd, GL.wMake, GL.wSetFld, GL.wLrg, GL.wTrg, GL.q_dictP, GL.wInd, fnEnd, er, hk, kn_t, kt hk]
  cases d with
  | tup ds =>
    delta isTupD Bool.not_true
    cases ds with
    | nil =>
      refine ⟨Nat.zero_le _, true, rfl, ?_⟩
      walk_at "gl"
      exact fin _ rfl S (Sub.refl S)
    | cons x xs =>
      refine ⟨Nat.zero_le _, false, rfl, ?_⟩
      walk_at "gl"
      intro a ha
      refine lc_map ha (fun _ _ => trivial) (fun d => .bl (f m d)) (x :: xs) (le_size g.tlen) (fun d hd S1 K1 K2 s1 k1 => ?_) fun S' s' h3 => ?_
      · delta GL.D.glo.injEq ei
        exact use2 ui rfl ⟨m, d, rfl, (g.item hd).sub s1, fun S2 s2 => k1 S2 s2⟩
      · refine ⟨(x :: xs).map (f m), by rw [h3, map_bl], ?_⟩
        rw [all_id]
        cases hw : (x :: xs).all (f m) with
        | false =>
          delta Bool.not_false
          exact fin _ (by show (!(x :: xs).isEmpty && ((x :: xs).all (f m) && _)) = false; rw [hw]; rfl) S' s'
        | true =>
          delta Bool.not_true er
          exact use2 ur rfl ⟨_, x :: xs, rfl, .inl rfl, g.tlen, comp_of hf hw, fun S2 s2 => fin _ (by show (!(x :: xs).isEmpty && ((x :: xs).all (f m) && _)) = _; rw [hw]; rfl) S2 (s'.trans s2)⟩
  | _ => exact fin false rfl S (Sub.refl S)
def isNamed (d : D) : Bool := isRow d 2 && isWord (itm d 0)
def isList (f : Int → D → Bool) (m : Int) (d : D) : Bool := match d with
  | .tup ps => ps.all isNamed && (risingD (ps.map fun p => itm p 0) && ps.all fun p => isListed f m (itm p 1))
  | _ => false
def cList : GC0 := fun args S Q => ∃ d m nm f, args = [d, .int m, .glo nm] ∧ ItemFn nm f ∧ KG S d ∧ ∀ S', Sub S S' → Q (.bl (isList f m d)) S'
theorem named_shape {d : D} (h : isNamed d = true) : ∃ (x : Str) (z : D), d = .tup [.str x, z] ∧ isWord (.str x) = true := by
  unfold isNamed at h
  rw [Bool.and_eq_true] at h
  obtain ⟨y, z, rfl⟩ := row2 h.1
  have hy : isWord y = true := h.2
  cases y with
  | str x => exact ⟨x, z, rfl, hy⟩
  | _ => cases hy
theorem x_is_list (T : Tb) (hrow : Has T "is_row" cRow) (hw : Has T "is_word_value" (cPure1 isWord)) (hr : Has T "are_rising" cRise) (hl : Has T "are_listed" cListed) (args : List D) (S : Store) (Q : GQ) (h : cList args S Q) : wB_ T noW b_is_list (fnEnd Q) (initE N_is_list args) S := by
  obtain ⟨d, m, nm, f, rfl, hf, g, h⟩ := h
  obtain ⟨Fo, eo, uo⟩ := hrow
  obtain ⟨Fw, ew, uw⟩ := hw
  obtain ⟨Fr_, er, ur⟩ := hr
  obtain ⟨Fl, el, ul⟩ := hl
  have fin : ∀ b, isList f m d = b → ∀ S', Sub S S' → ∃ S0, (∀ (a : Addr) (c : Cell), S0 a = some c → S' a = some c) ∧ Q (.bl b) S0 := fun b e S' s => ⟨S', fun _ _ z => z, by rw [← e]; exact h S' s⟩
  obtain ⟨k, hk⟩ := g.kind
  simp only [b_is_list, initE, N_is_list]
  simp only [GL.wB_, GL.wS, GL.wSeq, GL.wRet, GL.w, GL.both, GL.wAndE, GL.wOrE, GL.wSlot, GL.wAs, GL.wCons, GL.wNil, GL.wVal, GL.wB, GL.wCmp, GL.wCmp2, GL.wBin, GL.wUn, GL.wNot, GL.wAnd, GL.wOr, GL.wIfE, GL.wIf, GL.wTup, GL.wLst, GL.wSlc, GL.wNoP, GL.wPart, GL.wO, GL.wC, GL.wI, GL.wG, GL.wGs, GL.wIt, GL.wRange1, GL.wRange2, GL.wEnum, GL.wZip, GL.wgName, GL.wgTup, GL.wgCons, GL.wgNil, GL.wAsg, GL.wDrop, GL.wSkip, GL.wPar, GL.wSetIx, GL.wTru, GL.wFor, GL.wLc, GL.wMth, GL.wCall, GL.wCallK, GL.wPs, GL.wPairs, GL.q_len, GL.q_isi, GL.q_int, GL.q_list, GL.q_tupt, GL.q_tupr, GL.q_all, GL.q_any, GL.q_max2, GL.q_min2, GL.q_sorted, GL.q_stri, GL.q_strs, GL.q_strb, GL.q_repr, GL.q_dict, GL.q_sum, GL.q_addi, GL.q_adds, GL.q_addt, GL.q_addl, GL.q_addb, GL.q_subi, GL.q_subb, GL.q_muls, GL.q_muli, GL.q_divi, GL.q_modi, GL.q_powi, GL.q_negi, GL.q_negb, GL.q_eq, GL.q_ne, GL.q_lti, GL.q_lei, GL.q_gti, GL.q_gei, GL.q_lts, GL.q_ins, GL.q_nins, GL.q_int_, GL.q_inl, GL.q_nint, GL.q_ninl, GL.q_trb, GL.q_tri, GL.q_ixt, GL.q_ixs, GL.q_slt, GL.q_sls, GL.q_revt, GL.ix_lst, GL.q_dct0, GL.ik_non_tup, GL.ik_non_int, GL.ik_non_str, GL.ik_non_lst, GL.ik_non_bl, GL.ik_non_dct, GL.ik_bl_tup, GL.ik_bl_int, GL.ik_bl_str, GL.ik_bl_lst, GL.ik_bl_bl, GL.ik_bl_dct, GL.ik_int_tup, GL.ik_int_int, GL.ik_int_str, GL.ik_int_lst, GL.ik_int_bl, GL.ik_int_dct, GL.ik_str_tup, GL.ik_str_int, GL.ik_str_str, GL.ik_str_lst, GL.ik_str_bl, GL.ik_str_dct, GL.ik_tup_tup, GL.ik_tup_int, GL.ik_tup_str, GL.ik_tup_lst, GL.ik_tup_bl, GL.ik_tup_dct, GL.ik_lst_tup, GL.ik_lst_int, GL.ik_lst_str, GL.ik_lst_lst, GL.ik_lst_bl, GL.ik_lst_dct, GL.ik_dct_tup, GL.ik_dct_int, GL.ik_dct_str, GL.ik_dct_lst, GL.ik_dct_bl, GL.ik_dct_dct, GL.q_st, GL.q_sf, GL.q_lt, List.cons.injEq, GL.at0, GL.at1, GL.at2, GL.q_itt, GL.q_its, GL.q_itr, GL.q_zt, GL.q_zr, GL.srcT, GL.srcL, GL.q_m1, GL.q_m2, GL.q_m3, GL.q_m4, GL.q_m5, GL.q_m6, GL.q_k1, GL.q_k2, GL.q_k3, GL.q_k4, GL.q_k5, exists_and_left, GL.q_ixr, GL.q_ixi, GL.q_setr, GL.q_slr, GL.q_revr, GL.q_kr, GL.q_lr, GL.q_sr, GL.q_vr, GL.put_same, GL.put_put, GL.keyD, GL.wNew, GL.Cell.dct.injEq, GL.Cell.lst.injEq, GL.D.int.injEq, GL.D.str.injEq, GL.D.ref.injEq, GL.D.tup.injEq, reduceCtorEq, false_and, and_false, or_false, false_or, exists_false, exists_const, and_assoc, GL.q_app, GL.q_ext, GL.q_pop, GL.q_get2, GL.q_join, GL.q_upper, GL.GTgs.len, GL.GTg.slots, GL.GTgs.slots, GL.GXs.len, GL.wipeE, List.getElem?_cons_zero, List.getElem?_cons_succ, List.set_cons_zero, List.set_cons_succ, Option.some.injEq, exists_eq_left', exists_eq_left, List.map_cons, List.map_nil, List.length_cons, List.length_nil, List.replicate_succ, List.replicate_zero, List.cons_append, List.nil_append, List.zip_cons_cons, List.zip_nil_right, List.foldl_cons, List.foldl_nil, Nat.reduceAdd, Nat.reduceSub, true_and, and_true, ↓reduceIte, Bool.false_eq_true, GL.wFld, GL.wMtd, GL.wMake, GL.wSetFld, GL.wLrg, GL.wTrg, GL.q_dictP, GL.wInd, fnEnd, er, hk, kn_t, kt hk]
  cases d with
  | tup ps =>
    delta isTupD Bool.not_true
    intro a ha
    refine lc_map ha (fun _ _ => trivial) (fun d => .bl (isNamed d)) ps (le_size g.tlen) (fun d hd S1 K1 K2 s1 k1 => ?_) fun S' s' h3 => ?_
    · delta eo
      have gd := (g.item hd).sub s1
      refine use2 uo rfl ⟨d, 2, rfl, gd.kind, ?_⟩
      cases hrw : isRow d 2 with
      | false =>
        walk_at "gl"
        have := k1 S1 (Sub.refl S1)
        unfold isNamed at this
        rw [hrw] at this
        exact this
      | true =>
        obtain ⟨y, z, rfl⟩ := row2 hrw
        have e : isNamed (.tup [y, z]) = isWord y := by unfold isNamed; rw [hrw]; rfl
        delta ew
        exact use2 uw rfl ⟨y, rfl, gd.item (by simp), fun S2 s2 => by have := k1 S2 s2; rw [e] at this; exact this⟩
    · refine ⟨ps.map isNamed, by rw [h3, map_bl], ?_⟩
      rw [all_id]
      cases hn : ps.all isNamed with
      | false =>
        delta Bool.not_false
        exact fin _ (by show (ps.all isNamed && _) = false; rw [hn]; rfl) S' s'
      | true =>
        delta Bool.not_true er
        intro b hb
        refine lc_map hb (fun _ _ => trivial) (fun d => itm d 0) ps (le_size g.tlen) (fun d hd S1 K1 K2 s1 k1 => ?_) fun S2 s2 h4 => ?_
        · obtain ⟨x, z, rfl, _⟩ := named_shape (List.all_eq_true.mp hn d hd)
          walk_at "gl"
          exact k1 S1 (Sub.refl S1)
        · refine use2 ur rfl ⟨_, _, rfl, .inr ⟨b, rfl, h4⟩, by rw [List.length_map]; exact g.tlen, .inl fun y hy => ?_, fun S3 s3 => ?_⟩
          · obtain ⟨p, hp, rfl⟩ := List.mem_map.mp hy
            obtain ⟨x, z, rfl, _⟩ := named_shape (List.all_eq_true.mp hn p hp)
            exact ⟨x, rfl⟩
          · have s03 : Sub S S3 := s'.trans (s2.trans s3)
            cases hri : risingD (ps.map fun p => itm p 0) with
            | false =>
              walk_at "gl"
              exact fin _ (by show (ps.all isNamed && (risingD _ && _)) = false; rw [hn, hri]; rfl) S3 s03
            | true =>
              delta el
              intro c hc
              refine lc_map hc (fun _ _ => trivial) (fun d => .bl (isListed f m (itm d 1))) ps (le_size g.tlen) (fun d hd S1 K1 K2 s1 k1 => ?_) fun S4 s4 h5 => ?_
              · obtain ⟨x, z, rfl, _⟩ := named_shape (List.all_eq_true.mp hn d hd)
                delta el
                exact use2 ul rfl ⟨z, m, nm, f, rfl, hf, ((g.item hd).item (by simp)).sub (s03.trans s1), fun S5 s5 => k1 S5 s5⟩
              · refine ⟨ps.map fun d => isListed f m (itm d 1), by rw [h5, List.map_map]; rfl, ?_⟩
                rw [all_id]
                exact fin _ (by show (ps.all isNamed && (risingD _ && _)) = _; rw [hn, hri]; rfl) S4 (s03.trans s4)
  | _ => exact fin false rfl S (Sub.refl S)
def intOf : D → Int
  | .int i => i
  | _ => 0
def isWorld (d : D) : Bool := isRow d 3 && (isBtw (itm d 0) 1 2000 && (isList isThing (intOf (itm d 0)) (itm d 1) && isList isTie (intOf (itm d 0)) (itm d 2)))
theorem row3 {d : D} (h : isRow d 3 = true) : ∃ x y z, d = .tup [x, y, z] := by
  cases d with
  | tup ds =>
    have h1 : decide ((ds.length : Int) = 3) = true := h
    have h2 := of_decide_eq_true h1
    have h3 : ds.length = 3 := by omega
    match ds, h3 with
    | [x, y, z], _ => (exact ⟨x, y, z, rfl⟩)
  | _ => cases h
theorem btw_int {d : D} {lo hi : Int} (h : isBtw d lo hi = true) : ∃ i : Int, d = .int i ∧ lo ≤ i ∧ i ≤ hi := by
  cases d with
  | int i =>
    have h' : (decide (lo ≤ i) && decide (i ≤ hi)) = true := h
    rw [Bool.and_eq_true, decide_eq_true_eq, decide_eq_true_eq] at h'
    exact ⟨i, rfl, h'.1, h'.2⟩
  | _ => cases h
theorem x_is_world_value (T : Tb) (hrow : Has T "is_row" cRow) (hb : Has T "is_between" cBtw) (hl : Has T "is_list" cList) (f1 : (T.fn "is_thing_of").isSome = true) (f2 : (T.fn "is_tie").isSome = true) (v1 : HasV T "MOST_THINGS" (.int 2000)) (args : List D) (S : Store) (Q : GQ) (h : cPure1 isWorld args S Q) :
    wB_ T noW b_is_world_value (fnEnd Q) (initE N_is_world_value args) S := by
  obtain ⟨d, rfl, g, h⟩ := h
  obtain ⟨Fo, eo, uo⟩ := hrow
  obtain ⟨Fb, eb, ub⟩ := hb
  obtain ⟨Fl, el, ul⟩ := hl
  unfold HasV at v1
  have fin := fin_ h
  simp only [b_is_world_value, initE, N_is_world_value]
  delta fnEnd eo
  refine use2 uo rfl ⟨d, 3, rfl, g.kind, ?_⟩
  cases hr : isRow d 3 with
  | false =>
    delta Bool.not_false
    exact fin _ (by unfold isWorld; rw [hr]; rfl) S (Sub.refl S)
  | true =>
    obtain ⟨x, y, z, rfl⟩ := row3 hr
    have ew : isWorld (.tup [x, y, z]) = (isBtw x 1 2000 && (isList isThing (intOf x) y && isList isTie (intOf x) z)) := by unfold isWorld; rw [hr]; rfl
    delta Bool.not_true eb v1
    refine use2 ub rfl ⟨x, 1, 2000, rfl, g.item (by simp), fun S1 s1 => ?_⟩
    cases hbw : isBtw x 1 2000 with
    | false =>
      delta Bool.not_false
      exact fin _ (by rw [ew, hbw]; rfl) S1 s1
    | true =>
      obtain ⟨i, rfl, _, _⟩ := btw_int hbw
      delta Bool.not_true el f1 f2
      refine use2 ul rfl ⟨y, i, _, isThing, rfl, .inl ⟨rfl, rfl⟩, (g.item (by simp)).sub s1, fun S2 s2 => ?_⟩
      cases hy : isList isThing i y with
      | false =>
        walk_at "gl"
        exact fin _ (by rw [ew, hbw]; show (true && (isList isThing i y && _)) = false; rw [hy]; rfl) S2 (s1.trans s2)
      | true =>
        delta el f1 f2
        exact use2 ul rfl ⟨z, i, _, isTie, rfl, .inr ⟨rfl, rfl⟩, (g.item (by simp)).sub (s1.trans s2), fun S3 s3 => fin _ (by rw [ew, hbw]; show (true && (isList isThing i y && _)) = _; rw [hy]; rfl) S3 (s1.trans (s2.trans s3))⟩
end K01
end

-- K01e
section
local macro_rules | `(tactic| walk_at "gl") => `(tactic| simp only [GL.wB_, GL.wS, GL.wSeq, GL.wRet, GL.w, GL.both, GL.wAndE, GL.wOrE, GL.wSlot, GL.wAs, GL.wCons, GL.wNil, GL.wVal, GL.wB, GL.wCmp, GL.wCmp2, GL.wBin, GL.wUn, GL.wNot, GL.wAnd, GL.wOr, GL.wIfE, GL.wIf, GL.wTup, GL.wLst, GL.wSlc, GL.wNoP, GL.wPart, GL.wO, GL.wC, GL.wI, GL.wG, GL.wGs, GL.wIt, GL.wRange1, GL.wRange2, GL.wEnum, GL.wZip, GL.wgName, GL.wgTup, GL.wgCons, GL.wgNil, GL.wAsg, GL.wDrop, GL.wSkip, GL.wPar, GL.wSetIx, GL.wTru, GL.wFor, GL.wLc, GL.wMth, GL.wCall, GL.wCallK, GL.wPs, GL.wPairs, GL.q_len, GL.q_isi, GL.q_int, GL.q_list, GL.q_tupt, GL.q_tupr, GL.q_all, GL.q_any, GL.q_max2, GL.q_min2, GL.q_sorted, GL.q_stri, GL.q_strs, GL.q_strb, GL.q_repr, GL.q_dict, GL.q_sum, GL.q_addi, GL.q_adds, GL.q_addt, GL.q_addl, GL.q_addb, GL.q_subi, GL.q_subb, GL.q_muls, GL.q_muli, GL.q_divi, GL.q_modi, GL.q_powi, GL.q_negi, GL.q_negb, GL.q_eq, GL.q_ne, GL.q_lti, GL.q_lei, GL.q_gti, GL.q_gei, GL.q_lts, GL.q_ins, GL.q_nins, GL.q_int_, GL.q_inl, GL.q_nint, GL.q_ninl, GL.q_trb, GL.q_tri, GL.q_ixt, GL.q_ixs, GL.q_slt, GL.q_sls, GL.q_revt, GL.ix_lst, GL.q_dct0, GL.ik_non_tup, GL.ik_non_int, GL.ik_non_str, GL.ik_non_lst, GL.ik_non_bl, GL.ik_non_dct, GL.ik_bl_tup, GL.ik_bl_int, GL.ik_bl_str, GL.ik_bl_lst, GL.ik_bl_bl, GL.ik_bl_dct, GL.ik_int_tup, GL.ik_int_int, GL.ik_int_str, GL.ik_int_lst, GL.ik_int_bl, GL.ik_int_dct, GL.ik_str_tup, GL.ik_str_int, GL.ik_str_str, GL.ik_str_lst, GL.ik_str_bl, GL.ik_str_dct, GL.ik_tup_tup, GL.ik_tup_int, GL.ik_tup_str, GL.ik_tup_lst, GL.ik_tup_bl, GL.ik_tup_dct, GL.ik_lst_tup, GL.ik_lst_int, GL.ik_lst_str, GL.ik_lst_lst, GL.ik_lst_bl, GL.ik_lst_dct, GL.ik_dct_tup, GL.ik_dct_int, GL.ik_dct_str, GL.ik_dct_lst, GL.ik_dct_bl, GL.ik_dct_dct, GL.q_st, GL.q_sf, GL.q_lt, List.cons.injEq, GL.at0, GL.at1, GL.at2, GL.q_itt, GL.q_its, GL.q_itr, GL.q_zt, GL.q_zr, GL.srcT, GL.srcL, GL.q_m1, GL.q_m2, GL.q_m3, GL.q_m4, GL.q_m5, GL.q_m6, GL.q_k1, GL.q_k2, GL.q_k3, GL.q_k4, GL.q_k5, exists_and_left, GL.q_ixr, GL.q_ixi, GL.q_setr, GL.q_slr, GL.q_revr, GL.q_kr, GL.q_lr, GL.q_sr, GL.q_vr, GL.put_same, GL.put_put, GL.keyD, GL.wNew, GL.Cell.dct.injEq, GL.Cell.lst.injEq, GL.D.int.injEq, GL.D.str.injEq, GL.D.ref.injEq, GL.D.tup.injEq, reduceCtorEq, false_and, and_false, or_false, false_or, exists_false, exists_const, and_assoc, GL.q_app, GL.q_ext, GL.q_pop, GL.q_get2, GL.q_join, GL.q_upper, GL.GTgs.len, GL.GTg.slots, GL.GTgs.slots, GL.GXs.len, GL.wipeE, List.getElem?_cons_zero, List.getElem?_cons_succ, List.set_cons_zero, List.set_cons_succ, Option.some.injEq, exists_eq_left', exists_eq_left, List.map_cons, List.map_nil, List.length_cons, List.length_nil, List.replicate_succ, List.replicate_zero, List.cons_append, List.nil_append, List.zip_cons_cons, List.zip_nil_right, List.foldl_cons, List.foldl_nil, Nat.reduceAdd, Nat.reduceSub, true_and, and_true, ↓reduceIte, Bool.false_eq_true, GL.wFld, GL.wMtd, GL.wMake, GL.wSetFld, GL.wLrg, GL.wTrg, GL.q_dictP, GL.wInd])
local macro_rules | `(tactic| delta $xs* $[$loc]?) => `(tactic| simp only [GL.wB_, GL.wS, GL.wSeq, GL.wRet, GL.w, GL.both, GL.wAndE, GL.wOrE, GL.wSlot, GL.wAs, GL.wCons, GL.wNil, GL.wVal, GL.wB, GL.wCmp, GL.wCmp2, GL.wBin, GL.wUn, GL.wNot, GL.wAnd, GL.wOr, GL.wIfE, GL.wIf, GL.wTup, GL.wLst, GL.wSlc, GL.wNoP, GL.wPart, GL.wO, GL.wC, GL.wI, GL.wG, GL.wGs, GL.wIt, GL.wRange1, GL.wRange2, GL.wEnum, GL.wZip, GL.wgName, GL.wgTup, GL.wgCons, GL.wgNil, GL.wAsg, GL.wDrop, GL.wSkip, GL.wPar, GL.wSetIx, GL.wTru, GL.wFor, GL.wLc, GL.wMth, GL.wCall, GL.wCallK, GL.wPs, GL.wPairs, GL.q_len, GL.q_isi, GL.q_int, GL.q_list, GL.q_tupt, GL.q_tupr, GL.q_all, GL.q_any, GL.q_max2, GL.q_min2, GL.q_sorted, GL.q_stri, GL.q_strs, GL.q_strb, GL.q_repr, GL.q_dict, GL.q_sum, GL.q_addi, GL.q_adds, GL.q_addt, GL.q_addl, GL.q_addb, GL.q_subi, GL.q_subb, GL.q_muls, GL.q_muli, GL.q_divi, GL.q_modi, GL.q_powi, GL.q_negi, GL.q_negb, GL.q_eq, GL.q_ne, GL.q_lti, GL.q_lei, GL.q_gti, GL.q_gei, GL.q_lts, GL.q_ins, GL.q_nins, GL.q_int_, GL.q_inl, GL.q_nint, GL.q_ninl, GL.q_trb, GL.q_tri, GL.q_ixt, GL.q_ixs, GL.q_slt, GL.q_sls, GL.q_revt, GL.ix_lst, GL.q_dct0, GL.ik_non_tup, GL.ik_non_int, GL.ik_non_str, GL.ik_non_lst, GL.ik_non_bl, GL.ik_non_dct, GL.ik_bl_tup, GL.ik_bl_int, GL.ik_bl_str, GL.ik_bl_lst, GL.ik_bl_bl, GL.ik_bl_dct, GL.ik_int_tup, GL.ik_int_int, GL.ik_int_str, GL.ik_int_lst, GL.ik_int_bl, GL.ik_int_dct, GL.ik_str_tup, GL.ik_str_int, GL.ik_str_str, GL.ik_str_lst, GL.ik_str_bl, GL.ik_str_dct, GL.ik_tup_tup, GL.ik_tup_int, GL.ik_tup_str, GL.ik_tup_lst, GL.ik_tup_bl, GL.ik_tup_dct, GL.ik_lst_tup, GL.ik_lst_int, GL.ik_lst_str, GL.ik_lst_lst, GL.ik_lst_bl, GL.ik_lst_dct, GL.ik_dct_tup, GL.ik_dct_int, GL.ik_dct_str, GL.ik_dct_lst, GL.ik_dct_bl, GL.ik_dct_dct, GL.q_st, GL.q_sf, GL.q_lt, List.cons.injEq, GL.at0, GL.at1, GL.at2, GL.q_itt, GL.q_its, GL.q_itr, GL.q_zt, GL.q_zr, GL.srcT, GL.srcL, GL.q_m1, GL.q_m2, GL.q_m3, GL.q_m4, GL.q_m5, GL.q_m6, GL.q_k1, GL.q_k2, GL.q_k3, GL.q_k4, GL.q_k5, exists_and_left, GL.q_ixr, GL.q_ixi, GL.q_setr, GL.q_slr, GL.q_revr, GL.q_kr, GL.q_lr, GL.q_sr, GL.q_vr, GL.put_same, GL.put_put, GL.keyD, GL.wNew, GL.Cell.dct.injEq, GL.Cell.lst.injEq, GL.D.int.injEq, GL.D.str.injEq, GL.D.ref.injEq, GL.D.tup.injEq, reduceCtorEq, false_and, and_false, or_false, false_or, exists_false, exists_const, and_assoc, GL.q_app, GL.q_ext, GL.q_pop, GL.q_get2, GL.q_join, GL.q_upper, GL.GTgs.len, GL.GTg.slots, GL.GTgs.slots, GL.GXs.len, GL.wipeE, List.getElem?_cons_zero, List.getElem?_cons_succ, List.set_cons_zero, List.set_cons_succ, Option.some.injEq, exists_eq_left', exists_eq_left, List.map_cons, List.map_nil, List.length_cons, List.length_nil, List.replicate_succ, List.replicate_zero, List.cons_append, List.nil_append, List.zip_cons_cons, List.zip_nil_right, List.foldl_cons, List.foldl_nil, Nat.reduceAdd, Nat.reduceSub, true_and, and_true, ↓reduceIte, Bool.false_eq_true, GL.wFld, GL.wMtd, GL.wMake, GL.wSetFld, GL.wLrg, GL.wTrg, GL.q_dictP, GL.wInd, $[$xs:ident],*] $[$loc]?)
namespace K01
open PySem GL
theorem fm_empty (p : D → Bool) : ∀ ds : List D, (ds.filterMap fun d => if p d = true then none else some d).isEmpty = ds.all p
  | [] => rfl
  | d :: ds => by
    cases h : p d with
    | true => rw [List.filterMap_cons, if_pos h, List.all_cons, h, Bool.true_and]; exact fm_empty p ds
    | false => rw [List.filterMap_cons, if_neg (by rw [h]; decide), List.all_cons, h, Bool.false_and]; rfl
theorem x_law_is_word (T : Tb) (args : List D) (S : Store) (Q : GQ) (h : cPure1 isWord args S Q) : wB_ T noW b_law_is_word (fnEnd Q) (initE N_law_is_word args) S := by
  obtain ⟨d, rfl, g, h⟩ := h
  simp only [b_law_is_word, initE, N_law_is_word]
  obtain ⟨k, hk⟩ := g.kind
  have fin := fin_ h
  simp only [GL.wB_, GL.wS, GL.wSeq, GL.wRet, GL.w, GL.both, GL.wAndE, GL.wOrE, GL.wSlot, GL.wAs, GL.wCons, GL.wNil, GL.wVal, GL.wB, GL.wCmp, GL.wCmp2, GL.wBin, GL.wUn, GL.wNot, GL.wAnd, GL.wOr, GL.wIfE, GL.wIf, GL.wTup, GL.wLst, GL.wSlc, GL.wNoP, GL.wPart, GL.wO, GL.wC, GL.wI, GL.wG, GL.wGs, GL.wIt, GL.wRange1, GL.wRange2, GL.wEnum, GL.wZip, GL.wgName, GL.wgTup, GL.wgCons, GL.wgNil, GL.wAsg, GL.wDrop, GL.wSkip, GL.wPar, GL.wSetIx, GL.wTru, GL.wFor, GL.wLc, GL.wMth, GL.wCall, GL.wCallK, GL.wPs, GL.wPairs, GL.q_len, GL.q_isi, GL.q_int, GL.q_list, GL.q_tupt, GL.q_tupr, GL.q_all, GL.q_any, GL.q_max2, GL.q_min2, GL.q_sorted, GL.q_stri, GL.q_strs, GL.q_strb, GL.q_repr, GL.q_dict, GL.q_sum, GL.q_addi, GL.q_adds, GL.q_addt, GL.q_addl, GL.q_addb, GL.q_subi, GL.q_subb, GL.q_muls, GL.q_muli, GL.q_divi, GL.q_modi, GL.q_powi, GL.q_negi, GL.q_negb, GL.q_eq, GL.q_ne, GL.q_lti, GL.q_lei, GL.q_gti, GL.q_gei, GL.q_lts, GL.q_ins, GL.q_nins, GL.q_int_, GL.q_inl, GL.q_nint, GL.q_ninl, GL.q_trb, GL.q_tri, GL.q_ixt, GL.q_ixs, GL.q_slt, GL.q_sls, GL.q_revt, GL.ix_lst, GL.q_dct0, GL.ik_non_tup, GL.ik_non_int, GL.ik_non_str, GL.ik_non_lst, GL.ik_non_bl, GL.ik_non_dct, GL.ik_bl_tup, GL.ik_bl_int, GL.ik_bl_str, GL.ik_bl_lst, GL.ik_bl_bl, GL.ik_bl_dct, GL.ik_int_tup, GL.ik_int_int, GL.ik_int_str, GL.ik_int_lst, GL.ik_int_bl, GL.ik_int_dct, GL.ik_str_tup, GL.ik_str_int, GL.ik_str_str, GL.ik_str_lst, GL.ik_str_bl, GL.ik_str_dct, GL.ik_tup_tup, GL.ik_tup_int, GL.ik_tup_str, GL.ik_tup_lst, GL.ik_tup_bl, GL.ik_tup_dct, GL.ik_lst_tup, GL.ik_lst_int, GL.ik_lst_str, GL.ik_lst_lst, GL.ik_lst_bl, GL.ik_lst_dct, GL.ik_dct_tup, GL.ik_dct_int, GL.ik_dct_str, GL.ik_dct_lst, GL.ik_dct_bl, GL.ik_dct_dct, GL.q_st, GL.q_sf, GL.q_lt, List.cons.injEq, GL.at0, GL.at1, GL.at2, GL.q_itt, GL.q_its, GL.q_itr, GL.q_zt, GL.q_zr, GL.srcT, GL.srcL, GL.q_m1, GL.q_m2, GL.q_m3, GL.q_m4, GL.q_m5, GL.q_m6, GL.q_k1, GL.q_k2, GL.q_k3, GL.q_k4, GL.q_k5, exists_and_left, GL.q_ixr, GL.q_ixi, GL.q_setr, GL.q_slr, GL.q_revr, GL.q_kr, GL.q_lr, GL.q_sr, GL.q_vr, GL.put_same, GL.put_put, GL.keyD, GL.wNew, GL.Cell.dct.injEq, GL.Cell.lst.injEq, GL.D.int.injEq, GL.D.str.injEq, GL.D.ref.injEq, GL.D.tup.injEq, reduceCtorEq, false_and, and_false, or_false, false_or, exists_false, exists_const, and_assoc, GL.q_app, GL.q_ext, GL.q_pop, GL.q_get2, GL.q_join, GL.q_upper, GL.GTgs.len, GL.GTg.slots, GL.GTgs.slots, GL.GXs.len, GL.wipeE, List.getElem?_cons_zero, List.getElem?_cons_succ, List.set_cons_zero, List.set_cons_succ, Option.some.injEq, exists_eq_left', exists_eq_left, List.map_cons, List.map_nil, List.length_cons, List.length_nil, List.replicate_succ, List.replicate_zero, List.cons_append, List.nil_append, List.zip_cons_cons, List.zip_nil_right, List.foldl_cons, List.foldl_nil, Nat.reduceAdd, Nat.reduceSub, true_and, and_true, ↓reduceIte, Bool.false_eq_true, GL.wFld, GL.wMtd, GL.wMake, GL.wSetFld, GL.wLrg, GL.wTrg, GL.q_dictP, GL.wInd, hk, fnEnd, kn_s, ks hk]
  cases d with
  | str x =>
    simp only [GL.wB_, GL.wS, GL.wSeq, GL.wRet, GL.w, GL.both, GL.wAndE, GL.wOrE, GL.wSlot, GL.wAs, GL.wCons, GL.wNil, GL.wVal, GL.wB, GL.wCmp, GL.wCmp2, GL.wBin, GL.wUn, GL.wNot, GL.wAnd, GL.wOr, GL.wIfE, GL.wIf, GL.wTup, GL.wLst, GL.wSlc, GL.wNoP, GL.wPart, GL.wO, GL.wC, GL.wI, GL.wG, GL.wGs, GL.wIt, GL.wRange1, GL.wRange2, GL.wEnum, GL.wZip, GL.wgName, GL.wgTup, GL.wgCons, GL.wgNil, GL.wAsg, GL.wDrop, GL.wSkip, GL.wPar, GL.wSetIx, GL.wTru, GL.wFor, GL.wLc, GL.wMth, GL.wCall, GL.wCallK, GL.wPs, GL.wPairs, GL.q_len, GL.q_isi, GL.q_int, GL.q_list, GL.q_tupt, GL.q_tupr, GL.q_all, GL.q_any, GL.q_max2, GL.q_min2, GL.q_sorted, GL.q_stri, GL.q_strs, GL.q_strb, GL.q_repr, GL.q_dict, GL.q_sum, GL.q_addi, GL.q_adds, GL.q_addt, GL.q_addl, GL.q_addb, GL.q_subi, GL.q_subb, GL.q_muls, GL.q_muli, GL.q_divi, GL.q_modi, GL.q_powi, GL.q_negi, GL.q_negb, GL.q_eq, GL.q_ne, GL.q_lti, GL.q_lei, GL.q_gti, GL.q_gei, GL.q_lts, GL.q_ins, GL.q_nins, GL.q_int_, GL.q_inl, GL.q_nint, GL.q_ninl, GL.q_trb, GL.q_tri, GL.q_ixt, GL.q_ixs, GL.q_slt, GL.q_sls, GL.q_revt, GL.ix_lst, GL.q_dct0, GL.ik_non_tup, GL.ik_non_int, GL.ik_non_str, GL.ik_non_lst, GL.ik_non_bl, GL.ik_non_dct, GL.ik_bl_tup, GL.ik_bl_int, GL.ik_bl_str, GL.ik_bl_lst, GL.ik_bl_bl, GL.ik_bl_dct, GL.ik_int_tup, GL.ik_int_int, GL.ik_int_str, GL.ik_int_lst, GL.ik_int_bl, GL.ik_int_dct, GL.ik_str_tup, GL.ik_str_int, GL.ik_str_str, GL.ik_str_lst, GL.ik_str_bl, GL.ik_str_dct, GL.ik_tup_tup, GL.ik_tup_int, GL.ik_tup_str, GL.ik_tup_lst, GL.ik_tup_bl, GL.ik_tup_dct, GL.ik_lst_tup, GL.ik_lst_int, GL.ik_lst_str, GL.ik_lst_lst, GL.ik_lst_bl, GL.ik_lst_dct, GL.ik_dct_tup, GL.ik_dct_int, GL.ik_dct_str, GL.ik_dct_lst, GL.ik_dct_bl, GL.ik_dct_dct, GL.q_st, GL.q_sf, GL.q_lt, List.cons.injEq, GL.at0, GL.at1, GL.at2, GL.q_itt, GL.q_its, GL.q_itr, GL.q_zt, GL.q_zr, GL.srcT, GL.srcL, GL.q_m1, GL.q_m2, GL.q_m3, GL.q_m4, GL.q_m5, GL.q_m6, GL.q_k1, GL.q_k2, GL.q_k3, GL.q_k4, GL.q_k5, exists_and_left, GL.q_ixr, GL.q_ixi, GL.q_setr, GL.q_slr, GL.q_revr, GL.q_kr, GL.q_lr, GL.q_sr, GL.q_vr, GL.put_same, GL.put_put, GL.keyD, GL.wNew, GL.Cell.dct.injEq, GL.Cell.lst.injEq, GL.D.int.injEq, GL.D.str.injEq, GL.D.ref.injEq, GL.D.tup.injEq, reduceCtorEq, false_and, and_false, or_false, false_or, exists_false, exists_const, and_assoc, GL.q_app, GL.q_ext, GL.q_pop, GL.q_get2, GL.q_join, GL.q_upper, GL.GTgs.len, GL.GTg.slots, GL.GTgs.slots, GL.GXs.len, GL.wipeE, List.getElem?_cons_zero, List.getElem?_cons_succ, List.set_cons_zero, List.set_cons_succ, Option.some.injEq, exists_eq_left', exists_eq_left, List.map_cons, List.map_nil, List.length_cons, List.length_nil, List.replicate_succ, List.replicate_zero, List.cons_append, List.nil_append, List.zip_cons_cons, List.zip_nil_right, List.foldl_cons, List.foldl_nil, Nat.reduceAdd, Nat.reduceSub, true_and, and_true, ↓reduceIte, Bool.false_eq_true, GL.wFld, GL.wMtd, GL.wMake, GL.wSetFld, GL.wLrg, GL.wTrg, GL.q_dictP, GL.wInd, isStrD, lenD, Bool.not_true, Bool.not_false, if_pos (le_size g.slen)]
    simp only [isWord] at fin
    by_cases h1 : 1 ≤ x.length
    · by_cases h2 : x.length ≤ 10
      · have e1 : (0 : Int) < x.length := by omega
        have e2 : (x.length : Int) < 11 := by omega
        rw [decide_eq_true h1, decide_eq_true h2] at fin
        simp only [GL.wB_, GL.wS, GL.wSeq, GL.wRet, GL.w, GL.both, GL.wAndE, GL.wOrE, GL.wSlot, GL.wAs, GL.wCons, GL.wNil, GL.wVal, GL.wB, GL.wCmp, GL.wCmp2, GL.wBin, GL.wUn, GL.wNot, GL.wAnd, GL.wOr, GL.wIfE, GL.wIf, GL.wTup, GL.wLst, GL.wSlc, GL.wNoP, GL.wPart, GL.wO, GL.wC, GL.wI, GL.wG, GL.wGs, GL.wIt, GL.wRange1, GL.wRange2, GL.wEnum, GL.wZip, GL.wgName, GL.wgTup, GL.wgCons, GL.wgNil, GL.wAsg, GL.wDrop, GL.wSkip, GL.wPar, GL.wSetIx, GL.wTru, GL.wFor, GL.wLc, GL.wMth, GL.wCall, GL.wCallK, GL.wPs, GL.wPairs, GL.q_len, GL.q_isi, GL.q_int, GL.q_list, GL.q_tupt, GL.q_tupr, GL.q_all, GL.q_any, GL.q_max2, GL.q_min2, GL.q_sorted, GL.q_stri, GL.q_strs, GL.q_strb, GL.q_repr, GL.q_dict, GL.q_sum, GL.q_addi, GL.q_adds, GL.q_addt, GL.q_addl, GL.q_addb, GL.q_subi, GL.q_subb, GL.q_muls, GL.q_muli, GL.q_divi, GL.q_modi, GL.q_powi, GL.q_negi, GL.q_negb, GL.q_eq, GL.q_ne, GL.q_lti, GL.q_lei, GL.q_gti, GL.q_gei, GL.q_lts, GL.q_ins, GL.q_nins, GL.q_int_, GL.q_inl, GL.q_nint, GL.q_ninl, GL.q_trb, GL.q_tri, GL.q_ixt, GL.q_ixs, GL.q_slt, GL.q_sls, GL.q_revt, GL.ix_lst, GL.q_dct0, GL.ik_non_tup, GL.ik_non_int, GL.ik_non_str, GL.ik_non_lst, GL.ik_non_bl, GL.ik_non_dct, GL.ik_bl_tup, GL.ik_bl_int, GL.ik_bl_str, GL.ik_bl_lst, GL.ik_bl_bl, GL.ik_bl_dct, GL.ik_int_tup, GL.ik_int_int, GL.ik_int_str, GL.ik_int_lst, GL.ik_int_bl, GL.ik_int_dct, GL.ik_str_tup, GL.ik_str_int, GL.ik_str_str, GL.ik_str_lst, GL.ik_str_bl, GL.ik_str_dct, GL.ik_tup_tup, GL.ik_tup_int, GL.ik_tup_str, GL.ik_tup_lst, GL.ik_tup_bl, GL.ik_tup_dct, GL.ik_lst_tup, GL.ik_lst_int, GL.ik_lst_str, GL.ik_lst_lst, GL.ik_lst_bl, GL.ik_lst_dct, GL.ik_dct_tup, GL.ik_dct_int, GL.ik_dct_str, GL.ik_dct_lst, GL.ik_dct_bl, GL.ik_dct_dct, GL.q_st, GL.q_sf, GL.q_lt, List.cons.injEq, GL.at0, GL.at1, GL.at2, GL.q_itt, GL.q_its, GL.q_itr, GL.q_zt, GL.q_zr, GL.srcT, GL.srcL, GL.q_m1, GL.q_m2, GL.q_m3, GL.q_m4, GL.q_m5, GL.q_m6, GL.q_k1, GL.q_k2, GL.q_k3, GL.q_k4, GL.q_k5, exists_and_left, GL.q_ixr, GL.q_ixi, GL.q_setr, GL.q_slr, GL.q_revr, GL.q_kr, GL.q_lr, GL.q_sr, GL.q_vr, GL.put_same, GL.put_put, GL.keyD, GL.wNew, GL.Cell.dct.injEq, GL.Cell.lst.injEq, GL.D.int.injEq, GL.D.str.injEq, GL.D.ref.injEq, GL.D.tup.injEq, reduceCtorEq, false_and, and_false, or_false, false_or, exists_false, exists_const, and_assoc, GL.q_app, GL.q_ext, GL.q_pop, GL.q_get2, GL.q_join, GL.q_upper, GL.GTgs.len, GL.GTg.slots, GL.GTgs.slots, GL.GXs.len, GL.wipeE, List.getElem?_cons_zero, List.getElem?_cons_succ, List.set_cons_zero, List.set_cons_succ, Option.some.injEq, exists_eq_left', exists_eq_left, List.map_cons, List.map_nil, List.length_cons, List.length_nil, List.replicate_succ, List.replicate_zero, List.cons_append, List.nil_append, List.zip_cons_cons, List.zip_nil_right, List.foldl_cons, List.foldl_nil, Nat.reduceAdd, Nat.reduceSub, true_and, and_true, ↓reduceIte, Bool.false_eq_true, GL.wFld, GL.wMtd, GL.wMake, GL.wSetFld, GL.wLrg, GL.wTrg, GL.q_dictP, GL.wInd, decide_eq_true e1, decide_eq_true e2, Bool.not_true]
        refine ⟨by decide, false, _, rfl, _, in_strs resv, ?_⟩
        have ea : (resv.map (· == x)).any id = resv.any (· == x) := by rw [List.any_map]; rfl
        rw [ea]
        cases hv : resv.any (· == x) with
        | true => exact fin _ (by rw [hv]; rfl) S (Sub.refl S)
        | false =>
          rw [hv] at fin
          rw [if_neg (by decide)]
          intro a ha
          refine lc_sub ha (fun _ _ => trivial) (fun d => if okD d = true then none else some d) (signs x) (le_size (by unfold signs; rw [List.length_map]; exact g.slen)) (fun d hd S1 K1 K2 s1 k1 k2 => ?_) fun S' s' h3 => ?_
          · obtain ⟨c, hc, rfl⟩ := List.mem_map.mp hd
            walk_at "gl"
            show if (!okD (D.str ⟨#[c]⟩)) = true then _ else _
            cases ho : okD (D.str ⟨#[c]⟩) with
            | true => exact k2 S1 (by rw [ho]; rfl) (Sub.refl S1)
            | false => exact k1 _ S1 (by rw [ho]; rfl) (Sub.refl S1)
          · refine ⟨by decide, fun q hq => ⟨_, eq_nil (xs := (signs x).filterMap fun d => if okD d = true then none else some d) (by rw [put_ne (by rintro rfl; rw [h3] at hq; cases hq)]; exact h3) put_same, ?_⟩⟩
            exact fin _ (by rw [fm_empty]; simp) _ (s'.trans (Sub.new hq))
      · have e1 : (0 : Int) < x.length := by omega
        have e2 : ¬ (x.length : Int) < 11 := by omega
        simp only [GL.wB_, GL.wS, GL.wSeq, GL.wRet, GL.w, GL.both, GL.wAndE, GL.wOrE, GL.wSlot, GL.wAs, GL.wCons, GL.wNil, GL.wVal, GL.wB, GL.wCmp, GL.wCmp2, GL.wBin, GL.wUn, GL.wNot, GL.wAnd, GL.wOr, GL.wIfE, GL.wIf, GL.wTup, GL.wLst, GL.wSlc, GL.wNoP, GL.wPart, GL.wO, GL.wC, GL.wI, GL.wG, GL.wGs, GL.wIt, GL.wRange1, GL.wRange2, GL.wEnum, GL.wZip, GL.wgName, GL.wgTup, GL.wgCons, GL.wgNil, GL.wAsg, GL.wDrop, GL.wSkip, GL.wPar, GL.wSetIx, GL.wTru, GL.wFor, GL.wLc, GL.wMth, GL.wCall, GL.wCallK, GL.wPs, GL.wPairs, GL.q_len, GL.q_isi, GL.q_int, GL.q_list, GL.q_tupt, GL.q_tupr, GL.q_all, GL.q_any, GL.q_max2, GL.q_min2, GL.q_sorted, GL.q_stri, GL.q_strs, GL.q_strb, GL.q_repr, GL.q_dict, GL.q_sum, GL.q_addi, GL.q_adds, GL.q_addt, GL.q_addl, GL.q_addb, GL.q_subi, GL.q_subb, GL.q_muls, GL.q_muli, GL.q_divi, GL.q_modi, GL.q_powi, GL.q_negi, GL.q_negb, GL.q_eq, GL.q_ne, GL.q_lti, GL.q_lei, GL.q_gti, GL.q_gei, GL.q_lts, GL.q_ins, GL.q_nins, GL.q_int_, GL.q_inl, GL.q_nint, GL.q_ninl, GL.q_trb, GL.q_tri, GL.q_ixt, GL.q_ixs, GL.q_slt, GL.q_sls, GL.q_revt, GL.ix_lst, GL.q_dct0, GL.ik_non_tup, GL.ik_non_int, GL.ik_non_str, GL.ik_non_lst, GL.ik_non_bl, GL.ik_non_dct, GL.ik_bl_tup, GL.ik_bl_int, GL.ik_bl_str, GL.ik_bl_lst, GL.ik_bl_bl, GL.ik_bl_dct, GL.ik_int_tup, GL.ik_int_int, GL.ik_int_str, GL.ik_int_lst, GL.ik_int_bl, GL.ik_int_dct, GL.ik_str_tup, GL.ik_str_int, GL.ik_str_str, GL.ik_str_lst, GL.ik_str_bl, GL.ik_str_dct, GL.ik_tup_tup, GL.ik_tup_int, GL.ik_tup_str, GL.ik_tup_lst, GL.ik_tup_bl, GL.ik_tup_dct, GL.ik_lst_tup, GL.ik_lst_int, GL.ik_lst_str, GL.ik_lst_lst, GL.ik_lst_bl, GL.ik_lst_dct, GL.ik_dct_tup, GL.ik_dct_int, GL.ik_dct_str, GL.ik_dct_lst, GL.ik_dct_bl, GL.ik_dct_dct, GL.q_st, GL.q_sf, GL.q_lt, List.cons.injEq, GL.at0, GL.at1, GL.at2, GL.q_itt, GL.q_its, GL.q_itr, GL.q_zt, GL.q_zr, GL.srcT, GL.srcL, GL.q_m1, GL.q_m2, GL.q_m3, GL.q_m4, GL.q_m5, GL.q_m6, GL.q_k1, GL.q_k2, GL.q_k3, GL.q_k4, GL.q_k5, exists_and_left, GL.q_ixr, GL.q_ixi, GL.q_setr, GL.q_slr, GL.q_revr, GL.q_kr, GL.q_lr, GL.q_sr, GL.q_vr, GL.put_same, GL.put_put, GL.keyD, GL.wNew, GL.Cell.dct.injEq, GL.Cell.lst.injEq, GL.D.int.injEq, GL.D.str.injEq, GL.D.ref.injEq, GL.D.tup.injEq, reduceCtorEq, false_and, and_false, or_false, false_or, exists_false, exists_const, and_assoc, GL.q_app, GL.q_ext, GL.q_pop, GL.q_get2, GL.q_join, GL.q_upper, GL.GTgs.len, GL.GTg.slots, GL.GTgs.slots, GL.GXs.len, GL.wipeE, List.getElem?_cons_zero, List.getElem?_cons_succ, List.set_cons_zero, List.set_cons_succ, Option.some.injEq, exists_eq_left', exists_eq_left, List.map_cons, List.map_nil, List.length_cons, List.length_nil, List.replicate_succ, List.replicate_zero, List.cons_append, List.nil_append, List.zip_cons_cons, List.zip_nil_right, List.foldl_cons, List.foldl_nil, Nat.reduceAdd, Nat.reduceSub, true_and, and_true, ↓reduceIte, Bool.false_eq_true, GL.wFld, GL.wMtd, GL.wMake, GL.wSetFld, GL.wLrg, GL.wTrg, GL.q_dictP, GL.wInd, decide_eq_true e1, decide_eq_false e2, Bool.not_false]
        exact fin _ (by rw [decide_eq_false h2, Bool.false_and, Bool.and_false]) S (Sub.refl S)
    · have e1 : ¬ (0 : Int) < x.length := by omega
      simp only [GL.wB_, GL.wS, GL.wSeq, GL.wRet, GL.w, GL.both, GL.wAndE, GL.wOrE, GL.wSlot, GL.wAs, GL.wCons, GL.wNil, GL.wVal, GL.wB, GL.wCmp, GL.wCmp2, GL.wBin, GL.wUn, GL.wNot, GL.wAnd, GL.wOr, GL.wIfE, GL.wIf, GL.wTup, GL.wLst, GL.wSlc, GL.wNoP, GL.wPart, GL.wO, GL.wC, GL.wI, GL.wG, GL.wGs, GL.wIt, GL.wRange1, GL.wRange2, GL.wEnum, GL.wZip, GL.wgName, GL.wgTup, GL.wgCons, GL.wgNil, GL.wAsg, GL.wDrop, GL.wSkip, GL.wPar, GL.wSetIx, GL.wTru, GL.wFor, GL.wLc, GL.wMth, GL.wCall, GL.wCallK, GL.wPs, GL.wPairs, GL.q_len, GL.q_isi, GL.q_int, GL.q_list, GL.q_tupt, GL.q_tupr, GL.q_all, GL.q_any, GL.q_max2, GL.q_min2, GL.q_sorted, GL.q_stri, GL.q_strs, GL.q_strb, GL.q_repr, GL.q_dict, GL.q_sum, GL.q_addi, GL.q_adds, GL.q_addt, GL.q_addl, GL.q_addb, GL.q_subi, GL.q_subb, GL.q_muls, GL.q_muli, GL.q_divi, GL.q_modi, GL.q_powi, GL.q_negi, GL.q_negb, GL.q_eq, GL.q_ne, GL.q_lti, GL.q_lei, GL.q_gti, GL.q_gei, GL.q_lts, GL.q_ins, GL.q_nins, GL.q_int_, GL.q_inl, GL.q_nint, GL.q_ninl, GL.q_trb, GL.q_tri, GL.q_ixt, GL.q_ixs, GL.q_slt, GL.q_sls, GL.q_revt, GL.ix_lst, GL.q_dct0, GL.ik_non_tup, GL.ik_non_int, GL.ik_non_str, GL.ik_non_lst, GL.ik_non_bl, GL.ik_non_dct, GL.ik_bl_tup, GL.ik_bl_int, GL.ik_bl_str, GL.ik_bl_lst, GL.ik_bl_bl, GL.ik_bl_dct, GL.ik_int_tup, GL.ik_int_int, GL.ik_int_str, GL.ik_int_lst, GL.ik_int_bl, GL.ik_int_dct, GL.ik_str_tup, GL.ik_str_int, GL.ik_str_str, GL.ik_str_lst, GL.ik_str_bl, GL.ik_str_dct, GL.ik_tup_tup, GL.ik_tup_int, GL.ik_tup_str, GL.ik_tup_lst, GL.ik_tup_bl, GL.ik_tup_dct, GL.ik_lst_tup, GL.ik_lst_int, GL.ik_lst_str, GL.ik_lst_lst, GL.ik_lst_bl, GL.ik_lst_dct, GL.ik_dct_tup, GL.ik_dct_int, GL.ik_dct_str, GL.ik_dct_lst, GL.ik_dct_bl, GL.ik_dct_dct, GL.q_st, GL.q_sf, GL.q_lt, List.cons.injEq, GL.at0, GL.at1, GL.at2, GL.q_itt, GL.q_its, GL.q_itr, GL.q_zt, GL.q_zr, GL.srcT, GL.srcL, GL.q_m1, GL.q_m2, GL.q_m3, GL.q_m4, GL.q_m5, GL.q_m6, GL.q_k1, GL.q_k2, GL.q_k3, GL.q_k4, GL.q_k5, exists_and_left, GL.q_ixr, GL.q_ixi, GL.q_setr, GL.q_slr, GL.q_revr, GL.q_kr, GL.q_lr, GL.q_sr, GL.q_vr, GL.put_same, GL.put_put, GL.keyD, GL.wNew, GL.Cell.dct.injEq, GL.Cell.lst.injEq, GL.D.int.injEq, GL.D.str.injEq, GL.D.ref.injEq, GL.D.tup.injEq, reduceCtorEq, false_and, and_false, or_false, false_or, exists_false, exists_const, and_assoc, GL.q_app, GL.q_ext, GL.q_pop, GL.q_get2, GL.q_join, GL.q_upper, GL.GTgs.len, GL.GTg.slots, GL.GTgs.slots, GL.GXs.len, GL.wipeE, List.getElem?_cons_zero, List.getElem?_cons_succ, List.set_cons_zero, List.set_cons_succ, Option.some.injEq, exists_eq_left', exists_eq_left, List.map_cons, List.map_nil, List.length_cons, List.length_nil, List.replicate_succ, List.replicate_zero, List.cons_append, List.nil_append, List.zip_cons_cons, List.zip_nil_right, List.foldl_cons, List.foldl_nil, Nat.reduceAdd, Nat.reduceSub, true_and, and_true, ↓reduceIte, Bool.false_eq_true, GL.wFld, GL.wMtd, GL.wMake, GL.wSetFld, GL.wLrg, GL.wTrg, GL.q_dictP, GL.wInd, decide_eq_false e1]
      exact fin _ (by rw [decide_eq_false h1, Bool.false_and]) S (Sub.refl S)
  | _ => exact fin false rfl S (Sub.refl S)
end K01
end

-- K01f
section
local macro_rules | `(tactic| walk_at "gl") => `(tactic| simp only [GL.wB_, GL.wS, GL.wSeq, GL.wRet, GL.w, GL.both, GL.wAndE, GL.wOrE, GL.wSlot, GL.wAs, GL.wCons, GL.wNil, GL.wVal, GL.wB, GL.wCmp, GL.wCmp2, GL.wBin, GL.wUn, GL.wNot, GL.wAnd, GL.wOr, GL.wIfE, GL.wIf, GL.wTup, GL.wLst, GL.wSlc, GL.wNoP, GL.wPart, GL.wO, GL.wC, GL.wI, GL.wG, GL.wGs, GL.wIt, GL.wRange1, GL.wRange2, GL.wEnum, GL.wZip, GL.wgName, GL.wgTup, GL.wgCons, GL.wgNil, GL.wAsg, GL.wDrop, GL.wSkip, GL.wPar, GL.wSetIx, GL.wTru, GL.wFor, GL.wLc, GL.wMth, GL.wCall, GL.wCallK, GL.wPs, GL.wPairs, GL.q_len, GL.q_isi, GL.q_int, GL.q_list, GL.q_tupt, GL.q_tupr, GL.q_all, GL.q_any, GL.q_max2, GL.q_min2, GL.q_sorted, GL.q_stri, GL.q_strs, GL.q_strb, GL.q_repr, GL.q_dict, GL.q_sum, GL.q_addi, GL.q_adds, GL.q_addt, GL.q_addl, GL.q_addb, GL.q_subi, GL.q_subb, GL.q_muls, GL.q_muli, GL.q_divi, GL.q_modi, GL.q_powi, GL.q_negi, GL.q_negb, GL.q_eq, GL.q_ne, GL.q_lti, GL.q_lei, GL.q_gti, GL.q_gei, GL.q_lts, GL.q_ins, GL.q_nins, GL.q_int_, GL.q_inl, GL.q_nint, GL.q_ninl, GL.q_trb, GL.q_tri, GL.q_ixt, GL.q_ixs, GL.q_slt, GL.q_sls, GL.q_revt, GL.ix_lst, GL.q_dct0, GL.ik_non_tup, GL.ik_non_int, GL.ik_non_str, GL.ik_non_lst, GL.ik_non_bl, GL.ik_non_dct, GL.ik_bl_tup, GL.ik_bl_int, GL.ik_bl_str, GL.ik_bl_lst, GL.ik_bl_bl, GL.ik_bl_dct, GL.ik_int_tup, GL.ik_int_int, GL.ik_int_str, GL.ik_int_lst, GL.ik_int_bl, GL.ik_int_dct, GL.ik_str_tup, GL.ik_str_int, GL.ik_str_str, GL.ik_str_lst, GL.ik_str_bl, GL.ik_str_dct, GL.ik_tup_tup, GL.ik_tup_int, GL.ik_tup_str, GL.ik_tup_lst, GL.ik_tup_bl, GL.ik_tup_dct, GL.ik_lst_tup, GL.ik_lst_int, GL.ik_lst_str, GL.ik_lst_lst, GL.ik_lst_bl, GL.ik_lst_dct, GL.ik_dct_tup, GL.ik_dct_int, GL.ik_dct_str, GL.ik_dct_lst, GL.ik_dct_bl, GL.ik_dct_dct, GL.q_st, GL.q_sf, GL.q_lt, List.cons.injEq, GL.at0, GL.at1, GL.at2, GL.q_itt, GL.q_its, GL.q_itr, GL.q_zt, GL.q_zr, GL.srcT, GL.srcL, GL.q_m1, GL.q_m2, GL.q_m3, GL.q_m4, GL.q_m5, GL.q_m6, GL.q_k1, GL.q_k2, GL.q_k3, GL.q_k4, GL.q_k5, exists_and_left, GL.q_ixr, GL.q_ixi, GL.q_setr, GL.q_slr, GL.q_revr, GL.q_kr, GL.q_lr, GL.q_sr, GL.q_vr, GL.put_same, GL.put_put, GL.keyD, GL.wNew, GL.Cell.dct.injEq, GL.Cell.lst.injEq, GL.D.int.injEq, GL.D.str.injEq, GL.D.ref.injEq, GL.D.tup.injEq, reduceCtorEq, false_and, and_false, or_false, false_or, exists_false, exists_const, and_assoc, GL.q_app, GL.q_ext, GL.q_pop, GL.q_get2, GL.q_join, GL.q_upper, GL.GTgs.len, GL.GTg.slots, GL.GTgs.slots, GL.GXs.len, GL.wipeE, List.getElem?_cons_zero, List.getElem?_cons_succ, List.set_cons_zero, List.set_cons_succ, Option.some.injEq, exists_eq_left', exists_eq_left, List.map_cons, List.map_nil, List.length_cons, List.length_nil, List.replicate_succ, List.replicate_zero, List.cons_append, List.nil_append, List.zip_cons_cons, List.zip_nil_right, List.foldl_cons, List.foldl_nil, Nat.reduceAdd, Nat.reduceSub, true_and, and_true, ↓reduceIte, Bool.false_eq_true, GL.wFld, GL.wMtd, GL.wMake, GL.wSetFld, GL.wLrg, GL.wTrg, GL.q_dictP, GL.wInd])
local macro_rules | `(tactic| delta $xs* $[$loc]?) => `(tactic| simp only [GL.wB_, GL.wS, GL.wSeq, GL.wRet, GL.w, GL.both, GL.wAndE, GL.wOrE, GL.wSlot, GL.wAs, GL.wCons, GL.wNil, GL.wVal, GL.wB, GL.wCmp, GL.wCmp2, GL.wBin, GL.wUn, GL.wNot, GL.wAnd, GL.wOr, GL.wIfE, GL.wIf, GL.wTup, GL.wLst, GL.wSlc, GL.wNoP, GL.wPart, GL.wO, GL.wC, GL.wI, GL.wG, GL.wGs, GL.wIt, GL.wRange1, GL.wRange2, GL.wEnum, GL.wZip, GL.wgName, GL.wgTup, GL.wgCons, GL.wgNil, GL.wAsg, GL.wDrop, GL.wSkip, GL.wPar, GL.wSetIx, GL.wTru, GL.wFor, GL.wLc, GL.wMth, GL.wCall, GL.wCallK, GL.wPs, GL.wPairs, GL.q_len, GL.q_isi, GL.q_int, GL.q_list, GL.q_tupt, GL.q_tupr, GL.q_all, GL.q_any, GL.q_max2, GL.q_min2, GL.q_sorted, GL.q_stri, GL.q_strs, GL.q_strb, GL.q_repr, GL.q_dict, GL.q_sum, GL.q_addi, GL.q_adds, GL.q_addt, GL.q_addl, GL.q_addb, GL.q_subi, GL.q_subb, GL.q_muls, GL.q_muli, GL.q_divi, GL.q_modi, GL.q_powi, GL.q_negi, GL.q_negb, GL.q_eq, GL.q_ne, GL.q_lti, GL.q_lei, GL.q_gti, GL.q_gei, GL.q_lts, GL.q_ins, GL.q_nins, GL.q_int_, GL.q_inl, GL.q_nint, GL.q_ninl, GL.q_trb, GL.q_tri, GL.q_ixt, GL.q_ixs, GL.q_slt, GL.q_sls, GL.q_revt, GL.ix_lst, GL.q_dct0, GL.ik_non_tup, GL.ik_non_int, GL.ik_non_str, GL.ik_non_lst, GL.ik_non_bl, GL.ik_non_dct, GL.ik_bl_tup, GL.ik_bl_int, GL.ik_bl_str, GL.ik_bl_lst, GL.ik_bl_bl, GL.ik_bl_dct, GL.ik_int_tup, GL.ik_int_int, GL.ik_int_str, GL.ik_int_lst, GL.ik_int_bl, GL.ik_int_dct, GL.ik_str_tup, GL.ik_str_int, GL.ik_str_str, GL.ik_str_lst, GL.ik_str_bl, GL.ik_str_dct, GL.ik_tup_tup, GL.ik_tup_int, GL.ik_tup_str, GL.ik_tup_lst, GL.ik_tup_bl, GL.ik_tup_dct, GL.ik_lst_tup, GL.ik_lst_int, GL.ik_lst_str, GL.ik_lst_lst, GL.ik_lst_bl, GL.ik_lst_dct, GL.ik_dct_tup, GL.ik_dct_int, GL.ik_dct_str, GL.ik_dct_lst, GL.ik_dct_bl, GL.ik_dct_dct, GL.q_st, GL.q_sf, GL.q_lt, List.cons.injEq, GL.at0, GL.at1, GL.at2, GL.q_itt, GL.q_its, GL.q_itr, GL.q_zt, GL.q_zr, GL.srcT, GL.srcL, GL.q_m1, GL.q_m2, GL.q_m3, GL.q_m4, GL.q_m5, GL.q_m6, GL.q_k1, GL.q_k2, GL.q_k3, GL.q_k4, GL.q_k5, exists_and_left, GL.q_ixr, GL.q_ixi, GL.q_setr, GL.q_slr, GL.q_revr, GL.q_kr, GL.q_lr, GL.q_sr, GL.q_vr, GL.put_same, GL.put_put, GL.keyD, GL.wNew, GL.Cell.dct.injEq, GL.Cell.lst.injEq, GL.D.int.injEq, GL.D.str.injEq, GL.D.ref.injEq, GL.D.tup.injEq, reduceCtorEq, false_and, and_false, or_false, false_or, exists_false, exists_const, and_assoc, GL.q_app, GL.q_ext, GL.q_pop, GL.q_get2, GL.q_join, GL.q_upper, GL.GTgs.len, GL.GTg.slots, GL.GTgs.slots, GL.GXs.len, GL.wipeE, List.getElem?_cons_zero, List.getElem?_cons_succ, List.set_cons_zero, List.set_cons_succ, Option.some.injEq, exists_eq_left', exists_eq_left, List.map_cons, List.map_nil, List.length_cons, List.length_nil, List.replicate_succ, List.replicate_zero, List.cons_append, List.nil_append, List.zip_cons_cons, List.zip_nil_right, List.foldl_cons, List.foldl_nil, Nat.reduceAdd, Nat.reduceSub, true_and, and_true, ↓reduceIte, Bool.false_eq_true, GL.wFld, GL.wMtd, GL.wMake, GL.wSetFld, GL.wLrg, GL.wTrg, GL.q_dictP, GL.wInd, $[$xs:ident],*] $[$loc]?)
namespace K01
open PySem GL
mutual
def nd : D → Nat
  | .tup ds => nds ds + 1
  | _ => 1
def nds : List D → Nat
  | [] => 0
  | d :: ds => nd d + nds ds
end
theorem nd_pos (d : D) : 1 ≤ nd d := by cases d <;> simp only [nd] <;> omega
theorem nds_app : ∀ xs ys : List D, nds (xs ++ ys) = nds xs + nds ys
  | [], ys => by rw [List.nil_append, nds, Nat.zero_add]
  | x :: xs, ys => by rw [List.cons_append, nds, nds, nds_app xs ys]; omega
theorem len_nds : ∀ ds : List D, ds.length ≤ nds ds
  | [] => Nat.le_refl _
  | d :: ds => by rw [nds, List.length_cons]; have := nd_pos d; have := len_nds ds; omega
theorem nds_zero {ds : List D} (h : nds ds ≤ 0) : ds = [] := by
  cases ds with
  | nil => rfl
  | cons d ds => rw [nds] at h; have := nd_pos d; omega
mutual
theorem nd_le {F : Addr → Prop} {S : Store} {L : Nat} : ∀ {h c : Nat} {d : D}, Gv F S L h c d → nd d ≤ c
  | _, _, _, .non q => by rw [nd]; exact q; simp
  | _, _, _, .bl q => by rw [nd]; exact q; simp
  | _, _, _, .int _ q => by rw [nd]; exact q; simp
  | _, _, _, .str _ q => by rw [nd]; exact q; simp
  | _, _, _, .tup q r => by rw [nd]; have := nds_le q; omega
  | _, _, _, .lst _ _ _ q => by rw [nd]; omega; simp
  | _, _, _, .emp _ _ q => by rw [nd]; exact q; simp
theorem nds_le {F : Addr → Prop} {S : Store} {L : Nat} : ∀ {h c : Nat} {ds : List D}, Gvs F S L h c ds → nds ds ≤ c
  | _, _, _, .nil => Nat.zero_le _
  | _, _, _, .cons p q r => by rw [nds]; have := nd_le p; have := nds_le q; omega
end
def cLcon : GC0 := fun args S Q => ∃ d, args = [d] ∧ KG S d ∧ nd d ≤ 4000 ∧ ∀ S', Sub S S' → Q (.bl (isCon d)) S'
def arities : List (L2.Key × D) := [(.inr "all", .int 1), (.inr "none", .int 1), (.inr "word", .int 2), (.inr "and", .int 3), (.inr "some", .int 3)]
theorem l_all_all : (("all" : Str) == "all") = true := by decide +kernel
theorem l_all_none : (("all" : Str) == "none") = false := by decide +kernel
theorem l_all_word : (("all" : Str) == "word") = false := by decide +kernel
theorem l_all_and : (("all" : Str) == "and") = false := by decide +kernel
theorem l_all_some : (("all" : Str) == "some") = false := by decide +kernel
theorem l_none_all : (("none" : Str) == "all") = false := by decide +kernel
theorem l_none_none : (("none" : Str) == "none") = true := by decide +kernel
theorem l_none_word : (("none" : Str) == "word") = false := by decide +kernel
theorem l_none_and : (("none" : Str) == "and") = false := by decide +kernel
theorem l_none_some : (("none" : Str) == "some") = false := by decide +kernel
theorem l_word_all : (("word" : Str) == "all") = false := by decide +kernel
theorem l_word_none : (("word" : Str) == "none") = false := by decide +kernel
theorem l_word_word : (("word" : Str) == "word") = true := by decide +kernel
theorem l_word_and : (("word" : Str) == "and") = false := by decide +kernel
theorem l_word_some : (("word" : Str) == "some") = false := by decide +kernel
theorem l_and_all : (("and" : Str) == "all") = false := by decide +kernel
theorem l_and_none : (("and" : Str) == "none") = false := by decide +kernel
theorem l_and_word : (("and" : Str) == "word") = false := by decide +kernel
theorem l_and_and : (("and" : Str) == "and") = true := by decide +kernel
theorem l_and_some : (("and" : Str) == "some") = false := by decide +kernel
theorem l_some_all : (("some" : Str) == "all") = false := by decide +kernel
theorem l_some_none : (("some" : Str) == "none") = false := by decide +kernel
theorem l_some_word : (("some" : Str) == "word") = false := by decide +kernel
theorem l_some_and : (("some" : Str) == "and") = false := by decide +kernel
theorem l_some_some : (("some" : Str) == "some") = true := by decide +kernel
theorem con_all {xs : List D} : isCon (.tup (.str "all" :: xs)) = xs.isEmpty := by
  match xs with
  | [] => simp [con_1, l_all_all, l_all_none, l_all_word, l_all_and, l_all_some, l_none_all, l_none_none, l_none_word, l_none_and, l_none_some, l_word_all, l_word_none, l_word_word, l_word_and, l_word_some, l_and_all, l_and_none, l_and_word, l_and_and, l_and_some, l_some_all, l_some_none, l_some_word, l_some_and, l_some_some]
  | [y] => simp [con_2, l_all_all, l_all_none, l_all_word, l_all_and, l_all_some, l_none_all, l_none_none, l_none_word, l_none_and, l_none_some, l_word_all, l_word_none, l_word_word, l_word_and, l_word_some, l_and_all, l_and_none, l_and_word, l_and_and, l_and_some, l_some_all, l_some_none, l_some_word, l_some_and, l_some_some]
  | [y, z] => simp [con_3, l_all_all, l_all_none, l_all_word, l_all_and, l_all_some, l_none_all, l_none_none, l_none_word, l_none_and, l_none_some, l_word_all, l_word_none, l_word_word, l_word_and, l_word_some, l_and_all, l_and_none, l_and_word, l_and_and, l_and_some, l_some_all, l_some_none, l_some_word, l_some_and, l_some_some]
  | _ :: _ :: _ :: _ => simp [isCon]
theorem con_none {xs : List D} : isCon (.tup (.str "none" :: xs)) = xs.isEmpty := by
  match xs with
  | [] => simp [con_1, l_all_all, l_all_none, l_all_word, l_all_and, l_all_some, l_none_all, l_none_none, l_none_word, l_none_and, l_none_some, l_word_all, l_word_none, l_word_word, l_word_and, l_word_some, l_and_all, l_and_none, l_and_word, l_and_and, l_and_some, l_some_all, l_some_none, l_some_word, l_some_and, l_some_some]
  | [y] => simp [con_2, l_all_all, l_all_none, l_all_word, l_all_and, l_all_some, l_none_all, l_none_none, l_none_word, l_none_and, l_none_some, l_word_all, l_word_none, l_word_word, l_word_and, l_word_some, l_and_all, l_and_none, l_and_word, l_and_and, l_and_some, l_some_all, l_some_none, l_some_word, l_some_and, l_some_some]
  | [y, z] => simp [con_3, l_all_all, l_all_none, l_all_word, l_all_and, l_all_some, l_none_all, l_none_none, l_none_word, l_none_and, l_none_some, l_word_all, l_word_none, l_word_word, l_word_and, l_word_some, l_and_all, l_and_none, l_and_word, l_and_and, l_and_some, l_some_all, l_some_none, l_some_word, l_some_and, l_some_some]
  | _ :: _ :: _ :: _ => simp [isCon]
theorem con_word {xs : List D} : isCon (.tup (.str "word" :: xs)) = match xs with
    | [y] => isWord y
    | _ => false := by
  match xs with
  | [] => simp [con_1, l_all_all, l_all_none, l_all_word, l_all_and, l_all_some, l_none_all, l_none_none, l_none_word, l_none_and, l_none_some, l_word_all, l_word_none, l_word_word, l_word_and, l_word_some, l_and_all, l_and_none, l_and_word, l_and_and, l_and_some, l_some_all, l_some_none, l_some_word, l_some_and, l_some_some]
  | [y] => simp [con_2, l_all_all, l_all_none, l_all_word, l_all_and, l_all_some, l_none_all, l_none_none, l_none_word, l_none_and, l_none_some, l_word_all, l_word_none, l_word_word, l_word_and, l_word_some, l_and_all, l_and_none, l_and_word, l_and_and, l_and_some, l_some_all, l_some_none, l_some_word, l_some_and, l_some_some]
  | [y, z] => simp [con_3, l_all_all, l_all_none, l_all_word, l_all_and, l_all_some, l_none_all, l_none_none, l_none_word, l_none_and, l_none_some, l_word_all, l_word_none, l_word_word, l_word_and, l_word_some, l_and_all, l_and_none, l_and_word, l_and_and, l_and_some, l_some_all, l_some_none, l_some_word, l_some_and, l_some_some]
  | _ :: _ :: _ :: _ => simp [isCon]
theorem con_and {xs : List D} : isCon (.tup (.str "and" :: xs)) = match xs with
    | [y, z] => isCon y && isCon z
    | _ => false := by
  match xs with
  | [] => simp [con_1, l_all_all, l_all_none, l_all_word, l_all_and, l_all_some, l_none_all, l_none_none, l_none_word, l_none_and, l_none_some, l_word_all, l_word_none, l_word_word, l_word_and, l_word_some, l_and_all, l_and_none, l_and_word, l_and_and, l_and_some, l_some_all, l_some_none, l_some_word, l_some_and, l_some_some]
  | [y] => simp [con_2, l_all_all, l_all_none, l_all_word, l_all_and, l_all_some, l_none_all, l_none_none, l_none_word, l_none_and, l_none_some, l_word_all, l_word_none, l_word_word, l_word_and, l_word_some, l_and_all, l_and_none, l_and_word, l_and_and, l_and_some, l_some_all, l_some_none, l_some_word, l_some_and, l_some_some]
  | [y, z] => simp [con_3, l_all_all, l_all_none, l_all_word, l_all_and, l_all_some, l_none_all, l_none_none, l_none_word, l_none_and, l_none_some, l_word_all, l_word_none, l_word_word, l_word_and, l_word_some, l_and_all, l_and_none, l_and_word, l_and_and, l_and_some, l_some_all, l_some_none, l_some_word, l_some_and, l_some_some]
  | _ :: _ :: _ :: _ => simp [isCon]
theorem con_some {xs : List D} : isCon (.tup (.str "some" :: xs)) = match xs with
    | [y, z] => isWord y && isCon z
    | _ => false := by
  match xs with
  | [] => simp [con_1, l_all_all, l_all_none, l_all_word, l_all_and, l_all_some, l_none_all, l_none_none, l_none_word, l_none_and, l_none_some, l_word_all, l_word_none, l_word_word, l_word_and, l_word_some, l_and_all, l_and_none, l_and_word, l_and_and, l_and_some, l_some_all, l_some_none, l_some_word, l_some_and, l_some_some]
  | [y] => simp [con_2, l_all_all, l_all_none, l_all_word, l_all_and, l_all_some, l_none_all, l_none_none, l_none_word, l_none_and, l_none_some, l_word_all, l_word_none, l_word_word, l_word_and, l_word_some, l_and_all, l_and_none, l_and_word, l_and_and, l_and_some, l_some_all, l_some_none, l_some_word, l_some_and, l_some_some]
  | [y, z] => simp [con_3, l_all_all, l_all_none, l_all_word, l_all_and, l_all_some, l_none_all, l_none_none, l_none_word, l_none_and, l_none_some, l_word_all, l_word_none, l_word_word, l_word_and, l_word_some, l_and_all, l_and_none, l_and_word, l_and_and, l_and_some, l_some_all, l_some_none, l_some_word, l_some_and, l_some_some]
  | _ :: _ :: _ :: _ => simp [isCon]
theorem con_other {w : Str} {xs : List D} (h1 : (w == "all") = false) (h2 : (w == "none") = false) (h3 : (w == "word") = false) (h4 : (w == "and") = false) (h5 : (w == "some") = false) : isCon (.tup (.str w :: xs)) = false := by
  match xs with
  | [] => rw [con_1, h1, h2]; rfl
  | [y] => rw [con_2, h3]; rfl
  | [y, z] => rw [con_3, h4, h5]; rfl
  | _ :: _ :: _ :: _ => simp [isCon]
theorem ar_none {w : Str} (h1 : (w == "all") = false) (h2 : (w == "none") = false) (h3 : (w == "word") = false) (h4 : (w == "and") = false) (h5 : (w == "some") = false) : valD arities (.inr w) = none := by
  have f : ∀ v : Str, (w == v) = false → decide ((Sum.inr v : L2.Key) = .inr w) = false := fun v hv => decide_eq_false fun e => by
    injection e with e; rw [e] at hv; simp at hv
  simp only [valD, arities, List.find?_cons, f _ h1, f _ h2, f _ h3, f _ h4, f _ h5, List.find?_nil, Option.map_none]

end K01
end

-- GU
section
namespace GL
open PySem PySem.Spec
/-! ### sorted(set(..)): the one strictly rising row -/
def ltS (a b : Str) : Prop := a.cps.toList < b.cps.toList
theorem rise_one {α : Type} {lt : α → α → Prop} (irr : ∀ a, ¬ lt a a) (tr : ∀ a b c, lt a b → lt b c → lt a c) : ∀ xs ys : List α, xs.Pairwise lt → ys.Pairwise lt → (∀ x, x ∈ xs ↔ x ∈ ys) → xs = ys
  | [], [], _, _, _ => rfl
  | [], y :: ys, _, _, h => absurd ((h y).2 (List.mem_cons_self ..)) (by simp)
  | x :: xs, [], _, _, h => absurd ((h x).1 (List.mem_cons_self ..)) (by simp)
  | x :: xs, y :: ys, hx, hy, h => by
    obtain ⟨x1, x2⟩ := List.pairwise_cons.mp hx
    obtain ⟨y1, y2⟩ := List.pairwise_cons.mp hy
    have e : x = y := by
      rcases List.mem_cons.mp ((h x).1 (List.mem_cons_self ..)) with e | e
      · exact e
      · rcases List.mem_cons.mp ((h y).2 (List.mem_cons_self ..)) with e' | e'
        · exact e'.symm
        · exact absurd (tr _ _ _ (x1 y e') (y1 x e)) (irr x)
    subst e
    have t : ∀ z, z ∈ xs ↔ z ∈ ys := fun z => by
      constructor
      · intro hz
        rcases List.mem_cons.mp ((h z).1 (List.mem_cons_of_mem _ hz)) with e | e
        · subst e; exact absurd (x1 _ hz) (irr _)
        · exact e
      · intro hz
        rcases List.mem_cons.mp ((h z).2 (List.mem_cons_of_mem _ hz)) with e | e
        · subst e; exact absurd (y1 _ hz) (irr _)
        · exact e
    rw [rise_one irr tr xs ys x2 y2 t]
theorem ltS_irr (a : Str) : ¬ ltS a a := List.lt_irrefl _
theorem ltS_tr (a b c : Str) (h : ltS a b) (k : ltS b c) : ltS a c := List.lt_trans h k
theorem str_eq_of {a b : Str} (h : a.cps.toList = b.cps.toList) : a = b := PySem.W.str_of_cps h
theorem pw_strict {α β : Type} {r : α → α → Prop} {f : α → β} {l : List α} (h : l.Pairwise r) (nd : l.Nodup) {lt : α → α → Prop} (k : ∀ a b, r a b → a ≠ b → lt a b) : l.Pairwise lt := by
  induction l with
  | nil => exact .nil
  | cons a l ih =>
    (obtain ⟨h1, h2⟩ := List.pairwise_cons.mp h)
    (obtain ⟨n1, n2⟩ := List.nodup_cons.mp nd)
    exact List.pairwise_cons.mpr ⟨fun b hb => k a b (h1 b hb) (by rintro rfl; exact n1 hb), ih h2 n2⟩
theorem keys_inr : ∀ (us : List L2.Key), (∀ k ∈ us, ∃ x, k = .inr x) → ∃ vs : List Str, us = vs.map Sum.inr
  | [], _ => ⟨[], rfl⟩
  | k :: us, h => by
    obtain ⟨x, rfl⟩ := h k (List.mem_cons_self ..)
    obtain ⟨vs, e⟩ := keys_inr us fun k hk => h k (List.mem_cons_of_mem _ hk)
    exact ⟨x :: vs, by rw [e]; rfl⟩
theorem keys_inl : ∀ (us : List L2.Key), (∀ k ∈ us, ∃ x, k = .inl x) → ∃ vs : List Int, us = vs.map Sum.inl
  | [], _ => ⟨[], rfl⟩
  | k :: us, h => by
    obtain ⟨x, rfl⟩ := h k (List.mem_cons_self ..)
    obtain ⟨vs, e⟩ := keys_inl us fun k hk => h k (List.mem_cons_of_mem _ hk)
    exact ⟨x :: vs, by rw [e]; rfl⟩
theorem leS_str (k : Str) (k' : Str) : PySem.W.dataLe false (fun b : Str => PyData.str b) k k' = decide (k.cps.toList ≤ k'.cps.toList) := congrFun (congrFun (PySem.W.dataLe_str (β := Str) fun b => b) k) k'
theorem leS_int (k : Int) (k' : Int) : PySem.W.dataLe false (fun b : Int => PyData.int b) k k' = decide (k ≤ k') := congrFun (congrFun (PySem.W.dataLe_int (β := Int) fun b => b) k) k'
theorem nodup_of_map {α β : Type} (f : α → β) : ∀ {l : List α}, (l.map f).Nodup → l.Nodup
  | [], _ => .nil
  | a :: l, h => by
    (rw [List.map_cons, List.nodup_cons] at h)
    exact List.nodup_cons.mpr ⟨fun m => h.1 (List.mem_map_of_mem m), nodup_of_map f h.2⟩
theorem leK_str (a b : Str) : PySem.W.dataLe false kP (Sum.inr a) (Sum.inr b) = decide (a.cps.toList ≤ b.cps.toList) := leS_str a b
theorem leK_int (a b : Int) : PySem.W.dataLe false kP (Sum.inl a) (Sum.inl b) = decide (a ≤ b) := leS_int a b
theorem sset_strs {d : D} {S : Store} {Q : GQ} {xs : List Str} (hd : seqD S d = some (xs.map D.str)) (few : xs.length ≤ 4000)
    (h : ∀ ys : List Str, ys.Pairwise ltS → (∀ x, x ∈ ys ↔ x ∈ xs) → wNew (.lst (ys.map D.str)) S Q) : ssetD d S Q := by
  refine .inl ⟨xs.map Sum.inr, ?_, by rw [List.length_map]; exact Nat.lt_of_le_of_lt (m := 4001) (by omega) (by decide), .inl fun k hk => ?_, fun us nd hm => ?_⟩
  · rw [hd, List.map_map]; rfl
  · obtain ⟨x, _, rfl⟩ := List.mem_map.mp hk
    exact ⟨x, rfl⟩
  · obtain ⟨vs, rfl⟩ := keys_inr us fun k hk => by
      obtain ⟨x, _, rfl⟩ := List.mem_map.mp ((hm k).1 hk)
      exact ⟨x, rfl⟩
    have ndv : vs.Nodup := nodup_of_map _ nd
    have es : (vs.map (Sum.inr : Str → L2.Key)).mergeSort (PySem.W.dataLe false kP) = (vs.mergeSort fun a b => decide (a.cps.toList ≤ b.cps.toList)).map Sum.inr :=
      (List.map_mergeSort (f := (Sum.inr : Str → L2.Key)) (s := PySem.W.dataLe false kP) fun a _ b _ => (leK_str a b).symm).symm
    rw [es, List.map_map]
    have pm : (vs.mergeSort fun a b : Str => decide (a.cps.toList ≤ b.cps.toList)).Perm vs := List.mergeSort_perm ..
    refine h _ ?_ fun x => ?_
    · have so : (vs.mergeSort fun a b : Str => decide (a.cps.toList ≤ b.cps.toList)).Pairwise fun a b => decide (a.cps.toList ≤ b.cps.toList) = true :=
        List.pairwise_mergeSort (fun a b c h1 h2 => by
          simp only [decide_eq_true_eq] at h1 h2 ⊢
          exact List.le_trans h1 h2) (fun a b => by
          simp only [Bool.or_eq_true, decide_eq_true_eq]
          exact List.le_total _ _) vs
      refine pw_strict (f := id) so (pm.nodup_iff.mpr ndv) fun a b h1 h2 => ?_
      simp only [decide_eq_true_eq] at h1
      rcases Classical.em (a.cps.toList < b.cps.toList) with c | c
      · exact c
      · exact absurd (str_eq_of (List.le_antisymm h1 (List.not_lt.mp c))) h2
    · rw [pm.mem_iff]
      constructor
      · intro hx
        have := (hm (.inr x)).1 (List.mem_map_of_mem hx)
        obtain ⟨y, hy, e⟩ := List.mem_map.mp this
        cases e; exact hy
      · intro hx
        have := (hm (.inr x)).2 (List.mem_map_of_mem hx)
        obtain ⟨y, hy, e⟩ := List.mem_map.mp this
        cases e; exact hy
theorem sset_ints {d : D} {S : Store} {Q : GQ} {xs : List Int} (hd : seqD S d = some (xs.map D.int)) (few : xs.length ≤ 4000)
    (h : ∀ ys : List Int, ys.Pairwise (· < ·) → (∀ x, x ∈ ys ↔ x ∈ xs) → wNew (.lst (ys.map D.int)) S Q) : ssetD d S Q := by
  refine .inl ⟨xs.map Sum.inl, ?_, by rw [List.length_map]; exact Nat.lt_of_le_of_lt (m := 4001) (by omega) (by decide), .inr fun k hk => ?_, fun us nd hm => ?_⟩
  · rw [hd, List.map_map]; rfl
  · obtain ⟨x, _, rfl⟩ := List.mem_map.mp hk
    exact ⟨x, rfl⟩
  · obtain ⟨vs, rfl⟩ := keys_inl us fun k hk => by
      obtain ⟨x, _, rfl⟩ := List.mem_map.mp ((hm k).1 hk)
      exact ⟨x, rfl⟩
    have ndv : vs.Nodup := nodup_of_map _ nd
    have es : (vs.map (Sum.inl : Int → L2.Key)).mergeSort (PySem.W.dataLe false kP) = (vs.mergeSort fun a b => decide (a ≤ b)).map Sum.inl :=
      (List.map_mergeSort (f := (Sum.inl : Int → L2.Key)) (s := PySem.W.dataLe false kP) fun a _ b _ => (leK_int a b).symm).symm
    rw [es, List.map_map]
    have pm : (vs.mergeSort fun a b : Int => decide (a ≤ b)).Perm vs := List.mergeSort_perm ..
    refine h _ ?_ fun x => ?_
    · have so : (vs.mergeSort fun a b : Int => decide (a ≤ b)).Pairwise fun a b => decide (a ≤ b) = true :=
        List.pairwise_mergeSort (fun a b c h1 h2 => by
          simp only [decide_eq_true_eq] at h1 h2 ⊢
          omega) (fun a b => by
          simp only [Bool.or_eq_true, decide_eq_true_eq]
          omega) vs
      refine pw_strict (f := id) so (pm.nodup_iff.mpr ndv) fun a b h1 h2 => ?_
      simp only [decide_eq_true_eq] at h1
      omega
    · rw [pm.mem_iff]
      constructor
      · intro hx
        have := (hm (.inl x)).1 (List.mem_map_of_mem hx)
        obtain ⟨y, hy, e⟩ := List.mem_map.mp this
        cases e; exact hy
      · intro hx
        have := (hm (.inl x)).2 (List.mem_map_of_mem hx)
        obtain ⟨y, hy, e⟩ := List.mem_map.mp this
        cases e; exact hy
/-- two lists of texts, alike or not -/
theorem mapM_pairs {S : Store} {n : Nat} : ∀ (xs ys : List Str), ((xs.map D.str).zip (ys.map D.str)).mapM (fun p => eqF S (n + 1) p.1 p.2) = some ((xs.zip ys).map fun p => p.1 == p.2)
  | [], _ => rfl
  | _ :: _, [] => rfl
  | x :: xs, y :: ys => by
    rw [List.map_cons, List.map_cons, List.zip_cons_cons, List.mapM_cons, mapM_pairs xs ys]
    rfl
theorem zip_all : ∀ (xs ys : List Str), (((xs.zip ys).map fun p => p.1 == p.2).all id && xs.length == ys.length) = decide (xs = ys)
  | [], [] => rfl
  | [], _ :: _ => by simp
  | _ :: _, [] => by simp
  | x :: xs, y :: ys => by
    have ih := zip_all xs ys
    rw [List.zip_cons_cons, List.map_cons, List.all_cons, List.length_cons, List.length_cons]
    have e : (xs.length + 1 == ys.length + 1) = (xs.length == ys.length) := by simp [Nat.beq_eq]
    rw [e, Bool.and_assoc, ih]
    by_cases h : x = y
    · subst h; simp
    · simp [h]
theorem eq_lists {S : Store} {p q : Addr} {xs ys : List Str} {n : Nat} (h : S p = some (.lst (xs.map D.str))) (h' : S q = some (.lst (ys.map D.str))) : eqT (eqF S (n + 1)) S (.ref p) (.ref q) = some (decide (xs = ys)) := by
  simp only [eqT, vw, h, h', if_pos, List.length_map, true_and]
  split
  · rename_i hl
    have : ¬ xs = ys := fun e => hl (by rw [e])
    simp [this]
  · rw [mapM_pairs, Option.map_some, zip_all]
end GL
end

-- V5d
section
local macro_rules | `(tactic| walk_at "gl") => `(tactic| simp only [GL.wB_, GL.wS, GL.wSeq, GL.wRet, GL.w, GL.both, GL.wAndE, GL.wOrE, GL.wSlot, GL.wAs, GL.wCons, GL.wNil, GL.wVal, GL.wB, GL.wCmp, GL.wCmp2, GL.wBin, GL.wUn, GL.wNot, GL.wAnd, GL.wOr, GL.wIfE, GL.wIf, GL.wTup, GL.wLst, GL.wSlc, GL.wNoP, GL.wPart, GL.wO, GL.wC, GL.wI, GL.wG, GL.wGs, GL.wIt, GL.wRange1, GL.wRange2, GL.wEnum, GL.wZip, GL.wgName, GL.wgTup, GL.wgCons, GL.wgNil, GL.wAsg, GL.wDrop, GL.wSkip, GL.wPar, GL.wSetIx, GL.wTru, GL.wFor, GL.wLc, GL.wMth, GL.wCall, GL.wCallK, GL.wPs, GL.wPairs, GL.q_len, GL.q_isi, GL.q_int, GL.q_list, GL.q_tupt, GL.q_tupr, GL.q_all, GL.q_any, GL.q_max2, GL.q_min2, GL.q_sorted, GL.q_stri, GL.q_strs, GL.q_strb, GL.q_repr, GL.q_dict, GL.q_sum, GL.q_addi, GL.q_adds, GL.q_addt, GL.q_addl, GL.q_addb, GL.q_subi, GL.q_subb, GL.q_muls, GL.q_muli, GL.q_divi, GL.q_modi, GL.q_powi, GL.q_negi, GL.q_negb, GL.q_eq, GL.q_ne, GL.q_lti, GL.q_lei, GL.q_gti, GL.q_gei, GL.q_lts, GL.q_ins, GL.q_nins, GL.q_int_, GL.q_inl, GL.q_nint, GL.q_ninl, GL.q_trb, GL.q_tri, GL.q_ixt, GL.q_ixs, GL.q_slt, GL.q_sls, GL.q_revt, GL.ix_lst, GL.q_dct0, GL.ik_non_tup, GL.ik_non_int, GL.ik_non_str, GL.ik_non_lst, GL.ik_non_bl, GL.ik_non_dct, GL.ik_bl_tup, GL.ik_bl_int, GL.ik_bl_str, GL.ik_bl_lst, GL.ik_bl_bl, GL.ik_bl_dct, GL.ik_int_tup, GL.ik_int_int, GL.ik_int_str, GL.ik_int_lst, GL.ik_int_bl, GL.ik_int_dct, GL.ik_str_tup, GL.ik_str_int, GL.ik_str_str, GL.ik_str_lst, GL.ik_str_bl, GL.ik_str_dct, GL.ik_tup_tup, GL.ik_tup_int, GL.ik_tup_str, GL.ik_tup_lst, GL.ik_tup_bl, GL.ik_tup_dct, GL.ik_lst_tup, GL.ik_lst_int, GL.ik_lst_str, GL.ik_lst_lst, GL.ik_lst_bl, GL.ik_lst_dct, GL.ik_dct_tup, GL.ik_dct_int, GL.ik_dct_str, GL.ik_dct_lst, GL.ik_dct_bl, GL.ik_dct_dct, GL.q_st, GL.q_sf, GL.q_lt, List.cons.injEq, GL.at0, GL.at1, GL.at2, GL.q_itt, GL.q_its, GL.q_itr, GL.q_zt, GL.q_zr, GL.srcT, GL.srcL, GL.q_m1, GL.q_m2, GL.q_m3, GL.q_m4, GL.q_m5, GL.q_m6, GL.q_k1, GL.q_k2, GL.q_k3, GL.q_k4, GL.q_k5, exists_and_left, GL.q_ixr, GL.q_ixi, GL.q_setr, GL.q_slr, GL.q_revr, GL.q_kr, GL.q_lr, GL.q_sr, GL.q_vr, GL.put_same, GL.put_put, GL.keyD, GL.wNew, GL.Cell.dct.injEq, GL.Cell.lst.injEq, GL.D.int.injEq, GL.D.str.injEq, GL.D.ref.injEq, GL.D.tup.injEq, reduceCtorEq, false_and, and_false, or_false, false_or, exists_false, exists_const, and_assoc, GL.q_app, GL.q_ext, GL.q_pop, GL.q_get2, GL.q_join, GL.q_upper, GL.GTgs.len, GL.GTg.slots, GL.GTgs.slots, GL.GXs.len, GL.wipeE, List.getElem?_cons_zero, List.getElem?_cons_succ, List.set_cons_zero, List.set_cons_succ, Option.some.injEq, exists_eq_left', exists_eq_left, List.map_cons, List.map_nil, List.length_cons, List.length_nil, List.replicate_succ, List.replicate_zero, List.cons_append, List.nil_append, List.zip_cons_cons, List.zip_nil_right, List.foldl_cons, List.foldl_nil, Nat.reduceAdd, Nat.reduceSub, true_and, and_true, ↓reduceIte, Bool.false_eq_true, GL.wFld, GL.wMtd, GL.wMake, GL.wSetFld, GL.wLrg, GL.wTrg, GL.q_dictP, GL.wInd])
local macro_rules | `(tactic| delta $xs* $[$loc]?) => `(tactic| simp only [GL.wB_, GL.wS, GL.wSeq, GL.wRet, GL.w, GL.both, GL.wAndE, GL.wOrE, GL.wSlot, GL.wAs, GL.wCons, GL.wNil, GL.wVal, GL.wB, GL.wCmp, GL.wCmp2, GL.wBin, GL.wUn, GL.wNot, GL.wAnd, GL.wOr, GL.wIfE, GL.wIf, GL.wTup, GL.wLst, GL.wSlc, GL.wNoP, GL.wPart, GL.wO, GL.wC, GL.wI, GL.wG, GL.wGs, GL.wIt, GL.wRange1, GL.wRange2, GL.wEnum, GL.wZip, GL.wgName, GL.wgTup, GL.wgCons, GL.wgNil, GL.wAsg, GL.wDrop, GL.wSkip, GL.wPar, GL.wSetIx, GL.wTru, GL.wFor, GL.wLc, GL.wMth, GL.wCall, GL.wCallK, GL.wPs, GL.wPairs, GL.q_len, GL.q_isi, GL.q_int, GL.q_list, GL.q_tupt, GL.q_tupr, GL.q_all, GL.q_any, GL.q_max2, GL.q_min2, GL.q_sorted, GL.q_stri, GL.q_strs, GL.q_strb, GL.q_repr, GL.q_dict, GL.q_sum, GL.q_addi, GL.q_adds, GL.q_addt, GL.q_addl, GL.q_addb, GL.q_subi, GL.q_subb, GL.q_muls, GL.q_muli, GL.q_divi, GL.q_modi, GL.q_powi, GL.q_negi, GL.q_negb, GL.q_eq, GL.q_ne, GL.q_lti, GL.q_lei, GL.q_gti, GL.q_gei, GL.q_lts, GL.q_ins, GL.q_nins, GL.q_int_, GL.q_inl, GL.q_nint, GL.q_ninl, GL.q_trb, GL.q_tri, GL.q_ixt, GL.q_ixs, GL.q_slt, GL.q_sls, GL.q_revt, GL.ix_lst, GL.q_dct0, GL.ik_non_tup, GL.ik_non_int, GL.ik_non_str, GL.ik_non_lst, GL.ik_non_bl, GL.ik_non_dct, GL.ik_bl_tup, GL.ik_bl_int, GL.ik_bl_str, GL.ik_bl_lst, GL.ik_bl_bl, GL.ik_bl_dct, GL.ik_int_tup, GL.ik_int_int, GL.ik_int_str, GL.ik_int_lst, GL.ik_int_bl, GL.ik_int_dct, GL.ik_str_tup, GL.ik_str_int, GL.ik_str_str, GL.ik_str_lst, GL.ik_str_bl, GL.ik_str_dct, GL.ik_tup_tup, GL.ik_tup_int, GL.ik_tup_str, GL.ik_tup_lst, GL.ik_tup_bl, GL.ik_tup_dct, GL.ik_lst_tup, GL.ik_lst_int, GL.ik_lst_str, GL.ik_lst_lst, GL.ik_lst_bl, GL.ik_lst_dct, GL.ik_dct_tup, GL.ik_dct_int, GL.ik_dct_str, GL.ik_dct_lst, GL.ik_dct_bl, GL.ik_dct_dct, GL.q_st, GL.q_sf, GL.q_lt, List.cons.injEq, GL.at0, GL.at1, GL.at2, GL.q_itt, GL.q_its, GL.q_itr, GL.q_zt, GL.q_zr, GL.srcT, GL.srcL, GL.q_m1, GL.q_m2, GL.q_m3, GL.q_m4, GL.q_m5, GL.q_m6, GL.q_k1, GL.q_k2, GL.q_k3, GL.q_k4, GL.q_k5, exists_and_left, GL.q_ixr, GL.q_ixi, GL.q_setr, GL.q_slr, GL.q_revr, GL.q_kr, GL.q_lr, GL.q_sr, GL.q_vr, GL.put_same, GL.put_put, GL.keyD, GL.wNew, GL.Cell.dct.injEq, GL.Cell.lst.injEq, GL.D.int.injEq, GL.D.str.injEq, GL.D.ref.injEq, GL.D.tup.injEq, reduceCtorEq, false_and, and_false, or_false, false_or, exists_false, exists_const, and_assoc, GL.q_app, GL.q_ext, GL.q_pop, GL.q_get2, GL.q_join, GL.q_upper, GL.GTgs.len, GL.GTg.slots, GL.GTgs.slots, GL.GXs.len, GL.wipeE, List.getElem?_cons_zero, List.getElem?_cons_succ, List.set_cons_zero, List.set_cons_succ, Option.some.injEq, exists_eq_left', exists_eq_left, List.map_cons, List.map_nil, List.length_cons, List.length_nil, List.replicate_succ, List.replicate_zero, List.cons_append, List.nil_append, List.zip_cons_cons, List.zip_nil_right, List.foldl_cons, List.foldl_nil, Nat.reduceAdd, Nat.reduceSub, true_and, and_true, ↓reduceIte, Bool.false_eq_true, GL.wFld, GL.wMtd, GL.wMake, GL.wSetFld, GL.wLrg, GL.wTrg, GL.q_dictP, GL.wInd, $[$xs:ident],*] $[$loc]?)
namespace K01
open PySem GL
mutual
def wid (n : Nat) : D → Prop
  | .tup ds => ds.length ≤ n ∧ wids n ds
  | _ => True
def wids (n : Nat) : List D → Prop
  | [] => True
  | d :: ds => wid n d ∧ wids n ds
end
theorem wids_mem {n : Nat} : ∀ {ds : List D} {d : D}, wids n ds → d ∈ ds → wid n d
  | [], _, _, h => by cases h
  | x :: xs, d, h, hd => by
    simp only [wids] at h
    (rcases List.mem_cons.mp hd with rfl | hd)
    · exact h.1
    · exact wids_mem h.2 hd
theorem wid_item {n : Nat} {ds : List D} {d : D} (h : wid n (.tup ds)) (hd : d ∈ ds) : wid n d := by
  simp only [wid] at h
  exact wids_mem h.2 hd
theorem wid_len {n : Nat} {ds : List D} (h : wid n (.tup ds)) : ds.length ≤ n := by
  simp only [wid] at h
  exact h.1
theorem nds_mem2 : ∀ {ds : List D} {d : D}, d ∈ ds → nd d ≤ nds ds
  | [], _, h => by cases h
  | x :: xs, d, h => by
    rw [nds]
    (rcases List.mem_cons.mp h with rfl | h)
    · omega
    · have := nds_mem2 h; omega
theorem nds_len : ∀ ds : List D, ds.length ≤ nds ds
  | [] => Nat.zero_le _
  | d :: ds => by have := nds_len ds; have := nd_pos d; rw [nds, List.length_cons]; omega
/-! ### numbers -/
def cNum : GC0 := fun args S Q => ∃ d lo hi, args = [d, .int lo, .int hi] ∧ KG S d ∧ ∀ S', Sub S S' → Q (.bl (isBtw d lo (hi - 1))) S'
/-! ### the rows with their words -/
def fullT : D → Bool
  | .tup (_ :: _) => true
  | _ => false
def rowOk (d : D) : Bool := isNamed d && fullT (itm d 1)
def isKeyed (d : D) : Bool := match d with
  | .tup ps => ps.all rowOk && risingD (ps.map fun p => itm p 0)
  | _ => false
theorem rowOk_shape {d : D} (h : rowOk d = true) : ∃ (x : Str) (y : D) (ys : List D), d = .tup [.str x, .tup (y :: ys)] ∧ isWord (.str x) = true := by
  unfold rowOk at h
  rw [Bool.and_eq_true] at h
  obtain ⟨x, z, rfl, hx⟩ := named_shape h.1
  have h2 : fullT z = true := h.2
  cases z with
  | tup zs => cases zs with
    | nil => cases h2
    | cons y ys => exact ⟨x, y, ys, rfl, hx⟩
  | _ => cases h2
theorem rising_pwD : ∀ xs : List Str, risingD (xs.map D.str) = true ↔ xs.Pairwise ltS
  | [] => ⟨fun _ => .nil, fun _ => rfl⟩
  | [x] => ⟨fun _ => List.pairwise_singleton _ _, fun _ => rfl⟩
  | x :: y :: xs => by
    have ih := rising_pwD (y :: xs)
    have e : risingD ((x :: y :: xs).map D.str) = (decide (x.cps.toList < y.cps.toList) && risingD ((y :: xs).map D.str)) := rfl
    rw [e, Bool.and_eq_true, decide_eq_true_eq, ih]
    constructor
    · rintro ⟨h1, h2⟩
      refine List.pairwise_cons.mpr ⟨fun z hz => ?_, h2⟩
      (rcases List.mem_cons.mp hz with rfl | hz)
      · exact h1
      · exact ltS_tr _ _ _ h1 ((List.pairwise_cons.mp h2).1 z hz)
    · intro h
      (obtain ⟨h1, h2⟩ := List.pairwise_cons.mp h)
      exact ⟨h1 y (List.mem_cons_self ..), h2⟩
theorem rising_setD {xs ys : List Str} (h : ys.Pairwise ltS) (hm : ∀ x, x ∈ ys ↔ x ∈ xs) : decide (xs = ys) = risingD (xs.map D.str) := by
  by_cases e : xs = ys
  · subst e
    rw [decide_eq_true rfl, (rising_pwD xs).2 h]
  · rw [decide_eq_false e]
    cases hr : risingD (xs.map D.str) with
    | false => rfl
    | true => exact absurd (rise_one ltS_irr ltS_tr xs ys ((rising_pwD xs).1 hr) h fun x => (hm x).symm) e
theorem rising_pwI : ∀ xs : List Int, risingD (xs.map D.int) = true ↔ xs.Pairwise (· < ·)
  | [] => ⟨fun _ => .nil, fun _ => rfl⟩
  | [x] => ⟨fun _ => List.pairwise_singleton _ _, fun _ => rfl⟩
  | x :: y :: xs => by
    have ih := rising_pwI (y :: xs)
    have e : risingD ((x :: y :: xs).map D.int) = (decide (x < y) && risingD ((y :: xs).map D.int)) := rfl
    rw [e, Bool.and_eq_true, decide_eq_true_eq, ih]
    constructor
    · rintro ⟨h1, h2⟩
      refine List.pairwise_cons.mpr ⟨fun z hz => ?_, h2⟩
      (rcases List.mem_cons.mp hz with rfl | hz)
      · exact h1
      · exact Int.lt_trans h1 ((List.pairwise_cons.mp h2).1 z hz)
    · intro h
      (obtain ⟨h1, h2⟩ := List.pairwise_cons.mp h)
      exact ⟨h1 y (List.mem_cons_self ..), h2⟩
theorem rising_setI {xs ys : List Int} (h : ys.Pairwise (· < ·)) (hm : ∀ x, x ∈ ys ↔ x ∈ xs) : decide (xs = ys) = risingD (xs.map D.int) := by
  by_cases e : xs = ys
  · subst e
    rw [decide_eq_true rfl, (rising_pwI xs).2 h]
  · rw [decide_eq_false e]
    cases hr : risingD (xs.map D.int) with
    | false => rfl
    | true => exact absurd (rise_one (lt := fun a b : Int => a < b) (fun a => Int.lt_irrefl a) (fun a b c => Int.lt_trans) xs ys ((rising_pwI xs).1 hr) h fun x => (hm x).symm) e
instance (p q : Int × Int) : Decidable (ltP p q) := by unfold ltP; infer_instance
theorem lex_two (a b c d : Int) : HT.lexLt [a, b] [c, d] = decide (ltP (a, b) (c, d)) := by
  unfold ltP
  simp only [HT.lexLt]
  by_cases h : a = c
  · subst h
    simp [Int.lt_irrefl]
    intro h1 h2
    omega
  · by_cases h2 : a < c
    · simp [h2, h]
    · simp [h2, h]
theorem ltP_irr (p : Int × Int) : ¬ ltP p p := by unfold ltP; omega
theorem ltP_tr (p q r : Int × Int) (h : ltP p q) (k : ltP q r) : ltP p r := by unfold ltP at *; omega
theorem rising_pwP : ∀ xs : List (Int × Int), risingD (xs.map pD) = true ↔ xs.Pairwise ltP
  | [] => ⟨fun _ => .nil, fun _ => rfl⟩
  | [x] => ⟨fun _ => List.pairwise_singleton _ _, fun _ => rfl⟩
  | x :: y :: xs => by
    have ih := rising_pwP (y :: xs)
    have e : risingD ((x :: y :: xs).map pD) = (HT.lexLt [x.1, x.2] [y.1, y.2] && risingD ((y :: xs).map pD)) := rfl
    rw [e, lex_two, Bool.and_eq_true, decide_eq_true_eq, ih]
    constructor
    · rintro ⟨h1, h2⟩
      refine List.pairwise_cons.mpr ⟨fun z hz => ?_, h2⟩
      (rcases List.mem_cons.mp hz with rfl | hz)
      · exact h1
      · exact ltP_tr _ _ _ h1 ((List.pairwise_cons.mp h2).1 z hz)
    · intro h
      (obtain ⟨h1, h2⟩ := List.pairwise_cons.mp h)
      exact ⟨h1 y (List.mem_cons_self ..), h2⟩
theorem rising_setP {xs ys : List (Int × Int)} (h : ys.Pairwise ltP) (hm : ∀ x, x ∈ ys ↔ x ∈ xs) : decide (xs = ys) = risingD (xs.map pD) := by
  by_cases e : xs = ys
  · subst e
    rw [decide_eq_true rfl, (rising_pwP xs).2 h]
  · rw [decide_eq_false e]
    cases hr : risingD (xs.map pD) with
    | false => rfl
    | true => exact absurd (rise_one ltP_irr ltP_tr xs ys ((rising_pwP xs).1 hr) h fun x => (hm x).symm) e
def cKeyed : GC0 := fun args S Q => ∃ d p S0, args = [d, .ref p] ∧ S p = some (.lst []) ∧ S0 p = none ∧ Sub S0 S ∧ KG S0 d ∧ nd d ≤ 4000 ∧ ∀ S', Sub S0 S' → Q (.bl (isKeyed d)) S'
end K01
end

-- W6a
section
namespace K01
open PySem GL
/-! ### concepts -/
inductive Con where
  | all | none | word (s : Str) | and (c d : Con) | some (r : Str) (c : Con)
def Con.d : Con → D
  | .all => .tup [.str "all"]
  | .none => .tup [.str "none"]
  | .word s => .tup [.str "word", .str s]
  | .and c d => .tup [.str "and", c.d, d.d]
  | .some r c => .tup [.str "some", .str r, c.d]
def Con.dep : Con → Nat
  | .and c d => max c.dep d.dep + 1
  | .some _ c => c.dep + 1
  | _ => 1
def Con.nodes : Con → Nat
  | .and c d => c.nodes + d.nodes + 1
  | .some _ c => c.nodes + 1
  | _ => 1
def okW (x : Str) : Prop := isWord (.str x) = true
def Con.ok : Con → Prop
  | .word s => okW s
  | .and c d => c.ok ∧ d.ok
  | .some r c => okW r ∧ c.ok
  | _ => True
def Con.txt : Con → Str
  | .all => "all"
  | .none => "none"
  | .word s => s
  | .and c d => "(" ++ c.txt ++ " and " ++ d.txt ++ ")"
  | .some r c => "some " ++ r ++ " " ++ c.txt
/-- a letter -/
def Lt (c : Nat) : Prop := c ∈ lettersS.cps.toList
theorem Lt.small {c : Nat} (h : Lt c) : 97 ≤ c ∧ c ≤ 122 := by
  have : ∀ c ∈ lettersS.cps.toList, 97 ≤ c ∧ c ≤ 122 := by decide +kernel
  exact this c h
theorem okD_sign {c : Nat} : okD (.str ⟨#[c]⟩) = decide (c ∈ lettersS.cps.toList) := StrLaws.found_one lettersS c
theorem okW.parts {x : Str} (h : okW x) : 1 ≤ x.length ∧ x.length ≤ 10 ∧ x ∉ resv ∧ ∀ c ∈ x.cps.toList, Lt c := by
  unfold okW isWord at h
  simp only [Bool.and_eq_true, decide_eq_true_eq, Bool.not_eq_true', List.any_eq_false, List.all_eq_true] at h
  obtain ⟨h1, h2, h3, h4⟩ := h
  refine ⟨h1, h2, fun hm => ?_, fun c hc => ?_⟩
  · exact absurd (beq_self_eq_true x) (by simpa using h3 x hm)
  · have := h4 (.str ⟨#[c]⟩) (List.mem_map_of_mem (f := fun c => D.str ⟨#[c]⟩) hc)
    rw [okD_sign] at this
    exact of_decide_eq_true (p := c ∈ lettersS.cps.toList) this
theorem okW.mk {x : Str} (h1 : 1 ≤ x.length) (h2 : x.length ≤ 10) (h3 : x ∉ resv) (h4 : ∀ c ∈ x.cps.toList, Lt c) : okW x := by
  unfold okW isWord
  simp only [Bool.and_eq_true, decide_eq_true_eq, Bool.not_eq_true', List.any_eq_false, List.all_eq_true]
  refine ⟨h1, h2, fun y hy => ?_, fun d hd => ?_⟩
  · simp only [beq_iff_eq]
    rintro rfl
    exact h3 hy
  · unfold signs at hd
    obtain ⟨c, hc, rfl⟩ := List.mem_map.mp hd
    rw [okD_sign]
    exact decide_eq_true (p := c ∈ lettersS.cps.toList) (h4 c hc)
theorem okW.okS {x : Str} (h : okW x) : okS 12 x := ⟨by have := h.parts.2.1; omega, fun c hc => by have := (h.parts.2.2.2 c hc).small; omega⟩
/-! ### texts of concepts tell them -/
def Con.tl (c : Con) : List Nat := c.txt.cps.toList
theorem cps_app (x y : Str) : (x ++ y).cps.toList = x.cps.toList ++ y.cps.toList := by
  show (x.cps ++ y.cps).toList = _
  rw [Array.toList_append]
def NL (r : List Nat) : Prop := ∀ c t, r = c :: t → ¬ Lt c
theorem NL.cons {c : Nat} {r : List Nat} (h : c < 97) : NL (c :: r) := fun c' t e => by
  injection e with e1 _
  subst e1
  intro q
  have := q.small
  omega
theorem NL.nil : NL [] := fun c t e => by cases e
theorem run_eq : ∀ {x y r r' : List Nat}, (∀ c ∈ x, Lt c) → (∀ c ∈ y, Lt c) → NL r → NL r' → x ++ r = y ++ r' → x = y ∧ r = r'
  | [], [], _, _, _, _, _, _, e => ⟨rfl, e⟩
  | [], c :: y, r, r', _, hy, hr, _, e => absurd (hy c (List.mem_cons_self ..)) (hr c _ e)
  | c :: x, [], r, r', hx, _, _, hr', e => absurd (hx c (List.mem_cons_self ..)) (hr' c _ e.symm)
  | c :: x, d :: y, r, r', hx, hy, hr, hr', e => by
    rw [List.cons_append, List.cons_append, List.cons.injEq] at e
    obtain ⟨rfl, e⟩ := e
    obtain ⟨a, b⟩ := run_eq (fun c hc => hx c (List.mem_cons_of_mem _ hc)) (fun c hc => hy c (List.mem_cons_of_mem _ hc)) hr hr' e
    exact ⟨by rw [a], b⟩
/-- its first letters; what follows -/
def Con.run : Con → List Nat
  | .all => ("all" : Str).cps.toList
  | .none => ("none" : Str).cps.toList
  | .word s => s.cps.toList
  | .and _ _ => []
  | .some _ _ => ("some" : Str).cps.toList
def Con.rest : Con → List Nat
  | .and c d => 40 :: (c.tl ++ (32 :: 97 :: 110 :: 100 :: 32 :: (d.tl ++ [41])))
  | .some r c => 32 :: (r.cps.toList ++ (32 :: c.tl))
  | _ => []
theorem Con.tl_eq : ∀ c : Con, c.tl = c.run ++ c.rest
  | .all => by unfold Con.tl Con.run Con.rest Con.txt; rw [List.append_nil]
  | .none => by unfold Con.tl Con.run Con.rest Con.txt; rw [List.append_nil]
  | .word s => by unfold Con.tl Con.run Con.rest Con.txt; rw [List.append_nil]
  | .and c d => by
    unfold Con.tl Con.run Con.rest Con.txt
    simp only [cps_app, List.nil_append, Con.tl]
    rw [show (("(" : Str)).cps.toList = [40] from by decide +kernel, show ((" and " : Str)).cps.toList = [32, 97, 110, 100, 32] from by decide +kernel, show ((")" : Str)).cps.toList = [41] from by decide +kernel]
    (simp only [List.append_assoc, List.cons_append, List.nil_append])
  | .some r c => by
    unfold Con.tl Con.run Con.rest Con.txt
    simp only [cps_app, Con.tl]
    rw [show (("some " : Str)).cps.toList = ("some" : Str).cps.toList ++ [32] from by decide +kernel, show ((" " : Str)).cps.toList = [32] from by decide +kernel]
    (simp only [List.append_assoc, List.cons_append, List.nil_append])
theorem Con.run_lt : ∀ c : Con, c.ok → ∀ x ∈ c.run, Lt x
  | .all, _ => show ∀ x ∈ ("all" : Str).cps.toList, x ∈ lettersS.cps.toList by decide +kernel
  | .none, _ => show ∀ x ∈ ("none" : Str).cps.toList, x ∈ lettersS.cps.toList by decide +kernel
  | .word s, h => (okW.parts h).2.2.2
  | .and _ _, _ => fun x hx => by cases hx
  | .some _ _, _ => show ∀ x ∈ ("some" : Str).cps.toList, x ∈ lettersS.cps.toList by decide +kernel
theorem Con.rest_nl : ∀ (c : Con) {r : List Nat}, NL r → NL (c.rest ++ r)
  | .all, _, h => h
  | .none, _, h => h
  | .word _, _, h => h
  | .and _ _, _, _ => NL.cons (by decide)
  | .some _ _, _, _ => NL.cons (by decide)
theorem str_ne {s t : Str} (h : okW s) (ht : t ∈ resv) (e : s.cps.toList = t.cps.toList) : False := h.parts.2.2.1 (by rw [str_eq_of e]; exact ht)
theorem word_ne {s : Str} (h : okW s) (e : s.cps.toList = []) : False := by
  have := h.parts.1
  have h2 : s.length = s.cps.toList.length := by rw [Array.length_toList]; rfl
  rw [h2, e] at this
  simp at this
theorem txt_inj : ∀ (c d : Con) {r r' : List Nat}, c.ok → d.ok → NL r → NL r' → c.tl ++ r = d.tl ++ r' → c = d ∧ r = r' := by
  intro c
  have r1 : ("all" : Str) ∈ resv := by decide +kernel
  have r2 : ("none" : Str) ∈ resv := by decide +kernel
  have r3 : ("some" : Str) ∈ resv := by decide +kernel
  have n1 : ("all" : Str).cps.toList ≠ ("none" : Str).cps.toList := by decide +kernel
  have n2 : ("all" : Str).cps.toList ≠ ("some" : Str).cps.toList := by decide +kernel
  have n3 : ("none" : Str).cps.toList ≠ ("some" : Str).cps.toList := by decide +kernel
  have n4 : ("all" : Str).cps.toList ≠ [] := by decide +kernel
  have n5 : ("none" : Str).cps.toList ≠ [] := by decide +kernel
  have n6 : ("some" : Str).cps.toList ≠ [] := by decide +kernel
  induction c with
  | all =>
    intro d r r' hc hd hr hr' e
    rw [Con.tl_eq, Con.tl_eq, List.append_assoc, List.append_assoc] at e
    obtain ⟨e1, e2⟩ := run_eq (Con.run_lt _ hc) (Con.run_lt _ hd) (Con.rest_nl _ hr) (Con.rest_nl _ hr') e
    cases d with
    | all => exact ⟨rfl, e2⟩
    | none => exact absurd e1 n1
    | word s => exact (str_ne hd r1 e1.symm).elim
    | and _ _ => exact absurd e1 n4
    | some _ _ => exact absurd e1 n2
  | none =>
    intro d r r' hc hd hr hr' e
    rw [Con.tl_eq, Con.tl_eq, List.append_assoc, List.append_assoc] at e
    obtain ⟨e1, e2⟩ := run_eq (Con.run_lt _ hc) (Con.run_lt _ hd) (Con.rest_nl _ hr) (Con.rest_nl _ hr') e
    cases d with
    | all => exact absurd e1.symm n1
    | none => exact ⟨rfl, e2⟩
    | word s => exact (str_ne hd r2 e1.symm).elim
    | and _ _ => exact absurd e1 n5
    | some _ _ => exact absurd e1 n3
  | word s =>
    intro d r r' hc hd hr hr' e
    rw [Con.tl_eq, Con.tl_eq, List.append_assoc, List.append_assoc] at e
    obtain ⟨e1, e2⟩ := run_eq (Con.run_lt _ hc) (Con.run_lt _ hd) (Con.rest_nl _ hr) (Con.rest_nl _ hr') e
    cases d with
    | all => exact (str_ne hc r1 e1).elim
    | none => exact (str_ne hc r2 e1).elim
    | word t => exact ⟨by rw [str_eq_of (show s.cps.toList = t.cps.toList from e1)], e2⟩
    | and _ _ => exact (word_ne hc e1).elim
    | some _ _ => exact (str_ne hc r3 e1).elim
  | and c1 c2 ih1 ih2 =>
    intro d r r' hc hd hr hr' e
    rw [Con.tl_eq, Con.tl_eq, List.append_assoc, List.append_assoc] at e
    obtain ⟨e1, e2⟩ := run_eq (Con.run_lt _ hc) (Con.run_lt _ hd) (Con.rest_nl _ hr) (Con.rest_nl _ hr') e
    cases d with
    | all => exact absurd e1.symm n4
    | none => exact absurd e1.symm n5
    | word t => exact (word_ne hd e1.symm).elim
    | and d1 d2 =>
      simp only [Con.rest, List.cons_append, List.append_assoc, List.nil_append, List.cons.injEq, true_and] at e2
      obtain ⟨q1, q2⟩ := ih1 d1 hc.1 hd.1 (NL.cons (by decide)) (NL.cons (by decide)) e2
      simp only [List.cons.injEq, true_and] at q2
      obtain ⟨q3, q4⟩ := ih2 d2 hc.2 hd.2 (NL.cons (by decide)) (NL.cons (by decide)) q2
      rw [List.cons.injEq] at q4
      exact ⟨by rw [q1, q3], q4.2⟩
    | some _ _ => exact absurd e1.symm n6
  | some x c1 ih =>
    intro d r r' hc hd hr hr' e
    rw [Con.tl_eq, Con.tl_eq, List.append_assoc, List.append_assoc] at e
    obtain ⟨e1, e2⟩ := run_eq (Con.run_lt _ hc) (Con.run_lt _ hd) (Con.rest_nl _ hr) (Con.rest_nl _ hr') e
    cases d with
    | all => exact absurd e1.symm n2
    | none => exact absurd e1.symm n3
    | word t => exact (str_ne hd r3 e1.symm).elim
    | and _ _ => exact absurd e1 n6
    | some y d1 =>
      simp only [Con.rest, List.cons_append, List.append_assoc, List.cons.injEq, true_and] at e2
      obtain ⟨q1, q2⟩ := run_eq hc.1.parts.2.2.2 hd.1.parts.2.2.2 (NL.cons (by decide)) (NL.cons (by decide)) e2
      rw [List.cons.injEq] at q2
      obtain ⟨q3, q4⟩ := ih d1 hc.2 hd.2 hr hr' q2.2
      exact ⟨by rw [str_eq_of q1, q3], q4⟩
theorem Con.inj {c d : Con} (hc : c.ok) (hd : d.ok) (e : c.txt = d.txt) : c = d := (txt_inj c d hc hd NL.nil NL.nil (by unfold Con.tl; rw [e])).1
theorem Con.txt_len : ∀ c : Con, c.ok → c.txt.length ≤ 20 * c.nodes
  | .all, _ => by decide +kernel
  | .none, _ => by decide +kernel
  | .word s, h => by have := (okW.parts h).2.1; unfold Con.txt Con.nodes; omega
  | .and c d, h => by
    have h1 := Con.txt_len c h.1
    have h2 := Con.txt_len d h.2
    unfold Con.txt Con.nodes
    rw [strLen_append, strLen_append, strLen_append, strLen_append]
    rw [show (("(" : Str)).length = 1 from rfl, show ((" and " : Str)).length = 5 from rfl, show ((")" : Str)).length = 1 from rfl]
    omega
  | .some r c, h => by
    have h1 := Con.txt_len c h.2
    have h2 := h.1.parts.2.1
    unfold Con.txt Con.nodes
    rw [strLen_append, strLen_append, strLen_append]
    rw [show (("some " : Str)).length = 5 from rfl, show ((" " : Str)).length = 1 from rfl]
    omega
theorem Con.nodes_pos : ∀ c : Con, 1 ≤ c.nodes := fun c => by cases c <;> simp [Con.nodes] <;> omega
theorem Con.dep_pos : ∀ c : Con, 1 ≤ c.dep := fun c => by cases c <;> simp [Con.dep]
theorem Con.isCon : ∀ c : Con, c.ok → K01.isCon c.d = true
  | .all, _ => by unfold Con.d; rw [con_all]; rfl
  | .none, _ => by unfold Con.d; rw [con_none]; rfl
  | .word s, h => by unfold Con.d; rw [con_word]; exact h
  | .and c d, h => by unfold Con.d; rw [con_and]; simp only []; rw [Con.isCon c h.1, Con.isCon d h.2]; rfl
  | .some r c, h => by unfold Con.d; rw [con_some]; simp only []; rw [show isWord (.str r) = true from h.1, Con.isCon c h.2]; rfl
theorem lit_ok {x : Str} (h : GL.okS 12 x) {F : Addr → Prop} {S : Store} {n c : Nat} (hc : 1 ≤ c) : Gv F S 12 n c (.str x) := .str h hc
theorem Con.gv {F : Addr → Prop} {S : Store} : ∀ c : Con, c.ok → Gv F S 12 c.dep (4 * c.nodes) c.d
  | .all, _ => .tup (h := 0) (m := 1) (.cons (m := 1) (.str (by decide +kernel) (Nat.le_refl _)) (Gvs.nil (c := 0)) (Nat.le_refl _)) (by decide)
  | .none, _ => .tup (h := 0) (m := 1) (.cons (m := 1) (.str (by decide +kernel) (Nat.le_refl _)) (Gvs.nil (c := 0)) (Nat.le_refl _)) (by decide)
  | .word s, h => .tup (h := 0) (m := 2) (.cons (m := 1) (.str (by decide +kernel) (Nat.le_refl _)) (.cons (m := 1) (.str (okW.okS h) (Nat.le_refl _)) (Gvs.nil (c := 0)) (Nat.le_refl _)) (Nat.le_refl _)) (by simp only [Con.nodes]; omega)
  | .and c d, h => by
    have g1 := (Con.gv (F := F) (S := S) c h.1).up (h' := max c.dep d.dep) (Nat.le_refl _) (fun _ z => z) (fun _ _ _ z => z) (by omega) (Nat.le_refl _)
    have g2 := (Con.gv (F := F) (S := S) d h.2).up (h' := max c.dep d.dep) (Nat.le_refl _) (fun _ z => z) (fun _ _ _ z => z) (by omega) (Nat.le_refl _)
    exact .tup (.cons (m := 1) (.str (by decide +kernel) (Nat.le_refl _)) (.cons g1 (.cons g2 (Gvs.nil (c := 0)) (Nat.le_refl _)) (Nat.le_refl _)) (Nat.le_refl _)) (by simp only [Con.nodes]; omega)
  | .some r c, h => by
    have g1 := Con.gv (F := F) (S := S) c h.2
    exact .tup (.cons (m := 1) (.str (by decide +kernel) (Nat.le_refl _)) (.cons (m := 1) (.str h.1.okS (Nat.le_refl _)) (.cons g1 (Gvs.nil (c := 0)) (Nat.le_refl _)) (Nat.le_refl _)) (Nat.le_refl _)) (by simp only [Con.nodes]; omega)
end K01
end

-- W6b
section
namespace K01
open PySem GL
/-! ### worlds -/
structure Wm where
  many : Nat
  names : List (Str × List Int)
  roles : List (Str × List (Int × Int))
def nrow (p : Str × List Int) : D := .tup [.str p.1, .tup (p.2.map D.int)]
def rrow (p : Str × List (Int × Int)) : D := .tup [.str p.1, .tup (p.2.map pD)]
def Wm.d (w : Wm) : D := .tup [.int w.many, .tup (w.names.map nrow), .tup (w.roles.map rrow)]
structure NamOk (m : Nat) (p : Str × List Int) : Prop where
  w : okW p.1
  ne : p.2 ≠ []
  len : p.2.length ≤ 7
  up : p.2.Pairwise (· < ·)
  rg : ∀ x ∈ p.2, 0 ≤ x ∧ x < m
structure RolOk (m : Nat) (p : Str × List (Int × Int)) : Prop where
  w : okW p.1
  ne : p.2 ≠ []
  len : p.2.length ≤ 49
  up : p.2.Pairwise ltP
  rg : ∀ q ∈ p.2, (0 ≤ q.1 ∧ q.1 < m) ∧ 0 ≤ q.2 ∧ q.2 < m
structure Wm.Ok (w : Wm) : Prop where
  m : 1 ≤ w.many ∧ w.many ≤ 7
  nl : w.names.length ≤ 4
  rl : w.roles.length ≤ 4
  nk : (w.names.map (·.1)).Pairwise ltS
  rk : (w.roles.map (·.1)).Pairwise ltS
  ni : ∀ p ∈ w.names, NamOk w.many p
  ri : ∀ p ∈ w.roles, RolOk w.many p
theorem emp_map {α β : Type} {f : α → β} {l : List α} (h : l ≠ []) : (!(l.map f).isEmpty) = true := by
  cases l with
  | nil => exact absurd rfl h
  | cons _ _ => rfl
theorem thing_ok {m x : Int} (h : 0 ≤ x ∧ x < m) : isThing m (.int x) = true := by
  show (decide (0 ≤ x) && decide (x ≤ m - 1)) = true
  (rw [Bool.and_eq_true, decide_eq_true_eq, decide_eq_true_eq])
  exact ⟨h.1, by omega⟩
theorem isWorld_ok {w : Wm} (h : w.Ok) : isWorld w.d = true := by
  have rs : ∀ xs : List Str, xs.Pairwise ltS → risingD (xs.map D.str) = true := fun xs hx => (rising_pwD xs).2 hx
  have nt : isList isThing w.many (.tup (w.names.map nrow)) = true := by
    show ((w.names.map nrow).all isNamed && (risingD ((w.names.map nrow).map fun p => itm p 0) && (w.names.map nrow).all fun p => isListed isThing w.many (itm p 1))) = true
    (rw [Bool.and_eq_true, Bool.and_eq_true])
    refine ⟨List.all_eq_true.mpr fun d hd => ?_, ?_, List.all_eq_true.mpr fun d hd => ?_⟩
    · obtain ⟨p, hp, rfl⟩ := List.mem_map.mp hd
      exact (h.ni p hp).w
    · have e : (w.names.map nrow).map (fun p => itm p 0) = (w.names.map (·.1)).map D.str := by rw [List.map_map, List.map_map]; rfl
      rw [e]
      exact rs _ h.nk
    · obtain ⟨p, hp, rfl⟩ := List.mem_map.mp hd
      have q := h.ni p hp
      show (!(p.2.map D.int).isEmpty && ((p.2.map D.int).all (isThing w.many) && risingD (p.2.map D.int))) = true
      rw [emp_map q.ne, Bool.true_and, Bool.and_eq_true]
      refine ⟨List.all_eq_true.mpr fun d hd => ?_, (rising_pwI _).2 q.up⟩
      obtain ⟨x, hx, rfl⟩ := List.mem_map.mp hd
      exact thing_ok (q.rg x hx)
  have rt : isList isTie w.many (.tup (w.roles.map rrow)) = true := by
    show ((w.roles.map rrow).all isNamed && (risingD ((w.roles.map rrow).map fun p => itm p 0) && (w.roles.map rrow).all fun p => isListed isTie w.many (itm p 1))) = true
    (rw [Bool.and_eq_true, Bool.and_eq_true])
    refine ⟨List.all_eq_true.mpr fun d hd => ?_, ?_, List.all_eq_true.mpr fun d hd => ?_⟩
    · obtain ⟨p, hp, rfl⟩ := List.mem_map.mp hd
      exact (h.ri p hp).w
    · have e : (w.roles.map rrow).map (fun p => itm p 0) = (w.roles.map (·.1)).map D.str := by rw [List.map_map, List.map_map]; rfl
      rw [e]
      exact rs _ h.rk
    · obtain ⟨p, hp, rfl⟩ := List.mem_map.mp hd
      have q := h.ri p hp
      show (!(p.2.map pD).isEmpty && ((p.2.map pD).all (isTie w.many) && risingD (p.2.map pD))) = true
      rw [emp_map q.ne, Bool.true_and, Bool.and_eq_true]
      refine ⟨List.all_eq_true.mpr fun d hd => ?_, (rising_pwP _).2 q.up⟩
      obtain ⟨x, hx, rfl⟩ := List.mem_map.mp hd
      show (true && (isThing w.many (.int x.1) && isThing w.many (.int x.2))) = true
      rw [thing_ok (q.rg x hx).1, thing_ok (q.rg x hx).2]
      rfl
  show (true && ((decide ((1 : Int) ≤ w.many) && decide ((w.many : Int) ≤ 2000)) && (isList isThing w.many (.tup (w.names.map nrow)) && isList isTie w.many (.tup (w.roles.map rrow))))) = true
  rw [nt, rt]
  have := h.m
  simp
  omega
theorem gvs_of {F : Addr → Prop} {S : Store} {L h c n : Nat} {ds : List D} (q : ∀ d ∈ ds, Gv F S L h c d) (hn : ds.length ≤ n) : Gvs F S L h (n * c) ds := by
  have gen : ∀ {ds : List D}, (∀ d ∈ ds, Gv F S L h c d) → Gvs F S L h (ds.length * c) ds := fun {ds} => by
    induction ds with
    | nil => exact fun _ => .nil
    | cons d ds ih => exact fun q => .cons (q d (List.mem_cons_self ..)) (ih fun e he => q e (List.mem_cons_of_mem _ he)) (by rw [List.length_cons, Nat.add_mul]; omega)
  exact (gen q).up (Nat.le_refl _) (fun _ z => z) (fun _ _ _ z => z) (Nat.le_refl _) (Nat.mul_le_mul_right _ hn)
theorem small_int {x : Int} (m : Nat) (h : 0 ≤ x ∧ x < m) (hm : m ≤ 2000) : x.natAbs ≤ 10 ^ 39 + 12 := Nat.le_trans (m := 2000) (by omega) (by decide)
theorem Wm.gv {F : Addr → Prop} {S : Store} {w : Wm} (h : w.Ok) : Gv F S 12 5 1000 w.d := by
  have hm := h.m
  refine .tup (m := 900) (.cons (m := 1) (.int (small_int 2000 ⟨by omega, by omega⟩ (by decide)) (Nat.le_refl _)) (.cons (m := 100) (k := 700) (c := 800) (.tup (m := 4 * 12) (gvs_of (fun d hd => ?_) (by rw [List.length_map]; exact h.nl)) (by decide)) (.cons (m := 700) (k := 0) (.tup (m := 4 * 152) (gvs_of (fun d hd => ?_) (by rw [List.length_map]; exact h.rl)) (by decide)) (Gvs.nil (c := 0)) (by decide)) (by decide)) (by decide)) (by decide)
  · obtain ⟨p, hp, rfl⟩ := List.mem_map.mp hd
    have q := h.ni p hp
    refine .tup (h := 2) (m := 9) (.cons (m := 1) (.str q.w.okS (Nat.le_refl _)) (.cons (m := 8) (.tup (h := 1) (m := 7 * 1) (gvs_of (fun d hd => ?_) (by rw [List.length_map]; exact q.len)) (by decide)) (Gvs.nil (c := 0)) (Nat.le_refl _)) (by decide)) (by decide)
    obtain ⟨x, hx, rfl⟩ := List.mem_map.mp hd
    exact .int (small_int _ (q.rg x hx) (by omega)) (Nat.le_refl _)
  · obtain ⟨p, hp, rfl⟩ := List.mem_map.mp hd
    have q := h.ri p hp
    refine .tup (h := 2) (m := 150) (.cons (m := 1) (.str q.w.okS (Nat.le_refl _)) (.cons (m := 148) (.tup (h := 1) (m := 49 * 3) (gvs_of (fun d hd => ?_) (by rw [List.length_map]; exact q.len)) (by decide)) (Gvs.nil (c := 0)) (Nat.le_refl _)) (by decide)) (by decide)
    obtain ⟨x, hx, rfl⟩ := List.mem_map.mp hd
    exact .tup (h := 0) (m := 2) (.cons (m := 1) (.int (small_int _ (q.rg x hx).1 (by omega)) (Nat.le_refl _)) (.cons (m := 1) (.int (small_int _ (q.rg x hx).2 (by omega)) (Nat.le_refl _)) (Gvs.nil (c := 0)) (Nat.le_refl _)) (Nat.le_refl _)) (by decide)
/-! ### what is in a concept -/
def Wm.named (w : Wm) (s : Str) : List Int := (w.names.lookup s).getD []
def Wm.ties (w : Wm) (r : Str) : List (Int × Int) := (w.roles.lookup r).getD []
def inC (w : Wm) : Con → Int → Bool
  | .all, _ => true
  | .none, _ => false
  | .word s, x => decide (x ∈ w.named s)
  | .and c d, x => inC w c x && inC w d x
  | .some r c, x => (w.ties r).any fun p => decide (p.1 = x) && inC w c p.2
def Wm.rng (w : Wm) : List Int := (List.range w.many).map fun (i : Nat) => ((i : Nat) : Int)
def sem (w : Wm) (c : Con) : List Int := w.rng.filter (inC w c)
def semD (w : Wm) (c : Con) : D := .tup ((sem w c).map D.int)
theorem Wm.mem_rng {w : Wm} {x : Int} : x ∈ w.rng ↔ 0 ≤ x ∧ x < w.many := by
  unfold Wm.rng
  rw [List.mem_map]
  constructor
  · rintro ⟨i, hi, rfl⟩
    rw [List.mem_range] at hi
    omega
  · intro h
    exact ⟨x.toNat, by rw [List.mem_range]; omega, by omega⟩
theorem Wm.rng_up (w : Wm) : w.rng.Pairwise (· < ·) := by
  unfold Wm.rng
  rw [List.pairwise_map]
  exact List.pairwise_lt_range.imp fun h => by omega
theorem sem_up (w : Wm) (c : Con) : (sem w c).Pairwise (· < ·) := w.rng_up.filter _
theorem mem_sem {w : Wm} {c : Con} {x : Int} : x ∈ sem w c ↔ (0 ≤ x ∧ x < w.many) ∧ inC w c x = true := by
  unfold sem
  rw [List.mem_filter, Wm.mem_rng]
theorem sem_len (w : Wm) (c : Con) : (sem w c).length ≤ w.many := by
  have := List.length_filter_le (inC w c) w.rng
  unfold sem
  have e : w.rng.length = w.many := by unfold Wm.rng; rw [List.length_map, List.length_range]
  omega
theorem up_one {xs ys : List Int} (h : xs.Pairwise (· < ·)) (k : ys.Pairwise (· < ·)) (m : ∀ x, x ∈ xs ↔ x ∈ ys) : xs = ys := rise_one (lt := fun a b : Int => a < b) (fun a => Int.lt_irrefl a) (fun a b c => Int.lt_trans) xs ys h k m
theorem look_mem {α : Type} : ∀ {l : List (Str × α)} {s : Str} {a : α}, l.lookup s = some a → (s, a) ∈ l
  | [], _, _, h => by cases h
  | (k, v) :: l, s, a, h => by
    (simp only [List.lookup_cons] at h)
    cases e : (s == k) with
    | true => rw [e] at h; cases h; rw [eq_of_beq e]; exact List.mem_cons_self ..
    | false => rw [e] at h; exact List.mem_cons_of_mem _ (look_mem h)
theorem Wm.named_ok {w : Wm} (h : w.Ok) (s : Str) : (w.named s).Pairwise (· < ·) ∧ (w.named s).length ≤ 7 ∧ ∀ x ∈ w.named s, 0 ≤ x ∧ x < w.many := by
  unfold Wm.named
  cases e : w.names.lookup s with
  | none => exact ⟨.nil, Nat.zero_le _, fun x hx => by cases hx⟩
  | some is => have q := h.ni _ (look_mem e); exact ⟨q.up, q.len, q.rg⟩
theorem Wm.ties_ok {w : Wm} (h : w.Ok) (s : Str) : (w.ties s).length ≤ 49 ∧ ∀ q ∈ w.ties s, (0 ≤ q.1 ∧ q.1 < w.many) ∧ 0 ≤ q.2 ∧ q.2 < w.many := by
  unfold Wm.ties
  cases e : w.roles.lookup s with
  | none => exact ⟨Nat.zero_le _, fun x hx => by cases hx⟩
  | some is => have q := h.ri _ (look_mem e); exact ⟨q.len, q.rg⟩
theorem sem_all (w : Wm) : sem w .all = w.rng := List.filter_eq_self.mpr fun _ _ => rfl
theorem sem_none (w : Wm) : sem w .none = [] := List.filter_eq_nil_iff.mpr fun _ _ => by simp [inC]
theorem sem_word {w : Wm} (h : w.Ok) (s : Str) : sem w (.word s) = w.named s := by
  have q := w.named_ok h s
  refine up_one (sem_up _ _) q.1 fun x => ?_
  rw [mem_sem]
  simp only [inC, decide_eq_true_eq]
  exact ⟨fun z => z.2, fun z => ⟨q.2.2 x z, z⟩⟩
theorem sem_and (w : Wm) (c d : Con) : sem w (.and c d) = (sem w c).filter fun x => decide (x ∈ sem w d) := by
  unfold sem
  rw [List.filter_filter]
  refine List.filter_congr fun x hx => ?_
  simp only [inC, List.mem_filter, hx, true_and]
  rw [Bool.and_comm]
  cases inC w d x <;> simp
/-- the first ones of the ties that lead into it -/
theorem sem_some {w : Wm} (h : w.Ok) (r : Str) (c : Con) {ys : List Int} (up : ys.Pairwise (· < ·)) (m : ∀ x, x ∈ ys ↔ x ∈ ((w.ties r).filter fun p => decide (p.2 ∈ sem w c)).map (·.1)) : ys = sem w (.some r c) := by
  refine up_one up (sem_up _ _) fun x => ?_
  rw [m, mem_sem, List.mem_map]
  simp only [inC, List.any_eq_true, Bool.and_eq_true, decide_eq_true_eq, List.mem_filter, mem_sem]
  constructor
  · rintro ⟨p, ⟨hp, h1, h2⟩, rfl⟩
    exact ⟨((w.ties_ok h r).2 p hp).1, p, hp, rfl, h2⟩
  · rintro ⟨_, p, hp, rfl, h2⟩
    exact ⟨p, ⟨hp, ((w.ties_ok h r).2 p hp).2, h2⟩, rfl⟩
end K01
end

-- W6c
section
local macro_rules | `(tactic| walk_at "gl") => `(tactic| simp only [GL.wB_, GL.wS, GL.wSeq, GL.wRet, GL.w, GL.both, GL.wAndE, GL.wOrE, GL.wSlot, GL.wAs, GL.wCons, GL.wNil, GL.wVal, GL.wB, GL.wCmp, GL.wCmp2, GL.wBin, GL.wUn, GL.wNot, GL.wAnd, GL.wOr, GL.wIfE, GL.wIf, GL.wTup, GL.wLst, GL.wSlc, GL.wNoP, GL.wPart, GL.wO, GL.wC, GL.wI, GL.wG, GL.wGs, GL.wIt, GL.wRange1, GL.wRange2, GL.wEnum, GL.wZip, GL.wgName, GL.wgTup, GL.wgCons, GL.wgNil, GL.wAsg, GL.wDrop, GL.wSkip, GL.wPar, GL.wSetIx, GL.wTru, GL.wFor, GL.wLc, GL.wMth, GL.wCall, GL.wCallK, GL.wPs, GL.wPairs, GL.q_len, GL.q_isi, GL.q_int, GL.q_list, GL.q_tupt, GL.q_tupr, GL.q_all, GL.q_any, GL.q_max2, GL.q_min2, GL.q_sorted, GL.q_stri, GL.q_strs, GL.q_strb, GL.q_repr, GL.q_dict, GL.q_sum, GL.q_addi, GL.q_adds, GL.q_addt, GL.q_addl, GL.q_addb, GL.q_subi, GL.q_subb, GL.q_muls, GL.q_muli, GL.q_divi, GL.q_modi, GL.q_powi, GL.q_negi, GL.q_negb, GL.q_eq, GL.q_ne, GL.q_lti, GL.q_lei, GL.q_gti, GL.q_gei, GL.q_lts, GL.q_ins, GL.q_nins, GL.q_int_, GL.q_inl, GL.q_nint, GL.q_ninl, GL.q_trb, GL.q_tri, GL.q_ixt, GL.q_ixs, GL.q_slt, GL.q_sls, GL.q_revt, GL.ix_lst, GL.q_dct0, GL.ik_non_tup, GL.ik_non_int, GL.ik_non_str, GL.ik_non_lst, GL.ik_non_bl, GL.ik_non_dct, GL.ik_bl_tup, GL.ik_bl_int, GL.ik_bl_str, GL.ik_bl_lst, GL.ik_bl_bl, GL.ik_bl_dct, GL.ik_int_tup, GL.ik_int_int, GL.ik_int_str, GL.ik_int_lst, GL.ik_int_bl, GL.ik_int_dct, GL.ik_str_tup, GL.ik_str_int, GL.ik_str_str, GL.ik_str_lst, GL.ik_str_bl, GL.ik_str_dct, GL.ik_tup_tup, GL.ik_tup_int, GL.ik_tup_str, GL.ik_tup_lst, GL.ik_tup_bl, GL.ik_tup_dct, GL.ik_lst_tup, GL.ik_lst_int, GL.ik_lst_str, GL.ik_lst_lst, GL.ik_lst_bl, GL.ik_lst_dct, GL.ik_dct_tup, GL.ik_dct_int, GL.ik_dct_str, GL.ik_dct_lst, GL.ik_dct_bl, GL.ik_dct_dct, GL.q_st, GL.q_sf, GL.q_lt, List.cons.injEq, GL.at0, GL.at1, GL.at2, GL.q_itt, GL.q_its, GL.q_itr, GL.q_zt, GL.q_zr, GL.srcT, GL.srcL, GL.q_m1, GL.q_m2, GL.q_m3, GL.q_m4, GL.q_m5, GL.q_m6, GL.q_k1, GL.q_k2, GL.q_k3, GL.q_k4, GL.q_k5, exists_and_left, GL.q_ixr, GL.q_ixi, GL.q_setr, GL.q_slr, GL.q_revr, GL.q_kr, GL.q_lr, GL.q_sr, GL.q_vr, GL.put_same, GL.put_put, GL.keyD, GL.wNew, GL.Cell.dct.injEq, GL.Cell.lst.injEq, GL.D.int.injEq, GL.D.str.injEq, GL.D.ref.injEq, GL.D.tup.injEq, reduceCtorEq, false_and, and_false, or_false, false_or, exists_false, exists_const, and_assoc, GL.q_app, GL.q_ext, GL.q_pop, GL.q_get2, GL.q_join, GL.q_upper, GL.GTgs.len, GL.GTg.slots, GL.GTgs.slots, GL.GXs.len, GL.wipeE, List.getElem?_cons_zero, List.getElem?_cons_succ, List.set_cons_zero, List.set_cons_succ, Option.some.injEq, exists_eq_left', exists_eq_left, List.map_cons, List.map_nil, List.length_cons, List.length_nil, List.replicate_succ, List.replicate_zero, List.cons_append, List.nil_append, List.zip_cons_cons, List.zip_nil_right, List.foldl_cons, List.foldl_nil, Nat.reduceAdd, Nat.reduceSub, true_and, and_true, ↓reduceIte, Bool.false_eq_true, GL.wFld, GL.wMtd, GL.wMake, GL.wSetFld, GL.wLrg, GL.wTrg, GL.q_dictP, GL.wInd])
local macro_rules | `(tactic| delta $xs* $[$loc]?) => `(tactic| simp only [GL.wB_, GL.wS, GL.wSeq, GL.wRet, GL.w, GL.both, GL.wAndE, GL.wOrE, GL.wSlot, GL.wAs, GL.wCons, GL.wNil, GL.wVal, GL.wB, GL.wCmp, GL.wCmp2, GL.wBin, GL.wUn, GL.wNot, GL.wAnd, GL.wOr, GL.wIfE, GL.wIf, GL.wTup, GL.wLst, GL.wSlc, GL.wNoP, GL.wPart, GL.wO, GL.wC, GL.wI, GL.wG, GL.wGs, GL.wIt, GL.wRange1, GL.wRange2, GL.wEnum, GL.wZip, GL.wgName, GL.wgTup, GL.wgCons, GL.wgNil, GL.wAsg, GL.wDrop, GL.wSkip, GL.wPar, GL.wSetIx, GL.wTru, GL.wFor, GL.wLc, GL.wMth, GL.wCall, GL.wCallK, GL.wPs, GL.wPairs, GL.q_len, GL.q_isi, GL.q_int, GL.q_list, GL.q_tupt, GL.q_tupr, GL.q_all, GL.q_any, GL.q_max2, GL.q_min2, GL.q_sorted, GL.q_stri, GL.q_strs, GL.q_strb, GL.q_repr, GL.q_dict, GL.q_sum, GL.q_addi, GL.q_adds, GL.q_addt, GL.q_addl, GL.q_addb, GL.q_subi, GL.q_subb, GL.q_muls, GL.q_muli, GL.q_divi, GL.q_modi, GL.q_powi, GL.q_negi, GL.q_negb, GL.q_eq, GL.q_ne, GL.q_lti, GL.q_lei, GL.q_gti, GL.q_gei, GL.q_lts, GL.q_ins, GL.q_nins, GL.q_int_, GL.q_inl, GL.q_nint, GL.q_ninl, GL.q_trb, GL.q_tri, GL.q_ixt, GL.q_ixs, GL.q_slt, GL.q_sls, GL.q_revt, GL.ix_lst, GL.q_dct0, GL.ik_non_tup, GL.ik_non_int, GL.ik_non_str, GL.ik_non_lst, GL.ik_non_bl, GL.ik_non_dct, GL.ik_bl_tup, GL.ik_bl_int, GL.ik_bl_str, GL.ik_bl_lst, GL.ik_bl_bl, GL.ik_bl_dct, GL.ik_int_tup, GL.ik_int_int, GL.ik_int_str, GL.ik_int_lst, GL.ik_int_bl, GL.ik_int_dct, GL.ik_str_tup, GL.ik_str_int, GL.ik_str_str, GL.ik_str_lst, GL.ik_str_bl, GL.ik_str_dct, GL.ik_tup_tup, GL.ik_tup_int, GL.ik_tup_str, GL.ik_tup_lst, GL.ik_tup_bl, GL.ik_tup_dct, GL.ik_lst_tup, GL.ik_lst_int, GL.ik_lst_str, GL.ik_lst_lst, GL.ik_lst_bl, GL.ik_lst_dct, GL.ik_dct_tup, GL.ik_dct_int, GL.ik_dct_str, GL.ik_dct_lst, GL.ik_dct_bl, GL.ik_dct_dct, GL.q_st, GL.q_sf, GL.q_lt, List.cons.injEq, GL.at0, GL.at1, GL.at2, GL.q_itt, GL.q_its, GL.q_itr, GL.q_zt, GL.q_zr, GL.srcT, GL.srcL, GL.q_m1, GL.q_m2, GL.q_m3, GL.q_m4, GL.q_m5, GL.q_m6, GL.q_k1, GL.q_k2, GL.q_k3, GL.q_k4, GL.q_k5, exists_and_left, GL.q_ixr, GL.q_ixi, GL.q_setr, GL.q_slr, GL.q_revr, GL.q_kr, GL.q_lr, GL.q_sr, GL.q_vr, GL.put_same, GL.put_put, GL.keyD, GL.wNew, GL.Cell.dct.injEq, GL.Cell.lst.injEq, GL.D.int.injEq, GL.D.str.injEq, GL.D.ref.injEq, GL.D.tup.injEq, reduceCtorEq, false_and, and_false, or_false, false_or, exists_false, exists_const, and_assoc, GL.q_app, GL.q_ext, GL.q_pop, GL.q_get2, GL.q_join, GL.q_upper, GL.GTgs.len, GL.GTg.slots, GL.GTgs.slots, GL.GXs.len, GL.wipeE, List.getElem?_cons_zero, List.getElem?_cons_succ, List.set_cons_zero, List.set_cons_succ, Option.some.injEq, exists_eq_left', exists_eq_left, List.map_cons, List.map_nil, List.length_cons, List.length_nil, List.replicate_succ, List.replicate_zero, List.cons_append, List.nil_append, List.zip_cons_cons, List.zip_nil_right, List.foldl_cons, List.foldl_nil, Nat.reduceAdd, Nat.reduceSub, true_and, and_true, ↓reduceIte, Bool.false_eq_true, GL.wFld, GL.wMtd, GL.wMake, GL.wSetFld, GL.wLrg, GL.wTrg, GL.q_dictP, GL.wInd, $[$xs:ident],*] $[$loc]?)
namespace GL
open PySem K01
def cNeedC (n : Nat) : GC0 := fun args S Q => ∃ c : Con, args = [c.d] ∧ c.ok ∧ c.nodes ≤ 1000 ∧ c.dep + 3 ≤ n ∧ ∀ S', Sub S S' → Q .non S'
theorem Con.gdOf {c : Con} (h : c.ok) (hn : c.nodes ≤ 1000) (S : Store) : K01.GD S c.dep c.d := ⟨fun _ => True, 12, 4 * c.nodes, by decide, by omega, Con.gv c h⟩
theorem x_need_concept (T : Tb) (n : Nat) (hc : Has T "is_concept_value" (cCon n)) (args : List D) (S : Store) (Q : GQ) (h : cNeedC n args S Q) : wB_ T noW b_need_concept (fnEnd Q) (initE N_need_concept args) S := by
  obtain ⟨c, rfl, ok, hn, hd, h⟩ := h
  obtain ⟨F, e, u⟩ := hc
  simp only [b_need_concept, initE, N_need_concept]
  delta fnEnd e
  refine use2 u rfl ⟨c.d, c.dep, rfl, Con.gdOf ok hn S, hd, fun S1 s1 => ?_⟩
  rw [Con.isCon c ok]
  delta Bool.not_true
  exact ⟨S1, fun _ _ z => z, h S1 s1⟩
def cNeedW : GC0 := fun args S Q => ∃ w : Wm, args = [w.d] ∧ w.Ok ∧ ∀ S', Sub S S' → Q .non S'
theorem Wm.kg {w : Wm} (h : w.Ok) (S : Store) : KG S w.d := ⟨fun _ => True, 12, 5, 1000, by decide, by decide, Wm.gv h⟩
theorem x_need_world (T : Tb) (hc : Has T "is_world_value" (cPure1 isWorld)) (args : List D) (S : Store) (Q : GQ) (h : cNeedW args S Q) : wB_ T noW b_need_world (fnEnd Q) (initE N_need_world args) S := by
  obtain ⟨w, rfl, ok, h⟩ := h
  obtain ⟨F, e, u⟩ := hc
  simp only [b_need_world, initE, N_need_world]
  delta fnEnd e
  refine use2 u rfl ⟨w.d, rfl, Wm.kg ok S, fun S1 s1 => ?_⟩
  rw [isWorld_ok ok]
  delta Bool.not_true
  exact ⟨S1, fun _ _ z => z, h S1 s1⟩
def cText (n : Nat) : GC0 := fun args S Q => ∃ c : Con, args = [c.d] ∧ c.ok ∧ c.nodes ≤ 1000 ∧ c.dep ≤ n ∧ ∀ S', Sub S S' → Q (.str c.txt) S'
theorem x_text_of (T : Tb) (n : Nat) (hc : Has T "text_of" (cText n)) (v1 : HasV T "WORD" (.str "word")) (v2 : HasV T "AND" (.str "and")) (v3 : HasV T "SOME" (.str "some")) (args : List D) (S : Store) (Q : GQ) (h : cText (n + 1) args S Q) :
    wB_ T noW b_text_of (fnEnd Q) (initE N_text_of args) S := by
  obtain ⟨c, rfl, ok, hn, hd, h⟩ := h
  obtain ⟨F, e, u⟩ := hc
  simp only [b_text_of, initE, N_text_of]
  unfold HasV at v1 v2 v3
  have lz : 100000 < sizeLine := by decide
  cases c with
  | all =>
    simp only [Con.d]
    delta fnEnd v1 v2 v3 e eqT_str l_all_word l_all_and l_all_some
    exact ⟨S, fun _ _ z => z, h S (Sub.refl S)⟩
  | none =>
    simp only [Con.d]
    delta fnEnd v1 v2 v3 e eqT_str l_none_word l_none_and l_none_some
    exact ⟨S, fun _ _ z => z, h S (Sub.refl S)⟩
  | word s =>
    simp only [Con.d]
    delta fnEnd v1 v2 v3 e eqT_str l_word_word
    exact ⟨S, fun _ _ z => z, h S (Sub.refl S)⟩
  | and c d =>
    simp only [Con.d]
    delta fnEnd v1 v2 v3 e eqT_str l_and_word l_and_and
    simp only [Con.nodes, Con.dep] at hn hd
    have t1 := Con.txt_len c ok.1
    have t2 := Con.txt_len d ok.2
    refine use2 u rfl ⟨c, rfl, ok.1, by omega, by omega, fun S1 s1 => ?_⟩
    refine ⟨?_, ?_, use2 u rfl ⟨d, rfl, ok.2, by omega, by omega, fun S2 s2 => ?_⟩⟩
    · rw [show (("(" : Str)).length = 1 from rfl]; omega
    · rw [strLen_append, show (("(" : Str)).length = 1 from rfl, show ((" and " : Str)).length = 5 from rfl]; omega
    · refine ⟨?_, ?_, S2, fun _ _ z => z, h S2 (s1.trans s2)⟩
      · rw [strLen_append, strLen_append, show (("(" : Str)).length = 1 from rfl, show ((" and " : Str)).length = 5 from rfl]; omega
      · rw [strLen_append, strLen_append, strLen_append, show (("(" : Str)).length = 1 from rfl, show ((" and " : Str)).length = 5 from rfl, show ((")" : Str)).length = 1 from rfl]; omega
  | some r c =>
    simp only [Con.d]
    delta fnEnd v1 v2 v3 e eqT_str l_some_word l_some_and l_some_some
    simp only [Con.nodes, Con.dep] at hn hd
    have t1 := Con.txt_len c ok.2
    have t2 := ok.1.parts.2.1
    refine ⟨?_, ?_, use2 u rfl ⟨c, rfl, ok.2, by omega, by omega, fun S1 s1 => ?_⟩⟩
    · rw [show (("some " : Str)).length = 5 from rfl]; omega
    · rw [strLen_append, show (("some " : Str)).length = 5 from rfl, show ((" " : Str)).length = 1 from rfl]; omega
    · refine ⟨?_, S1, fun _ _ z => z, h S1 s1⟩
      rw [strLen_append, strLen_append, show (("some " : Str)).length = 5 from rfl, show ((" " : Str)).length = 1 from rfl]; omega
end GL
end

-- W6d
section
local macro_rules | `(tactic| walk_at "gl") => `(tactic| simp only [GL.wB_, GL.wS, GL.wSeq, GL.wRet, GL.w, GL.both, GL.wAndE, GL.wOrE, GL.wSlot, GL.wAs, GL.wCons, GL.wNil, GL.wVal, GL.wB, GL.wCmp, GL.wCmp2, GL.wBin, GL.wUn, GL.wNot, GL.wAnd, GL.wOr, GL.wIfE, GL.wIf, GL.wTup, GL.wLst, GL.wSlc, GL.wNoP, GL.wPart, GL.wO, GL.wC, GL.wI, GL.wG, GL.wGs, GL.wIt, GL.wRange1, GL.wRange2, GL.wEnum, GL.wZip, GL.wgName, GL.wgTup, GL.wgCons, GL.wgNil, GL.wAsg, GL.wDrop, GL.wSkip, GL.wPar, GL.wSetIx, GL.wTru, GL.wFor, GL.wLc, GL.wMth, GL.wCall, GL.wCallK, GL.wPs, GL.wPairs, GL.q_len, GL.q_isi, GL.q_int, GL.q_list, GL.q_tupt, GL.q_tupr, GL.q_all, GL.q_any, GL.q_max2, GL.q_min2, GL.q_sorted, GL.q_stri, GL.q_strs, GL.q_strb, GL.q_repr, GL.q_dict, GL.q_sum, GL.q_addi, GL.q_adds, GL.q_addt, GL.q_addl, GL.q_addb, GL.q_subi, GL.q_subb, GL.q_muls, GL.q_muli, GL.q_divi, GL.q_modi, GL.q_powi, GL.q_negi, GL.q_negb, GL.q_eq, GL.q_ne, GL.q_lti, GL.q_lei, GL.q_gti, GL.q_gei, GL.q_lts, GL.q_ins, GL.q_nins, GL.q_int_, GL.q_inl, GL.q_nint, GL.q_ninl, GL.q_trb, GL.q_tri, GL.q_ixt, GL.q_ixs, GL.q_slt, GL.q_sls, GL.q_revt, GL.ix_lst, GL.q_dct0, GL.ik_non_tup, GL.ik_non_int, GL.ik_non_str, GL.ik_non_lst, GL.ik_non_bl, GL.ik_non_dct, GL.ik_bl_tup, GL.ik_bl_int, GL.ik_bl_str, GL.ik_bl_lst, GL.ik_bl_bl, GL.ik_bl_dct, GL.ik_int_tup, GL.ik_int_int, GL.ik_int_str, GL.ik_int_lst, GL.ik_int_bl, GL.ik_int_dct, GL.ik_str_tup, GL.ik_str_int, GL.ik_str_str, GL.ik_str_lst, GL.ik_str_bl, GL.ik_str_dct, GL.ik_tup_tup, GL.ik_tup_int, GL.ik_tup_str, GL.ik_tup_lst, GL.ik_tup_bl, GL.ik_tup_dct, GL.ik_lst_tup, GL.ik_lst_int, GL.ik_lst_str, GL.ik_lst_lst, GL.ik_lst_bl, GL.ik_lst_dct, GL.ik_dct_tup, GL.ik_dct_int, GL.ik_dct_str, GL.ik_dct_lst, GL.ik_dct_bl, GL.ik_dct_dct, GL.q_st, GL.q_sf, GL.q_lt, List.cons.injEq, GL.at0, GL.at1, GL.at2, GL.q_itt, GL.q_its, GL.q_itr, GL.q_zt, GL.q_zr, GL.srcT, GL.srcL, GL.q_m1, GL.q_m2, GL.q_m3, GL.q_m4, GL.q_m5, GL.q_m6, GL.q_k1, GL.q_k2, GL.q_k3, GL.q_k4, GL.q_k5, exists_and_left, GL.q_ixr, GL.q_ixi, GL.q_setr, GL.q_slr, GL.q_revr, GL.q_kr, GL.q_lr, GL.q_sr, GL.q_vr, GL.put_same, GL.put_put, GL.keyD, GL.wNew, GL.Cell.dct.injEq, GL.Cell.lst.injEq, GL.D.int.injEq, GL.D.str.injEq, GL.D.ref.injEq, GL.D.tup.injEq, reduceCtorEq, false_and, and_false, or_false, false_or, exists_false, exists_const, and_assoc, GL.q_app, GL.q_ext, GL.q_pop, GL.q_get2, GL.q_join, GL.q_upper, GL.GTgs.len, GL.GTg.slots, GL.GTgs.slots, GL.GXs.len, GL.wipeE, List.getElem?_cons_zero, List.getElem?_cons_succ, List.set_cons_zero, List.set_cons_succ, Option.some.injEq, exists_eq_left', exists_eq_left, List.map_cons, List.map_nil, List.length_cons, List.length_nil, List.replicate_succ, List.replicate_zero, List.cons_append, List.nil_append, List.zip_cons_cons, List.zip_nil_right, List.foldl_cons, List.foldl_nil, Nat.reduceAdd, Nat.reduceSub, true_and, and_true, ↓reduceIte, Bool.false_eq_true, GL.wFld, GL.wMtd, GL.wMake, GL.wSetFld, GL.wLrg, GL.wTrg, GL.q_dictP, GL.wInd])
local macro_rules | `(tactic| delta $xs* $[$loc]?) => `(tactic| simp only [GL.wB_, GL.wS, GL.wSeq, GL.wRet, GL.w, GL.both, GL.wAndE, GL.wOrE, GL.wSlot, GL.wAs, GL.wCons, GL.wNil, GL.wVal, GL.wB, GL.wCmp, GL.wCmp2, GL.wBin, GL.wUn, GL.wNot, GL.wAnd, GL.wOr, GL.wIfE, GL.wIf, GL.wTup, GL.wLst, GL.wSlc, GL.wNoP, GL.wPart, GL.wO, GL.wC, GL.wI, GL.wG, GL.wGs, GL.wIt, GL.wRange1, GL.wRange2, GL.wEnum, GL.wZip, GL.wgName, GL.wgTup, GL.wgCons, GL.wgNil, GL.wAsg, GL.wDrop, GL.wSkip, GL.wPar, GL.wSetIx, GL.wTru, GL.wFor, GL.wLc, GL.wMth, GL.wCall, GL.wCallK, GL.wPs, GL.wPairs, GL.q_len, GL.q_isi, GL.q_int, GL.q_list, GL.q_tupt, GL.q_tupr, GL.q_all, GL.q_any, GL.q_max2, GL.q_min2, GL.q_sorted, GL.q_stri, GL.q_strs, GL.q_strb, GL.q_repr, GL.q_dict, GL.q_sum, GL.q_addi, GL.q_adds, GL.q_addt, GL.q_addl, GL.q_addb, GL.q_subi, GL.q_subb, GL.q_muls, GL.q_muli, GL.q_divi, GL.q_modi, GL.q_powi, GL.q_negi, GL.q_negb, GL.q_eq, GL.q_ne, GL.q_lti, GL.q_lei, GL.q_gti, GL.q_gei, GL.q_lts, GL.q_ins, GL.q_nins, GL.q_int_, GL.q_inl, GL.q_nint, GL.q_ninl, GL.q_trb, GL.q_tri, GL.q_ixt, GL.q_ixs, GL.q_slt, GL.q_sls, GL.q_revt, GL.ix_lst, GL.q_dct0, GL.ik_non_tup, GL.ik_non_int, GL.ik_non_str, GL.ik_non_lst, GL.ik_non_bl, GL.ik_non_dct, GL.ik_bl_tup, GL.ik_bl_int, GL.ik_bl_str, GL.ik_bl_lst, GL.ik_bl_bl, GL.ik_bl_dct, GL.ik_int_tup, GL.ik_int_int, GL.ik_int_str, GL.ik_int_lst, GL.ik_int_bl, GL.ik_int_dct, GL.ik_str_tup, GL.ik_str_int, GL.ik_str_str, GL.ik_str_lst, GL.ik_str_bl, GL.ik_str_dct, GL.ik_tup_tup, GL.ik_tup_int, GL.ik_tup_str, GL.ik_tup_lst, GL.ik_tup_bl, GL.ik_tup_dct, GL.ik_lst_tup, GL.ik_lst_int, GL.ik_lst_str, GL.ik_lst_lst, GL.ik_lst_bl, GL.ik_lst_dct, GL.ik_dct_tup, GL.ik_dct_int, GL.ik_dct_str, GL.ik_dct_lst, GL.ik_dct_bl, GL.ik_dct_dct, GL.q_st, GL.q_sf, GL.q_lt, List.cons.injEq, GL.at0, GL.at1, GL.at2, GL.q_itt, GL.q_its, GL.q_itr, GL.q_zt, GL.q_zr, GL.srcT, GL.srcL, GL.q_m1, GL.q_m2, GL.q_m3, GL.q_m4, GL.q_m5, GL.q_m6, GL.q_k1, GL.q_k2, GL.q_k3, GL.q_k4, GL.q_k5, exists_and_left, GL.q_ixr, GL.q_ixi, GL.q_setr, GL.q_slr, GL.q_revr, GL.q_kr, GL.q_lr, GL.q_sr, GL.q_vr, GL.put_same, GL.put_put, GL.keyD, GL.wNew, GL.Cell.dct.injEq, GL.Cell.lst.injEq, GL.D.int.injEq, GL.D.str.injEq, GL.D.ref.injEq, GL.D.tup.injEq, reduceCtorEq, false_and, and_false, or_false, false_or, exists_false, exists_const, and_assoc, GL.q_app, GL.q_ext, GL.q_pop, GL.q_get2, GL.q_join, GL.q_upper, GL.GTgs.len, GL.GTg.slots, GL.GTgs.slots, GL.GXs.len, GL.wipeE, List.getElem?_cons_zero, List.getElem?_cons_succ, List.set_cons_zero, List.set_cons_succ, Option.some.injEq, exists_eq_left', exists_eq_left, List.map_cons, List.map_nil, List.length_cons, List.length_nil, List.replicate_succ, List.replicate_zero, List.cons_append, List.nil_append, List.zip_cons_cons, List.zip_nil_right, List.foldl_cons, List.foldl_nil, Nat.reduceAdd, Nat.reduceSub, true_and, and_true, ↓reduceIte, Bool.false_eq_true, GL.wFld, GL.wMtd, GL.wMake, GL.wSetFld, GL.wLrg, GL.wTrg, GL.q_dictP, GL.wInd, $[$xs:ident],*] $[$loc]?)
namespace GL
open PySem K01
/-! ### dicts -/
theorem valD_mem {kvs : List (L2.Key × D)} {k : L2.Key} {d : D} (h : valD kvs k = some d) : (k, d) ∈ kvs := by
  unfold valD at h
  cases e : kvs.find? (fun kv => decide (kv.1 = k)) with
  | none => (rw [e] at h; cases h)
  | some q =>
    rw [e] at h
    cases h
    have h1 := List.mem_of_find?_eq_some e
    have h2 := List.find?_some e
    rw [decide_eq_true_eq] at h2
    rw [← h2]
    exact h1
theorem valD_none {kvs : List (L2.Key × D)} {k : L2.Key} (h : valD kvs k = none) : (kvs.any fun kv => decide (kv.1 = k)) = false := by
  unfold valD at h
  rw [Option.map_eq_none_iff, List.find?_eq_none] at h
  rw [List.any_eq_false]
  exact h
theorem valD_put {kvs : List (L2.Key × D)} {k : L2.Key} {d : D} : valD (putD kvs k d) k = some d := by
  unfold putD
  split
  · rename_i h
    induction kvs with
    | nil => cases h
    | cons q r ih =>
      by_cases e : q.1 = k
      · simp [valD, List.find?_cons, e]
      · rw [List.any_cons, decide_eq_false e, Bool.false_or] at h
        have := ih h
        simp only [valD, List.map_cons, List.find?_cons, if_neg e, decide_eq_false e] at this ⊢
        exact this
  · rename_i h
    rw [Bool.not_eq_true] at h
    unfold valD
    rw [List.find?_append, List.find?_eq_none.mpr (by rw [List.any_eq_false] at h; exact h)]
    simp
theorem putD_mem {kvs : List (L2.Key × D)} {k : L2.Key} {d : D} {q : L2.Key × D} (h : q ∈ putD kvs k d) : q ∈ kvs ∨ q = (k, d) := by
  unfold putD at h
  split at h
  · obtain ⟨r, hr, e⟩ := List.mem_map.mp h
    split at e
    · rename_i e2
      right
      rw [← e, e2]
    · left
      rw [← e]
      exact hr
  · (rcases List.mem_append.mp h with h | h)
    · exact .inl h
    · (exact .inr (List.mem_singleton.mp h))
theorem putD_len {kvs : List (L2.Key × D)} {k : L2.Key} {d : D} : (putD kvs k d).length ≤ kvs.length + 1 := by
  unfold putD
  split
  · rw [List.length_map]; omega
  · rw [List.length_append]; exact Nat.le_refl _
/-- a dict of pairs that have unlike keys -/
theorem merge_new : ∀ {more : List (L2.Key × D)} {kvs : List (L2.Key × D)}, (kvs.map (·.1) ++ more.map (·.1)).Nodup → mergeD kvs more = kvs ++ more
  | [], kvs, _ => by simp [mergeD]
  | q :: r, kvs, h => by
    have e : putD kvs q.1 q.2 = kvs ++ [q] := by
      unfold putD
      rw [if_neg]
      intro hc
      obtain ⟨x, hx, e⟩ := List.any_eq_true.mp hc
      rw [decide_eq_true_eq] at e
      rw [List.nodup_append] at h
      exact h.2.2 _ (List.mem_map_of_mem hx) q.1 (by simp) e
    show mergeD (putD kvs q.1 q.2) r = _
    rw [e, merge_new (by rw [List.map_append, List.append_assoc]; simpa using h), List.append_assoc]
    rfl
theorem in_ints {S : Store} {x : Int} (l : List Int) : (l.map D.int).mapM (fun y => eqF S 60 y (.int x)) = some (l.map (· == x)) := by
  induction l with
  | nil => rfl
  | cons y l ih => rw [List.map_cons, List.mapM_cons, ih]; rfl
theorem any_in (l : List Int) (x : Int) : (l.map (· == x)).any id = decide (x ∈ l) := by
  induction l with
  | nil => rfl
  | cons y l ih =>
    rw [List.map_cons, List.any_cons, ih]
    by_cases e : y = x
    · subst e; simp
    · simp [e, Ne.symm e]
theorem in_tup {S : Store} {x : Int} {l : List Int} {R : GT} (h : R (decide (x ∈ l)) S) : cmpD .In (.int x) (.tup (l.map D.int)) S R := by
  rw [q_int_]
  exact ⟨_, _, _, rfl, in_ints l, by rw [any_in]; exact h⟩
theorem notin_tup {S : Store} {x : Int} {l : List Int} {R : GT} (h : R (!decide (x ∈ l)) S) : cmpD .NotIn (.int x) (.tup (l.map D.int)) S R := by
  rw [q_nint]
  exact ⟨_, _, _, rfl, in_ints l, by rw [any_in]; exact h⟩
/-! ### the scene -/
def dnK (w : Wm) : List (L2.Key × D) := w.names.map fun p => (.inr p.1, .tup (p.2.map D.int))
def dtK (w : Wm) : List (L2.Key × D) := w.roles.map fun p => (.inr p.1, .tup (p.2.map pD))
theorem val_look {α : Type} (f : α → D) (s : Str) : ∀ (l : List (Str × α)), valD (l.map fun p => (Sum.inr p.1, f p.2)) (.inr s) = (l.lookup s).map f
  | [] => rfl
  | (k, a) :: l => by
    have ih := val_look f s l
    simp only [valD, List.map_cons, List.find?_cons, List.lookup_cons] at ih ⊢
    by_cases e : k = s
    · subst e; simp
    · have e1 : decide ((Sum.inr k : L2.Key) = Sum.inr s) = false := decide_eq_false fun h => e (by injection h)
      have e2 : (s == k) = false := by simpa using fun h => e h.symm
      rw [e1, e2]
      exact ih
theorem val_dn (w : Wm) (s : Str) : (valD (dnK w) (.inr s)).getD (.tup []) = .tup ((w.named s).map D.int) := by
  unfold dnK Wm.named
  rw [val_look (fun (is : List Int) => D.tup (is.map D.int))]
  cases w.names.lookup s <;> rfl
theorem val_dt (w : Wm) (s : Str) : (valD (dtK w) (.inr s)).getD (.tup []) = .tup ((w.ties s).map pD) := by
  unfold dtK Wm.ties
  rw [val_look (fun (is : List (Int × Int)) => D.tup (is.map pD))]
  cases w.roles.lookup s <;> rfl
theorem pairs_rows {α : Type} (f : α → D) : ∀ (l : List (Str × α)), pairsD (l.map fun p => D.tup [.str p.1, f p.2]) = some (l.map fun p => (Sum.inr p.1, f p.2))
  | [] => rfl
  | (k, a) :: l => by
    have ih := pairs_rows f l
    simp only [List.map_cons, pairsD, ih, pairD, keyD]
    rfl
theorem keys_nodup {α : Type} (f : α → D) {l : List (Str × α)} (h : (l.map (·.1)).Pairwise ltS) : ((l.map fun p => ((Sum.inr p.1 : L2.Key), f p.2)).map (·.1)).Nodup := by
  have e : (l.map fun p => ((Sum.inr p.1 : L2.Key), f p.2)).map (·.1) = (l.map (·.1)).map Sum.inr := by rw [List.map_map, List.map_map]; rfl
  rw [e]
  unfold List.Nodup
  rw [List.pairwise_map]
  exact h.imp fun {a b} hab e => by
    injection e with e
    subst e
    exact ltS_irr _ hab
theorem dn_merge {w : Wm} (h : w.Ok) : pairsD (w.names.map nrow) = some (dnK w) ∧ mergeD [] (dnK w) = dnK w :=
  ⟨pairs_rows (fun (is : List Int) => D.tup (is.map D.int)) w.names, merge_new (kvs := []) (keys_nodup (fun (is : List Int) => D.tup (is.map D.int)) h.nk)⟩
theorem dt_merge {w : Wm} (h : w.Ok) : pairsD (w.roles.map rrow) = some (dtK w) ∧ mergeD [] (dtK w) = dtK w :=
  ⟨pairs_rows (fun (is : List (Int × Int)) => D.tup (is.map pD)) w.roles, merge_new (kvs := []) (keys_nodup (fun (is : List (Int × Int)) => D.tup (is.map pD)) h.rk)⟩
def scF (m : Int) (x y z : Addr) : List (Str × D) := [("many", .int m), ("named", .ref x), ("ties", .ref y), ("known", .ref z)]
section
variable {m : Int} {x y z : Addr}
theorem scF_many : (scF m x y z).lookup ("many" : Str) = some (.int m) := by kernel_rfl
theorem scF_named : (scF m x y z).lookup ("named" : Str) = some (.ref x) := by kernel_rfl
theorem scF_ties : (scF m x y z).lookup ("ties" : Str) = some (.ref y) := by kernel_rfl
theorem scF_known : (scF m x y z).lookup ("known" : Str) = some (.ref z) := by kernel_rfl
theorem scF_things : (scF m x y z).lookup ("things" : Str) = none := by kernel_rfl
theorem scF_found : (scF m x y z).lookup ("found" : Str) = none := by kernel_rfl
theorem scF_outside : (scF m x y z).lookup ("outside" : Str) = none := by kernel_rfl
theorem scF_make : putFD "known" (.ref z) (putFD "ties" (.ref y) (putFD "named" (.ref x) (putFD "many" (.int m) []))) = scF m x y z := by kernel_rfl
end
def KnOk (w : Wm) (kvs : List (L2.Key × D)) : Prop := ∀ q ∈ kvs, ∃ c : Con, c.ok ∧ q = (.inr c.txt, semD w c)
structure Sne (S : Store) (p x y z : Addr) (w : Wm) (N : Nat) : Prop where
  ne : z ≠ p ∧ z ≠ x ∧ z ≠ y
  at_ : S p = some (.ins "Scene" (scF w.many x y z))
  nm : S x = some (.dct (dnK w))
  ti : S y = some (.dct (dtK w))
  kn : ∃ kvs, S z = some (.dct kvs) ∧ KnOk w kvs ∧ kvs.length ≤ N
/-- all but one cell is as it was, there may be more -/
def FrZ (z : Addr) (S S' : Store) : Prop := ∀ a c, a ≠ z → S a = some c → S' a = some c
theorem FrZ.refl {z : Addr} (S : Store) : FrZ z S S := fun _ _ _ h => h
theorem FrZ.trans {z : Addr} {S1 S2 S3 : Store} (h : FrZ z S1 S2) (k : FrZ z S2 S3) : FrZ z S1 S3 := fun a c n e => k a c n (h a c n e)
theorem Sub.frz {z : Addr} {S S' : Store} (h : Sub S S') : FrZ z S S' := fun a c _ e => h a c e
theorem FrZ.put {z : Addr} {S : Store} {c : Cell} : FrZ z S (GL.put S z c) := fun a c' n e => by rw [put_ne n]; exact e
theorem Sne.sub {S S' : Store} {p x y z : Addr} {w : Wm} {N : Nat} (h : Sne S p x y z w N) (s : Sub S S') : Sne S' p x y z w N := by
  obtain ⟨kvs, h1, h2⟩ := h.kn
  exact ⟨h.ne, s _ _ h.at_, s _ _ h.nm, s _ _ h.ti, kvs, s _ _ h1, h2⟩
theorem Sne.up {S : Store} {p x y z : Addr} {w : Wm} {N M : Nat} (h : Sne S p x y z w N) (k : N ≤ M) : Sne S p x y z w M := by
  obtain ⟨kvs, h1, h2, h3⟩ := h.kn
  exact ⟨h.ne, h.at_, h.nm, h.ti, kvs, h1, h2, Nat.le_trans h3 k⟩
theorem Sne.put {S : Store} {p x y z : Addr} {w : Wm} {N : Nat} {kvs : List (L2.Key × D)} {c : Con} (h : Sne S p x y z w N) (hk : S z = some (.dct kvs)) (ok : c.ok) : Sne (GL.put S z (.dct (putD kvs (.inr c.txt) (semD w c)))) p x y z w (N + 1) := by
  obtain ⟨kvs', h1, h2, h3⟩ := h.kn
  rw [hk] at h1; cases h1
  refine ⟨h.ne, by rw [put_ne h.ne.1.symm]; exact h.at_, by rw [put_ne h.ne.2.1.symm]; exact h.nm, by rw [put_ne h.ne.2.2.symm]; exact h.ti, _, put_same, fun q hq => ?_, ?_⟩
  · rcases putD_mem hq with hq | hq
    · exact h2 q hq
    · exact ⟨c, ok, hq⟩
  · have := putD_len (kvs := kvs) (k := .inr c.txt) (d := semD w c)
    omega
def cThings (n : Nat) : GC0 := fun args S Q => ∃ p x y z w, ∃ c : Con, ∃ N, args = [.ref p, c.d] ∧ Sne S p x y z w N ∧ w.Ok ∧ c.ok ∧ c.nodes ≤ 1000 ∧ c.dep ≤ 40 ∧ 2 * c.dep ≤ n ∧ N + c.nodes ≤ 100000 ∧
  ∀ S', Sne S' p x y z w (N + c.nodes) → FrZ z S S' → Q (semD w c) S'
def cFound (n : Nat) : GC0 := fun args S Q => ∃ p x y z w, ∃ c : Con, ∃ N, args = [.ref p, c.d] ∧ Sne S p x y z w N ∧ w.Ok ∧ c.ok ∧ c.nodes ≤ 1000 ∧ c.dep ≤ 40 ∧ 2 * c.dep ≤ n + 1 ∧ N + c.nodes ≤ 100000 ∧
  ∀ S', Sne S' p x y z w (N + (c.nodes - 1)) → FrZ z S S' → Q (semD w c) S'
theorem x_things (T : Tb) (n : Nat) (ht : Has T "text_of" (cText 40)) (hf : HasM T "Scene" "found" (cFound n)) (hk : T.cls "Scene" "known" = true) (args : List D) (S : Store) (Q : GQ) (h : cThings (n + 1) args S Q) :
    wB_ T noW b_Scene_things (fnEnd Q) (initE N_Scene_things args) S := by
  obtain ⟨p, x, y, z, w, c, N, rfl, sc, wok, ok, hn, h40, hd, hN, h⟩ := h
  obtain ⟨Ft, et, ut⟩ := ht
  obtain ⟨Ff, ef, uf⟩ := hf
  simp only [b_Scene_things, initE, N_Scene_things]
  delta fnEnd et
  refine use2 ut rfl ⟨c, rfl, ok, hn, h40, fun S1 s1 => ?_⟩
  have sc1 := sc.sub s1
  obtain ⟨kvs, k1, k2, k3⟩ := sc1.kn
  have p1 := sc1.at_
  delta p1 hk scF_known k1 Cell.ins.injEq
  cases ev : valD kvs (.inr c.txt) with
  | none =>
    rw [if_pos (by rfl)]
    refine ⟨scF_found, Ff, ef, use2 uf rfl ⟨p, x, y, z, w, c, N, rfl, sc1, wok, ok, hn, h40, by omega, hN, fun S2 sc2 f2 => ?_⟩⟩
    obtain ⟨kvs2, q1, q2, q3⟩ := sc2.kn
    have p2 := sc2.at_
    have sc3 := sc2.put q1 ok
    have p3 := sc3.at_
    have hc := Con.nodes_pos c
    delta p2 hk scF_known q1 Cell.ins.injEq p3 valD_put
    exact ⟨Nat.lt_of_le_of_lt (m := 100000) (by omega) (by decide), _, fun _ _ z => z, h _ (sc3.up (by omega)) ((s1.frz.trans f2).trans FrZ.put)⟩
  | some d =>
    rw [if_neg (show ¬ (true != (some d).isSome) = true by intro z; cases z)]
    obtain ⟨c', ok', e⟩ := k2 _ (valD_mem ev)
    injection e with e1 e2
    injection e1 with e1
    obtain rfl := Con.inj ok ok' e1
    subst e2
    exact ⟨_, rfl, S1, fun _ _ z => z, h S1 (sc1.up (by omega)) s1.frz⟩
end GL
end

-- W6e
section
local macro_rules | `(tactic| walk_at "gl") => `(tactic| simp only [GL.wB_, GL.wS, GL.wSeq, GL.wRet, GL.w, GL.both, GL.wAndE, GL.wOrE, GL.wSlot, GL.wAs, GL.wCons, GL.wNil, GL.wVal, GL.wB, GL.wCmp, GL.wCmp2, GL.wBin, GL.wUn, GL.wNot, GL.wAnd, GL.wOr, GL.wIfE, GL.wIf, GL.wTup, GL.wLst, GL.wSlc, GL.wNoP, GL.wPart, GL.wO, GL.wC, GL.wI, GL.wG, GL.wGs, GL.wIt, GL.wRange1, GL.wRange2, GL.wEnum, GL.wZip, GL.wgName, GL.wgTup, GL.wgCons, GL.wgNil, GL.wAsg, GL.wDrop, GL.wSkip, GL.wPar, GL.wSetIx, GL.wTru, GL.wFor, GL.wLc, GL.wMth, GL.wCall, GL.wCallK, GL.wPs, GL.wPairs, GL.q_len, GL.q_isi, GL.q_int, GL.q_list, GL.q_tupt, GL.q_tupr, GL.q_all, GL.q_any, GL.q_max2, GL.q_min2, GL.q_sorted, GL.q_stri, GL.q_strs, GL.q_strb, GL.q_repr, GL.q_dict, GL.q_sum, GL.q_addi, GL.q_adds, GL.q_addt, GL.q_addl, GL.q_addb, GL.q_subi, GL.q_subb, GL.q_muls, GL.q_muli, GL.q_divi, GL.q_modi, GL.q_powi, GL.q_negi, GL.q_negb, GL.q_eq, GL.q_ne, GL.q_lti, GL.q_lei, GL.q_gti, GL.q_gei, GL.q_lts, GL.q_ins, GL.q_nins, GL.q_int_, GL.q_inl, GL.q_nint, GL.q_ninl, GL.q_trb, GL.q_tri, GL.q_ixt, GL.q_ixs, GL.q_slt, GL.q_sls, GL.q_revt, GL.ix_lst, GL.q_dct0, GL.ik_non_tup, GL.ik_non_int, GL.ik_non_str, GL.ik_non_lst, GL.ik_non_bl, GL.ik_non_dct, GL.ik_bl_tup, GL.ik_bl_int, GL.ik_bl_str, GL.ik_bl_lst, GL.ik_bl_bl, GL.ik_bl_dct, GL.ik_int_tup, GL.ik_int_int, GL.ik_int_str, GL.ik_int_lst, GL.ik_int_bl, GL.ik_int_dct, GL.ik_str_tup, GL.ik_str_int, GL.ik_str_str, GL.ik_str_lst, GL.ik_str_bl, GL.ik_str_dct, GL.ik_tup_tup, GL.ik_tup_int, GL.ik_tup_str, GL.ik_tup_lst, GL.ik_tup_bl, GL.ik_tup_dct, GL.ik_lst_tup, GL.ik_lst_int, GL.ik_lst_str, GL.ik_lst_lst, GL.ik_lst_bl, GL.ik_lst_dct, GL.ik_dct_tup, GL.ik_dct_int, GL.ik_dct_str, GL.ik_dct_lst, GL.ik_dct_bl, GL.ik_dct_dct, GL.q_st, GL.q_sf, GL.q_lt, List.cons.injEq, GL.at0, GL.at1, GL.at2, GL.q_itt, GL.q_its, GL.q_itr, GL.q_zt, GL.q_zr, GL.srcT, GL.srcL, GL.q_m1, GL.q_m2, GL.q_m3, GL.q_m4, GL.q_m5, GL.q_m6, GL.q_k1, GL.q_k2, GL.q_k3, GL.q_k4, GL.q_k5, exists_and_left, GL.q_ixr, GL.q_ixi, GL.q_setr, GL.q_slr, GL.q_revr, GL.q_kr, GL.q_lr, GL.q_sr, GL.q_vr, GL.put_same, GL.put_put, GL.keyD, GL.wNew, GL.Cell.dct.injEq, GL.Cell.lst.injEq, GL.D.int.injEq, GL.D.str.injEq, GL.D.ref.injEq, GL.D.tup.injEq, reduceCtorEq, false_and, and_false, or_false, false_or, exists_false, exists_const, and_assoc, GL.q_app, GL.q_ext, GL.q_pop, GL.q_get2, GL.q_join, GL.q_upper, GL.GTgs.len, GL.GTg.slots, GL.GTgs.slots, GL.GXs.len, GL.wipeE, List.getElem?_cons_zero, List.getElem?_cons_succ, List.set_cons_zero, List.set_cons_succ, Option.some.injEq, exists_eq_left', exists_eq_left, List.map_cons, List.map_nil, List.length_cons, List.length_nil, List.replicate_succ, List.replicate_zero, List.cons_append, List.nil_append, List.zip_cons_cons, List.zip_nil_right, List.foldl_cons, List.foldl_nil, Nat.reduceAdd, Nat.reduceSub, true_and, and_true, ↓reduceIte, Bool.false_eq_true, GL.wFld, GL.wMtd, GL.wMake, GL.wSetFld, GL.wLrg, GL.wTrg, GL.q_dictP, GL.wInd])
local macro_rules | `(tactic| delta $xs* $[$loc]?) => `(tactic| simp only [GL.wB_, GL.wS, GL.wSeq, GL.wRet, GL.w, GL.both, GL.wAndE, GL.wOrE, GL.wSlot, GL.wAs, GL.wCons, GL.wNil, GL.wVal, GL.wB, GL.wCmp, GL.wCmp2, GL.wBin, GL.wUn, GL.wNot, GL.wAnd, GL.wOr, GL.wIfE, GL.wIf, GL.wTup, GL.wLst, GL.wSlc, GL.wNoP, GL.wPart, GL.wO, GL.wC, GL.wI, GL.wG, GL.wGs, GL.wIt, GL.wRange1, GL.wRange2, GL.wEnum, GL.wZip, GL.wgName, GL.wgTup, GL.wgCons, GL.wgNil, GL.wAsg, GL.wDrop, GL.wSkip, GL.wPar, GL.wSetIx, GL.wTru, GL.wFor, GL.wLc, GL.wMth, GL.wCall, GL.wCallK, GL.wPs, GL.wPairs, GL.q_len, GL.q_isi, GL.q_int, GL.q_list, GL.q_tupt, GL.q_tupr, GL.q_all, GL.q_any, GL.q_max2, GL.q_min2, GL.q_sorted, GL.q_stri, GL.q_strs, GL.q_strb, GL.q_repr, GL.q_dict, GL.q_sum, GL.q_addi, GL.q_adds, GL.q_addt, GL.q_addl, GL.q_addb, GL.q_subi, GL.q_subb, GL.q_muls, GL.q_muli, GL.q_divi, GL.q_modi, GL.q_powi, GL.q_negi, GL.q_negb, GL.q_eq, GL.q_ne, GL.q_lti, GL.q_lei, GL.q_gti, GL.q_gei, GL.q_lts, GL.q_ins, GL.q_nins, GL.q_int_, GL.q_inl, GL.q_nint, GL.q_ninl, GL.q_trb, GL.q_tri, GL.q_ixt, GL.q_ixs, GL.q_slt, GL.q_sls, GL.q_revt, GL.ix_lst, GL.q_dct0, GL.ik_non_tup, GL.ik_non_int, GL.ik_non_str, GL.ik_non_lst, GL.ik_non_bl, GL.ik_non_dct, GL.ik_bl_tup, GL.ik_bl_int, GL.ik_bl_str, GL.ik_bl_lst, GL.ik_bl_bl, GL.ik_bl_dct, GL.ik_int_tup, GL.ik_int_int, GL.ik_int_str, GL.ik_int_lst, GL.ik_int_bl, GL.ik_int_dct, GL.ik_str_tup, GL.ik_str_int, GL.ik_str_str, GL.ik_str_lst, GL.ik_str_bl, GL.ik_str_dct, GL.ik_tup_tup, GL.ik_tup_int, GL.ik_tup_str, GL.ik_tup_lst, GL.ik_tup_bl, GL.ik_tup_dct, GL.ik_lst_tup, GL.ik_lst_int, GL.ik_lst_str, GL.ik_lst_lst, GL.ik_lst_bl, GL.ik_lst_dct, GL.ik_dct_tup, GL.ik_dct_int, GL.ik_dct_str, GL.ik_dct_lst, GL.ik_dct_bl, GL.ik_dct_dct, GL.q_st, GL.q_sf, GL.q_lt, List.cons.injEq, GL.at0, GL.at1, GL.at2, GL.q_itt, GL.q_its, GL.q_itr, GL.q_zt, GL.q_zr, GL.srcT, GL.srcL, GL.q_m1, GL.q_m2, GL.q_m3, GL.q_m4, GL.q_m5, GL.q_m6, GL.q_k1, GL.q_k2, GL.q_k3, GL.q_k4, GL.q_k5, exists_and_left, GL.q_ixr, GL.q_ixi, GL.q_setr, GL.q_slr, GL.q_revr, GL.q_kr, GL.q_lr, GL.q_sr, GL.q_vr, GL.put_same, GL.put_put, GL.keyD, GL.wNew, GL.Cell.dct.injEq, GL.Cell.lst.injEq, GL.D.int.injEq, GL.D.str.injEq, GL.D.ref.injEq, GL.D.tup.injEq, reduceCtorEq, false_and, and_false, or_false, false_or, exists_false, exists_const, and_assoc, GL.q_app, GL.q_ext, GL.q_pop, GL.q_get2, GL.q_join, GL.q_upper, GL.GTgs.len, GL.GTg.slots, GL.GTgs.slots, GL.GXs.len, GL.wipeE, List.getElem?_cons_zero, List.getElem?_cons_succ, List.set_cons_zero, List.set_cons_succ, Option.some.injEq, exists_eq_left', exists_eq_left, List.map_cons, List.map_nil, List.length_cons, List.length_nil, List.replicate_succ, List.replicate_zero, List.cons_append, List.nil_append, List.zip_cons_cons, List.zip_nil_right, List.foldl_cons, List.foldl_nil, Nat.reduceAdd, Nat.reduceSub, true_and, and_true, ↓reduceIte, Bool.false_eq_true, GL.wFld, GL.wMtd, GL.wMake, GL.wSetFld, GL.wLrg, GL.wTrg, GL.q_dictP, GL.wInd, $[$xs:ident],*] $[$loc]?)
namespace GL
open PySem K01
theorem eq_all (c : Con) {S : Store} : eqT (eqF S 60) S c.d (.tup [.str "all"]) = some (match c with
    | .all => true
    | _ => false) := by
  cases c <;> simp [Con.d, eqT, vw, List.mapM_cons, eqF_str, l_all_all, l_none_all, l_word_all, l_and_all, l_some_all]
theorem eq_none (c : Con) {S : Store} : eqT (eqF S 60) S c.d (.tup [.str "none"]) = some (match c with
    | .none => true
    | _ => false) := by
  cases c <;> simp [Con.d, eqT, vw, List.mapM_cons, eqF_str, l_all_none, l_none_none, l_word_none, l_and_none, l_some_none]
theorem rng_d (w : Wm) : rangeD 0 (w.many : Int).toNat = w.rng.map D.int := by
  unfold rangeD Wm.rng
  rw [List.map_map, Int.toNat_natCast]
  exact List.map_congr_left fun i _ => by rw [Int.zero_add]; rfl
/-- the ints of a list that a test lets -/
def selI (p : Int → Bool) (d : D) : Option D := match d with
  | .int x => if p x then some (.int x) else none
  | _ => none
theorem selI_t {p : Int → Bool} {x : Int} (h : p x = true) : selI p (.int x) = some (.int x) := by simp only [selI]; rw [if_pos h]
theorem selI_f {p : Int → Bool} {x : Int} (h : p x = false) : selI p (.int x) = none := by simp only [selI]; rw [if_neg (by rw [h]; decide)]
theorem selI_map (p : Int → Bool) (l : List Int) : (l.map D.int).filterMap (selI p) = (l.filter p).map D.int := by
  induction l with
  | nil => rfl
  | cons x l ih =>
    rw [List.map_cons, List.filterMap_cons, List.filter_cons]
    simp only [selI]
    cases p x <;> simp [ih]
/-- the first ones of pairs whose second one a test lets -/
def selP (p : Int → Bool) (d : D) : Option D := match d with
  | .tup [.int x, .int y] => if p y then some (.int x) else none
  | _ => none
theorem selP_t {p : Int → Bool} {x : Int × Int} (h : p x.2 = true) : selP p (pD x) = some (.int x.1) := by simp only [selP, pD]; rw [if_pos h]
theorem selP_f {p : Int → Bool} {x : Int × Int} (h : p x.2 = false) : selP p (pD x) = none := by simp only [selP, pD]; rw [if_neg (by rw [h]; decide)]
theorem selP_map (p : Int → Bool) (l : List (Int × Int)) : (l.map pD).filterMap (selP p) = ((l.filter fun q => p q.2).map (·.1)).map D.int := by
  induction l with
  | nil => rfl
  | cons x l ih =>
    rw [List.map_cons, List.filterMap_cons, List.filter_cons]
    simp only [selP, pD]
    cases p x.2 <;> simp [ih]
theorem x_found (T : Tb) (n : Nat) (ht : HasM T "Scene" "things" (cThings n)) (k1 : T.cls "Scene" "many" = true) (k2 : T.cls "Scene" "named" = true) (k3 : T.cls "Scene" "ties" = true)
    (v1 : HasV T "ALL" (.tup [.str "all"])) (v2 : HasV T "NONE" (.tup [.str "none"])) (v3 : HasV T "WORD" (.str "word")) (v4 : HasV T "AND" (.str "and")) (args : List D) (S : Store) (Q : GQ) (h : cFound (n + 1) args S Q) :
    wB_ T noW b_Scene_found (fnEnd Q) (initE N_Scene_found args) S := by
  obtain ⟨p, x, y, z, w, c, N, rfl, sc, wok, ok, hn, h40, hd, hN, h⟩ := h
  obtain ⟨Ft, et, ut⟩ := ht
  unfold HasV at v1 v2 v3 v4
  simp only [b_Scene_found, initE, N_Scene_found]
  have p1 := sc.at_
  have e1 := eq_all c (S := S)
  have e2 := eq_none c (S := S)
  have wm := wok.m
  cases c with
  | all =>
    simp only [] at e1
    delta fnEnd v1 v2 e1 p1 k1 scF_many Cell.ins.injEq

    refine ⟨by omega, by omega, S, fun _ _ z => z, ?_⟩
    rw [rng_d, ← sem_all]
    exact h S (sc.up (by omega)) (FrZ.refl S)
  | none =>
    simp only [] at e1 e2
    delta fnEnd v1 v2 e1 e2
    refine ⟨by decide, S, fun _ _ z => z, ?_⟩
    have q := h S (sc.up (by omega)) (FrZ.refl S)
    unfold semD at q
    rw [sem_none] at q
    exact q
  | word s =>
    simp only [] at e1 e2
    simp only [Con.d] at e1 e2 ⊢
    have x1 := sc.nm
    delta fnEnd v1 v2 v3 e1 e2 eqT_str l_word_word p1 k2 scF_named Cell.ins.injEq x1
    refine ⟨by decide, S, fun _ _ z => z, ?_⟩
    rw [val_dn, ← sem_word wok]
    exact h S (sc.up (by omega)) (FrZ.refl S)
  | and c d =>
    simp only [] at e1 e2
    simp only [Con.nodes, Con.dep] at hn h40 hd hN h
    have l1 := sem_len w c
    simp only [Con.d] at e1 e2 ⊢
    delta fnEnd v1 v2 v3 v4 e1 e2 eqT_str l_and_word l_and_and p1 Cell.ins.injEq
    refine ⟨scF_things, Ft, et, use2 ut rfl ⟨p, x, y, z, w, d, N, rfl, sc, wok, ok.2, by omega, by omega, by omega, by omega, fun S1 sc1 f1 => ?_⟩⟩
    refine ⟨_, _, sc1.at_, scF_things, Ft, et, use2 ut rfl ⟨p, x, y, z, w, c, _, rfl, sc1, wok, ok.1, by omega, by omega, by omega, by omega, fun S2 sc2 f2 => ?_⟩⟩
    unfold semD
    walk_at "gl"
    intro a ha
    refine lc_sub ha (fun _ _ => trivial) (selI fun x => decide (x ∈ sem w d)) _ (le_size (by rw [List.length_map]; omega)) (fun e he S3 K1 K2 s3 k1 k2 => ?_) fun S3 s3 h3 => ?_
    · obtain ⟨x, hx, rfl⟩ := List.mem_map.mp he
      walk_at "gl"
      refine ⟨_, _, rfl, _, in_ints _, ?_⟩
      rw [any_in]
      cases hb : decide (x ∈ sem w d) with
      | true => exact k1 _ _ (selI_t hb) (Sub.refl S3)
      | false => exact k2 _ (selI_f hb) (Sub.refl S3)
    · rw [selI_map] at h3
      refine ⟨_, by rw [h3], S3, fun _ _ z => z, ?_⟩
      have q := h S3 ((sc2.sub s3).up (by omega)) ((f1.trans f2).trans s3.frz)
      unfold semD at q
      rw [sem_and] at q
      exact q
  | some r c =>
    simp only [] at e1 e2
    simp only [Con.nodes, Con.dep] at hn h40 hd hN h
    simp only [Con.d] at e1 e2 ⊢
    delta fnEnd v1 v2 v3 v4 e1 e2 eqT_str l_some_word l_some_and p1 Cell.ins.injEq
    refine ⟨scF_things, Ft, et, use2 ut rfl ⟨p, x, y, z, w, c, N, rfl, sc, wok, ok.2, by omega, by omega, by omega, by omega, fun S1 sc1 f1 => ?_⟩⟩
    have y1 := sc1.ti
    refine ⟨_, _, sc1.at_, k3, _, scF_ties, ?_⟩
    have t1 := w.ties_ok wok r
    delta y1
    refine ⟨by decide, ?_⟩
    rw [val_dt]
    walk_at "gl"
    intro a ha
    refine lc_sub ha (fun _ _ => trivial) (selP fun x => decide (x ∈ sem w c)) _ (le_size (by rw [List.length_map]; omega)) (fun e he S3 K1 K2 s3 k1' k2' => ?_) fun S3 s3 h3 => ?_
    · obtain ⟨q, hq, rfl⟩ := List.mem_map.mp he
      unfold semD pD
      walk_at "gl"
      refine ⟨_, _, rfl, _, in_ints _, ?_⟩
      rw [any_in]
      cases hb : decide (q.2 ∈ sem w c) with
      | true => exact k1' _ _ (selP_t (p := fun x => decide (x ∈ sem w c)) hb) (Sub.refl S3)
      | false => exact k2' _ (selP_f (p := fun x => decide (x ∈ sem w c)) hb) (Sub.refl S3)
    · rw [selP_map] at h3
      refine sset_ints (xs := ((w.ties r).filter fun q => decide (q.2 ∈ sem w c)).map (·.1)) (by rw [q_sr, h3]) (by rw [List.length_map]; have := List.length_filter_le (fun q : Int × Int => decide (q.2 ∈ sem w c)) (w.ties r); omega) fun ys up hm => ?_
      intro u hu
      walk_at "gl"
      refine ⟨S3, fun a c e => ?_, ?_⟩
      · rw [put_ne (by rintro rfl; rw [hu] at e; cases e)]; exact e
      · have q := h S3 ((sc1.sub s3).up (by omega)) (f1.trans s3.frz)
        unfold semD at q
        rw [← sem_some wok r c up hm] at q
        exact q
def cOutside (n : Nat) : GC0 := fun args S Q => ∃ p x y z w, ∃ c d : Con, ∃ N, args = [.ref p, c.d, d.d] ∧ Sne S p x y z w N ∧ w.Ok ∧ c.ok ∧ d.ok ∧ c.nodes ≤ 1000 ∧ d.nodes ≤ 1000 ∧ c.dep ≤ 40 ∧ d.dep ≤ 40 ∧ 2 * c.dep ≤ n ∧ 2 * d.dep ≤ n ∧ N + c.nodes + d.nodes ≤ 100000 ∧
  ∀ u S', FrZ z S S' → S' u = some (.lst (((sem w c).filter fun x => !decide (x ∈ sem w d)).map D.int)) → Q (.ref u) S'
theorem x_outside (T : Tb) (n : Nat) (ht : HasM T "Scene" "things" (cThings n)) (args : List D) (S : Store) (Q : GQ) (h : cOutside n args S Q) :
    wB_ T noW b_Scene_outside (fnEnd Q) (initE N_Scene_outside args) S := by
  obtain ⟨p, x, y, z, w, c, d, N, rfl, sc, wok, ok1, ok2, n1, n2, d1, d2, e1, e2, hN, h⟩ := h
  obtain ⟨Ft, et, ut⟩ := ht
  simp only [b_Scene_outside, initE, N_Scene_outside]
  have p1 := sc.at_
  have wm := wok.m
  have l1 := sem_len w c
  delta fnEnd p1 Cell.ins.injEq
  refine ⟨scF_things, Ft, et, use2 ut rfl ⟨p, x, y, z, w, d, N, rfl, sc, wok, ok2, by omega, by omega, by omega, by omega, fun S1 sc1 f1 => ?_⟩⟩
  refine ⟨_, _, sc1.at_, scF_things, Ft, et, use2 ut rfl ⟨p, x, y, z, w, c, _, rfl, sc1, wok, ok1, by omega, by omega, by omega, by omega, fun S2 sc2 f2 => ?_⟩⟩
  unfold semD
  walk_at "gl"
  intro a ha
  refine lc_sub ha (fun _ _ => trivial) (selI fun x => !decide (x ∈ sem w d)) _ (le_size (by rw [List.length_map]; omega)) (fun e he S3 K1 K2 s3 k1 k2 => ?_) fun S3 s3 h3 => ?_
  · obtain ⟨x, hx, rfl⟩ := List.mem_map.mp he
    walk_at "gl"
    refine ⟨_, _, rfl, _, in_ints _, ?_⟩
    rw [any_in]
    cases hb : decide (x ∈ sem w d) with
    | true => exact k2 _ (selI_f (by simp only [hb]; rfl)) (Sub.refl S3)
    | false => exact k1 _ _ (selI_t (by simp only [hb]; rfl)) (Sub.refl S3)
  · rw [selI_map] at h3
    exact ⟨S3, fun _ _ z => z, h a S3 ((f1.trans f2).trans s3.frz) h3⟩
end GL
end

-- W6f
section
local macro_rules | `(tactic| walk_at "gl") => `(tactic| simp only [GL.wB_, GL.wS, GL.wSeq, GL.wRet, GL.w, GL.both, GL.wAndE, GL.wOrE, GL.wSlot, GL.wAs, GL.wCons, GL.wNil, GL.wVal, GL.wB, GL.wCmp, GL.wCmp2, GL.wBin, GL.wUn, GL.wNot, GL.wAnd, GL.wOr, GL.wIfE, GL.wIf, GL.wTup, GL.wLst, GL.wSlc, GL.wNoP, GL.wPart, GL.wO, GL.wC, GL.wI, GL.wG, GL.wGs, GL.wIt, GL.wRange1, GL.wRange2, GL.wEnum, GL.wZip, GL.wgName, GL.wgTup, GL.wgCons, GL.wgNil, GL.wAsg, GL.wDrop, GL.wSkip, GL.wPar, GL.wSetIx, GL.wTru, GL.wFor, GL.wLc, GL.wMth, GL.wCall, GL.wCallK, GL.wPs, GL.wPairs, GL.q_len, GL.q_isi, GL.q_int, GL.q_list, GL.q_tupt, GL.q_tupr, GL.q_all, GL.q_any, GL.q_max2, GL.q_min2, GL.q_sorted, GL.q_stri, GL.q_strs, GL.q_strb, GL.q_repr, GL.q_dict, GL.q_sum, GL.q_addi, GL.q_adds, GL.q_addt, GL.q_addl, GL.q_addb, GL.q_subi, GL.q_subb, GL.q_muls, GL.q_muli, GL.q_divi, GL.q_modi, GL.q_powi, GL.q_negi, GL.q_negb, GL.q_eq, GL.q_ne, GL.q_lti, GL.q_lei, GL.q_gti, GL.q_gei, GL.q_lts, GL.q_ins, GL.q_nins, GL.q_int_, GL.q_inl, GL.q_nint, GL.q_ninl, GL.q_trb, GL.q_tri, GL.q_ixt, GL.q_ixs, GL.q_slt, GL.q_sls, GL.q_revt, GL.ix_lst, GL.q_dct0, GL.ik_non_tup, GL.ik_non_int, GL.ik_non_str, GL.ik_non_lst, GL.ik_non_bl, GL.ik_non_dct, GL.ik_bl_tup, GL.ik_bl_int, GL.ik_bl_str, GL.ik_bl_lst, GL.ik_bl_bl, GL.ik_bl_dct, GL.ik_int_tup, GL.ik_int_int, GL.ik_int_str, GL.ik_int_lst, GL.ik_int_bl, GL.ik_int_dct, GL.ik_str_tup, GL.ik_str_int, GL.ik_str_str, GL.ik_str_lst, GL.ik_str_bl, GL.ik_str_dct, GL.ik_tup_tup, GL.ik_tup_int, GL.ik_tup_str, GL.ik_tup_lst, GL.ik_tup_bl, GL.ik_tup_dct, GL.ik_lst_tup, GL.ik_lst_int, GL.ik_lst_str, GL.ik_lst_lst, GL.ik_lst_bl, GL.ik_lst_dct, GL.ik_dct_tup, GL.ik_dct_int, GL.ik_dct_str, GL.ik_dct_lst, GL.ik_dct_bl, GL.ik_dct_dct, GL.q_st, GL.q_sf, GL.q_lt, List.cons.injEq, GL.at0, GL.at1, GL.at2, GL.q_itt, GL.q_its, GL.q_itr, GL.q_zt, GL.q_zr, GL.srcT, GL.srcL, GL.q_m1, GL.q_m2, GL.q_m3, GL.q_m4, GL.q_m5, GL.q_m6, GL.q_k1, GL.q_k2, GL.q_k3, GL.q_k4, GL.q_k5, exists_and_left, GL.q_ixr, GL.q_ixi, GL.q_setr, GL.q_slr, GL.q_revr, GL.q_kr, GL.q_lr, GL.q_sr, GL.q_vr, GL.put_same, GL.put_put, GL.keyD, GL.wNew, GL.Cell.dct.injEq, GL.Cell.lst.injEq, GL.D.int.injEq, GL.D.str.injEq, GL.D.ref.injEq, GL.D.tup.injEq, reduceCtorEq, false_and, and_false, or_false, false_or, exists_false, exists_const, and_assoc, GL.q_app, GL.q_ext, GL.q_pop, GL.q_get2, GL.q_join, GL.q_upper, GL.GTgs.len, GL.GTg.slots, GL.GTgs.slots, GL.GXs.len, GL.wipeE, List.getElem?_cons_zero, List.getElem?_cons_succ, List.set_cons_zero, List.set_cons_succ, Option.some.injEq, exists_eq_left', exists_eq_left, List.map_cons, List.map_nil, List.length_cons, List.length_nil, List.replicate_succ, List.replicate_zero, List.cons_append, List.nil_append, List.zip_cons_cons, List.zip_nil_right, List.foldl_cons, List.foldl_nil, Nat.reduceAdd, Nat.reduceSub, true_and, and_true, ↓reduceIte, Bool.false_eq_true, GL.wFld, GL.wMtd, GL.wMake, GL.wSetFld, GL.wLrg, GL.wTrg, GL.q_dictP, GL.wInd])
local macro_rules | `(tactic| delta $xs* $[$loc]?) => `(tactic| simp only [GL.wB_, GL.wS, GL.wSeq, GL.wRet, GL.w, GL.both, GL.wAndE, GL.wOrE, GL.wSlot, GL.wAs, GL.wCons, GL.wNil, GL.wVal, GL.wB, GL.wCmp, GL.wCmp2, GL.wBin, GL.wUn, GL.wNot, GL.wAnd, GL.wOr, GL.wIfE, GL.wIf, GL.wTup, GL.wLst, GL.wSlc, GL.wNoP, GL.wPart, GL.wO, GL.wC, GL.wI, GL.wG, GL.wGs, GL.wIt, GL.wRange1, GL.wRange2, GL.wEnum, GL.wZip, GL.wgName, GL.wgTup, GL.wgCons, GL.wgNil, GL.wAsg, GL.wDrop, GL.wSkip, GL.wPar, GL.wSetIx, GL.wTru, GL.wFor, GL.wLc, GL.wMth, GL.wCall, GL.wCallK, GL.wPs, GL.wPairs, GL.q_len, GL.q_isi, GL.q_int, GL.q_list, GL.q_tupt, GL.q_tupr, GL.q_all, GL.q_any, GL.q_max2, GL.q_min2, GL.q_sorted, GL.q_stri, GL.q_strs, GL.q_strb, GL.q_repr, GL.q_dict, GL.q_sum, GL.q_addi, GL.q_adds, GL.q_addt, GL.q_addl, GL.q_addb, GL.q_subi, GL.q_subb, GL.q_muls, GL.q_muli, GL.q_divi, GL.q_modi, GL.q_powi, GL.q_negi, GL.q_negb, GL.q_eq, GL.q_ne, GL.q_lti, GL.q_lei, GL.q_gti, GL.q_gei, GL.q_lts, GL.q_ins, GL.q_nins, GL.q_int_, GL.q_inl, GL.q_nint, GL.q_ninl, GL.q_trb, GL.q_tri, GL.q_ixt, GL.q_ixs, GL.q_slt, GL.q_sls, GL.q_revt, GL.ix_lst, GL.q_dct0, GL.ik_non_tup, GL.ik_non_int, GL.ik_non_str, GL.ik_non_lst, GL.ik_non_bl, GL.ik_non_dct, GL.ik_bl_tup, GL.ik_bl_int, GL.ik_bl_str, GL.ik_bl_lst, GL.ik_bl_bl, GL.ik_bl_dct, GL.ik_int_tup, GL.ik_int_int, GL.ik_int_str, GL.ik_int_lst, GL.ik_int_bl, GL.ik_int_dct, GL.ik_str_tup, GL.ik_str_int, GL.ik_str_str, GL.ik_str_lst, GL.ik_str_bl, GL.ik_str_dct, GL.ik_tup_tup, GL.ik_tup_int, GL.ik_tup_str, GL.ik_tup_lst, GL.ik_tup_bl, GL.ik_tup_dct, GL.ik_lst_tup, GL.ik_lst_int, GL.ik_lst_str, GL.ik_lst_lst, GL.ik_lst_bl, GL.ik_lst_dct, GL.ik_dct_tup, GL.ik_dct_int, GL.ik_dct_str, GL.ik_dct_lst, GL.ik_dct_bl, GL.ik_dct_dct, GL.q_st, GL.q_sf, GL.q_lt, List.cons.injEq, GL.at0, GL.at1, GL.at2, GL.q_itt, GL.q_its, GL.q_itr, GL.q_zt, GL.q_zr, GL.srcT, GL.srcL, GL.q_m1, GL.q_m2, GL.q_m3, GL.q_m4, GL.q_m5, GL.q_m6, GL.q_k1, GL.q_k2, GL.q_k3, GL.q_k4, GL.q_k5, exists_and_left, GL.q_ixr, GL.q_ixi, GL.q_setr, GL.q_slr, GL.q_revr, GL.q_kr, GL.q_lr, GL.q_sr, GL.q_vr, GL.put_same, GL.put_put, GL.keyD, GL.wNew, GL.Cell.dct.injEq, GL.Cell.lst.injEq, GL.D.int.injEq, GL.D.str.injEq, GL.D.ref.injEq, GL.D.tup.injEq, reduceCtorEq, false_and, and_false, or_false, false_or, exists_false, exists_const, and_assoc, GL.q_app, GL.q_ext, GL.q_pop, GL.q_get2, GL.q_join, GL.q_upper, GL.GTgs.len, GL.GTg.slots, GL.GTgs.slots, GL.GXs.len, GL.wipeE, List.getElem?_cons_zero, List.getElem?_cons_succ, List.set_cons_zero, List.set_cons_succ, Option.some.injEq, exists_eq_left', exists_eq_left, List.map_cons, List.map_nil, List.length_cons, List.length_nil, List.replicate_succ, List.replicate_zero, List.cons_append, List.nil_append, List.zip_cons_cons, List.zip_nil_right, List.foldl_cons, List.foldl_nil, Nat.reduceAdd, Nat.reduceSub, true_and, and_true, ↓reduceIte, Bool.false_eq_true, GL.wFld, GL.wMtd, GL.wMake, GL.wSetFld, GL.wLrg, GL.wTrg, GL.q_dictP, GL.wInd, $[$xs:ident],*] $[$loc]?)
namespace GL
open PySem K01
theorem putFD_len {f : Str} {v : D} : ∀ {fs : List (Str × D)}, (putFD f v fs).length ≤ fs.length + 1
  | [] => Nat.le_refl _
  | (g, x) :: r => by
    unfold putFD
    split
    · rw [List.length_cons, List.length_cons]; omega
    · have := putFD_len (f := f) (v := v) (fs := r); rw [List.length_cons, List.length_cons]; omega
def cInit : GC0 := fun args S Q => ∃ p w, args = [.ref p, Wm.d w] ∧ w.Ok ∧ S p = some (.ins "Scene" []) ∧ ∀ x y z S', Sne S' p x y z w 0 → S z = none → (∀ a c, a ≠ p → S a = some c → S' a = some c) → Q .non S'
theorem x_init (T : Tb) (k1 : T.cls "Scene" "many" = true) (k2 : T.cls "Scene" "named" = true) (k3 : T.cls "Scene" "ties" = true) (k4 : T.cls "Scene" "known" = true) (args : List D) (S : Store) (Q : GQ) (h : cInit args S Q) :
    wB_ T noW b_Scene_init (fnEnd Q) (initE N_Scene_init args) S := by
  obtain ⟨p, w, rfl, ok, hp, h⟩ := h
  simp only [b_Scene_init, initE, N_Scene_init]
  have ⟨d1, d2⟩ := dn_merge ok
  have ⟨t1, t2⟩ := dt_merge ok
  unfold Wm.d
  delta fnEnd hp k1 k2 k3 k4 Cell.ins.injEq d1 d2 t1 t2
  refine ⟨by decide, fun x hx => ?_⟩
  have xp : x ≠ p := by rintro rfl; rw [put_same] at hx; cases hx
  rw [put_ne xp] at hx
  refine ⟨_, _, by rw [put_ne xp.symm, put_same], k2, Nat.lt_of_le_of_lt putFD_len (by decide), fun y hy => ?_⟩
  have yp : y ≠ p := by rintro rfl; rw [put_same] at hy; cases hy
  rw [put_ne yp] at hy
  have yx : y ≠ x := by rintro rfl; rw [put_same] at hy; cases hy
  rw [put_ne yx, put_ne yp] at hy
  have l1 := putFD_len (f := "many") (v := .int w.many) (fs := [])
  have l2 := putFD_len (f := "named") (v := .ref x) (fs := putFD "many" (.int w.many) [])
  have l3 := putFD_len (f := "ties") (v := .ref y) (fs := putFD "named" (.ref x) (putFD "many" (.int w.many) []))
  simp only [List.length_nil] at l1
  refine ⟨_, _, by rw [put_ne yp.symm, put_same], k3, by omega, fun z hz => ?_⟩
  have zp : z ≠ p := by rintro rfl; rw [put_same] at hz; cases hz
  rw [put_ne zp] at hz
  have zy : z ≠ y := by rintro rfl; rw [put_same] at hz; cases hz
  rw [put_ne zy, put_ne zp] at hz
  have zx : z ≠ x := by rintro rfl; rw [put_same] at hz; cases hz
  rw [put_ne zx, put_ne zp] at hz
  refine ⟨_, _, by rw [put_ne zp.symm, put_same], k4, by omega, _, fun _ _ z => z, ?_⟩
  rw [scF_make]
  refine h x y z _ ⟨⟨zp, zx, zy⟩, put_same, ?_, ?_, [], ?_, (fun q hq => by cases hq), Nat.zero_le _⟩ hz fun a c ap e => ?_
  · rw [put_ne xp, put_ne zx.symm, put_ne xp, put_ne yx.symm, put_ne xp, put_same]
  · rw [put_ne yp, put_ne zy.symm, put_ne yp, put_same]
  · rw [put_ne zp, put_same]
  · have ax : a ≠ x := by rintro rfl; rw [hx] at e; cases e
    have ay : a ≠ y := by rintro rfl; rw [hy] at e; cases e
    have az : a ≠ z := by rintro rfl; rw [hz] at e; cases e
    rw [put_ne ap, put_ne az, put_ne ap, put_ne ay, put_ne ap, put_ne ax, put_ne ap]
    exact e
def cThingsOf : GC0 := fun args S Q => ∃ w, ∃ c : Con, args = [Wm.d w, c.d] ∧ w.Ok ∧ c.ok ∧ c.nodes ≤ 1000 ∧ c.dep ≤ 40 ∧ ∀ S', Sub S S' → Q (semD w c) S'
/-- what is made and used stays beside what was there -/
theorem sub_scene {S S1 S2 : Store} {p z : Addr} {c : Cell} (hp : S p = none) (hz : GL.put S p c z = none) (k : ∀ a c', a ≠ p → GL.put S p c a = some c' → S1 a = some c') (f : FrZ z S1 S2) : Sub S S2 := fun a c' e => by
  have ap : a ≠ p := by rintro rfl; rw [hp] at e; cases e
  have az : a ≠ z := by rintro rfl; rw [put_ne ap, e] at hz; cases hz
  exact f a c' az (k a c' ap (by rw [put_ne ap]; exact e))
theorem x_things_of (T : Tb) (hi : HasN T "Scene" 2 cInit) (ht : HasM T "Scene" "things" (cThings 80)) (args : List D) (S : Store) (Q : GQ) (h : cThingsOf args S Q) : wB_ T noW b_things_of (fnEnd Q) (initE N_things_of args) S := by
  obtain ⟨w, c, rfl, wok, ok, hn, hd, h⟩ := h
  obtain ⟨Fi, ei, li, ui⟩ := hi
  obtain ⟨Ft, et, ut⟩ := ht
  simp only [b_things_of, initE, N_things_of]
  delta fnEnd ei
  refine ⟨li, fun p hp => (ui _ _ _ _ ⟨p, w, rfl, wok, put_same, fun x y z S1 sc hz k => ⟨rfl, _, _, sc.at_, scF_things, Ft, et, use2 ut rfl ⟨p, x, y, z, w, c, 0, rfl, sc, wok, ok, hn, hd, by omega, by omega, fun S2 sc2 f2 => ?_⟩⟩⟩).2⟩
  exact ⟨S2, fun _ _ z => z, h S2 (sub_scene hp hz k f2)⟩
theorem x_things_in (T : Tb) (hw : Has T "need_world" cNeedW) (hc : Has T "need_concept" (cNeedC 50)) (ht : Has T "things_of" cThingsOf) (args : List D) (S : Store) (Q : GQ) (h : cThingsOf args S Q) : wB_ T noW b_things_in (fnEnd Q) (initE N_things_in args) S := by
  obtain ⟨w, c, rfl, wok, ok, hn, hd, h⟩ := h
  obtain ⟨Fw, ew, uw⟩ := hw
  obtain ⟨Fc, ec, uc⟩ := hc
  obtain ⟨Ft, et, ut⟩ := ht
  simp only [b_things_in, initE, N_things_in]
  delta fnEnd ew ec et
  refine use2 uw rfl ⟨w, rfl, wok, fun S1 s1 => use2 uc rfl ⟨c, rfl, ok, hn, by omega, fun S2 s2 => use2 ut rfl ⟨w, c, rfl, wok, ok, hn, hd, fun S3 s3 => ?_⟩⟩⟩
  exact ⟨S3, fun _ _ z => z, h S3 ((s1.trans s2).trans s3)⟩
def holds (w : Wm) (c d : Con) : Bool := ((sem w c).filter fun x => !decide (x ∈ sem w d)).isEmpty
def cHold : GC0 := fun args S Q => ∃ w, ∃ c d : Con, args = [Wm.d w, c.d, d.d] ∧ w.Ok ∧ c.ok ∧ d.ok ∧ c.nodes ≤ 1000 ∧ d.nodes ≤ 1000 ∧ c.dep ≤ 40 ∧ d.dep ≤ 40 ∧ ∀ S', Sub S S' → Q (.bl (holds w c d)) S'
theorem x_does_hold_in (T : Tb) (hw : Has T "need_world" cNeedW) (hc : Has T "need_concept" (cNeedC 50)) (hi : HasN T "Scene" 2 cInit) (ho : HasM T "Scene" "outside" (cOutside 80)) (args : List D) (S : Store) (Q : GQ) (h : cHold args S Q) : wB_ T noW b_does_hold_in (fnEnd Q) (initE N_does_hold_in args) S := by
  obtain ⟨w, c, d, rfl, wok, ok1, ok2, n1, n2, d1, d2, h⟩ := h
  obtain ⟨Fw, ew, uw⟩ := hw
  obtain ⟨Fc, ec, uc⟩ := hc
  obtain ⟨Fi, ei, li, ui⟩ := hi
  obtain ⟨Fo, eo, uo⟩ := ho
  simp only [b_does_hold_in, initE, N_does_hold_in]
  delta fnEnd ew ec ei
  refine use2 uw rfl ⟨w, rfl, wok, fun S1 s1 => use2 uc rfl ⟨c, rfl, ok1, n1, by omega, fun S2 s2 => use2 uc rfl ⟨d, rfl, ok2, n2, by omega, fun S3 s3 => ?_⟩⟩⟩
  refine ⟨li, fun p hp => (ui _ _ _ _ ⟨p, w, rfl, wok, put_same, fun x y z S4 sc hz k => ⟨rfl, _, _, sc.at_, scF_outside, Fo, eo, use2 uo rfl ⟨p, x, y, z, w, c, d, 0, rfl, sc, wok, ok1, ok2, n1, n2, d1, d2, by omega, by omega, by omega, fun u S5 f5 hu => ?_⟩⟩⟩).2⟩
  refine ⟨by decide, fun v hv => ?_⟩
  have uv : u ≠ v := by rintro rfl; rw [hu] at hv; cases hv
  rw [eq_nil (by rw [put_ne uv]; exact hu) put_same]
  have s5 := sub_scene hp hz k f5
  refine ⟨_, rfl, S5, fun a c e => ?_, ?_⟩
  · rw [put_ne (by rintro rfl; rw [hv] at e; cases e)]; exact e
  · have q := h S5 (((s1.trans s2).trans s3).trans s5)
    unfold holds at q
    simp only [List.isEmpty_map]
    exact q
end GL
end

-- W6g
section
local macro_rules | `(tactic| walk_at "gl") => `(tactic| simp only [GL.wB_, GL.wS, GL.wSeq, GL.wRet, GL.w, GL.both, GL.wAndE, GL.wOrE, GL.wSlot, GL.wAs, GL.wCons, GL.wNil, GL.wVal, GL.wB, GL.wCmp, GL.wCmp2, GL.wBin, GL.wUn, GL.wNot, GL.wAnd, GL.wOr, GL.wIfE, GL.wIf, GL.wTup, GL.wLst, GL.wSlc, GL.wNoP, GL.wPart, GL.wO, GL.wC, GL.wI, GL.wG, GL.wGs, GL.wIt, GL.wRange1, GL.wRange2, GL.wEnum, GL.wZip, GL.wgName, GL.wgTup, GL.wgCons, GL.wgNil, GL.wAsg, GL.wDrop, GL.wSkip, GL.wPar, GL.wSetIx, GL.wTru, GL.wFor, GL.wLc, GL.wMth, GL.wCall, GL.wCallK, GL.wPs, GL.wPairs, GL.q_len, GL.q_isi, GL.q_int, GL.q_list, GL.q_tupt, GL.q_tupr, GL.q_all, GL.q_any, GL.q_max2, GL.q_min2, GL.q_sorted, GL.q_stri, GL.q_strs, GL.q_strb, GL.q_repr, GL.q_dict, GL.q_sum, GL.q_addi, GL.q_adds, GL.q_addt, GL.q_addl, GL.q_addb, GL.q_subi, GL.q_subb, GL.q_muls, GL.q_muli, GL.q_divi, GL.q_modi, GL.q_powi, GL.q_negi, GL.q_negb, GL.q_eq, GL.q_ne, GL.q_lti, GL.q_lei, GL.q_gti, GL.q_gei, GL.q_lts, GL.q_ins, GL.q_nins, GL.q_int_, GL.q_inl, GL.q_nint, GL.q_ninl, GL.q_trb, GL.q_tri, GL.q_ixt, GL.q_ixs, GL.q_slt, GL.q_sls, GL.q_revt, GL.ix_lst, GL.q_dct0, GL.ik_non_tup, GL.ik_non_int, GL.ik_non_str, GL.ik_non_lst, GL.ik_non_bl, GL.ik_non_dct, GL.ik_bl_tup, GL.ik_bl_int, GL.ik_bl_str, GL.ik_bl_lst, GL.ik_bl_bl, GL.ik_bl_dct, GL.ik_int_tup, GL.ik_int_int, GL.ik_int_str, GL.ik_int_lst, GL.ik_int_bl, GL.ik_int_dct, GL.ik_str_tup, GL.ik_str_int, GL.ik_str_str, GL.ik_str_lst, GL.ik_str_bl, GL.ik_str_dct, GL.ik_tup_tup, GL.ik_tup_int, GL.ik_tup_str, GL.ik_tup_lst, GL.ik_tup_bl, GL.ik_tup_dct, GL.ik_lst_tup, GL.ik_lst_int, GL.ik_lst_str, GL.ik_lst_lst, GL.ik_lst_bl, GL.ik_lst_dct, GL.ik_dct_tup, GL.ik_dct_int, GL.ik_dct_str, GL.ik_dct_lst, GL.ik_dct_bl, GL.ik_dct_dct, GL.q_st, GL.q_sf, GL.q_lt, List.cons.injEq, GL.at0, GL.at1, GL.at2, GL.q_itt, GL.q_its, GL.q_itr, GL.q_zt, GL.q_zr, GL.srcT, GL.srcL, GL.q_m1, GL.q_m2, GL.q_m3, GL.q_m4, GL.q_m5, GL.q_m6, GL.q_k1, GL.q_k2, GL.q_k3, GL.q_k4, GL.q_k5, exists_and_left, GL.q_ixr, GL.q_ixi, GL.q_setr, GL.q_slr, GL.q_revr, GL.q_kr, GL.q_lr, GL.q_sr, GL.q_vr, GL.put_same, GL.put_put, GL.keyD, GL.wNew, GL.Cell.dct.injEq, GL.Cell.lst.injEq, GL.D.int.injEq, GL.D.str.injEq, GL.D.ref.injEq, GL.D.tup.injEq, reduceCtorEq, false_and, and_false, or_false, false_or, exists_false, exists_const, and_assoc, GL.q_app, GL.q_ext, GL.q_pop, GL.q_get2, GL.q_join, GL.q_upper, GL.GTgs.len, GL.GTg.slots, GL.GTgs.slots, GL.GXs.len, GL.wipeE, List.getElem?_cons_zero, List.getElem?_cons_succ, List.set_cons_zero, List.set_cons_succ, Option.some.injEq, exists_eq_left', exists_eq_left, List.map_cons, List.map_nil, List.length_cons, List.length_nil, List.replicate_succ, List.replicate_zero, List.cons_append, List.nil_append, List.zip_cons_cons, List.zip_nil_right, List.foldl_cons, List.foldl_nil, Nat.reduceAdd, Nat.reduceSub, true_and, and_true, ↓reduceIte, Bool.false_eq_true, GL.wFld, GL.wMtd, GL.wMake, GL.wSetFld, GL.wLrg, GL.wTrg, GL.q_dictP, GL.wInd])
local macro_rules | `(tactic| delta $xs* $[$loc]?) => `(tactic| simp only [GL.wB_, GL.wS, GL.wSeq, GL.wRet, GL.w, GL.both, GL.wAndE, GL.wOrE, GL.wSlot, GL.wAs, GL.wCons, GL.wNil, GL.wVal, GL.wB, GL.wCmp, GL.wCmp2, GL.wBin, GL.wUn, GL.wNot, GL.wAnd, GL.wOr, GL.wIfE, GL.wIf, GL.wTup, GL.wLst, GL.wSlc, GL.wNoP, GL.wPart, GL.wO, GL.wC, GL.wI, GL.wG, GL.wGs, GL.wIt, GL.wRange1, GL.wRange2, GL.wEnum, GL.wZip, GL.wgName, GL.wgTup, GL.wgCons, GL.wgNil, GL.wAsg, GL.wDrop, GL.wSkip, GL.wPar, GL.wSetIx, GL.wTru, GL.wFor, GL.wLc, GL.wMth, GL.wCall, GL.wCallK, GL.wPs, GL.wPairs, GL.q_len, GL.q_isi, GL.q_int, GL.q_list, GL.q_tupt, GL.q_tupr, GL.q_all, GL.q_any, GL.q_max2, GL.q_min2, GL.q_sorted, GL.q_stri, GL.q_strs, GL.q_strb, GL.q_repr, GL.q_dict, GL.q_sum, GL.q_addi, GL.q_adds, GL.q_addt, GL.q_addl, GL.q_addb, GL.q_subi, GL.q_subb, GL.q_muls, GL.q_muli, GL.q_divi, GL.q_modi, GL.q_powi, GL.q_negi, GL.q_negb, GL.q_eq, GL.q_ne, GL.q_lti, GL.q_lei, GL.q_gti, GL.q_gei, GL.q_lts, GL.q_ins, GL.q_nins, GL.q_int_, GL.q_inl, GL.q_nint, GL.q_ninl, GL.q_trb, GL.q_tri, GL.q_ixt, GL.q_ixs, GL.q_slt, GL.q_sls, GL.q_revt, GL.ix_lst, GL.q_dct0, GL.ik_non_tup, GL.ik_non_int, GL.ik_non_str, GL.ik_non_lst, GL.ik_non_bl, GL.ik_non_dct, GL.ik_bl_tup, GL.ik_bl_int, GL.ik_bl_str, GL.ik_bl_lst, GL.ik_bl_bl, GL.ik_bl_dct, GL.ik_int_tup, GL.ik_int_int, GL.ik_int_str, GL.ik_int_lst, GL.ik_int_bl, GL.ik_int_dct, GL.ik_str_tup, GL.ik_str_int, GL.ik_str_str, GL.ik_str_lst, GL.ik_str_bl, GL.ik_str_dct, GL.ik_tup_tup, GL.ik_tup_int, GL.ik_tup_str, GL.ik_tup_lst, GL.ik_tup_bl, GL.ik_tup_dct, GL.ik_lst_tup, GL.ik_lst_int, GL.ik_lst_str, GL.ik_lst_lst, GL.ik_lst_bl, GL.ik_lst_dct, GL.ik_dct_tup, GL.ik_dct_int, GL.ik_dct_str, GL.ik_dct_lst, GL.ik_dct_bl, GL.ik_dct_dct, GL.q_st, GL.q_sf, GL.q_lt, List.cons.injEq, GL.at0, GL.at1, GL.at2, GL.q_itt, GL.q_its, GL.q_itr, GL.q_zt, GL.q_zr, GL.srcT, GL.srcL, GL.q_m1, GL.q_m2, GL.q_m3, GL.q_m4, GL.q_m5, GL.q_m6, GL.q_k1, GL.q_k2, GL.q_k3, GL.q_k4, GL.q_k5, exists_and_left, GL.q_ixr, GL.q_ixi, GL.q_setr, GL.q_slr, GL.q_revr, GL.q_kr, GL.q_lr, GL.q_sr, GL.q_vr, GL.put_same, GL.put_put, GL.keyD, GL.wNew, GL.Cell.dct.injEq, GL.Cell.lst.injEq, GL.D.int.injEq, GL.D.str.injEq, GL.D.ref.injEq, GL.D.tup.injEq, reduceCtorEq, false_and, and_false, or_false, false_or, exists_false, exists_const, and_assoc, GL.q_app, GL.q_ext, GL.q_pop, GL.q_get2, GL.q_join, GL.q_upper, GL.GTgs.len, GL.GTg.slots, GL.GTgs.slots, GL.GXs.len, GL.wipeE, List.getElem?_cons_zero, List.getElem?_cons_succ, List.set_cons_zero, List.set_cons_succ, Option.some.injEq, exists_eq_left', exists_eq_left, List.map_cons, List.map_nil, List.length_cons, List.length_nil, List.replicate_succ, List.replicate_zero, List.cons_append, List.nil_append, List.zip_cons_cons, List.zip_nil_right, List.foldl_cons, List.foldl_nil, Nat.reduceAdd, Nat.reduceSub, true_and, and_true, ↓reduceIte, Bool.false_eq_true, GL.wFld, GL.wMtd, GL.wMake, GL.wSetFld, GL.wLrg, GL.wTrg, GL.q_dictP, GL.wInd, $[$xs:ident],*] $[$loc]?)
namespace GL
open PySem K01
def semL (w : Wm) (c : Con) : List D := (sem w c).map D.int
def cLth (n : Nat) : GC0 := fun args S Q => ∃ w, ∃ c : Con, ∃ k : Nat, args = [Wm.d w, c.d, .int k] ∧ w.Ok ∧ c.ok ∧ c.dep ≤ k ∧ k ≤ 100 ∧ c.dep ≤ n ∧ ∀ u S', Sub S S' → S' u = some (.lst (semL w c)) → Q (.ref u) S'
theorem x_law_things (T : Tb) (n : Nat) (hc : Has T "_law_things" (cLth n)) (args : List D) (S : Store) (Q : GQ) (h : cLth (n + 1) args S Q) :
    wB_ T noW b_law_things (fnEnd Q) (initE N_law_things args) S := by
  obtain ⟨w, c, k, rfl, wok, ok, hk, h100, hd, h⟩ := h
  obtain ⟨F, e, u⟩ := hc
  have hk1 : 1 ≤ c.dep := Con.dep_pos c
  have k0 : ((k : Int) == 0) = false := by simp; omega
  have km : (k : Int) - 1 = ((k - 1 : Nat) : Int) := by omega
  have wm := wok.m
  have ⟨m1, m2⟩ := dn_merge wok
  have ⟨t1, t2⟩ := dt_merge wok
  simp only [b_law_things, initE, N_law_things]
  cases c with
  | all =>
    simp only [Con.d, Wm.d]
    delta fnEnd eqT_int eqT_str k0 l_all_none l_all_all
    refine ⟨by omega, by omega, fun p hp => ⟨_, fun _ _ z => z, h p _ (Sub.new hp) ?_⟩⟩
    rw [put_same, rng_d]
    unfold semL
    rw [sem_all]
  | none =>
    simp only [Con.d, Wm.d]
    delta fnEnd eqT_int eqT_str k0 l_none_none
    refine ⟨by decide, fun p hp => ⟨_, fun _ _ z => z, h p _ (Sub.new hp) ?_⟩⟩
    rw [put_same]
    unfold semL
    rw [sem_none]
    rfl
  | word s =>
    simp only [Con.d, Wm.d]
    delta fnEnd eqT_int eqT_str k0 l_word_none l_word_all l_word_word
    intro a ha
    refine ⟨_, m1, fun b hb => ?_⟩
    rw [m2]
    have q := w.named_ok wok s
    refine ⟨by decide, ?_⟩
    rw [val_dn]
    walk_at "gl"
    refine fun v hv => ⟨_, fun _ _ z => z, h v _ (((Sub.new ha).trans (Sub.new hb)).trans (Sub.new hv)) ?_⟩
    rw [put_same]
    unfold semL
    rw [sem_word wok]
  | and c d =>
    simp only [Con.d, Wm.d]
    delta fnEnd eqT_int eqT_str k0 l_and_none l_and_all l_and_word l_and_and e
    simp only [Con.dep] at hk hd hk1
    have l1 := sem_len w c
    rw [km]
    refine use2 u rfl ⟨w, d, k - 1, rfl, wok, ok.2, by omega, by omega, by omega, fun u1 S1 s1 hu1 => use2 u rfl ⟨w, c, k - 1, rfl, wok, ok.1, by omega, by omega, by omega, fun u2 S2 s2 hu2 => ?_⟩⟩
    unfold semL at hu1 hu2
    delta hu2
    intro a ha
    refine lc_sub ha (fun S' s' => s' _ _ hu2) (selI fun x => decide (x ∈ sem w d)) _ (le_size (by rw [List.length_map]; omega)) (fun e he S3 K1 K2 s3 k1 k2 => ?_) fun S3 s3 h3 => ?_
    · obtain ⟨x, hx, rfl⟩ := List.mem_map.mp he
      have hu3 := s3 _ _ (s2 _ _ hu1)
      delta hu3 Vw.seq.injEq
      refine ⟨_, in_ints _, ?_⟩
      rw [any_in]
      cases hb : decide (x ∈ sem w d) with
      | true => exact k1 _ _ (selI_t hb) (Sub.refl S3)
      | false => exact k2 _ (selI_f hb) (Sub.refl S3)
    · rw [selI_map] at h3
      refine ⟨S3, fun _ _ z => z, h a S3 ((s1.trans s2).trans s3) ?_⟩
      rw [h3]
      unfold semL
      rw [sem_and]
  | some r c =>
    simp only [Con.d, Wm.d]
    delta fnEnd eqT_int eqT_str k0 l_some_none l_some_all l_some_word l_some_and e
    simp only [Con.dep] at hk hd hk1
    rw [km]
    have tt := w.ties_ok wok r
    refine use2 u rfl ⟨w, c, k - 1, rfl, wok, ok.2, by omega, by omega, by omega, fun u1 S1 s1 hu1 => ?_⟩
    unfold semL at hu1
    intro a ha
    refine ⟨_, t1, fun b hb => ?_⟩
    rw [t2]
    refine ⟨by decide, ?_⟩
    rw [val_dt]
    have s12 := (Sub.new (c := .lst (w.roles.map rrow)) ha).trans (Sub.new (c := .dct (dtK w)) hb)
    generalize GL.put (GL.put S1 a (.lst (w.roles.map rrow))) b (.dct (dtK w)) = S2 at s12 ⊢
    walk_at "gl"
    intro v hv
    refine lc_sub hv (fun _ _ => trivial) (selP fun x => decide (x ∈ sem w c)) _ (le_size (by rw [List.length_map]; omega)) (fun e he S3 K1 K2 s3 k1 k2 => ?_) fun S3 s3 h3 => ?_
    · obtain ⟨q, hq, rfl⟩ := List.mem_map.mp he
      have hu3 := s3 _ _ (s12 _ _ hu1)
      unfold pD
      delta hu3 Vw.seq.injEq
      refine ⟨_, in_ints _, ?_⟩
      rw [any_in]
      cases hb : decide (q.2 ∈ sem w c) with
      | true => exact k1 _ _ (selP_t (p := fun x => decide (x ∈ sem w c)) hb) (Sub.refl S3)
      | false => exact k2 _ (selP_f (p := fun x => decide (x ∈ sem w c)) hb) (Sub.refl S3)
    · rw [selP_map] at h3
      refine sset_ints (xs := ((w.ties r).filter fun q => decide (q.2 ∈ sem w c)).map (·.1)) (by rw [q_sr, h3]) (by rw [List.length_map]; have := List.length_filter_le (fun q : Int × Int => decide (q.2 ∈ sem w c)) (w.ties r); omega) fun ys up hm => ?_
      intro u hu
      refine ⟨_, fun _ _ z => z, h u _ (((s1.trans s12).trans s3).trans (Sub.new hu)) ?_⟩
      rw [put_same]
      unfold semL
      rw [← sem_some wok r c up hm]
end GL
end

-- W6h
section
local macro_rules | `(tactic| walk_at "gl") => `(tactic| simp only [GL.wB_, GL.wS, GL.wSeq, GL.wRet, GL.w, GL.both, GL.wAndE, GL.wOrE, GL.wSlot, GL.wAs, GL.wCons, GL.wNil, GL.wVal, GL.wB, GL.wCmp, GL.wCmp2, GL.wBin, GL.wUn, GL.wNot, GL.wAnd, GL.wOr, GL.wIfE, GL.wIf, GL.wTup, GL.wLst, GL.wSlc, GL.wNoP, GL.wPart, GL.wO, GL.wC, GL.wI, GL.wG, GL.wGs, GL.wIt, GL.wRange1, GL.wRange2, GL.wEnum, GL.wZip, GL.wgName, GL.wgTup, GL.wgCons, GL.wgNil, GL.wAsg, GL.wDrop, GL.wSkip, GL.wPar, GL.wSetIx, GL.wTru, GL.wFor, GL.wLc, GL.wMth, GL.wCall, GL.wCallK, GL.wPs, GL.wPairs, GL.q_len, GL.q_isi, GL.q_int, GL.q_list, GL.q_tupt, GL.q_tupr, GL.q_all, GL.q_any, GL.q_max2, GL.q_min2, GL.q_sorted, GL.q_stri, GL.q_strs, GL.q_strb, GL.q_repr, GL.q_dict, GL.q_sum, GL.q_addi, GL.q_adds, GL.q_addt, GL.q_addl, GL.q_addb, GL.q_subi, GL.q_subb, GL.q_muls, GL.q_muli, GL.q_divi, GL.q_modi, GL.q_powi, GL.q_negi, GL.q_negb, GL.q_eq, GL.q_ne, GL.q_lti, GL.q_lei, GL.q_gti, GL.q_gei, GL.q_lts, GL.q_ins, GL.q_nins, GL.q_int_, GL.q_inl, GL.q_nint, GL.q_ninl, GL.q_trb, GL.q_tri, GL.q_ixt, GL.q_ixs, GL.q_slt, GL.q_sls, GL.q_revt, GL.ix_lst, GL.q_dct0, GL.ik_non_tup, GL.ik_non_int, GL.ik_non_str, GL.ik_non_lst, GL.ik_non_bl, GL.ik_non_dct, GL.ik_bl_tup, GL.ik_bl_int, GL.ik_bl_str, GL.ik_bl_lst, GL.ik_bl_bl, GL.ik_bl_dct, GL.ik_int_tup, GL.ik_int_int, GL.ik_int_str, GL.ik_int_lst, GL.ik_int_bl, GL.ik_int_dct, GL.ik_str_tup, GL.ik_str_int, GL.ik_str_str, GL.ik_str_lst, GL.ik_str_bl, GL.ik_str_dct, GL.ik_tup_tup, GL.ik_tup_int, GL.ik_tup_str, GL.ik_tup_lst, GL.ik_tup_bl, GL.ik_tup_dct, GL.ik_lst_tup, GL.ik_lst_int, GL.ik_lst_str, GL.ik_lst_lst, GL.ik_lst_bl, GL.ik_lst_dct, GL.ik_dct_tup, GL.ik_dct_int, GL.ik_dct_str, GL.ik_dct_lst, GL.ik_dct_bl, GL.ik_dct_dct, GL.q_st, GL.q_sf, GL.q_lt, List.cons.injEq, GL.at0, GL.at1, GL.at2, GL.q_itt, GL.q_its, GL.q_itr, GL.q_zt, GL.q_zr, GL.srcT, GL.srcL, GL.q_m1, GL.q_m2, GL.q_m3, GL.q_m4, GL.q_m5, GL.q_m6, GL.q_k1, GL.q_k2, GL.q_k3, GL.q_k4, GL.q_k5, exists_and_left, GL.q_ixr, GL.q_ixi, GL.q_setr, GL.q_slr, GL.q_revr, GL.q_kr, GL.q_lr, GL.q_sr, GL.q_vr, GL.put_same, GL.put_put, GL.keyD, GL.wNew, GL.Cell.dct.injEq, GL.Cell.lst.injEq, GL.D.int.injEq, GL.D.str.injEq, GL.D.ref.injEq, GL.D.tup.injEq, reduceCtorEq, false_and, and_false, or_false, false_or, exists_false, exists_const, and_assoc, GL.q_app, GL.q_ext, GL.q_pop, GL.q_get2, GL.q_join, GL.q_upper, GL.GTgs.len, GL.GTg.slots, GL.GTgs.slots, GL.GXs.len, GL.wipeE, List.getElem?_cons_zero, List.getElem?_cons_succ, List.set_cons_zero, List.set_cons_succ, Option.some.injEq, exists_eq_left', exists_eq_left, List.map_cons, List.map_nil, List.length_cons, List.length_nil, List.replicate_succ, List.replicate_zero, List.cons_append, List.nil_append, List.zip_cons_cons, List.zip_nil_right, List.foldl_cons, List.foldl_nil, Nat.reduceAdd, Nat.reduceSub, true_and, and_true, ↓reduceIte, Bool.false_eq_true, GL.wFld, GL.wMtd, GL.wMake, GL.wSetFld, GL.wLrg, GL.wTrg, GL.q_dictP, GL.wInd])
local macro_rules | `(tactic| delta $xs* $[$loc]?) => `(tactic| simp only [GL.wB_, GL.wS, GL.wSeq, GL.wRet, GL.w, GL.both, GL.wAndE, GL.wOrE, GL.wSlot, GL.wAs, GL.wCons, GL.wNil, GL.wVal, GL.wB, GL.wCmp, GL.wCmp2, GL.wBin, GL.wUn, GL.wNot, GL.wAnd, GL.wOr, GL.wIfE, GL.wIf, GL.wTup, GL.wLst, GL.wSlc, GL.wNoP, GL.wPart, GL.wO, GL.wC, GL.wI, GL.wG, GL.wGs, GL.wIt, GL.wRange1, GL.wRange2, GL.wEnum, GL.wZip, GL.wgName, GL.wgTup, GL.wgCons, GL.wgNil, GL.wAsg, GL.wDrop, GL.wSkip, GL.wPar, GL.wSetIx, GL.wTru, GL.wFor, GL.wLc, GL.wMth, GL.wCall, GL.wCallK, GL.wPs, GL.wPairs, GL.q_len, GL.q_isi, GL.q_int, GL.q_list, GL.q_tupt, GL.q_tupr, GL.q_all, GL.q_any, GL.q_max2, GL.q_min2, GL.q_sorted, GL.q_stri, GL.q_strs, GL.q_strb, GL.q_repr, GL.q_dict, GL.q_sum, GL.q_addi, GL.q_adds, GL.q_addt, GL.q_addl, GL.q_addb, GL.q_subi, GL.q_subb, GL.q_muls, GL.q_muli, GL.q_divi, GL.q_modi, GL.q_powi, GL.q_negi, GL.q_negb, GL.q_eq, GL.q_ne, GL.q_lti, GL.q_lei, GL.q_gti, GL.q_gei, GL.q_lts, GL.q_ins, GL.q_nins, GL.q_int_, GL.q_inl, GL.q_nint, GL.q_ninl, GL.q_trb, GL.q_tri, GL.q_ixt, GL.q_ixs, GL.q_slt, GL.q_sls, GL.q_revt, GL.ix_lst, GL.q_dct0, GL.ik_non_tup, GL.ik_non_int, GL.ik_non_str, GL.ik_non_lst, GL.ik_non_bl, GL.ik_non_dct, GL.ik_bl_tup, GL.ik_bl_int, GL.ik_bl_str, GL.ik_bl_lst, GL.ik_bl_bl, GL.ik_bl_dct, GL.ik_int_tup, GL.ik_int_int, GL.ik_int_str, GL.ik_int_lst, GL.ik_int_bl, GL.ik_int_dct, GL.ik_str_tup, GL.ik_str_int, GL.ik_str_str, GL.ik_str_lst, GL.ik_str_bl, GL.ik_str_dct, GL.ik_tup_tup, GL.ik_tup_int, GL.ik_tup_str, GL.ik_tup_lst, GL.ik_tup_bl, GL.ik_tup_dct, GL.ik_lst_tup, GL.ik_lst_int, GL.ik_lst_str, GL.ik_lst_lst, GL.ik_lst_bl, GL.ik_lst_dct, GL.ik_dct_tup, GL.ik_dct_int, GL.ik_dct_str, GL.ik_dct_lst, GL.ik_dct_bl, GL.ik_dct_dct, GL.q_st, GL.q_sf, GL.q_lt, List.cons.injEq, GL.at0, GL.at1, GL.at2, GL.q_itt, GL.q_its, GL.q_itr, GL.q_zt, GL.q_zr, GL.srcT, GL.srcL, GL.q_m1, GL.q_m2, GL.q_m3, GL.q_m4, GL.q_m5, GL.q_m6, GL.q_k1, GL.q_k2, GL.q_k3, GL.q_k4, GL.q_k5, exists_and_left, GL.q_ixr, GL.q_ixi, GL.q_setr, GL.q_slr, GL.q_revr, GL.q_kr, GL.q_lr, GL.q_sr, GL.q_vr, GL.put_same, GL.put_put, GL.keyD, GL.wNew, GL.Cell.dct.injEq, GL.Cell.lst.injEq, GL.D.int.injEq, GL.D.str.injEq, GL.D.ref.injEq, GL.D.tup.injEq, reduceCtorEq, false_and, and_false, or_false, false_or, exists_false, exists_const, and_assoc, GL.q_app, GL.q_ext, GL.q_pop, GL.q_get2, GL.q_join, GL.q_upper, GL.GTgs.len, GL.GTg.slots, GL.GTgs.slots, GL.GXs.len, GL.wipeE, List.getElem?_cons_zero, List.getElem?_cons_succ, List.set_cons_zero, List.set_cons_succ, Option.some.injEq, exists_eq_left', exists_eq_left, List.map_cons, List.map_nil, List.length_cons, List.length_nil, List.replicate_succ, List.replicate_zero, List.cons_append, List.nil_append, List.zip_cons_cons, List.zip_nil_right, List.foldl_cons, List.foldl_nil, Nat.reduceAdd, Nat.reduceSub, true_and, and_true, ↓reduceIte, Bool.false_eq_true, GL.wFld, GL.wMtd, GL.wMake, GL.wSetFld, GL.wLrg, GL.wTrg, GL.q_dictP, GL.wInd, $[$xs:ident],*] $[$loc]?)
namespace GL
open PySem K01
def tiedTo (w : Wm) (r : Str) (x : Int) (gs : List Int) : Bool := (w.ties r).any fun p => decide (p.1 = x) && decide (p.2 ∈ gs)
def cTied : GC0 := fun args S Q => ∃ w r x gs, args = [Wm.d w, .str r, .int x, .tup (gs.map D.int)] ∧ w.Ok ∧ ∀ S', Sub S S' → Q (.bl (tiedTo w r x gs)) S'
/-- the ones of a list that a test lets, as ones -/
def oneIf (p : D → Bool) (d : D) : Option D := if p d = true then some (.int 1) else none
theorem oneIf_emp (p : D → Bool) : ∀ l : List D, (l.filterMap (oneIf p)).isEmpty = !(l.any p)
  | [] => rfl
  | d :: l => by
    rw [List.filterMap_cons, List.any_cons]
    cases h : p d with
    | true => simp [oneIf, h]
    | false => simp only [oneIf, h, if_neg (show ¬ false = true by decide), Bool.false_or]; exact oneIf_emp p l
def pairTest (x : Int) (gs : List Int) (d : D) : Bool := match d with
  | .tup [.int a, .int b] => decide (a = x) && decide (b ∈ gs)
  | _ => false
def rowTest (r : Str) (x : Int) (gs : List Int) (d : D) : Bool := match d with
  | .tup [.str k, .tup ps] => decide (k = r) && ps.any (pairTest x gs)
  | _ => false
theorem tied_rows {w : Wm} (h : w.Ok) (r : Str) (x : Int) (gs : List Int) : (w.roles.map rrow).any (rowTest r x gs) = tiedTo w r x gs := by
  unfold tiedTo Wm.ties
  have nd := h.rk
  generalize w.roles = l at nd
  have pt : ∀ q : List (Int × Int), (q.map pD).any (pairTest x gs) = q.any fun p => decide (p.1 = x) && decide (p.2 ∈ gs) := fun q => by
    rw [List.any_map]; rfl
  induction l with
  | nil => rfl
  | cons q l ih =>
    obtain ⟨k, ps⟩ := q
    rw [List.map_cons, List.pairwise_cons] at nd
    have e1 : rowTest r x gs (rrow (k, ps)) = (decide (k = r) && ps.any fun p => decide (p.1 = x) && decide (p.2 ∈ gs)) := by
      show (decide (k = r) && (ps.map pD).any (pairTest x gs)) = _
      rw [pt]
    rw [List.map_cons, List.any_cons, e1, ih nd.2, List.lookup_cons]
    by_cases e : k = r
    · subst e
      have hn : l.lookup k = none := by
        cases hl : l.lookup k with
        | none => rfl
        | some v =>
          have := nd.1 k (List.mem_map.mpr ⟨(k, v), look_mem hl, rfl⟩)
          exact absurd this (ltS_irr k)
      rw [hn]
      simp
    · have e2 : (r == k) = false := by simpa using fun z => e z.symm
      rw [decide_eq_false e, e2]
      simp
theorem x_law_is_tied (T : Tb) (args : List D) (S : Store) (Q : GQ) (h : cTied args S Q) : wB_ T noW b_law_is_tied (fnEnd Q) (initE N_law_is_tied args) S := by
  obtain ⟨w, r, x, gs, rfl, wok, h⟩ := h
  simp only [b_law_is_tied, initE, N_law_is_tied, Wm.d]
  delta fnEnd
  intro a ha
  refine lc_sub ha (fun _ _ => trivial) (oneIf (rowTest r x gs)) _ (le_size (by rw [List.length_map]; have := wok.rl; omega)) (fun e he S1 K1 K2 s1 k1 k2 => ?_) fun S1 s1 h1 => ?_
  · obtain ⟨⟨k, ps⟩, hq, rfl⟩ := List.mem_map.mp he
    have rl : ps.length ≤ 49 := (wok.ri _ hq).len
    simp only [rrow] at k1 k2 ⊢
    delta eqT_str
    by_cases ek : k = r
    · subst ek
      rw [beq_self_eq_true, if_pos rfl]
      intro b hb
      refine lc_sub hb (fun _ _ => trivial) (oneIf (pairTest x gs)) _ (le_size (by rw [List.length_map]; omega)) (fun e he S2 K3 K4 s2 k3 k4 => ?_) fun S2 s2 h2 => ?_
      · obtain ⟨⟨u, v⟩, hp, rfl⟩ := List.mem_map.mp he
        simp only [pD] at k3 k4 ⊢
        delta eqT_int
        by_cases eu : u = x
        · subst eu
          rw [beq_self_eq_true, if_pos rfl]
          refine ⟨_, _, rfl, _, in_ints _, ?_⟩
          rw [any_in]
          cases hb : decide (v ∈ gs) with
          | true => exact k3 _ _ (by simp [oneIf, pairTest, of_decide_eq_true hb]) (Sub.refl S2)
          | false => exact k4 _ (by simp [oneIf, pairTest, of_decide_eq_false hb]) (Sub.refl S2)
        · rw [beq_eq_false_iff_ne.mpr eu, if_neg (by decide)]
          exact k4 _ (by simp [oneIf, pairTest, eu]) (Sub.refl S2)
      · refine ⟨by decide, fun c hc => ?_⟩
        have bc : b ≠ c := by rintro rfl; rw [h2] at hc; cases hc
        rw [eq_nil (by rw [put_ne bc]; exact h2) put_same, oneIf_emp]
        refine ⟨_, rfl, ?_⟩
        rw [Bool.not_not]
        cases ht : (ps.map pD).any (pairTest x gs) with
        | true => exact k1 _ _ (by simp only [oneIf, rowTest, decide_true, Bool.true_and, ht, if_pos]) (s2.trans (Sub.new hc))
        | false => exact k2 _ (by simp only [oneIf, rowTest, decide_true, Bool.true_and, ht]; rfl) (s2.trans (Sub.new hc))
    · rw [beq_eq_false_iff_ne.mpr ek, if_neg (by decide)]
      exact k2 _ (by simp [oneIf, rowTest, ek]) (Sub.refl S1)
  · refine ⟨by decide, fun c hc => ?_⟩
    have ac : a ≠ c := by rintro rfl; rw [h1] at hc; cases hc
    rw [eq_nil (by rw [put_ne ac]; exact h1) put_same, oneIf_emp, tied_rows wok]
    refine ⟨_, rfl, _, fun _ _ z => z, ?_⟩
    rw [Bool.not_not]
    exact h _ (s1.trans (Sub.new hc))
end GL
end

-- W6i
section
local macro_rules | `(tactic| walk_at "gl") => `(tactic| simp only [GL.wB_, GL.wS, GL.wSeq, GL.wRet, GL.w, GL.both, GL.wAndE, GL.wOrE, GL.wSlot, GL.wAs, GL.wCons, GL.wNil, GL.wVal, GL.wB, GL.wCmp, GL.wCmp2, GL.wBin, GL.wUn, GL.wNot, GL.wAnd, GL.wOr, GL.wIfE, GL.wIf, GL.wTup, GL.wLst, GL.wSlc, GL.wNoP, GL.wPart, GL.wO, GL.wC, GL.wI, GL.wG, GL.wGs, GL.wIt, GL.wRange1, GL.wRange2, GL.wEnum, GL.wZip, GL.wgName, GL.wgTup, GL.wgCons, GL.wgNil, GL.wAsg, GL.wDrop, GL.wSkip, GL.wPar, GL.wSetIx, GL.wTru, GL.wFor, GL.wLc, GL.wMth, GL.wCall, GL.wCallK, GL.wPs, GL.wPairs, GL.q_len, GL.q_isi, GL.q_int, GL.q_list, GL.q_tupt, GL.q_tupr, GL.q_all, GL.q_any, GL.q_max2, GL.q_min2, GL.q_sorted, GL.q_stri, GL.q_strs, GL.q_strb, GL.q_repr, GL.q_dict, GL.q_sum, GL.q_addi, GL.q_adds, GL.q_addt, GL.q_addl, GL.q_addb, GL.q_subi, GL.q_subb, GL.q_muls, GL.q_muli, GL.q_divi, GL.q_modi, GL.q_powi, GL.q_negi, GL.q_negb, GL.q_eq, GL.q_ne, GL.q_lti, GL.q_lei, GL.q_gti, GL.q_gei, GL.q_lts, GL.q_ins, GL.q_nins, GL.q_int_, GL.q_inl, GL.q_nint, GL.q_ninl, GL.q_trb, GL.q_tri, GL.q_ixt, GL.q_ixs, GL.q_slt, GL.q_sls, GL.q_revt, GL.ix_lst, GL.q_dct0, GL.ik_non_tup, GL.ik_non_int, GL.ik_non_str, GL.ik_non_lst, GL.ik_non_bl, GL.ik_non_dct, GL.ik_bl_tup, GL.ik_bl_int, GL.ik_bl_str, GL.ik_bl_lst, GL.ik_bl_bl, GL.ik_bl_dct, GL.ik_int_tup, GL.ik_int_int, GL.ik_int_str, GL.ik_int_lst, GL.ik_int_bl, GL.ik_int_dct, GL.ik_str_tup, GL.ik_str_int, GL.ik_str_str, GL.ik_str_lst, GL.ik_str_bl, GL.ik_str_dct, GL.ik_tup_tup, GL.ik_tup_int, GL.ik_tup_str, GL.ik_tup_lst, GL.ik_tup_bl, GL.ik_tup_dct, GL.ik_lst_tup, GL.ik_lst_int, GL.ik_lst_str, GL.ik_lst_lst, GL.ik_lst_bl, GL.ik_lst_dct, GL.ik_dct_tup, GL.ik_dct_int, GL.ik_dct_str, GL.ik_dct_lst, GL.ik_dct_bl, GL.ik_dct_dct, GL.q_st, GL.q_sf, GL.q_lt, List.cons.injEq, GL.at0, GL.at1, GL.at2, GL.q_itt, GL.q_its, GL.q_itr, GL.q_zt, GL.q_zr, GL.srcT, GL.srcL, GL.q_m1, GL.q_m2, GL.q_m3, GL.q_m4, GL.q_m5, GL.q_m6, GL.q_k1, GL.q_k2, GL.q_k3, GL.q_k4, GL.q_k5, exists_and_left, GL.q_ixr, GL.q_ixi, GL.q_setr, GL.q_slr, GL.q_revr, GL.q_kr, GL.q_lr, GL.q_sr, GL.q_vr, GL.put_same, GL.put_put, GL.keyD, GL.wNew, GL.Cell.dct.injEq, GL.Cell.lst.injEq, GL.D.int.injEq, GL.D.str.injEq, GL.D.ref.injEq, GL.D.tup.injEq, reduceCtorEq, false_and, and_false, or_false, false_or, exists_false, exists_const, and_assoc, GL.q_app, GL.q_ext, GL.q_pop, GL.q_get2, GL.q_join, GL.q_upper, GL.GTgs.len, GL.GTg.slots, GL.GTgs.slots, GL.GXs.len, GL.wipeE, List.getElem?_cons_zero, List.getElem?_cons_succ, List.set_cons_zero, List.set_cons_succ, Option.some.injEq, exists_eq_left', exists_eq_left, List.map_cons, List.map_nil, List.length_cons, List.length_nil, List.replicate_succ, List.replicate_zero, List.cons_append, List.nil_append, List.zip_cons_cons, List.zip_nil_right, List.foldl_cons, List.foldl_nil, Nat.reduceAdd, Nat.reduceSub, true_and, and_true, ↓reduceIte, Bool.false_eq_true, GL.wFld, GL.wMtd, GL.wMake, GL.wSetFld, GL.wLrg, GL.wTrg, GL.q_dictP, GL.wInd])
local macro_rules | `(tactic| delta $xs* $[$loc]?) => `(tactic| simp only [GL.wB_, GL.wS, GL.wSeq, GL.wRet, GL.w, GL.both, GL.wAndE, GL.wOrE, GL.wSlot, GL.wAs, GL.wCons, GL.wNil, GL.wVal, GL.wB, GL.wCmp, GL.wCmp2, GL.wBin, GL.wUn, GL.wNot, GL.wAnd, GL.wOr, GL.wIfE, GL.wIf, GL.wTup, GL.wLst, GL.wSlc, GL.wNoP, GL.wPart, GL.wO, GL.wC, GL.wI, GL.wG, GL.wGs, GL.wIt, GL.wRange1, GL.wRange2, GL.wEnum, GL.wZip, GL.wgName, GL.wgTup, GL.wgCons, GL.wgNil, GL.wAsg, GL.wDrop, GL.wSkip, GL.wPar, GL.wSetIx, GL.wTru, GL.wFor, GL.wLc, GL.wMth, GL.wCall, GL.wCallK, GL.wPs, GL.wPairs, GL.q_len, GL.q_isi, GL.q_int, GL.q_list, GL.q_tupt, GL.q_tupr, GL.q_all, GL.q_any, GL.q_max2, GL.q_min2, GL.q_sorted, GL.q_stri, GL.q_strs, GL.q_strb, GL.q_repr, GL.q_dict, GL.q_sum, GL.q_addi, GL.q_adds, GL.q_addt, GL.q_addl, GL.q_addb, GL.q_subi, GL.q_subb, GL.q_muls, GL.q_muli, GL.q_divi, GL.q_modi, GL.q_powi, GL.q_negi, GL.q_negb, GL.q_eq, GL.q_ne, GL.q_lti, GL.q_lei, GL.q_gti, GL.q_gei, GL.q_lts, GL.q_ins, GL.q_nins, GL.q_int_, GL.q_inl, GL.q_nint, GL.q_ninl, GL.q_trb, GL.q_tri, GL.q_ixt, GL.q_ixs, GL.q_slt, GL.q_sls, GL.q_revt, GL.ix_lst, GL.q_dct0, GL.ik_non_tup, GL.ik_non_int, GL.ik_non_str, GL.ik_non_lst, GL.ik_non_bl, GL.ik_non_dct, GL.ik_bl_tup, GL.ik_bl_int, GL.ik_bl_str, GL.ik_bl_lst, GL.ik_bl_bl, GL.ik_bl_dct, GL.ik_int_tup, GL.ik_int_int, GL.ik_int_str, GL.ik_int_lst, GL.ik_int_bl, GL.ik_int_dct, GL.ik_str_tup, GL.ik_str_int, GL.ik_str_str, GL.ik_str_lst, GL.ik_str_bl, GL.ik_str_dct, GL.ik_tup_tup, GL.ik_tup_int, GL.ik_tup_str, GL.ik_tup_lst, GL.ik_tup_bl, GL.ik_tup_dct, GL.ik_lst_tup, GL.ik_lst_int, GL.ik_lst_str, GL.ik_lst_lst, GL.ik_lst_bl, GL.ik_lst_dct, GL.ik_dct_tup, GL.ik_dct_int, GL.ik_dct_str, GL.ik_dct_lst, GL.ik_dct_bl, GL.ik_dct_dct, GL.q_st, GL.q_sf, GL.q_lt, List.cons.injEq, GL.at0, GL.at1, GL.at2, GL.q_itt, GL.q_its, GL.q_itr, GL.q_zt, GL.q_zr, GL.srcT, GL.srcL, GL.q_m1, GL.q_m2, GL.q_m3, GL.q_m4, GL.q_m5, GL.q_m6, GL.q_k1, GL.q_k2, GL.q_k3, GL.q_k4, GL.q_k5, exists_and_left, GL.q_ixr, GL.q_ixi, GL.q_setr, GL.q_slr, GL.q_revr, GL.q_kr, GL.q_lr, GL.q_sr, GL.q_vr, GL.put_same, GL.put_put, GL.keyD, GL.wNew, GL.Cell.dct.injEq, GL.Cell.lst.injEq, GL.D.int.injEq, GL.D.str.injEq, GL.D.ref.injEq, GL.D.tup.injEq, reduceCtorEq, false_and, and_false, or_false, false_or, exists_false, exists_const, and_assoc, GL.q_app, GL.q_ext, GL.q_pop, GL.q_get2, GL.q_join, GL.q_upper, GL.GTgs.len, GL.GTg.slots, GL.GTgs.slots, GL.GXs.len, GL.wipeE, List.getElem?_cons_zero, List.getElem?_cons_succ, List.set_cons_zero, List.set_cons_succ, Option.some.injEq, exists_eq_left', exists_eq_left, List.map_cons, List.map_nil, List.length_cons, List.length_nil, List.replicate_succ, List.replicate_zero, List.cons_append, List.nil_append, List.zip_cons_cons, List.zip_nil_right, List.foldl_cons, List.foldl_nil, Nat.reduceAdd, Nat.reduceSub, true_and, and_true, ↓reduceIte, Bool.false_eq_true, GL.wFld, GL.wMtd, GL.wMake, GL.wSetFld, GL.wLrg, GL.wTrg, GL.q_dictP, GL.wInd, $[$xs:ident],*] $[$loc]?)
namespace GL
open PySem K01
/-! ### words that are drawn -/
structure LW1 (x : Str) : Prop where
  l1 : 1 ≤ x.length
  l2 : x.length ≤ 10
  lt : ∀ c ∈ x.cps.toList, Lt c
instance {x : Str} : Decidable (LW1 x) :=
  if h : 1 ≤ x.length ∧ x.length ≤ 10 ∧ ∀ c ∈ x.cps.toList, c ∈ lettersS.cps.toList then .isTrue ⟨h.1, h.2.1, h.2.2⟩ else .isFalse fun k => h ⟨k.l1, k.l2, k.lt⟩
theorem LW1.okS {x : Str} (h : LW1 x) : okS 12 x := ⟨by have := h.l2; omega, fun c hc => by have := (h.lt c hc).small; omega⟩
theorem LW1.ok {x : Str} (h : LW1 x) (n : x ∉ resv) : okW x := okW.mk h.l1 h.l2 n h.lt
/-- the names that are tried one after another -/
def cand (f : List Nat) (i : Nat) : Str := ⟨(f ++ [97 + i / 26, 97 + i % 26, 113]).toArray⟩
theorem cand_l (f : List Nat) (i : Nat) : (cand f i).cps.toList = f ++ [97 + i / 26, 97 + i % 26, 113] := by unfold cand; rw [List.toList_toArray]
theorem lt_letter {k : Nat} (h : k < 26) : Lt (97 + k) := by
  have : ∀ k < 26, (97 + k) ∈ lettersS.cps.toList := by decide +kernel
  exact this k h
theorem cand_lw {c0 i : Nat} (h : Lt c0) (hi : i < 676) : LW1 (cand [c0] i) := by
  have hl : (cand [c0] i).length = 4 := by
    show (cand [c0] i).cps.size = 4
    rw [← Array.length_toList, cand_l]; rfl
  refine ⟨by omega, by omega, fun c hc => ?_⟩
  rw [cand_l] at hc
  simp only [List.cons_append, List.nil_append, List.mem_cons, List.not_mem_nil, or_false] at hc
  rcases hc with rfl | rfl | rfl | rfl
  · exact h
  · exact lt_letter (by omega)
  · exact lt_letter (by omega)
  · exact lt_letter (k := 16) (by decide)
theorem cand_ok {c0 i : Nat} (h : Lt c0) (hi : i < 676) : okW (cand [c0] i) := by
  refine (cand_lw h hi).ok fun hm => ?_
  have q : ∀ r ∈ resv, r.cps.toList.getLast? ≠ some 113 := by decide +kernel
  refine q _ hm ?_
  rw [cand_l]
  rfl
theorem cand_inj {c0 i j : Nat} (h : cand [c0] i = cand [c0] j) : i = j := by
  have e := congrArg (fun x : Str => x.cps.toList) h
  simp only [cand_l, List.cons_append, List.nil_append, List.cons.injEq, true_and, and_true] at e
  omega
theorem nodup_sub {α : Type} [DecidableEq α] : ∀ {l xs : List α}, l.Nodup → (∀ x ∈ l, x ∈ xs) → l.length ≤ xs.length
  | [], _, _, _ => (Nat.zero_le _)
  | a :: l, xs, h, k => by
    have hm := k a (List.mem_cons_self ..)
    rw [List.nodup_cons] at h
    have ih := nodup_sub (xs := xs.erase a) h.2 fun x hx => (List.mem_erase_of_ne (by rintro rfl; exact h.1 hx)).mpr (k x (List.mem_cons_of_mem _ hx))
    rw [List.length_erase_of_mem hm] at ih
    have : 0 < xs.length := List.length_pos_of_mem hm
    rw [List.length_cons]
    omega
theorem cands_few {c0 n : Nat} {xs : List Str} (h : ∀ i, i < n → cand [c0] i ∈ xs) : n ≤ xs.length := by
  have q := nodup_sub (l := (List.range n).map (cand [c0])) (xs := xs) (by
    unfold List.Nodup
    rw [List.pairwise_map]
    exact List.nodup_range.imp fun hab e => hab (cand_inj e)) fun x hx => by
      obtain ⟨i, hi, rfl⟩ := List.mem_map.mp hx
      rw [List.mem_range] at hi
      exact h i hi
  simpa using q
def abc : Str := "abcdefghijklmnopqrstuvwxyz"
theorem abc_at {r : Int} (h0 : 0 ≤ r) (h1 : r < 26) : L2.atI abc.cps.toList r = some (97 + r.toNat) := by
  have q : ∀ k < 26, abc.cps.toList[k]? = some (97 + k) := by decide +kernel
  have := L2.atI_nat (xs := abc.cps.toList) (j := r.toNat) (q r.toNat (by omega))
  rwa [Int.toNat_of_nonneg h0] at this
theorem cut1_l (x : Str) : (L2.cutS x none (some 1)).cps.toList = x.cps.toList.take 1 := by
  have e : HT.sIx x.length 0 none = 0 := HT.sIx_none ..
  have e1 : HT.sIx x.length x.length (some 1) = min 1 x.length := by rw [show (1 : Int) = ((1 : Nat) : Int) from rfl, HT.sIx_nat]
  unfold L2.cutS
  rw [e, e1]
  (simp only [List.drop_zero, Nat.sub_zero])
  rw [List.take_eq_take_iff.mpr]
  show min (min 1 x.length) x.cps.toList.length = min 1 x.cps.toList.length
  rw [Array.length_toList]
  show min (min 1 x.cps.size) x.cps.size = min 1 x.cps.size
  omega
theorem new_name {y : Str} {c0 : Nat} {i : Nat} (h : y.cps.toList.take 1 = [c0]) : L2.cutS y none (some 1) ++ ⟨#[97 + i / 26]⟩ ++ ⟨#[97 + i % 26]⟩ ++ "q" = cand [c0] i := by
  apply str_eq_of
  rw [cps_app, cps_app, cps_app, cut1_l, h, cand_l]
  have e : (("q" : Str)).cps.toList = [113] := by decide +kernel
  rw [e]
  rfl
theorem LW1.first {x : Str} (h : LW1 x) : ∃ c0, x.cps.toList.take 1 = [c0] ∧ Lt c0 := by
  cases e : x.cps.toList with
  | nil =>
    have := h.l1
    have e2 : x.length = x.cps.toList.length := by rw [Array.length_toList]; rfl
    rw [e2, e] at this
    simp at this
  | cons c r => exact ⟨c, by simp, h.lt c (by rw [e]; exact List.mem_cons_self ..)⟩
theorem lw_join : ∀ (zs : List Str), (∀ z ∈ zs, z.length = 1 ∧ ∀ c ∈ z.cps.toList, Lt c) → (Str.join "" zs).length = zs.length ∧ ∀ c ∈ (Str.join "" zs).cps.toList, Lt c
  | [], _ => ⟨rfl, fun c hc => by cases hc⟩
  | [z], h => ⟨(h z (List.mem_cons_self ..)).1, (h z (List.mem_cons_self ..)).2⟩
  | z :: y :: r, h => by
    obtain ⟨h1, h2⟩ := h z (List.mem_cons_self ..)
    obtain ⟨a, b⟩ := lw_join (y :: r) fun x hx => h x (List.mem_cons_of_mem _ hx)
    have e : Str.join "" (z :: y :: r) = z ++ "" ++ Str.join "" (y :: r) := rfl
    rw [e]
    refine ⟨?_, fun c hc => ?_⟩
    · rw [strLen_append, strLen_append, h1, a, show (("" : Str)).length = 0 from rfl, List.length_cons (a := z)]; omega
    · rw [cps_app, cps_app] at hc
      (rcases List.mem_append.mp hc with hc | hc)
      · rcases List.mem_append.mp hc with hc | hc
        · exact h2 c hc
        · cases hc
      · exact b c hc
theorem all2_lets {R : D → D → Prop} (h : ∀ d y, R d y → ∃ x : Str, y = .str x ∧ x.length = 1 ∧ ∀ c ∈ x.cps.toList, Lt c) : ∀ {ds ys : List D}, All2 R ds ys → ∃ xs : List Str, ys = xs.map D.str ∧ xs.length = ds.length ∧ ∀ x ∈ xs, x.length = 1 ∧ ∀ c ∈ x.cps.toList, Lt c
  | [], ys, e => ⟨[], e, rfl, fun x hx => by cases hx⟩
  | d :: ds, _, ⟨y, r, e, q, t⟩ => by
    obtain ⟨x, rfl, hx, hxs⟩ := h _ _ q
    obtain ⟨xs, rfl, h3, h4⟩ := all2_lets h t
    exact ⟨x :: xs, e, by rw [List.length_cons, List.length_cons, h3], fun y hy => by
      (rcases List.mem_cons.mp hy with rfl | hy)
      · exact ⟨hx, hxs⟩
      · exact h4 y hy⟩
theorem cut_one (x : Str) : (L2.cutS x none (some 1)).length ≤ 1 := by
  show (Array.size (List.toArray _)) ≤ 1
  rw [List.size_toArray, List.length_take]
  have : HT.sIx x.length x.length (some 1) ≤ 1 := by rw [show (1 : Int) = ((1 : Nat) : Int) from rfl, HT.sIx_nat]; omega
  omega
def GB.tl : GB → Nat → GB
  | b, 0 => b
  | .cons _ b, n + 1 => b.tl n
  | .nil, _ => .nil
def cName : GC0 := fun args S Q => ∃ a b f, ∃ xs : List Str, args = [.ref a, .ref f] ∧ (f ≠ a ∧ f ≠ b) ∧ S f = some (.lst (xs.map D.str)) ∧ xs.length ≤ 100 ∧ Dk S a b ∧
  ∀ (x : Str) S', okW x → x ∉ xs → Dk S' a b → Fr a b S S' → Q (.str x) S'
/-- between two turns -/
def Tried (xs : List Str) (c0 t : Nat) (y : Str) : Prop := LW1 y ∧ y.cps.toList.take 1 = [c0] ∧ Lt c0 ∧ ((okW y ∧ y ∉ xs) ∨ ((1 ≤ t → y = cand [c0] (t - 1)) ∧ ∀ i, i + 1 < t → cand [c0] i ∈ xs))
theorem Tried.go {xs : List Str} {c0 t : Nat} {y : Str} (h : Tried xs c0 t y) (ht : t < 102) (bad : y ∈ xs ∨ ¬ okW y) : Tried xs c0 (t + 1) (cand [c0] t) := by
  obtain ⟨h1, h2, h3, h4⟩ := h
  refine ⟨cand_lw h3 (by omega), by rw [cand_l]; rfl, h3, .inr ⟨fun _ => rfl, fun i hi => ?_⟩⟩
  rcases h4 with ⟨a, b⟩ | ⟨a, b⟩
  · rcases bad with q | q
    · exact absurd q b
    · exact absurd a q
  · by_cases e : i + 1 = t
    · have ey := a (by omega)
      have e3 : t - 1 = i := by omega
      rw [e3] at ey
      rcases bad with q | q
      · rw [← ey]; exact q
      · exact absurd (by rw [ey]; exact cand_ok h3 (by omega)) q
    · exact b i (by omega)
theorem Tried.stay {xs : List Str} {c0 t : Nat} {y : Str} (h : Tried xs c0 t y) (g1 : y ∉ xs) (g2 : okW y) : Tried xs c0 (t + 1) y := ⟨h.1, h.2.1, h.2.2.1, .inl ⟨g2, g1⟩⟩
theorem Tried.end_ {xs : List Str} {c0 : Nat} {y : Str} (h : Tried xs c0 (xs.length + 2) y) : okW y ∧ y ∉ xs := by
  rcases h.2.2.2 with q | ⟨_, q⟩
  · exact q
  · have := cands_few (n := xs.length + 1) fun i hi => q i (by omega)
    omega
end GL
end

-- W6j
section
local macro_rules | `(tactic| walk_at "gl") => `(tactic| simp only [GL.wB_, GL.wS, GL.wSeq, GL.wRet, GL.w, GL.both, GL.wAndE, GL.wOrE, GL.wSlot, GL.wAs, GL.wCons, GL.wNil, GL.wVal, GL.wB, GL.wCmp, GL.wCmp2, GL.wBin, GL.wUn, GL.wNot, GL.wAnd, GL.wOr, GL.wIfE, GL.wIf, GL.wTup, GL.wLst, GL.wSlc, GL.wNoP, GL.wPart, GL.wO, GL.wC, GL.wI, GL.wG, GL.wGs, GL.wIt, GL.wRange1, GL.wRange2, GL.wEnum, GL.wZip, GL.wgName, GL.wgTup, GL.wgCons, GL.wgNil, GL.wAsg, GL.wDrop, GL.wSkip, GL.wPar, GL.wSetIx, GL.wTru, GL.wFor, GL.wLc, GL.wMth, GL.wCall, GL.wCallK, GL.wPs, GL.wPairs, GL.q_len, GL.q_isi, GL.q_int, GL.q_list, GL.q_tupt, GL.q_tupr, GL.q_all, GL.q_any, GL.q_max2, GL.q_min2, GL.q_sorted, GL.q_stri, GL.q_strs, GL.q_strb, GL.q_repr, GL.q_dict, GL.q_sum, GL.q_addi, GL.q_adds, GL.q_addt, GL.q_addl, GL.q_addb, GL.q_subi, GL.q_subb, GL.q_muls, GL.q_muli, GL.q_divi, GL.q_modi, GL.q_powi, GL.q_negi, GL.q_negb, GL.q_eq, GL.q_ne, GL.q_lti, GL.q_lei, GL.q_gti, GL.q_gei, GL.q_lts, GL.q_ins, GL.q_nins, GL.q_int_, GL.q_inl, GL.q_nint, GL.q_ninl, GL.q_trb, GL.q_tri, GL.q_ixt, GL.q_ixs, GL.q_slt, GL.q_sls, GL.q_revt, GL.ix_lst, GL.q_dct0, GL.ik_non_tup, GL.ik_non_int, GL.ik_non_str, GL.ik_non_lst, GL.ik_non_bl, GL.ik_non_dct, GL.ik_bl_tup, GL.ik_bl_int, GL.ik_bl_str, GL.ik_bl_lst, GL.ik_bl_bl, GL.ik_bl_dct, GL.ik_int_tup, GL.ik_int_int, GL.ik_int_str, GL.ik_int_lst, GL.ik_int_bl, GL.ik_int_dct, GL.ik_str_tup, GL.ik_str_int, GL.ik_str_str, GL.ik_str_lst, GL.ik_str_bl, GL.ik_str_dct, GL.ik_tup_tup, GL.ik_tup_int, GL.ik_tup_str, GL.ik_tup_lst, GL.ik_tup_bl, GL.ik_tup_dct, GL.ik_lst_tup, GL.ik_lst_int, GL.ik_lst_str, GL.ik_lst_lst, GL.ik_lst_bl, GL.ik_lst_dct, GL.ik_dct_tup, GL.ik_dct_int, GL.ik_dct_str, GL.ik_dct_lst, GL.ik_dct_bl, GL.ik_dct_dct, GL.q_st, GL.q_sf, GL.q_lt, List.cons.injEq, GL.at0, GL.at1, GL.at2, GL.q_itt, GL.q_its, GL.q_itr, GL.q_zt, GL.q_zr, GL.srcT, GL.srcL, GL.q_m1, GL.q_m2, GL.q_m3, GL.q_m4, GL.q_m5, GL.q_m6, GL.q_k1, GL.q_k2, GL.q_k3, GL.q_k4, GL.q_k5, exists_and_left, GL.q_ixr, GL.q_ixi, GL.q_setr, GL.q_slr, GL.q_revr, GL.q_kr, GL.q_lr, GL.q_sr, GL.q_vr, GL.put_same, GL.put_put, GL.keyD, GL.wNew, GL.Cell.dct.injEq, GL.Cell.lst.injEq, GL.D.int.injEq, GL.D.str.injEq, GL.D.ref.injEq, GL.D.tup.injEq, reduceCtorEq, false_and, and_false, or_false, false_or, exists_false, exists_const, and_assoc, GL.q_app, GL.q_ext, GL.q_pop, GL.q_get2, GL.q_join, GL.q_upper, GL.GTgs.len, GL.GTg.slots, GL.GTgs.slots, GL.GXs.len, GL.wipeE, List.getElem?_cons_zero, List.getElem?_cons_succ, List.set_cons_zero, List.set_cons_succ, Option.some.injEq, exists_eq_left', exists_eq_left, List.map_cons, List.map_nil, List.length_cons, List.length_nil, List.replicate_succ, List.replicate_zero, List.cons_append, List.nil_append, List.zip_cons_cons, List.zip_nil_right, List.foldl_cons, List.foldl_nil, Nat.reduceAdd, Nat.reduceSub, true_and, and_true, ↓reduceIte, Bool.false_eq_true, GL.wFld, GL.wMtd, GL.wMake, GL.wSetFld, GL.wLrg, GL.wTrg, GL.q_dictP, GL.wInd])
local macro_rules | `(tactic| delta $xs* $[$loc]?) => `(tactic| simp only [GL.wB_, GL.wS, GL.wSeq, GL.wRet, GL.w, GL.both, GL.wAndE, GL.wOrE, GL.wSlot, GL.wAs, GL.wCons, GL.wNil, GL.wVal, GL.wB, GL.wCmp, GL.wCmp2, GL.wBin, GL.wUn, GL.wNot, GL.wAnd, GL.wOr, GL.wIfE, GL.wIf, GL.wTup, GL.wLst, GL.wSlc, GL.wNoP, GL.wPart, GL.wO, GL.wC, GL.wI, GL.wG, GL.wGs, GL.wIt, GL.wRange1, GL.wRange2, GL.wEnum, GL.wZip, GL.wgName, GL.wgTup, GL.wgCons, GL.wgNil, GL.wAsg, GL.wDrop, GL.wSkip, GL.wPar, GL.wSetIx, GL.wTru, GL.wFor, GL.wLc, GL.wMth, GL.wCall, GL.wCallK, GL.wPs, GL.wPairs, GL.q_len, GL.q_isi, GL.q_int, GL.q_list, GL.q_tupt, GL.q_tupr, GL.q_all, GL.q_any, GL.q_max2, GL.q_min2, GL.q_sorted, GL.q_stri, GL.q_strs, GL.q_strb, GL.q_repr, GL.q_dict, GL.q_sum, GL.q_addi, GL.q_adds, GL.q_addt, GL.q_addl, GL.q_addb, GL.q_subi, GL.q_subb, GL.q_muls, GL.q_muli, GL.q_divi, GL.q_modi, GL.q_powi, GL.q_negi, GL.q_negb, GL.q_eq, GL.q_ne, GL.q_lti, GL.q_lei, GL.q_gti, GL.q_gei, GL.q_lts, GL.q_ins, GL.q_nins, GL.q_int_, GL.q_inl, GL.q_nint, GL.q_ninl, GL.q_trb, GL.q_tri, GL.q_ixt, GL.q_ixs, GL.q_slt, GL.q_sls, GL.q_revt, GL.ix_lst, GL.q_dct0, GL.ik_non_tup, GL.ik_non_int, GL.ik_non_str, GL.ik_non_lst, GL.ik_non_bl, GL.ik_non_dct, GL.ik_bl_tup, GL.ik_bl_int, GL.ik_bl_str, GL.ik_bl_lst, GL.ik_bl_bl, GL.ik_bl_dct, GL.ik_int_tup, GL.ik_int_int, GL.ik_int_str, GL.ik_int_lst, GL.ik_int_bl, GL.ik_int_dct, GL.ik_str_tup, GL.ik_str_int, GL.ik_str_str, GL.ik_str_lst, GL.ik_str_bl, GL.ik_str_dct, GL.ik_tup_tup, GL.ik_tup_int, GL.ik_tup_str, GL.ik_tup_lst, GL.ik_tup_bl, GL.ik_tup_dct, GL.ik_lst_tup, GL.ik_lst_int, GL.ik_lst_str, GL.ik_lst_lst, GL.ik_lst_bl, GL.ik_lst_dct, GL.ik_dct_tup, GL.ik_dct_int, GL.ik_dct_str, GL.ik_dct_lst, GL.ik_dct_bl, GL.ik_dct_dct, GL.q_st, GL.q_sf, GL.q_lt, List.cons.injEq, GL.at0, GL.at1, GL.at2, GL.q_itt, GL.q_its, GL.q_itr, GL.q_zt, GL.q_zr, GL.srcT, GL.srcL, GL.q_m1, GL.q_m2, GL.q_m3, GL.q_m4, GL.q_m5, GL.q_m6, GL.q_k1, GL.q_k2, GL.q_k3, GL.q_k4, GL.q_k5, exists_and_left, GL.q_ixr, GL.q_ixi, GL.q_setr, GL.q_slr, GL.q_revr, GL.q_kr, GL.q_lr, GL.q_sr, GL.q_vr, GL.put_same, GL.put_put, GL.keyD, GL.wNew, GL.Cell.dct.injEq, GL.Cell.lst.injEq, GL.D.int.injEq, GL.D.str.injEq, GL.D.ref.injEq, GL.D.tup.injEq, reduceCtorEq, false_and, and_false, or_false, false_or, exists_false, exists_const, and_assoc, GL.q_app, GL.q_ext, GL.q_pop, GL.q_get2, GL.q_join, GL.q_upper, GL.GTgs.len, GL.GTg.slots, GL.GTgs.slots, GL.GXs.len, GL.wipeE, List.getElem?_cons_zero, List.getElem?_cons_succ, List.set_cons_zero, List.set_cons_succ, Option.some.injEq, exists_eq_left', exists_eq_left, List.map_cons, List.map_nil, List.length_cons, List.length_nil, List.replicate_succ, List.replicate_zero, List.cons_append, List.nil_append, List.zip_cons_cons, List.zip_nil_right, List.foldl_cons, List.foldl_nil, Nat.reduceAdd, Nat.reduceSub, true_and, and_true, ↓reduceIte, Bool.false_eq_true, GL.wFld, GL.wMtd, GL.wMake, GL.wSetFld, GL.wLrg, GL.wTrg, GL.q_dictP, GL.wInd, $[$xs:ident],*] $[$loc]?)
namespace GL
open PySem K01
theorem y_name (T : Tb) (hd : Has T "_law_draw" cDraw) (hpk : Has T "_law_pick" cPick) (hw : Has T "_law_is_word" (cPure1 isWord)) (args : List D) (S : Store) (Q : GQ) (h : cName args S Q) : wB_ T noW b_law_name (fnEnd Q) (initE N_law_name args) S := by
  obtain ⟨a, b, f, xs, rfl, ⟨fa, fb⟩, hf, hl, hD, h⟩ := h
  obtain ⟨Fd, ed, ud⟩ := hd
  obtain ⟨Fp, ep, up⟩ := hpk
  obtain ⟨Fw, ew, uw⟩ := hw
  have tail : ∀ (x : Str) (S2 : Store), LW1 x → Jd a b S S2 → wB_ T noW (b_law_name.tl 3) (fnEnd Q) [some (.ref a), some (.ref f), some (.str abc), some (.str x), none] S2 := by
    intro x S2 hx ⟨D2, F2⟩
    have hf2 := F2 f _ fa fb hf
    obtain ⟨c0, x0, lt0⟩ := hx.first
    simp only [b_law_name, GB.tl]
    delta hf2 ew
    rw [List.length_map]
    (refine ⟨by omega, by omega, ?_⟩)
    refine for_inv (fun r ρ S3 => ∃ (y : Str) (t : Option D) (k : Nat), ρ = [some (.ref a), some (.ref f), some (.str abc), some (.str y), t] ∧ Tried xs c0 k y ∧ Jd a b S S3 ∧ k ≤ xs.length + 2 ∧ r = (List.range' k (xs.length + 2 - k)).map (fun i => D.int (0 + (i : Nat)))) (fun _ _ _ _ => trivial) _ _ _
      ⟨x, _, 0, rfl, ⟨hx, x0, lt0, .inr ⟨fun z => absurd z (by decide), fun i hi => absurd hi (by omega)⟩⟩, ⟨D2, F2⟩, Nat.zero_le _, ?_⟩ ?_ ?_
    · unfold rangeD
      rw [List.range_eq_range', Nat.sub_zero]
      congr 2
    · rintro d r ρ S3 K ⟨y, t, k, rfl, hy, ⟨D3, F3⟩, hk, hr⟩ hK
      obtain ⟨m, hm⟩ : ∃ m, xs.length + 2 - k = m + 1 := by
        cases e : xs.length + 2 - k with
        | zero => rw [e] at hr; cases hr
        | succ m => exact ⟨m, rfl⟩
      rw [hm, List.range'_succ, List.map_cons, List.cons.injEq] at hr
      obtain ⟨rfl, rfl⟩ := hr
      have hm' : m = xs.length + 2 - (k + 1) := by omega
      have hf3 := F3 f _ fa fb hf
      have e1 := abc_at (r := (0 + (k : Int)) / 26) (by omega) (by omega)
      have e2 := abc_at (r := (0 + (k : Int)) % 26) (by omega) (by omega)
      have n1 : ((0 + (k : Int)) / 26).toNat = k / 26 := by omega
      have n2 : ((0 + (k : Int)) % 26).toNat = k % 26 := by omega
      rw [n1] at e1
      rw [n2] at e2
      delta hf3 ew Vw.seq.injEq in_strs e1 e2
      have yl := hy.1.l2
      have lz : 1000000 < sizeLine := by decide
      have new : ∀ S4, Jd a b S S4 → (y ∈ xs ∨ ¬ okW y) → K [some (.ref a), some (.ref f), some (.str abc), some (.str (L2.cutS y none (some 1) ++ ⟨#[97 + k / 26]⟩ ++ ⟨#[97 + k % 26]⟩ ++ "q")), some (.int (0 + (k : Int)))] S4 := fun S4 J4 bad => by
        rw [new_name hy.2.1]
        exact hK _ _ ⟨_, _, k + 1, rfl, hy.go (by omega) bad, J4, by omega, by rw [hm']⟩
      have l1 : ∀ c : Nat, (⟨#[c]⟩ : Str).length = 1 := fun _ => rfl
      have lq : (("q" : Str)).length = 1 := rfl
      have lc := cut_one y
      have sd : ∀ (P : Prop), P → (y.length ≤ sizeLine ∧ L2.CDivW (0 + (k : Int)) 26 ∧ abc.length ≤ sizeLine ∧ (L2.cutS y none (some 1)).length + (⟨#[97 + k / 26]⟩ : Str).length ≤ sizeLine ∧ (0 : Int) < 26 ∧ abc.length ≤ sizeLine ∧ (L2.cutS y none (some 1) ++ ⟨#[97 + k / 26]⟩).length + (⟨#[97 + k % 26]⟩ : Str).length ≤ sizeLine ∧ (L2.cutS y none (some 1) ++ ⟨#[97 + k / 26]⟩ ++ ⟨#[97 + k % 26]⟩).length + (("q" : Str)).length ≤ sizeLine ∧ P) := fun P p =>
        ⟨by omega, ⟨by decide, by decide +kernel⟩, (by decide : 26 ≤ sizeLine), by rw [l1]; omega, by decide, (by decide : 26 ≤ sizeLine), by rw [strLen_append, l1, l1]; omega, by rw [strLen_append, strLen_append, l1, l1, lq]; omega, p⟩
      have anyin : (xs.map (fun x => x == y)).any id = decide (y ∈ xs) := by
        rw [List.any_map]
        cases hd : decide (y ∈ xs) with
        | true => exact List.any_eq_true.mpr ⟨y, of_decide_eq_true hd, by simp⟩
        | false =>
          refine List.any_eq_false.mpr fun z hz => ?_
          simp only [Function.comp, id, beq_iff_eq]
          rintro rfl
          exact of_decide_eq_false hd hz
      rw [anyin]
      cases hany : decide (y ∈ xs) with
      | true => exact sd _ (new S3 ⟨D3, F3⟩ (.inl (of_decide_eq_true hany)))
      | false =>
        rw [if_neg (by decide)]
        refine use2 uw rfl ⟨.str y, rfl, ⟨fun _ => True, 12, 0, 1, by decide, by decide, .str hy.1.okS (by decide)⟩, fun S4 s4 => ?_⟩
        have J4 : Jd a b S S4 := ⟨D3.sub s4, F3.trans s4.fr⟩
        cases hw : isWord (.str y) with
        | true =>
          delta Bool.not_true
          exact hK _ _ ⟨_, _, k + 1, rfl, hy.stay (of_decide_eq_false hany) hw, J4, by omega, by rw [hm']⟩
        | false =>
          delta Bool.not_false
          exact sd _ (new S4 J4 (.inr fun z => by rw [show isWord (.str y) = true from z] at hw; cases hw))
    · rintro ρ S3 ⟨y, t, k, rfl, hy, ⟨D3, F3⟩, hk, hr⟩
      delta fnEnd
      have ek : k = xs.length + 2 := by
        cases e : xs.length + 2 - k with
        | zero => omega
        | succ m => rw [e, List.range'_succ] at hr; cases hr
      subst ek
      have q := hy.end_
      exact ⟨S3, fun _ _ z => z, h y S3 q.1 q.2 D3 F3⟩
  simp only [b_law_name, initE, N_law_name]
  delta fnEnd ed ep ew
  refine ⟨by decide, fun p hp => ?_⟩
  obtain ⟨pa, pb⟩ := hD.ne_new hp
  refine use2 up rfl ⟨a, b, p, _, rfl, ⟨pa, pb⟩, put_same, by simp, by simp, (Jd.put ⟨hD, Fr.refl S⟩ hp pa pb _).1, fun d hd S1 D1 F1 => ?_⟩
  have J1 : Jd a b S S1 := ⟨D1, (Jd.put ⟨hD, Fr.refl S⟩ hp pa pb _).2.trans F1⟩
  have hd' : ∃ n : Int, d = .int n ∧ 0 ≤ n ∧ n ≤ 9 := by
    simp only [List.mem_cons, List.not_mem_nil, or_false] at hd
    rcases hd with rfl | rfl | rfl | rfl | rfl | rfl <;> exact ⟨_, rfl, by decide, by decide⟩
  obtain ⟨n, rfl, n0, n9⟩ := hd'
  delta ed ep ew
  refine ⟨by omega, by omega, fun v hv => ?_⟩
  obtain ⟨va, vb⟩ := D1.ne_new hv
  have hvS : S v = none := by
    cases e : S v with
    | none => rfl
    | some c => rw [J1.2 v c va vb e] at hv; cases hv
  refine lc_rel (Jd a b S) (fun S' c j => j.put hvS va vb c) (fun _ _ => trivial) (fun _ y => ∃ x : Str, y = .str x ∧ x.length = 1 ∧ ∀ c ∈ x.cps.toList, Lt c) _ [] _ (J1.put hvS va vb _) put_same ?_ (fun d hd S2 acc K1 K2 j1 h1 k1 => ?_) fun S2 ys j2 hys hv2 => ?_
  · unfold rangeD; rw [List.length_map, List.length_range]; exact le_size (by simp; omega)
  · delta ed
    refine use2 ud rfl ⟨a, b, 26, rfl, by decide, j1.1, fun r S4 h0 h1' hD4 hF4 => ?_⟩
    have e' : L2.atI (Str.ofString "abcdefghijklmnopqrstuvwxyz").cps.toList r = some (97 + r.toNat) := abc_at h0 h1'
    delta e'
    refine ⟨(by decide : 26 ≤ sizeLine), k1 _ S4 ⟨_, rfl, rfl, fun c hc => ?_⟩ ⟨hD4, j1.2.trans hF4⟩ (hF4 v _ va vb h1)⟩
    have : c = 97 + r.toNat := by simpa using hc
    rw [this]
    exact lt_letter (by omega)
  · obtain ⟨zs, rfl, hzl, hsm⟩ := all2_lets (fun _ _ z => z) hys
    have hlen : (rangeD 0 (1 + n).toNat).length = (1 + n).toNat := by unfold rangeD; rw [List.length_map, List.length_range]
    have jl := lw_join zs hsm
    have ej : Txt.join "" zs = Str.join "" zs := by
      show Builtin.Str.glued "" zs = _
      rw [StrLaws.glued_eq_join]
    have hj : LW1 (Txt.join "" zs) := by
      rw [ej]
      exact ⟨by rw [jl.1]; omega, by rw [jl.1]; omega, jl.2⟩
    have hsum : (zs.map (·.length)).sum = zs.length := by
      have : ∀ l : List Str, (∀ z ∈ l, z.length = 1) → (l.map (·.length)).sum = l.length := fun l => by
        induction l with
        | nil => exact fun _ => rfl
        | cons z l ih => exact fun q => by rw [List.map_cons, List.sum_cons, q z (List.mem_cons_self ..), ih fun x hx => q x (List.mem_cons_of_mem _ hx), List.length_cons]; omega
      exact this zs fun z hz => (hsm z hz).1
    rw [List.nil_append] at hv2
    delta hv2
    refine ⟨zs, rfl, by rw [hsum, show ((Str.ofString "")).length = 0 from rfl]; omega, ?_⟩
    refine use2 ud rfl ⟨a, b, 6, rfl, by decide, j2.1, fun r S4 h0 h1' hD4 hF4 => ?_⟩
    have J4 : Jd a b S S4 := ⟨hD4, j2.2.trans hF4⟩
    delta eqT_int ep ed ew
    cases hr : (r == 0) with
    | false =>
      have t := tail _ S4 hj J4
      simp only [b_law_name, GB.tl] at t
      delta ew fnEnd at t
      exact t
    | true =>
      rw [if_pos rfl]
      refine ⟨by decide, fun u hu => ?_⟩
      obtain ⟨ua, ub⟩ := hD4.ne_new hu
      have huS : S u = none := by
        cases e : S u with
        | none => rfl
        | some c => rw [J4.2 u c ua ub e] at hu; cases hu
      refine use2 up rfl ⟨a, b, u, _, rfl, ⟨ua, ub⟩, put_same, by simp, by simp, (J4.put huS ua ub _).1, fun d hd S5 D5 F5 => ?_⟩
      have J5 : Jd a b S S5 := ⟨D5, (J4.put huS ua ub _).2.trans F5⟩
      have hd' : ∃ x : Str, d = .str x ∧ LW1 x := by
        simp only [List.mem_cons, List.not_mem_nil, or_false] at hd
        rcases hd with rfl | rfl | rfl | rfl | rfl | rfl | rfl | rfl | rfl | rfl <;> exact ⟨_, rfl, by decide +kernel⟩
      obtain ⟨x, rfl, hx⟩ := hd'
      have t := tail x S5 hx J5
      simp only [b_law_name, GB.tl] at t
      delta ew fnEnd at t
      exact t
end GL
end

-- W6k
section
local macro_rules | `(tactic| walk_at "gl") => `(tactic| simp only [GL.wB_, GL.wS, GL.wSeq, GL.wRet, GL.w, GL.both, GL.wAndE, GL.wOrE, GL.wSlot, GL.wAs, GL.wCons, GL.wNil, GL.wVal, GL.wB, GL.wCmp, GL.wCmp2, GL.wBin, GL.wUn, GL.wNot, GL.wAnd, GL.wOr, GL.wIfE, GL.wIf, GL.wTup, GL.wLst, GL.wSlc, GL.wNoP, GL.wPart, GL.wO, GL.wC, GL.wI, GL.wG, GL.wGs, GL.wIt, GL.wRange1, GL.wRange2, GL.wEnum, GL.wZip, GL.wgName, GL.wgTup, GL.wgCons, GL.wgNil, GL.wAsg, GL.wDrop, GL.wSkip, GL.wPar, GL.wSetIx, GL.wTru, GL.wFor, GL.wLc, GL.wMth, GL.wCall, GL.wCallK, GL.wPs, GL.wPairs, GL.q_len, GL.q_isi, GL.q_int, GL.q_list, GL.q_tupt, GL.q_tupr, GL.q_all, GL.q_any, GL.q_max2, GL.q_min2, GL.q_sorted, GL.q_stri, GL.q_strs, GL.q_strb, GL.q_repr, GL.q_dict, GL.q_sum, GL.q_addi, GL.q_adds, GL.q_addt, GL.q_addl, GL.q_addb, GL.q_subi, GL.q_subb, GL.q_muls, GL.q_muli, GL.q_divi, GL.q_modi, GL.q_powi, GL.q_negi, GL.q_negb, GL.q_eq, GL.q_ne, GL.q_lti, GL.q_lei, GL.q_gti, GL.q_gei, GL.q_lts, GL.q_ins, GL.q_nins, GL.q_int_, GL.q_inl, GL.q_nint, GL.q_ninl, GL.q_trb, GL.q_tri, GL.q_ixt, GL.q_ixs, GL.q_slt, GL.q_sls, GL.q_revt, GL.ix_lst, GL.q_dct0, GL.ik_non_tup, GL.ik_non_int, GL.ik_non_str, GL.ik_non_lst, GL.ik_non_bl, GL.ik_non_dct, GL.ik_bl_tup, GL.ik_bl_int, GL.ik_bl_str, GL.ik_bl_lst, GL.ik_bl_bl, GL.ik_bl_dct, GL.ik_int_tup, GL.ik_int_int, GL.ik_int_str, GL.ik_int_lst, GL.ik_int_bl, GL.ik_int_dct, GL.ik_str_tup, GL.ik_str_int, GL.ik_str_str, GL.ik_str_lst, GL.ik_str_bl, GL.ik_str_dct, GL.ik_tup_tup, GL.ik_tup_int, GL.ik_tup_str, GL.ik_tup_lst, GL.ik_tup_bl, GL.ik_tup_dct, GL.ik_lst_tup, GL.ik_lst_int, GL.ik_lst_str, GL.ik_lst_lst, GL.ik_lst_bl, GL.ik_lst_dct, GL.ik_dct_tup, GL.ik_dct_int, GL.ik_dct_str, GL.ik_dct_lst, GL.ik_dct_bl, GL.ik_dct_dct, GL.q_st, GL.q_sf, GL.q_lt, List.cons.injEq, GL.at0, GL.at1, GL.at2, GL.q_itt, GL.q_its, GL.q_itr, GL.q_zt, GL.q_zr, GL.srcT, GL.srcL, GL.q_m1, GL.q_m2, GL.q_m3, GL.q_m4, GL.q_m5, GL.q_m6, GL.q_k1, GL.q_k2, GL.q_k3, GL.q_k4, GL.q_k5, exists_and_left, GL.q_ixr, GL.q_ixi, GL.q_setr, GL.q_slr, GL.q_revr, GL.q_kr, GL.q_lr, GL.q_sr, GL.q_vr, GL.put_same, GL.put_put, GL.keyD, GL.wNew, GL.Cell.dct.injEq, GL.Cell.lst.injEq, GL.D.int.injEq, GL.D.str.injEq, GL.D.ref.injEq, GL.D.tup.injEq, reduceCtorEq, false_and, and_false, or_false, false_or, exists_false, exists_const, and_assoc, GL.q_app, GL.q_ext, GL.q_pop, GL.q_get2, GL.q_join, GL.q_upper, GL.GTgs.len, GL.GTg.slots, GL.GTgs.slots, GL.GXs.len, GL.wipeE, List.getElem?_cons_zero, List.getElem?_cons_succ, List.set_cons_zero, List.set_cons_succ, Option.some.injEq, exists_eq_left', exists_eq_left, List.map_cons, List.map_nil, List.length_cons, List.length_nil, List.replicate_succ, List.replicate_zero, List.cons_append, List.nil_append, List.zip_cons_cons, List.zip_nil_right, List.foldl_cons, List.foldl_nil, Nat.reduceAdd, Nat.reduceSub, true_and, and_true, ↓reduceIte, Bool.false_eq_true, GL.wFld, GL.wMtd, GL.wMake, GL.wSetFld, GL.wLrg, GL.wTrg, GL.q_dictP, GL.wInd])
local macro_rules | `(tactic| delta $xs* $[$loc]?) => `(tactic| simp only [GL.wB_, GL.wS, GL.wSeq, GL.wRet, GL.w, GL.both, GL.wAndE, GL.wOrE, GL.wSlot, GL.wAs, GL.wCons, GL.wNil, GL.wVal, GL.wB, GL.wCmp, GL.wCmp2, GL.wBin, GL.wUn, GL.wNot, GL.wAnd, GL.wOr, GL.wIfE, GL.wIf, GL.wTup, GL.wLst, GL.wSlc, GL.wNoP, GL.wPart, GL.wO, GL.wC, GL.wI, GL.wG, GL.wGs, GL.wIt, GL.wRange1, GL.wRange2, GL.wEnum, GL.wZip, GL.wgName, GL.wgTup, GL.wgCons, GL.wgNil, GL.wAsg, GL.wDrop, GL.wSkip, GL.wPar, GL.wSetIx, GL.wTru, GL.wFor, GL.wLc, GL.wMth, GL.wCall, GL.wCallK, GL.wPs, GL.wPairs, GL.q_len, GL.q_isi, GL.q_int, GL.q_list, GL.q_tupt, GL.q_tupr, GL.q_all, GL.q_any, GL.q_max2, GL.q_min2, GL.q_sorted, GL.q_stri, GL.q_strs, GL.q_strb, GL.q_repr, GL.q_dict, GL.q_sum, GL.q_addi, GL.q_adds, GL.q_addt, GL.q_addl, GL.q_addb, GL.q_subi, GL.q_subb, GL.q_muls, GL.q_muli, GL.q_divi, GL.q_modi, GL.q_powi, GL.q_negi, GL.q_negb, GL.q_eq, GL.q_ne, GL.q_lti, GL.q_lei, GL.q_gti, GL.q_gei, GL.q_lts, GL.q_ins, GL.q_nins, GL.q_int_, GL.q_inl, GL.q_nint, GL.q_ninl, GL.q_trb, GL.q_tri, GL.q_ixt, GL.q_ixs, GL.q_slt, GL.q_sls, GL.q_revt, GL.ix_lst, GL.q_dct0, GL.ik_non_tup, GL.ik_non_int, GL.ik_non_str, GL.ik_non_lst, GL.ik_non_bl, GL.ik_non_dct, GL.ik_bl_tup, GL.ik_bl_int, GL.ik_bl_str, GL.ik_bl_lst, GL.ik_bl_bl, GL.ik_bl_dct, GL.ik_int_tup, GL.ik_int_int, GL.ik_int_str, GL.ik_int_lst, GL.ik_int_bl, GL.ik_int_dct, GL.ik_str_tup, GL.ik_str_int, GL.ik_str_str, GL.ik_str_lst, GL.ik_str_bl, GL.ik_str_dct, GL.ik_tup_tup, GL.ik_tup_int, GL.ik_tup_str, GL.ik_tup_lst, GL.ik_tup_bl, GL.ik_tup_dct, GL.ik_lst_tup, GL.ik_lst_int, GL.ik_lst_str, GL.ik_lst_lst, GL.ik_lst_bl, GL.ik_lst_dct, GL.ik_dct_tup, GL.ik_dct_int, GL.ik_dct_str, GL.ik_dct_lst, GL.ik_dct_bl, GL.ik_dct_dct, GL.q_st, GL.q_sf, GL.q_lt, List.cons.injEq, GL.at0, GL.at1, GL.at2, GL.q_itt, GL.q_its, GL.q_itr, GL.q_zt, GL.q_zr, GL.srcT, GL.srcL, GL.q_m1, GL.q_m2, GL.q_m3, GL.q_m4, GL.q_m5, GL.q_m6, GL.q_k1, GL.q_k2, GL.q_k3, GL.q_k4, GL.q_k5, exists_and_left, GL.q_ixr, GL.q_ixi, GL.q_setr, GL.q_slr, GL.q_revr, GL.q_kr, GL.q_lr, GL.q_sr, GL.q_vr, GL.put_same, GL.put_put, GL.keyD, GL.wNew, GL.Cell.dct.injEq, GL.Cell.lst.injEq, GL.D.int.injEq, GL.D.str.injEq, GL.D.ref.injEq, GL.D.tup.injEq, reduceCtorEq, false_and, and_false, or_false, false_or, exists_false, exists_const, and_assoc, GL.q_app, GL.q_ext, GL.q_pop, GL.q_get2, GL.q_join, GL.q_upper, GL.GTgs.len, GL.GTg.slots, GL.GTgs.slots, GL.GXs.len, GL.wipeE, List.getElem?_cons_zero, List.getElem?_cons_succ, List.set_cons_zero, List.set_cons_succ, Option.some.injEq, exists_eq_left', exists_eq_left, List.map_cons, List.map_nil, List.length_cons, List.length_nil, List.replicate_succ, List.replicate_zero, List.cons_append, List.nil_append, List.zip_cons_cons, List.zip_nil_right, List.foldl_cons, List.foldl_nil, Nat.reduceAdd, Nat.reduceSub, true_and, and_true, ↓reduceIte, Bool.false_eq_true, GL.wFld, GL.wMtd, GL.wMake, GL.wSetFld, GL.wLrg, GL.wTrg, GL.q_dictP, GL.wInd, $[$xs:ident],*] $[$loc]?)
namespace GL
open PySem K01
theorem Jd.new {a b p : Addr} {S S' : Store} (h : Jd a b S S') (hp : S' p = none) : (p ≠ a ∧ p ≠ b) ∧ S p = none := by
  obtain ⟨h1, h2⟩ := h.1.ne_new hp
  refine ⟨⟨h1, h2⟩, ?_⟩
  cases e : S p with
  | none => rfl
  | some c => rw [h.2 p c h1 h2 e] at hp; cases hp
theorem Jd.refl {a b : Addr} {S : Store} (h : Dk S a b) : Jd a b S S := ⟨h, Fr.refl S⟩
theorem Jd.step {a b : Addr} {S S1 S2 : Store} (h : Jd a b S S1) (d : Dk S2 a b) (f : Fr a b S1 S2) : Jd a b S S2 := ⟨d, h.2.trans f⟩
theorem Jd.sub {a b : Addr} {S S1 S2 : Store} (h : Jd a b S S1) (s : Sub S1 S2) : Jd a b S S2 := ⟨h.1.sub s, h.2.trans s.fr⟩
/-- some unlike words in a list -/
structure Wd (S : Store) (a b w : Addr) (xs : List Str) : Prop where
  ne : w ≠ a ∧ w ≠ b
  at_ : S w = some (.lst (xs.map D.str))
  some_ : xs ≠ []
  few : xs.length ≤ 100
  sh : ∀ x ∈ xs, okW x
  nd : xs.Nodup
theorem Wd.fr {S S' : Store} {a b w : Addr} {xs : List Str} (h : Wd S a b w xs) (f : Fr a b S S') : Wd S' a b w xs := ⟨h.ne, f _ _ h.ne.1 h.ne.2 h.at_, h.some_, h.few, h.sh, h.nd⟩
def cWords : GC0 := fun args S Q => ∃ a b, ∃ m : Nat, args = [.ref a, .int m] ∧ (1 ≤ m ∧ m ≤ 100) ∧ Dk S a b ∧ ∀ w xs S', S w = none → Wd S' a b w xs → xs.length = m → Dk S' a b → Fr a b S S' → Q (.ref w) S'
theorem y_words (T : Tb) (hn : Has T "_law_name" cName) (args : List D) (S : Store) (Q : GQ) (h : cWords args S Q) : wB_ T noW b_law_words (fnEnd Q) (initE N_law_words args) S := by
  obtain ⟨a, b, m, rfl, ⟨m1, m2⟩, hD, h⟩ := h
  obtain ⟨Fn_, en, un⟩ := hn
  simp only [b_law_words, initE, N_law_words]
  delta fnEnd en
  refine ⟨by decide, fun w hw => ⟨by omega, by omega, ?_⟩⟩
  obtain ⟨wa, wb⟩ := hD.ne_new hw
  refine for_inv (fun r ρ S3 => ∃ (t : Option D) (xs : List Str), ρ = [some (.ref a), some (.int m), some (.ref w), t] ∧ Jd a b S S3 ∧ S3 w = some (.lst (xs.map D.str)) ∧ (∀ x ∈ xs, okW x) ∧ xs.Nodup ∧ xs.length + r.length = m) (fun _ _ _ _ => trivial) _ _ _ ⟨_, [], rfl, (Jd.refl hD).put hw wa wb _, put_same, (by simp), .nil, ?_⟩ ?_ ?_
  · unfold rangeD; rw [List.length_map, List.length_range]; simp
  · rintro d r ρ S3 K ⟨t, xs, rfl, J3, hx, hsh, nd, hlen⟩ hK
    rw [List.length_cons] at hlen
    delta hx en
    refine use2 un rfl ⟨a, b, w, xs, rfl, ⟨wa, wb⟩, hx, by omega, J3.1, fun x S4 hxl hxn D4 F4 => ?_⟩
    have hx4 := F4 w _ wa wb hx
    delta hx4
    exact ⟨lt_size (by rw [List.length_map]; omega), hK _ _ ⟨_, xs ++ [x], rfl, (J3.step D4 F4).put hw wa wb _, by rw [put_same, List.map_append]; rfl, fun y hy => by rcases List.mem_append.mp hy with hy | hy; exact hsh y hy; rw [List.mem_singleton] at hy; rw [hy]; exact hxl, by
      rw [List.nodup_append]
      exact ⟨nd, List.pairwise_singleton _ _, fun y hy z hz => by rw [List.mem_singleton] at hz; rw [hz]; rintro rfl; exact hxn hy⟩, by rw [List.length_append, List.length_singleton]; omega⟩⟩
  · rintro ρ S3 ⟨t, xs, rfl, J3, hx, hsh, nd, hlen⟩
    walk_at "gl"
    rw [List.length_nil, Nat.add_zero] at hlen
    exact ⟨S3, fun _ _ z => z, h w xs S3 hw ⟨⟨wa, wb⟩, hx, by rintro rfl; simp at hlen; omega, by omega, hsh, nd⟩ hlen J3.1 J3.2⟩
def cn : Nat → Nat
  | 0 => 1
  | k + 1 => 2 * cn k + 1
theorem cn_pos : ∀ k, 1 ≤ cn k
  | 0 => Nat.le_refl _
  | k + 1 => by show 1 ≤ 2 * cn k + 1; omega
def cCpt (n : Nat) : GC0 := fun args S Q => ∃ a b w xs, ∃ k : Nat, args = [.ref a, .ref w, .int k] ∧ k + 3 ≤ n ∧ Wd S a b w xs ∧ Dk S a b ∧ ∀ (c : Con) S', c.ok → c.dep ≤ k + 1 → c.nodes ≤ cn k → Dk S' a b → Fr a b S S' → Q c.d S'
theorem y_concept (T : Tb) (n : Nat) (hd : Has T "_law_draw" cDraw) (hp : Has T "_law_pick" cPick) (hc : Has T "_law_concept" (cCpt n)) (args : List D) (S : Store) (Q : GQ) (h : cCpt (n + 1) args S Q) :
    wB_ T noW b_law_concept (fnEnd Q) (initE N_law_concept args) S := by
  obtain ⟨a, b, w, xs, k, rfl, hn, hw, hD, h⟩ := h
  obtain ⟨Fd, ed, ud⟩ := hd
  obtain ⟨Fp, ep, up⟩ := hp
  obtain ⟨Fc, ec, uc⟩ := hc
  have fin : ∀ (c : Con) S', c.ok → c.dep ≤ k + 1 → c.nodes ≤ cn k → Dk S' a b → Fr a b S S' → ∃ S0, (∀ (a : Addr) (c : Cell), S0 a = some c → S' a = some c) ∧ Q c.d S0 := fun c S' g1 g2 g3 D F => ⟨S', fun _ _ z => z, h c S' g1 g2 g3 D F⟩
  have cm := cn_pos k
  -- behind the first draw
  have rest : ∀ (r : Int) (S1 : Store), 0 ≤ r → (k = 0 → r < 4) → Dk S1 a b → Fr a b S S1 → wB_ T noW (b_law_concept.tl 1) (fnEnd Q) [some (.ref a), some (.ref w), some (.int k), some (.int r)] S1 := by
    intro r S1 r0 rk D1 F1
    have w1 := hw.fr F1
    simp only [b_law_concept, GB.tl]
    delta fnEnd ep ed ec
    by_cases h3 : r < 3
    · rw [if_pos (decide_eq_true h3)]
      refine use2 up rfl ⟨a, b, w, _, rfl, w1.ne, w1.at_, by simpa using w1.some_, by rw [List.length_map]; have := w1.few; omega, D1, fun d hd S2 D2 F2 => ?_⟩
      obtain ⟨x, hx, rfl⟩ := List.mem_map.mp hd
      exact ⟨by decide, fin (.word x) _ (w1.sh x hx) (by simp only [Con.dep]; omega) (by simp only [Con.nodes]; omega) D2 (F1.trans F2)⟩
    · rw [if_neg (by simpa using h3)]
      delta eqT_int
      cases e3 : (r == 3) with
      | true =>
        rw [if_pos rfl]
        refine use2 ud rfl ⟨a, b, 2, rfl, by decide, D1, fun r' S2 _ _ D2 F2 => ?_⟩
        delta eqT_int
        cases (r' == 0) with
        | true => exact ⟨by decide, fin .all _ trivial (by simp only [Con.dep]; omega) (by simp only [Con.nodes]; omega) D2 (F1.trans F2)⟩
        | false => exact ⟨by decide, fin .none _ trivial (by simp only [Con.dep]; omega) (by simp only [Con.nodes]; omega) D2 (F1.trans F2)⟩
      | false =>
        rw [if_neg (by decide)]
        have e3' : r ≠ 3 := by simpa using e3
        obtain ⟨j, rfl⟩ : ∃ j, k = j + 1 := ⟨k - 1, by have : k ≠ 0 := fun z => by have := rk z; omega
                                                       omega⟩
        have ej : (((j + 1 : Nat) : Int) - 1) = (j : Nat) := by omega
        have hj : cn (j + 1) = 2 * cn j + 1 := rfl
        have cj := cn_pos j
        by_cases h6 : r < 6
        · rw [if_pos (decide_eq_true h6)]
          refine use2 up rfl ⟨a, b, w, _, rfl, w1.ne, w1.at_, by simpa using w1.some_, by rw [List.length_map]; have := w1.few; omega, D1, fun d hd S2 D2 F2 => ?_⟩
          obtain ⟨x, hx, rfl⟩ := List.mem_map.mp hd
          rw [ej]
          refine use2 uc rfl ⟨a, b, w, xs, j, rfl, by omega, w1.fr F2, D2, fun c S3 g1 g2 g3 D3 F3 => ?_⟩
          exact ⟨by decide, fin (.some x c) _ ⟨w1.sh x hx, g1⟩ (by simp only [Con.dep]; omega) (by simp only [Con.nodes]; omega) D3 (F1.trans (F2.trans F3))⟩
        · rw [if_neg (by simpa using h6), ej]
          refine use2 uc rfl ⟨a, b, w, xs, j, rfl, by omega, w1, D1, fun c S2 f1 f2 f3 D2 F2 => ?_⟩
          refine use2 uc rfl ⟨a, b, w, xs, j, rfl, by omega, w1.fr F2, D2, fun d S3 g1 g2 g3 D3 F3 => ?_⟩
          exact ⟨by decide, fin (.and c d) _ ⟨f1, g1⟩ (by simp only [Con.dep]; omega) (by simp only [Con.nodes]; omega) D3 (F1.trans (F2.trans F3))⟩
  simp only [b_law_concept, initE, N_law_concept]
  delta fnEnd ep ed ec
  by_cases hk0 : (0 : Int) < k
  · rw [if_pos (decide_eq_true hk0)]
    refine use2 ud rfl ⟨a, b, 9, rfl, by decide, hD, fun r S1 r0 r9 D1 F1 => ?_⟩
    have t := rest r S1 r0 (fun z => by omega) D1 F1
    simp only [b_law_concept, GB.tl] at t
    delta fnEnd ep ed ec at t
    walk_at "gl"
    exact t
  · (rw [if_neg (by simpa using hk0)])
    refine use2 ud rfl ⟨a, b, 4, rfl, by decide, hD, fun r S1 r0 r4 D1 F1 => ?_⟩
    have t := rest r S1 r0 (fun z => r4) D1 F1
    simp only [b_law_concept, GB.tl] at t
    delta fnEnd ep ed ec at t
    walk_at "gl"
    exact t
def cLong : GC0 := fun args S Q => ∃ a b w xs, args = [.ref a, .ref w] ∧ Wd S a b w xs ∧ Dk S a b ∧ ∀ (c : Con) S', c.ok → c.dep ≤ 12 → c.nodes ≤ 30 → Dk S' a b → Fr a b S S' → Q c.d S'
theorem y_long (T : Tb) (hd : Has T "_law_draw" cDraw) (hp : Has T "_law_pick" cPick) (args : List D) (S : Store) (Q : GQ) (h : cLong args S Q) : wB_ T noW b_law_long (fnEnd Q) (initE N_law_long args) S := by
  obtain ⟨a, b, w, xs, rfl, hw, hD, h⟩ := h
  obtain ⟨Fd, ed, ud⟩ := hd
  obtain ⟨Fp, ep, up⟩ := hp
  simp only [b_law_long, initE, N_law_long]
  delta fnEnd ep ed
  have wl : (xs.map D.str).length ≤ 1000000 := by rw [List.length_map]; have := hw.few; omega
  have wne : xs.map D.str ≠ [] := by simpa using hw.some_
  refine use2 up rfl ⟨a, b, w, _, rfl, hw.ne, hw.at_, wne, wl, hD, fun d hd S1 D1 F1 => ?_⟩
  obtain ⟨x, hx, rfl⟩ := List.mem_map.mp hd
  refine ⟨by decide, use2 ud rfl ⟨a, b, 7, rfl, by decide, D1, fun r S2 r0 r7 D2 F2 => ?_⟩⟩
  walk_at "gl"
  (refine ⟨by omega, by omega, ?_⟩)
  refine for_inv (fun q ρ S3 => ∃ (t o : Option D) (f : Con) (i : Nat), ρ = [some (.ref a), some (.ref w), some f.d, t, o] ∧ Jd a b S S3 ∧ f.ok ∧ f.dep ≤ i + 1 ∧ f.nodes ≤ 1 + 2 * i ∧ q.length + i ≤ 10) (fun _ _ _ _ => trivial) _ _ _
    ⟨_, _, .word x, 0, rfl, (Jd.refl hD).step D2 (F1.trans F2), hw.sh x hx, (by decide : 1 ≤ 1), (by decide : 1 ≤ 1), ?_⟩ ?_ ?_
  · unfold rangeD; rw [List.length_map, List.length_range]; omega
  · rintro d q ρ S3 K ⟨t, o, f, i, rfl, J3, g1, g2, g3, hlen⟩ hK
    rw [List.length_cons] at hlen
    have w3 := hw.fr J3.2
    delta ep
    refine use2 up rfl ⟨a, b, w, _, rfl, w3.ne, w3.at_, wne, wl, J3.1, fun d' hd' S4 D4 F4 => ?_⟩
    obtain ⟨y, hy, rfl⟩ := List.mem_map.mp hd'
    have oy := hw.sh y hy
    have w4 := w3.fr F4
    have J4 := J3.step D4 F4
    obtain ⟨z, zs, rfl⟩ : ∃ z zs, xs = z :: zs := by cases xs with
      | nil => exact absurd rfl hw.some_
      | cons z zs => exact ⟨z, zs, rfl⟩
    have oz := hw.sh z (List.mem_cons_self ..)
    have w4a := w4.at_
    rw [List.map_cons] at w4a
    delta w4a
    refine ⟨by decide, by decide, by decide, by decide, by decide, by decide, fun p hp => ?_⟩
    obtain ⟨⟨pa, pb⟩, hpS⟩ := J4.new hp
    refine use2 up rfl ⟨a, b, p, _, rfl, ⟨pa, pb⟩, put_same, by simp, by simp, (J4.put hpS pa pb _).1, fun d5 hd5 S5 D5 F5 => ?_⟩
    have F45 : Fr a b S4 S5 := (Sub.new hp).fr.trans F5
    have J5 := J4.step D5 F45
    have fy : (Con.word y).ok := oy
    simp only [List.mem_cons, List.not_mem_nil, or_false] at hd5
    rcases hd5 with rfl | rfl | rfl | rfl
    · exact hK _ _ ⟨_, _, .some y f, i + 1, rfl, J5, ⟨oy, g1⟩, by simp only [Con.dep]; omega, by simp only [Con.nodes]; omega, by omega⟩
    · exact hK _ _ ⟨_, _, .and f (.word y), i + 1, rfl, J5, ⟨g1, fy⟩, by simp only [Con.dep]; omega, by simp only [Con.nodes]; omega, by omega⟩
    · exact hK _ _ ⟨_, _, .and (.word y) f, i + 1, rfl, J5, ⟨fy, g1⟩, by simp only [Con.dep]; omega, by simp only [Con.nodes]; omega, by omega⟩
    · exact hK _ _ ⟨_, _, .some z f, i + 1, rfl, J5, ⟨oz, g1⟩, by simp only [Con.dep]; omega, by simp only [Con.nodes]; omega, by omega⟩
  · rintro ρ S3 ⟨t, o, f, i, rfl, J3, g1, g2, g3, hlen⟩
    walk_at "gl"
    rw [List.length_nil] at hlen
    exact ⟨S3, fun _ _ z => z, h f S3 g1 (by omega) (by omega) J3.1 J3.2⟩
end GL
end

-- W6l
section
local macro_rules | `(tactic| walk_at "gl") => `(tactic| simp only [GL.wB_, GL.wS, GL.wSeq, GL.wRet, GL.w, GL.both, GL.wAndE, GL.wOrE, GL.wSlot, GL.wAs, GL.wCons, GL.wNil, GL.wVal, GL.wB, GL.wCmp, GL.wCmp2, GL.wBin, GL.wUn, GL.wNot, GL.wAnd, GL.wOr, GL.wIfE, GL.wIf, GL.wTup, GL.wLst, GL.wSlc, GL.wNoP, GL.wPart, GL.wO, GL.wC, GL.wI, GL.wG, GL.wGs, GL.wIt, GL.wRange1, GL.wRange2, GL.wEnum, GL.wZip, GL.wgName, GL.wgTup, GL.wgCons, GL.wgNil, GL.wAsg, GL.wDrop, GL.wSkip, GL.wPar, GL.wSetIx, GL.wTru, GL.wFor, GL.wLc, GL.wMth, GL.wCall, GL.wCallK, GL.wPs, GL.wPairs, GL.q_len, GL.q_isi, GL.q_int, GL.q_list, GL.q_tupt, GL.q_tupr, GL.q_all, GL.q_any, GL.q_max2, GL.q_min2, GL.q_sorted, GL.q_stri, GL.q_strs, GL.q_strb, GL.q_repr, GL.q_dict, GL.q_sum, GL.q_addi, GL.q_adds, GL.q_addt, GL.q_addl, GL.q_addb, GL.q_subi, GL.q_subb, GL.q_muls, GL.q_muli, GL.q_divi, GL.q_modi, GL.q_powi, GL.q_negi, GL.q_negb, GL.q_eq, GL.q_ne, GL.q_lti, GL.q_lei, GL.q_gti, GL.q_gei, GL.q_lts, GL.q_ins, GL.q_nins, GL.q_int_, GL.q_inl, GL.q_nint, GL.q_ninl, GL.q_trb, GL.q_tri, GL.q_ixt, GL.q_ixs, GL.q_slt, GL.q_sls, GL.q_revt, GL.ix_lst, GL.q_dct0, GL.ik_non_tup, GL.ik_non_int, GL.ik_non_str, GL.ik_non_lst, GL.ik_non_bl, GL.ik_non_dct, GL.ik_bl_tup, GL.ik_bl_int, GL.ik_bl_str, GL.ik_bl_lst, GL.ik_bl_bl, GL.ik_bl_dct, GL.ik_int_tup, GL.ik_int_int, GL.ik_int_str, GL.ik_int_lst, GL.ik_int_bl, GL.ik_int_dct, GL.ik_str_tup, GL.ik_str_int, GL.ik_str_str, GL.ik_str_lst, GL.ik_str_bl, GL.ik_str_dct, GL.ik_tup_tup, GL.ik_tup_int, GL.ik_tup_str, GL.ik_tup_lst, GL.ik_tup_bl, GL.ik_tup_dct, GL.ik_lst_tup, GL.ik_lst_int, GL.ik_lst_str, GL.ik_lst_lst, GL.ik_lst_bl, GL.ik_lst_dct, GL.ik_dct_tup, GL.ik_dct_int, GL.ik_dct_str, GL.ik_dct_lst, GL.ik_dct_bl, GL.ik_dct_dct, GL.q_st, GL.q_sf, GL.q_lt, List.cons.injEq, GL.at0, GL.at1, GL.at2, GL.q_itt, GL.q_its, GL.q_itr, GL.q_zt, GL.q_zr, GL.srcT, GL.srcL, GL.q_m1, GL.q_m2, GL.q_m3, GL.q_m4, GL.q_m5, GL.q_m6, GL.q_k1, GL.q_k2, GL.q_k3, GL.q_k4, GL.q_k5, exists_and_left, GL.q_ixr, GL.q_ixi, GL.q_setr, GL.q_slr, GL.q_revr, GL.q_kr, GL.q_lr, GL.q_sr, GL.q_vr, GL.put_same, GL.put_put, GL.keyD, GL.wNew, GL.Cell.dct.injEq, GL.Cell.lst.injEq, GL.D.int.injEq, GL.D.str.injEq, GL.D.ref.injEq, GL.D.tup.injEq, reduceCtorEq, false_and, and_false, or_false, false_or, exists_false, exists_const, and_assoc, GL.q_app, GL.q_ext, GL.q_pop, GL.q_get2, GL.q_join, GL.q_upper, GL.GTgs.len, GL.GTg.slots, GL.GTgs.slots, GL.GXs.len, GL.wipeE, List.getElem?_cons_zero, List.getElem?_cons_succ, List.set_cons_zero, List.set_cons_succ, Option.some.injEq, exists_eq_left', exists_eq_left, List.map_cons, List.map_nil, List.length_cons, List.length_nil, List.replicate_succ, List.replicate_zero, List.cons_append, List.nil_append, List.zip_cons_cons, List.zip_nil_right, List.foldl_cons, List.foldl_nil, Nat.reduceAdd, Nat.reduceSub, true_and, and_true, ↓reduceIte, Bool.false_eq_true, GL.wFld, GL.wMtd, GL.wMake, GL.wSetFld, GL.wLrg, GL.wTrg, GL.q_dictP, GL.wInd])
local macro_rules | `(tactic| delta $xs* $[$loc]?) => `(tactic| simp only [GL.wB_, GL.wS, GL.wSeq, GL.wRet, GL.w, GL.both, GL.wAndE, GL.wOrE, GL.wSlot, GL.wAs, GL.wCons, GL.wNil, GL.wVal, GL.wB, GL.wCmp, GL.wCmp2, GL.wBin, GL.wUn, GL.wNot, GL.wAnd, GL.wOr, GL.wIfE, GL.wIf, GL.wTup, GL.wLst, GL.wSlc, GL.wNoP, GL.wPart, GL.wO, GL.wC, GL.wI, GL.wG, GL.wGs, GL.wIt, GL.wRange1, GL.wRange2, GL.wEnum, GL.wZip, GL.wgName, GL.wgTup, GL.wgCons, GL.wgNil, GL.wAsg, GL.wDrop, GL.wSkip, GL.wPar, GL.wSetIx, GL.wTru, GL.wFor, GL.wLc, GL.wMth, GL.wCall, GL.wCallK, GL.wPs, GL.wPairs, GL.q_len, GL.q_isi, GL.q_int, GL.q_list, GL.q_tupt, GL.q_tupr, GL.q_all, GL.q_any, GL.q_max2, GL.q_min2, GL.q_sorted, GL.q_stri, GL.q_strs, GL.q_strb, GL.q_repr, GL.q_dict, GL.q_sum, GL.q_addi, GL.q_adds, GL.q_addt, GL.q_addl, GL.q_addb, GL.q_subi, GL.q_subb, GL.q_muls, GL.q_muli, GL.q_divi, GL.q_modi, GL.q_powi, GL.q_negi, GL.q_negb, GL.q_eq, GL.q_ne, GL.q_lti, GL.q_lei, GL.q_gti, GL.q_gei, GL.q_lts, GL.q_ins, GL.q_nins, GL.q_int_, GL.q_inl, GL.q_nint, GL.q_ninl, GL.q_trb, GL.q_tri, GL.q_ixt, GL.q_ixs, GL.q_slt, GL.q_sls, GL.q_revt, GL.ix_lst, GL.q_dct0, GL.ik_non_tup, GL.ik_non_int, GL.ik_non_str, GL.ik_non_lst, GL.ik_non_bl, GL.ik_non_dct, GL.ik_bl_tup, GL.ik_bl_int, GL.ik_bl_str, GL.ik_bl_lst, GL.ik_bl_bl, GL.ik_bl_dct, GL.ik_int_tup, GL.ik_int_int, GL.ik_int_str, GL.ik_int_lst, GL.ik_int_bl, GL.ik_int_dct, GL.ik_str_tup, GL.ik_str_int, GL.ik_str_str, GL.ik_str_lst, GL.ik_str_bl, GL.ik_str_dct, GL.ik_tup_tup, GL.ik_tup_int, GL.ik_tup_str, GL.ik_tup_lst, GL.ik_tup_bl, GL.ik_tup_dct, GL.ik_lst_tup, GL.ik_lst_int, GL.ik_lst_str, GL.ik_lst_lst, GL.ik_lst_bl, GL.ik_lst_dct, GL.ik_dct_tup, GL.ik_dct_int, GL.ik_dct_str, GL.ik_dct_lst, GL.ik_dct_bl, GL.ik_dct_dct, GL.q_st, GL.q_sf, GL.q_lt, List.cons.injEq, GL.at0, GL.at1, GL.at2, GL.q_itt, GL.q_its, GL.q_itr, GL.q_zt, GL.q_zr, GL.srcT, GL.srcL, GL.q_m1, GL.q_m2, GL.q_m3, GL.q_m4, GL.q_m5, GL.q_m6, GL.q_k1, GL.q_k2, GL.q_k3, GL.q_k4, GL.q_k5, exists_and_left, GL.q_ixr, GL.q_ixi, GL.q_setr, GL.q_slr, GL.q_revr, GL.q_kr, GL.q_lr, GL.q_sr, GL.q_vr, GL.put_same, GL.put_put, GL.keyD, GL.wNew, GL.Cell.dct.injEq, GL.Cell.lst.injEq, GL.D.int.injEq, GL.D.str.injEq, GL.D.ref.injEq, GL.D.tup.injEq, reduceCtorEq, false_and, and_false, or_false, false_or, exists_false, exists_const, and_assoc, GL.q_app, GL.q_ext, GL.q_pop, GL.q_get2, GL.q_join, GL.q_upper, GL.GTgs.len, GL.GTg.slots, GL.GTgs.slots, GL.GXs.len, GL.wipeE, List.getElem?_cons_zero, List.getElem?_cons_succ, List.set_cons_zero, List.set_cons_succ, Option.some.injEq, exists_eq_left', exists_eq_left, List.map_cons, List.map_nil, List.length_cons, List.length_nil, List.replicate_succ, List.replicate_zero, List.cons_append, List.nil_append, List.zip_cons_cons, List.zip_nil_right, List.foldl_cons, List.foldl_nil, Nat.reduceAdd, Nat.reduceSub, true_and, and_true, ↓reduceIte, Bool.false_eq_true, GL.wFld, GL.wMtd, GL.wMake, GL.wSetFld, GL.wLrg, GL.wTrg, GL.q_dictP, GL.wInd, $[$xs:ident],*] $[$loc]?)
namespace GL
open PySem K01
/-- a comprehension that keeps some -/
theorem lc_selF {live : Store → Prop} {g : WG} {tt : WT} {te : WE} {ρ : Ev} {a : Addr} {Q : Store → Prop} (J : Store → Prop) (hJ : ∀ S c, J S → J (put S a c)) (hl : ∀ S, J S → live S) (f : D → D) :
    ∀ (ds : List D) (acc : List D) (S : Store), J S → S a = some (.lst acc) → acc.length + ds.length ≤ sizeLine →
    (∀ d ∈ ds, ∀ S1 acc1 (K1 : D → Store → Prop) (K2 : Store → Prop), J S1 → S1 a = some (.lst acc1) → (∀ S4, J S4 → S4 a = some (.lst acc1) → K1 (f d) S4) → (∀ S4, J S4 → S4 a = some (.lst acc1) → K2 S4) →
      g d ρ S1 fun ρ2 S2 => tt ρ2 S2 fun b S3 => if b = true then te ρ2 S3 K1 else K2 S3) →
    (∀ S' (us : List D), J S' → us.Sublist ds → S' a = some (.lst (acc ++ us.map f)) → Q S') → wLcL live g tt te ρ a Q ds S
  | [], acc, S, j, hS, _, _, k => ⟨hl S j, k S [] j (List.Sublist.refl _) (by simpa using hS)⟩
  | d :: ds, acc, S, j, hS, hz, step, k => by
    rw [List.length_cons] at hz
    refine ⟨hl S j, step d (List.mem_cons_self ..) S acc _ _ j hS (fun S4 j4 h4 => ?_) fun S4 j4 h4 => ?_⟩
    · refine ⟨acc, h4, by omega, ?_⟩
      refine lc_selF J hJ hl f ds (acc ++ [f d]) _ (hJ _ _ j4) put_same (by rw [List.length_append, List.length_singleton]; omega) (fun d' hd' => step d' (List.mem_cons_of_mem _ hd')) fun S' us j' h2 h' => k S' (d :: us) j' (h2.cons₂ d) ?_
      rw [h', List.append_assoc]; rfl
    · exact lc_selF J hJ hl f ds acc _ j4 h4 (by omega) (fun d' hd' => step d' (List.mem_cons_of_mem _ hd')) fun S' us j' h2 h' => k S' us j' (h2.cons d) h'
def rngI (k : Nat) : List Int := (List.range k).map fun (i : Nat) => ((i : Nat) : Int)
theorem rng_eq (k : Nat) : rangeD 0 (k : Int).toNat = (rngI k).map D.int := by
  unfold rangeD rngI
  rw [List.map_map, Int.toNat_natCast]
  exact List.map_congr_left fun i _ => by rw [Int.zero_add]; rfl
theorem rngI_up (k : Nat) : (rngI k).Pairwise (· < ·) := by
  unfold rngI
  rw [List.pairwise_map]
  exact List.pairwise_lt_range.imp fun h => by omega
theorem mem_rngI {k : Nat} {x : Int} (h : x ∈ rngI k) : 0 ≤ x ∧ x < k := by
  unfold rngI at h
  (obtain ⟨i, hi, rfl⟩ := List.mem_map.mp h)
  rw [List.mem_range] at hi
  omega
theorem rngI_len (k : Nat) : (rngI k).length = k := by unfold rngI; rw [List.length_map, List.length_range]
theorem strs_sort {xs : List Str} (hl : xs.length ≤ 1000000) : sortable (xs.map D.str) := by
  refine ⟨le_size (by rw [List.length_map]; exact hl), fun d hd => ?_, fun x hx y hy => ?_, .inr fun x hx => ?_⟩
  · obtain ⟨z, _, rfl⟩ := List.mem_map.mp hd
    exact ⟨rfl, by simp [pyD, PyData.depth]⟩
  · obtain ⟨d, hd, rfl⟩ := List.mem_map.mp hx
    obtain ⟨e, he, rfl⟩ := List.mem_map.mp hy
    obtain ⟨z, _, rfl⟩ := List.mem_map.mp hd
    obtain ⟨z', _, rfl⟩ := List.mem_map.mp he
    rfl
  · obtain ⟨d, hd, rfl⟩ := List.mem_map.mp hx
    obtain ⟨z, _, rfl⟩ := List.mem_map.mp hd
    exact ⟨(fun h => nomatch h), (fun xs h => nomatch h)⟩
theorem sort_strs {xs : List Str} (nd : xs.Nodup) : ∃ ys : List Str, sortD (xs.map D.str) = ys.map D.str ∧ ys.Perm xs ∧ ys.Pairwise ltS := by
  have es : sortD (xs.map D.str) = (xs.mergeSort fun a b => decide (a.cps.toList ≤ b.cps.toList)).map D.str :=
    (List.map_mergeSort (f := D.str) (s := PySem.W.dataLe false pyD) fun a _ b _ => (show PySem.W.dataLe false pyD (.str a) (.str b) = decide (a.cps.toList ≤ b.cps.toList) from leS_str a b).symm).symm
  have pm : (xs.mergeSort fun a b : Str => decide (a.cps.toList ≤ b.cps.toList)).Perm xs := List.mergeSort_perm ..
  refine ⟨_, es, pm, ?_⟩
  have so : (xs.mergeSort fun a b : Str => decide (a.cps.toList ≤ b.cps.toList)).Pairwise fun a b => decide (a.cps.toList ≤ b.cps.toList) = true :=
    List.pairwise_mergeSort (fun a b c h1 h2 => by
      simp only [decide_eq_true_eq] at h1 h2 ⊢
      exact List.le_trans h1 h2) (fun a b => by
      simp only [Bool.or_eq_true, decide_eq_true_eq]
      exact List.le_total _ _) xs
  refine pw_strict (f := id) so (pm.nodup_iff.mpr nd) fun a b h1 h2 => ?_
  simp only [decide_eq_true_eq] at h1
  rcases Classical.em (a.cps.toList < b.cps.toList) with c | c
  · exact c
  · exact absurd (str_eq_of (List.le_antisymm h1 (List.not_lt.mp c))) h2
/-- names and roles so far, and the words that are left -/
structure Wln (k : Nat) (ns : List (Str × List Int)) (rs : List (Str × List (Int × Int))) (zs : List Str) : Prop where
  ni : ∀ p ∈ ns, NamOk k p
  ri : ∀ p ∈ rs, RolOk k p
  nk : (ns.map (·.1)).Pairwise ltS
  rk : (rs.map (·.1)).Pairwise ltS
  nz : ∀ p ∈ ns, ∀ z ∈ zs, ltS p.1 z
  rz : ∀ p ∈ rs, ∀ z ∈ zs, ltS p.1 z
  zz : zs.Pairwise ltS
  zw : ∀ z ∈ zs, okW z
  nl : ns.length + zs.length ≤ 4
  rl : rs.length + zs.length ≤ 4
section
variable {k : Nat} {ns : List (Str × List Int)} {rs : List (Str × List (Int × Int))} {zs : List Str} {z : Str}
theorem Wln.drop (h : Wln k ns rs (z :: zs)) : Wln k ns rs zs := by
  have nl := h.nl
  have rl := h.rl
  rw [List.length_cons] at nl rl
  exact ⟨h.ni, h.ri, h.nk, h.rk, fun p hp y hy => h.nz p hp y (List.mem_cons_of_mem _ hy), fun p hp y hy => h.rz p hp y (List.mem_cons_of_mem _ hy), (List.pairwise_cons.mp h.zz).2, fun y hy => h.zw y (List.mem_cons_of_mem _ hy), by omega, by omega⟩
theorem keys_snoc {α : Type} {l : List (Str × α)} {a : α} (h : (l.map (·.1)).Pairwise ltS) (k : ∀ p ∈ l, ltS p.1 z) : ((l ++ [(z, a)]).map (·.1)).Pairwise ltS := by
  rw [List.map_append, List.pairwise_append]
  refine ⟨h, List.pairwise_singleton _ _, fun x hx y hy => ?_⟩
  obtain ⟨p, hp, rfl⟩ := List.mem_map.mp hx
  rw [List.map_cons, List.map_nil, List.mem_singleton] at hy
  rw [hy]
  exact k p hp
/-- one more name, one more role -/
theorem Wln.step (h : Wln k ns rs (z :: zs)) {is : List Int} {ps : List (Int × Int)} (hi : is = [] ∨ NamOk k (z, is)) (hp : ps = [] ∨ RolOk k (z, ps)) : Wln k (ns ++ if is = [] then [] else [(z, is)]) (rs ++ if ps = [] then [] else [(z, ps)]) zs := by
  have d := h.drop
  have nl := h.nl
  have rl := h.rl
  rw [List.length_cons] at nl rl
  have kz : ∀ y ∈ zs, ltS z y := (List.pairwise_cons.mp h.zz).1
  have one : ∀ {α : Type} {c : Prop} [Decidable c] {l : List (Str × α)} {a : α} {P : Str × α → Prop}, (∀ p ∈ l, P p) → (c ∨ P (z, a)) → ∀ p ∈ l ++ (if c then [] else [(z, a)]), P p := fun {α c _ l a P} h1 h2 p hp => by
    (rcases List.mem_append.mp hp with hp | hp)
    · exact h1 p hp
    · by_cases hc : c
      · rw [if_pos hc] at hp; cases hp
      · rw [if_neg hc, List.mem_singleton] at hp
        rw [hp]
        exact h2.resolve_left hc
  refine ⟨one d.ni hi, one d.ri hp, ?_, ?_, one d.nz (.inr kz), one d.rz (.inr kz), d.zz, d.zw, ?_, ?_⟩
  · split
    · rw [List.append_nil]; exact h.nk
    · exact keys_snoc h.nk fun p hp => h.nz p hp z (List.mem_cons_self ..)
  · split
    · rw [List.append_nil]; exact h.rk
    · exact keys_snoc h.rk fun p hp => h.rz p hp z (List.mem_cons_self ..)
  · rw [List.length_append]
    split <;> simp only [List.length_nil, List.length_singleton] <;> omega
  · rw [List.length_append]
    split <;> simp only [List.length_nil, List.length_singleton] <;> omega
end
/-- the ties of the things so far -/
structure Tln (k : Nat) (ps : List (Int × Int)) (xs : List Int) : Prop where
  up : ps.Pairwise ltP
  rg : ∀ q ∈ ps, (0 ≤ q.1 ∧ q.1 < k) ∧ 0 ≤ q.2 ∧ q.2 < k
  lt : ∀ q ∈ ps, ∀ x ∈ xs, q.1 < x
  xx : xs.Pairwise (· < ·)
  xr : ∀ x ∈ xs, 0 ≤ x ∧ x < k
  len : ps.length + 7 * xs.length ≤ 49
theorem Tln.step {k : Nat} {ps : List (Int × Int)} {x : Int} {xs us : List Int} (h : Tln k ps (x :: xs)) (hs : us.Sublist (rngI k)) (hk : k ≤ 7) : Tln k (ps ++ us.map fun y => (x, y)) xs := by
  have xr := h.xr x (List.mem_cons_self ..)
  have len := h.len
  rw [List.length_cons] at len
  have ul := hs.length_le
  rw [rngI_len] at ul
  have um : ∀ q ∈ us.map (fun y => (x, y)), ∃ y, (0 ≤ y ∧ y < (k : Int)) ∧ q = (x, y) := fun q hq => by
    obtain ⟨y, hy, rfl⟩ := List.mem_map.mp hq
    exact ⟨y, mem_rngI (hs.subset hy), rfl⟩
  refine ⟨?_, fun q hq => ?_, fun q hq y hy => ?_, (List.pairwise_cons.mp h.xx).2, fun y hy => h.xr y (List.mem_cons_of_mem _ hy), by rw [List.length_append, List.length_map]; omega⟩
  · rw [List.pairwise_append]
    refine ⟨h.up, ?_, fun p hp q hq => ?_⟩
    · rw [List.pairwise_map]
      exact ((rngI_up k).sublist hs).imp fun hab => .inr ⟨rfl, hab⟩
    · obtain ⟨y, _, rfl⟩ := um q hq
      exact .inl (h.lt p hp x (List.mem_cons_self ..))
  · (rcases List.mem_append.mp hq with hq | hq)
    · exact h.rg q hq
    · obtain ⟨y, hy, rfl⟩ := um q hq
      exact ⟨xr, hy⟩
  · (rcases List.mem_append.mp hq with hq | hq)
    · exact h.lt q hq y (List.mem_cons_of_mem _ hy)
    · obtain ⟨_, _, rfl⟩ := um q hq
      exact (List.pairwise_cons.mp h.xx).1 y hy
end GL
end

-- W6m
section
local macro_rules | `(tactic| walk_at "gl") => `(tactic| simp only [GL.wB_, GL.wS, GL.wSeq, GL.wRet, GL.w, GL.both, GL.wAndE, GL.wOrE, GL.wSlot, GL.wAs, GL.wCons, GL.wNil, GL.wVal, GL.wB, GL.wCmp, GL.wCmp2, GL.wBin, GL.wUn, GL.wNot, GL.wAnd, GL.wOr, GL.wIfE, GL.wIf, GL.wTup, GL.wLst, GL.wSlc, GL.wNoP, GL.wPart, GL.wO, GL.wC, GL.wI, GL.wG, GL.wGs, GL.wIt, GL.wRange1, GL.wRange2, GL.wEnum, GL.wZip, GL.wgName, GL.wgTup, GL.wgCons, GL.wgNil, GL.wAsg, GL.wDrop, GL.wSkip, GL.wPar, GL.wSetIx, GL.wTru, GL.wFor, GL.wLc, GL.wMth, GL.wCall, GL.wCallK, GL.wPs, GL.wPairs, GL.q_len, GL.q_isi, GL.q_int, GL.q_list, GL.q_tupt, GL.q_tupr, GL.q_all, GL.q_any, GL.q_max2, GL.q_min2, GL.q_sorted, GL.q_stri, GL.q_strs, GL.q_strb, GL.q_repr, GL.q_dict, GL.q_sum, GL.q_addi, GL.q_adds, GL.q_addt, GL.q_addl, GL.q_addb, GL.q_subi, GL.q_subb, GL.q_muls, GL.q_muli, GL.q_divi, GL.q_modi, GL.q_powi, GL.q_negi, GL.q_negb, GL.q_eq, GL.q_ne, GL.q_lti, GL.q_lei, GL.q_gti, GL.q_gei, GL.q_lts, GL.q_ins, GL.q_nins, GL.q_int_, GL.q_inl, GL.q_nint, GL.q_ninl, GL.q_trb, GL.q_tri, GL.q_ixt, GL.q_ixs, GL.q_slt, GL.q_sls, GL.q_revt, GL.ix_lst, GL.q_dct0, GL.ik_non_tup, GL.ik_non_int, GL.ik_non_str, GL.ik_non_lst, GL.ik_non_bl, GL.ik_non_dct, GL.ik_bl_tup, GL.ik_bl_int, GL.ik_bl_str, GL.ik_bl_lst, GL.ik_bl_bl, GL.ik_bl_dct, GL.ik_int_tup, GL.ik_int_int, GL.ik_int_str, GL.ik_int_lst, GL.ik_int_bl, GL.ik_int_dct, GL.ik_str_tup, GL.ik_str_int, GL.ik_str_str, GL.ik_str_lst, GL.ik_str_bl, GL.ik_str_dct, GL.ik_tup_tup, GL.ik_tup_int, GL.ik_tup_str, GL.ik_tup_lst, GL.ik_tup_bl, GL.ik_tup_dct, GL.ik_lst_tup, GL.ik_lst_int, GL.ik_lst_str, GL.ik_lst_lst, GL.ik_lst_bl, GL.ik_lst_dct, GL.ik_dct_tup, GL.ik_dct_int, GL.ik_dct_str, GL.ik_dct_lst, GL.ik_dct_bl, GL.ik_dct_dct, GL.q_st, GL.q_sf, GL.q_lt, List.cons.injEq, GL.at0, GL.at1, GL.at2, GL.q_itt, GL.q_its, GL.q_itr, GL.q_zt, GL.q_zr, GL.srcT, GL.srcL, GL.q_m1, GL.q_m2, GL.q_m3, GL.q_m4, GL.q_m5, GL.q_m6, GL.q_k1, GL.q_k2, GL.q_k3, GL.q_k4, GL.q_k5, exists_and_left, GL.q_ixr, GL.q_ixi, GL.q_setr, GL.q_slr, GL.q_revr, GL.q_kr, GL.q_lr, GL.q_sr, GL.q_vr, GL.put_same, GL.put_put, GL.keyD, GL.wNew, GL.Cell.dct.injEq, GL.Cell.lst.injEq, GL.D.int.injEq, GL.D.str.injEq, GL.D.ref.injEq, GL.D.tup.injEq, reduceCtorEq, false_and, and_false, or_false, false_or, exists_false, exists_const, and_assoc, GL.q_app, GL.q_ext, GL.q_pop, GL.q_get2, GL.q_join, GL.q_upper, GL.GTgs.len, GL.GTg.slots, GL.GTgs.slots, GL.GXs.len, GL.wipeE, List.getElem?_cons_zero, List.getElem?_cons_succ, List.set_cons_zero, List.set_cons_succ, Option.some.injEq, exists_eq_left', exists_eq_left, List.map_cons, List.map_nil, List.length_cons, List.length_nil, List.replicate_succ, List.replicate_zero, List.cons_append, List.nil_append, List.zip_cons_cons, List.zip_nil_right, List.foldl_cons, List.foldl_nil, Nat.reduceAdd, Nat.reduceSub, true_and, and_true, ↓reduceIte, Bool.false_eq_true, GL.wFld, GL.wMtd, GL.wMake, GL.wSetFld, GL.wLrg, GL.wTrg, GL.q_dictP, GL.wInd])
local macro_rules | `(tactic| delta $xs* $[$loc]?) => `(tactic| simp only [GL.wB_, GL.wS, GL.wSeq, GL.wRet, GL.w, GL.both, GL.wAndE, GL.wOrE, GL.wSlot, GL.wAs, GL.wCons, GL.wNil, GL.wVal, GL.wB, GL.wCmp, GL.wCmp2, GL.wBin, GL.wUn, GL.wNot, GL.wAnd, GL.wOr, GL.wIfE, GL.wIf, GL.wTup, GL.wLst, GL.wSlc, GL.wNoP, GL.wPart, GL.wO, GL.wC, GL.wI, GL.wG, GL.wGs, GL.wIt, GL.wRange1, GL.wRange2, GL.wEnum, GL.wZip, GL.wgName, GL.wgTup, GL.wgCons, GL.wgNil, GL.wAsg, GL.wDrop, GL.wSkip, GL.wPar, GL.wSetIx, GL.wTru, GL.wFor, GL.wLc, GL.wMth, GL.wCall, GL.wCallK, GL.wPs, GL.wPairs, GL.q_len, GL.q_isi, GL.q_int, GL.q_list, GL.q_tupt, GL.q_tupr, GL.q_all, GL.q_any, GL.q_max2, GL.q_min2, GL.q_sorted, GL.q_stri, GL.q_strs, GL.q_strb, GL.q_repr, GL.q_dict, GL.q_sum, GL.q_addi, GL.q_adds, GL.q_addt, GL.q_addl, GL.q_addb, GL.q_subi, GL.q_subb, GL.q_muls, GL.q_muli, GL.q_divi, GL.q_modi, GL.q_powi, GL.q_negi, GL.q_negb, GL.q_eq, GL.q_ne, GL.q_lti, GL.q_lei, GL.q_gti, GL.q_gei, GL.q_lts, GL.q_ins, GL.q_nins, GL.q_int_, GL.q_inl, GL.q_nint, GL.q_ninl, GL.q_trb, GL.q_tri, GL.q_ixt, GL.q_ixs, GL.q_slt, GL.q_sls, GL.q_revt, GL.ix_lst, GL.q_dct0, GL.ik_non_tup, GL.ik_non_int, GL.ik_non_str, GL.ik_non_lst, GL.ik_non_bl, GL.ik_non_dct, GL.ik_bl_tup, GL.ik_bl_int, GL.ik_bl_str, GL.ik_bl_lst, GL.ik_bl_bl, GL.ik_bl_dct, GL.ik_int_tup, GL.ik_int_int, GL.ik_int_str, GL.ik_int_lst, GL.ik_int_bl, GL.ik_int_dct, GL.ik_str_tup, GL.ik_str_int, GL.ik_str_str, GL.ik_str_lst, GL.ik_str_bl, GL.ik_str_dct, GL.ik_tup_tup, GL.ik_tup_int, GL.ik_tup_str, GL.ik_tup_lst, GL.ik_tup_bl, GL.ik_tup_dct, GL.ik_lst_tup, GL.ik_lst_int, GL.ik_lst_str, GL.ik_lst_lst, GL.ik_lst_bl, GL.ik_lst_dct, GL.ik_dct_tup, GL.ik_dct_int, GL.ik_dct_str, GL.ik_dct_lst, GL.ik_dct_bl, GL.ik_dct_dct, GL.q_st, GL.q_sf, GL.q_lt, List.cons.injEq, GL.at0, GL.at1, GL.at2, GL.q_itt, GL.q_its, GL.q_itr, GL.q_zt, GL.q_zr, GL.srcT, GL.srcL, GL.q_m1, GL.q_m2, GL.q_m3, GL.q_m4, GL.q_m5, GL.q_m6, GL.q_k1, GL.q_k2, GL.q_k3, GL.q_k4, GL.q_k5, exists_and_left, GL.q_ixr, GL.q_ixi, GL.q_setr, GL.q_slr, GL.q_revr, GL.q_kr, GL.q_lr, GL.q_sr, GL.q_vr, GL.put_same, GL.put_put, GL.keyD, GL.wNew, GL.Cell.dct.injEq, GL.Cell.lst.injEq, GL.D.int.injEq, GL.D.str.injEq, GL.D.ref.injEq, GL.D.tup.injEq, reduceCtorEq, false_and, and_false, or_false, false_or, exists_false, exists_const, and_assoc, GL.q_app, GL.q_ext, GL.q_pop, GL.q_get2, GL.q_join, GL.q_upper, GL.GTgs.len, GL.GTg.slots, GL.GTgs.slots, GL.GXs.len, GL.wipeE, List.getElem?_cons_zero, List.getElem?_cons_succ, List.set_cons_zero, List.set_cons_succ, Option.some.injEq, exists_eq_left', exists_eq_left, List.map_cons, List.map_nil, List.length_cons, List.length_nil, List.replicate_succ, List.replicate_zero, List.cons_append, List.nil_append, List.zip_cons_cons, List.zip_nil_right, List.foldl_cons, List.foldl_nil, Nat.reduceAdd, Nat.reduceSub, true_and, and_true, ↓reduceIte, Bool.false_eq_true, GL.wFld, GL.wMtd, GL.wMake, GL.wSetFld, GL.wLrg, GL.wTrg, GL.q_dictP, GL.wInd, $[$xs:ident],*] $[$loc]?)
namespace GL
open PySem K01
def cWorld : GC0 := fun args S Q => ∃ a b w xs, ∃ most : Int, args = [.ref a, .ref w, .int most] ∧ (1 ≤ most ∧ most ≤ 6) ∧ Wd S a b w xs ∧ xs.length ≤ 4 ∧ Dk S a b ∧ ∀ (m : Wm) S', m.Ok → Dk S' a b → Fr a b S S' → Q m.d S'
theorem y_world (T : Tb) (hd : Has T "_law_draw" cDraw) (hp : Has T "_law_pick" cPick) (args : List D) (S : Store) (Q : GQ) (h : cWorld args S Q) : wB_ T noW b_law_world (fnEnd Q) (initE N_law_world args) S := by
  obtain ⟨a, b, w, xs, most, rfl, ⟨mo1, mo2⟩, hW, hx4, hD, h⟩ := h
  obtain ⟨Fd, ed, ud⟩ := hd
  obtain ⟨Fp, ep, up⟩ := hp
  simp only [b_law_world, initE, N_law_world]
  delta fnEnd ed
  refine use2 ud rfl ⟨a, b, most, rfl, ⟨by omega, by omega⟩, hD, fun r S1 r0 r1 D1 F1 => ?_⟩
  have J1 : Jd a b S S1 := ⟨D1, F1⟩
  refine ⟨by decide, fun n hn => ⟨by decide, fun o ho => ?_⟩⟩
  obtain ⟨⟨na, nb⟩, nS⟩ := J1.new hn
  have J2 := J1.put nS na nb (.lst [])
  obtain ⟨⟨oa, ob⟩, oS⟩ := J2.new ho
  have hno : n ≠ o := by rintro rfl; rw [put_same] at ho; cases ho
  have J3 := J2.put oS oa ob (.lst [])
  have e1 : put (put S1 n (.lst [])) o (.lst []) n = some (.lst []) := by rw [put_ne hno, put_same]
  have e2 : put (put S1 n (.lst [])) o (.lst []) o = some (.lst []) := put_same
  generalize hS3 : put (put S1 n (.lst [])) o (.lst []) = S3 at *
  have w3 := J3.2 w _ hW.ne.1 hW.ne.2 hW.at_
  obtain ⟨ys, ey, py, pw⟩ := sort_strs hW.nd
  obtain ⟨m, hmr, hm⟩ : ∃ m : Nat, 1 + r = (m : Int) ∧ 1 ≤ m ∧ m ≤ 7 := ⟨(1 + r).toNat, by omega, by omega, by omega⟩
  rw [hmr]
  delta w3 ey
  refine ⟨strs_sort (by omega), fun u hu => ?_⟩
  obtain ⟨⟨ua, ub⟩, uS⟩ := J3.new hu
  have hun : u ≠ n := by rintro rfl; rw [e1] at hu; cases hu
  have huo : u ≠ o := by rintro rfl; rw [e2] at hu; cases hu
  have J4 := J3.put uS ua ub (.lst (ys.map D.str))
  refine for_inv (fun q ρ S5 => ∃ t3 t7 t8 t9 t10 t11 t12 ns rs zs, ρ = [some (.ref a), some (.ref w), some (.int most), t3, some (.int m), some (.ref n), some (.ref o), t7, t8, t9, t10, t11, t12] ∧ Jd a b S S5 ∧ S5 u = some (.lst (ys.map D.str)) ∧ S5 n = some (.lst (ns.map nrow)) ∧ S5 o = some (.lst (rs.map rrow)) ∧
      q = zs.map D.str ∧ Wln m ns rs zs) (fun _ _ _ ⟨_, _, _, _, _, _, _, _, _, _, _, _, h, _⟩ => h) _ _ _
    ⟨_, _, _, _, _, _, _, [], [], ys, rfl, J4, put_same, by rw [put_ne hun.symm]; exact e1, by rw [put_ne huo.symm]; exact e2, rfl,
      ⟨(fun x hx => by cases hx), (fun x hx => by cases hx), .nil, .nil, (fun x hx => by cases hx), (fun x hx => by cases hx), pw, fun z hz => hW.sh z (py.mem_iff.mp hz), by have := py.length_eq; simp only [List.length_nil]; omega, by have := py.length_eq; simp only [List.length_nil]; omega⟩⟩ ?_ ?_
  · rintro d q ρ S5 K ⟨t3, t7, t8, t9, t10, t11, t12, ns, rs, zs, rfl, J5, u5, n5, o5, hq, W5⟩ hK
    cases zs with
    | nil => cases hq
    | cons z zs =>
      rw [List.map_cons, List.cons.injEq] at hq
      obtain ⟨rfl, rfl⟩ := hq
      have oz := W5.zw z (List.mem_cons_self ..)
      have nl5 := W5.nl
      have rl5 := W5.rl
      -- what stands between the steps
      have keep : ∀ {Sx Sy : Store}, Jd a b S Sx → Sx u = some (.lst (ys.map D.str)) ∧ Sx n = some (.lst (ns.map nrow)) ∧ Sx o = some (.lst (rs.map rrow)) → Dk Sy a b → Fr a b Sx Sy → Jd a b S Sy ∧ (Sy u = some (.lst (ys.map D.str)) ∧ Sy n = some (.lst (ns.map nrow)) ∧ Sy o = some (.lst (rs.map rrow))) := fun J hx D F =>
        ⟨J.step D F, F u _ ua ub hx.1, F n _ na nb hx.2.1, F o _ oa ob hx.2.2⟩
      delta ep ed
      refine ⟨by decide, fun p1 hp1 => ?_⟩
      obtain ⟨⟨p1a, p1b⟩, p1S⟩ := J5.new hp1
      have sp1 := Sub.new (c := .lst [.int 0, .int 1, .int 2, .int 3, .int 4]) hp1
      obtain ⟨J6, X6⟩ := keep J5 ⟨u5, n5, o5⟩ (J5.1.sub sp1) sp1.fr
      refine use2 up rfl ⟨a, b, p1, _, rfl, ⟨p1a, p1b⟩, put_same, by simp, by simp, J6.1, fun d1 hd1 S7 D7 F7 => ?_⟩
      obtain ⟨J7, X7⟩ := keep J6 X6 D7 F7
      obtain ⟨few, rfl⟩ : ∃ i : Int, d1 = .int i := by
        simp only [List.mem_cons, List.not_mem_nil, or_false] at hd1
        rcases hd1 with rfl | rfl | rfl | rfl | rfl <;> exact ⟨_, rfl⟩
      try delta ep ed
      refine ⟨by decide, fun p2 hp2 => ?_⟩
      obtain ⟨⟨p2a, p2b⟩, p2S⟩ := J7.new hp2
      have sp2 := Sub.new (c := .lst [.int 0, .int 1, .int 1, .int 2, .int 3]) hp2
      obtain ⟨J8, X8⟩ := keep J7 X7 (J7.1.sub sp2) sp2.fr
      refine use2 up rfl ⟨a, b, p2, _, rfl, ⟨p2a, p2b⟩, put_same, by simp, by simp, J8.1, fun d2 hd2 S9 D9 F9 => ?_⟩
      obtain ⟨J9, X9⟩ := keep J8 X8 D9 F9
      obtain ⟨ties, rfl⟩ : ∃ i : Int, d2 = .int i := by
        simp only [List.mem_cons, List.not_mem_nil, or_false] at hd2
        rcases hd2 with rfl | rfl | rfl | rfl | rfl <;> exact ⟨_, rfl⟩
      try delta ed
      refine ⟨by decide, by omega, by omega, fun c1 hc1 => ?_⟩
      obtain ⟨⟨c1a, c1b⟩, c1S⟩ := J9.new hc1
      have c1n : c1 ≠ n := by rintro rfl; rw [X9.2.1] at hc1; cases hc1
      have c1o : c1 ≠ o := by rintro rfl; rw [X9.2.2] at hc1; cases hc1
      have c1u : c1 ≠ u := by rintro rfl; rw [X9.1] at hc1; cases hc1
      rw [rng_eq]
      refine lc_selF (fun S' => Jd a b S S' ∧ (S' u = some (.lst (ys.map D.str)) ∧ S' n = some (.lst (ns.map nrow)) ∧ S' o = some (.lst (rs.map rrow)))) (fun S' c j => ⟨j.1.put c1S c1a c1b c, by rw [put_ne c1u.symm, put_ne c1n.symm, put_ne c1o.symm]; exact j.2⟩) (fun _ _ => trivial) (fun y => y) _ [] _
        ⟨J9.put c1S c1a c1b _, by rw [put_ne c1u.symm, put_ne c1n.symm, put_ne c1o.symm]; exact X9⟩ put_same (le_size (by simp only [List.length_nil, List.length_map, rngI_len]; omega)) (fun e he S10 acc K1 K2 j10 h10 k1 k2 => ?_) fun S10 us j10 hus h10 => ?_
      · obtain ⟨k, hk, rfl⟩ := List.mem_map.mp he
        try delta ed
        refine use2 ud rfl ⟨a, b, 4, rfl, by decide, j10.1.1, fun v S11 _ _ D11 F11 => ?_⟩
        obtain ⟨J11, X11⟩ := keep j10.1 j10.2 D11 F11
        have h11 := F11 c1 _ c1a c1b h10
        try walk_at "gl"
        split
        · exact k1 S11 ⟨J11, X11⟩ h11
        · exact k2 S11 ⟨J11, X11⟩ h11
      · rw [List.nil_append, List.map_id'] at h10
        obtain ⟨is, his, rfl⟩ := List.sublist_map_iff.mp hus
        have lis := his.length_le
        rw [rngI_len] at lis
        obtain ⟨J10, X10⟩ := j10
        try delta h10 seqD
        refine ⟨by decide, fun g hg => ?_⟩
        obtain ⟨⟨ga, gb⟩, gS⟩ := J10.new hg
        have gn : g ≠ n := by rintro rfl; rw [X10.2.1] at hg; cases hg
        have go : g ≠ o := by rintro rfl; rw [X10.2.2] at hg; cases hg
        have gu : g ≠ u := by rintro rfl; rw [X10.1] at hg; cases hg
        (refine ⟨by omega, by omega, ?_⟩)
        refine for_inv (fun q2 ρ S12 => ∃ t9 t12 ps vs, ρ = [some (.ref a), some (.ref w), some (.int most), some (.str z), some (.int m), some (.ref n), some (.ref o), some (.tup (is.map D.int)), some (.ref g), t9, some (.int few), some (.int ties), t12] ∧ Jd a b S S12 ∧ (S12 u = some (.lst (ys.map D.str)) ∧ S12 n = some (.lst (ns.map nrow)) ∧ S12 o = some (.lst (rs.map rrow))) ∧ S12 g = some (.lst (ps.map pD)) ∧
            q2 = vs.map D.int ∧ Tln m ps vs) (fun _ _ _ _ => trivial) _ _ _
          ⟨_, _, [], rngI m, rfl, J10.put gS ga gb _, by rw [put_ne gu.symm, put_ne gn.symm, put_ne go.symm]; exact X10, put_same, rfl, .nil, (fun p hp => by cases hp), (fun p hp => by cases hp), rngI_up m, fun x hx => mem_rngI hx, by rw [rngI_len]; simp only [List.length_nil]; omega⟩ ?_ ?_
        · rintro e q2 ρ S12 K3 ⟨t9', t12', ps, vs, rfl, J12, X12, g12, hq2, T12⟩ hK3
          cases vs with
          | nil => cases hq2
          | cons i vs =>
          rw [List.map_cons, List.cons.injEq] at hq2
          obtain ⟨rfl, rfl⟩ := hq2
          have l12 := T12.len
          rw [List.length_cons] at l12
          try delta ed g12
          refine ⟨by omega, by omega, fun c2 hc2 => ?_⟩
          obtain ⟨⟨c2a, c2b⟩, c2S⟩ := J12.new hc2
          have c2n : c2 ≠ n := by rintro rfl; rw [X12.2.1] at hc2; cases hc2
          have c2o : c2 ≠ o := by rintro rfl; rw [X12.2.2] at hc2; cases hc2
          have c2u : c2 ≠ u := by rintro rfl; rw [X12.1] at hc2; cases hc2
          have c2g : c2 ≠ g := by rintro rfl; rw [g12] at hc2; cases hc2
          rw [rng_eq]
          refine lc_selF (fun S' => Jd a b S S' ∧ (S' u = some (.lst (ys.map D.str)) ∧ S' n = some (.lst (ns.map nrow)) ∧ S' o = some (.lst (rs.map rrow))) ∧ S' g = some (.lst (ps.map pD))) (fun S' c j => ⟨j.1.put c2S c2a c2b c, by rw [put_ne c2u.symm, put_ne c2n.symm, put_ne c2o.symm]; exact j.2.1, by rw [put_ne c2g.symm]; exact j.2.2⟩) (fun _ _ => trivial) (fun y => .tup [.int i, y]) _ [] _
            ⟨J12.put c2S c2a c2b _, by rw [put_ne c2u.symm, put_ne c2n.symm, put_ne c2o.symm]; exact X12, by rw [put_ne c2g.symm]; exact g12⟩ put_same (le_size (by simp only [List.length_nil, List.length_map, rngI_len]; omega)) (fun e he S13 acc K1 K2 j13 h13 k1 k2 => ?_) fun S13 us j13 hus h13 => ?_
          · obtain ⟨k, hk, rfl⟩ := List.mem_map.mp he
            try delta ed
            refine use2 ud rfl ⟨a, b, 5, rfl, by decide, j13.1.1, fun v S14 _ _ D14 F14 => ?_⟩
            obtain ⟨J14, X14⟩ := keep j13.1 j13.2.1 D14 F14
            have h14 := F14 c2 _ c2a c2b h13
            have g14 := F14 g _ ga gb j13.2.2
            try walk_at "gl"
            split
            · exact ⟨by decide, k1 S14 ⟨J14, X14, g14⟩ h14⟩
            · exact k2 S14 ⟨J14, X14, g14⟩ h14
          · rw [List.nil_append] at h13
            obtain ⟨js, hjs, rfl⟩ := List.sublist_map_iff.mp hus
            obtain ⟨J13, X13, g13⟩ := j13
            have T13 := T12.step hjs hm.2
            have e13 : (js.map D.int).map (fun y => D.tup [.int i, y]) = (js.map fun y => (i, y)).map pD := by rw [List.map_map, List.map_map]; rfl
            rw [e13] at h13
            try delta g13 h13
            have lj := T13.len
            refine ⟨le_size (by rw [List.length_map, List.length_map]; rw [List.length_append] at lj; omega), hK3 _ _ ⟨_, _, ps ++ js.map fun y => (i, y), vs, rfl, J13.put gS ga gb _, by rw [put_ne gu.symm, put_ne gn.symm, put_ne go.symm]; exact X13, by rw [put_same, List.map_append], rfl, T13⟩⟩
        · rintro ρ S12 ⟨t9', t12', ps, vs, rfl, J12, X12, g12, hq2, T12⟩
          have lps := T12.len
          have lis6 : is.length ≤ 7 := by omega
          have hi : is = [] ∨ NamOk m (z, is) := by
            cases is with
            | nil => exact .inl rfl
            | cons i is => exact .inr ⟨oz, List.cons_ne_nil _ _, lis6, (rngI_up m).sublist his, fun x hx => mem_rngI (his.subset hx)⟩
          have hp : ps = [] ∨ RolOk m (z, ps) := by
            cases ps with
            | nil => exact .inl rfl
            | cons p ps => exact .inr ⟨oz, List.cons_ne_nil _ _, (show (p :: ps).length ≤ 49 by omega), T12.up, T12.rg⟩
          have W6 := W5.step hi hp
          have fin : ∀ (S15 : Store), Jd a b S S15 → S15 u = some (.lst (ys.map D.str)) → S15 n = some (.lst ((ns ++ if is = [] then [] else [(z, is)]).map nrow)) → S15 o = some (.lst ((rs ++ if ps = [] then [] else [(z, ps)]).map rrow)) → ∀ t9 t12, K [some (.ref a), some (.ref w), some (.int most), some (.str z), some (.int m), some (.ref n), some (.ref o), some (.tup (is.map D.int)), some (.ref g), t9, some (.int few), some (.int ties), t12] S15 := fun S15 J15 u15 n15 o15 t9 t12 =>
            hK _ _ ⟨_, _, _, _, _, _, _, _, _, zs, rfl, J15, u15, n15, o15, rfl, W6⟩
          have roles : ∀ (S15 : Store), Jd a b S S15 → S15 u = some (.lst (ys.map D.str)) → S15 n = some (.lst ((ns ++ if is = [] then [] else [(z, is)]).map nrow)) → S15 o = some (.lst (rs.map rrow)) → S15 g = some (.lst (ps.map pD)) → ∀ t9 t12,
              wB_ T noW (match (match b_law_world.tl 1 with | .cons (.for_ _ _ b) _ => b | _ => .nil).tl 5 with | b => b) { nx := K, ct := K, bk := fun _ _ => False, rt := fun _ _ => False } [some (.ref a), some (.ref w), some (.int most), some (.str z), some (.int m), some (.ref n), some (.ref o), some (.tup (is.map D.int)), some (.ref g), t9, some (.int few), some (.int ties), t12] S15 := by
            intro S15 J15 u15 n15 o15 g15 t9 t12
            simp only [b_law_world, GB.tl]
            try delta o15 g15
            refine ⟨by decide, fun e he => ⟨_, eq_nil (xs := ps.map pD) (by rw [put_ne (by rintro rfl; rw [g15] at he; cases he)]; exact g15) put_same, ?_⟩⟩
            obtain ⟨⟨ea, eb⟩, eS⟩ := J15.new he
            have en : e ≠ n := by rintro rfl; rw [n15] at he; cases he
            have eo : e ≠ o := by rintro rfl; rw [o15] at he; cases he
            have eu : e ≠ u := by rintro rfl; rw [u15] at he; cases he
            have eg : e ≠ g := by rintro rfl; rw [g15] at he; cases he
            have J16 := J15.put eS ea eb (.lst [])
            have u16 : put S15 e (.lst []) u = some (.lst (ys.map D.str)) := by rw [put_ne eu.symm]; exact u15
            have n16 : put S15 e (.lst []) n = some (.lst ((ns ++ if is = [] then [] else [(z, is)]).map nrow)) := by rw [put_ne en.symm]; exact n15
            have o16 : put S15 e (.lst []) o = some (.lst (rs.map rrow)) := by rw [put_ne eo.symm]; exact o15
            have g16 : put S15 e (.lst []) g = some (.lst (ps.map pD)) := by rw [put_ne eg.symm]; exact g15
            generalize put S15 e (.lst []) = S16 at *
            have done : ∀ (rows : List D), rows.length ≤ 1 → rows = (if ps = [] then [] else [(z, ps)]).map rrow → ∀ f, S16 f = none → ∃ xs, put S16 f (.lst rows) o = some (.lst xs) ∧ xs.length + rows.length ≤ sizeLine ∧ K [some (.ref a), some (.ref w), some (.int most), some (.str z), some (.int m), some (.ref n), some (.ref o), some (.tup (is.map D.int)), some (.ref g), t9, some (.int few), some (.int ties), t12] (put (put S16 f (.lst rows)) o (.lst (xs ++ rows))) := fun rows l1 hr f hf => by
              obtain ⟨⟨fa, fb⟩, fS⟩ := J16.new hf
              have fn : f ≠ n := by rintro rfl; rw [n16] at hf; cases hf
              have fo : f ≠ o := by rintro rfl; rw [o16] at hf; cases hf
              have fu : f ≠ u := by rintro rfl; rw [u16] at hf; cases hf
              refine ⟨rs.map rrow, by rw [put_ne fo.symm]; exact o16, le_size (by rw [List.length_map]; omega), ?_⟩
              exact fin _ ((J16.put fS fa fb _).put oS oa ob _) (by rw [put_ne huo, put_ne fu.symm]; exact u16) (by rw [put_ne hno, put_ne fn.symm]; exact n16) (by rw [put_same, hr, List.map_append]) _ _
            cases ps with
            | nil =>
              try delta List.map_nil List.isEmpty_nil Bool.not_true
              exact ⟨by decide, fun f hf => done [] (Nat.zero_le _) rfl f hf⟩
            | cons p0 ps =>
              try delta List.map_cons List.isEmpty_cons Bool.not_false g16 seqD
              exact ⟨by decide, by decide, fun f hf => done [.tup [.str z, .tup ((p0 :: ps).map pD)]] (Nat.le_refl _) rfl f hf⟩
          have nam : ∀ (rows : List D), rows.length ≤ 1 → rows = (if is = [] then [] else [(z, is)]).map nrow → ∀ f, S12 f = none → put S12 f (.lst rows) n = some (.lst (ns.map nrow)) ∧ (ns.map nrow).length + rows.length ≤ sizeLine ∧
              (∀ t9 t12, wB_ T noW (match (match b_law_world.tl 1 with | .cons (.for_ _ _ b) _ => b | _ => .nil).tl 5 with | b => b) { nx := K, ct := K, bk := fun _ _ => False, rt := fun _ _ => False } [some (.ref a), some (.ref w), some (.int most), some (.str z), some (.int m), some (.ref n), some (.ref o), some (.tup (is.map D.int)), some (.ref g), t9, some (.int few), some (.int ties), t12] (put (put S12 f (.lst rows)) n (.lst (ns.map nrow ++ rows)))) := fun rows l1 hr f hf => by
            obtain ⟨⟨fa, fb⟩, fS⟩ := J12.new hf
            have fn : f ≠ n := by rintro rfl; rw [X12.2.1] at hf; cases hf
            have fo : f ≠ o := by rintro rfl; rw [X12.2.2] at hf; cases hf
            have fu : f ≠ u := by rintro rfl; rw [X12.1] at hf; cases hf
            have fg : f ≠ g := by rintro rfl; rw [g12] at hf; cases hf
            refine ⟨by rw [put_ne fn.symm]; exact X12.2.1, le_size (by rw [List.length_map]; omega), fun t9 t12 => ?_⟩
            exact roles _ ((J12.put fS fa fb _).put nS na nb _) (by rw [put_ne hun, put_ne fu.symm]; exact X12.1) (by rw [put_same, hr, List.map_append]) (by rw [put_ne hno.symm, put_ne fo.symm]; exact X12.2.2) (by rw [put_ne gn, put_ne fg.symm]; exact g12) t9 t12
          try simp only [GL.wB_, GL.wS, GL.wSeq, GL.wRet, GL.w, GL.both, GL.wAndE, GL.wOrE, GL.wSlot, GL.wAs, GL.wCons, GL.wNil, GL.wVal, GL.wB, GL.wCmp, GL.wCmp2, GL.wBin, GL.wUn, GL.wNot, GL.wAnd, GL.wOr, GL.wIfE, GL.wIf, GL.wTup, GL.wLst, GL.wSlc, GL.wNoP, GL.wPart, GL.wO, GL.wC, GL.wI, GL.wG, GL.wGs, GL.wIt, GL.wRange1, GL.wRange2, GL.wEnum, GL.wZip, GL.wgName, GL.wgTup, GL.wgCons, GL.wgNil, GL.wAsg, GL.wDrop, GL.wSkip, GL.wPar, GL.wSetIx, GL.wTru, GL.wFor, GL.wLc, GL.wMth, GL.wCall, GL.wCallK, GL.wPs, GL.wPairs, GL.q_len, GL.q_isi, GL.q_int, GL.q_list, GL.q_tupt, GL.q_tupr, GL.q_all, GL.q_any, GL.q_max2, GL.q_min2, GL.q_sorted, GL.q_stri, GL.q_strs, GL.q_strb, GL.q_repr, GL.q_dict, GL.q_sum, GL.q_addi, GL.q_adds, GL.q_addt, GL.q_addl, GL.q_addb, GL.q_subi, GL.q_subb, GL.q_muls, GL.q_muli, GL.q_divi, GL.q_modi, GL.q_powi, GL.q_negi, GL.q_negb, GL.q_eq, GL.q_ne, GL.q_lti, GL.q_lei, GL.q_gti, GL.q_gei, GL.q_lts, GL.q_ins, GL.q_nins, GL.q_int_, GL.q_inl, GL.q_nint, GL.q_ninl, GL.q_trb, GL.q_tri, GL.q_ixt, GL.q_ixs, GL.q_slt, GL.q_sls, GL.q_revt, GL.ix_lst, GL.q_dct0, GL.ik_non_tup, GL.ik_non_int, GL.ik_non_str, GL.ik_non_lst, GL.ik_non_bl, GL.ik_non_dct, GL.ik_bl_tup, GL.ik_bl_int, GL.ik_bl_str, GL.ik_bl_lst, GL.ik_bl_bl, GL.ik_bl_dct, GL.ik_int_tup, GL.ik_int_int, GL.ik_int_str, GL.ik_int_lst, GL.ik_int_bl, GL.ik_int_dct, GL.ik_str_tup, GL.ik_str_int, GL.ik_str_str, GL.ik_str_lst, GL.ik_str_bl, GL.ik_str_dct, GL.ik_tup_tup, GL.ik_tup_int, GL.ik_tup_str, GL.ik_tup_lst, GL.ik_tup_bl, GL.ik_tup_dct, GL.ik_lst_tup, GL.ik_lst_int, GL.ik_lst_str, GL.ik_lst_lst, GL.ik_lst_bl, GL.ik_lst_dct, GL.ik_dct_tup, GL.ik_dct_int, GL.ik_dct_str, GL.ik_dct_lst, GL.ik_dct_bl, GL.ik_dct_dct, GL.q_st, GL.q_sf, GL.q_lt, List.cons.injEq, GL.at0, GL.at1, GL.at2, GL.q_itt, GL.q_its, GL.q_itr, GL.q_zt, GL.q_zr, GL.srcT, GL.srcL, GL.q_m1, GL.q_m2, GL.q_m3, GL.q_m4, GL.q_m5, GL.q_m6, GL.q_k1, GL.q_k2, GL.q_k3, GL.q_k4, GL.q_k5, exists_and_left, GL.q_ixr, GL.q_ixi, GL.q_setr, GL.q_slr, GL.q_revr, GL.q_kr, GL.q_lr, GL.q_sr, GL.q_vr, GL.put_same, GL.put_put, GL.keyD, GL.wNew, GL.Cell.dct.injEq, GL.Cell.lst.injEq, GL.D.int.injEq, GL.D.str.injEq, GL.D.ref.injEq, GL.D.tup.injEq, reduceCtorEq, false_and, and_false, or_false, false_or, exists_false, exists_const, and_assoc, GL.q_app, GL.q_ext, GL.q_pop, GL.q_get2, GL.q_join, GL.q_upper, GL.GTgs.len, GL.GTg.slots, GL.GTgs.slots, GL.GXs.len, GL.wipeE, List.getElem?_cons_zero, List.getElem?_cons_succ, List.set_cons_zero, List.set_cons_succ, Option.some.injEq, exists_eq_left', exists_eq_left, List.map_cons, List.map_nil, List.length_cons, List.length_nil, List.replicate_succ, List.replicate_zero, List.cons_append, List.nil_append, List.zip_cons_cons, List.zip_nil_right, List.foldl_cons, List.foldl_nil, Nat.reduceAdd, Nat.reduceSub, true_and, and_true, ↓reduceIte, Bool.false_eq_true, GL.wFld, GL.wMtd, GL.wMake, GL.wSetFld, GL.wLrg, GL.wTrg, GL.q_dictP, GL.wInd, X12.2.1, X12.2.2]
          cases is with
          | nil =>
            refine ⟨Nat.zero_le _, true, rfl, ?_⟩
            delta Bool.not_true
            refine ⟨Nat.zero_le _, fun f hf => ?_⟩
            obtain ⟨h1, h2, h3⟩ := nam [] (Nat.zero_le _) rfl f hf
            refine ⟨ns.map nrow, h1, h2, ?_⟩
            have t := h3 t9' t12'
            simp only [b_law_world, GB.tl] at t
            delta GL.q_len at t
            exact t
          | cons i0 is =>
            refine ⟨Nat.zero_le _, false, rfl, ?_⟩
            delta Bool.not_false
            refine ⟨by decide, by decide, fun f hf => ?_⟩
            obtain ⟨h1, h2, h3⟩ := nam [.tup [.str z, .tup ((i0 :: is).map D.int)]] (Nat.le_refl _) rfl f hf
            refine ⟨ns.map nrow, h1, h2, ?_⟩
            have t := h3 t9' t12'
            simp only [b_law_world, GB.tl] at t
            delta GL.q_len at t
            exact t
  · rintro ρ S5 ⟨t3, t7, t8, t9, t10, t11, t12, ns, rs, zs, rfl, J5, u5, n5, o5, hq, W5⟩
    try delta n5 o5 seqD
    exact ⟨by decide, S5, fun _ _ z => z, h ⟨m, ns, rs⟩ S5 ⟨hm, (show ns.length ≤ 4 by have := W5.nl; omega), (show rs.length ≤ 4 by have := W5.rl; omega), W5.nk, W5.rk, W5.ni, W5.ri⟩ J5.1 J5.2⟩
end GL
end

-- GX1
section
namespace GL
open PySem PySem.Spec
/-! ### long displays, item by item -/
section
variable {T : Tb} {W : XW} {ρ : Ev} {S : Store} {Q : GQs} {es fs : GXs} {e : GX}
theorem as_nil (h : Q [] S) : wAs T W .nil ρ S Q := by simp only [GL.wAs, wNil]; exact h
theorem as_any (h : (w T W e).e ρ S fun d S1 => wAs T W es ρ S1 fun ds S2 => Q (d :: ds) S2) : wAs T W (.cons e es) ρ S Q := by simp only [GL.wAs, wCons]; exact h
theorem as_str {x : Str} (h : wAs T W es ρ S fun ds S2 => Q (.str x :: ds) S2) : wAs T W (.cons (.str x) es) ρ S Q := as_any (by simp only [w, both, wVal]; exact h)
theorem as_int {i : Int} (h : wAs T W es ρ S fun ds S2 => Q (.int i :: ds) S2) : wAs T W (.cons (.int i) es) ρ S Q := as_any (by simp only [w, both, wVal]; exact h)
theorem as_neg {i : Int} (h : wAs T W es ρ S fun ds S2 => Q (.int (-i) :: ds) S2) : wAs T W (.cons (.neg (.int i)) es) ρ S Q := as_any (by simp only [w, both, wVal, wUn, negD]; exact h)
theorem as_bl {b : Bool} (h : wAs T W es ρ S fun ds S2 => Q (.bl b :: ds) S2) : wAs T W (.cons (.bl b) es) ρ S Q := as_any (by simp only [w, both, wVal]; exact h)
theorem as_non (h : wAs T W es ρ S fun ds S2 => Q (.non :: ds) S2) : wAs T W (.cons .non es) ρ S Q := as_any (by simp only [w, both, wVal]; exact h)
theorem as_slot {i : Nat} {d : D} (hd : ρ[i]? = some (some d)) (h : wAs T W es ρ S fun ds S2 => Q (d :: ds) S2) : wAs T W (.cons (.slot i) es) ρ S Q := as_any (by simp only [w, both, wSlot]; exact ⟨d, hd, h⟩)
theorem as_tup (h : wAs T W fs ρ S fun xs S1 => xs.length ≤ sizeLine ∧ wAs T W es ρ S1 fun ds S2 => Q (.tup xs :: ds) S2) : wAs T W (.cons (.tup fs) es) ρ S Q := as_any (by simp only [w, both, wTup]; exact h)
theorem as_lst (h : wAs T W fs ρ S fun xs S1 => xs.length ≤ sizeLine ∧ ∀ p, S1 p = none → wAs T W es ρ (put S1 p (.lst xs)) fun ds S2 => Q (.ref p :: ds) S2) : wAs T W (.cons (.lst fs) es) ρ S Q := as_any (by simp only [w, both, wLst, wNew]; exact h)
theorem as_dct (h : ∀ p, S p = none → wAs T W es ρ (put S p (.dct [])) fun ds S2 => Q (.ref p :: ds) S2) : wAs T W (.cons (.dct .nil) es) ρ S Q := as_any (by simp only [w, both, wPs, q_dct0]; exact h)
theorem as_pow {i j : Int} (hc : L2.CPow i j) (h : wAs T W es ρ S fun ds S2 => Q (.int (i ^ j.toNat) :: ds) S2) : wAs T W (.cons (.bin .Pow (.int i) (.int j)) es) ρ S Q := as_any (by simp only [w, both, wVal, wBin, q_powi]; exact ⟨hc, h⟩)
theorem as_muls {x : Str} {k : Int} (hc : MulOk x k) (h : wAs T W es ρ S fun ds S2 => Q (.str (Txt.mul x k) :: ds) S2) : wAs T W (.cons (.bin .Mult (.str x) (.int k)) es) ρ S Q := as_any (by simp only [w, both, wVal, wBin, q_muls]; exact ⟨hc, h⟩)
theorem as_ixl {i : Nat} {p : Addr} {xs : List D} {k : Int} {d : D} (hp : ρ[i]? = some (some (.ref p))) (hs : S p = some (.lst xs)) (hd : L2.atI xs k = some d) (h : wAs T W es ρ S fun ds S2 => Q (d :: ds) S2) : wAs T W (.cons (.idx (.slot i) (.int k)) es) ρ S Q :=
  as_any (by simp only [w, both, wVal, wBin, wSlot]; exact ⟨_, hp, by simp only [q_ixi, hs, ix_lst]; exact ⟨d, hd, h⟩⟩)
theorem as_ixn {i : Nat} {p : Addr} {xs : List D} {k : Int} {d : D} (hp : ρ[i]? = some (some (.ref p))) (hs : S p = some (.lst xs)) (hd : L2.atI xs (-k) = some d) (h : wAs T W es ρ S fun ds S2 => Q (d :: ds) S2) : wAs T W (.cons (.idx (.slot i) (.neg (.int k))) es) ρ S Q :=
  as_any (by simp only [w, both, wVal, wBin, wSlot, wUn, negD]; exact ⟨_, hp, by simp only [q_ixi, hs, ix_lst]; exact ⟨d, hd, h⟩⟩)
theorem as_pure {d : D} (he : ∀ R : GQ, R d S → (w T W e).e ρ S R) (h : wAs T W es ρ S fun ds S2 => Q (d :: ds) S2) : wAs T W (.cons e es) ρ S Q := as_any (he _ h)
variable {E : GEnd} {b : GB} {i : Nat}
theorem b_set (h : (w T W e).e ρ S fun d S1 => wB_ T W b E (ρ.set i (some d)) S1) : wB_ T W (.cons (.set (.name i) e) b) E ρ S := by
  simp only [GL.wB_, wS, wSeq, wAsg, wG, wgName]
  exact h
theorem b_lst (h : wAs T W es ρ S fun ds S1 => ds.length ≤ sizeLine ∧ ∀ p, S1 p = none → wB_ T W b E (ρ.set i (some (.ref p))) (put S1 p (.lst ds))) : wB_ T W (.cons (.set (.name i) (.lst es)) b) E ρ S := by
  simp only [GL.wB_, wS, wSeq, wAsg, w, both, wLst, wNew, wG, wgName]
  exact h
/-- return a list and a display -/
theorem b_retAdd {j : Nat} {p : Addr} (hp : ρ[j]? = some (some (.ref p))) (h : wAs T W es ρ S fun ds S1 => ds.length ≤ sizeLine ∧ ∀ q, S1 q = none → binD .Add (.ref p) (.ref q) (put S1 q (.lst ds)) E.rt) : wB_ T W (.cons (.ret (.bin .Add (.slot j) (.lst es))) b) E ρ S := by
  simp only [GL.wB_, wS, wSeq, wRet, w, both, wLst, wNew, wBin, wSlot]
  exact ⟨_, hp, h⟩
end
end GL
namespace GL
open PySem PySem.Spec
section
variable {T : Tb} {W : XW} {ρ : Ev} {S : Store} {E : GEnd} {b : GB} {es : GXs} {i j : Nat}
/-- x.extend([..]) -/
theorem b_ext {p : Addr} (hp : ρ[i]? = some (some (.ref p))) (hk : ∃ xs, S p = some (.lst xs))
    (h : wAs T W es ρ S fun ds S1 => ds.length ≤ sizeLine ∧ ∀ q, S1 q = none → ∃ xs ys, put S1 q (.lst ds) p = some (.lst xs) ∧ put S1 q (.lst ds) q = some (.lst ys) ∧ xs.length + ys.length ≤ sizeLine ∧ wB_ T W b E ρ (put (put S1 q (.lst ds)) p (.lst (xs ++ ys)))) :
    wB_ T W (.cons (.expr (.mth .extend (.slot i) (.cons (.lst es) .nil))) b) E ρ S := by
  obtain ⟨xs, hk⟩ := hk
  simp only [GL.wB_, wS, wSeq, wDrop, w, both, wMth, wSlot, GL.wAs, wCons, wNil, wLst, wNew, q_ext]
  exact ⟨_, hp, .lst, by rw [q_kr, hk], by rw [q_m2]; trivial, h⟩
/-- a, b = x, y -/
theorem b_par (h : wAs T W es ρ S fun ds S1 => ds.length = 2 ∧ wB_ T W b E (([i, j].zip ds).foldl (fun r p => r.set p.1 (some p.2)) ρ) S1) : wB_ T W (.cons (.par [i, j] es) b) E ρ S := by
  simp only [GL.wB_, wS, wSeq, wPar]
  exact h
end
end GL
end

-- GD
section
namespace GL
open PySem PySem.Spec
/-! ### displays of known size: what their values can be -/
instance {x : Str} {k : Int} : Decidable (MulOk x k) := by unfold MulOk; infer_instance
section
variable (L : Nat) (sl : Nat → Option (Nat × Nat)) (tx : Nat → Option Nat)
mutual
def dH : GX → Option (Nat × Nat)
  | .non => some (0, 1)
  | .bl _ => some (0, 1)
  | .int i => if i.natAbs ≤ 10 ^ 39 then some (0, 1) else none
  | .neg e => match e with
    | .int i => if i.natAbs ≤ 10 ^ 39 then some (0, 1) else none
    | _ => none
  | .str x => if okS L x then some (0, 1) else none
  | .slot i => sl i
  | .tup es => match dHs es with
    | some (h, c) => if es.len ≤ sizeLine then some (h + 1, c + 1) else none
    | none => none
  | .lst es => match dHs es with
    | some (h, c) => if es.len ≤ sizeLine then some (h + 1, c + 1) else none
    | none => none
  | .dct ps => match ps with
    | .nil => some (1, 1)
    | _ => none
  | .bin o e f => match o, e, f with
    | .Add, .slot i, .str x => match tx i with
      | some n => if (n + x.length ≤ L ∧ sml x) ∧ n + x.length ≤ 1000 then some (0, 1) else none
      | none => none
    | .Mult, .str x, .int k => if MulOk x k ∧ okS L (Txt.mul x k) then some (0, 1) else none
    | _, _, _ => none
  | _ => none
def dHs : GXs → Option (Nat × Nat)
  | .nil => some (0, 0)
  | .cons e es => match dH e, dHs es with
    | some (h, c), some (h', c') => some (max h h', c + c')
    | _, _ => none
end
end
theorem sub_none {S S' : Store} {p : Addr} (s : Sub S S') (h : S' p = none) : S p = none := by
  cases e : S p with
  | none => rfl
  | some c => rw [s p c e] at h; cases h
theorem Gv.sub {F : Addr → Prop} {S S' : Store} {L h c : Nat} {d : D} (g : Gv F S L h c d) (s : Sub S S') : Gv F S' L h c d := g.up (Nat.le_refl _) (fun _ z => z) (fun x c _ e => s x c e) (Nat.le_refl _) (Nat.le_refl _)
theorem Gvs.sub {F : Addr → Prop} {S S' : Store} {L h c : Nat} {d : List D} (g : Gvs F S L h c d) (s : Sub S S') : Gvs F S' L h c d := g.up (Nat.le_refl _) (fun _ z => z) (fun x c _ e => s x c e) (Nat.le_refl _) (Nat.le_refl _)
/-- what is known of the names -/
structure DispOk (F : Addr → Prop) (S0 : Store) (ρ : Ev) (L : Nat) (sl : Nat → Option (Nat × Nat)) (tx : Nat → Option Nat) : Prop where
  hF : ∀ p, S0 p = none → F p
  hs : ∀ i h c, sl i = some (h, c) → ∃ d, ρ[i]? = some (some d) ∧ Gv F S0 L h c d
  ht : ∀ i n, tx i = some n → ∃ x : Str, ρ[i]? = some (some (.str x)) ∧ okS n x
section
variable {T : Tb} {W : XW} {F : Addr → Prop} {S0 : Store} {ρ : Ev} {L : Nat} {sl : Nat → Option (Nat × Nat)} {tx : Nat → Option Nat}
mutual
theorem dH_ok (D0 : DispOk F S0 ρ L sl tx) : ∀ (e : GX) (h c : Nat), dH L sl tx e = some (h, c) → ∀ (S : Store) (Q : GQ), Sub S0 S → (∀ d S', Sub S S' → Gv F S' L h c d → Q d S') → (w T W e).e ρ S Q
  | .non, h, c, e, S, Q, s0, k => by
    cases e
    simp only [w, both, wVal]
    exact k _ _ (Sub.refl S) (.non (Nat.le_refl _))
  | .bl b, h, c, e, S, Q, s0, k => by
    cases e
    simp only [w, both, wVal]
    exact k _ _ (Sub.refl S) (.bl (Nat.le_refl _))
  | .int i, h, c, e, S, Q, s0, k => by
    simp only [dH] at e
    split at e
    · cases e
      simp only [w, both, wVal]
      exact k _ _ (Sub.refl S) (.int (by omega) (Nat.le_refl _))
    · cases e
  | .neg f, h, c, e, S, Q, s0, k => by
    simp only [dH] at e
    split at e
    · split at e
      · cases e
        simp only [w, both, wVal, wUn, negD]
        exact k _ _ (Sub.refl S) (.int (by omega) (Nat.le_refl _))
      · cases e
    · cases e
  | .str x, h, c, e, S, Q, s0, k => by
    simp only [dH] at e
    split at e
    · cases e
      simp only [w, both, wVal]
      exact k _ _ (Sub.refl S) (.str (by assumption) (Nat.le_refl _))
    · cases e
  | .slot i, h, c, e, S, Q, s0, k => by
    simp only [dH] at e
    obtain ⟨d, hd, g⟩ := D0.hs i h c e
    simp only [w, both, wSlot]
    exact ⟨d, hd, k _ _ (Sub.refl S) (g.sub s0)⟩
  | .tup es, h, c, e, S, Q, s0, k => by
    simp only [dH] at e
    split at e
    · rename_i h' c' e'
      split at e
      · cases e
        simp only [w, both, wTup]
        exact dHs_ok D0 es h' c' e' S _ s0 fun ds S' s g hl => ⟨by rw [hl]; assumption, k _ _ s (.tup g (Nat.le_refl _))⟩
      · cases e
    · cases e
  | .lst es, h, c, e, S, Q, s0, k => by
    simp only [dH] at e
    split at e
    · rename_i h' c' e'
      split at e
      · cases e
        simp only [w, both, wLst, wNew]
        exact dHs_ok D0 es h' c' e' S _ s0 fun ds S' s g hl => ⟨by rw [hl]; assumption, fun p hp => k _ _ (s.trans (Sub.new hp)) (.lst (D0.hF p (sub_none (s0.trans s) hp)) put_same (g.sub (Sub.new hp)) (Nat.le_refl _))⟩
      · cases e
    · cases e
  | .dct ps, h, c, e, S, Q, s0, k => by
    simp only [dH] at e
    split at e
    · cases e
      simp only [w, both, wPs, q_dct0]
      exact fun p hp => k _ _ (Sub.new hp) (.emp (D0.hF p (sub_none s0 hp)) put_same (Nat.le_refl _))
    · cases e
  | .bin o f g, h, c, e, S, Q, s0, k => by
    simp only [dH] at e
    split at e
    · rename_i i x
      split at e
      · rename_i n hn
        split at e
        · rename_i hl
          cases e
          obtain ⟨y, hy, yl⟩ := D0.ht i n hn
          simp only [w, both, wVal, wBin, wSlot]
          have z := strLen_append y x
          refine ⟨_, hy, ?_⟩
          rw [q_adds]
          have yn := yl.len
          exact ⟨Nat.le_trans (m := 1000) (by omega) (by decide), k _ _ (Sub.refl S) (.str ⟨by omega, sml_app yl.sm hl.1.2⟩ (Nat.le_refl _))⟩
        · cases e
      · cases e
    · rename_i x j
      split at e
      · rename_i hl
        cases e
        simp only [w, both, wVal, wBin, q_muls]
        exact ⟨hl.1, k _ _ (Sub.refl S) (.str hl.2 (Nat.le_refl _))⟩
      · cases e
    · cases e
  | .val _, _, _, e, _, _, _, _ => by simp only [dH] at e; cases e
  | .bty _, _, _, e, _, _, _, _ => by simp only [dH] at e; cases e
  | .fnv _, _, _, e, _, _, _, _ => by simp only [dH] at e; cases e
  | .cmp _ _ _, _, _, e, _, _, _, _ => by simp only [dH] at e; cases e
  | .cmp2 _ _ _ _ _, _, _, e, _, _, _, _ => by simp only [dH] at e; cases e
  | .and_ _ _, _, _, e, _, _, _, _ => by simp only [dH] at e; cases e
  | .or_ _ _, _, _, e, _, _, _, _ => by simp only [dH] at e; cases e
  | .not_ _, _, _, e, _, _, _, _ => by simp only [dH] at e; cases e
  | .ite _ _ _, _, _, e, _, _, _, _ => by simp only [dH] at e; cases e
  | .idx _ _, _, _, e, _, _, _, _ => by simp only [dH] at e; cases e
  | .slc _ _ _, _, _, e, _, _, _, _ => by simp only [dH] at e; cases e
  | .rev _, _, _, e, _, _, _, _ => by simp only [dH] at e; cases e
  | .call _ _, _, _, e, _, _, _, _ => by simp only [dH] at e; cases e
  | .callk _ _ _ _, _, _, e, _, _, _, _ => by simp only [dH] at e; cases e
  | .blt _ _, _, _, e, _, _, _, _ => by simp only [dH] at e; cases e
  | .sset _, _, _, e, _, _, _, _ => by simp only [dH] at e; cases e
  | .callv _ _, _, _, e, _, _, _, _ => by simp only [dH] at e; cases e
  | .trg _, _, _, e, _, _, _, _ => by simp only [dH] at e; cases e
  | .mth _ _ _, _, _, e, _, _, _, _ => by simp only [dH] at e; cases e
  | .lc _ _ _ _ _, _, _, e, _, _, _, _ => by simp only [dH] at e; cases e
theorem dHs_ok (D0 : DispOk F S0 ρ L sl tx) : ∀ (es : GXs) (h c : Nat), dHs L sl tx es = some (h, c) → ∀ (S : Store) (Q : GQs), Sub S0 S → (∀ ds S', Sub S S' → Gvs F S' L h c ds → ds.length = es.len → Q ds S') → wAs T W es ρ S Q
  | .nil, h, c, e, S, Q, s0, k => by
    simp only [GL.wAs, wNil]
    exact k _ _ (Sub.refl S) .nil rfl
  | .cons f es, h, c, e, S, Q, s0, k => by
    simp only [dHs] at e
    split at e
    · rename_i h1 c1 h2 c2 e1 e2
      cases e
      simp only [GL.wAs, wCons]
      refine dH_ok D0 f h1 c1 e1 S _ s0 fun d S1 s1 g1 => ?_
      refine dHs_ok D0 es h2 c2 e2 S1 _ (s0.trans s1) fun ds S2 s2 g2 hl => ?_
      exact k _ _ (s1.trans s2) (.cons ((g1.sub s2).up (Nat.le_refl _) (fun _ z => z) (fun _ _ _ z => z) (Nat.le_max_left ..) (Nat.le_refl _)) (g2.up (Nat.le_refl _) (fun _ z => z) (fun _ _ _ z => z) (Nat.le_max_right ..) (Nat.le_refl _)) (Nat.le_refl _)) (by simp [GXs.len, hl])
    · cases e
end
end
end GL
namespace GL
open PySem PySem.Spec
section
variable {F : Addr → Prop} {S : Store} {L : Nat}
mutual
/-- the addresses of a value are in use -/
theorem Gv.live : ∀ {h c : Nat} {d : D}, Gv F S L h c d → Gv (fun x => F x ∧ S x ≠ none) S L h c d
  | _, _, _, .non q => .non q
  | _, _, _, .bl q => .bl q
  | _, _, _, .int p q => .int p q
  | _, _, _, .str p q => .str p q
  | _, _, _, .tup q r => .tup (Gvs.live q) r
  | _, _, _, .lst p e q r => .lst ⟨p, by rw [e]; exact fun z => nomatch z⟩ e (Gvs.live q) r
  | _, _, _, .emp p e r => .emp ⟨p, by rw [e]; exact fun z => nomatch z⟩ e r
theorem Gvs.live : ∀ {h c : Nat} {ds : List D}, Gvs F S L h c ds → Gvs (fun x => F x ∧ S x ≠ none) S L h c ds
  | _, _, _, .nil => .nil
  | _, _, _, .cons p q r => .cons (Gv.live p) (Gvs.live q) r
end
end
end GL
namespace GL
open PySem PySem.Spec
def leO (o : Option (Nat × Nat)) (h c : Nat) : Bool := match o with
  | some (h', c') => decide (h' ≤ h) && decide (c' ≤ c)
  | none => false
theorem dHs_le {T : Tb} {W : XW} {F : Addr → Prop} {S0 : Store} {ρ : Ev} {L : Nat} {sl : Nat → Option (Nat × Nat)} {tx : Nat → Option Nat} (D0 : DispOk F S0 ρ L sl tx) (es : GXs) (h c : Nat) (e : leO (dHs L sl tx es) h c = true) (S : Store) (Q : GQs) (s0 : Sub S0 S)
    (k : ∀ ds S', Sub S S' → Gvs F S' L h c ds → ds.length = es.len → Q ds S') : wAs T W es ρ S Q := by
  unfold leO at e
  split at e
  · rename_i h' c' e'
    simp only [Bool.and_eq_true, decide_eq_true_eq] at e
    exact dHs_ok D0 es h' c' e' S Q s0 fun ds S' s g hl => k ds S' s (g.up (Nat.le_refl _) (fun _ z => z) (fun _ _ _ z => z) e.1 e.2) hl
  · cases e
end GL
end

-- GV
section
namespace GL
open PySem PySem.Spec
/-! ### repr of a value of known size -/
def pil : List Str → Nat
  | [] => 0
  | x :: xs => x.length + 2 + pil xs
theorem pil_join : ∀ ts : List Str, (Str.join ", " ts).length ≤ pil ts
  | [] => Nat.zero_le _
  | [x] => by show x.length ≤ x.length + 2 + 0; omega
  | x :: y :: r => by
    have ih := pil_join (y :: r)
    show (x ++ ", " ++ Str.join ", " (y :: r)).length ≤ x.length + 2 + pil (y :: r)
    rw [strLen_append, strLen_append, show ((", " : Str)).length = 2 from rfl]
    omega
theorem tuple_len (ts : List Str) : (tupleText ts).length ≤ pil ts + 3 := by
  have := pil_join ts
  unfold tupleText
  rw [strLen_append, strLen_append, show (("(" : Str)).length = 1 from rfl]
  split
  · rw [show ((",)" : Str)).length = 2 from rfl]; omega
  · rw [show ((")" : Str)).length = 1 from rfl]; omega
theorem from_len : ∀ (ts : List Str) (k : Nat) (acc : Str), (textFrom k acc ts).length ≤ acc.length + pil ts
  | [], k, acc => Nat.le_refl _
  | t :: r, k, acc => by
    have ih := from_len r (k + 1) (acc ++ (if k > 0 then ", " else "" : String) ++ t)
    have e : (acc ++ (if k > 0 then ", " else "" : String) ++ t).length ≤ acc.length + 2 + t.length := by
      (rw [strLen_append, strLen_append])
      split
      · rw [show ((", " : Str)).length = 2 from rfl]; omega
      · rw [show (("" : Str)).length = 0 from rfl]; omega
    show (textFrom (k + 1) (acc ++ (if k > 0 then ", " else "" : String) ++ t) r).length ≤ acc.length + (t.length + 2 + pil r)
    omega
theorem list_len (ts : List Str) : (listText ts).length ≤ pil ts + 2 := by
  have := from_len ts 0 "["
  unfold listText
  rw [strLen_append, show (("]" : Str)).length = 1 from rfl]
  rw [show (("[" : Str)).length = 1 from rfl] at this
  omega
theorem int_len' {i : Int} {L : Nat} (h : i.natAbs ≤ 10 ^ 39 + L) (hL : L ≤ 1001) : ((toString i : String) : Str).length ≤ 42 ∧ i.natAbs.log2 < 1920 := by
  have h1 : i.natAbs < 10 ^ 40 := by omega
  refine ⟨?_, ?_⟩
  · have := int_text_length_le10 (a := i) (k := 40) (by decide) h1
    rw [ofString_length]
    omega
  · by_cases hz : i.natAbs = 0
    · rw [hz]; decide
    · exact (Nat.log2_lt hz).mpr (Nat.lt_of_lt_of_le h1 (by decide +kernel))
theorem mapM_cons1 {α β : Type} {f : α → Option β} {x : α} {xs : List α} {p : β} {ps : List β} (h : f x = some p) (k : xs.mapM f = some ps) : (x :: xs).mapM f = some (p :: ps) := by
  rw [List.mapM_cons, h, k]; rfl
/-- what is known of a value's data -/
structure Shw (B h c : Nat) (p : PyData) : Prop where
  ok : p.showable = true
  dp : p.depth ≤ h
  ln : p.shown.length + 2 ≤ c * B
structure Shws (B h c : Nat) (ps : List PyData) : Prop where
  ok : PyData.showableAll ps = true
  dp : PyData.depthAll ps ≤ h
  ln : pil (PyData.shownAll ps) ≤ c * B
section
variable {F : Addr → Prop} {S : Store} {L : Nat}
mutual
theorem Gv.data (hL : L ≤ 1001) : ∀ {h c : Nat} {d : D}, Gv F S L h c d → ∀ n, h < n → ∃ p, dataD S n d = some p ∧ Shw (10 * L + 64) h c p
  | h, c, _, .non q, n + 1, hn => ⟨.none, rfl, rfl, by simp [PyData.depth], by
      have e : (PyData.shown .none).length = 4 := by simp only [PyData.shown]; rfl
      have := Nat.mul_le_mul_right (10 * L + 64) q
      omega⟩
  | h, c, _, .bl (b := b) q, n + 1, hn => ⟨.bool b, rfl, rfl, by simp [PyData.depth], by
      have e : (PyData.shown (.bool b)).length ≤ 5 := by simp only [PyData.shown]; cases b <;> decide
      have := Nat.mul_le_mul_right (10 * L + 64) q
      omega⟩
  | h, c, _, .int (i := i) p q, n + 1, hn => by
    obtain ⟨h1, h2⟩ := int_len' p hL
    refine ⟨.int i, rfl, by simpa [PyData.showable] using h2, by simp [PyData.depth], ?_⟩
    have e : (PyData.shown (.int i)).length ≤ 42 := by simpa only [PyData.shown] using h1
    have := Nat.mul_le_mul_right (10 * L + 64) q
    omega
  | h, c, _, .str (x := x) p q, n + 1, hn => by
    refine ⟨.str x, rfl, rfl, by simp [PyData.depth], ?_⟩
    have e : (PyData.shown (.str x)).length ≤ 10 * L + 2 := by simpa only [PyData.shown] using okS_rep p
    have := Nat.mul_le_mul_right (10 * L + 64) q
    omega
  | _, c, _, .tup (h := h) (m := m) (ds := ds) q r, n + 1, hn => by
    obtain ⟨ps, e, s⟩ := Gvs.data hL q n (by omega)
    refine ⟨.tuple ps, by simp only [dataD, e, Option.map_some], ⟨by simpa only [PyData.showable] using s.ok, by simp only [PyData.depth]; have := s.dp; omega, ?_⟩⟩
    have e1 := tuple_len (PyData.shownAll ps)
    have e2 : (PyData.shown (.tuple ps)).length = (tupleText (PyData.shownAll ps)).length := by simp only [PyData.shown]
    have := s.ln
    have := Nat.mul_le_mul_right (10 * L + 64) r
    rw [Nat.add_mul] at this
    omega
  | _, c, _, .lst (h := h) (m := m) (ds := ds) p eS q r, n + 1, hn => by
    obtain ⟨ps, e, s⟩ := Gvs.data hL q n (by omega)
    refine ⟨.list ps, by simp only [dataD, eS, e, Option.map_some], ⟨by simpa only [PyData.showable] using s.ok, by simp only [PyData.depth]; have := s.dp; omega, ?_⟩⟩
    have e1 := list_len (PyData.shownAll ps)
    have e2 : (PyData.shown (.list ps)).length = (listText (PyData.shownAll ps)).length := by simp only [PyData.shown]
    have := s.ln
    have := Nat.mul_le_mul_right (10 * L + 64) r
    rw [Nat.add_mul] at this
    omega
  | _, c, _, .emp (h := h) p eS r, n + 1, hn => by
    refine ⟨.dict [], by simp [dataD, eS], ⟨by simp [PyData.showable, PyData.showableKv], by simp [PyData.depth, PyData.depthKv], ?_⟩⟩
    have e2 : (PyData.shown (.dict [])).length = 2 := by simp only [PyData.shown, PyData.shownKv]; rfl
    have := Nat.mul_le_mul_right (10 * L + 64) r
    omega
theorem Gvs.data (hL : L ≤ 1001) : ∀ {h c : Nat} {ds : List D}, Gvs F S L h c ds → ∀ n, h < n → ∃ ps, ds.mapM (dataD S n) = some ps ∧ Shws (10 * L + 64) h c ps
  | h, c, _, .nil, n, hn => ⟨[], rfl, by simp [PyData.showableAll], by simp [PyData.depthAll], by simp [PyData.shownAll, pil]⟩
  | h, c, _, .cons (m := m) (k := k) p q r, n, hn => by
    obtain ⟨x, e1, s1⟩ := Gv.data hL p n hn
    obtain ⟨xs, e2, s2⟩ := Gvs.data hL q n hn
    refine ⟨x :: xs, mapM_cons1 e1 e2, ⟨by simp only [PyData.showableAll, s1.ok, s2.ok]; rfl, by simp only [PyData.depthAll]; have := s1.dp; have := s2.dp; omega, ?_⟩⟩
    simp only [PyData.shownAll, pil]
    have h1 := s1.ln
    have h2 := s2.ln
    have := Nat.mul_le_mul_right (10 * L + 64) r
    rw [Nat.add_mul] at this
    omega
end
theorem mapM_sub {f g : D → Option PyData} (h : ∀ d p, f d = some p → g d = some p) : ∀ (ds : List D) (ps : List PyData), ds.mapM f = some ps → ds.mapM g = some ps
  | [], ps, e => by cases e; rfl
  | d :: ds, ps, e => by
    rw [List.mapM_cons] at e
    cases e1 : f d with
    | none => rw [e1] at e; cases e
    | some p =>
      cases e2 : ds.mapM f with
      | none => rw [e1, e2] at e; cases e
      | some qs =>
        rw [e1, e2] at e
        cases e
        exact mapM_cons1 (h d p e1) (mapM_sub h ds qs e2)
theorem dataD_sub {S' : Store} (s : Sub S S') : ∀ (n : Nat) (d : D) (p : PyData), dataD S n d = some p → dataD S' n d = some p
  | 0, _, _, h => by cases h
  | n + 1, d, p, h => by
    cases d with
    | tup ds =>
      simp only [dataD] at h ⊢
      cases e : ds.mapM (dataD S n) with
      | none => (rw [e] at h; cases h)
      | some ps => rw [e] at h; rw [mapM_sub (dataD_sub s n) ds ps e]; exact h
    | frl ds =>
      simp only [dataD] at h ⊢
      cases e : ds.mapM (dataD S n) with
      | none => (rw [e] at h; cases h)
      | some ps => rw [e] at h; rw [mapM_sub (dataD_sub s n) ds ps e]; exact h
    | ref a =>
      simp only [dataD] at h ⊢
      cases eS : S a with
      | none => rw [eS] at h; cases h
      | some c =>
        rw [eS] at h
        rw [s a c eS]
        cases c with
        | lst ds =>
          simp only at h ⊢
          cases e : ds.mapM (dataD S n) with
          | none => (rw [e] at h; cases h)
          | some ps => rw [e] at h; rw [mapM_sub (dataD_sub s n) ds ps e]; exact h
        | dct kvs =>
          simp only at h ⊢
          cases e : (kvs.map (·.2)).mapM (dataD S n) with
          | none => (rw [e] at h; cases h)
          | some ps => rw [e] at h; rw [mapM_sub (dataD_sub s n) _ ps e]; exact h
        | ins _ _ => cases h
    | _ => exact h
theorem reprT_sub {S' : Store} (s : Sub S S') {d : D} {t : Str} (h : reprT S d = some t) : reprT S' d = some t := by
  unfold reprT at h ⊢
  cases e : dataD S 50 d with
  | none => (rw [e] at h; cases h)
  | some p => rw [e] at h; rw [dataD_sub s 50 d p e]; exact h
theorem Gv.repr {h c : Nat} {d : D} (g : Gv F S L h c d) (hL : L ≤ 1001) (hh : h < 50) (hc : c * (10 * L + 64) ≤ sizeLine) : ∃ t, reprT S d = some t := by
  obtain ⟨p, e, s⟩ := g.data hL 50 hh
  refine ⟨p.shown, ?_⟩
  unfold reprT
  rw [e, Option.bind_some, if_pos ⟨s.ok, by have := s.dp; omega, by have := s.ln; omega⟩]
end
end GL
end

-- GX2
section
namespace GL
open PySem PySem.Spec
/-! ### statements, one at a time -/
section
variable {T : Tb} {W : XW} {ρ : Ev} {S : Store} {E : GEnd} {b : GB} {i j : Nat} {Q : GQ} {es fs : GXs} {e : GX} {f : Str} {G : Fn} {R : GQs}
theorem b_setR (h : ∀ K : GQ, (∀ d S1, wB_ T W b E (ρ.set i (some d)) S1 → K d S1) → (GL.w T W e).e ρ S K) : wB_ T W (.cons (.set (.name i) e) b) E ρ S := b_set (h _ fun _ _ z => z)
theorem e_call (hf : T.fn f = some G) (h : wAs T W es ρ S fun ds S1 => ds.length = G.ps.length ∧ G.c ds S1 Q fun n d S' => W n d ρ S') : (GL.w T W (.call f es)).e ρ S Q := by
  simp only [GL.w, both, wCall]
  exact ⟨G, hf, h⟩
theorem as_call (hf : T.fn f = some G) (h : wAs T W fs ρ S fun ds S1 => ds.length = G.ps.length ∧ G.c ds S1 (fun d S2 => wAs T W es ρ S2 fun ds2 S3 => R (d :: ds2) S3) fun n d S' => W n d ρ S') : wAs T W (.cons (.call f fs) es) ρ S R := as_any (e_call hf h)
theorem e_tup (h : wAs T W es ρ S fun ds S1 => ds.length ≤ sizeLine ∧ Q (.tup ds) S1) : (GL.w T W (.tup es)).e ρ S Q := by
  simp only [GL.w, both, wTup]
  exact h
theorem ord1 {p : Str} {d : D} : ordL D.non 0 [p] [p] [] [d] = [d] := by
  unfold ordL
  simp
/-- f(p=x) -/
theorem as_callk1 {p : Str} {d : D} (hf : T.fn f = some G) (hp : G.ps = [p]) (hk : (0, [p]) ∈ G.kl) (hi : ρ[i]? = some (some d)) (h : G.c [d] S (fun d S2 => wAs T W es ρ S2 fun ds2 S3 => R (d :: ds2) S3) fun n d S' => W n d ρ S') :
    wAs T W (.cons (.callk f .nil [p] (.cons (.slot i) .nil)) es) ρ S R := as_any (by
  simp only [GL.w, both, wCallK, GL.wAs, wCons, wNil, wSlot, GXs.len]
  refine ⟨G, hf, hk, d, hi, ?_⟩
  rw [hp, ord1]
  exact ⟨rfl, h⟩)
theorem b_for {tg : GTg} {it : GIt} {bb : GB} (h : wI T W it ρ S fun src S1 => wForL src.live (wG tg) (wB_ T W bb) { nx := fun ρ2 S2 => wB_ T W b E ρ2 S2, rt := E.rt, bk := E.bk, ct := E.ct } src.items ρ S1) : wB_ T W (.cons (.for_ tg it bb) b) E ρ S := by
  simp only [GL.wB_, wS, wSeq, wFor]
  exact h
theorem i_range {n : Int} {K : Src → Store → Prop} (h0 : 0 ≤ n) (h1 : n < 2 ^ 62) (h : K (srcT (rangeD 0 n.toNat)) S) : wI T W (.range1 (.int n)) ρ S K := by
  simp only [wI, wRange1, GL.w, both, wVal]
  exact ⟨n, rfl, h1, by omega, h⟩
theorem i_tup {K : Src → Store → Prop} (h : wAs T W es ρ S fun ds S1 => ds.length ≤ sizeLine ∧ K (srcT ds) S1) : wI T W (.ex (.tup es)) ρ S K := by
  simp only [wI, wIt, GL.w, both, wTup, q_itt]
  exact h
theorem i_enum {p : Addr} {ds : List D} {K : Src → Store → Prop} (hp : ρ[i]? = some (some (.ref p))) (hs : S p = some (.lst ds)) (h : K ⟨enumD ds, fun S => S p = some (.lst ds)⟩ S) : wI T W (.enum (.slot i)) ρ S K := by
  simp only [wI, wEnum, GL.w, both, wSlot]
  exact ⟨_, hp, p, ds, rfl, hs, h⟩
theorem b_if {c : GX} {t u : GB} (h : (GL.w T W c).t ρ S fun x S1 => if x = true then wB_ T W t { nx := fun ρ2 S2 => wB_ T W b E ρ2 S2, rt := E.rt, bk := E.bk, ct := E.ct } ρ S1 else wB_ T W u { nx := fun ρ2 S2 => wB_ T W b E ρ2 S2, rt := E.rt, bk := E.bk, ct := E.ct } ρ S1) : wB_ T W (.cons (.if_ c t u) b) E ρ S := by
  simp only [GL.wB_, wS, wSeq, wIf]
  exact h
theorem b_ret (h : (GL.w T W e).e ρ S E.rt) : wB_ T W (.cons (.ret e) b) E ρ S := by
  simp only [GL.wB_, wS, wSeq, wRet]
  exact h
theorem b_nil (h : E.nx ρ S) : wB_ T W .nil E ρ S := by
  simp only [GL.wB_, wSkip]
  exact h
end
end GL
end

-- W6n
section
local macro_rules | `(tactic| walk_at "gl") => `(tactic| simp only [GL.wB_, GL.wS, GL.wSeq, GL.wRet, GL.w, GL.both, GL.wAndE, GL.wOrE, GL.wSlot, GL.wAs, GL.wCons, GL.wNil, GL.wVal, GL.wB, GL.wCmp, GL.wCmp2, GL.wBin, GL.wUn, GL.wNot, GL.wAnd, GL.wOr, GL.wIfE, GL.wIf, GL.wTup, GL.wLst, GL.wSlc, GL.wNoP, GL.wPart, GL.wO, GL.wC, GL.wI, GL.wG, GL.wGs, GL.wIt, GL.wRange1, GL.wRange2, GL.wEnum, GL.wZip, GL.wgName, GL.wgTup, GL.wgCons, GL.wgNil, GL.wAsg, GL.wDrop, GL.wSkip, GL.wPar, GL.wSetIx, GL.wTru, GL.wFor, GL.wLc, GL.wMth, GL.wCall, GL.wCallK, GL.wPs, GL.wPairs, GL.q_len, GL.q_isi, GL.q_int, GL.q_list, GL.q_tupt, GL.q_tupr, GL.q_all, GL.q_any, GL.q_max2, GL.q_min2, GL.q_sorted, GL.q_stri, GL.q_strs, GL.q_strb, GL.q_repr, GL.q_dict, GL.q_sum, GL.q_addi, GL.q_adds, GL.q_addt, GL.q_addl, GL.q_addb, GL.q_subi, GL.q_subb, GL.q_muls, GL.q_muli, GL.q_divi, GL.q_modi, GL.q_powi, GL.q_negi, GL.q_negb, GL.q_eq, GL.q_ne, GL.q_lti, GL.q_lei, GL.q_gti, GL.q_gei, GL.q_lts, GL.q_ins, GL.q_nins, GL.q_int_, GL.q_inl, GL.q_nint, GL.q_ninl, GL.q_trb, GL.q_tri, GL.q_ixt, GL.q_ixs, GL.q_slt, GL.q_sls, GL.q_revt, GL.ix_lst, GL.q_dct0, GL.ik_non_tup, GL.ik_non_int, GL.ik_non_str, GL.ik_non_lst, GL.ik_non_bl, GL.ik_non_dct, GL.ik_bl_tup, GL.ik_bl_int, GL.ik_bl_str, GL.ik_bl_lst, GL.ik_bl_bl, GL.ik_bl_dct, GL.ik_int_tup, GL.ik_int_int, GL.ik_int_str, GL.ik_int_lst, GL.ik_int_bl, GL.ik_int_dct, GL.ik_str_tup, GL.ik_str_int, GL.ik_str_str, GL.ik_str_lst, GL.ik_str_bl, GL.ik_str_dct, GL.ik_tup_tup, GL.ik_tup_int, GL.ik_tup_str, GL.ik_tup_lst, GL.ik_tup_bl, GL.ik_tup_dct, GL.ik_lst_tup, GL.ik_lst_int, GL.ik_lst_str, GL.ik_lst_lst, GL.ik_lst_bl, GL.ik_lst_dct, GL.ik_dct_tup, GL.ik_dct_int, GL.ik_dct_str, GL.ik_dct_lst, GL.ik_dct_bl, GL.ik_dct_dct, GL.q_st, GL.q_sf, GL.q_lt, List.cons.injEq, GL.at0, GL.at1, GL.at2, GL.q_itt, GL.q_its, GL.q_itr, GL.q_zt, GL.q_zr, GL.srcT, GL.srcL, GL.q_m1, GL.q_m2, GL.q_m3, GL.q_m4, GL.q_m5, GL.q_m6, GL.q_k1, GL.q_k2, GL.q_k3, GL.q_k4, GL.q_k5, exists_and_left, GL.q_ixr, GL.q_ixi, GL.q_setr, GL.q_slr, GL.q_revr, GL.q_kr, GL.q_lr, GL.q_sr, GL.q_vr, GL.put_same, GL.put_put, GL.keyD, GL.wNew, GL.Cell.dct.injEq, GL.Cell.lst.injEq, GL.D.int.injEq, GL.D.str.injEq, GL.D.ref.injEq, GL.D.tup.injEq, reduceCtorEq, false_and, and_false, or_false, false_or, exists_false, exists_const, and_assoc, GL.q_app, GL.q_ext, GL.q_pop, GL.q_get2, GL.q_join, GL.q_upper, GL.GTgs.len, GL.GTg.slots, GL.GTgs.slots, GL.GXs.len, GL.wipeE, List.getElem?_cons_zero, List.getElem?_cons_succ, List.set_cons_zero, List.set_cons_succ, Option.some.injEq, exists_eq_left', exists_eq_left, List.map_cons, List.map_nil, List.length_cons, List.length_nil, List.replicate_succ, List.replicate_zero, List.cons_append, List.nil_append, List.zip_cons_cons, List.zip_nil_right, List.foldl_cons, List.foldl_nil, Nat.reduceAdd, Nat.reduceSub, true_and, and_true, ↓reduceIte, Bool.false_eq_true, GL.wFld, GL.wMtd, GL.wMake, GL.wSetFld, GL.wLrg, GL.wTrg, GL.q_dictP, GL.wInd])
local macro_rules | `(tactic| delta $xs* $[$loc]?) => `(tactic| simp only [GL.wB_, GL.wS, GL.wSeq, GL.wRet, GL.w, GL.both, GL.wAndE, GL.wOrE, GL.wSlot, GL.wAs, GL.wCons, GL.wNil, GL.wVal, GL.wB, GL.wCmp, GL.wCmp2, GL.wBin, GL.wUn, GL.wNot, GL.wAnd, GL.wOr, GL.wIfE, GL.wIf, GL.wTup, GL.wLst, GL.wSlc, GL.wNoP, GL.wPart, GL.wO, GL.wC, GL.wI, GL.wG, GL.wGs, GL.wIt, GL.wRange1, GL.wRange2, GL.wEnum, GL.wZip, GL.wgName, GL.wgTup, GL.wgCons, GL.wgNil, GL.wAsg, GL.wDrop, GL.wSkip, GL.wPar, GL.wSetIx, GL.wTru, GL.wFor, GL.wLc, GL.wMth, GL.wCall, GL.wCallK, GL.wPs, GL.wPairs, GL.q_len, GL.q_isi, GL.q_int, GL.q_list, GL.q_tupt, GL.q_tupr, GL.q_all, GL.q_any, GL.q_max2, GL.q_min2, GL.q_sorted, GL.q_stri, GL.q_strs, GL.q_strb, GL.q_repr, GL.q_dict, GL.q_sum, GL.q_addi, GL.q_adds, GL.q_addt, GL.q_addl, GL.q_addb, GL.q_subi, GL.q_subb, GL.q_muls, GL.q_muli, GL.q_divi, GL.q_modi, GL.q_powi, GL.q_negi, GL.q_negb, GL.q_eq, GL.q_ne, GL.q_lti, GL.q_lei, GL.q_gti, GL.q_gei, GL.q_lts, GL.q_ins, GL.q_nins, GL.q_int_, GL.q_inl, GL.q_nint, GL.q_ninl, GL.q_trb, GL.q_tri, GL.q_ixt, GL.q_ixs, GL.q_slt, GL.q_sls, GL.q_revt, GL.ix_lst, GL.q_dct0, GL.ik_non_tup, GL.ik_non_int, GL.ik_non_str, GL.ik_non_lst, GL.ik_non_bl, GL.ik_non_dct, GL.ik_bl_tup, GL.ik_bl_int, GL.ik_bl_str, GL.ik_bl_lst, GL.ik_bl_bl, GL.ik_bl_dct, GL.ik_int_tup, GL.ik_int_int, GL.ik_int_str, GL.ik_int_lst, GL.ik_int_bl, GL.ik_int_dct, GL.ik_str_tup, GL.ik_str_int, GL.ik_str_str, GL.ik_str_lst, GL.ik_str_bl, GL.ik_str_dct, GL.ik_tup_tup, GL.ik_tup_int, GL.ik_tup_str, GL.ik_tup_lst, GL.ik_tup_bl, GL.ik_tup_dct, GL.ik_lst_tup, GL.ik_lst_int, GL.ik_lst_str, GL.ik_lst_lst, GL.ik_lst_bl, GL.ik_lst_dct, GL.ik_dct_tup, GL.ik_dct_int, GL.ik_dct_str, GL.ik_dct_lst, GL.ik_dct_bl, GL.ik_dct_dct, GL.q_st, GL.q_sf, GL.q_lt, List.cons.injEq, GL.at0, GL.at1, GL.at2, GL.q_itt, GL.q_its, GL.q_itr, GL.q_zt, GL.q_zr, GL.srcT, GL.srcL, GL.q_m1, GL.q_m2, GL.q_m3, GL.q_m4, GL.q_m5, GL.q_m6, GL.q_k1, GL.q_k2, GL.q_k3, GL.q_k4, GL.q_k5, exists_and_left, GL.q_ixr, GL.q_ixi, GL.q_setr, GL.q_slr, GL.q_revr, GL.q_kr, GL.q_lr, GL.q_sr, GL.q_vr, GL.put_same, GL.put_put, GL.keyD, GL.wNew, GL.Cell.dct.injEq, GL.Cell.lst.injEq, GL.D.int.injEq, GL.D.str.injEq, GL.D.ref.injEq, GL.D.tup.injEq, reduceCtorEq, false_and, and_false, or_false, false_or, exists_false, exists_const, and_assoc, GL.q_app, GL.q_ext, GL.q_pop, GL.q_get2, GL.q_join, GL.q_upper, GL.GTgs.len, GL.GTg.slots, GL.GTgs.slots, GL.GXs.len, GL.wipeE, List.getElem?_cons_zero, List.getElem?_cons_succ, List.set_cons_zero, List.set_cons_succ, Option.some.injEq, exists_eq_left', exists_eq_left, List.map_cons, List.map_nil, List.length_cons, List.length_nil, List.replicate_succ, List.replicate_zero, List.cons_append, List.nil_append, List.zip_cons_cons, List.zip_nil_right, List.foldl_cons, List.foldl_nil, Nat.reduceAdd, Nat.reduceSub, true_and, and_true, ↓reduceIte, Bool.false_eq_true, GL.wFld, GL.wMtd, GL.wMake, GL.wSetFld, GL.wLrg, GL.wTrg, GL.q_dictP, GL.wInd, $[$xs:ident],*] $[$loc]?)
namespace GL
open PySem K01
/-- the first statement alone -/
theorem b_cut {T : Tb} {W : XW} {s : GS} {b : GB} {E : GEnd} {ρ : Ev} {S : Store} (h : ∀ B : GB, B = b → wB_ T W (.cons s B) E ρ S) : wB_ T W (.cons s b) E ρ S := h b rfl
def GB.body : GB → GB
  | .cons (.for_ _ _ b) _ => b
  | _ => .nil
/-- a def that is called by position and by names -/
def HasB (T : Tb) (f : Str) (ps ks : List Str) (C : GC0) : Prop := ∃ F, T.fn f = some F ∧ F.ps = ps ∧ (0, ks) ∈ F.kl ∧ ∀ args S Q E, C args S Q → args.length = F.ps.length ∧ F.c args S Q E
structure LH6 (T : Tb) : Prop where
  deck : Has T "_law_deck" cDeck
  words : Has T "_law_words" cWords
  world : Has T "_law_world" cWorld
  cpt : Has T "_law_concept" (cCpt 10)
  long : Has T "_law_long" cLong
  pick : Has T "_law_pick" cPick
  things : Has T "_law_things" (cLth 40)
  tied : Has T "_law_is_tied" cTied
  tin : HasB T "things_in" ["world", "concept"] ["concept", "world"] cThingsOf
  hold : HasB T "does_hold_in" ["world", "left", "right"] ["right", "left", "world"] cHold
theorem ord_in {c w : D} : ordL D.non 0 ["world", "concept"] ["concept", "world"] [] [c, w] = [w, c] := by kernel_rfl
theorem ord_hold {r l w : D} : ordL D.non 0 ["world", "left", "right"] ["right", "left", "world"] [] [r, l, w] = [w, l, r] := by kernel_rfl
/-- a concept that is asked -/
structure CQ (c : Con) : Prop where
  ok : c.ok
  n : c.nodes ≤ 500
  d : c.dep ≤ 20
theorem repr_ints {S : Store} {xs : List Int} {B : Nat} (h : ∀ x ∈ xs, 0 ≤ x ∧ x < B) (hB : B ≤ 2000) (hl : xs.length ≤ 100) : ∃ t, reprT S (.tup (xs.map D.int)) = some t := by
  have g : Gv (fun _ => True) S 12 1 101 (.tup (xs.map D.int)) := .tup (h := 0) (m := 100 * 1) (gvs_of (fun d hd => by
    obtain ⟨x, hx, rfl⟩ := List.mem_map.mp hd
    exact .int (small_int B (h x hx) hB) (Nat.le_refl _)) (by rw [List.length_map]; exact hl)) (by decide)
  exact g.repr (by decide) (by decide) (Nat.le_trans (m := 1000000) (by decide) (by decide))
theorem eqF_self {S : Store} {x : Str} : eqT (eqF S 60) S (.str x) (.str x) = some true := by
  show some (x == x) = some true
  rw [beq_self_eq_true]
def bT6 : GB := (b_law.tl 2).body
theorem x_concepts (T : Tb) (H : LH6 T) {ns a w : D} {m : Wm} (mok : m.Ok) {f : Addr} {t : Int} {E : GEnd} {cs done : List Con} {S : Store} {r4 r5 r7 r8 r9 r10 r11 r12 r13 r14 r15 r16 r17 r18 r19 : Option D} (hc : ∀ c ∈ cs, CQ c) (hl : done.length + cs.length ≤ 10)
    (hf : S f = some (.lst (done.map (semD m)))) (hE : ∀ S' r7 r15, S' f = some (.lst ((done ++ cs).map (semD m))) → (∀ x c, x ≠ f → S x = some c → S' x = some c) → E.nx [some ns, some a, some w, some (.int t), some m.d, r5, some (.ref f), r7, r8, r9, r10, r11, r12, r13, r14, r15, r16, r17, r18, r19] S') :
    wForL (fun _ => True) (wG (.name 7)) (wB_ T noW (bT6.tl 5).body) E (cs.map Con.d) [some ns, some a, some w, some (.int t), some m.d, r5, some (.ref f), r7, r8, r9, r10, r11, r12, r13, r14, r15, r16, r17, r18, r19] S := by
  obtain ⟨Fi, ei, pi, li, ui⟩ := H.tin
  obtain ⟨Fl, el, ul⟩ := H.things
  refine for_inv (fun q ρ S1 => ∃ (cs1 done1 : List Con) (r7 r15 : Option D), ρ = [some ns, some a, some w, some (.int t), some m.d, r5, some (.ref f), r7, r8, r9, r10, r11, r12, r13, r14, r15, r16, r17, r18, r19] ∧ q = cs1.map Con.d ∧ done1 ++ cs1 = done ++ cs ∧ (∀ c ∈ cs1, CQ c) ∧ S1 f = some (.lst (done1.map (semD m))) ∧ (∀ x c, x ≠ f → S x = some c → S1 x = some c)) (fun _ _ _ _ => trivial) _ _ _
    ⟨cs, done, _, _, rfl, rfl, rfl, hc, hf, fun _ _ _ e => e⟩ ?_ ?_
  · rintro d q ρ S1 K ⟨cs1, done1, r7, r15, rfl, hq, hcs, hc1, hf1, fr1⟩ hK
    cases cs1 with
    | nil => cases hq
    | cons c cs1 =>
      rw [List.map_cons, List.cons.injEq] at hq
      obtain ⟨rfl, rfl⟩ := hq
      have cq := hc1 c (List.mem_cons_self ..)
      have ll := congrArg List.length hcs
      rw [List.length_append, List.length_append, List.length_cons] at ll
      simp only [bT6, b_law, GB.tl, GB.body]
      delta ei el
      have mm := mok.m
      have sl := sem_len m c
      split
      · refine use2 ui rfl ⟨m, c, rfl, mok, cq.ok, by have := cq.n; omega, by have := cq.d; omega, fun S2 s2 => ?_⟩
        obtain ⟨t1, ht1⟩ := repr_ints (S := S2) (xs := sem m c) (B := m.many) (fun x hx => (mem_sem.mp hx).1) (by omega) (by omega)
        refine ⟨t1, ht1, use2 ul rfl ⟨m, c, 40, rfl, mok, cq.ok, by have := cq.d; omega, by decide, by have := cq.d; omega, fun u S3 s3 hu => ?_⟩⟩
        show bltD .tuple [D.ref u] S3 _
        rw [q_tupr]
        refine ⟨semL m c, by rw [q_sr, hu], ?_⟩
        refine ⟨t1, reprT_sub s3 ht1, true, eqF_self, ?_⟩
        have hf3 := s3 _ _ (s2 _ _ hf1)
        delta Bool.not_true hf3
        refine ⟨lt_size (by rw [List.length_map]; omega), hK _ _ ⟨cs1, done1 ++ [c], _, _, rfl, rfl, by rw [List.append_assoc]; exact hcs, fun d hd => hc1 d (List.mem_cons_of_mem _ hd), by rw [put_same, List.map_append]; rfl, fun x c hx e => ?_⟩⟩
        rw [put_ne hx]
        exact s3 _ _ (s2 _ _ (fr1 x c hx e))
      · refine ⟨li, ?_⟩
        rw [pi, ord_in]
        refine ⟨rfl, (ui _ _ _ _ ⟨m, c, rfl, mok, cq.ok, by have := cq.n; omega, by have := cq.d; omega, fun S2 s2 => ?_⟩).2⟩
        obtain ⟨t1, ht1⟩ := repr_ints (S := S2) (xs := sem m c) (B := m.many) (fun x hx => (mem_sem.mp hx).1) (by omega) (by omega)
        refine ⟨t1, ht1, use2 ul rfl ⟨m, c, 40, rfl, mok, cq.ok, by have := cq.d; omega, by decide, by have := cq.d; omega, fun u S3 s3 hu => ?_⟩⟩
        show bltD .tuple [D.ref u] S3 _
        rw [q_tupr]
        refine ⟨semL m c, by rw [q_sr, hu], ?_⟩
        refine ⟨t1, reprT_sub s3 ht1, true, eqF_self, ?_⟩
        have hf3 := s3 _ _ (s2 _ _ hf1)
        delta Bool.not_true hf3
        refine ⟨lt_size (by rw [List.length_map]; omega), hK _ _ ⟨cs1, done1 ++ [c], _, _, rfl, rfl, by rw [List.append_assoc]; exact hcs, fun d hd => hc1 d (List.mem_cons_of_mem _ hd), by rw [put_same, List.map_append]; rfl, fun x c hx e => ?_⟩⟩
        rw [put_ne hx]
        exact s3 _ _ (s2 _ _ (fr1 x c hx e))
  · rintro ρ S1 ⟨cs1, done1, r7, r15, rfl, hq, hcs, _, hf1, fr1⟩
    cases cs1 with
    | cons _ _ => cases hq
    | nil =>
      rw [List.append_nil] at hcs
      rw [hcs] at hf1
      exact hE S1 _ _ hf1 fr1
end GL
end

-- W6o
section
local macro_rules | `(tactic| walk_at "gl") => `(tactic| simp only [GL.wB_, GL.wS, GL.wSeq, GL.wRet, GL.w, GL.both, GL.wAndE, GL.wOrE, GL.wSlot, GL.wAs, GL.wCons, GL.wNil, GL.wVal, GL.wB, GL.wCmp, GL.wCmp2, GL.wBin, GL.wUn, GL.wNot, GL.wAnd, GL.wOr, GL.wIfE, GL.wIf, GL.wTup, GL.wLst, GL.wSlc, GL.wNoP, GL.wPart, GL.wO, GL.wC, GL.wI, GL.wG, GL.wGs, GL.wIt, GL.wRange1, GL.wRange2, GL.wEnum, GL.wZip, GL.wgName, GL.wgTup, GL.wgCons, GL.wgNil, GL.wAsg, GL.wDrop, GL.wSkip, GL.wPar, GL.wSetIx, GL.wTru, GL.wFor, GL.wLc, GL.wMth, GL.wCall, GL.wCallK, GL.wPs, GL.wPairs, GL.q_len, GL.q_isi, GL.q_int, GL.q_list, GL.q_tupt, GL.q_tupr, GL.q_all, GL.q_any, GL.q_max2, GL.q_min2, GL.q_sorted, GL.q_stri, GL.q_strs, GL.q_strb, GL.q_repr, GL.q_dict, GL.q_sum, GL.q_addi, GL.q_adds, GL.q_addt, GL.q_addl, GL.q_addb, GL.q_subi, GL.q_subb, GL.q_muls, GL.q_muli, GL.q_divi, GL.q_modi, GL.q_powi, GL.q_negi, GL.q_negb, GL.q_eq, GL.q_ne, GL.q_lti, GL.q_lei, GL.q_gti, GL.q_gei, GL.q_lts, GL.q_ins, GL.q_nins, GL.q_int_, GL.q_inl, GL.q_nint, GL.q_ninl, GL.q_trb, GL.q_tri, GL.q_ixt, GL.q_ixs, GL.q_slt, GL.q_sls, GL.q_revt, GL.ix_lst, GL.q_dct0, GL.ik_non_tup, GL.ik_non_int, GL.ik_non_str, GL.ik_non_lst, GL.ik_non_bl, GL.ik_non_dct, GL.ik_bl_tup, GL.ik_bl_int, GL.ik_bl_str, GL.ik_bl_lst, GL.ik_bl_bl, GL.ik_bl_dct, GL.ik_int_tup, GL.ik_int_int, GL.ik_int_str, GL.ik_int_lst, GL.ik_int_bl, GL.ik_int_dct, GL.ik_str_tup, GL.ik_str_int, GL.ik_str_str, GL.ik_str_lst, GL.ik_str_bl, GL.ik_str_dct, GL.ik_tup_tup, GL.ik_tup_int, GL.ik_tup_str, GL.ik_tup_lst, GL.ik_tup_bl, GL.ik_tup_dct, GL.ik_lst_tup, GL.ik_lst_int, GL.ik_lst_str, GL.ik_lst_lst, GL.ik_lst_bl, GL.ik_lst_dct, GL.ik_dct_tup, GL.ik_dct_int, GL.ik_dct_str, GL.ik_dct_lst, GL.ik_dct_bl, GL.ik_dct_dct, GL.q_st, GL.q_sf, GL.q_lt, List.cons.injEq, GL.at0, GL.at1, GL.at2, GL.q_itt, GL.q_its, GL.q_itr, GL.q_zt, GL.q_zr, GL.srcT, GL.srcL, GL.q_m1, GL.q_m2, GL.q_m3, GL.q_m4, GL.q_m5, GL.q_m6, GL.q_k1, GL.q_k2, GL.q_k3, GL.q_k4, GL.q_k5, exists_and_left, GL.q_ixr, GL.q_ixi, GL.q_setr, GL.q_slr, GL.q_revr, GL.q_kr, GL.q_lr, GL.q_sr, GL.q_vr, GL.put_same, GL.put_put, GL.keyD, GL.wNew, GL.Cell.dct.injEq, GL.Cell.lst.injEq, GL.D.int.injEq, GL.D.str.injEq, GL.D.ref.injEq, GL.D.tup.injEq, reduceCtorEq, false_and, and_false, or_false, false_or, exists_false, exists_const, and_assoc, GL.q_app, GL.q_ext, GL.q_pop, GL.q_get2, GL.q_join, GL.q_upper, GL.GTgs.len, GL.GTg.slots, GL.GTgs.slots, GL.GXs.len, GL.wipeE, List.getElem?_cons_zero, List.getElem?_cons_succ, List.set_cons_zero, List.set_cons_succ, Option.some.injEq, exists_eq_left', exists_eq_left, List.map_cons, List.map_nil, List.length_cons, List.length_nil, List.replicate_succ, List.replicate_zero, List.cons_append, List.nil_append, List.zip_cons_cons, List.zip_nil_right, List.foldl_cons, List.foldl_nil, Nat.reduceAdd, Nat.reduceSub, true_and, and_true, ↓reduceIte, Bool.false_eq_true, GL.wFld, GL.wMtd, GL.wMake, GL.wSetFld, GL.wLrg, GL.wTrg, GL.q_dictP, GL.wInd])
local macro_rules | `(tactic| delta $xs* $[$loc]?) => `(tactic| simp only [GL.wB_, GL.wS, GL.wSeq, GL.wRet, GL.w, GL.both, GL.wAndE, GL.wOrE, GL.wSlot, GL.wAs, GL.wCons, GL.wNil, GL.wVal, GL.wB, GL.wCmp, GL.wCmp2, GL.wBin, GL.wUn, GL.wNot, GL.wAnd, GL.wOr, GL.wIfE, GL.wIf, GL.wTup, GL.wLst, GL.wSlc, GL.wNoP, GL.wPart, GL.wO, GL.wC, GL.wI, GL.wG, GL.wGs, GL.wIt, GL.wRange1, GL.wRange2, GL.wEnum, GL.wZip, GL.wgName, GL.wgTup, GL.wgCons, GL.wgNil, GL.wAsg, GL.wDrop, GL.wSkip, GL.wPar, GL.wSetIx, GL.wTru, GL.wFor, GL.wLc, GL.wMth, GL.wCall, GL.wCallK, GL.wPs, GL.wPairs, GL.q_len, GL.q_isi, GL.q_int, GL.q_list, GL.q_tupt, GL.q_tupr, GL.q_all, GL.q_any, GL.q_max2, GL.q_min2, GL.q_sorted, GL.q_stri, GL.q_strs, GL.q_strb, GL.q_repr, GL.q_dict, GL.q_sum, GL.q_addi, GL.q_adds, GL.q_addt, GL.q_addl, GL.q_addb, GL.q_subi, GL.q_subb, GL.q_muls, GL.q_muli, GL.q_divi, GL.q_modi, GL.q_powi, GL.q_negi, GL.q_negb, GL.q_eq, GL.q_ne, GL.q_lti, GL.q_lei, GL.q_gti, GL.q_gei, GL.q_lts, GL.q_ins, GL.q_nins, GL.q_int_, GL.q_inl, GL.q_nint, GL.q_ninl, GL.q_trb, GL.q_tri, GL.q_ixt, GL.q_ixs, GL.q_slt, GL.q_sls, GL.q_revt, GL.ix_lst, GL.q_dct0, GL.ik_non_tup, GL.ik_non_int, GL.ik_non_str, GL.ik_non_lst, GL.ik_non_bl, GL.ik_non_dct, GL.ik_bl_tup, GL.ik_bl_int, GL.ik_bl_str, GL.ik_bl_lst, GL.ik_bl_bl, GL.ik_bl_dct, GL.ik_int_tup, GL.ik_int_int, GL.ik_int_str, GL.ik_int_lst, GL.ik_int_bl, GL.ik_int_dct, GL.ik_str_tup, GL.ik_str_int, GL.ik_str_str, GL.ik_str_lst, GL.ik_str_bl, GL.ik_str_dct, GL.ik_tup_tup, GL.ik_tup_int, GL.ik_tup_str, GL.ik_tup_lst, GL.ik_tup_bl, GL.ik_tup_dct, GL.ik_lst_tup, GL.ik_lst_int, GL.ik_lst_str, GL.ik_lst_lst, GL.ik_lst_bl, GL.ik_lst_dct, GL.ik_dct_tup, GL.ik_dct_int, GL.ik_dct_str, GL.ik_dct_lst, GL.ik_dct_bl, GL.ik_dct_dct, GL.q_st, GL.q_sf, GL.q_lt, List.cons.injEq, GL.at0, GL.at1, GL.at2, GL.q_itt, GL.q_its, GL.q_itr, GL.q_zt, GL.q_zr, GL.srcT, GL.srcL, GL.q_m1, GL.q_m2, GL.q_m3, GL.q_m4, GL.q_m5, GL.q_m6, GL.q_k1, GL.q_k2, GL.q_k3, GL.q_k4, GL.q_k5, exists_and_left, GL.q_ixr, GL.q_ixi, GL.q_setr, GL.q_slr, GL.q_revr, GL.q_kr, GL.q_lr, GL.q_sr, GL.q_vr, GL.put_same, GL.put_put, GL.keyD, GL.wNew, GL.Cell.dct.injEq, GL.Cell.lst.injEq, GL.D.int.injEq, GL.D.str.injEq, GL.D.ref.injEq, GL.D.tup.injEq, reduceCtorEq, false_and, and_false, or_false, false_or, exists_false, exists_const, and_assoc, GL.q_app, GL.q_ext, GL.q_pop, GL.q_get2, GL.q_join, GL.q_upper, GL.GTgs.len, GL.GTg.slots, GL.GTgs.slots, GL.GXs.len, GL.wipeE, List.getElem?_cons_zero, List.getElem?_cons_succ, List.set_cons_zero, List.set_cons_succ, Option.some.injEq, exists_eq_left', exists_eq_left, List.map_cons, List.map_nil, List.length_cons, List.length_nil, List.replicate_succ, List.replicate_zero, List.cons_append, List.nil_append, List.zip_cons_cons, List.zip_nil_right, List.foldl_cons, List.foldl_nil, Nat.reduceAdd, Nat.reduceSub, true_and, and_true, ↓reduceIte, Bool.false_eq_true, GL.wFld, GL.wMtd, GL.wMake, GL.wSetFld, GL.wLrg, GL.wTrg, GL.q_dictP, GL.wInd, $[$xs:ident],*] $[$loc]?)
namespace GL
open PySem K01
def rowD (m : Wm) (p : Con × Con) : D := .tup [p.1.d, p.2.d, .bl (holds m p.1 p.2)]
theorem repr_bl {S : Store} {b : Bool} : ∃ t, reprT S (.bl b) = some t := by
  have g : Gv (fun _ => True) S 12 0 1 (.bl b) := .bl (Nat.le_refl _)
  exact g.repr (by decide) (by decide) (Nat.le_trans (m := 1000000) (by decide) (by decide))
theorem x_rows (T : Tb) (H : LH6 T) {ns a w : D} {m : Wm} (mok : m.Ok) {g : Addr} {t : Int} {E : GEnd} {rows : List (Con × Con)} {S : Store} {r5 r6 r7 r8 r10 r11 r12 r13 r14 r15 r16 r17 r18 r19 : Option D} (hc : ∀ p ∈ rows, CQ p.1 ∧ CQ p.2)
    (hg : S g = some (.lst (rows.map (rowD m)))) (hE : ∀ S' r15 r16 r17 r18, Sub S S' → E.nx [some ns, some a, some w, some (.int t), some m.d, r5, r6, r7, r8, some (.ref g), r10, r11, r12, r13, r14, r15, r16, r17, r18, r19] S') :
    wForL (fun S' => S' g = some (.lst (rows.map (rowD m)))) (wG (.tup (.cons (.name 16) (.cons (.name 17) (.cons (.name 18) .nil))))) (wB_ T noW (bT6.tl 11).body) E (rows.map (rowD m)) [some ns, some a, some w, some (.int t), some m.d, r5, r6, r7, r8, some (.ref g), r10, r11, r12, r13, r14, r15, r16, r17, r18, r19] S := by
  obtain ⟨Fi, ei, pi, li, ui⟩ := H.hold
  refine for_inv (fun q ρ S1 => ∃ (r1 : List (Con × Con)) (r15 r16 r17 r18 : Option D), ρ = [some ns, some a, some w, some (.int t), some m.d, r5, r6, r7, r8, some (.ref g), r10, r11, r12, r13, r14, r15, r16, r17, r18, r19] ∧ q = r1.map (rowD m) ∧ (∀ p ∈ r1, CQ p.1 ∧ CQ p.2) ∧ Sub S S1) (fun _ _ _ ⟨_, _, _, _, _, _, _, _, s⟩ => s _ _ hg) _ _ _
    ⟨rows, _, _, _, _, rfl, rfl, hc, Sub.refl S⟩ ?_ ?_
  · rintro d q ρ S1 K ⟨r1, r15, r16, r17, r18, rfl, hq, hc1, s1⟩ hK
    cases r1 with
    | nil => cases hq
    | cons p r1 =>
      rw [List.map_cons, List.cons.injEq] at hq
      obtain ⟨rfl, rfl⟩ := hq
      obtain ⟨c1, c2⟩ := hc1 p (List.mem_cons_self ..)
      unfold rowD
      simp only [bT6, b_law, GB.tl, GB.body]
      delta ei
      have k1 := c1.n
      have k2 := c2.n
      have k3 := c1.d
      have k4 := c2.d
      split
      · refine use2 ui rfl ⟨m, p.1, p.2, rfl, mok, c1.ok, c2.ok, by omega, by omega, by omega, by omega, fun S2 s2 => ?_⟩
        obtain ⟨t1, ht1⟩ := repr_bl (S := S2) (b := holds m p.1 p.2)
        refine ⟨t1, ht1, t1, ht1, true, eqF_self, ?_⟩
        delta Bool.not_true
        exact hK _ _ ⟨r1, _, _, _, _, rfl, rfl, fun q hq => hc1 q (List.mem_cons_of_mem _ hq), s1.trans s2⟩
      · refine ⟨li, ?_⟩
        rw [pi, ord_hold]
        refine ⟨rfl, (ui _ _ _ _ ⟨m, p.1, p.2, rfl, mok, c1.ok, c2.ok, by omega, by omega, by omega, by omega, fun S2 s2 => ?_⟩).2⟩
        obtain ⟨t1, ht1⟩ := repr_bl (S := S2) (b := holds m p.1 p.2)
        refine ⟨t1, ht1, t1, ht1, true, eqF_self, ?_⟩
        delta Bool.not_true
        exact hK _ _ ⟨r1, _, _, _, _, rfl, rfl, fun q hq => hc1 q (List.mem_cons_of_mem _ hq), s1.trans s2⟩
  · rintro ρ S1 ⟨r1, r15, r16, r17, r18, rfl, hq, _, s1⟩
    exact hE S1 _ _ _ _ s1
/-- what the tests of a turn ask -/
theorem sem_is_and (m : Wm) (c d : Con) : (sem m c).filter (fun x => decide (x ∈ sem m d)) = sem m (.and c d) := (sem_and m c d).symm
theorem rng_m {m : Wm} : rangeD 0 (m.many : Int).toNat = m.rng.map D.int := rng_d m
theorem tied_sem {m : Wm} (ok : m.Ok) (r : Str) (c : Con) : m.rng.filter (fun x => tiedTo m r x (sem m c)) = sem m (.some r c) := by
  unfold sem
  refine List.filter_congr fun x hx => ?_
  rw [Bool.eq_iff_iff]
  simp only [tiedTo, inC, List.any_eq_true, Bool.and_eq_true, decide_eq_true_eq]
  constructor
  · rintro ⟨p, hp, h1, h2⟩
    exact ⟨p, hp, h1, (mem_sem.mp h2).2⟩
  · rintro ⟨p, hp, h1, h2⟩
    exact ⟨p, hp, h1, mem_sem.mpr ⟨((m.ties_ok ok r).2 p hp).2, h2⟩⟩
theorem slice3 {xs : List Str} : cutD (xs.map D.str) none (some 3) = (xs.take 3).map D.str := by
  rw [show (3 : Int) = ((3 : Nat) : Int) from rfl, cut_to, List.map_take]
end GL
end

-- W6p
section
local macro_rules | `(tactic| walk_at "gl") => `(tactic| simp only [GL.wB_, GL.wS, GL.wSeq, GL.wRet, GL.w, GL.both, GL.wAndE, GL.wOrE, GL.wSlot, GL.wAs, GL.wCons, GL.wNil, GL.wVal, GL.wB, GL.wCmp, GL.wCmp2, GL.wBin, GL.wUn, GL.wNot, GL.wAnd, GL.wOr, GL.wIfE, GL.wIf, GL.wTup, GL.wLst, GL.wSlc, GL.wNoP, GL.wPart, GL.wO, GL.wC, GL.wI, GL.wG, GL.wGs, GL.wIt, GL.wRange1, GL.wRange2, GL.wEnum, GL.wZip, GL.wgName, GL.wgTup, GL.wgCons, GL.wgNil, GL.wAsg, GL.wDrop, GL.wSkip, GL.wPar, GL.wSetIx, GL.wTru, GL.wFor, GL.wLc, GL.wMth, GL.wCall, GL.wCallK, GL.wPs, GL.wPairs, GL.q_len, GL.q_isi, GL.q_int, GL.q_list, GL.q_tupt, GL.q_tupr, GL.q_all, GL.q_any, GL.q_max2, GL.q_min2, GL.q_sorted, GL.q_stri, GL.q_strs, GL.q_strb, GL.q_repr, GL.q_dict, GL.q_sum, GL.q_addi, GL.q_adds, GL.q_addt, GL.q_addl, GL.q_addb, GL.q_subi, GL.q_subb, GL.q_muls, GL.q_muli, GL.q_divi, GL.q_modi, GL.q_powi, GL.q_negi, GL.q_negb, GL.q_eq, GL.q_ne, GL.q_lti, GL.q_lei, GL.q_gti, GL.q_gei, GL.q_lts, GL.q_ins, GL.q_nins, GL.q_int_, GL.q_inl, GL.q_nint, GL.q_ninl, GL.q_trb, GL.q_tri, GL.q_ixt, GL.q_ixs, GL.q_slt, GL.q_sls, GL.q_revt, GL.ix_lst, GL.q_dct0, GL.ik_non_tup, GL.ik_non_int, GL.ik_non_str, GL.ik_non_lst, GL.ik_non_bl, GL.ik_non_dct, GL.ik_bl_tup, GL.ik_bl_int, GL.ik_bl_str, GL.ik_bl_lst, GL.ik_bl_bl, GL.ik_bl_dct, GL.ik_int_tup, GL.ik_int_int, GL.ik_int_str, GL.ik_int_lst, GL.ik_int_bl, GL.ik_int_dct, GL.ik_str_tup, GL.ik_str_int, GL.ik_str_str, GL.ik_str_lst, GL.ik_str_bl, GL.ik_str_dct, GL.ik_tup_tup, GL.ik_tup_int, GL.ik_tup_str, GL.ik_tup_lst, GL.ik_tup_bl, GL.ik_tup_dct, GL.ik_lst_tup, GL.ik_lst_int, GL.ik_lst_str, GL.ik_lst_lst, GL.ik_lst_bl, GL.ik_lst_dct, GL.ik_dct_tup, GL.ik_dct_int, GL.ik_dct_str, GL.ik_dct_lst, GL.ik_dct_bl, GL.ik_dct_dct, GL.q_st, GL.q_sf, GL.q_lt, List.cons.injEq, GL.at0, GL.at1, GL.at2, GL.q_itt, GL.q_its, GL.q_itr, GL.q_zt, GL.q_zr, GL.srcT, GL.srcL, GL.q_m1, GL.q_m2, GL.q_m3, GL.q_m4, GL.q_m5, GL.q_m6, GL.q_k1, GL.q_k2, GL.q_k3, GL.q_k4, GL.q_k5, exists_and_left, GL.q_ixr, GL.q_ixi, GL.q_setr, GL.q_slr, GL.q_revr, GL.q_kr, GL.q_lr, GL.q_sr, GL.q_vr, GL.put_same, GL.put_put, GL.keyD, GL.wNew, GL.Cell.dct.injEq, GL.Cell.lst.injEq, GL.D.int.injEq, GL.D.str.injEq, GL.D.ref.injEq, GL.D.tup.injEq, reduceCtorEq, false_and, and_false, or_false, false_or, exists_false, exists_const, and_assoc, GL.q_app, GL.q_ext, GL.q_pop, GL.q_get2, GL.q_join, GL.q_upper, GL.GTgs.len, GL.GTg.slots, GL.GTgs.slots, GL.GXs.len, GL.wipeE, List.getElem?_cons_zero, List.getElem?_cons_succ, List.set_cons_zero, List.set_cons_succ, Option.some.injEq, exists_eq_left', exists_eq_left, List.map_cons, List.map_nil, List.length_cons, List.length_nil, List.replicate_succ, List.replicate_zero, List.cons_append, List.nil_append, List.zip_cons_cons, List.zip_nil_right, List.foldl_cons, List.foldl_nil, Nat.reduceAdd, Nat.reduceSub, true_and, and_true, ↓reduceIte, Bool.false_eq_true, GL.wFld, GL.wMtd, GL.wMake, GL.wSetFld, GL.wLrg, GL.wTrg, GL.q_dictP, GL.wInd])
local macro_rules | `(tactic| delta $xs* $[$loc]?) => `(tactic| simp only [GL.wB_, GL.wS, GL.wSeq, GL.wRet, GL.w, GL.both, GL.wAndE, GL.wOrE, GL.wSlot, GL.wAs, GL.wCons, GL.wNil, GL.wVal, GL.wB, GL.wCmp, GL.wCmp2, GL.wBin, GL.wUn, GL.wNot, GL.wAnd, GL.wOr, GL.wIfE, GL.wIf, GL.wTup, GL.wLst, GL.wSlc, GL.wNoP, GL.wPart, GL.wO, GL.wC, GL.wI, GL.wG, GL.wGs, GL.wIt, GL.wRange1, GL.wRange2, GL.wEnum, GL.wZip, GL.wgName, GL.wgTup, GL.wgCons, GL.wgNil, GL.wAsg, GL.wDrop, GL.wSkip, GL.wPar, GL.wSetIx, GL.wTru, GL.wFor, GL.wLc, GL.wMth, GL.wCall, GL.wCallK, GL.wPs, GL.wPairs, GL.q_len, GL.q_isi, GL.q_int, GL.q_list, GL.q_tupt, GL.q_tupr, GL.q_all, GL.q_any, GL.q_max2, GL.q_min2, GL.q_sorted, GL.q_stri, GL.q_strs, GL.q_strb, GL.q_repr, GL.q_dict, GL.q_sum, GL.q_addi, GL.q_adds, GL.q_addt, GL.q_addl, GL.q_addb, GL.q_subi, GL.q_subb, GL.q_muls, GL.q_muli, GL.q_divi, GL.q_modi, GL.q_powi, GL.q_negi, GL.q_negb, GL.q_eq, GL.q_ne, GL.q_lti, GL.q_lei, GL.q_gti, GL.q_gei, GL.q_lts, GL.q_ins, GL.q_nins, GL.q_int_, GL.q_inl, GL.q_nint, GL.q_ninl, GL.q_trb, GL.q_tri, GL.q_ixt, GL.q_ixs, GL.q_slt, GL.q_sls, GL.q_revt, GL.ix_lst, GL.q_dct0, GL.ik_non_tup, GL.ik_non_int, GL.ik_non_str, GL.ik_non_lst, GL.ik_non_bl, GL.ik_non_dct, GL.ik_bl_tup, GL.ik_bl_int, GL.ik_bl_str, GL.ik_bl_lst, GL.ik_bl_bl, GL.ik_bl_dct, GL.ik_int_tup, GL.ik_int_int, GL.ik_int_str, GL.ik_int_lst, GL.ik_int_bl, GL.ik_int_dct, GL.ik_str_tup, GL.ik_str_int, GL.ik_str_str, GL.ik_str_lst, GL.ik_str_bl, GL.ik_str_dct, GL.ik_tup_tup, GL.ik_tup_int, GL.ik_tup_str, GL.ik_tup_lst, GL.ik_tup_bl, GL.ik_tup_dct, GL.ik_lst_tup, GL.ik_lst_int, GL.ik_lst_str, GL.ik_lst_lst, GL.ik_lst_bl, GL.ik_lst_dct, GL.ik_dct_tup, GL.ik_dct_int, GL.ik_dct_str, GL.ik_dct_lst, GL.ik_dct_bl, GL.ik_dct_dct, GL.q_st, GL.q_sf, GL.q_lt, List.cons.injEq, GL.at0, GL.at1, GL.at2, GL.q_itt, GL.q_its, GL.q_itr, GL.q_zt, GL.q_zr, GL.srcT, GL.srcL, GL.q_m1, GL.q_m2, GL.q_m3, GL.q_m4, GL.q_m5, GL.q_m6, GL.q_k1, GL.q_k2, GL.q_k3, GL.q_k4, GL.q_k5, exists_and_left, GL.q_ixr, GL.q_ixi, GL.q_setr, GL.q_slr, GL.q_revr, GL.q_kr, GL.q_lr, GL.q_sr, GL.q_vr, GL.put_same, GL.put_put, GL.keyD, GL.wNew, GL.Cell.dct.injEq, GL.Cell.lst.injEq, GL.D.int.injEq, GL.D.str.injEq, GL.D.ref.injEq, GL.D.tup.injEq, reduceCtorEq, false_and, and_false, or_false, false_or, exists_false, exists_const, and_assoc, GL.q_app, GL.q_ext, GL.q_pop, GL.q_get2, GL.q_join, GL.q_upper, GL.GTgs.len, GL.GTg.slots, GL.GTgs.slots, GL.GXs.len, GL.wipeE, List.getElem?_cons_zero, List.getElem?_cons_succ, List.set_cons_zero, List.set_cons_succ, Option.some.injEq, exists_eq_left', exists_eq_left, List.map_cons, List.map_nil, List.length_cons, List.length_nil, List.replicate_succ, List.replicate_zero, List.cons_append, List.nil_append, List.zip_cons_cons, List.zip_nil_right, List.foldl_cons, List.foldl_nil, Nat.reduceAdd, Nat.reduceSub, true_and, and_true, ↓reduceIte, Bool.false_eq_true, GL.wFld, GL.wMtd, GL.wMake, GL.wSetFld, GL.wLrg, GL.wTrg, GL.q_dictP, GL.wInd, $[$xs:ident],*] $[$loc]?)
namespace GL
open PySem K01
/-- a subconcept's role holders are role holders -/
theorem holds_some {m : Wm} {r : Str} {c d : Con} (ok : m.Ok) (h : holds m c d = true) : holds m (.some r c) (.some r d) = true := by
  unfold holds at h ⊢
  rw [List.isEmpty_iff, List.filter_eq_nil_iff] at h ⊢
  intro x hx
  have hs : ∀ y, y ∈ sem m c → y ∈ sem m d := fun y hy => by have := h y hy; simpa using this
  have := (mem_sem (c := .some r c)).mp hx
  simp only [Bool.not_eq_true', decide_eq_false_iff_not, Classical.not_not]
  refine mem_sem.mpr ⟨this.1, ?_⟩
  have q := this.2
  simp only [inC, List.any_eq_true, Bool.and_eq_true, decide_eq_true_eq] at q ⊢
  obtain ⟨p, hp, h1, h2⟩ := q
  exact ⟨p, hp, h1, (mem_sem.mp (hs p.2 (mem_sem.mpr ⟨((m.ties_ok ok r).2 p hp).2, h2⟩))).2⟩
theorem holds_and1 {m : Wm} {c d : Con} : holds m (.and c d) c = true := by
  unfold holds
  rw [List.isEmpty_iff, List.filter_eq_nil_iff]
  intro x hx
  rw [← sem_is_and, List.mem_filter] at hx
  simp [hx.1]
theorem holds_and2 {m : Wm} {c d : Con} : holds m (.and c d) d = true := by
  unfold holds
  rw [List.isEmpty_iff, List.filter_eq_nil_iff]
  intro x hx
  rw [← sem_is_and, List.mem_filter] at hx
  simpa using hx.2
theorem holds_none {m : Wm} {c : Con} : holds m .none c = true := by
  unfold holds
  rw [sem_none]; rfl
theorem holds_all {m : Wm} {c : Con} : holds m c .all = true := by
  unfold holds
  rw [List.isEmpty_iff, List.filter_eq_nil_iff]
  intro x hx
  rw [sem_all]
  simp [Wm.mem_rng.mpr (mem_sem.mp hx).1]
theorem eq_ints {S : Store} (xs : List Int) : eqT (eqF S 60) S (.tup (xs.map D.int)) (.tup (xs.map D.int)) = some true := by
  have e : ∀ xs : List Int, (((xs.map D.int).zip (xs.map D.int)).mapM fun p : D × D => eqF S 60 p.1 p.2) = some (xs.map fun _ => true) := by
    intro xs
    induction xs with
    | nil => rfl
    | cons x xs ih =>
      rw [List.map_cons, List.zip_cons_cons, List.mapM_cons, ih]
      show (do let b ← some (x == x); _) = _
      rw [beq_self_eq_true]; rfl
  unfold eqT vw
  simp only []
  rw [e]
  simp
/-- a loop over the list that a name holds -/
theorem i_ref {T : Tb} {i : Nat} {ρ : Ev} {S : Store} {p : Addr} {ds : List D} {K : Src → Store → Prop} (hp : ρ[i]? = some (some (.ref p))) (hs : S p = some (.lst ds)) (h : K ⟨ds, fun S' => S' p = some (.lst ds)⟩ S) : wI T noW (.ex (.slot i)) ρ S K := by
  simp only [wI, wIt, GL.w, both, wSlot]
  refine ⟨_, hp, ?_⟩
  rw [q_itr]
  exact ⟨ds, hs, h⟩
theorem is_not_self {S : Store} {b : Bool} {Q : Bool → Store → Prop} : cmpD .IsNot (.bl b) (.bl b) S Q = Q false S := by
  show Q (!decide (b = b)) S = _
  rw [decide_eq_true rfl]; rfl
theorem x_turn2 (T : Tb) (H : LH6 T) {ns a w : D} {m : Wm} (mok : m.Ok) {one other : Con} {role : Str} (q1 : CQ one) (q2 : CQ other) (q3 : CQ (.and one other)) (q4 : CQ (.some role one)) (q5 : CQ (.some role other)) {f : Addr} {t : Int} {E : GEnd} {S : Store} {r7 r8 r9 r15 r16 r17 r18 r19 : Option D}
    (hf : S f = some (.lst ([one, other, .and one other, .some role one, .some role other].map (semD m))))
    (hE : ∀ S' r7 r8 r9 r15 r16 r17 r18 r19, Sub S S' → E.nx [some ns, some a, some w, some (.int t), some m.d, some (.str role), some (.ref f), r7, r8, r9, some one.d, some other.d, some (Con.and one other).d, some (Con.some role one).d, some (Con.some role other).d, r15, r16, r17, r18, r19] S') :
    wB_ T noW (bT6.tl 6) E [some ns, some a, some w, some (.int t), some m.d, some (.str role), some (.ref f), r7, r8, r9, some one.d, some other.d, some (Con.and one other).d, some (Con.some role one).d, some (Con.some role other).d, r15, r16, r17, r18, r19] S := by
  obtain ⟨Ft, et, ut⟩ := H.tied
  have mm := mok.m
  have l1 := sem_len m one
  have l4 := sem_len m (.some role one)
  simp only [bT6, b_law, GB.tl, GB.body]
  simp only [List.map_cons, List.map_nil] at hf
  -- the both
  refine b_cut fun B hB => ?_
  delta hf
  unfold semD
  walk_at "gl"
  intro a1 h1
  refine lc_sub h1 (fun _ _ => trivial) (selI fun x => decide (x ∈ sem m other)) _ (le_size (by rw [List.length_map]; omega)) (fun e he S1 K1 K2 s1 k1 k2 => ?_) fun S1 s1 e1 => ?_
  · obtain ⟨x, hx, rfl⟩ := List.mem_map.mp he
    have hf1 := s1 _ _ hf
    delta hf1
    unfold semD
    walk_at "gl"
    refine ⟨_, _, rfl, _, in_ints _, ?_⟩
    rw [any_in]
    cases hb : decide (x ∈ sem m other) with
    | true => exact k1 _ _ (selI_t hb) (Sub.refl S1)
    | false => exact k2 _ (selI_f hb) (Sub.refl S1)
  rw [selI_map, sem_is_and] at e1
  refine ⟨_, by rw [e1], true, eq_ints _, ?_⟩
  subst hB
  have hf1 := s1 _ _ hf
  refine b_cut fun B hB => ?_
  delta hf1 et
  refine ⟨_, rfl, ?_⟩
  unfold Wm.d
  delta hf1
  refine ⟨by omega, by omega, fun a2 h2 => ?_⟩
  rw [rng_d]
  have l6 : m.rng.length = m.many := by unfold Wm.rng; rw [List.length_map, List.length_range]
  refine lc_sub h2 (fun _ _ => trivial) (selI fun x => tiedTo m role x (sem m one)) _ (le_size (by rw [List.length_map]; omega)) (fun e he S2 K1 K2 s2 k1 k2 => ?_) fun S2 s2 e2 => ?_
  · obtain ⟨x, hx, rfl⟩ := List.mem_map.mp he
    have hf2 := s2 _ _ hf1
    delta hf2 et
    exact use2 ut rfl ⟨m, role, x, sem m one, rfl, mok, fun S3 s3 => by
      walk_at "gl"
      cases hb : tiedTo m role x (sem m one) with
      | true => exact k1 _ _ (selI_t (p := fun x => tiedTo m role x (sem m one)) hb) s3
      | false => exact k2 _ (selI_f (p := fun x => tiedTo m role x (sem m one)) hb) s3⟩
  rw [selI_map, tied_sem mok] at e2
  refine ⟨_, by rw [e2], true, eq_ints _, ?_⟩
  subst hB
  have hf2 := s2 _ _ hf1
  refine b_cut fun B hB => ?_
  delta hf2
  unfold semD
  walk_at "gl"
  intro a3 h3
  refine lc_sub h3 (fun _ _ => trivial) (selI fun x => !decide (x ∈ sem m other)) _ (le_size (by rw [List.length_map]; omega)) (fun e he S3 K1 K2 s3 k1 k2 => ?_) fun S3 s3 e3 => ?_
  · obtain ⟨x, hx, rfl⟩ := List.mem_map.mp he
    have hf3 := s3 _ _ hf2
    delta hf3
    unfold semD
    walk_at "gl"
    refine ⟨_, _, rfl, _, in_ints _, ?_⟩
    rw [any_in]
    cases hb : decide (x ∈ sem m other) with
    | true => exact k2 _ (selI_f (p := fun x => !decide (x ∈ sem m other)) (by simp only [hb]; rfl)) (Sub.refl S3)
    | false => exact k1 _ _ (selI_t (p := fun x => !decide (x ∈ sem m other)) (by simp only [hb]; rfl)) (Sub.refl S3)
  rw [selI_map] at e3
  refine ⟨by decide, fun a4 h4 => ⟨_, eq_nil (by rw [put_ne (by rintro rfl; rw [e3] at h4; cases h4)]; exact e3) put_same, ?_⟩⟩
  have s4 := Sub.new (c := .lst []) h4
  rw [List.isEmpty_map]
  subst hB
  have hf4 := s4 _ _ (s3 _ _ hf2)
  generalize hS4 : put S3 a4 (.lst []) = S4 at s4 hf4 ⊢
  refine b_cut fun B hB => ?_
  walk_at "gl"
  refine ⟨by decide, by decide, by decide, by decide, by decide, by decide, by decide, by decide, fun g hg => ?_⟩
  have er : [D.tup [one.d, other.d, D.bl (List.filter (fun x => !decide (x ∈ sem m other)) (sem m one)).isEmpty], D.tup [(one.and other).d, one.d, D.bl true], D.tup [(one.and other).d, other.d, D.bl true], D.tup [D.tup [D.str (Str.ofString "none")], one.d, D.bl true], D.tup [other.d, D.tup [D.str (Str.ofString "all")], D.bl true]] = [(one, other), (one.and other, one), (one.and other, other), (.none, one), (other, .all)].map (rowD m) := by
    simp only [List.map_cons, List.map_nil, rowD, holds_and1, holds_and2, holds_none, holds_all]
    rfl
  rw [er]
  subst hB
  have s5 := Sub.new (c := .lst ([(one, other), (one.and other, one), (one.and other, other), (Con.none, one), (other, Con.all)].map (rowD m))) hg
  have hf5 := s5 _ _ hf4
  have hg5 : put S4 g (.lst ([(one, other), (one.and other, one), (one.and other, other), (Con.none, one), (other, Con.all)].map (rowD m))) g = _ := put_same
  generalize put S4 g _ = S5 at s5 hf5 hg5 ⊢
  refine b_cut fun B hB => ?_
  delta hf5 hg5
  refine ⟨_, rfl, ?_⟩
  unfold semD
  walk_at "gl"
  intro a6 h6
  refine lc_sub h6 (fun _ _ => trivial) (selI fun x => !decide (x ∈ sem m (.some role other))) _ (le_size (by rw [List.length_map]; have := sem_len m (.some role one); omega)) (fun e he S6 K1 K2 s6 k1 k2 => ?_) fun S6 s6 e6 => ?_
  · obtain ⟨x, hx, rfl⟩ := List.mem_map.mp he
    have hf6 := s6 _ _ hf5
    delta hf6
    refine ⟨_, rfl, ?_⟩
    unfold semD
    walk_at "gl"
    refine ⟨_, _, rfl, _, in_ints _, ?_⟩
    rw [any_in]
    cases hb : decide (x ∈ sem m (.some role other)) with
    | true => exact k2 _ (selI_f (p := fun x => !decide (x ∈ sem m (.some role other))) (by simp only [hb]; rfl)) (Sub.refl S6)
    | false => exact k1 _ _ (selI_t (p := fun x => !decide (x ∈ sem m (.some role other))) (by simp only [hb]; rfl)) (Sub.refl S6)
  rw [selI_map] at e6
  refine ⟨by decide, fun a7 h7 => ⟨_, eq_nil (by rw [put_ne (by rintro rfl; rw [e6] at h7; cases h7)]; exact e6) put_same, ?_⟩⟩
  have s7 := Sub.new (c := .lst []) h7
  rw [List.isEmpty_map]
  have hg7 := s7 _ _ (s6 _ _ hg5)
  have sS7 := ((((((s1.trans s2).trans s3).trans s4).trans s5).trans s6).trans s7)
  generalize put S6 a7 (.lst []) = S7 at s7 hg7 sS7 ⊢
  delta hg7
  refine ⟨by decide, by decide, ?_⟩
  have er2 : [rowD m (one, other), rowD m (one.and other, one), rowD m (one.and other, other), rowD m (Con.none, one), rowD m (other, Con.all), D.tup [(Con.some role one).d, (Con.some role other).d, D.bl (List.filter (fun x => !decide (x ∈ sem m (Con.some role other))) (sem m (Con.some role one))).isEmpty]] = [(one, other), (one.and other, one), (one.and other, other), (Con.none, one), (other, Con.all), (Con.some role one, Con.some role other)].map (rowD m) := rfl
  rw [er2]
  subst hB
  have sS8 : Sub S (put S7 g (.lst ([(one, other), (one.and other, one), (one.and other, other), (Con.none, one), (other, Con.all), (Con.some role one, Con.some role other)].map (rowD m)))) := fun x c e => by
    rw [put_ne (by rintro rfl; have := (((s1.trans s2).trans s3).trans s4) _ _ e; rw [hg] at this; cases this)]
    exact sS7 x c e
  have hg8 : put S7 g (.lst ([(one, other), (one.and other, one), (one.and other, other), (Con.none, one), (other, Con.all), (Con.some role one, Con.some role other)].map (rowD m))) g = _ := put_same
  generalize put S7 g _ = S8 at sS8 hg8 ⊢
  refine b_for (i_ref rfl hg8 ?_)
  refine x_rows T H mok (rows := [(one, other), (one.and other, one), (one.and other, other), (Con.none, one), (other, Con.all), (Con.some role one, Con.some role other)]) ?_ hg8 fun S9 r15 r16 r17 r18 s9 => ?_
  · intro p hp
    have qn : CQ Con.none := ⟨trivial, by decide, by decide⟩
    have qa : CQ Con.all := ⟨trivial, by decide, by decide⟩
    simp only [List.mem_cons, List.not_mem_nil, or_false] at hp
    rcases hp with rfl | rfl | rfl | rfl | rfl | rfl
    · exact ⟨q1, q2⟩
    · exact ⟨q3, q1⟩
    · exact ⟨q3, q2⟩
    · exact ⟨qn, q1⟩
    · exact ⟨q2, qa⟩
    · exact ⟨q4, q5⟩
  have hg9 := s9 _ _ hg8
  delta hg9
  have fin := hE S9 r7 (some (.bl (List.filter (fun x => !decide (x ∈ sem m other)) (sem m one)).isEmpty)) (some (.ref g)) r15 r16 r17 r18 r19 (sS8.trans s9)
  split
  · rename_i hh
    have hs : holds m (.some role one) (.some role other) = true := holds_some mok hh
    refine ⟨_, rfl, ?_⟩
    unfold rowD
    simp only [hs]
    walk_at "gl"
    rw [is_not_self]
    walk_at "gl"
    exact fin
  · exact fin
end GL
end

-- W6q
section
local macro_rules | `(tactic| walk_at "gl") => `(tactic| simp only [GL.wB_, GL.wS, GL.wSeq, GL.wRet, GL.w, GL.both, GL.wAndE, GL.wOrE, GL.wSlot, GL.wAs, GL.wCons, GL.wNil, GL.wVal, GL.wB, GL.wCmp, GL.wCmp2, GL.wBin, GL.wUn, GL.wNot, GL.wAnd, GL.wOr, GL.wIfE, GL.wIf, GL.wTup, GL.wLst, GL.wSlc, GL.wNoP, GL.wPart, GL.wO, GL.wC, GL.wI, GL.wG, GL.wGs, GL.wIt, GL.wRange1, GL.wRange2, GL.wEnum, GL.wZip, GL.wgName, GL.wgTup, GL.wgCons, GL.wgNil, GL.wAsg, GL.wDrop, GL.wSkip, GL.wPar, GL.wSetIx, GL.wTru, GL.wFor, GL.wLc, GL.wMth, GL.wCall, GL.wCallK, GL.wPs, GL.wPairs, GL.q_len, GL.q_isi, GL.q_int, GL.q_list, GL.q_tupt, GL.q_tupr, GL.q_all, GL.q_any, GL.q_max2, GL.q_min2, GL.q_sorted, GL.q_stri, GL.q_strs, GL.q_strb, GL.q_repr, GL.q_dict, GL.q_sum, GL.q_addi, GL.q_adds, GL.q_addt, GL.q_addl, GL.q_addb, GL.q_subi, GL.q_subb, GL.q_muls, GL.q_muli, GL.q_divi, GL.q_modi, GL.q_powi, GL.q_negi, GL.q_negb, GL.q_eq, GL.q_ne, GL.q_lti, GL.q_lei, GL.q_gti, GL.q_gei, GL.q_lts, GL.q_ins, GL.q_nins, GL.q_int_, GL.q_inl, GL.q_nint, GL.q_ninl, GL.q_trb, GL.q_tri, GL.q_ixt, GL.q_ixs, GL.q_slt, GL.q_sls, GL.q_revt, GL.ix_lst, GL.q_dct0, GL.ik_non_tup, GL.ik_non_int, GL.ik_non_str, GL.ik_non_lst, GL.ik_non_bl, GL.ik_non_dct, GL.ik_bl_tup, GL.ik_bl_int, GL.ik_bl_str, GL.ik_bl_lst, GL.ik_bl_bl, GL.ik_bl_dct, GL.ik_int_tup, GL.ik_int_int, GL.ik_int_str, GL.ik_int_lst, GL.ik_int_bl, GL.ik_int_dct, GL.ik_str_tup, GL.ik_str_int, GL.ik_str_str, GL.ik_str_lst, GL.ik_str_bl, GL.ik_str_dct, GL.ik_tup_tup, GL.ik_tup_int, GL.ik_tup_str, GL.ik_tup_lst, GL.ik_tup_bl, GL.ik_tup_dct, GL.ik_lst_tup, GL.ik_lst_int, GL.ik_lst_str, GL.ik_lst_lst, GL.ik_lst_bl, GL.ik_lst_dct, GL.ik_dct_tup, GL.ik_dct_int, GL.ik_dct_str, GL.ik_dct_lst, GL.ik_dct_bl, GL.ik_dct_dct, GL.q_st, GL.q_sf, GL.q_lt, List.cons.injEq, GL.at0, GL.at1, GL.at2, GL.q_itt, GL.q_its, GL.q_itr, GL.q_zt, GL.q_zr, GL.srcT, GL.srcL, GL.q_m1, GL.q_m2, GL.q_m3, GL.q_m4, GL.q_m5, GL.q_m6, GL.q_k1, GL.q_k2, GL.q_k3, GL.q_k4, GL.q_k5, exists_and_left, GL.q_ixr, GL.q_ixi, GL.q_setr, GL.q_slr, GL.q_revr, GL.q_kr, GL.q_lr, GL.q_sr, GL.q_vr, GL.put_same, GL.put_put, GL.keyD, GL.wNew, GL.Cell.dct.injEq, GL.Cell.lst.injEq, GL.D.int.injEq, GL.D.str.injEq, GL.D.ref.injEq, GL.D.tup.injEq, reduceCtorEq, false_and, and_false, or_false, false_or, exists_false, exists_const, and_assoc, GL.q_app, GL.q_ext, GL.q_pop, GL.q_get2, GL.q_join, GL.q_upper, GL.GTgs.len, GL.GTg.slots, GL.GTgs.slots, GL.GXs.len, GL.wipeE, List.getElem?_cons_zero, List.getElem?_cons_succ, List.set_cons_zero, List.set_cons_succ, Option.some.injEq, exists_eq_left', exists_eq_left, List.map_cons, List.map_nil, List.length_cons, List.length_nil, List.replicate_succ, List.replicate_zero, List.cons_append, List.nil_append, List.zip_cons_cons, List.zip_nil_right, List.foldl_cons, List.foldl_nil, Nat.reduceAdd, Nat.reduceSub, true_and, and_true, ↓reduceIte, Bool.false_eq_true, GL.wFld, GL.wMtd, GL.wMake, GL.wSetFld, GL.wLrg, GL.wTrg, GL.q_dictP, GL.wInd])
local macro_rules | `(tactic| delta $xs* $[$loc]?) => `(tactic| simp only [GL.wB_, GL.wS, GL.wSeq, GL.wRet, GL.w, GL.both, GL.wAndE, GL.wOrE, GL.wSlot, GL.wAs, GL.wCons, GL.wNil, GL.wVal, GL.wB, GL.wCmp, GL.wCmp2, GL.wBin, GL.wUn, GL.wNot, GL.wAnd, GL.wOr, GL.wIfE, GL.wIf, GL.wTup, GL.wLst, GL.wSlc, GL.wNoP, GL.wPart, GL.wO, GL.wC, GL.wI, GL.wG, GL.wGs, GL.wIt, GL.wRange1, GL.wRange2, GL.wEnum, GL.wZip, GL.wgName, GL.wgTup, GL.wgCons, GL.wgNil, GL.wAsg, GL.wDrop, GL.wSkip, GL.wPar, GL.wSetIx, GL.wTru, GL.wFor, GL.wLc, GL.wMth, GL.wCall, GL.wCallK, GL.wPs, GL.wPairs, GL.q_len, GL.q_isi, GL.q_int, GL.q_list, GL.q_tupt, GL.q_tupr, GL.q_all, GL.q_any, GL.q_max2, GL.q_min2, GL.q_sorted, GL.q_stri, GL.q_strs, GL.q_strb, GL.q_repr, GL.q_dict, GL.q_sum, GL.q_addi, GL.q_adds, GL.q_addt, GL.q_addl, GL.q_addb, GL.q_subi, GL.q_subb, GL.q_muls, GL.q_muli, GL.q_divi, GL.q_modi, GL.q_powi, GL.q_negi, GL.q_negb, GL.q_eq, GL.q_ne, GL.q_lti, GL.q_lei, GL.q_gti, GL.q_gei, GL.q_lts, GL.q_ins, GL.q_nins, GL.q_int_, GL.q_inl, GL.q_nint, GL.q_ninl, GL.q_trb, GL.q_tri, GL.q_ixt, GL.q_ixs, GL.q_slt, GL.q_sls, GL.q_revt, GL.ix_lst, GL.q_dct0, GL.ik_non_tup, GL.ik_non_int, GL.ik_non_str, GL.ik_non_lst, GL.ik_non_bl, GL.ik_non_dct, GL.ik_bl_tup, GL.ik_bl_int, GL.ik_bl_str, GL.ik_bl_lst, GL.ik_bl_bl, GL.ik_bl_dct, GL.ik_int_tup, GL.ik_int_int, GL.ik_int_str, GL.ik_int_lst, GL.ik_int_bl, GL.ik_int_dct, GL.ik_str_tup, GL.ik_str_int, GL.ik_str_str, GL.ik_str_lst, GL.ik_str_bl, GL.ik_str_dct, GL.ik_tup_tup, GL.ik_tup_int, GL.ik_tup_str, GL.ik_tup_lst, GL.ik_tup_bl, GL.ik_tup_dct, GL.ik_lst_tup, GL.ik_lst_int, GL.ik_lst_str, GL.ik_lst_lst, GL.ik_lst_bl, GL.ik_lst_dct, GL.ik_dct_tup, GL.ik_dct_int, GL.ik_dct_str, GL.ik_dct_lst, GL.ik_dct_bl, GL.ik_dct_dct, GL.q_st, GL.q_sf, GL.q_lt, List.cons.injEq, GL.at0, GL.at1, GL.at2, GL.q_itt, GL.q_its, GL.q_itr, GL.q_zt, GL.q_zr, GL.srcT, GL.srcL, GL.q_m1, GL.q_m2, GL.q_m3, GL.q_m4, GL.q_m5, GL.q_m6, GL.q_k1, GL.q_k2, GL.q_k3, GL.q_k4, GL.q_k5, exists_and_left, GL.q_ixr, GL.q_ixi, GL.q_setr, GL.q_slr, GL.q_revr, GL.q_kr, GL.q_lr, GL.q_sr, GL.q_vr, GL.put_same, GL.put_put, GL.keyD, GL.wNew, GL.Cell.dct.injEq, GL.Cell.lst.injEq, GL.D.int.injEq, GL.D.str.injEq, GL.D.ref.injEq, GL.D.tup.injEq, reduceCtorEq, false_and, and_false, or_false, false_or, exists_false, exists_const, and_assoc, GL.q_app, GL.q_ext, GL.q_pop, GL.q_get2, GL.q_join, GL.q_upper, GL.GTgs.len, GL.GTg.slots, GL.GTgs.slots, GL.GXs.len, GL.wipeE, List.getElem?_cons_zero, List.getElem?_cons_succ, List.set_cons_zero, List.set_cons_succ, Option.some.injEq, exists_eq_left', exists_eq_left, List.map_cons, List.map_nil, List.length_cons, List.length_nil, List.replicate_succ, List.replicate_zero, List.cons_append, List.nil_append, List.zip_cons_cons, List.zip_nil_right, List.foldl_cons, List.foldl_nil, Nat.reduceAdd, Nat.reduceSub, true_and, and_true, ↓reduceIte, Bool.false_eq_true, GL.wFld, GL.wMtd, GL.wMake, GL.wSetFld, GL.wLrg, GL.wTrg, GL.q_dictP, GL.wInd, $[$xs:ident],*] $[$loc]?)
namespace GL
open PySem K01
/-- a concept that is drawn -/
structure CT (c : Con) : Prop where
  ok : c.ok
  n : c.nodes ≤ 200
  d : c.dep ≤ 12
theorem x_turn (T : Tb) (H : LH6 T) {ns : D} {a b w : Addr} {xs : List Str} {t : Int} {E : GEnd} {S : Store} {r4 r5 r6 r7 r8 r9 r10 r11 r12 r13 r14 r15 r16 r17 r18 r19 : Option D} (hD : Dk S a b) (hW : Wd S a b w xs) (h4 : xs.length = 4)
    (hE : ∀ S' r4 r5 r6 r7 r8 r9 r10 r11 r12 r13 r14 r15 r16 r17 r18 r19, Dk S' a b → Wd S' a b w xs → E.nx [some ns, some (.ref a), some (.ref w), some (.int t), r4, r5, r6, r7, r8, r9, r10, r11, r12, r13, r14, r15, r16, r17, r18, r19] S') :
    wB_ T noW bT6 E [some ns, some (.ref a), some (.ref w), some (.int t), r4, r5, r6, r7, r8, r9, r10, r11, r12, r13, r14, r15, r16, r17, r18, r19] S := by
  obtain ⟨Fw, ew, uw⟩ := H.world
  obtain ⟨Fc, ec, uc⟩ := H.cpt
  obtain ⟨Fl, el, ul⟩ := H.long
  obtain ⟨Fp, ep, up⟩ := H.pick
  simp only [bT6, b_law, GB.tl, GB.body]
  have w0 := hW.at_
  -- the world
  refine b_cut fun B hB => ?_
  delta ew w0
  intro p hp
  rw [slice3]
  obtain ⟨pa, pb⟩ := hD.ne_new hp
  have s1 := Sub.new (c := .lst ((xs.take 3).map D.str)) hp
  have hW3 : Wd (GL.put S p (.lst ((xs.take 3).map D.str))) a b p (xs.take 3) := ⟨⟨pa, pb⟩, put_same, (by intro z; have := congrArg List.length z; rw [List.length_take, h4] at this; cases this), (by rw [List.length_take]; omega), fun x hx => hW.sh x (List.mem_of_mem_take hx), hW.nd.sublist (List.take_sublist ..)⟩
  refine use2 uw rfl ⟨a, b, p, xs.take 3, 6, rfl, by decide, hW3, by rw [List.length_take]; omega, hD.sub s1, fun m S2 mok D2 F2 => ?_⟩
  have W2 := (hW.fr s1.fr).fr F2
  subst hB
  -- two concepts
  refine b_cut fun B hB => ?_
  delta ec el
  have fin : ∀ (one other : Con) (S3 : Store), CT one → CT other → Dk S3 a b → Fr a b S2 S3 → wB_ T noW (bT6.tl 2) E [some ns, some (.ref a), some (.ref w), some (.int t), some m.d, r5, r6, r7, r8, r9, some one.d, some other.d, r12, r13, r14, r15, r16, r17, r18, r19] S3 := by
    intro one other S3 q1 q2 D3 F3
    have W3 := W2.fr F3
    simp only [bT6, b_law, GB.tl, GB.body]
    refine b_cut fun B hB => ?_
    delta ep
    refine use2 up rfl ⟨a, b, w, xs.map .str, rfl, W3.ne, W3.at_, by simpa using W3.some_, by rw [List.length_map]; have := W3.few; omega, D3, fun d hd S4 D4 F4 => ?_⟩
    obtain ⟨role, hr, rfl⟩ := List.mem_map.mp hd
    subst hB
    refine b_cut fun B hB => ?_
    walk_at "gl"
    refine ⟨by decide, by decide, by decide, ?_⟩
    subst hB
    refine b_cut fun B hB => ?_
    walk_at "gl"
    refine ⟨by decide, fun f hf => ?_⟩
    subst hB
    have s5 := Sub.new (c := .lst []) hf
    have hf5 : put S4 f (.lst []) f = _ := put_same
    generalize put S4 f (.lst []) = S5 at s5 hf5 ⊢
    have cc : ∀ c ∈ [one, other, one.and other, Con.some role one, Con.some role other], CQ c := by
      have q1n := q1.n
      have q2n := q2.n
      have q1d := q1.d
      have q2d := q2.d
      intro c hc
      simp only [List.mem_cons, List.not_mem_nil, or_false] at hc
      rcases hc with rfl | rfl | rfl | rfl | rfl
      · exact ⟨q1.ok, by omega, by omega⟩
      · exact ⟨q2.ok, by omega, by omega⟩
      · exact ⟨⟨q1.ok, q2.ok⟩, by simp only [Con.nodes]; omega, by simp only [Con.dep]; omega⟩
      · exact ⟨⟨hW.sh _ hr, q1.ok⟩, by simp only [Con.nodes]; omega, by simp only [Con.dep]; omega⟩
      · exact ⟨⟨hW.sh _ hr, q2.ok⟩, by simp only [Con.nodes]; omega, by simp only [Con.dep]; omega⟩
    refine b_for (i_tup ?_)
    refine as_slot (d := one.d) rfl (as_slot (d := other.d) rfl (as_slot (d := (one.and other).d) rfl (as_slot (d := (Con.some role one).d) rfl (as_slot (d := (Con.some role other).d) rfl (as_nil ⟨by simp only [List.length_cons, List.length_nil]; decide, ?_⟩)))))
    refine x_concepts T H mok (r4 := none) (cs := [one, other, one.and other, Con.some role one, Con.some role other]) (done := []) cc (by simp only [List.length_cons, List.length_nil]; omega) hf5 fun S6 r7 r15 hf6 fr6 => ?_
    have s6 : Sub S4 S6 := fun x c e => fr6 x c (by rintro rfl; rw [hf] at e; cases e) (s5 x c e)
    have D6 := D4.sub s6
    have F6 := ((F3.trans F4).trans s6.fr)
    refine x_turn2 T H mok (cc _ (by simp)) (cc _ (by simp)) (cc _ (by simp)) (cc _ (by simp)) (cc _ (by simp)) hf6 fun S7 r7 r8 r9 r15 r16 r17 r18 r19 s7 => ?_
    exact hE _ _ _ _ _ _ _ _ _ _ _ _ _ _ _ _ _ (D6.sub s7) (W2.fr (F6.trans s7.fr))
  subst hB
  refine use2 uc rfl ⟨a, b, w, xs, 3, rfl, by decide, W2, D2, fun c S3 c1 c2 c3 D3 F3 => ?_⟩
  have k1 : CT c := ⟨c1, Nat.le_trans c3 (by decide), by omega⟩
  split
  · refine use2 uc rfl ⟨a, b, w, xs, 3, rfl, by decide, W2.fr F3, D3, fun d S4 d1 d2 d3 D4 F4 => ?_⟩
    exact fin c d S4 k1 ⟨d1, Nat.le_trans d3 (by decide), by omega⟩ D4 (F3.trans F4)
  · refine use2 ul rfl ⟨a, b, w, xs, rfl, W2.fr F3, D3, fun d S4 d1 d2 d3 D4 F4 => ?_⟩
    exact fin c d S4 k1 ⟨d1, by omega, by omega⟩ D4 (F3.trans F4)
/-- the law -/
def cLaw : GC0 := fun args S Q => ∃ ns : List Int, args = [.frl (ns.map D.int)] ∧ ns.length ≤ 63 ∧ ∀ S', Q (.bl true) S'
theorem y_law (T : Tb) (H : LH6 T) (args : List D) (S : Store) (Q : GQ) (h : cLaw args S Q) : wB_ T noW b_law (fnEnd Q) (initE N_law args) S := by
  obtain ⟨ns, rfl, hl, h⟩ := h
  obtain ⟨Fk, ek, uk⟩ := H.deck
  obtain ⟨Fw, ew, uw⟩ := H.words
  have hr : initE N_law [.frl (ns.map D.int)] = [some (.frl (ns.map D.int)), none, none, none, none, none, none, none, none, none, none, none, none, none, none, none, none, none, none, none] := rfl
  rw [hr]
  have hb : b_law = .cons (.set (.name 1) (.call "_law_deck" (.cons (.slot 0) .nil))) (.cons (.set (.name 2) (.call "_law_words" (.cons (.slot 1) (.cons (.int 4) .nil)))) (.cons (.for_ (.name 3) (.range1 (.int 4)) bT6) (.cons (.ret (.bl true)) .nil))) := rfl
  rw [hb]
  refine b_set (e_call ek ?_)
  refine as_slot (d := .frl (ns.map D.int)) rfl ?_
  refine as_nil ?_
  refine use2 uk rfl ⟨ns, rfl, hl, fun a b S1 s1 D1 na nb => ?_⟩
  refine b_set (e_call ew ?_)
  refine as_slot (d := .ref a) rfl ?_
  refine as_int ?_
  refine as_nil ?_
  refine use2 uw rfl ⟨a, b, 4, rfl, by decide, D1, fun w xs S2 nw W2 h4 D2 F2 => ?_⟩
  refine b_for (i_range (by decide) (by decide) ?_)
  refine for_inv (fun r ρ S7 => ∃ (s3 r4 r5 r6 r7 r8 r9 r10 r11 r12 r13 r14 r15 r16 r17 r18 r19 : Option D) (ts : List Int), ρ = [some (.frl (ns.map D.int)), some (.ref a), some (.ref w), s3, r4, r5, r6, r7, r8, r9, r10, r11, r12, r13, r14, r15, r16, r17, r18, r19] ∧ r = ts.map D.int ∧ Dk S7 a b ∧ Wd S7 a b w xs) (fun _ _ _ _ => trivial) _ _ _
    ⟨_, _, _, _, _, _, _, _, _, _, _, _, _, _, _, _, _, [0, 1, 2, 3], rfl, rfl, D2, W2⟩ ?_ ?_
  · rintro d r ρ S7 K2 ⟨s3, r4, r5, r6, r7, r8, r9, r10, r11, r12, r13, r14, r15, r16, r17, r18, r19, ts, rfl, hts, D7, W7⟩ hK2
    cases ts with
    | nil => cases hts
    | cons t ts =>
      rw [List.map_cons, List.cons.injEq] at hts
      obtain ⟨rfl, rfl⟩ := hts
      simp only [wG, wgName]
      refine x_turn T H D7 W7 h4 fun S8 r4 r5 r6 r7 r8 r9 r10 r11 r12 r13 r14 r15 r16 r17 r18 r19 D8 W8 => ?_
      exact hK2 _ _ ⟨_, _, _, _, _, _, _, _, _, _, _, _, _, _, _, _, _, ts, rfl, rfl, D8, W8⟩
  · rintro ρ S7 ⟨s3, r4, r5, r6, r7, r8, r9, r10, r11, r12, r13, r14, r15, r16, r17, r18, r19, ts, rfl, _, D7, W7⟩
    show wB_ T noW (.cons (.ret (.bl true)) .nil) (fnEnd Q) [some (.frl (ns.map D.int)), some (.ref a), some (.ref w), s3, r4, r5, r6, r7, r8, r9, r10, r11, r12, r13, r14, r15, r16, r17, r18, r19] S7
    refine b_ret ?_
    delta fnEnd
    exact ⟨S7, fun _ _ z => z, h S7⟩
end GL
end

-- W6z
section
namespace K01
open PySem PySem.Spec PyProof.Rows L2 GL
abbrev c_is_integer : Nat → GC0 := fun _ => cPure1 isInt
def D_is_integer : Df := mkD "is_integer" (top 1) p_is_integer N_is_integer k_is_integer b_is_integer 0 c_is_integer
theorem o_is_integer : CtOk p_is_integer c_is_integer := ⟨fun k args S Q h => by first | (obtain ⟨_, e, _⟩ := h; subst e; rfl) | (obtain ⟨_, _, e, _⟩ := h; subst e; rfl) | (obtain ⟨_, _, _, e, _⟩ := h; subst e; rfl) | (obtain ⟨_, _, _, _, e, _⟩ := h; subst e; rfl) | (obtain ⟨_, _, _, _, _, e, _⟩ := h; subst e; rfl) | (obtain ⟨_, _, _, _, _, _, e, _⟩ := h; subst e; rfl) | (obtain ⟨_, _, _, _, _, _, _, e, _⟩ := h; subst e; rfl) | (obtain ⟨_, _, _, _, _, _, _, _, e, _⟩ := h; subst e; rfl) | (obtain ⟨_, _, _, _, _, _, _, _, _, e, _⟩ := h; subst e; rfl) | (obtain ⟨_, _, _, _, _, _, _, _, _, _, e, _⟩ := h; subst e; rfl) | (obtain ⟨_, _, _, _, _, _, _, _, _, _, _, e, _⟩ := h; subst e; rfl) | (obtain ⟨_, _, _, _, _, _, _, _, _, _, _, _, e, _⟩ := h; subst e; rfl), fun _ _ _ _ _ _ h => h⟩
abbrev c_is_between : Nat → GC0 := fun _ => cBtw
def D_is_between : Df := mkD "is_between" (top 2) p_is_between N_is_between k_is_between b_is_between 1 c_is_between
theorem o_is_between : CtOk p_is_between c_is_between := ⟨fun k args S Q h => by first | (obtain ⟨_, e, _⟩ := h; subst e; rfl) | (obtain ⟨_, _, e, _⟩ := h; subst e; rfl) | (obtain ⟨_, _, _, e, _⟩ := h; subst e; rfl) | (obtain ⟨_, _, _, _, e, _⟩ := h; subst e; rfl) | (obtain ⟨_, _, _, _, _, e, _⟩ := h; subst e; rfl) | (obtain ⟨_, _, _, _, _, _, e, _⟩ := h; subst e; rfl) | (obtain ⟨_, _, _, _, _, _, _, e, _⟩ := h; subst e; rfl) | (obtain ⟨_, _, _, _, _, _, _, _, e, _⟩ := h; subst e; rfl) | (obtain ⟨_, _, _, _, _, _, _, _, _, e, _⟩ := h; subst e; rfl) | (obtain ⟨_, _, _, _, _, _, _, _, _, _, e, _⟩ := h; subst e; rfl) | (obtain ⟨_, _, _, _, _, _, _, _, _, _, _, e, _⟩ := h; subst e; rfl) | (obtain ⟨_, _, _, _, _, _, _, _, _, _, _, _, e, _⟩ := h; subst e; rfl), fun _ _ _ _ _ _ h => h⟩
abbrev c_is_row : Nat → GC0 := fun _ => cRow
def D_is_row : Df := mkD "is_row" (top 3) p_is_row N_is_row k_is_row b_is_row 0 c_is_row
theorem o_is_row : CtOk p_is_row c_is_row := ⟨fun k args S Q h => by first | (obtain ⟨_, e, _⟩ := h; subst e; rfl) | (obtain ⟨_, _, e, _⟩ := h; subst e; rfl) | (obtain ⟨_, _, _, e, _⟩ := h; subst e; rfl) | (obtain ⟨_, _, _, _, e, _⟩ := h; subst e; rfl) | (obtain ⟨_, _, _, _, _, e, _⟩ := h; subst e; rfl) | (obtain ⟨_, _, _, _, _, _, e, _⟩ := h; subst e; rfl) | (obtain ⟨_, _, _, _, _, _, _, e, _⟩ := h; subst e; rfl) | (obtain ⟨_, _, _, _, _, _, _, _, e, _⟩ := h; subst e; rfl) | (obtain ⟨_, _, _, _, _, _, _, _, _, e, _⟩ := h; subst e; rfl) | (obtain ⟨_, _, _, _, _, _, _, _, _, _, e, _⟩ := h; subst e; rfl) | (obtain ⟨_, _, _, _, _, _, _, _, _, _, _, e, _⟩ := h; subst e; rfl) | (obtain ⟨_, _, _, _, _, _, _, _, _, _, _, _, e, _⟩ := h; subst e; rfl), fun _ _ _ _ _ _ h => h⟩
abbrev c_are_rising : Nat → GC0 := fun _ => cRise
def D_are_rising : Df := mkD "are_rising" (top 4) p_are_rising N_are_rising k_are_rising b_are_rising 0 c_are_rising
theorem o_are_rising : CtOk p_are_rising c_are_rising := ⟨fun k args S Q h => by first | (obtain ⟨_, e, _⟩ := h; subst e; rfl) | (obtain ⟨_, _, e, _⟩ := h; subst e; rfl) | (obtain ⟨_, _, _, e, _⟩ := h; subst e; rfl) | (obtain ⟨_, _, _, _, e, _⟩ := h; subst e; rfl) | (obtain ⟨_, _, _, _, _, e, _⟩ := h; subst e; rfl) | (obtain ⟨_, _, _, _, _, _, e, _⟩ := h; subst e; rfl) | (obtain ⟨_, _, _, _, _, _, _, e, _⟩ := h; subst e; rfl) | (obtain ⟨_, _, _, _, _, _, _, _, e, _⟩ := h; subst e; rfl) | (obtain ⟨_, _, _, _, _, _, _, _, _, e, _⟩ := h; subst e; rfl) | (obtain ⟨_, _, _, _, _, _, _, _, _, _, e, _⟩ := h; subst e; rfl) | (obtain ⟨_, _, _, _, _, _, _, _, _, _, _, e, _⟩ := h; subst e; rfl) | (obtain ⟨_, _, _, _, _, _, _, _, _, _, _, _, e, _⟩ := h; subst e; rfl), fun _ _ _ _ _ _ h => h⟩
abbrev c_is_kind : Nat → GC0 := fun _ => cKind
def D_is_kind : Df := mkD "is_kind" (top 5) p_is_kind N_is_kind k_is_kind b_is_kind 1 c_is_kind
theorem o_is_kind : CtOk p_is_kind c_is_kind := ⟨fun k args S Q h => by first | (obtain ⟨_, e, _⟩ := h; subst e; rfl) | (obtain ⟨_, _, e, _⟩ := h; subst e; rfl) | (obtain ⟨_, _, _, e, _⟩ := h; subst e; rfl) | (obtain ⟨_, _, _, _, e, _⟩ := h; subst e; rfl) | (obtain ⟨_, _, _, _, _, e, _⟩ := h; subst e; rfl) | (obtain ⟨_, _, _, _, _, _, e, _⟩ := h; subst e; rfl) | (obtain ⟨_, _, _, _, _, _, _, e, _⟩ := h; subst e; rfl) | (obtain ⟨_, _, _, _, _, _, _, _, e, _⟩ := h; subst e; rfl) | (obtain ⟨_, _, _, _, _, _, _, _, _, e, _⟩ := h; subst e; rfl) | (obtain ⟨_, _, _, _, _, _, _, _, _, _, e, _⟩ := h; subst e; rfl) | (obtain ⟨_, _, _, _, _, _, _, _, _, _, _, e, _⟩ := h; subst e; rfl) | (obtain ⟨_, _, _, _, _, _, _, _, _, _, _, _, e, _⟩ := h; subst e; rfl), fun _ _ _ _ _ _ h => h⟩
abbrev c_is_word_value : Nat → GC0 := fun _ => cPure1 isWord
def D_is_word_value : Df := mkD "is_word_value" (top 19) p_is_word_value N_is_word_value k_is_word_value b_is_word_value 0 c_is_word_value
theorem o_is_word_value : CtOk p_is_word_value c_is_word_value := ⟨fun k args S Q h => by first | (obtain ⟨_, e, _⟩ := h; subst e; rfl) | (obtain ⟨_, _, e, _⟩ := h; subst e; rfl) | (obtain ⟨_, _, _, e, _⟩ := h; subst e; rfl) | (obtain ⟨_, _, _, _, e, _⟩ := h; subst e; rfl) | (obtain ⟨_, _, _, _, _, e, _⟩ := h; subst e; rfl) | (obtain ⟨_, _, _, _, _, _, e, _⟩ := h; subst e; rfl) | (obtain ⟨_, _, _, _, _, _, _, e, _⟩ := h; subst e; rfl) | (obtain ⟨_, _, _, _, _, _, _, _, e, _⟩ := h; subst e; rfl) | (obtain ⟨_, _, _, _, _, _, _, _, _, e, _⟩ := h; subst e; rfl) | (obtain ⟨_, _, _, _, _, _, _, _, _, _, e, _⟩ := h; subst e; rfl) | (obtain ⟨_, _, _, _, _, _, _, _, _, _, _, e, _⟩ := h; subst e; rfl) | (obtain ⟨_, _, _, _, _, _, _, _, _, _, _, _, e, _⟩ := h; subst e; rfl), fun _ _ _ _ _ _ h => h⟩
abbrev c_is_concept_value : Nat → GC0 := cCon
def D_is_concept_value : Df := mkD "is_concept_value" (top 20) p_is_concept_value N_is_concept_value k_is_concept_value b_is_concept_value 2 c_is_concept_value
theorem o_is_concept_value : CtOk p_is_concept_value c_is_concept_value := ⟨fun k args S Q h => by first | (obtain ⟨_, e, _⟩ := h; subst e; rfl) | (obtain ⟨_, _, e, _⟩ := h; subst e; rfl) | (obtain ⟨_, _, _, e, _⟩ := h; subst e; rfl) | (obtain ⟨_, _, _, _, e, _⟩ := h; subst e; rfl) | (obtain ⟨_, _, _, _, _, e, _⟩ := h; subst e; rfl) | (obtain ⟨_, _, _, _, _, _, e, _⟩ := h; subst e; rfl) | (obtain ⟨_, _, _, _, _, _, _, e, _⟩ := h; subst e; rfl) | (obtain ⟨_, _, _, _, _, _, _, _, e, _⟩ := h; subst e; rfl) | (obtain ⟨_, _, _, _, _, _, _, _, _, e, _⟩ := h; subst e; rfl) | (obtain ⟨_, _, _, _, _, _, _, _, _, _, e, _⟩ := h; subst e; rfl) | (obtain ⟨_, _, _, _, _, _, _, _, _, _, _, e, _⟩ := h; subst e; rfl) | (obtain ⟨_, _, _, _, _, _, _, _, _, _, _, _, e, _⟩ := h; subst e; rfl), fun a b args S Q hab ⟨d, m, e, g, hm, k⟩ => ⟨d, m, e, g, by omega, k⟩⟩
abbrev c_need_concept : Nat → GC0 := fun _ => cNeedC 50
def D_need_concept : Df := mkD "need_concept" (top 21) p_need_concept N_need_concept k_need_concept b_need_concept 52 c_need_concept
theorem o_need_concept : CtOk p_need_concept c_need_concept := ⟨fun k args S Q h => by first | (obtain ⟨_, e, _⟩ := h; subst e; rfl) | (obtain ⟨_, _, e, _⟩ := h; subst e; rfl) | (obtain ⟨_, _, _, e, _⟩ := h; subst e; rfl) | (obtain ⟨_, _, _, _, e, _⟩ := h; subst e; rfl) | (obtain ⟨_, _, _, _, _, e, _⟩ := h; subst e; rfl) | (obtain ⟨_, _, _, _, _, _, e, _⟩ := h; subst e; rfl) | (obtain ⟨_, _, _, _, _, _, _, e, _⟩ := h; subst e; rfl) | (obtain ⟨_, _, _, _, _, _, _, _, e, _⟩ := h; subst e; rfl) | (obtain ⟨_, _, _, _, _, _, _, _, _, e, _⟩ := h; subst e; rfl) | (obtain ⟨_, _, _, _, _, _, _, _, _, _, e, _⟩ := h; subst e; rfl) | (obtain ⟨_, _, _, _, _, _, _, _, _, _, _, e, _⟩ := h; subst e; rfl) | (obtain ⟨_, _, _, _, _, _, _, _, _, _, _, _, e, _⟩ := h; subst e; rfl), fun _ _ _ _ _ _ h => h⟩
abbrev c_text_of : Nat → GC0 := cText
def D_text_of : Df := mkD "text_of" (top 22) p_text_of N_text_of k_text_of b_text_of 0 c_text_of
theorem o_text_of : CtOk p_text_of c_text_of := ⟨fun k args S Q h => by first | (obtain ⟨_, e, _⟩ := h; subst e; rfl) | (obtain ⟨_, _, e, _⟩ := h; subst e; rfl) | (obtain ⟨_, _, _, e, _⟩ := h; subst e; rfl) | (obtain ⟨_, _, _, _, e, _⟩ := h; subst e; rfl) | (obtain ⟨_, _, _, _, _, e, _⟩ := h; subst e; rfl) | (obtain ⟨_, _, _, _, _, _, e, _⟩ := h; subst e; rfl) | (obtain ⟨_, _, _, _, _, _, _, e, _⟩ := h; subst e; rfl) | (obtain ⟨_, _, _, _, _, _, _, _, e, _⟩ := h; subst e; rfl) | (obtain ⟨_, _, _, _, _, _, _, _, _, e, _⟩ := h; subst e; rfl) | (obtain ⟨_, _, _, _, _, _, _, _, _, _, e, _⟩ := h; subst e; rfl) | (obtain ⟨_, _, _, _, _, _, _, _, _, _, _, e, _⟩ := h; subst e; rfl) | (obtain ⟨_, _, _, _, _, _, _, _, _, _, _, _, e, _⟩ := h; subst e; rfl), fun i j args S Q hab ⟨c, e, ok, hn, hd, r⟩ => ⟨c, e, ok, hn, by omega, r⟩⟩
abbrev c_is_thing_of : Nat → GC0 := fun _ => cItem isThing
def D_is_thing_of : Df := mkD "is_thing_of" (top 25) p_is_thing_of N_is_thing_of k_is_thing_of b_is_thing_of 2 c_is_thing_of
theorem o_is_thing_of : CtOk p_is_thing_of c_is_thing_of := ⟨fun k args S Q h => by first | (obtain ⟨_, e, _⟩ := h; subst e; rfl) | (obtain ⟨_, _, e, _⟩ := h; subst e; rfl) | (obtain ⟨_, _, _, e, _⟩ := h; subst e; rfl) | (obtain ⟨_, _, _, _, e, _⟩ := h; subst e; rfl) | (obtain ⟨_, _, _, _, _, e, _⟩ := h; subst e; rfl) | (obtain ⟨_, _, _, _, _, _, e, _⟩ := h; subst e; rfl) | (obtain ⟨_, _, _, _, _, _, _, e, _⟩ := h; subst e; rfl) | (obtain ⟨_, _, _, _, _, _, _, _, e, _⟩ := h; subst e; rfl) | (obtain ⟨_, _, _, _, _, _, _, _, _, e, _⟩ := h; subst e; rfl) | (obtain ⟨_, _, _, _, _, _, _, _, _, _, e, _⟩ := h; subst e; rfl) | (obtain ⟨_, _, _, _, _, _, _, _, _, _, _, e, _⟩ := h; subst e; rfl) | (obtain ⟨_, _, _, _, _, _, _, _, _, _, _, _, e, _⟩ := h; subst e; rfl), fun _ _ _ _ _ _ h => h⟩
abbrev c_is_tie : Nat → GC0 := fun _ => cItem isTie
def D_is_tie : Df := mkD "is_tie" (top 26) p_is_tie N_is_tie k_is_tie b_is_tie 3 c_is_tie
theorem o_is_tie : CtOk p_is_tie c_is_tie := ⟨fun k args S Q h => by first | (obtain ⟨_, e, _⟩ := h; subst e; rfl) | (obtain ⟨_, _, e, _⟩ := h; subst e; rfl) | (obtain ⟨_, _, _, e, _⟩ := h; subst e; rfl) | (obtain ⟨_, _, _, _, e, _⟩ := h; subst e; rfl) | (obtain ⟨_, _, _, _, _, e, _⟩ := h; subst e; rfl) | (obtain ⟨_, _, _, _, _, _, e, _⟩ := h; subst e; rfl) | (obtain ⟨_, _, _, _, _, _, _, e, _⟩ := h; subst e; rfl) | (obtain ⟨_, _, _, _, _, _, _, _, e, _⟩ := h; subst e; rfl) | (obtain ⟨_, _, _, _, _, _, _, _, _, e, _⟩ := h; subst e; rfl) | (obtain ⟨_, _, _, _, _, _, _, _, _, _, e, _⟩ := h; subst e; rfl) | (obtain ⟨_, _, _, _, _, _, _, _, _, _, _, e, _⟩ := h; subst e; rfl) | (obtain ⟨_, _, _, _, _, _, _, _, _, _, _, _, e, _⟩ := h; subst e; rfl), fun _ _ _ _ _ _ h => h⟩
abbrev c_are_listed : Nat → GC0 := fun _ => cListed
def D_are_listed : Df := mkD "are_listed" (top 27) p_are_listed N_are_listed k_are_listed b_are_listed 4 c_are_listed
theorem o_are_listed : CtOk p_are_listed c_are_listed := ⟨fun k args S Q h => by first | (obtain ⟨_, e, _⟩ := h; subst e; rfl) | (obtain ⟨_, _, e, _⟩ := h; subst e; rfl) | (obtain ⟨_, _, _, e, _⟩ := h; subst e; rfl) | (obtain ⟨_, _, _, _, e, _⟩ := h; subst e; rfl) | (obtain ⟨_, _, _, _, _, e, _⟩ := h; subst e; rfl) | (obtain ⟨_, _, _, _, _, _, e, _⟩ := h; subst e; rfl) | (obtain ⟨_, _, _, _, _, _, _, e, _⟩ := h; subst e; rfl) | (obtain ⟨_, _, _, _, _, _, _, _, e, _⟩ := h; subst e; rfl) | (obtain ⟨_, _, _, _, _, _, _, _, _, e, _⟩ := h; subst e; rfl) | (obtain ⟨_, _, _, _, _, _, _, _, _, _, e, _⟩ := h; subst e; rfl) | (obtain ⟨_, _, _, _, _, _, _, _, _, _, _, e, _⟩ := h; subst e; rfl) | (obtain ⟨_, _, _, _, _, _, _, _, _, _, _, _, e, _⟩ := h; subst e; rfl), fun _ _ _ _ _ _ h => h⟩
abbrev c_is_list : Nat → GC0 := fun _ => cList
def D_is_list : Df := mkD "is_list" (top 28) p_is_list N_is_list k_is_list b_is_list 5 c_is_list
theorem o_is_list : CtOk p_is_list c_is_list := ⟨fun k args S Q h => by first | (obtain ⟨_, e, _⟩ := h; subst e; rfl) | (obtain ⟨_, _, e, _⟩ := h; subst e; rfl) | (obtain ⟨_, _, _, e, _⟩ := h; subst e; rfl) | (obtain ⟨_, _, _, _, e, _⟩ := h; subst e; rfl) | (obtain ⟨_, _, _, _, _, e, _⟩ := h; subst e; rfl) | (obtain ⟨_, _, _, _, _, _, e, _⟩ := h; subst e; rfl) | (obtain ⟨_, _, _, _, _, _, _, e, _⟩ := h; subst e; rfl) | (obtain ⟨_, _, _, _, _, _, _, _, e, _⟩ := h; subst e; rfl) | (obtain ⟨_, _, _, _, _, _, _, _, _, e, _⟩ := h; subst e; rfl) | (obtain ⟨_, _, _, _, _, _, _, _, _, _, e, _⟩ := h; subst e; rfl) | (obtain ⟨_, _, _, _, _, _, _, _, _, _, _, e, _⟩ := h; subst e; rfl) | (obtain ⟨_, _, _, _, _, _, _, _, _, _, _, _, e, _⟩ := h; subst e; rfl), fun _ _ _ _ _ _ h => h⟩
abbrev c_is_world_value : Nat → GC0 := fun _ => cPure1 isWorld
def D_is_world_value : Df := mkD "is_world_value" (top 29) p_is_world_value N_is_world_value k_is_world_value b_is_world_value 6 c_is_world_value
theorem o_is_world_value : CtOk p_is_world_value c_is_world_value := ⟨fun k args S Q h => by first | (obtain ⟨_, e, _⟩ := h; subst e; rfl) | (obtain ⟨_, _, e, _⟩ := h; subst e; rfl) | (obtain ⟨_, _, _, e, _⟩ := h; subst e; rfl) | (obtain ⟨_, _, _, _, e, _⟩ := h; subst e; rfl) | (obtain ⟨_, _, _, _, _, e, _⟩ := h; subst e; rfl) | (obtain ⟨_, _, _, _, _, _, e, _⟩ := h; subst e; rfl) | (obtain ⟨_, _, _, _, _, _, _, e, _⟩ := h; subst e; rfl) | (obtain ⟨_, _, _, _, _, _, _, _, e, _⟩ := h; subst e; rfl) | (obtain ⟨_, _, _, _, _, _, _, _, _, e, _⟩ := h; subst e; rfl) | (obtain ⟨_, _, _, _, _, _, _, _, _, _, e, _⟩ := h; subst e; rfl) | (obtain ⟨_, _, _, _, _, _, _, _, _, _, _, e, _⟩ := h; subst e; rfl) | (obtain ⟨_, _, _, _, _, _, _, _, _, _, _, _, e, _⟩ := h; subst e; rfl), fun _ _ _ _ _ _ h => h⟩
abbrev c_need_world : Nat → GC0 := fun _ => cNeedW
def D_need_world : Df := mkD "need_world" (top 30) p_need_world N_need_world k_need_world b_need_world 7 c_need_world
theorem o_need_world : CtOk p_need_world c_need_world := ⟨fun k args S Q h => by first | (obtain ⟨_, e, _⟩ := h; subst e; rfl) | (obtain ⟨_, _, e, _⟩ := h; subst e; rfl) | (obtain ⟨_, _, _, e, _⟩ := h; subst e; rfl) | (obtain ⟨_, _, _, _, e, _⟩ := h; subst e; rfl) | (obtain ⟨_, _, _, _, _, e, _⟩ := h; subst e; rfl) | (obtain ⟨_, _, _, _, _, _, e, _⟩ := h; subst e; rfl) | (obtain ⟨_, _, _, _, _, _, _, e, _⟩ := h; subst e; rfl) | (obtain ⟨_, _, _, _, _, _, _, _, e, _⟩ := h; subst e; rfl) | (obtain ⟨_, _, _, _, _, _, _, _, _, e, _⟩ := h; subst e; rfl) | (obtain ⟨_, _, _, _, _, _, _, _, _, _, e, _⟩ := h; subst e; rfl) | (obtain ⟨_, _, _, _, _, _, _, _, _, _, _, e, _⟩ := h; subst e; rfl) | (obtain ⟨_, _, _, _, _, _, _, _, _, _, _, _, e, _⟩ := h; subst e; rfl), fun _ _ _ _ _ _ h => h⟩
abbrev c_Scene_init : Nat → GC0 := fun _ => cInit
def D_Scene_init : Df := mkD "Scene.__init__" (GL.inCls (top 31) 0) p_Scene_init N_Scene_init k_Scene_init b_Scene_init 0 c_Scene_init (some ("Scene", "__init__"))
theorem o_Scene_init : CtOk p_Scene_init c_Scene_init := ⟨fun k args S Q h => by first | (obtain ⟨_, e, _⟩ := h; subst e; rfl) | (obtain ⟨_, _, e, _⟩ := h; subst e; rfl) | (obtain ⟨_, _, _, e, _⟩ := h; subst e; rfl) | (obtain ⟨_, _, _, _, e, _⟩ := h; subst e; rfl) | (obtain ⟨_, _, _, _, _, e, _⟩ := h; subst e; rfl) | (obtain ⟨_, _, _, _, _, _, e, _⟩ := h; subst e; rfl) | (obtain ⟨_, _, _, _, _, _, _, e, _⟩ := h; subst e; rfl) | (obtain ⟨_, _, _, _, _, _, _, _, e, _⟩ := h; subst e; rfl) | (obtain ⟨_, _, _, _, _, _, _, _, _, e, _⟩ := h; subst e; rfl) | (obtain ⟨_, _, _, _, _, _, _, _, _, _, e, _⟩ := h; subst e; rfl) | (obtain ⟨_, _, _, _, _, _, _, _, _, _, _, e, _⟩ := h; subst e; rfl) | (obtain ⟨_, _, _, _, _, _, _, _, _, _, _, _, e, _⟩ := h; subst e; rfl), fun _ _ _ _ _ _ h => h⟩
abbrev c_Scene_things : Nat → GC0 := cThings
def D_Scene_things : Df := mkD "Scene.things" (GL.inCls (top 31) 1) p_Scene_things N_Scene_things k_Scene_things b_Scene_things 40 c_Scene_things (some ("Scene", "things"))
theorem o_Scene_things : CtOk p_Scene_things c_Scene_things := ⟨fun k args S Q h => by first | (obtain ⟨_, e, _⟩ := h; subst e; rfl) | (obtain ⟨_, _, e, _⟩ := h; subst e; rfl) | (obtain ⟨_, _, _, e, _⟩ := h; subst e; rfl) | (obtain ⟨_, _, _, _, e, _⟩ := h; subst e; rfl) | (obtain ⟨_, _, _, _, _, e, _⟩ := h; subst e; rfl) | (obtain ⟨_, _, _, _, _, _, e, _⟩ := h; subst e; rfl) | (obtain ⟨_, _, _, _, _, _, _, e, _⟩ := h; subst e; rfl) | (obtain ⟨_, _, _, _, _, _, _, _, e, _⟩ := h; subst e; rfl) | (obtain ⟨_, _, _, _, _, _, _, _, _, e, _⟩ := h; subst e; rfl) | (obtain ⟨_, _, _, _, _, _, _, _, _, _, e, _⟩ := h; subst e; rfl) | (obtain ⟨_, _, _, _, _, _, _, _, _, _, _, e, _⟩ := h; subst e; rfl) | (obtain ⟨_, _, _, _, _, _, _, _, _, _, _, _, e, _⟩ := h; subst e; rfl), fun i j args S Q hab ⟨p, x, y, z, w, c, N, e, sc, wok, ok, hn, hd, h2, r⟩ => ⟨p, x, y, z, w, c, N, e, sc, wok, ok, hn, hd, by omega, r⟩⟩
abbrev c_Scene_found : Nat → GC0 := cFound
def D_Scene_found : Df := mkD "Scene.found" (GL.inCls (top 31) 2) p_Scene_found N_Scene_found k_Scene_found b_Scene_found 40 c_Scene_found (some ("Scene", "found"))
theorem o_Scene_found : CtOk p_Scene_found c_Scene_found := ⟨fun k args S Q h => by first | (obtain ⟨_, e, _⟩ := h; subst e; rfl) | (obtain ⟨_, _, e, _⟩ := h; subst e; rfl) | (obtain ⟨_, _, _, e, _⟩ := h; subst e; rfl) | (obtain ⟨_, _, _, _, e, _⟩ := h; subst e; rfl) | (obtain ⟨_, _, _, _, _, e, _⟩ := h; subst e; rfl) | (obtain ⟨_, _, _, _, _, _, e, _⟩ := h; subst e; rfl) | (obtain ⟨_, _, _, _, _, _, _, e, _⟩ := h; subst e; rfl) | (obtain ⟨_, _, _, _, _, _, _, _, e, _⟩ := h; subst e; rfl) | (obtain ⟨_, _, _, _, _, _, _, _, _, e, _⟩ := h; subst e; rfl) | (obtain ⟨_, _, _, _, _, _, _, _, _, _, e, _⟩ := h; subst e; rfl) | (obtain ⟨_, _, _, _, _, _, _, _, _, _, _, e, _⟩ := h; subst e; rfl) | (obtain ⟨_, _, _, _, _, _, _, _, _, _, _, _, e, _⟩ := h; subst e; rfl), fun i j args S Q hab ⟨p, x, y, z, w, c, N, e, sc, wok, ok, hn, hd, h2, r⟩ => ⟨p, x, y, z, w, c, N, e, sc, wok, ok, hn, hd, by omega, r⟩⟩
abbrev c_Scene_outside : Nat → GC0 := fun _ => cOutside 80
def D_Scene_outside : Df := mkD "Scene.outside" (GL.inCls (top 31) 3) p_Scene_outside N_Scene_outside k_Scene_outside b_Scene_outside 120 c_Scene_outside (some ("Scene", "outside"))
theorem o_Scene_outside : CtOk p_Scene_outside c_Scene_outside := ⟨fun k args S Q h => by first | (obtain ⟨_, e, _⟩ := h; subst e; rfl) | (obtain ⟨_, _, e, _⟩ := h; subst e; rfl) | (obtain ⟨_, _, _, e, _⟩ := h; subst e; rfl) | (obtain ⟨_, _, _, _, e, _⟩ := h; subst e; rfl) | (obtain ⟨_, _, _, _, _, e, _⟩ := h; subst e; rfl) | (obtain ⟨_, _, _, _, _, _, e, _⟩ := h; subst e; rfl) | (obtain ⟨_, _, _, _, _, _, _, e, _⟩ := h; subst e; rfl) | (obtain ⟨_, _, _, _, _, _, _, _, e, _⟩ := h; subst e; rfl) | (obtain ⟨_, _, _, _, _, _, _, _, _, e, _⟩ := h; subst e; rfl) | (obtain ⟨_, _, _, _, _, _, _, _, _, _, e, _⟩ := h; subst e; rfl) | (obtain ⟨_, _, _, _, _, _, _, _, _, _, _, e, _⟩ := h; subst e; rfl) | (obtain ⟨_, _, _, _, _, _, _, _, _, _, _, _, e, _⟩ := h; subst e; rfl), fun _ _ _ _ _ _ h => h⟩
abbrev c_things_of : Nat → GC0 := fun _ => cThingsOf
def D_things_of : Df := mkD "things_of" (top 32) p_things_of N_things_of k_things_of b_things_of 120 c_things_of
theorem o_things_of : CtOk p_things_of c_things_of := ⟨fun k args S Q h => by first | (obtain ⟨_, e, _⟩ := h; subst e; rfl) | (obtain ⟨_, _, e, _⟩ := h; subst e; rfl) | (obtain ⟨_, _, _, e, _⟩ := h; subst e; rfl) | (obtain ⟨_, _, _, _, e, _⟩ := h; subst e; rfl) | (obtain ⟨_, _, _, _, _, e, _⟩ := h; subst e; rfl) | (obtain ⟨_, _, _, _, _, _, e, _⟩ := h; subst e; rfl) | (obtain ⟨_, _, _, _, _, _, _, e, _⟩ := h; subst e; rfl) | (obtain ⟨_, _, _, _, _, _, _, _, e, _⟩ := h; subst e; rfl) | (obtain ⟨_, _, _, _, _, _, _, _, _, e, _⟩ := h; subst e; rfl) | (obtain ⟨_, _, _, _, _, _, _, _, _, _, e, _⟩ := h; subst e; rfl) | (obtain ⟨_, _, _, _, _, _, _, _, _, _, _, e, _⟩ := h; subst e; rfl) | (obtain ⟨_, _, _, _, _, _, _, _, _, _, _, _, e, _⟩ := h; subst e; rfl), fun _ _ _ _ _ _ h => h⟩
abbrev c_things_in : Nat → GC0 := fun _ => cThingsOf
def D_things_in : Df := mkD "things_in" (top 34) p_things_in N_things_in k_things_in b_things_in 121 c_things_in
theorem o_things_in : CtOk p_things_in c_things_in := ⟨fun k args S Q h => by first | (obtain ⟨_, e, _⟩ := h; subst e; rfl) | (obtain ⟨_, _, e, _⟩ := h; subst e; rfl) | (obtain ⟨_, _, _, e, _⟩ := h; subst e; rfl) | (obtain ⟨_, _, _, _, e, _⟩ := h; subst e; rfl) | (obtain ⟨_, _, _, _, _, e, _⟩ := h; subst e; rfl) | (obtain ⟨_, _, _, _, _, _, e, _⟩ := h; subst e; rfl) | (obtain ⟨_, _, _, _, _, _, _, e, _⟩ := h; subst e; rfl) | (obtain ⟨_, _, _, _, _, _, _, _, e, _⟩ := h; subst e; rfl) | (obtain ⟨_, _, _, _, _, _, _, _, _, e, _⟩ := h; subst e; rfl) | (obtain ⟨_, _, _, _, _, _, _, _, _, _, e, _⟩ := h; subst e; rfl) | (obtain ⟨_, _, _, _, _, _, _, _, _, _, _, e, _⟩ := h; subst e; rfl) | (obtain ⟨_, _, _, _, _, _, _, _, _, _, _, _, e, _⟩ := h; subst e; rfl), fun _ _ _ _ _ _ h => h⟩
abbrev c_does_hold_in : Nat → GC0 := fun _ => cHold
def D_does_hold_in : Df := mkD "does_hold_in" (top 35) p_does_hold_in N_does_hold_in k_does_hold_in b_does_hold_in 121 c_does_hold_in
theorem o_does_hold_in : CtOk p_does_hold_in c_does_hold_in := ⟨fun k args S Q h => by first | (obtain ⟨_, e, _⟩ := h; subst e; rfl) | (obtain ⟨_, _, e, _⟩ := h; subst e; rfl) | (obtain ⟨_, _, _, e, _⟩ := h; subst e; rfl) | (obtain ⟨_, _, _, _, e, _⟩ := h; subst e; rfl) | (obtain ⟨_, _, _, _, _, e, _⟩ := h; subst e; rfl) | (obtain ⟨_, _, _, _, _, _, e, _⟩ := h; subst e; rfl) | (obtain ⟨_, _, _, _, _, _, _, e, _⟩ := h; subst e; rfl) | (obtain ⟨_, _, _, _, _, _, _, _, e, _⟩ := h; subst e; rfl) | (obtain ⟨_, _, _, _, _, _, _, _, _, e, _⟩ := h; subst e; rfl) | (obtain ⟨_, _, _, _, _, _, _, _, _, _, e, _⟩ := h; subst e; rfl) | (obtain ⟨_, _, _, _, _, _, _, _, _, _, _, e, _⟩ := h; subst e; rfl) | (obtain ⟨_, _, _, _, _, _, _, _, _, _, _, _, e, _⟩ := h; subst e; rfl), fun _ _ _ _ _ _ h => h⟩
abbrev c_law_deck : Nat → GC0 := fun _ => cDeck
def D_law_deck : Df := mkD "_law_deck" (top 37) p_law_deck N_law_deck k_law_deck b_law_deck 0 c_law_deck
theorem o_law_deck : CtOk p_law_deck c_law_deck := ⟨fun k args S Q h => by first | (obtain ⟨_, e, _⟩ := h; subst e; rfl) | (obtain ⟨_, _, e, _⟩ := h; subst e; rfl) | (obtain ⟨_, _, _, e, _⟩ := h; subst e; rfl) | (obtain ⟨_, _, _, _, e, _⟩ := h; subst e; rfl) | (obtain ⟨_, _, _, _, _, e, _⟩ := h; subst e; rfl) | (obtain ⟨_, _, _, _, _, _, e, _⟩ := h; subst e; rfl) | (obtain ⟨_, _, _, _, _, _, _, e, _⟩ := h; subst e; rfl) | (obtain ⟨_, _, _, _, _, _, _, _, e, _⟩ := h; subst e; rfl) | (obtain ⟨_, _, _, _, _, _, _, _, _, e, _⟩ := h; subst e; rfl) | (obtain ⟨_, _, _, _, _, _, _, _, _, _, e, _⟩ := h; subst e; rfl) | (obtain ⟨_, _, _, _, _, _, _, _, _, _, _, e, _⟩ := h; subst e; rfl) | (obtain ⟨_, _, _, _, _, _, _, _, _, _, _, _, e, _⟩ := h; subst e; rfl), fun _ _ _ _ _ _ h => h⟩
abbrev c_law_draw : Nat → GC0 := fun _ => cDraw
def D_law_draw : Df := mkD "_law_draw" (top 38) p_law_draw N_law_draw k_law_draw b_law_draw 0 c_law_draw
theorem o_law_draw : CtOk p_law_draw c_law_draw := ⟨fun k args S Q h => by first | (obtain ⟨_, e, _⟩ := h; subst e; rfl) | (obtain ⟨_, _, e, _⟩ := h; subst e; rfl) | (obtain ⟨_, _, _, e, _⟩ := h; subst e; rfl) | (obtain ⟨_, _, _, _, e, _⟩ := h; subst e; rfl) | (obtain ⟨_, _, _, _, _, e, _⟩ := h; subst e; rfl) | (obtain ⟨_, _, _, _, _, _, e, _⟩ := h; subst e; rfl) | (obtain ⟨_, _, _, _, _, _, _, e, _⟩ := h; subst e; rfl) | (obtain ⟨_, _, _, _, _, _, _, _, e, _⟩ := h; subst e; rfl) | (obtain ⟨_, _, _, _, _, _, _, _, _, e, _⟩ := h; subst e; rfl) | (obtain ⟨_, _, _, _, _, _, _, _, _, _, e, _⟩ := h; subst e; rfl) | (obtain ⟨_, _, _, _, _, _, _, _, _, _, _, e, _⟩ := h; subst e; rfl) | (obtain ⟨_, _, _, _, _, _, _, _, _, _, _, _, e, _⟩ := h; subst e; rfl), fun _ _ _ _ _ _ h => h⟩
abbrev c_law_pick : Nat → GC0 := fun _ => cPick
def D_law_pick : Df := mkD "_law_pick" (top 39) p_law_pick N_law_pick k_law_pick b_law_pick 1 c_law_pick
theorem o_law_pick : CtOk p_law_pick c_law_pick := ⟨fun k args S Q h => by first | (obtain ⟨_, e, _⟩ := h; subst e; rfl) | (obtain ⟨_, _, e, _⟩ := h; subst e; rfl) | (obtain ⟨_, _, _, e, _⟩ := h; subst e; rfl) | (obtain ⟨_, _, _, _, e, _⟩ := h; subst e; rfl) | (obtain ⟨_, _, _, _, _, e, _⟩ := h; subst e; rfl) | (obtain ⟨_, _, _, _, _, _, e, _⟩ := h; subst e; rfl) | (obtain ⟨_, _, _, _, _, _, _, e, _⟩ := h; subst e; rfl) | (obtain ⟨_, _, _, _, _, _, _, _, e, _⟩ := h; subst e; rfl) | (obtain ⟨_, _, _, _, _, _, _, _, _, e, _⟩ := h; subst e; rfl) | (obtain ⟨_, _, _, _, _, _, _, _, _, _, e, _⟩ := h; subst e; rfl) | (obtain ⟨_, _, _, _, _, _, _, _, _, _, _, e, _⟩ := h; subst e; rfl) | (obtain ⟨_, _, _, _, _, _, _, _, _, _, _, _, e, _⟩ := h; subst e; rfl), fun _ _ _ _ _ _ h => h⟩
abbrev c_law_name : Nat → GC0 := fun _ => cName
def D_law_name : Df := mkD "_law_name" (top 40) p_law_name N_law_name k_law_name b_law_name 2 c_law_name
theorem o_law_name : CtOk p_law_name c_law_name := ⟨fun k args S Q h => by first | (obtain ⟨_, e, _⟩ := h; subst e; rfl) | (obtain ⟨_, _, e, _⟩ := h; subst e; rfl) | (obtain ⟨_, _, _, e, _⟩ := h; subst e; rfl) | (obtain ⟨_, _, _, _, e, _⟩ := h; subst e; rfl) | (obtain ⟨_, _, _, _, _, e, _⟩ := h; subst e; rfl) | (obtain ⟨_, _, _, _, _, _, e, _⟩ := h; subst e; rfl) | (obtain ⟨_, _, _, _, _, _, _, e, _⟩ := h; subst e; rfl) | (obtain ⟨_, _, _, _, _, _, _, _, e, _⟩ := h; subst e; rfl) | (obtain ⟨_, _, _, _, _, _, _, _, _, e, _⟩ := h; subst e; rfl) | (obtain ⟨_, _, _, _, _, _, _, _, _, _, e, _⟩ := h; subst e; rfl) | (obtain ⟨_, _, _, _, _, _, _, _, _, _, _, e, _⟩ := h; subst e; rfl) | (obtain ⟨_, _, _, _, _, _, _, _, _, _, _, _, e, _⟩ := h; subst e; rfl), fun _ _ _ _ _ _ h => h⟩
abbrev c_law_words : Nat → GC0 := fun _ => cWords
def D_law_words : Df := mkD "_law_words" (top 41) p_law_words N_law_words k_law_words b_law_words 3 c_law_words
theorem o_law_words : CtOk p_law_words c_law_words := ⟨fun k args S Q h => by first | (obtain ⟨_, e, _⟩ := h; subst e; rfl) | (obtain ⟨_, _, e, _⟩ := h; subst e; rfl) | (obtain ⟨_, _, _, e, _⟩ := h; subst e; rfl) | (obtain ⟨_, _, _, _, e, _⟩ := h; subst e; rfl) | (obtain ⟨_, _, _, _, _, e, _⟩ := h; subst e; rfl) | (obtain ⟨_, _, _, _, _, _, e, _⟩ := h; subst e; rfl) | (obtain ⟨_, _, _, _, _, _, _, e, _⟩ := h; subst e; rfl) | (obtain ⟨_, _, _, _, _, _, _, _, e, _⟩ := h; subst e; rfl) | (obtain ⟨_, _, _, _, _, _, _, _, _, e, _⟩ := h; subst e; rfl) | (obtain ⟨_, _, _, _, _, _, _, _, _, _, e, _⟩ := h; subst e; rfl) | (obtain ⟨_, _, _, _, _, _, _, _, _, _, _, e, _⟩ := h; subst e; rfl) | (obtain ⟨_, _, _, _, _, _, _, _, _, _, _, _, e, _⟩ := h; subst e; rfl), fun _ _ _ _ _ _ h => h⟩
abbrev c_law_is_word : Nat → GC0 := fun _ => cPure1 isWord
def D_law_is_word : Df := mkD "_law_is_word" (top 42) p_law_is_word N_law_is_word k_law_is_word b_law_is_word 0 c_law_is_word
theorem o_law_is_word : CtOk p_law_is_word c_law_is_word := ⟨fun k args S Q h => by first | (obtain ⟨_, e, _⟩ := h; subst e; rfl) | (obtain ⟨_, _, e, _⟩ := h; subst e; rfl) | (obtain ⟨_, _, _, e, _⟩ := h; subst e; rfl) | (obtain ⟨_, _, _, _, e, _⟩ := h; subst e; rfl) | (obtain ⟨_, _, _, _, _, e, _⟩ := h; subst e; rfl) | (obtain ⟨_, _, _, _, _, _, e, _⟩ := h; subst e; rfl) | (obtain ⟨_, _, _, _, _, _, _, e, _⟩ := h; subst e; rfl) | (obtain ⟨_, _, _, _, _, _, _, _, e, _⟩ := h; subst e; rfl) | (obtain ⟨_, _, _, _, _, _, _, _, _, e, _⟩ := h; subst e; rfl) | (obtain ⟨_, _, _, _, _, _, _, _, _, _, e, _⟩ := h; subst e; rfl) | (obtain ⟨_, _, _, _, _, _, _, _, _, _, _, e, _⟩ := h; subst e; rfl) | (obtain ⟨_, _, _, _, _, _, _, _, _, _, _, _, e, _⟩ := h; subst e; rfl), fun _ _ _ _ _ _ h => h⟩
abbrev c_law_concept : Nat → GC0 := cCpt
def D_law_concept : Df := mkD "_law_concept" (top 43) p_law_concept N_law_concept k_law_concept b_law_concept 2 c_law_concept
theorem o_law_concept : CtOk p_law_concept c_law_concept := ⟨fun k args S Q h => by first | (obtain ⟨_, e, _⟩ := h; subst e; rfl) | (obtain ⟨_, _, e, _⟩ := h; subst e; rfl) | (obtain ⟨_, _, _, e, _⟩ := h; subst e; rfl) | (obtain ⟨_, _, _, _, e, _⟩ := h; subst e; rfl) | (obtain ⟨_, _, _, _, _, e, _⟩ := h; subst e; rfl) | (obtain ⟨_, _, _, _, _, _, e, _⟩ := h; subst e; rfl) | (obtain ⟨_, _, _, _, _, _, _, e, _⟩ := h; subst e; rfl) | (obtain ⟨_, _, _, _, _, _, _, _, e, _⟩ := h; subst e; rfl) | (obtain ⟨_, _, _, _, _, _, _, _, _, e, _⟩ := h; subst e; rfl) | (obtain ⟨_, _, _, _, _, _, _, _, _, _, e, _⟩ := h; subst e; rfl) | (obtain ⟨_, _, _, _, _, _, _, _, _, _, _, e, _⟩ := h; subst e; rfl) | (obtain ⟨_, _, _, _, _, _, _, _, _, _, _, _, e, _⟩ := h; subst e; rfl), fun i j args S Q hab ⟨a, b, w, xs, k, e, hk, r⟩ => ⟨a, b, w, xs, k, e, by omega, r⟩⟩
abbrev c_law_long : Nat → GC0 := fun _ => cLong
def D_law_long : Df := mkD "_law_long" (top 44) p_law_long N_law_long k_law_long b_law_long 2 c_law_long
theorem o_law_long : CtOk p_law_long c_law_long := ⟨fun k args S Q h => by first | (obtain ⟨_, e, _⟩ := h; subst e; rfl) | (obtain ⟨_, _, e, _⟩ := h; subst e; rfl) | (obtain ⟨_, _, _, e, _⟩ := h; subst e; rfl) | (obtain ⟨_, _, _, _, e, _⟩ := h; subst e; rfl) | (obtain ⟨_, _, _, _, _, e, _⟩ := h; subst e; rfl) | (obtain ⟨_, _, _, _, _, _, e, _⟩ := h; subst e; rfl) | (obtain ⟨_, _, _, _, _, _, _, e, _⟩ := h; subst e; rfl) | (obtain ⟨_, _, _, _, _, _, _, _, e, _⟩ := h; subst e; rfl) | (obtain ⟨_, _, _, _, _, _, _, _, _, e, _⟩ := h; subst e; rfl) | (obtain ⟨_, _, _, _, _, _, _, _, _, _, e, _⟩ := h; subst e; rfl) | (obtain ⟨_, _, _, _, _, _, _, _, _, _, _, e, _⟩ := h; subst e; rfl) | (obtain ⟨_, _, _, _, _, _, _, _, _, _, _, _, e, _⟩ := h; subst e; rfl), fun _ _ _ _ _ _ h => h⟩
abbrev c_law_world : Nat → GC0 := fun _ => cWorld
def D_law_world : Df := mkD "_law_world" (top 45) p_law_world N_law_world k_law_world b_law_world 2 c_law_world
theorem o_law_world : CtOk p_law_world c_law_world := ⟨fun k args S Q h => by first | (obtain ⟨_, e, _⟩ := h; subst e; rfl) | (obtain ⟨_, _, e, _⟩ := h; subst e; rfl) | (obtain ⟨_, _, _, e, _⟩ := h; subst e; rfl) | (obtain ⟨_, _, _, _, e, _⟩ := h; subst e; rfl) | (obtain ⟨_, _, _, _, _, e, _⟩ := h; subst e; rfl) | (obtain ⟨_, _, _, _, _, _, e, _⟩ := h; subst e; rfl) | (obtain ⟨_, _, _, _, _, _, _, e, _⟩ := h; subst e; rfl) | (obtain ⟨_, _, _, _, _, _, _, _, e, _⟩ := h; subst e; rfl) | (obtain ⟨_, _, _, _, _, _, _, _, _, e, _⟩ := h; subst e; rfl) | (obtain ⟨_, _, _, _, _, _, _, _, _, _, e, _⟩ := h; subst e; rfl) | (obtain ⟨_, _, _, _, _, _, _, _, _, _, _, e, _⟩ := h; subst e; rfl) | (obtain ⟨_, _, _, _, _, _, _, _, _, _, _, _, e, _⟩ := h; subst e; rfl), fun _ _ _ _ _ _ h => h⟩
abbrev c_law_things : Nat → GC0 := cLth
def D_law_things : Df := mkD "_law_things" (top 46) p_law_things N_law_things k_law_things b_law_things 0 c_law_things
theorem o_law_things : CtOk p_law_things c_law_things := ⟨fun k args S Q h => by first | (obtain ⟨_, e, _⟩ := h; subst e; rfl) | (obtain ⟨_, _, e, _⟩ := h; subst e; rfl) | (obtain ⟨_, _, _, e, _⟩ := h; subst e; rfl) | (obtain ⟨_, _, _, _, e, _⟩ := h; subst e; rfl) | (obtain ⟨_, _, _, _, _, e, _⟩ := h; subst e; rfl) | (obtain ⟨_, _, _, _, _, _, e, _⟩ := h; subst e; rfl) | (obtain ⟨_, _, _, _, _, _, _, e, _⟩ := h; subst e; rfl) | (obtain ⟨_, _, _, _, _, _, _, _, e, _⟩ := h; subst e; rfl) | (obtain ⟨_, _, _, _, _, _, _, _, _, e, _⟩ := h; subst e; rfl) | (obtain ⟨_, _, _, _, _, _, _, _, _, _, e, _⟩ := h; subst e; rfl) | (obtain ⟨_, _, _, _, _, _, _, _, _, _, _, e, _⟩ := h; subst e; rfl) | (obtain ⟨_, _, _, _, _, _, _, _, _, _, _, _, e, _⟩ := h; subst e; rfl), fun i j args S Q hab ⟨w, c, k, e, wok, ok, hk, h1, hd, r⟩ => ⟨w, c, k, e, wok, ok, hk, h1, by omega, r⟩⟩
abbrev c_law_is_tied : Nat → GC0 := fun _ => cTied
def D_law_is_tied : Df := mkD "_law_is_tied" (top 47) p_law_is_tied N_law_is_tied k_law_is_tied b_law_is_tied 0 c_law_is_tied
theorem o_law_is_tied : CtOk p_law_is_tied c_law_is_tied := ⟨fun k args S Q h => by first | (obtain ⟨_, e, _⟩ := h; subst e; rfl) | (obtain ⟨_, _, e, _⟩ := h; subst e; rfl) | (obtain ⟨_, _, _, e, _⟩ := h; subst e; rfl) | (obtain ⟨_, _, _, _, e, _⟩ := h; subst e; rfl) | (obtain ⟨_, _, _, _, _, e, _⟩ := h; subst e; rfl) | (obtain ⟨_, _, _, _, _, _, e, _⟩ := h; subst e; rfl) | (obtain ⟨_, _, _, _, _, _, _, e, _⟩ := h; subst e; rfl) | (obtain ⟨_, _, _, _, _, _, _, _, e, _⟩ := h; subst e; rfl) | (obtain ⟨_, _, _, _, _, _, _, _, _, e, _⟩ := h; subst e; rfl) | (obtain ⟨_, _, _, _, _, _, _, _, _, _, e, _⟩ := h; subst e; rfl) | (obtain ⟨_, _, _, _, _, _, _, _, _, _, _, e, _⟩ := h; subst e; rfl) | (obtain ⟨_, _, _, _, _, _, _, _, _, _, _, _, e, _⟩ := h; subst e; rfl), fun _ _ _ _ _ _ h => h⟩
abbrev c_law : Nat → GC0 := fun _ => cLaw
def D_law : Df := mkD "law" (top 48) p_law N_law k_law b_law 125 c_law
theorem o_law : CtOk p_law c_law := ⟨fun k args S Q h => by first | (obtain ⟨_, e, _⟩ := h; subst e; rfl) | (obtain ⟨_, _, e, _⟩ := h; subst e; rfl) | (obtain ⟨_, _, _, e, _⟩ := h; subst e; rfl) | (obtain ⟨_, _, _, _, e, _⟩ := h; subst e; rfl) | (obtain ⟨_, _, _, _, _, e, _⟩ := h; subst e; rfl) | (obtain ⟨_, _, _, _, _, _, e, _⟩ := h; subst e; rfl) | (obtain ⟨_, _, _, _, _, _, _, e, _⟩ := h; subst e; rfl) | (obtain ⟨_, _, _, _, _, _, _, _, e, _⟩ := h; subst e; rfl) | (obtain ⟨_, _, _, _, _, _, _, _, _, e, _⟩ := h; subst e; rfl) | (obtain ⟨_, _, _, _, _, _, _, _, _, _, e, _⟩ := h; subst e; rfl) | (obtain ⟨_, _, _, _, _, _, _, _, _, _, _, e, _⟩ := h; subst e; rfl) | (obtain ⟨_, _, _, _, _, _, _, _, _, _, _, _, e, _⟩ := h; subst e; rfl), fun _ _ _ _ _ _ h => h⟩
def defs : List Df := [D_is_integer, D_is_between, D_is_row, D_are_rising, D_is_kind, D_is_word_value, D_is_concept_value, D_need_concept, D_text_of, D_is_thing_of, D_is_tie, D_are_listed, D_is_list, D_is_world_value, D_need_world, D_Scene_init, D_Scene_things, D_Scene_found, D_Scene_outside, D_things_of, D_things_in, D_does_hold_in, D_law_deck, D_law_draw, D_law_pick, D_law_name, D_law_words, D_law_is_word, D_law_concept, D_law_long, D_law_world, D_law_things, D_law_is_tied, D_law]
theorem f_is_integer : defs.find? (fun d => decide (d.name = ("is_integer" : Str)) && d.mth.isNone) = some D_is_integer := by kernel_rfl
theorem f_is_between : defs.find? (fun d => decide (d.name = ("is_between" : Str)) && d.mth.isNone) = some D_is_between := by kernel_rfl
theorem f_is_row : defs.find? (fun d => decide (d.name = ("is_row" : Str)) && d.mth.isNone) = some D_is_row := by kernel_rfl
theorem f_are_rising : defs.find? (fun d => decide (d.name = ("are_rising" : Str)) && d.mth.isNone) = some D_are_rising := by kernel_rfl
theorem f_is_kind : defs.find? (fun d => decide (d.name = ("is_kind" : Str)) && d.mth.isNone) = some D_is_kind := by kernel_rfl
theorem f_is_word_value : defs.find? (fun d => decide (d.name = ("is_word_value" : Str)) && d.mth.isNone) = some D_is_word_value := by kernel_rfl
theorem f_is_concept_value : defs.find? (fun d => decide (d.name = ("is_concept_value" : Str)) && d.mth.isNone) = some D_is_concept_value := by kernel_rfl
theorem f_need_concept : defs.find? (fun d => decide (d.name = ("need_concept" : Str)) && d.mth.isNone) = some D_need_concept := by kernel_rfl
theorem f_text_of : defs.find? (fun d => decide (d.name = ("text_of" : Str)) && d.mth.isNone) = some D_text_of := by kernel_rfl
theorem f_is_thing_of : defs.find? (fun d => decide (d.name = ("is_thing_of" : Str)) && d.mth.isNone) = some D_is_thing_of := by kernel_rfl
theorem f_is_tie : defs.find? (fun d => decide (d.name = ("is_tie" : Str)) && d.mth.isNone) = some D_is_tie := by kernel_rfl
theorem f_are_listed : defs.find? (fun d => decide (d.name = ("are_listed" : Str)) && d.mth.isNone) = some D_are_listed := by kernel_rfl
theorem f_is_list : defs.find? (fun d => decide (d.name = ("is_list" : Str)) && d.mth.isNone) = some D_is_list := by kernel_rfl
theorem f_is_world_value : defs.find? (fun d => decide (d.name = ("is_world_value" : Str)) && d.mth.isNone) = some D_is_world_value := by kernel_rfl
theorem f_need_world : defs.find? (fun d => decide (d.name = ("need_world" : Str)) && d.mth.isNone) = some D_need_world := by kernel_rfl
theorem f_Scene_init : defs.find? (fun d => decide (d.mth = some (("Scene" : Str), ("__init__" : Str)))) = some D_Scene_init := by kernel_rfl
theorem f_Scene_things : defs.find? (fun d => decide (d.mth = some (("Scene" : Str), ("things" : Str)))) = some D_Scene_things := by kernel_rfl
theorem f_Scene_found : defs.find? (fun d => decide (d.mth = some (("Scene" : Str), ("found" : Str)))) = some D_Scene_found := by kernel_rfl
theorem f_Scene_outside : defs.find? (fun d => decide (d.mth = some (("Scene" : Str), ("outside" : Str)))) = some D_Scene_outside := by kernel_rfl
theorem f_things_of : defs.find? (fun d => decide (d.name = ("things_of" : Str)) && d.mth.isNone) = some D_things_of := by kernel_rfl
theorem f_things_in : defs.find? (fun d => decide (d.name = ("things_in" : Str)) && d.mth.isNone) = some D_things_in := by kernel_rfl
theorem f_does_hold_in : defs.find? (fun d => decide (d.name = ("does_hold_in" : Str)) && d.mth.isNone) = some D_does_hold_in := by kernel_rfl
theorem f_law_deck : defs.find? (fun d => decide (d.name = ("_law_deck" : Str)) && d.mth.isNone) = some D_law_deck := by kernel_rfl
theorem f_law_draw : defs.find? (fun d => decide (d.name = ("_law_draw" : Str)) && d.mth.isNone) = some D_law_draw := by kernel_rfl
theorem f_law_pick : defs.find? (fun d => decide (d.name = ("_law_pick" : Str)) && d.mth.isNone) = some D_law_pick := by kernel_rfl
theorem f_law_name : defs.find? (fun d => decide (d.name = ("_law_name" : Str)) && d.mth.isNone) = some D_law_name := by kernel_rfl
theorem f_law_words : defs.find? (fun d => decide (d.name = ("_law_words" : Str)) && d.mth.isNone) = some D_law_words := by kernel_rfl
theorem f_law_is_word : defs.find? (fun d => decide (d.name = ("_law_is_word" : Str)) && d.mth.isNone) = some D_law_is_word := by kernel_rfl
theorem f_law_concept : defs.find? (fun d => decide (d.name = ("_law_concept" : Str)) && d.mth.isNone) = some D_law_concept := by kernel_rfl
theorem f_law_long : defs.find? (fun d => decide (d.name = ("_law_long" : Str)) && d.mth.isNone) = some D_law_long := by kernel_rfl
theorem f_law_world : defs.find? (fun d => decide (d.name = ("_law_world" : Str)) && d.mth.isNone) = some D_law_world := by kernel_rfl
theorem f_law_things : defs.find? (fun d => decide (d.name = ("_law_things" : Str)) && d.mth.isNone) = some D_law_things := by kernel_rfl
theorem f_law_is_tied : defs.find? (fun d => decide (d.name = ("_law_is_tied" : Str)) && d.mth.isNone) = some D_law_is_tied := by kernel_rfl
theorem f_law : defs.find? (fun d => decide (d.name = ("law" : Str)) && d.mth.isNone) = some D_law := by kernel_rfl
def cs : List (Str × CD) := [("LETTERS", .str lettersS), ("MOST_LETTERS", .int 10), ("RESERVED", .tup resv), ("ALL", .tup ["all"]), ("NONE", .tup ["none"]), ("WORD", .str "word"), ("AND", .str "and"), ("SOME", .str "some"), ("MOST_THINGS", .int 2000)]
def fs : List (Str × Str) := [("Scene", "many"), ("Scene", "named"), ("Scene", "ties"), ("Scene", "known")]
abbrev Tn (n : Nat) : Tb := tbl defs (valsOf cs) (flOf fs) n
theorem w_is_integer (n : Nat) (args : List D) (S : Store) (Q : GQ) (E : GE) (h : (D_is_integer).c n args S Q E) : wB_ (Tn n) noW (D_is_integer).body (fnEnd Q) (initE (D_is_integer).N args) S := by
  obtain ⟨hr, hl, h⟩ := (show 0 ≤ n ∧ args.length = _ ∧ c_is_integer (n - 0 + 1) args S Q from h)
  exact x_is_integer _ args S Q h
theorem w_is_between (n : Nat) (args : List D) (S : Store) (Q : GQ) (E : GE) (h : (D_is_between).c n args S Q E) : wB_ (Tn n) noW (D_is_between).body (fnEnd Q) (initE (D_is_between).N args) S := by
  obtain ⟨hr, hl, h⟩ := (show 1 ≤ n ∧ args.length = _ ∧ c_is_between (n - 1 + 1) args S Q from h)
  exact x_is_between _ (has_at (k := 1) f_is_integer o_is_integer (by omega) (by omega)) args S Q h
theorem w_is_row (n : Nat) (args : List D) (S : Store) (Q : GQ) (E : GE) (h : (D_is_row).c n args S Q E) : wB_ (Tn n) noW (D_is_row).body (fnEnd Q) (initE (D_is_row).N args) S := by
  obtain ⟨hr, hl, h⟩ := (show 0 ≤ n ∧ args.length = _ ∧ c_is_row (n - 0 + 1) args S Q from h)
  exact x_is_row _ args S Q h
theorem w_are_rising (n : Nat) (args : List D) (S : Store) (Q : GQ) (E : GE) (h : (D_are_rising).c n args S Q E) : wB_ (Tn n) noW (D_are_rising).body (fnEnd Q) (initE (D_are_rising).N args) S := by
  obtain ⟨hr, hl, h⟩ := (show 0 ≤ n ∧ args.length = _ ∧ c_are_rising (n - 0 + 1) args S Q from h)
  exact x_rise _ args S Q h
theorem w_is_kind (n : Nat) (args : List D) (S : Store) (Q : GQ) (E : GE) (h : (D_is_kind).c n args S Q E) : wB_ (Tn n) noW (D_is_kind).body (fnEnd Q) (initE (D_is_kind).N args) S := by
  obtain ⟨hr, hl, h⟩ := (show 1 ≤ n ∧ args.length = _ ∧ c_is_kind (n - 1 + 1) args S Q from h)
  exact x_is_kind _ (has_at (k := 1) f_is_row o_is_row (by omega) (by omega)) args S Q h
theorem w_is_word_value (n : Nat) (args : List D) (S : Store) (Q : GQ) (E : GE) (h : (D_is_word_value).c n args S Q E) : wB_ (Tn n) noW (D_is_word_value).body (fnEnd Q) (initE (D_is_word_value).N args) S := by
  obtain ⟨hr, hl, h⟩ := (show 0 ≤ n ∧ args.length = _ ∧ c_is_word_value (n - 0 + 1) args S Q from h)
  exact x_is_word_value _ (show (Tn n).val "MOST_LETTERS" = some _ from by kernel_rfl) (show (Tn n).val "RESERVED" = some _ from by kernel_rfl) (show (Tn n).val "LETTERS" = some _ from by kernel_rfl) args S Q h
theorem w_is_concept_value (n : Nat) (args : List D) (S : Store) (Q : GQ) (E : GE) (h : (D_is_concept_value).c n args S Q E) : wB_ (Tn n) noW (D_is_concept_value).body (fnEnd Q) (initE (D_is_concept_value).N args) S := by
  obtain ⟨hr, hl, h⟩ := (show 2 ≤ n ∧ args.length = _ ∧ c_is_concept_value (n - 2 + 1) args S Q from h)
  exact x_is_concept_value _ (n - 2) (has_at (k := 1) f_is_kind o_is_kind (by omega) (by omega)) (has_at (k := 1) f_is_word_value o_is_word_value (by omega) (by omega)) (has_self f_is_concept_value o_is_concept_value (fun args S Q ⟨d, m, e, g, hm, k⟩ => by omega) hr) (show (Tn n).val "WORD" = some _ from by kernel_rfl) (show (Tn n).val "AND" = some _ from by kernel_rfl) (show (Tn n).val "SOME" = some _ from by kernel_rfl) args S Q h
theorem w_need_concept (n : Nat) (args : List D) (S : Store) (Q : GQ) (E : GE) (h : (D_need_concept).c n args S Q E) : wB_ (Tn n) noW (D_need_concept).body (fnEnd Q) (initE (D_need_concept).N args) S := by
  obtain ⟨hr, hl, h⟩ := (show 52 ≤ n ∧ args.length = _ ∧ c_need_concept (n - 52 + 1) args S Q from h)
  exact x_need_concept _ 50 (has_at (k := 50) f_is_concept_value o_is_concept_value (by omega) (by omega)) args S Q h
theorem w_text_of (n : Nat) (args : List D) (S : Store) (Q : GQ) (E : GE) (h : (D_text_of).c n args S Q E) : wB_ (Tn n) noW (D_text_of).body (fnEnd Q) (initE (D_text_of).N args) S := by
  obtain ⟨hr, hl, h⟩ := (show 0 ≤ n ∧ args.length = _ ∧ c_text_of (n - 0 + 1) args S Q from h)
  exact x_text_of _ (n - 0) (has_self f_text_of o_text_of (fun args S Q ⟨c, e, ok, hn, hd, r⟩ => by have := Con.dep_pos c; omega) hr) (show (Tn n).val "WORD" = some _ from by kernel_rfl) (show (Tn n).val "AND" = some _ from by kernel_rfl) (show (Tn n).val "SOME" = some _ from by kernel_rfl) args S Q h
theorem w_is_thing_of (n : Nat) (args : List D) (S : Store) (Q : GQ) (E : GE) (h : (D_is_thing_of).c n args S Q E) : wB_ (Tn n) noW (D_is_thing_of).body (fnEnd Q) (initE (D_is_thing_of).N args) S := by
  obtain ⟨hr, hl, h⟩ := (show 2 ≤ n ∧ args.length = _ ∧ c_is_thing_of (n - 2 + 1) args S Q from h)
  exact x_is_thing_of _ (has_at (k := 1) f_is_between o_is_between (by omega) (by omega)) args S Q h
theorem w_is_tie (n : Nat) (args : List D) (S : Store) (Q : GQ) (E : GE) (h : (D_is_tie).c n args S Q E) : wB_ (Tn n) noW (D_is_tie).body (fnEnd Q) (initE (D_is_tie).N args) S := by
  obtain ⟨hr, hl, h⟩ := (show 3 ≤ n ∧ args.length = _ ∧ c_is_tie (n - 3 + 1) args S Q from h)
  exact x_is_tie _ (has_at (k := 1) f_is_row o_is_row (by omega) (by omega)) (has_at (k := 1) f_is_thing_of o_is_thing_of (by omega) (by omega)) args S Q h
theorem w_are_listed (n : Nat) (args : List D) (S : Store) (Q : GQ) (E : GE) (h : (D_are_listed).c n args S Q E) : wB_ (Tn n) noW (D_are_listed).body (fnEnd Q) (initE (D_are_listed).N args) S := by
  obtain ⟨hr, hl, h⟩ := (show 4 ≤ n ∧ args.length = _ ∧ c_are_listed (n - 4 + 1) args S Q from h)
  exact x_are_listed _ (has_at (k := 1) f_is_thing_of o_is_thing_of (by omega) (by omega)) (has_at (k := 1) f_is_tie o_is_tie (by omega) (by omega)) (has_at (k := 1) f_are_rising o_are_rising (by omega) (by omega)) args S Q h
theorem w_is_list (n : Nat) (args : List D) (S : Store) (Q : GQ) (E : GE) (h : (D_is_list).c n args S Q E) : wB_ (Tn n) noW (D_is_list).body (fnEnd Q) (initE (D_is_list).N args) S := by
  obtain ⟨hr, hl, h⟩ := (show 5 ≤ n ∧ args.length = _ ∧ c_is_list (n - 5 + 1) args S Q from h)
  exact x_is_list _ (has_at (k := 1) f_is_row o_is_row (by omega) (by omega)) (has_at (k := 1) f_is_word_value o_is_word_value (by omega) (by omega)) (has_at (k := 1) f_are_rising o_are_rising (by omega) (by omega)) (has_at (k := 1) f_are_listed o_are_listed (by omega) (by omega)) args S Q h
theorem w_is_world_value (n : Nat) (args : List D) (S : Store) (Q : GQ) (E : GE) (h : (D_is_world_value).c n args S Q E) : wB_ (Tn n) noW (D_is_world_value).body (fnEnd Q) (initE (D_is_world_value).N args) S := by
  obtain ⟨hr, hl, h⟩ := (show 6 ≤ n ∧ args.length = _ ∧ c_is_world_value (n - 6 + 1) args S Q from h)
  exact x_is_world_value _ (has_at (k := 1) f_is_row o_is_row (by omega) (by omega)) (has_at (k := 1) f_is_between o_is_between (by omega) (by omega)) (has_at (k := 1) f_is_list o_is_list (by omega) (by omega)) (by rw [fn_at f_is_thing_of]; rfl) (by rw [fn_at f_is_tie]; rfl) (show (Tn n).val "MOST_THINGS" = some _ from by kernel_rfl) args S Q h
theorem w_need_world (n : Nat) (args : List D) (S : Store) (Q : GQ) (E : GE) (h : (D_need_world).c n args S Q E) : wB_ (Tn n) noW (D_need_world).body (fnEnd Q) (initE (D_need_world).N args) S := by
  obtain ⟨hr, hl, h⟩ := (show 7 ≤ n ∧ args.length = _ ∧ c_need_world (n - 7 + 1) args S Q from h)
  exact x_need_world _ (has_at (k := 1) f_is_world_value o_is_world_value (by omega) (by omega)) args S Q h
theorem w_Scene_init (n : Nat) (args : List D) (S : Store) (Q : GQ) (E : GE) (h : (D_Scene_init).c n args S Q E) : wB_ (Tn n) noW (D_Scene_init).body (fnEnd Q) (initE (D_Scene_init).N args) S := by
  obtain ⟨hr, hl, h⟩ := (show 0 ≤ n ∧ args.length = _ ∧ c_Scene_init (n - 0 + 1) args S Q from h)
  exact x_init _ (show (Tn n).cls "Scene" "many" = true from by kernel_rfl) (show (Tn n).cls "Scene" "named" = true from by kernel_rfl) (show (Tn n).cls "Scene" "ties" = true from by kernel_rfl) (show (Tn n).cls "Scene" "known" = true from by kernel_rfl) args S Q h
theorem w_Scene_things (n : Nat) (args : List D) (S : Store) (Q : GQ) (E : GE) (h : (D_Scene_things).c n args S Q E) : wB_ (Tn n) noW (D_Scene_things).body (fnEnd Q) (initE (D_Scene_things).N args) S := by
  obtain ⟨hr, hl, h⟩ := (show 40 ≤ n ∧ args.length = _ ∧ c_Scene_things (n - 40 + 1) args S Q from h)
  exact x_things _ (n - 40) (has_at (k := 40) f_text_of o_text_of (by omega) (by omega)) (hasM_self f_Scene_found o_Scene_found (fun args S Q ⟨p, x, y, z, w, c, N, e, sc, wok, ok, hn, hd, h2, r⟩ => by have := Con.dep_pos c; omega) hr) (show (Tn n).cls "Scene" "known" = true from by kernel_rfl) args S Q h
theorem w_Scene_found (n : Nat) (args : List D) (S : Store) (Q : GQ) (E : GE) (h : (D_Scene_found).c n args S Q E) : wB_ (Tn n) noW (D_Scene_found).body (fnEnd Q) (initE (D_Scene_found).N args) S := by
  obtain ⟨hr, hl, h⟩ := (show 40 ≤ n ∧ args.length = _ ∧ c_Scene_found (n - 40 + 1) args S Q from h)
  exact x_found _ (n - 40) (hasM_self f_Scene_things o_Scene_things (fun args S Q ⟨p, x, y, z, w, c, N, e, sc, wok, ok, hn, hd, h2, r⟩ => by have := Con.dep_pos c; omega) hr) (show (Tn n).cls "Scene" "many" = true from by kernel_rfl) (show (Tn n).cls "Scene" "named" = true from by kernel_rfl) (show (Tn n).cls "Scene" "ties" = true from by kernel_rfl) (show (Tn n).val "ALL" = some _ from by kernel_rfl) (show (Tn n).val "NONE" = some _ from by kernel_rfl) (show (Tn n).val "WORD" = some _ from by kernel_rfl) (show (Tn n).val "AND" = some _ from by kernel_rfl) args S Q h
theorem w_Scene_outside (n : Nat) (args : List D) (S : Store) (Q : GQ) (E : GE) (h : (D_Scene_outside).c n args S Q E) : wB_ (Tn n) noW (D_Scene_outside).body (fnEnd Q) (initE (D_Scene_outside).N args) S := by
  obtain ⟨hr, hl, h⟩ := (show 120 ≤ n ∧ args.length = _ ∧ c_Scene_outside (n - 120 + 1) args S Q from h)
  exact x_outside _ 80 (hasM_at (k := 80) f_Scene_things o_Scene_things (by omega) (by omega)) args S Q h
theorem w_things_of (n : Nat) (args : List D) (S : Store) (Q : GQ) (E : GE) (h : (D_things_of).c n args S Q E) : wB_ (Tn n) noW (D_things_of).body (fnEnd Q) (initE (D_things_of).N args) S := by
  obtain ⟨hr, hl, h⟩ := (show 120 ≤ n ∧ args.length = _ ∧ c_things_of (n - 120 + 1) args S Q from h)
  exact x_things_of _ (hasN_at (k := 1) f_Scene_init o_Scene_init (by omega) (by omega)) (hasM_at (k := 80) f_Scene_things o_Scene_things (by omega) (by omega)) args S Q h
theorem w_things_in (n : Nat) (args : List D) (S : Store) (Q : GQ) (E : GE) (h : (D_things_in).c n args S Q E) : wB_ (Tn n) noW (D_things_in).body (fnEnd Q) (initE (D_things_in).N args) S := by
  obtain ⟨hr, hl, h⟩ := (show 121 ≤ n ∧ args.length = _ ∧ c_things_in (n - 121 + 1) args S Q from h)
  exact x_things_in _ (has_at (k := 1) f_need_world o_need_world (by omega) (by omega)) (has_at (k := 1) f_need_concept o_need_concept (by omega) (by omega)) (has_at (k := 1) f_things_of o_things_of (by omega) (by omega)) args S Q h
theorem w_does_hold_in (n : Nat) (args : List D) (S : Store) (Q : GQ) (E : GE) (h : (D_does_hold_in).c n args S Q E) : wB_ (Tn n) noW (D_does_hold_in).body (fnEnd Q) (initE (D_does_hold_in).N args) S := by
  obtain ⟨hr, hl, h⟩ := (show 121 ≤ n ∧ args.length = _ ∧ c_does_hold_in (n - 121 + 1) args S Q from h)
  exact x_does_hold_in _ (has_at (k := 1) f_need_world o_need_world (by omega) (by omega)) (has_at (k := 1) f_need_concept o_need_concept (by omega) (by omega)) (hasN_at (k := 1) f_Scene_init o_Scene_init (by omega) (by omega)) (hasM_at (k := 1) f_Scene_outside o_Scene_outside (by omega) (by omega)) args S Q h
theorem w_law_deck (n : Nat) (args : List D) (S : Store) (Q : GQ) (E : GE) (h : (D_law_deck).c n args S Q E) : wB_ (Tn n) noW (D_law_deck).body (fnEnd Q) (initE (D_law_deck).N args) S := by
  obtain ⟨hr, hl, h⟩ := (show 0 ≤ n ∧ args.length = _ ∧ c_law_deck (n - 0 + 1) args S Q from h)
  exact y_deck _ args S Q h
theorem w_law_draw (n : Nat) (args : List D) (S : Store) (Q : GQ) (E : GE) (h : (D_law_draw).c n args S Q E) : wB_ (Tn n) noW (D_law_draw).body (fnEnd Q) (initE (D_law_draw).N args) S := by
  obtain ⟨hr, hl, h⟩ := (show 0 ≤ n ∧ args.length = _ ∧ c_law_draw (n - 0 + 1) args S Q from h)
  exact y_draw _ args S Q h
theorem w_law_pick (n : Nat) (args : List D) (S : Store) (Q : GQ) (E : GE) (h : (D_law_pick).c n args S Q E) : wB_ (Tn n) noW (D_law_pick).body (fnEnd Q) (initE (D_law_pick).N args) S := by
  obtain ⟨hr, hl, h⟩ := (show 1 ≤ n ∧ args.length = _ ∧ c_law_pick (n - 1 + 1) args S Q from h)
  exact y_pick _ (has_at (k := 1) f_law_draw o_law_draw (by omega) (by omega)) args S Q h
theorem w_law_name (n : Nat) (args : List D) (S : Store) (Q : GQ) (E : GE) (h : (D_law_name).c n args S Q E) : wB_ (Tn n) noW (D_law_name).body (fnEnd Q) (initE (D_law_name).N args) S := by
  obtain ⟨hr, hl, h⟩ := (show 2 ≤ n ∧ args.length = _ ∧ c_law_name (n - 2 + 1) args S Q from h)
  exact y_name _ (has_at (k := 1) f_law_draw o_law_draw (by omega) (by omega)) (has_at (k := 1) f_law_pick o_law_pick (by omega) (by omega)) (has_at (k := 1) f_law_is_word o_law_is_word (by omega) (by omega)) args S Q h
theorem w_law_words (n : Nat) (args : List D) (S : Store) (Q : GQ) (E : GE) (h : (D_law_words).c n args S Q E) : wB_ (Tn n) noW (D_law_words).body (fnEnd Q) (initE (D_law_words).N args) S := by
  obtain ⟨hr, hl, h⟩ := (show 3 ≤ n ∧ args.length = _ ∧ c_law_words (n - 3 + 1) args S Q from h)
  exact y_words _ (has_at (k := 1) f_law_name o_law_name (by omega) (by omega)) args S Q h
theorem w_law_is_word (n : Nat) (args : List D) (S : Store) (Q : GQ) (E : GE) (h : (D_law_is_word).c n args S Q E) : wB_ (Tn n) noW (D_law_is_word).body (fnEnd Q) (initE (D_law_is_word).N args) S := by
  obtain ⟨hr, hl, h⟩ := (show 0 ≤ n ∧ args.length = _ ∧ c_law_is_word (n - 0 + 1) args S Q from h)
  exact x_law_is_word _ args S Q h
theorem w_law_concept (n : Nat) (args : List D) (S : Store) (Q : GQ) (E : GE) (h : (D_law_concept).c n args S Q E) : wB_ (Tn n) noW (D_law_concept).body (fnEnd Q) (initE (D_law_concept).N args) S := by
  obtain ⟨hr, hl, h⟩ := (show 2 ≤ n ∧ args.length = _ ∧ c_law_concept (n - 2 + 1) args S Q from h)
  exact y_concept _ (n - 2) (has_at (k := 1) f_law_draw o_law_draw (by omega) (by omega)) (has_at (k := 1) f_law_pick o_law_pick (by omega) (by omega)) (has_self f_law_concept o_law_concept (fun args S Q ⟨a, b, w, xs, k, e, hk, r⟩ => by omega) hr) args S Q h
theorem w_law_long (n : Nat) (args : List D) (S : Store) (Q : GQ) (E : GE) (h : (D_law_long).c n args S Q E) : wB_ (Tn n) noW (D_law_long).body (fnEnd Q) (initE (D_law_long).N args) S := by
  obtain ⟨hr, hl, h⟩ := (show 2 ≤ n ∧ args.length = _ ∧ c_law_long (n - 2 + 1) args S Q from h)
  exact y_long _ (has_at (k := 1) f_law_draw o_law_draw (by omega) (by omega)) (has_at (k := 1) f_law_pick o_law_pick (by omega) (by omega)) args S Q h
theorem w_law_world (n : Nat) (args : List D) (S : Store) (Q : GQ) (E : GE) (h : (D_law_world).c n args S Q E) : wB_ (Tn n) noW (D_law_world).body (fnEnd Q) (initE (D_law_world).N args) S := by
  obtain ⟨hr, hl, h⟩ := (show 2 ≤ n ∧ args.length = _ ∧ c_law_world (n - 2 + 1) args S Q from h)
  exact y_world _ (has_at (k := 1) f_law_draw o_law_draw (by omega) (by omega)) (has_at (k := 1) f_law_pick o_law_pick (by omega) (by omega)) args S Q h
theorem w_law_things (n : Nat) (args : List D) (S : Store) (Q : GQ) (E : GE) (h : (D_law_things).c n args S Q E) : wB_ (Tn n) noW (D_law_things).body (fnEnd Q) (initE (D_law_things).N args) S := by
  obtain ⟨hr, hl, h⟩ := (show 0 ≤ n ∧ args.length = _ ∧ c_law_things (n - 0 + 1) args S Q from h)
  exact x_law_things _ (n - 0) (has_self f_law_things o_law_things (fun args S Q ⟨w, c, k, e, wok, ok, hk, h1, hd, r⟩ => by have := Con.dep_pos c; omega) hr) args S Q h
theorem w_law_is_tied (n : Nat) (args : List D) (S : Store) (Q : GQ) (E : GE) (h : (D_law_is_tied).c n args S Q E) : wB_ (Tn n) noW (D_law_is_tied).body (fnEnd Q) (initE (D_law_is_tied).N args) S := by
  obtain ⟨hr, hl, h⟩ := (show 0 ≤ n ∧ args.length = _ ∧ c_law_is_tied (n - 0 + 1) args S Q from h)
  exact x_law_is_tied _ args S Q h
theorem w_law (n : Nat) (args : List D) (S : Store) (Q : GQ) (E : GE) (h : (D_law).c n args S Q E) : wB_ (Tn n) noW (D_law).body (fnEnd Q) (initE (D_law).N args) S := by
  obtain ⟨hr, hl, h⟩ := (show 125 ≤ n ∧ args.length = _ ∧ c_law (n - 125 + 1) args S Q from h)
  exact y_law _ ⟨(has_at (k := 1) f_law_deck o_law_deck (by omega) (by omega)), (has_at (k := 1) f_law_words o_law_words (by omega) (by omega)), (has_at (k := 1) f_law_world o_law_world (by omega) (by omega)), (has_at (k := 10) f_law_concept o_law_concept (by omega) (by omega)), (has_at (k := 1) f_law_long o_law_long (by omega) (by omega)), (has_at (k := 1) f_law_pick o_law_pick (by omega) (by omega)), (has_at (k := 40) f_law_things o_law_things (by omega) (by omega)), (has_at (k := 1) f_law_is_tied o_law_is_tied (by omega) (by omega)), ⟨_, fn_at f_things_in, rfl, by simp [k_things_in], fun _ _ _ _ h => lv_at (k := 1) o_things_in (by omega) (by omega) h⟩, ⟨_, fn_at f_does_hold_in, rfl, by simp [k_does_hold_in], fun _ _ _ _ h => lv_at (k := 1) o_does_hold_in (by omega) (by omega) h⟩⟩ args S Q h
theorem all_ok : ∀ d ∈ defs, DfOk d := by
  intro d hd
  simp only [defs, List.mem_cons, List.not_mem_nil, or_false] at hd
  rcases hd with rfl | rfl | rfl | rfl | rfl | rfl | rfl | rfl | rfl | rfl | rfl | rfl | rfl | rfl | rfl | rfl | rfl | rfl | rfl | rfl | rfl | rfl | rfl | rfl | rfl | rfl | rfl | rfl | rfl | rfl | rfl | rfl | rfl | rfl
  · exact ⟨⟨t_is_integer.sc, t_is_integer.chk⟩, fun _ _ _ _ _ _ us hl => match us, hl with | [_], _ => rfl, fun _ _ hk => absurd hk (List.not_mem_nil)⟩
  · exact ⟨⟨t_is_between.sc, t_is_between.chk⟩, fun _ _ _ _ _ _ us hl => match us, hl with | [_, _, _], _ => rfl, fun _ _ hk => absurd hk (List.not_mem_nil)⟩
  · exact ⟨⟨t_is_row.sc, t_is_row.chk⟩, fun _ _ _ _ _ _ us hl => match us, hl with | [_, _], _ => rfl, fun _ _ hk => absurd hk (List.not_mem_nil)⟩
  · exact ⟨⟨t_are_rising.sc, t_are_rising.chk⟩, fun _ _ _ _ _ _ us hl => match us, hl with | [_], _ => rfl, fun _ _ hk => absurd hk (List.not_mem_nil)⟩
  · exact ⟨⟨t_is_kind.sc, t_is_kind.chk⟩, fun _ _ _ _ _ _ us hl => match us, hl with | [_, _, _], _ => rfl, fun _ _ hk => absurd hk (List.not_mem_nil)⟩
  · exact ⟨⟨t_is_word_value.sc, t_is_word_value.chk⟩, fun _ _ _ _ _ _ us hl => match us, hl with | [_], _ => rfl, fun _ _ hk => absurd hk (List.not_mem_nil)⟩
  · exact ⟨⟨t_is_concept_value.sc, t_is_concept_value.chk⟩, fun _ _ _ _ _ _ us hl => match us, hl with | [_], _ => rfl, fun _ _ hk => absurd hk (List.not_mem_nil)⟩
  · exact ⟨⟨t_need_concept.sc, t_need_concept.chk⟩, fun _ _ _ _ _ _ us hl => match us, hl with | [_], _ => rfl, fun _ _ hk => absurd hk (List.not_mem_nil)⟩
  · exact ⟨⟨t_text_of.sc, t_text_of.chk⟩, fun _ _ _ _ _ _ us hl => match us, hl with | [_], _ => rfl, fun _ _ hk => absurd hk (List.not_mem_nil)⟩
  · exact ⟨⟨t_is_thing_of.sc, t_is_thing_of.chk⟩, fun _ _ _ _ _ _ us hl => match us, hl with | [_, _], _ => rfl, fun _ _ hk => absurd hk (List.not_mem_nil)⟩
  · exact ⟨⟨t_is_tie.sc, t_is_tie.chk⟩, fun _ _ _ _ _ _ us hl => match us, hl with | [_, _], _ => rfl, fun _ _ hk => absurd hk (List.not_mem_nil)⟩
  · exact ⟨⟨t_are_listed.sc, t_are_listed.chk⟩, fun _ _ _ _ _ _ us hl => match us, hl with | [_, _, _], _ => rfl, fun _ _ hk => absurd hk (List.not_mem_nil)⟩
  · exact ⟨⟨t_is_list.sc, t_is_list.chk⟩, fun _ _ _ _ _ _ us hl => match us, hl with | [_, _, _], _ => rfl, fun _ _ hk => absurd hk (List.not_mem_nil)⟩
  · exact ⟨⟨t_is_world_value.sc, t_is_world_value.chk⟩, fun _ _ _ _ _ _ us hl => match us, hl with | [_], _ => rfl, fun _ _ hk => absurd hk (List.not_mem_nil)⟩
  · exact ⟨⟨t_need_world.sc, t_need_world.chk⟩, fun _ _ _ _ _ _ us hl => match us, hl with | [_], _ => rfl, fun _ _ hk => absurd hk (List.not_mem_nil)⟩
  · exact ⟨⟨t_Scene_init.sc, t_Scene_init.chk⟩, fun _ _ _ _ _ _ us hl => match us, hl with | [_, _], _ => rfl, fun _ _ hk => absurd hk (List.not_mem_nil)⟩
  · exact ⟨⟨t_Scene_things.sc, t_Scene_things.chk⟩, fun _ _ _ _ _ _ us hl => match us, hl with | [_, _], _ => rfl, fun _ _ hk => absurd hk (List.not_mem_nil)⟩
  · exact ⟨⟨t_Scene_found.sc, t_Scene_found.chk⟩, fun _ _ _ _ _ _ us hl => match us, hl with | [_, _], _ => rfl, fun _ _ hk => absurd hk (List.not_mem_nil)⟩
  · exact ⟨⟨t_Scene_outside.sc, t_Scene_outside.chk⟩, fun _ _ _ _ _ _ us hl => match us, hl with | [_, _, _], _ => rfl, fun _ _ hk => absurd hk (List.not_mem_nil)⟩
  · exact ⟨⟨t_things_of.sc, t_things_of.chk⟩, fun _ _ _ _ _ _ us hl => match us, hl with | [_, _], _ => rfl, fun _ _ hk => absurd hk (List.not_mem_nil)⟩
  · exact ⟨⟨t_things_in.sc, t_things_in.chk⟩, fun _ _ _ _ _ _ us hl => match us, hl with | [_, _], _ => rfl, fun n ks hk => by
      simp only [D_things_in, mkD, k_things_in, List.mem_cons, List.not_mem_nil, or_false, Prod.mk.injEq] at hk
      rcases hk with ⟨rfl, rfl⟩
      · exact ⟨by decide, fun _ _ _ _ _ _ us ws hu hw => match us, ws, hu, hw with | [], [_, _], _, _ => rfl⟩⟩
  · exact ⟨⟨t_does_hold_in.sc, t_does_hold_in.chk⟩, fun _ _ _ _ _ _ us hl => match us, hl with | [_, _, _], _ => rfl, fun n ks hk => by
      simp only [D_does_hold_in, mkD, k_does_hold_in, List.mem_cons, List.not_mem_nil, or_false, Prod.mk.injEq] at hk
      rcases hk with ⟨rfl, rfl⟩
      · exact ⟨by decide, fun _ _ _ _ _ _ us ws hu hw => match us, ws, hu, hw with | [], [_, _, _], _, _ => rfl⟩⟩
  · exact ⟨⟨t_law_deck.sc, t_law_deck.chk⟩, fun _ _ _ _ _ _ us hl => match us, hl with | [_], _ => rfl, fun _ _ hk => absurd hk (List.not_mem_nil)⟩
  · exact ⟨⟨t_law_draw.sc, t_law_draw.chk⟩, fun _ _ _ _ _ _ us hl => match us, hl with | [_, _], _ => rfl, fun _ _ hk => absurd hk (List.not_mem_nil)⟩
  · exact ⟨⟨t_law_pick.sc, t_law_pick.chk⟩, fun _ _ _ _ _ _ us hl => match us, hl with | [_, _], _ => rfl, fun _ _ hk => absurd hk (List.not_mem_nil)⟩
  · exact ⟨⟨t_law_name.sc, t_law_name.chk⟩, fun _ _ _ _ _ _ us hl => match us, hl with | [_, _], _ => rfl, fun _ _ hk => absurd hk (List.not_mem_nil)⟩
  · exact ⟨⟨t_law_words.sc, t_law_words.chk⟩, fun _ _ _ _ _ _ us hl => match us, hl with | [_, _], _ => rfl, fun _ _ hk => absurd hk (List.not_mem_nil)⟩
  · exact ⟨⟨t_law_is_word.sc, t_law_is_word.chk⟩, fun _ _ _ _ _ _ us hl => match us, hl with | [_], _ => rfl, fun _ _ hk => absurd hk (List.not_mem_nil)⟩
  · exact ⟨⟨t_law_concept.sc, t_law_concept.chk⟩, fun _ _ _ _ _ _ us hl => match us, hl with | [_, _, _], _ => rfl, fun _ _ hk => absurd hk (List.not_mem_nil)⟩
  · exact ⟨⟨t_law_long.sc, t_law_long.chk⟩, fun _ _ _ _ _ _ us hl => match us, hl with | [_, _], _ => rfl, fun _ _ hk => absurd hk (List.not_mem_nil)⟩
  · exact ⟨⟨t_law_world.sc, t_law_world.chk⟩, fun _ _ _ _ _ _ us hl => match us, hl with | [_, _, _], _ => rfl, fun _ _ hk => absurd hk (List.not_mem_nil)⟩
  · exact ⟨⟨t_law_things.sc, t_law_things.chk⟩, fun _ _ _ _ _ _ us hl => match us, hl with | [_, _, _], _ => rfl, fun _ _ hk => absurd hk (List.not_mem_nil)⟩
  · exact ⟨⟨t_law_is_tied.sc, t_law_is_tied.chk⟩, fun _ _ _ _ _ _ us hl => match us, hl with | [_, _, _, _], _ => rfl, fun _ _ hk => absurd hk (List.not_mem_nil)⟩
  · exact ⟨⟨t_law.sc, t_law.chk⟩, fun _ _ _ _ _ _ us hl => match us, hl with | [_], _ => rfl, fun _ _ hk => absurd hk (List.not_mem_nil)⟩
theorem all_w : ∀ d ∈ defs, ∀ n args S Q E, d.c n args S Q E → wB_ (Tn n) noW d.body (fnEnd Q) (initE d.N args) S := by
  intro d hd
  simp only [defs, List.mem_cons, List.not_mem_nil, or_false] at hd
  rcases hd with rfl | rfl | rfl | rfl | rfl | rfl | rfl | rfl | rfl | rfl | rfl | rfl | rfl | rfl | rfl | rfl | rfl | rfl | rfl | rfl | rfl | rfl | rfl | rfl | rfl | rfl | rfl | rfl | rfl | rfl | rfl | rfl | rfl | rfl
  · exact w_is_integer
  · exact w_is_between
  · exact w_is_row
  · exact w_are_rising
  · exact w_is_kind
  · exact w_is_word_value
  · exact w_is_concept_value
  · exact w_need_concept
  · exact w_text_of
  · exact w_is_thing_of
  · exact w_is_tie
  · exact w_are_listed
  · exact w_is_list
  · exact w_is_world_value
  · exact w_need_world
  · exact w_Scene_init
  · exact w_Scene_things
  · exact w_Scene_found
  · exact w_Scene_outside
  · exact w_things_of
  · exact w_things_in
  · exact w_does_hold_in
  · exact w_law_deck
  · exact w_law_draw
  · exact w_law_pick
  · exact w_law_name
  · exact w_law_words
  · exact w_law_is_word
  · exact w_law_concept
  · exact w_law_long
  · exact w_law_world
  · exact w_law_things
  · exact w_law_is_tied
  · exact w_law
abbrev Rw : PySem.W.OpenRow := PySem.W.OpenLaw.row PySem.Challenge.rw_tellalike_k06_whole_what_is_in_a_concept
abbrev hk : PySem.W.Hook := hookV 4 (factsOf defs cs fs) (defs.map toDef) (tupsOf cs)
def ob (s : PySem.W.SharedT) : AlV := obsVG 4 (factsOf defs cs fs) (defs.map toDef) (tupsOf cs) (HandSHeadRun.getT s)
theorem ob_eq (s : PySem.W.SharedT) : ob s = hk.obs s.abs := obsVG_eq (HandSHeadRun.getT_eq s)
abbrev lse : List Str := (["__name__", "is_integer", "is_between", "is_row", "are_rising", "is_kind", "__name__", "TellError", "BadConcept", "BadWorld", "__name__", "LETTERS", "MOST_LETTERS", "RESERVED", "ALL", "NONE"] : List Str) ++ (["WORD", "AND", "SOME", "is_word_value", "is_concept_value", "need_concept", "text_of", "__name__", "MOST_THINGS", "is_thing_of", "is_tie", "are_listed", "is_list", "is_world_value", "need_world", "Scene"] : List Str) ++ (["things_of", "__name__", "things_in", "does_hold_in", "__name__", "_law_deck", "_law_draw", "_law_pick", "_law_name", "_law_words", "_law_is_word", "_law_concept", "_law_long", "_law_world", "_law_things", "_law_is_tied"] : List Str)
theorem run (w : World) : HandSHeadRun.RunEq Rw (PySem.W.view Rw.prog [48]) hk ob 3000 lse w := by
  intro os
  kernel_rfl
end K01
open PyProof.Rows PySem.Calls PySem PySem.W
theorem PySem.Challenge.cw_tellalike_k06_whole_what_is_in_a_concept_holds : PySem.Challenge.rw_tellalike_k06_whole_what_is_in_a_concept.Holds := by
  w_on; o_law
  refine HandSHeadRun.head_any (r := K01.Rw) (q := view (K01.Rw).prog [48]) (H := K01.hk) (ob := K01.ob) (M := 3000) (loose := K01.lse) (d := HandSHeadRun.topDef (K01.Rw).prog 48) (kwd := []) K01.ob_eq
    (by kernel_rfl) (fun s => by kernel_rfl) K01.run (by kernel_rfl) (by kernel_rfl) (by kernel_rfl) (by rfl) (by first | assumption | decide +kernel) (by decide +kernel) ⟨rfl, rfl, rfl, rfl, rfl, by decide +kernel⟩ ?hw ?hc
  case hw => w_witness2
  case hc =>
    refine GL.walkG (l := PySem.Challenge.rw_tellalike_k06_whole_what_is_in_a_concept) (n := 63) (k := 126) (x := "script") (CX := L2.CX0) rfl (by decide) (by kernel_rfl) ⟨rfl, by decide, by decide⟩ (by decide +kernel) ?F (fun _ _ _ _ z => z)
    intro w mg fa h Y G hmg0
    obtain ⟨K, X, c⟩ := Y
    have hmg : (mg ("law" : PySem.Str) = some (.ref fa)) := by
      have e : (HandSHeadRun.topDef (K01.Rw).prog 48).name = ("law" : PySem.Str) := by kernel_rfl
      rw [← e]
      exact hmg0
    exact GL.law_at (k := 126) X G K01.all_ok c K01.all_w (d := K01.D_law) (List.mem_of_find?_eq_some K01.f_law) rfl rfl (fun S ns hn Q hQ => (show _ ∧ _ ∧ GL.cLaw _ S Q from ⟨by decide, rfl, ns, rfl, hn, hQ⟩)) hmg
end
