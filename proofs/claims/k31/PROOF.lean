import PyProof.Rows.All
import HandS.ForMost
import HandS.ForExc
import HandS.Wide
import HandS.WideBits
import HandS.Gcd
import HandS.Deep
import HandS.IsInst
import HandS.TupAny
import HandS.TupLe
import HandS.Style
import HandS.Flow
import HandS.Conv
import KE.KMathG
import KE.DataMinMax
import KE.DataEq
import KE.DataCmp
import KE.DatumIndex
import HandS.HeadHook1
import HandS.HeadHook2
import HandS.Ends
import HandS.Words
import HandS.WordsExc
import HandS.Defaults
import HandS.Head0
import HandS.Head1
import HandS.Head2
import HandS.HeadEnd
import HandS.Head3
import PySem.Challenge.RW_formsbeyond_k31_reduced_forms_at_their_e
set_option Elab.async false
set_option linter.all false
set_option maxRecDepth 100000
/-! New tuples, each known to its object: so their methods may be looked up. -/
namespace DL
open PySem PySem.Spec PyProof.Rows L2
section
variable {X : Cx} {es : List Expr} {t : TA} {pos : Pos}
/-- a new tuple, locked as what it is -/
abbrev NewT (xs : List V) (H : Hp) (Q : VK) : Prop := ∀ (p : Addr) (o : Obj), o.dict = none → H p = none → Q (.ref p) (upd H p (.frz o (.tup xs)))
theorem laidT {pins : List (Addr × Obj)} {σ : L2.St} {H : Hp} {s : Shared} {xs : List V} {us : List Value} {Q : VK} {t' : Nat} (I : Inv X pins σ H s) (r : Vals xs us) (z : xs.length ≤ sizeLine) (q : NewT xs H Q) :
    EP X pins σ Q (.ref s.heap.objs.size) { s with heap := s.heap.push { cls := .type "tuple", data := .seq us.toArray }, toks := t' } := by
  have hf : H s.heap.objs.size = none := I.hok.fresh (Nat.le_refl _)
  refine ⟨.ref s.heap.objs.size, _, I.laid (t' := t') (o := .frz { cls := .type "tuple", data := .seq us.toArray } (.tup xs)) (fun b u e => Heap.get?_push_of_some _ e) (Nat.le_refl _) ?_, rfl, q _ _ rfl hf⟩
  exact ⟨Heap.get?_push_size _ rfl, z, us, r, ⟨_, Heap.get?_push_size _ rfl, rfl, _, rfl⟩⟩
def tTupZ (t : TA) : TE := fun σ H Q => t σ H fun xs H1 => xs.length ≤ sizeLine ∧ NewT xs H1 Q
theorem pe_tupZ {x1} (h : PA X es t) : PE X (.Tuple es x1 pos) (tTupZ t) := by
  refine ⟨fun pins s σ H Q I hq => ?_⟩
  exact wpAny_Tuple_spliced (thn (h.run pos pins s σ H _ I hq) fun us s1 ⟨xs, H1, I1, r, z, q⟩ => ⟨by rw [← r.length]; exact z, laidT (t' := s1.toks) I1 r z q⟩)
theorem call_tupleZ : CallR X (.type "tuple") (fun xs H Q => ∃ p ys, xs = [.ref p] ∧ ((SqL X.K H p ys ∧ NewT ys H Q) ∨ (SqT X.K H p ys ∧ Q (.ref p) H))) := by
  intro pins s σ H xs us Q I r h
  obtain ⟨p, ys, rfl, h⟩ := h
  obtain ⟨u, rfl, rx⟩ := vals1 r
  cases rx
  rcases h with ⟨hq, q⟩ | ⟨hq, q⟩
  · obtain ⟨its, r', pl, hz⟩ := I.list hq
    have hlen := r'.length
    refine call_tuple_list pl.isList (fun h' kp => ?_) (by simp only [List.size_toArray] <;> omega)
    have I1 : Inv X pins σ H { s with heap := h' } := I.kept (t' := s.toks) kp
    exact laidT (t' := s.toks) I1 r' hz q
  · obtain ⟨its, r', pl, hz⟩ := I.tuple hq
    exact call_tuple_same pl ⟨.ref p, H, I, rfl, q⟩
def rCatZ (K : PySem.W.Frag) : R2 := fun x y H Q => ∃ a b xs ys, x = .ref a ∧ y = .ref b ∧ SqT K H a xs ∧ SqT K H b ys ∧ xs.length + ys.length ≤ sizeLine ∧
  (xs = [] → Q (.ref b) H) ∧ (xs ≠ [] → ys = [] → Q (.ref a) H) ∧ (xs ≠ [] → ys ≠ [] → NewT (xs ++ ys) H Q)
theorem op_catZ : OpR X (binaryOp .Add) (rCatZ X.K) := by
  intro pins s σ H x y v u Q I rx ry h
  obtain ⟨a, b, xs, ys, rfl, rfl, ha, hb, hz, q0, q1, q2⟩ := h
  by_cases hx : xs = []
  · exact op_catA pins s σ H _ _ v u Q I rx ry ⟨a, b, xs, ys, rfl, rfl, ha, hb, hz, q0, fun z => absurd hx z, fun z => absurd hx z⟩
  · cases rx
    cases ry
    obtain ⟨its, r1, p1, _⟩ := I.tuple ha
    obtain ⟨its2, r2, p2, _⟩ := I.tuple hb
    refine HT.cat_tup p1 p2 (fun z => hx (r1.nil_iff.mp z)) (fun z => ⟨.ref a, H, I, rfl, q1 hx (r2.nil_iff.mp z)⟩) (fun z => ?_) (by rw [← r1.length, ← r2.length]; exact hz)
    exact laidT (t' := s.toks) I (r1.append r2) (by rw [List.length_append]; exact hz) (q2 hx fun w => z (r2.nil_iff.mpr w))
def rSlZ (K : PySem.W.Frag) : V → Option Int → Option Int → Hp → VK → Prop := fun x lo hi H Q => ∃ a xs, x = .ref a ∧ SqT K H a xs ∧
  (HT.sIx xs.length 0 lo = 0 ∧ HT.sIx xs.length xs.length hi = xs.length → Q (.ref a) H) ∧ (¬ (HT.sIx xs.length 0 lo = 0 ∧ HT.sIx xs.length xs.length hi = xs.length) → NewT (cutV xs lo hi) H Q)
theorem sl_tupZ : SlR X (rSlZ X.K) := by
  intro pins s σ H x v vl vu lo hi sl Q I rx hs pl pu h
  obtain ⟨a, xs, rfl, hx, q1, q2⟩ := h
  by_cases hw : HT.sIx xs.length 0 lo = 0 ∧ HT.sIx xs.length xs.length hi = xs.length
  · exact sl_tupA pins s σ H _ v vl vu lo hi sl Q I rx hs pl pu ⟨a, xs, rfl, hx, q1, fun z => absurd hw z⟩
  · cases rx
    obtain ⟨its, r, ht, hz⟩ := I.tuple hx
    have hlen : its.toArray.size = xs.length := by rw [List.size_toArray]; exact r.length.symm
    refine ⟨"tuple", _, PyProof.Rows.slot_tuple_getitem.lookup, ht.typeIs, ?_⟩
    refine HT.getItem_tuple_cut ht hs pl pu (by rw [hlen]; exact hw) ?_ (by rw [hlen]; exact hz)
    rw [hlen]
    exact laidT (t' := s.toks) I ((r.drop (HT.sIx xs.length 0 lo)).take (HT.sIx xs.length xs.length hi - HT.sIx xs.length 0 lo)) (Nat.le_trans (cutV_length xs lo hi) hz) (q2 hw)
/-- a method of such a tuple -/
def tyZ (K : PySem.W.Frag) (H : Hp) (x : V) : Prop := ∃ a o, x = .ref a ∧ ((∃ xs, H a = some (.frz o (.tup xs))) ∨ (K.lookup a = some o ∧ o.cls = .type "tuple")) ∧ o.dict = none
def tBMt (K : PySem.W.Frag) (r : V → List V → Hp → VK → Prop) (to : TE) (t : TA) : TE := fun σ H Q => to σ H fun x H1 => tyZ K H1 x ∧ t σ H1 fun xs H2 => r x xs H2 Q
variable {o e : Expr} {to : TE} {name : Str} {apos cpos : Pos} {id : String} {r : V → List V → Hp → VK → Prop}
theorem pe_bmT (pa : PlainAttrs "tuple") (slot : Slot "tuple" name id) (hty : typeOf (.builtin id) = pure (.type "method_descriptor")) (hm : MtR X id r) (ho : PE X o to) (ha : PA X (e :: es) t)
    (hbase : attributeBase o name X.env (eval o X.env) = eval o X.env := by rfl)
    (hfew : ((backTo cpos (starEach (e :: es) X.env)).all (fun x => !x.1) && (backToKw cpos (keywordEach [] X.env)).all (fun x => x.1.isSome)
      && decide ((e :: es).length + ([] : List Keyword).length + (if ([] : List Keyword).isEmpty then 0 else 1) < 30)) = true := by rfl)
    (hline : (apos.endLine == cpos.line) = true := by rfl) (hs : starEach (e :: es) X.env = (false, eval e X.env) :: starEach es X.env := by rfl) (hplain : (backTo cpos (starEach es X.env)).any (·.1) = false := by rfl) :
    PE X (.Call (.Attribute o name apos) (e :: es) [] cpos) (tBMt X.K r to t) := by
  refine ⟨fun pins s σ H Q I h => ?_⟩
  refine wpAny_Call_method_late hbase hfew hline rfl (thn (ho.run pins s σ H _ I h) fun v s1 ⟨x, H1, I1, r1, ty, q1⟩ => ?_)
  obtain ⟨a, ob, rfl, ty, hd⟩ := ty
  cases r1
  have hob : s1.heap.get? a = some ob ∧ ob.cls = .type "tuple" := by
    rcases ty with ⟨xs, ea⟩ | ⟨ea, hc⟩
    · obtain ⟨ho2, _, its, rv, ht⟩ := I1.hok a _ ea
      obtain ⟨ob', hh, hc, _⟩ := ht
      rw [ho2] at hh
      cases hh
      exact ⟨ho2, hc⟩
    · exact ⟨I1.kIn a ob ea, hc⟩
  refine ⟨"tuple", id, pa, slot, hty, ?_, fun a' e' => ?_, ?_⟩
  · exact ⟨ob, hob.1, hob.2⟩
  · cases e'
    exact ⟨ob, hob.1, hd⟩
  have hA := ha.run cpos pins s1 σ H1 _ I1 q1
  rw [hs] at hA ⊢
  refine Calls.callWith_builtin (by show (false || (backTo cpos (starEach es X.env)).any (·.1)) = false; rw [hplain] <;> rfl) (Calls.evalArgs_plain ?_)
  exact thn hA fun us s2 ⟨vs, H2, I2, r2, q2⟩ => hm pins s2 σ H2 (.ref a) vs (.ref a) us Q I2 rfl r2 q2
end
end DL

/-! The data layer: values as trees of data, slots of data. My own layer over the hand layer. -/
namespace DL
open PySem PySem.Spec PyProof.Rows L2

/-! ### data in the heap -/
def KL (K : PySem.W.Frag) (a : Addr) (xs : List V) : Prop :=
  ∃ (o : Obj) (its : Array Value) (n : Nat), K.lookup a = some o ∧ o.cls = .type "list" ∧ o.dict = none ∧ o.data = .seq its n ∧ its.size ≤ sizeLine ∧ Vals xs its.toList
def KT (K : PySem.W.Frag) (a : Addr) (xs : List V) : Prop :=
  ∃ (o : Obj) (its : Array Value) (n : Nat), K.lookup a = some o ∧ o.cls = .type "tuple" ∧ o.dict = none ∧ o.data = .seq its n ∧ its.size ≤ sizeLine ∧ Vals xs its.toList
abbrev AP := Addr → Prop
def SqLP (K : PySem.W.Frag) (P : AP) (H : Hp) (a : Addr) (xs : List V) : Prop := SqL K H a xs ∧ (P a ∨ KL K a xs)
def SqTP (K : PySem.W.Frag) (P : AP) (H : Hp) (a : Addr) (xs : List V) : Prop := SqT K H a xs ∧ ((P a ∧ ∃ o, H a = some (.frz o (.tup xs)) ∧ o.dict = none) ∨ KT K a xs)
mutual
inductive Dv (K : PySem.W.Frag) (P : AP) (H : Hp) : V → PyData → Prop
  | non : Dv K P H .non .none
  | bl (b : Bool) : Dv K P H (.bl b) (.bool b)
  | int (i : Int) : Dv K P H (.int i) (.int i)
  | str (x : Str) : Dv K P H (.str x) (.str x)
  | lst {a : Addr} {xs : List V} {ds : List PyData} : SqLP K P H a xs → DvAll K P H xs ds → Dv K P H (.ref a) (.list ds)
  | tup {a : Addr} {xs : List V} {ds : List PyData} : SqTP K P H a xs → DvAll K P H xs ds → Dv K P H (.ref a) (.tuple ds)
inductive DvAll (K : PySem.W.Frag) (P : AP) (H : Hp) : List V → List PyData → Prop
  | nil : DvAll K P H [] []
  | cons {v : V} {vs : List V} {d : PyData} {ds : List PyData} : Dv K P H v d → DvAll K P H vs ds → DvAll K P H (v :: vs) (d :: ds)
end
/-- what is protected stays -/
structure Stp (P : AP) (H : Hp) (P' : AP) (H' : Hp) : Prop where
  sub : ∀ b, P b → P' b
  eq : ∀ b, P b → H' b = H b
theorem Stp.refl (P : AP) (H : Hp) : Stp P H P H := ⟨fun _ h => h, fun _ _ => rfl⟩
theorem Stp.trans {P P1 P2 : AP} {H H1 H2 : Hp} (a : Stp P H P1 H1) (b : Stp P1 H1 P2 H2) : Stp P H P2 H2 :=
  ⟨fun c h => b.sub c (a.sub c h), fun c h => (b.eq c (a.sub c h)).trans (a.eq c h)⟩
theorem SqLP.mono {K : PySem.W.Frag} {P P' : AP} {H H' : Hp} {a : Addr} {xs : List V} (st : Stp P H P' H') (h : SqLP K P H a xs) : SqLP K P' H' a xs := by
  obtain ⟨h, hp | hk⟩ := h
  · refine ⟨?_, .inl (st.sub _ hp)⟩
    rcases h with h | h
    · refine .inl ?_
      unfold Rd
      rw [st.eq a hp]
      exact h
    · exact .inr h
  · exact ⟨.inr hk, .inr hk⟩
theorem KT.sq {K : PySem.W.Frag} {H : Hp} {a : Addr} {xs : List V} (h : KT K a xs) : SqT K H a xs := by
  obtain ⟨o, its, n, h1, h2, h3, h4⟩ := h
  exact .inr ⟨o, its, n, h1, h2, h4⟩
theorem SqTP.mono {K : PySem.W.Frag} {P P' : AP} {H H' : Hp} {a : Addr} {xs : List V} (st : Stp P H P' H') (h : SqTP K P H a xs) : SqTP K P' H' a xs := by
  obtain ⟨h, ⟨hp, o, e, d⟩ | hk⟩ := h
  · have e' : H' a = some (.frz o (.tup xs)) := (st.eq a hp).trans e
    exact ⟨.inl (.inr ⟨o, e'⟩), .inl ⟨st.sub _ hp, o, e', d⟩⟩
  · exact ⟨hk.sq, .inr hk⟩
section
variable {K : PySem.W.Frag} {P P' : AP} {H H' : Hp}
mutual
theorem Dv.mono (st : Stp P H P' H') : ∀ {v : V} {d : PyData}, Dv K P H v d → Dv K P' H' v d
  | _, _, .non => .non
  | _, _, .bl b => .bl b
  | _, _, .int i => .int i
  | _, _, .str x => .str x
  | _, _, .lst h t => .lst (h.mono st) (DvAll.mono st t)
  | _, _, .tup h t => .tup (h.mono st) (DvAll.mono st t)
theorem DvAll.mono (st : Stp P H P' H') : ∀ {vs : List V} {ds : List PyData}, DvAll K P H vs ds → DvAll K P' H' vs ds
  | _, _, .nil => .nil
  | _, _, .cons h t => .cons (Dv.mono st h) (DvAll.mono st t)
end
mutual
theorem Dv.dp : ∀ {v : V} {d : PyData}, Dv K P H v d → Dp K H v d
  | _, _, .non => .non
  | _, _, .bl b => .bl b
  | _, _, .int i => .int i
  | _, _, .str x => .str x
  | _, _, .lst h t => .lst h.1 (DvAll.dp t)
  | _, _, .tup h t => .tup h.1 (DvAll.dp t)
theorem DvAll.dp : ∀ {vs : List V} {ds : List PyData}, DvAll K P H vs ds → DpAll K H vs ds
  | _, _, .nil => .nil
  | _, _, .cons h t => .cons (Dv.dp h) (DvAll.dp t)
end
theorem DvAll.length : ∀ {vs : List V} {ds : List PyData}, DvAll K P H vs ds → vs.length = ds.length
  | _, _, .nil => rfl
  | _, _, .cons _ t => congrArg (· + 1) t.length
theorem DvAll.get : ∀ {vs : List V} {ds : List PyData} {i : Nat} {d : PyData}, DvAll K P H vs ds → ds[i]? = some d → ∃ v, vs[i]? = some v ∧ Dv K P H v d
  | _, _, _, _, .nil, e => by simp at e
  | _, _, 0, _, .cons h _, e => by simp at e; subst e; exact ⟨_, rfl, h⟩
  | _, _, i + 1, d, .cons _ t, e => by
    obtain ⟨v, h1, h2⟩ := DvAll.get (i := i) (d := d) t (by simpa using e)
    exact ⟨v, by simpa using h1, h2⟩
theorem DvAll.getV : ∀ {vs : List V} {ds : List PyData} {i : Nat} {v : V}, DvAll K P H vs ds → vs[i]? = some v → ∃ d, ds[i]? = some d ∧ Dv K P H v d
  | _, _, _, _, .nil, e => by simp at e
  | _, _, 0, _, .cons h _, e => by simp at e; subst e; exact ⟨_, rfl, h⟩
  | _, _, i + 1, d, .cons _ t, e => by
    obtain ⟨v, h1, h2⟩ := DvAll.getV (i := i) t (by simpa using e)
    exact ⟨v, by simpa using h1, h2⟩
theorem DvAll.append : ∀ {vs ws : List V} {ds es : List PyData}, DvAll K P H vs ds → DvAll K P H ws es → DvAll K P H (vs ++ ws) (ds ++ es)
  | _, _, _, _, .nil, h => h
  | _, _, _, _, .cons h t, u => .cons h (DvAll.append t u)
theorem DvAll.take : ∀ {vs : List V} {ds : List PyData} (n : Nat), DvAll K P H vs ds → DvAll K P H (vs.take n) (ds.take n)
  | _, _, 0, _ => .nil
  | _, _, _ + 1, .nil => .nil
  | _, _, n + 1, .cons h t => .cons h (DvAll.take n t)
theorem DvAll.drop : ∀ {vs : List V} {ds : List PyData} (n : Nat), DvAll K P H vs ds → DvAll K P H (vs.drop n) (ds.drop n)
  | _, _, 0, h => h
  | _, _, _ + 1, .nil => .nil
  | _, _, n + 1, .cons _ t => DvAll.drop n t
theorem DvAll.set {v : V} {d : PyData} (h : Dv K P H v d) : ∀ {vs : List V} {ds : List PyData} (i : Nat), DvAll K P H vs ds → DvAll K P H (vs.set i v) (ds.set i d)
  | _, _, _, .nil => .nil
  | _, _, 0, .cons _ t => .cons h t
  | _, _, i + 1, .cons q t => .cons q (DvAll.set h i t)
theorem DvAll.dropLast : ∀ {vs : List V} {ds : List PyData}, DvAll K P H vs ds → DvAll K P H vs.dropLast ds.dropLast := fun {vs ds} h => by
  rw [List.dropLast_eq_take, List.dropLast_eq_take, h.length]
  exact h.take _
theorem DvAll.ints : ∀ {vs : List V} {ns : List Int}, DvAll K P H vs (ns.map .int) → vs = ns.map V.int
  | _, [], .nil => rfl
  | _, n :: ns, .cons h t => by
    cases h
    rw [DvAll.ints t]
    rfl
theorem DvAll.ofInts : ∀ (ns : List Int), DvAll K P H (ns.map V.int) (ns.map .int)
  | [] => .nil
  | n :: ns => .cons (.int n) (DvAll.ofInts ns)
end

/-! ### slots -/
inductive Sl where
  | un
  | dt (d : PyData)
  | ow (xs : List PyData)
  | dk
  | od (xs : List PyData)
def Sl.own : Sl → Bool
  | .ow _ | .dk | .od _ => true
  | _ => false
def Sl.notOd : Sl → Bool
  | .od _ => false
  | _ => true
def IntSeq (d : PyData) : Prop := ∃ ns : List Int, (d = .list (ns.map .int) ∨ d = .tuple (ns.map .int)) ∧ ns.length ≤ 71
def DkShape (c : Nat) (ds : List PyData) : Prop := ∃ (hd : PyData) (k r : Int), ds = [hd, .int k, .int r] ∧ IntSeq hd ∧ 0 ≤ k ∧ k ≤ c
theorem DkShape.mono {c c' : Nat} {ds : List PyData} (h : DkShape c ds) (l : c ≤ c') : DkShape c' ds := by
  obtain ⟨hd, k, r, e, h1, h2, h3⟩ := h
  exact ⟨hd, k, r, e, h1, h2, by omega⟩
/-- of a call: the heap at its entry, what was protected, the decks -/
structure Cd where
  H0 : Hp
  P0 : AP
  DK : AP
def DeckR (K : PySem.W.Frag) (P : AP) (H : Hp) (c : Nat) (a : Addr) : Prop := ∃ vs ds, H a = some (.lst vs) ∧ DvAll K P H vs ds ∧ DkShape c ds
/-- a protected tuple is known to its object -/
def TupOk (o : Option HO) : Prop := (∀ xs, o ≠ some (.tup xs)) ∧ ∀ ob xs, o = some (.frz ob (.tup xs)) → ob.dict = none
theorem TupOk.lst (xs : List V) : TupOk (some (.lst xs)) := by
  constructor
  · intro _ h; cases h
  · intro _ _ h; cases h
theorem TupOk.frz {ob : Obj} {xs : List V} (h : ob.dict = none) : TupOk (some (.frz ob (.tup xs))) := by
  constructor
  · intro _ h; cases h
  · intro _ _ e; cases e; exact h
structure Base (K : PySem.W.Frag) (G : Cd) (P : AP) (H : Hp) (c : Nat) : Prop where
  tr : ∀ b, P b → ∃ o, H b = some o
  pdk : ∀ b, P b → ¬ G.DK b
  pn : ∀ b, P b → G.P0 b ∨ G.H0 b = none
  keep : ∀ b o, G.H0 b = some o → ¬ G.DK b → H b = some o
  dks : ∀ a, G.DK a → DeckR K P H c a
  fz : ∀ b, P b → TupOk (H b)
def SlR (K : PySem.W.Frag) (G : Cd) (P : AP) (H : Hp) (c : Nat) (s : Sl) (so : Option (Option V)) : Prop :=
  match s with
  | .un => True
  | .dt d => ∃ v, so = some (some v) ∧ Dv K P H v d
  | .ow xs => ∃ a vs, so = some (some (.ref a)) ∧ H a = some (.lst vs) ∧ DvAll K P H vs xs ∧ ¬ P a ∧ G.H0 a = none ∧ ¬ G.DK a
  | .dk => ∃ a, so = some (some (.ref a)) ∧ DeckR K P H c a ∧ ¬ P a ∧ (G.H0 a = none ∨ G.DK a)
  | .od xs => ∃ a vs, so = some (some (.ref a)) ∧ H a = some (.lst vs) ∧ DvAll K P H vs xs ∧ ¬ P a ∧ DkShape c xs ∧ (G.H0 a = none ∨ G.DK a)
structure EnvR (K : PySem.W.Frag) (G : Cd) (P : AP) (H : Hp) (c : Nat) (ρ : List Sl) (σ : L2.St) : Prop where
  base : Base K G P H c
  len : ρ.length = σ.length
  sl : ∀ (i : Nat) (s : Sl), ρ[i]? = some s → SlR K G P H c s σ[i]?
  inj : ∀ (i j : Nat) (s t : Sl) (a : Addr), ρ[i]? = some s → ρ[j]? = some t → s.own = true → t.own = true → σ[i]? = some (some (.ref a)) → σ[j]? = some (some (.ref a)) → i = j

section
variable {K : PySem.W.Frag} {G : Cd} {P P' : AP} {H H' : Hp} {c c' : Nat} {ρ : List Sl} {σ : L2.St}
/-- a new object, protected -/
def ins (P : AP) (p : Addr) : AP := fun b => P b ∨ b = p
theorem Stp.new {p : Addr} {o : HO} (B : ∀ b, P b → ∃ o, H b = some o) (np : H p = none) : Stp P H (ins P p) (upd H p o) :=
  ⟨fun _ h => .inl h, fun b h => upd_ne (fun e => by obtain ⟨o, q⟩ := B b h; rw [e, np] at q; cases q)⟩
theorem Stp.newO {p : Addr} {o : HO} (B : ∀ b, P b → ∃ o, H b = some o) (np : H p = none) : Stp P H P (upd H p o) :=
  ⟨fun _ h => h, fun b h => upd_ne (fun e => by obtain ⟨o, q⟩ := B b h; rw [e, np] at q; cases q)⟩
theorem DeckR.stp {a : Addr} (st : Stp P H P' H') (e : H' a = H a) (h : DeckR K P H c a) : DeckR K P' H' c a := by
  obtain ⟨vs, ds, h1, h2, h3⟩ := h
  exact ⟨vs, ds, by rw [e]; exact h1, h2.mono st, h3⟩
theorem DeckR.mono {a : Addr} (h : DeckR K P H c a) (l : c ≤ c') : DeckR K P H c' a := by
  obtain ⟨vs, ds, h1, h2, h3⟩ := h
  exact ⟨vs, ds, h1, h2, h3.mono l⟩
theorem Base.free (B : Base K G P H c) {b : Addr} (h : H b = none) : G.H0 b = none := by
  cases e : G.H0 b with
  | none => rfl
  | some o =>
    by_cases d : G.DK b
    · obtain ⟨vs, ds, q, _⟩ := B.dks b d
      rw [h] at q; cases q
    · have := B.keep b o e d
      rw [h] at this; cases this
theorem Base.new (B : Base K G P H c) {p : Addr} {o : HO} (np : H p = none) (ok : TupOk (some o)) : Base K G (ins P p) (upd H p o) c where
  tr := fun b h => by
    by_cases e : b = p
    · exact ⟨o, by rw [e, upd_same]⟩
    · rw [upd_ne e]
      exact B.tr b (h.resolve_right e)
  pdk := fun b h d => by
    rcases h with h | h
    · exact B.pdk b h d
    · obtain ⟨vs, ds, q, _⟩ := B.dks b d
      rw [h, np] at q; cases q
  pn := fun b h => by
    rcases h with h | h
    · exact B.pn b h
    · subst h
      exact .inr (B.free np)
  keep := fun b q e d => by
    have h := B.keep b q e d
    rw [upd_ne (ne_of_none h np)]
    exact h
  dks := fun a d => by
    obtain ⟨vs, ds, q, _⟩ := B.dks a d
    exact (B.dks a d).stp (Stp.new B.tr np) (upd_ne (ne_of_none q np))
  fz := fun b h => by
    by_cases e : b = p
    · rw [e, upd_same]; exact ok
    · rw [upd_ne e]
      exact B.fz b (h.resolve_right e)
theorem Base.newO (B : Base K G P H c) {p : Addr} {o : HO} (np : H p = none) : Base K G P (upd H p o) c where
  tr := fun b h => by
    by_cases e : b = p
    · exact ⟨o, by rw [e, upd_same]⟩
    · rw [upd_ne e]
      exact B.tr b h
  pdk := B.pdk
  pn := B.pn
  keep := fun b q e d => by
    have h := B.keep b q e d
    rw [upd_ne (ne_of_none h np)]
    exact h
  dks := fun a d => by
    obtain ⟨vs, ds, q, _⟩ := B.dks a d
    exact (B.dks a d).stp (Stp.newO B.tr np) (upd_ne (ne_of_none q np))
  fz := fun b h => by
    obtain ⟨o, q⟩ := B.tr b h
    rw [upd_ne (ne_of_none q np)]
    exact B.fz b h
theorem SlR.at {s : Sl} {so : Option (Option V)} (h : SlR K G P H c s so) (o : s.own = true) : ∃ a vs, so = some (some (.ref a)) ∧ H a = some (.lst vs) ∧ ¬ P a := by
  cases s with
  | un => cases o
  | dt d => cases o
  | ow xs => obtain ⟨a, vs, e, h1, _, h2, _⟩ := h; exact ⟨a, vs, e, h1, h2⟩
  | od xs => obtain ⟨a, vs, e, h1, _, h2, _⟩ := h; exact ⟨a, vs, e, h1, h2⟩
  | dk => obtain ⟨a, e, ⟨vs, ds, h1, _⟩, h2, _⟩ := h; exact ⟨a, vs, e, h1, h2⟩
/-- a slot's word under a step that keeps the own lists -/
theorem SlR.step {s : Sl} {so : Option (Option V)} (h : SlR K G P H c s so) (st : Stp P H P' H') (ho : ∀ a vs, s.own = true → so = some (some (.ref a)) → H a = some (.lst vs) → ¬ P a → H' a = some (.lst vs) ∧ ¬ P' a) : SlR K G P' H' c s so := by
  cases s with
  | un => exact True.intro
  | dt d => obtain ⟨v, e, h⟩ := h; exact ⟨v, e, h.mono st⟩
  | ow xs =>
    obtain ⟨a, vs, e, h1, h2, h3, h4⟩ := h
    obtain ⟨q1, q2⟩ := ho a vs rfl e h1 h3
    exact ⟨a, vs, e, q1, h2.mono st, q2, h4⟩
  | od xs =>
    obtain ⟨a, vs, e, h1, h2, h3, h4⟩ := h
    obtain ⟨q1, q2⟩ := ho a vs rfl e h1 h3
    exact ⟨a, vs, e, q1, h2.mono st, q2, h4⟩
  | dk =>
    obtain ⟨a, e, ⟨vs, ds, h1, h2⟩, h3, h4⟩ := h
    obtain ⟨q1, q2⟩ := ho a vs rfl e h1 h3
    exact ⟨a, e, ⟨vs, ds, q1, h2.1.mono st, h2.2⟩, q2, h4⟩
theorem EnvR.new (E : EnvR K G P H c ρ σ) {p : Addr} {o : HO} (np : H p = none) (ok : TupOk (some o)) : EnvR K G (ins P p) (upd H p o) c ρ σ where
  base := E.base.new np ok
  len := E.len
  sl := fun i s h => (E.sl i s h).step (Stp.new E.base.tr np) fun a vs _ _ h1 h2 => by
    have ne := ne_of_none h1 np
    exact ⟨by rw [upd_ne ne]; exact h1, fun z => z.elim h2 ne⟩
  inj := E.inj
theorem EnvR.newO (E : EnvR K G P H c ρ σ) {p : Addr} {o : HO} (np : H p = none) : EnvR K G P (upd H p o) c ρ σ where
  base := E.base.newO np
  len := E.len
  sl := fun i s h => (E.sl i s h).step (Stp.newO E.base.tr np) fun a vs _ _ h1 h2 => by
    have ne := ne_of_none h1 np
    exact ⟨by rw [upd_ne ne]; exact h1, h2⟩
  inj := E.inj
/-- slot i takes data -/
theorem EnvR.setD (E : EnvR K G P H c ρ σ) {i : Nat} {v : V} {d : PyData} (h : Dv K P H v d) : EnvR K G P H c (ρ.set i (.dt d)) (σ.set i (some v)) where
  base := E.base
  len := by rw [List.length_set, List.length_set]; exact E.len
  sl := fun j s e => by
    by_cases hj : j = i
    · subst hj
      by_cases hl : j < ρ.length
      · rw [List.getElem?_set_self hl] at e
        cases e
        refine ⟨v, ?_, h⟩
        rw [List.getElem?_set_self (by rw [← E.len]; exact hl)]
      · rw [List.getElem?_eq_none_iff.mpr (by rw [List.length_set]; omega)] at e
        cases e
    · rw [List.getElem?_set_ne (Ne.symm hj)] at e ⊢
      exact E.sl j s e
  inj := fun j k s t a h1 h2 o1 o2 e1 e2 => by
    have f : ∀ {j : Nat} {s : Sl}, (ρ.set i (.dt d))[j]? = some s → s.own = true → j ≠ i := fun {j s} h o z => by
      subst z
      by_cases hl : j < ρ.length
      · rw [List.getElem?_set_self hl] at h
        cases h
        cases o
      · rw [List.getElem?_eq_none_iff.mpr (by rw [List.length_set]; omega)] at h
        cases h
    have n1 := f h1 o1
    have n2 := f h2 o2
    rw [List.getElem?_set_ne (Ne.symm n1)] at h1 e1
    rw [List.getElem?_set_ne (Ne.symm n2)] at h2 e2
    exact E.inj j k s t a h1 h2 o1 o2 e1 e2
/-- a slot is forgotten, whatever it now holds -/
theorem EnvR.drop (E : EnvR K G P H c ρ σ) (i : Nat) (x : Option V) : EnvR K G P H c (ρ.set i .un) (σ.set i x) where
  base := E.base
  len := by rw [List.length_set, List.length_set]; exact E.len
  sl := fun j s e => by
    by_cases hj : j = i
    · subst hj
      by_cases hl : j < ρ.length
      · rw [List.getElem?_set_self hl] at e
        cases e
        exact True.intro
      · rw [List.getElem?_eq_none_iff.mpr (by rw [List.length_set]; omega)] at e
        cases e
    · rw [List.getElem?_set_ne (Ne.symm hj)] at e ⊢
      exact E.sl j s e
  inj := fun j k s t a h1 h2 o1 o2 e1 e2 => by
    have f : ∀ {j : Nat} {s : Sl}, (ρ.set i .un)[j]? = some s → s.own = true → j ≠ i := fun {j s} h o z => by
      subst z
      by_cases hl : j < ρ.length
      · rw [List.getElem?_set_self hl] at h
        cases h
        cases o
      · rw [List.getElem?_eq_none_iff.mpr (by rw [List.length_set]; omega)] at h
        cases h
    have n1 := f h1 o1
    have n2 := f h2 o2
    rw [List.getElem?_set_ne (Ne.symm n1)] at h1 e1
    rw [List.getElem?_set_ne (Ne.symm n2)] at h2 e2
    exact E.inj j k s t a h1 h2 o1 o2 e1 e2
theorem set_self {α : Type} : ∀ {l : List α} {i : Nat} {x : α}, l[i]? = some x → l.set i x = l
  | [], _, _, h => by simp at h
  | a :: l, 0, x, h => by simp at h; subst h; rfl
  | a :: l, i + 1, x, h => by
    show a :: l.set i x = a :: l
    rw [set_self (l := l) (i := i) (by simpa using h)]
/-- slot i takes an own list, new and of no other slot -/
theorem EnvR.setO (E : EnvR K G P H c ρ σ) {i : Nat} {p : Addr} {vs : List V} {xs : List PyData} (hp : H p = some (.lst vs)) (h : DvAll K P H vs xs) (nP : ¬ P p) (n0 : G.H0 p = none) (nd : ¬ G.DK p)
    (no : ∀ (j : Nat) (s : Sl), ρ[j]? = some s → s.own = true → σ[j]? ≠ some (some (V.ref p))) : EnvR K G P H c (ρ.set i (.ow xs)) (σ.set i (some (.ref p))) where
  base := E.base
  len := by rw [List.length_set, List.length_set]; exact E.len
  sl := fun j s e => by
    by_cases hj : j = i
    · subst hj
      by_cases hl : j < ρ.length
      · rw [List.getElem?_set_self hl] at e
        cases e
        refine ⟨p, vs, ?_, hp, h, nP, n0, nd⟩
        rw [List.getElem?_set_self (by rw [← E.len]; exact hl)]
      · rw [List.getElem?_eq_none_iff.mpr (by rw [List.length_set]; omega)] at e
        cases e
    · rw [List.getElem?_set_ne (Ne.symm hj)] at e ⊢
      exact E.sl j s e
  inj := fun j k s t a h1 h2 o1 o2 e1 e2 => by
    have lt : ∀ {j : Nat} {s : Sl}, (ρ.set i (.ow xs))[j]? = some s → j < σ.length := fun {j s} h => by
      have := (List.getElem?_eq_some_iff.mp h).1
      rw [List.length_set, E.len] at this
      exact this
    by_cases c1 : j = i <;> by_cases c2 : k = i
    · rw [c1, c2]
    · subst c1
      rw [List.getElem?_set_self (lt h1)] at e1
      rw [List.getElem?_set_ne (Ne.symm c2)] at h2 e2
      cases e1
      exact absurd e2 (no k t h2 o2)
    · subst c2
      rw [List.getElem?_set_self (lt h2)] at e2
      rw [List.getElem?_set_ne (Ne.symm c1)] at h1 e1
      cases e2
      exact absurd e1 (no j s h1 o1)
    · rw [List.getElem?_set_ne (Ne.symm c1)] at h1 e1
      rw [List.getElem?_set_ne (Ne.symm c2)] at h2 e2
      exact E.inj j k s t a h1 h2 o1 o2 e1 e2
end
end DL

/-! The judgements of the data layer, and its rules. -/
namespace DL
open PySem PySem.Spec PyProof.Rows L2

abbrev XP := Addr → PyData → Nat → List Sl → Prop
inductive Ar where
  | dt (d : PyData)
  | dk
abbrev Wx := XP → Nat → List Sl → (PyData → Nat → Prop) → Prop
abbrev Wt := XP → Nat → List Sl → (Bool → Nat → Prop) → Prop
abbrev Wa := XP → Nat → List Sl → (List Ar → Nat → Prop) → Prop
abbrev Wf := XP → Nat → List Sl → (List PyData → Nat → Prop) → Prop
def xF : XP := fun _ _ _ _ => False
abbrev WF : WX := fun _ _ _ _ => False

structure XOk (K : PySem.W.Frag) (G : Cd) (P : AP) (H : Hp) (x : XP) (W : WX) : Prop where
  go : ∀ (σ : L2.St) (C : Addr) (d : PyData) (c' : Nat) (ρ' : List Sl) (v : V) (dx : Addr) (P' : AP) (H' : Hp), x C d c' ρ' → EnvR K G P' H' c' ρ' σ → Stp P H P' H' →
    H' dx = some (.xd [("value", v)]) → Dv K P' H' v d → W (.ref C) (some dx) σ H'
section
variable {K : PySem.W.Frag} {G : Cd} {P P' : AP} {H H' : Hp} {x : XP} {W : WX}
theorem XOk.none (K : PySem.W.Frag) (G : Cd) (P : AP) (H : Hp) (W : WX) : XOk K G P H xF W := ⟨fun _ _ _ _ _ _ _ _ _ h => h.elim⟩
theorem XOk.step (h : XOk K G P H x W) (st : Stp P H P' H') : XOk K G P' H' x W :=
  ⟨fun σ C d c' ρ' v dx P2 H2 q E s2 e D => h.go σ C d c' ρ' v dx P2 H2 q E (st.trans s2) e D⟩
end


/-- all decks of a state -/
def DkAll (G : Cd) (ρ : List Sl) (σ : L2.St) : AP := fun a => G.DK a ∨ ∃ i : Nat, ρ[i]? = some .dk ∧ σ[i]? = some (some (V.ref a))
/-- a step within an expression: what is protected stays, and all that is tracked but the decks -/
structure Sx (G : Cd) (ρ : List Sl) (σ : L2.St) (P : AP) (H : Hp) (P' : AP) (H' : Hp) : Prop where
  st : Stp P H P' H'
  kp : ∀ b o, H b = some o → ¬ DkAll G ρ σ b → H' b = some o
  nw : ∀ b, P' b → P b ∨ H b = none
  dm : ∀ b, H' b = none → H b = none
section
variable {G : Cd} {ρ : List Sl} {σ : L2.St} {P P1 P2 : AP} {H H1 H2 : Hp}
theorem Sx.refl : Sx G ρ σ P H P H := ⟨.refl _ _, fun _ _ h _ => h, fun _ h => .inl h, fun _ h => h⟩
theorem Sx.trans (a : Sx G ρ σ P H P1 H1) (b : Sx G ρ σ P1 H1 P2 H2) : Sx G ρ σ P H P2 H2 := ⟨a.st.trans b.st, fun c o h n => b.kp c o (a.kp c o h n) n, fun c h => (b.nw c h).elim (a.nw c) fun z => .inr (a.dm c z), fun c h => a.dm c (b.dm c h)⟩
theorem upd_dm {H : Hp} {p b : Addr} {o : HO} (h : upd H p o b = none) : H b = none := by
  by_cases e : b = p
  · rw [e, upd_same] at h; cases h
  · rwa [upd_ne e] at h
theorem Sx.nP (a : Sx G ρ σ P H P1 H1) {D : Addr} {o : HO} (h : H D = some o) (n : ¬ P D) : ¬ P1 D := fun z => (a.nw D z).elim n fun q => by rw [h] at q; cases q
theorem Sx.new {p : Addr} {o : HO} (B : ∀ b, P b → ∃ o, H b = some o) (np : H p = none) : Sx G ρ σ P H (ins P p) (upd H p o) := ⟨.new B np, fun b u h _ => by rw [upd_ne (ne_of_none h np)]; exact h, fun b h => h.elim .inl fun e => .inr (e ▸ np), fun b h => upd_dm h⟩
theorem Sx.newO {p : Addr} {o : HO} (B : ∀ b, P b → ∃ o, H b = some o) (np : H p = none) : Sx G ρ σ P H P (upd H p o) := ⟨.newO B np, fun b u h _ => by rw [upd_ne (ne_of_none h np)]; exact h, fun b h => .inl h, fun b h => upd_dm h⟩
end
/-- what is read from the top: a list or tuple whose items are data (perhaps an own list), a text -/
inductive Rc (K : PySem.W.Frag) (G : Cd) (ρ : List Sl) (σ : L2.St) (P : AP) (H : Hp) : V → PyData → Prop
  | own {a : Addr} {xs : List V} {ds : List PyData} : H a = some (.lst xs) → ¬ DkAll G ρ σ a → DvAll K P H xs ds → Rc K G ρ σ P H (.ref a) (.list ds)
  | dv {v : V} {d : PyData} : Dv K P H v d → Rc K G ρ σ P H v d
theorem Rc.mono {K : PySem.W.Frag} {G : Cd} {ρ : List Sl} {σ : L2.St} {P P' : AP} {H H' : Hp} {v : V} {d : PyData} (h : Rc K G ρ σ P H v d) (s : Sx G ρ σ P H P' H') : Rc K G ρ σ P' H' v d := by
  cases h with
  | own h n t => exact .own (s.kp _ _ h n) n (t.mono s.st)
  | dv h => exact .dv (h.mono s.st)
theorem Rc.lst {K : PySem.W.Frag} {G : Cd} {ρ : List Sl} {σ : L2.St} {P : AP} {H : Hp} {v : V} {ds : List PyData} (h : Rc K G ρ σ P H v (.list ds)) : ∃ a xs, v = .ref a ∧ SqL K H a xs ∧ DvAll K P H xs ds := by
  cases h with
  | own h n t => exact ⟨_, _, rfl, .inl (.inl h), t⟩
  | dv h => cases h with
    | lst h t => exact ⟨_, _, rfl, h.1, t⟩
theorem Rc.tup {K : PySem.W.Frag} {G : Cd} {ρ : List Sl} {σ : L2.St} {P : AP} {H : Hp} {v : V} {ds : List PyData} (h : Rc K G ρ σ P H v (.tuple ds)) : ∃ a xs, v = .ref a ∧ SqTP K P H a xs ∧ DvAll K P H xs ds := by
  cases h with
  | dv h => cases h with
    | tup h t => exact ⟨_, _, rfl, h, t⟩
theorem Rc.int {K : PySem.W.Frag} {G : Cd} {ρ : List Sl} {σ : L2.St} {P : AP} {H : Hp} {v : V} {i : Int} (h : Rc K G ρ σ P H v (.int i)) : v = .int i := by
  cases h with
  | dv h => cases h; rfl
theorem Rc.bl {K : PySem.W.Frag} {G : Cd} {ρ : List Sl} {σ : L2.St} {P : AP} {H : Hp} {v : V} {i : Bool} (h : Rc K G ρ σ P H v (.bool i)) : v = .bl i := by
  cases h with
  | dv h => cases h; rfl
theorem Rc.str {K : PySem.W.Frag} {G : Cd} {ρ : List Sl} {σ : L2.St} {P : AP} {H : Hp} {v : V} {i : Str} (h : Rc K G ρ σ P H v (.str i)) : v = .str i := by
  cases h with
  | dv h => cases h; rfl
theorem Rc.non {K : PySem.W.Frag} {G : Cd} {ρ : List Sl} {σ : L2.St} {P : AP} {H : Hp} {v : V} (h : Rc K G ρ σ P H v .none) : v = .non := by
  cases h with
  | dv h => cases h; rfl
theorem Rc.dp {K : PySem.W.Frag} {G : Cd} {ρ : List Sl} {σ : L2.St} {P : AP} {H : Hp} {v : V} {d : PyData} (h : Rc K G ρ σ P H v d) : Dp K H v d := by
  cases h with
  | own h n t => exact .lst (.inl (.inl h)) t.dp
  | dv h => exact h.dp
/-- an own list, new, of nobody's -/
structure Fr (K : PySem.W.Frag) (G : Cd) (ρ : List Sl) (σ : L2.St) (P : AP) (H : Hp) (p : Addr) (ds : List PyData) : Prop where
  at_ : ∃ vs, H p = some (.lst vs) ∧ DvAll K P H vs ds
  nP : ¬ P p
  n0 : G.H0 p = none
  nd : ¬ G.DK p
  no : ∀ (j : Nat) (s : Sl), ρ[j]? = some s → s.own = true → σ[j]? ≠ some (some (V.ref p))
theorem Fr.new {K : PySem.W.Frag} {G : Cd} {ρ : List Sl} {σ : L2.St} {P : AP} {H : Hp} {c : Nat} {p : Addr} {vs : List V} {ds : List PyData} (E : EnvR K G P H c ρ σ) (np : H p = none) (h : DvAll K P H vs ds) : Fr K G ρ σ P (upd H p (.lst vs)) p ds where
  at_ := ⟨vs, upd_same, h.mono (Stp.newO E.base.tr np)⟩
  nP := fun z => by
    obtain ⟨o, e⟩ := E.base.tr p z
    rw [np] at e; cases e
  n0 := E.base.free np
  nd := fun z => by
    obtain ⟨_, _, e, _⟩ := E.base.dks p z
    rw [np] at e; cases e
  no := fun j s h1 h2 e => by
    obtain ⟨a, vs, e2, e3, _⟩ := (E.sl j s h1).at h2
    rw [e] at e2
    cases e2
    rw [np] at e3; cases e3

section
variable (X : Cx) (W : WX)
/-- an expression -/
structure EJ (e : Expr) (w : Wx) : Prop where
  ex : ∃ t, PE X e t ∧ ∀ (G : Cd) (P : AP) (H : Hp) (c : Nat) (ρ : List Sl) (σ : L2.St) (Q : VK) (x : XP) (Φ : PyData → Nat → Prop), EnvR X.K G P H c ρ σ → XOk X.K G P H x W → w x c ρ Φ →
    (∀ d v P' H' c', Φ d c' → EnvR X.K G P' H' c' ρ σ → Sx G ρ σ P H P' H' → Dv X.K P' H' v d → Q v H') → t σ H Q
/-- .. or an own list that is read -/
structure RJ (e : Expr) (w : Wx) : Prop where
  ex : ∃ t, PE X e t ∧ ∀ (G : Cd) (P : AP) (H : Hp) (c : Nat) (ρ : List Sl) (σ : L2.St) (Q : VK) (x : XP) (Φ : PyData → Nat → Prop), EnvR X.K G P H c ρ σ → XOk X.K G P H x W → w x c ρ Φ →
    (∀ d v P' H' c', Φ d c' → EnvR X.K G P' H' c' ρ σ → Sx G ρ σ P H P' H' → Rc X.K G ρ σ P' H' v d → Q v H') → t σ H Q
/-- an expression whose value is a new list, of nobody's yet -/
structure FJ (e : Expr) (w : Wf) : Prop where
  ex : ∃ t, PE X e t ∧ ∀ (G : Cd) (P : AP) (H : Hp) (c : Nat) (ρ : List Sl) (σ : L2.St) (Q : VK) (x : XP) (Φ : List PyData → Nat → Prop), EnvR X.K G P H c ρ σ → XOk X.K G P H x W → w x c ρ Φ →
    (∀ ds p P' H' c', Φ ds c' → EnvR X.K G P' H' c' ρ σ → Sx G ρ σ P H P' H' → Fr X.K G ρ σ P' H' p ds → H p = none → Q (.ref p) H') → t σ H Q
/-- a test -/
structure TJ (e : Expr) (w : Wt) : Prop where
  ex : ∃ t, PT X e t ∧ ∀ (G : Cd) (P : AP) (H : Hp) (c : Nat) (ρ : List Sl) (σ : L2.St) (Q : Bool → Hp → Prop) (x : XP) (Φ : Bool → Nat → Prop), EnvR X.K G P H c ρ σ → XOk X.K G P H x W → w x c ρ Φ →
    (∀ b P' H' c', Φ b c' → EnvR X.K G P' H' c' ρ σ → Sx G ρ σ P H P' H' → Q b H') → t σ H Q
/-- the word of a chain of and, or -/
structure WJ (e : Expr) (w : Wt) : Prop where
  ex : ∃ t, PW X e t ∧ ∀ (G : Cd) (P : AP) (H : Hp) (c : Nat) (ρ : List Sl) (σ : L2.St) (Q : Bool → Hp → Prop) (x : XP) (Φ : Bool → Nat → Prop), EnvR X.K G P H c ρ σ → XOk X.K G P H x W → w x c ρ Φ →
    (∀ b P' H' c', Φ b c' → EnvR X.K G P' H' c' ρ σ → Sx G ρ σ P H P' H' → Q b H') → t σ H Q
/-- arguments -/
inductive ArR (K : PySem.W.Frag) (P : AP) (H : Hp) (DK : AP) : V → Ar → Prop
  | dt {v : V} {d : PyData} : Dv K P H v d → ArR K P H DK v (.dt d)
  | dk {a : Addr} : DK a → ArR K P H DK (.ref a) .dk
inductive ArRs (K : PySem.W.Frag) (P : AP) (H : Hp) (DK : AP) : List V → List Ar → Prop
  | nil : ArRs K P H DK [] []
  | cons {v : V} {vs : List V} {a : Ar} {as : List Ar} : ArR K P H DK v a → ArRs K P H DK vs as → ArRs K P H DK (v :: vs) (a :: as)
structure AJ (es : List Expr) (w : Wa) : Prop where
  ex : ∃ t, PA X es t ∧ ∀ (G : Cd) (P : AP) (H : Hp) (c : Nat) (ρ : List Sl) (σ : L2.St) (Q : List V → Hp → Prop) (x : XP) (Φ : List Ar → Nat → Prop), EnvR X.K G P H c ρ σ → XOk X.K G P H x W → w x c ρ Φ →
    (∀ as vs P' H' c', Φ as c' → EnvR X.K G P' H' c' ρ σ → Sx G ρ σ P H P' H' → ArRs X.K P' H' (DkAll G ρ σ) vs as → Q vs H') → t σ H Q
structure KJ (es : List Keyword) (w : Wa) : Prop where
  ex : ∃ t, PK X es t ∧ ∀ (G : Cd) (P : AP) (H : Hp) (c : Nat) (ρ : List Sl) (σ : L2.St) (Q : List V → Hp → Prop) (x : XP) (Φ : List Ar → Nat → Prop), EnvR X.K G P H c ρ σ → XOk X.K G P H x W → w x c ρ Φ →
    (∀ as vs P' H' c', Φ as c' → EnvR X.K G P' H' c' ρ σ → Sx G ρ σ P H P' H' → ArRs X.K P' H' (DkAll G ρ σ) vs as → Q vs H') → t σ H Q
end

/-- what is wanted behind statements -/
structure En where
  nx : Nat → List Sl → Prop
  rt : PyData → Nat → Prop
  rf : List PyData → Nat → Prop
  bk : Nat → List Sl → Prop
  ct : Nat → List Sl → Prop
structure Fin (K : PySem.W.Frag) (G : Cd) (P : AP) (H : Hp) (Φ : En) (D : Ends) : Prop where
  nx : ∀ c' ρ' σ' P' H', Φ.nx c' ρ' → EnvR K G P' H' c' ρ' σ' → Stp P H P' H' → D.nx σ' H'
  rt : ∀ d c' v P' H', Φ.rt d c' → Base K G P' H' c' → Stp P H P' H' → Dv K P' H' v d → D.rt v H'
  rf : ∀ ds c' p vs P' H', Φ.rf ds c' → Base K G P' H' c' → Stp P H P' H' → H' p = some (.lst vs) → DvAll K P' H' vs ds → ¬ P' p → G.H0 p = none → ¬ G.DK p → D.rt (.ref p) H'
  bk : ∀ c' ρ' σ' P' H', Φ.bk c' ρ' → EnvR K G P' H' c' ρ' σ' → Stp P H P' H' → D.bk σ' H'
  ct : ∀ c' ρ' σ' P' H', Φ.ct c' ρ' → EnvR K G P' H' c' ρ' σ' → Stp P H P' H' → D.ct σ' H'
theorem Fin.step {K : PySem.W.Frag} {G : Cd} {P P1 : AP} {H H1 : Hp} {Φ : En} {D : Ends} (F : Fin K G P H Φ D) (st : Stp P H P1 H1) : Fin K G P1 H1 Φ D where
  nx := fun c' ρ' σ' P' H' q E s2 => F.nx c' ρ' σ' P' H' q E (st.trans s2)
  rt := fun d c' v P' H' q E s2 => F.rt d c' v P' H' q E (st.trans s2)
  rf := fun d c' p vs P' H' q E s2 => F.rf d c' p vs P' H' q E (st.trans s2)
  bk := fun c' ρ' σ' P' H' q E s2 => F.bk c' ρ' σ' P' H' q E (st.trans s2)
  ct := fun c' ρ' σ' P' H' q E s2 => F.ct c' ρ' σ' P' H' q E (st.trans s2)
abbrev Ws := XP → En → Nat → List Sl → Prop
section
variable (X : Cx) (W : WX)
structure SJ (st : Stmt) (w : Ws) : Prop where
  ex : ∃ t, PS X st t ∧ ∀ (G : Cd) (P : AP) (H : Hp) (c : Nat) (ρ : List Sl) (σ : L2.St) (D : Ends) (x : XP) (Φ : En), EnvR X.K G P H c ρ σ → XOk X.K G P H x W → w x Φ c ρ → Fin X.K G P H Φ D → t D σ H
structure SsJ (sts : List Stmt) (w : Ws) : Prop where
  ex : ∃ t, PSs X sts t ∧ ∀ (G : Cd) (P : AP) (H : Hp) (c : Nat) (ρ : List Sl) (σ : L2.St) (D : Ends) (x : XP) (Φ : En), EnvR X.K G P H c ρ σ → XOk X.K G P H x W → w x Φ c ρ → Fin X.K G P H Φ D → t D σ H
end

/-! ### expressions -/
section
variable {X : Cx} {W : WX}
def dVar (i : Nat) : Wx := fun _ c ρ Φ => match ρ[i]? with
  | some (.dt d) => Φ d c
  | _ => False
theorem e_var {i : Nat} {e : Expr} (h : PE X e (tVar i)) : EJ X W e (dVar i) := by
  refine ⟨_, h, fun G P H c ρ σ Q x Φ E _ hw hQ => ?_⟩
  unfold dVar at hw
  split at hw
  · rename_i d hd
    obtain ⟨v, e, D⟩ := E.sl i _ hd
    exact ⟨v, e, hQ d v P H c hw E .refl D⟩
  · exact hw.elim
def dOwn (i : Nat) : Wx := fun _ c ρ Φ => match ρ[i]? with
  | some (.dt d) => Φ d c
  | some (.ow xs) => Φ (.list xs) c
  | some (.od xs) => Φ (.list xs) c
  | _ => False
/-- an own list's address is no deck's -/
theorem EnvR.own_nodk {K : PySem.W.Frag} {G : Cd} {P : AP} {H : Hp} {c : Nat} {ρ : List Sl} {σ : L2.St} (E : EnvR K G P H c ρ σ) {i : Nat} {s : Sl} {a : Addr} (hs : ρ[i]? = some s) (o : s.own = true) (nk : s ≠ .dk) (e : σ[i]? = some (some (V.ref a))) (nd : ¬ G.DK a) : ¬ DkAll G ρ σ a := by
  rintro (h | ⟨j, h1, h2⟩)
  · exact nd h
  · have := E.inj i j s _ a hs h1 o rfl e h2
    subst this
    rw [hs] at h1
    cases h1
    exact nk rfl
theorem r_own {i : Nat} {e : Expr} (h : PE X e (tVar i)) : RJ X W e (fun x c ρ Φ => (match ρ[i]? with | some (.od _) => False | _ => True) ∧ dOwn i x c ρ Φ) := by
  refine ⟨_, h, fun G P H c ρ σ Q x Φ E _ hw hQ => ?_⟩
  obtain ⟨hz, hw⟩ := hw
  unfold dOwn at hw
  split at hw
  · rename_i d hd
    obtain ⟨v, e, D⟩ := E.sl i _ hd
    exact ⟨v, e, hQ d v P H c hw E .refl (.dv D)⟩
  · rename_i d hd
    obtain ⟨a, vs, e, h1, h2, h3, h4, h5⟩ := E.sl i _ hd
    exact ⟨_, e, hQ _ _ P H c hw E .refl (.own h1 (E.own_nodk hd rfl (by intro z; cases z) e h5) h2)⟩
  · rename_i d hd
    rw [hd] at hz
    exact hz.elim
  · exact hw.elim
theorem EJ.r {e : Expr} {w : Wx} (h : EJ X W e w) : RJ X W e w := by
  obtain ⟨t, ht, hw⟩ := h.ex
  exact ⟨t, ht, fun G P H c ρ σ Q x Φ E xo h hQ => hw G P H c ρ σ Q x Φ E xo h fun d v P' H' c' q E' st D => hQ d v P' H' c' q E' st (.dv D)⟩
def dC (d : PyData) : Wx := fun _ c _ Φ => Φ d c
theorem e_int {i : Int} {j pos} : EJ X W (.Constant (.int i) j pos) (dC (.int i)) := ⟨_, pe_int, fun G P H c ρ σ Q x Φ E _ h hQ => hQ _ _ P H c h E .refl (.int i)⟩
theorem e_bl {b j pos} : EJ X W (.Constant (.bool b) j pos) (dC (.bool b)) := ⟨_, pe_bl, fun G P H c ρ σ Q x Φ E _ h hQ => hQ _ _ P H c h E .refl (.bl b)⟩
theorem e_non {j pos} : EJ X W (.Constant .none j pos) (dC .none) := ⟨_, pe_non, fun G P H c ρ σ Q x Φ E _ h hQ => hQ _ _ P H c h E .refl .non⟩
theorem e_str {s j pos} : EJ X W (.Constant (.str s) j pos) (dC (.str s)) := ⟨_, pe_str, fun G P H c ρ σ Q x Φ E _ h hQ => hQ _ _ P H c h E .refl (.str s)⟩
/-- a constant of the module -/
theorem e_glob {d : PyData} {v : V} {e : Expr} (h : PE X e (tC v)) (hd : ∀ P H, Dv X.K P H v d) : EJ X W e (dC d) := ⟨_, h, fun G P H c ρ σ Q x Φ E _ h hQ => hQ d v P H c h E .refl (hd _ _)⟩
/-- a new list becomes data -/
theorem Fr.freeze {K : PySem.W.Frag} {G : Cd} {ρ : List Sl} {σ : L2.St} {P : AP} {H : Hp} {c : Nat} {p : Addr} {ds : List PyData} (F : Fr K G ρ σ P H p ds) (E : EnvR K G P H c ρ σ) : EnvR K G (ins P p) H c ρ σ ∧ Stp P H (ins P p) H ∧ Dv K (ins P p) H (.ref p) (.list ds) := by
  obtain ⟨vs, hp, hv⟩ := F.at_
  have st2 : Stp P H (ins P p) H := ⟨fun _ h => .inl h, fun _ _ => rfl⟩
  refine ⟨⟨⟨?_, ?_, ?_, E.base.keep, fun a ha => ?_, ?_⟩, E.len, fun i s hs => ?_, E.inj⟩, st2, .lst ⟨.inl (.inl hp), .inl (.inr rfl)⟩ (hv.mono st2)⟩
  · rintro b (hb | hb)
    · exact E.base.tr b hb
    · subst hb
      exact ⟨_, hp⟩
  · rintro b (hb | hb)
    · exact E.base.pdk b hb
    · subst hb
      exact F.nd
  · rintro b (hb | hb)
    · exact E.base.pn b hb
    · subst hb
      exact .inr F.n0
  · exact (E.base.dks a ha).stp st2 rfl
  · rintro b (hb | hb)
    · exact E.base.fz b hb
    · subst hb
      rw [hp]
      exact .lst _
  · refine (E.sl i s hs).step st2 fun a vs' o e h1 h2 => ⟨h1, fun z => z.elim h2 fun z => ?_⟩
    subst z
    exact F.no i s hs o e
def dF (w : Wf) : Wx := fun x c ρ Φ => w x c ρ fun ds c' => Φ (.list ds) c'
theorem FJ.e {e : Expr} {w : Wf} (h : FJ X W e w) : EJ X W e (dF w) := by
  obtain ⟨t, ht, hw⟩ := h.ex
  refine ⟨t, ht, fun G P H c ρ σ Q x Φ E xo h hQ => hw G P H c ρ σ Q x _ E xo h fun ds p P' H' c' q E' st F hp => ?_⟩
  obtain ⟨e1, s1, D1⟩ := F.freeze E'
  exact hQ _ _ _ _ c' q e1 ⟨st.st.trans s1, st.kp, fun b h => h.elim (st.nw b) fun e => .inr (e ▸ hp), st.dm⟩ D1

/-! two in a row -/
def d2 (wa wb : Wx) (f : PyData → PyData → (PyData → Prop) → Prop) : Wx := fun x c ρ Φ => wa x c ρ fun d c1 => wb x c1 ρ fun e c2 => f d e fun z => Φ z c2
def d1 (wa : Wx) (f : PyData → (PyData → Prop) → Prop) : Wx := fun x c ρ Φ => wa x c ρ fun d c1 => f d fun z => Φ z c1
/-- an operation by values that answers data, perhaps a new object -/
def OpD (X : Cx) (f : Value → Value → Sem Value) (g : PyData → PyData → (PyData → Prop) → Prop) : Prop :=
  ∃ r : R2, OpR X f r ∧ ∀ (G : Cd) (P : AP) (H : Hp) (c : Nat) (ρ : List Sl) (σ : L2.St) (a b : V) (d e : PyData) (Q : VK) (Φ : PyData → Prop), EnvR X.K G P H c ρ σ → Rc X.K G ρ σ P H a d → Rc X.K G ρ σ P H b e → g d e Φ →
    (∀ z v P' H', Φ z → EnvR X.K G P' H' c ρ σ → Sx G ρ σ P H P' H' → Dv X.K P' H' v z → Q v H') → r a b H Q
/-- the same by two reads in a row -/
theorem d2_run {a b : Expr} {wa wb : Wx} {g} {f : Value → Value → Sem Value} (ho : OpD X f g) (ha : RJ X W a wa) (hb : RJ X W b wb) :
    ∃ (r : R2) (ta tb : TE), OpR X f r ∧ PE X a ta ∧ PE X b tb ∧ ∀ (G : Cd) (P : AP) (H : Hp) (c : Nat) (ρ : List Sl) (σ : L2.St) (Q : VK) (x : XP) (Φ : PyData → Nat → Prop), EnvR X.K G P H c ρ σ → XOk X.K G P H x W → d2 wa wb g x c ρ Φ →
    (∀ d v P' H' c', Φ d c' → EnvR X.K G P' H' c' ρ σ → Sx G ρ σ P H P' H' → Dv X.K P' H' v d → Q v H') → tOp r ta tb σ H Q := by
  obtain ⟨ta, pa, qa⟩ := ha.ex
  obtain ⟨tb, pb, qb⟩ := hb.ex
  obtain ⟨r, pr, qr⟩ := ho
  refine ⟨r, ta, tb, pr, pa, pb, fun G P H c ρ σ Q x Φ E xo h hQ => ?_⟩
  refine qa G P H c ρ σ _ x _ E xo h fun d v P1 H1 c1 q1 E1 s1 D1 => ?_
  refine qb G P1 H1 c1 ρ σ _ x _ E1 (xo.step s1.st) q1 fun e u P2 H2 c2 q2 E2 s2 D2 => ?_
  refine qr G P2 H2 c2 ρ σ v u d e Q _ E2 (D1.mono s2) D2 q2 fun z v' P3 H3 q3 E3 s3 D3 => ?_
  exact hQ z v' P3 H3 c2 q3 E3 ((s1.trans s2).trans s3) D3
theorem e_bin {op : Operator} {a b : Expr} {wa wb : Wx} {pos : Pos} {g} (ho : OpD X (binaryOp op) g) (ha : RJ X W a wa) (hb : RJ X W b wb) : EJ X W (.BinOp a op b pos) (d2 wa wb g) := by
  obtain ⟨r, ta, tb, pr, pa, pb, h⟩ := d2_run ho ha hb
  exact ⟨_, pe_op pr pa pb, h⟩
theorem e_cmp {op : CmpOp} {a b : Expr} {wa wb : Wx} {pos : Pos} {g} (ho : OpD X (compareOp op) g) (ha : RJ X W a wa) (hb : RJ X W b wb) (hm : behindInMarks op b = false) : EJ X W (.Compare a [op] [b] pos) (d2 wa wb g) := by
  obtain ⟨r, ta, tb, pr, pa, pb, h⟩ := d2_run ho ha hb
  exact ⟨_, pe_cmpR pr pa pb hm, h⟩
end
end DL

/-! Operators over data. -/
namespace DL
open PySem PySem.Spec PyProof.Rows L2

section
variable {X : Cx}
theorem OpR.or {f : Value → Value → Sem Value} {r r' : R2} (h : OpR X f r) (h' : OpR X f r') : OpR X f (fun x y H Q => r x y H Q ∨ r' x y H Q) := by
  intro pins s σ H x y v u Q I rx ry q
  rcases q with q | q
  · exact h pins s σ H x y v u Q I rx ry q
  · exact h' pins s σ H x y v u Q I rx ry q
/-- a tuple made of data -/
theorem Dv.newT {K : PySem.W.Frag} {G : Cd} {P : AP} {H : Hp} {c : Nat} {ρ : List Sl} {σ : L2.St} (E : EnvR K G P H c ρ σ) {p : Addr} {o : Obj} {vs : List V} {ds : List PyData} (np : H p = none) (hd : o.dict = none) (h : DvAll K P H vs ds) :
    EnvR K G (ins P p) (upd H p (.frz o (.tup vs))) c ρ σ ∧ Sx G ρ σ P H (ins P p) (upd H p (.frz o (.tup vs))) ∧ Dv K (ins P p) (upd H p (.frz o (.tup vs))) (.ref p) (.tuple ds) :=
  ⟨E.new np (.frz hd), .new E.base.tr np, .tup ⟨.inl (.inr ⟨o, upd_same⟩), .inl ⟨.inr rfl, o, upd_same, hd⟩⟩ (h.mono (.new E.base.tr np))⟩

def addD : PyData → PyData → (PyData → Prop) → Prop
  | .int i, .int j, Φ => Φ (.int (i + j))
  | .tuple xs, .tuple ys, Φ => xs.length + ys.length ≤ sizeLine ∧ Φ (.tuple (xs ++ ys))
  | .str a, .str b, Φ => a.length + b.length ≤ sizeLine ∧ Φ (.str (a ++ b))
  | _, _, _ => False
theorem o_add : OpD X (binaryOp .Add) addD := by
  refine ⟨_, OpR.or op_add (OpR.or op_catZ op_add_str), fun G P H c ρ σ a b d e Q Φ E hd he hg hQ => ?_⟩
  cases d <;> cases e <;> first | exact hg.elim | skip
  · rw [hd.int, he.int]
    exact .inl ⟨_, _, rfl, rfl, hQ _ _ P H hg E .refl (.int _)⟩
  · rw [hd.str, he.str]
    exact .inr (.inr ⟨_, _, rfl, rfl, hg.1, hQ _ _ P H hg.2 E .refl (.str _)⟩)
  · obtain ⟨a1, xs, rfl, h1, t1⟩ := hd.tup
    obtain ⟨a2, ys, rfl, h2, t2⟩ := he.tup
    have l1 := t1.length
    have l2 := t2.length
    refine .inr (.inl ⟨a1, a2, xs, ys, rfl, rfl, h1.1, h2.1, by rw [l1, l2]; exact hg.1, fun e => ?_, fun e1 e => ?_, fun _ _ p ob hd2 np => ?_⟩)
    · subst e
      cases t1
      exact hQ _ _ P H hg.2 E .refl (.tup h2 t2)
    · subst e
      cases t2
      refine hQ _ _ P H hg.2 E .refl ?_
      rw [List.append_nil]
      exact .tup h1 t1
    · obtain ⟨e1, s1, D1⟩ := Dv.newT E np hd2 (t1.append t2)
      exact hQ _ _ _ _ hg.2 e1 s1 D1
def subD : PyData → PyData → (PyData → Prop) → Prop
  | .int i, .int j, Φ => Φ (.int (i - j))
  | _, _, _ => False
def mulD : PyData → PyData → (PyData → Prop) → Prop
  | .int i, .int j, Φ => IntMulOk i j ∧ Φ (.int (i * j))
  | _, _, _ => False
/-- // and % -/
def DivOk (j : Int) : Prop := j ≠ 0 ∧ j.natAbs.log2 < 9000
def fdivD : PyData → PyData → (PyData → Prop) → Prop
  | .int i, .int j, Φ => DivOk j ∧ Φ (.int (i.fdiv j))
  | _, _, _ => False
def modD : PyData → PyData → (PyData → Prop) → Prop
  | .int i, .int j, Φ => j ≠ 0 ∧ Φ (.int (i.fmod j))
  | _, _, _ => False
def powD : PyData → PyData → (PyData → Prop) → Prop
  | .int i, .int j, Φ => CPow i j ∧ Φ (.int (i ^ j.toNat))
  | _, _, _ => False
def shlD : PyData → PyData → (PyData → Prop) → Prop
  | .int i, .int j, Φ => CPow i j ∧ Φ (.int (i * 2 ^ j.toNat))
  | _, _, _ => False
/-- ints in, an int out -/
theorem o_int {f : Value → Value → Sem Value} {C : Int → Int → Prop} {g : Int → Int → Int} (h : OpR X f (rI C fun i j => .int (g i j))) : OpD X f (fun d e Φ => match d, e with
    | .int i, .int j => C i j ∧ Φ (.int (g i j))
    | _, _ => False) := by
  refine ⟨_, h, fun G P H c ρ σ a b d e Q Φ E hd he hg hQ => ?_⟩
  cases d <;> cases e <;> first | exact hg.elim | skip
  rw [hd.int, he.int]
  exact ⟨_, _, rfl, rfl, hg.1, hQ _ _ P H hg.2 E .refl (.int _)⟩
theorem OpD.imp {f : Value → Value → Sem Value} {g g' : PyData → PyData → (PyData → Prop) → Prop} (h : OpD X f g) (i : ∀ d e Φ, g' d e Φ → g d e Φ) : OpD X f g' := by
  obtain ⟨r, hr, q⟩ := h
  exact ⟨r, hr, fun G P H c ρ σ a b d e Q Φ E hd he hg hQ => q G P H c ρ σ a b d e Q Φ E hd he (i _ _ _ hg) hQ⟩
theorem o_sub : OpD X (binaryOp .Sub) subD := (o_int (C := fun _ _ => True) (g := fun i j => i - j) (opI fun _ _ _ _ _ _ _ _ q => sub_int q)).imp fun d e Φ h => by
  cases d <;> cases e <;> first | exact h.elim | exact ⟨trivial, h⟩
theorem o_mul : OpD X (binaryOp .Mult) mulD := (o_int (C := IntMulOk) (g := fun i j => i * j) (opI fun _ _ _ _ _ _ _ hc q => mul_int q hc)).imp fun d e Φ h => by
  cases d <;> cases e <;> first | exact h.elim | exact h
theorem o_fdiv : OpD X (binaryOp .FloorDiv) fdivD := (o_int (C := fun _ j => DivOk j) (g := fun i j => i.fdiv j) (opI fun _ _ _ _ _ _ _ hc q => floordiv_int hc.1 q (.inl (PyProof.noPylong_of_log2 hc.2)))).imp fun d e Φ h => by
  cases d <;> cases e <;> first | exact h.elim | exact h
theorem o_mod : OpD X (binaryOp .Mod) modD := (o_int (C := fun _ j => j ≠ 0) (g := fun i j => i.fmod j) op_modN).imp fun d e Φ h => by
  cases d <;> cases e <;> first | exact h.elim | exact h
theorem o_pow : OpD X (binaryOp .Pow) powD := (o_int (C := CPow) (g := fun i j => i ^ j.toNat) op_pow).imp fun d e Φ h => by
  cases d <;> cases e <;> first | exact h.elim | exact h
theorem o_shl : OpD X (binaryOp .LShift) shlD := (o_int (C := CPow) (g := fun i j => i * 2 ^ j.toNat) op_shl).imp fun d e Φ h => by
  cases d <;> cases e <;> first | exact h.elim | exact h

/-- by a bool -/
def boolC (d : PyData) (A B : Prop) : Prop := match d with
  | .bool b => if b = true then A else B
  | _ => False
theorem boolC_ok {d : PyData} {A B : Prop} (h : boolC d A B) : ∃ b, d = .bool b ∧ (b = true → A) ∧ (b = false → B) := by
  cases d <;> first | exact h.elim | skip
  rename_i b
  cases b with
  | true => exact ⟨_, rfl, fun _ => by simpa [boolC] using h, nofun⟩
  | false => exact ⟨_, rfl, nofun, fun _ => by simpa [boolC] using h⟩
/-! comparisons -/
def cmpI (p : Int → Int → Bool) : PyData → PyData → (PyData → Prop) → Prop
  | .int i, .int j, Φ => Φ (.bool (p i j))
  | _, _, _ => False
theorem o_cmpI {f : Value → Value → Sem Value} {p : Int → Int → Bool} (h : OpR X f (rI0 fun i j => .bl (p i j))) : OpD X f (cmpI p) := by
  refine ⟨_, h, fun G P H c ρ σ a b d e Q Φ E hd he hg hQ => ?_⟩
  cases d <;> cases e <;> first | exact hg.elim | skip
  rw [hd.int, he.int]
  exact ⟨_, _, rfl, rfl, hQ _ _ P H hg E .refl (.bl _)⟩
theorem o_lt : OpD X (compareOp .Lt) (cmpI fun i j => decide (i < j)) := o_cmpI (opB0 fun _ _ _ _ _ _ _ q => lt_int q)
theorem o_le : OpD X (compareOp .LtE) (cmpI fun i j => decide (i ≤ j)) := o_cmpI (opB0 fun _ _ _ _ _ _ _ q => le_int q)
theorem o_gt : OpD X (compareOp .Gt) (cmpI fun i j => decide (j < i)) := o_cmpI (opB0 fun _ _ _ _ _ _ _ q => gt_int q)
theorem o_ge : OpD X (compareOp .GtE) (cmpI fun i j => decide (j ≤ i)) := o_cmpI (opB0 fun _ _ _ _ _ _ _ q => ge_int q)
/-- == of any data -/
def eqD : PyData → PyData → (PyData → Prop) → Prop := fun d e Φ => SeqAt.shaped d = true ∧ SeqAt.shaped e = true ∧ Φ (.bool (PyData.eqv d e))
def neD : PyData → PyData → (PyData → Prop) → Prop := fun d e Φ => SeqAt.shaped d = true ∧ SeqAt.shaped e = true ∧ Φ (.bool (!PyData.eqv d e))
theorem o_eq (hu : X.A.units + 64 < cLine) : OpD X (compareOp .Eq) eqD :=
  ⟨_, op_eqD hu, fun G P H c ρ σ a b d e Q Φ E hd he hg hQ => ⟨d, e, hd.dp, he.dp, hg.1, hg.2.1, hQ _ _ P H hg.2.2 E .refl (.bl _)⟩⟩
theorem o_ne (hu : X.A.units + 64 < cLine) : OpD X (compareOp .NotEq) neD :=
  ⟨_, op_neD hu, fun G P H c ρ σ a b d e Q Φ E hd he hg hQ => ⟨d, e, hd.dp, he.dp, hg.1, hg.2.1, hQ _ _ P H hg.2.2 E .refl (.bl _)⟩⟩
/-- is of bools; is None -/
def isB (neg : Bool) : PyData → PyData → (PyData → Prop) → Prop
  | .bool a, .bool b, Φ => Φ (.bool (neg != decide (a = b)))
  | _, _, _ => False
theorem o_isB : OpD X (compareOp .Is) (isB false) := by
  refine ⟨_, op_is_bl, fun G P H c ρ σ a b d e Q Φ E hd he hg hQ => ?_⟩
  cases d <;> cases e <;> first | exact hg.elim | skip
  rw [hd.bl, he.bl]
  refine ⟨_, _, rfl, rfl, hQ _ _ P H hg E .refl ?_⟩
  rw [show ∀ k : Bool, (false != k) = k by decide]
  exact .bl _
/-- one-place -/
def UnD (X : Cx) (f : Value → Sem Value) (g : PyData → (PyData → Prop) → Prop) : Prop :=
  ∃ r : V → Hp → VK → Prop, UnR X f r ∧ ∀ (G : Cd) (P : AP) (H : Hp) (c : Nat) (ρ : List Sl) (σ : L2.St) (a : V) (d : PyData) (Q : VK) (Φ : PyData → Prop), EnvR X.K G P H c ρ σ → Rc X.K G ρ σ P H a d → g d Φ →
    (∀ z v P' H', Φ z → EnvR X.K G P' H' c ρ σ → Sx G ρ σ P H P' H' → Dv X.K P' H' v z → Q v H') → r a H Q
def negD : PyData → (PyData → Prop) → Prop
  | .int i, Φ => Φ (.int (-i))
  | _, _ => False
theorem o_neg : UnD X (unaryOp .USub) negD := by
  refine ⟨_, un_neg, fun G P H c ρ σ a d Q Φ E hd hg hQ => ?_⟩
  cases d <;> first | exact hg.elim | skip
  rw [hd.int]
  exact ⟨_, rfl, hQ _ _ P H hg E .refl (.int _)⟩
variable {W : WX}
theorem e_un {op : UnaryOp} {a : Expr} {wa : Wx} {pos : Pos} {g} (ho : UnD X (unaryOp op) g) (ha : EJ X W a wa) : EJ X W (.UnaryOp op a pos) (d1 wa g) := by
  obtain ⟨ta, pa, qa⟩ := ha.ex
  obtain ⟨r, pr, qr⟩ := ho
  refine ⟨_, pe_un pr pa, fun G P H c ρ σ Q x Φ E xo h hQ => ?_⟩
  refine qa G P H c ρ σ _ x _ E xo h fun d v P1 H1 c1 q1 E1 s1 D1 => ?_
  refine qr G P1 H1 c1 ρ σ v d Q _ E1 (.dv D1) q1 fun z v' P3 H3 q3 E3 s3 D3 => ?_
  exact hQ z v' P3 H3 c1 q3 E3 (s1.trans s3) D3

/-! ### tests -/
def dTest (w : Wx) : Wt := fun x c ρ Φ => w x c ρ fun d c' => match d with
  | .bool b => Φ b c'
  | _ => False
theorem t_val {e : Expr} {w : Wx} (h : EJ X W e w) (he : ∀ whole, isTrue e X.env whole = (do let v ← whole; standAt e.pos; holding [v] (truthy v)) := by intro _; rfl) : TJ X W e (dTest w) := by
  obtain ⟨t, ht, hw⟩ := h.ex
  refine ⟨_, pt_val ht he, fun G P H c ρ σ Q x Φ E xo h hQ => hw G P H c ρ σ _ x _ E xo h fun d v P' H' c' q E' st D => ?_⟩
  cases d <;> first | exact q.elim | skip
  cases D
  exact ⟨_, rfl, hQ _ P' H' c' q E' st⟩
theorem t_cmp {op : CmpOp} {a b : Expr} {wa wb : Wx} {pos : Pos} {g} (ho : OpD X (compareOp op) g) (ha : RJ X W a wa) (hb : RJ X W b wb) (hm : behindInMarks op b = false) : TJ X W (.Compare a [op] [b] pos) (dTest (d2 wa wb g)) := by
  obtain ⟨r, ta, tb, pr, pa, pb, h⟩ := d2_run ho ha hb
  refine ⟨_, pt_cmpR pr pa pb hm, fun G P H c ρ σ Q x Φ E xo hw hQ => ?_⟩
  refine h G P H c ρ σ _ x _ E xo hw fun d v P' H' c' q E' st D => ?_
  cases d <;> first | exact q.elim | skip
  cases D
  exact ⟨_, rfl, hQ _ P' H' c' q E' st⟩
def dAnd (wa wb : Wt) : Wt := fun x c ρ Φ => wa x c ρ fun b c1 => if b = true then wb x c1 ρ Φ else Φ false c1
def dOr (wa wb : Wt) : Wt := fun x c ρ Φ => wa x c ρ fun b c1 => if b = true then Φ true c1 else wb x c1 ρ Φ
def dNot (wa : Wt) : Wt := fun x c ρ Φ => wa x c ρ fun b c1 => Φ (!b) c1
theorem WJ.t {e : Expr} {w : Wt} (h : WJ X W e w) : TJ X W e w := by
  obtain ⟨t, ht, hw⟩ := h.ex
  exact ⟨t, ht.pt, hw⟩
theorem w_and1 {a : Expr} {wa : Wt} {pos : Pos} (ha : TJ X W a wa) : WJ X W (.BoolOp .And [a] pos) wa := by
  obtain ⟨t, ht, hw⟩ := ha.ex
  exact ⟨t, pw_and1 ht, hw⟩
theorem w_or1 {a : Expr} {wa : Wt} {pos : Pos} (ha : TJ X W a wa) : WJ X W (.BoolOp .Or [a] pos) wa := by
  obtain ⟨t, ht, hw⟩ := ha.ex
  exact ⟨t, pw_or1 ht, hw⟩
theorem w_and {a b : Expr} {rest : List Expr} {wa wb : Wt} {pos : Pos} (ha : TJ X W a wa) (hb : WJ X W (.BoolOp .And (b :: rest) pos) wb) : WJ X W (.BoolOp .And (a :: b :: rest) pos) (dAnd wa wb) := by
  obtain ⟨t, ht, hw⟩ := ha.ex
  obtain ⟨u, hu, hv⟩ := hb.ex
  refine ⟨_, pw_and ht hu, fun G P H c ρ σ Q x Φ E xo h hQ => ?_⟩
  refine hw G P H c ρ σ _ x _ E xo h fun b P1 H1 c1 q1 E1 s1 => ?_
  cases b with
  | true => exact hv G P1 H1 c1 ρ σ Q x Φ E1 (xo.step s1.st) q1 fun b P2 H2 c2 q2 E2 s2 => hQ b P2 H2 c2 q2 E2 (s1.trans s2)
  | false => exact hQ _ P1 H1 c1 q1 E1 s1
theorem w_or {a b : Expr} {rest : List Expr} {wa wb : Wt} {pos : Pos} (ha : TJ X W a wa) (hb : WJ X W (.BoolOp .Or (b :: rest) pos) wb) : WJ X W (.BoolOp .Or (a :: b :: rest) pos) (dOr wa wb) := by
  obtain ⟨t, ht, hw⟩ := ha.ex
  obtain ⟨u, hu, hv⟩ := hb.ex
  refine ⟨_, pw_or ht hu, fun G P H c ρ σ Q x Φ E xo h hQ => ?_⟩
  refine hw G P H c ρ σ _ x _ E xo h fun b P1 H1 c1 q1 E1 s1 => ?_
  cases b with
  | true => exact hQ _ P1 H1 c1 q1 E1 s1
  | false => exact hv G P1 H1 c1 ρ σ Q x Φ E1 (xo.step s1.st) q1 fun b P2 H2 c2 q2 E2 s2 => hQ b P2 H2 c2 q2 E2 (s1.trans s2)
theorem t_not {a : Expr} {wa : Wt} {pos : Pos} (ha : TJ X W a wa) : TJ X W (.UnaryOp .Not a pos) (dNot wa) := by
  obtain ⟨t, ht, hw⟩ := ha.ex
  exact ⟨_, pt_not ht, fun G P H c ρ σ Q x Φ E xo h hQ => hw G P H c ρ σ _ x _ E xo h fun b P1 H1 c1 q1 E1 s1 => hQ _ P1 H1 c1 q1 E1 s1⟩
/-! .. as values -/
def dAndV (wa wb : Wx) : Wx := fun x c ρ Φ => wa x c ρ fun d c1 => boolC d (wb x c1 ρ Φ) (Φ (.bool false) c1)
def dOrV (wa wb : Wx) : Wx := fun x c ρ Φ => wa x c ρ fun d c1 => boolC d (Φ (.bool true) c1) (wb x c1 ρ Φ)
def notD : PyData → (PyData → Prop) → Prop
  | .bool b, Φ => Φ (.bool (!b))
  | _, _ => False
theorem e_one {op} {a : Expr} {wa : Wx} {pos : Pos} (ha : EJ X W a wa) : EJ X W (.BoolOp op [a] pos) wa := by
  obtain ⟨t, ht, hw⟩ := ha.ex
  exact ⟨t, pe_one ht, hw⟩
theorem e_and {a b : Expr} {rest : List Expr} {wa wb : Wx} {pos : Pos} (ha : EJ X W a wa) (hb : EJ X W (.BoolOp .And (b :: rest) pos) wb) : EJ X W (.BoolOp .And (a :: b :: rest) pos) (dAndV wa wb) := by
  obtain ⟨t, ht, hw⟩ := ha.ex
  obtain ⟨u, hu, hv⟩ := hb.ex
  refine ⟨_, pe_and ht hu, fun G P H c ρ σ Q x Φ E xo h hQ => ?_⟩
  refine hw G P H c ρ σ _ x _ E xo h fun d v P1 H1 c1 q1 E1 s1 D1 => ?_
  cases d <;> first | exact q1.elim | skip
  rename_i b
  cases D1
  cases b with
  | true => exact ⟨true, rfl, iteT (hv G P1 H1 c1 ρ σ Q x Φ E1 (xo.step s1.st) q1 fun b v P2 H2 c2 q2 E2 s2 D2 => hQ b v P2 H2 c2 q2 E2 (s1.trans s2) D2)⟩
  | false => exact ⟨false, rfl, iteF (hQ _ _ P1 H1 c1 q1 E1 s1 (.bl _))⟩
theorem e_or {a b : Expr} {rest : List Expr} {wa wb : Wx} {pos : Pos} (ha : EJ X W a wa) (hb : EJ X W (.BoolOp .Or (b :: rest) pos) wb) : EJ X W (.BoolOp .Or (a :: b :: rest) pos) (dOrV wa wb) := by
  obtain ⟨t, ht, hw⟩ := ha.ex
  obtain ⟨u, hu, hv⟩ := hb.ex
  refine ⟨_, pe_or ht hu, fun G P H c ρ σ Q x Φ E xo h hQ => ?_⟩
  refine hw G P H c ρ σ _ x _ E xo h fun d v P1 H1 c1 q1 E1 s1 D1 => ?_
  cases d <;> first | exact q1.elim | skip
  rename_i b
  cases D1
  cases b with
  | true => exact ⟨true, rfl, iteT (hQ _ _ P1 H1 c1 q1 E1 s1 (.bl _))⟩
  | false => exact ⟨false, rfl, iteF (hv G P1 H1 c1 ρ σ Q x Φ E1 (xo.step s1.st) q1 fun b v P2 H2 c2 q2 E2 s2 D2 => hQ b v P2 H2 c2 q2 E2 (s1.trans s2) D2)⟩
theorem e_not {a : Expr} {wa : Wx} {pos : Pos} (ha : EJ X W a wa) : EJ X W (.UnaryOp .Not a pos) (d1 wa notD) := by
  obtain ⟨t, ht, hw⟩ := ha.ex
  refine ⟨_, pe_not ht, fun G P H c ρ σ Q x Φ E xo h hQ => ?_⟩
  refine hw G P H c ρ σ _ x _ E xo h fun d v P1 H1 c1 q1 E1 s1 D1 => ?_
  cases d <;> first | exact q1.elim | skip
  cases D1
  exact ⟨_, rfl, hQ _ _ P1 H1 c1 q1 E1 s1 (.bl _)⟩
def dIf (wt : Wt) (wa wb : Wx) : Wx := fun x c ρ Φ => wt x c ρ fun b c1 => if b = true then wa x c1 ρ Φ else wb x c1 ρ Φ
theorem e_if {t a b : Expr} {wt : Wt} {wa wb : Wx} {pos : Pos} (ht : TJ X W t wt) (ha : EJ X W a wa) (hb : EJ X W b wb) : EJ X W (.IfExp t a b pos) (dIf wt wa wb) := by
  obtain ⟨tt, pt, qt⟩ := ht.ex
  obtain ⟨ta, pa, qa⟩ := ha.ex
  obtain ⟨tb, pb, qb⟩ := hb.ex
  refine ⟨_, pe_ifExp pt pa pb, fun G P H c ρ σ Q x Φ E xo h hQ => ?_⟩
  refine qt G P H c ρ σ _ x _ E xo h fun b P1 H1 c1 q1 E1 s1 => ?_
  cases b with
  | true => exact iteT (qa G P1 H1 c1 ρ σ Q x Φ E1 (xo.step s1.st) q1 fun b v P2 H2 c2 q2 E2 s2 D2 => hQ b v P2 H2 c2 q2 E2 (s1.trans s2) D2)
  | false => exact iteF (qb G P1 H1 c1 ρ σ Q x Φ E1 (xo.step s1.st) q1 fun b v P2 H2 c2 q2 E2 s2 D2 => hQ b v P2 H2 c2 q2 E2 (s1.trans s2) D2)
/-! chains a op b op' c -/
def dChain (wa wb wc : Wx) (g g' : PyData → PyData → (PyData → Prop) → Prop) : Wx := fun x c ρ Φ => wa x c ρ fun d c1 => wb x c1 ρ fun e c2 => g d e fun z => boolC z (wc x c2 ρ fun f c3 => g' e f fun z' => Φ z' c3) (Φ (.bool false) c2)
theorem chain_run {op op' : CmpOp} {a b d : Expr} {wa wb wc : Wx} {g g'} (ho : OpD X (compareOp op) g) (ho' : OpD X (compareOp op') g') (ha : EJ X W a wa) (hb : EJ X W b wb) (hc : EJ X W d wc) :
    ∃ (r r' : R2) (ta tb tc : TE), OpR X (compareOp op) r ∧ OpR X (compareOp op') r' ∧ PE X a ta ∧ PE X b tb ∧ PE X d tc ∧ ∀ (G : Cd) (P : AP) (H : Hp) (c : Nat) (ρ : List Sl) (σ : L2.St) (Q : VK) (x : XP) (Φ : PyData → Nat → Prop), EnvR X.K G P H c ρ σ → XOk X.K G P H x W → dChain wa wb wc g g' x c ρ Φ →
    (∀ d v P' H' c', Φ d c' → EnvR X.K G P' H' c' ρ σ → Sx G ρ σ P H P' H' → Dv X.K P' H' v d → Q v H') → tChain r r' ta tb tc σ H Q := by
  obtain ⟨ta, pa, qa⟩ := ha.ex
  obtain ⟨tb, pb, qb⟩ := hb.ex
  obtain ⟨tc, pc, qc⟩ := hc.ex
  obtain ⟨r, pr, qr⟩ := ho
  obtain ⟨r', pr', qr'⟩ := ho'
  refine ⟨r, r', ta, tb, tc, pr, pr', pa, pb, pc, fun G P H c ρ σ Q x Φ E xo h hQ => ?_⟩
  refine qa G P H c ρ σ _ x _ E xo h fun d v P1 H1 c1 q1 E1 s1 D1 => ?_
  refine qb G P1 H1 c1 ρ σ _ x _ E1 (xo.step s1.st) q1 fun e u P2 H2 c2 q2 E2 s2 D2 => ?_
  refine qr G P2 H2 c2 ρ σ v u d e _ _ E2 (.dv (D1.mono s2.st)) (.dv D2) q2 fun z v' P3 H3 q3 E3 s3 D3 => ?_
  cases z <;> first | exact q3.elim | skip
  rename_i k
  cases D3
  have s03 := (s1.trans s2).trans s3
  cases k with
  | false => exact ⟨false, rfl, iteF (hQ _ _ P3 H3 c2 q3 E3 s03 (.bl _))⟩
  | true =>
    refine ⟨true, rfl, iteT ?_⟩
    refine qc G P3 H3 c2 ρ σ _ x _ E3 (xo.step s03.st) q3 fun f u4 P4 H4 c4 q4 E4 s4 D4 => ?_
    refine qr' G P4 H4 c4 ρ σ u u4 e f _ _ E4 (.dv (D2.mono (s3.trans s4).st)) (.dv D4) q4 fun z v' P5 H5 q5 E5 s5 D5 => ?_
    exact hQ z v' P5 H5 c4 q5 E5 ((s03.trans s4).trans s5) D5
theorem e_chain {op op' : CmpOp} {a b d : Expr} {wa wb wc : Wx} {pos : Pos} {g g'} (ho : OpD X (compareOp op) g) (ho' : OpD X (compareOp op') g') (ha : EJ X W a wa) (hb : EJ X W b wb) (hc : EJ X W d wc)
    (hm : lastMarks [op, op'] [b, d] = false := by with_unfolding_all rfl) : EJ X W (.Compare a [op, op'] [b, d] pos) (dChain wa wb wc g g') := by
  obtain ⟨r, r', ta, tb, tc, h1, h2, h3, h4, h5, h⟩ := chain_run ho ho' ha hb hc
  exact ⟨_, pe_chain h1 h2 h3 h4 h5 hm, h⟩
theorem t_chain {op op' : CmpOp} {a b d : Expr} {wa wb wc : Wx} {pos : Pos} {g g'} (ho : OpD X (compareOp op) g) (ho' : OpD X (compareOp op') g') (ha : EJ X W a wa) (hb : EJ X W b wb) (hc : EJ X W d wc)
    (hm : lastMarks [op, op'] [b, d] = false := by with_unfolding_all rfl) : TJ X W (.Compare a [op, op'] [b, d] pos) (dTest (dChain wa wb wc g g')) := by
  obtain ⟨r, r', ta, tb, tc, h1, h2, h3, h4, h5, h⟩ := chain_run ho ho' ha hb hc
  refine ⟨_, pt_chain h1 h2 h3 h4 h5 hm, fun G P H c ρ σ Q x Φ E xo hw hQ => ?_⟩
  refine h G P H c ρ σ _ x _ E xo hw fun d v P' H' c' q E' st D => ?_
  cases d <;> first | exact q.elim | skip
  cases D
  exact ⟨_, rfl, hQ _ P' H' c' q E' st⟩
end
end DL

/-! Displays, subscripts, slices, arguments, built-ins over data. -/
namespace DL
open PySem PySem.Spec PyProof.Rows L2
section
variable {X : Cx} {W : WX}
/-! ### lists of expressions as data -/
abbrev Wd := XP → Nat → List Sl → (List PyData → Nat → Prop) → Prop
/-- data in a row -/
structure LJ (X : Cx) (W : WX) (es : List Expr) (w : Wd) : Prop where
  ex : ∃ t, PA X es t ∧ ∀ (G : Cd) (P : AP) (H : Hp) (c : Nat) (ρ : List Sl) (σ : L2.St) (Q : List V → Hp → Prop) (x : XP) (Φ : List PyData → Nat → Prop), EnvR X.K G P H c ρ σ → XOk X.K G P H x W → w x c ρ Φ →
    (∀ ds vs P' H' c', Φ ds c' → EnvR X.K G P' H' c' ρ σ → Sx G ρ σ P H P' H' → DvAll X.K P' H' vs ds → Q vs H') → t σ H Q
def dNil : Wd := fun _ c _ Φ => Φ [] c
def dCons (wa : Wx) (wr : Wd) : Wd := fun x c ρ Φ => wa x c ρ fun d c1 => wr x c1 ρ fun ds c2 => Φ (d :: ds) c2
theorem l_nil : LJ X W [] dNil := ⟨_, pa_nil, fun G P H c ρ σ Q x Φ E xo h hQ => hQ _ _ P H c h E .refl .nil⟩
theorem l_cons {e : Expr} {es : List Expr} {wa : Wx} {wr : Wd} (ha : EJ X W e wa) (hr : LJ X W es wr) (hs : starEach (e :: es) X.env = (false, eval e X.env) :: starEach es X.env := by rfl) : LJ X W (e :: es) (dCons wa wr) := by
  obtain ⟨ta, pa, qa⟩ := ha.ex
  obtain ⟨tr, pr, qr⟩ := hr.ex
  refine ⟨_, pa_cons pa pr hs, fun G P H c ρ σ Q x Φ E xo h hQ => ?_⟩
  refine qa G P H c ρ σ _ x _ E xo h fun d v P1 H1 c1 q1 E1 s1 D1 => ?_
  refine qr G P1 H1 c1 ρ σ _ x _ E1 (xo.step s1.st) q1 fun ds vs P2 H2 c2 q2 E2 s2 D2 => ?_
  exact hQ _ _ P2 H2 c2 q2 E2 (s1.trans s2) (.cons (D1.mono s2.st) D2)
def dTup (w : Wd) : Wx := fun x c ρ Φ => w x c ρ fun ds c1 => ds.length ≤ sizeLine ∧ Φ (.tuple ds) c1
theorem e_tup {es : List Expr} {w : Wd} {x1 pos} (h : LJ X W es w) : EJ X W (.Tuple es x1 pos) (dTup w) := by
  obtain ⟨t, ht, hw⟩ := h.ex
  refine ⟨_, pe_tupZ ht, fun G P H c ρ σ Q x Φ E xo h hQ => ?_⟩
  refine hw G P H c ρ σ _ x _ E xo h fun ds vs P1 H1 c1 q1 E1 s1 D1 => ⟨by rw [D1.length]; exact q1.1, fun p ob hd np => ?_⟩
  obtain ⟨e2, s2, D2⟩ := Dv.newT E1 np hd D1
  exact hQ _ _ _ _ c1 q1.2 e2 (s1.trans s2) D2
def dLst (w : Wd) : Wf := fun x c ρ Φ => w x c ρ fun ds c1 => ds.length ≤ sizeLine ∧ Φ ds c1
theorem f_lst {es : List Expr} {w : Wd} {pos} (h : LJ X W es w) : FJ X W (.List es pos) (dLst w) := by
  obtain ⟨t, ht, hw⟩ := h.ex
  refine ⟨_, pe_lst ht, fun G P H c ρ σ Q x Φ E xo h hQ => ?_⟩
  refine hw G P H c ρ σ _ x _ E xo h fun ds vs P1 H1 c1 q1 E1 s1 D1 => ⟨by rw [D1.length]; exact q1.1, fun p np => ?_⟩
  exact hQ _ _ _ _ c1 q1.2 (E1.newO np) (s1.trans (.newO E1.base.tr np)) (Fr.new E1 np D1) (s1.dm _ np)

/-! ### xs[i] -/
def ixD : PyData → PyData → (PyData → Prop) → Prop
  | .list xs, .int i, Φ => ∃ d, atI xs i = some d ∧ Φ d
  | .tuple xs, .int i, Φ => ∃ d, atI xs i = some d ∧ Φ d
  | _, _, _ => False
theorem atI_dv {K : PySem.W.Frag} {P : AP} {H : Hp} {vs : List V} {ds : List PyData} {i : Int} {d : PyData} (h : DvAll K P H vs ds) (e : atI ds i = some d) : ∃ v, atI vs i = some v ∧ Dv K P H v d := by
  unfold atI at e ⊢
  rw [h.length]
  obtain ⟨j, e1, e2⟩ := Option.bind_eq_some_iff.mp e
  obtain ⟨v, h1, h2⟩ := h.get e2
  exact ⟨v, by rw [e1]; exact h1, h2⟩
theorem e_ix {a b : Expr} {wa wb : Wx} {pos : Pos} (ha : RJ X W a wa) (hb : EJ X W b wb) (hs : PlainIx b := by exact fun _ _ => rfl) : EJ X W (.Subscript a b pos) (d2 wa wb ixD) := by
  obtain ⟨ta, pa, qa⟩ := ha.ex
  obtain ⟨tb, pb, qb⟩ := hb.ex
  refine ⟨_, pe_ix (ix_list.or ix_tup) pa pb hs, fun G P H c ρ σ Q x Φ E xo h hQ => ?_⟩
  refine qa G P H c ρ σ _ x _ E xo h fun d v P1 H1 c1 q1 E1 s1 D1 => ?_
  refine qb G P1 H1 c1 ρ σ _ x _ E1 (xo.step s1.st) q1 fun e u P2 H2 c2 q2 E2 s2 D2 => ?_
  have D1' := D1.mono s2
  cases d <;> cases e <;> first | exact q2.elim | skip
  · cases D2
    obtain ⟨p, xs, rfl, hq, ht⟩ := D1'.lst
    obtain ⟨z, ez, q⟩ := q2
    obtain ⟨w', h1, h2⟩ := atI_dv ht ez
    exact .inl ⟨p, xs, _, w', rfl, rfl, hq, h1, hQ z w' P2 H2 c2 q E2 (s1.trans s2) h2⟩
  · cases D2
    obtain ⟨p, xs, rfl, hq, ht⟩ := D1'.tup
    obtain ⟨z, ez, q⟩ := q2
    obtain ⟨w', h1, h2⟩ := atI_dv ht ez
    exact .inr ⟨p, xs, _, w', rfl, rfl, hq.1, h1, hQ z w' P2 H2 c2 q E2 (s1.trans s2) h2⟩

/-! ### slices -/
abbrev Wo := XP → Nat → List Sl → (Option Int → Nat → Prop) → Prop
structure OJ (X : Cx) (W : WX) (e : Option Expr) (w : Wo) : Prop where
  ex : ∃ t, PO X e t ∧ ∀ (G : Cd) (P : AP) (H : Hp) (c : Nat) (ρ : List Sl) (σ : L2.St) (Q : Option Int → Hp → Prop) (x : XP) (Φ : Option Int → Nat → Prop), EnvR X.K G P H c ρ σ → XOk X.K G P H x W → w x c ρ Φ →
    (∀ d P' H' c', Φ d c' → EnvR X.K G P' H' c' ρ σ → Sx G ρ σ P H P' H' → Q d H') → t σ H Q
def dNoPart : Wo := fun _ c _ Φ => Φ none c
def dPart (w : Wx) : Wo := fun x c ρ Φ => w x c ρ fun d c1 => match d with
  | .int i => Φ (some i) c1
  | _ => False
theorem p_none : OJ X W none dNoPart := ⟨_, po_none, fun G P H c ρ σ Q x Φ E xo h hQ => hQ _ P H c h E .refl⟩
theorem p_some {e : Expr} {w : Wx} (h : EJ X W e w) : OJ X W (some e) (dPart w) := by
  obtain ⟨t, ht, hw⟩ := h.ex
  refine ⟨_, po_some ht, fun G P H c ρ σ Q x Φ E xo h hQ => hw G P H c ρ σ _ x _ E xo h fun d v P' H' c' q E' st D => ?_⟩
  cases d <;> first | exact q.elim | skip
  cases D
  exact ⟨_, rfl, hQ _ P' H' c' q E' st⟩
def cutD (xs : List PyData) (lo hi : Option Int) : List PyData := (xs.drop (HT.sIx xs.length 0 lo)).take (HT.sIx xs.length xs.length hi - HT.sIx xs.length 0 lo)
theorem cut_dv {K : PySem.W.Frag} {P : AP} {H : Hp} {vs : List V} {ds : List PyData} (lo hi : Option Int) (h : DvAll K P H vs ds) : DvAll K P H (cutV vs lo hi) (cutD ds lo hi) := by
  unfold cutV cutD
  rw [h.length]
  exact (h.drop _).take _
def dSlT (w : Wx) (wl wh : Wo) : Wx := fun x c ρ Φ => w x c ρ fun d c1 => wl x c1 ρ fun lo c2 => wh x c2 ρ fun hi c3 => match d with
  | .tuple xs => Φ (.tuple (cutD xs lo hi)) c3
  | _ => False
/-- a slice of a tuple -/
theorem e_slT {e : Expr} {lo hi : Option Expr} {w : Wx} {wl wh : Wo} {pos p2 : Pos} (he : EJ X W e w) (hl : OJ X W lo wl) (hh : OJ X W hi wh) : EJ X W (.Subscript e (.Slice lo hi none p2) pos) (dSlT w wl wh) := by
  obtain ⟨ta, pa, qa⟩ := he.ex
  obtain ⟨tb, pb, qb⟩ := hl.ex
  obtain ⟨tc, pc, qc⟩ := hh.ex
  refine ⟨_, pe_slice sl_tupZ pa pb pc, fun G P H c ρ σ Q x Φ E xo h hQ => ?_⟩
  refine qa G P H c ρ σ _ x _ E xo h fun d v P1 H1 c1 q1 E1 s1 D1 => ?_
  refine qb G P1 H1 c1 ρ σ _ x _ E1 (xo.step s1.st) q1 fun i1 P2 H2 c2 q2 E2 s2 => ?_
  refine qc G P2 H2 c2 ρ σ _ x _ E2 (xo.step (s1.trans s2).st) q2 fun i2 P3 H3 c3 q3 E3 s3 => ?_
  have D3 := D1.mono (s2.trans s3).st
  have s03 := (s1.trans s2).trans s3
  cases d <;> first | exact q3.elim | skip
  rename_i ds
  cases D3 with
  | @tup a xs _ hq ht =>
    refine ⟨a, xs, rfl, hq.1, fun hw => ?_, fun hw p ob hd np => ?_⟩
    · refine hQ _ _ P3 H3 c3 q3 E3 s03 ?_
      have e : cutD ds i1 i2 = ds := by
        unfold cutD
        rw [← ht.length, hw.1, hw.2]
        simp [ht.length]
      rw [e]
      exact .tup hq ht
    · obtain ⟨e2, s4, D2⟩ := Dv.newT E3 np hd (cut_dv i1 i2 ht)
      exact hQ _ _ _ _ c3 q3 e2 (s03.trans s4) D2
def dSlL (w : Wx) (wl wh : Wo) : Wf := fun x c ρ Φ => w x c ρ fun d c1 => wl x c1 ρ fun lo c2 => wh x c2 ρ fun hi c3 => match d with
  | .list xs => Φ (cutD xs lo hi) c3
  | _ => False
/-- a slice of a list: a new list -/
theorem f_slL {e : Expr} {lo hi : Option Expr} {w : Wx} {wl wh : Wo} {pos p2 : Pos} (he : RJ X W e w) (hl : OJ X W lo wl) (hh : OJ X W hi wh) : FJ X W (.Subscript e (.Slice lo hi none p2) pos) (dSlL w wl wh) := by
  obtain ⟨ta, pa, qa⟩ := he.ex
  obtain ⟨tb, pb, qb⟩ := hl.ex
  obtain ⟨tc, pc, qc⟩ := hh.ex
  refine ⟨_, pe_slice sl_list pa pb pc, fun G P H c ρ σ Q x Φ E xo h hQ => ?_⟩
  refine qa G P H c ρ σ _ x _ E xo h fun d v P1 H1 c1 q1 E1 s1 D1 => ?_
  refine qb G P1 H1 c1 ρ σ _ x _ E1 (xo.step s1.st) q1 fun i1 P2 H2 c2 q2 E2 s2 => ?_
  refine qc G P2 H2 c2 ρ σ _ x _ E2 (xo.step (s1.trans s2).st) q2 fun i2 P3 H3 c3 q3 E3 s3 => ?_
  have D3 := D1.mono (s2.trans s3)
  have s03 := (s1.trans s2).trans s3
  cases d <;> first | exact q3.elim | skip
  obtain ⟨a, xs, rfl, hq, ht⟩ := D3.lst
  exact ⟨a, xs, rfl, hq, fun p np => hQ _ _ _ _ c3 q3 (E3.newO np) (s03.trans (.newO E3.base.tr np)) (Fr.new E3 np (cut_dv i1 i2 ht)) (s03.dm _ np)⟩
/-! list + list: a new list -/
def catD (xs ys : PyData) (Φ : List PyData → Prop) : Prop := match xs, ys with
  | .list a, .list b => a.length + b.length ≤ sizeLine ∧ Φ (a ++ b)
  | _, _ => False
theorem op_catQ : OpR X (binaryOp .Add) (fun x y H Q => ∃ l b xs zs, x = .ref l ∧ y = .ref b ∧ SqL X.K H l xs ∧ SqL X.K H b zs ∧ xs.length + zs.length ≤ sizeLine ∧ ∀ p, H p = none → Q (.ref p) (upd H p (.lst (xs ++ zs)))) := by
  intro pins s σ H x y v u Q I rx ry h
  obtain ⟨l, b, xs, zs, rfl, rfl, hl, hb, hz, q⟩ := h
  cases rx
  cases ry
  obtain ⟨its, r1, p1, z1⟩ := I.list hl
  obtain ⟨its2, r2, p2, z2⟩ := I.list hb
  have e1 := r1.length
  have e2 := r2.length
  obtain ⟨⟨cls, dd, data, sl⟩, n, ho, hc, _, hd⟩ := p1
  obtain ⟨⟨cls2, dd2, data2, sl2⟩, n2, ho2, hc2, _, hd2⟩ := p2
  simp only at hc hd hc2 hd2
  subst hc hd hc2 hd2
  have e : its.toArray ++ its2.toArray = (its ++ its2).toArray := by simp
  refine concat_meets ⟨_, ho, rfl⟩ ⟨_, ho2, rfl⟩ noFill_list_add seq_list_add PySem.F.slot_list_add PySem.F.entry_list_add (PySem.F.args_list_add_2 _ _) (list_addW l b its.toArray its2.toArray n n2 dd dd2 sl sl2 (by simp only [List.size_toArray]; omega)) ⟨ho, ho2, ?_⟩
  rw [e]
  exact ⟨.ref _, _, I.lnew (t' := s.toks) (r1.append r2) (by rw [List.length_append]; omega), rfl, q _ I.fresh⟩
def d2F (wa wb : Wx) (f : PyData → PyData → (List PyData → Prop) → Prop) : Wf := fun x c ρ Φ => wa x c ρ fun d c1 => wb x c1 ρ fun e c2 => f d e fun z => Φ z c2
theorem f_cat {a b : Expr} {wa wb : Wx} {pos : Pos} (ha : RJ X W a wa) (hb : RJ X W b wb) : FJ X W (.BinOp a .Add b pos) (d2F wa wb catD) := by
  obtain ⟨ta, pa, qa⟩ := ha.ex
  obtain ⟨tb, pb, qb⟩ := hb.ex
  refine ⟨_, pe_op op_catQ pa pb, fun G P H c ρ σ Q x Φ E xo h hQ => ?_⟩
  refine qa G P H c ρ σ _ x _ E xo h fun d v P1 H1 c1 q1 E1 s1 D1 => ?_
  refine qb G P1 H1 c1 ρ σ _ x _ E1 (xo.step s1.st) q1 fun e u P2 H2 c2 q2 E2 s2 D2 => ?_
  have D1' := D1.mono s2
  cases d <;> cases e <;> first | exact q2.elim | skip
  obtain ⟨l, xs, rfl, h1, t1⟩ := D1'.lst
  obtain ⟨b, ys, rfl, h2, t2⟩ := D2.lst
  refine ⟨l, b, xs, ys, rfl, rfl, h1, h2, by rw [t1.length, t2.length]; exact q2.1, fun p np => ?_⟩
  exact hQ _ _ _ _ c2 q2.2 (E2.newO np) ((s1.trans s2).trans (.newO E2.base.tr np)) (Fr.new E2 np (t1.append t2)) ((s1.trans s2).dm _ np)

/-! ### built-in functions of data -/
/-- a call of a known value with data: what it answers -/
def CallD (X : Cx) (f : Value) (g : List PyData → (PyData → Prop) → Prop) : Prop :=
  ∃ r : List V → Hp → VK → Prop, CallR X f r ∧ ∀ (G : Cd) (P : AP) (H : Hp) (c : Nat) (ρ : List Sl) (σ : L2.St) (vs : List V) (ds : List PyData) (Q : VK) (Φ : PyData → Prop), EnvR X.K G P H c ρ σ → DvAll X.K P H vs ds → g ds Φ →
    (∀ z v P' H', Φ z → EnvR X.K G P' H' c ρ σ → Sx G ρ σ P H P' H' → Dv X.K P' H' v z → Q v H') → r vs H Q
/-- .. of one thing that may be an own list -/
def CallD1 (X : Cx) (f : Value) (g : PyData → (PyData → Prop) → Prop) : Prop :=
  ∃ r : List V → Hp → VK → Prop, CallR X f r ∧ ∀ (G : Cd) (P : AP) (H : Hp) (c : Nat) (ρ : List Sl) (σ : L2.St) (v : V) (d : PyData) (Q : VK) (Φ : PyData → Prop), EnvR X.K G P H c ρ σ → Rc X.K G ρ σ P H v d → g d Φ →
    (∀ z v P' H', Φ z → EnvR X.K G P' H' c ρ σ → Sx G ρ σ P H P' H' → Dv X.K P' H' v z → Q v H') → r [v] H Q
def CallF1 (X : Cx) (f : Value) (g : PyData → (List PyData → Prop) → Prop) : Prop :=
  ∃ r : List V → Hp → VK → Prop, CallR X f r ∧ ∀ (G : Cd) (P : AP) (H : Hp) (c : Nat) (ρ : List Sl) (σ : L2.St) (v : V) (d : PyData) (Q : VK) (Φ : List PyData → Prop), EnvR X.K G P H c ρ σ → Rc X.K G ρ σ P H v d → g d Φ →
    (∀ zs p P' H', Φ zs → EnvR X.K G P' H' c ρ σ → Sx G ρ σ P H P' H' → Fr X.K G ρ σ P' H' p zs → H p = none → Q (.ref p) H') → r [v] H Q
def dCB (w : Wd) (g : List PyData → (PyData → Prop) → Prop) : Wx := fun x c ρ Φ => w x c ρ fun ds c1 => g ds fun z => Φ z c1
variable {nm : Str} {p pos : Pos} {e : Expr} {es : List Expr} {id T : String}
theorem cb_run {f : Value} {w : Wd} {g} (hc : CallD X f g) (ha : LJ X W es w) : ∃ r t, CallR X f r ∧ PA X es t ∧ ∀ (G : Cd) (P : AP) (H : Hp) (c : Nat) (ρ : List Sl) (σ : L2.St) (Q : VK) (x : XP) (Φ : PyData → Nat → Prop), EnvR X.K G P H c ρ σ → XOk X.K G P H x W → dCB w g x c ρ Φ →
    (∀ d v P' H' c', Φ d c' → EnvR X.K G P' H' c' ρ σ → Sx G ρ σ P H P' H' → Dv X.K P' H' v d → Q v H') → tCB r t σ H Q := by
  obtain ⟨t, ht, hw⟩ := ha.ex
  obtain ⟨r, hr, hq⟩ := hc
  refine ⟨r, t, hr, ht, fun G P H c ρ σ Q x Φ E xo h hQ => ?_⟩
  refine hw G P H c ρ σ _ x _ E xo h fun ds vs P1 H1 c1 q1 E1 s1 D1 => ?_
  exact hq G P1 H1 c1 ρ σ vs ds Q _ E1 D1 q1 fun z v P2 H2 q2 E2 s2 D2 => hQ z v P2 H2 c1 q2 E2 (s1.trans s2) D2
theorem e_callB {w : Wd} {g} (hc : CallD X (.builtin id) g) (hg : Gl X nm) (hm : X.mg nm = none) (hv : bootBuiltins nm = some (.builtin id)) (ha : LJ X W (e :: es) w) (hn : nm ≠ "__name__" := by decide) (hdb : (nm == ("__debug__" : Str)) = false := by decide)
    (he : starEach (e :: es) X.env = (false, eval e X.env) :: starEach es X.env := by rfl) (hpl : (backTo pos (starEach es X.env)).any (·.1) = false := by rfl) : EJ X W (.Call (.Name nm p) (e :: es) [] pos) (dCB w g) := by
  obtain ⟨r, t, hr, ht, h⟩ := cb_run hc ha
  exact ⟨_, pe_callB hr hg hm hv ht hn hdb he hpl, h⟩
theorem e_callBm {w : Wd} {g} (hc : CallD X (.builtin id) g) (hg : Gl X nm) (hm : X.mg nm = some (.builtin id)) (ha : LJ X W (e :: es) w) (hdb : (nm == ("__debug__" : Str)) = false := by decide)
    (he : starEach (e :: es) X.env = (false, eval e X.env) :: starEach es X.env := by rfl) (hpl : (backTo pos (starEach es X.env)).any (·.1) = false := by rfl) : EJ X W (.Call (.Name nm p) (e :: es) [] pos) (dCB w g) := by
  obtain ⟨r, t, hr, ht, h⟩ := cb_run hc ha
  exact ⟨_, pe_callBfun hr hg hm ht hdb he hpl, h⟩
theorem e_callTy {w : Wd} {g} (hc : CallD X (.type T) g) (hg : Gl X nm) (hm : X.mg nm = none) (hv : bootBuiltins nm = some (.type T)) (ha : LJ X W (e :: es) w) (hn : nm ≠ "__name__" := by decide) (hdb : (nm == ("__debug__" : Str)) = false := by decide)
    (he : starEach (e :: es) X.env = (false, eval e X.env) :: starEach es X.env := by rfl) (hpl : (backTo pos (starEach es X.env)).any (·.1) = false := by rfl) : EJ X W (.Call (.Name nm p) (e :: es) [] pos) (dCB w g) := by
  obtain ⟨r, t, hr, ht, h⟩ := cb_run hc ha
  exact ⟨_, pe_callTy hr hg hm hv ht hn hdb he hpl, h⟩
def dCB1 (w : Wx) (g : PyData → (PyData → Prop) → Prop) : Wx := fun x c ρ Φ => w x c ρ fun d c1 => g d fun z => Φ z c1
theorem cb1_run {f : Value} {w : Wx} {g} (hc : CallD1 X f g) (ha : RJ X W e w) (hs : starEach [e] X.env = (false, eval e X.env) :: starEach [] X.env) : ∃ r t, CallR X f r ∧ PA X [e] t ∧ ∀ (G : Cd) (P : AP) (H : Hp) (c : Nat) (ρ : List Sl) (σ : L2.St) (Q : VK) (x : XP) (Φ : PyData → Nat → Prop), EnvR X.K G P H c ρ σ → XOk X.K G P H x W → dCB1 w g x c ρ Φ →
    (∀ d v P' H' c', Φ d c' → EnvR X.K G P' H' c' ρ σ → Sx G ρ σ P H P' H' → Dv X.K P' H' v d → Q v H') → tCB r t σ H Q := by
  obtain ⟨t, ht, hw⟩ := ha.ex
  obtain ⟨r, hr, hq⟩ := hc
  refine ⟨r, _, hr, pa_cons ht pa_nil hs, fun G P H c ρ σ Q x Φ E xo h hQ => ?_⟩
  refine hw G P H c ρ σ _ x _ E xo h fun d v P1 H1 c1 q1 E1 s1 D1 => ?_
  exact hq G P1 H1 c1 ρ σ v d Q _ E1 D1 q1 fun z v P2 H2 q2 E2 s2 D2 => hQ z v P2 H2 c1 q2 E2 (s1.trans s2) D2
theorem e_callB1 {w : Wx} {g} (hc : CallD1 X (.builtin id) g) (hg : Gl X nm) (hm : X.mg nm = none) (hv : bootBuiltins nm = some (.builtin id)) (ha : RJ X W e w) (hn : nm ≠ "__name__" := by decide) (hdb : (nm == ("__debug__" : Str)) = false := by decide)
    (he : starEach [e] X.env = (false, eval e X.env) :: starEach [] X.env := by rfl) (hpl : (backTo pos (starEach [] X.env)).any (·.1) = false := by rfl) : EJ X W (.Call (.Name nm p) [e] [] pos) (dCB1 w g) := by
  obtain ⟨r, t, hr, ht, h⟩ := cb1_run hc ha he
  exact ⟨_, pe_callB hr hg hm hv ht hn hdb he hpl, h⟩
theorem e_callTy1 {w : Wx} {g} (hc : CallD1 X (.type T) g) (hg : Gl X nm) (hm : X.mg nm = none) (hv : bootBuiltins nm = some (.type T)) (ha : RJ X W e w) (hn : nm ≠ "__name__" := by decide) (hdb : (nm == ("__debug__" : Str)) = false := by decide)
    (he : starEach [e] X.env = (false, eval e X.env) :: starEach [] X.env := by rfl) (hpl : (backTo pos (starEach [] X.env)).any (·.1) = false := by rfl) : EJ X W (.Call (.Name nm p) [e] [] pos) (dCB1 w g) := by
  obtain ⟨r, t, hr, ht, h⟩ := cb1_run hc ha he
  exact ⟨_, pe_callTy hr hg hm hv ht hn hdb he hpl, h⟩
def dCF1 (w : Wx) (g : PyData → (List PyData → Prop) → Prop) : Wf := fun x c ρ Φ => w x c ρ fun d c1 => g d fun z => Φ z c1
theorem f_callTy1 {w : Wx} {g} (hc : CallF1 X (.type T) g) (hg : Gl X nm) (hm : X.mg nm = none) (hv : bootBuiltins nm = some (.type T)) (ha : RJ X W e w) (hn : nm ≠ "__name__" := by decide) (hdb : (nm == ("__debug__" : Str)) = false := by decide)
    (he : starEach [e] X.env = (false, eval e X.env) :: starEach [] X.env := by rfl) (hpl : (backTo pos (starEach [] X.env)).any (·.1) = false := by rfl) : FJ X W (.Call (.Name nm p) [e] [] pos) (dCF1 w g) := by
  obtain ⟨t, ht, hw⟩ := ha.ex
  obtain ⟨r, hr, hq⟩ := hc
  refine ⟨_, pe_callTy hr hg hm hv (pa_cons ht pa_nil he) hn hdb he hpl, fun G P H c ρ σ Q x Φ E xo h hQ => ?_⟩
  refine hw G P H c ρ σ _ x _ E xo h fun d v P1 H1 c1 q1 E1 s1 D1 => ?_
  exact hq G P1 H1 c1 ρ σ v d Q _ E1 D1 q1 fun z p P2 H2 q2 E2 s2 D2 np => hQ z p P2 H2 c1 q2 E2 (s1.trans s2) D2 (s1.dm _ np)

/-! #### len, abs, gcd, isqrt, int, isinstance, all, any, tuple, list -/
def lenD : PyData → (PyData → Prop) → Prop
  | .list xs, Φ => Φ (.int xs.length)
  | .tuple xs, Φ => Φ (.int xs.length)
  | .str s, Φ => s.length ≤ sizeLine ∧ Φ (.int s.length)
  | _, _ => False
theorem c_len : CallD1 X (.builtin "len") lenD := by
  refine ⟨_, call_len, fun G P H c ρ σ v d Q Φ E D h hQ => ?_⟩
  cases d <;> first | exact h.elim | skip
  · rw [D.str]
    exact ⟨_, _, rfl, ⟨h.1, rfl⟩, hQ _ _ P H h.2 E .refl (.int _)⟩
  · obtain ⟨a, xs, rfl, hq, t⟩ := D.lst
    refine ⟨_, xs.length, rfl, .inl ⟨xs, hq, rfl⟩, hQ _ _ P H h E .refl ?_⟩
    rw [t.length]
    exact .int _
  · obtain ⟨a, xs, rfl, hq, t⟩ := D.tup
    refine ⟨_, xs.length, rfl, .inr ⟨xs, hq.1, rfl⟩, hQ _ _ P H h E .refl ?_⟩
    rw [t.length]
    exact .int _
def absD : List PyData → (PyData → Prop) → Prop
  | [.int i], Φ => Φ (.int i.natAbs)
  | _, _ => False
theorem dv1 {K : PySem.W.Frag} {P : AP} {H : Hp} {vs : List V} {d : PyData} (h : DvAll K P H vs [d]) : ∃ v, vs = [v] ∧ Dv K P H v d := by
  cases h with
  | cons h t => cases t; exact ⟨_, rfl, h⟩
theorem dv2 {K : PySem.W.Frag} {P : AP} {H : Hp} {vs : List V} {d e : PyData} (h : DvAll K P H vs [d, e]) : ∃ v u, vs = [v, u] ∧ Dv K P H v d ∧ Dv K P H u e := by
  cases h with
  | cons h t =>
    obtain ⟨u, rfl, h2⟩ := dv1 t
    exact ⟨_, _, rfl, h, h2⟩
theorem c_abs : CallD X (.builtin "abs") absD := by
  refine ⟨_, call_abs, fun G P H c ρ σ vs ds Q Φ E D h hQ => ?_⟩
  unfold absD at h
  split at h
  · rename_i i
    obtain ⟨v, rfl, D1⟩ := dv1 D
    cases D1
    refine ⟨i, rfl, hQ _ _ P H h E .refl ?_⟩
    rw [show (if i < 0 then -i else i) = (i.natAbs : Int) by split <;> omega]
    exact .int _
  · exact h.elim
def gcdD : List PyData → (PyData → Prop) → Prop
  | [.int i, .int j], Φ => Φ (.int (Int.gcd i j))
  | _, _ => False
theorem c_gcd : CallD X (.builtin "math.gcd") gcdD := by
  refine ⟨_, cr_gcd, fun G P H c ρ σ vs ds Q Φ E D h hQ => ?_⟩
  unfold gcdD at h
  split at h
  · rename_i i j
    obtain ⟨v, u, rfl, D1, D2⟩ := dv2 D
    cases D1
    cases D2
    exact ⟨i, j, rfl, hQ _ _ P H h E .refl (.int _)⟩
  · exact h.elim
def isqrtD : List PyData → (PyData → Prop) → Prop
  | [.int i], Φ => 0 ≤ i ∧ i < 2 ^ 64 ∧ Φ (.int ((Float64.isqrt i.toNat : Nat) : Int))
  | _, _ => False
theorem call_isqrt : CallR X (.builtin "math.isqrt") (fun xs H Q => ∃ i, xs = [.int i] ∧ 0 ≤ i ∧ i < 2 ^ 64 ∧ Q (.int ((Float64.isqrt i.toNat : Nat) : Int)) H) := by
  intro pins s σ H vs us Q I r h
  obtain ⟨i, rfl, h0, h1, q⟩ := h
  obtain ⟨u, rfl, rx⟩ := vals1 r
  obtain ⟨t, rfl⟩ := rx
  exact PySem.W.mg_isqrt h0 h1 ⟨.int _, H, I.tok _, ⟨_, rfl⟩, q⟩
theorem c_isqrt : CallD X (.builtin "math.isqrt") isqrtD := by
  refine ⟨_, call_isqrt, fun G P H c ρ σ vs ds Q Φ E D h hQ => ?_⟩
  unfold isqrtD at h
  split at h
  · rename_i i
    obtain ⟨v, rfl, D1⟩ := dv1 D
    cases D1
    exact ⟨i, rfl, h.1, h.2.1, hQ _ _ P H h.2.2 E .refl (.int _)⟩
  · exact h.elim
def intD : List PyData → (PyData → Prop) → Prop
  | [.int i], Φ => Φ (.int i)
  | [.bool b], Φ => Φ (.int (if b then 1 else 0))
  | _, _ => False
theorem c_int : CallD X (.type "int") intD := by
  refine ⟨_, call_int1, fun G P H c ρ σ vs ds Q Φ E D h hQ => ?_⟩
  unfold intD at h
  split at h
  · obtain ⟨v, rfl, D1⟩ := dv1 D
    cases D1
    exact .inl ⟨_, rfl, hQ _ _ P H h E .refl (.int _)⟩
  · obtain ⟨v, rfl, D1⟩ := dv1 D
    cases D1
    exact .inr ⟨_, rfl, hQ _ _ P H h E .refl (.int _)⟩
  · exact h.elim
/-- all, any of a list of bools -/
def boolsD (f : List Bool → Bool) : PyData → (PyData → Prop) → Prop
  | .list xs, Φ => ∃ bs : List Bool, xs = bs.map .bool ∧ Φ (.bool (f bs))
  | _, _ => False
theorem DvAll.bools {K : PySem.W.Frag} {P : AP} {H : Hp} : ∀ {vs : List V} {bs : List Bool}, DvAll K P H vs (bs.map .bool) → vs = bs.map V.bl
  | _, [], .nil => rfl
  | _, b :: bs, .cons h t => by
    cases h
    rw [DvAll.bools t]
    rfl
theorem c_all (hc : X.calm = true) : CallD1 X (.builtin "all") (boolsD fun bs => bs.all (fun b => b)) := by
  refine ⟨_, cr_all hc, fun G P H c ρ σ v d Q Φ E D h hQ => ?_⟩
  cases d <;> first | exact h.elim | skip
  obtain ⟨bs, rfl, q⟩ := h
  obtain ⟨a, xs, rfl, hq, t⟩ := D.lst
  rw [t.bools] at hq
  exact ⟨a, bs, rfl, hq, hQ _ _ P H q E .refl (.bl _)⟩
theorem c_any (hc : X.calm = true) : CallD1 X (.builtin "any") (boolsD fun bs => bs.any (fun b => b)) := by
  refine ⟨_, cr_any hc, fun G P H c ρ σ v d Q Φ E D h hQ => ?_⟩
  cases d <;> first | exact h.elim | skip
  obtain ⟨bs, rfl, q⟩ := h
  obtain ⟨a, xs, rfl, hq, t⟩ := D.lst
  rw [t.bools] at hq
  exact ⟨a, bs, rfl, hq, hQ _ _ P H q E .refl (.bl _)⟩
/-- sum of ints; max, min of ints -/
def sumD : PyData → (PyData → Prop) → Prop
  | .list xs, Φ => ∃ ns : List Int, xs = ns.map .int ∧ Φ (.int ns.sum)
  | _, _ => False
theorem c_sum (hc : X.calm = true) : CallD1 X (.builtin "sum") sumD := by
  refine ⟨_, cr_sum hc, fun G P H c ρ σ v d Q Φ E D h hQ => ?_⟩
  cases d <;> first | exact h.elim | skip
  obtain ⟨bs, rfl, q⟩ := h
  obtain ⟨a, xs, rfl, hq, t⟩ := D.lst
  rw [t.ints] at hq
  exact ⟨a, bs, rfl, hq, hQ _ _ P H q E .refl (.int _)⟩
def maxD : PyData → (PyData → Prop) → Prop
  | .list xs, Φ => ∃ ns : List Int, xs = ns.map .int ∧ 0 < ns.length ∧ ∀ m, m ∈ ns → (∀ y, y ∈ ns → y ≤ m) → Φ (.int m)
  | _, _ => False
theorem c_max (hc : X.calm = true) : CallD1 X (.builtin "max") maxD := by
  refine ⟨_, cr_max hc, fun G P H c ρ σ v d Q Φ E D h hQ => ?_⟩
  cases d <;> first | exact h.elim | skip
  obtain ⟨bs, rfl, h0, q⟩ := h
  obtain ⟨a, xs, rfl, hq, t⟩ := D.lst
  rw [t.ints] at hq
  exact ⟨a, bs, rfl, hq, h0, fun m h1 h2 => hQ _ _ P H (q m h1 h2) E .refl (.int _)⟩
/-- tuple(list), list(tuple) -/
def seqOf : PyData → (List PyData → Prop) → Prop
  | .list xs, Φ => Φ xs
  | .tuple xs, Φ => Φ xs
  | _, _ => False
def tupD : PyData → (PyData → Prop) → Prop := fun d Φ => seqOf d fun xs => Φ (.tuple xs)
theorem c_tuple : CallD1 X (.type "tuple") tupD := by
  refine ⟨_, call_tupleZ, fun G P H c ρ σ v d Q Φ E D h hQ => ?_⟩
  cases d <;> first | exact h.elim | skip
  · obtain ⟨a, xs, rfl, hq, t⟩ := D.lst
    refine ⟨a, xs, rfl, .inl ⟨hq, fun p ob hd np => ?_⟩⟩
    obtain ⟨e2, s2, D2⟩ := Dv.newT E np hd t
    exact hQ _ _ _ _ h e2 s2 D2
  · obtain ⟨a, xs, rfl, hq, t⟩ := D.tup
    exact ⟨a, xs, rfl, .inr ⟨hq.1, hQ _ _ P H h E .refl (.tup hq t)⟩⟩
theorem c_list : CallF1 X (.type "list") seqOf := by
  refine ⟨_, call_list_of, fun G P H c ρ σ v d Q Φ E D h hQ => ?_⟩
  cases d <;> first | exact h.elim | skip
  · obtain ⟨a, xs, rfl, hq, t⟩ := D.lst
    exact ⟨a, xs, rfl, .inl hq, fun p np => hQ _ _ _ _ h (E.newO np) (.newO E.base.tr np) (Fr.new E np t) np⟩
  · obtain ⟨a, xs, rfl, hq, t⟩ := D.tup
    exact ⟨a, xs, rfl, .inr hq.1, fun p np => hQ _ _ _ _ h (E.newO np) (.newO E.base.tr np) (Fr.new E np t) np⟩
/-- isinstance(x, T) -/
def tyN : PyData → String
  | .none => "NoneType"
  | .bool _ => "bool"
  | .int _ => "int"
  | .str _ => "str"
  | .list _ => "list"
  | .tuple _ => "tuple"
  | .dict _ => "dict"
theorem ty_of {K : PySem.W.Frag} {G : Cd} {ρ : List Sl} {σ : L2.St} {P : AP} {H : Hp} {v : V} {d : PyData} (D : Rc K G ρ σ P H v d) : TyX K H v (.type (tyN d)) := by
  cases D with
  | own h _ _ => exact .base (.lst h)
  | dv D =>
    cases D with
    | non => exact .base .non
    | bl b => exact .base (.bl b)
    | int i => exact .base (.int i)
    | str s => exact .base (.str s)
    | lst h t =>
      rcases h.1 with (h | ⟨o, h⟩) | ⟨o, its, n, h, hc, _⟩
      · exact .base (.lst h)
      · exact .base (.frz h)
      · exact .kList h hc
    | tup h t =>
      rcases h.1 with (h | ⟨o, h⟩) | ⟨o, its, n, h, hc, _⟩
      · exact .base (.tup h)
      · exact .fTuple h
      · exact .kTuple h hc
def isiD (T : String) : PyData → (PyData → Prop) → Prop := fun d Φ => ∃ b, kitB (tyN d) T = some b ∧ Φ (.bool b)
theorem isi_int (d : PyData) : kitB (tyN d) "int" = some (match d with | .int _ | .bool _ => true | _ => false) := by
  cases d <;> (simp only [tyN]; decide +kernel)
theorem isi_bool (d : PyData) : kitB (tyN d) "bool" = some (match d with | .bool _ => true | _ => false) := by
  cases d <;> (simp only [tyN]; decide +kernel)
theorem isi_tuple (d : PyData) : kitB (tyN d) "tuple" = some (match d with | .tuple _ => true | _ => false) := by
  cases d <;> (simp only [tyN]; decide +kernel)
theorem isi_list (d : PyData) : kitB (tyN d) "list" = some (match d with | .list _ => true | _ => false) := by
  cases d <;> (simp only [tyN]; decide +kernel)
theorem isi_str (d : PyData) : kitB (tyN d) "str" = some (match d with | .str _ => true | _ => false) := by
  cases d <;> (simp only [tyN]; decide +kernel)
/-- isinstance(e, T), T a name of a built-in type -/
theorem e_isi {nm2 : Str} {p2 : Pos} {w : Wx} {a : Expr} (hg : Gl X nm) (hm : X.mg nm = none) (hv : bootBuiltins nm = some (.builtin "isinstance")) (ha : RJ X W a w) (hg2 : Gl X nm2) (hm2 : X.mg nm2 = none) (hv2 : bootBuiltins nm2 = some (.type T))
    (hn : nm ≠ "__name__" := by decide) (hdb : (nm == ("__debug__" : Str)) = false := by decide) (hn2 : nm2 ≠ "__name__" := by decide) (hdb2 : (nm2 == ("__debug__" : Str)) = false := by decide)
    (he : starEach [a, .Name nm2 p2] X.env = (false, eval a X.env) :: starEach [.Name nm2 p2] X.env := by rfl) (he2 : starEach [.Name nm2 p2] X.env = (false, eval (.Name nm2 p2) X.env) :: starEach [] X.env := by rfl)
    (hpl : (backTo pos (starEach [.Name nm2 p2] X.env)).any (·.1) = false := by rfl) : EJ X W (.Call (.Name nm p) [a, .Name nm2 p2] [] pos) (d1 w (isiD T)) := by
  obtain ⟨t, ht, hw⟩ := ha.ex
  have h2 : PE X (.Name nm2 p2) (tC (.ty T)) := pe_bltn hg2 hm2 hv2 rfl hn2 hdb2
  refine ⟨_, pe_callB call_isi hg hm hv (pa_cons ht (pa_cons h2 pa_nil he2) he) hn hdb he hpl, fun G P H c ρ σ Q x Φ E xo h hQ => ?_⟩
  refine hw G P H c ρ σ _ x _ E xo h fun d v P1 H1 c1 q1 E1 s1 D1 => ?_
  obtain ⟨b, hb, q⟩ := q1
  exact ⟨v, .ty T, _, _, b, rfl, .ty T, ty_of D1, kit_ty hb, hQ _ _ P1 H1 c1 q E1 s1 (.bl b)⟩
end
end DL

/-! What a def promises where, if asked for (g), no repr is under way. -/
namespace DL
open PySem PySem.Spec PyProof.Rows L2
abbrev Still (g : Bool) (A : Around) : Prop := g = true → A.guards = some []
structure FnA (g : Bool) (P : Program) (w : World) (K : PySem.W.Frag) (mg : Str → Option Value) (base : Heap) (Y : CXT) (k : Nat) (f : Addr) (fd : FuncData) (ps : List Str) (sp : Sp) : Prop where
  many : ∀ vs H Q E, sp vs H Q E → vs.length = ps.length
  go : ∀ (A : Around) (st : List Env) (s : Shared) (H : Hp) (ar : Args) (us : List Value) (vs : List V) (Q : VK) (E : XK), Room k A → Still g A → Env0 P w K mg base A st s H → BindsTo s fd ar (ps.zip us) →
    Vals vs us → sp vs H Q E → codeAny (model P w) A (.call (.ref f) ar) (CR Y st P w H s Q E) s
section
variable {g : Bool} {P : Program} {w : World} {K : PySem.W.Frag} {mg : Str → Option Value} {base : Heap} {Y : CXT} {k : Nat} {f : Addr} {fd : FuncData} {ps : List Str} {sp : Sp}
theorem FnA.up (F : FnA false P w K mg base Y k f fd ps sp) : FnA true P w K mg base Y k f fd ps sp :=
  ⟨F.many, fun A st s H ar us vs Q E r _ => F.go A st s H ar us vs Q E r nofun⟩
theorem FnA.wide {j : Nat} (F : FnA g P w K mg base Y j f fd ps sp) (h : j ≤ k) : FnA g P w K mg base Y k f fd ps sp :=
  ⟨F.many, fun A st s H ar us vs Q E r => F.go A st s H ar us vs Q E (r.mono h)⟩
theorem deeper_guards (A : Around) (e : Env) : (A.deeper e).guards = A.guards := by rfl
theorem FnA.of_body {x qual : Str} {st : Stmt} {N : List Str} (F : Fun K x qual st f fd) (S : FnScope N ps (defScope st)) (many : ∀ vs H Q E, sp vs H Q E → vs.length = ps.length)
    (hb : ∀ (cdv : Value) (A : Around) (outer : List Env) (s : Shared) (H : Hp) (vs : List V) (Q : VK) (E : XK), Room k (A.deeper (envOfC qual (defScope st) s.heap.objs.size f cdv)) → Still g (A.deeper (envOfC qual (defScope st) s.heap.objs.size f cdv)) → sp vs H Q E →
      ∃ t, PSs (cxOf Y P w K mg base N qual (defScope st) f cdv A outer s H E) (defBody st) t ∧ t { nx := fun _ H' => Q .non H', rt := Q } (L2.start N vs) H) : FnA g P w K mg base Y (k + 1) f fd ps sp := by
  obtain ⟨oc, od, kV, doc, pm, an, cdv, ct, osl, rfl, at_, code⟩ := F.ex
  refine ⟨many, fun A outer s H ar us vs Q E room still e0 bind vals want => ?_⟩
  have n := many _ _ _ _ want
  have old := fun b o e => (e0.bs b o e).1
  have kin : K.In s.heap := e0.mod.kin.keeps old
  have nl : s.heap.NoLimit := e0.mod.nolimit.keeps old
  refine codeAny_call_function room.depth (kin _ _ at_) rfl S.co S.gen rfl (PySem.W.codeRec_of kin code) (bind _ _ _ _ (wpAny_newFunctionEnv_cells S.kind ?_ ?_))
  · rintro ⟨nm, v⟩ hy
    exact (S.par nm (List.of_mem_zip hy).1).imp id fun q => ⟨q, PySem.W.cellsFrom_some _ _ _ (.inl q)⟩
  rintro env rfl s1 made
  refine ⟨nl.keeps made.toInCall.keep, codeAny_func ?_⟩
  obtain ⟨t, rd, q⟩ := hb cdv A outer s H vs Q E (room.deeper _) (fun z => still z) want
  refine wpAny_mono (rd.run [] s1 (L2.start N vs) H _ (inv_start S room.hd e0 n vals made) q) ?_ fun _ _ z => z
  intro fl s' z
  cases fl with
  | ret u =>
    obtain ⟨v, σ', H', J, rv, q⟩ := z
    exact ⟨v, H', J.os, J.bare, J.base, J.hok, rv, q⟩
  | next =>
    obtain ⟨σ', H', J, q⟩ := z
    exact ⟨V.non, H', J.os, J.bare, J.base, J.hok, rfl, q⟩
  | brk => obtain ⟨_, _, _, q⟩ := z; exact q.elim
  | cont => obtain ⟨_, _, _, q⟩ := z; exact q.elim
end
section
variable {X : Cx} {g : Bool} {k : Nat} {f : Addr} {fd : FuncData} {ps : List Str} {sp : Sp} {x : Str} {p pos : Pos} {e : Expr} {es : List Expr} {t : TA} {E : L2.St → XK} {Y : CXT}
theorem run_fnA {pins : List (Addr × Obj)} {σ : L2.St} {H : Hp} {s : Shared} {Q : VK} {us : List Value} {vs : List V} (F : FnA g X.prog X.w X.K X.mg X.base Y k f fd ps sp) (hr : Room k X.A) (hG : Still g X.A) (hb : Binds X.K fd ps []) (hx : PassesAt Y X σ (E σ))
    (I : Inv X pins σ H s) (r : Vals vs us) (h : sp vs H Q (E σ)) : wpAny (model X.prog X.w) X.A (call (.ref f) us) (EP X pins σ Q) X.xe s := by
  have hl : us.length = ps.length := by rw [← r.length]; exact F.many _ _ _ _ h
  have b := hb s us I.kIn (by simpa using hl)
  simp only [List.append_nil] at b
  refine wpAny_call (codeAny_mono (F.go X.A X.stack s H ⟨us, []⟩ us vs Q (E σ) hr hG I.env0 b r h) ?_)
  intro r s' z
  match r, z with
  | .error e, z => exact hx pins H s e s' I z
  | .ok (.ret u), z => exact I.after z
theorem pe_callA (F : FnA g X.prog X.w X.K X.mg X.base Y k f fd ps sp) (hr : Room k X.A) (hG : Still g X.A) (hg : Gl X x) (hm : X.mg x = some (.ref f)) (hk : PySem.W.keepIn X.K (.ref f) = true) (hb : Binds X.K fd ps []) (hx : ∀ σ, PassesAt Y X σ (E σ))
    (ha : PA X (e :: es) t) (hdb : (x == ("__debug__" : Str)) = false) (he : starEach (e :: es) X.env = (false, eval e X.env) :: starEach es X.env) (hpl : (backTo pos (starEach es X.env)).any (·.1) = false) :
    PE X (.Call (.Name x p) (e :: es) [] pos) (tCallS sp E t) := by
  constructor
  intro pins s σ H Q I h
  refine wpAny_Call_Name_kw (ld_glob I hg hm ?_ hdb)
  exact PySem.W.callWith_K (h₀ := X.base) I.ok.mod.kin hk (thn (ha.run pos pins s σ H _ I h) fun us s1 ⟨vs, H1, I1, r, q⟩ => ⟨I1.kIn, run_fnA F hr hG hb (hx σ) I1 r q⟩) he hpl
end
/-! ### the law's own call -/
theorem law_callA {g : Bool} {P : Program} {w : World} {K : PySem.W.Frag} {mg mb : Str → Option Value} {Y : CXT} {k : Nat} {fa a : Addr} {fd : FuncData} {x : Str} {sp : Sp} {s₁ : Shared} {vs : List Value} {ns : List Int}
    (KX : K.In s₁.heap) (hns : s₁.heap.Ns mainGlobals mg) (hb : s₁.heap.Ns builtinsNs mb) (hbb : ∀ x : Str, x ≠ "__name__" → mb x = bootBuiltins x) (hlim : s₁.heap.NoLimit) (hg : s₁.gens = #[])
    (ha : s₁.heap.get? a = some { cls := .type "list", data := .seq vs.toArray }) (hi : IntsAre vs ns) (hl : ns.length ≤ sizeLine) (hr : Room k callerA)
    (F : ∀ base : Heap, K.In base → base.Ns mainGlobals mg → FnA g P w K mg base Y k fa fd [x] sp) (hbind : ∀ (s : Shared) (u : Value), BindsTo s fd ⟨[u], []⟩ [(x, u)])
    (hsp : ∀ H : Hp, Only H → SqL K H a (ns.map V.int) → sp [.ref a] H (fun v _ => v = .bl true) fun _ _ _ => False)
    (hY : ∀ H e s', Y [] H s₁ (fun _ _ _ => False) e s' → False) :
    codeAny (model P w) callerA (.call (.ref fa) ⟨[.ref a], []⟩) (fun r s' => r = .ok (.ret (.bool true)) ∧ OldK s₁.heap s'.heap ∧ s'.os = s₁.os ∧ AllBare s'.gens) s₁ := by
  have rv := vals_ints hi
  have len := hi.length
  have core : ∀ H : Hp, Only H → SqL K H a (ns.map V.int) → HOk P w H s₁.heap → (∀ b, H b ≠ none → b = a) → (H a ≠ none → K.lookup a = none) →
      codeAny (model P w) callerA (.call (.ref fa) ⟨[.ref a], []⟩) (fun r s' => r = .ok (.ret (.bool true)) ∧ OldK s₁.heap s'.heap ∧ s'.os = s₁.os ∧ AllBare s'.gens) s₁ := by
    intro H only seq hok one out
    have free : ∀ {b : Addr} {o : Obj}, s₁.heap.get? b = some o → (b = a → False) → (hidT s₁.heap H).get? b = some o := fun {b o} e n => hidT_get e (Classical.byContradiction fun z => n (one b z))
    have nsK : ∀ {b : Addr} {m : Str → Option Value}, s₁.heap.Ns b m → (hidT s₁.heap H).Ns b m := by
      rintro b m ⟨o, es, ep, e, d, r⟩
      refine ⟨o, es, ep, free e ?_, d, r⟩
      rintro rfl
      rw [ha] at e
      cases e
      cases d
    have kin : K.In (hidT s₁.heap H) := fun b o e => hidT_get (KX b o e) (Classical.byContradiction fun z => by
      have := one b z
      subst this
      rw [out z] at e; cases e)
    have md : Mod K mg (hidT s₁.heap H) := ⟨kin, nsK hns, ⟨mb, nsK hb, hbb⟩, let ⟨mc, h1, h2⟩ := hlim; ⟨mc, nsK h1, h2⟩⟩
    have e0 : Env0 P w K mg (hidT s₁.heap H) callerA [] s₁ H := ⟨rfl, md, fun b o e => of_hidT e, Nat.le_of_eq (hidT_size _ _), trivial, fun b z => absurd (show b ∈ ([] : List Addr) from z) List.not_mem_nil, hok, .of_eq hg⟩
    refine codeAny_mono ((F _ kin (nsK hns)).go callerA [] s₁ H ⟨[.ref a], []⟩ [.ref a] [.ref a] _ _ hr (fun _ => rfl) e0 (hbind s₁ (.ref a)) (.cons rfl .nil) (hsp H only seq)) ?_
    intro r s' z
    match r, z with
    | .error e, z => exact (hY H e s' z).elim
    | .ok (.ret u), z =>
      obtain ⟨v, H', os, bare, un, hok', rel, q⟩ := z
      have q : v = .bl true := q
      subst q
      obtain rfl : u = Value.bool true := rel
      refine ⟨rfl, OldK.of_keep fun b o e => ?_, os, bare⟩
      rcases only b with q | ⟨ob, xs, q⟩
      · exact un.keep b o e q (fun z => absurd (show b ∈ ([] : List Addr) from z) List.not_mem_nil) (by simp)
      · have q2 := un.frzs b ob _ q
        have i1 := (hok b _ q).1
        rw [e] at i1
        cases i1
        exact (hok' b _ q2).1
  cases hk : K.lookup a with
  | some o =>
    have e := KX a o hk
    rw [ha] at e
    cases e
    exact core (fun _ => none) (fun _ => .inl rfl) (.inr ⟨_, vs.toArray, _, hk, rfl, rfl, rfl, by rw [List.size_toArray, len]; exact hl, by simpa using rv⟩) (fun b u z => nomatch (show (none : Option HO) = some u from z)) (fun b z => absurd rfl z) (fun z => absurd rfl z)
  | none =>
    have no : ∀ {b : Addr}, b ≠ a → (if b = a then some (HO.frz { cls := .type "list", data := .seq vs.toArray } (.lst (ns.map V.int))) else none) = none := fun h => if_neg h
    refine core (fun b => if b = a then some (.frz { cls := .type "list", data := .seq vs.toArray } (.lst (ns.map V.int))) else none) (fun b => ?_) (.inl (.inr ⟨_, if_pos rfl⟩)) ?_ ?_ (fun _ => hk)
    · by_cases hb : b = a
      · exact .inr ⟨_, _, if_pos hb⟩
      · exact .inl (if_neg hb)
    · intro b u z
      by_cases hb : b = a
      · subst hb
        cases (if_pos rfl).symm.trans z
        exact ⟨ha, by rw [List.length_map]; exact hl, vs, _, rv, ha⟩
      · cases (no hb).symm.trans z
    · intro b z
      exact Classical.byContradiction fun hb => z (no hb)
theorem walk_A {g : Bool} {l : PySem.W.OpenLaw} {n k : Nat} {q : Program} {loose : List Str} {XP : (Str → Option Value) → Heap → Prop} {YP : World → Heap → Prop} {d : DefRec} {Y : CXT} {x : Str} (hn : l.most = some n) (hn2 : n ≤ sizeLine) (hdf : d.params.defaults = []) (hr : Room k callerA)
    (F : ∀ (w : World) (mg : Str → Option Value) (fa : Addr) (h : Heap), YP w h → h.Ns mainGlobals mg → mg d.name = some (.ref fa) →
      ∃ (K : PySem.W.Frag) (fd : FuncData) (sp : Sp), K.In h ∧ (∀ (s : Shared) (u : Value), BindsTo s fd ⟨[u], []⟩ [(x, u)]) ∧
        (∀ (H : Hp) (a : Addr) (ns : List Int), ns.length ≤ n → Only H → SqL K H a (ns.map V.int) → sp [.ref a] H (fun v _ => v = .bl true) fun _ _ _ => False) ∧
        ∀ base : Heap, K.In base → base.Ns mainGlobals mg → FnA g l.prog w K mg base Y k fa fd [x] sp)
    (hY : ∀ (H : Hp) (s : Shared) (e : Value) (s' : Shared), Y [] H s (fun _ _ _ => False) e s' → False) :
    PySem.W.WalkO q loose XP YP l.row.toRowW d [] (fun f vs => PySem.call f vs) := by
  refine Att.attach_call hn hdf ?_
  intro w s₀ s₁ mg mb fa o pm cd doc a vs ns G Y' ho hd hcd hmg hobj hints hlen hg
  obtain ⟨K, fd, sp, KX, hb, hsp, hF⟩ := F w mg fa _ Y' G.T.g hmg
  exact law_callA KX G.T.g G.T.b G.T.builtins G.T.nolimit hg hobj hints (Nat.le_trans hlen hn2) hr hF hb (fun H hO hS => hsp H a ns hlen hO hS) fun H e s' => hY H s₁ e s'
end DL

/-! Calls of defs over data. -/
namespace DL
open PySem PySem.Spec PyProof.Rows L2
section
variable {X : Cx} {W : WX}
/-! ### arguments -/
def aNil : Wa := fun _ c _ Φ => Φ [] c
def aCons (wa : Wx) (wr : Wa) : Wa := fun x c ρ Φ => wa x c ρ fun d c1 => wr x c1 ρ fun as c2 => Φ (.dt d :: as) c2
def aDk (i : Nat) (wr : Wa) : Wa := fun x c ρ Φ => match ρ[i]? with
  | some .dk => wr x c ρ fun as c2 => Φ (.dk :: as) c2
  | _ => False
theorem ArR.mono {K : PySem.W.Frag} {P P' : AP} {H H' : Hp} {DK : AP} {v : V} {a : Ar} (h : ArR K P H DK v a) (st : Stp P H P' H') : ArR K P' H' DK v a := by
  cases h with
  | dt D => exact .dt (D.mono st)
  | dk h => exact .dk h
theorem a_nil : AJ X W [] aNil := ⟨_, pa_nil, fun G P H c ρ σ Q x Φ E xo h hQ => hQ _ _ P H c h E .refl .nil⟩
theorem a_cons {e : Expr} {es : List Expr} {wa : Wx} {wr : Wa} (ha : EJ X W e wa) (hr : AJ X W es wr) (hs : starEach (e :: es) X.env = (false, eval e X.env) :: starEach es X.env := by rfl) : AJ X W (e :: es) (aCons wa wr) := by
  obtain ⟨ta, pa, qa⟩ := ha.ex
  obtain ⟨tr, pr, qr⟩ := hr.ex
  refine ⟨_, pa_cons pa pr hs, fun G P H c ρ σ Q x Φ E xo h hQ => ?_⟩
  refine qa G P H c ρ σ _ x _ E xo h fun d v P1 H1 c1 q1 E1 s1 D1 => ?_
  refine qr G P1 H1 c1 ρ σ _ x _ E1 (xo.step s1.st) q1 fun ds vs P2 H2 c2 q2 E2 s2 D2 => ?_
  exact hQ _ _ P2 H2 c2 q2 E2 (s1.trans s2) (.cons (.dt (D1.mono s2.st)) D2)
theorem a_dk {e : Expr} {es : List Expr} {i : Nat} {wr : Wa} (ha : PE X e (tVar i)) (hr : AJ X W es wr) (hs : starEach (e :: es) X.env = (false, eval e X.env) :: starEach es X.env := by rfl) : AJ X W (e :: es) (aDk i wr) := by
  obtain ⟨tr, pr, qr⟩ := hr.ex
  refine ⟨_, pa_cons ha pr hs, fun G P H c ρ σ Q x Φ E xo h hQ => ?_⟩
  unfold aDk at h
  split at h
  · rename_i hi
    obtain ⟨a, ea, _⟩ := E.sl i _ hi
    refine ⟨_, ea, ?_⟩
    refine qr G P H c ρ σ _ x _ E xo h fun ds vs P2 H2 c2 q2 E2 s2 D2 => ?_
    exact hQ _ _ P2 H2 c2 q2 E2 s2 (.cons (.dk (.inr ⟨i, hi, ea⟩)) D2)
  · exact h.elim
theorem k_nil : KJ X W [] aNil := ⟨_, pk_nil, fun G P H c ρ σ Q x Φ E xo h hQ => hQ _ _ P H c h E .refl .nil⟩
theorem k_cons {e : Expr} {nm : Option Str} {kpos : Pos} {es : List Keyword} {wa : Wx} {wr : Wa} (ha : EJ X W e wa) (hr : KJ X W es wr) : KJ X W (⟨nm, e, kpos⟩ :: es) (aCons wa wr) := by
  obtain ⟨ta, pa, qa⟩ := ha.ex
  obtain ⟨tr, pr, qr⟩ := hr.ex
  refine ⟨_, pk_cons pa pr, fun G P H c ρ σ Q x Φ E xo h hQ => ?_⟩
  refine qa G P H c ρ σ _ x _ E xo h fun d v P1 H1 c1 q1 E1 s1 D1 => ?_
  refine qr G P1 H1 c1 ρ σ _ x _ E1 (xo.step s1.st) q1 fun ds vs P2 H2 c2 q2 E2 s2 D2 => ?_
  exact hQ _ _ P2 H2 c2 q2 E2 (s1.trans s2) (.cons (.dt (D1.mono s2.st)) D2)

/-! ### what a def promises, over data -/
abbrev Yx := Addr → PyData → Nat → Prop
abbrev Sd := Nat → List Ar → Yx → (PyData → Nat → Prop) → (List PyData → Nat → Prop) → Prop
def Ar.isDk : Ar → Bool
  | .dk => true
  | _ => false
def spOf (K : PySem.W.Frag) (n : Nat) (sd : Sd) : Sp := fun vs H Q E => ∃ (P DK : AP) (c : Nat) (as : List Ar) (y : Yx) (Φ : PyData → Nat → Prop) (Ψ : List PyData → Nat → Prop),
  as.length = n ∧ Base K ⟨H, P, DK⟩ P H c ∧ ArRs K P H DK vs as ∧ (as.filter Ar.isDk).length ≤ 1 ∧ sd c as y Φ Ψ ∧
  (∀ d c' v P' H', Φ d c' → Base K ⟨H, P, DK⟩ P' H' c' → Stp P H P' H' → Dv K P' H' v d → Q v H') ∧
  (∀ ds c' p vs' P' H', Ψ ds c' → Base K ⟨H, P, DK⟩ P' H' c' → Stp P H P' H' → H' p = some (.lst vs') → DvAll K P' H' vs' ds → ¬ P' p → H p = none → ¬ DK p → Q (.ref p) H') ∧
  (∀ C d c' v dx P' H', y C d c' → Base K ⟨H, P, DK⟩ P' H' c' → Stp P H P' H' → H' dx = some (.xd [("value", v)]) → Dv K P' H' v d → E (.ref C) (some dx) H')
theorem ArRs.length {K : PySem.W.Frag} {P : AP} {H : Hp} {DK : AP} : ∀ {vs : List V} {as : List Ar}, ArRs K P H DK vs as → vs.length = as.length
  | _, _, .nil => rfl
  | _, _, .cons _ t => congrArg (· + 1) t.length
theorem spOf_len {K : PySem.W.Frag} {n : Nat} {sd : Sd} : ∀ vs H Q E, spOf K n sd vs H Q E → vs.length = n := by
  rintro vs H Q E ⟨P, DK, c, as, y, Φ, Ψ, h1, _, h2, _⟩
  rw [h2.length, h1]
/-- the decks of a state, as a call's own -/
theorem EnvR.callBase {K : PySem.W.Frag} {G : Cd} {P : AP} {H : Hp} {c : Nat} {ρ : List Sl} {σ : L2.St} (E : EnvR K G P H c ρ σ) : Base K ⟨H, P, DkAll G ρ σ⟩ P H c where
  tr := E.base.tr
  pdk := fun b hp hd => by
    rcases hd with hd | ⟨i, h1, h2⟩
    · exact E.base.pdk b hp hd
    · obtain ⟨a, ea, _, np, _⟩ := E.sl i _ h1
      rw [h2] at ea
      cases ea
      exact np hp
  pn := fun b h => .inl h
  keep := fun b o h _ => h
  dks := fun a hd => by
    rcases hd with hd | ⟨i, h1, h2⟩
    · exact E.base.dks a hd
    · obtain ⟨a', ea, dk, _⟩ := E.sl i _ h1
      rw [h2] at ea
      cases ea
      exact dk
  fz := E.base.fz
/-- behind a call -/
theorem EnvR.call {K : PySem.W.Frag} {G : Cd} {P P' : AP} {H H' : Hp} {c c' : Nat} {ρ : List Sl} {σ : L2.St} (E : EnvR K G P H c ρ σ) (hod : ρ.all Sl.notOd = true) (B : Base K ⟨H, P, DkAll G ρ σ⟩ P' H' c') (st : Stp P H P' H') :
    EnvR K G P' H' c' ρ σ ∧ Sx G ρ σ P H P' H' := by
  have hnone : ∀ b, H b = none → G.H0 b = none := fun b h => E.base.free h
  refine ⟨⟨⟨B.tr, fun b h d => B.pdk b h (.inl d), fun b h => ?_, fun b o h d => ?_, fun a d => B.dks a (.inl d), B.fz⟩, E.len, fun i s hs => ?_, E.inj⟩, st, fun b o h d => B.keep b o h d, fun b h => B.pn b h, fun b h => ?_⟩
  · rcases B.pn b h with h | h
    · exact E.base.pn b h
    · exact .inr (hnone b h)
  · refine B.keep b o (E.base.keep b o h d) fun z => ?_
    rcases z with z | ⟨i, h1, h2⟩
    · exact d z
    · obtain ⟨a, ea, _, _, h3⟩ := E.sl i _ h1
      rw [h2] at ea
      cases ea
      rcases h3 with h3 | h3
      · rw [h] at h3; cases h3
      · exact d h3
  · have old := E.sl i s hs
    cases s with
    | un => exact True.intro
    | dt d => obtain ⟨v, e, D⟩ := old; exact ⟨v, e, D.mono st⟩
    | ow xs =>
      obtain ⟨a, vs, e, h1, h2, h3, h4, h5⟩ := old
      have nk : ¬ DkAll G ρ σ a := E.own_nodk hs rfl (by intro z; cases z) e h5
      refine ⟨a, vs, e, B.keep a _ h1 nk, h2.mono st, fun z => ?_, h4, h5⟩
      rcases B.pn a z with z | z
      · exact h3 z
      · have z : H a = none := z
        rw [h1] at z; cases z
    | dk =>
      obtain ⟨a, e, h1, h2, h3⟩ := old
      have k : DkAll G ρ σ a := .inr ⟨i, hs, e⟩
      exact ⟨a, e, B.dks a k, fun z => B.pdk a z k, h3⟩
    | od xs =>
      have := List.all_eq_true.mp hod _ (List.mem_of_getElem? hs)
      cases this
  · exact B.free h
def dCall (n : Nat) (wa : Wa) (sd : Sd) : Wx := fun x c ρ Φ => wa x c ρ fun as c1 => as.length = n ∧ (as.filter Ar.isDk).length ≤ 1 ∧ ρ.all Sl.notOd = true ∧ sd c1 as (fun C d c' => x C d c' ρ) Φ fun _ _ => False
def dCallF (n : Nat) (wa : Wa) (sd : Sd) : Wf := fun x c ρ Φ => wa x c ρ fun as c1 => as.length = n ∧ (as.filter Ar.isDk).length ≤ 1 ∧ ρ.all Sl.notOd = true ∧ sd c1 as (fun C d c' => x C d c' ρ) (fun _ _ => False) Φ
variable {gd : Bool} {k : Nat} {f : Addr} {fd : FuncData} {ps : List Str} {n : Nat} {sd : Sd} {nm : Str} {p pos : Pos} {e : Expr} {es : List Expr} {wa : Wa}
theorem call_sp {as : List Ar} {vs : List V} {G : Cd} {P : AP} {H : Hp} {c : Nat} {ρ : List Sl} {σ : L2.St} {Q : VK} {x : XP} {Φ : PyData → Nat → Prop} (E : EnvR X.K G P H c ρ σ) (xo : XOk X.K G P H x W) (hv : ArRs X.K P H (DkAll G ρ σ) vs as)
    (h : as.length = n ∧ (as.filter Ar.isDk).length ≤ 1 ∧ ρ.all Sl.notOd = true ∧ sd c as (fun C d c' => x C d c' ρ) Φ fun _ _ => False)
    (hQ : ∀ d v P' H' c', Φ d c' → EnvR X.K G P' H' c' ρ σ → Sx G ρ σ P H P' H' → Dv X.K P' H' v d → Q v H') : spOf X.K n sd vs H Q (WE W σ) := by
  obtain ⟨h1, h2, h3, h4⟩ := h
  refine ⟨P, DkAll G ρ σ, c, as, _, Φ, _, h1, E.callBase, hv, h2, h4, fun d c' v P' H' q B st D => ?_, fun _ _ _ _ _ _ q => q.elim, fun C d c' v dx P' H' q B st hx D => ?_⟩
  · obtain ⟨e1, s1⟩ := E.call h3 B st
    exact hQ d v P' H' c' q e1 s1 D
  · obtain ⟨e1, s1⟩ := E.call h3 B st
    exact xo.go σ C d c' ρ v dx P' H' q e1 st hx D
theorem call_spF {as : List Ar} {vs : List V} {G : Cd} {P : AP} {H : Hp} {c : Nat} {ρ : List Sl} {σ : L2.St} {Q : VK} {x : XP} {Φ : List PyData → Nat → Prop} (E : EnvR X.K G P H c ρ σ) (xo : XOk X.K G P H x W) (hv : ArRs X.K P H (DkAll G ρ σ) vs as)
    (h : as.length = n ∧ (as.filter Ar.isDk).length ≤ 1 ∧ ρ.all Sl.notOd = true ∧ sd c as (fun C d c' => x C d c' ρ) (fun _ _ => False) Φ)
    (hQ : ∀ ds p P' H' c', Φ ds c' → EnvR X.K G P' H' c' ρ σ → Sx G ρ σ P H P' H' → Fr X.K G ρ σ P' H' p ds → H p = none → Q (.ref p) H') : spOf X.K n sd vs H Q (WE W σ) := by
  obtain ⟨h1, h2, h3, h4⟩ := h
  refine ⟨P, DkAll G ρ σ, c, as, _, _, Φ, h1, E.callBase, hv, h2, h4, fun _ _ _ _ _ q => q.elim, fun ds c' p vs' P' H' q B st hp hd nP n0 nk => ?_, fun C d c' v dx P' H' q B st hx D => ?_⟩
  · obtain ⟨e1, s1⟩ := E.call h3 B st
    refine hQ ds p P' H' c' q e1 s1 ⟨⟨vs', hp, hd⟩, nP, E.base.free n0, fun z => nk (.inl z), fun j s hs o e => ?_⟩ n0
    obtain ⟨a, vs2, e2, e3, _⟩ := (E.sl j s hs).at o
    rw [e] at e2
    cases e2
    rw [n0] at e3; cases e3
  · obtain ⟨e1, s1⟩ := E.call h3 B st
    exact xo.go σ C d c' ρ v dx P' H' q e1 st hx D
theorem e_call (F : FnA gd X.prog X.w X.K X.mg X.base (L2.CX X.prog X.w) k f fd ps (spOf X.K n sd)) (hr : Room k X.A) (hG : Still gd X.A) (hg : Gl X nm) (hm : X.mg nm = some (.ref f)) (hk : PySem.W.keepIn X.K (.ref f) = true) (hb : Binds X.K fd ps []) (tk : Takes X W)
    (ha : AJ X W (e :: es) wa) (hdb : (nm == ("__debug__" : Str)) = false := by decide) (he : starEach (e :: es) X.env = (false, eval e X.env) :: starEach es X.env := by rfl) (hpl : (backTo pos (starEach es X.env)).any (·.1) = false := by rfl) :
    EJ X W (.Call (.Name nm p) (e :: es) [] pos) (dCall n wa sd) := by
  obtain ⟨t, ht, hw⟩ := ha.ex
  refine ⟨_, pe_callA F hr hG hg hm hk hb (passAt tk) ht hdb he hpl, fun G P H c ρ σ Q x Φ E xo h hQ => ?_⟩
  refine hw G P H c ρ σ _ x _ E xo h fun as vs P1 H1 c1 q1 E1 s1 A1 => ?_
  exact call_sp E1 (xo.step s1.st) A1 q1 fun d v P' H' c' q E' s' D => hQ d v P' H' c' q E' (s1.trans s') D
theorem f_call (F : FnA gd X.prog X.w X.K X.mg X.base (L2.CX X.prog X.w) k f fd ps (spOf X.K n sd)) (hr : Room k X.A) (hG : Still gd X.A) (hg : Gl X nm) (hm : X.mg nm = some (.ref f)) (hk : PySem.W.keepIn X.K (.ref f) = true) (hb : Binds X.K fd ps []) (tk : Takes X W)
    (ha : AJ X W (e :: es) wa) (hdb : (nm == ("__debug__" : Str)) = false := by decide) (he : starEach (e :: es) X.env = (false, eval e X.env) :: starEach es X.env := by rfl) (hpl : (backTo pos (starEach es X.env)).any (·.1) = false := by rfl) :
    FJ X W (.Call (.Name nm p) (e :: es) [] pos) (dCallF n wa sd) := by
  obtain ⟨t, ht, hw⟩ := ha.ex
  refine ⟨_, pe_callA F hr hG hg hm hk hb (passAt tk) ht hdb he hpl, fun G P H c ρ σ Q x Φ E xo h hQ => ?_⟩
  refine hw G P H c ρ σ _ x _ E xo h fun as vs P1 H1 c1 q1 E1 s1 A1 => ?_
  exact call_spF E1 (xo.step s1.st) A1 q1 fun d v P' H' c' q E' s' D np => hQ d v P' H' c' q E' (s1.trans s') D (s1.dm _ np)

/-! ### calls by names alone -/
structure KBind0 (K : PySem.W.Frag) (fd : FuncData) (ps ks : List Str) (g : {α : Type} → List α → List α) : Prop where
  to : ∀ (s : Shared) (ws : List Value), K.In s.heap → ws.length = ps.length → BindsTo s fd ⟨[], ks.zip ws⟩ (ps.zip (g ws))
theorem KBind0.all {K : PySem.W.Frag} {fd : FuncData} {ps ks : List Str} {g : {α : Type} → List α → List α} (h : ∀ ws : List Value, ws.length = ps.length → bindArgs fd ⟨[], ks.zip ws⟩ = pure (ps.zip (g ws))) : KBind0 K fd ps ks g :=
  ⟨fun s ws _ hl => .of_eq (h ws hl)⟩
/-- g puts a list's items in another order -/
structure Perms (g : {α : Type} → List α → List α) (n : Nat) : Prop where
  vals : ∀ {vs : List V} {us : List Value}, vs.length = n → Vals vs us → Vals (g vs) (g us)
  ars : ∀ {K : PySem.W.Frag} {P : AP} {H : Hp} {DK : AP} {vs : List V} {as : List Ar}, vs.length = n → ArRs K P H DK vs as → ArRs K P H DK (g vs) (g as)
def dCallK (n : Nat) (g : {α : Type} → List α → List α) (wa : Wa) (sd : Sd) : Wx := fun x c ρ Φ => wa x c ρ fun as c1 => as.length = n ∧ (g as).length = n ∧ ((g as).filter Ar.isDk).length ≤ 1 ∧ ρ.all Sl.notOd = true ∧ sd c1 (g as) (fun C d c' => x C d c' ρ) Φ fun _ _ => False
variable {ks : List Str} {kws : List Keyword} {g : {α : Type} → List α → List α}
theorem run_fnK0 {E : L2.St → XK} {σ : L2.St} {pins : List (Addr × Obj)} {H : Hp} {s : Shared} {Q : VK} {ws : List Value} {zs : List V} {sp : Sp} {CX : CXT} (F : FnA gd X.prog X.w X.K X.mg X.base CX k f fd ps sp) (hr : Room k X.A) (hG : Still gd X.A) (hb : KBind0 X.K fd ps ks g) (pg : Perms g ps.length) (hx : PassesAt CX X σ (E σ))
    (I : Inv X pins σ H s) (rz : Vals zs ws) (hl : zs.length = ps.length) (h : sp (g zs) H Q (E σ)) : wpAny (model X.prog X.w) X.A (PySem.call (.ref f) [] (ks.zip ws)) (EP X pins σ Q) X.xe s := by
  have r2 := pg.vals hl rz
  refine wpAny_call (codeAny_mono (F.go X.A X.stack s H ⟨[], ks.zip ws⟩ (g ws) (g zs) Q (E σ) hr hG I.env0 (hb.to s ws I.kIn (by rw [← rz.length]; exact hl)) r2 h) fun r s' hq => ?_)
  cases r with
  | error e => exact hx pins H s e s' I hq
  | ok fl =>
    cases fl with
    | ret u => exact I.after hq
    | next => exact False.elim hq
    | brk => exact False.elim hq
    | cont => exact False.elim hq
theorem e_callK (F : FnA gd X.prog X.w X.K X.mg X.base (L2.CX X.prog X.w) k f fd ps (spOf X.K n sd)) (hn : ps.length = n) (hr : Room k X.A) (hG : Still gd X.A) (hg : Gl X nm) (hm : X.mg nm = some (.ref f)) (hk : PySem.W.keepIn X.K (.ref f) = true) (hb : KBind0 X.K fd ps ks g) (pg : Perms g ps.length) (tk : Takes X W)
    (hkw : KJ X W kws wa) (hall : (backToKw pos (keywordEach kws X.env)).all (·.1.isSome) = true := by rfl) (hks : (backToKw pos (keywordEach kws X.env)).filterMap (·.1) = ks := by rfl)
    (hdb : (nm == ("__debug__" : Str)) = false := by decide) (hpl : ((backTo pos (starEach [] X.env)).any (·.1) || (backToKw pos (keywordEach kws X.env)).any (·.1.isNone)) = false := by rfl) :
    EJ X W (.Call (.Name nm p) [] kws pos) (dCallK n g wa sd) := by
  obtain ⟨t, ht, hw⟩ := hkw.ex
  refine ⟨fun σ H Q => t σ H fun zs H1 => zs.length = ps.length ∧ spOf X.K n sd (g zs) H1 Q (WE W σ), ⟨fun pins s σ H Q I h => ?_⟩, fun G P H c ρ σ Q x Φ E xo h hQ => ?_⟩
  · refine wpAny_Call_Name_kw (ld_glob I hg hm ?_ hdb)
    refine PySem.W.callWith_KW0 (h₀ := X.base) I.ok.mod.kin hk hall (thn (ht.run pos pins s σ H _ I h) fun ws s1 ⟨zs, H1, I1, rz, q1⟩ => ⟨I1.kIn, ?_⟩) hpl
    rw [hks]
    exact run_fnK0 (E := WE W) F hr hG hb pg (passAt tk σ) I1 rz q1.1 q1.2
  · refine hw G P H c ρ σ _ x _ E xo h fun as vs P1 H1 c1 q1 E1 s1 A1 => ?_
    obtain ⟨h1, h1', h2, h3, h4⟩ := q1
    have hl : vs.length = ps.length := by rw [A1.length, h1, hn]
    exact ⟨hl, call_sp E1 (xo.step s1.st) (pg.ars hl A1) ⟨h1', h2, h3, h4⟩ fun d v P' H' c' q E' s' D => hQ d v P' H' c' q E' (s1.trans s') D⟩
end
end DL

/-! Targets, walks, comprehensions, statements over data. -/
namespace DL
open PySem PySem.Spec PyProof.Rows L2
section
variable {K : PySem.W.Frag} {G : Cd} {P P' : AP} {H H' : Hp} {c c' : Nat} {ρ : List Sl} {σ : L2.St}
theorem own_ne {j k : Nat} {s t : Sl} {a : Addr} (E : EnvR K G P H c ρ σ) (hs : ρ[j]? = some s) (o : s.own = true) (e : σ[j]? = some (some (V.ref a))) (ht : ρ[k]? = some t) (o2 : t.own = true) (e2 : σ[k]? = some (some (V.ref a))) : j = k := E.inj j k s t a hs ht o o2 e e2
theorem stp_mut {a : Addr} {o : HO} (nP : ¬ P a) : Stp P H P (upd H a o) := ⟨fun _ h => h, fun b hb => upd_ne fun e => nP (e ▸ hb)⟩
/-- the own list of slot j is changed -/
theorem EnvR.put (E : EnvR K G P H c ρ σ) {j : Nat} {s s' : Sl} {a : Addr} {vs' : List V} {xs' : List PyData} (hs : ρ[j]? = some s) (o : s.own = true) (e : σ[j]? = some (some (V.ref a))) (nP : ¬ P a) (hv : DvAll K P H vs' xs')
    (hdk : G.DK a → DkShape c xs') (hs' : ∀ H2, (H2 a = some (.lst vs')) → DvAll K P H2 vs' xs' → SlR K G P H2 c s' (some (some (V.ref a)))) (o' : s'.own = true) :
    EnvR K G P (upd H a (.lst vs')) c (ρ.set j s') σ := by
  have st : Stp P H P (upd H a (.lst vs')) := stp_mut nP
  have hv' := hv.mono st
  have hj : j < ρ.length := (List.getElem?_eq_some_iff.mp hs).1
  have nt : ∃ vs, H a = some (.lst vs) := by
    obtain ⟨a2, vs, e2, h2, _⟩ := (E.sl j s hs).at o
    rw [e] at e2
    cases e2
    exact ⟨vs, h2⟩
  refine ⟨⟨fun b hb => ?_, E.base.pdk, E.base.pn, fun b u h d => ?_, fun b d => ?_, fun b hb => by rw [st.eq b hb]; exact E.base.fz b hb⟩, by rw [List.length_set]; exact E.len, fun i t ht => ?_, fun i k t u b h1 h2 o1 o2 e1 e2 => ?_⟩
  · rw [st.eq b hb]; exact E.base.tr b hb
  · have hb := E.base.keep b u h d
    have ne : b ≠ a := fun z => by
      subst z
      have h3 := E.sl j s hs
      cases s with
      | un => cases o
      | dt _ => cases o
      | ow _ => obtain ⟨a2, _, e2, _, _, _, h4, _⟩ := h3; rw [e] at e2; cases e2; rw [h] at h4; cases h4
      | dk => obtain ⟨a2, e2, _, _, h4⟩ := h3; rw [e] at e2; cases e2; rcases h4 with h4 | h4; rw [h] at h4; cases h4; exact d h4
      | od _ => obtain ⟨a2, _, e2, _, _, _, _, h4⟩ := h3; rw [e] at e2; cases e2; rcases h4 with h4 | h4; rw [h] at h4; cases h4; exact d h4
    rw [upd_ne ne]; exact hb
  · by_cases z : b = a
    · subst z
      exact ⟨vs', xs', upd_same, hv', hdk d⟩
    · exact (E.base.dks b d).stp st (upd_ne z)
  · by_cases z : i = j
    · subst z
      rw [List.getElem?_set_self hj] at ht
      cases ht
      rw [e]
      exact hs' _ upd_same hv'
    · rw [List.getElem?_set_ne (Ne.symm z)] at ht
      refine (E.sl i t ht).step st fun b vs o2 e2 h2 h3 => ⟨?_, h3⟩
      have ne : b ≠ a := fun y => by
        subst y
        exact z (E.inj i j t s b ht hs o2 o e2 e)
      rw [upd_ne ne]
      exact h2
  · have back : ∀ {i : Nat} {t : Sl}, (ρ.set j s')[i]? = some t → t.own = true → ∃ u, ρ[i]? = some u ∧ u.own = true := fun {i t} ht ot => by
      by_cases z : i = j
      · subst z; exact ⟨s, hs, o⟩
      · rw [List.getElem?_set_ne (Ne.symm z)] at ht
        exact ⟨t, ht, ot⟩
    obtain ⟨t', h1', o1'⟩ := back h1 o1
    obtain ⟨u', h2', o2'⟩ := back h2 o2
    exact E.inj i k t' u' b h1' h2' o1' o2' e1 e2
theorem EnvR.tick (E : EnvR K G P H c ρ σ) (l : c ≤ c') : EnvR K G P H c' ρ σ where
  base := ⟨E.base.tr, E.base.pdk, E.base.pn, E.base.keep, fun a d => (E.base.dks a d).mono l, E.base.fz⟩
  len := E.len
  sl := fun i s hs => by
    have h := E.sl i s hs
    cases s with
    | un => exact True.intro
    | dt _ => exact h
    | ow _ => exact h
    | dk => obtain ⟨a, e, h1, h2⟩ := h; exact ⟨a, e, h1.mono l, h2⟩
    | od _ => obtain ⟨a, vs, e, h1, h2, h3, h4, h5⟩ := h; exact ⟨a, vs, e, h1, h2, h3, h4.mono l, h5⟩
  inj := E.inj
/-- a slot's own list becomes data -/
theorem EnvR.frz (E : EnvR K G P H c ρ σ) {j : Nat} {xs : List PyData} (hs : ρ[j]? = some (.ow xs)) : ∃ P', EnvR K G P' H c (ρ.set j (.dt (.list xs))) σ ∧ Stp P H P' H := by
  obtain ⟨a, vs, e, h1, h2, h3, h4, h5⟩ := E.sl j _ hs
  have hj : j < ρ.length := (List.getElem?_eq_some_iff.mp hs).1
  have F : Fr K G (ρ.set j .un) σ P H a xs := ⟨⟨vs, h1, h2⟩, h3, h4, h5, fun i s hi o ei => by
    by_cases z : i = j
    · subst z
      rw [List.getElem?_set_self hj] at hi
      cases hi
      cases o
    · rw [List.getElem?_set_ne (Ne.symm z)] at hi
      exact z (E.inj i j s _ a hi hs o rfl ei e)⟩
  have Ed : EnvR K G P H c (ρ.set j .un) σ := by
    have := E.drop j (some (V.ref a))
    rwa [set_self e] at this
  obtain ⟨e1, s1, D1⟩ := F.freeze Ed
  refine ⟨_, ?_, s1⟩
  have := e1.setD (i := j) D1
  rwa [set_self e, List.set_set] at this
end

/-! ### targets -/
section
variable {X : Cx} {W : WX}
abbrev Wg := PyData → Nat → List Sl → (Nat → List Sl → Prop) → Prop
abbrev Wgs := List PyData → Nat → List Sl → (Nat → List Sl → Prop) → Prop
theorem wipe_set_mem {σ : L2.St} {i : Nat} {x : Option V} : ∀ {vs : List Nat}, i ∈ vs → wipe (σ.set i x) vs = wipe σ vs
  | v :: vs, h => by
    show (wipe (σ.set i x) vs).set v none = (wipe σ vs).set v none
    by_cases hi : i ∈ vs
    · rw [wipe_set_mem hi]
    · have e : i = v := by
        rcases List.mem_cons.mp h with h | h
        · exact h
        · exact absurd h hi
      subst e
      have : ∀ vs : List Nat, i ∉ vs → wipe (σ.set i x) vs = (wipe σ vs).set i x := fun vs => by
        induction vs with
        | nil => intro _; rfl
        | cons u us ih =>
          intro hn
          have h1 : u ≠ i := fun e => hn (e ▸ List.mem_cons_self)
          have h2 : i ∉ us := fun e => hn (List.mem_cons_of_mem _ e)
          show (wipe (σ.set i x) us).set u none = ((wipe σ us).set u none).set i x
          rw [ih h2, List.set_comm _ _ h1.symm]
      rw [this vs hi, List.set_set]
/-- all slots but some are as they were, and those hold no own lists -/
structure KeptS (sl : List Nat) (ρ : List Sl) (σ : L2.St) (ρ' : List Sl) (σ' : L2.St) : Prop where
  wp : ∀ vs, (∀ i ∈ sl, i ∈ vs) → wipe σ' vs = wipe σ vs
  eq : ∀ j, j ∉ sl → ρ'[j]? = ρ[j]? ∧ σ'[j]? = σ[j]?
  no : ∀ j ∈ sl, ∀ s, ρ'[j]? = some s → s.own = false
  ln : ρ'.length = ρ.length
theorem KeptS.refl (ρ : List Sl) (σ : L2.St) : KeptS [] ρ σ ρ σ := ⟨fun _ _ => rfl, fun _ _ => ⟨rfl, rfl⟩, (fun _ h => by cases h), rfl⟩
theorem KeptS.trans {s1 s2 : List Nat} {ρ ρ1 ρ2 : List Sl} {σ σ1 σ2 : L2.St} (a : KeptS s1 ρ σ ρ1 σ1) (b : KeptS s2 ρ1 σ1 ρ2 σ2) : KeptS (s1 ++ s2) ρ σ ρ2 σ2 where
  wp := fun vs h => by rw [b.wp vs fun i hi => h i (List.mem_append_right _ hi), a.wp vs fun i hi => h i (List.mem_append_left _ hi)]
  eq := fun j h => by
    have h1 : j ∉ s1 := fun z => h (List.mem_append_left _ z)
    have h2 : j ∉ s2 := fun z => h (List.mem_append_right _ z)
    exact ⟨(b.eq j h2).1.trans (a.eq j h1).1, (b.eq j h2).2.trans (a.eq j h1).2⟩
  no := fun j h s hs => by
    by_cases h2 : j ∈ s2
    · exact b.no j h2 s hs
    · rcases List.mem_append.mp h with h1 | h1
      · exact a.no j h1 s ((b.eq j h2).1 ▸ hs)
      · exact absurd h1 h2
  ln := b.ln.trans a.ln
/-- a target that leaves the heap -/
structure CJ (X : Cx) (tg : Expr) (sl : List Nat) (w : Wg) : Prop where
  ex : ∃ t, PG X tg t ∧ ∀ (G : Cd) (P : AP) (H : Hp) (c : Nat) (ρ : List Sl) (σ : L2.St) (Q : L2.St → Hp → Prop) (d : PyData) (v : V) (Φ : Nat → List Sl → Prop), EnvR X.K G P H c ρ σ → Dv X.K P H v d → w d c ρ Φ →
    (∀ c' ρ' σ', Φ c' ρ' → EnvR X.K G P H c' ρ' σ' → KeptS sl ρ σ ρ' σ' → Q σ' H) → t v σ H Q
structure CsJ (X : Cx) (tgs : List Expr) (sl : List Nat) (w : Wgs) : Prop where
  ex : ∃ t, PGs X tgs t ∧ ∀ (G : Cd) (P : AP) (H : Hp) (c : Nat) (ρ : List Sl) (σ : L2.St) (Q : L2.St → Hp → Prop) (ds : List PyData) (vs : List V) (Φ : Nat → List Sl → Prop), EnvR X.K G P H c ρ σ → DvAll X.K P H vs ds → w ds c ρ Φ →
    (∀ c' ρ' σ', Φ c' ρ' → EnvR X.K G P H c' ρ' σ' → KeptS sl ρ σ ρ' σ' → Q σ' H) → t vs σ H Q
/-- any target -/
structure GJ (X : Cx) (tg : Expr) (w : Wg) : Prop where
  ex : ∃ t, PG X tg t ∧ ∀ (G : Cd) (P : AP) (H : Hp) (c : Nat) (ρ : List Sl) (σ : L2.St) (Q : L2.St → Hp → Prop) (d : PyData) (v : V) (Φ : Nat → List Sl → Prop), EnvR X.K G P H c ρ σ → Dv X.K P H v d → w d c ρ Φ →
    (∀ c' ρ' σ' P' H', Φ c' ρ' → EnvR X.K G P' H' c' ρ' σ' → Stp P H P' H' → Q σ' H') → t v σ H Q
structure GsJ (X : Cx) (tgs : List Expr) (w : Wgs) : Prop where
  ex : ∃ t, PGs X tgs t ∧ ∀ (G : Cd) (P : AP) (H : Hp) (c : Nat) (ρ : List Sl) (σ : L2.St) (Q : L2.St → Hp → Prop) (ds : List PyData) (vs : List V) (Φ : Nat → List Sl → Prop), EnvR X.K G P H c ρ σ → DvAll X.K P H vs ds → w ds c ρ Φ →
    (∀ c' ρ' σ' P' H', Φ c' ρ' → EnvR X.K G P' H' c' ρ' σ' → Stp P H P' H' → Q σ' H') → t vs σ H Q
theorem CJ.g {tg : Expr} {sl : List Nat} {w : Wg} (h : CJ X tg sl w) : GJ X tg w := by
  obtain ⟨t, ht, hw⟩ := h.ex
  exact ⟨t, ht, fun G P H c ρ σ Q d v Φ E D h hQ => hw G P H c ρ σ Q d v Φ E D h fun c' ρ' σ' q E' _ => hQ c' ρ' σ' P H q E' (.refl _ _)⟩
theorem KeptS.one (i : Nat) (d : PyData) (v : V) {ρ : List Sl} {σ : L2.St} : KeptS [i] ρ σ (ρ.set i (.dt d)) (σ.set i (some v)) where
  wp := fun vs hv => wipe_set_mem (hv i (by simp))
  eq := fun j hj => ⟨List.getElem?_set_ne (fun e => hj (by simp [e])), List.getElem?_set_ne (fun e => hj (by simp [e]))⟩
  no := fun j hj s hs => by
    have e : j = i := by simpa using hj
    subst e
    by_cases hl : j < ρ.length
    · rw [List.getElem?_set_self hl] at hs
      cases hs
      rfl
    · rw [List.getElem?_eq_none_iff.mpr (by rw [List.length_set]; omega)] at hs
      cases hs
  ln := by rw [List.length_set]
def dGn (i : Nat) : Wg := fun d c ρ Φ => Φ c (ρ.set i (.dt d))
theorem c_name {i : Nat} {nm : Str} {pos : Pos} (hN : X.N.Nodup) (hi : X.N[i]? = some nm) (hx : Loc X.env.scope nm) (hf : X.fn nm = true ∨ X.env.scope.names.lookup nm = some .local := by first | exact .inl rfl | exact .inr rfl | assumption) : CJ X (.Name nm pos) [i] (dGn i) :=
  ⟨_, pg_name hN hi hx hf, fun G P H c ρ σ Q d v Φ E D h hQ => hQ c _ _ h (E.setD D) (KeptS.one i d v)⟩
def dGnil : Wgs := fun ds c ρ Φ => match ds with
  | [] => Φ c ρ
  | _ => False
def dGcons (w : Wg) (ws : Wgs) : Wgs := fun ds c ρ Φ => match ds with
  | d :: r => w d c ρ fun c1 ρ1 => ws r c1 ρ1 Φ
  | [] => False
theorem cs_nil : CsJ X [] [] dGnil := ⟨_, pgs_nil, fun G P H c ρ σ Q ds vs Φ E D h hQ => by
  cases ds with
  | nil =>
    cases D
    exact ⟨rfl, hQ c ρ σ h E (.refl _ _)⟩
  | cons d r => exact h.elim⟩
theorem cs_cons {e : Expr} {es : List Expr} {sl sr : List Nat} {w : Wg} {ws : Wgs} (h1 : CJ X e sl w) (h2 : CsJ X es sr ws) (hs : (assignEach (e :: es) X.env).map (·.2) = assign e X.env :: (assignEach es X.env).map (·.2) := by rfl) : CsJ X (e :: es) (sl ++ sr) (dGcons w ws) := by
  obtain ⟨t, pt, qt⟩ := h1.ex
  obtain ⟨u, pu, qu⟩ := h2.ex
  refine ⟨_, pgs_cons pt pu hs, fun G P H c ρ σ Q ds vs Φ E D h hQ => ?_⟩
  cases ds with
  | nil => exact h.elim
  | cons d r =>
    cases D with
    | cons D1 D2 =>
      refine ⟨_, _, rfl, qt G P H c ρ σ _ d _ _ E D1 h fun c1 ρ1 σ1 q1 E1 w1 => ?_⟩
      refine qu G P H c1 ρ1 σ1 _ r _ Φ E1 D2 q1 fun c2 ρ2 σ2 q2 E2 w2 => hQ c2 ρ2 σ2 q2 E2 (w1.trans w2)
def dGtup (n : Nat) (ws : Wgs) : Wg := fun d c ρ Φ => match d with
  | .tuple ds => ds.length = n ∧ ws ds c ρ Φ
  | _ => False
theorem c_tup {es : List Expr} {sl : List Nat} {k : Nat} {ws : Wgs} {pos : Pos} {n : Nat} (hc : X.calm = true) (h : CsJ X es sl ws) (hn : (assignEach es X.env).length = n := by rfl) (hst : (assignEach es X.env).findIdx? (·.1) = none := by rfl) :
    CJ X (.Tuple es k pos) sl (dGtup n ws) := by
  obtain ⟨t, pt, qt⟩ := h.ex
  refine ⟨_, pg_tup hc pt hn hst, fun G P H c ρ σ Q d v Φ E D h hQ => ?_⟩
  cases d <;> first | exact h.elim | skip
  cases D with
  | @tup a xs _ hq ht => exact ⟨a, xs, rfl, hq.1, by rw [ht.length]; exact h.1, qt G P H c ρ σ Q _ _ Φ E ht h.2 hQ⟩
theorem gs_nil : GsJ X [] dGnil := ⟨_, pgs_nil, fun G P H c ρ σ Q ds vs Φ E D h hQ => by
  cases ds with
  | nil =>
    cases D
    exact ⟨rfl, hQ c ρ σ P H h E (.refl _ _)⟩
  | cons d r => exact h.elim⟩
theorem gs_cons {e : Expr} {es : List Expr} {w : Wg} {ws : Wgs} (h1 : GJ X e w) (h2 : GsJ X es ws) (hs : (assignEach (e :: es) X.env).map (·.2) = assign e X.env :: (assignEach es X.env).map (·.2) := by rfl) : GsJ X (e :: es) (dGcons w ws) := by
  obtain ⟨t, pt, qt⟩ := h1.ex
  obtain ⟨u, pu, qu⟩ := h2.ex
  refine ⟨_, pgs_cons pt pu hs, fun G P H c ρ σ Q ds vs Φ E D h hQ => ?_⟩
  cases ds with
  | nil => exact h.elim
  | cons d r =>
    cases D with
    | cons D1 D2 =>
      refine ⟨_, _, rfl, qt G P H c ρ σ _ d _ _ E D1 h fun c1 ρ1 σ1 P1 H1 q1 E1 s1 => ?_⟩
      exact qu G P1 H1 c1 ρ1 σ1 _ r _ Φ E1 (D2.mono s1) q1 fun c2 ρ2 σ2 P2 H2 q2 E2 s2 => hQ c2 ρ2 σ2 P2 H2 q2 E2 (s1.trans s2)
theorem g_tup {es : List Expr} {k : Nat} {ws : Wgs} {pos : Pos} {n : Nat} (hc : X.calm = true) (h : GsJ X es ws) (hn : (assignEach es X.env).length = n := by rfl) (hst : (assignEach es X.env).findIdx? (·.1) = none := by rfl) :
    GJ X (.Tuple es k pos) (dGtup n ws) := by
  obtain ⟨t, pt, qt⟩ := h.ex
  refine ⟨_, pg_tup hc pt hn hst, fun G P H c ρ σ Q d v Φ E D h hQ => ?_⟩
  cases d <;> first | exact h.elim | skip
  cases D with
  | @tup a xs _ hq ht => exact ⟨a, xs, rfl, hq.1, by rw [ht.length]; exact h.1, qt G P H c ρ σ Q _ _ Φ E ht h.2 hQ⟩
/-- xs[i] = .., xs an own list in slot j -/
def dGsub (j : Nat) (wi : Wx) : Wg := fun d c ρ Φ => match ρ[j]? with
  | some (.ow xs) => wi xF c ρ fun kd c1 => match kd with
    | .int k => ∃ m, ixN xs.length k = some m ∧ Φ c1 (ρ.set j (.ow (xs.set m d)))
    | _ => False
  | some (.od xs) => wi xF c ρ fun kd c1 => match kd with
    | .int k => ∃ m, ixN xs.length k = some m ∧ DkShape c1 (xs.set m d) ∧ Φ c1 (ρ.set j (.od (xs.set m d)))
    | _ => False
  | _ => False
theorem EnvR.putOw {K : PySem.W.Frag} {G : Cd} {P : AP} {H : Hp} {c : Nat} {ρ : List Sl} {σ : L2.St} (E : EnvR K G P H c ρ σ) {j : Nat} {xs xs' : List PyData} (hs : ρ[j]? = some (.ow xs)) :
    ∃ a vs, σ[j]? = some (some (V.ref a)) ∧ H a = some (.lst vs) ∧ DvAll K P H vs xs ∧ ¬ DkAll G ρ σ a ∧ ∀ vs', DvAll K P H vs' xs' → EnvR K G P (upd H a (.lst vs')) c (ρ.set j (.ow xs')) σ ∧ Stp P H P (upd H a (.lst vs')) := by
  obtain ⟨a, vs, e, h1, h2, h3, h4, h5⟩ := E.sl j _ hs
  refine ⟨a, vs, e, h1, h2, E.own_nodk hs rfl (by intro z; cases z) e h5, fun vs' hv => ⟨E.put hs rfl e h3 hv (fun z => absurd z h5) (fun H2 e2 hv2 => ⟨a, vs', rfl, e2, hv2, h3, h4, h5⟩) rfl, stp_mut h3⟩⟩
theorem EnvR.putOd {K : PySem.W.Frag} {G : Cd} {P : AP} {H : Hp} {c : Nat} {ρ : List Sl} {σ : L2.St} (E : EnvR K G P H c ρ σ) {j : Nat} {xs xs' : List PyData} (hs : ρ[j]? = some (.od xs)) (hd : DkShape c xs') :
    ∃ a vs, σ[j]? = some (some (V.ref a)) ∧ H a = some (.lst vs) ∧ DvAll K P H vs xs ∧ ∀ vs', DvAll K P H vs' xs' → EnvR K G P (upd H a (.lst vs')) c (ρ.set j (.od xs')) σ ∧ Stp P H P (upd H a (.lst vs')) := by
  obtain ⟨a, vs, e, h1, h2, h3, h4, h5⟩ := E.sl j _ hs
  refine ⟨a, vs, e, h1, h2, fun vs' hv => ⟨E.put hs rfl e h3 hv (fun _ => hd) (fun H2 e2 hv2 => ⟨a, vs', rfl, e2, hv2, h3, hd, h5⟩) rfl, stp_mut h3⟩⟩
theorem g_sub {o i : Expr} {wi : Wx} {j : Nat} {pos : Pos} (ho : PE X o (tVar j)) (hi : EJ X WF i wi)
    (ha : ∀ v, assign (.Subscript o i pos) X.env v = (do
      let ov ← holding [v] (eval o X.env)
      let iv ← holding [v, ov] (eval i X.env)
      standAt pos
      holding [v, ov, iv] (setItem ov iv v)
      release [v, ov, iv] []) := by intro _; rfl) : GJ X (.Subscript o i pos) (dGsub j wi) := by
  obtain ⟨ti, pi, qi⟩ := hi.ex
  refine ⟨_, pg_sub ho pi set_list ha, fun G P H c ρ σ Q d v Φ E D h hQ => ?_⟩
  unfold dGsub at h
  split at h
  · rename_i xs hs
    obtain ⟨a, _, ea, _⟩ := E.sl j _ hs
    refine ⟨_, ea, ?_⟩
    refine qi G P H c ρ σ _ xF _ E (XOk.none _ _ _ _ _) h fun kd kv P1 H1 c1 q1 E1 s1 D1 => ?_
    cases kd <;> first | exact q1.elim | skip
    cases D1
    obtain ⟨m, hm, q⟩ := q1
    obtain ⟨a', vs, ea', ha', hv, _, put⟩ := E1.putOw (xs' := xs.set m d) hs
    rw [ea] at ea'
    cases ea'
    refine ⟨a, vs, _, m, rfl, rfl, ha', by rw [hv.length]; exact hm, ?_⟩
    obtain ⟨e2, s2⟩ := put (vs.set m v) (hv.set (D.mono s1.st) m)
    exact hQ _ _ _ _ _ q e2 (s1.st.trans s2)
  · rename_i xs hs
    obtain ⟨a, _, ea, _⟩ := E.sl j _ hs
    refine ⟨_, ea, ?_⟩
    refine qi G P H c ρ σ _ xF _ E (XOk.none _ _ _ _ _) h fun kd kv P1 H1 c1 q1 E1 s1 D1 => ?_
    cases kd <;> first | exact q1.elim | skip
    cases D1
    obtain ⟨m, hm, hd, q⟩ := q1
    obtain ⟨a', vs, ea', ha', hv, put⟩ := E1.putOd (xs' := xs.set m d) hs hd
    rw [ea] at ea'
    cases ea'
    refine ⟨a, vs, _, m, rfl, rfl, ha', by rw [hv.length]; exact hm, ?_⟩
    obtain ⟨e2, s2⟩ := put (vs.set m v) (hv.set (D.mono s1.st) m)
    exact hQ _ _ _ _ _ q e2 (s1.st.trans s2)
  · exact h.elim

/-! ### what is walked -/
def Yl (K : PySem.W.Frag) (P : AP) (H : Hp) (x : V) (H' : Hp) (d : PyData) : Prop := H' = H ∧ Dv K P H x d
structure Walks (K : PySem.W.Frag) (J : It) (P : AP) (H : Hp) (ds : List PyData) : Prop where
  go : ∀ P2 H2, Stp P H P2 H2 → ∀ i, i < ds.length → J.go i H2
  stop : ∀ P2 H2, Stp P H P2 H2 → ∀ i, ds.length ≤ i → J.stop i H2
  yl : ∀ P2 H2, Stp P H P2 H2 → ∀ i d x H3, ds[i]? = some d → J.yld i H2 x H3 → Yl K P2 H2 x H3 d
structure IJ (X : Cx) (W : WX) (tg iter : Expr) (w : Wd) : Prop where
  ex : ∃ wi, PI X tg iter wi ∧ ∀ (G : Cd) (P : AP) (H : Hp) (c : Nat) (ρ : List Sl) (σ : L2.St) (R : It → Hp → Prop) (x : XP) (Φ : List PyData → Nat → Prop), EnvR X.K G P H c ρ σ → XOk X.K G P H x W → w x c ρ Φ →
    (∀ ds J P' H' c', Φ ds c' → EnvR X.K G P' H' c' ρ σ → Sx G ρ σ P H P' H' → Walks X.K J P' H' ds → R J H') → wi σ H R
def dIl (w : Wx) : Wd := fun x c ρ Φ => w x c ρ fun d c1 => match d with
  | .list xs => Φ xs c1
  | _ => False
def dIt (w : Wx) : Wd := fun x c ρ Φ => w x c ρ fun d c1 => match d with
  | .tuple xs => Φ xs c1
  | _ => False
theorem i_list {tg e : Expr} {w : Wx} (h : EJ X W e w) : IJ X W tg e (dIl w) := by
  obtain ⟨t, ht, hw⟩ := h.ex
  refine ⟨_, pi_list ht, fun G P H c ρ σ R x Φ E xo h hR => hw G P H c ρ σ _ x _ E xo h fun d v P' H' c' q E' st D => ?_⟩
  cases d <;> first | exact q.elim | skip
  rename_i ds
  cases D with
  | @lst a xs _ hq ht =>
    refine ⟨a, rfl, ⟨xs, hq.1⟩, hR _ _ P' H' c' q E' st ⟨fun P2 H2 s2 i hi => ?_, fun P2 H2 s2 i hi => ?_, fun P2 H2 s2 i d x H3 hd hy => ?_⟩⟩
    · have hl := ht.length
      exact ⟨xs, xs[i]'(by omega), (hq.mono s2).1, List.getElem?_eq_getElem _⟩
    · exact ⟨xs, (hq.mono s2).1, by rw [ht.length]; exact hi⟩
    · obtain ⟨e3, hy⟩ := hy
      have := hy xs (hq.mono s2).1
      obtain ⟨d', h1, h2⟩ := (ht.mono s2).getV this
      rw [hd] at h1
      cases h1
      exact ⟨e3, h2⟩
theorem i_tup {tg e : Expr} {w : Wx} (h : EJ X W e w) : IJ X W tg e (dIt w) := by
  obtain ⟨t, ht, hw⟩ := h.ex
  refine ⟨_, pi_tup ht, fun G P H c ρ σ R x Φ E xo h hR => hw G P H c ρ σ _ x _ E xo h fun d v P' H' c' q E' st D => ?_⟩
  cases d <;> first | exact q.elim | skip
  rename_i ds
  cases D with
  | @tup a xs _ hq ht =>
    refine ⟨a, rfl, ⟨xs, hq.1⟩, hR _ _ P' H' c' q E' st ⟨fun P2 H2 s2 i hi => ?_, fun P2 H2 s2 i hi => ?_, fun P2 H2 s2 i d x H3 hd hy => ?_⟩⟩
    · have hl := ht.length
      exact ⟨xs, xs[i]'(by omega), (hq.mono s2).1, List.getElem?_eq_getElem _⟩
    · exact ⟨xs, (hq.mono s2).1, by rw [ht.length]; exact hi⟩
    · obtain ⟨e3, hy⟩ := hy
      have := hy xs (hq.mono s2).1
      obtain ⟨d', h1, h2⟩ := (ht.mono s2).getV this
      rw [hd] at h1
      cases h1
      exact ⟨e3, h2⟩
def rgL (lo : Int) (n : Nat) : List PyData := (List.range n).map fun i => .int (lo + (i : Nat))
theorem walks_rg {K : PySem.W.Frag} {P : AP} {H : Hp} (lo : Int) (n : Nat) : Walks K (Itr lo n) P H (rgL lo n) where
  go := fun _ _ _ i hi => show i < n by simpa [rgL] using hi
  stop := fun _ _ _ i hi => show n ≤ i by simpa [rgL] using hi
  yl := fun P2 H2 _ i d x H3 hd hy => by
    obtain ⟨rfl, rfl⟩ := hy
    unfold rgL at hd
    rw [List.getElem?_map] at hd
    by_cases hi : i < n
    · rw [List.getElem?_range hi] at hd
      cases hd
      exact ⟨rfl, .int _⟩
    · rw [List.getElem?_eq_none (by simpa using hi)] at hd
      cases hd
def dRg1 (w : Wx) : Wd := fun x c ρ Φ => w x c ρ fun d c1 => match d with
  | .int j => (-(2 ^ 62) ≤ j ∧ j < 2 ^ 62) ∧ Φ (rgL 0 j.toNat) c1
  | _ => False
def dRg2 (wa wb : Wx) : Wd := fun x c ρ Φ => wa x c ρ fun d c1 => wb x c1 ρ fun e c2 => match d, e with
  | .int i, .int j => (-(2 ^ 62) ≤ i ∧ i < 2 ^ 62 ∧ -(2 ^ 62) ≤ j ∧ j < 2 ^ 62) ∧ Φ (rgL i (j - i).toNat) c2
  | _, _ => False
theorem i_rg1 {tg a : Expr} {wa : Wx} {p pos : Pos} (hg : Gl X "range") (hm : X.mg "range" = none) (ha : EJ X W a wa) (hs : starEach [a] X.env = [(false, eval a X.env)] := by rfl) : IJ X W tg (.Call (.Name "range" p) [a] [] pos) (dRg1 wa) := by
  obtain ⟨t, ht, hw⟩ := ha.ex
  refine ⟨_, pi_range1 hg hm (pa_cons ht pa_nil hs) hs, fun G P H c ρ σ R x Φ E xo h hR => hw G P H c ρ σ _ x _ E xo h fun d v P' H' c' q E' st D => ?_⟩
  cases d <;> first | exact q.elim | skip
  cases D
  exact ⟨_, rfl, q.1.1, q.1.2, hR _ _ P' H' c' q.2 E' st (walks_rg 0 _)⟩
theorem i_rg2 {tg a b : Expr} {wa wb : Wx} {p pos : Pos} (hg : Gl X "range") (hm : X.mg "range" = none) (ha : EJ X W a wa) (hb : EJ X W b wb) (hs : starEach [a, b] X.env = [(false, eval a X.env), (false, eval b X.env)] := by rfl) (hs2 : starEach [b] X.env = [(false, eval b X.env)] := by rfl) :
    IJ X W tg (.Call (.Name "range" p) [a, b] [] pos) (dRg2 wa wb) := by
  obtain ⟨ta, pa, qa⟩ := ha.ex
  obtain ⟨tb, pb, qb⟩ := hb.ex
  refine ⟨_, pi_range2 hg hm (pa_cons pa (pa_cons pb pa_nil hs2) (by rw [hs, hs2])) hs hs2, fun G P H c ρ σ R x Φ E xo h hR => ?_⟩
  refine qa G P H c ρ σ _ x _ E xo h fun d v P1 H1 c1 q1 E1 s1 D1 => ?_
  refine qb G P1 H1 c1 ρ σ _ x _ E1 (xo.step s1.st) q1 fun e u P2 H2 c2 q2 E2 s2 D2 => ?_
  cases d <;> cases e <;> first | exact q2.elim | skip
  cases D1
  cases D2
  exact ⟨_, _, rfl, q2.1, hR _ _ P2 H2 c2 q2.2 E2 (s1.trans s2) (walks_rg _ _)⟩
end
end DL

/-! Comprehensions over data. -/
namespace DL
open PySem PySem.Spec PyProof.Rows L2
section
variable {X : Cx} {W : WX}
/-! ### the weakest readings -/
def TEx (K : PySem.W.Frag) (w : Wx) : TE := fun σ H Q => ∃ (G : Cd) (P : AP) (c : Nat) (ρ : List Sl) (Φ : PyData → Nat → Prop), EnvR K G P H c ρ σ ∧ w xF c ρ Φ ∧
  ∀ d v P' H' c', Φ d c' → EnvR K G P' H' c' ρ σ → Sx G ρ σ P H P' H' → Dv K P' H' v d → Q v H'
def TTx (K : PySem.W.Frag) (w : Wt) : TT := fun σ H Q => ∃ (G : Cd) (P : AP) (c : Nat) (ρ : List Sl) (Φ : Bool → Nat → Prop), EnvR K G P H c ρ σ ∧ w xF c ρ Φ ∧
  ∀ b P' H' c', Φ b c' → EnvR K G P' H' c' ρ σ → Sx G ρ σ P H P' H' → Q b H'
def TGx (K : PySem.W.Frag) (sl : List Nat) (w : Wg) : TG := fun v σ H Q => ∃ (G : Cd) (P : AP) (c : Nat) (ρ : List Sl) (d : PyData) (Φ : Nat → List Sl → Prop), EnvR K G P H c ρ σ ∧ Dv K P H v d ∧ w d c ρ Φ ∧
  ∀ c' ρ' σ', Φ c' ρ' → EnvR K G P H c' ρ' σ' → KeptS sl ρ σ ρ' σ' → Q σ' H
def TIx (K : PySem.W.Frag) (w : Wd) : TI := fun σ H R => ∃ (G : Cd) (P : AP) (c : Nat) (ρ : List Sl) (Φ : List PyData → Nat → Prop), EnvR K G P H c ρ σ ∧ w xF c ρ Φ ∧
  ∀ ds J P' H' c', Φ ds c' → EnvR K G P' H' c' ρ σ → Sx G ρ σ P H P' H' → Walks K J P' H' ds → R J H'
theorem EJ.pe {e : Expr} {w : Wx} (h : EJ X W e w) : PE X e (TEx X.K w) := by
  obtain ⟨t, ht, hw⟩ := h.ex
  refine ⟨fun pins s σ H Q I q => ?_⟩
  obtain ⟨G, P, c, ρ, Φ, E, q1, q2⟩ := q
  exact ht.run pins s σ H Q I (hw G P H c ρ σ Q xF Φ E (XOk.none _ _ _ _ _) q1 q2)
/-- the tests of a clause -/
structure IfJ (X : Cx) (W : WX) (es : List Expr) (w : Wt) : Prop where
  ex : ∃ t, PTs X es t ∧ ∀ (G : Cd) (P : AP) (H : Hp) (c : Nat) (ρ : List Sl) (σ : L2.St) (Q : Bool → Hp → Prop) (x : XP) (Φ : Bool → Nat → Prop), EnvR X.K G P H c ρ σ → XOk X.K G P H x W → w x c ρ Φ →
    (∀ b P' H' c', Φ b c' → EnvR X.K G P' H' c' ρ σ → Sx G ρ σ P H P' H' → Q b H') → t σ H Q
def dYes : Wt := fun _ c _ Φ => Φ true c
theorem if_nil : IfJ X W [] dYes := ⟨_, pts_nil, fun G P H c ρ σ Q x Φ E xo h hQ => hQ _ P H c h E .refl⟩
theorem if_one {e : Expr} {w : Wt} (h : TJ X W e w) : IfJ X W [e] w := by
  obtain ⟨t, ht, hw⟩ := h.ex
  exact ⟨t, pts_one ht, hw⟩
theorem IfJ.pe {es : List Expr} {w : Wt} (h : IfJ X W es w) : PTs X es (TTx X.K w) := by
  obtain ⟨t, ht, hw⟩ := h.ex
  refine ⟨fun pins s σ H Q I q => ?_⟩
  obtain ⟨G, P, c, ρ, Φ, E, q1, q2⟩ := q
  exact ht.run pins s σ H Q I (hw G P H c ρ σ Q xF Φ E (XOk.none _ _ _ _ _) q1 q2)
theorem CJ.pe {e : Expr} {sl : List Nat} {w : Wg} (h : CJ X e sl w) : PG X e (TGx X.K sl w) := by
  obtain ⟨t, ht, hw⟩ := h.ex
  refine ⟨fun pins s σ H v u Q I r q => ?_⟩
  obtain ⟨G, P, c, ρ, d, Φ, E, D, q1, q2⟩ := q
  exact ht.run pins s σ H v u Q I r (hw G P H c ρ σ Q d v Φ E D q1 q2)
theorem IJ.pe {tg e : Expr} {w : Wd} (h : IJ X W tg e w) : PI X tg e (TIx X.K w) := by
  obtain ⟨t, ht, hw⟩ := h.ex
  refine ⟨fun pins s σ H R I q => ?_⟩
  obtain ⟨G, P, c, ρ, Φ, E, q1, q2⟩ := q
  exact ht.run pins s σ H R I (hw G P H c ρ σ R xF Φ E (XOk.none _ _ _ _ _) q1 q2)
end
/-! ### the block's slots -/
def wipeR (ρ : List Sl) : List Nat → List Sl
  | [] => ρ
  | v :: vs => (wipeR ρ vs).set v .un
theorem wipeR_length (ρ : List Sl) : ∀ vs : List Nat, (wipeR ρ vs).length = ρ.length
  | [] => rfl
  | v :: vs => by unfold wipeR; rw [List.length_set, wipeR_length ρ vs]
theorem wipeR_out {ρ : List Sl} {i : Nat} : ∀ {vs : List Nat}, i ∉ vs → (wipeR ρ vs)[i]? = ρ[i]?
  | [], _ => rfl
  | v :: vs, h => by
    unfold wipeR
    rw [List.getElem?_set_ne (fun e => h (by rw [e]; exact List.mem_cons_self)), wipeR_out fun z => h (List.mem_cons_of_mem _ z)]
theorem wipe_out {σ : L2.St} {i : Nat} : ∀ {vs : List Nat}, i ∉ vs → (wipe σ vs)[i]? = σ[i]?
  | [], _ => rfl
  | v :: vs, h => by
    unfold wipe
    rw [List.getElem?_set_ne (fun e => h (by rw [e]; exact List.mem_cons_self)), wipe_out fun z => h (List.mem_cons_of_mem _ z)]
theorem wipe_idem {σ : L2.St} {vs : List Nat} : wipe (wipe σ vs) vs = wipe σ vs := by
  have key : ∀ us : List Nat, (∀ u ∈ us, u ∈ vs) → wipe (wipe σ vs) us = wipe σ vs := fun us => by
    induction us with
    | nil => intro _; rfl
    | cons u us ih =>
      intro h
      show (wipe (wipe σ vs) us).set u none = wipe σ vs
      rw [ih fun x hx => h x (List.mem_cons_of_mem _ hx)]
      have hu := h u List.mem_cons_self
      by_cases hl : u < (wipe σ vs).length
      · have e : (wipe σ vs)[u]? = some none := by
          have aux : ∀ ws : List Nat, u ∈ ws → u < σ.length → (wipe σ ws)[u]? = some none := fun ws => by
            induction ws with
            | nil => intro hm; cases hm
            | cons w ws ih2 =>
              intro hm hl
              show ((wipe σ ws).set w none)[u]? = some none
              by_cases e : w = u
              · subst e
                rw [List.getElem?_set_self (by rw [wipe_length]; exact hl)]
              · rw [List.getElem?_set_ne e]
                exact ih2 ((List.mem_cons.mp hm).resolve_left (fun z => e z.symm)) hl
          exact aux vs hu (by rwa [wipe_length] at hl)
        exact set_self e
      · rw [List.set_eq_of_length_le (by omega)]
  exact key vs fun _ h => h
theorem wipeR_in {ρ : List Sl} {i : Nat} : ∀ {ws : List Nat}, i ∈ ws → i < ρ.length → (wipeR ρ ws)[i]? = some .un
  | w :: ws, hm, hl => by
    show ((wipeR ρ ws).set w .un)[i]? = some .un
    by_cases e : w = i
    · subst e
      rw [List.getElem?_set_self (by rw [wipeR_length]; exact hl)]
    · rw [List.getElem?_set_ne e]
      exact wipeR_in ((List.mem_cons.mp hm).resolve_left (fun z => e z.symm)) hl
theorem iteF' {A B : Prop} (h : if false = true then A else B) : B := by rwa [if_neg Bool.false_ne_true] at h
theorem iteT' {A B : Prop} (h : if true = true then A else B) : A := by rwa [if_pos rfl] at h
def noOwn (ρ : List Sl) (vs : List Nat) : Bool := vs.all fun i => match ρ[i]? with
  | some s => !s.own
  | none => true
section
variable {K : PySem.W.Frag} {G : Cd} {P P' : AP} {H H' : Hp} {c c' : Nat} {ρ : List Sl} {σ : L2.St} {vs : List Nat}
theorem EnvR.wipe (E : EnvR K G P H c ρ σ) : ∀ vs : List Nat, EnvR K G P H c (wipeR ρ vs) (L2.wipe σ vs)
  | [] => E
  | v :: vs => (EnvR.wipe E vs).drop v none
theorem noOwn_at (h : noOwn ρ vs = true) {i : Nat} {s : Sl} (hi : i ∈ vs) (hs : ρ[i]? = some s) : s.own = false := by
  have := List.all_eq_true.mp h i hi
  rw [hs] at this
  simpa using this
/-- behind the storing of some slots -/
theorem EnvR.back {sl : List Nat} {ρ0 : List Sl} {σ0 : L2.St} (E : EnvR K G P H c ρ σ) (kp : KeptS sl ρ0 σ0 ρ σ) (un : ∀ j ∈ sl, ∀ s, ρ0[j]? = some s → s = .un) (ln : ρ0.length = σ0.length) : EnvR K G P H c ρ0 σ0 where
  base := E.base
  len := ln
  sl := fun i s hs => by
    by_cases hi : i ∈ sl
    · rw [un i hi s hs]
      exact True.intro
    · have h := E.sl i s (by rw [(kp.eq i hi).1]; exact hs)
      rwa [(kp.eq i hi).2] at h
  inj := fun i j s t a h1 h2 o1 o2 e1 e2 => by
    have out : ∀ {i : Nat} {s : Sl}, ρ0[i]? = some s → s.own = true → i ∉ sl := fun h o z => by
      have := un _ z _ h
      subst this
      cases o
    have n1 := out h1 o1
    have n2 := out h2 o2
    rw [← (kp.eq i n1).1] at h1
    rw [← (kp.eq j n2).1] at h2
    rw [← (kp.eq i n1).2] at e1
    rw [← (kp.eq j n2).2] at e2
    exact E.inj i j s t a h1 h2 o1 o2 e1 e2
/-- back from a block -/
theorem EnvR.unwipe (E : EnvR K G P H c ρ σ) (E' : EnvR K G P' H' c' (wipeR ρ vs) (L2.wipe σ vs)) (st : Stp P H P' H') (no : noOwn ρ vs = true) : EnvR K G P' H' c' ρ σ where
  base := E'.base
  len := E.len
  sl := fun i s hs => by
    by_cases hi : i ∈ vs
    · have o := noOwn_at no hi hs
      have h := E.sl i s hs
      cases s with
      | un => exact True.intro
      | dt d => obtain ⟨v, e, D⟩ := h; exact ⟨v, e, D.mono st⟩
      | ow _ => cases o
      | dk => cases o
      | od _ => cases o
    · have h := E'.sl i s (by rw [wipeR_out hi]; exact hs)
      rwa [wipe_out hi] at h
  inj := E.inj
theorem dkAll_wipe {a : Addr} (no : noOwn ρ vs = true) (h : DkAll G (wipeR ρ vs) (L2.wipe σ vs) a) : DkAll G ρ σ a := by
  rcases h with h | ⟨i, h1, h2⟩
  · exact .inl h
  · by_cases hi : i ∈ vs
    · exfalso
      have aux : ∀ ws : List Nat, i ∈ ws → i < ρ.length → (wipeR ρ ws)[i]? = some .un := fun ws => by
        induction ws with
        | nil => intro hm; cases hm
        | cons w ws ih2 =>
          intro hm hl
          show ((wipeR ρ ws).set w .un)[i]? = some .un
          by_cases e : w = i
          · subst e
            rw [List.getElem?_set_self (by rw [wipeR_length]; exact hl)]
          · rw [List.getElem?_set_ne e]
            exact ih2 ((List.mem_cons.mp hm).resolve_left (fun z => e z.symm)) hl
      have hl : i < ρ.length := by
        have := (List.getElem?_eq_some_iff.mp h1).1
        rwa [wipeR_length] at this
      rw [aux vs hi hl] at h1
      cases h1
    · rw [wipeR_out hi] at h1
      rw [wipe_out hi] at h2
      exact .inr ⟨i, h1, h2⟩
theorem Sx.unwipe (no : noOwn ρ vs = true) (s : Sx G (wipeR ρ vs) (L2.wipe σ vs) P H P' H') : Sx G ρ σ P H P' H' := ⟨s.st, fun b o h n => s.kp b o h fun z => n (dkAll_wipe no z), s.nw, s.dm⟩
/-- the list in the making is changed -/
theorem EnvR.mutO (E : EnvR K G P H c ρ σ) {D : Addr} {vl : List V} {o : HO} (hD : H D = some (.lst vl)) (nP : ¬ P D) (n0 : G.H0 D = none) (nk : ¬ G.DK D) (no : ∀ (j : Nat) (s : Sl), ρ[j]? = some s → s.own = true → σ[j]? ≠ some (some (V.ref D))) :
    EnvR K G P (upd H D o) c ρ σ where
  base := ⟨fun b hb => by rw [(stp_mut (o := o) (H := H) nP).eq b hb]; exact E.base.tr b hb, E.base.pdk, E.base.pn, fun b u h d => by
      have hb := E.base.keep b u h d
      rw [upd_ne (fun e => by subst e; rw [n0] at h; cases h)]
      exact hb, fun b d => (E.base.dks b d).stp (stp_mut nP) (upd_ne fun e => nk (e ▸ d)), fun b hb => by rw [(stp_mut (o := o) (H := H) nP).eq b hb]; exact E.base.fz b hb⟩
  len := E.len
  sl := fun i t ht => (E.sl i t ht).step (stp_mut nP) fun b vs o2 e2 h2 h3 => ⟨by rw [upd_ne (fun e => no i t ht o2 (by rw [← e]; exact e2))]; exact h2, h3⟩
  inj := E.inj
end

section
variable {X : Cx} {W : WX}
/-- a comprehension's turns -/
def compW (g : Wg) (tt : Wt) (te : Wx) (ρ : List Sl) : List PyData → List PyData → Nat → (List PyData → Nat → Prop) → Prop
  | [], acc, c, Φ => Φ acc c
  | d :: r, acc, c, Φ => g d c ρ fun c1 ρ1 => tt xF c1 ρ1 fun b c2 => if b = true then te xF c2 ρ1 fun z c3 => acc.length < sizeLine ∧ compW g tt te ρ r (acc ++ [z]) c3 Φ else compW g tt te ρ r acc c2 Φ
theorem compW_cons (g : Wg) (tt : Wt) (te : Wx) (ρ : List Sl) (d : PyData) (r acc : List PyData) (c : Nat) (Φ : List PyData → Nat → Prop) : compW g tt te ρ (d :: r) acc c Φ =
  g d c ρ fun c1 ρ1 => tt xF c1 ρ1 fun b c2 => if b = true then te xF c2 ρ1 fun z c3 => acc.length < sizeLine ∧ compW g tt te ρ r (acc ++ [z]) c3 Φ else compW g tt te ρ r acc c2 Φ := rfl
def dComp (wi : Wd) (g : Wg) (tt : Wt) (te : Wx) (vs : List Nat) : Wf := fun x c ρ Φ => noOwn ρ vs = true ∧ wi x c ρ fun ds c1 => compW g tt te (wipeR ρ vs) ds [] c1 Φ
theorem comp_read {tg iter : Expr} {own : List Nat} {sl : List Nat} {wi : Wd} {g : Wg} {tt : Wt} {te : Wx} {ti : TI} (qi : ∀ (G : Cd) (P : AP) (H : Hp) (c : Nat) (ρ : List Sl) (σ : L2.St) (R : It → Hp → Prop) (x : XP) (Φ : List PyData → Nat → Prop), EnvR X.K G P H c ρ σ → XOk X.K G P H x W → wi x c ρ Φ →
    (∀ ds J P' H' c', Φ ds c' → EnvR X.K G P' H' c' ρ σ → Sx G ρ σ P H P' H' → Walks X.K J P' H' ds → R J H') → ti σ H R) (hsl : ∀ i ∈ sl, i ∈ own) :
    ∀ (G : Cd) (P : AP) (H : Hp) (c : Nat) (ρ : List Sl) (σ : L2.St) (Q : VK) (x : XP) (Φ : List PyData → Nat → Prop), EnvR X.K G P H c ρ σ → XOk X.K G P H x W → dComp wi g tt te own x c ρ Φ →
    (∀ ds p P' H' c', Φ ds c' → EnvR X.K G P' H' c' ρ σ → Sx G ρ σ P H P' H' → Fr X.K G ρ σ P' H' p ds → H p = none → Q (.ref p) H') → tLc ti (TGx X.K sl g) (TTx X.K tt) (TEx X.K te) own σ H Q := by
  intro G P H c ρ σ Q x Φ E xo h hQ
  obtain ⟨no, h⟩ := h
  refine qi G P H c ρ σ _ x _ E xo h fun ds J P1 H1 c1 q1 E1 s1 Wk D hD => ?_
  have E1w := E1.wipe own
  have n0 : G.H0 D = none := E1.base.free hD
  have nk : ¬ G.DK D := fun z => by
    obtain ⟨_, _, e, _⟩ := E1.base.dks D z
    rw [hD] at e; cases e
  have nsl : ∀ (j : Nat) (s : Sl), (wipeR ρ own)[j]? = some s → s.own = true → (L2.wipe σ own)[j]? ≠ some (some (V.ref D)) := fun j s h1 h2 e => by
    obtain ⟨a, vs, e2, e3, _⟩ := (E1w.sl j s h1).at h2
    rw [e] at e2
    cases e2
    rw [hD] at e3; cases e3
  have ndk : ¬ DkAll G (wipeR ρ own) (L2.wipe σ own) D := by
    rintro (z | ⟨i, z1, z2⟩)
    · exact nk z
    · exact nsl i _ z1 rfl z2
  have unsl : ∀ j ∈ sl, ∀ s, (wipeR ρ own)[j]? = some s → s = .un := fun j hj s hs => by
    have hv := hsl j hj
    have hl : j < ρ.length := by
      have := (List.getElem?_eq_some_iff.mp hs).1
      rwa [wipeR_length] at this
    rw [wipeR_in hv hl] at hs
    cases hs
    rfl
  refine ⟨fun i m H' => ∃ P' c' acc vacc, m = ds.length - i ∧ i ≤ ds.length ∧ EnvR X.K G P' H' c' (wipeR ρ own) (L2.wipe σ own) ∧ Sx G ρ σ P1 H1 P' H' ∧ H' D = some (.lst vacc) ∧ DvAll X.K P' H' vacc acc ∧ ¬ P' D ∧
    compW g tt te (wipeR ρ own) (ds.drop i) acc c' Φ, ⟨ds.length, P1, c1, [], [], by simp, Nat.zero_le _, E1w.newO hD, .newO E1.base.tr hD, upd_same, .nil, fun z => ?_, q1⟩, ?_⟩
  · obtain ⟨o, e⟩ := E1.base.tr D z
    rw [hD] at e; cases e
  rintro i m H' ⟨P', c', acc, vacc, rfl, hi, E', sx, hDl, hacc, nP, hw⟩
  by_cases hlt : i < ds.length
  · right
    have hd : ds[i]? = some ds[i] := List.getElem?_eq_getElem hlt
    rw [List.drop_eq_getElem_cons hlt, compW_cons] at hw
    refine ⟨Wk.go P' H' sx.st i hlt, fun H4 => ∃ m', m' < ds.length - i ∧ (∃ P' c' acc vacc, m' = ds.length - (i + 1) ∧ i + 1 ≤ ds.length ∧ EnvR X.K G P' H4 c' (wipeR ρ own) (L2.wipe σ own) ∧ Sx G ρ σ P1 H1 P' H4 ∧ H4 D = some (.lst vacc) ∧ DvAll X.K P' H4 vacc acc ∧ ¬ P' D ∧
      compW g tt te (wipeR ρ own) (ds.drop (i + 1)) acc c' Φ), fun H4 h => h, fun xv H3 hy => ?_⟩
    -- the item
    obtain ⟨P3, E3, s3, D3, hD3, hacc3, nP3⟩ : ∃ P3, EnvR X.K G P3 H3 c' (wipeR ρ own) (L2.wipe σ own) ∧ Sx G ρ σ P1 H1 P3 H3 ∧ Dv X.K P3 H3 xv ds[i] ∧ H3 D = some (.lst vacc) ∧ DvAll X.K P3 H3 vacc acc ∧ ¬ P3 D := by
      obtain ⟨rfl, Dx⟩ := Wk.yl P' H' sx.st i _ xv H3 hd hy
      exact ⟨P', E', sx, Dx, hDl, hacc, nP⟩
    refine ⟨G, P3, c', wipeR ρ own, ds[i], _, E3, D3, hw, fun c2 ρ2 σ2 q2 E2 kp => ⟨?_, ?_⟩⟩
    · rw [kp.wp _ hsl, wipe_idem]
    have dk2 : ∀ b, DkAll G ρ2 σ2 b → DkAll G (wipeR ρ own) (L2.wipe σ own) b := fun b => by
      rintro (z | ⟨j, z1, z2⟩)
      · exact .inl z
      · have hj : j ∉ sl := fun z => by
          have := kp.no j z _ z1
          cases this
        rw [(kp.eq j hj).1] at z1
        rw [(kp.eq j hj).2] at z2
        exact .inr ⟨j, z1, z2⟩
    have lift : ∀ {Pa Ha Pb Hb}, Sx G ρ2 σ2 Pa Ha Pb Hb → Sx G ρ σ Pa Ha Pb Hb := fun s => ⟨s.st, fun b o h n => s.kp b o h fun z => n (dkAll_wipe no (dk2 b z)), s.nw, s.dm⟩
    have keepD : ∀ {Pa Ha Pb Hb vl}, Sx G ρ2 σ2 Pa Ha Pb Hb → Ha D = some (.lst vl) → Hb D = some (.lst vl) := fun s h => s.kp D _ h fun z => ndk (dk2 D z)
    have back : ∀ {Pa Ha ca}, EnvR X.K G Pa Ha ca ρ2 σ2 → EnvR X.K G Pa Ha ca (wipeR ρ own) (L2.wipe σ own) := fun Ea => Ea.back kp unsl E3.len
    have keepP : ∀ {Pa Ha ca}, EnvR X.K G Pa Ha ca (wipeR ρ own) (L2.wipe σ own) → True := fun _ => trivial
    refine ⟨G, P3, c2, ρ2, _, E2, q2, fun b P4 H4 c4 q4 E4 s4 => ?_⟩
    have hD4 := keepD s4 hD3
    cases b with
    | false =>
      refine iteF ⟨ds.length - (i + 1), by omega, P4, c4, acc, vacc, rfl, hlt, back E4, s3.trans (lift s4), hD4, hacc3.mono s4.st, ?_, iteF' q4⟩
      exact s4.nP hD3 nP3
    | true =>
      refine iteT ⟨G, P4, c4, ρ2, _, E4, iteT' q4, fun z v P5 H5 c5 q5 E5 s5 D5 => ?_⟩
      have hD5 := keepD s5 hD4
      have nP5 : ¬ P5 D := s5.nP hD4 (s4.nP hD3 nP3)
      refine ⟨vacc, hD5, by rw [((hacc3.mono s4.st).mono s5.st).length]; exact q5.1, ds.length - (i + 1), by omega, P5, c5, acc ++ [z], vacc ++ [v], rfl, hlt, (back E5).mutO hD5 nP5 n0 nk nsl, ⟨((s3.trans (lift s4)).trans (lift s5)).st.trans (stp_mut nP5), fun b o h n => ?_, ((s3.trans (lift s4)).trans (lift s5)).nw, fun b h => ((s3.trans (lift s4)).trans (lift s5)).dm b (upd_dm h)⟩, upd_same, ?_, nP5, q5.2⟩
      · have hb := ((s3.trans (lift s4)).trans (lift s5)).kp b o h n
        rw [upd_ne (ne_of_none h hD)]
        exact hb
      · exact ((((hacc3.mono s4.st).mono s5.st).append (.cons D5 .nil))).mono (stp_mut nP5)
  · left
    have e : i = ds.length := by omega
    subst e
    refine ⟨Wk.stop P' H' sx.st _ (Nat.le_refl _), ?_⟩
    rw [List.drop_length] at hw
    have E'' := E1.unwipe E' sx.st no
    exact hQ acc D P' H' c' hw E'' (s1.trans sx) ⟨⟨vacc, hDl, hacc⟩, nP, n0, nk, fun j s h1 h2 e => by
      obtain ⟨a, vs, e2, e3, _⟩ := (E1.sl j s h1).at h2
      rw [e] at e2
      cases e2
      rw [hD] at e3; cases e3⟩ (s1.dm _ hD)
theorem f_comp {elt tg iter : Expr} {ifs : List Expr} {scope : Scope} {own : List (Str × Nat)} {sl : List Nat} {pos : Pos} {wi : Wd} {g : Wg} {tt : Wt} {te : Wx} (hc : X.calm = true) (hN : X.N.Nodup) (hi : IJ X W tg iter wi) (ok : BlkOk X.N X.env.scope scope own)
    (hsl : ∀ i ∈ sl, i ∈ own.map (·.2))
    (hg : ∀ (s : Shared) (H : Hp) (C : Addr) (cl : List (Str × Addr)) (fp : List Addr), CJ (X.blk s H scope (compEnvC scope cl C X.env) fp) tg sl g)
    (ht : ∀ (s : Shared) (H : Hp) (C : Addr) (cl : List (Str × Addr)) (fp : List Addr), IfJ (X.blk s H scope (compEnvC scope cl C X.env) fp) WF ifs tt)
    (he : ∀ (s : Shared) (H : Hp) (C : Addr) (cl : List (Str × Addr)) (fp : List Addr), EJ (X.blk s H scope (compEnvC scope cl C X.env) fp) WF elt te) (hs : ∀ x, foldedSetIterable iter X.env x = pure x := by intro _; rfl) :
    FJ X W (.ListComp elt [⟨tg, iter, ifs, 0⟩] scope pos) (dComp wi g tt te (own.map (·.2))) := by
  obtain ⟨ti, pi, qi⟩ := hi.ex
  exact ⟨_, pe_lc hc hN pi ok (fun s H C cl fp => show PG _ tg (TGx X.K sl g) from (hg s H C cl fp).pe) (fun s H C cl fp => show PTs _ ifs (TTx X.K tt) from (ht s H C cl fp).pe) (fun s H C cl fp => show PE _ elt (TEx X.K te) from (he s H C cl fp).pe) hs, comp_read (tg := tg) (iter := iter) qi hsl⟩
end
end DL

/-! Statements over data; a def by its body. -/
namespace DL
open PySem PySem.Spec PyProof.Rows L2
section
variable {X : Cx} {W : WX}
/-! ### blocks -/
def sSeq (w u : Ws) : Ws := fun x Φ c ρ => w x { Φ with nx := fun c1 ρ1 => u x Φ c1 ρ1 } c ρ
def sNext : Ws := fun _ Φ c ρ => Φ.nx c ρ
theorem ss_nil : SsJ X W [] sNext := ⟨_, pss_nil, fun G P H c ρ σ D x Φ E xo h F => F.nx c ρ σ P H h E (.refl _ _)⟩
theorem ss_one {st : Stmt} {w : Ws} (h : SJ X W st w) : SsJ X W [st] w := by
  obtain ⟨t, ht, hw⟩ := h.ex
  exact ⟨t, pss_one ht, hw⟩
theorem ss_cons {st : Stmt} {sts : List Stmt} {w u : Ws} (h : SJ X W st w) (hr : SsJ X W sts u) : SsJ X W (st :: sts) (sSeq w u) := by
  obtain ⟨t, ht, hw⟩ := h.ex
  obtain ⟨r, pr, qr⟩ := hr.ex
  refine ⟨_, pss_cons ht pr, fun G P H c ρ σ D x Φ E xo h F => ?_⟩
  refine hw G P H c ρ σ _ x _ E xo h ⟨fun c' ρ' σ' P' H' q E' st => ?_, F.rt, F.rf, F.bk, F.ct⟩
  exact qr G P' H' c' ρ' σ' D x Φ E' (xo.step st) q (F.step st)
/-! ghosts -/
def frz (i : Nat) (ρ : List Sl) : List Sl := match ρ[i]? with
  | some (.ow xs) => ρ.set i (.dt (.list xs))
  | _ => ρ
theorem ss_frz (i : Nat) {sts : List Stmt} {w : Ws} (h : SsJ X W sts w) : SsJ X W sts (fun x Φ c ρ => w x Φ c (frz i ρ)) := by
  obtain ⟨t, ht, hw⟩ := h.ex
  refine ⟨t, ht, fun G P H c ρ σ D x Φ E xo h F => ?_⟩
  unfold frz at h
  split at h
  · rename_i xs hs
    obtain ⟨P', E', st⟩ := E.frz hs
    exact hw G P' H c _ σ D x Φ E' (xo.step st) h (F.step st)
  · exact hw G P H c ρ σ D x Φ E xo h F
def opn (i : Nat) (w : Ws) : Ws := fun x Φ c ρ => match ρ[i]? with
  | some .dk => ∀ ds, DkShape c ds → w x Φ c (ρ.set i (.od ds))
  | _ => False
theorem ss_open (i : Nat) {sts : List Stmt} {w : Ws} (h : SsJ X W sts w) : SsJ X W sts (opn i w) := by
  obtain ⟨t, ht, hw⟩ := h.ex
  refine ⟨t, ht, fun G P H c ρ σ D x Φ E xo h F => ?_⟩
  unfold opn at h
  split at h
  · rename_i hs
    obtain ⟨a, e, ⟨vs, ds, h1, h2, h3⟩, nP, h4⟩ := E.sl i _ hs
    refine hw G P H c _ σ D x Φ ⟨E.base, by rw [List.length_set]; exact E.len, fun j s hj => ?_, fun j k s t a h1 h2 o1 o2 e1 e2 => ?_⟩ xo (h ds h3) F
    · have hl : i < ρ.length := (List.getElem?_eq_some_iff.mp hs).1
      by_cases z : j = i
      · subst z
        rw [List.getElem?_set_self hl] at hj
        cases hj
        exact ⟨a, vs, e, h1, h2, nP, h3, h4⟩
      · rw [List.getElem?_set_ne (Ne.symm z)] at hj
        exact E.sl j s hj
    · have back : ∀ {j : Nat} {s : Sl}, (ρ.set i (.od ds))[j]? = some s → s.own = true → ∃ u, ρ[j]? = some u ∧ u.own = true := fun {j s} hj o => by
        by_cases z : j = i
        · subst z
          exact ⟨_, hs, rfl⟩
        · rw [List.getElem?_set_ne (Ne.symm z)] at hj
          exact ⟨s, hj, o⟩
      obtain ⟨u1, k1, k2⟩ := back h1 o1
      obtain ⟨u2, k3, k4⟩ := back h2 o2
      exact E.inj j k u1 u2 a k1 k3 k2 k4 e1 e2
  · exact h.elim
theorem ss_tick {sts : List Stmt} {w : Ws} (h : SsJ X W sts w) : SsJ X W sts (fun x Φ c ρ => w x Φ (c + 1) ρ) := by
  obtain ⟨t, ht, hw⟩ := h.ex
  exact ⟨t, ht, fun G P H c ρ σ D x Φ E xo h F => hw G P H (c + 1) ρ σ D x Φ (E.tick (Nat.le_succ c)) xo h F⟩
/-- a new list of a deck's shape is a deck -/
def cls (i : Nat) (w : Ws) : Ws := fun x Φ c ρ => match ρ[i]? with
  | some (.ow ds) => DkShape c ds ∧ w x Φ c (ρ.set i .dk)
  | _ => False
theorem ss_close (i : Nat) {sts : List Stmt} {w : Ws} (h : SsJ X W sts w) : SsJ X W sts (cls i w) := by
  obtain ⟨t, ht, hw⟩ := h.ex
  refine ⟨t, ht, fun G P H c ρ σ D x Φ E xo h F => ?_⟩
  unfold cls at h
  split at h
  · rename_i ds hs
    obtain ⟨a, vs, e, h1, h2, nP, h4, h5⟩ := E.sl i _ hs
    refine hw G P H c _ σ D x Φ ⟨E.base, by rw [List.length_set]; exact E.len, fun j s hj => ?_, fun j k s t a h1 h2 o1 o2 e1 e2 => ?_⟩ xo h.2 F
    · have hl : i < ρ.length := (List.getElem?_eq_some_iff.mp hs).1
      by_cases z : j = i
      · subst z
        rw [List.getElem?_set_self hl] at hj
        cases hj
        exact ⟨a, e, ⟨vs, ds, h1, h2, h.1⟩, nP, .inl h4⟩
      · rw [List.getElem?_set_ne (Ne.symm z)] at hj
        exact E.sl j s hj
    · have back : ∀ {j : Nat} {s : Sl}, (ρ.set i .dk)[j]? = some s → s.own = true → ∃ u, ρ[j]? = some u ∧ u.own = true := fun {j s} hj o => by
        by_cases z : j = i
        · subst z
          exact ⟨_, hs, rfl⟩
        · rw [List.getElem?_set_ne (Ne.symm z)] at hj
          exact ⟨s, hj, o⟩
      obtain ⟨u1, k1, k2⟩ := back h1 o1
      obtain ⟨u2, k3, k4⟩ := back h2 o2
      exact E.inj j k u1 u2 a k1 k3 k2 k4 e1 e2
  · exact h.elim
/-- slots forgotten -/
def fgt (is : List Nat) (ρ : List Sl) : List Sl := is.foldl (fun r i => r.set i .un) ρ
theorem EnvR.forget {K : PySem.W.Frag} {G : Cd} {P : AP} {H : Hp} {c : Nat} {σ : L2.St} : ∀ (is : List Nat) {ρ : List Sl}, EnvR K G P H c ρ σ → EnvR K G P H c (fgt is ρ) σ
  | [], _, E => E
  | i :: is, ρ, E => by
    show EnvR K G P H c (fgt is (ρ.set i .un)) σ
    refine EnvR.forget is ?_
    by_cases hl : i < σ.length
    · have := E.drop i σ[i]
      rwa [set_self (List.getElem?_eq_getElem hl)] at this
    · rw [List.set_eq_of_length_le (by rw [E.len]; omega)]
      exact E
theorem ss_fgt (is : List Nat) {sts : List Stmt} {w : Ws} (h : SsJ X W sts w) : SsJ X W sts (fun x Φ c ρ => w x Φ c (fgt is ρ)) := by
  obtain ⟨t, ht, hw⟩ := h.ex
  exact ⟨t, ht, fun G P H c ρ σ D x Φ E xo h F => hw G P H c _ σ D x Φ (E.forget is) xo h F⟩

/-! ### small statements -/
theorem s_pass {pos : Pos} : SJ X W (.Pass pos) sNext := ⟨_, ps_pass, fun G P H c ρ σ D x Φ E xo h F => F.nx c ρ σ P H h E (.refl _ _)⟩
theorem s_break {pos : Pos} : SJ X W (.Break pos) (fun _ Φ c ρ => Φ.bk c ρ) := ⟨_, ps_break, fun G P H c ρ σ D x Φ E xo h F => F.bk c ρ σ P H h E (.refl _ _)⟩
theorem s_cont {pos : Pos} : SJ X W (.Continue pos) (fun _ Φ c ρ => Φ.ct c ρ) := ⟨_, ps_continue, fun G P H c ρ σ D x Φ E xo h F => F.ct c ρ σ P H h E (.refl _ _)⟩
def sRet (w : Wx) : Ws := fun x Φ c ρ => w x c ρ fun d c1 => Φ.rt d c1
theorem s_ret {e : Expr} {w : Wx} {pos : Pos} (h : EJ X W e w) : SJ X W (.Return (some e) pos) (sRet w) := by
  obtain ⟨t, ht, hw⟩ := h.ex
  refine ⟨_, ps_ret ht, fun G P H c ρ σ D x Φ E xo h F => hw G P H c ρ σ _ x _ E xo h fun d v P' H' c' q E' s Dd => F.rt d c' v P' H' q E'.base s.st Dd⟩
def sRetF (w : Wf) : Ws := fun x Φ c ρ => w x c ρ fun ds c1 => Φ.rf ds c1
theorem s_retF {e : Expr} {w : Wf} {pos : Pos} (h : FJ X W e w) : SJ X W (.Return (some e) pos) (sRetF w) := by
  obtain ⟨t, ht, hw⟩ := h.ex
  refine ⟨_, ps_ret ht, fun G P H c ρ σ D x Φ E xo h F => hw G P H c ρ σ _ x _ E xo h fun ds p P' H' c' q E' s Fr np => ?_⟩
  obtain ⟨vs, h1, h2⟩ := Fr.at_
  exact F.rf ds c' p vs P' H' q E'.base s.st h1 h2 Fr.nP Fr.n0 Fr.nd
def sRetO (i : Nat) : Ws := fun _ Φ c ρ => match ρ[i]? with
  | some (.ow xs) => Φ.rf xs c
  | _ => False
theorem s_retO {i : Nat} {e : Expr} {pos : Pos} (h : PE X e (tVar i)) : SJ X W (.Return (some e) pos) (sRetO i) := by
  refine ⟨_, ps_ret h, fun G P H c ρ σ D x Φ E xo hw F => ?_⟩
  unfold sRetO at hw
  split at hw
  · rename_i xs hs
    obtain ⟨a, vs, e, h1, h2, h3, h4, h5⟩ := E.sl i _ hs
    exact ⟨_, e, F.rf xs c a vs P H hw E.base (.refl _ _) h1 h2 h3 h4 h5⟩
  · exact hw.elim
theorem s_retN {pos : Pos} : SJ X W (.Return none pos) (fun _ Φ c _ => Φ.rt .none c) := ⟨_, ps_retN, fun G P H c ρ σ D x Φ E xo h F => F.rt _ c _ P H h E.base (.refl _ _) .non⟩
def sDrop (w : Wx) : Ws := fun x Φ c ρ => w x c ρ fun _ c1 => Φ.nx c1 ρ
theorem s_expr {e : Expr} {w : Wx} {pos : Pos} (h : EJ X W e w) (hs : swapsWith e none pos.line X.env = pure false := by rfl) : SJ X W (.Expr e pos) (sDrop w) := by
  obtain ⟨t, ht, hw⟩ := h.ex
  exact ⟨_, ps_expr ht hs, fun G P H c ρ σ D x Φ E xo h F => hw G P H c ρ σ _ x _ E xo h fun d v P' H' c' q E' s _ => F.nx c' ρ σ P' H' q E' s.st⟩
/-- x = data -/
def sSet (i : Nat) (w : Wx) : Ws := fun x Φ c ρ => w x c ρ fun d c1 => Φ.nx c1 (ρ.set i (.dt d))
theorem s_set {i : Nat} {nm : Str} {e : Expr} {w : Wx} {pos pos' : Pos} (hN : X.N.Nodup) (hi : X.N[i]? = some nm) (hx : Loc X.env.scope nm) (h : EJ X W e w) (hs : swapsWith e (some (.Name nm pos')) pos.line X.env = pure false := by rfl) (hf : X.fn nm = true ∨ X.env.scope.names.lookup nm = some .local := by first | exact .inl rfl | exact .inr rfl | assumption) :
    SJ X W (.Assign [.Name nm pos'] e pos) (sSet i w) := by
  obtain ⟨t, ht, hw⟩ := h.ex
  exact ⟨_, ps_set hN hi hx ht hs hf, fun G P H c ρ σ D x Φ E xo h F => hw G P H c ρ σ _ x _ E xo h fun d v P' H' c' q E' s Dd => F.nx c' _ _ P' H' q (E'.setD Dd) s.st⟩
/-- x = a new list -/
def sOwn (i : Nat) (w : Wf) : Ws := fun x Φ c ρ => w x c ρ fun ds c1 => Φ.nx c1 (ρ.set i (.ow ds))
theorem own_read {i : Nat} {t : TE} {w : Wf} (hw : ∀ (G : Cd) (P : AP) (H : Hp) (c : Nat) (ρ : List Sl) (σ : L2.St) (Q : VK) (x : XP) (Φ : List PyData → Nat → Prop), EnvR X.K G P H c ρ σ → XOk X.K G P H x W → w x c ρ Φ →
    (∀ ds p P' H' c', Φ ds c' → EnvR X.K G P' H' c' ρ σ → Sx G ρ σ P H P' H' → Fr X.K G ρ σ P' H' p ds → H p = none → Q (.ref p) H') → t σ H Q) :
    ∀ (G : Cd) (P : AP) (H : Hp) (c : Nat) (ρ : List Sl) (σ : L2.St) (D : Ends) (x : XP) (Φ : En), EnvR X.K G P H c ρ σ → XOk X.K G P H x W → sOwn i w x Φ c ρ → Fin X.K G P H Φ D → tAsg t (gName i) D σ H := by
  intro G P H c ρ σ D x Φ E xo h F
  refine hw G P H c ρ σ _ x _ E xo h fun ds p P' H' c' q E' s Fr np => ?_
  obtain ⟨vs, h1, h2⟩ := Fr.at_
  exact F.nx c' _ _ P' H' q (E'.setO h1 h2 Fr.nP Fr.n0 Fr.nd Fr.no) s.st
theorem s_own {i : Nat} {nm : Str} {e : Expr} {w : Wf} {pos pos' : Pos} (hN : X.N.Nodup) (hi : X.N[i]? = some nm) (hx : Loc X.env.scope nm) (h : FJ X W e w) (hs : swapsWith e (some (.Name nm pos')) pos.line X.env = pure false := by rfl) (hf : X.fn nm = true ∨ X.env.scope.names.lookup nm = some .local := by first | exact .inl rfl | exact .inr rfl | assumption) :
    SJ X W (.Assign [.Name nm pos'] e pos) (sOwn i w) := by
  obtain ⟨t, ht, hw⟩ := h.ex
  exact ⟨_, ps_set hN hi hx ht hs hf, own_read hw⟩
/-- x = [.. for ..] -/
theorem s_comp {i : Nat} {nm : Str} {elt tg iter : Expr} {ifs : List Expr} {scope : Scope} {own : List (Str × Nat)} {sl : List Nat} {pos spos py : Pos} {wi : Wd} {g : Wg} {tt : Wt} {te : Wx} (hc : X.calm = true) (hN : X.N.Nodup) (hy : X.N[i]? = some nm) (hyl : X.env.scope.names.lookup nm = some .local)
    (hsw : swapsWith (.ListComp elt [⟨tg, iter, ifs, 0⟩] scope pos) (some (.Name nm py)) spos.line X.env = pure true) (hi : IJ X W tg iter wi) (ok : BlkOk X.N X.env.scope scope own)
    (hsl : ∀ i ∈ sl, i ∈ own.map (·.2))
    (hg : ∀ (s : Shared) (H : Hp) (C : Addr) (cl : List (Str × Addr)) (fp : List Addr), CJ (X.blk s H scope (compEnvC scope cl C X.env) fp) tg sl g)
    (ht : ∀ (s : Shared) (H : Hp) (C : Addr) (cl : List (Str × Addr)) (fp : List Addr), IfJ (X.blk s H scope (compEnvC scope cl C X.env) fp) WF ifs tt)
    (he : ∀ (s : Shared) (H : Hp) (C : Addr) (cl : List (Str × Addr)) (fp : List Addr), EJ (X.blk s H scope (compEnvC scope cl C X.env) fp) WF elt te) (hs : ∀ x, foldedSetIterable iter X.env x = pure x := by intro _; rfl) :
    SJ X W (.Assign [.Name nm py] (.ListComp elt [⟨tg, iter, ifs, 0⟩] scope pos) spos) (sOwn i (dComp wi g tt te (own.map (·.2)))) := by
  obtain ⟨ti, pi, qi⟩ := hi.ex
  exact ⟨_, ps_setLc hc hN hy hyl hsw pi ok (fun s H C cl fp => show PG _ tg (TGx X.K sl g) from (hg s H C cl fp).pe) (fun s H C cl fp => show PTs _ ifs (TTx X.K tt) from (ht s H C cl fp).pe) (fun s H C cl fp => show PE _ elt (TEx X.K te) from (he s H C cl fp).pe) hs,
    own_read (comp_read (tg := tg) (iter := iter) qi hsl)⟩
/-- target = data -/
def sAsg (w : Wx) (g : Wg) : Ws := fun x Φ c ρ => w x c ρ fun d c1 => g d c1 ρ Φ.nx
theorem s_asg {tg e : Expr} {w : Wx} {g : Wg} {pos : Pos} (he : EJ X W e w) (hg : GJ X tg g) (hs : swapsWithSole [tg] e pos.line X.env = pure false := by rfl) (hw : swappedStores [tg] e X.env = pure none := by rfl)
    (h1 : (assignEach [tg] X.env).map (·.2) = [assign tg X.env] := by rfl) : SJ X W (.Assign [tg] e pos) (sAsg w g) := by
  obtain ⟨t, ht, qt⟩ := he.ex
  obtain ⟨u, hu, qu⟩ := hg.ex
  refine ⟨_, ps_asg ht hu hs hw h1, fun G P H c ρ σ D x Φ E xo h F => ?_⟩
  refine qt G P H c ρ σ _ x _ E xo h fun d v P1 H1 c1 q1 E1 s1 D1 => ?_
  exact qu G P1 H1 c1 ρ σ _ d v _ E1 D1 q1 fun c' ρ' σ' P' H' q E' s' => F.nx c' ρ' σ' P' H' q E' (s1.st.trans s')
/-- a, b = .., .. of plain names -/
def sPar (i j : Nat) (w : Wd) : Ws := fun x Φ c ρ => w x c ρ fun ds c1 => match ds with
  | [d, e] => Φ.nx c1 ((ρ.set i (.dt d)).set j (.dt e))
  | _ => False
theorem s_par {i j : Nat} {n1 n2 : Str} {a b : Expr} {w : Wd} {px py pt pos : Pos} {kt k2 pt2} (hc : X.calm = true) (hN : X.N.Nodup) (hi : X.N[i]? = some n1) (hj : X.N[j]? = some n2) (hij : i ≠ j)
    (hx : X.env.scope.names.lookup n1 = some .local) (hy : X.env.scope.names.lookup n2 = some .local) (ha : LJ X W [a, b] w)
    (hw : swappedStores [.Tuple [.Name n1 px, .Name n2 py] kt pt] (.Tuple [a, b] k2 pt2) X.env = pure (some [n1, n2]))
    (hs : swapsWithSole [.Tuple [.Name n1 px, .Name n2 py] kt pt] (.Tuple [a, b] k2 pt2) pos.line X.env = pure false := by rfl) :
    SJ X W (.Assign [.Tuple [.Name n1 px, .Name n2 py] kt pt] (.Tuple [a, b] k2 pt2) pos) (sPar i j w) := by
  obtain ⟨t, ht, qt⟩ := ha.ex
  refine ⟨_, ps_par hc hN hi hj hij hx hy ht hw hs, fun G P H c ρ σ D x Φ E xo h F => ?_⟩
  refine qt G P H c ρ σ _ x _ E xo h fun ds vs P1 H1 c1 q1 E1 s1 D1 => ?_
  split at q1
  · obtain ⟨v, u, rfl, D2, D3⟩ := dv2 D1
    exact ⟨v, u, rfl, F.nx c1 _ _ P1 H1 q1 ((E1.setD D2).setD D3) s1.st⟩
  · exact q1.elim
def sPar3 (i j l : Nat) (w : Wd) : Ws := fun x Φ c ρ => w x c ρ fun ds c1 => match ds with
  | [d, e, f] => Φ.nx c1 (((ρ.set i (.dt d)).set j (.dt e)).set l (.dt f))
  | _ => False
theorem dv3 {K : PySem.W.Frag} {P : AP} {H : Hp} {vs : List V} {d e f : PyData} (h : DvAll K P H vs [d, e, f]) : ∃ v u z, vs = [v, u, z] ∧ Dv K P H v d ∧ Dv K P H u e ∧ Dv K P H z f := by
  cases h with
  | cons h t =>
    obtain ⟨u, z, rfl, h2, h3⟩ := dv2 t
    exact ⟨_, _, _, rfl, h, h2, h3⟩
theorem s_par3 {i j l : Nat} {n1 n2 n3 : Str} {a b d : Expr} {w : Wd} {px py pz pt pos : Pos} {kt k2 pt2} (hc : X.calm = true) (hN : X.N.Nodup) (hi : X.N[i]? = some n1) (hj : X.N[j]? = some n2) (hl : X.N[l]? = some n3) (hij : i ≠ j) (hil : i ≠ l) (hjl : j ≠ l)
    (hx : X.env.scope.names.lookup n1 = some .local) (hy : X.env.scope.names.lookup n2 = some .local) (hz : X.env.scope.names.lookup n3 = some .local) (ha : LJ X W [a, b, d] w)
    (hw : swappedStores [.Tuple [.Name n1 px, .Name n2 py, .Name n3 pz] kt pt] (.Tuple [a, b, d] k2 pt2) X.env = pure (some [n1, n2, n3]))
    (hs : swapsWithSole [.Tuple [.Name n1 px, .Name n2 py, .Name n3 pz] kt pt] (.Tuple [a, b, d] k2 pt2) pos.line X.env = pure false := by rfl) :
    SJ X W (.Assign [.Tuple [.Name n1 px, .Name n2 py, .Name n3 pz] kt pt] (.Tuple [a, b, d] k2 pt2) pos) (sPar3 i j l w) := by
  obtain ⟨t, ht, qt⟩ := ha.ex
  refine ⟨_, ps_par3 hc hN hi hj hl hij hil hjl hx hy hz ht hw hs, fun G P H c ρ σ D x Φ E xo h F => ?_⟩
  refine qt G P H c ρ σ _ x _ E xo h fun ds vs P1 H1 c1 q1 E1 s1 D1 => ?_
  split at q1
  · obtain ⟨v, u, z, rfl, D2, D3, D4⟩ := dv3 D1
    exact ⟨v, u, z, rfl, F.nx c1 _ _ P1 H1 q1 (((E1.setD D2).setD D3).setD D4) s1.st⟩
  · exact q1.elim
/-- x op= e, by values -/
def IpD (X : Cx) (op : Operator) (g : PyData → PyData → (PyData → Prop) → Prop) : Prop :=
  ∃ r : TIp, PIp X op r ∧ ∀ (G : Cd) (P : AP) (H : Hp) (c : Nat) (ρ : List Sl) (σ : L2.St) (a b : V) (d e : PyData) (Q : VK) (Φ : PyData → Prop), EnvR X.K G P H c ρ σ → Dv X.K P H a d → Dv X.K P H b e → g d e Φ →
    (∀ z v P' H', Φ z → EnvR X.K G P' H' c ρ σ → Sx G ρ σ P H P' H' → Dv X.K P' H' v z → Q v H') → r a b H Q
theorem ip_of {op : Operator} {g} (h : OpD X (inplaceOp op) g) : IpD X op g := by
  obtain ⟨r, hr, q⟩ := h
  exact ⟨r, hr, fun G P H c ρ σ a b d e Q Φ E D1 D2 hg hQ => q G P H c ρ σ a b d e Q Φ E (.dv D1) (.dv D2) hg hQ⟩
theorem io_add : OpD X (inplaceOp .Add) (fun d e Φ => match d, e with
    | .int i, .int j => Φ (.int (i + j))
    | _, _ => False) := by
  refine ⟨_, iop_add, fun G P H c ρ σ a b d e Q Φ E hd he hg hQ => ?_⟩
  cases d <;> cases e <;> first | exact hg.elim | skip
  rw [hd.int, he.int]
  exact ⟨_, _, rfl, rfl, hQ _ _ P H hg E .refl (.int _)⟩
theorem io_sub : OpD X (inplaceOp .Sub) subD := (o_int (C := fun _ _ => True) (g := fun i j => i - j) (opI fun _ _ _ _ _ _ _ _ q => isub_int q)).imp fun d e Φ h => by
  cases d <;> cases e <;> first | exact h.elim | exact ⟨trivial, h⟩
theorem io_mul : OpD X (inplaceOp .Mult) mulD := (o_int (C := IntMulOk) (g := fun i j => i * j) (opI fun _ _ _ _ _ _ _ hc q => imul_int q hc)).imp fun d e Φ h => by
  cases d <;> cases e <;> first | exact h.elim | exact h
theorem io_fdiv : OpD X (inplaceOp .FloorDiv) fdivD := (o_int (C := fun _ j => DivOk j) (g := fun i j => i.fdiv j) (opI fun _ _ _ _ _ _ _ hc q => ifloordiv_int hc.1 q (.inl (PyProof.noPylong_of_log2 hc.2)))).imp fun d e Φ h => by
  cases d <;> cases e <;> first | exact h.elim | exact h
theorem io_mod : OpD X (inplaceOp .Mod) modD := (o_int (C := fun _ j => j ≠ 0) (g := fun i j => i.fmod j) (opI fun _ _ _ _ _ _ _ hc q => imod_int hc q)).imp fun d e Φ h => by
  cases d <;> cases e <;> first | exact h.elim | exact h
def sAug (i : Nat) (w : Wx) (g : PyData → PyData → (PyData → Prop) → Prop) : Ws := fun x Φ c ρ => match ρ[i]? with
  | some (.dt d) => w x c ρ fun e c1 => g d e fun z => Φ.nx c1 (ρ.set i (.dt z))
  | _ => False
theorem s_aug {i : Nat} {nm : Str} {e : Expr} {w : Wx} {op : Operator} {g} {pos pos' : Pos} (hN : X.N.Nodup) (hi : X.N[i]? = some nm) (hx : Loc X.env.scope nm) (he : EJ X W e w) (ho : IpD X op g) (hf : X.fn nm = true ∨ X.env.scope.names.lookup nm = some .local := by first | exact .inl rfl | exact .inr rfl | assumption) :
    SJ X W (.AugAssign (.Name nm pos') op e pos) (sAug i w g) := by
  obtain ⟨t, ht, qt⟩ := he.ex
  obtain ⟨r, hr, qr⟩ := ho
  refine ⟨_, ps_aug hN hi hx ht hr hf, fun G P H c ρ σ D x Φ E xo h F => ?_⟩
  unfold sAug at h
  split at h
  · rename_i d hd
    obtain ⟨v, ev, Dd⟩ := E.sl i _ hd
    refine ⟨v, ev, qt G P H c ρ σ _ x _ E xo h fun e u P1 H1 c1 q1 E1 s1 D1 => ?_⟩
    exact qr G P1 H1 c1 ρ σ v u d e _ _ E1 (Dd.mono s1.st) D1 q1 fun z v' P2 H2 q2 E2 s2 D2 => F.nx c1 _ _ P2 H2 q2 (E2.setD D2) (s1.trans s2).st
  · exact h.elim
/-- xs.append(e), xs an own list -/
def sApp (j : Nat) (w : Wx) : Ws := fun x Φ c ρ => match ρ[j]? with
  | some (.ow xs) => w x c ρ fun d c1 => xs.length < sizeLine ∧ Φ.nx c1 (ρ.set j (.ow (xs ++ [d])))
  | _ => False
theorem s_app {j : Nat} {o e : Expr} {w : Wx} {apos cpos pos : Pos} (ho : PE X o (tVar j)) (he : EJ X W e w)
    (hs : swapsWith (.Call (.Attribute o "append" apos) [e] [] cpos) none pos.line X.env = pure false := by rfl)
    (hbase : attributeBase o "append" X.env (eval o X.env) = eval o X.env := by rfl)
    (hfew : ((backTo cpos (starEach (e :: []) X.env)).all (fun x => !x.1) && (backToKw cpos (keywordEach [] X.env)).all (fun x => x.1.isSome)
      && decide ((e :: []).length + ([] : List Keyword).length + (if ([] : List Keyword).isEmpty then 0 else 1) < 30)) = true := by rfl)
    (hline : (apos.endLine == cpos.line) = true := by rfl) (hst : starEach (e :: []) X.env = (false, eval e X.env) :: starEach [] X.env := by rfl) (hplain : (backTo cpos (starEach [] X.env)).any (·.1) = false := by rfl) :
    SJ X W (.Expr (.Call (.Attribute o "append" apos) [e] [] cpos) pos) (sApp j w) := by
  obtain ⟨t, ht, qt⟩ := he.ex
  refine ⟨_, ps_expr (pe_bm PySem.F.plainAttrs_list PySem.F.slot_list_append PySem.F.type_list_append mt_append ho (pa_cons ht pa_nil hst) hbase hfew hline hst hplain) hs, fun G P H c ρ σ D x Φ E xo h F => ?_⟩
  unfold sApp at h
  split at h
  · rename_i xs hxs
    obtain ⟨a, vs, ea, ha, _⟩ := E.putOw (xs' := xs) hxs
    refine ⟨_, ea, .inl ⟨rfl, vs, .inl (.inl ha)⟩, ?_⟩
    refine qt G P H c ρ σ _ x _ E xo h fun d v P1 H1 c1 q1 E1 s1 D1 => ?_
    obtain ⟨a', vs', ea', ha', hv', _, put⟩ := E1.putOw (xs' := xs ++ [d]) hxs
    rw [ea] at ea'
    cases ea'
    obtain ⟨e2, s2⟩ := put (vs' ++ [v]) (hv'.append (.cons D1 .nil))
    exact ⟨a, vs', v, rfl, rfl, ha', by rw [hv'.length]; exact q1.1, F.nx c1 _ _ _ _ q1.2 e2 (s1.st.trans s2)⟩
  · exact h.elim

/-! ### if, while, for -/
def sIf (wt : Wt) (w u : Ws) : Ws := fun x Φ c ρ => wt x c ρ fun b c1 => if b = true then w x Φ c1 ρ else u x Φ c1 ρ
theorem s_if {e : Expr} {a b : List Stmt} {wt : Wt} {w u : Ws} {pos : Pos} (ht : TJ X W e wt) (ha : SsJ X W a w) (hb : SsJ X W b u) : SJ X W (.If e a b pos) (sIf wt w u) := by
  obtain ⟨t, pt, qt⟩ := ht.ex
  obtain ⟨ta, pa, qa⟩ := ha.ex
  obtain ⟨tb, pb, qb⟩ := hb.ex
  refine ⟨_, ps_if pt pa pb, fun G P H c ρ σ D x Φ E xo h F => ?_⟩
  refine qt G P H c ρ σ _ x _ E xo h fun b P1 H1 c1 q1 E1 s1 => ?_
  cases b with
  | true => exact iteT (qa G P1 H1 c1 ρ σ D x Φ E1 (xo.step s1.st) (iteT' q1) (F.step s1.st))
  | false => exact iteF (qb G P1 H1 c1 ρ σ D x Φ E1 (xo.step s1.st) (iteF' q1) (F.step s1.st))
def sWhile (wt : Wt) (w : Ws) : Ws := fun x Φ c ρ => ∃ I : Nat → Nat → List Sl → Prop, (∃ m, I m c ρ) ∧ ∀ m c ρ, I m c ρ → wt x c ρ fun b c1 => if b = true then
  w x ⟨fun c2 ρ2 => ∃ m', m' < m ∧ I m' c2 ρ2, Φ.rt, Φ.rf, Φ.nx, fun c2 ρ2 => ∃ m', m' < m ∧ I m' c2 ρ2⟩ c1 ρ else Φ.nx c1 ρ
theorem s_while {e : Expr} {b : List Stmt} {wt : Wt} {w : Ws} {pos : Pos} (hp : PassesOwn (model X.prog X.w) X.A X.env X.xe) (ht : TJ X W e wt) (hb : SsJ X W b w) : SJ X W (.While e b [] pos) (sWhile wt w) := by
  obtain ⟨t, pt, qt⟩ := ht.ex
  obtain ⟨tb, pb, qb⟩ := hb.ex
  refine ⟨_, ps_while hp pt pb, fun G P H c ρ σ D x Φ E xo h F => ?_⟩
  obtain ⟨I, ⟨m0, i0⟩, step⟩ := h
  refine ⟨fun m σ' H' => ∃ c' ρ' P', I m c' ρ' ∧ EnvR X.K G P' H' c' ρ' σ' ∧ Stp P H P' H', ⟨m0, c, ρ, P, i0, E, .refl _ _⟩, ?_⟩
  rintro m σ1 H1 ⟨c1, ρ1, P1, i1, E1, s1⟩
  refine qt G P1 H1 c1 ρ1 σ1 _ x _ E1 (xo.step s1) (step m c1 ρ1 i1) fun b P2 H2 c2 q2 E2 s2 => ?_
  have s02 := s1.trans s2.st
  cases b with
  | false => exact iteF (F.nx c2 ρ1 σ1 P2 H2 (iteF' q2) E2 s02)
  | true =>
    refine iteT ⟨fun σ' H' => ∃ m', m' < m ∧ ∃ c' ρ' P', I m' c' ρ' ∧ EnvR X.K G P' H' c' ρ' σ' ∧ Stp P H P' H', fun _ _ h => h, ?_⟩
    refine qb G P2 H2 c2 ρ1 σ1 _ x _ E2 (xo.step s02) (iteT' q2) ⟨?_, fun d c' v P' H' q B st => F.rt d c' v P' H' q B (s02.trans st), fun ds c' p vs P' H' q B st => F.rf ds c' p vs P' H' q B (s02.trans st), fun c' ρ' σ' P' H' q E' st => F.nx c' ρ' σ' P' H' q E' (s02.trans st), ?_⟩
    · rintro c' ρ' σ' P' H' ⟨m', hm, hI⟩ E' st
      exact ⟨m', hm, c', ρ', P', hI, E', s02.trans st⟩
    · rintro c' ρ' σ' P' H' ⟨m', hm, hI⟩ E' st
      exact ⟨m', hm, c', ρ', P', hI, E', s02.trans st⟩
/-- a for's turns -/
def forW (g : Wg) (w : Ws) (x : XP) (Φ : En) : List PyData → Nat → List Sl → Prop
  | [], c, ρ => Φ.nx c ρ
  | d :: r, c, ρ => g d c ρ fun c1 ρ1 => w x ⟨fun c2 ρ2 => forW g w x Φ r c2 ρ2, Φ.rt, Φ.rf, Φ.nx, fun c2 ρ2 => forW g w x Φ r c2 ρ2⟩ c1 ρ1
theorem forW_cons (g : Wg) (w : Ws) (x : XP) (Φ : En) (d : PyData) (r : List PyData) (c : Nat) (ρ : List Sl) : forW g w x Φ (d :: r) c ρ =
  g d c ρ fun c1 ρ1 => w x ⟨fun c2 ρ2 => forW g w x Φ r c2 ρ2, Φ.rt, Φ.rf, Φ.nx, fun c2 ρ2 => forW g w x Φ r c2 ρ2⟩ c1 ρ1 := rfl
def sFor (wi : Wd) (g : Wg) (w : Ws) : Ws := fun x Φ c ρ => wi x c ρ fun ds c1 => forW g w x Φ ds c1 ρ
theorem s_for {tg iter : Expr} {b : List Stmt} {sl : List Nat} {wi : Wd} {g : Wg} {w : Ws} {pos : Pos} (hp : PassesOwn (model X.prog X.w) X.A X.env X.xe) (hc : X.calm = true) (hi : IJ X W tg iter wi) (hg : CJ X tg sl g) (hb : SsJ X W b w)
    (hs : ∀ x, foldedSetIterable iter X.env x = pure x := by intro _; rfl) : SJ X W (.For tg iter b [] pos) (sFor wi g w) := by
  obtain ⟨ti, pi, qi⟩ := hi.ex
  obtain ⟨tg', pg, qg⟩ := hg.ex
  obtain ⟨tb, pb, qb⟩ := hb.ex
  refine ⟨_, ps_for hp hc pi pg pb hs, fun G P H c ρ σ D x Φ E xo h F => ?_⟩
  refine qi G P H c ρ σ _ x _ E xo h fun ds J P1 H1 c1 q1 E1 s1 Wk => ?_
  refine ⟨fun i m σ' H' => ∃ c' ρ' P', m = ds.length - i ∧ i ≤ ds.length ∧ forW g w x Φ (ds.drop i) c' ρ' ∧ EnvR X.K G P' H' c' ρ' σ' ∧ Stp P1 H1 P' H', ⟨ds.length, c1, ρ, P1, by simp, Nat.zero_le _, q1, E1, .refl _ _⟩, ?_⟩
  rintro i m σ2 H2 ⟨c2, ρ2, P2, rfl, hle, h2, E2, s2⟩
  by_cases hlt : i < ds.length
  · right
    have hd : ds[i]? = some ds[i] := List.getElem?_eq_getElem hlt
    rw [List.drop_eq_getElem_cons hlt, forW_cons] at h2
    refine ⟨Wk.go P2 H2 s2 i hlt, fun σ' H' => ∃ m', m' < ds.length - i ∧ ∃ c' ρ' P', m' = ds.length - (i + 1) ∧ i + 1 ≤ ds.length ∧ forW g w x Φ (ds.drop (i + 1)) c' ρ' ∧ EnvR X.K G P' H' c' ρ' σ' ∧ Stp P1 H1 P' H', fun _ _ h => h, fun xv H3 hy => ?_⟩
    obtain ⟨P3, E3, s3, D3⟩ : ∃ P3, EnvR X.K G P3 H3 c2 ρ2 σ2 ∧ Stp P1 H1 P3 H3 ∧ Dv X.K P3 H3 xv ds[i] := by
      obtain ⟨rfl, Dx⟩ := Wk.yl P2 H2 s2 i _ xv H3 hd hy
      exact ⟨P2, E2, s2, Dx⟩
    refine qg G P3 H3 c2 ρ2 σ2 _ _ xv _ E3 D3 h2 fun c4 ρ4 σ4 q4 E4 _ => ?_
    have s03 := s1.st.trans s3
    refine qb G P3 H3 c4 ρ4 σ4 _ x _ E4 (xo.step s03) q4 ⟨fun c' ρ' σ' P' H' q E' st => ?_, fun d c' v P' H' q B st => F.rt d c' v P' H' q B (s03.trans st), fun ds c' p vs P' H' q B st => F.rf ds c' p vs P' H' q B (s03.trans st), fun c' ρ' σ' P' H' q E' st => F.nx c' ρ' σ' P' H' q E' (s03.trans st), fun c' ρ' σ' P' H' q E' st => ?_⟩
    · exact ⟨ds.length - (i + 1), by omega, c', ρ', P', rfl, hlt, q, E', s3.trans st⟩
    · exact ⟨ds.length - (i + 1), by omega, c', ρ', P', rfl, hlt, q, E', s3.trans st⟩
  · left
    have e : i = ds.length := by omega
    subst e
    rw [List.drop_length] at h2
    exact ⟨Wk.stop P2 H2 s2 _ (Nat.le_refl _), F.nx c2 ρ2 σ2 P2 H2 h2 E2 (s1.st.trans s2)⟩
end

/-! ### a def -/
def arS : Ar → Sl
  | .dt d => .dt d
  | .dk => .dk
def startR (n : Nat) (as : List Ar) : List Sl := as.map arS ++ List.replicate (n - as.length) .un
theorem ArRs.get {K : PySem.W.Frag} {P : AP} {H : Hp} {DK : AP} : ∀ {vs : List V} {as : List Ar} {i : Nat} {a : Ar}, ArRs K P H DK vs as → as[i]? = some a → ∃ v, vs[i]? = some v ∧ ArR K P H DK v a
  | _, _, _, _, .nil, e => by simp at e
  | _, _, 0, _, .cons h _, e => by simp at e; subst e; exact ⟨_, rfl, h⟩
  | _, _, i + 1, a, .cons _ t, e => by
    obtain ⟨v, h1, h2⟩ := ArRs.get (i := i) t (by simpa using e)
    exact ⟨v, by simpa using h1, h2⟩
theorem one_dk : ∀ {as : List Ar} {i j : Nat}, (as.filter Ar.isDk).length ≤ 1 → as[i]? = some .dk → as[j]? = some .dk → i = j
  | [], _, _, _, h, _ => by simp at h
  | a :: as, 0, 0, _, _, _ => rfl
  | a :: as, 0, j + 1, hl, h1, h2 => by
    exfalso
    simp at h1 h2
    subst h1
    have : 0 < (as.filter Ar.isDk).length := List.length_pos_of_mem (List.mem_filter.mpr ⟨List.mem_of_getElem? h2, rfl⟩)
    rw [List.filter_cons_of_pos rfl, List.length_cons] at hl
    omega
  | a :: as, i + 1, 0, hl, h1, h2 => by
    exfalso
    simp at h1 h2
    subst h2
    have : 0 < (as.filter Ar.isDk).length := List.length_pos_of_mem (List.mem_filter.mpr ⟨List.mem_of_getElem? h1, rfl⟩)
    rw [List.filter_cons_of_pos rfl, List.length_cons] at hl
    omega
  | a :: as, i + 1, j + 1, hl, h1, h2 => by
    have hl' : (as.filter Ar.isDk).length ≤ 1 := by
      refine Nat.le_trans ?_ hl
      cases a with
      | dt d => exact Nat.le_refl _
      | dk => exact Nat.le_succ _
    rw [one_dk (i := i) (j := j) hl' (by simpa using h1) (by simpa using h2)]
theorem env_start {K : PySem.W.Frag} {H : Hp} {P DK : AP} {c : Nat} {as : List Ar} {vs : List V} {N : List Str} (B : Base K ⟨H, P, DK⟩ P H c) (hv : ArRs K P H DK vs as) (h1 : (as.filter Ar.isDk).length ≤ 1) (hl : as.length ≤ N.length) : EnvR K ⟨H, P, DK⟩ P H c (startR N.length as) (L2.start N vs) where
  base := B
  len := by
    unfold startR L2.start
    have := hv.length
    simp only [List.length_append, List.length_map, List.length_replicate]
    omega
  sl := fun i s hs => by
    unfold startR at hs
    by_cases hi : i < as.length
    · rw [List.getElem?_append_left (by simpa using hi), List.getElem?_map] at hs
      obtain ⟨a, ha, rfl⟩ : ∃ a, as[i]? = some a ∧ arS a = s := by
        rw [List.getElem?_eq_getElem hi] at hs ⊢
        exact ⟨_, rfl, by simpa using hs⟩
      obtain ⟨v, hv1, hv2⟩ := hv.get ha
      have e : (L2.start N vs)[i]? = some (some v) := by
        unfold L2.start
        rw [List.getElem?_append_left (by rw [List.length_map, hv.length]; exact hi), List.getElem?_map, hv1]
        rfl
      rw [e]
      cases hv2 with
      | dt D => exact ⟨v, rfl, D⟩
      | dk h => exact ⟨_, rfl, B.dks _ h, fun z => B.pdk _ z h, .inr h⟩
    · rw [List.getElem?_append_right (by simpa using hi)] at hs
      have := List.mem_of_getElem? hs
      rw [List.mem_replicate] at this
      rw [this.2]
      exact True.intro
  inj := fun i j s t a h1' h2' o1 o2 _ _ => by
    have dk : ∀ {i : Nat} {s : Sl}, (startR N.length as)[i]? = some s → s.own = true → as[i]? = some .dk := fun {i s} hs o => by
      unfold startR at hs
      by_cases hi : i < as.length
      · rw [List.getElem?_append_left (by simpa using hi), List.getElem?_map] at hs
        rw [List.getElem?_eq_getElem hi] at hs ⊢
        have hs : arS as[i] = s := by simpa using hs
        cases e : as[i] with
        | dt d => rw [e] at hs; subst hs; cases o
        | dk => rfl
      · rw [List.getElem?_append_right (by simpa using hi)] at hs
        have := List.mem_of_getElem? hs
        rw [List.mem_replicate] at this
        rw [this.2] at o
        cases o
    exact one_dk h1 (dk h1' o1) (dk h2' o2)
abbrev WE0 (E : XK) : WX := fun cls d _ H => E cls d H
section
variable {P : Program} {w : World} {K : PySem.W.Frag} {mg : Str → Option Value} {base : Heap}
/-- THE RULE for a def -/
theorem fn_ok {g : Bool} {x qual : Str} {st : Stmt} {f : Addr} {fd : FuncData} {N ps : List Str} {k n : Nat} {sd : Sd} (F : Fun K x qual st f fd) (S : FnScope N ps (defScope st)) (hn : ps.length = n)
    (hb : ∀ (cdv : Value) (A : Around) (outer : List Env) (s : Shared) (H : Hp) (E : XK), Room k (A.deeper (envOfC qual (defScope st) s.heap.objs.size f cdv)) → Still g (A.deeper (envOfC qual (defScope st) s.heap.objs.size f cdv)) → Takes (cxOf (L2.CX P w) P w K mg base N qual (defScope st) f cdv A outer s H E) (WE0 E) →
      PassesOwn (model P w) (cxOf (L2.CX P w) P w K mg base N qual (defScope st) f cdv A outer s H E).A (cxOf (L2.CX P w) P w K mg base N qual (defScope st) f cdv A outer s H E).env (cxOf (L2.CX P w) P w K mg base N qual (defScope st) f cdv A outer s H E).xe →
      ∃ wd, SsJ (cxOf (L2.CX P w) P w K mg base N qual (defScope st) f cdv A outer s H E) (WE0 E) (defBody st) wd ∧
        ∀ c as y Φ Ψ, as.length = n → sd c as y Φ Ψ → wd (fun C d c' _ => y C d c') ⟨fun c' _ => Φ .none c', Φ, Ψ, fun _ _ => False, fun _ _ => False⟩ c (startR N.length as)) :
    FnA g P w K mg base (L2.CX P w) (k + 1) f fd ps (spOf K n sd) := by
  refine FnA.of_body F S (fun vs H Q E h => by rw [hn]; exact spOf_len vs H Q E h) fun cdv A outer s H vs Q E hr hG h => ?_
  obtain ⟨wd, hj, hw⟩ := hb cdv A outer s H E hr hG (takes_of rfl rfl rfl rfl) (passes_of rfl)
  obtain ⟨t, ht, hq⟩ := hj.ex
  obtain ⟨Pp, DK, c, as, y, Φ, Ψ, hl, B, hv, h1, hsd, e1, e2, e3⟩ := h
  have hpl : ps.length ≤ N.length := by have := congrArg List.length S.pre; rw [List.length_take] at this; omega
  refine ⟨t, ht, hq ⟨H, Pp, DK⟩ Pp H c _ _ _ _ _ (env_start B hv h1 (by omega)) ⟨fun σ C d c' ρ' v dx P' H' q E' st hx D => e3 C d c' v dx P' H' q E'.base st hx D⟩ (hw c as y Φ Ψ hl hsd) ⟨fun c' ρ' σ' P' H' q E' st => e1 _ c' _ P' H' q E'.base st .non, e1, e2, fun _ _ _ _ _ q => q.elim, fun _ _ _ _ _ q => q.elim⟩⟩
end
end DL

/-! ==, in, index, min, max over data of any shape; chains of three; defs by what is told of them. -/
namespace DL
open PySem PySem.Spec PyProof.Rows L2 PySem.SeqAt
section
variable {K : PySem.W.Frag} {P : AP} {H : Hp}
mutual
theorem Dv.plain : ∀ {v : V} {d : PyData}, Dv K P H v d → d.plain = true
  | _, _, .non => rfl
  | _, _, .bl b => rfl
  | _, _, .int i => rfl
  | _, _, .str x => rfl
  | _, _, .lst h t => by simp only [PyData.plain]; exact DvAll.plain t
  | _, _, .tup h t => by simp only [PyData.plain]; exact DvAll.plain t
theorem DvAll.plain : ∀ {vs : List V} {ds : List PyData}, DvAll K P H vs ds → PyData.plainAll ds = true
  | _, _, .nil => rfl
  | _, _, .cons h t => by simp only [PyData.plainAll, Dv.plain h, DvAll.plain t]; rfl
end
theorem Rc.plain {G : Cd} {ρ : List Sl} {σ : L2.St} {v : V} {d : PyData} (h : Rc K G ρ σ P H v d) : d.plain = true := by
  cases h with
  | own h n t => simp only [PyData.plain]; exact t.plain
  | dv h => exact h.plain
end
section
variable {X : Cx} {W : WX}
def rEqP (K : PySem.W.Frag) (neg : Bool) : R2 := fun x y H Q => ∃ d e, Dp K H x d ∧ Dp K H y e ∧ d.plain = true ∧ e.plain = true ∧ min d.depth e.depth ≤ 64 ∧ Q (.bl (neg != PyData.eqv d e)) H
theorem op_eqP (hu : X.A.units + 64 < cLine) : OpR X (compareOp .Eq) (rEqP X.K false) := by
  intro pins s σ H x y v u Q I rx ry h
  obtain ⟨d, e, hd, he, sd, se, dp, q⟩ := h
  obtain ⟨as, r1⟩ := Dp.reads I d x v hd rx
  obtain ⟨bs, r2⟩ := Dp.reads I e y u he ry
  refine eq_plain r1 r2 sd se (by omega) ⟨.bl _, H, I, ?_, q⟩
  rw [show ∀ k : Bool, (false != k) = k by decide]
  rfl
theorem op_neP (hu : X.A.units + 64 < cLine) : OpR X (compareOp .NotEq) (rEqP X.K true) := by
  intro pins s σ H x y v u Q I rx ry h
  obtain ⟨d, e, hd, he, sd, se, dp, q⟩ := h
  obtain ⟨as, r1⟩ := Dp.reads I d x v hd rx
  obtain ⟨bs, r2⟩ := Dp.reads I e y u he ry
  refine ne_plain r1 r2 sd se (by omega) ⟨.bl _, H, I, ?_, q⟩
  rw [show ∀ k : Bool, (true != k) = !k by decide]
  rfl
def eqP : PyData → PyData → (PyData → Prop) → Prop := fun d e Φ => min d.depth e.depth ≤ 64 ∧ Φ (.bool (PyData.eqv d e))
def neP : PyData → PyData → (PyData → Prop) → Prop := fun d e Φ => min d.depth e.depth ≤ 64 ∧ Φ (.bool (!PyData.eqv d e))
theorem o_eqP (hu : X.A.units + 64 < cLine) : OpD X (compareOp .Eq) eqP :=
  ⟨_, op_eqP hu, fun G P H c ρ σ a b d e Q Φ E hd he hg hQ => ⟨d, e, hd.dp, he.dp, hd.plain, he.plain, hg.1, hQ _ _ P H hg.2 E .refl (by rw [show ∀ k : Bool, (false != k) = k by decide]; exact .bl _)⟩⟩
theorem o_neP (hu : X.A.units + 64 < cLine) : OpD X (compareOp .NotEq) neP :=
  ⟨_, op_neP hu, fun G P H c ρ σ a b d e Q Φ E hd he hg hQ => ⟨d, e, hd.dp, he.dp, hd.plain, he.plain, hg.1, hQ _ _ P H hg.2 E .refl (by rw [show ∀ k : Bool, (true != k) = !k by decide]; exact .bl _)⟩⟩
/-! in, not in -/
def rInP (K : PySem.W.Frag) (neg : Bool) : R2 := fun x y H Q => ∃ d ds c, Dp K H x d ∧ Dp K H y c ∧ (c = .list ds ∨ c = .tuple ds) ∧ d.plain = true ∧ PyData.plainAll ds = true ∧ min (PyData.depthAll ds) d.depth ≤ 64 ∧ Q (.bl (neg != ds.any fun z => PyData.eqv z d)) H
theorem op_inP (hu : X.A.units + 65 < cLine) : OpR X (compareOp .In) (rInP X.K false) := by
  intro pins s σ H x y v u Q I rx ry h
  obtain ⟨d, ds, cc, hd, he, ec, sd, se, dp, q⟩ := h
  obtain ⟨as, r1⟩ := Dp.reads I d x v hd rx
  obtain ⟨bs, r2⟩ := Dp.reads I cc y u he ry
  rw [show ∀ k : Bool, (false != k) = k by decide] at q
  rcases ec with rfl | rfl
  · exact in_list_data r2 r1 se sd (by omega) ⟨.bl _, H, I, rfl, q⟩
  · exact in_tuple_data r2 r1 se sd (by omega) ⟨.bl _, H, I, rfl, q⟩
theorem op_niP (hu : X.A.units + 65 < cLine) : OpR X (compareOp .NotIn) (rInP X.K true) := by
  intro pins s σ H x y v u Q I rx ry h
  obtain ⟨d, ds, cc, hd, he, ec, sd, se, dp, q⟩ := h
  obtain ⟨as, r1⟩ := Dp.reads I d x v hd rx
  obtain ⟨bs, r2⟩ := Dp.reads I cc y u he ry
  rw [show ∀ k : Bool, (true != k) = !k by decide] at q
  rcases ec with rfl | rfl
  · exact notIn_list_data r2 r1 se sd (by omega) ⟨.bl _, H, I, rfl, q⟩
  · exact notIn_tuple_data r2 r1 se sd (by omega) ⟨.bl _, H, I, rfl, q⟩
def inP (neg : Bool) : PyData → PyData → (PyData → Prop) → Prop := fun d c Φ => match c with
  | .list ds => min (PyData.depthAll ds) d.depth ≤ 64 ∧ Φ (.bool (neg != ds.any fun z => PyData.eqv z d))
  | .tuple ds => min (PyData.depthAll ds) d.depth ≤ 64 ∧ Φ (.bool (neg != ds.any fun z => PyData.eqv z d))
  | _ => False
theorem o_inP (hu : X.A.units + 65 < cLine) : OpD X (compareOp .In) (inP false) := by
  refine ⟨_, op_inP hu, fun G P H c ρ σ a b d e Q Φ E hd he hg hQ => ?_⟩
  have pe := he.plain
  unfold inP at hg
  split at hg
  · simp only [PyData.plain] at pe
    exact ⟨d, _, _, hd.dp, he.dp, .inl rfl, hd.plain, pe, hg.1, hQ _ _ P H hg.2 E .refl (.bl _)⟩
  · simp only [PyData.plain] at pe
    exact ⟨d, _, _, hd.dp, he.dp, .inr rfl, hd.plain, pe, hg.1, hQ _ _ P H hg.2 E .refl (.bl _)⟩
  · exact hg.elim
theorem o_niP (hu : X.A.units + 65 < cLine) : OpD X (compareOp .NotIn) (inP true) := by
  refine ⟨_, op_niP hu, fun G P H c ρ σ a b d e Q Φ E hd he hg hQ => ?_⟩
  have pe := he.plain
  unfold inP at hg
  split at hg
  · simp only [PyData.plain] at pe
    exact ⟨d, _, _, hd.dp, he.dp, .inl rfl, hd.plain, pe, hg.1, hQ _ _ P H hg.2 E .refl (.bl _)⟩
  · simp only [PyData.plain] at pe
    exact ⟨d, _, _, hd.dp, he.dp, .inr rfl, hd.plain, pe, hg.1, hQ _ _ P H hg.2 E .refl (.bl _)⟩
  · exact hg.elim
/-! min of a list or tuple of alike data -/
def rMinD (K : PySem.W.Frag) : List V → Hp → VK → Prop := fun vs H Q => ∃ a xs x ds, vs = [V.ref a] ∧ (SqL K H a xs ∨ SqT K H a xs) ∧ DpAll K H xs (x :: ds) ∧ PySem.W.AlikeAll (x :: ds) ∧ PyData.depthAll (x :: ds) ≤ 64 ∧
    ∀ (i : Nat) (v : V), xs[i]? = some v → (x :: ds)[i]? = some (PySem.W.minD x ds) → Q v H
theorem getV : ∀ {xs : List V} {us : List Value} {i : Nat} {u : Value}, Vals xs us → us[i]? = some u → ∃ x, xs[i]? = some x ∧ RelV x u
  | _, _, _, _, .nil, e => by simp at e
  | _, _, 0, _, .cons r _, e => by simp at e; subst e; exact ⟨_, rfl, r⟩
  | _, _, i + 1, u, .cons _ t, e => by
    obtain ⟨v, h1, h2⟩ := getV (i := i) t (by simpa using e)
    exact ⟨v, by simpa using h1, h2⟩
theorem getD_some : ∀ {ds : List PyData} {i : Nat} {z : PyData}, i < ds.length → ds.getD i .none = z → ds[i]? = some z := fun {ds i z} h e => by
  rw [List.getD_eq_getElem?_getD, List.getElem?_eq_getElem h] at e
  rw [List.getElem?_eq_getElem h]
  exact congrArg some e
theorem call_minP (hc : X.calm = true) (hu : X.A.units + 66 < cLine) : CallR X (.builtin "min") (rMinD X.K) := by
  intro pins s σ H vs us Q I r h
  obtain ⟨a, xs, x, ds, rfl, hq, hp, ha, hd, q⟩ := h
  obtain ⟨u, rfl, ru⟩ := vals1 r
  cases ru
  have fin : ∀ (its : List Value) (as : List Addr), Vals xs its → ReadsAll s.heap its (x :: ds) as → ∀ (i : Nat) v h' tk bs, its.toArray[i]? = some v → Reads h' v (PySem.W.minD x ds) bs → (∀ b o, s.heap.get? b = some o → h'.get? b = some o) → EP X pins σ Q v { s with heap := h', toks := tk } := by
    intro its as rv hr i v h' tk bs hi hm hk
    have hi' : its[i]? = some v := by simpa using hi
    obtain ⟨xv, h1, h2⟩ := getV rv hi'
    obtain ⟨cs, r1, hl, _⟩ := PySem.W.readsAll_at hr i v hi'
    have e := (Reads.unique (PySem.W.reads_keeps hk r1) _ _ hm).1
    exact ⟨xv, H, I.kept (t' := tk) hk, h2, q i xv h1 (getD_some hl e)⟩
  rcases hq with hq | hq
  · obtain ⟨its, rv, pl, _⟩ := I.list hq
    obtain ⟨as, hr⟩ := Dp.readsAll I _ _ its hp rv
    exact PySem.W.min_list_data (vs := its.toArray) (I.ok.hd hc) pl.isList hr ha (by omega) (fin its as rv hr)
  · obtain ⟨its, rv, pl, _⟩ := I.tuple hq
    obtain ⟨as, hr⟩ := Dp.readsAll I _ _ its hp rv
    exact PySem.W.min_tuple_data (vs := its.toArray) (I.ok.hd hc) pl hr ha (by omega) (fin its as rv hr)
def minP : PyData → (PyData → Prop) → Prop := fun d Φ => seqOf d fun ds => ∃ x xs, ds = x :: xs ∧ PySem.W.AlikeAll ds ∧ PyData.depthAll ds ≤ 64 ∧ Φ (PySem.W.minD x xs)
theorem c_min (hc : X.calm = true) (hu : X.A.units + 66 < cLine) : CallD1 X (.builtin "min") minP := by
  refine ⟨_, call_minP hc hu, fun G P H c ρ σ v d Q Φ E D h hQ => ?_⟩
  cases d <;> first | exact h.elim | skip
  · obtain ⟨x, ys, rfl, ha, hd, q⟩ := h
    obtain ⟨a, xs, rfl, hq, t⟩ := D.lst
    refine ⟨a, xs, x, ys, rfl, .inl hq, t.dp, ha, hd, fun i v h1 h2 => ?_⟩
    obtain ⟨d', e, D'⟩ := t.getV h1
    rw [h2] at e
    cases e
    exact hQ _ _ P H q E .refl D'
  · obtain ⟨x, ys, rfl, ha, hd, q⟩ := h
    obtain ⟨a, xs, rfl, hq, t⟩ := D.tup
    refine ⟨a, xs, x, ys, rfl, .inr hq.1, t.dp, ha, hd, fun i v h1 h2 => ?_⟩
    obtain ⟨d', e, D'⟩ := t.getV h1
    rw [h2] at e
    cases e
    exact hQ _ _ P H q E .refl D'
/-! index -/
def idxD (d : PyData) (ds : List PyData) : Nat := (ds.map fun z => PyData.eqv z d).idxOf true
theorem itemsEq_of {A : Around} {s : Shared} {its : List Value} {ds : List PyData} {as bs : List Addr} {u : Value} {d : PyData} (hr : ReadsAll s.heap its ds as) (ru : Reads s.heap u d bs) (hp : PyData.plainAll ds = true) (hd : d.plain = true)
    (hu : A.units + 1 + min (PyData.depthAll ds) d.depth < cLine) : PySem.SeqAt.ItemsEq A.in1 s its (ds.map fun z => PyData.eqv z d) u true := by
  have hl := ReadsAll.length _ _ _ hr
  refine ⟨by rw [List.length_map]; exact hl, fun j h1 h2 => ?_⟩
  have h3 : j < ds.length := by rw [← hl]; exact h1
  have e := readsAll_map_plain ds its as hp hr
  have e2 : readOf s.heap its[j] = ds[j] := by
    have := congrArg (fun l => l[j]?) e
    simp only [List.getElem?_map, List.getElem?_eq_getElem h1, List.getElem?_eq_getElem h3] at this
    exact Option.some.inj this
  have := items_plain (vs := its.toArray) (A := A) (by simpa using hr) ru hp hd hu its[j] (by simp)
  rw [e2] at this
  simpa using this
def rIdxT (K : PySem.W.Frag) : V → List V → Hp → VK → Prop := fun x xs H Q => ∃ (a : Addr) (y : V) (d : PyData) (ds : List PyData) (c : PyData), x = V.ref a ∧ xs = [y] ∧ Dp K H (V.ref a) (.tuple ds) ∧ Dp K H y d ∧
  PyData.plainAll ds = true ∧ d.plain = true ∧ min (PyData.depthAll ds) d.depth ≤ 64 ∧ (∃ z, z ∈ ds ∧ PyData.eqv z d = true) ∧ Q (.int (idxD d ds : Nat)) H
theorem mt_tidx (hu : X.A.units + 66 < cLine) : MtR X "tuple.index" (rIdxT X.K) := by
  intro pins s σ H x xs v us Q I rx rxs h
  obtain ⟨a, y, d, ds, _, rfl, rfl, hl, hy, sl, sd, hdp, ⟨z, hz, hzd⟩, q⟩ := h
  cases rx
  obtain ⟨uy, rfl, ry⟩ := vals1 rxs
  obtain ⟨bs, r1⟩ := Dp.reads I d y uy hy ry
  cases hl with
  | tup hs ha =>
    obtain ⟨its, rv, pl, hlen⟩ := I.tuple hs
    obtain ⟨as, hr⟩ := Dp.readsAll I _ _ its ha rv
    exact PySem.SeqAt.call_tuple_index (vs := its) pl (itemsEq_of hr r1 sl sd (by omega)) (by rw [List.mem_map]; exact ⟨z, hz, hzd⟩) ⟨.int (idxD d ds : Nat), H, I.tok _, ⟨_, rfl⟩, q⟩
def rIdxL (K : PySem.W.Frag) : V → List V → Hp → VK → Prop := fun x xs H Q => ∃ (a : Addr) (y : V) (d : PyData) (ds : List PyData), x = V.ref a ∧ xs = [y] ∧ Dp K H (V.ref a) (.list ds) ∧ Dp K H y d ∧
  PyData.plainAll ds = true ∧ d.plain = true ∧ min (PyData.depthAll ds) d.depth ≤ 64 ∧ (∃ z, z ∈ ds ∧ PyData.eqv z d = true) ∧ Q (.int (idxD d ds : Nat)) H
theorem mt_lidx (hu : X.A.units + 66 < cLine) : MtR X "list.index" (rIdxL X.K) := by
  intro pins s σ H x xs v us Q I rx rxs h
  obtain ⟨a, y, d, ds, rfl, rfl, hl, hy, sl, sd, hdp, ⟨z, hz, hzd⟩, q⟩ := h
  cases rx
  obtain ⟨uy, rfl, ry⟩ := vals1 rxs
  obtain ⟨bs, r1⟩ := Dp.reads I d y uy hy ry
  cases hl with
  | lst hs ha =>
    obtain ⟨its, rv, pl, hlen⟩ := I.list hs
    obtain ⟨as, hr⟩ := Dp.readsAll I _ _ its ha rv
    have hln := ReadsAll.length _ _ _ hr
    have hvl := rv.length
    exact PySem.SeqAt.call_list_index (vs := its) pl.isList (itemsEq_of hr r1 sl sd (by omega)) (by rw [List.length_map]; omega) (by rw [List.mem_map]; exact ⟨z, hz, hzd⟩) ⟨.int (idxD d ds : Nat), H, I.tok _, ⟨_, rfl⟩, q⟩
def dIdxT (wo we : Wx) : Wx := fun x c ρ Φ => wo x c ρ fun t c1 => match t with
  | .tuple ds => we x c1 ρ fun d c2 => min (PyData.depthAll ds) d.depth ≤ 64 ∧ (∃ z, z ∈ ds ∧ PyData.eqv z d = true) ∧ Φ (.int (idxD d ds : Nat)) c2
  | _ => False
def dIdxL (wo we : Wx) : Wx := fun x c ρ Φ => wo x c ρ fun t c1 => match t with
  | .list ds => we x c1 ρ fun d c2 => min (PyData.depthAll ds) d.depth ≤ 64 ∧ (∃ z, z ∈ ds ∧ PyData.eqv z d = true) ∧ Φ (.int (idxD d ds : Nat)) c2
  | _ => False
variable {o e : Expr} {apos cpos : Pos} {wo we : Wx}
/-- t.index(e), t a tuple -/
theorem e_tidx (hu : X.A.units + 66 < cLine) (ho : EJ X W o wo) (ha : RJ X W e we)
    (hbase : attributeBase o "index" X.env (eval o X.env) = eval o X.env := by rfl)
    (hfew : ((backTo cpos (starEach [e] X.env)).all (fun x => !x.1) && (backToKw cpos (keywordEach [] X.env)).all (fun x => x.1.isSome)
      && decide (([e] : List Expr).length + ([] : List Keyword).length + (if ([] : List Keyword).isEmpty then 0 else 1) < 30)) = true := by rfl)
    (hline : (apos.endLine == cpos.line) = true := by rfl) (hs : starEach [e] X.env = (false, eval e X.env) :: starEach [] X.env := by rfl) (hplain : (backTo cpos (starEach [] X.env)).any (·.1) = false := by rfl) :
    EJ X W (.Call (.Attribute o "index" apos) [e] [] cpos) (dIdxT wo we) := by
  obtain ⟨ta, pa, qa⟩ := ho.ex
  obtain ⟨tb, pb, qb⟩ := ha.ex
  refine ⟨_, pe_bmT PySem.F.plainAttrs_tuple PySem.F.slot_tuple_index PySem.F.type_tuple_index (mt_tidx hu) pa (pa_cons pb pa_nil hs) hbase hfew hline hs hplain, fun G P H c ρ σ Q x Φ E xo h hQ => ?_⟩
  refine qa G P H c ρ σ _ x _ E xo h fun d v P1 H1 c1 q1 E1 s1 D1 => ?_
  cases d <;> first | exact q1.elim | skip
  refine ⟨?_, ?_⟩
  · cases D1 with
    | tup h t =>
      rcases h.2 with ⟨_, ob, e1, e2⟩ | ⟨ob, its, n, e1, e2, e3, _⟩
      · exact ⟨_, ob, rfl, .inl ⟨_, e1⟩, e2⟩
      · exact ⟨_, ob, rfl, .inr ⟨e1, e2⟩, e3⟩
  refine qb G P1 H1 c1 ρ σ _ x _ E1 (xo.step s1.st) q1 fun f u P2 H2 c2 q2 E2 s2 D2 => ?_
  have D1' := D1.mono s2.st
  have pl := D1'.plain
  simp only [PyData.plain] at pl
  cases D1' with
  | tup h1 h2 => exact ⟨_, u, f, _, .none, rfl, rfl, .tup h1.1 h2.dp, D2.dp, pl, D2.plain, q2.1, q2.2.1, hQ _ _ P2 H2 c2 q2.2.2 E2 (s1.trans s2) (.int _)⟩
/-- l.index(e), l a list -/
theorem e_lidx (hu : X.A.units + 66 < cLine) (ho : RJ X W o wo) (ha : RJ X W e we)
    (hbase : attributeBase o "index" X.env (eval o X.env) = eval o X.env := by rfl)
    (hfew : ((backTo cpos (starEach [e] X.env)).all (fun x => !x.1) && (backToKw cpos (keywordEach [] X.env)).all (fun x => x.1.isSome)
      && decide (([e] : List Expr).length + ([] : List Keyword).length + (if ([] : List Keyword).isEmpty then 0 else 1) < 30)) = true := by rfl)
    (hline : (apos.endLine == cpos.line) = true := by rfl) (hs : starEach [e] X.env = (false, eval e X.env) :: starEach [] X.env := by rfl) (hplain : (backTo cpos (starEach [] X.env)).any (·.1) = false := by rfl) :
    EJ X W (.Call (.Attribute o "index" apos) [e] [] cpos) (dIdxL wo we) := by
  obtain ⟨ta, pa, qa⟩ := ho.ex
  obtain ⟨tb, pb, qb⟩ := ha.ex
  refine ⟨_, pe_bm PySem.F.plainAttrs_list PySem.F.slot_list_index PySem.F.type_list_index (mt_lidx hu) pa (pa_cons pb pa_nil hs) hbase hfew hline hs hplain, fun G P H c ρ σ Q x Φ E xo h hQ => ?_⟩
  refine qa G P H c ρ σ _ x _ E xo h fun d v P1 H1 c1 q1 E1 s1 D1 => ?_
  cases d <;> first | exact q1.elim | skip
  obtain ⟨a, xs, rfl, hq, t⟩ := D1.lst
  refine ⟨.inl ⟨rfl, xs, hq⟩, ?_⟩
  refine qb G P1 H1 c1 ρ σ _ x _ E1 (xo.step s1.st) q1 fun f u P2 H2 c2 q2 E2 s2 D2 => ?_
  have D1' := D1.mono s2
  have pl := D1'.plain
  simp only [PyData.plain] at pl
  exact ⟨_, u, f, _, rfl, rfl, D1'.dp, D2.dp, pl, D2.plain, q2.1, q2.2.1, hQ _ _ P2 H2 c2 q2.2.2 E2 (s1.trans s2) (.int _)⟩
end
/-! repr -/
section
variable {X : Cx} {W : WX}
theorem call_reprD (hg : X.A.guards = some []) (hu : X.A.units + 66 < cLine) : CallR X (.builtin "repr") (fun vs H Q => ∃ a d, vs = [V.ref a] ∧ Dp X.K H (.ref a) d ∧ d.showable = true ∧ d.hasDict = false ∧ d.depth ≤ 64 ∧ d.shown.length ≤ sizeLine ∧ Q (.str d.shown) H) := by
  intro pins s σ H vs us Q I r h
  obtain ⟨a, d, rfl, hd, h1, h2, h3, h4, q⟩ := h
  obtain ⟨u, rfl, ru⟩ := vals1 r
  obtain ⟨as, hr⟩ := Dp.reads I d _ u hd ru
  cases ru
  exact repr_of_reads' hr h1 (fun z => by rw [h2] at z; cases z) hg (by omega) (fun _ _ z => z) (fun h' u tk hk => ⟨.str _, H, I.kept (t' := tk) hk, ⟨_, rfl⟩, q⟩) h4
def reprD : PyData → (PyData → Prop) → Prop := fun d Φ => (match d with
  | .list _ => True
  | .tuple _ => True
  | _ => False) ∧ d.showable = true ∧ d.hasDict = false ∧ d.depth ≤ 64 ∧ d.shown.length ≤ sizeLine ∧ Φ (.str d.shown)
theorem c_repr (hg : X.A.guards = some []) (hu : X.A.units + 66 < cLine) : CallD1 X (.builtin "repr") reprD := by
  refine ⟨_, call_reprD hg hu, fun G P H c ρ σ v d Q Φ E D h hQ => ?_⟩
  obtain ⟨h0, h1, h2, h3, h4, q⟩ := h
  cases d <;> first | exact h0.elim | skip
  · obtain ⟨a, xs, rfl, hq, t⟩ := D.lst
    exact ⟨a, _, rfl, .lst hq t.dp, h1, h2, h3, h4, hQ _ _ P H q E .refl (.str _)⟩
  · obtain ⟨a, xs, rfl, hq, t⟩ := D.tup
    exact ⟨a, _, rfl, .tup hq.1 t.dp, h1, h2, h3, h4, hQ _ _ P H q E .refl (.str _)⟩
/-! a new list times an int -/
def dRep (wa : Wf) (wb : Wx) : Wf := fun x c ρ Φ => wa x c ρ fun ds c1 => wb x c1 ρ fun e c2 => match e with
  | .int k => 0 ≤ k ∧ k < 2 ^ 62 ∧ ds.length * k.toNat ≤ sizeLine ∧ Φ (List.replicate k.toNat ds).flatten c2
  | _ => False
theorem DvAll.rep {K : PySem.W.Frag} {P : AP} {H : Hp} {vs : List V} {ds : List PyData} (h : DvAll K P H vs ds) : ∀ n : Nat, DvAll K P H (List.replicate n vs).flatten (List.replicate n ds).flatten
  | 0 => .nil
  | n + 1 => by
    rw [List.replicate_succ, List.replicate_succ, List.flatten_cons, List.flatten_cons]
    exact h.append (h.rep n)
theorem f_rep {a b : Expr} {wa : Wf} {wb : Wx} {pos : Pos} (ha : FJ X W a wa) (hb : EJ X W b wb) : FJ X W (.BinOp a .Mult b pos) (dRep wa wb) := by
  obtain ⟨ta, pa, qa⟩ := ha.ex
  obtain ⟨tb, pb, qb⟩ := hb.ex
  refine ⟨_, pe_op op_rep pa pb, fun G P H c ρ σ Q x Φ E xo h hQ => ?_⟩
  refine qa G P H c ρ σ _ x _ E xo h fun ds p P1 H1 c1 q1 E1 s1 F np => ?_
  obtain ⟨vs, h1, h2⟩ := F.at_
  refine qb G P1 H1 c1 ρ σ _ x _ E1 (xo.step s1.st) q1 fun e u P2 H2 c2 q2 E2 s2 D2 => ?_
  cases e <;> first | exact q2.elim | skip
  cases D2
  obtain ⟨k0, k1, k2, q⟩ := q2
  have hp : H2 p = some (.lst vs) := s2.kp p _ h1 fun z => by
    rcases z with z | ⟨i, z1, z2⟩
    · exact F.nd z
    · exact F.no i _ z1 rfl z2
  refine ⟨p, _, vs, rfl, rfl, hp, by omega, by omega, by rw [h2.length]; exact k2, fun p2 np2 => ?_⟩
  exact hQ _ _ _ _ c2 q (E2.newO np2) ((s1.trans s2).trans (.newO E2.base.tr np2)) (Fr.new E2 np2 ((h2.mono s2.st).rep _)) ((s1.trans s2).dm _ np2)
end
/-! chains of three comparisons -/
section
variable {X : Cx} {W : WX}
def dChain3 (wa wb wc wd : Wx) (g g' g'' : PyData → PyData → (PyData → Prop) → Prop) : Wx := fun x c ρ Φ => wa x c ρ fun d c1 => wb x c1 ρ fun e c2 => g d e fun z => boolC z (wc x c2 ρ fun f c3 => g' e f fun z' => boolC z' (wd x c3 ρ fun h c4 => g'' f h fun z'' => Φ z'' c4) (Φ (.bool false) c3)) (Φ (.bool false) c2)
def tChain3 (r r' r'' : R2) (ta tb tc td : TE) : TE := fun σ H Q => ta σ H fun x H1 => tb σ H1 fun y H2 => r x y H2 fun z H3 => ∃ k, z = .bl k ∧
  (if k = true then tc σ H3 fun u H4 => r' y u H4 fun z' H5 => ∃ k', z' = .bl k' ∧ (if k' = true then td σ H5 fun t H6 => r'' u t H6 Q else Q (.bl false) H5) else Q (.bl false) H3)
theorem pe_chain3 {a b c d : Expr} {ta tb tc td : TE} {pos : Pos} {o1 o2 o3 : CmpOp} {r r' r'' : R2} (h1 : OpR X (compareOp o1) r) (h2 : OpR X (compareOp o2) r') (h3 : OpR X (compareOp o3) r'') (ha : PE X a ta) (hb : PE X b tb) (hc : PE X c tc) (hd : PE X d td)
    (hm : lastMarks [o1, o2, o3] [b, c, d] = false := by with_unfolding_all rfl) : PE X (.Compare a [o1, o2, o3] [b, c, d] pos) (tChain3 r r' r'' ta tb tc td) := by
  refine ⟨fun pins s σ H Q I h => Compare_chain (thn (ha.run pins s σ H _ I h) ?_) hm⟩
  intro v s1 ⟨x, H1, I1, r1, q1⟩
  refine chain_link (thn (hb.run pins s1 σ H1 _ I1 q1) ?_)
  intro u s2 ⟨y, H2, I2, r2, q2⟩
  refine thn (h1 pins s2 σ H2 x y v u _ I2 r1 r2 q2) ?_
  intro z s3 ⟨z', H3, I3, r3, k, e, q3⟩
  subst e
  cases r3
  refine wpAny_truthy_bool ?_
  cases k with
  | false => exact ite_ff ⟨.bl false, H3, I3, rfl, q3⟩
  | true =>
    refine ite_tt (chain_link (thn (hc.run pins s3 σ H3 _ I3 q3) ?_))
    intro w' s4 ⟨t, H4, I4, r4, q4⟩
    refine thn (h2 pins s4 σ H4 y t u w' _ I4 r2 r4 q4) ?_
    intro z s5 ⟨z', H5, I5, r5, k', e, q5⟩
    subst e
    cases r5
    refine wpAny_truthy_bool ?_
    cases k' with
    | false => exact ite_ff ⟨.bl false, H5, I5, rfl, q5⟩
    | true =>
      refine ite_tt (chain_last (thn (hd.run pins s5 σ H5 _ I5 q5) ?_))
      intro w2 s6 ⟨t2, H6, I6, r6, q6⟩
      exact h3 pins s6 σ H6 t t2 w' w2 Q I6 r4 r6 q6
theorem e_chain3 {a b c d : Expr} {wa wb wc wd : Wx} {pos : Pos} {o1 o2 o3 : CmpOp} {g g' g''} (h1 : OpD X (compareOp o1) g) (h2 : OpD X (compareOp o2) g') (h3 : OpD X (compareOp o3) g'') (ha : EJ X W a wa) (hb : EJ X W b wb) (hc : EJ X W c wc) (hd : EJ X W d wd)
    (hm : lastMarks [o1, o2, o3] [b, c, d] = false := by with_unfolding_all rfl) : EJ X W (.Compare a [o1, o2, o3] [b, c, d] pos) (dChain3 wa wb wc wd g g' g'') := by
  obtain ⟨ta, pa, qa⟩ := ha.ex
  obtain ⟨tb, pb, qb⟩ := hb.ex
  obtain ⟨tc, pc, qc⟩ := hc.ex
  obtain ⟨td, pd, qd⟩ := hd.ex
  obtain ⟨r, pr, qr⟩ := h1
  obtain ⟨r', pr', qr'⟩ := h2
  obtain ⟨r'', pr'', qr''⟩ := h3
  refine ⟨_, pe_chain3 pr pr' pr'' pa pb pc pd hm, fun G P H c ρ σ Q x Φ E xo h hQ => ?_⟩
  refine qa G P H c ρ σ _ x _ E xo h fun d v P1 H1 c1 q1 E1 s1 D1 => ?_
  refine qb G P1 H1 c1 ρ σ _ x _ E1 (xo.step s1.st) q1 fun e u P2 H2 c2 q2 E2 s2 D2 => ?_
  refine qr G P2 H2 c2 ρ σ v u d e _ _ E2 (.dv (D1.mono s2.st)) (.dv D2) q2 fun z v' P3 H3 q3 E3 s3 D3 => ?_
  cases z <;> first | exact q3.elim | skip
  rename_i k
  cases D3
  have s03 := (s1.trans s2).trans s3
  cases k with
  | false => exact ⟨false, rfl, iteF (hQ _ _ P3 H3 c2 q3 E3 s03 (.bl _))⟩
  | true =>
    refine ⟨true, rfl, iteT ?_⟩
    refine qc G P3 H3 c2 ρ σ _ x _ E3 (xo.step s03.st) q3 fun f u4 P4 H4 c4 q4 E4 s4 D4 => ?_
    refine qr' G P4 H4 c4 ρ σ u u4 e f _ _ E4 (.dv (D2.mono (s3.trans s4).st)) (.dv D4) q4 fun z v' P5 H5 q5 E5 s5 D5 => ?_
    have s05 := (s03.trans s4).trans s5
    cases z <;> first | exact q5.elim | skip
    rename_i k
    cases D5
    cases k with
    | false => exact ⟨false, rfl, iteF (hQ _ _ P5 H5 c4 q5 E5 s05 (.bl _))⟩
    | true =>
      refine ⟨true, rfl, iteT ?_⟩
      refine qd G P5 H5 c4 ρ σ _ x _ E5 (xo.step s05.st) q5 fun f' u6 P6 H6 c6 q6 E6 s6 D6 => ?_
      refine qr'' G P6 H6 c6 ρ σ u4 u6 f f' _ _ E6 (.dv (D4.mono (s5.trans s6).st)) (.dv D6) q6 fun z v' P7 H7 q7 E7 s7 D7 => ?_
      exact hQ z v' P7 H7 c6 q7 E7 ((s05.trans s6).trans s7) D7
end
end DL

/-! What is told of a def; what is never reached; wishes made plain. -/
namespace DL
open PySem PySem.Spec PyProof.Rows L2
section
variable {X : Cx} {W : WX}
/-- a def that may be called -/
structure Cl (g : Bool) (P : Program) (w : World) (K : PySem.W.Frag) (mg : Str → Option Value) (base : Heap) (k : Nat) (x : Str) (ps : List Str) (sd : Sd) : Prop where
  ex : ∃ f fd, FnA g P w K mg base (L2.CX P w) k f fd ps (spOf K ps.length sd) ∧ mg x = some (.ref f) ∧ PySem.W.keepIn K (.ref f) = true ∧ Binds K fd ps [] ∧
    (∀ s us, us.length = ps.length → BindsTo s fd ⟨[], ps.zip us⟩ (ps.zip us)) ∧ ∃ oc od osl, K.lookup f = some ⟨oc, od, .func fd, osl⟩
variable {gd : Bool} {j k n : Nat} {x : Str} {ps : List Str} {sd : Sd} {p pos : Pos} {e : Expr} {es : List Expr} {wa : Wa}
theorem nog {A : Around} : Still false A := nofun
theorem e_callC (C : Cl gd X.prog X.w X.K X.mg X.base j x ps sd) (hj : j ≤ k) (hr : Room k X.A) (hG : Still gd X.A) (hg : Gl X x) (tk : Takes X W) (ha : AJ X W (e :: es) wa) (hdb : (x == ("__debug__" : Str)) = false := by decide)
    (he : starEach (e :: es) X.env = (false, eval e X.env) :: starEach es X.env := by rfl) (hpl : (backTo pos (starEach es X.env)).any (·.1) = false := by rfl) : EJ X W (.Call (.Name x p) (e :: es) [] pos) (dCall ps.length wa sd) := by
  obtain ⟨f, fd, F, hm, hk, hb, _⟩ := C.ex
  exact e_call (F.wide hj) hr hG hg hm hk hb tk ha hdb he hpl
theorem f_callC (C : Cl gd X.prog X.w X.K X.mg X.base j x ps sd) (hj : j ≤ k) (hr : Room k X.A) (hG : Still gd X.A) (hg : Gl X x) (tk : Takes X W) (ha : AJ X W (e :: es) wa) (hdb : (x == ("__debug__" : Str)) = false := by decide)
    (he : starEach (e :: es) X.env = (false, eval e X.env) :: starEach es X.env := by rfl) (hpl : (backTo pos (starEach es X.env)).any (·.1) = false := by rfl) : FJ X W (.Call (.Name x p) (e :: es) [] pos) (dCallF ps.length wa sd) := by
  obtain ⟨f, fd, F, hm, hk, hb, _⟩ := C.ex
  exact f_call (F.wide hj) hr hG hg hm hk hb tk ha hdb he hpl
/-- f(a = .., b = ..), the names in the parameters' order -/
theorem e_callCK {kws : List Keyword} (C : Cl gd X.prog X.w X.K X.mg X.base j x ps sd) (hj : j ≤ k) (hr : Room k X.A) (hG : Still gd X.A) (hg : Gl X x) (tk : Takes X W) (hkw : KJ X W kws wa) (hall : (backToKw pos (keywordEach kws X.env)).all (·.1.isSome) = true := by rfl) (hks : (backToKw pos (keywordEach kws X.env)).filterMap (·.1) = ps := by rfl)
    (hdb : (x == ("__debug__" : Str)) = false := by decide) (hpl : ((backTo pos (starEach [] X.env)).any (·.1) || (backToKw pos (keywordEach kws X.env)).any (·.1.isNone)) = false := by rfl) : EJ X W (.Call (.Name x p) [] kws pos) (dCallK ps.length (fun l => l) wa sd) := by
  obtain ⟨f, fd, F, hm, hk, hb, hb2, _⟩ := C.ex
  exact e_callK (F.wide hj) rfl hr hG hg hm hk ⟨fun s ws _ hl => hb2 s ws hl⟩ ⟨fun _ h => h, fun _ h => h⟩ tk hkw hall hks hdb hpl
theorem hu4 {A : Around} (hr : Room k A) : A.units + 64 < cLine := by have := hr.un; omega
theorem hu5 {A : Around} (hr : Room k A) : A.units + 65 < cLine := by have := hr.un; omega
theorem hu6 {A : Around} (hr : Room k A) : A.units + 66 < cLine := by have := hr.un; omega
theorem cl_mk {P : Program} {w : World} {K : PySem.W.Frag} {mg : Str → Option Value} {base : Heap} {st : Stmt} {f : Addr} {fd : FuncData} {N : List Str} (F : Fun K x x st f fd) (hm : mg x = some (.ref f)) (S : FnScope N ps (defScope st))
    (b1 : ∀ (kV doc pm : Value) (an : Option Addr) (cdv ct : Value) (us : List Value), us.length = ps.length → bindArgs (PySem.W.fnOf x x (defArgs st) (defBody st) (defScope st) .none kV doc pm an cdv ct) ⟨us, []⟩ = pure (ps.zip us))
    (b2 : ∀ (kV doc pm : Value) (an : Option Addr) (cdv ct : Value) (us : List Value), us.length = ps.length → bindArgs (PySem.W.fnOf x x (defArgs st) (defBody st) (defScope st) .none kV doc pm an cdv ct) ⟨[], ps.zip us⟩ = pure (ps.zip us))
    (hb : ∀ (cdv : Value) (A : Around) (outer : List Env) (s : Shared) (H : Hp) (E : XK), Room k (A.deeper (envOfC x (defScope st) s.heap.objs.size f cdv)) → Still gd (A.deeper (envOfC x (defScope st) s.heap.objs.size f cdv)) → Takes (cxOf (L2.CX P w) P w K mg base N x (defScope st) f cdv A outer s H E) (WE0 E) →
      PassesOwn (model P w) (cxOf (L2.CX P w) P w K mg base N x (defScope st) f cdv A outer s H E).A (cxOf (L2.CX P w) P w K mg base N x (defScope st) f cdv A outer s H E).env (cxOf (L2.CX P w) P w K mg base N x (defScope st) f cdv A outer s H E).xe →
      ∃ wd, SsJ (cxOf (L2.CX P w) P w K mg base N x (defScope st) f cdv A outer s H E) (WE0 E) (defBody st) wd ∧
        ∀ c as y Φ Ψ, as.length = ps.length → sd c as y Φ Ψ → wd (fun C d c' _ => y C d c') ⟨fun c' _ => Φ .none c', Φ, Ψ, fun _ _ => False, fun _ _ => False⟩ c (startR N.length as)) :
    Cl gd P w K mg base (k + 1) x ps sd := by
  refine ⟨f, fd, fn_ok F S rfl hb, hm, F.kp, F.binds b1, ?_⟩
  obtain ⟨oc, od, kV, doc, pm, an, cdv, ct, osl, rfl, lk, hcd⟩ := F.ex
  exact ⟨fun s us hl => .of_eq (b2 kV doc pm an cdv ct us hl), oc, od, osl, lk⟩
theorem Cl.up {P : Program} {w : World} {K : PySem.W.Frag} {mg : Str → Option Value} {base : Heap} (C : Cl false P w K mg base j x ps sd) : Cl true P w K mg base j x ps sd := by
  obtain ⟨f, fd, F, h⟩ := C.ex
  exact ⟨f, fd, F.up, h⟩
/-- two promises of one def -/
theorem Cl.or {P : Program} {w : World} {K : PySem.W.Frag} {mg : Str → Option Value} {base : Heap} {sd' sd2 : Sd} (C : Cl gd P w K mg base j x ps sd) (C' : Cl gd P w K mg base j x ps sd') (h : ∀ c as y Φ Ψ, sd2 c as y Φ Ψ → sd c as y Φ Ψ ∨ sd' c as y Φ Ψ) : Cl gd P w K mg base j x ps sd2 := by
  obtain ⟨f, fd, F, hm, hk, hb, hb2, oc, od, osl, lk⟩ := C.ex
  obtain ⟨f', fd', F', hm', _, _, _, oc', od', osl', lk'⟩ := C'.ex
  rw [hm] at hm'
  cases hm'
  rw [lk] at lk'
  cases lk'
  refine ⟨f, fd, ⟨fun vs H Q E h => spOf_len vs H Q E h, fun A st s H ar us vs Q E r g e b v hsp => ?_⟩, hm, hk, hb, hb2, oc, od, osl, lk⟩
  obtain ⟨Pp, DK, c, as, y, Φ, Ψ, a1, a2, a3, a4, a5, a6⟩ := hsp
  rcases h _ _ _ _ _ a5 with z | z
  · exact F.go A st s H ar us vs Q E r g e b v ⟨Pp, DK, c, as, y, Φ, Ψ, a1, a2, a3, a4, z, a6⟩
  · exact F'.go A st s H ar us vs Q E r g e b v ⟨Pp, DK, c, as, y, Φ, Ψ, a1, a2, a3, a4, z, a6⟩
theorem Cl.wide {P : Program} {w : World} {K : PySem.W.Frag} {mg : Str → Option Value} {base : Heap} (C : Cl gd P w K mg base j x ps sd) (h : j ≤ k) : Cl gd P w K mg base k x ps sd := by
  obtain ⟨f, fd, F, z⟩ := C.ex
  exact ⟨f, fd, F.wide h, z⟩
/-! ### never reached -/
theorem s_never {st : Stmt} : SJ X W st (fun _ _ _ _ => False) := ⟨fun _ _ _ => False, ⟨fun _ _ _ _ _ _ h => h.elim⟩, fun _ _ _ _ _ _ _ _ _ _ _ h => h.elim⟩
theorem e_never {e : Expr} : EJ X W e (fun _ _ _ _ => False) := ⟨fun _ _ _ => False, ⟨fun _ _ _ _ _ _ h => h.elim⟩, fun _ _ _ _ _ _ _ _ _ _ _ h => h.elim⟩
/-! ### an opened deck that is read -/
def dOdIx (i : Nat) (wb : Wx) : Wx := fun x c ρ Φ => match ρ[i]? with
  | some (.od xs) => wb x c ρ fun e c1 => match e with
    | .int m => ∃ d, atI xs m = some d ∧ Φ d c1
    | _ => False
  | _ => False
theorem e_odix {i : Nat} {o b : Expr} {wb : Wx} {pos : Pos} (ho : PE X o (tVar i)) (hb : EJ X W b wb) (hs : PlainIx b := by exact fun _ _ => rfl) : EJ X W (.Subscript o b pos) (dOdIx i wb) := by
  obtain ⟨tb, pb, qb⟩ := hb.ex
  refine ⟨_, pe_ix (ix_list.or ix_tup) ho pb hs, fun G P H c ρ σ Q x Φ E xo h hQ => ?_⟩
  unfold dOdIx at h
  split at h
  · rename_i xs hx
    obtain ⟨a, vs, ea, _⟩ := E.sl i _ hx
    refine ⟨_, ea, ?_⟩
    refine qb G P H c ρ σ _ x _ E xo h fun e u P2 H2 c2 q2 E2 s2 D2 => ?_
    obtain ⟨a', vs', ea', h1, h2, _⟩ := E2.sl i _ hx
    rw [ea] at ea'
    cases ea'
    cases e <;> first | exact q2.elim | skip
    cases D2
    obtain ⟨z, ez, q⟩ := q2
    obtain ⟨w', w1, w2⟩ := atI_dv h2 ez
    exact .inl ⟨a, vs', _, w', rfl, rfl, .inl (.inl h1), w1, hQ z w' P2 H2 c2 q E2 s2 w2⟩
  · exact h.elim
end
/-! ### the built-in names -/
theorem b_len : bootBuiltins "len" = some (.builtin "len") := by decide +kernel
theorem b_abs : bootBuiltins "abs" = some (.builtin "abs") := by decide +kernel
theorem b_all : bootBuiltins "all" = some (.builtin "all") := by decide +kernel
theorem b_any : bootBuiltins "any" = some (.builtin "any") := by decide +kernel
theorem b_sum : bootBuiltins "sum" = some (.builtin "sum") := by decide +kernel
theorem b_max : bootBuiltins "max" = some (.builtin "max") := by decide +kernel
theorem b_min : bootBuiltins "min" = some (.builtin "min") := by decide +kernel
theorem b_repr : bootBuiltins "repr" = some (.builtin "repr") := by decide +kernel
theorem b_isinstance : bootBuiltins "isinstance" = some (.builtin "isinstance") := by decide +kernel
theorem b_int : bootBuiltins "int" = some (.type "int") := by decide +kernel
theorem b_bool : bootBuiltins "bool" = some (.type "bool") := by decide +kernel
theorem b_tuple : bootBuiltins "tuple" = some (.type "tuple") := by decide +kernel
theorem b_list : bootBuiltins "list" = some (.type "list") := by decide +kernel
theorem b_str : bootBuiltins "str" = some (.type "str") := by decide +kernel
/-! ### comprehensions, loops by what is known of each turn -/
theorem compW_pure {g : Wg} {tt : Wt} {te : Wx} {ρ : List Sl} {Φ : List PyData → Nat → Prop} {c : Nat} (f : PyData → Option PyData) : ∀ (ds acc : List PyData),
    (∀ d, d ∈ ds → ∀ (K1 : PyData → Nat → Prop) (K2 : Nat → Prop), (match f d with | some z => K1 z c | none => K2 c) → g d c ρ fun c1 ρ1 => tt xF c1 ρ1 fun b c2 => if b = true then te xF c2 ρ1 K1 else K2 c2) →
    acc.length + ds.length ≤ sizeLine → Φ (acc ++ ds.filterMap f) c → compW g tt te ρ ds acc c Φ
  | [], acc, _, _, h => by
    rw [List.filterMap_nil, List.append_nil] at h
    exact h
  | d :: r, acc, hs, hl, h => by
    rw [compW_cons]
    rw [List.length_cons] at hl
    refine hs d List.mem_cons_self _ _ ?_
    cases e : f d with
    | some z =>
      refine ⟨by omega, compW_pure f r (acc ++ [z]) (fun d hd => hs d (List.mem_cons_of_mem _ hd)) (by rw [List.length_append, List.length_singleton]; omega) ?_⟩
      rw [List.filterMap_cons, e] at h
      rw [List.append_assoc]
      exact h
    | none =>
      refine compW_pure f r acc (fun d hd => hs d (List.mem_cons_of_mem _ hd)) (by omega) ?_
      rw [List.filterMap_cons, e] at h
      exact h
theorem compW_inv {g : Wg} {tt : Wt} {te : Wx} {ρ : List Sl} {Φ : List PyData → Nat → Prop} (I : List PyData → List PyData → Nat → Prop)
    (hs : ∀ d r acc c, I (d :: r) acc c → ∀ (K1 : PyData → Nat → Prop) (K2 : Nat → Prop), (∀ z c3, I r (acc ++ [z]) c3 → K1 z c3) → (∀ c2, I r acc c2 → K2 c2) → g d c ρ fun c1 ρ1 => tt xF c1 ρ1 fun b c2 => if b = true then te xF c2 ρ1 K1 else K2 c2)
    (hz : ∀ d r acc c, I (d :: r) acc c → acc.length < sizeLine) (hΦ : ∀ acc c, I [] acc c → Φ acc c) : ∀ (ds acc : List PyData) (c : Nat), I ds acc c → compW g tt te ρ ds acc c Φ
  | [], acc, c, h => hΦ acc c h
  | d :: r, acc, c, h => by
    rw [compW_cons]
    have l := hz d r acc c h
    exact hs d r acc c h _ _ (fun z c3 i => ⟨l, compW_inv I hs hz hΦ r _ c3 i⟩) fun c2 i => compW_inv I hs hz hΦ r _ c2 i
theorem forW_inv {g : Wg} {w : Ws} {x : XP} {Φ : En} (I : List PyData → Nat → List Sl → Prop)
    (hs : ∀ d r c ρ, I (d :: r) c ρ → ∀ Φ' : En, (∀ c ρ, I r c ρ → Φ'.nx c ρ) → (∀ c ρ, I r c ρ → Φ'.ct c ρ) → Φ'.bk = Φ.nx → Φ'.rt = Φ.rt → Φ'.rf = Φ.rf → g d c ρ fun c1 ρ1 => w x Φ' c1 ρ1)
    (hΦ : ∀ c ρ, I [] c ρ → Φ.nx c ρ) : ∀ (ds : List PyData) (c : Nat) (ρ : List Sl), I ds c ρ → forW g w x Φ ds c ρ
  | [], c, ρ, h => hΦ c ρ h
  | d :: r, c, ρ, h => by
    rw [forW_cons]
    exact hs d r c ρ h _ (fun c ρ i => forW_inv I hs hΦ r c ρ i) (fun c ρ i => forW_inv I hs hΦ r c ρ i) rfl rfl rfl
/-! ### wishes, made plain -/
section
variable {α : Type} {x y z u : α}
theorem at10 : atI [x] 0 = some x := rfl
theorem at1n : atI [x] (-1) = some x := rfl
theorem at20 : atI [x, y] 0 = some x := rfl
theorem at21 : atI [x, y] 1 = some y := rfl
theorem at2n : atI [x, y] (-1) = some y := rfl
theorem at30 : atI [x, y, z] 0 = some x := rfl
theorem at31 : atI [x, y, z] 1 = some y := rfl
theorem at32 : atI [x, y, z] 2 = some z := rfl
theorem at3n : atI [x, y, z] (-1) = some z := rfl
end
section
variable {i j : Int} {a b : Bool} {Φ : PyData → Prop} {xs ys : List PyData}
theorem n_add : addD (.int i) (.int j) Φ = Φ (.int (i + j)) := rfl
theorem n_addT : addD (.tuple xs) (.tuple ys) Φ = (xs.length + ys.length ≤ sizeLine ∧ Φ (.tuple (xs ++ ys))) := rfl
theorem n_sub : subD (.int i) (.int j) Φ = Φ (.int (i - j)) := rfl
theorem n_mul : mulD (.int i) (.int j) Φ = (IntMulOk i j ∧ Φ (.int (i * j))) := rfl
theorem n_fdiv : fdivD (.int i) (.int j) Φ = (DivOk j ∧ Φ (.int (i.fdiv j))) := rfl
theorem n_mod : modD (.int i) (.int j) Φ = (j ≠ 0 ∧ Φ (.int (i.fmod j))) := rfl
theorem n_pow : powD (.int i) (.int j) Φ = (CPow i j ∧ Φ (.int (i ^ j.toNat))) := rfl
theorem n_shl : shlD (.int i) (.int j) Φ = (CPow i j ∧ Φ (.int (i * 2 ^ j.toNat))) := rfl
theorem n_cmp {p : Int → Int → Bool} : cmpI p (.int i) (.int j) Φ = Φ (.bool (p i j)) := rfl
theorem n_is {n : Bool} : isB n (.bool a) (.bool b) Φ = Φ (.bool (n != decide (a = b))) := rfl
theorem n_neg : negD (.int i) Φ = Φ (.int (-i)) := rfl
theorem n_not : notD (.bool a) Φ = Φ (.bool (!a)) := rfl
theorem n_ixL : ixD (.list xs) (.int i) Φ = ∃ d, atI xs i = some d ∧ Φ d := rfl
theorem n_ixT : ixD (.tuple xs) (.int i) Φ = ∃ d, atI xs i = some d ∧ Φ d := rfl
theorem n_lenL : lenD (.list xs) Φ = Φ (.int xs.length) := rfl
theorem n_lenT : lenD (.tuple xs) Φ = Φ (.int xs.length) := rfl
theorem n_abs : absD [.int i] Φ = Φ (.int i.natAbs) := rfl
theorem n_gcd : gcdD [.int i, .int j] Φ = Φ (.int (Int.gcd i j)) := rfl
theorem n_isqrt : isqrtD [.int i] Φ = (0 ≤ i ∧ i < 2 ^ 64 ∧ Φ (.int ((Float64.isqrt i.toNat : Nat) : Int))) := rfl
theorem n_int : intD [.int i] Φ = Φ (.int i) := rfl
theorem n_tupL : tupD (.list xs) Φ = Φ (.tuple xs) := rfl
theorem n_tupT : tupD (.tuple xs) Φ = Φ (.tuple xs) := rfl
end
def dInt : PyData → Bool
  | .int _ | .bool _ => true
  | _ => false
def dBool : PyData → Bool
  | .bool _ => true
  | _ => false
def dIsTup : PyData → Bool
  | .tuple _ => true
  | _ => false
theorem isi_to {T : String} {d : PyData} {b : Bool} (h : kitB (tyN d) T = some b) (Φ : PyData → Prop) : isiD T d Φ = Φ (.bool b) := by
  apply propext
  unfold isiD
  rw [h]
  constructor
  · rintro ⟨b', e, q⟩
    cases e
    exact q
  · intro q
    exact ⟨b, rfl, q⟩
theorem n_isi_int (d : PyData) (Φ : PyData → Prop) : isiD "int" d Φ = Φ (.bool (dInt d)) := isi_to ((isi_int d).trans (by cases d <;> rfl)) Φ
theorem n_isi_bool (d : PyData) (Φ : PyData → Prop) : isiD "bool" d Φ = Φ (.bool (dBool d)) := isi_to ((isi_bool d).trans (by cases d <;> rfl)) Φ
theorem n_isi_tuple (d : PyData) (Φ : PyData → Prop) : isiD "tuple" d Φ = Φ (.bool (dIsTup d)) := isi_to ((isi_tuple d).trans (by cases d <;> rfl)) Φ
theorem n_eqI {i j : Int} {Φ : PyData → Prop} : eqP (.int i) (.int j) Φ = Φ (.bool (decide (i = j))) := by
  unfold eqP
  rw [show PyData.eqv (.int i) (.int j) = decide (i = j) by rw [PyData.eqv]; rfl]
  apply propext
  constructor
  · exact fun h => h.2
  · exact fun h => ⟨by simp [PyData.depth], h⟩
theorem n_neI {i j : Int} {Φ : PyData → Prop} : neP (.int i) (.int j) Φ = Φ (.bool (!decide (i = j))) := by
  unfold neP
  rw [show PyData.eqv (.int i) (.int j) = decide (i = j) by rw [PyData.eqv]; rfl]
  apply propext
  constructor
  · exact fun h => h.2
  · exact fun h => ⟨by simp [PyData.depth], h⟩
theorem filterMap_pure {α β : Type} (f : α → β) (xs : List α) : xs.filterMap (fun d => some (f d)) = xs.map f := by
  induction xs with
  | nil => rfl
  | cons x xs ih => rw [List.filterMap_cons, List.map_cons, ih]
theorem eqv3 {a b c d e g : Int} : PyData.eqv (.tuple [.int a, .int b, .int c]) (.tuple [.int d, .int e, .int g]) = decide (a = d ∧ b = e ∧ c = g) := by
  have i : ∀ x y : Int, PyData.eqv (.int x) (.int y) = decide (x = y) := fun x y => by rw [PyData.eqv]; rfl
  rw [PyData.eqv, PyData.eqvAll, PyData.eqvAll, PyData.eqvAll, PyData.eqvAll, i, i, i]
  by_cases h1 : a = d <;> by_cases h2 : b = e <;> by_cases h3 : c = g <;> simp [h1, h2, h3]
theorem depth3 {a b c : Int} : PyData.depth (.tuple [.int a, .int b, .int c]) ≤ 2 := by simp [PyData.depth, PyData.depthAll]
theorem n_eq3 {a b c d e g : Int} {Φ : PyData → Prop} : eqP (.tuple [.int a, .int b, .int c]) (.tuple [.int d, .int e, .int g]) Φ = Φ (.bool (decide (a = d ∧ b = e ∧ c = g))) := by
  unfold eqP
  rw [eqv3]
  have := depth3 (a := a) (b := b) (c := c)
  exact propext ⟨fun h => h.2, fun h => ⟨by omega, h⟩⟩
theorem n_ne3 {a b c d e g : Int} {Φ : PyData → Prop} : neP (.tuple [.int a, .int b, .int c]) (.tuple [.int d, .int e, .int g]) Φ = Φ (.bool (!decide (a = d ∧ b = e ∧ c = g))) := by
  unfold neP
  rw [eqv3]
  have := depth3 (a := a) (b := b) (c := c)
  exact propext ⟨fun h => h.2, fun h => ⟨by omega, h⟩⟩
theorem no_dt {d : PyData} : (Sl.dt d).notOd = true := rfl
theorem no_un : Sl.un.notOd = true := rfl
theorem no_ow {d : List PyData} : (Sl.ow d).notOd = true := rfl
theorem no_dk : Sl.dk.notOd = true := rfl
theorem seq_hide {w u : Ws} {x : XP} {Φ : En} {c : Nat} {ρ : List Sl} (h : ∀ U, U = u → sSeq w U x Φ c ρ) : sSeq w u x Φ c ρ := h u rfl
theorem n_asg_if {wt : Wt} {wa wb : Wx} {g : Wg} {x : XP} {Φ : En} {c : Nat} {ρ : List Sl} : sAsg (dIf wt wa wb) g x Φ c ρ = wt x c ρ fun b c1 => if b = true then sAsg wa g x Φ c1 ρ else sAsg wb g x Φ c1 ρ := by
  unfold sAsg dIf
  rfl
theorem ix32 : ixN 3 2 = some 2 := rfl
theorem ix31 : ixN 3 1 = some 1 := rfl
theorem atI_ints {ns : List Int} {i : Int} (h0 : 0 ≤ i) (h : i < ns.length) : ∃ z : Int, z ∈ ns ∧ atI (ns.map PyData.int) i = some (.int z) := by
  unfold atI ixN
  rw [if_pos h0, if_pos (by rw [List.length_map]; exact h)]
  have hl : i.toNat < ns.length := by omega
  exact ⟨ns[i.toNat], List.getElem_mem hl, by show (ns.map PyData.int)[i.toNat]? = _; rw [List.getElem?_map, List.getElem?_eq_getElem hl]; rfl⟩
theorem atI_mem {ds : List PyData} {i : Int} (h0 : 0 ≤ i) (h : i < ds.length) : ∃ z, z ∈ ds ∧ atI ds i = some z := by
  unfold atI ixN
  rw [if_pos h0, if_pos h]
  have hl : i.toNat < ds.length := by omega
  exact ⟨ds[i.toNat], List.getElem_mem hl, List.getElem?_eq_getElem hl⟩
theorem sz0 : (0 ≤ sizeLine) = True := by decide
theorem sz1 : (1 ≤ sizeLine) = True := by decide
theorem sz2 : (2 ≤ sizeLine) = True := by decide
theorem sz3 : (3 ≤ sizeLine) = True := by decide
theorem sz4 : (4 ≤ sizeLine) = True := by decide
theorem sz5 : (5 ≤ sizeLine) = True := by decide
theorem sz6 : (6 ≤ sizeLine) = True := by decide
theorem sz7 : (7 ≤ sizeLine) = True := by decide
theorem sz8 : (8 ≤ sizeLine) = True := by decide
theorem n_boolC {b : Bool} {A B : Prop} : boolC (.bool b) A B = if b = true then A else B := rfl
theorem n_get0 {α : Type} {x : α} {xs : List α} : (x :: xs)[0]? = some x := rfl
theorem n_isT {T : Prop} [Decidable T] : (decide T = true) = T := decide_eq_true_eq
end DL

/-! Binary quadratic forms in plain Lean: steps, discriminants, roots. -/
namespace BQ
structure F where
  a : Int
  b : Int
  c : Int
  deriving DecidableEq
structure M where
  p : Int
  q : Int
  r : Int
  s : Int
  deriving DecidableEq
def F.disc (f : F) : Int := f.b * f.b - 4 * f.a * f.c
def F.val (f : F) (x y : Int) : Int := f.a * x * x + f.b * x * y + f.c * y * y
def F.by (f : F) (m : M) : F := ⟨f.val m.p m.r, 2 * f.a * m.p * m.q + f.b * (m.p * m.s + m.q * m.r) + 2 * f.c * m.r * m.s, f.val m.q m.s⟩
def M.mul (x y : M) : M := ⟨x.p * y.p + x.q * y.r, x.p * y.q + x.q * y.s, x.r * y.p + x.s * y.r, x.r * y.q + x.s * y.s⟩
def M.det (m : M) : Int := m.p * m.s - m.q * m.r
def M.one : M := ⟨1, 0, 0, 1⟩
def F.neg (f : F) : F := ⟨-f.a, -f.b, -f.c⟩
theorem F.ext {f g : F} (h1 : f.a = g.a) (h2 : f.b = g.b) (h3 : f.c = g.c) : f = g := by
  cases f; cases g; simp_all
theorem M.ext {f g : M} (h1 : f.p = g.p) (h2 : f.q = g.q) (h3 : f.r = g.r) (h4 : f.s = g.s) : f = g := by
  cases f; cases g; simp_all
theorem by_mul (f : F) (x y : M) : f.by (x.mul y) = (f.by x).by y := by
  apply F.ext <;> simp only [F.by, F.val, M.mul] <;> grind
theorem by_one (f : F) : f.by M.one = f := by
  apply F.ext <;> simp only [F.by, F.val, M.one] <;> grind
theorem det_mul (x y : M) : (x.mul y).det = x.det * y.det := by
  simp only [M.det, M.mul]; grind
theorem disc_by (f : F) (m : M) : (f.by m).disc = f.disc * (m.det * m.det) := by
  simp only [F.disc, F.by, F.val, M.det]; grind
theorem disc_by1 {f : F} {m : M} (h : m.det = 1) : (f.by m).disc = f.disc := by
  rw [disc_by, h]; simp
theorem one_mul_m (x : M) : M.one.mul x = x := by
  apply M.ext <;> simp only [M.mul, M.one] <;> grind
theorem mul_assoc_m (x y z : M) : (x.mul y).mul z = x.mul (y.mul z) := by
  apply M.ext <;> simp only [M.mul] <;> grind
theorem neg_by (f : F) (m : M) : f.neg.by m = (f.by m).neg := by
  apply F.ext <;> simp only [F.by, F.val, F.neg] <;> grind
theorem neg_disc (f : F) : f.neg.disc = f.disc := by
  simp only [F.disc, F.neg]; grind
theorem neg_neg (f : F) : f.neg.neg = f := by
  cases f; simp [F.neg]

/-! ### whole roots -/
open PySem in
theorem root8 : ∀ n : Nat, n < 8 → Float64.rootBelow8 n * Float64.rootBelow8 n ≤ n ∧ n < (Float64.rootBelow8 n + 1) * (Float64.rootBelow8 n + 1) := by decide
theorem sq_le {a b : Nat} (h : a ≤ b) : a * a ≤ b * b := Nat.mul_le_mul h h
theorem sq_lt {a b : Nat} (h : a * a < b * b) : a < b := Nat.lt_of_not_le fun z => Nat.not_lt.mpr (sq_le z) h
open PySem in
theorem rootHalves : ∀ (lv n : Nat), n.log2 ≤ lv + 2 → Float64.rootByHalves lv n * Float64.rootByHalves lv n ≤ n ∧ n < (Float64.rootByHalves lv n + 1) * (Float64.rootByHalves lv n + 1)
  | 0, n, h => by
    refine root8 n ?_
    by_cases h0 : n = 0
    · omega
    · have : n < 2 ^ 3 := (Nat.log2_lt h0).mp (by omega)
      omega
  | lv + 1, n, h => by
    unfold Float64.rootByHalves
    by_cases h8 : n < 8
    · rw [if_pos h8]
      exact root8 n h8
    · rw [if_neg h8]
      dsimp only
      have n0 : n ≠ 0 := by omega
      have hL : 3 ≤ n.log2 := (Nat.le_log2 n0).mpr (by omega)
      generalize hk : (n.log2 + 1) / 4 = k
      have k1 : 1 ≤ k := by omega
      have k4 : 4 * k ≤ n.log2 + 1 := by omega
      have p4 : 0 < 4 ^ k := Nat.pow_pos (by omega)
      have p2 : 0 < 2 ^ k := Nat.pow_pos (by omega)
      have e42 : 4 ^ k = 2 ^ k * 2 ^ k := by
        rw [show (4 : Nat) = 2 * 2 by rfl, Nat.mul_pow]
      have hlog : (n / 4 ^ k).log2 ≤ lv + 2 := by
        by_cases hz : n / 4 ^ k = 0
        · rw [hz]; simp
        · have h1 : n / 4 ^ k < 2 ^ (n.log2 + 1 - 2 * k) := by
            rw [Nat.div_lt_iff_lt_mul p4]
            have e : 2 ^ (n.log2 + 1 - 2 * k) * 4 ^ k = 2 ^ (n.log2 + 1) := by
              rw [show (4 : Nat) = 2 ^ 2 by rfl, ← Nat.pow_mul, ← Nat.pow_add]
              congr 1
              omega
            rw [e]
            exact Nat.lt_log2_self
          have := (Nat.log2_lt hz).mpr h1
          omega
      obtain ⟨i1, i2⟩ := rootHalves lv (n / 4 ^ k) hlog
      generalize Float64.rootByHalves lv (n / 4 ^ k) = r at i1 i2
      -- r * 2^k ≤ s < (r + 1) * 2^k
      have lo : (r * 2 ^ k) * (r * 2 ^ k) ≤ n := by
        have := Nat.mul_le_of_le_div _ _ _ i1
        rw [e42] at this
        calc (r * 2 ^ k) * (r * 2 ^ k) = r * r * (2 ^ k * 2 ^ k) := by grind
          _ ≤ n := this
      have hi : n < ((r + 1) * 2 ^ k) * ((r + 1) * 2 ^ k) := by
        have := (Nat.div_lt_iff_lt_mul p4).mp i2
        rw [e42] at this
        calc n < (r + 1) * (r + 1) * (2 ^ k * 2 ^ k) := this
          _ = _ := by grind
      generalize hx : (r + 1) * 2 ^ k = x at hi
      have ex : x = r * 2 ^ k + 2 ^ k := by rw [← hx]; grind
      have x0 : 0 < x := by omega
      generalize hq : n / x = q
      have q1 : q * x ≤ n := by rw [← hq]; exact Nat.div_mul_le_self n x
      have q2 : n < (q + 1) * x := by
        rw [← hq]
        have h1 := Nat.div_add_mod n x
        have h2 := Nat.mod_lt n x0
        have h3 : (n / x + 1) * x = x * (n / x) + x := by rw [Nat.add_mul, Nat.mul_comm, Nat.one_mul]
        omega
      generalize hy : (x + q) / 2 = y
      have y1 : 2 * y ≤ x + q := by omega
      have y2 : x + q < 2 * (y + 1) := by omega
      have up : n < (y + 1) * (y + 1) := by
        have h1 : 4 * (x * (q + 1)) ≤ (x + (q + 1)) * (x + (q + 1)) := by
          have e : (x + (q + 1)) * (x + (q + 1)) = 4 * (x * (q + 1)) + ((x : Int) - (q + 1)).natAbs * ((x : Int) - (q + 1)).natAbs := by
            have : (((x : Int) - (q + 1)).natAbs * ((x : Int) - (q + 1)).natAbs : Int) = ((x : Int) - (q + 1)) * ((x : Int) - (q + 1)) := by
              rw [← Int.natCast_mul, Int.natAbs_mul_self]
            have h2 : ((x + (q + 1) : Nat) * (x + (q + 1) : Nat) : Int) = 4 * ((x : Int) * (q + 1)) + ((x : Int) - (q + 1)) * ((x : Int) - (q + 1)) := by
              push_cast; grind
            rw [← this] at h2
            exact_mod_cast h2
          omega
        have h2 : (x + (q + 1)) * (x + (q + 1)) ≤ (2 * (y + 1)) * (2 * (y + 1)) := sq_le (by omega)
        have h3 : (2 * (y + 1)) * (2 * (y + 1)) = 4 * ((y + 1) * (y + 1)) := by grind
        have h4 : (q + 1) * x = x * (q + 1) := Nat.mul_comm _ _
        omega
      by_cases hyn : y * y > n
      · rw [if_pos hyn]
        have y0 : 0 < y := by
          rcases Nat.eq_zero_or_pos y with z | z
          · subst z; omega
          · exact z
        obtain ⟨z, rfl⟩ : ∃ z, y = z + 1 := ⟨y - 1, by omega⟩
        rw [Nat.add_sub_cancel]
        refine ⟨Nat.le_of_not_lt fun hz => ?_, hyn⟩
        have zx : z < x := by
          have : q < x := by
            refine Nat.lt_of_not_le fun w => ?_
            have := Nat.mul_le_mul w (Nat.le_refl x)
            omega
          omega
        have zr : r * 2 ^ k < z := sq_lt (Nat.lt_of_le_of_lt lo hz)
        obtain ⟨d, hd⟩ : ∃ d, x = z + d := ⟨x - z, by omega⟩
        have d2 : d < 2 ^ k := by omega
        have dd : d * d < 4 ^ k := by rw [e42]; exact Nat.mul_lt_mul_of_lt_of_lt d2 d2
        have key : 2 * x < d * d := by
          have h1 : (2 * z + 2) * x ≤ (x + q) * x := Nat.mul_le_mul (by omega) (Nat.le_refl _)
          have h2 : (x + q) * x = x * x + q * x := by grind
          have h3 : (2 * z + 2) * x = 2 * (z * x) + 2 * x := by grind
          have h4 : x * x = z * z + 2 * (z * d) + d * d := by rw [hd]; grind
          have h5 : z * x = z * z + z * d := by rw [hd]; grind
          omega
        have big : 4 ^ k ≤ 2 * x := by
          refine Nat.le_of_not_lt fun w => ?_
          have h1 : (2 * x) * (2 * x) < 4 ^ k * 4 ^ k := Nat.mul_lt_mul_of_lt_of_lt w w
          have h2 : 4 ^ k * 4 ^ k = 2 ^ (4 * k) := by
            rw [show (4 : Nat) ^ k = 2 ^ (2 * k) by rw [show (4 : Nat) = 2 ^ 2 by rfl, ← Nat.pow_mul], ← Nat.pow_add]
            congr 1
            omega
          have h3 : 2 ^ (4 * k) ≤ 2 ^ (n.log2 + 1) := Nat.pow_le_pow_right (by omega) k4
          have h4 : 2 ^ n.log2 ≤ n := Nat.log2_self_le n0
          have h5 : 2 ^ (n.log2 + 1) = 2 * 2 ^ n.log2 := by rw [Nat.pow_succ]; omega
          have h6 : (2 * x) * (2 * x) = 4 * (x * x) := by grind
          omega
        omega
      · rw [if_neg hyn]
        exact ⟨by omega, up⟩
open PySem in
theorem isqrt_ok (n : Nat) : Float64.isqrt n * Float64.isqrt n ≤ n ∧ n < (Float64.isqrt n + 1) * (Float64.isqrt n + 1) := rootHalves n.log2 n (by omega)
/-- the whole root -/
theorem root_unique {n r s : Nat} (h1 : r * r ≤ n) (h2 : n < (r + 1) * (r + 1)) (h3 : s * s ≤ n) (h4 : n < (s + 1) * (s + 1)) : r = s := by
  have a := sq_lt (Nat.lt_of_le_of_lt h1 h4)
  have b := sq_lt (Nat.lt_of_le_of_lt h3 h2)
  omega
end BQ

/-! The right neighbour of an indefinite form. -/
namespace BQ
def rt (D : Int) : Int := ((PySem.Float64.isqrt D.toNat : Nat) : Int)
theorem n_rt {D : Int} : ((PySem.Float64.isqrt D.toNat : Nat) : Int) = rt D := rfl
theorem rt_ok {D : Int} (h : 0 ≤ D) : 0 ≤ rt D ∧ rt D * rt D ≤ D ∧ D < (rt D + 1) * (rt D + 1) := by
  obtain ⟨h1, h2⟩ := isqrt_ok D.toNat
  have e : (D.toNat : Int) = D := Int.toNat_of_nonneg h
  refine ⟨Int.natCast_nonneg _, ?_, ?_⟩
  · rw [← e]; unfold rt; rw [Int.toNat_natCast]; exact_mod_cast h1
  · rw [← e]; unfold rt; rw [Int.toNat_natCast]; exact_mod_cast h2
theorem sqle {a b : Int} (h0 : 0 ≤ a) (h : a ≤ b) : a * a ≤ b * b := Int.mul_le_mul h h h0 (by omega)
theorem sqlt {a b : Int} (hb : 0 ≤ b) (h : a * a < b * b) : a < b := by
  refine Int.lt_of_not_ge fun z => ?_
  have := sqle hb z
  omega
theorem sqpos (a : Int) : 0 ≤ a * a := by
  rcases Int.le_total 0 a with h | h
  · exact Int.mul_nonneg h h
  · exact Int.mul_nonneg_of_nonpos_of_nonpos h h
theorem rt_unique {D r : Int} (h0 : 0 ≤ r) (h1 : r * r ≤ D) (h2 : D < (r + 1) * (r + 1)) : rt D = r := by
  have hD : 0 ≤ D := Int.le_trans (sqpos r) h1
  obtain ⟨k0, k1, k2⟩ := rt_ok hD
  have a := sqlt (by omega) (Int.lt_of_le_of_lt h1 k2)
  have b := sqlt (by omega) (Int.lt_of_le_of_lt k1 h2)
  omega
/-- an indefinite form's discriminant: above 0, no square; r its whole root -/
structure Ind (D r : Int) : Prop where
  pos : 0 < D
  r0 : 0 < r
  lo : r * r < D
  hi : D < (r + 1) * (r + 1)
theorem Ind.nosq {D r : Int} (h : Ind D r) (b : Int) : b * b ≠ D := by
  intro e
  have key : ∀ b : Int, 0 ≤ b → b * b ≠ D := by
    intro b hb e
    have h1 := h.lo
    have h2 := h.hi
    have hr := h.r0
    rw [← e] at h1 h2
    have a := sqlt hb h1
    have c := sqlt (by omega) h2
    omega
  rcases Int.le_total 0 b with hb | hb
  · exact key b hb e
  · exact key (-b) (by omega) (by rw [← e]; grind)
theorem ind_of {D : Int} (h : 0 < D) (hs : rt D * rt D ≠ D) : Ind D (rt D) := by
  obtain ⟨k0, k1, k2⟩ := rt_ok (Int.le_of_lt h)
  refine ⟨h, ?_, by omega, k2⟩
  rcases Int.lt_or_eq_of_le k0 with z | z
  · exact z
  · rw [← z] at k2 hs; omega
theorem Ind.rt {D r : Int} (h : Ind D r) : rt D = r := rt_unique (Int.le_of_lt h.r0) (Int.le_of_lt h.lo) h.hi
theorem Ind.c0 {f : F} {r : Int} (h : Ind f.disc r) : f.c ≠ 0 := by
  intro e
  apply h.nosq f.b
  simp only [F.disc, e]; grind
theorem Ind.a0 {f : F} {r : Int} (h : Ind f.disc r) : f.a ≠ 0 := by
  intro e
  apply h.nosq f.b
  simp only [F.disc, e]; grind
/-- the middle item of the right neighbour -/
def mid (r : Int) (f : F) : Int := if (f.c.natAbs : Int) ≤ r then r - (r + f.b).fmod (2 * f.c.natAbs) else f.c.natAbs - (f.c.natAbs + f.b).fmod (2 * f.c.natAbs)
def tt (r : Int) (f : F) : Int := (f.b + mid r f).fdiv (2 * f.c)
def T (t : Int) : M := ⟨0, -1, 1, t⟩
theorem T_det (t : Int) : (T t).det = 1 := by simp only [M.det, T]; grind
def nxt (r : Int) (f : F) : F := f.by (T (tt r f))
theorem nxt_disc (r : Int) (f : F) : (nxt r f).disc = f.disc := disc_by1 (T_det _)
theorem by_T (f : F) (t : Int) : f.by (T t) = ⟨f.c, 2 * f.c * t - f.b, f.a - f.b * t + f.c * t * t⟩ := by
  apply F.ext <;> simp only [F.by, F.val, T] <;> grind
theorem mid_div (r : Int) (f : F) (hc : f.c ≠ 0) : ∃ k, f.b + mid r f = 2 * f.c * k := by
  have key : ∀ x : Int, ∃ k, f.b + (x - (x + f.b).fmod (2 * f.c.natAbs)) = 2 * f.c * k := by
    intro x
    have e := Int.mul_fdiv_add_fmod (x + f.b) (2 * f.c.natAbs)
    rcases Int.natAbs_eq f.c with h | h
    · refine ⟨(x + f.b).fdiv (2 * f.c.natAbs), ?_⟩
      have : 2 * f.c * (x + f.b).fdiv (2 * f.c.natAbs) = 2 * (f.c.natAbs : Int) * (x + f.b).fdiv (2 * f.c.natAbs) := by rw [← h]
      omega
    · refine ⟨-(x + f.b).fdiv (2 * f.c.natAbs), ?_⟩
      have h' : f.c = -(f.c.natAbs : Int) := h
      have : 2 * f.c * -(x + f.b).fdiv (2 * f.c.natAbs) = 2 * (f.c.natAbs : Int) * (x + f.b).fdiv (2 * f.c.natAbs) := by
        generalize (x + f.b).fdiv (2 * f.c.natAbs) = z
        rw [show 2 * f.c * -z = 2 * (-f.c) * z by grind, show -f.c = (f.c.natAbs : Int) by omega]
      omega
  unfold mid
  split
  · exact key r
  · exact key _
theorem fdiv_mul {x k : Int} (h : x ≠ 0) : (x * k).fdiv x = k := by
  rw [Int.mul_comm]
  exact Int.mul_fdiv_cancel k h
theorem tt_mul {r : Int} {f : F} (hc : f.c ≠ 0) : 2 * f.c * tt r f = f.b + mid r f := by
  obtain ⟨k, hk⟩ := mid_div r f hc
  unfold tt
  rw [hk, fdiv_mul (by omega)]
theorem nxt_eq {r : Int} {f : F} (hc : f.c ≠ 0) : (nxt r f).a = f.c ∧ (nxt r f).b = mid r f := by
  unfold nxt
  rw [by_T]
  have := tt_mul (r := r) hc
  exact ⟨rfl, by show 2 * f.c * tt r f - f.b = _; omega⟩
theorem nxt_c {r : Int} {f : F} (hc : f.c ≠ 0) : 4 * f.c * (nxt r f).c = mid r f * mid r f - f.disc := by
  have h := nxt_disc r f
  obtain ⟨h1, h2⟩ := nxt_eq (r := r) hc
  unfold F.disc at h
  rw [h1, h2] at h
  unfold F.disc
  omega
theorem fmod_lt' {x w : Int} (h : 0 < w) : 0 ≤ x.fmod w ∧ x.fmod w < w := ⟨Int.fmod_nonneg_of_pos x h, Int.fmod_lt_of_pos x h⟩
theorem mid_in {r : Int} {f : F} (hc : f.c ≠ 0) (h : (f.c.natAbs : Int) ≤ r) : r - 2 * f.c.natAbs < mid r f ∧ mid r f ≤ r := by
  unfold mid
  rw [if_pos h]
  have := fmod_lt' (x := r + f.b) (w := 2 * f.c.natAbs) (by omega)
  omega
theorem mid_out {r : Int} {f : F} (hc : f.c ≠ 0) (h : ¬ (f.c.natAbs : Int) ≤ r) : -(f.c.natAbs : Int) < mid r f ∧ mid r f ≤ f.c.natAbs := by
  unfold mid
  rw [if_neg h]
  have := fmod_lt' (x := (f.c.natAbs : Int) + f.b) (w := 2 * f.c.natAbs) (by omega)
  omega
/-- reduced -/
def Red (r : Int) (f : F) : Prop := 0 < f.b ∧ f.b ≤ r ∧ r < 2 * f.a.natAbs + f.b ∧ 2 * (f.a.natAbs : Int) - f.b ≤ r
instance (r : Int) (f : F) : Decidable (Red r f) := by unfold Red; infer_instance
section
variable {f : F} {r : Int}
theorem Red.ac (h : Red r f) (I : Ind f.disc r) : 4 * (f.a.natAbs : Int) * f.c.natAbs = f.disc - f.b * f.b ∧ f.a * f.c < 0 := by
  have h1 : f.b * f.b < f.disc := Int.lt_of_le_of_lt (sqle (Int.le_of_lt h.1) h.2.1) I.lo
  have e : f.disc = f.b * f.b - 4 * (f.a * f.c) := by unfold F.disc; grind
  have neg : f.a * f.c < 0 := by omega
  refine ⟨?_, neg⟩
  have : (f.a.natAbs : Int) * f.c.natAbs = ((f.a * f.c).natAbs : Int) := by rw [Int.natAbs_mul]; rfl
  have h2 : 4 * (f.a.natAbs : Int) * f.c.natAbs = 4 * ((f.a.natAbs : Int) * f.c.natAbs) := by grind
  omega
theorem Red.c_in (h : Red r f) (I : Ind f.disc r) : r + 1 - f.b ≤ 2 * f.c.natAbs ∧ 2 * (f.c.natAbs : Int) ≤ r + f.b := by
  obtain ⟨e, _⟩ := h.ac I
  obtain ⟨b0, br, h1, h2⟩ := h
  have lo := I.lo
  have hi := I.hi
  have A0 : 0 ≤ (f.a.natAbs : Int) := by omega
  have C0 : 0 ≤ (f.c.natAbs : Int) := by omega
  generalize (f.a.natAbs : Int) = A at *
  generalize (f.c.natAbs : Int) = C at *
  generalize f.disc = D at *
  generalize f.b = b at *
  have e2 : (2 * A) * (2 * C) = D - b * b := by rw [← e]; grind
  constructor
  · refine Int.le_of_not_gt fun z => ?_
    have : (2 * A) * (2 * C) ≤ (r + b) * (r - b) := Int.mul_le_mul (by omega) (by omega) (by omega) (by omega)
    have e3 : (r + b) * (r - b) = r * r - b * b := by grind
    omega
  · refine Int.le_of_not_gt fun z => ?_
    have : (r + 1 - b) * (r + 1 + b) ≤ (2 * A) * (2 * C) := Int.mul_le_mul (by omega) (by omega) (by omega) (by omega)
    have e3 : (r + 1 - b) * (r + 1 + b) = (r + 1) * (r + 1) - b * b := by grind
    omega
theorem Red.c_le (h : Red r f) (I : Ind f.disc r) : (f.c.natAbs : Int) ≤ r := by
  have := (h.c_in I).2
  have := h.2.1
  omega
theorem Red.a_le (h : Red r f) : (f.a.natAbs : Int) ≤ r := by
  obtain ⟨h1, h2, h3, h4⟩ := h
  omega
/-- b, and what follows, modulo 2 c -/
theorem mid_ge (hc : f.c ≠ 0) (h : (f.c.natAbs : Int) ≤ r) (h2 : 2 * (f.c.natAbs : Int) - f.b ≤ r) : 2 * (f.c.natAbs : Int) - f.b ≤ mid r f := by
  unfold mid
  rw [if_pos h]
  have e := Int.mul_fdiv_add_fmod (r + f.b) (2 * f.c.natAbs)
  have k1 : 1 ≤ (r + f.b).fdiv (2 * f.c.natAbs) := by
    refine Int.le_of_not_gt fun z => ?_
    have : 2 * (f.c.natAbs : Int) * (r + f.b).fdiv (2 * f.c.natAbs) ≤ 2 * (f.c.natAbs : Int) * 0 := Int.mul_le_mul_of_nonneg_left (by omega) (by omega)
    have := fmod_lt' (x := r + f.b) (w := 2 * f.c.natAbs) (by omega)
    omega
  have : 2 * (f.c.natAbs : Int) * 1 ≤ 2 * f.c.natAbs * (r + f.b).fdiv (2 * f.c.natAbs) := Int.mul_le_mul_of_nonneg_left k1 (by omega)
  omega
theorem Red.nxt (h : Red r f) (I : Ind f.disc r) : Red r (nxt r f) := by
  obtain ⟨ea, eb⟩ := nxt_eq (r := r) I.c0
  have hc := h.c_in I
  have cl := h.c_le I
  have m1 := mid_in I.c0 cl
  have m2 := mid_ge I.c0 cl (by omega)
  obtain ⟨b0, br, h1, h2⟩ := h
  unfold Red
  rw [ea, eb]
  omega
theorem Red.small (hc : f.c ≠ 0) (h : 2 * (f.c.natAbs : Int) ≤ r) : Red r (BQ.nxt r f) := by
  obtain ⟨ea, eb⟩ := nxt_eq (r := r) hc
  have m1 := mid_in (r := r) hc (by omega)
  unfold Red
  rw [ea, eb]
  omega
theorem F.eq_of {f g : F} (ha : f.a = g.a) (hb : f.b = g.b) (hd : f.disc = g.disc) (h0 : f.a ≠ 0) : f = g := by
  refine F.ext ha hb ?_
  unfold F.disc at hd
  rw [← ha, ← hb] at hd
  have : 4 * f.a * f.c = 4 * f.a * g.c := by omega
  exact Int.eq_of_mul_eq_mul_left (by omega) this
/-- two numbers in a window that differ by a multiple of its width -/
theorem window {w x y k : Int} {lo : Int} (hw : 0 < w) (h1 : lo < x) (h2 : x ≤ lo + w) (h3 : lo < y) (h4 : y ≤ lo + w) (e : x - y = w * k) : x = y := by
  have : -w < w * k := by omega
  have : w * k < w := by omega
  have k1 : k < 1 := by
    refine Int.lt_of_not_ge fun z => ?_
    have := Int.mul_le_mul_of_nonneg_left z (Int.le_of_lt hw)
    omega
  have k2 : -1 < k := by
    refine Int.lt_of_not_ge fun z => ?_
    have := Int.mul_le_mul_of_nonneg_left z (Int.le_of_lt hw)
    omega
  have : k = 0 := by omega
  subst this
  omega
theorem nxt_inj {g : F} (hf : Red r f) (hg : Red r g) (I : Ind f.disc r) (hd : f.disc = g.disc) (e : BQ.nxt r f = BQ.nxt r g) : f = g := by
  have J : Ind g.disc r := hd ▸ I
  obtain ⟨fa, fb⟩ := nxt_eq (r := r) I.c0
  obtain ⟨ga, gb⟩ := nxt_eq (r := r) J.c0
  have ec : f.c = g.c := by rw [← fa, ← ga, e]
  have em : mid r f = mid r g := by rw [← fb, ← gb, e]
  have tf := tt_mul (r := r) I.c0
  have tg := tt_mul (r := r) J.c0
  have c1 := hf.c_in I
  have c2 := hg.c_in J
  have b1 := hf.2.1
  have b2 := hg.2.1
  have eb : f.b = g.b := by
    rcases Int.natAbs_eq f.c with h | h
    · refine window (w := 2 * f.c.natAbs) (k := tt r f - tt r g) (lo := r - 2 * f.c.natAbs) (by have := I.c0; omega) (by omega) (by omega) (by rw [ec]; omega) (by omega) ?_
      rw [← h, Int.mul_sub]
      rw [← ec] at tg
      omega
    · refine window (w := 2 * f.c.natAbs) (k := tt r g - tt r f) (lo := r - 2 * f.c.natAbs) (by have := I.c0; omega) (by omega) (by omega) (by rw [ec]; omega) (by omega) ?_
      have h' : (f.c.natAbs : Int) = -f.c := by omega
      rw [h', Int.mul_sub, show 2 * -f.c * tt r g = -(2 * f.c * tt r g) by grind, show 2 * -f.c * tt r f = -(2 * f.c * tt r f) by grind]
      rw [← ec] at tg
      omega
  refine F.ext ?_ eb ec
  unfold F.disc at hd
  rw [← eb, ← ec] at hd
  have : f.c * f.a = f.c * g.a := by
    have e1 : 4 * f.a * f.c = 4 * (f.c * f.a) := by grind
    have e2 : 4 * g.a * f.c = 4 * (f.c * g.a) := by grind
    omega
  exact Int.eq_of_mul_eq_mul_left I.c0 this
end
end BQ

/-! Reduction comes to an end; rings of reduced forms. -/
namespace BQ
section
variable {f : F} {r : Int}
/-- how far from reduced -/
def mu (r : Int) (f : F) : Nat := if Red r f then 0 else if 2 * (f.c.natAbs : Int) ≤ r then 1 else if (f.c.natAbs : Int) ≤ r then 2 else 3 + f.c.natAbs.log2
theorem mu_le (r : Int) (f : F) : mu r f ≤ 3 + f.c.natAbs.log2 := by
  unfold mu
  split
  · omega
  split
  · omega
  split <;> omega
theorem abs4 (x y : Int) : 4 * (x.natAbs : Int) * y.natAbs = ((4 * x * y).natAbs : Int) := by
  rw [Int.natAbs_mul, Int.natAbs_mul]
  push_cast
  rfl
/-- the far case -/
theorem far_c (I : Ind f.disc r) (h : ¬ (f.c.natAbs : Int) ≤ r) : 4 * ((nxt r f).c.natAbs : Int) ≤ f.c.natAbs := by
  have e := nxt_c (r := r) I.c0
  have m := mid_out (r := r) I.c0 h
  have hi := I.hi
  have pos := I.pos
  have r0 := I.r0
  have ea := abs4 f.c (nxt r f).c
  rw [e] at ea
  have c0 : 0 < (f.c.natAbs : Int) := by have := I.c0; omega
  generalize (f.c.natAbs : Int) = C at *
  generalize ((nxt r f).c.natAbs : Int) = C' at *
  generalize mid r f = e1 at *
  generalize f.disc = D at *
  have h1 : (r + 1) * (r + 1) ≤ C * C := sqle (by omega) (by omega)
  have h2 : e1 * e1 ≤ C * C := by
    rcases Int.le_total 0 e1 with z | z
    · exact sqle z m.2
    · have := sqle (a := -e1) (b := C) (by omega) (by omega)
      rw [show -e1 * -e1 = e1 * e1 by grind] at this
      exact this
  have h3 := sqpos e1
  have h4 : C * (4 * C') ≤ C * C := by
    rw [show C * (4 * C') = 4 * C * C' by grind]
    omega
  exact Int.le_of_mul_le_mul_left h4 c0
/-- the middle case -/
theorem mid_c (I : Ind f.disc r) (h : (f.c.natAbs : Int) ≤ r) (h2 : ¬ 2 * (f.c.natAbs : Int) ≤ r) : 2 * ((nxt r f).c.natAbs : Int) ≤ r := by
  have e := nxt_c (r := r) I.c0
  have m := mid_in (r := r) I.c0 h
  have hi := I.hi
  have lo := I.lo
  have r0 := I.r0
  have ea := abs4 f.c (nxt r f).c
  rw [e] at ea
  have c0 : 0 < (f.c.natAbs : Int) := by have := I.c0; omega
  generalize (f.c.natAbs : Int) = C at *
  have z0 : 0 ≤ ((nxt r f).c.natAbs : Int) := by omega
  generalize ((nxt r f).c.natAbs : Int) = C' at *
  generalize mid r f = e1 at *
  generalize f.disc = D at *
  have h3 := sqpos e1
  have h4 : e1 * e1 ≤ r * r := by
    rcases Int.le_total 0 e1 with z | z
    · exact sqle z m.2
    · have := sqle (a := -e1) (b := r) (by omega) (by omega)
      rw [show -e1 * -e1 = e1 * e1 by grind] at this
      exact this
  refine Int.le_of_not_gt fun z => ?_
  have h5 : (r + 1) * (r + 1) ≤ (2 * C) * (2 * C') := Int.mul_le_mul (by omega) (by omega) (by omega) (by omega)
  have h6 : (2 * C) * (2 * C') = 4 * C * C' := by grind
  omega
theorem mu_lt (I : Ind f.disc r) (h : ¬ Red r f) : mu r (nxt r f) < mu r f := by
  by_cases h1 : 2 * (f.c.natAbs : Int) ≤ r
  · have e : mu r f = 1 := by unfold mu; rw [if_neg h, if_pos h1]
    have e2 : mu r (nxt r f) = 0 := by unfold mu; rw [if_pos (Red.small I.c0 h1)]
    omega
  by_cases h2 : (f.c.natAbs : Int) ≤ r
  · have e : mu r f = 2 := by unfold mu; rw [if_neg h, if_neg h1, if_pos h2]
    have e2 : mu r (nxt r f) ≤ 1 := by
      unfold mu
      split
      · omega
      · rw [if_pos (mid_c I h2 h1)]; omega
    omega
  · have e : mu r f = 3 + f.c.natAbs.log2 := by unfold mu; rw [if_neg h, if_neg h1, if_neg h2]
    have h4 := far_c I h2
    have J : Ind (nxt r f).disc r := by rw [nxt_disc]; exact I
    have n0 : (nxt r f).c.natAbs ≠ 0 := by have := J.c0; omega
    have m0 : f.c.natAbs ≠ 0 := by have := I.c0; omega
    have := mu_le r (nxt r f)
    have h5 : (nxt r f).c.natAbs.log2 + 1 ≤ f.c.natAbs.log2 := by
      rw [Nat.le_log2 m0, Nat.pow_succ]
      have := Nat.log2_self_le n0
      omega
    omega
/-- what stays small on the way -/
def Way (B r : Int) (f : F) : Prop := Red r f ∨ ((f.b.natAbs : Int) ≤ B ∧ (f.c.natAbs : Int) ≤ B)
theorem way_b (I : Ind f.disc r) (h : (f.c.natAbs : Int) ≤ B) (hr : r ≤ B) : ((nxt r f).b.natAbs : Int) ≤ B := by
  rw [(nxt_eq (r := r) I.c0).2]
  have r0 := I.r0
  by_cases h1 : (f.c.natAbs : Int) ≤ r
  · have := mid_in (r := r) I.c0 h1
    omega
  · have := mid_out (r := r) I.c0 h1
    omega
theorem Way.nxt {B : Int} (W : Way B r f) (I : Ind f.disc r) (hr : r ≤ B) (h : ¬ Red r f) : Way B r (nxt r f) := by
  obtain ⟨hb, hc⟩ := W.resolve_left h
  by_cases h1 : 2 * (f.c.natAbs : Int) ≤ r
  · exact .inl (Red.small I.c0 h1)
  · refine .inr ⟨way_b I hc hr, ?_⟩
    by_cases h2 : (f.c.natAbs : Int) ≤ r
    · have := mid_c I h2 h1; omega
    · have := far_c I h2; omega
theorem tt_le {B : Int} (I : Ind f.disc r) (hb : (f.b.natAbs : Int) ≤ B) (hc : (f.c.natAbs : Int) ≤ B) (hr : r ≤ B) : ((tt r f).natAbs : Int) ≤ B := by
  have e := tt_mul (r := r) I.c0
  have m := way_b I hc hr
  rw [(nxt_eq (r := r) I.c0).2] at m
  have h1 : ((2 * f.c * tt r f).natAbs : Int) = 2 * f.c.natAbs * (tt r f).natAbs := by
    rw [Int.natAbs_mul, Int.natAbs_mul]; push_cast; rfl
  have c0 := I.c0
  rw [e] at h1
  have h2 : 2 * (1 : Int) * (tt r f).natAbs ≤ 2 * f.c.natAbs * (tt r f).natAbs := Int.mul_le_mul_of_nonneg_right (by omega) (by omega)
  omega
/-! ### great steps -/
/-- the items are at most 2 ^ k -/
def Mb (k : Nat) (m : M) : Prop := m.p.natAbs ≤ 2 ^ k ∧ m.q.natAbs ≤ 2 ^ k ∧ m.r.natAbs ≤ 2 ^ k ∧ m.s.natAbs ≤ 2 ^ k
theorem Mb.one : Mb 0 M.one := by unfold Mb M.one; decide
theorem Mb.mono {j k : Nat} {m : M} (h : Mb j m) (l : j ≤ k) : Mb k m := by
  have := Nat.pow_le_pow_right (n := 2) (by omega) l
  obtain ⟨h1, h2, h3, h4⟩ := h
  exact ⟨Nat.le_trans h1 this, Nat.le_trans h2 this, Nat.le_trans h3 this, Nat.le_trans h4 this⟩
theorem bit_mul {a b : Int} {j k : Nat} (ha : a.natAbs ≤ 2 ^ j) (hb : b.natAbs ≤ 2 ^ k) : (a * b).natAbs ≤ 2 ^ (j + k) := by
  rw [Int.natAbs_mul, Nat.pow_add]
  exact Nat.mul_le_mul ha hb
theorem Mb.T {j k : Nat} {m : M} {t : Int} (h : Mb j m) (ht : t.natAbs + 1 ≤ 2 ^ k) : Mb (j + k) (m.mul (T t)) := by
  have key : ∀ x y : Int, x.natAbs ≤ 2 ^ j → y.natAbs ≤ 2 ^ j → (x * -1 + y * t).natAbs ≤ 2 ^ (j + k) := by
    intro x y hx hy
    have h1 : (x * -1 + y * t).natAbs ≤ x.natAbs + (y * t).natAbs := by omega
    have h2 : (y * t).natAbs ≤ 2 ^ j * t.natAbs := by rw [Int.natAbs_mul]; exact Nat.mul_le_mul hy (Nat.le_refl _)
    have h3 : 2 ^ j * (t.natAbs + 1) ≤ 2 ^ j * 2 ^ k := Nat.mul_le_mul (Nat.le_refl _) ht
    rw [Nat.pow_add]
    rw [Nat.mul_add] at h3
    omega
  have key2 : ∀ x y : Int, y.natAbs ≤ 2 ^ j → (x * 0 + y * 1).natAbs ≤ 2 ^ (j + k) := by
    intro x y hy
    have : 2 ^ j * 1 ≤ 2 ^ j * 2 ^ k := Nat.mul_le_mul (Nat.le_refl _) (Nat.pow_pos (by omega))
    rw [Nat.pow_add]
    simp only [Int.mul_zero, Int.zero_add, Int.mul_one]
    omega
  obtain ⟨h1, h2, h3, h4⟩ := h
  exact ⟨key2 _ _ h2, key _ _ h1 h2, key2 _ _ h4, key _ _ h3 h4⟩
theorem Mb.mul {j k : Nat} {m n : M} (h : Mb j m) (h' : Mb k n) : Mb (j + k + 1) (m.mul n) := by
  have key : ∀ a b c d : Int, a.natAbs ≤ 2 ^ j → b.natAbs ≤ 2 ^ k → c.natAbs ≤ 2 ^ j → d.natAbs ≤ 2 ^ k → (a * b + c * d).natAbs ≤ 2 ^ (j + k + 1) := by
    intro a b c d ha hb hc hd
    have h1 := bit_mul ha hb
    have h2 := bit_mul hc hd
    rw [Nat.pow_succ]
    omega
  obtain ⟨h1, h2, h3, h4⟩ := h
  obtain ⟨k1, k2, k3, k4⟩ := h'
  exact ⟨key _ _ _ _ h1 k1 h2 k3, key _ _ _ _ h1 k2 h2 k4, key _ _ _ _ h3 k1 h4 k3, key _ _ _ _ h3 k2 h4 k4⟩
end
/-! ### going on and on -/
def it (r : Int) : Nat → F → F
  | 0, f => f
  | n + 1, f => nxt r (it r n f)
theorem it_succ' (r : Int) : ∀ (n : Nat) (f : F), it r (n + 1) f = it r n (nxt r f)
  | 0, _ => rfl
  | n + 1, f => congrArg (nxt r) (it_succ' r n f)
theorem it_add (r : Int) (f : F) (m : Nat) : ∀ n : Nat, it r (n + m) f = it r n (it r m f)
  | 0 => by rw [Nat.zero_add]; rfl
  | n + 1 => by rw [Nat.succ_add]; exact congrArg (nxt r) (it_add r f m n)
structure Rd (D r : Int) (f : F) : Prop where
  d : f.disc = D
  i : Ind D r
  red : Red r f
theorem Rd.nxt {D r : Int} {f : F} (h : Rd D r f) : Rd D r (nxt r f) := ⟨by rw [nxt_disc]; exact h.d, h.i, h.red.nxt (h.d ▸ h.i)⟩
theorem Rd.it {D r : Int} {f : F} (h : Rd D r f) : ∀ n, Rd D r (it r n f)
  | 0 => h
  | n + 1 => (Rd.it h n).nxt
theorem Rd.inj {D r : Int} {f g : F} (h : Rd D r f) (h' : Rd D r g) (e : BQ.nxt r f = BQ.nxt r g) : f = g := nxt_inj h.red h'.red (h.d ▸ h.i) (h.d.trans h'.d.symm) e
theorem Rd.it_inj {D r : Int} {f g : F} (h : Rd D r f) (h' : Rd D r g) : ∀ n, BQ.it r n f = BQ.it r n g → f = g
  | 0, e => e
  | n + 1, e => Rd.it_inj h h' n ((h.it n).inj (h'.it n) e)
theorem Rd.back {D r : Int} {f : F} (h : Rd D r f) {i j : Nat} (l : i ≤ j) (e : BQ.it r i f = BQ.it r j f) : BQ.it r (j - i) f = f := by
  have : BQ.it r j f = BQ.it r i (BQ.it r (j - i) f) := by rw [← it_add]; congr 1; omega
  rw [this] at e
  exact ((h.it_inj (h.it (j - i)) i e)).symm
/-! too many for their numbers -/
theorem pigeon : ∀ (B : Nat) (u : Nat → Nat), (∀ i, i ≤ B → u i < B) → ∃ i j, i < j ∧ j ≤ B ∧ u i = u j
  | 0, u, h => absurd (h 0 (Nat.le_refl _)) (Nat.not_lt_zero _)
  | B + 1, u, h => by
    by_cases hx : ∃ i, i ≤ B ∧ u i = u (B + 1)
    · obtain ⟨i, h1, h2⟩ := hx
      exact ⟨i, B + 1, by omega, Nat.le_refl _, h2⟩
    · have no : ∀ i, i ≤ B → u i ≠ u (B + 1) := fun i hi e => hx ⟨i, hi, e⟩
      obtain ⟨i, j, h1, h2, h3⟩ := pigeon B (fun i => if u i = B then u (B + 1) else u i) fun i hi => by
        have a := h i (by omega)
        have b := h (B + 1) (Nat.le_refl _)
        have c := no i hi
        show (if u i = B then u (B + 1) else u i) < B
        split <;> omega
      have h3 : (if u i = B then u (B + 1) else u i) = (if u j = B then u (B + 1) else u j) := h3
      have c1 := no i (by omega)
      have c2 := no j h2
      refine ⟨i, j, h1, by omega, ?_⟩
      split at h3 <;> split at h3 <;> omega
theorem nodup_len {l : List Nat} {B : Nat} (h : l.Nodup) (hB : ∀ x ∈ l, x < B) : l.length ≤ B := by
  refine Nat.le_of_not_lt fun z => ?_
  obtain ⟨i, j, h1, h2, h3⟩ := pigeon B (fun i => l.getD i 0) fun i hi => by
    have hl : i < l.length := by omega
    show l.getD i 0 < B
    rw [List.getD_eq_getElem?_getD, List.getElem?_eq_getElem hl]
    exact hB _ (List.getElem_mem hl)
  have hi : i < l.length := by omega
  have hj : j < l.length := by omega
  have h3 : l.getD i 0 = l.getD j 0 := h3
  rw [List.getD_eq_getElem?_getD, List.getD_eq_getElem?_getD, List.getElem?_eq_getElem hi, List.getElem?_eq_getElem hj] at h3
  have h3 : l[i] = l[j] := h3
  have := (List.getElem_inj h).mp h3
  omega
theorem least {p : Nat → Prop} [DecidablePred p] {n : Nat} (h : p n) : ∃ m, m ≤ n ∧ p m ∧ ∀ i, i < m → ¬ p i := by
  induction n using Nat.strongRecOn with
  | _ n ih =>
    by_cases hx : ∃ m, m < n ∧ p m
    · obtain ⟨m, h1, h2⟩ := hx
      obtain ⟨k, k1, k2⟩ := ih m h1 h2
      exact ⟨k, by omega, k2⟩
    · exact ⟨n, Nat.le_refl _, h, fun i hi z => hx ⟨i, hi, z⟩⟩
/-- a reduced form's number -/
def code (r : Int) (f : F) : Nat := (f.a + r).toNat * (r.toNat / 2 + 1) + (f.b / 2).toNat
def room (r : Int) : Nat := (2 * r.toNat + 1) * (r.toNat / 2 + 1)
theorem div_unique {w x y u v : Nat} (hu : u < w) (hv : v < w) (e : x * w + u = y * w + v) : x = y ∧ u = v := by
  have h1 : (x * w + u) / w = x := by
    rw [Nat.mul_comm, Nat.mul_add_div (by omega), Nat.div_eq_of_lt hu, Nat.add_zero]
  have h2 : (y * w + v) / w = y := by
    rw [Nat.mul_comm, Nat.mul_add_div (by omega), Nat.div_eq_of_lt hv, Nat.add_zero]
  have : x = y := by rw [← h1, ← h2, e]
  subst this
  exact ⟨rfl, by omega⟩
theorem code_lt {D r : Int} {f : F} (h : Rd D r f) : code r f < room r := by
  have ha := h.red.a_le
  have hb := h.red.1
  have hb2 := h.red.2.1
  unfold code room
  have h1 : (f.a + r).toNat ≤ 2 * r.toNat := by omega
  have h2 : (f.b / 2).toNat < r.toNat / 2 + 1 := by omega
  have h3 := Nat.mul_le_mul h1 (Nat.le_refl (r.toNat / 2 + 1))
  rw [Nat.add_mul]
  omega
theorem sq_par (b : Int) : (b * b) % 2 = b % 2 := by
  have h1 : b % 2 = 0 ∨ b % 2 = 1 := by omega
  rcases h1 with h | h <;> simp [Int.mul_emod, h]
theorem b_par (f : F) : f.disc % 2 = f.b % 2 := by
  have e : f.disc = f.b * f.b - 2 * (2 * (f.a * f.c)) := by unfold F.disc; grind
  have := sq_par f.b
  omega
theorem code_inj {D r : Int} {f g : F} (h : Rd D r f) (h' : Rd D r g) (e : code r f = code r g) : f = g := by
  have a1 := h.red.a_le
  have a2 := h'.red.a_le
  have b1 := h.red.1
  have b2 := h'.red.1
  have b3 := h.red.2.1
  have b4 := h'.red.2.1
  obtain ⟨e1, e2⟩ := div_unique (by omega) (by omega) e
  have p1 := b_par f
  have p2 := b_par g
  rw [h.d] at p1
  rw [h'.d] at p2
  exact F.eq_of (by omega) (by omega) (h.d.trans h'.d.symm) (Ind.a0 (h.d ▸ h.i))
/-- the ring closes -/
structure Per (r : Int) (f : F) (p : Nat) : Prop where
  pos : 0 < p
  back : it r p f = f
  first : ∀ i, 0 < i → i < p → it r i f ≠ f
theorem Rd.per {D r : Int} {f : F} (h : Rd D r f) : ∃ p, p ≤ room r ∧ Per r f p := by
  obtain ⟨i, j, h1, h2, h3⟩ := pigeon (room r) (fun i => code r (BQ.it r i f)) fun i _ => code_lt (h.it i)
  have e := h.back (Nat.le_of_lt h1) (code_inj (h.it i) (h.it j) h3)
  obtain ⟨p, p1, p2, p3⟩ := least (p := fun n => 0 < n ∧ BQ.it r n f = f) (n := j - i) ⟨by omega, e⟩
  exact ⟨p, by omega, p2.1, p2.2, fun i i0 ip z => p3 i ip ⟨i0, z⟩⟩
theorem Per.unique {r : Int} {f : F} {p q : Nat} (a : Per r f p) (b : Per r f q) : p = q := by
  rcases Nat.lt_trichotomy p q with z | z | z
  · exact absurd a.back (b.first p a.pos z)
  · exact z
  · exact absurd b.back (a.first q b.pos z)
theorem Per.it {D r : Int} {f : F} {p : Nat} (P : Per r f p) (h : Rd D r f) (k : Nat) : Per r (it r k f) p where
  pos := P.pos
  back := by rw [← it_add, Nat.add_comm, it_add, P.back]
  first := fun i i0 ip z => P.first i i0 ip (by
    rw [← it_add, Nat.add_comm, it_add] at z
    exact h.it_inj (h.it i) k z.symm |>.symm)
theorem Per.diff {D r : Int} {f : F} {p i j : Nat} (P : Per r f p) (h : Rd D r f) (hi : i < p) (hj : j < p) (e : BQ.it r i f = BQ.it r j f) : i = j := by
  rcases Nat.lt_trichotomy i j with z | z | z
  · exact absurd (h.back (Nat.le_of_lt z) e) (P.first (j - i) (by omega) (by omega))
  · exact z
  · exact absurd (h.back (Nat.le_of_lt z) e.symm) (P.first (i - j) (by omega) (by omega))
/-- a ring's length is even -/
theorem Rd.sign {D r : Int} {f : F} (h : Rd D r f) : ∀ n, (0 < (BQ.it r n f).a ↔ (n % 2 = 0 ↔ 0 < f.a))
  | 0 => by show (0 < f.a ↔ _); simp
  | n + 1 => by
    have ih := Rd.sign h n
    have hn := h.it n
    have e := (nxt_eq (r := r) (Ind.c0 (hn.d ▸ hn.i))).1
    have ac := (hn.red.ac (hn.d ▸ hn.i)).2
    show 0 < (BQ.nxt r (BQ.it r n f)).a ↔ _
    rw [e]
    have a0 := Ind.a0 (hn.d ▸ hn.i)
    have c0 := Ind.c0 (hn.d ▸ hn.i)
    have flip : 0 < (BQ.it r n f).c ↔ ¬ 0 < (BQ.it r n f).a := by
      constructor
      · intro z w
        have := Int.mul_pos w z
        omega
      · intro z
        refine Int.lt_of_not_ge fun w => ?_
        have := Int.mul_nonneg_of_nonpos_of_nonpos (a := (BQ.it r n f).a) (b := (BQ.it r n f).c) (by omega) w
        omega
    rw [flip, ih]
    have : (n + 1) % 2 = 0 ↔ ¬ n % 2 = 0 := by omega
    rw [this]
    by_cases q1 : n % 2 = 0 <;> by_cases q2 : 0 < f.a <;> simp [q1, q2]
theorem Per.even {D r : Int} {f : F} {p : Nat} (P : Per r f p) (h : Rd D r f) : p % 2 = 0 := by
  have := h.sign p
  rw [P.back] at this
  by_cases q : p % 2 = 0
  · exact q
  · exfalso
    by_cases q2 : 0 < f.a <;> simp [q, q2] at this
end BQ

/-! Steps along a ring; rings as lists; definite forms. -/
namespace BQ
def along (r : Int) : Nat → F → M
  | 0, _ => .one
  | n + 1, f => (along r n f).mul (T (tt r (it r n f)))
theorem along_by (r : Int) (f : F) : ∀ n, f.by (along r n f) = it r n f
  | 0 => by_one f
  | n + 1 => by
    show f.by ((along r n f).mul _) = _
    rw [by_mul, along_by r f n]
    rfl
theorem along_det (r : Int) (f : F) : ∀ n, (along r n f).det = 1
  | 0 => rfl
  | n + 1 => by
    show ((along r n f).mul _).det = 1
    rw [det_mul, along_det r f n, T_det]; rfl
def isSm (f : F) : Bool := decide (f.c.natAbs ≤ 395)
def cnt (r : Int) (f : F) (n : Nat) : Nat := ((List.range n).filter fun i => isSm (it r i f)).length
theorem cnt_succ (r : Int) (f : F) (n : Nat) : cnt r f (n + 1) = cnt r f n + if isSm (it r n f) = true then 1 else 0 := by
  unfold cnt
  rw [List.range_succ, List.filter_append, List.length_append]
  by_cases h : isSm (it r n f) = true <;> simp [h]
section
variable {D r : Int} {f : F}
theorem Rd.tt_le (h : Rd D r f) : (f.c.natAbs : Int) * (tt r f).natAbs ≤ r := by
  have I : Ind f.disc r := h.d ▸ h.i
  have e := tt_mul (r := r) I.c0
  have m := mid_in (r := r) I.c0 (h.red.c_le I)
  have m2 := mid_ge I.c0 (h.red.c_le I) (by have := (h.red.c_in I); omega)
  have h1 : ((2 * f.c * tt r f).natAbs : Int) = 2 * (f.c.natAbs * (tt r f).natAbs) := by
    rw [Int.natAbs_mul, Int.natAbs_mul]; push_cast; grind
  have b1 := h.red.1
  have b2 := h.red.2.1
  rw [e] at h1
  have := (h.red.c_in I)
  omega
theorem Rd.wt (h : Rd D r f) (hr : r ≤ 3162) : (tt r f).natAbs + 1 ≤ 2 ^ (3 + if isSm f = true then 9 else 0) := by
  have e := h.tt_le
  have c0 := Ind.c0 (h.d ▸ h.i)
  have t0 : 0 ≤ ((tt r f).natAbs : Int) := by omega
  by_cases hs : isSm f = true
  · rw [if_pos hs]
    have : (1 : Int) * (tt r f).natAbs ≤ f.c.natAbs * (tt r f).natAbs := Int.mul_le_mul_of_nonneg_right (by omega) t0
    omega
  · rw [if_neg hs]
    unfold isSm at hs
    have hs : 395 < f.c.natAbs := by simpa using hs
    have : (396 : Int) * (tt r f).natAbs ≤ f.c.natAbs * (tt r f).natAbs := Int.mul_le_mul_of_nonneg_right (by omega) t0
    omega
theorem Rd.along_mb (h : Rd D r f) (hr : r ≤ 3162) : ∀ n, Mb (3 * n + 9 * cnt r f n) (along r n f)
  | 0 => Mb.one
  | n + 1 => by
    have ih := Rd.along_mb h hr n
    have := Mb.T ih ((h.it n).wt hr)
    refine Mb.mono this ?_
    rw [cnt_succ]
    split <;> omega
/-- reduced forms with a small last item, by number -/
def code2 (r : Int) (f : F) : Nat := (f.c + 395).toNat * (r.toNat / 2 + 1) + (f.b / 2).toNat
theorem code2_lt (h : Rd D r f) (hs : isSm f = true) : code2 r f < 791 * (r.toNat / 2 + 1) := by
  have hb := h.red.1
  have hb2 := h.red.2.1
  have hs : f.c.natAbs ≤ 395 := by simpa [isSm] using hs
  unfold code2
  have h1 : (f.c + 395).toNat ≤ 790 := by omega
  have h3 := Nat.mul_le_mul h1 (Nat.le_refl (r.toNat / 2 + 1))
  omega
theorem code2_inj {g : F} (h : Rd D r f) (h' : Rd D r g) (s1 : isSm f = true) (s2 : isSm g = true) (e : code2 r f = code2 r g) : f = g := by
  have b1 := h.red.1
  have b2 := h'.red.1
  have b3 := h.red.2.1
  have b4 := h'.red.2.1
  have s1 : f.c.natAbs ≤ 395 := by simpa [isSm] using s1
  have s2 : g.c.natAbs ≤ 395 := by simpa [isSm] using s2
  obtain ⟨e1, e2⟩ := div_unique (by omega) (by omega) e
  have p1 := b_par f
  have p2 := b_par g
  rw [h.d] at p1
  rw [h'.d] at p2
  have eb : f.b = g.b := by omega
  have ec : f.c = g.c := by omega
  have d1 := h.d
  have d2 := h'.d
  unfold F.disc at d1 d2
  refine F.ext ?_ eb ec
  have c0 := Ind.c0 (h.d ▸ h.i)
  rw [← eb, ← ec] at d2
  have : f.c * f.a = f.c * g.a := by
    have e1 : 4 * f.a * f.c = 4 * (f.c * f.a) := by grind
    have e2 : 4 * g.a * f.c = 4 * (f.c * g.a) := by grind
    omega
  exact Int.eq_of_mul_eq_mul_left c0 this
theorem Per.cnt_le {p n : Nat} (P : Per r f p) (h : Rd D r f) (hn : n ≤ p) : cnt r f n ≤ 791 * (r.toNat / 2 + 1) := by
  unfold cnt
  rw [← List.length_map (f := fun i => code2 r (BQ.it r i f))]
  refine nodup_len ?_ fun x hx => ?_
  · unfold List.Nodup
    rw [List.pairwise_map]
    refine List.Pairwise.imp_of_mem (fun {i j} hi hj l => ?_) (List.Pairwise.filter _ List.pairwise_lt_range)
    obtain ⟨i1, i2⟩ := List.mem_filter.mp hi
    obtain ⟨j1, j2⟩ := List.mem_filter.mp hj
    have i1 := List.mem_range.mp i1
    have j1 := List.mem_range.mp j1
    intro e
    have := P.diff h (by omega) (by omega) (code2_inj (h.it i) (h.it j) i2 j2 e)
    omega
  · obtain ⟨i, hi, rfl⟩ := List.mem_map.mp hx
    exact code2_lt (h.it i) (List.mem_filter.mp hi).2
theorem room_le (hr : r ≤ 3162) : room r ≤ 10006150 := by
  unfold room
  have h1 : 2 * r.toNat + 1 ≤ 6325 := by omega
  have h2 : r.toNat / 2 + 1 ≤ 1582 := by omega
  exact Nat.mul_le_mul h1 h2
theorem Per.le {p : Nat} (P : Per r f p) (h : Rd D r f) : p ≤ room r := by
  obtain ⟨q, h1, h2⟩ := h.per
  rw [P.unique h2]
  exact h1
theorem Per.along_mb {p n : Nat} (P : Per r f p) (h : Rd D r f) (hr : r ≤ 3162) (hn : n ≤ p) : Mb 41280708 (along r n f) := by
  refine Mb.mono (h.along_mb hr n) ?_
  have h1 := P.cnt_le h hn
  have h2 := P.le h
  have h3 := room_le hr
  have : r.toNat / 2 + 1 ≤ 1582 := by omega
  omega
/-! ### rings as lists -/
def orb (r : Int) (p : Nat) (f : F) : List F := (List.range p).map fun i => it r i f
theorem orb_len (r : Int) (p : Nat) (f : F) : (orb r p f).length = p := by unfold orb; rw [List.length_map, List.length_range]
theorem orb_get {p i : Nat} (h : i < p) : (orb r p f)[i]? = some (it r i f) := by
  unfold orb
  rw [List.getElem?_map, List.getElem?_range h]
  rfl
theorem orb_mem {p : Nat} {g : F} : g ∈ orb r p f ↔ ∃ i, i < p ∧ g = it r i f := by
  unfold orb
  rw [List.mem_map]
  constructor
  · rintro ⟨i, hi, e⟩
    exact ⟨i, List.mem_range.mp hi, e.symm⟩
  · rintro ⟨i, hi, e⟩
    exact ⟨i, List.mem_range.mpr hi, e.symm⟩
theorem Per.rot {p k : Nat} (P : Per r f p) (hk : k < p) : (orb r p f).drop k ++ (orb r p f).take k = orb r p (BQ.it r k f) := by
  apply List.ext_getElem?
  intro i
  by_cases hi : i < p - k
  · rw [List.getElem?_append_left (by rw [List.length_drop, orb_len]; exact hi), List.getElem?_drop, orb_get (by omega), orb_get (by omega), ← it_add]
    rw [Nat.add_comm]
  · rw [List.getElem?_append_right (by rw [List.length_drop, orb_len]; omega), List.length_drop, orb_len]
    by_cases h2 : i < p
    · rw [List.getElem?_take_of_lt (by omega), orb_get (by omega), orb_get h2, ← it_add]
      have : i + k = (i - (p - k)) + p := by omega
      rw [this, it_add, P.back]
    · rw [List.getElem?_eq_none (by rw [List.length_take, orb_len]; omega), List.getElem?_eq_none (by rw [orb_len]; omega)]
theorem Per.orb_same {p k : Nat} (P : Per r f p) (hk : k < p) (g : F) : g ∈ orb r p (BQ.it r k f) ↔ g ∈ orb r p f := by
  rw [← P.rot hk, List.mem_append, or_comm, ← List.mem_append, List.take_append_drop]
/-- before, item by item -/
def ltF (f g : F) : Prop := f.a < g.a ∨ (f.a = g.a ∧ (f.b < g.b ∨ (f.b = g.b ∧ f.c < g.c)))
instance (f g : F) : Decidable (ltF f g) := by unfold ltF; infer_instance
def Lst (l : List F) (m : F) : Prop := m ∈ l ∧ ∀ y, y ∈ l → ¬ ltF y m
theorem lt_total {f g : F} (h1 : ¬ ltF f g) (h2 : ¬ ltF g f) : f = g := by
  unfold ltF at h1 h2
  apply F.ext <;> omega
theorem Lst.unique {l l' : List F} {m m' : F} (h : Lst l m) (h' : Lst l' m') (e : ∀ g, g ∈ l ↔ g ∈ l') : m = m' :=
  lt_total (h'.2 m ((e m).mp h.1)) (h.2 m' ((e m').mpr h'.1))
def minF (f : F) (fs : List F) : F := fs.foldl (fun a y => if ltF y a then y else a) f
theorem minF_ok : ∀ (fs : List F) (f : F), Lst (f :: fs) (minF f fs)
  | [], f => ⟨List.mem_cons_self, fun y hy => by
    rw [List.mem_singleton.mp hy]
    show ¬ ltF f f
    unfold ltF
    omega⟩
  | g :: fs, f => by
    have e : minF f (g :: fs) = minF (if ltF g f then g else f) fs := rfl
    rw [e]
    obtain ⟨h1, h2⟩ := minF_ok fs (if ltF g f then g else f)
    constructor
    · rcases List.mem_cons.mp h1 with z | z
      · rw [z]
        split
        · exact List.mem_cons_of_mem _ List.mem_cons_self
        · exact List.mem_cons_self
      · exact List.mem_cons_of_mem _ (List.mem_cons_of_mem _ z)
    · generalize minF (if ltF g f then g else f) fs = m at h1 h2
      have h3 := h2 _ List.mem_cons_self
      intro y hy
      rcases List.mem_cons.mp hy with rfl | hy
      · split at h3
        · rename_i q
          unfold ltF at h3 q ⊢
          omega
        · exact h3
      · rcases List.mem_cons.mp hy with rfl | hy
        · split at h3
          · exact h3
          · rename_i q
            unfold ltF at h3 q ⊢
            omega
        · exact h2 y (List.mem_cons_of_mem _ hy)
end
/-! ### definite forms -/
def S (t : Int) : M := ⟨1, t, 0, 1⟩
def swp : M := ⟨0, -1, 1, 0⟩
theorem S_det (t : Int) : (S t).det = 1 := by simp only [M.det, S]; grind
theorem by_S (f : F) (t : Int) : f.by (S t) = ⟨f.a, f.b + 2 * f.a * t, f.a * t * t + f.b * t + f.c⟩ := by
  apply F.ext <;> simp only [F.by, F.val, S] <;> grind
theorem by_swp (f : F) : f.by swp = ⟨f.c, -f.b, f.a⟩ := by
  apply F.ext <;> simp only [F.by, F.val, swp] <;> grind
theorem Mb.S {j k : Nat} {m : M} {t : Int} (h : Mb j m) (ht : t.natAbs + 1 ≤ 2 ^ k) : Mb (j + k) (m.mul (S t)) := by
  have key : ∀ x y : Int, x.natAbs ≤ 2 ^ j → y.natAbs ≤ 2 ^ j → (x * t + y * 1).natAbs ≤ 2 ^ (j + k) := by
    intro x y hx hy
    have h1 : (x * t + y * 1).natAbs ≤ y.natAbs + (x * t).natAbs := by omega
    have h2 : (x * t).natAbs ≤ 2 ^ j * t.natAbs := by rw [Int.natAbs_mul]; exact Nat.mul_le_mul hx (Nat.le_refl _)
    have h3 : 2 ^ j * (t.natAbs + 1) ≤ 2 ^ j * 2 ^ k := Nat.mul_le_mul (Nat.le_refl _) ht
    rw [Nat.pow_add]
    rw [Nat.mul_add] at h3
    omega
  have key2 : ∀ x y : Int, x.natAbs ≤ 2 ^ j → (x * 1 + y * 0).natAbs ≤ 2 ^ (j + k) := by
    intro x y hx
    have : 2 ^ j * 1 ≤ 2 ^ j * 2 ^ k := Nat.mul_le_mul (Nat.le_refl _) (Nat.pow_pos (by omega))
    rw [Nat.pow_add]
    simp only [Int.mul_zero, Int.add_zero, Int.mul_one]
    omega
  obtain ⟨h1, h2, h3, h4⟩ := h
  exact ⟨key2 _ _ h1, key _ _ h1 h2, key2 _ _ h3, key _ _ h3 h4⟩
def st (f : F) : Int := (f.a - f.b).fdiv (2 * f.a)
def shf (f : F) : F := f.by (S (st f))
/-- definite, above 0 -/
structure Df (f : F) : Prop where
  a0 : 0 < f.a
  d0 : f.disc < 0
theorem Df.c0 {f : F} (h : Df f) : 0 < f.c := by
  have e : f.disc = f.b * f.b - 4 * (f.a * f.c) := by unfold F.disc; grind
  have h1 := h.d0
  have h2 := sqpos f.b
  refine Int.lt_of_not_ge fun z => ?_
  have := Int.mul_nonneg (a := f.a) (b := -f.c) (by have := h.a0; omega) (by omega)
  rw [show f.a * -f.c = -(f.a * f.c) by grind] at this
  omega
def inR (f : F) : Prop := -f.a < f.b ∧ f.b ≤ f.a
def good (f : F) : Prop := f.a < f.c ∨ (f.a = f.c ∧ 0 ≤ f.b)
instance (f : F) : Decidable (inR f) := by unfold inR; infer_instance
instance (f : F) : Decidable (good f) := by unfold good; infer_instance
theorem shf_a (f : F) : (shf f).a = f.a := by unfold shf; rw [by_S]
theorem shf_disc (f : F) : (shf f).disc = f.disc := disc_by1 (S_det _)
theorem Df.shf {f : F} (h : Df f) : Df (shf f) := ⟨by rw [shf_a]; exact h.a0, by rw [shf_disc]; exact h.d0⟩
theorem Df.swp {f : F} (h : Df f) : Df (f.by BQ.swp) := ⟨by rw [by_swp]; exact h.c0, by rw [disc_by1 (by decide)]; exact h.d0⟩
theorem Df.inR {f : F} (h : Df f) : inR (BQ.shf f) := by
  have a0 := h.a0
  have e := Int.mul_fdiv_add_fmod (f.a - f.b) (2 * f.a)
  have m := fmod_lt' (x := f.a - f.b) (w := 2 * f.a) (by omega)
  unfold BQ.inR
  unfold BQ.shf st
  rw [by_S]
  constructor
  · show -f.a < f.b + _; omega
  · show f.b + _ ≤ f.a; omega
theorem Df.st0 {f : F} (h : Df f) (hi : BQ.inR f) : st f = 0 := by
  have a0 := h.a0
  unfold st
  obtain ⟨h1, h2⟩ := hi
  rw [Int.fdiv_eq_ediv_of_nonneg _ (by omega), Int.ediv_eq_zero_of_lt (by omega) (by omega)]
theorem Df.shf_id {f : F} (h : Df f) (hi : BQ.inR f) : BQ.shf f = f := by
  unfold BQ.shf
  rw [h.st0 hi, by_S]
  apply F.ext <;> simp
theorem Df.st_le {f : F} {B : Int} (h : Df f) (ha : f.a ≤ B) (hb : (f.b.natAbs : Int) ≤ B) : ((st f).natAbs : Int) ≤ B + 1 := by
  have a0 := h.a0
  have e := Int.mul_fdiv_add_fmod (f.a - f.b) (2 * f.a)
  have m := fmod_lt' (x := f.a - f.b) (w := 2 * f.a) (by omega)
  have i := h.inR
  show (((f.a - f.b).fdiv (2 * f.a)).natAbs : Int) ≤ B + 1
  generalize (f.a - f.b).fdiv (2 * f.a) = t at *
  have h1 : ((2 * f.a * t).natAbs : Int) = 2 * (f.a.natAbs * t.natAbs) := by
    rw [Int.natAbs_mul, Int.natAbs_mul]; push_cast; grind
  have h2 : (1 : Int) * t.natAbs ≤ f.a.natAbs * t.natAbs := Int.mul_le_mul_of_nonneg_right (by omega) (by omega)
  omega
inductive Dr : F → F → Prop
  | stop {f : F} : good (shf f) → Dr f (shf f)
  | go {f R : F} : ¬ good (shf f) → Dr ((shf f).by swp) R → Dr f R
theorem Dr.det {f R R' : F} (h : Dr f R) (h' : Dr f R') : R = R' := by
  induction h with
  | stop g =>
    cases h' with
    | stop _ => rfl
    | go n _ => exact absurd g n
  | go n _ ih =>
    cases h' with
    | stop g => exact absurd g n
    | go _ d => exact ih d
/-- how far, for the program's going -/
def nu (f : F) : Nat := 2 * f.a.toNat + if inR f ∧ good f then 0 else 1
theorem Df.nu_lt {f : F} (h : Df f) (hg : ¬ good (BQ.shf f)) : nu ((BQ.shf f).by BQ.swp) < nu f := by
  have i := h.inR
  have a0 := h.a0
  have c0 := h.shf.c0
  have hn : nu f = 2 * f.a.toNat + 1 := by
    unfold nu
    rw [if_neg]
    rintro ⟨z1, z2⟩
    rw [h.shf_id z1] at hg
    exact hg z2
  have ea := shf_a f
  rw [hn]
  unfold nu
  rw [by_swp]
  generalize BQ.shf f = g at *
  unfold good at hg
  unfold BQ.inR at i
  by_cases hz : g.c = g.a
  · have hb : ¬ 0 ≤ g.b := fun z => hg (.inr ⟨hz.symm, z⟩)
    rw [if_pos]
    · show 2 * g.c.toNat + 0 < _; omega
    · unfold BQ.inR good
      simp only
      omega
  · have : g.c < g.a := by omega
    show 2 * g.c.toNat + _ < _
    split <;> omega
/-- the law's -/
def RedD (f : F) : Prop := (f.b.natAbs : Int) ≤ f.a ∧ f.a ≤ f.c ∧ (0 ≤ f.b ∨ ((f.b.natAbs : Int) ≠ f.a ∧ f.a ≠ f.c))
instance (f : F) : Decidable (RedD f) := by unfold RedD; infer_instance
theorem Df.red_iff {f : F} (h : Df f) (hi : BQ.inR f) : RedD f ↔ good f := by
  have a0 := h.a0
  unfold RedD good
  unfold BQ.inR at hi
  omega
theorem Df.red_in {f : F} (h : Df f) (hr : RedD f) : BQ.inR f := by
  have a0 := h.a0
  unfold RedD at hr
  unfold BQ.inR
  omega
def la (f : F) : Nat := if RedD f then 0 else 1 + 2 * f.a.toNat + if inR f then 0 else 1
theorem Df.la_swp {f : F} (h : Df f) (hi : BQ.inR f) (hr : ¬ RedD f) : la (f.by BQ.swp) < la f := by
  have a0 := h.a0
  have c0 := h.c0
  have e : la f = 1 + 2 * f.a.toNat := by unfold la; rw [if_neg hr, if_pos hi]; rfl
  rw [e]
  rw [h.red_iff hi] at hr
  unfold la
  rw [by_swp]
  by_cases hz : f.c = f.a
  · rw [if_pos]
    · omega
    · unfold good at hr
      unfold BQ.inR at hi
      unfold RedD
      simp only
      omega
  · split
    · omega
    · unfold good at hr
      show 1 + 2 * f.c.toNat + _ < _
      split <;> omega
theorem Df.la_shf {f : F} (h : Df f) (hi : ¬ BQ.inR f) (hr : ¬ RedD f) : la (BQ.shf f) < la f := by
  have e : la f = 1 + 2 * f.a.toNat + 1 := by unfold la; rw [if_neg hr, if_neg hi]
  rw [e]
  unfold la
  rw [if_pos h.inR, shf_a]
  split <;> omega
/-- the law's path is the program's -/
theorem Dr.red {f R : F} (h : Df f) (hr : RedD f) (d : Dr f R) : R = f := by
  have hi := h.red_in hr
  have e := h.shf_id hi
  cases d with
  | stop _ => exact e
  | go n _ =>
    rw [e] at n
    exact absurd ((h.red_iff hi).mp hr) n
theorem Dr.swp {f R : F} (h : Df f) (hi : inR f) (hr : ¬ RedD f) (d : Dr f R) : Dr (f.by swp) R := by
  have e := h.shf_id hi
  cases d with
  | stop g =>
    rw [e] at g
    exact absurd ((h.red_iff hi).mpr g) hr
  | go _ d => rwa [e] at d
theorem Dr.shf {f R : F} (h : Df f) (d : Dr f R) : Dr (shf f) R := by
  have e := h.shf.shf_id h.inR
  cases d with
  | stop g =>
    have := Dr.stop (f := BQ.shf f) (by rw [e]; exact g)
    rwa [e] at this
  | go n d => exact .go (by rw [e]; exact n) (by rw [e]; exact d)
theorem Dr.ok {f R : F} (d : Dr f R) : Df f → Df R ∧ RedD R ∧ R.disc = f.disc := by
  induction d with
  | @stop f g => exact fun h => ⟨h.shf, (h.shf.red_iff h.inR).mpr g, shf_disc f⟩
  | @go f R n _ ih =>
    intro h
    obtain ⟨h1, h2, h3⟩ := ih h.shf.swp
    exact ⟨h1, h2, by rw [h3, disc_by1 (by decide), shf_disc]⟩
end BQ

/-! Split forms; Euclid's going. -/
namespace BQ
/-- the inverse -/
def M.inv (m : M) : M := ⟨m.s, -m.q, -m.r, m.p⟩
theorem inv_mul {m n : M} (h : m.det = 1) : m.mul (m.inv.mul n) = n := by
  unfold M.det at h
  apply M.ext <;> simp only [M.mul, M.inv] <;> grind
theorem inv_det {m : M} : m.inv.det = m.det := by simp only [M.inv, M.det]; grind
/-- led to (a, w, 0), and that taken modulo w -/
def Sp (f : F) (w : Int) (R : F) : Prop := ∃ m : M, m.det = 1 ∧ (f.by m).b = w ∧ (f.by m).c = 0 ∧ R = ⟨(f.by m).a.fmod w, w, 0⟩
theorem fmod_add_mul {a w k : Int} : (a + w * k).fmod w = a.fmod w := Int.add_mul_fmod_self_left a w k
theorem Sp.det {f : F} {w : Int} (hw : 0 < w) {R R' : F} (h : Sp f w R) (h' : Sp f w R') : R = R' := by
  obtain ⟨m, m1, m2, m3, rfl⟩ := h
  obtain ⟨n, n1, n2, n3, rfl⟩ := h'
  have e : f.by n = (f.by m).by (m.inv.mul n) := by rw [← by_mul, inv_mul m1]
  have dt : (m.inv.mul n).det = 1 := by rw [det_mul, inv_det, m1, n1]; rfl
  rw [e] at n2 n3 ⊢
  generalize m.inv.mul n = x at *
  generalize f.by m = g at *
  obtain ⟨i, j, k, l⟩ := x
  simp only [M.det] at dt
  simp only [F.by, F.val] at n2 n3 ⊢
  rw [m2, m3] at n2 n3
  rw [m2, m3]
  have hj : j = 0 := by
    refine Classical.byContradiction fun j0 => ?_
    have e1 : j * (g.a * j + w * l) = 0 := by
      have : j * (g.a * j + w * l) = g.a * j * j + w * j * l + 0 * l * l := by grind
      omega
    have e2 : g.a * j + w * l = 0 := (Int.mul_eq_zero.mp e1).resolve_left j0
    have e3 : 2 * g.a * i * j + w * (i * l + j * k) + 2 * 0 * k * l = -w := by
      have h1 : 2 * g.a * i * j = 2 * i * (g.a * j) := by grind
      have h2 : g.a * j = -(w * l) := by omega
      rw [h1, h2]
      have h3 : 2 * i * -(w * l) + w * (i * l + j * k) + 2 * 0 * k * l = -(w * (i * l - j * k)) := by grind
      rw [h3, dt, Int.mul_one]
    omega
  subst hj
  have il : i * l = 1 := by omega
  have ii : i * i = 1 := by
    have h := congrArg Int.natAbs il
    rw [Int.natAbs_mul] at h
    have h1 : i.natAbs = 1 := Nat.eq_one_of_mul_eq_one_right h
    rw [← Int.natAbs_mul_self, h1]; rfl
  congr 1
  have : g.a * i * i + w * i * k + 0 * k * k = g.a + w * (i * k) := by
    rw [Int.mul_assoc g.a, ii]; grind
  rw [this, fmod_add_mul]
/-- the last shift -/
def V (k : Int) : M := ⟨1, 0, -k, 1⟩
theorem V_det (k : Int) : (V k).det = 1 := by simp only [M.det, V]; grind
theorem by_V {f : F} {k : Int} (h : f.c = 0) : f.by (V k) = ⟨f.a - f.b * k, f.b, 0⟩ := by
  apply F.ext <;> simp only [F.by, F.val, V, h] <;> grind
theorem by_V_mod {f : F} (h : f.c = 0) : f.by (V (f.a.fdiv f.b)) = ⟨f.a.fmod f.b, f.b, 0⟩ := by
  rw [by_V h]
  have := Int.mul_fdiv_add_fmod f.a f.b
  apply F.ext
  · show f.a - f.b * f.a.fdiv f.b = f.a.fmod f.b; omega
  · rfl
  · rfl
theorem Sp.of {f : F} {w : Int} {m : M} (h1 : m.det = 1) (h2 : (f.by m).b = w) (h3 : (f.by m).c = 0) : Sp f w ((f.by m).by (V ((f.by m).a.fdiv (f.by m).b))) := by
  refine ⟨m, h1, h2, h3, ?_⟩
  rw [by_V_mod h3, h2]
/-- the lines of zeros, and what they lead to. g times (q, s) is the row -/
theorem line1 {f : F} {w g : Int} {m : M} (hd : f.disc = w * w) (g0 : g ≠ 0) (e1 : g * m.q = w - f.b) (e2 : g * m.s = 2 * f.a) (hm : m.det = 1) : (f.by m).b = w ∧ (g * g) * (f.by m).c = 0 := by
  unfold F.disc at hd
  unfold M.det at hm
  simp only [F.by, F.val]
  constructor
  · have : g * (2 * f.a * m.p * m.q + f.b * (m.p * m.s + m.q * m.r) + 2 * f.c * m.r * m.s) = g * w := by
      have h1 : g * (2 * f.a * m.p * m.q + f.b * (m.p * m.s + m.q * m.r) + 2 * f.c * m.r * m.s) = 2 * f.a * m.p * (g * m.q) + f.b * (m.p * (g * m.s) + (g * m.q) * m.r) + 2 * f.c * m.r * (g * m.s) := by grind
      rw [h1, e1, e2]
      have h2 : g * w * (m.p * m.s - m.q * m.r) = w * (m.p * (g * m.s) - (g * m.q) * m.r) := by grind
      rw [hm, e1, e2, Int.mul_one] at h2
      rw [h2]
      grind
    exact Int.eq_of_mul_eq_mul_left g0 this
  · have h1 : g * g * (f.a * m.q * m.q + f.b * m.q * m.s + f.c * m.s * m.s) = f.a * (g * m.q) * (g * m.q) + f.b * (g * m.q) * (g * m.s) + f.c * (g * m.s) * (g * m.s) := by grind
    rw [h1, e1, e2]
    grind
theorem line2 {f : F} {w g : Int} {m : M} (hd : f.disc = w * w) (g0 : g ≠ 0) (e1 : g * m.q = -w - f.b) (e2 : g * m.s = 2 * f.a) (hm : m.det = 1) : (f.by m).b = -w ∧ (g * g) * (f.by m).c = 0 :=
  line1 (w := -w) (by rw [hd]; grind) g0 e1 e2 hm
/-- a = 0 -/
theorem line3 {f : F} {m : M} (ha : f.a = 0) (e1 : m.q = 1) (e2 : m.s = 0) (hm : m.det = 1) : (f.by m).b = -f.b ∧ (f.by m).c = 0 := by
  unfold M.det at hm
  simp only [F.by, F.val, ha, e1, e2] at *
  grind
theorem line4 {f : F} {g : Int} {m : M} (ha : f.a = 0) (g0 : g ≠ 0) (e1 : g * m.q = f.c) (e2 : g * m.s = -f.b) (hm : m.det = 1) : (f.by m).b = f.b ∧ (g * g) * (f.by m).c = 0 := by
  unfold M.det at hm
  simp only [F.by, F.val, ha]
  constructor
  · have : g * (2 * 0 * m.p * m.q + f.b * (m.p * m.s + m.q * m.r) + 2 * f.c * m.r * m.s) = g * f.b := by
      have h1 : g * (2 * 0 * m.p * m.q + f.b * (m.p * m.s + m.q * m.r) + 2 * f.c * m.r * m.s) = f.b * (m.p * (g * m.s) + (g * m.q) * m.r) + 2 * f.c * m.r * (g * m.s) := by grind
      rw [h1, e1, e2]
      have h2 : g * f.b * (m.p * m.s - m.q * m.r) = f.b * (m.p * (g * m.s) - (g * m.q) * m.r) := by grind
      rw [hm, e1, e2, Int.mul_one] at h2
      rw [h2]
      grind
    exact Int.eq_of_mul_eq_mul_left g0 this
  · have h1 : g * g * (0 * m.q * m.q + f.b * m.q * m.s + f.c * m.s * m.s) = f.b * (g * m.q) * (g * m.s) + f.c * (g * m.s) * (g * m.s) := by grind
    rw [h1, e1, e2]
    grind
theorem sq0 {g x : Int} (g0 : g ≠ 0) (h : g * g * x = 0) : x = 0 := by
  rcases Int.mul_eq_zero.mp h with h | h
  · rcases Int.mul_eq_zero.mp h with h | h <;> exact absurd h g0
  · exact h
/-! ### Euclid -/
/-- one step's change: columns (x, y), (x', y') -/
def Q (t : Int) : M := ⟨0, 1, 1, -t⟩
theorem Mb.Q {j k : Nat} {m : M} {t : Int} (h : Mb j m) (ht : t.natAbs + 1 ≤ 2 ^ k) : Mb (j + k) (m.mul (Q t)) := by
  have key : ∀ x y : Int, x.natAbs ≤ 2 ^ j → y.natAbs ≤ 2 ^ j → (x * 1 + y * -t).natAbs ≤ 2 ^ (j + k) := by
    intro x y hx hy
    have h1 : (x * 1 + y * -t).natAbs ≤ x.natAbs + (y * -t).natAbs := by omega
    have h2 : (y * -t).natAbs ≤ 2 ^ j * t.natAbs := by rw [Int.natAbs_mul, Int.natAbs_neg]; exact Nat.mul_le_mul hy (Nat.le_refl _)
    have h3 : 2 ^ j * (t.natAbs + 1) ≤ 2 ^ j * 2 ^ k := Nat.mul_le_mul (Nat.le_refl _) ht
    rw [Nat.pow_add]
    rw [Nat.mul_add] at h3
    omega
  have key2 : ∀ x y : Int, y.natAbs ≤ 2 ^ j → (x * 0 + y * 1).natAbs ≤ 2 ^ (j + k) := by
    intro x y hy
    have : 2 ^ j * 1 ≤ 2 ^ j * 2 ^ k := Nat.mul_le_mul (Nat.le_refl _) (Nat.pow_pos (by omega))
    rw [Nat.pow_add]
    simp only [Int.mul_zero, Int.zero_add, Int.mul_one]
    omega
  obtain ⟨h1, h2, h3, h4⟩ := h
  exact ⟨key2 _ _ h2, key _ _ h1 h2, key2 _ _ h4, key _ _ h3 h4⟩
/-- the pair (a, b) comes of (A, B) by the columns of m -/
structure Eu (A B a b : Int) (m : M) : Prop where
  fst : a = A * m.p + B * m.r
  snd : b = A * m.q + B * m.s
  gcd : Int.gcd a b = Int.gcd A B
theorem Eu.start (A B : Int) : Eu A B A B M.one := ⟨by simp [M.one], by simp [M.one], rfl⟩
theorem gcd_step (a b t : Int) : Int.gcd b (a - t * b) = Int.gcd a b := by
  have e : a - t * b = a + -t * b := by grind
  rw [e, Int.gcd_add_mul_right_right, Int.gcd_comm]
theorem Eu.step {A B a b : Int} {m : M} (h : Eu A B a b m) (t : Int) : Eu A B b (a - t * b) (m.mul (Q t)) where
  fst := by rw [h.snd]; simp only [M.mul, Q]; grind
  snd := by rw [h.fst, h.snd]; simp only [M.mul, Q]; grind
  gcd := by rw [gcd_step]; exact h.gcd
/-- how far -/
def em (a b : Int) : Nat := if b = 0 then 0 else if 0 < a * b ∧ b.natAbs ≤ a.natAbs then 1 + (a * b).natAbs.log2 else 3 + 2 * b.natAbs.log2
theorem log2_mul_le (n : Nat) (h : n ≠ 0) : (n * n).log2 ≤ 2 * n.log2 + 1 := by
  have h1 : n < 2 ^ (n.log2 + 1) := Nat.lt_log2_self
  have h2 : n * n < 2 ^ (2 * n.log2 + 2) := by
    have : 2 ^ (2 * n.log2 + 2) = 2 ^ (n.log2 + 1) * 2 ^ (n.log2 + 1) := by rw [← Nat.pow_add]; congr 1; omega
    rw [this]
    exact Nat.mul_lt_mul_of_lt_of_lt h1 h1
  have := (Nat.log2_lt (Nat.mul_ne_zero h h)).mpr h2
  omega
theorem log2_mono {m n : Nat} (h : m ≤ n) : m.log2 ≤ n.log2 := by
  by_cases h0 : m = 0
  · subst h0; simp
  · have n0 : n ≠ 0 := by omega
    rw [Nat.le_log2 n0]
    exact Nat.le_trans (Nat.log2_self_le h0) h
theorem fmod_eq (a b : Int) : a - a.fdiv b * b = a.fmod b := by
  have := Int.mul_fdiv_add_fmod a b
  rw [Int.mul_comm] at this
  omega
theorem fmod_small (a : Int) {b : Int} (h : b ≠ 0) : (0 < b → 0 ≤ a.fmod b ∧ a.fmod b < b) ∧ (b < 0 → b < a.fmod b ∧ a.fmod b ≤ 0) := by
  constructor
  · intro hb; exact fmod_lt' hb
  · intro hb
    have e : a.fmod b = -((-a).fmod (-b)) := by rw [Int.neg_fmod_neg]; simp
    have := fmod_lt' (x := -a) (w := -b) (by omega)
    omega
theorem em_lt {a b : Int} (h : b ≠ 0) : em b (a - a.fdiv b * b) < em a b := by
  rw [fmod_eq]
  obtain ⟨s1, s2⟩ := fmod_small a h
  by_cases hr : a.fmod b = 0
  · have : em b (a.fmod b) = 0 := by unfold em; rw [if_pos hr]
    rw [this]
    unfold em
    rw [if_neg h]
    split <;> omega
  have sg : 0 < b * a.fmod b := by
    rcases Int.lt_or_gt_of_ne h with z | z
    · have := s2 z
      exact Int.mul_pos_of_neg_of_neg z (by omega)
    · have := s1 z
      exact Int.mul_pos z (by omega)
  have le : (a.fmod b).natAbs ≤ b.natAbs := by
    rcases Int.lt_or_gt_of_ne h with z | z
    · have := s2 z; omega
    · have := s1 z; omega
  have e1 : em b (a.fmod b) = 1 + (b * a.fmod b).natAbs.log2 := by unfold em; rw [if_neg hr, if_pos ⟨sg, le⟩]
  rw [e1]
  unfold em
  rw [if_neg h]
  split
  · rename_i q
    obtain ⟨q1, q2⟩ := q
    have two : 2 * (a.fmod b).natAbs ≤ a.natAbs := by
      have e2 := Int.mul_fdiv_add_fmod a b
      rcases Int.lt_or_gt_of_ne h with z | z
      · have a0 : a < 0 := by
          refine Int.lt_of_not_ge fun w => ?_
          have := Int.mul_nonneg (a := a) (b := -b) w (by omega)
          rw [show a * -b = -(a * b) by grind] at this
          omega
        have := s2 z
        have k : 1 ≤ a.fdiv b := by
          refine Int.le_of_not_gt fun w => ?_
          have : b * 0 ≤ b * a.fdiv b := Int.mul_le_mul_of_nonpos_left (by omega) (by omega)
          omega
        have : b * a.fdiv b ≤ b * 1 := Int.mul_le_mul_of_nonpos_left (by omega) k
        omega
      · have a0 : 0 < a := by
          refine Int.lt_of_not_ge fun w => ?_
          have := Int.mul_nonneg (a := -a) (b := b) (by omega) (by omega)
          rw [show -a * b = -(a * b) by grind] at this
          omega
        have := s1 z
        have k : 1 ≤ a.fdiv b := by
          refine Int.le_of_not_gt fun w => ?_
          have : b * a.fdiv b ≤ b * 0 := Int.mul_le_mul_of_nonneg_left (by omega) (by omega)
          omega
        have : b * 1 ≤ b * a.fdiv b := Int.mul_le_mul_of_nonneg_left k (by omega)
        omega
    have n0 : (b * a.fmod b).natAbs ≠ 0 := by omega
    have m0 : (a * b).natAbs ≠ 0 := by omega
    have : (b * a.fmod b).natAbs.log2 + 1 ≤ (a * b).natAbs.log2 := by
      rw [Nat.le_log2 m0, Nat.pow_succ]
      have h1 := Nat.log2_self_le n0
      have h2 : (b * a.fmod b).natAbs * 2 ≤ (a * b).natAbs := by
        rw [Int.natAbs_mul, Int.natAbs_mul]
        have := Nat.mul_le_mul (Nat.le_refl b.natAbs) two
        rw [Nat.mul_comm a.natAbs]
        have e3 : b.natAbs * (2 * (a.fmod b).natAbs) = b.natAbs * (a.fmod b).natAbs * 2 := by grind
        omega
      omega
    omega
  · have h1 : (b * a.fmod b).natAbs ≤ b.natAbs * b.natAbs := by
      rw [Int.natAbs_mul]
      exact Nat.mul_le_mul (Nat.le_refl _) le
    have h2 := log2_mono h1
    have h3 := log2_mul_le b.natAbs (by omega)
    omega
theorem em_le {a b : Int} {k : Nat} (hb : b.natAbs < 2 ^ k) (ha : a.natAbs < 2 ^ k) : em a b ≤ 3 + 2 * k := by
  unfold em
  split
  · omega
  · rename_i b0
    split
    · have h1 : (a * b).natAbs < 2 ^ (2 * k) := by
        rw [Int.natAbs_mul, show 2 * k = k + k by omega, Nat.pow_add]
        exact Nat.mul_lt_mul_of_lt_of_lt ha hb
      by_cases h0 : (a * b).natAbs = 0
      · rw [h0]; simp; omega
      · have := (Nat.log2_lt h0).mpr h1
        omega
    · have := (Nat.log2_lt (n := b.natAbs) (by omega)).mpr hb
      omega
theorem fdiv_le (a b : Int) : (a.fdiv b).natAbs ≤ a.natAbs := Int.natAbs_fdiv_le_natAbs a b
end BQ

/-! The program's own small defs. -/
namespace K31
open PySem PySem.Spec PyProof.Rows L2 DL BQ
abbrev PR := PySem.Challenge.pw_formsbeyond_k31_reduced_forms_at_their_e
def top (i : Nat) : Stmt := PR.main.body.getD i (.Pass ⟨0, 0, 0, 0⟩)
def fD (f : F) : PyData := .tuple [.int f.a, .int f.b, .int f.c]
def mD (m : M) : PyData := .tuple [.tuple [.int m.p, .int m.q], .tuple [.int m.r, .int m.s]]
def frs : List Str := ["len", "abs", "all", "max", "min", "repr", "isinstance", "int", "bool", "tuple", "list", "range"]
def fns1 : List (Nat × Str) := [(2, "is_integer"), (3, "is_tuple"), (4, "is_integers"), (13, "discriminant_of"), (14, "divisor_of"), (15, "is_split"), (16, "value_at"), (17, "taken_by"), (18, "times_step"), (19, "bezout"), (20, "is_reduced_form"), (21, "definite_reduced"), (22, "zero_directions"), (23, "split_reduced"), (24, "neighbour_step"), (25, "indefinite_reduced")]
def fns2 : List (Nat × Str) := [(26, "to_reduced"), (27, "ring_of"), (28, "step_along"), (30, "is_binary"), (31, "need_binary"), (32, "is_step"), (33, "discriminant"), (34, "is_primitive"), (35, "stepped"), (36, "is_reduced"), (37, "cycle"), (38, "reduced"), (40, "_law_seed"), (41, "_law_any"), (42, "_law_one_of"), (43, "_law_gcd")]
def fns3 : List (Nat × Str) := [(44, "_law_is_integer"), (45, "_law_whole_root"), (46, "_law_disc"), (47, "_law_stepped"), (48, "_law_behind"), (49, "_law_is_step"), (50, "_law_is_split"), (51, "_law_is_reduced"), (52, "_law_next"), (53, "_law_zero_line"), (54, "_law_reduced"), (55, "_law_cycle"), (56, "_law_step"), (57, "_law_edge"), (58, "_law_right"), (59, "law")]
def fns : List (Nat × Str) := fns1 ++ fns2 ++ fns3
/-- what the module's names stand for -/
structure Mo (K : PySem.W.Frag) (mg : Str → Option Value) : Prop where
  fr : ∀ x, x ∈ frs → mg x = none
  m_gcd : mg "gcd" = some (.builtin "math.gcd")
  m_isqrt : mg "isqrt" = some (.builtin "math.isqrt")
  k_SAME : mg "SAME" = some (.ref (He.ga K "SAME")) ∧ ∀ P H, Dv K P H (.ref (He.ga K "SAME")) (mD M.one)
  k_SWAP : mg "SWAP" = some (.ref (He.ga K "SWAP")) ∧ ∀ P H, Dv K P H (.ref (He.ga K "SWAP")) (mD swp)
  fn : ∀ i x, (i, x) ∈ fns → ∃ fd, mg x = some (.ref (He.ga K x)) ∧ Fun K x x (top i) (He.ga K x) fd
section
variable {P : Program} {w : World} {K : PySem.W.Frag} {mg : Str → Option Value} {base : Heap}
def isI : PyData → Bool
  | .int _ => true
  | _ => false
def sd_is_integer : Sd := fun c as y Φ Ψ => ∃ d, as = [.dt d] ∧ Φ (.bool (isI d)) c
theorem ok_is_integer (Mx : Mo K mg)  : Cl false P w K mg base 1 "is_integer" ["value"] sd_is_integer := by
  obtain ⟨fd, hm, Fn0⟩ := Mx.fn 2 "is_integer" (by decide +kernel)
  have hN : (["value"] : List Str).Nodup := by decide +kernel
  have Sc0 : FnScope ["value"] ["value"] (defScope (top 2)) := ⟨rfl, rfl, rfl, hN, rfl, by decide +kernel, by decide +kernel⟩
  refine cl_mk Fn0 hm Sc0 (fun _ _ _ _ _ _ us hl => match us, hl with | [_], _ => rfl) (fun _ _ _ _ _ _ us hl => match us, hl with | [_], _ => rfl) fun cdv A outer s H E hr hG tk hp => ⟨_, (ss_one (s_ret (e_and (e_isi (by rfl) (Mx.fr "isinstance" (by decide +kernel)) b_isinstance (r_own (pv 0)) (by rfl) (Mx.fr "int" (by decide +kernel)) b_int) (e_one (e_not (e_isi (by rfl) (Mx.fr "isinstance" (by decide +kernel)) b_isinstance (r_own (pv 0)) (by rfl) (Mx.fr "bool" (by decide +kernel)) b_bool)))))), fun c as y Φ Ψ hn hs => ?_⟩
  obtain ⟨d, rfl, h⟩ := hs
  simp only [↓n_asg_if, BQ.n_rt, sSeq, sNext, sRet, sRetF, sRetO, sDrop, sSet, sOwn, sAsg, sPar, sPar3, sAug, sApp, sIf, dIf, dTest, dAnd, dOr, dNot, dAndV, dOrV, d1, d2, d2F, dVar, dOwn, dC, dF, dTup, dLst, dNil, dCons, dCB, dCB1, dCF1, dChain, dChain3, dCall, dCallF, dCallK, aNil, aCons, aDk, dGn, dGnil, dGcons, dGtup, dOdIx, dGsub, dIdxT, dIdxL, dSlT, dSlL, dPart, dNoPart, dIl, dIt, frz, opn, cls, catD, startR, arS, seqOf, n_add, n_addT, n_sub, n_mul, n_fdiv, n_mod, n_pow, n_shl, n_cmp, n_is, n_neg, n_not, n_ixL, n_ixT, n_lenL, n_lenT, n_abs, n_gcd, n_isqrt, n_int, n_tupL, n_tupT, at10, at1n, at20, at21, at2n, at30, at31, at32, at3n, fD, mD, wipeR, dYes, ix32, ix31, n_boolC, sz0, sz1, sz2, sz3, sz4, sz5, sz6, sz7, sz8, n_eqI, n_neI, n_eq3, n_ne3, n_isi_int, n_isi_bool, n_isi_tuple, List.map_cons, List.map_nil, List.length_cons, List.length_nil, List.replicate, List.set_cons_zero, List.set_cons_succ, List.getElem?_cons_zero, List.getElem?_cons_succ, List.filter_cons, List.filter_nil, Ar.isDk, List.all_cons, List.all_nil, no_dt, no_un, no_ow, no_dk, Bool.and_eq_true, Bool.true_and, Bool.and_true, Bool.false_eq_true, if_false, if_true, ite_true, ite_false, Option.some.injEq, exists_eq_left', true_and, and_true, List.cons_append, List.nil_append, Nat.sub_self, decide_eq_true_eq, Nat.reduceAdd, Nat.reduceSub, Nat.zero_add, Nat.le_refl, Nat.zero_le]
  cases d <;> simpa [dInt, dBool, isI] using h
def isTup (lo hi : Int) : PyData → Bool
  | .tuple xs => decide (lo ≤ xs.length) && decide ((xs.length : Int) ≤ hi)
  | _ => false
def sd_is_tuple : Sd := fun c as y Φ Ψ => ∃ d lo hi, as = [.dt d, .dt (.int lo), .dt (.int hi)] ∧ Φ (.bool (isTup lo hi d)) c
theorem ok_is_tuple (Mx : Mo K mg)  : Cl false P w K mg base 1 "is_tuple" ["value", "low", "high"] sd_is_tuple := by
  obtain ⟨fd, hm, Fn0⟩ := Mx.fn 3 "is_tuple" (by decide +kernel)
  have hN : (["value", "low", "high"] : List Str).Nodup := by decide +kernel
  have Sc0 : FnScope ["value", "low", "high"] ["value", "low", "high"] (defScope (top 3)) := ⟨rfl, rfl, rfl, hN, rfl, by decide +kernel, by decide +kernel⟩
  refine cl_mk Fn0 hm Sc0 (fun _ _ _ _ _ _ us hl => match us, hl with | [_, _, _], _ => rfl) (fun _ _ _ _ _ _ us hl => match us, hl with | [_, _, _], _ => rfl) fun cdv A outer s H E hr hG tk hp => ⟨_, (ss_one (s_ret (e_and (e_isi (by rfl) (Mx.fr "isinstance" (by decide +kernel)) b_isinstance (r_own (pv 0)) (by rfl) (Mx.fr "tuple" (by decide +kernel)) b_tuple) (e_one (e_chain o_le o_le (e_var (pv 1)) (e_callB1 c_len (by rfl) (Mx.fr "len" (by decide +kernel)) b_len (r_own (pv 0))) (e_var (pv 2))))))), fun c as y Φ Ψ hn hs => ?_⟩
  obtain ⟨d, lo, hi, rfl, h⟩ := hs
  cases d <;> simp only [↓n_asg_if, BQ.n_rt, sSeq, sNext, sRet, sRetF, sRetO, sDrop, sSet, sOwn, sAsg, sPar, sPar3, sAug, sApp, sIf, dIf, dTest, dAnd, dOr, dNot, dAndV, dOrV, d1, d2, d2F, dVar, dOwn, dC, dF, dTup, dLst, dNil, dCons, dCB, dCB1, dCF1, dChain, dChain3, dCall, dCallF, dCallK, aNil, aCons, aDk, dGn, dGnil, dGcons, dGtup, dOdIx, dGsub, dIdxT, dIdxL, dSlT, dSlL, dPart, dNoPart, dIl, dIt, frz, opn, cls, catD, startR, arS, seqOf, n_add, n_addT, n_sub, n_mul, n_fdiv, n_mod, n_pow, n_shl, n_cmp, n_is, n_neg, n_not, n_ixL, n_ixT, n_lenL, n_lenT, n_abs, n_gcd, n_isqrt, n_int, n_tupL, n_tupT, at10, at1n, at20, at21, at2n, at30, at31, at32, at3n, fD, mD, wipeR, dYes, ix32, ix31, n_boolC, sz0, sz1, sz2, sz3, sz4, sz5, sz6, sz7, sz8, n_eqI, n_neI, n_eq3, n_ne3, n_isi_int, n_isi_bool, n_isi_tuple, List.map_cons, List.map_nil, List.length_cons, List.length_nil, List.replicate, List.set_cons_zero, List.set_cons_succ, List.getElem?_cons_zero, List.getElem?_cons_succ, List.filter_cons, List.filter_nil, Ar.isDk, List.all_cons, List.all_nil, no_dt, no_un, no_ow, no_dk, Bool.and_eq_true, Bool.true_and, Bool.and_true, Bool.false_eq_true, if_false, if_true, ite_true, ite_false, Option.some.injEq, exists_eq_left', true_and, and_true, List.cons_append, List.nil_append, Nat.sub_self, decide_eq_true_eq, Nat.reduceAdd, Nat.reduceSub, Nat.zero_add, Nat.le_refl, Nat.zero_le] <;> simp only [dIsTup, Bool.false_eq_true, if_false, if_true] <;> try exact h
  rename_i xs
  unfold isTup at h
  by_cases h1 : lo ≤ (xs.length : Int) <;> simp only [h1, decide_true, decide_false, Bool.true_and, Bool.false_and, if_true, if_false] at h ⊢ <;> exact h
def isInts (n : Int) : PyData → Bool
  | .tuple xs => decide ((xs.length : Int) = n) && xs.all isI
  | _ => false
def sd_is_integers : Sd := fun c as y Φ Ψ => ∃ d n, as = [.dt d, .dt (.int n)] ∧ n ≤ 100 ∧ Φ (.bool (isInts n d)) c
theorem ok_is_integers (Mx : Mo K mg) (C_is_integer : Cl false P w K mg base 1 "is_integer" ["value"] sd_is_integer) (C_is_tuple : Cl false P w K mg base 1 "is_tuple" ["value", "low", "high"] sd_is_tuple) : Cl false P w K mg base 2 "is_integers" ["value", "many"] sd_is_integers := by
  obtain ⟨fd, hm, Fn0⟩ := Mx.fn 4 "is_integers" (by decide +kernel)
  have hN : (["value", "many", "part"] : List Str).Nodup := by decide +kernel
  have Sc0 : FnScope ["value", "many", "part"] ["value", "many"] (defScope (top 4)) := ⟨rfl, rfl, rfl, hN, rfl, by decide +kernel, by decide +kernel⟩
  refine cl_mk Fn0 hm Sc0 (fun _ _ _ _ _ _ us hl => match us, hl with | [_, _], _ => rfl) (fun _ _ _ _ _ _ us hl => match us, hl with | [_, _], _ => rfl) fun cdv A outer s H E hr hG tk hp => ⟨_, (ss_one (s_ret (e_and (e_callC C_is_tuple (by decide) hr nog (by rfl) tk (a_cons (e_var (pv 0)) (a_cons (e_var (pv 1)) (a_cons (e_var (pv 1)) a_nil)))) (e_one (e_callB1 (c_all rfl) (by rfl) (Mx.fr "all" (by decide +kernel)) b_all (f_comp (own := [("part", 2)]) rfl hN (i_tup (e_var (pv 0))) (blkOk_by rfl) (by decide) (fun s' H' C' cl' fp' => (c_name (i := 2) hN (by rfl) (by first | exact .inl rfl | exact .inr rfl) (by first | exact .inl rfl | exact .inr rfl))) (fun s' H' C' cl' fp' => if_nil) (fun s' H' C' cl' fp' => (e_callC C_is_integer (by decide) hr nog (by rfl) takes0 (a_cons (e_var (pv 2)) a_nil)))).e.r))))), fun c as y Φ Ψ hn hs => ?_⟩
  obtain ⟨d, n, rfl, hn, h⟩ := hs
  simp only [↓n_asg_if, BQ.n_rt, sSeq, sNext, sRet, sRetF, sRetO, sDrop, sSet, sOwn, sAsg, sPar, sPar3, sAug, sApp, sIf, dIf, dTest, dAnd, dOr, dNot, dAndV, dOrV, d1, d2, d2F, dVar, dOwn, dC, dF, dTup, dLst, dNil, dCons, dCB, dCB1, dCF1, dChain, dChain3, dCall, dCallF, dCallK, aNil, aCons, aDk, dGn, dGnil, dGcons, dGtup, dOdIx, dGsub, dIdxT, dIdxL, dSlT, dSlL, dPart, dNoPart, dIl, dIt, frz, opn, cls, catD, startR, arS, seqOf, n_add, n_addT, n_sub, n_mul, n_fdiv, n_mod, n_pow, n_shl, n_cmp, n_is, n_neg, n_not, n_ixL, n_ixT, n_lenL, n_lenT, n_abs, n_gcd, n_isqrt, n_int, n_tupL, n_tupT, at10, at1n, at20, at21, at2n, at30, at31, at32, at3n, fD, mD, wipeR, dYes, ix32, ix31, n_boolC, sz0, sz1, sz2, sz3, sz4, sz5, sz6, sz7, sz8, n_eqI, n_neI, n_eq3, n_ne3, n_isi_int, n_isi_bool, n_isi_tuple, List.map_cons, List.map_nil, List.length_cons, List.length_nil, List.replicate, List.set_cons_zero, List.set_cons_succ, List.getElem?_cons_zero, List.getElem?_cons_succ, List.filter_cons, List.filter_nil, Ar.isDk, List.all_cons, List.all_nil, no_dt, no_un, no_ow, no_dk, Bool.and_eq_true, Bool.true_and, Bool.and_true, Bool.false_eq_true, if_false, if_true, ite_true, ite_false, Option.some.injEq, exists_eq_left', true_and, and_true, List.cons_append, List.nil_append, Nat.sub_self, decide_eq_true_eq, Nat.reduceAdd, Nat.reduceSub, Nat.zero_add, Nat.le_refl, Nat.zero_le]
  refine ⟨d, n, n, rfl, ?_⟩
  simp only [↓n_asg_if, BQ.n_rt, sSeq, sNext, sRet, sRetF, sRetO, sDrop, sSet, sOwn, sAsg, sPar, sPar3, sAug, sApp, sIf, dIf, dTest, dAnd, dOr, dNot, dAndV, dOrV, d1, d2, d2F, dVar, dOwn, dC, dF, dTup, dLst, dNil, dCons, dCB, dCB1, dCF1, dChain, dChain3, dCall, dCallF, dCallK, aNil, aCons, aDk, dGn, dGnil, dGcons, dGtup, dOdIx, dGsub, dIdxT, dIdxL, dSlT, dSlL, dPart, dNoPart, dIl, dIt, frz, opn, cls, catD, startR, arS, seqOf, n_add, n_addT, n_sub, n_mul, n_fdiv, n_mod, n_pow, n_shl, n_cmp, n_is, n_neg, n_not, n_ixL, n_ixT, n_lenL, n_lenT, n_abs, n_gcd, n_isqrt, n_int, n_tupL, n_tupT, at10, at1n, at20, at21, at2n, at30, at31, at32, at3n, fD, mD, wipeR, dYes, ix32, ix31, n_boolC, sz0, sz1, sz2, sz3, sz4, sz5, sz6, sz7, sz8, n_eqI, n_neI, n_eq3, n_ne3, n_isi_int, n_isi_bool, n_isi_tuple, List.map_cons, List.map_nil, List.length_cons, List.length_nil, List.replicate, List.set_cons_zero, List.set_cons_succ, List.getElem?_cons_zero, List.getElem?_cons_succ, List.filter_cons, List.filter_nil, Ar.isDk, List.all_cons, List.all_nil, no_dt, no_un, no_ow, no_dk, Bool.and_eq_true, Bool.true_and, Bool.and_true, Bool.false_eq_true, if_false, if_true, ite_true, ite_false, Option.some.injEq, exists_eq_left', true_and, and_true, List.cons_append, List.nil_append, Nat.sub_self, decide_eq_true_eq, Nat.reduceAdd, Nat.reduceSub, Nat.zero_add, Nat.le_refl, Nat.zero_le]
  cases d <;> try exact h
  rename_i xs
  have h : Φ (.bool (decide ((xs.length : Int) = n) && xs.all isI)) c := h
  unfold isTup
  by_cases hl : (xs.length : Int) = n
  · rw [if_pos (by simp [hl])]
    refine ⟨rfl, ?_⟩
    simp only [↓n_asg_if, BQ.n_rt, sSeq, sNext, sRet, sRetF, sRetO, sDrop, sSet, sOwn, sAsg, sPar, sPar3, sAug, sApp, sIf, dIf, dTest, dAnd, dOr, dNot, dAndV, dOrV, d1, d2, d2F, dVar, dOwn, dC, dF, dTup, dLst, dNil, dCons, dCB, dCB1, dCF1, dChain, dChain3, dCall, dCallF, dCallK, aNil, aCons, aDk, dGn, dGnil, dGcons, dGtup, dOdIx, dGsub, dIdxT, dIdxL, dSlT, dSlL, dPart, dNoPart, dIl, dIt, frz, opn, cls, catD, startR, arS, seqOf, n_add, n_addT, n_sub, n_mul, n_fdiv, n_mod, n_pow, n_shl, n_cmp, n_is, n_neg, n_not, n_ixL, n_ixT, n_lenL, n_lenT, n_abs, n_gcd, n_isqrt, n_int, n_tupL, n_tupT, at10, at1n, at20, at21, at2n, at30, at31, at32, at3n, fD, mD, wipeR, dYes, ix32, ix31, n_boolC, sz0, sz1, sz2, sz3, sz4, sz5, sz6, sz7, sz8, n_eqI, n_neI, n_eq3, n_ne3, n_isi_int, n_isi_bool, n_isi_tuple, List.map_cons, List.map_nil, List.length_cons, List.length_nil, List.replicate, List.set_cons_zero, List.set_cons_succ, List.getElem?_cons_zero, List.getElem?_cons_succ, List.filter_cons, List.filter_nil, Ar.isDk, List.all_cons, List.all_nil, no_dt, no_un, no_ow, no_dk, Bool.and_eq_true, Bool.true_and, Bool.and_true, Bool.false_eq_true, if_false, if_true, ite_true, ite_false, Option.some.injEq, exists_eq_left', true_and, and_true, List.cons_append, List.nil_append, Nat.sub_self, decide_eq_true_eq, Nat.reduceAdd, Nat.reduceSub, Nat.zero_add, Nat.le_refl, Nat.zero_le]
    refine compW_pure (fun d => some (.bool (isI d))) _ _ (fun d hd K1 K2 hk => ?_) (by rw [List.length_nil]; have := sizeLine_eq; omega) ?_
    · simp only [↓n_asg_if, BQ.n_rt, sSeq, sNext, sRet, sRetF, sRetO, sDrop, sSet, sOwn, sAsg, sPar, sPar3, sAug, sApp, sIf, dIf, dTest, dAnd, dOr, dNot, dAndV, dOrV, d1, d2, d2F, dVar, dOwn, dC, dF, dTup, dLst, dNil, dCons, dCB, dCB1, dCF1, dChain, dChain3, dCall, dCallF, dCallK, aNil, aCons, aDk, dGn, dGnil, dGcons, dGtup, dOdIx, dGsub, dIdxT, dIdxL, dSlT, dSlL, dPart, dNoPart, dIl, dIt, frz, opn, cls, catD, startR, arS, seqOf, n_add, n_addT, n_sub, n_mul, n_fdiv, n_mod, n_pow, n_shl, n_cmp, n_is, n_neg, n_not, n_ixL, n_ixT, n_lenL, n_lenT, n_abs, n_gcd, n_isqrt, n_int, n_tupL, n_tupT, at10, at1n, at20, at21, at2n, at30, at31, at32, at3n, fD, mD, wipeR, dYes, ix32, ix31, n_boolC, sz0, sz1, sz2, sz3, sz4, sz5, sz6, sz7, sz8, n_eqI, n_neI, n_eq3, n_ne3, n_isi_int, n_isi_bool, n_isi_tuple, List.map_cons, List.map_nil, List.length_cons, List.length_nil, List.replicate, List.set_cons_zero, List.set_cons_succ, List.getElem?_cons_zero, List.getElem?_cons_succ, List.filter_cons, List.filter_nil, Ar.isDk, List.all_cons, List.all_nil, no_dt, no_un, no_ow, no_dk, Bool.and_eq_true, Bool.true_and, Bool.and_true, Bool.false_eq_true, if_false, if_true, ite_true, ite_false, Option.some.injEq, exists_eq_left', true_and, and_true, List.cons_append, List.nil_append, Nat.sub_self, decide_eq_true_eq, Nat.reduceAdd, Nat.reduceSub, Nat.zero_add, Nat.le_refl, Nat.zero_le]
      exact ⟨d, rfl, hk⟩
    · refine ⟨xs.map isI, ?_, ?_⟩
      · rw [List.nil_append, filterMap_pure, List.map_map]
        rfl
      · show Φ (.bool ((xs.map isI).all fun b => b)) c
        rw [List.all_map]
        rw [decide_eq_true hl, Bool.true_and] at h
        exact h
  · rw [if_neg (by simp; omega)]
    rw [decide_eq_false hl, Bool.false_and] at h
    exact h
def sd_discriminant_of : Sd := fun c as y Φ Ψ => ∃ f : F, as = [.dt (fD f)] ∧ IntMulOk f.b f.b ∧ IntMulOk (4 * f.a) f.c ∧ Φ (.int f.disc) c
theorem ok_discriminant_of (Mx : Mo K mg)  : Cl false P w K mg base 1 "discriminant_of" ["f"] sd_discriminant_of := by
  obtain ⟨fd, hm, Fn0⟩ := Mx.fn 13 "discriminant_of" (by decide +kernel)
  have hN : (["f"] : List Str).Nodup := by decide +kernel
  have Sc0 : FnScope ["f"] ["f"] (defScope (top 13)) := ⟨rfl, rfl, rfl, hN, rfl, by decide +kernel, by decide +kernel⟩
  refine cl_mk Fn0 hm Sc0 (fun _ _ _ _ _ _ us hl => match us, hl with | [_], _ => rfl) (fun _ _ _ _ _ _ us hl => match us, hl with | [_], _ => rfl) fun cdv A outer s H E hr hG tk hp => ⟨_, (ss_one (s_ret (e_bin o_sub (e_bin o_mul (e_ix (r_own (pv 0)) e_int).r (e_ix (r_own (pv 0)) e_int).r).r (e_bin o_mul (e_bin o_mul e_int.r (e_ix (r_own (pv 0)) e_int).r).r (e_ix (r_own (pv 0)) e_int).r).r))), fun c as y Φ Ψ hn hs => ?_⟩
  obtain ⟨f, rfl, h1, h2, h⟩ := hs
  simp only [↓n_asg_if, BQ.n_rt, sSeq, sNext, sRet, sRetF, sRetO, sDrop, sSet, sOwn, sAsg, sPar, sPar3, sAug, sApp, sIf, dIf, dTest, dAnd, dOr, dNot, dAndV, dOrV, d1, d2, d2F, dVar, dOwn, dC, dF, dTup, dLst, dNil, dCons, dCB, dCB1, dCF1, dChain, dChain3, dCall, dCallF, dCallK, aNil, aCons, aDk, dGn, dGnil, dGcons, dGtup, dOdIx, dGsub, dIdxT, dIdxL, dSlT, dSlL, dPart, dNoPart, dIl, dIt, frz, opn, cls, catD, startR, arS, seqOf, n_add, n_addT, n_sub, n_mul, n_fdiv, n_mod, n_pow, n_shl, n_cmp, n_is, n_neg, n_not, n_ixL, n_ixT, n_lenL, n_lenT, n_abs, n_gcd, n_isqrt, n_int, n_tupL, n_tupT, at10, at1n, at20, at21, at2n, at30, at31, at32, at3n, fD, mD, wipeR, dYes, ix32, ix31, n_boolC, sz0, sz1, sz2, sz3, sz4, sz5, sz6, sz7, sz8, n_eqI, n_neI, n_eq3, n_ne3, n_isi_int, n_isi_bool, n_isi_tuple, List.map_cons, List.map_nil, List.length_cons, List.length_nil, List.replicate, List.set_cons_zero, List.set_cons_succ, List.getElem?_cons_zero, List.getElem?_cons_succ, List.filter_cons, List.filter_nil, Ar.isDk, List.all_cons, List.all_nil, no_dt, no_un, no_ow, no_dk, Bool.and_eq_true, Bool.true_and, Bool.and_true, Bool.false_eq_true, if_false, if_true, ite_true, ite_false, Option.some.injEq, exists_eq_left', true_and, and_true, List.cons_append, List.nil_append, Nat.sub_self, decide_eq_true_eq, Nat.reduceAdd, Nat.reduceSub, Nat.zero_add, Nat.le_refl, Nat.zero_le]
  exact ⟨h1, .of_left (by decide), h2, h⟩
def sd_divisor_of : Sd := fun c as y Φ Ψ => ∃ f : F, as = [.dt (fD f)] ∧ Φ (.int (Int.gcd (Int.gcd f.a f.b) f.c)) c
theorem ok_divisor_of (Mx : Mo K mg)  : Cl false P w K mg base 1 "divisor_of" ["f"] sd_divisor_of := by
  obtain ⟨fd, hm, Fn0⟩ := Mx.fn 14 "divisor_of" (by decide +kernel)
  have hN : (["f"] : List Str).Nodup := by decide +kernel
  have Sc0 : FnScope ["f"] ["f"] (defScope (top 14)) := ⟨rfl, rfl, rfl, hN, rfl, by decide +kernel, by decide +kernel⟩
  refine cl_mk Fn0 hm Sc0 (fun _ _ _ _ _ _ us hl => match us, hl with | [_], _ => rfl) (fun _ _ _ _ _ _ us hl => match us, hl with | [_], _ => rfl) fun cdv A outer s H E hr hG tk hp => ⟨_, (ss_one (s_ret (e_callBm c_gcd (by rfl) Mx.m_gcd (l_cons (e_callBm c_gcd (by rfl) Mx.m_gcd (l_cons (e_ix (r_own (pv 0)) e_int) (l_cons (e_ix (r_own (pv 0)) e_int) l_nil))) (l_cons (e_ix (r_own (pv 0)) e_int) l_nil))))), fun c as y Φ Ψ hn hs => ?_⟩
  obtain ⟨f, rfl, h⟩ := hs
  simp only [↓n_asg_if, BQ.n_rt, sSeq, sNext, sRet, sRetF, sRetO, sDrop, sSet, sOwn, sAsg, sPar, sPar3, sAug, sApp, sIf, dIf, dTest, dAnd, dOr, dNot, dAndV, dOrV, d1, d2, d2F, dVar, dOwn, dC, dF, dTup, dLst, dNil, dCons, dCB, dCB1, dCF1, dChain, dChain3, dCall, dCallF, dCallK, aNil, aCons, aDk, dGn, dGnil, dGcons, dGtup, dOdIx, dGsub, dIdxT, dIdxL, dSlT, dSlL, dPart, dNoPart, dIl, dIt, frz, opn, cls, catD, startR, arS, seqOf, n_add, n_addT, n_sub, n_mul, n_fdiv, n_mod, n_pow, n_shl, n_cmp, n_is, n_neg, n_not, n_ixL, n_ixT, n_lenL, n_lenT, n_abs, n_gcd, n_isqrt, n_int, n_tupL, n_tupT, at10, at1n, at20, at21, at2n, at30, at31, at32, at3n, fD, mD, wipeR, dYes, ix32, ix31, n_boolC, sz0, sz1, sz2, sz3, sz4, sz5, sz6, sz7, sz8, n_eqI, n_neI, n_eq3, n_ne3, n_isi_int, n_isi_bool, n_isi_tuple, List.map_cons, List.map_nil, List.length_cons, List.length_nil, List.replicate, List.set_cons_zero, List.set_cons_succ, List.getElem?_cons_zero, List.getElem?_cons_succ, List.filter_cons, List.filter_nil, Ar.isDk, List.all_cons, List.all_nil, no_dt, no_un, no_ow, no_dk, Bool.and_eq_true, Bool.true_and, Bool.and_true, Bool.false_eq_true, if_false, if_true, ite_true, ite_false, Option.some.injEq, exists_eq_left', true_and, and_true, List.cons_append, List.nil_append, Nat.sub_self, decide_eq_true_eq, Nat.reduceAdd, Nat.reduceSub, Nat.zero_add, Nat.le_refl, Nat.zero_le]
  exact h
/-- small enough to be told apart -/
def Ok64 (D : Int) : Prop := D < 2 ^ 64
def isSplit (D : Int) : Bool := decide (0 < D) && decide (rt D * rt D = D)
def DiscOk (f : F) : Prop := IntMulOk f.b f.b ∧ IntMulOk (4 * f.a) f.c
def sd_is_split : Sd := fun c as y Φ Ψ => ∃ f : F, as = [.dt (fD f)] ∧ DiscOk f ∧ f.disc < 2 ^ 60 ∧ Φ (.bool (isSplit f.disc)) c
theorem ok_is_split (Mx : Mo K mg) (C_discriminant_of : Cl false P w K mg base 1 "discriminant_of" ["f"] sd_discriminant_of) : Cl false P w K mg base 2 "is_split" ["f"] sd_is_split := by
  obtain ⟨fd, hm, Fn0⟩ := Mx.fn 15 "is_split" (by decide +kernel)
  have hN : (["f", "found"] : List Str).Nodup := by decide +kernel
  have Sc0 : FnScope ["f", "found"] ["f"] (defScope (top 15)) := ⟨rfl, rfl, rfl, hN, rfl, by decide +kernel, by decide +kernel⟩
  refine cl_mk Fn0 hm Sc0 (fun _ _ _ _ _ _ us hl => match us, hl with | [_], _ => rfl) (fun _ _ _ _ _ _ us hl => match us, hl with | [_], _ => rfl) fun cdv A outer s H E hr hG tk hp => ⟨_, (ss_cons (s_set (i := 1) hN (by rfl) (by first | exact .inl rfl | exact .inr rfl) (e_callC C_discriminant_of (by decide) hr nog (by rfl) tk (a_cons (e_var (pv 0)) a_nil)))
    (ss_one (s_ret (e_and (e_cmp o_gt (r_own (pv 1)) e_int.r rfl) (e_one (e_cmp (o_eqP (hu4 hr)) (e_bin o_pow (e_callBm c_isqrt (by rfl) Mx.m_isqrt (l_cons (e_var (pv 1)) l_nil)).r e_int.r).r (r_own (pv 1)) rfl)))))), fun c as y Φ Ψ hn hs => ?_⟩
  obtain ⟨f, rfl, h1, h2, h⟩ := hs
  simp only [↓n_asg_if, BQ.n_rt, sSeq, sNext, sRet, sRetF, sRetO, sDrop, sSet, sOwn, sAsg, sPar, sPar3, sAug, sApp, sIf, dIf, dTest, dAnd, dOr, dNot, dAndV, dOrV, d1, d2, d2F, dVar, dOwn, dC, dF, dTup, dLst, dNil, dCons, dCB, dCB1, dCF1, dChain, dChain3, dCall, dCallF, dCallK, aNil, aCons, aDk, dGn, dGnil, dGcons, dGtup, dOdIx, dGsub, dIdxT, dIdxL, dSlT, dSlL, dPart, dNoPart, dIl, dIt, frz, opn, cls, catD, startR, arS, seqOf, n_add, n_addT, n_sub, n_mul, n_fdiv, n_mod, n_pow, n_shl, n_cmp, n_is, n_neg, n_not, n_ixL, n_ixT, n_lenL, n_lenT, n_abs, n_gcd, n_isqrt, n_int, n_tupL, n_tupT, at10, at1n, at20, at21, at2n, at30, at31, at32, at3n, fD, mD, wipeR, dYes, ix32, ix31, n_boolC, sz0, sz1, sz2, sz3, sz4, sz5, sz6, sz7, sz8, n_eqI, n_neI, n_eq3, n_ne3, n_isi_int, n_isi_bool, n_isi_tuple, List.map_cons, List.map_nil, List.length_cons, List.length_nil, List.replicate, List.set_cons_zero, List.set_cons_succ, List.getElem?_cons_zero, List.getElem?_cons_succ, List.filter_cons, List.filter_nil, Ar.isDk, List.all_cons, List.all_nil, no_dt, no_un, no_ow, no_dk, Bool.and_eq_true, Bool.true_and, Bool.and_true, Bool.false_eq_true, if_false, if_true, ite_true, ite_false, Option.some.injEq, exists_eq_left', true_and, and_true, List.cons_append, List.nil_append, Nat.sub_self, decide_eq_true_eq, Nat.reduceAdd, Nat.reduceSub, Nat.zero_add, Nat.le_refl, Nat.zero_le]
  refine ⟨f, rfl, h1.1, h1.2, ?_⟩
  simp only [↓n_asg_if, BQ.n_rt, sSeq, sNext, sRet, sRetF, sRetO, sDrop, sSet, sOwn, sAsg, sPar, sPar3, sAug, sApp, sIf, dIf, dTest, dAnd, dOr, dNot, dAndV, dOrV, d1, d2, d2F, dVar, dOwn, dC, dF, dTup, dLst, dNil, dCons, dCB, dCB1, dCF1, dChain, dChain3, dCall, dCallF, dCallK, aNil, aCons, aDk, dGn, dGnil, dGcons, dGtup, dOdIx, dGsub, dIdxT, dIdxL, dSlT, dSlL, dPart, dNoPart, dIl, dIt, frz, opn, cls, catD, startR, arS, seqOf, n_add, n_addT, n_sub, n_mul, n_fdiv, n_mod, n_pow, n_shl, n_cmp, n_is, n_neg, n_not, n_ixL, n_ixT, n_lenL, n_lenT, n_abs, n_gcd, n_isqrt, n_int, n_tupL, n_tupT, at10, at1n, at20, at21, at2n, at30, at31, at32, at3n, fD, mD, wipeR, dYes, ix32, ix31, n_boolC, sz0, sz1, sz2, sz3, sz4, sz5, sz6, sz7, sz8, n_eqI, n_neI, n_eq3, n_ne3, n_isi_int, n_isi_bool, n_isi_tuple, List.map_cons, List.map_nil, List.length_cons, List.length_nil, List.replicate, List.set_cons_zero, List.set_cons_succ, List.getElem?_cons_zero, List.getElem?_cons_succ, List.filter_cons, List.filter_nil, Ar.isDk, List.all_cons, List.all_nil, no_dt, no_un, no_ow, no_dk, Bool.and_eq_true, Bool.true_and, Bool.and_true, Bool.false_eq_true, if_false, if_true, ite_true, ite_false, Option.some.injEq, exists_eq_left', true_and, and_true, List.cons_append, List.nil_append, Nat.sub_self, decide_eq_true_eq, Nat.reduceAdd, Nat.reduceSub, Nat.zero_add, Nat.le_refl, Nat.zero_le]
  by_cases hd : 0 < f.disc
  · rw [if_pos hd]
    obtain ⟨r0, r1, _⟩ := rt_ok (Int.le_of_lt hd)
    refine ⟨by omega, by omega, ⟨by decide, by decide, ?_⟩, ?_⟩
    · have : rt f.disc < 2 ^ 31 := sqlt (by decide) (by omega)
      omega
    · unfold isSplit at h
      rw [decide_eq_true hd, Bool.true_and] at h
      rw [show (rt f.disc) * (rt f.disc) = (rt f.disc) ^ (Int.toNat 2) by show _ = rt f.disc ^ 2; rw [Int.pow_succ, Int.pow_succ, Int.pow_zero, Int.one_mul]] at h
      exact h
  · rw [if_neg hd]
    unfold isSplit at h
    rw [decide_eq_false hd, Bool.false_and] at h
    exact h
/-- all products of f(x, y) can be made -/
def ValOk (f : F) (x y : Int) : Prop := IntMulOk f.a x ∧ IntMulOk (f.a * x) x ∧ IntMulOk f.b x ∧ IntMulOk (f.b * x) y ∧ IntMulOk f.c y ∧ IntMulOk (f.c * y) y
def sd_value_at : Sd := fun c as y Φ Ψ => ∃ (f : F) (u v : Int), as = [.dt (fD f), .dt (.int u), .dt (.int v)] ∧ ValOk f u v ∧ Φ (.int (f.val u v)) c
theorem ok_value_at (Mx : Mo K mg)  : Cl false P w K mg base 1 "value_at" ["f", "x", "y"] sd_value_at := by
  obtain ⟨fd, hm, Fn0⟩ := Mx.fn 16 "value_at" (by decide +kernel)
  have hN : (["f", "x", "y"] : List Str).Nodup := by decide +kernel
  have Sc0 : FnScope ["f", "x", "y"] ["f", "x", "y"] (defScope (top 16)) := ⟨rfl, rfl, rfl, hN, rfl, by decide +kernel, by decide +kernel⟩
  refine cl_mk Fn0 hm Sc0 (fun _ _ _ _ _ _ us hl => match us, hl with | [_, _, _], _ => rfl) (fun _ _ _ _ _ _ us hl => match us, hl with | [_, _, _], _ => rfl) fun cdv A outer s H E hr hG tk hp => ⟨_, (ss_one (s_ret (e_bin o_add (e_bin o_add (e_bin o_mul (e_bin o_mul (e_ix (r_own (pv 0)) e_int).r (r_own (pv 1))).r (r_own (pv 1))).r (e_bin o_mul (e_bin o_mul (e_ix (r_own (pv 0)) e_int).r (r_own (pv 1))).r (r_own (pv 2))).r).r (e_bin o_mul (e_bin o_mul (e_ix (r_own (pv 0)) e_int).r (r_own (pv 2))).r (r_own (pv 2))).r))), fun c as y Φ Ψ hn hs => ?_⟩
  obtain ⟨f, u, v, rfl, ⟨h1, h2, h3, h4, h5, h6⟩, h⟩ := hs
  simp only [↓n_asg_if, BQ.n_rt, sSeq, sNext, sRet, sRetF, sRetO, sDrop, sSet, sOwn, sAsg, sPar, sPar3, sAug, sApp, sIf, dIf, dTest, dAnd, dOr, dNot, dAndV, dOrV, d1, d2, d2F, dVar, dOwn, dC, dF, dTup, dLst, dNil, dCons, dCB, dCB1, dCF1, dChain, dChain3, dCall, dCallF, dCallK, aNil, aCons, aDk, dGn, dGnil, dGcons, dGtup, dOdIx, dGsub, dIdxT, dIdxL, dSlT, dSlL, dPart, dNoPart, dIl, dIt, frz, opn, cls, catD, startR, arS, seqOf, n_add, n_addT, n_sub, n_mul, n_fdiv, n_mod, n_pow, n_shl, n_cmp, n_is, n_neg, n_not, n_ixL, n_ixT, n_lenL, n_lenT, n_abs, n_gcd, n_isqrt, n_int, n_tupL, n_tupT, at10, at1n, at20, at21, at2n, at30, at31, at32, at3n, fD, mD, wipeR, dYes, ix32, ix31, n_boolC, sz0, sz1, sz2, sz3, sz4, sz5, sz6, sz7, sz8, n_eqI, n_neI, n_eq3, n_ne3, n_isi_int, n_isi_bool, n_isi_tuple, List.map_cons, List.map_nil, List.length_cons, List.length_nil, List.replicate, List.set_cons_zero, List.set_cons_succ, List.getElem?_cons_zero, List.getElem?_cons_succ, List.filter_cons, List.filter_nil, Ar.isDk, List.all_cons, List.all_nil, no_dt, no_un, no_ow, no_dk, Bool.and_eq_true, Bool.true_and, Bool.and_true, Bool.false_eq_true, if_false, if_true, ite_true, ite_false, Option.some.injEq, exists_eq_left', true_and, and_true, List.cons_append, List.nil_append, Nat.sub_self, decide_eq_true_eq, Nat.reduceAdd, Nat.reduceSub, Nat.zero_add, Nat.le_refl, Nat.zero_le]
  exact ⟨h1, h2, h3, h4, h5, h6, h⟩
def ByOk (f : F) (m : M) : Prop := ValOk f m.p m.r ∧ ValOk f m.q m.s ∧ IntMulOk (2 * f.a) m.p ∧ IntMulOk (2 * f.a * m.p) m.q ∧ IntMulOk m.p m.s ∧ IntMulOk m.q m.r ∧ IntMulOk f.b (m.p * m.s + m.q * m.r) ∧ IntMulOk (2 * f.c) m.r ∧ IntMulOk (2 * f.c * m.r) m.s
def sd_taken_by : Sd := fun c as y Φ Ψ => ∃ (f : F) (m : M), as = [.dt (fD f), .dt (mD m)] ∧ ByOk f m ∧ Φ (fD (f.by m)) c
theorem ok_taken_by (Mx : Mo K mg) (C_value_at : Cl false P w K mg base 1 "value_at" ["f", "x", "y"] sd_value_at) : Cl false P w K mg base 2 "taken_by" ["f", "step"] sd_taken_by := by
  obtain ⟨fd, hm, Fn0⟩ := Mx.fn 17 "taken_by" (by decide +kernel)
  have hN : (["f", "step", "p", "q", "r", "s", "middle"] : List Str).Nodup := by decide +kernel
  have Sc0 : FnScope ["f", "step", "p", "q", "r", "s", "middle"] ["f", "step"] (defScope (top 17)) := ⟨rfl, rfl, rfl, hN, rfl, by decide +kernel, by decide +kernel⟩
  refine cl_mk Fn0 hm Sc0 (fun _ _ _ _ _ _ us hl => match us, hl with | [_, _], _ => rfl) (fun _ _ _ _ _ _ us hl => match us, hl with | [_, _], _ => rfl) fun cdv A outer s H E hr hG tk hp => ⟨_, (ss_cons (s_asg (e_var (pv 1)) (g_tup (n := 2) (by rfl) (gs_cons (g_tup (n := 2) (by rfl) (gs_cons ((c_name (i := 2) hN (by rfl) (by first | exact .inl rfl | exact .inr rfl) (by first | exact .inl rfl | exact .inr rfl)).g) (gs_cons ((c_name (i := 3) hN (by rfl) (by first | exact .inl rfl | exact .inr rfl) (by first | exact .inl rfl | exact .inr rfl)).g) gs_nil))) (gs_cons (g_tup (n := 2) (by rfl) (gs_cons ((c_name (i := 4) hN (by rfl) (by first | exact .inl rfl | exact .inr rfl) (by first | exact .inl rfl | exact .inr rfl)).g) (gs_cons ((c_name (i := 5) hN (by rfl) (by first | exact .inl rfl | exact .inr rfl) (by first | exact .inl rfl | exact .inr rfl)).g) gs_nil))) gs_nil))))
    (ss_cons (s_set (i := 6) hN (by rfl) (by first | exact .inl rfl | exact .inr rfl) (e_bin o_add (e_bin o_add (e_bin o_mul (e_bin o_mul (e_bin o_mul e_int.r (e_ix (r_own (pv 0)) e_int).r).r (r_own (pv 2))).r (r_own (pv 3))).r (e_bin o_mul (e_ix (r_own (pv 0)) e_int).r (e_bin o_add (e_bin o_mul (r_own (pv 2)) (r_own (pv 5))).r (e_bin o_mul (r_own (pv 3)) (r_own (pv 4))).r).r).r).r (e_bin o_mul (e_bin o_mul (e_bin o_mul e_int.r (e_ix (r_own (pv 0)) e_int).r).r (r_own (pv 4))).r (r_own (pv 5))).r))
    (ss_one (s_ret (e_tup (l_cons (e_callC C_value_at (by decide) hr nog (by rfl) tk (a_cons (e_var (pv 0)) (a_cons (e_var (pv 2)) (a_cons (e_var (pv 4)) a_nil)))) (l_cons (e_var (pv 6)) (l_cons (e_callC C_value_at (by decide) hr nog (by rfl) tk (a_cons (e_var (pv 0)) (a_cons (e_var (pv 3)) (a_cons (e_var (pv 5)) a_nil)))) l_nil)))))))), fun c as y Φ Ψ hn hs => ?_⟩
  obtain ⟨f, m, rfl, ⟨h1, h2, h3, h4, h5, h6, h7, h8, h9⟩, h⟩ := hs
  simp only [↓n_asg_if, BQ.n_rt, sSeq, sNext, sRet, sRetF, sRetO, sDrop, sSet, sOwn, sAsg, sPar, sPar3, sAug, sApp, sIf, dIf, dTest, dAnd, dOr, dNot, dAndV, dOrV, d1, d2, d2F, dVar, dOwn, dC, dF, dTup, dLst, dNil, dCons, dCB, dCB1, dCF1, dChain, dChain3, dCall, dCallF, dCallK, aNil, aCons, aDk, dGn, dGnil, dGcons, dGtup, dOdIx, dGsub, dIdxT, dIdxL, dSlT, dSlL, dPart, dNoPart, dIl, dIt, frz, opn, cls, catD, startR, arS, seqOf, n_add, n_addT, n_sub, n_mul, n_fdiv, n_mod, n_pow, n_shl, n_cmp, n_is, n_neg, n_not, n_ixL, n_ixT, n_lenL, n_lenT, n_abs, n_gcd, n_isqrt, n_int, n_tupL, n_tupT, at10, at1n, at20, at21, at2n, at30, at31, at32, at3n, fD, mD, wipeR, dYes, ix32, ix31, n_boolC, sz0, sz1, sz2, sz3, sz4, sz5, sz6, sz7, sz8, n_eqI, n_neI, n_eq3, n_ne3, n_isi_int, n_isi_bool, n_isi_tuple, List.map_cons, List.map_nil, List.length_cons, List.length_nil, List.replicate, List.set_cons_zero, List.set_cons_succ, List.getElem?_cons_zero, List.getElem?_cons_succ, List.filter_cons, List.filter_nil, Ar.isDk, List.all_cons, List.all_nil, no_dt, no_un, no_ow, no_dk, Bool.and_eq_true, Bool.true_and, Bool.and_true, Bool.false_eq_true, if_false, if_true, ite_true, ite_false, Option.some.injEq, exists_eq_left', true_and, and_true, List.cons_append, List.nil_append, Nat.sub_self, decide_eq_true_eq, Nat.reduceAdd, Nat.reduceSub, Nat.zero_add, Nat.le_refl, Nat.zero_le]
  refine ⟨.of_left (by decide), h3, h4, h5, h6, h7, .of_left (by decide), h8, h9, f, m.p, m.r, rfl, h1, ?_⟩
  simp only [↓n_asg_if, BQ.n_rt, sSeq, sNext, sRet, sRetF, sRetO, sDrop, sSet, sOwn, sAsg, sPar, sPar3, sAug, sApp, sIf, dIf, dTest, dAnd, dOr, dNot, dAndV, dOrV, d1, d2, d2F, dVar, dOwn, dC, dF, dTup, dLst, dNil, dCons, dCB, dCB1, dCF1, dChain, dChain3, dCall, dCallF, dCallK, aNil, aCons, aDk, dGn, dGnil, dGcons, dGtup, dOdIx, dGsub, dIdxT, dIdxL, dSlT, dSlL, dPart, dNoPart, dIl, dIt, frz, opn, cls, catD, startR, arS, seqOf, n_add, n_addT, n_sub, n_mul, n_fdiv, n_mod, n_pow, n_shl, n_cmp, n_is, n_neg, n_not, n_ixL, n_ixT, n_lenL, n_lenT, n_abs, n_gcd, n_isqrt, n_int, n_tupL, n_tupT, at10, at1n, at20, at21, at2n, at30, at31, at32, at3n, fD, mD, wipeR, dYes, ix32, ix31, n_boolC, sz0, sz1, sz2, sz3, sz4, sz5, sz6, sz7, sz8, n_eqI, n_neI, n_eq3, n_ne3, n_isi_int, n_isi_bool, n_isi_tuple, List.map_cons, List.map_nil, List.length_cons, List.length_nil, List.replicate, List.set_cons_zero, List.set_cons_succ, List.getElem?_cons_zero, List.getElem?_cons_succ, List.filter_cons, List.filter_nil, Ar.isDk, List.all_cons, List.all_nil, no_dt, no_un, no_ow, no_dk, Bool.and_eq_true, Bool.true_and, Bool.and_true, Bool.false_eq_true, if_false, if_true, ite_true, ite_false, Option.some.injEq, exists_eq_left', true_and, and_true, List.cons_append, List.nil_append, Nat.sub_self, decide_eq_true_eq, Nat.reduceAdd, Nat.reduceSub, Nat.zero_add, Nat.le_refl, Nat.zero_le]
  exact ⟨f, m.q, m.s, rfl, h2, h⟩
def MulOk (x y : M) : Prop := IntMulOk x.p y.p ∧ IntMulOk x.q y.r ∧ IntMulOk x.p y.q ∧ IntMulOk x.q y.s ∧ IntMulOk x.r y.p ∧ IntMulOk x.s y.r ∧ IntMulOk x.r y.q ∧ IntMulOk x.s y.s
def sd_times_step : Sd := fun c as y Φ Ψ => ∃ x z : M, as = [.dt (mD x), .dt (mD z)] ∧ MulOk x z ∧ Φ (mD (x.mul z)) c
theorem ok_times_step (Mx : Mo K mg)  : Cl false P w K mg base 1 "times_step" ["one", "other"] sd_times_step := by
  obtain ⟨fd, hm, Fn0⟩ := Mx.fn 18 "times_step" (by decide +kernel)
  have hN : (["one", "other", "p", "q", "r", "s", "t", "u", "v", "w"] : List Str).Nodup := by decide +kernel
  have Sc0 : FnScope ["one", "other", "p", "q", "r", "s", "t", "u", "v", "w"] ["one", "other"] (defScope (top 18)) := ⟨rfl, rfl, rfl, hN, rfl, by decide +kernel, by decide +kernel⟩
  refine cl_mk Fn0 hm Sc0 (fun _ _ _ _ _ _ us hl => match us, hl with | [_, _], _ => rfl) (fun _ _ _ _ _ _ us hl => match us, hl with | [_, _], _ => rfl) fun cdv A outer s H E hr hG tk hp => ⟨_, (ss_cons (s_asg (e_var (pv 0)) (g_tup (n := 2) (by rfl) (gs_cons (g_tup (n := 2) (by rfl) (gs_cons ((c_name (i := 2) hN (by rfl) (by first | exact .inl rfl | exact .inr rfl) (by first | exact .inl rfl | exact .inr rfl)).g) (gs_cons ((c_name (i := 3) hN (by rfl) (by first | exact .inl rfl | exact .inr rfl) (by first | exact .inl rfl | exact .inr rfl)).g) gs_nil))) (gs_cons (g_tup (n := 2) (by rfl) (gs_cons ((c_name (i := 4) hN (by rfl) (by first | exact .inl rfl | exact .inr rfl) (by first | exact .inl rfl | exact .inr rfl)).g) (gs_cons ((c_name (i := 5) hN (by rfl) (by first | exact .inl rfl | exact .inr rfl) (by first | exact .inl rfl | exact .inr rfl)).g) gs_nil))) gs_nil))))
    (ss_cons (s_asg (e_var (pv 1)) (g_tup (n := 2) (by rfl) (gs_cons (g_tup (n := 2) (by rfl) (gs_cons ((c_name (i := 6) hN (by rfl) (by first | exact .inl rfl | exact .inr rfl) (by first | exact .inl rfl | exact .inr rfl)).g) (gs_cons ((c_name (i := 7) hN (by rfl) (by first | exact .inl rfl | exact .inr rfl) (by first | exact .inl rfl | exact .inr rfl)).g) gs_nil))) (gs_cons (g_tup (n := 2) (by rfl) (gs_cons ((c_name (i := 8) hN (by rfl) (by first | exact .inl rfl | exact .inr rfl) (by first | exact .inl rfl | exact .inr rfl)).g) (gs_cons ((c_name (i := 9) hN (by rfl) (by first | exact .inl rfl | exact .inr rfl) (by first | exact .inl rfl | exact .inr rfl)).g) gs_nil))) gs_nil))))
    (ss_one (s_ret (e_tup (l_cons (e_tup (l_cons (e_bin o_add (e_bin o_mul (r_own (pv 2)) (r_own (pv 6))).r (e_bin o_mul (r_own (pv 3)) (r_own (pv 8))).r) (l_cons (e_bin o_add (e_bin o_mul (r_own (pv 2)) (r_own (pv 7))).r (e_bin o_mul (r_own (pv 3)) (r_own (pv 9))).r) l_nil))) (l_cons (e_tup (l_cons (e_bin o_add (e_bin o_mul (r_own (pv 4)) (r_own (pv 6))).r (e_bin o_mul (r_own (pv 5)) (r_own (pv 8))).r) (l_cons (e_bin o_add (e_bin o_mul (r_own (pv 4)) (r_own (pv 7))).r (e_bin o_mul (r_own (pv 5)) (r_own (pv 9))).r) l_nil))) l_nil))))))), fun c as y Φ Ψ hn hs => ?_⟩
  obtain ⟨x, z, rfl, ⟨h1, h2, h3, h4, h5, h6, h7, h8⟩, h⟩ := hs
  simp only [↓n_asg_if, BQ.n_rt, sSeq, sNext, sRet, sRetF, sRetO, sDrop, sSet, sOwn, sAsg, sPar, sPar3, sAug, sApp, sIf, dIf, dTest, dAnd, dOr, dNot, dAndV, dOrV, d1, d2, d2F, dVar, dOwn, dC, dF, dTup, dLst, dNil, dCons, dCB, dCB1, dCF1, dChain, dChain3, dCall, dCallF, dCallK, aNil, aCons, aDk, dGn, dGnil, dGcons, dGtup, dOdIx, dGsub, dIdxT, dIdxL, dSlT, dSlL, dPart, dNoPart, dIl, dIt, frz, opn, cls, catD, startR, arS, seqOf, n_add, n_addT, n_sub, n_mul, n_fdiv, n_mod, n_pow, n_shl, n_cmp, n_is, n_neg, n_not, n_ixL, n_ixT, n_lenL, n_lenT, n_abs, n_gcd, n_isqrt, n_int, n_tupL, n_tupT, at10, at1n, at20, at21, at2n, at30, at31, at32, at3n, fD, mD, wipeR, dYes, ix32, ix31, n_boolC, sz0, sz1, sz2, sz3, sz4, sz5, sz6, sz7, sz8, n_eqI, n_neI, n_eq3, n_ne3, n_isi_int, n_isi_bool, n_isi_tuple, List.map_cons, List.map_nil, List.length_cons, List.length_nil, List.replicate, List.set_cons_zero, List.set_cons_succ, List.getElem?_cons_zero, List.getElem?_cons_succ, List.filter_cons, List.filter_nil, Ar.isDk, List.all_cons, List.all_nil, no_dt, no_un, no_ow, no_dk, Bool.and_eq_true, Bool.true_and, Bool.and_true, Bool.false_eq_true, if_false, if_true, ite_true, ite_false, Option.some.injEq, exists_eq_left', true_and, and_true, List.cons_append, List.nil_append, Nat.sub_self, decide_eq_true_eq, Nat.reduceAdd, Nat.reduceSub, Nat.zero_add, Nat.le_refl, Nat.zero_le]
  exact ⟨h1, h2, h3, h4, h5, h6, h7, h8, h⟩
end
end K31

/-! Reduction, as the program goes. -/
namespace K31
open PySem PySem.Spec PyProof.Rows L2 DL BQ
section
variable {P : Program} {w : World} {K : PySem.W.Frag} {mg : Str → Option Value} {base : Heap}
theorem mL {a b : Int} (h1 : -18446744073709551616 < a) (h2 : a < 18446744073709551616) : IntMulOk a b := .of_left (intBits_le_64 (by omega) (by omega))
theorem mR {a b : Int} (h1 : -18446744073709551616 < b) (h2 : b < 18446744073709551616) : IntMulOk a b := .of_right (intBits_le_64 (by omega) (by omega))
theorem dOk {j : Int} (h0 : j ≠ 0) (h1 : -18446744073709551616 < j) (h2 : j < 18446744073709551616) : DivOk j := by
  refine ⟨h0, Nat.lt_of_lt_of_le (m := 65) ?_ (by decide)⟩
  rw [Nat.log2_lt (by omega)]
  have : (18446744073709551616 : Nat) < 2 ^ 65 := by decide
  omega
/-- all items below 2 ^ 31 -/
def Sm (m : M) : Prop := m.p.natAbs < 2 ^ 31 ∧ m.q.natAbs < 2 ^ 31 ∧ m.r.natAbs < 2 ^ 31 ∧ m.s.natAbs < 2 ^ 31
theorem mulS (x : Int) {z : Int} (h : z.natAbs < 2 ^ 31) : IntMulOk x z := mR (by omega) (by omega)
theorem Sm.by_ {m : M} (h : Sm m) (f : BQ.F) : ByOk f m := by
  obtain ⟨h1, h2, h3, h4⟩ := h
  refine ⟨⟨mulS _ h1, mulS _ h1, mulS _ h1, mulS _ h3, mulS _ h3, mulS _ h3⟩, ⟨mulS _ h2, mulS _ h2, mulS _ h2, mulS _ h4, mulS _ h4, mulS _ h4⟩, mulS _ h1, mulS _ h2, mulS _ h4, mulS _ h3, ?_, mulS _ h3, mulS _ h4⟩
  have e1 : (m.p * m.s).natAbs ≤ 2 ^ 31 * 2 ^ 31 := by rw [Int.natAbs_mul]; exact Nat.mul_le_mul (by omega) (by omega)
  have e2 : (m.q * m.r).natAbs ≤ 2 ^ 31 * 2 ^ 31 := by rw [Int.natAbs_mul]; exact Nat.mul_le_mul (by omega) (by omega)
  exact mR (by omega) (by omega)
theorem Sm.mul_ {m : M} (h : Sm m) (x : BQ.M) : MulOk x m := by
  obtain ⟨h1, h2, h3, h4⟩ := h
  exact ⟨mulS _ h1, mulS _ h3, mulS _ h2, mulS _ h4, mulS _ h1, mulS _ h3, mulS _ h2, mulS _ h4⟩
theorem Sm.T {t : Int} (h : t.natAbs < 2 ^ 31) : Sm (T t) := ⟨show (0 : Int).natAbs < 2 ^ 31 by decide, show (-1 : Int).natAbs < 2 ^ 31 by decide, show (1 : Int).natAbs < 2 ^ 31 by decide, h⟩
theorem Sm.S {t : Int} (h : t.natAbs < 2 ^ 31) : Sm (S t) := ⟨show (1 : Int).natAbs < 2 ^ 31 by decide, h, show (0 : Int).natAbs < 2 ^ 31 by decide, show (1 : Int).natAbs < 2 ^ 31 by decide⟩
def sd_bezout : Sd := fun c as y Φ Ψ => ∃ u v : Int, as = [.dt (.int u), .dt (.int v)] ∧ u.natAbs < 2 ^ 24 ∧ v.natAbs < 2 ^ 24 ∧
  ∀ p q : Int, p * u + q * v = Int.gcd u v → p.natAbs ≤ 2 ^ 1275 → q.natAbs ≤ 2 ^ 1275 → Φ (.tuple [.int p, .int q]) c
theorem ok_bezout (Mx : Mo K mg)  : Cl false P w K mg base 1 "bezout" ["a", "b"] sd_bezout := by
  obtain ⟨fd, hm, Fn0⟩ := Mx.fn 19 "bezout" (by decide +kernel)
  have hN : (["a", "b", "x", "y", "more_x", "more_y", "times"] : List Str).Nodup := by decide +kernel
  have Sc0 : FnScope ["a", "b", "x", "y", "more_x", "more_y", "times"] ["a", "b"] (defScope (top 19)) := ⟨rfl, rfl, rfl, hN, rfl, by decide +kernel, by decide +kernel⟩
  refine cl_mk Fn0 hm Sc0 (fun _ _ _ _ _ _ us hl => match us, hl with | [_, _], _ => rfl) (fun _ _ _ _ _ _ us hl => match us, hl with | [_, _], _ => rfl) fun cdv A outer s H E hr hG tk hp => ⟨_, (ss_cons (s_asg (e_tup (l_cons e_int (l_cons e_int (l_cons e_int (l_cons e_int l_nil))))) (g_tup (n := 4) (by rfl) (gs_cons ((c_name (i := 2) hN (by rfl) (by first | exact .inl rfl | exact .inr rfl) (by first | exact .inl rfl | exact .inr rfl)).g) (gs_cons ((c_name (i := 3) hN (by rfl) (by first | exact .inl rfl | exact .inr rfl) (by first | exact .inl rfl | exact .inr rfl)).g) (gs_cons ((c_name (i := 4) hN (by rfl) (by first | exact .inl rfl | exact .inr rfl) (by first | exact .inl rfl | exact .inr rfl)).g) (gs_cons ((c_name (i := 5) hN (by rfl) (by first | exact .inl rfl | exact .inr rfl) (by first | exact .inl rfl | exact .inr rfl)).g) gs_nil))))))
    (ss_cons (s_while hp (t_cmp (o_neP (hu4 hr)) (r_own (pv 1)) e_int.r rfl) (ss_cons (s_set (i := 6) hN (by rfl) (by first | exact .inl rfl | exact .inr rfl) (e_bin o_fdiv (r_own (pv 0)) (r_own (pv 1))))
    (ss_cons (s_par (i := 0) (j := 1) rfl hN rfl rfl (by decide) rfl rfl (l_cons (e_var (pv 1)) (l_cons (e_bin o_sub (r_own (pv 0)) (e_bin o_mul (r_own (pv 6)) (r_own (pv 1))).r) l_nil)) rfl)
    (ss_cons (s_par (i := 2) (j := 4) rfl hN rfl rfl (by decide) rfl rfl (l_cons (e_var (pv 4)) (l_cons (e_bin o_sub (r_own (pv 2)) (e_bin o_mul (r_own (pv 6)) (r_own (pv 4))).r) l_nil)) rfl)
    (ss_one (s_par (i := 3) (j := 5) rfl hN rfl rfl (by decide) rfl rfl (l_cons (e_var (pv 5)) (l_cons (e_bin o_sub (r_own (pv 3)) (e_bin o_mul (r_own (pv 6)) (r_own (pv 5))).r) l_nil)) rfl))))))
    (ss_one (s_ret (e_if (t_cmp o_gt (r_own (pv 0)) e_int.r rfl) (e_tup (l_cons (e_var (pv 2)) (l_cons (e_var (pv 3)) l_nil))) (e_tup (l_cons (e_un o_neg (e_var (pv 2))) (l_cons (e_un o_neg (e_var (pv 3))) l_nil)))))))), fun c as y Φ Ψ hn hs => ?_⟩
  obtain ⟨u, v, rfl, hu, hv, h⟩ := hs
  simp only [↓n_asg_if, BQ.n_rt, sSeq, sNext, sRet, sRetF, sRetO, sDrop, sSet, sOwn, sAsg, sPar, sPar3, sAug, sApp, sIf, dIf, dTest, dAnd, dOr, dNot, dAndV, dOrV, d1, d2, d2F, dVar, dOwn, dC, dF, dTup, dLst, dNil, dCons, dCB, dCB1, dCF1, dChain, dChain3, dCall, dCallF, dCallK, aNil, aCons, aDk, dGn, dGnil, dGcons, dGtup, dOdIx, dGsub, dIdxT, dIdxL, dSlT, dSlL, dPart, dNoPart, dIl, dIt, frz, opn, cls, catD, startR, arS, seqOf, n_add, n_addT, n_sub, n_mul, n_fdiv, n_mod, n_pow, n_shl, n_cmp, n_is, n_neg, n_not, n_ixL, n_ixT, n_lenL, n_lenT, n_abs, n_gcd, n_isqrt, n_int, n_tupL, n_tupT, at10, at1n, at20, at21, at2n, at30, at31, at32, at3n, fD, mD, wipeR, dYes, ix32, ix31, n_boolC, sz0, sz1, sz2, sz3, sz4, sz5, sz6, sz7, sz8, n_eqI, n_neI, n_eq3, n_ne3, n_isi_int, n_isi_bool, n_isi_tuple, List.map_cons, List.map_nil, List.length_cons, List.length_nil, List.replicate, List.set_cons_zero, List.set_cons_succ, List.getElem?_cons_zero, List.getElem?_cons_succ, List.filter_cons, List.filter_nil, Ar.isDk, List.all_cons, List.all_nil, no_dt, no_un, no_ow, no_dk, Bool.and_eq_true, Bool.true_and, Bool.and_true, Bool.false_eq_true, if_false, if_true, ite_true, ite_false, Option.some.injEq, exists_eq_left', true_and, and_true, List.cons_append, List.nil_append, Nat.sub_self, decide_eq_true_eq, Nat.reduceAdd, Nat.reduceSub, Nat.zero_add, Nat.le_refl, Nat.zero_le]
  refine ⟨fun m c' ρ => ∃ (a b : Int) (N : BQ.M) (sl : Sl), ρ = [.dt (.int a), .dt (.int b), .dt (.int N.p), .dt (.int N.r), .dt (.int N.q), .dt (.int N.s), sl] ∧ c' = c ∧ Eu u v a b N ∧ a.natAbs < 2 ^ 24 ∧ b.natAbs < 2 ^ 24 ∧ m = em a b ∧ ∃ k, k + 25 * m ≤ 1275 ∧ Mb k N,
    ⟨em u v, u, v, BQ.M.one, .un, rfl, rfl, Eu.start u v, hu, hv, rfl, 0, by have := em_le hv hu; omega, Mb.one⟩, ?_⟩
  rintro m c' ρ ⟨a, b, N, sl, rfl, rfl, E, ha, hb, rfl, k, hk, hM⟩
  simp only [↓n_asg_if, BQ.n_rt, sSeq, sNext, sRet, sRetF, sRetO, sDrop, sSet, sOwn, sAsg, sPar, sPar3, sAug, sApp, sIf, dIf, dTest, dAnd, dOr, dNot, dAndV, dOrV, d1, d2, d2F, dVar, dOwn, dC, dF, dTup, dLst, dNil, dCons, dCB, dCB1, dCF1, dChain, dChain3, dCall, dCallF, dCallK, aNil, aCons, aDk, dGn, dGnil, dGcons, dGtup, dOdIx, dGsub, dIdxT, dIdxL, dSlT, dSlL, dPart, dNoPart, dIl, dIt, frz, opn, cls, catD, startR, arS, seqOf, n_add, n_addT, n_sub, n_mul, n_fdiv, n_mod, n_pow, n_shl, n_cmp, n_is, n_neg, n_not, n_ixL, n_ixT, n_lenL, n_lenT, n_abs, n_gcd, n_isqrt, n_int, n_tupL, n_tupT, at10, at1n, at20, at21, at2n, at30, at31, at32, at3n, fD, mD, wipeR, dYes, ix32, ix31, n_boolC, sz0, sz1, sz2, sz3, sz4, sz5, sz6, sz7, sz8, n_eqI, n_neI, n_eq3, n_ne3, n_isi_int, n_isi_bool, n_isi_tuple, List.map_cons, List.map_nil, List.length_cons, List.length_nil, List.replicate, List.set_cons_zero, List.set_cons_succ, List.getElem?_cons_zero, List.getElem?_cons_succ, List.filter_cons, List.filter_nil, Ar.isDk, List.all_cons, List.all_nil, no_dt, no_un, no_ow, no_dk, Bool.and_eq_true, Bool.true_and, Bool.and_true, Bool.false_eq_true, if_false, if_true, ite_true, ite_false, Option.some.injEq, exists_eq_left', true_and, and_true, List.cons_append, List.nil_append, Nat.sub_self, decide_eq_true_eq, Nat.reduceAdd, Nat.reduceSub, Nat.zero_add, Nat.le_refl, Nat.zero_le]
  by_cases hb0 : b = 0
  · subst hb0
    rw [if_neg (by simp)]
    have hg : (a.natAbs : Int) = Int.gcd u v := by rw [← E.gcd]; simp
    have e := E.fst
    have hk2 : 2 ^ k ≤ 2 ^ 1275 := Nat.pow_le_pow_right (by decide) (by omega)
    obtain ⟨h1, h2, h3, h4⟩ := hM
    by_cases h0 : 0 < a
    · rw [if_pos h0]
      exact h _ _ (by rw [← hg, Int.mul_comm, Int.mul_comm N.r]; omega) (by omega) (by omega)
    · rw [if_neg h0]
      refine h _ _ ?_ (by rw [Int.natAbs_neg]; omega) (by rw [Int.natAbs_neg]; omega)
      rw [← hg, Int.neg_mul, Int.neg_mul, Int.mul_comm, Int.mul_comm N.r]
      omega
  · rw [if_pos (by simpa using hb0)]
    have ht := fdiv_le a b
    have hr := fmod_eq a b
    have hl := em_lt (a := a) hb0
    have hs := fmod_small a hb0
    refine ⟨dOk hb0 (by omega) (by omega), mL (by omega) (by omega), mL (by omega) (by omega), mL (by omega) (by omega), em b (a - a.fdiv b * b), hl, b, _, N.mul (Q (a.fdiv b)), .dt (.int (a.fdiv b)), ?_, E.step _, hb, ?_, rfl, k + 25, by omega, Mb.Q hM ?_⟩
    · simp only [M.mul, Q, Int.mul_zero, Int.mul_one, Int.zero_add]
      congr 5 <;> grind
    · rw [hr]
      rcases Int.lt_or_gt_of_ne hb0 with z | z
      · have := hs.2 z; omega
      · have := hs.1 z; omega
    · have : 2 ^ 24 + 1 ≤ 2 ^ 25 := by decide
      omega
def isRedP (f : F) : Bool := if f.disc < 0 then decide (RedD (if f.a < 0 then f.neg else f)) else if isSplit f.disc = true then decide (f.c = 0 ∧ 0 < f.b ∧ 0 ≤ f.a ∧ f.a < f.b) else decide (Red (rt f.disc) f)
def sd_is_reduced_form : Sd := fun c as y Φ Ψ => ∃ f : F, as = [.dt (fD f)] ∧ DiscOk f ∧ f.disc < 2 ^ 60 ∧ Φ (.bool (isRedP f)) c
theorem ok_is_reduced_form (Mx : Mo K mg) (C_discriminant_of : Cl false P w K mg base 1 "discriminant_of" ["f"] sd_discriminant_of) (C_is_split : Cl false P w K mg base 2 "is_split" ["f"] sd_is_split) : Cl false P w K mg base 3 "is_reduced_form" ["f"] sd_is_reduced_form := by
  obtain ⟨fd, hm, Fn0⟩ := Mx.fn 20 "is_reduced_form" (by decide +kernel)
  have hN : (["f", "a", "b", "c", "found", "root"] : List Str).Nodup := by decide +kernel
  have Sc0 : FnScope ["f", "a", "b", "c", "found", "root"] ["f"] (defScope (top 20)) := ⟨rfl, rfl, rfl, hN, rfl, by decide +kernel, by decide +kernel⟩
  refine cl_mk Fn0 hm Sc0 (fun _ _ _ _ _ _ us hl => match us, hl with | [_], _ => rfl) (fun _ _ _ _ _ _ us hl => match us, hl with | [_], _ => rfl) fun cdv A outer s H E hr hG tk hp => ⟨_, (ss_cons (s_asg (e_var (pv 0)) (g_tup (n := 3) (by rfl) (gs_cons ((c_name (i := 1) hN (by rfl) (by first | exact .inl rfl | exact .inr rfl) (by first | exact .inl rfl | exact .inr rfl)).g) (gs_cons ((c_name (i := 2) hN (by rfl) (by first | exact .inl rfl | exact .inr rfl) (by first | exact .inl rfl | exact .inr rfl)).g) (gs_cons ((c_name (i := 3) hN (by rfl) (by first | exact .inl rfl | exact .inr rfl) (by first | exact .inl rfl | exact .inr rfl)).g) gs_nil)))))
    (ss_cons (s_set (i := 4) hN (by rfl) (by first | exact .inl rfl | exact .inr rfl) (e_callC C_discriminant_of (by decide) hr nog (by rfl) tk (a_cons (e_var (pv 0)) a_nil)))
    (ss_cons (s_if (t_cmp o_lt (r_own (pv 4)) e_int.r rfl) (ss_cons (s_if (t_cmp o_lt (r_own (pv 1)) e_int.r rfl) (ss_one (s_par3 (i := 1) (j := 2) (l := 3) rfl hN rfl rfl rfl (by decide) (by decide) (by decide) rfl rfl rfl (l_cons (e_un o_neg (e_var (pv 1))) (l_cons (e_un o_neg (e_var (pv 2))) (l_cons (e_un o_neg (e_var (pv 3))) l_nil))) rfl)) ss_nil)
    (ss_one (s_ret (e_and (e_chain o_le o_le (e_callB c_abs (by rfl) (Mx.fr "abs" (by decide +kernel)) b_abs (l_cons (e_var (pv 2)) l_nil)) (e_var (pv 1)) (e_var (pv 3))) (e_one (e_or (e_cmp o_ge (r_own (pv 2)) e_int.r rfl) (e_one (e_and (e_cmp (o_neP (hu4 hr)) (e_callB c_abs (by rfl) (Mx.fr "abs" (by decide +kernel)) b_abs (l_cons (e_var (pv 2)) l_nil)).r (r_own (pv 1)) rfl) (e_one (e_cmp (o_neP (hu4 hr)) (r_own (pv 1)) (r_own (pv 3)) rfl)))))))))) ss_nil)
    (ss_cons (s_if (t_val (e_callC C_is_split (by decide) hr nog (by rfl) tk (a_cons (e_var (pv 0)) a_nil))) (ss_one (s_ret (e_and (e_cmp (o_eqP (hu4 hr)) (r_own (pv 3)) e_int.r rfl) (e_and (e_cmp o_gt (r_own (pv 2)) e_int.r rfl) (e_one (e_chain o_le o_lt e_int (e_var (pv 1)) (e_var (pv 2)))))))) ss_nil)
    (ss_cons (s_set (i := 5) hN (by rfl) (by first | exact .inl rfl | exact .inr rfl) (e_callBm c_isqrt (by rfl) Mx.m_isqrt (l_cons (e_var (pv 4)) l_nil)))
    (ss_one (s_ret (e_and (e_chain3 o_lt o_le o_lt e_int (e_var (pv 2)) (e_var (pv 5)) (e_bin o_add (e_bin o_mul e_int.r (e_callB c_abs (by rfl) (Mx.fr "abs" (by decide +kernel)) b_abs (l_cons (e_var (pv 1)) l_nil)).r).r (r_own (pv 2)))) (e_one (e_cmp o_le (e_bin o_sub (e_bin o_mul e_int.r (e_callB c_abs (by rfl) (Mx.fr "abs" (by decide +kernel)) b_abs (l_cons (e_var (pv 1)) l_nil)).r).r (r_own (pv 2))).r (r_own (pv 5)) rfl)))))))))), fun c as y Φ Ψ hn hs => ?_⟩
  obtain ⟨f, rfl, h1, h2, h⟩ := hs
  simp only [↓n_asg_if, BQ.n_rt, sSeq, sNext, sRet, sRetF, sRetO, sDrop, sSet, sOwn, sAsg, sPar, sPar3, sAug, sApp, sIf, dIf, dTest, dAnd, dOr, dNot, dAndV, dOrV, d1, d2, d2F, dVar, dOwn, dC, dF, dTup, dLst, dNil, dCons, dCB, dCB1, dCF1, dChain, dChain3, dCall, dCallF, dCallK, aNil, aCons, aDk, dGn, dGnil, dGcons, dGtup, dOdIx, dGsub, dIdxT, dIdxL, dSlT, dSlL, dPart, dNoPart, dIl, dIt, frz, opn, cls, catD, startR, arS, seqOf, n_add, n_addT, n_sub, n_mul, n_fdiv, n_mod, n_pow, n_shl, n_cmp, n_is, n_neg, n_not, n_ixL, n_ixT, n_lenL, n_lenT, n_abs, n_gcd, n_isqrt, n_int, n_tupL, n_tupT, at10, at1n, at20, at21, at2n, at30, at31, at32, at3n, fD, mD, wipeR, dYes, ix32, ix31, n_boolC, sz0, sz1, sz2, sz3, sz4, sz5, sz6, sz7, sz8, n_eqI, n_neI, n_eq3, n_ne3, n_isi_int, n_isi_bool, n_isi_tuple, List.map_cons, List.map_nil, List.length_cons, List.length_nil, List.replicate, List.set_cons_zero, List.set_cons_succ, List.getElem?_cons_zero, List.getElem?_cons_succ, List.filter_cons, List.filter_nil, Ar.isDk, List.all_cons, List.all_nil, no_dt, no_un, no_ow, no_dk, Bool.and_eq_true, Bool.true_and, Bool.and_true, Bool.false_eq_true, if_false, if_true, ite_true, ite_false, Option.some.injEq, exists_eq_left', true_and, and_true, List.cons_append, List.nil_append, Nat.sub_self, decide_eq_true_eq, Nat.reduceAdd, Nat.reduceSub, Nat.zero_add, Nat.le_refl, Nat.zero_le]
  refine ⟨f, rfl, h1.1, h1.2, ?_⟩
  simp only [↓n_asg_if, BQ.n_rt, sSeq, sNext, sRet, sRetF, sRetO, sDrop, sSet, sOwn, sAsg, sPar, sPar3, sAug, sApp, sIf, dIf, dTest, dAnd, dOr, dNot, dAndV, dOrV, d1, d2, d2F, dVar, dOwn, dC, dF, dTup, dLst, dNil, dCons, dCB, dCB1, dCF1, dChain, dChain3, dCall, dCallF, dCallK, aNil, aCons, aDk, dGn, dGnil, dGcons, dGtup, dOdIx, dGsub, dIdxT, dIdxL, dSlT, dSlL, dPart, dNoPart, dIl, dIt, frz, opn, cls, catD, startR, arS, seqOf, n_add, n_addT, n_sub, n_mul, n_fdiv, n_mod, n_pow, n_shl, n_cmp, n_is, n_neg, n_not, n_ixL, n_ixT, n_lenL, n_lenT, n_abs, n_gcd, n_isqrt, n_int, n_tupL, n_tupT, at10, at1n, at20, at21, at2n, at30, at31, at32, at3n, fD, mD, wipeR, dYes, ix32, ix31, n_boolC, sz0, sz1, sz2, sz3, sz4, sz5, sz6, sz7, sz8, n_eqI, n_neI, n_eq3, n_ne3, n_isi_int, n_isi_bool, n_isi_tuple, List.map_cons, List.map_nil, List.length_cons, List.length_nil, List.replicate, List.set_cons_zero, List.set_cons_succ, List.getElem?_cons_zero, List.getElem?_cons_succ, List.filter_cons, List.filter_nil, Ar.isDk, List.all_cons, List.all_nil, no_dt, no_un, no_ow, no_dk, Bool.and_eq_true, Bool.true_and, Bool.and_true, Bool.false_eq_true, if_false, if_true, ite_true, ite_false, Option.some.injEq, exists_eq_left', true_and, and_true, List.cons_append, List.nil_append, Nat.sub_self, decide_eq_true_eq, Nat.reduceAdd, Nat.reduceSub, Nat.zero_add, Nat.le_refl, Nat.zero_le]
  unfold isRedP at h
  by_cases hd : f.disc < 0
  · rw [if_pos hd] at h ⊢
    have fin : ∀ a b d : Int, Φ (.bool (decide (RedD ⟨a, b, d⟩))) c → if (b.natAbs : Int) ≤ a then (if a ≤ d then (if 0 ≤ b then Φ (.bool true) c else if (!decide ((b.natAbs : Int) = a)) = true then Φ (.bool !decide (a = d)) c else Φ (.bool false) c) else Φ (.bool false) c) else Φ (.bool false) c := by
      intro a b d hh
      have r1 : RedD ⟨a, b, d⟩ ↔ ((b.natAbs : Int) ≤ a ∧ a ≤ d ∧ (0 ≤ b ∨ ((b.natAbs : Int) ≠ a ∧ a ≠ d))) := Iff.rfl
      split
      · split
        · split
          · rwa [decide_eq_true (r1.mpr (by omega))] at hh
          · split
            · rename_i z
              have z : ¬ (b.natAbs : Int) = a := by simpa using z
              by_cases q5 : a = d
              · rw [decide_eq_false (fun w => by have := r1.mp w; omega)] at hh
                rw [decide_eq_true q5]
                exact hh
              · rw [decide_eq_true (r1.mpr (by omega))] at hh
                rw [decide_eq_false q5]
                exact hh
            · rename_i z
              have z : (b.natAbs : Int) = a := by simpa using z
              rwa [decide_eq_false (fun w => by have := r1.mp w; omega)] at hh
        · rwa [decide_eq_false (fun w => by have := r1.mp w; omega)] at hh
      · rwa [decide_eq_false (fun w => by have := r1.mp w; omega)] at hh
    by_cases ha : f.a < 0
    · rw [if_pos ha] at h ⊢
      exact fin _ _ _ h
    · rw [if_neg ha] at h ⊢
      exact fin _ _ _ h
  · rw [if_neg hd] at h ⊢
    refine ⟨f, rfl, h1, h2, ?_⟩
    simp only [↓n_asg_if, BQ.n_rt, sSeq, sNext, sRet, sRetF, sRetO, sDrop, sSet, sOwn, sAsg, sPar, sPar3, sAug, sApp, sIf, dIf, dTest, dAnd, dOr, dNot, dAndV, dOrV, d1, d2, d2F, dVar, dOwn, dC, dF, dTup, dLst, dNil, dCons, dCB, dCB1, dCF1, dChain, dChain3, dCall, dCallF, dCallK, aNil, aCons, aDk, dGn, dGnil, dGcons, dGtup, dOdIx, dGsub, dIdxT, dIdxL, dSlT, dSlL, dPart, dNoPart, dIl, dIt, frz, opn, cls, catD, startR, arS, seqOf, n_add, n_addT, n_sub, n_mul, n_fdiv, n_mod, n_pow, n_shl, n_cmp, n_is, n_neg, n_not, n_ixL, n_ixT, n_lenL, n_lenT, n_abs, n_gcd, n_isqrt, n_int, n_tupL, n_tupT, at10, at1n, at20, at21, at2n, at30, at31, at32, at3n, fD, mD, wipeR, dYes, ix32, ix31, n_boolC, sz0, sz1, sz2, sz3, sz4, sz5, sz6, sz7, sz8, n_eqI, n_neI, n_eq3, n_ne3, n_isi_int, n_isi_bool, n_isi_tuple, List.map_cons, List.map_nil, List.length_cons, List.length_nil, List.replicate, List.set_cons_zero, List.set_cons_succ, List.getElem?_cons_zero, List.getElem?_cons_succ, List.filter_cons, List.filter_nil, Ar.isDk, List.all_cons, List.all_nil, no_dt, no_un, no_ow, no_dk, Bool.and_eq_true, Bool.true_and, Bool.and_true, Bool.false_eq_true, if_false, if_true, ite_true, ite_false, Option.some.injEq, exists_eq_left', true_and, and_true, List.cons_append, List.nil_append, Nat.sub_self, decide_eq_true_eq, Nat.reduceAdd, Nat.reduceSub, Nat.zero_add, Nat.le_refl, Nat.zero_le]
    by_cases hsp : isSplit f.disc = true
    · rw [if_pos hsp] at h ⊢
      by_cases q1 : f.c = 0 <;> by_cases q2 : 0 < f.b <;> by_cases q3 : 0 ≤ f.a <;> simp only [q1, q2, q3, if_true, if_false, true_and, false_and, decide_false, decide_true] at h ⊢ <;> exact h
    · rw [if_neg hsp] at h ⊢
      refine ⟨by omega, by omega, ?_⟩
      unfold Red at h
      by_cases q1 : 0 < f.b <;> by_cases q2 : f.b ≤ rt f.disc <;> by_cases q3 : rt f.disc < 2 * (f.a.natAbs : Int) + f.b <;> simp only [q1, q2, q3, if_true, if_false, true_and, false_and, decide_false, decide_true] at h ⊢ <;> first | exact h | exact ⟨.of_left (by decide), h⟩ | exact ⟨.of_left (by decide), .of_left (by decide), h⟩
def sd_neighbour_step : Sd := fun c as y Φ Ψ => ∃ f : F, as = [.dt (fD f)] ∧ DiscOk f ∧ 0 ≤ f.disc ∧ f.disc < 2 ^ 60 ∧ f.c ≠ 0 ∧ f.b.natAbs < 2 ^ 40 ∧ f.c.natAbs < 2 ^ 40 ∧ Φ (mD (T (tt (rt f.disc) f))) c
theorem ok_neighbour_step (Mx : Mo K mg) (C_discriminant_of : Cl false P w K mg base 1 "discriminant_of" ["f"] sd_discriminant_of) : Cl false P w K mg base 2 "neighbour_step" ["f"] sd_neighbour_step := by
  obtain ⟨fd, hm, Fn0⟩ := Mx.fn 24 "neighbour_step" (by decide +kernel)
  have hN : (["f", "b", "size", "root", "middle"] : List Str).Nodup := by decide +kernel
  have Sc0 : FnScope ["f", "b", "size", "root", "middle"] ["f"] (defScope (top 24)) := ⟨rfl, rfl, rfl, hN, rfl, by decide +kernel, by decide +kernel⟩
  refine cl_mk Fn0 hm Sc0 (fun _ _ _ _ _ _ us hl => match us, hl with | [_], _ => rfl) (fun _ _ _ _ _ _ us hl => match us, hl with | [_], _ => rfl) fun cdv A outer s H E hr hG tk hp => ⟨_, (ss_cons (s_par (i := 1) (j := 2) rfl hN rfl rfl (by decide) rfl rfl (l_cons (e_ix (r_own (pv 0)) e_int) (l_cons (e_callB c_abs (by rfl) (Mx.fr "abs" (by decide +kernel)) b_abs (l_cons (e_ix (r_own (pv 0)) e_int) l_nil)) l_nil)) rfl)
    (ss_cons (s_set (i := 3) hN (by rfl) (by first | exact .inl rfl | exact .inr rfl) (e_callBm c_isqrt (by rfl) Mx.m_isqrt (l_cons (e_callC C_discriminant_of (by decide) hr nog (by rfl) tk (a_cons (e_var (pv 0)) a_nil)) l_nil)))
    (ss_cons (s_if (t_cmp o_gt (r_own (pv 2)) (r_own (pv 3)) rfl) (ss_one (s_set (i := 4) hN (by rfl) (by first | exact .inl rfl | exact .inr rfl) (e_bin o_sub (r_own (pv 2)) (e_bin o_mod (e_bin o_add (r_own (pv 2)) (r_own (pv 1))).r (e_bin o_mul e_int.r (r_own (pv 2))).r).r))) (ss_one (s_set (i := 4) hN (by rfl) (by first | exact .inl rfl | exact .inr rfl) (e_bin o_sub (r_own (pv 3)) (e_bin o_mod (e_bin o_add (r_own (pv 3)) (r_own (pv 1))).r (e_bin o_mul e_int.r (r_own (pv 2))).r).r))))
    (ss_one (s_ret (e_tup (l_cons (e_tup (l_cons e_int (l_cons (e_un o_neg e_int) l_nil))) (l_cons (e_tup (l_cons e_int (l_cons (e_bin o_fdiv (e_bin o_add (r_own (pv 1)) (r_own (pv 4))).r (e_bin o_mul e_int.r (e_ix (r_own (pv 0)) e_int).r).r) l_nil))) l_nil)))))))), fun c as y Φ Ψ hn hs => ?_⟩
  obtain ⟨f, rfl, h1, h2, h3, h4, h5, h6, h⟩ := hs
  simp only [↓n_asg_if, BQ.n_rt, sSeq, sNext, sRet, sRetF, sRetO, sDrop, sSet, sOwn, sAsg, sPar, sPar3, sAug, sApp, sIf, dIf, dTest, dAnd, dOr, dNot, dAndV, dOrV, d1, d2, d2F, dVar, dOwn, dC, dF, dTup, dLst, dNil, dCons, dCB, dCB1, dCF1, dChain, dChain3, dCall, dCallF, dCallK, aNil, aCons, aDk, dGn, dGnil, dGcons, dGtup, dOdIx, dGsub, dIdxT, dIdxL, dSlT, dSlL, dPart, dNoPart, dIl, dIt, frz, opn, cls, catD, startR, arS, seqOf, n_add, n_addT, n_sub, n_mul, n_fdiv, n_mod, n_pow, n_shl, n_cmp, n_is, n_neg, n_not, n_ixL, n_ixT, n_lenL, n_lenT, n_abs, n_gcd, n_isqrt, n_int, n_tupL, n_tupT, at10, at1n, at20, at21, at2n, at30, at31, at32, at3n, fD, mD, wipeR, dYes, ix32, ix31, n_boolC, sz0, sz1, sz2, sz3, sz4, sz5, sz6, sz7, sz8, n_eqI, n_neI, n_eq3, n_ne3, n_isi_int, n_isi_bool, n_isi_tuple, List.map_cons, List.map_nil, List.length_cons, List.length_nil, List.replicate, List.set_cons_zero, List.set_cons_succ, List.getElem?_cons_zero, List.getElem?_cons_succ, List.filter_cons, List.filter_nil, Ar.isDk, List.all_cons, List.all_nil, no_dt, no_un, no_ow, no_dk, Bool.and_eq_true, Bool.true_and, Bool.and_true, Bool.false_eq_true, if_false, if_true, ite_true, ite_false, Option.some.injEq, exists_eq_left', true_and, and_true, List.cons_append, List.nil_append, Nat.sub_self, decide_eq_true_eq, Nat.reduceAdd, Nat.reduceSub, Nat.zero_add, Nat.le_refl, Nat.zero_le]
  refine ⟨f, rfl, h1.1, h1.2, ?_⟩
  simp only [↓n_asg_if, BQ.n_rt, sSeq, sNext, sRet, sRetF, sRetO, sDrop, sSet, sOwn, sAsg, sPar, sPar3, sAug, sApp, sIf, dIf, dTest, dAnd, dOr, dNot, dAndV, dOrV, d1, d2, d2F, dVar, dOwn, dC, dF, dTup, dLst, dNil, dCons, dCB, dCB1, dCF1, dChain, dChain3, dCall, dCallF, dCallK, aNil, aCons, aDk, dGn, dGnil, dGcons, dGtup, dOdIx, dGsub, dIdxT, dIdxL, dSlT, dSlL, dPart, dNoPart, dIl, dIt, frz, opn, cls, catD, startR, arS, seqOf, n_add, n_addT, n_sub, n_mul, n_fdiv, n_mod, n_pow, n_shl, n_cmp, n_is, n_neg, n_not, n_ixL, n_ixT, n_lenL, n_lenT, n_abs, n_gcd, n_isqrt, n_int, n_tupL, n_tupT, at10, at1n, at20, at21, at2n, at30, at31, at32, at3n, fD, mD, wipeR, dYes, ix32, ix31, n_boolC, sz0, sz1, sz2, sz3, sz4, sz5, sz6, sz7, sz8, n_eqI, n_neI, n_eq3, n_ne3, n_isi_int, n_isi_bool, n_isi_tuple, List.map_cons, List.map_nil, List.length_cons, List.length_nil, List.replicate, List.set_cons_zero, List.set_cons_succ, List.getElem?_cons_zero, List.getElem?_cons_succ, List.filter_cons, List.filter_nil, Ar.isDk, List.all_cons, List.all_nil, no_dt, no_un, no_ow, no_dk, Bool.and_eq_true, Bool.true_and, Bool.and_true, Bool.false_eq_true, if_false, if_true, ite_true, ite_false, Option.some.injEq, exists_eq_left', true_and, and_true, List.cons_append, List.nil_append, Nat.sub_self, decide_eq_true_eq, Nat.reduceAdd, Nat.reduceSub, Nat.zero_add, Nat.le_refl, Nat.zero_le]
  refine ⟨by omega, by omega, ?_⟩
  have e : ∀ z : Int, mD (T z) = .tuple [.tuple [.int 0, .int (-1)], .tuple [.int 1, .int z]] := fun _ => rfl
  rw [e] at h
  unfold tt mid at h
  by_cases hz : rt f.disc < (f.c.natAbs : Int)
  · rw [if_pos hz]
    rw [if_neg (by omega)] at h
    exact ⟨.of_left (by decide), by omega, .of_left (by decide), dOk (by omega) (by omega) (by omega), h⟩
  · rw [if_neg hz]
    rw [if_pos (by omega)] at h
    exact ⟨.of_left (by decide), by omega, .of_left (by decide), dOk (by omega) (by omega) (by omega), h⟩
theorem isSplit_ind {D r : Int} (I : Ind D r) : isSplit D = false := by
  unfold isSplit
  rw [I.rt, decide_eq_false (p := r * r = D) (by have := I.lo; omega)]
  simp
theorem isRedP_ind {f : BQ.F} {r : Int} (I : Ind f.disc r) : isRedP f = decide (Red r f) := by
  unfold isRedP
  rw [if_neg (by have := I.pos; omega), isSplit_ind I, if_neg (by simp), I.rt]
/-- led by right neighbours -/
def Ir (r : Int) (f R : F) : Prop := ∃ n, R = it r n f ∧ Red r R ∧ ∀ i, i < n → ¬ Red r (it r i f)
def sd_indefinite_reduced : Sd := fun c as y Φ Ψ => ∃ f : F, as = [.dt (fD f)] ∧ Ind f.disc (rt f.disc) ∧ f.disc ≤ 10000000 ∧ f.b.natAbs ≤ 2 ^ 20 ∧ f.c.natAbs ≤ 2 ^ 20 ∧
  ∀ R m, Ir (rt f.disc) f R → R.disc = f.disc → f.by m = R → m.det = 1 → Mb 500 m → Φ (.tuple [fD R, mD m]) c
theorem ok_indefinite_reduced (Mx : Mo K mg) (C_is_reduced_form : Cl false P w K mg base 3 "is_reduced_form" ["f"] sd_is_reduced_form) (C_neighbour_step : Cl false P w K mg base 2 "neighbour_step" ["f"] sd_neighbour_step) (C_times_step : Cl false P w K mg base 1 "times_step" ["one", "other"] sd_times_step) (C_taken_by : Cl false P w K mg base 2 "taken_by" ["f", "step"] sd_taken_by) : Cl false P w K mg base 4 "indefinite_reduced" ["f"] sd_indefinite_reduced := by
  obtain ⟨fd, hm, Fn0⟩ := Mx.fn 25 "indefinite_reduced" (by decide +kernel)
  have hN : (["f", "step", "more"] : List Str).Nodup := by decide +kernel
  have Sc0 : FnScope ["f", "step", "more"] ["f"] (defScope (top 25)) := ⟨rfl, rfl, rfl, hN, rfl, by decide +kernel, by decide +kernel⟩
  refine cl_mk Fn0 hm Sc0 (fun _ _ _ _ _ _ us hl => match us, hl with | [_], _ => rfl) (fun _ _ _ _ _ _ us hl => match us, hl with | [_], _ => rfl) fun cdv A outer s H E hr hG tk hp => ⟨_, (ss_cons (s_set (i := 1) hN (by rfl) (by first | exact .inl rfl | exact .inr rfl) (e_glob (pe_glob (by rfl) Mx.k_SAME.1 (by rfl)) Mx.k_SAME.2))
    (ss_cons (s_while hp (t_not (t_val (e_callC C_is_reduced_form (by decide) hr nog (by rfl) tk (a_cons (e_var (pv 0)) a_nil)))) (ss_cons (s_set (i := 2) hN (by rfl) (by first | exact .inl rfl | exact .inr rfl) (e_callC C_neighbour_step (by decide) hr nog (by rfl) tk (a_cons (e_var (pv 0)) a_nil)))
    (ss_one (s_par (i := 0) (j := 1) rfl hN rfl rfl (by decide) rfl rfl (l_cons (e_callC C_taken_by (by decide) hr nog (by rfl) tk (a_cons (e_var (pv 0)) (a_cons (e_var (pv 2)) a_nil))) (l_cons (e_callC C_times_step (by decide) hr nog (by rfl) tk (a_cons (e_var (pv 1)) (a_cons (e_var (pv 2)) a_nil))) l_nil)) rfl))))
    (ss_one (s_ret (e_tup (l_cons (e_var (pv 0)) (l_cons (e_var (pv 1)) l_nil))))))), fun c as y Φ Ψ hn hs => ?_⟩
  obtain ⟨f, rfl, I, h1, h2, h3, h⟩ := hs
  generalize hr : rt f.disc = r at *
  have r1 : r ≤ 3162 := by have := sqlt (a := r) (b := 3163) (by decide) (by have := I.lo; omega); omega
  simp only [↓n_asg_if, BQ.n_rt, sSeq, sNext, sRet, sRetF, sRetO, sDrop, sSet, sOwn, sAsg, sPar, sPar3, sAug, sApp, sIf, dIf, dTest, dAnd, dOr, dNot, dAndV, dOrV, d1, d2, d2F, dVar, dOwn, dC, dF, dTup, dLst, dNil, dCons, dCB, dCB1, dCF1, dChain, dChain3, dCall, dCallF, dCallK, aNil, aCons, aDk, dGn, dGnil, dGcons, dGtup, dOdIx, dGsub, dIdxT, dIdxL, dSlT, dSlL, dPart, dNoPart, dIl, dIt, frz, opn, cls, catD, startR, arS, seqOf, n_add, n_addT, n_sub, n_mul, n_fdiv, n_mod, n_pow, n_shl, n_cmp, n_is, n_neg, n_not, n_ixL, n_ixT, n_lenL, n_lenT, n_abs, n_gcd, n_isqrt, n_int, n_tupL, n_tupT, at10, at1n, at20, at21, at2n, at30, at31, at32, at3n, fD, mD, wipeR, dYes, ix32, ix31, n_boolC, sz0, sz1, sz2, sz3, sz4, sz5, sz6, sz7, sz8, n_eqI, n_neI, n_eq3, n_ne3, n_isi_int, n_isi_bool, n_isi_tuple, List.map_cons, List.map_nil, List.length_cons, List.length_nil, List.replicate, List.set_cons_zero, List.set_cons_succ, List.getElem?_cons_zero, List.getElem?_cons_succ, List.filter_cons, List.filter_nil, Ar.isDk, List.all_cons, List.all_nil, no_dt, no_un, no_ow, no_dk, Bool.and_eq_true, Bool.true_and, Bool.and_true, Bool.false_eq_true, if_false, if_true, ite_true, ite_false, Option.some.injEq, exists_eq_left', true_and, and_true, List.cons_append, List.nil_append, Nat.sub_self, decide_eq_true_eq, Nat.reduceAdd, Nat.reduceSub, Nat.zero_add, Nat.le_refl, Nat.zero_le]
  have hmu : mu r f ≤ 23 := by
    have := mu_le r f
    have l : f.c.natAbs.log2 ≤ 20 := by
      by_cases z : f.c.natAbs = 0
      · rw [z]; decide
      · have := (Nat.log2_lt (k := 21) z).mpr (by omega)
        omega
    omega
  refine ⟨fun m c' ρ => ∃ (g : BQ.F) (N : BQ.M) (sl : Sl) (n : Nat), ρ = [.dt (fD g), .dt (mD N), sl] ∧ sl.notOd = true ∧ c' = c ∧ g = it r n f ∧ g.disc = f.disc ∧ f.by N = g ∧ N.det = 1 ∧ Way (2 ^ 20) r g ∧ (∀ i, i < n → ¬ Red r (it r i f)) ∧ m = mu r g ∧ ∃ k, k + 21 * m ≤ 483 ∧ Mb k N,
    ⟨mu r f, f, BQ.M.one, .un, 0, rfl, rfl, rfl, rfl, rfl, by_one f, rfl, .inr ⟨by omega, by omega⟩, (fun i hi => absurd hi (Nat.not_lt_zero i)), rfl, 0, by omega, Mb.one⟩, ?_⟩
  rintro m c' ρ ⟨g, N, sl, n, rfl, hsl, rfl, en, ed, eb, et, way, hno, rfl, k, hk, hM⟩
  have J : Ind g.disc r := ed ▸ I
  have sz : g.b.natAbs ≤ 2 ^ 20 ∧ g.c.natAbs ≤ 2 ^ 20 := by
    rcases way with R | ⟨w1, w2⟩
    · have := R.1
      have := R.2.1
      have := R.c_le J
      omega
    · omega
  have dk : DiscOk g := ⟨mR (by omega) (by omega), mR (by omega) (by omega)⟩
  simp only [↓n_asg_if, BQ.n_rt, sSeq, sNext, sRet, sRetF, sRetO, sDrop, sSet, sOwn, sAsg, sPar, sPar3, sAug, sApp, sIf, dIf, dTest, dAnd, dOr, dNot, dAndV, dOrV, d1, d2, d2F, dVar, dOwn, dC, dF, dTup, dLst, dNil, dCons, dCB, dCB1, dCF1, dChain, dChain3, dCall, dCallF, dCallK, aNil, aCons, aDk, dGn, dGnil, dGcons, dGtup, dOdIx, dGsub, dIdxT, dIdxL, dSlT, dSlL, dPart, dNoPart, dIl, dIt, frz, opn, cls, catD, startR, arS, seqOf, n_add, n_addT, n_sub, n_mul, n_fdiv, n_mod, n_pow, n_shl, n_cmp, n_is, n_neg, n_not, n_ixL, n_ixT, n_lenL, n_lenT, n_abs, n_gcd, n_isqrt, n_int, n_tupL, n_tupT, at10, at1n, at20, at21, at2n, at30, at31, at32, at3n, fD, mD, wipeR, dYes, ix32, ix31, n_boolC, sz0, sz1, sz2, sz3, sz4, sz5, sz6, sz7, sz8, n_eqI, n_neI, n_eq3, n_ne3, n_isi_int, n_isi_bool, n_isi_tuple, List.map_cons, List.map_nil, List.length_cons, List.length_nil, List.replicate, List.set_cons_zero, List.set_cons_succ, List.getElem?_cons_zero, List.getElem?_cons_succ, List.filter_cons, List.filter_nil, Ar.isDk, List.all_cons, List.all_nil, no_dt, no_un, no_ow, no_dk, Bool.and_eq_true, Bool.true_and, Bool.and_true, Bool.false_eq_true, if_false, if_true, ite_true, ite_false, Option.some.injEq, exists_eq_left', true_and, and_true, List.cons_append, List.nil_append, Nat.sub_self, decide_eq_true_eq, Nat.reduceAdd, Nat.reduceSub, Nat.zero_add, Nat.le_refl, Nat.zero_le]
  refine ⟨hsl, g, rfl, dk, by omega, ?_⟩
  simp only [↓n_asg_if, BQ.n_rt, sSeq, sNext, sRet, sRetF, sRetO, sDrop, sSet, sOwn, sAsg, sPar, sPar3, sAug, sApp, sIf, dIf, dTest, dAnd, dOr, dNot, dAndV, dOrV, d1, d2, d2F, dVar, dOwn, dC, dF, dTup, dLst, dNil, dCons, dCB, dCB1, dCF1, dChain, dChain3, dCall, dCallF, dCallK, aNil, aCons, aDk, dGn, dGnil, dGcons, dGtup, dOdIx, dGsub, dIdxT, dIdxL, dSlT, dSlL, dPart, dNoPart, dIl, dIt, frz, opn, cls, catD, startR, arS, seqOf, n_add, n_addT, n_sub, n_mul, n_fdiv, n_mod, n_pow, n_shl, n_cmp, n_is, n_neg, n_not, n_ixL, n_ixT, n_lenL, n_lenT, n_abs, n_gcd, n_isqrt, n_int, n_tupL, n_tupT, at10, at1n, at20, at21, at2n, at30, at31, at32, at3n, fD, mD, wipeR, dYes, ix32, ix31, n_boolC, sz0, sz1, sz2, sz3, sz4, sz5, sz6, sz7, sz8, n_eqI, n_neI, n_eq3, n_ne3, n_isi_int, n_isi_bool, n_isi_tuple, List.map_cons, List.map_nil, List.length_cons, List.length_nil, List.replicate, List.set_cons_zero, List.set_cons_succ, List.getElem?_cons_zero, List.getElem?_cons_succ, List.filter_cons, List.filter_nil, Ar.isDk, List.all_cons, List.all_nil, no_dt, no_un, no_ow, no_dk, Bool.and_eq_true, Bool.true_and, Bool.and_true, Bool.false_eq_true, if_false, if_true, ite_true, ite_false, Option.some.injEq, exists_eq_left', true_and, and_true, List.cons_append, List.nil_append, Nat.sub_self, decide_eq_true_eq, Nat.reduceAdd, Nat.reduceSub, Nat.zero_add, Nat.le_refl, Nat.zero_le]
  rw [isRedP_ind J]
  by_cases R : Red r g
  · rw [if_neg (by simp [R])]
    exact h g N ⟨n, en, R, hno⟩ ed eb et (Mb.mono hM (by omega))
  · rw [if_pos (by simp [R])]
    have tl := tt_le J (B := 2 ^ 20) (by omega) (by omega) (by omega)
    have st := Sm.T (t := tt r g) (by omega)
    refine ⟨hsl, g, rfl, dk, by have := J.pos; omega, by omega, J.c0, by omega, by omega, ?_⟩
    rw [J.rt]
    simp only [↓n_asg_if, BQ.n_rt, sSeq, sNext, sRet, sRetF, sRetO, sDrop, sSet, sOwn, sAsg, sPar, sPar3, sAug, sApp, sIf, dIf, dTest, dAnd, dOr, dNot, dAndV, dOrV, d1, d2, d2F, dVar, dOwn, dC, dF, dTup, dLst, dNil, dCons, dCB, dCB1, dCF1, dChain, dChain3, dCall, dCallF, dCallK, aNil, aCons, aDk, dGn, dGnil, dGcons, dGtup, dOdIx, dGsub, dIdxT, dIdxL, dSlT, dSlL, dPart, dNoPart, dIl, dIt, frz, opn, cls, catD, startR, arS, seqOf, n_add, n_addT, n_sub, n_mul, n_fdiv, n_mod, n_pow, n_shl, n_cmp, n_is, n_neg, n_not, n_ixL, n_ixT, n_lenL, n_lenT, n_abs, n_gcd, n_isqrt, n_int, n_tupL, n_tupT, at10, at1n, at20, at21, at2n, at30, at31, at32, at3n, fD, mD, wipeR, dYes, ix32, ix31, n_boolC, sz0, sz1, sz2, sz3, sz4, sz5, sz6, sz7, sz8, n_eqI, n_neI, n_eq3, n_ne3, n_isi_int, n_isi_bool, n_isi_tuple, List.map_cons, List.map_nil, List.length_cons, List.length_nil, List.replicate, List.set_cons_zero, List.set_cons_succ, List.getElem?_cons_zero, List.getElem?_cons_succ, List.filter_cons, List.filter_nil, Ar.isDk, List.all_cons, List.all_nil, no_dt, no_un, no_ow, no_dk, Bool.and_eq_true, Bool.true_and, Bool.and_true, Bool.false_eq_true, if_false, if_true, ite_true, ite_false, Option.some.injEq, exists_eq_left', true_and, and_true, List.cons_append, List.nil_append, Nat.sub_self, decide_eq_true_eq, Nat.reduceAdd, Nat.reduceSub, Nat.zero_add, Nat.le_refl, Nat.zero_le]
    refine ⟨g, T (tt r g), rfl, st.by_ g, ?_⟩
    simp only [↓n_asg_if, BQ.n_rt, sSeq, sNext, sRet, sRetF, sRetO, sDrop, sSet, sOwn, sAsg, sPar, sPar3, sAug, sApp, sIf, dIf, dTest, dAnd, dOr, dNot, dAndV, dOrV, d1, d2, d2F, dVar, dOwn, dC, dF, dTup, dLst, dNil, dCons, dCB, dCB1, dCF1, dChain, dChain3, dCall, dCallF, dCallK, aNil, aCons, aDk, dGn, dGnil, dGcons, dGtup, dOdIx, dGsub, dIdxT, dIdxL, dSlT, dSlL, dPart, dNoPart, dIl, dIt, frz, opn, cls, catD, startR, arS, seqOf, n_add, n_addT, n_sub, n_mul, n_fdiv, n_mod, n_pow, n_shl, n_cmp, n_is, n_neg, n_not, n_ixL, n_ixT, n_lenL, n_lenT, n_abs, n_gcd, n_isqrt, n_int, n_tupL, n_tupT, at10, at1n, at20, at21, at2n, at30, at31, at32, at3n, fD, mD, wipeR, dYes, ix32, ix31, n_boolC, sz0, sz1, sz2, sz3, sz4, sz5, sz6, sz7, sz8, n_eqI, n_neI, n_eq3, n_ne3, n_isi_int, n_isi_bool, n_isi_tuple, List.map_cons, List.map_nil, List.length_cons, List.length_nil, List.replicate, List.set_cons_zero, List.set_cons_succ, List.getElem?_cons_zero, List.getElem?_cons_succ, List.filter_cons, List.filter_nil, Ar.isDk, List.all_cons, List.all_nil, no_dt, no_un, no_ow, no_dk, Bool.and_eq_true, Bool.true_and, Bool.and_true, Bool.false_eq_true, if_false, if_true, ite_true, ite_false, Option.some.injEq, exists_eq_left', true_and, and_true, List.cons_append, List.nil_append, Nat.sub_self, decide_eq_true_eq, Nat.reduceAdd, Nat.reduceSub, Nat.zero_add, Nat.le_refl, Nat.zero_le]
    refine ⟨N, T (tt r g), rfl, st.mul_ N, ?_⟩
    simp only [↓n_asg_if, BQ.n_rt, sSeq, sNext, sRet, sRetF, sRetO, sDrop, sSet, sOwn, sAsg, sPar, sPar3, sAug, sApp, sIf, dIf, dTest, dAnd, dOr, dNot, dAndV, dOrV, d1, d2, d2F, dVar, dOwn, dC, dF, dTup, dLst, dNil, dCons, dCB, dCB1, dCF1, dChain, dChain3, dCall, dCallF, dCallK, aNil, aCons, aDk, dGn, dGnil, dGcons, dGtup, dOdIx, dGsub, dIdxT, dIdxL, dSlT, dSlL, dPart, dNoPart, dIl, dIt, frz, opn, cls, catD, startR, arS, seqOf, n_add, n_addT, n_sub, n_mul, n_fdiv, n_mod, n_pow, n_shl, n_cmp, n_is, n_neg, n_not, n_ixL, n_ixT, n_lenL, n_lenT, n_abs, n_gcd, n_isqrt, n_int, n_tupL, n_tupT, at10, at1n, at20, at21, at2n, at30, at31, at32, at3n, fD, mD, wipeR, dYes, ix32, ix31, n_boolC, sz0, sz1, sz2, sz3, sz4, sz5, sz6, sz7, sz8, n_eqI, n_neI, n_eq3, n_ne3, n_isi_int, n_isi_bool, n_isi_tuple, List.map_cons, List.map_nil, List.length_cons, List.length_nil, List.replicate, List.set_cons_zero, List.set_cons_succ, List.getElem?_cons_zero, List.getElem?_cons_succ, List.filter_cons, List.filter_nil, Ar.isDk, List.all_cons, List.all_nil, no_dt, no_un, no_ow, no_dk, Bool.and_eq_true, Bool.true_and, Bool.and_true, Bool.false_eq_true, if_false, if_true, ite_true, ite_false, Option.some.injEq, exists_eq_left', true_and, and_true, List.cons_append, List.nil_append, Nat.sub_self, decide_eq_true_eq, Nat.reduceAdd, Nat.reduceSub, Nat.zero_add, Nat.le_refl, Nat.zero_le]
    refine ⟨_, mu_lt J R, nxt r g, N.mul (T (tt r g)), _, n + 1, rfl, rfl, by rw [en]; rfl, by rw [nxt_disc]; exact ed, by rw [by_mul, eb]; rfl, by rw [det_mul, et, T_det]; rfl, way.nxt J (by omega) R, fun i hi => ?_, rfl, k + 21, by have := mu_lt J R; omega, Mb.T hM (show (tt r g).natAbs + 1 ≤ 2 ^ 21 by omega)⟩
    by_cases q : i < n
    · exact hno i q
    · have : i = n := by omega
      subst this
      rw [← en]
      exact R
theorem redD_small {g : F} (G : Df g) (z : RedD g) (h : -1125899906842624 ≤ g.disc) : g.a < 67108864 := by
  have a0 := G.a0
  obtain ⟨z1, z2, _⟩ := z
  have e1 : g.disc = g.b * g.b - 4 * (g.a * g.c) := by unfold F.disc; grind
  have e2 : g.a * g.a ≤ g.a * g.c := Int.mul_le_mul_of_nonneg_left z2 (by omega)
  have e3 : g.b * g.b ≤ g.a * g.a := by
    have := sqle (a := (g.b.natAbs : Int)) (b := g.a) (by omega) z1
    rw [← Int.natCast_mul, Int.natAbs_mul_self] at this
    exact this
  exact sqlt (by decide) (by omega)
def sd_definite_reduced : Sd := fun c as y Φ Ψ => ∃ f : F, as = [.dt (fD f)] ∧ Df f ∧ ((f.a ≤ 2 ^ 20 ∧ f.b.natAbs ≤ 2 ^ 20) ∨ (RedD f ∧ f.a < 67108864)) ∧
  ∀ R m, Dr f R → f.by m = R → m.det = 1 → Mb 44040213 m → Φ (.tuple [fD R, mD m]) c
theorem ok_definite_reduced (Mx : Mo K mg) (C_times_step : Cl false P w K mg base 1 "times_step" ["one", "other"] sd_times_step) (C_taken_by : Cl false P w K mg base 2 "taken_by" ["f", "step"] sd_taken_by) : Cl false P w K mg base 3 "definite_reduced" ["f"] sd_definite_reduced := by
  obtain ⟨fd, hm, Fn0⟩ := Mx.fn 21 "definite_reduced" (by decide +kernel)
  have hN : (["f", "step", "a", "b", "c", "shift"] : List Str).Nodup := by decide +kernel
  have Sc0 : FnScope ["f", "step", "a", "b", "c", "shift"] ["f"] (defScope (top 21)) := ⟨rfl, rfl, rfl, hN, rfl, by decide +kernel, by decide +kernel⟩
  refine cl_mk Fn0 hm Sc0 (fun _ _ _ _ _ _ us hl => match us, hl with | [_], _ => rfl) (fun _ _ _ _ _ _ us hl => match us, hl with | [_], _ => rfl) fun cdv A outer s H E hr hG tk hp => ⟨_, (ss_cons (s_set (i := 1) hN (by rfl) (by first | exact .inl rfl | exact .inr rfl) (e_glob (pe_glob (by rfl) Mx.k_SAME.1 (by rfl)) Mx.k_SAME.2))
    (ss_one (s_while hp (t_val e_bl) (ss_cons (s_asg (e_var (pv 0)) (g_tup (n := 3) (by rfl) (gs_cons ((c_name (i := 2) hN (by rfl) (by first | exact .inl rfl | exact .inr rfl) (by first | exact .inl rfl | exact .inr rfl)).g) (gs_cons ((c_name (i := 3) hN (by rfl) (by first | exact .inl rfl | exact .inr rfl) (by first | exact .inl rfl | exact .inr rfl)).g) (gs_cons ((c_name (i := 4) hN (by rfl) (by first | exact .inl rfl | exact .inr rfl) (by first | exact .inl rfl | exact .inr rfl)).g) gs_nil)))))
    (ss_cons (s_set (i := 5) hN (by rfl) (by first | exact .inl rfl | exact .inr rfl) (e_tup (l_cons (e_tup (l_cons e_int (l_cons (e_bin o_fdiv (e_bin o_sub (r_own (pv 2)) (r_own (pv 3))).r (e_bin o_mul e_int.r (r_own (pv 2))).r) l_nil))) (l_cons (e_tup (l_cons e_int (l_cons e_int l_nil))) l_nil))))
    (ss_cons (s_par (i := 0) (j := 1) rfl hN rfl rfl (by decide) rfl rfl (l_cons (e_callC C_taken_by (by decide) hr nog (by rfl) tk (a_cons (e_var (pv 0)) (a_cons (e_var (pv 5)) a_nil))) (l_cons (e_callC C_times_step (by decide) hr nog (by rfl) tk (a_cons (e_var (pv 1)) (a_cons (e_var (pv 5)) a_nil))) l_nil)) rfl)
    (ss_cons (s_if (w_or (t_cmp o_lt (e_ix (r_own (pv 0)) e_int).r (e_ix (r_own (pv 0)) e_int).r rfl) (w_or1 (w_and (t_cmp (o_eqP (hu4 hr)) (e_ix (r_own (pv 0)) e_int).r (e_ix (r_own (pv 0)) e_int).r rfl) (w_and1 (t_cmp o_ge (e_ix (r_own (pv 0)) e_int).r e_int.r rfl))).t)).t (ss_one (s_ret (e_tup (l_cons (e_var (pv 0)) (l_cons (e_var (pv 1)) l_nil))))) ss_nil)
    (ss_one (s_par (i := 0) (j := 1) rfl hN rfl rfl (by decide) rfl rfl (l_cons (e_callC C_taken_by (by decide) hr nog (by rfl) tk (a_cons (e_var (pv 0)) (a_cons (e_glob (pe_glob (by rfl) Mx.k_SWAP.1 (by rfl)) Mx.k_SWAP.2) a_nil))) (l_cons (e_callC C_times_step (by decide) hr nog (by rfl) tk (a_cons (e_var (pv 1)) (a_cons (e_glob (pe_glob (by rfl) Mx.k_SWAP.1 (by rfl)) Mx.k_SWAP.2) a_nil))) l_nil)) rfl))))))))), fun c as y Φ Ψ hn hs => ?_⟩
  obtain ⟨f, rfl, D, hq, h⟩ := hs
  simp only [↓n_asg_if, BQ.n_rt, sSeq, sNext, sRet, sRetF, sRetO, sDrop, sSet, sOwn, sAsg, sPar, sPar3, sAug, sApp, sIf, dIf, dTest, dAnd, dOr, dNot, dAndV, dOrV, d1, d2, d2F, dVar, dOwn, dC, dF, dTup, dLst, dNil, dCons, dCB, dCB1, dCF1, dChain, dChain3, dCall, dCallF, dCallK, aNil, aCons, aDk, dGn, dGnil, dGcons, dGtup, dOdIx, dGsub, dIdxT, dIdxL, dSlT, dSlL, dPart, dNoPart, dIl, dIt, frz, opn, cls, catD, startR, arS, seqOf, n_add, n_addT, n_sub, n_mul, n_fdiv, n_mod, n_pow, n_shl, n_cmp, n_is, n_neg, n_not, n_ixL, n_ixT, n_lenL, n_lenT, n_abs, n_gcd, n_isqrt, n_int, n_tupL, n_tupT, at10, at1n, at20, at21, at2n, at30, at31, at32, at3n, fD, mD, wipeR, dYes, ix32, ix31, n_boolC, sz0, sz1, sz2, sz3, sz4, sz5, sz6, sz7, sz8, n_eqI, n_neI, n_eq3, n_ne3, n_isi_int, n_isi_bool, n_isi_tuple, List.map_cons, List.map_nil, List.length_cons, List.length_nil, List.replicate, List.set_cons_zero, List.set_cons_succ, List.getElem?_cons_zero, List.getElem?_cons_succ, List.filter_cons, List.filter_nil, Ar.isDk, List.all_cons, List.all_nil, no_dt, no_un, no_ow, no_dk, Bool.and_eq_true, Bool.true_and, Bool.and_true, Bool.false_eq_true, if_false, if_true, ite_true, ite_false, Option.some.injEq, exists_eq_left', true_and, and_true, List.cons_append, List.nil_append, Nat.sub_self, decide_eq_true_eq, Nat.reduceAdd, Nat.reduceSub, Nat.zero_add, Nat.le_refl, Nat.zero_le]
  rcases hq with ⟨h1, h2⟩ | ⟨hr, h1⟩
  case inr =>
    refine ⟨fun m c' ρ => ρ = [.dt (fD f), .dt (mD BQ.M.one), .un, .un, .un, .un] ∧ c' = c, ⟨0, rfl, rfl⟩, ?_⟩
    rintro m c' ρ ⟨rfl, rfl⟩
    have a0 := D.a0
    have ri := D.red_in hr
    have gd := (D.red_iff ri).mp hr
    have s0 := D.st0 ri
    have ss := Sm.S (t := BQ.st f) (by rw [s0]; decide)
    simp only [↓n_asg_if, BQ.n_rt, sSeq, sNext, sRet, sRetF, sRetO, sDrop, sSet, sOwn, sAsg, sPar, sPar3, sAug, sApp, sIf, dIf, dTest, dAnd, dOr, dNot, dAndV, dOrV, d1, d2, d2F, dVar, dOwn, dC, dF, dTup, dLst, dNil, dCons, dCB, dCB1, dCF1, dChain, dChain3, dCall, dCallF, dCallK, aNil, aCons, aDk, dGn, dGnil, dGcons, dGtup, dOdIx, dGsub, dIdxT, dIdxL, dSlT, dSlL, dPart, dNoPart, dIl, dIt, frz, opn, cls, catD, startR, arS, seqOf, n_add, n_addT, n_sub, n_mul, n_fdiv, n_mod, n_pow, n_shl, n_cmp, n_is, n_neg, n_not, n_ixL, n_ixT, n_lenL, n_lenT, n_abs, n_gcd, n_isqrt, n_int, n_tupL, n_tupT, at10, at1n, at20, at21, at2n, at30, at31, at32, at3n, fD, mD, wipeR, dYes, ix32, ix31, n_boolC, sz0, sz1, sz2, sz3, sz4, sz5, sz6, sz7, sz8, n_eqI, n_neI, n_eq3, n_ne3, n_isi_int, n_isi_bool, n_isi_tuple, List.map_cons, List.map_nil, List.length_cons, List.length_nil, List.replicate, List.set_cons_zero, List.set_cons_succ, List.getElem?_cons_zero, List.getElem?_cons_succ, List.filter_cons, List.filter_nil, Ar.isDk, List.all_cons, List.all_nil, no_dt, no_un, no_ow, no_dk, Bool.and_eq_true, Bool.true_and, Bool.and_true, Bool.false_eq_true, if_false, if_true, ite_true, ite_false, Option.some.injEq, exists_eq_left', true_and, and_true, List.cons_append, List.nil_append, Nat.sub_self, decide_eq_true_eq, Nat.reduceAdd, Nat.reduceSub, Nat.zero_add, Nat.le_refl, Nat.zero_le]
    refine ⟨.of_left (by decide), dOk (by omega) (by omega) (by omega), f, S (BQ.st f), rfl, ss.by_ f, ?_⟩
    simp only [↓n_asg_if, BQ.n_rt, sSeq, sNext, sRet, sRetF, sRetO, sDrop, sSet, sOwn, sAsg, sPar, sPar3, sAug, sApp, sIf, dIf, dTest, dAnd, dOr, dNot, dAndV, dOrV, d1, d2, d2F, dVar, dOwn, dC, dF, dTup, dLst, dNil, dCons, dCB, dCB1, dCF1, dChain, dChain3, dCall, dCallF, dCallK, aNil, aCons, aDk, dGn, dGnil, dGcons, dGtup, dOdIx, dGsub, dIdxT, dIdxL, dSlT, dSlL, dPart, dNoPart, dIl, dIt, frz, opn, cls, catD, startR, arS, seqOf, n_add, n_addT, n_sub, n_mul, n_fdiv, n_mod, n_pow, n_shl, n_cmp, n_is, n_neg, n_not, n_ixL, n_ixT, n_lenL, n_lenT, n_abs, n_gcd, n_isqrt, n_int, n_tupL, n_tupT, at10, at1n, at20, at21, at2n, at30, at31, at32, at3n, fD, mD, wipeR, dYes, ix32, ix31, n_boolC, sz0, sz1, sz2, sz3, sz4, sz5, sz6, sz7, sz8, n_eqI, n_neI, n_eq3, n_ne3, n_isi_int, n_isi_bool, n_isi_tuple, List.map_cons, List.map_nil, List.length_cons, List.length_nil, List.replicate, List.set_cons_zero, List.set_cons_succ, List.getElem?_cons_zero, List.getElem?_cons_succ, List.filter_cons, List.filter_nil, Ar.isDk, List.all_cons, List.all_nil, no_dt, no_un, no_ow, no_dk, Bool.and_eq_true, Bool.true_and, Bool.and_true, Bool.false_eq_true, if_false, if_true, ite_true, ite_false, Option.some.injEq, exists_eq_left', true_and, and_true, List.cons_append, List.nil_append, Nat.sub_self, decide_eq_true_eq, Nat.reduceAdd, Nat.reduceSub, Nat.zero_add, Nat.le_refl, Nat.zero_le]
    refine ⟨BQ.M.one, S (BQ.st f), rfl, ss.mul_ _, ?_⟩
    simp only [↓n_asg_if, BQ.n_rt, sSeq, sNext, sRet, sRetF, sRetO, sDrop, sSet, sOwn, sAsg, sPar, sPar3, sAug, sApp, sIf, dIf, dTest, dAnd, dOr, dNot, dAndV, dOrV, d1, d2, d2F, dVar, dOwn, dC, dF, dTup, dLst, dNil, dCons, dCB, dCB1, dCF1, dChain, dChain3, dCall, dCallF, dCallK, aNil, aCons, aDk, dGn, dGnil, dGcons, dGtup, dOdIx, dGsub, dIdxT, dIdxL, dSlT, dSlL, dPart, dNoPart, dIl, dIt, frz, opn, cls, catD, startR, arS, seqOf, n_add, n_addT, n_sub, n_mul, n_fdiv, n_mod, n_pow, n_shl, n_cmp, n_is, n_neg, n_not, n_ixL, n_ixT, n_lenL, n_lenT, n_abs, n_gcd, n_isqrt, n_int, n_tupL, n_tupT, at10, at1n, at20, at21, at2n, at30, at31, at32, at3n, fD, mD, wipeR, dYes, ix32, ix31, n_boolC, sz0, sz1, sz2, sz3, sz4, sz5, sz6, sz7, sz8, n_eqI, n_neI, n_eq3, n_ne3, n_isi_int, n_isi_bool, n_isi_tuple, List.map_cons, List.map_nil, List.length_cons, List.length_nil, List.replicate, List.set_cons_zero, List.set_cons_succ, List.getElem?_cons_zero, List.getElem?_cons_succ, List.filter_cons, List.filter_nil, Ar.isDk, List.all_cons, List.all_nil, no_dt, no_un, no_ow, no_dk, Bool.and_eq_true, Bool.true_and, Bool.and_true, Bool.false_eq_true, if_false, if_true, ite_true, ite_false, Option.some.injEq, exists_eq_left', true_and, and_true, List.cons_append, List.nil_append, Nat.sub_self, decide_eq_true_eq, Nat.reduceAdd, Nat.reduceSub, Nat.zero_add, Nat.le_refl, Nat.zero_le]
    have e1 : f.by (S (BQ.st f)) = shf f := rfl
    have e2 := D.shf_id ri
    rw [e1, e2]
    have yes := h f (BQ.M.one.mul (S (BQ.st f))) (by have := Dr.stop (f := f) (by rw [e2]; exact gd); rwa [e2] at this) (by rw [by_mul, by_one]; exact e2) (by rw [det_mul, S_det]; rfl) (Mb.mono (Mb.S Mb.one (t := BQ.st f) (k := 1) (by rw [s0]; decide)) (by decide))
    by_cases w1 : f.a < f.c
    · rw [if_pos w1]; exact yes
    · have w2 := gd.resolve_left w1
      rw [if_neg w1, if_pos w2.1, if_pos w2.2]; exact yes
  refine ⟨fun m c' ρ => ∃ (g : BQ.F) (N : BQ.M) (s2 s3 s4 s5 : Sl), ρ = [.dt (fD g), .dt (mD N), s2, s3, s4, s5] ∧ (s2.notOd = true ∧ s3.notOd = true ∧ s4.notOd = true ∧ s5.notOd = true) ∧ c' = c ∧ Df g ∧ f.by N = g ∧ N.det = 1 ∧ g.a ≤ 2 ^ 20 ∧ g.b.natAbs ≤ 2 ^ 20 ∧ (∀ R, Dr g R → Dr f R) ∧ m = nu g ∧ ∃ k, k + 21 * m ≤ 44040213 ∧ Mb k N,
    ⟨nu f, f, BQ.M.one, .un, .un, .un, .un, rfl, ⟨rfl, rfl, rfl, rfl⟩, rfl, D, by_one f, rfl, h1, h2, fun _ z => z, rfl, 0, ?_, Mb.one⟩, ?_⟩
  · unfold nu
    have := D.a0
    split <;> omega
  rintro m c' ρ ⟨g, N, s2, s3, s4, s5, rfl, ⟨q2, q3, q4, q5⟩, rfl, G, eb, et, ga, gb, path, rfl, k, hk, hM⟩
  have a0 := G.a0
  have sl := G.st_le (B := 2 ^ 20) ga (by omega)
  have ss := Sm.S (t := st g) (by omega)
  have ea := shf_a g
  have ir := G.inR
  have nu1 : 1 ≤ nu g := by unfold nu; omega
  have M1 := Mb.S hM (t := st g) (k := 21) (by omega)
  simp only [↓n_asg_if, BQ.n_rt, sSeq, sNext, sRet, sRetF, sRetO, sDrop, sSet, sOwn, sAsg, sPar, sPar3, sAug, sApp, sIf, dIf, dTest, dAnd, dOr, dNot, dAndV, dOrV, d1, d2, d2F, dVar, dOwn, dC, dF, dTup, dLst, dNil, dCons, dCB, dCB1, dCF1, dChain, dChain3, dCall, dCallF, dCallK, aNil, aCons, aDk, dGn, dGnil, dGcons, dGtup, dOdIx, dGsub, dIdxT, dIdxL, dSlT, dSlL, dPart, dNoPart, dIl, dIt, frz, opn, cls, catD, startR, arS, seqOf, n_add, n_addT, n_sub, n_mul, n_fdiv, n_mod, n_pow, n_shl, n_cmp, n_is, n_neg, n_not, n_ixL, n_ixT, n_lenL, n_lenT, n_abs, n_gcd, n_isqrt, n_int, n_tupL, n_tupT, at10, at1n, at20, at21, at2n, at30, at31, at32, at3n, fD, mD, wipeR, dYes, ix32, ix31, n_boolC, sz0, sz1, sz2, sz3, sz4, sz5, sz6, sz7, sz8, n_eqI, n_neI, n_eq3, n_ne3, n_isi_int, n_isi_bool, n_isi_tuple, List.map_cons, List.map_nil, List.length_cons, List.length_nil, List.replicate, List.set_cons_zero, List.set_cons_succ, List.getElem?_cons_zero, List.getElem?_cons_succ, List.filter_cons, List.filter_nil, Ar.isDk, List.all_cons, List.all_nil, no_dt, no_un, no_ow, no_dk, Bool.and_eq_true, Bool.true_and, Bool.and_true, Bool.false_eq_true, if_false, if_true, ite_true, ite_false, Option.some.injEq, exists_eq_left', true_and, and_true, List.cons_append, List.nil_append, Nat.sub_self, decide_eq_true_eq, Nat.reduceAdd, Nat.reduceSub, Nat.zero_add, Nat.le_refl, Nat.zero_le]
  refine ⟨.of_left (by decide), dOk (by omega) (by omega) (by omega), g, S (st g), rfl, ss.by_ g, ?_⟩
  simp only [↓n_asg_if, BQ.n_rt, sSeq, sNext, sRet, sRetF, sRetO, sDrop, sSet, sOwn, sAsg, sPar, sPar3, sAug, sApp, sIf, dIf, dTest, dAnd, dOr, dNot, dAndV, dOrV, d1, d2, d2F, dVar, dOwn, dC, dF, dTup, dLst, dNil, dCons, dCB, dCB1, dCF1, dChain, dChain3, dCall, dCallF, dCallK, aNil, aCons, aDk, dGn, dGnil, dGcons, dGtup, dOdIx, dGsub, dIdxT, dIdxL, dSlT, dSlL, dPart, dNoPart, dIl, dIt, frz, opn, cls, catD, startR, arS, seqOf, n_add, n_addT, n_sub, n_mul, n_fdiv, n_mod, n_pow, n_shl, n_cmp, n_is, n_neg, n_not, n_ixL, n_ixT, n_lenL, n_lenT, n_abs, n_gcd, n_isqrt, n_int, n_tupL, n_tupT, at10, at1n, at20, at21, at2n, at30, at31, at32, at3n, fD, mD, wipeR, dYes, ix32, ix31, n_boolC, sz0, sz1, sz2, sz3, sz4, sz5, sz6, sz7, sz8, n_eqI, n_neI, n_eq3, n_ne3, n_isi_int, n_isi_bool, n_isi_tuple, List.map_cons, List.map_nil, List.length_cons, List.length_nil, List.replicate, List.set_cons_zero, List.set_cons_succ, List.getElem?_cons_zero, List.getElem?_cons_succ, List.filter_cons, List.filter_nil, Ar.isDk, List.all_cons, List.all_nil, no_dt, no_un, no_ow, no_dk, Bool.and_eq_true, Bool.true_and, Bool.and_true, Bool.false_eq_true, if_false, if_true, ite_true, ite_false, Option.some.injEq, exists_eq_left', true_and, and_true, List.cons_append, List.nil_append, Nat.sub_self, decide_eq_true_eq, Nat.reduceAdd, Nat.reduceSub, Nat.zero_add, Nat.le_refl, Nat.zero_le]
  refine ⟨N, S (st g), rfl, ss.mul_ N, ?_⟩
  simp only [↓n_asg_if, BQ.n_rt, sSeq, sNext, sRet, sRetF, sRetO, sDrop, sSet, sOwn, sAsg, sPar, sPar3, sAug, sApp, sIf, dIf, dTest, dAnd, dOr, dNot, dAndV, dOrV, d1, d2, d2F, dVar, dOwn, dC, dF, dTup, dLst, dNil, dCons, dCB, dCB1, dCF1, dChain, dChain3, dCall, dCallF, dCallK, aNil, aCons, aDk, dGn, dGnil, dGcons, dGtup, dOdIx, dGsub, dIdxT, dIdxL, dSlT, dSlL, dPart, dNoPart, dIl, dIt, frz, opn, cls, catD, startR, arS, seqOf, n_add, n_addT, n_sub, n_mul, n_fdiv, n_mod, n_pow, n_shl, n_cmp, n_is, n_neg, n_not, n_ixL, n_ixT, n_lenL, n_lenT, n_abs, n_gcd, n_isqrt, n_int, n_tupL, n_tupT, at10, at1n, at20, at21, at2n, at30, at31, at32, at3n, fD, mD, wipeR, dYes, ix32, ix31, n_boolC, sz0, sz1, sz2, sz3, sz4, sz5, sz6, sz7, sz8, n_eqI, n_neI, n_eq3, n_ne3, n_isi_int, n_isi_bool, n_isi_tuple, List.map_cons, List.map_nil, List.length_cons, List.length_nil, List.replicate, List.set_cons_zero, List.set_cons_succ, List.getElem?_cons_zero, List.getElem?_cons_succ, List.filter_cons, List.filter_nil, Ar.isDk, List.all_cons, List.all_nil, no_dt, no_un, no_ow, no_dk, Bool.and_eq_true, Bool.true_and, Bool.and_true, Bool.false_eq_true, if_false, if_true, ite_true, ite_false, Option.some.injEq, exists_eq_left', true_and, and_true, List.cons_append, List.nil_append, Nat.sub_self, decide_eq_true_eq, Nat.reduceAdd, Nat.reduceSub, Nat.zero_add, Nat.le_refl, Nat.zero_le]
  have e1 : g.by (S (BQ.st g)) = shf g := rfl
  rw [e1]
  have eN : f.by (N.mul (S (BQ.st g))) = shf g := by rw [by_mul, eb]; rfl
  have dN : (N.mul (S (BQ.st g))).det = 1 := by rw [det_mul, et, S_det]; rfl
  by_cases gd : good (shf g)
  · have yes := h (shf g) (N.mul (S (BQ.st g))) (path _ (.stop gd)) eN dN (Mb.mono M1 (by omega))
    by_cases w1 : (shf g).a < (shf g).c
    · rw [if_pos w1]; exact yes
    · have w2 := gd.resolve_left w1
      rw [if_neg w1, if_pos w2.1, if_pos w2.2]; exact yes
  · have lt := G.nu_lt gd
    have sw : Sm swp := by unfold Sm swp; decide
    have M2 : Mb (k + 21 + 0) ((N.mul (S (BQ.st g))).mul swp) := Mb.T (t := 0) M1 (by decide)
    have es := by_swp (shf g)
    have hb2 : ((shf g).by swp).b.natAbs ≤ 2 ^ 20 := by rw [es]; show (-(shf g).b).natAbs ≤ _; have := ir.1; have := ir.2; omega
    have ha2 : ((shf g).by swp).a ≤ 2 ^ 20 := by
      rw [es]; show (shf g).c ≤ _
      have : ¬ (shf g).a < (shf g).c := fun z => gd (.inl z)
      omega
    split
    · rename_i z; exact absurd (.inl z) gd
    · split
      · split
        · rename_i z1 z2; exact absurd (.inr ⟨z1, z2⟩) gd
        · refine ⟨shf g, swp, rfl, sw.by_ _, ?_⟩
          simp only [↓n_asg_if, BQ.n_rt, sSeq, sNext, sRet, sRetF, sRetO, sDrop, sSet, sOwn, sAsg, sPar, sPar3, sAug, sApp, sIf, dIf, dTest, dAnd, dOr, dNot, dAndV, dOrV, d1, d2, d2F, dVar, dOwn, dC, dF, dTup, dLst, dNil, dCons, dCB, dCB1, dCF1, dChain, dChain3, dCall, dCallF, dCallK, aNil, aCons, aDk, dGn, dGnil, dGcons, dGtup, dOdIx, dGsub, dIdxT, dIdxL, dSlT, dSlL, dPart, dNoPart, dIl, dIt, frz, opn, cls, catD, startR, arS, seqOf, n_add, n_addT, n_sub, n_mul, n_fdiv, n_mod, n_pow, n_shl, n_cmp, n_is, n_neg, n_not, n_ixL, n_ixT, n_lenL, n_lenT, n_abs, n_gcd, n_isqrt, n_int, n_tupL, n_tupT, at10, at1n, at20, at21, at2n, at30, at31, at32, at3n, fD, mD, wipeR, dYes, ix32, ix31, n_boolC, sz0, sz1, sz2, sz3, sz4, sz5, sz6, sz7, sz8, n_eqI, n_neI, n_eq3, n_ne3, n_isi_int, n_isi_bool, n_isi_tuple, List.map_cons, List.map_nil, List.length_cons, List.length_nil, List.replicate, List.set_cons_zero, List.set_cons_succ, List.getElem?_cons_zero, List.getElem?_cons_succ, List.filter_cons, List.filter_nil, Ar.isDk, List.all_cons, List.all_nil, no_dt, no_un, no_ow, no_dk, Bool.and_eq_true, Bool.true_and, Bool.and_true, Bool.false_eq_true, if_false, if_true, ite_true, ite_false, Option.some.injEq, exists_eq_left', true_and, and_true, List.cons_append, List.nil_append, Nat.sub_self, decide_eq_true_eq, Nat.reduceAdd, Nat.reduceSub, Nat.zero_add, Nat.le_refl, Nat.zero_le]
          refine ⟨N.mul (S (BQ.st g)), swp, rfl, sw.mul_ _, ?_⟩
          simp only [↓n_asg_if, BQ.n_rt, sSeq, sNext, sRet, sRetF, sRetO, sDrop, sSet, sOwn, sAsg, sPar, sPar3, sAug, sApp, sIf, dIf, dTest, dAnd, dOr, dNot, dAndV, dOrV, d1, d2, d2F, dVar, dOwn, dC, dF, dTup, dLst, dNil, dCons, dCB, dCB1, dCF1, dChain, dChain3, dCall, dCallF, dCallK, aNil, aCons, aDk, dGn, dGnil, dGcons, dGtup, dOdIx, dGsub, dIdxT, dIdxL, dSlT, dSlL, dPart, dNoPart, dIl, dIt, frz, opn, cls, catD, startR, arS, seqOf, n_add, n_addT, n_sub, n_mul, n_fdiv, n_mod, n_pow, n_shl, n_cmp, n_is, n_neg, n_not, n_ixL, n_ixT, n_lenL, n_lenT, n_abs, n_gcd, n_isqrt, n_int, n_tupL, n_tupT, at10, at1n, at20, at21, at2n, at30, at31, at32, at3n, fD, mD, wipeR, dYes, ix32, ix31, n_boolC, sz0, sz1, sz2, sz3, sz4, sz5, sz6, sz7, sz8, n_eqI, n_neI, n_eq3, n_ne3, n_isi_int, n_isi_bool, n_isi_tuple, List.map_cons, List.map_nil, List.length_cons, List.length_nil, List.replicate, List.set_cons_zero, List.set_cons_succ, List.getElem?_cons_zero, List.getElem?_cons_succ, List.filter_cons, List.filter_nil, Ar.isDk, List.all_cons, List.all_nil, no_dt, no_un, no_ow, no_dk, Bool.and_eq_true, Bool.true_and, Bool.and_true, Bool.false_eq_true, if_false, if_true, ite_true, ite_false, Option.some.injEq, exists_eq_left', true_and, and_true, List.cons_append, List.nil_append, Nat.sub_self, decide_eq_true_eq, Nat.reduceAdd, Nat.reduceSub, Nat.zero_add, Nat.le_refl, Nat.zero_le]
          exact ⟨_, lt, (shf g).by swp, (N.mul (S (BQ.st g))).mul swp, _, _, _, _, rfl, ⟨rfl, rfl, rfl, rfl⟩, G.shf.swp, by rw [by_mul, eN], by rw [det_mul, dN]; rfl, ha2, hb2, fun R d => path R (.go gd d), rfl, k + 21, by omega, M2⟩
      · refine ⟨shf g, swp, rfl, sw.by_ _, ?_⟩
        simp only [↓n_asg_if, BQ.n_rt, sSeq, sNext, sRet, sRetF, sRetO, sDrop, sSet, sOwn, sAsg, sPar, sPar3, sAug, sApp, sIf, dIf, dTest, dAnd, dOr, dNot, dAndV, dOrV, d1, d2, d2F, dVar, dOwn, dC, dF, dTup, dLst, dNil, dCons, dCB, dCB1, dCF1, dChain, dChain3, dCall, dCallF, dCallK, aNil, aCons, aDk, dGn, dGnil, dGcons, dGtup, dOdIx, dGsub, dIdxT, dIdxL, dSlT, dSlL, dPart, dNoPart, dIl, dIt, frz, opn, cls, catD, startR, arS, seqOf, n_add, n_addT, n_sub, n_mul, n_fdiv, n_mod, n_pow, n_shl, n_cmp, n_is, n_neg, n_not, n_ixL, n_ixT, n_lenL, n_lenT, n_abs, n_gcd, n_isqrt, n_int, n_tupL, n_tupT, at10, at1n, at20, at21, at2n, at30, at31, at32, at3n, fD, mD, wipeR, dYes, ix32, ix31, n_boolC, sz0, sz1, sz2, sz3, sz4, sz5, sz6, sz7, sz8, n_eqI, n_neI, n_eq3, n_ne3, n_isi_int, n_isi_bool, n_isi_tuple, List.map_cons, List.map_nil, List.length_cons, List.length_nil, List.replicate, List.set_cons_zero, List.set_cons_succ, List.getElem?_cons_zero, List.getElem?_cons_succ, List.filter_cons, List.filter_nil, Ar.isDk, List.all_cons, List.all_nil, no_dt, no_un, no_ow, no_dk, Bool.and_eq_true, Bool.true_and, Bool.and_true, Bool.false_eq_true, if_false, if_true, ite_true, ite_false, Option.some.injEq, exists_eq_left', true_and, and_true, List.cons_append, List.nil_append, Nat.sub_self, decide_eq_true_eq, Nat.reduceAdd, Nat.reduceSub, Nat.zero_add, Nat.le_refl, Nat.zero_le]
        refine ⟨N.mul (S (BQ.st g)), swp, rfl, sw.mul_ _, ?_⟩
        simp only [↓n_asg_if, BQ.n_rt, sSeq, sNext, sRet, sRetF, sRetO, sDrop, sSet, sOwn, sAsg, sPar, sPar3, sAug, sApp, sIf, dIf, dTest, dAnd, dOr, dNot, dAndV, dOrV, d1, d2, d2F, dVar, dOwn, dC, dF, dTup, dLst, dNil, dCons, dCB, dCB1, dCF1, dChain, dChain3, dCall, dCallF, dCallK, aNil, aCons, aDk, dGn, dGnil, dGcons, dGtup, dOdIx, dGsub, dIdxT, dIdxL, dSlT, dSlL, dPart, dNoPart, dIl, dIt, frz, opn, cls, catD, startR, arS, seqOf, n_add, n_addT, n_sub, n_mul, n_fdiv, n_mod, n_pow, n_shl, n_cmp, n_is, n_neg, n_not, n_ixL, n_ixT, n_lenL, n_lenT, n_abs, n_gcd, n_isqrt, n_int, n_tupL, n_tupT, at10, at1n, at20, at21, at2n, at30, at31, at32, at3n, fD, mD, wipeR, dYes, ix32, ix31, n_boolC, sz0, sz1, sz2, sz3, sz4, sz5, sz6, sz7, sz8, n_eqI, n_neI, n_eq3, n_ne3, n_isi_int, n_isi_bool, n_isi_tuple, List.map_cons, List.map_nil, List.length_cons, List.length_nil, List.replicate, List.set_cons_zero, List.set_cons_succ, List.getElem?_cons_zero, List.getElem?_cons_succ, List.filter_cons, List.filter_nil, Ar.isDk, List.all_cons, List.all_nil, no_dt, no_un, no_ow, no_dk, Bool.and_eq_true, Bool.true_and, Bool.and_true, Bool.false_eq_true, if_false, if_true, ite_true, ite_false, Option.some.injEq, exists_eq_left', true_and, and_true, List.cons_append, List.nil_append, Nat.sub_self, decide_eq_true_eq, Nat.reduceAdd, Nat.reduceSub, Nat.zero_add, Nat.le_refl, Nat.zero_le]
        exact ⟨_, lt, (shf g).by swp, (N.mul (S (BQ.st g))).mul swp, _, _, _, _, rfl, ⟨rfl, rfl, rfl, rfl⟩, G.shf.swp, by rw [by_mul, eN], by rw [det_mul, dN]; rfl, ha2, hb2, fun R d => path R (.go gd d), rfl, k + 21, by omega, M2⟩
end
end K31

/-! Split forms, rings, as the program goes. -/
namespace K31
open PySem PySem.Spec PyProof.Rows L2 DL BQ
section
variable {P : Program} {w : World} {K : PySem.W.Frag} {mg : Str → Option Value} {base : Heap}
theorem bitsB {x : Int} {k : Nat} (h : x.natAbs ≤ 2 ^ k) : Builtin.Int.intBits x ≤ k + 1 := intBits_le_iff.mpr (by rw [Nat.pow_succ]; have := Nat.pow_pos (n := k) (show 0 < 2 by decide); omega)
theorem mB {a b : Int} {j k : Nat} (ha : a.natAbs ≤ 2 ^ j) (hb : b.natAbs ≤ 2 ^ k) (h : j + k ≤ 134217700) : IntMulOk a b := IntMulOk.of_le (bitsB ha) (bitsB hb) (by omega)
/-- a form with small items, a great step -/
theorem byBig {f : F} {m : M} {k : Nat} (ha : f.a.natAbs ≤ 2 ^ 60) (hb : f.b.natAbs ≤ 2 ^ 60) (hc : f.c.natAbs ≤ 2 ^ 60) (h : Mb k m) (hk : k ≤ 60000000) : ByOk f m := by
  obtain ⟨h1, h2, h3, h4⟩ := h
  have sL : ∀ {a : Int} (b : Int), a.natAbs ≤ 2 ^ 60 → IntMulOk a b := fun b h => mL (by omega) (by omega)
  have s2 : ∀ {a : Int} (b : Int), a.natAbs ≤ 2 ^ 60 → IntMulOk (2 * a) b := fun b h => mL (by omega) (by omega)
  have v : ∀ x y : Int, x.natAbs ≤ 2 ^ k → y.natAbs ≤ 2 ^ k → ValOk f x y := fun x y hx hy =>
    ⟨sL _ ha, mB (bit_mul ha hx) hx (by omega), sL _ hb, mB (bit_mul hb hx) hy (by omega), sL _ hc, mB (bit_mul hc hy) hy (by omega)⟩
  have t2 : ∀ {a : Int}, a.natAbs ≤ 2 ^ 60 → (2 * a).natAbs ≤ 2 ^ 61 := fun {a} h => by omega
  exact ⟨v _ _ h1 h3, v _ _ h2 h4, s2 _ ha, mB (bit_mul (t2 ha) h1) h2 (by omega), mB h1 h4 (by omega), mB h2 h3 (by omega), sL _ hb, s2 _ hc, mB (bit_mul (t2 hc) h3) h4 (by omega)⟩
theorem mulBig {x y : M} {j k : Nat} (h : Mb j x) (h' : Mb k y) (hk : j + k ≤ 134217700) : MulOk x y := by
  obtain ⟨h1, h2, h3, h4⟩ := h
  obtain ⟨k1, k2, k3, k4⟩ := h'
  exact ⟨mB h1 k1 hk, mB h2 k3 hk, mB h1 k2 hk, mB h2 k4 hk, mB h3 k1 hk, mB h4 k3 hk, mB h3 k2 hk, mB h4 k4 hk⟩
def zrow (x y : Int) : PyData := .tuple [.int (x.fdiv (Int.gcd x y)), .int (y.fdiv (Int.gcd x y))]
def zrows (f : F) : List (Int × Int) := if f.a = 0 then [(1, 0), (f.c, -f.b)] else [(rt f.disc - f.b, 2 * f.a), (-rt f.disc - f.b, 2 * f.a)]
theorem gcdOk {x y : Int} (hx : x.natAbs < 2 ^ 40) (hy : y.natAbs < 2 ^ 40) (h : x ≠ 0 ∨ y ≠ 0) : DivOk (Int.gcd x y) := by
  have g0 : Int.gcd x y ≠ 0 := fun z => by
    have := Int.gcd_eq_zero_iff.mp z
    omega
  have le : Int.gcd x y < 2 ^ 40 := by
    rcases h with h | h
    · exact Nat.lt_of_le_of_lt (Nat.le_of_dvd (by omega) (Int.gcd_dvd_natAbs_left x y)) hx
    · exact Nat.lt_of_le_of_lt (Nat.le_of_dvd (by omega) (Int.gcd_dvd_natAbs_right x y)) hy
  exact dOk (by omega) (by omega) (by omega)
theorem gcd_mul_fdiv {x y : Int} (h : x ≠ 0 ∨ y ≠ 0) : (Int.gcd x y : Int) ≠ 0 ∧ (Int.gcd x y : Int) * x.fdiv (Int.gcd x y) = x ∧ (Int.gcd x y : Int) * y.fdiv (Int.gcd x y) = y ∧ Int.gcd (x.fdiv (Int.gcd x y)) (y.fdiv (Int.gcd x y)) = 1 := by
  have g0 : (Int.gcd x y : Int) ≠ 0 := fun z => by
    have := Int.gcd_eq_zero_iff.mp (by exact_mod_cast z)
    omega
  obtain ⟨u, hu⟩ := Int.gcd_dvd_left x y
  obtain ⟨v, hv⟩ := Int.gcd_dvd_right x y
  have e1 := fdiv_mul (k := u) g0
  rw [← hu] at e1
  have e2 := fdiv_mul (k := v) g0
  rw [← hv] at e2
  refine ⟨g0, by rw [e1]; exact hu.symm, by rw [e2]; exact hv.symm, ?_⟩
  rw [e1, e2]
  have h1 : Int.gcd x y = Int.gcd (Int.gcd x y * u) (Int.gcd x y * v) := by rw [← hu, ← hv]
  rw [Int.gcd_mul_left] at h1
  have h2 : Int.gcd x y * 1 = Int.gcd x y * Int.gcd u v := by simpa using h1
  exact (Nat.eq_of_mul_eq_mul_left (by omega) h2).symm
structure RowOk (f : F) (w : Int) (r : Int × Int) : Prop where
  qs : (r.1.fdiv (Int.gcd r.1 r.2)).natAbs < 2 ^ 24
  ss : (r.2.fdiv (Int.gcd r.1 r.2)).natAbs < 2 ^ 24
  g1 : Int.gcd (r.1.fdiv (Int.gcd r.1 r.2)) (r.2.fdiv (Int.gcd r.1 r.2)) = 1
  to : ∀ m : M, m.q = r.1.fdiv (Int.gcd r.1 r.2) → m.s = r.2.fdiv (Int.gcd r.1 r.2) → m.det = 1 → (f.by m).c = 0 ∧ ((f.by m).b = w ∨ (f.by m).b = -w)
def GoodRow (f : F) (w : Int) (r : Int × Int) : Prop := ∀ m : M, m.q = r.1.fdiv (Int.gcd r.1 r.2) → m.s = r.2.fdiv (Int.gcd r.1 r.2) → m.det = 1 → (f.by m).b = w
theorem row_mk {f : F} {w x y : Int} (h : x ≠ 0 ∨ y ≠ 0) (hx : x.natAbs < 2 ^ 24) (hy : y.natAbs < 2 ^ 24)
    (to : ∀ (g : Int) (m : M), g ≠ 0 → g * m.q = x → g * m.s = y → m.det = 1 → (g * g) * (f.by m).c = 0 ∧ ((f.by m).b = w ∨ (f.by m).b = -w)) : RowOk f w (x, y) := by
  obtain ⟨g0, e1, e2, e3⟩ := gcd_mul_fdiv h
  have l1 := fdiv_le x (Int.gcd x y)
  have l2 := fdiv_le y (Int.gcd x y)
  refine ⟨Nat.lt_of_le_of_lt l1 hx, Nat.lt_of_le_of_lt l2 hy, e3, fun m h1 h2 h3 => ?_⟩
  obtain ⟨k1, k2⟩ := to (Int.gcd x y) m g0 (by rw [h1]; exact e1) (by rw [h2]; exact e2) h3
  exact ⟨sq0 g0 k1, k2⟩
theorem good_mk {f : F} {w x y : Int} (h : x ≠ 0 ∨ y ≠ 0) (to : ∀ (g : Int) (m : M), g ≠ 0 → g * m.q = x → g * m.s = y → m.det = 1 → (f.by m).b = w) : GoodRow f w (x, y) := by
  obtain ⟨g0, e1, e2, e3⟩ := gcd_mul_fdiv h
  exact fun m h1 h2 h3 => to (Int.gcd x y) m g0 (by rw [h1]; exact e1) (by rw [h2]; exact e2) h3
theorem rows_ok {f : F} {w : Int} (w0 : 0 < w) (hw : w ≤ 3162) (hd : f.disc = w * w) (h1 : f.a.natAbs ≤ 2 ^ 20) (h2 : f.b.natAbs ≤ 2 ^ 20) (h3 : f.c.natAbs ≤ 2 ^ 20) (hr : rt f.disc = w) :
    (∀ r, r ∈ zrows f → RowOk f w r) ∧ ∃ r, r ∈ zrows f ∧ GoodRow f w r := by
  unfold zrows
  rw [hr]
  by_cases ha : f.a = 0
  · rw [if_pos ha]
    have hb : f.b = w ∨ f.b = -w := by
      unfold F.disc at hd
      rw [ha] at hd
      have : (f.b - w) * (f.b + w) = 0 := by grind
      rcases Int.mul_eq_zero.mp this with z | z <;> omega
    have r1 : RowOk f w (1, 0) := row_mk (.inl (by decide)) (by decide) (by decide) fun g m g0 e1 e2 hm => by
      have q0 : m.s = 0 := (Int.mul_eq_zero.mp e2).resolve_left g0
      have key : (f.by m).c = 0 ∧ ((f.by m).b = f.b ∨ (f.by m).b = -f.b) := by
        unfold M.det at hm
        rw [q0] at hm
        have qq : m.q * m.r = -1 := by omega
        simp only [F.by, F.val, ha, q0]
        refine ⟨by grind, ?_⟩
        have : 2 * 0 * m.p * m.q + f.b * (m.p * 0 + m.q * m.r) + 2 * f.c * m.r * 0 = f.b * (m.q * m.r) := by grind
        rw [this, qq]
        right; omega
      refine ⟨by rw [key.1]; omega, ?_⟩
      have := key.2
      omega
    have nb : -f.b ≠ 0 := by omega
    have r2 : RowOk f w (f.c, -f.b) := row_mk (.inr nb) (by omega) (by omega) fun g m g0 e1 e2 hm => by
      obtain ⟨k1, k2⟩ := line4 ha g0 e1 e2 hm
      exact ⟨k2, by rw [k1]; exact hb⟩
    refine ⟨fun r hr => ?_, ?_⟩
    · rcases List.mem_cons.mp hr with rfl | hr
      · exact r1
      · rw [List.mem_singleton.mp hr]; exact r2
    · rcases hb with hb | hb
      · refine ⟨(f.c, -f.b), by simp, good_mk (.inr nb) fun g m g0 e1 e2 hm => ?_⟩
        rw [(line4 ha g0 e1 e2 hm).1]; exact hb
      · refine ⟨(1, 0), by simp, fun m e1 e2 hm => ?_⟩
        have e1 : m.q = 1 := e1
        have e2 : m.s = 0 := e2
        rw [(line3 ha e1 e2 hm).1]; omega
  · rw [if_neg ha]
    have a2 : 2 * f.a ≠ 0 := by omega
    have r1 : RowOk f w (w - f.b, 2 * f.a) := row_mk (.inr a2) (by omega) (by omega) fun g m g0 e1 e2 hm => by
      obtain ⟨k1, k2⟩ := line1 hd g0 e1 e2 hm
      exact ⟨k2, .inl k1⟩
    have r2 : RowOk f w (-w - f.b, 2 * f.a) := row_mk (.inr a2) (by omega) (by omega) fun g m g0 e1 e2 hm => by
      obtain ⟨k1, k2⟩ := line2 hd g0 e1 e2 hm
      exact ⟨k2, .inr k1⟩
    refine ⟨fun r hr => ?_, (w - f.b, 2 * f.a), by simp, good_mk (.inr a2) fun g m g0 e1 e2 hm => (line1 hd g0 e1 e2 hm).1⟩
    rcases List.mem_cons.mp hr with rfl | hr
    · exact r1
    · rw [List.mem_singleton.mp hr]; exact r2
def rowF : PyData → Option PyData
  | .tuple [.int x, .int y] => some (zrow x y)
  | _ => none
def sd_zero_directions : Sd := fun c as y Φ Ψ => ∃ f : F, as = [.dt (fD f)] ∧ DiscOk f ∧ 0 < f.disc ∧ f.disc < 2 ^ 60 ∧ f.a.natAbs ≤ 2 ^ 20 ∧ f.b.natAbs ≤ 2 ^ 20 ∧ f.c.natAbs ≤ 2 ^ 20 ∧ Ψ ((zrows f).map fun r => zrow r.1 r.2) c
theorem ok_zero_directions (Mx : Mo K mg) (C_discriminant_of : Cl false P w K mg base 1 "discriminant_of" ["f"] sd_discriminant_of) : Cl false P w K mg base 2 "zero_directions" ["f"] sd_zero_directions := by
  obtain ⟨fd, hm, Fn0⟩ := Mx.fn 22 "zero_directions" (by decide +kernel)
  have hN : (["f", "a", "b", "c", "root", "rows", "x", "y"] : List Str).Nodup := by decide +kernel
  have Sc0 : FnScope ["f", "a", "b", "c", "root", "rows", "x", "y"] ["f"] (defScope (top 22)) := ⟨rfl, rfl, rfl, hN, rfl, by decide +kernel, by decide +kernel⟩
  refine cl_mk Fn0 hm Sc0 (fun _ _ _ _ _ _ us hl => match us, hl with | [_], _ => rfl) (fun _ _ _ _ _ _ us hl => match us, hl with | [_], _ => rfl) fun cdv A outer s H E hr hG tk hp => ⟨_, (ss_cons (s_asg (e_var (pv 0)) (g_tup (n := 3) (by rfl) (gs_cons ((c_name (i := 1) hN (by rfl) (by first | exact .inl rfl | exact .inr rfl) (by first | exact .inl rfl | exact .inr rfl)).g) (gs_cons ((c_name (i := 2) hN (by rfl) (by first | exact .inl rfl | exact .inr rfl) (by first | exact .inl rfl | exact .inr rfl)).g) (gs_cons ((c_name (i := 3) hN (by rfl) (by first | exact .inl rfl | exact .inr rfl) (by first | exact .inl rfl | exact .inr rfl)).g) gs_nil)))))
    (ss_cons (s_set (i := 4) hN (by rfl) (by first | exact .inl rfl | exact .inr rfl) (e_callBm c_isqrt (by rfl) Mx.m_isqrt (l_cons (e_callC C_discriminant_of (by decide) hr nog (by rfl) tk (a_cons (e_var (pv 0)) a_nil)) l_nil)))
    (ss_cons (s_set (i := 5) hN (by rfl) (by first | exact .inl rfl | exact .inr rfl) (e_if (t_cmp (o_eqP (hu4 hr)) (r_own (pv 1)) e_int.r rfl) (f_lst (l_cons (e_tup (l_cons e_int (l_cons e_int l_nil))) (l_cons (e_tup (l_cons (e_var (pv 3)) (l_cons (e_un o_neg (e_var (pv 2))) l_nil))) l_nil))).e (f_lst (l_cons (e_tup (l_cons (e_bin o_sub (r_own (pv 4)) (r_own (pv 2))) (l_cons (e_bin o_mul e_int.r (r_own (pv 1))) l_nil))) (l_cons (e_tup (l_cons (e_bin o_sub (e_un o_neg (e_var (pv 4))).r (r_own (pv 2))) (l_cons (e_bin o_mul e_int.r (r_own (pv 1))) l_nil))) l_nil))).e))
    (ss_one (s_retF (f_comp (own := [("x", 6), ("y", 7)]) rfl hN (i_list (e_var (pv 5))) (blkOk_by rfl) (by decide) (fun s' H' C' cl' fp' => (c_tup (n := 2) (by rfl) (cs_cons (c_name (i := 6) hN (by rfl) (by first | exact .inl rfl | exact .inr rfl) (by first | exact .inl rfl | exact .inr rfl)) (cs_cons (c_name (i := 7) hN (by rfl) (by first | exact .inl rfl | exact .inr rfl) (by first | exact .inl rfl | exact .inr rfl)) cs_nil)))) (fun s' H' C' cl' fp' => if_nil) (fun s' H' C' cl' fp' => (e_tup (l_cons (e_bin o_fdiv (r_own (pv 6)) (e_callBm c_gcd (by rfl) Mx.m_gcd (l_cons (e_var (pv 6)) (l_cons (e_var (pv 7)) l_nil))).r) (l_cons (e_bin o_fdiv (r_own (pv 7)) (e_callBm c_gcd (by rfl) Mx.m_gcd (l_cons (e_var (pv 6)) (l_cons (e_var (pv 7)) l_nil))).r) l_nil)))))))))), fun c as y Φ Ψ hn hs => ?_⟩
  obtain ⟨f, rfl, h1, h2, h3, h4, h5, h6, h⟩ := hs
  simp only [↓n_asg_if, BQ.n_rt, sSeq, sNext, sRet, sRetF, sRetO, sDrop, sSet, sOwn, sAsg, sPar, sPar3, sAug, sApp, sIf, dIf, dTest, dAnd, dOr, dNot, dAndV, dOrV, d1, d2, d2F, dVar, dOwn, dC, dF, dTup, dLst, dNil, dCons, dCB, dCB1, dCF1, dChain, dChain3, dCall, dCallF, dCallK, aNil, aCons, aDk, dGn, dGnil, dGcons, dGtup, dOdIx, dGsub, dIdxT, dIdxL, dSlT, dSlL, dPart, dNoPart, dIl, dIt, frz, opn, cls, catD, startR, arS, seqOf, n_add, n_addT, n_sub, n_mul, n_fdiv, n_mod, n_pow, n_shl, n_cmp, n_is, n_neg, n_not, n_ixL, n_ixT, n_lenL, n_lenT, n_abs, n_gcd, n_isqrt, n_int, n_tupL, n_tupT, at10, at1n, at20, at21, at2n, at30, at31, at32, at3n, fD, mD, wipeR, dYes, ix32, ix31, n_boolC, sz0, sz1, sz2, sz3, sz4, sz5, sz6, sz7, sz8, n_eqI, n_neI, n_eq3, n_ne3, n_isi_int, n_isi_bool, n_isi_tuple, List.map_cons, List.map_nil, List.length_cons, List.length_nil, List.replicate, List.set_cons_zero, List.set_cons_succ, List.getElem?_cons_zero, List.getElem?_cons_succ, List.filter_cons, List.filter_nil, Ar.isDk, List.all_cons, List.all_nil, no_dt, no_un, no_ow, no_dk, Bool.and_eq_true, Bool.true_and, Bool.and_true, Bool.false_eq_true, if_false, if_true, ite_true, ite_false, Option.some.injEq, exists_eq_left', true_and, and_true, List.cons_append, List.nil_append, Nat.sub_self, decide_eq_true_eq, Nat.reduceAdd, Nat.reduceSub, Nat.zero_add, Nat.le_refl, Nat.zero_le]
  refine ⟨f, rfl, h1.1, h1.2, ?_⟩
  simp only [↓n_asg_if, BQ.n_rt, sSeq, sNext, sRet, sRetF, sRetO, sDrop, sSet, sOwn, sAsg, sPar, sPar3, sAug, sApp, sIf, dIf, dTest, dAnd, dOr, dNot, dAndV, dOrV, d1, d2, d2F, dVar, dOwn, dC, dF, dTup, dLst, dNil, dCons, dCB, dCB1, dCF1, dChain, dChain3, dCall, dCallF, dCallK, aNil, aCons, aDk, dGn, dGnil, dGcons, dGtup, dOdIx, dGsub, dIdxT, dIdxL, dSlT, dSlL, dPart, dNoPart, dIl, dIt, frz, opn, cls, catD, startR, arS, seqOf, n_add, n_addT, n_sub, n_mul, n_fdiv, n_mod, n_pow, n_shl, n_cmp, n_is, n_neg, n_not, n_ixL, n_ixT, n_lenL, n_lenT, n_abs, n_gcd, n_isqrt, n_int, n_tupL, n_tupT, at10, at1n, at20, at21, at2n, at30, at31, at32, at3n, fD, mD, wipeR, dYes, ix32, ix31, n_boolC, sz0, sz1, sz2, sz3, sz4, sz5, sz6, sz7, sz8, n_eqI, n_neI, n_eq3, n_ne3, n_isi_int, n_isi_bool, n_isi_tuple, List.map_cons, List.map_nil, List.length_cons, List.length_nil, List.replicate, List.set_cons_zero, List.set_cons_succ, List.getElem?_cons_zero, List.getElem?_cons_succ, List.filter_cons, List.filter_nil, Ar.isDk, List.all_cons, List.all_nil, no_dt, no_un, no_ow, no_dk, Bool.and_eq_true, Bool.true_and, Bool.and_true, Bool.false_eq_true, if_false, if_true, ite_true, ite_false, Option.some.injEq, exists_eq_left', true_and, and_true, List.cons_append, List.nil_append, Nat.sub_self, decide_eq_true_eq, Nat.reduceAdd, Nat.reduceSub, Nat.zero_add, Nat.le_refl, Nat.zero_le]
  refine ⟨by omega, by omega, ?_⟩
  obtain ⟨r0, r1, r2⟩ := rt_ok (Int.le_of_lt h2)
  have r3 : rt f.disc < 2 ^ 30 := sqlt (by decide) (by omega)
  have b0 : f.a = 0 → f.b ≠ 0 := fun ha hb => by
    unfold F.disc at h2
    rw [ha, hb] at h2
    omega
  unfold zrows at h
  by_cases ha : f.a = 0
  · rw [if_pos ha] at h ⊢
    refine ⟨rfl, ?_⟩
    simp only [↓n_asg_if, BQ.n_rt, sSeq, sNext, sRet, sRetF, sRetO, sDrop, sSet, sOwn, sAsg, sPar, sPar3, sAug, sApp, sIf, dIf, dTest, dAnd, dOr, dNot, dAndV, dOrV, d1, d2, d2F, dVar, dOwn, dC, dF, dTup, dLst, dNil, dCons, dCB, dCB1, dCF1, dChain, dChain3, dCall, dCallF, dCallK, aNil, aCons, aDk, dGn, dGnil, dGcons, dGtup, dOdIx, dGsub, dIdxT, dIdxL, dSlT, dSlL, dPart, dNoPart, dIl, dIt, frz, opn, cls, catD, startR, arS, seqOf, n_add, n_addT, n_sub, n_mul, n_fdiv, n_mod, n_pow, n_shl, n_cmp, n_is, n_neg, n_not, n_ixL, n_ixT, n_lenL, n_lenT, n_abs, n_gcd, n_isqrt, n_int, n_tupL, n_tupT, at10, at1n, at20, at21, at2n, at30, at31, at32, at3n, fD, mD, wipeR, dYes, ix32, ix31, n_boolC, sz0, sz1, sz2, sz3, sz4, sz5, sz6, sz7, sz8, n_eqI, n_neI, n_eq3, n_ne3, n_isi_int, n_isi_bool, n_isi_tuple, List.map_cons, List.map_nil, List.length_cons, List.length_nil, List.replicate, List.set_cons_zero, List.set_cons_succ, List.getElem?_cons_zero, List.getElem?_cons_succ, List.filter_cons, List.filter_nil, Ar.isDk, List.all_cons, List.all_nil, no_dt, no_un, no_ow, no_dk, Bool.and_eq_true, Bool.true_and, Bool.and_true, Bool.false_eq_true, if_false, if_true, ite_true, ite_false, Option.some.injEq, exists_eq_left', true_and, and_true, List.cons_append, List.nil_append, Nat.sub_self, decide_eq_true_eq, Nat.reduceAdd, Nat.reduceSub, Nat.zero_add, Nat.le_refl, Nat.zero_le]
    refine compW_pure rowF _ _ (fun d hd K1 K2 hk => ?_) (by show 2 ≤ sizeLine; decide) h
    rcases List.mem_cons.mp hd with rfl | hd
    · simp only [↓n_asg_if, BQ.n_rt, sSeq, sNext, sRet, sRetF, sRetO, sDrop, sSet, sOwn, sAsg, sPar, sPar3, sAug, sApp, sIf, dIf, dTest, dAnd, dOr, dNot, dAndV, dOrV, d1, d2, d2F, dVar, dOwn, dC, dF, dTup, dLst, dNil, dCons, dCB, dCB1, dCF1, dChain, dChain3, dCall, dCallF, dCallK, aNil, aCons, aDk, dGn, dGnil, dGcons, dGtup, dOdIx, dGsub, dIdxT, dIdxL, dSlT, dSlL, dPart, dNoPart, dIl, dIt, frz, opn, cls, catD, startR, arS, seqOf, n_add, n_addT, n_sub, n_mul, n_fdiv, n_mod, n_pow, n_shl, n_cmp, n_is, n_neg, n_not, n_ixL, n_ixT, n_lenL, n_lenT, n_abs, n_gcd, n_isqrt, n_int, n_tupL, n_tupT, at10, at1n, at20, at21, at2n, at30, at31, at32, at3n, fD, mD, wipeR, dYes, ix32, ix31, n_boolC, sz0, sz1, sz2, sz3, sz4, sz5, sz6, sz7, sz8, n_eqI, n_neI, n_eq3, n_ne3, n_isi_int, n_isi_bool, n_isi_tuple, List.map_cons, List.map_nil, List.length_cons, List.length_nil, List.replicate, List.set_cons_zero, List.set_cons_succ, List.getElem?_cons_zero, List.getElem?_cons_succ, List.filter_cons, List.filter_nil, Ar.isDk, List.all_cons, List.all_nil, no_dt, no_un, no_ow, no_dk, Bool.and_eq_true, Bool.true_and, Bool.and_true, Bool.false_eq_true, if_false, if_true, ite_true, ite_false, Option.some.injEq, exists_eq_left', true_and, and_true, List.cons_append, List.nil_append, Nat.sub_self, decide_eq_true_eq, Nat.reduceAdd, Nat.reduceSub, Nat.zero_add, Nat.le_refl, Nat.zero_le]
      exact ⟨gcdOk (by decide) (by decide) (.inl (by decide)), gcdOk (by decide) (by decide) (.inl (by decide)), hk⟩
    · have hd := List.mem_singleton.mp hd
      subst hd
      simp only [↓n_asg_if, BQ.n_rt, sSeq, sNext, sRet, sRetF, sRetO, sDrop, sSet, sOwn, sAsg, sPar, sPar3, sAug, sApp, sIf, dIf, dTest, dAnd, dOr, dNot, dAndV, dOrV, d1, d2, d2F, dVar, dOwn, dC, dF, dTup, dLst, dNil, dCons, dCB, dCB1, dCF1, dChain, dChain3, dCall, dCallF, dCallK, aNil, aCons, aDk, dGn, dGnil, dGcons, dGtup, dOdIx, dGsub, dIdxT, dIdxL, dSlT, dSlL, dPart, dNoPart, dIl, dIt, frz, opn, cls, catD, startR, arS, seqOf, n_add, n_addT, n_sub, n_mul, n_fdiv, n_mod, n_pow, n_shl, n_cmp, n_is, n_neg, n_not, n_ixL, n_ixT, n_lenL, n_lenT, n_abs, n_gcd, n_isqrt, n_int, n_tupL, n_tupT, at10, at1n, at20, at21, at2n, at30, at31, at32, at3n, fD, mD, wipeR, dYes, ix32, ix31, n_boolC, sz0, sz1, sz2, sz3, sz4, sz5, sz6, sz7, sz8, n_eqI, n_neI, n_eq3, n_ne3, n_isi_int, n_isi_bool, n_isi_tuple, List.map_cons, List.map_nil, List.length_cons, List.length_nil, List.replicate, List.set_cons_zero, List.set_cons_succ, List.getElem?_cons_zero, List.getElem?_cons_succ, List.filter_cons, List.filter_nil, Ar.isDk, List.all_cons, List.all_nil, no_dt, no_un, no_ow, no_dk, Bool.and_eq_true, Bool.true_and, Bool.and_true, Bool.false_eq_true, if_false, if_true, ite_true, ite_false, Option.some.injEq, exists_eq_left', true_and, and_true, List.cons_append, List.nil_append, Nat.sub_self, decide_eq_true_eq, Nat.reduceAdd, Nat.reduceSub, Nat.zero_add, Nat.le_refl, Nat.zero_le]
      have := b0 ha
      exact ⟨gcdOk (by omega) (by omega) (.inr (by omega)), gcdOk (by omega) (by omega) (.inr (by omega)), hk⟩
  · rw [if_neg ha] at h ⊢
    refine ⟨.of_left (by decide), .of_left (by decide), rfl, ?_⟩
    simp only [↓n_asg_if, BQ.n_rt, sSeq, sNext, sRet, sRetF, sRetO, sDrop, sSet, sOwn, sAsg, sPar, sPar3, sAug, sApp, sIf, dIf, dTest, dAnd, dOr, dNot, dAndV, dOrV, d1, d2, d2F, dVar, dOwn, dC, dF, dTup, dLst, dNil, dCons, dCB, dCB1, dCF1, dChain, dChain3, dCall, dCallF, dCallK, aNil, aCons, aDk, dGn, dGnil, dGcons, dGtup, dOdIx, dGsub, dIdxT, dIdxL, dSlT, dSlL, dPart, dNoPart, dIl, dIt, frz, opn, cls, catD, startR, arS, seqOf, n_add, n_addT, n_sub, n_mul, n_fdiv, n_mod, n_pow, n_shl, n_cmp, n_is, n_neg, n_not, n_ixL, n_ixT, n_lenL, n_lenT, n_abs, n_gcd, n_isqrt, n_int, n_tupL, n_tupT, at10, at1n, at20, at21, at2n, at30, at31, at32, at3n, fD, mD, wipeR, dYes, ix32, ix31, n_boolC, sz0, sz1, sz2, sz3, sz4, sz5, sz6, sz7, sz8, n_eqI, n_neI, n_eq3, n_ne3, n_isi_int, n_isi_bool, n_isi_tuple, List.map_cons, List.map_nil, List.length_cons, List.length_nil, List.replicate, List.set_cons_zero, List.set_cons_succ, List.getElem?_cons_zero, List.getElem?_cons_succ, List.filter_cons, List.filter_nil, Ar.isDk, List.all_cons, List.all_nil, no_dt, no_un, no_ow, no_dk, Bool.and_eq_true, Bool.true_and, Bool.and_true, Bool.false_eq_true, if_false, if_true, ite_true, ite_false, Option.some.injEq, exists_eq_left', true_and, and_true, List.cons_append, List.nil_append, Nat.sub_self, decide_eq_true_eq, Nat.reduceAdd, Nat.reduceSub, Nat.zero_add, Nat.le_refl, Nat.zero_le]
    refine compW_pure rowF _ _ (fun d hd K1 K2 hk => ?_) (by show 2 ≤ sizeLine; decide) h
    rcases List.mem_cons.mp hd with rfl | hd
    · simp only [↓n_asg_if, BQ.n_rt, sSeq, sNext, sRet, sRetF, sRetO, sDrop, sSet, sOwn, sAsg, sPar, sPar3, sAug, sApp, sIf, dIf, dTest, dAnd, dOr, dNot, dAndV, dOrV, d1, d2, d2F, dVar, dOwn, dC, dF, dTup, dLst, dNil, dCons, dCB, dCB1, dCF1, dChain, dChain3, dCall, dCallF, dCallK, aNil, aCons, aDk, dGn, dGnil, dGcons, dGtup, dOdIx, dGsub, dIdxT, dIdxL, dSlT, dSlL, dPart, dNoPart, dIl, dIt, frz, opn, cls, catD, startR, arS, seqOf, n_add, n_addT, n_sub, n_mul, n_fdiv, n_mod, n_pow, n_shl, n_cmp, n_is, n_neg, n_not, n_ixL, n_ixT, n_lenL, n_lenT, n_abs, n_gcd, n_isqrt, n_int, n_tupL, n_tupT, at10, at1n, at20, at21, at2n, at30, at31, at32, at3n, fD, mD, wipeR, dYes, ix32, ix31, n_boolC, sz0, sz1, sz2, sz3, sz4, sz5, sz6, sz7, sz8, n_eqI, n_neI, n_eq3, n_ne3, n_isi_int, n_isi_bool, n_isi_tuple, List.map_cons, List.map_nil, List.length_cons, List.length_nil, List.replicate, List.set_cons_zero, List.set_cons_succ, List.getElem?_cons_zero, List.getElem?_cons_succ, List.filter_cons, List.filter_nil, Ar.isDk, List.all_cons, List.all_nil, no_dt, no_un, no_ow, no_dk, Bool.and_eq_true, Bool.true_and, Bool.and_true, Bool.false_eq_true, if_false, if_true, ite_true, ite_false, Option.some.injEq, exists_eq_left', true_and, and_true, List.cons_append, List.nil_append, Nat.sub_self, decide_eq_true_eq, Nat.reduceAdd, Nat.reduceSub, Nat.zero_add, Nat.le_refl, Nat.zero_le]
      exact ⟨gcdOk (by omega) (by omega) (.inr (by omega)), gcdOk (by omega) (by omega) (.inr (by omega)), hk⟩
    · have hd := List.mem_singleton.mp hd
      subst hd
      simp only [↓n_asg_if, BQ.n_rt, sSeq, sNext, sRet, sRetF, sRetO, sDrop, sSet, sOwn, sAsg, sPar, sPar3, sAug, sApp, sIf, dIf, dTest, dAnd, dOr, dNot, dAndV, dOrV, d1, d2, d2F, dVar, dOwn, dC, dF, dTup, dLst, dNil, dCons, dCB, dCB1, dCF1, dChain, dChain3, dCall, dCallF, dCallK, aNil, aCons, aDk, dGn, dGnil, dGcons, dGtup, dOdIx, dGsub, dIdxT, dIdxL, dSlT, dSlL, dPart, dNoPart, dIl, dIt, frz, opn, cls, catD, startR, arS, seqOf, n_add, n_addT, n_sub, n_mul, n_fdiv, n_mod, n_pow, n_shl, n_cmp, n_is, n_neg, n_not, n_ixL, n_ixT, n_lenL, n_lenT, n_abs, n_gcd, n_isqrt, n_int, n_tupL, n_tupT, at10, at1n, at20, at21, at2n, at30, at31, at32, at3n, fD, mD, wipeR, dYes, ix32, ix31, n_boolC, sz0, sz1, sz2, sz3, sz4, sz5, sz6, sz7, sz8, n_eqI, n_neI, n_eq3, n_ne3, n_isi_int, n_isi_bool, n_isi_tuple, List.map_cons, List.map_nil, List.length_cons, List.length_nil, List.replicate, List.set_cons_zero, List.set_cons_succ, List.getElem?_cons_zero, List.getElem?_cons_succ, List.filter_cons, List.filter_nil, Ar.isDk, List.all_cons, List.all_nil, no_dt, no_un, no_ow, no_dk, Bool.and_eq_true, Bool.true_and, Bool.and_true, Bool.false_eq_true, if_false, if_true, ite_true, ite_false, Option.some.injEq, exists_eq_left', true_and, and_true, List.cons_append, List.nil_append, Nat.sub_self, decide_eq_true_eq, Nat.reduceAdd, Nat.reduceSub, Nat.zero_add, Nat.le_refl, Nat.zero_le]
      exact ⟨gcdOk (by omega) (by omega) (.inr (by omega)), gcdOk (by omega) (by omega) (.inr (by omega)), hk⟩
def sd_split_reduced : Sd := fun c as y Φ Ψ => ∃ f : F, as = [.dt (fD f)] ∧ 0 < f.disc ∧ rt f.disc * rt f.disc = f.disc ∧ rt f.disc ≤ 3162 ∧ f.a.natAbs ≤ 2 ^ 20 ∧ f.b.natAbs ≤ 2 ^ 20 ∧ f.c.natAbs ≤ 2 ^ 20 ∧
  ∀ R m, Sp f (rt f.disc) R → f.by m = R → m.det = 1 → Mb 5000 m → Φ (.tuple [fD R, mD m]) c
theorem ok_split_reduced (Mx : Mo K mg) (C_zero_directions : Cl false P w K mg base 2 "zero_directions" ["f"] sd_zero_directions) (C_bezout : Cl false P w K mg base 1 "bezout" ["a", "b"] sd_bezout) (C_taken_by : Cl false P w K mg base 2 "taken_by" ["f", "step"] sd_taken_by) (C_times_step : Cl false P w K mg base 1 "times_step" ["one", "other"] sd_times_step) : Cl false P w K mg base 3 "split_reduced" ["f"] sd_split_reduced := by
  obtain ⟨fd, hm, Fn0⟩ := Mx.fn 23 "split_reduced" (by decide +kernel)
  have hN : (["f", "q", "s", "p", "r", "step", "found", "shift"] : List Str).Nodup := by decide +kernel
  have Sc0 : FnScope ["f", "q", "s", "p", "r", "step", "found", "shift"] ["f"] (defScope (top 23)) := ⟨rfl, rfl, rfl, hN, rfl, by decide +kernel, by decide +kernel⟩
  refine cl_mk Fn0 hm Sc0 (fun _ _ _ _ _ _ us hl => match us, hl with | [_], _ => rfl) (fun _ _ _ _ _ _ us hl => match us, hl with | [_], _ => rfl) fun cdv A outer s H E hr hG tk hp => ⟨_, (ss_cons (s_for hp rfl (i_list (f_callC C_zero_directions (by decide) hr nog (by rfl) tk (a_cons (e_var (pv 0)) a_nil)).e) (c_tup (n := 2) (by rfl) (cs_cons (c_name (i := 1) hN (by rfl) (by first | exact .inl rfl | exact .inr rfl) (by first | exact .inl rfl | exact .inr rfl)) (cs_cons (c_name (i := 2) hN (by rfl) (by first | exact .inl rfl | exact .inr rfl) (by first | exact .inl rfl | exact .inr rfl)) cs_nil))) (ss_cons (s_asg (e_callC C_bezout (by decide) hr nog (by rfl) tk (a_cons (e_var (pv 2)) (a_cons (e_un o_neg (e_var (pv 1))) a_nil))) (g_tup (n := 2) (by rfl) (gs_cons ((c_name (i := 3) hN (by rfl) (by first | exact .inl rfl | exact .inr rfl) (by first | exact .inl rfl | exact .inr rfl)).g) (gs_cons ((c_name (i := 4) hN (by rfl) (by first | exact .inl rfl | exact .inr rfl) (by first | exact .inl rfl | exact .inr rfl)).g) gs_nil))))
    (ss_cons (s_set (i := 5) hN (by rfl) (by first | exact .inl rfl | exact .inr rfl) (e_tup (l_cons (e_tup (l_cons (e_var (pv 3)) (l_cons (e_var (pv 1)) l_nil))) (l_cons (e_tup (l_cons (e_var (pv 4)) (l_cons (e_var (pv 2)) l_nil))) l_nil))))
    (ss_cons (s_set (i := 6) hN (by rfl) (by first | exact .inl rfl | exact .inr rfl) (e_callC C_taken_by (by decide) hr nog (by rfl) tk (a_cons (e_var (pv 0)) (a_cons (e_var (pv 5)) a_nil))))
    (ss_one (s_if (t_cmp o_gt (e_ix (r_own (pv 6)) e_int).r e_int.r rfl) (ss_cons (s_set (i := 7) hN (by rfl) (by first | exact .inl rfl | exact .inr rfl) (e_tup (l_cons (e_tup (l_cons e_int (l_cons e_int l_nil))) (l_cons (e_tup (l_cons (e_un o_neg (e_bin o_fdiv (e_ix (r_own (pv 6)) e_int).r (e_ix (r_own (pv 6)) e_int).r)) (l_cons e_int l_nil))) l_nil))))
    (ss_one (s_ret (e_tup (l_cons (e_callC C_taken_by (by decide) hr nog (by rfl) tk (a_cons (e_var (pv 6)) (a_cons (e_var (pv 7)) a_nil))) (l_cons (e_callC C_times_step (by decide) hr nog (by rfl) tk (a_cons (e_var (pv 5)) (a_cons (e_var (pv 7)) a_nil))) l_nil)))))) ss_nil))))))
    (ss_one (s_ret (e_tup (l_cons (e_var (pv 0)) (l_cons (e_glob (pe_glob (by rfl) Mx.k_SAME.1 (by rfl)) Mx.k_SAME.2) l_nil)))))), fun c as y Φ Ψ hn hs => ?_⟩
  obtain ⟨f, rfl, h1, h2, h3, h4, h5, h6, h⟩ := hs
  obtain ⟨w0', _, _⟩ := rt_ok (Int.le_of_lt h1)
  generalize hw : rt f.disc = w at *
  have w0 : 0 < w := by
    rcases Int.lt_or_eq_of_le w0' with z | z
    · exact z
    · rw [← z] at h2; omega
  have rows := rows_ok w0 h3 h2.symm h4 h5 h6 hw
  unfold sFor
  simp only [↓n_asg_if, BQ.n_rt, sSeq, sNext, sRet, sRetF, sRetO, sDrop, sSet, sOwn, sAsg, sPar, sPar3, sAug, sApp, sIf, dIf, dTest, dAnd, dOr, dNot, dAndV, dOrV, d1, d2, d2F, dVar, dOwn, dC, dF, dTup, dLst, dNil, dCons, dCB, dCB1, dCF1, dChain, dChain3, dCall, dCallF, dCallK, aNil, aCons, aDk, dGn, dGnil, dGcons, dGtup, dOdIx, dGsub, dIdxT, dIdxL, dSlT, dSlL, dPart, dNoPart, dIl, dIt, frz, opn, cls, catD, startR, arS, seqOf, n_add, n_addT, n_sub, n_mul, n_fdiv, n_mod, n_pow, n_shl, n_cmp, n_is, n_neg, n_not, n_ixL, n_ixT, n_lenL, n_lenT, n_abs, n_gcd, n_isqrt, n_int, n_tupL, n_tupT, at10, at1n, at20, at21, at2n, at30, at31, at32, at3n, fD, mD, wipeR, dYes, ix32, ix31, n_boolC, sz0, sz1, sz2, sz3, sz4, sz5, sz6, sz7, sz8, n_eqI, n_neI, n_eq3, n_ne3, n_isi_int, n_isi_bool, n_isi_tuple, List.map_cons, List.map_nil, List.length_cons, List.length_nil, List.replicate, List.set_cons_zero, List.set_cons_succ, List.getElem?_cons_zero, List.getElem?_cons_succ, List.filter_cons, List.filter_nil, Ar.isDk, List.all_cons, List.all_nil, no_dt, no_un, no_ow, no_dk, Bool.and_eq_true, Bool.true_and, Bool.and_true, Bool.false_eq_true, if_false, if_true, ite_true, ite_false, Option.some.injEq, exists_eq_left', true_and, and_true, List.cons_append, List.nil_append, Nat.sub_self, decide_eq_true_eq, Nat.reduceAdd, Nat.reduceSub, Nat.zero_add, Nat.le_refl, Nat.zero_le]
  refine ⟨f, rfl, ⟨mR (by omega) (by omega), mR (by omega) (by omega)⟩, h1, by have := sqle (a := w) (b := 3162) (by omega) h3; omega, h4, h5, h6, ?_⟩
  refine forW_inv (fun ds c' ρ => ∃ (rs : List (Int × Int)) (s1 s2 s3 s4 s5 s6 s7 : Sl), ds = rs.map (fun r => zrow r.1 r.2) ∧ ρ = [.dt (fD f), s1, s2, s3, s4, s5, s6, s7] ∧ (s1.notOd = true ∧ s2.notOd = true ∧ s3.notOd = true ∧ s4.notOd = true ∧ s5.notOd = true ∧ s6.notOd = true ∧ s7.notOd = true) ∧ c' = c ∧ (∀ r, r ∈ rs → RowOk f w r) ∧ ∃ r, r ∈ rs ∧ GoodRow f w r) ?_ ?_ _ _ _
    ⟨zrows f, _, _, _, _, _, _, _, rfl, rfl, ⟨rfl, rfl, rfl, rfl, rfl, rfl, rfl⟩, rfl, rows.1, rows.2⟩
  · rintro d rest c' ρ ⟨rs, s1, s2, s3, s4, s5, s6, s7, e, rfl, ⟨n1, n2, n3, n4, n5, n6, n7⟩, rfl, ok, gr⟩ Φ' k1 k2 k3 k4 k5
    cases rs with
    | nil => cases e
    | cons r rs =>
      obtain ⟨x, yy⟩ := r
      have e' := List.cons.inj e
      obtain ⟨rfl, er⟩ := e'
      have ro := ok _ List.mem_cons_self
      show (dGtup 2 _) (.tuple [.int (x.fdiv (Int.gcd x yy)), .int (yy.fdiv (Int.gcd x yy))]) _ _ _
      have q1 := ro.qs
      have q2 := ro.ss
      have q3 := ro.g1
      have q4 := ro.to
      have q5 : ((f, w, (x, yy)) : F × Int × (Int × Int)) = (f, w, (x, yy)) := rfl
      simp only at q1 q2 q3 q4
      generalize hq : x.fdiv (Int.gcd x yy) = q at *
      generalize hs : yy.fdiv (Int.gcd x yy) = s at *
      simp only [↓n_asg_if, BQ.n_rt, sSeq, sNext, sRet, sRetF, sRetO, sDrop, sSet, sOwn, sAsg, sPar, sPar3, sAug, sApp, sIf, dIf, dTest, dAnd, dOr, dNot, dAndV, dOrV, d1, d2, d2F, dVar, dOwn, dC, dF, dTup, dLst, dNil, dCons, dCB, dCB1, dCF1, dChain, dChain3, dCall, dCallF, dCallK, aNil, aCons, aDk, dGn, dGnil, dGcons, dGtup, dOdIx, dGsub, dIdxT, dIdxL, dSlT, dSlL, dPart, dNoPart, dIl, dIt, frz, opn, cls, catD, startR, arS, seqOf, n_add, n_addT, n_sub, n_mul, n_fdiv, n_mod, n_pow, n_shl, n_cmp, n_is, n_neg, n_not, n_ixL, n_ixT, n_lenL, n_lenT, n_abs, n_gcd, n_isqrt, n_int, n_tupL, n_tupT, at10, at1n, at20, at21, at2n, at30, at31, at32, at3n, fD, mD, wipeR, dYes, ix32, ix31, n_boolC, sz0, sz1, sz2, sz3, sz4, sz5, sz6, sz7, sz8, n_eqI, n_neI, n_eq3, n_ne3, n_isi_int, n_isi_bool, n_isi_tuple, List.map_cons, List.map_nil, List.length_cons, List.length_nil, List.replicate, List.set_cons_zero, List.set_cons_succ, List.getElem?_cons_zero, List.getElem?_cons_succ, List.filter_cons, List.filter_nil, Ar.isDk, List.all_cons, List.all_nil, no_dt, no_un, no_ow, no_dk, Bool.and_eq_true, Bool.true_and, Bool.and_true, Bool.false_eq_true, if_false, if_true, ite_true, ite_false, Option.some.injEq, exists_eq_left', true_and, and_true, List.cons_append, List.nil_append, Nat.sub_self, decide_eq_true_eq, Nat.reduceAdd, Nat.reduceSub, Nat.zero_add, Nat.le_refl, Nat.zero_le]
      refine ⟨⟨n3, n4, n5, n6, n7⟩, s, -q, rfl, q2, by rw [Int.natAbs_neg]; exact q1, fun p r hb hp hr' => ?_⟩
      simp only [↓n_asg_if, BQ.n_rt, sSeq, sNext, sRet, sRetF, sRetO, sDrop, sSet, sOwn, sAsg, sPar, sPar3, sAug, sApp, sIf, dIf, dTest, dAnd, dOr, dNot, dAndV, dOrV, d1, d2, d2F, dVar, dOwn, dC, dF, dTup, dLst, dNil, dCons, dCB, dCB1, dCF1, dChain, dChain3, dCall, dCallF, dCallK, aNil, aCons, aDk, dGn, dGnil, dGcons, dGtup, dOdIx, dGsub, dIdxT, dIdxL, dSlT, dSlL, dPart, dNoPart, dIl, dIt, frz, opn, cls, catD, startR, arS, seqOf, n_add, n_addT, n_sub, n_mul, n_fdiv, n_mod, n_pow, n_shl, n_cmp, n_is, n_neg, n_not, n_ixL, n_ixT, n_lenL, n_lenT, n_abs, n_gcd, n_isqrt, n_int, n_tupL, n_tupT, at10, at1n, at20, at21, at2n, at30, at31, at32, at3n, fD, mD, wipeR, dYes, ix32, ix31, n_boolC, sz0, sz1, sz2, sz3, sz4, sz5, sz6, sz7, sz8, n_eqI, n_neI, n_eq3, n_ne3, n_isi_int, n_isi_bool, n_isi_tuple, List.map_cons, List.map_nil, List.length_cons, List.length_nil, List.replicate, List.set_cons_zero, List.set_cons_succ, List.getElem?_cons_zero, List.getElem?_cons_succ, List.filter_cons, List.filter_nil, Ar.isDk, List.all_cons, List.all_nil, no_dt, no_un, no_ow, no_dk, Bool.and_eq_true, Bool.true_and, Bool.and_true, Bool.false_eq_true, if_false, if_true, ite_true, ite_false, Option.some.injEq, exists_eq_left', true_and, and_true, List.cons_append, List.nil_append, Nat.sub_self, decide_eq_true_eq, Nat.reduceAdd, Nat.reduceSub, Nat.zero_add, Nat.le_refl, Nat.zero_le]
      have dt : M.det ⟨p, q, r, s⟩ = 1 := by
        rw [Int.gcd_neg, Int.gcd_comm, q3] at hb
        show p * s - q * r = 1
        have : r * -q = -(q * r) := by grind
        omega
      obtain ⟨fc, fb⟩ := q4 ⟨p, q, r, s⟩ rfl rfl dt
      have sm24 : 2 ^ 24 ≤ 2 ^ 1275 := Nat.pow_le_pow_right (by decide) (by decide)
      have mb : Mb 1275 ⟨p, q, r, s⟩ := ⟨hp, by show q.natAbs ≤ _; omega, hr', by show s.natAbs ≤ _; omega⟩
      refine ⟨⟨n6, n7⟩, f, ⟨p, q, r, s⟩, rfl, byBig (k := 1275) (by omega) (by omega) (by omega) mb (by decide), ?_⟩
      simp only [↓n_asg_if, BQ.n_rt, sSeq, sNext, sRet, sRetF, sRetO, sDrop, sSet, sOwn, sAsg, sPar, sPar3, sAug, sApp, sIf, dIf, dTest, dAnd, dOr, dNot, dAndV, dOrV, d1, d2, d2F, dVar, dOwn, dC, dF, dTup, dLst, dNil, dCons, dCB, dCB1, dCF1, dChain, dChain3, dCall, dCallF, dCallK, aNil, aCons, aDk, dGn, dGnil, dGcons, dGtup, dOdIx, dGsub, dIdxT, dIdxL, dSlT, dSlL, dPart, dNoPart, dIl, dIt, frz, opn, cls, catD, startR, arS, seqOf, n_add, n_addT, n_sub, n_mul, n_fdiv, n_mod, n_pow, n_shl, n_cmp, n_is, n_neg, n_not, n_ixL, n_ixT, n_lenL, n_lenT, n_abs, n_gcd, n_isqrt, n_int, n_tupL, n_tupT, at10, at1n, at20, at21, at2n, at30, at31, at32, at3n, fD, mD, wipeR, dYes, ix32, ix31, n_boolC, sz0, sz1, sz2, sz3, sz4, sz5, sz6, sz7, sz8, n_eqI, n_neI, n_eq3, n_ne3, n_isi_int, n_isi_bool, n_isi_tuple, List.map_cons, List.map_nil, List.length_cons, List.length_nil, List.replicate, List.set_cons_zero, List.set_cons_succ, List.getElem?_cons_zero, List.getElem?_cons_succ, List.filter_cons, List.filter_nil, Ar.isDk, List.all_cons, List.all_nil, no_dt, no_un, no_ow, no_dk, Bool.and_eq_true, Bool.true_and, Bool.and_true, Bool.false_eq_true, if_false, if_true, ite_true, ite_false, Option.some.injEq, exists_eq_left', true_and, and_true, List.cons_append, List.nil_append, Nat.sub_self, decide_eq_true_eq, Nat.reduceAdd, Nat.reduceSub, Nat.zero_add, Nat.le_refl, Nat.zero_le]
      generalize hm : (⟨p, q, r, s⟩ : M) = m at *
      have hp' : p = m.p := by rw [← hm]
      have hq' : q = m.q := by rw [← hm]
      have hrr : r = m.r := by rw [← hm]
      have hss : s = m.s := by rw [← hm]
      by_cases pos : 0 < (f.by m).b
      · rw [if_pos pos]
        have fw : (f.by m).b = w := by omega
        have k4 : Φ'.rt = Φ := k4
        have vOk : ByOk (f.by m) (V ((f.by m).a.fdiv (f.by m).b)) := by
          unfold BQ.V
          generalize (f.by m).a.fdiv (f.by m).b = kk
          have z : ∀ x : Int, IntMulOk x 0 := fun x => mR (by decide) (by decide)
          have o : ∀ x : Int, IntMulOk x 1 := fun x => mR (by decide) (by decide)
          have z' : ∀ x : Int, IntMulOk 0 x := fun x => mL (by decide) (by decide)
          refine ⟨⟨o _, o _, o _, ?_, ?_, ?_⟩, ⟨z _, z _, z _, o _, o _, o _⟩, o _, z _, o _, z' _, ?_, ?_, o _⟩
          · exact mL (by simp only [Int.mul_one]; omega) (by simp only [Int.mul_one]; omega)
          · simp only [fc]; exact z' _
          · simp only [fc, Int.zero_mul]; exact z' _
          · exact mL (by omega) (by omega)
          · simp only [fc, Int.mul_zero]; exact z' _
        have m2 : MulOk m (V ((f.by m).a.fdiv (f.by m).b)) := by
          unfold BQ.V
          generalize (f.by m).a.fdiv (f.by m).b = kk
          have z : ∀ x : Int, IntMulOk x 0 := fun x => mR (by decide) (by decide)
          have o : ∀ x : Int, IntMulOk x 1 := fun x => mR (by decide) (by decide)
          exact ⟨o _, mL (by omega) (by omega), z _, o _, o _, mL (by omega) (by omega), z _, o _⟩
        have big : ((f.by m).a.fdiv (f.by m).b).natAbs ≤ 2 ^ 2600 := by
          refine Nat.le_trans (fdiv_le _ _) ?_
          show (f.val m.p m.r).natAbs ≤ _
          unfold F.val
          obtain ⟨b1, _, b3, _⟩ := mb
          have t1 := bit_mul (bit_mul h4 b1) b1
          have t2 := bit_mul (bit_mul h5 b1) b3
          have t3 := bit_mul (bit_mul h6 b3) b3
          have e2 : 2 ^ (20 + 1275 + 1275) * 4 ≤ 2 ^ 2600 := by
            rw [show (4 : Nat) = 2 ^ 2 by rfl, ← Nat.pow_add]
            exact Nat.pow_le_pow_right (by decide) (by decide)
          omega
        have mbV : Mb 2600 (V ((f.by m).a.fdiv (f.by m).b)) := by
          have p1 : 1 ≤ 2 ^ 2600 := Nat.pow_pos (by decide)
          refine ⟨p1, Nat.zero_le _, ?_, p1⟩
          show (-((f.by m).a.fdiv (f.by m).b)).natAbs ≤ _
          rw [Int.natAbs_neg]; exact big
        refine ⟨dOk (by omega) (by omega) (by omega), f.by m, V ((f.by m).a.fdiv (f.by m).b), rfl, vOk, ?_⟩
        simp only [↓n_asg_if, BQ.n_rt, sSeq, sNext, sRet, sRetF, sRetO, sDrop, sSet, sOwn, sAsg, sPar, sPar3, sAug, sApp, sIf, dIf, dTest, dAnd, dOr, dNot, dAndV, dOrV, d1, d2, d2F, dVar, dOwn, dC, dF, dTup, dLst, dNil, dCons, dCB, dCB1, dCF1, dChain, dChain3, dCall, dCallF, dCallK, aNil, aCons, aDk, dGn, dGnil, dGcons, dGtup, dOdIx, dGsub, dIdxT, dIdxL, dSlT, dSlL, dPart, dNoPart, dIl, dIt, frz, opn, cls, catD, startR, arS, seqOf, n_add, n_addT, n_sub, n_mul, n_fdiv, n_mod, n_pow, n_shl, n_cmp, n_is, n_neg, n_not, n_ixL, n_ixT, n_lenL, n_lenT, n_abs, n_gcd, n_isqrt, n_int, n_tupL, n_tupT, at10, at1n, at20, at21, at2n, at30, at31, at32, at3n, fD, mD, wipeR, dYes, ix32, ix31, n_boolC, sz0, sz1, sz2, sz3, sz4, sz5, sz6, sz7, sz8, n_eqI, n_neI, n_eq3, n_ne3, n_isi_int, n_isi_bool, n_isi_tuple, List.map_cons, List.map_nil, List.length_cons, List.length_nil, List.replicate, List.set_cons_zero, List.set_cons_succ, List.getElem?_cons_zero, List.getElem?_cons_succ, List.filter_cons, List.filter_nil, Ar.isDk, List.all_cons, List.all_nil, no_dt, no_un, no_ow, no_dk, Bool.and_eq_true, Bool.true_and, Bool.and_true, Bool.false_eq_true, if_false, if_true, ite_true, ite_false, Option.some.injEq, exists_eq_left', true_and, and_true, List.cons_append, List.nil_append, Nat.sub_self, decide_eq_true_eq, Nat.reduceAdd, Nat.reduceSub, Nat.zero_add, Nat.le_refl, Nat.zero_le]
        refine ⟨m, V ((f.by m).a.fdiv (f.by m).b), by subst hm; rfl, m2, ?_⟩
        rw [k4]
        exact h _ _ (Sp.of dt fw fc) (by rw [by_mul]) (by rw [det_mul, dt, V_det]; rfl) (Mb.mono (Mb.mul mb mbV) (by decide))
      · rw [if_neg pos]
        have ng : (f.by m).b = -w := by omega
        refine k1 _ _ ⟨rs, _, _, _, _, _, _, _, er, rfl, ⟨rfl, rfl, rfl, rfl, rfl, rfl, n7⟩, rfl, fun r hr => ok r (List.mem_cons_of_mem _ hr), ?_⟩
        obtain ⟨r', hr1, hr2⟩ := gr
        rcases List.mem_cons.mp hr1 with rfl | hr1
        · exfalso
          have := hr2 m (by rw [← hq']; exact hq.symm) (by rw [← hss]; exact hs.symm) dt
          omega
        · exact ⟨r', hr1, hr2⟩
  · rintro c' ρ ⟨rs, s1, s2, s3, s4, s5, s6, s7, e, rfl, _, rfl, ok, r, hr, _⟩
    cases rs with
    | nil => cases hr
    | cons _ _ => cases e
/-- what a form is led to -/
def To (f R : F) : Prop := if 0 < f.disc then (if isSplit f.disc = true then Sp f (rt f.disc) R else Ir (rt f.disc) f R) else if 0 < f.a then Dr f R else Dr f.neg R.neg
/-- forms in reach -/
def posF (f : F) : F := if f.a < 0 then f.neg else f
structure Fo (f : F) : Prop where
  n0 : f.disc ≠ 0
  le : f.disc ≤ 10000000
  ge : -1125899906842624 ≤ f.disc
  sz : (f.a.natAbs ≤ 2 ^ 20 ∧ f.b.natAbs ≤ 2 ^ 20 ∧ f.c.natAbs ≤ 2 ^ 20) ∨ (f.disc < 0 ∧ RedD (posF f))
theorem a_ne {f : F} (h : f.disc < 0) : f.a ≠ 0 := fun z => by
  have e : f.disc = f.b * f.b := by unfold F.disc; rw [z]; grind
  have := sqpos f.b
  omega
theorem df_pos {f : F} (h : f.disc < 0) : Df (posF f) := by
  have a0 := a_ne h
  unfold posF
  by_cases ha : f.a < 0
  · rw [if_pos ha]; exact ⟨by show 0 < -f.a; omega, by rw [neg_disc]; exact h⟩
  · rw [if_neg ha]; exact ⟨by omega, h⟩
theorem Fo.ab {f : F} (h : Fo f) : f.a.natAbs ≤ 2 ^ 26 ∧ f.b.natAbs ≤ 2 ^ 26 := by
  rcases h.sz with z | ⟨z, r⟩
  · omega
  · have l := redD_small (df_pos z) r (by unfold posF; split; rw [neg_disc]; exact h.ge; exact h.ge)
    have b := r.1
    unfold posF at l b
    by_cases ha : f.a < 0
    · rw [if_pos ha] at l b
      have l : -f.a < _ := l
      have b : ((-f.b).natAbs : Int) ≤ -f.a := b
      omega
    · rw [if_neg ha] at l b
      omega
theorem Fo.small {f : F} (h : Fo f) (hd : 0 < f.disc) : f.a.natAbs ≤ 2 ^ 20 ∧ f.b.natAbs ≤ 2 ^ 20 ∧ f.c.natAbs ≤ 2 ^ 20 := by
  rcases h.sz with z | z
  · exact z
  · omega
theorem Fo.dk {f : F} (h : Fo f) : DiscOk f := by
  have := h.ab
  exact ⟨mR (by omega) (by omega), mL (by omega) (by omega)⟩
/-- how great a step -/
def rb (f : F) : Nat := if 0 < f.disc then 5000 else 44040213
def sd_to_reduced : Sd := fun c as y Φ Ψ => ∃ f : F, as = [.dt (fD f)] ∧ Fo f ∧
  ∀ R m, To f R → f.by m = R → m.det = 1 → Mb (rb f) m → Φ (.tuple [fD R, mD m]) c
theorem ok_to_reduced (Mx : Mo K mg) (C_discriminant_of : Cl false P w K mg base 1 "discriminant_of" ["f"] sd_discriminant_of) (C_is_split : Cl false P w K mg base 2 "is_split" ["f"] sd_is_split) (C_split_reduced : Cl false P w K mg base 3 "split_reduced" ["f"] sd_split_reduced) (C_indefinite_reduced : Cl false P w K mg base 4 "indefinite_reduced" ["f"] sd_indefinite_reduced) (C_definite_reduced : Cl false P w K mg base 3 "definite_reduced" ["f"] sd_definite_reduced) : Cl false P w K mg base 5 "to_reduced" ["f"] sd_to_reduced := by
  obtain ⟨fd, hm, Fn0⟩ := Mx.fn 26 "to_reduced" (by decide +kernel)
  have hN : (["f", "found", "a", "b", "c", "step"] : List Str).Nodup := by decide +kernel
  have Sc0 : FnScope ["f", "found", "a", "b", "c", "step"] ["f"] (defScope (top 26)) := ⟨rfl, rfl, rfl, hN, rfl, by decide +kernel, by decide +kernel⟩
  refine cl_mk Fn0 hm Sc0 (fun _ _ _ _ _ _ us hl => match us, hl with | [_], _ => rfl) (fun _ _ _ _ _ _ us hl => match us, hl with | [_], _ => rfl) fun cdv A outer s H E hr hG tk hp => ⟨_, (ss_cons (s_set (i := 1) hN (by rfl) (by first | exact .inl rfl | exact .inr rfl) (e_callC C_discriminant_of (by decide) hr nog (by rfl) tk (a_cons (e_var (pv 0)) a_nil)))
    (ss_cons (s_if (t_cmp o_gt (r_own (pv 1)) e_int.r rfl) (ss_one (s_ret (e_if (t_val (e_callC C_is_split (by decide) hr nog (by rfl) tk (a_cons (e_var (pv 0)) a_nil))) (e_callC C_split_reduced (by decide) hr nog (by rfl) tk (a_cons (e_var (pv 0)) a_nil)) (e_callC C_indefinite_reduced (by decide) hr nog (by rfl) tk (a_cons (e_var (pv 0)) a_nil))))) ss_nil)
    (ss_cons (s_if (t_cmp o_gt (e_ix (r_own (pv 0)) e_int).r e_int.r rfl) (ss_one (s_ret (e_callC C_definite_reduced (by decide) hr nog (by rfl) tk (a_cons (e_var (pv 0)) a_nil)))) ss_nil)
    (ss_cons (s_asg (e_callC C_definite_reduced (by decide) hr nog (by rfl) tk (a_cons (e_tup (l_cons (e_un o_neg (e_ix (r_own (pv 0)) e_int)) (l_cons (e_un o_neg (e_ix (r_own (pv 0)) e_int)) (l_cons (e_un o_neg (e_ix (r_own (pv 0)) e_int)) l_nil)))) a_nil)) (g_tup (n := 2) (by rfl) (gs_cons (g_tup (n := 3) (by rfl) (gs_cons ((c_name (i := 2) hN (by rfl) (by first | exact .inl rfl | exact .inr rfl) (by first | exact .inl rfl | exact .inr rfl)).g) (gs_cons ((c_name (i := 3) hN (by rfl) (by first | exact .inl rfl | exact .inr rfl) (by first | exact .inl rfl | exact .inr rfl)).g) (gs_cons ((c_name (i := 4) hN (by rfl) (by first | exact .inl rfl | exact .inr rfl) (by first | exact .inl rfl | exact .inr rfl)).g) gs_nil)))) (gs_cons ((c_name (i := 5) hN (by rfl) (by first | exact .inl rfl | exact .inr rfl) (by first | exact .inl rfl | exact .inr rfl)).g) gs_nil))))
    (ss_one (s_ret (e_tup (l_cons (e_tup (l_cons (e_un o_neg (e_var (pv 2))) (l_cons (e_un o_neg (e_var (pv 3))) (l_cons (e_un o_neg (e_var (pv 4))) l_nil)))) (l_cons (e_var (pv 5)) l_nil))))))))), fun c as y Φ Ψ hn hs => ?_⟩
  obtain ⟨f, rfl, fo, h⟩ := hs
  have h1 := fo.n0
  have h2 := fo.le
  have dk := fo.dk
  simp only [↓n_asg_if, BQ.n_rt, sSeq, sNext, sRet, sRetF, sRetO, sDrop, sSet, sOwn, sAsg, sPar, sPar3, sAug, sApp, sIf, dIf, dTest, dAnd, dOr, dNot, dAndV, dOrV, d1, d2, d2F, dVar, dOwn, dC, dF, dTup, dLst, dNil, dCons, dCB, dCB1, dCF1, dChain, dChain3, dCall, dCallF, dCallK, aNil, aCons, aDk, dGn, dGnil, dGcons, dGtup, dOdIx, dGsub, dIdxT, dIdxL, dSlT, dSlL, dPart, dNoPart, dIl, dIt, frz, opn, cls, catD, startR, arS, seqOf, n_add, n_addT, n_sub, n_mul, n_fdiv, n_mod, n_pow, n_shl, n_cmp, n_is, n_neg, n_not, n_ixL, n_ixT, n_lenL, n_lenT, n_abs, n_gcd, n_isqrt, n_int, n_tupL, n_tupT, at10, at1n, at20, at21, at2n, at30, at31, at32, at3n, fD, mD, wipeR, dYes, ix32, ix31, n_boolC, sz0, sz1, sz2, sz3, sz4, sz5, sz6, sz7, sz8, n_eqI, n_neI, n_eq3, n_ne3, n_isi_int, n_isi_bool, n_isi_tuple, List.map_cons, List.map_nil, List.length_cons, List.length_nil, List.replicate, List.set_cons_zero, List.set_cons_succ, List.getElem?_cons_zero, List.getElem?_cons_succ, List.filter_cons, List.filter_nil, Ar.isDk, List.all_cons, List.all_nil, no_dt, no_un, no_ow, no_dk, Bool.and_eq_true, Bool.true_and, Bool.and_true, Bool.false_eq_true, if_false, if_true, ite_true, ite_false, Option.some.injEq, exists_eq_left', true_and, and_true, List.cons_append, List.nil_append, Nat.sub_self, decide_eq_true_eq, Nat.reduceAdd, Nat.reduceSub, Nat.zero_add, Nat.le_refl, Nat.zero_le]
  refine ⟨f, rfl, dk.1, dk.2, ?_⟩
  simp only [↓n_asg_if, BQ.n_rt, sSeq, sNext, sRet, sRetF, sRetO, sDrop, sSet, sOwn, sAsg, sPar, sPar3, sAug, sApp, sIf, dIf, dTest, dAnd, dOr, dNot, dAndV, dOrV, d1, d2, d2F, dVar, dOwn, dC, dF, dTup, dLst, dNil, dCons, dCB, dCB1, dCF1, dChain, dChain3, dCall, dCallF, dCallK, aNil, aCons, aDk, dGn, dGnil, dGcons, dGtup, dOdIx, dGsub, dIdxT, dIdxL, dSlT, dSlL, dPart, dNoPart, dIl, dIt, frz, opn, cls, catD, startR, arS, seqOf, n_add, n_addT, n_sub, n_mul, n_fdiv, n_mod, n_pow, n_shl, n_cmp, n_is, n_neg, n_not, n_ixL, n_ixT, n_lenL, n_lenT, n_abs, n_gcd, n_isqrt, n_int, n_tupL, n_tupT, at10, at1n, at20, at21, at2n, at30, at31, at32, at3n, fD, mD, wipeR, dYes, ix32, ix31, n_boolC, sz0, sz1, sz2, sz3, sz4, sz5, sz6, sz7, sz8, n_eqI, n_neI, n_eq3, n_ne3, n_isi_int, n_isi_bool, n_isi_tuple, List.map_cons, List.map_nil, List.length_cons, List.length_nil, List.replicate, List.set_cons_zero, List.set_cons_succ, List.getElem?_cons_zero, List.getElem?_cons_succ, List.filter_cons, List.filter_nil, Ar.isDk, List.all_cons, List.all_nil, no_dt, no_un, no_ow, no_dk, Bool.and_eq_true, Bool.true_and, Bool.and_true, Bool.false_eq_true, if_false, if_true, ite_true, ite_false, Option.some.injEq, exists_eq_left', true_and, and_true, List.cons_append, List.nil_append, Nat.sub_self, decide_eq_true_eq, Nat.reduceAdd, Nat.reduceSub, Nat.zero_add, Nat.le_refl, Nat.zero_le]
  unfold To at h
  by_cases hd : 0 < f.disc
  · simp only [if_pos hd] at h
    obtain ⟨h3, h4, h5⟩ := fo.small hd
    rw [if_pos hd]
    refine ⟨f, rfl, dk, by omega, ?_⟩
    simp only [↓n_asg_if, BQ.n_rt, sSeq, sNext, sRet, sRetF, sRetO, sDrop, sSet, sOwn, sAsg, sPar, sPar3, sAug, sApp, sIf, dIf, dTest, dAnd, dOr, dNot, dAndV, dOrV, d1, d2, d2F, dVar, dOwn, dC, dF, dTup, dLst, dNil, dCons, dCB, dCB1, dCF1, dChain, dChain3, dCall, dCallF, dCallK, aNil, aCons, aDk, dGn, dGnil, dGcons, dGtup, dOdIx, dGsub, dIdxT, dIdxL, dSlT, dSlL, dPart, dNoPart, dIl, dIt, frz, opn, cls, catD, startR, arS, seqOf, n_add, n_addT, n_sub, n_mul, n_fdiv, n_mod, n_pow, n_shl, n_cmp, n_is, n_neg, n_not, n_ixL, n_ixT, n_lenL, n_lenT, n_abs, n_gcd, n_isqrt, n_int, n_tupL, n_tupT, at10, at1n, at20, at21, at2n, at30, at31, at32, at3n, fD, mD, wipeR, dYes, ix32, ix31, n_boolC, sz0, sz1, sz2, sz3, sz4, sz5, sz6, sz7, sz8, n_eqI, n_neI, n_eq3, n_ne3, n_isi_int, n_isi_bool, n_isi_tuple, List.map_cons, List.map_nil, List.length_cons, List.length_nil, List.replicate, List.set_cons_zero, List.set_cons_succ, List.getElem?_cons_zero, List.getElem?_cons_succ, List.filter_cons, List.filter_nil, Ar.isDk, List.all_cons, List.all_nil, no_dt, no_un, no_ow, no_dk, Bool.and_eq_true, Bool.true_and, Bool.and_true, Bool.false_eq_true, if_false, if_true, ite_true, ite_false, Option.some.injEq, exists_eq_left', true_and, and_true, List.cons_append, List.nil_append, Nat.sub_self, decide_eq_true_eq, Nat.reduceAdd, Nat.reduceSub, Nat.zero_add, Nat.le_refl, Nat.zero_le]
    obtain ⟨r0, r1, r2⟩ := rt_ok (Int.le_of_lt hd)
    have r3 : rt f.disc < 3163 := sqlt (by decide) (by omega)
    by_cases hs : isSplit f.disc = true
    · simp only [if_pos hs] at h
      rw [if_pos hs]
      have e : rt f.disc * rt f.disc = f.disc := by
        unfold isSplit at hs
        simp at hs
        exact hs.2
      exact ⟨f, rfl, hd, e, by omega, h3, h4, h5, fun R m a b c d => h R m a b c (by unfold rb; rw [if_pos hd]; exact d)⟩
    · simp only [if_neg hs] at h
      rw [if_neg hs]
      have e : rt f.disc * rt f.disc ≠ f.disc := fun z => hs (by unfold isSplit; simp [hd, z])
      exact ⟨f, rfl, ind_of hd e, h2, h4, h5, fun R m a b c d e => h R m a c d (by unfold rb; rw [if_pos hd]; exact Mb.mono e (by decide))⟩
  · simp only [if_neg hd] at h
    rw [if_neg hd]
    have a0 : f.a ≠ 0 := fun z => by
      have e : f.disc = f.b * f.b := by unfold F.disc; rw [z]; grind
      have := sqpos f.b
      omega
    by_cases ha : 0 < f.a
    · simp only [if_pos ha] at h
      rw [if_pos ha]
      have q : (f.a ≤ 2 ^ 20 ∧ f.b.natAbs ≤ 2 ^ 20) ∨ (RedD f ∧ f.a < 67108864) := by
        rcases fo.sz with z | ⟨z, r⟩
        · exact .inl ⟨by omega, z.2.1⟩
        · have e : posF f = f := if_neg (by omega)
          rw [e] at r
          exact .inr ⟨r, redD_small ⟨ha, z⟩ r fo.ge⟩
      exact ⟨f, rfl, ⟨ha, by omega⟩, q, fun R m a b c d => h R m a b c (by unfold rb; rw [if_neg hd]; exact d)⟩
    · simp only [if_neg ha] at h
      rw [if_neg ha]
      have q : (f.neg.a ≤ 2 ^ 20 ∧ f.neg.b.natAbs ≤ 2 ^ 20) ∨ (RedD f.neg ∧ f.neg.a < 67108864) := by
        rcases fo.sz with z | ⟨z, r⟩
        · exact .inl ⟨by show -f.a ≤ _; omega, by show (-f.b).natAbs ≤ _; omega⟩
        · have e : posF f = f.neg := if_pos (by omega)
          rw [e] at r
          exact .inr ⟨r, redD_small ⟨by show 0 < -f.a; omega, by rw [neg_disc]; exact z⟩ r (by rw [neg_disc]; exact fo.ge)⟩
      refine ⟨f.neg, rfl, ⟨by show 0 < -f.a; omega, by rw [neg_disc]; omega⟩, q, fun R m d1 d2 d3 d4 => ?_⟩
      simp only [↓n_asg_if, BQ.n_rt, sSeq, sNext, sRet, sRetF, sRetO, sDrop, sSet, sOwn, sAsg, sPar, sPar3, sAug, sApp, sIf, dIf, dTest, dAnd, dOr, dNot, dAndV, dOrV, d1, d2, d2F, dVar, dOwn, dC, dF, dTup, dLst, dNil, dCons, dCB, dCB1, dCF1, dChain, dChain3, dCall, dCallF, dCallK, aNil, aCons, aDk, dGn, dGnil, dGcons, dGtup, dOdIx, dGsub, dIdxT, dIdxL, dSlT, dSlL, dPart, dNoPart, dIl, dIt, frz, opn, cls, catD, startR, arS, seqOf, n_add, n_addT, n_sub, n_mul, n_fdiv, n_mod, n_pow, n_shl, n_cmp, n_is, n_neg, n_not, n_ixL, n_ixT, n_lenL, n_lenT, n_abs, n_gcd, n_isqrt, n_int, n_tupL, n_tupT, at10, at1n, at20, at21, at2n, at30, at31, at32, at3n, fD, mD, wipeR, dYes, ix32, ix31, n_boolC, sz0, sz1, sz2, sz3, sz4, sz5, sz6, sz7, sz8, n_eqI, n_neI, n_eq3, n_ne3, n_isi_int, n_isi_bool, n_isi_tuple, List.map_cons, List.map_nil, List.length_cons, List.length_nil, List.replicate, List.set_cons_zero, List.set_cons_succ, List.getElem?_cons_zero, List.getElem?_cons_succ, List.filter_cons, List.filter_nil, Ar.isDk, List.all_cons, List.all_nil, no_dt, no_un, no_ow, no_dk, Bool.and_eq_true, Bool.true_and, Bool.and_true, Bool.false_eq_true, if_false, if_true, ite_true, ite_false, Option.some.injEq, exists_eq_left', true_and, and_true, List.cons_append, List.nil_append, Nat.sub_self, decide_eq_true_eq, Nat.reduceAdd, Nat.reduceSub, Nat.zero_add, Nat.le_refl, Nat.zero_le]
      exact h R.neg m (by rw [neg_neg]; exact d1) (by rw [← d2, neg_by, neg_neg]) d3 (by unfold rb; rw [if_neg hd]; exact d4)
def Rg (f : F) (l : List F) : Prop := if f.disc < 0 ∨ isSplit f.disc = true then l = [f] else ∃ p, Per (rt f.disc) f p ∧ l = orb (rt f.disc) p f
def RgOk (f : F) : Prop := DiscOk f ∧ f.disc ≤ 10000000 ∧ (f.disc < 0 ∨ isSplit f.disc = true ∨ Rd f.disc (rt f.disc) f)
def sd_ring_of : Sd := fun c as y Φ Ψ => ∃ f : F, as = [.dt (fD f)] ∧ RgOk f ∧ ∀ l, Rg f l → Φ (.tuple (l.map fD)) c
theorem ok_ring_of (Mx : Mo K mg) (C_is_split : Cl false P w K mg base 2 "is_split" ["f"] sd_is_split) (C_discriminant_of : Cl false P w K mg base 1 "discriminant_of" ["f"] sd_discriminant_of) (C_taken_by : Cl false P w K mg base 2 "taken_by" ["f", "step"] sd_taken_by) (C_neighbour_step : Cl false P w K mg base 2 "neighbour_step" ["f"] sd_neighbour_step) : Cl false P w K mg base 3 "ring_of" ["f"] sd_ring_of := by
  obtain ⟨fd, hm, Fn0⟩ := Mx.fn 27 "ring_of" (by decide +kernel)
  have hN : (["f", "found", "other"] : List Str).Nodup := by decide +kernel
  have Sc0 : FnScope ["f", "found", "other"] ["f"] (defScope (top 27)) := ⟨rfl, rfl, rfl, hN, rfl, by decide +kernel, by decide +kernel⟩
  refine cl_mk Fn0 hm Sc0 (fun _ _ _ _ _ _ us hl => match us, hl with | [_], _ => rfl) (fun _ _ _ _ _ _ us hl => match us, hl with | [_], _ => rfl) fun cdv A outer s H E hr hG tk hp => ⟨_, (ss_cons (s_if (w_or (t_cmp o_lt (e_callC C_discriminant_of (by decide) hr nog (by rfl) tk (a_cons (e_var (pv 0)) a_nil)).r e_int.r rfl) (w_or1 (t_val (e_callC C_is_split (by decide) hr nog (by rfl) tk (a_cons (e_var (pv 0)) a_nil))))).t (ss_one (s_ret (e_tup (l_cons (e_var (pv 0)) l_nil)))) ss_nil)
    (ss_cons (s_own (i := 1) hN (by rfl) (by first | exact .inl rfl | exact .inr rfl) (f_lst (l_cons (e_var (pv 0)) l_nil)))
    (ss_cons (s_set (i := 2) hN (by rfl) (by first | exact .inl rfl | exact .inr rfl) (e_callC C_taken_by (by decide) hr nog (by rfl) tk (a_cons (e_var (pv 0)) (a_cons (e_callC C_neighbour_step (by decide) hr nog (by rfl) tk (a_cons (e_var (pv 0)) a_nil)) a_nil))))
    (ss_cons (s_while hp (t_cmp (o_neP (hu4 hr)) (r_own (pv 2)) (r_own (pv 0)) rfl) (ss_cons (s_app (pv 1) (e_var (pv 2)))
    (ss_one (s_set (i := 2) hN (by rfl) (by first | exact .inl rfl | exact .inr rfl) (e_callC C_taken_by (by decide) hr nog (by rfl) tk (a_cons (e_var (pv 2)) (a_cons (e_callC C_neighbour_step (by decide) hr nog (by rfl) tk (a_cons (e_var (pv 2)) a_nil)) a_nil)))))))
    (ss_one (s_ret (e_callTy1 c_tuple (by rfl) (Mx.fr "tuple" (by decide +kernel)) b_tuple (r_own (pv 1))))))))), fun c as y Φ Ψ hn hs => ?_⟩
  obtain ⟨f, rfl, ⟨dk, hD, h1⟩, h⟩ := hs
  simp only [↓n_asg_if, BQ.n_rt, sSeq, sNext, sRet, sRetF, sRetO, sDrop, sSet, sOwn, sAsg, sPar, sPar3, sAug, sApp, sIf, dIf, dTest, dAnd, dOr, dNot, dAndV, dOrV, d1, d2, d2F, dVar, dOwn, dC, dF, dTup, dLst, dNil, dCons, dCB, dCB1, dCF1, dChain, dChain3, dCall, dCallF, dCallK, aNil, aCons, aDk, dGn, dGnil, dGcons, dGtup, dOdIx, dGsub, dIdxT, dIdxL, dSlT, dSlL, dPart, dNoPart, dIl, dIt, frz, opn, cls, catD, startR, arS, seqOf, n_add, n_addT, n_sub, n_mul, n_fdiv, n_mod, n_pow, n_shl, n_cmp, n_is, n_neg, n_not, n_ixL, n_ixT, n_lenL, n_lenT, n_abs, n_gcd, n_isqrt, n_int, n_tupL, n_tupT, at10, at1n, at20, at21, at2n, at30, at31, at32, at3n, fD, mD, wipeR, dYes, ix32, ix31, n_boolC, sz0, sz1, sz2, sz3, sz4, sz5, sz6, sz7, sz8, n_eqI, n_neI, n_eq3, n_ne3, n_isi_int, n_isi_bool, n_isi_tuple, List.map_cons, List.map_nil, List.length_cons, List.length_nil, List.replicate, List.set_cons_zero, List.set_cons_succ, List.getElem?_cons_zero, List.getElem?_cons_succ, List.filter_cons, List.filter_nil, Ar.isDk, List.all_cons, List.all_nil, no_dt, no_un, no_ow, no_dk, Bool.and_eq_true, Bool.true_and, Bool.and_true, Bool.false_eq_true, if_false, if_true, ite_true, ite_false, Option.some.injEq, exists_eq_left', true_and, and_true, List.cons_append, List.nil_append, Nat.sub_self, decide_eq_true_eq, Nat.reduceAdd, Nat.reduceSub, Nat.zero_add, Nat.le_refl, Nat.zero_le]
  refine ⟨f, rfl, dk.1, dk.2, ?_⟩
  simp only [↓n_asg_if, BQ.n_rt, sSeq, sNext, sRet, sRetF, sRetO, sDrop, sSet, sOwn, sAsg, sPar, sPar3, sAug, sApp, sIf, dIf, dTest, dAnd, dOr, dNot, dAndV, dOrV, d1, d2, d2F, dVar, dOwn, dC, dF, dTup, dLst, dNil, dCons, dCB, dCB1, dCF1, dChain, dChain3, dCall, dCallF, dCallK, aNil, aCons, aDk, dGn, dGnil, dGcons, dGtup, dOdIx, dGsub, dIdxT, dIdxL, dSlT, dSlL, dPart, dNoPart, dIl, dIt, frz, opn, cls, catD, startR, arS, seqOf, n_add, n_addT, n_sub, n_mul, n_fdiv, n_mod, n_pow, n_shl, n_cmp, n_is, n_neg, n_not, n_ixL, n_ixT, n_lenL, n_lenT, n_abs, n_gcd, n_isqrt, n_int, n_tupL, n_tupT, at10, at1n, at20, at21, at2n, at30, at31, at32, at3n, fD, mD, wipeR, dYes, ix32, ix31, n_boolC, sz0, sz1, sz2, sz3, sz4, sz5, sz6, sz7, sz8, n_eqI, n_neI, n_eq3, n_ne3, n_isi_int, n_isi_bool, n_isi_tuple, List.map_cons, List.map_nil, List.length_cons, List.length_nil, List.replicate, List.set_cons_zero, List.set_cons_succ, List.getElem?_cons_zero, List.getElem?_cons_succ, List.filter_cons, List.filter_nil, Ar.isDk, List.all_cons, List.all_nil, no_dt, no_un, no_ow, no_dk, Bool.and_eq_true, Bool.true_and, Bool.and_true, Bool.false_eq_true, if_false, if_true, ite_true, ite_false, Option.some.injEq, exists_eq_left', true_and, and_true, List.cons_append, List.nil_append, Nat.sub_self, decide_eq_true_eq, Nat.reduceAdd, Nat.reduceSub, Nat.zero_add, Nat.le_refl, Nat.zero_le]
  unfold Rg at h
  by_cases hd : f.disc < 0
  · rw [if_pos hd]
    exact h [f] (by rw [if_pos (Or.inl hd)])
  · rw [if_neg hd]
    refine ⟨f, rfl, dk, by omega, ?_⟩
    simp only [↓n_asg_if, BQ.n_rt, sSeq, sNext, sRet, sRetF, sRetO, sDrop, sSet, sOwn, sAsg, sPar, sPar3, sAug, sApp, sIf, dIf, dTest, dAnd, dOr, dNot, dAndV, dOrV, d1, d2, d2F, dVar, dOwn, dC, dF, dTup, dLst, dNil, dCons, dCB, dCB1, dCF1, dChain, dChain3, dCall, dCallF, dCallK, aNil, aCons, aDk, dGn, dGnil, dGcons, dGtup, dOdIx, dGsub, dIdxT, dIdxL, dSlT, dSlL, dPart, dNoPart, dIl, dIt, frz, opn, cls, catD, startR, arS, seqOf, n_add, n_addT, n_sub, n_mul, n_fdiv, n_mod, n_pow, n_shl, n_cmp, n_is, n_neg, n_not, n_ixL, n_ixT, n_lenL, n_lenT, n_abs, n_gcd, n_isqrt, n_int, n_tupL, n_tupT, at10, at1n, at20, at21, at2n, at30, at31, at32, at3n, fD, mD, wipeR, dYes, ix32, ix31, n_boolC, sz0, sz1, sz2, sz3, sz4, sz5, sz6, sz7, sz8, n_eqI, n_neI, n_eq3, n_ne3, n_isi_int, n_isi_bool, n_isi_tuple, List.map_cons, List.map_nil, List.length_cons, List.length_nil, List.replicate, List.set_cons_zero, List.set_cons_succ, List.getElem?_cons_zero, List.getElem?_cons_succ, List.filter_cons, List.filter_nil, Ar.isDk, List.all_cons, List.all_nil, no_dt, no_un, no_ow, no_dk, Bool.and_eq_true, Bool.true_and, Bool.and_true, Bool.false_eq_true, if_false, if_true, ite_true, ite_false, Option.some.injEq, exists_eq_left', true_and, and_true, List.cons_append, List.nil_append, Nat.sub_self, decide_eq_true_eq, Nat.reduceAdd, Nat.reduceSub, Nat.zero_add, Nat.le_refl, Nat.zero_le]
    by_cases hs : isSplit f.disc = true
    · rw [if_pos hs]
      exact h [f] (by rw [if_pos (Or.inr hs)])
    · rw [if_neg hs]
      have rd := (h1.resolve_left hd).resolve_left hs
      generalize hr : rt f.disc = r at *
      have I := rd.i
      have r1 : r ≤ 3162 := by have := sqlt (a := r) (b := 3163) (by decide) (by have := I.lo; omega); omega
      obtain ⟨p, pl, per⟩ := rd.per
      have pr := room_le r1
      have fin := h (orb r p f) (by rw [if_neg (fun z => z.elim hd hs)]; exact ⟨p, per, rfl⟩)
      have sz : ∀ n, (it r n f).b.natAbs < 2 ^ 40 ∧ (it r n f).c.natAbs < 2 ^ 40 ∧ DiscOk (it r n f) ∧ Ind (it r n f).disc r ∧ (it r n f).disc = f.disc ∧ (tt r (it r n f)).natAbs < 2 ^ 31 := fun n => by
        have rn := rd.it n
        have J : Ind (it r n f).disc r := rn.d ▸ rn.i
        have h1 := rn.red.1
        have h2 := rn.red.2.1
        have h3 := rn.red.c_le J
        have h4 := tt_le J (B := 3162) (by omega) (by omega) (by omega)
        exact ⟨by omega, by omega, ⟨mR (by omega) (by omega), mR (by omega) (by omega)⟩, J, rn.d, by omega⟩
      obtain ⟨z1, z2, z3, z4, z5, z6⟩ := sz 0
      refine ⟨f, rfl, z3, by omega, by have := I.pos; omega, I.c0, z1, z2, ?_⟩
      rw [hr]
      simp only [↓n_asg_if, BQ.n_rt, sSeq, sNext, sRet, sRetF, sRetO, sDrop, sSet, sOwn, sAsg, sPar, sPar3, sAug, sApp, sIf, dIf, dTest, dAnd, dOr, dNot, dAndV, dOrV, d1, d2, d2F, dVar, dOwn, dC, dF, dTup, dLst, dNil, dCons, dCB, dCB1, dCF1, dChain, dChain3, dCall, dCallF, dCallK, aNil, aCons, aDk, dGn, dGnil, dGcons, dGtup, dOdIx, dGsub, dIdxT, dIdxL, dSlT, dSlL, dPart, dNoPart, dIl, dIt, frz, opn, cls, catD, startR, arS, seqOf, n_add, n_addT, n_sub, n_mul, n_fdiv, n_mod, n_pow, n_shl, n_cmp, n_is, n_neg, n_not, n_ixL, n_ixT, n_lenL, n_lenT, n_abs, n_gcd, n_isqrt, n_int, n_tupL, n_tupT, at10, at1n, at20, at21, at2n, at30, at31, at32, at3n, fD, mD, wipeR, dYes, ix32, ix31, n_boolC, sz0, sz1, sz2, sz3, sz4, sz5, sz6, sz7, sz8, n_eqI, n_neI, n_eq3, n_ne3, n_isi_int, n_isi_bool, n_isi_tuple, List.map_cons, List.map_nil, List.length_cons, List.length_nil, List.replicate, List.set_cons_zero, List.set_cons_succ, List.getElem?_cons_zero, List.getElem?_cons_succ, List.filter_cons, List.filter_nil, Ar.isDk, List.all_cons, List.all_nil, no_dt, no_un, no_ow, no_dk, Bool.and_eq_true, Bool.true_and, Bool.and_true, Bool.false_eq_true, if_false, if_true, ite_true, ite_false, Option.some.injEq, exists_eq_left', true_and, and_true, List.cons_append, List.nil_append, Nat.sub_self, decide_eq_true_eq, Nat.reduceAdd, Nat.reduceSub, Nat.zero_add, Nat.le_refl, Nat.zero_le]
      refine ⟨f, T (tt r f), rfl, (Sm.T z6).by_ f, ?_⟩
      simp only [↓n_asg_if, BQ.n_rt, sSeq, sNext, sRet, sRetF, sRetO, sDrop, sSet, sOwn, sAsg, sPar, sPar3, sAug, sApp, sIf, dIf, dTest, dAnd, dOr, dNot, dAndV, dOrV, d1, d2, d2F, dVar, dOwn, dC, dF, dTup, dLst, dNil, dCons, dCB, dCB1, dCF1, dChain, dChain3, dCall, dCallF, dCallK, aNil, aCons, aDk, dGn, dGnil, dGcons, dGtup, dOdIx, dGsub, dIdxT, dIdxL, dSlT, dSlL, dPart, dNoPart, dIl, dIt, frz, opn, cls, catD, startR, arS, seqOf, n_add, n_addT, n_sub, n_mul, n_fdiv, n_mod, n_pow, n_shl, n_cmp, n_is, n_neg, n_not, n_ixL, n_ixT, n_lenL, n_lenT, n_abs, n_gcd, n_isqrt, n_int, n_tupL, n_tupT, at10, at1n, at20, at21, at2n, at30, at31, at32, at3n, fD, mD, wipeR, dYes, ix32, ix31, n_boolC, sz0, sz1, sz2, sz3, sz4, sz5, sz6, sz7, sz8, n_eqI, n_neI, n_eq3, n_ne3, n_isi_int, n_isi_bool, n_isi_tuple, List.map_cons, List.map_nil, List.length_cons, List.length_nil, List.replicate, List.set_cons_zero, List.set_cons_succ, List.getElem?_cons_zero, List.getElem?_cons_succ, List.filter_cons, List.filter_nil, Ar.isDk, List.all_cons, List.all_nil, no_dt, no_un, no_ow, no_dk, Bool.and_eq_true, Bool.true_and, Bool.and_true, Bool.false_eq_true, if_false, if_true, ite_true, ite_false, Option.some.injEq, exists_eq_left', true_and, and_true, List.cons_append, List.nil_append, Nat.sub_self, decide_eq_true_eq, Nat.reduceAdd, Nat.reduceSub, Nat.zero_add, Nat.le_refl, Nat.zero_le]
      refine ⟨fun m c' ρ => ∃ n, ρ = [.dt (fD f), .ow ((orb r n f).map fD), .dt (fD (it r n f))] ∧ c' = c ∧ 1 ≤ n ∧ n ≤ p ∧ m = p - n, ⟨p - 1, 1, rfl, rfl, Nat.le_refl _, per.pos, rfl⟩, ?_⟩
      rintro m c' ρ ⟨n, rfl, rfl, n1, n2, rfl⟩
      simp only [↓n_asg_if, BQ.n_rt, sSeq, sNext, sRet, sRetF, sRetO, sDrop, sSet, sOwn, sAsg, sPar, sPar3, sAug, sApp, sIf, dIf, dTest, dAnd, dOr, dNot, dAndV, dOrV, d1, d2, d2F, dVar, dOwn, dC, dF, dTup, dLst, dNil, dCons, dCB, dCB1, dCF1, dChain, dChain3, dCall, dCallF, dCallK, aNil, aCons, aDk, dGn, dGnil, dGcons, dGtup, dOdIx, dGsub, dIdxT, dIdxL, dSlT, dSlL, dPart, dNoPart, dIl, dIt, frz, opn, cls, catD, startR, arS, seqOf, n_add, n_addT, n_sub, n_mul, n_fdiv, n_mod, n_pow, n_shl, n_cmp, n_is, n_neg, n_not, n_ixL, n_ixT, n_lenL, n_lenT, n_abs, n_gcd, n_isqrt, n_int, n_tupL, n_tupT, at10, at1n, at20, at21, at2n, at30, at31, at32, at3n, fD, mD, wipeR, dYes, ix32, ix31, n_boolC, sz0, sz1, sz2, sz3, sz4, sz5, sz6, sz7, sz8, n_eqI, n_neI, n_eq3, n_ne3, n_isi_int, n_isi_bool, n_isi_tuple, List.map_cons, List.map_nil, List.length_cons, List.length_nil, List.replicate, List.set_cons_zero, List.set_cons_succ, List.getElem?_cons_zero, List.getElem?_cons_succ, List.filter_cons, List.filter_nil, Ar.isDk, List.all_cons, List.all_nil, no_dt, no_un, no_ow, no_dk, Bool.and_eq_true, Bool.true_and, Bool.and_true, Bool.false_eq_true, if_false, if_true, ite_true, ite_false, Option.some.injEq, exists_eq_left', true_and, and_true, List.cons_append, List.nil_append, Nat.sub_self, decide_eq_true_eq, Nat.reduceAdd, Nat.reduceSub, Nat.zero_add, Nat.le_refl, Nat.zero_le]
      by_cases hn : n = p
      · subst hn
        have e := per.back
        rw [if_neg (by rw [e]; simp)]
        exact fin
      · have ne : it r n f ≠ f := per.first n (by omega) (by omega)
        rw [if_pos (by
          simp only [Bool.not_eq_true', decide_eq_false_iff_not]
          rintro ⟨q1, q2, q3⟩
          exact ne (F.ext q1 q2 q3))]
        obtain ⟨y1, y2, y3, y4, y5, y6⟩ := sz n
        refine ⟨by rw [List.length_map, orb_len]; have := sizeLine_eq; omega, ?_⟩
        refine ⟨it r n f, rfl, y3, by have := y4.pos; omega, by omega, y4.c0, y1, y2, ?_⟩
        rw [y4.rt]
        simp only [↓n_asg_if, BQ.n_rt, sSeq, sNext, sRet, sRetF, sRetO, sDrop, sSet, sOwn, sAsg, sPar, sPar3, sAug, sApp, sIf, dIf, dTest, dAnd, dOr, dNot, dAndV, dOrV, d1, d2, d2F, dVar, dOwn, dC, dF, dTup, dLst, dNil, dCons, dCB, dCB1, dCF1, dChain, dChain3, dCall, dCallF, dCallK, aNil, aCons, aDk, dGn, dGnil, dGcons, dGtup, dOdIx, dGsub, dIdxT, dIdxL, dSlT, dSlL, dPart, dNoPart, dIl, dIt, frz, opn, cls, catD, startR, arS, seqOf, n_add, n_addT, n_sub, n_mul, n_fdiv, n_mod, n_pow, n_shl, n_cmp, n_is, n_neg, n_not, n_ixL, n_ixT, n_lenL, n_lenT, n_abs, n_gcd, n_isqrt, n_int, n_tupL, n_tupT, at10, at1n, at20, at21, at2n, at30, at31, at32, at3n, fD, mD, wipeR, dYes, ix32, ix31, n_boolC, sz0, sz1, sz2, sz3, sz4, sz5, sz6, sz7, sz8, n_eqI, n_neI, n_eq3, n_ne3, n_isi_int, n_isi_bool, n_isi_tuple, List.map_cons, List.map_nil, List.length_cons, List.length_nil, List.replicate, List.set_cons_zero, List.set_cons_succ, List.getElem?_cons_zero, List.getElem?_cons_succ, List.filter_cons, List.filter_nil, Ar.isDk, List.all_cons, List.all_nil, no_dt, no_un, no_ow, no_dk, Bool.and_eq_true, Bool.true_and, Bool.and_true, Bool.false_eq_true, if_false, if_true, ite_true, ite_false, Option.some.injEq, exists_eq_left', true_and, and_true, List.cons_append, List.nil_append, Nat.sub_self, decide_eq_true_eq, Nat.reduceAdd, Nat.reduceSub, Nat.zero_add, Nat.le_refl, Nat.zero_le]
        refine ⟨it r n f, T (tt r (it r n f)), rfl, (Sm.T y6).by_ _, ?_⟩
        simp only [↓n_asg_if, BQ.n_rt, sSeq, sNext, sRet, sRetF, sRetO, sDrop, sSet, sOwn, sAsg, sPar, sPar3, sAug, sApp, sIf, dIf, dTest, dAnd, dOr, dNot, dAndV, dOrV, d1, d2, d2F, dVar, dOwn, dC, dF, dTup, dLst, dNil, dCons, dCB, dCB1, dCF1, dChain, dChain3, dCall, dCallF, dCallK, aNil, aCons, aDk, dGn, dGnil, dGcons, dGtup, dOdIx, dGsub, dIdxT, dIdxL, dSlT, dSlL, dPart, dNoPart, dIl, dIt, frz, opn, cls, catD, startR, arS, seqOf, n_add, n_addT, n_sub, n_mul, n_fdiv, n_mod, n_pow, n_shl, n_cmp, n_is, n_neg, n_not, n_ixL, n_ixT, n_lenL, n_lenT, n_abs, n_gcd, n_isqrt, n_int, n_tupL, n_tupT, at10, at1n, at20, at21, at2n, at30, at31, at32, at3n, fD, mD, wipeR, dYes, ix32, ix31, n_boolC, sz0, sz1, sz2, sz3, sz4, sz5, sz6, sz7, sz8, n_eqI, n_neI, n_eq3, n_ne3, n_isi_int, n_isi_bool, n_isi_tuple, List.map_cons, List.map_nil, List.length_cons, List.length_nil, List.replicate, List.set_cons_zero, List.set_cons_succ, List.getElem?_cons_zero, List.getElem?_cons_succ, List.filter_cons, List.filter_nil, Ar.isDk, List.all_cons, List.all_nil, no_dt, no_un, no_ow, no_dk, Bool.and_eq_true, Bool.true_and, Bool.and_true, Bool.false_eq_true, if_false, if_true, ite_true, ite_false, Option.some.injEq, exists_eq_left', true_and, and_true, List.cons_append, List.nil_append, Nat.sub_self, decide_eq_true_eq, Nat.reduceAdd, Nat.reduceSub, Nat.zero_add, Nat.le_refl, Nat.zero_le]
        refine ⟨p - (n + 1), by omega, n + 1, ?_, by omega, by omega, rfl⟩
        have : orb r (n + 1) f = orb r n f ++ [it r n f] := by unfold orb; rw [List.range_succ, List.map_append]; rfl
        rw [this, List.map_append]
        rfl
def sd_step_along : Sd := fun c as y Φ Ψ => ∃ (f : F) (n : Nat) (r : Int), as = [.dt (fD f), .dt (fD (it r n f))] ∧ (n = 0 ∨ (Rd f.disc r f ∧ f.disc ≤ 10000000)) ∧ (∀ i, i < n → it r i f ≠ it r n f) ∧ Φ (mD (along r n f)) c
theorem ok_step_along (Mx : Mo K mg) (C_neighbour_step : Cl false P w K mg base 2 "neighbour_step" ["f"] sd_neighbour_step) (C_times_step : Cl false P w K mg base 1 "times_step" ["one", "other"] sd_times_step) (C_taken_by : Cl false P w K mg base 2 "taken_by" ["f", "step"] sd_taken_by) : Cl false P w K mg base 3 "step_along" ["f", "other"] sd_step_along := by
  obtain ⟨fd, hm, Fn0⟩ := Mx.fn 28 "step_along" (by decide +kernel)
  have hN : (["f", "other", "step", "more"] : List Str).Nodup := by decide +kernel
  have Sc0 : FnScope ["f", "other", "step", "more"] ["f", "other"] (defScope (top 28)) := ⟨rfl, rfl, rfl, hN, rfl, by decide +kernel, by decide +kernel⟩
  refine cl_mk Fn0 hm Sc0 (fun _ _ _ _ _ _ us hl => match us, hl with | [_, _], _ => rfl) (fun _ _ _ _ _ _ us hl => match us, hl with | [_, _], _ => rfl) fun cdv A outer s H E hr hG tk hp => ⟨_, (ss_cons (s_set (i := 2) hN (by rfl) (by first | exact .inl rfl | exact .inr rfl) (e_glob (pe_glob (by rfl) Mx.k_SAME.1 (by rfl)) Mx.k_SAME.2))
    (ss_cons (s_while hp (t_cmp (o_neP (hu4 hr)) (r_own (pv 0)) (r_own (pv 1)) rfl) (ss_cons (s_set (i := 3) hN (by rfl) (by first | exact .inl rfl | exact .inr rfl) (e_callC C_neighbour_step (by decide) hr nog (by rfl) tk (a_cons (e_var (pv 0)) a_nil)))
    (ss_one (s_par (i := 0) (j := 2) rfl hN rfl rfl (by decide) rfl rfl (l_cons (e_callC C_taken_by (by decide) hr nog (by rfl) tk (a_cons (e_var (pv 0)) (a_cons (e_var (pv 3)) a_nil))) (l_cons (e_callC C_times_step (by decide) hr nog (by rfl) tk (a_cons (e_var (pv 2)) (a_cons (e_var (pv 3)) a_nil))) l_nil)) rfl))))
    (ss_one (s_ret (e_var (pv 2)))))), fun c as y Φ Ψ hn hs => ?_⟩
  obtain ⟨f, n, r, rfl, h1, h2, h⟩ := hs
  simp only [↓n_asg_if, BQ.n_rt, sSeq, sNext, sRet, sRetF, sRetO, sDrop, sSet, sOwn, sAsg, sPar, sPar3, sAug, sApp, sIf, dIf, dTest, dAnd, dOr, dNot, dAndV, dOrV, d1, d2, d2F, dVar, dOwn, dC, dF, dTup, dLst, dNil, dCons, dCB, dCB1, dCF1, dChain, dChain3, dCall, dCallF, dCallK, aNil, aCons, aDk, dGn, dGnil, dGcons, dGtup, dOdIx, dGsub, dIdxT, dIdxL, dSlT, dSlL, dPart, dNoPart, dIl, dIt, frz, opn, cls, catD, startR, arS, seqOf, n_add, n_addT, n_sub, n_mul, n_fdiv, n_mod, n_pow, n_shl, n_cmp, n_is, n_neg, n_not, n_ixL, n_ixT, n_lenL, n_lenT, n_abs, n_gcd, n_isqrt, n_int, n_tupL, n_tupT, at10, at1n, at20, at21, at2n, at30, at31, at32, at3n, fD, mD, wipeR, dYes, ix32, ix31, n_boolC, sz0, sz1, sz2, sz3, sz4, sz5, sz6, sz7, sz8, n_eqI, n_neI, n_eq3, n_ne3, n_isi_int, n_isi_bool, n_isi_tuple, List.map_cons, List.map_nil, List.length_cons, List.length_nil, List.replicate, List.set_cons_zero, List.set_cons_succ, List.getElem?_cons_zero, List.getElem?_cons_succ, List.filter_cons, List.filter_nil, Ar.isDk, List.all_cons, List.all_nil, no_dt, no_un, no_ow, no_dk, Bool.and_eq_true, Bool.true_and, Bool.and_true, Bool.false_eq_true, if_false, if_true, ite_true, ite_false, Option.some.injEq, exists_eq_left', true_and, and_true, List.cons_append, List.nil_append, Nat.sub_self, decide_eq_true_eq, Nat.reduceAdd, Nat.reduceSub, Nat.zero_add, Nat.le_refl, Nat.zero_le]
  refine ⟨fun m c' ρ => ∃ (i : Nat) (sl : Sl), ρ = [.dt (fD (it r i f)), .dt (fD (it r n f)), .dt (mD (along r i f)), sl] ∧ sl.notOd = true ∧ c' = c ∧ i ≤ n ∧ m = n - i, ⟨n, 0, .un, rfl, rfl, rfl, Nat.zero_le _, rfl⟩, ?_⟩
  rintro m c' ρ ⟨i, sl, rfl, hsl, rfl, il, rfl⟩
  simp only [↓n_asg_if, BQ.n_rt, sSeq, sNext, sRet, sRetF, sRetO, sDrop, sSet, sOwn, sAsg, sPar, sPar3, sAug, sApp, sIf, dIf, dTest, dAnd, dOr, dNot, dAndV, dOrV, d1, d2, d2F, dVar, dOwn, dC, dF, dTup, dLst, dNil, dCons, dCB, dCB1, dCF1, dChain, dChain3, dCall, dCallF, dCallK, aNil, aCons, aDk, dGn, dGnil, dGcons, dGtup, dOdIx, dGsub, dIdxT, dIdxL, dSlT, dSlL, dPart, dNoPart, dIl, dIt, frz, opn, cls, catD, startR, arS, seqOf, n_add, n_addT, n_sub, n_mul, n_fdiv, n_mod, n_pow, n_shl, n_cmp, n_is, n_neg, n_not, n_ixL, n_ixT, n_lenL, n_lenT, n_abs, n_gcd, n_isqrt, n_int, n_tupL, n_tupT, at10, at1n, at20, at21, at2n, at30, at31, at32, at3n, fD, mD, wipeR, dYes, ix32, ix31, n_boolC, sz0, sz1, sz2, sz3, sz4, sz5, sz6, sz7, sz8, n_eqI, n_neI, n_eq3, n_ne3, n_isi_int, n_isi_bool, n_isi_tuple, List.map_cons, List.map_nil, List.length_cons, List.length_nil, List.replicate, List.set_cons_zero, List.set_cons_succ, List.getElem?_cons_zero, List.getElem?_cons_succ, List.filter_cons, List.filter_nil, Ar.isDk, List.all_cons, List.all_nil, no_dt, no_un, no_ow, no_dk, Bool.and_eq_true, Bool.true_and, Bool.and_true, Bool.false_eq_true, if_false, if_true, ite_true, ite_false, Option.some.injEq, exists_eq_left', true_and, and_true, List.cons_append, List.nil_append, Nat.sub_self, decide_eq_true_eq, Nat.reduceAdd, Nat.reduceSub, Nat.zero_add, Nat.le_refl, Nat.zero_le]
  by_cases hi : i = n
  · subst hi
    rw [if_neg (by simp)]
    exact h
  · have ne := h2 i (by omega)
    rw [if_pos (by
      simp only [Bool.not_eq_true', decide_eq_false_iff_not]
      rintro ⟨q1, q2, q3⟩
      exact ne (F.ext q1 q2 q3))]
    obtain ⟨rd, hD⟩ := h1.resolve_left (by omega)
    have I := rd.i
    have r1 : r ≤ 3162 := by have := sqlt (a := r) (b := 3163) (by decide) (by have := I.lo; omega); omega
    have rn := rd.it i
    have J : Ind (it r i f).disc r := rn.d ▸ rn.i
    have b1 := rn.red.1
    have b2 := rn.red.2.1
    have b3 := rn.red.c_le J
    have b4 := tt_le J (B := 3162) (by omega) (by omega) (by omega)
    have st := Sm.T (t := tt r (it r i f)) (by omega)
    refine ⟨hsl, it r i f, rfl, ⟨mR (by omega) (by omega), mR (by omega) (by omega)⟩, by have := J.pos; omega, by have := rn.d; omega, J.c0, by omega, by omega, ?_⟩
    rw [J.rt]
    simp only [↓n_asg_if, BQ.n_rt, sSeq, sNext, sRet, sRetF, sRetO, sDrop, sSet, sOwn, sAsg, sPar, sPar3, sAug, sApp, sIf, dIf, dTest, dAnd, dOr, dNot, dAndV, dOrV, d1, d2, d2F, dVar, dOwn, dC, dF, dTup, dLst, dNil, dCons, dCB, dCB1, dCF1, dChain, dChain3, dCall, dCallF, dCallK, aNil, aCons, aDk, dGn, dGnil, dGcons, dGtup, dOdIx, dGsub, dIdxT, dIdxL, dSlT, dSlL, dPart, dNoPart, dIl, dIt, frz, opn, cls, catD, startR, arS, seqOf, n_add, n_addT, n_sub, n_mul, n_fdiv, n_mod, n_pow, n_shl, n_cmp, n_is, n_neg, n_not, n_ixL, n_ixT, n_lenL, n_lenT, n_abs, n_gcd, n_isqrt, n_int, n_tupL, n_tupT, at10, at1n, at20, at21, at2n, at30, at31, at32, at3n, fD, mD, wipeR, dYes, ix32, ix31, n_boolC, sz0, sz1, sz2, sz3, sz4, sz5, sz6, sz7, sz8, n_eqI, n_neI, n_eq3, n_ne3, n_isi_int, n_isi_bool, n_isi_tuple, List.map_cons, List.map_nil, List.length_cons, List.length_nil, List.replicate, List.set_cons_zero, List.set_cons_succ, List.getElem?_cons_zero, List.getElem?_cons_succ, List.filter_cons, List.filter_nil, Ar.isDk, List.all_cons, List.all_nil, no_dt, no_un, no_ow, no_dk, Bool.and_eq_true, Bool.true_and, Bool.and_true, Bool.false_eq_true, if_false, if_true, ite_true, ite_false, Option.some.injEq, exists_eq_left', true_and, and_true, List.cons_append, List.nil_append, Nat.sub_self, decide_eq_true_eq, Nat.reduceAdd, Nat.reduceSub, Nat.zero_add, Nat.le_refl, Nat.zero_le]
    refine ⟨it r i f, _, rfl, st.by_ _, ?_⟩
    simp only [↓n_asg_if, BQ.n_rt, sSeq, sNext, sRet, sRetF, sRetO, sDrop, sSet, sOwn, sAsg, sPar, sPar3, sAug, sApp, sIf, dIf, dTest, dAnd, dOr, dNot, dAndV, dOrV, d1, d2, d2F, dVar, dOwn, dC, dF, dTup, dLst, dNil, dCons, dCB, dCB1, dCF1, dChain, dChain3, dCall, dCallF, dCallK, aNil, aCons, aDk, dGn, dGnil, dGcons, dGtup, dOdIx, dGsub, dIdxT, dIdxL, dSlT, dSlL, dPart, dNoPart, dIl, dIt, frz, opn, cls, catD, startR, arS, seqOf, n_add, n_addT, n_sub, n_mul, n_fdiv, n_mod, n_pow, n_shl, n_cmp, n_is, n_neg, n_not, n_ixL, n_ixT, n_lenL, n_lenT, n_abs, n_gcd, n_isqrt, n_int, n_tupL, n_tupT, at10, at1n, at20, at21, at2n, at30, at31, at32, at3n, fD, mD, wipeR, dYes, ix32, ix31, n_boolC, sz0, sz1, sz2, sz3, sz4, sz5, sz6, sz7, sz8, n_eqI, n_neI, n_eq3, n_ne3, n_isi_int, n_isi_bool, n_isi_tuple, List.map_cons, List.map_nil, List.length_cons, List.length_nil, List.replicate, List.set_cons_zero, List.set_cons_succ, List.getElem?_cons_zero, List.getElem?_cons_succ, List.filter_cons, List.filter_nil, Ar.isDk, List.all_cons, List.all_nil, no_dt, no_un, no_ow, no_dk, Bool.and_eq_true, Bool.true_and, Bool.and_true, Bool.false_eq_true, if_false, if_true, ite_true, ite_false, Option.some.injEq, exists_eq_left', true_and, and_true, List.cons_append, List.nil_append, Nat.sub_self, decide_eq_true_eq, Nat.reduceAdd, Nat.reduceSub, Nat.zero_add, Nat.le_refl, Nat.zero_le]
    refine ⟨along r i f, _, rfl, st.mul_ _, ?_⟩
    simp only [↓n_asg_if, BQ.n_rt, sSeq, sNext, sRet, sRetF, sRetO, sDrop, sSet, sOwn, sAsg, sPar, sPar3, sAug, sApp, sIf, dIf, dTest, dAnd, dOr, dNot, dAndV, dOrV, d1, d2, d2F, dVar, dOwn, dC, dF, dTup, dLst, dNil, dCons, dCB, dCB1, dCF1, dChain, dChain3, dCall, dCallF, dCallK, aNil, aCons, aDk, dGn, dGnil, dGcons, dGtup, dOdIx, dGsub, dIdxT, dIdxL, dSlT, dSlL, dPart, dNoPart, dIl, dIt, frz, opn, cls, catD, startR, arS, seqOf, n_add, n_addT, n_sub, n_mul, n_fdiv, n_mod, n_pow, n_shl, n_cmp, n_is, n_neg, n_not, n_ixL, n_ixT, n_lenL, n_lenT, n_abs, n_gcd, n_isqrt, n_int, n_tupL, n_tupT, at10, at1n, at20, at21, at2n, at30, at31, at32, at3n, fD, mD, wipeR, dYes, ix32, ix31, n_boolC, sz0, sz1, sz2, sz3, sz4, sz5, sz6, sz7, sz8, n_eqI, n_neI, n_eq3, n_ne3, n_isi_int, n_isi_bool, n_isi_tuple, List.map_cons, List.map_nil, List.length_cons, List.length_nil, List.replicate, List.set_cons_zero, List.set_cons_succ, List.getElem?_cons_zero, List.getElem?_cons_succ, List.filter_cons, List.filter_nil, Ar.isDk, List.all_cons, List.all_nil, no_dt, no_un, no_ow, no_dk, Bool.and_eq_true, Bool.true_and, Bool.and_true, Bool.false_eq_true, if_false, if_true, ite_true, ite_false, Option.some.injEq, exists_eq_left', true_and, and_true, List.cons_append, List.nil_append, Nat.sub_self, decide_eq_true_eq, Nat.reduceAdd, Nat.reduceSub, Nat.zero_add, Nat.le_refl, Nat.zero_le]
    exact ⟨n - (i + 1), by omega, i + 1, _, rfl, rfl, by omega, rfl⟩
end
end K31

/-! What the program tells of binary forms. -/
namespace K31
open PySem PySem.Spec PyProof.Rows L2 DL BQ
section
variable {P : Program} {w : World} {K : PySem.W.Frag} {mg : Str → Option Value} {base : Heap}
theorem dataLt3 (f g : F) : PySem.W.dataLt (fD f) (fD g) = decide (ltF f g) := by
  have ai : ∀ x y : Int, PySem.W.alike (.int x) (.int y) = true := fun x y => by simp [PySem.W.alike]
  have ei : ∀ x y : Int, PyData.eqv (.int x) (.int y) = decide (x = y) := fun x y => by rw [PyData.eqv]; rfl
  have li := PySem.W.dataLt_int
  unfold PySem.W.dataLt fD
  simp only [PySem.W.keyToks]
  have lt : ltF f g ↔ (f.a < g.a ∨ (f.a = g.a ∧ (f.b < g.b ∨ (f.b = g.b ∧ f.c < g.c)))) := Iff.rfl
  by_cases h1 : f.a = g.a
  · rw [PySem.W.dataLt_all_yes (ai _ _) (by rw [ei]; exact decide_eq_true h1)]
    by_cases h2 : f.b = g.b
    · rw [PySem.W.dataLt_all_yes (ai _ _) (by rw [ei]; exact decide_eq_true h2)]
      by_cases h3 : f.c = g.c
      · rw [PySem.W.dataLt_all_yes (ai _ _) (by rw [ei]; exact decide_eq_true h3)]
        rw [decide_eq_false (fun z => by have := lt.mp z; omega)]
        exact PyProof.Rows.lex_irrefl _
      · rw [PySem.W.dataLt_all_no (ai _ _) (by rw [ei]; exact decide_eq_false h3), li]
        exact decide_eq_decide.mpr ⟨fun z => lt.mpr (by omega), fun z => by have := lt.mp z; omega⟩
    · rw [PySem.W.dataLt_all_no (ai _ _) (by rw [ei]; exact decide_eq_false h2), li]
      exact decide_eq_decide.mpr ⟨fun z => lt.mpr (by omega), fun z => by have := lt.mp z; omega⟩
  · rw [PySem.W.dataLt_all_no (ai _ _) (by rw [ei]; exact decide_eq_false h1), li]
    exact decide_eq_decide.mpr ⟨fun z => lt.mpr (by omega), fun z => by have := lt.mp z; omega⟩
theorem minD3 : ∀ (fs : List F) (f : F), PySem.W.minD (fD f) (fs.map fD) = fD (minF f fs)
  | [], f => rfl
  | g :: fs, f => by
    show PySem.W.minD (if PySem.W.dataLt (fD g) (fD f) then fD g else fD f) (fs.map fD) = fD (minF (if ltF g f then g else f) fs)
    rw [dataLt3]
    by_cases h : ltF g f
    · rw [if_pos (decide_eq_true h), if_pos h]; exact minD3 fs g
    · rw [if_neg (by simp [h]), if_neg h]; exact minD3 fs f
theorem alike3 (l : List F) : PySem.W.AlikeAll (l.map fD) := by
  constructor
  · intro x hx y hy
    obtain ⟨f, _, rfl⟩ := List.mem_map.mp hx
    obtain ⟨g, _, rfl⟩ := List.mem_map.mp hy
    simp [fD, PySem.W.alike, PySem.W.alikeAll]
  · intro x hx
    obtain ⟨f, _, rfl⟩ := List.mem_map.mp hx
    intro z; cases z
theorem depth_forms : ∀ l : List F, PyData.depthAll (l.map fD) ≤ 2
  | [] => by simp [PyData.depthAll]
  | f :: l => by
    have := depth_forms l
    have h := depth3 (a := f.a) (b := f.b) (c := f.c)
    rw [List.map_cons, PyData.depthAll]
    show max (fD f).depth _ ≤ 2
    have : (fD f).depth ≤ 2 := h
    omega
theorem eqvF (f g : F) : PyData.eqv (fD f) (fD g) = decide (f = g) := by
  show PyData.eqv (.tuple _) (.tuple _) = _
  rw [eqv3]
  congr 1
  apply propext
  constructor
  · rintro ⟨h1, h2, h3⟩; exact F.ext h1 h2 h3
  · rintro rfl; exact ⟨rfl, rfl, rfl⟩
theorem idx3 {l : List F} {m : F} (h : m ∈ l) : ∃ i, idxD (fD m) (l.map fD) = i ∧ i < l.length ∧ l[i]? = some m := by
  have e : (l.map fD).map (fun z => PyData.eqv z (fD m)) = l.map fun g => decide (g = m) := by
    rw [List.map_map]
    apply List.map_congr_left
    intro g _
    exact eqvF g m
  refine ⟨_, rfl, ?_⟩
  unfold idxD
  rw [e]
  have hm : true ∈ l.map fun g => decide (g = m) := List.mem_map.mpr ⟨m, h, decide_eq_true rfl⟩
  have hl := List.idxOf_lt_length_iff.mpr hm
  have hl2 := hl
  rw [List.length_map] at hl2
  refine ⟨hl2, ?_⟩
  have := List.getElem_idxOf hl
  rw [List.getElem_map] at this
  rw [List.getElem?_eq_getElem hl2]
  exact congrArg some (of_decide_eq_true this)
theorem min_any {l : List F} (h : l ≠ []) (Φ : PyData → Prop) (q : ∀ m, Lst l m → Φ (fD m)) : minP (.tuple (l.map fD)) Φ := by
  cases l with
  | nil => exact absurd rfl h
  | cons f fs => exact ⟨fD f, fs.map fD, rfl, alike3 (f :: fs), Nat.le_trans (depth_forms (f :: fs)) (by decide), by rw [minD3]; exact q _ (minF_ok fs f)⟩
theorem min_anyL {l : List F} (h : l ≠ []) (Φ : PyData → Prop) (q : ∀ m, Lst l m → Φ (fD m)) : minP (.list (l.map fD)) Φ := by
  cases l with
  | nil => exact absurd rfl h
  | cons f fs => exact ⟨fD f, fs.map fD, rfl, alike3 (f :: fs), Nat.le_trans (depth_forms (f :: fs)) (by decide), by rw [minD3]; exact q _ (minF_ok fs f)⟩
theorem cutLo {xs : List PyData} {i : Nat} (h : i ≤ xs.length) : DL.cutD xs (some (i : Int)) none = xs.drop i := by
  unfold DL.cutD
  rw [HT.sIx_none, HT.sIx_nat, Nat.min_eq_left h, List.take_of_length_le (by rw [List.length_drop]; omega)]
theorem cutHi {xs : List PyData} {i : Nat} (h : i ≤ xs.length) : DL.cutD xs none (some (i : Int)) = xs.take i := by
  unfold DL.cutD
  rw [HT.sIx_none, HT.sIx_nat, Nat.min_eq_left h]
  simp
/-- the cycle -/
def Cy (f : F) (L : List F) : Prop := ∃ R, To f R ∧ if R.disc < 0 ∨ isSplit R.disc = true then L = [R] else ∃ p k, Per (rt R.disc) R p ∧ k < p ∧ Lst (orb (rt R.disc) p R) (it (rt R.disc) k R) ∧ L = orb (rt R.disc) p (it (rt R.disc) k R)
/-- what to_reduced tells is reduced -/
theorem To.rg {f R : F} (n0 : f.disc ≠ 0) (le : f.disc ≤ 10000000) (ge : -1125899906842624 ≤ f.disc) (h : To f R) (ed : R.disc = f.disc) : RgOk R ∧ isRedP R = true := by
  have dkr : ∀ {R : F}, R.b.natAbs ≤ 2 ^ 32 → DiscOk R → True := fun _ _ => trivial
  unfold To at h
  by_cases hd : 0 < f.disc
  · rw [if_pos hd] at h
    obtain ⟨r0, r1, r2⟩ := rt_ok (Int.le_of_lt hd)
    have r3 : rt f.disc < 3163 := sqlt (by decide) (by omega)
    by_cases hs : isSplit f.disc = true
    · rw [if_pos hs] at h
      obtain ⟨m, m1, m2, m3, rfl⟩ := h
      have e : rt f.disc * rt f.disc = f.disc := by
        unfold isSplit at hs
        simp at hs
        exact hs.2
      have w0 : 0 < rt f.disc := by
        rcases Int.lt_or_eq_of_le r0 with z | z
        · exact z
        · rw [← z] at e; omega
      refine ⟨⟨⟨mR (by show _ < rt f.disc; omega) (by show rt f.disc < _; omega), mR (show (-18446744073709551616 : Int) < 0 by decide) (show (0 : Int) < 18446744073709551616 by decide)⟩, by rw [ed]; exact le, .inr (.inl (by rw [ed]; exact hs))⟩, ?_⟩
      unfold isRedP
      rw [if_neg (by rw [ed]; omega), if_pos (by rw [ed]; exact hs)]
      have := fmod_lt' (x := (f.by m).a) w0
      exact decide_eq_true ⟨rfl, w0, this.1, this.2⟩
    · rw [if_neg hs] at h
      obtain ⟨n, rfl, red, _⟩ := h
      have e : rt f.disc * rt f.disc ≠ f.disc := fun z => hs (by unfold isSplit; simp [hd, z])
      have I := ind_of hd e
      have J : Ind (it (rt f.disc) n f).disc (rt f.disc) := by rw [ed]; exact I
      have b1 := red.1
      have b2 := red.2.1
      have b3 := red.c_le J
      refine ⟨⟨⟨mR (by omega) (by omega), mR (by omega) (by omega)⟩, by rw [ed]; exact le, .inr (.inr ⟨rfl, by rw [J.rt]; exact J, by rw [J.rt]; exact red⟩)⟩, ?_⟩
      rw [isRedP_ind J]
      exact decide_eq_true red
  · rw [if_neg hd] at h
    have hneg : R.disc < 0 := by omega
    have sm : ∀ {R' : F}, Df R' → RedD R' → R'.disc = R.disc → R'.a < 67108864 := fun {R'} G z e => by
      have a0 := G.a0
      obtain ⟨z1, z2, _⟩ := z
      have e1 : R'.disc = R'.b * R'.b - 4 * (R'.a * R'.c) := by unfold F.disc; grind
      have e2 : R'.a * R'.a ≤ R'.a * R'.c := Int.mul_le_mul_of_nonneg_left z2 (by omega)
      have e3 : R'.b * R'.b ≤ R'.a * R'.a := by
        have := sqle (a := (R'.b.natAbs : Int)) (b := R'.a) (by omega) z1
        rw [← Int.natCast_mul, Int.natAbs_mul_self] at this
        exact this
      exact sqlt (by decide) (by omega)
    have a0 : f.a ≠ 0 := fun z => by
      have e : f.disc = f.b * f.b := by unfold F.disc; rw [z]; grind
      have := sqpos f.b
      omega
    have fin : RedD (if R.a < 0 then R.neg else R) → isRedP R = true := fun z => by
      unfold isRedP
      rw [if_pos hneg]
      exact decide_eq_true z
    by_cases ha : 0 < f.a
    · rw [if_pos ha] at h
      obtain ⟨k1, k2, k3⟩ := h.ok ⟨ha, by omega⟩
      have l := sm k1 k2 rfl
      have a1 := k1.a0
      have b1 := k2.1
      exact ⟨⟨⟨mR (by omega) (by omega), mL (by omega) (by omega)⟩, by omega, .inl hneg⟩, fin (by rw [if_neg (by omega)]; exact k2)⟩
    · rw [if_neg ha] at h
      obtain ⟨k1, k2, k3⟩ := h.ok ⟨by show 0 < -f.a; omega, by rw [neg_disc]; omega⟩
      have l := sm k1 k2 (neg_disc R)
      have a1 : 0 < -R.a := k1.a0
      have b1 : ((-R.b).natAbs : Int) ≤ -R.a := k2.1
      have l : -R.a < 67108864 := l
      exact ⟨⟨⟨mR (by omega) (by omega), mL (by omega) (by omega)⟩, by omega, .inl hneg⟩, fin (by rw [if_pos (by omega)]; exact k2)⟩
def isBin : PyData → Bool
  | .tuple [.int a, .int b, .int c] => decide ((⟨a, b, c⟩ : F).disc ≠ 0)
  | _ => false
def sd_is_binary : Sd := fun c as y Φ Ψ => ∃ d, as = [.dt d] ∧ (∀ f, d = fD f → DiscOk f) ∧ Φ (.bool (isBin d)) c
theorem ok_is_binary (Mx : Mo K mg) (C_discriminant_of : Cl false P w K mg base 1 "discriminant_of" ["f"] sd_discriminant_of) (C_is_integers : Cl false P w K mg base 2 "is_integers" ["value", "many"] sd_is_integers) : Cl false P w K mg base 3 "is_binary" ["value"] sd_is_binary := by
  obtain ⟨fd, hm, Fn0⟩ := Mx.fn 30 "is_binary" (by decide +kernel)
  have hN : (["value"] : List Str).Nodup := by decide +kernel
  have Sc0 : FnScope ["value"] ["value"] (defScope (top 30)) := ⟨rfl, rfl, rfl, hN, rfl, by decide +kernel, by decide +kernel⟩
  refine cl_mk Fn0 hm Sc0 (fun _ _ _ _ _ _ us hl => match us, hl with | [_], _ => rfl) (fun _ _ _ _ _ _ us hl => match us, hl with | [_], _ => rfl) fun cdv A outer s H E hr hG tk hp => ⟨_, (ss_one (s_ret (e_and (e_callC C_is_integers (by decide) hr nog (by rfl) tk (a_cons (e_var (pv 0)) (a_cons e_int a_nil))) (e_one (e_cmp (o_neP (hu4 hr)) (e_callC C_discriminant_of (by decide) hr nog (by rfl) tk (a_cons (e_var (pv 0)) a_nil)).r e_int.r rfl))))), fun c as y Φ Ψ hn hs => ?_⟩
  obtain ⟨d, rfl, h1, h⟩ := hs
  simp only [↓n_asg_if, BQ.n_rt, sSeq, sNext, sRet, sRetF, sRetO, sDrop, sSet, sOwn, sAsg, sPar, sPar3, sAug, sApp, sIf, dIf, dTest, dAnd, dOr, dNot, dAndV, dOrV, d1, d2, d2F, dVar, dOwn, dC, dF, dTup, dLst, dNil, dCons, dCB, dCB1, dCF1, dChain, dChain3, dCall, dCallF, dCallK, aNil, aCons, aDk, dGn, dGnil, dGcons, dGtup, dOdIx, dGsub, dIdxT, dIdxL, dSlT, dSlL, dPart, dNoPart, dIl, dIt, frz, opn, cls, catD, startR, arS, seqOf, n_add, n_addT, n_sub, n_mul, n_fdiv, n_mod, n_pow, n_shl, n_cmp, n_is, n_neg, n_not, n_ixL, n_ixT, n_lenL, n_lenT, n_abs, n_gcd, n_isqrt, n_int, n_tupL, n_tupT, at10, at1n, at20, at21, at2n, at30, at31, at32, at3n, fD, mD, wipeR, dYes, ix32, ix31, n_boolC, sz0, sz1, sz2, sz3, sz4, sz5, sz6, sz7, sz8, n_eqI, n_neI, n_eq3, n_ne3, n_isi_int, n_isi_bool, n_isi_tuple, List.map_cons, List.map_nil, List.length_cons, List.length_nil, List.replicate, List.set_cons_zero, List.set_cons_succ, List.getElem?_cons_zero, List.getElem?_cons_succ, List.filter_cons, List.filter_nil, Ar.isDk, List.all_cons, List.all_nil, no_dt, no_un, no_ow, no_dk, Bool.and_eq_true, Bool.true_and, Bool.and_true, Bool.false_eq_true, if_false, if_true, ite_true, ite_false, Option.some.injEq, exists_eq_left', true_and, and_true, List.cons_append, List.nil_append, Nat.sub_self, decide_eq_true_eq, Nat.reduceAdd, Nat.reduceSub, Nat.zero_add, Nat.le_refl, Nat.zero_le]
  refine ⟨d, 3, rfl, by decide, ?_⟩
  simp only [↓n_asg_if, BQ.n_rt, sSeq, sNext, sRet, sRetF, sRetO, sDrop, sSet, sOwn, sAsg, sPar, sPar3, sAug, sApp, sIf, dIf, dTest, dAnd, dOr, dNot, dAndV, dOrV, d1, d2, d2F, dVar, dOwn, dC, dF, dTup, dLst, dNil, dCons, dCB, dCB1, dCF1, dChain, dChain3, dCall, dCallF, dCallK, aNil, aCons, aDk, dGn, dGnil, dGcons, dGtup, dOdIx, dGsub, dIdxT, dIdxL, dSlT, dSlL, dPart, dNoPart, dIl, dIt, frz, opn, cls, catD, startR, arS, seqOf, n_add, n_addT, n_sub, n_mul, n_fdiv, n_mod, n_pow, n_shl, n_cmp, n_is, n_neg, n_not, n_ixL, n_ixT, n_lenL, n_lenT, n_abs, n_gcd, n_isqrt, n_int, n_tupL, n_tupT, at10, at1n, at20, at21, at2n, at30, at31, at32, at3n, fD, mD, wipeR, dYes, ix32, ix31, n_boolC, sz0, sz1, sz2, sz3, sz4, sz5, sz6, sz7, sz8, n_eqI, n_neI, n_eq3, n_ne3, n_isi_int, n_isi_bool, n_isi_tuple, List.map_cons, List.map_nil, List.length_cons, List.length_nil, List.replicate, List.set_cons_zero, List.set_cons_succ, List.getElem?_cons_zero, List.getElem?_cons_succ, List.filter_cons, List.filter_nil, Ar.isDk, List.all_cons, List.all_nil, no_dt, no_un, no_ow, no_dk, Bool.and_eq_true, Bool.true_and, Bool.and_true, Bool.false_eq_true, if_false, if_true, ite_true, ite_false, Option.some.injEq, exists_eq_left', true_and, and_true, List.cons_append, List.nil_append, Nat.sub_self, decide_eq_true_eq, Nat.reduceAdd, Nat.reduceSub, Nat.zero_add, Nat.le_refl, Nat.zero_le]
  by_cases hz : isInts 3 d = true
  · rw [if_pos hz]
    obtain ⟨f, rfl⟩ : ∃ f, d = fD f := by
      cases d <;> first | cases hz | skip
      rename_i xs
      have hz : (decide ((xs.length : Int) = 3) && xs.all isI) = true := hz
      rw [Bool.and_eq_true] at hz
      have hl : xs.length = 3 := by have := of_decide_eq_true hz.1; omega
      match xs, hl, hz.2 with
      | [x1, x2, x3], _, hz =>
        simp only [List.all_cons, List.all_nil, Bool.and_eq_true, Bool.and_true] at hz
        obtain ⟨i1, i2, i3⟩ := hz
        cases x1 <;> first | cases i1 | skip
        cases x2 <;> first | cases i2 | skip
        cases x3 <;> first | cases i3 | skip
        exact ⟨⟨_, _, _⟩, rfl⟩
    have dk := h1 f rfl
    refine ⟨f, rfl, dk.1, dk.2, ?_⟩
    simp only [↓n_asg_if, BQ.n_rt, sSeq, sNext, sRet, sRetF, sRetO, sDrop, sSet, sOwn, sAsg, sPar, sPar3, sAug, sApp, sIf, dIf, dTest, dAnd, dOr, dNot, dAndV, dOrV, d1, d2, d2F, dVar, dOwn, dC, dF, dTup, dLst, dNil, dCons, dCB, dCB1, dCF1, dChain, dChain3, dCall, dCallF, dCallK, aNil, aCons, aDk, dGn, dGnil, dGcons, dGtup, dOdIx, dGsub, dIdxT, dIdxL, dSlT, dSlL, dPart, dNoPart, dIl, dIt, frz, opn, cls, catD, startR, arS, seqOf, n_add, n_addT, n_sub, n_mul, n_fdiv, n_mod, n_pow, n_shl, n_cmp, n_is, n_neg, n_not, n_ixL, n_ixT, n_lenL, n_lenT, n_abs, n_gcd, n_isqrt, n_int, n_tupL, n_tupT, at10, at1n, at20, at21, at2n, at30, at31, at32, at3n, fD, mD, wipeR, dYes, ix32, ix31, n_boolC, sz0, sz1, sz2, sz3, sz4, sz5, sz6, sz7, sz8, n_eqI, n_neI, n_eq3, n_ne3, n_isi_int, n_isi_bool, n_isi_tuple, List.map_cons, List.map_nil, List.length_cons, List.length_nil, List.replicate, List.set_cons_zero, List.set_cons_succ, List.getElem?_cons_zero, List.getElem?_cons_succ, List.filter_cons, List.filter_nil, Ar.isDk, List.all_cons, List.all_nil, no_dt, no_un, no_ow, no_dk, Bool.and_eq_true, Bool.true_and, Bool.and_true, Bool.false_eq_true, if_false, if_true, ite_true, ite_false, Option.some.injEq, exists_eq_left', true_and, and_true, List.cons_append, List.nil_append, Nat.sub_self, decide_eq_true_eq, Nat.reduceAdd, Nat.reduceSub, Nat.zero_add, Nat.le_refl, Nat.zero_le]
    have h : Φ (.bool (decide (f.disc ≠ 0))) c := h
    rw [decide_not] at h
    exact h
  · rw [if_neg hz]
    have : isBin d = false := by
      unfold isBin
      split
      · exact absurd rfl hz
      · rfl
    rw [this] at h
    exact h
def sd_need_binary : Sd := fun c as y Φ Ψ => ∃ f : F, as = [.dt (fD f)] ∧ DiscOk f ∧ f.disc ≠ 0 ∧ Φ .none c
theorem ok_need_binary (Mx : Mo K mg) (C_is_binary : Cl false P w K mg base 3 "is_binary" ["value"] sd_is_binary) : Cl false P w K mg base 4 "need_binary" ["binary"] sd_need_binary := by
  obtain ⟨fd, hm, Fn0⟩ := Mx.fn 31 "need_binary" (by decide +kernel)
  have hN : (["binary"] : List Str).Nodup := by decide +kernel
  have Sc0 : FnScope ["binary"] ["binary"] (defScope (top 31)) := ⟨rfl, rfl, rfl, hN, rfl, by decide +kernel, by decide +kernel⟩
  refine cl_mk Fn0 hm Sc0 (fun _ _ _ _ _ _ us hl => match us, hl with | [_], _ => rfl) (fun _ _ _ _ _ _ us hl => match us, hl with | [_], _ => rfl) fun cdv A outer s H E hr hG tk hp => ⟨_, (ss_one (s_if (t_not (t_val (e_callC C_is_binary (by decide) hr nog (by rfl) tk (a_cons (e_var (pv 0)) a_nil)))) (ss_one s_never) ss_nil)), fun c as y Φ Ψ hn hs => ?_⟩
  obtain ⟨f, rfl, h1, h2, h⟩ := hs
  simp only [↓n_asg_if, BQ.n_rt, sSeq, sNext, sRet, sRetF, sRetO, sDrop, sSet, sOwn, sAsg, sPar, sPar3, sAug, sApp, sIf, dIf, dTest, dAnd, dOr, dNot, dAndV, dOrV, d1, d2, d2F, dVar, dOwn, dC, dF, dTup, dLst, dNil, dCons, dCB, dCB1, dCF1, dChain, dChain3, dCall, dCallF, dCallK, aNil, aCons, aDk, dGn, dGnil, dGcons, dGtup, dOdIx, dGsub, dIdxT, dIdxL, dSlT, dSlL, dPart, dNoPart, dIl, dIt, frz, opn, cls, catD, startR, arS, seqOf, n_add, n_addT, n_sub, n_mul, n_fdiv, n_mod, n_pow, n_shl, n_cmp, n_is, n_neg, n_not, n_ixL, n_ixT, n_lenL, n_lenT, n_abs, n_gcd, n_isqrt, n_int, n_tupL, n_tupT, at10, at1n, at20, at21, at2n, at30, at31, at32, at3n, fD, mD, wipeR, dYes, ix32, ix31, n_boolC, sz0, sz1, sz2, sz3, sz4, sz5, sz6, sz7, sz8, n_eqI, n_neI, n_eq3, n_ne3, n_isi_int, n_isi_bool, n_isi_tuple, List.map_cons, List.map_nil, List.length_cons, List.length_nil, List.replicate, List.set_cons_zero, List.set_cons_succ, List.getElem?_cons_zero, List.getElem?_cons_succ, List.filter_cons, List.filter_nil, Ar.isDk, List.all_cons, List.all_nil, no_dt, no_un, no_ow, no_dk, Bool.and_eq_true, Bool.true_and, Bool.and_true, Bool.false_eq_true, if_false, if_true, ite_true, ite_false, Option.some.injEq, exists_eq_left', true_and, and_true, List.cons_append, List.nil_append, Nat.sub_self, decide_eq_true_eq, Nat.reduceAdd, Nat.reduceSub, Nat.zero_add, Nat.le_refl, Nat.zero_le]
  refine ⟨fD f, rfl, fun g e => ?_, ?_⟩
  · have : f = g := by
      have e : PyData.tuple [.int f.a, .int f.b, .int f.c] = .tuple [.int g.a, .int g.b, .int g.c] := e
      simp only [PyData.tuple.injEq, List.cons.injEq, PyData.int.injEq, and_true] at e
      exact F.ext e.1 e.2.1 e.2.2
    rw [← this]; exact h1
  · have : isBin (fD f) = true := decide_eq_true h2
    rw [this]
    simp only [↓n_asg_if, BQ.n_rt, sSeq, sNext, sRet, sRetF, sRetO, sDrop, sSet, sOwn, sAsg, sPar, sPar3, sAug, sApp, sIf, dIf, dTest, dAnd, dOr, dNot, dAndV, dOrV, d1, d2, d2F, dVar, dOwn, dC, dF, dTup, dLst, dNil, dCons, dCB, dCB1, dCF1, dChain, dChain3, dCall, dCallF, dCallK, aNil, aCons, aDk, dGn, dGnil, dGcons, dGtup, dOdIx, dGsub, dIdxT, dIdxL, dSlT, dSlL, dPart, dNoPart, dIl, dIt, frz, opn, cls, catD, startR, arS, seqOf, n_add, n_addT, n_sub, n_mul, n_fdiv, n_mod, n_pow, n_shl, n_cmp, n_is, n_neg, n_not, n_ixL, n_ixT, n_lenL, n_lenT, n_abs, n_gcd, n_isqrt, n_int, n_tupL, n_tupT, at10, at1n, at20, at21, at2n, at30, at31, at32, at3n, fD, mD, wipeR, dYes, ix32, ix31, n_boolC, sz0, sz1, sz2, sz3, sz4, sz5, sz6, sz7, sz8, n_eqI, n_neI, n_eq3, n_ne3, n_isi_int, n_isi_bool, n_isi_tuple, List.map_cons, List.map_nil, List.length_cons, List.length_nil, List.replicate, List.set_cons_zero, List.set_cons_succ, List.getElem?_cons_zero, List.getElem?_cons_succ, List.filter_cons, List.filter_nil, Ar.isDk, List.all_cons, List.all_nil, no_dt, no_un, no_ow, no_dk, Bool.and_eq_true, Bool.true_and, Bool.and_true, Bool.false_eq_true, if_false, if_true, ite_true, ite_false, Option.some.injEq, exists_eq_left', true_and, and_true, List.cons_append, List.nil_append, Nat.sub_self, decide_eq_true_eq, Nat.reduceAdd, Nat.reduceSub, Nat.zero_add, Nat.le_refl, Nat.zero_le]
    exact h
def sd_is_step : Sd := fun c as y Φ Ψ => ∃ m : M, as = [.dt (mD m)] ∧ IntMulOk m.p m.s ∧ IntMulOk m.q m.r ∧ Φ (.bool (decide (m.det = 1))) c
theorem ok_is_step (Mx : Mo K mg) (C_is_integers : Cl false P w K mg base 2 "is_integers" ["value", "many"] sd_is_integers) (C_is_tuple : Cl false P w K mg base 1 "is_tuple" ["value", "low", "high"] sd_is_tuple) : Cl false P w K mg base 3 "is_step" ["value"] sd_is_step := by
  obtain ⟨fd, hm, Fn0⟩ := Mx.fn 32 "is_step" (by decide +kernel)
  have hN : (["value", "row"] : List Str).Nodup := by decide +kernel
  have Sc0 : FnScope ["value", "row"] ["value"] (defScope (top 32)) := ⟨rfl, rfl, rfl, hN, rfl, by decide +kernel, by decide +kernel⟩
  refine cl_mk Fn0 hm Sc0 (fun _ _ _ _ _ _ us hl => match us, hl with | [_], _ => rfl) (fun _ _ _ _ _ _ us hl => match us, hl with | [_], _ => rfl) fun cdv A outer s H E hr hG tk hp => ⟨_, (ss_cons (s_if (w_or (t_not (t_val (e_callC C_is_tuple (by decide) hr nog (by rfl) tk (a_cons (e_var (pv 0)) (a_cons e_int (a_cons e_int a_nil)))))) (w_or1 (t_not (t_val (e_callB1 (c_all rfl) (by rfl) (Mx.fr "all" (by decide +kernel)) b_all (f_comp (own := [("row", 1)]) rfl hN (i_tup (e_var (pv 0))) (blkOk_by rfl) (by decide) (fun s' H' C' cl' fp' => (c_name (i := 1) hN (by rfl) (by first | exact .inl rfl | exact .inr rfl) (by first | exact .inl rfl | exact .inr rfl))) (fun s' H' C' cl' fp' => if_nil) (fun s' H' C' cl' fp' => (e_callC C_is_integers (by decide) hr nog (by rfl) takes0 (a_cons (e_var (pv 1)) (a_cons e_int a_nil))))).e.r))))).t (ss_one (s_ret e_bl)) ss_nil)
    (ss_one (s_ret (e_cmp (o_eqP (hu4 hr)) (e_bin o_sub (e_bin o_mul (e_ix (e_ix (r_own (pv 0)) e_int).r e_int).r (e_ix (e_ix (r_own (pv 0)) e_int).r e_int).r).r (e_bin o_mul (e_ix (e_ix (r_own (pv 0)) e_int).r e_int).r (e_ix (e_ix (r_own (pv 0)) e_int).r e_int).r).r).r e_int.r rfl)))), fun c as y Φ Ψ hn hs => ?_⟩
  obtain ⟨m, rfl, h1, h2, h⟩ := hs
  simp only [↓n_asg_if, BQ.n_rt, sSeq, sNext, sRet, sRetF, sRetO, sDrop, sSet, sOwn, sAsg, sPar, sPar3, sAug, sApp, sIf, dIf, dTest, dAnd, dOr, dNot, dAndV, dOrV, d1, d2, d2F, dVar, dOwn, dC, dF, dTup, dLst, dNil, dCons, dCB, dCB1, dCF1, dChain, dChain3, dCall, dCallF, dCallK, aNil, aCons, aDk, dGn, dGnil, dGcons, dGtup, dOdIx, dGsub, dIdxT, dIdxL, dSlT, dSlL, dPart, dNoPart, dIl, dIt, frz, opn, cls, catD, startR, arS, seqOf, n_add, n_addT, n_sub, n_mul, n_fdiv, n_mod, n_pow, n_shl, n_cmp, n_is, n_neg, n_not, n_ixL, n_ixT, n_lenL, n_lenT, n_abs, n_gcd, n_isqrt, n_int, n_tupL, n_tupT, at10, at1n, at20, at21, at2n, at30, at31, at32, at3n, fD, mD, wipeR, dYes, ix32, ix31, n_boolC, sz0, sz1, sz2, sz3, sz4, sz5, sz6, sz7, sz8, n_eqI, n_neI, n_eq3, n_ne3, n_isi_int, n_isi_bool, n_isi_tuple, List.map_cons, List.map_nil, List.length_cons, List.length_nil, List.replicate, List.set_cons_zero, List.set_cons_succ, List.getElem?_cons_zero, List.getElem?_cons_succ, List.filter_cons, List.filter_nil, Ar.isDk, List.all_cons, List.all_nil, no_dt, no_un, no_ow, no_dk, Bool.and_eq_true, Bool.true_and, Bool.and_true, Bool.false_eq_true, if_false, if_true, ite_true, ite_false, Option.some.injEq, exists_eq_left', true_and, and_true, List.cons_append, List.nil_append, Nat.sub_self, decide_eq_true_eq, Nat.reduceAdd, Nat.reduceSub, Nat.zero_add, Nat.le_refl, Nat.zero_le]
  refine ⟨_, 2, 2, rfl, ?_⟩
  have e : isTup 2 2 (.tuple [.tuple [.int m.p, .int m.q], .tuple [.int m.r, .int m.s]]) = true := rfl
  rw [e]
  simp only [↓n_asg_if, BQ.n_rt, sSeq, sNext, sRet, sRetF, sRetO, sDrop, sSet, sOwn, sAsg, sPar, sPar3, sAug, sApp, sIf, dIf, dTest, dAnd, dOr, dNot, dAndV, dOrV, d1, d2, d2F, dVar, dOwn, dC, dF, dTup, dLst, dNil, dCons, dCB, dCB1, dCF1, dChain, dChain3, dCall, dCallF, dCallK, aNil, aCons, aDk, dGn, dGnil, dGcons, dGtup, dOdIx, dGsub, dIdxT, dIdxL, dSlT, dSlL, dPart, dNoPart, dIl, dIt, frz, opn, cls, catD, startR, arS, seqOf, n_add, n_addT, n_sub, n_mul, n_fdiv, n_mod, n_pow, n_shl, n_cmp, n_is, n_neg, n_not, n_ixL, n_ixT, n_lenL, n_lenT, n_abs, n_gcd, n_isqrt, n_int, n_tupL, n_tupT, at10, at1n, at20, at21, at2n, at30, at31, at32, at3n, fD, mD, wipeR, dYes, ix32, ix31, n_boolC, sz0, sz1, sz2, sz3, sz4, sz5, sz6, sz7, sz8, n_eqI, n_neI, n_eq3, n_ne3, n_isi_int, n_isi_bool, n_isi_tuple, List.map_cons, List.map_nil, List.length_cons, List.length_nil, List.replicate, List.set_cons_zero, List.set_cons_succ, List.getElem?_cons_zero, List.getElem?_cons_succ, List.filter_cons, List.filter_nil, Ar.isDk, List.all_cons, List.all_nil, no_dt, no_un, no_ow, no_dk, Bool.and_eq_true, Bool.true_and, Bool.and_true, Bool.false_eq_true, if_false, if_true, ite_true, ite_false, Option.some.injEq, exists_eq_left', true_and, and_true, List.cons_append, List.nil_append, Nat.sub_self, decide_eq_true_eq, Nat.reduceAdd, Nat.reduceSub, Nat.zero_add, Nat.le_refl, Nat.zero_le]
  rw [if_neg (by decide)]
  refine ⟨rfl, ?_⟩
  simp only [↓n_asg_if, BQ.n_rt, sSeq, sNext, sRet, sRetF, sRetO, sDrop, sSet, sOwn, sAsg, sPar, sPar3, sAug, sApp, sIf, dIf, dTest, dAnd, dOr, dNot, dAndV, dOrV, d1, d2, d2F, dVar, dOwn, dC, dF, dTup, dLst, dNil, dCons, dCB, dCB1, dCF1, dChain, dChain3, dCall, dCallF, dCallK, aNil, aCons, aDk, dGn, dGnil, dGcons, dGtup, dOdIx, dGsub, dIdxT, dIdxL, dSlT, dSlL, dPart, dNoPart, dIl, dIt, frz, opn, cls, catD, startR, arS, seqOf, n_add, n_addT, n_sub, n_mul, n_fdiv, n_mod, n_pow, n_shl, n_cmp, n_is, n_neg, n_not, n_ixL, n_ixT, n_lenL, n_lenT, n_abs, n_gcd, n_isqrt, n_int, n_tupL, n_tupT, at10, at1n, at20, at21, at2n, at30, at31, at32, at3n, fD, mD, wipeR, dYes, ix32, ix31, n_boolC, sz0, sz1, sz2, sz3, sz4, sz5, sz6, sz7, sz8, n_eqI, n_neI, n_eq3, n_ne3, n_isi_int, n_isi_bool, n_isi_tuple, List.map_cons, List.map_nil, List.length_cons, List.length_nil, List.replicate, List.set_cons_zero, List.set_cons_succ, List.getElem?_cons_zero, List.getElem?_cons_succ, List.filter_cons, List.filter_nil, Ar.isDk, List.all_cons, List.all_nil, no_dt, no_un, no_ow, no_dk, Bool.and_eq_true, Bool.true_and, Bool.and_true, Bool.false_eq_true, if_false, if_true, ite_true, ite_false, Option.some.injEq, exists_eq_left', true_and, and_true, List.cons_append, List.nil_append, Nat.sub_self, decide_eq_true_eq, Nat.reduceAdd, Nat.reduceSub, Nat.zero_add, Nat.le_refl, Nat.zero_le]
  refine compW_pure (fun d => some (.bool (isInts 2 d))) _ _ (fun d hd K1 K2 hk => ?_) (by show 2 ≤ sizeLine; decide) ?_
  · simp only [↓n_asg_if, BQ.n_rt, sSeq, sNext, sRet, sRetF, sRetO, sDrop, sSet, sOwn, sAsg, sPar, sPar3, sAug, sApp, sIf, dIf, dTest, dAnd, dOr, dNot, dAndV, dOrV, d1, d2, d2F, dVar, dOwn, dC, dF, dTup, dLst, dNil, dCons, dCB, dCB1, dCF1, dChain, dChain3, dCall, dCallF, dCallK, aNil, aCons, aDk, dGn, dGnil, dGcons, dGtup, dOdIx, dGsub, dIdxT, dIdxL, dSlT, dSlL, dPart, dNoPart, dIl, dIt, frz, opn, cls, catD, startR, arS, seqOf, n_add, n_addT, n_sub, n_mul, n_fdiv, n_mod, n_pow, n_shl, n_cmp, n_is, n_neg, n_not, n_ixL, n_ixT, n_lenL, n_lenT, n_abs, n_gcd, n_isqrt, n_int, n_tupL, n_tupT, at10, at1n, at20, at21, at2n, at30, at31, at32, at3n, fD, mD, wipeR, dYes, ix32, ix31, n_boolC, sz0, sz1, sz2, sz3, sz4, sz5, sz6, sz7, sz8, n_eqI, n_neI, n_eq3, n_ne3, n_isi_int, n_isi_bool, n_isi_tuple, List.map_cons, List.map_nil, List.length_cons, List.length_nil, List.replicate, List.set_cons_zero, List.set_cons_succ, List.getElem?_cons_zero, List.getElem?_cons_succ, List.filter_cons, List.filter_nil, Ar.isDk, List.all_cons, List.all_nil, no_dt, no_un, no_ow, no_dk, Bool.and_eq_true, Bool.true_and, Bool.and_true, Bool.false_eq_true, if_false, if_true, ite_true, ite_false, Option.some.injEq, exists_eq_left', true_and, and_true, List.cons_append, List.nil_append, Nat.sub_self, decide_eq_true_eq, Nat.reduceAdd, Nat.reduceSub, Nat.zero_add, Nat.le_refl, Nat.zero_le]
    exact ⟨d, 2, rfl, by decide, hk⟩
  · refine ⟨[true, true], rfl, ?_⟩
    simp only [↓n_asg_if, BQ.n_rt, sSeq, sNext, sRet, sRetF, sRetO, sDrop, sSet, sOwn, sAsg, sPar, sPar3, sAug, sApp, sIf, dIf, dTest, dAnd, dOr, dNot, dAndV, dOrV, d1, d2, d2F, dVar, dOwn, dC, dF, dTup, dLst, dNil, dCons, dCB, dCB1, dCF1, dChain, dChain3, dCall, dCallF, dCallK, aNil, aCons, aDk, dGn, dGnil, dGcons, dGtup, dOdIx, dGsub, dIdxT, dIdxL, dSlT, dSlL, dPart, dNoPart, dIl, dIt, frz, opn, cls, catD, startR, arS, seqOf, n_add, n_addT, n_sub, n_mul, n_fdiv, n_mod, n_pow, n_shl, n_cmp, n_is, n_neg, n_not, n_ixL, n_ixT, n_lenL, n_lenT, n_abs, n_gcd, n_isqrt, n_int, n_tupL, n_tupT, at10, at1n, at20, at21, at2n, at30, at31, at32, at3n, fD, mD, wipeR, dYes, ix32, ix31, n_boolC, sz0, sz1, sz2, sz3, sz4, sz5, sz6, sz7, sz8, n_eqI, n_neI, n_eq3, n_ne3, n_isi_int, n_isi_bool, n_isi_tuple, List.map_cons, List.map_nil, List.length_cons, List.length_nil, List.replicate, List.set_cons_zero, List.set_cons_succ, List.getElem?_cons_zero, List.getElem?_cons_succ, List.filter_cons, List.filter_nil, Ar.isDk, List.all_cons, List.all_nil, no_dt, no_un, no_ow, no_dk, Bool.and_eq_true, Bool.true_and, Bool.and_true, Bool.false_eq_true, if_false, if_true, ite_true, ite_false, Option.some.injEq, exists_eq_left', true_and, and_true, List.cons_append, List.nil_append, Nat.sub_self, decide_eq_true_eq, Nat.reduceAdd, Nat.reduceSub, Nat.zero_add, Nat.le_refl, Nat.zero_le]
    rw [if_neg (by decide)]
    exact ⟨h1, h2, h⟩
def sd_discriminant : Sd := fun c as y Φ Ψ => ∃ f : F, as = [.dt (fD f)] ∧ DiscOk f ∧ f.disc ≠ 0 ∧ Φ (.int f.disc) c
theorem ok_discriminant (Mx : Mo K mg) (C_need_binary : Cl false P w K mg base 4 "need_binary" ["binary"] sd_need_binary) (C_discriminant_of : Cl false P w K mg base 1 "discriminant_of" ["f"] sd_discriminant_of) : Cl false P w K mg base 5 "discriminant" ["binary"] sd_discriminant := by
  obtain ⟨fd, hm, Fn0⟩ := Mx.fn 33 "discriminant" (by decide +kernel)
  have hN : (["binary"] : List Str).Nodup := by decide +kernel
  have Sc0 : FnScope ["binary"] ["binary"] (defScope (top 33)) := ⟨rfl, rfl, rfl, hN, rfl, by decide +kernel, by decide +kernel⟩
  refine cl_mk Fn0 hm Sc0 (fun _ _ _ _ _ _ us hl => match us, hl with | [_], _ => rfl) (fun _ _ _ _ _ _ us hl => match us, hl with | [_], _ => rfl) fun cdv A outer s H E hr hG tk hp => ⟨_, (ss_cons (s_expr (e_callC C_need_binary (by decide) hr nog (by rfl) tk (a_cons (e_var (pv 0)) a_nil)))
    (ss_one (s_ret (e_callC C_discriminant_of (by decide) hr nog (by rfl) tk (a_cons (e_var (pv 0)) a_nil))))), fun c as y Φ Ψ hn hs => ?_⟩
  obtain ⟨f, rfl, h1, h2, h⟩ := hs
  simp only [↓n_asg_if, BQ.n_rt, sSeq, sNext, sRet, sRetF, sRetO, sDrop, sSet, sOwn, sAsg, sPar, sPar3, sAug, sApp, sIf, dIf, dTest, dAnd, dOr, dNot, dAndV, dOrV, d1, d2, d2F, dVar, dOwn, dC, dF, dTup, dLst, dNil, dCons, dCB, dCB1, dCF1, dChain, dChain3, dCall, dCallF, dCallK, aNil, aCons, aDk, dGn, dGnil, dGcons, dGtup, dOdIx, dGsub, dIdxT, dIdxL, dSlT, dSlL, dPart, dNoPart, dIl, dIt, frz, opn, cls, catD, startR, arS, seqOf, n_add, n_addT, n_sub, n_mul, n_fdiv, n_mod, n_pow, n_shl, n_cmp, n_is, n_neg, n_not, n_ixL, n_ixT, n_lenL, n_lenT, n_abs, n_gcd, n_isqrt, n_int, n_tupL, n_tupT, at10, at1n, at20, at21, at2n, at30, at31, at32, at3n, fD, mD, wipeR, dYes, ix32, ix31, n_boolC, sz0, sz1, sz2, sz3, sz4, sz5, sz6, sz7, sz8, n_eqI, n_neI, n_eq3, n_ne3, n_isi_int, n_isi_bool, n_isi_tuple, List.map_cons, List.map_nil, List.length_cons, List.length_nil, List.replicate, List.set_cons_zero, List.set_cons_succ, List.getElem?_cons_zero, List.getElem?_cons_succ, List.filter_cons, List.filter_nil, Ar.isDk, List.all_cons, List.all_nil, no_dt, no_un, no_ow, no_dk, Bool.and_eq_true, Bool.true_and, Bool.and_true, Bool.false_eq_true, if_false, if_true, ite_true, ite_false, Option.some.injEq, exists_eq_left', true_and, and_true, List.cons_append, List.nil_append, Nat.sub_self, decide_eq_true_eq, Nat.reduceAdd, Nat.reduceSub, Nat.zero_add, Nat.le_refl, Nat.zero_le]
  exact ⟨f, rfl, h1, h2, f, rfl, h1.1, h1.2, h⟩
def sd_is_primitive : Sd := fun c as y Φ Ψ => ∃ f : F, as = [.dt (fD f)] ∧ DiscOk f ∧ f.disc ≠ 0 ∧ Φ (.bool (decide ((Int.gcd (Int.gcd f.a f.b) f.c : Int) = 1))) c
theorem ok_is_primitive (Mx : Mo K mg) (C_need_binary : Cl false P w K mg base 4 "need_binary" ["binary"] sd_need_binary) (C_divisor_of : Cl false P w K mg base 1 "divisor_of" ["f"] sd_divisor_of) : Cl false P w K mg base 5 "is_primitive" ["binary"] sd_is_primitive := by
  obtain ⟨fd, hm, Fn0⟩ := Mx.fn 34 "is_primitive" (by decide +kernel)
  have hN : (["binary"] : List Str).Nodup := by decide +kernel
  have Sc0 : FnScope ["binary"] ["binary"] (defScope (top 34)) := ⟨rfl, rfl, rfl, hN, rfl, by decide +kernel, by decide +kernel⟩
  refine cl_mk Fn0 hm Sc0 (fun _ _ _ _ _ _ us hl => match us, hl with | [_], _ => rfl) (fun _ _ _ _ _ _ us hl => match us, hl with | [_], _ => rfl) fun cdv A outer s H E hr hG tk hp => ⟨_, (ss_cons (s_expr (e_callC C_need_binary (by decide) hr nog (by rfl) tk (a_cons (e_var (pv 0)) a_nil)))
    (ss_one (s_ret (e_cmp (o_eqP (hu4 hr)) (e_callC C_divisor_of (by decide) hr nog (by rfl) tk (a_cons (e_var (pv 0)) a_nil)).r e_int.r rfl)))), fun c as y Φ Ψ hn hs => ?_⟩
  obtain ⟨f, rfl, h1, h2, h⟩ := hs
  simp only [↓n_asg_if, BQ.n_rt, sSeq, sNext, sRet, sRetF, sRetO, sDrop, sSet, sOwn, sAsg, sPar, sPar3, sAug, sApp, sIf, dIf, dTest, dAnd, dOr, dNot, dAndV, dOrV, d1, d2, d2F, dVar, dOwn, dC, dF, dTup, dLst, dNil, dCons, dCB, dCB1, dCF1, dChain, dChain3, dCall, dCallF, dCallK, aNil, aCons, aDk, dGn, dGnil, dGcons, dGtup, dOdIx, dGsub, dIdxT, dIdxL, dSlT, dSlL, dPart, dNoPart, dIl, dIt, frz, opn, cls, catD, startR, arS, seqOf, n_add, n_addT, n_sub, n_mul, n_fdiv, n_mod, n_pow, n_shl, n_cmp, n_is, n_neg, n_not, n_ixL, n_ixT, n_lenL, n_lenT, n_abs, n_gcd, n_isqrt, n_int, n_tupL, n_tupT, at10, at1n, at20, at21, at2n, at30, at31, at32, at3n, fD, mD, wipeR, dYes, ix32, ix31, n_boolC, sz0, sz1, sz2, sz3, sz4, sz5, sz6, sz7, sz8, n_eqI, n_neI, n_eq3, n_ne3, n_isi_int, n_isi_bool, n_isi_tuple, List.map_cons, List.map_nil, List.length_cons, List.length_nil, List.replicate, List.set_cons_zero, List.set_cons_succ, List.getElem?_cons_zero, List.getElem?_cons_succ, List.filter_cons, List.filter_nil, Ar.isDk, List.all_cons, List.all_nil, no_dt, no_un, no_ow, no_dk, Bool.and_eq_true, Bool.true_and, Bool.and_true, Bool.false_eq_true, if_false, if_true, ite_true, ite_false, Option.some.injEq, exists_eq_left', true_and, and_true, List.cons_append, List.nil_append, Nat.sub_self, decide_eq_true_eq, Nat.reduceAdd, Nat.reduceSub, Nat.zero_add, Nat.le_refl, Nat.zero_le]
  refine ⟨f, rfl, h1, h2, f, rfl, ?_⟩
  simp only [↓n_asg_if, BQ.n_rt, sSeq, sNext, sRet, sRetF, sRetO, sDrop, sSet, sOwn, sAsg, sPar, sPar3, sAug, sApp, sIf, dIf, dTest, dAnd, dOr, dNot, dAndV, dOrV, d1, d2, d2F, dVar, dOwn, dC, dF, dTup, dLst, dNil, dCons, dCB, dCB1, dCF1, dChain, dChain3, dCall, dCallF, dCallK, aNil, aCons, aDk, dGn, dGnil, dGcons, dGtup, dOdIx, dGsub, dIdxT, dIdxL, dSlT, dSlL, dPart, dNoPart, dIl, dIt, frz, opn, cls, catD, startR, arS, seqOf, n_add, n_addT, n_sub, n_mul, n_fdiv, n_mod, n_pow, n_shl, n_cmp, n_is, n_neg, n_not, n_ixL, n_ixT, n_lenL, n_lenT, n_abs, n_gcd, n_isqrt, n_int, n_tupL, n_tupT, at10, at1n, at20, at21, at2n, at30, at31, at32, at3n, fD, mD, wipeR, dYes, ix32, ix31, n_boolC, sz0, sz1, sz2, sz3, sz4, sz5, sz6, sz7, sz8, n_eqI, n_neI, n_eq3, n_ne3, n_isi_int, n_isi_bool, n_isi_tuple, List.map_cons, List.map_nil, List.length_cons, List.length_nil, List.replicate, List.set_cons_zero, List.set_cons_succ, List.getElem?_cons_zero, List.getElem?_cons_succ, List.filter_cons, List.filter_nil, Ar.isDk, List.all_cons, List.all_nil, no_dt, no_un, no_ow, no_dk, Bool.and_eq_true, Bool.true_and, Bool.and_true, Bool.false_eq_true, if_false, if_true, ite_true, ite_false, Option.some.injEq, exists_eq_left', true_and, and_true, List.cons_append, List.nil_append, Nat.sub_self, decide_eq_true_eq, Nat.reduceAdd, Nat.reduceSub, Nat.zero_add, Nat.le_refl, Nat.zero_le]
  exact h
def sd_stepped : Sd := fun c as y Φ Ψ => ∃ (f : F) (m : M), as = [.dt (fD f), .dt (mD m)] ∧ DiscOk f ∧ f.disc ≠ 0 ∧ IntMulOk m.p m.s ∧ IntMulOk m.q m.r ∧ m.det = 1 ∧ ByOk f m ∧ Φ (fD (f.by m)) c
theorem ok_stepped (Mx : Mo K mg) (C_need_binary : Cl false P w K mg base 4 "need_binary" ["binary"] sd_need_binary) (C_is_step : Cl false P w K mg base 3 "is_step" ["value"] sd_is_step) (C_taken_by : Cl false P w K mg base 2 "taken_by" ["f", "step"] sd_taken_by) : Cl false P w K mg base 5 "stepped" ["binary", "step"] sd_stepped := by
  obtain ⟨fd, hm, Fn0⟩ := Mx.fn 35 "stepped" (by decide +kernel)
  have hN : (["binary", "step"] : List Str).Nodup := by decide +kernel
  have Sc0 : FnScope ["binary", "step"] ["binary", "step"] (defScope (top 35)) := ⟨rfl, rfl, rfl, hN, rfl, by decide +kernel, by decide +kernel⟩
  refine cl_mk Fn0 hm Sc0 (fun _ _ _ _ _ _ us hl => match us, hl with | [_, _], _ => rfl) (fun _ _ _ _ _ _ us hl => match us, hl with | [_, _], _ => rfl) fun cdv A outer s H E hr hG tk hp => ⟨_, (ss_cons (s_expr (e_callC C_need_binary (by decide) hr nog (by rfl) tk (a_cons (e_var (pv 0)) a_nil)))
    (ss_cons (s_if (t_not (t_val (e_callC C_is_step (by decide) hr nog (by rfl) tk (a_cons (e_var (pv 1)) a_nil)))) (ss_one s_never) ss_nil)
    (ss_one (s_ret (e_callC C_taken_by (by decide) hr nog (by rfl) tk (a_cons (e_var (pv 0)) (a_cons (e_var (pv 1)) a_nil))))))), fun c as y Φ Ψ hn hs => ?_⟩
  obtain ⟨f, m, rfl, h1, h2, h3, h4, h5, h6, h⟩ := hs
  simp only [↓n_asg_if, BQ.n_rt, sSeq, sNext, sRet, sRetF, sRetO, sDrop, sSet, sOwn, sAsg, sPar, sPar3, sAug, sApp, sIf, dIf, dTest, dAnd, dOr, dNot, dAndV, dOrV, d1, d2, d2F, dVar, dOwn, dC, dF, dTup, dLst, dNil, dCons, dCB, dCB1, dCF1, dChain, dChain3, dCall, dCallF, dCallK, aNil, aCons, aDk, dGn, dGnil, dGcons, dGtup, dOdIx, dGsub, dIdxT, dIdxL, dSlT, dSlL, dPart, dNoPart, dIl, dIt, frz, opn, cls, catD, startR, arS, seqOf, n_add, n_addT, n_sub, n_mul, n_fdiv, n_mod, n_pow, n_shl, n_cmp, n_is, n_neg, n_not, n_ixL, n_ixT, n_lenL, n_lenT, n_abs, n_gcd, n_isqrt, n_int, n_tupL, n_tupT, at10, at1n, at20, at21, at2n, at30, at31, at32, at3n, fD, mD, wipeR, dYes, ix32, ix31, n_boolC, sz0, sz1, sz2, sz3, sz4, sz5, sz6, sz7, sz8, n_eqI, n_neI, n_eq3, n_ne3, n_isi_int, n_isi_bool, n_isi_tuple, List.map_cons, List.map_nil, List.length_cons, List.length_nil, List.replicate, List.set_cons_zero, List.set_cons_succ, List.getElem?_cons_zero, List.getElem?_cons_succ, List.filter_cons, List.filter_nil, Ar.isDk, List.all_cons, List.all_nil, no_dt, no_un, no_ow, no_dk, Bool.and_eq_true, Bool.true_and, Bool.and_true, Bool.false_eq_true, if_false, if_true, ite_true, ite_false, Option.some.injEq, exists_eq_left', true_and, and_true, List.cons_append, List.nil_append, Nat.sub_self, decide_eq_true_eq, Nat.reduceAdd, Nat.reduceSub, Nat.zero_add, Nat.le_refl, Nat.zero_le]
  refine ⟨f, rfl, h1, h2, m, rfl, h3, h4, ?_⟩
  simp only [↓n_asg_if, BQ.n_rt, sSeq, sNext, sRet, sRetF, sRetO, sDrop, sSet, sOwn, sAsg, sPar, sPar3, sAug, sApp, sIf, dIf, dTest, dAnd, dOr, dNot, dAndV, dOrV, d1, d2, d2F, dVar, dOwn, dC, dF, dTup, dLst, dNil, dCons, dCB, dCB1, dCF1, dChain, dChain3, dCall, dCallF, dCallK, aNil, aCons, aDk, dGn, dGnil, dGcons, dGtup, dOdIx, dGsub, dIdxT, dIdxL, dSlT, dSlL, dPart, dNoPart, dIl, dIt, frz, opn, cls, catD, startR, arS, seqOf, n_add, n_addT, n_sub, n_mul, n_fdiv, n_mod, n_pow, n_shl, n_cmp, n_is, n_neg, n_not, n_ixL, n_ixT, n_lenL, n_lenT, n_abs, n_gcd, n_isqrt, n_int, n_tupL, n_tupT, at10, at1n, at20, at21, at2n, at30, at31, at32, at3n, fD, mD, wipeR, dYes, ix32, ix31, n_boolC, sz0, sz1, sz2, sz3, sz4, sz5, sz6, sz7, sz8, n_eqI, n_neI, n_eq3, n_ne3, n_isi_int, n_isi_bool, n_isi_tuple, List.map_cons, List.map_nil, List.length_cons, List.length_nil, List.replicate, List.set_cons_zero, List.set_cons_succ, List.getElem?_cons_zero, List.getElem?_cons_succ, List.filter_cons, List.filter_nil, Ar.isDk, List.all_cons, List.all_nil, no_dt, no_un, no_ow, no_dk, Bool.and_eq_true, Bool.true_and, Bool.and_true, Bool.false_eq_true, if_false, if_true, ite_true, ite_false, Option.some.injEq, exists_eq_left', true_and, and_true, List.cons_append, List.nil_append, Nat.sub_self, decide_eq_true_eq, Nat.reduceAdd, Nat.reduceSub, Nat.zero_add, Nat.le_refl, Nat.zero_le]
  rw [if_neg (by simp [h5])]
  exact ⟨f, m, rfl, h6, h⟩
def sd_is_reduced : Sd := fun c as y Φ Ψ => ∃ f : F, as = [.dt (fD f)] ∧ DiscOk f ∧ f.disc ≠ 0 ∧ f.disc < 2 ^ 60 ∧ Φ (.bool (isRedP f)) c
theorem ok_is_reduced (Mx : Mo K mg) (C_need_binary : Cl false P w K mg base 4 "need_binary" ["binary"] sd_need_binary) (C_is_reduced_form : Cl false P w K mg base 3 "is_reduced_form" ["f"] sd_is_reduced_form) : Cl false P w K mg base 5 "is_reduced" ["binary"] sd_is_reduced := by
  obtain ⟨fd, hm, Fn0⟩ := Mx.fn 36 "is_reduced" (by decide +kernel)
  have hN : (["binary"] : List Str).Nodup := by decide +kernel
  have Sc0 : FnScope ["binary"] ["binary"] (defScope (top 36)) := ⟨rfl, rfl, rfl, hN, rfl, by decide +kernel, by decide +kernel⟩
  refine cl_mk Fn0 hm Sc0 (fun _ _ _ _ _ _ us hl => match us, hl with | [_], _ => rfl) (fun _ _ _ _ _ _ us hl => match us, hl with | [_], _ => rfl) fun cdv A outer s H E hr hG tk hp => ⟨_, (ss_cons (s_expr (e_callC C_need_binary (by decide) hr nog (by rfl) tk (a_cons (e_var (pv 0)) a_nil)))
    (ss_one (s_ret (e_callC C_is_reduced_form (by decide) hr nog (by rfl) tk (a_cons (e_var (pv 0)) a_nil))))), fun c as y Φ Ψ hn hs => ?_⟩
  obtain ⟨f, rfl, h1, h2, h3, h⟩ := hs
  simp only [↓n_asg_if, BQ.n_rt, sSeq, sNext, sRet, sRetF, sRetO, sDrop, sSet, sOwn, sAsg, sPar, sPar3, sAug, sApp, sIf, dIf, dTest, dAnd, dOr, dNot, dAndV, dOrV, d1, d2, d2F, dVar, dOwn, dC, dF, dTup, dLst, dNil, dCons, dCB, dCB1, dCF1, dChain, dChain3, dCall, dCallF, dCallK, aNil, aCons, aDk, dGn, dGnil, dGcons, dGtup, dOdIx, dGsub, dIdxT, dIdxL, dSlT, dSlL, dPart, dNoPart, dIl, dIt, frz, opn, cls, catD, startR, arS, seqOf, n_add, n_addT, n_sub, n_mul, n_fdiv, n_mod, n_pow, n_shl, n_cmp, n_is, n_neg, n_not, n_ixL, n_ixT, n_lenL, n_lenT, n_abs, n_gcd, n_isqrt, n_int, n_tupL, n_tupT, at10, at1n, at20, at21, at2n, at30, at31, at32, at3n, fD, mD, wipeR, dYes, ix32, ix31, n_boolC, sz0, sz1, sz2, sz3, sz4, sz5, sz6, sz7, sz8, n_eqI, n_neI, n_eq3, n_ne3, n_isi_int, n_isi_bool, n_isi_tuple, List.map_cons, List.map_nil, List.length_cons, List.length_nil, List.replicate, List.set_cons_zero, List.set_cons_succ, List.getElem?_cons_zero, List.getElem?_cons_succ, List.filter_cons, List.filter_nil, Ar.isDk, List.all_cons, List.all_nil, no_dt, no_un, no_ow, no_dk, Bool.and_eq_true, Bool.true_and, Bool.and_true, Bool.false_eq_true, if_false, if_true, ite_true, ite_false, Option.some.injEq, exists_eq_left', true_and, and_true, List.cons_append, List.nil_append, Nat.sub_self, decide_eq_true_eq, Nat.reduceAdd, Nat.reduceSub, Nat.zero_add, Nat.le_refl, Nat.zero_le]
  exact ⟨f, rfl, h1, h2, f, rfl, h1, h3, h⟩
def sd_cycle : Sd := fun c as y Φ Ψ => ∃ f : F, as = [.dt (fD f)] ∧ Fo f ∧ ∀ L, Cy f L → Φ (.tuple (L.map fD)) c
theorem ok_cycle (Mx : Mo K mg) (C_need_binary : Cl false P w K mg base 4 "need_binary" ["binary"] sd_need_binary) (C_ring_of : Cl false P w K mg base 3 "ring_of" ["f"] sd_ring_of) (C_to_reduced : Cl false P w K mg base 5 "to_reduced" ["f"] sd_to_reduced) : Cl false P w K mg base 6 "cycle" ["binary"] sd_cycle := by
  obtain ⟨fd, hm, Fn0⟩ := Mx.fn 37 "cycle" (by decide +kernel)
  have hN : (["binary", "ring", "place"] : List Str).Nodup := by decide +kernel
  have Sc0 : FnScope ["binary", "ring", "place"] ["binary"] (defScope (top 37)) := ⟨rfl, rfl, rfl, hN, rfl, by decide +kernel, by decide +kernel⟩
  refine cl_mk Fn0 hm Sc0 (fun _ _ _ _ _ _ us hl => match us, hl with | [_], _ => rfl) (fun _ _ _ _ _ _ us hl => match us, hl with | [_], _ => rfl) fun cdv A outer s H E hr hG tk hp => ⟨_, (ss_cons (s_expr (e_callC C_need_binary (by decide) hr nog (by rfl) tk (a_cons (e_var (pv 0)) a_nil)))
    (ss_cons (s_set (i := 1) hN (by rfl) (by first | exact .inl rfl | exact .inr rfl) (e_callC C_ring_of (by decide) hr nog (by rfl) tk (a_cons (e_ix (e_callC C_to_reduced (by decide) hr nog (by rfl) tk (a_cons (e_var (pv 0)) a_nil)).r e_int) a_nil)))
    (ss_cons (s_set (i := 2) hN (by rfl) (by first | exact .inl rfl | exact .inr rfl) (e_tidx (hu6 hr) (e_var (pv 1)) (e_callB1 (c_min rfl (hu6 hr)) (by rfl) (Mx.fr "min" (by decide +kernel)) b_min (r_own (pv 1))).r))
    (ss_one (s_ret (e_bin o_add (e_slT (e_var (pv 1)) (p_some (e_var (pv 2))) p_none).r (e_slT (e_var (pv 1)) p_none (p_some (e_var (pv 2)))).r)))))), fun c as y Φ Ψ hn hs => ?_⟩
  obtain ⟨f, rfl, h1, h⟩ := hs
  simp only [↓n_asg_if, BQ.n_rt, sSeq, sNext, sRet, sRetF, sRetO, sDrop, sSet, sOwn, sAsg, sPar, sPar3, sAug, sApp, sIf, dIf, dTest, dAnd, dOr, dNot, dAndV, dOrV, d1, d2, d2F, dVar, dOwn, dC, dF, dTup, dLst, dNil, dCons, dCB, dCB1, dCF1, dChain, dChain3, dCall, dCallF, dCallK, aNil, aCons, aDk, dGn, dGnil, dGcons, dGtup, dOdIx, dGsub, dIdxT, dIdxL, dSlT, dSlL, dPart, dNoPart, dIl, dIt, frz, opn, cls, catD, startR, arS, seqOf, n_add, n_addT, n_sub, n_mul, n_fdiv, n_mod, n_pow, n_shl, n_cmp, n_is, n_neg, n_not, n_ixL, n_ixT, n_lenL, n_lenT, n_abs, n_gcd, n_isqrt, n_int, n_tupL, n_tupT, at10, at1n, at20, at21, at2n, at30, at31, at32, at3n, fD, mD, wipeR, dYes, ix32, ix31, n_boolC, sz0, sz1, sz2, sz3, sz4, sz5, sz6, sz7, sz8, n_eqI, n_neI, n_eq3, n_ne3, n_isi_int, n_isi_bool, n_isi_tuple, List.map_cons, List.map_nil, List.length_cons, List.length_nil, List.replicate, List.set_cons_zero, List.set_cons_succ, List.getElem?_cons_zero, List.getElem?_cons_succ, List.filter_cons, List.filter_nil, Ar.isDk, List.all_cons, List.all_nil, no_dt, no_un, no_ow, no_dk, Bool.and_eq_true, Bool.true_and, Bool.and_true, Bool.false_eq_true, if_false, if_true, ite_true, ite_false, Option.some.injEq, exists_eq_left', true_and, and_true, List.cons_append, List.nil_append, Nat.sub_self, decide_eq_true_eq, Nat.reduceAdd, Nat.reduceSub, Nat.zero_add, Nat.le_refl, Nat.zero_le]
  refine ⟨f, rfl, h1.dk, h1.n0, f, rfl, h1, fun R m t1 t2 t3 t4 => ?_⟩
  have ed : R.disc = f.disc := by rw [← t2, disc_by1 t3]
  obtain ⟨rok, _⟩ := t1.rg h1.n0 h1.le h1.ge ed
  simp only [↓n_asg_if, BQ.n_rt, sSeq, sNext, sRet, sRetF, sRetO, sDrop, sSet, sOwn, sAsg, sPar, sPar3, sAug, sApp, sIf, dIf, dTest, dAnd, dOr, dNot, dAndV, dOrV, d1, d2, d2F, dVar, dOwn, dC, dF, dTup, dLst, dNil, dCons, dCB, dCB1, dCF1, dChain, dChain3, dCall, dCallF, dCallK, aNil, aCons, aDk, dGn, dGnil, dGcons, dGtup, dOdIx, dGsub, dIdxT, dIdxL, dSlT, dSlL, dPart, dNoPart, dIl, dIt, frz, opn, cls, catD, startR, arS, seqOf, n_add, n_addT, n_sub, n_mul, n_fdiv, n_mod, n_pow, n_shl, n_cmp, n_is, n_neg, n_not, n_ixL, n_ixT, n_lenL, n_lenT, n_abs, n_gcd, n_isqrt, n_int, n_tupL, n_tupT, at10, at1n, at20, at21, at2n, at30, at31, at32, at3n, fD, mD, wipeR, dYes, ix32, ix31, n_boolC, sz0, sz1, sz2, sz3, sz4, sz5, sz6, sz7, sz8, n_eqI, n_neI, n_eq3, n_ne3, n_isi_int, n_isi_bool, n_isi_tuple, List.map_cons, List.map_nil, List.length_cons, List.length_nil, List.replicate, List.set_cons_zero, List.set_cons_succ, List.getElem?_cons_zero, List.getElem?_cons_succ, List.filter_cons, List.filter_nil, Ar.isDk, List.all_cons, List.all_nil, no_dt, no_un, no_ow, no_dk, Bool.and_eq_true, Bool.true_and, Bool.and_true, Bool.false_eq_true, if_false, if_true, ite_true, ite_false, Option.some.injEq, exists_eq_left', true_and, and_true, List.cons_append, List.nil_append, Nat.sub_self, decide_eq_true_eq, Nat.reduceAdd, Nat.reduceSub, Nat.zero_add, Nat.le_refl, Nat.zero_le]
  refine ⟨R, rfl, rok, fun l hl => ?_⟩
  simp only [↓n_asg_if, BQ.n_rt, sSeq, sNext, sRet, sRetF, sRetO, sDrop, sSet, sOwn, sAsg, sPar, sPar3, sAug, sApp, sIf, dIf, dTest, dAnd, dOr, dNot, dAndV, dOrV, d1, d2, d2F, dVar, dOwn, dC, dF, dTup, dLst, dNil, dCons, dCB, dCB1, dCF1, dChain, dChain3, dCall, dCallF, dCallK, aNil, aCons, aDk, dGn, dGnil, dGcons, dGtup, dOdIx, dGsub, dIdxT, dIdxL, dSlT, dSlL, dPart, dNoPart, dIl, dIt, frz, opn, cls, catD, startR, arS, seqOf, n_add, n_addT, n_sub, n_mul, n_fdiv, n_mod, n_pow, n_shl, n_cmp, n_is, n_neg, n_not, n_ixL, n_ixT, n_lenL, n_lenT, n_abs, n_gcd, n_isqrt, n_int, n_tupL, n_tupT, at10, at1n, at20, at21, at2n, at30, at31, at32, at3n, fD, mD, wipeR, dYes, ix32, ix31, n_boolC, sz0, sz1, sz2, sz3, sz4, sz5, sz6, sz7, sz8, n_eqI, n_neI, n_eq3, n_ne3, n_isi_int, n_isi_bool, n_isi_tuple, List.map_cons, List.map_nil, List.length_cons, List.length_nil, List.replicate, List.set_cons_zero, List.set_cons_succ, List.getElem?_cons_zero, List.getElem?_cons_succ, List.filter_cons, List.filter_nil, Ar.isDk, List.all_cons, List.all_nil, no_dt, no_un, no_ow, no_dk, Bool.and_eq_true, Bool.true_and, Bool.and_true, Bool.false_eq_true, if_false, if_true, ite_true, ite_false, Option.some.injEq, exists_eq_left', true_and, and_true, List.cons_append, List.nil_append, Nat.sub_self, decide_eq_true_eq, Nat.reduceAdd, Nat.reduceSub, Nat.zero_add, Nat.le_refl, Nat.zero_le]
  unfold Rg at hl
  by_cases hc : R.disc < 0 ∨ isSplit R.disc = true
  · rw [if_pos hc] at hl
    subst hl
    have q := h [R] ⟨R, t1, by rw [if_pos hc]⟩
    refine min_any (l := [R]) (by simp) _ fun m' hm => ?_
    have : m' = R := List.mem_singleton.mp hm.1
    subst this
    obtain ⟨i, i1, i2, i3⟩ := idx3 (l := [m']) (m := m') (by simp)
    have i0 : i = 0 := by have : i < 1 := i2; omega
    rw [i1, i0]
    refine ⟨?_, ⟨fD m', by simp, by rw [eqvF]; simp⟩, ?_⟩
    · have := depth_forms [m']
      omega
    · rw [cutLo (Nat.zero_le _), cutHi (Nat.zero_le _)]
      exact ⟨by show 1 + 0 ≤ sizeLine; decide, q⟩
  · rw [if_neg hc] at hl
    obtain ⟨p, per, rfl⟩ := hl
    have rd := (rok.2.2.resolve_left fun z => hc (.inl z)).resolve_left fun z => hc (.inr z)
    have ln := orb_len (rt R.disc) p R
    refine min_any (l := orb (rt R.disc) p R) (fun z => by rw [z] at ln; have := per.pos; simp at ln; omega) _ fun m' hm => ?_
    obtain ⟨i, i1, i2, i3⟩ := idx3 hm.1
    rw [i1]
    refine ⟨?_, ⟨fD m', List.mem_map.mpr ⟨m', hm.1, rfl⟩, by rw [eqvF]; simp⟩, ?_⟩
    · have := depth_forms (orb (rt R.disc) p R)
      omega
    · rw [ln] at i2
      rw [cutLo (by rw [List.length_map, ln]; omega), cutHi (by rw [List.length_map, ln]; omega), ← List.map_drop, ← List.map_take, ← List.map_append, per.rot i2]
      have em : m' = it (rt R.disc) i R := by
        rw [orb_get i2] at i3
        exact (Option.some.inj i3).symm
      have r1 : rt R.disc ≤ 3162 := by have := sqlt (a := rt R.disc) (b := 3163) (by decide) (by have := rd.i.lo; have := rok.2.1; omega); omega
      refine ⟨?_, h _ ⟨R, t1, by rw [if_neg hc]; exact ⟨p, i, per, i2, em ▸ hm, rfl⟩⟩⟩
      have pl := per.le rd
      have pr := room_le r1
      have := sizeLine_eq
      rw [List.length_map, List.length_map, List.length_drop, List.length_take, ln]
      omega
def sd_reduced : Sd := fun c as y Φ Ψ => ∃ f : F, as = [.dt (fD f)] ∧ Fo f ∧ ∀ L R m, Cy f L → L.head? = some R → f.by m = R → m.det = 1 → Mb 44040213 m → Φ (.tuple [fD R, mD m]) c
theorem ok_reduced (Mx : Mo K mg) (C_need_binary : Cl false P w K mg base 4 "need_binary" ["binary"] sd_need_binary) (C_to_reduced : Cl false P w K mg base 5 "to_reduced" ["f"] sd_to_reduced) (C_ring_of : Cl false P w K mg base 3 "ring_of" ["f"] sd_ring_of) (C_times_step : Cl false P w K mg base 1 "times_step" ["one", "other"] sd_times_step) (C_step_along : Cl false P w K mg base 3 "step_along" ["f", "other"] sd_step_along) : Cl false P w K mg base 6 "reduced" ["binary"] sd_reduced := by
  obtain ⟨fd, hm, Fn0⟩ := Mx.fn 38 "reduced" (by decide +kernel)
  have hN : (["binary", "form", "step", "least"] : List Str).Nodup := by decide +kernel
  have Sc0 : FnScope ["binary", "form", "step", "least"] ["binary"] (defScope (top 38)) := ⟨rfl, rfl, rfl, hN, rfl, by decide +kernel, by decide +kernel⟩
  refine cl_mk Fn0 hm Sc0 (fun _ _ _ _ _ _ us hl => match us, hl with | [_], _ => rfl) (fun _ _ _ _ _ _ us hl => match us, hl with | [_], _ => rfl) fun cdv A outer s H E hr hG tk hp => ⟨_, (ss_cons (s_expr (e_callC C_need_binary (by decide) hr nog (by rfl) tk (a_cons (e_var (pv 0)) a_nil)))
    (ss_cons (s_asg (e_callC C_to_reduced (by decide) hr nog (by rfl) tk (a_cons (e_var (pv 0)) a_nil)) (g_tup (n := 2) (by rfl) (gs_cons ((c_name (i := 1) hN (by rfl) (by first | exact .inl rfl | exact .inr rfl) (by first | exact .inl rfl | exact .inr rfl)).g) (gs_cons ((c_name (i := 2) hN (by rfl) (by first | exact .inl rfl | exact .inr rfl) (by first | exact .inl rfl | exact .inr rfl)).g) gs_nil))))
    (ss_cons (s_set (i := 3) hN (by rfl) (by first | exact .inl rfl | exact .inr rfl) (e_callB1 (c_min rfl (hu6 hr)) (by rfl) (Mx.fr "min" (by decide +kernel)) b_min (e_callC C_ring_of (by decide) hr nog (by rfl) tk (a_cons (e_var (pv 1)) a_nil)).r))
    (ss_one (s_ret (e_tup (l_cons (e_var (pv 3)) (l_cons (e_callC C_times_step (by decide) hr nog (by rfl) tk (a_cons (e_var (pv 2)) (a_cons (e_callC C_step_along (by decide) hr nog (by rfl) tk (a_cons (e_var (pv 1)) (a_cons (e_var (pv 3)) a_nil))) a_nil))) l_nil)))))))), fun c as y Φ Ψ hn hs => ?_⟩
  obtain ⟨f, rfl, h1, h⟩ := hs
  simp only [↓n_asg_if, BQ.n_rt, sSeq, sNext, sRet, sRetF, sRetO, sDrop, sSet, sOwn, sAsg, sPar, sPar3, sAug, sApp, sIf, dIf, dTest, dAnd, dOr, dNot, dAndV, dOrV, d1, d2, d2F, dVar, dOwn, dC, dF, dTup, dLst, dNil, dCons, dCB, dCB1, dCF1, dChain, dChain3, dCall, dCallF, dCallK, aNil, aCons, aDk, dGn, dGnil, dGcons, dGtup, dOdIx, dGsub, dIdxT, dIdxL, dSlT, dSlL, dPart, dNoPart, dIl, dIt, frz, opn, cls, catD, startR, arS, seqOf, n_add, n_addT, n_sub, n_mul, n_fdiv, n_mod, n_pow, n_shl, n_cmp, n_is, n_neg, n_not, n_ixL, n_ixT, n_lenL, n_lenT, n_abs, n_gcd, n_isqrt, n_int, n_tupL, n_tupT, at10, at1n, at20, at21, at2n, at30, at31, at32, at3n, fD, mD, wipeR, dYes, ix32, ix31, n_boolC, sz0, sz1, sz2, sz3, sz4, sz5, sz6, sz7, sz8, n_eqI, n_neI, n_eq3, n_ne3, n_isi_int, n_isi_bool, n_isi_tuple, List.map_cons, List.map_nil, List.length_cons, List.length_nil, List.replicate, List.set_cons_zero, List.set_cons_succ, List.getElem?_cons_zero, List.getElem?_cons_succ, List.filter_cons, List.filter_nil, Ar.isDk, List.all_cons, List.all_nil, no_dt, no_un, no_ow, no_dk, Bool.and_eq_true, Bool.true_and, Bool.and_true, Bool.false_eq_true, if_false, if_true, ite_true, ite_false, Option.some.injEq, exists_eq_left', true_and, and_true, List.cons_append, List.nil_append, Nat.sub_self, decide_eq_true_eq, Nat.reduceAdd, Nat.reduceSub, Nat.zero_add, Nat.le_refl, Nat.zero_le]
  refine ⟨f, rfl, h1.dk, h1.n0, f, rfl, h1, fun R m t1 t2 t3 t4 => ?_⟩
  have ed : R.disc = f.disc := by rw [← t2, disc_by1 t3]
  obtain ⟨rok, _⟩ := t1.rg h1.n0 h1.le h1.ge ed
  simp only [↓n_asg_if, BQ.n_rt, sSeq, sNext, sRet, sRetF, sRetO, sDrop, sSet, sOwn, sAsg, sPar, sPar3, sAug, sApp, sIf, dIf, dTest, dAnd, dOr, dNot, dAndV, dOrV, d1, d2, d2F, dVar, dOwn, dC, dF, dTup, dLst, dNil, dCons, dCB, dCB1, dCF1, dChain, dChain3, dCall, dCallF, dCallK, aNil, aCons, aDk, dGn, dGnil, dGcons, dGtup, dOdIx, dGsub, dIdxT, dIdxL, dSlT, dSlL, dPart, dNoPart, dIl, dIt, frz, opn, cls, catD, startR, arS, seqOf, n_add, n_addT, n_sub, n_mul, n_fdiv, n_mod, n_pow, n_shl, n_cmp, n_is, n_neg, n_not, n_ixL, n_ixT, n_lenL, n_lenT, n_abs, n_gcd, n_isqrt, n_int, n_tupL, n_tupT, at10, at1n, at20, at21, at2n, at30, at31, at32, at3n, fD, mD, wipeR, dYes, ix32, ix31, n_boolC, sz0, sz1, sz2, sz3, sz4, sz5, sz6, sz7, sz8, n_eqI, n_neI, n_eq3, n_ne3, n_isi_int, n_isi_bool, n_isi_tuple, List.map_cons, List.map_nil, List.length_cons, List.length_nil, List.replicate, List.set_cons_zero, List.set_cons_succ, List.getElem?_cons_zero, List.getElem?_cons_succ, List.filter_cons, List.filter_nil, Ar.isDk, List.all_cons, List.all_nil, no_dt, no_un, no_ow, no_dk, Bool.and_eq_true, Bool.true_and, Bool.and_true, Bool.false_eq_true, if_false, if_true, ite_true, ite_false, Option.some.injEq, exists_eq_left', true_and, and_true, List.cons_append, List.nil_append, Nat.sub_self, decide_eq_true_eq, Nat.reduceAdd, Nat.reduceSub, Nat.zero_add, Nat.le_refl, Nat.zero_le]
  refine ⟨R, rfl, rok, fun l hl => ?_⟩
  simp only [↓n_asg_if, BQ.n_rt, sSeq, sNext, sRet, sRetF, sRetO, sDrop, sSet, sOwn, sAsg, sPar, sPar3, sAug, sApp, sIf, dIf, dTest, dAnd, dOr, dNot, dAndV, dOrV, d1, d2, d2F, dVar, dOwn, dC, dF, dTup, dLst, dNil, dCons, dCB, dCB1, dCF1, dChain, dChain3, dCall, dCallF, dCallK, aNil, aCons, aDk, dGn, dGnil, dGcons, dGtup, dOdIx, dGsub, dIdxT, dIdxL, dSlT, dSlL, dPart, dNoPart, dIl, dIt, frz, opn, cls, catD, startR, arS, seqOf, n_add, n_addT, n_sub, n_mul, n_fdiv, n_mod, n_pow, n_shl, n_cmp, n_is, n_neg, n_not, n_ixL, n_ixT, n_lenL, n_lenT, n_abs, n_gcd, n_isqrt, n_int, n_tupL, n_tupT, at10, at1n, at20, at21, at2n, at30, at31, at32, at3n, fD, mD, wipeR, dYes, ix32, ix31, n_boolC, sz0, sz1, sz2, sz3, sz4, sz5, sz6, sz7, sz8, n_eqI, n_neI, n_eq3, n_ne3, n_isi_int, n_isi_bool, n_isi_tuple, List.map_cons, List.map_nil, List.length_cons, List.length_nil, List.replicate, List.set_cons_zero, List.set_cons_succ, List.getElem?_cons_zero, List.getElem?_cons_succ, List.filter_cons, List.filter_nil, Ar.isDk, List.all_cons, List.all_nil, no_dt, no_un, no_ow, no_dk, Bool.and_eq_true, Bool.true_and, Bool.and_true, Bool.false_eq_true, if_false, if_true, ite_true, ite_false, Option.some.injEq, exists_eq_left', true_and, and_true, List.cons_append, List.nil_append, Nat.sub_self, decide_eq_true_eq, Nat.reduceAdd, Nat.reduceSub, Nat.zero_add, Nat.le_refl, Nat.zero_le]
  unfold Rg at hl
  have o : ∀ x : Int, IntMulOk x 1 := fun x => mR (by decide) (by decide)
  have z : ∀ x : Int, IntMulOk x 0 := fun x => mR (by decide) (by decide)
  by_cases hc : R.disc < 0 ∨ isSplit R.disc = true
  · rw [if_pos hc] at hl
    subst hl
    refine min_any (l := [R]) (by simp) _ fun m' hm => ?_
    have : m' = R := List.mem_singleton.mp hm.1
    subst this
    refine ⟨m', 0, 0, rfl, .inl rfl, fun i hi => absurd hi (Nat.not_lt_zero i), ?_⟩
    simp only [↓n_asg_if, BQ.n_rt, sSeq, sNext, sRet, sRetF, sRetO, sDrop, sSet, sOwn, sAsg, sPar, sPar3, sAug, sApp, sIf, dIf, dTest, dAnd, dOr, dNot, dAndV, dOrV, d1, d2, d2F, dVar, dOwn, dC, dF, dTup, dLst, dNil, dCons, dCB, dCB1, dCF1, dChain, dChain3, dCall, dCallF, dCallK, aNil, aCons, aDk, dGn, dGnil, dGcons, dGtup, dOdIx, dGsub, dIdxT, dIdxL, dSlT, dSlL, dPart, dNoPart, dIl, dIt, frz, opn, cls, catD, startR, arS, seqOf, n_add, n_addT, n_sub, n_mul, n_fdiv, n_mod, n_pow, n_shl, n_cmp, n_is, n_neg, n_not, n_ixL, n_ixT, n_lenL, n_lenT, n_abs, n_gcd, n_isqrt, n_int, n_tupL, n_tupT, at10, at1n, at20, at21, at2n, at30, at31, at32, at3n, fD, mD, wipeR, dYes, ix32, ix31, n_boolC, sz0, sz1, sz2, sz3, sz4, sz5, sz6, sz7, sz8, n_eqI, n_neI, n_eq3, n_ne3, n_isi_int, n_isi_bool, n_isi_tuple, List.map_cons, List.map_nil, List.length_cons, List.length_nil, List.replicate, List.set_cons_zero, List.set_cons_succ, List.getElem?_cons_zero, List.getElem?_cons_succ, List.filter_cons, List.filter_nil, Ar.isDk, List.all_cons, List.all_nil, no_dt, no_un, no_ow, no_dk, Bool.and_eq_true, Bool.true_and, Bool.and_true, Bool.false_eq_true, if_false, if_true, ite_true, ite_false, Option.some.injEq, exists_eq_left', true_and, and_true, List.cons_append, List.nil_append, Nat.sub_self, decide_eq_true_eq, Nat.reduceAdd, Nat.reduceSub, Nat.zero_add, Nat.le_refl, Nat.zero_le]
    refine ⟨m, M.one, rfl, ⟨o _, z _, z _, o _, o _, z _, z _, o _⟩, ?_⟩
    have e : m.mul M.one = m := by apply M.ext <;> simp [M.mul, M.one]
    rw [e]
    exact h [m'] m' m ⟨m', t1, by rw [if_pos hc]⟩ rfl t2 t3 (Mb.mono t4 (by unfold rb; split <;> decide))
  · rw [if_neg hc] at hl
    obtain ⟨p, per, rfl⟩ := hl
    have rd := (rok.2.2.resolve_left fun z => hc (.inl z)).resolve_left fun z => hc (.inr z)
    have ln := orb_len (rt R.disc) p R
    have r1 : rt R.disc ≤ 3162 := by have := sqlt (a := rt R.disc) (b := 3163) (by decide) (by have := rd.i.lo; have := rok.2.1; omega); omega
    refine min_any (l := orb (rt R.disc) p R) (fun z => by rw [z] at ln; have := per.pos; simp at ln; omega) _ fun m' hm => ?_
    obtain ⟨k, hk, rfl⟩ := orb_mem.mp hm.1
    refine ⟨R, k, rt R.disc, rfl, .inr ⟨rd, rok.2.1⟩, fun i hi e => by have := per.diff rd (by omega) hk e; omega, ?_⟩
    simp only [↓n_asg_if, BQ.n_rt, sSeq, sNext, sRet, sRetF, sRetO, sDrop, sSet, sOwn, sAsg, sPar, sPar3, sAug, sApp, sIf, dIf, dTest, dAnd, dOr, dNot, dAndV, dOrV, d1, d2, d2F, dVar, dOwn, dC, dF, dTup, dLst, dNil, dCons, dCB, dCB1, dCF1, dChain, dChain3, dCall, dCallF, dCallK, aNil, aCons, aDk, dGn, dGnil, dGcons, dGtup, dOdIx, dGsub, dIdxT, dIdxL, dSlT, dSlL, dPart, dNoPart, dIl, dIt, frz, opn, cls, catD, startR, arS, seqOf, n_add, n_addT, n_sub, n_mul, n_fdiv, n_mod, n_pow, n_shl, n_cmp, n_is, n_neg, n_not, n_ixL, n_ixT, n_lenL, n_lenT, n_abs, n_gcd, n_isqrt, n_int, n_tupL, n_tupT, at10, at1n, at20, at21, at2n, at30, at31, at32, at3n, fD, mD, wipeR, dYes, ix32, ix31, n_boolC, sz0, sz1, sz2, sz3, sz4, sz5, sz6, sz7, sz8, n_eqI, n_neI, n_eq3, n_ne3, n_isi_int, n_isi_bool, n_isi_tuple, List.map_cons, List.map_nil, List.length_cons, List.length_nil, List.replicate, List.set_cons_zero, List.set_cons_succ, List.getElem?_cons_zero, List.getElem?_cons_succ, List.filter_cons, List.filter_nil, Ar.isDk, List.all_cons, List.all_nil, no_dt, no_un, no_ow, no_dk, Bool.and_eq_true, Bool.true_and, Bool.and_true, Bool.false_eq_true, if_false, if_true, ite_true, ite_false, Option.some.injEq, exists_eq_left', true_and, and_true, List.cons_append, List.nil_append, Nat.sub_self, decide_eq_true_eq, Nat.reduceAdd, Nat.reduceSub, Nat.zero_add, Nat.le_refl, Nat.zero_le]
    have mb1 : Mb 5000 m := by
      have e : rb f = 5000 := if_pos (by have := rd.i.pos; omega)
      rw [← e]; exact t4
    have mb2 := per.along_mb rd r1 (Nat.le_of_lt hk)
    refine ⟨m, along (rt R.disc) k R, rfl, mulBig mb1 mb2 (by decide), ?_⟩
    exact h _ _ _ ⟨R, t1, by rw [if_neg hc]; exact ⟨p, k, per, hk, hm, rfl⟩⟩ (by rw [List.head?_eq_getElem?]; exact orb_get per.pos) (by rw [by_mul, t2, along_by]) (by rw [det_mul, t3, along_det]; rfl) (Mb.mono (Mb.mul mb1 mb2) (by decide))
end
end K31

/-! The cycle is one; each of its members is reduced and has the same cycle. -/
namespace K31
open PySem PySem.Spec PyProof.Rows L2 DL BQ
theorem Ir.det {r : Int} {f R R' : F} (h : Ir r f R) (h' : Ir r f R') : R = R' := by
  obtain ⟨n, rfl, a, b⟩ := h
  obtain ⟨n', rfl, a', b'⟩ := h'
  rcases Nat.lt_trichotomy n n' with z | z | z
  · exact absurd a (b' n z)
  · rw [z]
  · exact absurd a' (b n' z)
theorem split_pos {D : Int} (hd : 0 < D) (hs : isSplit D = true) : rt D * rt D = D ∧ 0 < rt D := by
  obtain ⟨r0, _, _⟩ := rt_ok (Int.le_of_lt hd)
  have e : rt D * rt D = D := by
    unfold isSplit at hs
    simp at hs
    exact hs.2
  refine ⟨e, ?_⟩
  rcases Int.lt_or_eq_of_le r0 with z | z
  · exact z
  · rw [← z] at e; omega
theorem To.det {f R R' : F} (h : To f R) (h' : To f R') : R = R' := by
  unfold To at h h'
  by_cases hd : 0 < f.disc
  · rw [if_pos hd] at h h'
    by_cases hs : isSplit f.disc = true
    · rw [if_pos hs] at h h'
      exact Sp.det (split_pos hd hs).2 h h'
    · rw [if_neg hs] at h h'
      exact Ir.det h h'
  · rw [if_neg hd] at h h'
    by_cases ha : 0 < f.a
    · rw [if_pos ha] at h h'
      exact Dr.det h h'
    · rw [if_neg ha] at h h'
      have := Dr.det h h'
      rw [← neg_neg R, this, neg_neg]
theorem Cy.det {f : F} {L L' : List F} (h : Cy f L) (h' : Cy f L') : L = L' := by
  obtain ⟨R, t, h⟩ := h
  obtain ⟨R', t', h'⟩ := h'
  have e := t.det t'
  subst e
  by_cases hc : R.disc < 0 ∨ isSplit R.disc = true
  · rw [if_pos hc] at h h'
    rw [h, h']
  · rw [if_neg hc] at h h'
    obtain ⟨p, k, per, hk, l, rfl⟩ := h
    obtain ⟨p', k', per', hk', l', rfl⟩ := h'
    have := per.unique per'
    subst this
    rw [l.unique l' fun _ => Iff.rfl]
theorem Dr.self {f : F} (D : Df f) (r : RedD f) : Dr f f := by
  have ri := D.red_in r
  have gd := (D.red_iff ri).mp r
  have e := D.shf_id ri
  have := Dr.stop (f := f) (by rw [e]; exact gd)
  rwa [e] at this
/-- of a reduced form nothing is led on -/
theorem To.self {g : F} (n0 : g.disc ≠ 0) (h : isRedP g = true) : To g g := by
  unfold To
  unfold isRedP at h
  by_cases hd : 0 < g.disc
  · rw [if_pos hd]
    rw [if_neg (by omega)] at h
    by_cases hs : isSplit g.disc = true
    · rw [if_pos hs] at h ⊢
      obtain ⟨c0, b0, a0, ab⟩ := of_decide_eq_true h
      obtain ⟨e, w0⟩ := split_pos hd hs
      have bw : g.b = rt g.disc := by
        have d : g.disc = g.b * g.b := by unfold F.disc; rw [c0]; grind
        have h1 : rt g.disc * rt g.disc = g.b * g.b := by omega
        have u1 := sqlt (a := g.b) (b := rt g.disc + 1) (by omega) (by
          have : (rt g.disc + 1) * (rt g.disc + 1) = rt g.disc * rt g.disc + 2 * rt g.disc + 1 := by grind
          omega)
        have u2 := sqlt (a := rt g.disc) (b := g.b + 1) (by omega) (by
          have : (g.b + 1) * (g.b + 1) = g.b * g.b + 2 * g.b + 1 := by grind
          omega)
        omega
      refine ⟨M.one, rfl, by rw [by_one]; exact bw, by rw [by_one]; exact c0, ?_⟩
      rw [by_one]
      have m : g.a.fmod (rt g.disc) = g.a := by
        rw [Int.fmod_eq_emod_of_nonneg _ (by omega), Int.emod_eq_of_lt a0 (by omega)]
      exact F.ext m.symm bw c0
    · rw [if_neg hs] at h ⊢
      exact ⟨0, rfl, of_decide_eq_true h, fun i hi => absurd hi (Nat.not_lt_zero i)⟩
  · rw [if_neg hd]
    rw [if_pos (by omega)] at h
    have z := of_decide_eq_true h
    have a0 := a_ne (f := g) (by omega)
    by_cases ha : 0 < g.a
    · rw [if_pos ha]
      rw [if_neg (by omega)] at z
      exact Dr.self ⟨ha, by omega⟩ z
    · rw [if_neg ha]
      rw [if_pos (by omega)] at z
      exact Dr.self ⟨by show 0 < -g.a; omega, by rw [neg_disc]; omega⟩ z
theorem it_disc (r : Int) (f : F) : ∀ n, (it r n f).disc = f.disc
  | 0 => rfl
  | n + 1 => by
    show (nxt r (it r n f)).disc = _
    rw [nxt_disc, it_disc r f n]
theorem To.disc {f R : F} (n0 : f.disc ≠ 0) (h : To f R) : R.disc = f.disc := by
  unfold To at h
  by_cases hd : 0 < f.disc
  · rw [if_pos hd] at h
    by_cases hs : isSplit f.disc = true
    · rw [if_pos hs] at h
      obtain ⟨m, m1, m2, m3, rfl⟩ := h
      obtain ⟨e, _⟩ := split_pos hd hs
      show rt f.disc * rt f.disc - 4 * _ * 0 = f.disc
      rw [Int.mul_zero, e]; omega
    · rw [if_neg hs] at h
      obtain ⟨n, rfl, _, _⟩ := h
      exact it_disc _ f n
  · rw [if_neg hd] at h
    have a0 := a_ne (f := f) (by omega)
    by_cases ha : 0 < f.a
    · rw [if_pos ha] at h
      exact (h.ok ⟨ha, by omega⟩).2.2
    · rw [if_neg ha] at h
      have := (h.ok ⟨by show 0 < -f.a; omega, by rw [neg_disc]; omega⟩).2.2
      rw [neg_disc, neg_disc] at this
      exact this
theorem Fo.c60 {f : F} (h : Fo f) : f.c.natAbs ≤ 2 ^ 60 := by
  rcases h.sz with z | ⟨z, _⟩
  · omega
  · have a0 := a_ne z
    have ab := h.ab
    have ge := h.ge
    have e : 4 * (f.a * f.c) = f.b * f.b - f.disc := by unfold F.disc; grind
    have b2 : (f.b * f.b).natAbs ≤ 2 ^ 26 * 2 ^ 26 := by rw [Int.natAbs_mul]; exact Nat.mul_le_mul ab.2 ab.2
    have b3 := sqpos f.b
    have m : (f.a * f.c).natAbs = f.a.natAbs * f.c.natAbs := Int.natAbs_mul _ _
    have l : 1 * f.c.natAbs ≤ f.a.natAbs * f.c.natAbs := Nat.mul_le_mul (by omega) (Nat.le_refl _)
    omega
/-- a reduced form is in reach -/
theorem red_fo {g : F} (n0 : g.disc ≠ 0) (le : g.disc ≤ 10000000) (ge : -1125899906842624 ≤ g.disc) (h : isRedP g = true) : Fo g := by
  refine ⟨n0, le, ge, ?_⟩
  unfold isRedP at h
  by_cases hd : g.disc < 0
  · rw [if_pos hd] at h
    exact .inr ⟨hd, of_decide_eq_true h⟩
  · rw [if_neg hd] at h
    left
    by_cases hs : isSplit g.disc = true
    · rw [if_pos hs] at h
      obtain ⟨c0, b0, a0, ab⟩ := of_decide_eq_true h
      have d : g.disc = g.b * g.b := by unfold F.disc; rw [c0]; grind
      have := sqlt (a := g.b) (b := 3163) (by decide) (by omega)
      omega
    · rw [if_neg hs] at h
      have red := of_decide_eq_true h
      have I : Ind g.disc (rt g.disc) := ind_of (by omega) (fun z => hs (by unfold isSplit; simp [z]; omega))
      have r1 : rt g.disc < 3163 := sqlt (by decide) (by have := I.lo; omega)
      have b1 := red.1
      have b2 := red.2.1
      have b3 := red.a_le
      have b4 := red.c_le I
      omega
structure Mem (f g : F) (L : List F) : Prop where
  red : isRedP g = true
  ok : RgOk g
  d : g.disc = f.disc
  cy : Cy g L
/-- what is told of the members -/
theorem Cy.mem {f : F} {L : List F} (fo : Fo f) (hR : ∀ R, To f R → R.disc = f.disc) (h : Cy f L) : ∀ g, g ∈ L → Mem f g L := by
  obtain ⟨R, t, h⟩ := h
  have ed := hR R t
  obtain ⟨rok, red⟩ := t.rg fo.n0 fo.le fo.ge ed
  by_cases hc : R.disc < 0 ∨ isSplit R.disc = true
  · rw [if_pos hc] at h
    subst h
    intro g hg
    rw [List.mem_singleton.mp hg]
    exact ⟨red, rok, ed, R, To.self (by rw [ed]; exact fo.n0) red, by rw [if_pos hc]⟩
  · rw [if_neg hc] at h
    obtain ⟨p, k, per, hk, l, rfl⟩ := h
    have rd := (rok.2.2.resolve_left fun z => hc (.inl z)).resolve_left fun z => hc (.inr z)
    intro g hg
    obtain ⟨i, hi, rfl⟩ := orb_mem.mp ((per.orb_same hk g).mp hg)
    generalize hr : rt R.disc = r at *
    have ri := rd.it i
    have J : Ind (it r i R).disc r := ri.d ▸ ri.i
    have b1 := ri.red.1
    have b2 := ri.red.2.1
    have b3 := ri.red.c_le J
    have hle := rok.2.1
    have r1 : r ≤ 3162 := by have := sqlt (a := r) (b := 3163) (by decide) (by have := rd.i.lo; omega); omega
    have rg : isRedP (it r i R) = true := by rw [isRedP_ind J]; exact decide_eq_true ri.red
    have ed2 : (it r i R).disc = R.disc := ri.d
    have n0 : (it r i R).disc ≠ 0 := by have := J.pos; omega
    have hc2 : ¬ ((it r i R).disc < 0 ∨ isSplit (it r i R).disc = true) := by rw [ed2]; exact hc
    refine ⟨rg, ⟨⟨mR (by omega) (by omega), mR (by omega) (by omega)⟩, by omega, .inr (.inr ⟨rfl, by rw [J.rt]; exact J, by rw [J.rt]; exact ri.red⟩)⟩, by rw [ed2]; exact ed, it r i R, To.self n0 rg, ?_⟩
    rw [if_neg hc2, ed2, hr]
    obtain ⟨j, hj, ej⟩ := orb_mem.mp ((per.orb_same hi _).mpr l.1)
    refine ⟨p, j, per.it rd i, hj, ⟨(per.orb_same hi _).mpr (ej ▸ l.1), fun y hy => ej ▸ l.2 y ((per.orb_same hi y).mp hy)⟩, by rw [ej]⟩
theorem Cy.len {f : F} {L : List F} (fo : Fo f) (h : Cy f L) : L.length ≤ 10006150 ∧ 0 < L.length := by
  obtain ⟨R, t, h⟩ := h
  have ed := t.disc fo.n0
  obtain ⟨rok, red⟩ := t.rg fo.n0 fo.le fo.ge ed
  by_cases hc : R.disc < 0 ∨ isSplit R.disc = true
  · rw [if_pos hc] at h
    subst h
    exact ⟨by show 1 ≤ _; decide, by show 0 < 1; decide⟩
  · rw [if_neg hc] at h
    obtain ⟨p, k, per, hk, l, rfl⟩ := h
    have rd := (rok.2.2.resolve_left fun z => hc (.inl z)).resolve_left fun z => hc (.inr z)
    rw [orb_len]
    have hle := rok.2.1
    have r1 : rt R.disc ≤ 3162 := by have := sqlt (a := rt R.disc) (b := 3163) (by decide) (by have := rd.i.lo; omega); omega
    exact ⟨Nat.le_trans (per.le rd) (room_le r1), per.pos⟩
/-- of even length, the reduced form itself in it -/
theorem Cy.even {f : F} {L : List F} (fo : Fo f) (hR : ∀ R, To f R → R.disc = f.disc) (h : Cy f L) (hd : 0 < f.disc) (hs : isSplit f.disc = false) : L.length % 2 = 0 ∧ (isRedP f = true → f ∈ L) := by
  obtain ⟨R, t, h⟩ := h
  have ed := hR R t
  obtain ⟨rok, red⟩ := t.rg fo.n0 fo.le fo.ge ed
  have hc : ¬ (R.disc < 0 ∨ isSplit R.disc = true) := fun z => by
    rcases z with z | z
    · omega
    · rw [ed, hs] at z; cases z
  rw [if_neg hc] at h
  obtain ⟨p, k, per, hk, l, rfl⟩ := h
  have rd := (rok.2.2.resolve_left fun z => hc (.inl z)).resolve_left fun z => hc (.inr z)
  refine ⟨by rw [orb_len]; exact per.even rd, fun hf => ?_⟩
  have e := (To.self fo.n0 hf).det t
  rw [e]
  exact (per.orb_same hk R).mpr (orb_mem.mpr ⟨0, per.pos, rfl⟩)
end K31

/-! The law's own small defs. -/
namespace K31
open PySem PySem.Spec PyProof.Rows L2 DL BQ
section
variable {P : Program} {w : World} {K : PySem.W.Frag} {mg : Str → Option Value} {base : Heap}
def sd__law_seed : Sd := fun c as y Φ Ψ => ∃ ns : List Int, as = [.dt (.list (ns.map .int))] ∧ ns.length ≤ 63 ∧ Ψ [.tuple (ns.map .int), .int 0, .int 0] c
theorem ok__law_seed (Mx : Mo K mg)  : Cl false P w K mg base 1 "_law_seed" ["script"] sd__law_seed := by
  obtain ⟨fd, hm, Fn0⟩ := Mx.fn 40 "_law_seed" (by decide +kernel)
  have hN : (["script"] : List Str).Nodup := by decide +kernel
  have Sc0 : FnScope ["script"] ["script"] (defScope (top 40)) := ⟨rfl, rfl, rfl, hN, rfl, by decide +kernel, by decide +kernel⟩
  refine cl_mk Fn0 hm Sc0 (fun _ _ _ _ _ _ us hl => match us, hl with | [_], _ => rfl) (fun _ _ _ _ _ _ us hl => match us, hl with | [_], _ => rfl) fun cdv A outer s H E hr hG tk hp => ⟨_, (ss_one (s_retF (f_lst (l_cons (e_callTy1 c_tuple (by rfl) (Mx.fr "tuple" (by decide +kernel)) b_tuple (r_own (pv 0))) (l_cons e_int (l_cons e_int l_nil)))))), fun c as y Φ Ψ hn hs => ?_⟩
  obtain ⟨ns, rfl, h1, h⟩ := hs
  simp only [↓n_asg_if, BQ.n_rt, sSeq, sNext, sRet, sRetF, sRetO, sDrop, sSet, sOwn, sAsg, sPar, sPar3, sAug, sApp, sIf, dIf, dTest, dAnd, dOr, dNot, dAndV, dOrV, d1, d2, d2F, dVar, dOwn, dC, dF, dTup, dLst, dNil, dCons, dCB, dCB1, dCF1, dChain, dChain3, dCall, dCallF, dCallK, aNil, aCons, aDk, dGn, dGnil, dGcons, dGtup, dOdIx, dGsub, dIdxT, dIdxL, dSlT, dSlL, dPart, dNoPart, dIl, dIt, frz, opn, cls, catD, startR, arS, seqOf, n_add, n_addT, n_sub, n_mul, n_fdiv, n_mod, n_pow, n_shl, n_cmp, n_is, n_neg, n_not, n_ixL, n_ixT, n_lenL, n_lenT, n_abs, n_gcd, n_isqrt, n_int, n_tupL, n_tupT, at10, at1n, at20, at21, at2n, at30, at31, at32, at3n, fD, mD, wipeR, dYes, ix32, ix31, n_boolC, sz0, sz1, sz2, sz3, sz4, sz5, sz6, sz7, sz8, n_eqI, n_neI, n_eq3, n_ne3, n_isi_int, n_isi_bool, n_isi_tuple, List.map_cons, List.map_nil, List.length_cons, List.length_nil, List.replicate, List.set_cons_zero, List.set_cons_succ, List.getElem?_cons_zero, List.getElem?_cons_succ, List.filter_cons, List.filter_nil, Ar.isDk, List.all_cons, List.all_nil, no_dt, no_un, no_ow, no_dk, Bool.and_eq_true, Bool.true_and, Bool.and_true, Bool.false_eq_true, if_false, if_true, ite_true, ite_false, Option.some.injEq, exists_eq_left', true_and, and_true, List.cons_append, List.nil_append, Nat.sub_self, decide_eq_true_eq, Nat.reduceAdd, Nat.reduceSub, Nat.zero_add, Nat.le_refl, Nat.zero_le]
  exact h
def sd__law_any : Sd := fun c as y Φ Ψ => ∃ many : Int, as = [.dk, .dt (.int many)] ∧ many < 2 ^ 40 ∧ c < 2 ^ 40 ∧ ∀ r : Int, 0 ≤ r → (r < many ∨ (many < 2 ∧ r = 0)) → Φ (.int r) (c + 1)
theorem ok__law_any (Mx : Mo K mg)  : Cl false P w K mg base 1 "_law_any" ["seed", "many"] sd__law_any := by
  obtain ⟨fd, hm, Fn0⟩ := Mx.fn 41 "_law_any" (by decide +kernel)
  have hN : (["seed", "many", "part", "turn", "cell", "mixed"] : List Str).Nodup := by decide +kernel
  have Sc0 : FnScope ["seed", "many", "part", "turn", "cell", "mixed"] ["seed", "many"] (defScope (top 41)) := ⟨rfl, rfl, rfl, hN, rfl, by decide +kernel, by decide +kernel⟩
  refine cl_mk Fn0 hm Sc0 (fun _ _ _ _ _ _ us hl => match us, hl with | [_, _], _ => rfl) (fun _ _ _ _ _ _ us hl => match us, hl with | [_, _], _ => rfl) fun cdv A outer s H E hr hG tk hp => ⟨_, (ss_open 0 <| ss_tick <| (ss_cons (s_if (t_cmp o_lt (r_own (pv 1)) e_int.r rfl) (ss_one (s_ret e_int)) ss_nil)
    (ss_cons (s_if (t_cmp o_gt (e_odix (pv 0) e_int).r e_int.r rfl) (ss_cons (s_asg (e_tup (l_cons (e_bin o_mod (e_callTy c_int (by rfl) (Mx.fr "int" (by decide +kernel)) b_int (l_cons (e_odix (pv 0) e_int) l_nil)).r (r_own (pv 1))) (l_cons (e_bin o_fdiv (e_odix (pv 0) e_int).r (r_own (pv 1))) l_nil))) (g_tup (n := 2) (by rfl) (gs_cons ((c_name (i := 2) hN (by rfl) (by first | exact .inl rfl | exact .inr rfl) (by first | exact .inl rfl | exact .inr rfl)).g) (gs_cons (g_sub (pv 0) e_int) gs_nil))))
    (ss_one (s_ret (e_var (pv 2))))) ss_nil)
    (ss_cons (s_asg (e_bin o_add (e_odix (pv 0) e_int).r e_int.r) (g_sub (pv 0) e_int))
    (ss_cons (s_set (i := 3) hN (by rfl) (by first | exact .inl rfl | exact .inr rfl) (e_odix (pv 0) e_int))
    (ss_cons (s_set (i := 4) hN (by rfl) (by first | exact .inl rfl | exact .inr rfl) (e_if (t_cmp o_gt (e_callB1 c_len (by rfl) (Mx.fr "len" (by decide +kernel)) b_len (e_odix (pv 0) e_int).r).r e_int.r rfl) (e_ix (e_odix (pv 0) e_int).r (e_bin o_mod (e_callTy c_int (by rfl) (Mx.fr "int" (by decide +kernel)) b_int (l_cons (e_bin o_sub (r_own (pv 3)) e_int.r) l_nil)).r (e_callB1 c_len (by rfl) (Mx.fr "len" (by decide +kernel)) b_len (e_odix (pv 0) e_int).r).r)) e_int))
    (ss_cons (s_if (w_and (t_cmp o_le (r_own (pv 3)) (e_callB1 c_len (by rfl) (Mx.fr "len" (by decide +kernel)) b_len (e_odix (pv 0) e_int).r).r rfl) (w_and1 (t_cmp o_ge (r_own (pv 4)) (e_bin o_pow e_int.r e_int.r).r rfl))).t (ss_cons (s_asg (e_bin o_fdiv (r_own (pv 4)) (r_own (pv 1))) (g_sub (pv 0) e_int))
    (ss_one (s_ret (e_bin o_mod (e_callTy c_int (by rfl) (Mx.fr "int" (by decide +kernel)) b_int (l_cons (e_var (pv 4)) l_nil)).r (r_own (pv 1)))))) ss_nil)
    (ss_cons (s_set (i := 5) hN (by rfl) (by first | exact .inl rfl | exact .inr rfl) (e_bin o_mod (e_callTy c_int (by rfl) (Mx.fr "int" (by decide +kernel)) b_int (l_cons (e_bin o_mul (e_bin o_add (e_bin o_mod (e_callTy c_int (by rfl) (Mx.fr "int" (by decide +kernel)) b_int (l_cons (e_var (pv 4)) l_nil)).r e_int.r).r (e_bin o_mul e_int.r (r_own (pv 3))).r).r e_int.r) l_nil)).r e_int.r))
    (ss_cons (s_set (i := 5) hN (by rfl) (by first | exact .inl rfl | exact .inr rfl) (e_bin o_mod (e_callTy c_int (by rfl) (Mx.fr "int" (by decide +kernel)) b_int (l_cons (e_bin o_add (e_bin o_mul (r_own (pv 5)) (r_own (pv 5))).r (e_bin o_mul (r_own (pv 3)) e_int.r).r) l_nil)).r e_int.r))
    (ss_cons (s_set (i := 5) hN (by rfl) (by first | exact .inl rfl | exact .inr rfl) (e_bin o_mod (e_callTy c_int (by rfl) (Mx.fr "int" (by decide +kernel)) b_int (l_cons (e_bin o_mul (e_bin o_add (r_own (pv 5)) (r_own (pv 3))).r (e_bin o_add (e_bin o_add (r_own (pv 5)) (e_bin o_mul e_int.r (r_own (pv 3))).r).r e_int.r).r) l_nil)).r e_int.r))
    (ss_one (s_ret (e_bin o_mod (e_callTy c_int (by rfl) (Mx.fr "int" (by decide +kernel)) b_int (l_cons (e_bin o_fdiv (r_own (pv 5)) e_int.r) l_nil)).r (r_own (pv 1))))))))))))))), fun c as y Φ Ψ hn hs => ?_⟩
  obtain ⟨many, rfl, h1, h2, h⟩ := hs
  simp only [↓n_asg_if, BQ.n_rt, sSeq, sNext, sRet, sRetF, sRetO, sDrop, sSet, sOwn, sAsg, sPar, sPar3, sAug, sApp, sIf, dIf, dTest, dAnd, dOr, dNot, dAndV, dOrV, d1, d2, d2F, dVar, dOwn, dC, dF, dTup, dLst, dNil, dCons, dCB, dCB1, dCF1, dChain, dChain3, dCall, dCallF, dCallK, aNil, aCons, aDk, dGn, dGnil, dGcons, dGtup, dOdIx, dGsub, dIdxT, dIdxL, dSlT, dSlL, dPart, dNoPart, dIl, dIt, frz, opn, cls, catD, startR, arS, seqOf, n_add, n_addT, n_sub, n_mul, n_fdiv, n_mod, n_pow, n_shl, n_cmp, n_is, n_neg, n_not, n_ixL, n_ixT, n_lenL, n_lenT, n_abs, n_gcd, n_isqrt, n_int, n_tupL, n_tupT, at10, at1n, at20, at21, at2n, at30, at31, at32, at3n, fD, mD, wipeR, dYes, ix32, ix31, n_boolC, sz0, sz1, sz2, sz3, sz4, sz5, sz6, sz7, sz8, n_eqI, n_neI, n_eq3, n_ne3, n_isi_int, n_isi_bool, n_isi_tuple, List.map_cons, List.map_nil, List.length_cons, List.length_nil, List.replicate, List.set_cons_zero, List.set_cons_succ, List.getElem?_cons_zero, List.getElem?_cons_succ, List.filter_cons, List.filter_nil, Ar.isDk, List.all_cons, List.all_nil, no_dt, no_un, no_ow, no_dk, Bool.and_eq_true, Bool.true_and, Bool.and_true, Bool.false_eq_true, if_false, if_true, ite_true, ite_false, Option.some.injEq, exists_eq_left', true_and, and_true, List.cons_append, List.nil_append, Nat.sub_self, decide_eq_true_eq, Nat.reduceAdd, Nat.reduceSub, Nat.zero_add, Nat.le_refl, Nat.zero_le]
  rintro ds ⟨hd, k, r0, rfl, ⟨ns, hns, hl⟩, k0, k1⟩
  have sh : ∀ j r : Int, 0 ≤ j → j ≤ (c + 1 : Nat) → DkShape (c + 1) [hd, .int j, .int r] := fun j r a b => ⟨hd, j, r, rfl, ⟨ns, hns, hl⟩, a, b⟩
  by_cases m2 : many < 2
  · simp only [↓n_asg_if, BQ.n_rt, sSeq, sNext, sRet, sRetF, sRetO, sDrop, sSet, sOwn, sAsg, sPar, sPar3, sAug, sApp, sIf, dIf, dTest, dAnd, dOr, dNot, dAndV, dOrV, d1, d2, d2F, dVar, dOwn, dC, dF, dTup, dLst, dNil, dCons, dCB, dCB1, dCF1, dChain, dChain3, dCall, dCallF, dCallK, aNil, aCons, aDk, dGn, dGnil, dGcons, dGtup, dOdIx, dGsub, dIdxT, dIdxL, dSlT, dSlL, dPart, dNoPart, dIl, dIt, frz, opn, cls, catD, startR, arS, seqOf, n_add, n_addT, n_sub, n_mul, n_fdiv, n_mod, n_pow, n_shl, n_cmp, n_is, n_neg, n_not, n_ixL, n_ixT, n_lenL, n_lenT, n_abs, n_gcd, n_isqrt, n_int, n_tupL, n_tupT, at10, at1n, at20, at21, at2n, at30, at31, at32, at3n, fD, mD, wipeR, dYes, ix32, ix31, n_boolC, sz0, sz1, sz2, sz3, sz4, sz5, sz6, sz7, sz8, n_eqI, n_neI, n_eq3, n_ne3, n_isi_int, n_isi_bool, n_isi_tuple, List.map_cons, List.map_nil, List.length_cons, List.length_nil, List.replicate, List.set_cons_zero, List.set_cons_succ, List.getElem?_cons_zero, List.getElem?_cons_succ, List.filter_cons, List.filter_nil, Ar.isDk, List.all_cons, List.all_nil, no_dt, no_un, no_ow, no_dk, Bool.and_eq_true, Bool.true_and, Bool.and_true, Bool.false_eq_true, if_false, if_true, ite_true, ite_false, Option.some.injEq, exists_eq_left', true_and, and_true, List.cons_append, List.nil_append, Nat.sub_self, decide_eq_true_eq, Nat.reduceAdd, Nat.reduceSub, Nat.zero_add, Nat.le_refl, Nat.zero_le]
    rw [if_pos m2]
    exact h 0 (Int.le_refl 0) (.inr ⟨m2, rfl⟩)
  have mf : ∀ x : Int, 0 ≤ x.fmod many ∧ x.fmod many < many := fun x => fmod_lt' (by omega)
  have fin : ∀ x : Int, Φ (.int (x.fmod many)) (c + 1) := fun x => h _ (mf x).1 (.inl (mf x).2)
  have dm : DivOk many := dOk (by omega) (by omega) (by omega)
  have m0 : many ≠ 0 := by omega
  have f1 : ∀ x : Int, 0 ≤ x.fmod 2147483647 ∧ x.fmod 2147483647 < 2147483647 := fun x => fmod_lt' (by omega)
  have f2 : ∀ x : Int, 0 ≤ x.fmod 2147483629 ∧ x.fmod 2147483629 < 2147483629 := fun x => fmod_lt' (by omega)
  have s1 := sh (k + 1) r0 (by omega) (by omega)
  have s2 := fun q : Int => sh k q k0 (by omega)
  have s3 := fun q : Int => sh (k + 1) q (by omega) (by omega)
  have tail : ∀ z : Int, (999999937 : Int) ≠ 0 ∧ IntMulOk 101 (k + 1) ∧ IntMulOk (z.fmod 999999937 + 101 * (k + 1)) 630360016 ∧ (2147483647 : Int) ≠ 0 ∧ IntMulOk (((z.fmod 999999937 + 101 * (k + 1)) * 630360016).fmod 2147483647) (((z.fmod 999999937 + 101 * (k + 1)) * 630360016).fmod 2147483647) ∧
      IntMulOk (k + 1) 62089911 ∧ (2147483629 : Int) ≠ 0 ∧ ∀ u : Int, IntMulOk 3 (k + 1) ∧ IntMulOk (u.fmod 2147483629 + (k + 1)) (u.fmod 2147483629 + 3 * (k + 1) + 1) := fun z => by
    refine ⟨by decide, mL (by decide) (by decide), mR (by decide) (by decide), by decide, ?_, mR (by decide) (by decide), by decide, fun u => ⟨mL (by decide) (by decide), ?_⟩⟩
    · have := f1 ((z.fmod 999999937 + 101 * (k + 1)) * 630360016)
      exact mL (by omega) (by omega)
    · have := f2 u
      exact mL (by omega) (by omega)
  have d8 : DivOk 8 := dOk (by decide) (by decide) (by decide)
  have p18 : CPow 10 18 := ⟨by decide, by decide, by decide⟩
  rcases hns with rfl | rfl
  all_goals
    simp only [↓n_asg_if, BQ.n_rt, sSeq, sNext, sRet, sRetF, sRetO, sDrop, sSet, sOwn, sAsg, sPar, sPar3, sAug, sApp, sIf, dIf, dTest, dAnd, dOr, dNot, dAndV, dOrV, d1, d2, d2F, dVar, dOwn, dC, dF, dTup, dLst, dNil, dCons, dCB, dCB1, dCF1, dChain, dChain3, dCall, dCallF, dCallK, aNil, aCons, aDk, dGn, dGnil, dGcons, dGtup, dOdIx, dGsub, dIdxT, dIdxL, dSlT, dSlL, dPart, dNoPart, dIl, dIt, frz, opn, cls, catD, startR, arS, seqOf, n_add, n_addT, n_sub, n_mul, n_fdiv, n_mod, n_pow, n_shl, n_cmp, n_is, n_neg, n_not, n_ixL, n_ixT, n_lenL, n_lenT, n_abs, n_gcd, n_isqrt, n_int, n_tupL, n_tupT, at10, at1n, at20, at21, at2n, at30, at31, at32, at3n, fD, mD, wipeR, dYes, ix32, ix31, n_boolC, sz0, sz1, sz2, sz3, sz4, sz5, sz6, sz7, sz8, n_eqI, n_neI, n_eq3, n_ne3, n_isi_int, n_isi_bool, n_isi_tuple, List.map_cons, List.map_nil, List.length_cons, List.length_nil, List.replicate, List.set_cons_zero, List.set_cons_succ, List.getElem?_cons_zero, List.getElem?_cons_succ, List.filter_cons, List.filter_nil, Ar.isDk, List.all_cons, List.all_nil, no_dt, no_un, no_ow, no_dk, Bool.and_eq_true, Bool.true_and, Bool.and_true, Bool.false_eq_true, if_false, if_true, ite_true, ite_false, Option.some.injEq, exists_eq_left', true_and, and_true, List.cons_append, List.nil_append, Nat.sub_self, decide_eq_true_eq, Nat.reduceAdd, Nat.reduceSub, Nat.zero_add, Nat.le_refl, Nat.zero_le]
    rw [if_neg m2]
    by_cases r0p : 0 < r0
    · rw [if_pos r0p]
      exact ⟨m0, dm, s2 _, fin _⟩
    · rw [if_neg r0p]
      refine ⟨s1, ?_⟩
      rw [List.length_map]
      by_cases l0 : (0 : Int) < ns.length
      · rw [if_pos l0]
        have g1 := fmod_lt' (x := k + 1 - 1) (w := (ns.length : Int)) l0
        obtain ⟨z, _, ez⟩ := atI_ints (ns := ns) g1.1 g1.2
        refine ⟨by omega, .int z, ez, ?_⟩
        simp only [↓n_asg_if, BQ.n_rt, sSeq, sNext, sRet, sRetF, sRetO, sDrop, sSet, sOwn, sAsg, sPar, sPar3, sAug, sApp, sIf, dIf, dTest, dAnd, dOr, dNot, dAndV, dOrV, d1, d2, d2F, dVar, dOwn, dC, dF, dTup, dLst, dNil, dCons, dCB, dCB1, dCF1, dChain, dChain3, dCall, dCallF, dCallK, aNil, aCons, aDk, dGn, dGnil, dGcons, dGtup, dOdIx, dGsub, dIdxT, dIdxL, dSlT, dSlL, dPart, dNoPart, dIl, dIt, frz, opn, cls, catD, startR, arS, seqOf, n_add, n_addT, n_sub, n_mul, n_fdiv, n_mod, n_pow, n_shl, n_cmp, n_is, n_neg, n_not, n_ixL, n_ixT, n_lenL, n_lenT, n_abs, n_gcd, n_isqrt, n_int, n_tupL, n_tupT, at10, at1n, at20, at21, at2n, at30, at31, at32, at3n, fD, mD, wipeR, dYes, ix32, ix31, n_boolC, sz0, sz1, sz2, sz3, sz4, sz5, sz6, sz7, sz8, n_eqI, n_neI, n_eq3, n_ne3, n_isi_int, n_isi_bool, n_isi_tuple, List.map_cons, List.map_nil, List.length_cons, List.length_nil, List.replicate, List.set_cons_zero, List.set_cons_succ, List.getElem?_cons_zero, List.getElem?_cons_succ, List.filter_cons, List.filter_nil, Ar.isDk, List.all_cons, List.all_nil, no_dt, no_un, no_ow, no_dk, Bool.and_eq_true, Bool.true_and, Bool.and_true, Bool.false_eq_true, if_false, if_true, ite_true, ite_false, Option.some.injEq, exists_eq_left', true_and, and_true, List.cons_append, List.nil_append, Nat.sub_self, decide_eq_true_eq, Nat.reduceAdd, Nat.reduceSub, Nat.zero_add, Nat.le_refl, Nat.zero_le]
        obtain ⟨t1, t2, t3, t4, t5, t6, t7, t8⟩ := tail z
        split
        · refine ⟨p18, ?_⟩
          split
          · exact ⟨dm, s3 _, m0, fin _⟩
          · exact ⟨t1, t2, t3, t4, t5, t6, t7, (t8 0).1, (t8 _).2, t1, d8, m0, fin _⟩
        · exact ⟨t1, t2, t3, t4, t5, t6, t7, (t8 0).1, (t8 _).2, t1, d8, m0, fin _⟩
      · rw [if_neg l0]
        obtain ⟨t1, t2, t3, t4, t5, t6, t7, t8⟩ := tail 0
        split
        · refine ⟨p18, ?_⟩
          split
          · exact ⟨dm, s3 _, m0, fin _⟩
          · exact ⟨t1, t2, t3, t4, t5, t6, t7, (t8 0).1, (t8 _).2, t1, d8, m0, fin _⟩
        · exact ⟨t1, t2, t3, t4, t5, t6, t7, (t8 0).1, (t8 _).2, t1, d8, m0, fin _⟩
def sd__law_one_of : Sd := fun c as y Φ Ψ => ∃ ds : List PyData, as = [.dk, .dt (.list ds)] ∧ ds ≠ [] ∧ ds.length ≤ sizeLine ∧ c < 2 ^ 40 ∧ ∀ d, d ∈ ds → Φ d (c + 1)
theorem ok__law_one_of (Mx : Mo K mg) (C__law_any : Cl false P w K mg base 1 "_law_any" ["seed", "many"] sd__law_any) : Cl false P w K mg base 2 "_law_one_of" ["seed", "items"] sd__law_one_of := by
  obtain ⟨fd, hm, Fn0⟩ := Mx.fn 42 "_law_one_of" (by decide +kernel)
  have hN : (["seed", "items"] : List Str).Nodup := by decide +kernel
  have Sc0 : FnScope ["seed", "items"] ["seed", "items"] (defScope (top 42)) := ⟨rfl, rfl, rfl, hN, rfl, by decide +kernel, by decide +kernel⟩
  refine cl_mk Fn0 hm Sc0 (fun _ _ _ _ _ _ us hl => match us, hl with | [_, _], _ => rfl) (fun _ _ _ _ _ _ us hl => match us, hl with | [_, _], _ => rfl) fun cdv A outer s H E hr hG tk hp => ⟨_, (ss_one (s_ret (e_ix (r_own (pv 1)) (e_callC C__law_any (by decide) hr nog (by rfl) tk (a_dk (pv 0) (a_cons (e_callB1 c_len (by rfl) (Mx.fr "len" (by decide +kernel)) b_len (r_own (pv 1))) a_nil)))))), fun c as y Φ Ψ hn hs => ?_⟩
  obtain ⟨ds, rfl, h1, h2, h3, h⟩ := hs
  simp only [↓n_asg_if, BQ.n_rt, sSeq, sNext, sRet, sRetF, sRetO, sDrop, sSet, sOwn, sAsg, sPar, sPar3, sAug, sApp, sIf, dIf, dTest, dAnd, dOr, dNot, dAndV, dOrV, d1, d2, d2F, dVar, dOwn, dC, dF, dTup, dLst, dNil, dCons, dCB, dCB1, dCF1, dChain, dChain3, dCall, dCallF, dCallK, aNil, aCons, aDk, dGn, dGnil, dGcons, dGtup, dOdIx, dGsub, dIdxT, dIdxL, dSlT, dSlL, dPart, dNoPart, dIl, dIt, frz, opn, cls, catD, startR, arS, seqOf, n_add, n_addT, n_sub, n_mul, n_fdiv, n_mod, n_pow, n_shl, n_cmp, n_is, n_neg, n_not, n_ixL, n_ixT, n_lenL, n_lenT, n_abs, n_gcd, n_isqrt, n_int, n_tupL, n_tupT, at10, at1n, at20, at21, at2n, at30, at31, at32, at3n, fD, mD, wipeR, dYes, ix32, ix31, n_boolC, sz0, sz1, sz2, sz3, sz4, sz5, sz6, sz7, sz8, n_eqI, n_neI, n_eq3, n_ne3, n_isi_int, n_isi_bool, n_isi_tuple, List.map_cons, List.map_nil, List.length_cons, List.length_nil, List.replicate, List.set_cons_zero, List.set_cons_succ, List.getElem?_cons_zero, List.getElem?_cons_succ, List.filter_cons, List.filter_nil, Ar.isDk, List.all_cons, List.all_nil, no_dt, no_un, no_ow, no_dk, Bool.and_eq_true, Bool.true_and, Bool.and_true, Bool.false_eq_true, if_false, if_true, ite_true, ite_false, Option.some.injEq, exists_eq_left', true_and, and_true, List.cons_append, List.nil_append, Nat.sub_self, decide_eq_true_eq, Nat.reduceAdd, Nat.reduceSub, Nat.zero_add, Nat.le_refl, Nat.zero_le]
  have l0 : 0 < ds.length := List.length_pos_iff.mpr h1
  have sz := sizeLine_eq
  refine ⟨ds.length, rfl, by omega, h3, fun r r0 r1 => ?_⟩
  obtain ⟨z, hz, ez⟩ := atI_mem (ds := ds) r0 (by omega)
  exact ⟨z, ez, h z hz⟩
def sd__law_gcd : Sd := fun c as y Φ Ψ => ∃ u v : Int, as = [.dt (.int u), .dt (.int v)] ∧ Φ (.int (Int.gcd u v)) c
theorem ok__law_gcd (Mx : Mo K mg)  : Cl false P w K mg base 1 "_law_gcd" ["one", "other"] sd__law_gcd := by
  obtain ⟨fd, hm, Fn0⟩ := Mx.fn 43 "_law_gcd" (by decide +kernel)
  have hN : (["one", "other", "first", "second"] : List Str).Nodup := by decide +kernel
  have Sc0 : FnScope ["one", "other", "first", "second"] ["one", "other"] (defScope (top 43)) := ⟨rfl, rfl, rfl, hN, rfl, by decide +kernel, by decide +kernel⟩
  refine cl_mk Fn0 hm Sc0 (fun _ _ _ _ _ _ us hl => match us, hl with | [_, _], _ => rfl) (fun _ _ _ _ _ _ us hl => match us, hl with | [_, _], _ => rfl) fun cdv A outer s H E hr hG tk hp => ⟨_, (ss_cons (s_par (i := 2) (j := 3) rfl hN rfl rfl (by decide) rfl rfl (l_cons (e_callB c_abs (by rfl) (Mx.fr "abs" (by decide +kernel)) b_abs (l_cons (e_var (pv 0)) l_nil)) (l_cons (e_callB c_abs (by rfl) (Mx.fr "abs" (by decide +kernel)) b_abs (l_cons (e_var (pv 1)) l_nil)) l_nil)) rfl)
    (ss_cons (s_while hp (t_cmp o_gt (r_own (pv 3)) e_int.r rfl) (ss_one (s_par (i := 2) (j := 3) rfl hN rfl rfl (by decide) rfl rfl (l_cons (e_var (pv 3)) (l_cons (e_bin o_mod (e_callTy c_int (by rfl) (Mx.fr "int" (by decide +kernel)) b_int (l_cons (e_var (pv 2)) l_nil)).r (r_own (pv 3))) l_nil)) rfl)))
    (ss_one (s_ret (e_var (pv 2)))))), fun c as y Φ Ψ hn hs => ?_⟩
  obtain ⟨u, v, rfl, h⟩ := hs
  simp only [↓n_asg_if, BQ.n_rt, sSeq, sNext, sRet, sRetF, sRetO, sDrop, sSet, sOwn, sAsg, sPar, sPar3, sAug, sApp, sIf, dIf, dTest, dAnd, dOr, dNot, dAndV, dOrV, d1, d2, d2F, dVar, dOwn, dC, dF, dTup, dLst, dNil, dCons, dCB, dCB1, dCF1, dChain, dChain3, dCall, dCallF, dCallK, aNil, aCons, aDk, dGn, dGnil, dGcons, dGtup, dOdIx, dGsub, dIdxT, dIdxL, dSlT, dSlL, dPart, dNoPart, dIl, dIt, frz, opn, cls, catD, startR, arS, seqOf, n_add, n_addT, n_sub, n_mul, n_fdiv, n_mod, n_pow, n_shl, n_cmp, n_is, n_neg, n_not, n_ixL, n_ixT, n_lenL, n_lenT, n_abs, n_gcd, n_isqrt, n_int, n_tupL, n_tupT, at10, at1n, at20, at21, at2n, at30, at31, at32, at3n, fD, mD, wipeR, dYes, ix32, ix31, n_boolC, sz0, sz1, sz2, sz3, sz4, sz5, sz6, sz7, sz8, n_eqI, n_neI, n_eq3, n_ne3, n_isi_int, n_isi_bool, n_isi_tuple, List.map_cons, List.map_nil, List.length_cons, List.length_nil, List.replicate, List.set_cons_zero, List.set_cons_succ, List.getElem?_cons_zero, List.getElem?_cons_succ, List.filter_cons, List.filter_nil, Ar.isDk, List.all_cons, List.all_nil, no_dt, no_un, no_ow, no_dk, Bool.and_eq_true, Bool.true_and, Bool.and_true, Bool.false_eq_true, if_false, if_true, ite_true, ite_false, Option.some.injEq, exists_eq_left', true_and, and_true, List.cons_append, List.nil_append, Nat.sub_self, decide_eq_true_eq, Nat.reduceAdd, Nat.reduceSub, Nat.zero_add, Nat.le_refl, Nat.zero_le]
  refine ⟨fun m c' ρ => ∃ a b : Nat, ρ = [.dt (.int u), .dt (.int v), .dt (.int a), .dt (.int b)] ∧ c' = c ∧ Nat.gcd a b = Int.gcd u v ∧ m = b, ⟨v.natAbs, u.natAbs, v.natAbs, rfl, rfl, rfl, rfl⟩, ?_⟩
  rintro m c' ρ ⟨a, b, rfl, rfl, hg, hm⟩
  simp only [↓n_asg_if, BQ.n_rt, sSeq, sNext, sRet, sRetF, sRetO, sDrop, sSet, sOwn, sAsg, sPar, sPar3, sAug, sApp, sIf, dIf, dTest, dAnd, dOr, dNot, dAndV, dOrV, d1, d2, d2F, dVar, dOwn, dC, dF, dTup, dLst, dNil, dCons, dCB, dCB1, dCF1, dChain, dChain3, dCall, dCallF, dCallK, aNil, aCons, aDk, dGn, dGnil, dGcons, dGtup, dOdIx, dGsub, dIdxT, dIdxL, dSlT, dSlL, dPart, dNoPart, dIl, dIt, frz, opn, cls, catD, startR, arS, seqOf, n_add, n_addT, n_sub, n_mul, n_fdiv, n_mod, n_pow, n_shl, n_cmp, n_is, n_neg, n_not, n_ixL, n_ixT, n_lenL, n_lenT, n_abs, n_gcd, n_isqrt, n_int, n_tupL, n_tupT, at10, at1n, at20, at21, at2n, at30, at31, at32, at3n, fD, mD, wipeR, dYes, ix32, ix31, n_boolC, sz0, sz1, sz2, sz3, sz4, sz5, sz6, sz7, sz8, n_eqI, n_neI, n_eq3, n_ne3, n_isi_int, n_isi_bool, n_isi_tuple, List.map_cons, List.map_nil, List.length_cons, List.length_nil, List.replicate, List.set_cons_zero, List.set_cons_succ, List.getElem?_cons_zero, List.getElem?_cons_succ, List.filter_cons, List.filter_nil, Ar.isDk, List.all_cons, List.all_nil, no_dt, no_un, no_ow, no_dk, Bool.and_eq_true, Bool.true_and, Bool.and_true, Bool.false_eq_true, if_false, if_true, ite_true, ite_false, Option.some.injEq, exists_eq_left', true_and, and_true, List.cons_append, List.nil_append, Nat.sub_self, decide_eq_true_eq, Nat.reduceAdd, Nat.reduceSub, Nat.zero_add, Nat.le_refl, Nat.zero_le]
  by_cases hb : (0 : Int) < b
  · rw [if_pos hb]
    have e : (a : Int).fmod b = ((a % b : Nat) : Int) := by
      rw [Int.fmod_eq_emod_of_nonneg _ (by omega)]; rfl
    rw [e]
    refine ⟨by omega, a % b, by rw [hm]; exact Nat.mod_lt _ (by omega), b, a % b, rfl, ?_, rfl⟩
    rw [← hg, Nat.gcd_comm a b, Nat.gcd_rec b a, Nat.gcd_comm]
  · rw [if_neg hb]
    have b0 : b = 0 := by omega
    rw [b0, Nat.gcd_zero_right] at hg
    rw [hg]
    exact h
def sd__law_is_integer : Sd := fun c as y Φ Ψ => ∃ d, as = [.dt d] ∧ Φ (.bool (isI d)) c
theorem ok__law_is_integer (Mx : Mo K mg)  : Cl false P w K mg base 1 "_law_is_integer" ["value"] sd__law_is_integer := by
  obtain ⟨fd, hm, Fn0⟩ := Mx.fn 44 "_law_is_integer" (by decide +kernel)
  have hN : (["value"] : List Str).Nodup := by decide +kernel
  have Sc0 : FnScope ["value"] ["value"] (defScope (top 44)) := ⟨rfl, rfl, rfl, hN, rfl, by decide +kernel, by decide +kernel⟩
  refine cl_mk Fn0 hm Sc0 (fun _ _ _ _ _ _ us hl => match us, hl with | [_], _ => rfl) (fun _ _ _ _ _ _ us hl => match us, hl with | [_], _ => rfl) fun cdv A outer s H E hr hG tk hp => ⟨_, (ss_one (s_ret (e_and (e_isi (by rfl) (Mx.fr "isinstance" (by decide +kernel)) b_isinstance (r_own (pv 0)) (by rfl) (Mx.fr "int" (by decide +kernel)) b_int) (e_one (e_not (e_isi (by rfl) (Mx.fr "isinstance" (by decide +kernel)) b_isinstance (r_own (pv 0)) (by rfl) (Mx.fr "bool" (by decide +kernel)) b_bool)))))), fun c as y Φ Ψ hn hs => ?_⟩
  obtain ⟨d, rfl, h⟩ := hs
  simp only [↓n_asg_if, BQ.n_rt, sSeq, sNext, sRet, sRetF, sRetO, sDrop, sSet, sOwn, sAsg, sPar, sPar3, sAug, sApp, sIf, dIf, dTest, dAnd, dOr, dNot, dAndV, dOrV, d1, d2, d2F, dVar, dOwn, dC, dF, dTup, dLst, dNil, dCons, dCB, dCB1, dCF1, dChain, dChain3, dCall, dCallF, dCallK, aNil, aCons, aDk, dGn, dGnil, dGcons, dGtup, dOdIx, dGsub, dIdxT, dIdxL, dSlT, dSlL, dPart, dNoPart, dIl, dIt, frz, opn, cls, catD, startR, arS, seqOf, n_add, n_addT, n_sub, n_mul, n_fdiv, n_mod, n_pow, n_shl, n_cmp, n_is, n_neg, n_not, n_ixL, n_ixT, n_lenL, n_lenT, n_abs, n_gcd, n_isqrt, n_int, n_tupL, n_tupT, at10, at1n, at20, at21, at2n, at30, at31, at32, at3n, fD, mD, wipeR, dYes, ix32, ix31, n_boolC, sz0, sz1, sz2, sz3, sz4, sz5, sz6, sz7, sz8, n_eqI, n_neI, n_eq3, n_ne3, n_isi_int, n_isi_bool, n_isi_tuple, List.map_cons, List.map_nil, List.length_cons, List.length_nil, List.replicate, List.set_cons_zero, List.set_cons_succ, List.getElem?_cons_zero, List.getElem?_cons_succ, List.filter_cons, List.filter_nil, Ar.isDk, List.all_cons, List.all_nil, no_dt, no_un, no_ow, no_dk, Bool.and_eq_true, Bool.true_and, Bool.and_true, Bool.false_eq_true, if_false, if_true, ite_true, ite_false, Option.some.injEq, exists_eq_left', true_and, and_true, List.cons_append, List.nil_append, Nat.sub_self, decide_eq_true_eq, Nat.reduceAdd, Nat.reduceSub, Nat.zero_add, Nat.le_refl, Nat.zero_le]
  cases d <;> simpa [dInt, dBool, isI] using h
def sd__law_whole_root : Sd := fun c as y Φ Ψ => ∃ n : Int, as = [.dt (.int n)] ∧ 0 ≤ n ∧ n < 2 ^ 60 ∧ Φ (.int (rt n)) c
theorem ok__law_whole_root (Mx : Mo K mg)  : Cl false P w K mg base 1 "_law_whole_root" ["n"] sd__law_whole_root := by
  obtain ⟨fd, hm, Fn0⟩ := Mx.fn 45 "_law_whole_root" (by decide +kernel)
  have hN : (["n", "low", "high", "mean"] : List Str).Nodup := by decide +kernel
  have Sc0 : FnScope ["n", "low", "high", "mean"] ["n"] (defScope (top 45)) := ⟨rfl, rfl, rfl, hN, rfl, by decide +kernel, by decide +kernel⟩
  refine cl_mk Fn0 hm Sc0 (fun _ _ _ _ _ _ us hl => match us, hl with | [_], _ => rfl) (fun _ _ _ _ _ _ us hl => match us, hl with | [_], _ => rfl) fun cdv A outer s H E hr hG tk hp => ⟨_, (ss_cons (s_asg (e_tup (l_cons e_int (l_cons e_int l_nil))) (g_tup (n := 2) (by rfl) (gs_cons ((c_name (i := 1) hN (by rfl) (by first | exact .inl rfl | exact .inr rfl) (by first | exact .inl rfl | exact .inr rfl)).g) (gs_cons ((c_name (i := 2) hN (by rfl) (by first | exact .inl rfl | exact .inr rfl) (by first | exact .inl rfl | exact .inr rfl)).g) gs_nil))))
    (ss_cons (s_while hp (t_cmp o_le (e_bin o_mul (r_own (pv 2)) (r_own (pv 2))).r (r_own (pv 0)) rfl) (ss_one (s_par (i := 1) (j := 2) rfl hN rfl rfl (by decide) rfl rfl (l_cons (e_var (pv 2)) (l_cons (e_bin o_mul e_int.r (r_own (pv 2))) l_nil)) rfl)))
    (ss_cons (s_while hp (t_cmp o_gt (e_bin o_sub (r_own (pv 2)) (r_own (pv 1))).r e_int.r rfl) (ss_cons (s_set (i := 3) hN (by rfl) (by first | exact .inl rfl | exact .inr rfl) (e_bin o_fdiv (e_bin o_add (r_own (pv 1)) (r_own (pv 2))).r e_int.r))
    (ss_one (s_asg (e_if (t_cmp o_le (e_bin o_mul (r_own (pv 3)) (r_own (pv 3))).r (r_own (pv 0)) rfl) (e_tup (l_cons (e_var (pv 3)) (l_cons (e_var (pv 2)) l_nil))) (e_tup (l_cons (e_var (pv 1)) (l_cons (e_var (pv 3)) l_nil)))) (g_tup (n := 2) (by rfl) (gs_cons ((c_name (i := 1) hN (by rfl) (by first | exact .inl rfl | exact .inr rfl) (by first | exact .inl rfl | exact .inr rfl)).g) (gs_cons ((c_name (i := 2) hN (by rfl) (by first | exact .inl rfl | exact .inr rfl) (by first | exact .inl rfl | exact .inr rfl)).g) gs_nil)))))))
    (ss_one (s_ret (e_var (pv 1))))))), fun c as y Φ Ψ hn hs => ?_⟩
  obtain ⟨n, rfl, h1, h2, h⟩ := hs
  simp only [↓n_asg_if, BQ.n_rt, sSeq, sNext, sRet, sRetF, sRetO, sDrop, sSet, sOwn, sAsg, sPar, sPar3, sAug, sApp, sIf, dIf, dTest, dAnd, dOr, dNot, dAndV, dOrV, d1, d2, d2F, dVar, dOwn, dC, dF, dTup, dLst, dNil, dCons, dCB, dCB1, dCF1, dChain, dChain3, dCall, dCallF, dCallK, aNil, aCons, aDk, dGn, dGnil, dGcons, dGtup, dOdIx, dGsub, dIdxT, dIdxL, dSlT, dSlL, dPart, dNoPart, dIl, dIt, frz, opn, cls, catD, startR, arS, seqOf, n_add, n_addT, n_sub, n_mul, n_fdiv, n_mod, n_pow, n_shl, n_cmp, n_is, n_neg, n_not, n_ixL, n_ixT, n_lenL, n_lenT, n_abs, n_gcd, n_isqrt, n_int, n_tupL, n_tupT, at10, at1n, at20, at21, at2n, at30, at31, at32, at3n, fD, mD, wipeR, dYes, ix32, ix31, n_boolC, sz0, sz1, sz2, sz3, sz4, sz5, sz6, sz7, sz8, n_eqI, n_neI, n_eq3, n_ne3, n_isi_int, n_isi_bool, n_isi_tuple, List.map_cons, List.map_nil, List.length_cons, List.length_nil, List.replicate, List.set_cons_zero, List.set_cons_succ, List.getElem?_cons_zero, List.getElem?_cons_succ, List.filter_cons, List.filter_nil, Ar.isDk, List.all_cons, List.all_nil, no_dt, no_un, no_ow, no_dk, Bool.and_eq_true, Bool.true_and, Bool.and_true, Bool.false_eq_true, if_false, if_true, ite_true, ite_false, Option.some.injEq, exists_eq_left', true_and, and_true, List.cons_append, List.nil_append, Nat.sub_self, decide_eq_true_eq, Nat.reduceAdd, Nat.reduceSub, Nat.zero_add, Nat.le_refl, Nat.zero_le]
  refine ⟨fun m c' ρ => ∃ (lo hi : Int) (sl : Sl), ρ = [.dt (.int n), .dt (.int lo), .dt (.int hi), sl] ∧ sl.notOd = true ∧ c' = c ∧ 0 ≤ lo ∧ lo < hi ∧ hi ≤ 2 ^ 31 ∧ lo * lo ≤ n ∧ m = (n + 1 - hi).toNat, ⟨_, 0, 1, .un, rfl, rfl, rfl, by decide, by decide, by decide, by omega, rfl⟩, ?_⟩
  rintro m c' ρ ⟨lo, hi, sl, rfl, hsl, rfl, l0, lh, h31, ll, rfl⟩
  simp only [↓n_asg_if, BQ.n_rt, sSeq, sNext, sRet, sRetF, sRetO, sDrop, sSet, sOwn, sAsg, sPar, sPar3, sAug, sApp, sIf, dIf, dTest, dAnd, dOr, dNot, dAndV, dOrV, d1, d2, d2F, dVar, dOwn, dC, dF, dTup, dLst, dNil, dCons, dCB, dCB1, dCF1, dChain, dChain3, dCall, dCallF, dCallK, aNil, aCons, aDk, dGn, dGnil, dGcons, dGtup, dOdIx, dGsub, dIdxT, dIdxL, dSlT, dSlL, dPart, dNoPart, dIl, dIt, frz, opn, cls, catD, startR, arS, seqOf, n_add, n_addT, n_sub, n_mul, n_fdiv, n_mod, n_pow, n_shl, n_cmp, n_is, n_neg, n_not, n_ixL, n_ixT, n_lenL, n_lenT, n_abs, n_gcd, n_isqrt, n_int, n_tupL, n_tupT, at10, at1n, at20, at21, at2n, at30, at31, at32, at3n, fD, mD, wipeR, dYes, ix32, ix31, n_boolC, sz0, sz1, sz2, sz3, sz4, sz5, sz6, sz7, sz8, n_eqI, n_neI, n_eq3, n_ne3, n_isi_int, n_isi_bool, n_isi_tuple, List.map_cons, List.map_nil, List.length_cons, List.length_nil, List.replicate, List.set_cons_zero, List.set_cons_succ, List.getElem?_cons_zero, List.getElem?_cons_succ, List.filter_cons, List.filter_nil, Ar.isDk, List.all_cons, List.all_nil, no_dt, no_un, no_ow, no_dk, Bool.and_eq_true, Bool.true_and, Bool.and_true, Bool.false_eq_true, if_false, if_true, ite_true, ite_false, Option.some.injEq, exists_eq_left', true_and, and_true, List.cons_append, List.nil_append, Nat.sub_self, decide_eq_true_eq, Nat.reduceAdd, Nat.reduceSub, Nat.zero_add, Nat.le_refl, Nat.zero_le]
  refine ⟨mL (by omega) (by omega), ?_⟩
  by_cases hh : hi * hi ≤ n
  · rw [if_pos hh]
    have : hi < 2 ^ 30 := sqlt (by decide) (by omega)
    have : hi * 1 ≤ hi * hi := Int.mul_le_mul_of_nonneg_left (by omega) (by omega)
    exact ⟨mL (by decide) (by decide), _, by omega, hi, 2 * hi, sl, rfl, hsl, by omega, by omega, by omega, hh, rfl⟩
  · rw [if_neg hh]
    refine ⟨fun m c1 ρ => ∃ (lo hi : Int) (sl : Sl), ρ = [.dt (.int n), .dt (.int lo), .dt (.int hi), sl] ∧ sl.notOd = true ∧ c1 = c' ∧ 0 ≤ lo ∧ lo < hi ∧ hi ≤ 2 ^ 31 ∧ lo * lo ≤ n ∧ n < hi * hi ∧ m = (hi - lo).toNat, ⟨_, lo, hi, sl, rfl, hsl, rfl, l0, lh, h31, ll, by omega, rfl⟩, ?_⟩
    rintro m c1 ρ ⟨lo, hi, sl, rfl, hsl, rfl, l0, lh, h31, ll, hl, rfl⟩
    simp only [↓n_asg_if, BQ.n_rt, sSeq, sNext, sRet, sRetF, sRetO, sDrop, sSet, sOwn, sAsg, sPar, sPar3, sAug, sApp, sIf, dIf, dTest, dAnd, dOr, dNot, dAndV, dOrV, d1, d2, d2F, dVar, dOwn, dC, dF, dTup, dLst, dNil, dCons, dCB, dCB1, dCF1, dChain, dChain3, dCall, dCallF, dCallK, aNil, aCons, aDk, dGn, dGnil, dGcons, dGtup, dOdIx, dGsub, dIdxT, dIdxL, dSlT, dSlL, dPart, dNoPart, dIl, dIt, frz, opn, cls, catD, startR, arS, seqOf, n_add, n_addT, n_sub, n_mul, n_fdiv, n_mod, n_pow, n_shl, n_cmp, n_is, n_neg, n_not, n_ixL, n_ixT, n_lenL, n_lenT, n_abs, n_gcd, n_isqrt, n_int, n_tupL, n_tupT, at10, at1n, at20, at21, at2n, at30, at31, at32, at3n, fD, mD, wipeR, dYes, ix32, ix31, n_boolC, sz0, sz1, sz2, sz3, sz4, sz5, sz6, sz7, sz8, n_eqI, n_neI, n_eq3, n_ne3, n_isi_int, n_isi_bool, n_isi_tuple, List.map_cons, List.map_nil, List.length_cons, List.length_nil, List.replicate, List.set_cons_zero, List.set_cons_succ, List.getElem?_cons_zero, List.getElem?_cons_succ, List.filter_cons, List.filter_nil, Ar.isDk, List.all_cons, List.all_nil, no_dt, no_un, no_ow, no_dk, Bool.and_eq_true, Bool.true_and, Bool.and_true, Bool.false_eq_true, if_false, if_true, ite_true, ite_false, Option.some.injEq, exists_eq_left', true_and, and_true, List.cons_append, List.nil_append, Nat.sub_self, decide_eq_true_eq, Nat.reduceAdd, Nat.reduceSub, Nat.zero_add, Nat.le_refl, Nat.zero_le]
    by_cases hd : 1 < hi - lo
    · rw [if_pos hd]
      have e : (lo + hi).fdiv 2 = (lo + hi) / 2 := by rw [Int.fdiv_eq_ediv_of_nonneg _ (by decide)]
      rw [e]
      refine ⟨dOk (by decide) (by decide) (by decide), mL (by omega) (by omega), ?_⟩
      by_cases hm : (lo + hi) / 2 * ((lo + hi) / 2) ≤ n
      · rw [if_pos hm]
        exact ⟨_, by omega, (lo + hi) / 2, hi, _, rfl, rfl, by omega, by omega, h31, hm, hl, rfl⟩
      · rw [if_neg hm]
        exact ⟨_, by omega, lo, (lo + hi) / 2, _, rfl, rfl, l0, by omega, by omega, ll, by omega, rfl⟩
    · rw [if_neg hd]
      have : hi = lo + 1 := by omega
      subst this
      rw [rt_unique l0 ll hl] at h
      exact h
def sd__law_disc : Sd := fun c as y Φ Ψ => ∃ f : F, as = [.dt (fD f)] ∧ DiscOk f ∧ Φ (.int f.disc) c
theorem ok__law_disc (Mx : Mo K mg)  : Cl false P w K mg base 1 "_law_disc" ["form"] sd__law_disc := by
  obtain ⟨fd, hm, Fn0⟩ := Mx.fn 46 "_law_disc" (by decide +kernel)
  have hN : (["form"] : List Str).Nodup := by decide +kernel
  have Sc0 : FnScope ["form"] ["form"] (defScope (top 46)) := ⟨rfl, rfl, rfl, hN, rfl, by decide +kernel, by decide +kernel⟩
  refine cl_mk Fn0 hm Sc0 (fun _ _ _ _ _ _ us hl => match us, hl with | [_], _ => rfl) (fun _ _ _ _ _ _ us hl => match us, hl with | [_], _ => rfl) fun cdv A outer s H E hr hG tk hp => ⟨_, (ss_one (s_ret (e_bin o_sub (e_bin o_mul (e_ix (r_own (pv 0)) e_int).r (e_ix (r_own (pv 0)) e_int).r).r (e_bin o_mul (e_bin o_mul e_int.r (e_ix (r_own (pv 0)) e_int).r).r (e_ix (r_own (pv 0)) e_int).r).r))), fun c as y Φ Ψ hn hs => ?_⟩
  obtain ⟨f, rfl, h1, h⟩ := hs
  simp only [↓n_asg_if, BQ.n_rt, sSeq, sNext, sRet, sRetF, sRetO, sDrop, sSet, sOwn, sAsg, sPar, sPar3, sAug, sApp, sIf, dIf, dTest, dAnd, dOr, dNot, dAndV, dOrV, d1, d2, d2F, dVar, dOwn, dC, dF, dTup, dLst, dNil, dCons, dCB, dCB1, dCF1, dChain, dChain3, dCall, dCallF, dCallK, aNil, aCons, aDk, dGn, dGnil, dGcons, dGtup, dOdIx, dGsub, dIdxT, dIdxL, dSlT, dSlL, dPart, dNoPart, dIl, dIt, frz, opn, cls, catD, startR, arS, seqOf, n_add, n_addT, n_sub, n_mul, n_fdiv, n_mod, n_pow, n_shl, n_cmp, n_is, n_neg, n_not, n_ixL, n_ixT, n_lenL, n_lenT, n_abs, n_gcd, n_isqrt, n_int, n_tupL, n_tupT, at10, at1n, at20, at21, at2n, at30, at31, at32, at3n, fD, mD, wipeR, dYes, ix32, ix31, n_boolC, sz0, sz1, sz2, sz3, sz4, sz5, sz6, sz7, sz8, n_eqI, n_neI, n_eq3, n_ne3, n_isi_int, n_isi_bool, n_isi_tuple, List.map_cons, List.map_nil, List.length_cons, List.length_nil, List.replicate, List.set_cons_zero, List.set_cons_succ, List.getElem?_cons_zero, List.getElem?_cons_succ, List.filter_cons, List.filter_nil, Ar.isDk, List.all_cons, List.all_nil, no_dt, no_un, no_ow, no_dk, Bool.and_eq_true, Bool.true_and, Bool.and_true, Bool.false_eq_true, if_false, if_true, ite_true, ite_false, Option.some.injEq, exists_eq_left', true_and, and_true, List.cons_append, List.nil_append, Nat.sub_self, decide_eq_true_eq, Nat.reduceAdd, Nat.reduceSub, Nat.zero_add, Nat.le_refl, Nat.zero_le]
  exact ⟨h1.1, .of_left (by decide), h1.2, h⟩
def sd__law_stepped : Sd := fun c as y Φ Ψ => ∃ (f : F) (m : M), as = [.dt (fD f), .dt (mD m)] ∧ ByOk f m ∧ Φ (fD (f.by m)) c
theorem ok__law_stepped (Mx : Mo K mg)  : Cl false P w K mg base 1 "_law_stepped" ["form", "step"] sd__law_stepped := by
  obtain ⟨fd, hm, Fn0⟩ := Mx.fn 47 "_law_stepped" (by decide +kernel)
  have hN : (["form", "step", "a", "b", "c", "p", "q", "r", "s"] : List Str).Nodup := by decide +kernel
  have Sc0 : FnScope ["form", "step", "a", "b", "c", "p", "q", "r", "s"] ["form", "step"] (defScope (top 47)) := ⟨rfl, rfl, rfl, hN, rfl, by decide +kernel, by decide +kernel⟩
  refine cl_mk Fn0 hm Sc0 (fun _ _ _ _ _ _ us hl => match us, hl with | [_, _], _ => rfl) (fun _ _ _ _ _ _ us hl => match us, hl with | [_, _], _ => rfl) fun cdv A outer s H E hr hG tk hp => ⟨_, (ss_cons (s_asg (e_var (pv 0)) (g_tup (n := 3) (by rfl) (gs_cons ((c_name (i := 2) hN (by rfl) (by first | exact .inl rfl | exact .inr rfl) (by first | exact .inl rfl | exact .inr rfl)).g) (gs_cons ((c_name (i := 3) hN (by rfl) (by first | exact .inl rfl | exact .inr rfl) (by first | exact .inl rfl | exact .inr rfl)).g) (gs_cons ((c_name (i := 4) hN (by rfl) (by first | exact .inl rfl | exact .inr rfl) (by first | exact .inl rfl | exact .inr rfl)).g) gs_nil)))))
    (ss_cons (s_asg (e_var (pv 1)) (g_tup (n := 2) (by rfl) (gs_cons (g_tup (n := 2) (by rfl) (gs_cons ((c_name (i := 5) hN (by rfl) (by first | exact .inl rfl | exact .inr rfl) (by first | exact .inl rfl | exact .inr rfl)).g) (gs_cons ((c_name (i := 6) hN (by rfl) (by first | exact .inl rfl | exact .inr rfl) (by first | exact .inl rfl | exact .inr rfl)).g) gs_nil))) (gs_cons (g_tup (n := 2) (by rfl) (gs_cons ((c_name (i := 7) hN (by rfl) (by first | exact .inl rfl | exact .inr rfl) (by first | exact .inl rfl | exact .inr rfl)).g) (gs_cons ((c_name (i := 8) hN (by rfl) (by first | exact .inl rfl | exact .inr rfl) (by first | exact .inl rfl | exact .inr rfl)).g) gs_nil))) gs_nil))))
    (ss_one (s_ret (e_tup (l_cons (e_bin o_add (e_bin o_add (e_bin o_mul (e_bin o_mul (r_own (pv 2)) (r_own (pv 5))).r (r_own (pv 5))).r (e_bin o_mul (e_bin o_mul (r_own (pv 3)) (r_own (pv 5))).r (r_own (pv 7))).r).r (e_bin o_mul (e_bin o_mul (r_own (pv 4)) (r_own (pv 7))).r (r_own (pv 7))).r) (l_cons (e_bin o_add (e_bin o_add (e_bin o_mul (e_bin o_mul (e_bin o_mul e_int.r (r_own (pv 2))).r (r_own (pv 5))).r (r_own (pv 6))).r (e_bin o_mul (r_own (pv 3)) (e_bin o_add (e_bin o_mul (r_own (pv 5)) (r_own (pv 8))).r (e_bin o_mul (r_own (pv 6)) (r_own (pv 7))).r).r).r).r (e_bin o_mul (e_bin o_mul (e_bin o_mul e_int.r (r_own (pv 4))).r (r_own (pv 7))).r (r_own (pv 8))).r) (l_cons (e_bin o_add (e_bin o_add (e_bin o_mul (e_bin o_mul (r_own (pv 2)) (r_own (pv 6))).r (r_own (pv 6))).r (e_bin o_mul (e_bin o_mul (r_own (pv 3)) (r_own (pv 6))).r (r_own (pv 8))).r).r (e_bin o_mul (e_bin o_mul (r_own (pv 4)) (r_own (pv 8))).r (r_own (pv 8))).r) l_nil)))))))), fun c as y Φ Ψ hn hs => ?_⟩
  obtain ⟨f, m, rfl, ⟨⟨h1, h2, h3, h4, h5, h6⟩, ⟨k1, k2, k3, k4, k5, k6⟩, g1, g2, g3, g4, g5, g6, g7⟩, h⟩ := hs
  simp only [↓n_asg_if, BQ.n_rt, sSeq, sNext, sRet, sRetF, sRetO, sDrop, sSet, sOwn, sAsg, sPar, sPar3, sAug, sApp, sIf, dIf, dTest, dAnd, dOr, dNot, dAndV, dOrV, d1, d2, d2F, dVar, dOwn, dC, dF, dTup, dLst, dNil, dCons, dCB, dCB1, dCF1, dChain, dChain3, dCall, dCallF, dCallK, aNil, aCons, aDk, dGn, dGnil, dGcons, dGtup, dOdIx, dGsub, dIdxT, dIdxL, dSlT, dSlL, dPart, dNoPart, dIl, dIt, frz, opn, cls, catD, startR, arS, seqOf, n_add, n_addT, n_sub, n_mul, n_fdiv, n_mod, n_pow, n_shl, n_cmp, n_is, n_neg, n_not, n_ixL, n_ixT, n_lenL, n_lenT, n_abs, n_gcd, n_isqrt, n_int, n_tupL, n_tupT, at10, at1n, at20, at21, at2n, at30, at31, at32, at3n, fD, mD, wipeR, dYes, ix32, ix31, n_boolC, sz0, sz1, sz2, sz3, sz4, sz5, sz6, sz7, sz8, n_eqI, n_neI, n_eq3, n_ne3, n_isi_int, n_isi_bool, n_isi_tuple, List.map_cons, List.map_nil, List.length_cons, List.length_nil, List.replicate, List.set_cons_zero, List.set_cons_succ, List.getElem?_cons_zero, List.getElem?_cons_succ, List.filter_cons, List.filter_nil, Ar.isDk, List.all_cons, List.all_nil, no_dt, no_un, no_ow, no_dk, Bool.and_eq_true, Bool.true_and, Bool.and_true, Bool.false_eq_true, if_false, if_true, ite_true, ite_false, Option.some.injEq, exists_eq_left', true_and, and_true, List.cons_append, List.nil_append, Nat.sub_self, decide_eq_true_eq, Nat.reduceAdd, Nat.reduceSub, Nat.zero_add, Nat.le_refl, Nat.zero_le]
  exact ⟨h1, h2, h3, h4, h5, h6, .of_left (by decide), g1, g2, g3, g4, g5, .of_left (by decide), g6, g7, k1, k2, k3, k4, k5, k6, h⟩
def sd__law_behind : Sd := fun c as y Φ Ψ => ∃ x z : M, as = [.dt (mD x), .dt (mD z)] ∧ MulOk x z ∧ Φ (mD (x.mul z)) c
theorem ok__law_behind (Mx : Mo K mg)  : Cl false P w K mg base 1 "_law_behind" ["one", "other"] sd__law_behind := by
  obtain ⟨fd, hm, Fn0⟩ := Mx.fn 48 "_law_behind" (by decide +kernel)
  have hN : (["one", "other", "p", "q", "r", "s", "i", "j", "k", "m"] : List Str).Nodup := by decide +kernel
  have Sc0 : FnScope ["one", "other", "p", "q", "r", "s", "i", "j", "k", "m"] ["one", "other"] (defScope (top 48)) := ⟨rfl, rfl, rfl, hN, rfl, by decide +kernel, by decide +kernel⟩
  refine cl_mk Fn0 hm Sc0 (fun _ _ _ _ _ _ us hl => match us, hl with | [_, _], _ => rfl) (fun _ _ _ _ _ _ us hl => match us, hl with | [_, _], _ => rfl) fun cdv A outer s H E hr hG tk hp => ⟨_, (ss_cons (s_asg (e_var (pv 0)) (g_tup (n := 2) (by rfl) (gs_cons (g_tup (n := 2) (by rfl) (gs_cons ((c_name (i := 2) hN (by rfl) (by first | exact .inl rfl | exact .inr rfl) (by first | exact .inl rfl | exact .inr rfl)).g) (gs_cons ((c_name (i := 3) hN (by rfl) (by first | exact .inl rfl | exact .inr rfl) (by first | exact .inl rfl | exact .inr rfl)).g) gs_nil))) (gs_cons (g_tup (n := 2) (by rfl) (gs_cons ((c_name (i := 4) hN (by rfl) (by first | exact .inl rfl | exact .inr rfl) (by first | exact .inl rfl | exact .inr rfl)).g) (gs_cons ((c_name (i := 5) hN (by rfl) (by first | exact .inl rfl | exact .inr rfl) (by first | exact .inl rfl | exact .inr rfl)).g) gs_nil))) gs_nil))))
    (ss_cons (s_asg (e_var (pv 1)) (g_tup (n := 2) (by rfl) (gs_cons (g_tup (n := 2) (by rfl) (gs_cons ((c_name (i := 6) hN (by rfl) (by first | exact .inl rfl | exact .inr rfl) (by first | exact .inl rfl | exact .inr rfl)).g) (gs_cons ((c_name (i := 7) hN (by rfl) (by first | exact .inl rfl | exact .inr rfl) (by first | exact .inl rfl | exact .inr rfl)).g) gs_nil))) (gs_cons (g_tup (n := 2) (by rfl) (gs_cons ((c_name (i := 8) hN (by rfl) (by first | exact .inl rfl | exact .inr rfl) (by first | exact .inl rfl | exact .inr rfl)).g) (gs_cons ((c_name (i := 9) hN (by rfl) (by first | exact .inl rfl | exact .inr rfl) (by first | exact .inl rfl | exact .inr rfl)).g) gs_nil))) gs_nil))))
    (ss_one (s_ret (e_tup (l_cons (e_tup (l_cons (e_bin o_add (e_bin o_mul (r_own (pv 2)) (r_own (pv 6))).r (e_bin o_mul (r_own (pv 3)) (r_own (pv 8))).r) (l_cons (e_bin o_add (e_bin o_mul (r_own (pv 2)) (r_own (pv 7))).r (e_bin o_mul (r_own (pv 3)) (r_own (pv 9))).r) l_nil))) (l_cons (e_tup (l_cons (e_bin o_add (e_bin o_mul (r_own (pv 4)) (r_own (pv 6))).r (e_bin o_mul (r_own (pv 5)) (r_own (pv 8))).r) (l_cons (e_bin o_add (e_bin o_mul (r_own (pv 4)) (r_own (pv 7))).r (e_bin o_mul (r_own (pv 5)) (r_own (pv 9))).r) l_nil))) l_nil))))))), fun c as y Φ Ψ hn hs => ?_⟩
  obtain ⟨x, z, rfl, ⟨h1, h2, h3, h4, h5, h6, h7, h8⟩, h⟩ := hs
  simp only [↓n_asg_if, BQ.n_rt, sSeq, sNext, sRet, sRetF, sRetO, sDrop, sSet, sOwn, sAsg, sPar, sPar3, sAug, sApp, sIf, dIf, dTest, dAnd, dOr, dNot, dAndV, dOrV, d1, d2, d2F, dVar, dOwn, dC, dF, dTup, dLst, dNil, dCons, dCB, dCB1, dCF1, dChain, dChain3, dCall, dCallF, dCallK, aNil, aCons, aDk, dGn, dGnil, dGcons, dGtup, dOdIx, dGsub, dIdxT, dIdxL, dSlT, dSlL, dPart, dNoPart, dIl, dIt, frz, opn, cls, catD, startR, arS, seqOf, n_add, n_addT, n_sub, n_mul, n_fdiv, n_mod, n_pow, n_shl, n_cmp, n_is, n_neg, n_not, n_ixL, n_ixT, n_lenL, n_lenT, n_abs, n_gcd, n_isqrt, n_int, n_tupL, n_tupT, at10, at1n, at20, at21, at2n, at30, at31, at32, at3n, fD, mD, wipeR, dYes, ix32, ix31, n_boolC, sz0, sz1, sz2, sz3, sz4, sz5, sz6, sz7, sz8, n_eqI, n_neI, n_eq3, n_ne3, n_isi_int, n_isi_bool, n_isi_tuple, List.map_cons, List.map_nil, List.length_cons, List.length_nil, List.replicate, List.set_cons_zero, List.set_cons_succ, List.getElem?_cons_zero, List.getElem?_cons_succ, List.filter_cons, List.filter_nil, Ar.isDk, List.all_cons, List.all_nil, no_dt, no_un, no_ow, no_dk, Bool.and_eq_true, Bool.true_and, Bool.and_true, Bool.false_eq_true, if_false, if_true, ite_true, ite_false, Option.some.injEq, exists_eq_left', true_and, and_true, List.cons_append, List.nil_append, Nat.sub_self, decide_eq_true_eq, Nat.reduceAdd, Nat.reduceSub, Nat.zero_add, Nat.le_refl, Nat.zero_le]
  exact ⟨h1, h2, h3, h4, h5, h6, h7, h8, h⟩
def sd__law_is_step : Sd := fun c as y Φ Ψ => ∃ m : M, as = [.dt (mD m)] ∧ IntMulOk m.p m.s ∧ IntMulOk m.q m.r ∧ Φ (.bool (decide (m.det = 1))) c
theorem ok__law_is_step (Mx : Mo K mg) (C__law_is_integer : Cl false P w K mg base 1 "_law_is_integer" ["value"] sd__law_is_integer) : Cl false P w K mg base 2 "_law_is_step" ["value"] sd__law_is_step := by
  obtain ⟨fd, hm, Fn0⟩ := Mx.fn 49 "_law_is_step" (by decide +kernel)
  have hN : (["value", "row", "item"] : List Str).Nodup := by decide +kernel
  have Sc0 : FnScope ["value", "row", "item"] ["value"] (defScope (top 49)) := ⟨rfl, rfl, rfl, hN, rfl, by decide +kernel, by decide +kernel⟩
  refine cl_mk Fn0 hm Sc0 (fun _ _ _ _ _ _ us hl => match us, hl with | [_], _ => rfl) (fun _ _ _ _ _ _ us hl => match us, hl with | [_], _ => rfl) fun cdv A outer s H E hr hG tk hp => ⟨_, (ss_cons (s_if (w_or (t_not (t_val (e_isi (by rfl) (Mx.fr "isinstance" (by decide +kernel)) b_isinstance (r_own (pv 0)) (by rfl) (Mx.fr "tuple" (by decide +kernel)) b_tuple))) (w_or (t_cmp (o_neP (hu4 hr)) (e_callB1 c_len (by rfl) (Mx.fr "len" (by decide +kernel)) b_len (r_own (pv 0))).r e_int.r rfl) (w_or1 (t_not (t_val (e_callB1 (c_all rfl) (by rfl) (Mx.fr "all" (by decide +kernel)) b_all (f_comp (own := [("row", 1)]) rfl hN (i_tup (e_var (pv 0))) (blkOk_by rfl) (by decide) (fun s' H' C' cl' fp' => (c_name (i := 1) hN (by rfl) (by first | exact .inl rfl | exact .inr rfl) (by first | exact .inl rfl | exact .inr rfl))) (fun s' H' C' cl' fp' => if_nil) (fun s' H' C' cl' fp' => (e_and (e_isi (by rfl) (Mx.fr "isinstance" (by decide +kernel)) b_isinstance (r_own (pv 1)) (by rfl) (Mx.fr "tuple" (by decide +kernel)) b_tuple) (e_one (e_cmp (o_eqP (hu4 hr)) (e_callB1 c_len (by rfl) (Mx.fr "len" (by decide +kernel)) b_len (r_own (pv 1))).r e_int.r rfl))))).e.r)))))).t (ss_one (s_ret e_bl)) ss_nil)
    (ss_cons (s_if (t_not (t_val (e_callB1 (c_all rfl) (by rfl) (Mx.fr "all" (by decide +kernel)) b_all (f_comp (own := [("row", 1)]) rfl hN (i_tup (e_var (pv 0))) (blkOk_by rfl) (by decide) (fun s' H' C' cl' fp' => (c_name (i := 1) hN (by rfl) (by first | exact .inl rfl | exact .inr rfl) (by first | exact .inl rfl | exact .inr rfl))) (fun s' H' C' cl' fp' => if_nil) (fun s' H' C' cl' fp' => (e_callB1 (c_all rfl) (by rfl) (Mx.fr "all" (by decide +kernel)) b_all (f_comp (own := [("item", 2)]) rfl hN (i_tup (e_var (pv 1))) (blkOk_by rfl) (by decide) (fun s' H' C' cl' fp' => (c_name (i := 2) hN (by rfl) (by first | exact .inl rfl | exact .inr rfl) (by first | exact .inl rfl | exact .inr rfl))) (fun s' H' C' cl' fp' => if_nil) (fun s' H' C' cl' fp' => (e_callC C__law_is_integer (by decide) hr nog (by rfl) takes0 (a_cons (e_var (pv 2)) a_nil)))).e.r))).e.r))) (ss_one (s_ret e_bl)) ss_nil)
    (ss_one (s_ret (e_cmp (o_eqP (hu4 hr)) (e_bin o_sub (e_bin o_mul (e_ix (e_ix (r_own (pv 0)) e_int).r e_int).r (e_ix (e_ix (r_own (pv 0)) e_int).r e_int).r).r (e_bin o_mul (e_ix (e_ix (r_own (pv 0)) e_int).r e_int).r (e_ix (e_ix (r_own (pv 0)) e_int).r e_int).r).r).r e_int.r rfl))))), fun c as y Φ Ψ hn hs => ?_⟩
  obtain ⟨m, rfl, h1, h2, h⟩ := hs
  simp only [↓n_asg_if, BQ.n_rt, sSeq, sNext, sRet, sRetF, sRetO, sDrop, sSet, sOwn, sAsg, sPar, sPar3, sAug, sApp, sIf, dIf, dTest, dAnd, dOr, dNot, dAndV, dOrV, d1, d2, d2F, dVar, dOwn, dC, dF, dTup, dLst, dNil, dCons, dCB, dCB1, dCF1, dChain, dChain3, dCall, dCallF, dCallK, aNil, aCons, aDk, dGn, dGnil, dGcons, dGtup, dOdIx, dGsub, dIdxT, dIdxL, dSlT, dSlL, dPart, dNoPart, dIl, dIt, frz, opn, cls, catD, startR, arS, seqOf, n_add, n_addT, n_sub, n_mul, n_fdiv, n_mod, n_pow, n_shl, n_cmp, n_is, n_neg, n_not, n_ixL, n_ixT, n_lenL, n_lenT, n_abs, n_gcd, n_isqrt, n_int, n_tupL, n_tupT, at10, at1n, at20, at21, at2n, at30, at31, at32, at3n, fD, mD, wipeR, dYes, ix32, ix31, n_boolC, sz0, sz1, sz2, sz3, sz4, sz5, sz6, sz7, sz8, n_eqI, n_neI, n_eq3, n_ne3, n_isi_int, n_isi_bool, n_isi_tuple, List.map_cons, List.map_nil, List.length_cons, List.length_nil, List.replicate, List.set_cons_zero, List.set_cons_succ, List.getElem?_cons_zero, List.getElem?_cons_succ, List.filter_cons, List.filter_nil, Ar.isDk, List.all_cons, List.all_nil, no_dt, no_un, no_ow, no_dk, Bool.and_eq_true, Bool.true_and, Bool.and_true, Bool.false_eq_true, if_false, if_true, ite_true, ite_false, Option.some.injEq, exists_eq_left', true_and, and_true, List.cons_append, List.nil_append, Nat.sub_self, decide_eq_true_eq, Nat.reduceAdd, Nat.reduceSub, Nat.zero_add, Nat.le_refl, Nat.zero_le]
  rw [if_neg (by simp [dIsTup]), if_neg (by simp)]
  refine ⟨rfl, ?_⟩
  simp only [↓n_asg_if, BQ.n_rt, sSeq, sNext, sRet, sRetF, sRetO, sDrop, sSet, sOwn, sAsg, sPar, sPar3, sAug, sApp, sIf, dIf, dTest, dAnd, dOr, dNot, dAndV, dOrV, d1, d2, d2F, dVar, dOwn, dC, dF, dTup, dLst, dNil, dCons, dCB, dCB1, dCF1, dChain, dChain3, dCall, dCallF, dCallK, aNil, aCons, aDk, dGn, dGnil, dGcons, dGtup, dOdIx, dGsub, dIdxT, dIdxL, dSlT, dSlL, dPart, dNoPart, dIl, dIt, frz, opn, cls, catD, startR, arS, seqOf, n_add, n_addT, n_sub, n_mul, n_fdiv, n_mod, n_pow, n_shl, n_cmp, n_is, n_neg, n_not, n_ixL, n_ixT, n_lenL, n_lenT, n_abs, n_gcd, n_isqrt, n_int, n_tupL, n_tupT, at10, at1n, at20, at21, at2n, at30, at31, at32, at3n, fD, mD, wipeR, dYes, ix32, ix31, n_boolC, sz0, sz1, sz2, sz3, sz4, sz5, sz6, sz7, sz8, n_eqI, n_neI, n_eq3, n_ne3, n_isi_int, n_isi_bool, n_isi_tuple, List.map_cons, List.map_nil, List.length_cons, List.length_nil, List.replicate, List.set_cons_zero, List.set_cons_succ, List.getElem?_cons_zero, List.getElem?_cons_succ, List.filter_cons, List.filter_nil, Ar.isDk, List.all_cons, List.all_nil, no_dt, no_un, no_ow, no_dk, Bool.and_eq_true, Bool.true_and, Bool.and_true, Bool.false_eq_true, if_false, if_true, ite_true, ite_false, Option.some.injEq, exists_eq_left', true_and, and_true, List.cons_append, List.nil_append, Nat.sub_self, decide_eq_true_eq, Nat.reduceAdd, Nat.reduceSub, Nat.zero_add, Nat.le_refl, Nat.zero_le]
  refine compW_pure (fun d => some (.bool true)) _ _ (fun d hd K1 K2 hk => ?_) (by show 2 ≤ sizeLine; decide) ?_
  · simp only [↓n_asg_if, BQ.n_rt, sSeq, sNext, sRet, sRetF, sRetO, sDrop, sSet, sOwn, sAsg, sPar, sPar3, sAug, sApp, sIf, dIf, dTest, dAnd, dOr, dNot, dAndV, dOrV, d1, d2, d2F, dVar, dOwn, dC, dF, dTup, dLst, dNil, dCons, dCB, dCB1, dCF1, dChain, dChain3, dCall, dCallF, dCallK, aNil, aCons, aDk, dGn, dGnil, dGcons, dGtup, dOdIx, dGsub, dIdxT, dIdxL, dSlT, dSlL, dPart, dNoPart, dIl, dIt, frz, opn, cls, catD, startR, arS, seqOf, n_add, n_addT, n_sub, n_mul, n_fdiv, n_mod, n_pow, n_shl, n_cmp, n_is, n_neg, n_not, n_ixL, n_ixT, n_lenL, n_lenT, n_abs, n_gcd, n_isqrt, n_int, n_tupL, n_tupT, at10, at1n, at20, at21, at2n, at30, at31, at32, at3n, fD, mD, wipeR, dYes, ix32, ix31, n_boolC, sz0, sz1, sz2, sz3, sz4, sz5, sz6, sz7, sz8, n_eqI, n_neI, n_eq3, n_ne3, n_isi_int, n_isi_bool, n_isi_tuple, List.map_cons, List.map_nil, List.length_cons, List.length_nil, List.replicate, List.set_cons_zero, List.set_cons_succ, List.getElem?_cons_zero, List.getElem?_cons_succ, List.filter_cons, List.filter_nil, Ar.isDk, List.all_cons, List.all_nil, no_dt, no_un, no_ow, no_dk, Bool.and_eq_true, Bool.true_and, Bool.and_true, Bool.false_eq_true, if_false, if_true, ite_true, ite_false, Option.some.injEq, exists_eq_left', true_and, and_true, List.cons_append, List.nil_append, Nat.sub_self, decide_eq_true_eq, Nat.reduceAdd, Nat.reduceSub, Nat.zero_add, Nat.le_refl, Nat.zero_le]
    obtain ⟨a, b, rfl⟩ : ∃ a b : Int, d = .tuple [.int a, .int b] := by
      rcases List.mem_cons.mp hd with rfl | hd
      · exact ⟨_, _, rfl⟩
      · exact ⟨_, _, List.mem_singleton.mp hd⟩
    simp only [↓n_asg_if, BQ.n_rt, sSeq, sNext, sRet, sRetF, sRetO, sDrop, sSet, sOwn, sAsg, sPar, sPar3, sAug, sApp, sIf, dIf, dTest, dAnd, dOr, dNot, dAndV, dOrV, d1, d2, d2F, dVar, dOwn, dC, dF, dTup, dLst, dNil, dCons, dCB, dCB1, dCF1, dChain, dChain3, dCall, dCallF, dCallK, aNil, aCons, aDk, dGn, dGnil, dGcons, dGtup, dOdIx, dGsub, dIdxT, dIdxL, dSlT, dSlL, dPart, dNoPart, dIl, dIt, frz, opn, cls, catD, startR, arS, seqOf, n_add, n_addT, n_sub, n_mul, n_fdiv, n_mod, n_pow, n_shl, n_cmp, n_is, n_neg, n_not, n_ixL, n_ixT, n_lenL, n_lenT, n_abs, n_gcd, n_isqrt, n_int, n_tupL, n_tupT, at10, at1n, at20, at21, at2n, at30, at31, at32, at3n, fD, mD, wipeR, dYes, ix32, ix31, n_boolC, sz0, sz1, sz2, sz3, sz4, sz5, sz6, sz7, sz8, n_eqI, n_neI, n_eq3, n_ne3, n_isi_int, n_isi_bool, n_isi_tuple, List.map_cons, List.map_nil, List.length_cons, List.length_nil, List.replicate, List.set_cons_zero, List.set_cons_succ, List.getElem?_cons_zero, List.getElem?_cons_succ, List.filter_cons, List.filter_nil, Ar.isDk, List.all_cons, List.all_nil, no_dt, no_un, no_ow, no_dk, Bool.and_eq_true, Bool.true_and, Bool.and_true, Bool.false_eq_true, if_false, if_true, ite_true, ite_false, Option.some.injEq, exists_eq_left', true_and, and_true, List.cons_append, List.nil_append, Nat.sub_self, decide_eq_true_eq, Nat.reduceAdd, Nat.reduceSub, Nat.zero_add, Nat.le_refl, Nat.zero_le]
    exact hk
  · refine ⟨[true, true], rfl, ?_⟩
    simp only [↓n_asg_if, BQ.n_rt, sSeq, sNext, sRet, sRetF, sRetO, sDrop, sSet, sOwn, sAsg, sPar, sPar3, sAug, sApp, sIf, dIf, dTest, dAnd, dOr, dNot, dAndV, dOrV, d1, d2, d2F, dVar, dOwn, dC, dF, dTup, dLst, dNil, dCons, dCB, dCB1, dCF1, dChain, dChain3, dCall, dCallF, dCallK, aNil, aCons, aDk, dGn, dGnil, dGcons, dGtup, dOdIx, dGsub, dIdxT, dIdxL, dSlT, dSlL, dPart, dNoPart, dIl, dIt, frz, opn, cls, catD, startR, arS, seqOf, n_add, n_addT, n_sub, n_mul, n_fdiv, n_mod, n_pow, n_shl, n_cmp, n_is, n_neg, n_not, n_ixL, n_ixT, n_lenL, n_lenT, n_abs, n_gcd, n_isqrt, n_int, n_tupL, n_tupT, at10, at1n, at20, at21, at2n, at30, at31, at32, at3n, fD, mD, wipeR, dYes, ix32, ix31, n_boolC, sz0, sz1, sz2, sz3, sz4, sz5, sz6, sz7, sz8, n_eqI, n_neI, n_eq3, n_ne3, n_isi_int, n_isi_bool, n_isi_tuple, List.map_cons, List.map_nil, List.length_cons, List.length_nil, List.replicate, List.set_cons_zero, List.set_cons_succ, List.getElem?_cons_zero, List.getElem?_cons_succ, List.filter_cons, List.filter_nil, Ar.isDk, List.all_cons, List.all_nil, no_dt, no_un, no_ow, no_dk, Bool.and_eq_true, Bool.true_and, Bool.and_true, Bool.false_eq_true, if_false, if_true, ite_true, ite_false, Option.some.injEq, exists_eq_left', true_and, and_true, List.cons_append, List.nil_append, Nat.sub_self, decide_eq_true_eq, Nat.reduceAdd, Nat.reduceSub, Nat.zero_add, Nat.le_refl, Nat.zero_le]
    rw [if_neg (by decide)]
    refine ⟨rfl, ?_⟩
    simp only [↓n_asg_if, BQ.n_rt, sSeq, sNext, sRet, sRetF, sRetO, sDrop, sSet, sOwn, sAsg, sPar, sPar3, sAug, sApp, sIf, dIf, dTest, dAnd, dOr, dNot, dAndV, dOrV, d1, d2, d2F, dVar, dOwn, dC, dF, dTup, dLst, dNil, dCons, dCB, dCB1, dCF1, dChain, dChain3, dCall, dCallF, dCallK, aNil, aCons, aDk, dGn, dGnil, dGcons, dGtup, dOdIx, dGsub, dIdxT, dIdxL, dSlT, dSlL, dPart, dNoPart, dIl, dIt, frz, opn, cls, catD, startR, arS, seqOf, n_add, n_addT, n_sub, n_mul, n_fdiv, n_mod, n_pow, n_shl, n_cmp, n_is, n_neg, n_not, n_ixL, n_ixT, n_lenL, n_lenT, n_abs, n_gcd, n_isqrt, n_int, n_tupL, n_tupT, at10, at1n, at20, at21, at2n, at30, at31, at32, at3n, fD, mD, wipeR, dYes, ix32, ix31, n_boolC, sz0, sz1, sz2, sz3, sz4, sz5, sz6, sz7, sz8, n_eqI, n_neI, n_eq3, n_ne3, n_isi_int, n_isi_bool, n_isi_tuple, List.map_cons, List.map_nil, List.length_cons, List.length_nil, List.replicate, List.set_cons_zero, List.set_cons_succ, List.getElem?_cons_zero, List.getElem?_cons_succ, List.filter_cons, List.filter_nil, Ar.isDk, List.all_cons, List.all_nil, no_dt, no_un, no_ow, no_dk, Bool.and_eq_true, Bool.true_and, Bool.and_true, Bool.false_eq_true, if_false, if_true, ite_true, ite_false, Option.some.injEq, exists_eq_left', true_and, and_true, List.cons_append, List.nil_append, Nat.sub_self, decide_eq_true_eq, Nat.reduceAdd, Nat.reduceSub, Nat.zero_add, Nat.le_refl, Nat.zero_le]
    refine compW_pure (fun d => some (.bool true)) _ _ (fun d hd K1 K2 hk => ?_) (by show 2 ≤ sizeLine; decide) ?_
    · simp only [↓n_asg_if, BQ.n_rt, sSeq, sNext, sRet, sRetF, sRetO, sDrop, sSet, sOwn, sAsg, sPar, sPar3, sAug, sApp, sIf, dIf, dTest, dAnd, dOr, dNot, dAndV, dOrV, d1, d2, d2F, dVar, dOwn, dC, dF, dTup, dLst, dNil, dCons, dCB, dCB1, dCF1, dChain, dChain3, dCall, dCallF, dCallK, aNil, aCons, aDk, dGn, dGnil, dGcons, dGtup, dOdIx, dGsub, dIdxT, dIdxL, dSlT, dSlL, dPart, dNoPart, dIl, dIt, frz, opn, cls, catD, startR, arS, seqOf, n_add, n_addT, n_sub, n_mul, n_fdiv, n_mod, n_pow, n_shl, n_cmp, n_is, n_neg, n_not, n_ixL, n_ixT, n_lenL, n_lenT, n_abs, n_gcd, n_isqrt, n_int, n_tupL, n_tupT, at10, at1n, at20, at21, at2n, at30, at31, at32, at3n, fD, mD, wipeR, dYes, ix32, ix31, n_boolC, sz0, sz1, sz2, sz3, sz4, sz5, sz6, sz7, sz8, n_eqI, n_neI, n_eq3, n_ne3, n_isi_int, n_isi_bool, n_isi_tuple, List.map_cons, List.map_nil, List.length_cons, List.length_nil, List.replicate, List.set_cons_zero, List.set_cons_succ, List.getElem?_cons_zero, List.getElem?_cons_succ, List.filter_cons, List.filter_nil, Ar.isDk, List.all_cons, List.all_nil, no_dt, no_un, no_ow, no_dk, Bool.and_eq_true, Bool.true_and, Bool.and_true, Bool.false_eq_true, if_false, if_true, ite_true, ite_false, Option.some.injEq, exists_eq_left', true_and, and_true, List.cons_append, List.nil_append, Nat.sub_self, decide_eq_true_eq, Nat.reduceAdd, Nat.reduceSub, Nat.zero_add, Nat.le_refl, Nat.zero_le]
      obtain ⟨a, b, rfl⟩ : ∃ a b : Int, d = .tuple [.int a, .int b] := by
        rcases List.mem_cons.mp hd with rfl | hd
        · exact ⟨_, _, rfl⟩
        · exact ⟨_, _, List.mem_singleton.mp hd⟩
      refine ⟨rfl, ?_⟩
      simp only [↓n_asg_if, BQ.n_rt, sSeq, sNext, sRet, sRetF, sRetO, sDrop, sSet, sOwn, sAsg, sPar, sPar3, sAug, sApp, sIf, dIf, dTest, dAnd, dOr, dNot, dAndV, dOrV, d1, d2, d2F, dVar, dOwn, dC, dF, dTup, dLst, dNil, dCons, dCB, dCB1, dCF1, dChain, dChain3, dCall, dCallF, dCallK, aNil, aCons, aDk, dGn, dGnil, dGcons, dGtup, dOdIx, dGsub, dIdxT, dIdxL, dSlT, dSlL, dPart, dNoPart, dIl, dIt, frz, opn, cls, catD, startR, arS, seqOf, n_add, n_addT, n_sub, n_mul, n_fdiv, n_mod, n_pow, n_shl, n_cmp, n_is, n_neg, n_not, n_ixL, n_ixT, n_lenL, n_lenT, n_abs, n_gcd, n_isqrt, n_int, n_tupL, n_tupT, at10, at1n, at20, at21, at2n, at30, at31, at32, at3n, fD, mD, wipeR, dYes, ix32, ix31, n_boolC, sz0, sz1, sz2, sz3, sz4, sz5, sz6, sz7, sz8, n_eqI, n_neI, n_eq3, n_ne3, n_isi_int, n_isi_bool, n_isi_tuple, List.map_cons, List.map_nil, List.length_cons, List.length_nil, List.replicate, List.set_cons_zero, List.set_cons_succ, List.getElem?_cons_zero, List.getElem?_cons_succ, List.filter_cons, List.filter_nil, Ar.isDk, List.all_cons, List.all_nil, no_dt, no_un, no_ow, no_dk, Bool.and_eq_true, Bool.true_and, Bool.and_true, Bool.false_eq_true, if_false, if_true, ite_true, ite_false, Option.some.injEq, exists_eq_left', true_and, and_true, List.cons_append, List.nil_append, Nat.sub_self, decide_eq_true_eq, Nat.reduceAdd, Nat.reduceSub, Nat.zero_add, Nat.le_refl, Nat.zero_le]
      refine compW_pure (fun d => some (.bool true)) _ _ (fun d hd K1 K2 hk => ?_) (by show 2 ≤ sizeLine; decide) ⟨[true, true], rfl, hk⟩
      simp only [↓n_asg_if, BQ.n_rt, sSeq, sNext, sRet, sRetF, sRetO, sDrop, sSet, sOwn, sAsg, sPar, sPar3, sAug, sApp, sIf, dIf, dTest, dAnd, dOr, dNot, dAndV, dOrV, d1, d2, d2F, dVar, dOwn, dC, dF, dTup, dLst, dNil, dCons, dCB, dCB1, dCF1, dChain, dChain3, dCall, dCallF, dCallK, aNil, aCons, aDk, dGn, dGnil, dGcons, dGtup, dOdIx, dGsub, dIdxT, dIdxL, dSlT, dSlL, dPart, dNoPart, dIl, dIt, frz, opn, cls, catD, startR, arS, seqOf, n_add, n_addT, n_sub, n_mul, n_fdiv, n_mod, n_pow, n_shl, n_cmp, n_is, n_neg, n_not, n_ixL, n_ixT, n_lenL, n_lenT, n_abs, n_gcd, n_isqrt, n_int, n_tupL, n_tupT, at10, at1n, at20, at21, at2n, at30, at31, at32, at3n, fD, mD, wipeR, dYes, ix32, ix31, n_boolC, sz0, sz1, sz2, sz3, sz4, sz5, sz6, sz7, sz8, n_eqI, n_neI, n_eq3, n_ne3, n_isi_int, n_isi_bool, n_isi_tuple, List.map_cons, List.map_nil, List.length_cons, List.length_nil, List.replicate, List.set_cons_zero, List.set_cons_succ, List.getElem?_cons_zero, List.getElem?_cons_succ, List.filter_cons, List.filter_nil, Ar.isDk, List.all_cons, List.all_nil, no_dt, no_un, no_ow, no_dk, Bool.and_eq_true, Bool.true_and, Bool.and_true, Bool.false_eq_true, if_false, if_true, ite_true, ite_false, Option.some.injEq, exists_eq_left', true_and, and_true, List.cons_append, List.nil_append, Nat.sub_self, decide_eq_true_eq, Nat.reduceAdd, Nat.reduceSub, Nat.zero_add, Nat.le_refl, Nat.zero_le]
      refine ⟨d, rfl, ?_⟩
      have : isI d = true := by
        rcases List.mem_cons.mp hd with rfl | hd
        · rfl
        · rw [List.mem_singleton.mp hd]; rfl
      rw [this]
      exact hk
    · refine ⟨[true, true], rfl, ?_⟩
      simp only [↓n_asg_if, BQ.n_rt, sSeq, sNext, sRet, sRetF, sRetO, sDrop, sSet, sOwn, sAsg, sPar, sPar3, sAug, sApp, sIf, dIf, dTest, dAnd, dOr, dNot, dAndV, dOrV, d1, d2, d2F, dVar, dOwn, dC, dF, dTup, dLst, dNil, dCons, dCB, dCB1, dCF1, dChain, dChain3, dCall, dCallF, dCallK, aNil, aCons, aDk, dGn, dGnil, dGcons, dGtup, dOdIx, dGsub, dIdxT, dIdxL, dSlT, dSlL, dPart, dNoPart, dIl, dIt, frz, opn, cls, catD, startR, arS, seqOf, n_add, n_addT, n_sub, n_mul, n_fdiv, n_mod, n_pow, n_shl, n_cmp, n_is, n_neg, n_not, n_ixL, n_ixT, n_lenL, n_lenT, n_abs, n_gcd, n_isqrt, n_int, n_tupL, n_tupT, at10, at1n, at20, at21, at2n, at30, at31, at32, at3n, fD, mD, wipeR, dYes, ix32, ix31, n_boolC, sz0, sz1, sz2, sz3, sz4, sz5, sz6, sz7, sz8, n_eqI, n_neI, n_eq3, n_ne3, n_isi_int, n_isi_bool, n_isi_tuple, List.map_cons, List.map_nil, List.length_cons, List.length_nil, List.replicate, List.set_cons_zero, List.set_cons_succ, List.getElem?_cons_zero, List.getElem?_cons_succ, List.filter_cons, List.filter_nil, Ar.isDk, List.all_cons, List.all_nil, no_dt, no_un, no_ow, no_dk, Bool.and_eq_true, Bool.true_and, Bool.and_true, Bool.false_eq_true, if_false, if_true, ite_true, ite_false, Option.some.injEq, exists_eq_left', true_and, and_true, List.cons_append, List.nil_append, Nat.sub_self, decide_eq_true_eq, Nat.reduceAdd, Nat.reduceSub, Nat.zero_add, Nat.le_refl, Nat.zero_le]
      rw [if_neg (by decide)]
      exact ⟨h1, h2, h⟩
def sd__law_is_split : Sd := fun c as y Φ Ψ => ∃ n : Int, as = [.dt (.int n)] ∧ n < 2 ^ 60 ∧ Φ (.bool (isSplit n)) c
theorem ok__law_is_split (Mx : Mo K mg) (C__law_whole_root : Cl false P w K mg base 1 "_law_whole_root" ["n"] sd__law_whole_root) : Cl false P w K mg base 2 "_law_is_split" ["d"] sd__law_is_split := by
  obtain ⟨fd, hm, Fn0⟩ := Mx.fn 50 "_law_is_split" (by decide +kernel)
  have hN : (["d"] : List Str).Nodup := by decide +kernel
  have Sc0 : FnScope ["d"] ["d"] (defScope (top 50)) := ⟨rfl, rfl, rfl, hN, rfl, by decide +kernel, by decide +kernel⟩
  refine cl_mk Fn0 hm Sc0 (fun _ _ _ _ _ _ us hl => match us, hl with | [_], _ => rfl) (fun _ _ _ _ _ _ us hl => match us, hl with | [_], _ => rfl) fun cdv A outer s H E hr hG tk hp => ⟨_, (ss_one (s_ret (e_and (e_cmp o_gt (r_own (pv 0)) e_int.r rfl) (e_one (e_cmp (o_eqP (hu4 hr)) (e_bin o_mul (e_callC C__law_whole_root (by decide) hr nog (by rfl) tk (a_cons (e_var (pv 0)) a_nil)).r (e_callC C__law_whole_root (by decide) hr nog (by rfl) tk (a_cons (e_var (pv 0)) a_nil)).r).r (r_own (pv 0)) rfl))))), fun c as y Φ Ψ hn hs => ?_⟩
  obtain ⟨n, rfl, h1, h⟩ := hs
  simp only [↓n_asg_if, BQ.n_rt, sSeq, sNext, sRet, sRetF, sRetO, sDrop, sSet, sOwn, sAsg, sPar, sPar3, sAug, sApp, sIf, dIf, dTest, dAnd, dOr, dNot, dAndV, dOrV, d1, d2, d2F, dVar, dOwn, dC, dF, dTup, dLst, dNil, dCons, dCB, dCB1, dCF1, dChain, dChain3, dCall, dCallF, dCallK, aNil, aCons, aDk, dGn, dGnil, dGcons, dGtup, dOdIx, dGsub, dIdxT, dIdxL, dSlT, dSlL, dPart, dNoPart, dIl, dIt, frz, opn, cls, catD, startR, arS, seqOf, n_add, n_addT, n_sub, n_mul, n_fdiv, n_mod, n_pow, n_shl, n_cmp, n_is, n_neg, n_not, n_ixL, n_ixT, n_lenL, n_lenT, n_abs, n_gcd, n_isqrt, n_int, n_tupL, n_tupT, at10, at1n, at20, at21, at2n, at30, at31, at32, at3n, fD, mD, wipeR, dYes, ix32, ix31, n_boolC, sz0, sz1, sz2, sz3, sz4, sz5, sz6, sz7, sz8, n_eqI, n_neI, n_eq3, n_ne3, n_isi_int, n_isi_bool, n_isi_tuple, List.map_cons, List.map_nil, List.length_cons, List.length_nil, List.replicate, List.set_cons_zero, List.set_cons_succ, List.getElem?_cons_zero, List.getElem?_cons_succ, List.filter_cons, List.filter_nil, Ar.isDk, List.all_cons, List.all_nil, no_dt, no_un, no_ow, no_dk, Bool.and_eq_true, Bool.true_and, Bool.and_true, Bool.false_eq_true, if_false, if_true, ite_true, ite_false, Option.some.injEq, exists_eq_left', true_and, and_true, List.cons_append, List.nil_append, Nat.sub_self, decide_eq_true_eq, Nat.reduceAdd, Nat.reduceSub, Nat.zero_add, Nat.le_refl, Nat.zero_le]
  unfold isSplit at h
  by_cases hn : 0 < n
  · rw [if_pos hn]
    obtain ⟨r0, r1, r2⟩ := rt_ok (Int.le_of_lt hn)
    have r3 : rt n < 2 ^ 31 := sqlt (by decide) (by omega)
    refine ⟨n, rfl, by omega, h1, ?_⟩
    simp only [↓n_asg_if, BQ.n_rt, sSeq, sNext, sRet, sRetF, sRetO, sDrop, sSet, sOwn, sAsg, sPar, sPar3, sAug, sApp, sIf, dIf, dTest, dAnd, dOr, dNot, dAndV, dOrV, d1, d2, d2F, dVar, dOwn, dC, dF, dTup, dLst, dNil, dCons, dCB, dCB1, dCF1, dChain, dChain3, dCall, dCallF, dCallK, aNil, aCons, aDk, dGn, dGnil, dGcons, dGtup, dOdIx, dGsub, dIdxT, dIdxL, dSlT, dSlL, dPart, dNoPart, dIl, dIt, frz, opn, cls, catD, startR, arS, seqOf, n_add, n_addT, n_sub, n_mul, n_fdiv, n_mod, n_pow, n_shl, n_cmp, n_is, n_neg, n_not, n_ixL, n_ixT, n_lenL, n_lenT, n_abs, n_gcd, n_isqrt, n_int, n_tupL, n_tupT, at10, at1n, at20, at21, at2n, at30, at31, at32, at3n, fD, mD, wipeR, dYes, ix32, ix31, n_boolC, sz0, sz1, sz2, sz3, sz4, sz5, sz6, sz7, sz8, n_eqI, n_neI, n_eq3, n_ne3, n_isi_int, n_isi_bool, n_isi_tuple, List.map_cons, List.map_nil, List.length_cons, List.length_nil, List.replicate, List.set_cons_zero, List.set_cons_succ, List.getElem?_cons_zero, List.getElem?_cons_succ, List.filter_cons, List.filter_nil, Ar.isDk, List.all_cons, List.all_nil, no_dt, no_un, no_ow, no_dk, Bool.and_eq_true, Bool.true_and, Bool.and_true, Bool.false_eq_true, if_false, if_true, ite_true, ite_false, Option.some.injEq, exists_eq_left', true_and, and_true, List.cons_append, List.nil_append, Nat.sub_self, decide_eq_true_eq, Nat.reduceAdd, Nat.reduceSub, Nat.zero_add, Nat.le_refl, Nat.zero_le]
    refine ⟨n, rfl, by omega, h1, ?_⟩
    simp only [↓n_asg_if, BQ.n_rt, sSeq, sNext, sRet, sRetF, sRetO, sDrop, sSet, sOwn, sAsg, sPar, sPar3, sAug, sApp, sIf, dIf, dTest, dAnd, dOr, dNot, dAndV, dOrV, d1, d2, d2F, dVar, dOwn, dC, dF, dTup, dLst, dNil, dCons, dCB, dCB1, dCF1, dChain, dChain3, dCall, dCallF, dCallK, aNil, aCons, aDk, dGn, dGnil, dGcons, dGtup, dOdIx, dGsub, dIdxT, dIdxL, dSlT, dSlL, dPart, dNoPart, dIl, dIt, frz, opn, cls, catD, startR, arS, seqOf, n_add, n_addT, n_sub, n_mul, n_fdiv, n_mod, n_pow, n_shl, n_cmp, n_is, n_neg, n_not, n_ixL, n_ixT, n_lenL, n_lenT, n_abs, n_gcd, n_isqrt, n_int, n_tupL, n_tupT, at10, at1n, at20, at21, at2n, at30, at31, at32, at3n, fD, mD, wipeR, dYes, ix32, ix31, n_boolC, sz0, sz1, sz2, sz3, sz4, sz5, sz6, sz7, sz8, n_eqI, n_neI, n_eq3, n_ne3, n_isi_int, n_isi_bool, n_isi_tuple, List.map_cons, List.map_nil, List.length_cons, List.length_nil, List.replicate, List.set_cons_zero, List.set_cons_succ, List.getElem?_cons_zero, List.getElem?_cons_succ, List.filter_cons, List.filter_nil, Ar.isDk, List.all_cons, List.all_nil, no_dt, no_un, no_ow, no_dk, Bool.and_eq_true, Bool.true_and, Bool.and_true, Bool.false_eq_true, if_false, if_true, ite_true, ite_false, Option.some.injEq, exists_eq_left', true_and, and_true, List.cons_append, List.nil_append, Nat.sub_self, decide_eq_true_eq, Nat.reduceAdd, Nat.reduceSub, Nat.zero_add, Nat.le_refl, Nat.zero_le]
    rw [decide_eq_true hn, Bool.true_and] at h
    exact ⟨mL (by omega) (by omega), h⟩
  · rw [if_neg hn]
    rw [decide_eq_false hn, Bool.false_and] at h
    exact h
theorem red_iff {f : F} {r : Int} (I : Ind f.disc r) : Red r f ↔ (0 < f.b ∧ f.b * f.b < f.disc ∧ f.disc < (2 * (f.a.natAbs : Int) + f.b) * (2 * f.a.natAbs + f.b) ∧ (2 * (f.a.natAbs : Int) - f.b < 0 ∨ (2 * (f.a.natAbs : Int) - f.b) * (2 * f.a.natAbs - f.b) < f.disc)) := by
  have lo := I.lo
  have hi := I.hi
  have r0 := I.r0
  have key : ∀ x : Int, 0 ≤ x → (x * x < f.disc ↔ x ≤ r) := fun x hx => by
    constructor
    · intro h
      have := sqlt (a := x) (b := r + 1) (by omega) (by omega)
      omega
    · intro h
      have := sqle hx h
      omega
  have key2 : ∀ x : Int, 0 ≤ x → (f.disc < x * x ↔ r < x) := fun x hx => by
    constructor
    · intro h
      exact sqlt hx (by omega)
    · intro h
      have := sqle (a := r + 1) (b := x) (by omega) (by omega)
      omega
  unfold Red
  constructor
  · rintro ⟨h1, h2, h3, h4⟩
    refine ⟨h1, (key _ (by omega)).mpr h2, (key2 _ (by omega)).mpr h3, ?_⟩
    by_cases z : 2 * (f.a.natAbs : Int) - f.b < 0
    · exact .inl z
    · exact .inr ((key _ (by omega)).mpr h4)
  · rintro ⟨h1, h2, h3, h4⟩
    refine ⟨h1, (key _ (by omega)).mp h2, (key2 _ (by omega)).mp h3, ?_⟩
    rcases h4 with z | z
    · omega
    · by_cases q : 2 * (f.a.natAbs : Int) - f.b < 0
      · omega
      · exact (key _ (by omega)).mp z
theorem redD_goal {Φ : PyData → Nat → Prop} {c : Nat} (a b d : Int) (hh : Φ (.bool (decide (RedD ⟨a, b, d⟩))) c) : if (b.natAbs : Int) ≤ a then (if a ≤ d then (if 0 ≤ b then Φ (.bool true) c else if (!decide ((b.natAbs : Int) = a)) = true then Φ (.bool !decide (a = d)) c else Φ (.bool false) c) else Φ (.bool false) c) else Φ (.bool false) c := by
  have r1 : RedD ⟨a, b, d⟩ ↔ ((b.natAbs : Int) ≤ a ∧ a ≤ d ∧ (0 ≤ b ∨ ((b.natAbs : Int) ≠ a ∧ a ≠ d))) := Iff.rfl
  split
  · split
    · split
      · rwa [decide_eq_true (r1.mpr (by omega))] at hh
      · split
        · rename_i z
          have z : ¬ (b.natAbs : Int) = a := by simpa using z
          by_cases q5 : a = d
          · rw [decide_eq_false (fun w => by have := r1.mp w; omega)] at hh
            rw [decide_eq_true q5]
            exact hh
          · rw [decide_eq_true (r1.mpr (by omega))] at hh
            rw [decide_eq_false q5]
            exact hh
        · rename_i z
          have z : (b.natAbs : Int) = a := by simpa using z
          rwa [decide_eq_false (fun w => by have := r1.mp w; omega)] at hh
    · rwa [decide_eq_false (fun w => by have := r1.mp w; omega)] at hh
  · rwa [decide_eq_false (fun w => by have := r1.mp w; omega)] at hh
def sd__law_is_reduced : Sd := fun c as y Φ Ψ => ∃ f : F, as = [.dt (fD f)] ∧ DiscOk f ∧ f.disc ≠ 0 ∧ f.disc < 2 ^ 60 ∧ f.a.natAbs < 2 ^ 60 ∧ f.b.natAbs < 2 ^ 60 ∧ Φ (.bool (isRedP f)) c
theorem ok__law_is_reduced (Mx : Mo K mg) (C__law_disc : Cl false P w K mg base 1 "_law_disc" ["form"] sd__law_disc) (C__law_is_split : Cl false P w K mg base 2 "_law_is_split" ["d"] sd__law_is_split) : Cl false P w K mg base 3 "_law_is_reduced" ["form"] sd__law_is_reduced := by
  obtain ⟨fd, hm, Fn0⟩ := Mx.fn 51 "_law_is_reduced" (by decide +kernel)
  have hN : (["form", "a", "b", "c", "d", "near", "far"] : List Str).Nodup := by decide +kernel
  have Sc0 : FnScope ["form", "a", "b", "c", "d", "near", "far"] ["form"] (defScope (top 51)) := ⟨rfl, rfl, rfl, hN, rfl, by decide +kernel, by decide +kernel⟩
  refine cl_mk Fn0 hm Sc0 (fun _ _ _ _ _ _ us hl => match us, hl with | [_], _ => rfl) (fun _ _ _ _ _ _ us hl => match us, hl with | [_], _ => rfl) fun cdv A outer s H E hr hG tk hp => ⟨_, (ss_cons (s_asg (e_var (pv 0)) (g_tup (n := 3) (by rfl) (gs_cons ((c_name (i := 1) hN (by rfl) (by first | exact .inl rfl | exact .inr rfl) (by first | exact .inl rfl | exact .inr rfl)).g) (gs_cons ((c_name (i := 2) hN (by rfl) (by first | exact .inl rfl | exact .inr rfl) (by first | exact .inl rfl | exact .inr rfl)).g) (gs_cons ((c_name (i := 3) hN (by rfl) (by first | exact .inl rfl | exact .inr rfl) (by first | exact .inl rfl | exact .inr rfl)).g) gs_nil)))))
    (ss_cons (s_set (i := 4) hN (by rfl) (by first | exact .inl rfl | exact .inr rfl) (e_callC C__law_disc (by decide) hr nog (by rfl) tk (a_cons (e_var (pv 0)) a_nil)))
    (ss_cons (s_if (t_cmp o_lt (r_own (pv 4)) e_int.r rfl) (ss_cons (s_asg (e_if (t_cmp o_gt (r_own (pv 1)) e_int.r rfl) (e_tup (l_cons (e_var (pv 1)) (l_cons (e_var (pv 2)) (l_cons (e_var (pv 3)) l_nil)))) (e_tup (l_cons (e_un o_neg (e_var (pv 1))) (l_cons (e_un o_neg (e_var (pv 2))) (l_cons (e_un o_neg (e_var (pv 3))) l_nil))))) (g_tup (n := 3) (by rfl) (gs_cons ((c_name (i := 1) hN (by rfl) (by first | exact .inl rfl | exact .inr rfl) (by first | exact .inl rfl | exact .inr rfl)).g) (gs_cons ((c_name (i := 2) hN (by rfl) (by first | exact .inl rfl | exact .inr rfl) (by first | exact .inl rfl | exact .inr rfl)).g) (gs_cons ((c_name (i := 3) hN (by rfl) (by first | exact .inl rfl | exact .inr rfl) (by first | exact .inl rfl | exact .inr rfl)).g) gs_nil)))))
    (ss_one (s_ret (e_and (e_chain o_le o_le (e_callB c_abs (by rfl) (Mx.fr "abs" (by decide +kernel)) b_abs (l_cons (e_var (pv 2)) l_nil)) (e_var (pv 1)) (e_var (pv 3))) (e_one (e_or (e_cmp o_ge (r_own (pv 2)) e_int.r rfl) (e_one (e_and (e_cmp (o_neP (hu4 hr)) (e_callB c_abs (by rfl) (Mx.fr "abs" (by decide +kernel)) b_abs (l_cons (e_var (pv 2)) l_nil)).r (r_own (pv 1)) rfl) (e_one (e_cmp (o_neP (hu4 hr)) (r_own (pv 1)) (r_own (pv 3)) rfl)))))))))) ss_nil)
    (ss_cons (s_if (t_val (e_callC C__law_is_split (by decide) hr nog (by rfl) tk (a_cons (e_var (pv 4)) a_nil))) (ss_one (s_ret (e_and (e_cmp (o_eqP (hu4 hr)) (r_own (pv 3)) e_int.r rfl) (e_and (e_cmp o_gt (r_own (pv 2)) e_int.r rfl) (e_one (e_chain o_le o_lt e_int (e_var (pv 1)) (e_var (pv 2)))))))) ss_nil)
    (ss_cons (s_par (i := 5) (j := 6) rfl hN rfl rfl (by decide) rfl rfl (l_cons (e_bin o_add (e_bin o_mul e_int.r (e_callB c_abs (by rfl) (Mx.fr "abs" (by decide +kernel)) b_abs (l_cons (e_var (pv 1)) l_nil)).r).r (r_own (pv 2))) (l_cons (e_bin o_sub (e_bin o_mul e_int.r (e_callB c_abs (by rfl) (Mx.fr "abs" (by decide +kernel)) b_abs (l_cons (e_var (pv 1)) l_nil)).r).r (r_own (pv 2))) l_nil)) rfl)
    (ss_one (s_ret (e_and (e_cmp o_gt (r_own (pv 2)) e_int.r rfl) (e_and (e_cmp o_lt (e_bin o_mul (r_own (pv 2)) (r_own (pv 2))).r (r_own (pv 4)) rfl) (e_and (e_cmp o_gt (e_bin o_mul (r_own (pv 5)) (r_own (pv 5))).r (r_own (pv 4)) rfl) (e_one (e_or (e_cmp o_lt (r_own (pv 6)) e_int.r rfl) (e_one (e_cmp o_lt (e_bin o_mul (r_own (pv 6)) (r_own (pv 6))).r (r_own (pv 4)) rfl)))))))))))))), fun c as y Φ Ψ hn hs => ?_⟩
  obtain ⟨f, rfl, h1, h2, h3, h4, h5, h⟩ := hs
  simp only [↓n_asg_if, BQ.n_rt, sSeq, sNext, sRet, sRetF, sRetO, sDrop, sSet, sOwn, sAsg, sPar, sPar3, sAug, sApp, sIf, dIf, dTest, dAnd, dOr, dNot, dAndV, dOrV, d1, d2, d2F, dVar, dOwn, dC, dF, dTup, dLst, dNil, dCons, dCB, dCB1, dCF1, dChain, dChain3, dCall, dCallF, dCallK, aNil, aCons, aDk, dGn, dGnil, dGcons, dGtup, dOdIx, dGsub, dIdxT, dIdxL, dSlT, dSlL, dPart, dNoPart, dIl, dIt, frz, opn, cls, catD, startR, arS, seqOf, n_add, n_addT, n_sub, n_mul, n_fdiv, n_mod, n_pow, n_shl, n_cmp, n_is, n_neg, n_not, n_ixL, n_ixT, n_lenL, n_lenT, n_abs, n_gcd, n_isqrt, n_int, n_tupL, n_tupT, at10, at1n, at20, at21, at2n, at30, at31, at32, at3n, fD, mD, wipeR, dYes, ix32, ix31, n_boolC, sz0, sz1, sz2, sz3, sz4, sz5, sz6, sz7, sz8, n_eqI, n_neI, n_eq3, n_ne3, n_isi_int, n_isi_bool, n_isi_tuple, List.map_cons, List.map_nil, List.length_cons, List.length_nil, List.replicate, List.set_cons_zero, List.set_cons_succ, List.getElem?_cons_zero, List.getElem?_cons_succ, List.filter_cons, List.filter_nil, Ar.isDk, List.all_cons, List.all_nil, no_dt, no_un, no_ow, no_dk, Bool.and_eq_true, Bool.true_and, Bool.and_true, Bool.false_eq_true, if_false, if_true, ite_true, ite_false, Option.some.injEq, exists_eq_left', true_and, and_true, List.cons_append, List.nil_append, Nat.sub_self, decide_eq_true_eq, Nat.reduceAdd, Nat.reduceSub, Nat.zero_add, Nat.le_refl, Nat.zero_le]
  refine ⟨f, rfl, h1, ?_⟩
  simp only [↓n_asg_if, BQ.n_rt, sSeq, sNext, sRet, sRetF, sRetO, sDrop, sSet, sOwn, sAsg, sPar, sPar3, sAug, sApp, sIf, dIf, dTest, dAnd, dOr, dNot, dAndV, dOrV, d1, d2, d2F, dVar, dOwn, dC, dF, dTup, dLst, dNil, dCons, dCB, dCB1, dCF1, dChain, dChain3, dCall, dCallF, dCallK, aNil, aCons, aDk, dGn, dGnil, dGcons, dGtup, dOdIx, dGsub, dIdxT, dIdxL, dSlT, dSlL, dPart, dNoPart, dIl, dIt, frz, opn, cls, catD, startR, arS, seqOf, n_add, n_addT, n_sub, n_mul, n_fdiv, n_mod, n_pow, n_shl, n_cmp, n_is, n_neg, n_not, n_ixL, n_ixT, n_lenL, n_lenT, n_abs, n_gcd, n_isqrt, n_int, n_tupL, n_tupT, at10, at1n, at20, at21, at2n, at30, at31, at32, at3n, fD, mD, wipeR, dYes, ix32, ix31, n_boolC, sz0, sz1, sz2, sz3, sz4, sz5, sz6, sz7, sz8, n_eqI, n_neI, n_eq3, n_ne3, n_isi_int, n_isi_bool, n_isi_tuple, List.map_cons, List.map_nil, List.length_cons, List.length_nil, List.replicate, List.set_cons_zero, List.set_cons_succ, List.getElem?_cons_zero, List.getElem?_cons_succ, List.filter_cons, List.filter_nil, Ar.isDk, List.all_cons, List.all_nil, no_dt, no_un, no_ow, no_dk, Bool.and_eq_true, Bool.true_and, Bool.and_true, Bool.false_eq_true, if_false, if_true, ite_true, ite_false, Option.some.injEq, exists_eq_left', true_and, and_true, List.cons_append, List.nil_append, Nat.sub_self, decide_eq_true_eq, Nat.reduceAdd, Nat.reduceSub, Nat.zero_add, Nat.le_refl, Nat.zero_le]
  unfold isRedP at h
  by_cases hd : f.disc < 0
  · rw [if_pos hd] at h ⊢
    have a0 : f.a ≠ 0 := fun z => by
      have e : f.disc = f.b * f.b := by unfold F.disc; rw [z]; grind
      have := sqpos f.b
      omega
    by_cases ha : 0 < f.a
    · rw [if_pos ha]
      rw [if_neg (by omega)] at h
      exact redD_goal _ _ _ h
    · rw [if_neg ha]
      rw [if_pos (by omega)] at h
      exact redD_goal _ _ _ h
  · rw [if_neg hd] at h ⊢
    refine ⟨f.disc, rfl, h3, ?_⟩
    simp only [↓n_asg_if, BQ.n_rt, sSeq, sNext, sRet, sRetF, sRetO, sDrop, sSet, sOwn, sAsg, sPar, sPar3, sAug, sApp, sIf, dIf, dTest, dAnd, dOr, dNot, dAndV, dOrV, d1, d2, d2F, dVar, dOwn, dC, dF, dTup, dLst, dNil, dCons, dCB, dCB1, dCF1, dChain, dChain3, dCall, dCallF, dCallK, aNil, aCons, aDk, dGn, dGnil, dGcons, dGtup, dOdIx, dGsub, dIdxT, dIdxL, dSlT, dSlL, dPart, dNoPart, dIl, dIt, frz, opn, cls, catD, startR, arS, seqOf, n_add, n_addT, n_sub, n_mul, n_fdiv, n_mod, n_pow, n_shl, n_cmp, n_is, n_neg, n_not, n_ixL, n_ixT, n_lenL, n_lenT, n_abs, n_gcd, n_isqrt, n_int, n_tupL, n_tupT, at10, at1n, at20, at21, at2n, at30, at31, at32, at3n, fD, mD, wipeR, dYes, ix32, ix31, n_boolC, sz0, sz1, sz2, sz3, sz4, sz5, sz6, sz7, sz8, n_eqI, n_neI, n_eq3, n_ne3, n_isi_int, n_isi_bool, n_isi_tuple, List.map_cons, List.map_nil, List.length_cons, List.length_nil, List.replicate, List.set_cons_zero, List.set_cons_succ, List.getElem?_cons_zero, List.getElem?_cons_succ, List.filter_cons, List.filter_nil, Ar.isDk, List.all_cons, List.all_nil, no_dt, no_un, no_ow, no_dk, Bool.and_eq_true, Bool.true_and, Bool.and_true, Bool.false_eq_true, if_false, if_true, ite_true, ite_false, Option.some.injEq, exists_eq_left', true_and, and_true, List.cons_append, List.nil_append, Nat.sub_self, decide_eq_true_eq, Nat.reduceAdd, Nat.reduceSub, Nat.zero_add, Nat.le_refl, Nat.zero_le]
    by_cases hsp : isSplit f.disc = true
    · rw [if_pos hsp] at h ⊢
      by_cases q1 : f.c = 0 <;> by_cases q2 : 0 < f.b <;> by_cases q3 : 0 ≤ f.a <;> simp only [q1, q2, q3, if_true, if_false, true_and, false_and, decide_false, decide_true] at h ⊢ <;> exact h
    · rw [if_neg hsp] at h ⊢
      have I : Ind f.disc (rt f.disc) := ind_of (by omega) (fun z => hsp (by unfold isSplit; simp [z]; omega))
      have e := red_iff I
      refine ⟨mL (by decide) (by decide), mL (by decide) (by decide), ?_⟩
      by_cases q1 : 0 < f.b
      · rw [if_pos q1]
        refine ⟨mL (by omega) (by omega), ?_⟩
        by_cases q2 : f.b * f.b < f.disc
        · rw [if_pos q2]
          refine ⟨mL (by omega) (by omega), ?_⟩
          by_cases q3 : f.disc < (2 * (f.a.natAbs : Int) + f.b) * (2 * f.a.natAbs + f.b)
          · rw [if_pos q3]
            by_cases q4 : 2 * (f.a.natAbs : Int) - f.b < 0
            · rw [if_pos q4]
              rwa [decide_eq_true (e.mpr ⟨q1, q2, q3, .inl q4⟩)] at h
            · rw [if_neg q4]
              refine ⟨mL (by omega) (by omega), ?_⟩
              by_cases q5 : (2 * (f.a.natAbs : Int) - f.b) * (2 * f.a.natAbs - f.b) < f.disc
              · rw [decide_eq_true (e.mpr ⟨q1, q2, q3, .inr q5⟩)] at h
                rw [decide_eq_true q5]; exact h
              · rw [decide_eq_false (fun w => by have := (e.mp w).2.2.2; omega)] at h
                rw [decide_eq_false q5]; exact h
          · rw [if_neg q3]
            rwa [decide_eq_false (fun w => q3 (e.mp w).2.2.1)] at h
        · rw [if_neg q2]
          rwa [decide_eq_false (fun w => q2 (e.mp w).2.1)] at h
      · rw [if_neg q1]
        rwa [decide_eq_false (fun w => q1 (e.mp w).1)] at h
def sd__law_next : Sd := fun c as y Φ Ψ => ∃ f : F, as = [.dt (fD f)] ∧ DiscOk f ∧ Ind f.disc (rt f.disc) ∧ f.disc < 2 ^ 60 ∧ f.b.natAbs < 2 ^ 40 ∧ f.c.natAbs < 2 ^ 40 ∧ Φ (.tuple [fD (nxt (rt f.disc) f), mD (T (tt (rt f.disc) f))]) c
theorem ok__law_next (Mx : Mo K mg) (C__law_disc : Cl false P w K mg base 1 "_law_disc" ["form"] sd__law_disc) (C__law_whole_root : Cl false P w K mg base 1 "_law_whole_root" ["n"] sd__law_whole_root) : Cl false P w K mg base 2 "_law_next" ["form"] sd__law_next := by
  obtain ⟨fd, hm, Fn0⟩ := Mx.fn 52 "_law_next" (by decide +kernel)
  have hN : (["form", "a", "b", "c", "d", "root", "wide", "e", "t"] : List Str).Nodup := by decide +kernel
  have Sc0 : FnScope ["form", "a", "b", "c", "d", "root", "wide", "e", "t"] ["form"] (defScope (top 52)) := ⟨rfl, rfl, rfl, hN, rfl, by decide +kernel, by decide +kernel⟩
  refine cl_mk Fn0 hm Sc0 (fun _ _ _ _ _ _ us hl => match us, hl with | [_], _ => rfl) (fun _ _ _ _ _ _ us hl => match us, hl with | [_], _ => rfl) fun cdv A outer s H E hr hG tk hp => ⟨_, (ss_cons (s_asg (e_var (pv 0)) (g_tup (n := 3) (by rfl) (gs_cons ((c_name (i := 1) hN (by rfl) (by first | exact .inl rfl | exact .inr rfl) (by first | exact .inl rfl | exact .inr rfl)).g) (gs_cons ((c_name (i := 2) hN (by rfl) (by first | exact .inl rfl | exact .inr rfl) (by first | exact .inl rfl | exact .inr rfl)).g) (gs_cons ((c_name (i := 3) hN (by rfl) (by first | exact .inl rfl | exact .inr rfl) (by first | exact .inl rfl | exact .inr rfl)).g) gs_nil)))))
    (ss_cons (s_set (i := 4) hN (by rfl) (by first | exact .inl rfl | exact .inr rfl) (e_callC C__law_disc (by decide) hr nog (by rfl) tk (a_cons (e_var (pv 0)) a_nil)))
    (ss_cons (s_par (i := 5) (j := 6) rfl hN rfl rfl (by decide) rfl rfl (l_cons (e_callC C__law_whole_root (by decide) hr nog (by rfl) tk (a_cons (e_var (pv 4)) a_nil)) (l_cons (e_bin o_mul e_int.r (e_callB c_abs (by rfl) (Mx.fr "abs" (by decide +kernel)) b_abs (l_cons (e_var (pv 3)) l_nil)).r) l_nil)) rfl)
    (ss_cons (s_set (i := 7) hN (by rfl) (by first | exact .inl rfl | exact .inr rfl) (e_if (t_cmp o_le (e_callB c_abs (by rfl) (Mx.fr "abs" (by decide +kernel)) b_abs (l_cons (e_var (pv 3)) l_nil)).r (r_own (pv 5)) rfl) (e_bin o_sub (r_own (pv 5)) (e_bin o_mod (e_callTy c_int (by rfl) (Mx.fr "int" (by decide +kernel)) b_int (l_cons (e_bin o_add (r_own (pv 5)) (r_own (pv 2))) l_nil)).r (r_own (pv 6))).r) (e_bin o_sub (e_callB c_abs (by rfl) (Mx.fr "abs" (by decide +kernel)) b_abs (l_cons (e_var (pv 3)) l_nil)).r (e_bin o_mod (e_callTy c_int (by rfl) (Mx.fr "int" (by decide +kernel)) b_int (l_cons (e_bin o_add (e_callB c_abs (by rfl) (Mx.fr "abs" (by decide +kernel)) b_abs (l_cons (e_var (pv 3)) l_nil)).r (r_own (pv 2))) l_nil)).r (r_own (pv 6))).r)))
    (ss_cons (s_set (i := 8) hN (by rfl) (by first | exact .inl rfl | exact .inr rfl) (e_bin o_fdiv (e_bin o_add (r_own (pv 2)) (r_own (pv 7))).r (e_bin o_mul e_int.r (r_own (pv 3))).r))
    (ss_one (s_ret (e_tup (l_cons (e_tup (l_cons (e_var (pv 3)) (l_cons (e_var (pv 7)) (l_cons (e_bin o_fdiv (e_bin o_sub (e_bin o_mul (r_own (pv 7)) (r_own (pv 7))).r (r_own (pv 4))).r (e_bin o_mul e_int.r (r_own (pv 3))).r) l_nil)))) (l_cons (e_tup (l_cons (e_tup (l_cons e_int (l_cons (e_un o_neg e_int) l_nil))) (l_cons (e_tup (l_cons e_int (l_cons (e_var (pv 8)) l_nil))) l_nil))) l_nil)))))))))), fun c as y Φ Ψ hn hs => ?_⟩
  obtain ⟨f, rfl, h1, h2, h3, h4, h5, h⟩ := hs
  simp only [↓n_asg_if, BQ.n_rt, sSeq, sNext, sRet, sRetF, sRetO, sDrop, sSet, sOwn, sAsg, sPar, sPar3, sAug, sApp, sIf, dIf, dTest, dAnd, dOr, dNot, dAndV, dOrV, d1, d2, d2F, dVar, dOwn, dC, dF, dTup, dLst, dNil, dCons, dCB, dCB1, dCF1, dChain, dChain3, dCall, dCallF, dCallK, aNil, aCons, aDk, dGn, dGnil, dGcons, dGtup, dOdIx, dGsub, dIdxT, dIdxL, dSlT, dSlL, dPart, dNoPart, dIl, dIt, frz, opn, cls, catD, startR, arS, seqOf, n_add, n_addT, n_sub, n_mul, n_fdiv, n_mod, n_pow, n_shl, n_cmp, n_is, n_neg, n_not, n_ixL, n_ixT, n_lenL, n_lenT, n_abs, n_gcd, n_isqrt, n_int, n_tupL, n_tupT, at10, at1n, at20, at21, at2n, at30, at31, at32, at3n, fD, mD, wipeR, dYes, ix32, ix31, n_boolC, sz0, sz1, sz2, sz3, sz4, sz5, sz6, sz7, sz8, n_eqI, n_neI, n_eq3, n_ne3, n_isi_int, n_isi_bool, n_isi_tuple, List.map_cons, List.map_nil, List.length_cons, List.length_nil, List.replicate, List.set_cons_zero, List.set_cons_succ, List.getElem?_cons_zero, List.getElem?_cons_succ, List.filter_cons, List.filter_nil, Ar.isDk, List.all_cons, List.all_nil, no_dt, no_un, no_ow, no_dk, Bool.and_eq_true, Bool.true_and, Bool.and_true, Bool.false_eq_true, if_false, if_true, ite_true, ite_false, Option.some.injEq, exists_eq_left', true_and, and_true, List.cons_append, List.nil_append, Nat.sub_self, decide_eq_true_eq, Nat.reduceAdd, Nat.reduceSub, Nat.zero_add, Nat.le_refl, Nat.zero_le]
  refine ⟨f, rfl, h1, ?_⟩
  simp only [↓n_asg_if, BQ.n_rt, sSeq, sNext, sRet, sRetF, sRetO, sDrop, sSet, sOwn, sAsg, sPar, sPar3, sAug, sApp, sIf, dIf, dTest, dAnd, dOr, dNot, dAndV, dOrV, d1, d2, d2F, dVar, dOwn, dC, dF, dTup, dLst, dNil, dCons, dCB, dCB1, dCF1, dChain, dChain3, dCall, dCallF, dCallK, aNil, aCons, aDk, dGn, dGnil, dGcons, dGtup, dOdIx, dGsub, dIdxT, dIdxL, dSlT, dSlL, dPart, dNoPart, dIl, dIt, frz, opn, cls, catD, startR, arS, seqOf, n_add, n_addT, n_sub, n_mul, n_fdiv, n_mod, n_pow, n_shl, n_cmp, n_is, n_neg, n_not, n_ixL, n_ixT, n_lenL, n_lenT, n_abs, n_gcd, n_isqrt, n_int, n_tupL, n_tupT, at10, at1n, at20, at21, at2n, at30, at31, at32, at3n, fD, mD, wipeR, dYes, ix32, ix31, n_boolC, sz0, sz1, sz2, sz3, sz4, sz5, sz6, sz7, sz8, n_eqI, n_neI, n_eq3, n_ne3, n_isi_int, n_isi_bool, n_isi_tuple, List.map_cons, List.map_nil, List.length_cons, List.length_nil, List.replicate, List.set_cons_zero, List.set_cons_succ, List.getElem?_cons_zero, List.getElem?_cons_succ, List.filter_cons, List.filter_nil, Ar.isDk, List.all_cons, List.all_nil, no_dt, no_un, no_ow, no_dk, Bool.and_eq_true, Bool.true_and, Bool.and_true, Bool.false_eq_true, if_false, if_true, ite_true, ite_false, Option.some.injEq, exists_eq_left', true_and, and_true, List.cons_append, List.nil_append, Nat.sub_self, decide_eq_true_eq, Nat.reduceAdd, Nat.reduceSub, Nat.zero_add, Nat.le_refl, Nat.zero_le]
  have pos := h2.pos
  have c0 := h2.c0
  refine ⟨f.disc, rfl, by omega, h3, ?_⟩
  simp only [↓n_asg_if, BQ.n_rt, sSeq, sNext, sRet, sRetF, sRetO, sDrop, sSet, sOwn, sAsg, sPar, sPar3, sAug, sApp, sIf, dIf, dTest, dAnd, dOr, dNot, dAndV, dOrV, d1, d2, d2F, dVar, dOwn, dC, dF, dTup, dLst, dNil, dCons, dCB, dCB1, dCF1, dChain, dChain3, dCall, dCallF, dCallK, aNil, aCons, aDk, dGn, dGnil, dGcons, dGtup, dOdIx, dGsub, dIdxT, dIdxL, dSlT, dSlL, dPart, dNoPart, dIl, dIt, frz, opn, cls, catD, startR, arS, seqOf, n_add, n_addT, n_sub, n_mul, n_fdiv, n_mod, n_pow, n_shl, n_cmp, n_is, n_neg, n_not, n_ixL, n_ixT, n_lenL, n_lenT, n_abs, n_gcd, n_isqrt, n_int, n_tupL, n_tupT, at10, at1n, at20, at21, at2n, at30, at31, at32, at3n, fD, mD, wipeR, dYes, ix32, ix31, n_boolC, sz0, sz1, sz2, sz3, sz4, sz5, sz6, sz7, sz8, n_eqI, n_neI, n_eq3, n_ne3, n_isi_int, n_isi_bool, n_isi_tuple, List.map_cons, List.map_nil, List.length_cons, List.length_nil, List.replicate, List.set_cons_zero, List.set_cons_succ, List.getElem?_cons_zero, List.getElem?_cons_succ, List.filter_cons, List.filter_nil, Ar.isDk, List.all_cons, List.all_nil, no_dt, no_un, no_ow, no_dk, Bool.and_eq_true, Bool.true_and, Bool.and_true, Bool.false_eq_true, if_false, if_true, ite_true, ite_false, Option.some.injEq, exists_eq_left', true_and, and_true, List.cons_append, List.nil_append, Nat.sub_self, decide_eq_true_eq, Nat.reduceAdd, Nat.reduceSub, Nat.zero_add, Nat.le_refl, Nat.zero_le]
  have r30 : rt f.disc < 2 ^ 30 := sqlt (by decide) (by have := h2.lo; omega)
  have r0 := h2.r0
  generalize hr : rt f.disc = r at *
  obtain ⟨ea, eb⟩ := nxt_eq (r := r) c0
  have ec : (nxt r f).c = (mid r f * mid r f - f.disc).fdiv (4 * f.c) := by
    rw [← nxt_c c0, fdiv_mul (by omega)]
  have eN : fD (nxt r f) = .tuple [.int f.c, .int (mid r f), .int ((mid r f * mid r f - f.disc).fdiv (4 * f.c))] := by
    unfold fD; rw [ea, eb, ec]
  have eT : mD (T (tt r f)) = .tuple [.tuple [.int 0, .int (-1)], .tuple [.int 1, .int ((f.b + mid r f).fdiv (2 * f.c))]] := rfl
  rw [eN, eT] at h
  refine ⟨.of_left (by decide), ?_⟩
  by_cases hz : (f.c.natAbs : Int) ≤ r
  · rw [if_pos hz]
    have m1 := mid_in (r := r) c0 hz
    unfold mid at h m1
    simp only [if_pos hz] at h m1
    exact ⟨by omega, .of_left (by decide), dOk (by omega) (by omega) (by omega), mL (by omega) (by omega), .of_left (by decide), dOk (by omega) (by omega) (by omega), h⟩
  · rw [if_neg hz]
    have m1 := mid_out (r := r) c0 hz
    unfold mid at h m1
    simp only [if_neg hz] at h m1
    exact ⟨by omega, .of_left (by decide), dOk (by omega) (by omega) (by omega), mL (by omega) (by omega), .of_left (by decide), dOk (by omega) (by omega) (by omega), h⟩
end
end K31

/-! The law's own reduction and cycle. -/
namespace K31
open PySem PySem.Spec PyProof.Rows L2 DL BQ
section
variable {P : Program} {w : World} {K : PySem.W.Frag} {mg : Str → Option Value} {base : Heap}
def sd__law_zero_line : Sd := fun c as y Φ Ψ => ∃ u v : Int, as = [.dt (.int u), .dt (.int v)] ∧ (u ≠ 0 ∨ v ≠ 0) ∧ u.natAbs < 2 ^ 24 ∧ v.natAbs < 2 ^ 24 ∧
  ∀ m : M, m.q = u.fdiv (Int.gcd u v) → m.s = v.fdiv (Int.gcd u v) → m.det = 1 → Mb 1275 m → Φ (mD m) c
theorem ok__law_zero_line (Mx : Mo K mg) (C__law_gcd : Cl false P w K mg base 1 "_law_gcd" ["one", "other"] sd__law_gcd) : Cl false P w K mg base 2 "_law_zero_line" ["x", "y"] sd__law_zero_line := by
  obtain ⟨fd, hm, Fn0⟩ := Mx.fn 53 "_law_zero_line" (by decide +kernel)
  have hN : (["x", "y", "least", "one", "other", "first", "second", "many"] : List Str).Nodup := by decide +kernel
  have Sc0 : FnScope ["x", "y", "least", "one", "other", "first", "second", "many"] ["x", "y"] (defScope (top 53)) := ⟨rfl, rfl, rfl, hN, rfl, by decide +kernel, by decide +kernel⟩
  refine cl_mk Fn0 hm Sc0 (fun _ _ _ _ _ _ us hl => match us, hl with | [_, _], _ => rfl) (fun _ _ _ _ _ _ us hl => match us, hl with | [_, _], _ => rfl) fun cdv A outer s H E hr hG tk hp => ⟨_, (ss_cons (s_set (i := 2) hN (by rfl) (by first | exact .inl rfl | exact .inr rfl) (e_callC C__law_gcd (by decide) hr nog (by rfl) tk (a_cons (e_var (pv 0)) (a_cons (e_var (pv 1)) a_nil))))
    (ss_cons (s_par (i := 0) (j := 1) rfl hN rfl rfl (by decide) rfl rfl (l_cons (e_bin o_fdiv (r_own (pv 0)) (r_own (pv 2))) (l_cons (e_bin o_fdiv (r_own (pv 1)) (r_own (pv 2))) l_nil)) rfl)
    (ss_cons (s_asg (e_tup (l_cons (e_var (pv 0)) (l_cons (e_var (pv 1)) (l_cons (e_tup (l_cons e_int (l_cons e_int l_nil))) (l_cons (e_tup (l_cons e_int (l_cons e_int l_nil))) l_nil))))) (g_tup (n := 4) (by rfl) (gs_cons ((c_name (i := 3) hN (by rfl) (by first | exact .inl rfl | exact .inr rfl) (by first | exact .inl rfl | exact .inr rfl)).g) (gs_cons ((c_name (i := 4) hN (by rfl) (by first | exact .inl rfl | exact .inr rfl) (by first | exact .inl rfl | exact .inr rfl)).g) (gs_cons ((c_name (i := 5) hN (by rfl) (by first | exact .inl rfl | exact .inr rfl) (by first | exact .inl rfl | exact .inr rfl)).g) (gs_cons ((c_name (i := 6) hN (by rfl) (by first | exact .inl rfl | exact .inr rfl) (by first | exact .inl rfl | exact .inr rfl)).g) gs_nil))))))
    (ss_cons (s_while hp (t_cmp (o_neP (hu4 hr)) (r_own (pv 4)) e_int.r rfl) (ss_cons (s_set (i := 7) hN (by rfl) (by first | exact .inl rfl | exact .inr rfl) (e_bin o_fdiv (r_own (pv 3)) (r_own (pv 4))))
    (ss_cons (s_par (i := 3) (j := 4) rfl hN rfl rfl (by decide) rfl rfl (l_cons (e_var (pv 4)) (l_cons (e_bin o_sub (r_own (pv 3)) (e_bin o_mul (r_own (pv 7)) (r_own (pv 4))).r) l_nil)) rfl)
    (ss_one (s_par (i := 5) (j := 6) rfl hN rfl rfl (by decide) rfl rfl (l_cons (e_var (pv 6)) (l_cons (e_tup (l_cons (e_bin o_sub (e_ix (r_own (pv 5)) e_int).r (e_bin o_mul (r_own (pv 7)) (e_ix (r_own (pv 6)) e_int).r).r) (l_cons (e_bin o_sub (e_ix (r_own (pv 5)) e_int).r (e_bin o_mul (r_own (pv 7)) (e_ix (r_own (pv 6)) e_int).r).r) l_nil))) l_nil)) rfl)))))
    (ss_one (s_ret (e_tup (l_cons (e_tup (l_cons (e_bin o_mul (r_own (pv 3)) (e_ix (r_own (pv 5)) e_int).r) (l_cons (e_var (pv 0)) l_nil))) (l_cons (e_tup (l_cons (e_bin o_mul (e_un o_neg (e_var (pv 3))).r (e_ix (r_own (pv 5)) e_int).r) (l_cons (e_var (pv 1)) l_nil))) l_nil))))))))), fun c as y Φ Ψ hn hs => ?_⟩
  obtain ⟨u, v, rfl, nz, hu, hv, h⟩ := hs
  simp only [↓n_asg_if, BQ.n_rt, sSeq, sNext, sRet, sRetF, sRetO, sDrop, sSet, sOwn, sAsg, sPar, sPar3, sAug, sApp, sIf, dIf, dTest, dAnd, dOr, dNot, dAndV, dOrV, d1, d2, d2F, dVar, dOwn, dC, dF, dTup, dLst, dNil, dCons, dCB, dCB1, dCF1, dChain, dChain3, dCall, dCallF, dCallK, aNil, aCons, aDk, dGn, dGnil, dGcons, dGtup, dOdIx, dGsub, dIdxT, dIdxL, dSlT, dSlL, dPart, dNoPart, dIl, dIt, frz, opn, cls, catD, startR, arS, seqOf, n_add, n_addT, n_sub, n_mul, n_fdiv, n_mod, n_pow, n_shl, n_cmp, n_is, n_neg, n_not, n_ixL, n_ixT, n_lenL, n_lenT, n_abs, n_gcd, n_isqrt, n_int, n_tupL, n_tupT, at10, at1n, at20, at21, at2n, at30, at31, at32, at3n, fD, mD, wipeR, dYes, ix32, ix31, n_boolC, sz0, sz1, sz2, sz3, sz4, sz5, sz6, sz7, sz8, n_eqI, n_neI, n_eq3, n_ne3, n_isi_int, n_isi_bool, n_isi_tuple, List.map_cons, List.map_nil, List.length_cons, List.length_nil, List.replicate, List.set_cons_zero, List.set_cons_succ, List.getElem?_cons_zero, List.getElem?_cons_succ, List.filter_cons, List.filter_nil, Ar.isDk, List.all_cons, List.all_nil, no_dt, no_un, no_ow, no_dk, Bool.and_eq_true, Bool.true_and, Bool.and_true, Bool.false_eq_true, if_false, if_true, ite_true, ite_false, Option.some.injEq, exists_eq_left', true_and, and_true, List.cons_append, List.nil_append, Nat.sub_self, decide_eq_true_eq, Nat.reduceAdd, Nat.reduceSub, Nat.zero_add, Nat.le_refl, Nat.zero_le]
  refine ⟨u, v, rfl, ?_⟩
  simp only [↓n_asg_if, BQ.n_rt, sSeq, sNext, sRet, sRetF, sRetO, sDrop, sSet, sOwn, sAsg, sPar, sPar3, sAug, sApp, sIf, dIf, dTest, dAnd, dOr, dNot, dAndV, dOrV, d1, d2, d2F, dVar, dOwn, dC, dF, dTup, dLst, dNil, dCons, dCB, dCB1, dCF1, dChain, dChain3, dCall, dCallF, dCallK, aNil, aCons, aDk, dGn, dGnil, dGcons, dGtup, dOdIx, dGsub, dIdxT, dIdxL, dSlT, dSlL, dPart, dNoPart, dIl, dIt, frz, opn, cls, catD, startR, arS, seqOf, n_add, n_addT, n_sub, n_mul, n_fdiv, n_mod, n_pow, n_shl, n_cmp, n_is, n_neg, n_not, n_ixL, n_ixT, n_lenL, n_lenT, n_abs, n_gcd, n_isqrt, n_int, n_tupL, n_tupT, at10, at1n, at20, at21, at2n, at30, at31, at32, at3n, fD, mD, wipeR, dYes, ix32, ix31, n_boolC, sz0, sz1, sz2, sz3, sz4, sz5, sz6, sz7, sz8, n_eqI, n_neI, n_eq3, n_ne3, n_isi_int, n_isi_bool, n_isi_tuple, List.map_cons, List.map_nil, List.length_cons, List.length_nil, List.replicate, List.set_cons_zero, List.set_cons_succ, List.getElem?_cons_zero, List.getElem?_cons_succ, List.filter_cons, List.filter_nil, Ar.isDk, List.all_cons, List.all_nil, no_dt, no_un, no_ow, no_dk, Bool.and_eq_true, Bool.true_and, Bool.and_true, Bool.false_eq_true, if_false, if_true, ite_true, ite_false, Option.some.injEq, exists_eq_left', true_and, and_true, List.cons_append, List.nil_append, Nat.sub_self, decide_eq_true_eq, Nat.reduceAdd, Nat.reduceSub, Nat.zero_add, Nat.le_refl, Nat.zero_le]
  obtain ⟨g0, e1, e2, g1⟩ := gcd_mul_fdiv nz
  have dg := gcdOk (x := u) (y := v) (by omega) (by omega) nz
  have lu := fdiv_le u (Int.gcd u v)
  have lv := fdiv_le v (Int.gcd u v)
  generalize u.fdiv (Int.gcd u v) = X at *
  generalize v.fdiv (Int.gcd u v) = Y at *
  refine ⟨dg, dg, ?_⟩
  refine ⟨fun m c' ρ => ∃ (a b : Int) (N : BQ.M) (sl : Sl), ρ = [.dt (.int X), .dt (.int Y), .dt (.int (Int.gcd u v)), .dt (.int a), .dt (.int b), .dt (.tuple [.int N.p, .int N.r]), .dt (.tuple [.int N.q, .int N.s]), sl] ∧ c' = c ∧ Eu X Y a b N ∧ a.natAbs < 2 ^ 24 ∧ b.natAbs < 2 ^ 24 ∧ m = em a b ∧ ∃ k, k + 25 * m ≤ 1275 ∧ Mb k N,
    ⟨em X Y, X, Y, BQ.M.one, .un, rfl, rfl, Eu.start X Y, by omega, by omega, rfl, 0, by have := em_le (a := X) (b := Y) (k := 24) (by omega) (by omega); omega, Mb.one⟩, ?_⟩
  rintro m c' ρ ⟨a, b, N, sl, rfl, rfl, E, ha, hb, rfl, k, hk, hM⟩
  simp only [↓n_asg_if, BQ.n_rt, sSeq, sNext, sRet, sRetF, sRetO, sDrop, sSet, sOwn, sAsg, sPar, sPar3, sAug, sApp, sIf, dIf, dTest, dAnd, dOr, dNot, dAndV, dOrV, d1, d2, d2F, dVar, dOwn, dC, dF, dTup, dLst, dNil, dCons, dCB, dCB1, dCF1, dChain, dChain3, dCall, dCallF, dCallK, aNil, aCons, aDk, dGn, dGnil, dGcons, dGtup, dOdIx, dGsub, dIdxT, dIdxL, dSlT, dSlL, dPart, dNoPart, dIl, dIt, frz, opn, cls, catD, startR, arS, seqOf, n_add, n_addT, n_sub, n_mul, n_fdiv, n_mod, n_pow, n_shl, n_cmp, n_is, n_neg, n_not, n_ixL, n_ixT, n_lenL, n_lenT, n_abs, n_gcd, n_isqrt, n_int, n_tupL, n_tupT, at10, at1n, at20, at21, at2n, at30, at31, at32, at3n, fD, mD, wipeR, dYes, ix32, ix31, n_boolC, sz0, sz1, sz2, sz3, sz4, sz5, sz6, sz7, sz8, n_eqI, n_neI, n_eq3, n_ne3, n_isi_int, n_isi_bool, n_isi_tuple, List.map_cons, List.map_nil, List.length_cons, List.length_nil, List.replicate, List.set_cons_zero, List.set_cons_succ, List.getElem?_cons_zero, List.getElem?_cons_succ, List.filter_cons, List.filter_nil, Ar.isDk, List.all_cons, List.all_nil, no_dt, no_un, no_ow, no_dk, Bool.and_eq_true, Bool.true_and, Bool.and_true, Bool.false_eq_true, if_false, if_true, ite_true, ite_false, Option.some.injEq, exists_eq_left', true_and, and_true, List.cons_append, List.nil_append, Nat.sub_self, decide_eq_true_eq, Nat.reduceAdd, Nat.reduceSub, Nat.zero_add, Nat.le_refl, Nat.zero_le]
  by_cases hb0 : b = 0
  · subst hb0
    rw [if_neg (by simp)]
    have hg : (a.natAbs : Int) = 1 := by
      have := E.gcd
      rw [g1] at this
      simp at this
      omega
    have e := E.fst
    have hk2 : 2 ^ k ≤ 2 ^ 1275 := Nat.pow_le_pow_right (by decide) (by omega)
    have h24 : 2 ^ 24 ≤ 2 ^ 1275 := Nat.pow_le_pow_right (by decide) (by decide)
    obtain ⟨q1, q2, q3, q4⟩ := hM
    have aa : a * a = 1 := by rw [← Int.natAbs_mul_self, show a.natAbs = 1 by omega]; rfl
    refine ⟨mL (by omega) (by omega), mL (by omega) (by omega), h ⟨a * N.r, X, -a * N.p, Y⟩ rfl rfl ?_ ⟨?_, ?_, ?_, ?_⟩⟩
    · show a * N.r * Y - X * (-a * N.p) = 1
      have : a * N.r * Y - X * (-a * N.p) = a * (X * N.p + Y * N.r) := by grind
      rw [this, ← e, aa]
    · show (a * N.r).natAbs ≤ _
      rw [Int.natAbs_mul]
      have : a.natAbs = 1 := by omega
      rw [this]; omega
    · show X.natAbs ≤ _; omega
    · show (-a * N.p).natAbs ≤ _
      rw [Int.natAbs_mul, Int.natAbs_neg]
      have : a.natAbs = 1 := by omega
      rw [this]; omega
    · show Y.natAbs ≤ _; omega
  · rw [if_pos (by simpa using hb0)]
    have ht := fdiv_le a b
    have hr := fmod_eq a b
    have hl := em_lt (a := a) hb0
    have hs := fmod_small a hb0
    refine ⟨dOk hb0 (by omega) (by omega), mL (by omega) (by omega), mL (by omega) (by omega), mL (by omega) (by omega), em b (a - a.fdiv b * b), hl, b, _, N.mul (Q (a.fdiv b)), .dt (.int (a.fdiv b)), ?_, E.step _, hb, ?_, rfl, k + 25, by omega, Mb.Q hM ?_⟩
    · simp only [M.mul, Q, Int.mul_zero, Int.mul_one, Int.zero_add]
      congr 8 <;> grind
    · rw [hr]
      rcases Int.lt_or_gt_of_ne hb0 with z | z
      · have := hs.2 z; omega
      · have := hs.1 z; omega
    · have : 2 ^ 24 + 1 ≤ 2 ^ 25 := by decide
      omega
/-- the shift behind a line -/
theorem splitOk {f : F} {m : M} {w : Int} (kk : Int) (fc : (f.by m).c = 0) (fw : (f.by m).b = w) (w0 : 0 < w) (w1 : w ≤ 3162) (q1 : m.q.natAbs < 2 ^ 24) (q2 : m.s.natAbs < 2 ^ 24) : ByOk (f.by m) (BQ.V kk) ∧ MulOk m (BQ.V kk) := by
  have z : ∀ x : Int, IntMulOk x 0 := fun x => mR (by decide) (by decide)
  have o : ∀ x : Int, IntMulOk x 1 := fun x => mR (by decide) (by decide)
  have z' : ∀ x : Int, IntMulOk 0 x := fun x => mL (by decide) (by decide)
  unfold BQ.V
  constructor
  · refine ⟨⟨o _, o _, o _, ?_, ?_, ?_⟩, ⟨z _, z _, z _, o _, o _, o _⟩, o _, z _, o _, z' _, ?_, ?_, o _⟩
    · exact mL (by simp only [Int.mul_one]; omega) (by simp only [Int.mul_one]; omega)
    · simp only [fc]; exact z' _
    · simp only [fc, Int.zero_mul]; exact z' _
    · exact mL (by omega) (by omega)
    · simp only [fc, Int.mul_zero]; exact z' _
  · exact ⟨o _, mL (by omega) (by omega), z _, o _, o _, mL (by omega) (by omega), z _, o _⟩
def lrows (f : F) : List (Int × Int) := if f.a = 0 then [(1, 0), (-f.c, f.b)] else [(rt f.disc - f.b, 2 * f.a), (-rt f.disc - f.b, 2 * f.a)]
def RowL (f : F) (w : Int) (r : Int × Int) : Prop := RowOk f w r ∧ (r.1 ≠ 0 ∨ r.2 ≠ 0) ∧ r.1.natAbs < 2 ^ 24 ∧ r.2.natAbs < 2 ^ 24
theorem lrows_ok {f : F} {w : Int} (w0 : 0 < w) (hw : w ≤ 3162) (hd : f.disc = w * w) (h1 : f.a.natAbs ≤ 2 ^ 20) (h2 : f.b.natAbs ≤ 2 ^ 20) (h3 : f.c.natAbs ≤ 2 ^ 20) (hr : rt f.disc = w) :
    (∀ r, r ∈ lrows f → RowL f w r) ∧ ∃ r, r ∈ lrows f ∧ GoodRow f w r := by
  obtain ⟨ok, gd⟩ := rows_ok w0 hw hd h1 h2 h3 hr
  unfold zrows at ok gd
  unfold lrows
  rw [hr] at ok gd ⊢
  by_cases ha : f.a = 0
  · rw [if_pos ha] at ok gd ⊢
    have hb : f.b = w ∨ f.b = -w := by
      unfold F.disc at hd
      rw [ha] at hd
      have : (f.b - w) * (f.b + w) = 0 := by grind
      rcases Int.mul_eq_zero.mp this with z | z <;> omega
    have nb : f.b ≠ 0 := by omega
    have flip : ∀ (g : Int) (m : M), g * m.q = -f.c → g * m.s = f.b → (-g) * m.q = f.c ∧ (-g) * m.s = -f.b := fun g m a b => ⟨by rw [Int.neg_mul]; omega, by rw [Int.neg_mul]; omega⟩
    have r2 : RowOk f w (-f.c, f.b) := row_mk (.inr nb) (by omega) (by omega) fun g m g0 e1 e2 hm => by
      obtain ⟨f1, f2⟩ := flip g m e1 e2
      obtain ⟨k1, k2⟩ := line4 ha (by omega) f1 f2 hm
      refine ⟨?_, by rw [k1]; exact hb⟩
      have : -g * -g = g * g := by grind
      rwa [this] at k2
    refine ⟨fun r hr => ?_, ?_⟩
    · rcases List.mem_cons.mp hr with rfl | hr
      · exact ⟨ok _ (by simp), .inl (by decide), by decide, by decide⟩
      · rw [List.mem_singleton.mp hr]
        exact ⟨r2, .inr nb, by show (-f.c).natAbs < _; omega, by show f.b.natAbs < _; omega⟩
    · rcases hb with hb | hb
      · refine ⟨(-f.c, f.b), by simp, good_mk (.inr nb) fun g m g0 e1 e2 hm => ?_⟩
        obtain ⟨f1, f2⟩ := flip g m e1 e2
        rw [(line4 ha (by omega) f1 f2 hm).1]; exact hb
      · refine ⟨(1, 0), by simp, fun m e1 e2 hm => ?_⟩
        have e1 : m.q = 1 := e1
        have e2 : m.s = 0 := e2
        rw [(line3 ha e1 e2 hm).1]; omega
  · rw [if_neg ha] at ok gd ⊢
    refine ⟨fun r hr => ⟨ok r hr, ?_⟩, gd⟩
    rcases List.mem_cons.mp hr with rfl | hr
    · exact ⟨.inr (by show 2 * f.a ≠ 0; omega), by show (w - f.b).natAbs < _; omega, by show (2 * f.a).natAbs < _; omega⟩
    · rw [List.mem_singleton.mp hr]
      exact ⟨.inr (by show 2 * f.a ≠ 0; omega), by show (-w - f.b).natAbs < _; omega, by show (2 * f.a).natAbs < _; omega⟩
theorem Df.ex : ∀ (n : Nat) {f : F}, nu f ≤ n → Df f → ∃ R, Dr f R
  | 0, f, h, D => by have := D.a0; unfold nu at h; omega
  | n + 1, f, h, D => by
    by_cases g : good (shf f)
    · exact ⟨_, .stop g⟩
    · have l := D.nu_lt g
      obtain ⟨R, d⟩ := Df.ex n (f := (shf f).by swp) (by omega) D.shf.swp
      exact ⟨R, .go g d⟩
theorem isRedP_df {g : F} (G : Df g) : isRedP g = decide (RedD g) := by
  unfold isRedP
  rw [if_pos G.d0, if_neg (by have := G.a0; omega)]
/-- the first item stays small -/
theorem a_small {g : F} (c0 : g.c ≠ 0) (hb : g.b.natAbs ≤ 2 ^ 20) (hD : g.disc ≤ 10000000) (h0 : 0 ≤ g.disc) : g.a.natAbs < 2 ^ 60 := by
  have e : 4 * (g.a * g.c) = g.b * g.b - g.disc := by unfold F.disc; grind
  have b2 : (g.b * g.b).natAbs ≤ 2 ^ 20 * 2 ^ 20 := by rw [Int.natAbs_mul]; exact Nat.mul_le_mul hb hb
  have b3 := sqpos g.b
  have m : (g.a * g.c).natAbs = g.a.natAbs * g.c.natAbs := Int.natAbs_mul _ _
  have l : g.a.natAbs * 1 ≤ g.a.natAbs * g.c.natAbs := Nat.mul_le_mul (Nat.le_refl _) (by omega)
  omega
def pD (r : Int × Int) : PyData := .tuple [.int r.1, .int r.2]
def sd__law_reduced1 : Sd := fun c as y Φ Ψ => ∃ f : F, as = [.dt (fD f)] ∧ Fo f ∧ (0 < f.disc ∨ 0 < f.a) ∧ ∀ R d, To f R → R.disc = f.disc → Φ (.tuple [fD R, d]) c
def sd__law_reduced : Sd := fun c as y Φ Ψ => ∃ f : F, as = [.dt (fD f)] ∧ Fo f ∧ ∀ R d, To f R → R.disc = f.disc → Φ (.tuple [fD R, d]) c
theorem ok__law_reduced1 (Mx : Mo K mg) (C__law_disc : Cl false P w K mg base 1 "_law_disc" ["form"] sd__law_disc) (C__law_is_split : Cl false P w K mg base 2 "_law_is_split" ["d"] sd__law_is_split) (C__law_whole_root : Cl false P w K mg base 1 "_law_whole_root" ["n"] sd__law_whole_root) (C__law_zero_line : Cl false P w K mg base 2 "_law_zero_line" ["x", "y"] sd__law_zero_line) (C__law_stepped : Cl false P w K mg base 1 "_law_stepped" ["form", "step"] sd__law_stepped) (C__law_behind : Cl false P w K mg base 1 "_law_behind" ["one", "other"] sd__law_behind) (C__law_is_reduced : Cl false P w K mg base 3 "_law_is_reduced" ["form"] sd__law_is_reduced) (C__law_next : Cl false P w K mg base 2 "_law_next" ["form"] sd__law_next) : Cl false P w K mg base 4 "_law_reduced" ["form"] sd__law_reduced1 := by
  obtain ⟨fd, hm, Fn0⟩ := Mx.fn 54 "_law_reduced" (by decide +kernel)
  have hN : (["form", "d", "step", "told", "a", "b", "c", "root", "lines", "x", "y", "own", "more"] : List Str).Nodup := by decide +kernel
  have Sc0 : FnScope ["form", "d", "step", "told", "a", "b", "c", "root", "lines", "x", "y", "own", "more"] ["form"] (defScope (top 54)) := ⟨rfl, rfl, rfl, hN, rfl, by decide +kernel, by decide +kernel⟩
  refine cl_mk Fn0 hm Sc0 (fun _ _ _ _ _ _ us hl => match us, hl with | [_], _ => rfl) (fun _ _ _ _ _ _ us hl => match us, hl with | [_], _ => rfl) fun cdv A outer s H E hr hG tk hp => ⟨_, (ss_cons (s_par (i := 1) (j := 2) rfl hN rfl rfl (by decide) rfl rfl (l_cons (e_callC C__law_disc (by decide) hr nog (by rfl) tk (a_cons (e_var (pv 0)) a_nil)) (l_cons (e_tup (l_cons (e_tup (l_cons e_int (l_cons e_int l_nil))) (l_cons (e_tup (l_cons e_int (l_cons e_int l_nil))) l_nil))) l_nil)) rfl)
    (ss_cons (s_if (w_and (t_cmp o_lt (r_own (pv 1)) e_int.r rfl) (w_and1 (t_cmp o_lt (e_ix (r_own (pv 0)) e_int).r e_int.r rfl))).t (ss_cons s_never
    (ss_one (s_ret (e_tup (l_cons (e_tup (l_cons (e_un o_neg (e_ix (r_own (pv 3)) e_int)) (l_cons (e_un o_neg (e_ix (r_own (pv 3)) e_int)) (l_cons (e_un o_neg (e_ix (r_own (pv 3)) e_int)) l_nil)))) (l_cons (e_var (pv 2)) l_nil)))))) ss_nil)
    (ss_cons (s_if (t_val (e_callC C__law_is_split (by decide) hr nog (by rfl) tk (a_cons (e_var (pv 1)) a_nil))) (ss_cons (s_asg (e_var (pv 0)) (g_tup (n := 3) (by rfl) (gs_cons ((c_name (i := 4) hN (by rfl) (by first | exact .inl rfl | exact .inr rfl) (by first | exact .inl rfl | exact .inr rfl)).g) (gs_cons ((c_name (i := 5) hN (by rfl) (by first | exact .inl rfl | exact .inr rfl) (by first | exact .inl rfl | exact .inr rfl)).g) (gs_cons ((c_name (i := 6) hN (by rfl) (by first | exact .inl rfl | exact .inr rfl) (by first | exact .inl rfl | exact .inr rfl)).g) gs_nil)))))
    (ss_cons (s_set (i := 7) hN (by rfl) (by first | exact .inl rfl | exact .inr rfl) (e_callC C__law_whole_root (by decide) hr nog (by rfl) tk (a_cons (e_var (pv 1)) a_nil)))
    (ss_cons (s_set (i := 8) hN (by rfl) (by first | exact .inl rfl | exact .inr rfl) (e_if (t_cmp (o_neP (hu4 hr)) (r_own (pv 4)) e_int.r rfl) (f_lst (l_cons (e_tup (l_cons (e_bin o_sub (r_own (pv 7)) (r_own (pv 5))) (l_cons (e_bin o_mul e_int.r (r_own (pv 4))) l_nil))) (l_cons (e_tup (l_cons (e_bin o_sub (e_un o_neg (e_var (pv 7))).r (r_own (pv 5))) (l_cons (e_bin o_mul e_int.r (r_own (pv 4))) l_nil))) l_nil))).e (f_lst (l_cons (e_tup (l_cons e_int (l_cons e_int l_nil))) (l_cons (e_tup (l_cons (e_un o_neg (e_var (pv 6))) (l_cons (e_var (pv 5)) l_nil))) l_nil))).e))
    (ss_one (s_for hp rfl (i_list (e_var (pv 8))) (c_tup (n := 2) (by rfl) (cs_cons (c_name (i := 9) hN (by rfl) (by first | exact .inl rfl | exact .inr rfl) (by first | exact .inl rfl | exact .inr rfl)) (cs_cons (c_name (i := 10) hN (by rfl) (by first | exact .inl rfl | exact .inr rfl) (by first | exact .inl rfl | exact .inr rfl)) cs_nil))) (ss_cons (s_set (i := 2) hN (by rfl) (by first | exact .inl rfl | exact .inr rfl) (e_callC C__law_zero_line (by decide) hr nog (by rfl) tk (a_cons (e_var (pv 9)) (a_cons (e_var (pv 10)) a_nil))))
    (ss_cons (s_set (i := 11) hN (by rfl) (by first | exact .inl rfl | exact .inr rfl) (e_callC C__law_stepped (by decide) hr nog (by rfl) tk (a_cons (e_var (pv 0)) (a_cons (e_var (pv 2)) a_nil))))
    (ss_one (s_if (t_cmp o_gt (e_ix (r_own (pv 11)) e_int).r e_int.r rfl) (ss_cons (s_set (i := 12) hN (by rfl) (by first | exact .inl rfl | exact .inr rfl) (e_tup (l_cons (e_tup (l_cons e_int (l_cons e_int l_nil))) (l_cons (e_tup (l_cons (e_un o_neg (e_bin o_fdiv (e_ix (r_own (pv 11)) e_int).r (e_ix (r_own (pv 11)) e_int).r)) (l_cons e_int l_nil))) l_nil))))
    (ss_one (s_ret (e_tup (l_cons (e_callC C__law_stepped (by decide) hr nog (by rfl) tk (a_cons (e_var (pv 11)) (a_cons (e_var (pv 12)) a_nil))) (l_cons (e_callC C__law_behind (by decide) hr nog (by rfl) tk (a_cons (e_var (pv 2)) (a_cons (e_var (pv 12)) a_nil))) l_nil)))))) ss_nil))))))))) ss_nil)
    (ss_cons (s_while hp (t_not (t_val (e_callC C__law_is_reduced (by decide) hr nog (by rfl) tk (a_cons (e_var (pv 0)) a_nil)))) (ss_cons (s_if (t_cmp o_gt (r_own (pv 1)) e_int.r rfl) (ss_one (s_asg (e_callC C__law_next (by decide) hr nog (by rfl) tk (a_cons (e_var (pv 0)) a_nil)) (g_tup (n := 2) (by rfl) (gs_cons ((c_name (i := 0) hN (by rfl) (by first | exact .inl rfl | exact .inr rfl) (by first | exact .inl rfl | exact .inr rfl)).g) (gs_cons ((c_name (i := 12) hN (by rfl) (by first | exact .inl rfl | exact .inr rfl) (by first | exact .inl rfl | exact .inr rfl)).g) gs_nil))))) (ss_cons (s_asg (e_var (pv 0)) (g_tup (n := 3) (by rfl) (gs_cons ((c_name (i := 4) hN (by rfl) (by first | exact .inl rfl | exact .inr rfl) (by first | exact .inl rfl | exact .inr rfl)).g) (gs_cons ((c_name (i := 5) hN (by rfl) (by first | exact .inl rfl | exact .inr rfl) (by first | exact .inl rfl | exact .inr rfl)).g) (gs_cons ((c_name (i := 6) hN (by rfl) (by first | exact .inl rfl | exact .inr rfl) (by first | exact .inl rfl | exact .inr rfl)).g) gs_nil)))))
    (ss_cons (s_set (i := 12) hN (by rfl) (by first | exact .inl rfl | exact .inr rfl) (e_if (t_chain o_lt o_le (e_un o_neg (e_var (pv 4))) (e_var (pv 5)) (e_var (pv 4))) (e_tup (l_cons (e_tup (l_cons e_int (l_cons (e_un o_neg e_int) l_nil))) (l_cons (e_tup (l_cons e_int (l_cons e_int l_nil))) l_nil))) (e_tup (l_cons (e_tup (l_cons e_int (l_cons (e_bin o_fdiv (e_bin o_sub (r_own (pv 4)) (r_own (pv 5))).r (e_bin o_mul e_int.r (r_own (pv 4))).r) l_nil))) (l_cons (e_tup (l_cons e_int (l_cons e_int l_nil))) l_nil)))))
    (ss_one (s_set (i := 0) hN (by rfl) (by first | exact .inl rfl | exact .inr rfl) (e_callC C__law_stepped (by decide) hr nog (by rfl) tk (a_cons (e_var (pv 0)) (a_cons (e_var (pv 12)) a_nil))))))))
    (ss_one (s_set (i := 2) hN (by rfl) (by first | exact .inl rfl | exact .inr rfl) (e_callC C__law_behind (by decide) hr nog (by rfl) tk (a_cons (e_var (pv 2)) (a_cons (e_var (pv 12)) a_nil)))))))
    (ss_one (s_ret (e_tup (l_cons (e_var (pv 0)) (l_cons (e_var (pv 2)) l_nil))))))))), fun c as y Φ Ψ hn hs => ?_⟩
  obtain ⟨f, rfl, h1, h2, h⟩ := hs
  simp only [↓n_asg_if, BQ.n_rt, sSeq, sNext, sRet, sRetF, sRetO, sDrop, sSet, sOwn, sAsg, sPar, sPar3, sAug, sApp, sIf, dIf, dTest, dAnd, dOr, dNot, dAndV, dOrV, d1, d2, d2F, dVar, dOwn, dC, dF, dTup, dLst, dNil, dCons, dCB, dCB1, dCF1, dChain, dChain3, dCall, dCallF, dCallK, aNil, aCons, aDk, dGn, dGnil, dGcons, dGtup, dOdIx, dGsub, dIdxT, dIdxL, dSlT, dSlL, dPart, dNoPart, dIl, dIt, frz, opn, cls, catD, startR, arS, seqOf, n_add, n_addT, n_sub, n_mul, n_fdiv, n_mod, n_pow, n_shl, n_cmp, n_is, n_neg, n_not, n_ixL, n_ixT, n_lenL, n_lenT, n_abs, n_gcd, n_isqrt, n_int, n_tupL, n_tupT, at10, at1n, at20, at21, at2n, at30, at31, at32, at3n, fD, mD, wipeR, dYes, ix32, ix31, n_boolC, sz0, sz1, sz2, sz3, sz4, sz5, sz6, sz7, sz8, n_eqI, n_neI, n_eq3, n_ne3, n_isi_int, n_isi_bool, n_isi_tuple, List.map_cons, List.map_nil, List.length_cons, List.length_nil, List.replicate, List.set_cons_zero, List.set_cons_succ, List.getElem?_cons_zero, List.getElem?_cons_succ, List.filter_cons, List.filter_nil, Ar.isDk, List.all_cons, List.all_nil, no_dt, no_un, no_ow, no_dk, Bool.and_eq_true, Bool.true_and, Bool.and_true, Bool.false_eq_true, if_false, if_true, ite_true, ite_false, Option.some.injEq, exists_eq_left', true_and, and_true, List.cons_append, List.nil_append, Nat.sub_self, decide_eq_true_eq, Nat.reduceAdd, Nat.reduceSub, Nat.zero_add, Nat.le_refl, Nat.zero_le]
  have fab := h1.ab
  refine ⟨f, rfl, h1.dk, ?_⟩
  simp only [↓n_asg_if, BQ.n_rt, sSeq, sNext, sRet, sRetF, sRetO, sDrop, sSet, sOwn, sAsg, sPar, sPar3, sAug, sApp, sIf, dIf, dTest, dAnd, dOr, dNot, dAndV, dOrV, d1, d2, d2F, dVar, dOwn, dC, dF, dTup, dLst, dNil, dCons, dCB, dCB1, dCF1, dChain, dChain3, dCall, dCallF, dCallK, aNil, aCons, aDk, dGn, dGnil, dGcons, dGtup, dOdIx, dGsub, dIdxT, dIdxL, dSlT, dSlL, dPart, dNoPart, dIl, dIt, frz, opn, cls, catD, startR, arS, seqOf, n_add, n_addT, n_sub, n_mul, n_fdiv, n_mod, n_pow, n_shl, n_cmp, n_is, n_neg, n_not, n_ixL, n_ixT, n_lenL, n_lenT, n_abs, n_gcd, n_isqrt, n_int, n_tupL, n_tupT, at10, at1n, at20, at21, at2n, at30, at31, at32, at3n, fD, mD, wipeR, dYes, ix32, ix31, n_boolC, sz0, sz1, sz2, sz3, sz4, sz5, sz6, sz7, sz8, n_eqI, n_neI, n_eq3, n_ne3, n_isi_int, n_isi_bool, n_isi_tuple, List.map_cons, List.map_nil, List.length_cons, List.length_nil, List.replicate, List.set_cons_zero, List.set_cons_succ, List.getElem?_cons_zero, List.getElem?_cons_succ, List.filter_cons, List.filter_nil, Ar.isDk, List.all_cons, List.all_nil, no_dt, no_un, no_ow, no_dk, Bool.and_eq_true, Bool.true_and, Bool.and_true, Bool.false_eq_true, if_false, if_true, ite_true, ite_false, Option.some.injEq, exists_eq_left', true_and, and_true, List.cons_append, List.nil_append, Nat.sub_self, decide_eq_true_eq, Nat.reduceAdd, Nat.reduceSub, Nat.zero_add, Nat.le_refl, Nat.zero_le]
  unfold To at h
  by_cases hd : f.disc < 0
  · have a0 : 0 < f.a := by omega
    rw [if_pos hd, if_neg (by omega)]
    refine ⟨f.disc, rfl, by omega, ?_⟩
    simp only [↓n_asg_if, BQ.n_rt, sSeq, sNext, sRet, sRetF, sRetO, sDrop, sSet, sOwn, sAsg, sPar, sPar3, sAug, sApp, sIf, dIf, dTest, dAnd, dOr, dNot, dAndV, dOrV, d1, d2, d2F, dVar, dOwn, dC, dF, dTup, dLst, dNil, dCons, dCB, dCB1, dCF1, dChain, dChain3, dCall, dCallF, dCallK, aNil, aCons, aDk, dGn, dGnil, dGcons, dGtup, dOdIx, dGsub, dIdxT, dIdxL, dSlT, dSlL, dPart, dNoPart, dIl, dIt, frz, opn, cls, catD, startR, arS, seqOf, n_add, n_addT, n_sub, n_mul, n_fdiv, n_mod, n_pow, n_shl, n_cmp, n_is, n_neg, n_not, n_ixL, n_ixT, n_lenL, n_lenT, n_abs, n_gcd, n_isqrt, n_int, n_tupL, n_tupT, at10, at1n, at20, at21, at2n, at30, at31, at32, at3n, fD, mD, wipeR, dYes, ix32, ix31, n_boolC, sz0, sz1, sz2, sz3, sz4, sz5, sz6, sz7, sz8, n_eqI, n_neI, n_eq3, n_ne3, n_isi_int, n_isi_bool, n_isi_tuple, List.map_cons, List.map_nil, List.length_cons, List.length_nil, List.replicate, List.set_cons_zero, List.set_cons_succ, List.getElem?_cons_zero, List.getElem?_cons_succ, List.filter_cons, List.filter_nil, Ar.isDk, List.all_cons, List.all_nil, no_dt, no_un, no_ow, no_dk, Bool.and_eq_true, Bool.true_and, Bool.and_true, Bool.false_eq_true, if_false, if_true, ite_true, ite_false, Option.some.injEq, exists_eq_left', true_and, and_true, List.cons_append, List.nil_append, Nat.sub_self, decide_eq_true_eq, Nat.reduceAdd, Nat.reduceSub, Nat.zero_add, Nat.le_refl, Nat.zero_le]
    rw [if_neg (by unfold isSplit; simp; omega)]
    have D : Df f := ⟨a0, hd⟩
    obtain ⟨R0, path⟩ := Df.ex (nu f) (Nat.le_refl _) D
    simp only [if_neg (show ¬ 0 < f.disc by omega), if_pos a0] at h
    refine ⟨fun m c' ρ => ∃ (g : BQ.F) (N : BQ.M) (s4 s5 s6 s12 : Sl), ρ = [.dt (fD g), .dt (.int f.disc), .dt (mD N), .un, s4, s5, s6, .un, .un, .un, .un, .un, s12] ∧ (s4.notOd = true ∧ s5.notOd = true ∧ s6.notOd = true ∧ s12.notOd = true) ∧ c' = c ∧ Df g ∧ g.disc = f.disc ∧ g.a ≤ 2 ^ 26 ∧ g.b.natAbs ≤ 2 ^ 26 ∧ Dr g R0 ∧ m = la g,
      ⟨la f, f, BQ.M.one, .un, .un, .un, .un, rfl, ⟨rfl, rfl, rfl, rfl⟩, rfl, D, rfl, by omega, fab.2, path, rfl⟩, ?_⟩
    rintro m c' ρ ⟨g, N, s4, s5, s6, s12, rfl, ⟨n4, n5, n6, n12⟩, rfl, G, ed, ga, gb, gp, rfl⟩
    have g0 := G.a0
    simp only [↓n_asg_if, BQ.n_rt, sSeq, sNext, sRet, sRetF, sRetO, sDrop, sSet, sOwn, sAsg, sPar, sPar3, sAug, sApp, sIf, dIf, dTest, dAnd, dOr, dNot, dAndV, dOrV, d1, d2, d2F, dVar, dOwn, dC, dF, dTup, dLst, dNil, dCons, dCB, dCB1, dCF1, dChain, dChain3, dCall, dCallF, dCallK, aNil, aCons, aDk, dGn, dGnil, dGcons, dGtup, dOdIx, dGsub, dIdxT, dIdxL, dSlT, dSlL, dPart, dNoPart, dIl, dIt, frz, opn, cls, catD, startR, arS, seqOf, n_add, n_addT, n_sub, n_mul, n_fdiv, n_mod, n_pow, n_shl, n_cmp, n_is, n_neg, n_not, n_ixL, n_ixT, n_lenL, n_lenT, n_abs, n_gcd, n_isqrt, n_int, n_tupL, n_tupT, at10, at1n, at20, at21, at2n, at30, at31, at32, at3n, fD, mD, wipeR, dYes, ix32, ix31, n_boolC, sz0, sz1, sz2, sz3, sz4, sz5, sz6, sz7, sz8, n_eqI, n_neI, n_eq3, n_ne3, n_isi_int, n_isi_bool, n_isi_tuple, List.map_cons, List.map_nil, List.length_cons, List.length_nil, List.replicate, List.set_cons_zero, List.set_cons_succ, List.getElem?_cons_zero, List.getElem?_cons_succ, List.filter_cons, List.filter_nil, Ar.isDk, List.all_cons, List.all_nil, no_dt, no_un, no_ow, no_dk, Bool.and_eq_true, Bool.true_and, Bool.and_true, Bool.false_eq_true, if_false, if_true, ite_true, ite_false, Option.some.injEq, exists_eq_left', true_and, and_true, List.cons_append, List.nil_append, Nat.sub_self, decide_eq_true_eq, Nat.reduceAdd, Nat.reduceSub, Nat.zero_add, Nat.le_refl, Nat.zero_le]
    refine ⟨⟨n4, n5, n6, n12⟩, g, rfl, ⟨mR (by omega) (by omega), mL (by omega) (by omega)⟩, by omega, by omega, by omega, by omega, ?_⟩
    rw [isRedP_df G]
    simp only [↓n_asg_if, BQ.n_rt, sSeq, sNext, sRet, sRetF, sRetO, sDrop, sSet, sOwn, sAsg, sPar, sPar3, sAug, sApp, sIf, dIf, dTest, dAnd, dOr, dNot, dAndV, dOrV, d1, d2, d2F, dVar, dOwn, dC, dF, dTup, dLst, dNil, dCons, dCB, dCB1, dCF1, dChain, dChain3, dCall, dCallF, dCallK, aNil, aCons, aDk, dGn, dGnil, dGcons, dGtup, dOdIx, dGsub, dIdxT, dIdxL, dSlT, dSlL, dPart, dNoPart, dIl, dIt, frz, opn, cls, catD, startR, arS, seqOf, n_add, n_addT, n_sub, n_mul, n_fdiv, n_mod, n_pow, n_shl, n_cmp, n_is, n_neg, n_not, n_ixL, n_ixT, n_lenL, n_lenT, n_abs, n_gcd, n_isqrt, n_int, n_tupL, n_tupT, at10, at1n, at20, at21, at2n, at30, at31, at32, at3n, fD, mD, wipeR, dYes, ix32, ix31, n_boolC, sz0, sz1, sz2, sz3, sz4, sz5, sz6, sz7, sz8, n_eqI, n_neI, n_eq3, n_ne3, n_isi_int, n_isi_bool, n_isi_tuple, List.map_cons, List.map_nil, List.length_cons, List.length_nil, List.replicate, List.set_cons_zero, List.set_cons_succ, List.getElem?_cons_zero, List.getElem?_cons_succ, List.filter_cons, List.filter_nil, Ar.isDk, List.all_cons, List.all_nil, no_dt, no_un, no_ow, no_dk, Bool.and_eq_true, Bool.true_and, Bool.and_true, Bool.false_eq_true, if_false, if_true, ite_true, ite_false, Option.some.injEq, exists_eq_left', true_and, and_true, List.cons_append, List.nil_append, Nat.sub_self, decide_eq_true_eq, Nat.reduceAdd, Nat.reduceSub, Nat.zero_add, Nat.le_refl, Nat.zero_le]
    by_cases hr : RedD g
    · rw [if_neg (by simp [hr])]
      have e := gp.red G hr
      exact h g _ (by rw [← e]; exact path) ed
    · rw [if_pos (by simp [hr]), if_neg (by omega)]
      have sw : Sm swp := by unfold Sm swp; decide
      by_cases ir : BQ.inR g
      · rw [if_pos ir.1, if_pos ir.2]
        have es := by_swp g
        have ng : ¬ good g := fun z => hr ((G.red_iff ir).mpr z)
        have hb2 : (g.by swp).b.natAbs ≤ 2 ^ 26 := by rw [es]; show (-g.b).natAbs ≤ _; omega
        have ha2 : (g.by swp).a ≤ 2 ^ 26 := by
          rw [es]; show g.c ≤ _
          have : ¬ g.a < g.c := fun z => ng (.inl z)
          omega
        refine ⟨g, swp, rfl, sw.by_ g, ?_⟩
        simp only [↓n_asg_if, BQ.n_rt, sSeq, sNext, sRet, sRetF, sRetO, sDrop, sSet, sOwn, sAsg, sPar, sPar3, sAug, sApp, sIf, dIf, dTest, dAnd, dOr, dNot, dAndV, dOrV, d1, d2, d2F, dVar, dOwn, dC, dF, dTup, dLst, dNil, dCons, dCB, dCB1, dCF1, dChain, dChain3, dCall, dCallF, dCallK, aNil, aCons, aDk, dGn, dGnil, dGcons, dGtup, dOdIx, dGsub, dIdxT, dIdxL, dSlT, dSlL, dPart, dNoPart, dIl, dIt, frz, opn, cls, catD, startR, arS, seqOf, n_add, n_addT, n_sub, n_mul, n_fdiv, n_mod, n_pow, n_shl, n_cmp, n_is, n_neg, n_not, n_ixL, n_ixT, n_lenL, n_lenT, n_abs, n_gcd, n_isqrt, n_int, n_tupL, n_tupT, at10, at1n, at20, at21, at2n, at30, at31, at32, at3n, fD, mD, wipeR, dYes, ix32, ix31, n_boolC, sz0, sz1, sz2, sz3, sz4, sz5, sz6, sz7, sz8, n_eqI, n_neI, n_eq3, n_ne3, n_isi_int, n_isi_bool, n_isi_tuple, List.map_cons, List.map_nil, List.length_cons, List.length_nil, List.replicate, List.set_cons_zero, List.set_cons_succ, List.getElem?_cons_zero, List.getElem?_cons_succ, List.filter_cons, List.filter_nil, Ar.isDk, List.all_cons, List.all_nil, no_dt, no_un, no_ow, no_dk, Bool.and_eq_true, Bool.true_and, Bool.and_true, Bool.false_eq_true, if_false, if_true, ite_true, ite_false, Option.some.injEq, exists_eq_left', true_and, and_true, List.cons_append, List.nil_append, Nat.sub_self, decide_eq_true_eq, Nat.reduceAdd, Nat.reduceSub, Nat.zero_add, Nat.le_refl, Nat.zero_le]
        refine ⟨N, swp, rfl, sw.mul_ N, ?_⟩
        simp only [↓n_asg_if, BQ.n_rt, sSeq, sNext, sRet, sRetF, sRetO, sDrop, sSet, sOwn, sAsg, sPar, sPar3, sAug, sApp, sIf, dIf, dTest, dAnd, dOr, dNot, dAndV, dOrV, d1, d2, d2F, dVar, dOwn, dC, dF, dTup, dLst, dNil, dCons, dCB, dCB1, dCF1, dChain, dChain3, dCall, dCallF, dCallK, aNil, aCons, aDk, dGn, dGnil, dGcons, dGtup, dOdIx, dGsub, dIdxT, dIdxL, dSlT, dSlL, dPart, dNoPart, dIl, dIt, frz, opn, cls, catD, startR, arS, seqOf, n_add, n_addT, n_sub, n_mul, n_fdiv, n_mod, n_pow, n_shl, n_cmp, n_is, n_neg, n_not, n_ixL, n_ixT, n_lenL, n_lenT, n_abs, n_gcd, n_isqrt, n_int, n_tupL, n_tupT, at10, at1n, at20, at21, at2n, at30, at31, at32, at3n, fD, mD, wipeR, dYes, ix32, ix31, n_boolC, sz0, sz1, sz2, sz3, sz4, sz5, sz6, sz7, sz8, n_eqI, n_neI, n_eq3, n_ne3, n_isi_int, n_isi_bool, n_isi_tuple, List.map_cons, List.map_nil, List.length_cons, List.length_nil, List.replicate, List.set_cons_zero, List.set_cons_succ, List.getElem?_cons_zero, List.getElem?_cons_succ, List.filter_cons, List.filter_nil, Ar.isDk, List.all_cons, List.all_nil, no_dt, no_un, no_ow, no_dk, Bool.and_eq_true, Bool.true_and, Bool.and_true, Bool.false_eq_true, if_false, if_true, ite_true, ite_false, Option.some.injEq, exists_eq_left', true_and, and_true, List.cons_append, List.nil_append, Nat.sub_self, decide_eq_true_eq, Nat.reduceAdd, Nat.reduceSub, Nat.zero_add, Nat.le_refl, Nat.zero_le]
        exact ⟨_, G.la_swp ir hr, g.by swp, N.mul swp, _, _, _, _, rfl, ⟨rfl, rfl, rfl, rfl⟩, G.swp, by rw [disc_by1 (by decide)]; exact ed, ha2, hb2, gp.swp G ir hr, rfl⟩
      · have sl := G.st_le (B := 2 ^ 26) ga (by omega)
        have ss := Sm.S (t := BQ.st g) (by omega)
        have ea := shf_a g
        have ii := G.inR
        have hb2 : (shf g).b.natAbs ≤ 2 ^ 26 := by have := ii.1; have := ii.2; omega
        split
        · split
          · rename_i z1 z2; exact absurd ⟨z1, z2⟩ ir
          · refine ⟨.of_left (by decide), dOk (by omega) (by omega) (by omega), g, S (BQ.st g), rfl, ss.by_ g, ?_⟩
            simp only [↓n_asg_if, BQ.n_rt, sSeq, sNext, sRet, sRetF, sRetO, sDrop, sSet, sOwn, sAsg, sPar, sPar3, sAug, sApp, sIf, dIf, dTest, dAnd, dOr, dNot, dAndV, dOrV, d1, d2, d2F, dVar, dOwn, dC, dF, dTup, dLst, dNil, dCons, dCB, dCB1, dCF1, dChain, dChain3, dCall, dCallF, dCallK, aNil, aCons, aDk, dGn, dGnil, dGcons, dGtup, dOdIx, dGsub, dIdxT, dIdxL, dSlT, dSlL, dPart, dNoPart, dIl, dIt, frz, opn, cls, catD, startR, arS, seqOf, n_add, n_addT, n_sub, n_mul, n_fdiv, n_mod, n_pow, n_shl, n_cmp, n_is, n_neg, n_not, n_ixL, n_ixT, n_lenL, n_lenT, n_abs, n_gcd, n_isqrt, n_int, n_tupL, n_tupT, at10, at1n, at20, at21, at2n, at30, at31, at32, at3n, fD, mD, wipeR, dYes, ix32, ix31, n_boolC, sz0, sz1, sz2, sz3, sz4, sz5, sz6, sz7, sz8, n_eqI, n_neI, n_eq3, n_ne3, n_isi_int, n_isi_bool, n_isi_tuple, List.map_cons, List.map_nil, List.length_cons, List.length_nil, List.replicate, List.set_cons_zero, List.set_cons_succ, List.getElem?_cons_zero, List.getElem?_cons_succ, List.filter_cons, List.filter_nil, Ar.isDk, List.all_cons, List.all_nil, no_dt, no_un, no_ow, no_dk, Bool.and_eq_true, Bool.true_and, Bool.and_true, Bool.false_eq_true, if_false, if_true, ite_true, ite_false, Option.some.injEq, exists_eq_left', true_and, and_true, List.cons_append, List.nil_append, Nat.sub_self, decide_eq_true_eq, Nat.reduceAdd, Nat.reduceSub, Nat.zero_add, Nat.le_refl, Nat.zero_le]
            refine ⟨N, S (BQ.st g), rfl, ss.mul_ N, ?_⟩
            simp only [↓n_asg_if, BQ.n_rt, sSeq, sNext, sRet, sRetF, sRetO, sDrop, sSet, sOwn, sAsg, sPar, sPar3, sAug, sApp, sIf, dIf, dTest, dAnd, dOr, dNot, dAndV, dOrV, d1, d2, d2F, dVar, dOwn, dC, dF, dTup, dLst, dNil, dCons, dCB, dCB1, dCF1, dChain, dChain3, dCall, dCallF, dCallK, aNil, aCons, aDk, dGn, dGnil, dGcons, dGtup, dOdIx, dGsub, dIdxT, dIdxL, dSlT, dSlL, dPart, dNoPart, dIl, dIt, frz, opn, cls, catD, startR, arS, seqOf, n_add, n_addT, n_sub, n_mul, n_fdiv, n_mod, n_pow, n_shl, n_cmp, n_is, n_neg, n_not, n_ixL, n_ixT, n_lenL, n_lenT, n_abs, n_gcd, n_isqrt, n_int, n_tupL, n_tupT, at10, at1n, at20, at21, at2n, at30, at31, at32, at3n, fD, mD, wipeR, dYes, ix32, ix31, n_boolC, sz0, sz1, sz2, sz3, sz4, sz5, sz6, sz7, sz8, n_eqI, n_neI, n_eq3, n_ne3, n_isi_int, n_isi_bool, n_isi_tuple, List.map_cons, List.map_nil, List.length_cons, List.length_nil, List.replicate, List.set_cons_zero, List.set_cons_succ, List.getElem?_cons_zero, List.getElem?_cons_succ, List.filter_cons, List.filter_nil, Ar.isDk, List.all_cons, List.all_nil, no_dt, no_un, no_ow, no_dk, Bool.and_eq_true, Bool.true_and, Bool.and_true, Bool.false_eq_true, if_false, if_true, ite_true, ite_false, Option.some.injEq, exists_eq_left', true_and, and_true, List.cons_append, List.nil_append, Nat.sub_self, decide_eq_true_eq, Nat.reduceAdd, Nat.reduceSub, Nat.zero_add, Nat.le_refl, Nat.zero_le]
            exact ⟨_, G.la_shf ir hr, shf g, N.mul (S (BQ.st g)), _, _, _, _, rfl, ⟨rfl, rfl, rfl, rfl⟩, G.shf, by rw [shf_disc]; exact ed, by omega, hb2, gp.shf G, rfl⟩
        · refine ⟨.of_left (by decide), dOk (by omega) (by omega) (by omega), g, S (BQ.st g), rfl, ss.by_ g, ?_⟩
          simp only [↓n_asg_if, BQ.n_rt, sSeq, sNext, sRet, sRetF, sRetO, sDrop, sSet, sOwn, sAsg, sPar, sPar3, sAug, sApp, sIf, dIf, dTest, dAnd, dOr, dNot, dAndV, dOrV, d1, d2, d2F, dVar, dOwn, dC, dF, dTup, dLst, dNil, dCons, dCB, dCB1, dCF1, dChain, dChain3, dCall, dCallF, dCallK, aNil, aCons, aDk, dGn, dGnil, dGcons, dGtup, dOdIx, dGsub, dIdxT, dIdxL, dSlT, dSlL, dPart, dNoPart, dIl, dIt, frz, opn, cls, catD, startR, arS, seqOf, n_add, n_addT, n_sub, n_mul, n_fdiv, n_mod, n_pow, n_shl, n_cmp, n_is, n_neg, n_not, n_ixL, n_ixT, n_lenL, n_lenT, n_abs, n_gcd, n_isqrt, n_int, n_tupL, n_tupT, at10, at1n, at20, at21, at2n, at30, at31, at32, at3n, fD, mD, wipeR, dYes, ix32, ix31, n_boolC, sz0, sz1, sz2, sz3, sz4, sz5, sz6, sz7, sz8, n_eqI, n_neI, n_eq3, n_ne3, n_isi_int, n_isi_bool, n_isi_tuple, List.map_cons, List.map_nil, List.length_cons, List.length_nil, List.replicate, List.set_cons_zero, List.set_cons_succ, List.getElem?_cons_zero, List.getElem?_cons_succ, List.filter_cons, List.filter_nil, Ar.isDk, List.all_cons, List.all_nil, no_dt, no_un, no_ow, no_dk, Bool.and_eq_true, Bool.true_and, Bool.and_true, Bool.false_eq_true, if_false, if_true, ite_true, ite_false, Option.some.injEq, exists_eq_left', true_and, and_true, List.cons_append, List.nil_append, Nat.sub_self, decide_eq_true_eq, Nat.reduceAdd, Nat.reduceSub, Nat.zero_add, Nat.le_refl, Nat.zero_le]
          refine ⟨N, S (BQ.st g), rfl, ss.mul_ N, ?_⟩
          simp only [↓n_asg_if, BQ.n_rt, sSeq, sNext, sRet, sRetF, sRetO, sDrop, sSet, sOwn, sAsg, sPar, sPar3, sAug, sApp, sIf, dIf, dTest, dAnd, dOr, dNot, dAndV, dOrV, d1, d2, d2F, dVar, dOwn, dC, dF, dTup, dLst, dNil, dCons, dCB, dCB1, dCF1, dChain, dChain3, dCall, dCallF, dCallK, aNil, aCons, aDk, dGn, dGnil, dGcons, dGtup, dOdIx, dGsub, dIdxT, dIdxL, dSlT, dSlL, dPart, dNoPart, dIl, dIt, frz, opn, cls, catD, startR, arS, seqOf, n_add, n_addT, n_sub, n_mul, n_fdiv, n_mod, n_pow, n_shl, n_cmp, n_is, n_neg, n_not, n_ixL, n_ixT, n_lenL, n_lenT, n_abs, n_gcd, n_isqrt, n_int, n_tupL, n_tupT, at10, at1n, at20, at21, at2n, at30, at31, at32, at3n, fD, mD, wipeR, dYes, ix32, ix31, n_boolC, sz0, sz1, sz2, sz3, sz4, sz5, sz6, sz7, sz8, n_eqI, n_neI, n_eq3, n_ne3, n_isi_int, n_isi_bool, n_isi_tuple, List.map_cons, List.map_nil, List.length_cons, List.length_nil, List.replicate, List.set_cons_zero, List.set_cons_succ, List.getElem?_cons_zero, List.getElem?_cons_succ, List.filter_cons, List.filter_nil, Ar.isDk, List.all_cons, List.all_nil, no_dt, no_un, no_ow, no_dk, Bool.and_eq_true, Bool.true_and, Bool.and_true, Bool.false_eq_true, if_false, if_true, ite_true, ite_false, Option.some.injEq, exists_eq_left', true_and, and_true, List.cons_append, List.nil_append, Nat.sub_self, decide_eq_true_eq, Nat.reduceAdd, Nat.reduceSub, Nat.zero_add, Nat.le_refl, Nat.zero_le]
          exact ⟨_, G.la_shf ir hr, shf g, N.mul (S (BQ.st g)), _, _, _, _, rfl, ⟨rfl, rfl, rfl, rfl⟩, G.shf, by rw [shf_disc]; exact ed, by omega, hb2, gp.shf G, rfl⟩
  · have dp : 0 < f.disc := by have := h1.n0; omega
    obtain ⟨fa, fb, fc⟩ := h1.small dp
    rw [if_neg hd]
    refine ⟨f.disc, rfl, by have := h1.le; omega, ?_⟩
    simp only [↓n_asg_if, BQ.n_rt, sSeq, sNext, sRet, sRetF, sRetO, sDrop, sSet, sOwn, sAsg, sPar, sPar3, sAug, sApp, sIf, dIf, dTest, dAnd, dOr, dNot, dAndV, dOrV, d1, d2, d2F, dVar, dOwn, dC, dF, dTup, dLst, dNil, dCons, dCB, dCB1, dCF1, dChain, dChain3, dCall, dCallF, dCallK, aNil, aCons, aDk, dGn, dGnil, dGcons, dGtup, dOdIx, dGsub, dIdxT, dIdxL, dSlT, dSlL, dPart, dNoPart, dIl, dIt, frz, opn, cls, catD, startR, arS, seqOf, n_add, n_addT, n_sub, n_mul, n_fdiv, n_mod, n_pow, n_shl, n_cmp, n_is, n_neg, n_not, n_ixL, n_ixT, n_lenL, n_lenT, n_abs, n_gcd, n_isqrt, n_int, n_tupL, n_tupT, at10, at1n, at20, at21, at2n, at30, at31, at32, at3n, fD, mD, wipeR, dYes, ix32, ix31, n_boolC, sz0, sz1, sz2, sz3, sz4, sz5, sz6, sz7, sz8, n_eqI, n_neI, n_eq3, n_ne3, n_isi_int, n_isi_bool, n_isi_tuple, List.map_cons, List.map_nil, List.length_cons, List.length_nil, List.replicate, List.set_cons_zero, List.set_cons_succ, List.getElem?_cons_zero, List.getElem?_cons_succ, List.filter_cons, List.filter_nil, Ar.isDk, List.all_cons, List.all_nil, no_dt, no_un, no_ow, no_dk, Bool.and_eq_true, Bool.true_and, Bool.and_true, Bool.false_eq_true, if_false, if_true, ite_true, ite_false, Option.some.injEq, exists_eq_left', true_and, and_true, List.cons_append, List.nil_append, Nat.sub_self, decide_eq_true_eq, Nat.reduceAdd, Nat.reduceSub, Nat.zero_add, Nat.le_refl, Nat.zero_le]
    simp only [if_pos dp] at h
    obtain ⟨r0, r1, r2⟩ := rt_ok (Int.le_of_lt dp)
    have r3 : rt f.disc < 3163 := sqlt (by decide) (by have := h1.le; omega)
    by_cases hs : isSplit f.disc = true
    · rw [if_pos hs]
      simp only [if_pos hs] at h
      have e2 : rt f.disc * rt f.disc = f.disc := by
        unfold isSplit at hs
        simp at hs
        exact hs.2
      refine ⟨f.disc, rfl, by omega, by have := h1.le; omega, ?_⟩
      simp only [↓n_asg_if, BQ.n_rt, sSeq, sNext, sRet, sRetF, sRetO, sDrop, sSet, sOwn, sAsg, sPar, sPar3, sAug, sApp, sIf, dIf, dTest, dAnd, dOr, dNot, dAndV, dOrV, d1, d2, d2F, dVar, dOwn, dC, dF, dTup, dLst, dNil, dCons, dCB, dCB1, dCF1, dChain, dChain3, dCall, dCallF, dCallK, aNil, aCons, aDk, dGn, dGnil, dGcons, dGtup, dOdIx, dGsub, dIdxT, dIdxL, dSlT, dSlL, dPart, dNoPart, dIl, dIt, frz, opn, cls, catD, startR, arS, seqOf, n_add, n_addT, n_sub, n_mul, n_fdiv, n_mod, n_pow, n_shl, n_cmp, n_is, n_neg, n_not, n_ixL, n_ixT, n_lenL, n_lenT, n_abs, n_gcd, n_isqrt, n_int, n_tupL, n_tupT, at10, at1n, at20, at21, at2n, at30, at31, at32, at3n, fD, mD, wipeR, dYes, ix32, ix31, n_boolC, sz0, sz1, sz2, sz3, sz4, sz5, sz6, sz7, sz8, n_eqI, n_neI, n_eq3, n_ne3, n_isi_int, n_isi_bool, n_isi_tuple, List.map_cons, List.map_nil, List.length_cons, List.length_nil, List.replicate, List.set_cons_zero, List.set_cons_succ, List.getElem?_cons_zero, List.getElem?_cons_succ, List.filter_cons, List.filter_nil, Ar.isDk, List.all_cons, List.all_nil, no_dt, no_un, no_ow, no_dk, Bool.and_eq_true, Bool.true_and, Bool.and_true, Bool.false_eq_true, if_false, if_true, ite_true, ite_false, Option.some.injEq, exists_eq_left', true_and, and_true, List.cons_append, List.nil_append, Nat.sub_self, decide_eq_true_eq, Nat.reduceAdd, Nat.reduceSub, Nat.zero_add, Nat.le_refl, Nat.zero_le]
      generalize hw : rt f.disc = w at *
      have w0 : 0 < w := by
        rcases Int.lt_or_eq_of_le r0 with z | z
        · exact z
        · rw [← z] at e2; omega
      have rows := lrows_ok w0 (by omega) e2.symm fa fb fc hw
      by_cases a0 : f.a = 0
      · rw [if_neg (by simp [a0])]
        have el : lrows f = [(1, 0), (-f.c, f.b)] := if_pos a0
        rw [el] at rows
        unfold sFor
        simp only [↓n_asg_if, BQ.n_rt, sSeq, sNext, sRet, sRetF, sRetO, sDrop, sSet, sOwn, sAsg, sPar, sPar3, sAug, sApp, sIf, dIf, dTest, dAnd, dOr, dNot, dAndV, dOrV, d1, d2, d2F, dVar, dOwn, dC, dF, dTup, dLst, dNil, dCons, dCB, dCB1, dCF1, dChain, dChain3, dCall, dCallF, dCallK, aNil, aCons, aDk, dGn, dGnil, dGcons, dGtup, dOdIx, dGsub, dIdxT, dIdxL, dSlT, dSlL, dPart, dNoPart, dIl, dIt, frz, opn, cls, catD, startR, arS, seqOf, n_add, n_addT, n_sub, n_mul, n_fdiv, n_mod, n_pow, n_shl, n_cmp, n_is, n_neg, n_not, n_ixL, n_ixT, n_lenL, n_lenT, n_abs, n_gcd, n_isqrt, n_int, n_tupL, n_tupT, at10, at1n, at20, at21, at2n, at30, at31, at32, at3n, fD, mD, wipeR, dYes, ix32, ix31, n_boolC, sz0, sz1, sz2, sz3, sz4, sz5, sz6, sz7, sz8, n_eqI, n_neI, n_eq3, n_ne3, n_isi_int, n_isi_bool, n_isi_tuple, List.map_cons, List.map_nil, List.length_cons, List.length_nil, List.replicate, List.set_cons_zero, List.set_cons_succ, List.getElem?_cons_zero, List.getElem?_cons_succ, List.filter_cons, List.filter_nil, Ar.isDk, List.all_cons, List.all_nil, no_dt, no_un, no_ow, no_dk, Bool.and_eq_true, Bool.true_and, Bool.and_true, Bool.false_eq_true, if_false, if_true, ite_true, ite_false, Option.some.injEq, exists_eq_left', true_and, and_true, List.cons_append, List.nil_append, Nat.sub_self, decide_eq_true_eq, Nat.reduceAdd, Nat.reduceSub, Nat.zero_add, Nat.le_refl, Nat.zero_le]
        refine forW_inv (fun ds c' ρ => ∃ (rs : List (Int × Int)) (s1 s2 s3 s4 s5 s6 s7 s8 s9 s10 s11 s12 : Sl), ds = rs.map pD ∧ ρ = [.dt (fD f), s1, s2, s3, s4, s5, s6, s7, s8, s9, s10, s11, s12] ∧ (s1.notOd = true ∧ s2.notOd = true ∧ s3.notOd = true ∧ s4.notOd = true ∧ s5.notOd = true ∧ s6.notOd = true ∧ s7.notOd = true ∧ s8.notOd = true ∧ s9.notOd = true ∧ s10.notOd = true ∧ s11.notOd = true ∧ s12.notOd = true) ∧ c' = c ∧ (∀ r, r ∈ rs → RowL f w r) ∧ ∃ r, r ∈ rs ∧ GoodRow f w r) ?_ ?_ _ _ _
          ⟨_, _, _, _, _, _, _, _, _, _, _, _, _, rfl, rfl, ⟨rfl, rfl, rfl, rfl, rfl, rfl, rfl, rfl, rfl, rfl, rfl, rfl⟩, rfl, rows.1, rows.2⟩
        · rintro d rest c' ρ ⟨rs, s1, s2, s3, s4, s5, s6, s7, s8, s9, s10, s11, s12, e, rfl, ⟨n1, n2, n3, n4, n5, n6, n7, n8, n9, n10, n11, n12⟩, rfl, ok, gr⟩ Φ' k1 k2 k3 k4 k5
          cases rs with
          | nil => cases e
          | cons r rs =>
            obtain ⟨x, yy⟩ := r
            obtain ⟨rfl, er⟩ := List.cons.inj e
            obtain ⟨ro, nz, b1, b2⟩ := ok _ List.mem_cons_self
            show (dGtup 2 _) (.tuple [.int x, .int yy]) _ _ _
            simp only [↓n_asg_if, BQ.n_rt, sSeq, sNext, sRet, sRetF, sRetO, sDrop, sSet, sOwn, sAsg, sPar, sPar3, sAug, sApp, sIf, dIf, dTest, dAnd, dOr, dNot, dAndV, dOrV, d1, d2, d2F, dVar, dOwn, dC, dF, dTup, dLst, dNil, dCons, dCB, dCB1, dCF1, dChain, dChain3, dCall, dCallF, dCallK, aNil, aCons, aDk, dGn, dGnil, dGcons, dGtup, dOdIx, dGsub, dIdxT, dIdxL, dSlT, dSlL, dPart, dNoPart, dIl, dIt, frz, opn, cls, catD, startR, arS, seqOf, n_add, n_addT, n_sub, n_mul, n_fdiv, n_mod, n_pow, n_shl, n_cmp, n_is, n_neg, n_not, n_ixL, n_ixT, n_lenL, n_lenT, n_abs, n_gcd, n_isqrt, n_int, n_tupL, n_tupT, at10, at1n, at20, at21, at2n, at30, at31, at32, at3n, fD, mD, wipeR, dYes, ix32, ix31, n_boolC, sz0, sz1, sz2, sz3, sz4, sz5, sz6, sz7, sz8, n_eqI, n_neI, n_eq3, n_ne3, n_isi_int, n_isi_bool, n_isi_tuple, List.map_cons, List.map_nil, List.length_cons, List.length_nil, List.replicate, List.set_cons_zero, List.set_cons_succ, List.getElem?_cons_zero, List.getElem?_cons_succ, List.filter_cons, List.filter_nil, Ar.isDk, List.all_cons, List.all_nil, no_dt, no_un, no_ow, no_dk, Bool.and_eq_true, Bool.true_and, Bool.and_true, Bool.false_eq_true, if_false, if_true, ite_true, ite_false, Option.some.injEq, exists_eq_left', true_and, and_true, List.cons_append, List.nil_append, Nat.sub_self, decide_eq_true_eq, Nat.reduceAdd, Nat.reduceSub, Nat.zero_add, Nat.le_refl, Nat.zero_le]
            refine ⟨⟨n1, n2, n3, n4, n5, n6, n7, n8, n11, n12⟩, x, yy, rfl, nz, b1, b2, fun m e1 e2 dt mb => ?_⟩
            simp only [↓n_asg_if, BQ.n_rt, sSeq, sNext, sRet, sRetF, sRetO, sDrop, sSet, sOwn, sAsg, sPar, sPar3, sAug, sApp, sIf, dIf, dTest, dAnd, dOr, dNot, dAndV, dOrV, d1, d2, d2F, dVar, dOwn, dC, dF, dTup, dLst, dNil, dCons, dCB, dCB1, dCF1, dChain, dChain3, dCall, dCallF, dCallK, aNil, aCons, aDk, dGn, dGnil, dGcons, dGtup, dOdIx, dGsub, dIdxT, dIdxL, dSlT, dSlL, dPart, dNoPart, dIl, dIt, frz, opn, cls, catD, startR, arS, seqOf, n_add, n_addT, n_sub, n_mul, n_fdiv, n_mod, n_pow, n_shl, n_cmp, n_is, n_neg, n_not, n_ixL, n_ixT, n_lenL, n_lenT, n_abs, n_gcd, n_isqrt, n_int, n_tupL, n_tupT, at10, at1n, at20, at21, at2n, at30, at31, at32, at3n, fD, mD, wipeR, dYes, ix32, ix31, n_boolC, sz0, sz1, sz2, sz3, sz4, sz5, sz6, sz7, sz8, n_eqI, n_neI, n_eq3, n_ne3, n_isi_int, n_isi_bool, n_isi_tuple, List.map_cons, List.map_nil, List.length_cons, List.length_nil, List.replicate, List.set_cons_zero, List.set_cons_succ, List.getElem?_cons_zero, List.getElem?_cons_succ, List.filter_cons, List.filter_nil, Ar.isDk, List.all_cons, List.all_nil, no_dt, no_un, no_ow, no_dk, Bool.and_eq_true, Bool.true_and, Bool.and_true, Bool.false_eq_true, if_false, if_true, ite_true, ite_false, Option.some.injEq, exists_eq_left', true_and, and_true, List.cons_append, List.nil_append, Nat.sub_self, decide_eq_true_eq, Nat.reduceAdd, Nat.reduceSub, Nat.zero_add, Nat.le_refl, Nat.zero_le]
            obtain ⟨fc0, fb0⟩ := ro.to m e1 e2 dt
            have qs : m.q.natAbs < 2 ^ 24 := by rw [e1]; exact ro.qs
            have ss : m.s.natAbs < 2 ^ 24 := by rw [e2]; exact ro.ss
            refine ⟨⟨n1, n3, n4, n5, n6, n7, n8, n11, n12⟩, f, m, rfl, byBig (k := 1275) (by omega) (by omega) (by omega) mb (by decide), ?_⟩
            simp only [↓n_asg_if, BQ.n_rt, sSeq, sNext, sRet, sRetF, sRetO, sDrop, sSet, sOwn, sAsg, sPar, sPar3, sAug, sApp, sIf, dIf, dTest, dAnd, dOr, dNot, dAndV, dOrV, d1, d2, d2F, dVar, dOwn, dC, dF, dTup, dLst, dNil, dCons, dCB, dCB1, dCF1, dChain, dChain3, dCall, dCallF, dCallK, aNil, aCons, aDk, dGn, dGnil, dGcons, dGtup, dOdIx, dGsub, dIdxT, dIdxL, dSlT, dSlL, dPart, dNoPart, dIl, dIt, frz, opn, cls, catD, startR, arS, seqOf, n_add, n_addT, n_sub, n_mul, n_fdiv, n_mod, n_pow, n_shl, n_cmp, n_is, n_neg, n_not, n_ixL, n_ixT, n_lenL, n_lenT, n_abs, n_gcd, n_isqrt, n_int, n_tupL, n_tupT, at10, at1n, at20, at21, at2n, at30, at31, at32, at3n, fD, mD, wipeR, dYes, ix32, ix31, n_boolC, sz0, sz1, sz2, sz3, sz4, sz5, sz6, sz7, sz8, n_eqI, n_neI, n_eq3, n_ne3, n_isi_int, n_isi_bool, n_isi_tuple, List.map_cons, List.map_nil, List.length_cons, List.length_nil, List.replicate, List.set_cons_zero, List.set_cons_succ, List.getElem?_cons_zero, List.getElem?_cons_succ, List.filter_cons, List.filter_nil, Ar.isDk, List.all_cons, List.all_nil, no_dt, no_un, no_ow, no_dk, Bool.and_eq_true, Bool.true_and, Bool.and_true, Bool.false_eq_true, if_false, if_true, ite_true, ite_false, Option.some.injEq, exists_eq_left', true_and, and_true, List.cons_append, List.nil_append, Nat.sub_self, decide_eq_true_eq, Nat.reduceAdd, Nat.reduceSub, Nat.zero_add, Nat.le_refl, Nat.zero_le]
            by_cases pos : 0 < (f.by m).b
            · rw [if_pos pos]
              have fw : (f.by m).b = w := by omega
              have k4 : Φ'.rt = Φ := k4
              obtain ⟨vOk, m2⟩ := splitOk ((f.by m).a.fdiv (f.by m).b) fc0 fw w0 (by omega) qs ss
              refine ⟨dOk (by omega) (by omega) (by omega), ⟨n1, n3, n4, n5, n6, n7, n8⟩, f.by m, BQ.V ((f.by m).a.fdiv (f.by m).b), rfl, vOk, ?_⟩
              simp only [↓n_asg_if, BQ.n_rt, sSeq, sNext, sRet, sRetF, sRetO, sDrop, sSet, sOwn, sAsg, sPar, sPar3, sAug, sApp, sIf, dIf, dTest, dAnd, dOr, dNot, dAndV, dOrV, d1, d2, d2F, dVar, dOwn, dC, dF, dTup, dLst, dNil, dCons, dCB, dCB1, dCF1, dChain, dChain3, dCall, dCallF, dCallK, aNil, aCons, aDk, dGn, dGnil, dGcons, dGtup, dOdIx, dGsub, dIdxT, dIdxL, dSlT, dSlL, dPart, dNoPart, dIl, dIt, frz, opn, cls, catD, startR, arS, seqOf, n_add, n_addT, n_sub, n_mul, n_fdiv, n_mod, n_pow, n_shl, n_cmp, n_is, n_neg, n_not, n_ixL, n_ixT, n_lenL, n_lenT, n_abs, n_gcd, n_isqrt, n_int, n_tupL, n_tupT, at10, at1n, at20, at21, at2n, at30, at31, at32, at3n, fD, mD, wipeR, dYes, ix32, ix31, n_boolC, sz0, sz1, sz2, sz3, sz4, sz5, sz6, sz7, sz8, n_eqI, n_neI, n_eq3, n_ne3, n_isi_int, n_isi_bool, n_isi_tuple, List.map_cons, List.map_nil, List.length_cons, List.length_nil, List.replicate, List.set_cons_zero, List.set_cons_succ, List.getElem?_cons_zero, List.getElem?_cons_succ, List.filter_cons, List.filter_nil, Ar.isDk, List.all_cons, List.all_nil, no_dt, no_un, no_ow, no_dk, Bool.and_eq_true, Bool.true_and, Bool.and_true, Bool.false_eq_true, if_false, if_true, ite_true, ite_false, Option.some.injEq, exists_eq_left', true_and, and_true, List.cons_append, List.nil_append, Nat.sub_self, decide_eq_true_eq, Nat.reduceAdd, Nat.reduceSub, Nat.zero_add, Nat.le_refl, Nat.zero_le]
              refine ⟨⟨n1, n3, n4, n5, n6, n7, n8⟩, m, BQ.V ((f.by m).a.fdiv (f.by m).b), rfl, m2, ?_⟩
              rw [k4]
              exact h _ _ (Sp.of dt fw fc0) (by rw [disc_by1 (V_det _), disc_by1 dt])
            · rw [if_neg pos]
              refine k1 _ _ ⟨rs, _, _, _, _, _, _, _, _, _, _, _, _, er, rfl, ⟨n1, rfl, n3, n4, n5, n6, n7, n8, rfl, rfl, rfl, n12⟩, rfl, fun r hr => ok r (List.mem_cons_of_mem _ hr), ?_⟩
              obtain ⟨r', hr1, hr2⟩ := gr
              rcases List.mem_cons.mp hr1 with rfl | hr1
              · exfalso
                have := hr2 m e1 e2 dt
                omega
              · exact ⟨r', hr1, hr2⟩
        · rintro c' ρ ⟨rs, s1, s2, s3, s4, s5, s6, s7, s8, s9, s10, s11, s12, e, rfl, _, rfl, ok, r, hr, _⟩
          cases rs with
          | nil => cases hr
          | cons _ _ => cases e

      · rw [if_pos (by simp [a0])]
        have el : lrows f = [(w - f.b, 2 * f.a), (-w - f.b, 2 * f.a)] := by rw [← hw]; exact if_neg a0
        refine ⟨.of_left (by decide), .of_left (by decide), ?_⟩
        rw [el] at rows
        unfold sFor
        simp only [↓n_asg_if, BQ.n_rt, sSeq, sNext, sRet, sRetF, sRetO, sDrop, sSet, sOwn, sAsg, sPar, sPar3, sAug, sApp, sIf, dIf, dTest, dAnd, dOr, dNot, dAndV, dOrV, d1, d2, d2F, dVar, dOwn, dC, dF, dTup, dLst, dNil, dCons, dCB, dCB1, dCF1, dChain, dChain3, dCall, dCallF, dCallK, aNil, aCons, aDk, dGn, dGnil, dGcons, dGtup, dOdIx, dGsub, dIdxT, dIdxL, dSlT, dSlL, dPart, dNoPart, dIl, dIt, frz, opn, cls, catD, startR, arS, seqOf, n_add, n_addT, n_sub, n_mul, n_fdiv, n_mod, n_pow, n_shl, n_cmp, n_is, n_neg, n_not, n_ixL, n_ixT, n_lenL, n_lenT, n_abs, n_gcd, n_isqrt, n_int, n_tupL, n_tupT, at10, at1n, at20, at21, at2n, at30, at31, at32, at3n, fD, mD, wipeR, dYes, ix32, ix31, n_boolC, sz0, sz1, sz2, sz3, sz4, sz5, sz6, sz7, sz8, n_eqI, n_neI, n_eq3, n_ne3, n_isi_int, n_isi_bool, n_isi_tuple, List.map_cons, List.map_nil, List.length_cons, List.length_nil, List.replicate, List.set_cons_zero, List.set_cons_succ, List.getElem?_cons_zero, List.getElem?_cons_succ, List.filter_cons, List.filter_nil, Ar.isDk, List.all_cons, List.all_nil, no_dt, no_un, no_ow, no_dk, Bool.and_eq_true, Bool.true_and, Bool.and_true, Bool.false_eq_true, if_false, if_true, ite_true, ite_false, Option.some.injEq, exists_eq_left', true_and, and_true, List.cons_append, List.nil_append, Nat.sub_self, decide_eq_true_eq, Nat.reduceAdd, Nat.reduceSub, Nat.zero_add, Nat.le_refl, Nat.zero_le]
        refine forW_inv (fun ds c' ρ => ∃ (rs : List (Int × Int)) (s1 s2 s3 s4 s5 s6 s7 s8 s9 s10 s11 s12 : Sl), ds = rs.map pD ∧ ρ = [.dt (fD f), s1, s2, s3, s4, s5, s6, s7, s8, s9, s10, s11, s12] ∧ (s1.notOd = true ∧ s2.notOd = true ∧ s3.notOd = true ∧ s4.notOd = true ∧ s5.notOd = true ∧ s6.notOd = true ∧ s7.notOd = true ∧ s8.notOd = true ∧ s9.notOd = true ∧ s10.notOd = true ∧ s11.notOd = true ∧ s12.notOd = true) ∧ c' = c ∧ (∀ r, r ∈ rs → RowL f w r) ∧ ∃ r, r ∈ rs ∧ GoodRow f w r) ?_ ?_ _ _ _
          ⟨_, _, _, _, _, _, _, _, _, _, _, _, _, rfl, rfl, ⟨rfl, rfl, rfl, rfl, rfl, rfl, rfl, rfl, rfl, rfl, rfl, rfl⟩, rfl, rows.1, rows.2⟩
        · rintro d rest c' ρ ⟨rs, s1, s2, s3, s4, s5, s6, s7, s8, s9, s10, s11, s12, e, rfl, ⟨n1, n2, n3, n4, n5, n6, n7, n8, n9, n10, n11, n12⟩, rfl, ok, gr⟩ Φ' k1 k2 k3 k4 k5
          cases rs with
          | nil => cases e
          | cons r rs =>
            obtain ⟨x, yy⟩ := r
            obtain ⟨rfl, er⟩ := List.cons.inj e
            obtain ⟨ro, nz, b1, b2⟩ := ok _ List.mem_cons_self
            show (dGtup 2 _) (.tuple [.int x, .int yy]) _ _ _
            simp only [↓n_asg_if, BQ.n_rt, sSeq, sNext, sRet, sRetF, sRetO, sDrop, sSet, sOwn, sAsg, sPar, sPar3, sAug, sApp, sIf, dIf, dTest, dAnd, dOr, dNot, dAndV, dOrV, d1, d2, d2F, dVar, dOwn, dC, dF, dTup, dLst, dNil, dCons, dCB, dCB1, dCF1, dChain, dChain3, dCall, dCallF, dCallK, aNil, aCons, aDk, dGn, dGnil, dGcons, dGtup, dOdIx, dGsub, dIdxT, dIdxL, dSlT, dSlL, dPart, dNoPart, dIl, dIt, frz, opn, cls, catD, startR, arS, seqOf, n_add, n_addT, n_sub, n_mul, n_fdiv, n_mod, n_pow, n_shl, n_cmp, n_is, n_neg, n_not, n_ixL, n_ixT, n_lenL, n_lenT, n_abs, n_gcd, n_isqrt, n_int, n_tupL, n_tupT, at10, at1n, at20, at21, at2n, at30, at31, at32, at3n, fD, mD, wipeR, dYes, ix32, ix31, n_boolC, sz0, sz1, sz2, sz3, sz4, sz5, sz6, sz7, sz8, n_eqI, n_neI, n_eq3, n_ne3, n_isi_int, n_isi_bool, n_isi_tuple, List.map_cons, List.map_nil, List.length_cons, List.length_nil, List.replicate, List.set_cons_zero, List.set_cons_succ, List.getElem?_cons_zero, List.getElem?_cons_succ, List.filter_cons, List.filter_nil, Ar.isDk, List.all_cons, List.all_nil, no_dt, no_un, no_ow, no_dk, Bool.and_eq_true, Bool.true_and, Bool.and_true, Bool.false_eq_true, if_false, if_true, ite_true, ite_false, Option.some.injEq, exists_eq_left', true_and, and_true, List.cons_append, List.nil_append, Nat.sub_self, decide_eq_true_eq, Nat.reduceAdd, Nat.reduceSub, Nat.zero_add, Nat.le_refl, Nat.zero_le]
            refine ⟨⟨n1, n2, n3, n4, n5, n6, n7, n8, n11, n12⟩, x, yy, rfl, nz, b1, b2, fun m e1 e2 dt mb => ?_⟩
            simp only [↓n_asg_if, BQ.n_rt, sSeq, sNext, sRet, sRetF, sRetO, sDrop, sSet, sOwn, sAsg, sPar, sPar3, sAug, sApp, sIf, dIf, dTest, dAnd, dOr, dNot, dAndV, dOrV, d1, d2, d2F, dVar, dOwn, dC, dF, dTup, dLst, dNil, dCons, dCB, dCB1, dCF1, dChain, dChain3, dCall, dCallF, dCallK, aNil, aCons, aDk, dGn, dGnil, dGcons, dGtup, dOdIx, dGsub, dIdxT, dIdxL, dSlT, dSlL, dPart, dNoPart, dIl, dIt, frz, opn, cls, catD, startR, arS, seqOf, n_add, n_addT, n_sub, n_mul, n_fdiv, n_mod, n_pow, n_shl, n_cmp, n_is, n_neg, n_not, n_ixL, n_ixT, n_lenL, n_lenT, n_abs, n_gcd, n_isqrt, n_int, n_tupL, n_tupT, at10, at1n, at20, at21, at2n, at30, at31, at32, at3n, fD, mD, wipeR, dYes, ix32, ix31, n_boolC, sz0, sz1, sz2, sz3, sz4, sz5, sz6, sz7, sz8, n_eqI, n_neI, n_eq3, n_ne3, n_isi_int, n_isi_bool, n_isi_tuple, List.map_cons, List.map_nil, List.length_cons, List.length_nil, List.replicate, List.set_cons_zero, List.set_cons_succ, List.getElem?_cons_zero, List.getElem?_cons_succ, List.filter_cons, List.filter_nil, Ar.isDk, List.all_cons, List.all_nil, no_dt, no_un, no_ow, no_dk, Bool.and_eq_true, Bool.true_and, Bool.and_true, Bool.false_eq_true, if_false, if_true, ite_true, ite_false, Option.some.injEq, exists_eq_left', true_and, and_true, List.cons_append, List.nil_append, Nat.sub_self, decide_eq_true_eq, Nat.reduceAdd, Nat.reduceSub, Nat.zero_add, Nat.le_refl, Nat.zero_le]
            obtain ⟨fc0, fb0⟩ := ro.to m e1 e2 dt
            have qs : m.q.natAbs < 2 ^ 24 := by rw [e1]; exact ro.qs
            have ss : m.s.natAbs < 2 ^ 24 := by rw [e2]; exact ro.ss
            refine ⟨⟨n1, n3, n4, n5, n6, n7, n8, n11, n12⟩, f, m, rfl, byBig (k := 1275) (by omega) (by omega) (by omega) mb (by decide), ?_⟩
            simp only [↓n_asg_if, BQ.n_rt, sSeq, sNext, sRet, sRetF, sRetO, sDrop, sSet, sOwn, sAsg, sPar, sPar3, sAug, sApp, sIf, dIf, dTest, dAnd, dOr, dNot, dAndV, dOrV, d1, d2, d2F, dVar, dOwn, dC, dF, dTup, dLst, dNil, dCons, dCB, dCB1, dCF1, dChain, dChain3, dCall, dCallF, dCallK, aNil, aCons, aDk, dGn, dGnil, dGcons, dGtup, dOdIx, dGsub, dIdxT, dIdxL, dSlT, dSlL, dPart, dNoPart, dIl, dIt, frz, opn, cls, catD, startR, arS, seqOf, n_add, n_addT, n_sub, n_mul, n_fdiv, n_mod, n_pow, n_shl, n_cmp, n_is, n_neg, n_not, n_ixL, n_ixT, n_lenL, n_lenT, n_abs, n_gcd, n_isqrt, n_int, n_tupL, n_tupT, at10, at1n, at20, at21, at2n, at30, at31, at32, at3n, fD, mD, wipeR, dYes, ix32, ix31, n_boolC, sz0, sz1, sz2, sz3, sz4, sz5, sz6, sz7, sz8, n_eqI, n_neI, n_eq3, n_ne3, n_isi_int, n_isi_bool, n_isi_tuple, List.map_cons, List.map_nil, List.length_cons, List.length_nil, List.replicate, List.set_cons_zero, List.set_cons_succ, List.getElem?_cons_zero, List.getElem?_cons_succ, List.filter_cons, List.filter_nil, Ar.isDk, List.all_cons, List.all_nil, no_dt, no_un, no_ow, no_dk, Bool.and_eq_true, Bool.true_and, Bool.and_true, Bool.false_eq_true, if_false, if_true, ite_true, ite_false, Option.some.injEq, exists_eq_left', true_and, and_true, List.cons_append, List.nil_append, Nat.sub_self, decide_eq_true_eq, Nat.reduceAdd, Nat.reduceSub, Nat.zero_add, Nat.le_refl, Nat.zero_le]
            by_cases pos : 0 < (f.by m).b
            · rw [if_pos pos]
              have fw : (f.by m).b = w := by omega
              have k4 : Φ'.rt = Φ := k4
              obtain ⟨vOk, m2⟩ := splitOk ((f.by m).a.fdiv (f.by m).b) fc0 fw w0 (by omega) qs ss
              refine ⟨dOk (by omega) (by omega) (by omega), ⟨n1, n3, n4, n5, n6, n7, n8⟩, f.by m, BQ.V ((f.by m).a.fdiv (f.by m).b), rfl, vOk, ?_⟩
              simp only [↓n_asg_if, BQ.n_rt, sSeq, sNext, sRet, sRetF, sRetO, sDrop, sSet, sOwn, sAsg, sPar, sPar3, sAug, sApp, sIf, dIf, dTest, dAnd, dOr, dNot, dAndV, dOrV, d1, d2, d2F, dVar, dOwn, dC, dF, dTup, dLst, dNil, dCons, dCB, dCB1, dCF1, dChain, dChain3, dCall, dCallF, dCallK, aNil, aCons, aDk, dGn, dGnil, dGcons, dGtup, dOdIx, dGsub, dIdxT, dIdxL, dSlT, dSlL, dPart, dNoPart, dIl, dIt, frz, opn, cls, catD, startR, arS, seqOf, n_add, n_addT, n_sub, n_mul, n_fdiv, n_mod, n_pow, n_shl, n_cmp, n_is, n_neg, n_not, n_ixL, n_ixT, n_lenL, n_lenT, n_abs, n_gcd, n_isqrt, n_int, n_tupL, n_tupT, at10, at1n, at20, at21, at2n, at30, at31, at32, at3n, fD, mD, wipeR, dYes, ix32, ix31, n_boolC, sz0, sz1, sz2, sz3, sz4, sz5, sz6, sz7, sz8, n_eqI, n_neI, n_eq3, n_ne3, n_isi_int, n_isi_bool, n_isi_tuple, List.map_cons, List.map_nil, List.length_cons, List.length_nil, List.replicate, List.set_cons_zero, List.set_cons_succ, List.getElem?_cons_zero, List.getElem?_cons_succ, List.filter_cons, List.filter_nil, Ar.isDk, List.all_cons, List.all_nil, no_dt, no_un, no_ow, no_dk, Bool.and_eq_true, Bool.true_and, Bool.and_true, Bool.false_eq_true, if_false, if_true, ite_true, ite_false, Option.some.injEq, exists_eq_left', true_and, and_true, List.cons_append, List.nil_append, Nat.sub_self, decide_eq_true_eq, Nat.reduceAdd, Nat.reduceSub, Nat.zero_add, Nat.le_refl, Nat.zero_le]
              refine ⟨⟨n1, n3, n4, n5, n6, n7, n8⟩, m, BQ.V ((f.by m).a.fdiv (f.by m).b), rfl, m2, ?_⟩
              rw [k4]
              exact h _ _ (Sp.of dt fw fc0) (by rw [disc_by1 (V_det _), disc_by1 dt])
            · rw [if_neg pos]
              refine k1 _ _ ⟨rs, _, _, _, _, _, _, _, _, _, _, _, _, er, rfl, ⟨n1, rfl, n3, n4, n5, n6, n7, n8, rfl, rfl, rfl, n12⟩, rfl, fun r hr => ok r (List.mem_cons_of_mem _ hr), ?_⟩
              obtain ⟨r', hr1, hr2⟩ := gr
              rcases List.mem_cons.mp hr1 with rfl | hr1
              · exfalso
                have := hr2 m e1 e2 dt
                omega
              · exact ⟨r', hr1, hr2⟩
        · rintro c' ρ ⟨rs, s1, s2, s3, s4, s5, s6, s7, s8, s9, s10, s11, s12, e, rfl, _, rfl, ok, r, hr, _⟩
          cases rs with
          | nil => cases hr
          | cons _ _ => cases e

    · rw [if_neg hs]
      simp only [if_neg hs] at h
      have I : Ind f.disc (rt f.disc) := ind_of dp (fun z => hs (by unfold isSplit; simp [dp, z]))
      generalize hr : rt f.disc = r at *
      refine ⟨fun m c' ρ => ∃ (g : BQ.F) (N : BQ.M) (s12 : Sl) (n : Nat), ρ = [.dt (fD g), .dt (.int f.disc), .dt (mD N), .un, .un, .un, .un, .un, .un, .un, .un, .un, s12] ∧ s12.notOd = true ∧ c' = c ∧ g = it r n f ∧ g.disc = f.disc ∧ Way (2 ^ 20) r g ∧ (∀ i, i < n → ¬ Red r (it r i f)) ∧ m = mu r g,
        ⟨mu r f, f, BQ.M.one, .un, 0, rfl, rfl, rfl, rfl, rfl, .inr ⟨by omega, by omega⟩, (fun i hi => absurd hi (Nat.not_lt_zero i)), rfl⟩, ?_⟩
      rintro m c' ρ ⟨g, N, s12, n, rfl, n12, rfl, en, ed, way, hno, rfl⟩
      have J : Ind g.disc r := ed ▸ I
      have hD := h1.le
      have sz : g.b.natAbs ≤ 2 ^ 20 ∧ g.c.natAbs ≤ 2 ^ 20 := by
        rcases way with R | ⟨w1, w2⟩
        · have := R.1
          have := R.2.1
          have := R.c_le J
          omega
        · omega
      have as := a_small J.c0 sz.1 (by omega) (by omega)
      have dk : DiscOk g := ⟨mR (by omega) (by omega), mR (by omega) (by omega)⟩
      simp only [↓n_asg_if, BQ.n_rt, sSeq, sNext, sRet, sRetF, sRetO, sDrop, sSet, sOwn, sAsg, sPar, sPar3, sAug, sApp, sIf, dIf, dTest, dAnd, dOr, dNot, dAndV, dOrV, d1, d2, d2F, dVar, dOwn, dC, dF, dTup, dLst, dNil, dCons, dCB, dCB1, dCF1, dChain, dChain3, dCall, dCallF, dCallK, aNil, aCons, aDk, dGn, dGnil, dGcons, dGtup, dOdIx, dGsub, dIdxT, dIdxL, dSlT, dSlL, dPart, dNoPart, dIl, dIt, frz, opn, cls, catD, startR, arS, seqOf, n_add, n_addT, n_sub, n_mul, n_fdiv, n_mod, n_pow, n_shl, n_cmp, n_is, n_neg, n_not, n_ixL, n_ixT, n_lenL, n_lenT, n_abs, n_gcd, n_isqrt, n_int, n_tupL, n_tupT, at10, at1n, at20, at21, at2n, at30, at31, at32, at3n, fD, mD, wipeR, dYes, ix32, ix31, n_boolC, sz0, sz1, sz2, sz3, sz4, sz5, sz6, sz7, sz8, n_eqI, n_neI, n_eq3, n_ne3, n_isi_int, n_isi_bool, n_isi_tuple, List.map_cons, List.map_nil, List.length_cons, List.length_nil, List.replicate, List.set_cons_zero, List.set_cons_succ, List.getElem?_cons_zero, List.getElem?_cons_succ, List.filter_cons, List.filter_nil, Ar.isDk, List.all_cons, List.all_nil, no_dt, no_un, no_ow, no_dk, Bool.and_eq_true, Bool.true_and, Bool.and_true, Bool.false_eq_true, if_false, if_true, ite_true, ite_false, Option.some.injEq, exists_eq_left', true_and, and_true, List.cons_append, List.nil_append, Nat.sub_self, decide_eq_true_eq, Nat.reduceAdd, Nat.reduceSub, Nat.zero_add, Nat.le_refl, Nat.zero_le]
      refine ⟨n12, g, rfl, dk, by omega, by omega, as, by omega, ?_⟩
      rw [isRedP_ind J]
      simp only [↓n_asg_if, BQ.n_rt, sSeq, sNext, sRet, sRetF, sRetO, sDrop, sSet, sOwn, sAsg, sPar, sPar3, sAug, sApp, sIf, dIf, dTest, dAnd, dOr, dNot, dAndV, dOrV, d1, d2, d2F, dVar, dOwn, dC, dF, dTup, dLst, dNil, dCons, dCB, dCB1, dCF1, dChain, dChain3, dCall, dCallF, dCallK, aNil, aCons, aDk, dGn, dGnil, dGcons, dGtup, dOdIx, dGsub, dIdxT, dIdxL, dSlT, dSlL, dPart, dNoPart, dIl, dIt, frz, opn, cls, catD, startR, arS, seqOf, n_add, n_addT, n_sub, n_mul, n_fdiv, n_mod, n_pow, n_shl, n_cmp, n_is, n_neg, n_not, n_ixL, n_ixT, n_lenL, n_lenT, n_abs, n_gcd, n_isqrt, n_int, n_tupL, n_tupT, at10, at1n, at20, at21, at2n, at30, at31, at32, at3n, fD, mD, wipeR, dYes, ix32, ix31, n_boolC, sz0, sz1, sz2, sz3, sz4, sz5, sz6, sz7, sz8, n_eqI, n_neI, n_eq3, n_ne3, n_isi_int, n_isi_bool, n_isi_tuple, List.map_cons, List.map_nil, List.length_cons, List.length_nil, List.replicate, List.set_cons_zero, List.set_cons_succ, List.getElem?_cons_zero, List.getElem?_cons_succ, List.filter_cons, List.filter_nil, Ar.isDk, List.all_cons, List.all_nil, no_dt, no_un, no_ow, no_dk, Bool.and_eq_true, Bool.true_and, Bool.and_true, Bool.false_eq_true, if_false, if_true, ite_true, ite_false, Option.some.injEq, exists_eq_left', true_and, and_true, List.cons_append, List.nil_append, Nat.sub_self, decide_eq_true_eq, Nat.reduceAdd, Nat.reduceSub, Nat.zero_add, Nat.le_refl, Nat.zero_le]
      by_cases R : Red r g
      · rw [if_neg (by simp [R])]
        exact h g _ ⟨n, en, R, hno⟩ ed
      · rw [if_pos (by simp [R]), if_pos dp]
        have tl := tt_le J (B := 2 ^ 20) (by omega) (by omega) (by omega)
        have st := Sm.T (t := tt r g) (by omega)
        refine ⟨n12, g, rfl, dk, by rw [J.rt]; exact J, by omega, by omega, by omega, ?_⟩
        rw [J.rt]
        simp only [↓n_asg_if, BQ.n_rt, sSeq, sNext, sRet, sRetF, sRetO, sDrop, sSet, sOwn, sAsg, sPar, sPar3, sAug, sApp, sIf, dIf, dTest, dAnd, dOr, dNot, dAndV, dOrV, d1, d2, d2F, dVar, dOwn, dC, dF, dTup, dLst, dNil, dCons, dCB, dCB1, dCF1, dChain, dChain3, dCall, dCallF, dCallK, aNil, aCons, aDk, dGn, dGnil, dGcons, dGtup, dOdIx, dGsub, dIdxT, dIdxL, dSlT, dSlL, dPart, dNoPart, dIl, dIt, frz, opn, cls, catD, startR, arS, seqOf, n_add, n_addT, n_sub, n_mul, n_fdiv, n_mod, n_pow, n_shl, n_cmp, n_is, n_neg, n_not, n_ixL, n_ixT, n_lenL, n_lenT, n_abs, n_gcd, n_isqrt, n_int, n_tupL, n_tupT, at10, at1n, at20, at21, at2n, at30, at31, at32, at3n, fD, mD, wipeR, dYes, ix32, ix31, n_boolC, sz0, sz1, sz2, sz3, sz4, sz5, sz6, sz7, sz8, n_eqI, n_neI, n_eq3, n_ne3, n_isi_int, n_isi_bool, n_isi_tuple, List.map_cons, List.map_nil, List.length_cons, List.length_nil, List.replicate, List.set_cons_zero, List.set_cons_succ, List.getElem?_cons_zero, List.getElem?_cons_succ, List.filter_cons, List.filter_nil, Ar.isDk, List.all_cons, List.all_nil, no_dt, no_un, no_ow, no_dk, Bool.and_eq_true, Bool.true_and, Bool.and_true, Bool.false_eq_true, if_false, if_true, ite_true, ite_false, Option.some.injEq, exists_eq_left', true_and, and_true, List.cons_append, List.nil_append, Nat.sub_self, decide_eq_true_eq, Nat.reduceAdd, Nat.reduceSub, Nat.zero_add, Nat.le_refl, Nat.zero_le]
        refine ⟨N, T (tt r g), rfl, st.mul_ N, ?_⟩
        simp only [↓n_asg_if, BQ.n_rt, sSeq, sNext, sRet, sRetF, sRetO, sDrop, sSet, sOwn, sAsg, sPar, sPar3, sAug, sApp, sIf, dIf, dTest, dAnd, dOr, dNot, dAndV, dOrV, d1, d2, d2F, dVar, dOwn, dC, dF, dTup, dLst, dNil, dCons, dCB, dCB1, dCF1, dChain, dChain3, dCall, dCallF, dCallK, aNil, aCons, aDk, dGn, dGnil, dGcons, dGtup, dOdIx, dGsub, dIdxT, dIdxL, dSlT, dSlL, dPart, dNoPart, dIl, dIt, frz, opn, cls, catD, startR, arS, seqOf, n_add, n_addT, n_sub, n_mul, n_fdiv, n_mod, n_pow, n_shl, n_cmp, n_is, n_neg, n_not, n_ixL, n_ixT, n_lenL, n_lenT, n_abs, n_gcd, n_isqrt, n_int, n_tupL, n_tupT, at10, at1n, at20, at21, at2n, at30, at31, at32, at3n, fD, mD, wipeR, dYes, ix32, ix31, n_boolC, sz0, sz1, sz2, sz3, sz4, sz5, sz6, sz7, sz8, n_eqI, n_neI, n_eq3, n_ne3, n_isi_int, n_isi_bool, n_isi_tuple, List.map_cons, List.map_nil, List.length_cons, List.length_nil, List.replicate, List.set_cons_zero, List.set_cons_succ, List.getElem?_cons_zero, List.getElem?_cons_succ, List.filter_cons, List.filter_nil, Ar.isDk, List.all_cons, List.all_nil, no_dt, no_un, no_ow, no_dk, Bool.and_eq_true, Bool.true_and, Bool.and_true, Bool.false_eq_true, if_false, if_true, ite_true, ite_false, Option.some.injEq, exists_eq_left', true_and, and_true, List.cons_append, List.nil_append, Nat.sub_self, decide_eq_true_eq, Nat.reduceAdd, Nat.reduceSub, Nat.zero_add, Nat.le_refl, Nat.zero_le]
        refine ⟨_, mu_lt J R, nxt r g, N.mul (T (tt r g)), _, n + 1, rfl, rfl, by rw [en]; rfl, by rw [nxt_disc]; exact ed, way.nxt J (by omega) R, fun i hi => ?_, rfl⟩
        by_cases q : i < n
        · exact hno i q
        · have : i = n := by omega
          subst this
          rw [← en]
          exact R
def sd__law_reduced2 : Sd := fun c as y Φ Ψ => ∃ f : F, as = [.dt (fD f)] ∧ Fo f ∧ f.disc < 0 ∧ f.a < 0 ∧ ∀ R d, To f R → R.disc = f.disc → Φ (.tuple [fD R, d]) c
theorem ok__law_reduced2 (Mx : Mo K mg) (C__law_disc : Cl false P w K mg base 1 "_law_disc" ["form"] sd__law_disc) (C__law_reduced : Cl false P w K mg base 4 "_law_reduced" ["form"] sd__law_reduced1) (C__law_is_split : Cl false P w K mg base 2 "_law_is_split" ["d"] sd__law_is_split) (C__law_whole_root : Cl false P w K mg base 1 "_law_whole_root" ["n"] sd__law_whole_root) (C__law_zero_line : Cl false P w K mg base 2 "_law_zero_line" ["x", "y"] sd__law_zero_line) (C__law_stepped : Cl false P w K mg base 1 "_law_stepped" ["form", "step"] sd__law_stepped) (C__law_behind : Cl false P w K mg base 1 "_law_behind" ["one", "other"] sd__law_behind) (C__law_is_reduced : Cl false P w K mg base 3 "_law_is_reduced" ["form"] sd__law_is_reduced) (C__law_next : Cl false P w K mg base 2 "_law_next" ["form"] sd__law_next) : Cl false P w K mg base 5 "_law_reduced" ["form"] sd__law_reduced2 := by
  obtain ⟨fd, hm, Fn0⟩ := Mx.fn 54 "_law_reduced" (by decide +kernel)
  have hN : (["form", "d", "step", "told", "a", "b", "c", "root", "lines", "x", "y", "own", "more"] : List Str).Nodup := by decide +kernel
  have Sc0 : FnScope ["form", "d", "step", "told", "a", "b", "c", "root", "lines", "x", "y", "own", "more"] ["form"] (defScope (top 54)) := ⟨rfl, rfl, rfl, hN, rfl, by decide +kernel, by decide +kernel⟩
  refine cl_mk Fn0 hm Sc0 (fun _ _ _ _ _ _ us hl => match us, hl with | [_], _ => rfl) (fun _ _ _ _ _ _ us hl => match us, hl with | [_], _ => rfl) fun cdv A outer s H E hr hG tk hp => ⟨_, (ss_cons (s_par (i := 1) (j := 2) rfl hN rfl rfl (by decide) rfl rfl (l_cons (e_callC C__law_disc (by decide) hr nog (by rfl) tk (a_cons (e_var (pv 0)) a_nil)) (l_cons (e_tup (l_cons (e_tup (l_cons e_int (l_cons e_int l_nil))) (l_cons (e_tup (l_cons e_int (l_cons e_int l_nil))) l_nil))) l_nil)) rfl)
    (ss_cons (s_if (w_and (t_cmp o_lt (r_own (pv 1)) e_int.r rfl) (w_and1 (t_cmp o_lt (e_ix (r_own (pv 0)) e_int).r e_int.r rfl))).t (ss_cons (s_asg (e_callC C__law_reduced (by decide) hr nog (by rfl) tk (a_cons (e_tup (l_cons (e_un o_neg (e_ix (r_own (pv 0)) e_int)) (l_cons (e_un o_neg (e_ix (r_own (pv 0)) e_int)) (l_cons (e_un o_neg (e_ix (r_own (pv 0)) e_int)) l_nil)))) a_nil)) (g_tup (n := 2) (by rfl) (gs_cons ((c_name (i := 3) hN (by rfl) (by first | exact .inl rfl | exact .inr rfl) (by first | exact .inl rfl | exact .inr rfl)).g) (gs_cons ((c_name (i := 2) hN (by rfl) (by first | exact .inl rfl | exact .inr rfl) (by first | exact .inl rfl | exact .inr rfl)).g) gs_nil))))
    (ss_one (s_ret (e_tup (l_cons (e_tup (l_cons (e_un o_neg (e_ix (r_own (pv 3)) e_int)) (l_cons (e_un o_neg (e_ix (r_own (pv 3)) e_int)) (l_cons (e_un o_neg (e_ix (r_own (pv 3)) e_int)) l_nil)))) (l_cons (e_var (pv 2)) l_nil)))))) ss_nil)
    (ss_cons s_never
    (ss_cons s_never
    (ss_one s_never))))), fun c as y Φ Ψ hn hs => ?_⟩
  obtain ⟨f, rfl, h1, hd, ha, h⟩ := hs
  simp only [↓n_asg_if, BQ.n_rt, sSeq, sNext, sRet, sRetF, sRetO, sDrop, sSet, sOwn, sAsg, sPar, sPar3, sAug, sApp, sIf, dIf, dTest, dAnd, dOr, dNot, dAndV, dOrV, d1, d2, d2F, dVar, dOwn, dC, dF, dTup, dLst, dNil, dCons, dCB, dCB1, dCF1, dChain, dChain3, dCall, dCallF, dCallK, aNil, aCons, aDk, dGn, dGnil, dGcons, dGtup, dOdIx, dGsub, dIdxT, dIdxL, dSlT, dSlL, dPart, dNoPart, dIl, dIt, frz, opn, cls, catD, startR, arS, seqOf, n_add, n_addT, n_sub, n_mul, n_fdiv, n_mod, n_pow, n_shl, n_cmp, n_is, n_neg, n_not, n_ixL, n_ixT, n_lenL, n_lenT, n_abs, n_gcd, n_isqrt, n_int, n_tupL, n_tupT, at10, at1n, at20, at21, at2n, at30, at31, at32, at3n, fD, mD, wipeR, dYes, ix32, ix31, n_boolC, sz0, sz1, sz2, sz3, sz4, sz5, sz6, sz7, sz8, n_eqI, n_neI, n_eq3, n_ne3, n_isi_int, n_isi_bool, n_isi_tuple, List.map_cons, List.map_nil, List.length_cons, List.length_nil, List.replicate, List.set_cons_zero, List.set_cons_succ, List.getElem?_cons_zero, List.getElem?_cons_succ, List.filter_cons, List.filter_nil, Ar.isDk, List.all_cons, List.all_nil, no_dt, no_un, no_ow, no_dk, Bool.and_eq_true, Bool.true_and, Bool.and_true, Bool.false_eq_true, if_false, if_true, ite_true, ite_false, Option.some.injEq, exists_eq_left', true_and, and_true, List.cons_append, List.nil_append, Nat.sub_self, decide_eq_true_eq, Nat.reduceAdd, Nat.reduceSub, Nat.zero_add, Nat.le_refl, Nat.zero_le]
  refine ⟨f, rfl, h1.dk, ?_⟩
  simp only [↓n_asg_if, BQ.n_rt, sSeq, sNext, sRet, sRetF, sRetO, sDrop, sSet, sOwn, sAsg, sPar, sPar3, sAug, sApp, sIf, dIf, dTest, dAnd, dOr, dNot, dAndV, dOrV, d1, d2, d2F, dVar, dOwn, dC, dF, dTup, dLst, dNil, dCons, dCB, dCB1, dCF1, dChain, dChain3, dCall, dCallF, dCallK, aNil, aCons, aDk, dGn, dGnil, dGcons, dGtup, dOdIx, dGsub, dIdxT, dIdxL, dSlT, dSlL, dPart, dNoPart, dIl, dIt, frz, opn, cls, catD, startR, arS, seqOf, n_add, n_addT, n_sub, n_mul, n_fdiv, n_mod, n_pow, n_shl, n_cmp, n_is, n_neg, n_not, n_ixL, n_ixT, n_lenL, n_lenT, n_abs, n_gcd, n_isqrt, n_int, n_tupL, n_tupT, at10, at1n, at20, at21, at2n, at30, at31, at32, at3n, fD, mD, wipeR, dYes, ix32, ix31, n_boolC, sz0, sz1, sz2, sz3, sz4, sz5, sz6, sz7, sz8, n_eqI, n_neI, n_eq3, n_ne3, n_isi_int, n_isi_bool, n_isi_tuple, List.map_cons, List.map_nil, List.length_cons, List.length_nil, List.replicate, List.set_cons_zero, List.set_cons_succ, List.getElem?_cons_zero, List.getElem?_cons_succ, List.filter_cons, List.filter_nil, Ar.isDk, List.all_cons, List.all_nil, no_dt, no_un, no_ow, no_dk, Bool.and_eq_true, Bool.true_and, Bool.and_true, Bool.false_eq_true, if_false, if_true, ite_true, ite_false, Option.some.injEq, exists_eq_left', true_and, and_true, List.cons_append, List.nil_append, Nat.sub_self, decide_eq_true_eq, Nat.reduceAdd, Nat.reduceSub, Nat.zero_add, Nat.le_refl, Nat.zero_le]
  rw [if_pos hd, if_pos ha]
  have fo : Fo f.neg := by
    refine ⟨by rw [neg_disc]; exact h1.n0, by rw [neg_disc]; exact h1.le, by rw [neg_disc]; exact h1.ge, ?_⟩
    rcases h1.sz with ⟨z1, z2, z3⟩ | ⟨z, r⟩
    · exact .inl ⟨by show (-f.a).natAbs ≤ _; omega, by show (-f.b).natAbs ≤ _; omega, by show (-f.c).natAbs ≤ _; omega⟩
    · refine .inr ⟨by rw [neg_disc]; exact z, ?_⟩
      have e1 : posF f = f.neg := if_pos ha
      have e2 : posF f.neg = f.neg := if_neg (by show ¬ -f.a < 0; omega)
      rw [e2, ← e1]; exact r
  refine ⟨f.neg, rfl, fo, .inr (by show 0 < -f.a; omega), fun R d t1 t2 => ?_⟩
  simp only [↓n_asg_if, BQ.n_rt, sSeq, sNext, sRet, sRetF, sRetO, sDrop, sSet, sOwn, sAsg, sPar, sPar3, sAug, sApp, sIf, dIf, dTest, dAnd, dOr, dNot, dAndV, dOrV, d1, d2, d2F, dVar, dOwn, dC, dF, dTup, dLst, dNil, dCons, dCB, dCB1, dCF1, dChain, dChain3, dCall, dCallF, dCallK, aNil, aCons, aDk, dGn, dGnil, dGcons, dGtup, dOdIx, dGsub, dIdxT, dIdxL, dSlT, dSlL, dPart, dNoPart, dIl, dIt, frz, opn, cls, catD, startR, arS, seqOf, n_add, n_addT, n_sub, n_mul, n_fdiv, n_mod, n_pow, n_shl, n_cmp, n_is, n_neg, n_not, n_ixL, n_ixT, n_lenL, n_lenT, n_abs, n_gcd, n_isqrt, n_int, n_tupL, n_tupT, at10, at1n, at20, at21, at2n, at30, at31, at32, at3n, fD, mD, wipeR, dYes, ix32, ix31, n_boolC, sz0, sz1, sz2, sz3, sz4, sz5, sz6, sz7, sz8, n_eqI, n_neI, n_eq3, n_ne3, n_isi_int, n_isi_bool, n_isi_tuple, List.map_cons, List.map_nil, List.length_cons, List.length_nil, List.replicate, List.set_cons_zero, List.set_cons_succ, List.getElem?_cons_zero, List.getElem?_cons_succ, List.filter_cons, List.filter_nil, Ar.isDk, List.all_cons, List.all_nil, no_dt, no_un, no_ow, no_dk, Bool.and_eq_true, Bool.true_and, Bool.and_true, Bool.false_eq_true, if_false, if_true, ite_true, ite_false, Option.some.injEq, exists_eq_left', true_and, and_true, List.cons_append, List.nil_append, Nat.sub_self, decide_eq_true_eq, Nat.reduceAdd, Nat.reduceSub, Nat.zero_add, Nat.le_refl, Nat.zero_le]
  refine h R.neg d ?_ (by rw [neg_disc, t2, neg_disc])
  unfold To at t1 ⊢
  rw [neg_disc, if_neg (by omega), if_pos (by show 0 < -f.a; omega)] at t1
  rw [if_neg (by omega), if_neg (by omega), neg_neg]
  exact t1
theorem law_reduced_all {k : Nat} (C1 : Cl false P w K mg base k "_law_reduced" ["form"] sd__law_reduced1) (C2 : Cl false P w K mg base (k + 1) "_law_reduced" ["form"] sd__law_reduced2) : Cl false P w K mg base (k + 1) "_law_reduced" ["form"] sd__law_reduced := by
  refine Cl.or (C1.wide (Nat.le_succ k)) C2 ?_
  rintro c as y Φ Ψ ⟨f, rfl, h1, h⟩
  have n0 := h1.n0
  by_cases hd : 0 < f.disc
  · exact .inl ⟨f, rfl, h1, .inl hd, h⟩
  · have a0 : f.a ≠ 0 := fun z => by
      have e : f.disc = f.b * f.b := by unfold F.disc; rw [z]; grind
      have := sqpos f.b
      omega
    by_cases ha : 0 < f.a
    · exact .inl ⟨f, rfl, h1, .inr ha, h⟩
    · exact .inr ⟨f, rfl, h1, by omega, by omega, h⟩
def sd__law_cycle : Sd := fun c as y Φ Ψ => ∃ f : F, as = [.dt (fD f)] ∧ Fo f ∧ ∀ L, Cy f L → Φ (.tuple (L.map fD)) c
theorem atI_last {l : List F} {m : F} (h : l[l.length - 1]? = some m) (l0 : 0 < l.length) : atI (l.map fD) (-1) = some (fD m) := by
  unfold atI ixN
  rw [if_neg (by decide), if_pos (by rw [List.length_map]; omega), List.length_map]
  show (l.map fD)[((-1 : Int) + (l.length : Int)).toNat]? = _
  have : ((-1 : Int) + (l.length : Int)).toNat = l.length - 1 := by omega
  rw [this, List.getElem?_map, h]
  rfl
theorem ok__law_cycle (Mx : Mo K mg) (C__law_reduced : Cl false P w K mg base 5 "_law_reduced" ["form"] sd__law_reduced) (C__law_disc : Cl false P w K mg base 1 "_law_disc" ["form"] sd__law_disc) (C__law_is_split : Cl false P w K mg base 2 "_law_is_split" ["d"] sd__law_is_split) (C__law_next : Cl false P w K mg base 2 "_law_next" ["form"] sd__law_next) : Cl false P w K mg base 6 "_law_cycle" ["form"] sd__law_cycle := by
  obtain ⟨fd, hm, Fn0⟩ := Mx.fn 55 "_law_cycle" (by decide +kernel)
  have hN : (["form", "first", "d", "found", "own", "at"] : List Str).Nodup := by decide +kernel
  have Sc0 : FnScope ["form", "first", "d", "found", "own", "at"] ["form"] (defScope (top 55)) := ⟨rfl, rfl, rfl, hN, rfl, by decide +kernel, by decide +kernel⟩
  refine cl_mk Fn0 hm Sc0 (fun _ _ _ _ _ _ us hl => match us, hl with | [_], _ => rfl) (fun _ _ _ _ _ _ us hl => match us, hl with | [_], _ => rfl) fun cdv A outer s H E hr hG tk hp => ⟨_, (ss_cons (s_set (i := 1) hN (by rfl) (by first | exact .inl rfl | exact .inr rfl) (e_ix (e_callC C__law_reduced (by decide) hr nog (by rfl) tk (a_cons (e_var (pv 0)) a_nil)).r e_int))
    (ss_cons (s_set (i := 2) hN (by rfl) (by first | exact .inl rfl | exact .inr rfl) (e_callC C__law_disc (by decide) hr nog (by rfl) tk (a_cons (e_var (pv 0)) a_nil)))
    (ss_cons (s_if (w_or (t_cmp o_lt (r_own (pv 2)) e_int.r rfl) (w_or1 (t_val (e_callC C__law_is_split (by decide) hr nog (by rfl) tk (a_cons (e_var (pv 2)) a_nil))))).t (ss_one (s_ret (e_tup (l_cons (e_var (pv 1)) l_nil)))) ss_nil)
    (ss_cons (s_own (i := 3) hN (by rfl) (by first | exact .inl rfl | exact .inr rfl) (f_lst (l_cons (e_var (pv 1)) l_nil)))
    (ss_cons (s_while hp (t_val e_bl) (ss_cons (s_set (i := 4) hN (by rfl) (by first | exact .inl rfl | exact .inr rfl) (e_ix (e_callC C__law_next (by decide) hr nog (by rfl) tk (a_cons (e_ix (r_own (pv 3)) (e_un o_neg e_int)) a_nil)).r e_int))
    (ss_cons (s_if (t_cmp (o_eqP (hu4 hr)) (r_own (pv 4)) (r_own (pv 1)) rfl) (ss_one s_break) ss_nil)
    (ss_one (s_app (pv 3) (e_var (pv 4)))))))
    (ss_cons (s_set (i := 5) hN (by rfl) (by first | exact .inl rfl | exact .inr rfl) (e_lidx (hu6 hr) (r_own (pv 3)) (e_callB1 (c_min rfl (hu6 hr)) (by rfl) (Mx.fr "min" (by decide +kernel)) b_min (r_own (pv 3))).r))
    (ss_one (s_ret (e_callTy1 c_tuple (by rfl) (Mx.fr "tuple" (by decide +kernel)) b_tuple (f_cat (f_slL (r_own (pv 3)) (p_some (e_var (pv 5))) p_none).e.r (f_slL (r_own (pv 3)) p_none (p_some (e_var (pv 5)))).e.r).e.r))))))))), fun c as y Φ Ψ hn hs => ?_⟩
  obtain ⟨f, rfl, h1, h⟩ := hs
  simp only [↓n_asg_if, BQ.n_rt, sSeq, sNext, sRet, sRetF, sRetO, sDrop, sSet, sOwn, sAsg, sPar, sPar3, sAug, sApp, sIf, dIf, dTest, dAnd, dOr, dNot, dAndV, dOrV, d1, d2, d2F, dVar, dOwn, dC, dF, dTup, dLst, dNil, dCons, dCB, dCB1, dCF1, dChain, dChain3, dCall, dCallF, dCallK, aNil, aCons, aDk, dGn, dGnil, dGcons, dGtup, dOdIx, dGsub, dIdxT, dIdxL, dSlT, dSlL, dPart, dNoPart, dIl, dIt, frz, opn, cls, catD, startR, arS, seqOf, n_add, n_addT, n_sub, n_mul, n_fdiv, n_mod, n_pow, n_shl, n_cmp, n_is, n_neg, n_not, n_ixL, n_ixT, n_lenL, n_lenT, n_abs, n_gcd, n_isqrt, n_int, n_tupL, n_tupT, at10, at1n, at20, at21, at2n, at30, at31, at32, at3n, fD, mD, wipeR, dYes, ix32, ix31, n_boolC, sz0, sz1, sz2, sz3, sz4, sz5, sz6, sz7, sz8, n_eqI, n_neI, n_eq3, n_ne3, n_isi_int, n_isi_bool, n_isi_tuple, List.map_cons, List.map_nil, List.length_cons, List.length_nil, List.replicate, List.set_cons_zero, List.set_cons_succ, List.getElem?_cons_zero, List.getElem?_cons_succ, List.filter_cons, List.filter_nil, Ar.isDk, List.all_cons, List.all_nil, no_dt, no_un, no_ow, no_dk, Bool.and_eq_true, Bool.true_and, Bool.and_true, Bool.false_eq_true, if_false, if_true, ite_true, ite_false, Option.some.injEq, exists_eq_left', true_and, and_true, List.cons_append, List.nil_append, Nat.sub_self, decide_eq_true_eq, Nat.reduceAdd, Nat.reduceSub, Nat.zero_add, Nat.le_refl, Nat.zero_le]
  refine ⟨f, rfl, h1, fun R d t1 ed => ?_⟩
  obtain ⟨rok, _⟩ := t1.rg h1.n0 h1.le h1.ge ed
  simp only [↓n_asg_if, BQ.n_rt, sSeq, sNext, sRet, sRetF, sRetO, sDrop, sSet, sOwn, sAsg, sPar, sPar3, sAug, sApp, sIf, dIf, dTest, dAnd, dOr, dNot, dAndV, dOrV, d1, d2, d2F, dVar, dOwn, dC, dF, dTup, dLst, dNil, dCons, dCB, dCB1, dCF1, dChain, dChain3, dCall, dCallF, dCallK, aNil, aCons, aDk, dGn, dGnil, dGcons, dGtup, dOdIx, dGsub, dIdxT, dIdxL, dSlT, dSlL, dPart, dNoPart, dIl, dIt, frz, opn, cls, catD, startR, arS, seqOf, n_add, n_addT, n_sub, n_mul, n_fdiv, n_mod, n_pow, n_shl, n_cmp, n_is, n_neg, n_not, n_ixL, n_ixT, n_lenL, n_lenT, n_abs, n_gcd, n_isqrt, n_int, n_tupL, n_tupT, at10, at1n, at20, at21, at2n, at30, at31, at32, at3n, fD, mD, wipeR, dYes, ix32, ix31, n_boolC, sz0, sz1, sz2, sz3, sz4, sz5, sz6, sz7, sz8, n_eqI, n_neI, n_eq3, n_ne3, n_isi_int, n_isi_bool, n_isi_tuple, List.map_cons, List.map_nil, List.length_cons, List.length_nil, List.replicate, List.set_cons_zero, List.set_cons_succ, List.getElem?_cons_zero, List.getElem?_cons_succ, List.filter_cons, List.filter_nil, Ar.isDk, List.all_cons, List.all_nil, no_dt, no_un, no_ow, no_dk, Bool.and_eq_true, Bool.true_and, Bool.and_true, Bool.false_eq_true, if_false, if_true, ite_true, ite_false, Option.some.injEq, exists_eq_left', true_and, and_true, List.cons_append, List.nil_append, Nat.sub_self, decide_eq_true_eq, Nat.reduceAdd, Nat.reduceSub, Nat.zero_add, Nat.le_refl, Nat.zero_le]
  refine ⟨f, rfl, h1.dk, ?_⟩
  simp only [↓n_asg_if, BQ.n_rt, sSeq, sNext, sRet, sRetF, sRetO, sDrop, sSet, sOwn, sAsg, sPar, sPar3, sAug, sApp, sIf, dIf, dTest, dAnd, dOr, dNot, dAndV, dOrV, d1, d2, d2F, dVar, dOwn, dC, dF, dTup, dLst, dNil, dCons, dCB, dCB1, dCF1, dChain, dChain3, dCall, dCallF, dCallK, aNil, aCons, aDk, dGn, dGnil, dGcons, dGtup, dOdIx, dGsub, dIdxT, dIdxL, dSlT, dSlL, dPart, dNoPart, dIl, dIt, frz, opn, cls, catD, startR, arS, seqOf, n_add, n_addT, n_sub, n_mul, n_fdiv, n_mod, n_pow, n_shl, n_cmp, n_is, n_neg, n_not, n_ixL, n_ixT, n_lenL, n_lenT, n_abs, n_gcd, n_isqrt, n_int, n_tupL, n_tupT, at10, at1n, at20, at21, at2n, at30, at31, at32, at3n, fD, mD, wipeR, dYes, ix32, ix31, n_boolC, sz0, sz1, sz2, sz3, sz4, sz5, sz6, sz7, sz8, n_eqI, n_neI, n_eq3, n_ne3, n_isi_int, n_isi_bool, n_isi_tuple, List.map_cons, List.map_nil, List.length_cons, List.length_nil, List.replicate, List.set_cons_zero, List.set_cons_succ, List.getElem?_cons_zero, List.getElem?_cons_succ, List.filter_cons, List.filter_nil, Ar.isDk, List.all_cons, List.all_nil, no_dt, no_un, no_ow, no_dk, Bool.and_eq_true, Bool.true_and, Bool.and_true, Bool.false_eq_true, if_false, if_true, ite_true, ite_false, Option.some.injEq, exists_eq_left', true_and, and_true, List.cons_append, List.nil_append, Nat.sub_self, decide_eq_true_eq, Nat.reduceAdd, Nat.reduceSub, Nat.zero_add, Nat.le_refl, Nat.zero_le]
  by_cases hd : f.disc < 0
  · rw [if_pos hd]
    exact h [R] ⟨R, t1, by rw [if_pos (Or.inl (by omega))]⟩
  · rw [if_neg hd]
    refine ⟨f.disc, rfl, by have := h1.le; omega, ?_⟩
    simp only [↓n_asg_if, BQ.n_rt, sSeq, sNext, sRet, sRetF, sRetO, sDrop, sSet, sOwn, sAsg, sPar, sPar3, sAug, sApp, sIf, dIf, dTest, dAnd, dOr, dNot, dAndV, dOrV, d1, d2, d2F, dVar, dOwn, dC, dF, dTup, dLst, dNil, dCons, dCB, dCB1, dCF1, dChain, dChain3, dCall, dCallF, dCallK, aNil, aCons, aDk, dGn, dGnil, dGcons, dGtup, dOdIx, dGsub, dIdxT, dIdxL, dSlT, dSlL, dPart, dNoPart, dIl, dIt, frz, opn, cls, catD, startR, arS, seqOf, n_add, n_addT, n_sub, n_mul, n_fdiv, n_mod, n_pow, n_shl, n_cmp, n_is, n_neg, n_not, n_ixL, n_ixT, n_lenL, n_lenT, n_abs, n_gcd, n_isqrt, n_int, n_tupL, n_tupT, at10, at1n, at20, at21, at2n, at30, at31, at32, at3n, fD, mD, wipeR, dYes, ix32, ix31, n_boolC, sz0, sz1, sz2, sz3, sz4, sz5, sz6, sz7, sz8, n_eqI, n_neI, n_eq3, n_ne3, n_isi_int, n_isi_bool, n_isi_tuple, List.map_cons, List.map_nil, List.length_cons, List.length_nil, List.replicate, List.set_cons_zero, List.set_cons_succ, List.getElem?_cons_zero, List.getElem?_cons_succ, List.filter_cons, List.filter_nil, Ar.isDk, List.all_cons, List.all_nil, no_dt, no_un, no_ow, no_dk, Bool.and_eq_true, Bool.true_and, Bool.and_true, Bool.false_eq_true, if_false, if_true, ite_true, ite_false, Option.some.injEq, exists_eq_left', true_and, and_true, List.cons_append, List.nil_append, Nat.sub_self, decide_eq_true_eq, Nat.reduceAdd, Nat.reduceSub, Nat.zero_add, Nat.le_refl, Nat.zero_le]
    by_cases hs : isSplit f.disc = true
    · rw [if_pos hs]
      exact h [R] ⟨R, t1, by rw [if_pos (Or.inr (by rw [ed]; exact hs))]⟩
    · rw [if_neg hs]
      have rd := (rok.2.2.resolve_left (by omega)).resolve_left (by rw [ed]; exact hs)
      have hc : ¬ (R.disc < 0 ∨ isSplit R.disc = true) := fun z => z.elim (by omega) (by rw [ed]; exact hs)
      generalize hr : rt R.disc = r at *
      have I := rd.i
      have hle := rok.2.1
      have r1 : r ≤ 3162 := by have := sqlt (a := r) (b := 3163) (by decide) (by have := I.lo; omega); omega
      obtain ⟨p, pl, per⟩ := rd.per
      have pr := room_le r1
      have sz : ∀ n, (it r n R).b.natAbs < 2 ^ 40 ∧ (it r n R).c.natAbs < 2 ^ 40 ∧ DiscOk (it r n R) ∧ Ind (it r n R).disc r ∧ (it r n R).disc = R.disc := fun n => by
        have rn := rd.it n
        have J : Ind (it r n R).disc r := rn.d ▸ rn.i
        have h1 := rn.red.1
        have h2 := rn.red.2.1
        have h3 := rn.red.c_le J
        exact ⟨by omega, by omega, ⟨mR (by omega) (by omega), mR (by omega) (by omega)⟩, J, rn.d⟩
      refine ⟨fun m c' ρ => ∃ (n : Nat) (s4 : Sl), ρ = [.dt (fD f), .dt (fD R), .dt (.int f.disc), .ow ((orb r n R).map fD), s4, .un] ∧ s4.notOd = true ∧ c' = c ∧ 1 ≤ n ∧ n ≤ p ∧ m = p - n, ⟨p - 1, 1, .un, rfl, rfl, rfl, Nat.le_refl _, per.pos, rfl⟩, ?_⟩
      rintro m c' ρ ⟨n, s4, rfl, n4, rfl, n1, n2, rfl⟩
      obtain ⟨y1, y2, y3, y4, y5⟩ := sz (n - 1)
      have ln := orb_len r n R
      have lst := atI_last (l := orb r n R) (m := it r (n - 1) R) (by rw [ln]; exact orb_get (by omega)) (by omega)
      have nx : BQ.nxt r (it r (n - 1) R) = it r n R := by
        have : n = (n - 1) + 1 := by omega
        conv => rhs; rw [this]
        rfl
      simp only [↓n_asg_if, BQ.n_rt, sSeq, sNext, sRet, sRetF, sRetO, sDrop, sSet, sOwn, sAsg, sPar, sPar3, sAug, sApp, sIf, dIf, dTest, dAnd, dOr, dNot, dAndV, dOrV, d1, d2, d2F, dVar, dOwn, dC, dF, dTup, dLst, dNil, dCons, dCB, dCB1, dCF1, dChain, dChain3, dCall, dCallF, dCallK, aNil, aCons, aDk, dGn, dGnil, dGcons, dGtup, dOdIx, dGsub, dIdxT, dIdxL, dSlT, dSlL, dPart, dNoPart, dIl, dIt, frz, opn, cls, catD, startR, arS, seqOf, n_add, n_addT, n_sub, n_mul, n_fdiv, n_mod, n_pow, n_shl, n_cmp, n_is, n_neg, n_not, n_ixL, n_ixT, n_lenL, n_lenT, n_abs, n_gcd, n_isqrt, n_int, n_tupL, n_tupT, at10, at1n, at20, at21, at2n, at30, at31, at32, at3n, fD, mD, wipeR, dYes, ix32, ix31, n_boolC, sz0, sz1, sz2, sz3, sz4, sz5, sz6, sz7, sz8, n_eqI, n_neI, n_eq3, n_ne3, n_isi_int, n_isi_bool, n_isi_tuple, List.map_cons, List.map_nil, List.length_cons, List.length_nil, List.replicate, List.set_cons_zero, List.set_cons_succ, List.getElem?_cons_zero, List.getElem?_cons_succ, List.filter_cons, List.filter_nil, Ar.isDk, List.all_cons, List.all_nil, no_dt, no_un, no_ow, no_dk, Bool.and_eq_true, Bool.true_and, Bool.and_true, Bool.false_eq_true, if_false, if_true, ite_true, ite_false, Option.some.injEq, exists_eq_left', true_and, and_true, List.cons_append, List.nil_append, Nat.sub_self, decide_eq_true_eq, Nat.reduceAdd, Nat.reduceSub, Nat.zero_add, Nat.le_refl, Nat.zero_le]
      refine ⟨fD (it r (n - 1) R), lst, n4, it r (n - 1) R, rfl, y3, by rw [y4.rt]; exact y4, by omega, y1, y2, ?_⟩
      rw [y4.rt, nx]
      simp only [↓n_asg_if, BQ.n_rt, sSeq, sNext, sRet, sRetF, sRetO, sDrop, sSet, sOwn, sAsg, sPar, sPar3, sAug, sApp, sIf, dIf, dTest, dAnd, dOr, dNot, dAndV, dOrV, d1, d2, d2F, dVar, dOwn, dC, dF, dTup, dLst, dNil, dCons, dCB, dCB1, dCF1, dChain, dChain3, dCall, dCallF, dCallK, aNil, aCons, aDk, dGn, dGnil, dGcons, dGtup, dOdIx, dGsub, dIdxT, dIdxL, dSlT, dSlL, dPart, dNoPart, dIl, dIt, frz, opn, cls, catD, startR, arS, seqOf, n_add, n_addT, n_sub, n_mul, n_fdiv, n_mod, n_pow, n_shl, n_cmp, n_is, n_neg, n_not, n_ixL, n_ixT, n_lenL, n_lenT, n_abs, n_gcd, n_isqrt, n_int, n_tupL, n_tupT, at10, at1n, at20, at21, at2n, at30, at31, at32, at3n, fD, mD, wipeR, dYes, ix32, ix31, n_boolC, sz0, sz1, sz2, sz3, sz4, sz5, sz6, sz7, sz8, n_eqI, n_neI, n_eq3, n_ne3, n_isi_int, n_isi_bool, n_isi_tuple, List.map_cons, List.map_nil, List.length_cons, List.length_nil, List.replicate, List.set_cons_zero, List.set_cons_succ, List.getElem?_cons_zero, List.getElem?_cons_succ, List.filter_cons, List.filter_nil, Ar.isDk, List.all_cons, List.all_nil, no_dt, no_un, no_ow, no_dk, Bool.and_eq_true, Bool.true_and, Bool.and_true, Bool.false_eq_true, if_false, if_true, ite_true, ite_false, Option.some.injEq, exists_eq_left', true_and, and_true, List.cons_append, List.nil_append, Nat.sub_self, decide_eq_true_eq, Nat.reduceAdd, Nat.reduceSub, Nat.zero_add, Nat.le_refl, Nat.zero_le]
      by_cases hn : n = p
      · subst hn
        rw [per.back]
        rw [if_pos (by simp)]
        refine min_anyL (l := orb r n R) (fun z => by rw [z] at ln; simp at ln; omega) _ fun m' hm => ?_
        simp only [↓n_asg_if, BQ.n_rt, sSeq, sNext, sRet, sRetF, sRetO, sDrop, sSet, sOwn, sAsg, sPar, sPar3, sAug, sApp, sIf, dIf, dTest, dAnd, dOr, dNot, dAndV, dOrV, d1, d2, d2F, dVar, dOwn, dC, dF, dTup, dLst, dNil, dCons, dCB, dCB1, dCF1, dChain, dChain3, dCall, dCallF, dCallK, aNil, aCons, aDk, dGn, dGnil, dGcons, dGtup, dOdIx, dGsub, dIdxT, dIdxL, dSlT, dSlL, dPart, dNoPart, dIl, dIt, frz, opn, cls, catD, startR, arS, seqOf, n_add, n_addT, n_sub, n_mul, n_fdiv, n_mod, n_pow, n_shl, n_cmp, n_is, n_neg, n_not, n_ixL, n_ixT, n_lenL, n_lenT, n_abs, n_gcd, n_isqrt, n_int, n_tupL, n_tupT, at10, at1n, at20, at21, at2n, at30, at31, at32, at3n, fD, mD, wipeR, dYes, ix32, ix31, n_boolC, sz0, sz1, sz2, sz3, sz4, sz5, sz6, sz7, sz8, n_eqI, n_neI, n_eq3, n_ne3, n_isi_int, n_isi_bool, n_isi_tuple, List.map_cons, List.map_nil, List.length_cons, List.length_nil, List.replicate, List.set_cons_zero, List.set_cons_succ, List.getElem?_cons_zero, List.getElem?_cons_succ, List.filter_cons, List.filter_nil, Ar.isDk, List.all_cons, List.all_nil, no_dt, no_un, no_ow, no_dk, Bool.and_eq_true, Bool.true_and, Bool.and_true, Bool.false_eq_true, if_false, if_true, ite_true, ite_false, Option.some.injEq, exists_eq_left', true_and, and_true, List.cons_append, List.nil_append, Nat.sub_self, decide_eq_true_eq, Nat.reduceAdd, Nat.reduceSub, Nat.zero_add, Nat.le_refl, Nat.zero_le]
        obtain ⟨i, i1, i2, i3⟩ := idx3 hm.1
        have fold : PyData.tuple [.int m'.a, .int m'.b, .int m'.c] = fD m' := rfl
        rw [fold, i1]
        rw [ln] at i2
        refine ⟨?_, ⟨fD m', List.mem_map.mpr ⟨m', hm.1, rfl⟩, by rw [eqvF]; simp⟩, ?_⟩
        · have := depth_forms (orb r n R)
          omega
        · rw [cutLo (by rw [List.length_map, ln]; omega), cutHi (by rw [List.length_map, ln]; omega), ← List.map_drop, ← List.map_take, ← List.map_append, per.rot i2]
          have em : m' = it r i R := by
            rw [orb_get i2] at i3
            exact (Option.some.inj i3).symm
          have sl := sizeLine_eq
          refine ⟨?_, h _ ⟨R, t1, by rw [if_neg hc, hr]; exact ⟨n, i, per, i2, em ▸ hm, rfl⟩⟩⟩
          rw [List.length_map, List.length_map, List.length_drop, List.length_take, ln]
          omega
      · have ne : it r n R ≠ R := per.first n (by omega) (by omega)
        rw [if_neg (by
          rintro ⟨q1, q2, q3⟩
          exact ne (F.ext q1 q2 q3))]
        refine ⟨by rw [List.length_map, orb_len]; have := sizeLine_eq; omega, p - (n + 1), by omega, n + 1, .dt (fD (it r n R)), ?_, rfl, by omega, by omega, rfl⟩
        have : orb r (n + 1) R = orb r n R ++ [it r n R] := by unfold orb; rw [List.range_succ, List.map_append]; rfl
        rw [this, List.map_append]
        rfl
end
end K31

/-! The law's draws, its judge, the law. -/
namespace K31
open PySem PySem.Spec PyProof.Rows L2 DL BQ
section
variable {P : Program} {w : World} {K : PySem.W.Frag} {mg : Str → Option Value} {base : Heap}
def sd__law_step : Sd := fun c as y Φ Ψ => ∃ many : Int, as = [.dk, .dt (.int many)] ∧ 0 ≤ many ∧ many ≤ 5 ∧ c < 2 ^ 30 ∧ ∀ (m : M) (c' : Nat), m.det = 1 → Mb 15 m → c' ≤ c + 10 → Φ (mD m) c'
theorem ok__law_step (Mx : Mo K mg) (C__law_any : Cl false P w K mg base 1 "_law_any" ["seed", "many"] sd__law_any) (C__law_behind : Cl false P w K mg base 1 "_law_behind" ["one", "other"] sd__law_behind) (C__law_one_of : Cl false P w K mg base 2 "_law_one_of" ["seed", "items"] sd__law_one_of) : Cl false P w K mg base 3 "_law_step" ["seed", "many"] sd__law_step := by
  obtain ⟨fd, hm, Fn0⟩ := Mx.fn 56 "_law_step" (by decide +kernel)
  have hN : (["seed", "many", "found", "turn", "t"] : List Str).Nodup := by decide +kernel
  have Sc0 : FnScope ["seed", "many", "found", "turn", "t"] ["seed", "many"] (defScope (top 56)) := ⟨rfl, rfl, rfl, hN, rfl, by decide +kernel, by decide +kernel⟩
  refine cl_mk Fn0 hm Sc0 (fun _ _ _ _ _ _ us hl => match us, hl with | [_, _], _ => rfl) (fun _ _ _ _ _ _ us hl => match us, hl with | [_, _], _ => rfl) fun cdv A outer s H E hr hG tk hp => ⟨_, (ss_cons (s_set (i := 2) hN (by rfl) (by first | exact .inl rfl | exact .inr rfl) (e_tup (l_cons (e_tup (l_cons e_int (l_cons e_int l_nil))) (l_cons (e_tup (l_cons e_int (l_cons e_int l_nil))) l_nil))))
    (ss_cons (s_for hp rfl (i_rg1 (by rfl) (Mx.fr "range" (by decide +kernel)) (e_var (pv 1))) (c_name (i := 3) hN (by rfl) (by first | exact .inl rfl | exact .inr rfl) (by first | exact .inl rfl | exact .inr rfl)) (ss_cons (s_set (i := 4) hN (by rfl) (by first | exact .inl rfl | exact .inr rfl) (e_bin o_sub (e_callC C__law_any (by decide) hr nog (by rfl) tk (a_dk (pv 0) (a_cons e_int a_nil))).r e_int.r))
    (ss_one (s_set (i := 2) hN (by rfl) (by first | exact .inl rfl | exact .inr rfl) (e_callC C__law_behind (by decide) hr nog (by rfl) tk (a_cons (e_var (pv 2)) (a_cons (e_callC C__law_one_of (by decide) hr nog (by rfl) tk (a_dk (pv 0) (a_cons (f_lst (l_cons (e_tup (l_cons (e_tup (l_cons e_int (l_cons (e_var (pv 4)) l_nil))) (l_cons (e_tup (l_cons e_int (l_cons e_int l_nil))) l_nil))) (l_cons (e_tup (l_cons (e_tup (l_cons e_int (l_cons e_int l_nil))) (l_cons (e_tup (l_cons (e_var (pv 4)) (l_cons e_int l_nil))) l_nil))) (l_cons (e_tup (l_cons (e_tup (l_cons e_int (l_cons (e_un o_neg e_int) l_nil))) (l_cons (e_tup (l_cons e_int (l_cons e_int l_nil))) l_nil))) l_nil)))).e a_nil))) a_nil)))))))
    (ss_one (s_ret (e_var (pv 2)))))), fun c as y Φ Ψ hn hs => ?_⟩
  obtain ⟨many, rfl, h1, h2, h3, h⟩ := hs
  unfold sFor dRg1
  simp only [↓n_asg_if, BQ.n_rt, sSeq, sNext, sRet, sRetF, sRetO, sDrop, sSet, sOwn, sAsg, sPar, sPar3, sAug, sApp, sIf, dIf, dTest, dAnd, dOr, dNot, dAndV, dOrV, d1, d2, d2F, dVar, dOwn, dC, dF, dTup, dLst, dNil, dCons, dCB, dCB1, dCF1, dChain, dChain3, dCall, dCallF, dCallK, aNil, aCons, aDk, dGn, dGnil, dGcons, dGtup, dOdIx, dGsub, dIdxT, dIdxL, dSlT, dSlL, dPart, dNoPart, dIl, dIt, frz, opn, cls, catD, startR, arS, seqOf, n_add, n_addT, n_sub, n_mul, n_fdiv, n_mod, n_pow, n_shl, n_cmp, n_is, n_neg, n_not, n_ixL, n_ixT, n_lenL, n_lenT, n_abs, n_gcd, n_isqrt, n_int, n_tupL, n_tupT, at10, at1n, at20, at21, at2n, at30, at31, at32, at3n, fD, mD, wipeR, dYes, ix32, ix31, n_boolC, sz0, sz1, sz2, sz3, sz4, sz5, sz6, sz7, sz8, n_eqI, n_neI, n_eq3, n_ne3, n_isi_int, n_isi_bool, n_isi_tuple, List.map_cons, List.map_nil, List.length_cons, List.length_nil, List.replicate, List.set_cons_zero, List.set_cons_succ, List.getElem?_cons_zero, List.getElem?_cons_succ, List.filter_cons, List.filter_nil, Ar.isDk, List.all_cons, List.all_nil, no_dt, no_un, no_ow, no_dk, Bool.and_eq_true, Bool.true_and, Bool.and_true, Bool.false_eq_true, if_false, if_true, ite_true, ite_false, Option.some.injEq, exists_eq_left', true_and, and_true, List.cons_append, List.nil_append, Nat.sub_self, decide_eq_true_eq, Nat.reduceAdd, Nat.reduceSub, Nat.zero_add, Nat.le_refl, Nat.zero_le]
  refine ⟨by omega, ?_⟩
  refine forW_inv (fun ds c' ρ => ∃ (N : M) (s3 s4 : Sl), ρ = [.dk, .dt (.int many), .dt (mD N), s3, s4] ∧ (s3.notOd = true ∧ s4.notOd = true) ∧ ds.length ≤ 5 ∧ N.det = 1 ∧ Mb (3 * (5 - ds.length)) N ∧ c' ≤ c + 2 * (5 - ds.length)) ?_ ?_ _ _ _
    ⟨M.one, _, _, rfl, ⟨rfl, rfl⟩, by unfold rgL; rw [List.length_map, List.length_range]; omega, rfl, Mb.mono Mb.one (Nat.zero_le _), by omega⟩
  · rintro d r c' ρ ⟨N, s3, s4, rfl, ⟨n3, n4⟩, hl, dt, mb, hc⟩ Φ' k1 k2 k3 k4 k5
    rw [List.length_cons] at hl mb hc
    simp only [↓n_asg_if, BQ.n_rt, sSeq, sNext, sRet, sRetF, sRetO, sDrop, sSet, sOwn, sAsg, sPar, sPar3, sAug, sApp, sIf, dIf, dTest, dAnd, dOr, dNot, dAndV, dOrV, d1, d2, d2F, dVar, dOwn, dC, dF, dTup, dLst, dNil, dCons, dCB, dCB1, dCF1, dChain, dChain3, dCall, dCallF, dCallK, aNil, aCons, aDk, dGn, dGnil, dGcons, dGtup, dOdIx, dGsub, dIdxT, dIdxL, dSlT, dSlL, dPart, dNoPart, dIl, dIt, frz, opn, cls, catD, startR, arS, seqOf, n_add, n_addT, n_sub, n_mul, n_fdiv, n_mod, n_pow, n_shl, n_cmp, n_is, n_neg, n_not, n_ixL, n_ixT, n_lenL, n_lenT, n_abs, n_gcd, n_isqrt, n_int, n_tupL, n_tupT, at10, at1n, at20, at21, at2n, at30, at31, at32, at3n, fD, mD, wipeR, dYes, ix32, ix31, n_boolC, sz0, sz1, sz2, sz3, sz4, sz5, sz6, sz7, sz8, n_eqI, n_neI, n_eq3, n_ne3, n_isi_int, n_isi_bool, n_isi_tuple, List.map_cons, List.map_nil, List.length_cons, List.length_nil, List.replicate, List.set_cons_zero, List.set_cons_succ, List.getElem?_cons_zero, List.getElem?_cons_succ, List.filter_cons, List.filter_nil, Ar.isDk, List.all_cons, List.all_nil, no_dt, no_un, no_ow, no_dk, Bool.and_eq_true, Bool.true_and, Bool.and_true, Bool.false_eq_true, if_false, if_true, ite_true, ite_false, Option.some.injEq, exists_eq_left', true_and, and_true, List.cons_append, List.nil_append, Nat.sub_self, decide_eq_true_eq, Nat.reduceAdd, Nat.reduceSub, Nat.zero_add, Nat.le_refl, Nat.zero_le]
    refine ⟨n4, 7, rfl, by decide, by omega, fun q q0 q1 => ?_⟩
    simp only [↓n_asg_if, BQ.n_rt, sSeq, sNext, sRet, sRetF, sRetO, sDrop, sSet, sOwn, sAsg, sPar, sPar3, sAug, sApp, sIf, dIf, dTest, dAnd, dOr, dNot, dAndV, dOrV, d1, d2, d2F, dVar, dOwn, dC, dF, dTup, dLst, dNil, dCons, dCB, dCB1, dCF1, dChain, dChain3, dCall, dCallF, dCallK, aNil, aCons, aDk, dGn, dGnil, dGcons, dGtup, dOdIx, dGsub, dIdxT, dIdxL, dSlT, dSlL, dPart, dNoPart, dIl, dIt, frz, opn, cls, catD, startR, arS, seqOf, n_add, n_addT, n_sub, n_mul, n_fdiv, n_mod, n_pow, n_shl, n_cmp, n_is, n_neg, n_not, n_ixL, n_ixT, n_lenL, n_lenT, n_abs, n_gcd, n_isqrt, n_int, n_tupL, n_tupT, at10, at1n, at20, at21, at2n, at30, at31, at32, at3n, fD, mD, wipeR, dYes, ix32, ix31, n_boolC, sz0, sz1, sz2, sz3, sz4, sz5, sz6, sz7, sz8, n_eqI, n_neI, n_eq3, n_ne3, n_isi_int, n_isi_bool, n_isi_tuple, List.map_cons, List.map_nil, List.length_cons, List.length_nil, List.replicate, List.set_cons_zero, List.set_cons_succ, List.getElem?_cons_zero, List.getElem?_cons_succ, List.filter_cons, List.filter_nil, Ar.isDk, List.all_cons, List.all_nil, no_dt, no_un, no_ow, no_dk, Bool.and_eq_true, Bool.true_and, Bool.and_true, Bool.false_eq_true, if_false, if_true, ite_true, ite_false, Option.some.injEq, exists_eq_left', true_and, and_true, List.cons_append, List.nil_append, Nat.sub_self, decide_eq_true_eq, Nat.reduceAdd, Nat.reduceSub, Nat.zero_add, Nat.le_refl, Nat.zero_le]
    refine ⟨_, rfl, by simp, by show 3 ≤ sizeLine; decide, by omega, fun e he => ?_⟩
    obtain ⟨E, rfl, ed, em⟩ : ∃ E : M, e = mD E ∧ E.det = 1 ∧ (E.p.natAbs ≤ 4 ∧ E.q.natAbs ≤ 4 ∧ E.r.natAbs ≤ 4 ∧ E.s.natAbs ≤ 4) := by
      rcases List.mem_cons.mp he with rfl | he
      · exact ⟨⟨1, q - 3, 0, 1⟩, rfl, by simp [M.det], by show (1 : Int).natAbs ≤ 4; decide, by show (q - 3).natAbs ≤ 4; omega, by show (0 : Int).natAbs ≤ 4; decide, by show (1 : Int).natAbs ≤ 4; decide⟩
      · rcases List.mem_cons.mp he with rfl | he
        · exact ⟨⟨1, 0, q - 3, 1⟩, rfl, by simp [M.det], by show (1 : Int).natAbs ≤ 4; decide, by show (0 : Int).natAbs ≤ 4; decide, by show (q - 3).natAbs ≤ 4; omega, by show (1 : Int).natAbs ≤ 4; decide⟩
        · rw [List.mem_singleton.mp he]
          exact ⟨⟨0, -1, 1, 0⟩, rfl, by simp [M.det], by show (0 : Int).natAbs ≤ 4; decide, by show (-1 : Int).natAbs ≤ 4; decide, by show (1 : Int).natAbs ≤ 4; decide, by show (0 : Int).natAbs ≤ 4; decide⟩
    have sE : Sm E := by
      obtain ⟨a, b, d, e⟩ := em
      exact ⟨by omega, by omega, by omega, by omega⟩
    simp only [↓n_asg_if, BQ.n_rt, sSeq, sNext, sRet, sRetF, sRetO, sDrop, sSet, sOwn, sAsg, sPar, sPar3, sAug, sApp, sIf, dIf, dTest, dAnd, dOr, dNot, dAndV, dOrV, d1, d2, d2F, dVar, dOwn, dC, dF, dTup, dLst, dNil, dCons, dCB, dCB1, dCF1, dChain, dChain3, dCall, dCallF, dCallK, aNil, aCons, aDk, dGn, dGnil, dGcons, dGtup, dOdIx, dGsub, dIdxT, dIdxL, dSlT, dSlL, dPart, dNoPart, dIl, dIt, frz, opn, cls, catD, startR, arS, seqOf, n_add, n_addT, n_sub, n_mul, n_fdiv, n_mod, n_pow, n_shl, n_cmp, n_is, n_neg, n_not, n_ixL, n_ixT, n_lenL, n_lenT, n_abs, n_gcd, n_isqrt, n_int, n_tupL, n_tupT, at10, at1n, at20, at21, at2n, at30, at31, at32, at3n, fD, mD, wipeR, dYes, ix32, ix31, n_boolC, sz0, sz1, sz2, sz3, sz4, sz5, sz6, sz7, sz8, n_eqI, n_neI, n_eq3, n_ne3, n_isi_int, n_isi_bool, n_isi_tuple, List.map_cons, List.map_nil, List.length_cons, List.length_nil, List.replicate, List.set_cons_zero, List.set_cons_succ, List.getElem?_cons_zero, List.getElem?_cons_succ, List.filter_cons, List.filter_nil, Ar.isDk, List.all_cons, List.all_nil, no_dt, no_un, no_ow, no_dk, Bool.and_eq_true, Bool.true_and, Bool.and_true, Bool.false_eq_true, if_false, if_true, ite_true, ite_false, Option.some.injEq, exists_eq_left', true_and, and_true, List.cons_append, List.nil_append, Nat.sub_self, decide_eq_true_eq, Nat.reduceAdd, Nat.reduceSub, Nat.zero_add, Nat.le_refl, Nat.zero_le]
    refine ⟨N, E, rfl, sE.mul_ N, ?_⟩
    simp only [↓n_asg_if, BQ.n_rt, sSeq, sNext, sRet, sRetF, sRetO, sDrop, sSet, sOwn, sAsg, sPar, sPar3, sAug, sApp, sIf, dIf, dTest, dAnd, dOr, dNot, dAndV, dOrV, d1, d2, d2F, dVar, dOwn, dC, dF, dTup, dLst, dNil, dCons, dCB, dCB1, dCF1, dChain, dChain3, dCall, dCallF, dCallK, aNil, aCons, aDk, dGn, dGnil, dGcons, dGtup, dOdIx, dGsub, dIdxT, dIdxL, dSlT, dSlL, dPart, dNoPart, dIl, dIt, frz, opn, cls, catD, startR, arS, seqOf, n_add, n_addT, n_sub, n_mul, n_fdiv, n_mod, n_pow, n_shl, n_cmp, n_is, n_neg, n_not, n_ixL, n_ixT, n_lenL, n_lenT, n_abs, n_gcd, n_isqrt, n_int, n_tupL, n_tupT, at10, at1n, at20, at21, at2n, at30, at31, at32, at3n, fD, mD, wipeR, dYes, ix32, ix31, n_boolC, sz0, sz1, sz2, sz3, sz4, sz5, sz6, sz7, sz8, n_eqI, n_neI, n_eq3, n_ne3, n_isi_int, n_isi_bool, n_isi_tuple, List.map_cons, List.map_nil, List.length_cons, List.length_nil, List.replicate, List.set_cons_zero, List.set_cons_succ, List.getElem?_cons_zero, List.getElem?_cons_succ, List.filter_cons, List.filter_nil, Ar.isDk, List.all_cons, List.all_nil, no_dt, no_un, no_ow, no_dk, Bool.and_eq_true, Bool.true_and, Bool.and_true, Bool.false_eq_true, if_false, if_true, ite_true, ite_false, Option.some.injEq, exists_eq_left', true_and, and_true, List.cons_append, List.nil_append, Nat.sub_self, decide_eq_true_eq, Nat.reduceAdd, Nat.reduceSub, Nat.zero_add, Nat.le_refl, Nat.zero_le]
    refine k1 _ _ ⟨N.mul E, _, _, rfl, ⟨rfl, rfl⟩, by omega, by rw [det_mul, dt, ed]; rfl, ?_, by omega⟩
    have mE : Mb 2 E := em
    exact Mb.mono (Mb.mul mb mE) (by omega)
  · rintro c' ρ ⟨N, s3, s4, rfl, _, hl, dt, mb, hc⟩
    exact h N c' dt mb (by simpa using hc)
theorem eqSelf0 (Φ : PyData → Prop) (h : Φ (.bool true)) : eqP (.list []) (.list []) Φ := by
  refine ⟨by simp [PyData.depth, PyData.depthAll], ?_⟩
  rw [PyData.eqv, PyData.eqvAll]; exact h
theorem eqCons0 (x : PyData) (xs : List PyData) (Φ : PyData → Prop) (h : Φ (.bool false)) : eqP (.list (x :: xs)) (.list []) Φ := by
  refine ⟨by simp [PyData.depth, PyData.depthAll], ?_⟩
  rw [PyData.eqv, PyData.eqvAll]; exact h
def nearF (p : Int) : PyData → Option PyData
  | .int k => if (!decide (p = 0)) = true ∧ p.fmod k = 0 then some (.int k) else none
  | _ => none
def sd__law_edge : Sd := fun c as y Φ Ψ => as = [.dk] ∧ c < 2 ^ 30 ∧ ∀ (f : F) (c' : Nat), f.a.natAbs < 2 ^ 40 → f.b.natAbs < 2 ^ 40 → f.c.natAbs < 2 ^ 40 → c' ≤ c + 20 → Φ (fD f) c'
theorem ok__law_edge (Mx : Mo K mg) (C__law_any : Cl false P w K mg base 1 "_law_any" ["seed", "many"] sd__law_any) (C__law_one_of : Cl false P w K mg base 2 "_law_one_of" ["seed", "items"] sd__law_one_of) (C__law_whole_root : Cl false P w K mg base 1 "_law_whole_root" ["n"] sd__law_whole_root) : Cl false P w K mg base 3 "_law_edge" ["seed"] sd__law_edge := by
  obtain ⟨fd, hm, Fn0⟩ := Mx.fn 57 "_law_edge" (by decide +kernel)
  have hN : (["seed", "way", "a", "b", "form", "d", "root", "product", "near", "own", "sign", "k"] : List Str).Nodup := by decide +kernel
  have Sc0 : FnScope ["seed", "way", "a", "b", "form", "d", "root", "product", "near", "own", "sign", "k"] ["seed"] (defScope (top 57)) := ⟨rfl, rfl, rfl, hN, rfl, by decide +kernel, by decide +kernel⟩
  refine cl_mk Fn0 hm Sc0 (fun _ _ _ _ _ _ us hl => match us, hl with | [_], _ => rfl) (fun _ _ _ _ _ _ us hl => match us, hl with | [_], _ => rfl) fun cdv A outer s H E hr hG tk hp => ⟨_, (ss_cons (s_par3 (i := 1) (j := 2) (l := 3) rfl hN rfl rfl rfl (by decide) (by decide) (by decide) rfl rfl rfl (l_cons (e_callC C__law_any (by decide) hr nog (by rfl) tk (a_dk (pv 0) (a_cons e_int a_nil))) (l_cons (e_bin o_add e_int.r (e_callC C__law_any (by decide) hr nog (by rfl) tk (a_dk (pv 0) (a_cons e_int a_nil))).r) (l_cons (e_callC C__law_any (by decide) hr nog (by rfl) tk (a_dk (pv 0) (a_cons e_int a_nil))) l_nil))) rfl)
    (ss_cons (s_if (t_cmp (o_eqP (hu4 hr)) (r_own (pv 1)) e_int.r rfl) (ss_one (s_ret (e_callC C__law_one_of (by decide) hr nog (by rfl) tk (a_dk (pv 0) (a_cons (f_lst (l_cons (e_tup (l_cons (e_var (pv 2)) (l_cons (e_var (pv 2)) (l_cons (e_bin o_add (r_own (pv 2)) (r_own (pv 3))) l_nil)))) (l_cons (e_tup (l_cons (e_var (pv 2)) (l_cons (e_un o_neg (e_var (pv 2))) (l_cons (e_bin o_add (r_own (pv 2)) (r_own (pv 3))) l_nil)))) (l_cons (e_tup (l_cons (e_var (pv 2)) (l_cons (e_var (pv 3)) (l_cons (e_bin o_add (r_own (pv 2)) (r_own (pv 3))) l_nil)))) (l_cons (e_tup (l_cons (e_var (pv 2)) (l_cons (e_un o_neg (e_var (pv 3))) (l_cons (e_var (pv 2)) l_nil)))) (l_cons (e_tup (l_cons (e_var (pv 2)) (l_cons (e_var (pv 3)) (l_cons (e_var (pv 2)) l_nil)))) (l_cons (e_tup (l_cons (e_var (pv 2)) (l_cons (e_var (pv 2)) (l_cons (e_var (pv 2)) l_nil)))) (l_cons (e_tup (l_cons (e_var (pv 2)) (l_cons (e_un o_neg (e_var (pv 2))) (l_cons (e_var (pv 2)) l_nil)))) (l_cons (e_tup (l_cons (e_var (pv 2)) (l_cons (e_bin o_add (r_own (pv 2)) e_int.r) (l_cons (e_bin o_add (r_own (pv 2)) (r_own (pv 3))) l_nil)))) l_nil))))))))).e a_nil))))) ss_nil)
    (ss_cons (s_if (t_cmp (o_eqP (hu4 hr)) (r_own (pv 1)) e_int.r rfl) (ss_cons (s_set (i := 4) hN (by rfl) (by first | exact .inl rfl | exact .inr rfl) (e_tup (l_cons (e_var (pv 2)) (l_cons (e_bin o_sub (e_callC C__law_any (by decide) hr nog (by rfl) tk (a_dk (pv 0) (a_cons (e_bin o_add (e_bin o_mul e_int.r (r_own (pv 2))).r e_int.r) a_nil))).r (r_own (pv 2))) (l_cons (e_bin o_add (r_own (pv 2)) (r_own (pv 3))) l_nil)))))
    (ss_one (s_ret (e_tup (l_cons (e_un o_neg (e_ix (r_own (pv 4)) e_int)) (l_cons (e_un o_neg (e_ix (r_own (pv 4)) e_int)) (l_cons (e_un o_neg (e_ix (r_own (pv 4)) e_int)) l_nil))))))) ss_nil)
    (ss_cons (s_if (t_cmp (o_eqP (hu4 hr)) (r_own (pv 1)) e_int.r rfl) (ss_one (s_ret (e_callC C__law_one_of (by decide) hr nog (by rfl) tk (a_dk (pv 0) (a_cons (f_lst (l_cons (e_tup (l_cons e_int (l_cons (e_var (pv 2)) (l_cons e_int l_nil)))) (l_cons (e_tup (l_cons (e_bin o_sub (r_own (pv 2)) e_int.r) (l_cons (e_var (pv 2)) (l_cons e_int l_nil)))) (l_cons (e_tup (l_cons (e_var (pv 2)) (l_cons (e_var (pv 2)) (l_cons e_int l_nil)))) (l_cons (e_tup (l_cons (e_var (pv 2)) (l_cons (e_un o_neg (e_var (pv 2))) (l_cons e_int l_nil)))) (l_cons (e_tup (l_cons e_int (l_cons (e_un o_neg (e_var (pv 2))) (l_cons (e_var (pv 3)) l_nil)))) (l_cons (e_tup (l_cons (e_var (pv 3)) (l_cons (e_var (pv 2)) (l_cons e_int l_nil)))) (l_cons (e_tup (l_cons (e_un o_neg e_int) (l_cons (e_var (pv 2)) (l_cons e_int l_nil)))) (l_cons (e_tup (l_cons e_int (l_cons (e_var (pv 2)) (l_cons (e_var (pv 3)) l_nil)))) l_nil))))))))).e a_nil))))) ss_nil)
    (ss_cons (s_set (i := 5) hN (by rfl) (by first | exact .inl rfl | exact .inr rfl) (e_callC C__law_one_of (by decide) hr nog (by rfl) tk (a_dk (pv 0) (a_cons (f_lst (l_cons e_int (l_cons e_int (l_cons e_int (l_cons e_int (l_cons e_int (l_cons e_int (l_cons (e_bin o_add (e_bin o_mul e_int.r (e_bin o_add e_int.r (e_callC C__law_any (by decide) hr nog (by rfl) tk (a_dk (pv 0) (a_cons e_int a_nil))).r).r).r (e_callC C__law_one_of (by decide) hr nog (by rfl) tk (a_dk (pv 0) (a_cons (f_lst (l_cons e_int (l_cons e_int l_nil))).e a_nil))).r) l_nil)))))))).e a_nil))))
    (ss_cons (s_set (i := 6) hN (by rfl) (by first | exact .inl rfl | exact .inr rfl) (e_callC C__law_whole_root (by decide) hr nog (by rfl) tk (a_cons (e_var (pv 5)) a_nil)))
    (ss_cons (s_if (t_cmp (o_eqP (hu4 hr)) (e_bin o_mul (r_own (pv 6)) (r_own (pv 6))).r (r_own (pv 5)) rfl) (ss_one (s_ret (e_tup (l_cons e_int (l_cons e_int (l_cons (e_un o_neg e_int) l_nil)))))) ss_nil)
    (ss_cons (s_set (i := 3) hN (by rfl) (by first | exact .inl rfl | exact .inr rfl) (e_bin o_sub (r_own (pv 6)) (e_callC C__law_one_of (by decide) hr nog (by rfl) tk (a_dk (pv 0) (a_cons (f_lst (l_cons e_int (l_cons e_int (l_cons e_int (l_cons e_int (l_cons (e_var (pv 6)) (l_cons e_int l_nil))))))).e a_nil))).r))
    (ss_cons (s_set (i := 3) hN (by rfl) (by first | exact .inl rfl | exact .inr rfl) (e_if (t_cmp (o_eqP (hu4 hr)) (e_bin o_mod (e_callTy c_int (by rfl) (Mx.fr "int" (by decide +kernel)) b_int (l_cons (e_bin o_sub (r_own (pv 3)) (r_own (pv 5))) l_nil)).r e_int.r).r e_int.r rfl) (e_var (pv 3)) (e_bin o_sub (r_own (pv 3)) e_int.r)))
    (ss_cons (s_set (i := 7) hN (by rfl) (by first | exact .inl rfl | exact .inr rfl) (e_bin o_fdiv (e_bin o_sub (r_own (pv 5)) (e_bin o_mul (r_own (pv 3)) (r_own (pv 3))).r).r e_int.r))
    (ss_cons (s_comp (own := [("k", 11)]) (i := 8) rfl hN rfl rfl rfl (i_rg2 (by rfl) (Mx.fr "range" (by decide +kernel)) e_int e_int) (blkOk_by rfl) (by decide) (fun s' H' C' cl' fp' => (c_name (i := 11) hN (by rfl) (by first | exact .inl rfl | exact .inr rfl) (by first | exact .inl rfl | exact .inr rfl))) (fun s' H' C' cl' fp' => (if_one (w_and (t_cmp (o_neP (hu4 hr)) (r_own (pv 7)) e_int.r rfl) (w_and1 (t_cmp (o_eqP (hu4 hr)) (e_bin o_mod (e_callTy c_int (by rfl) (Mx.fr "int" (by decide +kernel)) b_int (l_cons (e_var (pv 7)) l_nil)).r (r_own (pv 11))).r e_int.r rfl))).t)) (fun s' H' C' cl' fp' => (e_var (pv 11))))
    (ss_cons (s_if (t_cmp (o_eqP (hu4 hr)) (r_own (pv 8)) (f_lst l_nil).e.r rfl) (ss_one (s_ret (e_tup (l_cons e_int (l_cons (e_bin o_mod (e_callTy c_int (by rfl) (Mx.fr "int" (by decide +kernel)) b_int (l_cons (e_var (pv 5)) l_nil)).r e_int.r) (l_cons (e_bin o_fdiv (e_bin o_sub (e_bin o_mod (e_callTy c_int (by rfl) (Mx.fr "int" (by decide +kernel)) b_int (l_cons (e_var (pv 5)) l_nil)).r e_int.r).r (r_own (pv 5))).r e_int.r) l_nil)))))) ss_nil)
    (ss_cons (s_set (i := 9) hN (by rfl) (by first | exact .inl rfl | exact .inr rfl) (e_callC C__law_one_of (by decide) hr nog (by rfl) tk (a_dk (pv 0) (a_cons (f_cat (r_own (pv 8)) (f_slL (r_own (pv 8)) (p_some (e_un o_neg e_int)) p_none).e.r).e a_nil))))
    (ss_cons (s_set (i := 10) hN (by rfl) (by first | exact .inl rfl | exact .inr rfl) (e_callC C__law_one_of (by decide) hr nog (by rfl) tk (a_dk (pv 0) (a_cons (f_lst (l_cons e_int (l_cons (e_un o_neg e_int) l_nil))).e a_nil))))
    (ss_one (s_ret (e_callC C__law_one_of (by decide) hr nog (by rfl) tk (a_dk (pv 0) (a_cons (f_lst (l_cons (e_tup (l_cons (e_bin o_mul (r_own (pv 10)) (r_own (pv 9))) (l_cons (e_var (pv 3)) (l_cons (e_bin o_mul (e_un o_neg (e_var (pv 10))).r (e_bin o_fdiv (r_own (pv 7)) (r_own (pv 9))).r) l_nil)))) (l_cons (e_tup (l_cons (e_bin o_mul (r_own (pv 10)) (e_bin o_fdiv (r_own (pv 7)) (r_own (pv 9))).r) (l_cons (e_var (pv 3)) (l_cons (e_bin o_mul (e_un o_neg (e_var (pv 10))).r (r_own (pv 9))) l_nil)))) (l_cons (e_tup (l_cons (e_bin o_mul (r_own (pv 10)) (r_own (pv 9))) (l_cons (e_un o_neg (e_var (pv 3))) (l_cons (e_bin o_mul (e_un o_neg (e_var (pv 10))).r (e_bin o_fdiv (r_own (pv 7)) (r_own (pv 9))).r) l_nil)))) l_nil)))).e a_nil))))))))))))))))))), fun c as y Φ Ψ hn hs => ?_⟩
  obtain ⟨rfl, h1, h⟩ := hs
  refine seq_hide fun U hU => ?_
  simp only [↓n_asg_if, BQ.n_rt, sSeq, sNext, sRet, sRetF, sRetO, sDrop, sSet, sOwn, sAsg, sPar, sPar3, sAug, sApp, sIf, dIf, dTest, dAnd, dOr, dNot, dAndV, dOrV, d1, d2, d2F, dVar, dOwn, dC, dF, dTup, dLst, dNil, dCons, dCB, dCB1, dCF1, dChain, dChain3, dCall, dCallF, dCallK, aNil, aCons, aDk, dGn, dGnil, dGcons, dGtup, dOdIx, dGsub, dIdxT, dIdxL, dSlT, dSlL, dPart, dNoPart, dIl, dIt, frz, opn, cls, catD, startR, arS, seqOf, n_add, n_addT, n_sub, n_mul, n_fdiv, n_mod, n_pow, n_shl, n_cmp, n_is, n_neg, n_not, n_ixL, n_ixT, n_lenL, n_lenT, n_abs, n_gcd, n_isqrt, n_int, n_tupL, n_tupT, at10, at1n, at20, at21, at2n, at30, at31, at32, at3n, fD, mD, wipeR, dYes, ix32, ix31, n_boolC, sz0, sz1, sz2, sz3, sz4, sz5, sz6, sz7, sz8, n_eqI, n_neI, n_eq3, n_ne3, n_isi_int, n_isi_bool, n_isi_tuple, List.map_cons, List.map_nil, List.length_cons, List.length_nil, List.replicate, List.set_cons_zero, List.set_cons_succ, List.getElem?_cons_zero, List.getElem?_cons_succ, List.filter_cons, List.filter_nil, Ar.isDk, List.all_cons, List.all_nil, no_dt, no_un, no_ow, no_dk, Bool.and_eq_true, Bool.true_and, Bool.and_true, Bool.false_eq_true, if_false, if_true, ite_true, ite_false, Option.some.injEq, exists_eq_left', true_and, and_true, List.cons_append, List.nil_append, Nat.sub_self, decide_eq_true_eq, Nat.reduceAdd, Nat.reduceSub, Nat.zero_add, Nat.le_refl, Nat.zero_le]
  refine ⟨6, rfl, by decide, by omega, fun w0 w1 w2 => ?_⟩
  simp only [↓n_asg_if, BQ.n_rt, sSeq, sNext, sRet, sRetF, sRetO, sDrop, sSet, sOwn, sAsg, sPar, sPar3, sAug, sApp, sIf, dIf, dTest, dAnd, dOr, dNot, dAndV, dOrV, d1, d2, d2F, dVar, dOwn, dC, dF, dTup, dLst, dNil, dCons, dCB, dCB1, dCF1, dChain, dChain3, dCall, dCallF, dCallK, aNil, aCons, aDk, dGn, dGnil, dGcons, dGtup, dOdIx, dGsub, dIdxT, dIdxL, dSlT, dSlL, dPart, dNoPart, dIl, dIt, frz, opn, cls, catD, startR, arS, seqOf, n_add, n_addT, n_sub, n_mul, n_fdiv, n_mod, n_pow, n_shl, n_cmp, n_is, n_neg, n_not, n_ixL, n_ixT, n_lenL, n_lenT, n_abs, n_gcd, n_isqrt, n_int, n_tupL, n_tupT, at10, at1n, at20, at21, at2n, at30, at31, at32, at3n, fD, mD, wipeR, dYes, ix32, ix31, n_boolC, sz0, sz1, sz2, sz3, sz4, sz5, sz6, sz7, sz8, n_eqI, n_neI, n_eq3, n_ne3, n_isi_int, n_isi_bool, n_isi_tuple, List.map_cons, List.map_nil, List.length_cons, List.length_nil, List.replicate, List.set_cons_zero, List.set_cons_succ, List.getElem?_cons_zero, List.getElem?_cons_succ, List.filter_cons, List.filter_nil, Ar.isDk, List.all_cons, List.all_nil, no_dt, no_un, no_ow, no_dk, Bool.and_eq_true, Bool.true_and, Bool.and_true, Bool.false_eq_true, if_false, if_true, ite_true, ite_false, Option.some.injEq, exists_eq_left', true_and, and_true, List.cons_append, List.nil_append, Nat.sub_self, decide_eq_true_eq, Nat.reduceAdd, Nat.reduceSub, Nat.zero_add, Nat.le_refl, Nat.zero_le]
  refine ⟨60, rfl, by decide, by omega, fun a0 a1 a2 => ?_⟩
  simp only [↓n_asg_if, BQ.n_rt, sSeq, sNext, sRet, sRetF, sRetO, sDrop, sSet, sOwn, sAsg, sPar, sPar3, sAug, sApp, sIf, dIf, dTest, dAnd, dOr, dNot, dAndV, dOrV, d1, d2, d2F, dVar, dOwn, dC, dF, dTup, dLst, dNil, dCons, dCB, dCB1, dCF1, dChain, dChain3, dCall, dCallF, dCallK, aNil, aCons, aDk, dGn, dGnil, dGcons, dGtup, dOdIx, dGsub, dIdxT, dIdxL, dSlT, dSlL, dPart, dNoPart, dIl, dIt, frz, opn, cls, catD, startR, arS, seqOf, n_add, n_addT, n_sub, n_mul, n_fdiv, n_mod, n_pow, n_shl, n_cmp, n_is, n_neg, n_not, n_ixL, n_ixT, n_lenL, n_lenT, n_abs, n_gcd, n_isqrt, n_int, n_tupL, n_tupT, at10, at1n, at20, at21, at2n, at30, at31, at32, at3n, fD, mD, wipeR, dYes, ix32, ix31, n_boolC, sz0, sz1, sz2, sz3, sz4, sz5, sz6, sz7, sz8, n_eqI, n_neI, n_eq3, n_ne3, n_isi_int, n_isi_bool, n_isi_tuple, List.map_cons, List.map_nil, List.length_cons, List.length_nil, List.replicate, List.set_cons_zero, List.set_cons_succ, List.getElem?_cons_zero, List.getElem?_cons_succ, List.filter_cons, List.filter_nil, Ar.isDk, List.all_cons, List.all_nil, no_dt, no_un, no_ow, no_dk, Bool.and_eq_true, Bool.true_and, Bool.and_true, Bool.false_eq_true, if_false, if_true, ite_true, ite_false, Option.some.injEq, exists_eq_left', true_and, and_true, List.cons_append, List.nil_append, Nat.sub_self, decide_eq_true_eq, Nat.reduceAdd, Nat.reduceSub, Nat.zero_add, Nat.le_refl, Nat.zero_le]
  refine ⟨60, rfl, by decide, by omega, fun b b1 b2 => ?_⟩
  simp only [↓n_asg_if, BQ.n_rt, sSeq, sNext, sRet, sRetF, sRetO, sDrop, sSet, sOwn, sAsg, sPar, sPar3, sAug, sApp, sIf, dIf, dTest, dAnd, dOr, dNot, dAndV, dOrV, d1, d2, d2F, dVar, dOwn, dC, dF, dTup, dLst, dNil, dCons, dCB, dCB1, dCF1, dChain, dChain3, dCall, dCallF, dCallK, aNil, aCons, aDk, dGn, dGnil, dGcons, dGtup, dOdIx, dGsub, dIdxT, dIdxL, dSlT, dSlL, dPart, dNoPart, dIl, dIt, frz, opn, cls, catD, startR, arS, seqOf, n_add, n_addT, n_sub, n_mul, n_fdiv, n_mod, n_pow, n_shl, n_cmp, n_is, n_neg, n_not, n_ixL, n_ixT, n_lenL, n_lenT, n_abs, n_gcd, n_isqrt, n_int, n_tupL, n_tupT, at10, at1n, at20, at21, at2n, at30, at31, at32, at3n, fD, mD, wipeR, dYes, ix32, ix31, n_boolC, sz0, sz1, sz2, sz3, sz4, sz5, sz6, sz7, sz8, n_eqI, n_neI, n_eq3, n_ne3, n_isi_int, n_isi_bool, n_isi_tuple, List.map_cons, List.map_nil, List.length_cons, List.length_nil, List.replicate, List.set_cons_zero, List.set_cons_succ, List.getElem?_cons_zero, List.getElem?_cons_succ, List.filter_cons, List.filter_nil, Ar.isDk, List.all_cons, List.all_nil, no_dt, no_un, no_ow, no_dk, Bool.and_eq_true, Bool.true_and, Bool.and_true, Bool.false_eq_true, if_false, if_true, ite_true, ite_false, Option.some.injEq, exists_eq_left', true_and, and_true, List.cons_append, List.nil_append, Nat.sub_self, decide_eq_true_eq, Nat.reduceAdd, Nat.reduceSub, Nat.zero_add, Nat.le_refl, Nat.zero_le]
  subst hU
  refine seq_hide fun U hU => ?_
  simp only [↓n_asg_if, BQ.n_rt, sSeq, sNext, sRet, sRetF, sRetO, sDrop, sSet, sOwn, sAsg, sPar, sPar3, sAug, sApp, sIf, dIf, dTest, dAnd, dOr, dNot, dAndV, dOrV, d1, d2, d2F, dVar, dOwn, dC, dF, dTup, dLst, dNil, dCons, dCB, dCB1, dCF1, dChain, dChain3, dCall, dCallF, dCallK, aNil, aCons, aDk, dGn, dGnil, dGcons, dGtup, dOdIx, dGsub, dIdxT, dIdxL, dSlT, dSlL, dPart, dNoPart, dIl, dIt, frz, opn, cls, catD, startR, arS, seqOf, n_add, n_addT, n_sub, n_mul, n_fdiv, n_mod, n_pow, n_shl, n_cmp, n_is, n_neg, n_not, n_ixL, n_ixT, n_lenL, n_lenT, n_abs, n_gcd, n_isqrt, n_int, n_tupL, n_tupT, at10, at1n, at20, at21, at2n, at30, at31, at32, at3n, fD, mD, wipeR, dYes, ix32, ix31, n_boolC, sz0, sz1, sz2, sz3, sz4, sz5, sz6, sz7, sz8, n_eqI, n_neI, n_eq3, n_ne3, n_isi_int, n_isi_bool, n_isi_tuple, List.map_cons, List.map_nil, List.length_cons, List.length_nil, List.replicate, List.set_cons_zero, List.set_cons_succ, List.getElem?_cons_zero, List.getElem?_cons_succ, List.filter_cons, List.filter_nil, Ar.isDk, List.all_cons, List.all_nil, no_dt, no_un, no_ow, no_dk, Bool.and_eq_true, Bool.true_and, Bool.and_true, Bool.false_eq_true, if_false, if_true, ite_true, ite_false, Option.some.injEq, exists_eq_left', true_and, and_true, List.cons_append, List.nil_append, Nat.sub_self, decide_eq_true_eq, Nat.reduceAdd, Nat.reduceSub, Nat.zero_add, Nat.le_refl, Nat.zero_le]
  by_cases z0 : w0 = 0
  · rw [if_pos z0]
    refine ⟨_, rfl, by simp, by show 8 ≤ sizeLine; decide, by omega, fun d hd => ?_⟩
    simp only [List.mem_cons, List.not_mem_nil, or_false] at hd
    rcases hd with rfl | rfl | rfl | rfl | rfl | rfl | rfl | rfl
    all_goals exact h ⟨_, _, _⟩ _ (by simp only []; omega) (by simp only []; omega) (by simp only []; omega) (by omega)
  rw [if_neg z0]
  subst hU
  refine seq_hide fun U hU => ?_
  simp only [↓n_asg_if, BQ.n_rt, sSeq, sNext, sRet, sRetF, sRetO, sDrop, sSet, sOwn, sAsg, sPar, sPar3, sAug, sApp, sIf, dIf, dTest, dAnd, dOr, dNot, dAndV, dOrV, d1, d2, d2F, dVar, dOwn, dC, dF, dTup, dLst, dNil, dCons, dCB, dCB1, dCF1, dChain, dChain3, dCall, dCallF, dCallK, aNil, aCons, aDk, dGn, dGnil, dGcons, dGtup, dOdIx, dGsub, dIdxT, dIdxL, dSlT, dSlL, dPart, dNoPart, dIl, dIt, frz, opn, cls, catD, startR, arS, seqOf, n_add, n_addT, n_sub, n_mul, n_fdiv, n_mod, n_pow, n_shl, n_cmp, n_is, n_neg, n_not, n_ixL, n_ixT, n_lenL, n_lenT, n_abs, n_gcd, n_isqrt, n_int, n_tupL, n_tupT, at10, at1n, at20, at21, at2n, at30, at31, at32, at3n, fD, mD, wipeR, dYes, ix32, ix31, n_boolC, sz0, sz1, sz2, sz3, sz4, sz5, sz6, sz7, sz8, n_eqI, n_neI, n_eq3, n_ne3, n_isi_int, n_isi_bool, n_isi_tuple, List.map_cons, List.map_nil, List.length_cons, List.length_nil, List.replicate, List.set_cons_zero, List.set_cons_succ, List.getElem?_cons_zero, List.getElem?_cons_succ, List.filter_cons, List.filter_nil, Ar.isDk, List.all_cons, List.all_nil, no_dt, no_un, no_ow, no_dk, Bool.and_eq_true, Bool.true_and, Bool.and_true, Bool.false_eq_true, if_false, if_true, ite_true, ite_false, Option.some.injEq, exists_eq_left', true_and, and_true, List.cons_append, List.nil_append, Nat.sub_self, decide_eq_true_eq, Nat.reduceAdd, Nat.reduceSub, Nat.zero_add, Nat.le_refl, Nat.zero_le]
  by_cases z1 : w0 = 1
  · rw [if_pos z1]
    refine ⟨.of_left (by decide), 2 * (1 + a0) + 1, rfl, by omega, by omega, fun q q1 q2 => ?_⟩
    simp only [↓n_asg_if, BQ.n_rt, sSeq, sNext, sRet, sRetF, sRetO, sDrop, sSet, sOwn, sAsg, sPar, sPar3, sAug, sApp, sIf, dIf, dTest, dAnd, dOr, dNot, dAndV, dOrV, d1, d2, d2F, dVar, dOwn, dC, dF, dTup, dLst, dNil, dCons, dCB, dCB1, dCF1, dChain, dChain3, dCall, dCallF, dCallK, aNil, aCons, aDk, dGn, dGnil, dGcons, dGtup, dOdIx, dGsub, dIdxT, dIdxL, dSlT, dSlL, dPart, dNoPart, dIl, dIt, frz, opn, cls, catD, startR, arS, seqOf, n_add, n_addT, n_sub, n_mul, n_fdiv, n_mod, n_pow, n_shl, n_cmp, n_is, n_neg, n_not, n_ixL, n_ixT, n_lenL, n_lenT, n_abs, n_gcd, n_isqrt, n_int, n_tupL, n_tupT, at10, at1n, at20, at21, at2n, at30, at31, at32, at3n, fD, mD, wipeR, dYes, ix32, ix31, n_boolC, sz0, sz1, sz2, sz3, sz4, sz5, sz6, sz7, sz8, n_eqI, n_neI, n_eq3, n_ne3, n_isi_int, n_isi_bool, n_isi_tuple, List.map_cons, List.map_nil, List.length_cons, List.length_nil, List.replicate, List.set_cons_zero, List.set_cons_succ, List.getElem?_cons_zero, List.getElem?_cons_succ, List.filter_cons, List.filter_nil, Ar.isDk, List.all_cons, List.all_nil, no_dt, no_un, no_ow, no_dk, Bool.and_eq_true, Bool.true_and, Bool.and_true, Bool.false_eq_true, if_false, if_true, ite_true, ite_false, Option.some.injEq, exists_eq_left', true_and, and_true, List.cons_append, List.nil_append, Nat.sub_self, decide_eq_true_eq, Nat.reduceAdd, Nat.reduceSub, Nat.zero_add, Nat.le_refl, Nat.zero_le]
    exact h ⟨_, _, _⟩ _ (by simp only []; omega) (by simp only []; omega) (by simp only []; omega) (by omega)
  rw [if_neg z1]
  subst hU
  refine seq_hide fun U hU => ?_
  simp only [↓n_asg_if, BQ.n_rt, sSeq, sNext, sRet, sRetF, sRetO, sDrop, sSet, sOwn, sAsg, sPar, sPar3, sAug, sApp, sIf, dIf, dTest, dAnd, dOr, dNot, dAndV, dOrV, d1, d2, d2F, dVar, dOwn, dC, dF, dTup, dLst, dNil, dCons, dCB, dCB1, dCF1, dChain, dChain3, dCall, dCallF, dCallK, aNil, aCons, aDk, dGn, dGnil, dGcons, dGtup, dOdIx, dGsub, dIdxT, dIdxL, dSlT, dSlL, dPart, dNoPart, dIl, dIt, frz, opn, cls, catD, startR, arS, seqOf, n_add, n_addT, n_sub, n_mul, n_fdiv, n_mod, n_pow, n_shl, n_cmp, n_is, n_neg, n_not, n_ixL, n_ixT, n_lenL, n_lenT, n_abs, n_gcd, n_isqrt, n_int, n_tupL, n_tupT, at10, at1n, at20, at21, at2n, at30, at31, at32, at3n, fD, mD, wipeR, dYes, ix32, ix31, n_boolC, sz0, sz1, sz2, sz3, sz4, sz5, sz6, sz7, sz8, n_eqI, n_neI, n_eq3, n_ne3, n_isi_int, n_isi_bool, n_isi_tuple, List.map_cons, List.map_nil, List.length_cons, List.length_nil, List.replicate, List.set_cons_zero, List.set_cons_succ, List.getElem?_cons_zero, List.getElem?_cons_succ, List.filter_cons, List.filter_nil, Ar.isDk, List.all_cons, List.all_nil, no_dt, no_un, no_ow, no_dk, Bool.and_eq_true, Bool.true_and, Bool.and_true, Bool.false_eq_true, if_false, if_true, ite_true, ite_false, Option.some.injEq, exists_eq_left', true_and, and_true, List.cons_append, List.nil_append, Nat.sub_self, decide_eq_true_eq, Nat.reduceAdd, Nat.reduceSub, Nat.zero_add, Nat.le_refl, Nat.zero_le]
  by_cases z2 : w0 = 2
  · rw [if_pos z2]
    refine ⟨_, rfl, by simp, by show 8 ≤ sizeLine; decide, by omega, fun d hd => ?_⟩
    simp only [List.mem_cons, List.not_mem_nil, or_false] at hd
    rcases hd with rfl | rfl | rfl | rfl | rfl | rfl | rfl | rfl
    all_goals exact h ⟨_, _, _⟩ _ (by simp only []; omega) (by simp only []; omega) (by simp only []; omega) (by omega)
  rw [if_neg z2]
  subst hU
  refine seq_hide fun U hU => ?_
  simp only [↓n_asg_if, BQ.n_rt, sSeq, sNext, sRet, sRetF, sRetO, sDrop, sSet, sOwn, sAsg, sPar, sPar3, sAug, sApp, sIf, dIf, dTest, dAnd, dOr, dNot, dAndV, dOrV, d1, d2, d2F, dVar, dOwn, dC, dF, dTup, dLst, dNil, dCons, dCB, dCB1, dCF1, dChain, dChain3, dCall, dCallF, dCallK, aNil, aCons, aDk, dGn, dGnil, dGcons, dGtup, dOdIx, dGsub, dIdxT, dIdxL, dSlT, dSlL, dPart, dNoPart, dIl, dIt, frz, opn, cls, catD, startR, arS, seqOf, n_add, n_addT, n_sub, n_mul, n_fdiv, n_mod, n_pow, n_shl, n_cmp, n_is, n_neg, n_not, n_ixL, n_ixT, n_lenL, n_lenT, n_abs, n_gcd, n_isqrt, n_int, n_tupL, n_tupT, at10, at1n, at20, at21, at2n, at30, at31, at32, at3n, fD, mD, wipeR, dYes, ix32, ix31, n_boolC, sz0, sz1, sz2, sz3, sz4, sz5, sz6, sz7, sz8, n_eqI, n_neI, n_eq3, n_ne3, n_isi_int, n_isi_bool, n_isi_tuple, List.map_cons, List.map_nil, List.length_cons, List.length_nil, List.replicate, List.set_cons_zero, List.set_cons_succ, List.getElem?_cons_zero, List.getElem?_cons_succ, List.filter_cons, List.filter_nil, Ar.isDk, List.all_cons, List.all_nil, no_dt, no_un, no_ow, no_dk, Bool.and_eq_true, Bool.true_and, Bool.and_true, Bool.false_eq_true, if_false, if_true, ite_true, ite_false, Option.some.injEq, exists_eq_left', true_and, and_true, List.cons_append, List.nil_append, Nat.sub_self, decide_eq_true_eq, Nat.reduceAdd, Nat.reduceSub, Nat.zero_add, Nat.le_refl, Nat.zero_le]
  refine ⟨2000000, rfl, by decide, by omega, fun q q1 q2 => ?_⟩
  simp only [↓n_asg_if, BQ.n_rt, sSeq, sNext, sRet, sRetF, sRetO, sDrop, sSet, sOwn, sAsg, sPar, sPar3, sAug, sApp, sIf, dIf, dTest, dAnd, dOr, dNot, dAndV, dOrV, d1, d2, d2F, dVar, dOwn, dC, dF, dTup, dLst, dNil, dCons, dCB, dCB1, dCF1, dChain, dChain3, dCall, dCallF, dCallK, aNil, aCons, aDk, dGn, dGnil, dGcons, dGtup, dOdIx, dGsub, dIdxT, dIdxL, dSlT, dSlL, dPart, dNoPart, dIl, dIt, frz, opn, cls, catD, startR, arS, seqOf, n_add, n_addT, n_sub, n_mul, n_fdiv, n_mod, n_pow, n_shl, n_cmp, n_is, n_neg, n_not, n_ixL, n_ixT, n_lenL, n_lenT, n_abs, n_gcd, n_isqrt, n_int, n_tupL, n_tupT, at10, at1n, at20, at21, at2n, at30, at31, at32, at3n, fD, mD, wipeR, dYes, ix32, ix31, n_boolC, sz0, sz1, sz2, sz3, sz4, sz5, sz6, sz7, sz8, n_eqI, n_neI, n_eq3, n_ne3, n_isi_int, n_isi_bool, n_isi_tuple, List.map_cons, List.map_nil, List.length_cons, List.length_nil, List.replicate, List.set_cons_zero, List.set_cons_succ, List.getElem?_cons_zero, List.getElem?_cons_succ, List.filter_cons, List.filter_nil, Ar.isDk, List.all_cons, List.all_nil, no_dt, no_un, no_ow, no_dk, Bool.and_eq_true, Bool.true_and, Bool.and_true, Bool.false_eq_true, if_false, if_true, ite_true, ite_false, Option.some.injEq, exists_eq_left', true_and, and_true, List.cons_append, List.nil_append, Nat.sub_self, decide_eq_true_eq, Nat.reduceAdd, Nat.reduceSub, Nat.zero_add, Nat.le_refl, Nat.zero_le]
  refine ⟨.of_left (by decide), _, rfl, by simp, by show 2 ≤ sizeLine; decide, by omega, fun e he => ?_⟩
  obtain ⟨e, rfl, e1, e2⟩ : ∃ i : Int, e = .int i ∧ 0 ≤ i ∧ i ≤ 1 := by
    simp only [List.mem_cons, List.not_mem_nil, or_false] at he
    rcases he with rfl | rfl
    · exact ⟨0, rfl, by decide, by decide⟩
    · exact ⟨1, rfl, by decide, by decide⟩
  simp only [↓n_asg_if, BQ.n_rt, sSeq, sNext, sRet, sRetF, sRetO, sDrop, sSet, sOwn, sAsg, sPar, sPar3, sAug, sApp, sIf, dIf, dTest, dAnd, dOr, dNot, dAndV, dOrV, d1, d2, d2F, dVar, dOwn, dC, dF, dTup, dLst, dNil, dCons, dCB, dCB1, dCF1, dChain, dChain3, dCall, dCallF, dCallK, aNil, aCons, aDk, dGn, dGnil, dGcons, dGtup, dOdIx, dGsub, dIdxT, dIdxL, dSlT, dSlL, dPart, dNoPart, dIl, dIt, frz, opn, cls, catD, startR, arS, seqOf, n_add, n_addT, n_sub, n_mul, n_fdiv, n_mod, n_pow, n_shl, n_cmp, n_is, n_neg, n_not, n_ixL, n_ixT, n_lenL, n_lenT, n_abs, n_gcd, n_isqrt, n_int, n_tupL, n_tupT, at10, at1n, at20, at21, at2n, at30, at31, at32, at3n, fD, mD, wipeR, dYes, ix32, ix31, n_boolC, sz0, sz1, sz2, sz3, sz4, sz5, sz6, sz7, sz8, n_eqI, n_neI, n_eq3, n_ne3, n_isi_int, n_isi_bool, n_isi_tuple, List.map_cons, List.map_nil, List.length_cons, List.length_nil, List.replicate, List.set_cons_zero, List.set_cons_succ, List.getElem?_cons_zero, List.getElem?_cons_succ, List.filter_cons, List.filter_nil, Ar.isDk, List.all_cons, List.all_nil, no_dt, no_un, no_ow, no_dk, Bool.and_eq_true, Bool.true_and, Bool.and_true, Bool.false_eq_true, if_false, if_true, ite_true, ite_false, Option.some.injEq, exists_eq_left', true_and, and_true, List.cons_append, List.nil_append, Nat.sub_self, decide_eq_true_eq, Nat.reduceAdd, Nat.reduceSub, Nat.zero_add, Nat.le_refl, Nat.zero_le]
  refine ⟨_, rfl, by simp, by show 7 ≤ sizeLine; decide, by omega, fun d hd => ?_⟩
  obtain ⟨D, rfl, D1, D2⟩ : ∃ i : Int, d = .int i ∧ 5 ≤ i ∧ i ≤ 10000000 := by
    simp only [List.mem_cons, List.not_mem_nil, or_false] at hd
    rcases hd with rfl | rfl | rfl | rfl | rfl | rfl | rfl
    all_goals exact ⟨_, rfl, by omega, by omega⟩
  subst hU
  refine seq_hide fun U hU => ?_
  simp only [↓n_asg_if, BQ.n_rt, sSeq, sNext, sRet, sRetF, sRetO, sDrop, sSet, sOwn, sAsg, sPar, sPar3, sAug, sApp, sIf, dIf, dTest, dAnd, dOr, dNot, dAndV, dOrV, d1, d2, d2F, dVar, dOwn, dC, dF, dTup, dLst, dNil, dCons, dCB, dCB1, dCF1, dChain, dChain3, dCall, dCallF, dCallK, aNil, aCons, aDk, dGn, dGnil, dGcons, dGtup, dOdIx, dGsub, dIdxT, dIdxL, dSlT, dSlL, dPart, dNoPart, dIl, dIt, frz, opn, cls, catD, startR, arS, seqOf, n_add, n_addT, n_sub, n_mul, n_fdiv, n_mod, n_pow, n_shl, n_cmp, n_is, n_neg, n_not, n_ixL, n_ixT, n_lenL, n_lenT, n_abs, n_gcd, n_isqrt, n_int, n_tupL, n_tupT, at10, at1n, at20, at21, at2n, at30, at31, at32, at3n, fD, mD, wipeR, dYes, ix32, ix31, n_boolC, sz0, sz1, sz2, sz3, sz4, sz5, sz6, sz7, sz8, n_eqI, n_neI, n_eq3, n_ne3, n_isi_int, n_isi_bool, n_isi_tuple, List.map_cons, List.map_nil, List.length_cons, List.length_nil, List.replicate, List.set_cons_zero, List.set_cons_succ, List.getElem?_cons_zero, List.getElem?_cons_succ, List.filter_cons, List.filter_nil, Ar.isDk, List.all_cons, List.all_nil, no_dt, no_un, no_ow, no_dk, Bool.and_eq_true, Bool.true_and, Bool.and_true, Bool.false_eq_true, if_false, if_true, ite_true, ite_false, Option.some.injEq, exists_eq_left', true_and, and_true, List.cons_append, List.nil_append, Nat.sub_self, decide_eq_true_eq, Nat.reduceAdd, Nat.reduceSub, Nat.zero_add, Nat.le_refl, Nat.zero_le]
  refine ⟨D, rfl, by omega, by omega, ?_⟩
  simp only [↓n_asg_if, BQ.n_rt, sSeq, sNext, sRet, sRetF, sRetO, sDrop, sSet, sOwn, sAsg, sPar, sPar3, sAug, sApp, sIf, dIf, dTest, dAnd, dOr, dNot, dAndV, dOrV, d1, d2, d2F, dVar, dOwn, dC, dF, dTup, dLst, dNil, dCons, dCB, dCB1, dCF1, dChain, dChain3, dCall, dCallF, dCallK, aNil, aCons, aDk, dGn, dGnil, dGcons, dGtup, dOdIx, dGsub, dIdxT, dIdxL, dSlT, dSlL, dPart, dNoPart, dIl, dIt, frz, opn, cls, catD, startR, arS, seqOf, n_add, n_addT, n_sub, n_mul, n_fdiv, n_mod, n_pow, n_shl, n_cmp, n_is, n_neg, n_not, n_ixL, n_ixT, n_lenL, n_lenT, n_abs, n_gcd, n_isqrt, n_int, n_tupL, n_tupT, at10, at1n, at20, at21, at2n, at30, at31, at32, at3n, fD, mD, wipeR, dYes, ix32, ix31, n_boolC, sz0, sz1, sz2, sz3, sz4, sz5, sz6, sz7, sz8, n_eqI, n_neI, n_eq3, n_ne3, n_isi_int, n_isi_bool, n_isi_tuple, List.map_cons, List.map_nil, List.length_cons, List.length_nil, List.replicate, List.set_cons_zero, List.set_cons_succ, List.getElem?_cons_zero, List.getElem?_cons_succ, List.filter_cons, List.filter_nil, Ar.isDk, List.all_cons, List.all_nil, no_dt, no_un, no_ow, no_dk, Bool.and_eq_true, Bool.true_and, Bool.and_true, Bool.false_eq_true, if_false, if_true, ite_true, ite_false, Option.some.injEq, exists_eq_left', true_and, and_true, List.cons_append, List.nil_append, Nat.sub_self, decide_eq_true_eq, Nat.reduceAdd, Nat.reduceSub, Nat.zero_add, Nat.le_refl, Nat.zero_le]
  subst hU
  obtain ⟨r0, r1, r2⟩ := rt_ok (D := D) (by omega)
  have r3 : rt D < 3163 := sqlt (by decide) (by omega)
  generalize rt D = r at *
  refine seq_hide fun U hU => ?_
  simp only [↓n_asg_if, BQ.n_rt, sSeq, sNext, sRet, sRetF, sRetO, sDrop, sSet, sOwn, sAsg, sPar, sPar3, sAug, sApp, sIf, dIf, dTest, dAnd, dOr, dNot, dAndV, dOrV, d1, d2, d2F, dVar, dOwn, dC, dF, dTup, dLst, dNil, dCons, dCB, dCB1, dCF1, dChain, dChain3, dCall, dCallF, dCallK, aNil, aCons, aDk, dGn, dGnil, dGcons, dGtup, dOdIx, dGsub, dIdxT, dIdxL, dSlT, dSlL, dPart, dNoPart, dIl, dIt, frz, opn, cls, catD, startR, arS, seqOf, n_add, n_addT, n_sub, n_mul, n_fdiv, n_mod, n_pow, n_shl, n_cmp, n_is, n_neg, n_not, n_ixL, n_ixT, n_lenL, n_lenT, n_abs, n_gcd, n_isqrt, n_int, n_tupL, n_tupT, at10, at1n, at20, at21, at2n, at30, at31, at32, at3n, fD, mD, wipeR, dYes, ix32, ix31, n_boolC, sz0, sz1, sz2, sz3, sz4, sz5, sz6, sz7, sz8, n_eqI, n_neI, n_eq3, n_ne3, n_isi_int, n_isi_bool, n_isi_tuple, List.map_cons, List.map_nil, List.length_cons, List.length_nil, List.replicate, List.set_cons_zero, List.set_cons_succ, List.getElem?_cons_zero, List.getElem?_cons_succ, List.filter_cons, List.filter_nil, Ar.isDk, List.all_cons, List.all_nil, no_dt, no_un, no_ow, no_dk, Bool.and_eq_true, Bool.true_and, Bool.and_true, Bool.false_eq_true, if_false, if_true, ite_true, ite_false, Option.some.injEq, exists_eq_left', true_and, and_true, List.cons_append, List.nil_append, Nat.sub_self, decide_eq_true_eq, Nat.reduceAdd, Nat.reduceSub, Nat.zero_add, Nat.le_refl, Nat.zero_le]
  refine ⟨mL (by omega) (by omega), ?_⟩
  by_cases sq : r * r = D
  · rw [if_pos sq]
    exact h ⟨1, 1, -1⟩ _ (by decide) (by decide) (by decide) (by omega)
  rw [if_neg sq]
  subst hU
  refine seq_hide fun U hU => ?_
  simp only [↓n_asg_if, BQ.n_rt, sSeq, sNext, sRet, sRetF, sRetO, sDrop, sSet, sOwn, sAsg, sPar, sPar3, sAug, sApp, sIf, dIf, dTest, dAnd, dOr, dNot, dAndV, dOrV, d1, d2, d2F, dVar, dOwn, dC, dF, dTup, dLst, dNil, dCons, dCB, dCB1, dCF1, dChain, dChain3, dCall, dCallF, dCallK, aNil, aCons, aDk, dGn, dGnil, dGcons, dGtup, dOdIx, dGsub, dIdxT, dIdxL, dSlT, dSlL, dPart, dNoPart, dIl, dIt, frz, opn, cls, catD, startR, arS, seqOf, n_add, n_addT, n_sub, n_mul, n_fdiv, n_mod, n_pow, n_shl, n_cmp, n_is, n_neg, n_not, n_ixL, n_ixT, n_lenL, n_lenT, n_abs, n_gcd, n_isqrt, n_int, n_tupL, n_tupT, at10, at1n, at20, at21, at2n, at30, at31, at32, at3n, fD, mD, wipeR, dYes, ix32, ix31, n_boolC, sz0, sz1, sz2, sz3, sz4, sz5, sz6, sz7, sz8, n_eqI, n_neI, n_eq3, n_ne3, n_isi_int, n_isi_bool, n_isi_tuple, List.map_cons, List.map_nil, List.length_cons, List.length_nil, List.replicate, List.set_cons_zero, List.set_cons_succ, List.getElem?_cons_zero, List.getElem?_cons_succ, List.filter_cons, List.filter_nil, Ar.isDk, List.all_cons, List.all_nil, no_dt, no_un, no_ow, no_dk, Bool.and_eq_true, Bool.true_and, Bool.and_true, Bool.false_eq_true, if_false, if_true, ite_true, ite_false, Option.some.injEq, exists_eq_left', true_and, and_true, List.cons_append, List.nil_append, Nat.sub_self, decide_eq_true_eq, Nat.reduceAdd, Nat.reduceSub, Nat.zero_add, Nat.le_refl, Nat.zero_le]
  refine ⟨_, rfl, by simp, by show 6 ≤ sizeLine; decide, by omega, fun d hd => ?_⟩
  obtain ⟨e0, rfl, e3, e4⟩ : ∃ i : Int, d = .int i ∧ 0 ≤ i ∧ i ≤ 3163 := by
    simp only [List.mem_cons, List.not_mem_nil, or_false] at hd
    rcases hd with rfl | rfl | rfl | rfl | rfl | rfl
    all_goals exact ⟨_, rfl, by omega, by omega⟩
  simp only [↓n_asg_if, BQ.n_rt, sSeq, sNext, sRet, sRetF, sRetO, sDrop, sSet, sOwn, sAsg, sPar, sPar3, sAug, sApp, sIf, dIf, dTest, dAnd, dOr, dNot, dAndV, dOrV, d1, d2, d2F, dVar, dOwn, dC, dF, dTup, dLst, dNil, dCons, dCB, dCB1, dCF1, dChain, dChain3, dCall, dCallF, dCallK, aNil, aCons, aDk, dGn, dGnil, dGcons, dGtup, dOdIx, dGsub, dIdxT, dIdxL, dSlT, dSlL, dPart, dNoPart, dIl, dIt, frz, opn, cls, catD, startR, arS, seqOf, n_add, n_addT, n_sub, n_mul, n_fdiv, n_mod, n_pow, n_shl, n_cmp, n_is, n_neg, n_not, n_ixL, n_ixT, n_lenL, n_lenT, n_abs, n_gcd, n_isqrt, n_int, n_tupL, n_tupT, at10, at1n, at20, at21, at2n, at30, at31, at32, at3n, fD, mD, wipeR, dYes, ix32, ix31, n_boolC, sz0, sz1, sz2, sz3, sz4, sz5, sz6, sz7, sz8, n_eqI, n_neI, n_eq3, n_ne3, n_isi_int, n_isi_bool, n_isi_tuple, List.map_cons, List.map_nil, List.length_cons, List.length_nil, List.replicate, List.set_cons_zero, List.set_cons_succ, List.getElem?_cons_zero, List.getElem?_cons_succ, List.filter_cons, List.filter_nil, Ar.isDk, List.all_cons, List.all_nil, no_dt, no_un, no_ow, no_dk, Bool.and_eq_true, Bool.true_and, Bool.and_true, Bool.false_eq_true, if_false, if_true, ite_true, ite_false, Option.some.injEq, exists_eq_left', true_and, and_true, List.cons_append, List.nil_append, Nat.sub_self, decide_eq_true_eq, Nat.reduceAdd, Nat.reduceSub, Nat.zero_add, Nat.le_refl, Nat.zero_le]
  subst hU
  refine seq_hide fun U hU => ?_
  simp only [↓n_asg_if, BQ.n_rt, sSeq, sNext, sRet, sRetF, sRetO, sDrop, sSet, sOwn, sAsg, sPar, sPar3, sAug, sApp, sIf, dIf, dTest, dAnd, dOr, dNot, dAndV, dOrV, d1, d2, d2F, dVar, dOwn, dC, dF, dTup, dLst, dNil, dCons, dCB, dCB1, dCF1, dChain, dChain3, dCall, dCallF, dCallK, aNil, aCons, aDk, dGn, dGnil, dGcons, dGtup, dOdIx, dGsub, dIdxT, dIdxL, dSlT, dSlL, dPart, dNoPart, dIl, dIt, frz, opn, cls, catD, startR, arS, seqOf, n_add, n_addT, n_sub, n_mul, n_fdiv, n_mod, n_pow, n_shl, n_cmp, n_is, n_neg, n_not, n_ixL, n_ixT, n_lenL, n_lenT, n_abs, n_gcd, n_isqrt, n_int, n_tupL, n_tupT, at10, at1n, at20, at21, at2n, at30, at31, at32, at3n, fD, mD, wipeR, dYes, ix32, ix31, n_boolC, sz0, sz1, sz2, sz3, sz4, sz5, sz6, sz7, sz8, n_eqI, n_neI, n_eq3, n_ne3, n_isi_int, n_isi_bool, n_isi_tuple, List.map_cons, List.map_nil, List.length_cons, List.length_nil, List.replicate, List.set_cons_zero, List.set_cons_succ, List.getElem?_cons_zero, List.getElem?_cons_succ, List.filter_cons, List.filter_nil, Ar.isDk, List.all_cons, List.all_nil, no_dt, no_un, no_ow, no_dk, Bool.and_eq_true, Bool.true_and, Bool.and_true, Bool.false_eq_true, if_false, if_true, ite_true, ite_false, Option.some.injEq, exists_eq_left', true_and, and_true, List.cons_append, List.nil_append, Nat.sub_self, decide_eq_true_eq, Nat.reduceAdd, Nat.reduceSub, Nat.zero_add, Nat.le_refl, Nat.zero_le]
  obtain ⟨B, hB, B1⟩ : ∃ B : Int, B = (if (r - e0 - D).fmod 2 = 0 then r - e0 else r - e0 - 1) ∧ B.natAbs ≤ 6400 := ⟨_, rfl, by split <;> omega⟩
  have leaf : U (fun C d c' x => y C d c') { nx := fun c' x => Φ .none c', rt := Φ, rf := Ψ, bk := fun x x_1 => False, ct := fun x x_1 => False } (c + 1 + 1 + 1 + 1 + 1 + 1 + 1) [.dk, .dt (.int w0), .dt (.int (1 + a0)), .dt (.int B), .un, .dt (.int D), .dt (.int r), .un, .un, .un, .un, .un] := by
    subst hU
    refine seq_hide fun U hU => ?_
    simp only [↓n_asg_if, BQ.n_rt, sSeq, sNext, sRet, sRetF, sRetO, sDrop, sSet, sOwn, sAsg, sPar, sPar3, sAug, sApp, sIf, dIf, dTest, dAnd, dOr, dNot, dAndV, dOrV, d1, d2, d2F, dVar, dOwn, dC, dF, dTup, dLst, dNil, dCons, dCB, dCB1, dCF1, dChain, dChain3, dCall, dCallF, dCallK, aNil, aCons, aDk, dGn, dGnil, dGcons, dGtup, dOdIx, dGsub, dIdxT, dIdxL, dSlT, dSlL, dPart, dNoPart, dIl, dIt, frz, opn, cls, catD, startR, arS, seqOf, n_add, n_addT, n_sub, n_mul, n_fdiv, n_mod, n_pow, n_shl, n_cmp, n_is, n_neg, n_not, n_ixL, n_ixT, n_lenL, n_lenT, n_abs, n_gcd, n_isqrt, n_int, n_tupL, n_tupT, at10, at1n, at20, at21, at2n, at30, at31, at32, at3n, fD, mD, wipeR, dYes, ix32, ix31, n_boolC, sz0, sz1, sz2, sz3, sz4, sz5, sz6, sz7, sz8, n_eqI, n_neI, n_eq3, n_ne3, n_isi_int, n_isi_bool, n_isi_tuple, List.map_cons, List.map_nil, List.length_cons, List.length_nil, List.replicate, List.set_cons_zero, List.set_cons_succ, List.getElem?_cons_zero, List.getElem?_cons_succ, List.filter_cons, List.filter_nil, Ar.isDk, List.all_cons, List.all_nil, no_dt, no_un, no_ow, no_dk, Bool.and_eq_true, Bool.true_and, Bool.and_true, Bool.false_eq_true, if_false, if_true, ite_true, ite_false, Option.some.injEq, exists_eq_left', true_and, and_true, List.cons_append, List.nil_append, Nat.sub_self, decide_eq_true_eq, Nat.reduceAdd, Nat.reduceSub, Nat.zero_add, Nat.le_refl, Nat.zero_le]
    refine ⟨mL (by omega) (by omega), dOk (by decide) (by decide) (by decide), ?_⟩
    have P1 : ((D - B * B).fdiv 4).natAbs ≤ 100000000 := by
      refine Nat.le_trans (fdiv_le _ _) ?_
      have b2 : (B * B).natAbs ≤ 6400 * 6400 := by rw [Int.natAbs_mul]; exact Nat.mul_le_mul B1 B1
      have := sqpos B
      omega
    generalize (D - B * B).fdiv 4 = p at *
    subst hU
    refine seq_hide fun U hU => ?_
    unfold sOwn
    simp only [↓n_asg_if, BQ.n_rt, sSeq, sNext, sRet, sRetF, sRetO, sDrop, sSet, sOwn, sAsg, sPar, sPar3, sAug, sApp, sIf, dIf, dTest, dAnd, dOr, dNot, dAndV, dOrV, d1, d2, d2F, dVar, dOwn, dC, dF, dTup, dLst, dNil, dCons, dCB, dCB1, dCF1, dChain, dChain3, dCall, dCallF, dCallK, aNil, aCons, aDk, dGn, dGnil, dGcons, dGtup, dOdIx, dGsub, dIdxT, dIdxL, dSlT, dSlL, dPart, dNoPart, dIl, dIt, frz, opn, cls, catD, startR, arS, seqOf, n_add, n_addT, n_sub, n_mul, n_fdiv, n_mod, n_pow, n_shl, n_cmp, n_is, n_neg, n_not, n_ixL, n_ixT, n_lenL, n_lenT, n_abs, n_gcd, n_isqrt, n_int, n_tupL, n_tupT, at10, at1n, at20, at21, at2n, at30, at31, at32, at3n, fD, mD, wipeR, dYes, ix32, ix31, n_boolC, sz0, sz1, sz2, sz3, sz4, sz5, sz6, sz7, sz8, n_eqI, n_neI, n_eq3, n_ne3, n_isi_int, n_isi_bool, n_isi_tuple, List.map_cons, List.map_nil, List.length_cons, List.length_nil, List.replicate, List.set_cons_zero, List.set_cons_succ, List.getElem?_cons_zero, List.getElem?_cons_succ, List.filter_cons, List.filter_nil, Ar.isDk, List.all_cons, List.all_nil, no_dt, no_un, no_ow, no_dk, Bool.and_eq_true, Bool.true_and, Bool.and_true, Bool.false_eq_true, if_false, if_true, ite_true, ite_false, Option.some.injEq, exists_eq_left', true_and, and_true, List.cons_append, List.nil_append, Nat.sub_self, decide_eq_true_eq, Nat.reduceAdd, Nat.reduceSub, Nat.zero_add, Nat.le_refl, Nat.zero_le]
    refine ⟨rfl, ?_⟩
    unfold dRg2
    simp only [↓n_asg_if, BQ.n_rt, sSeq, sNext, sRet, sRetF, sRetO, sDrop, sSet, sOwn, sAsg, sPar, sPar3, sAug, sApp, sIf, dIf, dTest, dAnd, dOr, dNot, dAndV, dOrV, d1, d2, d2F, dVar, dOwn, dC, dF, dTup, dLst, dNil, dCons, dCB, dCB1, dCF1, dChain, dChain3, dCall, dCallF, dCallK, aNil, aCons, aDk, dGn, dGnil, dGcons, dGtup, dOdIx, dGsub, dIdxT, dIdxL, dSlT, dSlL, dPart, dNoPart, dIl, dIt, frz, opn, cls, catD, startR, arS, seqOf, n_add, n_addT, n_sub, n_mul, n_fdiv, n_mod, n_pow, n_shl, n_cmp, n_is, n_neg, n_not, n_ixL, n_ixT, n_lenL, n_lenT, n_abs, n_gcd, n_isqrt, n_int, n_tupL, n_tupT, at10, at1n, at20, at21, at2n, at30, at31, at32, at3n, fD, mD, wipeR, dYes, ix32, ix31, n_boolC, sz0, sz1, sz2, sz3, sz4, sz5, sz6, sz7, sz8, n_eqI, n_neI, n_eq3, n_ne3, n_isi_int, n_isi_bool, n_isi_tuple, List.map_cons, List.map_nil, List.length_cons, List.length_nil, List.replicate, List.set_cons_zero, List.set_cons_succ, List.getElem?_cons_zero, List.getElem?_cons_succ, List.filter_cons, List.filter_nil, Ar.isDk, List.all_cons, List.all_nil, no_dt, no_un, no_ow, no_dk, Bool.and_eq_true, Bool.true_and, Bool.and_true, Bool.false_eq_true, if_false, if_true, ite_true, ite_false, Option.some.injEq, exists_eq_left', true_and, and_true, List.cons_append, List.nil_append, Nat.sub_self, decide_eq_true_eq, Nat.reduceAdd, Nat.reduceSub, Nat.zero_add, Nat.le_refl, Nat.zero_le]
    refine ⟨by decide, ?_⟩
    have rg : ∀ d, d ∈ rgL 1 ((1500 : Int) - 1).toNat → ∃ k : Int, d = .int k ∧ 1 ≤ k ∧ k < 1500 := fun d hd => by
      unfold rgL at hd
      obtain ⟨i, hi, rfl⟩ := List.mem_map.mp hd
      have := List.mem_range.mp hi
      exact ⟨_, rfl, by omega, by omega⟩
    refine compW_pure (nearF p) _ _ (fun d hd K1 K2 hk => ?_) (by unfold rgL; rw [List.length_map, List.length_range]; have := sizeLine_eq; show 0 + 1499 ≤ _; omega) ?_
    · obtain ⟨k, rfl, k1, k2⟩ := rg d hd
      simp only [↓n_asg_if, BQ.n_rt, sSeq, sNext, sRet, sRetF, sRetO, sDrop, sSet, sOwn, sAsg, sPar, sPar3, sAug, sApp, sIf, dIf, dTest, dAnd, dOr, dNot, dAndV, dOrV, d1, d2, d2F, dVar, dOwn, dC, dF, dTup, dLst, dNil, dCons, dCB, dCB1, dCF1, dChain, dChain3, dCall, dCallF, dCallK, aNil, aCons, aDk, dGn, dGnil, dGcons, dGtup, dOdIx, dGsub, dIdxT, dIdxL, dSlT, dSlL, dPart, dNoPart, dIl, dIt, frz, opn, cls, catD, startR, arS, seqOf, n_add, n_addT, n_sub, n_mul, n_fdiv, n_mod, n_pow, n_shl, n_cmp, n_is, n_neg, n_not, n_ixL, n_ixT, n_lenL, n_lenT, n_abs, n_gcd, n_isqrt, n_int, n_tupL, n_tupT, at10, at1n, at20, at21, at2n, at30, at31, at32, at3n, fD, mD, wipeR, dYes, ix32, ix31, n_boolC, sz0, sz1, sz2, sz3, sz4, sz5, sz6, sz7, sz8, n_eqI, n_neI, n_eq3, n_ne3, n_isi_int, n_isi_bool, n_isi_tuple, List.map_cons, List.map_nil, List.length_cons, List.length_nil, List.replicate, List.set_cons_zero, List.set_cons_succ, List.getElem?_cons_zero, List.getElem?_cons_succ, List.filter_cons, List.filter_nil, Ar.isDk, List.all_cons, List.all_nil, no_dt, no_un, no_ow, no_dk, Bool.and_eq_true, Bool.true_and, Bool.and_true, Bool.false_eq_true, if_false, if_true, ite_true, ite_false, Option.some.injEq, exists_eq_left', true_and, and_true, List.cons_append, List.nil_append, Nat.sub_self, decide_eq_true_eq, Nat.reduceAdd, Nat.reduceSub, Nat.zero_add, Nat.le_refl, Nat.zero_le]
      have en : nearF p (.int k) = if (!decide (p = 0)) = true ∧ p.fmod k = 0 then some (.int k) else none := rfl
      rw [en] at hk
      by_cases p0 : (!decide (p = 0)) = true
      · rw [if_pos p0]
        refine ⟨by omega, ?_⟩
        by_cases pk : p.fmod k = 0
        · rw [if_pos ⟨p0, pk⟩] at hk
          rw [if_pos pk]
          exact hk
        · rw [if_neg (fun z => pk z.2)] at hk
          rw [if_neg pk]
          exact hk
      · rw [if_neg (fun z => p0 z.1)] at hk
        rw [if_neg p0]
        exact hk
    · rw [List.nil_append]
      have nl : ∀ d, d ∈ (rgL 1 ((1500 : Int) - 1).toNat).filterMap (nearF p) → ∃ k : Int, d = .int k ∧ 1 ≤ k ∧ k < 1500 := fun d hd => by
        obtain ⟨e, he, hf⟩ := List.mem_filterMap.mp hd
        obtain ⟨k, rfl, k1, k2⟩ := rg e he
        have en : nearF p (.int k) = if (!decide (p = 0)) = true ∧ p.fmod k = 0 then some (.int k) else none := rfl
        rw [en] at hf
        by_cases z : (!decide (p = 0)) = true ∧ p.fmod k = 0
        · rw [if_pos z] at hf
          exact ⟨k, (Option.some.inj hf).symm, k1, k2⟩
        · rw [if_neg z] at hf
          cases hf
      have ll : ((rgL 1 ((1500 : Int) - 1).toNat).filterMap (nearF p)).length ≤ 1499 := by
        refine Nat.le_trans (List.length_filterMap_le _ _) ?_
        unfold rgL; rw [List.length_map, List.length_range]
        decide
      generalize (rgL 1 ((1500 : Int) - 1).toNat).filterMap (nearF p) = NL at *
      subst hU
      refine seq_hide fun U hU => ?_
      simp only [↓n_asg_if, BQ.n_rt, sSeq, sNext, sRet, sRetF, sRetO, sDrop, sSet, sOwn, sAsg, sPar, sPar3, sAug, sApp, sIf, dIf, dTest, dAnd, dOr, dNot, dAndV, dOrV, d1, d2, d2F, dVar, dOwn, dC, dF, dTup, dLst, dNil, dCons, dCB, dCB1, dCF1, dChain, dChain3, dCall, dCallF, dCallK, aNil, aCons, aDk, dGn, dGnil, dGcons, dGtup, dOdIx, dGsub, dIdxT, dIdxL, dSlT, dSlL, dPart, dNoPart, dIl, dIt, frz, opn, cls, catD, startR, arS, seqOf, n_add, n_addT, n_sub, n_mul, n_fdiv, n_mod, n_pow, n_shl, n_cmp, n_is, n_neg, n_not, n_ixL, n_ixT, n_lenL, n_lenT, n_abs, n_gcd, n_isqrt, n_int, n_tupL, n_tupT, at10, at1n, at20, at21, at2n, at30, at31, at32, at3n, fD, mD, wipeR, dYes, ix32, ix31, n_boolC, sz0, sz1, sz2, sz3, sz4, sz5, sz6, sz7, sz8, n_eqI, n_neI, n_eq3, n_ne3, n_isi_int, n_isi_bool, n_isi_tuple, List.map_cons, List.map_nil, List.length_cons, List.length_nil, List.replicate, List.set_cons_zero, List.set_cons_succ, List.getElem?_cons_zero, List.getElem?_cons_succ, List.filter_cons, List.filter_nil, Ar.isDk, List.all_cons, List.all_nil, no_dt, no_un, no_ow, no_dk, Bool.and_eq_true, Bool.true_and, Bool.and_true, Bool.false_eq_true, if_false, if_true, ite_true, ite_false, Option.some.injEq, exists_eq_left', true_and, and_true, List.cons_append, List.nil_append, Nat.sub_self, decide_eq_true_eq, Nat.reduceAdd, Nat.reduceSub, Nat.zero_add, Nat.le_refl, Nat.zero_le]
      have f2 := fmod_lt' (x := D) (w := 2) (by decide)
      cases NL with
      | nil =>
        refine eqSelf0 _ ?_
        simp only [↓n_asg_if, BQ.n_rt, sSeq, sNext, sRet, sRetF, sRetO, sDrop, sSet, sOwn, sAsg, sPar, sPar3, sAug, sApp, sIf, dIf, dTest, dAnd, dOr, dNot, dAndV, dOrV, d1, d2, d2F, dVar, dOwn, dC, dF, dTup, dLst, dNil, dCons, dCB, dCB1, dCF1, dChain, dChain3, dCall, dCallF, dCallK, aNil, aCons, aDk, dGn, dGnil, dGcons, dGtup, dOdIx, dGsub, dIdxT, dIdxL, dSlT, dSlL, dPart, dNoPart, dIl, dIt, frz, opn, cls, catD, startR, arS, seqOf, n_add, n_addT, n_sub, n_mul, n_fdiv, n_mod, n_pow, n_shl, n_cmp, n_is, n_neg, n_not, n_ixL, n_ixT, n_lenL, n_lenT, n_abs, n_gcd, n_isqrt, n_int, n_tupL, n_tupT, at10, at1n, at20, at21, at2n, at30, at31, at32, at3n, fD, mD, wipeR, dYes, ix32, ix31, n_boolC, sz0, sz1, sz2, sz3, sz4, sz5, sz6, sz7, sz8, n_eqI, n_neI, n_eq3, n_ne3, n_isi_int, n_isi_bool, n_isi_tuple, List.map_cons, List.map_nil, List.length_cons, List.length_nil, List.replicate, List.set_cons_zero, List.set_cons_succ, List.getElem?_cons_zero, List.getElem?_cons_succ, List.filter_cons, List.filter_nil, Ar.isDk, List.all_cons, List.all_nil, no_dt, no_un, no_ow, no_dk, Bool.and_eq_true, Bool.true_and, Bool.and_true, Bool.false_eq_true, if_false, if_true, ite_true, ite_false, Option.some.injEq, exists_eq_left', true_and, and_true, List.cons_append, List.nil_append, Nat.sub_self, decide_eq_true_eq, Nat.reduceAdd, Nat.reduceSub, Nat.zero_add, Nat.le_refl, Nat.zero_le]
        refine ⟨by decide, by decide, dOk (by decide) (by decide) (by decide), h ⟨1, _, _⟩ _ (by show (1 : Int).natAbs < _; decide) (by show (D.fmod 2).natAbs < _; omega) (by have := fdiv_le (D.fmod 2 - D) 4; show ((D.fmod 2 - D).fdiv 4).natAbs < _; omega) (by omega)⟩
      | cons n0 NL =>
        refine eqCons0 _ _ _ ?_
        simp only [↓n_asg_if, BQ.n_rt, sSeq, sNext, sRet, sRetF, sRetO, sDrop, sSet, sOwn, sAsg, sPar, sPar3, sAug, sApp, sIf, dIf, dTest, dAnd, dOr, dNot, dAndV, dOrV, d1, d2, d2F, dVar, dOwn, dC, dF, dTup, dLst, dNil, dCons, dCB, dCB1, dCF1, dChain, dChain3, dCall, dCallF, dCallK, aNil, aCons, aDk, dGn, dGnil, dGcons, dGtup, dOdIx, dGsub, dIdxT, dIdxL, dSlT, dSlL, dPart, dNoPart, dIl, dIt, frz, opn, cls, catD, startR, arS, seqOf, n_add, n_addT, n_sub, n_mul, n_fdiv, n_mod, n_pow, n_shl, n_cmp, n_is, n_neg, n_not, n_ixL, n_ixT, n_lenL, n_lenT, n_abs, n_gcd, n_isqrt, n_int, n_tupL, n_tupT, at10, at1n, at20, at21, at2n, at30, at31, at32, at3n, fD, mD, wipeR, dYes, ix32, ix31, n_boolC, sz0, sz1, sz2, sz3, sz4, sz5, sz6, sz7, sz8, n_eqI, n_neI, n_eq3, n_ne3, n_isi_int, n_isi_bool, n_isi_tuple, List.map_cons, List.map_nil, List.length_cons, List.length_nil, List.replicate, List.set_cons_zero, List.set_cons_succ, List.getElem?_cons_zero, List.getElem?_cons_succ, List.filter_cons, List.filter_nil, Ar.isDk, List.all_cons, List.all_nil, no_dt, no_un, no_ow, no_dk, Bool.and_eq_true, Bool.true_and, Bool.and_true, Bool.false_eq_true, if_false, if_true, ite_true, ite_false, Option.some.injEq, exists_eq_left', true_and, and_true, List.cons_append, List.nil_append, Nat.sub_self, decide_eq_true_eq, Nat.reduceAdd, Nat.reduceSub, Nat.zero_add, Nat.le_refl, Nat.zero_le]
        subst hU
        refine seq_hide fun U hU => ?_
        simp only [↓n_asg_if, BQ.n_rt, sSeq, sNext, sRet, sRetF, sRetO, sDrop, sSet, sOwn, sAsg, sPar, sPar3, sAug, sApp, sIf, dIf, dTest, dAnd, dOr, dNot, dAndV, dOrV, d1, d2, d2F, dVar, dOwn, dC, dF, dTup, dLst, dNil, dCons, dCB, dCB1, dCF1, dChain, dChain3, dCall, dCallF, dCallK, aNil, aCons, aDk, dGn, dGnil, dGcons, dGtup, dOdIx, dGsub, dIdxT, dIdxL, dSlT, dSlL, dPart, dNoPart, dIl, dIt, frz, opn, cls, catD, startR, arS, seqOf, n_add, n_addT, n_sub, n_mul, n_fdiv, n_mod, n_pow, n_shl, n_cmp, n_is, n_neg, n_not, n_ixL, n_ixT, n_lenL, n_lenT, n_abs, n_gcd, n_isqrt, n_int, n_tupL, n_tupT, at10, at1n, at20, at21, at2n, at30, at31, at32, at3n, fD, mD, wipeR, dYes, ix32, ix31, n_boolC, sz0, sz1, sz2, sz3, sz4, sz5, sz6, sz7, sz8, n_eqI, n_neI, n_eq3, n_ne3, n_isi_int, n_isi_bool, n_isi_tuple, List.map_cons, List.map_nil, List.length_cons, List.length_nil, List.replicate, List.set_cons_zero, List.set_cons_succ, List.getElem?_cons_zero, List.getElem?_cons_succ, List.filter_cons, List.filter_nil, Ar.isDk, List.all_cons, List.all_nil, no_dt, no_un, no_ow, no_dk, Bool.and_eq_true, Bool.true_and, Bool.and_true, Bool.false_eq_true, if_false, if_true, ite_true, ite_false, Option.some.injEq, exists_eq_left', true_and, and_true, List.cons_append, List.nil_append, Nat.sub_self, decide_eq_true_eq, Nat.reduceAdd, Nat.reduceSub, Nat.zero_add, Nat.le_refl, Nat.zero_le]
        have cl : (DL.cutD (n0 :: NL) (some (-3)) none).length ≤ NL.length + 1 := by
          unfold DL.cutD
          rw [List.length_take, List.length_drop, List.length_cons]
          omega
        rw [List.length_cons] at ll
        have sl := sizeLine_eq
        refine ⟨by omega, _, rfl, by simp, by simp only [List.length_cons, List.length_append]; omega, by omega, fun d hd => ?_⟩
        obtain ⟨k, rfl, k1, k2⟩ : ∃ k : Int, d = .int k ∧ 1 ≤ k ∧ k < 1500 := by
          refine nl d ?_
          rcases List.mem_cons.mp hd with rfl | hd
          · exact List.mem_cons_self
          · rcases List.mem_append.mp hd with hd | hd
            · exact List.mem_cons_of_mem _ hd
            · exact List.mem_of_mem_drop (List.mem_of_mem_take hd)
        subst hU
        refine seq_hide fun U hU => ?_
        simp only [↓n_asg_if, BQ.n_rt, sSeq, sNext, sRet, sRetF, sRetO, sDrop, sSet, sOwn, sAsg, sPar, sPar3, sAug, sApp, sIf, dIf, dTest, dAnd, dOr, dNot, dAndV, dOrV, d1, d2, d2F, dVar, dOwn, dC, dF, dTup, dLst, dNil, dCons, dCB, dCB1, dCF1, dChain, dChain3, dCall, dCallF, dCallK, aNil, aCons, aDk, dGn, dGnil, dGcons, dGtup, dOdIx, dGsub, dIdxT, dIdxL, dSlT, dSlL, dPart, dNoPart, dIl, dIt, frz, opn, cls, catD, startR, arS, seqOf, n_add, n_addT, n_sub, n_mul, n_fdiv, n_mod, n_pow, n_shl, n_cmp, n_is, n_neg, n_not, n_ixL, n_ixT, n_lenL, n_lenT, n_abs, n_gcd, n_isqrt, n_int, n_tupL, n_tupT, at10, at1n, at20, at21, at2n, at30, at31, at32, at3n, fD, mD, wipeR, dYes, ix32, ix31, n_boolC, sz0, sz1, sz2, sz3, sz4, sz5, sz6, sz7, sz8, n_eqI, n_neI, n_eq3, n_ne3, n_isi_int, n_isi_bool, n_isi_tuple, List.map_cons, List.map_nil, List.length_cons, List.length_nil, List.replicate, List.set_cons_zero, List.set_cons_succ, List.getElem?_cons_zero, List.getElem?_cons_succ, List.filter_cons, List.filter_nil, Ar.isDk, List.all_cons, List.all_nil, no_dt, no_un, no_ow, no_dk, Bool.and_eq_true, Bool.true_and, Bool.and_true, Bool.false_eq_true, if_false, if_true, ite_true, ite_false, Option.some.injEq, exists_eq_left', true_and, and_true, List.cons_append, List.nil_append, Nat.sub_self, decide_eq_true_eq, Nat.reduceAdd, Nat.reduceSub, Nat.zero_add, Nat.le_refl, Nat.zero_le]
        refine ⟨_, rfl, by simp, by show 2 ≤ sizeLine; decide, by omega, fun d hd => ?_⟩
        obtain ⟨sg, rfl, s1⟩ : ∃ i : Int, d = .int i ∧ (i = 1 ∨ i = -1) := by
          simp only [List.mem_cons, List.not_mem_nil, or_false] at hd
          rcases hd with rfl | rfl
          · exact ⟨1, rfl, .inl rfl⟩
          · exact ⟨-1, rfl, .inr rfl⟩
        subst hU
        simp only [↓n_asg_if, BQ.n_rt, sSeq, sNext, sRet, sRetF, sRetO, sDrop, sSet, sOwn, sAsg, sPar, sPar3, sAug, sApp, sIf, dIf, dTest, dAnd, dOr, dNot, dAndV, dOrV, d1, d2, d2F, dVar, dOwn, dC, dF, dTup, dLst, dNil, dCons, dCB, dCB1, dCF1, dChain, dChain3, dCall, dCallF, dCallK, aNil, aCons, aDk, dGn, dGnil, dGcons, dGtup, dOdIx, dGsub, dIdxT, dIdxL, dSlT, dSlL, dPart, dNoPart, dIl, dIt, frz, opn, cls, catD, startR, arS, seqOf, n_add, n_addT, n_sub, n_mul, n_fdiv, n_mod, n_pow, n_shl, n_cmp, n_is, n_neg, n_not, n_ixL, n_ixT, n_lenL, n_lenT, n_abs, n_gcd, n_isqrt, n_int, n_tupL, n_tupT, at10, at1n, at20, at21, at2n, at30, at31, at32, at3n, fD, mD, wipeR, dYes, ix32, ix31, n_boolC, sz0, sz1, sz2, sz3, sz4, sz5, sz6, sz7, sz8, n_eqI, n_neI, n_eq3, n_ne3, n_isi_int, n_isi_bool, n_isi_tuple, List.map_cons, List.map_nil, List.length_cons, List.length_nil, List.replicate, List.set_cons_zero, List.set_cons_succ, List.getElem?_cons_zero, List.getElem?_cons_succ, List.filter_cons, List.filter_nil, Ar.isDk, List.all_cons, List.all_nil, no_dt, no_un, no_ow, no_dk, Bool.and_eq_true, Bool.true_and, Bool.and_true, Bool.false_eq_true, if_false, if_true, ite_true, ite_false, Option.some.injEq, exists_eq_left', true_and, and_true, List.cons_append, List.nil_append, Nat.sub_self, decide_eq_true_eq, Nat.reduceAdd, Nat.reduceSub, Nat.zero_add, Nat.le_refl, Nat.zero_le]
        have dk : DivOk k := dOk (by omega) (by omega) (by omega)
        have ms : ∀ x : Int, IntMulOk sg x := fun x => mL (by omega) (by omega)
        have mn : ∀ x : Int, IntMulOk (-sg) x := fun x => mL (by omega) (by omega)
        refine ⟨ms _, dk, mn _, dk, ms _, mn _, ms _, dk, mn _, _, rfl, by simp, by show 3 ≤ sizeLine; decide, by omega, fun d hd => ?_⟩
        simp only [List.mem_cons, List.not_mem_nil, or_false] at hd
        have fq := fdiv_le p k
        generalize p.fdiv k = pk at *
        rcases s1 with rfl | rfl <;> rcases hd with rfl | rfl | rfl
        all_goals exact h ⟨_, _, _⟩ _ (by simp only []; omega) (by simp only []; omega) (by simp only []; omega) (by omega)
  refine ⟨by decide, ?_⟩
  by_cases pz : (r - e0 - D).fmod 2 = 0
  · rw [if_pos pz] at hB ⊢
    rw [← hB]; exact leaf
  · rw [if_neg pz] at hB ⊢
    rw [← hB]; exact leaf
theorem repr4 (a b e d : Bool) (Φ : PyData → Prop) (h : Φ (.str (PyData.list [.bool a, .bool b, .bool e, .bool d]).shown)) : reprD (.list [.bool a, .bool b, .bool e, .bool d]) Φ := by
  refine ⟨trivial, ?_, ?_, ?_, ?_, h⟩
  · simp [PyData.showable, PyData.showableAll]
  · simp [PyData.hasDict, PyData.hasDictAll]
  · simp [PyData.depth, PyData.depthAll]
  · cases a <;> cases b <;> cases e <;> cases d <;> decide +kernel
theorem repr2 (a b : Bool) (Φ : PyData → Prop) (h : Φ (.str (PyData.list [.bool a, .bool b]).shown)) : reprD (.list [.bool a, .bool b]) Φ := by
  refine ⟨trivial, ?_, ?_, ?_, ?_, h⟩
  · simp [PyData.showable, PyData.showableAll]
  · simp [PyData.hasDict, PyData.hasDictAll]
  · simp [PyData.depth, PyData.depthAll]
  · cases a <;> cases b <;> decide +kernel
theorem neSelf {d : PyData} (hp : d.plain = true) (hd : d.depth ≤ 64) (Φ : PyData → Prop) (h : Φ (.bool false)) : neP d d Φ := by
  refine ⟨by omega, ?_⟩
  rw [PySem.SeqAt.eqv_refl_plain d hp]
  exact h
theorem eqSelf {d : PyData} (hp : d.plain = true) (hd : d.depth ≤ 64) (Φ : PyData → Prop) (h : Φ (.bool true)) : eqP d d Φ := by
  refine ⟨by omega, ?_⟩
  rw [PySem.SeqAt.eqv_refl_plain d hp]
  exact h
theorem plainF : ∀ L : List F, PyData.plainAll (L.map fD) = true
  | [] => by simp [PyData.plainAll]
  | f :: L => by
    have := plainF L
    rw [List.map_cons, PyData.plainAll, this]
    simp [fD, PyData.plain, PyData.plainAll]
theorem plainTL (L : List F) : PyData.plain (.tuple (L.map fD)) = true ∧ PyData.depth (.tuple (L.map fD)) ≤ 3 := by
  constructor
  · rw [PyData.plain]; exact plainF L
  · have := depth_forms L
    rw [PyData.depth]; omega
def sd__law_right : Sd := fun c as y Φ Ψ => ∃ f : F, as = [.dk, .dt (fD f)] ∧ Fo f ∧ c < 2 ^ 30 ∧ ∀ c' : Nat, c' ≤ c + 3 → Φ (.bool true) c'
theorem ok__law_right (Mx : Mo K mg) (C__law_is_reduced : Cl false P w K mg base 3 "_law_is_reduced" ["form"] sd__law_is_reduced) (C_is_binary : Cl false P w K mg base 3 "is_binary" ["value"] sd_is_binary) (C_is_reduced : Cl false P w K mg base 5 "is_reduced" ["binary"] sd_is_reduced) (C__law_gcd : Cl false P w K mg base 1 "_law_gcd" ["one", "other"] sd__law_gcd) (C__law_disc : Cl false P w K mg base 1 "_law_disc" ["form"] sd__law_disc) (C_is_primitive : Cl false P w K mg base 5 "is_primitive" ["binary"] sd_is_primitive) (C_discriminant : Cl false P w K mg base 5 "discriminant" ["binary"] sd_discriminant) (C__law_cycle : Cl false P w K mg base 6 "_law_cycle" ["form"] sd__law_cycle) (C_cycle : Cl false P w K mg base 6 "cycle" ["binary"] sd_cycle) (C_reduced : Cl false P w K mg base 6 "reduced" ["binary"] sd_reduced) (C_stepped : Cl false P w K mg base 5 "stepped" ["binary", "step"] sd_stepped) (C__law_stepped : Cl false P w K mg base 1 "_law_stepped" ["form", "step"] sd__law_stepped) (C__law_is_step : Cl false P w K mg base 2 "_law_is_step" ["value"] sd__law_is_step) (C__law_is_split : Cl false P w K mg base 2 "_law_is_split" ["d"] sd__law_is_split) (C__law_any : Cl false P w K mg base 1 "_law_any" ["seed", "many"] sd__law_any) : Cl true P w K mg base 7 "_law_right" ["seed", "form"] sd__law_right := by
  obtain ⟨fd, hm, Fn0⟩ := Mx.fn 58 "_law_right" (by decide +kernel)
  have hN : (["seed", "form", "own", "d", "least", "due", "told", "step", "some", "one", "turn"] : List Str).Nodup := by decide +kernel
  have Sc0 : FnScope ["seed", "form", "own", "d", "least", "due", "told", "step", "some", "one", "turn"] ["seed", "form"] (defScope (top 58)) := ⟨rfl, rfl, rfl, hN, rfl, by decide +kernel, by decide +kernel⟩
  refine cl_mk Fn0 hm Sc0 (fun _ _ _ _ _ _ us hl => match us, hl with | [_, _], _ => rfl) (fun _ _ _ _ _ _ us hl => match us, hl with | [_, _], _ => rfl) fun cdv A outer s H E hr hG tk hp => ⟨_, (ss_cons (s_set (i := 2) hN (by rfl) (by first | exact .inl rfl | exact .inr rfl) (e_callC C__law_is_reduced (by decide) hr nog (by rfl) tk (a_cons (e_var (pv 1)) a_nil)))
    (ss_cons (s_if (t_cmp (o_neP (hu4 hr)) (e_callB1 (c_repr (hG rfl) (hu6 hr)) (by rfl) (Mx.fr "repr" (by decide +kernel)) b_repr (f_lst (l_cons (e_callC C_is_reduced (by decide) hr nog (by rfl) tk (a_cons (e_var (pv 1)) a_nil)) (l_cons (e_callCK C_is_reduced (by decide) hr nog (by rfl) tk (k_cons (e_var (pv 1)) k_nil)) (l_cons (e_callC C_is_binary (by decide) hr nog (by rfl) tk (a_cons (e_var (pv 1)) a_nil)) (l_cons (e_callCK C_is_binary (by decide) hr nog (by rfl) tk (k_cons (e_var (pv 1)) k_nil)) l_nil))))).e.r).r (e_callB1 (c_repr (hG rfl) (hu6 hr)) (by rfl) (Mx.fr "repr" (by decide +kernel)) b_repr (f_lst (l_cons (e_var (pv 2)) (l_cons (e_var (pv 2)) (l_cons e_bl (l_cons e_bl l_nil))))).e.r).r rfl) (ss_one (s_ret e_bl)) ss_nil)
    (ss_cons (s_par (i := 3) (j := 4) rfl hN rfl rfl (by decide) rfl rfl (l_cons (e_callC C__law_disc (by decide) hr nog (by rfl) tk (a_cons (e_var (pv 1)) a_nil)) (l_cons (e_callC C__law_gcd (by decide) hr nog (by rfl) tk (a_cons (e_callC C__law_gcd (by decide) hr nog (by rfl) tk (a_cons (e_ix (r_own (pv 1)) e_int) (a_cons (e_ix (r_own (pv 1)) e_int) a_nil))) (a_cons (e_ix (r_own (pv 1)) e_int) a_nil))) l_nil)) rfl)
    (ss_cons (s_if (w_or (t_cmp (o_neP (hu4 hr)) (f_lst (l_cons (e_callC C_discriminant (by decide) hr nog (by rfl) tk (a_cons (e_var (pv 1)) a_nil)) (l_cons (e_callCK C_discriminant (by decide) hr nog (by rfl) tk (k_cons (e_var (pv 1)) k_nil)) l_nil))).e.r (f_lst (l_cons (e_var (pv 3)) (l_cons (e_var (pv 3)) l_nil))).e.r rfl) (w_or1 (t_cmp (o_neP (hu4 hr)) (e_callB1 (c_repr (hG rfl) (hu6 hr)) (by rfl) (Mx.fr "repr" (by decide +kernel)) b_repr (f_lst (l_cons (e_callC C_is_primitive (by decide) hr nog (by rfl) tk (a_cons (e_var (pv 1)) a_nil)) (l_cons (e_callCK C_is_primitive (by decide) hr nog (by rfl) tk (k_cons (e_var (pv 1)) k_nil)) l_nil))).e.r).r (e_callB1 (c_repr (hG rfl) (hu6 hr)) (by rfl) (Mx.fr "repr" (by decide +kernel)) b_repr (f_rep (f_lst (l_cons (e_cmp (o_eqP (hu4 hr)) (r_own (pv 4)) e_int.r rfl) l_nil)) e_int).e.r).r rfl))).t (ss_one (s_ret e_bl)) ss_nil)
    (ss_cons (s_set (i := 5) hN (by rfl) (by first | exact .inl rfl | exact .inr rfl) (e_callC C__law_cycle (by decide) hr nog (by rfl) tk (a_cons (e_var (pv 1)) a_nil)))
    (ss_cons (s_if (t_cmp (o_neP (hu4 hr)) (f_lst (l_cons (e_callC C_cycle (by decide) hr nog (by rfl) tk (a_cons (e_var (pv 1)) a_nil)) (l_cons (e_callCK C_cycle (by decide) hr nog (by rfl) tk (k_cons (e_var (pv 1)) k_nil)) l_nil))).e.r (f_lst (l_cons (e_var (pv 5)) (l_cons (e_var (pv 5)) l_nil))).e.r rfl) (ss_one (s_ret e_bl)) ss_nil)
    (ss_cons (s_asg (e_callC C_reduced (by decide) hr nog (by rfl) tk (a_cons (e_var (pv 1)) a_nil)) (g_tup (n := 2) (by rfl) (gs_cons ((c_name (i := 6) hN (by rfl) (by first | exact .inl rfl | exact .inr rfl) (by first | exact .inl rfl | exact .inr rfl)).g) (gs_cons ((c_name (i := 7) hN (by rfl) (by first | exact .inl rfl | exact .inr rfl) (by first | exact .inl rfl | exact .inr rfl)).g) gs_nil))))
    (ss_cons (s_if (w_or (t_cmp (o_neP (hu4 hr)) (r_own (pv 6)) (e_ix (r_own (pv 5)) e_int).r rfl) (w_or (t_not (t_val (e_callC C__law_is_step (by decide) hr nog (by rfl) tk (a_cons (e_var (pv 7)) a_nil)))) (w_or (t_cmp (o_neP (hu4 hr)) (e_callC C__law_stepped (by decide) hr nog (by rfl) tk (a_cons (e_var (pv 1)) (a_cons (e_var (pv 7)) a_nil))).r (r_own (pv 6)) rfl) (w_or1 (t_cmp (o_neP (hu4 hr)) (e_callC C_stepped (by decide) hr nog (by rfl) tk (a_cons (e_var (pv 1)) (a_cons (e_var (pv 7)) a_nil))).r (r_own (pv 6)) rfl))))).t (ss_one (s_ret e_bl)) ss_nil)
    (ss_cons (s_asg (e_callCK C_reduced (by decide) hr nog (by rfl) tk (k_cons (e_var (pv 1)) k_nil)) (g_tup (n := 2) (by rfl) (gs_cons ((c_name (i := 6) hN (by rfl) (by first | exact .inl rfl | exact .inr rfl) (by first | exact .inl rfl | exact .inr rfl)).g) (gs_cons ((c_name (i := 7) hN (by rfl) (by first | exact .inl rfl | exact .inr rfl) (by first | exact .inl rfl | exact .inr rfl)).g) gs_nil))))
    (ss_cons (s_if (w_or (t_cmp (o_neP (hu4 hr)) (r_own (pv 6)) (e_ix (r_own (pv 5)) e_int).r rfl) (w_or (t_cmp (o_neP (hu4 hr)) (e_callC C__law_stepped (by decide) hr nog (by rfl) tk (a_cons (e_var (pv 1)) (a_cons (e_var (pv 7)) a_nil))).r (r_own (pv 6)) rfl) (w_or1 (t_not (t_val (e_callB1 (c_all rfl) (by rfl) (Mx.fr "all" (by decide +kernel)) b_all (f_comp (own := [("one", 9)]) rfl hN (i_tup (e_var (pv 5))) (blkOk_by rfl) (by decide) (fun s' H' C' cl' fp' => (c_name (i := 9) hN (by rfl) (by first | exact .inl rfl | exact .inr rfl) (by first | exact .inl rfl | exact .inr rfl))) (fun s' H' C' cl' fp' => if_nil) (fun s' H' C' cl' fp' => (e_callC C__law_is_reduced (by decide) hr nog (by rfl) takes0 (a_cons (e_var (pv 9)) a_nil)))).e.r)))))).t (ss_one (s_ret e_bl)) ss_nil)
    (ss_cons (s_if (w_and (t_cmp o_gt (r_own (pv 3)) e_int.r rfl) (w_and (t_not (t_val (e_callC C__law_is_split (by decide) hr nog (by rfl) tk (a_cons (e_var (pv 3)) a_nil)))) (w_and1 (w_or (t_cmp (o_eqP (hu4 hr)) (e_bin o_mod (e_callTy c_int (by rfl) (Mx.fr "int" (by decide +kernel)) b_int (l_cons (e_callB1 c_len (by rfl) (Mx.fr "len" (by decide +kernel)) b_len (r_own (pv 5))) l_nil)).r e_int.r).r e_int.r rfl) (w_or1 (w_and (t_val (e_var (pv 2))) (w_and1 (t_cmp (o_niP (hu5 hr)) (r_own (pv 1)) (r_own (pv 5)) rfl))).t)).t))).t (ss_one (s_ret e_bl)) ss_nil)
    (ss_cons (s_comp (own := [("turn", 10)]) (i := 8) rfl hN rfl rfl rfl (i_rg1 (by rfl) (Mx.fr "range" (by decide +kernel)) e_int) (blkOk_by rfl) (by decide) (fun s' H' C' cl' fp' => (c_name (i := 10) hN (by rfl) (by first | exact .inl rfl | exact .inr rfl) (by first | exact .inl rfl | exact .inr rfl))) (fun s' H' C' cl' fp' => if_nil) (fun s' H' C' cl' fp' => (e_ix (r_own (pv 5)) (e_callC C__law_any (by decide) hr nog (by rfl) takes0 (a_dk (pv 0) (a_cons (e_callB1 c_len (by rfl) (Mx.fr "len" (by decide +kernel)) b_len (r_own (pv 5))) a_nil))))))
    (ss_one (s_ret (e_callB1 (c_all rfl) (by rfl) (Mx.fr "all" (by decide +kernel)) b_all (f_comp (own := [("one", 9)]) rfl hN (i_list (f_slL (r_own (pv 8)) p_none (p_some e_int)).e) (blkOk_by rfl) (by decide) (fun s' H' C' cl' fp' => (c_name (i := 9) hN (by rfl) (by first | exact .inl rfl | exact .inr rfl) (by first | exact .inl rfl | exact .inr rfl))) (fun s' H' C' cl' fp' => if_nil) (fun s' H' C' cl' fp' => (e_and (e_cmp o_isB (e_callC C_is_reduced (by decide) hr nog (by rfl) takes0 (a_cons (e_var (pv 9)) a_nil)).r e_bl.r rfl) (e_one (e_cmp (o_eqP (hu4 hr)) (e_callC C_cycle (by decide) hr nog (by rfl) takes0 (a_cons (e_var (pv 9)) a_nil)).r (r_own (pv 5)) rfl))))).e.r))))))))))))))), fun c as y Φ Ψ hn hs => ?_⟩
  obtain ⟨f, rfl, h1, h2, h⟩ := hs
  have dk := h1.dk
  have n0 := h1.n0
  have le := h1.le
  have ab := h1.ab
  have hR : ∀ R, To f R → R.disc = f.disc := fun R t => t.disc n0
  have c60 := h1.c60
  have fold : PyData.tuple [.int f.a, .int f.b, .int f.c] = fD f := rfl
  simp only [↓n_asg_if, BQ.n_rt, sSeq, sNext, sRet, sRetF, sRetO, sDrop, sSet, sOwn, sAsg, sPar, sPar3, sAug, sApp, sIf, dIf, dTest, dAnd, dOr, dNot, dAndV, dOrV, d1, d2, d2F, dVar, dOwn, dC, dF, dTup, dLst, dNil, dCons, dCB, dCB1, dCF1, dChain, dChain3, dCall, dCallF, dCallK, aNil, aCons, aDk, dGn, dGnil, dGcons, dGtup, dOdIx, dGsub, dIdxT, dIdxL, dSlT, dSlL, dPart, dNoPart, dIl, dIt, frz, opn, cls, catD, startR, arS, seqOf, n_add, n_addT, n_sub, n_mul, n_fdiv, n_mod, n_pow, n_shl, n_cmp, n_is, n_neg, n_not, n_ixL, n_ixT, n_lenL, n_lenT, n_abs, n_gcd, n_isqrt, n_int, n_tupL, n_tupT, at10, at1n, at20, at21, at2n, at30, at31, at32, at3n, fD, mD, wipeR, dYes, ix32, ix31, n_boolC, sz0, sz1, sz2, sz3, sz4, sz5, sz6, sz7, sz8, n_eqI, n_neI, n_eq3, n_ne3, n_isi_int, n_isi_bool, n_isi_tuple, List.map_cons, List.map_nil, List.length_cons, List.length_nil, List.replicate, List.set_cons_zero, List.set_cons_succ, List.getElem?_cons_zero, List.getElem?_cons_succ, List.filter_cons, List.filter_nil, Ar.isDk, List.all_cons, List.all_nil, no_dt, no_un, no_ow, no_dk, Bool.and_eq_true, Bool.true_and, Bool.and_true, Bool.false_eq_true, if_false, if_true, ite_true, ite_false, Option.some.injEq, exists_eq_left', true_and, and_true, List.cons_append, List.nil_append, Nat.sub_self, decide_eq_true_eq, Nat.reduceAdd, Nat.reduceSub, Nat.zero_add, Nat.le_refl, Nat.zero_le]
  have bin : isBin (fD f) = true := decide_eq_true n0
  have inj : ∀ g : F, fD f = fD g → f = g := fun g e => by
    have e : PyData.tuple [.int f.a, .int f.b, .int f.c] = .tuple [.int g.a, .int g.b, .int g.c] := e
    simp only [PyData.tuple.injEq, List.cons.injEq, PyData.int.injEq, and_true] at e
    exact F.ext e.1 e.2.1 e.2.2
  refine ⟨f, rfl, dk, n0, by omega, by omega, by omega, f, rfl, dk, n0, by omega, f, rfl, dk, n0, by omega, fD f, rfl, fun g e => inj g e ▸ dk, fD f, rfl, fun g e => inj g e ▸ dk, ?_⟩
  rw [bin]
  refine repr4 _ _ _ _ _ (repr4 _ _ _ _ _ (neSelf (by simp [PyData.plain]) (by simp [PyData.depth]) _ ?_))
  simp only [↓n_asg_if, BQ.n_rt, sSeq, sNext, sRet, sRetF, sRetO, sDrop, sSet, sOwn, sAsg, sPar, sPar3, sAug, sApp, sIf, dIf, dTest, dAnd, dOr, dNot, dAndV, dOrV, d1, d2, d2F, dVar, dOwn, dC, dF, dTup, dLst, dNil, dCons, dCB, dCB1, dCF1, dChain, dChain3, dCall, dCallF, dCallK, aNil, aCons, aDk, dGn, dGnil, dGcons, dGtup, dOdIx, dGsub, dIdxT, dIdxL, dSlT, dSlL, dPart, dNoPart, dIl, dIt, frz, opn, cls, catD, startR, arS, seqOf, n_add, n_addT, n_sub, n_mul, n_fdiv, n_mod, n_pow, n_shl, n_cmp, n_is, n_neg, n_not, n_ixL, n_ixT, n_lenL, n_lenT, n_abs, n_gcd, n_isqrt, n_int, n_tupL, n_tupT, at10, at1n, at20, at21, at2n, at30, at31, at32, at3n, fD, mD, wipeR, dYes, ix32, ix31, n_boolC, sz0, sz1, sz2, sz3, sz4, sz5, sz6, sz7, sz8, n_eqI, n_neI, n_eq3, n_ne3, n_isi_int, n_isi_bool, n_isi_tuple, List.map_cons, List.map_nil, List.length_cons, List.length_nil, List.replicate, List.set_cons_zero, List.set_cons_succ, List.getElem?_cons_zero, List.getElem?_cons_succ, List.filter_cons, List.filter_nil, Ar.isDk, List.all_cons, List.all_nil, no_dt, no_un, no_ow, no_dk, Bool.and_eq_true, Bool.true_and, Bool.and_true, Bool.false_eq_true, if_false, if_true, ite_true, ite_false, Option.some.injEq, exists_eq_left', true_and, and_true, List.cons_append, List.nil_append, Nat.sub_self, decide_eq_true_eq, Nat.reduceAdd, Nat.reduceSub, Nat.zero_add, Nat.le_refl, Nat.zero_le]
  refine ⟨f, rfl, dk, f.a, f.b, rfl, _, _, rfl, f, rfl, dk, n0, f, rfl, dk, n0, ?_⟩
  refine neSelf (by simp [PyData.plain, PyData.plainAll]) (by simp [PyData.depth, PyData.depthAll]) _ ?_
  simp only [↓n_asg_if, BQ.n_rt, sSeq, sNext, sRet, sRetF, sRetO, sDrop, sSet, sOwn, sAsg, sPar, sPar3, sAug, sApp, sIf, dIf, dTest, dAnd, dOr, dNot, dAndV, dOrV, d1, d2, d2F, dVar, dOwn, dC, dF, dTup, dLst, dNil, dCons, dCB, dCB1, dCF1, dChain, dChain3, dCall, dCallF, dCallK, aNil, aCons, aDk, dGn, dGnil, dGcons, dGtup, dOdIx, dGsub, dIdxT, dIdxL, dSlT, dSlL, dPart, dNoPart, dIl, dIt, frz, opn, cls, catD, startR, arS, seqOf, n_add, n_addT, n_sub, n_mul, n_fdiv, n_mod, n_pow, n_shl, n_cmp, n_is, n_neg, n_not, n_ixL, n_ixT, n_lenL, n_lenT, n_abs, n_gcd, n_isqrt, n_int, n_tupL, n_tupT, at10, at1n, at20, at21, at2n, at30, at31, at32, at3n, fD, mD, wipeR, dYes, ix32, ix31, n_boolC, sz0, sz1, sz2, sz3, sz4, sz5, sz6, sz7, sz8, n_eqI, n_neI, n_eq3, n_ne3, n_isi_int, n_isi_bool, n_isi_tuple, List.map_cons, List.map_nil, List.length_cons, List.length_nil, List.replicate, List.set_cons_zero, List.set_cons_succ, List.getElem?_cons_zero, List.getElem?_cons_succ, List.filter_cons, List.filter_nil, Ar.isDk, List.all_cons, List.all_nil, no_dt, no_un, no_ow, no_dk, Bool.and_eq_true, Bool.true_and, Bool.and_true, Bool.false_eq_true, if_false, if_true, ite_true, ite_false, Option.some.injEq, exists_eq_left', true_and, and_true, List.cons_append, List.nil_append, Nat.sub_self, decide_eq_true_eq, Nat.reduceAdd, Nat.reduceSub, Nat.zero_add, Nat.le_refl, Nat.zero_le]
  refine ⟨f, rfl, dk, n0, f, rfl, dk, n0, ?_⟩
  refine repr2 _ _ _ ?_
  unfold dRep
  simp only [↓n_asg_if, BQ.n_rt, sSeq, sNext, sRet, sRetF, sRetO, sDrop, sSet, sOwn, sAsg, sPar, sPar3, sAug, sApp, sIf, dIf, dTest, dAnd, dOr, dNot, dAndV, dOrV, d1, d2, d2F, dVar, dOwn, dC, dF, dTup, dLst, dNil, dCons, dCB, dCB1, dCF1, dChain, dChain3, dCall, dCallF, dCallK, aNil, aCons, aDk, dGn, dGnil, dGcons, dGtup, dOdIx, dGsub, dIdxT, dIdxL, dSlT, dSlL, dPart, dNoPart, dIl, dIt, frz, opn, cls, catD, startR, arS, seqOf, n_add, n_addT, n_sub, n_mul, n_fdiv, n_mod, n_pow, n_shl, n_cmp, n_is, n_neg, n_not, n_ixL, n_ixT, n_lenL, n_lenT, n_abs, n_gcd, n_isqrt, n_int, n_tupL, n_tupT, at10, at1n, at20, at21, at2n, at30, at31, at32, at3n, fD, mD, wipeR, dYes, ix32, ix31, n_boolC, sz0, sz1, sz2, sz3, sz4, sz5, sz6, sz7, sz8, n_eqI, n_neI, n_eq3, n_ne3, n_isi_int, n_isi_bool, n_isi_tuple, List.map_cons, List.map_nil, List.length_cons, List.length_nil, List.replicate, List.set_cons_zero, List.set_cons_succ, List.getElem?_cons_zero, List.getElem?_cons_succ, List.filter_cons, List.filter_nil, Ar.isDk, List.all_cons, List.all_nil, no_dt, no_un, no_ow, no_dk, Bool.and_eq_true, Bool.true_and, Bool.and_true, Bool.false_eq_true, if_false, if_true, ite_true, ite_false, Option.some.injEq, exists_eq_left', true_and, and_true, List.cons_append, List.nil_append, Nat.sub_self, decide_eq_true_eq, Nat.reduceAdd, Nat.reduceSub, Nat.zero_add, Nat.le_refl, Nat.zero_le]
  refine ⟨by decide, by decide, by show 1 * 2 ≤ sizeLine; decide, ?_⟩
  refine repr2 _ _ _ (neSelf (by simp [PyData.plain]) (by simp [PyData.depth]) _ ?_)
  simp only [↓n_asg_if, BQ.n_rt, sSeq, sNext, sRet, sRetF, sRetO, sDrop, sSet, sOwn, sAsg, sPar, sPar3, sAug, sApp, sIf, dIf, dTest, dAnd, dOr, dNot, dAndV, dOrV, d1, d2, d2F, dVar, dOwn, dC, dF, dTup, dLst, dNil, dCons, dCB, dCB1, dCF1, dChain, dChain3, dCall, dCallF, dCallK, aNil, aCons, aDk, dGn, dGnil, dGcons, dGtup, dOdIx, dGsub, dIdxT, dIdxL, dSlT, dSlL, dPart, dNoPart, dIl, dIt, frz, opn, cls, catD, startR, arS, seqOf, n_add, n_addT, n_sub, n_mul, n_fdiv, n_mod, n_pow, n_shl, n_cmp, n_is, n_neg, n_not, n_ixL, n_ixT, n_lenL, n_lenT, n_abs, n_gcd, n_isqrt, n_int, n_tupL, n_tupT, at10, at1n, at20, at21, at2n, at30, at31, at32, at3n, fD, mD, wipeR, dYes, ix32, ix31, n_boolC, sz0, sz1, sz2, sz3, sz4, sz5, sz6, sz7, sz8, n_eqI, n_neI, n_eq3, n_ne3, n_isi_int, n_isi_bool, n_isi_tuple, List.map_cons, List.map_nil, List.length_cons, List.length_nil, List.replicate, List.set_cons_zero, List.set_cons_succ, List.getElem?_cons_zero, List.getElem?_cons_succ, List.filter_cons, List.filter_nil, Ar.isDk, List.all_cons, List.all_nil, no_dt, no_un, no_ow, no_dk, Bool.and_eq_true, Bool.true_and, Bool.and_true, Bool.false_eq_true, if_false, if_true, ite_true, ite_false, Option.some.injEq, exists_eq_left', true_and, and_true, List.cons_append, List.nil_append, Nat.sub_self, decide_eq_true_eq, Nat.reduceAdd, Nat.reduceSub, Nat.zero_add, Nat.le_refl, Nat.zero_le]
  refine ⟨f, rfl, h1, fun L hL => ⟨f, rfl, h1, fun L1 hL1 => ⟨f, rfl, h1, fun L2 hL2 => ?_⟩⟩⟩
  rw [hL1.det hL, hL2.det hL]
  obtain ⟨pl, dp⟩ := plainTL L
  refine neSelf (by simp [PyData.plain, PyData.plainAll] at pl ⊢; exact pl) (by simp [PyData.depth, PyData.depthAll] at dp ⊢; omega) _ ?_
  simp only [↓n_asg_if, BQ.n_rt, sSeq, sNext, sRet, sRetF, sRetO, sDrop, sSet, sOwn, sAsg, sPar, sPar3, sAug, sApp, sIf, dIf, dTest, dAnd, dOr, dNot, dAndV, dOrV, d1, d2, d2F, dVar, dOwn, dC, dF, dTup, dLst, dNil, dCons, dCB, dCB1, dCF1, dChain, dChain3, dCall, dCallF, dCallK, aNil, aCons, aDk, dGn, dGnil, dGcons, dGtup, dOdIx, dGsub, dIdxT, dIdxL, dSlT, dSlL, dPart, dNoPart, dIl, dIt, frz, opn, cls, catD, startR, arS, seqOf, n_add, n_addT, n_sub, n_mul, n_fdiv, n_mod, n_pow, n_shl, n_cmp, n_is, n_neg, n_not, n_ixL, n_ixT, n_lenL, n_lenT, n_abs, n_gcd, n_isqrt, n_int, n_tupL, n_tupT, at10, at1n, at20, at21, at2n, at30, at31, at32, at3n, fD, mD, wipeR, dYes, ix32, ix31, n_boolC, sz0, sz1, sz2, sz3, sz4, sz5, sz6, sz7, sz8, n_eqI, n_neI, n_eq3, n_ne3, n_isi_int, n_isi_bool, n_isi_tuple, List.map_cons, List.map_nil, List.length_cons, List.length_nil, List.replicate, List.set_cons_zero, List.set_cons_succ, List.getElem?_cons_zero, List.getElem?_cons_succ, List.filter_cons, List.filter_nil, Ar.isDk, List.all_cons, List.all_nil, no_dt, no_un, no_ow, no_dk, Bool.and_eq_true, Bool.true_and, Bool.and_true, Bool.false_eq_true, if_false, if_true, ite_true, ite_false, Option.some.injEq, exists_eq_left', true_and, and_true, List.cons_append, List.nil_append, Nat.sub_self, decide_eq_true_eq, Nat.reduceAdd, Nat.reduceSub, Nat.zero_add, Nat.le_refl, Nat.zero_le]
  refine ⟨f, rfl, h1, fun L3 R m hL3 hd hm dt mb => ?_⟩
  have eL := hL3.det hL
  subst eL
  have hd0 : atI (L3.map fD) 0 = some (fD R) := by
    cases L3 with
    | nil => cases hd
    | cons g tl =>
      cases hd
      unfold atI ixN
      rw [if_pos (Int.le_refl 0), if_pos (by rw [List.length_map, List.length_cons]; omega)]
      rfl
  have byok : ByOk f m := byBig (by omega) (by omega) c60 mb (by decide)
  have ps := mB mb.1 mb.2.2.2 (by decide)
  have qr := mB mb.2.1 mb.2.2.1 (by decide)
  have foldR : PyData.tuple [.int R.a, .int R.b, .int R.c] = fD R := rfl
  have plR : (fD R).plain = true := by simp [fD, PyData.plain, PyData.plainAll]
  have dpR : (fD R).depth ≤ 64 := Nat.le_trans (depth3 (a := R.a) (b := R.b) (c := R.c)) (by decide)
  simp only [↓n_asg_if, BQ.n_rt, sSeq, sNext, sRet, sRetF, sRetO, sDrop, sSet, sOwn, sAsg, sPar, sPar3, sAug, sApp, sIf, dIf, dTest, dAnd, dOr, dNot, dAndV, dOrV, d1, d2, d2F, dVar, dOwn, dC, dF, dTup, dLst, dNil, dCons, dCB, dCB1, dCF1, dChain, dChain3, dCall, dCallF, dCallK, aNil, aCons, aDk, dGn, dGnil, dGcons, dGtup, dOdIx, dGsub, dIdxT, dIdxL, dSlT, dSlL, dPart, dNoPart, dIl, dIt, frz, opn, cls, catD, startR, arS, seqOf, n_add, n_addT, n_sub, n_mul, n_fdiv, n_mod, n_pow, n_shl, n_cmp, n_is, n_neg, n_not, n_ixL, n_ixT, n_lenL, n_lenT, n_abs, n_gcd, n_isqrt, n_int, n_tupL, n_tupT, at10, at1n, at20, at21, at2n, at30, at31, at32, at3n, fD, mD, wipeR, dYes, ix32, ix31, n_boolC, sz0, sz1, sz2, sz3, sz4, sz5, sz6, sz7, sz8, n_eqI, n_neI, n_eq3, n_ne3, n_isi_int, n_isi_bool, n_isi_tuple, List.map_cons, List.map_nil, List.length_cons, List.length_nil, List.replicate, List.set_cons_zero, List.set_cons_succ, List.getElem?_cons_zero, List.getElem?_cons_succ, List.filter_cons, List.filter_nil, Ar.isDk, List.all_cons, List.all_nil, no_dt, no_un, no_ow, no_dk, Bool.and_eq_true, Bool.true_and, Bool.and_true, Bool.false_eq_true, if_false, if_true, ite_true, ite_false, Option.some.injEq, exists_eq_left', true_and, and_true, List.cons_append, List.nil_append, Nat.sub_self, decide_eq_true_eq, Nat.reduceAdd, Nat.reduceSub, Nat.zero_add, Nat.le_refl, Nat.zero_le]
  refine ⟨fD R, hd0, neSelf plR dpR _ ?_⟩
  simp only [↓n_asg_if, BQ.n_rt, sSeq, sNext, sRet, sRetF, sRetO, sDrop, sSet, sOwn, sAsg, sPar, sPar3, sAug, sApp, sIf, dIf, dTest, dAnd, dOr, dNot, dAndV, dOrV, d1, d2, d2F, dVar, dOwn, dC, dF, dTup, dLst, dNil, dCons, dCB, dCB1, dCF1, dChain, dChain3, dCall, dCallF, dCallK, aNil, aCons, aDk, dGn, dGnil, dGcons, dGtup, dOdIx, dGsub, dIdxT, dIdxL, dSlT, dSlL, dPart, dNoPart, dIl, dIt, frz, opn, cls, catD, startR, arS, seqOf, n_add, n_addT, n_sub, n_mul, n_fdiv, n_mod, n_pow, n_shl, n_cmp, n_is, n_neg, n_not, n_ixL, n_ixT, n_lenL, n_lenT, n_abs, n_gcd, n_isqrt, n_int, n_tupL, n_tupT, at10, at1n, at20, at21, at2n, at30, at31, at32, at3n, fD, mD, wipeR, dYes, ix32, ix31, n_boolC, sz0, sz1, sz2, sz3, sz4, sz5, sz6, sz7, sz8, n_eqI, n_neI, n_eq3, n_ne3, n_isi_int, n_isi_bool, n_isi_tuple, List.map_cons, List.map_nil, List.length_cons, List.length_nil, List.replicate, List.set_cons_zero, List.set_cons_succ, List.getElem?_cons_zero, List.getElem?_cons_succ, List.filter_cons, List.filter_nil, Ar.isDk, List.all_cons, List.all_nil, no_dt, no_un, no_ow, no_dk, Bool.and_eq_true, Bool.true_and, Bool.and_true, Bool.false_eq_true, if_false, if_true, ite_true, ite_false, Option.some.injEq, exists_eq_left', true_and, and_true, List.cons_append, List.nil_append, Nat.sub_self, decide_eq_true_eq, Nat.reduceAdd, Nat.reduceSub, Nat.zero_add, Nat.le_refl, Nat.zero_le]
  refine ⟨m, rfl, ps, qr, ?_⟩
  rw [decide_eq_true dt]
  simp only [↓n_asg_if, BQ.n_rt, sSeq, sNext, sRet, sRetF, sRetO, sDrop, sSet, sOwn, sAsg, sPar, sPar3, sAug, sApp, sIf, dIf, dTest, dAnd, dOr, dNot, dAndV, dOrV, d1, d2, d2F, dVar, dOwn, dC, dF, dTup, dLst, dNil, dCons, dCB, dCB1, dCF1, dChain, dChain3, dCall, dCallF, dCallK, aNil, aCons, aDk, dGn, dGnil, dGcons, dGtup, dOdIx, dGsub, dIdxT, dIdxL, dSlT, dSlL, dPart, dNoPart, dIl, dIt, frz, opn, cls, catD, startR, arS, seqOf, n_add, n_addT, n_sub, n_mul, n_fdiv, n_mod, n_pow, n_shl, n_cmp, n_is, n_neg, n_not, n_ixL, n_ixT, n_lenL, n_lenT, n_abs, n_gcd, n_isqrt, n_int, n_tupL, n_tupT, at10, at1n, at20, at21, at2n, at30, at31, at32, at3n, fD, mD, wipeR, dYes, ix32, ix31, n_boolC, sz0, sz1, sz2, sz3, sz4, sz5, sz6, sz7, sz8, n_eqI, n_neI, n_eq3, n_ne3, n_isi_int, n_isi_bool, n_isi_tuple, List.map_cons, List.map_nil, List.length_cons, List.length_nil, List.replicate, List.set_cons_zero, List.set_cons_succ, List.getElem?_cons_zero, List.getElem?_cons_succ, List.filter_cons, List.filter_nil, Ar.isDk, List.all_cons, List.all_nil, no_dt, no_un, no_ow, no_dk, Bool.and_eq_true, Bool.true_and, Bool.and_true, Bool.false_eq_true, if_false, if_true, ite_true, ite_false, Option.some.injEq, exists_eq_left', true_and, and_true, List.cons_append, List.nil_append, Nat.sub_self, decide_eq_true_eq, Nat.reduceAdd, Nat.reduceSub, Nat.zero_add, Nat.le_refl, Nat.zero_le]
  rw [if_neg (by decide)]
  refine ⟨f, m, rfl, byok, ?_⟩
  rw [hm]
  refine neSelf plR dpR _ ?_
  simp only [↓n_asg_if, BQ.n_rt, sSeq, sNext, sRet, sRetF, sRetO, sDrop, sSet, sOwn, sAsg, sPar, sPar3, sAug, sApp, sIf, dIf, dTest, dAnd, dOr, dNot, dAndV, dOrV, d1, d2, d2F, dVar, dOwn, dC, dF, dTup, dLst, dNil, dCons, dCB, dCB1, dCF1, dChain, dChain3, dCall, dCallF, dCallK, aNil, aCons, aDk, dGn, dGnil, dGcons, dGtup, dOdIx, dGsub, dIdxT, dIdxL, dSlT, dSlL, dPart, dNoPart, dIl, dIt, frz, opn, cls, catD, startR, arS, seqOf, n_add, n_addT, n_sub, n_mul, n_fdiv, n_mod, n_pow, n_shl, n_cmp, n_is, n_neg, n_not, n_ixL, n_ixT, n_lenL, n_lenT, n_abs, n_gcd, n_isqrt, n_int, n_tupL, n_tupT, at10, at1n, at20, at21, at2n, at30, at31, at32, at3n, fD, mD, wipeR, dYes, ix32, ix31, n_boolC, sz0, sz1, sz2, sz3, sz4, sz5, sz6, sz7, sz8, n_eqI, n_neI, n_eq3, n_ne3, n_isi_int, n_isi_bool, n_isi_tuple, List.map_cons, List.map_nil, List.length_cons, List.length_nil, List.replicate, List.set_cons_zero, List.set_cons_succ, List.getElem?_cons_zero, List.getElem?_cons_succ, List.filter_cons, List.filter_nil, Ar.isDk, List.all_cons, List.all_nil, no_dt, no_un, no_ow, no_dk, Bool.and_eq_true, Bool.true_and, Bool.and_true, Bool.false_eq_true, if_false, if_true, ite_true, ite_false, Option.some.injEq, exists_eq_left', true_and, and_true, List.cons_append, List.nil_append, Nat.sub_self, decide_eq_true_eq, Nat.reduceAdd, Nat.reduceSub, Nat.zero_add, Nat.le_refl, Nat.zero_le]
  refine ⟨f, m, rfl, dk, n0, ps, qr, dt, byok, ?_⟩
  rw [hm]
  refine neSelf plR dpR _ ?_
  simp only [↓n_asg_if, BQ.n_rt, sSeq, sNext, sRet, sRetF, sRetO, sDrop, sSet, sOwn, sAsg, sPar, sPar3, sAug, sApp, sIf, dIf, dTest, dAnd, dOr, dNot, dAndV, dOrV, d1, d2, d2F, dVar, dOwn, dC, dF, dTup, dLst, dNil, dCons, dCB, dCB1, dCF1, dChain, dChain3, dCall, dCallF, dCallK, aNil, aCons, aDk, dGn, dGnil, dGcons, dGtup, dOdIx, dGsub, dIdxT, dIdxL, dSlT, dSlL, dPart, dNoPart, dIl, dIt, frz, opn, cls, catD, startR, arS, seqOf, n_add, n_addT, n_sub, n_mul, n_fdiv, n_mod, n_pow, n_shl, n_cmp, n_is, n_neg, n_not, n_ixL, n_ixT, n_lenL, n_lenT, n_abs, n_gcd, n_isqrt, n_int, n_tupL, n_tupT, at10, at1n, at20, at21, at2n, at30, at31, at32, at3n, fD, mD, wipeR, dYes, ix32, ix31, n_boolC, sz0, sz1, sz2, sz3, sz4, sz5, sz6, sz7, sz8, n_eqI, n_neI, n_eq3, n_ne3, n_isi_int, n_isi_bool, n_isi_tuple, List.map_cons, List.map_nil, List.length_cons, List.length_nil, List.replicate, List.set_cons_zero, List.set_cons_succ, List.getElem?_cons_zero, List.getElem?_cons_succ, List.filter_cons, List.filter_nil, Ar.isDk, List.all_cons, List.all_nil, no_dt, no_un, no_ow, no_dk, Bool.and_eq_true, Bool.true_and, Bool.and_true, Bool.false_eq_true, if_false, if_true, ite_true, ite_false, Option.some.injEq, exists_eq_left', true_and, and_true, List.cons_append, List.nil_append, Nat.sub_self, decide_eq_true_eq, Nat.reduceAdd, Nat.reduceSub, Nat.zero_add, Nat.le_refl, Nat.zero_le]
  refine ⟨f, rfl, h1, fun L4 R2 m2 hL4 hd2 hm2 dt2 mb2 => ?_⟩
  rw [hL4.det hL3] at hd2
  have eR : R2 = R := by rw [hd] at hd2; exact (Option.some.inj hd2).symm
  subst eR
  have byok2 : ByOk f m2 := byBig (by omega) (by omega) c60 mb2 (by decide)
  simp only [↓n_asg_if, BQ.n_rt, sSeq, sNext, sRet, sRetF, sRetO, sDrop, sSet, sOwn, sAsg, sPar, sPar3, sAug, sApp, sIf, dIf, dTest, dAnd, dOr, dNot, dAndV, dOrV, d1, d2, d2F, dVar, dOwn, dC, dF, dTup, dLst, dNil, dCons, dCB, dCB1, dCF1, dChain, dChain3, dCall, dCallF, dCallK, aNil, aCons, aDk, dGn, dGnil, dGcons, dGtup, dOdIx, dGsub, dIdxT, dIdxL, dSlT, dSlL, dPart, dNoPart, dIl, dIt, frz, opn, cls, catD, startR, arS, seqOf, n_add, n_addT, n_sub, n_mul, n_fdiv, n_mod, n_pow, n_shl, n_cmp, n_is, n_neg, n_not, n_ixL, n_ixT, n_lenL, n_lenT, n_abs, n_gcd, n_isqrt, n_int, n_tupL, n_tupT, at10, at1n, at20, at21, at2n, at30, at31, at32, at3n, fD, mD, wipeR, dYes, ix32, ix31, n_boolC, sz0, sz1, sz2, sz3, sz4, sz5, sz6, sz7, sz8, n_eqI, n_neI, n_eq3, n_ne3, n_isi_int, n_isi_bool, n_isi_tuple, List.map_cons, List.map_nil, List.length_cons, List.length_nil, List.replicate, List.set_cons_zero, List.set_cons_succ, List.getElem?_cons_zero, List.getElem?_cons_succ, List.filter_cons, List.filter_nil, Ar.isDk, List.all_cons, List.all_nil, no_dt, no_un, no_ow, no_dk, Bool.and_eq_true, Bool.true_and, Bool.and_true, Bool.false_eq_true, if_false, if_true, ite_true, ite_false, Option.some.injEq, exists_eq_left', true_and, and_true, List.cons_append, List.nil_append, Nat.sub_self, decide_eq_true_eq, Nat.reduceAdd, Nat.reduceSub, Nat.zero_add, Nat.le_refl, Nat.zero_le]
  refine ⟨fD R2, hd0, neSelf plR dpR _ ?_⟩
  simp only [↓n_asg_if, BQ.n_rt, sSeq, sNext, sRet, sRetF, sRetO, sDrop, sSet, sOwn, sAsg, sPar, sPar3, sAug, sApp, sIf, dIf, dTest, dAnd, dOr, dNot, dAndV, dOrV, d1, d2, d2F, dVar, dOwn, dC, dF, dTup, dLst, dNil, dCons, dCB, dCB1, dCF1, dChain, dChain3, dCall, dCallF, dCallK, aNil, aCons, aDk, dGn, dGnil, dGcons, dGtup, dOdIx, dGsub, dIdxT, dIdxL, dSlT, dSlL, dPart, dNoPart, dIl, dIt, frz, opn, cls, catD, startR, arS, seqOf, n_add, n_addT, n_sub, n_mul, n_fdiv, n_mod, n_pow, n_shl, n_cmp, n_is, n_neg, n_not, n_ixL, n_ixT, n_lenL, n_lenT, n_abs, n_gcd, n_isqrt, n_int, n_tupL, n_tupT, at10, at1n, at20, at21, at2n, at30, at31, at32, at3n, fD, mD, wipeR, dYes, ix32, ix31, n_boolC, sz0, sz1, sz2, sz3, sz4, sz5, sz6, sz7, sz8, n_eqI, n_neI, n_eq3, n_ne3, n_isi_int, n_isi_bool, n_isi_tuple, List.map_cons, List.map_nil, List.length_cons, List.length_nil, List.replicate, List.set_cons_zero, List.set_cons_succ, List.getElem?_cons_zero, List.getElem?_cons_succ, List.filter_cons, List.filter_nil, Ar.isDk, List.all_cons, List.all_nil, no_dt, no_un, no_ow, no_dk, Bool.and_eq_true, Bool.true_and, Bool.and_true, Bool.false_eq_true, if_false, if_true, ite_true, ite_false, Option.some.injEq, exists_eq_left', true_and, and_true, List.cons_append, List.nil_append, Nat.sub_self, decide_eq_true_eq, Nat.reduceAdd, Nat.reduceSub, Nat.zero_add, Nat.le_refl, Nat.zero_le]
  refine ⟨f, m2, rfl, byok2, ?_⟩
  rw [hm2]
  refine neSelf plR dpR _ ?_
  simp only [↓n_asg_if, BQ.n_rt, sSeq, sNext, sRet, sRetF, sRetO, sDrop, sSet, sOwn, sAsg, sPar, sPar3, sAug, sApp, sIf, dIf, dTest, dAnd, dOr, dNot, dAndV, dOrV, d1, d2, d2F, dVar, dOwn, dC, dF, dTup, dLst, dNil, dCons, dCB, dCB1, dCF1, dChain, dChain3, dCall, dCallF, dCallK, aNil, aCons, aDk, dGn, dGnil, dGcons, dGtup, dOdIx, dGsub, dIdxT, dIdxL, dSlT, dSlL, dPart, dNoPart, dIl, dIt, frz, opn, cls, catD, startR, arS, seqOf, n_add, n_addT, n_sub, n_mul, n_fdiv, n_mod, n_pow, n_shl, n_cmp, n_is, n_neg, n_not, n_ixL, n_ixT, n_lenL, n_lenT, n_abs, n_gcd, n_isqrt, n_int, n_tupL, n_tupT, at10, at1n, at20, at21, at2n, at30, at31, at32, at3n, fD, mD, wipeR, dYes, ix32, ix31, n_boolC, sz0, sz1, sz2, sz3, sz4, sz5, sz6, sz7, sz8, n_eqI, n_neI, n_eq3, n_ne3, n_isi_int, n_isi_bool, n_isi_tuple, List.map_cons, List.map_nil, List.length_cons, List.length_nil, List.replicate, List.set_cons_zero, List.set_cons_succ, List.getElem?_cons_zero, List.getElem?_cons_succ, List.filter_cons, List.filter_nil, Ar.isDk, List.all_cons, List.all_nil, no_dt, no_un, no_ow, no_dk, Bool.and_eq_true, Bool.true_and, Bool.and_true, Bool.false_eq_true, if_false, if_true, ite_true, ite_false, Option.some.injEq, exists_eq_left', true_and, and_true, List.cons_append, List.nil_append, Nat.sub_self, decide_eq_true_eq, Nat.reduceAdd, Nat.reduceSub, Nat.zero_add, Nat.le_refl, Nat.zero_le]
  have mem := hL3.mem h1 hR
  refine ⟨rfl, ?_⟩
  simp only [↓n_asg_if, BQ.n_rt, sSeq, sNext, sRet, sRetF, sRetO, sDrop, sSet, sOwn, sAsg, sPar, sPar3, sAug, sApp, sIf, dIf, dTest, dAnd, dOr, dNot, dAndV, dOrV, d1, d2, d2F, dVar, dOwn, dC, dF, dTup, dLst, dNil, dCons, dCB, dCB1, dCF1, dChain, dChain3, dCall, dCallF, dCallK, aNil, aCons, aDk, dGn, dGnil, dGcons, dGtup, dOdIx, dGsub, dIdxT, dIdxL, dSlT, dSlL, dPart, dNoPart, dIl, dIt, frz, opn, cls, catD, startR, arS, seqOf, n_add, n_addT, n_sub, n_mul, n_fdiv, n_mod, n_pow, n_shl, n_cmp, n_is, n_neg, n_not, n_ixL, n_ixT, n_lenL, n_lenT, n_abs, n_gcd, n_isqrt, n_int, n_tupL, n_tupT, at10, at1n, at20, at21, at2n, at30, at31, at32, at3n, fD, mD, wipeR, dYes, ix32, ix31, n_boolC, sz0, sz1, sz2, sz3, sz4, sz5, sz6, sz7, sz8, n_eqI, n_neI, n_eq3, n_ne3, n_isi_int, n_isi_bool, n_isi_tuple, List.map_cons, List.map_nil, List.length_cons, List.length_nil, List.replicate, List.set_cons_zero, List.set_cons_succ, List.getElem?_cons_zero, List.getElem?_cons_succ, List.filter_cons, List.filter_nil, Ar.isDk, List.all_cons, List.all_nil, no_dt, no_un, no_ow, no_dk, Bool.and_eq_true, Bool.true_and, Bool.and_true, Bool.false_eq_true, if_false, if_true, ite_true, ite_false, Option.some.injEq, exists_eq_left', true_and, and_true, List.cons_append, List.nil_append, Nat.sub_self, decide_eq_true_eq, Nat.reduceAdd, Nat.reduceSub, Nat.zero_add, Nat.le_refl, Nat.zero_le]
  refine compW_pure (fun _ => some (.bool true)) _ _ (fun d hd K1 K2 hk => ?_) ?_ ?_
  · obtain ⟨g, hg, rfl⟩ := List.mem_map.mp hd
    have mg := mem g hg
    have fg := red_fo (by rw [mg.d]; exact n0) (by rw [mg.d]; exact le) (by rw [mg.d]; exact h1.ge) mg.red
    have gab := fg.ab
    simp only [↓n_asg_if, BQ.n_rt, sSeq, sNext, sRet, sRetF, sRetO, sDrop, sSet, sOwn, sAsg, sPar, sPar3, sAug, sApp, sIf, dIf, dTest, dAnd, dOr, dNot, dAndV, dOrV, d1, d2, d2F, dVar, dOwn, dC, dF, dTup, dLst, dNil, dCons, dCB, dCB1, dCF1, dChain, dChain3, dCall, dCallF, dCallK, aNil, aCons, aDk, dGn, dGnil, dGcons, dGtup, dOdIx, dGsub, dIdxT, dIdxL, dSlT, dSlL, dPart, dNoPart, dIl, dIt, frz, opn, cls, catD, startR, arS, seqOf, n_add, n_addT, n_sub, n_mul, n_fdiv, n_mod, n_pow, n_shl, n_cmp, n_is, n_neg, n_not, n_ixL, n_ixT, n_lenL, n_lenT, n_abs, n_gcd, n_isqrt, n_int, n_tupL, n_tupT, at10, at1n, at20, at21, at2n, at30, at31, at32, at3n, fD, mD, wipeR, dYes, ix32, ix31, n_boolC, sz0, sz1, sz2, sz3, sz4, sz5, sz6, sz7, sz8, n_eqI, n_neI, n_eq3, n_ne3, n_isi_int, n_isi_bool, n_isi_tuple, List.map_cons, List.map_nil, List.length_cons, List.length_nil, List.replicate, List.set_cons_zero, List.set_cons_succ, List.getElem?_cons_zero, List.getElem?_cons_succ, List.filter_cons, List.filter_nil, Ar.isDk, List.all_cons, List.all_nil, no_dt, no_un, no_ow, no_dk, Bool.and_eq_true, Bool.true_and, Bool.and_true, Bool.false_eq_true, if_false, if_true, ite_true, ite_false, Option.some.injEq, exists_eq_left', true_and, and_true, List.cons_append, List.nil_append, Nat.sub_self, decide_eq_true_eq, Nat.reduceAdd, Nat.reduceSub, Nat.zero_add, Nat.le_refl, Nat.zero_le]
    exact ⟨g, rfl, fg.dk, fg.n0, by have := fg.le; omega, by omega, by omega, by rw [mg.red]; exact hk⟩
  · rw [List.length_nil, List.length_map]
    have := (hL3.len h1).1
    have := sizeLine_eq
    omega
  · refine ⟨L3.map fun _ => true, ?_, ?_⟩
    · rw [List.nil_append, filterMap_pure, List.map_map, List.map_map]
      rfl
    · have allt : (L3.map fun _ => true).all (fun b => b) = true := by simp
      dsimp only
      rw [allt, if_neg (by decide)]
      have inc : ∀ Φ' : PyData → Prop, f ∈ L3 → Φ' (.bool false) → inP true (fD f) (.tuple (L3.map fD)) Φ' := fun Φ' hf hh => by
        refine ⟨by have := depth_forms L3; omega, ?_⟩
        have : ((L3.map fD).any fun z => PyData.eqv z (fD f)) = true := List.any_eq_true.mpr ⟨fD f, List.mem_map.mpr ⟨f, hf, rfl⟩, by rw [eqvF]; simp⟩
        rw [this]; exact hh
      have odd : ¬ ((L3.map fD).length : Int).fmod 2 = 1 ∨ ¬ (0 < f.disc ∧ isSplit f.disc = false) := by
        by_cases z : 0 < f.disc ∧ isSplit f.disc = false
        · left
          obtain ⟨ev, _⟩ := hL3.even h1 hR z.1 z.2
          rw [List.length_map, Int.fmod_eq_emod_of_nonneg _ (by decide)]
          omega
        · exact .inr z
      have own : 0 < f.disc → isSplit f.disc = false → isRedP f = true → f ∈ L3 := fun z1 z2 => (hL3.even h1 hR z1 z2).2
      have len := hL3.len h1
      by_cases hd : 0 < f.disc
      · rw [if_pos hd]
        refine ⟨f.disc, rfl, by omega, ?_⟩
        simp only [↓n_asg_if, BQ.n_rt, sSeq, sNext, sRet, sRetF, sRetO, sDrop, sSet, sOwn, sAsg, sPar, sPar3, sAug, sApp, sIf, dIf, dTest, dAnd, dOr, dNot, dAndV, dOrV, d1, d2, d2F, dVar, dOwn, dC, dF, dTup, dLst, dNil, dCons, dCB, dCB1, dCF1, dChain, dChain3, dCall, dCallF, dCallK, aNil, aCons, aDk, dGn, dGnil, dGcons, dGtup, dOdIx, dGsub, dIdxT, dIdxL, dSlT, dSlL, dPart, dNoPart, dIl, dIt, frz, opn, cls, catD, startR, arS, seqOf, n_add, n_addT, n_sub, n_mul, n_fdiv, n_mod, n_pow, n_shl, n_cmp, n_is, n_neg, n_not, n_ixL, n_ixT, n_lenL, n_lenT, n_abs, n_gcd, n_isqrt, n_int, n_tupL, n_tupT, at10, at1n, at20, at21, at2n, at30, at31, at32, at3n, fD, mD, wipeR, dYes, ix32, ix31, n_boolC, sz0, sz1, sz2, sz3, sz4, sz5, sz6, sz7, sz8, n_eqI, n_neI, n_eq3, n_ne3, n_isi_int, n_isi_bool, n_isi_tuple, List.map_cons, List.map_nil, List.length_cons, List.length_nil, List.replicate, List.set_cons_zero, List.set_cons_succ, List.getElem?_cons_zero, List.getElem?_cons_succ, List.filter_cons, List.filter_nil, Ar.isDk, List.all_cons, List.all_nil, no_dt, no_un, no_ow, no_dk, Bool.and_eq_true, Bool.true_and, Bool.and_true, Bool.false_eq_true, if_false, if_true, ite_true, ite_false, Option.some.injEq, exists_eq_left', true_and, and_true, List.cons_append, List.nil_append, Nat.sub_self, decide_eq_true_eq, Nat.reduceAdd, Nat.reduceSub, Nat.zero_add, Nat.le_refl, Nat.zero_le]
        by_cases hs : isSplit f.disc = true
        · rw [if_neg (by simp [hs])]
          refine ⟨rfl, ?_⟩
          unfold dRg1
          simp only [↓n_asg_if, BQ.n_rt, sSeq, sNext, sRet, sRetF, sRetO, sDrop, sSet, sOwn, sAsg, sPar, sPar3, sAug, sApp, sIf, dIf, dTest, dAnd, dOr, dNot, dAndV, dOrV, d1, d2, d2F, dVar, dOwn, dC, dF, dTup, dLst, dNil, dCons, dCB, dCB1, dCF1, dChain, dChain3, dCall, dCallF, dCallK, aNil, aCons, aDk, dGn, dGnil, dGcons, dGtup, dOdIx, dGsub, dIdxT, dIdxL, dSlT, dSlL, dPart, dNoPart, dIl, dIt, frz, opn, cls, catD, startR, arS, seqOf, n_add, n_addT, n_sub, n_mul, n_fdiv, n_mod, n_pow, n_shl, n_cmp, n_is, n_neg, n_not, n_ixL, n_ixT, n_lenL, n_lenT, n_abs, n_gcd, n_isqrt, n_int, n_tupL, n_tupT, at10, at1n, at20, at21, at2n, at30, at31, at32, at3n, fD, mD, wipeR, dYes, ix32, ix31, n_boolC, sz0, sz1, sz2, sz3, sz4, sz5, sz6, sz7, sz8, n_eqI, n_neI, n_eq3, n_ne3, n_isi_int, n_isi_bool, n_isi_tuple, List.map_cons, List.map_nil, List.length_cons, List.length_nil, List.replicate, List.set_cons_zero, List.set_cons_succ, List.getElem?_cons_zero, List.getElem?_cons_succ, List.filter_cons, List.filter_nil, Ar.isDk, List.all_cons, List.all_nil, no_dt, no_un, no_ow, no_dk, Bool.and_eq_true, Bool.true_and, Bool.and_true, Bool.false_eq_true, if_false, if_true, ite_true, ite_false, Option.some.injEq, exists_eq_left', true_and, and_true, List.cons_append, List.nil_append, Nat.sub_self, decide_eq_true_eq, Nat.reduceAdd, Nat.reduceSub, Nat.zero_add, Nat.le_refl, Nat.zero_le]
          refine ⟨by decide, ?_⟩
          refine compW_inv (fun ds acc c' => acc.length + ds.length = 3 ∧ c' + ds.length ≤ c + 3 ∧ ∀ z, z ∈ acc → z ∈ L3.map fD) ?_ ?_ ?_ _ _ _ ⟨rfl, by show c + 3 ≤ c + 3; omega, fun z hz => by cases hz⟩
          · rintro d r acc c' ⟨i1, i2, i3⟩ K1 K2 k1 k2
            rw [List.length_cons] at i1 i2
            simp only [↓n_asg_if, BQ.n_rt, sSeq, sNext, sRet, sRetF, sRetO, sDrop, sSet, sOwn, sAsg, sPar, sPar3, sAug, sApp, sIf, dIf, dTest, dAnd, dOr, dNot, dAndV, dOrV, d1, d2, d2F, dVar, dOwn, dC, dF, dTup, dLst, dNil, dCons, dCB, dCB1, dCF1, dChain, dChain3, dCall, dCallF, dCallK, aNil, aCons, aDk, dGn, dGnil, dGcons, dGtup, dOdIx, dGsub, dIdxT, dIdxL, dSlT, dSlL, dPart, dNoPart, dIl, dIt, frz, opn, cls, catD, startR, arS, seqOf, n_add, n_addT, n_sub, n_mul, n_fdiv, n_mod, n_pow, n_shl, n_cmp, n_is, n_neg, n_not, n_ixL, n_ixT, n_lenL, n_lenT, n_abs, n_gcd, n_isqrt, n_int, n_tupL, n_tupT, at10, at1n, at20, at21, at2n, at30, at31, at32, at3n, fD, mD, wipeR, dYes, ix32, ix31, n_boolC, sz0, sz1, sz2, sz3, sz4, sz5, sz6, sz7, sz8, n_eqI, n_neI, n_eq3, n_ne3, n_isi_int, n_isi_bool, n_isi_tuple, List.map_cons, List.map_nil, List.length_cons, List.length_nil, List.replicate, List.set_cons_zero, List.set_cons_succ, List.getElem?_cons_zero, List.getElem?_cons_succ, List.filter_cons, List.filter_nil, Ar.isDk, List.all_cons, List.all_nil, no_dt, no_un, no_ow, no_dk, Bool.and_eq_true, Bool.true_and, Bool.and_true, Bool.false_eq_true, if_false, if_true, ite_true, ite_false, Option.some.injEq, exists_eq_left', true_and, and_true, List.cons_append, List.nil_append, Nat.sub_self, decide_eq_true_eq, Nat.reduceAdd, Nat.reduceSub, Nat.zero_add, Nat.le_refl, Nat.zero_le]
            refine ⟨(L3.map fD).length, rfl, by rw [List.length_map]; omega, by omega, fun q q0 q1 => ?_⟩
            simp only [↓n_asg_if, BQ.n_rt, sSeq, sNext, sRet, sRetF, sRetO, sDrop, sSet, sOwn, sAsg, sPar, sPar3, sAug, sApp, sIf, dIf, dTest, dAnd, dOr, dNot, dAndV, dOrV, d1, d2, d2F, dVar, dOwn, dC, dF, dTup, dLst, dNil, dCons, dCB, dCB1, dCF1, dChain, dChain3, dCall, dCallF, dCallK, aNil, aCons, aDk, dGn, dGnil, dGcons, dGtup, dOdIx, dGsub, dIdxT, dIdxL, dSlT, dSlL, dPart, dNoPart, dIl, dIt, frz, opn, cls, catD, startR, arS, seqOf, n_add, n_addT, n_sub, n_mul, n_fdiv, n_mod, n_pow, n_shl, n_cmp, n_is, n_neg, n_not, n_ixL, n_ixT, n_lenL, n_lenT, n_abs, n_gcd, n_isqrt, n_int, n_tupL, n_tupT, at10, at1n, at20, at21, at2n, at30, at31, at32, at3n, fD, mD, wipeR, dYes, ix32, ix31, n_boolC, sz0, sz1, sz2, sz3, sz4, sz5, sz6, sz7, sz8, n_eqI, n_neI, n_eq3, n_ne3, n_isi_int, n_isi_bool, n_isi_tuple, List.map_cons, List.map_nil, List.length_cons, List.length_nil, List.replicate, List.set_cons_zero, List.set_cons_succ, List.getElem?_cons_zero, List.getElem?_cons_succ, List.filter_cons, List.filter_nil, Ar.isDk, List.all_cons, List.all_nil, no_dt, no_un, no_ow, no_dk, Bool.and_eq_true, Bool.true_and, Bool.and_true, Bool.false_eq_true, if_false, if_true, ite_true, ite_false, Option.some.injEq, exists_eq_left', true_and, and_true, List.cons_append, List.nil_append, Nat.sub_self, decide_eq_true_eq, Nat.reduceAdd, Nat.reduceSub, Nat.zero_add, Nat.le_refl, Nat.zero_le]
            obtain ⟨z, hz, ez⟩ := atI_mem (ds := L3.map fD) q0 (by rw [List.length_map] at q1 ⊢; omega)
            refine ⟨z, ez, k1 z _ ⟨by rw [List.length_append, List.length_singleton]; omega, by omega, fun y hy => ?_⟩⟩
            rcases List.mem_append.mp hy with hy | hy
            · exact i3 y hy
            · rw [List.mem_singleton.mp hy]; exact hz
          · rintro d r acc c' ⟨i1, _, _⟩
            rw [List.length_cons] at i1
            have := sizeLine_eq
            omega
          · rintro acc c' ⟨i1, i2, i3⟩
            rw [List.length_nil] at i1 i2
            refine ⟨rfl, ?_⟩
            simp only [↓n_asg_if, BQ.n_rt, sSeq, sNext, sRet, sRetF, sRetO, sDrop, sSet, sOwn, sAsg, sPar, sPar3, sAug, sApp, sIf, dIf, dTest, dAnd, dOr, dNot, dAndV, dOrV, d1, d2, d2F, dVar, dOwn, dC, dF, dTup, dLst, dNil, dCons, dCB, dCB1, dCF1, dChain, dChain3, dCall, dCallF, dCallK, aNil, aCons, aDk, dGn, dGnil, dGcons, dGtup, dOdIx, dGsub, dIdxT, dIdxL, dSlT, dSlL, dPart, dNoPart, dIl, dIt, frz, opn, cls, catD, startR, arS, seqOf, n_add, n_addT, n_sub, n_mul, n_fdiv, n_mod, n_pow, n_shl, n_cmp, n_is, n_neg, n_not, n_ixL, n_ixT, n_lenL, n_lenT, n_abs, n_gcd, n_isqrt, n_int, n_tupL, n_tupT, at10, at1n, at20, at21, at2n, at30, at31, at32, at3n, fD, mD, wipeR, dYes, ix32, ix31, n_boolC, sz0, sz1, sz2, sz3, sz4, sz5, sz6, sz7, sz8, n_eqI, n_neI, n_eq3, n_ne3, n_isi_int, n_isi_bool, n_isi_tuple, List.map_cons, List.map_nil, List.length_cons, List.length_nil, List.replicate, List.set_cons_zero, List.set_cons_succ, List.getElem?_cons_zero, List.getElem?_cons_succ, List.filter_cons, List.filter_nil, Ar.isDk, List.all_cons, List.all_nil, no_dt, no_un, no_ow, no_dk, Bool.and_eq_true, Bool.true_and, Bool.and_true, Bool.false_eq_true, if_false, if_true, ite_true, ite_false, Option.some.injEq, exists_eq_left', true_and, and_true, List.cons_append, List.nil_append, Nat.sub_self, decide_eq_true_eq, Nat.reduceAdd, Nat.reduceSub, Nat.zero_add, Nat.le_refl, Nat.zero_le]
            have sub : ∀ z, z ∈ DL.cutD acc none (some 2) → z ∈ L3.map fD := fun z hz => i3 z (List.mem_of_mem_drop (List.mem_of_mem_take hz))
            have lc : (DL.cutD acc none (some 2)).length ≤ 3 := by
              unfold DL.cutD
              rw [List.length_take, List.length_drop]
              omega
            refine compW_pure (fun _ => some (.bool true)) _ _ (fun d hd K1 K2 hk => ?_) (by rw [List.length_nil]; have := sizeLine_eq; omega) ?_
            · obtain ⟨g, hg, rfl⟩ := List.mem_map.mp (sub d hd)
              have mg := mem g hg
              have fg := red_fo (by rw [mg.d]; exact n0) (by rw [mg.d]; exact le) (by rw [mg.d]; exact h1.ge) mg.red
              simp only [↓n_asg_if, BQ.n_rt, sSeq, sNext, sRet, sRetF, sRetO, sDrop, sSet, sOwn, sAsg, sPar, sPar3, sAug, sApp, sIf, dIf, dTest, dAnd, dOr, dNot, dAndV, dOrV, d1, d2, d2F, dVar, dOwn, dC, dF, dTup, dLst, dNil, dCons, dCB, dCB1, dCF1, dChain, dChain3, dCall, dCallF, dCallK, aNil, aCons, aDk, dGn, dGnil, dGcons, dGtup, dOdIx, dGsub, dIdxT, dIdxL, dSlT, dSlL, dPart, dNoPart, dIl, dIt, frz, opn, cls, catD, startR, arS, seqOf, n_add, n_addT, n_sub, n_mul, n_fdiv, n_mod, n_pow, n_shl, n_cmp, n_is, n_neg, n_not, n_ixL, n_ixT, n_lenL, n_lenT, n_abs, n_gcd, n_isqrt, n_int, n_tupL, n_tupT, at10, at1n, at20, at21, at2n, at30, at31, at32, at3n, fD, mD, wipeR, dYes, ix32, ix31, n_boolC, sz0, sz1, sz2, sz3, sz4, sz5, sz6, sz7, sz8, n_eqI, n_neI, n_eq3, n_ne3, n_isi_int, n_isi_bool, n_isi_tuple, List.map_cons, List.map_nil, List.length_cons, List.length_nil, List.replicate, List.set_cons_zero, List.set_cons_succ, List.getElem?_cons_zero, List.getElem?_cons_succ, List.filter_cons, List.filter_nil, Ar.isDk, List.all_cons, List.all_nil, no_dt, no_un, no_ow, no_dk, Bool.and_eq_true, Bool.true_and, Bool.and_true, Bool.false_eq_true, if_false, if_true, ite_true, ite_false, Option.some.injEq, exists_eq_left', true_and, and_true, List.cons_append, List.nil_append, Nat.sub_self, decide_eq_true_eq, Nat.reduceAdd, Nat.reduceSub, Nat.zero_add, Nat.le_refl, Nat.zero_le]
              refine ⟨g, rfl, fg.dk, fg.n0, by have := fg.le; omega, ?_⟩
              rw [mg.red]
              simp only [↓n_asg_if, BQ.n_rt, sSeq, sNext, sRet, sRetF, sRetO, sDrop, sSet, sOwn, sAsg, sPar, sPar3, sAug, sApp, sIf, dIf, dTest, dAnd, dOr, dNot, dAndV, dOrV, d1, d2, d2F, dVar, dOwn, dC, dF, dTup, dLst, dNil, dCons, dCB, dCB1, dCF1, dChain, dChain3, dCall, dCallF, dCallK, aNil, aCons, aDk, dGn, dGnil, dGcons, dGtup, dOdIx, dGsub, dIdxT, dIdxL, dSlT, dSlL, dPart, dNoPart, dIl, dIt, frz, opn, cls, catD, startR, arS, seqOf, n_add, n_addT, n_sub, n_mul, n_fdiv, n_mod, n_pow, n_shl, n_cmp, n_is, n_neg, n_not, n_ixL, n_ixT, n_lenL, n_lenT, n_abs, n_gcd, n_isqrt, n_int, n_tupL, n_tupT, at10, at1n, at20, at21, at2n, at30, at31, at32, at3n, fD, mD, wipeR, dYes, ix32, ix31, n_boolC, sz0, sz1, sz2, sz3, sz4, sz5, sz6, sz7, sz8, n_eqI, n_neI, n_eq3, n_ne3, n_isi_int, n_isi_bool, n_isi_tuple, List.map_cons, List.map_nil, List.length_cons, List.length_nil, List.replicate, List.set_cons_zero, List.set_cons_succ, List.getElem?_cons_zero, List.getElem?_cons_succ, List.filter_cons, List.filter_nil, Ar.isDk, List.all_cons, List.all_nil, no_dt, no_un, no_ow, no_dk, Bool.and_eq_true, Bool.true_and, Bool.and_true, Bool.false_eq_true, if_false, if_true, ite_true, ite_false, Option.some.injEq, exists_eq_left', true_and, and_true, List.cons_append, List.nil_append, Nat.sub_self, decide_eq_true_eq, Nat.reduceAdd, Nat.reduceSub, Nat.zero_add, Nat.le_refl, Nat.zero_le]
              rw [if_pos (by decide)]
              refine ⟨g, rfl, fg, fun L hL => ?_⟩
              rw [hL.det mg.cy]
              exact eqSelf (plainTL L3).1 (by have := (plainTL L3).2; omega) _ hk
            · refine ⟨(DL.cutD acc none (some 2)).map fun _ => true, ?_, ?_⟩
              · rw [List.nil_append, filterMap_pure, List.map_map]
                rfl
              · have allt2 : ((DL.cutD acc none (some 2)).map fun _ => true).all (fun b => b) = true := by simp
                dsimp only
                rw [allt2]
                exact h c' (by omega)
        · rw [if_pos (by simp [hs])]
          have hs : isSplit f.disc = false := by simpa using hs
          rw [if_neg (odd.resolve_right fun z => z ⟨hd, hs⟩)]
          refine ⟨by decide, ?_⟩
          by_cases hred : isRedP f = true
          · rw [if_pos hred]
            refine inc _ (own hd hs hred) ?_
            simp only [↓n_asg_if, BQ.n_rt, sSeq, sNext, sRet, sRetF, sRetO, sDrop, sSet, sOwn, sAsg, sPar, sPar3, sAug, sApp, sIf, dIf, dTest, dAnd, dOr, dNot, dAndV, dOrV, d1, d2, d2F, dVar, dOwn, dC, dF, dTup, dLst, dNil, dCons, dCB, dCB1, dCF1, dChain, dChain3, dCall, dCallF, dCallK, aNil, aCons, aDk, dGn, dGnil, dGcons, dGtup, dOdIx, dGsub, dIdxT, dIdxL, dSlT, dSlL, dPart, dNoPart, dIl, dIt, frz, opn, cls, catD, startR, arS, seqOf, n_add, n_addT, n_sub, n_mul, n_fdiv, n_mod, n_pow, n_shl, n_cmp, n_is, n_neg, n_not, n_ixL, n_ixT, n_lenL, n_lenT, n_abs, n_gcd, n_isqrt, n_int, n_tupL, n_tupT, at10, at1n, at20, at21, at2n, at30, at31, at32, at3n, fD, mD, wipeR, dYes, ix32, ix31, n_boolC, sz0, sz1, sz2, sz3, sz4, sz5, sz6, sz7, sz8, n_eqI, n_neI, n_eq3, n_ne3, n_isi_int, n_isi_bool, n_isi_tuple, List.map_cons, List.map_nil, List.length_cons, List.length_nil, List.replicate, List.set_cons_zero, List.set_cons_succ, List.getElem?_cons_zero, List.getElem?_cons_succ, List.filter_cons, List.filter_nil, Ar.isDk, List.all_cons, List.all_nil, no_dt, no_un, no_ow, no_dk, Bool.and_eq_true, Bool.true_and, Bool.and_true, Bool.false_eq_true, if_false, if_true, ite_true, ite_false, Option.some.injEq, exists_eq_left', true_and, and_true, List.cons_append, List.nil_append, Nat.sub_self, decide_eq_true_eq, Nat.reduceAdd, Nat.reduceSub, Nat.zero_add, Nat.le_refl, Nat.zero_le]
            refine ⟨rfl, ?_⟩
            unfold dRg1
            simp only [↓n_asg_if, BQ.n_rt, sSeq, sNext, sRet, sRetF, sRetO, sDrop, sSet, sOwn, sAsg, sPar, sPar3, sAug, sApp, sIf, dIf, dTest, dAnd, dOr, dNot, dAndV, dOrV, d1, d2, d2F, dVar, dOwn, dC, dF, dTup, dLst, dNil, dCons, dCB, dCB1, dCF1, dChain, dChain3, dCall, dCallF, dCallK, aNil, aCons, aDk, dGn, dGnil, dGcons, dGtup, dOdIx, dGsub, dIdxT, dIdxL, dSlT, dSlL, dPart, dNoPart, dIl, dIt, frz, opn, cls, catD, startR, arS, seqOf, n_add, n_addT, n_sub, n_mul, n_fdiv, n_mod, n_pow, n_shl, n_cmp, n_is, n_neg, n_not, n_ixL, n_ixT, n_lenL, n_lenT, n_abs, n_gcd, n_isqrt, n_int, n_tupL, n_tupT, at10, at1n, at20, at21, at2n, at30, at31, at32, at3n, fD, mD, wipeR, dYes, ix32, ix31, n_boolC, sz0, sz1, sz2, sz3, sz4, sz5, sz6, sz7, sz8, n_eqI, n_neI, n_eq3, n_ne3, n_isi_int, n_isi_bool, n_isi_tuple, List.map_cons, List.map_nil, List.length_cons, List.length_nil, List.replicate, List.set_cons_zero, List.set_cons_succ, List.getElem?_cons_zero, List.getElem?_cons_succ, List.filter_cons, List.filter_nil, Ar.isDk, List.all_cons, List.all_nil, no_dt, no_un, no_ow, no_dk, Bool.and_eq_true, Bool.true_and, Bool.and_true, Bool.false_eq_true, if_false, if_true, ite_true, ite_false, Option.some.injEq, exists_eq_left', true_and, and_true, List.cons_append, List.nil_append, Nat.sub_self, decide_eq_true_eq, Nat.reduceAdd, Nat.reduceSub, Nat.zero_add, Nat.le_refl, Nat.zero_le]
            refine ⟨by decide, ?_⟩
            refine compW_inv (fun ds acc c' => acc.length + ds.length = 3 ∧ c' + ds.length ≤ c + 3 ∧ ∀ z, z ∈ acc → z ∈ L3.map fD) ?_ ?_ ?_ _ _ _ ⟨rfl, by show c + 3 ≤ c + 3; omega, fun z hz => by cases hz⟩
            · rintro d r acc c' ⟨i1, i2, i3⟩ K1 K2 k1 k2
              rw [List.length_cons] at i1 i2
              simp only [↓n_asg_if, BQ.n_rt, sSeq, sNext, sRet, sRetF, sRetO, sDrop, sSet, sOwn, sAsg, sPar, sPar3, sAug, sApp, sIf, dIf, dTest, dAnd, dOr, dNot, dAndV, dOrV, d1, d2, d2F, dVar, dOwn, dC, dF, dTup, dLst, dNil, dCons, dCB, dCB1, dCF1, dChain, dChain3, dCall, dCallF, dCallK, aNil, aCons, aDk, dGn, dGnil, dGcons, dGtup, dOdIx, dGsub, dIdxT, dIdxL, dSlT, dSlL, dPart, dNoPart, dIl, dIt, frz, opn, cls, catD, startR, arS, seqOf, n_add, n_addT, n_sub, n_mul, n_fdiv, n_mod, n_pow, n_shl, n_cmp, n_is, n_neg, n_not, n_ixL, n_ixT, n_lenL, n_lenT, n_abs, n_gcd, n_isqrt, n_int, n_tupL, n_tupT, at10, at1n, at20, at21, at2n, at30, at31, at32, at3n, fD, mD, wipeR, dYes, ix32, ix31, n_boolC, sz0, sz1, sz2, sz3, sz4, sz5, sz6, sz7, sz8, n_eqI, n_neI, n_eq3, n_ne3, n_isi_int, n_isi_bool, n_isi_tuple, List.map_cons, List.map_nil, List.length_cons, List.length_nil, List.replicate, List.set_cons_zero, List.set_cons_succ, List.getElem?_cons_zero, List.getElem?_cons_succ, List.filter_cons, List.filter_nil, Ar.isDk, List.all_cons, List.all_nil, no_dt, no_un, no_ow, no_dk, Bool.and_eq_true, Bool.true_and, Bool.and_true, Bool.false_eq_true, if_false, if_true, ite_true, ite_false, Option.some.injEq, exists_eq_left', true_and, and_true, List.cons_append, List.nil_append, Nat.sub_self, decide_eq_true_eq, Nat.reduceAdd, Nat.reduceSub, Nat.zero_add, Nat.le_refl, Nat.zero_le]
              refine ⟨(L3.map fD).length, rfl, by rw [List.length_map]; omega, by omega, fun q q0 q1 => ?_⟩
              simp only [↓n_asg_if, BQ.n_rt, sSeq, sNext, sRet, sRetF, sRetO, sDrop, sSet, sOwn, sAsg, sPar, sPar3, sAug, sApp, sIf, dIf, dTest, dAnd, dOr, dNot, dAndV, dOrV, d1, d2, d2F, dVar, dOwn, dC, dF, dTup, dLst, dNil, dCons, dCB, dCB1, dCF1, dChain, dChain3, dCall, dCallF, dCallK, aNil, aCons, aDk, dGn, dGnil, dGcons, dGtup, dOdIx, dGsub, dIdxT, dIdxL, dSlT, dSlL, dPart, dNoPart, dIl, dIt, frz, opn, cls, catD, startR, arS, seqOf, n_add, n_addT, n_sub, n_mul, n_fdiv, n_mod, n_pow, n_shl, n_cmp, n_is, n_neg, n_not, n_ixL, n_ixT, n_lenL, n_lenT, n_abs, n_gcd, n_isqrt, n_int, n_tupL, n_tupT, at10, at1n, at20, at21, at2n, at30, at31, at32, at3n, fD, mD, wipeR, dYes, ix32, ix31, n_boolC, sz0, sz1, sz2, sz3, sz4, sz5, sz6, sz7, sz8, n_eqI, n_neI, n_eq3, n_ne3, n_isi_int, n_isi_bool, n_isi_tuple, List.map_cons, List.map_nil, List.length_cons, List.length_nil, List.replicate, List.set_cons_zero, List.set_cons_succ, List.getElem?_cons_zero, List.getElem?_cons_succ, List.filter_cons, List.filter_nil, Ar.isDk, List.all_cons, List.all_nil, no_dt, no_un, no_ow, no_dk, Bool.and_eq_true, Bool.true_and, Bool.and_true, Bool.false_eq_true, if_false, if_true, ite_true, ite_false, Option.some.injEq, exists_eq_left', true_and, and_true, List.cons_append, List.nil_append, Nat.sub_self, decide_eq_true_eq, Nat.reduceAdd, Nat.reduceSub, Nat.zero_add, Nat.le_refl, Nat.zero_le]
              obtain ⟨z, hz, ez⟩ := atI_mem (ds := L3.map fD) q0 (by rw [List.length_map] at q1 ⊢; omega)
              refine ⟨z, ez, k1 z _ ⟨by rw [List.length_append, List.length_singleton]; omega, by omega, fun y hy => ?_⟩⟩
              rcases List.mem_append.mp hy with hy | hy
              · exact i3 y hy
              · rw [List.mem_singleton.mp hy]; exact hz
            · rintro d r acc c' ⟨i1, _, _⟩
              rw [List.length_cons] at i1
              have := sizeLine_eq
              omega
            · rintro acc c' ⟨i1, i2, i3⟩
              rw [List.length_nil] at i1 i2
              refine ⟨rfl, ?_⟩
              simp only [↓n_asg_if, BQ.n_rt, sSeq, sNext, sRet, sRetF, sRetO, sDrop, sSet, sOwn, sAsg, sPar, sPar3, sAug, sApp, sIf, dIf, dTest, dAnd, dOr, dNot, dAndV, dOrV, d1, d2, d2F, dVar, dOwn, dC, dF, dTup, dLst, dNil, dCons, dCB, dCB1, dCF1, dChain, dChain3, dCall, dCallF, dCallK, aNil, aCons, aDk, dGn, dGnil, dGcons, dGtup, dOdIx, dGsub, dIdxT, dIdxL, dSlT, dSlL, dPart, dNoPart, dIl, dIt, frz, opn, cls, catD, startR, arS, seqOf, n_add, n_addT, n_sub, n_mul, n_fdiv, n_mod, n_pow, n_shl, n_cmp, n_is, n_neg, n_not, n_ixL, n_ixT, n_lenL, n_lenT, n_abs, n_gcd, n_isqrt, n_int, n_tupL, n_tupT, at10, at1n, at20, at21, at2n, at30, at31, at32, at3n, fD, mD, wipeR, dYes, ix32, ix31, n_boolC, sz0, sz1, sz2, sz3, sz4, sz5, sz6, sz7, sz8, n_eqI, n_neI, n_eq3, n_ne3, n_isi_int, n_isi_bool, n_isi_tuple, List.map_cons, List.map_nil, List.length_cons, List.length_nil, List.replicate, List.set_cons_zero, List.set_cons_succ, List.getElem?_cons_zero, List.getElem?_cons_succ, List.filter_cons, List.filter_nil, Ar.isDk, List.all_cons, List.all_nil, no_dt, no_un, no_ow, no_dk, Bool.and_eq_true, Bool.true_and, Bool.and_true, Bool.false_eq_true, if_false, if_true, ite_true, ite_false, Option.some.injEq, exists_eq_left', true_and, and_true, List.cons_append, List.nil_append, Nat.sub_self, decide_eq_true_eq, Nat.reduceAdd, Nat.reduceSub, Nat.zero_add, Nat.le_refl, Nat.zero_le]
              have sub : ∀ z, z ∈ DL.cutD acc none (some 2) → z ∈ L3.map fD := fun z hz => i3 z (List.mem_of_mem_drop (List.mem_of_mem_take hz))
              have lc : (DL.cutD acc none (some 2)).length ≤ 3 := by
                unfold DL.cutD
                rw [List.length_take, List.length_drop]
                omega
              refine compW_pure (fun _ => some (.bool true)) _ _ (fun d hd K1 K2 hk => ?_) (by rw [List.length_nil]; have := sizeLine_eq; omega) ?_
              · obtain ⟨g, hg, rfl⟩ := List.mem_map.mp (sub d hd)
                have mg := mem g hg
                have fg := red_fo (by rw [mg.d]; exact n0) (by rw [mg.d]; exact le) (by rw [mg.d]; exact h1.ge) mg.red
                simp only [↓n_asg_if, BQ.n_rt, sSeq, sNext, sRet, sRetF, sRetO, sDrop, sSet, sOwn, sAsg, sPar, sPar3, sAug, sApp, sIf, dIf, dTest, dAnd, dOr, dNot, dAndV, dOrV, d1, d2, d2F, dVar, dOwn, dC, dF, dTup, dLst, dNil, dCons, dCB, dCB1, dCF1, dChain, dChain3, dCall, dCallF, dCallK, aNil, aCons, aDk, dGn, dGnil, dGcons, dGtup, dOdIx, dGsub, dIdxT, dIdxL, dSlT, dSlL, dPart, dNoPart, dIl, dIt, frz, opn, cls, catD, startR, arS, seqOf, n_add, n_addT, n_sub, n_mul, n_fdiv, n_mod, n_pow, n_shl, n_cmp, n_is, n_neg, n_not, n_ixL, n_ixT, n_lenL, n_lenT, n_abs, n_gcd, n_isqrt, n_int, n_tupL, n_tupT, at10, at1n, at20, at21, at2n, at30, at31, at32, at3n, fD, mD, wipeR, dYes, ix32, ix31, n_boolC, sz0, sz1, sz2, sz3, sz4, sz5, sz6, sz7, sz8, n_eqI, n_neI, n_eq3, n_ne3, n_isi_int, n_isi_bool, n_isi_tuple, List.map_cons, List.map_nil, List.length_cons, List.length_nil, List.replicate, List.set_cons_zero, List.set_cons_succ, List.getElem?_cons_zero, List.getElem?_cons_succ, List.filter_cons, List.filter_nil, Ar.isDk, List.all_cons, List.all_nil, no_dt, no_un, no_ow, no_dk, Bool.and_eq_true, Bool.true_and, Bool.and_true, Bool.false_eq_true, if_false, if_true, ite_true, ite_false, Option.some.injEq, exists_eq_left', true_and, and_true, List.cons_append, List.nil_append, Nat.sub_self, decide_eq_true_eq, Nat.reduceAdd, Nat.reduceSub, Nat.zero_add, Nat.le_refl, Nat.zero_le]
                refine ⟨g, rfl, fg.dk, fg.n0, by have := fg.le; omega, ?_⟩
                rw [mg.red]
                simp only [↓n_asg_if, BQ.n_rt, sSeq, sNext, sRet, sRetF, sRetO, sDrop, sSet, sOwn, sAsg, sPar, sPar3, sAug, sApp, sIf, dIf, dTest, dAnd, dOr, dNot, dAndV, dOrV, d1, d2, d2F, dVar, dOwn, dC, dF, dTup, dLst, dNil, dCons, dCB, dCB1, dCF1, dChain, dChain3, dCall, dCallF, dCallK, aNil, aCons, aDk, dGn, dGnil, dGcons, dGtup, dOdIx, dGsub, dIdxT, dIdxL, dSlT, dSlL, dPart, dNoPart, dIl, dIt, frz, opn, cls, catD, startR, arS, seqOf, n_add, n_addT, n_sub, n_mul, n_fdiv, n_mod, n_pow, n_shl, n_cmp, n_is, n_neg, n_not, n_ixL, n_ixT, n_lenL, n_lenT, n_abs, n_gcd, n_isqrt, n_int, n_tupL, n_tupT, at10, at1n, at20, at21, at2n, at30, at31, at32, at3n, fD, mD, wipeR, dYes, ix32, ix31, n_boolC, sz0, sz1, sz2, sz3, sz4, sz5, sz6, sz7, sz8, n_eqI, n_neI, n_eq3, n_ne3, n_isi_int, n_isi_bool, n_isi_tuple, List.map_cons, List.map_nil, List.length_cons, List.length_nil, List.replicate, List.set_cons_zero, List.set_cons_succ, List.getElem?_cons_zero, List.getElem?_cons_succ, List.filter_cons, List.filter_nil, Ar.isDk, List.all_cons, List.all_nil, no_dt, no_un, no_ow, no_dk, Bool.and_eq_true, Bool.true_and, Bool.and_true, Bool.false_eq_true, if_false, if_true, ite_true, ite_false, Option.some.injEq, exists_eq_left', true_and, and_true, List.cons_append, List.nil_append, Nat.sub_self, decide_eq_true_eq, Nat.reduceAdd, Nat.reduceSub, Nat.zero_add, Nat.le_refl, Nat.zero_le]
                rw [if_pos (by decide)]
                refine ⟨g, rfl, fg, fun L hL => ?_⟩
                rw [hL.det mg.cy]
                exact eqSelf (plainTL L3).1 (by have := (plainTL L3).2; omega) _ hk
              · refine ⟨(DL.cutD acc none (some 2)).map fun _ => true, ?_, ?_⟩
                · rw [List.nil_append, filterMap_pure, List.map_map]
                  rfl
                · have allt2 : ((DL.cutD acc none (some 2)).map fun _ => true).all (fun b => b) = true := by simp
                  dsimp only
                  rw [allt2]
                  exact h c' (by omega)
          · rw [if_neg hred]
            refine ⟨rfl, ?_⟩
            unfold dRg1
            simp only [↓n_asg_if, BQ.n_rt, sSeq, sNext, sRet, sRetF, sRetO, sDrop, sSet, sOwn, sAsg, sPar, sPar3, sAug, sApp, sIf, dIf, dTest, dAnd, dOr, dNot, dAndV, dOrV, d1, d2, d2F, dVar, dOwn, dC, dF, dTup, dLst, dNil, dCons, dCB, dCB1, dCF1, dChain, dChain3, dCall, dCallF, dCallK, aNil, aCons, aDk, dGn, dGnil, dGcons, dGtup, dOdIx, dGsub, dIdxT, dIdxL, dSlT, dSlL, dPart, dNoPart, dIl, dIt, frz, opn, cls, catD, startR, arS, seqOf, n_add, n_addT, n_sub, n_mul, n_fdiv, n_mod, n_pow, n_shl, n_cmp, n_is, n_neg, n_not, n_ixL, n_ixT, n_lenL, n_lenT, n_abs, n_gcd, n_isqrt, n_int, n_tupL, n_tupT, at10, at1n, at20, at21, at2n, at30, at31, at32, at3n, fD, mD, wipeR, dYes, ix32, ix31, n_boolC, sz0, sz1, sz2, sz3, sz4, sz5, sz6, sz7, sz8, n_eqI, n_neI, n_eq3, n_ne3, n_isi_int, n_isi_bool, n_isi_tuple, List.map_cons, List.map_nil, List.length_cons, List.length_nil, List.replicate, List.set_cons_zero, List.set_cons_succ, List.getElem?_cons_zero, List.getElem?_cons_succ, List.filter_cons, List.filter_nil, Ar.isDk, List.all_cons, List.all_nil, no_dt, no_un, no_ow, no_dk, Bool.and_eq_true, Bool.true_and, Bool.and_true, Bool.false_eq_true, if_false, if_true, ite_true, ite_false, Option.some.injEq, exists_eq_left', true_and, and_true, List.cons_append, List.nil_append, Nat.sub_self, decide_eq_true_eq, Nat.reduceAdd, Nat.reduceSub, Nat.zero_add, Nat.le_refl, Nat.zero_le]
            refine ⟨by decide, ?_⟩
            refine compW_inv (fun ds acc c' => acc.length + ds.length = 3 ∧ c' + ds.length ≤ c + 3 ∧ ∀ z, z ∈ acc → z ∈ L3.map fD) ?_ ?_ ?_ _ _ _ ⟨rfl, by show c + 3 ≤ c + 3; omega, fun z hz => by cases hz⟩
            · rintro d r acc c' ⟨i1, i2, i3⟩ K1 K2 k1 k2
              rw [List.length_cons] at i1 i2
              simp only [↓n_asg_if, BQ.n_rt, sSeq, sNext, sRet, sRetF, sRetO, sDrop, sSet, sOwn, sAsg, sPar, sPar3, sAug, sApp, sIf, dIf, dTest, dAnd, dOr, dNot, dAndV, dOrV, d1, d2, d2F, dVar, dOwn, dC, dF, dTup, dLst, dNil, dCons, dCB, dCB1, dCF1, dChain, dChain3, dCall, dCallF, dCallK, aNil, aCons, aDk, dGn, dGnil, dGcons, dGtup, dOdIx, dGsub, dIdxT, dIdxL, dSlT, dSlL, dPart, dNoPart, dIl, dIt, frz, opn, cls, catD, startR, arS, seqOf, n_add, n_addT, n_sub, n_mul, n_fdiv, n_mod, n_pow, n_shl, n_cmp, n_is, n_neg, n_not, n_ixL, n_ixT, n_lenL, n_lenT, n_abs, n_gcd, n_isqrt, n_int, n_tupL, n_tupT, at10, at1n, at20, at21, at2n, at30, at31, at32, at3n, fD, mD, wipeR, dYes, ix32, ix31, n_boolC, sz0, sz1, sz2, sz3, sz4, sz5, sz6, sz7, sz8, n_eqI, n_neI, n_eq3, n_ne3, n_isi_int, n_isi_bool, n_isi_tuple, List.map_cons, List.map_nil, List.length_cons, List.length_nil, List.replicate, List.set_cons_zero, List.set_cons_succ, List.getElem?_cons_zero, List.getElem?_cons_succ, List.filter_cons, List.filter_nil, Ar.isDk, List.all_cons, List.all_nil, no_dt, no_un, no_ow, no_dk, Bool.and_eq_true, Bool.true_and, Bool.and_true, Bool.false_eq_true, if_false, if_true, ite_true, ite_false, Option.some.injEq, exists_eq_left', true_and, and_true, List.cons_append, List.nil_append, Nat.sub_self, decide_eq_true_eq, Nat.reduceAdd, Nat.reduceSub, Nat.zero_add, Nat.le_refl, Nat.zero_le]
              refine ⟨(L3.map fD).length, rfl, by rw [List.length_map]; omega, by omega, fun q q0 q1 => ?_⟩
              simp only [↓n_asg_if, BQ.n_rt, sSeq, sNext, sRet, sRetF, sRetO, sDrop, sSet, sOwn, sAsg, sPar, sPar3, sAug, sApp, sIf, dIf, dTest, dAnd, dOr, dNot, dAndV, dOrV, d1, d2, d2F, dVar, dOwn, dC, dF, dTup, dLst, dNil, dCons, dCB, dCB1, dCF1, dChain, dChain3, dCall, dCallF, dCallK, aNil, aCons, aDk, dGn, dGnil, dGcons, dGtup, dOdIx, dGsub, dIdxT, dIdxL, dSlT, dSlL, dPart, dNoPart, dIl, dIt, frz, opn, cls, catD, startR, arS, seqOf, n_add, n_addT, n_sub, n_mul, n_fdiv, n_mod, n_pow, n_shl, n_cmp, n_is, n_neg, n_not, n_ixL, n_ixT, n_lenL, n_lenT, n_abs, n_gcd, n_isqrt, n_int, n_tupL, n_tupT, at10, at1n, at20, at21, at2n, at30, at31, at32, at3n, fD, mD, wipeR, dYes, ix32, ix31, n_boolC, sz0, sz1, sz2, sz3, sz4, sz5, sz6, sz7, sz8, n_eqI, n_neI, n_eq3, n_ne3, n_isi_int, n_isi_bool, n_isi_tuple, List.map_cons, List.map_nil, List.length_cons, List.length_nil, List.replicate, List.set_cons_zero, List.set_cons_succ, List.getElem?_cons_zero, List.getElem?_cons_succ, List.filter_cons, List.filter_nil, Ar.isDk, List.all_cons, List.all_nil, no_dt, no_un, no_ow, no_dk, Bool.and_eq_true, Bool.true_and, Bool.and_true, Bool.false_eq_true, if_false, if_true, ite_true, ite_false, Option.some.injEq, exists_eq_left', true_and, and_true, List.cons_append, List.nil_append, Nat.sub_self, decide_eq_true_eq, Nat.reduceAdd, Nat.reduceSub, Nat.zero_add, Nat.le_refl, Nat.zero_le]
              obtain ⟨z, hz, ez⟩ := atI_mem (ds := L3.map fD) q0 (by rw [List.length_map] at q1 ⊢; omega)
              refine ⟨z, ez, k1 z _ ⟨by rw [List.length_append, List.length_singleton]; omega, by omega, fun y hy => ?_⟩⟩
              rcases List.mem_append.mp hy with hy | hy
              · exact i3 y hy
              · rw [List.mem_singleton.mp hy]; exact hz
            · rintro d r acc c' ⟨i1, _, _⟩
              rw [List.length_cons] at i1
              have := sizeLine_eq
              omega
            · rintro acc c' ⟨i1, i2, i3⟩
              rw [List.length_nil] at i1 i2
              refine ⟨rfl, ?_⟩
              simp only [↓n_asg_if, BQ.n_rt, sSeq, sNext, sRet, sRetF, sRetO, sDrop, sSet, sOwn, sAsg, sPar, sPar3, sAug, sApp, sIf, dIf, dTest, dAnd, dOr, dNot, dAndV, dOrV, d1, d2, d2F, dVar, dOwn, dC, dF, dTup, dLst, dNil, dCons, dCB, dCB1, dCF1, dChain, dChain3, dCall, dCallF, dCallK, aNil, aCons, aDk, dGn, dGnil, dGcons, dGtup, dOdIx, dGsub, dIdxT, dIdxL, dSlT, dSlL, dPart, dNoPart, dIl, dIt, frz, opn, cls, catD, startR, arS, seqOf, n_add, n_addT, n_sub, n_mul, n_fdiv, n_mod, n_pow, n_shl, n_cmp, n_is, n_neg, n_not, n_ixL, n_ixT, n_lenL, n_lenT, n_abs, n_gcd, n_isqrt, n_int, n_tupL, n_tupT, at10, at1n, at20, at21, at2n, at30, at31, at32, at3n, fD, mD, wipeR, dYes, ix32, ix31, n_boolC, sz0, sz1, sz2, sz3, sz4, sz5, sz6, sz7, sz8, n_eqI, n_neI, n_eq3, n_ne3, n_isi_int, n_isi_bool, n_isi_tuple, List.map_cons, List.map_nil, List.length_cons, List.length_nil, List.replicate, List.set_cons_zero, List.set_cons_succ, List.getElem?_cons_zero, List.getElem?_cons_succ, List.filter_cons, List.filter_nil, Ar.isDk, List.all_cons, List.all_nil, no_dt, no_un, no_ow, no_dk, Bool.and_eq_true, Bool.true_and, Bool.and_true, Bool.false_eq_true, if_false, if_true, ite_true, ite_false, Option.some.injEq, exists_eq_left', true_and, and_true, List.cons_append, List.nil_append, Nat.sub_self, decide_eq_true_eq, Nat.reduceAdd, Nat.reduceSub, Nat.zero_add, Nat.le_refl, Nat.zero_le]
              have sub : ∀ z, z ∈ DL.cutD acc none (some 2) → z ∈ L3.map fD := fun z hz => i3 z (List.mem_of_mem_drop (List.mem_of_mem_take hz))
              have lc : (DL.cutD acc none (some 2)).length ≤ 3 := by
                unfold DL.cutD
                rw [List.length_take, List.length_drop]
                omega
              refine compW_pure (fun _ => some (.bool true)) _ _ (fun d hd K1 K2 hk => ?_) (by rw [List.length_nil]; have := sizeLine_eq; omega) ?_
              · obtain ⟨g, hg, rfl⟩ := List.mem_map.mp (sub d hd)
                have mg := mem g hg
                have fg := red_fo (by rw [mg.d]; exact n0) (by rw [mg.d]; exact le) (by rw [mg.d]; exact h1.ge) mg.red
                simp only [↓n_asg_if, BQ.n_rt, sSeq, sNext, sRet, sRetF, sRetO, sDrop, sSet, sOwn, sAsg, sPar, sPar3, sAug, sApp, sIf, dIf, dTest, dAnd, dOr, dNot, dAndV, dOrV, d1, d2, d2F, dVar, dOwn, dC, dF, dTup, dLst, dNil, dCons, dCB, dCB1, dCF1, dChain, dChain3, dCall, dCallF, dCallK, aNil, aCons, aDk, dGn, dGnil, dGcons, dGtup, dOdIx, dGsub, dIdxT, dIdxL, dSlT, dSlL, dPart, dNoPart, dIl, dIt, frz, opn, cls, catD, startR, arS, seqOf, n_add, n_addT, n_sub, n_mul, n_fdiv, n_mod, n_pow, n_shl, n_cmp, n_is, n_neg, n_not, n_ixL, n_ixT, n_lenL, n_lenT, n_abs, n_gcd, n_isqrt, n_int, n_tupL, n_tupT, at10, at1n, at20, at21, at2n, at30, at31, at32, at3n, fD, mD, wipeR, dYes, ix32, ix31, n_boolC, sz0, sz1, sz2, sz3, sz4, sz5, sz6, sz7, sz8, n_eqI, n_neI, n_eq3, n_ne3, n_isi_int, n_isi_bool, n_isi_tuple, List.map_cons, List.map_nil, List.length_cons, List.length_nil, List.replicate, List.set_cons_zero, List.set_cons_succ, List.getElem?_cons_zero, List.getElem?_cons_succ, List.filter_cons, List.filter_nil, Ar.isDk, List.all_cons, List.all_nil, no_dt, no_un, no_ow, no_dk, Bool.and_eq_true, Bool.true_and, Bool.and_true, Bool.false_eq_true, if_false, if_true, ite_true, ite_false, Option.some.injEq, exists_eq_left', true_and, and_true, List.cons_append, List.nil_append, Nat.sub_self, decide_eq_true_eq, Nat.reduceAdd, Nat.reduceSub, Nat.zero_add, Nat.le_refl, Nat.zero_le]
                refine ⟨g, rfl, fg.dk, fg.n0, by have := fg.le; omega, ?_⟩
                rw [mg.red]
                simp only [↓n_asg_if, BQ.n_rt, sSeq, sNext, sRet, sRetF, sRetO, sDrop, sSet, sOwn, sAsg, sPar, sPar3, sAug, sApp, sIf, dIf, dTest, dAnd, dOr, dNot, dAndV, dOrV, d1, d2, d2F, dVar, dOwn, dC, dF, dTup, dLst, dNil, dCons, dCB, dCB1, dCF1, dChain, dChain3, dCall, dCallF, dCallK, aNil, aCons, aDk, dGn, dGnil, dGcons, dGtup, dOdIx, dGsub, dIdxT, dIdxL, dSlT, dSlL, dPart, dNoPart, dIl, dIt, frz, opn, cls, catD, startR, arS, seqOf, n_add, n_addT, n_sub, n_mul, n_fdiv, n_mod, n_pow, n_shl, n_cmp, n_is, n_neg, n_not, n_ixL, n_ixT, n_lenL, n_lenT, n_abs, n_gcd, n_isqrt, n_int, n_tupL, n_tupT, at10, at1n, at20, at21, at2n, at30, at31, at32, at3n, fD, mD, wipeR, dYes, ix32, ix31, n_boolC, sz0, sz1, sz2, sz3, sz4, sz5, sz6, sz7, sz8, n_eqI, n_neI, n_eq3, n_ne3, n_isi_int, n_isi_bool, n_isi_tuple, List.map_cons, List.map_nil, List.length_cons, List.length_nil, List.replicate, List.set_cons_zero, List.set_cons_succ, List.getElem?_cons_zero, List.getElem?_cons_succ, List.filter_cons, List.filter_nil, Ar.isDk, List.all_cons, List.all_nil, no_dt, no_un, no_ow, no_dk, Bool.and_eq_true, Bool.true_and, Bool.and_true, Bool.false_eq_true, if_false, if_true, ite_true, ite_false, Option.some.injEq, exists_eq_left', true_and, and_true, List.cons_append, List.nil_append, Nat.sub_self, decide_eq_true_eq, Nat.reduceAdd, Nat.reduceSub, Nat.zero_add, Nat.le_refl, Nat.zero_le]
                rw [if_pos (by decide)]
                refine ⟨g, rfl, fg, fun L hL => ?_⟩
                rw [hL.det mg.cy]
                exact eqSelf (plainTL L3).1 (by have := (plainTL L3).2; omega) _ hk
              · refine ⟨(DL.cutD acc none (some 2)).map fun _ => true, ?_, ?_⟩
                · rw [List.nil_append, filterMap_pure, List.map_map]
                  rfl
                · have allt2 : ((DL.cutD acc none (some 2)).map fun _ => true).all (fun b => b) = true := by simp
                  dsimp only
                  rw [allt2]
                  exact h c' (by omega)
      · rw [if_neg hd]
        refine ⟨rfl, ?_⟩
        unfold dRg1
        simp only [↓n_asg_if, BQ.n_rt, sSeq, sNext, sRet, sRetF, sRetO, sDrop, sSet, sOwn, sAsg, sPar, sPar3, sAug, sApp, sIf, dIf, dTest, dAnd, dOr, dNot, dAndV, dOrV, d1, d2, d2F, dVar, dOwn, dC, dF, dTup, dLst, dNil, dCons, dCB, dCB1, dCF1, dChain, dChain3, dCall, dCallF, dCallK, aNil, aCons, aDk, dGn, dGnil, dGcons, dGtup, dOdIx, dGsub, dIdxT, dIdxL, dSlT, dSlL, dPart, dNoPart, dIl, dIt, frz, opn, cls, catD, startR, arS, seqOf, n_add, n_addT, n_sub, n_mul, n_fdiv, n_mod, n_pow, n_shl, n_cmp, n_is, n_neg, n_not, n_ixL, n_ixT, n_lenL, n_lenT, n_abs, n_gcd, n_isqrt, n_int, n_tupL, n_tupT, at10, at1n, at20, at21, at2n, at30, at31, at32, at3n, fD, mD, wipeR, dYes, ix32, ix31, n_boolC, sz0, sz1, sz2, sz3, sz4, sz5, sz6, sz7, sz8, n_eqI, n_neI, n_eq3, n_ne3, n_isi_int, n_isi_bool, n_isi_tuple, List.map_cons, List.map_nil, List.length_cons, List.length_nil, List.replicate, List.set_cons_zero, List.set_cons_succ, List.getElem?_cons_zero, List.getElem?_cons_succ, List.filter_cons, List.filter_nil, Ar.isDk, List.all_cons, List.all_nil, no_dt, no_un, no_ow, no_dk, Bool.and_eq_true, Bool.true_and, Bool.and_true, Bool.false_eq_true, if_false, if_true, ite_true, ite_false, Option.some.injEq, exists_eq_left', true_and, and_true, List.cons_append, List.nil_append, Nat.sub_self, decide_eq_true_eq, Nat.reduceAdd, Nat.reduceSub, Nat.zero_add, Nat.le_refl, Nat.zero_le]
        refine ⟨by decide, ?_⟩
        refine compW_inv (fun ds acc c' => acc.length + ds.length = 3 ∧ c' + ds.length ≤ c + 3 ∧ ∀ z, z ∈ acc → z ∈ L3.map fD) ?_ ?_ ?_ _ _ _ ⟨rfl, by show c + 3 ≤ c + 3; omega, fun z hz => by cases hz⟩
        · rintro d r acc c' ⟨i1, i2, i3⟩ K1 K2 k1 k2
          rw [List.length_cons] at i1 i2
          simp only [↓n_asg_if, BQ.n_rt, sSeq, sNext, sRet, sRetF, sRetO, sDrop, sSet, sOwn, sAsg, sPar, sPar3, sAug, sApp, sIf, dIf, dTest, dAnd, dOr, dNot, dAndV, dOrV, d1, d2, d2F, dVar, dOwn, dC, dF, dTup, dLst, dNil, dCons, dCB, dCB1, dCF1, dChain, dChain3, dCall, dCallF, dCallK, aNil, aCons, aDk, dGn, dGnil, dGcons, dGtup, dOdIx, dGsub, dIdxT, dIdxL, dSlT, dSlL, dPart, dNoPart, dIl, dIt, frz, opn, cls, catD, startR, arS, seqOf, n_add, n_addT, n_sub, n_mul, n_fdiv, n_mod, n_pow, n_shl, n_cmp, n_is, n_neg, n_not, n_ixL, n_ixT, n_lenL, n_lenT, n_abs, n_gcd, n_isqrt, n_int, n_tupL, n_tupT, at10, at1n, at20, at21, at2n, at30, at31, at32, at3n, fD, mD, wipeR, dYes, ix32, ix31, n_boolC, sz0, sz1, sz2, sz3, sz4, sz5, sz6, sz7, sz8, n_eqI, n_neI, n_eq3, n_ne3, n_isi_int, n_isi_bool, n_isi_tuple, List.map_cons, List.map_nil, List.length_cons, List.length_nil, List.replicate, List.set_cons_zero, List.set_cons_succ, List.getElem?_cons_zero, List.getElem?_cons_succ, List.filter_cons, List.filter_nil, Ar.isDk, List.all_cons, List.all_nil, no_dt, no_un, no_ow, no_dk, Bool.and_eq_true, Bool.true_and, Bool.and_true, Bool.false_eq_true, if_false, if_true, ite_true, ite_false, Option.some.injEq, exists_eq_left', true_and, and_true, List.cons_append, List.nil_append, Nat.sub_self, decide_eq_true_eq, Nat.reduceAdd, Nat.reduceSub, Nat.zero_add, Nat.le_refl, Nat.zero_le]
          refine ⟨(L3.map fD).length, rfl, by rw [List.length_map]; omega, by omega, fun q q0 q1 => ?_⟩
          simp only [↓n_asg_if, BQ.n_rt, sSeq, sNext, sRet, sRetF, sRetO, sDrop, sSet, sOwn, sAsg, sPar, sPar3, sAug, sApp, sIf, dIf, dTest, dAnd, dOr, dNot, dAndV, dOrV, d1, d2, d2F, dVar, dOwn, dC, dF, dTup, dLst, dNil, dCons, dCB, dCB1, dCF1, dChain, dChain3, dCall, dCallF, dCallK, aNil, aCons, aDk, dGn, dGnil, dGcons, dGtup, dOdIx, dGsub, dIdxT, dIdxL, dSlT, dSlL, dPart, dNoPart, dIl, dIt, frz, opn, cls, catD, startR, arS, seqOf, n_add, n_addT, n_sub, n_mul, n_fdiv, n_mod, n_pow, n_shl, n_cmp, n_is, n_neg, n_not, n_ixL, n_ixT, n_lenL, n_lenT, n_abs, n_gcd, n_isqrt, n_int, n_tupL, n_tupT, at10, at1n, at20, at21, at2n, at30, at31, at32, at3n, fD, mD, wipeR, dYes, ix32, ix31, n_boolC, sz0, sz1, sz2, sz3, sz4, sz5, sz6, sz7, sz8, n_eqI, n_neI, n_eq3, n_ne3, n_isi_int, n_isi_bool, n_isi_tuple, List.map_cons, List.map_nil, List.length_cons, List.length_nil, List.replicate, List.set_cons_zero, List.set_cons_succ, List.getElem?_cons_zero, List.getElem?_cons_succ, List.filter_cons, List.filter_nil, Ar.isDk, List.all_cons, List.all_nil, no_dt, no_un, no_ow, no_dk, Bool.and_eq_true, Bool.true_and, Bool.and_true, Bool.false_eq_true, if_false, if_true, ite_true, ite_false, Option.some.injEq, exists_eq_left', true_and, and_true, List.cons_append, List.nil_append, Nat.sub_self, decide_eq_true_eq, Nat.reduceAdd, Nat.reduceSub, Nat.zero_add, Nat.le_refl, Nat.zero_le]
          obtain ⟨z, hz, ez⟩ := atI_mem (ds := L3.map fD) q0 (by rw [List.length_map] at q1 ⊢; omega)
          refine ⟨z, ez, k1 z _ ⟨by rw [List.length_append, List.length_singleton]; omega, by omega, fun y hy => ?_⟩⟩
          rcases List.mem_append.mp hy with hy | hy
          · exact i3 y hy
          · rw [List.mem_singleton.mp hy]; exact hz
        · rintro d r acc c' ⟨i1, _, _⟩
          rw [List.length_cons] at i1
          have := sizeLine_eq
          omega
        · rintro acc c' ⟨i1, i2, i3⟩
          rw [List.length_nil] at i1 i2
          refine ⟨rfl, ?_⟩
          simp only [↓n_asg_if, BQ.n_rt, sSeq, sNext, sRet, sRetF, sRetO, sDrop, sSet, sOwn, sAsg, sPar, sPar3, sAug, sApp, sIf, dIf, dTest, dAnd, dOr, dNot, dAndV, dOrV, d1, d2, d2F, dVar, dOwn, dC, dF, dTup, dLst, dNil, dCons, dCB, dCB1, dCF1, dChain, dChain3, dCall, dCallF, dCallK, aNil, aCons, aDk, dGn, dGnil, dGcons, dGtup, dOdIx, dGsub, dIdxT, dIdxL, dSlT, dSlL, dPart, dNoPart, dIl, dIt, frz, opn, cls, catD, startR, arS, seqOf, n_add, n_addT, n_sub, n_mul, n_fdiv, n_mod, n_pow, n_shl, n_cmp, n_is, n_neg, n_not, n_ixL, n_ixT, n_lenL, n_lenT, n_abs, n_gcd, n_isqrt, n_int, n_tupL, n_tupT, at10, at1n, at20, at21, at2n, at30, at31, at32, at3n, fD, mD, wipeR, dYes, ix32, ix31, n_boolC, sz0, sz1, sz2, sz3, sz4, sz5, sz6, sz7, sz8, n_eqI, n_neI, n_eq3, n_ne3, n_isi_int, n_isi_bool, n_isi_tuple, List.map_cons, List.map_nil, List.length_cons, List.length_nil, List.replicate, List.set_cons_zero, List.set_cons_succ, List.getElem?_cons_zero, List.getElem?_cons_succ, List.filter_cons, List.filter_nil, Ar.isDk, List.all_cons, List.all_nil, no_dt, no_un, no_ow, no_dk, Bool.and_eq_true, Bool.true_and, Bool.and_true, Bool.false_eq_true, if_false, if_true, ite_true, ite_false, Option.some.injEq, exists_eq_left', true_and, and_true, List.cons_append, List.nil_append, Nat.sub_self, decide_eq_true_eq, Nat.reduceAdd, Nat.reduceSub, Nat.zero_add, Nat.le_refl, Nat.zero_le]
          have sub : ∀ z, z ∈ DL.cutD acc none (some 2) → z ∈ L3.map fD := fun z hz => i3 z (List.mem_of_mem_drop (List.mem_of_mem_take hz))
          have lc : (DL.cutD acc none (some 2)).length ≤ 3 := by
            unfold DL.cutD
            rw [List.length_take, List.length_drop]
            omega
          refine compW_pure (fun _ => some (.bool true)) _ _ (fun d hd K1 K2 hk => ?_) (by rw [List.length_nil]; have := sizeLine_eq; omega) ?_
          · obtain ⟨g, hg, rfl⟩ := List.mem_map.mp (sub d hd)
            have mg := mem g hg
            have fg := red_fo (by rw [mg.d]; exact n0) (by rw [mg.d]; exact le) (by rw [mg.d]; exact h1.ge) mg.red
            simp only [↓n_asg_if, BQ.n_rt, sSeq, sNext, sRet, sRetF, sRetO, sDrop, sSet, sOwn, sAsg, sPar, sPar3, sAug, sApp, sIf, dIf, dTest, dAnd, dOr, dNot, dAndV, dOrV, d1, d2, d2F, dVar, dOwn, dC, dF, dTup, dLst, dNil, dCons, dCB, dCB1, dCF1, dChain, dChain3, dCall, dCallF, dCallK, aNil, aCons, aDk, dGn, dGnil, dGcons, dGtup, dOdIx, dGsub, dIdxT, dIdxL, dSlT, dSlL, dPart, dNoPart, dIl, dIt, frz, opn, cls, catD, startR, arS, seqOf, n_add, n_addT, n_sub, n_mul, n_fdiv, n_mod, n_pow, n_shl, n_cmp, n_is, n_neg, n_not, n_ixL, n_ixT, n_lenL, n_lenT, n_abs, n_gcd, n_isqrt, n_int, n_tupL, n_tupT, at10, at1n, at20, at21, at2n, at30, at31, at32, at3n, fD, mD, wipeR, dYes, ix32, ix31, n_boolC, sz0, sz1, sz2, sz3, sz4, sz5, sz6, sz7, sz8, n_eqI, n_neI, n_eq3, n_ne3, n_isi_int, n_isi_bool, n_isi_tuple, List.map_cons, List.map_nil, List.length_cons, List.length_nil, List.replicate, List.set_cons_zero, List.set_cons_succ, List.getElem?_cons_zero, List.getElem?_cons_succ, List.filter_cons, List.filter_nil, Ar.isDk, List.all_cons, List.all_nil, no_dt, no_un, no_ow, no_dk, Bool.and_eq_true, Bool.true_and, Bool.and_true, Bool.false_eq_true, if_false, if_true, ite_true, ite_false, Option.some.injEq, exists_eq_left', true_and, and_true, List.cons_append, List.nil_append, Nat.sub_self, decide_eq_true_eq, Nat.reduceAdd, Nat.reduceSub, Nat.zero_add, Nat.le_refl, Nat.zero_le]
            refine ⟨g, rfl, fg.dk, fg.n0, by have := fg.le; omega, ?_⟩
            rw [mg.red]
            simp only [↓n_asg_if, BQ.n_rt, sSeq, sNext, sRet, sRetF, sRetO, sDrop, sSet, sOwn, sAsg, sPar, sPar3, sAug, sApp, sIf, dIf, dTest, dAnd, dOr, dNot, dAndV, dOrV, d1, d2, d2F, dVar, dOwn, dC, dF, dTup, dLst, dNil, dCons, dCB, dCB1, dCF1, dChain, dChain3, dCall, dCallF, dCallK, aNil, aCons, aDk, dGn, dGnil, dGcons, dGtup, dOdIx, dGsub, dIdxT, dIdxL, dSlT, dSlL, dPart, dNoPart, dIl, dIt, frz, opn, cls, catD, startR, arS, seqOf, n_add, n_addT, n_sub, n_mul, n_fdiv, n_mod, n_pow, n_shl, n_cmp, n_is, n_neg, n_not, n_ixL, n_ixT, n_lenL, n_lenT, n_abs, n_gcd, n_isqrt, n_int, n_tupL, n_tupT, at10, at1n, at20, at21, at2n, at30, at31, at32, at3n, fD, mD, wipeR, dYes, ix32, ix31, n_boolC, sz0, sz1, sz2, sz3, sz4, sz5, sz6, sz7, sz8, n_eqI, n_neI, n_eq3, n_ne3, n_isi_int, n_isi_bool, n_isi_tuple, List.map_cons, List.map_nil, List.length_cons, List.length_nil, List.replicate, List.set_cons_zero, List.set_cons_succ, List.getElem?_cons_zero, List.getElem?_cons_succ, List.filter_cons, List.filter_nil, Ar.isDk, List.all_cons, List.all_nil, no_dt, no_un, no_ow, no_dk, Bool.and_eq_true, Bool.true_and, Bool.and_true, Bool.false_eq_true, if_false, if_true, ite_true, ite_false, Option.some.injEq, exists_eq_left', true_and, and_true, List.cons_append, List.nil_append, Nat.sub_self, decide_eq_true_eq, Nat.reduceAdd, Nat.reduceSub, Nat.zero_add, Nat.le_refl, Nat.zero_le]
            rw [if_pos (by decide)]
            refine ⟨g, rfl, fg, fun L hL => ?_⟩
            rw [hL.det mg.cy]
            exact eqSelf (plainTL L3).1 (by have := (plainTL L3).2; omega) _ hk
          · refine ⟨(DL.cutD acc none (some 2)).map fun _ => true, ?_, ?_⟩
            · rw [List.nil_append, filterMap_pure, List.map_map]
              rfl
            · have allt2 : ((DL.cutD acc none (some 2)).map fun _ => true).all (fun b => b) = true := by simp
              dsimp only
              rw [allt2]
              exact h c' (by omega)
end
end K31

/-! The law. -/
namespace K31
open PySem PySem.Spec PyProof.Rows L2 DL BQ
section
variable {P : Program} {w : World} {K : PySem.W.Frag} {mg : Str → Option Value} {base : Heap}
def absF : PyData → Option PyData
  | .int i => some (.int i.natAbs)
  | _ => none
theorem maxAbs (f : F) {Φ : PyData → Prop} (h : ∀ m : Int, (f.a.natAbs : Int) ≤ m → (f.b.natAbs : Int) ≤ m → (f.c.natAbs : Int) ≤ m → Φ (.int m)) : maxD (.list ([.int f.a, .int f.b, .int f.c].filterMap absF)) Φ := by
  refine ⟨[(f.a.natAbs : Int), f.b.natAbs, f.c.natAbs], rfl, by show 0 < 3; decide, fun m hm hb => ?_⟩
  exact h m (hb _ (by simp)) (hb _ (by simp)) (hb _ (by simp))
theorem fo_of {f : F} (n0 : f.disc ≠ 0) (le : f.disc ≤ 10000000) (ha : f.a.natAbs ≤ 1000000) (hb : f.b.natAbs ≤ 1000000) (hc : f.c.natAbs ≤ 1000000) : Fo f := by
  refine ⟨n0, le, ?_, .inl ⟨by omega, by omega, by omega⟩⟩
  have e : f.disc = f.b * f.b - 4 * (f.a * f.c) := by unfold F.disc; grind
  have b2 := sqpos f.b
  have ac : (f.a * f.c).natAbs ≤ 1000000 * 1000000 := by rw [Int.natAbs_mul]; exact Nat.mul_le_mul ha hc
  omega
def f8 : F := ⟨1, 0, -2⟩
def f9 : F := ⟨0, -3, 1⟩
theorem rt8 : rt 8 = 2 := rt_unique (by decide) (by decide) (by decide)
theorem rt9 : rt 9 = 3 := rt_unique (by decide) (by decide) (by decide)
theorem it2 (r : Int) (f : F) : it r 2 f = nxt r (nxt r f) := rfl
theorem cy8 : Cy f8 [⟨-1, 2, 1⟩, ⟨1, 2, -1⟩] := by
  have d8 : f8.disc = 8 := by decide
  have s8 : isSplit 8 = false := by unfold isSplit; rw [rt8]; decide
  refine ⟨⟨1, 2, -1⟩, ?_, ?_⟩
  · unfold To
    rw [d8, s8, rt8, if_pos (by decide), if_neg (by decide)]
    refine ⟨2, by decide +kernel, by decide +kernel, fun i hi => ?_⟩
    have : i = 0 ∨ i = 1 := by omega
    rcases this with rfl | rfl <;> decide +kernel
  · have e : F.disc ⟨1, 2, -1⟩ = 8 := by decide
    rw [e, s8, rt8, if_neg (by decide)]
    refine ⟨2, 1, ⟨by decide, by decide +kernel, fun i h1 h2 => ?_⟩, by decide, ?_, by decide +kernel⟩
    · have : i = 1 := by omega
      subst this
      decide +kernel
    · have e1 : orb 2 2 ⟨1, 2, -1⟩ = [⟨1, 2, -1⟩, ⟨-1, 2, 1⟩] := by decide +kernel
      have e2 : it 2 1 ⟨1, 2, -1⟩ = ⟨-1, 2, 1⟩ := by decide +kernel
      rw [e1, e2]
      refine ⟨by simp, fun y hy => ?_⟩
      simp only [List.mem_cons, List.not_mem_nil, or_false] at hy
      rcases hy with rfl | rfl <;> (unfold ltF; decide)
theorem to9 : To f9 ⟨1, 3, 0⟩ := by
  have d9 : f9.disc = 9 := by decide
  have s9 : isSplit 9 = true := by unfold isSplit; rw [rt9]; decide
  unfold To
  rw [d9, s9, rt9, if_pos (by decide), if_pos rfl]
  exact ⟨⟨0, 1, -1, 0⟩, by decide, by decide, by decide, by decide⟩
theorem head9 {L : List F} {R : F} (h : Cy f9 L) (e : L.head? = some R) : R = ⟨1, 3, 0⟩ := by
  obtain ⟨R', t, h⟩ := h
  have := t.det to9
  subst this
  have s9 : isSplit 9 = true := by unfold isSplit; rw [rt9]; decide
  have d9 : F.disc ⟨1, 3, 0⟩ = 9 := by decide
  rw [d9, s9, if_pos (.inr rfl)] at h
  subst h
  exact (Option.some.inj e).symm
theorem odd_no {d : PyData} (hd : d ∈ ([.none, .tuple [.int 1, .int 2, .int 1], .list [.int 1, .int 0, .int 1], .tuple [.int 1, .int 0], .tuple [.bool true, .int 0, .int 1]] : List PyData)) : isBin d = false ∧ ∀ f, d = fD f → DiscOk f := by
  simp only [List.mem_cons, List.not_mem_nil, or_false] at hd
  rcases hd with rfl | rfl | rfl | rfl | rfl
  · exact ⟨rfl, fun f e => by cases e⟩
  · refine ⟨by decide, fun f e => ?_⟩
    have e : PyData.tuple [.int 1, .int 2, .int 1] = PyData.tuple [.int f.a, .int f.b, .int f.c] := e
    simp only [PyData.tuple.injEq, List.cons.injEq, PyData.int.injEq, and_true] at e
    obtain ⟨e1, e2, e3⟩ := e
    exact ⟨mL (by omega) (by omega), mL (by omega) (by omega)⟩
  · exact ⟨rfl, fun f e => by cases e⟩
  · refine ⟨rfl, fun f e => ?_⟩
    have e : PyData.tuple [.int 1, .int 0] = PyData.tuple [.int f.a, .int f.b, .int f.c] := e
    simp at e
  · refine ⟨rfl, fun f e => ?_⟩
    have e : PyData.tuple [.bool true, .int 0, .int 1] = PyData.tuple [.int f.a, .int f.b, .int f.c] := e
    simp at e
def sd_law : Sd := fun c as y Φ Ψ => ∃ ns : List Int, as = [.dt (.list (ns.map .int))] ∧ ns.length ≤ 63 ∧ c = 0 ∧ ∀ c' : Nat, Φ (.bool true) c'
theorem ok_law (Mx : Mo K mg) (C__law_seed : Cl false P w K mg base 1 "_law_seed" ["script"] sd__law_seed) (C__law_edge : Cl false P w K mg base 3 "_law_edge" ["seed"] sd__law_edge) (C__law_disc : Cl false P w K mg base 1 "_law_disc" ["form"] sd__law_disc) (C__law_right : Cl true P w K mg base 7 "_law_right" ["seed", "form"] sd__law_right) (C__law_stepped : Cl false P w K mg base 1 "_law_stepped" ["form", "step"] sd__law_stepped) (C__law_step : Cl false P w K mg base 3 "_law_step" ["seed", "many"] sd__law_step) (C__law_any : Cl false P w K mg base 1 "_law_any" ["seed", "many"] sd__law_any) (C_is_binary : Cl false P w K mg base 3 "is_binary" ["value"] sd_is_binary) (C_reduced : Cl false P w K mg base 6 "reduced" ["binary"] sd_reduced) (C_cycle : Cl false P w K mg base 6 "cycle" ["binary"] sd_cycle) : Cl true P w K mg base 8 "law" ["script"] sd_law := by
  obtain ⟨fd, hm, Fn0⟩ := Mx.fn 59 "law" (by decide +kernel)
  have hN : (["script", "seed", "turn", "form", "led", "item", "odd"] : List Str).Nodup := by decide +kernel
  have Sc0 : FnScope ["script", "seed", "turn", "form", "led", "item", "odd"] ["script"] (defScope (top 59)) := ⟨rfl, rfl, rfl, hN, rfl, by decide +kernel, by decide +kernel⟩
  refine cl_mk Fn0 hm Sc0 (fun _ _ _ _ _ _ us hl => match us, hl with | [_], _ => rfl) (fun _ _ _ _ _ _ us hl => match us, hl with | [_], _ => rfl) fun cdv A outer s H E hr hG tk hp => ⟨_, (ss_cons (s_own (i := 1) hN (by rfl) (by first | exact .inl rfl | exact .inr rfl) (f_callC C__law_seed (by decide) hr nog (by rfl) tk (a_cons (e_var (pv 0)) a_nil)))
    (ss_close 1 (ss_cons (s_for hp rfl (i_rg1 (by rfl) (Mx.fr "range" (by decide +kernel)) e_int) (c_name (i := 2) hN (by rfl) (by first | exact .inl rfl | exact .inr rfl) (by first | exact .inl rfl | exact .inr rfl)) (ss_cons (s_set (i := 3) hN (by rfl) (by first | exact .inl rfl | exact .inr rfl) (e_callC C__law_edge (by decide) hr nog (by rfl) tk (a_dk (pv 1) a_nil)))
    (ss_cons (s_if (w_or (t_cmp (o_eqP (hu4 hr)) (e_callC C__law_disc (by decide) hr nog (by rfl) tk (a_cons (e_var (pv 3)) a_nil)).r e_int.r rfl) (w_or (t_cmp o_gt (e_callC C__law_disc (by decide) hr nog (by rfl) tk (a_cons (e_var (pv 3)) a_nil)).r (e_bin o_pow e_int.r e_int.r).r rfl) (w_or1 (t_cmp o_gt (e_callB1 (c_max rfl) (by rfl) (Mx.fr "max" (by decide +kernel)) b_max (f_comp (own := [("item", 5)]) rfl hN (i_tup (e_var (pv 3))) (blkOk_by rfl) (by decide) (fun s' H' C' cl' fp' => (c_name (i := 5) hN (by rfl) (by first | exact .inl rfl | exact .inr rfl) (by first | exact .inl rfl | exact .inr rfl))) (fun s' H' C' cl' fp' => if_nil) (fun s' H' C' cl' fp' => (e_callB c_abs (by rfl) (Mx.fr "abs" (by decide +kernel)) b_abs (l_cons (e_var (pv 5)) l_nil)))).e.r).r (e_bin o_pow e_int.r e_int.r).r rfl)))).t (ss_one s_cont) ss_nil)
    (ss_cons (s_if (t_not (t_val (e_callC C__law_right (by decide) hr hG (by rfl) tk (a_dk (pv 1) (a_cons (e_var (pv 3)) a_nil))))) (ss_one (s_ret e_bl)) ss_nil)
    (ss_cons (s_set (i := 4) hN (by rfl) (by first | exact .inl rfl | exact .inr rfl) (e_callC C__law_stepped (by decide) hr nog (by rfl) tk (a_cons (e_var (pv 3)) (a_cons (e_callC C__law_step (by decide) hr nog (by rfl) tk (a_dk (pv 1) (a_cons (e_bin o_add e_int.r (e_callC C__law_any (by decide) hr nog (by rfl) tk (a_dk (pv 1) (a_cons e_int a_nil))).r) a_nil))) a_nil))))
    (ss_one (s_if (w_and (t_cmp o_le (e_callB1 (c_max rfl) (by rfl) (Mx.fr "max" (by decide +kernel)) b_max (f_comp (own := [("item", 5)]) rfl hN (i_tup (e_var (pv 4))) (blkOk_by rfl) (by decide) (fun s' H' C' cl' fp' => (c_name (i := 5) hN (by rfl) (by first | exact .inl rfl | exact .inr rfl) (by first | exact .inl rfl | exact .inr rfl))) (fun s' H' C' cl' fp' => if_nil) (fun s' H' C' cl' fp' => (e_callB c_abs (by rfl) (Mx.fr "abs" (by decide +kernel)) b_abs (l_cons (e_var (pv 5)) l_nil)))).e.r).r (e_bin o_pow e_int.r e_int.r).r rfl) (w_and1 (t_not (t_val (e_callC C__law_right (by decide) hr hG (by rfl) tk (a_dk (pv 1) (a_cons (e_var (pv 4)) a_nil))))))).t (ss_one (s_ret e_bl)) ss_nil)))))))
    (ss_one (s_ret (e_and (e_cmp (o_eqP (hu4 hr)) (e_callC C_cycle (by decide) hr nog (by rfl) tk (a_cons (e_tup (l_cons e_int (l_cons e_int (l_cons (e_un o_neg e_int) l_nil)))) a_nil)).r (e_tup (l_cons (e_tup (l_cons (e_un o_neg e_int) (l_cons e_int (l_cons e_int l_nil)))) (l_cons (e_tup (l_cons e_int (l_cons e_int (l_cons (e_un o_neg e_int) l_nil)))) l_nil))).r rfl) (e_and (e_cmp (o_eqP (hu4 hr)) (e_ix (e_callC C_reduced (by decide) hr nog (by rfl) tk (a_cons (e_tup (l_cons e_int (l_cons (e_un o_neg e_int) (l_cons e_int l_nil)))) a_nil)).r e_int).r (e_tup (l_cons e_int (l_cons e_int (l_cons e_int l_nil)))).r rfl) (e_one (e_cmp (o_eqP (hu4 hr)) (f_comp (own := [("odd", 6)]) rfl hN (i_tup (e_tup (l_cons e_non (l_cons (e_tup (l_cons e_int (l_cons e_int (l_cons e_int l_nil)))) (l_cons (f_lst (l_cons e_int (l_cons e_int (l_cons e_int l_nil)))).e (l_cons (e_tup (l_cons e_int (l_cons e_int l_nil))) (l_cons (e_tup (l_cons e_bl (l_cons e_int (l_cons e_int l_nil)))) l_nil))))))) (blkOk_by rfl) (by decide) (fun s' H' C' cl' fp' => (c_name (i := 6) hN (by rfl) (by first | exact .inl rfl | exact .inr rfl) (by first | exact .inl rfl | exact .inr rfl))) (fun s' H' C' cl' fp' => if_nil) (fun s' H' C' cl' fp' => (e_callC C_is_binary (by decide) hr nog (by rfl) takes0 (a_cons (e_var (pv 6)) a_nil)))).e.r (f_rep (f_lst (l_cons e_bl l_nil)) e_int).e.r rfl))))))))), fun c as y Φ Ψ hn hs => ?_⟩
  obtain ⟨ns, rfl, h1, rfl, h⟩ := hs
  refine seq_hide fun U hU => ?_
  simp only [↓n_asg_if, BQ.n_rt, sSeq, sNext, sRet, sRetF, sRetO, sDrop, sSet, sOwn, sAsg, sPar, sPar3, sAug, sApp, sIf, dIf, dTest, dAnd, dOr, dNot, dAndV, dOrV, d1, d2, d2F, dVar, dOwn, dC, dF, dTup, dLst, dNil, dCons, dCB, dCB1, dCF1, dChain, dChain3, dCall, dCallF, dCallK, aNil, aCons, aDk, dGn, dGnil, dGcons, dGtup, dOdIx, dGsub, dIdxT, dIdxL, dSlT, dSlL, dPart, dNoPart, dIl, dIt, frz, opn, cls, catD, startR, arS, seqOf, n_add, n_addT, n_sub, n_mul, n_fdiv, n_mod, n_pow, n_shl, n_cmp, n_is, n_neg, n_not, n_ixL, n_ixT, n_lenL, n_lenT, n_abs, n_gcd, n_isqrt, n_int, n_tupL, n_tupT, at10, at1n, at20, at21, at2n, at30, at31, at32, at3n, fD, mD, wipeR, dYes, ix32, ix31, n_boolC, sz0, sz1, sz2, sz3, sz4, sz5, sz6, sz7, sz8, n_eqI, n_neI, n_eq3, n_ne3, n_isi_int, n_isi_bool, n_isi_tuple, List.map_cons, List.map_nil, List.length_cons, List.length_nil, List.replicate, List.set_cons_zero, List.set_cons_succ, List.getElem?_cons_zero, List.getElem?_cons_succ, List.filter_cons, List.filter_nil, Ar.isDk, List.all_cons, List.all_nil, no_dt, no_un, no_ow, no_dk, Bool.and_eq_true, Bool.true_and, Bool.and_true, Bool.false_eq_true, if_false, if_true, ite_true, ite_false, Option.some.injEq, exists_eq_left', true_and, and_true, List.cons_append, List.nil_append, Nat.sub_self, decide_eq_true_eq, Nat.reduceAdd, Nat.reduceSub, Nat.zero_add, Nat.le_refl, Nat.zero_le]
  refine ⟨ns, rfl, h1, ?_⟩
  subst hU
  unfold cls
  simp only [List.getElem?_cons_succ, List.getElem?_cons_zero, List.set_cons_succ, List.set_cons_zero]
  refine ⟨⟨_, 0, 0, rfl, ⟨ns, .inr rfl, by omega⟩, Int.le_refl 0, Int.le_refl 0⟩, ?_⟩
  refine seq_hide fun U hU => ?_
  unfold sFor dRg1
  simp only [↓n_asg_if, BQ.n_rt, sSeq, sNext, sRet, sRetF, sRetO, sDrop, sSet, sOwn, sAsg, sPar, sPar3, sAug, sApp, sIf, dIf, dTest, dAnd, dOr, dNot, dAndV, dOrV, d1, d2, d2F, dVar, dOwn, dC, dF, dTup, dLst, dNil, dCons, dCB, dCB1, dCF1, dChain, dChain3, dCall, dCallF, dCallK, aNil, aCons, aDk, dGn, dGnil, dGcons, dGtup, dOdIx, dGsub, dIdxT, dIdxL, dSlT, dSlL, dPart, dNoPart, dIl, dIt, frz, opn, cls, catD, startR, arS, seqOf, n_add, n_addT, n_sub, n_mul, n_fdiv, n_mod, n_pow, n_shl, n_cmp, n_is, n_neg, n_not, n_ixL, n_ixT, n_lenL, n_lenT, n_abs, n_gcd, n_isqrt, n_int, n_tupL, n_tupT, at10, at1n, at20, at21, at2n, at30, at31, at32, at3n, fD, mD, wipeR, dYes, ix32, ix31, n_boolC, sz0, sz1, sz2, sz3, sz4, sz5, sz6, sz7, sz8, n_eqI, n_neI, n_eq3, n_ne3, n_isi_int, n_isi_bool, n_isi_tuple, List.map_cons, List.map_nil, List.length_cons, List.length_nil, List.replicate, List.set_cons_zero, List.set_cons_succ, List.getElem?_cons_zero, List.getElem?_cons_succ, List.filter_cons, List.filter_nil, Ar.isDk, List.all_cons, List.all_nil, no_dt, no_un, no_ow, no_dk, Bool.and_eq_true, Bool.true_and, Bool.and_true, Bool.false_eq_true, if_false, if_true, ite_true, ite_false, Option.some.injEq, exists_eq_left', true_and, and_true, List.cons_append, List.nil_append, Nat.sub_self, decide_eq_true_eq, Nat.reduceAdd, Nat.reduceSub, Nat.zero_add, Nat.le_refl, Nat.zero_le]
  refine ⟨by decide, ?_⟩
  refine forW_inv (fun ds c' ρ => ∃ (s2 s3 s4 : Sl), ρ = [.dt (.list (ns.map .int)), .dk, s2, s3, s4, .un, .un] ∧ (s2.notOd = true ∧ s3.notOd = true ∧ s4.notOd = true) ∧ ds.length ≤ 9 ∧ c' ≤ 100 * (9 - ds.length)) ?_ ?_ _ _ _
    ⟨_, _, _, rfl, ⟨rfl, rfl, rfl⟩, by unfold rgL; rw [List.length_map, List.length_range]; decide, Nat.zero_le _⟩
  · rintro d r c' ρ ⟨s2, s3, s4, rfl, ⟨n2, n3, n4⟩, hl, hc⟩ Φ' k1 k2 k3 k4 k5
    rw [List.length_cons] at hl hc
    unfold dGn
    refine seq_hide fun U2 hU2 => ?_
    simp only [↓n_asg_if, BQ.n_rt, sSeq, sNext, sRet, sRetF, sRetO, sDrop, sSet, sOwn, sAsg, sPar, sPar3, sAug, sApp, sIf, dIf, dTest, dAnd, dOr, dNot, dAndV, dOrV, d1, d2, d2F, dVar, dOwn, dC, dF, dTup, dLst, dNil, dCons, dCB, dCB1, dCF1, dChain, dChain3, dCall, dCallF, dCallK, aNil, aCons, aDk, dGn, dGnil, dGcons, dGtup, dOdIx, dGsub, dIdxT, dIdxL, dSlT, dSlL, dPart, dNoPart, dIl, dIt, frz, opn, cls, catD, startR, arS, seqOf, n_add, n_addT, n_sub, n_mul, n_fdiv, n_mod, n_pow, n_shl, n_cmp, n_is, n_neg, n_not, n_ixL, n_ixT, n_lenL, n_lenT, n_abs, n_gcd, n_isqrt, n_int, n_tupL, n_tupT, at10, at1n, at20, at21, at2n, at30, at31, at32, at3n, fD, mD, wipeR, dYes, ix32, ix31, n_boolC, sz0, sz1, sz2, sz3, sz4, sz5, sz6, sz7, sz8, n_eqI, n_neI, n_eq3, n_ne3, n_isi_int, n_isi_bool, n_isi_tuple, List.map_cons, List.map_nil, List.length_cons, List.length_nil, List.replicate, List.set_cons_zero, List.set_cons_succ, List.getElem?_cons_zero, List.getElem?_cons_succ, List.filter_cons, List.filter_nil, Ar.isDk, List.all_cons, List.all_nil, no_dt, no_un, no_ow, no_dk, Bool.and_eq_true, Bool.true_and, Bool.and_true, Bool.false_eq_true, if_false, if_true, ite_true, ite_false, Option.some.injEq, exists_eq_left', true_and, and_true, List.cons_append, List.nil_append, Nat.sub_self, decide_eq_true_eq, Nat.reduceAdd, Nat.reduceSub, Nat.zero_add, Nat.le_refl, Nat.zero_le]
    refine ⟨⟨n3, n4⟩, rfl, by omega, fun f c2 fa fb fc hc2 => ?_⟩
    subst hU2
    refine seq_hide fun U2 hU2 => ?_
    simp only [↓n_asg_if, BQ.n_rt, sSeq, sNext, sRet, sRetF, sRetO, sDrop, sSet, sOwn, sAsg, sPar, sPar3, sAug, sApp, sIf, dIf, dTest, dAnd, dOr, dNot, dAndV, dOrV, d1, d2, d2F, dVar, dOwn, dC, dF, dTup, dLst, dNil, dCons, dCB, dCB1, dCF1, dChain, dChain3, dCall, dCallF, dCallK, aNil, aCons, aDk, dGn, dGnil, dGcons, dGtup, dOdIx, dGsub, dIdxT, dIdxL, dSlT, dSlL, dPart, dNoPart, dIl, dIt, frz, opn, cls, catD, startR, arS, seqOf, n_add, n_addT, n_sub, n_mul, n_fdiv, n_mod, n_pow, n_shl, n_cmp, n_is, n_neg, n_not, n_ixL, n_ixT, n_lenL, n_lenT, n_abs, n_gcd, n_isqrt, n_int, n_tupL, n_tupT, at10, at1n, at20, at21, at2n, at30, at31, at32, at3n, fD, mD, wipeR, dYes, ix32, ix31, n_boolC, sz0, sz1, sz2, sz3, sz4, sz5, sz6, sz7, sz8, n_eqI, n_neI, n_eq3, n_ne3, n_isi_int, n_isi_bool, n_isi_tuple, List.map_cons, List.map_nil, List.length_cons, List.length_nil, List.replicate, List.set_cons_zero, List.set_cons_succ, List.getElem?_cons_zero, List.getElem?_cons_succ, List.filter_cons, List.filter_nil, Ar.isDk, List.all_cons, List.all_nil, no_dt, no_un, no_ow, no_dk, Bool.and_eq_true, Bool.true_and, Bool.and_true, Bool.false_eq_true, if_false, if_true, ite_true, ite_false, Option.some.injEq, exists_eq_left', true_and, and_true, List.cons_append, List.nil_append, Nat.sub_self, decide_eq_true_eq, Nat.reduceAdd, Nat.reduceSub, Nat.zero_add, Nat.le_refl, Nat.zero_le]
    have dk : DiscOk f := ⟨mL (by omega) (by omega), mL (by omega) (by omega)⟩
    refine ⟨n4, f, rfl, dk, ?_⟩
    simp only [↓n_asg_if, BQ.n_rt, sSeq, sNext, sRet, sRetF, sRetO, sDrop, sSet, sOwn, sAsg, sPar, sPar3, sAug, sApp, sIf, dIf, dTest, dAnd, dOr, dNot, dAndV, dOrV, d1, d2, d2F, dVar, dOwn, dC, dF, dTup, dLst, dNil, dCons, dCB, dCB1, dCF1, dChain, dChain3, dCall, dCallF, dCallK, aNil, aCons, aDk, dGn, dGnil, dGcons, dGtup, dOdIx, dGsub, dIdxT, dIdxL, dSlT, dSlL, dPart, dNoPart, dIl, dIt, frz, opn, cls, catD, startR, arS, seqOf, n_add, n_addT, n_sub, n_mul, n_fdiv, n_mod, n_pow, n_shl, n_cmp, n_is, n_neg, n_not, n_ixL, n_ixT, n_lenL, n_lenT, n_abs, n_gcd, n_isqrt, n_int, n_tupL, n_tupT, at10, at1n, at20, at21, at2n, at30, at31, at32, at3n, fD, mD, wipeR, dYes, ix32, ix31, n_boolC, sz0, sz1, sz2, sz3, sz4, sz5, sz6, sz7, sz8, n_eqI, n_neI, n_eq3, n_ne3, n_isi_int, n_isi_bool, n_isi_tuple, List.map_cons, List.map_nil, List.length_cons, List.length_nil, List.replicate, List.set_cons_zero, List.set_cons_succ, List.getElem?_cons_zero, List.getElem?_cons_succ, List.filter_cons, List.filter_nil, Ar.isDk, List.all_cons, List.all_nil, no_dt, no_un, no_ow, no_dk, Bool.and_eq_true, Bool.true_and, Bool.and_true, Bool.false_eq_true, if_false, if_true, ite_true, ite_false, Option.some.injEq, exists_eq_left', true_and, and_true, List.cons_append, List.nil_append, Nat.sub_self, decide_eq_true_eq, Nat.reduceAdd, Nat.reduceSub, Nat.zero_add, Nat.le_refl, Nat.zero_le]
    by_cases d0 : f.disc = 0
    · rw [if_pos d0]
      exact k2 _ _ ⟨_, _, _, rfl, ⟨rfl, rfl, n4⟩, by omega, by omega⟩
    rw [if_neg d0]
    refine ⟨n4, f, rfl, dk, ⟨by decide, by decide, by decide⟩, ?_⟩
    simp only [↓n_asg_if, BQ.n_rt, sSeq, sNext, sRet, sRetF, sRetO, sDrop, sSet, sOwn, sAsg, sPar, sPar3, sAug, sApp, sIf, dIf, dTest, dAnd, dOr, dNot, dAndV, dOrV, d1, d2, d2F, dVar, dOwn, dC, dF, dTup, dLst, dNil, dCons, dCB, dCB1, dCF1, dChain, dChain3, dCall, dCallF, dCallK, aNil, aCons, aDk, dGn, dGnil, dGcons, dGtup, dOdIx, dGsub, dIdxT, dIdxL, dSlT, dSlL, dPart, dNoPart, dIl, dIt, frz, opn, cls, catD, startR, arS, seqOf, n_add, n_addT, n_sub, n_mul, n_fdiv, n_mod, n_pow, n_shl, n_cmp, n_is, n_neg, n_not, n_ixL, n_ixT, n_lenL, n_lenT, n_abs, n_gcd, n_isqrt, n_int, n_tupL, n_tupT, at10, at1n, at20, at21, at2n, at30, at31, at32, at3n, fD, mD, wipeR, dYes, ix32, ix31, n_boolC, sz0, sz1, sz2, sz3, sz4, sz5, sz6, sz7, sz8, n_eqI, n_neI, n_eq3, n_ne3, n_isi_int, n_isi_bool, n_isi_tuple, List.map_cons, List.map_nil, List.length_cons, List.length_nil, List.replicate, List.set_cons_zero, List.set_cons_succ, List.getElem?_cons_zero, List.getElem?_cons_succ, List.filter_cons, List.filter_nil, Ar.isDk, List.all_cons, List.all_nil, no_dt, no_un, no_ow, no_dk, Bool.and_eq_true, Bool.true_and, Bool.and_true, Bool.false_eq_true, if_false, if_true, ite_true, ite_false, Option.some.injEq, exists_eq_left', true_and, and_true, List.cons_append, List.nil_append, Nat.sub_self, decide_eq_true_eq, Nat.reduceAdd, Nat.reduceSub, Nat.zero_add, Nat.le_refl, Nat.zero_le]
    by_cases d7 : (10 : Int) ^ (7 : Int).toNat < f.disc
    · rw [if_pos d7]
      exact k2 _ _ ⟨_, _, _, rfl, ⟨rfl, rfl, n4⟩, by omega, by omega⟩
    rw [if_neg d7]
    have d7 : f.disc ≤ 10000000 := Int.not_lt.mp d7
    refine ⟨rfl, ?_⟩
    simp only [↓n_asg_if, BQ.n_rt, sSeq, sNext, sRet, sRetF, sRetO, sDrop, sSet, sOwn, sAsg, sPar, sPar3, sAug, sApp, sIf, dIf, dTest, dAnd, dOr, dNot, dAndV, dOrV, d1, d2, d2F, dVar, dOwn, dC, dF, dTup, dLst, dNil, dCons, dCB, dCB1, dCF1, dChain, dChain3, dCall, dCallF, dCallK, aNil, aCons, aDk, dGn, dGnil, dGcons, dGtup, dOdIx, dGsub, dIdxT, dIdxL, dSlT, dSlL, dPart, dNoPart, dIl, dIt, frz, opn, cls, catD, startR, arS, seqOf, n_add, n_addT, n_sub, n_mul, n_fdiv, n_mod, n_pow, n_shl, n_cmp, n_is, n_neg, n_not, n_ixL, n_ixT, n_lenL, n_lenT, n_abs, n_gcd, n_isqrt, n_int, n_tupL, n_tupT, at10, at1n, at20, at21, at2n, at30, at31, at32, at3n, fD, mD, wipeR, dYes, ix32, ix31, n_boolC, sz0, sz1, sz2, sz3, sz4, sz5, sz6, sz7, sz8, n_eqI, n_neI, n_eq3, n_ne3, n_isi_int, n_isi_bool, n_isi_tuple, List.map_cons, List.map_nil, List.length_cons, List.length_nil, List.replicate, List.set_cons_zero, List.set_cons_succ, List.getElem?_cons_zero, List.getElem?_cons_succ, List.filter_cons, List.filter_nil, Ar.isDk, List.all_cons, List.all_nil, no_dt, no_un, no_ow, no_dk, Bool.and_eq_true, Bool.true_and, Bool.and_true, Bool.false_eq_true, if_false, if_true, ite_true, ite_false, Option.some.injEq, exists_eq_left', true_and, and_true, List.cons_append, List.nil_append, Nat.sub_self, decide_eq_true_eq, Nat.reduceAdd, Nat.reduceSub, Nat.zero_add, Nat.le_refl, Nat.zero_le]
    refine compW_pure absF _ _ (fun d hd K1 K2 hk => ?_) (by show 3 ≤ sizeLine; decide) (maxAbs f fun m ma mb mc => ?_)
    · obtain ⟨i, rfl⟩ : ∃ i : Int, d = .int i := by
        simp only [List.mem_cons, List.not_mem_nil, or_false] at hd
        rcases hd with rfl | rfl | rfl <;> exact ⟨_, rfl⟩
      simp only [↓n_asg_if, BQ.n_rt, sSeq, sNext, sRet, sRetF, sRetO, sDrop, sSet, sOwn, sAsg, sPar, sPar3, sAug, sApp, sIf, dIf, dTest, dAnd, dOr, dNot, dAndV, dOrV, d1, d2, d2F, dVar, dOwn, dC, dF, dTup, dLst, dNil, dCons, dCB, dCB1, dCF1, dChain, dChain3, dCall, dCallF, dCallK, aNil, aCons, aDk, dGn, dGnil, dGcons, dGtup, dOdIx, dGsub, dIdxT, dIdxL, dSlT, dSlL, dPart, dNoPart, dIl, dIt, frz, opn, cls, catD, startR, arS, seqOf, n_add, n_addT, n_sub, n_mul, n_fdiv, n_mod, n_pow, n_shl, n_cmp, n_is, n_neg, n_not, n_ixL, n_ixT, n_lenL, n_lenT, n_abs, n_gcd, n_isqrt, n_int, n_tupL, n_tupT, at10, at1n, at20, at21, at2n, at30, at31, at32, at3n, fD, mD, wipeR, dYes, ix32, ix31, n_boolC, sz0, sz1, sz2, sz3, sz4, sz5, sz6, sz7, sz8, n_eqI, n_neI, n_eq3, n_ne3, n_isi_int, n_isi_bool, n_isi_tuple, List.map_cons, List.map_nil, List.length_cons, List.length_nil, List.replicate, List.set_cons_zero, List.set_cons_succ, List.getElem?_cons_zero, List.getElem?_cons_succ, List.filter_cons, List.filter_nil, Ar.isDk, List.all_cons, List.all_nil, no_dt, no_un, no_ow, no_dk, Bool.and_eq_true, Bool.true_and, Bool.and_true, Bool.false_eq_true, if_false, if_true, ite_true, ite_false, Option.some.injEq, exists_eq_left', true_and, and_true, List.cons_append, List.nil_append, Nat.sub_self, decide_eq_true_eq, Nat.reduceAdd, Nat.reduceSub, Nat.zero_add, Nat.le_refl, Nat.zero_le]
      exact hk
    simp only [↓n_asg_if, BQ.n_rt, sSeq, sNext, sRet, sRetF, sRetO, sDrop, sSet, sOwn, sAsg, sPar, sPar3, sAug, sApp, sIf, dIf, dTest, dAnd, dOr, dNot, dAndV, dOrV, d1, d2, d2F, dVar, dOwn, dC, dF, dTup, dLst, dNil, dCons, dCB, dCB1, dCF1, dChain, dChain3, dCall, dCallF, dCallK, aNil, aCons, aDk, dGn, dGnil, dGcons, dGtup, dOdIx, dGsub, dIdxT, dIdxL, dSlT, dSlL, dPart, dNoPart, dIl, dIt, frz, opn, cls, catD, startR, arS, seqOf, n_add, n_addT, n_sub, n_mul, n_fdiv, n_mod, n_pow, n_shl, n_cmp, n_is, n_neg, n_not, n_ixL, n_ixT, n_lenL, n_lenT, n_abs, n_gcd, n_isqrt, n_int, n_tupL, n_tupT, at10, at1n, at20, at21, at2n, at30, at31, at32, at3n, fD, mD, wipeR, dYes, ix32, ix31, n_boolC, sz0, sz1, sz2, sz3, sz4, sz5, sz6, sz7, sz8, n_eqI, n_neI, n_eq3, n_ne3, n_isi_int, n_isi_bool, n_isi_tuple, List.map_cons, List.map_nil, List.length_cons, List.length_nil, List.replicate, List.set_cons_zero, List.set_cons_succ, List.getElem?_cons_zero, List.getElem?_cons_succ, List.filter_cons, List.filter_nil, Ar.isDk, List.all_cons, List.all_nil, no_dt, no_un, no_ow, no_dk, Bool.and_eq_true, Bool.true_and, Bool.and_true, Bool.false_eq_true, if_false, if_true, ite_true, ite_false, Option.some.injEq, exists_eq_left', true_and, and_true, List.cons_append, List.nil_append, Nat.sub_self, decide_eq_true_eq, Nat.reduceAdd, Nat.reduceSub, Nat.zero_add, Nat.le_refl, Nat.zero_le]
    refine ⟨⟨by decide, by decide, by decide⟩, ?_⟩
    by_cases m6 : (10 : Int) ^ (6 : Int).toNat < m
    · rw [if_pos m6]
      exact k2 _ _ ⟨_, _, _, rfl, ⟨rfl, rfl, n4⟩, by omega, by omega⟩
    rw [if_neg m6]
    have m6 : m ≤ 1000000 := Int.not_lt.mp m6
    have fo := fo_of d0 d7 (by omega) (by omega) (by omega)
    subst hU2
    refine seq_hide fun U2 hU2 => ?_
    simp only [↓n_asg_if, BQ.n_rt, sSeq, sNext, sRet, sRetF, sRetO, sDrop, sSet, sOwn, sAsg, sPar, sPar3, sAug, sApp, sIf, dIf, dTest, dAnd, dOr, dNot, dAndV, dOrV, d1, d2, d2F, dVar, dOwn, dC, dF, dTup, dLst, dNil, dCons, dCB, dCB1, dCF1, dChain, dChain3, dCall, dCallF, dCallK, aNil, aCons, aDk, dGn, dGnil, dGcons, dGtup, dOdIx, dGsub, dIdxT, dIdxL, dSlT, dSlL, dPart, dNoPart, dIl, dIt, frz, opn, cls, catD, startR, arS, seqOf, n_add, n_addT, n_sub, n_mul, n_fdiv, n_mod, n_pow, n_shl, n_cmp, n_is, n_neg, n_not, n_ixL, n_ixT, n_lenL, n_lenT, n_abs, n_gcd, n_isqrt, n_int, n_tupL, n_tupT, at10, at1n, at20, at21, at2n, at30, at31, at32, at3n, fD, mD, wipeR, dYes, ix32, ix31, n_boolC, sz0, sz1, sz2, sz3, sz4, sz5, sz6, sz7, sz8, n_eqI, n_neI, n_eq3, n_ne3, n_isi_int, n_isi_bool, n_isi_tuple, List.map_cons, List.map_nil, List.length_cons, List.length_nil, List.replicate, List.set_cons_zero, List.set_cons_succ, List.getElem?_cons_zero, List.getElem?_cons_succ, List.filter_cons, List.filter_nil, Ar.isDk, List.all_cons, List.all_nil, no_dt, no_un, no_ow, no_dk, Bool.and_eq_true, Bool.true_and, Bool.and_true, Bool.false_eq_true, if_false, if_true, ite_true, ite_false, Option.some.injEq, exists_eq_left', true_and, and_true, List.cons_append, List.nil_append, Nat.sub_self, decide_eq_true_eq, Nat.reduceAdd, Nat.reduceSub, Nat.zero_add, Nat.le_refl, Nat.zero_le]
    refine ⟨n4, f, rfl, fo, by omega, fun c3 hc3 => ?_⟩
    simp only [↓n_asg_if, BQ.n_rt, sSeq, sNext, sRet, sRetF, sRetO, sDrop, sSet, sOwn, sAsg, sPar, sPar3, sAug, sApp, sIf, dIf, dTest, dAnd, dOr, dNot, dAndV, dOrV, d1, d2, d2F, dVar, dOwn, dC, dF, dTup, dLst, dNil, dCons, dCB, dCB1, dCF1, dChain, dChain3, dCall, dCallF, dCallK, aNil, aCons, aDk, dGn, dGnil, dGcons, dGtup, dOdIx, dGsub, dIdxT, dIdxL, dSlT, dSlL, dPart, dNoPart, dIl, dIt, frz, opn, cls, catD, startR, arS, seqOf, n_add, n_addT, n_sub, n_mul, n_fdiv, n_mod, n_pow, n_shl, n_cmp, n_is, n_neg, n_not, n_ixL, n_ixT, n_lenL, n_lenT, n_abs, n_gcd, n_isqrt, n_int, n_tupL, n_tupT, at10, at1n, at20, at21, at2n, at30, at31, at32, at3n, fD, mD, wipeR, dYes, ix32, ix31, n_boolC, sz0, sz1, sz2, sz3, sz4, sz5, sz6, sz7, sz8, n_eqI, n_neI, n_eq3, n_ne3, n_isi_int, n_isi_bool, n_isi_tuple, List.map_cons, List.map_nil, List.length_cons, List.length_nil, List.replicate, List.set_cons_zero, List.set_cons_succ, List.getElem?_cons_zero, List.getElem?_cons_succ, List.filter_cons, List.filter_nil, Ar.isDk, List.all_cons, List.all_nil, no_dt, no_un, no_ow, no_dk, Bool.and_eq_true, Bool.true_and, Bool.and_true, Bool.false_eq_true, if_false, if_true, ite_true, ite_false, Option.some.injEq, exists_eq_left', true_and, and_true, List.cons_append, List.nil_append, Nat.sub_self, decide_eq_true_eq, Nat.reduceAdd, Nat.reduceSub, Nat.zero_add, Nat.le_refl, Nat.zero_le]
    rw [if_neg (by decide)]
    subst hU2
    refine seq_hide fun U2 hU2 => ?_
    simp only [↓n_asg_if, BQ.n_rt, sSeq, sNext, sRet, sRetF, sRetO, sDrop, sSet, sOwn, sAsg, sPar, sPar3, sAug, sApp, sIf, dIf, dTest, dAnd, dOr, dNot, dAndV, dOrV, d1, d2, d2F, dVar, dOwn, dC, dF, dTup, dLst, dNil, dCons, dCB, dCB1, dCF1, dChain, dChain3, dCall, dCallF, dCallK, aNil, aCons, aDk, dGn, dGnil, dGcons, dGtup, dOdIx, dGsub, dIdxT, dIdxL, dSlT, dSlL, dPart, dNoPart, dIl, dIt, frz, opn, cls, catD, startR, arS, seqOf, n_add, n_addT, n_sub, n_mul, n_fdiv, n_mod, n_pow, n_shl, n_cmp, n_is, n_neg, n_not, n_ixL, n_ixT, n_lenL, n_lenT, n_abs, n_gcd, n_isqrt, n_int, n_tupL, n_tupT, at10, at1n, at20, at21, at2n, at30, at31, at32, at3n, fD, mD, wipeR, dYes, ix32, ix31, n_boolC, sz0, sz1, sz2, sz3, sz4, sz5, sz6, sz7, sz8, n_eqI, n_neI, n_eq3, n_ne3, n_isi_int, n_isi_bool, n_isi_tuple, List.map_cons, List.map_nil, List.length_cons, List.length_nil, List.replicate, List.set_cons_zero, List.set_cons_succ, List.getElem?_cons_zero, List.getElem?_cons_succ, List.filter_cons, List.filter_nil, Ar.isDk, List.all_cons, List.all_nil, no_dt, no_un, no_ow, no_dk, Bool.and_eq_true, Bool.true_and, Bool.and_true, Bool.false_eq_true, if_false, if_true, ite_true, ite_false, Option.some.injEq, exists_eq_left', true_and, and_true, List.cons_append, List.nil_append, Nat.sub_self, decide_eq_true_eq, Nat.reduceAdd, Nat.reduceSub, Nat.zero_add, Nat.le_refl, Nat.zero_le]
    refine ⟨n4, 5, rfl, by decide, by omega, fun q q0 q1 => ?_⟩
    simp only [↓n_asg_if, BQ.n_rt, sSeq, sNext, sRet, sRetF, sRetO, sDrop, sSet, sOwn, sAsg, sPar, sPar3, sAug, sApp, sIf, dIf, dTest, dAnd, dOr, dNot, dAndV, dOrV, d1, d2, d2F, dVar, dOwn, dC, dF, dTup, dLst, dNil, dCons, dCB, dCB1, dCF1, dChain, dChain3, dCall, dCallF, dCallK, aNil, aCons, aDk, dGn, dGnil, dGcons, dGtup, dOdIx, dGsub, dIdxT, dIdxL, dSlT, dSlL, dPart, dNoPart, dIl, dIt, frz, opn, cls, catD, startR, arS, seqOf, n_add, n_addT, n_sub, n_mul, n_fdiv, n_mod, n_pow, n_shl, n_cmp, n_is, n_neg, n_not, n_ixL, n_ixT, n_lenL, n_lenT, n_abs, n_gcd, n_isqrt, n_int, n_tupL, n_tupT, at10, at1n, at20, at21, at2n, at30, at31, at32, at3n, fD, mD, wipeR, dYes, ix32, ix31, n_boolC, sz0, sz1, sz2, sz3, sz4, sz5, sz6, sz7, sz8, n_eqI, n_neI, n_eq3, n_ne3, n_isi_int, n_isi_bool, n_isi_tuple, List.map_cons, List.map_nil, List.length_cons, List.length_nil, List.replicate, List.set_cons_zero, List.set_cons_succ, List.getElem?_cons_zero, List.getElem?_cons_succ, List.filter_cons, List.filter_nil, Ar.isDk, List.all_cons, List.all_nil, no_dt, no_un, no_ow, no_dk, Bool.and_eq_true, Bool.true_and, Bool.and_true, Bool.false_eq_true, if_false, if_true, ite_true, ite_false, Option.some.injEq, exists_eq_left', true_and, and_true, List.cons_append, List.nil_append, Nat.sub_self, decide_eq_true_eq, Nat.reduceAdd, Nat.reduceSub, Nat.zero_add, Nat.le_refl, Nat.zero_le]
    refine ⟨n4, 1 + q, rfl, by omega, by omega, by omega, fun M c4 dM mM hc4 => ?_⟩
    have dk2 := fo.dk
    have byok : ByOk f M := byBig (by omega) (by omega) (by omega) mM (by decide)
    refine ⟨n4, f, M, rfl, byok, ?_⟩
    subst hU2
    have ed : (f.by M).disc = f.disc := disc_by1 dM
    generalize f.by M = g at ed ⊢
    simp only [↓n_asg_if, BQ.n_rt, sSeq, sNext, sRet, sRetF, sRetO, sDrop, sSet, sOwn, sAsg, sPar, sPar3, sAug, sApp, sIf, dIf, dTest, dAnd, dOr, dNot, dAndV, dOrV, d1, d2, d2F, dVar, dOwn, dC, dF, dTup, dLst, dNil, dCons, dCB, dCB1, dCF1, dChain, dChain3, dCall, dCallF, dCallK, aNil, aCons, aDk, dGn, dGnil, dGcons, dGtup, dOdIx, dGsub, dIdxT, dIdxL, dSlT, dSlL, dPart, dNoPart, dIl, dIt, frz, opn, cls, catD, startR, arS, seqOf, n_add, n_addT, n_sub, n_mul, n_fdiv, n_mod, n_pow, n_shl, n_cmp, n_is, n_neg, n_not, n_ixL, n_ixT, n_lenL, n_lenT, n_abs, n_gcd, n_isqrt, n_int, n_tupL, n_tupT, at10, at1n, at20, at21, at2n, at30, at31, at32, at3n, fD, mD, wipeR, dYes, ix32, ix31, n_boolC, sz0, sz1, sz2, sz3, sz4, sz5, sz6, sz7, sz8, n_eqI, n_neI, n_eq3, n_ne3, n_isi_int, n_isi_bool, n_isi_tuple, List.map_cons, List.map_nil, List.length_cons, List.length_nil, List.replicate, List.set_cons_zero, List.set_cons_succ, List.getElem?_cons_zero, List.getElem?_cons_succ, List.filter_cons, List.filter_nil, Ar.isDk, List.all_cons, List.all_nil, no_dt, no_un, no_ow, no_dk, Bool.and_eq_true, Bool.true_and, Bool.and_true, Bool.false_eq_true, if_false, if_true, ite_true, ite_false, Option.some.injEq, exists_eq_left', true_and, and_true, List.cons_append, List.nil_append, Nat.sub_self, decide_eq_true_eq, Nat.reduceAdd, Nat.reduceSub, Nat.zero_add, Nat.le_refl, Nat.zero_le]
    refine ⟨rfl, ?_⟩
    simp only [↓n_asg_if, BQ.n_rt, sSeq, sNext, sRet, sRetF, sRetO, sDrop, sSet, sOwn, sAsg, sPar, sPar3, sAug, sApp, sIf, dIf, dTest, dAnd, dOr, dNot, dAndV, dOrV, d1, d2, d2F, dVar, dOwn, dC, dF, dTup, dLst, dNil, dCons, dCB, dCB1, dCF1, dChain, dChain3, dCall, dCallF, dCallK, aNil, aCons, aDk, dGn, dGnil, dGcons, dGtup, dOdIx, dGsub, dIdxT, dIdxL, dSlT, dSlL, dPart, dNoPart, dIl, dIt, frz, opn, cls, catD, startR, arS, seqOf, n_add, n_addT, n_sub, n_mul, n_fdiv, n_mod, n_pow, n_shl, n_cmp, n_is, n_neg, n_not, n_ixL, n_ixT, n_lenL, n_lenT, n_abs, n_gcd, n_isqrt, n_int, n_tupL, n_tupT, at10, at1n, at20, at21, at2n, at30, at31, at32, at3n, fD, mD, wipeR, dYes, ix32, ix31, n_boolC, sz0, sz1, sz2, sz3, sz4, sz5, sz6, sz7, sz8, n_eqI, n_neI, n_eq3, n_ne3, n_isi_int, n_isi_bool, n_isi_tuple, List.map_cons, List.map_nil, List.length_cons, List.length_nil, List.replicate, List.set_cons_zero, List.set_cons_succ, List.getElem?_cons_zero, List.getElem?_cons_succ, List.filter_cons, List.filter_nil, Ar.isDk, List.all_cons, List.all_nil, no_dt, no_un, no_ow, no_dk, Bool.and_eq_true, Bool.true_and, Bool.and_true, Bool.false_eq_true, if_false, if_true, ite_true, ite_false, Option.some.injEq, exists_eq_left', true_and, and_true, List.cons_append, List.nil_append, Nat.sub_self, decide_eq_true_eq, Nat.reduceAdd, Nat.reduceSub, Nat.zero_add, Nat.le_refl, Nat.zero_le]
    refine compW_pure absF _ _ (fun d hd K1 K2 hk => ?_) (by show 3 ≤ sizeLine; decide) (maxAbs g fun m ma mb mc => ?_)
    · obtain ⟨i, rfl⟩ : ∃ i : Int, d = .int i := by
        simp only [List.mem_cons, List.not_mem_nil, or_false] at hd
        rcases hd with rfl | rfl | rfl <;> exact ⟨_, rfl⟩
      simp only [↓n_asg_if, BQ.n_rt, sSeq, sNext, sRet, sRetF, sRetO, sDrop, sSet, sOwn, sAsg, sPar, sPar3, sAug, sApp, sIf, dIf, dTest, dAnd, dOr, dNot, dAndV, dOrV, d1, d2, d2F, dVar, dOwn, dC, dF, dTup, dLst, dNil, dCons, dCB, dCB1, dCF1, dChain, dChain3, dCall, dCallF, dCallK, aNil, aCons, aDk, dGn, dGnil, dGcons, dGtup, dOdIx, dGsub, dIdxT, dIdxL, dSlT, dSlL, dPart, dNoPart, dIl, dIt, frz, opn, cls, catD, startR, arS, seqOf, n_add, n_addT, n_sub, n_mul, n_fdiv, n_mod, n_pow, n_shl, n_cmp, n_is, n_neg, n_not, n_ixL, n_ixT, n_lenL, n_lenT, n_abs, n_gcd, n_isqrt, n_int, n_tupL, n_tupT, at10, at1n, at20, at21, at2n, at30, at31, at32, at3n, fD, mD, wipeR, dYes, ix32, ix31, n_boolC, sz0, sz1, sz2, sz3, sz4, sz5, sz6, sz7, sz8, n_eqI, n_neI, n_eq3, n_ne3, n_isi_int, n_isi_bool, n_isi_tuple, List.map_cons, List.map_nil, List.length_cons, List.length_nil, List.replicate, List.set_cons_zero, List.set_cons_succ, List.getElem?_cons_zero, List.getElem?_cons_succ, List.filter_cons, List.filter_nil, Ar.isDk, List.all_cons, List.all_nil, no_dt, no_un, no_ow, no_dk, Bool.and_eq_true, Bool.true_and, Bool.and_true, Bool.false_eq_true, if_false, if_true, ite_true, ite_false, Option.some.injEq, exists_eq_left', true_and, and_true, List.cons_append, List.nil_append, Nat.sub_self, decide_eq_true_eq, Nat.reduceAdd, Nat.reduceSub, Nat.zero_add, Nat.le_refl, Nat.zero_le]
      exact hk
    simp only [↓n_asg_if, BQ.n_rt, sSeq, sNext, sRet, sRetF, sRetO, sDrop, sSet, sOwn, sAsg, sPar, sPar3, sAug, sApp, sIf, dIf, dTest, dAnd, dOr, dNot, dAndV, dOrV, d1, d2, d2F, dVar, dOwn, dC, dF, dTup, dLst, dNil, dCons, dCB, dCB1, dCF1, dChain, dChain3, dCall, dCallF, dCallK, aNil, aCons, aDk, dGn, dGnil, dGcons, dGtup, dOdIx, dGsub, dIdxT, dIdxL, dSlT, dSlL, dPart, dNoPart, dIl, dIt, frz, opn, cls, catD, startR, arS, seqOf, n_add, n_addT, n_sub, n_mul, n_fdiv, n_mod, n_pow, n_shl, n_cmp, n_is, n_neg, n_not, n_ixL, n_ixT, n_lenL, n_lenT, n_abs, n_gcd, n_isqrt, n_int, n_tupL, n_tupT, at10, at1n, at20, at21, at2n, at30, at31, at32, at3n, fD, mD, wipeR, dYes, ix32, ix31, n_boolC, sz0, sz1, sz2, sz3, sz4, sz5, sz6, sz7, sz8, n_eqI, n_neI, n_eq3, n_ne3, n_isi_int, n_isi_bool, n_isi_tuple, List.map_cons, List.map_nil, List.length_cons, List.length_nil, List.replicate, List.set_cons_zero, List.set_cons_succ, List.getElem?_cons_zero, List.getElem?_cons_succ, List.filter_cons, List.filter_nil, Ar.isDk, List.all_cons, List.all_nil, no_dt, no_un, no_ow, no_dk, Bool.and_eq_true, Bool.true_and, Bool.and_true, Bool.false_eq_true, if_false, if_true, ite_true, ite_false, Option.some.injEq, exists_eq_left', true_and, and_true, List.cons_append, List.nil_append, Nat.sub_self, decide_eq_true_eq, Nat.reduceAdd, Nat.reduceSub, Nat.zero_add, Nat.le_refl, Nat.zero_le]
    refine ⟨⟨by decide, by decide, by decide⟩, ?_⟩
    by_cases m7 : m ≤ (10 : Int) ^ (6 : Int).toNat
    · rw [if_pos m7]
      have m7 : m ≤ 1000000 := m7
      have fo2 := fo_of (f := g) (by rw [ed]; exact d0) (by rw [ed]; exact d7) (by omega) (by omega) (by omega)
      refine ⟨g, rfl, fo2, by omega, fun c5 hc5 => ?_⟩
      simp only [↓n_asg_if, BQ.n_rt, sSeq, sNext, sRet, sRetF, sRetO, sDrop, sSet, sOwn, sAsg, sPar, sPar3, sAug, sApp, sIf, dIf, dTest, dAnd, dOr, dNot, dAndV, dOrV, d1, d2, d2F, dVar, dOwn, dC, dF, dTup, dLst, dNil, dCons, dCB, dCB1, dCF1, dChain, dChain3, dCall, dCallF, dCallK, aNil, aCons, aDk, dGn, dGnil, dGcons, dGtup, dOdIx, dGsub, dIdxT, dIdxL, dSlT, dSlL, dPart, dNoPart, dIl, dIt, frz, opn, cls, catD, startR, arS, seqOf, n_add, n_addT, n_sub, n_mul, n_fdiv, n_mod, n_pow, n_shl, n_cmp, n_is, n_neg, n_not, n_ixL, n_ixT, n_lenL, n_lenT, n_abs, n_gcd, n_isqrt, n_int, n_tupL, n_tupT, at10, at1n, at20, at21, at2n, at30, at31, at32, at3n, fD, mD, wipeR, dYes, ix32, ix31, n_boolC, sz0, sz1, sz2, sz3, sz4, sz5, sz6, sz7, sz8, n_eqI, n_neI, n_eq3, n_ne3, n_isi_int, n_isi_bool, n_isi_tuple, List.map_cons, List.map_nil, List.length_cons, List.length_nil, List.replicate, List.set_cons_zero, List.set_cons_succ, List.getElem?_cons_zero, List.getElem?_cons_succ, List.filter_cons, List.filter_nil, Ar.isDk, List.all_cons, List.all_nil, no_dt, no_un, no_ow, no_dk, Bool.and_eq_true, Bool.true_and, Bool.and_true, Bool.false_eq_true, if_false, if_true, ite_true, ite_false, Option.some.injEq, exists_eq_left', true_and, and_true, List.cons_append, List.nil_append, Nat.sub_self, decide_eq_true_eq, Nat.reduceAdd, Nat.reduceSub, Nat.zero_add, Nat.le_refl, Nat.zero_le]
      rw [if_neg (by decide)]
      exact k1 _ _ ⟨_, _, _, rfl, ⟨rfl, rfl, rfl⟩, by omega, by omega⟩
    · rw [if_neg m7]
      exact k1 _ _ ⟨_, _, _, rfl, ⟨rfl, rfl, rfl⟩, by omega, by omega⟩
  · rintro c' ρ ⟨s2, s3, s4, rfl, ⟨n2, n3, n4⟩, hl, hc⟩
    dsimp only
    subst hU
    simp only [↓n_asg_if, BQ.n_rt, sSeq, sNext, sRet, sRetF, sRetO, sDrop, sSet, sOwn, sAsg, sPar, sPar3, sAug, sApp, sIf, dIf, dTest, dAnd, dOr, dNot, dAndV, dOrV, d1, d2, d2F, dVar, dOwn, dC, dF, dTup, dLst, dNil, dCons, dCB, dCB1, dCF1, dChain, dChain3, dCall, dCallF, dCallK, aNil, aCons, aDk, dGn, dGnil, dGcons, dGtup, dOdIx, dGsub, dIdxT, dIdxL, dSlT, dSlL, dPart, dNoPart, dIl, dIt, frz, opn, cls, catD, startR, arS, seqOf, n_add, n_addT, n_sub, n_mul, n_fdiv, n_mod, n_pow, n_shl, n_cmp, n_is, n_neg, n_not, n_ixL, n_ixT, n_lenL, n_lenT, n_abs, n_gcd, n_isqrt, n_int, n_tupL, n_tupT, at10, at1n, at20, at21, at2n, at30, at31, at32, at3n, fD, mD, wipeR, dYes, ix32, ix31, n_boolC, sz0, sz1, sz2, sz3, sz4, sz5, sz6, sz7, sz8, n_eqI, n_neI, n_eq3, n_ne3, n_isi_int, n_isi_bool, n_isi_tuple, List.map_cons, List.map_nil, List.length_cons, List.length_nil, List.replicate, List.set_cons_zero, List.set_cons_succ, List.getElem?_cons_zero, List.getElem?_cons_succ, List.filter_cons, List.filter_nil, Ar.isDk, List.all_cons, List.all_nil, no_dt, no_un, no_ow, no_dk, Bool.and_eq_true, Bool.true_and, Bool.and_true, Bool.false_eq_true, if_false, if_true, ite_true, ite_false, Option.some.injEq, exists_eq_left', true_and, and_true, List.cons_append, List.nil_append, Nat.sub_self, decide_eq_true_eq, Nat.reduceAdd, Nat.reduceSub, Nat.zero_add, Nat.le_refl, Nat.zero_le]
    refine ⟨⟨n2, n3, n4⟩, f8, rfl, fo_of (by decide) (by decide) (by decide) (by decide) (by decide), fun L hL => ?_⟩
    rw [hL.det cy8]
    refine eqSelf (by simp [PyData.plain, PyData.plainAll, fD]) (by simp [PyData.depth, PyData.depthAll, fD]) _ ?_
    simp only [↓n_asg_if, BQ.n_rt, sSeq, sNext, sRet, sRetF, sRetO, sDrop, sSet, sOwn, sAsg, sPar, sPar3, sAug, sApp, sIf, dIf, dTest, dAnd, dOr, dNot, dAndV, dOrV, d1, d2, d2F, dVar, dOwn, dC, dF, dTup, dLst, dNil, dCons, dCB, dCB1, dCF1, dChain, dChain3, dCall, dCallF, dCallK, aNil, aCons, aDk, dGn, dGnil, dGcons, dGtup, dOdIx, dGsub, dIdxT, dIdxL, dSlT, dSlL, dPart, dNoPart, dIl, dIt, frz, opn, cls, catD, startR, arS, seqOf, n_add, n_addT, n_sub, n_mul, n_fdiv, n_mod, n_pow, n_shl, n_cmp, n_is, n_neg, n_not, n_ixL, n_ixT, n_lenL, n_lenT, n_abs, n_gcd, n_isqrt, n_int, n_tupL, n_tupT, at10, at1n, at20, at21, at2n, at30, at31, at32, at3n, fD, mD, wipeR, dYes, ix32, ix31, n_boolC, sz0, sz1, sz2, sz3, sz4, sz5, sz6, sz7, sz8, n_eqI, n_neI, n_eq3, n_ne3, n_isi_int, n_isi_bool, n_isi_tuple, List.map_cons, List.map_nil, List.length_cons, List.length_nil, List.replicate, List.set_cons_zero, List.set_cons_succ, List.getElem?_cons_zero, List.getElem?_cons_succ, List.filter_cons, List.filter_nil, Ar.isDk, List.all_cons, List.all_nil, no_dt, no_un, no_ow, no_dk, Bool.and_eq_true, Bool.true_and, Bool.and_true, Bool.false_eq_true, if_false, if_true, ite_true, ite_false, Option.some.injEq, exists_eq_left', true_and, and_true, List.cons_append, List.nil_append, Nat.sub_self, decide_eq_true_eq, Nat.reduceAdd, Nat.reduceSub, Nat.zero_add, Nat.le_refl, Nat.zero_le]
    refine ⟨⟨n2, n3, n4⟩, f9, rfl, fo_of (by decide) (by decide) (by decide) (by decide) (by decide), fun L R m hL hR _ _ _ => ?_⟩
    have := head9 hL hR
    subst this
    simp only [↓n_asg_if, BQ.n_rt, sSeq, sNext, sRet, sRetF, sRetO, sDrop, sSet, sOwn, sAsg, sPar, sPar3, sAug, sApp, sIf, dIf, dTest, dAnd, dOr, dNot, dAndV, dOrV, d1, d2, d2F, dVar, dOwn, dC, dF, dTup, dLst, dNil, dCons, dCB, dCB1, dCF1, dChain, dChain3, dCall, dCallF, dCallK, aNil, aCons, aDk, dGn, dGnil, dGcons, dGtup, dOdIx, dGsub, dIdxT, dIdxL, dSlT, dSlL, dPart, dNoPart, dIl, dIt, frz, opn, cls, catD, startR, arS, seqOf, n_add, n_addT, n_sub, n_mul, n_fdiv, n_mod, n_pow, n_shl, n_cmp, n_is, n_neg, n_not, n_ixL, n_ixT, n_lenL, n_lenT, n_abs, n_gcd, n_isqrt, n_int, n_tupL, n_tupT, at10, at1n, at20, at21, at2n, at30, at31, at32, at3n, fD, mD, wipeR, dYes, ix32, ix31, n_boolC, sz0, sz1, sz2, sz3, sz4, sz5, sz6, sz7, sz8, n_eqI, n_neI, n_eq3, n_ne3, n_isi_int, n_isi_bool, n_isi_tuple, List.map_cons, List.map_nil, List.length_cons, List.length_nil, List.replicate, List.set_cons_zero, List.set_cons_succ, List.getElem?_cons_zero, List.getElem?_cons_succ, List.filter_cons, List.filter_nil, Ar.isDk, List.all_cons, List.all_nil, no_dt, no_un, no_ow, no_dk, Bool.and_eq_true, Bool.true_and, Bool.and_true, Bool.false_eq_true, if_false, if_true, ite_true, ite_false, Option.some.injEq, exists_eq_left', true_and, and_true, List.cons_append, List.nil_append, Nat.sub_self, decide_eq_true_eq, Nat.reduceAdd, Nat.reduceSub, Nat.zero_add, Nat.le_refl, Nat.zero_le]
    refine ⟨rfl, ?_⟩
    simp only [↓n_asg_if, BQ.n_rt, sSeq, sNext, sRet, sRetF, sRetO, sDrop, sSet, sOwn, sAsg, sPar, sPar3, sAug, sApp, sIf, dIf, dTest, dAnd, dOr, dNot, dAndV, dOrV, d1, d2, d2F, dVar, dOwn, dC, dF, dTup, dLst, dNil, dCons, dCB, dCB1, dCF1, dChain, dChain3, dCall, dCallF, dCallK, aNil, aCons, aDk, dGn, dGnil, dGcons, dGtup, dOdIx, dGsub, dIdxT, dIdxL, dSlT, dSlL, dPart, dNoPart, dIl, dIt, frz, opn, cls, catD, startR, arS, seqOf, n_add, n_addT, n_sub, n_mul, n_fdiv, n_mod, n_pow, n_shl, n_cmp, n_is, n_neg, n_not, n_ixL, n_ixT, n_lenL, n_lenT, n_abs, n_gcd, n_isqrt, n_int, n_tupL, n_tupT, at10, at1n, at20, at21, at2n, at30, at31, at32, at3n, fD, mD, wipeR, dYes, ix32, ix31, n_boolC, sz0, sz1, sz2, sz3, sz4, sz5, sz6, sz7, sz8, n_eqI, n_neI, n_eq3, n_ne3, n_isi_int, n_isi_bool, n_isi_tuple, List.map_cons, List.map_nil, List.length_cons, List.length_nil, List.replicate, List.set_cons_zero, List.set_cons_succ, List.getElem?_cons_zero, List.getElem?_cons_succ, List.filter_cons, List.filter_nil, Ar.isDk, List.all_cons, List.all_nil, no_dt, no_un, no_ow, no_dk, Bool.and_eq_true, Bool.true_and, Bool.and_true, Bool.false_eq_true, if_false, if_true, ite_true, ite_false, Option.some.injEq, exists_eq_left', true_and, and_true, List.cons_append, List.nil_append, Nat.sub_self, decide_eq_true_eq, Nat.reduceAdd, Nat.reduceSub, Nat.zero_add, Nat.le_refl, Nat.zero_le]
    refine compW_pure (fun _ => some (.bool false)) _ _ (fun d hd K1 K2 hk => ?_) (by show 5 ≤ sizeLine; decide) ?_
    · obtain ⟨o1, o2⟩ := odd_no hd
      simp only [↓n_asg_if, BQ.n_rt, sSeq, sNext, sRet, sRetF, sRetO, sDrop, sSet, sOwn, sAsg, sPar, sPar3, sAug, sApp, sIf, dIf, dTest, dAnd, dOr, dNot, dAndV, dOrV, d1, d2, d2F, dVar, dOwn, dC, dF, dTup, dLst, dNil, dCons, dCB, dCB1, dCF1, dChain, dChain3, dCall, dCallF, dCallK, aNil, aCons, aDk, dGn, dGnil, dGcons, dGtup, dOdIx, dGsub, dIdxT, dIdxL, dSlT, dSlL, dPart, dNoPart, dIl, dIt, frz, opn, cls, catD, startR, arS, seqOf, n_add, n_addT, n_sub, n_mul, n_fdiv, n_mod, n_pow, n_shl, n_cmp, n_is, n_neg, n_not, n_ixL, n_ixT, n_lenL, n_lenT, n_abs, n_gcd, n_isqrt, n_int, n_tupL, n_tupT, at10, at1n, at20, at21, at2n, at30, at31, at32, at3n, fD, mD, wipeR, dYes, ix32, ix31, n_boolC, sz0, sz1, sz2, sz3, sz4, sz5, sz6, sz7, sz8, n_eqI, n_neI, n_eq3, n_ne3, n_isi_int, n_isi_bool, n_isi_tuple, List.map_cons, List.map_nil, List.length_cons, List.length_nil, List.replicate, List.set_cons_zero, List.set_cons_succ, List.getElem?_cons_zero, List.getElem?_cons_succ, List.filter_cons, List.filter_nil, Ar.isDk, List.all_cons, List.all_nil, no_dt, no_un, no_ow, no_dk, Bool.and_eq_true, Bool.true_and, Bool.and_true, Bool.false_eq_true, if_false, if_true, ite_true, ite_false, Option.some.injEq, exists_eq_left', true_and, and_true, List.cons_append, List.nil_append, Nat.sub_self, decide_eq_true_eq, Nat.reduceAdd, Nat.reduceSub, Nat.zero_add, Nat.le_refl, Nat.zero_le]
      refine ⟨⟨n2, n3, n4⟩, d, rfl, o2, ?_⟩
      rw [o1]
      exact hk
    · unfold dRep
      simp only [↓n_asg_if, BQ.n_rt, sSeq, sNext, sRet, sRetF, sRetO, sDrop, sSet, sOwn, sAsg, sPar, sPar3, sAug, sApp, sIf, dIf, dTest, dAnd, dOr, dNot, dAndV, dOrV, d1, d2, d2F, dVar, dOwn, dC, dF, dTup, dLst, dNil, dCons, dCB, dCB1, dCF1, dChain, dChain3, dCall, dCallF, dCallK, aNil, aCons, aDk, dGn, dGnil, dGcons, dGtup, dOdIx, dGsub, dIdxT, dIdxL, dSlT, dSlL, dPart, dNoPart, dIl, dIt, frz, opn, cls, catD, startR, arS, seqOf, n_add, n_addT, n_sub, n_mul, n_fdiv, n_mod, n_pow, n_shl, n_cmp, n_is, n_neg, n_not, n_ixL, n_ixT, n_lenL, n_lenT, n_abs, n_gcd, n_isqrt, n_int, n_tupL, n_tupT, at10, at1n, at20, at21, at2n, at30, at31, at32, at3n, fD, mD, wipeR, dYes, ix32, ix31, n_boolC, sz0, sz1, sz2, sz3, sz4, sz5, sz6, sz7, sz8, n_eqI, n_neI, n_eq3, n_ne3, n_isi_int, n_isi_bool, n_isi_tuple, List.map_cons, List.map_nil, List.length_cons, List.length_nil, List.replicate, List.set_cons_zero, List.set_cons_succ, List.getElem?_cons_zero, List.getElem?_cons_succ, List.filter_cons, List.filter_nil, Ar.isDk, List.all_cons, List.all_nil, no_dt, no_un, no_ow, no_dk, Bool.and_eq_true, Bool.true_and, Bool.and_true, Bool.false_eq_true, if_false, if_true, ite_true, ite_false, Option.some.injEq, exists_eq_left', true_and, and_true, List.cons_append, List.nil_append, Nat.sub_self, decide_eq_true_eq, Nat.reduceAdd, Nat.reduceSub, Nat.zero_add, Nat.le_refl, Nat.zero_le]
      refine ⟨by decide, by decide, by show 1 * 5 ≤ sizeLine; decide, ?_⟩
      exact eqSelf (d := .list [.bool false, .bool false, .bool false, .bool false, .bool false]) (by simp [PyData.plain, PyData.plainAll]) (by simp [PyData.depth, PyData.depthAll]) _ (h _)
end
end K31

/-! The head's hook: defs, free names, names of built-ins, constants of data. -/
namespace HK
open PySem PySem.Spec PyProof.Rows L2 DL
theorem toFun {K : PySem.W.Frag} {x : Str} {st : Stmt} {f : Addr} {fd : FuncData} (F : FunD K x x (defArgs st) (defBody st) (defScope st) [] [] f fd) : Fun K x x st f fd := by
  obtain ⟨oc, od, dV, kV, doc, pm, an, cdv, ct, osl, e, lk, hcd, hD, _⟩ := F.ex
  rcases hD with ⟨_, rfl⟩ | ⟨e2, _⟩
  · exact ⟨⟨oc, od, kV, doc, pm, an, cdv, ct, osl, e, lk, hcd⟩, F.kp⟩
  · exact absurd rfl e2
/-! ### constants -/
def seqB (K : PySem.W.Frag) (c : String) (u : Value) : Option (List Value) := match u with
  | .ref a => match K.lookup a with
    | some ⟨.type t, none, .seq its _, _⟩ => if t = c ∧ its.size ≤ sizeLine then some its.toList else none
    | _ => none
  | _ => none
mutual
def datB (K : PySem.W.Frag) : PyData → Value → Bool
  | .none, u => (match u with
    | .none => true
    | _ => false)
  | .bool b, u => (match u with
    | .bool c => b == c
    | _ => false)
  | .int i, u => (match u with
    | .int j _ => decide (i = j)
    | _ => false)
  | .str x, u => (match u with
    | .str y _ => decide (x = y)
    | _ => false)
  | .tuple ds, u => (match seqB K "tuple" u with
    | some us => datBs K ds us
    | none => false)
  | .list ds, u => (match seqB K "list" u with
    | some us => datBs K ds us
    | none => false)
  | .dict _, _ => false
def datBs (K : PySem.W.Frag) : List PyData → List Value → Bool
  | [], us => us.isEmpty
  | d :: ds, us => (match us with
    | u :: vs => datB K d u && datBs K ds vs
    | [] => false)
end
theorem seqB_ok {K : PySem.W.Frag} {c : String} {u : Value} {us : List Value} (h : seqB K c u = some us) :
    ∃ a o its n, u = .ref a ∧ K.lookup a = some o ∧ o.cls = .type c ∧ o.dict = none ∧ o.data = .seq its n ∧ its.size ≤ sizeLine ∧ its.toList = us := by
  unfold seqB at h
  split at h
  · rename_i a
    split at h
    · rename_i t its n sl e
      split at h
      · rename_i z
        obtain ⟨rfl, z2⟩ := z
        exact ⟨a, _, its, n, rfl, e, rfl, rfl, rfl, z2, Option.some.inj h⟩
      · cases h
    · cases h
  · cases h
mutual
theorem datB_ok {K : PySem.W.Frag} : ∀ {d : PyData} {u : Value}, datB K d u = true → ∃ v, RelV v u ∧ ∀ P H, Dv K P H v d
  | .none, u, h => by
    cases u with
    | none => exact ⟨.non, rfl, fun _ _ => .non⟩
    | _ => cases h
  | .bool b, u, h => by
    cases u <;> first | cases h | skip
    rename_i c
    have e : b = c := eq_of_beq (show (b == c) = true from h)
    subst e
    exact ⟨.bl b, rfl, fun _ _ => .bl b⟩
  | .int i, u, h => by
    cases u <;> first | cases h | skip
    rename_i j t
    have e : i = j := of_decide_eq_true (show decide (i = j) = true from h)
    subst e
    exact ⟨.int i, ⟨t, rfl⟩, fun _ _ => .int i⟩
  | .str x, u, h => by
    cases u <;> first | cases h | skip
    rename_i y t
    have e : x = y := of_decide_eq_true (show decide (x = y) = true from h)
    subst e
    exact ⟨.str x, ⟨t, rfl⟩, fun _ _ => .str x⟩
  | .tuple ds, u, h => by
    unfold datB at h
    split at h
    · rename_i us e
      obtain ⟨a, o, its, n, rfl, lk, h1, h2, h3, h4, rfl⟩ := seqB_ok e
      obtain ⟨vs, rv, dv⟩ := datBs_ok h
      have kt : KT K a vs := ⟨o, its, n, lk, h1, h2, h3, h4, rv⟩
      exact ⟨.ref a, rfl, fun P H => .tup ⟨kt.sq, .inr kt⟩ (dv P H)⟩
    · cases h
  | .list ds, u, h => by
    unfold datB at h
    split at h
    · rename_i us e
      obtain ⟨a, o, its, n, rfl, lk, h1, h2, h3, h4, rfl⟩ := seqB_ok e
      obtain ⟨vs, rv, dv⟩ := datBs_ok h
      have kt : KL K a vs := ⟨o, its, n, lk, h1, h2, h3, h4, rv⟩
      exact ⟨.ref a, rfl, fun P H => .lst ⟨.inr kt, .inr kt⟩ (dv P H)⟩
    · cases h
  | .dict _, u, h => by cases h
theorem datBs_ok {K : PySem.W.Frag} : ∀ {ds : List PyData} {us : List Value}, datBs K ds us = true → ∃ vs, Vals vs us ∧ ∀ P H, DvAll K P H vs ds
  | [], us, h => by
    cases us with
    | nil => exact ⟨[], .nil, fun _ _ => .nil⟩
    | cons u us => cases h
  | d :: ds, us, h => by
    cases us with
    | nil => cases h
    | cons u us =>
      obtain ⟨h1, h2⟩ := Bool.and_eq_true_iff.mp (show (datB K d u && datBs K ds us) = true from h)
      obtain ⟨v, r, dv⟩ := datB_ok h1
      obtain ⟨vs, rs, dvs⟩ := datBs_ok h2
      exact ⟨v :: vs, .cons r rs, fun P H => .cons (dv P H) (dvs P H)⟩
end
/-! ### facts besides He's -/
inductive Ex where
  | bi (x : Str) (id : String)
  | dat (x : Str) (d : PyData)
def Ex.ok (K : PySem.W.Frag) : Ex → Bool
  | .bi x id => (match PySem.W.nsIn K mainGlobals x with
    | some (some (.builtin j)) => decide (j = id)
    | _ => false)
  | .dat x d => (match PySem.W.nsIn K mainGlobals x with
    | some (some u) => datB K d u
    | _ => false)
section
variable {K : PySem.W.Frag} {h : Heap} {mg : Str → Option Value}
theorem bi_ok (X : K.In h) (G : h.Ns mainGlobals mg) {x : Str} {id : String} (c : (Ex.bi x id).ok K = true) : mg x = some (.builtin id) := by
  have c2 : (match PySem.W.nsIn K mainGlobals x with
    | some (some (.builtin j)) => decide (j = id)
    | _ => false) = true := c
  split at c2
  · rename_i j e
    have ej : j = id := of_decide_eq_true c2
    rw [ej] at e
    exact PySem.W.mg_of X G e
  · cases c2
theorem dat_ok (X : K.In h) (G : h.Ns mainGlobals mg) {x : Str} {d : PyData} (c : (Ex.dat x d).ok K = true) : ∃ v u, mg x = some u ∧ RelV v u ∧ ∀ P H, Dv K P H v d := by
  have c2 : (match PySem.W.nsIn K mainGlobals x with
    | some (some u) => datB K d u
    | _ => false) = true := c
  split at c2
  · rename_i u e
    obtain ⟨v, r, dv⟩ := datB_ok c2
    exact ⟨v, u, PySem.W.mg_of X G e, r, dv⟩
  · cases c2
end
abbrev Al : Type := He.AlD × Bool
def obsX (fa : List He.Fa) (ex : List Ex) (fn : List He.DefD) (K : PySem.W.Frag) : Al := (He.obsD fa fn K, ex.all fun e => e.ok K)
def valX (fn : List He.DefD) : Al := (He.valD fn, true)
def SaysX (fa : List He.Fa) (ex : List Ex) (fn : List He.DefD) (K : PySem.W.Frag) : Prop := obsX fa ex fn K = valX fn
def obsXG (n : Nat) (fa : List He.Fa) (ex : List Ex) (fn : List He.DefD) (g : Addr → Option Obj) : Al := obsX fa ex fn (He.frG g (He.asD g n))
def hookX (n : Nat) (fa : List He.Fa) (ex : List Ex) (fn : List He.DefD) : PySem.W.Hook where
  α := Al
  obs := fun s => obsXG n fa ex fn s.heap.get?
  val := fun _ => valX fn
  says := fun _ h => ∃ K : PySem.W.Frag, K.In h ∧ SaysX fa ex fn K
  of := fun _ _ e => ⟨_, He.frG_in, e⟩
  keeps := fun _ _ _ ⟨K, hK, c⟩ k => ⟨K, PySem.W.Frag.In.keeps hK k, c⟩
theorem obsXG_eq {n : Nat} {fa : List He.Fa} {ex : List Ex} {fn : List He.DefD} {g : Addr → Option Obj} {s : Shared} (h : ∀ a, g a = s.heap.get? a) : obsXG n fa ex fn g = (hookX n fa ex fn).obs s := by
  have e : g = s.heap.get? := funext h
  rw [e] <;> rfl
section
variable {fa : List He.Fa} {ex : List Ex} {fn : List He.DefD} {K : PySem.W.Frag}
theorem says_d (c : SaysX fa ex fn K) : He.SaysD fa fn K := congrArg (fun z : Al => z.1) c
theorem says_fa (c : SaysX fa ex fn K) {f : He.Fa} (h : f ∈ fa) : f.ok K = true := by
  have c1 := (He.ba (show ((fa.all fun f => f.ok K) && fn.all fun d => d.ok K) = true from congrArg (fun z : He.AlD => z.1) (says_d c))).1
  exact List.all_eq_true.mp c1 f h
theorem says_ex (c : SaysX fa ex fn K) {e : Ex} (h : e ∈ ex) : e.ok K = true :=
  List.all_eq_true.mp (show (ex.all fun e => e.ok K) = true from congrArg (fun z : Al => z.2) c) e h
theorem says_fn (c : SaysX fa ex fn K) {d : He.DefD} (h : d ∈ fn) : ∃ fd, FunD K d.name d.qual d.params d.body d.scope (d.dvs K) (d.kws K) (He.fAd K d.at_) fd := by
  obtain ⟨i, hi⟩ := List.mem_iff_getElem?.mp h
  exact (says_d c).def_ i hi
end
/-- a def of the top -/
def dd (top : Nat → Stmt) (p : Nat × Str) : He.DefD := ⟨(p.2, none), p.2, p.2, defArgs (top p.1), defBody (top p.1), defScope (top p.1), [], []⟩
theorem fn_at {fa : List He.Fa} {ex : List Ex} {top : Nat → Stmt} {fns : List (Nat × Str)} {K : PySem.W.Frag} (c : SaysX fa ex (fns.map (dd top)) K) {i : Nat} {x : Str} (h : (i, x) ∈ fns) : ∃ fd, Fun K x x (top i) (He.ga K x) fd := by
  obtain ⟨fd, F⟩ := says_fn c (d := dd top (i, x)) (List.mem_map.mpr ⟨_, h, rfl⟩)
  exact ⟨fd, toFun F⟩
theorem walk_B {g : Bool} {l : PySem.W.OpenLaw} {n k : Nat} {q : Program} {loose : List Str} {XP : (Str → Option Value) → Heap → Prop} {YP : World → Heap → Prop} {d : DefRec} {Y : World → CXT} {x : Str} (hn : l.most = some n) (hn2 : n ≤ sizeLine) (hdf : d.params.defaults = []) (hr : Room k callerA)
    (F : ∀ (w : World) (mg : Str → Option Value) (fa : Addr) (h : Heap), YP w h → h.Ns mainGlobals mg → mg d.name = some (.ref fa) →
      ∃ (K : PySem.W.Frag) (fd : FuncData) (sp : Sp), K.In h ∧ (∀ (s : Shared) (u : Value), BindsTo s fd ⟨[u], []⟩ [(x, u)]) ∧
        (∀ (H : Hp) (a : Addr) (ns : List Int), ns.length ≤ n → Only H → SqL K H a (ns.map V.int) → sp [.ref a] H (fun v _ => v = .bl true) fun _ _ _ => False) ∧
        ∀ base : Heap, K.In base → base.Ns mainGlobals mg → FnA g l.prog w K mg base (Y w) k fa fd [x] sp)
    (hY : ∀ (w : World) (H : Hp) (s : Shared) (e : Value) (s' : Shared), Y w [] H s (fun _ _ _ => False) e s' → False) :
    PySem.W.WalkO q loose XP YP l.row.toRowW d [] (fun f vs => PySem.call f vs) := by
  refine Att.attach_call hn hdf ?_
  intro w s₀ s₁ mg mb fa o pm cd doc a vs ns G Y' ho hd hcd hmg hobj hints hlen hg
  obtain ⟨K, fd, sp, KX, hb, hsp, hF⟩ := F w mg fa _ Y' G.T.g hmg
  exact law_callA KX G.T.g G.T.b G.T.builtins G.T.nolimit hg hobj hints (Nat.le_trans hlen hn2) hr hF hb (fun H hO hS => hsp H a ns hlen hO hS) fun H e s' => hY w H s₁ e s'
/-- a constant that is a tuple or a list -/
theorem con_ok {K : PySem.W.Frag} {h : Heap} {mg : Str → Option Value} (X : K.In h) (G : h.Ns mainGlobals mg) {x : Str} {ds : List PyData} (c : (Ex.dat x (.tuple ds)).ok K = true) : mg x = some (.ref (He.ga K x)) ∧ ∀ P H, Dv K P H (.ref (He.ga K x)) (.tuple ds) := by
  have c2 : (match PySem.W.nsIn K mainGlobals x with
    | some (some u) => datB K (.tuple ds) u
    | _ => false) = true := c
  split at c2
  · rename_i u e
    obtain ⟨v, r, dv⟩ := datB_ok c2
    have m := PySem.W.mg_of X G e
    have d0 := dv (fun _ => False) (fun _ => none)
    cases d0 with
    | tup h1 h2 =>
      rename_i a xs
      have eu : u = .ref a := r
      subst eu
      have eg : He.ga K x = a := by
        unfold He.ga
        rw [e]
      rw [eg]
      exact ⟨m, dv⟩
  · cases c2
/-- the law's promise, at its call -/
theorem sp_start {K : PySem.W.Frag} {sd : Sd} {H : Hp} {a : Addr} {ns : List Int} {E : XK} (hO : Only H) (hS : SqL K H a (ns.map V.int))
    (h : ∀ Φ : PyData → Nat → Prop, (∀ c, Φ (.bool true) c) → sd 0 [.dt (.list (ns.map .int))] (fun _ _ _ => False) Φ (fun _ _ => False)) : spOf K 1 sd [.ref a] H (fun v _ => v = .bl true) E := by
  refine ⟨fun b => b = a ∧ ∃ o xs, H b = some (.frz o (.lst xs)), fun _ => False, 0, [.dt (.list (ns.map .int))], fun _ _ _ => False, fun d _ => d = .bool true, fun _ _ => False, rfl,
    ⟨fun b hb => ?_, fun b hb z => z, fun b hb => .inl hb, fun b o e _ => e, fun b hb => hb.elim, fun b hb => ?_⟩, .cons (.dt (.lst ⟨hS, ?_⟩ (DvAll.ofInts ns))) .nil, by show 0 ≤ 1; decide, h _ fun _ => rfl, ?_, ?_, ?_⟩
  · obtain ⟨_, o, xs, e⟩ := hb
    exact ⟨_, e⟩
  · obtain ⟨_, o, xs, e⟩ := hb
    rw [e]
    exact ⟨fun ys z => by injection z with z; injection z, fun ob ys z => by injection z with z; injection z with z1 z2; injection z2⟩
  · rcases hS with hS | hk
    · rcases hO a with e | ⟨o, xs, e⟩
      · rcases hS with z | ⟨o, z⟩ <;> (rw [e] at z; cases z)
      · exact .inl ⟨rfl, o, xs, e⟩
    · exact .inr hk
  · rintro d c' v P' H' rfl _ _ D
    cases D
    rfl
  · intro ds c' p vs' P' H' z
    exact z.elim
  · intro C d c' v dx P' H' z
    exact z.elim
end HK

set_option maxHeartbeats 0
/-! The head and the end. -/
namespace K31
open PySem PySem.Spec PyProof.Rows L2 DL HK BQ
def loose0 : List Str := ["gcd", "isqrt", "is_integer", "is_tuple", "is_integers", "anew", "FormError", "InvalidBinary", "InvalidStep", "SAME", "SWAP", "discriminant_of", "divisor_of", "is_split", "value_at", "taken_by", "times_step", "bezout", "is_reduced_form", "definite_reduced", "zero_directions", "split_reduced", "neighbour_step", "indefinite_reduced", "to_reduced", "ring_of", "step_along", "is_binary", "need_binary", "is_step"]
def loose1 : List Str := ["discriminant", "is_primitive", "stepped", "is_reduced", "cycle", "reduced", "_law_seed", "_law_any", "_law_one_of", "_law_gcd", "_law_is_integer", "_law_whole_root", "_law_disc", "_law_stepped", "_law_behind", "_law_is_step", "_law_is_split", "_law_is_reduced", "_law_next", "_law_zero_line", "_law_reduced", "_law_cycle", "_law_step", "_law_edge", "_law_right"]
def loose : List Str := loose0 ++ loose1
def hex : List Ex := [.bi "gcd" "math.gcd", .bi "isqrt" "math.isqrt", .dat "SAME" (mD M.one), .dat "SWAP" (mD swp)]
def hfa : List He.Fa := (fns.map fun p => He.Fa.glo p.2) ++ frs.map He.Fa.free
def hfn : List He.DefD := fns.map (dd top)
abbrev R : PySem.W.OpenRow := PySem.W.OpenLaw.row PySem.Challenge.rw_formsbeyond_k31_reduced_forms_at_their_e
abbrev hk : PySem.W.Hook := hookX 4 hfa hex hfn
def ob (s : PySem.W.SharedT) : Al := obsXG 4 hfa hex hfn (HandSHeadRun.getT s)
theorem ob_eq (s : PySem.W.SharedT) : ob s = hk.obs s.abs := obsXG_eq (HandSHeadRun.getT_eq s)
theorem run (w : World) : HandSHeadRun.RunEqI R (PySem.W.view R.prog [0, 59]) hk ob 4000 loose w := by
  unfold HandSHeadRun.RunEqI
  kernel_rfl
theorem mo_of {h : Heap} {K : PySem.W.Frag} {mg : Str → Option Value} (X : K.In h) (G : h.Ns mainGlobals mg) (c : SaysX hfa hex hfn K) : Mo K mg where
  fr := fun x hx => He.free_ok X G (says_fa c (f := .free x) (List.mem_append_right _ (List.mem_map.mpr ⟨x, hx, rfl⟩)))
  m_gcd := bi_ok X G (says_ex c (e := .bi "gcd" "math.gcd") (by simp [hex]))
  m_isqrt := bi_ok X G (says_ex c (e := .bi "isqrt" "math.isqrt") (by simp [hex]))
  k_SAME := con_ok X G (says_ex c (e := .dat "SAME" (mD M.one)) (by simp [hex]))
  k_SWAP := con_ok X G (says_ex c (e := .dat "SWAP" (mD swp)) (by simp [hex]))
  fn := fun i x hx => by
    obtain ⟨fd, F⟩ := fn_at c hx
    exact ⟨fd, He.glo_ok X G (says_fa c (f := .glo x) (List.mem_append_left _ (List.mem_map.mpr ⟨_, hx, rfl⟩))), F⟩
theorem all_ok {P : Program} {w : World} {K : PySem.W.Frag} {mg : Str → Option Value} {base : Heap} (Mx : Mo K mg) : Cl true P w K mg base 8 "law" ["script"] sd_law := by
  have C_is_integer : Cl false P w K mg base 1 "is_integer" ["value"] sd_is_integer := ok_is_integer Mx 
  have C_is_tuple : Cl false P w K mg base 1 "is_tuple" ["value", "low", "high"] sd_is_tuple := ok_is_tuple Mx 
  have C_is_integers : Cl false P w K mg base 2 "is_integers" ["value", "many"] sd_is_integers := ok_is_integers Mx C_is_integer C_is_tuple
  have C_discriminant_of : Cl false P w K mg base 1 "discriminant_of" ["f"] sd_discriminant_of := ok_discriminant_of Mx 
  have C_divisor_of : Cl false P w K mg base 1 "divisor_of" ["f"] sd_divisor_of := ok_divisor_of Mx 
  have C_is_split : Cl false P w K mg base 2 "is_split" ["f"] sd_is_split := ok_is_split Mx C_discriminant_of
  have C_value_at : Cl false P w K mg base 1 "value_at" ["f", "x", "y"] sd_value_at := ok_value_at Mx 
  have C_taken_by : Cl false P w K mg base 2 "taken_by" ["f", "step"] sd_taken_by := ok_taken_by Mx C_value_at
  have C_times_step : Cl false P w K mg base 1 "times_step" ["one", "other"] sd_times_step := ok_times_step Mx 
  have C_bezout : Cl false P w K mg base 1 "bezout" ["a", "b"] sd_bezout := ok_bezout Mx 
  have C_is_reduced_form : Cl false P w K mg base 3 "is_reduced_form" ["f"] sd_is_reduced_form := ok_is_reduced_form Mx C_discriminant_of C_is_split
  have C_neighbour_step : Cl false P w K mg base 2 "neighbour_step" ["f"] sd_neighbour_step := ok_neighbour_step Mx C_discriminant_of
  have C_indefinite_reduced : Cl false P w K mg base 4 "indefinite_reduced" ["f"] sd_indefinite_reduced := ok_indefinite_reduced Mx C_is_reduced_form C_neighbour_step C_times_step C_taken_by
  have C_definite_reduced : Cl false P w K mg base 3 "definite_reduced" ["f"] sd_definite_reduced := ok_definite_reduced Mx C_times_step C_taken_by
  have C_zero_directions : Cl false P w K mg base 2 "zero_directions" ["f"] sd_zero_directions := ok_zero_directions Mx C_discriminant_of
  have C_split_reduced : Cl false P w K mg base 3 "split_reduced" ["f"] sd_split_reduced := ok_split_reduced Mx C_zero_directions C_bezout C_taken_by C_times_step
  have C_to_reduced : Cl false P w K mg base 5 "to_reduced" ["f"] sd_to_reduced := ok_to_reduced Mx C_discriminant_of C_is_split C_split_reduced C_indefinite_reduced C_definite_reduced
  have C_ring_of : Cl false P w K mg base 3 "ring_of" ["f"] sd_ring_of := ok_ring_of Mx C_is_split C_discriminant_of C_taken_by C_neighbour_step
  have C_step_along : Cl false P w K mg base 3 "step_along" ["f", "other"] sd_step_along := ok_step_along Mx C_neighbour_step C_times_step C_taken_by
  have C_is_binary : Cl false P w K mg base 3 "is_binary" ["value"] sd_is_binary := ok_is_binary Mx C_discriminant_of C_is_integers
  have C_need_binary : Cl false P w K mg base 4 "need_binary" ["binary"] sd_need_binary := ok_need_binary Mx C_is_binary
  have C_is_step : Cl false P w K mg base 3 "is_step" ["value"] sd_is_step := ok_is_step Mx C_is_integers C_is_tuple
  have C_discriminant : Cl false P w K mg base 5 "discriminant" ["binary"] sd_discriminant := ok_discriminant Mx C_need_binary C_discriminant_of
  have C_is_primitive : Cl false P w K mg base 5 "is_primitive" ["binary"] sd_is_primitive := ok_is_primitive Mx C_need_binary C_divisor_of
  have C_stepped : Cl false P w K mg base 5 "stepped" ["binary", "step"] sd_stepped := ok_stepped Mx C_need_binary C_is_step C_taken_by
  have C_is_reduced : Cl false P w K mg base 5 "is_reduced" ["binary"] sd_is_reduced := ok_is_reduced Mx C_need_binary C_is_reduced_form
  have C_cycle : Cl false P w K mg base 6 "cycle" ["binary"] sd_cycle := ok_cycle Mx C_need_binary C_ring_of C_to_reduced
  have C_reduced : Cl false P w K mg base 6 "reduced" ["binary"] sd_reduced := ok_reduced Mx C_need_binary C_to_reduced C_ring_of C_times_step C_step_along
  have C__law_seed : Cl false P w K mg base 1 "_law_seed" ["script"] sd__law_seed := ok__law_seed Mx 
  have C__law_any : Cl false P w K mg base 1 "_law_any" ["seed", "many"] sd__law_any := ok__law_any Mx 
  have C__law_one_of : Cl false P w K mg base 2 "_law_one_of" ["seed", "items"] sd__law_one_of := ok__law_one_of Mx C__law_any
  have C__law_gcd : Cl false P w K mg base 1 "_law_gcd" ["one", "other"] sd__law_gcd := ok__law_gcd Mx 
  have C__law_is_integer : Cl false P w K mg base 1 "_law_is_integer" ["value"] sd__law_is_integer := ok__law_is_integer Mx 
  have C__law_whole_root : Cl false P w K mg base 1 "_law_whole_root" ["n"] sd__law_whole_root := ok__law_whole_root Mx 
  have C__law_disc : Cl false P w K mg base 1 "_law_disc" ["form"] sd__law_disc := ok__law_disc Mx 
  have C__law_stepped : Cl false P w K mg base 1 "_law_stepped" ["form", "step"] sd__law_stepped := ok__law_stepped Mx 
  have C__law_behind : Cl false P w K mg base 1 "_law_behind" ["one", "other"] sd__law_behind := ok__law_behind Mx 
  have C__law_is_step : Cl false P w K mg base 2 "_law_is_step" ["value"] sd__law_is_step := ok__law_is_step Mx C__law_is_integer
  have C__law_is_split : Cl false P w K mg base 2 "_law_is_split" ["d"] sd__law_is_split := ok__law_is_split Mx C__law_whole_root
  have C__law_is_reduced : Cl false P w K mg base 3 "_law_is_reduced" ["form"] sd__law_is_reduced := ok__law_is_reduced Mx C__law_disc C__law_is_split
  have C__law_next : Cl false P w K mg base 2 "_law_next" ["form"] sd__law_next := ok__law_next Mx C__law_disc C__law_whole_root
  have C__law_zero_line : Cl false P w K mg base 2 "_law_zero_line" ["x", "y"] sd__law_zero_line := ok__law_zero_line Mx C__law_gcd
  have C__law_reduced1 : Cl false P w K mg base 4 "_law_reduced" ["form"] sd__law_reduced1 := ok__law_reduced1 Mx C__law_disc C__law_is_split C__law_whole_root C__law_zero_line C__law_stepped C__law_behind C__law_is_reduced C__law_next
  have C__law_reduced2 : Cl false P w K mg base 5 "_law_reduced" ["form"] sd__law_reduced2 := ok__law_reduced2 Mx C__law_disc C__law_reduced1 C__law_is_split C__law_whole_root C__law_zero_line C__law_stepped C__law_behind C__law_is_reduced C__law_next
  have C__law_reduced : Cl false P w K mg base 5 "_law_reduced" ["form"] sd__law_reduced := law_reduced_all C__law_reduced1 C__law_reduced2
  have C__law_cycle : Cl false P w K mg base 6 "_law_cycle" ["form"] sd__law_cycle := ok__law_cycle Mx C__law_reduced C__law_disc C__law_is_split C__law_next
  have C__law_step : Cl false P w K mg base 3 "_law_step" ["seed", "many"] sd__law_step := ok__law_step Mx C__law_any C__law_behind C__law_one_of
  have C__law_edge : Cl false P w K mg base 3 "_law_edge" ["seed"] sd__law_edge := ok__law_edge Mx C__law_any C__law_one_of C__law_whole_root
  have C__law_right : Cl true P w K mg base 7 "_law_right" ["seed", "form"] sd__law_right := ok__law_right Mx C__law_is_reduced C_is_binary C_is_reduced C__law_gcd C__law_disc C_is_primitive C_discriminant C__law_cycle C_cycle C_reduced C_stepped C__law_stepped C__law_is_step C__law_is_split C__law_any
  have C_law : Cl true P w K mg base 8 "law" ["script"] sd_law := ok_law Mx C__law_seed C__law_edge C__law_disc C__law_right C__law_stepped C__law_step C__law_any C_is_binary C_reduced C_cycle
  exact C_law
end K31
open PySem PySem.W PySem.Calls PyProof.Rows
theorem PySem.Challenge.cw_formsbeyond_k31_reduced_forms_at_their_e_holds : PySem.Challenge.rw_formsbeyond_k31_reduced_forms_at_their_e.Holds := by
  w_on; o_law
  refine HandSHeadRun.head_imp (r := OpenLaw.row PySem.Challenge.rw_formsbeyond_k31_reduced_forms_at_their_e) (q := view (OpenLaw.row PySem.Challenge.rw_formsbeyond_k31_reduced_forms_at_their_e).prog [0, 59]) (H := K31.hk) (ob := K31.ob) (M := 4000) (loose := K31.loose) (d := HandSHeadRun.topDef (OpenLaw.row PySem.Challenge.rw_formsbeyond_k31_reduced_forms_at_their_e).prog 59) (kwd := []) K31.ob_eq
    K31.run (by kernel_rfl) (by kernel_rfl) (by kernel_rfl) (by rfl) (by first | assumption | decide +kernel) (by decide +kernel) ⟨rfl, rfl, rfl, rfl, rfl, by decide +kernel⟩ ?hw ?hc
  case hw => w_witness2
  case hc =>
    refine HK.walk_B (g := true) (l := PySem.Challenge.rw_formsbeyond_k31_reduced_forms_at_their_e) (n := 63) (k := 8) (x := "script") (Y := fun w => L2.CX PySem.Challenge.rw_formsbeyond_k31_reduced_forms_at_their_e.prog w) rfl (by decide) (by kernel_rfl) ⟨rfl, by decide, by decide⟩ ?F (fun _ _ _ _ _ z => ?_)
    · intro w mg fa h Y G hmg0
      obtain ⟨K, KX, c⟩ := Y
      have hmg : mg ("law" : PySem.Str) = some (.ref fa) := by
        have e : (HandSHeadRun.topDef (OpenLaw.row PySem.Challenge.rw_formsbeyond_k31_reduced_forms_at_their_e).prog 59).name = ("law" : PySem.Str) := by kernel_rfl
        rw [← e]
        exact hmg0
      have Mx : K31.Mo K mg := K31.mo_of KX G c
      obtain ⟨fd, F⟩ := HK.fn_at c (i := 59) (x := "law") (by decide +kernel)
      have e2 : fa = He.ga K "law" := by
        have z := He.glo_ok KX G (HK.says_fa c (f := .glo "law") (List.mem_append_left _ (List.mem_map.mpr ⟨(59, "law"), by decide +kernel, rfl⟩)))
        rw [hmg] at z
        exact Value.ref.inj (Option.some.inj z)
      subst e2
      obtain ⟨oc, od, kV, doc, pm, an, cdv, ct, osl, e3, lk, hcd⟩ := F.ex
      refine ⟨K, fd, DL.spOf K 1 K31.sd_law, KX, fun s u => ?_, fun H a ns hl hO hS => HK.sp_start hO hS fun Φ hΦ => ⟨ns, rfl, hl, rfl, hΦ⟩, fun base hb hG => ?_⟩
      · rw [e3]
        exact .of_eq rfl
      · obtain ⟨f', fd', FA, hm, hk, _, _, oc', od', osl', lk'⟩ := (K31.all_ok (P := PySem.Challenge.rw_formsbeyond_k31_reduced_forms_at_their_e.prog) (w := w) (base := base) Mx).ex
        rw [hmg] at hm
        cases hm
        rw [lk] at lk'
        cases lk'
        exact FA
    · obtain ⟨_, _, _, _, _, _, _, _, _, _, _, _, z⟩ := z
      exact z
