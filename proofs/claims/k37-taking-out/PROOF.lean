import PyProof.Rows.All
import Wide.All
import OpenK.AllK
import Wide.FinOn
import KE.KStateDown
import KE.GoesMore
import HandS.Walk
import HandS.TupAny
import HandS.Strs
import KE.SortData
import KE.GoesSet
import PyProof.ReprRoads
import PyProof.Rows.InDataRows
import HandS.ForMost
import HandS.Exc
import HandS.ExcOwn
import HandS.TryOnly
import HandS.WordsExc
import HandS.ExcInit
import HandS.Zip
import HandS.Deep
import HandS.Defaults
import HandS.Flow
import HandS.DictComp
import HandS.Conv
import HandS.Wide
import HandS.More
import HandS.IsInst
import HandS.TupLe
import HandS.SetKeys
import HandS.Head0
import HandS.Head1
import HandS.Head2
import HandS.HeadEnd
import HandS.HeadHook1
import HandS.HeadHook2
import HandS.Small
import HandS.SetBool
import HandS.Ends
import HandS.ExcField
import HandS.Style
import Lean
import HandS.Base
import HandS.Call
import HandS.Words
import HandS.HeadHook3
import HandS.HeadHook4
import KE.KBits
import PyProof.StrLawsRepr
import PySem.Challenge.RW_joinsure_k37_whole_taking_out_columns
set_option Elab.async false
set_option linter.all false
set_option maxRecDepth 100000
set_option maxHeartbeats 2000000
/-! PL0: new tuples, their records known (they bear no attributes); t.index(x). -/
namespace PL
open PySem PySem.Spec PyProof.Rows L2
/-- the tuple at a bears no attributes of its own -/
def NoD (K : PySem.W.Frag) (H : Hp) (a : Addr) : Prop := (∃ (o : Obj) (xs : List V), H a = some (.frz o (.tup xs)) ∧ o.dict = none) ∨ ∃ o : Obj, K.lookup a = some o ∧ o.dict = none
section
variable {X : Cx}
theorem ftup {P : Program} {w : World} {H : Hp} {h : Heap} {a : Addr} {xs : List V} {us : List Value} (r : Vals xs us) (z : xs.length ≤ sizeLine) (e : h.get? a = some { cls := .type "tuple", data := .seq us.toArray }) :
    ObjOk P w H h a (.frz { cls := .type "tuple", data := .seq us.toArray } (.tup xs)) := ⟨e, z, us, r, ⟨_, e, rfl, _, rfl⟩⟩
theorem inv_nod {pins : List (Addr × Obj)} {σ : L2.St} {H : Hp} {s : Shared} {a : Addr} (I : L2.Inv X pins σ H s) (n : NoD X.K H a) : ∃ ob, s.heap.get? a = some ob ∧ ob.dict = none := by
  rcases n with ⟨o, xs, e, d⟩ | ⟨o, e, d⟩
  · exact ⟨o, (I.hok a _ e).1, d⟩
  · exact ⟨o, I.kIn a o e, d⟩
def tTupN (t : TA) : TE := fun σ H Q => t σ H fun xs H1 => xs.length ≤ sizeLine ∧ ∀ (p : Addr) (o : Obj), H1 p = none → o.dict = none → Q (.ref p) (upd H1 p (.frz o (.tup xs)))
theorem pe_tupN {es : List Expr} {t : TA} {pos : Pos} {x1} (h : PA X es t) : PE X (.Tuple es x1 pos) (tTupN t) := by
  refine ⟨fun pins s σ H Q I hq => ?_⟩
  refine wpAny_Tuple_spliced (thn (h.run pos pins s σ H _ I hq) fun us s1 ⟨xs, H1, I1, r, z, q⟩ => ⟨by rw [← r.length]; exact z, ?_⟩)
  have hf : H1 s1.heap.objs.size = none := I1.hok.fresh (Nat.le_refl _)
  exact ⟨.ref s1.heap.objs.size, upd H1 s1.heap.objs.size _, I1.laid (t' := s1.toks) (fun b u e => Heap.get?_push_of_some _ e) (Nat.le_refl _) (ftup r z (Heap.get?_push_size _ rfl)), rfl, q _ _ hf rfl⟩
theorem call_tupN : CallR X (.type "tuple") (fun xs H Q => ∃ p ys, xs = [V.ref p] ∧ ((SqL X.K H p ys ∧ ∀ (l : Addr) (o : Obj), H l = none → o.dict = none → Q (.ref l) (upd H l (.frz o (.tup ys)))) ∨ (SqT X.K H p ys ∧ Q (.ref p) H))) := by
  intro pins s σ H xs us Q I r h
  obtain ⟨p, ys, rfl, h⟩ := h
  obtain ⟨u, rfl, rx⟩ := vals1 r
  cases rx
  rcases h with ⟨hq, q⟩ | ⟨hq, q⟩
  · obtain ⟨its, r', pl, hz⟩ := I.list hq
    have hlen := r'.length
    refine call_tuple_list pl.isList (fun h' kp => ?_) (by simp only [List.size_toArray] <;> omega)
    have I1 : L2.Inv X pins σ H { s with heap := h' } := I.kept (t' := s.toks) kp
    exact ⟨.ref h'.objs.size, upd H h'.objs.size _, I1.laid (t' := s.toks) (fun b o e => Heap.get?_push_of_some _ e) (Nat.le_refl _) (ftup r' hz (Heap.get?_push_size _ rfl)), rfl, q _ _ (I1.hok.fresh (Nat.le_refl _)) rfl⟩
  · obtain ⟨its, r', pl, hz⟩ := I.tuple hq
    exact call_tuple_same pl ⟨.ref p, H, I, rfl, q⟩
def rCatN (K : PySem.W.Frag) : R2 := fun x y H Q => ∃ a b xs ys, x = .ref a ∧ y = .ref b ∧ SqT K H a xs ∧ SqT K H b ys ∧ xs.length + ys.length ≤ sizeLine ∧
  (xs = [] → Q (.ref b) H) ∧ (xs ≠ [] → ys = [] → Q (.ref a) H) ∧ (xs ≠ [] → ys ≠ [] → ∀ (p : Addr) (o : Obj), H p = none → o.dict = none → Q (.ref p) (upd H p (.frz o (.tup (xs ++ ys)))))
theorem op_catN : OpR X (binaryOp .Add) (rCatN X.K) := by
  intro pins s σ H x y v u Q I rx ry h
  obtain ⟨a, b, xs, ys, rfl, rfl, ha, hb, hz, q0, q1, q2⟩ := h
  cases rx
  cases ry
  obtain ⟨its, r1, p1, _⟩ := I.tuple ha
  obtain ⟨its2, r2, p2, _⟩ := I.tuple hb
  by_cases hx : xs = []
  · subst hx
    cases r1
    exact cat_tup0 p1 p2 ⟨.ref b, H, I, rfl, q0 rfl⟩
  · refine HT.cat_tup p1 p2 (fun z => hx (r1.nil_iff.mp z)) (fun z => ⟨.ref a, H, I, rfl, q1 hx (r2.nil_iff.mp z)⟩) (fun z => ?_) (by rw [← r1.length, ← r2.length]; exact hz)
    exact ⟨.ref s.heap.objs.size, upd H s.heap.objs.size _, I.laid (t' := s.toks) (fun b ob q => Heap.get?_push_of_some _ q) (Nat.le_refl _) (ftup (r1.append r2) (by rw [List.length_append]; exact hz) (Heap.get?_push_size _ rfl)), rfl, q2 hx (fun w => z (r2.nil_iff.mpr w)) _ _ (I.hok.fresh (Nat.le_refl _)) rfl⟩
def rSlN (K : PySem.W.Frag) : V → Option Int → Option Int → Hp → VK → Prop := fun x lo hi H Q => ∃ a xs, x = .ref a ∧ SqT K H a xs ∧
  (HT.sIx xs.length 0 lo = 0 ∧ HT.sIx xs.length xs.length hi = xs.length → Q (.ref a) H) ∧ (¬ (HT.sIx xs.length 0 lo = 0 ∧ HT.sIx xs.length xs.length hi = xs.length) → ∀ (p : Addr) (o : Obj), H p = none → o.dict = none → Q (.ref p) (upd H p (.frz o (.tup (cutV xs lo hi)))))
theorem sl_tupN : L2.SlR X (rSlN X.K) := by
  intro pins s σ H x v vl vu lo hi sl Q I rx hs pl pu h
  obtain ⟨a, xs, rfl, hx, q1, q2⟩ := h
  cases rx
  obtain ⟨its, r, ht, hz⟩ := I.tuple hx
  have hlen : its.toArray.size = xs.length := by rw [List.size_toArray]; exact r.length.symm
  refine ⟨"tuple", _, PyProof.Rows.slot_tuple_getitem.lookup, ht.typeIs, ?_⟩
  by_cases hw : HT.sIx xs.length 0 lo = 0 ∧ HT.sIx xs.length xs.length hi = xs.length
  · exact getItem_tuple_whole ht hs pl pu (by rw [hlen]; exact hw) ⟨.ref a, H, I, rfl, q1 hw⟩
  · refine HT.getItem_tuple_cut ht hs pl pu (by rw [hlen]; exact hw) ?_ (by rw [hlen]; exact hz)
    rw [hlen]
    exact ⟨.ref s.heap.objs.size, upd H s.heap.objs.size _, I.laid (t' := s.toks) (fun b ob q => Heap.get?_push_of_some _ q) (Nat.le_refl _) (ftup ((r.drop (HT.sIx xs.length 0 lo)).take (HT.sIx xs.length xs.length hi - HT.sIx xs.length 0 lo)) (Nat.le_trans (cutV_length xs lo hi) hz) (Heap.get?_push_size _ rfl)), rfl, q2 hw _ _ (I.hok.fresh (Nat.le_refl _)) rfl⟩
/-! ### o.m(e, ..), o a list or a tuple -/
/-- a tuple, a list, as a method finds it -/
def SeqAtT (K : PySem.W.Frag) (H : Hp) (x : V) : Prop := ∃ a xs, x = .ref a ∧ (SqT K H a xs ∧ NoD K H a)
def tIxT (K : PySem.W.Frag) (r : V → List V → Hp → VK → Prop) (r' : V → List V → Hp → VK → Prop) (to : TE) (t : TA) : TE := fun σ H Q => to σ H fun x H1 =>
  ((∃ a xs, x = .ref a ∧ SqT K H1 a xs ∧ NoD K H1 a) ∧ t σ H1 fun xs H2 => r x xs H2 Q) ∨ ((∃ a xs, x = .ref a ∧ SqL K H1 a xs) ∧ t σ H1 fun xs H2 => r' x xs H2 Q)
theorem pe_ixT {o e : Expr} {es : List Expr} {to : TE} {t : TA} {name : Str} {apos cpos : Pos} {id id' : String} {r r' : V → List V → Hp → VK → Prop} (slot : Slot "tuple" name id) (hty : typeOf (.builtin id) = pure (.type "method_descriptor")) (hm : MtR X id r)
    (slot' : Slot "list" name id') (hty' : typeOf (.builtin id') = pure (.type "method_descriptor")) (hm' : MtR X id' r') (ho : PE X o to) (ha : PA X (e :: es) t)
    (hbase : attributeBase o name X.env (eval o X.env) = eval o X.env := by rfl)
    (hfew : ((backTo cpos (starEach (e :: es) X.env)).all (fun x => !x.1) && (backToKw cpos (keywordEach [] X.env)).all (fun x => x.1.isSome)
      && decide ((e :: es).length + ([] : List Keyword).length + (if ([] : List Keyword).isEmpty then 0 else 1) < 30)) = true := by rfl)
    (hline : (apos.endLine == cpos.line) = true := by rfl) (hs : starEach (e :: es) X.env = (false, eval e X.env) :: starEach es X.env := by rfl) (hplain : (backTo cpos (starEach es X.env)).any (·.1) = false := by rfl) :
    PE X (.Call (.Attribute o name apos) (e :: es) [] cpos) (tIxT X.K r r' to t) := by
  refine ⟨fun pins s σ H Q I h => ?_⟩
  refine wpAny_Call_method_late hbase hfew hline rfl (thn (ho.run pins s σ H _ I h) fun v s1 ⟨x, H1, I1, r1, q1⟩ => ?_)
  rcases q1 with ⟨⟨a, xs, rfl, hq, nd⟩, q1⟩ | ⟨⟨a, xs, rfl, hq⟩, q1⟩
  · cases r1
    obtain ⟨its, rv, pl, hz⟩ := I1.tuple hq
    refine ⟨"tuple", id, PySem.F.plainAttrs_tuple, slot, hty, pl.typeIs, fun b eb => by cases eb; exact inv_nod I1 nd, ?_⟩
    have hA := ha.run cpos pins s1 σ H1 _ I1 q1
    rw [hs] at hA ⊢
    refine Calls.callWith_builtin (by show (false || (backTo cpos (starEach es X.env)).any (·.1)) = false; rw [hplain] <;> rfl) (Calls.evalArgs_plain ?_)
    exact thn hA fun us s2 ⟨vs, H2, I2, r2, q2⟩ => hm pins s2 σ H2 (.ref a) vs (.ref a) us Q I2 rfl r2 q2
  · cases r1
    obtain ⟨its, rv, pl, hz⟩ := I1.list hq
    have pl2 := pl
    obtain ⟨ob, n, hob, hc, hdn, hd⟩ := pl2
    refine ⟨"list", id', PySem.F.plainAttrs_list, slot', hty', ⟨ob, hob, hc⟩, fun b eb => by cases eb; exact ⟨ob, hob, hdn⟩, ?_⟩
    have hA := ha.run cpos pins s1 σ H1 _ I1 q1
    rw [hs] at hA ⊢
    refine Calls.callWith_builtin (by show (false || (backTo cpos (starEach es X.env)).any (·.1)) = false; rw [hplain] <;> rfl) (Calls.evalArgs_plain ?_)
    exact thn hA fun us s2 ⟨vs, H2, I2, r2, q2⟩ => hm' pins s2 σ H2 (.ref a) vs (.ref a) us Q I2 rfl r2 q2
end
end PL
set_option Elab.async false
set_option linter.all false
set_option maxRecDepth 100000
set_option maxHeartbeats 2000000
/-! PLa: a layer of plain data over the hand layer: worlds (what is frozen), owned lists, mutable objects, and what an
expression, a statement means as a function of plain data. -/
namespace PL
open PySem PySem.Spec PyProof.Rows L2

abbrev D := PyData
/-- a mutable object that is handed about: the law's stream (its script, the number at hand, the place) -/
inductive SObj where
  | strm (ns : List Int) (cell k : Int)
abbrev GS := List SObj
/-- the world: the frozen part of the heap; where the mutable objects stand (with the script's own list) -/
structure Wd where
  G : Hp
  am : List (Addr × Addr)
/-- a value that comes out: frozen, a new object of one's own, an object that a name of the def owns, a mutable object -/
inductive RV where
  | val (d : D) | own (d : D) | bor (d : D) | obj (n : Nat)
inductive Slot where
  | un | val (d : D) | own (d : D) | obj (n : Nat)
abbrev Sl := List Slot
abbrev Sg := List (Option V)
structure Exn where
  cls : Str
  pay : List (Str × D)
inductive Res (α : Type) where
  | ok (a : α) (g : GS) | exc (x : Exn) (g : GS) | stuck
def Res.bind {α β : Type} : Res α → (α → GS → Res β) → Res β
  | .ok a g, f => f a g
  | .exc x g, _ => .exc x g
  | .stuck, _ => .stuck
abbrev M (α : Type) := GS → Res α
def retM {α : Type} (a : α) : M α := fun g => .ok a g
def stuckM {α : Type} : M α := fun _ => .stuck
def bindM {α β : Type} (m : M α) (f : α → M β) : M β := fun g => (m g).bind f
def liftO {α : Type} : Option α → M α
  | some a => retM a
  | none => stuckM

/-! ### data that stands in a frozen part -/
section
variable {K : PySem.W.Frag}
theorem sameT {H H' : Hp} {a : Addr} {xs : List V} (e : Same H H') (h : SqT K H a xs) : SqT K H' a xs := by
  rcases h with (h | ⟨o, h⟩) | h
  · exact .inl (.inl (e _ _ h))
  · exact .inl (.inr ⟨o, e _ _ h⟩)
  · exact .inr h
theorem sameN {H H' : Hp} {a : Addr} (e : Same H H') (h : NoD K H a) : NoD K H' a := by
  rcases h with ⟨o, xs, h, d⟩ | h
  · exact .inl ⟨o, xs, e _ _ h, d⟩
  · exact .inr h
/-- data that stands in the heap: a dict's keys are ints and texts -/
def keyD : D → Option Key
  | .int i => some (.inl i)
  | .str s => some (.inr s)
  | _ => none
mutual
inductive Rp (K : PySem.W.Frag) (H : Hp) : V → PyData → Prop
  | non : Rp K H .non .none
  | bl (b : Bool) : Rp K H (.bl b) (.bool b)
  | int (i : Int) : Rp K H (.int i) (.int i)
  | str (x : Str) : Rp K H (.str x) (.str x)
  | lst {a : Addr} {xs : List V} {ds : List PyData} : H a = some (.lst xs) → RpAll K H xs ds → Rp K H (.ref a) (.list ds)
  | tup {a : Addr} {xs : List V} {ds : List PyData} : SqT K H a xs → NoD K H a → RpAll K H xs ds → Rp K H (.ref a) (.tuple ds)
  | dct {a : Addr} {kvs : List (Key × V)} {ds : List (PyData × PyData)} : H a = some (.dK kvs) → RpKv K H kvs ds → Rp K H (.ref a) (.dict ds)
inductive RpAll (K : PySem.W.Frag) (H : Hp) : List V → List PyData → Prop
  | nil : RpAll K H [] []
  | cons {v : V} {vs : List V} {d : PyData} {ds : List PyData} : Rp K H v d → RpAll K H vs ds → RpAll K H (v :: vs) (d :: ds)
inductive RpKv (K : PySem.W.Frag) (H : Hp) : List (Key × V) → List (PyData × PyData) → Prop
  | nil : RpKv K H [] []
  | cons {k' : Key} {v : V} {vs : List (Key × V)} {k d : PyData} {ds : List (PyData × PyData)} : keyD k = some k' → Rp K H v d → RpKv K H vs ds → RpKv K H ((k', v) :: vs) ((k, d) :: ds)
end
mutual
theorem Rp.same {H H' : Hp} (e : Same H H') : ∀ (d : PyData) (v : V), Rp K H v d → Rp K H' v d
  | .none, _, h => by cases h; exact .non
  | .bool b, _, h => by cases h; exact .bl b
  | .int i, _, h => by cases h; exact .int i
  | .str x, _, h => by cases h; exact .str x
  | .list ds, _, h => by
    cases h with
    | lst hs ha => exact .lst (e _ _ hs) (RpAll.same e ds _ ha)
  | .tuple ds, _, h => by
    cases h with
    | tup hs hn ha => exact .tup (sameT e hs) (sameN e hn) (RpAll.same e ds _ ha)
  | .dict ds, _, h => by
    cases h with
    | dct hs ha => exact .dct (e _ _ hs) (RpKv.same e ds _ ha)
theorem RpAll.same {H H' : Hp} (e : Same H H') : ∀ (ds : List PyData) (vs : List V), RpAll K H vs ds → RpAll K H' vs ds
  | [], _, h => by cases h; exact .nil
  | d :: ds, _, h => by
    cases h with
    | cons h1 h2 => exact .cons (Rp.same e d _ h1) (RpAll.same e ds _ h2)
theorem RpKv.same {H H' : Hp} (e : Same H H') : ∀ (ds : List (PyData × PyData)) (vs : List (Key × V)), RpKv K H vs ds → RpKv K H' vs ds
  | [], _, h => by cases h; exact .nil
  | (k, d) :: ds, _, h => by
    cases h with
    | cons h0 h1 h2 => exact .cons h0 (Rp.same e d _ h1) (RpKv.same e ds _ h2)
end
mutual
/-- data without dicts: as the hand layer tells it -/
theorem Rp.dp {H : Hp} : ∀ (d : PyData) (v : V), Rp K H v d → d.canLay0 = true → Dp K H v d
  | .none, _, h, _ => by cases h; exact .non
  | .bool b, _, h, _ => by cases h; exact .bl b
  | .int i, _, h, _ => by cases h; exact .int i
  | .str x, _, h, _ => by cases h; exact .str x
  | .list ds, _, h, c => by
    cases h with
    | lst hs ha => exact .lst (SqL.of hs) (RpAll.dp ds _ ha (by simpa [PyData.canLay0] using c))
  | .tuple ds, _, h, c => by
    cases h with
    | tup hs _ ha => exact .tup hs (RpAll.dp ds _ ha (by simpa [PyData.canLay0] using c))
  | .dict ds, _, h, c => by simp [PyData.canLay0] at c
theorem RpAll.dp {H : Hp} : ∀ (ds : List PyData) (vs : List V), RpAll K H vs ds → PyData.canLayAll0 ds = true → DpAll K H vs ds
  | [], _, h, _ => by cases h; exact .nil
  | d :: ds, _, h, c => by
    cases h with
    | cons h1 h2 =>
      have c' : d.canLay0 = true ∧ PyData.canLayAll0 ds = true := by simpa [PyData.canLayAll0] using c
      exact .cons (Rp.dp d _ h1 c'.1) (RpAll.dp ds _ h2 c'.2)
end
theorem RpAll.length {H : Hp} : ∀ {vs : List V} {ds : List D}, RpAll K H vs ds → vs.length = ds.length
  | _, _, .nil => rfl
  | _, _, .cons _ t => by rw [List.length_cons, List.length_cons, RpAll.length t]
theorem RpAll.append {H : Hp} : ∀ {vs : List V} {ds : List D} {vs' : List V} {ds' : List D}, RpAll K H vs ds → RpAll K H vs' ds' → RpAll K H (vs ++ vs') (ds ++ ds')
  | _, _, _, _, .nil, h => h
  | _, _, _, _, .cons r t, h => .cons r (RpAll.append t h)
theorem RpAll.get {H : Hp} : ∀ {vs : List V} {ds : List D} {i : Nat} {d : D}, RpAll K H vs ds → ds[i]? = some d → ∃ v, vs[i]? = some v ∧ Rp K H v d
  | _, _, _, _, .nil, e => by simp at e
  | _, _, 0, d, .cons r _, e => by simp at e; subst e; exact ⟨_, rfl, r⟩
  | _, _, i + 1, d, .cons _ t, e => by
    obtain ⟨v, h1, h2⟩ := RpAll.get (i := i) t (by simpa using e)
    exact ⟨v, by simpa using h1, h2⟩
theorem RpAll.getV {H : Hp} : ∀ {vs : List V} {ds : List D} {i : Nat} {v : V}, RpAll K H vs ds → vs[i]? = some v → ∃ d, ds[i]? = some d ∧ Rp K H v d
  | _, _, _, _, .nil, e => by simp at e
  | _, _, 0, v, .cons r _, e => by simp at e; subst e; exact ⟨_, rfl, r⟩
  | _, _, i + 1, v, .cons _ t, e => by
    obtain ⟨d, h1, h2⟩ := RpAll.getV (i := i) t (by simpa using e)
    exact ⟨d, by simpa using h1, h2⟩
theorem RpAll.take {H : Hp} : ∀ {vs : List V} {ds : List D} (n : Nat), RpAll K H vs ds → RpAll K H (vs.take n) (ds.take n)
  | _, _, 0, _ => by simp only [List.take_zero]; exact .nil
  | _, _, _ + 1, .nil => by simp only [List.take_nil]; exact .nil
  | _, _, n + 1, .cons r t => .cons r (RpAll.take n t)
theorem RpAll.drop {H : Hp} : ∀ {vs : List V} {ds : List D} (n : Nat), RpAll K H vs ds → RpAll K H (vs.drop n) (ds.drop n)
  | _, _, 0, h => h
  | _, _, _ + 1, .nil => by simp only [List.drop_nil]; exact .nil
  | _, _, n + 1, .cons r t => RpAll.drop n t
theorem RpAll.set {H : Hp} {v : V} {d : D} (r : Rp K H v d) : ∀ {vs : List V} {ds : List D} (i : Nat), RpAll K H vs ds → RpAll K H (vs.set i v) (ds.set i d)
  | _, _, _, .nil => .nil
  | _, _, 0, .cons _ t => .cons r t
  | _, _, i + 1, .cons q t => .cons q (RpAll.set r i t)
theorem RpAll.eraseIdx {H : Hp} : ∀ {vs : List V} {ds : List D} (i : Nat), RpAll K H vs ds → RpAll K H (vs.eraseIdx i) (ds.eraseIdx i)
  | _, _, _, .nil => .nil
  | _, _, 0, .cons _ t => t
  | _, _, i + 1, .cons r t => .cons r (RpAll.eraseIdx i t)
theorem RpAll.replicate {H : Hp} {v : V} {d : D} (r : Rp K H v d) : ∀ n : Nat, RpAll K H (List.replicate n v) (List.replicate n d)
  | 0 => .nil
  | n + 1 => .cons r (RpAll.replicate r n)
end

/-! ### worlds -/
structure Wd.Le (W W' : Wd) : Prop where
  g : Same W.G W'.G
  a : ∃ r, W'.am = W.am ++ r
theorem Wd.Le.refl (W : Wd) : Wd.Le W W := ⟨Same.refl _, [], by simp⟩
theorem Wd.Le.trans {W W1 W2 : Wd} (h : W.Le W1) (h' : W1.Le W2) : W.Le W2 := by
  obtain ⟨r, e⟩ := h.a
  obtain ⟨r', e'⟩ := h'.a
  exact ⟨h.g.trans h'.g, r ++ r', by rw [e', e, List.append_assoc]⟩
theorem Wd.Le.at {W W' : Wd} (h : W.Le W') {n : Nat} {p : Addr × Addr} (e : W.am[n]? = some p) : W'.am[n]? = some p := by
  obtain ⟨r, q⟩ := h.a
  have hn : n < W.am.length := (List.getElem?_eq_some_iff.mp e).1
  rw [q, List.getElem?_append_left hn]
  exact e
/-- an address of a mutable object -/
def Wd.mut (W : Wd) (p : Addr) : Prop := p ∈ W.am.map (·.1)
theorem Wd.Le.mut {W W' : Wd} (h : W.Le W') {p : Addr} (m : W.mut p) : W'.mut p := by
  obtain ⟨r, q⟩ := h.a
  unfold Wd.mut at *
  rw [q, List.map_append]
  exact List.mem_append_left _ m

/-- what may have changed between two states: the mutable objects and those of B -/
structure Step (B : Addr → Prop) (W W' : Wd) (H H' : Hp) : Prop where
  le : W.Le W'
  keep : ∀ p o, H p = some o → ¬ W.mut p → ¬ B p → H' p = some o
  there : ∀ p o, H p = some o → ∃ o', H' p = some o'
  nog : ∀ p o, H p = some o → W.G p = none → ¬ B p → W'.G p = none
  noa : ∀ p o, H p = some o → ¬ W.mut p → ¬ W'.mut p
abbrev NoB : Addr → Prop := fun _ => False
theorem Step.refl {B : Addr → Prop} {W : Wd} {H : Hp} : Step B W W H H := ⟨.refl W, fun _ _ h _ _ => h, fun _ o h => ⟨o, h⟩, fun _ _ _ h _ => h, fun _ _ _ h => h⟩
theorem Step.trans {B B' : Addr → Prop} {W W1 W2 : Wd} {H H1 H2 : Hp} (a : Step B W W1 H H1) (b : Step B' W1 W2 H1 H2) (hB : ∀ p, B' p → B p ∨ H p = none) : Step B W W2 H H2 := by
  have nb : ∀ p o, H p = some o → ¬ B p → ¬ B' p := fun p o e n z => by
    rcases hB p z with z | z
    · exact n z
    · rw [e] at z; cases z
  refine ⟨a.le.trans b.le, fun p o e m n => b.keep p o (a.keep p o e m n) (a.noa p o e m) (nb p o e n), fun p o e => ?_, fun p o e g n => ?_, fun p o e m => ?_⟩
  · obtain ⟨o', e'⟩ := a.there p o e
    exact b.there p o' e'
  · obtain ⟨o', e'⟩ := a.there p o e
    exact b.nog p o' e' (a.nog p o e g n) (nb p o e n)
  · obtain ⟨o', e'⟩ := a.there p o e
    exact b.noa p o' e' (a.noa p o e m)
theorem Step.trans0 {B : Addr → Prop} {W W1 W2 : Wd} {H H1 H2 : Hp} (a : Step B W W1 H H1) (b : Step NoB W1 W2 H1 H2) : Step B W W2 H H2 := a.trans b fun _ z => z.elim
theorem Step.weak {B : Addr → Prop} {W W1 : Wd} {H H1 : Hp} (a : Step NoB W W1 H H1) : Step B W W1 H H1 :=
  ⟨a.le, fun p o e m _ => a.keep p o e m id, a.there, fun p o e g _ => a.nog p o e g id, a.noa⟩
theorem Step.none {B : Addr → Prop} {W W1 : Wd} {H H1 : Hp} (a : Step B W W1 H H1) {p : Addr} (h : H1 p = none) : H p = none := by
  cases q : H p with
  | none => rfl
  | some o =>
    obtain ⟨o', e⟩ := a.there p o q
    rw [h] at e; cases e

/-! ### the state: the mutable objects -/
def SOk (K : PySem.W.Frag) (G H : Hp) : GS → List (Addr × Addr) → Prop
  | [], [] => True
  | .strm ns c k :: r, (a, l) :: as => (H a = some (.lst [.ref l, .int c, .int k]) ∧ G l = some (.lst (ns.map V.int)) ∧ ns.length ≤ sizeLine) ∧ SOk K G H r as
  | _, _ => False
structure StR (K : PySem.W.Frag) (W : Wd) (H : Hp) (gs : GS) : Prop where
  sub : Same W.G H
  st : SOk K W.G H gs W.am
  nd : (W.am.map (·.1)).Nodup
  fr : ∀ p, W.mut p → W.G p = none
theorem SOk.length {K : PySem.W.Frag} {G H : Hp} : ∀ {gs : GS} {as : List (Addr × Addr)}, SOk K G H gs as → gs.length = as.length
  | [], [], _ => rfl
  | .strm .. :: r, (_, _) :: as, h => by
    have h' : _ ∧ SOk K G H r as := h
    rw [List.length_cons, List.length_cons, SOk.length h'.2]
  | [], _ :: _, h => h.elim
  | .strm .. :: _, [], h => h.elim
theorem SOk.get {K : PySem.W.Frag} {G H : Hp} : ∀ {gs : GS} {as : List (Addr × Addr)} {n : Nat} {ns : List Int} {c k : Int}, SOk K G H gs as → gs[n]? = some (.strm ns c k) → ∃ a l, as[n]? = some (a, l) ∧ H a = some (.lst [.ref l, .int c, .int k]) ∧ G l = some (.lst (ns.map V.int)) ∧ ns.length ≤ sizeLine
  | [], _, _, _, _, _, _, e => by simp at e
  | .strm .. :: r, [], _, _, _, _, h, _ => h.elim
  | .strm ns c k :: r, (a, l) :: as, 0, _, _, _, h, e => by
    simp at e
    obtain ⟨rfl, rfl, rfl⟩ := e
    exact ⟨a, l, rfl, h.1⟩
  | .strm .. :: r, (a, l) :: as, n + 1, _, _, _, h, e => by
    obtain ⟨a', l', e1, e2⟩ := SOk.get (n := n) (show SOk K G H r as from h.2) (by simpa using e)
    exact ⟨a', l', by simpa using e1, e2⟩
/-- the mutable objects as they were -/
theorem SOk.keep {K : PySem.W.Frag} {G G' H H' : Hp} (hg : Same G G') : ∀ {gs : GS} {as : List (Addr × Addr)}, (∀ p o, p ∈ as.map (·.1) → H p = some o → H' p = some o) → SOk K G H gs as → SOk K G' H' gs as
  | [], [], _, _ => trivial
  | .strm ns c k :: r, (a, l) :: as, hk, h => ⟨⟨hk a _ (by simp) h.1.1, hg _ _ h.1.2.1, h.1.2.2⟩, SOk.keep hg (fun p o hp e => hk p o (by simp only [List.map_cons, List.mem_cons]; exact .inr hp) e) h.2⟩
  | [], _ :: _, _, h => h.elim
  | .strm .. :: _, [], _, h => h.elim
theorem StR.there {K : PySem.W.Frag} {W : Wd} {H : Hp} {gs : GS} (S : StR K W H gs) {p : Addr} (m : W.mut p) : ∃ o, H p = some o := by
  obtain ⟨⟨a, l⟩, hm, e⟩ := List.mem_map.mp m
  obtain ⟨n, hn⟩ := List.getElem?_of_mem hm
  have hl := SOk.length S.st
  have hlt : n < gs.length := by rw [hl]; exact (List.getElem?_eq_some_iff.mp hn).1
  cases q : gs[n] with
  | strm ns c k =>
    obtain ⟨a', l', e1, e2, _⟩ := SOk.get S.st (n := n) (by rw [List.getElem?_eq_getElem hlt, q])
    rw [hn] at e1
    cases e1
    subst e
    exact ⟨_, e2⟩

/-! ### owned objects -/
/-- the object at p holds d; its parts are frozen -/
def OwnR (K : PySem.W.Frag) (G H : Hp) (d : D) (p : Addr) : Prop := match d with
  | .list ds => ∃ vs, H p = some (.lst vs) ∧ RpAll K G vs ds
  | .dict kvs => ∃ vs, H p = some (.dK vs) ∧ RpKv K G vs kvs
  | _ => False
theorem OwnR.there {K : PySem.W.Frag} {G H : Hp} {d : D} {p : Addr} (h : OwnR K G H d p) : ∃ o, H p = some o := by
  cases d with
  | list ds => obtain ⟨vs, e, _⟩ := h; exact ⟨_, e⟩
  | dict kvs => obtain ⟨vs, e, _⟩ := h; exact ⟨_, e⟩
  | _ => exact h.elim
theorem OwnR.same {K : PySem.W.Frag} {G G' H H' : Hp} {d : D} {p : Addr} (e : Same G G') (k : ∀ o, H p = some o → H' p = some o) (h : OwnR K G H d p) : OwnR K G' H' d p := by
  cases d with
  | list ds => obtain ⟨vs, e1, e2⟩ := h; exact ⟨vs, k _ e1, RpAll.same e _ _ e2⟩
  | dict kvs => obtain ⟨vs, e1, e2⟩ := h; exact ⟨vs, k _ e1, RpKv.same e _ _ e2⟩
  | _ => exact h.elim
structure OwnAt (K : PySem.W.Frag) (W : Wd) (H : Hp) (d : D) (p : Addr) : Prop where
  r : OwnR K W.G H d p
  g : W.G p = none
  a : ¬ W.mut p
theorem OwnAt.step {K : PySem.W.Frag} {B : Addr → Prop} {W W' : Wd} {H H' : Hp} {d : D} {p : Addr} (h : OwnAt K W H d p) (s : Step B W W' H H') (n : ¬ B p) : OwnAt K W' H' d p := by
  obtain ⟨o, e⟩ := h.r.there
  exact ⟨h.r.same s.le.g fun o e => s.keep p o e h.a n, s.nog p o e h.g n, s.noa p o e h.a⟩

/-! ### the slots -/
structure EnvR (K : PySem.W.Frag) (W : Wd) (H : Hp) (ρ : Sl) (σ : Sg) : Prop where
  len : ρ.length = σ.length
  val : ∀ (i : Nat) (d : D), ρ[i]? = some (Slot.val d) → ∃ v, σ[i]? = some (some v) ∧ Rp K W.G v d
  obj : ∀ (i n : Nat), ρ[i]? = some (Slot.obj n) → ∃ a l, σ[i]? = some (some (V.ref a)) ∧ W.am[n]? = some (a, l)
  own : ∀ (i : Nat) (d : D), ρ[i]? = some (Slot.own d) → ∃ p, σ[i]? = some (some (V.ref p)) ∧ OwnAt K W H d p
  inj : ∀ (i j : Nat) (p : Addr) (d e : D), ρ[i]? = some (Slot.own d) → ρ[j]? = some (Slot.own e) → σ[i]? = some (some (V.ref p)) → σ[j]? = some (some (V.ref p)) → i = j
/-- the addresses that the slots own -/
def Os (ρ : Sl) (σ : Sg) (p : Addr) : Prop := ∃ (i : Nat) (d : D), ρ[i]? = some (Slot.own d) ∧ σ[i]? = some (some (V.ref p))
theorem EnvR.os {K : PySem.W.Frag} {W : Wd} {H : Hp} {ρ : Sl} {σ : Sg} (E : EnvR K W H ρ σ) {p : Addr} (h : Os ρ σ p) : ∃ d, OwnAt K W H d p := by
  obtain ⟨i, d, e1, e2⟩ := h
  obtain ⟨q, e3, o⟩ := E.own i d e1
  rw [e2] at e3
  cases e3
  exact ⟨d, o⟩
theorem EnvR.step {K : PySem.W.Frag} {W W' : Wd} {H H' : Hp} {ρ : Sl} {σ : Sg} (E : EnvR K W H ρ σ) (s : Step NoB W W' H H') : EnvR K W' H' ρ σ where
  len := E.len
  val := fun i d e => by
    obtain ⟨v, e1, e2⟩ := E.val i d e
    exact ⟨v, e1, Rp.same s.le.g _ _ e2⟩
  obj := fun i n e => by
    obtain ⟨a, l, e1, e2⟩ := E.obj i n e
    exact ⟨a, l, e1, s.le.at e2⟩
  own := fun i d e => by
    obtain ⟨p, e1, e2⟩ := E.own i d e
    exact ⟨p, e1, e2.step s id⟩
  inj := E.inj

/-! ### what comes out -/
/-- B: the addresses that may be borrowed; H: the heap at the start -/
def RVR (K : PySem.W.Frag) (B : Addr → Prop) (H : Hp) (W' : Wd) (H' : Hp) : RV → V → Prop
  | .val d, v => Rp K W'.G v d
  | .own d, v => ∃ p, v = .ref p ∧ OwnAt K W' H' d p ∧ H p = none
  | .bor d, v => ∃ p, v = .ref p ∧ OwnAt K W' H' d p ∧ B p
  | .obj n, v => ∃ a l, v = .ref a ∧ W'.am[n]? = some (a, l)
/-- an exception: its class, its attributes -/
structure ExcR (K : PySem.W.Frag) (W' : Wd) (H' : Hp) (x : Exn) (cls : Value) (dd : Option Addr) : Prop where
  cl : PySem.W.nsIn K mainGlobals x.cls = some (some cls)
  pa : ∃ (d : Addr) (fs : List (Str × V)), dd = some d ∧ H' d = some (.xd fs) ∧ ∀ f z, x.pay.lookup f = some z → ∃ v, fs.lookup f = some v ∧ Rp K W'.G v z
def post {α : Type} (K : PySem.W.Frag) (E : XK) (W : Wd) (H : Hp) (Q : α → Wd → Hp → GS → Prop) : Res α → Prop
  | .ok r gs' => ∀ W' H', Step NoB W W' H H' → StR K W' H' gs' → Q r W' H' gs'
  | .exc x gs' => ∀ cls dd W' H', Step NoB W W' H H' → StR K W' H' gs' → ExcR K W' H' x cls dd → E cls dd H'
  | .stuck => False
/-- the reading of an expression that means g -/
def tX (K : PySem.W.Frag) (E : XK) (g : Sl → M RV) : TE := fun σ H Q => ∃ W ρ gs, StR K W H gs ∧ EnvR K W H ρ σ ∧
  post K E W H (fun r W' H' _ => ∀ v, RVR K (Os ρ σ) H W' H' r v → Q v H') (g ρ gs)
structure PX (X : Cx) (E : XK) (e : Expr) (g : Sl → M RV) : Prop where
  pe : PE X e (tX X.K E g)
theorem _root_.L2.PE.mono {X : Cx} {e : Expr} {t t' : TE} (h : PE X e t) (m : ∀ σ H Q, t' σ H Q → t σ H Q) : PE X e t' := ⟨fun pins s σ H Q I q => h.run pins s σ H Q I (m σ H Q q)⟩
/-- a test that means g -/
def tXT (K : PySem.W.Frag) (E : XK) (g : Sl → M Bool) : TT := fun σ H Q => ∃ W ρ gs, StR K W H gs ∧ EnvR K W H ρ σ ∧ post K E W H (fun b _ H' _ => Q b H') (g ρ gs)
structure PXT (X : Cx) (E : XK) (e : Expr) (g : Sl → M Bool) : Prop where
  pt : PT X e (tXT X.K E g)
theorem _root_.L2.PT.mono {X : Cx} {e : Expr} {t t' : TT} (h : PT X e t) (m : ∀ σ H Q, t' σ H Q → t σ H Q) : PT X e t' := ⟨fun pins s σ H Q I q => h.run pins s σ H Q I (m σ H Q q)⟩

/-! ### freezing -/
/-- an owned object is frozen -/
def Wd.frz (W : Wd) (p : Addr) (o : HO) : Wd := ⟨upd W.G p o, W.am⟩
theorem frz_same {W : Wd} {p : Addr} {o : HO} (g : W.G p = none) : Same W.G (W.frz p o).G := fun b u e => by
  show upd W.G p o b = some u
  rw [upd_ne (ne_of_none e g)]
  exact e
theorem frz_le {W : Wd} {p : Addr} {o : HO} (g : W.G p = none) : W.Le (W.frz p o) := ⟨frz_same g, [], by simp [Wd.frz]⟩
theorem StR.frz {K : PySem.W.Frag} {W : Wd} {H : Hp} {gs : GS} {p : Addr} {o : HO} (S : StR K W H gs) (g : W.G p = none) (a : ¬ W.mut p) (e : H p = some o) : StR K (W.frz p o) H gs where
  sub := fun b u q => by
    have q' : upd W.G p o b = some u := q
    by_cases h : b = p
    · subst h
      rw [upd_same] at q'
      cases q'
      exact e
    · rw [upd_ne h] at q'
      exact S.sub b u q'
  st := SOk.keep (frz_same g) (fun _ _ _ q => q) S.st
  nd := S.nd
  fr := fun b m => by
    show upd W.G p o b = none
    rw [upd_ne (fun z => by subst z; exact a m)]
    exact S.fr b m
theorem step_frz {B : Addr → Prop} {W0 W : Wd} {H0 H : Hp} {p : Addr} {o : HO} (s : Step B W0 W H0 H) (g : W.G p = none) (n : H0 p = none ∨ B p) : Step B W0 (W.frz p o) H0 H where
  le := s.le.trans (frz_le g)
  keep := s.keep
  there := s.there
  nog := fun b u e q nb => by
    show upd W.G p o b = none
    have hb : b ≠ p := by
      rintro rfl
      rcases n with n | n
      · rw [n] at e; cases e
      · exact nb n
    rw [upd_ne hb]
    exact s.nog b u e q nb
  noa := s.noa
/-- an object of one's own is frozen -/
def frzV : RV → RV
  | .own d => .val d
  | r => r
end PL
set_option Elab.async false
set_option linter.all false
set_option maxRecDepth 100000
set_option maxHeartbeats 2000000
/-! PLb: how states go on; names, constants, operators, comparisons, tests. -/
namespace PL
open PySem PySem.Spec PyProof.Rows L2
section
variable {K : PySem.W.Frag} {E : XK} {B : Addr → Prop} {W W1 : Wd} {H H1 : Hp} {gs : GS} {p : Addr} {o : HO}

/-! ### a new object -/
theorem StR.freeG (S : StR K W H gs) (n : H p = none) : W.G p = none := S.sub.free n
theorem StR.freeM (S : StR K W H gs) (n : H p = none) : ¬ W.mut p := fun m => by
  obtain ⟨o, e⟩ := S.there m
  rw [n] at e; cases e
theorem same_new (n : H p = none) : Same H (upd H p o) := fun b u e => by rw [upd_ne (ne_of_none e n)]; exact e
theorem StR.new (S : StR K W H gs) (n : H p = none) : StR K W (upd H p o) gs :=
  ⟨S.sub.trans (same_new n), SOk.keep (Same.refl _) (fun b u _ e => same_new n b u e) S.st, S.nd, S.fr⟩
theorem step_new (S : StR K W H gs) (n : H p = none) : Step B W W H (upd H p o) :=
  ⟨.refl W, fun b u e _ _ => same_new n b u e, fun b u e => ⟨u, same_new n b u e⟩, fun _ _ _ h _ => h, fun _ _ _ h => h⟩
theorem StR.newF (S : StR K W H gs) (n : H p = none) : StR K (W.frz p o) (upd H p o) gs :=
  (S.new n).frz (S.freeG n) (S.freeM n) upd_same
theorem step_newF (S : StR K W H gs) (n : H p = none) : Step B W (W.frz p o) H (upd H p o) :=
  step_frz (step_new S n) (S.freeG n) (.inl n)
theorem own_new (S : StR K W H gs) (n : H p = none) {ds : List D} {vs : List V} (r : RpAll K W.G vs ds) : OwnAt K W (upd H p (.lst vs)) (.list ds) p :=
  ⟨⟨vs, upd_same, r⟩, S.freeG n, S.freeM n⟩
theorem tup_new {ds : List D} {vs : List V} {o : Obj} (S : StR K W H gs) (n : H p = none) (ho : o.dict = none) (r : RpAll K W.G vs ds) : Rp K (W.frz p (.frz o (.tup vs))).G (.ref p) (.tuple ds) :=
  .tup (.inl (.inr ⟨o, show upd W.G p (.frz o (.tup vs)) p = some (.frz o (.tup vs)) from upd_same⟩)) (.inl ⟨o, vs, show upd W.G p (.frz o (.tup vs)) p = some (.frz o (.tup vs)) from upd_same, ho⟩) (RpAll.same (frz_same (S.freeG n)) _ _ r)

/-! ### arguments -/
def ArgR (K : PySem.W.Frag) (B : Addr → Prop) (W : Wd) (H : Hp) : RV → V → Prop
  | .val d, v => Rp K W.G v d
  | .own _, _ => False
  | .bor d, v => ∃ p, v = .ref p ∧ OwnAt K W H d p ∧ B p
  | .obj n, v => ∃ a l, v = .ref a ∧ W.am[n]? = some (a, l)
theorem ArgR.step {r : RV} {v : V} (a : ArgR K B W H r v) (s : Step NoB W W1 H H1) : ArgR K B W1 H1 r v := by
  cases r with
  | val d => exact Rp.same s.le.g _ _ a
  | own d => exact a.elim
  | bor d => obtain ⟨p, e, o, b⟩ := a; exact ⟨p, e, o.step s id, b⟩
  | obj n => obtain ⟨a, l, e, q⟩ := a; exact ⟨a, l, e, s.le.at q⟩
theorem RVR.back {H0 : Hp} {W0 : Wd} {r : RV} {v : V} {B' : Addr → Prop} (s : Step B' W0 W H0 H) {W' : Wd} {H' : Hp} (h : RVR K B H W' H' r v) : RVR K B H0 W' H' r v := by
  cases r with
  | own d => obtain ⟨p, e, o, n⟩ := h; exact ⟨p, e, o, s.none n⟩
  | val d => exact h
  | bor d => exact h
  | obj n => exact h
/-- a value that came out is handed on: an object of one's own is frozen -/
theorem RVR.arg {H0 : Hp} {W0 : Wd} {r : RV} {v : V} (s : Step NoB W0 W H0 H) (S : StR K W H gs) (h : RVR K B H0 W H r v) :
    ∃ W', Step NoB W0 W' H0 H ∧ StR K W' H gs ∧ ArgR K B W' H (frzV r) v := by
  cases r with
  | val d => exact ⟨W, s, S, h⟩
  | bor d => exact ⟨W, s, S, h⟩
  | obj n => exact ⟨W, s, S, h⟩
  | own d =>
    obtain ⟨p, rfl, o, n⟩ := h
    cases d with
    | list ds =>
      obtain ⟨vs, e, r⟩ := o.r
      exact ⟨W.frz p (.lst vs), step_frz s o.g (.inl n), S.frz o.g o.a e, .lst (show upd W.G p (.lst vs) p = some (.lst vs) from upd_same) (RpAll.same (frz_same o.g) _ _ r)⟩
    | dict kvs =>
      obtain ⟨vs, e, r⟩ := o.r
      exact ⟨W.frz p (.dK vs), step_frz s o.g (.inl n), S.frz o.g o.a e, .dct (show upd W.G p (.dK vs) p = some (.dK vs) from upd_same) (RpKv.same (frz_same o.g) _ _ r)⟩
    | _ => exact o.r.elim

/-! ### going on -/
theorem post.step {α : Type} {Q : α → Wd → Hp → GS → Prop} {r : Res α} (s : Step NoB W W1 H H1) (h : post K E W H Q r) : post K E W1 H1 Q r := by
  cases r with
  | ok a g => exact fun W' H' s' S' => h W' H' (s.trans0 s') S'
  | exc x g => exact fun cls dd W' H' s' S' X' => h cls dd W' H' (s.trans0 s') S' X'
  | stuck => exact h
theorem post.imp {α : Type} {Q Q' : α → Wd → Hp → GS → Prop} {r : Res α} (h : post K E W H Q r) (m : ∀ a W' H' g, Step NoB W W' H H' → StR K W' H' g → Q a W' H' g → Q' a W' H' g) : post K E W H Q' r := by
  cases r with
  | ok a g => exact fun W' H' s' S' => m a W' H' g s' S' (h W' H' s' S')
  | exc x g => exact h
  | stuck => exact h
abbrev QV (K : PySem.W.Frag) (B : Addr → Prop) (H : Hp) (Q : VK) : RV → Wd → Hp → GS → Prop := fun r W' H' _ => ∀ v, RVR K B H W' H' r v → Q v H'
abbrev postV (K : PySem.W.Frag) (E : XK) (B : Addr → Prop) (W : Wd) (H : Hp) (Q : VK) (r : Res RV) : Prop := post K E W H (QV K B H Q) r
theorem postV.step {Q : VK} {r : Res RV} (s : Step NoB W W1 H H1) (h : postV K E B W H Q r) : postV K E B W1 H1 Q r :=
  (post.step s h).imp fun a W' H' g _ _ q v hv => q v (RVR.back s hv)
/-- the value of m is used, frozen, by f -/
def useM {β : Type} (m : M RV) (f : RV → M β) : M β := fun g => (m g).bind fun r g => f (frzV r) g
/-- .. the reading of m -/
theorem tX_use {β : Type} {ga : Sl → M RV} {f : RV → M β} {ρ : Sl} {σ : Sg} {Q : β → Wd → Hp → GS → Prop} {P : V → Hp → Prop} (S : StR K W H gs) (Ev : EnvR K W H ρ σ) (h : post K E W H Q (useM (ga ρ) f gs))
    (k : ∀ r v W1 H1 gs1, Step NoB W W1 H H1 → StR K W1 H1 gs1 → EnvR K W1 H1 ρ σ → ArgR K (Os ρ σ) W1 H1 r v → post K E W1 H1 Q (f r gs1) → P v H1) : tX K E ga σ H P := by
  refine ⟨W, ρ, gs, S, Ev, ?_⟩
  unfold useM at h
  cases e : ga ρ gs with
  | ok r g1 =>
    rw [e] at h
    intro W1 H1 s1 S1 v hv
    obtain ⟨W2, s2, S2, a⟩ := hv.arg s1 S1
    exact k (frzV r) v W2 H1 g1 s2 S2 (Ev.step s2) a (post.step s2 h)
  | exc x g => rw [e] at h; exact h
  | stuck => rw [e] at h; exact h
/-- a result at the end of a reading -/
theorem post.done {α : Type} {Q : α → Wd → Hp → GS → Prop} {a : α} (h : post K E W H Q (.ok a gs)) (S : StR K W H gs) : Q a W H gs := h W H .refl S
end

/-! ### names and constants -/
def look : Sl → Nat → Option RV
  | [], _ => none
  | s :: _, 0 => match s with
    | .un => none
    | .val d => some (.val d)
    | .own d => some (.bor d)
    | .obj n => some (.obj n)
  | _ :: r, i + 1 => look r i
def xVar (i : Nat) : Sl → M RV := fun ρ => liftO (look ρ i)
def xC (d : D) : Sl → M RV := fun _ => retM (.val d)
theorem look_some : ∀ {ρ : Sl} {i : Nat} {r : RV}, look ρ i = some r → ∃ s, ρ[i]? = some s ∧ ((∃ d, s = .val d ∧ r = .val d) ∨ (∃ d, s = .own d ∧ r = .bor d) ∨ ∃ n, s = .obj n ∧ r = .obj n)
  | s :: _, 0, r, e => by
    refine ⟨s, rfl, ?_⟩
    cases s with
    | un => cases e
    | val d => cases e; exact .inl ⟨d, rfl, rfl⟩
    | own d => cases e; exact .inr (.inl ⟨d, rfl, rfl⟩)
    | obj n => cases e; exact .inr (.inr ⟨n, rfl, rfl⟩)
  | _ :: ρ, i + 1, r, e => by
    obtain ⟨s, e1, e2⟩ := look_some (ρ := ρ) (i := i) e
    exact ⟨s, by simpa using e1, e2⟩
section
variable {X : Cx} {E : XK} {a b c : Expr} {ga gb gc : Sl → M RV} {pos : Pos}
theorem post_liftO {K : PySem.W.Frag} {α : Type} {W : Wd} {H : Hp} {gs : GS} {Q : α → Wd → Hp → GS → Prop} {o : Option α} (h : post K E W H Q (liftO o gs)) : ∃ a, o = some a ∧ post K E W H Q (.ok a gs) := by
  cases o with
  | none => exact h.elim
  | some a => exact ⟨a, rfl, h⟩
theorem x_var {i : Nat} (h : PE X e (tVar i)) : PX X E e (xVar i) := ⟨h.mono fun σ H Q q => by
  obtain ⟨W, ρ, gs, S, Ev, q⟩ := q
  obtain ⟨r, e1, q⟩ := post_liftO q
  obtain ⟨s, e2, e3⟩ := look_some e1
  have q := q.done S
  rcases e3 with ⟨d, rfl, rfl⟩ | ⟨d, rfl, rfl⟩ | ⟨n, rfl, rfl⟩
  · obtain ⟨v, e4, e5⟩ := Ev.val i d e2
    exact ⟨v, e4, q v e5⟩
  · obtain ⟨p, e4, e5⟩ := Ev.own i d e2
    exact ⟨_, e4, q _ ⟨p, rfl, e5, i, d, e2, e4⟩⟩
  · obtain ⟨a, l, e4, e5⟩ := Ev.obj i n e2
    exact ⟨_, e4, q _ ⟨a, l, rfl, e5⟩⟩⟩
theorem x_const {d : D} {v : V} (h : PE X e (tC v)) (r : ∀ G, Rp X.K G v d) : PX X E e (xC d) := ⟨h.mono fun σ H Q q => by
  obtain ⟨W, ρ, gs, S, Ev, q⟩ := q
  exact q.done S v (r W.G)⟩
theorem x_int {i j} : PX X E (.Constant (.int i) j pos) (xC (.int i)) := x_const pe_int fun _ => .int i
theorem x_bl {k j} : PX X E (.Constant (.bool k) j pos) (xC (.bool k)) := x_const pe_bl fun _ => .bl k
theorem x_non {j} : PX X E (.Constant .none j pos) (xC .none) := x_const pe_non fun _ => .non
theorem x_str {x j} : PX X E (.Constant (.str x) j pos) (xC (.str x)) := x_const pe_str fun _ => .str x

/-! ### operators by values -/
/-- a rule of two values that means g -/
def rS (K : PySem.W.Frag) (g : RV → RV → Option RV) : R2 := fun x y H Q => ∃ W gs B r1 r2 r, StR K W H gs ∧ ArgR K B W H r1 x ∧ ArgR K B W H r2 y ∧ g r1 r2 = some r ∧
  ∀ z W' H', Step NoB W W' H H' → StR K W' H' gs → RVR K B H W' H' r z → Q z H'
def rU1 (K : PySem.W.Frag) (g : RV → Option RV) : V → Hp → VK → Prop := fun x H Q => ∃ W gs B r1 r, StR K W H gs ∧ ArgR K B W H r1 x ∧ g r1 = some r ∧
  ∀ z W' H', Step NoB W W' H H' → StR K W' H' gs → RVR K B H W' H' r z → Q z H'
def xBin (f : RV → RV → Option RV) (ga gb : Sl → M RV) : Sl → M RV := fun ρ => useM (ga ρ) fun x => useM (gb ρ) fun y => liftO (f x y)
def xUn (f : RV → Option RV) (ga : Sl → M RV) : Sl → M RV := fun ρ => useM (ga ρ) fun x => liftO (f x)
theorem tX_bin {K : PySem.W.Frag} {f : RV → RV → Option RV} {σ : Sg} {H : Hp} {Q : VK} (q : tX K E (xBin f ga gb) σ H Q) : tOp (rS K f) (tX K E ga) (tX K E gb) σ H Q := by
  obtain ⟨W, ρ, gs, S, Ev, q⟩ := q
  refine tX_use S Ev q fun r1 v1 W1 H1 gs1 s1 S1 E1 a1 q1 => ?_
  refine tX_use S1 E1 q1 fun r2 v2 W2 H2 gs2 s2 S2 E2 a2 q2 => ?_
  obtain ⟨r, e, q3⟩ := post_liftO q2
  exact ⟨W2, gs2, Os ρ σ, r1, r2, r, S2, a1.step s2, a2, e, fun z W' H' s' S' hz => q3 W' H' s' S' z (hz.back (s1.trans0 s2))⟩
theorem x_bin {op : Operator} {f : RV → RV → Option RV} (ho : OpR X (binaryOp op) (rS X.K f)) (ha : PX X E a ga) (hb : PX X E b gb) : PX X E (.BinOp a op b pos) (xBin f ga gb) :=
  ⟨(pe_op ho ha.pe hb.pe).mono fun σ H Q q => tX_bin q⟩
theorem x_cmp {op : CmpOp} {f : RV → RV → Option RV} (ho : OpR X (compareOp op) (rS X.K f)) (ha : PX X E a ga) (hb : PX X E b gb) (hm : behindInMarks op b = false) : PX X E (.Compare a [op] [b] pos) (xBin f ga gb) :=
  ⟨(pe_cmpR ho ha.pe hb.pe hm).mono fun σ H Q q => tX_bin q⟩
theorem x_un {op : UnaryOp} {f : RV → Option RV} (ho : UnR X (unaryOp op) (rU1 X.K f)) (ha : PX X E a ga) : PX X E (.UnaryOp op a pos) (xUn f ga) :=
  ⟨(pe_un ho ha.pe).mono fun σ H Q q => by
    obtain ⟨W, ρ, gs, S, Ev, q⟩ := q
    refine tX_use S Ev q fun r1 v1 W1 H1 gs1 s1 S1 E1 a1 q1 => ?_
    obtain ⟨r, e, q3⟩ := post_liftO q1
    exact ⟨W1, gs1, Os ρ σ, r1, r, S1, a1, e, fun z W' H' s' S' hz => q3 W' H' s' S' z (hz.back s1)⟩⟩
/-- a op b op' c -/
def isB : RV → Option Bool
  | .val (.bool k) => some k
  | _ => none
def xChain (f f' : RV → RV → Option RV) (ga gb gc : Sl → M RV) : Sl → M RV := fun ρ => useM (ga ρ) fun x => useM (gb ρ) fun y => bindM (liftO ((f x y).bind isB)) fun k =>
  if k then useM (gc ρ) fun z => liftO (f' y z) else retM (.val (.bool false))
theorem rS_bool {K : PySem.W.Frag} {f : RV → RV → Option RV} {x y : V} {H : Hp} {Q : VK} {W : Wd} {gs : GS} {B : Addr → Prop} {r1 r2 : RV} {k : Bool} (S : StR K W H gs) (a1 : ArgR K B W H r1 x) (a2 : ArgR K B W H r2 y) (e : (f r1 r2).bind isB = some k)
    (h : ∀ W' H', Step NoB W W' H H' → StR K W' H' gs → Q (.bl k) H') : rS K f x y H Q := by
  cases q : f r1 r2 with
  | none => rw [q] at e; cases e
  | some r =>
    rw [q] at e
    refine ⟨W, gs, B, r1, r2, r, S, a1, a2, q, fun z W' H' s' S' hz => ?_⟩
    have e' : isB r = some k := e
    cases r with
    | val d =>
      cases d with
      | bool k' =>
        cases e'
        cases hz
        exact h W' H' s' S'
      | _ => cases e'
    | _ => cases e'
theorem tX_chain {K : PySem.W.Frag} {f f' : RV → RV → Option RV} {σ : Sg} {H : Hp} {Q : VK} (q : tX K E (xChain f f' ga gb gc) σ H Q) : tChain (rS K f) (rS K f') (tX K E ga) (tX K E gb) (tX K E gc) σ H Q := by
  obtain ⟨W, ρ, gs, S, Ev, q⟩ := q
  refine tX_use S Ev q fun r1 v1 W1 H1 gs1 s1 S1 E1 a1 q1 => ?_
  refine tX_use S1 E1 q1 fun r2 v2 W2 H2 gs2 s2 S2 E2 a2 q2 => ?_
  cases e : (f r1 r2).bind isB with
  | none =>
    have q2' : post K E W2 H2 (QV K (Os ρ σ) H Q) ((liftO ((f r1 r2).bind isB) gs2).bind fun k g => (if k then useM (gc ρ) fun z => liftO (f' r2 z) else retM (.val (.bool false))) g) := q2
    rw [e] at q2'
    exact q2'.elim
  | some k =>
    have q2' : post K E W2 H2 (QV K (Os ρ σ) H Q) ((liftO ((f r1 r2).bind isB) gs2).bind fun k g => (if k then useM (gc ρ) fun z => liftO (f' r2 z) else retM (.val (.bool false))) g) := q2
    rw [e] at q2'
    refine rS_bool S2 (a1.step s2) a2 e fun W3 H3 s3 S3 => ⟨k, rfl, ?_⟩
    cases k with
    | true =>
      rw [if_pos rfl]
      have q3 : post K E W2 H2 (QV K (Os ρ σ) H Q) (useM (gc ρ) (fun z => liftO (f' r2 z)) gs2) := q2'
      refine tX_use S3 (E2.step s3) (post.step s3 q3) fun r4 v4 W4 H4 gs4 s4 S4 E4 a4 q4 => ?_
      obtain ⟨r, e, q5⟩ := post_liftO q4
      exact ⟨W4, gs4, Os ρ σ, r2, r4, r, S4, (a2.step s3).step s4, a4, e, fun z W' H' s' S' hz => q5 W' H' s' S' z (hz.back (((s1.trans0 s2).trans0 s3).trans0 s4))⟩
    | false =>
      rw [if_neg Bool.false_ne_true]
      have q3 : post K E W2 H2 (QV K (Os ρ σ) H Q) (.ok (.val (.bool false)) gs2) := q2'
      exact q3 W3 H3 s3 S3 _ (.bl false)
theorem x_chain {op op' : CmpOp} {f f' : RV → RV → Option RV} (ho : OpR X (compareOp op) (rS X.K f)) (ho' : OpR X (compareOp op') (rS X.K f')) (ha : PX X E a ga) (hb : PX X E b gb) (hc : PX X E c gc)
    (hm : lastMarks [op, op'] [b, c] = false := by with_unfolding_all rfl) : PX X E (.Compare a [op, op'] [b, c] pos) (xChain f f' ga gb gc) :=
  ⟨(pe_chain ho ho' ha.pe hb.pe hc.pe hm).mono fun σ H Q q => tX_chain q⟩

/-! ### tests -/
/-- the truth of a value -/
def truD : D → Option Bool
  | .none => some false
  | .bool k => some k
  | .int i => some (i != 0)
  | .str x => if x.length ≤ sizeLine then some ((x.length : Int) != 0) else none
  | .list ds => some (!ds.isEmpty)
  | .tuple ds => some (!ds.isEmpty)
  | .dict kvs => some (!kvs.isEmpty)
def truR : RV → Option Bool
  | .val d => truD d
  | .own d => truD d
  | .bor d => truD d
  | .obj _ => none
theorem RpAll.isEmpty {K : PySem.W.Frag} {G : Hp} {vs : List V} {ds : List D} (r : RpAll K G vs ds) : vs.isEmpty = ds.isEmpty := by cases r <;> rfl
theorem RpKv.isEmpty {K : PySem.W.Frag} {G : Hp} {vs : List (Key × V)} {ds : List (D × D)} (r : RpKv K G vs ds) : vs.isEmpty = ds.isEmpty := by cases r <;> rfl
theorem tru_own {K : PySem.W.Frag} {W : Wd} {H : Hp} {d : D} {p : Addr} {k : Bool} (o : OwnAt K W H d p) (e : truD d = some k) : TruV K (.ref p) H k := by
  have r := o.r
  cases d with
  | list ds =>
    obtain ⟨vs, e1, r⟩ := r
    cases e
    exact .inl ⟨vs, SqL.of e1, by rw [r.isEmpty]⟩
  | dict kvs =>
    obtain ⟨vs, e1, r⟩ := r
    cases e
    exact .inr (.inr ⟨vs, e1, by rw [r.isEmpty]⟩)
  | _ => exact r.elim
theorem tru_arg {K : PySem.W.Frag} {B : Addr → Prop} {W : Wd} {H : Hp} {gs : GS} {r : RV} {v : V} {k : Bool} (S : StR K W H gs) (a : ArgR K B W H r v) (e : truR r = some k) : TruV K v H k := by
  cases r with
  | val d =>
    have e' : truD d = some k := e
    cases (show Rp K W.G v d from a) with
    | non => cases e'; exact rfl
    | bl b => cases e'; exact rfl
    | int i => cases e'; exact rfl
    | str x =>
      have e2 : (if x.length ≤ sizeLine then some ((x.length : Int) != 0) else none) = some k := e'
      by_cases hx : x.length ≤ sizeLine
      · rw [if_pos hx] at e2
        cases e2; exact ⟨hx, rfl⟩
      · rw [if_neg hx] at e2; cases e2
    | lst hs r => cases e'; exact .inl ⟨_, SqL.of (S.sub _ _ hs), by rw [r.isEmpty]⟩
    | tup hs _ r => cases e'; exact .inr (.inl ⟨_, sameT S.sub hs, by rw [r.isEmpty]⟩)
    | dct hs r => cases e'; exact .inr (.inr ⟨_, S.sub _ _ hs, by rw [r.isEmpty]⟩)
  | own d => exact a.elim
  | bor d => obtain ⟨p, rfl, o, _⟩ := a; exact tru_own o e
  | obj n => cases e
def tTru (ga : Sl → M RV) : Sl → M Bool := fun ρ => useM (ga ρ) fun x => liftO (truR x)
theorem tx_tru (ha : PX X E a ga) (he : ∀ whole, isTrue a X.env whole = (do let v ← whole; standAt a.pos; holding [v] (truthy v)) := by intro _; rfl) : PXT X E a (tTru ga) :=
  ⟨(pt_truth ha.pe he).mono fun σ H Q q => by
    obtain ⟨W, ρ, gs, S, Ev, q⟩ := q
    refine tX_use S Ev q fun r1 v1 W1 H1 gs1 s1 S1 E1 a1 q1 => ?_
    obtain ⟨k, e, q2⟩ := post_liftO q1
    exact ⟨k, tru_arg S1 a1 e, q2.done S1⟩⟩
def tBin (f : RV → RV → Option RV) (ga gb : Sl → M RV) : Sl → M Bool := fun ρ => useM (ga ρ) fun x => useM (gb ρ) fun y => liftO ((f x y).bind isB)
theorem tx_cmp {op : CmpOp} {f : RV → RV → Option RV} (ho : OpR X (compareOp op) (rS X.K f)) (ha : PX X E a ga) (hb : PX X E b gb) (hm : behindInMarks op b = false) : PXT X E (.Compare a [op] [b] pos) (tBin f ga gb) :=
  ⟨(pt_cmpR ho ha.pe hb.pe hm).mono fun σ H Q q => by
    obtain ⟨W, ρ, gs, S, Ev, q⟩ := q
    refine tX_use S Ev q fun r1 v1 W1 H1 gs1 s1 S1 E1 a1 q1 => ?_
    refine tX_use S1 E1 q1 fun r2 v2 W2 H2 gs2 s2 S2 E2 a2 q2 => ?_
    obtain ⟨k, e, q3⟩ := post_liftO q2
    exact rS_bool S2 (a1.step s2) a2 e fun W' H' s' S' => ⟨k, rfl, q3 W' H' s' S'⟩⟩
def tChn (f f' : RV → RV → Option RV) (ga gb gc : Sl → M RV) : Sl → M Bool := fun ρ => useM (ga ρ) fun x => useM (gb ρ) fun y => bindM (liftO ((f x y).bind isB)) fun k =>
  if k then useM (gc ρ) fun z => liftO ((f' y z).bind isB) else retM false
theorem tx_chain {op op' : CmpOp} {f f' : RV → RV → Option RV} (ho : OpR X (compareOp op) (rS X.K f)) (ho' : OpR X (compareOp op') (rS X.K f')) (ha : PX X E a ga) (hb : PX X E b gb) (hc : PX X E c gc)
    (hm : lastMarks [op, op'] [b, c] = false := by with_unfolding_all rfl) : PXT X E (.Compare a [op, op'] [b, c] pos) (tChn f f' ga gb gc) :=
  ⟨(pt_chain ho ho' ha.pe hb.pe hc.pe hm).mono fun σ H Q q => by
    obtain ⟨W, ρ, gs, S, Ev, q⟩ := q
    refine tX_use S Ev q fun r1 v1 W1 H1 gs1 s1 S1 E1 a1 q1 => ?_
    refine tX_use S1 E1 q1 fun r2 v2 W2 H2 gs2 s2 S2 E2 a2 q2 => ?_
    have q2' : post X.K E W2 H2 (fun b _ H' _ => Q b H') ((liftO ((f r1 r2).bind isB) gs2).bind fun k g => (if k then useM (gc ρ) fun z => liftO ((f' r2 z).bind isB) else retM false) g) := q2
    cases e : (f r1 r2).bind isB with
    | none => rw [e] at q2'; exact q2'.elim
    | some k =>
      rw [e] at q2'
      refine rS_bool S2 (a1.step s2) a2 e fun W3 H3 s3 S3 => ⟨k, rfl, ?_⟩
      cases k with
      | true =>
        rw [if_pos rfl]
        have q3 : post X.K E W2 H2 (fun b _ H' _ => Q b H') (useM (gc ρ) (fun z => liftO ((f' r2 z).bind isB)) gs2) := q2'
        refine tX_use S3 (E2.step s3) (post.step s3 q3) fun r4 v4 W4 H4 gs4 s4 S4 E4 a4 q4 => ?_
        obtain ⟨k', e', q5⟩ := post_liftO q4
        exact rS_bool S4 ((a2.step s3).step s4) a4 e' fun W' H' s' S' => ⟨k', rfl, q5 W' H' s' S'⟩
      | false =>
        rw [if_neg Bool.false_ne_true]
        have q3 : post X.K E W2 H2 (fun b _ H' _ => Q b H') (.ok false gs2) := q2'
        exact ⟨false, rfl, q3 W3 H3 s3 S3⟩⟩
/-- a test is used -/
theorem tXT_use {K : PySem.W.Frag} {β : Type} {ga : Sl → M Bool} {f : Bool → M β} {ρ : Sl} {σ : Sg} {W : Wd} {H : Hp} {gs : GS} {Q : β → Wd → Hp → GS → Prop} {P : Bool → Hp → Prop} (S : StR K W H gs) (Ev : EnvR K W H ρ σ) (h : post K E W H Q (bindM (ga ρ) f gs))
    (k : ∀ b W1 H1 gs1, Step NoB W W1 H H1 → StR K W1 H1 gs1 → EnvR K W1 H1 ρ σ → post K E W1 H1 Q (f b gs1) → P b H1) : tXT K E ga σ H P := by
  refine ⟨W, ρ, gs, S, Ev, ?_⟩
  unfold bindM at h
  cases e : ga ρ gs with
  | ok b g1 =>
    rw [e] at h
    exact fun W1 H1 s1 S1 => k b W1 H1 g1 s1 S1 (Ev.step s1) (post.step s1 h)
  | exc x g => rw [e] at h; exact h
  | stuck => rw [e] at h; exact h
variable {ta tb : Sl → M Bool} {rest : List Expr}
structure PXW (X : Cx) (E : XK) (e : Expr) (g : Sl → M Bool) : Prop where
  pw : PW X e (tXT X.K E g)
theorem PXW.t {e : Expr} {g : Sl → M Bool} (h : PXW X E e g) : PXT X E e g := ⟨h.pw.pt⟩
theorem _root_.L2.PW.mono {e : Expr} {t t' : TT} (h : PW X e t) (m : ∀ σ H Q, t' σ H Q → t σ H Q) : PW X e t' := ⟨fun wh pins s σ H Q I q => h.run wh pins s σ H Q I (m σ H Q q)⟩
def tAndM (ta tb : Sl → M Bool) : Sl → M Bool := fun ρ => bindM (ta ρ) fun k => if k then tb ρ else retM false
def tOrM (ta tb : Sl → M Bool) : Sl → M Bool := fun ρ => bindM (ta ρ) fun k => if k then retM true else tb ρ
def tNotM (ta : Sl → M Bool) : Sl → M Bool := fun ρ => bindM (ta ρ) fun k => retM (!k)
theorem tw_and1 (ha : PXT X E a ta) : PXW X E (.BoolOp .And [a] pos) ta := ⟨pw_and1 ha.pt⟩
theorem tw_or1 (ha : PXT X E a ta) : PXW X E (.BoolOp .Or [a] pos) ta := ⟨pw_or1 ha.pt⟩
theorem tw_and (ha : PXT X E a ta) (hb : PXW X E (.BoolOp .And (b :: rest) pos) tb) : PXW X E (.BoolOp .And (a :: b :: rest) pos) (tAndM ta tb) :=
  ⟨(pw_and ha.pt hb.pw).mono fun σ H Q q => by
    obtain ⟨W, ρ, gs, S, Ev, q⟩ := q
    refine tXT_use S Ev q fun k W1 H1 gs1 s1 S1 E1 q1 => ?_
    cases k with
    | true => rw [if_pos rfl]; exact ⟨W1, ρ, gs1, S1, E1, q1⟩
    | false => rw [if_neg Bool.false_ne_true]; exact post.done (a := false) q1 S1⟩
theorem tw_or (ha : PXT X E a ta) (hb : PXW X E (.BoolOp .Or (b :: rest) pos) tb) : PXW X E (.BoolOp .Or (a :: b :: rest) pos) (tOrM ta tb) :=
  ⟨(pw_or ha.pt hb.pw).mono fun σ H Q q => by
    obtain ⟨W, ρ, gs, S, Ev, q⟩ := q
    refine tXT_use S Ev q fun k W1 H1 gs1 s1 S1 E1 q1 => ?_
    cases k with
    | true => rw [if_pos rfl]; exact post.done (a := true) q1 S1
    | false => rw [if_neg Bool.false_ne_true]; exact ⟨W1, ρ, gs1, S1, E1, q1⟩⟩
theorem tx_not (ha : PXT X E a ta) : PXT X E (.UnaryOp .Not a pos) (tNotM ta) :=
  ⟨(pt_not ha.pt).mono fun σ H Q q => by
    obtain ⟨W, ρ, gs, S, Ev, q⟩ := q
    refine tXT_use S Ev q fun k W1 H1 gs1 s1 S1 E1 q1 => ?_
    exact post.done (a := !k) q1 S1⟩
/-- a value by going on -/
theorem tX_on {K : PySem.W.Frag} {g : Sl → M RV} {ρ : Sl} {σ : Sg} {W W0 : Wd} {H H0 : Hp} {gs : GS} {Q : VK} (s : Step NoB W0 W H0 H) (S : StR K W H gs) (Ev : EnvR K W H ρ σ) (q : post K E W H (QV K (Os ρ σ) H0 Q) (g ρ gs)) : tX K E g σ H Q :=
  ⟨W, ρ, gs, S, Ev, q.imp fun a W' H' g _ _ q v hv => q v (hv.back s)⟩
/-- .. as values: all but the last are True or False -/
def xAnd (ga gb : Sl → M RV) : Sl → M RV := fun ρ => useM (ga ρ) fun x => bindM (liftO (isB x)) fun k => if k then gb ρ else retM (.val (.bool false))
def xOr (ga gb : Sl → M RV) : Sl → M RV := fun ρ => useM (ga ρ) fun x => bindM (liftO (isB x)) fun k => if k then retM (.val (.bool true)) else gb ρ
theorem isB_some {r : RV} {k : Bool} (e : isB r = some k) : r = .val (.bool k) := by
  cases r with
  | val d =>
    cases d with
    | bool k' => cases e; rfl
    | _ => cases e
  | _ => cases e
theorem post_bindO {K : PySem.W.Frag} {α β : Type} {W : Wd} {H : Hp} {gs : GS} {Q : β → Wd → Hp → GS → Prop} {o : Option α} {f : α → M β} (h : post K E W H Q (bindM (liftO o) f gs)) : ∃ a, o = some a ∧ post K E W H Q (f a gs) := by
  cases o with
  | none => exact h.elim
  | some a => exact ⟨a, rfl, h⟩
theorem x_and (ha : PX X E a ga) (hb : PX X E (.BoolOp .And (b :: rest) pos) gb) : PX X E (.BoolOp .And (a :: b :: rest) pos) (xAnd ga gb) :=
  ⟨(pe_and ha.pe hb.pe).mono fun σ H Q q => by
    obtain ⟨W, ρ, gs, S, Ev, q⟩ := q
    refine tX_use S Ev q fun r1 v1 W1 H1 gs1 s1 S1 E1 a1 q1 => ?_
    obtain ⟨k, e, q2⟩ := post_bindO q1
    obtain rfl := isB_some e
    cases a1
    refine ⟨k, rfl, ?_⟩
    cases k with
    | true => rw [if_pos rfl]; exact tX_on s1 S1 E1 q2
    | false =>
      rw [if_neg Bool.false_ne_true]
      exact (post.done (a := RV.val (.bool false)) q2 S1) _ (.bl false)⟩
theorem x_or (ha : PX X E a ga) (hb : PX X E (.BoolOp .Or (b :: rest) pos) gb) : PX X E (.BoolOp .Or (a :: b :: rest) pos) (xOr ga gb) :=
  ⟨(pe_or ha.pe hb.pe).mono fun σ H Q q => by
    obtain ⟨W, ρ, gs, S, Ev, q⟩ := q
    refine tX_use S Ev q fun r1 v1 W1 H1 gs1 s1 S1 E1 a1 q1 => ?_
    obtain ⟨k, e, q2⟩ := post_bindO q1
    obtain rfl := isB_some e
    cases a1
    refine ⟨k, rfl, ?_⟩
    cases k with
    | true =>
      rw [if_pos rfl]
      exact (post.done (a := RV.val (.bool true)) q2 S1) _ (.bl true)
    | false => rw [if_neg Bool.false_ne_true]; exact tX_on s1 S1 E1 q2⟩
theorem x_one {op} (h : PX X E a ga) : PX X E (.BoolOp op [a] pos) ga := ⟨pe_one h.pe⟩
/-- not e, as a value (True or False) -/
def notR (r : RV) : Option RV := (isB r).map fun k => .val (.bool (!k))
theorem x_not (ha : PX X E a ga) : PX X E (.UnaryOp .Not a pos) (xUn notR ga) :=
  ⟨(pe_not ha.pe).mono fun σ H Q q => by
    obtain ⟨W, ρ, gs, S, Ev, q⟩ := q
    refine tX_use S Ev q fun r1 v1 W1 H1 gs1 s1 S1 E1 a1 q1 => ?_
    obtain ⟨r, e, q2⟩ := post_liftO q1
    unfold notR at e
    cases e2 : isB r1 with
    | none => rw [e2] at e; cases e
    | some k =>
      rw [e2] at e
      cases e
      obtain rfl := isB_some e2
      cases a1
      exact ⟨k, rfl, q2.done S1 _ (.bl _)⟩⟩
/-- a if t else b -/
def xIf (t : Sl → M Bool) (ga gb : Sl → M RV) : Sl → M RV := fun ρ => bindM (t ρ) fun k => if k then ga ρ else gb ρ
theorem x_if (hc : PXT X E c ta) (ha : PX X E a ga) (hb : PX X E b gb) : PX X E (.IfExp c a b pos) (xIf ta ga gb) :=
  ⟨(pe_ifExp hc.pt ha.pe hb.pe).mono fun σ H Q q => by
    obtain ⟨W, ρ, gs, S, Ev, q⟩ := q
    refine tXT_use S Ev q fun k W1 H1 gs1 s1 S1 E1 q1 => ?_
    cases k with
    | true => rw [if_pos rfl]; exact tX_on s1 S1 E1 q1
    | false => rw [if_neg Bool.false_ne_true]; exact tX_on s1 S1 E1 q1⟩
end
end PL
set_option Elab.async false
set_option linter.all false
set_option maxRecDepth 100000
set_option maxHeartbeats 2000000
/-! PLc: operators, comparisons, subscripts of plain data. -/
namespace PL
open PySem PySem.Spec PyProof.Rows L2

/-- the data of a value -/
def rd : RV → Option D
  | .val d => some d
  | .own d => some d
  | .bor d => some d
  | .obj _ => none
section
variable {K : PySem.W.Frag} {E : XK} {B : Addr → Prop} {W W1 : Wd} {H H1 : Hp} {gs : GS} {r : RV} {x : V}
theorem own_list {ds : List D} {p : Addr} (o : OwnAt K W H (.list ds) p) : ∃ vs, H p = some (.lst vs) ∧ RpAll K W.G vs ds := o.r
theorem own_dict {kvs : List (D × D)} {p : Addr} (o : OwnAt K W H (.dict kvs) p) : ∃ vs, H p = some (.dK vs) ∧ RpKv K W.G vs kvs := o.r
theorem ArgR.list {ds : List D} (S : StR K W H gs) (a : ArgR K B W H r x) (e : rd r = some (.list ds)) : ∃ p vs, x = .ref p ∧ H p = some (.lst vs) ∧ RpAll K W.G vs ds := by
  cases r with
  | val d =>
    cases e
    cases (show Rp K W.G x _ from a) with
    | lst h1 h2 => exact ⟨_, _, rfl, S.sub _ _ h1, h2⟩
  | own d => exact a.elim
  | bor d => cases e; obtain ⟨p, rfl, o, _⟩ := a; obtain ⟨vs, h1, h2⟩ := own_list o; exact ⟨p, vs, rfl, h1, h2⟩
  | obj n => cases e
theorem ArgR.dict {kvs : List (D × D)} (S : StR K W H gs) (a : ArgR K B W H r x) (e : rd r = some (.dict kvs)) : ∃ p vs, x = .ref p ∧ H p = some (.dK vs) ∧ RpKv K W.G vs kvs := by
  cases r with
  | val d =>
    cases e
    cases (show Rp K W.G x _ from a) with
    | dct h1 h2 => exact ⟨_, _, rfl, S.sub _ _ h1, h2⟩
  | own d => exact a.elim
  | bor d => cases e; obtain ⟨p, rfl, o, _⟩ := a; obtain ⟨vs, h1, h2⟩ := own_dict o; exact ⟨p, vs, rfl, h1, h2⟩
  | obj n => cases e
theorem OwnAt.no {d : D} {p : Addr} (o : OwnAt K W H d p) (h : ∀ ds, d ≠ .list ds) (h' : ∀ ds, d ≠ .dict ds) : False := by
  have r := o.r
  cases d with
  | list ds => exact h ds rfl
  | dict ds => exact h' ds rfl
  | _ => exact r.elim
/-- data that are no list and no dict are values -/
theorem ArgR.flat {d : D} (a : ArgR K B W H r x) (e : rd r = some d) (h : ∀ ds, d ≠ .list ds) (h' : ∀ ds, d ≠ .dict ds) : Rp K W.G x d := by
  cases r with
  | val d => cases e; exact a
  | own d => exact a.elim
  | bor d => cases e; obtain ⟨p, rfl, o, _⟩ := a; exact (o.no h h').elim
  | obj n => cases e
theorem ArgR.int {i : Int} (a : ArgR K B W H r x) (e : rd r = some (.int i)) : x = .int i := by
  cases a.flat e (fun _ => nofun) (fun _ => nofun); rfl
theorem ArgR.str {i : Str} (a : ArgR K B W H r x) (e : rd r = some (.str i)) : x = .str i := by
  cases a.flat e (fun _ => nofun) (fun _ => nofun); rfl
theorem ArgR.bl {i : Bool} (a : ArgR K B W H r x) (e : rd r = some (.bool i)) : x = .bl i := by
  cases a.flat e (fun _ => nofun) (fun _ => nofun); rfl
theorem ArgR.tup {ds : List D} (S : StR K W H gs) (a : ArgR K B W H r x) (e : rd r = some (.tuple ds)) : ∃ p vs, x = .ref p ∧ SqT K H p vs ∧ (SqT K W.G p vs ∧ NoD K W.G p) ∧ RpAll K W.G vs ds := by
  cases a.flat e (fun _ => nofun) (fun _ => nofun) with
  | tup h1 hn h2 => exact ⟨_, _, rfl, sameT S.sub h1, ⟨h1, hn⟩, h2⟩
/-- .. as the hand layer tells data -/
theorem ArgR.dp {d : D} (S : StR K W H gs) (a : ArgR K B W H r x) (e : rd r = some d) (c : d.canLay0 = true) : Dp K H x d := by
  by_cases h : ∃ ds, d = .list ds
  · obtain ⟨ds, rfl⟩ := h
    obtain ⟨p, vs, rfl, h1, h2⟩ := a.list S e
    exact .lst (SqL.of h1) (RpAll.dp _ _ (RpAll.same S.sub _ _ h2) (by simpa [PyData.canLay0] using c))
  · by_cases h' : ∃ ds, d = .dict ds
    · obtain ⟨ds, rfl⟩ := h'
      simp [PyData.canLay0] at c
    · exact Rp.dp d x (Rp.same S.sub _ _ (a.flat e (fun ds q => h ⟨ds, q⟩) fun ds q => h' ⟨ds, q⟩)) c
end

/-! ### arithmetic -/
def int2 (f : Int → Int → Option D) (r1 r2 : RV) : Option RV := match rd r1, rd r2 with
  | some (.int i), some (.int j) => (f i j).map .val
  | _, _ => none
theorem int2_some {f : Int → Int → Option D} {r1 r2 r : RV} (e : int2 f r1 r2 = some r) : ∃ i j d, rd r1 = some (.int i) ∧ rd r2 = some (.int j) ∧ f i j = some d ∧ r = .val d := by
  unfold int2 at e
  split at e
  · rename_i i j e1 e2
    cases q : f i j with
    | none => rw [q] at e; cases e
    | some d => rw [q] at e; cases e; exact ⟨i, j, d, e1, e2, q, rfl⟩
  · cases e
section
variable {X : Cx}
/-- a rule of two ints -/
theorem o_int {op : Value → Value → Sem Value} {f : Int → Int → Option D} {r0 : R2} (ho : OpR X op r0)
    (h : ∀ i j d H (Q : VK), f i j = some d → (∀ v, (∀ G, Rp X.K G v d) → Q v H) → r0 (.int i) (.int j) H Q) : OpR X op (rS X.K (int2 f)) := by
  intro pins s σ H x y v u Q I rx ry q
  obtain ⟨W, gs, B, r1, r2, r, S, a1, a2, e, k⟩ := q
  obtain ⟨i, j, d, e1, e2, e3, rfl⟩ := int2_some e
  obtain rfl := a1.int e1
  obtain rfl := a2.int e2
  exact ho pins s σ H _ _ v u Q I rx ry (h i j d H Q e3 fun z hz => k z W H .refl S (hz W.G))
def subR := int2 fun i j => some (.int (i - j))
def fdivR := int2 fun i j => if 0 < j ∧ j.natAbs.log2 < 9000 then some (.int (i / j)) else none
def modR := int2 fun i j => if 0 < j then some (.int (i % j)) else none
def powR := int2 fun i j => if 0 ≤ j ∧ j ≤ 1000000 ∧ i.natAbs < 2 ^ 64 then some (.int (i ^ j.toNat)) else none
def shlR := int2 fun i j => if 0 ≤ j ∧ j ≤ 1000000 ∧ i.natAbs < 2 ^ 64 then some (.int (i * 2 ^ j.toNat)) else none
def shrR := int2 fun i j => if 0 ≤ j then some (.int (i / 2 ^ j.toNat)) else none
def bandR := int2 fun i j => some (.int (Builtin.bitAnd i j))
def borR := int2 fun i j => some (.int (Builtin.bitOr i j))
def bxorR := int2 fun i j => some (.int (Builtin.bitXor i j))
theorem o_sub : OpR X (binaryOp .Sub) (rS X.K subR) := o_int op_sub fun i j d H Q e k => ⟨i, j, rfl, rfl, by cases e; exact k _ fun _ => .int _⟩
theorem ite_some {α : Type} {c : Prop} [Decidable c] {a d : α} (e : (if c then some a else none) = some d) : c ∧ a = d := by
  by_cases h : c
  · rw [if_pos h] at e; exact ⟨h, Option.some.inj e⟩
  · rw [if_neg h] at e; cases e
theorem o_fdiv : OpR X (binaryOp .FloorDiv) (rS X.K fdivR) := o_int op_fdivW fun i j d H Q e k => by
  obtain ⟨h, rfl⟩ := ite_some e
  exact ⟨i, j, rfl, rfl, h, k _ fun _ => .int _⟩
theorem o_mod : OpR X (binaryOp .Mod) (rS X.K modR) := o_int op_mod fun i j d H Q e k => by
  obtain ⟨h, rfl⟩ := ite_some e
  exact ⟨i, j, rfl, rfl, h, k _ fun _ => .int _⟩
theorem o_pow : OpR X (binaryOp .Pow) (rS X.K powR) := o_int op_pow fun i j d H Q e k => by
  obtain ⟨h, rfl⟩ := ite_some e
  exact ⟨i, j, rfl, rfl, h, k _ fun _ => .int _⟩
theorem o_shl : OpR X (binaryOp .LShift) (rS X.K shlR) := o_int op_shl fun i j d H Q e k => by
  obtain ⟨h, rfl⟩ := ite_some e
  exact ⟨i, j, rfl, rfl, h, k _ fun _ => .int _⟩
theorem o_shr : OpR X (binaryOp .RShift) (rS X.K shrR) := o_int op_shr fun i j d H Q e k => by
  obtain ⟨h, rfl⟩ := ite_some e
  exact ⟨i, j, rfl, rfl, h, k _ fun _ => .int _⟩
theorem o_band : OpR X (binaryOp .BitAnd) (rS X.K bandR) := o_int op_and fun i j d H Q e k => ⟨i, j, rfl, rfl, by cases e; exact k _ fun _ => .int _⟩
theorem o_bor : OpR X (binaryOp .BitOr) (rS X.K borR) := o_int op_or fun i j d H Q e k => ⟨i, j, rfl, rfl, by cases e; exact k _ fun _ => .int _⟩
theorem o_bxor : OpR X (binaryOp .BitXor) (rS X.K bxorR) := o_int op_xor fun i j d H Q e k => ⟨i, j, rfl, rfl, by cases e; exact k _ fun _ => .int _⟩
/-- a + b -/
def addR (r1 r2 : RV) : Option RV := match rd r1, rd r2 with
  | some (.int i), some (.int j) => some (.val (.int (i + j)))
  | some (.str x), some (.str y) => if x.length + y.length ≤ sizeLine then some (.val (.str (x ++ y))) else none
  | some (.tuple xs), some (.tuple ys) => if xs.length + ys.length ≤ sizeLine then some (.val (.tuple (xs ++ ys))) else none
  | some (.list xs), some (.list ys) => if xs.length + ys.length ≤ sizeLine then some (.own (.list (xs ++ ys))) else none
  | _, _ => none
theorem o_add : OpR X (binaryOp .Add) (rS X.K addR) := by
  intro pins s σ H x y v u Q I rx ry q
  obtain ⟨W, gs, B, r1, r2, r, S, a1, a2, e, k⟩ := q
  unfold addR at e
  split at e
  · rename_i i j e1 e2
    cases e
    obtain rfl := a1.int e1
    obtain rfl := a2.int e2
    exact op_add pins s σ H _ _ v u Q I rx ry ⟨i, j, rfl, rfl, k _ W H .refl S (.int _)⟩
  · rename_i i j e1 e2
    obtain ⟨h, rfl⟩ := ite_some e
    obtain rfl := a1.str e1
    obtain rfl := a2.str e2
    exact op_add_str pins s σ H _ _ v u Q I rx ry ⟨i, j, rfl, rfl, h, k _ W H .refl S (.str _)⟩
  · rename_i xs ys e1 e2
    obtain ⟨h, rfl⟩ := ite_some e
    obtain ⟨p, vs, rfl, h1, h1', h2⟩ := a1.tup S e1
    obtain ⟨p', vs', rfl, h3, h3', h4⟩ := a2.tup S e2
    have l1 := h2.length
    have l2 := h4.length
    refine op_catN pins s σ H _ _ v u Q I rx ry ⟨p, p', vs, vs', rfl, rfl, h1, h3, by omega, fun z => ?_, fun _ z => ?_, fun _ _ q o hq ho => ?_⟩
    · subst z
      cases h2
      exact k _ W H .refl S (.tup h3'.1 h3'.2 h4)
    · subst z
      cases h4
      exact k _ W H .refl S (by rw [List.append_nil]; exact .tup h1'.1 h1'.2 h2)
    · exact k _ _ _ (step_newF S hq) (S.newF hq) (tup_new S hq ho (h2.append h4))
  · rename_i xs ys e1 e2
    obtain ⟨h, rfl⟩ := ite_some e
    obtain ⟨p, vs, rfl, h1, h2⟩ := a1.list S e1
    obtain ⟨p', vs', rfl, h3, h4⟩ := a2.list S e2
    have l1 := h2.length
    have l2 := h4.length
    exact op_cat pins s σ H _ _ v u Q I rx ry ⟨p, p', vs, vs', rfl, rfl, h1, h3, by omega, fun q hq => k _ _ _ (step_new S hq) (S.new hq) ⟨q, rfl, own_new S hq (h2.append h4), hq⟩⟩
  · cases e
/-- a * b: ints; a list and an int -/
def mulR (r1 r2 : RV) : Option RV := match rd r1, rd r2 with
  | some (.int i), some (.int j) => if i.natAbs.log2 + j.natAbs.log2 < 1000000 then some (.val (.int (i * j))) else none
  | some (.list xs), some (.int n) => if -(2 ^ 63) ≤ n ∧ n < 2 ^ 63 ∧ xs.length * n.toNat ≤ sizeLine then some (.own (.list (List.replicate n.toNat xs).flatten)) else none
  | _, _ => none
theorem RpAll.rep {K : PySem.W.Frag} {G : Hp} {vs : List V} {ds : List D} (r : RpAll K G vs ds) : ∀ n : Nat, RpAll K G (List.replicate n vs).flatten (List.replicate n ds).flatten
  | 0 => .nil
  | n + 1 => by
    rw [List.replicate_succ, List.replicate_succ, List.flatten_cons, List.flatten_cons]
    exact r.append (RpAll.rep r n)
theorem o_mul : OpR X (binaryOp .Mult) (rS X.K mulR) := by
  intro pins s σ H x y v u Q I rx ry q
  obtain ⟨W, gs, B, r1, r2, r, S, a1, a2, e, k⟩ := q
  unfold mulR at e
  split at e
  · rename_i i j e1 e2
    obtain ⟨h, rfl⟩ := ite_some e
    obtain rfl := a1.int e1
    obtain rfl := a2.int e2
    exact op_mulW pins s σ H _ _ v u Q I rx ry ⟨i, j, rfl, rfl, h, k _ W H .refl S (.int _)⟩
  · rename_i xs n e1 e2
    obtain ⟨h, rfl⟩ := ite_some e
    obtain ⟨p, vs, rfl, h1, h2⟩ := a1.list S e1
    obtain rfl := a2.int e2
    have l1 := h2.length
    exact op_rep pins s σ H _ _ v u Q I rx ry ⟨p, n, vs, rfl, rfl, h1, h.1, h.2.1, by rw [l1]; exact h.2.2, fun q hq => k _ _ _ (step_new S hq) (S.new hq) ⟨q, rfl, own_new S hq (h2.rep _), hq⟩⟩
  · cases e
def negR (r : RV) : Option RV := match rd r with
  | some (.int i) => some (.val (.int (-i)))
  | _ => none
def invR (r : RV) : Option RV := match rd r with
  | some (.int i) => some (.val (.int (Builtin.bitNot i)))
  | _ => none
theorem o_neg : UnR X (unaryOp .USub) (rU1 X.K negR) := by
  intro pins s σ H x v Q I rx q
  obtain ⟨W, gs, B, r1, r, S, a1, e, k⟩ := q
  unfold negR at e
  split at e
  · rename_i i e1
    cases e
    obtain rfl := a1.int e1
    exact un_neg pins s σ H _ v Q I rx ⟨i, rfl, k _ W H .refl S (.int _)⟩
  · cases e
theorem o_inv : UnR X (unaryOp .Invert) (rU1 X.K invR) := by
  intro pins s σ H x v Q I rx q
  obtain ⟨W, gs, B, r1, r, S, a1, e, k⟩ := q
  unfold invR at e
  split at e
  · rename_i i e1
    cases e
    obtain rfl := a1.int e1
    exact un_inv pins s σ H _ v Q I rx ⟨i, rfl, k _ W H .refl S (.int _)⟩
  · cases e

/-! ### comparisons -/
def cmp2 (f : D → D → Option Bool) (r1 r2 : RV) : Option RV := match rd r1, rd r2 with
  | some d, some e => (f d e).map fun k => .val (.bool k)
  | _, _ => none
theorem cmp2_some {f : D → D → Option Bool} {r1 r2 r : RV} (e : cmp2 f r1 r2 = some r) : ∃ d1 d2 k, rd r1 = some d1 ∧ rd r2 = some d2 ∧ f d1 d2 = some k ∧ r = .val (.bool k) := by
  unfold cmp2 at e
  split at e
  · rename_i i j e1 e2
    cases q : f i j with
    | none => rw [q] at e; cases e
    | some d => rw [q] at e; cases e; exact ⟨i, j, d, e1, e2, q, rfl⟩
  · cases e
open SeqAt (shaped)
def eqD (d e : D) : Option Bool := if shaped d = true ∧ shaped e = true then some (PyData.eqv d e) else none
def neD (d e : D) : Option Bool := if shaped d = true ∧ shaped e = true then some (!PyData.eqv d e) else none
abbrev eqR := cmp2 eqD
abbrev neR := cmp2 neD
theorem o_eq (hu : X.A.units + 64 < cLine) : OpR X (compareOp .Eq) (rS X.K eqR) := by
  intro pins s σ H x y v u Q I rx ry q
  obtain ⟨W, gs, B, r1, r2, r, S, a1, a2, e, k⟩ := q
  obtain ⟨d1, d2, b, e1, e2, e3, rfl⟩ := cmp2_some e
  obtain ⟨h, rfl⟩ := ite_some e3
  exact op_eqD hu pins s σ H x y v u Q I rx ry ⟨d1, d2, a1.dp S e1 (SeqAt.canLay_of_shaped h.1), a2.dp S e2 (SeqAt.canLay_of_shaped h.2), h.1, h.2, k _ W H .refl S (.bl _)⟩
theorem o_ne (hu : X.A.units + 64 < cLine) : OpR X (compareOp .NotEq) (rS X.K neR) := by
  intro pins s σ H x y v u Q I rx ry q
  obtain ⟨W, gs, B, r1, r2, r, S, a1, a2, e, k⟩ := q
  obtain ⟨d1, d2, b, e1, e2, e3, rfl⟩ := cmp2_some e
  obtain ⟨h, rfl⟩ := ite_some e3
  exact op_neD hu pins s σ H x y v u Q I rx ry ⟨d1, d2, a1.dp S e1 (SeqAt.canLay_of_shaped h.1), a2.dp S e2 (SeqAt.canLay_of_shaped h.2), h.1, h.2, k _ W H .refl S (.bl _)⟩
/-- the order: ints, texts -/
def ltS (x y : Str) : Bool := decide (x.cps.toList < y.cps.toList)
def ltD : D → D → Option Bool
  | .int i, .int j => some (decide (i < j))
  | .str x, .str y => some (ltS x y)
  | .tuple xs, .tuple ys => if PySem.W.alike (.tuple xs) (.tuple ys) = true ∧ shaped (.tuple xs) = true ∧ shaped (.tuple ys) = true then some (PySem.W.dataLt (.tuple xs) (.tuple ys)) else none
  | _, _ => none
def leD : D → D → Option Bool
  | .int i, .int j => some (decide (i ≤ j))
  | .str x, .str y => some (!ltS y x)
  | _, _ => none
def gtD : D → D → Option Bool
  | .int i, .int j => some (decide (j < i))
  | .str x, .str y => some (ltS y x)
  | _, _ => none
def geD : D → D → Option Bool
  | .int i, .int j => some (decide (j ≤ i))
  | .str x, .str y => some (!ltS x y)
  | _, _ => none
abbrev ltR := cmp2 ltD
abbrev leR := cmp2 leD
abbrev gtR := cmp2 gtD
abbrev geR := cmp2 geD
theorem o_lt (hu : X.A.units + 64 < cLine) : OpR X (compareOp .Lt) (rS X.K ltR) := by
  intro pins s σ H x y v u Q I rx ry q
  obtain ⟨W, gs, B, r1, r2, r, S, a1, a2, e, k⟩ := q
  obtain ⟨d1, d2, b, e1, e2, e3, rfl⟩ := cmp2_some e
  have fin : ∀ {c : Bool}, c = b → Q (.bl c) H := fun z => by subst z; exact k _ W H .refl S (.bl _)
  unfold ltD at e3
  split at e3
  · cases e3
    obtain rfl := a1.int e1
    obtain rfl := a2.int e2
    exact op_lt pins s σ H _ _ v u Q I rx ry ⟨_, _, rfl, rfl, fin rfl⟩
  · cases e3
    obtain rfl := a1.str e1
    obtain rfl := a2.str e2
    exact op_lt_str pins s σ H _ _ v u Q I rx ry ⟨_, _, rfl, rfl, fin rfl⟩
  · rename_i xs ys
    split at e3
    · rename_i h
      cases e3
      obtain ⟨as, q1⟩ := Dp.reads I _ x v (a1.dp S e1 (SeqAt.canLay_of_shaped h.2.1)) rx
      obtain ⟨bs, q2⟩ := Dp.reads I _ y u (a2.dp S e2 (SeqAt.canLay_of_shaped h.2.2)) ry
      have hd := SeqAt.depth_of_shaped h.2.1
      exact PySem.W.rcLt_alike _ _ X.A s v u as bs q1 q2 h.1 (fun z => by cases z) (by omega) X.prog X.w X.xe _ ⟨.bl _, H, I, rfl, fin rfl⟩
    · cases e3
  · cases e3
theorem o_le : OpR X (compareOp .LtE) (rS X.K leR) := by
  intro pins s σ H x y v u Q I rx ry q
  obtain ⟨W, gs, B, r1, r2, r, S, a1, a2, e, k⟩ := q
  obtain ⟨d1, d2, b, e1, e2, e3, rfl⟩ := cmp2_some e
  unfold leD at e3
  split at e3
  · cases e3
    obtain rfl := a1.int e1
    obtain rfl := a2.int e2
    exact op_le pins s σ H _ _ v u Q I rx ry ⟨_, _, rfl, rfl, k _ W H .refl S (.bl _)⟩
  · cases e3
    obtain rfl := a1.str e1
    obtain rfl := a2.str e2
    exact op_le_str pins s σ H _ _ v u Q I rx ry ⟨_, _, rfl, rfl, k _ W H .refl S (.bl _)⟩
  · cases e3
theorem o_gt : OpR X (compareOp .Gt) (rS X.K gtR) := by
  intro pins s σ H x y v u Q I rx ry q
  obtain ⟨W, gs, B, r1, r2, r, S, a1, a2, e, k⟩ := q
  obtain ⟨d1, d2, b, e1, e2, e3, rfl⟩ := cmp2_some e
  unfold gtD at e3
  split at e3
  · cases e3
    obtain rfl := a1.int e1
    obtain rfl := a2.int e2
    exact op_gt pins s σ H _ _ v u Q I rx ry ⟨_, _, rfl, rfl, k _ W H .refl S (.bl _)⟩
  · cases e3
    obtain rfl := a1.str e1
    obtain rfl := a2.str e2
    exact op_gt_str pins s σ H _ _ v u Q I rx ry ⟨_, _, rfl, rfl, k _ W H .refl S (.bl _)⟩
  · cases e3
theorem o_ge : OpR X (compareOp .GtE) (rS X.K geR) := by
  intro pins s σ H x y v u Q I rx ry q
  obtain ⟨W, gs, B, r1, r2, r, S, a1, a2, e, k⟩ := q
  obtain ⟨d1, d2, b, e1, e2, e3, rfl⟩ := cmp2_some e
  unfold geD at e3
  split at e3
  · cases e3
    obtain rfl := a1.int e1
    obtain rfl := a2.int e2
    exact op_ge pins s σ H _ _ v u Q I rx ry ⟨_, _, rfl, rfl, k _ W H .refl S (.bl _)⟩
  · cases e3
    obtain rfl := a1.str e1
    obtain rfl := a2.str e2
    exact op_ge_str pins s σ H _ _ v u Q I rx ry ⟨_, _, rfl, rfl, k _ W H .refl S (.bl _)⟩
  · cases e3
/-- is None, is not None -/
def isNone : RV → Bool
  | .val .none => true
  | _ => false
def isNR (r1 r2 : RV) : Option RV := if isNone r2 = true then some (.val (.bool (isNone r1))) else none
def notNR (r1 r2 : RV) : Option RV := if isNone r2 = true then some (.val (.bool (!isNone r1))) else none
theorem ArgR.isN {K : PySem.W.Frag} {B : Addr → Prop} {W : Wd} {H : Hp} {r : RV} {x : V} (a : ArgR K B W H r x) : decide (x = .non) = isNone r := by
  cases r with
  | val d => cases (show Rp K W.G x d from a) <;> rfl
  | own d => exact a.elim
  | bor d => obtain ⟨p, rfl, _⟩ := a; rfl
  | obj n => obtain ⟨p, l, rfl, _⟩ := a; rfl
theorem o_isN : OpR X (compareOp .Is) (rS X.K isNR) := by
  intro pins s σ H x y v u Q I rx ry q
  obtain ⟨W, gs, B, r1, r2, r, S, a1, a2, e, k⟩ := q
  obtain ⟨h, rfl⟩ := ite_some e
  refine op_isN pins s σ H _ _ v u Q I rx ry ⟨of_decide_eq_true (a2.isN.trans h), ?_⟩
  rw [a1.isN]
  exact k _ W H .refl S (.bl _)
theorem o_notN : OpR X (compareOp .IsNot) (rS X.K notNR) := by
  intro pins s σ H x y v u Q I rx ry q
  obtain ⟨W, gs, B, r1, r2, r, S, a1, a2, e, k⟩ := q
  obtain ⟨h, rfl⟩ := ite_some e
  refine op_notN pins s σ H _ _ v u Q I rx ry ⟨of_decide_eq_true (a2.isN.trans h), ?_⟩
  rw [a1.isN]
  exact k _ W H .refl S (.bl _)

/-! ### in -/
def lookD (kvs : List (D × D)) (k : Key) : Option D := (kvs.find? fun kv => decide (keyD kv.1 = some k)).map (·.2)
theorem RpKv.look {K : PySem.W.Frag} {G : Hp} {vs : List (Key × V)} {kvs : List (D × D)} (k : Key) (r : RpKv K G vs kvs) : (∀ d, lookD kvs k = some d → ∃ v, valV vs k = some v ∧ Rp K G v d) ∧ (valV vs k).isSome = (lookD kvs k).isSome := by
  cases r with
  | nil => exact ⟨fun d e => (nomatch e), rfl⟩
  | @cons k' v vs k0 d ds e1 e2 e3 =>
    have ih := RpKv.look k e3
    by_cases h : k' = k
    · subst h
      have e : lookD ((k0, d) :: ds) k' = some d := by simp [lookD, List.find?_cons, e1]
      rw [e, valV_pos rfl]
      exact ⟨fun d' q => by cases q; exact ⟨v, rfl, e2⟩, rfl⟩
    · have e : lookD ((k0, d) :: ds) k = lookD ds k := by
        have : ¬ keyD k0 = some k := by rw [e1]; exact fun z => h (Option.some.inj z)
        simp [lookD, List.find?_cons, this]
      rw [e, valV_neg h]
      exact ih
theorem keyD_kV {K : PySem.W.Frag} {G : Hp} {d : D} {v : V} {k : Key} (r : Rp K G v d) (e : keyD d = some k) : v = kV k := by
  cases r with
  | int i => cases e; rfl
  | str x => cases e; rfl
  | _ => cases e
def inD (d : D) : D → Option Bool
  | .list ds => if shaped d = true ∧ shaped (.list ds) = true then some (ds.any fun z => PyData.eqv z d) else none
  | .tuple ds => if shaped d = true ∧ shaped (.tuple ds) = true then some (ds.any fun z => PyData.eqv z d) else none
  | .dict kvs => (keyD d).map fun k => (lookD kvs k).isSome
  | _ => none
def notInD (d e : D) : Option Bool := (inD d e).map (! ·)
abbrev inR := cmp2 inD
abbrev notInR := cmp2 notInD
theorem in_core {pins : List (Addr × Obj)} {s : Shared} {σ : L2.St} {H : Hp} {x y : V} {v u : Value} {W : Wd} {gs : GS} {B : Addr → Prop} {r1 r2 : RV} {d1 d2 : D} {b : Bool} {Q : Value → Shared → Prop} (hu : X.A.units + 65 < cLine) (I : Inv X pins σ H s) (rx : RelV x v) (ry : RelV y u)
    (S : StR X.K W H gs) (a1 : ArgR X.K B W H r1 x) (a2 : ArgR X.K B W H r2 y) (e1 : rd r1 = some d1) (e2 : rd r2 = some d2) (e3 : inD d1 d2 = some b) :
    ((∀ s', Inv X pins σ H s' → Q (.bool b) s') → wpAny (model X.prog X.w) X.A (compareOp .In v u) Q X.xe s) ∧ ((∀ s', Inv X pins σ H s' → Q (.bool (!b)) s') → wpAny (model X.prog X.w) X.A (compareOp .NotIn v u) Q X.xe s) := by
  unfold inD at e3
  split at e3
  · obtain ⟨h, rfl⟩ := ite_some e3
    obtain ⟨as, q1⟩ := Dp.reads I _ x v (a1.dp S e1 (SeqAt.canLay_of_shaped h.1)) rx
    obtain ⟨bs, q2⟩ := Dp.reads I _ y u (a2.dp S e2 (SeqAt.canLay_of_shaped h.2)) ry
    have hd := SeqAt.depth_of_shaped h.1
    have c2 := SeqAt.canLay_of_shaped h.2
    exact ⟨fun k => SeqAt.in_list_reads q2 q1 (by simpa [PyData.canLay0] using c2) (SeqAt.canLay_of_shaped h.1) (by omega) (k s I), fun k => SeqAt.notIn_list_reads q2 q1 (by simpa [PyData.canLay0] using c2) (SeqAt.canLay_of_shaped h.1) (by omega) (k s I)⟩
  · obtain ⟨h, rfl⟩ := ite_some e3
    obtain ⟨as, q1⟩ := Dp.reads I _ x v (a1.dp S e1 (SeqAt.canLay_of_shaped h.1)) rx
    obtain ⟨bs, q2⟩ := Dp.reads I _ y u (a2.dp S e2 (SeqAt.canLay_of_shaped h.2)) ry
    have hd := SeqAt.depth_of_shaped h.1
    have c2 := SeqAt.canLay_of_shaped h.2
    exact ⟨fun k => SeqAt.in_tuple_reads q2 q1 (by simpa [PyData.canLay0] using c2) (SeqAt.canLay_of_shaped h.1) (by omega) (k s I), fun k => SeqAt.notIn_tuple_reads q2 q1 (by simpa [PyData.canLay0] using c2) (SeqAt.canLay_of_shaped h.1) (by omega) (k s I)⟩
  · rename_i kvs
    cases ek : keyD d1 with
    | none => rw [ek] at e3; cases e3
    | some k =>
      rw [ek] at e3
      cases e3
      obtain ⟨p, vs, rfl, h1, h2⟩ := a2.dict S e2
      have ex : x = kV k := keyD_kV (a1.flat e1 (fun ds z => by subst z; cases ek) (fun ds z => by subst z; cases ek)) ek
      subst ex
      obtain rfl : u = Value.ref p := ry
      have ev := (h2.look k).2
      show ((∀ s', Inv X pins σ H s' → Q (.bool ((lookD kvs k).isSome)) s') → _) ∧ ((∀ s', Inv X pins σ H s' → Q (.bool (!(lookD kvs k).isSome)) s') → _)
      rw [← ev]
      exact ⟨fun q => d_in (by omega) I (DGet.k h1) rx q, fun q => d_notIn (by omega) I (DGet.k h1) rx q⟩
  · cases e3
theorem o_in (hu : X.A.units + 65 < cLine) : OpR X (compareOp .In) (rS X.K inR) := by
  intro pins s σ H x y v u Q I rx ry q
  obtain ⟨W, gs, B, r1, r2, r, S, a1, a2, e, k⟩ := q
  obtain ⟨d1, d2, b, e1, e2, e3, rfl⟩ := cmp2_some e
  exact (in_core hu I rx ry S a1 a2 e1 e2 e3).1 fun s' I' => ⟨.bl b, H, I', rfl, k _ W H .refl S (.bl _)⟩
theorem o_notIn (hu : X.A.units + 65 < cLine) : OpR X (compareOp .NotIn) (rS X.K notInR) := by
  intro pins s σ H x y v u Q I rx ry q
  obtain ⟨W, gs, B, r1, r2, r, S, a1, a2, e, k⟩ := q
  obtain ⟨d1, d2, b, e1, e2, e3, rfl⟩ := cmp2_some e
  unfold notInD at e3
  cases e4 : inD d1 d2 with
  | none => rw [e4] at e3; cases e3
  | some b' =>
    rw [e4] at e3
    cases e3
    exact (in_core hu I rx ry S a1 a2 e1 e2 e4).2 fun s' I' => ⟨.bl (!b'), H, I', rfl, k _ W H .refl S (.bl _)⟩
end
end PL
set_option Elab.async false
set_option linter.all false
set_option maxRecDepth 100000
set_option maxHeartbeats 2000000
/-! PLd: argument lists, displays, calls of built-ins, calls of defs. -/
namespace PL
open PySem PySem.Spec PyProof.Rows L2

/-! ### argument lists -/
def ArgsR (K : PySem.W.Frag) (B : Addr → Prop) (W : Wd) (H : Hp) : List RV → List V → Prop
  | [], [] => True
  | r :: rs, v :: vs => ArgR K B W H r v ∧ ArgsR K B W H rs vs
  | _, _ => False
section
variable {K : PySem.W.Frag} {E : XK} {B : Addr → Prop} {W W1 : Wd} {H H1 : Hp} {gs : GS}
theorem ArgsR.length : ∀ {rs : List RV} {vs : List V}, ArgsR K B W H rs vs → rs.length = vs.length
  | [], [], _ => rfl
  | _ :: rs, _ :: vs, h => by rw [List.length_cons, List.length_cons, ArgsR.length h.2]
  | [], _ :: _, h => h.elim
  | _ :: _, [], h => h.elim
theorem ArgsR.step (s : Step NoB W W1 H H1) : ∀ {rs : List RV} {vs : List V}, ArgsR K B W H rs vs → ArgsR K B W1 H1 rs vs
  | [], [], _ => trivial
  | _ :: rs, _ :: vs, h => ⟨h.1.step s, ArgsR.step s h.2⟩
  | [], _ :: _, h => h.elim
  | _ :: _, [], h => h.elim
theorem ArgsR.get : ∀ {rs : List RV} {vs : List V} {i : Nat} {r : RV}, ArgsR K B W H rs vs → rs[i]? = some r → ∃ v, vs[i]? = some v ∧ ArgR K B W H r v
  | [], _, _, _, _, e => by simp at e
  | _ :: _, [], _, _, h, _ => h.elim
  | _ :: _, _ :: _, 0, r, h, e => by simp at e; subst e; exact ⟨_, rfl, h.1⟩
  | _ :: rs, _ :: vs, i + 1, r, h, e => by
    obtain ⟨v, e1, e2⟩ := ArgsR.get (i := i) h.2 (by simpa using e)
    exact ⟨v, by simpa using e1, e2⟩
end
def tXA (K : PySem.W.Frag) (E : XK) (g : Sl → M (List RV)) : TA := fun σ H Q => ∃ W ρ gs, StR K W H gs ∧ EnvR K W H ρ σ ∧
  post K E W H (fun rs W' H' _ => ∀ vs, ArgsR K (Os ρ σ) W' H' rs vs → Q vs H') (g ρ gs)
structure PXA (X : Cx) (E : XK) (es : List Expr) (g : Sl → M (List RV)) : Prop where
  pa : PA X es (tXA X.K E g)
theorem _root_.L2.PA.mono {X : Cx} {es : List Expr} {t t' : TA} (h : PA X es t) (m : ∀ σ H Q, t' σ H Q → t σ H Q) : PA X es t' := ⟨fun pos pins s σ H Q I q => h.run pos pins s σ H Q I (m σ H Q q)⟩
theorem tXA_use {K : PySem.W.Frag} {E : XK} {W : Wd} {H : Hp} {gs : GS} {β : Type} {ga : Sl → M (List RV)} {f : List RV → M β} {ρ : Sl} {σ : Sg} {Q : β → Wd → Hp → GS → Prop} {P : List V → Hp → Prop} (S : StR K W H gs) (Ev : EnvR K W H ρ σ) (h : post K E W H Q (bindM (ga ρ) f gs))
    (k : ∀ rs vs W1 H1 gs1, Step NoB W W1 H H1 → StR K W1 H1 gs1 → EnvR K W1 H1 ρ σ → ArgsR K (Os ρ σ) W1 H1 rs vs → post K E W1 H1 Q (f rs gs1) → P vs H1) : tXA K E ga σ H P := by
  refine ⟨W, ρ, gs, S, Ev, ?_⟩
  unfold bindM at h
  cases e : ga ρ gs with
  | ok r g1 =>
    rw [e] at h
    intro W1 H1 s1 S1 vs hv
    exact k r vs W1 H1 g1 s1 S1 (Ev.step s1) hv (post.step s1 h)
  | exc x g => rw [e] at h; exact h
  | stuck => rw [e] at h; exact h
def aNil : Sl → M (List RV) := fun _ => retM []
def aCons (ga : Sl → M RV) (gr : Sl → M (List RV)) : Sl → M (List RV) := fun ρ => useM (ga ρ) fun x => bindM (gr ρ) fun xs => retM (x :: xs)
section
variable {X : Cx} {E : XK} {e : Expr} {es : List Expr} {ga : Sl → M RV} {gr : Sl → M (List RV)} {pos p : Pos} {x : Str}
theorem xa_nil : PXA X E [] aNil := ⟨pa_nil.mono fun σ H Q q => by
  obtain ⟨W, ρ, gs, S, Ev, q⟩ := q
  exact post.done (a := ([] : List RV)) q S [] trivial⟩
theorem xa_cons (ha : PX X E e ga) (hr : PXA X E es gr) (hs : starEach (e :: es) X.env = (false, eval e X.env) :: starEach es X.env := by rfl) : PXA X E (e :: es) (aCons ga gr) :=
  ⟨(pa_cons ha.pe hr.pa hs).mono fun σ H Q q => by
    obtain ⟨W, ρ, gs, S, Ev, q⟩ := q
    refine tX_use S Ev q fun r1 v1 W1 H1 gs1 s1 S1 E1 a1 q1 => ?_
    refine tXA_use S1 E1 q1 fun rs vs W2 H2 gs2 s2 S2 E2 a2 q2 => ?_
    exact post.done (a := r1 :: rs) q2 S2 (v1 :: vs) ⟨a1.step s2, a2⟩⟩

/-! ### displays -/
def valOf : RV → Option D
  | .val d => some d
  | _ => none
def valsOf : List RV → Option (List D)
  | [] => some []
  | r :: rs => match valOf r, valsOf rs with
    | some d, some ds => some (d :: ds)
    | _, _ => none
theorem ArgsR.vals {K : PySem.W.Frag} {B : Addr → Prop} {W : Wd} {H : Hp} : ∀ {rs : List RV} {vs : List V} {ds : List D}, ArgsR K B W H rs vs → valsOf rs = some ds → RpAll K W.G vs ds
  | [], [], _, _, e => by cases e; exact .nil
  | r :: rs, v :: vs, ds, h, e => by
    unfold valsOf at e
    split at e
    · rename_i d ds' e1 e2
      cases e
      cases r with
      | val d' => cases e1; exact .cons h.1 (ArgsR.vals h.2 e2)
      | _ => cases e1
    · cases e
  | [], _ :: _, _, h, _ => h.elim
  | _ :: _, [], _, h, _ => h.elim
def xTup (ga : Sl → M (List RV)) : Sl → M RV := fun ρ => bindM (ga ρ) fun rs => liftO ((valsOf rs).bind fun ds => if ds.length ≤ sizeLine then some (.val (.tuple ds)) else none)
def xLst (ga : Sl → M (List RV)) : Sl → M RV := fun ρ => bindM (ga ρ) fun rs => liftO ((valsOf rs).bind fun ds => if ds.length ≤ sizeLine then some (.own (.list ds)) else none)
theorem bind_some {α β : Type} {o : Option α} {f : α → Option β} {b : β} (e : o.bind f = some b) : ∃ a, o = some a ∧ f a = some b := by
  cases o with
  | none => cases e
  | some a => exact ⟨a, rfl, e⟩
theorem x_tup {x1} (h : PXA X E es gr) : PX X E (.Tuple es x1 pos) (xTup gr) := ⟨(pe_tupN h.pa).mono fun σ H Q q => by
  obtain ⟨W, ρ, gs, S, Ev, q⟩ := q
  refine tXA_use S Ev q fun rs vs W1 H1 gs1 s1 S1 E1 a1 q1 => ?_
  obtain ⟨r, e, q2⟩ := post_liftO q1
  obtain ⟨ds, e1, e2⟩ := bind_some e
  obtain ⟨h, rfl⟩ := ite_some e2
  have r := a1.vals e1
  refine ⟨by rw [r.length]; exact h, fun p o hp ho => q2 _ _ (step_newF S1 hp) (S1.newF hp) _ (tup_new S1 hp ho r)⟩⟩
theorem x_lst (h : PXA X E es gr) : PX X E (.List es pos) (xLst gr) := ⟨(pe_lst h.pa).mono fun σ H Q q => by
  obtain ⟨W, ρ, gs, S, Ev, q⟩ := q
  refine tXA_use S Ev q fun rs vs W1 H1 gs1 s1 S1 E1 a1 q1 => ?_
  obtain ⟨r, e, q2⟩ := post_liftO q1
  obtain ⟨ds, e1, e2⟩ := bind_some e
  obtain ⟨h, rfl⟩ := ite_some e2
  have r := a1.vals e1
  exact ⟨by rw [r.length]; exact h, fun p hp => q2 _ _ (step_new S1 hp) (S1.new hp) _ ⟨p, rfl, own_new S1 hp r, s1.none hp⟩⟩⟩
theorem x_dict0 : PX X E (.Dict [] [] pos) (fun _ => retM (.own (.dict []))) := ⟨pe_dnewK.mono fun σ H Q q => by
  obtain ⟨W, ρ, gs, S, Ev, q⟩ := q
  exact fun p hp => q _ _ (step_new S hp) (S.new hp) _ ⟨p, rfl, ⟨⟨[], upd_same, .nil⟩, S.freeG hp, S.freeM hp⟩, hp⟩⟩

/-! ### calls of built-ins -/
def rC (K : PySem.W.Frag) (g : List RV → Option RV) : List V → Hp → VK → Prop := fun vs H Q => ∃ W gs B rs r, StR K W H gs ∧ ArgsR K B W H rs vs ∧ g rs = some r ∧
  ∀ z W' H', Step NoB W W' H H' → StR K W' H' gs → RVR K B H W' H' r z → Q z H'
def xCall (f : List RV → Option RV) (ga : Sl → M (List RV)) : Sl → M RV := fun ρ => bindM (ga ρ) fun rs => liftO (f rs)
theorem tX_call {K : PySem.W.Frag} {f : List RV → Option RV} {σ : Sg} {H : Hp} {Q : VK} (q : tX K E (xCall f gr) σ H Q) : tCB (rC K f) (tXA K E gr) σ H Q := by
  obtain ⟨W, ρ, gs, S, Ev, q⟩ := q
  refine tXA_use S Ev q fun rs vs W1 H1 gs1 s1 S1 E1 a1 q1 => ?_
  obtain ⟨r, e, q2⟩ := post_liftO q1
  exact ⟨W1, gs1, Os ρ σ, rs, r, S1, a1, e, fun z W' H' s' S' hz => q2 W' H' s' S' z (hz.back s1)⟩
theorem x_callB {id : String} {f : List RV → Option RV} (hc : CallR X (.builtin id) (rC X.K f)) (hg : Gl X x) (hm : X.mg x = none) (hv : bootBuiltins x = some (.builtin id)) (ha : PXA X E (e :: es) gr) (hn : x ≠ "__name__" := by decide) (hdb : (x == ("__debug__" : Str)) = false := by decide)
    (he : starEach (e :: es) X.env = (false, eval e X.env) :: starEach es X.env := by rfl) (hpl : (backTo pos (starEach es X.env)).any (·.1) = false := by rfl) : PX X E (.Call (.Name x p) (e :: es) [] pos) (xCall f gr) :=
  ⟨(pe_callB hc hg hm hv ha.pa hn hdb he hpl).mono fun σ H Q q => tX_call q⟩
theorem x_callTy {T : String} {f : List RV → Option RV} (hc : CallR X (.type T) (rC X.K f)) (hg : Gl X x) (hm : X.mg x = none) (hv : bootBuiltins x = some (.type T)) (ha : PXA X E (e :: es) gr) (hn : x ≠ "__name__" := by decide) (hdb : (x == ("__debug__" : Str)) = false := by decide)
    (he : starEach (e :: es) X.env = (false, eval e X.env) :: starEach es X.env := by rfl) (hpl : (backTo pos (starEach es X.env)).any (·.1) = false := by rfl) : PX X E (.Call (.Name x p) (e :: es) [] pos) (xCall f gr) :=
  ⟨(pe_callTy hc hg hm hv ha.pa hn hdb he hpl).mono fun σ H Q q => tX_call q⟩
/-- a built-in of one argument -/
def one1 (f : RV → Option RV) : List RV → Option RV
  | [r] => f r
  | _ => none
theorem one1_some {f : RV → Option RV} {rs : List RV} {r : RV} (e : one1 f rs = some r) : ∃ r1, rs = [r1] ∧ f r1 = some r := by
  unfold one1 at e
  split at e
  · exact ⟨_, rfl, e⟩
  · cases e
theorem args1 {K : PySem.W.Frag} {B : Addr → Prop} {W : Wd} {H : Hp} {r1 : RV} {vs : List V} (a : ArgsR K B W H [r1] vs) : ∃ v, vs = [v] ∧ ArgR K B W H r1 v := by
  cases vs with
  | nil => exact a.elim
  | cons v t =>
    cases t with
    | nil => exact ⟨v, rfl, a.1⟩
    | cons _ _ => exact a.2.elim
theorem args2 {K : PySem.W.Frag} {B : Addr → Prop} {W : Wd} {H : Hp} {r1 r2 : RV} {vs : List V} (a : ArgsR K B W H [r1, r2] vs) : ∃ v w, vs = [v, w] ∧ ArgR K B W H r1 v ∧ ArgR K B W H r2 w := by
  cases vs with
  | nil => exact a.elim
  | cons v t =>
    obtain ⟨w, rfl, a2⟩ := args1 a.2
    exact ⟨v, w, rfl, a.1, a2⟩
/-- len -/
def lenD : D → Option Nat
  | .str z => if z.length ≤ sizeLine then some z.length else none
  | .list ds => some ds.length
  | .tuple ds => some ds.length
  | .dict kvs => some kvs.length
  | _ => none
def lenR : List RV → Option RV := one1 fun r => (rd r).bind fun d => (lenD d).map fun n => .val (.int n)
theorem RpKv.length {K : PySem.W.Frag} {G : Hp} : ∀ {vs : List (Key × V)} {kvs : List (D × D)}, RpKv K G vs kvs → vs.length = kvs.length
  | _, _, .nil => rfl
  | _, _, .cons _ _ t => by rw [List.length_cons, List.length_cons, RpKv.length t]
end
end PL
set_option Elab.async false
set_option linter.all false
set_option maxRecDepth 100000
set_option maxHeartbeats 2000000
/-! PLe: built-ins: len, tuple, list, sorted, sum, all, any, min, max, abs, int, str, isinstance, repr. -/
namespace PL
open PySem PySem.Spec PyProof.Rows L2
section
variable {X : Cx}
theorem c_len : CallR X (.builtin "len") (rC X.K lenR) := by
  intro pins s σ H vs us Q I rv q
  obtain ⟨W, gs, B, rs, r, S, a, e, k⟩ := q
  obtain ⟨r1, rfl, e⟩ := one1_some e
  obtain ⟨v, rfl, a1⟩ := args1 a
  obtain ⟨d, e1, e2⟩ := bind_some e
  have fin : ∀ n : Nat, lenD d = some n → Q (.int n) H := fun n hn => by
    rw [hn] at e2
    cases e2
    exact k _ W H .refl S (.int _)
  cases d with
  | str z =>
    obtain rfl := a1.str e1
    by_cases h : z.length ≤ sizeLine
    · exact call_len pins s σ H _ us Q I rv ⟨_, z.length, rfl, ⟨h, rfl⟩, fin _ (if_pos h)⟩
    · rw [show lenD (.str z) = none from if_neg h] at e2; cases e2
  | list ds =>
    obtain ⟨p, vs, rfl, h1, h2⟩ := a1.list S e1
    exact call_len pins s σ H _ us Q I rv ⟨_, ds.length, rfl, .inl ⟨vs, SqL.of h1, h2.length.symm⟩, fin _ rfl⟩
  | tuple ds =>
    obtain ⟨p, vs, rfl, h1, _, h2⟩ := a1.tup S e1
    exact call_len pins s σ H _ us Q I rv ⟨_, ds.length, rfl, .inr ⟨vs, h1, h2.length.symm⟩, fin _ rfl⟩
  | dict kvs =>
    obtain ⟨p, vs, rfl, h1, h2⟩ := a1.dict S e1
    exact call_lenD pins s σ H _ us Q I rv ⟨p, vs, rfl, h1, by rw [h2.length]; exact fin _ rfl⟩
  | _ => cases e2
/-- the items of a list, a tuple -/
def seqD : D → Option (List D)
  | .list ds => some ds
  | .tuple ds => some ds
  | _ => none
/-- tuple(xs) -/
def tupleR : List RV → Option RV := one1 fun r => (rd r).bind fun d => (seqD d).map fun ds => .val (.tuple ds)
theorem c_tuple : CallR X (.type "tuple") (rC X.K tupleR) := by
  intro pins s σ H vs us Q I rv q
  obtain ⟨W, gs, B, rs, r, S, a, e, k⟩ := q
  obtain ⟨r1, rfl, e⟩ := one1_some e
  obtain ⟨v, rfl, a1⟩ := args1 a
  obtain ⟨d, e1, e2⟩ := bind_some e
  cases d with
  | list ds =>
    cases e2
    obtain ⟨p, vs, rfl, h1, h2⟩ := a1.list S e1
    exact call_tupN pins s σ H _ us Q I rv ⟨p, vs, rfl, .inl ⟨SqL.of h1, fun l o hl ho => k _ _ _ (step_newF S hl) (S.newF hl) (tup_new S hl ho h2)⟩⟩
  | tuple ds =>
    cases e2
    obtain ⟨p, vs, rfl, h1, h1', h2⟩ := a1.tup S e1
    exact call_tupN pins s σ H _ us Q I rv ⟨p, vs, rfl, .inr ⟨h1, k _ W H .refl S (.tup h1'.1 h1'.2 h2)⟩⟩
  | _ => cases e2
theorem RpKv.keysV {K : PySem.W.Frag} {G : Hp} : ∀ {vs : List (Key × V)} {kvs : List (D × D)}, RpKv K G vs kvs → RpAll K G (vs.map fun p => kV p.1) (kvs.map (·.1))
  | _, _, .nil => .nil
  | _, _, .cons (k := k) e r t => by
    refine .cons ?_ (RpKv.keysV t)
    cases k with
    | int i => cases e; exact .int i
    | str x => cases e; exact .str x
    | _ => cases e
/-- list(xs) -/
def listR : List RV → Option RV := one1 fun r => (rd r).bind fun d => match d with
  | .list ds => some (.own (.list ds))
  | .tuple ds => some (.own (.list ds))
  | .dict kvs => some (.own (.list (kvs.map (·.1))))
  | _ => none
theorem c_list (hc : X.calm = true) : CallR X (.type "list") (rC X.K listR) := by
  intro pins s σ H vs us Q I rv q
  obtain ⟨W, gs, B, rs, r, S, a, e, k⟩ := q
  obtain ⟨r1, rfl, e⟩ := one1_some e
  obtain ⟨v, rfl, a1⟩ := args1 a
  obtain ⟨d, e1, e2⟩ := bind_some e
  cases d with
  | list ds =>
    cases e2
    obtain ⟨p, vs, rfl, h1, h2⟩ := a1.list S e1
    exact call_list_of pins s σ H _ us Q I rv ⟨p, vs, rfl, .inl (SqL.of h1), fun l hl => k _ _ _ (step_new S hl) (S.new hl) ⟨l, rfl, own_new S hl h2, hl⟩⟩
  | tuple ds =>
    cases e2
    obtain ⟨p, vs, rfl, h1, h1', h2⟩ := a1.tup S e1
    exact call_list_of pins s σ H _ us Q I rv ⟨p, vs, rfl, .inr h1, fun l hl => k _ _ _ (step_new S hl) (S.new hl) ⟨l, rfl, own_new S hl h2, hl⟩⟩
  | dict kvs =>
    cases e2
    obtain ⟨p, vs, rfl, h1, h2⟩ := a1.dict S e1
    exact call_listD hc pins s σ H _ us Q I rv ⟨p, vs, rfl, .inl h1, fun l hl => k _ _ _ (step_new S hl) (S.new hl) ⟨l, rfl, own_new S hl h2.keysV, hl⟩⟩
  | _ => cases e2

/-! ### sorted -/
def alikeB (ds : List D) : Bool := ds.all fun d => ds.all fun e => PySem.W.alike d e
def tupNe : D → Bool
  | .tuple (_ :: _) => true
  | _ => false
def noTup : D → Bool
  | .tuple _ => false
  | .none => false
  | _ => true
/-- data that may be sorted -/
def sortB (ds : List D) : Bool := alikeB ds && ((ds.all tupNe || ds.all noTup) && ds.all fun d => d.canLay0 && decide (d.depth ≤ 60))
def sortD (ds : List D) : List D := ds.mergeSort (PySem.W.dataLe false id)
theorem sortB_ok {ds : List D} (h : sortB ds = true) : PySem.W.AllAlike ds ∧ PySem.W.Sortable ds ∧ ∀ d ∈ ds, d.canLay0 = true ∧ d.depth ≤ 60 := by
  unfold sortB at h
  rw [Bool.and_eq_true, Bool.and_eq_true, Bool.or_eq_true] at h
  obtain ⟨h1, h2, h3⟩ := h
  refine ⟨fun d hd d' hd' => List.all_eq_true.mp (List.all_eq_true.mp h1 d hd) d' hd', ?_, fun d hd => ?_⟩
  · rcases h2 with h2 | h2
    · refine .inl fun d hd => ?_
      have q := List.all_eq_true.mp h2 d hd
      unfold tupNe at q
      split at q
      · exact ⟨_, _, rfl⟩
      · cases q
    · refine .inr fun d hd => ?_
      have q := List.all_eq_true.mp h2 d hd
      unfold noTup at q
      split at q
      · cases q
      · cases q
      · rename_i n1 n2
        exact ⟨n2, n1⟩
  · have q := List.all_eq_true.mp h3 d hd
    rw [Bool.and_eq_true] at q
    exact ⟨q.1, of_decide_eq_true q.2⟩
/-- values that stand for data -/
abbrev Sts (K : PySem.W.Frag) (G : Hp) (v : Value) (d : D) : Prop := ∃ x, RelV x v ∧ Rp K G x d
theorem each_of {K : PySem.W.Frag} {G : Hp} : ∀ {xs : List V} {us : List Value} {ds : List D}, Vals xs us → RpAll K G xs ds → PySem.W.EachIs (Sts K G) us ds
  | _, _, _, .nil, r => by cases r; exact .nil
  | _, _, _, .cons r t, q => by
    cases q with
    | cons q1 q2 => exact .cons ⟨_, r, q1⟩ (each_of t q2)
theorem of_each {K : PySem.W.Frag} {G : Hp} : ∀ {us : List Value} {ds : List D}, PySem.W.EachIs (Sts K G) us ds → ∃ xs, Vals xs us ∧ RpAll K G xs ds
  | _, _, .nil => ⟨[], .nil, .nil⟩
  | _, _, .cons ⟨x, r, q⟩ t => by
    obtain ⟨xs, h1, h2⟩ := of_each t
    exact ⟨x :: xs, .cons r h1, .cons q h2⟩
theorem each_reads {pins : List (Addr × Obj)} {σ : L2.St} {H : Hp} {s : Shared} {W : Wd} {gs : GS} (I : Inv X pins σ H s) (S : StR X.K W H gs) : ∀ {xs : List V} {us : List Value} {ds : List D}, Vals xs us → RpAll X.K W.G xs ds → (∀ d ∈ ds, d.canLay0 = true) → PySem.W.EachIs (fun v b => ∃ as, Reads s.heap v b as) us ds
  | _, _, _, .nil, r, _ => by cases r; exact .nil
  | _, _, _, .cons r t, q, h => by
    cases q with
    | cons q1 q2 =>
      exact .cons (Dp.reads I _ _ _ (Rp.dp _ _ (Rp.same S.sub _ _ q1) (h _ List.mem_cons_self)) r) (each_reads I S t q2 fun d hd => h d (List.mem_cons_of_mem _ hd))
theorem sorted_core {pins : List (Addr × Obj)} {s : Shared} {σ : L2.St} {H : Hp} {Q : VK} {v : Value} {W : Wd} {gs : GS} {xs : List V} {ds : List D} (hu : X.A.units + 200 < cLine) (I : Inv X pins σ H s) (S : StR X.K W H gs)
    (hcol : ∀ (E : Value → Shared → Prop) (R : List Value → Shared → Prop), (∀ h' tk us, (∀ b o, s.heap.get? b = some o → h'.get? b = some o) → Vals xs us → R us { s with heap := h', toks := tk }) → wpAny (model X.prog X.w) X.A.in1 (collect v) R E s)
    (hr : RpAll X.K W.G xs ds) (hl : ds.length ≤ sizeLine) (hb : sortB ds = true) (k : ∀ ys p, RpAll X.K W.G ys (sortD ds) → H p = none → Q (.ref p) (upd H p (.lst ys))) :
    wpAny (model X.prog X.w) X.A (call (.builtin "sorted") [v]) (EP X pins σ Q) X.xe s := by
  obtain ⟨hal, hk, hlay⟩ := sortB_ok hb
  refine Calls.call_function_entry PyProof.Rows.kind_sorted PyProof.Rows.plain_sorted PyProof.Rows.entry_sorted (PyProof.Rows.args_sorted1 _) ?_
  unfold Builtin.«sorted»
  refine wpAny_bind (m := checkCount "sorted" 1 1 _) (wpAny_pure ?_)
  refine wpAny_bind (hcol _ _ fun h' tk us hk' rv => ?_)
  have I1 : Inv X pins σ H { s with heap := h', toks := tk } := I.kept hk'
  have hul : us.length = ds.length := by rw [← rv.length, hr.length]
  refine wpAny_bind (wpAny_newList ?_ (by rw [hul]; exact hl))
  have hoL : (h'.push (seqObj "list" us.toArray 0)).get? h'.objs.size = some (seqObj "list" us.toArray 0) := Heap.get?_push_size _ rfl
  show wpAny _ _ _ _ _ { s with heap := h'.push (seqObj "list" us.toArray 0), toks := tk }
  have er : PySem.W.EachIs (fun v b => ∃ as, Reads (PySem.W.sortingHeap (h'.push (seqObj "list" us.toArray 0)) h'.objs.size us) v b as) us ds :=
    (each_reads I1 S rv hr fun d hd => (hlay d hd).1).mono fun v b ⟨as, q⟩ => ⟨as, PyProof.Rows.Reads.keeps (fun b o e => PySem.W.sortingHeap_old (Nat.ne_of_lt (Heap.lt_size e)) (Heap.get?_push_of_some _ e)) q⟩
  have hal' : PySem.W.AllAlike (ds.map id) := by rw [List.map_id]; exact hal
  have hk2 : PySem.W.Sortable (ds.map id) := by rw [List.map_id]; exact hk
  refine wpAny_bind (wpAny_holding (wpAny_call_entry PyProof.Rows.slot_list_sort ⟨_, hoL, rfl⟩ PyProof.Rows.entry_list_sort
    (PySem.W.list_sort_vals (κ := PySem.W.dataKind (PySem.W.sortingHeap (h'.push (seqObj "list" us.toArray 0)) h'.objs.size us) (ds.map id)) (s := { s with heap := h'.push (seqObj "list" us.toArray 0), toks := tk }) hoL
      (PySem.W.SortsAt.data (s := { s with heap := PySem.W.sortingHeap (h'.push (seqObj "list" us.toArray 0)) h'.objs.size us, toks := tk }) (PySem.W.each_map (R := fun v d => ∃ as, Reads (PySem.W.sortingHeap (h'.push (seqObj "list" us.toArray 0)) h'.objs.size us) v d as) id er) hal' hk2
        (PySem.W.bound_map (A := X.A.in1.in1) (enc := id) fun b hb => by
          have := (hlay b hb).2
          show X.A.units + 1 + 1 + b.depth < cLine
          omega))
      (by rw [hul]; exact hl) ⟨_, rfl, ?_⟩)
    (PyProof.Rows.args_list_sort _)))
  have eo := PySem.W.sortVals_data (R := Sts X.K W.G) (enc := id) false (each_of rv hr) er hal'
  obtain ⟨ys, rv2, hr2⟩ := of_each eo
  obtain ⟨e', he'⟩ := PyProof.Rows.sortedHeap_at (vs := us) (out := (PySem.W.sortVals (PySem.W.dataKind (PySem.W.sortingHeap (h'.push (seqObj "list" us.toArray 0)) h'.objs.size us) (ds.map id)) false us us).toArray) hoL
  have hlen : ys.length ≤ sizeLine := by rw [hr2.length, List.length_mergeSort]; exact hl
  refine wpAny_pure ⟨_, rfl, .ref h'.objs.size, upd H h'.objs.size (.lst ys), I1.laid (t' := tk) (fun b u e => ?_) (Nat.le_refl _)
    (show ObjOk X.prog X.w _ _ _ (.lst ys) from ⟨hlen, _, e', rv2, he'⟩), rfl, k ys _ hr2 (I1.hok.fresh (Nat.le_refl _))⟩
  have hb : b < h'.objs.size := Heap.lt_size e
  rw [PyProof.Rows.sortedHeap_old (Nat.ne_of_lt hb) (by rw [size_push']; exact Nat.lt_succ_of_lt hb)]
  exact Heap.get?_push_of_some _ e
/-- what is walked: a list, a tuple, a dict's keys -/
def itemsD : D → Option (List D)
  | .list ds => some ds
  | .tuple ds => some ds
  | .dict kvs => some (kvs.map fun p => p.1)
  | _ => none
def sortedR : List RV → Option RV := one1 fun r => (rd r).bind fun d => (itemsD d).bind fun ds => if ds.length ≤ sizeLine ∧ sortB ds = true then some (.own (.list (sortD ds))) else none
theorem c_sorted (hc : X.calm = true) (hu : X.A.units + 200 < cLine) : CallR X (.builtin "sorted") (rC X.K sortedR) := by
  intro pins s σ H vs us Q I rv q
  obtain ⟨W, gs, B, rs, r, S, a, e, k⟩ := q
  obtain ⟨r1, rfl, e⟩ := one1_some e
  obtain ⟨v, rfl, a1⟩ := args1 a
  obtain ⟨d, e1, e2⟩ := bind_some e
  obtain ⟨ds, e3, e4⟩ := bind_some e2
  obtain ⟨⟨hl, hb⟩, rfl⟩ := ite_some e4
  have fin : ∀ ys p, RpAll X.K W.G ys (sortD ds) → H p = none → Q (.ref p) (upd H p (.lst ys)) := fun ys p hr hp => k _ _ _ (step_new S hp) (S.new hp) ⟨p, rfl, own_new S hp hr, hp⟩
  cases d with
  | list ds' =>
    cases e3
    obtain ⟨p, xs, rfl, h1, h2⟩ := a1.list S e1
    obtain ⟨u, rfl, ru⟩ := vals1 rv
    cases ru
    obtain ⟨its, rv2, pl, hz⟩ := I.list (SqL.of h1)
    obtain ⟨o, n, ho, hcl, _, hd⟩ := pl
    refine sorted_core hu I S (fun E R h => ?_) h2 hl hb fin
    exact wpAny_collect_seq p (.inl rfl) ho hcl hd (fun h' hk => h h' s.toks its hk rv2) (by rw [List.size_toArray, ← rv2.length]; exact hz)
  | tuple ds' =>
    cases e3
    obtain ⟨p, xs, rfl, h1, _, h2⟩ := a1.tup S e1
    obtain ⟨u, rfl, ru⟩ := vals1 rv
    cases ru
    obtain ⟨its, rv2, pl, hz⟩ := I.tuple h1
    obtain ⟨o, ho, hcl, n, hd⟩ := pl
    refine sorted_core hu I S (fun E R h => ?_) h2 hl hb fin
    exact wpAny_collect_seq p (.inr rfl) ho hcl hd (fun h' hk => h h' s.toks its hk rv2) (by rw [List.size_toArray, ← rv2.length]; exact hz)
  | dict kvs =>
    cases e3
    obtain ⟨p, kv, rfl, h1, h2⟩ := a1.dict S e1
    obtain ⟨u, rfl, ru⟩ := vals1 rv
    cases ru
    obtain ⟨z, lo, us, rel, dd⟩ := dk_rd I.hok (.inl h1)
    obtain ⟨ep, hat⟩ := dd.dictAt
    have h16 : us.length ≤ sizeLine := by rw [← Paired.length rel]; exact z
    refine sorted_core hu I S (fun E R h => ?_) h2.keysV hl hb fin
    refine PySem.W.kdu_collect (PySem.W.kdl_dict (knd := mixKind X.prog X.w) (kvs := us) (ep := ep) lo) (I.ok.hd hc) hat h16 fun h' tk acc hk hacc => ?_
    refine h h' tk acc.toList hk ?_
    have e6 := keys_at (us := acc.toList) (vs := us) (by rw [Array.length_toList]; exact hacc.1) fun j v e => hacc.2 j v (by rw [← Array.getElem?_toList]; exact e)
    have e7 : (us.map fun p => kV p.1) = kv.map fun p => kV p.1 := by
      have := rel.keys
      rw [show (us.map fun p => kV p.1) = (us.map (·.1)).map kV by rw [List.map_map]; rfl, ← this, List.map_map]
      rfl
    rw [← e7]
    exact e6
  | _ => cases e3
end
end PL
set_option Elab.async false
set_option linter.all false
set_option maxRecDepth 100000
set_option maxHeartbeats 2000000
/-! PLf: more built-ins; defs and their calls (where no repr is running). -/
namespace PL
open PySem PySem.Spec PyProof.Rows L2
section
variable {X : Cx}
/-! ### sum, all, any, min, max, abs, int, str, repr -/
def intsOf : List D → Option (List Int)
  | [] => some []
  | .int i :: r => (intsOf r).map (i :: ·)
  | _ :: _ => none
def boolsOf : List D → Option (List Bool)
  | [] => some []
  | .bool i :: r => (boolsOf r).map (i :: ·)
  | _ :: _ => none
theorem intsOf_vals {K : PySem.W.Frag} {G : Hp} : ∀ {ds : List D} {ns : List Int} {xs : List V}, intsOf ds = some ns → RpAll K G xs ds → xs = ns.map V.int
  | [], ns, xs, e, r => by cases e; cases r; rfl
  | d :: ds, ns, xs, e, r => by
    cases r with
    | cons r1 r2 =>
      cases d with
      | int i =>
        cases q : intsOf ds with
        | none => rw [intsOf, q] at e; cases e
        | some ms =>
          rw [intsOf, q] at e
          cases e
          cases r1
          rw [List.map_cons, intsOf_vals q r2]
      | _ => cases e
theorem boolsOf_vals {K : PySem.W.Frag} {G : Hp} : ∀ {ds : List D} {ns : List Bool} {xs : List V}, boolsOf ds = some ns → RpAll K G xs ds → xs = ns.map V.bl
  | [], ns, xs, e, r => by cases e; cases r; rfl
  | d :: ds, ns, xs, e, r => by
    cases r with
    | cons r1 r2 =>
      cases d with
      | bool i =>
        cases q : boolsOf ds with
        | none => rw [boolsOf, q] at e; cases e
        | some ms =>
          rw [boolsOf, q] at e
          cases e
          cases r1
          rw [List.map_cons, boolsOf_vals q r2]
      | _ => cases e
def listOfR (r : RV) : Option (List D) := (rd r).bind fun d => match d with
  | .list ds => some ds
  | _ => none
theorem listOfR_some {r : RV} {ds : List D} (e : listOfR r = some ds) : rd r = some (.list ds) := by
  obtain ⟨d, e1, e2⟩ := bind_some e
  cases d with
  | list xs => cases e2; exact e1
  | _ => cases e2
def sumR : List RV → Option RV := one1 fun r => (listOfR r).bind fun ds => (intsOf ds).map fun ns => .val (.int ns.sum)
def allR : List RV → Option RV := one1 fun r => (listOfR r).bind fun ds => (boolsOf ds).map fun bs => .val (.bool (bs.all id))
def anyR : List RV → Option RV := one1 fun r => (listOfR r).bind fun ds => (boolsOf ds).map fun bs => .val (.bool (bs.any id))
theorem c_sum (hc : X.calm = true) : CallR X (.builtin "sum") (rC X.K sumR) := by
  intro pins s σ H vs us Q I rv q
  obtain ⟨W, gs, B, rs, r, S, a, e, k⟩ := q
  obtain ⟨r1, rfl, e⟩ := one1_some e
  obtain ⟨v, rfl, a1⟩ := args1 a
  obtain ⟨ds, e1, e2⟩ := bind_some e
  obtain ⟨p, xs, rfl, h1, h2⟩ := a1.list S (listOfR_some e1)
  cases q : intsOf ds with
  | none => rw [q] at e2; cases e2
  | some ns =>
    rw [q] at e2
    cases e2
    obtain rfl := intsOf_vals q h2
    exact cr_sum hc pins s σ H _ us Q I rv ⟨p, ns, rfl, SqL.of h1, k _ W H .refl S (.int _)⟩
theorem c_all (hc : X.calm = true) : CallR X (.builtin "all") (rC X.K allR) := by
  intro pins s σ H vs us Q I rv q
  obtain ⟨W, gs, B, rs, r, S, a, e, k⟩ := q
  obtain ⟨r1, rfl, e⟩ := one1_some e
  obtain ⟨v, rfl, a1⟩ := args1 a
  obtain ⟨ds, e1, e2⟩ := bind_some e
  obtain ⟨p, xs, rfl, h1, h2⟩ := a1.list S (listOfR_some e1)
  cases q : boolsOf ds with
  | none => rw [q] at e2; cases e2
  | some ns =>
    rw [q] at e2
    cases e2
    obtain rfl := boolsOf_vals q h2
    exact cr_all hc pins s σ H _ us Q I rv ⟨p, ns, rfl, SqL.of h1, k _ W H .refl S (.bl _)⟩
theorem c_any (hc : X.calm = true) : CallR X (.builtin "any") (rC X.K anyR) := by
  intro pins s σ H vs us Q I rv q
  obtain ⟨W, gs, B, rs, r, S, a, e, k⟩ := q
  obtain ⟨r1, rfl, e⟩ := one1_some e
  obtain ⟨v, rfl, a1⟩ := args1 a
  obtain ⟨ds, e1, e2⟩ := bind_some e
  obtain ⟨p, xs, rfl, h1, h2⟩ := a1.list S (listOfR_some e1)
  cases q : boolsOf ds with
  | none => rw [q] at e2; cases e2
  | some ns =>
    rw [q] at e2
    cases e2
    obtain rfl := boolsOf_vals q h2
    exact cr_any hc pins s σ H _ us Q I rv ⟨p, ns, rfl, SqL.of h1, k _ W H .refl S (.bl _)⟩
/-- min(xs), max(xs) of a list of ints; of two ints -/
def maxL : List Int → Int
  | [] => 0
  | [a] => a
  | a :: r => max a (maxL r)
def minL : List Int → Int
  | [] => 0
  | [a] => a
  | a :: r => min a (minL r)
theorem maxL_is : ∀ {ns : List Int} {m : Int}, m ∈ ns → (∀ y, y ∈ ns → y ≤ m) → m = maxL ns
  | [a], m, h1, _ => by simpa [maxL] using h1
  | a :: b :: r, m, h1, h2 => by
    have ha := h2 a List.mem_cons_self
    show m = max a (maxL (b :: r))
    rcases List.mem_cons.mp h1 with rfl | h1
    · have : maxL (b :: r) ≤ m := by
        have hm : ∀ (l : List Int), l ≠ [] → maxL l ∈ l := by
          intro l hl
          induction l with
          | nil => exact absurd rfl hl
          | cons x t ih =>
            cases t with
            | nil => simp [maxL]
            | cons y t' =>
              have := ih (by simp)
              show max x (maxL (y :: t')) ∈ x :: y :: t'
              rcases Int.le_total x (maxL (y :: t')) with h | h
              · rw [Int.max_eq_right h]; exact List.mem_cons_of_mem _ this
              · rw [Int.max_eq_left h]; exact List.mem_cons_self
        exact h2 _ (List.mem_cons_of_mem _ (hm _ (by simp)))
      omega
    · have := maxL_is h1 fun y hy => h2 y (List.mem_cons_of_mem _ hy)
      omega
theorem minL_is : ∀ {ns : List Int} {m : Int}, m ∈ ns → (∀ y, y ∈ ns → m ≤ y) → m = minL ns
  | [a], m, h1, _ => by simpa [minL] using h1
  | a :: b :: r, m, h1, h2 => by
    have ha := h2 a List.mem_cons_self
    show m = min a (minL (b :: r))
    rcases List.mem_cons.mp h1 with rfl | h1
    · have : m ≤ minL (b :: r) := by
        have hm : ∀ (l : List Int), l ≠ [] → minL l ∈ l := by
          intro l hl
          induction l with
          | nil => exact absurd rfl hl
          | cons x t ih =>
            cases t with
            | nil => simp [minL]
            | cons y t' =>
              have := ih (by simp)
              show min x (minL (y :: t')) ∈ x :: y :: t'
              rcases Int.le_total x (minL (y :: t')) with h | h
              · rw [Int.min_eq_left h]; exact List.mem_cons_self
              · rw [Int.min_eq_right h]; exact List.mem_cons_of_mem _ this
        exact h2 _ (List.mem_cons_of_mem _ (hm _ (by simp)))
      omega
    · have := minL_is h1 fun y hy => h2 y (List.mem_cons_of_mem _ hy)
      omega
def maxR : List RV → Option RV
  | [r1, r2] => int2 (fun i j => some (.int (if j > i then j else i))) r1 r2
  | [r] => (listOfR r).bind fun ds => (intsOf ds).bind fun ns => if 0 < ns.length then some (.val (.int (maxL ns))) else none
  | _ => none
def minR : List RV → Option RV
  | [r1, r2] => int2 (fun i j => some (.int (if j < i then j else i))) r1 r2
  | [r] => (listOfR r).bind fun ds => (intsOf ds).bind fun ns => if 0 < ns.length then some (.val (.int (minL ns))) else none
  | _ => none
theorem c_max (hc : X.calm = true) : CallR X (.builtin "max") (rC X.K maxR) := by
  intro pins s σ H vs us Q I rv q
  obtain ⟨W, gs, B, rs, r, S, a, e, k⟩ := q
  unfold maxR at e
  split at e
  · obtain ⟨v, w, rfl, a1, a2⟩ := args2 a
    obtain ⟨i, j, d, e1, e2, e3, rfl⟩ := int2_some e
    cases e3
    obtain rfl := a1.int e1
    obtain rfl := a2.int e2
    exact call_max2 hc pins s σ H _ us Q I rv ⟨i, j, rfl, k _ W H .refl S (.int _)⟩
  · obtain ⟨v, rfl, a1⟩ := args1 a
    obtain ⟨ds, e1, e2⟩ := bind_some e
    obtain ⟨ns, e3, e4⟩ := bind_some e2
    obtain ⟨hn, rfl⟩ := ite_some e4
    obtain ⟨p, xs, rfl, h1, h2⟩ := a1.list S (listOfR_some e1)
    obtain rfl := intsOf_vals e3 h2
    exact cr_max hc pins s σ H _ us Q I rv ⟨p, ns, rfl, SqL.of h1, hn, fun m hm1 hm2 => by rw [maxL_is hm1 hm2]; exact k _ W H .refl S (.int _)⟩
  · cases e
theorem c_min (hc : X.calm = true) : CallR X (.builtin "min") (rC X.K minR) := by
  intro pins s σ H vs us Q I rv q
  obtain ⟨W, gs, B, rs, r, S, a, e, k⟩ := q
  unfold minR at e
  split at e
  · obtain ⟨v, w, rfl, a1, a2⟩ := args2 a
    obtain ⟨i, j, d, e1, e2, e3, rfl⟩ := int2_some e
    cases e3
    obtain rfl := a1.int e1
    obtain rfl := a2.int e2
    exact call_min2 hc pins s σ H _ us Q I rv ⟨i, j, rfl, k _ W H .refl S (.int _)⟩
  · obtain ⟨v, rfl, a1⟩ := args1 a
    obtain ⟨ds, e1, e2⟩ := bind_some e
    obtain ⟨ns, e3, e4⟩ := bind_some e2
    obtain ⟨hn, rfl⟩ := ite_some e4
    obtain ⟨p, xs, rfl, h1, h2⟩ := a1.list S (listOfR_some e1)
    obtain rfl := intsOf_vals e3 h2
    exact cr_min hc pins s σ H _ us Q I rv ⟨p, ns, rfl, SqL.of h1, hn, fun m hm1 hm2 => by rw [minL_is hm1 hm2]; exact k _ W H .refl S (.int _)⟩
  · cases e
/-- abs(i), int(i), int(b), str(i) -/
def absR : List RV → Option RV := one1 fun r => match rd r with
  | some (.int i) => some (.val (.int (if i < 0 then -i else i)))
  | _ => none
def intR : List RV → Option RV := one1 fun r => match rd r with
  | some (.int i) => some (.val (.int i))
  | some (.bool b) => some (.val (.int (if b then 1 else 0)))
  | _ => none
def strR : List RV → Option RV := one1 fun r => match rd r with
  | some (.int i) => if i.natAbs.log2 < 1920 then some (.val (.str (toString i))) else none
  | _ => none
theorem c_abs : CallR X (.builtin "abs") (rC X.K absR) := by
  intro pins s σ H vs us Q I rv q
  obtain ⟨W, gs, B, rs, r, S, a, e, k⟩ := q
  obtain ⟨r1, rfl, e9⟩ := one1_some e
  obtain ⟨v, rfl, a1⟩ := args1 a
  split at e9
  · rename_i i e1
    cases e9
    obtain rfl := a1.int e1
    exact call_abs pins s σ H _ us Q I rv ⟨i, rfl, k _ W H .refl S (.int _)⟩
  · cases e9
theorem c_int : CallR X (.type "int") (rC X.K intR) := by
  intro pins s σ H vs us Q I rv q
  obtain ⟨W, gs, B, rs, r, S, a, e, k⟩ := q
  obtain ⟨r1, rfl, e9⟩ := one1_some e
  obtain ⟨v, rfl, a1⟩ := args1 a
  split at e9
  · rename_i i e1
    cases e9
    obtain rfl := a1.int e1
    exact call_int1 pins s σ H _ us Q I rv (.inl ⟨i, rfl, k _ W H .refl S (.int _)⟩)
  · rename_i i e1
    cases e9
    obtain rfl := a1.bl e1
    exact call_int1 pins s σ H _ us Q I rv (.inr ⟨i, rfl, k _ W H .refl S (.int _)⟩)
  · cases e9
theorem c_str : CallR X (.type "str") (rC X.K strR) := by
  intro pins s σ H vs us Q I rv q
  obtain ⟨W, gs, B, rs, r, S, a, e, k⟩ := q
  obtain ⟨r1, rfl, e9⟩ := one1_some e
  obtain ⟨v, rfl, a1⟩ := args1 a
  split at e9
  · rename_i i e1
    obtain ⟨h, rfl⟩ := ite_some e9
    obtain rfl := a1.int e1
    exact call_str_int pins s σ H _ us Q I rv ⟨i, rfl, h, k _ W H .refl S (.str _)⟩
  · cases e9
/-- repr of data -/
def reprR : List RV → Option RV := one1 fun r => (rd r).bind fun d => if d.canLay0 = true ∧ d.showable = true ∧ d.depth ≤ 60 ∧ d.shown.length ≤ sizeLine then some (.val (.str d.shown)) else none
theorem c_repr (hg : X.A.guards = some []) (hu : X.A.units + 200 < cLine) : CallR X (.builtin "repr") (rC X.K reprR) := by
  intro pins s σ H vs us Q I rv q
  obtain ⟨W, gs, B, rs, r, S, a, e, k⟩ := q
  obtain ⟨r1, rfl, e⟩ := one1_some e
  obtain ⟨v, rfl, a1⟩ := args1 a
  obtain ⟨d, e1, e2⟩ := bind_some e
  obtain ⟨⟨h1, h2, h3, h4⟩, rfl⟩ := ite_some e2
  obtain ⟨u, rfl, ru⟩ := vals1 rv
  have dp := a1.dp S e1 h1
  obtain ⟨as, q1⟩ := Dp.reads I d v u dp ru
  have big : ∀ p, u = .ref p → wpAny (model X.prog X.w) X.A (call (.builtin "repr") [u]) (EP X pins σ Q) X.xe s := fun p hp => by
    subst hp
    exact repr_of_reads' q1 h2 (PyData.noDict_hsm (PyData.hasDict_of_canLay d h1)) hg (by omega) (fun _ _ z => z) (fun h' t tk hk => ⟨.str d.shown, H, I.kept hk, ⟨t, rfl⟩, k _ W H .refl S (.str _)⟩) h4
  cases dp with
  | non => cases ru; exact PySem.P.repr_of_none ⟨.str _, H, I.tok _, ⟨_, rfl⟩, k _ W H .refl S (.str _)⟩
  | bl b =>
    cases ru
    refine PySem.P.repr_of_bool ⟨.str _, H, I.tok _, ⟨_, rfl⟩, ?_⟩
    exact k _ W H .refl S (.str _)
  | int i =>
    obtain ⟨t, rfl⟩ := ru
    exact PySem.P.repr_of_int (by simpa [PyData.showable] using h2) ⟨.str _, H, I.tok _, ⟨_, rfl⟩, k _ W H .refl S (.str _)⟩
  | str x =>
    obtain ⟨t, rfl⟩ := ru
    exact PySem.P.repr_of_str ⟨.str _, H, I.tok _, ⟨_, rfl⟩, k _ W H .refl S (.str _)⟩ (by simpa [PyData.shown] using h4)
  | lst hs ha => cases ru; exact big _ rfl
  | tup hs ha => cases ru; exact big _ rfl
end
end PL
set_option Elab.async false
set_option linter.all false
set_option maxRecDepth 100000
set_option maxHeartbeats 2000000
/-! PLg: isinstance; subscripts, slices; defs and their calls (where no repr is running). -/
namespace PL
open PySem PySem.Spec PyProof.Rows L2
section
variable {X : Cx} {E : XK} {a b e : Expr} {ga gb : Sl → M RV} {pos p q : Pos}
/-! ### isinstance -/
def tyN : D → String
  | .none => "NoneType"
  | .bool _ => "bool"
  | .int _ => "int"
  | .str _ => "str"
  | .list _ => "list"
  | .tuple _ => "tuple"
  | .dict _ => "dict"
def isT (T : String) (d : D) : Bool := tyN d == T || (tyN d == "bool" && T == "int")
theorem kit_int (d : D) : kitB (tyN d) "int" = some (isT "int" d) := by cases d <;> (simp only [tyN, isT]; decide +kernel)
theorem kit_str (d : D) : kitB (tyN d) "str" = some (isT "str" d) := by cases d <;> (simp only [tyN, isT]; decide +kernel)
theorem kit_bool (d : D) : kitB (tyN d) "bool" = some (isT "bool" d) := by cases d <;> (simp only [tyN, isT]; decide +kernel)
theorem kit_list (d : D) : kitB (tyN d) "list" = some (isT "list" d) := by cases d <;> (simp only [tyN, isT]; decide +kernel)
theorem kit_tuple (d : D) : kitB (tyN d) "tuple" = some (isT "tuple" d) := by cases d <;> (simp only [tyN, isT]; decide +kernel)
theorem kit_dict (d : D) : kitB (tyN d) "dict" = some (isT "dict" d) := by cases d <;> (simp only [tyN, isT]; decide +kernel)
theorem tyx_of {K : PySem.W.Frag} {B : Addr → Prop} {W : Wd} {H : Hp} {gs : GS} {r : RV} {x : V} {d : D} (S : StR K W H gs) (a : ArgR K B W H r x) (e : rd r = some d) : TyX K H x (.type (tyN d)) := by
  by_cases h : ∃ ds, d = .list ds
  · obtain ⟨ds, rfl⟩ := h
    obtain ⟨p, vs, rfl, h1, _⟩ := a.list S e
    exact .base (.lst h1)
  · by_cases h' : ∃ ds, d = .dict ds
    · obtain ⟨ds, rfl⟩ := h'
      obtain ⟨p, vs, rfl, h1, _⟩ := a.dict S e
      exact .base (.dK h1)
    · cases a.flat e (fun ds q => h ⟨ds, q⟩) fun ds q => h' ⟨ds, q⟩ with
      | non => exact .base .non
      | bl b => exact .base (.bl b)
      | int i => exact .base (.int i)
      | str x => exact .base (.str x)
      | lst _ _ => exact absurd ⟨_, rfl⟩ h
      | dct _ _ => exact absurd ⟨_, rfl⟩ h'
      | tup h1 _ _ =>
        rcases sameT S.sub h1 with (h1 | ⟨o, h1⟩) | ⟨o, its, n, h1, h2, _⟩
        · exact .base (.tup h1)
        · exact .fTuple h1
        · exact .kTuple h1 h2
def xIsi (f : D → Bool) (ga : Sl → M RV) : Sl → M RV := fun ρ => useM (ga ρ) fun r => liftO ((rd r).map fun d => .val (.bool (f d)))
theorem x_isi {T : Str} {T' : String} (hT : T = Str.ofString T') (hk : ∀ d, kitB (tyN d) T' = some (isT T' d)) (ha : PX X E a ga) (hg : Gl X "isinstance") (hm : X.mg "isinstance" = none) (hgT : Gl X T) (hmT : X.mg T = none) (hvT : bootBuiltins T = some (.type T')) (hn : T ≠ "__name__" := by decide) (hd : (T == ("__debug__" : Str)) = false := by decide)
    (he : starEach (a :: [.Name T q]) X.env = (false, eval a X.env) :: starEach [.Name T q] X.env := by rfl) (hpl : (backTo pos (starEach [.Name T q] X.env)).any (·.1) = false := by rfl) : PX X E (.Call (.Name "isinstance" p) [a, .Name T q] [] pos) (xIsi (isT T') ga) :=
  ⟨(pe_callB call_isi hg hm (by decide +kernel) (pa_cons ha.pe (pa_cons (pe_bltn (v := .ty T') hgT hmT hvT rfl hn hd) pa_nil) he) (by decide) (by decide) he hpl).mono fun σ H Q q => by
    obtain ⟨W, ρ, gs, S, Ev, q⟩ := q
    refine tX_use S Ev q fun r1 v1 W1 H1 gs1 s1 S1 E1 a1 q1 => ?_
    obtain ⟨r, e1, q2⟩ := post_liftO q1
    cases e2 : rd r1 with
    | none => rw [e2] at e1; cases e1
    | some d =>
      rw [e2] at e1
      cases e1
      exact ⟨v1, .ty T', _, _, _, rfl, .ty T', tyx_of S1 a1 e2, kit_ty (hk d), q2.done S1 _ (.bl _)⟩⟩
/-- isinstance(x, (S, T)) -/
theorem x_isi2 {T1 T2 : Str} {t1 t2 : String} {q1 q2 q3 : Pos} {k1 : Nat} (hk1 : ∀ d, kitB (tyN d) t1 = some (isT t1 d)) (hk2 : ∀ d, kitB (tyN d) t2 = some (isT t2 d)) (ha : PX X E a ga) (hg : Gl X "isinstance") (hm : X.mg "isinstance" = none)
    (hg1 : Gl X T1) (hm1 : X.mg T1 = none) (hv1 : bootBuiltins T1 = some (.type t1)) (hg2 : Gl X T2) (hm2 : X.mg T2 = none) (hv2 : bootBuiltins T2 = some (.type t2))
    (hn1 : T1 ≠ "__name__" := by decide) (hd1 : (T1 == ("__debug__" : Str)) = false := by decide) (hn2 : T2 ≠ "__name__" := by decide) (hd2 : (T2 == ("__debug__" : Str)) = false := by decide)
    (he : starEach (a :: [.Tuple [.Name T1 q1, .Name T2 q2] k1 q3]) X.env = (false, eval a X.env) :: starEach [.Tuple [.Name T1 q1, .Name T2 q2] k1 q3] X.env := by rfl) (hpl : (backTo pos (starEach [.Tuple [.Name T1 q1, .Name T2 q2] k1 q3] X.env)).any (·.1) = false := by rfl) :
    PX X E (.Call (.Name "isinstance" p) [a, .Tuple [.Name T1 q1, .Name T2 q2] k1 q3] [] pos) (xIsi (fun d => isT t1 d || isT t2 d) ga) :=
  ⟨(pe_callB call_isiT hg hm (by decide +kernel) (pa_cons ha.pe (pa_cons (pe_tup (pa_cons (pe_bltn (v := .ty t1) hg1 hm1 hv1 rfl hn1 hd1) (pa_cons (pe_bltn (v := .ty t2) hg2 hm2 hv2 rfl hn2 hd2) pa_nil))) pa_nil) he) (by decide) (by decide) he hpl).mono fun σ H Q q => by
    obtain ⟨W, ρ, gs, S, Ev, q⟩ := q
    refine tX_use S Ev q fun r1 v1 W1 H1 gs1 s1 S1 E1 a1 q1 => ?_
    obtain ⟨r, e1, q2⟩ := post_liftO q1
    refine ⟨by show 2 ≤ sizeLine; decide, fun tp htp => ?_⟩
    cases e2 : rd r1 with
    | none => rw [e2] at e1; cases e1
    | some d =>
      rw [e2] at e1
      cases e1
      have k2 := kit_ty (K := X.K) (hk1 d)
      have k3 := kit_ty (K := X.K) (hk2 d)
      have st : Step NoB W1 W1 H1 (upd H1 tp (.tup [.ty t1, .ty t2])) := step_new S1 htp
      refine ⟨v1, tp, _, .type (tyN d), [.type t1, .type t2], isT t1 d || isT t2 d, rfl, upd_same, .cons (.ty _) (.cons (.ty _) .nil), tyx_of (S1.new htp) (a1.step st) e2, ?_, q2 _ _ st (S1.new htp) _ (.bl _)⟩
      refine kitAny_cons k2 (fun z => ?_) (fun z => by rw [z]; rfl)
      rw [z, Bool.false_or]
      exact kitAny_cons k3 (fun z => by rw [z]; exact kitAny_nil) (fun z => z)⟩

/-! ### subscripts -/
/-- an item of a list, a tuple, a text -/
def ixO (r1 r2 : RV) : Option RV := match rd r1, rd r2 with
  | some (.list ds), some (.int i) => (atI ds i).map .val
  | some (.tuple ds), some (.int i) => (atI ds i).map .val
  | some (.str z), some (.int i) => if z.length ≤ sizeLine then (atI z.cps.toList i).map fun c => .val (.str ⟨#[c]⟩) else none
  | _, _ => none
/-- a dict's value -/
def ixD (r1 r2 : RV) : Option RV := match rd r1, rd r2 with
  | some (.dict kvs), some d => (keyD d).bind fun k => (lookD kvs k).map .val
  | _, _ => none
def isDictR (r : RV) : Bool := match rd r with
  | some (.dict _) => true
  | _ => false
/-- a part of the stream -/
def ixS (r2 : RV) (ns : List Int) (c k : Int) : Option RV := match rd r2 with
  | some (.int 0) => some (.val (.list (ns.map .int)))
  | some (.int 1) => some (.val (.int c))
  | some (.int 2) => some (.val (.int k))
  | _ => none
def ixM (r1 r2 : RV) : M RV := fun gs => match r1 with
  | .obj n => (match gs[n]? with
    | some (.strm ns c k) => liftO (ixS r2 ns c k) gs
    | none => .stuck)
  | _ => if isDictR r1 = true then liftO (ixD r1 r2) gs else liftO (ixO r1 r2) gs
def xIx (ga gb : Sl → M RV) : Sl → M RV := fun ρ => useM (ga ρ) fun x => useM (gb ρ) fun y => ixM x y
theorem RpAll.at {K : PySem.W.Frag} {G : Hp} {vs : List V} {ds : List D} {i : Int} {d : D} (r : RpAll K G vs ds) (e : atI ds i = some d) : ∃ v, atI vs i = some v ∧ Rp K G v d := by
  unfold atI at e ⊢
  rw [r.length]
  cases q : ixN ds.length i with
  | none => rw [q] at e; cases e
  | some j => rw [q] at e; exact r.get e
theorem map_some {α β : Type} {o : Option α} {f : α → β} {b : β} (e : o.map f = some b) : ∃ a, o = some a ∧ f a = b := by
  cases o with
  | none => cases e
  | some a => exact ⟨a, rfl, Option.some.inj e⟩
theorem rp_ints {K : PySem.W.Frag} {G : Hp} : ∀ ns : List Int, RpAll K G (ns.map V.int) (ns.map PyData.int)
  | [] => .nil
  | n :: ns => .cons (.int n) (rp_ints ns)
theorem ix_obj {K : PySem.W.Frag} {B : Addr → Prop} {W : Wd} {H : Hp} {gs : GS} {n : Nat} {r2 : RV} {x y : V} {Q : VK} (S : StR K W H gs) (a1 : ArgR K B W H (.obj n) x) (a2 : ArgR K B W H r2 y) (h : postV K E B W H Q (ixM (.obj n) r2 gs)) : rIx K x y H Q := by
  obtain ⟨pa, pl, rfl, hn⟩ := a1
  have h' : postV K E B W H Q (match gs[n]? with
    | some (.strm ns c k) => liftO (ixS r2 ns c k) gs
    | none => .stuck) := h
  split at h'
  · rename_i ns c k e1
    obtain ⟨a', l', e3, e4, e5, _⟩ := SOk.get S.st e1
    rw [hn] at e3
    cases e3
    obtain ⟨r, e6, q⟩ := post_liftO h'
    have q := q.done S
    unfold ixS at e6
    split at e6
    · rename_i e2
      cases e6
      obtain rfl := a2.int e2
      exact .inl ⟨pa, _, 0, _, rfl, rfl, SqL.of e4, rfl, q _ (.lst e5 (rp_ints ns))⟩
    · rename_i e2
      cases e6
      obtain rfl := a2.int e2
      exact .inl ⟨pa, _, 1, _, rfl, rfl, SqL.of e4, rfl, q _ (.int _)⟩
    · rename_i e2
      cases e6
      obtain rfl := a2.int e2
      exact .inl ⟨pa, _, 2, _, rfl, rfl, SqL.of e4, rfl, q _ (.int _)⟩
    · cases e6
  · exact h'.elim
theorem ix_seqR {K : PySem.W.Frag} {B : Addr → Prop} {W : Wd} {H : Hp} {gs : GS} {r1 r2 r : RV} {x y : V} {Q : VK} (S : StR K W H gs) (a1 : ArgR K B W H r1 x) (a2 : ArgR K B W H r2 y) (e : ixO r1 r2 = some r) (q : ∀ v, RVR K B H W H r v → Q v H) : rIx K x y H Q := by
  unfold ixO at e
  split at e
  · rename_i ds i e1 e2
    obtain ⟨d, e3, rfl⟩ := map_some e
    obtain rfl := a2.int e2
    obtain ⟨p, vs, rfl, h1, h2⟩ := a1.list S e1
    obtain ⟨v, h3, h4⟩ := h2.at e3
    exact .inl ⟨p, vs, i, v, rfl, rfl, SqL.of h1, h3, q v h4⟩
  · rename_i ds i e1 e2
    obtain ⟨d, e3, rfl⟩ := map_some e
    obtain rfl := a2.int e2
    obtain ⟨p, vs, rfl, h1, _, h2⟩ := a1.tup S e1
    obtain ⟨v, h3, h4⟩ := h2.at e3
    exact .inr (.inl ⟨p, vs, i, v, rfl, rfl, h1, h3, q v h4⟩)
  · rename_i z i e1 e2
    split at e
    · rename_i hz
      obtain ⟨c, e3, rfl⟩ := map_some e
      obtain rfl := a1.str e1
      obtain rfl := a2.int e2
      exact .inr (.inr ⟨z, i, c, rfl, rfl, hz, e3, q _ (.str _)⟩)
    · cases e
  · cases e
theorem ix_dictR {K : PySem.W.Frag} {B : Addr → Prop} {W : Wd} {H : Hp} {gs : GS} {r1 r2 r : RV} {x y : V} {Q : VK} (S : StR K W H gs) (a1 : ArgR K B W H r1 x) (a2 : ArgR K B W H r2 y) (e : ixD r1 r2 = some r) (q : ∀ v, RVR K B H W H r v → Q v H) : ∃ a v, x = .ref a ∧ DGet H a y (some v) ∧ Q v H := by
  unfold ixD at e
  split at e
  · rename_i kvs d e1 e2
    obtain ⟨k, e3, e4⟩ := bind_some e
    obtain ⟨d', e5, rfl⟩ := map_some e4
    obtain ⟨p, vs, rfl, h1, h2⟩ := a1.dict S e1
    have ey : y = kV k := keyD_kV (a2.flat e2 (fun ds z => by subst z; cases e3) fun ds z => by subst z; cases e3) e3
    subst ey
    obtain ⟨v, h3, h4⟩ := (h2.look k).1 d' e5
    exact ⟨p, v, rfl, by rw [← h3]; exact DGet.k h1, q v h4⟩
  · cases e
theorem ix_ownDict (hu : X.A.units + 1 < cLine) : IxR X (fun x y H Q => ∃ a v, x = .ref a ∧ DGet H a y (some v) ∧ Q v H) := by
  intro value slice pins s σ H x y v u Q I rx ry h hs
  obtain ⟨a, w', rfl, g, q⟩ := h
  obtain rfl : v = Value.ref a := rx
  exact tail_any (dict_typeIs I g) PySem.F.slot_dict_getitem.lookup (d_getItem hu I g ry fun w2 s2 I2 r2 => ⟨w', H, I2, r2, q⟩) hs
theorem x_ix (hu : X.A.units + 1 < cLine) (ha : PX X E a ga) (hb : PX X E b gb) (hs : PlainIx b := by exact fun _ _ => rfl) : PX X E (.Subscript a b pos) (xIx ga gb) :=
  ⟨(pe_ix (ix_seq.or (ix_ownDict hu)) ha.pe hb.pe hs).mono fun σ H Q q => by
    obtain ⟨W, ρ, gs, S, Ev, q⟩ := q
    refine tX_use S Ev q fun r1 v1 W1 H1 gs1 s1 S1 E1 a1 q1 => ?_
    refine tX_use S1 E1 q1 fun r2 v2 W2 H2 gs2 s2 S2 E2 a2 q2 => ?_
    have q3 : postV X.K E (Os ρ σ) W2 H2 Q (ixM r1 r2 gs2) := q2.imp fun a W' H' g _ _ z v hv => z v (hv.back (s1.trans0 s2))
    have a1 := a1.step s2
    cases r1 with
    | obj n => exact .inl (ix_obj S2 a1 a2 q3)
    | _ =>
      unfold ixM at q3
      dsimp only at q3
      split at q3
      · obtain ⟨r, e, q4⟩ := post_liftO q3
        exact .inr (ix_dictR S2 a1 a2 e (q4.done S2))
      · obtain ⟨r, e, q4⟩ := post_liftO q3
        exact .inl (ix_seqR S2 a1 a2 e (q4.done S2))⟩

/-! ### slices -/
def intOfR (r : RV) : Option Int := (rd r).bind fun d => match d with
  | .int i => some i
  | _ => none
theorem intOfR_some {r : RV} {i : Int} (e : intOfR r = some i) : rd r = some (.int i) := by
  obtain ⟨d, e1, e2⟩ := bind_some e
  cases d with
  | int j => cases e2; exact e1
  | _ => cases e2
def cutD {α : Type} (xs : List α) (lo hi : Option Int) : List α := (xs.drop (HT.sIx xs.length 0 lo)).take (HT.sIx xs.length xs.length hi - HT.sIx xs.length 0 lo)
theorem cutV_is (xs : List V) (lo hi : Option Int) : cutV xs lo hi = cutD xs lo hi := rfl
theorem RpAll.cut {K : PySem.W.Frag} {G : Hp} {vs : List V} {ds : List D} (lo hi : Option Int) (r : RpAll K G vs ds) : RpAll K G (cutV vs lo hi) (cutD ds lo hi) := by
  rw [cutV_is]
  unfold cutD
  rw [r.length]
  exact RpAll.take _ (RpAll.drop _ r)
def slO (r : RV) (lo hi : Option Int) : Option RV := match rd r with
  | some (.list ds) => some (.own (.list (cutD ds lo hi)))
  | some (.tuple ds) => some (.val (.tuple (cutD ds lo hi)))
  | some (.str z) => if z.length ≤ sizeLine then some (.val (.str (cutS z lo hi))) else none
  | _ => none
/-- a part of a slice -/
def pNone : Sl → M (Option Int) := fun _ => retM none
def pSome (ga : Sl → M RV) : Sl → M (Option Int) := fun ρ => useM (ga ρ) fun r => liftO ((intOfR r).map some)
def tXO (K : PySem.W.Frag) (E : XK) (g : Sl → M (Option Int)) : TO := fun σ H Q => ∃ W ρ gs, StR K W H gs ∧ EnvR K W H ρ σ ∧ post K E W H (fun b _ H' _ => Q b H') (g ρ gs)
structure PXO (X : Cx) (E : XK) (e : Option Expr) (g : Sl → M (Option Int)) : Prop where
  po : PO X e (tXO X.K E g)
theorem _root_.L2.PO.mono {e : Option Expr} {t t' : TO} (h : PO X e t) (m : ∀ σ H Q, t' σ H Q → t σ H Q) : PO X e t' := ⟨fun pins s σ H Q I q => h.run pins s σ H Q I (m σ H Q q)⟩
theorem xo_none : PXO X E none pNone := ⟨po_none.mono fun σ H Q q => by
  obtain ⟨W, ρ, gs, S, Ev, q⟩ := q
  exact post.done (a := (none : Option Int)) q S⟩
theorem xo_some (ha : PX X E a ga) : PXO X E (some a) (pSome ga) := ⟨(po_some ha.pe).mono fun σ H Q q => by
  obtain ⟨W, ρ, gs, S, Ev, q⟩ := q
  refine tX_use S Ev q fun r1 v1 W1 H1 gs1 s1 S1 E1 a1 q1 => ?_
  obtain ⟨r, e, q2⟩ := post_liftO q1
  obtain ⟨i, e1, rfl⟩ := map_some e
  exact ⟨i, a1.int (intOfR_some e1), q2.done S1⟩⟩
theorem tXO_use {K : PySem.W.Frag} {β : Type} {ga : Sl → M (Option Int)} {f : Option Int → M β} {ρ : Sl} {σ : Sg} {W : Wd} {H : Hp} {gs : GS} {Q : β → Wd → Hp → GS → Prop} {P : Option Int → Hp → Prop} (S : StR K W H gs) (Ev : EnvR K W H ρ σ) (h : post K E W H Q (bindM (ga ρ) f gs))
    (k : ∀ b W1 H1 gs1, Step NoB W W1 H H1 → StR K W1 H1 gs1 → EnvR K W1 H1 ρ σ → post K E W1 H1 Q (f b gs1) → P b H1) : tXO K E ga σ H P := by
  refine ⟨W, ρ, gs, S, Ev, ?_⟩
  unfold bindM at h
  cases e : ga ρ gs with
  | ok b g1 =>
    rw [e] at h
    exact fun W1 H1 s1 S1 => k b W1 H1 g1 s1 S1 (Ev.step s1) (post.step s1 h)
  | exc x g => rw [e] at h; exact h
  | stuck => rw [e] at h; exact h
def xSl (ga : Sl → M RV) (gl gh : Sl → M (Option Int)) : Sl → M RV := fun ρ => useM (ga ρ) fun x => bindM (gl ρ) fun lo => bindM (gh ρ) fun hi => liftO (slO x lo hi)
theorem x_sl {lo hi : Option Expr} {gl gh : Sl → M (Option Int)} {p2 : Pos} (ha : PX X E a ga) (hl : PXO X E lo gl) (hh : PXO X E hi gh) : PX X E (.Subscript a (.Slice lo hi none p2) pos) (xSl ga gl gh) :=
  ⟨(pe_slice (sl_list.or (sl_tupN.or sl_str)) ha.pe hl.po hh.po).mono fun σ H Q q => by
    obtain ⟨W, ρ, gs, S, Ev, q⟩ := q
    refine tX_use S Ev q fun r1 v1 W1 H1 gs1 s1 S1 E1 a1 q1 => ?_
    refine tXO_use S1 E1 q1 fun l W2 H2 gs2 s2 S2 E2 q2 => ?_
    refine tXO_use S2 E2 q2 fun h W3 H3 gs3 s3 S3 E3 q3 => ?_
    obtain ⟨r, e, q4⟩ := post_liftO q3
    have a1 := (a1.step s2).step s3
    have st := (s1.trans0 s2).trans0 s3
    unfold slO at e
    split at e
    · rename_i ds e1
      cases e
      obtain ⟨p, vs, rfl, h1, h2⟩ := a1.list S3 e1
      exact .inl ⟨p, vs, rfl, SqL.of h1, fun p hp => q4 _ _ (step_new S3 hp) (S3.new hp) _ ⟨p, rfl, own_new S3 hp (h2.cut l h), st.none hp⟩⟩
    · rename_i ds e1
      cases e
      obtain ⟨p, vs, rfl, h1, h1', h2⟩ := a1.tup S3 e1
      refine .inr (.inl ⟨p, vs, rfl, h1, fun hw => ?_, fun hw p o hp ho => q4 _ _ (step_newF S3 hp) (S3.newF hp) _ (tup_new S3 hp ho (h2.cut l h))⟩)
      have ec : cutD ds l h = ds := by
        rw [h2.length] at hw
        unfold cutD
        rw [hw.1, hw.2]
        simp
      exact q4.done S3 _ (by rw [ec]; exact .tup h1'.1 h1'.2 h2)
    · rename_i z e1
      obtain ⟨hz, rfl⟩ := ite_some e
      obtain rfl := a1.str e1
      exact .inr (.inr ⟨z, rfl, hz, q4.done S3 _ (.str _)⟩)
    · cases e⟩
end
end PL
set_option Elab.async false
set_option linter.all false
set_option maxRecDepth 100000
set_option maxHeartbeats 2000000
/-! PLh: what a def promises of plain data; calls of defs (where no repr is running). -/
namespace PL
open PySem PySem.Spec PyProof.Rows L2

/-! ### a def's promise: as the hand layer's, where the stack bears no repr -/
structure FnG (P : Program) (w : World) (K : PySem.W.Frag) (mg : Str → Option Value) (base : Heap) (CX : CXT) (k : Nat) (f : Addr) (fd : FuncData) (ps : List Str) (sp : Sp) : Prop where
  len : ∀ vs H Q E, sp vs H Q E → vs.length = ps.length
  go : ∀ (A : Around) (outer : List Env) (s : Shared) (H : Hp) (args : Args) (us : List Value) (vs : List V) (Q : VK) (E : XK), A.guards = some [] → Room k A → Env0 P w K mg base A outer s H → BindsTo s fd args (ps.zip us) → Vals vs us → sp vs H Q E →
    codeAny (model P w) A (.call (.ref f) args) (CR CX outer P w H s Q E) s
theorem FnG.mono {P : Program} {w : World} {K : PySem.W.Frag} {mg : Str → Option Value} {base : Heap} {CX : CXT} {j k : Nat} {f : Addr} {fd : FuncData} {ps : List Str} {sp : Sp} (F : FnG P w K mg base CX j f fd ps sp) (h : j ≤ k) :
    FnG P w K mg base CX k f fd ps sp := ⟨F.len, fun A outer s H args us vs Q E hg hr => F.go A outer s H args us vs Q E hg (hr.mono h)⟩
/-- by its body -/
theorem fnG_of {CX : CXT} {P : Program} {w : World} {K : PySem.W.Frag} {mg : Str → Option Value} {base : Heap} {k : Nat} {f : Addr} {x qual : Str} {params : Arguments} {body : List Stmt} {scope : Scope} {dvs : List V} {kws : List (Str × V)} {fd : FuncData}
    {N ps : List Str} {sp : Sp} (F : FunD K x qual params body scope dvs kws f fd) (S : FnScope N ps scope) (len : ∀ vs H Q E, sp vs H Q E → vs.length = ps.length)
    (hbody : ∀ (cdv : Value) (A : Around) (outer : List Env) (s : Shared) (H : Hp) (vs : List V) (Q : VK) (E : XK), A.guards = some [] → Room k (A.deeper (envOfC qual scope s.heap.objs.size f cdv)) → sp vs H Q E →
      ∃ t, PSs (cxOf CX P w K mg base N qual scope f cdv A outer s H E) body t ∧ t { nx := fun _ H' => Q .non H', rt := Q } (L2.start N vs) H) :
    FnG P w K mg base CX (k + 1) f fd ps sp := by
  obtain ⟨oc, od, dV, kV, doc, pm, an, cdv, ct, osl, rfl, lk, hcd, _, _⟩ := F.ex
  refine ⟨len, fun A outer s H args us vs Q E hg hr e0 hb r hsp => ?_⟩
  have atH : ∀ {b : Addr} {o : Obj}, base.get? b = some o → s.heap.get? b = some o := fun e => (e0.bs _ _ e).1
  have KX : K.In s.heap := e0.mod.kin.keeps fun b o e => atH e
  have lim : s.heap.NoLimit := e0.mod.nolimit.keeps fun b o e => atH e
  have cells : ∀ y ∈ ps.zip us, scope.names.lookup y.1 = some .local ∨ (scope.names.lookup y.1 = some .cell ∧ ((cellsFrom (s.heap.objs.size + 1) scope.names []).lookup y.1).isSome = true) := fun y hy =>
    (S.par y.1 (List.of_mem_zip (a := y.1) (b := y.2) hy).1).imp id fun q => ⟨q, PySem.W.cellsFrom_some _ _ _ (.inl q)⟩
  refine codeAny_call_function hr.depth (KX _ _ lk) rfl S.co S.gen rfl (PySem.W.codeRec_of KX hcd) (hb _ _ _ _ ?_)
  refine wpAny_newFunctionEnv_cells S.kind cells fun env he s1 x => ?_
  subst he
  refine ⟨lim.keeps x.toInCall.keep, codeAny_func ?_⟩
  obtain ⟨t, ht, hq⟩ := hbody cdv A outer s H vs Q E hg (hr.deeper _) hsp
  have I := inv_start (CX := CX) (cd := cdv) (E := E) S hr.hd e0 (len _ _ _ _ hsp) r x
  refine wpAny_mono (ht.run [] s1 (L2.start N vs) H _ I hq) (fun fl s' hs => ?_) fun e s' hs => hs
  cases fl with
  | ret u => obtain ⟨v, σ', H', J, rv, q⟩ := hs; exact ⟨v, H', J.os, J.bare, J.base, J.hok, rv, q⟩
  | next => obtain ⟨σ', H', J, q⟩ := hs; exact ⟨.non, H', J.os, J.bare, J.base, J.hok, rfl, q⟩
  | brk => obtain ⟨_, _, _, q⟩ := hs; exact q.elim
  | cont => obtain ⟨_, _, _, q⟩ := hs; exact q.elim
section
variable {X : Cx} {CX : CXT} {k : Nat} {f : Addr} {fd : FuncData} {ps : List Str} {sp : Sp} {dvs : List V} {ds : List Value} {E : XK} {x : Str} {p pos : Pos} {e : Expr} {es : List Expr} {t : TA}
theorem run_fnG {pins : List (Addr × Obj)} {σ : L2.St} {H : Hp} {s : Shared} {Q : VK} {us : List Value} {vs : List V} (F : FnG X.prog X.w X.K X.mg X.base CX k f fd ps sp) (hg : X.A.guards = some []) (hr : Room k X.A) (hb : Binds X.K fd ps ds) (hd : Vals dvs ds) (hx : Passes CX X E)
    (I : Inv X pins σ H s) (r : Vals vs us) (h : sp (vs ++ dvs) H Q E) : wpAny (model X.prog X.w) X.A (call (.ref f) us) (EP X pins σ Q) X.xe s := by
  have both := r.append hd
  have all : (us ++ ds).length = ps.length := both.length.symm.trans (F.len _ _ _ _ h)
  refine wpAny_call (codeAny_mono (F.go X.A X.stack s H ⟨us, []⟩ (us ++ ds) (vs ++ dvs) Q E hg hr I.env0 (hb s us I.kIn all) both h) fun res s' hq => ?_)
  cases res with
  | error e => exact hx pins σ H s e s' I hq
  | ok fl =>
    cases fl with
    | ret u => exact I.after hq
    | _ => exact False.elim hq
theorem pe_callG (F : FnG X.prog X.w X.K X.mg X.base CX k f fd ps sp) (hgd : X.A.guards = some []) (hr : Room k X.A) (hg : Gl X x) (hm : X.mg x = some (.ref f)) (hk : PySem.W.keepIn X.K (.ref f) = true) (hb : Binds X.K fd ps ds) (hd : Vals dvs ds) (hx : Passes CX X E)
    (ha : PA X (e :: es) t) (hdb : (x == ("__debug__" : Str)) = false := by decide) (he : starEach (e :: es) X.env = (false, eval e X.env) :: starEach es X.env := by rfl) (hpl : (backTo pos (starEach es X.env)).any (·.1) = false := by rfl) :
    PE X (.Call (.Name x p) (e :: es) [] pos) (tCall sp dvs E t) := ⟨fun pins s σ H Q I h =>
  wpAny_Call_Name_kw (ld_glob I hg hm (PySem.W.callWith_K (h₀ := X.base) I.ok.mod.kin hk (thn (ha.run pos pins s σ H _ I h) fun us s1 ⟨vs, H1, I1, r, q⟩ => ⟨I1.kIn, run_fnG F hgd hr hb hd hx I1 r q⟩) he hpl) hdb)⟩
end

/-! ### the promise by data -/
def SlotsR (K : PySem.W.Frag) (W : Wd) : List Slot → List V → Prop
  | [], [] => True
  | .val d :: r, v :: vs => Rp K W.G v d ∧ SlotsR K W r vs
  | .obj n :: r, v :: vs => (∃ a l, v = .ref a ∧ W.am[n]? = some (a, l)) ∧ SlotsR K W r vs
  | _, _ => False
/-- the def means g: a function of its arguments' data -/
def spD (K : PySem.W.Frag) (n : Nat) (g : Sl → M RV) : Sp := fun vs H Q E => vs.length = n ∧ ∃ W ss gs, StR K W H gs ∧ SlotsR K W ss vs ∧ postV K E NoB W H Q (g ss gs)
/-! ### calls -/
mutual
/-- data without lists and dicts -/
def plainD : D → Bool
  | .list _ => false
  | .dict _ => false
  | .tuple ds => plainAll ds
  | _ => true
def plainAll : List D → Bool
  | [] => true
  | d :: ds => plainD d && plainAll ds
end
def cleanR : RV → Bool
  | .val d => plainD d
  | .own (.list ds) => plainAll ds
  | .own (.dict kvs) => plainAll (kvs.map (·.2))
  | _ => false
def toSl : RV → Slot
  | .val d => .val d
  | .own d => .val d
  | .bor d => .val d
  | .obj n => .obj n
def isBor : RV → Bool
  | .bor _ => true
  | _ => false
def callM (n : Nat) (g : Sl → M RV) (rs : List RV) (dds : List D) : M RV := fun gs =>
  if rs.length + dds.length = n then (if (rs.any isBor) = true then (match g (rs.map toSl ++ dds.map .val) gs with
    | .ok r gs' => if cleanR r = true ∧ gs'.length = gs.length then .ok r gs' else .stuck
    | .exc x gs' => if gs'.length = gs.length ∧ (x.pay.all fun p => plainD p.2) = true then .exc x gs' else .stuck
    | .stuck => .stuck)
  else g (rs.map toSl ++ dds.map .val) gs) else .stuck
def xFn (n : Nat) (g : Sl → M RV) (ga : Sl → M (List RV)) (dds : List D) : Sl → M RV := fun ρ => bindM (ga ρ) fun rs => callM n g rs dds
section
variable {K : PySem.W.Frag} {E : XK} {B : Addr → Prop} {W : Wd} {H : Hp} {gs : GS}
theorem SlotsR.append {W : Wd} : ∀ {ss : List Slot} {vs : List V} {ss' : List Slot} {vs' : List V}, SlotsR K W ss vs → SlotsR K W ss' vs' → SlotsR K W (ss ++ ss') (vs ++ vs')
  | [], [], _, _, _, h => h
  | .val d :: r, v :: vs, _, _, h, h' => ⟨h.1, SlotsR.append h.2 h'⟩
  | .obj d :: r, v :: vs, _, _, h, h' => ⟨h.1, SlotsR.append h.2 h'⟩
  | [], _ :: _, _, _, h, _ => h.elim
  | .val _ :: _, [], _, _, h, _ => h.elim
  | .obj _ :: _, [], _, _, h, _ => h.elim
  | .un :: _, _, _, _, h, _ => by cases ‹List V› <;> exact h.elim
  | .own _ :: _, _, _, _, h, _ => by cases ‹List V› <;> exact h.elim
/-- the borrowed addresses -/
def Bw (rs : List RV) (vs : List V) (p : Addr) : Prop := ∃ (i : Nat) (d : D), rs[i]? = some (RV.bor d) ∧ vs[i]? = some (V.ref p)
open Classical in
noncomputable def showG (G H : Hp) (P : Addr → Prop) : Hp := fun a => if P a then H a else G a
open Classical in
noncomputable def hideG (G : Hp) (P : Addr → Prop) : Hp := fun a => if P a then none else G a
theorem showG_yes {G H : Hp} {P : Addr → Prop} {a : Addr} (h : P a) : showG G H P a = H a := by unfold showG; rw [if_pos h]
theorem showG_no {G H : Hp} {P : Addr → Prop} {a : Addr} (h : ¬ P a) : showG G H P a = G a := by unfold showG; rw [if_neg h]
theorem hideG_yes {G : Hp} {P : Addr → Prop} {a : Addr} (h : P a) : hideG G P a = none := by unfold hideG; rw [if_pos h]
theorem hideG_no {G : Hp} {P : Addr → Prop} {a : Addr} (h : ¬ P a) : hideG G P a = G a := by unfold hideG; rw [if_neg h]
theorem ArgsR.bw {rs : List RV} {vs : List V} (a : ArgsR K B W H rs vs) {p : Addr} (h : Bw rs vs p) : ∃ d, OwnAt K W H d p := by
  obtain ⟨i, d, e1, e2⟩ := h
  obtain ⟨v, e3, q⟩ := a.get e1
  rw [e2] at e3
  cases e3
  obtain ⟨p', e4, o, _⟩ := q
  cases e4
  exact ⟨d, o⟩
theorem same_show {rs : List RV} {vs : List V} (a : ArgsR K B W H rs vs) : Same W.G (showG W.G H (Bw rs vs)) := fun b o e => by
  by_cases h : Bw rs vs b
  · obtain ⟨d, q⟩ := a.bw h
    rw [q.g] at e; cases e
  · rw [showG_no h]; exact e
theorem sub_show {rs : List RV} {vs : List V} (S : StR K W H gs) : Same (showG W.G H (Bw rs vs)) H := fun b o e => by
  by_cases h : Bw rs vs b
  · rw [showG_yes h] at e; exact e
  · rw [showG_no h] at e; exact S.sub b o e
theorem StR.shown {rs : List RV} {vs : List V} (S : StR K W H gs) (a : ArgsR K B W H rs vs) : StR K ⟨showG W.G H (Bw rs vs), W.am⟩ H gs where
  sub := sub_show S
  st := SOk.keep (same_show a) (fun _ _ _ q => q) S.st
  nd := S.nd
  fr := fun p m => by
    have h : ¬ Bw rs vs p := fun h => by
      obtain ⟨d, q⟩ := a.bw h
      exact q.a m
    show showG W.G H (Bw rs vs) p = none
    rw [showG_no h]
    exact S.fr p m
theorem args_slots {rs0 : List RV} {vs0 : List V} (a0 : ArgsR K B W H rs0 vs0) : ∀ {rs : List RV} {vs : List V}, ArgsR K B W H rs vs → (∀ p, Bw rs vs p → Bw rs0 vs0 p) → SlotsR K ⟨showG W.G H (Bw rs0 vs0), W.am⟩ (rs.map toSl) vs
  | [], [], _, _ => trivial
  | r :: rs, v :: vs, h, hb => by
    have tl := args_slots a0 h.2 (fun p ⟨i, d, e1, e2⟩ => hb p ⟨i + 1, d, by simpa using e1, by simpa using e2⟩)
    cases r with
    | val d => exact ⟨Rp.same (same_show a0) _ _ h.1, tl⟩
    | own d => exact h.1.elim
    | obj n => exact ⟨h.1, tl⟩
    | bor d =>
      obtain ⟨p, rfl, o, _⟩ := h.1
      have hp : Bw rs0 vs0 p := hb p ⟨0, d, rfl, rfl⟩
      refine ⟨?_, tl⟩
      have r := o.r
      cases d with
      | list ds =>
        obtain ⟨ws, e1, e2⟩ := r
        exact .lst (show showG W.G H (Bw rs0 vs0) p = _ by rw [showG_yes hp]; exact e1) (RpAll.same (same_show a0) _ _ e2)
      | dict kvs =>
        obtain ⟨ws, e1, e2⟩ := r
        exact .dct (show showG W.G H (Bw rs0 vs0) p = _ by rw [showG_yes hp]; exact e1) (RpKv.same (same_show a0) _ _ e2)
      | _ => exact r.elim
  | [], _ :: _, h, _ => h.elim
  | _ :: _, [], h, _ => h.elim
/-- data without lists stand without them -/
def TupIn (G G' : Hp) : Prop := ∀ a xs, (G a = some (.tup xs) → G' a = some (.tup xs)) ∧ ∀ o, G a = some (.frz o (.tup xs)) → G' a = some (.frz o (.tup xs))
theorem tup_in {G G' : Hp} (t : TupIn G G') {a : Addr} {xs : List V} (h : SqT K G a xs) : SqT K G' a xs := by
  rcases h with (h | ⟨o, h⟩) | h
  · exact .inl (.inl ((t a xs).1 h))
  · exact .inl (.inr ⟨o, (t a xs).2 o h⟩)
  · exact .inr h
theorem nod_in {G G' : Hp} (t : TupIn G G') {a : Addr} (h : NoD K G a) : NoD K G' a := by
  rcases h with ⟨o, xs, h, d⟩ | h
  · exact .inl ⟨o, xs, (t a xs).2 o h, d⟩
  · exact .inr h
mutual
theorem Rp.plain {G G' : Hp} (t : TupIn G G') : ∀ (d : D) (v : V), Rp K G v d → plainD d = true → Rp K G' v d
  | .none, _, h, _ => by cases h; exact .non
  | .bool b, _, h, _ => by cases h; exact .bl b
  | .int i, _, h, _ => by cases h; exact .int i
  | .str x, _, h, _ => by cases h; exact .str x
  | .list ds, _, _, c => by simp [plainD] at c
  | .dict ds, _, _, c => by simp [plainD] at c
  | .tuple ds, _, h, c => by
    cases h with
    | tup h1 hn h2 => exact .tup (tup_in t h1) (nod_in t hn) (RpAll.plain t ds _ h2 (by simpa [plainD] using c))
theorem RpAll.plain {G G' : Hp} (t : TupIn G G') : ∀ (ds : List D) (vs : List V), RpAll K G vs ds → plainAll ds = true → RpAll K G' vs ds
  | [], _, h, _ => by cases h; exact .nil
  | d :: ds, _, h, c => by
    cases h with
    | cons h1 h2 =>
      have c' : plainD d = true ∧ plainAll ds = true := by simpa [plainAll] using c
      exact .cons (Rp.plain t d _ h1 c'.1) (RpAll.plain t ds _ h2 c'.2)
end
theorem RpKv.plain {G G' : Hp} (t : TupIn G G') : ∀ (ds : List (D × D)) (vs : List (Key × V)), RpKv K G vs ds → plainAll (ds.map (·.2)) = true → RpKv K G' vs ds
  | [], _, h, _ => by cases h; exact .nil
  | (k, d) :: ds, _, h, c => by
    cases h with
    | cons h0 h1 h2 =>
      have c' : plainD d = true ∧ plainAll (ds.map (·.2)) = true := by simpa [plainAll] using c
      exact .cons h0 (Rp.plain t d _ h1 c'.1) (RpKv.plain t ds _ h2 c'.2)
theorem SOk.hide {G G' H : Hp} : ∀ {gs : GS} {as : List (Addr × Addr)}, (∀ a l xs, (a, l) ∈ as → G l = some (.lst xs) → G' l = some (.lst xs)) → SOk K G H gs as → SOk K G' H gs as
  | [], [], _, _ => trivial
  | .strm ns c k :: r, (a, l) :: as, hk, h => ⟨⟨h.1.1, hk a l _ List.mem_cons_self h.1.2.1, h.1.2.2⟩, SOk.hide (fun a l xs hm => hk a l xs (List.mem_cons_of_mem _ hm)) h.2⟩
  | [], _ :: _, _, h => h.elim
  | .strm .. :: _, [], _, h => h.elim
theorem SOk.lists {G H : Hp} : ∀ {gs : GS} {as : List (Addr × Addr)} {a l : Addr}, SOk K G H gs as → (a, l) ∈ as → ∃ xs, G l = some (.lst xs)
  | .strm ns c k :: r, (a', l') :: as, a, l, h, hm => by
    rcases List.mem_cons.mp hm with e | hm
    · cases e; exact ⟨_, h.1.2.1⟩
    · exact SOk.lists (show SOk K G H r as from h.2) hm
  | [], [], _, _, _, hm => by cases hm
  | [], _ :: _, _, _, h, _ => h.elim
  | .strm .. :: _, [], _, _, h, _ => h.elim
/-- after a call to which own lists were lent: they are taken back -/
theorem hidden {W2 : Wd} {H2 : Hp} {gs2 : GS} {rs : List RV} {vs : List V} (S : StR K W H gs) (a : ArgsR K B W H rs vs) (st : Step NoB ⟨showG W.G H (Bw rs vs), W.am⟩ W2 H H2) (S2 : StR K W2 H2 gs2) (hl : gs2.length = gs.length) :
    Step NoB W ⟨hideG W2.G (Bw rs vs), W2.am⟩ H H2 ∧ StR K ⟨hideG W2.G (Bw rs vs), W2.am⟩ H2 gs2 ∧ TupIn W2.G (hideG W2.G (Bw rs vs)) := by
  have own : ∀ {p : Addr}, Bw rs vs p → ∃ o, H p = some o ∧ W2.G p = some o ∧ (∀ xs, o ≠ .tup xs) ∧ (∀ u xs, o ≠ .frz u (.tup xs)) ∧ W.G p = none ∧ ¬ W.mut p := fun {p} h => by
    obtain ⟨d, q⟩ := a.bw h
    have r := q.r
    have fin : ∀ {o : HO}, H p = some o → W2.G p = some o := fun {o} e => st.le.g p o (by show showG W.G H (Bw rs vs) p = _; rw [showG_yes h]; exact e)
    cases d with
    | list ds => obtain ⟨ws, e1, _⟩ := r; exact ⟨_, e1, fin e1, (fun _ z => by cases z), (fun _ _ z => by cases z), q.g, q.a⟩
    | dict ds => obtain ⟨ws, e1, _⟩ := r; exact ⟨_, e1, fin e1, (fun _ z => by cases z), (fun _ _ z => by cases z), q.g, q.a⟩
    | _ => exact r.elim
  have ham : W2.am = W.am := by
    obtain ⟨r, e⟩ := st.le.a
    have h1 := SOk.length S.st
    have h2 := SOk.length S2.st
    have e' : W2.am = W.am ++ r := e
    rw [e', List.length_append] at h2
    have : r = [] := List.length_eq_zero_iff.mp (by omega)
    rw [e', this, List.append_nil]
  have tin : TupIn W2.G (hideG W2.G (Bw rs vs)) := fun b xs => by
    by_cases h : Bw rs vs b
    · obtain ⟨o, _, e2, n1, n2, _⟩ := own h
      exact ⟨fun e => absurd (Option.some.inj (e2.symm.trans e)) (n1 xs), fun u e => absurd (Option.some.inj (e2.symm.trans e)) (n2 u xs)⟩
    · rw [hideG_no h]; exact ⟨id, fun _ => id⟩
  refine ⟨⟨⟨fun b o e => ?_, [], by rw [List.append_nil]; exact ham⟩, fun p o e m n => st.keep p o e m n, st.there, fun p o e g n => ?_, fun p o e m => ?_⟩, ⟨fun b o e => ?_, ?_, S2.nd, fun p m => ?_⟩, tin⟩
  · have h : ¬ Bw rs vs b := fun h => by
      obtain ⟨_, _, _, _, _, g, _⟩ := own h
      rw [g] at e; cases e
    show hideG W2.G (Bw rs vs) b = some o
    rw [hideG_no h]
    exact st.le.g b o (by show showG W.G H (Bw rs vs) b = _; rw [showG_no h]; exact e)
  · show hideG W2.G (Bw rs vs) p = none
    by_cases h : Bw rs vs p
    · exact hideG_yes h
    · rw [hideG_no h]
      exact st.nog p o e (by show showG W.G H (Bw rs vs) p = none; rw [showG_no h]; exact g) id
  · show ¬ p ∈ W2.am.map (·.1)
    rw [ham]; exact m
  · have e' : hideG W2.G (Bw rs vs) b = some o := e
    by_cases h : Bw rs vs b
    · rw [hideG_yes h] at e'; cases e'
    · rw [hideG_no h] at e'; exact S2.sub b o e'
  · refine SOk.hide (fun b l xs hm e => ?_) S2.st
    have h : ¬ Bw rs vs l := fun h => by
      obtain ⟨ys, e2⟩ := SOk.lists S.st (ham ▸ hm)
      obtain ⟨_, _, _, _, _, g, _⟩ := own h
      rw [g] at e2; cases e2
    show hideG W2.G (Bw rs vs) l = _
    rw [hideG_no h]; exact e
  · show hideG W2.G (Bw rs vs) p = none
    by_cases h : Bw rs vs p
    · exact hideG_yes h
    · rw [hideG_no h]; exact S2.fr p m
theorem RVR.hide {W2 : Wd} {H2 : Hp} {rs : List RV} {vs : List V} {r : RV} {v : V} (own : ∀ p, Bw rs vs p → ∃ o, H p = some o) (t : TupIn W2.G (hideG W2.G (Bw rs vs))) (c : cleanR r = true) (h : RVR K NoB H W2 H2 r v) : RVR K B H ⟨hideG W2.G (Bw rs vs), W2.am⟩ H2 r v := by
  cases r with
  | val d => exact Rp.plain t d v h c
  | bor d => cases c
  | obj n => cases c
  | own d =>
    obtain ⟨p, rfl, o, n⟩ := h
    have nb : ¬ Bw rs vs p := fun h => by
      obtain ⟨o, e⟩ := own p h
      rw [n] at e; cases e
    refine ⟨p, rfl, ⟨?_, by show hideG W2.G (Bw rs vs) p = none; rw [hideG_no nb]; exact o.g, o.a⟩, n⟩
    have q := o.r
    cases d with
    | list ds => obtain ⟨ws, e1, e2⟩ := q; exact ⟨ws, e1, RpAll.plain t _ _ e2 c⟩
    | dict ds => obtain ⟨ws, e1, e2⟩ := q; exact ⟨ws, e1, RpKv.plain t _ _ e2 c⟩
    | _ => exact q.elim
theorem RVR.noB {W2 : Wd} {H2 : Hp} {r : RV} {v : V} (h : RVR K NoB H W2 H2 r v) : RVR K B H W2 H2 r v := by
  cases r with
  | bor d => obtain ⟨p, _, _, z⟩ := h; exact z.elim
  | val d => exact h
  | own d => exact h
  | obj n => exact h
theorem slots_dds {dvs : List V} {dds : List D} (h : RpAll K W.G dvs dds) : SlotsR K W (dds.map .val) dvs := by
  induction dds generalizing dvs with
  | nil => cases h; exact trivial
  | cons d ds ih =>
    cases h with
    | cons h1 h2 => exact ⟨h1, ih h2⟩
theorem noBor_slots : ∀ {rs : List RV} {vs : List V}, ArgsR K B W H rs vs → rs.any isBor = false → SlotsR K W (rs.map toSl) vs
  | [], [], _, _ => trivial
  | r :: rs, v :: vs, h, e => by
    rw [List.any_cons, Bool.or_eq_false_iff] at e
    have tl := noBor_slots h.2 e.2
    cases r with
    | val d => exact ⟨h.1, tl⟩
    | own d => exact h.1.elim
    | obj n => exact ⟨h.1, tl⟩
    | bor d => cases e.1
  | [], _ :: _, h, _ => h.elim
  | _ :: _, [], h, _ => h.elim
theorem lookup_memP {f : Str} {z : D} : ∀ {l : List (Str × D)}, l.lookup f = some z → (f, z) ∈ l
  | [], h => nomatch h
  | (g, y) :: r, h => by
    rw [List.lookup_cons] at h
    by_cases e : (f == g) = true
    · rw [e] at h
      cases h
      rw [eq_of_beq e]
      exact List.mem_cons_self ..
    · rw [Bool.not_eq_true] at e
      rw [e] at h
      exact List.mem_cons_of_mem _ (lookup_memP h)
/-- the callee's promise at the arguments -/
theorem call_core {n : Nat} {g : Sl → M RV} {rs : List RV} {vs dvs : List V} {dds : List D} {Q : VK} (S : StR K W H gs) (a : ArgsR K B W H rs vs) (hd : ∀ G, RpAll K G dvs dds) (h : postV K E B W H Q (callM n g rs dds gs)) : spD K n g (vs ++ dvs) H Q E := by
  unfold callM at h
  by_cases hn : rs.length + dds.length = n
  · rw [if_pos hn] at h
    refine ⟨by rw [List.length_append, ← a.length, (hd W.G).length]; exact hn, ?_⟩
    cases hb : rs.any isBor with
    | false =>
      rw [if_neg (by rw [hb]; exact Bool.false_ne_true)] at h
      exact ⟨W, _, gs, S, SlotsR.append (noBor_slots a hb) (slots_dds (hd W.G)), h.imp fun r W' H' g _ _ q v hv => q v hv.noB⟩
    | true =>
      rw [if_pos hb] at h
      refine ⟨⟨showG W.G H (Bw rs vs), W.am⟩, _, gs, S.shown a, SlotsR.append (args_slots a a fun _ z => z) (slots_dds (hd _)), ?_⟩
      have own : ∀ p, Bw rs vs p → ∃ o, H p = some o := fun p hp => by
        obtain ⟨d, q⟩ := a.bw hp
        exact q.r.there
      cases e : g (rs.map toSl ++ dds.map .val) gs with
      | stuck => rw [e] at h; exact h.elim
      | ok r gs2 =>
        rw [e] at h
        have h' : postV K E B W H Q (if cleanR r = true ∧ gs2.length = gs.length then .ok r gs2 else .stuck) := h
        by_cases hc : cleanR r = true ∧ gs2.length = gs.length
        · rw [if_pos hc] at h'
          intro W2 H2 st S2 v hv
          obtain ⟨st', S2', t⟩ := hidden S a st S2 hc.2
          exact h' _ _ st' S2' v (RVR.hide own t hc.1 hv)
        · rw [if_neg hc] at h'; exact h'.elim
      | exc x gs2 =>
        rw [e] at h
        have h' : postV K E B W H Q (if gs2.length = gs.length ∧ (x.pay.all fun p => plainD p.2) = true then .exc x gs2 else .stuck) := h
        by_cases hc : gs2.length = gs.length ∧ (x.pay.all fun p => plainD p.2) = true
        · rw [if_pos hc] at h'
          intro cls dd W2 H2 st S2 hv
          obtain ⟨st', S2', t⟩ := hidden S a st S2 hc.1
          refine h' cls dd _ _ st' S2' ⟨hv.cl, ?_⟩
          obtain ⟨d, fs, e1, e2, e3⟩ := hv.pa
          refine ⟨d, fs, e1, e2, fun f z hz => ?_⟩
          obtain ⟨v, l, r⟩ := e3 f z hz
          exact ⟨v, l, Rp.plain t z v r (List.all_eq_true.mp hc.2 (f, z) (lookup_memP hz))⟩
        · rw [if_neg hc] at h'; exact h'.elim
  · rw [if_neg hn] at h; exact h.elim
end
section
variable {X : Cx} {CX : CXT} {k n : Nat} {f : Addr} {fd : FuncData} {ps : List Str} {g : Sl → M RV} {dvs : List V} {dds : List D} {ds : List Value} {E : XK} {x : Str} {p pos : Pos} {e : Expr} {es : List Expr} {ga : Sl → M (List RV)}
theorem x_fn (F : FnG X.prog X.w X.K X.mg X.base CX k f fd ps (spD X.K n g)) (hgd : X.A.guards = some []) (hr : Room k X.A) (hg : Gl X x) (hm : X.mg x = some (.ref f)) (hk : PySem.W.keepIn X.K (.ref f) = true) (hb : Binds X.K fd ps ds) (hd : Vals dvs ds) (hdd : ∀ G, RpAll X.K G dvs dds) (hx : Passes CX X E)
    (ha : PXA X E (e :: es) ga) (hdb : (x == ("__debug__" : Str)) = false := by decide) (he : starEach (e :: es) X.env = (false, eval e X.env) :: starEach es X.env := by rfl) (hpl : (backTo pos (starEach es X.env)).any (·.1) = false := by rfl) :
    PX X E (.Call (.Name x p) (e :: es) [] pos) (xFn n g ga dds) :=
  ⟨(pe_callG F hgd hr hg hm hk hb hd hx ha.pa hdb he hpl).mono fun σ H Q q => by
    obtain ⟨W, ρ, gs, S, Ev, q⟩ := q
    refine tXA_use S Ev q fun rs vs W1 H1 gs1 s1 S1 E1 a1 q1 => ?_
    exact call_core S1 a1 hdd (q1.imp fun a W' H' g _ _ z v hv => z v (hv.back s1))⟩
end
end PL
set_option Elab.async false
set_option linter.all false
set_option maxRecDepth 100000
set_option maxHeartbeats 2000000
/-! PLi: statements. -/
namespace PL
open PySem PySem.Spec PyProof.Rows L2

inductive Out where
  | nx (ρ : Sl) | ret (r : RV) | brk (ρ : Sl) | cnt (ρ : Sl)
/-- a value that is handed back -/
def RetR (K : PySem.W.Frag) (Bs : Addr → Prop) (H : Hp) (W' : Wd) (H' : Hp) : RV → V → Prop
  | .val d, v => Rp K W'.G v d
  | .own d, v => ∃ p, v = .ref p ∧ OwnAt K W' H' d p ∧ (H p = none ∨ Bs p)
  | .bor _, _ => False
  | .obj n, v => ∃ a l, v = .ref a ∧ W'.am[n]? = some (a, l)
/-- what the slots own comes from what they owned, or is new -/
def OsIn (ρ : Sl) (σ : Sg) (ρ' : Sl) (σ' : Sg) (H : Hp) : Prop := ∀ p, Os ρ' σ' p → Os ρ σ p ∨ H p = none
def on (K : PySem.W.Frag) (ρ : Sl) (σ : Sg) (W : Wd) (H : Hp) (ρ' : Sl) (gs' : GS) (N : L2.St → Hp → Prop) : Prop :=
  ∀ σ' W' H', Step (Os ρ σ) W W' H H' → OsIn ρ σ ρ' σ' H → StR K W' H' gs' → EnvR K W' H' ρ' σ' → N σ' H'
def postS (K : PySem.W.Frag) (E : XK) (D : Ends) (ρ : Sl) (σ : Sg) (W : Wd) (H : Hp) : Res Out → Prop
  | .ok (.nx ρ') gs' => on K ρ σ W H ρ' gs' D.nx
  | .ok (.brk ρ') gs' => on K ρ σ W H ρ' gs' D.bk
  | .ok (.cnt ρ') gs' => on K ρ σ W H ρ' gs' D.ct
  | .ok (.ret r) gs' => ∀ v W' H', Step (Os ρ σ) W W' H H' → StR K W' H' gs' → RetR K (Os ρ σ) H W' H' r v → D.rt v H'
  | .exc x gs' => ∀ cls dd W' H', Step (Os ρ σ) W W' H H' → StR K W' H' gs' → ExcR K W' H' x cls dd → E cls dd H'
  | .stuck => False
def tXS (K : PySem.W.Frag) (E : XK) (g : Sl → M Out) : TS := fun D σ H => ∃ W ρ gs, StR K W H gs ∧ EnvR K W H ρ σ ∧ postS K E D ρ σ W H (g ρ gs)
structure PXS (X : Cx) (E : XK) (st : Stmt) (g : Sl → M Out) : Prop where
  ps : PS X st (tXS X.K E g)
structure PXB (X : Cx) (E : XK) (st : List Stmt) (g : Sl → M Out) : Prop where
  ps : PSs X st (tXS X.K E g)
theorem _root_.L2.PS.mono {X : Cx} {e : Stmt} {t t' : TS} (h : PS X e t) (m : ∀ D σ H, t' D σ H → t D σ H) : PS X e t' := ⟨fun pins s σ H D I q => h.run pins s σ H D I (m D σ H q)⟩
theorem _root_.L2.PSs.mono {X : Cx} {e : List Stmt} {t t' : TS} (h : PSs X e t) (m : ∀ D σ H, t' D σ H → t D σ H) : PSs X e t' := ⟨fun pins s σ H D I q => h.run pins s σ H D I (m D σ H q)⟩

section
variable {K : PySem.W.Frag} {E : XK} {W W1 : Wd} {H H1 : Hp} {gs : GS} {ρ ρ1 : Sl} {σ σ1 : Sg}
theorem OsIn.refl : OsIn ρ σ ρ σ H := fun _ h => .inl h
theorem OsIn.trans {ρ2 : Sl} {σ2 : Sg} {B : Addr → Prop} (s : Step B W W1 H H1) (a : OsIn ρ σ ρ1 σ1 H) (b : OsIn ρ1 σ1 ρ2 σ2 H1) : OsIn ρ σ ρ2 σ2 H := fun p h => by
  rcases b p h with h | h
  · exact a p h
  · exact .inr (s.none h)
theorem RetR.back {r : RV} {v : V} {W' : Wd} {H' : Hp} (s : Step (Os ρ σ) W W1 H H1) (o : OsIn ρ σ ρ1 σ1 H) (h : RetR K (Os ρ1 σ1) H1 W' H' r v) : RetR K (Os ρ σ) H W' H' r v := by
  cases r with
  | own d =>
    obtain ⟨p, e, q, n⟩ := h
    rcases n with n | n
    · exact ⟨p, e, q, .inl (s.none n)⟩
    · rcases o p n with n | n
      · exact ⟨p, e, q, .inr n⟩
      · exact ⟨p, e, q, .inl n⟩
  | val d => exact h
  | bor d => exact h
  | obj n => exact h
theorem on.step {ρ' : Sl} {N : L2.St → Hp → Prop} (s : Step (Os ρ σ) W W1 H H1) (o : OsIn ρ σ ρ1 σ1 H) (h : on K ρ σ W H ρ' gs N) : on K ρ1 σ1 W1 H1 ρ' gs N := fun σ' W' H' s' o' S' E' => h σ' W' H' (s.trans s' fun p hp => o p hp) (o.trans s o') S' E'
theorem postS.step {D : Ends} {r : Res Out} (s : Step (Os ρ σ) W W1 H H1) (o : OsIn ρ σ ρ1 σ1 H) (h : postS K E D ρ σ W H r) : postS K E D ρ1 σ1 W1 H1 r := by
  cases r with
  | ok a g =>
    cases a with
    | nx ρ' => exact on.step s o h
    | brk ρ' => exact on.step s o h
    | cnt ρ' => exact on.step s o h
    | ret r => exact fun v W' H' s' S' q => h v W' H' (s.trans s' fun p hp => o p hp) S' (RetR.back s o q)
  | exc x g => exact fun cls dd W' H' s' S' X' => h cls dd W' H' (s.trans s' fun p hp => o p hp) S' X'
  | stuck => exact h
theorem postS.step0 {D : Ends} {r : Res Out} (s : Step NoB W W1 H H1) (h : postS K E D ρ σ W H r) : postS K E D ρ σ W1 H1 r := postS.step s.weak OsIn.refl h
theorem postS.nx {D : Ends} (h : postS K E D ρ σ W H (.ok (.nx ρ) gs)) (S : StR K W H gs) (Ev : EnvR K W H ρ σ) : D.nx σ H := h σ W H .refl OsIn.refl S Ev
/-- the value of m is used in a statement, as it comes -/
theorem tX_raw {ga : Sl → M RV} {f : RV → M Out} {D : Ends} {P : V → Hp → Prop} (S : StR K W H gs) (Ev : EnvR K W H ρ σ) (h : postS K E D ρ σ W H (bindM (ga ρ) f gs))
    (k : ∀ r v W1 H1 gs1, Step NoB W W1 H H1 → StR K W1 H1 gs1 → EnvR K W1 H1 ρ σ → RVR K (Os ρ σ) H W1 H1 r v → postS K E D ρ σ W H (f r gs1) → P v H1) : tX K E ga σ H P := by
  refine ⟨W, ρ, gs, S, Ev, ?_⟩
  unfold bindM at h
  cases e : ga ρ gs with
  | ok r g1 =>
    rw [e] at h
    exact fun W1 H1 s1 S1 v hv => k r v W1 H1 g1 s1 S1 (Ev.step s1) hv h
  | exc x g =>
    rw [e] at h
    exact fun cls dd W' H' s' S' X' => h cls dd W' H' s'.weak S' X'
  | stuck => rw [e] at h; exact h
theorem tX_useS {ga : Sl → M RV} {f : RV → M Out} {D : Ends} {P : V → Hp → Prop} (S : StR K W H gs) (Ev : EnvR K W H ρ σ) (h : postS K E D ρ σ W H (useM (ga ρ) f gs))
    (k : ∀ r v W1 H1 gs1, Step NoB W W1 H H1 → StR K W1 H1 gs1 → EnvR K W1 H1 ρ σ → ArgR K (Os ρ σ) W1 H1 r v → postS K E D ρ σ W1 H1 (f r gs1) → P v H1) : tX K E ga σ H P := by
  refine ⟨W, ρ, gs, S, Ev, ?_⟩
  unfold useM at h
  cases e : ga ρ gs with
  | ok r g1 =>
    rw [e] at h
    intro W1 H1 s1 S1 v hv
    obtain ⟨W2, s2, S2, a⟩ := hv.arg s1 S1
    exact k (frzV r) v W2 H1 g1 s2 S2 (Ev.step s2) a (postS.step0 s2 h)
  | exc x g =>
    rw [e] at h
    exact fun cls dd W' H' s' S' X' => h cls dd W' H' s'.weak S' X'
  | stuck => rw [e] at h; exact h
theorem tXA_useS {ga : Sl → M (List RV)} {f : List RV → M Out} {D : Ends} {P : List V → Hp → Prop} (S : StR K W H gs) (Ev : EnvR K W H ρ σ) (h : postS K E D ρ σ W H (bindM (ga ρ) f gs))
    (k : ∀ rs vs W1 H1 gs1, Step NoB W W1 H H1 → StR K W1 H1 gs1 → EnvR K W1 H1 ρ σ → ArgsR K (Os ρ σ) W1 H1 rs vs → postS K E D ρ σ W1 H1 (f rs gs1) → P vs H1) : tXA K E ga σ H P := by
  refine ⟨W, ρ, gs, S, Ev, ?_⟩
  unfold bindM at h
  cases e : ga ρ gs with
  | ok r g1 =>
    rw [e] at h
    exact fun W1 H1 s1 S1 vs hv => k r vs W1 H1 g1 s1 S1 (Ev.step s1) hv (postS.step0 s1 h)
  | exc x g =>
    rw [e] at h
    exact fun cls dd W' H' s' S' X' => h cls dd W' H' s'.weak S' X'
  | stuck => rw [e] at h; exact h
theorem tXT_useS {ga : Sl → M Bool} {f : Bool → M Out} {D : Ends} {P : Bool → Hp → Prop} (S : StR K W H gs) (Ev : EnvR K W H ρ σ) (h : postS K E D ρ σ W H (bindM (ga ρ) f gs))
    (k : ∀ b W1 H1 gs1, Step NoB W W1 H H1 → StR K W1 H1 gs1 → EnvR K W1 H1 ρ σ → postS K E D ρ σ W1 H1 (f b gs1) → P b H1) : tXT K E ga σ H P := by
  refine ⟨W, ρ, gs, S, Ev, ?_⟩
  unfold bindM at h
  cases e : ga ρ gs with
  | ok r g1 =>
    rw [e] at h
    exact fun W1 H1 s1 S1 => k r W1 H1 g1 s1 S1 (Ev.step s1) (postS.step0 s1 h)
  | exc x g =>
    rw [e] at h
    exact fun cls dd W' H' s' S' X' => h cls dd W' H' s'.weak S' X'
  | stuck => rw [e] at h; exact h

/-! ### a slot is stored -/
def SlotOk (K : PySem.W.Frag) (W : Wd) (H : Hp) (ρ : Sl) (σ : Sg) : Slot → V → Prop
  | .un, _ => False
  | .val d, v => Rp K W.G v d
  | .own d, v => ∃ p, v = .ref p ∧ OwnAt K W H d p ∧ ¬ Os ρ σ p
  | .obj n, v => ∃ a l, v = .ref a ∧ W.am[n]? = some (a, l)
theorem get_set {α : Type} {l : List α} {i j : Nat} {a b : α} (h : (l.set i a)[j]? = some b) : (i = j ∧ a = b) ∨ (i ≠ j ∧ l[j]? = some b) := by
  by_cases e : i = j
  · subst e
    by_cases hl : i < l.length
    · rw [List.getElem?_set_self hl] at h
      exact .inl ⟨rfl, Option.some.inj h⟩
    · rw [List.getElem?_eq_none (by simpa using hl)] at h
      cases h
  · rw [List.getElem?_set_ne e] at h
    exact .inr ⟨e, h⟩
theorem set_get {α : Type} {l : List α} {i : Nat} {a : α} (h : i < l.length) : (l.set i a)[i]? = some a := List.getElem?_set_self h
theorem set_get_ne {α : Type} {l : List α} {i j : Nat} {a b : α} (h : i ≠ j) (e : l[j]? = some b) : (l.set i a)[j]? = some b := by rw [List.getElem?_set_ne h]; exact e
theorem lt_of_set {α : Type} {l : List α} {i : Nat} {a b : α} (h : (l.set i a)[i]? = some b) : i < l.length := by
  have := (List.getElem?_eq_some_iff.mp h).1
  rwa [List.length_set] at this
theorem EnvR.set (Ev : EnvR K W H ρ σ) {i : Nat} {s : Slot} {v : V} (h : SlotOk K W H ρ σ s v) : EnvR K W H (ρ.set i s) (σ.set i (some v)) where
  len := by rw [List.length_set, List.length_set]; exact Ev.len
  val := fun j d e => by
    rcases get_set e with ⟨rfl, rfl⟩ | ⟨ne, e'⟩
    · exact ⟨v, set_get (by rw [← Ev.len]; exact lt_of_set e), h⟩
    · obtain ⟨w, e1, e2⟩ := Ev.val j d e'
      exact ⟨w, set_get_ne ne e1, e2⟩
  obj := fun j n e => by
    rcases get_set e with ⟨rfl, rfl⟩ | ⟨ne, e'⟩
    · obtain ⟨a, l, rfl, q⟩ := h
      exact ⟨a, l, set_get (by rw [← Ev.len]; exact lt_of_set e), q⟩
    · obtain ⟨a, l, e1, e2⟩ := Ev.obj j n e'
      exact ⟨a, l, set_get_ne ne e1, e2⟩
  own := fun j d e => by
    rcases get_set e with ⟨rfl, rfl⟩ | ⟨ne, e'⟩
    · obtain ⟨p, rfl, q, _⟩ := h
      exact ⟨p, set_get (by rw [← Ev.len]; exact lt_of_set e), q⟩
    · obtain ⟨p, e1, e2⟩ := Ev.own j d e'
      exact ⟨p, set_get_ne ne e1, e2⟩
  inj := fun j k p d e h1 h2 h3 h4 => by
    rcases get_set h1 with ⟨rfl, e1⟩ | ⟨ne, e1⟩
    · rcases get_set h2 with ⟨rfl, e2⟩ | ⟨ne2, e2⟩
      · rfl
      · subst e1
        obtain ⟨p', rfl, _, n⟩ := h
        rcases get_set h3 with ⟨_, e3⟩ | ⟨ne3, _⟩
        · cases e3
          rcases get_set h4 with ⟨z, _⟩ | ⟨_, e4⟩
          · exact z
          · exact (n ⟨k, e, e2, e4⟩).elim
        · exact absurd rfl ne3
    · rcases get_set h2 with ⟨rfl, e2⟩ | ⟨ne2, e2⟩
      · subst e2
        obtain ⟨p', rfl, _, n⟩ := h
        rcases get_set h4 with ⟨_, e4⟩ | ⟨ne4, _⟩
        · cases e4
          rcases get_set h3 with ⟨z, _⟩ | ⟨_, e3⟩
          · exact z.symm
          · exact (n ⟨j, d, e1, e3⟩).elim
        · exact absurd rfl ne4
      · rcases get_set h3 with ⟨z, _⟩ | ⟨_, e3⟩
        · exact absurd z ne
        · rcases get_set h4 with ⟨z, _⟩ | ⟨_, e4⟩
          · exact absurd z ne2
          · exact Ev.inj j k p d e e1 e2 e3 e4
/-- .. which addresses the slots own then -/
theorem Os.of_set {i : Nat} {s : Slot} {v : V} {p : Addr} (h : Os (ρ.set i s) (σ.set i (some v)) p) : Os ρ σ p ∨ (v = .ref p ∧ ∃ d, s = .own d) := by
  obtain ⟨j, d, e1, e2⟩ := h
  rcases get_set e1 with ⟨rfl, e⟩ | ⟨ne, e⟩
  · rcases get_set e2 with ⟨_, e'⟩ | ⟨z, _⟩
    · exact .inr ⟨Option.some.inj e', d, e⟩
    · exact absurd rfl z
  · rcases get_set e2 with ⟨z, _⟩ | ⟨_, e'⟩
    · exact absurd z ne
    · exact .inl ⟨j, d, e, e'⟩
theorem EnvR.fresh (Ev : EnvR K W H ρ σ) {p : Addr} (n : H p = none) : ¬ Os ρ σ p := fun h => by
  obtain ⟨d, o⟩ := Ev.os h
  obtain ⟨o', e⟩ := o.r.there
  rw [n] at e; cases e
end

/-! ### blocks -/
def sNil : Sl → M Out := fun ρ => retM (.nx ρ)
def sSeq (a b : Sl → M Out) : Sl → M Out := fun ρ => bindM (a ρ) fun o => match o with
  | .nx ρ' => b ρ'
  | o => retM o
section
variable {X : Cx} {E : XK} {st : Stmt} {sts : List Stmt} {ga gb : Sl → M Out} {e : Expr} {ge : Sl → M RV} {pos p p' : Pos} {x : Str}
theorem b_nil : PXB X E [] sNil := ⟨pss_nil.mono fun D σ H q => by
  obtain ⟨W, ρ, gs, S, Ev, q⟩ := q
  exact postS.nx q S Ev⟩
theorem tXS_seq {K : PySem.W.Frag} {D : Ends} {σ : L2.St} {H : Hp} (q : tXS K E (sSeq ga gb) D σ H) : tSeq (tXS K E ga) (tXS K E gb) D σ H := by
  obtain ⟨W, ρ, gs, S, Ev, q⟩ := q
  refine ⟨W, ρ, gs, S, Ev, ?_⟩
  unfold sSeq bindM at q
  cases e : ga ρ gs with
  | stuck => rw [e] at q; exact q
  | exc x g => rw [e] at q; exact q
  | ok o g =>
    rw [e] at q
    cases o with
    | ret r => exact q
    | brk ρ' => exact q
    | cnt ρ' => exact q
    | nx ρ' => exact fun σ' W' H' s o S' E' => ⟨W', ρ', g, S', E', postS.step s o q⟩
theorem b_cons (h1 : PXS X E st ga) (h2 : PXB X E sts gb) : PXB X E (st :: sts) (sSeq ga gb) := ⟨(pss_cons h1.ps h2.ps).mono fun D σ H q => tXS_seq q⟩
theorem b_one (h1 : PXS X E st ga) : PXB X E [st] ga := ⟨pss_one h1.ps⟩

/-! ### return, if, expressions, names -/
def asRet : RV → RV
  | .bor d => .own d
  | r => r
def sRet (ge : Sl → M RV) : Sl → M Out := fun ρ => bindM (ge ρ) fun r => retM (.ret (asRet r))
theorem s_ret (h : PX X E e ge) : PXS X E (.Return (some e) pos) (sRet ge) := ⟨(ps_ret h.pe).mono fun D σ H q => by
  obtain ⟨W, ρ, gs, S, Ev, q⟩ := q
  refine tX_raw S Ev q fun r v W1 H1 gs1 s1 S1 E1 a1 q1 => ?_
  refine q1 v W1 H1 s1.weak S1 ?_
  cases r with
  | val d => exact a1
  | own d => obtain ⟨p, rfl, o, n⟩ := a1; exact ⟨p, rfl, o, .inl n⟩
  | bor d => obtain ⟨p, rfl, o, b⟩ := a1; exact ⟨p, rfl, o, .inr b⟩
  | obj n => exact a1⟩
def sRetN : Sl → M Out := fun _ => retM (.ret (.val .none))
theorem s_retN : PXS X E (.Return none pos) sRetN := ⟨ps_retN.mono fun D σ H q => by
  obtain ⟨W, ρ, gs, S, Ev, q⟩ := q
  exact q .non W H .refl S .non⟩
def sPass : Sl → M Out := sNil
theorem s_pass : PXS X E (.Pass pos) sPass := ⟨ps_pass.mono fun D σ H q => by
  obtain ⟨W, ρ, gs, S, Ev, q⟩ := q
  exact postS.nx q S Ev⟩
theorem s_break : PXS X E (.Break pos) (fun ρ => retM (.brk ρ)) := ⟨ps_break.mono fun D σ H q => by
  obtain ⟨W, ρ, gs, S, Ev, q⟩ := q
  exact q σ W H .refl OsIn.refl S Ev⟩
theorem s_continue : PXS X E (.Continue pos) (fun ρ => retM (.cnt ρ)) := ⟨ps_continue.mono fun D σ H q => by
  obtain ⟨W, ρ, gs, S, Ev, q⟩ := q
  exact q σ W H .refl OsIn.refl S Ev⟩
def sIf (t : Sl → M Bool) (a b : Sl → M Out) : Sl → M Out := fun ρ => bindM (t ρ) fun k => if k then a ρ else b ρ
theorem s_if {c : Expr} {sa sb : List Stmt} {t : Sl → M Bool} (hc : PXT X E c t) (ha : PXB X E sa ga) (hb : PXB X E sb gb) : PXS X E (.If c sa sb pos) (sIf t ga gb) := ⟨(ps_if hc.pt ha.ps hb.ps).mono fun D σ H q => by
  obtain ⟨W, ρ, gs, S, Ev, q⟩ := q
  refine tXT_useS S Ev q fun k W1 H1 gs1 s1 S1 E1 q1 => ?_
  cases k with
  | true => rw [if_pos rfl]; exact ⟨W1, ρ, gs1, S1, E1, q1⟩
  | false => rw [if_neg Bool.false_ne_true]; exact ⟨W1, ρ, gs1, S1, E1, q1⟩⟩
/-- an expression whose value is dropped -/
def sExpr (ge : Sl → M RV) : Sl → M Out := fun ρ => bindM (ge ρ) fun _ => retM (.nx ρ)
theorem s_expr (h : PX X E e ge) (hs : swapsWith e none pos.line X.env = pure false := by rfl) : PXS X E (.Expr e pos) (sExpr ge) := ⟨(ps_expr h.pe hs).mono fun D σ H q => by
  obtain ⟨W, ρ, gs, S, Ev, q⟩ := q
  refine tX_raw S Ev q fun r v W1 H1 gs1 s1 S1 E1 a1 q1 => ?_
  exact q1 σ W1 H1 s1.weak OsIn.refl S1 E1⟩
/-- a name is stored -/
def slotV : RV → Option Slot
  | .val d => some (.val d)
  | .own d => some (.own d)
  | .obj n => some (.obj n)
  | .bor _ => none
def sSet (i : Nat) (ge : Sl → M RV) : Sl → M Out := fun ρ => bindM (ge ρ) fun r => bindM (liftO (slotV r)) fun s => retM (.nx (ρ.set i s))
/-- .. frozen: the name's list never changes -/
def sSetF (i : Nat) (ge : Sl → M RV) : Sl → M Out := fun ρ => useM (ge ρ) fun r => bindM (liftO (slotV r)) fun s => retM (.nx (ρ.set i s))
theorem set_done {K : PySem.W.Frag} {D : Ends} {ρ : Sl} {σ : Sg} {W W1 : Wd} {H H1 : Hp} {gs1 : GS} {i : Nat} {s : Slot} {v : V} (s1 : Step NoB W W1 H H1) (S1 : StR K W1 H1 gs1) (E1 : EnvR K W1 H1 ρ σ) (h : SlotOk K W1 H1 ρ σ s v) (hf : ∀ d p, s = .own d → v = .ref p → H p = none)
    (q : postS K E D ρ σ W H (.ok (.nx (ρ.set i s)) gs1)) : D.nx (σ.set i (some v)) H1 :=
  q _ W1 H1 s1.weak (fun p hp => (Os.of_set hp).imp id fun ⟨e1, d, e2⟩ => hf d p e2 e1) S1 (E1.set h)
theorem s_set {i : Nat} (hN : X.N.Nodup) (hi : X.N[i]? = some x) (hx : Loc X.env.scope x) (he : PX X E e ge) (hs : swapsWith e (some (.Name x p')) pos.line X.env = pure false := by rfl) (hf : X.fn x = true ∨ X.env.scope.names.lookup x = some .local := by first | exact .inl rfl | exact .inr rfl | assumption) :
    PXS X E (.Assign [.Name x p'] e pos) (sSet i ge) := ⟨(ps_set hN hi hx he.pe hs hf).mono fun D σ H q => by
  obtain ⟨W, ρ, gs, S, Ev, q⟩ := q
  refine tX_raw S Ev q fun r v W1 H1 gs1 s1 S1 E1 a1 q1 => ?_
  cases r with
  | val d => exact set_done (s := .val d) s1 S1 E1 a1 (fun _ _ z => by cases z) q1
  | own d =>
    obtain ⟨p, rfl, o, n⟩ := a1
    exact set_done (s := .own d) s1 S1 E1 ⟨p, rfl, o, fun h => Ev.fresh n h⟩ (fun _ _ _ z => by cases z; exact n) q1
  | obj n => exact set_done (s := .obj n) s1 S1 E1 a1 (fun _ _ z => by cases z) q1
  | bor d => exact q1.elim⟩
theorem s_setF {i : Nat} (hN : X.N.Nodup) (hi : X.N[i]? = some x) (hx : Loc X.env.scope x) (he : PX X E e ge) (hs : swapsWith e (some (.Name x p')) pos.line X.env = pure false := by rfl) (hf : X.fn x = true ∨ X.env.scope.names.lookup x = some .local := by first | exact .inl rfl | exact .inr rfl | assumption) :
    PXS X E (.Assign [.Name x p'] e pos) (sSetF i ge) := ⟨(ps_set hN hi hx he.pe hs hf).mono fun D σ H q => by
  obtain ⟨W, ρ, gs, S, Ev, q⟩ := q
  refine tX_useS S Ev q fun r v W1 H1 gs1 s1 S1 E1 a1 q1 => ?_
  cases r with
  | val d => exact set_done (s := .val d) .refl S1 E1 a1 (fun _ _ z => by cases z) q1
  | own d => exact a1.elim
  | obj n => exact set_done (s := .obj n) .refl S1 E1 a1 (fun _ _ z => by cases z) q1
  | bor d => exact q1.elim⟩
/-- a slot's own object is frozen ahead of a statement -/
def frzS : Slot → Slot
  | .own d => .val d
  | s => s
def sFrz (i : Nat) (g : Sl → M Out) : Sl → M Out := fun ρ => g (match ρ[i]? with
  | some s => ρ.set i (frzS s)
  | none => ρ)
theorem own_set {ρ : Sl} {i : Nat} {s : Slot} (e : ρ[i]? = some s) (h : frzS s = s) : ρ.set i (frzS s) = ρ := by
  rw [h]
  apply List.ext_getElem?
  intro j
  by_cases hj : i = j
  · subst hj
    rw [List.getElem?_set_self (List.getElem?_eq_some_iff.mp e).1, e]
  · rw [List.getElem?_set_ne hj]
theorem tXS_frz {K : PySem.W.Frag} {D : Ends} {σ : L2.St} {H : Hp} {i : Nat} (q : tXS K E (sFrz i ga) D σ H) : tXS K E ga D σ H := by
  obtain ⟨W, ρ, gs, S, Ev, q⟩ := q
  unfold sFrz at q
  cases e : ρ[i]? with
  | none => rw [e] at q; exact ⟨W, ρ, gs, S, Ev, q⟩
  | some s =>
    rw [e] at q
    by_cases hs : frzS s = s
    · have q' : postS K E D ρ σ W H (ga (ρ.set i (frzS s)) gs) := q
      rw [own_set e hs] at q'
      exact ⟨W, ρ, gs, S, Ev, q'⟩
    · cases s with
      | own d =>
        have q' : postS K E D ρ σ W H (ga (ρ.set i (.val d)) gs) := q
        obtain ⟨p, e1, o⟩ := Ev.own i d e
        have hO : Os ρ σ p := ⟨i, d, e, e1⟩
        have fin : ∀ ho : HO, H p = some ho → Rp K (upd W.G p ho) (.ref p) d → tXS K E ga D σ H := fun ho eh rp => by
          have st : Step (Os ρ σ) W (W.frz p ho) H H := step_frz .refl o.g (.inr hO)
          have hil : i < ρ.length := (List.getElem?_eq_some_iff.mp e).1
          have eσ : σ.set i (some (V.ref p)) = σ := by
            apply List.ext_getElem?
            intro j
            by_cases hj : i = j
            · subst hj
              rw [List.getElem?_set_self (by rw [← Ev.len]; exact hil), e1]
            · rw [List.getElem?_set_ne hj]
          have ne : ∀ (j : Nat) (d' : PyData) (p' : Addr), (ρ.set i (Slot.val d))[j]? = some (Slot.own d') → σ[j]? = some (some (V.ref p')) → p' ≠ p := fun j d' p' h1 h2 => by
            rintro rfl
            rcases get_set h1 with ⟨_, z⟩ | ⟨nj, h1⟩
            · cases z
            · exact nj (Ev.inj i j p' d d' e h1 e1 h2)
          have E2 : EnvR K (W.frz p ho) H (ρ.set i (.val d)) σ := {
            len := by rw [List.length_set]; exact Ev.len
            val := fun j d' h => by
              rcases get_set h with ⟨rfl, z⟩ | ⟨nj, h⟩
              · cases z; exact ⟨_, e1, rp⟩
              · obtain ⟨w, q1, q2⟩ := Ev.val j d' h
                exact ⟨w, q1, Rp.same (frz_same o.g) _ _ q2⟩
            obj := fun j n h => by
              rcases get_set h with ⟨rfl, z⟩ | ⟨nj, h⟩
              · cases z
              · exact Ev.obj j n h
            own := fun j d' h => by
              have h' := h
              rcases get_set h with ⟨rfl, z⟩ | ⟨nj, h⟩
              · cases z
              · obtain ⟨p', q1, q2⟩ := Ev.own j d' h
                refine ⟨p', q1, q2.r.same (frz_same o.g) fun _ z => z, ?_, q2.a⟩
                show upd W.G p ho p' = none
                rw [upd_ne (ne j d' p' h' q1)]
                exact q2.g
            inj := fun j k p' d1 d2 h1 h2 h3 h4 => by
              rcases get_set h1 with ⟨_, z⟩ | ⟨_, h1⟩
              · cases z
              · rcases get_set h2 with ⟨_, z⟩ | ⟨_, h2⟩
                · cases z
                · exact Ev.inj j k p' d1 d2 h1 h2 h3 h4 }
          refine ⟨W.frz p ho, ρ.set i (.val d), gs, S.frz o.g o.a eh, E2, postS.step st (fun p' hp => ?_) q'⟩
          obtain ⟨j, d', h1, h2⟩ := hp
          rcases get_set h1 with ⟨_, z⟩ | ⟨_, h1⟩
          · cases z
          · exact .inl ⟨j, d', h1, h2⟩
        have r := o.r
        cases d with
        | list ds =>
          obtain ⟨vs, e2, e3⟩ := r
          exact fin _ e2 (.lst upd_same (RpAll.same (frz_same o.g) _ _ e3))
        | dict kvs =>
          obtain ⟨vs, e2, e3⟩ := r
          exact fin _ e2 (.dct upd_same (RpKv.same (frz_same o.g) _ _ e3))
        | _ => exact r.elim
      | un => exact absurd rfl hs
      | val d => exact absurd rfl hs
      | obj n => exact absurd rfl hs
theorem s_frz (i : Nat) (h : PXS X E st ga) : PXS X E st (sFrz i ga) := ⟨h.ps.mono fun D σ H q => tXS_frz q⟩
end
end PL
set_option Elab.async false
set_option linter.all false
set_option maxRecDepth 100000
set_option maxHeartbeats 2000000
/-! PLj: what changes an owned object: append, extend, pop, stores. -/
namespace PL
open PySem PySem.Spec PyProof.Rows L2
section
variable {K : PySem.W.Frag} {E : XK} {W W1 : Wd} {H H1 : Hp} {gs : GS} {ρ : Sl} {σ : Sg} {p : Addr} {o' : HO} {i : Nat} {d d' : PyData}
theorem Step.write {B : Addr → Prop} (hB : B p) (n : ∀ o, H p = some o → True) : Step B W W H (upd H p o') where
  le := .refl W
  keep := fun b u e _ nb => by rw [upd_ne (fun z => by subst z; exact nb hB)]; exact e
  there := fun b u e => by
    by_cases h : b = p
    · subst h; exact ⟨o', upd_same⟩
    · exact ⟨u, by rw [upd_ne h]; exact e⟩
  nog := fun _ _ _ g _ => g
  noa := fun _ _ _ m => m
theorem StR.write (S : StR K W H gs) (g : W.G p = none) (a : ¬ W.mut p) : StR K W (upd H p o') gs where
  sub := fun b u e => by rw [upd_ne (ne_of_none e g)]; exact S.sub b u e
  st := SOk.keep (Same.refl _) (fun b u m e => by rw [upd_ne (fun z => by subst z; exact a m)]; exact e) S.st
  nd := S.nd
  fr := S.fr
theorem EnvR.write (Ev : EnvR K W H ρ σ) (e1 : ρ[i]? = some (Slot.own d)) (e2 : σ[i]? = some (some (V.ref p))) (r : OwnR K W.G (upd H p o') d' p) : EnvR K W (upd H p o') (ρ.set i (.own d')) σ := by
  obtain ⟨p0, e3, o⟩ := Ev.own i d e1
  rw [e2] at e3
  cases e3
  have hil : i < ρ.length := (List.getElem?_eq_some_iff.mp e1).1
  refine ⟨by rw [List.length_set]; exact Ev.len, fun j x h => ?_, fun j n h => ?_, fun j x h => ?_, fun j k q x y h1 h2 h3 h4 => ?_⟩
  · rcases get_set h with ⟨_, z⟩ | ⟨_, h⟩
    · cases z
    · exact Ev.val j x h
  · rcases get_set h with ⟨_, z⟩ | ⟨_, h⟩
    · cases z
    · exact Ev.obj j n h
  · rcases get_set h with ⟨rfl, z⟩ | ⟨nj, h⟩
    · cases z; exact ⟨p, e2, r, o.g, o.a⟩
    · obtain ⟨p', q1, q2⟩ := Ev.own j x h
      have ne : p' ≠ p := fun z => by subst z; exact nj (Ev.inj i j p' d x e1 h e2 q1)
      exact ⟨p', q1, q2.r.same (Same.refl _) fun u e => by rw [upd_ne ne]; exact e, q2.g, q2.a⟩
  · have fix : ∀ {j : Nat} {x : PyData}, (ρ.set i (Slot.own d'))[j]? = some (Slot.own x) → ∃ x', ρ[j]? = some (Slot.own x') := fun {j x} h => by
      rcases get_set h with ⟨rfl, _⟩ | ⟨_, h⟩
      · exact ⟨d, e1⟩
      · exact ⟨x, h⟩
    obtain ⟨x', h1⟩ := fix h1
    obtain ⟨y', h2⟩ := fix h2
    exact Ev.inj j k q x' y' h1 h2 h3 h4
/-- an owned object is rewritten -/
theorem own_write {D : Ends} (S : StR K W H gs) (Ev : EnvR K W H ρ σ) (e1 : ρ[i]? = some (Slot.own d)) (e2 : σ[i]? = some (some (V.ref p))) (r : OwnR K W.G (upd H p o') d' p) (q : postS K E D ρ σ W H (.ok (.nx (ρ.set i (.own d'))) gs)) : D.nx σ (upd H p o') := by
  obtain ⟨p0, e3, o⟩ := Ev.own i d e1
  rw [e2] at e3
  cases e3
  refine q σ W (upd H p o') (Step.write ⟨i, d, e1, e2⟩ fun _ _ => trivial) (fun b hb => ?_) (S.write o.g o.a) (Ev.write e1 e2 r)
  obtain ⟨j, x, h1, h2⟩ := hb
  rcases get_set h1 with ⟨rfl, _⟩ | ⟨_, h1⟩
  · exact .inl ⟨i, d, e1, h2⟩
  · exact .inl ⟨j, x, h1, h2⟩
end
section
variable {X : Cx} {E : XK} {e a b : Expr} {ge ga gb : Sl → M RV} {pos p p' ap cp : Pos} {x : Str}
/-! ### append, extend -/
def ownList (ρ : Sl) (i : Nat) : Option (List PyData) := match ρ[i]? with
  | some (.own (.list ds)) => some ds
  | _ => none
theorem ownList_some {ρ : Sl} {i : Nat} {ds : List PyData} (e : ownList ρ i = some ds) : ρ[i]? = some (.own (.list ds)) := by
  unfold ownList at e
  split at e
  · rename_i h; cases e; exact h
  · cases e
def sApp (i : Nat) (ge : Sl → M RV) : Sl → M Out := fun ρ => bindM (liftO (ownList ρ i)) fun ds => useM (ge ρ) fun r => bindM (liftO (valOf r)) fun d => if ds.length < sizeLine then retM (.nx (ρ.set i (.own (.list (ds ++ [d]))))) else stuckM
theorem post_bindS {K : PySem.W.Frag} {α : Type} {D : Ends} {ρ : Sl} {σ : Sg} {W : Wd} {H : Hp} {gs : GS} {o : Option α} {f : α → M Out} (h : postS K E D ρ σ W H (bindM (liftO o) f gs)) : ∃ a, o = some a ∧ postS K E D ρ σ W H (f a gs) := by
  cases o with
  | none => exact h.elim
  | some a => exact ⟨a, rfl, h⟩
theorem post_iteS {K : PySem.W.Frag} {D : Ends} {ρ : Sl} {σ : Sg} {W : Wd} {H : Hp} {gs : GS} {c : Prop} [Decidable c] {m : M Out} (h : postS K E D ρ σ W H ((if c then m else stuckM) gs)) : c ∧ postS K E D ρ σ W H (m gs) := by
  by_cases hc : c
  · rw [if_pos hc] at h; exact ⟨hc, h⟩
  · rw [if_neg hc] at h; exact h.elim
theorem s_app {i : Nat} (hv : PE X (.Name x p) (tVar i)) (he : PX X E e ge) (hbase : attributeBase (.Name x p) "append" X.env (eval (.Name x p) X.env) = eval (.Name x p) X.env := by rfl)
    (hfew : (((backTo cp (starEach (e :: []) X.env)).all fun x => !x.1) && ((backToKw cp (keywordEach [] X.env)).all fun x => x.1.isSome) && decide ((e :: []).length + ([] : List Keyword).length + (if ([] : List Keyword).isEmpty = true then 0 else 1) < 30)) = true := by rfl)
    (hline : (ap.endLine == cp.line) = true := by rfl) (hs : starEach (e :: []) X.env = (false, eval e X.env) :: starEach [] X.env := by rfl) (hpl : (backTo cp (starEach [] X.env)).any (·.1) = false := by rfl)
    (hsw : swapsWith (.Call (.Attribute (.Name x p) "append" ap) [e] [] cp) none pos.line X.env = pure false := by rfl) : PXS X E (.Expr (.Call (.Attribute (.Name x p) "append" ap) [e] [] cp) pos) (sApp i ge) :=
  ⟨(ps_expr (pe_bm PySem.F.plainAttrs_list PySem.F.slot_list_append PySem.F.type_list_append mt_append hv (pa_cons he.pe pa_nil hs) hbase hfew hline hs hpl) hsw).mono fun D σ H q => by
    obtain ⟨W, ρ, gs, S, Ev, q⟩ := q
    obtain ⟨ds, e0, q⟩ := post_bindS q
    have e1 := ownList_some e0
    obtain ⟨p, e2, o⟩ := Ev.own i _ e1
    obtain ⟨vs, h1, h2⟩ := own_list o
    refine ⟨_, e2, .inl ⟨rfl, vs, SqL.of h1⟩, ?_⟩
    refine tX_useS S Ev q fun r v W1 H1 gs1 s1 S1 E1 a1 q1 => ?_
    obtain ⟨d, e3, q2⟩ := post_bindS q1
    obtain ⟨hl, q3⟩ := post_iteS q2
    obtain ⟨vs1, g1, g2⟩ := own_list (o.step s1 id)
    cases r with
    | val d0 =>
      cases e3
      refine ⟨p, vs1, v, rfl, rfl, g1, by rw [g2.length]; exact hl, ?_⟩
      exact own_write (d' := .list (ds ++ [_])) S1 E1 e1 e2 ⟨_, upd_same, g2.append (.cons a1 .nil)⟩ q3
    | _ => cases e3⟩
def sExt (i : Nat) (ge : Sl → M RV) : Sl → M Out := fun ρ => bindM (liftO (ownList ρ i)) fun ds => useM (ge ρ) fun r => bindM (liftO (listOfR r)) fun zs => if ds.length + zs.length ≤ sizeLine then retM (.nx (ρ.set i (.own (.list (ds ++ zs))))) else stuckM
theorem s_ext {i : Nat} (hv : PE X (.Name x p) (tVar i)) (he : PX X E e ge) (hbase : attributeBase (.Name x p) "extend" X.env (eval (.Name x p) X.env) = eval (.Name x p) X.env := by rfl)
    (hfew : (((backTo cp (starEach (e :: []) X.env)).all fun x => !x.1) && ((backToKw cp (keywordEach [] X.env)).all fun x => x.1.isSome) && decide ((e :: []).length + ([] : List Keyword).length + (if ([] : List Keyword).isEmpty = true then 0 else 1) < 30)) = true := by rfl)
    (hline : (ap.endLine == cp.line) = true := by rfl) (hs : starEach (e :: []) X.env = (false, eval e X.env) :: starEach [] X.env := by rfl) (hpl : (backTo cp (starEach [] X.env)).any (·.1) = false := by rfl)
    (hsw : swapsWith (.Call (.Attribute (.Name x p) "extend" ap) [e] [] cp) none pos.line X.env = pure false := by rfl) : PXS X E (.Expr (.Call (.Attribute (.Name x p) "extend" ap) [e] [] cp) pos) (sExt i ge) :=
  ⟨(ps_expr (pe_bm PySem.F.plainAttrs_list PySem.F.slot_list_extend PySem.F.type_list_extend mt_extend hv (pa_cons he.pe pa_nil hs) hbase hfew hline hs hpl) hsw).mono fun D σ H q => by
    obtain ⟨W, ρ, gs, S, Ev, q⟩ := q
    obtain ⟨ds, e0, q⟩ := post_bindS q
    have e1 := ownList_some e0
    obtain ⟨p, e2, o⟩ := Ev.own i _ e1
    obtain ⟨vs, h1, h2⟩ := own_list o
    refine ⟨_, e2, .inl ⟨rfl, vs, SqL.of h1⟩, ?_⟩
    refine tX_useS S Ev q fun r v W1 H1 gs1 s1 S1 E1 a1 q1 => ?_
    obtain ⟨zs, e3, q2⟩ := post_bindS q1
    obtain ⟨hl, q3⟩ := post_iteS q2
    obtain ⟨vs1, g1, g2⟩ := own_list (o.step s1 id)
    obtain ⟨pb, ws, rfl, g3, g4⟩ := a1.list S1 (listOfR_some e3)
    refine ⟨p, pb, vs1, ws, rfl, rfl, g1, g3, by rw [g2.length, g4.length]; exact hl, ?_⟩
    exact own_write (d' := .list (ds ++ zs)) S1 E1 e1 e2 ⟨_, upd_same, g2.append g4⟩ q3⟩

/-! ### expressions that change an owned list: pop -/
def postE (K : PySem.W.Frag) (E : XK) (Q : V → Hp → Prop) (ρ : Sl) (σ : Sg) (W : Wd) (H : Hp) : Res (RV × Sl) → Prop
  | .ok (r, ρ') gs' => ∀ v W' H', Step (Os ρ σ) W W' H H' → OsIn ρ σ ρ' σ H → StR K W' H' gs' → EnvR K W' H' ρ' σ → ArgR K NoB W' H' r v → Q v H'
  | .exc x gs' => ∀ cls dd W' H', Step (Os ρ σ) W W' H H' → StR K W' H' gs' → ExcR K W' H' x cls dd → E cls dd H'
  | .stuck => False
def tXE (K : PySem.W.Frag) (E : XK) (g : Sl → M (RV × Sl)) : TE := fun σ H Q => ∃ W ρ gs, StR K W H gs ∧ EnvR K W H ρ σ ∧ postE K E Q ρ σ W H (g ρ gs)
structure PXE (X : Cx) (E : XK) (e : Expr) (g : Sl → M (RV × Sl)) : Prop where
  pe : PE X e (tXE X.K E g)
theorem post_bindE {K : PySem.W.Frag} {α : Type} {Q : V → Hp → Prop} {ρ : Sl} {σ : Sg} {W : Wd} {H : Hp} {gs : GS} {o : Option α} {f : α → M (RV × Sl)} (h : postE K E Q ρ σ W H (bindM (liftO o) f gs)) : ∃ a, o = some a ∧ postE K E Q ρ σ W H (f a gs) := by
  cases o with
  | none => exact h.elim
  | some a => exact ⟨a, rfl, h⟩
theorem own_writeE {K : PySem.W.Frag} {i : Nat} {d d' : PyData} {p : Addr} {o' : HO} {Q : V → Hp → Prop} {ρ : Sl} {σ : Sg} {W : Wd} {H : Hp} {gs : GS} {r : RV} {v : V} (S : StR K W H gs) (Ev : EnvR K W H ρ σ) (e1 : ρ[i]? = some (Slot.own d)) (e2 : σ[i]? = some (some (V.ref p))) (rr : OwnR K W.G (upd H p o') d' p) (a : ArgR K NoB W (upd H p o') r v) (q : postE K E Q ρ σ W H (.ok (r, ρ.set i (.own d')) gs)) : Q v (upd H p o') := by
  obtain ⟨p0, e3, o⟩ := Ev.own i d e1
  rw [e2] at e3
  cases e3
  refine q v W (upd H p o') (Step.write ⟨i, d, e1, e2⟩ fun _ _ => trivial) (fun b hb => ?_) (S.write o.g o.a) (Ev.write e1 e2 rr) a
  obtain ⟨j, x, h1, h2⟩ := hb
  rcases get_set h1 with ⟨rfl, _⟩ | ⟨_, h1⟩
  · exact .inl ⟨i, d, e1, h2⟩
  · exact .inl ⟨j, x, h1, h2⟩
def ePop (i : Nat) : Sl → M (RV × Sl) := fun ρ => bindM (liftO (ownList ρ i)) fun ds => bindM (liftO ds[ds.length - 1]?) fun d => retM (.val d, ρ.set i (.own (.list ds.dropLast)))
theorem RpAll.dropLast {K : PySem.W.Frag} {G : Hp} : ∀ {vs : List V} {ds : List PyData}, RpAll K G vs ds → RpAll K G vs.dropLast ds.dropLast
  | _, _, .nil => .nil
  | _, _, .cons _ .nil => .nil
  | _, _, .cons r (.cons r2 t) => .cons r (RpAll.dropLast (.cons r2 t))
theorem e_pop {i : Nat} (hv : PE X (.Name x p) (tVar i)) (hbase : attributeBase (.Name x p) "pop" X.env (eval (.Name x p) X.env) = eval (.Name x p) X.env := by rfl) (hline : (ap.endLine == cp.line) = true := by rfl) :
    PXE X E (.Call (.Attribute (.Name x p) "pop" ap) [] [] cp) (ePop i) :=
  ⟨(pe_bm0 PySem.F.plainAttrs_list PySem.F.slot_list_pop PySem.F.type_list_pop mt_pop hv hbase hline).mono fun σ H Q q => by
    obtain ⟨W, ρ, gs, S, Ev, q⟩ := q
    obtain ⟨ds, e0, q⟩ := post_bindE q
    have e1 := ownList_some e0
    obtain ⟨p, e2, o⟩ := Ev.own i _ e1
    obtain ⟨vs, h1, h2⟩ := own_list o
    obtain ⟨d, e3, q⟩ := post_bindE q
    obtain ⟨y, g1, g2⟩ := h2.get e3
    refine ⟨_, e2, .inl ⟨rfl, vs, SqL.of h1⟩, p, vs, y, rfl, rfl, h1, by rw [h2.length]; exact g1, ?_⟩
    exact own_writeE (d' := .list ds.dropLast) (r := .val d) S Ev e1 e2 ⟨_, upd_same, h2.dropLast⟩ g2 q⟩
theorem postE.step {K : PySem.W.Frag} {Q : V → Hp → Prop} {ρ : Sl} {σ : Sg} {W W1 : Wd} {H H1 : Hp} {r : Res (RV × Sl)} (s : Step (Os ρ σ) W W1 H H1) (h : postE K E Q ρ σ W H r) : postE K E Q ρ σ W1 H1 r := by
  cases r with
  | ok a g =>
    obtain ⟨r, ρ'⟩ := a
    exact fun v W' H' s' o' S' E' a' => h v W' H' (s.trans s' fun _ => .inl) (OsIn.trans (ρ1 := ρ) (σ1 := σ) s .refl o') S' E' a'
  | exc x g => exact fun cls dd W' H' s' S' X' => h cls dd W' H' (s.trans s' fun _ => .inl) S' X'
  | stuck => exact h
theorem tX_useE {K : PySem.W.Frag} {ga : Sl → M RV} {f : RV → M (RV × Sl)} {ρ : Sl} {σ : Sg} {W : Wd} {H : Hp} {gs : GS} {Q P : V → Hp → Prop} (S : StR K W H gs) (Ev : EnvR K W H ρ σ) (h : postE K E Q ρ σ W H (useM (ga ρ) f gs))
    (k : ∀ r v W1 H1 gs1, Step NoB W W1 H H1 → StR K W1 H1 gs1 → EnvR K W1 H1 ρ σ → ArgR K (Os ρ σ) W1 H1 r v → postE K E Q ρ σ W1 H1 (f r gs1) → P v H1) : tX K E ga σ H P := by
  refine ⟨W, ρ, gs, S, Ev, ?_⟩
  unfold useM at h
  cases e : ga ρ gs with
  | ok r g1 =>
    rw [e] at h
    intro W1 H1 s1 S1 v hv
    obtain ⟨W2, s2, S2, a⟩ := hv.arg s1 S1
    exact k (frzV r) v W2 H1 g1 s2 S2 (Ev.step s2) a (h.step s2.weak)
  | exc x g => rw [e] at h; exact fun cls dd W' H' s' S' X' => h cls dd W' H' s'.weak S' X'
  | stuck => rw [e] at h; exact h
def popIx (k : Int) (n : Nat) : Option Nat := if -(2 ^ 63) ≤ k ∧ k < 2 ^ 63 then seqIndex? k n else none
theorem popIx_some {k : Int} {n j : Nat} (h : popIx k n = some j) : (-(2 ^ 63) ≤ k ∧ k < 2 ^ 63) ∧ seqIndex? k n = some j := by
  unfold popIx at h
  split at h
  · rename_i c; exact ⟨c, h⟩
  · cases h
def ePopAt (i : Nat) (ga : Sl → M RV) : Sl → M (RV × Sl) := fun ρ => bindM (liftO (ownList ρ i)) fun ds => useM (ga ρ) fun r => bindM (liftO (intOfR r)) fun k => bindM (liftO (popIx k ds.length)) fun j => bindM (liftO ds[j]?) fun d => retM (.val d, ρ.set i (.own (.list (ds.eraseIdx j))))
theorem e_popAt {i : Nat} (hv : PE X (.Name x p) (tVar i)) (he : PX X E e ge) (hbase : attributeBase (.Name x p) "pop" X.env (eval (.Name x p) X.env) = eval (.Name x p) X.env := by rfl)
    (hfew : (((backTo cp (starEach (e :: []) X.env)).all fun x => !x.1) && ((backToKw cp (keywordEach [] X.env)).all fun x => x.1.isSome) && decide ((e :: []).length + ([] : List Keyword).length + (if ([] : List Keyword).isEmpty = true then 0 else 1) < 30)) = true := by rfl)
    (hline : (ap.endLine == cp.line) = true := by rfl) (hs : starEach (e :: []) X.env = (false, eval e X.env) :: starEach [] X.env := by rfl) (hpl : (backTo cp (starEach [] X.env)).any (·.1) = false := by rfl) :
    PXE X E (.Call (.Attribute (.Name x p) "pop" ap) [e] [] cp) (ePopAt i ge) :=
  ⟨(pe_bm PySem.F.plainAttrs_list PySem.F.slot_list_pop PySem.F.type_list_pop mt_popAt hv (pa_cons he.pe pa_nil hs) hbase hfew hline hs hpl).mono fun σ H Q q => by
    obtain ⟨W, ρ, gs, S, Ev, q⟩ := q
    obtain ⟨ds, e0, q⟩ := post_bindE q
    have e1 := ownList_some e0
    obtain ⟨p, e2, o⟩ := Ev.own i _ e1
    obtain ⟨vs, h1, h2⟩ := own_list o
    refine ⟨_, e2, .inl ⟨rfl, vs, SqL.of h1⟩, ?_⟩
    refine tX_useE S Ev q fun r v W1 H1 gs1 s1 S1 E1 a1 q1 => ?_
    obtain ⟨k, e3, q1⟩ := post_bindE q1
    obtain ⟨j, e4, q1⟩ := post_bindE q1
    obtain ⟨d, e5, q1⟩ := post_bindE q1
    obtain ⟨⟨b1, b2⟩, e4⟩ := popIx_some e4
    obtain ⟨vs1, g1, g2⟩ := own_list (o.step s1 id)
    obtain ⟨y, g3, g4⟩ := g2.get e5
    cases a1.int (intOfR_some e3)
    exact ⟨p, vs1, k, j, y, rfl, rfl, g1, b1, b2, by rw [g2.length]; exact e4, g3, own_writeE (d' := .list (ds.eraseIdx j)) (r := .val d) S1 E1 e1 e2 ⟨_, upd_same, g2.eraseIdx j⟩ g4 q1⟩⟩
/-- a slot is set to what an expression of that kind gives -/
def sSetE (i : Nat) (ge : Sl → M (RV × Sl)) : Sl → M Out := fun ρ => bindM (ge ρ) fun q => match q.1 with
  | .val d => retM (.nx (q.2.set i (.val d)))
  | _ => stuckM
/-- .. is appended to another owned list -/
def sAppE (i : Nat) (ge : Sl → M (RV × Sl)) : Sl → M Out := fun ρ => bindM (liftO (ownList ρ i)) fun _ => bindM (ge ρ) fun q => bindM (liftO (ownList q.2 i)) fun ds => match q.1 with
  | .val d => if ds.length < sizeLine then retM (.nx (q.2.set i (.own (.list (ds ++ [d]))))) else stuckM
  | _ => stuckM
theorem tXE_bind {K : PySem.W.Frag} {ge : Sl → M (RV × Sl)} {f : RV × Sl → M Out} {D : Ends} {ρ : Sl} {σ : Sg} {W : Wd} {H : Hp} {gs : GS} {P : V → Hp → Prop} (S : StR K W H gs) (Ev : EnvR K W H ρ σ) (h : postS K E D ρ σ W H (bindM (ge ρ) f gs))
    (k : ∀ r ρ1 v W1 H1 gs1, Step (Os ρ σ) W W1 H H1 → OsIn ρ σ ρ1 σ H → StR K W1 H1 gs1 → EnvR K W1 H1 ρ1 σ → ArgR K NoB W1 H1 r v → postS K E D ρ1 σ W1 H1 (f (r, ρ1) gs1) → P v H1) : tXE K E ge σ H P := by
  refine ⟨W, ρ, gs, S, Ev, ?_⟩
  cases e : ge ρ gs with
  | ok a g1 =>
    obtain ⟨r, ρ1⟩ := a
    have h' : postS K E D ρ σ W H (f (r, ρ1) g1) := by
      have := h
      unfold bindM at this
      rw [e] at this
      exact this
    exact fun v W1 H1 s1 o1 S1 E1 a1 => k r ρ1 v W1 H1 g1 s1 o1 S1 E1 a1 (h'.step s1 o1)
  | exc x g =>
    have h' : postS K E D ρ σ W H (.exc x g) := by
      have := h
      unfold bindM at this
      rw [e] at this
      exact this
    exact h'
  | stuck =>
    have h' : postS K E D ρ σ W H .stuck := by
      have := h
      unfold bindM at this
      rw [e] at this
      exact this
    exact h'.elim
theorem s_appE {i : Nat} {ge : Sl → M (RV × Sl)} (hv : PE X (.Name x p) (tVar i)) (he : PXE X E e ge) (hbase : attributeBase (.Name x p) "append" X.env (eval (.Name x p) X.env) = eval (.Name x p) X.env := by rfl)
    (hfew : (((backTo cp (starEach (e :: []) X.env)).all fun x => !x.1) && ((backToKw cp (keywordEach [] X.env)).all fun x => x.1.isSome) && decide ((e :: []).length + ([] : List Keyword).length + (if ([] : List Keyword).isEmpty = true then 0 else 1) < 30)) = true := by rfl)
    (hline : (ap.endLine == cp.line) = true := by rfl) (hs : starEach (e :: []) X.env = (false, eval e X.env) :: starEach [] X.env := by rfl) (hpl : (backTo cp (starEach [] X.env)).any (·.1) = false := by rfl)
    (hsw : swapsWith (.Call (.Attribute (.Name x p) "append" ap) [e] [] cp) none pos.line X.env = pure false := by rfl) : PXS X E (.Expr (.Call (.Attribute (.Name x p) "append" ap) [e] [] cp) pos) (sAppE i ge) :=
  ⟨(ps_expr (pe_bm PySem.F.plainAttrs_list PySem.F.slot_list_append PySem.F.type_list_append mt_append hv (pa_cons he.pe pa_nil hs) hbase hfew hline hs hpl) hsw).mono fun D σ H q => by
    obtain ⟨W, ρ, gs, S, Ev, q⟩ := q
    obtain ⟨ds0, e0, q⟩ := post_bindS q
    obtain ⟨p, e2, o⟩ := Ev.own i _ (ownList_some e0)
    obtain ⟨vs, h1, h2⟩ := own_list o
    refine ⟨_, e2, .inl ⟨rfl, vs, SqL.of h1⟩, ?_⟩
    refine tXE_bind S Ev q fun r ρ1 v W1 H1 gs1 s1 o1 S1 E1 a1 q1 => ?_
    obtain ⟨ds, e3, q1⟩ := post_bindS q1
    have e1 := ownList_some e3
    obtain ⟨p', e2', o'⟩ := E1.own i _ e1
    rw [e2] at e2'
    cases e2'
    obtain ⟨vs1, g1, g2⟩ := own_list o'
    cases r with
    | val d =>
      obtain ⟨hl, q2⟩ := post_iteS (K := X.K) q1
      exact ⟨p, vs1, _, rfl, rfl, g1, by rw [g2.length]; exact hl, own_write (d' := .list (ds ++ [d])) S1 E1 e1 e2 ⟨_, upd_same, g2.append (.cons a1 .nil)⟩ q2⟩
    | _ => exact q1.elim⟩
theorem s_setE {i : Nat} {ge : Sl → M (RV × Sl)} (hN : X.N.Nodup) (hi : X.N[i]? = some x) (hx : Loc X.env.scope x) (he : PXE X E e ge) (hs : swapsWith e (some (.Name x p')) pos.line X.env = pure false := by rfl) (hf : X.fn x = true ∨ X.env.scope.names.lookup x = some .local := by first | exact .inl rfl | exact .inr rfl | assumption) :
    PXS X E (.Assign [.Name x p'] e pos) (sSetE i ge) := ⟨(ps_set hN hi hx he.pe hs hf).mono fun D σ H q => by
  obtain ⟨W, ρ, gs, S, Ev, q⟩ := q
  refine tXE_bind S Ev q fun r ρ1 v W1 H1 gs1 s1 o1 S1 E1 a1 q1 => ?_
  cases r with
  | val d => exact set_done (s := .val d) .refl S1 E1 a1 (fun _ _ z => by cases z) q1
  | own d => exact a1.elim
  | obj n => exact q1.elim
  | bor d => exact q1.elim⟩
end
end PL
set_option Elab.async false
set_option linter.all false
set_option maxRecDepth 100000
set_option maxHeartbeats 2000000
/-! PLk: what a loop walks, its targets, list comprehensions. -/
namespace PL
open PySem PySem.Spec PyProof.Rows L2

/-- the iterator gives ds while Rr stands -/
structure ItR (K : PySem.W.Frag) (J : It) (ds : List D) (Rr : Wd → Hp → Prop) : Prop where
  go : ∀ i W H gs, i < ds.length → StR K W H gs → Rr W H → J.go i H
  stop : ∀ W H gs, StR K W H gs → Rr W H → J.stop ds.length H
  yld : ∀ i W H gs x H', i < ds.length → StR K W H gs → Rr W H → J.yld i H x H' → ∃ W' d, Step NoB W W' H H' ∧ StR K W' H' gs ∧ ds[i]? = some d ∧ Rp K W'.G x d
/-- b: what is walked may not be written meanwhile -/
def relI (b : Bool) (P : Addr → Prop) (W1 : Wd) (H1 : Hp) : Wd → Hp → Prop := fun W H => match b with
  | true => ∃ B, Step B W1 W H1 H ∧ ∀ p, P p → ¬ B p
  | false => W1.Le W
theorem relI.ofB {b : Bool} {P B : Addr → Prop} {W1 W : Wd} {H1 H : Hp} (s : Step B W1 W H1 H) (n : ∀ p, P p → ¬ B p) : relI b P W1 H1 W H := by
  cases b with
  | true => exact ⟨B, s, n⟩
  | false => exact s.le
theorem relI.of {b : Bool} {P : Addr → Prop} {W1 W : Wd} {H1 H : Hp} (s : Step NoB W1 W H1 H) : relI b P W1 H1 W H := relI.ofB s fun _ _ z => z
theorem relI.trans {b : Bool} {P : Addr → Prop} {W1 W2 W : Wd} {H1 H2 H : Hp} (s : Step NoB W1 W2 H1 H2) (r : relI b P W2 H2 W H) : relI b P W1 H1 W H := by
  cases b with
  | true =>
    obtain ⟨B, r, n⟩ := r
    exact ⟨B, s.weak.trans r fun _ => .inl, n⟩
  | false => exact s.le.trans r
def tXI (K : PySem.W.Frag) (E : XK) (src : Sl → M (List D × Bool)) : TI := fun σ H R => ∃ W ρ gs, StR K W H gs ∧ EnvR K W H ρ σ ∧ post K E W H (fun a W1 H1 _ => ∀ J, ItR K J a.1 (relI a.2 (Os ρ σ) W1 H1) → R J H1) (src ρ gs)
structure PIX (X : Cx) (E : XK) (tg e : Expr) (src : Sl → M (List D × Bool)) : Prop where
  pi : PI X tg e (tXI X.K E src)
theorem _root_.L2.PI.mono {X : Cx} {tg e : Expr} {t t' : TI} (h : PI X tg e t) (m : ∀ σ H Q, t' σ H Q → t σ H Q) : PI X tg e t' := ⟨fun pins s σ H Q I q => h.run pins s σ H Q I (m σ H Q q)⟩
section
variable {X : Cx} {E : XK} {tg e a b c : Expr} {ge ga gb gc : Sl → M RV} {gr : Sl → M (List RV)} {pos p : Pos} {K : PySem.W.Frag}
/-! ### lists, tuples, texts -/
def iAny (K : PySem.W.Frag) (te : TE) : TI := fun σ H R => te σ H fun v H1 =>
  (∃ a, v = .ref a ∧ (∃ xs, SqL K H1 a xs) ∧ R (Itl K a) H1) ∨ (∃ a, v = .ref a ∧ (∃ xs, SqT K H1 a xs) ∧ R (Itt K a) H1) ∨ ∃ x, v = .str x ∧ R (Its x) H1
theorem pi_any {te : TE} (he : PE X e te) : PI X tg e (iAny X.K te) := by
  refine ⟨fun pins s σ H R I h => ?_⟩
  refine thn (he.run pins s σ H _ I h) fun v s1 ⟨y, H1, I1, r1, q1⟩ => ?_
  rcases q1 with ⟨a, ex, ⟨xs, hq⟩, q⟩ | ⟨a, ex, ⟨xs, hq⟩, q⟩ | ⟨x, ex, q⟩
  · subst ex
    cases r1
    obtain ⟨its, rv, p, hz⟩ := I1.list hq
    refine wpAny_pyIter_list p.isList ?_
    refine ⟨s1.heap.objs.size, [s1.heap.objs.size], _, _, H1, rfl, I1.kept (t' := s1.toks) fun b o e => Heap.get?_push_of_some _ e, turn_list a _, ⟨_, Heap.get?_push_size _ rfl, rfl, rfl⟩, fun b hb => ?_, q⟩
    have e : b = s1.heap.objs.size := by simpa using hb
    subst e
    exact I1.fpOk (Nat.le_refl _) (I1.hok.fresh (Nat.le_refl _))
  · subst ex
    cases r1
    obtain ⟨its, rv, p, hz⟩ := I1.tuple hq
    refine wpAny_pyIter_tuple (show s1.heap.IsTuple a its.toArray from p) ?_
    refine ⟨s1.heap.objs.size, [s1.heap.objs.size], _, _, H1, rfl, I1.kept (t' := s1.toks) fun b o e => Heap.get?_push_of_some _ e, turn_tuple a _, ⟨_, Heap.get?_push_size _ rfl, rfl, rfl⟩, fun b hb => ?_, q⟩
    have e : b = s1.heap.objs.size := by simpa using hb
    subst e
    exact I1.fpOk (Nat.le_refl _) (I1.hok.fresh (Nat.le_refl _))
  · subst ex
    obtain ⟨t, rfl⟩ := r1
    cases ha : x.cps.all (· < 128)
    · exact wpAny_pyIter_wide ha (pi_one (tk := s1.toks) I1 _ (turn_str _ x t "str_iterator" (.inr rfl)) ⟨_, Heap.get?_push_size _ rfl, rfl, rfl⟩ q)
    · exact wpAny_pyIter_ascii ha (pi_one (tk := s1.toks) I1 _ (turn_str _ x t "str_ascii_iterator" (.inl rfl)) ⟨_, Heap.get?_push_size _ rfl, rfl, rfl⟩ q)
theorem SqL.fun {H : Hp} {a : Addr} {xs ys : List V} (h : H a = some (.lst xs)) (q : SqL K H a ys) (n : K.lookup a = none ∨ True) : True := trivial
/-- the signs of a text, each a text -/
def signsD (x : Str) : List D := x.cps.toList.map fun c => .str ⟨#[c]⟩
/-- what a value gives when it is walked; whether it must not be written meanwhile -/
def walkR : RV → Option (List D × Bool)
  | .val (.list ds) => some (ds, false)
  | .val (.tuple ds) => some (ds, false)
  | .val (.str x) => some (signsD x, false)
  | .bor (.list ds) => some (ds, true)
  | _ => none
theorem itR_list {W1 : Wd} {a : Addr} {vs : List V} {ds : List D} {Rr : Wd → Hp → Prop} (r : RpAll K W1.G vs ds) (h : ∀ W H gs, StR K W H gs → Rr W H → W1.Le W ∧ H a = some (.lst vs)) : ItR K (Itl K a) ds Rr where
  go := fun i W H gs hi S q => by
    obtain ⟨l, e⟩ := h W H gs S q
    have hl := r.length
    exact ⟨vs, vs[i], SqL.of e, by simp [hl, hi]⟩
  stop := fun W H gs S q => by
    obtain ⟨l, e⟩ := h W H gs S q
    exact ⟨vs, SqL.of e, Nat.le_of_eq r.length⟩
  yld := fun i W H gs x H' hi S q y => by
    obtain ⟨l, e⟩ := h W H gs S q
    obtain ⟨rfl, y⟩ := y
    have e2 := y vs (SqL.of e)
    obtain ⟨d, e3, e4⟩ := r.getV e2
    exact ⟨W, d, .refl, S, e3, Rp.same l.g _ _ e4⟩
theorem itR_tup {W1 : Wd} {a : Addr} {vs : List V} {ds : List D} {Rr : Wd → Hp → Prop} (t : SqT K W1.G a vs) (r : RpAll K W1.G vs ds) (h : ∀ W H gs, StR K W H gs → Rr W H → W1.Le W) : ItR K (Itt K a) ds Rr where
  go := fun i W H gs hi S q => by
    have l := h W H gs S q
    have hl := r.length
    exact ⟨vs, vs[i], sameT S.sub (sameT l.g t), by simp [hl, hi]⟩
  stop := fun W H gs S q => by
    have l := h W H gs S q
    exact ⟨vs, sameT S.sub (sameT l.g t), Nat.le_of_eq r.length⟩
  yld := fun i W H gs x H' hi S q y => by
    have l := h W H gs S q
    obtain ⟨rfl, y⟩ := y
    have e2 := y vs (sameT S.sub (sameT l.g t))
    obtain ⟨d, e3, e4⟩ := r.getV e2
    exact ⟨W, d, .refl, S, e3, Rp.same l.g _ _ e4⟩
theorem itR_str {x : Str} {Rr : Wd → Hp → Prop} : ItR K (Its x) (signsD x) Rr where
  go := fun i W H gs hi S q => by
    have : i < x.cps.size := by simpa [signsD] using hi
    exact this
  stop := fun W H gs S q => by
    show x.cps.size ≤ (signsD x).length
    simp [signsD]
  yld := fun i W H gs v H' hi S q y => by
    obtain ⟨rfl, c, e1, rfl⟩ := y
    exact ⟨W, .str ⟨#[c]⟩, .refl, S, by simp [signsD, e1], .str _⟩
def iSeq (ge : Sl → M RV) : Sl → M (List D × Bool) := fun ρ => useM (ge ρ) fun r => liftO (walkR r)
theorem i_seq (he : PX X E e ge) : PIX X E tg e (iSeq ge) := ⟨(pi_any he.pe).mono fun σ H R q => by
  obtain ⟨W, ρ, gs, S, Ev, q⟩ := q
  refine tX_use S Ev q fun r v W1 H1 gs1 s1 S1 E1 a1 q1 => ?_
  obtain ⟨a, e1, q2⟩ := post_liftO q1
  have q3 := q2.done S1
  cases r with
  | val d =>
    cases d with
    | list ds =>
      cases e1
      cases (show Rp X.K W1.G v _ from a1) with
      | lst h1 h2 => exact .inl ⟨_, rfl, ⟨_, SqL.of (S1.sub _ _ h1)⟩, q3 _ (itR_list h2 fun W H gs S l => ⟨l, S.sub _ _ (l.g _ _ h1)⟩)⟩
    | tuple ds =>
      cases e1
      cases (show Rp X.K W1.G v _ from a1) with
      | tup h1 _ h2 => exact .inr (.inl ⟨_, rfl, ⟨_, sameT S1.sub h1⟩, q3 _ (itR_tup h1 h2 fun W H gs S l => l)⟩)
    | str x =>
      cases e1
      cases (show Rp X.K W1.G v _ from a1)
      exact .inr (.inr ⟨_, rfl, q3 _ itR_str⟩)
    | _ => cases e1
  | bor d =>
    cases d with
    | list ds =>
      cases e1
      obtain ⟨p, rfl, o, op⟩ := a1
      obtain ⟨vs, h1, h2⟩ := own_list o
      refine .inl ⟨p, rfl, ⟨_, SqL.of h1⟩, q3 _ (itR_list h2 fun W H gs S l => ?_)⟩
      obtain ⟨B, l, n⟩ := l
      exact ⟨l.le, l.keep _ _ h1 o.a (n p op)⟩
    | _ => cases e1
  | own d => cases e1
  | obj n => cases e1⟩
/-! ### ranges -/
def rngD (lo : Int) (n : Nat) : List D := (List.range n).map fun i => .int (lo + (i : Nat))
theorem itR_rng {lo : Int} {n : Nat} {Rr : Wd → Hp → Prop} : ItR K (Itr lo n) (rngD lo n) Rr where
  go := fun i W H gs hi S q => by
    have : i < n := by simpa [rngD] using hi
    exact this
  stop := fun W H gs S q => by
    show n ≤ (rngD lo n).length
    simp [rngD]
  yld := fun i W H gs v H' hi S q y => by
    obtain ⟨rfl, rfl⟩ := y
    have : i < n := by simpa [rngD] using hi
    exact ⟨W, .int (lo + (i : Nat)), .refl, S, by simp [rngD, this], .int _⟩
def rng1 : List RV → Option (List D × Bool)
  | [r] => (intOfR r).bind fun j => if -(2 ^ 62) ≤ j ∧ j < 2 ^ 62 then some (rngD 0 j.toNat, false) else none
  | _ => none
def rng2 : List RV → Option (List D × Bool)
  | [r, r'] => (intOfR r).bind fun i => (intOfR r').bind fun j => if (-(2 ^ 62) ≤ i ∧ i < 2 ^ 62) ∧ -(2 ^ 62) ≤ j ∧ j < 2 ^ 62 then some (rngD i (j - i).toNat, false) else none
  | _ => none
def iRng (f : List RV → Option (List D × Bool)) (ga : Sl → M (List RV)) : Sl → M (List D × Bool) := fun ρ => bindM (ga ρ) fun rs => liftO (f rs)
theorem i_rng1 {a : Expr} (hg : Gl X "range") (hm : X.mg "range" = none) (ha : PXA X E [a] gr) (hs : starEach [a] X.env = [(false, eval a X.env)] := by rfl) : PIX X E tg (.Call (.Name "range" p) [a] [] pos) (iRng rng1 gr) :=
  ⟨(pi_range1 hg hm ha.pa hs).mono fun σ H R q => by
    obtain ⟨W, ρ, gs, S, Ev, q⟩ := q
    refine tXA_use S Ev q fun rs vs W1 H1 gs1 s1 S1 E1 a1 q1 => ?_
    obtain ⟨o, e1, q2⟩ := post_liftO q1
    have q3 := q2.done S1
    match rs, e1, a1 with
    | [r], e1, a1 =>
      obtain ⟨j, e2, e3⟩ := bind_some e1
      obtain ⟨v, rfl, a2⟩ := args1 a1
      cases a2.int (intOfR_some e2)
      obtain ⟨hb, rfl⟩ := ite_some e3
      exact ⟨j, rfl, hb.1, hb.2, q3 _ itR_rng⟩⟩
theorem i_rng2 {a b : Expr} (hg : Gl X "range") (hm : X.mg "range" = none) (ha : PXA X E [a, b] gr) (hs : starEach [a, b] X.env = [(false, eval a X.env), (false, eval b X.env)] := by rfl) (hs2 : starEach [b] X.env = [(false, eval b X.env)] := by rfl) :
    PIX X E tg (.Call (.Name "range" p) [a, b] [] pos) (iRng rng2 gr) :=
  ⟨(pi_range2 hg hm ha.pa hs hs2).mono fun σ H R q => by
    obtain ⟨W, ρ, gs, S, Ev, q⟩ := q
    refine tXA_use S Ev q fun rs vs W1 H1 gs1 s1 S1 E1 a1 q1 => ?_
    obtain ⟨o, e1, q2⟩ := post_liftO q1
    have q3 := q2.done S1
    match rs, e1, a1 with
    | [r, r'], e1, a1 =>
      obtain ⟨i, e2, e3⟩ := bind_some e1
      obtain ⟨j, e4, e5⟩ := bind_some e3
      obtain ⟨v, w, rfl, a2, a3⟩ := args2 a1
      cases a2.int (intOfR_some e2)
      cases a3.int (intOfR_some e4)
      obtain ⟨hb, rfl⟩ := ite_some e5
      exact ⟨i, j, rfl, ⟨hb.1.1, hb.1.2, hb.2.1, hb.2.2⟩, q3 _ itR_rng⟩⟩

/-! ### targets -/
def tXG (K : PySem.W.Frag) (is : List Nat) (g : D → Sl → Option Sl) : TG := fun v σ H Q => ∃ W ρ gs d ρ', StR K W H gs ∧ EnvR K W H ρ σ ∧ Rp K W.G v d ∧ g d ρ = some ρ' ∧
  ∀ σ', EnvR K W H ρ' σ' → (∀ p, Os ρ' σ' p → Os ρ σ p) → σ'.length = σ.length → (∀ j, j ∉ is → σ'[j]? = σ[j]?) → Q σ' H
structure PGX (X : Cx) (tg : Expr) (is : List Nat) (g : D → Sl → Option Sl) : Prop where
  pg : PG X tg (tXG X.K is g)
def tXGs (K : PySem.W.Frag) (is : List Nat) (g : List D → Sl → Option Sl) : TGs := fun vs σ H Q => ∃ W ρ gs ds ρ', StR K W H gs ∧ EnvR K W H ρ σ ∧ RpAll K W.G vs ds ∧ g ds ρ = some ρ' ∧
  ∀ σ', EnvR K W H ρ' σ' → (∀ p, Os ρ' σ' p → Os ρ σ p) → σ'.length = σ.length → (∀ j, j ∉ is → σ'[j]? = σ[j]?) → Q σ' H
structure PGsX (X : Cx) (ts : List Expr) (is : List Nat) (g : List D → Sl → Option Sl) : Prop where
  pg : PGs X ts (tXGs X.K is g)
theorem _root_.L2.PG.mono {X : Cx} {tg : Expr} {t t' : TG} (h : PG X tg t) (m : ∀ v σ H Q, t' v σ H Q → t v σ H Q) : PG X tg t' := ⟨fun pins s σ H v u Q I r q => h.run pins s σ H v u Q I r (m v σ H Q q)⟩
theorem _root_.L2.PGs.mono {X : Cx} {tg : List Expr} {t t' : TGs} (h : PGs X tg t) (m : ∀ v σ H Q, t' v σ H Q → t v σ H Q) : PGs X tg t' := ⟨fun pins s σ H v u Q I r q => h.run pins s σ H v u Q I r (m v σ H Q q)⟩
def gNm (i : Nat) : D → Sl → Option Sl := fun d ρ => some (ρ.set i (.val d))
theorem g_name {i : Nat} {x : Str} (hN : X.N.Nodup) (hi : X.N[i]? = some x) (hx : Loc X.env.scope x) (hf : X.fn x = true ∨ X.env.scope.names.lookup x = some .local := by first | exact .inl rfl | exact .inr rfl | assumption) : PGX X (.Name x pos) [i] (gNm i) :=
  ⟨(pg_name hN hi hx hf).mono fun v σ H Q q => by
    obtain ⟨W, ρ, gs, d, ρ', S, Ev, r, e, q⟩ := q
    cases e
    refine q _ (Ev.set (s := .val d) r) (fun p hp => ?_) (List.length_set ..) fun j hj => ?_
    · rcases hp.of_set with h | ⟨_, d, h⟩
      · exact h
      · cases h
    · rw [List.getElem?_set_ne fun z => hj (by simp [z])]⟩
def gsNil : List D → Sl → Option Sl
  | [], ρ => some ρ
  | _, _ => none
def gsCons (g : D → Sl → Option Sl) (r : List D → Sl → Option Sl) : List D → Sl → Option Sl
  | d :: ds, ρ => (g d ρ).bind (r ds)
  | _, _ => none
theorem gs_nil : PGsX X [] [] gsNil := ⟨pgs_nil.mono fun vs σ H Q q => by
  obtain ⟨W, ρ, gs, ds, ρ', S, Ev, r, e, q⟩ := q
  cases ds with
  | nil =>
    cases e
    cases r
    exact ⟨rfl, q σ Ev (fun _ h => h) rfl fun _ _ => rfl⟩
  | cons _ _ => cases e⟩
theorem gs_cons {es : List Expr} {is js : List Nat} {g : D → Sl → Option Sl} {r : List D → Sl → Option Sl} (h1 : PGX X e is g) (h2 : PGsX X es js r)
    (hs : (assignEach (e :: es) X.env).map (·.2) = assign e X.env :: (assignEach es X.env).map (·.2) := by rfl) : PGsX X (e :: es) (is ++ js) (gsCons g r) := ⟨(pgs_cons h1.pg h2.pg hs).mono fun vs σ H Q q => by
  obtain ⟨W, ρ, gs, ds, ρ', S, Ev, r, e, q⟩ := q
  cases ds with
  | nil => cases e
  | cons d ds =>
    obtain ⟨ρ1, e1, e2⟩ := bind_some e
    cases r with
    | cons r1 r2 =>
      refine ⟨_, _, rfl, W, ρ, gs, d, ρ1, S, Ev, r1, e1, fun σ1 E1 o1 l1 k1 => ⟨W, ρ1, gs, ds, ρ', S, E1, r2, e2, fun σ2 E2 o2 l2 k2 => q σ2 E2 (fun p hp => o1 p (o2 p hp)) (l2.trans l1) fun j hj => ?_⟩⟩
      rw [k2 j fun z => hj (List.mem_append_right _ z), k1 j fun z => hj (List.mem_append_left _ z)]⟩
def gTp (n : Nat) (g : List D → Sl → Option Sl) : D → Sl → Option Sl
  | .tuple ds, ρ => if ds.length = n then g ds ρ else none
  | _, _ => none
theorem g_tup {es : List Expr} {is : List Nat} {k n : Nat} {g : List D → Sl → Option Sl} (hc : X.calm = true) (h : PGsX X es is g)
    (hn : (assignEach es X.env).length = n := by rfl) (hst : (assignEach es X.env).findIdx? (·.1) = none := by rfl) : PGX X (.Tuple es k pos) is (gTp n g) := ⟨(pg_tup hc h.pg hn hst).mono fun v σ H Q q => by
  obtain ⟨W, ρ, gs, d, ρ', S, Ev, r, e, q⟩ := q
  cases d with
  | tuple ds =>
    have e' : (if ds.length = n then g ds ρ else none) = some ρ' := e
    by_cases hl : ds.length = n
    · rw [if_pos hl] at e'
      cases r with
      | tup h1 _ h2 => exact ⟨_, _, rfl, sameT S.sub h1, by rw [h2.length]; exact hl, W, ρ, gs, ds, ρ', S, Ev, h2, e', q⟩
    · rw [if_neg hl] at e'; cases e'
  | _ => cases e⟩
end
end PL
set_option Elab.async false
set_option linter.all false
set_option maxRecDepth 100000
set_option maxHeartbeats 2000000
/-! PLl: enumerate over a list or a tuple; list comprehensions. -/
namespace PL
open PySem PySem.Spec PyProof.Rows L2

/-! ### enumerate over a tuple -/
set_option maxHeartbeats 4000000 in
theorem meets_enumerate_newB1 {v : Value} {o : Obj} {H : Heap → Prop} (B : Begins v o H) :
    Meets (Builtin.«enumerate.__new__» ⟨[.type "enumerate", v], []⟩) (fun _ R s => H s.heap ∧
      R (.ok (.ret (.ref (s.heap.push o).objs.size))) { s with heap := (s.heap.push o).push { cls := .type "enumerate", data := .fields #[.none, .bool false, .ref s.heap.objs.size, rawInt 0, .none, .none] } }) :=
  .of_wp fun prog w A R s h => by
    obtain ⟨hp, g, d, tk, os⟩ := s; obtain ⟨h1, h⟩ := h
    have hsub := sub_enumerate
    have q1 : ∀ {A' : Around} {E : Value → Shared → Prop} {Q : Value → Shared → Prop}, Q (.ref hp.objs.size) ⟨hp.push o, g, d, tk, os⟩ → wpAny (model prog w) A' (pyIter v) Q E ⟨hp, g, d, tk, os⟩ :=
      fun q => B.iter prog w _ _ ⟨hp, g, d, tk, os⟩ _ h1 q
    wp_walk using q1
    refine wpAny_stack_any fun st => wpAny_pure ?_
    split
    · rename_i c _ _ _ _ _
      cases (c == Value.type "enumerate")
      · wp_walk using q1
        exact ⟨_, rfl, h⟩
      · wp_walk using q1
        exact ⟨_, rfl, h⟩
    · wp_walk using q1
      exact ⟨_, rfl, h⟩
theorem enum_begins1 {prog : Program} {w : World} {A : Around} {E : Value → Shared → Prop} {s : Shared} {v : Value} {o : Obj} {H : Heap → Prop} {Q : Value → Shared → Prop} (B : Begins v o H) (h1 : H s.heap)
    (h : ∀ h', IsEnum h' (s.heap.objs.size + 1) s.heap.objs.size 0 .none → h'.get? s.heap.objs.size = some o → h'.objs.size = s.heap.objs.size + 2 →
      (∀ b o, s.heap.get? b = some o → h'.get? b = some o) → Q (.ref (s.heap.objs.size + 1)) { s with heap := h' }) :
    wpAny (model prog w) A (call (.type "enumerate") [v]) Q E s := by
  refine callType_new F.called_enumerate (by decide) (F.typeCall_enumerate_1 _) (F.newCall_enumerate_1 _) (fun obj => F.args_object_init_2 obj _) F.entry_enumerate_new
    (meets_enumerate_newB1 B) ⟨h1, ?_⟩
  have hz : (s.heap.push o).objs.size = s.heap.objs.size + 1 := Heap.size_push ..
  show _ ∧ _
  rw [hz]
  have he : IsEnum ((s.heap.push o).push { cls := .type "enumerate", data := .fields #[.none, .bool false, .ref s.heap.objs.size, rawInt 0, .none, .none] }) (s.heap.objs.size + 1) s.heap.objs.size 0 .none := by
    have := Heap.get?_push_size (s.heap.push o) (o := { cls := .type "enumerate", data := .fields #[.none, .bool false, .ref s.heap.objs.size, rawInt 0, .none, .none] }) rfl
    rw [hz] at this; exact this
  refine ⟨⟨_, he, rfl⟩, h _ he (Heap.get?_push_of_some _ (Heap.get?_push_size _ B.free)) (by rw [Heap.size_push, hz]) fun b o x => Heap.get?_push_of_some _ (Heap.get?_push_of_some _ x)⟩
/-- the tuple at a, each item in a new pair -/
def Itet (K : PySem.W.Frag) (a : Addr) : It :=
  ⟨fun i H => ∃ (xs : List V) (x : V), SqT K H a xs ∧ xs[i]? = some x, fun i H v H' => ∃ T x, v = .ref T ∧ H T = none ∧ (∃ o : Obj, o.dict = none ∧ H' = upd H T (.frz o (.tup [.int (i : Nat), x]))) ∧ ∀ xs, SqT K H a xs → xs[i]? = some x, fun i H => ∃ xs : List V, SqT K H a xs ∧ xs.length ≤ i⟩
theorem turn_enumT {P : Program} {w : World} {K : PySem.W.Frag} {elts : List Expr} {kk : Nat} {tpos : Pos} (a e it : Addr) :
    Turn P w K (.Tuple elts kk tpos) (Itet K a) [e, it] e (fun i h => (∃ old, IsEnum h e it ((i : Nat) : Int) old) ∧ h.IsTupleIter it a i ∧ e ≠ it) where
  mem := by simp
  obj := fun i h st b hb => by
    obtain ⟨⟨old, he⟩, ⟨o, ho, hc, hd⟩, _⟩ := st
    have e' : b = e ∨ b = it := by simpa using hb
    rcases e' with z | z
    · rw [z]; exact ⟨_, he, fun v q => nomatch q⟩
    · rw [z]; exact ⟨o, ho, fun v q => by rw [hd] at q; cases q⟩
  keep := fun i h h' st k => let ⟨⟨old, he⟩, hi, hne⟩ := st; ⟨⟨old, k e (by simp) _ he⟩, hi.at fun o q => k it (by simp) o q, hne⟩
  item := by
    intro X hP hw hK hc i pins s σ H E I hf st hg
    subst hP hw hK
    obtain ⟨⟨old, he⟩, hit, hne⟩ := st
    obtain ⟨xs, x, hq, hx⟩ := hg
    obtain ⟨its, rv, p, hz⟩ := I.tuple hq
    obtain ⟨u, hu, ru⟩ := rv.get hx
    have hel : e < s.heap.objs.size := Heap.lt_size he
    have hil : it < s.heap.objs.size := by obtain ⟨_, q, _⟩ := hit; exact Heap.lt_size q
    have p : s.heap.IsTuple a its.toArray := p
    have hae : e ≠ a := fun z => by
      obtain ⟨o, q1, q2, _⟩ := p
      have he2 := he
      rw [z] at he2
      have e1 : s.heap.get? a = some o := q1
      have e3 : s.heap.get? a = some { cls := .type "enumerate", data := .fields #[.none, .bool false, .ref it, rawInt i, .none, old] } := he2
      rw [e1] at e3
      cases e3
      injection q2 with q2
      exact absurd q2 (by decide)
    have hai : a ≠ it := fun z => by
      obtain ⟨o, q1, q2, _⟩ := p
      obtain ⟨o', q3, q4, _⟩ := hit
      rw [← z] at q3
      have q1 : s.heap.get? a = some o := q1
      rw [q1] at q3
      cases q3
      rw [q2] at q4
      injection q4 with q4
      exact absurd q4 (by decide)
    have hlt : i < its.toArray.size := by
      have : its[i]? = some u := hu
      have := (List.getElem?_eq_some_iff.mp this).1
      simpa using this
    refine wpAny_pyNext_enum_itemD (n := its.toArray.size) (Draws.tuple (prog := X.prog) (w := X.w) (A := X.A.in1) (I.ok.hd hc) it a hai its.toArray) he ⟨hit, p⟩ hlt hne (fun hm => ?_) fun u' h' tk hu' ho hit' hT hsz hk => ?_
    · have : e = it ∨ e = a := by simpa using hm
      rcases this with z | z
      · exact hne z
      · exact hae z
    have hu' : its.toArray[i]? = some u' := hu'
    have : u' = u := by
      have h2 : its.toArray[i]? = some u := by simpa using hu
      rw [h2] at hu'; cases hu'; rfl
    subst this
    refine ⟨_, rfl, wpAny_letOwnedTupleGo_enum (s := { s with heap := h', toks := tk + 1 }) ho fun h'' he' sb => ?_⟩
    have hT2 : h''.get? s.heap.objs.size = some { cls := .type "tuple", data := .seq #[.int i tk, u'] } := (sb.2 _ (Nat.ne_of_gt hel)).trans hT
    have new : ObjOk X.prog X.w (upd H s.heap.objs.size (.frz { cls := .type "tuple", data := .seq [.int i tk, u'].toArray } (.tup [.int (i : Nat), x]))) h'' s.heap.objs.size (.frz { cls := .type "tuple", data := .seq [.int i tk, u'].toArray } (.tup [.int (i : Nat), x])) :=
      ftup (.cons ⟨_, rfl⟩ (.cons ru .nil)) (by show 2 ≤ sizeLine; decide) hT2
    have I1 : Inv X pins σ (upd H s.heap.objs.size (.frz { cls := .type "tuple", data := .seq [.int i tk, u'].toArray } (.tup [.int (i : Nat), x]))) { s with heap := h'', toks := tk + 1 } :=
      I.turnedNew (ch := [e, it]) (fun b ob hb q => (sb.2 b (fun z => hb (by simp [z]))).trans (hk b ob (fun z => hb (by simp [z])) (fun z => hb (by simp [z])) q)) hf (Nat.le_refl _) new
    refine ⟨.ref s.heap.objs.size, _, I1, rfl, ⟨_, x, rfl, I.hok.fresh (Nat.le_refl _), ⟨_, rfl, rfl⟩, fun ys hy => by rw [I.tuple_inj hy hq]; exact hx⟩, ⟨⟨u', ?_⟩, hit'.1.at fun o q => (sb.2 it (Ne.symm hne)).trans q, hne⟩, fun b hb => ?_⟩
    · have e1 : ((i + 1 : Nat) : Int) = (i : Int) + 1 := by omega
      rw [e1]; exact he'
    · have hb' : b < s.heap.objs.size := by
        have e' : b = e ∨ b = it := by simpa using hb
        rcases e' with z | z
        · rw [z]; exact hel
        · rw [z]; exact hil
      rw [upd_ne (Nat.ne_of_lt hb')]
      exact (hf b hb).1
  done := by
    intro X hP hw hK hc i pins s σ H E I hf st hg
    subst hP hw hK
    obtain ⟨⟨old, he⟩, hit, hne⟩ := st
    obtain ⟨xs, hq, hx⟩ := hg
    obtain ⟨its, rv, p, hz⟩ := I.tuple hq
    obtain ⟨f0, f1, f2, f3, f4, f5⟩ := hf it (by simp)
    have hl := rv.length
    have hT : s.TypeIs (.ref e) "enumerate" := ⟨_, he, rfl⟩
    unfold pyNext
    refine wpAny_bind (wpAny_attempt (wpAny_callSpecial?_slot (name := Str.ofString "__next__") hT F.slot_enumerate_next
      (wpAny_call_entry F.slot_enumerate_next hT F.entry_enumerate_next ?_ (F.args_enumerate_next_1 _))))
    show wpAny _ _ (field (.ref e) 2 >>= _) _ _ _
    refine wpAny_bind (wpAny_field he rfl (x := .ref it) rfl ?_)
    refine wpAny_bind (wpAny_nextOf_tuple_end (I.ok.hd hc) hit (show s.heap.IsTuple a its.toArray from p) (by simp; omega) fun h' x he' hx' => ?_)
    obtain ⟨o, ho, hc'⟩ := hx'
    refine wpAny_bind (wpAny_isInstance (T := "StopIteration") (b := true) ⟨o, ho, hc'⟩ isSubtype_stop ?_)
    exact wpAny_pure ⟨rfl, I.turned (t' := s.toks) (fun b o hb q => he' b o hb q) f0 f1 f3 f4 f5⟩
  self := fun A i s Q E st h => let ⟨⟨_, he⟩, _⟩ := st; wpAny_pyIter_enum he h
/-- the list at a as it stands at each turn, each item in a new pair -/
def Iten (K : PySem.W.Frag) (a : Addr) : It :=
  ⟨fun i H => ∃ (xs : List V) (x : V), SqL K H a xs ∧ xs[i]? = some x, fun i H v H' => ∃ T x, v = .ref T ∧ H T = none ∧ (∃ o : Obj, o.dict = none ∧ H' = upd H T (.frz o (.tup [.int (i : Nat), x]))) ∧ ∀ xs, SqL K H a xs → xs[i]? = some x, fun i H => ∃ xs : List V, SqL K H a xs ∧ xs.length ≤ i⟩
theorem turn_enumL {P : Program} {w : World} {K : PySem.W.Frag} {elts : List Expr} {kk : Nat} {tpos : Pos} (a e it : Addr) :
    Turn P w K (.Tuple elts kk tpos) (Iten K a) [e, it] e (fun i h => (∃ old, IsEnum h e it ((i : Nat) : Int) old) ∧ h.IsListIter it a i ∧ e ≠ it) where
  mem := by simp
  obj := fun i h st b hb => by
    obtain ⟨⟨old, he⟩, ⟨o, ho, hc, hd⟩, _⟩ := st
    have e' : b = e ∨ b = it := by simpa using hb
    rcases e' with z | z
    · rw [z]; exact ⟨_, he, fun v q => nomatch q⟩
    · rw [z]; exact ⟨o, ho, fun v q => by rw [hd] at q; cases q⟩
  keep := fun i h h' st k => let ⟨⟨old, he⟩, hi, hne⟩ := st; ⟨⟨old, k e (by simp) _ he⟩, hi.at fun o q => k it (by simp) o q, hne⟩
  item := by
    intro X hP hw hK hc i pins s σ H E I hf st hg
    subst hP hw hK
    obtain ⟨⟨old, he⟩, hit, hne⟩ := st
    obtain ⟨xs, x, hq, hx⟩ := hg
    obtain ⟨its, rv, p, hz⟩ := I.list hq
    obtain ⟨u, hu, ru⟩ := rv.get hx
    have hel : e < s.heap.objs.size := Heap.lt_size he
    have hil : it < s.heap.objs.size := by obtain ⟨_, q, _⟩ := hit; exact Heap.lt_size q
    refine wpAny_pyNext_enum_item he hit p.isList (x := u) (by simpa using hu) hne fun h' ho hit' hT hsz hk => ?_
    refine ⟨_, rfl, wpAny_letOwnedTupleGo_enum (s := { s with heap := h', toks := s.toks + 1 }) ho fun h'' he' sb => ?_⟩
    have hT2 : h''.get? s.heap.objs.size = some { cls := .type "tuple", data := .seq #[.int i s.toks, u] } := (sb.2 _ (Nat.ne_of_gt hel)).trans hT
    have new : ObjOk X.prog X.w (upd H s.heap.objs.size (.frz { cls := .type "tuple", data := .seq [.int i s.toks, u].toArray } (.tup [.int (i : Nat), x]))) h'' s.heap.objs.size (.frz { cls := .type "tuple", data := .seq [.int i s.toks, u].toArray } (.tup [.int (i : Nat), x])) :=
      ftup (.cons ⟨_, rfl⟩ (.cons ru .nil)) (by show 2 ≤ sizeLine; decide) hT2
    have I1 : Inv X pins σ (upd H s.heap.objs.size (.frz { cls := .type "tuple", data := .seq [.int i s.toks, u].toArray } (.tup [.int (i : Nat), x]))) { s with heap := h'', toks := s.toks + 1 } :=
      I.turnedNew (ch := [e, it]) (fun b ob hb q => (sb.2 b (fun z => hb (by simp [z]))).trans (hk b ob (fun z => hb (by simp [z])) (fun z => hb (by simp [z])) q)) hf (Nat.le_refl _) new
    refine ⟨.ref s.heap.objs.size, _, I1, rfl, ⟨_, x, rfl, I.hok.fresh (Nat.le_refl _), ⟨_, rfl, rfl⟩, fun ys hy => by rw [I.list_inj hy hq]; exact hx⟩, ⟨⟨u, ?_⟩, hit'.at fun o q => (sb.2 it (Ne.symm hne)).trans q, hne⟩, fun b hb => ?_⟩
    · have e1 : ((i + 1 : Nat) : Int) = (i : Int) + 1 := by omega
      rw [e1]; exact he'
    · have hb' : b < s.heap.objs.size := by
        have e' : b = e ∨ b = it := by simpa using hb
        rcases e' with z | z
        · rw [z]; exact hel
        · rw [z]; exact hil
      rw [upd_ne (Nat.ne_of_lt hb')]
      exact (hf b hb).1
  done := by
    intro X hP hw hK hc i pins s σ H E I hf st hg
    subst hP hw hK
    obtain ⟨⟨old, he⟩, hit, hne⟩ := st
    obtain ⟨xs, hq, hx⟩ := hg
    obtain ⟨its, rv, p, hz⟩ := I.list hq
    obtain ⟨f0, f1, f2, f3, f4, f5⟩ := hf it (by simp)
    have hl := rv.length
    exact wpAny_pyNext_enum_end (I.ok.hd hc) he hit p.isList (by simp; omega) fun h' eb => ⟨rfl, I.turned (t' := s.toks) (fun b o hb q => eb b o hb q) f0 f1 f3 f4 f5⟩
  self := fun A i s Q E st h => let ⟨⟨_, he⟩, _⟩ := st; wpAny_pyIter_enum he h
def iEnumA (K : PySem.W.Frag) (ta : TA) : TI := fun σ H R => ta σ H fun vs H1 => (∃ a xs, vs = [.ref a] ∧ SqL K H1 a xs ∧ R (Iten K a) H1) ∨ ∃ a xs, vs = [.ref a] ∧ SqT K H1 a xs ∧ R (Itet K a) H1
theorem pi_enumA {X : Cx} {e : Expr} {ta : TA} {p pos tpos : Pos} {elts : List Expr} {kk : Nat} (hg : Gl X "enumerate") (hm : X.mg "enumerate" = none) (ha : PA X [e] ta) (hs : starEach [e] X.env = [(false, eval e X.env)] := by rfl) :
    PI X (.Tuple elts kk tpos) (.Call (.Name "enumerate" p) [e] [] pos) (iEnumA X.K ta) := by
  refine ⟨fun pins s σ H R I h => ?_⟩
  refine Call_ (ld_blt I hg hm boot_enumerate (PyProof.Rows.callWith_type1 (thn (ha.run pos pins s σ H _ I h) fun us s1 ⟨vs, H1, I1, r1, q1⟩ => ?_) hs rfl))
  have fpo : ∀ b ∈ [s1.heap.objs.size + 1, s1.heap.objs.size], FpOk X pins H1 b := fun b hb => by
    have e' : b = s1.heap.objs.size + 1 ∨ b = s1.heap.objs.size := by simpa using hb
    have hle : s1.heap.objs.size ≤ b := by
      rcases e' with z | z
      · rw [z]; exact Nat.le_add_right _ _
      · rw [z]; exact Nat.le_refl _
    exact I1.fpOk hle (I1.hok.fresh hle)
  rcases q1 with ⟨a, xs, ex, hq, q⟩ | ⟨a, xs, ex, hq, q⟩
  · subst ex
    cases r1 with
    | cons r rr =>
      cases rr
      cases r
      obtain ⟨its, rv, p', hz⟩ := I1.list hq
      refine call_enumerate_list p'.isList fun h' he hit hsz hk => wpAny_pyIter_enum he ?_
      have I2 : Inv X pins σ H1 { s1 with heap := h' } := I1.kept (t' := s1.toks) hk
      exact ⟨s1.heap.objs.size + 1, [s1.heap.objs.size + 1, s1.heap.objs.size], _, _, H1, rfl, I2, turn_enumL a (s1.heap.objs.size + 1) s1.heap.objs.size, ⟨⟨.none, he⟩, hit, Nat.succ_ne_self _⟩, fpo, q⟩
  · subst ex
    cases r1 with
    | cons r rr =>
      cases rr
      cases r
      obtain ⟨its, rv, p', hz⟩ := I1.tuple hq
      refine enum_begins1 (begins_tuple a its.toArray) (show s1.heap.IsTuple a its.toArray from p') fun h' he hit hsz hk => wpAny_pyIter_enum he ?_
      have I2 : Inv X pins σ H1 { s1 with heap := h' } := I1.kept (t' := s1.toks) hk
      exact ⟨s1.heap.objs.size + 1, [s1.heap.objs.size + 1, s1.heap.objs.size], _, _, H1, rfl, I2, turn_enumT a (s1.heap.objs.size + 1) s1.heap.objs.size, ⟨⟨.none, he⟩, ⟨_, hit, rfl, rfl⟩, Nat.succ_ne_self _⟩, fpo, q⟩
section
variable {X : Cx} {E : XK} {tg e a b c : Expr} {ge ga gb gc : Sl → M RV} {gr : Sl → M (List RV)} {pos p : Pos} {K : PySem.W.Frag}
def enD (ds : List D) : List D := ds.mapIdx fun i d => .tuple [.int (i : Nat), d]
theorem pair_new {W : Wd} {H : Hp} {gs : GS} {T : Addr} {x y : V} {d d' : D} {o : Obj} (S : StR K W H gs) (n : H T = none) (ho : o.dict = none) (r : Rp K W.G x d) (r' : Rp K W.G y d') :
    ∃ W', Step NoB W W' H (upd H T (.frz o (.tup [x, y]))) ∧ StR K W' (upd H T (.frz o (.tup [x, y]))) gs ∧ Rp K W'.G (.ref T) (.tuple [d, d']) :=
  ⟨W.frz T (.frz o (.tup [x, y])), step_newF S n, S.newF n, tup_new S n ho (.cons r (.cons r' .nil))⟩
theorem itR_enum {W1 : Wd} {a : Addr} {vs : List V} {ds : List D} {Rr : Wd → Hp → Prop} (r : RpAll K W1.G vs ds) (h : ∀ W H gs, StR K W H gs → Rr W H → W1.Le W ∧ H a = some (.lst vs)) : ItR K (Iten K a) (enD ds) Rr where
  go := fun i W H gs hi S q => by
    obtain ⟨l, e⟩ := h W H gs S q
    have hl := r.length
    have hi : i < ds.length := by simpa [enD] using hi
    exact ⟨vs, vs[i], SqL.of e, by simp [hl, hi]⟩
  stop := fun W H gs S q => by
    obtain ⟨l, e⟩ := h W H gs S q
    exact ⟨vs, SqL.of e, by simp [enD, r.length]⟩
  yld := fun i W H gs x H' hi S q y => by
    obtain ⟨l, e⟩ := h W H gs S q
    obtain ⟨T, z, rfl, n, ⟨o, ho, rfl⟩, y⟩ := y
    have e2 := y vs (SqL.of e)
    obtain ⟨d, e3, e4⟩ := r.getV e2
    obtain ⟨W', s', S', r'⟩ := pair_new S n ho (.int (i : Nat)) (Rp.same l.g _ _ e4)
    exact ⟨W', _, s', S', by simp [enD, e3], r'⟩
theorem itR_enumT {W1 : Wd} {a : Addr} {vs : List V} {ds : List D} {Rr : Wd → Hp → Prop} (t : SqT K W1.G a vs) (r : RpAll K W1.G vs ds) (h : ∀ W H gs, StR K W H gs → Rr W H → W1.Le W) : ItR K (Itet K a) (enD ds) Rr where
  go := fun i W H gs hi S q => by
    have l := h W H gs S q
    have hl := r.length
    have hi : i < ds.length := by simpa [enD] using hi
    exact ⟨vs, vs[i], sameT S.sub (sameT l.g t), by simp [hl, hi]⟩
  stop := fun W H gs S q => by
    have l := h W H gs S q
    exact ⟨vs, sameT S.sub (sameT l.g t), by simp [enD, r.length]⟩
  yld := fun i W H gs x H' hi S q y => by
    have l := h W H gs S q
    obtain ⟨T, z, rfl, n, ⟨o, ho, rfl⟩, y⟩ := y
    have e2 := y vs (sameT S.sub (sameT l.g t))
    obtain ⟨d, e3, e4⟩ := r.getV e2
    obtain ⟨W', s', S', r'⟩ := pair_new S n ho (.int (i : Nat)) (Rp.same l.g _ _ e4)
    exact ⟨W', _, s', S', by simp [enD, e3], r'⟩
def enum1 : List RV → Option (List D × Bool)
  | [.val (.list ds)] => some (enD ds, false)
  | [.val (.tuple ds)] => some (enD ds, false)
  | [.bor (.list ds)] => some (enD ds, true)
  | _ => none
theorem i_enum {tpos : Pos} {elts : List Expr} {kk : Nat} (hg : Gl X "enumerate") (hm : X.mg "enumerate" = none) (ha : PXA X E [e] gr) (hs : starEach [e] X.env = [(false, eval e X.env)] := by rfl) : PIX X E (.Tuple elts kk tpos) (.Call (.Name "enumerate" p) [e] [] pos) (iRng enum1 gr) :=
  ⟨(pi_enumA hg hm ha.pa hs).mono fun σ H R q => by
    obtain ⟨W, ρ, gs, S, Ev, q⟩ := q
    refine tXA_use S Ev q fun rs vs W1 H1 gs1 s1 S1 E1 a1 q1 => ?_
    obtain ⟨o, e1, q2⟩ := post_liftO q1
    have q3 := q2.done S1
    unfold enum1 at e1
    split at e1
    · cases e1
      obtain ⟨v, rfl, a2⟩ := args1 a1
      cases (show Rp X.K W1.G v _ from a2) with
      | lst h1 h2 => exact .inl ⟨_, _, rfl, SqL.of (S1.sub _ _ h1), q3 _ (itR_enum h2 fun W H gs S l => ⟨l, S.sub _ _ (l.g _ _ h1)⟩)⟩
    · cases e1
      obtain ⟨v, rfl, a2⟩ := args1 a1
      cases (show Rp X.K W1.G v _ from a2) with
      | tup h1 _ h2 => exact .inr ⟨_, _, rfl, sameT S1.sub h1, q3 _ (itR_enumT h1 h2 fun W H gs S l => l)⟩
    · cases e1
      obtain ⟨v, rfl, a2⟩ := args1 a1
      obtain ⟨p, rfl, o, op⟩ := a2
      obtain ⟨vs, h1, h2⟩ := own_list o
      refine .inl ⟨p, _, rfl, SqL.of h1, q3 _ (itR_enum h2 fun W H gs S l => ?_)⟩
      obtain ⟨B, l, n⟩ := l
      exact ⟨l.le, l.keep _ _ h1 o.a (n p op)⟩
    · cases e1⟩
end
end PL
set_option Elab.async false
set_option linter.all false
set_option maxRecDepth 100000
set_option maxHeartbeats 2000000
/-! PLm: list comprehensions. -/
namespace PL
open PySem PySem.Spec PyProof.Rows L2

/-! ### slots forgotten -/
def wipeS (ρ : Sl) : List Nat → Sl
  | [] => ρ
  | v :: vs => (wipeS ρ vs).set v .un
section
variable {K : PySem.W.Frag} {W : Wd} {H : Hp} {gs : GS} {ρ : Sl} {σ : Sg}
theorem EnvR.unset (Ev : EnvR K W H ρ σ) (i : Nat) : EnvR K W H (ρ.set i .un) (σ.set i none) := by
  refine ⟨by rw [List.length_set, List.length_set]; exact Ev.len, fun j x h => ?_, fun j n h => ?_, fun j x h => ?_, fun j k q x y h1 h2 h3 h4 => ?_⟩
  · rcases get_set h with ⟨_, z⟩ | ⟨n, h⟩
    · cases z
    · obtain ⟨v, e, r⟩ := Ev.val j x h
      exact ⟨v, set_get_ne n e, r⟩
  · rcases get_set h with ⟨_, z⟩ | ⟨n, h⟩
    · cases z
    · obtain ⟨a, l, e, r⟩ := Ev.obj j _ h
      exact ⟨a, l, set_get_ne n e, r⟩
  · rcases get_set h with ⟨_, z⟩ | ⟨n, h⟩
    · cases z
    · obtain ⟨p, e, r⟩ := Ev.own j x h
      exact ⟨p, set_get_ne n e, r⟩
  · rcases get_set h1 with ⟨_, z⟩ | ⟨n1, h1⟩
    · cases z
    · rcases get_set h2 with ⟨_, z⟩ | ⟨n2, h2⟩
      · cases z
      · rw [List.getElem?_set_ne n1] at h3
        rw [List.getElem?_set_ne n2] at h4
        exact Ev.inj j k q x y h1 h2 h3 h4
theorem Os.unset {i : Nat} {p : Addr} (h : Os (ρ.set i .un) (σ.set i none) p) : Os ρ σ p := by
  obtain ⟨j, d, h1, h2⟩ := h
  rcases get_set h1 with ⟨_, z⟩ | ⟨n, h1⟩
  · cases z
  · rw [List.getElem?_set_ne n] at h2
    exact ⟨j, d, h1, h2⟩
theorem EnvR.wipe (Ev : EnvR K W H ρ σ) : ∀ vs : List Nat, EnvR K W H (wipeS ρ vs) (L2.wipe σ vs)
  | [] => Ev
  | v :: vs => (EnvR.wipe Ev vs).unset v
theorem Os.wipe {p : Addr} : ∀ {vs : List Nat}, Os (wipeS ρ vs) (L2.wipe σ vs) p → Os ρ σ p
  | [], h => h
  | v :: vs, h => Os.wipe (vs := vs) h.unset
theorem wipe_eq {σ2 : Sg} : ∀ {vs : List Nat}, σ2.length = σ.length → (∀ j, j ∉ vs → σ2[j]? = (L2.wipe σ vs)[j]?) → L2.wipe σ2 vs = L2.wipe σ vs := by
  have key : ∀ (τ : Sg) (vs : List Nat) (j : Nat), (L2.wipe τ vs)[j]? = if j ∈ vs then (if j < τ.length then some none else none) else τ[j]? := by
    intro τ vs
    induction vs with
    | nil => intro j; simp [L2.wipe]
    | cons v vs ih =>
      intro j
      unfold L2.wipe
      by_cases h : v = j
      · subst h
        rw [if_pos (List.mem_cons_self ..)]
        by_cases hl : v < τ.length
        · rw [if_pos hl, List.getElem?_set_self (by rw [wipe_length]; exact hl)]
        · rw [if_neg hl, List.getElem?_eq_none (by rw [List.length_set, wipe_length]; omega)]
      · rw [List.getElem?_set_ne h, ih]
        have : (j ∈ v :: vs) ↔ j ∈ vs := by simp [Ne.symm h]
        simp only [this]
  intro vs hl hk
  apply List.ext_getElem?
  intro j
  rw [key, key]
  by_cases hj : j ∈ vs
  · rw [if_pos hj, if_pos hj, hl]
  · rw [if_neg hj, if_neg hj, hk j hj, key, if_neg hj]
end
/-! ### no exception within -/
def calmM {α : Type} (m : M α) : M α := fun g => match m g with
  | .ok a g => .ok a g
  | _ => .stuck
theorem calm_ok {α : Type} {m : M α} {g g' : GS} {a : α} (h : calmM m g = .ok a g') : m g = .ok a g' := by
  unfold calmM at h
  split at h
  · rename_i e; cases h; exact e
  · cases h
def turnL (ρ0 : Sl) (g : D → Sl → Option Sl) (tt : Sl → M Bool) (te : Sl → M RV) (d : D) : M (Option D) :=
  bindM (liftO (g d ρ0)) fun ρ1 => bindM (tt ρ1) fun b => if b then useM (te ρ1) fun r => bindM (liftO (valOf r)) fun y => retM (some y) else retM none
def compL (ρ0 : Sl) (g : D → Sl → Option Sl) (tt : Sl → M Bool) (te : Sl → M RV) : List D → M (List D)
  | [] => retM []
  | d :: ds => bindM (calmM (turnL ρ0 g tt te d)) fun o => bindM (compL ρ0 g tt te ds) fun ys => retM (o.toList ++ ys)
def xLc (src : Sl → M (List D × Bool)) (vs : List Nat) (g : D → Sl → Option Sl) (tt : Sl → M Bool) (te : Sl → M RV) : Sl → M RV := fun ρ =>
  bindM (src ρ) fun a => if a.1.length ≤ sizeLine then bindM (compL (wipeS ρ vs) g tt te a.1) fun ys => retM (.own (.list ys)) else stuckM
structure PTsX (X : Cx) (E : XK) (ifs : List Expr) (g : Sl → M Bool) : Prop where
  pt : PTs X ifs (tXT X.K E g)
def tYesM : Sl → M Bool := fun _ => retM true
section
variable {X : Cx} {E : XK}
theorem _root_.L2.PTs.mono {X : Cx} {ifs : List Expr} {t t' : TT} (h : PTs X ifs t) (m : ∀ σ H Q, t' σ H Q → t σ H Q) : PTs X ifs t' := ⟨fun pins s σ H Q I q => h.run pins s σ H Q I (m σ H Q q)⟩
theorem ts_nil : PTsX X E [] tYesM := ⟨pts_nil.mono fun σ H Q q => by
  obtain ⟨W, ρ, gs, S, Ev, q⟩ := q
  exact q.done S⟩
theorem ts_one {c : Expr} {g : Sl → M Bool} (h : PXT X E c g) : PTsX X E [c] g := ⟨pts_one h.pt⟩
end
def E0 : XK := fun _ _ _ => False
theorem step_own {W W1 : Wd} {H H1 : Hp} {p : Addr} {o : HO} (s : Step NoB W W1 H H1) (n : H p = none) : Step NoB W W1 H (upd H1 p o) :=
  s.trans (Step.write (B := fun b => b = p) rfl fun _ _ => trivial) fun b e => .inr (e ▸ n)
section
variable {K : PySem.W.Frag} {E : XK} {src : Sl → M (List D × Bool)} {vs is : List Nat} {g : D → Sl → Option Sl} {tt : Sl → M Bool} {te : Sl → M RV}
/-- what stands at turn i of a comprehension: its new list at L -/
structure LcAt (K : PySem.W.Frag) (E : XK) (B : Addr → Prop) (Q : List D → Wd → Hp → GS → Prop) (ρ0 : Sl) (g : D → Sl → Option Sl) (tt : Sl → M Bool) (te : Sl → M RV) (ds : List D) (W1 : Wd) (H1 : Hp) (L : Addr) (i : Nat) (H : Hp) : Prop where
  ex : ∃ W gs acc ys, Step NoB W1 W H1 H ∧ StR K W H gs ∧ OwnAt K W H (.list ys) L ∧ H L = some (.lst acc) ∧ acc.length ≤ i ∧
    post K E W1 H1 (fun zs W' H' g' => Q (ys ++ zs) W' H' g') (compL ρ0 g tt te (ds.drop i) gs)
theorem lc_turns {J : It} {σ : Sg} {ρ : Sl} {W1 : Wd} {H1 : Hp} {gs1 : GS} {L : Addr} {a : List D × Bool} {Q : List D → Wd → Hp → GS → Prop} {Qd : Hp → Prop} (S1 : StR K W1 H1 gs1) (E1 : EnvR K W1 H1 ρ σ) {P : Addr → Prop} (hJ : ItR K J a.1 (relI a.2 P W1 H1)) (hL : H1 L = none) (hs : ∀ j ∈ is, j ∈ vs) (hz : a.1.length ≤ sizeLine)
    (q : post K E W1 H1 Q (compL (wipeS ρ vs) g tt te a.1 gs1))
    (hd : ∀ W H gs ys, Step NoB W1 W H1 H → StR K W H gs → OwnAt K W H (.list ys) L → Q ys W H gs → Qd H) :
    ∃ W : Nat → Nat → Hp → Prop, (∃ m, W 0 m (upd H1 L (.lst []))) ∧ ∀ i m H, W i m H →
      (J.stop i H ∧ Qd H) ∨ (J.go i H ∧ ∃ Nx : Hp → Prop, (∀ H', Nx H' → ∃ m', m' < m ∧ W (i + 1) m' H') ∧ ∀ x H', J.yld i H x H' → tXG K is g x (wipe σ vs) H' fun σ2 H2 => wipe σ2 vs = wipe σ vs ∧ tXT K E0 tt σ2 H2 fun b H3 =>
        if b = true then tX K E0 te σ2 H3 fun y H4 => ∃ acc, H4 L = some (.lst acc) ∧ acc.length < sizeLine ∧ Nx (upd H4 L (.lst (acc ++ [y]))) else Nx H3) := by
  have w : Walk J a.1.length (fun H => ∃ W gs, StR K W H gs ∧ relI a.2 P W1 H1 W H) (fun i H x H' => J.yld i H x H') :=
    ⟨fun i H hi ⟨W, gs, S, r⟩ => hJ.go i W H gs hi S r, fun H ⟨W, gs, S, r⟩ => hJ.stop W H gs S r, fun _ _ _ _ _ _ y => y⟩
  refine lc_it w (LcAt K E NoB Q (wipeS ρ vs) g tt te a.1 W1 H1 L) ⟨W1, gs1, [], [], step_new S1 hL, S1.new hL, own_new S1 hL .nil, upd_same, Nat.zero_le _, ?_⟩ (fun i H _ h => ?_) (fun i x H H' hi h y => ?_) fun H h => ?_
  · simpa using q
  · obtain ⟨W, gs, acc, ys, s, S, _⟩ := h.ex
    exact ⟨W, gs, S, relI.of s⟩
  · obtain ⟨W, gs, acc, ys, s, S, o, e, hl, p⟩ := h.ex
    obtain ⟨W2, d, s2, S2, e2, r2⟩ := hJ.yld i W H gs x H' hi S (relI.of s) y
    have o2 : OwnAt K W2 H' (.list ys) L := o.step s2 id
    have e3 : a.1.drop i = d :: a.1.drop (i + 1) := by
      rw [List.drop_eq_getElem_cons hi]
      have := List.getElem?_eq_getElem hi
      rw [this] at e2
      cases e2
      rfl
    rw [e3] at p
    cases et : calmM (turnL (wipeS ρ vs) g tt te d) gs with
    | stuck =>
      have p' : post K E W1 H1 (fun zs W' H' g' => Q (ys ++ zs) W' H' g') ((calmM (turnL (wipeS ρ vs) g tt te d) gs).bind fun o => bindM (compL (wipeS ρ vs) g tt te (a.1.drop (i + 1))) fun zs => retM (o.toList ++ zs)) := p
      rw [et] at p'
      exact p'.elim
    | exc z g0 =>
      exfalso
      unfold calmM at et
      split at et <;> cases et
    | ok o3 g3 =>
      have p' : post K E W1 H1 (fun zs W' H' g' => Q (ys ++ zs) W' H' g') ((calmM (turnL (wipeS ρ vs) g tt te d) gs).bind fun o => bindM (compL (wipeS ρ vs) g tt te (a.1.drop (i + 1))) fun zs => retM (o.toList ++ zs)) := p
      rw [et] at p'
      have p2 : post K E W1 H1 (fun zs W' H' g' => Q (ys ++ (o3.toList ++ zs)) W' H' g') (compL (wipeS ρ vs) g tt te (a.1.drop (i + 1)) g3) := by
        have p3 : post K E W1 H1 (fun zs W' H' g' => Q (ys ++ zs) W' H' g') ((compL (wipeS ρ vs) g tt te (a.1.drop (i + 1)) g3).bind fun zs => retM (o3.toList ++ zs)) := p'
        cases ec : compL (wipeS ρ vs) g tt te (a.1.drop (i + 1)) g3 with
        | ok zs g4 => rw [ec] at p3; exact p3
        | exc z g4 => rw [ec] at p3; exact p3
        | stuck => rw [ec] at p3; exact p3
      have et := calm_ok et
      have fin : ∀ {W3 H3}, Step NoB W2 W3 H' H3 → StR K W3 H3 g3 → o3 = none → LcAt K E NoB Q (wipeS ρ vs) g tt te a.1 W1 H1 L (i + 1) H3 := fun {W3 H3} s3 S3 eo => by
        subst eo
        have k3 : OwnAt K W3 H3 (.list ys) L := o2.step s3 id
        obtain ⟨acc3, k4, k5⟩ := own_list k3
        obtain ⟨acc4, k6, k7⟩ := own_list o
        have hle : acc3.length ≤ i := by
          rw [e] at k6
          cases k6
          rw [k5.length, ← k7.length]
          exact hl
        exact ⟨W3, g3, acc3, ys, (s.trans0 s2).trans0 s3, S3, k3, k4, Nat.le_succ_of_le hle, p2⟩
      have fin2 : ∀ {W3 H3 y v}, Step NoB W2 W3 H' H3 → StR K W3 H3 g3 → o3 = some y → Rp K W3.G v y → ∃ acc, H3 L = some (.lst acc) ∧ acc.length < sizeLine ∧ LcAt K E NoB Q (wipeS ρ vs) g tt te a.1 W1 H1 L (i + 1) (upd H3 L (.lst (acc ++ [v]))) := fun {W3 H3 y v} s3 S3 eo rv => by
        subst eo
        have k3 : OwnAt K W3 H3 (.list ys) L := o2.step s3 id
        obtain ⟨acc3, k4, k5⟩ := own_list k3
        obtain ⟨acc4, k6, k7⟩ := own_list o
        have hle : acc3.length ≤ i := by
          rw [e] at k6
          cases k6
          rw [k5.length, ← k7.length]
          exact hl
        refine ⟨acc3, k4, by omega, W3, g3, acc3 ++ [v], ys ++ [y], step_own ((s.trans0 s2).trans0 s3) hL, S3.write k3.g k3.a, ⟨⟨_, upd_same, k5.append (.cons rv .nil)⟩, k3.g, k3.a⟩, upd_same, by rw [List.length_append, List.length_singleton]; omega, ?_⟩
        simpa [List.append_assoc] using p2
      have Ew := ((E1.step s).step s2).wipe vs
      have pt : post K E0 W2 H' (fun o W3 H3 g4 => o = o3 ∧ g4 = g3) (turnL (wipeS ρ vs) g tt te d gs) := by
        rw [et]; exact fun _ _ _ _ => ⟨rfl, rfl⟩
      cases eg : g d (wipeS ρ vs) with
      | none =>
        have pt' : post K E0 W2 H' (fun o W3 H3 g4 => o = o3 ∧ g4 = g3) ((liftO (g d (wipeS ρ vs)) gs).bind fun ρ1 => bindM (tt ρ1) fun b => if b then useM (te ρ1) fun r => bindM (liftO (valOf r)) fun y => retM (some y) else retM none) := pt
        rw [eg] at pt'
        exact pt'.elim
      | some ρ1 =>
        have pt' : post K E0 W2 H' (fun o W3 H3 g4 => o = o3 ∧ g4 = g3) ((liftO (g d (wipeS ρ vs)) gs).bind fun ρ1 => bindM (tt ρ1) fun b => if b then useM (te ρ1) fun r => bindM (liftO (valOf r)) fun y => retM (some y) else retM none) := pt
        rw [eg] at pt'
        have pt2 : post K E0 W2 H' (fun o W3 H3 g4 => o = o3 ∧ g4 = g3) (bindM (tt ρ1) (fun b => if b then useM (te ρ1) fun r => bindM (liftO (valOf r)) fun y => retM (some y) else retM none) gs) := pt'
        refine ⟨W2, wipeS ρ vs, gs, d, ρ1, S2, Ew, r2, eg, fun σ2 E2 o4 l4 k4 => ⟨?_, ?_⟩⟩
        · exact wipe_eq (by rw [l4, wipe_length]) fun j hj => k4 j fun hm => hj (hs j hm)
        · refine tXT_use S2 E2 pt2 fun b W3 H3 gs3 s3 S3 E3 q3 => ?_
          cases b with
          | false =>
            simp only [Bool.false_eq_true, if_false] at q3 ⊢
            have q3 : post K E0 W3 H3 (fun o W3 H3 g4 => o = o3 ∧ g4 = g3) (.ok none gs3) := q3
            obtain ⟨e5, e6⟩ := q3.done S3
            subst e6
            exact fin s3 S3 e5.symm
          | true =>
            simp only [if_true] at q3 ⊢
            refine tX_use S3 E3 q3 fun r v W4 H4 gs4 s4 S4 E4 a4 q4 => ?_
            cases r with
            | val y =>
              have q4 : post K E0 W4 H4 (fun o W3 H3 g4 => o = o3 ∧ g4 = g3) (.ok (some y) gs4) := q4
              obtain ⟨e5, e6⟩ := q4.done S4
              subst e6
              exact fin2 (s3.trans0 s4) S4 e5.symm a4
            | _ => exact q4.elim
  · obtain ⟨W, gs, acc, ys, s, S, o, e, hl, p⟩ := h.ex
    rw [List.drop_length] at p
    have p : post K E W1 H1 (fun zs W' H' g' => Q (ys ++ zs) W' H' g') (.ok [] gs) := p
    have p2 : Q (ys ++ []) W H gs := p W H s S
    rw [List.append_nil] at p2
    exact hd W H gs ys s S o p2
theorem tX_lc {σ : Sg} {H : Hp} {Q : VK} (hs : ∀ j ∈ is, j ∈ vs) (q : tX K E (xLc src vs g tt te) σ H Q) : tLc (tXI K E src) (tXG K is g) (tXT K E0 tt) (tX K E0 te) vs σ H Q := by
  obtain ⟨W, ρ, gs, S, Ev, q⟩ := q
  refine ⟨W, ρ, gs, S, Ev, ?_⟩
  cases es : src ρ gs with
  | stuck =>
    have q' : post K E W H (QV K (Os ρ σ) H Q) ((src ρ gs).bind fun a => if a.1.length ≤ sizeLine then bindM (compL (wipeS ρ vs) g tt te a.1) fun ys => retM (.own (.list ys)) else stuckM) := q
    rw [es] at q'
    exact q'.elim
  | exc x g' =>
    have q' : post K E W H (QV K (Os ρ σ) H Q) ((src ρ gs).bind fun a => if a.1.length ≤ sizeLine then bindM (compL (wipeS ρ vs) g tt te a.1) fun ys => retM (.own (.list ys)) else stuckM) := q
    rw [es] at q'
    exact q'
  | ok a g1 =>
    have q' : post K E W H (QV K (Os ρ σ) H Q) ((src ρ gs).bind fun a => if a.1.length ≤ sizeLine then bindM (compL (wipeS ρ vs) g tt te a.1) fun ys => retM (.own (.list ys)) else stuckM) := q
    rw [es] at q'
    have q' : post K E W H (QV K (Os ρ σ) H Q) ((if a.1.length ≤ sizeLine then bindM (compL (wipeS ρ vs) g tt te a.1) fun ys => retM (.own (.list ys)) else stuckM) g1) := q'
    by_cases hz : a.1.length ≤ sizeLine
    · rw [if_pos hz] at q'
      have q1 : post K E W H (fun ys W' H' _ => ∀ v, RVR K (Os ρ σ) H W' H' (.own (.list ys)) v → Q v H') (compL (wipeS ρ vs) g tt te a.1 g1) := by
        have q2 : post K E W H (QV K (Os ρ σ) H Q) ((compL (wipeS ρ vs) g tt te a.1 g1).bind fun ys => retM (.own (.list ys))) := q'
        cases ec : compL (wipeS ρ vs) g tt te a.1 g1 with
        | ok zs g4 => rw [ec] at q2; exact q2
        | exc z g4 => rw [ec] at q2; exact q2
        | stuck => rw [ec] at q2; exact q2
      intro W1 H1 s1 S1 J hJ L hL
      refine lc_turns S1 (Ev.step s1) hJ hL hs hz (post.step s1 q1) fun W2 H2 gs2 ys s2 S2 o z => ?_
      exact z _ ⟨L, rfl, o, s1.none hL⟩
    · rw [if_neg hz] at q'; exact q'.elim
end
section
variable {X : Cx} {E : XK} {src : Sl → M (List D × Bool)} {is : List Nat} {g : D → Sl → Option Sl} {tt : Sl → M Bool} {te : Sl → M RV}
theorem x_lc {elt tg iter : Expr} {ifs : List Expr} {scope : Scope} {own : List (Str × Nat)} {pos : Pos} (hc : X.calm = true) (hN : X.N.Nodup) (hi : PIX X E tg iter src) (ok : BlkOk X.N X.env.scope scope own)
    (hg : ∀ (s : Shared) (H : Hp) (C : Addr) (cl : List (Str × Addr)) (fp : List Addr), PGX (X.blk s H scope (compEnvC scope cl C X.env) fp) tg is g) (ht : ∀ (s : Shared) (H : Hp) (C : Addr) (cl : List (Str × Addr)) (fp : List Addr), PTsX (X.blk s H scope (compEnvC scope cl C X.env) fp) E0 ifs tt)
    (he : ∀ (s : Shared) (H : Hp) (C : Addr) (cl : List (Str × Addr)) (fp : List Addr), PX (X.blk s H scope (compEnvC scope cl C X.env) fp) E0 elt te) (hv : ∀ j ∈ is, j ∈ own.map (·.2)) (hs : ∀ x, foldedSetIterable iter X.env x = pure x := by intro _; rfl) :
    PX X E (.ListComp elt [⟨tg, iter, ifs, 0⟩] scope pos) (xLc src (own.map (·.2)) g tt te) :=
  ⟨(pe_lc hc hN hi.pi ok (fun s H C cl fp => (hg s H C cl fp).pg) (fun s H C cl fp => (ht s H C cl fp).pt) (fun s H C cl fp => (he s H C cl fp).pe) hs).mono fun σ H Q q => tX_lc hv q⟩
end
end PL
set_option Elab.async false
set_option linter.all false
set_option maxRecDepth 100000
set_option maxHeartbeats 2000000
/-! PLn: a comprehension stored; loops. -/
namespace PL
open PySem PySem.Spec PyProof.Rows L2
section
variable {K : PySem.W.Frag} {E : XK} {D : Ends} {σ : Sg} {H : Hp} {i : Nat} {ge : Sl → M RV}
theorem tX_set (q : tXS K E (sSet i ge) D σ H) : tAsg (tX K E ge) (gName i) D σ H := by
  obtain ⟨W, ρ, gs, S, Ev, q⟩ := q
  refine tX_raw S Ev q fun r v W1 H1 gs1 s1 S1 E1 a1 q1 => ?_
  cases r with
  | val d => exact set_done (s := .val d) s1 S1 E1 a1 (fun _ _ z => by cases z) q1
  | own d =>
    obtain ⟨p, rfl, o, n⟩ := a1
    exact set_done (s := .own d) s1 S1 E1 ⟨p, rfl, o, fun h => Ev.fresh n h⟩ (fun _ _ _ z => by cases z; exact n) q1
  | obj n => exact set_done (s := .obj n) s1 S1 E1 a1 (fun _ _ z => by cases z) q1
  | bor d => exact q1.elim
theorem tX_setF (q : tXS K E (sSetF i ge) D σ H) : tAsg (tX K E ge) (gName i) D σ H := by
  obtain ⟨W, ρ, gs, S, Ev, q⟩ := q
  refine tX_useS S Ev q fun r v W1 H1 gs1 s1 S1 E1 a1 q1 => ?_
  cases r with
  | val d => exact set_done (s := .val d) .refl S1 E1 a1 (fun _ _ z => by cases z) q1
  | own d => exact a1.elim
  | obj n => exact set_done (s := .obj n) .refl S1 E1 a1 (fun _ _ z => by cases z) q1
  | bor d => exact q1.elim
end
section
variable {X : Cx} {E : XK} {src : Sl → M (List D × Bool)} {is : List Nat} {g : D → Sl → Option Sl} {tt : Sl → M Bool} {te : Sl → M RV} {i : Nat} {y : Str} {py : Pos} {spos : Pos}
section
variable {elt tg iter : Expr} {ifs : List Expr} {scope : Scope} {own : List (Str × Nat)} {pos : Pos} (hc : X.calm = true) (hN : X.N.Nodup) (hy : X.N[i]? = some y) (hyl : X.env.scope.names.lookup y = some .local)
    (hsw : swapsWith (.ListComp elt [⟨tg, iter, ifs, 0⟩] scope pos) (some (.Name y py)) spos.line X.env = pure true) (hi : PIX X E tg iter src) (ok : BlkOk X.N X.env.scope scope own)
    (hg : ∀ (s : Shared) (H : Hp) (C : Addr) (cl : List (Str × Addr)) (fp : List Addr), PGX (X.blk s H scope (compEnvC scope cl C X.env) fp) tg is g) (ht : ∀ (s : Shared) (H : Hp) (C : Addr) (cl : List (Str × Addr)) (fp : List Addr), PTsX (X.blk s H scope (compEnvC scope cl C X.env) fp) E0 ifs tt)
    (he : ∀ (s : Shared) (H : Hp) (C : Addr) (cl : List (Str × Addr)) (fp : List Addr), PX (X.blk s H scope (compEnvC scope cl C X.env) fp) E0 elt te) (hv : ∀ j ∈ is, j ∈ own.map (·.2)) (hs : ∀ x, foldedSetIterable iter X.env x = pure x)
include hc hN hy hyl hsw hi ok hg ht he hv hs
theorem s_setLc : PXS X E (.Assign [.Name y py] (.ListComp elt [⟨tg, iter, ifs, 0⟩] scope pos) spos) (sSet i (xLc src (own.map (·.2)) g tt te)) :=
  ⟨(ps_setLc hc hN hy hyl hsw hi.pi ok (fun s H C cl fp => (hg s H C cl fp).pg) (fun s H C cl fp => (ht s H C cl fp).pt) (fun s H C cl fp => (he s H C cl fp).pe) hs).mono fun D σ H q => tX_lc hv (tX_set q)⟩
theorem s_setLcF : PXS X E (.Assign [.Name y py] (.ListComp elt [⟨tg, iter, ifs, 0⟩] scope pos) spos) (sSetF i (xLc src (own.map (·.2)) g tt te)) :=
  ⟨(ps_setLc hc hN hy hyl hsw hi.pi ok (fun s H C cl fp => (hg s H C cl fp).pg) (fun s H C cl fp => (ht s H C cl fp).pt) (fun s H C cl fp => (he s H C cl fp).pe) hs).mono fun D σ H q => tX_lc hv (tX_setF q)⟩
end
end

/-! ### for -/
/-- a body run for each item; brk ends it -/
def forL (g : D → Sl → Option Sl) (tb : Sl → M Out) : List D → Sl → M Out
  | [], ρ => retM (.nx ρ)
  | d :: ds, ρ => bindM (liftO (g d ρ)) fun ρ1 => bindM (tb ρ1) fun o => match o with
    | .nx ρ2 => forL g tb ds ρ2
    | .cnt ρ2 => forL g tb ds ρ2
    | .brk ρ2 => retM (.nx ρ2)
    | .ret r => retM (.ret r)
def sFor (src : Sl → M (List D × Bool)) (g : D → Sl → Option Sl) (tb : Sl → M Out) : Sl → M Out := fun ρ => bindM (src ρ) fun a => if a.2 = false then forL g tb a.1 ρ else stuckM
section
variable {K : PySem.W.Frag} {E : XK} {src : Sl → M (List D × Bool)} {is : List Nat} {g : D → Sl → Option Sl} {tb : Sl → M Out}
theorem Ends.fix (D : Ends) : ({ nx := D.nx, rt := D.rt, bk := D.bk, ct := D.ct } : Ends) = D := rfl
/-- the state at turn i of a for -/
def ForAt (K : PySem.W.Frag) (E : XK) (De : Ends) (g : D → Sl → Option Sl) (tb : Sl → M Out) (ds : List D) (W1 : Wd) (i : Nat) (σ : Sg) (H : Hp) : Prop :=
  ∃ W ρ gs, W1.Le W ∧ StR K W H gs ∧ EnvR K W H ρ σ ∧ postS K E De ρ σ W H (forL g tb (ds.drop i) ρ gs)
theorem tXS_for {D : Ends} {σ : Sg} {H : Hp} (q : tXS K E (sFor src g tb) D σ H) : tFor (tXI K E src) (tXG K is g) (tXS K E tb) D σ H := by
  obtain ⟨W, ρ, gs, S, Ev, q⟩ := q
  refine ⟨W, ρ, gs, S, Ev, ?_⟩
  cases es : src ρ gs with
  | stuck =>
    have q' : postS K E D ρ σ W H ((src ρ gs).bind fun a => if a.2 = false then forL g tb a.1 ρ else stuckM) := q
    rw [es] at q'
    exact q'.elim
  | exc x g' =>
    have q' : postS K E D ρ σ W H ((src ρ gs).bind fun a => if a.2 = false then forL g tb a.1 ρ else stuckM) := q
    rw [es] at q'
    exact fun cls dd W' H' s' S' X' => q' cls dd W' H' s'.weak S' X'
  | ok a g1 =>
    have q' : postS K E D ρ σ W H ((src ρ gs).bind fun a => if a.2 = false then forL g tb a.1 ρ else stuckM) := q
    rw [es] at q'
    have q' : postS K E D ρ σ W H ((if a.2 = false then forL g tb a.1 ρ else stuckM) g1) := q'
    obtain ⟨ds, b⟩ := a
    cases b with
    | true => exact q'.elim
    | false =>
      have q1 : postS K E D ρ σ W H (forL g tb ds ρ g1) := q'
      intro W1 H1 s1 S1 J hJ
      have w : Walk J ds.length (fun H => ∃ W gs, StR K W H gs ∧ W1.Le W) (fun i H x H' => J.yld i H x H') :=
        ⟨fun i H hi ⟨W, gs, S, r⟩ => hJ.go i W H gs hi S r, fun H ⟨W, gs, S, r⟩ => hJ.stop W H gs S r, fun _ _ _ _ _ _ y => y⟩
      refine for_it w (ForAt K E D g tb ds W1) ⟨W1, ρ, g1, .refl W1, S1, Ev.step s1, by simpa using postS.step0 s1 q1⟩ (fun i σ H _ h => ?_) (fun i x σ H H' hi h y => ?_) fun σ H h => ?_
      · obtain ⟨W, ρ, gs, l, S, _⟩ := h
        exact ⟨W, gs, S, l⟩
      · obtain ⟨W, ρ, gs, l, S, Ev, p⟩ := h
        obtain ⟨W2, d, s2, S2, e2, r2⟩ := hJ.yld i W H gs x H' hi S l y
        have e3 : ds.drop i = d :: ds.drop (i + 1) := by
          rw [List.drop_eq_getElem_cons hi]
          have := List.getElem?_eq_getElem hi
          rw [this] at e2
          cases e2
          rfl
        rw [e3] at p
        have p := postS.step0 s2 p
        obtain ⟨ρ1, e4, p⟩ := post_bindS (K := K) p
        refine ⟨W2, ρ, gs, d, ρ1, S2, Ev.step s2, r2, e4, fun σ2 E2 o2 l2 k2 => ?_⟩
        have oin : OsIn ρ σ ρ1 σ2 H' := fun p hp => .inl (o2 p hp)
        have p2 := postS.step (W1 := W2) (H1 := H') .refl oin p
        refine ⟨W2, ρ1, gs, S2, E2, ?_⟩
        have p3 : postS K E D ρ1 σ2 W2 H' ((tb ρ1 gs).bind fun o => match o with
          | .nx ρ2 => forL g tb (ds.drop (i + 1)) ρ2
          | .cnt ρ2 => forL g tb (ds.drop (i + 1)) ρ2
          | .brk ρ2 => retM (.nx ρ2)
          | .ret r => retM (.ret r)) := p2
        cases et : tb ρ1 gs with
        | stuck => rw [et] at p3; exact p3.elim
        | exc z g0 => rw [et] at p3; exact p3
        | ok o g0 =>
          rw [et] at p3
          cases o with
          | nx ρ2 => exact fun σ3 W3 H3 s3 o3 S3 E3 => ⟨W3, ρ2, g0, (l.trans s2.le).trans s3.le, S3, E3, postS.step s3 o3 p3⟩
          | cnt ρ2 => exact fun σ3 W3 H3 s3 o3 S3 E3 => ⟨W3, ρ2, g0, (l.trans s2.le).trans s3.le, S3, E3, postS.step s3 o3 p3⟩
          | brk ρ2 => exact p3
          | ret r => exact p3
      · obtain ⟨W, ρ, gs, l, S, Ev, p⟩ := h
        rw [List.drop_length] at p
        exact postS.nx p S Ev
end
section
variable {X : Cx} {E : XK} {src : Sl → M (List D × Bool)} {is : List Nat} {g : D → Sl → Option Sl} {tb : Sl → M Out}
theorem s_for {tg iter : Expr} {body : List Stmt} {pos : Pos} (hp : PassesOwn (model X.prog X.w) X.A X.env X.xe) (hc : X.calm = true) (hi : PIX X E tg iter src) (hg : PGX X tg is g) (hb : PXB X E body tb)
    (hs : ∀ x, foldedSetIterable iter X.env x = pure x := by intro _; rfl) : PXS X E (.For tg iter body [] pos) (sFor src g tb) :=
  ⟨(ps_for hp hc hi.pi hg.pg hb.ps hs).mono fun D σ H q => tXS_for q⟩
end
/-! ### while: as far as n turns -/
def whileL (tc : Sl → M Bool) (tb : Sl → M Out) : Nat → Sl → M Out
  | 0, _ => stuckM
  | n + 1, ρ => bindM (tc ρ) fun k => if k then bindM (tb ρ) fun o => (match o with
    | .nx ρ2 => whileL tc tb n ρ2
    | .cnt ρ2 => whileL tc tb n ρ2
    | .brk ρ2 => retM (.nx ρ2)
    | .ret r => retM (.ret r)) else retM (.nx ρ)
theorem whileL_mono {tc : Sl → M Bool} {tb : Sl → M Out} : ∀ {n m : Nat} {ρ : Sl} {gs : GS}, n ≤ m → whileL tc tb n ρ gs ≠ .stuck → whileL tc tb m ρ gs = whileL tc tb n ρ gs
  | 0, _, _, _, _, h => absurd rfl h
  | n + 1, 0, _, _, l, _ => by omega
  | n + 1, m + 1, ρ, gs, l, h => by
    unfold whileL at h ⊢
    unfold bindM at h ⊢
    cases e : tc ρ gs with
    | stuck => rfl
    | exc x g => rfl
    | ok k g =>
      rw [e] at h
      cases k with
      | false => rfl
      | true =>
        have h2 : ((tb ρ g).bind fun o => (match o with
          | .nx ρ2 => whileL tc tb n ρ2
          | .cnt ρ2 => whileL tc tb n ρ2
          | .brk ρ2 => retM (.nx ρ2)
          | .ret r => retM (.ret r))) ≠ .stuck := h
        show ((tb ρ g).bind fun o => (match o with
          | .nx ρ2 => whileL tc tb m ρ2
          | .cnt ρ2 => whileL tc tb m ρ2
          | .brk ρ2 => retM (.nx ρ2)
          | .ret r => retM (.ret r))) = ((tb ρ g).bind fun o => (match o with
          | .nx ρ2 => whileL tc tb n ρ2
          | .cnt ρ2 => whileL tc tb n ρ2
          | .brk ρ2 => retM (.nx ρ2)
          | .ret r => retM (.ret r)))
        cases e2 : tb ρ g with
        | stuck => rfl
        | exc x g => rfl
        | ok o g =>
          rw [e2] at h2
          cases o with
          | nx ρ2 => exact whileL_mono (by omega) h2
          | cnt ρ2 => exact whileL_mono (by omega) h2
          | brk ρ2 => rfl
          | ret r => rfl
section
variable {X : Cx} {E : XK} {tc : Sl → M Bool} {tb : Sl → M Out}
theorem tXS_while {K : PySem.W.Frag} {n : Nat} {De : Ends} {σ : Sg} {H : Hp} (q : tXS K E (whileL tc tb n) De σ H) : tWhile (tXT K E tc) (tXS K E tb) De σ H := by
  refine ⟨fun m σ H => ∃ W ρ gs, StR K W H gs ∧ EnvR K W H ρ σ ∧ postS K E De ρ σ W H (whileL tc tb m ρ gs), ⟨n, q⟩, fun m σ H h => ?_⟩
  obtain ⟨W, ρ, gs, S, Ev, p⟩ := h
  cases m with
  | zero => exact p.elim
  | succ m =>
    refine tXT_useS S Ev p fun b W1 H1 gs1 s1 S1 E1 q1 => ?_
    cases b with
    | false =>
      rw [if_neg Bool.false_ne_true]
      exact postS.nx q1 S1 E1
    | true =>
      rw [if_pos rfl]
      refine ⟨_, fun σ' H' h => ⟨m, Nat.lt_succ_self m, h⟩, W1, ρ, gs1, S1, E1, ?_⟩
      have q2 : postS K E De ρ σ W1 H1 ((tb ρ gs1).bind fun o => (match o with
        | .nx ρ2 => whileL tc tb m ρ2
        | .cnt ρ2 => whileL tc tb m ρ2
        | .brk ρ2 => retM (.nx ρ2)
        | .ret r => retM (.ret r))) := q1
      cases et : tb ρ gs1 with
      | stuck => rw [et] at q2; exact q2.elim
      | exc z g0 => rw [et] at q2; exact q2
      | ok o g0 =>
        rw [et] at q2
        cases o with
        | nx ρ2 => exact fun σ3 W3 H3 s3 o3 S3 E3 => ⟨W3, ρ2, g0, S3, E3, postS.step s3 o3 q2⟩
        | cnt ρ2 => exact fun σ3 W3 H3 s3 o3 S3 E3 => ⟨W3, ρ2, g0, S3, E3, postS.step s3 o3 q2⟩
        | brk ρ2 => exact q2
        | ret r => exact q2
theorem s_while {n : Nat} {c : Expr} {body : List Stmt} {pos : Pos} (hp : PassesOwn (model X.prog X.w) X.A X.env X.xe) (hc : PXT X E c tc) (hb : PXB X E body tb) : PXS X E (.While c body [] pos) (whileL tc tb n) :=
  ⟨(ps_while hp hc.pt hb.ps).mono fun D σ H q => tXS_while q⟩
end
end PL
set_option Elab.async false
set_option linter.all false
set_option maxRecDepth 100000
set_option maxHeartbeats 2000000
/-! PLo: stores into owned lists, dicts and into streams; several targets. -/
namespace PL
open PySem PySem.Spec PyProof.Rows L2
def putD (kvs : List (D × D)) (k : D) (v : D) : List (D × D) :=
  if (kvs.any fun kv => decide (keyD kv.1 = keyD k)) = true then kvs.map (fun kv => if keyD kv.1 = keyD k then (kv.1, v) else kv) else kvs ++ [(k, v)]
section
variable {K : PySem.W.Frag} {G : Hp}
theorem RpKv.append : ∀ {vs : List (Key × V)} {ds : List (D × D)} {vs' : List (Key × V)} {ds' : List (D × D)}, RpKv K G vs ds → RpKv K G vs' ds' → RpKv K G (vs ++ vs') (ds ++ ds')
  | _, _, _, _, .nil, h => h
  | _, _, _, _, .cons e r t, h => .cons e r (RpKv.append t h)
theorem RpKv.any {k : D} {k' : Key} (ek : keyD k = some k') : ∀ {vs : List (Key × V)} {ds : List (D × D)}, RpKv K G vs ds → (vs.any fun kv => decide (kv.1 = k')) = ds.any fun kv => decide (keyD kv.1 = keyD k)
  | _, _, .nil => rfl
  | _, _, .cons e r t => by
    rw [List.any_cons, List.any_cons, RpKv.any ek t, e, ek]
    simp
theorem RpKv.mapPut {k d : D} {k' : Key} {v : V} (ek : keyD k = some k') (r : Rp K G v d) : ∀ {vs : List (Key × V)} {ds : List (D × D)}, RpKv K G vs ds → RpKv K G (vs.map fun kv => if kv.1 = k' then (kv.1, v) else kv) (ds.map fun kv => if keyD kv.1 = keyD k then (kv.1, d) else kv)
  | _, _, .nil => .nil
  | (k1, v1) :: vs, (k2, d2) :: ds, .cons e r1 t => by
    rw [List.map_cons, List.map_cons]
    have ih := RpKv.mapPut ek r t
    by_cases h : k1 = k'
    · rw [if_pos h, if_pos (by rw [e, ek, h])]
      exact .cons e r ih
    · rw [if_neg h, if_neg (by rw [e, ek]; exact fun z => h (Option.some.inj z))]
      exact .cons e r1 ih
theorem RpKv.put {k d : D} {k' : Key} {v : V} {vs : List (Key × V)} {ds : List (D × D)} (h : RpKv K G vs ds) (ek : keyD k = some k') (r : Rp K G v d) : RpKv K G (putK vs k' v) (putD ds k d) := by
  unfold putK putD
  rw [RpKv.any ek h]
  by_cases c : (ds.any fun kv => decide (keyD kv.1 = keyD k)) = true
  · rw [if_pos c, if_pos c]; exact RpKv.mapPut ek r h
  · rw [if_neg c, if_neg c]; exact h.append (.cons ek r .nil)
theorem SOk.set {H : Hp} {c' k' : Int} : ∀ {gs : GS} {as : List (Addr × Addr)} {n : Nat} {ns : List Int} {c k : Int} {a l : Addr}, SOk K G H gs as → (as.map (·.1)).Nodup → gs[n]? = some (.strm ns c k) → as[n]? = some (a, l) →
    SOk K G (upd H a (.lst [.ref l, .int c', .int k'])) (gs.set n (.strm ns c' k')) as
  | [], _, _, _, _, _, _, _, _, _, e, _ => by simp at e
  | .strm .. :: r, [], _, _, _, _, _, _, h, _, _, _ => h.elim
  | .strm ns c k :: r, (a, l) :: as, 0, ns', c1, k1, a', l', h, nd, e, e' => by
    simp at e e'
    obtain ⟨rfl, rfl, rfl⟩ := e
    obtain ⟨rfl, rfl⟩ := e'
    rw [List.map_cons, List.nodup_cons] at nd
    rw [List.set_cons_zero]
    refine ⟨⟨upd_same, h.1.2⟩, SOk.keep (Same.refl _) (fun p o hp ep => ?_) h.2⟩
    rw [upd_ne (fun z => by subst z; exact nd.1 hp)]
    exact ep
  | .strm ns0 c0 k0 :: r, (a0, l0) :: as, n + 1, ns, c, k, a, l, h, nd, e, e' => by
    rw [List.map_cons, List.nodup_cons] at nd
    rw [List.set_cons_succ]
    have e1 : as[n]? = some (a, l) := by simpa using e'
    have ha : a ∈ as.map (·.1) := List.mem_map.mpr ⟨(a, l), List.mem_of_getElem? e1, rfl⟩
    refine ⟨⟨?_, h.1.2⟩, SOk.set h.2 nd.2 (by simpa using e) e1⟩
    rw [upd_ne (fun z => by subst z; exact nd.1 ha)]
    exact h.1.1
end
/-- o[i] = v, by plain data -/
def storeM (ρ : Sl) (j : Nat) (ri : RV) (v : D) : M Out := fun gs => match ρ[j]? with
  | some (.own (.list ds)) => bindM (liftO (intOfR ri)) (fun k => bindM (liftO (ixN ds.length k)) fun n => retM (.nx (ρ.set j (.own (.list (ds.set n v)))))) gs
  | some (.own (.dict kvs)) => bindM (liftO (valOf ri)) (fun k => if (keyD k).isSome ∧ kvs.length < sizeLine then retM (.nx (ρ.set j (.own (.dict (putD kvs k v))))) else stuckM) gs
  | some (.obj n) => (match gs[n]?, rd ri, v with
    | some (.strm ns _ k), some (.int 1), .int z => .ok (.nx ρ) (gs.set n (.strm ns z k))
    | some (.strm ns c _), some (.int 2), .int z => .ok (.nx ρ) (gs.set n (.strm ns c z))
    | _, _, _ => .stuck)
  | _ => .stuck
def hasSlot (ρ : Sl) (j : Nat) : Option Unit := match ρ[j]? with
  | some (.own _) => some ()
  | some (.obj _) => some ()
  | _ => none
theorem hasSlot_some {K : PySem.W.Frag} {W : Wd} {H : Hp} {ρ : Sl} {σ : Sg} {j : Nat} {u : Unit} (Ev : EnvR K W H ρ σ) (e : hasSlot ρ j = some u) : ∃ a, σ[j]? = some (some (V.ref a)) := by
  unfold hasSlot at e
  split at e
  · rename_i d e1; obtain ⟨p, e2, _⟩ := Ev.own j d e1; exact ⟨p, e2⟩
  · rename_i n e1; obtain ⟨a, l, e2, _⟩ := Ev.obj j n e1; exact ⟨a, e2⟩
  · cases e
def sStore (j : Nat) (gi ge : Sl → M RV) : Sl → M Out := fun ρ => useM (ge ρ) fun rv => bindM (liftO (valOf rv)) fun v => bindM (liftO (hasSlot ρ j)) fun _ => useM (gi ρ) fun ri => storeM ρ j ri v
def rSetA : TSet := fun o i v H Q => rSetL o i v H Q ∨ rSetD o i v H Q
theorem set_any {X : Cx} (hu : X.A.units + 1 < cLine) : PSet X rSetA := fun pins s σ H o i v ov iv u Q I ro ri rv h => by
  rcases h with h | h
  · exact set_list pins s σ H o i v ov iv u Q I ro ri rv h
  · exact set_dict hu pins s σ H o i v ov iv u Q I ro ri rv h
section
variable {K : PySem.W.Frag} {E : XK} {W W1 : Wd} {H H1 : Hp} {gs : GS} {ρ : Sl} {σ : Sg}
theorem Step.writeM {B : Addr → Prop} {p : Addr} {o' : HO} (m : W.mut p) (t : ∃ o, H p = some o) : Step B W W H (upd H p o') where
  le := .refl W
  keep := fun b u e nm _ => by rw [upd_ne (fun z => by subst z; exact nm m)]; exact e
  there := fun b u e => by
    by_cases h : b = p
    · subst h; exact ⟨o', upd_same⟩
    · exact ⟨u, by rw [upd_ne h]; exact e⟩
  nog := fun _ _ _ g _ => g
  noa := fun _ _ _ m => m
theorem StR.writeM {n : Nat} {ns : List Int} {c k c' k' : Int} {a l : Addr} (S : StR K W H gs) (e : gs[n]? = some (.strm ns c k)) (e' : W.am[n]? = some (a, l)) : StR K W (upd H a (.lst [.ref l, .int c', .int k'])) (gs.set n (.strm ns c' k')) where
  sub := fun b u q => by
    have ga : W.G a = none := S.fr a (List.mem_map.mpr ⟨(a, l), List.mem_of_getElem? e', rfl⟩)
    rw [upd_ne (ne_of_none q ga)]
    exact S.sub b u q
  st := SOk.set S.st S.nd e e'
  nd := S.nd
  fr := S.fr
theorem store_core {De : Ends} {j : Nat} {ri : RV} {d : D} {o i v : V} (S : StR K W H gs) (Ev : EnvR K W H ρ σ) (eo : σ[j]? = some (some o)) (ai : ArgR K (Os ρ σ) W H ri i) (av : Rp K W.G v d) (q : postS K E De ρ σ W H (storeM ρ j ri d gs)) : rSetA o i v H fun H' => De.nx σ H' := by
  unfold storeM at q
  split at q
  · rename_i ds e1
    obtain ⟨k, e2, q⟩ := post_bindS (K := K) q
    obtain ⟨n, e3, q⟩ := post_bindS (K := K) q
    obtain ⟨p, e4, ow⟩ := Ev.own j _ e1
    rw [eo] at e4
    cases e4
    obtain ⟨vs, h1, h2⟩ := own_list ow
    cases ai.int (intOfR_some e2)
    exact .inl ⟨p, vs, k, n, rfl, rfl, h1, by rw [h2.length]; exact e3, own_write (d' := .list (ds.set n d)) S Ev e1 eo ⟨_, upd_same, h2.set av n⟩ q⟩
  · rename_i kvs e1
    obtain ⟨k, e2, q⟩ := post_bindS (K := K) q
    obtain ⟨⟨hk, hl⟩, q⟩ := post_iteS (K := K) q
    obtain ⟨p, e4, ow⟩ := Ev.own j _ e1
    rw [eo] at e4
    cases e4
    obtain ⟨vs, h1, h2⟩ := own_dict ow
    obtain ⟨k', ek⟩ := Option.isSome_iff_exists.mp hk
    have ei : i = kV k' := by
      cases ri with
      | val d0 => cases e2; exact keyD_kV ai ek
      | _ => cases e2
    subst ei
    exact .inr ⟨p, _, rfl, DPut.k h1 (by rw [h2.length]; exact hl), own_write (d' := .dict (putD kvs k d)) S Ev e1 eo ⟨_, upd_same, h2.put ek av⟩ q⟩
  · rename_i n e1
    obtain ⟨a, l, e2, e3⟩ := Ev.obj j n e1
    rw [eo] at e2
    cases e2
    have mu : W.mut a := List.mem_map.mpr ⟨(a, l), List.mem_of_getElem? e3, rfl⟩
    have fin : ∀ {o'}, Step NoB W W H (upd H a o') := fun {o'} => Step.writeM mu (S.there mu)
    split at q
    · rename_i ns c k z e4 e5
      obtain ⟨a', l', e6, e7, _⟩ := SOk.get S.st e4
      rw [e3] at e6
      cases e6
      cases ai.int e5
      cases av
      refine .inl ⟨a, _, 1, 1, rfl, rfl, e7, rfl, ?_⟩
      exact q σ W _ (fin.weak) OsIn.refl (StR.writeM S e4 e3) (Ev.step fin)
    · rename_i ns c k z e4 e5
      obtain ⟨a', l', e6, e7, _⟩ := SOk.get S.st e4
      rw [e3] at e6
      cases e6
      cases ai.int e5
      cases av
      refine .inl ⟨a, _, 2, 2, rfl, rfl, e7, rfl, ?_⟩
      exact q σ W _ (fin.weak) OsIn.refl (StR.writeM S e4 e3) (Ev.step fin)
    · exact q.elim
  · exact q.elim
end
section
variable {X : Cx} {E : XK} {e i : Expr} {ge gi : Sl → M RV} {j : Nat} {x : Str} {p pos tpos : Pos}
theorem s_store (hu : X.A.units + 1 < cLine) (hv : PE X (.Name x p) (tVar j)) (hi : PX X E i gi) (he : PX X E e ge)
    (ha : ∀ v, assign (.Subscript (.Name x p) i tpos) X.env v = (do
      let ov ← holding [v] (eval (.Name x p) X.env)
      let iv ← holding [v, ov] (eval i X.env)
      standAt tpos
      holding [v, ov, iv] (setItem ov iv v)
      release [v, ov, iv] []) := by intro _; rfl)
    (hs : swapsWithSole [.Subscript (.Name x p) i tpos] e pos.line X.env = pure false := by rfl) (hw : swappedStores [.Subscript (.Name x p) i tpos] e X.env = pure none := by rfl)
    (h1 : (assignEach [.Subscript (.Name x p) i tpos] X.env).map (·.2) = [assign (.Subscript (.Name x p) i tpos) X.env] := by rfl) : PXS X E (.Assign [.Subscript (.Name x p) i tpos] e pos) (sStore j gi ge) :=
  ⟨(ps_asg he.pe (pg_sub hv hi.pe (set_any hu) ha) hs hw h1).mono fun D σ H q => by
    obtain ⟨W, ρ, gs, S, Ev, q⟩ := q
    refine tX_useS S Ev q fun r v W1 H1 gs1 s1 S1 E1 a1 q1 => ?_
    obtain ⟨d, e1, q1⟩ := post_bindS q1
    have av : Rp X.K W1.G v d := by
      cases r with
      | val d0 => cases e1; exact a1
      | _ => cases e1
    obtain ⟨u, e2, q1⟩ := post_bindS q1
    obtain ⟨o, eo⟩ := hasSlot_some E1 e2
    refine ⟨_, eo, ?_⟩
    refine tX_useS S1 E1 q1 fun r2 v2 W2 H2 gs2 s2 S2 E2 a2 q2 => ?_
    exact store_core S2 E2 eo a2 (Rp.same s2.le.g _ _ av) q2⟩
end
end PL
set_option Elab.async false
set_option linter.all false
set_option maxRecDepth 100000
set_option maxHeartbeats 2000000
/-! PLp: comprehensions of one and of two clauses, whatever takes what they give. -/
namespace PL
open PySem PySem.Spec PyProof.Rows L2

/-- what takes the items: an object at L -/
structure AccOk (K : PySem.W.Frag) (L : Addr) (R : Wd → Hp → List D → Prop) (On : V → Hp → (Hp → Prop) → Prop) (okT : List D → Prop) : Prop where
  step : ∀ {W W' : Wd} {H H' : Hp} {ys : List D}, R W H ys → Step NoB W W' H H' → R W' H' ys
  push : ∀ {W : Wd} {H : Hp} {gs : GS} {ys zs : List D} {y : D} {v : V} {Nx : Hp → Prop}, StR K W H gs → R W H ys → Rp K W.G v y → okT (ys ++ y :: zs) →
    (∀ o, R W (upd H L o) (ys ++ [y]) → StR K W (upd H L o) gs → Step (fun b => b = L) W W H (upd H L o) → Nx (upd H L o)) → On v H Nx
theorem EnvR.stepB {K : PySem.W.Frag} {W W' : Wd} {H H' : Hp} {ρ : Sl} {σ : Sg} {B : Addr → Prop} (E : EnvR K W H ρ σ) (s : Step B W W' H H') (n : ∀ p, Os ρ σ p → ¬ B p) : EnvR K W' H' ρ σ where
  len := E.len
  val := fun i d e => by
    obtain ⟨v, e1, e2⟩ := E.val i d e
    exact ⟨v, e1, Rp.same s.le.g _ _ e2⟩
  obj := fun i n e => by
    obtain ⟨a, l, e1, e2⟩ := E.obj i n e
    exact ⟨a, l, e1, s.le.at e2⟩
  own := fun i d e => by
    obtain ⟨p, e1, e2⟩ := E.own i d e
    exact ⟨p, e1, e2.step s (n p ⟨i, d, e, e1⟩)⟩
  inj := E.inj
theorem compL_ne {ρ0 : Sl} {g : D → Sl → Option Sl} {tt : Sl → M Bool} {te : Sl → M RV} : ∀ {ds : List D} {gs : GS} {x : Exn} {g' : GS}, compL ρ0 g tt te ds gs ≠ .exc x g'
  | [], _, _, _, h => by cases h
  | d :: ds, gs, x, g', h => by
    unfold compL at h
    cases e : calmM (turnL ρ0 g tt te d) gs with
    | stuck =>
      have h' : ((calmM (turnL ρ0 g tt te d) gs).bind fun o => bindM (compL ρ0 g tt te ds) fun ys => retM (o.toList ++ ys)) = .exc x g' := h
      rw [e] at h'
      cases h'
    | exc z g0 =>
      unfold calmM at e
      split at e <;> cases e
    | ok o g1 =>
      have h' : ((calmM (turnL ρ0 g tt te d) gs).bind fun o => bindM (compL ρ0 g tt te ds) fun ys => retM (o.toList ++ ys)) = .exc x g' := h
      rw [e] at h'
      have h2 : ((compL ρ0 g tt te ds g1).bind fun ys => retM (o.toList ++ ys)) = .exc x g' := h'
      cases e2 : compL ρ0 g tt te ds g1 with
      | stuck => rw [e2] at h2; cases h2
      | ok ys g2 => rw [e2] at h2; cases h2
      | exc z g2 => exact compL_ne e2
theorem compL_cons {ρ0 : Sl} {g : D → Sl → Option Sl} {tt : Sl → M Bool} {te : Sl → M RV} {d : D} {ds : List D} {gs gf : GS} {zs : List D} (h : compL ρ0 g tt te (d :: ds) gs = .ok zs gf) :
    ∃ o g1 ys, turnL ρ0 g tt te d gs = .ok o g1 ∧ compL ρ0 g tt te ds g1 = .ok ys gf ∧ zs = o.toList ++ ys := by
  unfold compL at h
  cases e : calmM (turnL ρ0 g tt te d) gs with
  | stuck =>
    have h' : ((calmM (turnL ρ0 g tt te d) gs).bind fun o => bindM (compL ρ0 g tt te ds) fun ys => retM (o.toList ++ ys)) = .ok zs gf := h
    rw [e] at h'
    cases h'
  | exc z g0 =>
    unfold calmM at e
    split at e <;> cases e
  | ok o g1 =>
    have h' : ((calmM (turnL ρ0 g tt te d) gs).bind fun o => bindM (compL ρ0 g tt te ds) fun ys => retM (o.toList ++ ys)) = .ok zs gf := h
    rw [e] at h'
    have h2 : ((compL ρ0 g tt te ds g1).bind fun ys => retM (o.toList ++ ys)) = .ok zs gf := h'
    cases e2 : compL ρ0 g tt te ds g1 with
    | stuck => rw [e2] at h2; cases h2
    | ok ys g2 => rw [e2] at h2; cases h2; exact ⟨o, g1, ys, calm_ok e, e2, rfl⟩
    | exc z g2 => rw [e2] at h2; cases h2
theorem drop_cons {α : Type} {l : List α} {i : Nat} {a : α} (e : l[i]? = some a) : l.drop i = a :: l.drop (i + 1) := by
  obtain ⟨hi, rfl⟩ := List.getElem?_eq_some_iff.mp e
  exact List.drop_eq_getElem_cons hi
section
variable {K : PySem.W.Frag} {g : D → Sl → Option Sl} {tt : Sl → M Bool} {te : Sl → M RV} {vs is : List Nat} {R : Wd → Hp → List D → Prop} {On : V → Hp → (Hp → Prop) → Prop} {okT : List D → Prop} {L : Addr}
/-- one clause that walks ds1 from (W0, H0) and puts what it gives at L -/
theorem acc_turns {J : It} {σ : Sg} {ρ : Sl} {W0 : Wd} {H0 : Hp} {gs0 gf : GS} {ds ys0 zs0 rest : List D} {P : Addr → Prop} {b : Bool} {Nx : Hp → Prop} (A : AccOk K L R On okT) (S0 : StR K W0 H0 gs0) (E0' : EnvR K W0 H0 ρ σ) (R0 : R W0 H0 ys0) (hJ : ItR K J ds (relI b P W0 H0)) (hP : ¬ P L) (hL : ¬ Os ρ σ L) (hs : ∀ j ∈ is, j ∈ vs)
    (e0 : compL (wipeS ρ vs) g tt te ds gs0 = .ok zs0 gf) (hok : okT (ys0 ++ (zs0 ++ rest)))
    (hd : ∀ W H, Step (fun b => b = L) W0 W H0 H → StR K W H gf → R W H (ys0 ++ zs0) → Nx H) :
    ∃ W : Nat → Nat → Hp → Prop, (∃ m, W 0 m H0) ∧ ∀ i m H, W i m H →
      (J.stop i H ∧ Nx H) ∨ (J.go i H ∧ ∃ Nx1 : Hp → Prop, (∀ H', Nx1 H' → ∃ m', m' < m ∧ W (i + 1) m' H') ∧ ∀ x H', J.yld i H x H' → tXG K is g x (wipe σ vs) H' fun σ2 H2 => wipe σ2 vs = wipe σ vs ∧ tXT K E0 tt σ2 H2 fun b H3 =>
        if b = true then tX K E0 te σ2 H3 fun y H4 => On y H4 Nx1 else Nx1 H3) := by
  let T : Nat → Hp → Prop := fun i H => ∃ W gs ys zs, Step (fun b => b = L) W0 W H0 H ∧ StR K W H gs ∧ R W H ys ∧ compL (wipeS ρ vs) g tt te (ds.drop i) gs = .ok zs gf ∧ ys ++ zs = ys0 ++ zs0
  have nP : ∀ p, P p → ¬ p = L := fun p h z => hP (z ▸ h)
  have nO : ∀ p, Os ρ σ p → ¬ p = L := fun p h z => hL (z ▸ h)
  refine ⟨fun i m H => m = ds.length - i ∧ i ≤ ds.length ∧ T i H, ⟨ds.length, by simp, Nat.zero_le _, W0, gs0, ys0, zs0, .refl, S0, R0, by simpa using e0, rfl⟩, ?_⟩
  rintro i m H ⟨rfl, hi, W, gs, ys, zs, s, S, r, ec, et⟩
  by_cases hlt : i < ds.length
  · refine .inr ⟨hJ.go i W H gs hlt S (relI.ofB s nP), T (i + 1), fun H' t => ⟨ds.length - (i + 1), by omega, rfl, hlt, t⟩, fun x H' y => ?_⟩
    obtain ⟨W2, d, s2, S2, e2, r2⟩ := hJ.yld i W H gs x H' hlt S (relI.ofB s nP) y
    rw [drop_cons e2] at ec
    obtain ⟨o, g1, zs', e3, e4, rfl⟩ := compL_cons ec
    have pt : post K E0 W2 H' (fun o' W3 H3 g4 => o' = o ∧ g4 = g1) (turnL (wipeS ρ vs) g tt te d gs) := by
      rw [e3]; exact fun _ _ _ _ => ⟨rfl, rfl⟩
    have Ew := (E0'.stepB (s.trans0 s2) nO).wipe vs
    cases eg : g d (wipeS ρ vs) with
    | none =>
      have pt' : post K E0 W2 H' (fun o' W3 H3 g4 => o' = o ∧ g4 = g1) ((liftO (g d (wipeS ρ vs)) gs).bind fun ρ1 => bindM (tt ρ1) fun b => if b then useM (te ρ1) fun r => bindM (liftO (valOf r)) fun y => retM (some y) else retM none) := pt
      rw [eg] at pt'
      exact pt'.elim
    | some ρ1 =>
      have pt' : post K E0 W2 H' (fun o' W3 H3 g4 => o' = o ∧ g4 = g1) ((liftO (g d (wipeS ρ vs)) gs).bind fun ρ1 => bindM (tt ρ1) fun b => if b then useM (te ρ1) fun r => bindM (liftO (valOf r)) fun y => retM (some y) else retM none) := pt
      rw [eg] at pt'
      have pt2 : post K E0 W2 H' (fun o' W3 H3 g4 => o' = o ∧ g4 = g1) (bindM (tt ρ1) (fun b => if b then useM (te ρ1) fun r => bindM (liftO (valOf r)) fun y => retM (some y) else retM none) gs) := pt'
      refine ⟨W2, wipeS ρ vs, gs, d, ρ1, S2, Ew, r2, eg, fun σ2 E2 o4 l4 k4 => ⟨?_, ?_⟩⟩
      · exact wipe_eq (by rw [l4, wipe_length]) fun j hj => k4 j fun hm => hj (hs j hm)
      · refine tXT_use S2 E2 pt2 fun b W3 H3 gs3 s3 S3 E3 q3 => ?_
        cases b with
        | false =>
          simp only [Bool.false_eq_true, if_false] at q3 ⊢
          have q3 : post K E0 W3 H3 (fun o' W3 H3 g4 => o' = o ∧ g4 = g1) (.ok none gs3) := q3
          obtain ⟨e5, e6⟩ := q3.done S3
          subst e6; subst e5
          exact ⟨W3, _, ys, zs', (s.trans0 s2).trans0 s3, S3, A.step (A.step r s2) s3, e4, et⟩
        | true =>
          simp only [if_true] at q3 ⊢
          refine tX_use S3 E3 q3 fun r4 v W4 H4 gs4 s4 S4 E4 a4 q4 => ?_
          cases r4 with
          | val y =>
            have q4 : post K E0 W4 H4 (fun o' W3 H3 g4 => o' = o ∧ g4 = g1) (.ok (some y) gs4) := q4
            obtain ⟨e5, e6⟩ := q4.done S4
            subst e6; subst e5
            have et' : ys ++ y :: zs' = ys0 ++ zs0 := et
            refine A.push (zs := zs' ++ rest) S4 (A.step (A.step (A.step r s2) s3) s4) a4 ?_ fun o R5 S5 s5 => ⟨W4, gs4, ys ++ [y], zs', (((s.trans0 s2).trans0 s3).trans0 s4).trans s5 fun p z => .inl z, S5, R5, e4, by rw [List.append_assoc]; exact et⟩
            have : ys ++ y :: (zs' ++ rest) = ys0 ++ (zs0 ++ rest) := by rw [← List.append_assoc, ← et']; simp
            rw [this]
            exact hok
          | _ => exact q4.elim
  · have e : i = ds.length := by omega
    subst e
    rw [List.drop_length] at ec
    cases ec
    rw [List.append_nil] at et
    subst et
    exact .inl ⟨hJ.stop W H _ S (relI.ofB s nP), hd W H s S r⟩

/-! ### two clauses -/
def turn2 (ρ0 : Sl) (g : D → Sl → Option Sl) (tt : Sl → M Bool) (src1 : Sl → M (List D × Bool)) (vs1 : List Nat) (g1 : D → Sl → Option Sl) (tt1 : Sl → M Bool) (te : Sl → M RV) (d : D) : M (List D) :=
  bindM (liftO (g d ρ0)) fun ρ1 => bindM (tt ρ1) fun b => if b then bindM (src1 ρ1) fun a => compL (wipeS ρ1 vs1) g1 tt1 te a.1 else retM []
def compL2 (ρ0 : Sl) (g : D → Sl → Option Sl) (tt : Sl → M Bool) (src1 : Sl → M (List D × Bool)) (vs1 : List Nat) (g1 : D → Sl → Option Sl) (tt1 : Sl → M Bool) (te : Sl → M RV) : List D → M (List D)
  | [] => retM []
  | d :: ds => bindM (calmM (turn2 ρ0 g tt src1 vs1 g1 tt1 te d)) fun xs => bindM (compL2 ρ0 g tt src1 vs1 g1 tt1 te ds) fun ys => retM (xs ++ ys)
variable {src1 : Sl → M (List D × Bool)} {vs1 is1 : List Nat} {g1 : D → Sl → Option Sl} {tt1 : Sl → M Bool}
theorem compL2_ne {ρ0 : Sl} : ∀ {ds : List D} {gs : GS} {x : Exn} {g' : GS}, compL2 ρ0 g tt src1 vs1 g1 tt1 te ds gs ≠ .exc x g'
  | [], _, _, _, h => by cases h
  | d :: ds, gs, x, g', h => by
    unfold compL2 at h
    have h : ((calmM (turn2 ρ0 g tt src1 vs1 g1 tt1 te d) gs).bind fun o => bindM (compL2 ρ0 g tt src1 vs1 g1 tt1 te ds) fun ys => retM (o ++ ys)) = .exc x g' := h
    cases e : calmM (turn2 ρ0 g tt src1 vs1 g1 tt1 te d) gs with
    | stuck => rw [e] at h; cases h
    | exc z g0 =>
      unfold calmM at e
      split at e <;> cases e
    | ok o g1' =>
      rw [e] at h
      have h2 : ((compL2 ρ0 g tt src1 vs1 g1 tt1 te ds g1').bind fun ys => retM (o ++ ys)) = .exc x g' := h
      cases e2 : compL2 ρ0 g tt src1 vs1 g1 tt1 te ds g1' with
      | stuck => rw [e2] at h2; cases h2
      | ok ys g2 => rw [e2] at h2; cases h2
      | exc z g2 => exact compL2_ne e2
theorem compL2_cons {ρ0 : Sl} {d : D} {ds : List D} {gs gf : GS} {zs : List D} (h : compL2 ρ0 g tt src1 vs1 g1 tt1 te (d :: ds) gs = .ok zs gf) :
    ∃ o g' ys, turn2 ρ0 g tt src1 vs1 g1 tt1 te d gs = .ok o g' ∧ compL2 ρ0 g tt src1 vs1 g1 tt1 te ds g' = .ok ys gf ∧ zs = o ++ ys := by
  unfold compL2 at h
  have h : ((calmM (turn2 ρ0 g tt src1 vs1 g1 tt1 te d) gs).bind fun o => bindM (compL2 ρ0 g tt src1 vs1 g1 tt1 te ds) fun ys => retM (o ++ ys)) = .ok zs gf := h
  cases e : calmM (turn2 ρ0 g tt src1 vs1 g1 tt1 te d) gs with
  | stuck => rw [e] at h; cases h
  | exc z g0 =>
    unfold calmM at e
    split at e <;> cases e
  | ok o g1' =>
    rw [e] at h
    have h2 : ((compL2 ρ0 g tt src1 vs1 g1 tt1 te ds g1').bind fun ys => retM (o ++ ys)) = .ok zs gf := h
    cases e2 : compL2 ρ0 g tt src1 vs1 g1 tt1 te ds g1' with
    | stuck => rw [e2] at h2; cases h2
    | ok ys g2 => rw [e2] at h2; cases h2; exact ⟨o, g1', ys, calm_ok e, e2, rfl⟩
    | exc z g2 => rw [e2] at h2; cases h2
theorem acc_turns2 {J : It} {σ : Sg} {ρ : Sl} {W0 : Wd} {H0 : Hp} {gs0 gf : GS} {ds zs0 : List D} {P : Addr → Prop} {b : Bool} {Qd : Hp → Prop} (A : AccOk K L R On okT) (S0 : StR K W0 H0 gs0) (E0' : EnvR K W0 H0 ρ σ) (R0 : R W0 H0 []) (hJ : ItR K J ds (relI b P W0 H0)) (hP : ¬ P L) (hL : ¬ Os ρ σ L) (hs : ∀ j ∈ is, j ∈ vs) (hs1 : ∀ j ∈ is1, j ∈ vs1)
    (e0 : compL2 (wipeS ρ vs) g tt src1 vs1 g1 tt1 te ds gs0 = .ok zs0 gf) (hok : okT zs0)
    (hd : ∀ W H, Step (fun b => b = L) W0 W H0 H → StR K W H gf → R W H zs0 → Qd H) :
    ∃ W : Nat → Nat → Hp → Prop, (∃ m, W 0 m H0) ∧ ∀ i m H, W i m H →
      (J.stop i H ∧ Qd H) ∨ (J.go i H ∧ ∃ Nx : Hp → Prop, (∀ H', Nx H' → ∃ m', m' < m ∧ W (i + 1) m' H') ∧ ∀ x H', J.yld i H x H' → tXG K is g x (wipe σ vs) H' fun σ2 H2 => wipe σ2 vs = wipe σ vs ∧ tXT K E0 tt σ2 H2 fun b H3 =>
        if b = true then tXI K E0 src1 σ2 H3 fun J1 H4 => ∃ W1 : Nat → Nat → Hp → Prop, (∃ m, W1 0 m H4) ∧ ∀ j k H, W1 j k H →
          (J1.stop j H ∧ Nx H) ∨ (J1.go j H ∧ ∃ Nx1 : Hp → Prop, (∀ H', Nx1 H' → ∃ k', k' < k ∧ W1 (j + 1) k' H') ∧ ∀ x H', J1.yld j H x H' → tXG K is1 g1 x (wipe σ2 vs1) H' fun σ3 H5 => wipe σ3 vs1 = wipe σ2 vs1 ∧ tXT K E0 tt1 σ3 H5 fun b H6 =>
            if b = true then tX K E0 te σ3 H6 fun y H7 => On y H7 Nx1 else Nx1 H6)
        else Nx H3) := by
  let T : Nat → Hp → Prop := fun i H => ∃ W gs ys zs, Step (fun b => b = L) W0 W H0 H ∧ StR K W H gs ∧ R W H ys ∧ compL2 (wipeS ρ vs) g tt src1 vs1 g1 tt1 te (ds.drop i) gs = .ok zs gf ∧ ys ++ zs = zs0
  have nP : ∀ p, P p → ¬ p = L := fun p h z => hP (z ▸ h)
  have nO : ∀ p, Os ρ σ p → ¬ p = L := fun p h z => hL (z ▸ h)
  refine ⟨fun i m H => m = ds.length - i ∧ i ≤ ds.length ∧ T i H, ⟨ds.length, by simp, Nat.zero_le _, W0, gs0, [], zs0, .refl, S0, R0, by simpa using e0, rfl⟩, ?_⟩
  rintro i m H ⟨rfl, hi, W, gs, ys, zs, s, S, r, ec, et⟩
  by_cases hlt : i < ds.length
  · refine .inr ⟨hJ.go i W H gs hlt S (relI.ofB s nP), T (i + 1), fun H' t => ⟨ds.length - (i + 1), by omega, rfl, hlt, t⟩, fun x H' y => ?_⟩
    obtain ⟨W2, d, s2, S2, e2, r2⟩ := hJ.yld i W H gs x H' hlt S (relI.ofB s nP) y
    rw [drop_cons e2] at ec
    obtain ⟨o, g', zs', e3, e4, rfl⟩ := compL2_cons ec
    have Ew := (E0'.stepB (s.trans0 s2) nO).wipe vs
    cases eg : g d (wipeS ρ vs) with
    | none =>
      have e3 : ((liftO (g d (wipeS ρ vs)) gs).bind fun ρ1 => bindM (tt ρ1) fun b => if b then bindM (src1 ρ1) fun a => compL (wipeS ρ1 vs1) g1 tt1 te a.1 else retM []) = .ok o g' := e3
      rw [eg] at e3
      cases e3
    | some ρ1 =>
      have e3 : ((liftO (g d (wipeS ρ vs)) gs).bind fun ρ1 => bindM (tt ρ1) fun b => if b then bindM (src1 ρ1) fun a => compL (wipeS ρ1 vs1) g1 tt1 te a.1 else retM []) = .ok o g' := e3
      rw [eg] at e3
      have e3 : ((tt ρ1 gs).bind fun b => if b then bindM (src1 ρ1) fun a => compL (wipeS ρ1 vs1) g1 tt1 te a.1 else retM []) = .ok o g' := e3
      refine ⟨W2, wipeS ρ vs, gs, d, ρ1, S2, Ew, r2, eg, fun σ2 E2 o4 l4 k4 => ⟨wipe_eq (by rw [l4, wipe_length]) fun j hj => k4 j fun hm => hj (hs j hm), W2, ρ1, gs, S2, E2, ?_⟩⟩
      cases ett : tt ρ1 gs with
      | stuck => rw [ett] at e3; cases e3
      | exc z g0 => rw [ett] at e3; cases e3
      | ok b gs3 =>
        rw [ett] at e3
        intro W3 H3 s3 S3
        cases b with
        | false =>
          cases e3
          rw [if_neg Bool.false_ne_true]
          exact ⟨W3, _, ys, zs', (s.trans0 s2).trans0 s3, S3, A.step (A.step r s2) s3, e4, et⟩
        | true =>
          rw [if_pos rfl]
          have e3 : ((src1 ρ1 gs3).bind fun a => compL (wipeS ρ1 vs1) g1 tt1 te a.1) = .ok o g' := e3
          refine ⟨W3, ρ1, gs3, S3, E2.step s3, ?_⟩
          cases es : src1 ρ1 gs3 with
          | stuck => rw [es] at e3; cases e3
          | exc z g0 => rw [es] at e3; cases e3
          | ok a gs4 =>
            rw [es] at e3
            intro W4 H4 s4 S4 J1 hJ1
            have hL2 : ¬ Os ρ1 σ2 L := fun h => hL (Os.wipe (o4 L h))
            have hok' : okT (ys ++ (o ++ zs')) := by rw [← et] at hok; exact hok
            refine acc_turns A S4 ((E2.step s3).step s4) (A.step (A.step (A.step r s2) s3) s4) hJ1 hL2 hL2 hs1 e3 hok' fun W5 H5 s5 S5 R5 => ?_
            exact ⟨W5, g', ys ++ o, zs', (((s.trans0 s2).trans0 s3).trans0 s4).trans s5 fun p z => .inl z, S5, R5, e4, by rw [List.append_assoc]; exact et⟩
  · have e : i = ds.length := by omega
    subst e
    rw [List.drop_length] at ec
    cases ec
    rw [List.append_nil] at et
    subst et
    exact .inl ⟨hJ.stop W H _ S (relI.ofB s nP), hd W H s S r⟩
end
/-! ### lists of two clauses -/
def xLc2 (src : Sl → M (List D × Bool)) (vs : List Nat) (g : D → Sl → Option Sl) (tt : Sl → M Bool) (src1 : Sl → M (List D × Bool)) (vs1 : List Nat) (g1 : D → Sl → Option Sl) (tt1 : Sl → M Bool) (te : Sl → M RV) : Sl → M RV := fun ρ =>
  bindM (src ρ) fun a => bindM (compL2 (wipeS ρ vs) g tt src1 vs1 g1 tt1 te a.1) fun ys => if ys.length ≤ sizeLine then retM (.own (.list ys)) else stuckM
section
variable {K : PySem.W.Frag} {E : XK} {src src1 : Sl → M (List D × Bool)} {g g1 : D → Sl → Option Sl} {tt tt1 : Sl → M Bool} {te : Sl → M RV} {vs vs1 is is1 : List Nat}
theorem acc_list {L : Addr} : AccOk K L (fun W H ys => OwnAt K W H (.list ys) L) (fun y H N => ∃ acc, H L = some (.lst acc) ∧ acc.length < sizeLine ∧ N (upd H L (.lst (acc ++ [y])))) (fun ys => ys.length ≤ sizeLine) where
  step := fun r s => r.step s id
  push := fun {W H gs ys zs y v Nx} S r a hk h => by
    obtain ⟨acc, e1, e2⟩ := own_list r
    refine ⟨acc, e1, ?_, h _ ⟨⟨_, upd_same, e2.append (.cons a .nil)⟩, r.g, r.a⟩ (S.write r.g r.a) (Step.write rfl fun _ _ => trivial)⟩
    rw [e2.length]
    simp at hk
    omega
theorem tX_lc2 {σ : Sg} {H : Hp} {Q : VK} (hs : ∀ j ∈ is, j ∈ vs) (hs1 : ∀ j ∈ is1, j ∈ vs1) (q : tX K E (xLc2 src vs g tt src1 vs1 g1 tt1 te) σ H Q) : tLc2 (tXI K E src) (tXG K is g) (tXT K E0 tt) (tXI K E0 src1) (tXG K is1 g1) (tXT K E0 tt1) (tX K E0 te) vs vs1 σ H Q := by
  obtain ⟨W, ρ, gs, S, Ev, q⟩ := q
  refine ⟨W, ρ, gs, S, Ev, ?_⟩
  have q' : post K E W H (QV K (Os ρ σ) H Q) ((src ρ gs).bind fun a => bindM (compL2 (wipeS ρ vs) g tt src1 vs1 g1 tt1 te a.1) fun ys => if ys.length ≤ sizeLine then retM (.own (.list ys)) else stuckM) := q
  cases es : src ρ gs with
  | stuck => rw [es] at q'; exact q'.elim
  | exc x g' => rw [es] at q'; exact q'
  | ok a g0 =>
    rw [es] at q'
    have q' : post K E W H (QV K (Os ρ σ) H Q) ((compL2 (wipeS ρ vs) g tt src1 vs1 g1 tt1 te a.1 g0).bind fun ys => if ys.length ≤ sizeLine then retM (.own (.list ys)) else stuckM) := q'
    cases ec : compL2 (wipeS ρ vs) g tt src1 vs1 g1 tt1 te a.1 g0 with
    | stuck => rw [ec] at q'; exact q'.elim
    | exc x g' => exact (compL2_ne ec).elim
    | ok ys gf =>
      rw [ec] at q'
      have q' : post K E W H (QV K (Os ρ σ) H Q) ((if ys.length ≤ sizeLine then retM (.own (.list ys)) else stuckM) gf) := q'
      by_cases hz : ys.length ≤ sizeLine
      · rw [if_pos hz] at q'
        have q' : post K E W H (QV K (Os ρ σ) H Q) (.ok (.own (.list ys)) gf) := q'
        intro W1 H1 s1 S1 J hJ L hL
        have nO : ¬ Os ρ σ L := (Ev.step s1).fresh hL
        have hJ' : ItR K J a.1 (relI a.2 (Os ρ σ) W1 (upd H1 L (.lst []))) := ⟨fun i W H gs hi S r => hJ.go i W H gs hi S (relI.trans (step_new S1 hL) r), fun W H gs S r => hJ.stop W H gs S (relI.trans (step_new S1 hL) r), fun i W H gs x H' hi S r y => hJ.yld i W H gs x H' hi S (relI.trans (step_new S1 hL) r) y⟩
        refine acc_turns2 acc_list (S1.new hL) ((Ev.step s1).step (step_new S1 hL)) (own_new S1 hL .nil) hJ' nO nO hs hs1 ec hz fun W2 H2 s2 S2 r2 => ?_
        exact q' W2 H2 ((s1.trans0 (step_new S1 hL)).trans s2 fun p z => .inr (z ▸ s1.none hL)) S2 _ ⟨L, rfl, r2, s1.none hL⟩
      · rw [if_neg hz] at q'; exact q'.elim
end
end PL
set_option Elab.async false
set_option linter.all false
set_option maxRecDepth 100000
set_option maxHeartbeats 4000000
/-! PLq: set comprehensions of two clauses over keys (the lists' of HandS.Comp turned to sets), and len of them. -/
namespace PL
open PySem PySem.Spec PyProof.Rows L2
section
variable {X : Cx} {pins : List (Addr × Obj)} {σ : L2.St} {H : Hp} {s : Shared}
/-- a key added to a tracked set -/
theorem addK_ok {E : Value → Shared → Prop} {D : Addr} {k : Key} {S : Key → Bool} {n : Nat} {v : Value} {Q : Value → Shared → Prop} (I : Inv X pins σ H s) (hD : H D = some (SetK X.prog X.w D S n)) (room : n + 1 < scanBound) (r : RelV (kV k) v)
    (h : ∀ s', Inv X pins σ (upd H D (SetK X.prog X.w D (fun j => S j || decide (j = k)) (if S k = true then n else n + 1))) s' → Q .none s') : wpAny (model X.prog X.w) X.A (call (.builtin "set.add") [.ref D, v]) Q E s := by
  refine call_set_add (kV_is r) (key_scan r) (setK_get I hD) room fun h' sb new => ?_
  have he : ∃ u, h'.get? D = some u := by
    have ⟨o, _, _, _, ho, _⟩ := new
    exact ⟨o, ho⟩
  exact h _ (I.write (e := D) (t' := s.toks + 1) (by rw [hD]; trivial) (.inl rfl) (fun b u hb hu => (sb.2 b hb).trans hu) he (setK_new new))
end
theorem compTurn2_outS (elt t0 i0 t1 i1 : Expr) (ifs0 ifs1 : List Expr) (scope : Scope) (pos : Pos) (it acc : Value) (env : Env) :
    compTurn (.SetComp elt [⟨t0, i0, ifs0, 0⟩, ⟨t1, i1, ifs1, 0⟩] scope pos) 0 it acc env = (do
      standAt i0.pos
      match ← pyNext it with
      | none => pure (.done .next)
      | some v =>
        letOwnedTupleGo t0 it v
        assign t0 env v
        let mut ok := true
        for c in ifs0 do
          if ok then ok ← isTrue c env (eval c env)
        if ok then
          let x ← eval i1 env
          standAt i1.pos
          let x ← foldedSetIterable i1 env x
          let _ ← runOwn (.compStart (.SetComp elt [⟨t0, i0, ifs0, 0⟩, ⟨t1, i1, ifs1, 0⟩] scope pos) 1 (← holding [x] (pyIter x)) acc env) env
        again (.compLoop (.SetComp elt [⟨t0, i0, ifs0, 0⟩, ⟨t1, i1, ifs1, 0⟩] scope pos) 0 it acc env)) := by rfl
theorem compTurn2_inS (elt t0 i0 t1 i1 : Expr) (ifs0 ifs1 : List Expr) (scope : Scope) (pos : Pos) (it acc : Value) (env : Env) :
    compTurn (.SetComp elt [⟨t0, i0, ifs0, 0⟩, ⟨t1, i1, ifs1, 0⟩] scope pos) 1 it acc env = (do
      standAt i1.pos
      match ← pyNext it with
      | none => pure (.done .next)
      | some v =>
        letOwnedTupleGo t1 it v
        assign t1 env v
        let mut ok := true
        for c in ifs1 do
          if ok then ok ← isTrue c env (eval c env)
        if ok then
          (do let v ← eval elt env; standAt elt.pos; let _ ← call (.builtin "set.add") [acc, v])
        again (.compLoop (.SetComp elt [⟨t0, i0, ifs0, 0⟩, ⟨t1, i1, ifs1, 0⟩] scope pos) 1 it acc env)) := by rfl

section
variable {prog : Program} {w : World} {A : Around} {R : Result → Shared → Prop} {s : Shared} {elt t0 i0 t1 i1 : Expr} {ifs0 ifs1 : List Expr} {scope : Scope} {pos : Pos} {it acc : Value} {env : Env}
/-- the loop of the first clause -/
theorem compLoop2_outS (hs : ∀ x, foldedSetIterable i1 env x = pure x) (I : Nat → Shared → Prop)
    (turn : ∀ n s, I n s → wpAny (model prog w) A (pyNext it) (fun r s₁ => match r with
      | none => R (.ok .next) s₁
      | some v => wpAny (model prog w) A (letOwnedTupleGo t0 it v) (fun _ s₁' => wpAny (model prog w) A (assign t0 env v) (fun _ s₂ =>
          wpAny (model prog w) A (forIn ifs0 true fun c r => if r = true then do let ok ← isTrue c env (eval c env); pure (ForInStep.yield ok) else pure (ForInStep.yield r)) (fun ok s₃ =>
            if ok = true then wpAny (model prog w) A (eval i1 env) (fun x s₄ => wpAny (model prog w) A (pyIter x) (fun it1 s₅ =>
              codeAny (model prog w) A (.compStart (.SetComp elt [⟨t0, i0, ifs0, 0⟩, ⟨t1, i1, ifs1, 0⟩] scope pos) 1 it1 acc env) (fun r s' => match r with
                | .ok _ => ∃ m, m < n ∧ I m s'
                | .error _ => False) s₅) (notedBy (model prog w) A env fun e s' => R (.error e) s') s₄) (notedBy (model prog w) A env fun e s' => R (.error e) s') s₃
            else ∃ m, m < n ∧ I m s₃) (notedBy (model prog w) A env fun e s' => R (.error e) s') s₂) (notedBy (model prog w) A env fun e s' => R (.error e) s') s₁') (notedBy (model prog w) A env fun e s' => R (.error e) s') s₁) (notedBy (model prog w) A env fun e s' => R (.error e) s') s)
    (n : Nat) (h : I n s) :
    codeAny (model prog w) A (.compLoop (.SetComp elt [⟨t0, i0, ifs0, 0⟩, ⟨t1, i1, ifs1, 0⟩] scope pos) 0 it acc env) R s := by
  refine codeAny_loop rfl I (fun n s hI => ?_) n h
  show wpAny _ A ((compTurn (.SetComp elt [⟨t0, i0, ifs0, 0⟩, ⟨t1, i1, ifs1, 0⟩] scope pos) 0 it acc env).onRaise (fun x => do noteFrame x env; theTreesLotGoes x)) _ _ s
  refine wpAny_noted ?_
  rw [compTurn2_outS]
  refine wpAny_bind (wpAny_standAt (wpAny_bind (wpAny_mono (turn n s hI) (fun r s₁ h₁ => ?_) fun _ _ h' => h')))
  cases r with
  | none => exact wpAny_pure h₁
  | some v =>
    refine wpAny_bind (wpAny_mono h₁ (fun _ s₁' h₁' => ?_) fun _ _ h' => h')
    refine wpAny_bind (wpAny_mono h₁' (fun _ s₂ h₂ => wpAny_bind (wpAny_mono h₂ (fun ok s₃ h₃ => ?_) fun _ _ h' => h')) fun _ _ h' => h')
    cases ok with
    | false => exact wpAny_pure ⟨rfl, h₃⟩
    | true =>
      refine wpAny_bind (wpAny_mono h₃ (fun x s₄ h₄ => ?_) fun _ _ h' => h')
      refine wpAny_bind (wpAny_standAt (wpAny_bind (wpAny_of_eq (hs x) (wpAny_bind (wpAny_holding (wpAny_mono h₄ (fun it1 s₅ h₅ => ?_) fun _ _ h' => h'))))))
      refine wpAny_bind (wpAny_runOwn ?_)
      rw [Around.mark_none]
      refine codeAny_mono h₅ fun r s' hr => ?_
      cases r with
      | ok f =>
        first
          | exact wpAny_pure ⟨rfl, hr⟩
          | exact wpAny_bind (wpAny_pure (wpAny_pure ⟨rfl, hr⟩))
      | error e => exact hr.elim
/-- the loop of the second -/
theorem compLoop2_inS (I : Nat → Shared → Prop)
    (turn : ∀ n s, I n s → wpAny (model prog w) A (pyNext it) (fun r s₁ => match r with
      | none => R (.ok .next) s₁
      | some v => wpAny (model prog w) A (letOwnedTupleGo t1 it v) (fun _ s₁' => wpAny (model prog w) A (assign t1 env v) (fun _ s₂ =>
          wpAny (model prog w) A (forIn ifs1 true fun c r => if r = true then do let ok ← isTrue c env (eval c env); pure (ForInStep.yield ok) else pure (ForInStep.yield r)) (fun ok s₃ =>
            if ok = true then wpAny (model prog w) A (eval elt env) (fun x s₄ =>
              wpAny (model prog w) A (call (.builtin "set.add") [acc, x]) (fun _ s₅ => ∃ m, m < n ∧ I m s₅) (notedBy (model prog w) A env fun e s' => R (.error e) s') s₄) (notedBy (model prog w) A env fun e s' => R (.error e) s') s₃
            else ∃ m, m < n ∧ I m s₃) (notedBy (model prog w) A env fun e s' => R (.error e) s') s₂) (notedBy (model prog w) A env fun e s' => R (.error e) s') s₁') (notedBy (model prog w) A env fun e s' => R (.error e) s') s₁) (notedBy (model prog w) A env fun e s' => R (.error e) s') s)
    (n : Nat) (h : I n s) :
    codeAny (model prog w) A (.compLoop (.SetComp elt [⟨t0, i0, ifs0, 0⟩, ⟨t1, i1, ifs1, 0⟩] scope pos) 1 it acc env) R s := by
  refine codeAny_loop rfl I (fun n s hI => ?_) n h
  show wpAny _ A ((compTurn (.SetComp elt [⟨t0, i0, ifs0, 0⟩, ⟨t1, i1, ifs1, 0⟩] scope pos) 1 it acc env).onRaise (fun x => do noteFrame x env; theTreesLotGoes x)) _ _ s
  refine wpAny_noted ?_
  rw [compTurn2_inS]
  refine wpAny_bind (wpAny_standAt (wpAny_bind (wpAny_mono (turn n s hI) (fun r s₁ h₁ => ?_) fun _ _ h' => h')))
  cases r with
  | none => exact wpAny_pure h₁
  | some v =>
    refine wpAny_bind (wpAny_mono h₁ (fun _ s₁' h₁' => ?_) fun _ _ h' => h')
    refine wpAny_bind (wpAny_mono h₁' (fun _ s₂ h₂ => wpAny_bind (wpAny_mono h₂ (fun ok s₃ h₃ => ?_) fun _ _ h' => h')) fun _ _ h' => h')
    cases ok with
    | false => exact wpAny_pure ⟨rfl, h₃⟩
    | true =>
      exact wpAny_bind (wpAny_bind (wpAny_mono h₃ (fun x s₄ h₄ => wpAny_bind (wpAny_standAt (wpAny_bind (wpAny_mono h₄ (fun _ s₅ h₅ => wpAny_pure (wpAny_pure ⟨rfl, h₅⟩)) fun _ _ h' => h')))) fun _ _ h' => h'))
/-- the second clause's start -/
theorem compStart1_okS (h0 : codeAny (model prog w) A (.compLoop (.SetComp elt [⟨t0, i0, ifs0, 0⟩, ⟨t1, i1, ifs1, 0⟩] scope pos) 1 it acc env) R s)
    (h : wpAny (model prog w) A (pyIter it) (fun it' s' => codeAny (model prog w) A (.compLoop (.SetComp elt [⟨t0, i0, ifs0, 0⟩, ⟨t1, i1, ifs1, 0⟩] scope pos) 1 it' acc env) R s')
      (notedBy (model prog w) A env fun x s' => R (.error x) s') s) :
    codeAny (model prog w) A (.compStart (.SetComp elt [⟨t0, i0, ifs0, 0⟩, ⟨t1, i1, ifs1, 0⟩] scope pos) 1 it acc env) R s := by
  refine codeAny_of_tree ?_
  show wpAny _ _ ((compStart (.SetComp elt [⟨t0, i0, ifs0, 0⟩, ⟨t1, i1, ifs1, 0⟩] scope pos) 1 it acc env).onRaise (fun x => do noteFrame x env; standAt theWindowsPlace)) _ _ s
  refine wpAny_notedAt ?_
  unfold compStart
  show wpAny _ _ (ask >>= _) _ _ s
  refine wpAny_bind (wpAny_askSetting (wpAny_ite ?_))
  split
  · first
      | exact wpAny_bind (wpAny_pure (wpAny_pure (And.intro rfl h0)))
      | exact wpAny_pure (And.intro rfl h0)
  · first
      | exact wpAny_bind (wpAny_rule (wpAny_bind (wpAny_standAt (wpAny_bind (wpAny_mono h (fun it' s' h' => wpAny_pure (And.intro rfl h')) fun _ _ x => x)))))
      | (refine wpAny_bind (wpAny_rule ?_); show wpAny _ _ (standAt i1.pos >>= _) _ _ s; exact wpAny_bind (wpAny_standAt (wpAny_bind (wpAny_mono h (fun it' s' h' => wpAny_pure (And.intro rfl h')) fun _ _ x => x))))
end

section
variable {X : Cx}
/-- [elt for tg in iter if .. for tg1 in iter1 if ..]: behind the first clause's store and tests the second source's own loop, from which Nx is reached. vs: the block's names; vs1: those of the second target -/
def tSc2 (P : Program) (w : World) (wi : TI) (g : TG) (tt : TT) (wi1 : TI) (g1 : TG) (tt1 : TT) (te : TE) (vs vs1 : List Nat) : TE := fun σ H Q => wi σ H fun J H1 => ∀ D, H1 D = none → ∃ W : Nat → Nat → Hp → Prop, (∃ m, W 0 m (upd H1 D (SetK P w D (fun _ => false) 0))) ∧ ∀ i m H, W i m H →
  (J.stop i H ∧ Q (.ref D) H) ∨ (J.go i H ∧ ∃ Nx : Hp → Prop, (∀ H', Nx H' → ∃ m', m' < m ∧ W (i + 1) m' H') ∧ ∀ x H', J.yld i H x H' → g x (wipe σ vs) H' fun σ2 H2 => wipe σ2 vs = wipe σ vs ∧ tt σ2 H2 fun b H3 =>
    if b = true then wi1 σ2 H3 fun J1 H4 => ∃ W1 : Nat → Nat → Hp → Prop, (∃ m, W1 0 m H4) ∧ ∀ j k H, W1 j k H →
      (J1.stop j H ∧ Nx H) ∨ (J1.go j H ∧ ∃ Nx1 : Hp → Prop, (∀ H', Nx1 H' → ∃ k', k' < k ∧ W1 (j + 1) k' H') ∧ ∀ x H', J1.yld j H x H' → g1 x (wipe σ2 vs1) H' fun σ3 H5 => wipe σ3 vs1 = wipe σ2 vs1 ∧ tt1 σ3 H5 fun b H6 =>
        if b = true then te σ3 H6 fun y H7 => ∃ (k : Key) (S : Key → Bool) (n : Nat), y = kV k ∧ H7 D = some (SetK P w D S n) ∧ n + 1 < scanBound ∧ Nx1 (upd H7 D (SetK P w D (fun j => S j || decide (j = k)) (if S k = true then n else n + 1))) else Nx1 H6)
    else Nx H3)
theorem sc2_core {pins : List (Addr × Obj)} {s : Shared} {σ : L2.St} {H : Hp} {Q : VK} {elt tg iter tg1 iter1 : Expr} {ifs ifs1 : List Expr} {scope : Scope} {own : List (Str × Nat)} {vs1 : List Nat} {pos pos' : Pos} {wi wi1 : TI} {g g1 : TG} {tt tt1 : TT} {te : TE} {use : Option (Value → Sem Unit)} {Qf : Value → Shared → Prop}
    (hc : X.calm = true) (hN : X.N.Nodup) (I : Inv X pins σ H s) (hi : PI X tg iter wi) (ok : BlkOk X.N X.env.scope scope own) (hv : ∀ i ∈ vs1, i ∈ own.map (·.2))
    (hg : ∀ (s : Shared) (H : Hp) (C : Addr) (cl : List (Str × Addr)) (fp : List Addr), PG (X.blk s H scope (compEnvC scope cl C X.env) fp) tg g) (ht : ∀ (s : Shared) (H : Hp) (C : Addr) (cl : List (Str × Addr)) (fp : List Addr), PTs (X.blk s H scope (compEnvC scope cl C X.env) fp) ifs tt)
    (he : ∀ (s : Shared) (H : Hp) (C : Addr) (cl : List (Str × Addr)) (fp : List Addr), PE (X.blk s H scope (compEnvC scope cl C X.env) fp) elt te) (hs : ∀ x, foldedSetIterable iter X.env x = pure x)
    (hi1 : ∀ (s : Shared) (H : Hp) (C : Addr) (cl : List (Str × Addr)) (fp : List Addr), PI (X.blk s H scope (compEnvC scope cl C X.env) fp) tg1 iter1 wi1)
    (hg1 : ∀ (s : Shared) (H : Hp) (C : Addr) (cl : List (Str × Addr)) (fp : List Addr), PG (X.blk s H scope (compEnvC scope cl C X.env) fp) tg1 g1)
    (ht1 : ∀ (s : Shared) (H : Hp) (C : Addr) (cl : List (Str × Addr)) (fp : List Addr), PTs (X.blk s H scope (compEnvC scope cl C X.env) fp) ifs1 tt1)
    (hs1 : ∀ env x, foldedSetIterable iter1 env x = pure x)
    (h : tSc2 X.prog X.w wi g tt wi1 g1 tt1 te (own.map (·.2)) vs1 σ H Q)
    (hRR : ∀ D C s' m H', Inv X pins σ H' s' → Q (.ref D) H' → s'.heap.Ns C m → FpOk X pins H' C → compPost (model X.prog X.w) X.A X.xe use Qf (.ref D) C (.ok .next) s') :
    wpAny (model X.prog X.w) X.A (comprehension (.SetComp elt [⟨tg, iter, ifs, 0⟩, ⟨tg1, iter1, ifs1, 0⟩] scope pos) scope X.env pos' (newSet (.type "set")) false (eval iter X.env) use) Qf X.xe s := by
  have hfree : ∀ y ∈ scope.names, y.2 = .free → ∃ c, X.env.cells.lookup y.1 = some c := fun y hy e => by
    rcases ok.free y hy e with k | k
    · exact I.ok.has _ (.inl k)
    · exact I.ok.has _ (.inr k)
  refine wpAny_comprehension_free (use := use) rfl hs (closure_ok hfree) ok.kind (fun y hy e => by rw [ok.uniq y hy, e])
    (thn (hi.run pins s σ H _ I h) fun xv s1 hx => thn hx fun itv s2 h2 => ?_)
  obtain ⟨it, fp, tn, J, H2, e, I2, T, st2, f2, q⟩ := h2
  subst e
  refine PpSet.newSet_ok (newEnv_comp ?_)
  generalize hD : s2.heap.objs.size = D
  have hDn : H2 D = none := I2.hok.fresh (Nat.le_of_eq hD)
  obtain ⟨W, ⟨m0, w0⟩, turn⟩ := q D hDn
  -- the new list
  generalize hs3 : ({ s2 with heap := s2.heap.push { cls := .type "set", dict := none, data := .set #[] 0 (.fresh 0 0 (!X.w.params.followText "set-order")) } } : Shared) = s3
  have I3 : Inv X pins σ (upd H2 D (SetK X.prog X.w D (fun _ => false) 0)) s3 := by
    rw [← hs3]
    refine I2.laid (t' := s2.toks) (fun b o e => Heap.get?_push_of_some _ e) (Nat.le_of_eq hD) ?_
    rw [← hD]
    exact setK_new ⟨_, #[], 0, _, Heap.get?_push_size _ rfl, ⟨rfl, rfl, rfl⟩, rfl, (fun e he => by simp at he), (fun k => by simp), (by decide), (by rfl), rfl⟩
  have h3 : s3.heap = s2.heap.push { cls := .type "set", dict := none, data := .set #[] 0 (.fresh 0 0 (!X.w.params.followText "set-order")) } := by rw [← hs3]
  have sz : ∀ b ∈ fp, b < s2.heap.objs.size := fun b hb => by
    obtain ⟨o, e, _⟩ := T.obj _ _ st2 b hb
    exact Heap.lt_size e
  have f3 : ∀ b ∈ fp, FpOk X pins (upd H2 D (SetK X.prog X.w D (fun _ => false) 0)) b ∧ b < s3.heap.objs.size := fun b hb => by
    have hlt := sz b hb
    refine ⟨⟨?_, (f2 b hb).2⟩, by rw [h3, Heap.size_push]; exact Nat.lt_succ_of_lt hlt⟩
    rw [upd_ne (by rw [← hD]; exact Nat.ne_of_lt hlt)]
    exact (f2 b hb).1
  have st3 : tn 0 s3.heap := T.keep _ _ _ st2 fun b _ o e => by rw [h3]; exact Heap.get?_push_of_some _ e
  have I4 := block_start I3 ok hN f3
  have pg := hg s3 (upd H2 D (SetK X.prog X.w D (fun _ => false) 0)) s3.heap.objs.size (cellsFrom (s3.heap.objs.size + 1) scope.names (cloFrom X.env.cells scope.names [])) fp
  have pt := ht s3 (upd H2 D (SetK X.prog X.w D (fun _ => false) 0)) s3.heap.objs.size (cellsFrom (s3.heap.objs.size + 1) scope.names (cloFrom X.env.cells scope.names [])) fp
  have pe := he s3 (upd H2 D (SetK X.prog X.w D (fun _ => false) 0)) s3.heap.objs.size (cellsFrom (s3.heap.objs.size + 1) scope.names (cloFrom X.env.cells scope.names [])) fp
  have pi1 := hi1 s3 (upd H2 D (SetK X.prog X.w D (fun _ => false) 0)) s3.heap.objs.size (cellsFrom (s3.heap.objs.size + 1) scope.names (cloFrom X.env.cells scope.names [])) fp
  have pg1 := hg1 s3 (upd H2 D (SetK X.prog X.w D (fun _ => false) 0)) s3.heap.objs.size (cellsFrom (s3.heap.objs.size + 1) scope.names (cloFrom X.env.cells scope.names [])) fp
  have pt1 := ht1 s3 (upd H2 D (SetK X.prog X.w D (fun _ => false) 0)) s3.heap.objs.size (cellsFrom (s3.heap.objs.size + 1) scope.names (cloFrom X.env.cells scope.names [])) fp
  show codeAny _ _ (.compStart (.SetComp elt [⟨tg, iter, ifs, 0⟩, ⟨tg1, iter1, ifs1, 0⟩] scope pos) 0 (.ref it) (.ref D) (compEnvC scope (cellsFrom (s3.heap.objs.size + 1) scope.names (cloFrom X.env.cells scope.names [])) s3.heap.objs.size X.env)) (compPost (model X.prog X.w) X.A X.xe use Qf (.ref D) s3.heap.objs.size) { s3 with heap := pushCells (s3.heap.push { cls := .type "dict", data := .dict #[] }) scope.names }
  have nfp : ∀ b ∈ fp, (upd H2 D (SetK X.prog X.w D (fun _ => false) 0)) b = none := fun b hb => (f3 b hb).1.1
  generalize hce : compEnvC scope (cellsFrom (s3.heap.objs.size + 1) scope.names (cloFrom X.env.cells scope.names [])) s3.heap.objs.size X.env = ce at I4 pg pt pe pi1 pg1 pt1 ⊢
  have cL : ce.locals = s3.heap.objs.size := by subst hce; rfl
  generalize hH3 : upd H2 D (SetK X.prog X.w D (fun _ => false) 0) = H3 at I3 I4 pg pt pe pi1 pg1 pt1 w0 nfp f3
  generalize hs4 : ({ s3 with heap := pushCells (s3.heap.push { cls := .type "dict", data := .dict #[] }) scope.names } : Shared) = s4 at I4 ⊢
  have st4 : tn 0 s4.heap := T.keep _ _ _ st3 fun b _ o e => by rw [← hs4]; exact pushCells_keeps _ _ _ _ (Heap.get?_push_of_some _ e)
  have stat : ∀ {σ' : L2.St} {H' : Hp} {s' : Shared}, Inv (X.blk s3 H3 scope ce fp) [] σ' H' s' → (∀ b ∈ fp, H' b = none) → ∀ b ∈ fp, FpOk (X.blk s3 H3 scope ce fp) [] H' b := fun {σ' H' s'} I' hn b hb =>
    ⟨hn b hb, (I'.ok.exf b hb).1, I'.ok.exfs b hb, .inl hb, fun x c e => (I'.ok.exf b hb).2 x c e, fun p hp => absurd (show p ∈ ([] : List (Addr × Obj)) ++ [] from hp) (by simp)⟩
  have loop : codeAny (model X.prog X.w) X.A (.compLoop (.SetComp elt [⟨tg, iter, ifs, 0⟩, ⟨tg1, iter1, ifs1, 0⟩] scope pos) 0 (.ref it) (.ref D) ce) (compPost (model X.prog X.w) X.A X.xe use Qf (.ref D) s3.heap.objs.size) s4 := by
    refine compLoop2_outS (hs1 ce) (fun n s' => ∃ i H', Inv (X.blk s3 H3 scope ce fp) [] (wipe σ (own.map (·.2))) H' s' ∧ tn i s'.heap ∧ (∀ b ∈ fp, H' b = none) ∧ W i n H') ?_ m0 ⟨0, H3, I4, st4, nfp, w0⟩
    rintro n s5 ⟨i, H5, I5, st5, n5, w5⟩
    rcases turn i n H5 w5 with ⟨stop, qq⟩ | ⟨go, Nx, hNx, step⟩
    · have td := T.done (X.blk s3 H3 scope ce fp) rfl rfl rfl hc i [] s5 _ H5 (fun _ _ => False) I5 (stat I5 n5) st5 stop
      refine thnF td fun r s6 ⟨hr, I6⟩ => ?_
      subst hr
      -- back in the def's context
      have I7 : Inv X pins σ H5 s6 := I3.call' (ch := fp) I6.os I6.base I6.hok I6.bare fun b hb => ⟨(f3 b hb).1.2.2.2.1, (f3 b hb).1.2.1, (f3 b hb).1.2.2.2.2.1, (f3 b hb).1.2.2.2.2.2⟩
      have nC : H5 s3.heap.objs.size = none := by
        have z : H5 ce.locals = none := I6.free
        rw [cL] at z
        exact z
      obtain ⟨m, hn, _⟩ := I6.loc
      have hn : s6.heap.Ns ce.locals m := hn
      rw [cL] at hn
      exact hRR D s3.heap.objs.size s6 m H5 I7 qq hn (I3.fpOk (Nat.le_refl _) nC)
    · have ti := T.item (X.blk s3 H3 scope ce fp) rfl rfl rfl hc i [] s5 _ H5 (fun _ _ => False) I5 (stat I5 n5) st5 go
      refine thnF ti fun r s6 ⟨u, hr, h6⟩ => ?_
      subst hr
      refine thnF h6 fun _ s7 ⟨x, H7, I7, r7, y7, st7, n7⟩ => ?_
      have I7' := I7.pinned (stat I7 n7) (T.obj _ _ st7)
      refine thnF (pg.run _ s7 _ H7 x u _ I7' r7 (step x H7 y7)) fun _ s8 ⟨σ8, H8, I8, hw8, q8⟩ => ?_
      refine thnF (pt.run _ s8 σ8 H8 _ I8 q8) fun b s9 ⟨H9, I9, q9⟩ => ?_
      -- the turn's end, from any slots that know what the block knew at its start
      have fin : ∀ {σ9 : L2.St} {s' : Shared} {H' : Hp}, Inv (X.blk s3 H3 scope ce fp) ([] ++ pinsAt fp s7.heap) σ9 H' s' → (wipe σ (own.map (·.2))).length = σ9.length → (∀ (j : Nat) v, (wipe σ (own.map (·.2)))[j]? = some (some v) → σ9[j]? = some (some v)) → Nx H' →
          ∃ m, m < n ∧ ∃ i H', Inv (X.blk s3 H3 scope ce fp) [] (wipe σ (own.map (·.2))) H' s' ∧ tn i s'.heap ∧ (∀ b ∈ fp, H' b = none) ∧ W i m H' := fun {σ9 s' H'} I' hl hk nx => by
        obtain ⟨m', hm, w'⟩ := hNx H' nx
        have pin' : ∀ b ∈ fp, ∀ o, s7.heap.get? b = some o → s'.heap.get? b = some o ∧ H' b = none := fun b hb o e =>
          let z := I'.pin (b, o) (List.mem_append_right _ (List.mem_append_right _ (mem_pinsAt hb e)))
          ⟨z.1, z.2.1⟩
        refine ⟨m', hm, i + 1, H', (I'.unpinned (pins := [])).weak hl hk, T.keep _ _ _ st7 fun b hb o e => (pin' b hb o e).1, fun b hb => ?_, w'⟩
        obtain ⟨o, e, _⟩ := T.obj _ _ st7 b hb
        exact (pin' b hb o e).2
      have hl8 : (wipe σ (own.map (·.2))).length = σ8.length := by rw [← hw8, wipe_length]
      have hk8 : ∀ (j : Nat) v, (wipe σ (own.map (·.2)))[j]? = some (some v) → σ8[j]? = some (some v) := fun j v e => by
        rw [← hw8] at e
        exact (wipe_some e).1
      have hk9 : ∀ (j : Nat) v, (wipe σ (own.map (·.2)))[j]? = some (some v) → (wipe σ8 vs1)[j]? = some (some v) := fun j v e => by
        rw [← hw8] at e
        obtain ⟨e1, e2⟩ := wipe_some e
        rw [wipe_out fun z => e2 (hv j z)]
        exact e1
      cases b with
      | false =>
        simp only [Bool.false_eq_true, if_false] at q9 ⊢
        exact fin I9 hl8 hk8 q9
      | true =>
        simp only [if_true] at q9 ⊢
        refine thnF (pi1.run _ s9 σ8 H9 _ I9 q9) fun xv s10 hx => thnF hx fun itv s11 h11 => ?_
        obtain ⟨it1, fp1, tn1, J1, H11, e1, I11, T1, st11, f11, W1, ⟨m1, w1⟩, turn1⟩ := h11
        subst e1
        -- the inner loop
        have stat1 : ∀ {H' : Hp}, (∀ b ∈ fp1, H' b = none) → ∀ b ∈ fp1, FpOk (X.blk s3 H3 scope ce fp) ([] ++ pinsAt fp s7.heap) H' b := fun hn b hb => ⟨hn b hb, (f11 b hb).2⟩
        have loop1 : codeAny (model X.prog X.w) X.A (.compLoop (.SetComp elt [⟨tg, iter, ifs, 0⟩, ⟨tg1, iter1, ifs1, 0⟩] scope pos) 1 (.ref it1) (.ref D) ce)
            (fun r s' => match r with
              | .ok _ => ∃ m, m < n ∧ ∃ i H', Inv (X.blk s3 H3 scope ce fp) [] (wipe σ (own.map (·.2))) H' s' ∧ tn i s'.heap ∧ (∀ b ∈ fp, H' b = none) ∧ W i m H'
              | .error _ => False) s11 := by
          refine compLoop2_inS (fun k s' => ∃ j H', Inv (X.blk s3 H3 scope ce fp) ([] ++ pinsAt fp s7.heap) (wipe σ8 vs1) H' s' ∧ tn1 j s'.heap ∧ (∀ b ∈ fp1, H' b = none) ∧ W1 j k H') ?_ m1 ⟨0, H11, I11.weak (wipe_length _ _) (fun j v e => (wipe_some e).1), st11, fun b hb => (f11 b hb).1, w1⟩
          rintro k s12 ⟨j, H12, I12, st12, n12, w12⟩
          rcases turn1 j k H12 w12 with ⟨stop1, nx1⟩ | ⟨go1, Nx1, hNx1, step1⟩
          · refine thnF (T1.done (X.blk s3 H3 scope ce fp) rfl rfl rfl hc j _ s12 (wipe σ8 vs1) H12 (fun _ _ => False) I12 (stat1 n12) st12 stop1) fun r s13 ⟨hr, I13⟩ => ?_
            subst hr
            exact fin I13 (hl8.trans (wipe_length σ8 vs1).symm) hk9 nx1
          · refine thnF (T1.item (X.blk s3 H3 scope ce fp) rfl rfl rfl hc j _ s12 (wipe σ8 vs1) H12 (fun _ _ => False) I12 (stat1 n12) st12 go1) fun r s13 ⟨u1, hr, h13⟩ => ?_
            subst hr
            refine thnF h13 fun _ s14 ⟨x1, H14, I14, r14, y14, st14, n14⟩ => ?_
            have I14' := I14.pinned (stat1 n14) (T1.obj _ _ st14)
            refine thnF (pg1.run _ s14 (wipe σ8 vs1) H14 x1 u1 _ I14' r14 (step1 x1 H14 y14)) fun _ s15 ⟨σ15, H15, I15, hw15, q15⟩ => ?_
            refine thnF (pt1.run _ s15 σ15 H15 _ I15 q15) fun b1 s16 ⟨H16, I16, q16⟩ => ?_
            have fin1 : ∀ {s' : Shared} {H' : Hp}, Inv (X.blk s3 H3 scope ce fp) (([] ++ pinsAt fp s7.heap) ++ pinsAt fp1 s14.heap) σ15 H' s' → Nx1 H' → ∃ m, m < k ∧ ∃ j H', Inv (X.blk s3 H3 scope ce fp) ([] ++ pinsAt fp s7.heap) (wipe σ8 vs1) H' s' ∧ tn1 j s'.heap ∧ (∀ b ∈ fp1, H' b = none) ∧ W1 j m H' := fun {s' H'} I' nx => by
              obtain ⟨m', hm, w'⟩ := hNx1 H' nx
              have pin' : ∀ b ∈ fp1, ∀ o, s14.heap.get? b = some o → s'.heap.get? b = some o ∧ H' b = none := fun b hb o e =>
                let z := I'.pin (b, o) (List.mem_append_right _ (List.mem_append_right _ (mem_pinsAt hb e)))
                ⟨z.1, z.2.1⟩
              refine ⟨m', hm, j + 1, H', I'.unpinned.weak (by rw [← hw15, wipe_length]) (fun j v e => by rw [← hw15] at e; exact (wipe_some e).1), T1.keep _ _ _ st14 fun b hb o e => (pin' b hb o e).1, fun b hb => ?_, w'⟩
              obtain ⟨o, e, _⟩ := T1.obj _ _ st14 b hb
              exact (pin' b hb o e).2
            cases b1 with
            | false =>
              simp only [Bool.false_eq_true, if_false] at q16 ⊢
              exact fin1 I16 q16
            | true =>
              simp only [if_true] at q16 ⊢
              refine thnF (pe.run _ s16 σ15 H16 _ I16 q16) fun z s17 ⟨yv, H17, I17, r17, k, S, n0, ey, hD17, hz17, nx⟩ => ?_
              subst ey
              exact addK_ok (X := X.blk s3 H3 scope ce fp) I17 hD17 hz17 r17 fun s18 I18 => fin1 I18 nx
        exact compStart1_okS loop1 (T1.self X.A 0 _ _ _ st11 loop1)
  exact PpSet.codeAny_compStart_set loop (T.self X.A 0 _ _ _ st4 loop)
/-- as a value -/
theorem pe_sc2 {elt tg iter tg1 iter1 : Expr} {ifs ifs1 : List Expr} {scope : Scope} {own : List (Str × Nat)} {vs1 : List Nat} {pos : Pos} {wi wi1 : TI} {g g1 : TG} {tt tt1 : TT} {te : TE} (hc : X.calm = true) (hN : X.N.Nodup) (hi : PI X tg iter wi) (ok : BlkOk X.N X.env.scope scope own) (hv : ∀ i ∈ vs1, i ∈ own.map (·.2))
    (hg : ∀ (s : Shared) (H : Hp) (C : Addr) (cl : List (Str × Addr)) (fp : List Addr), PG (X.blk s H scope (compEnvC scope cl C X.env) fp) tg g) (ht : ∀ (s : Shared) (H : Hp) (C : Addr) (cl : List (Str × Addr)) (fp : List Addr), PTs (X.blk s H scope (compEnvC scope cl C X.env) fp) ifs tt)
    (hi1 : ∀ (s : Shared) (H : Hp) (C : Addr) (cl : List (Str × Addr)) (fp : List Addr), PI (X.blk s H scope (compEnvC scope cl C X.env) fp) tg1 iter1 wi1)
    (hg1 : ∀ (s : Shared) (H : Hp) (C : Addr) (cl : List (Str × Addr)) (fp : List Addr), PG (X.blk s H scope (compEnvC scope cl C X.env) fp) tg1 g1) (ht1 : ∀ (s : Shared) (H : Hp) (C : Addr) (cl : List (Str × Addr)) (fp : List Addr), PTs (X.blk s H scope (compEnvC scope cl C X.env) fp) ifs1 tt1)
    (he : ∀ (s : Shared) (H : Hp) (C : Addr) (cl : List (Str × Addr)) (fp : List Addr), PE (X.blk s H scope (compEnvC scope cl C X.env) fp) elt te) (hs : ∀ x, foldedSetIterable iter X.env x = pure x := by intro _; rfl) (hs1 : ∀ env x, foldedSetIterable iter1 env x = pure x := by intro _ _; rfl) :
    PE X (.SetComp elt [⟨tg, iter, ifs, 0⟩, ⟨tg1, iter1, ifs1, 0⟩] scope pos) (tSc2 X.prog X.w wi g tt wi1 g1 tt1 te (own.map (·.2)) vs1) := by
  refine ⟨fun pins s σ H Q I h => ?_⟩
  rw [PpSet.eval_SetComp]
  refine sc2_core hc hN I hi ok hv hg ht he hs hi1 hg1 ht1 hs1 h fun D C s' m H' I' q hn f => ⟨m, hn, fun h'' sb => ?_⟩
  obtain ⟨f0, f1, f2, f3, f4, f5⟩ := f
  exact ⟨.ref D, H', I'.turned (t' := s'.toks) (fun b o hb e => (sb.2 b hb).trans e) f0 f1 f3 f4 f5, rfl, q⟩
end
end PL
set_option Elab.async false
set_option linter.all false
set_option maxRecDepth 100000
set_option maxHeartbeats 2000000
/-! PLr: len of a set comprehension; two-clause lists as expressions; stored ones. -/
namespace PL
open PySem PySem.Spec PyProof.Rows L2
def keysOf : List D → Option (List Key)
  | [] => some []
  | d :: ds => (keyD d).bind fun k => (keysOf ds).map fun ks => k :: ks
instance decMemKey (k : Key) (l : List Key) : Decidable (k ∈ l) := decidable_of_iff (∃ x ∈ l, x = k) (by simp)
def nubL (ks : List Key) : List Key := ks.foldl (fun acc k => if k ∈ acc then acc else acc ++ [k]) []
theorem nubL_snoc (ks : List Key) (k : Key) : nubL (ks ++ [k]) = if k ∈ nubL ks then nubL ks else nubL ks ++ [k] := by
  unfold nubL
  rw [List.foldl_append]
  rfl
theorem mem_nubL (k : Key) (ks : List Key) : k ∈ nubL ks ↔ k ∈ ks := by
  have key : ∀ (ks acc : List Key), k ∈ ks.foldl (fun acc k => if k ∈ acc then acc else acc ++ [k]) acc ↔ k ∈ acc ∨ k ∈ ks := by
    intro ks
    induction ks with
    | nil => intro acc; simp
    | cons x xs ih =>
      intro acc
      rw [List.foldl_cons, ih]
      by_cases h : x ∈ acc
      · rw [if_pos h]
        constructor
        · rintro (z | z)
          · exact .inl z
          · exact .inr (List.mem_cons_of_mem _ z)
        · rintro (z | z)
          · exact .inl z
          · rcases List.mem_cons.mp z with z | z
            · exact .inl (z ▸ h)
            · exact .inr z
      · rw [if_neg h]
        simp [or_assoc]
  unfold nubL
  rw [key]
  simp
theorem nubL_le (ks : List Key) : (nubL ks).length ≤ ks.length := by
  have key : ∀ (ks acc : List Key), (ks.foldl (fun acc k => if k ∈ acc then acc else acc ++ [k]) acc).length ≤ acc.length + ks.length := by
    intro ks
    induction ks with
    | nil => intro acc; simp
    | cons x xs ih =>
      intro acc
      rw [List.foldl_cons]
      refine Nat.le_trans (ih _) ?_
      split
      · simp
      · simp; omega
  have := key ks []
  simpa [nubL] using this
theorem keysOf_append : ∀ {ys zs : List D} {ks : List Key}, keysOf (ys ++ zs) = some ks → ∃ k1 k2, keysOf ys = some k1 ∧ keysOf zs = some k2 ∧ ks = k1 ++ k2
  | [], zs, ks, h => ⟨[], ks, rfl, h, rfl⟩
  | y :: ys, zs, ks, h => by
    obtain ⟨k, e1, e2⟩ := bind_some (show (keyD y).bind _ = some ks from h)
    obtain ⟨ks', e3, rfl⟩ := map_some e2
    obtain ⟨k1, k2, e4, e5, rfl⟩ := keysOf_append e3
    refine ⟨k :: k1, k2, ?_, e5, rfl⟩
    show (keyD y).bind _ = _
    rw [e1]
    show (keysOf ys).map _ = _
    rw [e4]
    rfl
theorem keysOf_length : ∀ {ys : List D} {ks : List Key}, keysOf ys = some ks → ks.length = ys.length
  | [], ks, h => by cases h; rfl
  | y :: ys, ks, h => by
    obtain ⟨k, e1, e2⟩ := bind_some (show (keyD y).bind _ = some ks from h)
    obtain ⟨ks', e3, rfl⟩ := map_some e2
    rw [List.length_cons, List.length_cons, keysOf_length e3]
theorem keysOf_snoc {ys : List D} {ks : List Key} {y : D} {k : Key} (h : keysOf ys = some ks) (hk : keyD y = some k) : keysOf (ys ++ [y]) = some (ks ++ [k]) := by
  induction ys generalizing ks with
  | nil =>
    cases h
    show (keyD y).bind _ = _
    rw [hk]
    rfl
  | cons x xs ih =>
    obtain ⟨k1, e1, e2⟩ := bind_some (show (keyD x).bind _ = some ks from h)
    obtain ⟨ks', e3, rfl⟩ := map_some e2
    show (keyD x).bind _ = _
    rw [e1]
    show (keysOf (xs ++ [y])).map _ = _
    rw [ih e3]
    rfl
def xLenSc2 (src : Sl → M (List D × Bool)) (vs : List Nat) (g : D → Sl → Option Sl) (tt : Sl → M Bool) (src1 : Sl → M (List D × Bool)) (vs1 : List Nat) (g1 : D → Sl → Option Sl) (tt1 : Sl → M Bool) (te : Sl → M RV) : Sl → M RV := fun ρ =>
  bindM (src ρ) fun a => bindM (compL2 (wipeS ρ vs) g tt src1 vs1 g1 tt1 te a.1) fun ys => liftO (if ys.length < scanBound then (keysOf ys).map fun ks => RV.val (.int (nubL ks).length) else none)
section
variable {K : PySem.W.Frag} {E : XK} {src src1 : Sl → M (List D × Bool)} {g g1 : D → Sl → Option Sl} {tt tt1 : Sl → M Bool} {te : Sl → M RV} {vs vs1 is is1 : List Nat} {P : Program} {w : World}
def SetAt (P : Program) (w : World) (L : Addr) (W : Wd) (H : Hp) (ys : List D) : Prop := ∃ ks, keysOf ys = some ks ∧ H L = some (SetK P w L (fun j => decide (j ∈ ks)) (nubL ks).length) ∧ W.G L = none ∧ ¬ W.mut L
theorem acc_set {L : Addr} : AccOk K L (SetAt P w L) (fun y H N => ∃ (k : Key) (S : Key → Bool) (n : Nat), y = kV k ∧ H L = some (SetK P w L S n) ∧ n + 1 < scanBound ∧ N (upd H L (SetK P w L (fun j => S j || decide (j = k)) (if S k = true then n else n + 1))))
    (fun ys => (∃ ks, keysOf ys = some ks) ∧ ys.length < scanBound) where
  step := fun r s => by
    obtain ⟨ks, e1, e2, e3, e4⟩ := r
    exact ⟨ks, e1, s.keep _ _ e2 e4 id, s.nog _ _ e2 e3 id, s.noa _ _ e2 e4⟩
  push := fun {W H gs ys zs y v Nx} S r a hk h => by
    obtain ⟨ks, e1, e2, e3, e4⟩ := r
    obtain ⟨⟨kt, hkt⟩, hl⟩ := hk
    obtain ⟨k1, k2, e5, e6, _⟩ := keysOf_append hkt
    obtain ⟨k, e7, _⟩ := bind_some (show (keyD y).bind _ = some k2 from e6)
    have hle := nubL_le ks
    have hlen := keysOf_length e1
    have eS : (fun j => decide (j ∈ ks) || decide (j = k)) = fun j => decide (j ∈ ks ++ [k]) := by
      funext j
      by_cases h1 : j ∈ ks <;> by_cases h2 : j = k <;> simp [h1, h2]
    have en : (if decide (k ∈ ks) = true then (nubL ks).length else (nubL ks).length + 1) = (nubL (ks ++ [k])).length := by
      rw [nubL_snoc]
      by_cases h1 : k ∈ ks
      · rw [if_pos (by simpa using h1), if_pos ((mem_nubL k ks).mpr h1)]
      · rw [if_neg (by simpa using h1), if_neg fun z => h1 ((mem_nubL k ks).mp z), List.length_append]; rfl
    refine ⟨k, _, _, keyD_kV a e7, e2, ?_, ?_⟩
    · simp at hl
      omega
    · refine h _ ⟨ks ++ [k], keysOf_snoc e1 e7, ?_, e3, e4⟩ (S.write e3 e4) (Step.write rfl fun _ _ => trivial)
      rw [upd_same, en, eS]
theorem tX_lenSc2 {σ : Sg} {H : Hp} {Q : VK} (hs : ∀ j ∈ is, j ∈ vs) (hs1 : ∀ j ∈ is1, j ∈ vs1) (q : tX K E (xLenSc2 src vs g tt src1 vs1 g1 tt1 te) σ H Q) :
    tSc2 P w (tXI K E src) (tXG K is g) (tXT K E0 tt) (tXI K E0 src1) (tXG K is1 g1) (tXT K E0 tt1) (tX K E0 te) vs vs1 σ H fun x H' => ∃ L S n, x = .ref L ∧ H' L = some (SetK P w L S n) ∧ n < scanBound ∧ Q (.int n) H' := by
  obtain ⟨W, ρ, gs, S, Ev, q⟩ := q
  refine ⟨W, ρ, gs, S, Ev, ?_⟩
  have q' : post K E W H (QV K (Os ρ σ) H Q) ((src ρ gs).bind fun a => bindM (compL2 (wipeS ρ vs) g tt src1 vs1 g1 tt1 te a.1) fun ys => liftO (if ys.length < scanBound then (keysOf ys).map fun ks => RV.val (.int (nubL ks).length) else none)) := q
  cases es : src ρ gs with
  | stuck => rw [es] at q'; exact q'.elim
  | exc x g' => rw [es] at q'; exact q'
  | ok a g0 =>
    rw [es] at q'
    have q' : post K E W H (QV K (Os ρ σ) H Q) ((compL2 (wipeS ρ vs) g tt src1 vs1 g1 tt1 te a.1 g0).bind fun ys => liftO (if ys.length < scanBound then (keysOf ys).map fun ks => RV.val (.int (nubL ks).length) else none)) := q'
    cases ec : compL2 (wipeS ρ vs) g tt src1 vs1 g1 tt1 te a.1 g0 with
    | stuck => rw [ec] at q'; exact q'.elim
    | exc x g' => exact (compL2_ne ec).elim
    | ok ys gf =>
      rw [ec] at q'
      have q' : post K E W H (QV K (Os ρ σ) H Q) (liftO (if ys.length < scanBound then (keysOf ys).map fun ks => RV.val (.int (nubL ks).length) else none) gf) := q'
      obtain ⟨r, e1, q'⟩ := post_liftO q'
      by_cases hz : ys.length < scanBound
      · rw [if_pos hz] at e1
        obtain ⟨ks, e2, rfl⟩ := map_some e1
        intro W1 H1 s1 S1 J hJ L hL
        have nO : ¬ Os ρ σ L := (Ev.step s1).fresh hL
        have hJ' : ItR K J a.1 (relI a.2 (Os ρ σ) W1 (upd H1 L (SetK P w L (fun _ => false) 0))) := ⟨fun i W H gs hi S r => hJ.go i W H gs hi S (relI.trans (step_new S1 hL) r), fun W H gs S r => hJ.stop W H gs S (relI.trans (step_new S1 hL) r), fun i W H gs x H' hi S r y => hJ.yld i W H gs x H' hi S (relI.trans (step_new S1 hL) r) y⟩
        refine acc_turns2 acc_set (S1.new hL) ((Ev.step s1).step (step_new S1 hL)) ⟨[], rfl, by rw [upd_same]; rfl, S1.freeG hL, S1.freeM hL⟩ hJ' nO nO hs hs1 ec ⟨⟨ks, e2⟩, hz⟩ fun W2 H2 s2 S2 r2 => ?_
        obtain ⟨ks', e3, e4, e5, e6⟩ := r2
        rw [e2] at e3
        cases e3
        have hle := nubL_le ks
        have hlen := keysOf_length e2
        exact ⟨L, _, _, rfl, e4, by omega, q' W2 H2 ((s1.trans0 (step_new S1 hL)).trans s2 fun p z => .inr (z ▸ s1.none hL)) S2 _ (.int _)⟩
      · rw [if_neg hz] at e1; cases e1
end
theorem tSc2_mono {P : Program} {w : World} {wi1 : TI} {g g1 : TG} {tt tt1 : TT} {te : TE} {vs vs1 : List Nat} {σ : Sg} {H : Hp} {Q Q' : VK} {K : PySem.W.Frag} {E : XK} {src : Sl → M (List D × Bool)} (m : ∀ x H, Q x H → Q' x H) (h : tSc2 P w (tXI K E src) g tt wi1 g1 tt1 te vs vs1 σ H Q) : tSc2 P w (tXI K E src) g tt wi1 g1 tt1 te vs vs1 σ H Q' := by
  obtain ⟨W, ρ, gs, S, Ev, q⟩ := h
  refine ⟨W, ρ, gs, S, Ev, q.imp fun a W1 H1 g1 s1 S1 k J hJ D hD => ?_⟩
  obtain ⟨W0, h0, h1⟩ := k J hJ D hD
  refine ⟨W0, h0, fun i n H hw => ?_⟩
  rcases h1 i n H hw with ⟨z1, z2⟩ | z
  · exact .inl ⟨z1, m _ _ z2⟩
  · exact .inr z
section
variable {X : Cx} {E : XK} {src src1 : Sl → M (List D × Bool)} {g g1 : D → Sl → Option Sl} {tt tt1 : Sl → M Bool} {te : Sl → M RV} {is is1 : List Nat}
theorem cr_lenK : CallR X (.builtin "len") (fun xs H Q => ∃ (L : Addr) (S : Key → Bool) (n : Nat), xs = [V.ref L] ∧ H L = some (SetK X.prog X.w L S n) ∧ n < scanBound ∧ Q (.int n) H) := by
  intro pins s σ H xs us Q I r h
  obtain ⟨L, S, n, rfl, hH, hn, q⟩ := h
  obtain rfl := Vals.ref1 r
  obtain ⟨o, es, ep, t, ho, hex, hd, _, _, hb, hf, hs⟩ := setK_get I hH
  have hb' : es.size < 4096 := hb
  refine call_len_set ho hex hd hf (by omega) ?_
  rw [hs]
  exact ⟨.int n, H, (I.tok _).tok _, ⟨_, rfl⟩, q⟩
section
variable {elt tg iter tg1 iter1 : Expr} {ifs ifs1 : List Expr} {scope : Scope} {own : List (Str × Nat)} {vs1 : List Nat} {pos p cpos : Pos} {x : Str} (hc : X.calm = true) (hN : X.N.Nodup) (hi : PIX X E tg iter src) (ok : BlkOk X.N X.env.scope scope own) (hv1 : ∀ i ∈ vs1, i ∈ own.map (·.2))
    (hg : ∀ (s : Shared) (H : Hp) (C : Addr) (cl : List (Str × Addr)) (fp : List Addr), PGX (X.blk s H scope (compEnvC scope cl C X.env) fp) tg is g) (ht : ∀ (s : Shared) (H : Hp) (C : Addr) (cl : List (Str × Addr)) (fp : List Addr), PTsX (X.blk s H scope (compEnvC scope cl C X.env) fp) E0 ifs tt)
    (hi1 : ∀ (s : Shared) (H : Hp) (C : Addr) (cl : List (Str × Addr)) (fp : List Addr), PIX (X.blk s H scope (compEnvC scope cl C X.env) fp) E0 tg1 iter1 src1)
    (hg1 : ∀ (s : Shared) (H : Hp) (C : Addr) (cl : List (Str × Addr)) (fp : List Addr), PGX (X.blk s H scope (compEnvC scope cl C X.env) fp) tg1 is1 g1) (ht1 : ∀ (s : Shared) (H : Hp) (C : Addr) (cl : List (Str × Addr)) (fp : List Addr), PTsX (X.blk s H scope (compEnvC scope cl C X.env) fp) E0 ifs1 tt1)
    (he : ∀ (s : Shared) (H : Hp) (C : Addr) (cl : List (Str × Addr)) (fp : List Addr), PX (X.blk s H scope (compEnvC scope cl C X.env) fp) E0 elt te) (hv : ∀ j ∈ is, j ∈ own.map (·.2)) (hv2 : ∀ j ∈ is1, j ∈ vs1)
    (hs : ∀ x, foldedSetIterable iter X.env x = pure x) (hs1 : ∀ env x, foldedSetIterable iter1 env x = pure x)
include hc hN hi ok hv1 hg ht hi1 hg1 ht1 he hv hv2 hs hs1
theorem x_lc2 : PX X E (.ListComp elt [⟨tg, iter, ifs, 0⟩, ⟨tg1, iter1, ifs1, 0⟩] scope pos) (xLc2 src (own.map (·.2)) g tt src1 vs1 g1 tt1 te) :=
  ⟨(pe_lc2 hc hN hi.pi ok hv1 (fun s H C cl fp => (hg s H C cl fp).pg) (fun s H C cl fp => (ht s H C cl fp).pt) (fun s H C cl fp => (hi1 s H C cl fp).pi) (fun s H C cl fp => (hg1 s H C cl fp).pg) (fun s H C cl fp => (ht1 s H C cl fp).pt) (fun s H C cl fp => (he s H C cl fp).pe) hs hs1).mono fun σ H Q q => tX_lc2 hv hv2 q⟩
theorem s_setLc2 {i : Nat} {y : Str} {py spos : Pos} (hy : X.N[i]? = some y) (hyl : X.env.scope.names.lookup y = some .local) (hsw : swapsWith (.ListComp elt [⟨tg, iter, ifs, 0⟩, ⟨tg1, iter1, ifs1, 0⟩] scope pos) (some (.Name y py)) spos.line X.env = pure true) :
    PXS X E (.Assign [.Name y py] (.ListComp elt [⟨tg, iter, ifs, 0⟩, ⟨tg1, iter1, ifs1, 0⟩] scope pos) spos) (sSet i (xLc2 src (own.map (·.2)) g tt src1 vs1 g1 tt1 te)) :=
  ⟨(ps_setLc2 hc hN hy hyl hsw hi.pi ok hv1 (fun s H C cl fp => (hg s H C cl fp).pg) (fun s H C cl fp => (ht s H C cl fp).pt) (fun s H C cl fp => (hi1 s H C cl fp).pi) (fun s H C cl fp => (hg1 s H C cl fp).pg) (fun s H C cl fp => (ht1 s H C cl fp).pt) (fun s H C cl fp => (he s H C cl fp).pe) hs hs1).mono fun D σ H q => tX_lc2 hv hv2 (tX_set q)⟩
theorem s_setLc2F {i : Nat} {y : Str} {py spos : Pos} (hy : X.N[i]? = some y) (hyl : X.env.scope.names.lookup y = some .local) (hsw : swapsWith (.ListComp elt [⟨tg, iter, ifs, 0⟩, ⟨tg1, iter1, ifs1, 0⟩] scope pos) (some (.Name y py)) spos.line X.env = pure true) :
    PXS X E (.Assign [.Name y py] (.ListComp elt [⟨tg, iter, ifs, 0⟩, ⟨tg1, iter1, ifs1, 0⟩] scope pos) spos) (sSetF i (xLc2 src (own.map (·.2)) g tt src1 vs1 g1 tt1 te)) :=
  ⟨(ps_setLc2 hc hN hy hyl hsw hi.pi ok hv1 (fun s H C cl fp => (hg s H C cl fp).pg) (fun s H C cl fp => (ht s H C cl fp).pt) (fun s H C cl fp => (hi1 s H C cl fp).pi) (fun s H C cl fp => (hg1 s H C cl fp).pg) (fun s H C cl fp => (ht1 s H C cl fp).pt) (fun s H C cl fp => (he s H C cl fp).pe) hs hs1).mono fun D σ H q => tX_lc2 hv hv2 (tX_setF q)⟩
theorem x_lenSc2 (hG : Gl X "len") (hm : X.mg "len" = none) (hs2 : starEach [.SetComp elt [⟨tg, iter, ifs, 0⟩, ⟨tg1, iter1, ifs1, 0⟩] scope pos] X.env = (false, eval (.SetComp elt [⟨tg, iter, ifs, 0⟩, ⟨tg1, iter1, ifs1, 0⟩] scope pos) X.env) :: starEach [] X.env) :
    PX X E (.Call (.Name "len" p) [.SetComp elt [⟨tg, iter, ifs, 0⟩, ⟨tg1, iter1, ifs1, 0⟩] scope pos] [] cpos) (xLenSc2 src (own.map (·.2)) g tt src1 vs1 g1 tt1 te) :=
  ⟨(pe_callB cr_lenK hG hm rfl (pa_cons (pe_sc2 (wi := tXI X.K E src) (g := tXG X.K is g) (tt := tXT X.K E0 tt) (wi1 := tXI X.K E0 src1) (g1 := tXG X.K is1 g1) (tt1 := tXT X.K E0 tt1) (te := tX X.K E0 te) hc hN hi.pi ok hv1 (fun s H C cl fp => (hg s H C cl fp).pg) (fun s H C cl fp => (ht s H C cl fp).pt) (fun s H C cl fp => (hi1 s H C cl fp).pi) (fun s H C cl fp => (hg1 s H C cl fp).pg) (fun s H C cl fp => (ht1 s H C cl fp).pt) (fun s H C cl fp => (he s H C cl fp).pe) hs hs1) pa_nil hs2) (by decide) (by decide) hs2 rfl).mono fun σ H Q q => by
    have z := tX_lenSc2 (P := X.prog) (w := X.w) (vs := own.map (·.2)) hv hv2 q
    show tSc2 X.prog X.w (tXI X.K E src) (tXG X.K is g) (tXT X.K E0 tt) (tXI X.K E0 src1) (tXG X.K is1 g1) (tXT X.K E0 tt1) (tX X.K E0 te) (own.map (·.2)) vs1 σ H (fun x H1 => tNil σ H1 fun xs H2 => ∃ (L : Addr) (S : Key → Bool) (n : Nat), x :: xs = [V.ref L] ∧ H2 L = some (SetK X.prog X.w L S n) ∧ n < scanBound ∧ Q (.int n) H2)
    refine tSc2_mono (fun x H' h => ?_) z
    obtain ⟨L, S, n, rfl, e1, e2, e3⟩ := h
    exact ⟨L, S, n, rfl, e1, e2, e3⟩⟩
end
end
end PL
set_option Elab.async false
set_option linter.all false
set_option maxRecDepth 100000
set_option maxHeartbeats 2000000
/-! PLs: dict comprehensions; two stores at once; try; what is never reached. -/
namespace PL
open PySem PySem.Spec PyProof.Rows L2
def turnD (ρ0 : Sl) (g : D → Sl → Option Sl) (tt : Sl → M Bool) (tk tv : Sl → M RV) (d : D) : M (List (D × D)) :=
  bindM (liftO (g d ρ0)) fun ρ1 => bindM (tt ρ1) fun b => if b then useM (tk ρ1) fun rk => bindM (liftO (valOf rk)) fun k => useM (tv ρ1) fun rv => bindM (liftO (valOf rv)) fun v => retM [(k, v)] else retM []
def compD (ρ0 : Sl) (g : D → Sl → Option Sl) (tt : Sl → M Bool) (tk tv : Sl → M RV) : List D → M (List (D × D))
  | [] => retM []
  | d :: ds => bindM (calmM (turnD ρ0 g tt tk tv d)) fun xs => bindM (compD ρ0 g tt tk tv ds) fun ys => retM (xs ++ ys)
def putAll (kvs : List (D × D)) (ps : List (D × D)) : List (D × D) := ps.foldl (fun acc p => putD acc p.1 p.2) kvs
def xDc (src : Sl → M (List D × Bool)) (vs : List Nat) (g : D → Sl → Option Sl) (tt : Sl → M Bool) (tk tv : Sl → M RV) : Sl → M RV := fun ρ =>
  bindM (src ρ) fun a => bindM (compD (wipeS ρ vs) g tt tk tv a.1) fun ps => if ps.length ≤ sizeLine ∧ (ps.all fun p => (keyD p.1).isSome) = true then retM (.own (.dict (putAll [] ps))) else stuckM
theorem putD_len (kvs : List (D × D)) (k v : D) : (putD kvs k v).length ≤ kvs.length + 1 := by
  unfold putD
  split
  · simp
  · simp
section
variable {K : PySem.W.Frag} {E : XK} {src : Sl → M (List D × Bool)} {g : D → Sl → Option Sl} {tt : Sl → M Bool} {tk tv : Sl → M RV} {vs is : List Nat}
theorem post_bindS0 {α β : Type} {W : Wd} {H : Hp} {gs : GS} {Q : β → Wd → Hp → GS → Prop} {o : Option α} {f : α → M β} (h : post K E W H Q (bindM (liftO o) f gs)) : ∃ a, o = some a ∧ post K E W H Q (f a gs) := by
  cases o with
  | none => exact h.elim
  | some a => exact ⟨a, rfl, h⟩
theorem compD_ne {ρ0 : Sl} : ∀ {ds : List D} {gs : GS} {x : Exn} {g' : GS}, compD ρ0 g tt tk tv ds gs ≠ .exc x g'
  | [], _, _, _, h => by cases h
  | d :: ds, gs, x, g', h => by
    unfold compD at h
    have h : ((calmM (turnD ρ0 g tt tk tv d) gs).bind fun o => bindM (compD ρ0 g tt tk tv ds) fun ys => retM (o ++ ys)) = .exc x g' := h
    cases e : calmM (turnD ρ0 g tt tk tv d) gs with
    | stuck => rw [e] at h; cases h
    | exc z g0 =>
      unfold calmM at e
      split at e <;> cases e
    | ok o g1' =>
      rw [e] at h
      have h2 : ((compD ρ0 g tt tk tv ds g1').bind fun ys => retM (o ++ ys)) = .exc x g' := h
      cases e2 : compD ρ0 g tt tk tv ds g1' with
      | stuck => rw [e2] at h2; cases h2
      | ok ys g2 => rw [e2] at h2; cases h2
      | exc z g2 => exact compD_ne e2
theorem compD_cons {ρ0 : Sl} {d : D} {ds : List D} {gs gf : GS} {zs : List (D × D)} (h : compD ρ0 g tt tk tv (d :: ds) gs = .ok zs gf) :
    ∃ o g' ys, turnD ρ0 g tt tk tv d gs = .ok o g' ∧ compD ρ0 g tt tk tv ds g' = .ok ys gf ∧ zs = o ++ ys := by
  unfold compD at h
  have h : ((calmM (turnD ρ0 g tt tk tv d) gs).bind fun o => bindM (compD ρ0 g tt tk tv ds) fun ys => retM (o ++ ys)) = .ok zs gf := h
  cases e : calmM (turnD ρ0 g tt tk tv d) gs with
  | stuck => rw [e] at h; cases h
  | exc z g0 =>
    unfold calmM at e
    split at e <;> cases e
  | ok o g1' =>
    rw [e] at h
    have h2 : ((compD ρ0 g tt tk tv ds g1').bind fun ys => retM (o ++ ys)) = .ok zs gf := h
    cases e2 : compD ρ0 g tt tk tv ds g1' with
    | stuck => rw [e2] at h2; cases h2
    | ok ys g2 => rw [e2] at h2; cases h2; exact ⟨o, g1', ys, calm_ok e, e2, rfl⟩
    | exc z g2 => rw [e2] at h2; cases h2
theorem tX_dc {σ : Sg} {H : Hp} {Q : VK} (hs : ∀ j ∈ is, j ∈ vs) (q : tX K E (xDc src vs g tt tk tv) σ H Q) : tDc (tXI K E src) (tXG K is g) (tXT K E0 tt) (tX K E0 tk) (tX K E0 tv) vs σ H Q := by
  obtain ⟨W, ρ, gs, S, Ev, q⟩ := q
  refine ⟨W, ρ, gs, S, Ev, ?_⟩
  have q' : post K E W H (QV K (Os ρ σ) H Q) ((src ρ gs).bind fun a => bindM (compD (wipeS ρ vs) g tt tk tv a.1) fun ps => if ps.length ≤ sizeLine ∧ (ps.all fun p => (keyD p.1).isSome) = true then retM (.own (.dict (putAll [] ps))) else stuckM) := q
  cases es : src ρ gs with
  | stuck => rw [es] at q'; exact q'.elim
  | exc x g' => rw [es] at q'; exact q'
  | ok a g0 =>
    rw [es] at q'
    have q' : post K E W H (QV K (Os ρ σ) H Q) ((compD (wipeS ρ vs) g tt tk tv a.1 g0).bind fun ps => if ps.length ≤ sizeLine ∧ (ps.all fun p => (keyD p.1).isSome) = true then retM (.own (.dict (putAll [] ps))) else stuckM) := q'
    cases ec : compD (wipeS ρ vs) g tt tk tv a.1 g0 with
    | stuck => rw [ec] at q'; exact q'.elim
    | exc x g' => exact (compD_ne ec).elim
    | ok ps gf =>
      rw [ec] at q'
      have q' : post K E W H (QV K (Os ρ σ) H Q) ((if ps.length ≤ sizeLine ∧ (ps.all fun p => (keyD p.1).isSome) = true then retM (.own (.dict (putAll [] ps))) else stuckM) gf) := q'
      by_cases hz : ps.length ≤ sizeLine ∧ (ps.all fun p => (keyD p.1).isSome) = true
      · rw [if_pos hz] at q'
        have q' : post K E W H (QV K (Os ρ σ) H Q) (.ok (.own (.dict (putAll [] ps))) gf) := q'
        obtain ⟨hz, hk⟩ := hz
        intro W1 H1 s1 S1 J hJ L hL
        have nO : ¬ Os ρ σ L := (Ev.step s1).fresh hL
        have Ev1 := Ev.step s1
        let T : Nat → Hp → Prop := fun i H => ∃ W gs ys zs, Step NoB W1 W H1 H ∧ StR K W H gs ∧ OwnAt K W H (.dict (putAll [] ys)) L ∧ (putAll [] ys).length ≤ ys.length ∧ compD (wipeS ρ vs) g tt tk tv (a.1.drop i) gs = .ok zs gf ∧ ys ++ zs = ps
        refine ⟨fun i m H => m = a.1.length - i ∧ i ≤ a.1.length ∧ T i H, ⟨a.1.length, by simp, Nat.zero_le _, W1, g0, [], ps, step_new S1 hL, S1.new hL, ⟨⟨[], upd_same, .nil⟩, S1.freeG hL, S1.freeM hL⟩, Nat.le_refl _, by simpa using ec, rfl⟩, ?_⟩
        rintro i m H ⟨rfl, hi, W, gs, ys, zs, s, S, r, rl, ec, et⟩
        by_cases hlt : i < a.1.length
        · refine .inr ⟨hJ.go i W H gs hlt S (relI.of s), T (i + 1), fun H' t => ⟨a.1.length - (i + 1), by omega, rfl, hlt, t⟩, fun x H' y => ?_⟩
          obtain ⟨W2, d, s2, S2, e2, r2⟩ := hJ.yld i W H gs x H' hlt S (relI.of s) y
          rw [drop_cons e2] at ec
          obtain ⟨o, g1, zs', e3, e4, rfl⟩ := compD_cons ec
          have pt : post K E0 W2 H' (fun o' W3 H3 g4 => o' = o ∧ g4 = g1) (turnD (wipeS ρ vs) g tt tk tv d gs) := by
            rw [e3]; exact fun _ _ _ _ => ⟨rfl, rfl⟩
          have Ew := ((Ev1.step s).step s2).wipe vs
          cases eg : g d (wipeS ρ vs) with
          | none =>
            have pt' : post K E0 W2 H' (fun o' W3 H3 g4 => o' = o ∧ g4 = g1) ((liftO (g d (wipeS ρ vs)) gs).bind fun ρ1 => bindM (tt ρ1) fun b => if b then useM (tk ρ1) fun rk => bindM (liftO (valOf rk)) fun k => useM (tv ρ1) fun rv => bindM (liftO (valOf rv)) fun v => retM [(k, v)] else retM []) := pt
            rw [eg] at pt'
            exact pt'.elim
          | some ρ1 =>
            have pt' : post K E0 W2 H' (fun o' W3 H3 g4 => o' = o ∧ g4 = g1) ((liftO (g d (wipeS ρ vs)) gs).bind fun ρ1 => bindM (tt ρ1) fun b => if b then useM (tk ρ1) fun rk => bindM (liftO (valOf rk)) fun k => useM (tv ρ1) fun rv => bindM (liftO (valOf rv)) fun v => retM [(k, v)] else retM []) := pt
            rw [eg] at pt'
            have pt2 : post K E0 W2 H' (fun o' W3 H3 g4 => o' = o ∧ g4 = g1) (bindM (tt ρ1) (fun b => if b then useM (tk ρ1) fun rk => bindM (liftO (valOf rk)) fun k => useM (tv ρ1) fun rv => bindM (liftO (valOf rv)) fun v => retM [(k, v)] else retM []) gs) := pt'
            refine ⟨W2, wipeS ρ vs, gs, d, ρ1, S2, Ew, r2, eg, fun σ2 E2 o4 l4 k4 => ⟨?_, ?_⟩⟩
            · exact wipe_eq (by rw [l4, wipe_length]) fun j hj => k4 j fun hm => hj (hs j hm)
            · refine tXT_use S2 E2 pt2 fun b W3 H3 gs3 s3 S3 E3 q3 => ?_
              cases b with
              | false =>
                simp only [Bool.false_eq_true, if_false] at q3 ⊢
                have q3 : post K E0 W3 H3 (fun o' W3 H3 g4 => o' = o ∧ g4 = g1) (.ok [] gs3) := q3
                obtain ⟨e5, e6⟩ := q3.done S3
                subst e6; subst e5
                exact ⟨W3, _, ys, zs', (s.trans0 s2).trans0 s3, S3, (r.step s2 id).step s3 id, rl, e4, et⟩
              | true =>
                simp only [if_true] at q3 ⊢
                refine tX_use S3 E3 q3 fun r4 v W4 H4 gs4 s4 S4 E4 a4 q4 => ?_
                obtain ⟨k, ek, q4⟩ := post_bindS0 q4
                refine tX_use S4 E4 q4 fun r5 v5 W5 H5 gs5 s5 S5 E5 a5 q5 => ?_
                obtain ⟨d5, ed, q5⟩ := post_bindS0 q5
                have q5 : post K E0 W5 H5 (fun o' W3 H3 g4 => o' = o ∧ g4 = g1) (.ok [(k, d5)] gs5) := q5
                obtain ⟨e5, e6⟩ := q5.done S5
                subst e6; subst e5
                have ow := (((r.step s2 id).step s3 id).step s4 id).step s5 id
                obtain ⟨kvs, h1, h2⟩ := own_dict ow
                have hmem : (k, d5) ∈ ps := by rw [← et]; simp
                have hks := List.all_eq_true.mp hk _ hmem
                obtain ⟨k', ek'⟩ := Option.isSome_iff_exists.mp hks
                have av : Rp K W5.G v5 d5 := by
                  cases r5 with
                  | val d0 => cases ed; exact a5
                  | _ => cases ed
                have ak : Rp K W4.G v k := by
                  cases r4 with
                  | val d0 => cases ek; exact a4
                  | _ => cases ek
                have hlen : ys.length + 1 ≤ ps.length := by rw [← et]; simp
                refine ⟨kvs, k', keyD_kV ak ek', h1, ?_, W5, _, ys ++ [(k, d5)], zs', step_own ((((s.trans0 s2).trans0 s3).trans0 s4).trans0 s5) hL, S5.write ow.g ow.a, ⟨⟨_, upd_same, ?_⟩, ow.g, ow.a⟩, ?_, e4, ?_⟩
                · rw [h2.length]; omega
                · have : putAll [] (ys ++ [(k, d5)]) = putD (putAll [] ys) k d5 := by unfold putAll; rw [List.foldl_append]; rfl
                  rw [this]
                  exact h2.put ek' av
                · have : putAll [] (ys ++ [(k, d5)]) = putD (putAll [] ys) k d5 := by unfold putAll; rw [List.foldl_append]; rfl
                  rw [this]
                  have := putD_len (putAll [] ys) k d5
                  simp
                  omega
                · rw [← et]; simp
        · have e : i = a.1.length := by omega
          subst e
          rw [List.drop_length] at ec
          cases ec
          rw [List.append_nil] at et
          subst et
          exact .inl ⟨hJ.stop W H _ S (relI.of s), q' W H (s1.trans0 s) S _ ⟨L, rfl, r, s1.none hL⟩⟩
      · rw [if_neg hz] at q'; exact q'.elim
end
section
variable {X : Cx} {E : XK} {src : Sl → M (List D × Bool)} {is : List Nat} {g : D → Sl → Option Sl} {tt : Sl → M Bool} {tk tv : Sl → M RV}
theorem x_dc {kx vx tg iter : Expr} {ifs : List Expr} {scope : Scope} {own : List (Str × Nat)} {pos : Pos} (hc : X.calm = true) (hN : X.N.Nodup) (hi : PIX X E tg iter src) (ok : BlkOk X.N X.env.scope scope own)
    (hg : ∀ (s : Shared) (H : Hp) (C : Addr) (cl : List (Str × Addr)) (fp : List Addr), PGX (X.blk s H scope (compEnvC scope cl C X.env) fp) tg is g) (ht : ∀ (s : Shared) (H : Hp) (C : Addr) (cl : List (Str × Addr)) (fp : List Addr), PTsX (X.blk s H scope (compEnvC scope cl C X.env) fp) E0 ifs tt)
    (hk : ∀ (s : Shared) (H : Hp) (C : Addr) (cl : List (Str × Addr)) (fp : List Addr), PX (X.blk s H scope (compEnvC scope cl C X.env) fp) E0 kx tk)
    (he : ∀ (s : Shared) (H : Hp) (C : Addr) (cl : List (Str × Addr)) (fp : List Addr), PX (X.blk s H scope (compEnvC scope cl C X.env) fp) E0 vx tv) (hv : ∀ j ∈ is, j ∈ own.map (·.2)) (hs : ∀ x, foldedSetIterable iter X.env x = pure x := by intro _; rfl) :
    PX X E (.DictComp kx vx [⟨tg, iter, ifs, 0⟩] scope pos) (xDc src (own.map (·.2)) g tt tk tv) :=
  ⟨(pe_dc hc hN hi.pi ok (fun s H C cl fp => (hg s H C cl fp).pg) (fun s H C cl fp => (ht s H C cl fp).pt) (fun s H C cl fp => (hk s H C cl fp).pe) (fun s H C cl fp => (he s H C cl fp).pe) hs).mono fun σ H Q q => tX_dc hv q⟩
end

/-! ### two stores at once -/
def sPar (i j : Nat) (ga gb : Sl → M RV) : Sl → M Out := fun ρ => bindM (ga ρ) fun r => bindM (gb ρ) fun r' => bindM (liftO (slotV r)) fun s => bindM (liftO (slotV r')) fun s' => retM (.nx ((ρ.set i s).set j s'))
section
variable {K : PySem.W.Frag} {W W1 : Wd} {H H1 : Hp} {ρ : Sl} {σ : Sg}
theorem slot_of {r : RV} {s : Slot} {v : V} (Ev : EnvR K W H ρ σ) (hv : RVR K (Os ρ σ) H W1 H1 r v) (e : slotV r = some s) (st : Step NoB W W1 H H1) : SlotOk K W1 H1 ρ σ s v ∧ ∀ d p, s = .own d → v = .ref p → H p = none := by
  cases r with
  | val d => cases e; exact ⟨hv, fun _ _ z => by cases z⟩
  | own d =>
    cases e
    obtain ⟨p, rfl, o, n⟩ := hv
    exact ⟨⟨p, rfl, o, fun h => Ev.fresh n h⟩, fun _ _ _ z => by cases z; exact n⟩
  | obj n => cases e; exact ⟨hv, fun _ _ z => by cases z⟩
  | bor d => cases e
theorem SlotOk.step {W2 : Wd} {H2 : Hp} {s : Slot} {v : V} (h : SlotOk K W1 H1 ρ σ s v) (st : Step NoB W1 W2 H1 H2) : SlotOk K W2 H2 ρ σ s v := by
  cases s with
  | un => exact h
  | val d => exact Rp.same st.le.g _ _ h
  | own d => obtain ⟨p, e, o, n⟩ := h; exact ⟨p, e, o.step st id, n⟩
  | obj n => obtain ⟨a, l, e, q⟩ := h; exact ⟨a, l, e, st.le.at q⟩
end
theorem tX_rawB {K : PySem.W.Frag} {E : XK} {W0 W : Wd} {H0 H : Hp} {ρ : Sl} {σ : Sg} {gs : GS} {ga : Sl → M RV} {f : RV → M Out} {De : Ends} {P : V → Hp → Prop} (S : StR K W H gs) (Ev : EnvR K W H ρ σ) (s0 : Step NoB W0 W H0 H) (h : postS K E De ρ σ W0 H0 (bindM (ga ρ) f gs))
    (k : ∀ r v W1 H1 gs1, Step NoB W W1 H H1 → StR K W1 H1 gs1 → EnvR K W1 H1 ρ σ → RVR K (Os ρ σ) H W1 H1 r v → postS K E De ρ σ W0 H0 (f r gs1) → P v H1) : tX K E ga σ H P := by
  refine ⟨W, ρ, gs, S, Ev, ?_⟩
  unfold bindM at h
  cases e : ga ρ gs with
  | ok r g1 =>
    rw [e] at h
    exact fun W1 H1 s1 S1 v hv => k r v W1 H1 g1 s1 S1 (Ev.step s1) hv h
  | exc x g =>
    rw [e] at h
    exact fun cls dd W' H' s' S' X' => h cls dd W' H' (s0.trans0 s').weak S' X'
  | stuck => rw [e] at h; exact h
section
variable {X : Cx} {E : XK} {a b : Expr} {ga gb : Sl → M RV}
theorem s_par {i j : Nat} {x y : Str} {px py pt pos : Pos} {kt k2 pt2} (hc : X.calm = true) (hN : X.N.Nodup) (hi : X.N[i]? = some x) (hj : X.N[j]? = some y) (hij : i ≠ j)
    (hx : X.env.scope.names.lookup x = some .local) (hy : X.env.scope.names.lookup y = some .local) (ha : PX X E a ga) (hb : PX X E b gb)
    (hw : swappedStores [.Tuple [.Name x px, .Name y py] kt pt] (.Tuple [a, b] k2 pt2) X.env = pure (some [x, y]))
    (hs : swapsWithSole [.Tuple [.Name x px, .Name y py] kt pt] (.Tuple [a, b] k2 pt2) pos.line X.env = pure false := by rfl)
    (hs1 : starEach [a, b] X.env = (false, eval a X.env) :: starEach [b] X.env := by rfl) (hs2 : starEach [b] X.env = (false, eval b X.env) :: starEach [] X.env := by rfl) :
    PXS X E (.Assign [.Tuple [.Name x px, .Name y py] kt pt] (.Tuple [a, b] k2 pt2) pos) (sPar i j ga gb) :=
  ⟨(ps_par hc hN hi hj hij hx hy (pa_cons ha.pe (pa_cons hb.pe pa_nil hs2) hs1) hw hs).mono fun D σ H q => by
    obtain ⟨W, ρ, gs, S, Ev, q⟩ := q
    refine tX_raw S Ev q fun r v W1 H1 gs1 s1 S1 E1 a1 q1 => ?_
    refine tX_rawB S1 E1 s1 q1 fun r' v' W2 H2 gs2 s2 S2 E2 a2 q2 => ?_
    obtain ⟨s, e1, q2⟩ := post_bindS q2
    obtain ⟨s', e2, q2⟩ := post_bindS q2
    refine ⟨v, v', rfl, ?_⟩
    obtain ⟨k1, k2⟩ := slot_of Ev a1 e1 s1
    obtain ⟨k3, k4⟩ := slot_of E1 a2 e2 s2
    have k1 := k1.step s2
    have E3 := E2.set (i := i) k1
    have k5 : SlotOk X.K W2 H2 (ρ.set i s) (σ.set i (some v)) s' v' := by
      cases s' with
      | un => exact k3
      | val d => exact k3
      | own d =>
        obtain ⟨p, e, o, n⟩ := k3
        refine ⟨p, e, o, fun h => ?_⟩
        rcases h.of_set with h0 | ⟨hv1, d0, hd⟩
        · exact n h0
        · have n1 := k4 d p rfl e
          subst hd
          obtain ⟨p1, e3, o3⟩ : ∃ p1, v = .ref p1 ∧ OwnAt X.K W1 H1 d0 p1 := by
            cases r with
            | own d1 => cases e1; obtain ⟨p1, z1, z2, _⟩ := a1; exact ⟨p1, z1, z2⟩
            | val d1 => cases e1
            | bor d1 => cases e1
            | obj d1 => cases e1
          rw [hv1] at e3
          cases e3
          obtain ⟨o4, e4⟩ := o3.r.there
          rw [n1] at e4; cases e4
      | obj n => exact k3
    refine q2 _ W2 H2 (s1.trans0 s2).weak (fun p hp => ?_) S2 (E3.set (i := j) k5)
    rcases hp.of_set with hp | ⟨e, d, hd⟩
    · rcases hp.of_set with hp | ⟨e, d, hd⟩
      · exact .inl hp
      · exact .inr (k2 d p hd e)
    · exact .inr (s1.none (k4 d p hd e))⟩
end
/-! ### try where nothing is raised; what is never reached -/
section
variable {X : Cx} {E : XK} {body : List Stmt} {gb : Sl → M Out}
def sTry (gb : Sl → M Out) : Sl → M Out := fun ρ => calmM (gb ρ)
theorem tXS_calm {K : PySem.W.Frag} {De : Ends} {σ : Sg} {H : Hp} (q : tXS K E (sTry gb) De σ H) : tXS K E0 gb De σ H := by
  obtain ⟨W, ρ, gs, S, Ev, q⟩ := q
  refine ⟨W, ρ, gs, S, Ev, ?_⟩
  have q' : postS K E De ρ σ W H (calmM (gb ρ) gs) := q
  unfold calmM at q'
  split at q'
  · rename_i o g e
    rw [e]
    cases o with
    | nx ρ' => exact q'
    | brk ρ' => exact q'
    | cnt ρ' => exact q'
    | ret r => exact q'
  · exact q'.elim
theorem s_try {h0 : ExceptHandler} {hs : List ExceptHandler} {pos : Pos} (hb : PXB X.nox E0 body gb) : PXS X E (.Try body (h0 :: hs) [] [] pos) (sTry gb) :=
  ⟨(ps_try_thru0 hb.ps).mono fun D σ H q => tXS_calm q⟩
def sNever : Sl → M Out := fun _ => stuckM
theorem s_never {st : Stmt} : PXS X E st sNever := ⟨ps_never.mono fun D σ H q => by
  obtain ⟨W, ρ, gs, S, Ev, q⟩ := q
  exact q.elim⟩
/-! ### a stream is handed back -/
def strmR : RV → Option (List Int × Int × Int)
  | .own (.list [.list ds, .int c, .int k]) => (intsOf ds).bind fun ns => if ns.length ≤ sizeLine then some (ns, c, k) else none
  | _ => none
def sRetS (ge : Sl → M RV) : Sl → M Out := fun ρ => bindM (ge ρ) fun r => bindM (liftO (strmR r)) fun z => fun gs => .ok (.ret (.obj gs.length)) (gs ++ [.strm z.1 z.2.1 z.2.2])
theorem SOk.snoc {K : PySem.W.Frag} {G H : Hp} {ns : List Int} {c k : Int} {a l : Addr} (h : H a = some (.lst [.ref l, .int c, .int k]) ∧ G l = some (.lst (ns.map V.int)) ∧ ns.length ≤ sizeLine) : ∀ {gs : GS} {as : List (Addr × Addr)}, SOk K G H gs as → SOk K G H (gs ++ [.strm ns c k]) (as ++ [(a, l)])
  | [], [], _ => ⟨h, trivial⟩
  | .strm .. :: r, (_, _) :: as, q => ⟨q.1, SOk.snoc h q.2⟩
  | [], _ :: _, q => q.elim
  | .strm .. :: _, [], q => q.elim
theorem s_retS {e : Expr} {ge : Sl → M RV} {pos : Pos} (h : PX X E e ge) : PXS X E (.Return (some e) pos) (sRetS ge) := ⟨(ps_ret h.pe).mono fun De σ H q => by
  obtain ⟨W, ρ, gs, S, Ev, q⟩ := q
  refine tX_raw S Ev q fun r v W1 H1 gs1 s1 S1 E1 a1 q1 => ?_
  obtain ⟨z, e1, q1⟩ := post_bindS q1
  unfold strmR at e1
  split at e1
  · rename_i ds c k
    obtain ⟨ns, e2, e3⟩ := bind_some e1
    obtain ⟨hl, rfl⟩ := ite_some e3
    obtain ⟨p, rfl, o, n⟩ := a1
    obtain ⟨vs, h1, h2⟩ := own_list o
    obtain ⟨l, h3, h4⟩ : ∃ l, H1 p = some (.lst [.ref l, .int c, .int k]) ∧ W1.G l = some (.lst (ns.map V.int)) := by
      cases h2 with
      | cons r1 t1 =>
        cases t1 with
        | cons r2 t2 =>
          cases t2 with
          | cons r3 t3 =>
            cases t3
            cases r2
            cases r3
            cases r1 with
            | lst h5 h6 =>
              have := intsOf_vals e2 h6
              subst this
              exact ⟨_, h1, h5⟩
    have q1 : postS X.K E De ρ σ W H (.ok (.ret (.obj gs1.length)) (gs1 ++ [.strm ns c k])) := q1
    have hlen := SOk.length S1.st
    have hmut : ∀ b, (⟨W1.G, W1.am ++ [(p, l)]⟩ : Wd).mut b → W1.mut b ∨ b = p := fun b hb => by
      have hb : b ∈ (W1.am ++ [(p, l)]).map (·.1) := hb
      rw [List.map_append] at hb
      rcases List.mem_append.mp hb with hb | hb
      · exact .inl hb
      · exact .inr (by simpa using hb)
    refine q1 _ ⟨W1.G, W1.am ++ [(p, l)]⟩ H1 ⟨?_, fun b u e m _ => s1.keep b u e m id, s1.there, fun b u e g _ => s1.nog b u e g id, fun b u e m hb => ?_⟩ ⟨S1.sub, SOk.snoc ⟨h3, h4, hl⟩ S1.st, ?_, fun b hb => ?_⟩ ⟨p, l, rfl, ?_⟩
    · obtain ⟨r, e⟩ := s1.le.a
      exact ⟨s1.le.g, r ++ [(p, l)], by rw [← List.append_assoc, ← e]⟩
    · rcases hmut b hb with hb | hb
      · exact s1.noa b u e m hb
      · rw [hb, n] at e; cases e
    · show ((W1.am ++ [(p, l)]).map (·.1)).Nodup
      rw [List.map_append, List.nodup_append]
      refine ⟨S1.nd, by simp, fun a ha b hb => ?_⟩
      have : b = p := by simpa using hb
      subst this
      exact fun z => o.a (z ▸ ha)
    · rcases hmut b hb with hb | hb
      · exact S1.fr b hb
      · rw [hb]; exact o.g
    · show (W1.am ++ [(p, l)])[gs1.length]? = some (p, l)
      rw [hlen, List.getElem?_append_right (Nat.le_refl _)]
      simp
  · cases e1⟩
end
end PL
set_option Elab.async false
set_option linter.all false
set_option maxRecDepth 100000
set_option maxHeartbeats 2000000
/-! PLt: a def by its body; the law's end. -/
namespace PL
open PySem PySem.Spec PyProof.Rows L2
/-- the body g, its m further names not set yet -/
def bodyM (m : Nat) (g : Sl → M Out) : Sl → M RV := fun ss => bindM (calmM (g (ss ++ List.replicate m .un))) fun o => match o with
  | .nx _ => retM (.val .none)
  | .ret r => retM r
  | _ => stuckM
section
variable {K : PySem.W.Frag} {W : Wd} {H : Hp}
theorem SlotsR.len : ∀ {ss : List Slot} {vs : List V}, SlotsR K W ss vs → ss.length = vs.length
  | [], [], _ => rfl
  | .val _ :: r, v :: vs, h => by rw [List.length_cons, List.length_cons, SlotsR.len h.2]
  | .obj _ :: r, v :: vs, h => by rw [List.length_cons, List.length_cons, SlotsR.len h.2]
  | [], _ :: _, h => h.elim
  | .val _ :: _, [], h => h.elim
  | .obj _ :: _, [], h => h.elim
  | .un :: _, _, h => by cases ‹List V› <;> exact h.elim
  | .own _ :: _, _, h => by cases ‹List V› <;> exact h.elim
theorem SlotsR.at : ∀ {ss : List Slot} {vs : List V} {i : Nat} {s : Slot}, SlotsR K W ss vs → ss[i]? = some s → ∃ v, vs[i]? = some v ∧ ((∃ d, s = .val d ∧ Rp K W.G v d) ∨ ∃ n a l, s = .obj n ∧ v = .ref a ∧ W.am[n]? = some (a, l))
  | .val d :: r, v :: vs, 0, s, h, e => by simp at e; subst e; exact ⟨v, rfl, .inl ⟨d, rfl, h.1⟩⟩
  | .obj n :: r, v :: vs, 0, s, h, e => by simp at e; subst e; obtain ⟨a, l, e1, e2⟩ := h.1; exact ⟨v, rfl, .inr ⟨n, a, l, rfl, e1, e2⟩⟩
  | .val d :: r, v :: vs, i + 1, s, h, e => by obtain ⟨v', e1, e2⟩ := SlotsR.at (i := i) h.2 (by simpa using e); exact ⟨v', by simpa using e1, e2⟩
  | .obj d :: r, v :: vs, i + 1, s, h, e => by obtain ⟨v', e1, e2⟩ := SlotsR.at (i := i) h.2 (by simpa using e); exact ⟨v', by simpa using e1, e2⟩
  | [], _, _, _, _, e => by simp at e
  | .val _ :: _, [], _, _, h, _ => h.elim
  | .obj _ :: _, [], _, _, h, _ => h.elim
  | .un :: _, _, _, _, h, _ => by cases ‹List V› <;> exact h.elim
  | .own _ :: _, _, _, _, h, _ => by cases ‹List V› <;> exact h.elim
theorem env_start {N : List Str} {ss : List Slot} {vs : List V} (h : SlotsR K W ss vs) : EnvR K W H (ss ++ List.replicate (N.length - vs.length) .un) (L2.start N vs) := by
  have hl := h.len
  have no : ∀ {i : Nat} {s : Slot}, (ss ++ List.replicate (N.length - vs.length) Slot.un)[i]? = some s → s = .un ∨ ∃ v, (L2.start N vs)[i]? = some (some v) ∧ ((∃ d, s = .val d ∧ Rp K W.G v d) ∨ ∃ n a l, s = .obj n ∧ v = .ref a ∧ W.am[n]? = some (a, l)) := fun {i s} e => by
    by_cases hi : i < ss.length
    · rw [List.getElem?_append_left hi] at e
      obtain ⟨v, e1, e2⟩ := h.at e
      refine .inr ⟨v, ?_, e2⟩
      unfold L2.start
      rw [List.getElem?_append_left (by rw [List.length_map, ← hl]; exact hi), List.getElem?_map, e1]
      rfl
    · rw [List.getElem?_append_right (by omega)] at e
      exact .inl (List.eq_of_mem_replicate (List.mem_of_getElem? e))
  refine ⟨?_, fun i d e => ?_, fun i n e => ?_, fun i d e => ?_, fun i j p d e h1 _ _ _ => ?_⟩
  · unfold L2.start
    simp [hl]
  · rcases no e with z | ⟨v, e1, ⟨d', z, r⟩ | ⟨n, a, l, z, _⟩⟩
    · cases z
    · cases z; exact ⟨v, e1, r⟩
    · cases z
  · rcases no e with z | ⟨v, e1, ⟨d', z, r⟩ | ⟨n, a, l, z, e2, e3⟩⟩
    · cases z
    · cases z
    · cases z; subst e2; exact ⟨a, l, e1, e3⟩
  · rcases no e with z | ⟨v, e1, ⟨d', z, r⟩ | ⟨n, a, l, z, e2, e3⟩⟩ <;> cases z
  · rcases no h1 with z | ⟨v, e1, ⟨d', z, r⟩ | ⟨n, a, l, z, e2, e3⟩⟩ <;> cases z
end
theorem fn_def {P : Program} {w : World} {K : PySem.W.Frag} {mg : Str → Option Value} {base : Heap} {k n m : Nat} {f : Addr} {x qual : Str} {params : Arguments} {body : List Stmt} {scope : Scope} {dvs : List V} {kws : List (Str × V)} {fd : FuncData}
    {N ps : List Str} {g : Sl → M Out} (F : FunD K x qual params body scope dvs kws f fd) (S : FnScope N ps scope) (hn : ps.length = n) (hm : N.length - n = m)
    (hbody : ∀ (cdv : Value) (A : Around) (outer : List Env) (s : Shared) (H : Hp) (E : XK), A.guards = some [] → Room k (A.deeper (envOfC qual scope s.heap.objs.size f cdv)) → PXB (cxOf CX0 P w K mg base N qual scope f cdv A outer s H E).nox E0 body g) :
    FnG P w K mg base CX0 (k + 1) f fd ps (spD K n (bodyM m g)) := by
  refine fnG_of F S (fun vs H Q E h => by rw [h.1, hn]) fun cdv A outer s H vs Q E hg hr h => ⟨tXS K E0 g, PSs.nox (hbody cdv A outer s H E hg hr).ps, ?_⟩
  obtain ⟨hl, W, ss, gs, St, hs, q⟩ := h
  have Ev : EnvR K W H (ss ++ List.replicate m .un) (L2.start N vs) := by
    have := env_start (H := H) (N := N) hs
    rw [hl, hm] at this
    exact this
  have noOs : ∀ p, ¬ Os (ss ++ List.replicate m .un) (L2.start N vs) p := fun p h => by
    obtain ⟨i, d, e1, e2⟩ := h
    by_cases hi : i < ss.length
    · rw [List.getElem?_append_left hi] at e1
      obtain ⟨v, _, z⟩ := hs.at e1
      rcases z with ⟨d', z, _⟩ | ⟨n, a, l, z, _⟩ <;> cases z
    · rw [List.getElem?_append_right (by omega)] at e1
      have := List.eq_of_mem_replicate (List.mem_of_getElem? e1)
      cases this
  refine ⟨W, _, gs, St, Ev, ?_⟩
  have st : ∀ {W' H'}, Step (Os (ss ++ List.replicate m .un) (L2.start N vs)) W W' H H' → Step NoB W W' H H' := fun {W' H'} s => ⟨s.le, fun p o e m _ => s.keep p o e m (noOs p), s.there, fun p o e g _ => s.nog p o e g (noOs p), s.noa⟩
  have q' : postV K E NoB W H Q ((calmM (g (ss ++ List.replicate m .un)) gs).bind fun o => match o with
    | .nx _ => retM (.val .none)
    | .ret r => retM r
    | _ => stuckM) := q
  unfold calmM at q'
  split at q'
  · rename_i o g1 e
    rw [e]
    cases o with
    | nx ρ' => exact fun σ' W' H' s' _ S' E' => q' W' H' (st s') S' _ .non
    | ret r =>
      intro v W' H' s' S' hv
      refine q' W' H' (st s') S' v ?_
      cases r with
      | val d => exact hv
      | own d =>
        obtain ⟨p, e1, o, n⟩ := hv
        exact ⟨p, e1, o, n.elim id fun z => (noOs p z).elim⟩
      | bor d => exact hv.elim
      | obj n => exact hv
    | brk ρ' => exact q'.elim
    | cnt ρ' => exact q'.elim
  · exact q'.elim
/-- a def that calls itself, by how deep it goes -/
theorem fn_zero {P : Program} {w : World} {K : PySem.W.Frag} {mg : Str → Option Value} {base : Heap} {k n : Nat} {f : Addr} {fd : FuncData} {ps : List Str} (hn : ps.length = n) : FnG P w K mg base CX0 k f fd ps (spD K n fun _ => stuckM) :=
  ⟨fun vs H Q E h => by rw [h.1, hn], fun A outer s H args us vs Q E _ _ _ _ _ h => by
    obtain ⟨_, W, ss, gs, _, _, q⟩ := h
    exact q.elim⟩
end PL
set_option Elab.async false
set_option linter.all false
set_option maxRecDepth 100000
set_option maxHeartbeats 2000000
/-! PLu: a law's end (the hand layer's, for promises where no repr is running). -/
namespace PL
open PySem PySem.Spec PyProof.Rows L2
theorem law_callG {P : Program} {w : World} {K : PySem.W.Frag} {mg mb : Str → Option Value} {CX : CXT} {k : Nat} {fa a : Addr} {fd : FuncData} {x : Str} {sp : Sp} {s₁ : Shared} {vs : List Value} {ns : List Int}
    (KX : K.In s₁.heap) (hns : s₁.heap.Ns mainGlobals mg) (hb : s₁.heap.Ns builtinsNs mb) (hbb : ∀ x : Str, x ≠ "__name__" → mb x = bootBuiltins x) (hlim : s₁.heap.NoLimit) (hg : s₁.gens = #[])
    (ha : s₁.heap.get? a = some { cls := .type "list", data := .seq vs.toArray }) (hi : IntsAre vs ns) (hl : ns.length ≤ sizeLine) (hr : Room k callerA) (hgd : callerA.guards = some [])
    (F : ∀ base : Heap, K.In base → base.Ns mainGlobals mg → FnG P w K mg base CX k fa fd [x] sp) (hbind : ∀ (s : Shared) (u : Value), BindsTo s fd ⟨[u], []⟩ [(x, u)])
    (hsp : ∀ H : Hp, Only H → SqL K H a (ns.map V.int) → sp [.ref a] H (fun v _ => v = .bl true) fun _ _ _ => False)
    (hCX : ∀ H e s', CX [] H s₁ (fun _ _ _ => False) e s' → False) :
    codeAny (model P w) callerA (.call (.ref fa) ⟨[.ref a], []⟩) (fun r s' => r = .ok (.ret (.bool true)) ∧ OldK s₁.heap s'.heap ∧ s'.os = s₁.os ∧ AllBare s'.gens) s₁ := by
  have rv := vals_ints hi
  have lenV := hi.length
  -- from an abstract heap in which nothing but the script may be tracked
  have core : ∀ H : Hp, Only H → SqL K H a (ns.map V.int) → HOk P w H s₁.heap → (∀ b, H b ≠ none → b = a) → (H a ≠ none → K.lookup a = none) →
      codeAny (model P w) callerA (.call (.ref fa) ⟨[.ref a], []⟩) (fun r s' => r = .ok (.ret (.bool true)) ∧ OldK s₁.heap s'.heap ∧ s'.os = s₁.os ∧ AllBare s'.gens) s₁ := by
    intro H hO hS hok hA hK
    have base_of : ∀ {b : Addr} {o : Obj}, s₁.heap.get? b = some o → H b = none → (hidT s₁.heap H).get? b = some o := fun e n => hidT_get e n
    have noA : ∀ {b : Addr} {o : Obj} {es : Array DictEntry} {ep : Nat}, s₁.heap.get? b = some o → o.data = .dict es ep → H b = none := fun {b o es ep} e d => by
      cases q : H b with
      | none => rfl
      | some u =>
        have e' : b = a := hA b (by rw [q]; simp)
        subst e'
        rw [ha] at e; cases e
        have d' : Data.seq vs.toArray _ = Data.dict es ep := d
        cases d'
    have nsK : ∀ {b : Addr} {m : Str → Option Value}, s₁.heap.Ns b m → (hidT s₁.heap H).Ns b m := fun {b m} ⟨o, es, ep, e, d, r⟩ => ⟨o, es, ep, base_of e (noA e d), d, r⟩
    have hKb : K.In (hidT s₁.heap H) := fun b o e => base_of (KX b o e) (by
      cases q : H b with
      | none => rfl
      | some u =>
        have e' : b = a := hA b (by rw [q]; simp)
        subst e'
        rw [hK (by rw [q]; simp)] at e; cases e)
    have hM : Mod K mg (hidT s₁.heap H) := ⟨hKb, nsK hns, ⟨mb, nsK hb, hbb⟩, let ⟨mc, h1, h2⟩ := hlim; ⟨mc, nsK h1, h2⟩⟩
    have e0 : Env0 P w K mg (hidT s₁.heap H) callerA [] s₁ H := ⟨rfl, hM, fun b o e => of_hidT e, Nat.le_of_eq (hidT_size _ _), trivial, fun b hb => absurd (show b ∈ ([] : List Addr) from hb) (by simp), hok, .of_eq hg⟩
    refine codeAny_mono ((F _ hKb (nsK hns)).go callerA [] s₁ H ⟨[.ref a], []⟩ [.ref a] [.ref a] _ _ hgd hr e0 (hbind s₁ (.ref a)) (.cons rfl .nil) (hsp H hO hS)) fun r s' h => ?_
    cases r with
    | error e => exact (hCX H e s' h).elim
    | ok fl =>
      cases fl with
      | next => exact False.elim h
      | brk => exact False.elim h
      | cont => exact False.elim h
      | ret u =>
        obtain ⟨v, H', os, bare, un, hok', r', q⟩ := h
        have q' : v = .bl true := q
        subst q'
        obtain rfl : u = Value.bool true := r'
        refine ⟨rfl, OldK.of_keep fun b o e => ?_, os, bare⟩
        cases q : H b with
        | none => exact un.keep b o e q (by intro z; exact absurd (show b ∈ ([] : List Addr) from z) (by simp)) (by simp)
        | some u =>
          rcases hO b with z | ⟨ob, xs, z⟩
          · rw [q] at z; cases z
          · have z2 := un.frzs b ob _ z
            obtain ⟨e1, _⟩ := hok b _ z
            obtain ⟨e2, _⟩ := hok' b _ z2
            rw [e] at e1; cases e1
            exact e2
  cases hk : K.lookup a with
  | some o =>
    -- the script is one of the module's own objects
    have e := KX a o hk
    rw [ha] at e
    cases e
    refine core (fun _ => none) (fun _ => .inl rfl) (.inr ⟨_, vs.toArray, _, hk, rfl, rfl, rfl, by rw [List.size_toArray, lenV]; exact hl, by simpa using rv⟩) (fun b u z => by have z' : (none : Option HO) = some u := z; cases z') (fun b z => absurd rfl z) fun z => absurd rfl z
  | none =>
    refine core (fun b => if b = a then some (.frz { cls := .type "list", data := .seq vs.toArray } (.lst (ns.map V.int))) else none) (fun b => ?_) (.inl (.inr ⟨{ cls := .type "list", data := .seq vs.toArray }, if_pos rfl⟩)) (fun b u z => ?_) (fun b z => ?_) fun _ => hk
    · by_cases hb : b = a
      · exact .inr ⟨_, _, if_pos hb⟩
      · exact .inl (if_neg hb)
    · by_cases hb : b = a
      · have z' := (if_pos hb).symm.trans z
        cases z'
        subst hb
        exact ⟨ha, by rw [List.length_map]; exact hl, vs, _, rv, ha⟩
      · have z' := (if_neg hb).symm.trans z
        cases z'
    · by_cases hb : b = a
      · exact hb
      · exact absurd (if_neg hb) z
/-- a law: F gives the written part, the function object, the promise over every base -/
theorem walk_ofG {l : PySem.W.OpenLaw} {n k : Nat} {q : Program} {loose : List Str} {XP : (Str → Option Value) → Heap → Prop} {YP : World → Heap → Prop} {d : DefRec} {CX : CXT} {x : Str}
    (hn : l.most = some n) (hn2 : n ≤ sizeLine) (hdf : d.params.defaults = []) (hr : Room k callerA) (hgd : callerA.guards = some [])
    (F : ∀ (w : World) (mg : Str → Option Value) (fa : Addr) (h : Heap), YP w h → h.Ns mainGlobals mg → mg d.name = some (.ref fa) →
      ∃ (K : PySem.W.Frag) (fd : FuncData) (sp : Sp), K.In h ∧ (∀ (s : Shared) (u : Value), BindsTo s fd ⟨[u], []⟩ [(x, u)]) ∧
        (∀ (H : Hp) (a : Addr) (ns : List Int), ns.length ≤ n → Only H → SqL K H a (ns.map V.int) → sp [.ref a] H (fun v _ => v = .bl true) fun _ _ _ => False) ∧
        ∀ base : Heap, K.In base → base.Ns mainGlobals mg → FnG l.prog w K mg base CX k fa fd [x] sp)
    (hCX : ∀ (H : Hp) (s : Shared) (e : Value) (s' : Shared), CX [] H s (fun _ _ _ => False) e s' → False) :
    PySem.W.WalkO q loose XP YP l.row.toRowW d [] (fun f vs => PySem.call f vs) := by
  refine Att.attach_call hn hdf fun w s₀ s₁ mg mb fa o pm cd doc a vs ns G Y ho hd hcd hmg hobj hints hlen hg => ?_
  obtain ⟨K, fd, sp, KX, hb, hsp, hF⟩ := F w mg fa _ Y G.T.g hmg
  exact law_callG KX G.T.g G.T.b G.T.builtins G.T.nolimit hg hobj hints (Nat.le_trans hlen hn2) hr hgd hF hb (fun H hO hS => hsp H a ns hlen hO hS) fun H e s' => hCX H s₁ e s'
theorem guards0 : callerA.guards = some [] := rfl
end PL
set_option Elab.async false
set_option linter.all false
set_option maxRecDepth 100000
set_option maxHeartbeats 2000000
/-! PLv: a tuple taken apart; small things for the printed walks. -/
namespace PL
open PySem PySem.Spec PyProof.Rows L2
def sAsg (g : D → Sl → Option Sl) (ge : Sl → M RV) : Sl → M Out := fun ρ => useM (ge ρ) fun r => bindM (liftO (valOf r)) fun d => bindM (liftO (g d ρ)) fun ρ1 => retM (.nx ρ1)
theorem s_asg {X : Cx} {E : XK} {tg e : Expr} {is : List Nat} {g : D → Sl → Option Sl} {ge : Sl → M RV} {pos : Pos} (hg : PGX X tg is g) (he : PX X E e ge) (hs : swapsWithSole [tg] e pos.line X.env = pure false := by rfl) (hw : swappedStores [tg] e X.env = pure none := by rfl)
    (h1 : (assignEach [tg] X.env).map (·.2) = [assign tg X.env] := by rfl) : PXS X E (.Assign [tg] e pos) (sAsg g ge) :=
  ⟨(ps_asg he.pe hg.pg hs hw h1).mono fun De σ H q => by
    obtain ⟨W, ρ, gs, S, Ev, q⟩ := q
    refine tX_useS S Ev q fun r v W1 H1 gs1 s1 S1 E1 a1 q1 => ?_
    obtain ⟨d, e1, q1⟩ := post_bindS q1
    obtain ⟨ρ1, e2, q1⟩ := post_bindS q1
    have av : Rp X.K W1.G v d := by
      cases r with
      | val d0 => cases e1; exact a1
      | _ => cases e1
    exact ⟨W1, ρ, gs1, d, ρ1, S1, E1, av, e2, fun σ' E2 o2 _ _ => q1 σ' W1 H1 .refl (fun p hp => .inl (o2 p hp)) S1 E2⟩⟩
theorem room_u {k : Nat} {A : Around} (hr : Room k A) (n : Nat) (hn : n ≤ 200) : A.units + n < cLine := by
  have := hr.un
  omega
theorem no_own {M : Model} {A : Around} {env : Env} : PassesOwn M A env fun _ _ => False := PassesOwn.never
/-! ### xs.index(x), texts -/
def strsOf : List D → Option (List Str)
  | [] => some []
  | .str x :: ds => (strsOf ds).map fun xs => x :: xs
  | _ :: _ => none
theorem strsOf_vals {K : PySem.W.Frag} {G : Hp} : ∀ {ds : List D} {ns : List Str} {xs : List V}, strsOf ds = some ns → RpAll K G xs ds → xs = ns.map V.str
  | [], ns, xs, h, r => by
    cases h
    cases r
    rfl
  | d :: ds, ns, xs, h, r => by
    cases r with
    | cons r1 r2 =>
      cases d with
      | str x =>
        obtain ⟨ys, e, rfl⟩ := map_some (show (strsOf ds).map _ = some ns from h)
        cases r1
        rw [strsOf_vals e r2]
        rfl
      | _ => cases h
def idxR (r1 r2 : RV) : Option RV := match rd r1, rd r2 with
  | some (.tuple ds), some (.str z) => (strsOf ds).bind fun ys => (ys.findIdx? fun y => decide (y = z)).map fun j => .val (.int (j : Nat))
  | some (.list ds), some (.str z) => (strsOf ds).bind fun ys => (ys.findIdx? fun y => decide (y = z)).map fun j => .val (.int (j : Nat))
  | _, _ => none
theorem idx_at {ys : List Str} {z : Str} {j : Nat} (h : (ys.findIdx? fun y => decide (y = z)) = some j) : ys[j]? = some z ∧ ∀ m, m < j → ys[m]? ≠ some z := by
  obtain ⟨hj, h1, h2⟩ := List.findIdx?_eq_some_iff_getElem.mp h
  refine ⟨?_, fun m hm e => ?_⟩
  · rw [List.getElem?_eq_getElem hj]
    have : ys[j] = z := by simpa using h1
    rw [this]
  · have h3 := h2 m hm
    obtain ⟨hm', e'⟩ := List.getElem?_eq_some_iff.mp e
    simp [e'] at h3
def isSeqR (r : RV) : Option Unit := match rd r with
  | some (.tuple _) => some ()
  | some (.list _) => some ()
  | _ => none
def xIndex (ga gb : Sl → M RV) : Sl → M RV := fun ρ => useM (ga ρ) fun x => bindM (liftO (isSeqR x)) fun _ => useM (gb ρ) fun y => liftO (idxR x y)
theorem x_index {X : Cx} {E : XK} {o e : Expr} {ga gb : Sl → M RV} {apos cpos : Pos} (ha : PX X E o ga) (hb : PX X E e gb)
    (hbase : attributeBase o "index" X.env (eval o X.env) = eval o X.env := by rfl)
    (hfew : ((backTo cpos (starEach (e :: []) X.env)).all (fun x => !x.1) && (backToKw cpos (keywordEach [] X.env)).all (fun x => x.1.isSome)
      && decide ((e :: []).length + ([] : List Keyword).length + (if ([] : List Keyword).isEmpty then 0 else 1) < 30)) = true := by rfl)
    (hline : (apos.endLine == cpos.line) = true := by rfl) (hs : starEach (e :: []) X.env = (false, eval e X.env) :: starEach [] X.env := by rfl) (hplain : (backTo cpos (starEach [] X.env)).any (·.1) = false := by rfl) :
    PX X E (.Call (.Attribute o "index" apos) [e] [] cpos) (xIndex ga gb) :=
  ⟨(pe_ixT PySem.F.slot_tuple_index PySem.F.type_tuple_index mt_tup_index PySem.F.slot_list_index PySem.F.type_list_index mt_index ha.pe (pa_cons hb.pe pa_nil hs) hbase hfew hline hs hplain).mono fun σ H Q q => by
    obtain ⟨W, ρ, gs, S, Ev, q⟩ := q
    refine tX_use S Ev q fun r1 v1 W1 H1 gs1 s1 S1 E1 a1 q1 => ?_
    obtain ⟨u0, e0, q1⟩ := post_bindS0 q1
    unfold isSeqR at e0
    cases e1 : rd r1 with
    | none => rw [e1] at e0; cases e0
    | some d =>
      cases d with
      | tuple ds =>
        obtain ⟨p, vs, rfl, h1, h1', h2⟩ := a1.tup S1 e1
        refine .inl ⟨⟨p, vs, rfl, h1, sameN S1.sub h1'.2⟩, ?_⟩
        refine tX_use S1 E1 q1 fun r2 v2 W2 H2 gs2 s2 S2 E2 a2 q2 => ?_
        obtain ⟨r, e3, q3⟩ := post_liftO q2
        unfold idxR at e3
        rw [e1] at e3
        cases e2 : rd r2 with
        | none => rw [e2] at e3; cases e3
        | some d2 =>
          rw [e2] at e3
          cases d2 with
          | str z =>
            obtain ⟨ys, e4, e5⟩ := bind_some e3
            obtain ⟨j, e6, rfl⟩ := map_some e5
            obtain ⟨k1, k2⟩ := idx_at e6
            cases a2.str e2
            have := strsOf_vals e4 h2
            subst this
            exact ⟨p, ys, z, j, rfl, rfl, sameT S2.sub (sameT s2.le.g h1'.1), k1, k2, q3.done S2 _ (.int _)⟩
          | _ => cases e3
      | list ds =>
        obtain ⟨p, vs, rfl, h1, h2⟩ := a1.list S1 e1
        refine .inr ⟨⟨p, vs, rfl, SqL.of h1⟩, ?_⟩
        refine tX_use S1 E1 q1 fun r2 v2 W2 H2 gs2 s2 S2 E2 a2 q2 => ?_
        obtain ⟨r, e3, q3⟩ := post_liftO q2
        unfold idxR at e3
        rw [e1] at e3
        cases e2 : rd r2 with
        | none => rw [e2] at e3; cases e3
        | some d2 =>
          rw [e2] at e3
          cases d2 with
          | str z =>
            obtain ⟨ys, e4, e5⟩ := bind_some e3
            obtain ⟨j, e6, rfl⟩ := map_some e5
            obtain ⟨k1, k2⟩ := idx_at e6
            cases a2.str e2
            have := strsOf_vals e4 h2
            subst this
            obtain ⟨p2, vs2, ep, h5, h6⟩ := (a1.step s2).list S2 e1
            cases ep
            have := strsOf_vals e4 h6
            subst this
            exact ⟨p, _, .str z, j, .str z, rfl, rfl, SqL.of h5, rfl, by rw [List.all_map]; exact List.all_eq_true.mpr fun _ _ => rfl, by rw [List.getElem?_map, k1]; rfl, by simp [eqV], fun m z' hm hz => by
              rw [List.getElem?_map] at hz
              obtain ⟨y, ey, rfl⟩ := map_some hz
              have : y ≠ z := fun e => k2 m hm (by rw [ey, e])
              simp [eqV, this], q3.done S2 _ (.int _)⟩
          | _ => cases e3
      | _ => rw [e1] at e0; cases e0⟩
end PL
set_option Elab.async false
set_option linter.all false
set_option maxRecDepth 100000
set_option maxHeartbeats 2000000
/-! PLw: a law's own start: the stream of its script. -/
namespace PL
open PySem PySem.Spec PyProof.Rows L2
def rLstOf (K : PySem.W.Frag) : List V → Hp → VK → Prop := fun xs H Q => ∃ p ys, xs = [V.ref p] ∧ (SqL K H p ys ∨ SqT K H p ys) ∧ ∀ l, H l = none → Q (.ref l) (upd H l (.lst ys))
def t_stream (K : PySem.W.Frag) : TS := tRet (tLst (tCons (tCB (rLstOf K) (tCons (tVar 0) tNil)) (tCons (tC (.int 0)) (tCons (tC (.int 0)) tNil))))
def spStream (K : PySem.W.Frag) : Sp := fun vs H Q _ => ∃ (a : Addr) (ns : List Int), vs = [.ref a] ∧ SqL K H a (ns.map V.int) ∧
  ∀ l p, H l = none → p ≠ l → H p = none → Q (.ref p) (upd (upd H l (.lst (ns.map V.int))) p (.lst [.ref l, .int 0, .int 0]))
theorem stream_def {P : Program} {w : World} {K : PySem.W.Frag} {mg : Str → Option Value} {base : Heap} {k : Nat} {f : Addr} {x qual : Str} {params : Arguments} {body : List Stmt} {scope : Scope} {dvs : List V} {kws : List (Str × V)} {fd : FuncData}
    {y : Str} (F : FunD K x qual params body scope dvs kws f fd) (S : FnScope [y] [y] scope)
    (hbody : ∀ (cdv : Value) (A : Around) (outer : List Env) (s : Shared) (H : Hp) (E : XK), A.guards = some [] → Room k (A.deeper (envOfC qual scope s.heap.objs.size f cdv)) → PSs (cxOf CX0 P w K mg base [y] qual scope f cdv A outer s H E).nox body (t_stream K)) :
    FnG P w K mg base CX0 (k + 1) f fd [y] (spStream K) := by
  refine fnG_of F S (fun vs H Q E h => by obtain ⟨a, ns, rfl, _⟩ := h; rfl) fun cdv A outer s H vs Q E hg hr h => ⟨t_stream K, PSs.nox (hbody cdv A outer s H E hg hr), ?_⟩
  obtain ⟨a, ns, rfl, hs, q⟩ := h
  refine ⟨_, rfl, a, ns.map V.int, rfl, .inl hs, fun l hl => ?_⟩
  refine ⟨by show 3 ≤ sizeLine; decide, fun p hp => ?_⟩
  have hne : p ≠ l := fun z => by subst z; rw [upd_same] at hp; cases hp
  rw [upd_ne hne] at hp
  exact q l p hl hne hp
/-- where a law's own walk begins -/
def lawSl (m : Nat) : Sl := .un :: .obj 0 :: List.replicate m .un
/-- the law answers True at ns -/
def LawYes (m : Nat) (g : Sl → M Out) (ns : List Int) : Prop := ∃ gs', g (lawSl m) [.strm ns 0 0] = .ok (.ret (.val (.bool true))) gs'
def spLaw (K : PySem.W.Frag) (m : Nat) (g : Sl → M Out) : Sp := fun vs H Q _ => ∃ (a : Addr) (ns : List Int), vs = [.ref a] ∧ SqL K H a (ns.map V.int) ∧ ns.length ≤ sizeLine ∧ LawYes m g ns ∧ ∀ H', Q (.bl true) H'
theorem law_def {P : Program} {w : World} {K : PySem.W.Frag} {mg : Str → Option Value} {base : Heap} {k m : Nat} {f : Addr} {x qual : Str} {params : Arguments} {body : List Stmt} {scope : Scope} {dvs : List V} {kws : List (Str × V)} {fd : FuncData}
    {y : Str} {N : List Str} {g : Sl → M Out} (F : FunD K x qual params body scope dvs kws f fd) (S : FnScope N [y] scope) (hN : N.length = m + 2)
    (hbody : ∀ (cdv : Value) (A : Around) (outer : List Env) (s : Shared) (H : Hp) (E : XK), A.guards = some [] → Room k (A.deeper (envOfC qual scope s.heap.objs.size f cdv)) →
      PSs (cxOf CX0 P w K mg base N qual scope f cdv A outer s H E).nox body (tSeq (tAsg (tCall (spStream K) [] E0 (tCons (tVar 0) tNil)) (gName 1)) (tXS K E0 g))) :
    FnG P w K mg base CX0 (k + 1) f fd [y] (spLaw K m g) := by
  refine fnG_of F S (fun vs H Q E h => by obtain ⟨a, ns, rfl, _⟩ := h; rfl) fun cdv A outer s H vs Q E hg hr h => ⟨_, PSs.nox (hbody cdv A outer s H E hg hr), ?_⟩
  obtain ⟨a, ns, rfl, hs, hl, ⟨gs', yes⟩, q⟩ := h
  have e0 : (L2.start N [V.ref a])[0]? = some (some (.ref a)) := rfl
  refine ⟨_, e0, a, ns, rfl, hs, fun l p hl1 hne hp1 => ?_⟩
  refine ⟨⟨upd (fun _ => none) l (.lst (ns.map V.int)), [(p, l)]⟩, lawSl m, [.strm ns 0 0], ⟨fun b o e => ?_, ⟨⟨upd_same, (show upd (fun _ => none) l (HO.lst (ns.map V.int)) l = some (.lst (ns.map V.int)) from upd_same), hl⟩, trivial⟩, by simp, fun b hb => ?_⟩, ⟨?_, fun i d e => ?_, fun i n e => ?_, fun i d e => ?_, fun i j b d e h1 => ?_⟩, ?_⟩
  · have e : upd (fun _ => none) l (.lst (ns.map V.int)) b = some o := e
    by_cases h : b = l
    · subst h
      rw [upd_same] at e
      cases e
      rw [upd_ne (Ne.symm hne), upd_same]
    · rw [upd_ne h] at e; cases e
  · have : b = p := by simpa [Wd.mut] using hb
    subst this
    show upd (fun _ => none) l (.lst (ns.map V.int)) b = none
    rw [upd_ne hne]
  · show (lawSl m).length = ((L2.start N [V.ref a]).set 1 (some (.ref p))).length
    simp [lawSl, L2.start, hN]
  · match i, e with
    | 0, e => cases e
    | 1, e => cases e
    | i + 2, e =>
      have e : (List.replicate m Slot.un)[i]? = some (.val d) := e
      have := List.eq_of_mem_replicate (List.mem_of_getElem? e)
      cases this
  · match i, e with
    | 0, e => cases e
    | 1, e =>
      cases e
      refine ⟨p, l, ?_, rfl⟩
      have : 1 < (L2.start N [V.ref a]).length := by simp [L2.start, hN]
      exact List.getElem?_set_self this
    | i + 2, e =>
      have e : (List.replicate m Slot.un)[i]? = some (.obj n) := e
      have := List.eq_of_mem_replicate (List.mem_of_getElem? e)
      cases this
  · match i, e with
    | 0, e => cases e
    | 1, e => cases e
    | i + 2, e =>
      have e : (List.replicate m Slot.un)[i]? = some (.own d) := e
      have := List.eq_of_mem_replicate (List.mem_of_getElem? e)
      cases this
  · match i, h1 with
    | 0, h1 => cases h1
    | 1, h1 => cases h1
    | i + 2, h1 =>
      have h1 : (List.replicate m Slot.un)[i]? = some (.own d) := h1
      have := List.eq_of_mem_replicate (List.mem_of_getElem? h1)
      cases this
  · rw [yes]
    intro v W' H' _ _ hv
    cases (show Rp K W'.G v (.bool true) from hv)
    exact q H'
end PL
set_option Elab.async false
set_option linter.all false
set_option maxRecDepth 100000
set_option maxHeartbeats 2000000
/-! PLx: list(range(n)). -/
namespace PL
open PySem PySem.Spec PyProof.Rows L2
def xLrg (ga : Sl → M RV) : Sl → M RV := fun ρ => useM (ga ρ) fun r => liftO ((intOfR r).bind fun n => if (-(2 ^ 62) ≤ n ∧ n < 2 ^ 62) ∧ n.toNat ≤ 2 ^ 24 then some (.own (.list (rngD 0 n.toNat))) else none)
theorem rp_rg {K : PySem.W.Frag} {G : Hp} {f : Nat → Int} : ∀ l : List Nat, RpAll K G (l.map fun i => V.int (f i)) (l.map fun i => PyData.int (f i))
  | [] => .nil
  | i :: l => .cons (.int _) (rp_rg l)
theorem x_lrg {X : Cx} {E : XK} {a : Expr} {ga : Sl → M RV} {p p2 pos pos2 : Pos} (hc : X.calm = true) (hg : Gl X "list") (hm : X.mg "list" = none) (hg2 : Gl X "range") (hm2 : X.mg "range" = none) (ha : PX X E a ga)
    (na : starEach [a] X.env = (false, eval a X.env) :: starEach [] X.env := by rfl)
    (na2 : starEach [.Call (.Name "range" p2) [a] [] pos2] X.env = (false, eval (.Call (.Name "range" p2) [a] [] pos2) X.env) :: starEach [] X.env := by rfl) : PX X E (.Call (.Name "list" p) [.Call (.Name "range" p2) [a] [] pos2] [] pos) (xLrg ga) :=
  ⟨(pe_listRg hc hg hm (prg_1 hg2 hm2 ha.pe na) na2).mono fun σ H Q q => by
    obtain ⟨W, ρ, gs, S, Ev, q⟩ := q
    refine tX_use S Ev q fun r v W1 H1 gs1 s1 S1 E1 a1 q1 => ?_
    obtain ⟨o, e1, q2⟩ := post_liftO q1
    obtain ⟨n, e2, e3⟩ := bind_some e1
    obtain ⟨hb, rfl⟩ := ite_some e3
    cases a1.int (intOfR_some e2)
    refine ⟨n, rfl, ⟨by decide, by decide, hb.1.1, hb.1.2, by rw [Int.sub_zero]; exact hb.2⟩, fun p hp => ?_⟩
    have r : RpAll X.K W1.G (rgV 0 n) (rngD 0 n.toNat) := by
      unfold rgV rngD
      rw [Int.sub_zero]
      exact rp_rg _
    exact q2 _ _ (step_new S1 hp) (S1.new hp) _ ⟨p, rfl, own_new S1 hp r, s1.none hp⟩⟩
end PL
set_option Elab.async false
set_option linter.all false
set_option maxRecDepth 100000
set_option maxHeartbeats 2000000
/-! PLy: two names of a pair, where the pair is made. -/
namespace PL
open PySem PySem.Spec PyProof.Rows L2
theorem s_parN {X : Cx} {E : XK} {a b : Expr} {ga gb : Sl → M RV} {i j : Nat} {x y : Str} {px py pt pos : Pos} {kt k2 pt2} (hc : X.calm = true) (hN : X.N.Nodup) (hi : X.N[i]? = some x) (hj : X.N[j]? = some y) (hij : i ≠ j)
    (hx : Loc X.env.scope x) (hy : Loc X.env.scope y) (ha : PX X E a ga) (hb : PX X E b gb)
    (hw : swappedStores [.Tuple [.Name x px, .Name y py] kt pt] (.Tuple [a, b] k2 pt2) X.env = pure none)
    (hs : swapsWithSole [.Tuple [.Name x px, .Name y py] kt pt] (.Tuple [a, b] k2 pt2) pos.line X.env = pure false := by rfl)
    (h1 : (assignEach [.Tuple [.Name x px, .Name y py] kt pt] X.env).map (·.2) = [assign (.Tuple [.Name x px, .Name y py] kt pt) X.env] := by rfl)
    (hn : (assignEach [.Name x px, .Name y py] X.env).length = 2 := by rfl) (hst : (assignEach [.Name x px, .Name y py] X.env).findIdx? (·.1) = none := by rfl)
    (hm1 : (assignEach [.Name x px, .Name y py] X.env).map (·.2) = assign (.Name x px) X.env :: (assignEach [.Name y py] X.env).map (·.2) := by rfl)
    (hm2 : (assignEach [.Name y py] X.env).map (·.2) = assign (.Name y py) X.env :: (assignEach [] X.env).map (·.2) := by rfl)
    (hfx : X.fn x = true ∨ X.env.scope.names.lookup x = some .local := by first | exact .inl rfl | exact .inr rfl) (hfy : X.fn y = true ∨ X.env.scope.names.lookup y = some .local := by first | exact .inl rfl | exact .inr rfl)
    (hs1 : starEach [a, b] X.env = (false, eval a X.env) :: starEach [b] X.env := by rfl) (hs2 : starEach [b] X.env = (false, eval b X.env) :: starEach [] X.env := by rfl) :
    PXS X E (.Assign [.Tuple [.Name x px, .Name y py] kt pt] (.Tuple [a, b] k2 pt2) pos) (sPar i j ga gb) :=
  ⟨(ps_asg (pe_tupN (pa_cons ha.pe (pa_cons hb.pe pa_nil hs2) hs1)) (pg_tup hc (pgs_cons (pg_name hN hi hx hfx) (pgs_cons (pg_name hN hj hy hfy) pgs_nil hm2) hm1) hn hst) hs hw h1).mono fun D σ H q => by
    obtain ⟨W, ρ, gs, S, Ev, q⟩ := q
    refine tX_raw S Ev q fun r v W1 H1 gs1 s1 S1 E1 a1 q1 => ?_
    refine tX_rawB S1 E1 s1 q1 fun r' v' W2 H2 gs2 s2 S2 E2 a2 q2 => ?_
    obtain ⟨s, e1, q2⟩ := post_bindS q2
    obtain ⟨s', e2, q2⟩ := post_bindS q2
    refine ⟨by simp [sizeLine], fun T o hT ho => ?_⟩
    have S3 := S2.newF (o := .frz o (.tup [v, v'])) hT
    have s3 : Step NoB W2 (W2.frz T (.frz o (.tup [v, v']))) H2 (upd H2 T (.frz o (.tup [v, v']))) := step_newF S2 hT
    obtain ⟨k1, k2⟩ := slot_of Ev a1 e1 s1
    obtain ⟨k3, k4⟩ := slot_of E1 a2 e2 s2
    have k1 := (k1.step s2).step s3
    have k3 := k3.step s3
    have E2 := E2.step s3
    have E3 := E2.set (i := i) k1
    have k5 : SlotOk X.K (W2.frz T (.frz o (.tup [v, v']))) (upd H2 T (.frz o (.tup [v, v']))) (ρ.set i s) (σ.set i (some v)) s' v' := by
      cases s' with
      | un => exact k3
      | val d => exact k3
      | own d =>
        obtain ⟨p, e, o, n⟩ := k3
        refine ⟨p, e, o, fun h => ?_⟩
        rcases h.of_set with h0 | ⟨hv1, d0, hd⟩
        · exact n h0
        · have n1 := k4 d p rfl e
          subst hd
          obtain ⟨p1, e3, o3⟩ : ∃ p1, v = .ref p1 ∧ OwnAt X.K W1 H1 d0 p1 := by
            cases r with
            | own d1 => cases e1; obtain ⟨p1, z1, z2, _⟩ := a1; exact ⟨p1, z1, z2⟩
            | val d1 => cases e1
            | bor d1 => cases e1
            | obj d1 => cases e1
          rw [hv1] at e3
          cases e3
          obtain ⟨o4, e4⟩ := o3.r.there
          rw [n1] at e4; cases e4
      | obj n => exact k3
    refine ⟨T, [v, v'], rfl, .inl (.inr ⟨o, upd_same⟩), rfl, v, [v'], rfl, v', [], rfl, rfl, ?_⟩
    refine q2 _ _ _ ((s1.trans0 s2).trans0 s3).weak (fun p hp => ?_) S3 (E3.set (i := j) k5)
    rcases hp.of_set with hp | ⟨e, d, hd⟩
    · rcases hp.of_set with hp | ⟨e, d, hd⟩
      · exact .inl hp
      · exact .inr (k2 d p hd e)
    · exact .inr (s1.none (k4 d p hd e))⟩
end PL
set_option Elab.async false
set_option linter.all false
set_option maxRecDepth 100000
set_option maxHeartbeats 2000000
/-! PLz: sorted of one item (of an empty tuple, too). -/
namespace PL
open PySem PySem.Spec PyProof.Rows L2 PySem.W
theorem sortsAt_one {prog : Program} {w : World} {A : Around} {s : Shared} {vs : List Value} {d : PyData} (e : EachIs (fun v b => ∃ as, Reads s.heap v b as) vs [d]) (hal : AllAlike [d]) (hn : d ≠ .none) (hu : A.units + d.depth < cLine) : SortsAt prog w A s (dataKind s.heap [d]) vs := by
  refine ⟨fun v hv => ?_, general', ?_, fun h2 => ?_⟩
  · obtain ⟨d', hd, as, r⟩ := e.left v hv
    exact ⟨_, dataKind_some hal hd r⟩
  · intro E x y a b Q ha hb hq
    obtain ⟨d1, as, hd, ra, rfl⟩ := dataKind_inv ha
    obtain ⟨d2, as', hd', rb, rfl⟩ := dataKind_inv hb
    have e1 := List.mem_singleton.mp hd
    have e2 := List.mem_singleton.mp hd'
    subst e1 e2
    exact oneLt_alike (f := false) (fun h => nomatch h) ra rb (hal _ hd _ hd') hn (Nat.lt_of_le_of_lt (Nat.add_le_add_left (Nat.min_le_left _ _) _) hu) hq
  · cases e with
    | cons _ t => cases t with
      | nil => exact absurd h2 (by simp)
variable {X : Cx}
theorem sorted_core1 {pins : List (Addr × Obj)} {s : Shared} {σ : L2.St} {H : Hp} {Q : VK} {v : Value} {W : Wd} {gs : GS} {xs : List V} {d : D} (hu : X.A.units + 200 < cLine) (I : Inv X pins σ H s) (S : StR X.K W H gs)
    (hcol : ∀ (E : Value → Shared → Prop) (R : List Value → Shared → Prop), (∀ h' tk us, (∀ b o, s.heap.get? b = some o → h'.get? b = some o) → Vals xs us → R us { s with heap := h', toks := tk }) → wpAny (model X.prog X.w) X.A.in1 (collect v) R E s)
    (hr : RpAll X.K W.G xs [d]) (hal : PySem.W.alike d d = true) (hn : d ≠ .none) (hlay : d.canLay0 = true) (hdep : d.depth ≤ 60) (k : ∀ ys p, RpAll X.K W.G ys [d] → H p = none → Q (.ref p) (upd H p (.lst ys))) :
    wpAny (model X.prog X.w) X.A (call (.builtin "sorted") [v]) (EP X pins σ Q) X.xe s := by
  have hl : ([d] : List D).length ≤ sizeLine := (by decide : 1 ≤ sizeLine)
  refine Calls.call_function_entry PyProof.Rows.kind_sorted PyProof.Rows.plain_sorted PyProof.Rows.entry_sorted (PyProof.Rows.args_sorted1 _) ?_
  unfold Builtin.«sorted»
  refine wpAny_bind (m := checkCount "sorted" 1 1 _) (wpAny_pure ?_)
  refine wpAny_bind (hcol _ _ fun h' tk us hk' rv => ?_)
  have I1 : Inv X pins σ H { s with heap := h', toks := tk } := I.kept hk'
  have hul : us.length = ([d] : List D).length := by rw [← rv.length, hr.length]
  refine wpAny_bind (wpAny_newList ?_ (by rw [hul]; exact hl))
  have hoL : (h'.push (seqObj "list" us.toArray 0)).get? h'.objs.size = some (seqObj "list" us.toArray 0) := Heap.get?_push_size _ rfl
  show wpAny _ _ _ _ _ { s with heap := h'.push (seqObj "list" us.toArray 0), toks := tk }
  have er : PySem.W.EachIs (fun v b => ∃ as, Reads (PySem.W.sortingHeap (h'.push (seqObj "list" us.toArray 0)) h'.objs.size us) v b as) us [d] :=
    (each_reads I1 S rv hr fun d' hd => by rw [List.mem_singleton.mp hd]; exact hlay).mono fun v b ⟨as, q⟩ => ⟨as, PyProof.Rows.Reads.keeps (fun b o e => PySem.W.sortingHeap_old (Nat.ne_of_lt (Heap.lt_size e)) (Heap.get?_push_of_some _ e)) q⟩
  have hal' : PySem.W.AllAlike ([d].map id) := fun a ha b hb => by
    rw [List.map_id] at ha hb
    rw [List.mem_singleton.mp ha, List.mem_singleton.mp hb]
    exact hal
  refine wpAny_bind (wpAny_holding (wpAny_call_entry PyProof.Rows.slot_list_sort ⟨_, hoL, rfl⟩ PyProof.Rows.entry_list_sort
    (PySem.W.list_sort_vals (κ := PySem.W.dataKind (PySem.W.sortingHeap (h'.push (seqObj "list" us.toArray 0)) h'.objs.size us) ([d].map id)) (s := { s with heap := h'.push (seqObj "list" us.toArray 0), toks := tk }) hoL
      (sortsAt_one (s := { s with heap := PySem.W.sortingHeap (h'.push (seqObj "list" us.toArray 0)) h'.objs.size us, toks := tk }) er hal' hn (by
          show X.A.units + 1 + 1 + d.depth < cLine
          omega))
      (by rw [hul]; exact hl) ⟨_, rfl, ?_⟩)
    (PyProof.Rows.args_list_sort _)))
  have eo := PySem.W.sortVals_data (R := Sts X.K W.G) (enc := id) false (each_of rv hr) er hal'
  obtain ⟨ys, rv2, hr2⟩ := of_each eo
  obtain ⟨e', he'⟩ := PyProof.Rows.sortedHeap_at (vs := us) (out := (PySem.W.sortVals (PySem.W.dataKind (PySem.W.sortingHeap (h'.push (seqObj "list" us.toArray 0)) h'.objs.size us) ([d].map id)) false us us).toArray) hoL
  have hlen : ys.length ≤ sizeLine := by rw [hr2.length, List.length_mergeSort]; exact hl
  have hr3 : RpAll X.K W.G ys [d] := by
    have e1 : ([d] : List D).mergeSort (PySem.W.dataLe false id) = [d] := by rw [List.mergeSort_singleton]
    rw [e1] at hr2
    exact hr2
  refine wpAny_pure ⟨_, rfl, .ref h'.objs.size, upd H h'.objs.size (.lst ys), I1.laid (t' := tk) (fun b u e => ?_) (Nat.le_refl _)
    (show ObjOk X.prog X.w _ _ _ (.lst ys) from ⟨hlen, _, e', rv2, he'⟩), rfl, k ys _ hr3 (I1.hok.fresh (Nat.le_refl _))⟩
  have hb : b < h'.objs.size := Heap.lt_size e
  rw [PyProof.Rows.sortedHeap_old (Nat.ne_of_lt hb) (by rw [size_push']; exact Nat.lt_succ_of_lt hb)]
  exact Heap.get?_push_of_some _ e
def noNone : D → Bool
  | .none => false
  | _ => true
/-- one item to be sorted -/
def oneB (d : D) : Bool := PySem.W.alike d d && (noNone d && (d.canLay0 && decide (d.depth ≤ 60)))
def oneD : D → Option D
  | .list [d] => if oneB d = true then some d else none
  | _ => none
def sortedR2 : List RV → Option RV := one1 fun r => match (rd r).bind oneD with
  | some d => some (.own (.list [d]))
  | none => sortedR [r]
theorem c_sorted2 (hc : X.calm = true) (hu : X.A.units + 200 < cLine) : CallR X (.builtin "sorted") (rC X.K sortedR2) := by
  intro pins s σ H vs us Q I rv q
  obtain ⟨W, gs, B, rs, r, S, a, e, k⟩ := q
  obtain ⟨r1, rfl, e9⟩ := one1_some e
  cases h1 : (rd r1).bind oneD with
  | none =>
    rw [h1] at e9
    exact c_sorted hc hu pins s σ H vs us Q I rv ⟨W, gs, B, [r1], r, S, a, e9, k⟩
  | some d =>
    rw [h1] at e9
    cases e9
    obtain ⟨v, rfl, a1⟩ := args1 a
    obtain ⟨d0, e1, e2⟩ := bind_some h1
    unfold oneD at e2
    split at e2
    · rename_i d1
      obtain ⟨hb, rfl⟩ := ite_some e2
      unfold oneB at hb
      rw [Bool.and_eq_true, Bool.and_eq_true, Bool.and_eq_true] at hb
      obtain ⟨ha, hn, hlay, hdep⟩ := hb
      have hne : d1 ≠ .none := fun e => by subst e; exact nomatch hn
      obtain ⟨p, xs, rfl, h1, h2⟩ := a1.list S e1
      obtain ⟨u, rfl, ru⟩ := vals1 rv
      cases ru
      obtain ⟨its, rv2, pl, hz⟩ := I.list (SqL.of h1)
      obtain ⟨o, n, ho, hcl, _, hd⟩ := pl
      refine sorted_core1 hu I S (fun E R h => ?_) h2 ha hne hlay (of_decide_eq_true hdep) fun ys p hr hp => k _ _ _ (step_new S hp) (S.new hp) ⟨p, rfl, own_new S hp hr, hp⟩
      exact wpAny_collect_seq p (.inl rfl) ho hcl hd (fun h' hk => h h' s.toks its hk rv2) (by rw [List.size_toArray, ← rv2.length]; exact hz)
    · cases e2
end PL
set_option Elab.async false
set_option linter.all false
set_option maxRecDepth 100000
set_option maxHeartbeats 2000000
/-! PLA: xs.index(x) in a list of plain data. -/
namespace PL
open PySem PySem.Spec PyProof.Rows L2
def isListR (r : RV) : Option Unit := match rd r with
  | some (.list _) => some ()
  | _ => none
def idxRD (r1 r2 : RV) : Option RV := match rd r1, rd r2 with
  | some (.list ds), some d => if SeqAt.shaped (.list ds) = true ∧ SeqAt.shaped d = true then (ds.findIdx? fun z => PyData.eqv z d).map fun j => .val (.int (j : Nat)) else none
  | _, _ => none
def xIndexD (ga gb : Sl → M RV) : Sl → M RV := fun ρ => useM (ga ρ) fun x => bindM (liftO (isListR x)) fun _ => useM (gb ρ) fun y => liftO (idxRD x y)
theorem x_indexD {X : Cx} {E : XK} {o e : Expr} {ga gb : Sl → M RV} {apos cpos : Pos} (hu : X.A.units + 65 < cLine) (ha : PX X E o ga) (hb : PX X E e gb)
    (hbase : attributeBase o "index" X.env (eval o X.env) = eval o X.env := by rfl)
    (hfew : ((backTo cpos (starEach (e :: []) X.env)).all (fun x => !x.1) && (backToKw cpos (keywordEach [] X.env)).all (fun x => x.1.isSome)
      && decide ((e :: []).length + ([] : List Keyword).length + (if ([] : List Keyword).isEmpty then 0 else 1) < 30)) = true := by rfl)
    (hline : (apos.endLine == cpos.line) = true := by rfl) (hs : starEach (e :: []) X.env = (false, eval e X.env) :: starEach [] X.env := by rfl) (hplain : (backTo cpos (starEach [] X.env)).any (·.1) = false := by rfl) :
    PX X E (.Call (.Attribute o "index" apos) [e] [] cpos) (xIndexD ga gb) :=
  ⟨(pe_bm PySem.F.plainAttrs_list PySem.F.slot_list_index PySem.F.type_list_index (mt_indexD hu) ha.pe (pa_cons hb.pe pa_nil hs) hbase hfew hline hs hplain).mono fun σ H Q q => by
    obtain ⟨W, ρ, gs, S, Ev, q⟩ := q
    refine tX_use S Ev q fun r1 v1 W1 H1 gs1 s1 S1 E1 a1 q1 => ?_
    obtain ⟨u0, e0, q1⟩ := post_bindS0 q1
    unfold isListR at e0
    cases e1 : rd r1 with
    | none => rw [e1] at e0; cases e0
    | some d =>
      cases d with
      | list ds =>
        obtain ⟨p, vs, rfl, h1, h2⟩ := a1.list S1 e1
        refine ⟨.inl ⟨rfl, vs, SqL.of h1⟩, ?_⟩
        refine tX_use S1 E1 q1 fun r2 v2 W2 H2 gs2 s2 S2 E2 a2 q2 => ?_
        obtain ⟨r, e3, q3⟩ := post_liftO q2
        unfold idxRD at e3
        rw [e1] at e3
        cases e2 : rd r2 with
        | none => rw [e2] at e3; cases e3
        | some d2 =>
          rw [e2] at e3
          obtain ⟨⟨c1, c2⟩, e4⟩ : (SeqAt.shaped (.list ds) = true ∧ SeqAt.shaped d2 = true) ∧ ((ds.findIdx? fun z => PyData.eqv z d2).map fun j => RV.val (.int (j : Nat))) = some r := by
            by_cases hc : SeqAt.shaped (.list ds) = true ∧ SeqAt.shaped d2 = true
            · exact ⟨hc, by simpa only [hc, and_self, if_true] using e3⟩
            · simp only [hc, if_false] at e3
              cases e3
          obtain ⟨j, e6, rfl⟩ := map_some e4
          obtain ⟨hj, k1, k2⟩ := List.findIdx?_eq_some_iff_getElem.mp e6
          refine ⟨p, v2, d2, ds, j, ds[j], rfl, rfl, (a1.step s2).dp S2 e1 (SeqAt.canLay_of_shaped c1), a2.dp S2 e2 (SeqAt.canLay_of_shaped c2), c1, c2, List.getElem?_eq_getElem hj, by simpa using k1, fun m z' hm hz => ?_, q3.done S2 _ (.int _)⟩
          obtain ⟨hm', e'⟩ := List.getElem?_eq_some_iff.mp hz
          have h3 := k2 m hm
          rw [e'] at h3
          simpa using h3
      | _ => rw [e1] at e0; cases e0⟩
end PL
set_option Elab.async false
set_option linter.all false
set_option maxRecDepth 100000
set_option maxHeartbeats 2000000
/-! PLB: own exceptions with one field: raised, caught by name. -/
namespace PL
open PySem PySem.Spec PyProof.Rows L2
structure ExC (K : PySem.W.Frag) (mg : Str → Option Value) (C fI : Addr) (x f : Str) : Prop where
  g : mg x = some (.ref C)
  n : PySem.W.nsIn K mainGlobals x = some (some (.ref C))
  o : OexC K C
  xf : XfC K C
  noF : PySem.W.findIn K (.ref C) f = some none
  iC : PySem.W.findIn K (.ref C) "__init__" = some (some (.ref fI))
  tI : PySem.W.typeIn K (.ref fI) = some (.type "function")
  te : PySem.W.exmOne K (.ref C) (.ref C) = some true
/-- what its __init__ does: the field is set -/
def spInit (C : Addr) (f : Str) : Sp := fun vs H Q _ => ∃ (a : Addr) (y : V), vs = [.ref a, y] ∧ H a = some (exo a C none) ∧ ∀ dx, H dx = none → dx ≠ a → Q .non (upd (upd H dx (exd dx [(f, y)])) a (exo a C (some dx)))
theorem init_def {P : Program} {w : World} {K : PySem.W.Frag} {mg : Str → Option Value} {base : Heap} {k : Nat} {C fI : Addr} {x qual f : Str} {params : Arguments} {body : List Stmt} {scope : Scope} {kws : List (Str × V)} {fd : FuncData}
    (F : FunD K x qual params body scope [] kws fI fd) (S : FnScope ["self", f] ["self", f] scope) (T : OexC K C) (noF : PySem.W.findIn K (.ref C) f = some none)
    (hb : ∀ (cdv : Value) (A : Around) (outer : List Env) (s : Shared) (H : Hp) (E : XK), PSs (cxOf CX0 P w K mg base ["self", f] qual scope fI cdv A outer s H E) body (tOst K f (tVar 0) (tVar 1))) :
    FnOk P w K mg base CX0 (k + 1) fI fd ["self", f] (spInit C f) :=
  F.ok S (fun vs H Q E h => by obtain ⟨a, y, rfl, _⟩ := h; rfl) fun cdv A outer s H vs Q E hr h => ⟨_, hb cdv A outer s H E, by
    obtain ⟨a, y, rfl, ha, hq⟩ := h
    exact ⟨y, rfl, .ref a, rfl, a, C, rfl, T, noF, .inl ⟨ha, fun dx n ne => hq dx n ne⟩⟩⟩
/-- an exception is raised -/
def sRaise (x f : Str) (ge : Sl → M RV) : Sl → M Out := fun ρ => useM (ge ρ) fun r => bindM (liftO (valOf r)) fun d => fun gs => .exc ⟨x, [(f, d)]⟩ gs
section
variable {X : Cx} {E : XK} {C fI : Addr} {x f : Str}
theorem s_raise {k : Nat} {fd : FuncData} {e : Expr} {ge : Sl → M RV} {p pos pos2 : Pos} (hc : X.calm = true) (tk : Takes X fun cls d _ H => E cls d H) (T : ExC X.K X.mg C fI x f)
    (F1 : FnOk X.prog X.w X.K X.mg X.base CX0 k fI fd ["self", f] (spInit C f)) (hr : Room (k + 1) X.A) (hb : Binds X.K fd ["self", f] []) (hg : Gl X x) (he : PX X E e ge)
    (hdb : (x == ("__debug__" : Str)) = false := by decide) (hs : starEach (e :: []) X.env = (false, eval e X.env) :: starEach [] X.env := by rfl) (hpl : (backTo pos (starEach [] X.env)).any (·.1) = false := by rfl) :
    PXS X E (.Raise (some (.Call (.Name x p) [e] [] pos)) none pos2) (sRaise x f ge) :=
  ⟨(ps_raise hc tk (pmk_oex (dvs := []) (ds := []) T.o T.iC T.tI F1 hr hb .nil pass0 hg T.g (pa_cons he.pe pa_nil hs) hdb hs hpl)).mono fun D σ H q => by
    obtain ⟨W, ρ, gs, S, Ev, q⟩ := q
    refine tX_useS S Ev q fun r v W1 H1 gs1 s1 S1 E1 a1 q1 => ?_
    obtain ⟨d, e1, q1⟩ := post_bindS q1
    have av : Rp X.K W1.G v d := by
      cases r with
      | val d0 => cases e1; exact a1
      | _ => cases e1
    refine ⟨by simp, fun a ha => ⟨a, v, rfl, upd_same, fun dx n ne => ⟨rfl, dx, [(f, v)], upd_same, ?_, ?_, ?_⟩⟩⟩
    · rw [upd_ne ne, upd_same]
    · rw [upd_ne ne] at n; exact n
    · have n1 : H1 dx = none := by rw [upd_ne ne] at n; exact n
      have eh : upd (del (upd (upd (upd H1 a (exo a C none)) dx (exd dx [(f, v)])) a (exo a C (some dx))) a) dx (.xd [(f, v)]) = upd H1 dx (.xd [(f, v)]) := by
        funext b
        by_cases hb : b = dx
        · subst hb; rw [upd_same, upd_same]
        · rw [upd_ne hb, upd_ne hb]
          by_cases hba : b = a
          · subst hba; rw [del_same, ha]
          · rw [del_ne hba, upd_ne hba, upd_ne hb, upd_ne hba]
      rw [eh]
      exact q1 (.ref C) (some dx) W1 (upd H1 dx (.xd [(f, v)])) (step_new S1 n1) (S1.new n1) ⟨T.n, dx, [(f, v)], rfl, upd_same, fun g z hz => by
        rw [List.lookup_cons] at hz ⊢
        by_cases hgf : (g == f) = true
        · rw [hgf] at hz ⊢
          cases hz
          exact ⟨v, rfl, av⟩
        · rw [Bool.not_eq_true] at hgf
          rw [hgf] at hz
          exact nomatch hz⟩⟩
end
/-! ### a def that may raise -/
def bodyX (m : Nat) (g : Sl → M Out) : Sl → M RV := fun ss => bindM (g (ss ++ List.replicate m .un)) fun o => match o with
  | .nx _ => retM (.val .none)
  | .ret r => retM r
  | _ => stuckM
theorem fn_defX {P : Program} {w : World} {K : PySem.W.Frag} {mg : Str → Option Value} {base : Heap} {k n m : Nat} {f : Addr} {x qual : Str} {params : Arguments} {body : List Stmt} {scope : Scope} {dvs : List V} {kws : List (Str × V)} {fd : FuncData}
    {N ps : List Str} {g : Sl → M Out} (F : FunD K x qual params body scope dvs kws f fd) (S : FnScope N ps scope) (hn : ps.length = n) (hm : N.length - n = m)
    (hbody : ∀ (cdv : Value) (A : Around) (outer : List Env) (s : Shared) (H : Hp) (E : XK), A.guards = some [] → Room k (A.deeper (envOfC qual scope s.heap.objs.size f cdv)) → Takes (cxOf (L2.CX P w) P w K mg base N qual scope f cdv A outer s H E) (fun cls d _ H' => E cls d H') →
      PXB (cxOf (L2.CX P w) P w K mg base N qual scope f cdv A outer s H E) E body g) :
    FnG P w K mg base (L2.CX P w) (k + 1) f fd ps (spD K n (bodyX m g)) := by
  refine fnG_of F S (fun vs H Q E h => by rw [h.1, hn]) fun cdv A outer s H vs Q E hg hr h => ⟨tXS K E g, (hbody cdv A outer s H E hg hr (takes_of rfl rfl rfl rfl)).ps, ?_⟩
  obtain ⟨hl, W, ss, gs, St, hs, q⟩ := h
  have Ev : EnvR K W H (ss ++ List.replicate m .un) (L2.start N vs) := by
    have z := env_start (H := H) (N := N) hs
    rw [hl, hm] at z
    exact z
  have noOs : ∀ p, ¬ Os (ss ++ List.replicate m .un) (L2.start N vs) p := fun p ⟨i, d, e1, e2⟩ => by
    by_cases hi : i < ss.length
    · rw [List.getElem?_append_left hi] at e1
      obtain ⟨v, _, z⟩ := hs.at e1
      rcases z with ⟨d', z, _⟩ | ⟨n, a, l, z, _⟩ <;> cases z
    · rw [List.getElem?_append_right (by omega)] at e1
      cases List.eq_of_mem_replicate (List.mem_of_getElem? e1)
  have st : ∀ {W' H'}, Step (Os (ss ++ List.replicate m .un) (L2.start N vs)) W W' H H' → Step NoB W W' H H' := fun {W' H'} s => ⟨s.le, fun p o e m _ => s.keep p o e m (noOs p), s.there, fun p o e g _ => s.nog p o e g (noOs p), s.noa⟩
  refine ⟨W, _, gs, St, Ev, ?_⟩
  have q' : postV K E NoB W H Q ((g (ss ++ List.replicate m .un) gs).bind fun o => match o with
    | .nx _ => retM (.val .none)
    | .ret r => retM r
    | _ => stuckM) := q
  cases e : g (ss ++ List.replicate m .un) gs with
  | stuck => rw [e] at q'; exact q'.elim
  | exc y g1 =>
    rw [e] at q'
    exact fun cls dd W' H' s' S' X' => q' cls dd W' H' (st s') S' X'
  | ok o g1 =>
    rw [e] at q'
    cases o with
    | nx ρ' => exact fun σ' W' H' s' _ S' E' => q' W' H' (st s') S' _ .non
    | ret r =>
      intro v W' H' s' S' hv
      refine q' W' H' (st s') S' v ?_
      cases r with
      | val d => exact hv
      | own d =>
        obtain ⟨p, e1, o, n⟩ := hv
        exact ⟨p, e1, o, n.elim id fun z => (noOs p z).elim⟩
      | bor d => exact hv.elim
      | obj n => exact hv
    | brk ρ' => exact q'.elim
    | cnt ρ' => exact q'.elim
end PL
set_option Elab.async false
set_option linter.all false
set_option maxRecDepth 100000
set_option maxHeartbeats 2000000
/-! PLC: try .. except C as n: return ("..", n.f), with any further clauses. -/
namespace PL
open PySem PySem.Spec PyProof.Rows L2
/-- the first clause takes it, and its suite returns -/
def wFst (K : PySem.W.Frag) (c : Value) (i : Nat) (ts : Addr → Value → Option Addr → TS) (D : Ends) : WX := fun cls d σ H =>
  PySem.W.exmOne K cls c = some true ∧ ∀ a, H a = none → ts a cls d { nx := fun _ _ => False, rt := D.rt } (σ.set i (some (.ref a))) H
section
variable {X : Cx} {x n : Str} {c : Value} {i : Nat} {body suite : List Stmt} {b0 : Stmt} {rest : List ExceptHandler} {np pos pos' : Pos} {tb : WX → TS} {ts : Addr → Value → Option Addr → TS}
theorem ps_try_ret (hs : X.stack = X.env :: X.outer) (hf : X.env.frame = some X.env.locals) (hN : X.N.Nodup) (hi : X.N[i]? = some n) (hln : X.env.kindOf n = some .local) (hc : Names X x c)
    (hb : ∀ (W : WX) (pn : List (Addr × Obj)) (xe : Value → Shared → Prop), Takes (X.tr pn xe) W → PassesOwn (model X.prog X.w) X.A X.env xe → PSs (X.tr pn xe) body (tb W))
    (hsu : ∀ (a : Addr) (oe : Obj) (cls : Value) (d : Option Addr) (pn : List (Addr × Obj)), Zc cls d oe → (∃ vs, oe.data = .fields vs) → PSs (X.suite a ((a, oe) :: pn)) (b0 :: suite) (ts a cls d)) :
    PS X (.Try body (.ExceptHandler (some (.Name x np)) (some n) (b0 :: suite) pos' :: rest) [] [] pos) (fun D σ H => tb (wFst X.K c i ts D) D σ H) := by
  refine ⟨fun pins s σ H D I h => ?_⟩
  have okX := I.ok
  have frm : X.A.frames = some (X.env :: X.outer) := by rw [okX.frames, hs]
  have locN : Loc X.env.scope n := .inl hln
  refine wpAny_Try_except (wpAny_mono ((hb (wFst X.K c i ts D) (X.pn ++ pins) (fun e s1 => wpAny (model X.prog X.w) X.A (noteFrame e X.env) (fun _ s2 => wpAny (model X.prog X.w) X.A (setFlight e none) (fun _ s3 => wpAny (model X.prog X.w) X.A (handleBy e X.env (.ExceptHandler (some (.Name x np)) (some n) (b0 :: suite) pos' :: rest)) (SP X pins D) X.xe s3) X.xe s2) X.xe s1)
    (fun u t1 ex => ?caught) PassesOwn.looking).run [] s σ H D (I.toTry _) h) (fun fl t1 hsp => ?through) fun e t1 he => he)
  case through =>
    cases fl with
    | next => obtain ⟨σ', H', J', q⟩ := hsp; exact wpAny_execs_nil ⟨σ', H', J'.ofTry okX, q⟩
    | brk => obtain ⟨σ', H', J', q⟩ := hsp; exact ⟨σ', H', J'.ofTry okX, q⟩
    | cont => obtain ⟨σ', H', J', q⟩ := hsp; exact ⟨σ', H', J'.ofTry okX, q⟩
    | ret u => obtain ⟨v, σ', H', J', r, q⟩ := hsp; exact ⟨v, σ', H', J'.ofTry okX, r, q⟩
  case caught =>
    obtain ⟨ea, gB, s0, pins', σ1, H1, cls, dd, rfl, J0, ground, ups, skyE, ean, osE, bareE, hmatch, hsuite⟩ := ex
    have J1 : Inv X pins σ1 H1 s0 := J0.ofTry okX
    have sky1 : Sky gB (X.env :: X.outer) ea (Zc cls dd) X.env.locals t1.heap := by rw [← hs]; exact skyE
    show wpAny (model X.prog X.w) X.A (noteFrame (.ref ea) X.env) _ _ _
    refine Sky.land Zc.steady frm hf sky1 fun hp3 fl3 ups3 => ?_
    have J3 : Inv X pins σ1 H1 { t1 with heap := hp3 } := J1.landed ground fl3.1 (ups.trans ups3) osE bareE
    obtain ⟨o3, w3, got3, z3, dat3⟩ := fl3.there
    have away : ea ∉ frs (X.env :: X.outer) := fun hm => by
      obtain ⟨_, o', e', hnf⟩ := fl3.2.2.1.mem hm
      rw [got3] at e'
      cases e'
      exact hnf _ dat3
    have neL : ea ≠ X.env.locals := fun z => away (List.mem_filterMap.mpr ⟨X.env, List.mem_cons_self, by rw [hf, z]⟩)
    have niF : ea ∉ X.fs := fun hm => by
      obtain ⟨en, hen, qn⟩ := List.mem_filterMap.mp hm
      exact away (List.mem_filterMap.mpr ⟨en, List.mem_cons_of_mem _ hen, qn⟩)
    have Su3 := J3.suite got3 dat3 ean neL niF
    refine wpAny_handleBy_cons (codeAny_handlers_test ?_) (by intro q; cases q)
    have typ3 : PySem.W.Looks (model X.prog X.w) hp3 (typeOf (.ref ea)) cls := fun A Q E s k q => wpAny_typeOf_ref (k _ _ got3) (by rw [z3.1]; exact q)
    have mat3 := PySem.W.exm_one (M := model X.prog X.w) J3.kIn typ3 hmatch
    have named : ∀ {Q : Value → Shared → Prop} {E : Value → Shared → Prop}, Q c { t1 with heap := hp3 } → wpAny (model X.prog X.w) (X.A.mark (some (.ref ea))) (eval (.Name x np) X.env) Q E { t1 with heap := hp3 } := fun {Q E} q => by
      obtain ⟨hg, hdbg, hm | ⟨hm, hv, hnn⟩⟩ := hc
      · exact ld_glob (X := X.suite ea ((ea, o3) :: (X.pn ++ pins))) Su3 hg hm q hdbg
      · exact ld_blt (X := X.suite ea ((ea, o3) :: (X.pn ++ pins))) Su3 hg hm hv q hnn hdbg
    refine named (mat3.here (codeAny_handlers_suite_as (HandSPX.lands_againZ fl3 fun hp4 fl4 ups4 => ?_)))
    have J4 : Inv X pins σ1 H1 { t1 with heap := hp4 } := J1.landed ground fl4.1 ((ups.trans ups3).trans ups4) osE bareE
    obtain ⟨o4, w4, got4, z4, dat4⟩ := fl4.there
    have Su4 := J4.suite got4 dat4 ean neL niF
    refine store_ok (X := X.suite ea ((ea, o4) :: (X.pn ++ pins))) (v := .ref ea) Su4 hN hi locN rfl (fun s5 Su5 => ?_) (.inr hln)
    refine wpAny_mono ((hsu ea o4 cls dd (X.pn ++ pins) z4 ⟨_, dat4⟩).run [] s5 _ H1 _ Su5 (hsuite ea ean)) (fun fl s6 hsp => ?_) fun _ _ z => False.elim z
    cases fl with
    | next => obtain ⟨_, _, _, z⟩ := hsp; exact z.elim
    | brk => obtain ⟨_, _, _, z⟩ := hsp; exact z.elim
    | cont => obtain ⟨_, _, _, z⟩ := hsp; exact z.elim
    | ret u =>
      obtain ⟨v6, σ6, H6, Su6, r6, q6⟩ := hsp
      exact gone_ok (Su6.unsuite okX) hN hi hln fun s7 J7 => ⟨v6, _, H6, J7, r6, q6⟩
end
/-! ### by data -/
def sTryAs (x f c : Str) (gb : Sl → M Out) : Sl → M Out := fun ρ gs => match gb ρ gs with
  | .ok o g => .ok o g
  | .exc y g => if y.cls = x then (match y.pay.lookup f with
    | some d => .ok (.ret (.val (.tuple [.str c, d]))) g
    | none => .stuck) else .stuck
  | .stuck => .stuck
theorem takes_len {X : Cx} {W : WX} (tk : Takes X W) : Takes X fun cls d _ H => ∀ σ2 : L2.St, σ2.length = X.N.length → W cls d σ2 H := fun u s' ⟨a, B, s0, pins, σ, H, cls, d, e, I, r1, r2, r3, r4, r5, r6, z⟩ =>
  tk u s' ⟨a, B, s0, pins, σ, H, cls, d, e, I, r1, r2, r3, r4, r5, r6, z σ I.len⟩
theorem s_tryAs {X : Cx} {E : XK} {C fI : Addr} {x f n c : Str} {i : Nat} {body : List Stmt} {gb : Sl → M Out} {rest : List ExceptHandler} {np p1 p2 p3 p4 p5 pos pos' : Pos} {ct kd} (T : ExC X.K X.mg C fI x f) (hs : X.stack = X.env :: X.outer) (hf : X.env.frame = some X.env.locals) (hN : X.N.Nodup)
    (hi : X.N[i]? = some n) (hln : X.env.kindOf n = some .local) (hv : Vis X.env.scope n) (hg : Gl X x) (hbase : attributeBase (.Name n p2) f X.env (eval (.Name n p2) X.env) = eval (.Name n p2) X.env)
    (hb : ∀ (E' : XK) (pn : List (Addr × Obj)) (xe : Value → Shared → Prop), Takes (X.tr pn xe) (fun cls d _ H => E' cls d H) → PassesOwn (model X.prog X.w) X.A X.env xe → PXB (X.tr pn xe) E' body gb)
    (hdb : (x == ("__debug__" : Str)) = false := by decide) (hnd : (n == ("__debug__" : Str)) = false := by decide) (hnc : (n == ("__classdict__" : Str)) = false := by decide) :
    PXS X E (.Try body (.ExceptHandler (some (.Name x np)) (some n) [.Return (some (.Tuple [.Constant (.str c) kd p1, .Attribute (.Name n p2) f p3] ct p4)) p5] pos' :: rest) [] [] pos) (sTryAs x f c gb) :=
  ⟨(ps_try_ret (i := i) (c := .ref C) (tb := fun W => tXS X.K (fun cls d H => ∀ σ2 : L2.St, σ2.length = X.N.length → W cls d σ2 H) gb) (ts := fun a cls d => tRet (tTupN (tCons (tC (.str c)) (tCons (tXf a cls d C f (tVar i)) tNil))))
    hs hf hN hi hln ⟨hg, hdb, .inl T.g⟩ (fun W pn xe tk po => (hb _ pn xe (takes_len tk) po).ps)
    fun a oe cls d pn hz hd => pss_one (ps_ret (pe_tupN (pa_cons pe_str (pa_cons (pe_xf T.xf T.noF hz hd (pe_var hi hv hnd hnc) hbase) pa_nil))))).mono fun D σ H q => by
    obtain ⟨W, ρ, gs, S, Ev, q⟩ := q
    refine ⟨W, ρ, gs, S, Ev, ?_⟩
    have q' : postS X.K E D ρ σ W H (match gb ρ gs with
      | .ok o g => .ok o g
      | .exc y g => if y.cls = x then (match y.pay.lookup f with
        | some d => .ok (.ret (.val (.tuple [.str c, d]))) g
        | none => .stuck) else .stuck
      | .stuck => .stuck) := q
    cases e : gb ρ gs with
    | stuck => rw [e] at q'; exact q'.elim
    | ok o g =>
      rw [e] at q'
      cases o with
      | nx ρ' => exact q'
      | brk ρ' => exact q'
      | cnt ρ' => exact q'
      | ret r => exact q'
    | exc y g =>
      rw [e] at q'
      dsimp only at q'
      by_cases hx : y.cls = x
      · rw [if_pos hx] at q'
        cases hl : y.pay.lookup f with
        | none => rw [hl] at q'; exact q'.elim
        | some dt =>
          rw [hl] at q'
          intro cls dd W' H' s' S' R σ2 hlen
          have hcls : cls = .ref C := by
            have z := R.cl
            rw [hx, T.n] at z
            exact (Option.some.inj (Option.some.inj z)).symm
          subst hcls
          obtain ⟨d, fs, e1, e2, e3⟩ := R.pa
          obtain ⟨v, l, r⟩ := e3 f dt hl
          have hil : i < σ2.length := by
            rw [hlen]
            exact (List.getElem?_eq_some_iff.mp hi).1
          refine ⟨T.te, fun a ha => ⟨.ref a, by rw [List.getElem?_set_self hil], rfl, rfl, d, fs, v, e1, e2, l, ?_⟩⟩
          refine ⟨(by decide : 2 ≤ sizeLine), fun p o hp ho => ?_⟩
          exact q' (.ref p) (W'.frz p (.frz o (.tup [.str c, v]))) _ (s'.trans (step_newF S' hp) fun _ z => .inl z) (S'.newF hp) (tup_new S' hp ho (.cons (.str c) (.cons r .nil)))
      · rw [if_neg hx] at q'; exact q'.elim⟩
end PL
set_option Elab.async false
set_option linter.all false
set_option maxRecDepth 100000
set_option maxHeartbeats 2000000
/-! PLD: the facts of an own exception class, asked of the written part. -/
namespace PL
open PySem PySem.Spec PyProof.Rows L2
def lowB (K : PySem.W.Frag) (C : Addr) : Bool := match K.lookup C with
  | some ⟨.type "type", _, .cls k, ⟨[_, _, _, _, some (.builtin m), _]⟩⟩ => (match k.mro with
    | .ref C1 :: more => decide (C1 = C) && (decide (m = "ValueError.__new__") && (!k.hasDel && (k.hasDict && PySem.HandSPX.refsVE more)))
    | _ => false)
  | _ => false
theorem lowB_ok {K : PySem.W.Frag} {C : Addr} (h : lowB K C = true) : ∃ nm q N bs bm sn sub ab col dd k0 k1 k2 k3 k5, K.lookup C = some (excClassObj nm q C N bs bm true sn sub ab col dd k0 k1 k2 k3 k5 "ValueError.__new__") ∧ PySem.HandSPX.refsVE bm = true := by
  unfold lowB at h
  split at h
  · rename_i dd k k0 k1 k2 k3 m k5 e
    split at h
    · rename_i C1 more em
      rw [Bool.and_eq_true, Bool.and_eq_true, Bool.and_eq_true, Bool.and_eq_true, decide_eq_true_eq, decide_eq_true_eq] at h
      obtain ⟨h1, h2, h3, h4, h5⟩ := h
      subst h1 h2
      obtain ⟨nm, bs, mro, ns, qn, hd, sn, sb, ab, col, del⟩ := k
      dsimp only at em h3 h4
      subst em h4
      cases del with
      | true => exact nomatch h3
      | false => exact ⟨nm, qn, ns, bs, more, sn, sb, ab, col, dd, k0, k1, k2, k3, k5, e, h5⟩
    · exact nomatch h
  · exact nomatch h
def exB (K : PySem.W.Frag) (x f : Str) : Bool :=
  He.eqO (PySem.W.nsIn K mainGlobals x) (some (some (.ref (He.ga K x)))) && (lowB K (He.ga K x) && (He.eqO (PySem.W.findIn K (.ref (He.ga K x)) "__setattr__") (some (some (.builtin "object.__setattr__"))) && (decide (PySem.W.subIn K (.ref (He.ga K x)) (.type "BaseException") = some true) && (decide (PySem.W.typeIn K (.ref (He.ga K x)) = some (.type "type")) && (PySem.W.keepIn K (.ref (He.ga K x)) &&
  (xfB K (He.ga K x) && (He.eqO (PySem.W.findIn K (.ref (He.ga K x)) f) (some none) && (He.eqO (PySem.W.findIn K (.ref (He.ga K x)) "__init__") (some (some (.ref (He.ma K (He.ga K x) "__init__")))) && (decide (PySem.W.typeIn K (.ref (He.ma K (He.ga K x) "__init__")) = some (.type "function")) && decide (PySem.W.exmOne K (.ref (He.ga K x)) (.ref (He.ga K x)) = some true))))))))))
theorem exB_ok {K : PySem.W.Frag} {h : Heap} {mg : Str → Option Value} {x f : Str} (X : K.In h) (G : h.Ns mainGlobals mg) (e : exB K x f = true) : ExC K mg (He.ga K x) (He.ma K (He.ga K x) "__init__") x f := by
  unfold exB at e
  simp only [Bool.and_eq_true] at e
  obtain ⟨e1, e2, e3, e4, e5, e6, e7, e8, e9, e10, e11⟩ := e
  exact {
    g := PySem.W.mg_of X G (He.eqO_ok e1)
    n := He.eqO_ok e1
    o := ⟨lowB_ok e2, He.eqO_ok e3, of_decide_eq_true e4, of_decide_eq_true e5, e6⟩
    xf := xfB_ok e7
    noF := He.eqO_ok e8
    iC := He.eqO_ok e9
    tI := of_decide_eq_true e10
    te := of_decide_eq_true e11 }
/-- the j-th statement of a class -/
def clsAt (s : Stmt) (j : Nat) : Stmt := match s with
  | .ClassDef _ _ _ b _ _ _ _ _ _ _ => b.getD j (.Pass ⟨0, 0, 0, 0⟩)
  | _ => .Pass ⟨0, 0, 0, 0⟩
theorem passN {X : Cx} {E : XK} : Passes CX0 X E := fun _ _ _ _ _ _ _ h => h.elim
end PL
set_option Elab.async false
set_option linter.all false
set_option maxRecDepth 100000
set_option maxHeartbeats 2000000
/-! PLE: t[::-1] of a tuple; three names stored at once. -/
namespace PL
open PySem PySem.Spec PyProof.Rows L2
theorem adj_rev (n : Nat) : Builtin.Slice.sliceAdjust none none (-1) (n : Int) = ((n : Int) - 1, -1) := rfl
theorem places_rev (n : Nat) : Builtin.Slice.slicePlaces ((n : Int) - 1) (-1) (-1) = n := by
  unfold Builtin.Slice.slicePlaces
  rw [if_neg (by decide)]
  by_cases h : (n : Int) - 1 > -1
  · rw [if_pos h]
    have e : ((n : Int) - 1 - -1 - 1) / (- -1) + 1 = (n : Int) := by
      rw [show (- -1 : Int) = 1 by decide, Int.ediv_one]
      omega
    rw [e, Int.toNat_natCast]
  · rw [if_neg h]
    have : n = 0 := by omega
    subst this
    rfl
theorem fm_congr {α β : Type} {f g : α → Option β} : ∀ {l : List α}, (∀ a ∈ l, f a = g a) → l.filterMap f = l.filterMap g
  | [], _ => rfl
  | a :: l, h => by rw [List.filterMap_cons, List.filterMap_cons, h a (List.mem_cons_self ..), fm_congr fun b hb => h b (List.mem_cons_of_mem _ hb)]
theorem pick_rev (xs : Array Value) : ((List.range xs.size).filterMap fun (k : Nat) => xs[(((xs.size : Nat) : Int) - 1 + (k : Int) * (-1)).toNat]?).toArray = xs.toList.reverse.toArray := by
  have e : (List.range xs.size).filterMap (fun (k : Nat) => xs[(((xs.size : Nat) : Int) - 1 + (k : Int) * (-1)).toNat]?) = ((List.range xs.size).map fun k => xs.size - 1 - k).filterMap (xs[·]?) := by
    rw [List.filterMap_map]
    refine fm_congr fun k hk => ?_
    have hk := List.mem_range.mp hk
    have e2 : (((xs.size : Nat) : Int) - 1 + (k : Int) * (-1)).toNat = xs.size - 1 - k := by omega
    rw [e2]
    rfl
  rw [e, PySem.W.krv_range, List.filterMap_reverse, PySem.W.krv_all]
section
variable {prog : Program} {w : World} {A : Around} {E : Value → Shared → Prop} {s : Shared}
theorem sliceApplied_rev {sl : Addr} {u : Tok} {n : Nat} {vs : Value} {Q : Int × Int × Nat → Shared → Prop} (hs : s.heap.IsSliceOf sl .none .none vs) (pv : IsPart vs (some (-1))) (h : Q ((n : Int) - 1, -1, n) s) :
    wpAny (model prog w) A (Builtin.Slice.sliceApplied (.ref sl) (pure (n : Int))) Q E s := by
  obtain ⟨ob, ho, hcl, hda⟩ := id hs
  unfold Builtin.Slice.sliceApplied Builtin.Slice.sliceFields
  refine wpAny_bind (wpAny_bind (wpAny_field ho hda (x := Value.none) rfl (wpAny_bind (wpAny_field ho hda (x := Value.none) rfl (wpAny_bind (wpAny_field ho hda (x := vs) rfl (wpAny_pure ?_)))))))
  refine wpAny_bind (HT.slicePart_ pv ?_)
  show wpAny _ _ (if ((-1 : Int) == 0) = true then _ else _) _ _ s
  rw [if_neg (by decide)]
  refine wpAny_bind (slicePart_none (wpAny_bind (slicePart_none (wpAny_bind (wpAny_pure ?_)))))
  show wpAny _ _ (pure ((n : Int) - 1, (-1 : Int), Builtin.Slice.slicePlaces ((n : Int) - 1) (-1) (-1))) _ _ s
  rw [places_rev]
  exact wpAny_pure h
theorem getItem_tuple_rev {t sl : Addr} {items : Array Value} {vs : Value} {Q : Value → Shared → Prop} (ht : IsTup s.heap t items) (hs : s.heap.IsSliceOf sl .none .none vs) (pv : IsPart vs (some (-1)))
    (h : Q (.ref s.heap.objs.size) { s with heap := s.heap.push { cls := .type "tuple", data := .seq items.toList.reverse.toArray } }) (hsz : items.size ≤ sizeLine) : wpAny (model prog w) A (getItem (.ref t) (.ref sl)) Q E s := by
  have fits : sizeOk (.seq items.toList.reverse.toArray) := by
    show items.toList.reverse.toArray.size ≤ sizeLine
    rw [List.size_toArray, List.length_reverse, Array.length_toList]
    exact hsz
  obtain ⟨ob, ho, hcl, hda⟩ := id hs
  have isSl : s.TypeIs (.ref sl) "slice" := ⟨ob, ho, hcl⟩
  unfold getItem
  try with_reducible refine wpAny_holding ?_
  first | refine wpAny_bind (wpAny_pure ?_) | skip
  refine wpAny_bind (wpAny_sequenceKey ht.typeIs (by decide) ?_)
  refine wpAny_bind (wpAny_callSpecial?_slot (name := Str.ofString "__getitem__") ht.typeIs PyProof.Rows.slot_tuple_getitem (wpAny_call_entry PyProof.Rows.slot_tuple_getitem ht.typeIs entry_tuple_getitem ?_ (args_tuple_getitem _ _)))
  show wpAny _ _ (Builtin.Tuple.tupleItemsOf (.ref t) >>= _) _ _ s
  refine wpAny_bind (tupleItemsOf_ ht (wpAny_bind (wpAny_typeOf isSl ?_)))
  rw [if_pos (by decide)]
  refine wpAny_bind (sliceApplied_rev (u := 0) hs pv ?_)
  have nw : ¬ ((((items.size : Nat) : Int) - 1 == 0 && (-1 : Int) == 1 && items.size == items.size) = true) := by
    intro q
    rw [Bool.and_eq_true, Bool.and_eq_true] at q
    exact absurd q.1.2 (by decide)
  show wpAny _ _ (if (((items.size : Nat) : Int) - 1 == 0 && (-1 : Int) == 1 && items.size == items.size) = true then _ else _) _ _ s
  rw [if_neg nw, pick_rev]
  first
    | exact wpAny_bind (m := Builtin.Tuple.tupleExact _) (wpAny_newObj_type (wpAny_pure ⟨_, rfl, wpAny_pure h⟩) fits)
    | exact wpAny_bind (m := Builtin.Tuple.tupleExact _) (wpAny_newObj_type (wpAny_bind (wpAny_pure (wpAny_pure ⟨_, rfl, wpAny_pure h⟩))) fits)
    | exact wpAny_bind (wpAny_bind (m := Builtin.Tuple.tupleExact _) (wpAny_newObj_type (wpAny_pure (wpAny_pure ⟨_, rfl, wpAny_pure h⟩)) fits))
    | exact wpAny_bind (wpAny_bind (m := Builtin.Tuple.tupleExact _) (wpAny_newObj_type (wpAny_pure ⟨_, rfl, wpAny_pure h⟩) fits))
end
section
variable {X : Cx} {E : XK}
def tRevT (K : PySem.W.Frag) (te : TE) : TE := fun σ H Q => te σ H fun x H1 => ∃ a xs, x = .ref a ∧ SqT K H1 a xs ∧ ∀ (p : Addr) (o : Obj), H1 p = none → o.dict = none → Q (.ref p) (upd H1 p (.frz o (.tup xs.reverse)))
theorem pe_revT {e : Expr} {te : TE} {k : Nat} {p1 p2 p3 pos : Pos} (he : PE X e te) : PE X (.Subscript e (.Slice none none (some (.UnaryOp .USub (.Constant (.int 1) k p1) p2)) p3) pos) (tRevT X.K te) := by
  refine ⟨fun pins s σ H Q I h => Subscript_ (thn (he.run pins s σ H _ I h) fun v s1 ⟨x, H1, I1, r1, q1⟩ => ?_)⟩
  obtain ⟨a, xs, ex, hx, q⟩ := q1
  subst ex
  cases r1
  have third : PO X (some (.UnaryOp .USub (.Constant (.int 1) k p1) p2)) (tPart (tUn (rU fun i => .int (-i)) (tC (.int 1)))) := po_some (pe_un un_neg pe_int)
  refine wpAny_Slice (thn (po_none.run pins s1 σ H1 (fun o G => o = none ∧ G = H1) I1 ⟨rfl, rfl⟩) fun vl s2 ⟨l, H2, I2, pl, el, e2⟩ => ?_)
  subst el e2
  cases pl
  refine thn (po_none.run pins s2 σ H2 (fun o G => o = none ∧ G = H2) I2 ⟨rfl, rfl⟩) fun vu s3 ⟨u, H3, I3, pu, eu, e3⟩ => ?_
  subst eu e3
  cases pu
  refine thn (third.run pins s3 σ H3 (fun o G => o = some (-1) ∧ G = H3) I3 ⟨1, rfl, -1, rfl, rfl, rfl⟩) fun vs s4 ⟨o, H4, I4, ps, eo, e4⟩ => ?_
  subst eo e4
  have I5 : Inv X pins σ H4 { s4 with heap := s4.heap.push { cls := .type "slice", data := .fields #[.none, .none, vs] } } := I4.kept (t' := s4.toks) fun b ob z => Heap.get?_push_of_some _ z
  obtain ⟨its, r, ht, hz⟩ := I5.tuple hx
  show wpAny (model X.prog X.w) X.A (subscriptTail e (.Slice none none (some (.UnaryOp .USub (.Constant (.int 1) k p1) p2)) p3) (.ref a) (.ref s4.heap.objs.size)) (EP X pins σ Q) X.xe { s4 with heap := s4.heap.push { cls := .type "slice", data := .fields #[.none, .none, vs] } }
  refine tail_any (ops := [.ref a, .ref s4.heap.objs.size]) ht.typeIs (PyProof.Rows.slot_tuple_getitem.lookup) ?_ (by with_unfolding_all rfl)
  have hlen : its.toArray.size ≤ sizeLine := by
    rw [List.size_toArray, ← r.length]
    exact hz
  refine getItem_tuple_rev ht (Heap.IsSliceOf.new _ Value.none Value.none vs) ps ?_ hlen
  refine ⟨.ref _, upd H4 _ _, I5.laid (t' := s4.toks) (fun b ob z => Heap.get?_push_of_some _ z) (Nat.le_refl _) (ftup r.reverse (by rw [List.length_reverse]; exact hz) (Heap.get?_push_size _ rfl)), rfl, q _ _ (I5.hok.fresh (Nat.le_refl _)) rfl⟩
def revR (r : RV) : Option RV := match rd r with
  | some (.tuple ds) => some (.val (.tuple ds.reverse))
  | _ => none
def xRev (ga : Sl → M RV) : Sl → M RV := fun ρ => useM (ga ρ) fun r => liftO (revR r)
theorem RpAll.rev {K : PySem.W.Frag} {G : Hp} : ∀ {ds : List D} {vs : List V}, RpAll K G vs ds → RpAll K G vs.reverse ds.reverse := by
  intro ds
  induction ds with
  | nil => intro vs h; cases h; exact .nil
  | cons d ds ih =>
    intro vs h
    cases h with
    | cons h1 h2 =>
      rw [List.reverse_cons, List.reverse_cons]
      exact (ih h2).append (.cons h1 .nil)
theorem x_revT {e : Expr} {ge : Sl → M RV} {k : Nat} {p1 p2 p3 pos : Pos} (he : PX X E e ge) : PX X E (.Subscript e (.Slice none none (some (.UnaryOp .USub (.Constant (.int 1) k p1) p2)) p3) pos) (xRev ge) :=
  ⟨(pe_revT he.pe).mono fun σ H Q q => by
    obtain ⟨W, ρ, gs, S, Ev, q⟩ := q
    refine tX_use S Ev q fun r1 v1 W1 H1 gs1 s1 S1 E1 a1 q1 => ?_
    obtain ⟨r, e, q2⟩ := post_liftO q1
    unfold revR at e
    split at e
    · rename_i ds e1
      cases e
      obtain ⟨p, vs, rfl, h1, h2, h3⟩ := a1.tup S1 e1
      exact ⟨p, vs, rfl, h1, fun p2 o hp ho => q2 _ _ (step_newF S1 hp) (S1.newF hp) _ (tup_new S1 hp ho (RpAll.rev h3))⟩
    · cases e⟩
/-! ### a, b, c = x, y, z -/
def sPar3 (i j l : Nat) (ga gb gc : Sl → M RV) : Sl → M Out := fun ρ => useM (ga ρ) fun r => useM (gb ρ) fun r' => bindM (gc ρ) fun r'' => bindM (liftO (valOf r)) fun d => bindM (liftO (valOf r')) fun d' => bindM (liftO (slotV r'')) fun s => retM (.nx (((ρ.set i (.val d)).set j (.val d')).set l s))
theorem valOf_arg {K : PySem.W.Frag} {B : Addr → Prop} {W : Wd} {H : Hp} {r : RV} {v : V} {d : D} (a : ArgR K B W H r v) (e : valOf r = some d) : Rp K W.G v d := by
  cases r with
  | val d0 => cases e; exact a
  | _ => cases e
theorem s_par3 {a b c : Expr} {ga gb gc : Sl → M RV} {i j l : Nat} {x y z : Str} {px py pz pt pos : Pos} {kt k2 pt2} (hc : X.calm = true) (hN : X.N.Nodup) (hi : X.N[i]? = some x) (hj : X.N[j]? = some y) (hl : X.N[l]? = some z) (hij : i ≠ j) (hil : i ≠ l) (hjl : j ≠ l)
    (hx : X.env.scope.names.lookup x = some .local) (hy : X.env.scope.names.lookup y = some .local) (hz : X.env.scope.names.lookup z = some .local) (ha : PX X E a ga) (hb : PX X E b gb) (hcc : PX X E c gc)
    (hw : swappedStores [.Tuple [.Name x px, .Name y py, .Name z pz] kt pt] (.Tuple [a, b, c] k2 pt2) X.env = pure (some [x, y, z]))
    (hs : swapsWithSole [.Tuple [.Name x px, .Name y py, .Name z pz] kt pt] (.Tuple [a, b, c] k2 pt2) pos.line X.env = pure false := by rfl)
    (hs1 : starEach [a, b, c] X.env = (false, eval a X.env) :: starEach [b, c] X.env := by rfl) (hs2 : starEach [b, c] X.env = (false, eval b X.env) :: starEach [c] X.env := by rfl) (hs3 : starEach [c] X.env = (false, eval c X.env) :: starEach [] X.env := by rfl) :
    PXS X E (.Assign [.Tuple [.Name x px, .Name y py, .Name z pz] kt pt] (.Tuple [a, b, c] k2 pt2) pos) (sPar3 i j l ga gb gc) :=
  ⟨(ps_par3 hc hN hi hj hl hij hil hjl hx hy hz (pa_cons ha.pe (pa_cons hb.pe (pa_cons hcc.pe pa_nil hs3) hs2) hs1) hw hs).mono fun De σ H q => by
    obtain ⟨W, ρ, gs, S, Ev, q⟩ := q
    refine tX_useS S Ev q fun r v W1 H1 gs1 s1 S1 E1 a1 q1 => ?_
    refine tX_useS S1 E1 q1 fun r' v' W2 H2 gs2 s2 S2 E2 a2 q2 => ?_
    refine tX_raw S2 E2 q2 fun r'' v'' W3 H3 gs3 s3 S3 E3 a3 q3 => ?_
    obtain ⟨d, e1, q3⟩ := post_bindS q3
    obtain ⟨d', e2, q3⟩ := post_bindS q3
    obtain ⟨t, e3, q3⟩ := post_bindS q3
    have av : Rp X.K W3.G v d := Rp.same s3.le.g _ _ (Rp.same s2.le.g _ _ (valOf_arg a1 e1))
    have bv : Rp X.K W3.G v' d' := Rp.same s3.le.g _ _ (valOf_arg a2 e2)
    obtain ⟨k3, k4⟩ := slot_of E2 a3 e3 s3
    refine ⟨v, v', v'', rfl, ?_⟩
    have F1 : EnvR X.K W3 H3 (ρ.set i (.val d)) (σ.set i (some v)) := E3.set (i := i) (s := .val d) (v := v) av
    have F2 : EnvR X.K W3 H3 ((ρ.set i (.val d)).set j (.val d')) ((σ.set i (some v)).set j (some v')) := F1.set (i := j) (s := .val d') (v := v') bv
    have k5 : SlotOk X.K W3 H3 ((ρ.set i (.val d)).set j (.val d')) ((σ.set i (some v)).set j (some v')) t v'' := by
      cases t with
      | un => exact k3
      | val d => exact k3
      | own d =>
        obtain ⟨p, e, o, n⟩ := k3
        refine ⟨p, e, o, fun h => ?_⟩
        rcases h.of_set with h0 | ⟨_, d0, hd⟩
        · rcases h0.of_set with h1 | ⟨_, d1, hd⟩
          · exact n h1
          · cases hd
        · cases hd
      | obj n => exact k3
    refine q3 _ W3 H3 s3.weak (fun p hp => ?_) S3 (F2.set (i := l) k5)
    rcases hp.of_set with hp | ⟨e, d0, hd⟩
    · rcases hp.of_set with hp | ⟨_, d0, hd⟩
      · rcases hp.of_set with hp | ⟨_, d0, hd⟩
        · exact .inl hp
        · cases hd
      · cases hd
    · exact .inr (k4 d0 p hd e)⟩
end
end PL
set_option Elab.async false
set_option linter.all false
set_option maxRecDepth 100000
set_option maxHeartbeats 0
namespace JS
open PySem PySem.Spec PyProof.Rows L2
def top (i : Nat) : Stmt := PySem.Challenge.pw_joinsure_k37_whole_taking_out_columns.main.body.getD i (.Pass ⟨0, 0, 0, 0⟩)

abbrev s_is_integer : Stmt := top 7
def d_is_integer : He.DefD := ⟨("is_integer", none), "is_integer", "is_integer", defArgs s_is_integer, defBody s_is_integer, defScope s_is_integer, [], []⟩
abbrev s_is_from_to : Stmt := top 8
def d_is_from_to : He.DefD := ⟨("is_from_to", none), "is_from_to", "is_from_to", defArgs s_is_from_to, defBody s_is_from_to, defScope s_is_from_to, [], []⟩
abbrev s_is_tuple_of : Stmt := top 9
def d_is_tuple_of : He.DefD := ⟨("is_tuple_of", none), "is_tuple_of", "is_tuple_of", defArgs s_is_tuple_of, defBody s_is_tuple_of, defScope s_is_tuple_of, [], []⟩
abbrev s_is_ascending : Stmt := top 10
def d_is_ascending : He.DefD := ⟨("is_ascending", none), "is_ascending", "is_ascending", defArgs s_is_ascending, defBody s_is_ascending, defScope s_is_ascending, [], []⟩
abbrev s_is_within : Stmt := top 11
def d_is_within : He.DefD := ⟨("is_within", none), "is_within", "is_within", defArgs s_is_within, defBody s_is_within, defScope s_is_within, [], []⟩
abbrev s_is_column : Stmt := top 12
def d_is_column : He.DefD := ⟨("is_column", none), "is_column", "is_column", defArgs s_is_column, defBody s_is_column, defScope s_is_column, [], []⟩
abbrev s_is_columns : Stmt := top 13
def d_is_columns : He.DefD := ⟨("is_columns", none), "is_columns", "is_columns", defArgs s_is_columns, defBody s_is_columns, defScope s_is_columns, [], []⟩
abbrev s_is_some_of : Stmt := top 14
def d_is_some_of : He.DefD := ⟨("is_some_of", none), "is_some_of", "is_some_of", defArgs s_is_some_of, defBody s_is_some_of, defScope s_is_some_of, [.int 0], []⟩
abbrev s_check_columns : Stmt := top 15
def d_check_columns : He.DefD := ⟨("check_columns", none), "check_columns", "check_columns", defArgs s_check_columns, defBody s_check_columns, defScope s_check_columns, [.str "columns"], []⟩
abbrev s_is_cover_over : Stmt := top 18
def d_is_cover_over : He.DefD := ⟨("is_cover_over", none), "is_cover_over", "is_cover_over", defArgs s_is_cover_over, defBody s_is_cover_over, defScope s_is_cover_over, [], []⟩
abbrev s_check_parts : Stmt := top 19
def d_check_parts : He.DefD := ⟨("check_parts", none), "check_parts", "check_parts", defArgs s_check_parts, defBody s_check_parts, defScope s_check_parts, [.str "parts"], []⟩
abbrev s_part_bits : Stmt := top 21
def d_part_bits : He.DefD := ⟨("part_bits", none), "part_bits", "part_bits", defArgs s_part_bits, defBody s_part_bits, defScope s_part_bits, [], []⟩
abbrev s_near_bits : Stmt := top 22
def d_near_bits : He.DefD := ⟨("near_bits", none), "near_bits", "near_bits", defArgs s_near_bits, defBody s_near_bits, defScope s_near_bits, [], []⟩
abbrev s_check_cover : Stmt := top 23
def d_check_cover : He.DefD := ⟨("check_cover", none), "check_cover", "check_cover", defArgs s_check_cover, defBody s_check_cover, defScope s_check_cover, [], []⟩
abbrev s_taken_among : Stmt := top 25
def d_taken_among : He.DefD := ⟨("taken_among", none), "taken_among", "taken_among", defArgs s_taken_among, defBody s_taken_among, defScope s_taken_among, [], []⟩
abbrev s_taking_out : Stmt := top 26
def d_taking_out : He.DefD := ⟨("taking_out", none), "taking_out", "taking_out", defArgs s_taking_out, defBody s_taking_out, defScope s_taking_out, [], []⟩
abbrev s_accepts_taking_out : Stmt := top 27
def d_accepts_taking_out : He.DefD := ⟨("accepts_taking_out", none), "accepts_taking_out", "accepts_taking_out", defArgs s_accepts_taking_out, defBody s_accepts_taking_out, defScope s_accepts_taking_out, [], []⟩
abbrev s__law_stream : Stmt := top 29
def d__law_stream : He.DefD := ⟨("_law_stream", none), "_law_stream", "_law_stream", defArgs s__law_stream, defBody s__law_stream, defScope s__law_stream, [], []⟩
abbrev s__law_next : Stmt := top 30
def d__law_next : He.DefD := ⟨("_law_next", none), "_law_next", "_law_next", defArgs s__law_next, defBody s__law_next, defScope s__law_next, [], []⟩
abbrev s__law_pick : Stmt := top 31
def d__law_pick : He.DefD := ⟨("_law_pick", none), "_law_pick", "_law_pick", defArgs s__law_pick, defBody s__law_pick, defScope s__law_pick, [], []⟩
abbrev s__law_shuffled : Stmt := top 32
def d__law_shuffled : He.DefD := ⟨("_law_shuffled", none), "_law_shuffled", "_law_shuffled", defArgs s__law_shuffled, defBody s__law_shuffled, defScope s__law_shuffled, [], []⟩
abbrev s__law_plain : Stmt := top 33
def d__law_plain : He.DefD := ⟨("_law_plain", none), "_law_plain", "_law_plain", defArgs s__law_plain, defBody s__law_plain, defScope s__law_plain, [], []⟩
abbrev s__law_equal : Stmt := top 34
def d__law_equal : He.DefD := ⟨("_law_equal", none), "_law_equal", "_law_equal", defArgs s__law_equal, defBody s__law_equal, defScope s__law_equal, [], []⟩
abbrev s__law_columns : Stmt := top 35
def d__law_columns : He.DefD := ⟨("_law_columns", none), "_law_columns", "_law_columns", defArgs s__law_columns, defBody s__law_columns, defScope s__law_columns, [], []⟩
abbrev s__law_some : Stmt := top 36
def d__law_some : He.DefD := ⟨("_law_some", none), "_law_some", "_law_some", defArgs s__law_some, defBody s__law_some, defScope s__law_some, [], []⟩
abbrev s__law_covering : Stmt := top 37
def d__law_covering : He.DefD := ⟨("_law_covering", none), "_law_covering", "_law_covering", defArgs s__law_covering, defBody s__law_covering, defScope s__law_covering, [], []⟩
abbrev s__law_hung : Stmt := top 38
def d__law_hung : He.DefD := ⟨("_law_hung", none), "_law_hung", "_law_hung", defArgs s__law_hung, defBody s__law_hung, defScope s__law_hung, [], []⟩
abbrev s__law_round : Stmt := top 39
def d__law_round : He.DefD := ⟨("_law_round", none), "_law_round", "_law_round", defArgs s__law_round, defBody s__law_round, defScope s__law_round, [], []⟩
abbrev s__law_cover : Stmt := top 40
def d__law_cover : He.DefD := ⟨("_law_cover", none), "_law_cover", "_law_cover", defArgs s__law_cover, defBody s__law_cover, defScope s__law_cover, [], []⟩
abbrev s__law_near : Stmt := top 41
def d__law_near : He.DefD := ⟨("_law_near", none), "_law_near", "_law_near", defArgs s__law_near, defBody s__law_near, defScope s__law_near, [], []⟩
abbrev s__law_graham : Stmt := top 42
def d__law_graham : He.DefD := ⟨("_law_graham", none), "_law_graham", "_law_graham", defArgs s__law_graham, defBody s__law_graham, defScope s__law_graham, [], []⟩
abbrev s__law_is_number : Stmt := top 43
def d__law_is_number : He.DefD := ⟨("_law_is_number", none), "_law_is_number", "_law_is_number", defArgs s__law_is_number, defBody s__law_is_number, defScope s__law_is_number, [], []⟩
abbrev s__law_told : Stmt := top 44
def d__law_told : He.DefD := ⟨("_law_told", none), "_law_told", "_law_told", defArgs s__law_told, defBody s__law_told, defScope s__law_told, [], []⟩
abbrev s__law_held : Stmt := top 45
def d__law_held : He.DefD := ⟨("_law_held", none), "_law_held", "_law_held", defArgs s__law_held, defBody s__law_held, defScope s__law_held, [], []⟩
abbrev s__law_first : Stmt := top 46
def d__law_first : He.DefD := ⟨("_law_first", none), "_law_first", "_law_first", defArgs s__law_first, defBody s__law_first, defScope s__law_first, [], []⟩
abbrev s__law_drawn : Stmt := top 47
def d__law_drawn : He.DefD := ⟨("_law_drawn", none), "_law_drawn", "_law_drawn", defArgs s__law_drawn, defBody s__law_drawn, defScope s__law_drawn, [], []⟩
abbrev s__law_is_one : Stmt := top 48
def d__law_is_one : He.DefD := ⟨("_law_is_one", none), "_law_is_one", "_law_is_one", defArgs s__law_is_one, defBody s__law_is_one, defScope s__law_is_one, [], []⟩
abbrev s__law_bent : Stmt := top 49
def d__law_bent : He.DefD := ⟨("_law_bent", none), "_law_bent", "_law_bent", defArgs s__law_bent, defBody s__law_bent, defScope s__law_bent, [], []⟩
abbrev s_law : Stmt := top 50
def d_law : He.DefD := ⟨("law", none), "law", "law", defArgs s_law, defBody s_law, defScope s_law, [], []⟩
abbrev si_NotPossible : Stmt := PL.clsAt (top 3) 0
def di_NotPossible : He.DefD := ⟨("NotPossible", some "__init__"), "__init__", "NotPossible.__init__", defArgs si_NotPossible, defBody si_NotPossible, defScope si_NotPossible, [], []⟩
def fn : List He.DefD := [d_is_integer, d_is_from_to, d_is_tuple_of, d_is_ascending, d_is_within, d_is_column, d_is_columns, d_is_some_of, d_check_columns, d_is_cover_over, d_check_parts, d_part_bits, d_near_bits, d_check_cover, d_taken_among, d_taking_out, d_accepts_taking_out, d__law_stream, d__law_next, d__law_pick, d__law_shuffled, d__law_plain, d__law_equal, d__law_columns, d__law_some, d__law_covering, d__law_hung, d__law_round, d__law_cover, d__law_near, d__law_graham, d__law_is_number, d__law_told, d__law_held, d__law_first, d__law_drawn, d__law_is_one, d__law_bent, d_law, di_NotPossible]
def fa : List He.Fa := [.glo "is_integer", .glo "is_from_to", .glo "is_tuple_of", .glo "is_ascending", .glo "is_within", .glo "is_column", .glo "is_columns", .glo "is_some_of", .glo "check_columns", .glo "is_cover_over", .glo "check_parts", .glo "part_bits", .glo "near_bits", .glo "check_cover", .glo "taken_among", .glo "taking_out", .glo "accepts_taking_out", .glo "_law_stream", .glo "_law_next", .glo "_law_pick", .glo "_law_shuffled", .glo "_law_plain", .glo "_law_equal", .glo "_law_columns", .glo "_law_some", .glo "_law_covering", .glo "_law_hung", .glo "_law_round", .glo "_law_cover", .glo "_law_near", .glo "_law_graham", .glo "_law_is_number", .glo "_law_told", .glo "_law_held", .glo "_law_first", .glo "_law_drawn", .glo "_law_is_one", .glo "_law_bent", .glo "law", .free "ValueError", .free "abs", .free "all", .free "bool", .free "enumerate", .free "int", .free "isinstance", .free "len", .free "list", .free "max", .free "min", .free "range", .free "repr", .free "sorted", .free "str", .free "sum", .free "tuple", .int "MOST_SIGNS" 12, .int "MOST_COLUMNS" 24, .int "MOST_PARTS" 24, .glo "JoinError", .glo "BadValue", .glo "NotPossible"]
abbrev R : PySem.W.OpenRow := PySem.W.OpenLaw.row PySem.Challenge.rw_joinsure_k37_whole_taking_out_columns
def exk (K : PySem.W.Frag) : Bool := PL.exB K "NotPossible" "why"
abbrev hk : PySem.W.Hook := He.hookX 4 fa fn [] [] exk
def ob (s : PySem.W.SharedT) : He.AlX := He.obsX 4 fa fn [] [] exk (HandSHeadRun.getT s)
theorem ob_eq (s : PySem.W.SharedT) : ob s = hk.obs s.abs := He.obsX_eq (HandSHeadRun.getT_eq s)

def loose0 : List Str := ["JoinError", "BadValue", "NotPossible", "MOST_SIGNS", "MOST_COLUMNS", "is_integer", "is_from_to", "is_tuple_of", "is_ascending", "is_within", "is_column", "is_columns", "is_some_of", "check_columns", "MOST_PARTS", "is_cover_over", "check_parts", "part_bits", "near_bits", "check_cover"]
def loose1 : List Str := ["taken_among", "taking_out", "accepts_taking_out", "_law_stream", "_law_next", "_law_pick", "_law_shuffled", "_law_plain", "_law_equal", "_law_columns", "_law_some", "_law_covering", "_law_hung", "_law_round", "_law_cover", "_law_near", "_law_graham", "_law_is_number", "_law_told", "_law_held"]
def loose2 : List Str := ["_law_first", "_law_drawn", "_law_is_one", "_law_bent"]
def loose : List Str := loose0 ++ loose1 ++ loose2
theorem run (w : World) : HandSHeadRun.RunEq R (PySem.W.view R.prog [50]) hk ob 3000 loose w := by
  intro os
  kernel_rfl
end JS
set_option Elab.async false
set_option linter.all false
set_option maxRecDepth 100000
set_option maxHeartbeats 4000000
namespace JS
open PySem PySem.Spec PyProof.Rows L2 PL
structure Top (K : PySem.W.Frag) (mg : Str → Option Value) where
  d_is_integer : FuncData
  F_is_integer : L2.FunD K "is_integer" "is_integer" (defArgs s_is_integer) (defBody s_is_integer) (defScope s_is_integer) [] [] (He.ga K "is_integer") d_is_integer
  m_is_integer : mg "is_integer" = some (.ref (He.ga K "is_integer"))
  d_is_from_to : FuncData
  F_is_from_to : L2.FunD K "is_from_to" "is_from_to" (defArgs s_is_from_to) (defBody s_is_from_to) (defScope s_is_from_to) [] [] (He.ga K "is_from_to") d_is_from_to
  m_is_from_to : mg "is_from_to" = some (.ref (He.ga K "is_from_to"))
  d_is_tuple_of : FuncData
  F_is_tuple_of : L2.FunD K "is_tuple_of" "is_tuple_of" (defArgs s_is_tuple_of) (defBody s_is_tuple_of) (defScope s_is_tuple_of) [] [] (He.ga K "is_tuple_of") d_is_tuple_of
  m_is_tuple_of : mg "is_tuple_of" = some (.ref (He.ga K "is_tuple_of"))
  d_is_ascending : FuncData
  F_is_ascending : L2.FunD K "is_ascending" "is_ascending" (defArgs s_is_ascending) (defBody s_is_ascending) (defScope s_is_ascending) [] [] (He.ga K "is_ascending") d_is_ascending
  m_is_ascending : mg "is_ascending" = some (.ref (He.ga K "is_ascending"))
  d_is_within : FuncData
  F_is_within : L2.FunD K "is_within" "is_within" (defArgs s_is_within) (defBody s_is_within) (defScope s_is_within) [] [] (He.ga K "is_within") d_is_within
  m_is_within : mg "is_within" = some (.ref (He.ga K "is_within"))
  d_is_column : FuncData
  F_is_column : L2.FunD K "is_column" "is_column" (defArgs s_is_column) (defBody s_is_column) (defScope s_is_column) [] [] (He.ga K "is_column") d_is_column
  m_is_column : mg "is_column" = some (.ref (He.ga K "is_column"))
  d_is_columns : FuncData
  F_is_columns : L2.FunD K "is_columns" "is_columns" (defArgs s_is_columns) (defBody s_is_columns) (defScope s_is_columns) [] [] (He.ga K "is_columns") d_is_columns
  m_is_columns : mg "is_columns" = some (.ref (He.ga K "is_columns"))
  d_is_some_of : FuncData
  F_is_some_of : L2.FunD K "is_some_of" "is_some_of" (defArgs s_is_some_of) (defBody s_is_some_of) (defScope s_is_some_of) [.int 0] [] (He.ga K "is_some_of") d_is_some_of
  m_is_some_of : mg "is_some_of" = some (.ref (He.ga K "is_some_of"))
  d_check_columns : FuncData
  F_check_columns : L2.FunD K "check_columns" "check_columns" (defArgs s_check_columns) (defBody s_check_columns) (defScope s_check_columns) [.str "columns"] [] (He.ga K "check_columns") d_check_columns
  m_check_columns : mg "check_columns" = some (.ref (He.ga K "check_columns"))
  d_is_cover_over : FuncData
  F_is_cover_over : L2.FunD K "is_cover_over" "is_cover_over" (defArgs s_is_cover_over) (defBody s_is_cover_over) (defScope s_is_cover_over) [] [] (He.ga K "is_cover_over") d_is_cover_over
  m_is_cover_over : mg "is_cover_over" = some (.ref (He.ga K "is_cover_over"))
  d_check_parts : FuncData
  F_check_parts : L2.FunD K "check_parts" "check_parts" (defArgs s_check_parts) (defBody s_check_parts) (defScope s_check_parts) [.str "parts"] [] (He.ga K "check_parts") d_check_parts
  m_check_parts : mg "check_parts" = some (.ref (He.ga K "check_parts"))
  d_part_bits : FuncData
  F_part_bits : L2.FunD K "part_bits" "part_bits" (defArgs s_part_bits) (defBody s_part_bits) (defScope s_part_bits) [] [] (He.ga K "part_bits") d_part_bits
  m_part_bits : mg "part_bits" = some (.ref (He.ga K "part_bits"))
  d_near_bits : FuncData
  F_near_bits : L2.FunD K "near_bits" "near_bits" (defArgs s_near_bits) (defBody s_near_bits) (defScope s_near_bits) [] [] (He.ga K "near_bits") d_near_bits
  m_near_bits : mg "near_bits" = some (.ref (He.ga K "near_bits"))
  d_check_cover : FuncData
  F_check_cover : L2.FunD K "check_cover" "check_cover" (defArgs s_check_cover) (defBody s_check_cover) (defScope s_check_cover) [] [] (He.ga K "check_cover") d_check_cover
  m_check_cover : mg "check_cover" = some (.ref (He.ga K "check_cover"))
  d_taken_among : FuncData
  F_taken_among : L2.FunD K "taken_among" "taken_among" (defArgs s_taken_among) (defBody s_taken_among) (defScope s_taken_among) [] [] (He.ga K "taken_among") d_taken_among
  m_taken_among : mg "taken_among" = some (.ref (He.ga K "taken_among"))
  d_taking_out : FuncData
  F_taking_out : L2.FunD K "taking_out" "taking_out" (defArgs s_taking_out) (defBody s_taking_out) (defScope s_taking_out) [] [] (He.ga K "taking_out") d_taking_out
  m_taking_out : mg "taking_out" = some (.ref (He.ga K "taking_out"))
  d_accepts_taking_out : FuncData
  F_accepts_taking_out : L2.FunD K "accepts_taking_out" "accepts_taking_out" (defArgs s_accepts_taking_out) (defBody s_accepts_taking_out) (defScope s_accepts_taking_out) [] [] (He.ga K "accepts_taking_out") d_accepts_taking_out
  m_accepts_taking_out : mg "accepts_taking_out" = some (.ref (He.ga K "accepts_taking_out"))
  d__law_stream : FuncData
  F__law_stream : L2.FunD K "_law_stream" "_law_stream" (defArgs s__law_stream) (defBody s__law_stream) (defScope s__law_stream) [] [] (He.ga K "_law_stream") d__law_stream
  m__law_stream : mg "_law_stream" = some (.ref (He.ga K "_law_stream"))
  d__law_next : FuncData
  F__law_next : L2.FunD K "_law_next" "_law_next" (defArgs s__law_next) (defBody s__law_next) (defScope s__law_next) [] [] (He.ga K "_law_next") d__law_next
  m__law_next : mg "_law_next" = some (.ref (He.ga K "_law_next"))
  d__law_pick : FuncData
  F__law_pick : L2.FunD K "_law_pick" "_law_pick" (defArgs s__law_pick) (defBody s__law_pick) (defScope s__law_pick) [] [] (He.ga K "_law_pick") d__law_pick
  m__law_pick : mg "_law_pick" = some (.ref (He.ga K "_law_pick"))
  d__law_shuffled : FuncData
  F__law_shuffled : L2.FunD K "_law_shuffled" "_law_shuffled" (defArgs s__law_shuffled) (defBody s__law_shuffled) (defScope s__law_shuffled) [] [] (He.ga K "_law_shuffled") d__law_shuffled
  m__law_shuffled : mg "_law_shuffled" = some (.ref (He.ga K "_law_shuffled"))
  d__law_plain : FuncData
  F__law_plain : L2.FunD K "_law_plain" "_law_plain" (defArgs s__law_plain) (defBody s__law_plain) (defScope s__law_plain) [] [] (He.ga K "_law_plain") d__law_plain
  m__law_plain : mg "_law_plain" = some (.ref (He.ga K "_law_plain"))
  d__law_equal : FuncData
  F__law_equal : L2.FunD K "_law_equal" "_law_equal" (defArgs s__law_equal) (defBody s__law_equal) (defScope s__law_equal) [] [] (He.ga K "_law_equal") d__law_equal
  m__law_equal : mg "_law_equal" = some (.ref (He.ga K "_law_equal"))
  d__law_columns : FuncData
  F__law_columns : L2.FunD K "_law_columns" "_law_columns" (defArgs s__law_columns) (defBody s__law_columns) (defScope s__law_columns) [] [] (He.ga K "_law_columns") d__law_columns
  m__law_columns : mg "_law_columns" = some (.ref (He.ga K "_law_columns"))
  d__law_some : FuncData
  F__law_some : L2.FunD K "_law_some" "_law_some" (defArgs s__law_some) (defBody s__law_some) (defScope s__law_some) [] [] (He.ga K "_law_some") d__law_some
  m__law_some : mg "_law_some" = some (.ref (He.ga K "_law_some"))
  d__law_covering : FuncData
  F__law_covering : L2.FunD K "_law_covering" "_law_covering" (defArgs s__law_covering) (defBody s__law_covering) (defScope s__law_covering) [] [] (He.ga K "_law_covering") d__law_covering
  m__law_covering : mg "_law_covering" = some (.ref (He.ga K "_law_covering"))
  d__law_hung : FuncData
  F__law_hung : L2.FunD K "_law_hung" "_law_hung" (defArgs s__law_hung) (defBody s__law_hung) (defScope s__law_hung) [] [] (He.ga K "_law_hung") d__law_hung
  m__law_hung : mg "_law_hung" = some (.ref (He.ga K "_law_hung"))
  d__law_round : FuncData
  F__law_round : L2.FunD K "_law_round" "_law_round" (defArgs s__law_round) (defBody s__law_round) (defScope s__law_round) [] [] (He.ga K "_law_round") d__law_round
  m__law_round : mg "_law_round" = some (.ref (He.ga K "_law_round"))
  d__law_cover : FuncData
  F__law_cover : L2.FunD K "_law_cover" "_law_cover" (defArgs s__law_cover) (defBody s__law_cover) (defScope s__law_cover) [] [] (He.ga K "_law_cover") d__law_cover
  m__law_cover : mg "_law_cover" = some (.ref (He.ga K "_law_cover"))
  d__law_near : FuncData
  F__law_near : L2.FunD K "_law_near" "_law_near" (defArgs s__law_near) (defBody s__law_near) (defScope s__law_near) [] [] (He.ga K "_law_near") d__law_near
  m__law_near : mg "_law_near" = some (.ref (He.ga K "_law_near"))
  d__law_graham : FuncData
  F__law_graham : L2.FunD K "_law_graham" "_law_graham" (defArgs s__law_graham) (defBody s__law_graham) (defScope s__law_graham) [] [] (He.ga K "_law_graham") d__law_graham
  m__law_graham : mg "_law_graham" = some (.ref (He.ga K "_law_graham"))
  d__law_is_number : FuncData
  F__law_is_number : L2.FunD K "_law_is_number" "_law_is_number" (defArgs s__law_is_number) (defBody s__law_is_number) (defScope s__law_is_number) [] [] (He.ga K "_law_is_number") d__law_is_number
  m__law_is_number : mg "_law_is_number" = some (.ref (He.ga K "_law_is_number"))
  d__law_told : FuncData
  F__law_told : L2.FunD K "_law_told" "_law_told" (defArgs s__law_told) (defBody s__law_told) (defScope s__law_told) [] [] (He.ga K "_law_told") d__law_told
  m__law_told : mg "_law_told" = some (.ref (He.ga K "_law_told"))
  d__law_held : FuncData
  F__law_held : L2.FunD K "_law_held" "_law_held" (defArgs s__law_held) (defBody s__law_held) (defScope s__law_held) [] [] (He.ga K "_law_held") d__law_held
  m__law_held : mg "_law_held" = some (.ref (He.ga K "_law_held"))
  d__law_first : FuncData
  F__law_first : L2.FunD K "_law_first" "_law_first" (defArgs s__law_first) (defBody s__law_first) (defScope s__law_first) [] [] (He.ga K "_law_first") d__law_first
  m__law_first : mg "_law_first" = some (.ref (He.ga K "_law_first"))
  d__law_drawn : FuncData
  F__law_drawn : L2.FunD K "_law_drawn" "_law_drawn" (defArgs s__law_drawn) (defBody s__law_drawn) (defScope s__law_drawn) [] [] (He.ga K "_law_drawn") d__law_drawn
  m__law_drawn : mg "_law_drawn" = some (.ref (He.ga K "_law_drawn"))
  d__law_is_one : FuncData
  F__law_is_one : L2.FunD K "_law_is_one" "_law_is_one" (defArgs s__law_is_one) (defBody s__law_is_one) (defScope s__law_is_one) [] [] (He.ga K "_law_is_one") d__law_is_one
  m__law_is_one : mg "_law_is_one" = some (.ref (He.ga K "_law_is_one"))
  d__law_bent : FuncData
  F__law_bent : L2.FunD K "_law_bent" "_law_bent" (defArgs s__law_bent) (defBody s__law_bent) (defScope s__law_bent) [] [] (He.ga K "_law_bent") d__law_bent
  m__law_bent : mg "_law_bent" = some (.ref (He.ga K "_law_bent"))
  d_law : FuncData
  F_law : L2.FunD K "law" "law" (defArgs s_law) (defBody s_law) (defScope s_law) [] [] (He.ga K "law") d_law
  m_law : mg "law" = some (.ref (He.ga K "law"))
  di_NotPossible : FuncData
  Fi_NotPossible : L2.FunD K "__init__" "NotPossible.__init__" (defArgs si_NotPossible) (defBody si_NotPossible) (defScope si_NotPossible) [] [] (He.ma K (He.ga K "NotPossible") "__init__") di_NotPossible
  x_NotPossible : ExC K mg (He.ga K "NotPossible") (He.ma K (He.ga K "NotPossible") "__init__") "NotPossible" "why"
  b_ValueError : mg "ValueError" = none
  b_abs : mg "abs" = none
  b_all : mg "all" = none
  b_bool : mg "bool" = none
  b_enumerate : mg "enumerate" = none
  b_int : mg "int" = none
  b_isinstance : mg "isinstance" = none
  b_len : mg "len" = none
  b_list : mg "list" = none
  b_max : mg "max" = none
  b_min : mg "min" = none
  b_range : mg "range" = none
  b_repr : mg "repr" = none
  b_sorted : mg "sorted" = none
  b_str : mg "str" = none
  b_sum : mg "sum" = none
  b_tuple : mg "tuple" = none
  k_MOST_SIGNS : ∃ t, mg "MOST_SIGNS" = some (.int 12 t)
  k_MOST_COLUMNS : ∃ t, mg "MOST_COLUMNS" = some (.int 24 t)
  k_MOST_PARTS : ∃ t, mg "MOST_PARTS" = some (.int 24 t)
section
variable {P : Program} {w : World} {K : PySem.W.Frag} {mg : Str → Option Value} {base : Heap}
theorem Si_NotPossible : FnScope ["self", "why"] ["self", "why"] (defScope si_NotPossible) := ⟨rfl, rfl, rfl, by decide +kernel, rfl, by decide +kernel, by decide +kernel⟩
theorem oki_NotPossible (T : Top K mg) : FnOk P w K mg base CX0 1 (He.ma K (He.ga K "NotPossible") "__init__") T.di_NotPossible ["self", "why"] (spInit (He.ga K "NotPossible") "why") :=
  init_def T.Fi_NotPossible Si_NotPossible T.x_NotPossible.o T.x_NotPossible.noF fun cdv A outer s H E => pss_one (ps_ost (pv 0) (pv 1) rfl)
/-! ### is_integer: slots 0 value -/
abbrev N_is_integer : List Str := ["value"]
abbrev ps_is_integer : List Str := ["value"]
theorem S_is_integer : FnScope N_is_integer ps_is_integer (defScope s_is_integer) := ⟨rfl, rfl, rfl, by decide +kernel, rfl, by decide +kernel, by decide +kernel⟩
def g_is_integer : Sl → M Out :=
  (sRet (xAnd (xIsi (isT "int") (xVar 0)) (xUn notR (xIsi (isT "bool") (xVar 0)))))
def M_is_integer : Sl → M RV := bodyM 0 g_is_integer
theorem ok_is_integer (T : Top K mg) : FnG P w K mg base CX0 1 (He.ga K "is_integer") T.d_is_integer ps_is_integer (spD K 1 M_is_integer) := by
    have S := S_is_integer

    refine fn_def (k := 0) T.F_is_integer S rfl rfl fun cdv A outer s H E hg hr => ?_
    exact (b_one (s_ret (x_and (x_isi (T' := "int") rfl kit_int (x_var (pv 0)) (by exact rfl) T.b_isinstance (by exact rfl) T.b_int (by decide +kernel)) (x_one (x_not (x_isi (T' := "bool") rfl kit_bool (x_var (pv 0)) (by exact rfl) T.b_isinstance (by exact rfl) T.b_bool (by decide +kernel)))))))
/-! ### is_from_to: slots 0 value 1 least 2 most -/
abbrev N_is_from_to : List Str := ["value", "least", "most"]
abbrev ps_is_from_to : List Str := ["value", "least", "most"]
theorem S_is_from_to : FnScope N_is_from_to ps_is_from_to (defScope s_is_from_to) := ⟨rfl, rfl, rfl, by decide +kernel, rfl, by decide +kernel, by decide +kernel⟩
def g_is_from_to : Sl → M Out :=
  (sRet (xAnd (xFn 1 M_is_integer (aCons (xVar 0) aNil) []) (xChain leR leR (xVar 1) (xVar 0) (xVar 2))))
def M_is_from_to : Sl → M RV := bodyM 0 g_is_from_to
theorem ok_is_from_to (T : Top K mg) : FnG P w K mg base CX0 2 (He.ga K "is_from_to") T.d_is_from_to ps_is_from_to (spD K 3 M_is_from_to) := by
    have S := S_is_from_to
    have c_is_integer := (ok_is_integer (P := P) (w := w) (base := base) T).mono (k := 1) (by omega)
    have b_is_integer_1 := T.F_is_integer.bindsN (ps := ["value"]) fun _ _ _ _ _ _ us hl => match us, hl with | [_], _ => rfl
    have v_is_integer_1 : Vals ([] : List V) [] := .nil
    refine fn_def (k := 1) T.F_is_from_to S rfl rfl fun cdv A outer s H E hg hr => ?_
    exact (b_one (s_ret (x_and (x_fn (dds := []) c_is_integer hg hr (by exact rfl) T.m_is_integer T.F_is_integer.kp b_is_integer_1 v_is_integer_1 (fun _ => .nil) passN (xa_cons (x_var (pv 0)) xa_nil)) (x_one (x_chain o_le o_le (x_var (pv 1)) (x_var (pv 0)) (x_var (pv 2)))))))
/-! ### is_tuple_of: slots 0 value 1 least 2 most -/
abbrev N_is_tuple_of : List Str := ["value", "least", "most"]
abbrev ps_is_tuple_of : List Str := ["value", "least", "most"]
theorem S_is_tuple_of : FnScope N_is_tuple_of ps_is_tuple_of (defScope s_is_tuple_of) := ⟨rfl, rfl, rfl, by decide +kernel, rfl, by decide +kernel, by decide +kernel⟩
def g_is_tuple_of : Sl → M Out :=
  (sRet (xAnd (xIsi (isT "tuple") (xVar 0)) (xChain leR leR (xVar 1) (xCall lenR (aCons (xVar 0) aNil)) (xVar 2))))
def M_is_tuple_of : Sl → M RV := bodyM 0 g_is_tuple_of
theorem ok_is_tuple_of (T : Top K mg) : FnG P w K mg base CX0 1 (He.ga K "is_tuple_of") T.d_is_tuple_of ps_is_tuple_of (spD K 3 M_is_tuple_of) := by
    have S := S_is_tuple_of

    refine fn_def (k := 0) T.F_is_tuple_of S rfl rfl fun cdv A outer s H E hg hr => ?_
    exact (b_one (s_ret (x_and (x_isi (T' := "tuple") rfl kit_tuple (x_var (pv 0)) (by exact rfl) T.b_isinstance (by exact rfl) T.b_tuple (by decide +kernel)) (x_one (x_chain o_le o_le (x_var (pv 1)) (x_callB c_len (by exact rfl) T.b_len (by decide +kernel) (xa_cons (x_var (pv 0)) xa_nil)) (x_var (pv 2)))))))
/-! ### is_ascending: slots 0 rows 1 at -/
abbrev N_is_ascending : List Str := ["rows", "at"]
abbrev ps_is_ascending : List Str := ["rows"]
theorem S_is_ascending : FnScope N_is_ascending ps_is_ascending (defScope s_is_ascending) := ⟨rfl, rfl, rfl, by decide +kernel, rfl, by decide +kernel, by decide +kernel⟩
def g_is_ascending : Sl → M Out :=
  (sRet (xCall allR (aCons (xLc (iRng rng1 (aCons (xBin subR (xCall lenR (aCons (xVar 0) aNil)) (xC (.int 1))) aNil)) [1] (gNm 1) tYesM (xBin ltR (xIx (xVar 0) (xVar 1)) (xIx (xVar 0) (xBin addR (xVar 1) (xC (.int 1)))))) aNil)))
def M_is_ascending : Sl → M RV := bodyM 1 g_is_ascending
theorem ok_is_ascending (T : Top K mg) : FnG P w K mg base CX0 1 (He.ga K "is_ascending") T.d_is_ascending ps_is_ascending (spD K 1 M_is_ascending) := by
    have S := S_is_ascending

    refine fn_def (k := 0) T.F_is_ascending S rfl rfl fun cdv A outer s H E hg hr => ?_
    exact (b_one (s_ret (x_callB (c_all rfl) (by exact rfl) T.b_all (by decide +kernel) (xa_cons (x_lc rfl S.nd (i_rng1 (by exact rfl) T.b_range (xa_cons (x_bin o_sub (x_callB c_len (by exact rfl) T.b_len (by decide +kernel) (xa_cons (x_var (pv 0)) xa_nil)) x_int) xa_nil)) (blkOk_by (own := [("at", 1)]) (by kernel_rfl)) (fun _ _ _ _ _ => (g_name (i := 1) S.nd rfl (by first | exact Or.inl rfl | exact Or.inr rfl))) (fun _ _ _ _ _ => ts_nil) (fun _ _ _ _ _ => (x_cmp (o_lt (room_u hr 64 (by decide))) (x_ix (room_u hr 1 (by decide)) (x_var (pv 0)) (x_var (pv 1))) (x_ix (room_u hr 1 (by decide)) (x_var (pv 0)) (x_bin o_add (x_var (pv 1)) x_int)) (nomark _))) (by decide)) xa_nil))))
/-! ### is_within: slots 0 some 1 many 2 one -/
abbrev N_is_within : List Str := ["some", "many", "one"]
abbrev ps_is_within : List Str := ["some", "many"]
theorem S_is_within : FnScope N_is_within ps_is_within (defScope s_is_within) := ⟨rfl, rfl, rfl, by decide +kernel, rfl, by decide +kernel, by decide +kernel⟩
def g_is_within : Sl → M Out :=
  (sRet (xCall allR (aCons (xLc (iSeq (xVar 0)) [2] (gNm 2) tYesM (xBin inR (xVar 2) (xVar 1))) aNil)))
def M_is_within : Sl → M RV := bodyM 1 g_is_within
theorem ok_is_within (T : Top K mg) : FnG P w K mg base CX0 1 (He.ga K "is_within") T.d_is_within ps_is_within (spD K 2 M_is_within) := by
    have S := S_is_within

    refine fn_def (k := 0) T.F_is_within S rfl rfl fun cdv A outer s H E hg hr => ?_
    exact (b_one (s_ret (x_callB (c_all rfl) (by exact rfl) T.b_all (by decide +kernel) (xa_cons (x_lc rfl S.nd (i_seq (x_var (pv 0))) (blkOk_by (own := [("one", 2)]) (by kernel_rfl)) (fun _ _ _ _ _ => (g_name (i := 2) S.nd rfl (by first | exact Or.inl rfl | exact Or.inr rfl))) (fun _ _ _ _ _ => ts_nil) (fun _ _ _ _ _ => (x_cmp (o_in (room_u hr 65 (by decide))) (x_var (pv 2)) (x_var (pv 1)) (by with_unfolding_all rfl))) (by decide)) xa_nil))))
/-! ### is_column: slots 0 value 1 sign -/
abbrev N_is_column : List Str := ["value", "sign"]
abbrev ps_is_column : List Str := ["value"]
theorem S_is_column : FnScope N_is_column ps_is_column (defScope s_is_column) := ⟨rfl, rfl, rfl, by decide +kernel, rfl, by decide +kernel, by decide +kernel⟩
def g_is_column : Sl → M Out :=
  (sSeq (sIf (tOrM (tNotM (tTru (xIsi (isT "str") (xVar 0)))) (tNotM (tChn leR leR (xC (.int 1)) (xCall lenR (aCons (xVar 0) aNil)) (xC (.int 12))))) (sRet (xC (.bool false))) sNil) (sRet (xAnd (xChain leR leR (xC (.str "a")) (xIx (xVar 0) (xC (.int 0))) (xC (.str "z"))) (xCall allR (aCons (xLc (iSeq (xVar 0)) [1] (gNm 1) tYesM (xOr (xChain leR leR (xC (.str "a")) (xVar 1) (xC (.str "z"))) (xChain leR leR (xC (.str "0")) (xVar 1) (xC (.str "9"))))) aNil)))))
def M_is_column : Sl → M RV := bodyM 1 g_is_column
theorem ok_is_column (T : Top K mg) : FnG P w K mg base CX0 1 (He.ga K "is_column") T.d_is_column ps_is_column (spD K 1 M_is_column) := by
    have S := S_is_column

    refine fn_def (k := 0) T.F_is_column S rfl rfl fun cdv A outer s H E hg hr => ?_
    exact (b_cons (s_if (PXW.t (tw_or (tx_not (tx_tru (x_isi (T' := "str") rfl kit_str (x_var (pv 0)) (by exact rfl) T.b_isinstance (by exact rfl) T.b_str (by decide +kernel)))) (tw_or1 (tx_not (tx_chain o_le o_le x_int (x_callB c_len (by exact rfl) T.b_len (by decide +kernel) (xa_cons (x_var (pv 0)) xa_nil)) (x_const (v := .int 12) (pe_glob (by exact rfl) T.k_MOST_SIGNS.choose_spec ⟨_, rfl⟩) fun _ => .int _)))))) (b_one (s_ret x_bl)) b_nil) (b_one (s_ret (x_and (x_chain o_le o_le x_str (x_ix (room_u hr 1 (by decide)) (x_var (pv 0)) x_int) x_str) (x_one (x_callB (c_all rfl) (by exact rfl) T.b_all (by decide +kernel) (xa_cons (x_lc rfl S.nd (i_seq (x_var (pv 0))) (blkOk_by (own := [("sign", 1)]) (by kernel_rfl)) (fun _ _ _ _ _ => (g_name (i := 1) S.nd rfl (by first | exact Or.inl rfl | exact Or.inr rfl))) (fun _ _ _ _ _ => ts_nil) (fun _ _ _ _ _ => (x_or (x_chain o_le o_le x_str (x_var (pv 1)) x_str) (x_one (x_chain o_le o_le x_str (x_var (pv 1)) x_str)))) (by decide)) xa_nil)))))))
/-! ### is_columns: slots 0 value 1 one -/
abbrev N_is_columns : List Str := ["value", "one"]
abbrev ps_is_columns : List Str := ["value"]
theorem S_is_columns : FnScope N_is_columns ps_is_columns (defScope s_is_columns) := ⟨rfl, rfl, rfl, by decide +kernel, rfl, by decide +kernel, by decide +kernel⟩
def g_is_columns : Sl → M Out :=
  (sRet (xAnd (xFn 3 M_is_tuple_of (aCons (xVar 0) (aCons (xC (.int 1)) (aCons (xC (.int 24)) aNil))) []) (xAnd (xCall allR (aCons (xLc (iSeq (xVar 0)) [1] (gNm 1) tYesM (xFn 1 M_is_column (aCons (xVar 1) aNil) [])) aNil)) (xFn 1 M_is_ascending (aCons (xVar 0) aNil) []))))
def M_is_columns : Sl → M RV := bodyM 1 g_is_columns
theorem ok_is_columns (T : Top K mg) : FnG P w K mg base CX0 2 (He.ga K "is_columns") T.d_is_columns ps_is_columns (spD K 1 M_is_columns) := by
    have S := S_is_columns
    have c_is_ascending := (ok_is_ascending (P := P) (w := w) (base := base) T).mono (k := 1) (by omega)
    have c_is_column := (ok_is_column (P := P) (w := w) (base := base) T).mono (k := 1) (by omega)
    have c_is_tuple_of := (ok_is_tuple_of (P := P) (w := w) (base := base) T).mono (k := 1) (by omega)
    have b_is_ascending_1 := T.F_is_ascending.bindsN (ps := ["rows"]) fun _ _ _ _ _ _ us hl => match us, hl with | [_], _ => rfl
    have v_is_ascending_1 : Vals ([] : List V) [] := .nil
    have b_is_column_1 := T.F_is_column.bindsN (ps := ["value"]) fun _ _ _ _ _ _ us hl => match us, hl with | [_], _ => rfl
    have v_is_column_1 : Vals ([] : List V) [] := .nil
    have b_is_tuple_of_3 := T.F_is_tuple_of.bindsN (ps := ["value", "least", "most"]) fun _ _ _ _ _ _ us hl => match us, hl with | [_, _, _], _ => rfl
    have v_is_tuple_of_3 : Vals ([] : List V) [] := .nil
    refine fn_def (k := 1) T.F_is_columns S rfl rfl fun cdv A outer s H E hg hr => ?_
    exact (b_one (s_ret (x_and (x_fn (dds := []) c_is_tuple_of hg hr (by exact rfl) T.m_is_tuple_of T.F_is_tuple_of.kp b_is_tuple_of_3 v_is_tuple_of_3 (fun _ => .nil) passN (xa_cons (x_var (pv 0)) (xa_cons x_int (xa_cons (x_const (v := .int 24) (pe_glob (by exact rfl) T.k_MOST_COLUMNS.choose_spec ⟨_, rfl⟩) fun _ => .int _) xa_nil)))) (x_and (x_callB (c_all rfl) (by exact rfl) T.b_all (by decide +kernel) (xa_cons (x_lc rfl S.nd (i_seq (x_var (pv 0))) (blkOk_by (own := [("one", 1)]) (by kernel_rfl)) (fun _ _ _ _ _ => (g_name (i := 1) S.nd rfl (by first | exact Or.inl rfl | exact Or.inr rfl))) (fun _ _ _ _ _ => ts_nil) (fun _ _ _ _ _ => (x_fn (dds := []) c_is_column hg hr (by exact rfl) T.m_is_column T.F_is_column.kp b_is_column_1 v_is_column_1 (fun _ => .nil) passN (xa_cons (x_var (pv 1)) xa_nil))) (by decide)) xa_nil)) (x_one (x_fn (dds := []) c_is_ascending hg hr (by exact rfl) T.m_is_ascending T.F_is_ascending.kp b_is_ascending_1 v_is_ascending_1 (fun _ => .nil) passN (xa_cons (x_var (pv 0)) xa_nil)))))))
/-! ### is_some_of: slots 0 columns 1 value 2 least 3 one -/
abbrev N_is_some_of : List Str := ["columns", "value", "least", "one"]
abbrev ps_is_some_of : List Str := ["columns", "value", "least"]
theorem S_is_some_of : FnScope N_is_some_of ps_is_some_of (defScope s_is_some_of) := ⟨rfl, rfl, rfl, by decide +kernel, rfl, by decide +kernel, by decide +kernel⟩
def g_is_some_of : Sl → M Out :=
  (sSeq (sIf (tOrM (tNotM (tTru (xFn 3 M_is_tuple_of (aCons (xVar 1) (aCons (xVar 2) (aCons (xCall lenR (aCons (xVar 0) aNil)) aNil))) []))) (tNotM (tTru (xCall allR (aCons (xLc (iSeq (xVar 1)) [3] (gNm 3) tYesM (xIsi (isT "str") (xVar 3))) aNil))))) (sRet (xC (.bool false))) sNil) (sRet (xAnd (xFn 2 M_is_within (aCons (xVar 1) (aCons (xVar 0) aNil)) []) (xFn 1 M_is_ascending (aCons (xVar 1) aNil) []))))
def M_is_some_of : Sl → M RV := bodyM 1 g_is_some_of
theorem ok_is_some_of (T : Top K mg) : FnG P w K mg base CX0 2 (He.ga K "is_some_of") T.d_is_some_of ps_is_some_of (spD K 3 M_is_some_of) := by
    have S := S_is_some_of
    have c_is_tuple_of := (ok_is_tuple_of (P := P) (w := w) (base := base) T).mono (k := 1) (by omega)
    have c_is_ascending := (ok_is_ascending (P := P) (w := w) (base := base) T).mono (k := 1) (by omega)
    have c_is_within := (ok_is_within (P := P) (w := w) (base := base) T).mono (k := 1) (by omega)
    have b_is_tuple_of_3 := T.F_is_tuple_of.bindsN (ps := ["value", "least", "most"]) fun _ _ _ _ _ _ us hl => match us, hl with | [_, _, _], _ => rfl
    have v_is_tuple_of_3 : Vals ([] : List V) [] := .nil
    have b_is_ascending_1 := T.F_is_ascending.bindsN (ps := ["rows"]) fun _ _ _ _ _ _ us hl => match us, hl with | [_], _ => rfl
    have v_is_ascending_1 : Vals ([] : List V) [] := .nil
    have b_is_within_2 := T.F_is_within.bindsN (ps := ["some", "many"]) fun _ _ _ _ _ _ us hl => match us, hl with | [_, _], _ => rfl
    have v_is_within_2 : Vals ([] : List V) [] := .nil
    refine fn_def (k := 1) T.F_is_some_of S rfl rfl fun cdv A outer s H E hg hr => ?_
    exact (b_cons (s_if (PXW.t (tw_or (tx_not (tx_tru (x_fn (dds := []) c_is_tuple_of hg hr (by exact rfl) T.m_is_tuple_of T.F_is_tuple_of.kp b_is_tuple_of_3 v_is_tuple_of_3 (fun _ => .nil) passN (xa_cons (x_var (pv 1)) (xa_cons (x_var (pv 2)) (xa_cons (x_callB c_len (by exact rfl) T.b_len (by decide +kernel) (xa_cons (x_var (pv 0)) xa_nil)) xa_nil)))))) (tw_or1 (tx_not (tx_tru (x_callB (c_all rfl) (by exact rfl) T.b_all (by decide +kernel) (xa_cons (x_lc rfl S.nd (i_seq (x_var (pv 1))) (blkOk_by (own := [("one", 3)]) (by kernel_rfl)) (fun _ _ _ _ _ => (g_name (i := 3) S.nd rfl (by first | exact Or.inl rfl | exact Or.inr rfl))) (fun _ _ _ _ _ => ts_nil) (fun _ _ _ _ _ => (x_isi (T' := "str") rfl kit_str (x_var (pv 3)) (by exact rfl) T.b_isinstance (by exact rfl) T.b_str (by decide +kernel))) (by decide)) xa_nil))))))) (b_one (s_ret x_bl)) b_nil) (b_one (s_ret (x_and (x_fn (dds := []) c_is_within hg hr (by exact rfl) T.m_is_within T.F_is_within.kp b_is_within_2 v_is_within_2 (fun _ => .nil) passN (xa_cons (x_var (pv 1)) (xa_cons (x_var (pv 0)) xa_nil))) (x_one (x_fn (dds := []) c_is_ascending hg hr (by exact rfl) T.m_is_ascending T.F_is_ascending.kp b_is_ascending_1 v_is_ascending_1 (fun _ => .nil) passN (xa_cons (x_var (pv 1)) xa_nil)))))))
/-! ### check_columns: slots 0 columns 1 name -/
abbrev N_check_columns : List Str := ["columns", "name"]
abbrev ps_check_columns : List Str := ["columns", "name"]
theorem S_check_columns : FnScope N_check_columns ps_check_columns (defScope s_check_columns) := ⟨rfl, rfl, rfl, by decide +kernel, rfl, by decide +kernel, by decide +kernel⟩
def g_check_columns : Sl → M Out :=
  (sIf (tNotM (tTru (xFn 1 M_is_columns (aCons (xVar 0) aNil) []))) sNever sNil)
def M_check_columns : Sl → M RV := bodyM 0 g_check_columns
theorem ok_check_columns (T : Top K mg) : FnG P w K mg base CX0 3 (He.ga K "check_columns") T.d_check_columns ps_check_columns (spD K 2 M_check_columns) := by
    have S := S_check_columns
    have c_is_columns := (ok_is_columns (P := P) (w := w) (base := base) T).mono (k := 2) (by omega)
    have b_is_columns_1 := T.F_is_columns.bindsN (ps := ["value"]) fun _ _ _ _ _ _ us hl => match us, hl with | [_], _ => rfl
    have v_is_columns_1 : Vals ([] : List V) [] := .nil
    have ci_NotPossible := oki_NotPossible (P := P) (w := w) (base := base) T
    have bi_NotPossible := T.Fi_NotPossible.bindsN (ps := ["self", "why"]) fun _ _ _ _ _ _ us hl => match us, hl with | [_, _], _ => rfl
    refine fn_def (k := 2) T.F_check_columns S rfl rfl fun cdv A outer s H E hg hr => ?_
    exact (b_one (s_if (tx_not (tx_tru (x_fn (dds := []) c_is_columns hg hr (by exact rfl) T.m_is_columns T.F_is_columns.kp b_is_columns_1 v_is_columns_1 (fun _ => .nil) passN (xa_cons (x_var (pv 0)) xa_nil)))) (b_one s_never) b_nil))
/-! ### is_cover_over: slots 0 columns 1 value 2 part 3 one -/
abbrev N_is_cover_over : List Str := ["columns", "value", "part", "one"]
abbrev ps_is_cover_over : List Str := ["columns", "value"]
theorem S_is_cover_over : FnScope N_is_cover_over ps_is_cover_over (defScope s_is_cover_over) := ⟨rfl, rfl, rfl, by decide +kernel, rfl, by decide +kernel, by decide +kernel⟩
def g_is_cover_over : Sl → M Out :=
  (sSeq (sIf (tOrM (tNotM (tTru (xFn 3 M_is_tuple_of (aCons (xVar 1) (aCons (xC (.int 1)) (aCons (xC (.int 24)) aNil))) []))) (tNotM (tTru (xCall allR (aCons (xLc (iSeq (xVar 1)) [2] (gNm 2) tYesM (xFn 3 M_is_some_of (aCons (xVar 0) (aCons (xVar 2) (aCons (xC (.int 1)) aNil))) [])) aNil))))) (sRet (xC (.bool false))) sNil) (sRet (xBin eqR (xLenSc2 (iSeq (xVar 1)) [2, 3] (gNm 2) tYesM (iSeq (xVar 2)) [3] (gNm 3) tYesM (xVar 3)) (xCall lenR (aCons (xVar 0) aNil)))))
def M_is_cover_over : Sl → M RV := bodyM 2 g_is_cover_over
theorem ok_is_cover_over (T : Top K mg) : FnG P w K mg base CX0 3 (He.ga K "is_cover_over") T.d_is_cover_over ps_is_cover_over (spD K 2 M_is_cover_over) := by
    have S := S_is_cover_over
    have c_is_some_of := (ok_is_some_of (P := P) (w := w) (base := base) T).mono (k := 2) (by omega)
    have c_is_tuple_of := (ok_is_tuple_of (P := P) (w := w) (base := base) T).mono (k := 2) (by omega)
    obtain ⟨_, v_is_some_of_3, b_is_some_of_3⟩ := T.F_is_some_of.binds1 (ps := ["columns", "value", "least"]) 3 1 (by simp) rfl fun _ _ _ _ _ _ _ us its hu hi => match us, its, hu, hi with | [_, _, _], [_], _, _ => ⟨_, rfl, rfl⟩
    have b_is_tuple_of_3 := T.F_is_tuple_of.bindsN (ps := ["value", "least", "most"]) fun _ _ _ _ _ _ us hl => match us, hl with | [_, _, _], _ => rfl
    have v_is_tuple_of_3 : Vals ([] : List V) [] := .nil
    refine fn_def (k := 2) T.F_is_cover_over S rfl rfl fun cdv A outer s H E hg hr => ?_
    exact (b_cons (s_if (PXW.t (tw_or (tx_not (tx_tru (x_fn (dds := []) c_is_tuple_of hg hr (by exact rfl) T.m_is_tuple_of T.F_is_tuple_of.kp b_is_tuple_of_3 v_is_tuple_of_3 (fun _ => .nil) passN (xa_cons (x_var (pv 1)) (xa_cons x_int (xa_cons (x_const (v := .int 24) (pe_glob (by exact rfl) T.k_MOST_PARTS.choose_spec ⟨_, rfl⟩) fun _ => .int _) xa_nil)))))) (tw_or1 (tx_not (tx_tru (x_callB (c_all rfl) (by exact rfl) T.b_all (by decide +kernel) (xa_cons (x_lc rfl S.nd (i_seq (x_var (pv 1))) (blkOk_by (own := [("part", 2)]) (by kernel_rfl)) (fun _ _ _ _ _ => (g_name (i := 2) S.nd rfl (by first | exact Or.inl rfl | exact Or.inr rfl))) (fun _ _ _ _ _ => ts_nil) (fun _ _ _ _ _ => (x_fn (dds := []) c_is_some_of hg hr (by exact rfl) T.m_is_some_of T.F_is_some_of.kp b_is_some_of_3 v_is_some_of_3 (fun _ => .nil) passN (xa_cons (x_var (pv 0)) (xa_cons (x_var (pv 2)) (xa_cons x_int xa_nil))))) (by decide)) xa_nil))))))) (b_one (s_ret x_bl)) b_nil) (b_one (s_ret (x_cmp (o_eq (room_u hr 64 (by decide))) (x_lenSc2 rfl S.nd (i_seq (x_var (pv 1))) (blkOk_by (own := [("part", 2), ("one", 3)]) (by kernel_rfl)) (vs1 := [3]) (by decide) (fun _ _ _ _ _ => (g_name (i := 2) S.nd rfl (by first | exact Or.inl rfl | exact Or.inr rfl))) (fun _ _ _ _ _ => ts_nil) (fun _ _ _ _ _ => (i_seq (x_var (pv 2)))) (fun _ _ _ _ _ => (g_name (i := 3) S.nd rfl (by first | exact Or.inl rfl | exact Or.inr rfl))) (fun _ _ _ _ _ => ts_nil) (fun _ _ _ _ _ => (x_var (pv 3))) (by decide) (by decide) (fun _ => rfl) (fun _ _ => rfl) (by exact rfl) T.b_len (by exact rfl)) (x_callB c_len (by exact rfl) T.b_len (by decide +kernel) (xa_cons (x_var (pv 0)) xa_nil)) (nomark _)))))
/-! ### check_parts: slots 0 columns 1 parts 2 name -/
abbrev N_check_parts : List Str := ["columns", "parts", "name"]
abbrev ps_check_parts : List Str := ["columns", "parts", "name"]
theorem S_check_parts : FnScope N_check_parts ps_check_parts (defScope s_check_parts) := ⟨rfl, rfl, rfl, by decide +kernel, rfl, by decide +kernel, by decide +kernel⟩
def g_check_parts : Sl → M Out :=
  (sIf (tNotM (tTru (xFn 2 M_is_cover_over (aCons (xVar 0) (aCons (xVar 1) aNil)) []))) sNever sNil)
def M_check_parts : Sl → M RV := bodyM 0 g_check_parts
theorem ok_check_parts (T : Top K mg) : FnG P w K mg base CX0 4 (He.ga K "check_parts") T.d_check_parts ps_check_parts (spD K 3 M_check_parts) := by
    have S := S_check_parts
    have c_is_cover_over := (ok_is_cover_over (P := P) (w := w) (base := base) T).mono (k := 3) (by omega)
    have b_is_cover_over_2 := T.F_is_cover_over.bindsN (ps := ["columns", "value"]) fun _ _ _ _ _ _ us hl => match us, hl with | [_, _], _ => rfl
    have v_is_cover_over_2 : Vals ([] : List V) [] := .nil
    have ci_NotPossible := oki_NotPossible (P := P) (w := w) (base := base) T
    have bi_NotPossible := T.Fi_NotPossible.bindsN (ps := ["self", "why"]) fun _ _ _ _ _ _ us hl => match us, hl with | [_, _], _ => rfl
    refine fn_def (k := 3) T.F_check_parts S rfl rfl fun cdv A outer s H E hg hr => ?_
    exact (b_one (s_if (tx_not (tx_tru (x_fn (dds := []) c_is_cover_over hg hr (by exact rfl) T.m_is_cover_over T.F_is_cover_over.kp b_is_cover_over_2 v_is_cover_over_2 (fun _ => .nil) passN (xa_cons (x_var (pv 0)) (xa_cons (x_var (pv 1)) xa_nil))))) (b_one s_never) b_nil))
/-! ### part_bits: slots 0 columns 1 parts 2 places 3 part 4 at 5 column -/
abbrev N_part_bits : List Str := ["columns", "parts", "places", "part", "at", "column"]
abbrev ps_part_bits : List Str := ["columns", "parts"]
theorem S_part_bits : FnScope N_part_bits ps_part_bits (defScope s_part_bits) := ⟨rfl, rfl, rfl, by decide +kernel, rfl, by decide +kernel, by decide +kernel⟩
def g_part_bits : Sl → M Out :=
  (sSeq (sSetF 2 (xDc (iRng enum1 (aCons (xVar 0) aNil)) [4, 5] (gTp 2 (gsCons (gNm 4) (gsCons (gNm 5) gsNil))) tYesM (xVar 5) (xBin shlR (xC (.int 1)) (xVar 4)))) (sRet (xLc (iSeq (xVar 1)) [3] (gNm 3) tYesM (xCall sumR (aCons (xLc (iSeq (xVar 3)) [5] (gNm 5) tYesM (xIx (xVar 2) (xVar 5))) aNil)))))
def M_part_bits : Sl → M RV := bodyM 4 g_part_bits
theorem ok_part_bits (T : Top K mg) : FnG P w K mg base CX0 1 (He.ga K "part_bits") T.d_part_bits ps_part_bits (spD K 2 M_part_bits) := by
    have S := S_part_bits

    refine fn_def (k := 0) T.F_part_bits S rfl rfl fun cdv A outer s H E hg hr => ?_
    exact (b_cons (s_setF (i := 2) S.nd rfl (by first | exact Or.inl rfl | exact Or.inr rfl) (x_dc rfl S.nd (i_enum (by exact rfl) T.b_enumerate (xa_cons (x_var (pv 0)) xa_nil)) (blkOk_by (own := [("at", 4), ("column", 5)]) (by kernel_rfl)) (fun _ _ _ _ _ => (g_tup rfl (gs_cons (g_name (i := 4) S.nd rfl (by first | exact Or.inl rfl | exact Or.inr rfl)) (gs_cons (g_name (i := 5) S.nd rfl (by first | exact Or.inl rfl | exact Or.inr rfl)) gs_nil)))) (fun _ _ _ _ _ => ts_nil) (fun _ _ _ _ _ => (x_var (pv 5))) (fun _ _ _ _ _ => (x_bin o_shl x_int (x_var (pv 4)))) (by decide))) (b_one (s_ret (x_lc rfl S.nd (i_seq (x_var (pv 1))) (blkOk_by (own := [("part", 3)]) (by kernel_rfl)) (fun _ _ _ _ _ => (g_name (i := 3) S.nd rfl (by first | exact Or.inl rfl | exact Or.inr rfl))) (fun _ _ _ _ _ => ts_nil) (fun _ _ _ _ _ => (x_callB (c_sum rfl) (by exact rfl) T.b_sum (by decide +kernel) (xa_cons (x_lc rfl S.nd (i_seq (x_var (pv 3))) (blkOk_by (own := [("column", 5)]) (by kernel_rfl)) (fun _ _ _ _ _ => (g_name (i := 5) S.nd rfl (by first | exact Or.inl rfl | exact Or.inr rfl))) (fun _ _ _ _ _ => ts_nil) (fun _ _ _ _ _ => (x_ix (room_u hr 1 (by decide)) (x_var (pv 2)) (x_var (pv 5)))) (by decide)) xa_nil))) (by decide)))))
/-! ### near_bits: slots 0 parts 1 many 2 found 3 part 4 at 5 bits -/
abbrev N_near_bits : List Str := ["parts", "many", "found", "part", "at", "bits"]
abbrev ps_near_bits : List Str := ["parts", "many"]
theorem S_near_bits : FnScope N_near_bits ps_near_bits (defScope s_near_bits) := ⟨rfl, rfl, rfl, by decide +kernel, rfl, by decide +kernel, by decide +kernel⟩
def g_near_bits : Sl → M Out :=
  (sSeq (sSet 2 (xBin mulR (xLst (aCons (xC (.int 0)) aNil)) (xVar 1))) (sSeq (sFor (iSeq (xVar 0)) (gNm 3) (sFor (iRng rng1 (aCons (xVar 1) aNil)) (gNm 4) (sIf (tTru (xBin bandR (xBin shrR (xVar 3) (xVar 4)) (xC (.int 1)))) (sStore 2 (xVar 4) (xBin borR (xIx (xVar 2) (xVar 4)) (xVar 3))) sNil))) (sRet (xLc (iRng enum1 (aCons (xVar 2) aNil)) [4, 5] (gTp 2 (gsCons (gNm 4) (gsCons (gNm 5) gsNil))) tYesM (xBin bandR (xVar 5) (xUn invR (xBin shlR (xC (.int 1)) (xVar 4))))))))
def M_near_bits : Sl → M RV := bodyM 4 g_near_bits
theorem ok_near_bits (T : Top K mg) : FnG P w K mg base CX0 1 (He.ga K "near_bits") T.d_near_bits ps_near_bits (spD K 2 M_near_bits) := by
    have S := S_near_bits

    refine fn_def (k := 0) T.F_near_bits S rfl rfl fun cdv A outer s H E hg hr => ?_
    exact (b_cons (s_set (i := 2) S.nd rfl (by first | exact Or.inl rfl | exact Or.inr rfl) (x_bin o_mul (x_lst (xa_cons x_int xa_nil)) (x_var (pv 1)))) (b_cons (s_for no_own rfl (i_seq (x_var (pv 0))) (g_name (i := 3) S.nd rfl (by first | exact Or.inl rfl | exact Or.inr rfl)) (b_one (s_for no_own rfl (i_rng1 (by exact rfl) T.b_range (xa_cons (x_var (pv 1)) xa_nil)) (g_name (i := 4) S.nd rfl (by first | exact Or.inl rfl | exact Or.inr rfl)) (b_one (s_if (tx_tru (x_bin o_band (x_bin o_shr (x_var (pv 3)) (x_var (pv 4))) x_int)) (b_one (s_store (room_u hr 1 (by decide)) (pv 2) (x_var (pv 4)) (x_bin o_bor (x_ix (room_u hr 1 (by decide)) (x_var (pv 2)) (x_var (pv 4))) (x_var (pv 3))))) b_nil))))) (b_one (s_ret (x_lc rfl S.nd (i_enum (by exact rfl) T.b_enumerate (xa_cons (x_var (pv 2)) xa_nil)) (blkOk_by (own := [("at", 4), ("bits", 5)]) (by kernel_rfl)) (fun _ _ _ _ _ => (g_tup rfl (gs_cons (g_name (i := 4) S.nd rfl (by first | exact Or.inl rfl | exact Or.inr rfl)) (gs_cons (g_name (i := 5) S.nd rfl (by first | exact Or.inl rfl | exact Or.inr rfl)) gs_nil)))) (fun _ _ _ _ _ => ts_nil) (fun _ _ _ _ _ => (x_bin o_band (x_var (pv 5)) (x_un o_inv (x_bin o_shl x_int (x_var (pv 4)))))) (by decide))))))
/-! ### check_cover: slots 0 columns 1 parts -/
abbrev N_check_cover : List Str := ["columns", "parts"]
abbrev ps_check_cover : List Str := ["columns", "parts"]
theorem S_check_cover : FnScope N_check_cover ps_check_cover (defScope s_check_cover) := ⟨rfl, rfl, rfl, by decide +kernel, rfl, by decide +kernel, by decide +kernel⟩
def g_check_cover : Sl → M Out :=
  (sSeq (sExpr (xFn 2 M_check_columns (aCons (xVar 0) aNil) [.str "columns"])) (sExpr (xFn 3 M_check_parts (aCons (xVar 0) (aCons (xVar 1) aNil)) [.str "parts"])))
def M_check_cover : Sl → M RV := bodyM 0 g_check_cover
theorem ok_check_cover (T : Top K mg) : FnG P w K mg base CX0 5 (He.ga K "check_cover") T.d_check_cover ps_check_cover (spD K 2 M_check_cover) := by
    have S := S_check_cover
    have c_check_columns := (ok_check_columns (P := P) (w := w) (base := base) T).mono (k := 4) (by omega)
    have c_check_parts := (ok_check_parts (P := P) (w := w) (base := base) T).mono (k := 4) (by omega)
    obtain ⟨_, v_check_columns_1, b_check_columns_1⟩ := T.F_check_columns.binds1 (ps := ["columns", "name"]) 1 0 (by simp) rfl fun _ _ _ _ _ _ _ us its hu hi => match us, its, hu, hi with | [_], [_], _, _ => ⟨_, rfl, rfl⟩
    obtain ⟨_, v_check_parts_2, b_check_parts_2⟩ := T.F_check_parts.binds1 (ps := ["columns", "parts", "name"]) 2 0 (by simp) rfl fun _ _ _ _ _ _ _ us its hu hi => match us, its, hu, hi with | [_, _], [_], _, _ => ⟨_, rfl, rfl⟩
    refine fn_def (k := 4) T.F_check_cover S rfl rfl fun cdv A outer s H E hg hr => ?_
    exact (b_cons (s_expr (x_fn (dds := [.str "columns"]) c_check_columns hg hr (by exact rfl) T.m_check_columns T.F_check_columns.kp b_check_columns_1 v_check_columns_1 (fun _ => .cons (.str _) (.nil)) passN (xa_cons (x_var (pv 0)) xa_nil))) (b_one (s_expr (x_fn (dds := [.str "parts"]) c_check_parts hg hr (by exact rfl) T.m_check_parts T.F_check_parts.kp b_check_parts_2 v_check_parts_2 (fun _ => .cons (.str _) (.nil)) passN (xa_cons (x_var (pv 0)) (xa_cons (x_var (pv 1)) xa_nil))))))
/-! ### taken_among: slots 0 rows 1 many 2 near 3 left 4 found 5 step 6 at 7 whole 8 held 9 number 10 row -/
abbrev N_taken_among : List Str := ["rows", "many", "near", "left", "found", "step", "at", "whole", "held", "number", "row"]
abbrev ps_taken_among : List Str := ["rows", "many"]
theorem S_taken_among : FnScope N_taken_among ps_taken_among (defScope s_taken_among) := ⟨rfl, rfl, rfl, by decide +kernel, rfl, by decide +kernel, by decide +kernel⟩
def g_taken_among : Sl → M Out :=
  (sSeq (sPar3 2 3 4 (xFn 2 M_near_bits (aCons (xVar 0) (aCons (xVar 1) aNil)) []) (xBin subR (xBin shlR (xC (.int 1)) (xVar 1)) (xC (.int 1))) (xLst aNil)) (sSeq (whileL (tTru (xVar 3)) (sSeq (sSetF 5 (xC .none)) (sSeq (sFor (iRng rng1 (aCons (xVar 1) aNil)) (gNm 6) (sIf (tAndM (tBin isNR (xVar 5) (xC .none)) (tTru (xBin bandR (xBin shrR (xVar 3) (xVar 6)) (xC (.int 1))))) (sSeq (sSetF 7 (xBin bandR (xBin borR (xIx (xVar 2) (xVar 6)) (xBin shlR (xC (.int 1)) (xVar 6))) (xVar 3))) (sSeq (sSetF 8 (xLc (iRng enum1 (aCons (xVar 0) aNil)) [9, 10] (gTp 2 (gsCons (gNm 9) (gsCons (gNm 10) gsNil))) (tBin eqR (xBin bandR (xVar 7) (xUn invR (xVar 10))) (xC (.int 0))) (xVar 9))) (sIf (tTru (xVar 8)) (sSetF 5 (xTup (aCons (xVar 6) (aCons (xIx (xVar 8) (xC (.int 0))) aNil)))) sNil))) sNil)) (sSeq (sIf (tBin isNR (xVar 5) (xC .none)) (sRet (xC .none)) sNil) (sSeq (sApp 4 (xVar 5)) (sSetF 3 (xBin bandR (xVar 3) (xUn invR (xBin shlR (xC (.int 1)) (xIx (xVar 5) (xC (.int 0))))))))))) 100000) (sRet (xVar 4))))
def M_taken_among : Sl → M RV := bodyM 9 g_taken_among
theorem ok_taken_among (T : Top K mg) : FnG P w K mg base CX0 2 (He.ga K "taken_among") T.d_taken_among ps_taken_among (spD K 2 M_taken_among) := by
    have S := S_taken_among
    have c_near_bits := (ok_near_bits (P := P) (w := w) (base := base) T).mono (k := 1) (by omega)
    have b_near_bits_2 := T.F_near_bits.bindsN (ps := ["parts", "many"]) fun _ _ _ _ _ _ us hl => match us, hl with | [_, _], _ => rfl
    have v_near_bits_2 : Vals ([] : List V) [] := .nil
    refine fn_def (k := 1) T.F_taken_among S rfl rfl fun cdv A outer s H E hg hr => ?_
    exact (b_cons (s_par3 (i := 2) (j := 3) (l := 4) rfl S.nd rfl rfl rfl (by decide) (by decide) (by decide) rfl rfl rfl (x_fn (dds := []) c_near_bits hg hr (by exact rfl) T.m_near_bits T.F_near_bits.kp b_near_bits_2 v_near_bits_2 (fun _ => .nil) passN (xa_cons (x_var (pv 0)) (xa_cons (x_var (pv 1)) xa_nil))) (x_bin o_sub (x_bin o_shl x_int (x_var (pv 1))) x_int) (x_lst xa_nil) rfl) (b_cons (s_while (n := 100000) no_own (tx_tru (x_var (pv 3))) (b_cons (s_setF (i := 5) S.nd rfl (by first | exact Or.inl rfl | exact Or.inr rfl) x_non) (b_cons (s_for no_own rfl (i_rng1 (by exact rfl) T.b_range (xa_cons (x_var (pv 1)) xa_nil)) (g_name (i := 6) S.nd rfl (by first | exact Or.inl rfl | exact Or.inr rfl)) (b_one (s_if (PXW.t (tw_and (tx_cmp o_isN (x_var (pv 5)) x_non (nomark _)) (tw_and1 (tx_tru (x_bin o_band (x_bin o_shr (x_var (pv 3)) (x_var (pv 6))) x_int))))) (b_cons (s_setF (i := 7) S.nd rfl (by first | exact Or.inl rfl | exact Or.inr rfl) (x_bin o_band (x_bin o_bor (x_ix (room_u hr 1 (by decide)) (x_var (pv 2)) (x_var (pv 6))) (x_bin o_shl x_int (x_var (pv 6)))) (x_var (pv 3)))) (b_cons (s_setLcF (i := 8) rfl S.nd rfl rfl rfl (i_enum (by exact rfl) T.b_enumerate (xa_cons (x_var (pv 0)) xa_nil)) (blkOk_by (own := [("number", 9), ("row", 10)]) (by kernel_rfl)) (fun _ _ _ _ _ => (g_tup rfl (gs_cons (g_name (i := 9) S.nd rfl (by first | exact Or.inl rfl | exact Or.inr rfl)) (gs_cons (g_name (i := 10) S.nd rfl (by first | exact Or.inl rfl | exact Or.inr rfl)) gs_nil)))) (fun _ _ _ _ _ => (ts_one (tx_cmp (o_eq (room_u hr 64 (by decide))) (x_bin o_band (x_var (pv 7)) (x_un o_inv (x_var (pv 10)))) x_int (nomark _)))) (fun _ _ _ _ _ => (x_var (pv 9))) (by decide) (fun _ => rfl)) (b_one (s_if (tx_tru (x_var (pv 8))) (b_one (s_setF (i := 5) S.nd rfl (by first | exact Or.inl rfl | exact Or.inr rfl) (x_tup (xa_cons (x_var (pv 6)) (xa_cons (x_ix (room_u hr 1 (by decide)) (x_var (pv 8)) x_int) xa_nil))))) b_nil)))) b_nil))) (b_cons (s_if (tx_cmp o_isN (x_var (pv 5)) x_non (nomark _)) (b_one (s_ret x_non)) b_nil) (b_cons (s_app (pv 4) (x_var (pv 5))) (b_one (s_setF (i := 3) S.nd rfl (by first | exact Or.inl rfl | exact Or.inr rfl) (x_bin o_band (x_var (pv 3)) (x_un o_inv (x_bin o_shl x_int (x_ix (room_u hr 1 (by decide)) (x_var (pv 5)) x_int))))))))))) (b_one (s_ret (x_var (pv 4))))))
/-! ### taking_out: slots 0 columns 1 parts 2 found 3 at 4 number -/
abbrev N_taking_out : List Str := ["columns", "parts", "found", "at", "number"]
abbrev ps_taking_out : List Str := ["columns", "parts"]
theorem S_taking_out : FnScope N_taking_out ps_taking_out (defScope s_taking_out) := ⟨rfl, rfl, rfl, by decide +kernel, rfl, by decide +kernel, by decide +kernel⟩
def g_taking_out : Sl → M Out :=
  (sSeq (sExpr (xFn 2 M_check_cover (aCons (xVar 0) (aCons (xVar 1) aNil)) [])) (sSeq (sSetF 2 (xFn 2 M_taken_among (aCons (xFn 2 M_part_bits (aCons (xVar 0) (aCons (xVar 1) aNil)) []) (aCons (xCall lenR (aCons (xVar 0) aNil)) aNil)) [])) (sSeq (sIf (tBin isNR (xVar 2) (xC .none)) (sRaise "NotPossible" "why" (xC (.str "cyclic"))) sNil) (sRet (xCall tupleR (aCons (xLc (iSeq (xVar 2)) [3, 4] (gTp 2 (gsCons (gNm 3) (gsCons (gNm 4) gsNil))) tYesM (xTup (aCons (xIx (xVar 0) (xVar 3)) (aCons (xVar 4) aNil)))) aNil))))))
def M_taking_out : Sl → M RV := bodyX 3 g_taking_out
theorem ok_taking_out (T : Top K mg) : FnG P w K mg base (L2.CX P w) 6 (He.ga K "taking_out") T.d_taking_out ps_taking_out (spD K 2 M_taking_out) := by
    have S := S_taking_out
    have c_check_cover := (ok_check_cover (P := P) (w := w) (base := base) T).mono (k := 5) (by omega)
    have c_part_bits := (ok_part_bits (P := P) (w := w) (base := base) T).mono (k := 5) (by omega)
    have c_taken_among := (ok_taken_among (P := P) (w := w) (base := base) T).mono (k := 5) (by omega)
    have b_check_cover_2 := T.F_check_cover.bindsN (ps := ["columns", "parts"]) fun _ _ _ _ _ _ us hl => match us, hl with | [_, _], _ => rfl
    have v_check_cover_2 : Vals ([] : List V) [] := .nil
    have b_part_bits_2 := T.F_part_bits.bindsN (ps := ["columns", "parts"]) fun _ _ _ _ _ _ us hl => match us, hl with | [_, _], _ => rfl
    have v_part_bits_2 : Vals ([] : List V) [] := .nil
    have b_taken_among_2 := T.F_taken_among.bindsN (ps := ["rows", "many"]) fun _ _ _ _ _ _ us hl => match us, hl with | [_, _], _ => rfl
    have v_taken_among_2 : Vals ([] : List V) [] := .nil
    have ci_NotPossible := oki_NotPossible (P := P) (w := w) (base := base) T
    have bi_NotPossible := T.Fi_NotPossible.bindsN (ps := ["self", "why"]) fun _ _ _ _ _ _ us hl => match us, hl with | [_, _], _ => rfl
    refine fn_defX (k := 5) T.F_taking_out S rfl rfl fun cdv A outer s H E hg hr tk => ?_
    exact (b_cons (s_expr (x_fn (dds := []) c_check_cover hg hr (by exact rfl) T.m_check_cover T.F_check_cover.kp b_check_cover_2 v_check_cover_2 (fun _ => .nil) passN (xa_cons (x_var (pv 0)) (xa_cons (x_var (pv 1)) xa_nil)))) (b_cons (s_setF (i := 2) S.nd rfl (by first | exact Or.inl rfl | exact Or.inr rfl) (x_fn (dds := []) c_taken_among hg hr (by exact rfl) T.m_taken_among T.F_taken_among.kp b_taken_among_2 v_taken_among_2 (fun _ => .nil) passN (xa_cons (x_fn (dds := []) c_part_bits hg hr (by exact rfl) T.m_part_bits T.F_part_bits.kp b_part_bits_2 v_part_bits_2 (fun _ => .nil) passN (xa_cons (x_var (pv 0)) (xa_cons (x_var (pv 1)) xa_nil))) (xa_cons (x_callB c_len (by exact rfl) T.b_len (by decide +kernel) (xa_cons (x_var (pv 0)) xa_nil)) xa_nil)))) (b_cons (s_if (tx_cmp o_isN (x_var (pv 2)) x_non (nomark _)) (b_one (s_raise rfl tk T.x_NotPossible ci_NotPossible (hr.mono (by decide)) bi_NotPossible (by exact rfl) x_str)) b_nil) (b_one (s_ret (x_callTy c_tuple (by exact rfl) T.b_tuple (by decide +kernel) (xa_cons (x_lc rfl S.nd (i_seq (x_var (pv 2))) (blkOk_by (own := [("at", 3), ("number", 4)]) (by kernel_rfl)) (fun _ _ _ _ _ => (g_tup rfl (gs_cons (g_name (i := 3) S.nd rfl (by first | exact Or.inl rfl | exact Or.inr rfl)) (gs_cons (g_name (i := 4) S.nd rfl (by first | exact Or.inl rfl | exact Or.inr rfl)) gs_nil)))) (fun _ _ _ _ _ => ts_nil) (fun _ _ _ _ _ => (x_tup (xa_cons (x_ix (room_u hr 1 (by decide)) (x_var (pv 0)) (x_var (pv 3))) (xa_cons (x_var (pv 4)) xa_nil)))) (by decide)) xa_nil)))))))
/-! ### accepts_taking_out: slots 0 columns 1 parts 2 value 3 many 4 rows 5 near 6 left 7 column 8 number 9 at 10 step -/
abbrev N_accepts_taking_out : List Str := ["columns", "parts", "value", "many", "rows", "near", "left", "column", "number", "at", "step"]
abbrev ps_accepts_taking_out : List Str := ["columns", "parts", "value"]
theorem S_accepts_taking_out : FnScope N_accepts_taking_out ps_accepts_taking_out (defScope s_accepts_taking_out) := ⟨rfl, rfl, rfl, by decide +kernel, rfl, by decide +kernel, by decide +kernel⟩
def g_accepts_taking_out : Sl → M Out :=
  (sSeq (sExpr (xFn 2 M_check_cover (aCons (xVar 0) (aCons (xVar 1) aNil)) [])) (sSeq (sPar 3 4 (xCall lenR (aCons (xVar 0) aNil)) (xFn 2 M_part_bits (aCons (xVar 0) (aCons (xVar 1) aNil)) [])) (sSeq (sFrz 4 (sFrz 3 (sIf (tOrM (tNotM (tTru (xFn 3 M_is_tuple_of (aCons (xVar 2) (aCons (xVar 3) (aCons (xVar 3) aNil))) []))) (tNotM (tTru (xCall allR (aCons (xLc (iSeq (xVar 2)) [10] (gNm 10) tYesM (xFn 3 M_is_tuple_of (aCons (xVar 10) (aCons (xC (.int 2)) (aCons (xC (.int 2)) aNil))) [])) aNil))))) (sRet (xC (.bool false))) sNil))) (sSeq (sPar 5 6 (xFn 2 M_near_bits (aCons (xVar 4) (aCons (xVar 3) aNil)) []) (xBin subR (xBin shlR (xC (.int 1)) (xVar 3)) (xC (.int 1)))) (sSeq (sFrz 5 (sFor (iSeq (xVar 2)) (gTp 2 (gsCons (gNm 7) (gsCons (gNm 8) gsNil))) (sSeq (sIf (tOrM (tNotM (tTru (xIsi (isT "str") (xVar 7)))) (tOrM (tBin notInR (xVar 7) (xVar 0)) (tNotM (tTru (xFn 3 M_is_from_to (aCons (xVar 8) (aCons (xC (.int 0)) (aCons (xBin subR (xCall lenR (aCons (xVar 4) aNil)) (xC (.int 1))) aNil))) []))))) (sRet (xC (.bool false))) sNil) (sSeq (sSetF 9 (xIndex (xVar 0) (xVar 7))) (sSeq (sIf (tOrM (tBin eqR (xBin bandR (xBin shrR (xVar 6) (xVar 9)) (xC (.int 1))) (xC (.int 0))) (tBin neR (xBin bandR (xBin bandR (xBin borR (xIx (xVar 5) (xVar 9)) (xBin shlR (xC (.int 1)) (xVar 9))) (xVar 6)) (xUn invR (xIx (xVar 4) (xVar 8)))) (xC (.int 0)))) (sRet (xC (.bool false))) sNil) (sSetF 6 (xBin bandR (xVar 6) (xUn invR (xBin shlR (xC (.int 1)) (xVar 9)))))))))) (sRet (xC (.bool true))))))))
def M_accepts_taking_out : Sl → M RV := bodyM 8 g_accepts_taking_out
theorem ok_accepts_taking_out (T : Top K mg) : FnG P w K mg base CX0 6 (He.ga K "accepts_taking_out") T.d_accepts_taking_out ps_accepts_taking_out (spD K 3 M_accepts_taking_out) := by
    have S := S_accepts_taking_out
    have c_check_cover := (ok_check_cover (P := P) (w := w) (base := base) T).mono (k := 5) (by omega)
    have c_part_bits := (ok_part_bits (P := P) (w := w) (base := base) T).mono (k := 5) (by omega)
    have c_is_tuple_of := (ok_is_tuple_of (P := P) (w := w) (base := base) T).mono (k := 5) (by omega)
    have c_near_bits := (ok_near_bits (P := P) (w := w) (base := base) T).mono (k := 5) (by omega)
    have c_is_from_to := (ok_is_from_to (P := P) (w := w) (base := base) T).mono (k := 5) (by omega)
    have b_check_cover_2 := T.F_check_cover.bindsN (ps := ["columns", "parts"]) fun _ _ _ _ _ _ us hl => match us, hl with | [_, _], _ => rfl
    have v_check_cover_2 : Vals ([] : List V) [] := .nil
    have b_part_bits_2 := T.F_part_bits.bindsN (ps := ["columns", "parts"]) fun _ _ _ _ _ _ us hl => match us, hl with | [_, _], _ => rfl
    have v_part_bits_2 : Vals ([] : List V) [] := .nil
    have b_is_tuple_of_3 := T.F_is_tuple_of.bindsN (ps := ["value", "least", "most"]) fun _ _ _ _ _ _ us hl => match us, hl with | [_, _, _], _ => rfl
    have v_is_tuple_of_3 : Vals ([] : List V) [] := .nil
    have b_near_bits_2 := T.F_near_bits.bindsN (ps := ["parts", "many"]) fun _ _ _ _ _ _ us hl => match us, hl with | [_, _], _ => rfl
    have v_near_bits_2 : Vals ([] : List V) [] := .nil
    have b_is_from_to_3 := T.F_is_from_to.bindsN (ps := ["value", "least", "most"]) fun _ _ _ _ _ _ us hl => match us, hl with | [_, _, _], _ => rfl
    have v_is_from_to_3 : Vals ([] : List V) [] := .nil
    refine fn_def (k := 5) T.F_accepts_taking_out S rfl rfl fun cdv A outer s H E hg hr => ?_
    exact (b_cons (s_expr (x_fn (dds := []) c_check_cover hg hr (by exact rfl) T.m_check_cover T.F_check_cover.kp b_check_cover_2 v_check_cover_2 (fun _ => .nil) passN (xa_cons (x_var (pv 0)) (xa_cons (x_var (pv 1)) xa_nil)))) (b_cons (s_par (i := 3) (j := 4) rfl S.nd rfl rfl (by decide) rfl rfl (x_callB c_len (by exact rfl) T.b_len (by decide +kernel) (xa_cons (x_var (pv 0)) xa_nil)) (x_fn (dds := []) c_part_bits hg hr (by exact rfl) T.m_part_bits T.F_part_bits.kp b_part_bits_2 v_part_bits_2 (fun _ => .nil) passN (xa_cons (x_var (pv 0)) (xa_cons (x_var (pv 1)) xa_nil))) rfl) (b_cons (s_frz 4 (s_frz 3 (s_if (PXW.t (tw_or (tx_not (tx_tru (x_fn (dds := []) c_is_tuple_of hg hr (by exact rfl) T.m_is_tuple_of T.F_is_tuple_of.kp b_is_tuple_of_3 v_is_tuple_of_3 (fun _ => .nil) passN (xa_cons (x_var (pv 2)) (xa_cons (x_var (pv 3)) (xa_cons (x_var (pv 3)) xa_nil)))))) (tw_or1 (tx_not (tx_tru (x_callB (c_all rfl) (by exact rfl) T.b_all (by decide +kernel) (xa_cons (x_lc rfl S.nd (i_seq (x_var (pv 2))) (blkOk_by (own := [("step", 10)]) (by kernel_rfl)) (fun _ _ _ _ _ => (g_name (i := 10) S.nd rfl (by first | exact Or.inl rfl | exact Or.inr rfl))) (fun _ _ _ _ _ => ts_nil) (fun _ _ _ _ _ => (x_fn (dds := []) c_is_tuple_of hg hr (by exact rfl) T.m_is_tuple_of T.F_is_tuple_of.kp b_is_tuple_of_3 v_is_tuple_of_3 (fun _ => .nil) passN (xa_cons (x_var (pv 10)) (xa_cons x_int (xa_cons x_int xa_nil))))) (by decide)) xa_nil))))))) (b_one (s_ret x_bl)) b_nil))) (b_cons (s_par (i := 5) (j := 6) rfl S.nd rfl rfl (by decide) rfl rfl (x_fn (dds := []) c_near_bits hg hr (by exact rfl) T.m_near_bits T.F_near_bits.kp b_near_bits_2 v_near_bits_2 (fun _ => .nil) passN (xa_cons (x_var (pv 4)) (xa_cons (x_var (pv 3)) xa_nil))) (x_bin o_sub (x_bin o_shl x_int (x_var (pv 3))) x_int) rfl) (b_cons (s_frz 5 (s_for no_own rfl (i_seq (x_var (pv 2))) (g_tup rfl (gs_cons (g_name (i := 7) S.nd rfl (by first | exact Or.inl rfl | exact Or.inr rfl)) (gs_cons (g_name (i := 8) S.nd rfl (by first | exact Or.inl rfl | exact Or.inr rfl)) gs_nil))) (b_cons (s_if (PXW.t (tw_or (tx_not (tx_tru (x_isi (T' := "str") rfl kit_str (x_var (pv 7)) (by exact rfl) T.b_isinstance (by exact rfl) T.b_str (by decide +kernel)))) (tw_or (tx_cmp (o_notIn (room_u hr 65 (by decide))) (x_var (pv 7)) (x_var (pv 0)) (by with_unfolding_all rfl)) (tw_or1 (tx_not (tx_tru (x_fn (dds := []) c_is_from_to hg hr (by exact rfl) T.m_is_from_to T.F_is_from_to.kp b_is_from_to_3 v_is_from_to_3 (fun _ => .nil) passN (xa_cons (x_var (pv 8)) (xa_cons x_int (xa_cons (x_bin o_sub (x_callB c_len (by exact rfl) T.b_len (by decide +kernel) (xa_cons (x_var (pv 4)) xa_nil)) x_int) xa_nil)))))))))) (b_one (s_ret x_bl)) b_nil) (b_cons (s_setF (i := 9) S.nd rfl (by first | exact Or.inl rfl | exact Or.inr rfl) (x_index (x_var (pv 0)) (x_var (pv 7)))) (b_cons (s_if (PXW.t (tw_or (tx_cmp (o_eq (room_u hr 64 (by decide))) (x_bin o_band (x_bin o_shr (x_var (pv 6)) (x_var (pv 9))) x_int) x_int (nomark _)) (tw_or1 (tx_cmp (o_ne (room_u hr 64 (by decide))) (x_bin o_band (x_bin o_band (x_bin o_bor (x_ix (room_u hr 1 (by decide)) (x_var (pv 5)) (x_var (pv 9))) (x_bin o_shl x_int (x_var (pv 9)))) (x_var (pv 6))) (x_un o_inv (x_ix (room_u hr 1 (by decide)) (x_var (pv 4)) (x_var (pv 8))))) x_int (nomark _))))) (b_one (s_ret x_bl)) b_nil) (b_one (s_setF (i := 6) S.nd rfl (by first | exact Or.inl rfl | exact Or.inr rfl) (x_bin o_band (x_var (pv 6)) (x_un o_inv (x_bin o_shl x_int (x_var (pv 9)))))))))))) (b_one (s_ret x_bl)))))))
theorem S__law_stream : FnScope ["script"] ["script"] (defScope s__law_stream) := ⟨rfl, rfl, rfl, by decide +kernel, rfl, by decide +kernel, by decide +kernel⟩
theorem ok__law_stream (T : Top K mg) : FnG P w K mg base CX0 1 (He.ga K "_law_stream") T.d__law_stream ["script"] (spStream K) :=
  stream_def T.F__law_stream S__law_stream fun cdv A outer s H E hg hr => pss_one (ps_ret (pe_lst (pa_cons (pe_callTy call_list_of (by exact rfl) T.b_list (by decide +kernel) (pa_cons (pv 0) pa_nil)) (pa_cons pe_int (pa_cons pe_int pa_nil)))))
/-! ### _law_next: slots 0 stream 1 many 2 digit 3 k 4 cell -/
abbrev N__law_next : List Str := ["stream", "many", "digit", "k", "cell"]
abbrev ps__law_next : List Str := ["stream", "many"]
theorem S__law_next : FnScope N__law_next ps__law_next (defScope s__law_next) := ⟨rfl, rfl, rfl, by decide +kernel, rfl, by decide +kernel, by decide +kernel⟩
def g__law_next : Sl → M Out :=
  (sSeq (sIf (tBin eqR (xIx (xVar 0) (xC (.int 1))) (xC (.int 0))) (sSeq (sSetF 3 (xIx (xVar 0) (xC (.int 2)))) (sSeq (sSetF 4 (xBin addR (xC (.int 7)) (xVar 3))) (sSeq (sIf (tBin ltR (xVar 3) (xCall lenR (aCons (xIx (xVar 0) (xC (.int 0))) aNil))) (sSetF 4 (xBin modR (xCall intR (aCons (xCall absR (aCons (xIx (xIx (xVar 0) (xC (.int 0))) (xVar 3)) aNil)) aNil)) (xBin powR (xC (.int 10)) (xC (.int 60))))) sNil) (sSeq (sIf (tBin ltR (xVar 4) (xBin powR (xC (.int 10)) (xC (.int 18)))) (sSeq (sSetF 4 (xBin modR (xCall intR (aCons (xBin addR (xBin addR (xBin mulR (xVar 4) (xC (.int 48271))) (xBin mulR (xVar 3) (xC (.int 69621)))) (xC (.int 11))) aNil)) (xC (.int 2147483647)))) (sSetF 4 (xBin addR (xBin mulR (xBin modR (xCall intR (aCons (xBin addR (xBin mulR (xVar 4) (xC (.int 16807))) (xC (.int 13))) aNil)) (xC (.int 2147483647))) (xC (.int 65537))) (xVar 4)))) sNil) (sSeq (sStore 0 (xC (.int 1)) (xVar 4)) (sStore 0 (xC (.int 2)) (xBin addR (xVar 3) (xC (.int 1))))))))) sNil) (sSeq (sSetF 2 (xBin modR (xCall intR (aCons (xIx (xVar 0) (xC (.int 1))) aNil)) (xVar 1))) (sSeq (sStore 0 (xC (.int 1)) (xBin fdivR (xIx (xVar 0) (xC (.int 1))) (xVar 1))) (sRet (xVar 2)))))
def M__law_next : Sl → M RV := bodyM 3 g__law_next
theorem ok__law_next (T : Top K mg) : FnG P w K mg base CX0 1 (He.ga K "_law_next") T.d__law_next ps__law_next (spD K 2 M__law_next) := by
    have S := S__law_next

    refine fn_def (k := 0) T.F__law_next S rfl rfl fun cdv A outer s H E hg hr => ?_
    exact (b_cons (s_if (tx_cmp (o_eq (room_u hr 64 (by decide))) (x_ix (room_u hr 1 (by decide)) (x_var (pv 0)) x_int) x_int (nomark _)) (b_cons (s_setF (i := 3) S.nd rfl (by first | exact Or.inl rfl | exact Or.inr rfl) (x_ix (room_u hr 1 (by decide)) (x_var (pv 0)) x_int)) (b_cons (s_setF (i := 4) S.nd rfl (by first | exact Or.inl rfl | exact Or.inr rfl) (x_bin o_add x_int (x_var (pv 3)))) (b_cons (s_if (tx_cmp (o_lt (room_u hr 64 (by decide))) (x_var (pv 3)) (x_callB c_len (by exact rfl) T.b_len (by decide +kernel) (xa_cons (x_ix (room_u hr 1 (by decide)) (x_var (pv 0)) x_int) xa_nil)) (nomark _)) (b_one (s_setF (i := 4) S.nd rfl (by first | exact Or.inl rfl | exact Or.inr rfl) (x_bin o_mod (x_callTy c_int (by exact rfl) T.b_int (by decide +kernel) (xa_cons (x_callB c_abs (by exact rfl) T.b_abs (by decide +kernel) (xa_cons (x_ix (room_u hr 1 (by decide)) (x_ix (room_u hr 1 (by decide)) (x_var (pv 0)) x_int) (x_var (pv 3))) xa_nil)) xa_nil)) (x_bin o_pow x_int x_int)))) b_nil) (b_cons (s_if (tx_cmp (o_lt (room_u hr 64 (by decide))) (x_var (pv 4)) (x_bin o_pow x_int x_int) (nomark _)) (b_cons (s_setF (i := 4) S.nd rfl (by first | exact Or.inl rfl | exact Or.inr rfl) (x_bin o_mod (x_callTy c_int (by exact rfl) T.b_int (by decide +kernel) (xa_cons (x_bin o_add (x_bin o_add (x_bin o_mul (x_var (pv 4)) x_int) (x_bin o_mul (x_var (pv 3)) x_int)) x_int) xa_nil)) x_int)) (b_one (s_setF (i := 4) S.nd rfl (by first | exact Or.inl rfl | exact Or.inr rfl) (x_bin o_add (x_bin o_mul (x_bin o_mod (x_callTy c_int (by exact rfl) T.b_int (by decide +kernel) (xa_cons (x_bin o_add (x_bin o_mul (x_var (pv 4)) x_int) x_int) xa_nil)) x_int) x_int) (x_var (pv 4)))))) b_nil) (b_cons (s_store (room_u hr 1 (by decide)) (pv 0) x_int (x_var (pv 4))) (b_one (s_store (room_u hr 1 (by decide)) (pv 0) x_int (x_bin o_add (x_var (pv 3)) x_int)))))))) b_nil) (b_cons (s_setF (i := 2) S.nd rfl (by first | exact Or.inl rfl | exact Or.inr rfl) (x_bin o_mod (x_callTy c_int (by exact rfl) T.b_int (by decide +kernel) (xa_cons (x_ix (room_u hr 1 (by decide)) (x_var (pv 0)) x_int) xa_nil)) (x_var (pv 1)))) (b_cons (s_store (room_u hr 1 (by decide)) (pv 0) x_int (x_bin o_fdiv (x_ix (room_u hr 1 (by decide)) (x_var (pv 0)) x_int) (x_var (pv 1)))) (b_one (s_ret (x_var (pv 2)))))))
/-! ### _law_pick: slots 0 stream 1 rows -/
abbrev N__law_pick : List Str := ["stream", "rows"]
abbrev ps__law_pick : List Str := ["stream", "rows"]
theorem S__law_pick : FnScope N__law_pick ps__law_pick (defScope s__law_pick) := ⟨rfl, rfl, rfl, by decide +kernel, rfl, by decide +kernel, by decide +kernel⟩
def g__law_pick : Sl → M Out :=
  (sRet (xIx (xVar 1) (xFn 2 M__law_next (aCons (xVar 0) (aCons (xCall lenR (aCons (xVar 1) aNil)) aNil)) [])))
def M__law_pick : Sl → M RV := bodyM 0 g__law_pick
theorem ok__law_pick (T : Top K mg) : FnG P w K mg base CX0 2 (He.ga K "_law_pick") T.d__law_pick ps__law_pick (spD K 2 M__law_pick) := by
    have S := S__law_pick
    have c__law_next := (ok__law_next (P := P) (w := w) (base := base) T).mono (k := 1) (by omega)
    have b__law_next_2 := T.F__law_next.bindsN (ps := ["stream", "many"]) fun _ _ _ _ _ _ us hl => match us, hl with | [_, _], _ => rfl
    have v__law_next_2 : Vals ([] : List V) [] := .nil
    refine fn_def (k := 1) T.F__law_pick S rfl rfl fun cdv A outer s H E hg hr => ?_
    exact (b_one (s_ret (x_ix (room_u hr 1 (by decide)) (x_var (pv 1)) (x_fn (dds := []) c__law_next hg hr (by exact rfl) T.m__law_next T.F__law_next.kp b__law_next_2 v__law_next_2 (fun _ => .nil) passN (xa_cons (x_var (pv 0)) (xa_cons (x_callB c_len (by exact rfl) T.b_len (by decide +kernel) (xa_cons (x_var (pv 1)) xa_nil)) xa_nil))))))
/-! ### _law_shuffled: slots 0 stream 1 rows 2 found 3 turn -/
abbrev N__law_shuffled : List Str := ["stream", "rows", "found", "turn"]
abbrev ps__law_shuffled : List Str := ["stream", "rows"]
theorem S__law_shuffled : FnScope N__law_shuffled ps__law_shuffled (defScope s__law_shuffled) := ⟨rfl, rfl, rfl, by decide +kernel, rfl, by decide +kernel, by decide +kernel⟩
def g__law_shuffled : Sl → M Out :=
  (sSeq (sSet 1 (xCall listR (aCons (xVar 1) aNil))) (sSeq (sSet 2 (xLst aNil)) (sSeq (sFor (iRng rng1 (aCons (xCall lenR (aCons (xVar 1) aNil)) aNil)) (gNm 3) (sAppE 2 (ePopAt 1 (xFn 2 M__law_next (aCons (xVar 0) (aCons (xCall lenR (aCons (xVar 1) aNil)) aNil)) [])))) (sRet (xVar 2)))))
def M__law_shuffled : Sl → M RV := bodyM 2 g__law_shuffled
theorem ok__law_shuffled (T : Top K mg) : FnG P w K mg base CX0 2 (He.ga K "_law_shuffled") T.d__law_shuffled ps__law_shuffled (spD K 2 M__law_shuffled) := by
    have S := S__law_shuffled
    have c__law_next := (ok__law_next (P := P) (w := w) (base := base) T).mono (k := 1) (by omega)
    have b__law_next_2 := T.F__law_next.bindsN (ps := ["stream", "many"]) fun _ _ _ _ _ _ us hl => match us, hl with | [_, _], _ => rfl
    have v__law_next_2 : Vals ([] : List V) [] := .nil
    refine fn_def (k := 1) T.F__law_shuffled S rfl rfl fun cdv A outer s H E hg hr => ?_
    exact (b_cons (s_set (i := 1) S.nd rfl (by first | exact Or.inl rfl | exact Or.inr rfl) (x_callTy (c_list rfl) (by exact rfl) T.b_list (by decide +kernel) (xa_cons (x_var (pv 1)) xa_nil))) (b_cons (s_set (i := 2) S.nd rfl (by first | exact Or.inl rfl | exact Or.inr rfl) (x_lst xa_nil)) (b_cons (s_for no_own rfl (i_rng1 (by exact rfl) T.b_range (xa_cons (x_callB c_len (by exact rfl) T.b_len (by decide +kernel) (xa_cons (x_var (pv 1)) xa_nil)) xa_nil)) (g_name (i := 3) S.nd rfl (by first | exact Or.inl rfl | exact Or.inr rfl)) (b_one (s_appE (pv 2) (e_popAt (pv 1) (x_fn (dds := []) c__law_next hg hr (by exact rfl) T.m__law_next T.F__law_next.kp b__law_next_2 v__law_next_2 (fun _ => .nil) passN (xa_cons (x_var (pv 0)) (xa_cons (x_callB c_len (by exact rfl) T.b_len (by decide +kernel) (xa_cons (x_var (pv 1)) xa_nil)) xa_nil))))))) (b_one (s_ret (x_var (pv 2)))))))
/-! ### _law_plain: slots 0 value 1 item -/
abbrev N__law_plain : List Str := ["value", "item"]
abbrev ps__law_plain : List Str := ["value"]
theorem S__law_plain : FnScope N__law_plain ps__law_plain (defScope s__law_plain) := ⟨rfl, rfl, rfl, by decide +kernel, rfl, by decide +kernel, by decide +kernel⟩
def g__law_plain (m__law_plain : Nat → Sl → M RV) (fuel : Nat) : Sl → M Out :=
  (sSeq (sIf (tTru (xIsi (isT "tuple") (xVar 0))) (sRet (xBin eqR (xLc (iSeq (xVar 0)) [1] (gNm 1) (tNotM (tTru (xFn 1 (m__law_plain fuel) (aCons (xVar 1) aNil) []))) (xVar 1)) (xLst aNil))) sNil) (sRet (xOr (xBin isNR (xVar 0) (xC .none)) (xIsi (fun d => isT "int" d || isT "str" d) (xVar 0)))))
def m__law_plain : Nat → Sl → M RV
  | 0 => fun _ => stuckM
  | fuel + 1 => bodyM 1 (g__law_plain (fun _ => m__law_plain fuel) fuel)
def M__law_plain : Sl → M RV := m__law_plain 100
theorem okn__law_plain (T : Top K mg) : ∀ fuel, FnG P w K mg base CX0 (fuel + 1) (He.ga K "_law_plain") T.d__law_plain ps__law_plain (spD K 1 (m__law_plain fuel))
  | 0 => fn_zero rfl
  | fuel + 1 => by
    have S := S__law_plain
    have c__law_plain := okn__law_plain T fuel
    have b__law_plain_1 := T.F__law_plain.bindsN (ps := ["value"]) fun _ _ _ _ _ _ us hl => match us, hl with | [_], _ => rfl
    have v__law_plain_1 : Vals ([] : List V) [] := .nil
    refine (fn_def (k := fuel + 1) T.F__law_plain S rfl rfl fun cdv A outer s H E hg hr => ?_).mono (by omega)
    exact (b_cons (s_if (tx_tru (x_isi (T' := "tuple") rfl kit_tuple (x_var (pv 0)) (by exact rfl) T.b_isinstance (by exact rfl) T.b_tuple (by decide +kernel))) (b_one (s_ret (x_cmp (o_eq (room_u hr 64 (by decide))) (x_lc rfl S.nd (i_seq (x_var (pv 0))) (blkOk_by (own := [("item", 1)]) (by kernel_rfl)) (fun _ _ _ _ _ => (g_name (i := 1) S.nd rfl (by first | exact Or.inl rfl | exact Or.inr rfl))) (fun _ _ _ _ _ => (ts_one (tx_not (tx_tru (x_fn (dds := []) c__law_plain hg hr (by exact rfl) T.m__law_plain T.F__law_plain.kp b__law_plain_1 v__law_plain_1 (fun _ => .nil) passN (xa_cons (x_var (pv 1)) xa_nil)))))) (fun _ _ _ _ _ => (x_var (pv 1))) (by decide)) (x_lst xa_nil) (nomark _)))) b_nil) (b_one (s_ret (x_or (x_cmp o_isN (x_var (pv 0)) x_non (nomark _)) (x_one (x_isi2 kit_int kit_str (x_var (pv 0)) (by exact rfl) T.b_isinstance (by exact rfl) T.b_int (by decide +kernel) (by exact rfl) T.b_str (by decide +kernel)))))))
theorem ok__law_plain (T : Top K mg) : FnG P w K mg base CX0 101 (He.ga K "_law_plain") T.d__law_plain ps__law_plain (spD K 1 M__law_plain) := (okn__law_plain T 100)
/-! ### _law_equal: slots 0 value 1 due -/
abbrev N__law_equal : List Str := ["value", "due"]
abbrev ps__law_equal : List Str := ["value", "due"]
theorem S__law_equal : FnScope N__law_equal ps__law_equal (defScope s__law_equal) := ⟨rfl, rfl, rfl, by decide +kernel, rfl, by decide +kernel, by decide +kernel⟩
def g__law_equal : Sl → M Out :=
  (sRet (xAnd (xFn 1 M__law_plain (aCons (xVar 0) aNil) []) (xBin eqR (xCall reprR (aCons (xVar 0) aNil)) (xCall reprR (aCons (xVar 1) aNil)))))
def M__law_equal : Sl → M RV := bodyM 0 g__law_equal
theorem ok__law_equal (T : Top K mg) : FnG P w K mg base CX0 102 (He.ga K "_law_equal") T.d__law_equal ps__law_equal (spD K 2 M__law_equal) := by
    have S := S__law_equal
    have c__law_plain := (ok__law_plain (P := P) (w := w) (base := base) T).mono (k := 101) (by omega)
    have b__law_plain_1 := T.F__law_plain.bindsN (ps := ["value"]) fun _ _ _ _ _ _ us hl => match us, hl with | [_], _ => rfl
    have v__law_plain_1 : Vals ([] : List V) [] := .nil
    refine fn_def (k := 101) T.F__law_equal S rfl rfl fun cdv A outer s H E hg hr => ?_
    exact (b_one (s_ret (x_and (x_fn (dds := []) c__law_plain hg hr (by exact rfl) T.m__law_plain T.F__law_plain.kp b__law_plain_1 v__law_plain_1 (fun _ => .nil) passN (xa_cons (x_var (pv 0)) xa_nil)) (x_one (x_cmp (o_eq (room_u hr 64 (by decide))) (x_callB (c_repr hg (room_u hr 200 (by decide))) (by exact rfl) T.b_repr (by decide +kernel) (xa_cons (x_var (pv 0)) xa_nil)) (x_callB (c_repr hg (room_u hr 200 (by decide))) (by exact rfl) T.b_repr (by decide +kernel) (xa_cons (x_var (pv 1)) xa_nil)) (nomark _))))))
/-! ### _law_columns: slots 0 stream 1 many 2 signs 3 table 4 turn 5 at 6 name -/
abbrev N__law_columns : List Str := ["stream", "many", "signs", "table", "turn", "at", "name"]
abbrev ps__law_columns : List Str := ["stream", "many"]
theorem S__law_columns : FnScope N__law_columns ps__law_columns (defScope s__law_columns) := ⟨rfl, rfl, rfl, by decide +kernel, rfl, by decide +kernel, by decide +kernel⟩
def g__law_columns : Sl → M Out :=
  (sSeq (sSetF 2 (xC (.str "abcdefghijklmnopqrstuvwxyz0123456789"))) (sSeq (sSet 3 (fun _ => retM (.own (.dict [])))) (sSeq (sFor (iRng rng1 (aCons (xBin mulR (xC (.int 20)) (xVar 1)) aNil)) (gNm 4) (sIf (tBin ltR (xCall lenR (aCons (xVar 3) aNil)) (xVar 1)) (sSeq (sSetF 6 (xFn 2 M__law_pick (aCons (xVar 0) (aCons (xSl (xVar 2) pNone (pSome (xC (.int 26)))) aNil)) [])) (sSeq (sFor (iRng rng1 (aCons (xFn 2 M__law_pick (aCons (xVar 0) (aCons (xLst (aCons (xC (.int 0)) (aCons (xC (.int 0)) (aCons (xC (.int 1)) (aCons (xC (.int 2)) (aCons (xC (.int 11)) aNil)))))) aNil)) []) aNil)) (gNm 5) (sSetF 6 (xBin addR (xVar 6) (xFn 2 M__law_pick (aCons (xVar 0) (aCons (xVar 2) aNil)) [])))) (sStore 3 (xVar 6) (xC (.bool true))))) sNil)) (sSeq (sFor (iRng rng1 (aCons (xC (.int 90)) aNil)) (gNm 5) (sIf (tBin ltR (xCall lenR (aCons (xVar 3) aNil)) (xVar 1)) (sStore 3 (xBin addR (xC (.str "x")) (xCall strR (aCons (xVar 5) aNil))) (xC (.bool true))) sNil)) (sRet (xCall tupleR (aCons (xCall sortedR (aCons (xVar 3) aNil)) aNil)))))))
def M__law_columns : Sl → M RV := bodyM 5 g__law_columns
theorem ok__law_columns (T : Top K mg) : FnG P w K mg base CX0 3 (He.ga K "_law_columns") T.d__law_columns ps__law_columns (spD K 2 M__law_columns) := by
    have S := S__law_columns
    have c__law_pick := (ok__law_pick (P := P) (w := w) (base := base) T).mono (k := 2) (by omega)
    have b__law_pick_2 := T.F__law_pick.bindsN (ps := ["stream", "rows"]) fun _ _ _ _ _ _ us hl => match us, hl with | [_, _], _ => rfl
    have v__law_pick_2 : Vals ([] : List V) [] := .nil
    refine fn_def (k := 2) T.F__law_columns S rfl rfl fun cdv A outer s H E hg hr => ?_
    exact (b_cons (s_setF (i := 2) S.nd rfl (by first | exact Or.inl rfl | exact Or.inr rfl) x_str) (b_cons (s_set (i := 3) S.nd rfl (by first | exact Or.inl rfl | exact Or.inr rfl) x_dict0) (b_cons (s_for no_own rfl (i_rng1 (by exact rfl) T.b_range (xa_cons (x_bin o_mul x_int (x_var (pv 1))) xa_nil)) (g_name (i := 4) S.nd rfl (by first | exact Or.inl rfl | exact Or.inr rfl)) (b_one (s_if (tx_cmp (o_lt (room_u hr 64 (by decide))) (x_callB c_len (by exact rfl) T.b_len (by decide +kernel) (xa_cons (x_var (pv 3)) xa_nil)) (x_var (pv 1)) (nomark _)) (b_cons (s_setF (i := 6) S.nd rfl (by first | exact Or.inl rfl | exact Or.inr rfl) (x_fn (dds := []) c__law_pick hg hr (by exact rfl) T.m__law_pick T.F__law_pick.kp b__law_pick_2 v__law_pick_2 (fun _ => .nil) passN (xa_cons (x_var (pv 0)) (xa_cons (x_sl (x_var (pv 2)) xo_none (xo_some x_int)) xa_nil)))) (b_cons (s_for no_own rfl (i_rng1 (by exact rfl) T.b_range (xa_cons (x_fn (dds := []) c__law_pick hg hr (by exact rfl) T.m__law_pick T.F__law_pick.kp b__law_pick_2 v__law_pick_2 (fun _ => .nil) passN (xa_cons (x_var (pv 0)) (xa_cons (x_lst (xa_cons x_int (xa_cons x_int (xa_cons x_int (xa_cons x_int (xa_cons x_int xa_nil)))))) xa_nil))) xa_nil)) (g_name (i := 5) S.nd rfl (by first | exact Or.inl rfl | exact Or.inr rfl)) (b_one (s_setF (i := 6) S.nd rfl (by first | exact Or.inl rfl | exact Or.inr rfl) (x_bin o_add (x_var (pv 6)) (x_fn (dds := []) c__law_pick hg hr (by exact rfl) T.m__law_pick T.F__law_pick.kp b__law_pick_2 v__law_pick_2 (fun _ => .nil) passN (xa_cons (x_var (pv 0)) (xa_cons (x_var (pv 2)) xa_nil))))))) (b_one (s_store (room_u hr 1 (by decide)) (pv 3) (x_var (pv 6)) x_bl)))) b_nil))) (b_cons (s_for no_own rfl (i_rng1 (by exact rfl) T.b_range (xa_cons x_int xa_nil)) (g_name (i := 5) S.nd rfl (by first | exact Or.inl rfl | exact Or.inr rfl)) (b_one (s_if (tx_cmp (o_lt (room_u hr 64 (by decide))) (x_callB c_len (by exact rfl) T.b_len (by decide +kernel) (xa_cons (x_var (pv 3)) xa_nil)) (x_var (pv 1)) (nomark _)) (b_one (s_store (room_u hr 1 (by decide)) (pv 3) (x_bin o_add x_str (x_callTy c_str (by exact rfl) T.b_str (by decide +kernel) (xa_cons (x_var (pv 5)) xa_nil))) x_bl)) b_nil))) (b_one (s_ret (x_callTy c_tuple (by exact rfl) T.b_tuple (by decide +kernel) (xa_cons (x_callB (c_sorted rfl (room_u hr 200 (by decide))) (by exact rfl) T.b_sorted (by decide +kernel) (xa_cons (x_var (pv 3)) xa_nil)) xa_nil))))))))
/-! ### _law_some: slots 0 stream 1 columns 2 least 3 most 4 many -/
abbrev N__law_some : List Str := ["stream", "columns", "least", "most", "many"]
abbrev ps__law_some : List Str := ["stream", "columns", "least", "most"]
theorem S__law_some : FnScope N__law_some ps__law_some (defScope s__law_some) := ⟨rfl, rfl, rfl, by decide +kernel, rfl, by decide +kernel, by decide +kernel⟩
def g__law_some : Sl → M Out :=
  (sSeq (sSetF 4 (xCall minR (aCons (xCall lenR (aCons (xVar 1) aNil)) (aCons (xBin addR (xVar 2) (xFn 2 M__law_next (aCons (xVar 0) (aCons (xBin addR (xBin subR (xVar 3) (xVar 2)) (xC (.int 1))) aNil)) [])) aNil)))) (sRet (xCall tupleR (aCons (xCall sortedR (aCons (xSl (xFn 2 M__law_shuffled (aCons (xVar 0) (aCons (xVar 1) aNil)) []) pNone (pSome (xVar 4))) aNil)) aNil))))
def M__law_some : Sl → M RV := bodyM 1 g__law_some
theorem ok__law_some (T : Top K mg) : FnG P w K mg base CX0 3 (He.ga K "_law_some") T.d__law_some ps__law_some (spD K 4 M__law_some) := by
    have S := S__law_some
    have c__law_next := (ok__law_next (P := P) (w := w) (base := base) T).mono (k := 2) (by omega)
    have c__law_shuffled := (ok__law_shuffled (P := P) (w := w) (base := base) T).mono (k := 2) (by omega)
    have b__law_next_2 := T.F__law_next.bindsN (ps := ["stream", "many"]) fun _ _ _ _ _ _ us hl => match us, hl with | [_, _], _ => rfl
    have v__law_next_2 : Vals ([] : List V) [] := .nil
    have b__law_shuffled_2 := T.F__law_shuffled.bindsN (ps := ["stream", "rows"]) fun _ _ _ _ _ _ us hl => match us, hl with | [_, _], _ => rfl
    have v__law_shuffled_2 : Vals ([] : List V) [] := .nil
    refine fn_def (k := 2) T.F__law_some S rfl rfl fun cdv A outer s H E hg hr => ?_
    exact (b_cons (s_setF (i := 4) S.nd rfl (by first | exact Or.inl rfl | exact Or.inr rfl) (x_callB (c_min rfl) (by exact rfl) T.b_min (by decide +kernel) (xa_cons (x_callB c_len (by exact rfl) T.b_len (by decide +kernel) (xa_cons (x_var (pv 1)) xa_nil)) (xa_cons (x_bin o_add (x_var (pv 2)) (x_fn (dds := []) c__law_next hg hr (by exact rfl) T.m__law_next T.F__law_next.kp b__law_next_2 v__law_next_2 (fun _ => .nil) passN (xa_cons (x_var (pv 0)) (xa_cons (x_bin o_add (x_bin o_sub (x_var (pv 3)) (x_var (pv 2))) x_int) xa_nil)))) xa_nil)))) (b_one (s_ret (x_callTy c_tuple (by exact rfl) T.b_tuple (by decide +kernel) (xa_cons (x_callB (c_sorted rfl (room_u hr 200 (by decide))) (by exact rfl) T.b_sorted (by decide +kernel) (xa_cons (x_sl (x_fn (dds := []) c__law_shuffled hg hr (by exact rfl) T.m__law_shuffled T.F__law_shuffled.kp b__law_shuffled_2 v__law_shuffled_2 (fun _ => .nil) passN (xa_cons (x_var (pv 0)) (xa_cons (x_var (pv 1)) xa_nil))) xo_none (xo_some (x_var (pv 4)))) xa_nil)) xa_nil)))))
/-! ### _law_covering: slots 0 stream 1 columns 2 parts 3 lacking 4 column 5 part -/
abbrev N__law_covering : List Str := ["stream", "columns", "parts", "lacking", "column", "part"]
abbrev ps__law_covering : List Str := ["stream", "columns", "parts"]
theorem S__law_covering : FnScope N__law_covering ps__law_covering (defScope s__law_covering) := ⟨rfl, rfl, rfl, by decide +kernel, rfl, by decide +kernel, by decide +kernel⟩
def g__law_covering : Sl → M Out :=
  (sSeq (sSetF 3 (xCall tupleR (aCons (xLc (iSeq (xVar 1)) [4] (gNm 4) (tBin eqR (xLc (iSeq (xVar 2)) [5] (gNm 5) (tBin inR (xVar 4) (xVar 5)) (xVar 5)) (xLst aNil)) (xVar 4)) aNil))) (sRet (xCall tupleR (aCons (xFn 2 M__law_shuffled (aCons (xVar 0) (aCons (xBin addR (xCall listR (aCons (xVar 2) aNil)) (xIf (tBin neR (xVar 3) (xTup aNil)) (xLst (aCons (xVar 3) aNil)) (xLst aNil))) aNil)) []) aNil))))
def M__law_covering : Sl → M RV := bodyM 3 g__law_covering
theorem ok__law_covering (T : Top K mg) : FnG P w K mg base CX0 3 (He.ga K "_law_covering") T.d__law_covering ps__law_covering (spD K 3 M__law_covering) := by
    have S := S__law_covering
    have c__law_shuffled := (ok__law_shuffled (P := P) (w := w) (base := base) T).mono (k := 2) (by omega)
    have b__law_shuffled_2 := T.F__law_shuffled.bindsN (ps := ["stream", "rows"]) fun _ _ _ _ _ _ us hl => match us, hl with | [_, _], _ => rfl
    have v__law_shuffled_2 : Vals ([] : List V) [] := .nil
    refine fn_def (k := 2) T.F__law_covering S rfl rfl fun cdv A outer s H E hg hr => ?_
    exact (b_cons (s_setF (i := 3) S.nd rfl (by first | exact Or.inl rfl | exact Or.inr rfl) (x_callTy c_tuple (by exact rfl) T.b_tuple (by decide +kernel) (xa_cons (x_lc rfl S.nd (i_seq (x_var (pv 1))) (blkOk_by (own := [("column", 4)]) (by kernel_rfl)) (fun _ _ _ _ _ => (g_name (i := 4) S.nd rfl (by first | exact Or.inl rfl | exact Or.inr rfl))) (fun _ _ _ _ _ => (ts_one (tx_cmp (o_eq (room_u hr 64 (by decide))) (x_lc rfl S.nd (i_seq (x_var (pv 2))) (blkOk_by (own := [("part", 5)]) (by kernel_rfl)) (fun _ _ _ _ _ => (g_name (i := 5) S.nd rfl (by first | exact Or.inl rfl | exact Or.inr rfl))) (fun _ _ _ _ _ => (ts_one (tx_cmp (o_in (room_u hr 65 (by decide))) (x_var (pv 4)) (x_var (pv 5)) (by with_unfolding_all rfl)))) (fun _ _ _ _ _ => (x_var (pv 5))) (by decide)) (x_lst xa_nil) (nomark _)))) (fun _ _ _ _ _ => (x_var (pv 4))) (by decide)) xa_nil))) (b_one (s_ret (x_callTy c_tuple (by exact rfl) T.b_tuple (by decide +kernel) (xa_cons (x_fn (dds := []) c__law_shuffled hg hr (by exact rfl) T.m__law_shuffled T.F__law_shuffled.kp b__law_shuffled_2 v__law_shuffled_2 (fun _ => .nil) passN (xa_cons (x_var (pv 0)) (xa_cons (x_bin o_add (x_callTy (c_list rfl) (by exact rfl) T.b_list (by decide +kernel) (xa_cons (x_var (pv 2)) xa_nil)) (x_if (tx_cmp (o_ne (room_u hr 64 (by decide))) (x_var (pv 3)) (x_tup xa_nil) (nomark _)) (x_lst (xa_cons (x_var (pv 3)) xa_nil)) (x_lst xa_nil))) xa_nil))) xa_nil)))))
/-! ### _law_hung: slots 0 stream 1 columns 2 many 3 left 4 size 5 parts 6 turn 7 host 8 part -/
abbrev N__law_hung : List Str := ["stream", "columns", "many", "left", "size", "parts", "turn", "host", "part"]
abbrev ps__law_hung : List Str := ["stream", "columns", "many"]
theorem S__law_hung : FnScope N__law_hung ps__law_hung (defScope s__law_hung) := ⟨rfl, rfl, rfl, by decide +kernel, rfl, by decide +kernel, by decide +kernel⟩
def g__law_hung : Sl → M Out :=
  (sSeq (sSetF 3 (xFn 2 M__law_shuffled (aCons (xVar 0) (aCons (xVar 1) aNil)) [])) (sSeq (sSetF 4 (xBin addR (xC (.int 1)) (xFn 2 M__law_next (aCons (xVar 0) (aCons (xC (.int 3)) aNil)) []))) (sSeq (sSet 5 (xLst (aCons (xCall tupleR (aCons (xCall sortedR (aCons (xSl (xVar 3) pNone (pSome (xVar 4))) aNil)) aNil)) aNil))) (sSeq (sSetF 3 (xSl (xVar 3) (pSome (xVar 4)) pNone)) (sSeq (sFor (iRng rng1 (aCons (xBin subR (xVar 2) (xC (.int 1))) aNil)) (gNm 6) (sSeq (sSetF 7 (xFn 2 M__law_pick (aCons (xVar 0) (aCons (xVar 5) aNil)) [])) (sSeq (sSetF 4 (xFn 2 M__law_next (aCons (xVar 0) (aCons (xC (.int 3)) aNil)) [])) (sSeq (sSetF 8 (xBin addR (xFn 4 M__law_some (aCons (xVar 0) (aCons (xVar 7) (aCons (xC (.int 0)) (aCons (xC (.int 3)) aNil)))) []) (xCall tupleR (aCons (xSl (xVar 3) pNone (pSome (xVar 4))) aNil)))) (sSeq (sSetF 3 (xSl (xVar 3) (pSome (xVar 4)) pNone)) (sIf (tBin neR (xVar 8) (xTup aNil)) (sApp 5 (xCall tupleR (aCons (xCall sortedR (aCons (xVar 8) aNil)) aNil))) sNil)))))) (sSeq (sStore 5 (xC (.int 0)) (xCall tupleR (aCons (xCall sortedR (aCons (xBin addR (xIx (xVar 5) (xC (.int 0))) (xCall tupleR (aCons (xVar 3) aNil))) aNil)) aNil))) (sRet (xVar 5))))))))
def M__law_hung : Sl → M RV := bodyM 6 g__law_hung
theorem ok__law_hung (T : Top K mg) : FnG P w K mg base CX0 4 (He.ga K "_law_hung") T.d__law_hung ps__law_hung (spD K 3 M__law_hung) := by
    have S := S__law_hung
    have c__law_shuffled := (ok__law_shuffled (P := P) (w := w) (base := base) T).mono (k := 3) (by omega)
    have c__law_next := (ok__law_next (P := P) (w := w) (base := base) T).mono (k := 3) (by omega)
    have c__law_pick := (ok__law_pick (P := P) (w := w) (base := base) T).mono (k := 3) (by omega)
    have c__law_some := (ok__law_some (P := P) (w := w) (base := base) T).mono (k := 3) (by omega)
    have b__law_shuffled_2 := T.F__law_shuffled.bindsN (ps := ["stream", "rows"]) fun _ _ _ _ _ _ us hl => match us, hl with | [_, _], _ => rfl
    have v__law_shuffled_2 : Vals ([] : List V) [] := .nil
    have b__law_next_2 := T.F__law_next.bindsN (ps := ["stream", "many"]) fun _ _ _ _ _ _ us hl => match us, hl with | [_, _], _ => rfl
    have v__law_next_2 : Vals ([] : List V) [] := .nil
    have b__law_pick_2 := T.F__law_pick.bindsN (ps := ["stream", "rows"]) fun _ _ _ _ _ _ us hl => match us, hl with | [_, _], _ => rfl
    have v__law_pick_2 : Vals ([] : List V) [] := .nil
    have b__law_some_4 := T.F__law_some.bindsN (ps := ["stream", "columns", "least", "most"]) fun _ _ _ _ _ _ us hl => match us, hl with | [_, _, _, _], _ => rfl
    have v__law_some_4 : Vals ([] : List V) [] := .nil
    refine fn_def (k := 3) T.F__law_hung S rfl rfl fun cdv A outer s H E hg hr => ?_
    exact (b_cons (s_setF (i := 3) S.nd rfl (by first | exact Or.inl rfl | exact Or.inr rfl) (x_fn (dds := []) c__law_shuffled hg hr (by exact rfl) T.m__law_shuffled T.F__law_shuffled.kp b__law_shuffled_2 v__law_shuffled_2 (fun _ => .nil) passN (xa_cons (x_var (pv 0)) (xa_cons (x_var (pv 1)) xa_nil)))) (b_cons (s_setF (i := 4) S.nd rfl (by first | exact Or.inl rfl | exact Or.inr rfl) (x_bin o_add x_int (x_fn (dds := []) c__law_next hg hr (by exact rfl) T.m__law_next T.F__law_next.kp b__law_next_2 v__law_next_2 (fun _ => .nil) passN (xa_cons (x_var (pv 0)) (xa_cons x_int xa_nil))))) (b_cons (s_set (i := 5) S.nd rfl (by first | exact Or.inl rfl | exact Or.inr rfl) (x_lst (xa_cons (x_callTy c_tuple (by exact rfl) T.b_tuple (by decide +kernel) (xa_cons (x_callB (c_sorted rfl (room_u hr 200 (by decide))) (by exact rfl) T.b_sorted (by decide +kernel) (xa_cons (x_sl (x_var (pv 3)) xo_none (xo_some (x_var (pv 4)))) xa_nil)) xa_nil)) xa_nil))) (b_cons (s_setF (i := 3) S.nd rfl (by first | exact Or.inl rfl | exact Or.inr rfl) (x_sl (x_var (pv 3)) (xo_some (x_var (pv 4))) xo_none)) (b_cons (s_for no_own rfl (i_rng1 (by exact rfl) T.b_range (xa_cons (x_bin o_sub (x_var (pv 2)) x_int) xa_nil)) (g_name (i := 6) S.nd rfl (by first | exact Or.inl rfl | exact Or.inr rfl)) (b_cons (s_setF (i := 7) S.nd rfl (by first | exact Or.inl rfl | exact Or.inr rfl) (x_fn (dds := []) c__law_pick hg hr (by exact rfl) T.m__law_pick T.F__law_pick.kp b__law_pick_2 v__law_pick_2 (fun _ => .nil) passN (xa_cons (x_var (pv 0)) (xa_cons (x_var (pv 5)) xa_nil)))) (b_cons (s_setF (i := 4) S.nd rfl (by first | exact Or.inl rfl | exact Or.inr rfl) (x_fn (dds := []) c__law_next hg hr (by exact rfl) T.m__law_next T.F__law_next.kp b__law_next_2 v__law_next_2 (fun _ => .nil) passN (xa_cons (x_var (pv 0)) (xa_cons x_int xa_nil)))) (b_cons (s_setF (i := 8) S.nd rfl (by first | exact Or.inl rfl | exact Or.inr rfl) (x_bin o_add (x_fn (dds := []) c__law_some hg hr (by exact rfl) T.m__law_some T.F__law_some.kp b__law_some_4 v__law_some_4 (fun _ => .nil) passN (xa_cons (x_var (pv 0)) (xa_cons (x_var (pv 7)) (xa_cons x_int (xa_cons x_int xa_nil))))) (x_callTy c_tuple (by exact rfl) T.b_tuple (by decide +kernel) (xa_cons (x_sl (x_var (pv 3)) xo_none (xo_some (x_var (pv 4)))) xa_nil)))) (b_cons (s_setF (i := 3) S.nd rfl (by first | exact Or.inl rfl | exact Or.inr rfl) (x_sl (x_var (pv 3)) (xo_some (x_var (pv 4))) xo_none)) (b_one (s_if (tx_cmp (o_ne (room_u hr 64 (by decide))) (x_var (pv 8)) (x_tup xa_nil) (nomark _)) (b_one (s_app (pv 5) (x_callTy c_tuple (by exact rfl) T.b_tuple (by decide +kernel) (xa_cons (x_callB (c_sorted rfl (room_u hr 200 (by decide))) (by exact rfl) T.b_sorted (by decide +kernel) (xa_cons (x_var (pv 8)) xa_nil)) xa_nil)))) b_nil))))))) (b_cons (s_store (room_u hr 1 (by decide)) (pv 5) x_int (x_callTy c_tuple (by exact rfl) T.b_tuple (by decide +kernel) (xa_cons (x_callB (c_sorted rfl (room_u hr 200 (by decide))) (by exact rfl) T.b_sorted (by decide +kernel) (xa_cons (x_bin o_add (x_ix (room_u hr 1 (by decide)) (x_var (pv 5)) x_int) (x_callTy c_tuple (by exact rfl) T.b_tuple (by decide +kernel) (xa_cons (x_var (pv 3)) xa_nil))) xa_nil)) xa_nil))) (b_one (s_ret (x_var (pv 5))))))))))
/-! ### _law_round: slots 0 stream 1 columns 2 row 3 clique 4 ring 5 other 6 at 7 one -/
abbrev N__law_round : List Str := ["stream", "columns", "row", "clique", "ring", "other", "at", "one"]
abbrev ps__law_round : List Str := ["stream", "columns"]
theorem S__law_round : FnScope N__law_round ps__law_round (defScope s__law_round) := ⟨rfl, rfl, rfl, by decide +kernel, rfl, by decide +kernel, by decide +kernel⟩
def g__law_round : Sl → M Out :=
  (sSeq (sSetF 2 (xFn 2 M__law_shuffled (aCons (xVar 0) (aCons (xVar 1) aNil)) [])) (sSeq (sIf (tAndM (tBin gtR (xCall lenR (aCons (xVar 2) aNil)) (xC (.int 3))) (tBin eqR (xFn 2 M__law_next (aCons (xVar 0) (aCons (xC (.int 2)) aNil)) []) (xC (.int 0)))) (sSeq (sSetF 4 (xSl (xVar 2) pNone (pSome (xBin addR (xC (.int 4)) (xFn 2 M__law_next (aCons (xVar 0) (aCons (xCall minR (aCons (xC (.int 4)) (aCons (xBin subR (xCall lenR (aCons (xVar 2) aNil)) (xC (.int 3))) aNil))) aNil)) []))))) (sRet (xLc (iRng rng1 (aCons (xCall lenR (aCons (xVar 4) aNil)) aNil)) [6] (gNm 6) tYesM (xCall tupleR (aCons (xCall sortedR (aCons (xLst (aCons (xIx (xVar 4) (xBin subR (xVar 6) (xC (.int 1)))) (aCons (xIx (xVar 4) (xVar 6)) aNil))) aNil)) aNil))))) sNil) (sSeq (sSetF 3 (xSl (xVar 2) pNone (pSome (xBin addR (xC (.int 3)) (xFn 2 M__law_next (aCons (xVar 0) (aCons (xCall minR (aCons (xC (.int 3)) (aCons (xBin subR (xCall lenR (aCons (xVar 2) aNil)) (xC (.int 2))) aNil))) aNil)) []))))) (sRet (xLc (iSeq (xVar 3)) [5] (gNm 5) tYesM (xCall tupleR (aCons (xCall sortedR (aCons (xLc (iSeq (xVar 3)) [7] (gNm 7) (tBin neR (xVar 7) (xVar 5)) (xVar 7)) aNil)) aNil)))))))
def M__law_round : Sl → M RV := bodyM 6 g__law_round
theorem ok__law_round (T : Top K mg) : FnG P w K mg base CX0 3 (He.ga K "_law_round") T.d__law_round ps__law_round (spD K 2 M__law_round) := by
    have S := S__law_round
    have c__law_shuffled := (ok__law_shuffled (P := P) (w := w) (base := base) T).mono (k := 2) (by omega)
    have c__law_next := (ok__law_next (P := P) (w := w) (base := base) T).mono (k := 2) (by omega)
    have b__law_shuffled_2 := T.F__law_shuffled.bindsN (ps := ["stream", "rows"]) fun _ _ _ _ _ _ us hl => match us, hl with | [_, _], _ => rfl
    have v__law_shuffled_2 : Vals ([] : List V) [] := .nil
    have b__law_next_2 := T.F__law_next.bindsN (ps := ["stream", "many"]) fun _ _ _ _ _ _ us hl => match us, hl with | [_, _], _ => rfl
    have v__law_next_2 : Vals ([] : List V) [] := .nil
    refine fn_def (k := 2) T.F__law_round S rfl rfl fun cdv A outer s H E hg hr => ?_
    exact (b_cons (s_setF (i := 2) S.nd rfl (by first | exact Or.inl rfl | exact Or.inr rfl) (x_fn (dds := []) c__law_shuffled hg hr (by exact rfl) T.m__law_shuffled T.F__law_shuffled.kp b__law_shuffled_2 v__law_shuffled_2 (fun _ => .nil) passN (xa_cons (x_var (pv 0)) (xa_cons (x_var (pv 1)) xa_nil)))) (b_cons (s_if (PXW.t (tw_and (tx_cmp o_gt (x_callB c_len (by exact rfl) T.b_len (by decide +kernel) (xa_cons (x_var (pv 2)) xa_nil)) x_int (nomark _)) (tw_and1 (tx_cmp (o_eq (room_u hr 64 (by decide))) (x_fn (dds := []) c__law_next hg hr (by exact rfl) T.m__law_next T.F__law_next.kp b__law_next_2 v__law_next_2 (fun _ => .nil) passN (xa_cons (x_var (pv 0)) (xa_cons x_int xa_nil))) x_int (nomark _))))) (b_cons (s_setF (i := 4) S.nd rfl (by first | exact Or.inl rfl | exact Or.inr rfl) (x_sl (x_var (pv 2)) xo_none (xo_some (x_bin o_add x_int (x_fn (dds := []) c__law_next hg hr (by exact rfl) T.m__law_next T.F__law_next.kp b__law_next_2 v__law_next_2 (fun _ => .nil) passN (xa_cons (x_var (pv 0)) (xa_cons (x_callB (c_min rfl) (by exact rfl) T.b_min (by decide +kernel) (xa_cons x_int (xa_cons (x_bin o_sub (x_callB c_len (by exact rfl) T.b_len (by decide +kernel) (xa_cons (x_var (pv 2)) xa_nil)) x_int) xa_nil))) xa_nil))))))) (b_one (s_ret (x_lc rfl S.nd (i_rng1 (by exact rfl) T.b_range (xa_cons (x_callB c_len (by exact rfl) T.b_len (by decide +kernel) (xa_cons (x_var (pv 4)) xa_nil)) xa_nil)) (blkOk_by (own := [("at", 6)]) (by kernel_rfl)) (fun _ _ _ _ _ => (g_name (i := 6) S.nd rfl (by first | exact Or.inl rfl | exact Or.inr rfl))) (fun _ _ _ _ _ => ts_nil) (fun _ _ _ _ _ => (x_callTy c_tuple (by exact rfl) T.b_tuple (by decide +kernel) (xa_cons (x_callB (c_sorted rfl (room_u hr 200 (by decide))) (by exact rfl) T.b_sorted (by decide +kernel) (xa_cons (x_lst (xa_cons (x_ix (room_u hr 1 (by decide)) (x_var (pv 4)) (x_bin o_sub (x_var (pv 6)) x_int)) (xa_cons (x_ix (room_u hr 1 (by decide)) (x_var (pv 4)) (x_var (pv 6))) xa_nil))) xa_nil)) xa_nil))) (by decide))))) b_nil) (b_cons (s_setF (i := 3) S.nd rfl (by first | exact Or.inl rfl | exact Or.inr rfl) (x_sl (x_var (pv 2)) xo_none (xo_some (x_bin o_add x_int (x_fn (dds := []) c__law_next hg hr (by exact rfl) T.m__law_next T.F__law_next.kp b__law_next_2 v__law_next_2 (fun _ => .nil) passN (xa_cons (x_var (pv 0)) (xa_cons (x_callB (c_min rfl) (by exact rfl) T.b_min (by decide +kernel) (xa_cons x_int (xa_cons (x_bin o_sub (x_callB c_len (by exact rfl) T.b_len (by decide +kernel) (xa_cons (x_var (pv 2)) xa_nil)) x_int) xa_nil))) xa_nil))))))) (b_one (s_ret (x_lc rfl S.nd (i_seq (x_var (pv 3))) (blkOk_by (own := [("other", 5)]) (by kernel_rfl)) (fun _ _ _ _ _ => (g_name (i := 5) S.nd rfl (by first | exact Or.inl rfl | exact Or.inr rfl))) (fun _ _ _ _ _ => ts_nil) (fun _ _ _ _ _ => (x_callTy c_tuple (by exact rfl) T.b_tuple (by decide +kernel) (xa_cons (x_callB (c_sorted rfl (room_u hr 200 (by decide))) (by exact rfl) T.b_sorted (by decide +kernel) (xa_cons (x_lc rfl S.nd (i_seq (x_var (pv 3))) (blkOk_by (own := [("one", 7)]) (by kernel_rfl)) (fun _ _ _ _ _ => (g_name (i := 7) S.nd rfl (by first | exact Or.inl rfl | exact Or.inr rfl))) (fun _ _ _ _ _ => (ts_one (tx_cmp (o_ne (room_u hr 64 (by decide))) (x_var (pv 7)) (x_var (pv 5)) (nomark _)))) (fun _ _ _ _ _ => (x_var (pv 7))) (by decide)) xa_nil)) xa_nil))) (by decide)))))))
/-! ### _law_cover: slots 0 stream 1 columns 2 most 3 kind 4 parts 5 turn -/
abbrev N__law_cover : List Str := ["stream", "columns", "most", "kind", "parts", "turn"]
abbrev ps__law_cover : List Str := ["stream", "columns", "most"]
theorem S__law_cover : FnScope N__law_cover ps__law_cover (defScope s__law_cover) := ⟨rfl, rfl, rfl, by decide +kernel, rfl, by decide +kernel, by decide +kernel⟩
def g__law_cover : Sl → M Out :=
  (sSeq (sSetF 3 (xFn 2 M__law_next (aCons (xVar 0) (aCons (xC (.int 4)) aNil)) [])) (sSeq (sIf (tBin eqR (xVar 3) (xC (.int 0))) (sRet (xCall tupleR (aCons (xFn 2 M__law_shuffled (aCons (xVar 0) (aCons (xFn 3 M__law_hung (aCons (xVar 0) (aCons (xVar 1) (aCons (xBin addR (xC (.int 1)) (xFn 2 M__law_next (aCons (xVar 0) (aCons (xVar 2) aNil)) [])) aNil))) []) aNil)) []) aNil))) sNil) (sSeq (sIf (tAndM (tBin eqR (xVar 3) (xC (.int 1))) (tBin gtR (xCall lenR (aCons (xVar 1) aNil)) (xC (.int 2)))) (sSeq (sSet 4 (xFn 2 M__law_round (aCons (xVar 0) (aCons (xVar 1) aNil)) [])) (sSeq (sExt 4 (xLc (iRng rng1 (aCons (xFn 2 M__law_next (aCons (xVar 0) (aCons (xC (.int 2)) aNil)) []) aNil)) [5] (gNm 5) tYesM (xFn 4 M__law_some (aCons (xVar 0) (aCons (xVar 1) (aCons (xC (.int 1)) (aCons (xC (.int 3)) aNil)))) []))) (sRet (xFn 3 M__law_covering (aCons (xVar 0) (aCons (xVar 1) (aCons (xSl (xVar 4) pNone (pSome (xCall maxR (aCons (xVar 2) (aCons (xC (.int 3)) aNil))))) aNil))) [])))) sNil) (sRet (xFn 3 M__law_covering (aCons (xVar 0) (aCons (xVar 1) (aCons (xLc (iRng rng1 (aCons (xBin addR (xC (.int 1)) (xFn 2 M__law_next (aCons (xVar 0) (aCons (xBin subR (xVar 2) (xC (.int 1))) aNil)) [])) aNil)) [5] (gNm 5) tYesM (xFn 4 M__law_some (aCons (xVar 0) (aCons (xVar 1) (aCons (xC (.int 1)) (aCons (xC (.int 3)) aNil)))) [])) aNil))) [])))))
def M__law_cover : Sl → M RV := bodyM 3 g__law_cover
theorem ok__law_cover (T : Top K mg) : FnG P w K mg base CX0 5 (He.ga K "_law_cover") T.d__law_cover ps__law_cover (spD K 3 M__law_cover) := by
    have S := S__law_cover
    have c__law_next := (ok__law_next (P := P) (w := w) (base := base) T).mono (k := 4) (by omega)
    have c__law_hung := (ok__law_hung (P := P) (w := w) (base := base) T).mono (k := 4) (by omega)
    have c__law_shuffled := (ok__law_shuffled (P := P) (w := w) (base := base) T).mono (k := 4) (by omega)
    have c__law_round := (ok__law_round (P := P) (w := w) (base := base) T).mono (k := 4) (by omega)
    have c__law_some := (ok__law_some (P := P) (w := w) (base := base) T).mono (k := 4) (by omega)
    have c__law_covering := (ok__law_covering (P := P) (w := w) (base := base) T).mono (k := 4) (by omega)
    have b__law_next_2 := T.F__law_next.bindsN (ps := ["stream", "many"]) fun _ _ _ _ _ _ us hl => match us, hl with | [_, _], _ => rfl
    have v__law_next_2 : Vals ([] : List V) [] := .nil
    have b__law_hung_3 := T.F__law_hung.bindsN (ps := ["stream", "columns", "many"]) fun _ _ _ _ _ _ us hl => match us, hl with | [_, _, _], _ => rfl
    have v__law_hung_3 : Vals ([] : List V) [] := .nil
    have b__law_shuffled_2 := T.F__law_shuffled.bindsN (ps := ["stream", "rows"]) fun _ _ _ _ _ _ us hl => match us, hl with | [_, _], _ => rfl
    have v__law_shuffled_2 : Vals ([] : List V) [] := .nil
    have b__law_round_2 := T.F__law_round.bindsN (ps := ["stream", "columns"]) fun _ _ _ _ _ _ us hl => match us, hl with | [_, _], _ => rfl
    have v__law_round_2 : Vals ([] : List V) [] := .nil
    have b__law_some_4 := T.F__law_some.bindsN (ps := ["stream", "columns", "least", "most"]) fun _ _ _ _ _ _ us hl => match us, hl with | [_, _, _, _], _ => rfl
    have v__law_some_4 : Vals ([] : List V) [] := .nil
    have b__law_covering_3 := T.F__law_covering.bindsN (ps := ["stream", "columns", "parts"]) fun _ _ _ _ _ _ us hl => match us, hl with | [_, _, _], _ => rfl
    have v__law_covering_3 : Vals ([] : List V) [] := .nil
    refine fn_def (k := 4) T.F__law_cover S rfl rfl fun cdv A outer s H E hg hr => ?_
    exact (b_cons (s_setF (i := 3) S.nd rfl (by first | exact Or.inl rfl | exact Or.inr rfl) (x_fn (dds := []) c__law_next hg hr (by exact rfl) T.m__law_next T.F__law_next.kp b__law_next_2 v__law_next_2 (fun _ => .nil) passN (xa_cons (x_var (pv 0)) (xa_cons x_int xa_nil)))) (b_cons (s_if (tx_cmp (o_eq (room_u hr 64 (by decide))) (x_var (pv 3)) x_int (nomark _)) (b_one (s_ret (x_callTy c_tuple (by exact rfl) T.b_tuple (by decide +kernel) (xa_cons (x_fn (dds := []) c__law_shuffled hg hr (by exact rfl) T.m__law_shuffled T.F__law_shuffled.kp b__law_shuffled_2 v__law_shuffled_2 (fun _ => .nil) passN (xa_cons (x_var (pv 0)) (xa_cons (x_fn (dds := []) c__law_hung hg hr (by exact rfl) T.m__law_hung T.F__law_hung.kp b__law_hung_3 v__law_hung_3 (fun _ => .nil) passN (xa_cons (x_var (pv 0)) (xa_cons (x_var (pv 1)) (xa_cons (x_bin o_add x_int (x_fn (dds := []) c__law_next hg hr (by exact rfl) T.m__law_next T.F__law_next.kp b__law_next_2 v__law_next_2 (fun _ => .nil) passN (xa_cons (x_var (pv 0)) (xa_cons (x_var (pv 2)) xa_nil)))) xa_nil)))) xa_nil))) xa_nil)))) b_nil) (b_cons (s_if (PXW.t (tw_and (tx_cmp (o_eq (room_u hr 64 (by decide))) (x_var (pv 3)) x_int (nomark _)) (tw_and1 (tx_cmp o_gt (x_callB c_len (by exact rfl) T.b_len (by decide +kernel) (xa_cons (x_var (pv 1)) xa_nil)) x_int (nomark _))))) (b_cons (s_set (i := 4) S.nd rfl (by first | exact Or.inl rfl | exact Or.inr rfl) (x_fn (dds := []) c__law_round hg hr (by exact rfl) T.m__law_round T.F__law_round.kp b__law_round_2 v__law_round_2 (fun _ => .nil) passN (xa_cons (x_var (pv 0)) (xa_cons (x_var (pv 1)) xa_nil)))) (b_cons (s_ext (pv 4) (x_lc rfl S.nd (i_rng1 (by exact rfl) T.b_range (xa_cons (x_fn (dds := []) c__law_next hg hr (by exact rfl) T.m__law_next T.F__law_next.kp b__law_next_2 v__law_next_2 (fun _ => .nil) passN (xa_cons (x_var (pv 0)) (xa_cons x_int xa_nil))) xa_nil)) (blkOk_by (own := [("turn", 5)]) (by kernel_rfl)) (fun _ _ _ _ _ => (g_name (i := 5) S.nd rfl (by first | exact Or.inl rfl | exact Or.inr rfl))) (fun _ _ _ _ _ => ts_nil) (fun _ _ _ _ _ => (x_fn (dds := []) c__law_some hg hr (by exact rfl) T.m__law_some T.F__law_some.kp b__law_some_4 v__law_some_4 (fun _ => .nil) passN (xa_cons (x_var (pv 0)) (xa_cons (x_var (pv 1)) (xa_cons x_int (xa_cons x_int xa_nil)))))) (by decide))) (b_one (s_ret (x_fn (dds := []) c__law_covering hg hr (by exact rfl) T.m__law_covering T.F__law_covering.kp b__law_covering_3 v__law_covering_3 (fun _ => .nil) passN (xa_cons (x_var (pv 0)) (xa_cons (x_var (pv 1)) (xa_cons (x_sl (x_var (pv 4)) xo_none (xo_some (x_callB (c_max rfl) (by exact rfl) T.b_max (by decide +kernel) (xa_cons (x_var (pv 2)) (xa_cons x_int xa_nil))))) xa_nil)))))))) b_nil) (b_one (s_ret (x_fn (dds := []) c__law_covering hg hr (by exact rfl) T.m__law_covering T.F__law_covering.kp b__law_covering_3 v__law_covering_3 (fun _ => .nil) passN (xa_cons (x_var (pv 0)) (xa_cons (x_var (pv 1)) (xa_cons (x_lc rfl S.nd (i_rng1 (by exact rfl) T.b_range (xa_cons (x_bin o_add x_int (x_fn (dds := []) c__law_next hg hr (by exact rfl) T.m__law_next T.F__law_next.kp b__law_next_2 v__law_next_2 (fun _ => .nil) passN (xa_cons (x_var (pv 0)) (xa_cons (x_bin o_sub (x_var (pv 2)) x_int) xa_nil)))) xa_nil)) (blkOk_by (own := [("turn", 5)]) (by kernel_rfl)) (fun _ _ _ _ _ => (g_name (i := 5) S.nd rfl (by first | exact Or.inl rfl | exact Or.inr rfl))) (fun _ _ _ _ _ => ts_nil) (fun _ _ _ _ _ => (x_fn (dds := []) c__law_some hg hr (by exact rfl) T.m__law_some T.F__law_some.kp b__law_some_4 v__law_some_4 (fun _ => .nil) passN (xa_cons (x_var (pv 0)) (xa_cons (x_var (pv 1)) (xa_cons x_int (xa_cons x_int xa_nil)))))) (by decide)) xa_nil)))))))))
/-! ### _law_near: slots 0 parts 1 one 2 other 3 part -/
abbrev N__law_near : List Str := ["parts", "one", "other", "part"]
abbrev ps__law_near : List Str := ["parts", "one", "other"]
theorem S__law_near : FnScope N__law_near ps__law_near (defScope s__law_near) := ⟨rfl, rfl, rfl, by decide +kernel, rfl, by decide +kernel, by decide +kernel⟩
def g__law_near : Sl → M Out :=
  (sRet (xBin neR (xLc (iSeq (xVar 0)) [3] (gNm 3) (tAndM (tBin inR (xVar 1) (xVar 3)) (tBin inR (xVar 2) (xVar 3))) (xVar 3)) (xLst aNil)))
def M__law_near : Sl → M RV := bodyM 1 g__law_near
theorem ok__law_near (T : Top K mg) : FnG P w K mg base CX0 1 (He.ga K "_law_near") T.d__law_near ps__law_near (spD K 3 M__law_near) := by
    have S := S__law_near

    refine fn_def (k := 0) T.F__law_near S rfl rfl fun cdv A outer s H E hg hr => ?_
    exact (b_one (s_ret (x_cmp (o_ne (room_u hr 64 (by decide))) (x_lc rfl S.nd (i_seq (x_var (pv 0))) (blkOk_by (own := [("part", 3)]) (by kernel_rfl)) (fun _ _ _ _ _ => (g_name (i := 3) S.nd rfl (by first | exact Or.inl rfl | exact Or.inr rfl))) (fun _ _ _ _ _ => (ts_one (PXW.t (tw_and (tx_cmp (o_in (room_u hr 65 (by decide))) (x_var (pv 1)) (x_var (pv 3)) (by with_unfolding_all rfl)) (tw_and1 (tx_cmp (o_in (room_u hr 65 (by decide))) (x_var (pv 2)) (x_var (pv 3)) (by with_unfolding_all rfl))))))) (fun _ _ _ _ _ => (x_var (pv 3))) (by decide)) (x_lst xa_nil) (nomark _))))
/-! ### _law_graham: slots 0 parts 1 rows 2 turn 3 at 4 part 5 others 6 row 7 column 8 other -/
abbrev N__law_graham : List Str := ["parts", "rows", "turn", "at", "part", "others", "row", "column", "other"]
abbrev ps__law_graham : List Str := ["parts"]
theorem S__law_graham : FnScope N__law_graham ps__law_graham (defScope s__law_graham) := ⟨rfl, rfl, rfl, by decide +kernel, rfl, by decide +kernel, by decide +kernel⟩
def g__law_graham : Sl → M Out :=
  (sSeq (sSet 1 (xLc (iSeq (xVar 0)) [4] (gNm 4) tYesM (xCall listR (aCons (xVar 4) aNil)))) (sSeq (sFor (iRng rng1 (aCons (xC (.int 60)) aNil)) (gNm 2) (sSeq (sFor (iRng rng1 (aCons (xCall lenR (aCons (xVar 1) aNil)) aNil)) (gNm 3) (sSeq (sSetF 5 (xLc (iRng enum1 (aCons (xVar 1) aNil)) [8, 6] (gTp 2 (gsCons (gNm 8) (gsCons (gNm 6) gsNil))) (tBin neR (xVar 8) (xVar 3)) (xVar 6))) (sStore 1 (xVar 3) (xLc (iSeq (xIx (xVar 1) (xVar 3))) [7] (gNm 7) (tBin neR (xLc (iSeq (xVar 5)) [6] (gNm 6) (tBin inR (xVar 7) (xVar 6)) (xVar 6)) (xLst aNil)) (xVar 7))))) (sFor (iRng rng1 (aCons (xCall lenR (aCons (xVar 1) aNil)) aNil)) (gNm 3) (sSeq (sSetF 5 (xLc (iRng enum1 (aCons (xVar 1) aNil)) [8, 6] (gTp 2 (gsCons (gNm 8) (gsCons (gNm 6) gsNil))) (tAndM (tBin neR (xVar 8) (xVar 3)) (tOrM (tBin neR (xVar 6) (xIx (xVar 1) (xVar 3))) (tBin ltR (xVar 8) (xVar 3)))) (xVar 6))) (sIf (tBin neR (xLc (iSeq (xVar 5)) [6] (gNm 6) (tBin eqR (xLc (iSeq (xIx (xVar 1) (xVar 3))) [7] (gNm 7) (tBin notInR (xVar 7) (xVar 6)) (xVar 7)) (xLst aNil)) (xVar 6)) (xLst aNil)) (sStore 1 (xVar 3) (xLst aNil)) sNil))))) (sRet (xBin eqR (xLc (iSeq (xVar 1)) [6] (gNm 6) (tBin neR (xVar 6) (xLst aNil)) (xVar 6)) (xLst aNil)))))
def M__law_graham : Sl → M RV := bodyM 8 g__law_graham
theorem ok__law_graham (T : Top K mg) : FnG P w K mg base CX0 1 (He.ga K "_law_graham") T.d__law_graham ps__law_graham (spD K 1 M__law_graham) := by
    have S := S__law_graham

    refine fn_def (k := 0) T.F__law_graham S rfl rfl fun cdv A outer s H E hg hr => ?_
    exact (b_cons (s_set (i := 1) S.nd rfl (by first | exact Or.inl rfl | exact Or.inr rfl) (x_lc rfl S.nd (i_seq (x_var (pv 0))) (blkOk_by (own := [("part", 4)]) (by kernel_rfl)) (fun _ _ _ _ _ => (g_name (i := 4) S.nd rfl (by first | exact Or.inl rfl | exact Or.inr rfl))) (fun _ _ _ _ _ => ts_nil) (fun _ _ _ _ _ => (x_callTy (c_list rfl) (by exact rfl) T.b_list (by decide +kernel) (xa_cons (x_var (pv 4)) xa_nil))) (by decide))) (b_cons (s_for no_own rfl (i_rng1 (by exact rfl) T.b_range (xa_cons x_int xa_nil)) (g_name (i := 2) S.nd rfl (by first | exact Or.inl rfl | exact Or.inr rfl)) (b_cons (s_for no_own rfl (i_rng1 (by exact rfl) T.b_range (xa_cons (x_callB c_len (by exact rfl) T.b_len (by decide +kernel) (xa_cons (x_var (pv 1)) xa_nil)) xa_nil)) (g_name (i := 3) S.nd rfl (by first | exact Or.inl rfl | exact Or.inr rfl)) (b_cons (s_setF (i := 5) S.nd rfl (by first | exact Or.inl rfl | exact Or.inr rfl) (x_lc rfl S.nd (i_enum (by exact rfl) T.b_enumerate (xa_cons (x_var (pv 1)) xa_nil)) (blkOk_by (own := [("other", 8), ("row", 6)]) (by kernel_rfl)) (fun _ _ _ _ _ => (g_tup rfl (gs_cons (g_name (i := 8) S.nd rfl (by first | exact Or.inl rfl | exact Or.inr rfl)) (gs_cons (g_name (i := 6) S.nd rfl (by first | exact Or.inl rfl | exact Or.inr rfl)) gs_nil)))) (fun _ _ _ _ _ => (ts_one (tx_cmp (o_ne (room_u hr 64 (by decide))) (x_var (pv 8)) (x_var (pv 3)) (nomark _)))) (fun _ _ _ _ _ => (x_var (pv 6))) (by decide))) (b_one (s_store (room_u hr 1 (by decide)) (pv 1) (x_var (pv 3)) (x_lc rfl S.nd (i_seq (x_ix (room_u hr 1 (by decide)) (x_var (pv 1)) (x_var (pv 3)))) (blkOk_by (own := [("column", 7)]) (by kernel_rfl)) (fun _ _ _ _ _ => (g_name (i := 7) S.nd rfl (by first | exact Or.inl rfl | exact Or.inr rfl))) (fun _ _ _ _ _ => (ts_one (tx_cmp (o_ne (room_u hr 64 (by decide))) (x_lc rfl S.nd (i_seq (x_var (pv 5))) (blkOk_by (own := [("row", 6)]) (by kernel_rfl)) (fun _ _ _ _ _ => (g_name (i := 6) S.nd rfl (by first | exact Or.inl rfl | exact Or.inr rfl))) (fun _ _ _ _ _ => (ts_one (tx_cmp (o_in (room_u hr 65 (by decide))) (x_var (pv 7)) (x_var (pv 6)) (by with_unfolding_all rfl)))) (fun _ _ _ _ _ => (x_var (pv 6))) (by decide)) (x_lst xa_nil) (nomark _)))) (fun _ _ _ _ _ => (x_var (pv 7))) (by decide)))))) (b_one (s_for no_own rfl (i_rng1 (by exact rfl) T.b_range (xa_cons (x_callB c_len (by exact rfl) T.b_len (by decide +kernel) (xa_cons (x_var (pv 1)) xa_nil)) xa_nil)) (g_name (i := 3) S.nd rfl (by first | exact Or.inl rfl | exact Or.inr rfl)) (b_cons (s_setF (i := 5) S.nd rfl (by first | exact Or.inl rfl | exact Or.inr rfl) (x_lc rfl S.nd (i_enum (by exact rfl) T.b_enumerate (xa_cons (x_var (pv 1)) xa_nil)) (blkOk_by (own := [("other", 8), ("row", 6)]) (by kernel_rfl)) (fun _ _ _ _ _ => (g_tup rfl (gs_cons (g_name (i := 8) S.nd rfl (by first | exact Or.inl rfl | exact Or.inr rfl)) (gs_cons (g_name (i := 6) S.nd rfl (by first | exact Or.inl rfl | exact Or.inr rfl)) gs_nil)))) (fun _ _ _ _ _ => (ts_one (PXW.t (tw_and (tx_cmp (o_ne (room_u hr 64 (by decide))) (x_var (pv 8)) (x_var (pv 3)) (nomark _)) (tw_and1 (PXW.t (tw_or (tx_cmp (o_ne (room_u hr 64 (by decide))) (x_var (pv 6)) (x_ix (room_u hr 1 (by decide)) (x_var (pv 1)) (x_var (pv 3))) (nomark _)) (tw_or1 (tx_cmp (o_lt (room_u hr 64 (by decide))) (x_var (pv 8)) (x_var (pv 3)) (nomark _)))))))))) (fun _ _ _ _ _ => (x_var (pv 6))) (by decide))) (b_one (s_if (tx_cmp (o_ne (room_u hr 64 (by decide))) (x_lc rfl S.nd (i_seq (x_var (pv 5))) (blkOk_by (own := [("row", 6)]) (by kernel_rfl)) (fun _ _ _ _ _ => (g_name (i := 6) S.nd rfl (by first | exact Or.inl rfl | exact Or.inr rfl))) (fun _ _ _ _ _ => (ts_one (tx_cmp (o_eq (room_u hr 64 (by decide))) (x_lc rfl S.nd (i_seq (x_ix (room_u hr 1 (by decide)) (x_var (pv 1)) (x_var (pv 3)))) (blkOk_by (own := [("column", 7)]) (by kernel_rfl)) (fun _ _ _ _ _ => (g_name (i := 7) S.nd rfl (by first | exact Or.inl rfl | exact Or.inr rfl))) (fun _ _ _ _ _ => (ts_one (tx_cmp (o_notIn (room_u hr 65 (by decide))) (x_var (pv 7)) (x_var (pv 6)) (by with_unfolding_all rfl)))) (fun _ _ _ _ _ => (x_var (pv 7))) (by decide)) (x_lst xa_nil) (nomark _)))) (fun _ _ _ _ _ => (x_var (pv 6))) (by decide)) (x_lst xa_nil) (nomark _)) (b_one (s_store (room_u hr 1 (by decide)) (pv 1) (x_var (pv 3)) (x_lst xa_nil))) b_nil))))))) (b_one (s_ret (x_cmp (o_eq (room_u hr 64 (by decide))) (x_lc rfl S.nd (i_seq (x_var (pv 1))) (blkOk_by (own := [("row", 6)]) (by kernel_rfl)) (fun _ _ _ _ _ => (g_name (i := 6) S.nd rfl (by first | exact Or.inl rfl | exact Or.inr rfl))) (fun _ _ _ _ _ => (ts_one (tx_cmp (o_ne (room_u hr 64 (by decide))) (x_var (pv 6)) (x_lst xa_nil) (nomark _)))) (fun _ _ _ _ _ => (x_var (pv 6))) (by decide)) (x_lst xa_nil) (nomark _))))))
/-! ### _law_is_number: slots 0 value 1 many -/
abbrev N__law_is_number : List Str := ["value", "many"]
abbrev ps__law_is_number : List Str := ["value", "many"]
theorem S__law_is_number : FnScope N__law_is_number ps__law_is_number (defScope s__law_is_number) := ⟨rfl, rfl, rfl, by decide +kernel, rfl, by decide +kernel, by decide +kernel⟩
def g__law_is_number : Sl → M Out :=
  (sRet (xAnd (xIsi (isT "int") (xVar 0)) (xAnd (xUn notR (xIsi (isT "bool") (xVar 0))) (xChain leR ltR (xC (.int 0)) (xVar 0) (xVar 1)))))
def M__law_is_number : Sl → M RV := bodyM 0 g__law_is_number
theorem ok__law_is_number (T : Top K mg) : FnG P w K mg base CX0 1 (He.ga K "_law_is_number") T.d__law_is_number ps__law_is_number (spD K 2 M__law_is_number) := by
    have S := S__law_is_number

    refine fn_def (k := 0) T.F__law_is_number S rfl rfl fun cdv A outer s H E hg hr => ?_
    exact (b_one (s_ret (x_and (x_isi (T' := "int") rfl kit_int (x_var (pv 0)) (by exact rfl) T.b_isinstance (by exact rfl) T.b_int (by decide +kernel)) (x_and (x_not (x_isi (T' := "bool") rfl kit_bool (x_var (pv 0)) (by exact rfl) T.b_isinstance (by exact rfl) T.b_bool (by decide +kernel))) (x_one (x_chain o_le (o_lt (room_u hr 64 (by decide))) x_int (x_var (pv 0)) (x_var (pv 1))))))))
/-! ### _law_told: slots 0 kind 1 columns 2 parts 3 value 4 error -/
abbrev N__law_told : List Str := ["kind", "columns", "parts", "value", "error"]
abbrev ps__law_told : List Str := ["kind", "columns", "parts", "value"]
theorem S__law_told : FnScope N__law_told ps__law_told (defScope s__law_told) := ⟨rfl, rfl, rfl, by decide +kernel, rfl, by decide +kernel, by decide +kernel⟩
def g__law_told : Sl → M Out :=
  (sTryAs "NotPossible" "why" "not possible" (sRet (xTup (aCons (xC (.str "told")) (aCons (xIf (tBin eqR (xVar 0) (xC (.str "out"))) (xFn 2 M_taking_out (aCons (xVar 1) (aCons (xVar 2) aNil)) []) (xFn 3 M_accepts_taking_out (aCons (xVar 1) (aCons (xVar 2) (aCons (xVar 3) aNil))) [])) aNil)))))
def M__law_told : Sl → M RV := bodyM 1 g__law_told
theorem ok__law_told (T : Top K mg) : FnG P w K mg base CX0 7 (He.ga K "_law_told") T.d__law_told ps__law_told (spD K 4 M__law_told) := by
    have S := S__law_told
    have c_taking_out := (ok_taking_out (P := P) (w := w) (base := base) T).mono (k := 6) (by omega)
    have c_accepts_taking_out := (ok_accepts_taking_out (P := P) (w := w) (base := base) T).mono (k := 6) (by omega)
    have b_taking_out_2 := T.F_taking_out.bindsN (ps := ["columns", "parts"]) fun _ _ _ _ _ _ us hl => match us, hl with | [_, _], _ => rfl
    have v_taking_out_2 : Vals ([] : List V) [] := .nil
    have b_accepts_taking_out_3 := T.F_accepts_taking_out.bindsN (ps := ["columns", "parts", "value"]) fun _ _ _ _ _ _ us hl => match us, hl with | [_, _, _], _ => rfl
    have v_accepts_taking_out_3 : Vals ([] : List V) [] := .nil
    refine fn_def (k := 6) T.F__law_told S rfl rfl fun cdv A outer s H E hg hr => ?_
    exact (b_one (s_tryAs (i := 4) T.x_NotPossible rfl rfl S.nd rfl rfl (Or.inl rfl) (by exact rfl) rfl (fun E2 pn xe tk po => (b_one (s_ret (x_tup (xa_cons x_str (xa_cons (x_if (tx_cmp (o_eq (room_u hr 64 (by decide))) (x_var (pv 0)) x_str (nomark _)) (x_fn (dds := []) c_taking_out hg hr (by exact rfl) T.m_taking_out T.F_taking_out.kp b_taking_out_2 v_taking_out_2 (fun _ => .nil) (passes_call tk (fun _ _ _ _ h => h)) (xa_cons (x_var (pv 1)) (xa_cons (x_var (pv 2)) xa_nil))) (x_fn (dds := []) c_accepts_taking_out hg hr (by exact rfl) T.m_accepts_taking_out T.F_accepts_taking_out.kp b_accepts_taking_out_3 v_accepts_taking_out_3 (fun _ => .nil) passN (xa_cons (x_var (pv 1)) (xa_cons (x_var (pv 2)) (xa_cons (x_var (pv 3)) xa_nil))))) xa_nil))))))))
/-! ### _law_held: slots 0 parts 1 left 2 column 3 mine 4 other 5 number 6 one -/
abbrev N__law_held : List Str := ["parts", "left", "column", "mine", "other", "number", "one"]
abbrev ps__law_held : List Str := ["parts", "left", "column"]
theorem S__law_held : FnScope N__law_held ps__law_held (defScope s__law_held) := ⟨rfl, rfl, rfl, by decide +kernel, rfl, by decide +kernel, by decide +kernel⟩
def g__law_held : Sl → M Out :=
  (sSeq (sSetF 3 (xLc (iSeq (xVar 1)) [4] (gNm 4) (tOrM (tBin eqR (xVar 4) (xVar 2)) (tTru (xFn 3 M__law_near (aCons (xVar 0) (aCons (xVar 2) (aCons (xVar 4) aNil))) []))) (xVar 4))) (sRet (xLc (iRng rng1 (aCons (xCall lenR (aCons (xVar 0) aNil)) aNil)) [5] (gNm 5) (tBin eqR (xLc (iSeq (xVar 3)) [6] (gNm 6) (tBin notInR (xVar 6) (xIx (xVar 0) (xVar 5))) (xVar 6)) (xLst aNil)) (xVar 5))))
def M__law_held : Sl → M RV := bodyM 4 g__law_held
theorem ok__law_held (T : Top K mg) : FnG P w K mg base CX0 2 (He.ga K "_law_held") T.d__law_held ps__law_held (spD K 3 M__law_held) := by
    have S := S__law_held
    have c__law_near := (ok__law_near (P := P) (w := w) (base := base) T).mono (k := 1) (by omega)
    have b__law_near_3 := T.F__law_near.bindsN (ps := ["parts", "one", "other"]) fun _ _ _ _ _ _ us hl => match us, hl with | [_, _, _], _ => rfl
    have v__law_near_3 : Vals ([] : List V) [] := .nil
    refine fn_def (k := 1) T.F__law_held S rfl rfl fun cdv A outer s H E hg hr => ?_
    exact (b_cons (s_setF (i := 3) S.nd rfl (by first | exact Or.inl rfl | exact Or.inr rfl) (x_lc rfl S.nd (i_seq (x_var (pv 1))) (blkOk_by (own := [("other", 4)]) (by kernel_rfl)) (fun _ _ _ _ _ => (g_name (i := 4) S.nd rfl (by first | exact Or.inl rfl | exact Or.inr rfl))) (fun _ _ _ _ _ => (ts_one (PXW.t (tw_or (tx_cmp (o_eq (room_u hr 64 (by decide))) (x_var (pv 4)) (x_var (pv 2)) (nomark _)) (tw_or1 (tx_tru (x_fn (dds := []) c__law_near hg hr (by exact rfl) T.m__law_near T.F__law_near.kp b__law_near_3 v__law_near_3 (fun _ => .nil) passN (xa_cons (x_var (pv 0)) (xa_cons (x_var (pv 2)) (xa_cons (x_var (pv 4)) xa_nil)))))))))) (fun _ _ _ _ _ => (x_var (pv 4))) (by decide))) (b_one (s_ret (x_lc rfl S.nd (i_rng1 (by exact rfl) T.b_range (xa_cons (x_callB c_len (by exact rfl) T.b_len (by decide +kernel) (xa_cons (x_var (pv 0)) xa_nil)) xa_nil)) (blkOk_by (own := [("number", 5)]) (by kernel_rfl)) (fun _ _ _ _ _ => (g_name (i := 5) S.nd rfl (by first | exact Or.inl rfl | exact Or.inr rfl))) (fun _ _ _ _ _ => (ts_one (tx_cmp (o_eq (room_u hr 64 (by decide))) (x_lc rfl S.nd (i_seq (x_var (pv 3))) (blkOk_by (own := [("one", 6)]) (by kernel_rfl)) (fun _ _ _ _ _ => (g_name (i := 6) S.nd rfl (by first | exact Or.inl rfl | exact Or.inr rfl))) (fun _ _ _ _ _ => (ts_one (tx_cmp (o_notIn (room_u hr 65 (by decide))) (x_var (pv 6)) (x_ix (room_u hr 1 (by decide)) (x_var (pv 0)) (x_var (pv 5))) (by with_unfolding_all rfl)))) (fun _ _ _ _ _ => (x_var (pv 6))) (by decide)) (x_lst xa_nil) (nomark _)))) (fun _ _ _ _ _ => (x_var (pv 5))) (by decide)))))
/-! ### _law_first: slots 0 columns 1 parts 2 turn 3 left 4 found 5 ready 6 column -/
abbrev N__law_first : List Str := ["columns", "parts", "turn", "left", "found", "ready", "column"]
abbrev ps__law_first : List Str := ["columns", "parts"]
theorem S__law_first : FnScope N__law_first ps__law_first (defScope s__law_first) := ⟨rfl, rfl, rfl, by decide +kernel, rfl, by decide +kernel, by decide +kernel⟩
def g__law_first : Sl → M Out :=
  (sSeq (sPar 3 4 (xCall listR (aCons (xVar 0) aNil)) (xLst aNil)) (sSeq (sFrz 3 (sFor (iRng rng1 (aCons (xCall lenR (aCons (xVar 0) aNil)) aNil)) (gNm 2) (sSeq (sSetF 5 (xLc (iSeq (xVar 3)) [6] (gNm 6) (tBin neR (xFn 3 M__law_held (aCons (xVar 1) (aCons (xVar 3) (aCons (xVar 6) aNil))) []) (xLst aNil)) (xVar 6))) (sSeq (sIf (tBin eqR (xVar 5) (xLst aNil)) (sRet (xC .none)) sNil) (sSeq (sApp 4 (xTup (aCons (xIx (xVar 5) (xC (.int 0))) (aCons (xIx (xFn 3 M__law_held (aCons (xVar 1) (aCons (xVar 3) (aCons (xIx (xVar 5) (xC (.int 0))) aNil))) []) (xC (.int 0))) aNil)))) (sSetF 3 (xLc (iSeq (xVar 3)) [6] (gNm 6) (tBin neR (xVar 6) (xIx (xVar 5) (xC (.int 0)))) (xVar 6)))))))) (sRet (xCall tupleR (aCons (xVar 4) aNil)))))
def M__law_first : Sl → M RV := bodyM 5 g__law_first
theorem ok__law_first (T : Top K mg) : FnG P w K mg base CX0 3 (He.ga K "_law_first") T.d__law_first ps__law_first (spD K 2 M__law_first) := by
    have S := S__law_first
    have c__law_held := (ok__law_held (P := P) (w := w) (base := base) T).mono (k := 2) (by omega)
    have b__law_held_3 := T.F__law_held.bindsN (ps := ["parts", "left", "column"]) fun _ _ _ _ _ _ us hl => match us, hl with | [_, _, _], _ => rfl
    have v__law_held_3 : Vals ([] : List V) [] := .nil
    refine fn_def (k := 2) T.F__law_first S rfl rfl fun cdv A outer s H E hg hr => ?_
    exact (b_cons (s_parN (i := 3) (j := 4) rfl S.nd rfl rfl (by decide) (by first | exact Or.inl rfl | exact Or.inr rfl) (by first | exact Or.inl rfl | exact Or.inr rfl) (x_callTy (c_list rfl) (by exact rfl) T.b_list (by decide +kernel) (xa_cons (x_var (pv 0)) xa_nil)) (x_lst xa_nil) rfl) (b_cons (s_frz 3 (s_for no_own rfl (i_rng1 (by exact rfl) T.b_range (xa_cons (x_callB c_len (by exact rfl) T.b_len (by decide +kernel) (xa_cons (x_var (pv 0)) xa_nil)) xa_nil)) (g_name (i := 2) S.nd rfl (by first | exact Or.inl rfl | exact Or.inr rfl)) (b_cons (s_setF (i := 5) S.nd rfl (by first | exact Or.inl rfl | exact Or.inr rfl) (x_lc rfl S.nd (i_seq (x_var (pv 3))) (blkOk_by (own := [("column", 6)]) (by kernel_rfl)) (fun _ _ _ _ _ => (g_name (i := 6) S.nd rfl (by first | exact Or.inl rfl | exact Or.inr rfl))) (fun _ _ _ _ _ => (ts_one (tx_cmp (o_ne (room_u hr 64 (by decide))) (x_fn (dds := []) c__law_held hg hr (by exact rfl) T.m__law_held T.F__law_held.kp b__law_held_3 v__law_held_3 (fun _ => .nil) passN (xa_cons (x_var (pv 1)) (xa_cons (x_var (pv 3)) (xa_cons (x_var (pv 6)) xa_nil)))) (x_lst xa_nil) (nomark _)))) (fun _ _ _ _ _ => (x_var (pv 6))) (by decide))) (b_cons (s_if (tx_cmp (o_eq (room_u hr 64 (by decide))) (x_var (pv 5)) (x_lst xa_nil) (nomark _)) (b_one (s_ret x_non)) b_nil) (b_cons (s_app (pv 4) (x_tup (xa_cons (x_ix (room_u hr 1 (by decide)) (x_var (pv 5)) x_int) (xa_cons (x_ix (room_u hr 1 (by decide)) (x_fn (dds := []) c__law_held hg hr (by exact rfl) T.m__law_held T.F__law_held.kp b__law_held_3 v__law_held_3 (fun _ => .nil) passN (xa_cons (x_var (pv 1)) (xa_cons (x_var (pv 3)) (xa_cons (x_ix (room_u hr 1 (by decide)) (x_var (pv 5)) x_int) xa_nil)))) x_int) xa_nil)))) (b_one (s_setF (i := 3) S.nd rfl (by first | exact Or.inl rfl | exact Or.inr rfl) (x_lc rfl S.nd (i_seq (x_var (pv 3))) (blkOk_by (own := [("column", 6)]) (by kernel_rfl)) (fun _ _ _ _ _ => (g_name (i := 6) S.nd rfl (by first | exact Or.inl rfl | exact Or.inr rfl))) (fun _ _ _ _ _ => (ts_one (tx_cmp (o_ne (room_u hr 64 (by decide))) (x_var (pv 6)) (x_ix (room_u hr 1 (by decide)) (x_var (pv 5)) x_int) (nomark _)))) (fun _ _ _ _ _ => (x_var (pv 6))) (by decide))))))))) (b_one (s_ret (x_callTy c_tuple (by exact rfl) T.b_tuple (by decide +kernel) (xa_cons (x_var (pv 4)) xa_nil))))))
/-! ### _law_drawn: slots 0 stream 1 columns 2 parts 3 turn 4 left 5 found 6 ready 7 column 8 held 9 one -/
abbrev N__law_drawn : List Str := ["stream", "columns", "parts", "turn", "left", "found", "ready", "column", "held", "one"]
abbrev ps__law_drawn : List Str := ["stream", "columns", "parts"]
theorem S__law_drawn : FnScope N__law_drawn ps__law_drawn (defScope s__law_drawn) := ⟨rfl, rfl, rfl, by decide +kernel, rfl, by decide +kernel, by decide +kernel⟩
def g__law_drawn : Sl → M Out :=
  (sSeq (sPar 4 5 (xFn 2 M__law_shuffled (aCons (xVar 0) (aCons (xVar 1) aNil)) []) (xLst aNil)) (sSeq (sFrz 4 (sFor (iRng rng1 (aCons (xCall lenR (aCons (xVar 1) aNil)) aNil)) (gNm 3) (sSeq (sSetF 6 (xLc (iSeq (xVar 4)) [7] (gNm 7) (tBin neR (xFn 3 M__law_held (aCons (xVar 2) (aCons (xVar 4) (aCons (xVar 7) aNil))) []) (xLst aNil)) (xVar 7))) (sSeq (sSetF 7 (xFn 2 M__law_pick (aCons (xVar 0) (aCons (xIf (tBin neR (xVar 6) (xLst aNil)) (xVar 6) (xVar 4)) aNil)) [])) (sSeq (sSetF 8 (xFn 3 M__law_held (aCons (xVar 2) (aCons (xVar 4) (aCons (xVar 7) aNil))) [])) (sSeq (sApp 5 (xTup (aCons (xVar 7) (aCons (xIf (tBin neR (xVar 8) (xLst aNil)) (xFn 2 M__law_pick (aCons (xVar 0) (aCons (xVar 8) aNil)) []) (xFn 2 M__law_next (aCons (xVar 0) (aCons (xCall lenR (aCons (xVar 2) aNil)) aNil)) [])) aNil)))) (sSetF 4 (xLc (iSeq (xVar 4)) [9] (gNm 9) (tBin neR (xVar 9) (xVar 7)) (xVar 9))))))))) (sRet (xCall tupleR (aCons (xVar 5) aNil)))))
def M__law_drawn : Sl → M RV := bodyM 7 g__law_drawn
theorem ok__law_drawn (T : Top K mg) : FnG P w K mg base CX0 3 (He.ga K "_law_drawn") T.d__law_drawn ps__law_drawn (spD K 3 M__law_drawn) := by
    have S := S__law_drawn
    have c__law_shuffled := (ok__law_shuffled (P := P) (w := w) (base := base) T).mono (k := 2) (by omega)
    have c__law_held := (ok__law_held (P := P) (w := w) (base := base) T).mono (k := 2) (by omega)
    have c__law_pick := (ok__law_pick (P := P) (w := w) (base := base) T).mono (k := 2) (by omega)
    have c__law_next := (ok__law_next (P := P) (w := w) (base := base) T).mono (k := 2) (by omega)
    have b__law_shuffled_2 := T.F__law_shuffled.bindsN (ps := ["stream", "rows"]) fun _ _ _ _ _ _ us hl => match us, hl with | [_, _], _ => rfl
    have v__law_shuffled_2 : Vals ([] : List V) [] := .nil
    have b__law_held_3 := T.F__law_held.bindsN (ps := ["parts", "left", "column"]) fun _ _ _ _ _ _ us hl => match us, hl with | [_, _, _], _ => rfl
    have v__law_held_3 : Vals ([] : List V) [] := .nil
    have b__law_pick_2 := T.F__law_pick.bindsN (ps := ["stream", "rows"]) fun _ _ _ _ _ _ us hl => match us, hl with | [_, _], _ => rfl
    have v__law_pick_2 : Vals ([] : List V) [] := .nil
    have b__law_next_2 := T.F__law_next.bindsN (ps := ["stream", "many"]) fun _ _ _ _ _ _ us hl => match us, hl with | [_, _], _ => rfl
    have v__law_next_2 : Vals ([] : List V) [] := .nil
    refine fn_def (k := 2) T.F__law_drawn S rfl rfl fun cdv A outer s H E hg hr => ?_
    exact (b_cons (s_parN (i := 4) (j := 5) rfl S.nd rfl rfl (by decide) (by first | exact Or.inl rfl | exact Or.inr rfl) (by first | exact Or.inl rfl | exact Or.inr rfl) (x_fn (dds := []) c__law_shuffled hg hr (by exact rfl) T.m__law_shuffled T.F__law_shuffled.kp b__law_shuffled_2 v__law_shuffled_2 (fun _ => .nil) passN (xa_cons (x_var (pv 0)) (xa_cons (x_var (pv 1)) xa_nil))) (x_lst xa_nil) rfl) (b_cons (s_frz 4 (s_for no_own rfl (i_rng1 (by exact rfl) T.b_range (xa_cons (x_callB c_len (by exact rfl) T.b_len (by decide +kernel) (xa_cons (x_var (pv 1)) xa_nil)) xa_nil)) (g_name (i := 3) S.nd rfl (by first | exact Or.inl rfl | exact Or.inr rfl)) (b_cons (s_setLcF (i := 6) rfl S.nd rfl rfl rfl (i_seq (x_var (pv 4))) (blkOk_by (own := [("column", 7)]) (by kernel_rfl)) (fun _ _ _ _ _ => (g_name (i := 7) S.nd rfl (by first | exact Or.inl rfl | exact Or.inr rfl))) (fun _ _ _ _ _ => (ts_one (tx_cmp (o_ne (room_u hr 64 (by decide))) (x_fn (dds := []) c__law_held hg hr (by exact rfl) T.m__law_held T.F__law_held.kp b__law_held_3 v__law_held_3 (fun _ => .nil) passN (xa_cons (x_var (pv 2)) (xa_cons (x_var (pv 4)) (xa_cons (x_var (pv 7)) xa_nil)))) (x_lst xa_nil) (nomark _)))) (fun _ _ _ _ _ => (x_var (pv 7))) (by decide) (fun _ => rfl)) (b_cons (s_setF (i := 7) S.nd rfl (by first | exact Or.inl rfl | exact Or.inr rfl) (x_fn (dds := []) c__law_pick hg hr (by exact rfl) T.m__law_pick T.F__law_pick.kp b__law_pick_2 v__law_pick_2 (fun _ => .nil) passN (xa_cons (x_var (pv 0)) (xa_cons (x_if (tx_cmp (o_ne (room_u hr 64 (by decide))) (x_var (pv 6)) (x_lst xa_nil) (nomark _)) (x_var (pv 6)) (x_var (pv 4))) xa_nil)))) (b_cons (s_setF (i := 8) S.nd rfl (by first | exact Or.inl rfl | exact Or.inr rfl) (x_fn (dds := []) c__law_held hg hr (by exact rfl) T.m__law_held T.F__law_held.kp b__law_held_3 v__law_held_3 (fun _ => .nil) passN (xa_cons (x_var (pv 2)) (xa_cons (x_var (pv 4)) (xa_cons (x_var (pv 7)) xa_nil))))) (b_cons (s_app (pv 5) (x_tup (xa_cons (x_var (pv 7)) (xa_cons (x_if (tx_cmp (o_ne (room_u hr 64 (by decide))) (x_var (pv 8)) (x_lst xa_nil) (nomark _)) (x_fn (dds := []) c__law_pick hg hr (by exact rfl) T.m__law_pick T.F__law_pick.kp b__law_pick_2 v__law_pick_2 (fun _ => .nil) passN (xa_cons (x_var (pv 0)) (xa_cons (x_var (pv 8)) xa_nil))) (x_fn (dds := []) c__law_next hg hr (by exact rfl) T.m__law_next T.F__law_next.kp b__law_next_2 v__law_next_2 (fun _ => .nil) passN (xa_cons (x_var (pv 0)) (xa_cons (x_callB c_len (by exact rfl) T.b_len (by decide +kernel) (xa_cons (x_var (pv 2)) xa_nil)) xa_nil)))) xa_nil)))) (b_one (s_setF (i := 4) S.nd rfl (by first | exact Or.inl rfl | exact Or.inr rfl) (x_lc rfl S.nd (i_seq (x_var (pv 4))) (blkOk_by (own := [("one", 9)]) (by kernel_rfl)) (fun _ _ _ _ _ => (g_name (i := 9) S.nd rfl (by first | exact Or.inl rfl | exact Or.inr rfl))) (fun _ _ _ _ _ => (ts_one (tx_cmp (o_ne (room_u hr 64 (by decide))) (x_var (pv 9)) (x_var (pv 7)) (nomark _)))) (fun _ _ _ _ _ => (x_var (pv 9))) (by decide)))))))))) (b_one (s_ret (x_callTy c_tuple (by exact rfl) T.b_tuple (by decide +kernel) (xa_cons (x_var (pv 5)) xa_nil))))))
/-! ### _law_is_one: slots 0 columns 1 parts 2 value 3 left 4 step 5 column -/
abbrev N__law_is_one : List Str := ["columns", "parts", "value", "left", "step", "column"]
abbrev ps__law_is_one : List Str := ["columns", "parts", "value"]
theorem S__law_is_one : FnScope N__law_is_one ps__law_is_one (defScope s__law_is_one) := ⟨rfl, rfl, rfl, by decide +kernel, rfl, by decide +kernel, by decide +kernel⟩
def g__law_is_one : Sl → M Out :=
  (sSeq (sIf (tOrM (tNotM (tTru (xFn 1 M__law_plain (aCons (xVar 2) aNil) []))) (tOrM (tNotM (tTru (xIsi (isT "tuple") (xVar 2)))) (tBin neR (xCall lenR (aCons (xVar 2) aNil)) (xCall lenR (aCons (xVar 0) aNil))))) (sRet (xC (.bool false))) sNil) (sSeq (sSetF 3 (xCall listR (aCons (xVar 0) aNil))) (sSeq (sFor (iSeq (xVar 2)) (gNm 4) (sSeq (sIf (tOrM (tNotM (tTru (xIsi (isT "tuple") (xVar 4)))) (tOrM (tBin neR (xCall lenR (aCons (xVar 4) aNil)) (xC (.int 2))) (tOrM (tNotM (tTru (xIsi (isT "str") (xIx (xVar 4) (xC (.int 0)))))) (tOrM (tBin notInR (xIx (xVar 4) (xC (.int 0))) (xVar 3)) (tNotM (tTru (xFn 2 M__law_is_number (aCons (xIx (xVar 4) (xC (.int 1))) (aCons (xCall lenR (aCons (xVar 1) aNil)) aNil)) []))))))) (sRet (xC (.bool false))) sNil) (sSeq (sIf (tBin notInR (xIx (xVar 4) (xC (.int 1))) (xFn 3 M__law_held (aCons (xVar 1) (aCons (xVar 3) (aCons (xIx (xVar 4) (xC (.int 0))) aNil))) [])) (sRet (xC (.bool false))) sNil) (sSetF 3 (xLc (iSeq (xVar 3)) [5] (gNm 5) (tBin neR (xVar 5) (xIx (xVar 4) (xC (.int 0)))) (xVar 5)))))) (sRet (xC (.bool true))))))
def M__law_is_one : Sl → M RV := bodyM 3 g__law_is_one
theorem ok__law_is_one (T : Top K mg) : FnG P w K mg base CX0 102 (He.ga K "_law_is_one") T.d__law_is_one ps__law_is_one (spD K 3 M__law_is_one) := by
    have S := S__law_is_one
    have c__law_plain := (ok__law_plain (P := P) (w := w) (base := base) T).mono (k := 101) (by omega)
    have c__law_is_number := (ok__law_is_number (P := P) (w := w) (base := base) T).mono (k := 101) (by omega)
    have c__law_held := (ok__law_held (P := P) (w := w) (base := base) T).mono (k := 101) (by omega)
    have b__law_plain_1 := T.F__law_plain.bindsN (ps := ["value"]) fun _ _ _ _ _ _ us hl => match us, hl with | [_], _ => rfl
    have v__law_plain_1 : Vals ([] : List V) [] := .nil
    have b__law_is_number_2 := T.F__law_is_number.bindsN (ps := ["value", "many"]) fun _ _ _ _ _ _ us hl => match us, hl with | [_, _], _ => rfl
    have v__law_is_number_2 : Vals ([] : List V) [] := .nil
    have b__law_held_3 := T.F__law_held.bindsN (ps := ["parts", "left", "column"]) fun _ _ _ _ _ _ us hl => match us, hl with | [_, _, _], _ => rfl
    have v__law_held_3 : Vals ([] : List V) [] := .nil
    refine fn_def (k := 101) T.F__law_is_one S rfl rfl fun cdv A outer s H E hg hr => ?_
    exact (b_cons (s_if (PXW.t (tw_or (tx_not (tx_tru (x_fn (dds := []) c__law_plain hg hr (by exact rfl) T.m__law_plain T.F__law_plain.kp b__law_plain_1 v__law_plain_1 (fun _ => .nil) passN (xa_cons (x_var (pv 2)) xa_nil)))) (tw_or (tx_not (tx_tru (x_isi (T' := "tuple") rfl kit_tuple (x_var (pv 2)) (by exact rfl) T.b_isinstance (by exact rfl) T.b_tuple (by decide +kernel)))) (tw_or1 (tx_cmp (o_ne (room_u hr 64 (by decide))) (x_callB c_len (by exact rfl) T.b_len (by decide +kernel) (xa_cons (x_var (pv 2)) xa_nil)) (x_callB c_len (by exact rfl) T.b_len (by decide +kernel) (xa_cons (x_var (pv 0)) xa_nil)) (nomark _)))))) (b_one (s_ret x_bl)) b_nil) (b_cons (s_setF (i := 3) S.nd rfl (by first | exact Or.inl rfl | exact Or.inr rfl) (x_callTy (c_list rfl) (by exact rfl) T.b_list (by decide +kernel) (xa_cons (x_var (pv 0)) xa_nil))) (b_cons (s_for no_own rfl (i_seq (x_var (pv 2))) (g_name (i := 4) S.nd rfl (by first | exact Or.inl rfl | exact Or.inr rfl)) (b_cons (s_if (PXW.t (tw_or (tx_not (tx_tru (x_isi (T' := "tuple") rfl kit_tuple (x_var (pv 4)) (by exact rfl) T.b_isinstance (by exact rfl) T.b_tuple (by decide +kernel)))) (tw_or (tx_cmp (o_ne (room_u hr 64 (by decide))) (x_callB c_len (by exact rfl) T.b_len (by decide +kernel) (xa_cons (x_var (pv 4)) xa_nil)) x_int (nomark _)) (tw_or (tx_not (tx_tru (x_isi (T' := "str") rfl kit_str (x_ix (room_u hr 1 (by decide)) (x_var (pv 4)) x_int) (by exact rfl) T.b_isinstance (by exact rfl) T.b_str (by decide +kernel)))) (tw_or (tx_cmp (o_notIn (room_u hr 65 (by decide))) (x_ix (room_u hr 1 (by decide)) (x_var (pv 4)) x_int) (x_var (pv 3)) (by with_unfolding_all rfl)) (tw_or1 (tx_not (tx_tru (x_fn (dds := []) c__law_is_number hg hr (by exact rfl) T.m__law_is_number T.F__law_is_number.kp b__law_is_number_2 v__law_is_number_2 (fun _ => .nil) passN (xa_cons (x_ix (room_u hr 1 (by decide)) (x_var (pv 4)) x_int) (xa_cons (x_callB c_len (by exact rfl) T.b_len (by decide +kernel) (xa_cons (x_var (pv 1)) xa_nil)) xa_nil))))))))))) (b_one (s_ret x_bl)) b_nil) (b_cons (s_if (tx_cmp (o_notIn (room_u hr 65 (by decide))) (x_ix (room_u hr 1 (by decide)) (x_var (pv 4)) x_int) (x_fn (dds := []) c__law_held hg hr (by exact rfl) T.m__law_held T.F__law_held.kp b__law_held_3 v__law_held_3 (fun _ => .nil) passN (xa_cons (x_var (pv 1)) (xa_cons (x_var (pv 3)) (xa_cons (x_ix (room_u hr 1 (by decide)) (x_var (pv 4)) x_int) xa_nil)))) (by with_unfolding_all rfl)) (b_one (s_ret x_bl)) b_nil) (b_one (s_setLcF (i := 3) rfl S.nd rfl rfl rfl (i_seq (x_var (pv 3))) (blkOk_by (own := [("column", 5)]) (by kernel_rfl)) (fun _ _ _ _ _ => (g_name (i := 5) S.nd rfl (by first | exact Or.inl rfl | exact Or.inr rfl))) (fun _ _ _ _ _ => (ts_one (tx_cmp (o_ne (room_u hr 64 (by decide))) (x_var (pv 5)) (x_ix (room_u hr 1 (by decide)) (x_var (pv 4)) x_int) (nomark _)))) (fun _ _ _ _ _ => (x_var (pv 5))) (by decide) (fun _ => rfl)))))) (b_one (s_ret x_bl)))))
/-! ### _law_bent: slots 0 stream 1 columns 2 parts 3 value 4 at 5 odd 6 column 7 number -/
abbrev N__law_bent : List Str := ["stream", "columns", "parts", "value", "at", "odd", "column", "number"]
abbrev ps__law_bent : List Str := ["stream", "columns", "parts", "value"]
theorem S__law_bent : FnScope N__law_bent ps__law_bent (defScope s__law_bent) := ⟨rfl, rfl, rfl, by decide +kernel, rfl, by decide +kernel, by decide +kernel⟩
def g__law_bent : Sl → M Out :=
  (sSeq (sSetF 4 (xFn 2 M__law_next (aCons (xVar 0) (aCons (xCall lenR (aCons (xVar 3) aNil)) aNil)) [])) (sSeq (sAsg (gTp 2 (gsCons (gNm 6) (gsCons (gNm 7) gsNil))) (xIx (xVar 3) (xVar 4))) (sSeq (sSet 5 (xLst (aCons (xBin addR (xSl (xVar 3) pNone (pSome (xVar 4))) (xSl (xVar 3) (pSome (xBin addR (xVar 4) (xC (.int 1)))) pNone)) (aCons (xRev (xVar 3)) (aCons (xBin addR (xSl (xVar 3) (pSome (xC (.int 1))) pNone) (xSl (xVar 3) pNone (pSome (xC (.int 1))))) (aCons (xBin addR (xBin addR (xSl (xVar 3) pNone (pSome (xVar 4))) (xSl (xVar 3) (pSome (xVar 4)) (pSome (xBin addR (xVar 4) (xC (.int 1)))))) (xSl (xVar 3) (pSome (xVar 4)) pNone)) (aCons (xCall listR (aCons (xVar 3) aNil)) (aCons (xBin addR (xBin addR (xSl (xVar 3) pNone (pSome (xVar 4))) (xTup (aCons (xLst (aCons (xVar 6) (aCons (xVar 7) aNil))) aNil))) (xSl (xVar 3) (pSome (xBin addR (xVar 4) (xC (.int 1)))) pNone)) aNil)))))))) (sSeq (sExt 5 (xLst (aCons (xBin addR (xBin addR (xSl (xVar 3) pNone (pSome (xVar 4))) (xTup (aCons (xTup (aCons (xFn 2 M__law_pick (aCons (xVar 0) (aCons (xVar 1) aNil)) []) (aCons (xVar 7) aNil))) aNil))) (xSl (xVar 3) (pSome (xBin addR (xVar 4) (xC (.int 1)))) pNone)) (aCons (xBin addR (xBin addR (xSl (xVar 3) pNone (pSome (xVar 4))) (xTup (aCons (xTup (aCons (xVar 6) (aCons (xFn 2 M__law_next (aCons (xVar 0) (aCons (xBin addR (xCall lenR (aCons (xVar 2) aNil)) (xC (.int 1))) aNil)) []) aNil))) aNil))) (xSl (xVar 3) (pSome (xBin addR (xVar 4) (xC (.int 1)))) pNone)) aNil)))) (sRet (xFn 2 M__law_pick (aCons (xVar 0) (aCons (xBin addR (xVar 5) (xLst (aCons (xBin addR (xBin addR (xSl (xVar 3) pNone (pSome (xVar 4))) (xTup (aCons (xTup (aCons (xVar 6) (aCons (xBin eqR (xVar 7) (xC (.int 1))) aNil))) aNil))) (xSl (xVar 3) (pSome (xBin addR (xVar 4) (xC (.int 1)))) pNone)) (aCons (xBin addR (xBin addR (xSl (xVar 3) pNone (pSome (xVar 4))) (xTup (aCons (xTup (aCons (xVar 6) (aCons (xC .none) aNil))) aNil))) (xSl (xVar 3) (pSome (xBin addR (xVar 4) (xC (.int 1)))) pNone)) (aCons (xBin addR (xBin addR (xSl (xVar 3) pNone (pSome (xVar 4))) (xTup (aCons (xTup (aCons (xVar 6) aNil)) aNil))) (xSl (xVar 3) (pSome (xBin addR (xVar 4) (xC (.int 1)))) pNone)) aNil))))) aNil)) []))))))
def M__law_bent : Sl → M RV := bodyM 4 g__law_bent
theorem ok__law_bent (T : Top K mg) : FnG P w K mg base CX0 3 (He.ga K "_law_bent") T.d__law_bent ps__law_bent (spD K 4 M__law_bent) := by
    have S := S__law_bent
    have c__law_next := (ok__law_next (P := P) (w := w) (base := base) T).mono (k := 2) (by omega)
    have c__law_pick := (ok__law_pick (P := P) (w := w) (base := base) T).mono (k := 2) (by omega)
    have b__law_next_2 := T.F__law_next.bindsN (ps := ["stream", "many"]) fun _ _ _ _ _ _ us hl => match us, hl with | [_, _], _ => rfl
    have v__law_next_2 : Vals ([] : List V) [] := .nil
    have b__law_pick_2 := T.F__law_pick.bindsN (ps := ["stream", "rows"]) fun _ _ _ _ _ _ us hl => match us, hl with | [_, _], _ => rfl
    have v__law_pick_2 : Vals ([] : List V) [] := .nil
    refine fn_def (k := 2) T.F__law_bent S rfl rfl fun cdv A outer s H E hg hr => ?_
    exact (b_cons (s_setF (i := 4) S.nd rfl (by first | exact Or.inl rfl | exact Or.inr rfl) (x_fn (dds := []) c__law_next hg hr (by exact rfl) T.m__law_next T.F__law_next.kp b__law_next_2 v__law_next_2 (fun _ => .nil) passN (xa_cons (x_var (pv 0)) (xa_cons (x_callB c_len (by exact rfl) T.b_len (by decide +kernel) (xa_cons (x_var (pv 3)) xa_nil)) xa_nil)))) (b_cons (s_asg (g_tup rfl (gs_cons (g_name (i := 6) S.nd rfl (by first | exact Or.inl rfl | exact Or.inr rfl)) (gs_cons (g_name (i := 7) S.nd rfl (by first | exact Or.inl rfl | exact Or.inr rfl)) gs_nil))) (x_ix (room_u hr 1 (by decide)) (x_var (pv 3)) (x_var (pv 4)))) (b_cons (s_set (i := 5) S.nd rfl (by first | exact Or.inl rfl | exact Or.inr rfl) (x_lst (xa_cons (x_bin o_add (x_sl (x_var (pv 3)) xo_none (xo_some (x_var (pv 4)))) (x_sl (x_var (pv 3)) (xo_some (x_bin o_add (x_var (pv 4)) x_int)) xo_none)) (xa_cons (x_revT (x_var (pv 3))) (xa_cons (x_bin o_add (x_sl (x_var (pv 3)) (xo_some x_int) xo_none) (x_sl (x_var (pv 3)) xo_none (xo_some x_int))) (xa_cons (x_bin o_add (x_bin o_add (x_sl (x_var (pv 3)) xo_none (xo_some (x_var (pv 4)))) (x_sl (x_var (pv 3)) (xo_some (x_var (pv 4))) (xo_some (x_bin o_add (x_var (pv 4)) x_int)))) (x_sl (x_var (pv 3)) (xo_some (x_var (pv 4))) xo_none)) (xa_cons (x_callTy (c_list rfl) (by exact rfl) T.b_list (by decide +kernel) (xa_cons (x_var (pv 3)) xa_nil)) (xa_cons (x_bin o_add (x_bin o_add (x_sl (x_var (pv 3)) xo_none (xo_some (x_var (pv 4)))) (x_tup (xa_cons (x_lst (xa_cons (x_var (pv 6)) (xa_cons (x_var (pv 7)) xa_nil))) xa_nil))) (x_sl (x_var (pv 3)) (xo_some (x_bin o_add (x_var (pv 4)) x_int)) xo_none)) xa_nil)))))))) (b_cons (s_ext (pv 5) (x_lst (xa_cons (x_bin o_add (x_bin o_add (x_sl (x_var (pv 3)) xo_none (xo_some (x_var (pv 4)))) (x_tup (xa_cons (x_tup (xa_cons (x_fn (dds := []) c__law_pick hg hr (by exact rfl) T.m__law_pick T.F__law_pick.kp b__law_pick_2 v__law_pick_2 (fun _ => .nil) passN (xa_cons (x_var (pv 0)) (xa_cons (x_var (pv 1)) xa_nil))) (xa_cons (x_var (pv 7)) xa_nil))) xa_nil))) (x_sl (x_var (pv 3)) (xo_some (x_bin o_add (x_var (pv 4)) x_int)) xo_none)) (xa_cons (x_bin o_add (x_bin o_add (x_sl (x_var (pv 3)) xo_none (xo_some (x_var (pv 4)))) (x_tup (xa_cons (x_tup (xa_cons (x_var (pv 6)) (xa_cons (x_fn (dds := []) c__law_next hg hr (by exact rfl) T.m__law_next T.F__law_next.kp b__law_next_2 v__law_next_2 (fun _ => .nil) passN (xa_cons (x_var (pv 0)) (xa_cons (x_bin o_add (x_callB c_len (by exact rfl) T.b_len (by decide +kernel) (xa_cons (x_var (pv 2)) xa_nil)) x_int) xa_nil))) xa_nil))) xa_nil))) (x_sl (x_var (pv 3)) (xo_some (x_bin o_add (x_var (pv 4)) x_int)) xo_none)) xa_nil)))) (b_one (s_ret (x_fn (dds := []) c__law_pick hg hr (by exact rfl) T.m__law_pick T.F__law_pick.kp b__law_pick_2 v__law_pick_2 (fun _ => .nil) passN (xa_cons (x_var (pv 0)) (xa_cons (x_bin o_add (x_var (pv 5)) (x_lst (xa_cons (x_bin o_add (x_bin o_add (x_sl (x_var (pv 3)) xo_none (xo_some (x_var (pv 4)))) (x_tup (xa_cons (x_tup (xa_cons (x_var (pv 6)) (xa_cons (x_cmp (o_eq (room_u hr 64 (by decide))) (x_var (pv 7)) x_int (nomark _)) xa_nil))) xa_nil))) (x_sl (x_var (pv 3)) (xo_some (x_bin o_add (x_var (pv 4)) x_int)) xo_none)) (xa_cons (x_bin o_add (x_bin o_add (x_sl (x_var (pv 3)) xo_none (xo_some (x_var (pv 4)))) (x_tup (xa_cons (x_tup (xa_cons (x_var (pv 6)) (xa_cons x_non xa_nil))) xa_nil))) (x_sl (x_var (pv 3)) (xo_some (x_bin o_add (x_var (pv 4)) x_int)) xo_none)) (xa_cons (x_bin o_add (x_bin o_add (x_sl (x_var (pv 3)) xo_none (xo_some (x_var (pv 4)))) (x_tup (xa_cons (x_tup (xa_cons (x_var (pv 6)) xa_nil)) xa_nil))) (x_sl (x_var (pv 3)) (xo_some (x_bin o_add (x_var (pv 4)) x_int)) xo_none)) xa_nil))))) xa_nil)))))))))
/-! ### law: slots 0 script 1 stream 2 turn 3 columns 4 values 5 value 6 parts 7 other 8 due 9 told 10 asked 11 step -/
abbrev N_law : List Str := ["script", "stream", "turn", "columns", "values", "value", "parts", "other", "due", "told", "asked", "step"]
abbrev ps_law : List Str := ["script"]
theorem S_law : FnScope N_law ps_law (defScope s_law) := ⟨rfl, rfl, rfl, by decide +kernel, rfl, by decide +kernel, by decide +kernel⟩
def g_law : Sl → M Out :=
  (sSeq (sFor (iRng rng1 (aCons (xC (.int 3)) aNil)) (gNm 2) (sSeq (sSetF 3 (xFn 2 M__law_columns (aCons (xVar 1) (aCons (xBin addR (xC (.int 1)) (xFn 2 M__law_next (aCons (xVar 1) (aCons (xC (.int 8)) aNil)) [])) aNil)) [])) (sSeq (sAsg (gTp 2 (gsCons (gNm 6) (gsCons (gNm 7) gsNil))) (xTup (aCons (xFn 3 M__law_cover (aCons (xVar 1) (aCons (xVar 3) (aCons (xC (.int 6)) aNil))) []) (aCons (xFn 3 M__law_cover (aCons (xVar 1) (aCons (xVar 3) (aCons (xC (.int 6)) aNil))) []) aNil)))) (sSeq (sPar 8 9 (xFn 2 M__law_first (aCons (xVar 3) (aCons (xVar 6) aNil)) []) (xFn 4 M__law_told (aCons (xC (.str "out")) (aCons (xVar 3) (aCons (xVar 6) (aCons (xC .none) aNil)))) [])) (sSeq (sFrz 9 (sFrz 8 (sIf (tBin eqR (xBin isNR (xVar 8) (xC .none)) (xFn 1 M__law_graham (aCons (xVar 6) aNil) [])) (sRet (xC (.bool false))) sNil))) (sSeq (sIf (tNotM (tTru (xFn 2 M__law_equal (aCons (xVar 9) (aCons (xIf (tBin isNR (xVar 8) (xC .none)) (xTup (aCons (xC (.str "not possible")) (aCons (xC (.str "cyclic")) aNil))) (xTup (aCons (xC (.str "told")) (aCons (xVar 8) aNil)))) aNil)) []))) (sRet (xC (.bool false))) sNil) (sSeq (sSet 4 (xBin addR (xLst (aCons (xFn 3 M__law_drawn (aCons (xVar 1) (aCons (xVar 3) (aCons (xVar 6) aNil))) []) (aCons (xFn 3 M__law_drawn (aCons (xVar 1) (aCons (xVar 3) (aCons (xVar 7) aNil))) []) aNil))) (xIf (tBin notNR (xVar 8) (xC .none)) (xLst (aCons (xVar 8) aNil)) (xLst aNil)))) (sSeq (sExt 4 (xLc (iRng rng1 (aCons (xC (.int 6)) aNil)) [11] (gNm 11) tYesM (xFn 4 M__law_bent (aCons (xVar 1) (aCons (xVar 3) (aCons (xVar 6) (aCons (xFn 2 M__law_pick (aCons (xVar 1) (aCons (xVar 4) aNil)) []) aNil)))) []))) (sFrz 4 (sFor (iSeq (xVar 4)) (gNm 5) (sFor (iSeq (xTup (aCons (xVar 6) (aCons (xVar 7) aNil)))) (gNm 10) (sIf (tNotM (tTru (xFn 2 M__law_equal (aCons (xFn 4 M__law_told (aCons (xC (.str "judge")) (aCons (xVar 3) (aCons (xVar 10) (aCons (xVar 5) aNil)))) []) (aCons (xTup (aCons (xC (.str "told")) (aCons (xFn 3 M__law_is_one (aCons (xVar 3) (aCons (xVar 10) (aCons (xVar 5) aNil))) []) aNil))) aNil)) []))) (sRet (xC (.bool false))) sNil)))))))))))) (sRet (xC (.bool true))))
theorem ok_law (T : Top K mg) : FnG P w K mg base CX0 103 (He.ga K "law") T.d_law ["script"] (spLaw K 10 g_law) := by
    have S := S_law
    have c__law_stream := (ok__law_stream (P := P) (w := w) (base := base) T).mono (k := 102) (by omega)
    have b__law_stream := T.F__law_stream.bindsN (ps := ["script"]) fun _ _ _ _ _ _ us hl => match us, hl with | [_], _ => rfl
    have c__law_next := (ok__law_next (P := P) (w := w) (base := base) T).mono (k := 102) (by omega)
    have c__law_columns := (ok__law_columns (P := P) (w := w) (base := base) T).mono (k := 102) (by omega)
    have c__law_cover := (ok__law_cover (P := P) (w := w) (base := base) T).mono (k := 102) (by omega)
    have c__law_first := (ok__law_first (P := P) (w := w) (base := base) T).mono (k := 102) (by omega)
    have c__law_told := (ok__law_told (P := P) (w := w) (base := base) T).mono (k := 102) (by omega)
    have c__law_graham := (ok__law_graham (P := P) (w := w) (base := base) T).mono (k := 102) (by omega)
    have c__law_equal := (ok__law_equal (P := P) (w := w) (base := base) T).mono (k := 102) (by omega)
    have c__law_drawn := (ok__law_drawn (P := P) (w := w) (base := base) T).mono (k := 102) (by omega)
    have c__law_pick := (ok__law_pick (P := P) (w := w) (base := base) T).mono (k := 102) (by omega)
    have c__law_bent := (ok__law_bent (P := P) (w := w) (base := base) T).mono (k := 102) (by omega)
    have c__law_is_one := (ok__law_is_one (P := P) (w := w) (base := base) T).mono (k := 102) (by omega)
    have b__law_next_2 := T.F__law_next.bindsN (ps := ["stream", "many"]) fun _ _ _ _ _ _ us hl => match us, hl with | [_, _], _ => rfl
    have v__law_next_2 : Vals ([] : List V) [] := .nil
    have b__law_columns_2 := T.F__law_columns.bindsN (ps := ["stream", "many"]) fun _ _ _ _ _ _ us hl => match us, hl with | [_, _], _ => rfl
    have v__law_columns_2 : Vals ([] : List V) [] := .nil
    have b__law_cover_3 := T.F__law_cover.bindsN (ps := ["stream", "columns", "most"]) fun _ _ _ _ _ _ us hl => match us, hl with | [_, _, _], _ => rfl
    have v__law_cover_3 : Vals ([] : List V) [] := .nil
    have b__law_first_2 := T.F__law_first.bindsN (ps := ["columns", "parts"]) fun _ _ _ _ _ _ us hl => match us, hl with | [_, _], _ => rfl
    have v__law_first_2 : Vals ([] : List V) [] := .nil
    have b__law_told_4 := T.F__law_told.bindsN (ps := ["kind", "columns", "parts", "value"]) fun _ _ _ _ _ _ us hl => match us, hl with | [_, _, _, _], _ => rfl
    have v__law_told_4 : Vals ([] : List V) [] := .nil
    have b__law_graham_1 := T.F__law_graham.bindsN (ps := ["parts"]) fun _ _ _ _ _ _ us hl => match us, hl with | [_], _ => rfl
    have v__law_graham_1 : Vals ([] : List V) [] := .nil
    have b__law_equal_2 := T.F__law_equal.bindsN (ps := ["value", "due"]) fun _ _ _ _ _ _ us hl => match us, hl with | [_, _], _ => rfl
    have v__law_equal_2 : Vals ([] : List V) [] := .nil
    have b__law_drawn_3 := T.F__law_drawn.bindsN (ps := ["stream", "columns", "parts"]) fun _ _ _ _ _ _ us hl => match us, hl with | [_, _, _], _ => rfl
    have v__law_drawn_3 : Vals ([] : List V) [] := .nil
    have b__law_pick_2 := T.F__law_pick.bindsN (ps := ["stream", "rows"]) fun _ _ _ _ _ _ us hl => match us, hl with | [_, _], _ => rfl
    have v__law_pick_2 : Vals ([] : List V) [] := .nil
    have b__law_bent_4 := T.F__law_bent.bindsN (ps := ["stream", "columns", "parts", "value"]) fun _ _ _ _ _ _ us hl => match us, hl with | [_, _, _, _], _ => rfl
    have v__law_bent_4 : Vals ([] : List V) [] := .nil
    have b__law_is_one_3 := T.F__law_is_one.bindsN (ps := ["columns", "parts", "value"]) fun _ _ _ _ _ _ us hl => match us, hl with | [_, _, _], _ => rfl
    have v__law_is_one_3 : Vals ([] : List V) [] := .nil
    refine law_def (k := 102) T.F_law S rfl fun cdv A outer s H E hg hr => ?_
    exact pss_cons (ps_set (i := 1) S.nd rfl (by first | exact Or.inl rfl | exact Or.inr rfl) (pe_callG c__law_stream hg hr (by exact rfl) T.m__law_stream T.F__law_stream.kp b__law_stream .nil pass0 (pa_cons (pv 0) pa_nil))) (PXB.ps (g := g_law) (b_cons (s_for no_own rfl (i_rng1 (by exact rfl) T.b_range (xa_cons x_int xa_nil)) (g_name (i := 2) S.nd rfl (by first | exact Or.inl rfl | exact Or.inr rfl)) (b_cons (s_setF (i := 3) S.nd rfl (by first | exact Or.inl rfl | exact Or.inr rfl) (x_fn (dds := []) c__law_columns hg hr (by exact rfl) T.m__law_columns T.F__law_columns.kp b__law_columns_2 v__law_columns_2 (fun _ => .nil) passN (xa_cons (x_var (pv 1)) (xa_cons (x_bin o_add x_int (x_fn (dds := []) c__law_next hg hr (by exact rfl) T.m__law_next T.F__law_next.kp b__law_next_2 v__law_next_2 (fun _ => .nil) passN (xa_cons (x_var (pv 1)) (xa_cons x_int xa_nil)))) xa_nil)))) (b_cons (s_asg (g_tup rfl (gs_cons (g_name (i := 6) S.nd rfl (by first | exact Or.inl rfl | exact Or.inr rfl)) (gs_cons (g_name (i := 7) S.nd rfl (by first | exact Or.inl rfl | exact Or.inr rfl)) gs_nil))) (x_tup (xa_cons (x_fn (dds := []) c__law_cover hg hr (by exact rfl) T.m__law_cover T.F__law_cover.kp b__law_cover_3 v__law_cover_3 (fun _ => .nil) passN (xa_cons (x_var (pv 1)) (xa_cons (x_var (pv 3)) (xa_cons x_int xa_nil)))) (xa_cons (x_fn (dds := []) c__law_cover hg hr (by exact rfl) T.m__law_cover T.F__law_cover.kp b__law_cover_3 v__law_cover_3 (fun _ => .nil) passN (xa_cons (x_var (pv 1)) (xa_cons (x_var (pv 3)) (xa_cons x_int xa_nil)))) xa_nil)))) (b_cons (s_par (i := 8) (j := 9) rfl S.nd rfl rfl (by decide) rfl rfl (x_fn (dds := []) c__law_first hg hr (by exact rfl) T.m__law_first T.F__law_first.kp b__law_first_2 v__law_first_2 (fun _ => .nil) passN (xa_cons (x_var (pv 3)) (xa_cons (x_var (pv 6)) xa_nil))) (x_fn (dds := []) c__law_told hg hr (by exact rfl) T.m__law_told T.F__law_told.kp b__law_told_4 v__law_told_4 (fun _ => .nil) passN (xa_cons x_str (xa_cons (x_var (pv 3)) (xa_cons (x_var (pv 6)) (xa_cons x_non xa_nil))))) rfl) (b_cons (s_frz 9 (s_frz 8 (s_if (tx_cmp (o_eq (room_u hr 64 (by decide))) (x_cmp o_isN (x_var (pv 8)) x_non (nomark _)) (x_fn (dds := []) c__law_graham hg hr (by exact rfl) T.m__law_graham T.F__law_graham.kp b__law_graham_1 v__law_graham_1 (fun _ => .nil) passN (xa_cons (x_var (pv 6)) xa_nil)) (nomark _)) (b_one (s_ret x_bl)) b_nil))) (b_cons (s_if (tx_not (tx_tru (x_fn (dds := []) c__law_equal hg hr (by exact rfl) T.m__law_equal T.F__law_equal.kp b__law_equal_2 v__law_equal_2 (fun _ => .nil) passN (xa_cons (x_var (pv 9)) (xa_cons (x_if (tx_cmp o_isN (x_var (pv 8)) x_non (nomark _)) (x_tup (xa_cons x_str (xa_cons x_str xa_nil))) (x_tup (xa_cons x_str (xa_cons (x_var (pv 8)) xa_nil)))) xa_nil))))) (b_one (s_ret x_bl)) b_nil) (b_cons (s_set (i := 4) S.nd rfl (by first | exact Or.inl rfl | exact Or.inr rfl) (x_bin o_add (x_lst (xa_cons (x_fn (dds := []) c__law_drawn hg hr (by exact rfl) T.m__law_drawn T.F__law_drawn.kp b__law_drawn_3 v__law_drawn_3 (fun _ => .nil) passN (xa_cons (x_var (pv 1)) (xa_cons (x_var (pv 3)) (xa_cons (x_var (pv 6)) xa_nil)))) (xa_cons (x_fn (dds := []) c__law_drawn hg hr (by exact rfl) T.m__law_drawn T.F__law_drawn.kp b__law_drawn_3 v__law_drawn_3 (fun _ => .nil) passN (xa_cons (x_var (pv 1)) (xa_cons (x_var (pv 3)) (xa_cons (x_var (pv 7)) xa_nil)))) xa_nil))) (x_if (tx_cmp o_notN (x_var (pv 8)) x_non (nomark _)) (x_lst (xa_cons (x_var (pv 8)) xa_nil)) (x_lst xa_nil)))) (b_cons (s_ext (pv 4) (x_lc rfl S.nd (i_rng1 (by exact rfl) T.b_range (xa_cons x_int xa_nil)) (blkOk_by (own := [("step", 11)]) (by kernel_rfl)) (fun _ _ _ _ _ => (g_name (i := 11) S.nd rfl (by first | exact Or.inl rfl | exact Or.inr rfl))) (fun _ _ _ _ _ => ts_nil) (fun _ _ _ _ _ => (x_fn (dds := []) c__law_bent hg hr (by exact rfl) T.m__law_bent T.F__law_bent.kp b__law_bent_4 v__law_bent_4 (fun _ => .nil) passN (xa_cons (x_var (pv 1)) (xa_cons (x_var (pv 3)) (xa_cons (x_var (pv 6)) (xa_cons (x_fn (dds := []) c__law_pick hg hr (by exact rfl) T.m__law_pick T.F__law_pick.kp b__law_pick_2 v__law_pick_2 (fun _ => .nil) passN (xa_cons (x_var (pv 1)) (xa_cons (x_var (pv 4)) xa_nil))) xa_nil)))))) (by decide))) (b_one (s_frz 4 (s_for no_own rfl (i_seq (x_var (pv 4))) (g_name (i := 5) S.nd rfl (by first | exact Or.inl rfl | exact Or.inr rfl)) (b_one (s_for no_own rfl (i_seq (x_tup (xa_cons (x_var (pv 6)) (xa_cons (x_var (pv 7)) xa_nil)))) (g_name (i := 10) S.nd rfl (by first | exact Or.inl rfl | exact Or.inr rfl)) (b_one (s_if (tx_not (tx_tru (x_fn (dds := []) c__law_equal hg hr (by exact rfl) T.m__law_equal T.F__law_equal.kp b__law_equal_2 v__law_equal_2 (fun _ => .nil) passN (xa_cons (x_fn (dds := []) c__law_told hg hr (by exact rfl) T.m__law_told T.F__law_told.kp b__law_told_4 v__law_told_4 (fun _ => .nil) passN (xa_cons x_str (xa_cons (x_var (pv 3)) (xa_cons (x_var (pv 10)) (xa_cons (x_var (pv 5)) xa_nil))))) (xa_cons (x_tup (xa_cons x_str (xa_cons (x_fn (dds := []) c__law_is_one hg hr (by exact rfl) T.m__law_is_one T.F__law_is_one.kp b__law_is_one_3 v__law_is_one_3 (fun _ => .nil) passN (xa_cons (x_var (pv 3)) (xa_cons (x_var (pv 10)) (xa_cons (x_var (pv 5)) xa_nil)))) xa_nil))) xa_nil))))) (b_one (s_ret x_bl)) b_nil))))))))))))))) (b_one (s_ret x_bl))))
end
end JS
set_option Elab.async false
set_option linter.all false
set_option maxRecDepth 100000
set_option maxHeartbeats 2000000
/-! Q0: reckoning with meanings. -/
namespace PL
open PySem
section
variable {α β : Type}
@[simp] theorem bindM_ret {a : α} {f : α → M β} : bindM (retM a) f = f a := id rfl
@[simp] theorem useM_ret {r : RV} {f : RV → M β} : useM (retM r) f = f (frzV r) := id rfl
@[simp] theorem liftO_some {a : α} : liftO (some a) = (retM a : M α) := id rfl
@[simp] theorem calmM_ret {a : α} : calmM (retM a : M α) = retM a := id rfl
@[simp] theorem xVar_def {i : Nat} {ρ : Sl} : xVar i ρ = liftO (look ρ i) := id rfl
@[simp] theorem xC_def {d : D} {ρ : Sl} : xC d ρ = retM (.val d) := id rfl
@[simp] theorem look_val {d : D} {ρ : Sl} : look (.val d :: ρ) 0 = some (.val d) := id rfl
@[simp] theorem look_own {d : D} {ρ : Sl} : look (.own d :: ρ) 0 = some (.bor d) := id rfl
@[simp] theorem look_obj {n : Nat} {ρ : Sl} : look (.obj n :: ρ) 0 = some (.obj n) := id rfl
@[simp] theorem look_suc {s : Slot} {i : Nat} {ρ : Sl} : look (s :: ρ) (i + 1) = look ρ i := id rfl
@[simp] theorem frz_val {d : D} : frzV (.val d) = .val d := id rfl
@[simp] theorem frz_own {d : D} : frzV (.own d) = .val d := id rfl
@[simp] theorem frz_bor {d : D} : frzV (.bor d) = .bor d := id rfl
@[simp] theorem frz_obj {n : Nat} : frzV (.obj n) = .obj n := id rfl
@[simp] theorem rd_val {d : D} : rd (.val d) = some d := id rfl
@[simp] theorem rd_own {d : D} : rd (.own d) = some d := id rfl
@[simp] theorem rd_bor {d : D} : rd (.bor d) = some d := id rfl
@[simp] theorem isB_bool {b : Bool} : isB (.val (.bool b)) = some b := id rfl
@[simp] theorem valOf_val {d : D} : valOf (.val d) = some d := id rfl
@[simp] theorem asRet_val {d : D} : asRet (.val d) = .val d := id rfl
@[simp] theorem asRet_own {d : D} : asRet (.own d) = .own d := id rfl
@[simp] theorem asRet_bor {d : D} : asRet (.bor d) = .own d := id rfl
@[simp] theorem slotV_val {d : D} : slotV (.val d) = some (.val d) := id rfl
@[simp] theorem slotV_own {d : D} : slotV (.own d) = some (.own d) := id rfl
@[simp] theorem slotV_obj {n : Nat} : slotV (.obj n) = some (.obj n) := id rfl
@[simp] theorem truR_val {d : D} : truR (.val d) = truD d := id rfl
@[simp] theorem truR_own {d : D} : truR (.own d) = truD d := id rfl
@[simp] theorem truR_bor {d : D} : truR (.bor d) = truD d := id rfl
@[simp] theorem truD_bool {b : Bool} : truD (.bool b) = some b := id rfl
@[simp] theorem truD_int {i : Int} : truD (.int i) = some (i != 0) := id rfl
@[simp] theorem truD_none : truD .none = some false := id rfl
@[simp] theorem truD_list {ds : List D} : truD (.list ds) = some (!ds.isEmpty) := id rfl
@[simp] theorem truD_tuple {ds : List D} : truD (.tuple ds) = some (!ds.isEmpty) := id rfl
variable {ga gb gc : Sl → M RV} {ta tb : Sl → M Bool} {ρ : Sl} {f f' : RV → RV → Option RV}
@[simp] theorem xBin_def : xBin f ga gb ρ = useM (ga ρ) fun x => useM (gb ρ) fun y => liftO (f x y) := id rfl
@[simp] theorem xUn_def {h : RV → Option RV} : xUn h ga ρ = useM (ga ρ) fun x => liftO (h x) := id rfl
@[simp] theorem xChain_def : xChain f f' ga gb gc ρ = useM (ga ρ) fun x => useM (gb ρ) fun y => bindM (liftO ((f x y).bind isB)) fun k => if k then useM (gc ρ) fun z => liftO (f' y z) else retM (.val (.bool false)) := id rfl
@[simp] theorem xAnd_def : xAnd ga gb ρ = useM (ga ρ) fun x => bindM (liftO (isB x)) fun k => if k then gb ρ else retM (.val (.bool false)) := id rfl
@[simp] theorem xOr_def : xOr ga gb ρ = useM (ga ρ) fun x => bindM (liftO (isB x)) fun k => if k then retM (.val (.bool true)) else gb ρ := id rfl
@[simp] theorem xIf_def : xIf ta ga gb ρ = bindM (ta ρ) fun k => if k then ga ρ else gb ρ := id rfl
@[simp] theorem tTru_def : tTru ga ρ = useM (ga ρ) fun x => liftO (truR x) := id rfl
@[simp] theorem tBin_def : tBin f ga gb ρ = useM (ga ρ) fun x => useM (gb ρ) fun y => liftO ((f x y).bind isB) := id rfl
@[simp] theorem tChn_def : tChn f f' ga gb gc ρ = useM (ga ρ) fun x => useM (gb ρ) fun y => bindM (liftO ((f x y).bind isB)) fun k => if k then useM (gc ρ) fun z => liftO ((f' y z).bind isB) else retM false := id rfl
@[simp] theorem tNotM_def : tNotM ta ρ = bindM (ta ρ) fun k => retM (!k) := id rfl
@[simp] theorem tAndM_def : tAndM ta tb ρ = bindM (ta ρ) fun k => if k then tb ρ else retM false := id rfl
@[simp] theorem tOrM_def : tOrM ta tb ρ = bindM (ta ρ) fun k => if k then retM true else tb ρ := id rfl
@[simp] theorem tYesM_def : tYesM ρ = retM true := id rfl
@[simp] theorem xIsi_def {h : D → Bool} : xIsi h ga ρ = useM (ga ρ) fun r => liftO ((rd r).map fun d => .val (.bool (h d))) := id rfl
@[simp] theorem aNil_def : aNil ρ = retM [] := id rfl
@[simp] theorem aCons_def {gr : Sl → M (List RV)} : aCons ga gr ρ = useM (ga ρ) fun x => bindM (gr ρ) fun xs => retM (x :: xs) := id rfl
@[simp] theorem xCall_def {h : List RV → Option RV} {gr : Sl → M (List RV)} : xCall h gr ρ = bindM (gr ρ) fun rs => liftO (h rs) := id rfl
@[simp] theorem xTup_def {gr : Sl → M (List RV)} : xTup gr ρ = bindM (gr ρ) fun rs => liftO ((valsOf rs).bind fun ds => if ds.length ≤ sizeLine then some (.val (.tuple ds)) else none) := id rfl
@[simp] theorem xLst_def {gr : Sl → M (List RV)} : xLst gr ρ = bindM (gr ρ) fun rs => liftO ((valsOf rs).bind fun ds => if ds.length ≤ sizeLine then some (.own (.list ds)) else none) := id rfl
@[simp] theorem xFn_def {n : Nat} {g : Sl → M RV} {gr : Sl → M (List RV)} {dds : List D} : xFn n g gr dds ρ = bindM (gr ρ) fun rs => callM n g rs dds := id rfl
@[simp] theorem xIx_def : xIx ga gb ρ = useM (ga ρ) fun x => useM (gb ρ) fun y => ixM x y := id rfl
@[simp] theorem xSl_def {gl gh : Sl → M (Option Int)} : xSl ga gl gh ρ = useM (ga ρ) fun x => bindM (gl ρ) fun lo => bindM (gh ρ) fun hi => liftO (slO x lo hi) := id rfl
@[simp] theorem pNone_def : pNone ρ = retM none := id rfl
@[simp] theorem pSome_def : pSome ga ρ = useM (ga ρ) fun r => liftO ((intOfR r).map some) := id rfl
@[simp] theorem intOfR_val {i : Int} : intOfR (.val (.int i)) = some i := id rfl
@[simp] theorem valsOf_nil : valsOf [] = some [] := id rfl
@[simp] theorem valsOf_cons {d : D} {rs : List RV} : valsOf (.val d :: rs) = (valsOf rs).map fun ds => d :: ds := by
  show (match some d, valsOf rs with
    | some d, some ds => some (d :: ds)
    | _, _ => none) = _
  cases valsOf rs <;> rfl
@[simp] theorem listOfR_val {ds : List D} : listOfR (.val (.list ds)) = some ds := id rfl
@[simp] theorem listOfR_bor {ds : List D} : listOfR (.bor (.list ds)) = some ds := id rfl
@[simp] theorem iSeq_def : iSeq ga ρ = useM (ga ρ) fun r => liftO (walkR r) := id rfl
@[simp] theorem iRng_def {h : List RV → Option (List D × Bool)} {gr : Sl → M (List RV)} : iRng h gr ρ = bindM (gr ρ) fun rs => liftO (h rs) := id rfl
@[simp] theorem walk_list {ds : List D} : walkR (.val (.list ds)) = some (ds, false) := id rfl
@[simp] theorem walk_bor {ds : List D} : walkR (.bor (.list ds)) = some (ds, true) := id rfl
@[simp] theorem walk_tuple {ds : List D} : walkR (.val (.tuple ds)) = some (ds, false) := id rfl
@[simp] theorem walk_str {x : Str} : walkR (.val (.str x)) = some (signsD x, false) := id rfl
@[simp] theorem gNm_def {i : Nat} {d : D} : gNm i d ρ = some (ρ.set i (.val d)) := id rfl
@[simp] theorem one1_one {h : RV → Option RV} {r : RV} : one1 h [r] = h r := id rfl
/-! statements -/
variable {a b : Sl → M Out}
@[simp] theorem sNil_def : sNil ρ = retM (.nx ρ) := id rfl
@[simp] theorem sSeq_def : sSeq a b ρ = bindM (a ρ) fun o => match o with
  | .nx ρ' => b ρ'
  | o => retM o := by
  unfold sSeq
  congr 1
@[simp] theorem sIf_def : sIf ta a b ρ = bindM (ta ρ) fun k => if k then a ρ else b ρ := id rfl
@[simp] theorem sRet_def : sRet ga ρ = bindM (ga ρ) fun r => retM (.ret (asRet r)) := id rfl
@[simp] theorem sSet_def {i : Nat} : sSet i ga ρ = bindM (ga ρ) fun r => bindM (liftO (slotV r)) fun s => retM (.nx (ρ.set i s)) := id rfl
@[simp] theorem sSetF_def {i : Nat} : sSetF i ga ρ = useM (ga ρ) fun r => bindM (liftO (slotV r)) fun s => retM (.nx (ρ.set i s)) := id rfl
@[simp] theorem sPar_def {i j : Nat} : sPar i j ga gb ρ = bindM (ga ρ) fun r => bindM (gb ρ) fun r' => bindM (liftO (slotV r)) fun s => bindM (liftO (slotV r')) fun s' => retM (.nx ((ρ.set i s).set j s')) := id rfl
@[simp] theorem sTry_def : sTry a ρ = calmM (a ρ) := id rfl
@[simp] theorem bodyM_def {m : Nat} : bodyM m a ρ = bindM (calmM (a (ρ ++ List.replicate m .un))) fun o => match o with
  | .nx _ => retM (.val .none)
  | .ret r => retM r
  | _ => stuckM := id rfl
/-! operators -/
@[simp] theorem int2_val {h : Int → Int → Option D} {i j : Int} : int2 h (.val (.int i)) (.val (.int j)) = (h i j).map .val := id rfl
@[simp] theorem addR_int {i j : Int} : addR (.val (.int i)) (.val (.int j)) = some (.val (.int (i + j))) := id rfl
@[simp] theorem subR_int {i j : Int} : subR (.val (.int i)) (.val (.int j)) = some (.val (.int (i - j))) := id rfl
@[simp] theorem bandR_int {i j : Int} : bandR (.val (.int i)) (.val (.int j)) = some (.val (.int (Builtin.bitAnd i j))) := id rfl
@[simp] theorem borR_int {i j : Int} : borR (.val (.int i)) (.val (.int j)) = some (.val (.int (Builtin.bitOr i j))) := id rfl
@[simp] theorem negR_int {i : Int} : negR (.val (.int i)) = some (.val (.int (-i))) := id rfl
@[simp] theorem invR_int {i : Int} : invR (.val (.int i)) = some (.val (.int (Builtin.bitNot i))) := id rfl
@[simp] theorem leR_int {i j : Int} : leR (.val (.int i)) (.val (.int j)) = some (.val (.bool (decide (i ≤ j)))) := id rfl
@[simp] theorem ltR_int {i j : Int} : ltR (.val (.int i)) (.val (.int j)) = some (.val (.bool (decide (i < j)))) := id rfl
@[simp] theorem gtR_int {i j : Int} : gtR (.val (.int i)) (.val (.int j)) = some (.val (.bool (decide (i > j)))) := id rfl
@[simp] theorem ltR_str {i j : Str} : ltR (.val (.str i)) (.val (.str j)) = some (.val (.bool (ltS i j))) := id rfl
theorem shaped_int {i : Int} : SeqAt.shaped (.int i) = true := rfl
theorem shaped_str {i : Str} (h : PyData.strOk i = true) : SeqAt.shaped (.str i) = true := by
  show (PyData.strOk i && decide (0 ≤ 64)) = true
  rw [h]; rfl
@[simp] theorem eqR_int {i j : Int} : eqR (.val (.int i)) (.val (.int j)) = some (.val (.bool (i == j))) := id rfl
@[simp] theorem neR_int {i j : Int} : neR (.val (.int i)) (.val (.int j)) = some (.val (.bool (!(i == j)))) := id rfl
theorem eqR_str {i j : Str} (hi : PyData.strOk i = true) (hj : PyData.strOk j = true) : eqR (.val (.str i)) (.val (.str j)) = some (.val (.bool (i == j))) := by
  show (eqD (.str i) (.str j)).map _ = _
  unfold eqD
  rw [if_pos ⟨shaped_str hi, shaped_str hj⟩]
  rfl
@[simp] theorem isNR_none {r : RV} : isNR r (.val .none) = some (.val (.bool (isNone r))) := id rfl
@[simp] theorem lenR_tuple {ds : List D} : lenR [.val (.tuple ds)] = some (.val (.int ds.length)) := id rfl
@[simp] theorem lenR_list {ds : List D} : lenR [.val (.list ds)] = some (.val (.int ds.length)) := id rfl
@[simp] theorem lenR_bor {ds : List D} : lenR [.bor (.list ds)] = some (.val (.int ds.length)) := id rfl
@[simp] theorem lenR_dict {ds : List (D × D)} : lenR [.bor (.dict ds)] = some (.val (.int ds.length)) := id rfl
@[simp] theorem tupleR_list {ds : List D} : tupleR [.val (.list ds)] = some (.val (.tuple ds)) := id rfl
@[simp] theorem tupleR_bor {ds : List D} : tupleR [.bor (.list ds)] = some (.val (.tuple ds)) := id rfl
@[simp] theorem tupleR_tuple {ds : List D} : tupleR [.val (.tuple ds)] = some (.val (.tuple ds)) := id rfl
@[simp] theorem listR_list {ds : List D} : listR [.val (.list ds)] = some (.own (.list ds)) := id rfl
@[simp] theorem listR_tuple {ds : List D} : listR [.val (.tuple ds)] = some (.own (.list ds)) := id rfl
@[simp] theorem intR_int {i : Int} : intR [.val (.int i)] = some (.val (.int i)) := id rfl
@[simp] theorem absR_int {i : Int} : absR [.val (.int i)] = some (.val (.int (if i < 0 then -i else i))) := id rfl
@[simp] theorem minR_int {i j : Int} : minR [.val (.int i), .val (.int j)] = some (.val (.int (if j < i then j else i))) := id rfl
@[simp] theorem maxR_int {i j : Int} : maxR [.val (.int i), .val (.int j)] = some (.val (.int (if j > i then j else i))) := id rfl
/-! ### m ends in a value and a state that Q holds of -/
@[irreducible] def wp (m : M α) (gs : GS) (Q : α → GS → Prop) : Prop := match m gs with
  | .ok a g => Q a g
  | _ => False
@[simp] theorem wp_ret {c : α} {gs : GS} {Q : α → GS → Prop} : wp (retM c) gs Q ↔ Q c gs := by
  unfold wp
  exact Iff.rfl
@[simp] theorem wp_bind {m : M α} {f : α → M β} {gs : GS} {Q : β → GS → Prop} : wp (bindM m f) gs Q ↔ wp m gs fun a g => wp (f a) g Q := by
  unfold wp bindM
  cases m gs <;> exact Iff.rfl
@[simp] theorem wp_use {m : M RV} {f : RV → M β} {gs : GS} {Q : β → GS → Prop} : wp (useM m f) gs Q ↔ wp m gs fun a g => wp (f (frzV a)) g Q := by
  unfold wp useM
  cases m gs <;> exact Iff.rfl
@[simp] theorem wp_calm {m : M α} {gs : GS} {Q : α → GS → Prop} : wp (calmM m) gs Q ↔ wp m gs Q := by
  unfold wp calmM
  cases m gs <;> exact Iff.rfl
theorem wp_lift {o : Option α} {gs : GS} {Q : α → GS → Prop} : wp (liftO o) gs Q ↔ ∃ a, o = some a ∧ Q a gs := by
  unfold wp
  cases o with
  | none => exact ⟨fun h => h.elim, fun ⟨_, h, _⟩ => nomatch h⟩
  | some a => exact ⟨fun h => ⟨a, rfl, h⟩, fun ⟨b, h, q⟩ => by cases h; exact q⟩
theorem wp_mono {m : M α} {gs : GS} {Q Q' : α → GS → Prop} (h : wp m gs Q) (k : ∀ a g, Q a g → Q' a g) : wp m gs Q' := by
  unfold wp at *
  cases e : m gs with
  | ok a g => rw [e] at h; exact k a g h
  | exc x g => rw [e] at h; exact h
  | stuck => rw [e] at h; exact h
theorem wp_ite {c : Prop} [Decidable c] {m n : M α} {gs : GS} {Q : α → GS → Prop} : wp (if c then m else n) gs Q ↔ if c then wp m gs Q else wp n gs Q := by
  split <;> exact Iff.rfl
end
theorem law_yes {m : Nat} {g : Sl → M Out} {ns : List Int} (h : wp (g (lawSl m)) [.strm ns 0 0] fun o _ => o = .ret (.val (.bool true))) : LawYes m g ns := by
  unfold wp at h
  unfold LawYes
  cases e : g (lawSl m) [.strm ns 0 0] with
  | ok a gs => rw [e] at h; exact ⟨gs, by rw [h]⟩
  | exc x gs => rw [e] at h; exact h.elim
  | stuck => rw [e] at h; exact h.elim
/-! ### loops -/
section
variable {ι : Type} {g : D → Sl → Option Sl} {tt : Sl → M Bool} {te : Sl → M RV} {tb : Sl → M Out} {ρ ρ0 : Sl} {e : ι → D}
theorem compL_ret {F : ι → Option D} : ∀ {xs : List ι}, (∀ x ∈ xs, turnL ρ0 g tt te (e x) = retM (F x)) → compL ρ0 g tt te (xs.map e) = retM (xs.filterMap F)
  | [], _ => rfl
  | x :: xs, h => by
    have ih := compL_ret (xs := xs) fun y hy => h y (List.mem_cons_of_mem _ hy)
    rw [List.map_cons, compL, h x (List.mem_cons_self ..), calmM_ret, bindM_ret, ih, bindM_ret]
    cases hx : F x with
    | none => rw [List.filterMap_cons_none hx]; rfl
    | some d => rw [List.filterMap_cons_some hx]; rfl
theorem wp_compL {all : List ι} (J : List ι → List D → GS → Prop) (hs : ∀ pre x post ys gs, all = pre ++ x :: post → J pre ys gs → wp (turnL ρ0 g tt te (e x)) gs fun o g' => J (pre ++ [x]) (ys ++ o.toList) g') :
    ∀ {xs pre : List ι} {ys : List D} {gs : GS}, all = pre ++ xs → J pre ys gs → wp (compL ρ0 g tt te (xs.map e)) gs fun zs g' => J all (ys ++ zs) g'
  | [], pre, ys, gs, ea, h0 => by
    rw [List.append_nil] at ea
    refine wp_ret.mpr ?_
    show J all (ys ++ []) gs
    rw [List.append_nil, ea]
    exact h0
  | x :: xs, pre, ys, gs, ea, h0 => by
    rw [List.map_cons, compL, wp_bind, wp_calm]
    refine wp_mono (hs pre x xs ys gs ea h0) fun o g1 h1 => ?_
    rw [wp_bind]
    refine wp_mono (wp_compL J hs (xs := xs) (pre := pre ++ [x]) (by rw [ea]; simp) h1) fun zs g2 h2 => ?_
    rw [wp_ret]
    have e2 : ys ++ o.toList ++ zs = ys ++ (o.toList ++ zs) := by simp
    rw [e2] at h2
    exact h2
/-- a for: J by the items gone through -/
theorem wp_forL {all : List ι} (J : List ι → Sl → GS → Prop) (Bk : Sl → GS → Prop) (Rt : RV → GS → Prop)
    (hs : ∀ pre x post ρ gs, all = pre ++ x :: post → J pre ρ gs → ∃ ρ1, g (e x) ρ = some ρ1 ∧ wp (tb ρ1) gs fun o g' => match o with
      | .nx ρ2 => J (pre ++ [x]) ρ2 g'
      | .cnt ρ2 => J (pre ++ [x]) ρ2 g'
      | .brk ρ2 => Bk ρ2 g'
      | .ret r => Rt r g') : ∀ {xs pre : List ι} {ρ : Sl} {gs : GS}, all = pre ++ xs → J pre ρ gs →
    wp (forL g tb (xs.map e) ρ) gs fun o g' => match o with
      | .nx ρ2 => J all ρ2 g' ∨ Bk ρ2 g'
      | .ret r => Rt r g'
      | _ => False
  | [], pre, ρ, gs, ea, h0 => by
    rw [List.append_nil] at ea
    refine wp_ret.mpr ?_
    exact .inl (by rw [ea]; exact h0)
  | x :: xs, pre, ρ, gs, ea, h0 => by
    obtain ⟨ρ1, e1, h1⟩ := hs pre x xs ρ gs ea h0
    rw [List.map_cons, forL, e1, liftO_some, bindM_ret, wp_bind]
    refine wp_mono h1 fun o g1 h2 => ?_
    have ea2 : all = (pre ++ [x]) ++ xs := by rw [ea]; simp
    cases o with
    | nx ρ2 => exact wp_forL J Bk Rt hs (xs := xs) (pre := pre ++ [x]) ea2 h2
    | cnt ρ2 => exact wp_forL J Bk Rt hs (xs := xs) (pre := pre ++ [x]) ea2 h2
    | brk ρ2 => exact wp_ret.mpr (.inr h2)
    | ret r => exact wp_ret.mpr h2
end
end PL
namespace JS
open PySem PL
theorem m_is_tuple_of {ds : List D} {a b : Int} : M_is_tuple_of [.val (.tuple ds), .val (.int a), .val (.int b)] = retM (.val (.bool (decide (a ≤ ds.length) && decide ((ds.length : Int) ≤ b)))) := by
  unfold M_is_tuple_of g_is_tuple_of
  by_cases h : a ≤ ds.length <;> simp [isT, tyN, h]
end JS
set_option Elab.async false
set_option linter.all false
set_option maxRecDepth 100000
set_option maxHeartbeats 2000000
/-! Q1: the checks of columns and of parts. -/
namespace PL
open PySem
section
variable {ι : Type} {g : D → Sl → Option Sl} {tt : Sl → M Bool} {te : Sl → M RV} {ρ ρ0 : Sl} {e : ι → D}
theorem compL_map {F : ι → D} {xs : List ι} (h : ∀ x ∈ xs, turnL ρ0 g tt te (e x) = retM (some (F x))) : compL ρ0 g tt te (xs.map e) = retM (xs.map F) := by
  rw [compL_ret (F := fun x => some (F x)) h]
  congr 1
  induction xs with
  | nil => rfl
  | cons x xs ih =>
    have ih := ih fun y hy => h y (List.mem_cons_of_mem _ hy)
    rw [List.filterMap_cons_some (f := fun x => some (F x)) (b := F x) rfl, List.map_cons, ih]
theorem compL_filter {p : ι → Bool} {F : ι → D} {xs : List ι} (h : ∀ x ∈ xs, turnL ρ0 g tt te (e x) = retM (if p x = true then some (F x) else none)) : compL ρ0 g tt te (xs.map e) = retM ((xs.filter p).map F) := by
  rw [compL_ret (F := fun x => if p x = true then some (F x) else none) h]
  congr 1
  induction xs with
  | nil => rfl
  | cons x xs ih =>
    have ih := ih fun y hy => h y (List.mem_cons_of_mem _ hy)
    by_cases hp : p x = true
    · rw [List.filterMap_cons_some (b := F x) (by rw [if_pos hp]), List.filter_cons_of_pos hp, List.map_cons, ih]
    · rw [List.filterMap_cons_none (by rw [if_neg hp]), List.filter_cons_of_neg hp, ih]
/-- a comprehension over a source that is known -/
theorem xLc_def {src : Sl → M (List D × Bool)} {vs : List Nat} {ds : List D} {b : Bool} (h : src ρ = retM (ds, b)) (hl : ds.length ≤ sizeLine) : xLc src vs g tt te ρ = bindM (compL (wipeS ρ vs) g tt te ds) fun ys => retM (.own (.list ys)) := by
  unfold xLc
  rw [h, bindM_ret]
  simp only [if_pos hl]
end
theorem boolsOf_map {ι : Type} {p : ι → Bool} : ∀ xs : List ι, boolsOf (xs.map fun x => .bool (p x)) = some (xs.map p)
  | [] => rfl
  | x :: xs => by
    rw [List.map_cons, List.map_cons]
    show (boolsOf (xs.map fun x => .bool (p x))).map _ = _
    rw [boolsOf_map xs]
    rfl
theorem allR_bools {ι : Type} {p : ι → Bool} {xs : List ι} : allR [.val (.list (xs.map fun x => .bool (p x)))] = some (.val (.bool (xs.all p))) := by
  show (boolsOf (xs.map fun x => .bool (p x))).map _ = _
  rw [boolsOf_map]
  show some (RV.val (.bool ((xs.map p).all id))) = _
  rw [List.all_map]
  rfl
theorem ixM_tuple {ds : List D} {i : Int} : ixM (.val (.tuple ds)) (.val (.int i)) = liftO ((L2.atI ds i).map .val) := by
  funext gs
  rfl
theorem ixM_list {ds : List D} {i : Int} : ixM (.val (.list ds)) (.val (.int i)) = liftO ((L2.atI ds i).map .val) := by
  funext gs
  rfl
theorem ixM_bor {ds : List D} {i : Int} : ixM (.bor (.list ds)) (.val (.int i)) = liftO ((L2.atI ds i).map .val) := by
  funext gs
  rfl
theorem atI_nat {α : Type} {xs : List α} {i : Nat} (h : i < xs.length) : L2.atI xs (i : Int) = some xs[i] := by
  unfold L2.atI L2.ixN
  rw [if_pos (by omega), if_pos (by omega)]
  simp [h]
theorem rng1_val {i : Int} : rng1 [.val (.int i)] = if -(2 ^ 62) ≤ i ∧ i < 2 ^ 62 then some (rngD 0 i.toNat, false) else none := rfl
theorem bnd62 {n : Nat} (h : n ≤ 10000) : -(2 ^ 62) ≤ (n : Int) ∧ (n : Int) < 2 ^ 62 := by
  have h2 : (n : Int) ≤ 10000 := by exact_mod_cast h
  have h3 : (10000 : Int) < 2 ^ 62 := by decide
  have h4 : (0 : Int) ≤ n := Int.natCast_nonneg n
  have h5 : -(2 ^ 62) ≤ (0 : Int) := by decide
  exact ⟨Int.le_trans h5 h4, Int.lt_of_le_of_lt h2 h3⟩
theorem rng1_nat {n : Nat} (h : n ≤ 10000) : rng1 [.val (.int (n : Int))] = some (rngD 0 n, false) := by
  rw [rng1_val, if_pos (bnd62 h), Int.toNat_natCast]
theorem rng1_neg {i : Int} (h : -10000 ≤ i) (h0 : i ≤ 0) : rng1 [.val (.int i)] = some ([], false) := by
  have h3 : -(2 ^ 62) ≤ (-10000 : Int) := by decide
  have h5 : (0 : Int) < 2 ^ 62 := by decide
  rw [rng1_val, if_pos ⟨Int.le_trans h3 h, Int.lt_of_le_of_lt h0 h5⟩, Int.toNat_of_nonpos h0]
  rfl
theorem iRng_ret {f : List RV → Option (List D × Bool)} {gr : Sl → M (List RV)} {ρ : Sl} {rs : List RV} {a : List D × Bool} (e : gr ρ = retM rs) (e2 : f rs = some a) : iRng f gr ρ = retM a := by
  rw [iRng_def, e, bindM_ret, e2, liftO_some]
theorem rngD_map (n : Nat) : rngD 0 n = (List.range n).map fun i => .int (i : Nat) := by
  unfold rngD
  congr 1
  funext i
  simp
abbrev tS (xs : List Str) : D := .tuple (xs.map .str)
theorem small_le {n : Nat} (h : n ≤ 10000) : n ≤ sizeLine := Nat.le_trans h (by decide)
end PL
namespace JS
open PySem PL
/-- neighbours stand in the order -/
def ascB (xs : List Str) : Bool := (List.range (xs.length - 1)).all fun i => match xs[i]?, xs[i + 1]? with
  | some x, some y => ltS x y
  | _, _ => true
theorem m_is_ascending {xs : List Str} (hl : xs.length ≤ 10000) : M_is_ascending [.val (tS xs)] = retM (.val (.bool (ascB xs))) := by
  have hs : iRng rng1 (aCons (xBin subR (xCall lenR (aCons (xVar 0) aNil)) (xC (.int 1))) aNil) [Slot.val (tS xs), .un] = retM ((List.range (xs.length - 1)).map (fun i => PyData.int (i : Nat)), false) := by
    rw [← rngD_map]
    cases hx : xs with
    | nil => exact iRng_ret (rs := [.val (.int (-1))]) (by simp) (rng1_neg (by decide) (by decide))
    | cons x r =>
      have hr : r.length ≤ 10000 := by subst hx; simp at hl; omega
      exact iRng_ret (rs := [.val (.int (r.length : Nat))]) (by simp) (rng1_nat hr)
  unfold M_is_ascending g_is_ascending
  simp only [bodyM_def, sRet_def, xCall_def, aCons_def, aNil_def, List.replicate, List.cons_append, List.nil_append]
  rw [xLc_def hs (by rw [List.length_map, List.length_range]; exact small_le (by omega))]
  rw [compL_map (F := fun i => .bool (match xs[i]?, xs[i + 1]? with
    | some x, some y => ltS x y
    | _, _ => true)) fun i hi => ?_]
  · simp [allR_bools]
    rfl
  · have hi : i < xs.length - 1 := by simpa using hi
    have h1 : i < xs.length := by omega
    have h2 : i + 1 < xs.length := by omega
    have e1 : L2.atI (xs.map PyData.str) (i : Int) = some (.str xs[i]) := by rw [atI_nat (by simpa using h1)]; simp
    have e2 : L2.atI (xs.map PyData.str) ((i : Int) + 1) = some (.str xs[i + 1]) := by
      have : ((i : Int) + 1) = ((i + 1 : Nat) : Int) := by omega
      rw [this, atI_nat (by simpa using h2)]; simp
    simp [turnL, wipeS, ixM_tuple, e1, e2, h1, h2]
end JS
set_option Elab.async false
set_option linter.all false
set_option maxRecDepth 100000
set_option maxHeartbeats 2000000
/-! Q2: names; what the checks let through. -/
namespace PL
open PySem
theorem Str.ext' {x y : Str} (h : x.cps.toList = y.cps.toList) : x = y := by
  cases x with
  | mk a =>
    cases y with
    | mk b =>
      have : a = b := Array.ext' h
      rw [this]
theorem lt1 {a b : Nat} : ltS ⟨#[a]⟩ ⟨#[b]⟩ = decide (a < b) := by
  unfold ltS
  congr 1
  simp [List.cons_lt_cons_iff]
theorem leR_str {i j : Str} : leR (.val (.str i)) (.val (.str j)) = some (.val (.bool (!ltS j i))) := rfl
theorem le1 {a b : Nat} : leR (.val (.str ⟨#[a]⟩)) (.val (.str ⟨#[b]⟩)) = some (.val (.bool (decide (a ≤ b)))) := by
  rw [leR_str, lt1]
  congr 3
  by_cases h : a ≤ b
  · simp [h, Nat.not_lt.mpr h]
  · simp [h, Nat.lt_of_not_le h]
theorem s_a : (("a" : String) : Str) = ⟨#[97]⟩ := by decide +kernel
theorem s_z : (("z" : String) : Str) = ⟨#[122]⟩ := by decide +kernel
theorem s_0 : (("0" : String) : Str) = ⟨#[48]⟩ := by decide +kernel
theorem s_9 : (("9" : String) : Str) = ⟨#[57]⟩ := by decide +kernel
theorem lenR_str {x : Str} (h : x.length ≤ sizeLine) : lenR [.val (.str x)] = some (.val (.int x.length)) := by
  show ((lenD (.str x)).map fun n => RV.val (.int n)) = _
  rw [show lenD (.str x) = some x.length from if_pos h]
  rfl
theorem ixM_str {z : Str} {i : Int} (h : z.length ≤ sizeLine) : ixM (.val (.str z)) (.val (.int i)) = liftO ((L2.atI z.cps.toList i).map fun c => .val (.str ⟨#[c]⟩)) := by
  funext gs
  show liftO (ixO (.val (.str z)) (.val (.int i))) gs = _
  rw [show ixO (.val (.str z)) (.val (.int i)) = (if z.length ≤ sizeLine then (L2.atI z.cps.toList i).map fun c => RV.val (.str ⟨#[c]⟩) else none) from rfl, if_pos h]
/-- a letter, a figure -/
def isLet (c : Nat) : Prop := 97 ≤ c ∧ c ≤ 122
def isSig (c : Nat) : Prop := isLet c ∨ (48 ≤ c ∧ c ≤ 57)
/-- a name that a column may bear -/
structure OkCol (x : Str) : Prop where
  ne : x.cps.toList ≠ []
  le : x.cps.toList.length ≤ 12
  hd : ∀ c, x.cps.toList[0]? = some c → isLet c
  all : ∀ c ∈ x.cps.toList, isSig c
theorem OkCol.len {x : Str} (h : OkCol x) : x.length ≤ 12 := by
  have := h.le
  rwa [Array.length_toList] at this
theorem OkCol.ok {x : Str} (h : OkCol x) : PyData.strOk x = true := by
  unfold PyData.strOk
  rw [Array.all_eq_true]
  intro i hi
  have hm : x.cps[i] ∈ x.cps.toList := by rw [Array.mem_toList_iff]; exact Array.getElem_mem hi
  have hs := h.all _ hm
  have : x.cps[i] < 0x110000 := by
    rcases hs with ⟨_, h2⟩ | ⟨_, h2⟩
    · omega
    · omega
  simpa using this
end PL
namespace JS
open PySem PL
theorem m_is_column {x : Str} (h : OkCol x) : M_is_column [.val (.str x)] = retM (.val (.bool true)) := by
  have hl := h.len
  have hz : x.length ≤ sizeLine := small_le (by omega)
  obtain ⟨c, cs, hx⟩ := List.exists_cons_of_ne_nil h.ne
  have h1 : 1 ≤ x.length := by
    show 1 ≤ x.cps.size
    rw [← Array.length_toList, hx]
    simp
  have hc : isLet c := h.hd c (by rw [hx]; rfl)
  have e0 : L2.atI x.cps.toList (0 : Int) = some c := by rw [hx]; exact atI_nat (xs := c :: cs) (i := 0) (by simp)
  have i1 : decide ((1 : Int) ≤ (x.length : Int)) = true := by simp; omega
  have i2 : decide ((x.length : Int) ≤ 12) = true := by simp; omega
  have hall : xLc (iSeq (xVar 0)) [1] (gNm 1) tYesM (xOr (xChain leR leR (xC (.str "a")) (xVar 1) (xC (.str "z"))) (xChain leR leR (xC (.str "0")) (xVar 1) (xC (.str "9")))) [Slot.val (.str x), .un] = retM (.own (.list (x.cps.toList.map fun _ => .bool true))) := by
    rw [xLc_def (ds := signsD x) (b := false) (by simp) (by unfold signsD; rw [List.length_map, Array.length_toList]; exact hz)]
    unfold signsD
    rw [compL_map (F := fun _ => PyData.bool true) fun d hd => ?_]
    · simp
    · have hd := h.all d hd
      simp only [turnL, wipeS, gNm_def, liftO_some, bindM_ret, tYesM_def, if_true, xOr_def, xChain_def, xC_def, useM_ret, frz_val, xVar_def, List.set, look_suc, look_val, s_a, s_z, s_0, s_9, le1, Option.bind_some, isB_bool]
      rcases hd with ⟨h1, h2⟩ | ⟨h1, h2⟩
      · simp [h1, h2]
      · have h3 : ¬ 97 ≤ d := by omega
        simp [h1, h2, h3]
  unfold M_is_column g_is_column
  simp only [bodyM_def, sSeq_def, sIf_def, tOrM_def, tNotM_def, tTru_def, tChn_def, xIsi_def, xVar_def, List.replicate, List.cons_append, List.nil_append, look_val, liftO_some, useM_ret, frz_val, rd_val, Option.map_some, truR_val, truD_bool, bindM_ret, isT, tyN]
  simp only [xC_def, xCall_def, aCons_def, aNil_def, xVar_def, look_val, liftO_some, useM_ret, bindM_ret, frz_val, lenR_str hz, leR_int, Option.bind_some, isB_bool, i1, i2]
  simp only [s_a, s_z] at hall
  simp [sRet_def, hall, xIx_def, ixM_str hz, e0, s_a, s_z, le1, hc.1, hc.2, allR_bools]
  rw [show (x.cps.all fun _ => true) = true from by rw [Array.all_eq_true]; intros; rfl]
end JS
set_option Elab.async false
set_option linter.all false
set_option maxRecDepth 100000
set_option maxHeartbeats 2000000
/-! Q3: the checks let right columns and parts through. -/
namespace PL
open PySem
theorem list_map_id {α : Type} (ds : List α) : ds.map (fun d => d) = ds := by induction ds with
  | nil => rfl
  | cons d ds ih => rw [List.map_cons, ih]
theorem all_true {src : Sl → M (List D × Bool)} {ds : List D} {b : Bool} {vs : List Nat} {g : D → Sl → Option Sl} {tt : Sl → M Bool} {te : Sl → M RV} {ρ : Sl} (h : src ρ = retM (ds, b)) (hl : ds.length ≤ sizeLine)
    (ht : ∀ d ∈ ds, turnL (wipeS ρ vs) g tt te d = retM (some (.bool true))) : xCall allR (aCons (xLc src vs g tt te) aNil) ρ = retM (.val (.bool true)) := by
  have e : compL (wipeS ρ vs) g tt te ds = retM (ds.map fun _ => PyData.bool true) := by
    have := compL_map (ρ0 := wipeS ρ vs) (g := g) (tt := tt) (te := te) (e := fun d : D => d) (F := fun _ => PyData.bool true) (xs := ds) ht
    rwa [list_map_id] at this
  have e2 : allR [.val (.list (ds.map fun _ => PyData.bool true))] = some (.val (.bool true)) := by
    rw [allR_bools]
    congr 3
    exact List.all_eq_true.mpr fun _ _ => rfl
  rw [xCall_def, aCons_def, xLc_def h hl, e]
  simp [e2]
theorem callM_val {n : Nat} {g : Sl → M RV} {rs : List RV} {dds : List D} (hn : rs.length + dds.length = n) (hb : rs.any isBor = false) : callM n g rs dds = g (rs.map toSl ++ dds.map .val) := by
  funext gs
  unfold callM
  rw [if_pos hn, if_neg (by rw [hb]; exact Bool.false_ne_true)]
@[simp] theorem toSl_val {d : D} : toSl (.val d) = .val d := id rfl
@[simp] theorem toSl_obj {n : Nat} : toSl (.obj n) = .obj n := id rfl
@[simp] theorem isBor_val {d : D} : isBor (.val d) = false := id rfl
@[simp] theorem isBor_obj {n : Nat} : isBor (.obj n) = false := id rfl
@[simp] theorem isBor_bor {d : D} : isBor (.bor d) = true := id rfl
/-! calls with values alone -/
@[simp] theorem call1 {g : Sl → M RV} {a : D} : callM 1 g [.val a] [] = g [.val a] := callM_val rfl rfl
@[simp] theorem call1d {g : Sl → M RV} {a d : D} : callM 2 g [.val a] [d] = g [.val a, .val d] := callM_val rfl rfl
@[simp] theorem call2 {g : Sl → M RV} {a b : D} : callM 2 g [.val a, .val b] [] = g [.val a, .val b] := callM_val rfl rfl
@[simp] theorem call2d {g : Sl → M RV} {a b d : D} : callM 3 g [.val a, .val b] [d] = g [.val a, .val b, .val d] := callM_val rfl rfl
@[simp] theorem call2dd {g : Sl → M RV} {a b d d' : D} : callM 4 g [.val a, .val b] [d, d'] = g [.val a, .val b, .val d, .val d'] := callM_val rfl rfl
@[simp] theorem call3 {g : Sl → M RV} {a b c : D} : callM 3 g [.val a, .val b, .val c] [] = g [.val a, .val b, .val c] := callM_val rfl rfl
@[simp] theorem call4 {g : Sl → M RV} {a b c d : D} : callM 4 g [.val a, .val b, .val c, .val d] [] = g [.val a, .val b, .val c, .val d] := callM_val rfl rfl
@[simp] theorem callO1 {g : Sl → M RV} {n : Nat} {a : D} : callM 2 g [.obj n, .val a] [] = g [.obj n, .val a] := callM_val rfl rfl
@[simp] theorem callO2 {g : Sl → M RV} {n : Nat} {a b : D} : callM 3 g [.obj n, .val a, .val b] [] = g [.obj n, .val a, .val b] := callM_val rfl rfl
@[simp] theorem callO3 {g : Sl → M RV} {n : Nat} {a b c : D} : callM 4 g [.obj n, .val a, .val b, .val c] [] = g [.obj n, .val a, .val b, .val c] := callM_val rfl rfl
/-- the order of names -/
def SLt (x y : Str) : Prop := x.cps.toList < y.cps.toList
theorem ltS_iff {x y : Str} : ltS x y = true ↔ SLt x y := by
  unfold ltS SLt
  exact decide_eq_true_iff
/-- the columns of a table: named, in the order -/
structure Cols (xs : List Str) : Prop where
  ne : 1 ≤ xs.length
  le : xs.length ≤ 24
  ok : ∀ x ∈ xs, OkCol x
  asc : xs.Pairwise SLt
/-- some of them -/
structure SomeOf (cols xs : List Str) : Prop where
  sub : ∀ x ∈ xs, x ∈ cols
  asc : xs.Pairwise SLt
theorem asc_nodup {xs : List Str} (h : xs.Pairwise SLt) : xs.Nodup := by
  refine h.imp fun {a b} hab e => ?_
  subst e
  exact List.lt_irrefl _ hab
theorem nodup_len {α : Type} [DecidableEq α] : ∀ {xs ys : List α}, xs.Nodup → (∀ x ∈ xs, x ∈ ys) → xs.length ≤ ys.length
  | [], _, _, _ => Nat.zero_le _
  | x :: xs, ys, nd, h => by
    have hx := h x (List.mem_cons_self ..)
    rw [List.nodup_cons] at nd
    have ih := nodup_len (xs := xs) (ys := ys.erase x) nd.2 fun y hy => by
      have hne : y ≠ x := fun e => nd.1 (by rw [← e]; exact hy)
      exact (List.mem_erase_of_ne hne).mpr (h y (List.mem_cons_of_mem _ hy))
    have hp : 0 < ys.length := List.length_pos_of_mem hx
    rw [List.length_erase_of_mem hx] at ih
    rw [List.length_cons]
    omega
theorem SomeOf.le {cols xs : List Str} (h : SomeOf cols xs) : xs.length ≤ cols.length :=
  nodup_len (asc_nodup h.asc) h.sub
end PL
namespace JS
open PySem PL
theorem ascB_of {xs : List Str} (h : xs.Pairwise SLt) : ascB xs = true := by
  unfold ascB
  rw [List.all_eq_true]
  intro i hi
  have hi : i < xs.length - 1 := by simpa using hi
  have h1 : i < xs.length := by omega
  have h2 : i + 1 < xs.length := by omega
  simp only [List.getElem?_eq_getElem h1, List.getElem?_eq_getElem h2]
  exact ltS_iff.mpr (List.pairwise_iff_getElem.mp h i (i + 1) h1 h2 (by omega))
theorem m_is_columns {xs : List Str} (h : Cols xs) : M_is_columns [.val (tS xs)] = retM (.val (.bool true)) := by
  have hne := h.ne
  have hle := h.le
  have e1 := m_is_tuple_of (ds := xs.map PyData.str) (a := 1) (b := 24)
  have i1 : decide ((1 : Int) ≤ ((xs.map PyData.str).length : Int)) = true := by simp; omega
  have i2 : decide (((xs.map PyData.str).length : Int) ≤ 24) = true := by simp; omega
  rw [i1, i2] at e1
  have e2 := m_is_ascending (xs := xs) (by omega)
  rw [ascB_of h.asc] at e2
  have e3 : xCall allR (aCons (xLc (iSeq (xVar 0)) [1] (gNm 1) tYesM (xFn 1 M_is_column (aCons (xVar 1) aNil) [])) aNil) [Slot.val (tS xs), .un] = retM (.val (.bool true)) := by
    refine all_true (ds := xs.map PyData.str) (b := false) (by simp) (by rw [List.length_map]; exact small_le (by omega)) fun d hd => ?_
    obtain ⟨x, hx, rfl⟩ := List.mem_map.mp hd
    simp [turnL, wipeS, m_is_column (h.ok x hx)]
  unfold M_is_columns g_is_columns
  simp only [bodyM_def, sRet_def, List.replicate, List.cons_append, List.nil_append, xAnd_def, e3]
  simp [e1, e2]
theorem m_check_columns {xs : List Str} {d : D} (h : Cols xs) : M_check_columns [.val (tS xs), .val d] = retM (.val .none) := by
  unfold M_check_columns g_check_columns
  simp [m_is_columns h]
end JS
set_option Elab.async false
set_option linter.all false
set_option maxRecDepth 100000
set_option maxHeartbeats 2000000
/-! Q4: texts in tuples; some of the columns; covers. -/
namespace PL
open PySem
abbrev OkS (xs : List Str) : Prop := ∀ x ∈ xs, PyData.strOk x = true
theorem lay_strs : ∀ {xs : List Str}, OkS xs → PyData.canLayAll0 (xs.map PyData.str) = true ∧ PyData.depthAll (xs.map PyData.str) = 0
  | [], _ => ⟨rfl, rfl⟩
  | x :: xs, h => by
    obtain ⟨h1, h2⟩ := lay_strs (xs := xs) fun y hy => h y (List.mem_cons_of_mem _ hy)
    have h0 := h x (List.mem_cons_self ..)
    constructor
    · show (PyData.strOk x && PyData.canLayAll0 (xs.map PyData.str)) = true
      rw [h0, h1]; rfl
    · show max 0 (PyData.depthAll (xs.map PyData.str)) = 0
      rw [h2]; rfl
theorem shaped_tS {xs : List Str} (h : OkS xs) : SeqAt.shaped (tS xs) = true := by
  obtain ⟨h1, h2⟩ := lay_strs h
  show (PyData.canLayAll0 (xs.map PyData.str) && decide (PyData.depthAll (xs.map PyData.str) + 1 ≤ 64)) = true
  rw [h1, h2]; rfl
theorem shaped_lS {xs : List Str} (h : OkS xs) : SeqAt.shaped (.list (xs.map PyData.str)) = true := shaped_tS h
theorem any_eqv {x : Str} : ∀ xs : List Str, ((xs.map PyData.str).any fun z => PyData.eqv z (.str x)) = decide (x ∈ xs)
  | [] => rfl
  | y :: ys => by
    rw [List.map_cons, List.any_cons, any_eqv ys]
    show ((y == x) || decide (x ∈ ys)) = decide (x ∈ y :: ys)
    by_cases h : y = x
    · subst h; simp
    · have h' : ¬ x = y := fun e => h e.symm
      simp [h, h']
theorem inR_tS {r : RV} {x : Str} {xs : List Str} (hr : rd r = some (tS xs)) (hx : PyData.strOk x = true) (h : OkS xs) : inR (.val (.str x)) r = some (.val (.bool (decide (x ∈ xs)))) := by
  unfold inR cmp2
  rw [rd_val, hr]
  show (inD (.str x) (tS xs)).map _ = _
  rw [show inD (.str x) (tS xs) = (if SeqAt.shaped (.str x) = true ∧ SeqAt.shaped (tS xs) = true then some ((xs.map PyData.str).any fun z => PyData.eqv z (.str x)) else none) from rfl, if_pos ⟨shaped_str hx, shaped_tS h⟩, any_eqv]
  rfl
theorem inR_lS {r : RV} {x : Str} {xs : List Str} (hr : rd r = some (.list (xs.map PyData.str))) (hx : PyData.strOk x = true) (h : OkS xs) : inR (.val (.str x)) r = some (.val (.bool (decide (x ∈ xs)))) := by
  unfold inR cmp2
  rw [rd_val, hr]
  show (inD (.str x) (.list (xs.map PyData.str))).map _ = _
  rw [show inD (.str x) (.list (xs.map PyData.str)) = (if SeqAt.shaped (.str x) = true ∧ SeqAt.shaped (.list (xs.map PyData.str)) = true then some ((xs.map PyData.str).any fun z => PyData.eqv z (.str x)) else none) from rfl, if_pos ⟨shaped_str hx, shaped_lS h⟩, any_eqv]
  rfl
theorem notIn_tS {r : RV} {x : Str} {xs : List Str} (hr : rd r = some (tS xs)) (hx : PyData.strOk x = true) (h : OkS xs) : notInR (.val (.str x)) r = some (.val (.bool (!decide (x ∈ xs)))) := by
  unfold notInR cmp2
  rw [rd_val, hr]
  show ((inD (.str x) (tS xs)).map (! ·)).map _ = _
  rw [show inD (.str x) (tS xs) = (if SeqAt.shaped (.str x) = true ∧ SeqAt.shaped (tS xs) = true then some ((xs.map PyData.str).any fun z => PyData.eqv z (.str x)) else none) from rfl, if_pos ⟨shaped_str hx, shaped_tS h⟩, any_eqv]
  rfl
theorem notIn_lS {r : RV} {x : Str} {xs : List Str} (hr : rd r = some (.list (xs.map PyData.str))) (hx : PyData.strOk x = true) (h : OkS xs) : notInR (.val (.str x)) r = some (.val (.bool (!decide (x ∈ xs)))) := by
  unfold notInR cmp2
  rw [rd_val, hr]
  show ((inD (.str x) (.list (xs.map PyData.str))).map (! ·)).map _ = _
  rw [show inD (.str x) (.list (xs.map PyData.str)) = (if SeqAt.shaped (.str x) = true ∧ SeqAt.shaped (.list (xs.map PyData.str)) = true then some ((xs.map PyData.str).any fun z => PyData.eqv z (.str x)) else none) from rfl, if_pos ⟨shaped_str hx, shaped_lS h⟩, any_eqv]
  rfl
theorem Cols.okS {xs : List Str} (h : Cols xs) : OkS xs := fun x hx => (h.ok x hx).ok
theorem SomeOf.okS {cols xs : List Str} (h : SomeOf cols xs) (hc : Cols cols) : OkS xs := fun x hx => hc.okS x (h.sub x hx)
/-- parts that cover the columns -/
structure Cover (cols : List Str) (ps : List (List Str)) : Prop where
  ne : 1 ≤ ps.length
  le : ps.length ≤ 24
  part : ∀ p ∈ ps, SomeOf cols p
  full : ∀ p ∈ ps, p ≠ []
  all : ∀ x ∈ cols, ∃ p ∈ ps, x ∈ p
abbrev tT (ps : List (List Str)) : D := .tuple (ps.map tS)
end PL
namespace JS
open PySem PL
theorem m_is_within {cols xs : List Str} (hc : Cols cols) (h : SomeOf cols xs) : M_is_within [.val (tS xs), .val (tS cols)] = retM (.val (.bool true)) := by
  have hl := h.le
  have hcl := hc.le
  have e3 : xCall allR (aCons (xLc (iSeq (xVar 0)) [2] (gNm 2) tYesM (xBin inR (xVar 2) (xVar 1))) aNil) [Slot.val (tS xs), .val (tS cols), .un] = retM (.val (.bool true)) := by
    refine all_true (ds := xs.map PyData.str) (b := false) (by simp) (by rw [List.length_map]; exact small_le (by omega)) fun d hd => ?_
    obtain ⟨x, hx, rfl⟩ := List.mem_map.mp hd
    have e := inR_tS (r := .val (tS cols)) (x := x) rfl (hc.okS x (h.sub x hx)) hc.okS
    rw [decide_eq_true (h.sub x hx)] at e
    simp [turnL, wipeS, e]
  unfold M_is_within g_is_within
  simp only [bodyM_def, sRet_def, List.replicate, List.cons_append, List.nil_append, e3]
  simp
theorem m_is_some_of {cols xs : List Str} {k : Int} (hc : Cols cols) (h : SomeOf cols xs) (hk : k ≤ xs.length) : M_is_some_of [.val (tS cols), .val (tS xs), .val (.int k)] = retM (.val (.bool true)) := by
  have hl := h.le
  have hcl := hc.le
  have e1 := m_is_tuple_of (ds := xs.map PyData.str) (a := k) (b := (cols.length : Int))
  have i1 : decide (k ≤ ((xs.map PyData.str).length : Int)) = true := by simpa using hk
  have i2 : decide (((xs.map PyData.str).length : Int) ≤ (cols.length : Int)) = true := by simp; omega
  rw [i1, i2] at e1
  have e2 := m_is_ascending (xs := xs) (by omega)
  rw [ascB_of h.asc] at e2
  have e3 : xCall allR (aCons (xLc (iSeq (xVar 1)) [3] (gNm 3) tYesM (xIsi (isT "str") (xVar 3))) aNil) [Slot.val (tS cols), .val (tS xs), .val (.int k), .un] = retM (.val (.bool true)) := by
    refine all_true (ds := xs.map PyData.str) (b := false) (by simp) (by rw [List.length_map]; exact small_le (by omega)) fun d hd => ?_
    obtain ⟨x, hx, rfl⟩ := List.mem_map.mp hd
    simp [turnL, wipeS, isT, tyN]
  unfold M_is_some_of g_is_some_of
  simp only [bodyM_def, sSeq_def, sIf_def, tOrM_def, tNotM_def, tTru_def, sRet_def, List.replicate, List.cons_append, List.nil_append, e3]
  simp [e1, e2, m_is_within hc h]
end JS
set_option Elab.async false
set_option linter.all false
set_option maxRecDepth 100000
set_option maxHeartbeats 2000000
/-! Q5: covers are let through. -/
namespace PL
open PySem
section
variable {ι : Type} {g g1 : D → Sl → Option Sl} {tt tt1 : Sl → M Bool} {te : Sl → M RV} {src1 : Sl → M (List D × Bool)} {vs1 : List Nat} {ρ ρ0 : Sl} {e : ι → D}
theorem compL2_ret {F : ι → List D} : ∀ {xs : List ι}, (∀ x ∈ xs, turn2 ρ0 g tt src1 vs1 g1 tt1 te (e x) = retM (F x)) → compL2 ρ0 g tt src1 vs1 g1 tt1 te (xs.map e) = retM (xs.flatMap F)
  | [], _ => rfl
  | x :: xs, h => by
    have ih := compL2_ret (xs := xs) fun y hy => h y (List.mem_cons_of_mem _ hy)
    rw [List.map_cons, compL2, h x (List.mem_cons_self ..), calmM_ret, bindM_ret, ih, bindM_ret, List.flatMap_cons]
end
theorem nub_nodup (ks : List L2.Key) : (nubL ks).Nodup := by
  have key : ∀ (ks acc : List L2.Key), acc.Nodup → (ks.foldl (fun acc k => if k ∈ acc then acc else acc ++ [k]) acc).Nodup := by
    intro ks
    induction ks with
    | nil => intro acc h; exact h
    | cons x xs ih =>
      intro acc h
      rw [List.foldl_cons]
      refine ih _ ?_
      split
      · exact h
      · rename_i hx
        rw [List.nodup_append]
        refine ⟨h, by simp, fun a ha b hb => ?_⟩
        have : b = x := by simpa using hb
        subst this
        exact fun z => hx (z ▸ ha)
  exact key ks [] List.nodup_nil
theorem keysOf_strs : ∀ xs : List Str, keysOf (xs.map PyData.str) = some (xs.map Sum.inr)
  | [] => rfl
  | x :: xs => by
    rw [List.map_cons]
    show (keysOf (xs.map PyData.str)).map _ = _
    rw [keysOf_strs xs]
    rfl
theorem nub_strs {xs cols : List Str} (nd : cols.Nodup) (h : ∀ x, x ∈ xs ↔ x ∈ cols) : (nubL (xs.map Sum.inr)).length = cols.length := by
  have n1 := nub_nodup (xs.map Sum.inr)
  have n2 : (cols.map (Sum.inr : Str → L2.Key)).Nodup := by
    unfold List.Nodup at *
    rw [List.pairwise_map]
    exact nd.imp fun hab e => hab (Sum.inr.inj e)
  have a := nodup_len n1 (ys := cols.map Sum.inr) fun k hk => by
    obtain ⟨x, hx, rfl⟩ := List.mem_map.mp ((mem_nubL k _).mp hk)
    exact List.mem_map.mpr ⟨x, (h x).mp hx, rfl⟩
  have b := nodup_len n2 (ys := nubL (xs.map Sum.inr)) fun k hk => by
    obtain ⟨x, hx, rfl⟩ := List.mem_map.mp hk
    exact (mem_nubL _ _).mpr (List.mem_map.mpr ⟨x, (h x).mpr hx, rfl⟩)
  rw [List.length_map] at a b
  omega
theorem flat_strs : ∀ ps : List (List Str), (ps.flatMap fun p => p.map PyData.str) = ps.flatten.map PyData.str
  | [] => rfl
  | p :: ps => by rw [List.flatMap_cons, flat_strs ps, List.flatten_cons, List.map_append]
theorem flat_len {n : Nat} : ∀ {ps : List (List Str)}, (∀ p ∈ ps, p.length ≤ n) → ps.flatten.length ≤ ps.length * n
  | [], _ => by simp
  | p :: ps, h => by
    have ih := flat_len (ps := ps) fun q hq => h q (List.mem_cons_of_mem _ hq)
    have h0 := h p (List.mem_cons_self ..)
    rw [List.flatten_cons, List.length_append, List.length_cons, Nat.add_mul]
    omega
end PL
namespace JS
open PySem PL
theorem m_is_cover_over {cols : List Str} {ps : List (List Str)} (hc : Cols cols) (h : Cover cols ps) : M_is_cover_over [.val (tS cols), .val (tT ps)] = retM (.val (.bool true)) := by
  have h1 := h.ne
  have h2 := h.le
  have hcl := hc.le
  have e1 := m_is_tuple_of (ds := ps.map tS) (a := 1) (b := 24)
  have i1 : decide ((1 : Int) ≤ ((ps.map tS).length : Int)) = true := by simp; omega
  have i2 : decide (((ps.map tS).length : Int) ≤ 24) = true := by simp; omega
  rw [i1, i2] at e1
  have e3 : xCall allR (aCons (xLc (iSeq (xVar 1)) [2] (gNm 2) tYesM (xFn 3 M_is_some_of (aCons (xVar 0) (aCons (xVar 2) (aCons (xC (.int 1)) aNil))) [])) aNil) [Slot.val (tS cols), .val (tT ps), .un, .un] = retM (.val (.bool true)) := by
    refine all_true (ds := ps.map tS) (b := false) (by simp) (by rw [List.length_map]; exact small_le (by omega)) fun d hd => ?_
    obtain ⟨p, hp, rfl⟩ := List.mem_map.mp hd
    have hpl : (1 : Int) ≤ p.length := by
      have := h.full p hp
      cases p with
      | nil => exact absurd rfl this
      | cons a b => simp; omega
    simp [turnL, wipeS, m_is_some_of hc (h.part p hp) hpl]
  have hlen : ps.flatten.length ≤ 24 * 24 := Nat.le_trans (flat_len (n := 24) fun p hp => Nat.le_trans (h.part p hp).le hcl) (Nat.mul_le_mul_right _ h2)
  have e4 : xLenSc2 (iSeq (xVar 1)) [2, 3] (gNm 2) tYesM (iSeq (xVar 2)) [3] (gNm 3) tYesM (xVar 3) [Slot.val (tS cols), .val (tT ps), .un, .un] = retM (.val (.int (cols.length : Nat))) := by
    unfold xLenSc2
    have es : iSeq (xVar 1) [Slot.val (tS cols), .val (tT ps), .un, .un] = retM (ps.map tS, false) := by simp
    have ec : compL2 (wipeS [Slot.val (tS cols), .val (tT ps), .un, .un] [2, 3]) (gNm 2) tYesM (iSeq (xVar 2)) [3] (gNm 3) tYesM (xVar 3) (ps.map tS) = retM (ps.flatten.map PyData.str) := by
      rw [compL2_ret (F := fun p => p.map PyData.str) fun p hp => ?_, flat_strs]
      have e5 : compL (wipeS [Slot.val (tS cols), .val (tT ps), .val (tS p), .un] [3]) (gNm 3) tYesM (xVar 3) (p.map PyData.str) = retM (p.map PyData.str) := compL_map fun x hx => by
        simp [turnL, wipeS]
      simp [turn2, wipeS] at e5 ⊢
      exact e5
    rw [es, bindM_ret, ec, bindM_ret, List.length_map, if_pos (show ps.flatten.length < scanBound by unfold scanBound; omega), keysOf_strs, Option.map_some, liftO_some]
    congr 4
    exact nub_strs (asc_nodup hc.asc) fun x => ⟨fun hx => by
      obtain ⟨p, hp, hx⟩ := List.mem_flatten.mp hx
      exact (h.part p hp).sub x hx, fun hx => by
      obtain ⟨p, hp, hx⟩ := h.all x hx
      exact List.mem_flatten.mpr ⟨p, hp, hx⟩⟩
  unfold M_is_cover_over g_is_cover_over
  simp only [bodyM_def, sSeq_def, sIf_def, tOrM_def, tNotM_def, tTru_def, sRet_def, List.replicate, List.cons_append, List.nil_append, xBin_def, e3, e4]
  simp [e1, e4]
theorem m_check_cover {cols : List Str} {ps : List (List Str)} (hc : Cols cols) (h : Cover cols ps) : M_check_cover [.val (tS cols), .val (tT ps)] = retM (.val .none) := by
  unfold M_check_cover g_check_cover
  have e : M_check_parts [.val (tS cols), .val (tT ps), .val (.str "parts")] = retM (.val .none) := by
    unfold M_check_parts g_check_parts
    simp [m_is_cover_over hc h]
  simp [sExpr, m_check_columns hc, e]
end JS
set_option Elab.async false
set_option linter.all false
set_option maxRecDepth 100000
set_option maxHeartbeats 4000000
/-! Q6: the drawn numbers. -/
namespace PL
open PySem
/-- as far as reckonings go -/
@[irreducible] def lim : Nat := 2 ^ 60
theorem lim_lt {n : Nat} (h : n < lim) : n < 2 ^ 60 := by
  unfold lim at h
  exact h
theorem lim_of {n : Nat} (h : n ≤ 100000) : n < lim := by
  unfold lim
  exact Nat.lt_of_le_of_lt h (by decide +kernel)
/-- one stream; not more than n cells of it are used -/
def Good (n : Nat) (gs : GS) : Prop := ∃ ns c k, gs = [.strm ns c k] ∧ 0 ≤ k ∧ k ≤ (n : Int)
theorem Good.mono {n m : Nat} {gs : GS} (h : Good n gs) (l : n ≤ m) : Good m gs := by
  obtain ⟨ns, c, k, e, h1, h2⟩ := h
  exact ⟨ns, c, k, e, h1, by omega⟩
section
variable {ns : List Int} {c k : Int} {Q : RV → GS → Prop} {P : Out → GS → Prop} {ρ : Sl}
@[simp] theorem wp_ix0 : wp (ixM (.obj 0) (.val (.int 0))) [.strm ns c k] Q ↔ Q (.val (.list (ns.map .int))) [.strm ns c k] := by
  unfold wp
  exact Iff.rfl
@[simp] theorem wp_ix1 : wp (ixM (.obj 0) (.val (.int 1))) [.strm ns c k] Q ↔ Q (.val (.int c)) [.strm ns c k] := by
  unfold wp
  exact Iff.rfl
@[simp] theorem wp_ix2 : wp (ixM (.obj 0) (.val (.int 2))) [.strm ns c k] Q ↔ Q (.val (.int k)) [.strm ns c k] := by
  unfold wp
  exact Iff.rfl
@[simp] theorem wp_st1 {z : Int} : wp (storeM (.obj 0 :: ρ) 0 (.val (.int 1)) (.int z)) [.strm ns c k] P ↔ P (.nx (.obj 0 :: ρ)) [.strm ns z k] := by
  unfold wp
  exact Iff.rfl
@[simp] theorem wp_st2 {z : Int} : wp (storeM (.obj 0 :: ρ) 0 (.val (.int 2)) (.int z)) [.strm ns c k] P ↔ P (.nx (.obj 0 :: ρ)) [.strm ns c z] := by
  unfold wp
  exact Iff.rfl
@[simp] theorem sStore_def {j : Nat} {gi ge : Sl → M RV} : sStore j gi ge ρ = useM (ge ρ) fun rv => bindM (liftO (valOf rv)) fun v => bindM (liftO (hasSlot ρ j)) fun _ => useM (gi ρ) fun ri => storeM ρ j ri v := id rfl
@[simp] theorem hasSlot_obj {n : Nat} : hasSlot (.obj n :: ρ) 0 = some () := id rfl
@[simp] theorem wp_retB {α : Type} {a : α} {gs : GS} {R : α → GS → Prop} : wp (fun g => Res.ok a g) gs R ↔ R a gs := by
  unfold wp
  exact Iff.rfl
theorem modR_pos {i j : Int} (h : 0 < j) : modR (.val (.int i)) (.val (.int j)) = some (.val (.int (i % j))) := by
  show ((if 0 < j then some (PyData.int (i % j)) else none).map RV.val) = _
  rw [if_pos h]; rfl
theorem fdivR_pos {i j : Int} (h : 0 < j) (h2 : j.natAbs.log2 < 9000) : fdivR (.val (.int i)) (.val (.int j)) = some (.val (.int (i / j))) := by
  show ((if 0 < j ∧ j.natAbs.log2 < 9000 then some (PyData.int (i / j)) else none).map RV.val) = _
  rw [if_pos ⟨h, h2⟩]; rfl
theorem mulR_ok {i j : Int} (h : i.natAbs.log2 + j.natAbs.log2 < 1000000) : mulR (.val (.int i)) (.val (.int j)) = some (.val (.int (i * j))) := by
  show (if i.natAbs.log2 + j.natAbs.log2 < 1000000 then some (RV.val (PyData.int (i * j))) else none) = _
  rw [if_pos h]
theorem powR_ok {i j : Int} (h : 0 ≤ j ∧ j ≤ 1000000 ∧ i.natAbs < 2 ^ 64) : powR (.val (.int i)) (.val (.int j)) = some (.val (.int (i ^ j.toNat))) := by
  show ((if 0 ≤ j ∧ j ≤ 1000000 ∧ i.natAbs < 2 ^ 64 then some (PyData.int (i ^ j.toNat)) else none).map RV.val) = _
  rw [if_pos h]; rfl
theorem log2_lt {n b : Nat} (h : n < 2 ^ b) : n.log2 ≤ b := by
  by_cases hn : n = 0
  · subst hn; simp
  · exact Nat.le_of_lt ((Nat.log2_lt hn).mpr h)
end
theorem p60 : powR (.val (.int 10)) (.val (.int 60)) = some (.val (.int (10 ^ 60))) := powR_ok (by decide)
theorem p18 : powR (.val (.int 10)) (.val (.int 18)) = some (.val (.int (10 ^ 18))) := powR_ok (by decide)
theorem log_int {i : Int} {b : Nat} (h0 : 0 ≤ i) (h : i < 2 ^ b) : i.natAbs.log2 ≤ b := by
  refine log2_lt ?_
  have e : ((i.natAbs : Nat) : Int) = i := Int.natAbs_of_nonneg h0
  have : ((i.natAbs : Nat) : Int) < ((2 ^ b : Nat) : Int) := by rw [e]; simpa using h
  exact_mod_cast this
end PL
namespace JS
open PySem PL
/-- what fills an empty cell -/
def cellOf (cell k : Int) : Int := if cell < 10 ^ 18 then (let c := (cell * 48271 + k * 69621 + 11) % 2147483647; (c * 16807 + 13) % 2147483647 * 65537 + c) else cell
theorem wp_next {n many : Nat} {gs : GS} (G : Good n gs) (hn : n < lim) (h : 0 < many) (hm : many < lim) :
    wp (M__law_next [.obj 0, .val (.int (many : Nat))]) gs fun r g => ∃ d : Nat, d < many ∧ r = .val (.int (d : Nat)) ∧ Good (n + 1) g := by
  have hn := lim_lt hn
  have hm := lim_lt hm
  obtain ⟨ns, c, k, rfl, h0, hk⟩ := G
  have hm0 : (0 : Int) < (many : Int) := by omega
  have hlog : ((many : Int)).natAbs.log2 < 9000 := by
    have := log2_lt (n := many) (b := 60) hm
    simp
    omega
  have fin : ∀ (c' k' : Int), 0 ≤ k' → k' ≤ (n : Int) + 1 → ∃ d : Nat, d < many ∧ c' % (many : Int) = (d : Nat) ∧ Good (n + 1) [.strm ns (c' / (many : Int)) k'] := fun c' k' a b => by
    have h1 := Int.emod_nonneg c' (Int.ne_of_gt hm0)
    have h2 := Int.emod_lt_of_pos c' hm0
    refine ⟨(c' % (many : Int)).toNat, by omega, ?_, ns, _, k', rfl, a, by omega⟩
    rw [Int.toNat_of_nonneg h1]
  have kb : k < 2 ^ 60 := by
    have : (n : Int) < ((2 ^ 60 : Nat) : Int) := by exact_mod_cast hn
    have e : ((2 ^ 60 : Nat) : Int) = 2 ^ 60 := by simp
    rw [e] at this
    omega
  have m1 : k.natAbs.log2 + (69621 : Int).natAbs.log2 < 1000000 := by
    have := log_int h0 kb
    have h2 : (69621 : Int).natAbs.log2 ≤ 20 := log_int (by decide) (by decide)
    omega
  have cells : ∀ cell : Int, 0 ≤ cell → cell < 10 ^ 18 → cell.natAbs.log2 + (48271 : Int).natAbs.log2 < 1000000 := fun cell a b => by
    have h1 := log_int (b := 60) a (Int.lt_trans b (by decide))
    have h2 : (48271 : Int).natAbs.log2 ≤ 20 := log_int (by decide) (by decide)
    omega
  have low : ∀ x : Int, (x % 2147483647).natAbs.log2 ≤ 31 := fun x => log_int (Int.emod_nonneg x (by decide)) (Int.lt_trans (Int.emod_lt_of_pos x (by decide)) (by decide))
  have l1 : (16807 : Int).natAbs.log2 ≤ 20 := log_int (by decide) (by decide)
  have l2 : (65537 : Int).natAbs.log2 ≤ 20 := log_int (by decide) (by decide)
  have m2 : ∀ x : Int, (x % 2147483647).natAbs.log2 + (16807 : Int).natAbs.log2 < 1000000 := fun x => by have := low x; omega
  have m3 : ∀ x : Int, (x % 2147483647).natAbs.log2 + (65537 : Int).natAbs.log2 < 1000000 := fun x => by have := low x; omega
  have mp : (0 : Int) < 2147483647 := by decide
  have p6 : (0 : Int) < 1000000000000000000000000000000000000000000000000000000000000 := by decide
  unfold M__law_next g__law_next
  by_cases hc : c = 0
  · subst hc
    by_cases hk2 : k < (ns.length : Int)
    · obtain ⟨x, ea⟩ : ∃ x, L2.atI (ns.map PyData.int) k = some (.int x) := by
        obtain ⟨j, rfl⟩ := Int.eq_ofNat_of_zero_le h0
        have hj : j < ns.length := by omega
        exact ⟨ns[j], by rw [atI_nat (by rw [List.length_map]; exact hj)]; simp⟩
      generalize hcell : (if x < 0 then -x else x) % 10 ^ 60 = cell
      have c0 : 0 ≤ cell := by rw [← hcell]; exact Int.emod_nonneg _ (by decide)
      have hcell2 := hcell
      simp only [Int.reducePow] at hcell2
      by_cases hlow : cell < 10 ^ 18
      · have hl2 := hlow
        simp only [Int.reducePow] at hl2
        simp [modR_pos hm0, fdivR_pos hm0 hlog, hk2, ixM_list, ea, p60, p18, modR_pos p6, modR_pos mp, hcell, hcell2, hlow, hl2, mulR_ok (cells cell c0 hlow), mulR_ok m1, mulR_ok (m2 _), mulR_ok (m3 _)]
        exact fin _ (k + 1) (by omega) (by omega)
      · have hl2 := hlow
        simp only [Int.reducePow] at hl2
        simp [modR_pos hm0, fdivR_pos hm0 hlog, hk2, ixM_list, ea, p60, p18, modR_pos p6, modR_pos mp, hcell, hcell2, hlow, hl2]
        exact fin _ (k + 1) (by omega) (by omega)
    · by_cases hlow : 7 + k < 10 ^ 18
      · have hl2 := hlow
        simp only [Int.reducePow] at hl2
        simp [modR_pos hm0, fdivR_pos hm0 hlog, hk2, p60, p18, modR_pos mp, hlow, hl2, mulR_ok (cells (7 + k) (by omega) hlow), mulR_ok m1, mulR_ok (m2 _), mulR_ok (m3 _)]
        exact fin _ (k + 1) (by omega) (by omega)
      · have hl2 := hlow
        simp only [Int.reducePow] at hl2
        simp [modR_pos hm0, fdivR_pos hm0 hlog, hk2, p60, p18, modR_pos mp, hlow, hl2]
        exact fin _ (k + 1) (by omega) (by omega)
  · simp [hc, modR_pos hm0, fdivR_pos hm0 hlog]
    exact fin c k h0 (by omega)
end JS
set_option Elab.async false
set_option linter.all false
set_option maxRecDepth 100000
set_option maxHeartbeats 4000000
/-! Q7: drawing one of a row, shuffling. -/
namespace PL
open PySem
@[simp] theorem wp_liftS {α : Type} {a : α} {gs : GS} {Q : α → GS → Prop} : wp (liftO (some a)) gs Q ↔ Q a gs := by
  unfold wp
  exact Iff.rfl
@[simp] theorem sFor_def {src : Sl → M (List D × Bool)} {g : D → Sl → Option Sl} {tb : Sl → M Out} {ρ : Sl} : sFor src g tb ρ = bindM (src ρ) fun a => if a.2 = false then forL g tb a.1 ρ else stuckM := id rfl
theorem popIx_nat {k n : Nat} (h : k < n) (hn : n ≤ 10000) : popIx (k : Int) n = some k := by
  have h1 : -(2 ^ 63) ≤ (k : Int) ∧ (k : Int) < 2 ^ 63 := by
    have h2 : (k : Int) ≤ 10000 := by omega
    have h3 : (10000 : Int) < 2 ^ 63 := by decide
    have h5 : -(2 ^ 63) ≤ (0 : Int) := by decide
    exact ⟨Int.le_trans h5 (Int.natCast_nonneg k), Int.lt_of_le_of_lt h2 h3⟩
  unfold popIx
  rw [if_pos h1]
  obtain ⟨e, _⟩ := L2.ixN_seq (n := n) (i := (k : Int)) (j := k) (by unfold L2.ixN; rw [if_pos (by omega), if_pos (by omega)]; simp)
  exact e
theorem wp_callB {n : Nat} {g : Sl → M RV} {rs : List RV} {gs : GS} {Q : RV → GS → Prop} (hn : rs.length = n) (h : wp (g (rs.map toSl)) gs fun r g' => (cleanR r = true ∧ g'.length = gs.length) ∧ Q r g') : wp (callM n g rs []) gs Q := by
  have e : rs.map toSl ++ ([] : List D).map Slot.val = rs.map toSl := by simp
  unfold wp callM at *
  rw [if_pos (by simpa using hn), e]
  cases eg : g (rs.map toSl) gs with
  | ok r g' =>
    rw [eg] at h
    obtain ⟨h1, h2⟩ := h
    by_cases hb : rs.any isBor = true
    · rw [if_pos hb]
      simp only
      rw [if_pos h1]
      exact h2
    · rw [if_neg hb]
      exact h2
  | exc x g' => rw [eg] at h; exact h.elim
  | stuck => rw [eg] at h; exact h.elim
theorem perm_erase {α : Type} : ∀ (l : List α) (i : Nat) (h : i < l.length), (l[i] :: l.eraseIdx i).Perm l
  | a :: l, 0, _ => List.Perm.refl _
  | a :: l, i + 1, h => by
    have ih := perm_erase l i (by simpa using h)
    show ((a :: l)[i + 1] :: a :: l.eraseIdx i).Perm (a :: l)
    exact (List.Perm.swap a _ _).trans (List.Perm.cons a ih)
theorem Good.len {n : Nat} {gs : GS} (h : Good n gs) : gs.length = 1 := by
  obtain ⟨ns, c, k, e, _⟩ := h
  rw [e]; rfl
end PL
namespace JS
open PySem PL
theorem wp_pick {n : Nat} {gs : GS} {d : D} {ds : List D} (hd : d = .list ds ∨ d = .tuple ds) (G : Good n gs) (hn : n < lim) (h : 0 < ds.length) (hm : ds.length ≤ 10000) :
    wp (M__law_pick [.obj 0, .val d]) gs fun r g => ∃ z ∈ ds, r = .val z ∧ Good (n + 1) g := by
  have hl : lenR [.val d] = some (.val (.int (ds.length : Nat))) := by rcases hd with rfl | rfl <;> rfl
  have hi : ∀ {i : Int}, ixM (.val d) (.val (.int i)) = liftO ((L2.atI ds i).map .val) := by
    rcases hd with rfl | rfl
    · exact ixM_list
    · exact ixM_tuple
  unfold M__law_pick g__law_pick
  simp [hl]
  refine wp_mono (wp_next G hn h (lim_of (by omega))) fun r g ⟨k, hk, hr, G2⟩ => ?_
  subst hr
  simp [hi, atI_nat hk]
  exact ⟨ds[k], List.getElem_mem hk, rfl, G2⟩
theorem wp_shuffled {n : Nat} {gs : GS} {d : D} {ds : List D} (hd : d = .list ds ∨ d = .tuple ds) (G : Good n gs) (hn : n + ds.length < lim) (hm : ds.length ≤ 10000) :
    wp (M__law_shuffled [.obj 0, .val d]) gs fun r g => ∃ ys, r = .own (.list ys) ∧ ys.Perm ds ∧ Good (n + ds.length) g := by
  have hl : listR [.val d] = some (.own (.list ds)) := by rcases hd with rfl | rfl <;> rfl
  have hs : iRng rng1 (aCons (xCall lenR (aCons (xVar 1) aNil)) aNil) [Slot.obj 0, .own (.list ds), .own (.list []), .un] = retM (rngD 0 ds.length, false) := iRng_ret (rs := [.val (.int (ds.length : Nat))]) (by simp) (rng1_nat hm)
  unfold M__law_shuffled g__law_shuffled
  simp [-iRng_def, hl, hs]
  rw [rngD_map]
  refine wp_mono (wp_forL (ι := Nat) (all := List.range ds.length) (e := fun i => PyData.int (i : Nat)) (fun pre ρ g => ∃ left found s3, ρ = [.obj 0, .own (.list left), .own (.list found), s3] ∧ (found ++ left).Perm ds ∧ left.length + pre.length = ds.length ∧ Good (n + pre.length) g) (fun _ _ => False) (fun _ _ => False)
    (fun pre i post ρ g ea ⟨left, found, s3, e, hp, hc, G2⟩ => ?_) (pre := []) rfl ⟨ds, [], .un, rfl, by simp, by simp, by simpa using G⟩) fun o g h => ?_
  · subst e
    have hi : pre.length < ds.length := by
      have := congrArg List.length ea
      simp at this
      omega
    have hleft : 0 < left.length := by omega
    have hfl : found.length + left.length = ds.length := by
      have := hp.length_eq
      rwa [List.length_append] at this
    refine ⟨_, rfl, ?_⟩
    have hlen : (ownList [Slot.obj 0, .own (.list left), .own (.list found), .val (.int (i : Nat))] 1) = some left := rfl
    simp [sAppE, ePopAt, ownList, hlen]
    refine wp_mono (wp_next G2 (by omega) hleft (lim_of (by omega))) fun r g3 ⟨k, hk, hr, G3⟩ => ?_
    subst hr
    have hz : found.length < sizeLine := Nat.lt_of_lt_of_le (by omega) (small_le (n := 10000) (Nat.le_refl _))
    simp [popIx_nat hk (by omega), hk, hz]
    refine ⟨_, _, ⟨rfl, rfl⟩, ?_, ?_, ?_⟩
    · have p1 : (left[k] :: left.eraseIdx k).Perm left := perm_erase left k hk
      have p2 : (found ++ [left[k]] ++ left.eraseIdx k).Perm (found ++ left) := by
        rw [List.append_assoc]
        exact List.Perm.append_left found p1
      exact p2.trans hp
    · rw [List.length_eraseIdx_of_lt hk]; omega
    · exact G3.mono (by omega)
  · cases o with
    | nx ρ =>
      rcases h with ⟨left, found, s3, e, hp, hc, G2⟩ | h
      · subst e
        rw [List.length_range] at hc G2
        have h0 : left = [] := List.eq_nil_of_length_eq_zero (by omega)
        subst h0
        simp
        exact ⟨by simpa using hp, G2⟩
      · exact h.elim
    | ret r => exact h.elim
    | brk ρ => exact h.elim
    | cnt ρ => exact h.elim
end JS
set_option Elab.async false
set_option linter.all false
set_option maxRecDepth 100000
set_option maxHeartbeats 4000000
/-! Q8: sorted texts. -/
namespace PL
open PySem
theorem dataLe_str (x y : Str) : PySem.W.dataLe false id (.str x) (.str y) = !ltS y x := by
  show (!PySem.W.dataLt (.str y) (.str x)) = _
  rw [PySem.W.dataLt_str]
  rfl
theorem dataLe_total : PySem.W.TotalLe (PySem.W.dataLe false (id : D → D)) := PySem.W.sortLe_total _ _ _
/-- the names in the order -/
def sortS (xs : List Str) : List Str := xs.mergeSort fun a b => !ltS b a
theorem sortD_strs (xs : List Str) : sortD (xs.map PyData.str) = (sortS xs).map PyData.str := by
  unfold sortD sortS
  rw [List.map_mergeSort]
  intro a _ b _
  rw [dataLe_str]
theorem sortS_perm (xs : List Str) : (sortS xs).Perm xs := List.mergeSort_perm ..
theorem SLt_total {x y : Str} (h : ¬ SLt y x) (hne : x ≠ y) : SLt x y := by
  unfold SLt at *
  rcases Classical.em (x.cps.toList < y.cps.toList) with h1 | h1
  · exact h1
  · exact absurd (Str.ext' (List.le_antisymm (List.not_lt.mp h) (List.not_lt.mp h1))) hne
theorem SLt_trans {x y z : Str} (h : SLt x y) (h' : SLt y z) : SLt x z := List.lt_trans h h'
theorem sortS_asc {xs : List Str} (nd : xs.Nodup) : (sortS xs).Pairwise SLt := by
  have h1 : (sortS xs).Pairwise fun a b => (!ltS b a) = true := by
    refine List.pairwise_mergeSort (fun a b c h1 h2 => ?_) (fun a b => ?_) xs
    · have := dataLe_total.trans (.str a) (.str b) (.str c) (by rw [dataLe_str]; exact h1) (by rw [dataLe_str]; exact h2)
      rwa [dataLe_str] at this
    · have := dataLe_total.total (.str a) (.str b)
      rw [dataLe_str, dataLe_str] at this
      exact Bool.or_eq_true_iff.mpr this
  have nd2 : (sortS xs).Nodup := (sortS_perm xs).nodup_iff.mpr nd
  refine (h1.and nd2).imp fun {a b} h => ?_
  refine SLt_total (fun hlt => ?_) h.2
  have := ltS_iff.mpr hlt
  simp [this] at h
theorem sortedR_strs {r : RV} {d : D} {xs : List Str} (hr : rd r = some d) (hd : itemsD d = some (xs.map PyData.str)) (h : OkS xs) (hl : xs.length ≤ 10000) : sortedR [r] = some (.own (.list ((sortS xs).map PyData.str))) := by
  have hb : sortB (xs.map PyData.str) = true := by
    unfold sortB alikeB
    simp only [Bool.and_eq_true, Bool.or_eq_true, List.all_eq_true]
    refine ⟨fun a ha b hb => ?_, .inr fun a ha => ?_, fun a ha => ?_⟩
    · obtain ⟨x, _, rfl⟩ := List.mem_map.mp ha
      obtain ⟨y, _, rfl⟩ := List.mem_map.mp hb
      rfl
    · obtain ⟨x, _, rfl⟩ := List.mem_map.mp ha
      rfl
    · obtain ⟨x, hx, rfl⟩ := List.mem_map.mp ha
      exact ⟨h x hx, rfl⟩
  show ((rd r).bind fun d => (itemsD d).bind fun ds => if ds.length ≤ sizeLine ∧ sortB ds = true then some (RV.own (.list (sortD ds))) else none) = _
  rw [hr, Option.bind_some, hd, Option.bind_some, if_pos ⟨by rw [List.length_map]; exact small_le hl, hb⟩, sortD_strs]
end PL
set_option Elab.async false
set_option linter.all false
set_option maxRecDepth 100000
set_option maxHeartbeats 4000000
/-! Q9: some of a row, drawn. -/
namespace PL
open PySem
theorem slO_own {ds : List D} {lo hi : Option Int} : slO (.val (.list ds)) lo hi = some (.own (.list (cutD ds lo hi))) := rfl
theorem cutD_take {α : Type} (xs : List α) (k : Nat) : cutD xs none (some (k : Int)) = xs.take k := by
  unfold cutD
  rw [HT.sIx_none, HT.sIx_nat, List.drop_zero, Nat.sub_zero]
  rcases Nat.le_total k xs.length with h | h
  · rw [Nat.min_eq_left h]
  · rw [Nat.min_eq_right h, List.take_of_length_le (Nat.le_refl _), List.take_of_length_le h]
theorem cutD_drop {α : Type} (xs : List α) (k : Nat) : cutD xs (some (k : Int)) none = xs.drop k := by
  unfold cutD
  rw [HT.sIx_none, HT.sIx_nat]
  rcases Nat.le_total k xs.length with h | h
  · rw [Nat.min_eq_left h, List.take_of_length_le (by rw [List.length_drop]; exact Nat.le_refl _)]
  · rw [Nat.min_eq_right h, List.drop_of_length_le (Nat.le_refl _), List.drop_of_length_le h, List.take_nil]
/-- a permutation of texts as data is one of texts -/
theorem perm_strs {xs : List Str} {ds : List D} (h : ds.Perm (xs.map PyData.str)) : ∃ ys : List Str, ds = ys.map PyData.str ∧ ys.Perm xs := by
  have key : ∀ {as bs : List D}, as.Perm bs → ∀ {xs : List Str}, bs = xs.map PyData.str → ∃ ys : List Str, as = ys.map PyData.str ∧ ys.Perm xs := by
    intro as bs hp
    induction hp with
    | nil => intro xs e; exact ⟨xs, e, List.Perm.refl _⟩
    | cons a p ih =>
      intro xs e
      cases xs with
      | nil => cases e
      | cons x xs =>
        rw [List.map_cons] at e
        injection e with e1 e2
        obtain ⟨ys, e3, p3⟩ := ih e2
        exact ⟨x :: ys, by rw [e1, e3, List.map_cons], p3.cons x⟩
    | swap a b l =>
      intro xs e
      match xs, e with
      | x :: y :: xs, e =>
        rw [List.map_cons, List.map_cons] at e
        injection e with e1 e2
        injection e2 with e2 e3
        exact ⟨y :: x :: xs, by rw [List.map_cons, List.map_cons, e1, e2, e3], List.Perm.swap x y xs⟩
    | trans p1 p2 ih1 ih2 =>
      intro xs e
      obtain ⟨ys, e1, q1⟩ := ih2 e
      obtain ⟨zs, e2, q2⟩ := ih1 e1
      exact ⟨zs, e2, q2.trans q1⟩
  exact key h rfl
end PL
namespace JS
open PySem PL
theorem wp_shufS {n : Nat} {gs : GS} {xs : List Str} (G : Good n gs) (hn : n + xs.length < lim) (hm : xs.length ≤ 10000) :
    wp (M__law_shuffled [.obj 0, .val (tS xs)]) gs fun r g => ∃ ys : List Str, r = .own (.list (ys.map PyData.str)) ∧ ys.Perm xs ∧ Good (n + xs.length) g := by
  have hl : (xs.map PyData.str).length = xs.length := List.length_map _
  generalize hds : xs.map PyData.str = ds0 at hl
  rw [← hl] at hn hm
  have hd : (PyData.tuple ds0 = .list ds0) ∨ (PyData.tuple ds0 = .tuple ds0) := .inr rfl
  have h3 := @wp_shuffled n gs (.tuple ds0) ds0 hd G hn hm
  have e : tS xs = .tuple ds0 := congrArg PyData.tuple hds
  rw [e]
  refine wp_mono h3 fun r g ⟨ds, hr, hp, G3⟩ => ?_
  rw [← hds] at hp
  obtain ⟨ys, rfl, hp2⟩ := perm_strs hp
  exact ⟨ys, hr, hp2, by rw [← hl]; exact G3⟩
theorem wp_some {n : Nat} {gs : GS} {xs : List Str} {a b : Nat} (ok : OkS xs) (nd : xs.Nodup) (G : Good n gs) (hn : n + 1 + xs.length < lim) (hm : xs.length ≤ 10000) (hab : a ≤ b) (hb : b < 1000) :
    wp (M__law_some [.obj 0, .val (tS xs), .val (.int (a : Nat)), .val (.int (b : Nat))]) gs fun r g => ∃ ys k, r = .val (tS ys) ∧ (∀ y ∈ ys, y ∈ xs) ∧ ys.Pairwise SLt ∧ k ≤ b - a ∧ ys.length = min xs.length (a + k) ∧ Good (n + 1 + xs.length) g := by
  unfold M__law_some g__law_some
  have e1 : (b : Int) - (a : Int) + 1 = ((b - a + 1 : Nat) : Int) := by omega
  simp [e1]
  have hba : b - a + 1 < lim := lim_of (by omega)
  have hn1 : n < lim := Nat.lt_of_le_of_lt (show n ≤ n + 1 + xs.length by omega) hn
  have hpos : 0 < b - a + 1 := by omega
  refine wp_mono (wp_next (many := b - a + 1) G hn1 hpos hba) fun r g ⟨k, hk, hr, G2⟩ => ?_
  subst hr
  simp
  refine wp_mono (wp_shufS G2 hn hm) fun r g3 ⟨ys, hr, hp, G3⟩ => ?_
  subst hr
  have e2 : (if (a : Int) + (k : Int) < (xs.length : Int) then (a : Int) + (k : Int) else (xs.length : Int)) = ((min xs.length (a + k) : Nat) : Int) := by
    split <;> omega
  rw [e2]
  simp only [frz_own, slO_own, wp_liftS, cutD_take]
  rw [← List.map_take]
  have ok2 : OkS (ys.take (min xs.length (a + k))) := fun y hy => ok y (hp.mem_iff.mp (List.mem_of_mem_take hy))
  have hyl : ys.length = xs.length := hp.length_eq
  rw [sortedR_strs (xs := ys.take (min xs.length (a + k))) (d := .list _) rfl rfl ok2 (by rw [List.length_take]; omega)]
  simp only [frz_own, wp_liftS, tupleR_list, asRet_val]
  have hperm := sortS_perm (ys.take (min xs.length (a + k)))
  refine ⟨_, rfl, fun y hy => hp.mem_iff.mp (List.mem_of_mem_take (hperm.mem_iff.mp hy)), sortS_asc ((List.take_sublist _ _).nodup ((hp.nodup_iff).mpr nd)), k, by omega, ?_, ?_⟩
  · rw [hperm.length_eq, List.length_take]; omega
  · exact G3
end JS
set_option Elab.async false
set_option linter.all false
set_option maxRecDepth 100000
set_option maxHeartbeats 4000000
/-! Q10: parts that cover. -/
namespace PL
open PySem
/-- a permutation of rows of texts as data is one of rows of texts -/
theorem perm_rows {ps : List (List Str)} {ds : List D} (h : ds.Perm (ps.map tS)) : ∃ qs : List (List Str), ds = qs.map tS ∧ qs.Perm ps := by
  have key : ∀ {as bs : List D}, as.Perm bs → ∀ {xs : List (List Str)}, bs = xs.map tS → ∃ ys : List (List Str), as = ys.map tS ∧ ys.Perm xs := by
    intro as bs hp
    induction hp with
    | nil => intro xs e; cases xs with
      | nil => exact ⟨[], rfl, List.Perm.refl _⟩
      | cons x xs => cases e
    | cons a p ih =>
      intro xs e
      cases xs with
      | nil => cases e
      | cons x xs =>
        rw [List.map_cons] at e
        injection e with e1 e2
        obtain ⟨ys, e3, p3⟩ := ih e2
        exact ⟨x :: ys, by rw [e1, e3, List.map_cons], p3.cons x⟩
    | swap a b l =>
      intro xs e
      match xs, e with
      | x :: y :: xs, e =>
        rw [List.map_cons, List.map_cons] at e
        injection e with e1 e2
        injection e2 with e2 e3
        exact ⟨y :: x :: xs, by rw [List.map_cons, List.map_cons, e1, e2, e3], List.Perm.swap x y xs⟩
    | trans p1 p2 ih1 ih2 =>
      intro xs e
      obtain ⟨ys, e1, q1⟩ := ih2 e
      obtain ⟨zs, e2, q2⟩ := ih1 e1
      exact ⟨zs, e2, q2.trans q1⟩
  exact key h rfl
theorem Cover.of_perm {cols : List Str} {ps qs : List (List Str)} (h : Cover cols ps) (p : qs.Perm ps) : Cover cols qs where
  ne := by rw [p.length_eq]; exact h.ne
  le := by rw [p.length_eq]; exact h.le
  part := fun q hq => h.part q (p.mem_iff.mp hq)
  full := fun q hq => h.full q (p.mem_iff.mp hq)
  all := fun x hx => by
    obtain ⟨q, hq, hx⟩ := h.all x hx
    exact ⟨q, p.mem_iff.mpr hq, hx⟩
/-- what is lacking -/
def lackS (cols : List Str) (ps : List (List Str)) : List Str := cols.filter fun c => ps.all fun p => !decide (c ∈ p)
def addLack (cols : List Str) (ps : List (List Str)) : List (List Str) := ps ++ (if lackS cols ps = [] then [] else [lackS cols ps])
theorem cover_add {cols : List Str} {ps : List (List Str)} (hc : Cols cols) (hn : 1 ≤ ps.length) (hl : ps.length ≤ 23) (hp : ∀ p ∈ ps, SomeOf cols p) (hf : ∀ p ∈ ps, p ≠ []) : Cover cols (addLack cols ps) := by
  unfold addLack
  have hs : SomeOf cols (lackS cols ps) := ⟨fun x hx => (List.mem_filter.mp hx).1, hc.asc.sublist List.filter_sublist⟩
  split
  next e =>
    rw [List.append_nil]
    refine ⟨hn, by omega, hp, hf, fun x hx => ?_⟩
    by_cases h : ∃ p ∈ ps, x ∈ p
    · exact h
    · have : x ∈ lackS cols ps := List.mem_filter.mpr ⟨hx, List.all_eq_true.mpr fun p hp => by
        by_cases hm : x ∈ p
        · exact absurd ⟨p, hp, hm⟩ h
        · simp [hm]⟩
      rw [e] at this
      cases this
  next e =>
    refine ⟨by rw [List.length_append]; omega, by rw [List.length_append, List.length_singleton]; omega, fun p h => ?_, fun p h => ?_, fun x hx => ?_⟩
    · rcases List.mem_append.mp h with h | h
      · exact hp p h
      · rw [List.mem_singleton.mp h]; exact hs
    · rcases List.mem_append.mp h with h | h
      · exact hf p h
      · rw [List.mem_singleton.mp h]; exact e
    · by_cases h : ∃ p ∈ ps, x ∈ p
      · obtain ⟨p, h1, h2⟩ := h
        exact ⟨p, List.mem_append_left _ h1, h2⟩
      · refine ⟨_, List.mem_append_right _ (List.mem_singleton.mpr rfl), List.mem_filter.mpr ⟨hx, List.all_eq_true.mpr fun p hp => ?_⟩⟩
        by_cases hm : x ∈ p
        · exact absurd ⟨p, hp, hm⟩ h
        · simp [hm]
end PL
set_option Elab.async false
set_option linter.all false
set_option maxRecDepth 100000
set_option maxHeartbeats 4000000
/-! Q11: the covering drawn. -/
namespace PL
open PySem
theorem lay_rows : ∀ {ps : List (List Str)}, (∀ p ∈ ps, OkS p) → PyData.canLayAll0 (ps.map tS) = true ∧ PyData.depthAll (ps.map tS) ≤ 1
  | [], _ => ⟨rfl, Nat.zero_le _⟩
  | p :: ps, h => by
    obtain ⟨h1, h2⟩ := lay_rows (ps := ps) fun y hy => h y (List.mem_cons_of_mem _ hy)
    obtain ⟨h3, h4⟩ := lay_strs (h p (List.mem_cons_self ..))
    constructor
    · show (PyData.canLayAll0 (p.map PyData.str) && PyData.canLayAll0 (ps.map tS)) = true
      rw [h3, h1]; rfl
    · show max (PyData.depthAll (p.map PyData.str) + 1) (PyData.depthAll (ps.map tS)) ≤ 1
      rw [h4]; omega
theorem shaped_rows {ps : List (List Str)} (h : ∀ p ∈ ps, OkS p) : SeqAt.shaped (.list (ps.map tS)) = true := by
  obtain ⟨h1, h2⟩ := lay_rows h
  show (PyData.canLayAll0 (ps.map tS) && decide (PyData.depthAll (ps.map tS) + 1 ≤ 64)) = true
  rw [h1, decide_eq_true (by omega)]; rfl
theorem eqR_nil {ps : List (List Str)} (h : ∀ p ∈ ps, OkS p) {r : RV} (hr : rd r = some (.list (ps.map tS))) : eqR r (.val (.list [])) = some (.val (.bool (decide (ps = [])))) := by
  cases hps : ps with
  | nil => subst hps; cases r <;> cases hr <;> rfl
  | cons p qs =>
    rw [← hps]
    have hs := shaped_rows h
    have e : eqD (.list (ps.map tS)) (.list []) = some false := by
      unfold eqD
      rw [if_pos ⟨hs, rfl⟩, hps]; rfl
    have hne : decide (ps = []) = false := by rw [hps]; rfl
    rw [hne]
    cases r <;> simp only [rd] at hr <;> cases hr <;> (show (eqD _ _).map _ = _; rw [e]; rfl)
theorem plain_strs : ∀ xs : List Str, plainAll (xs.map PyData.str) = true
  | [] => rfl
  | x :: xs => by
    show (true && plainAll (xs.map PyData.str)) = true
    rw [plain_strs xs]; rfl
theorem clean_rows (ps : List (List Str)) : cleanR (.own (.list (ps.map tS))) = true := by
  show plainAll (ps.map tS) = true
  induction ps with
  | nil => rfl
  | cons p ps ih =>
    show (plainAll (p.map PyData.str) && plainAll (ps.map tS)) = true
    rw [plain_strs, ih]; rfl
theorem neR_nil {xs : List Str} (h : OkS xs) : neR (.val (tS xs)) (.val (.tuple [])) = some (.val (.bool (!decide (xs = [])))) := by
  cases hxs : xs with
  | nil => rfl
  | cons x ys =>
    rw [← hxs]
    have hs := shaped_tS h
    have e : neD (tS xs) (.tuple []) = some true := by
      unfold neD
      rw [if_pos ⟨hs, rfl⟩, hxs]; rfl
    have hne : decide (xs = []) = false := by rw [hxs]; rfl
    rw [hne]
    show (neD _ _).map _ = _
    rw [e]; rfl
end PL
namespace JS
open PySem PL
theorem lack_eq {cols : List Str} {ps : List (List Str)} (hc : Cols cols) (hl : ps.length ≤ 23) (hp : ∀ p ∈ ps, SomeOf cols p) :
   xLc (iSeq (xVar 1)) [4] (gNm 4) (tBin eqR (xLc (iSeq (xVar 2)) [5] (gNm 5) (tBin inR (xVar 4) (xVar 5)) (xVar 5)) (xLst aNil)) (xVar 4)
      [Slot.obj 0, Slot.val (tS cols), Slot.val (PyData.list (List.map tS ps)), Slot.un, Slot.un, Slot.un] = retM (.own (.list ((lackS cols ps).map PyData.str))) := by
  have hcl := hc.le
  rw [xLc_def (ds := cols.map PyData.str) (b := false) (by simp) (by rw [List.length_map]; exact small_le (by omega))]
  rw [compL_filter (p := fun c => ps.all fun p => !decide (c ∈ p)) (F := PyData.str) fun c hx => ?_]
  · simp [lackS]
  · have e1 : xLc (iSeq (xVar 2)) [5] (gNm 5) (tBin inR (xVar 4) (xVar 5)) (xVar 5) [Slot.obj 0, Slot.val (tS cols), Slot.val (PyData.list (List.map tS ps)), Slot.un, Slot.val (.str c), Slot.un] = retM (.own (.list ((ps.filter fun p => decide (c ∈ p)).map tS))) := by
      rw [xLc_def (ds := ps.map tS) (b := false) (by simp) (by rw [List.length_map]; exact small_le (by omega))]
      rw [compL_filter (p := fun p => decide (c ∈ p)) (F := tS) fun p hx2 => ?_]
      · simp
      · have e := inR_tS (r := .val (tS p)) (x := c) (xs := p) rfl (hc.okS c hx) ((hp p hx2).okS hc)
        simp [turnL, wipeS, e]
        split <;> rfl
    have e2 := eqR_nil (ps := ps.filter fun p => decide (c ∈ p)) (fun p h => (hp p (List.mem_filter.mp h).1).okS hc) (r := .val (.list ((ps.filter fun p => decide (c ∈ p)).map tS))) rfl
    have e3 : decide (ps.filter (fun p => decide (c ∈ p)) = []) = ps.all fun p => !decide (c ∈ p) := by
      rw [Bool.eq_iff_iff]; simp [List.filter_eq_nil_iff]
    rw [e3] at e2
    generalize (ps.all fun p => !decide (c ∈ p)) = b at e2 ⊢
    cases b <;> simp [turnL, wipeS, e1, e2]
theorem addR_lists {A B : List D} (h : A.length + B.length ≤ sizeLine) : addR (.val (.list A)) (.val (.list B)) = some (.own (.list (A ++ B))) := by
  show (if A.length + B.length ≤ sizeLine then _ else _) = _
  rw [if_pos h]
theorem wp_cov_tail {n : Nat} {gs : GS} {cols : List Str} {qs : List (List Str)} (C : Cover cols qs) (G : Good n gs) (hn : n + 24 < lim) :
    wp (callM 2 M__law_shuffled [RV.obj 0, .val (.list (qs.map tS))] []) gs fun a g => wp (liftO (tupleR [frzV a])) g fun a g => ∃ qs, asRet a = .val (tT qs) ∧ Cover cols qs ∧ Good (n + 24) g := by
  have hd : (PyData.list (qs.map tS) = .list (qs.map tS)) ∨ (PyData.list (qs.map tS) = .tuple (qs.map tS)) := .inl rfl
  have hCl := C.le
  have hA : n + (qs.map tS).length < lim := by rw [List.length_map]; exact Nat.lt_of_le_of_lt (by omega) hn
  have hB : (qs.map tS).length ≤ 10000 := by rw [List.length_map]; omega
  have h3 := wp_shuffled hd G hA hB
  refine wp_callB rfl ?_
  refine wp_mono h3 fun r g3 ⟨ds, hr, hp, G3⟩ => ?_
  subst hr
  obtain ⟨rs, hds, hp2⟩ := perm_rows hp
  subst hds
  refine ⟨⟨clean_rows rs, by rw [G3.len, G.len]⟩, ?_⟩
  simp only [frz_own, tupleR_list, wp_liftS, asRet_val]
  refine ⟨rs, rfl, C.of_perm hp2, G3.mono (by rw [List.length_map]; omega)⟩
theorem wp_covering {n : Nat} {gs : GS} {cols : List Str} {ps : List (List Str)} (hc : Cols cols) (G : Good n gs) (hn : n + 24 < lim) (h1 : 1 ≤ ps.length) (hl : ps.length ≤ 23) (hp : ∀ p ∈ ps, SomeOf cols p) (hf : ∀ p ∈ ps, p ≠ []) :
    wp (M__law_covering [.obj 0, .val (tS cols), .val (.list (ps.map tS))]) gs fun r g => ∃ qs, r = .val (tT qs) ∧ Cover cols qs ∧ Good (n + 24) g := by
  have C := cover_add hc h1 hl hp hf
  unfold M__law_covering g__law_covering
  simp [lack_eq hc hl hp]
  have okL : OkS (lackS cols ps) := fun x hx => hc.okS x (List.mem_filter.mp hx).1
  have hz : 1 ≤ sizeLine := small_le (by omega)
  rw [neR_nil okL]
  unfold addLack at C
  by_cases e : lackS cols ps = []
  · simp [e] at C ⊢
    rw [addR_lists (by rw [List.length_map]; exact small_le (by simp; omega))]
    simp only [wp_liftS, frz_own, List.append_nil]
    refine wp_mono (wp_cov_tail C G hn) fun r g h => h
  · simp [e, hz] at C ⊢
    rw [addR_lists (by rw [List.length_map]; exact small_le (by simp; omega))]
    simp
    have h := wp_cov_tail C G hn
    rw [List.map_append] at h
    exact h
end JS
set_option Elab.async false
set_option linter.all false
set_option maxRecDepth 100000
set_option maxHeartbeats 4000000
/-! Q13: rows drawn, some of the columns each. -/
namespace JS
open PySem PL
theorem wp_somes {n k : Nat} {gs : GS} {cols : List Str} {ρ : Sl} {te : Sl → M RV} (hc : Cols cols) (G : Good n gs) (hk : k ≤ 24) (hn : n + 24 * 26 < lim) {g : D → Sl → Option Sl}
    (ht : ∀ i : Nat, ∃ ρ1, g (.int (i : Nat)) ρ = some ρ1 ∧ te ρ1 = M__law_some [.obj 0, .val (tS cols), .val (.int 1), .val (.int 3)]) :
    wp (compL ρ g tYesM te (rngD 0 k)) gs fun ys g2 => ∃ ps : List (List Str), ys = ps.map tS ∧ ps.length = k ∧ (∀ p ∈ ps, SomeOf cols p) ∧ (∀ p ∈ ps, p ≠ []) ∧ Good (n + 25 * k) g2 := by
  have hcl := hc.le
  have hcn := hc.ne
  rw [rngD_map]
  refine wp_mono (wp_compL (all := List.range k) (pre := []) (ys := []) (fun pre ys g => ∃ ps : List (List Str), ys = ps.map tS ∧ ps.length = pre.length ∧ (∀ p ∈ ps, SomeOf cols p) ∧ (∀ p ∈ ps, p ≠ []) ∧ Good (n + 25 * pre.length) g) (fun pre x post ys g3 ea hj => ?_) rfl ⟨[], rfl, rfl, (fun p h => nomatch h), (fun p h => nomatch h), G⟩) fun ys g3 hj => ?_
  · obtain ⟨ps, rfl, hl, h1, h2, Gp⟩ := hj
    have hlt : pre.length < k := by
      have := congrArg List.length ea
      rw [List.length_range, List.length_append, List.length_cons] at this
      omega
    have hn1 : n + 25 * pre.length + 1 + cols.length < lim := Nat.lt_of_le_of_lt (by omega) hn
    have h3 := wp_some (a := 1) (b := 3) hc.okS (asc_nodup hc.asc) Gp hn1 (by omega) (by omega) (by omega)
    obtain ⟨ρ1, e1, e2⟩ := ht x
    simp [turnL, e1, e2]
    refine wp_mono h3 fun r g4 ⟨ys, j, hr, hs, ha, hj, hyl, G4⟩ => ?_
    subst hr
    simp
    refine ⟨ps ++ [ys], by simp, by simp [hl], fun p hp => ?_, fun p hp => ?_, G4.mono (by omega)⟩
    · rcases List.mem_append.mp hp with hp | hp
      · exact h1 p hp
      · rw [List.mem_singleton.mp hp]; exact ⟨hs, ha⟩
    · rcases List.mem_append.mp hp with hp | hp
      · exact h2 p hp
      · rw [List.mem_singleton.mp hp]
        intro e
        rw [e] at hyl
        simp at hyl
        omega
  · obtain ⟨ps, e, hl, h1, h2, Gp⟩ := hj
    rw [List.length_range] at hl Gp
    exact ⟨ps, e, hl, h1, h2, Gp⟩
end JS
set_option Elab.async false
set_option linter.all false
set_option maxRecDepth 100000
set_option maxHeartbeats 4000000
/-! Q14: rows in a round. -/
namespace PL
open PySem
/-- the clique's rows: each element left out in turn, the rest sorted -/
def cliqueS (q : List Str) : List (List Str) := q.map fun o => sortS (q.filter fun x => !decide (x = o))
theorem clique_ok {cols q : List Str} (hq : ∀ x ∈ q, x ∈ cols) (nd : q.Nodup) (h2 : 2 ≤ q.length) : (∀ p ∈ cliqueS q, SomeOf cols p) ∧ (∀ p ∈ cliqueS q, p ≠ []) := by
  constructor
  · intro p hp
    obtain ⟨o, ho, rfl⟩ := List.mem_map.mp hp
    have hperm := sortS_perm (q.filter fun x => !decide (x = o))
    exact ⟨fun x hx => hq x (List.mem_filter.mp (hperm.mem_iff.mp hx)).1, sortS_asc (nd.sublist List.filter_sublist)⟩
  · intro p hp e
    obtain ⟨o, ho, rfl⟩ := List.mem_map.mp hp
    have hperm := sortS_perm (q.filter fun x => !decide (x = o))
    rw [e] at hperm
    have hnil := hperm.symm.eq_nil
    have hall : ∀ x ∈ q, x ∈ [o] := fun x hx => by
      by_cases hxo : x = o
      · rw [hxo]; exact List.mem_singleton.mpr rfl
      · have : x ∈ q.filter fun x => !decide (x = o) := List.mem_filter.mpr ⟨hx, by simp [hxo]⟩
        rw [hnil] at this
        cases this
    have := nodup_len nd hall
    simp at this
    omega
end PL
set_option Elab.async false
set_option linter.all false
set_option maxRecDepth 100000
set_option maxHeartbeats 4000000
/-! Q15: rows in a round, the code of the clique. -/
namespace PL
open PySem
theorem pair_ok {cols : List Str} {x y : Str} (hx : x ∈ cols) (hy : y ∈ cols) (h : x ≠ y) : SomeOf cols (sortS [x, y]) ∧ sortS [x, y] ≠ [] := by
  have hperm := sortS_perm [x, y]
  have nd : [x, y].Nodup := List.nodup_cons.mpr ⟨fun e => h (List.mem_singleton.mp e), List.nodup_cons.mpr ⟨(fun e => nomatch e), List.nodup_nil⟩⟩
  refine ⟨⟨fun z hz => ?_, sortS_asc nd⟩, fun e => ?_⟩
  · have := hperm.mem_iff.mp hz
    rcases List.mem_cons.mp this with e | e
    · rw [e]; exact hx
    · rw [List.mem_singleton.mp e]; exact hy
  · rw [e] at hperm
    exact nomatch hperm.symm.eq_nil
end PL
namespace JS
open PySem PL
theorem clique_eq {q : List Str} (ok : OkS q) (hl : q.length ≤ 24) {r0 r1 r2 r4 r6 : Slot} :
    xLc (iSeq (xVar 3)) [5] (gNm 5) tYesM (xCall tupleR (aCons (xCall sortedR (aCons (xLc (iSeq (xVar 3)) [7] (gNm 7) (tBin neR (xVar 7) (xVar 5)) (xVar 7)) aNil)) aNil)) [r0, r1, r2, .val (.list (q.map PyData.str)), r4, .un, r6, .un] = retM (.own (.list ((cliqueS q).map tS))) := by
  rw [xLc_def (ds := q.map PyData.str) (b := false) (by simp) (by rw [List.length_map]; exact small_le (by omega))]
  rw [compL_map (F := fun o => tS (sortS (q.filter fun x => !decide (x = o)))) fun o ho => ?_]
  · simp [cliqueS]
    rfl
  · have e1 : xLc (iSeq (xVar 3)) [7] (gNm 7) (tBin neR (xVar 7) (xVar 5)) (xVar 7) [r0, r1, r2, .val (.list (q.map PyData.str)), r4, .val (.str o), r6, .un] = retM (.own (.list ((q.filter fun x => !decide (x = o)).map PyData.str))) := by
      rw [xLc_def (ds := q.map PyData.str) (b := false) (by simp) (by rw [List.length_map]; exact small_le (by omega))]
      rw [compL_filter (p := fun x => !decide (x = o)) (F := PyData.str) fun x hx => ?_]
      · simp
      · have e : neR (.val (.str x)) (.val (.str o)) = some (.val (.bool (!decide (x = o)))) := by
          show (neD (.str x) (.str o)).map _ = _
          have h1 : SeqAt.shaped (.str x) = true := shaped_str (ok x hx)
          have h2 : SeqAt.shaped (.str o) = true := shaped_str (ok o ho)
          unfold neD
          rw [if_pos ⟨h1, h2⟩]
          rfl
        generalize (!decide (x = o)) = b at e ⊢
        cases b <;> simp [turnL, wipeS, e]
    have ok2 : OkS (q.filter fun x => !decide (x = o)) := fun x hx => ok x (List.mem_filter.mp hx).1
    have e2 := sortedR_strs (xs := q.filter fun x => !decide (x = o)) (r := .val (.list ((q.filter fun x => !decide (x = o)).map PyData.str))) (d := .list ((q.filter fun x => !decide (x = o)).map PyData.str)) rfl rfl ok2 (Nat.le_trans (List.length_filter_le _ _) (by omega))
    simp [turnL, wipeS, e1, e2]
end JS
set_option Elab.async false
set_option linter.all false
set_option maxRecDepth 100000
set_option maxHeartbeats 4000000
/-! Q16: the ring. -/
namespace PL
open PySem
theorem atI_last {α : Type} {xs : List α} (h : 0 < xs.length) : L2.atI xs (-1) = some (xs[xs.length - 1]'(by omega)) := by
  have e : L2.ixN xs.length (-1) = some (xs.length - 1) := by
    unfold L2.ixN
    rw [if_neg (by omega), if_pos (by omega)]
    congr 1
    omega
  unfold L2.atI
  rw [e]
  show xs[xs.length - 1]? = _
  rw [List.getElem?_eq_getElem (by omega)]
end PL
set_option Elab.async false
set_option linter.all false
set_option maxRecDepth 100000
set_option maxHeartbeats 4000000
/-! Q17: the ring's rows. -/
namespace PL
open PySem
def ringAt (q : List Str) (i : Nat) : List Str := match q[if i = 0 then q.length - 1 else i - 1]?, q[i]? with
  | some a, some b => sortS [a, b]
  | _, _ => []
def ringS (q : List Str) : List (List Str) := (List.range q.length).map (ringAt q)
theorem ringAt_eq {q : List Str} {i : Nat} (h : i < q.length) (h2 : (if i = 0 then q.length - 1 else i - 1) < q.length) : ringAt q i = sortS [q[if i = 0 then q.length - 1 else i - 1], q[i]] := by
  unfold ringAt
  rw [List.getElem?_eq_getElem h, List.getElem?_eq_getElem h2]
theorem ring_ok {cols q : List Str} (hq : ∀ x ∈ q, x ∈ cols) (nd : q.Nodup) (h2 : 2 ≤ q.length) : (∀ p ∈ ringS q, SomeOf cols p ∧ p ≠ []) := by
  intro p hp
  obtain ⟨i, hi, rfl⟩ := List.mem_map.mp hp
  have hi : i < q.length := List.mem_range.mp hi
  have hj : (if i = 0 then q.length - 1 else i - 1) < q.length := by split <;> omega
  rw [ringAt_eq hi hj]
  refine pair_ok (hq _ (List.getElem_mem _)) (hq _ (List.getElem_mem _)) fun e => ?_
  have key : ∀ {a b : Nat} (ha : a < q.length) (hb : b < q.length), a < b → q[a] ≠ q[b] := fun ha hb hab => List.pairwise_iff_getElem.mp nd _ _ ha hb hab
  by_cases h0 : i = 0
  · simp only [h0, if_true] at e
    exact key (by omega) (by omega) (by omega) e.symm
  · simp only [h0, if_false] at e
    exact key (by omega) (by omega) (by omega) e
end PL
set_option Elab.async false
set_option linter.all false
set_option maxRecDepth 100000
set_option maxHeartbeats 4000000
/-! Q18: the code of the ring. -/
namespace JS
open PySem PL
theorem ring_eq {q : List Str} (ok : OkS q) (hl : q.length ≤ 24) {r0 r1 r2 r3 r5 r7 : Slot} :
    xLc (iRng rng1 (aCons (xCall lenR (aCons (xVar 4) aNil)) aNil)) [6] (gNm 6) tYesM (xCall tupleR (aCons (xCall sortedR (aCons (xLst (aCons (xIx (xVar 4) (xBin subR (xVar 6) (xC (.int 1)))) (aCons (xIx (xVar 4) (xVar 6)) aNil))) aNil)) aNil)) [r0, r1, r2, r3, .val (.list (q.map PyData.str)), r5, .un, r7] = retM (.own (.list ((ringS q).map tS))) := by
  have hs : iRng rng1 (aCons (xCall lenR (aCons (xVar 4) aNil)) aNil) [r0, r1, r2, r3, .val (.list (q.map PyData.str)), r5, .un, r7] = retM (rngD 0 q.length, false) := iRng_ret (rs := [.val (.int (q.length : Nat))]) (by simp) (rng1_nat (by omega))
  rw [xLc_def (ds := rngD 0 q.length) (b := false) hs (by rw [rngD_map, List.length_map, List.length_range]; exact small_le (by omega)), rngD_map]
  rw [compL_map (F := fun i => tS (ringAt q i)) fun i hi => ?_]
  · simp [ringS]
    rfl
  · have hi : i < q.length := List.mem_range.mp hi
    have hj : (if i = 0 then q.length - 1 else i - 1) < q.length := by split <;> omega
    rw [ringAt_eq hi hj]
    have e2 : L2.atI (q.map PyData.str) (i : Int) = some (.str q[i]) := by rw [atI_nat (by simpa using hi)]; simp
    have e1 : L2.atI (q.map PyData.str) ((i : Int) - 1) = some (.str (q[if i = 0 then q.length - 1 else i - 1]'hj)) := by
      by_cases h0 : i = 0
      · subst h0
        rw [show ((0 : Nat) : Int) - 1 = -1 by rfl, atI_last (by simpa using hi)]
        simp
      · have : ((i : Int) - 1) = ((i - 1 : Nat) : Int) := by omega
        rw [this, atI_nat (by simp; omega)]
        simp [h0]
    generalize hx : q[if i = 0 then q.length - 1 else i - 1]'hj = x at e1 ⊢
    have okp : OkS [x, q[i]] := fun z hz => by
      rcases List.mem_cons.mp hz with e | e
      · rw [e, ← hx]; exact ok _ (List.getElem_mem _)
      · rw [List.mem_singleton.mp e]; exact ok _ (List.getElem_mem _)
    have e3 := sortedR_strs (xs := [x, q[i]]) (r := .val (.list [.str x, .str q[i]])) (d := .list [.str x, .str q[i]]) rfl rfl okp (by simp)
    have hz : 2 ≤ sizeLine := small_le (by omega)
    simp [turnL, wipeS, ixM_list, e1, e2, hz, e3]
end JS
set_option Elab.async false
set_option linter.all false
set_option maxRecDepth 100000
set_option maxHeartbeats 4000000
/-! Q19: rows in a round. -/
namespace JS
open PySem PL
theorem wp_round {n : Nat} {gs : GS} {cols : List Str} (hc : Cols cols) (h3 : 3 ≤ cols.length) (G : Good n gs) (hn : n + 27 < lim) :
    wp (M__law_round [.obj 0, .val (tS cols)]) gs fun r g => ∃ ps : List (List Str), r = .own (.list (ps.map tS)) ∧ 1 ≤ ps.length ∧ ps.length ≤ 8 ∧ (∀ p ∈ ps, SomeOf cols p) ∧ (∀ p ∈ ps, p ≠ []) ∧ Good (n + 27) g := by
  have hcl := hc.le
  unfold M__law_round g__law_round
  simp
  refine wp_mono (wp_shufS G (Nat.lt_of_le_of_lt (by omega) hn) (by omega)) fun r g ⟨ys, hr, hp, G1⟩ => ?_
  subst hr
  simp
  have hyl : ys.length = cols.length := hp.length_eq
  have hn1 : n + cols.length < lim := Nat.lt_of_le_of_lt (by omega) hn
  have hn2 : n + cols.length + 1 < lim := Nat.lt_of_le_of_lt (by omega) hn
  have L : ∀ (n2 : Nat) (g : GS), Good n2 g → n2 < lim → n2 + 1 ≤ n + 27 → wp (M__law_next [Slot.obj 0, Slot.val (PyData.int ((min 3 (ys.length - 2) : Nat) : Int))]) g fun r g2 => ∃ m : Nat, r = .val (.int (m : Nat)) ∧ m < min 3 (ys.length - 2) ∧ Good (n + 27) g2 := by
    intro n2 g G2 hn2 hle
    refine wp_mono (wp_next G2 hn2 (by omega) (lim_of (by omega))) fun r g3 ⟨d, hd, hr, G3⟩ => ⟨d, hr, hd, G3.mono hle⟩
  by_cases h4 : 3 < ys.length
  · have h4' : (3 : Int) < (ys.length : Int) := by omega
    simp [h4']
    have h2 := wp_next (many := 2) G1 hn1 (by omega) (lim_of (by omega))
    refine wp_mono h2 fun r g2 ⟨d, hd, hr, G2⟩ => ?_
    subst hr
    simp
    by_cases hd0 : d = 0
    · subst hd0
      simp
      have ea : (if (ys.length : Int) - 3 < 4 then (ys.length : Int) - 3 else 4) = ((min 4 (ys.length - 3) : Nat) : Int) := by split <;> omega
      rw [ea]
      refine wp_mono (wp_next G2 hn2 (by omega) (lim_of (by omega))) fun r g3 ⟨m, hm, hr, G3⟩ => ?_
      subst hr
      have e3 : (4 : Int) + (m : Int) = ((4 + m : Nat) : Int) := by omega
      simp
      rw [e3, slO_own, cutD_take]
      simp
      rw [← List.map_take]
      have hq : ∀ x ∈ ys.take (4 + m), x ∈ cols := fun x hx => hp.mem_iff.mp (List.mem_of_mem_take hx)
      have nd : (ys.take (4 + m)).Nodup := (List.take_sublist _ _).nodup (hp.nodup_iff.mpr (asc_nodup hc.asc))
      have hln : (ys.take (4 + m)).length = 4 + m := by rw [List.length_take]; omega
      rw [ring_eq (fun x hx => hc.okS x (hq x hx)) (by omega)]
      simp
      have C := ring_ok hq nd (by omega)
      have hcl2 : (ringS (ys.take (4 + m))).length = 4 + m := by unfold ringS; rw [List.length_map, List.length_range, hln]
      refine ⟨_, rfl, by omega, by omega, fun p h => (C p h).1, fun p h => (C p h).2, G3.mono (by omega)⟩
    · simp [hd0]
      have ea : (if (ys.length : Int) - 2 < 3 then (ys.length : Int) - 2 else 3) = ((min 3 (ys.length - 2) : Nat) : Int) := by split <;> omega
      rw [ea]
      refine wp_mono (L _ g2 G2 hn2 (by omega)) fun r g3 ⟨m, hr, hm, G3⟩ => ?_
      subst hr
      have e3 : (3 : Int) + (m : Int) = ((3 + m : Nat) : Int) := by omega
      simp
      rw [e3, slO_own, cutD_take]
      simp
      rw [← List.map_take]
      have hq : ∀ x ∈ ys.take (3 + m), x ∈ cols := fun x hx => hp.mem_iff.mp (List.mem_of_mem_take hx)
      have nd : (ys.take (3 + m)).Nodup := (List.take_sublist _ _).nodup (hp.nodup_iff.mpr (asc_nodup hc.asc))
      have hln : (ys.take (3 + m)).length = 3 + m := by rw [List.length_take]; omega
      rw [clique_eq (fun x hx => hc.okS x (hq x hx)) (by omega)]
      simp
      have C := clique_ok hq nd (by omega)
      have hcl2 : (cliqueS (ys.take (3 + m))).length = 3 + m := by unfold cliqueS; rw [List.length_map, hln]
      refine ⟨_, rfl, by omega, by omega, C.1, C.2, G3⟩
  · have h4' : ¬ (3 : Int) < (ys.length : Int) := by omega
    simp [h4']
    have ea : (if (ys.length : Int) - 2 < 3 then (ys.length : Int) - 2 else 3) = ((min 3 (ys.length - 2) : Nat) : Int) := by split <;> omega
    rw [ea]
    refine wp_mono (L _ g G1 hn1 (by omega)) fun r g2 ⟨m, hr, hm, G2⟩ => ?_
    subst hr
    have e3 : (3 : Int) + (m : Int) = ((3 + m : Nat) : Int) := by omega
    simp
    rw [e3, slO_own, cutD_take]
    simp
    rw [← List.map_take]
    have hq : ∀ x ∈ ys.take (3 + m), x ∈ cols := fun x hx => hp.mem_iff.mp (List.mem_of_mem_take hx)
    have nd : (ys.take (3 + m)).Nodup := (List.take_sublist _ _).nodup (hp.nodup_iff.mpr (asc_nodup hc.asc))
    have hln : (ys.take (3 + m)).length = 3 + m := by rw [List.length_take]; omega
    rw [clique_eq (fun x hx => hc.okS x (hq x hx)) (by omega)]
    simp
    have C := clique_ok hq nd (by omega)
    have hcl2 : (cliqueS (ys.take (3 + m))).length = 3 + m := by unfold cliqueS; rw [List.length_map, hln]
    refine ⟨_, rfl, by omega, by omega, C.1, C.2, G2⟩
end JS
set_option Elab.async false
set_option linter.all false
set_option maxRecDepth 100000
set_option maxHeartbeats 4000000
/-! Q20: rows hung, the plain half. -/
namespace PL
open PySem
/-- rows so far, and the columns left -/
structure Hung (cols left : List Str) (ps : List (List Str)) : Prop where
  ne : 1 ≤ ps.length
  some : ∀ p ∈ ps, SomeOf cols p
  full : ∀ p ∈ ps, p ≠ []
  nd : left.Nodup
  sub : ∀ x ∈ left, x ∈ cols
  dis : ∀ x ∈ left, ∀ p ∈ ps, x ∉ p
  all : ∀ x ∈ cols, x ∈ left ∨ ∃ p ∈ ps, x ∈ p
theorem sortS_some {cols xs : List Str} (h : ∀ x ∈ xs, x ∈ cols) (nd : xs.Nodup) : SomeOf cols (sortS xs) :=
  ⟨fun x hx => h x ((sortS_perm xs).mem_iff.mp hx), sortS_asc nd⟩
theorem sortS_ne {xs : List Str} (h : xs ≠ []) : sortS xs ≠ [] := fun e => by
  have hp := sortS_perm xs
  rw [e] at hp
  exact h hp.symm.eq_nil
theorem hung_start {cols ys : List Str} {k : Nat} (hp : ys.Perm cols) (nd : cols.Nodup) (hk : 1 ≤ k) (hl : 1 ≤ ys.length) : Hung cols (ys.drop k) [sortS (ys.take k)] where
  ne := Nat.le_refl _
  some := fun p h => by
    rw [List.mem_singleton.mp h]
    exact sortS_some (fun x hx => hp.mem_iff.mp (List.mem_of_mem_take hx)) ((List.take_sublist _ _).nodup (hp.nodup_iff.mpr nd))
  full := fun p h => by
    rw [List.mem_singleton.mp h]
    refine sortS_ne fun e => ?_
    have := congrArg List.length e
    rw [List.length_take, List.length_nil] at this
    omega
  nd := (List.drop_sublist _ _).nodup (hp.nodup_iff.mpr nd)
  sub := fun x hx => hp.mem_iff.mp (List.mem_of_mem_drop hx)
  dis := fun x hx p h hxp => by
    rw [List.mem_singleton.mp h] at hxp
    have hx2 := (sortS_perm _).mem_iff.mp hxp
    have h1 : (ys.take k ++ ys.drop k).Nodup := by rw [List.take_append_drop]; exact hp.nodup_iff.mpr nd
    exact (List.nodup_append.mp h1).2.2 x hx2 x hx rfl
  all := fun x hx => by
    have h1 : x ∈ ys.take k ++ ys.drop k := by rw [List.take_append_drop]; exact hp.mem_iff.mpr hx
    rcases List.mem_append.mp h1 with h | h
    · exact .inr ⟨_, List.mem_singleton.mpr rfl, (sortS_perm _).mem_iff.mpr h⟩
    · exact .inl h
end PL
set_option Elab.async false
set_option linter.all false
set_option maxRecDepth 100000
set_option maxHeartbeats 4000000
/-! Q21: rows hung, a turn and the end. -/
namespace PL
open PySem
theorem Hung.drop_nil {cols left : List Str} {ps : List (List Str)} {k : Nat} (H : Hung cols left ps) (e : left.take k = []) : Hung cols (left.drop k) ps := by
  have : left.drop k = left := by
    have h := List.take_append_drop k left
    rw [e, List.nil_append] at h
    exact h
  rw [this]; exact H
theorem Hung.step {cols left host zs : List Str} {ps : List (List Str)} {k : Nat} (H : Hung cols left ps) (hh : host ∈ ps) (hz : ∀ z ∈ zs, z ∈ host) (ha : zs.Pairwise SLt) (hne : zs ++ left.take k ≠ []) : Hung cols (left.drop k) (ps ++ [sortS (zs ++ left.take k)]) := by
  have hnd : (left.take k ++ left.drop k).Nodup := by rw [List.take_append_drop]; exact H.nd
  have hndp : (zs ++ left.take k).Nodup := List.nodup_append.mpr ⟨asc_nodup ha, (List.take_sublist _ _).nodup H.nd, fun x hx y hy e => H.dis y (List.mem_of_mem_take hy) host hh (e ▸ hz x hx)⟩
  have hin : ∀ x ∈ zs ++ left.take k, x ∈ cols := fun x hx => by
    rcases List.mem_append.mp hx with h | h
    · exact (H.some host hh).sub x (hz x h)
    · exact H.sub x (List.mem_of_mem_take h)
  refine ⟨by rw [List.length_append]; have := H.ne; omega, fun p hp => ?_, fun p hp => ?_, (List.drop_sublist _ _).nodup H.nd, fun x hx => H.sub x (List.mem_of_mem_drop hx), fun x hx p hp hxp => ?_, fun x hx => ?_⟩
  · rcases List.mem_append.mp hp with h | h
    · exact H.some p h
    · rw [List.mem_singleton.mp h]; exact sortS_some hin hndp
  · rcases List.mem_append.mp hp with h | h
    · exact H.full p h
    · rw [List.mem_singleton.mp h]; exact sortS_ne hne
  · rcases List.mem_append.mp hp with h | h
    · exact H.dis x (List.mem_of_mem_drop hx) p h hxp
    · rw [List.mem_singleton.mp h] at hxp
      rcases List.mem_append.mp ((sortS_perm _).mem_iff.mp hxp) with h2 | h2
      · exact H.dis x (List.mem_of_mem_drop hx) host hh (hz x h2)
      · exact (List.nodup_append.mp hnd).2.2 x h2 x hx rfl
  · rcases H.all x hx with h | ⟨p, h1, h2⟩
    · rw [← List.take_append_drop k left] at h
      rcases List.mem_append.mp h with h | h
      · exact .inr ⟨_, List.mem_append_right _ (List.mem_singleton.mpr rfl), (sortS_perm _).mem_iff.mpr (List.mem_append_right _ h)⟩
      · exact .inl h
    · exact .inr ⟨p, List.mem_append_left _ h1, h2⟩
end PL
set_option Elab.async false
set_option linter.all false
set_option maxRecDepth 100000
set_option maxHeartbeats 4000000
/-! Q22: rows hung, the end. -/
namespace PL
open PySem
theorem Hung.finish {cols left p0 : List Str} {ps : List (List Str)} (H : Hung cols left (p0 :: ps)) (hl : ps.length ≤ 23) : Cover cols (sortS (p0 ++ left) :: ps) := by
  have hm : p0 ∈ p0 :: ps := List.mem_cons_self ..
  have nd : (p0 ++ left).Nodup := List.nodup_append.mpr ⟨asc_nodup (H.some p0 hm).asc, H.nd, fun x hx y hy e => H.dis y hy p0 hm (e ▸ hx)⟩
  have hin : ∀ x ∈ p0 ++ left, x ∈ cols := fun x hx => by
    rcases List.mem_append.mp hx with h | h
    · exact (H.some p0 hm).sub x h
    · exact H.sub x h
  refine ⟨by rw [List.length_cons]; omega, by rw [List.length_cons]; omega, fun p hp => ?_, fun p hp => ?_, fun x hx => ?_⟩
  · rcases List.mem_cons.mp hp with h | h
    · rw [h]; exact sortS_some hin nd
    · exact H.some p (List.mem_cons_of_mem _ h)
  · rcases List.mem_cons.mp hp with h | h
    · rw [h]; exact sortS_ne fun e => H.full p0 hm (List.append_eq_nil_iff.mp e).1
    · exact H.full p (List.mem_cons_of_mem _ h)
  · rcases H.all x hx with h | ⟨p, h1, h2⟩
    · exact ⟨_, List.mem_cons_self .., (sortS_perm _).mem_iff.mpr (List.mem_append_right _ h)⟩
    · rcases List.mem_cons.mp h1 with h | h
      · rw [h] at h2
        exact ⟨_, List.mem_cons_self .., (sortS_perm _).mem_iff.mpr (List.mem_append_left _ h2)⟩
      · exact ⟨p, List.mem_cons_of_mem _ h, h2⟩
end PL
set_option Elab.async false
set_option linter.all false
set_option maxRecDepth 100000
set_option maxHeartbeats 4000000
/-! R0: columns that hang together; pieces. -/
namespace PL
open PySem
/-- whether some part has both -/
def nearB (ps : List (List Str)) (x y : Str) : Bool := ps.any fun p => decide (x ∈ p) && decide (y ∈ p)
theorem nearB_iff {ps : List (List Str)} {x y : Str} : nearB ps x y = true ↔ ∃ p ∈ ps, x ∈ p ∧ y ∈ p := by
  unfold nearB
  rw [List.any_eq_true]
  constructor
  · rintro ⟨p, hp, h⟩
    rw [Bool.and_eq_true, decide_eq_true_eq, decide_eq_true_eq] at h
    exact ⟨p, hp, h⟩
  · rintro ⟨p, hp, h⟩
    exact ⟨p, hp, by rw [Bool.and_eq_true, decide_eq_true_eq, decide_eq_true_eq]; exact h⟩
theorem nearB_symm {ps : List (List Str)} {x y : Str} (h : nearB ps x y = true) : nearB ps y x = true := by
  rw [nearB_iff] at *
  obtain ⟨p, h1, h2, h3⟩ := h
  exact ⟨p, h1, h3, h2⟩
inductive Reach (ps : List (List Str)) (sm : List Str) (x : Str) : Str → Prop
  | refl : Reach ps sm x x
  | step {o c : Str} : Reach ps sm x o → c ∈ sm → nearB ps o c = true → Reach ps sm x c
section
variable {ps : List (List Str)} {sm l : List Str} {x y z c : Str}
theorem Reach.mem (hx : x ∈ sm) (h : Reach ps sm x c) : c ∈ sm := by
  cases h with
  | refl => exact hx
  | step _ h _ => exact h
theorem Reach.trans (h : Reach ps sm x y) (h2 : Reach ps sm y z) : Reach ps sm x z := by
  induction h2 with
  | refl => exact h
  | step _ hc hn ih => exact .step ih hc hn
theorem Reach.symm (hx : x ∈ sm) (h : Reach ps sm x y) : Reach ps sm y x := by
  induction h with
  | refl => exact .refl
  | step ho hc hn ih => exact Reach.trans (.step .refl (ho.mem hx) (nearB_symm hn)) ih
theorem reach_closed {S : Str → Prop} (hx : S x) (hcl : ∀ o c, S o → c ∈ sm → nearB ps o c = true → S c) (h : Reach ps sm x c) : S c := by
  induction h with
  | refl => exact hx
  | step _ hc hn ih => exact hcl _ _ ih hc hn
/-- the piece of a column -/
noncomputable def pc (ps : List (List Str)) (sm : List Str) (x : Str) : List Str := by
  classical exact sm.filter fun c => decide (Reach ps sm x c)
theorem mem_pc : c ∈ pc ps sm x ↔ c ∈ sm ∧ Reach ps sm x c := by
  classical
  unfold pc
  rw [List.mem_filter, decide_eq_true_eq]
theorem pc_asc (h : sm.Pairwise SLt) : (pc ps sm x).Pairwise SLt := by
  unfold pc
  exact h.sublist List.filter_sublist
/-- what is left behind a piece -/
noncomputable def offP (ps : List (List Str)) (sm : List Str) (x : Str) (l : List Str) : List Str := by
  classical exact l.filter fun c => !decide (Reach ps sm x c)
theorem mem_offP : c ∈ offP ps sm x l ↔ c ∈ l ∧ ¬ Reach ps sm x c := by
  classical
  unfold offP
  rw [List.mem_filter, Bool.not_eq_true', decide_eq_false_iff_not]
theorem offP_sub : (offP ps sm x l).Sublist l := by
  unfold offP
  exact List.filter_sublist
theorem offP_eq {q : Str → Bool} (h : ∀ c ∈ l, q c = true ↔ ¬ Reach ps sm x c) : l.filter q = offP ps sm x l := by
  classical
  unfold offP
  refine List.filter_congr fun c hc => ?_
  rw [Bool.eq_iff_iff, h c hc, Bool.not_eq_true', decide_eq_false_iff_not]
noncomputable def pcs (ps : List (List Str)) (sm : List Str) : List Str → List (List Str)
  | [] => []
  | x :: l => pc ps sm x :: pcs ps sm (offP ps sm x l)
termination_by l => l.length
decreasing_by exact Nat.lt_succ_of_le (offP_sub (l := l)).length_le
theorem pcs_nil : pcs ps sm [] = [] := by rw [pcs]
theorem pcs_cons : pcs ps sm (x :: l) = pc ps sm x :: pcs ps sm (offP ps sm x l) := by rw [pcs]
theorem asc_ext : ∀ {xs ys : List Str}, xs.Pairwise SLt → ys.Pairwise SLt → (∀ c, c ∈ xs ↔ c ∈ ys) → xs = ys
  | [], [], _, _, _ => rfl
  | [], y :: ys, _, _, h => nomatch (h y).mpr (List.mem_cons_self ..)
  | x :: xs, [], _, _, h => nomatch (h x).mp (List.mem_cons_self ..)
  | x :: xs, y :: ys, hx, hy, h => by
    have hx' := List.pairwise_cons.mp hx
    have hy' := List.pairwise_cons.mp hy
    have irr : ∀ a : Str, ¬ SLt a a := fun a => List.lt_irrefl _
    have e : x = y := by
      rcases List.mem_cons.mp ((h x).mp (List.mem_cons_self ..)) with e | h1
      · exact e
      rcases List.mem_cons.mp ((h y).mpr (List.mem_cons_self ..)) with e | h2
      · exact e.symm
      exact absurd (SLt_trans (hx'.1 y h2) (hy'.1 x h1)) (irr x)
    subst e
    have e2 : xs = ys := asc_ext hx'.2 hy'.2 fun c => by
      constructor
      · intro hc
        rcases List.mem_cons.mp ((h c).mp (List.mem_cons_of_mem _ hc)) with e | h1
        · subst e; exact absurd (hx'.1 _ hc) (irr _)
        · exact h1
      · intro hc
        rcases List.mem_cons.mp ((h c).mpr (List.mem_cons_of_mem _ hc)) with e | h1
        · subst e; exact absurd (hy'.1 _ hc) (irr _)
        · exact h1
    rw [e2]
/-! the law's way to a piece -/
def stepP (ps : List (List Str)) (sm P : List Str) : List Str := P ++ sm.filter fun c => !decide (c ∈ P) && P.any fun o => nearB ps o c
def itP (ps : List (List Str)) (sm : List Str) (x : Str) : Nat → List Str
  | 0 => [x]
  | n + 1 => stepP ps sm (itP ps sm x n)
structure GoodP (ps : List (List Str)) (sm : List Str) (x : Str) (P : List Str) : Prop where
  has : x ∈ P
  all : ∀ c ∈ P, Reach ps sm x c
  nd : P.Nodup
theorem GoodP.step {P : List Str} (nd : sm.Nodup) (G : GoodP ps sm x P) : GoodP ps sm x (stepP ps sm P) where
  has := List.mem_append_left _ G.has
  all := fun c hc => by
    rcases List.mem_append.mp hc with h | h
    · exact G.all c h
    · obtain ⟨h1, h2⟩ := List.mem_filter.mp h
      rw [Bool.and_eq_true, List.any_eq_true] at h2
      obtain ⟨_, o, ho, hn⟩ := h2
      exact .step (G.all o ho) h1 hn
  nd := List.nodup_append.mpr ⟨G.nd, nd.sublist List.filter_sublist, fun a ha b hb e => by
    subst e
    have h2 := (List.mem_filter.mp hb).2
    rw [Bool.and_eq_true, Bool.not_eq_true', decide_eq_false_iff_not] at h2
    exact h2.1 ha⟩
theorem itP_good (nd : sm.Nodup) : ∀ n, GoodP ps sm x (itP ps sm x n)
  | 0 => ⟨List.mem_singleton.mpr rfl, fun c hc => by rw [List.mem_singleton.mp hc]; exact .refl, List.nodup_cons.mpr ⟨(fun h => nomatch h), List.nodup_nil⟩⟩
  | n + 1 => (itP_good nd n).step nd
theorem itP_grow : ∀ n, n + 1 ≤ (itP ps sm x n).length ∨ stepP ps sm (itP ps sm x n) = itP ps sm x n
  | 0 => .inl (Nat.le_refl _)
  | n + 1 => by
    rcases itP_grow n with h | h
    · by_cases e : (sm.filter fun c => !decide (c ∈ itP ps sm x n) && (itP ps sm x n).any fun o => nearB ps o c) = []
      · have e2 : stepP ps sm (itP ps sm x n) = itP ps sm x n := by
          unfold stepP
          rw [e, List.append_nil]
        right
        show stepP ps sm (stepP ps sm (itP ps sm x n)) = stepP ps sm (itP ps sm x n)
        rw [e2, e2]
      · left
        show n + 1 + 1 ≤ (stepP ps sm (itP ps sm x n)).length
        unfold stepP
        rw [List.length_append]
        have := List.length_pos_iff.mpr e
        omega
    · right
      show stepP ps sm (stepP ps sm (itP ps sm x n)) = stepP ps sm (itP ps sm x n)
      rw [h, h]
theorem itP_mem (hx : x ∈ sm) (nd : sm.Nodup) : c ∈ itP ps sm x sm.length ↔ Reach ps sm x c := by
  have G := itP_good (ps := ps) (x := x) nd sm.length
  refine ⟨G.all c, fun h => ?_⟩
  have hf : stepP ps sm (itP ps sm x sm.length) = itP ps sm x sm.length := by
    rcases itP_grow (ps := ps) (sm := sm) (x := x) sm.length with h | h
    · have := nodup_len G.nd fun y hy => (G.all y hy).mem hx
      omega
    · exact h
  have hnil : (sm.filter fun c => !decide (c ∈ itP ps sm x sm.length) && (itP ps sm x sm.length).any fun o => nearB ps o c) = [] := by
    have h2 := congrArg List.length hf
    unfold stepP at h2
    rw [List.length_append] at h2
    exact List.eq_nil_of_length_eq_zero (by omega)
  refine reach_closed (S := fun c => c ∈ itP ps sm x sm.length) G.has (fun o c ho hc hn => ?_) h
  by_cases hm : c ∈ itP ps sm x sm.length
  · exact hm
  · have : c ∈ (sm.filter fun c => !decide (c ∈ itP ps sm x sm.length) && (itP ps sm x sm.length).any fun o => nearB ps o c) := by
      refine List.mem_filter.mpr ⟨hc, ?_⟩
      rw [Bool.and_eq_true, List.any_eq_true, Bool.not_eq_true', decide_eq_false_iff_not]
      exact ⟨hm, o, ho, hn⟩
    rw [hnil] at this
    exact nomatch this
theorem itP_pc (hx : x ∈ sm) (asc : sm.Pairwise SLt) : sortS (itP ps sm x sm.length) = pc ps sm x := by
  have nd := asc_nodup asc
  refine asc_ext (sortS_asc (itP_good nd _).nd) (pc_asc asc) fun c => ?_
  rw [(sortS_perm _).mem_iff, itP_mem hx nd, mem_pc]
  exact ⟨fun h => ⟨h.mem hx, h⟩, fun h => h.2⟩
/-! the pieces in a row -/
structure LeftP (ps : List (List Str)) (sm l : List Str) : Prop where
  sub : l.Sublist sm
  cl : ∀ c ∈ l, ∀ d, Reach ps sm c d → d ∈ l
theorem LeftP.init : LeftP ps sm sm := ⟨List.Sublist.refl _, fun c hc d h => h.mem hc⟩
theorem LeftP.next (L : LeftP ps sm (x :: l)) : LeftP ps sm (offP ps sm x l) where
  sub := (offP_sub.trans (List.sublist_cons_self ..)).trans L.sub
  cl := fun c hc d h => by
    obtain ⟨h1, h2⟩ := mem_offP.mp hc
    have hcs : c ∈ sm := L.sub.subset (List.mem_cons_of_mem _ h1)
    have hd := L.cl c (List.mem_cons_of_mem _ h1) d h
    have hnd : ¬ Reach ps sm x d := fun hr => h2 (hr.trans (h.symm hcs))
    rcases List.mem_cons.mp hd with e | hd
    · subst e; exact absurd .refl hnd
    · exact mem_offP.mpr ⟨hd, hnd⟩
theorem LeftP.head (asc : sm.Pairwise SLt) (L : LeftP ps sm (x :: l)) : ∃ t, pc ps sm x = x :: t := by
  have hx : x ∈ sm := L.sub.subset (List.mem_cons_self ..)
  have hm : x ∈ pc ps sm x := mem_pc.mpr ⟨hx, .refl⟩
  have ha := pc_asc (ps := ps) (x := x) asc
  have hl := List.pairwise_cons.mp (asc.sublist L.sub)
  cases hp : pc ps sm x with
  | nil => rw [hp] at hm; exact nomatch hm
  | cons y t =>
    rw [hp] at hm ha
    have hy : y ∈ pc ps sm x := by rw [hp]; exact List.mem_cons_self ..
    have hy2 := L.cl x (List.mem_cons_self ..) y (mem_pc.mp hy).2
    rcases List.mem_cons.mp hm with e | h1
    · exact ⟨t, by rw [e]⟩
    · rcases List.mem_cons.mp hy2 with e | h2
      · exact ⟨t, by rw [e]⟩
      · have h3 := (List.pairwise_cons.mp ha).1 x h1
        exact absurd (SLt_trans h3 (hl.1 y h2)) (List.lt_irrefl _)
/-- two pieces in a row -/
def PP (p q : List Str) : Prop := (∃ a s b t, p = a :: s ∧ q = b :: t ∧ SLt a b) ∧ ∀ c ∈ p, c ∉ q
theorem pcs_mem (asc : sm.Pairwise SLt) : ∀ (n : Nat) {l : List Str}, l.length ≤ n → LeftP ps sm l → ∀ q ∈ pcs ps sm l, ∃ y ∈ l, q = pc ps sm y ∧ ∃ t, q = y :: t
  | _, [], _, _, q, hq => by rw [pcs_nil] at hq; exact nomatch hq
  | n + 1, x :: l, hl, L, q, hq => by
    rw [pcs_cons] at hq
    rcases List.mem_cons.mp hq with e | h
    · subst e
      exact ⟨x, List.mem_cons_self .., rfl, L.head asc⟩
    · have hle : (offP ps sm x l).length ≤ n := by
        have := (offP_sub (ps := ps) (sm := sm) (x := x) (l := l)).length_le
        rw [List.length_cons] at hl
        omega
      obtain ⟨y, hy, h1, h2⟩ := pcs_mem asc n hle L.next q h
      exact ⟨y, List.mem_cons_of_mem _ (offP_sub.subset hy), h1, h2⟩
theorem pcs_pair (asc : sm.Pairwise SLt) : ∀ (n : Nat) {l : List Str}, l.length ≤ n → LeftP ps sm l → (pcs ps sm l).Pairwise PP
  | _, [], _, _ => by rw [pcs_nil]; exact List.Pairwise.nil
  | n + 1, x :: l, hl, L => by
    rw [pcs_cons]
    have hle : (offP ps sm x l).length ≤ n := by
      have := (offP_sub (ps := ps) (sm := sm) (x := x) (l := l)).length_le
      rw [List.length_cons] at hl
      omega
    refine List.pairwise_cons.mpr ⟨fun q hq => ?_, pcs_pair asc n hle L.next⟩
    obtain ⟨y, hy, h1, t, h2⟩ := pcs_mem asc n hle L.next q hq
    obtain ⟨s, hs⟩ := L.head asc
    obtain ⟨hyl, hnr⟩ := mem_offP.mp hy
    have hlt := (List.pairwise_cons.mp (asc.sublist L.sub)).1 y hyl
    refine ⟨⟨x, s, y, t, hs, h2, hlt⟩, fun c hc hq => ?_⟩
    rw [h1] at hq
    have hys : y ∈ sm := L.sub.subset (List.mem_cons_of_mem _ hyl)
    exact hnr ((mem_pc.mp hc).2.trans ((mem_pc.mp hq).2.symm hys))
theorem pcs_all (asc : sm.Pairwise SLt) : ∀ (n : Nat) {l : List Str}, l.length ≤ n → LeftP ps sm l → ∀ c ∈ l, ∃ q ∈ pcs ps sm l, c ∈ q
  | _, [], _, _, c, hc => nomatch hc
  | n + 1, x :: l, hl, L, c, hc => by
    rw [pcs_cons]
    have hle : (offP ps sm x l).length ≤ n := by
      have := (offP_sub (ps := ps) (sm := sm) (x := x) (l := l)).length_le
      rw [List.length_cons] at hl
      omega
    by_cases h : Reach ps sm x c
    · exact ⟨_, List.mem_cons_self .., mem_pc.mpr ⟨L.sub.subset hc, h⟩⟩
    · have h2 : c ∈ offP ps sm x l := by
        rcases List.mem_cons.mp hc with e | h3
        · subst e; exact absurd .refl h
        · exact mem_offP.mpr ⟨h3, h⟩
      obtain ⟨q, hq, hcq⟩ := pcs_all asc n hle L.next c h2
      exact ⟨q, List.mem_cons_of_mem _ hq, hcq⟩
end
end PL
set_option Elab.async false
set_option linter.all false
set_option maxRecDepth 100000
set_option maxHeartbeats 4000000
/-! R1: columns as bits. -/
namespace PL
open PySem PyProof.Rows
/-- the bits of the columns that q takes -/
def bQ : List Str → (Str → Bool) → Nat
  | [], _ => 0
  | c :: cs, q => (q c).toNat + 2 * bQ cs q
section
variable {q r : Str → Bool}
theorem bQ_bit : ∀ (cols : List Str) (i : Nat), (bQ cols q).testBit i = (match cols[i]? with
    | some c => q c
    | none => false)
  | [], i => by simp [bQ]
  | c :: cs, 0 => by
    show ((q c).toNat + 2 * bQ cs q).testBit 0 = q c
    rw [Nat.testBit_zero]
    cases q c <;> simp <;> omega
  | c :: cs, i + 1 => by
    show ((q c).toNat + 2 * bQ cs q).testBit (i + 1) = _
    rw [Nat.testBit_succ]
    have e : ((q c).toNat + 2 * bQ cs q) / 2 = bQ cs q := by cases q c <;> simp <;> omega
    rw [e, bQ_bit cs i]
    rfl
theorem bQ_and (cols : List Str) : bQ cols q &&& bQ cols r = bQ cols fun c => q c && r c := by
  refine Nat.eq_of_testBit_eq fun i => ?_
  rw [Nat.testBit_and, bQ_bit, bQ_bit, bQ_bit]
  cases cols[i]? <;> rfl
theorem bQ_or (cols : List Str) : bQ cols q ||| bQ cols r = bQ cols fun c => q c || r c := by
  refine Nat.eq_of_testBit_eq fun i => ?_
  rw [Nat.testBit_or, bQ_bit, bQ_bit, bQ_bit]
  cases cols[i]? <;> rfl
theorem bQ_split : ∀ cols : List Str, bQ cols q = bQ cols (fun c => q c && r c) + bQ cols (fun c => q c && !r c)
  | [] => rfl
  | c :: cs => by
    have ih := bQ_split cs
    show (q c).toNat + 2 * bQ cs q = ((q c && r c).toNat + 2 * bQ cs fun c => q c && r c) + ((q c && !r c).toNat + 2 * bQ cs fun c => q c && !r c)
    cases hq : q c <;> cases hr : r c <;> simp <;> omega
theorem bQ_zero : ∀ {cols : List Str}, bQ cols q = 0 ↔ ∀ c ∈ cols, q c = false
  | [] => ⟨(fun _ _ h => nomatch h), fun _ => rfl⟩
  | c :: cs => by
    have ih := bQ_zero (cols := cs)
    unfold bQ
    constructor
    · intro h d hd
      have h1 : (q c).toNat = 0 := by omega
      have h2 : bQ cs q = 0 := by omega
      rcases List.mem_cons.mp hd with e | hd
      · subst e
        cases hq : q d with
        | false => rfl
        | true => rw [hq] at h1; exact absurd h1 (by decide)
      · exact ih.mp h2 d hd
    · intro h
      rw [h c (List.mem_cons_self ..), ih.mpr fun d hd => h d (List.mem_cons_of_mem _ hd)]
      rfl
theorem bQ_inj : ∀ {cols : List Str}, bQ cols q = bQ cols r ↔ ∀ c ∈ cols, q c = r c
  | [] => ⟨(fun _ _ h => nomatch h), fun _ => rfl⟩
  | c :: cs => by
    have ih := bQ_inj (cols := cs)
    unfold bQ
    constructor
    · intro h d hd
      have h1 : q c = r c := by
        cases hq : q c <;> cases hr : r c <;> rw [hq, hr] at h <;> first | rfl | (simp at h; omega)
      have h2 : bQ cs q = bQ cs r := by rw [h1] at h; omega
      rcases List.mem_cons.mp hd with e | hd
      · subst e; exact h1
      · exact ih.mp h2 d hd
    · intro h
      rw [h c (List.mem_cons_self ..), ih.mpr fun d hd => h d (List.mem_cons_of_mem _ hd)]
theorem bQ_low : ∀ {cols : List Str} {x : Str} {l : List Str}, cols.Nodup → cols.filter q = x :: l → ∃ k a : Nat, bQ cols q = 2 ^ k * (2 * a + 1) ∧ bQ cols (fun c => decide (c = x)) = 2 ^ k
  | [], x, l, _, h => nomatch h
  | c :: cs, x, l, nd, h => by
    have nd := List.nodup_cons.mp nd
    unfold bQ
    cases hq : q c with
    | true =>
      rw [List.filter_cons_of_pos hq] at h
      injection h with h1 h2
      subst h1
      have e : bQ cs (fun d => decide (d = c)) = 0 := bQ_zero.mpr fun d hd => decide_eq_false fun e => nd.1 (e ▸ hd)
      exact ⟨0, bQ cs q, by simp; omega, by simp [e]⟩
    | false =>
      rw [List.filter_cons_of_neg (by rw [hq]; exact Bool.false_ne_true)] at h
      obtain ⟨k, a, h1, h2⟩ := bQ_low nd.2 h
      have hx : x ∈ cs := (List.mem_filter.mp (h ▸ List.mem_cons_self .. : x ∈ cs.filter q)).1
      have hne : ¬ c = x := fun e => nd.1 (e ▸ hx)
      refine ⟨k + 1, a, ?_, ?_⟩
      · rw [h1]; simp [Nat.pow_succ, Nat.mul_comm, Nat.mul_left_comm, Nat.mul_assoc]
      · rw [h2]; simp [hne, Nat.pow_succ, Nat.mul_comm]
/-- the bit of a column -/
def pw : List Str → Str → Nat
  | [], _ => 0
  | c :: cs, d => if d = c then 1 else 2 * pw cs d
theorem pw_get : ∀ {cols : List Str} {i : Nat}, cols.Nodup → (h : i < cols.length) → pw cols cols[i] = 2 ^ i
  | c :: cs, 0, _, _ => if_pos rfl
  | c :: cs, i + 1, nd, h => by
    have nd := List.nodup_cons.mp nd
    have h' : i < cs.length := by simpa using h
    have hne : ¬ cs[i] = c := fun e => nd.1 (e ▸ List.getElem_mem h')
    show (if cs[i] = c then 1 else 2 * pw cs cs[i]) = _
    rw [if_neg hne, pw_get nd.2 h', Nat.pow_succ, Nat.mul_comm]
theorem pw_sum : ∀ {cols : List Str}, cols.Nodup → ((cols.filter q).map (pw cols)).sum = bQ cols q
  | [], _ => rfl
  | c :: cs, nd => by
    have nd := List.nodup_cons.mp nd
    have ih := pw_sum nd.2
    have e : ∀ l : List Str, (∀ d ∈ l, d ∈ cs) → (l.map (pw (c :: cs))).sum = 2 * (l.map (pw cs)).sum := by
      intro l
      induction l with
      | nil => intro _; rfl
      | cons d l ihl =>
        intro hl
        have hne : ¬ d = c := fun e => nd.1 (e ▸ hl d (List.mem_cons_self ..))
        rw [List.map_cons, List.map_cons, List.sum_cons, List.sum_cons, ihl fun y hy => hl y (List.mem_cons_of_mem _ hy)]
        rw [show pw (c :: cs) d = 2 * pw cs d from if_neg hne]
        omega
    have e2 := e (cs.filter q) fun d hd => (List.mem_filter.mp hd).1
    unfold bQ
    cases hq : q c with
    | true =>
      rw [List.filter_cons_of_pos hq, List.map_cons, List.sum_cons, e2, ih, show pw (c :: cs) c = 1 from if_pos rfl]
      rfl
    | false =>
      rw [List.filter_cons_of_neg (by rw [hq]; exact Bool.false_ne_true), e2, ih]
      simp
theorem pow_sum : ∀ {cols : List Str}, (((List.range cols.length).filter fun i => match cols[i]? with
    | some c => q c
    | none => false).map fun i => 2 ^ i).sum = bQ cols q
  | [] => rfl
  | c :: cs => by
    have ih := pow_sum (cols := cs)
    have e : ∀ l : List Nat, ((l.map Nat.succ).map fun i => 2 ^ i).sum = 2 * (l.map fun i => 2 ^ i).sum := by
      intro l
      induction l with
      | nil => rfl
      | cons d l ihl =>
        rw [List.map_cons, List.map_cons, List.map_cons, List.sum_cons, List.sum_cons, ihl, Nat.pow_succ]
        omega
    rw [List.length_cons, List.range_succ_eq_map]
    unfold bQ
    have e3 : (List.map Nat.succ (List.range cs.length)).filter (fun i => match (c :: cs)[i]? with
        | some c => q c
        | none => false) = ((List.range cs.length).filter fun i => match cs[i]? with
        | some c => q c
        | none => false).map Nat.succ := by
      rw [List.filter_map]
      rfl
    cases hq : q c with
    | true =>
      rw [List.filter_cons_of_pos (by simpa using hq), List.map_cons, List.sum_cons, e3, e, ih]
      rfl
    | false =>
      rw [List.filter_cons_of_neg (by simp [hq]), e3, e, ih]
      simp
theorem take_bits : ∀ {cols : List Str}, ((List.range cols.length).filterMap fun i => match cols[i]? with
    | some c => if q c then some c else none
    | none => none) = cols.filter q
  | [] => rfl
  | c :: cs => by
    have ih := take_bits (cols := cs)
    rw [List.length_cons, List.range_succ_eq_map]
    have e3 : (List.map Nat.succ (List.range cs.length)).filterMap (fun i => match (c :: cs)[i]? with
        | some c => if q c then some c else none
        | none => none) = cs.filter q := by
      rw [List.filterMap_map, ← ih]
      rfl
    cases hq : q c with
    | true => rw [List.filterMap_cons_some (b := c) (by simp [hq]), e3, List.filter_cons_of_pos hq]
    | false => rw [List.filterMap_cons_none (by simp [hq]), e3, List.filter_cons_of_neg (by simp [hq])]
/-! as whole numbers -/
theorem iAnd {a b : Nat} : Builtin.bitAnd (a : Int) (b : Int) = ((a &&& b : Nat) : Int) := by
  rw [bitAnd_pp (Int.natCast_nonneg a) (Int.natCast_nonneg b)]
  rfl
theorem iOr {a b : Nat} : Builtin.bitOr (a : Int) (b : Int) = ((a ||| b : Nat) : Int) := by
  unfold Builtin.bitOr
  rw [bitAnd_nn (by unfold Builtin.bitNot; omega) (by unfold Builtin.bitNot; omega)]
  have h : ∀ x : Nat, Builtin.bitNot (Builtin.bitNot (x : Int)) = x := fun x => by unfold Builtin.bitNot; omega
  rw [h, h, h]
  rfl
theorem iLess (cols : List Str) : Builtin.bitAnd ((bQ cols q : Nat) : Int) (Builtin.bitNot ((bQ cols r : Nat) : Int)) = ((bQ cols (fun c => q c && !r c) : Nat) : Int) := by
  rw [bitAnd_not, iAnd, bQ_and]
  have := bQ_split (q := q) (r := r) cols
  omega
theorem iLow {cols : List Str} {x : Str} {l : List Str} (nd : cols.Nodup) (h : cols.filter q = x :: l) : Builtin.bitAnd ((bQ cols q : Nat) : Int) (-((bQ cols q : Nat) : Int)) = ((bQ cols (fun c => decide (c = x)) : Nat) : Int) := by
  obtain ⟨k, a, h1, h2⟩ := bQ_low nd h
  rw [h1, h2]
  have := PySem.W.kbt_low k (a : Int)
  have e : ((2 ^ k * (2 * a + 1) : Nat) : Int) = 2 ^ k * (2 * (a : Int) + 1) := by push_cast; rfl
  rw [e, this]
  push_cast
  rfl
end
end PL
set_option Elab.async false
set_option linter.all false
set_option maxRecDepth 100000
set_option maxHeartbeats 4000000
/-! Q23: a turn of the loop that hangs rows. -/
namespace JS
open PySem PL
theorem hung_turn {n : Nat} {gs : GS} {cols left : List Str} {ps : List (List Str)} {s2 s4 s6 s7 s8 : Slot} (hc : Cols cols) (H : Hung cols left ps) (hl : ps.length ≤ 22) (hll : left.length ≤ 24) (G : Good n gs) (hn : n + 30 < lim) :
    wp ((sSeq (sSetF 7 (xFn 2 M__law_pick (aCons (xVar 0) (aCons (xVar 5) aNil)) []))
                          (sSeq (sSetF 4 (xFn 2 M__law_next (aCons (xVar 0) (aCons (xC (PyData.int 3)) aNil)) []))
                            (sSeq
                              (sSetF 8
                                (xBin addR
                                  (xFn 4 M__law_some
                                    (aCons (xVar 0)
                                      (aCons (xVar 7) (aCons (xC (PyData.int 0)) (aCons (xC (PyData.int 3)) aNil))))
                                    [])
                                  (xCall tupleR (aCons (xSl (xVar 3) pNone (pSome (xVar 4))) aNil))))
                              (sSeq (sSetF 3 (xSl (xVar 3) (pSome (xVar 4)) pNone))
                                (sIf (tBin neR (xVar 8) (xTup aNil))
                                  (sApp 5 (xCall tupleR (aCons (xCall sortedR (aCons (xVar 8) aNil)) aNil))) sNil)))))
        [Slot.obj 0, .val (tS cols), s2, .val (.list (left.map PyData.str)), s4, .own (.list (ps.map tS)), s6, s7, s8]) gs fun o g => ∃ left2 ps2 t4 t7 t8, o = .nx [Slot.obj 0, .val (tS cols), s2, .val (.list (left2.map PyData.str)), t4, .own (.list (ps2.map tS)), s6, t7, t8] ∧ Hung cols left2 ps2 ∧ left2.length ≤ 24 ∧ ps2.length ≤ ps.length + 1 ∧ Good (n + 30) g := by
  have hp := H.ne
  have hcl := hc.le
  simp
  refine wp_callB rfl ?_
  refine wp_mono (wp_pick (d := .list (ps.map tS)) (ds := ps.map tS) (.inl rfl) G (Nat.lt_of_le_of_lt (by omega) hn) (by rw [List.length_map]; omega) (by rw [List.length_map]; omega)) fun r g1 ⟨z, hz, hr, G1⟩ => ?_
  obtain ⟨host, hh, rfl⟩ := List.mem_map.mp hz
  subst hr
  have hhs := H.some host hh
  have hhl : host.length ≤ 24 := Nat.le_trans hhs.le hcl
  have hcr : cleanR (.val (tS host)) = true := by
    show plainAll (host.map PyData.str) = true
    exact plain_strs host
  refine ⟨⟨hcr, by rw [G1.len, G.len]⟩, ?_⟩
  simp
  refine wp_mono (wp_next (many := 3) G1 (Nat.lt_of_le_of_lt (by omega) hn) (by omega) (lim_of (by omega))) fun r g2 ⟨k, hk, hr, G2⟩ => ?_
  subst hr
  simp
  have h5 : wp (M__law_some [.obj 0, .val (tS host), .val (.int 0), .val (.int 3)]) g2 fun r g => ∃ ys k, r = .val (tS ys) ∧ (∀ y ∈ ys, y ∈ host) ∧ ys.Pairwise SLt ∧ k ≤ 3 - 0 ∧ ys.length = min host.length (0 + k) ∧ Good (n + 1 + 1 + 1 + host.length) g := wp_some (a := 0) (b := 3) (hhs.okS hc) (asc_nodup hhs.asc) G2 (Nat.lt_of_le_of_lt (by omega) hn) (by omega) (by omega) (by omega)
  refine wp_mono h5 fun r g3 ⟨zs, j, hr, hzs, hza, hj, hzl, G3⟩ => ?_
  subst hr
  simp
  rw [slO_own, slO_own, cutD_take, cutD_drop, ← List.map_take, ← List.map_drop]
  simp only [wp_liftS, frz_own, tupleR_list]
  have hzl2 : zs.length ≤ 24 := by omega
  have htl : (left.take k).length ≤ 24 := by rw [List.length_take]; omega
  have hadd : addR (.val (tS zs)) (.val (tS (left.take k))) = some (.val (tS (zs ++ left.take k))) := by
    show (if (zs.map PyData.str).length + ((left.take k).map PyData.str).length ≤ sizeLine then _ else _) = _
    rw [if_pos (by rw [List.length_map, List.length_map]; exact small_le (by omega)), ← List.map_append]
  have okp : OkS (zs ++ left.take k) := fun x hx => by
    rcases List.mem_append.mp hx with h | h
    · exact hhs.okS hc x (hzs x h)
    · exact hc.okS x (H.sub x (List.mem_of_mem_take h))
  have hne := neR_nil okp
  have hdl : (left.drop k).length ≤ 24 := by rw [List.length_drop]; omega
  rw [frz_val, hadd]
  have hs := sortedR_strs (xs := zs ++ left.take k) (r := .val (tS (zs ++ left.take k))) (d := tS (zs ++ left.take k)) rfl rfl okp (by rw [List.length_append]; omega)
  have hstep := fun hne => H.step (k := k) hh hzs hza hne
  have hdn := H.drop_nil (k := k)
  have hzn : zs ++ left.take k = [] → left.take k = [] := fun e => (List.append_eq_nil_iff.mp e).2
  generalize zs ++ left.take k = part at *
  generalize left.drop k = left2 at *
  have hps : ps.length < sizeLine := small_le (n := ps.length + 1) (by omega)
  have G4 := G3.mono (show n + 1 + 1 + 1 + host.length ≤ n + 30 by omega)
  by_cases hpn : part = []
  · rw [hpn] at hne ⊢
    simp [hne]
    exact ⟨left2, ps, ⟨rfl, rfl⟩, hdn (hzn hpn), hdl, by omega, G4⟩
  · simp [hne, hpn]
    unfold sApp
    have ho : ownList [Slot.obj 0, Slot.val (tS cols), s2, Slot.val (PyData.list (List.map PyData.str left2)), Slot.val (PyData.int ↑k), Slot.own (PyData.list (List.map tS ps)), s6, Slot.val (tS host), Slot.val (tS part)] 5 = some (ps.map tS) := rfl
    simp [ho, hs, hps]
    exact ⟨left2, ps ++ [sortS part], ⟨rfl, by rw [List.map_append]; rfl⟩, hstep hpn, hdl, by rw [List.length_append]; exact Nat.le_refl _, G4⟩
end JS
set_option Elab.async false
set_option linter.all false
set_option maxRecDepth 100000
set_option maxHeartbeats 4000000
/-! S0: bits of columns, columns of bits. -/
namespace PL
open PySem PyProof.Rows
def colQ (cols : List Str) (q : Str → Bool) (i : Nat) : Bool := match cols[i]? with
  | some c => q c
  | none => false
theorem colQ_get {cols : List Str} {q : Str → Bool} {i : Nat} (h : i < cols.length) : colQ cols q i = q cols[i] := by
  unfold colQ
  rw [List.getElem?_eq_getElem h]
theorem colQ_sum {cols : List Str} {q : Str → Bool} : (((List.range cols.length).filter (colQ cols q)).map fun i => 2 ^ i).sum = bQ cols q := pow_sum
theorem colQ_take {cols : List Str} {q : Str → Bool} : ((List.range cols.length).filter (colQ cols q)).filterMap (fun i => cols[i]?) = cols.filter q := by
  rw [← take_bits (q := q), List.filterMap_filter]
  congr 1
  funext i
  unfold colQ
  cases cols[i]? with
  | none => rfl
  | some c => cases q c <;> rfl
theorem intsOf_map {ι : Type} {f : ι → Int} : ∀ l : List ι, intsOf (l.map fun i => .int (f i)) = some (l.map f)
  | [] => rfl
  | x :: xs => by
    rw [List.map_cons, List.map_cons]
    show (intsOf (xs.map fun i => .int (f i))).map _ = _
    rw [intsOf_map xs]
    rfl
theorem sum_cast : ∀ l : List Nat, (l.map fun n : Nat => ((n : Nat) : Int)).sum = ((l.sum : Nat) : Int)
  | [] => rfl
  | x :: xs => by rw [List.map_cons, List.sum_cons, List.sum_cons, sum_cast xs]; omega
theorem sumR_nat {ι : Type} {f : ι → Nat} {l : List ι} : sumR [.val (.list (l.map fun i => .int ((f i : Nat) : Int)))] = some (.val (.int (((l.map f).sum : Nat) : Int))) := by
  show (intsOf (l.map fun i => .int ((f i : Nat) : Int))).map _ = _
  rw [intsOf_map (f := fun i => ((f i : Nat) : Int))]
  show some (RV.val (.int (l.map fun i => ((f i : Nat) : Int)).sum)) = _
  rw [← sum_cast, List.map_map]
  rfl
theorem shl1 {i : Nat} (h : i ≤ 1000) : shlR (.val (.int 1)) (.val (.int (i : Nat))) = some (.val (.int ((2 ^ i : Nat) : Int))) := by
  show ((if 0 ≤ (i : Int) ∧ (i : Int) ≤ 1000000 ∧ (1 : Int).natAbs < 2 ^ 64 then some (PyData.int (1 * 2 ^ (i : Int).toNat)) else none).map RV.val) = _
  rw [if_pos ⟨by omega, by omega, by decide⟩, Int.toNat_natCast, Int.one_mul]
  simp
theorem shr_nat {b i : Nat} : shrR (.val (.int (b : Nat))) (.val (.int (i : Nat))) = some (.val (.int ((b / 2 ^ i : Nat) : Int))) := by
  show ((if 0 ≤ (i : Int) then some (PyData.int ((b : Int) / 2 ^ (i : Int).toNat)) else none).map RV.val) = _
  rw [if_pos (by omega), Int.toNat_natCast]
  simp
theorem and1_nat {b : Nat} : bandR (.val (.int (b : Nat))) (.val (.int 1)) = some (.val (.int ((b % 2 : Nat) : Int))) := by
  show some (RV.val (.int (Builtin.bitAnd (b : Int) 1))) = _
  rw [bitAnd_m1]
  rfl
theorem bit_eq {b i : Nat} : (((b / 2 ^ i % 2 : Nat) : Int) == 1) = b.testBit i := by
  rw [Nat.testBit_eq_decide_div_mod_eq, Bool.eq_iff_iff, beq_iff_eq, decide_eq_true_eq]
  omega
theorem bit_ne {b i : Nat} : (((b / 2 ^ i % 2 : Nat) : Int) != 0) = b.testBit i := by
  rw [Nat.testBit_eq_decide_div_mod_eq, Bool.eq_iff_iff, bne_iff_ne, decide_eq_true_eq]
  omega
theorem bQ_colQ {cols : List Str} {q : Str → Bool} {i : Nat} : (bQ cols q).testBit i = colQ cols q i := bQ_bit cols i
end PL
namespace JS
open PySem PL
end JS
set_option Elab.async false
set_option linter.all false
set_option maxRecDepth 100000
set_option maxHeartbeats 4000000
/-! S1: the bits of parts. -/
namespace PL
open PySem PySem.Spec PyProof.Rows L2
theorem enD_map {ι : Type} {f : ι → D} {xs : List ι} : enD (xs.map f) = xs.zipIdx.map fun p => .tuple [.int ((p.2 : Nat) : Int), f p.1] := by
  unfold enD
  rw [List.mapIdx_eq_zipIdx_map, List.zipIdx_map, List.map_map]
  rfl
section
variable {ι : Type} {g : D → Sl → Option Sl} {tt : Sl → M Bool} {tk tv : Sl → M RV} {ρ ρ0 : Sl} {e : ι → D}
theorem compD_map {F : ι → D × D} {xs : List ι} (h : ∀ x ∈ xs, turnD ρ0 g tt tk tv (e x) = retM [F x]) : compD ρ0 g tt tk tv (xs.map e) = retM (xs.map F) := by
  induction xs with
  | nil => rfl
  | cons x xs ih =>
    have ih := ih fun y hy => h y (List.mem_cons_of_mem _ hy)
    rw [List.map_cons, compD, h x (List.mem_cons_self ..), calmM_ret, bindM_ret, ih, bindM_ret]
    rfl
theorem xDc_def {src : Sl → M (List D × Bool)} {vs : List Nat} {ds : List D} {b : Bool} (h : src ρ = retM (ds, b)) : xDc src vs g tt tk tv ρ = bindM (compD (wipeS ρ vs) g tt tk tv ds) fun ps => if ps.length ≤ sizeLine ∧ (ps.all fun p => (keyD p.1).isSome) = true then retM (.own (.dict (putAll [] ps))) else stuckM := by
  unfold xDc
  rw [h, bindM_ret]
end
theorem putAll_fresh : ∀ (ps acc : List (D × D)), ((acc ++ ps).map fun p => keyD p.1).Nodup → putAll acc ps = acc ++ ps
  | [], acc, _ => by rw [List.append_nil]; rfl
  | p :: ps, acc, nd => by
    have e : putD acc p.1 p.2 = acc ++ [p] := by
      unfold putD
      rw [if_neg]
      intro h
      obtain ⟨kv, hkv, hk⟩ := List.any_eq_true.mp h
      have hk := of_decide_eq_true hk
      rw [List.map_append, List.nodup_append] at nd
      exact nd.2.2 _ (List.mem_map.mpr ⟨kv, hkv, rfl⟩) _ (List.mem_map.mpr ⟨p, List.mem_cons_self .., rfl⟩) hk
    show putAll (putD acc p.1 p.2) ps = _
    rw [e, putAll_fresh ps (acc ++ [p]) (by rw [List.append_assoc]; exact nd), List.append_assoc]
    rfl
/-- the columns with their bits -/
def placesD (k : Nat) (cols : List Str) : List (D × D) := (cols.zipIdx k).map fun p => (.str p.1, .int ((2 ^ p.2 : Nat) : Int))
theorem places_keys (k : Nat) (cols : List Str) : (placesD k cols).map (fun p => keyD p.1) = cols.map fun c => some (.inr c) := by
  unfold placesD
  rw [List.map_map]
  have e : ((fun p : D × D => keyD p.1) ∘ fun p : Str × Nat => ((PyData.str p.1 : D), (PyData.int ((2 ^ p.2 : Nat) : Int) : D))) = (fun c : Str => (some (.inr c) : Option Key)) ∘ Prod.fst := rfl
  rw [e, ← List.map_map, List.zipIdx_map_fst]
theorem places_nodup {k : Nat} {cols : List Str} (nd : cols.Nodup) : (([] ++ placesD k cols).map fun p : D × D => keyD p.1).Nodup := by
  rw [List.nil_append, places_keys]
  refine List.pairwise_map.mpr (nd.imp fun {a b} h e => h ?_)
  injection e with e
  injection e
theorem places_look : ∀ {cols : List Str} {k : Nat} {c : Str}, c ∈ cols → lookD (placesD k cols) (.inr c) = some (.int ((2 ^ k * pw cols c : Nat) : Int))
  | a :: cs, k, c, h => by
    unfold placesD
    rw [List.zipIdx_cons, List.map_cons]
    unfold lookD pw
    by_cases e : a = c
    · subst e
      rw [List.find?_cons_of_pos (by simp [keyD]), if_pos rfl]
      simp
    · rw [List.find?_cons_of_neg (by simp [keyD, e]), if_neg fun h => e h.symm]
      have hc : c ∈ cs := by
        rcases List.mem_cons.mp h with h | h
        · exact absurd h.symm e
        · exact h
      have ih := places_look (k := k + 1) hc
      unfold placesD lookD at ih
      rw [ih, Nat.pow_succ, Nat.mul_assoc]
theorem ixM_dict {kvs : List (D × D)} {x : Str} : ixM (.val (.dict kvs)) (.val (.str x)) = liftO ((lookD kvs (.inr x)).map .val) := by
  funext gs
  rfl
@[simp] theorem enum1_tuple {ds : List D} : enum1 [.val (.tuple ds)] = some (enD ds, false) := id rfl
@[simp] theorem enum1_list {ds : List D} : enum1 [.val (.list ds)] = some (enD ds, false) := id rfl
theorem some_filter {cols p : List Str} (hc : Cols cols) (h : SomeOf cols p) : cols.filter (fun c => decide (c ∈ p)) = p :=
  asc_ext (hc.asc.sublist List.filter_sublist) h.asc fun c => by
    rw [List.mem_filter, decide_eq_true_eq]
    exact ⟨fun h => h.2, fun hp => ⟨h.sub c hp, hp⟩⟩
abbrev inB (p : List Str) : Str → Bool := fun c => decide (c ∈ p)
end PL
namespace JS
open PySem PL
theorem m_part_bits {cols : List Str} {ps : List (List Str)} (hc : Cols cols) (hp : ∀ p ∈ ps, SomeOf cols p) (hl : ps.length ≤ 10000) : M_part_bits [.val (tS cols), .val (tT ps)] = retM (.own (.list (ps.map fun p => .int ((bQ cols (inB p) : Nat) : Int)))) := by
  have hcl := hc.le
  have nd := asc_nodup hc.asc
  have e1 : xDc (iRng enum1 (aCons (xVar 0) aNil)) [4, 5] (gTp 2 (gsCons (gNm 4) (gsCons (gNm 5) gsNil))) tYesM (xVar 5) (xBin shlR (xC (.int 1)) (xVar 4)) [Slot.val (tS cols), .val (tT ps), .un, .un, .un, .un] = retM (.own (.dict (placesD 0 cols))) := by
    have hs : iRng enum1 (aCons (xVar 0) aNil) [Slot.val (tS cols), .val (tT ps), .un, .un, .un, .un] = retM (enD (cols.map PyData.str), false) := iRng_ret (rs := [.val (tS cols)]) (by simp) rfl
    rw [xDc_def hs, enD_map]
    rw [compD_map (F := fun p => (.str p.1, .int ((2 ^ p.2 : Nat) : Int))) fun p hp => ?_]
    · rw [bindM_ret, if_pos]
      · show retM (RV.own (.dict (putAll [] (placesD 0 cols)))) = _
        rw [putAll_fresh _ _ (places_nodup nd)]
        rfl
      · constructor
        · rw [List.length_map, List.length_zipIdx]; exact small_le (by omega)
        · rw [List.all_eq_true]
          intro kv hkv
          obtain ⟨p, _, rfl⟩ := List.mem_map.mp hkv
          rfl
    · obtain ⟨c, i⟩ := p
      have hi : i < cols.length := by
        have := List.mem_zipIdx hp
        omega
      simp [turnD, wipeS, gTp, gsCons, gsNil, shl1 (i := i) (by omega)]
  unfold M_part_bits g_part_bits
  simp only [bodyM_def, sSeq_def, sSetF_def, sRet_def, List.replicate, List.cons_append, List.nil_append, e1, useM_ret, frz_own, slotV_val, liftO_some, bindM_ret, List.set]
  rw [xLc_def (ds := ps.map tS) (b := false) (by simp) (by rw [List.length_map]; exact small_le hl)]
  rw [compL_map (F := fun p => .int ((bQ cols (inB p) : Nat) : Int)) fun p hpp => ?_]
  · simp
  · have hsome := hp p hpp
    have hpl := hsome.le
    have e2 : xLc (iSeq (xVar 3)) [5] (gNm 5) tYesM (xIx (xVar 2) (xVar 5)) [Slot.val (tS cols), .val (tT ps), .val (.dict (placesD 0 cols)), .val (tS p), .un, .un] = retM (.own (.list (p.map fun c => .int ((pw cols c : Nat) : Int)))) := by
      rw [xLc_def (ds := p.map PyData.str) (b := false) (by simp) (by rw [List.length_map]; exact small_le (by omega))]
      rw [compL_map (F := fun c => .int ((pw cols c : Nat) : Int)) fun c hcp => ?_]
      · simp
      · have e3 := places_look (k := 0) (hsome.sub c hcp)
        rw [Nat.pow_zero, Nat.one_mul] at e3
        simp [turnL, wipeS, ixM_dict, e3]
    have e4 : (p.map (pw cols)).sum = bQ cols (inB p) := by
      have := pw_sum (q := inB p) nd
      rwa [some_filter hc hsome] at this
    simp only [turnL, wipeS, List.set, gNm_def, liftO_some, bindM_ret, tYesM_def, if_true, xCall_def, aCons_def, aNil_def, e2, useM_ret, frz_own]
    rw [sumR_nat, e4]
    simp
end JS
set_option Elab.async false
set_option linter.all false
set_option maxRecDepth 100000
set_option maxHeartbeats 4000000
/-! S1a: equations from wp; a range parted. -/
namespace PL
open PySem
theorem ret_of_wp {α : Type} {m : M α} {a : α} (h : ∀ gs, wp m gs fun r g => r = a ∧ g = gs) : m = retM a := by
  funext gs
  have h := h gs
  unfold wp at h
  cases e : m gs with
  | ok r g => rw [e] at h; obtain ⟨rfl, rfl⟩ := h; rfl
  | exc x g => rw [e] at h; exact h.elim
  | stuck => rw [e] at h; exact h.elim
theorem wp_eq {α : Type} {m : M α} {a : α} {gs : GS} {Q : α → GS → Prop} (e : m = retM a) (h : Q a gs) : wp m gs Q := by
  rw [e]; exact wp_ret.mpr h
theorem range_split {n k : Nat} {pre post : List Nat} (ea : List.range n = pre ++ k :: post) : pre.length = k ∧ k < n := by
  have hn := congrArg List.length ea
  rw [List.length_range, List.length_append, List.length_cons] at hn
  have h1 : (List.range n)[pre.length]? = (pre ++ k :: post)[pre.length]? := by rw [ea]
  rw [List.getElem?_append_right (Nat.le_refl _), Nat.sub_self, List.getElem?_cons_zero, List.getElem?_range (by omega)] at h1
  have := Option.some.inj h1
  omega
theorem mulR_list {xs : List D} {n : Int} : mulR (.val (.list xs)) (.val (.int n)) = if -(2 ^ 63) ≤ n ∧ n < 2 ^ 63 ∧ xs.length * n.toNat ≤ sizeLine then some (RV.own (.list (List.replicate n.toNat xs).flatten)) else none := rfl
theorem ixN_nat {k n : Nat} (h : k < n) : L2.ixN n (k : Int) = some k := by
  unfold L2.ixN
  rw [if_pos (by omega), if_pos (by omega)]
  simp
theorem storeM_list {ρ : Sl} {j k : Nat} {ds : List D} {v : D} (h : ρ[j]? = some (.own (.list ds))) (hk : k < ds.length) : storeM ρ j (.val (.int (k : Nat))) v = retM (.nx (ρ.set j (.own (.list (ds.set k v))))) := by
  funext gs
  unfold storeM
  rw [h]
  simp [ixN_nat hk]
theorem enD_range {n : Nat} {f : Nat → D} : enD ((List.range n).map f) = (List.range n).map fun i => .tuple [.int ((i : Nat) : Int), f i] := by
  unfold enD
  refine List.ext_getElem (by simp) fun i h1 h2 => ?_
  simp
end PL
set_option Elab.async false
set_option linter.all false
set_option maxRecDepth 100000
set_option maxHeartbeats 4000000
/-! S2: the bits of the neighbours. -/
namespace PL
open PySem
/-- neighbours of the column at a place -/
abbrev nearAt (cols : List Str) (ps : List (List Str)) (i : Nat) (c : Str) : Bool := colQ cols (fun a => nearB ps a c) i
theorem near_snoc {ps : List (List Str)} {p : List Str} {a c : Str} : nearB (ps ++ [p]) a c = (nearB ps a c || (decide (a ∈ p) && decide (c ∈ p))) := by
  unfold nearB
  rw [List.any_append]
  simp
theorem pow_bQ : ∀ {cols : List Str} {i : Nat}, cols.Nodup → (h : i < cols.length) → 2 ^ i = bQ cols fun c => decide (c = cols[i])
  | c :: cs, 0, nd, _ => by
    have nd := List.nodup_cons.mp nd
    have e : bQ cs (fun d => decide (d = c)) = 0 := bQ_zero.mpr fun d hd => decide_eq_false fun e => nd.1 (e ▸ hd)
    show 1 = (decide (c = c)).toNat + 2 * bQ cs (fun d => decide (d = c))
    rw [e]; simp
  | c :: cs, i + 1, nd, h => by
    have nd := List.nodup_cons.mp nd
    have h' : i < cs.length := by simpa using h
    have hne : ¬ c = cs[i] := fun e => nd.1 (e ▸ List.getElem_mem h')
    show 2 ^ (i + 1) = (decide (c = cs[i])).toNat + 2 * bQ cs (fun d => decide (d = cs[i]))
    rw [← pow_bQ nd.2 h', Nat.pow_succ]
    simp [hne, Nat.mul_comm]
theorem mulR_zero {n : Nat} (h : n ≤ 10000) : mulR (.val (.list [.int 0])) (.val (.int (n : Nat))) = some (.own (.list ((List.range n).map fun _ => .int 0))) := by
  have h2 : (n : Int) ≤ 10000 := by omega
  have h3 : (10000 : Int) < 2 ^ 63 := by decide
  have h5 : -(2 ^ 63) ≤ (0 : Int) := by decide
  rw [mulR_list, if_pos ⟨Int.le_trans h5 (Int.natCast_nonneg n), Int.lt_of_le_of_lt h2 h3, by rw [Int.toNat_natCast]; exact small_le (by simp; omega)⟩, Int.toNat_natCast]
  congr 3
  rw [List.map_const', List.length_range]
  induction n with
  | zero => rfl
  | succ n ih => rw [List.replicate_succ, List.replicate_succ, List.flatten_cons, ih (by omega) (by omega)]; rfl
end PL
namespace JS
open PySem PL
/-- the numbers in the midst: the row is gone through as far as k -/
def midD (cols : List Str) (ps : List (List Str)) (p : List Str) (k : Nat) : List D := (List.range cols.length).map fun i => .int ((bQ cols (nearAt cols (if i < k then ps ++ [p] else ps) i) : Nat) : Int)
theorem midD_set {cols : List Str} {ps : List (List Str)} {p : List Str} {k : Nat} (hk : k < cols.length) : (midD cols ps p k).set k (.int ((bQ cols (nearAt cols (ps ++ [p]) k) : Nat) : Int)) = midD cols ps p (k + 1) := by
  unfold midD
  refine List.ext_getElem (by simp) fun i h1 h2 => ?_
  rw [List.getElem_set]
  simp only [List.getElem_map, List.getElem_range]
  by_cases e : k = i
  · subst e
    rw [if_pos rfl, if_pos (by omega)]
  · rw [if_neg e]
    by_cases h : i < k
    · rw [if_pos h, if_pos (by omega)]
    · rw [if_neg h, if_neg (by omega)]
theorem midD_same {cols : List Str} {ps : List (List Str)} {p : List Str} {k : Nat} (hk : k < cols.length) (h : cols[k] ∉ p) : midD cols ps p k = midD cols ps p (k + 1) := by
  rw [← midD_set hk]
  unfold midD
  refine List.ext_getElem (by simp) fun i h1 h2 => ?_
  rw [List.getElem_set]
  simp only [List.getElem_map, List.getElem_range]
  by_cases e : k = i
  · subst e
    rw [if_pos rfl, if_neg (by omega)]
    congr 2
    refine bQ_inj.mpr fun c hc => ?_
    unfold nearAt
    rw [colQ_get hk, colQ_get hk, near_snoc]
    simp [h]
  · rw [if_neg e]
theorem midD_zero {cols : List Str} {ps : List (List Str)} {p q : List Str} : midD cols ps p 0 = midD cols ps q 0 := by
  unfold midD
  refine List.map_congr_left fun i _ => ?_
  rw [if_neg (by omega), if_neg (by omega)]
theorem midD_full {cols : List Str} {ps : List (List Str)} {p : List Str} : midD cols ps p cols.length = midD cols (ps ++ [p]) [] 0 := by
  unfold midD
  refine List.map_congr_left fun i hi => ?_
  rw [if_pos (List.mem_range.mp hi), if_neg (by omega)]
theorem midD_nil {cols : List Str} : (List.range cols.length).map (fun _ => PyData.int 0) = midD cols [] [] 0 := by
  unfold midD
  refine List.map_congr_left fun i hi => ?_
  rw [if_neg (by omega)]
  have e : bQ cols (nearAt cols [] i) = 0 := bQ_zero.mpr fun c hc => by
    unfold nearAt
    rw [colQ_get (List.mem_range.mp hi)]
    rfl
  rw [e]
  rfl
theorem m_near_bits {cols : List Str} {ps : List (List Str)} (hc : Cols cols) (hl : ps.length ≤ 10000) : M_near_bits [.val (.list (ps.map fun p => .int ((bQ cols (inB p) : Nat) : Int))), .val (.int (cols.length : Nat))] = retM (.own (.list ((List.range cols.length).map fun i => .int ((bQ cols (fun c => nearAt cols ps i c && !colQ cols (fun a => decide (c = a)) i) : Nat) : Int)))) := by
  have hcl := hc.le
  have nd := asc_nodup hc.asc
  refine ret_of_wp fun gs => ?_
  unfold M_near_bits g_near_bits
  simp only [bodyM_def, sSeq_def, sSet_def, List.replicate, List.cons_append, List.nil_append, xBin_def, xLst_def, aCons_def, aNil_def, xC_def, useM_ret, bindM_ret, frz_val, valsOf_cons, valsOf_nil, Option.map_some, Option.bind_some, xVar_def, look_val, look_suc, liftO_some]
  rw [if_pos (small_le (by simp))]
  simp only [liftO_some, useM_ret, frz_own, mulR_zero (n := cols.length) (by omega), bindM_ret, slotV_own, List.set]
  simp only [wp_bind, wp_calm, sFor_def]
  rw [iSeq_def]
  simp only [xVar_def, look_val, liftO_some, useM_ret, frz_val, walk_list, bindM_ret, wp_bind, wp_ret, if_true]
  refine wp_mono (wp_forL (all := ps) (e := fun p => .int ((bQ cols (inB p) : Nat) : Int)) (fun pre ρ g => g = gs ∧ ∃ s3 s4 s5, ρ = [.val (.list (ps.map fun p => .int ((bQ cols (inB p) : Nat) : Int))), .val (.int (cols.length : Nat)), .own (.list (midD cols pre [] 0)), s3, s4, s5]) (fun _ _ => False) (fun _ _ => False) (fun pre p post ρ g ea ⟨hg, s3, s4, s5, hρ⟩ => ?_) (pre := []) rfl ⟨rfl, .un, .un, .un, ?_⟩) fun o g h => ?_
  · subst hρ
    refine ⟨_, rfl, ?_⟩
    have hs : iRng rng1 (aCons (xVar 1) aNil) [.val (.list (ps.map fun p => .int ((bQ cols (inB p) : Nat) : Int))), .val (.int (cols.length : Nat)), .own (.list (midD cols pre [] 0)), .val (.int ((bQ cols (inB p) : Nat) : Int)), s4, s5] = retM (rngD 0 cols.length, false) := iRng_ret (rs := [.val (.int (cols.length : Nat))]) (by simp) (rng1_nat (by omega))
    simp only [List.set, hs, bindM_ret, if_true, rngD_map, wp_bind, sFor_def]
    refine wp_mono (wp_forL (all := List.range cols.length) (e := fun i => PyData.int (i : Nat)) (fun pre2 ρ g => g = gs ∧ ∃ s4 s5, ρ = [.val (.list (ps.map fun p => .int ((bQ cols (inB p) : Nat) : Int))), .val (.int (cols.length : Nat)), .own (.list (midD cols pre p pre2.length)), .val (.int ((bQ cols (inB p) : Nat) : Int)), s4, s5]) (fun _ _ => False) (fun _ _ => False) (fun pre2 k post2 ρ g2 ea2 ⟨hg2, s4, s5, hρ⟩ => ?_) (pre := []) rfl ⟨hg, s4, s5, ?_⟩) fun o g2 h => ?_
    · subst hρ hg2
      have hk := range_split ea2
      obtain ⟨hk1, hk⟩ := hk
      refine ⟨_, rfl, ?_⟩
      have e4 := bit_ne (b := bQ cols (inB p)) (i := k)
      rw [bQ_colQ, colQ_get hk] at e4
      simp only [List.set, sIf_def, tTru_def, xBin_def, xVar_def, xC_def, look_val, look_suc, look_own, liftO_some, useM_ret, frz_val, shr_nat, and1_nat, truR_val, truD_int, e4, bindM_ret]
      by_cases hin : cols[k] ∈ p
      · rw [if_pos (decide_eq_true hin)]
        have e5 : L2.atI (midD cols pre p k) (k : Int) = some (.int ((bQ cols (nearAt cols pre k) : Nat) : Int)) := by
          rw [atI_nat (by unfold midD; simpa using hk)]
          unfold midD
          simp
        have e6 : Builtin.bitOr ((bQ cols (nearAt cols pre k) : Nat) : Int) ((bQ cols (inB p) : Nat) : Int) = ((bQ cols (nearAt cols (pre ++ [p]) k) : Nat) : Int) := by
          rw [iOr, bQ_or]
          congr 1
          refine bQ_inj.mpr fun c hc => ?_
          unfold nearAt
          rw [colQ_get hk, colQ_get hk, near_snoc]
          simp [hin]
        have e7 : (midD cols pre p k).length = cols.length := by unfold midD; simp
        subst hk1
        simp only [sStore_def, xBin_def, xIx_def, xVar_def, look_val, look_suc, look_own, liftO_some, useM_ret, frz_val, frz_bor, ixM_bor, e5, Option.map_some, borR_int, e6, valOf_val, bindM_ret, hasSlot, List.getElem?_cons_succ, List.getElem?_cons_zero]
        rw [storeM_list (ds := midD cols pre p pre2.length) rfl (by rw [e7]; exact hk), wp_ret]
        simp only [List.set, midD_set hk]
        exact ⟨trivial, _, s5, by rw [List.length_append]; rfl⟩
      · rw [if_neg (by simpa using hin)]
        rw [sNil_def, wp_ret, hk1]
        exact ⟨rfl, _, s5, by rw [List.length_append, hk1, midD_same hk hin]; rfl⟩
    · rw [midD_zero (q := p)]
      rfl
    · cases o with
      | nx ρ2 =>
        rcases h with ⟨hg2, s4, s5, hρ⟩ | h
        · rw [List.length_range, midD_full] at hρ
          exact ⟨hg2, _, _, _, hρ⟩
        · exact h.elim
      | ret r => exact h.elim
      | brk ρ => exact h.elim
      | cnt ρ => exact h.elim
  · rw [midD_nil]
  · cases o with
    | nx ρ2 =>
      rcases h with ⟨hg2, s4, s5, s6, hρ⟩ | h
      · subst hρ hg2
        have hs : iRng enum1 (aCons (xVar 2) aNil) [.val (.list (ps.map fun p => .int ((bQ cols (inB p) : Nat) : Int))), .val (.int (cols.length : Nat)), .own (.list (midD cols ps [] 0)), s4, s5, s6] = retM (enD (midD cols ps [] 0), true) := iRng_ret (rs := [.bor (.list (midD cols ps [] 0))]) (by simp) rfl
        have hz : (enD (midD cols ps [] 0)).length ≤ sizeLine := by
          unfold midD
          rw [enD_range, List.length_map, List.length_range]
          exact small_le (by omega)
        simp only [sRet_def]
        rw [xLc_def hs hz]
        unfold midD
        rw [enD_range, compL_map (F := fun i => .int ((bQ cols (fun c => nearAt cols ps i c && !colQ cols (fun a => decide (c = a)) i) : Nat) : Int)) fun i hi => ?_]
        · simp
        · have hi := List.mem_range.mp hi
          have e1 : Builtin.bitAnd ((bQ cols (nearAt cols ps i) : Nat) : Int) (Builtin.bitNot ((2 ^ i : Nat) : Int)) = ((bQ cols (fun c => nearAt cols ps i c && !colQ cols (fun a => decide (c = a)) i) : Nat) : Int) := by
            rw [pow_bQ nd hi, iLess]
            congr 1
            refine bQ_inj.mpr fun c hc => ?_
            rw [colQ_get (q := fun a => decide (c = a)) hi]
          simp only [turnL, wipeS, List.set, gTp, gsCons, gsNil, gNm_def, List.length_cons, List.length_nil, if_true, Option.bind_some, liftO_some, bindM_ret, tYesM_def, xBin_def, xUn_def, xVar_def, xC_def, look_val, look_suc, useM_ret, frz_val, shl1 (i := i) (by omega), invR_int, bandR_int, e1, Nat.not_lt_zero, if_false, valOf_val]
      · exact h.elim
    | ret r => exact h.elim
    | brk ρ => exact h.elim
    | cnt ρ => exact h.elim
end JS
set_option Elab.async false
set_option linter.all false
set_option maxRecDepth 100000
set_option maxHeartbeats 4000000
namespace PL
open PySem
theorem wp_whileL {tc : Sl → M Bool} {tb : Sl → M Out} (J : Nat → Sl → GS → Prop) (Q : Sl → GS → Prop)
    (h : ∀ n ρ gs, J n ρ gs → wp (tc ρ) gs fun k g => if k = true then wp (tb ρ) g (fun o g2 => ∃ ρ2, o = .nx ρ2 ∧ ∃ m, m < n ∧ J m ρ2 g2) else Q ρ g) :
    ∀ (N n : Nat) (ρ : Sl) (gs : GS), n < N → J n ρ gs → wp (whileL tc tb N ρ) gs fun o g => ∃ ρ2, o = .nx ρ2 ∧ Q ρ2 g
  | 0, n, ρ, gs, hn, _ => absurd hn (Nat.not_lt_zero _)
  | N + 1, n, ρ, gs, hn, hj => by
    unfold whileL
    rw [wp_bind]
    refine wp_mono (h n ρ gs hj) fun k g hk => ?_
    cases k with
    | true =>
      rw [if_pos rfl] at hk
      rw [if_pos rfl, wp_bind]
      refine wp_mono hk fun o g2 ⟨ρ2, ho, m, hm, hj2⟩ => ?_
      subst ho
      exact wp_whileL J Q h N m ρ2 g2 (by omega) hj2
    | false =>
      rw [if_neg Bool.false_ne_true] at hk
      rw [if_neg Bool.false_ne_true, wp_ret]
      exact ⟨ρ, rfl, hk⟩
theorem filter_le {l : List Str} {p q : Str → Bool} (h : ∀ c ∈ l, q c = true → p c = true) : (l.filter q).length ≤ (l.filter p).length := by
  induction l with
  | nil => exact Nat.le_refl _
  | cons c l ih =>
    have ih := ih fun d hd => h d (List.mem_cons_of_mem _ hd)
    have hc := h c (List.mem_cons_self ..)
    cases hq : q c with
    | true => rw [List.filter_cons_of_pos hq, List.filter_cons_of_pos (hc hq), List.length_cons, List.length_cons]; omega
    | false =>
      rw [List.filter_cons_of_neg (by rw [hq]; exact Bool.false_ne_true)]
      exact Nat.le_trans ih ((List.sublist_cons_self ..).filter p).length_le
theorem filter_lt {l : List Str} {p q : Str → Bool} (h : ∀ c ∈ l, q c = true → p c = true) (h2 : ∃ c ∈ l, p c = true ∧ q c = false) : (l.filter q).length < (l.filter p).length := by
  induction l with
  | nil => obtain ⟨c, hc, _⟩ := h2; exact nomatch hc
  | cons c l ih =>
    have hc := h c (List.mem_cons_self ..)
    have hl : ∀ d ∈ l, q d = true → p d = true := fun d hd => h d (List.mem_cons_of_mem _ hd)
    have hle := filter_le hl
    obtain ⟨d, hd, h3, h4⟩ := h2
    rcases List.mem_cons.mp hd with e | hd
    · subst e
      rw [List.filter_cons_of_pos h3, List.filter_cons_of_neg (by rw [h4]; exact Bool.false_ne_true), List.length_cons]
      omega
    · have ih := ih hl ⟨d, hd, h3, h4⟩
      cases hq : q c with
      | true => rw [List.filter_cons_of_pos hq, List.filter_cons_of_pos (hc hq), List.length_cons, List.length_cons]; omega
      | false =>
        rw [List.filter_cons_of_neg (by rw [hq]; exact Bool.false_ne_true)]
        exact Nat.lt_of_lt_of_le ih ((List.sublist_cons_self ..).filter p).length_le
abbrev bitsD (cols : List Str) (ps : List (List Str)) : D := .list (ps.map fun p => .int ((bQ cols (inB p) : Nat) : Int))
abbrev bitD (cols : List Str) (q : Str → Bool) : D := .int ((bQ cols q : Nat) : Int)
theorem bQ_pos {cols : List Str} {q : Str → Bool} (h : bQ cols q ≠ 0) : ∃ c ∈ cols, q c = true := by
  refine Classical.byContradiction fun hn => h (bQ_zero.mpr fun c hc => ?_)
  cases hq : q c with
  | false => rfl
  | true => exact absurd ⟨c, hc, hq⟩ hn
end PL
set_option Elab.async false
set_option linter.all false
set_option maxRecDepth 100000
set_option maxHeartbeats 4000000
namespace PL
open PySem PyProof.Rows
theorem alike_strs : ∀ xs ys : List Str, PySem.W.alikeAll (xs.map PyData.str) (ys.map PyData.str) = true
  | [], _ => by simp [PySem.W.alikeAll]
  | _ :: _, [] => by simp [PySem.W.alikeAll]
  | x :: xs, y :: ys => by
    show PySem.W.alikeAll (.str x :: xs.map .str) (.str y :: ys.map .str) = true
    rw [PySem.W.alikeAll, alike_strs xs ys]
    simp [PySem.W.alike]
theorem dataLe_rows {a b : Str} {s t : List Str} (h : SLt a b) : PySem.W.dataLe false id (tS (a :: s)) (tS (b :: t)) = true := by
  show (!PySem.W.dataLt (.tuple (.str b :: t.map .str)) (.tuple (.str a :: s.map .str))) = true
  have hne : ¬ b = a := fun e => by
    subst e
    exact absurd h (List.lt_irrefl _)
  have hn : ltS b a = false := by
    cases hl : ltS b a with
    | false => rfl
    | true => exact absurd (SLt_trans h (ltS_iff.mp hl)) (List.lt_irrefl _)
  have e : PyData.eqv (.str b) (.str a) = false := by
    show (b == a) = false
    exact beq_eq_false_iff_ne.mpr hne
  rw [PySem.W.dataLt_tuple, PySem.W.dataLt_cons (by simp [PySem.W.alike]), e, if_neg Bool.false_ne_true, PySem.W.dataLt_str]
  have : decide (b.cps.toList < a.cps.toList) = false := hn
  simpa using this
theorem sortedR_rows {r : RV} {d : D} {ps : List (List Str)} (hr : rd r = some d) (hd : itemsD d = some (ps.map tS)) (h : ∀ p ∈ ps, OkS p ∧ p ≠ []) (hl : ps.length ≤ 10000) (hp : ps.Pairwise PP) : sortedR [r] = some (.own (.list (ps.map tS))) := by
  have hb : sortB (ps.map tS) = true := by
    unfold sortB alikeB
    simp only [Bool.and_eq_true, Bool.or_eq_true, List.all_eq_true]
    refine ⟨fun a ha b hb => ?_, .inl fun a ha => ?_, fun a ha => ?_⟩
    · obtain ⟨x, _, rfl⟩ := List.mem_map.mp ha
      obtain ⟨y, _, rfl⟩ := List.mem_map.mp hb
      show PySem.W.alike (.tuple (x.map .str)) (.tuple (y.map .str)) = true
      rw [PySem.W.alike, alike_strs]
    · obtain ⟨x, hx, rfl⟩ := List.mem_map.mp ha
      obtain ⟨c, s, rfl⟩ := List.exists_cons_of_ne_nil (h x hx).2
      rfl
    · obtain ⟨x, hx, rfl⟩ := List.mem_map.mp ha
      obtain ⟨h1, h2⟩ := lay_strs (h x hx).1
      refine ⟨h1, ?_⟩
      show decide (PyData.depthAll (x.map PyData.str) + 1 ≤ 60) = true
      rw [h2]
      rfl
  have hs : sortD (ps.map tS) = ps.map tS := by
    unfold sortD
    refine List.mergeSort_of_pairwise (List.pairwise_map.mpr (hp.imp fun {p q} ⟨⟨a, s, b, t, e1, e2, hl⟩, _⟩ => ?_))
    subst e1 e2
    exact dataLe_rows hl
  show ((rd r).bind fun d => (itemsD d).bind fun ds => if ds.length ≤ sizeLine ∧ sortB ds = true then some (RV.own (.list (sortD ds))) else none) = _
  rw [hr, Option.bind_some, hd, Option.bind_some, if_pos ⟨by rw [List.length_map]; exact small_le hl, hb⟩, hs]
theorem neR_nilL {r : RV} {xs : List Str} (hr : rd r = some (.list (xs.map PyData.str))) (h : OkS xs) : neR r (.val (.list [])) = some (.val (.bool (!decide (xs = [])))) := by
  have e : neD (.list (xs.map PyData.str)) (.list []) = some (!decide (xs = [])) := by
    unfold neD
    rw [if_pos ⟨shaped_lS h, rfl⟩]
    cases xs <;> rfl
  cases r <;> simp only [rd] at hr <;> cases hr <;> (show (neD _ _).map _ = _; rw [e]; rfl)
end PL
set_option Elab.async false
set_option linter.all false
set_option maxRecDepth 100000
set_option maxHeartbeats 4000000
/-! S9: equal plain data. -/
namespace PL
open PySem
theorem foldl_len {q : Nat} : ∀ (l : List Nat) (n : Nat), (∀ c ∈ l, c < 16 ^ 8) → l.foldl (fun n c => n + (Builtin.Str.reprChar q c).length) n ≤ n + 10 * l.length
  | [], n, _ => Nat.le_refl _
  | c :: l, n, h => by
    have h1 := StrLaws.reprChar_len q c (h c (List.mem_cons_self ..))
    have h2 := foldl_len (q := q) l (n + (Builtin.Str.reprChar q c).length) fun d hd => h d (List.mem_cons_of_mem _ hd)
    rw [List.foldl_cons, List.length_cons]
    omega
theorem shown_str {x : Str} (h : OkCol x) : (PyData.shown (.str x)).length ≤ 122 := by
  show (reprText x).length ≤ 122
  rw [← reprLen_eq, ← Array.foldl_toList]
  have hl := h.le
  have := foldl_len (q := reprQuote x) x.cps.toList 2 fun c hc => by
    have hs := h.all c hc
    have h2 : c < 1000 := by
      rcases hs with ⟨_, h⟩ | ⟨_, h⟩ <;> omega
    exact Nat.lt_of_lt_of_le h2 (by decide)
  omega
theorem piled_le {ts : List Str} {b : Nat} (h : ∀ t ∈ ts, t.length + 2 ≤ b) : piled ts ≤ b * ts.length := by
  induction ts with
  | nil => exact Nat.zero_le _
  | cons t ts ih =>
    rw [piled_cons, List.length_cons, Nat.mul_succ]
    have h1 := h t (List.mem_cons_self ..)
    have h2 := ih fun s hs => h s (List.mem_cons_of_mem _ hs)
    omega
theorem tupleText_le (ts : List Str) : (tupleText ts).length ≤ piled ts + 3 := by
  unfold tupleText
  rw [strLen_append, strLen_append]
  have e1 : ((("(" : String) : Str)).length = 1 := rfl
  have e3 : (((if ts.length == 1 then ",)" else ")" : String) : Str)).length ≤ 2 := by split <;> decide
  rw [e1]
  by_cases h : ts = []
  · subst h
    have e4 : (Str.join ", " ([] : List Str)).length = 0 := rfl
    rw [e4]
    omega
  · have := join_length_add ts h
    omega
theorem shownAll_map {ι : Type} {f : ι → D} : ∀ l : List ι, PyData.shownAll (l.map f) = l.map fun x => PyData.shown (f x)
  | [] => by rw [List.map_nil, PyData.shownAll]; rfl
  | x :: xs => by rw [List.map_cons, PyData.shownAll, shownAll_map xs]; rfl
theorem shown_tS {xs : List Str} (h : ∀ x ∈ xs, OkCol x) (hl : xs.length ≤ 24) : (PyData.shown (tS xs)).length ≤ 3000 := by
  rw [tS, PyData.shown, shownAll_map]
  have h1 := tupleText_le (xs.map fun x => PyData.shown (.str x))
  have h2 := piled_le (ts := xs.map fun x => PyData.shown (.str x)) (b := 124) fun t ht => by
    obtain ⟨x, hx, rfl⟩ := List.mem_map.mp ht
    have := shown_str (h x hx)
    omega
  rw [List.length_map] at h2
  omega
theorem shown_tT {ps : List (List Str)} (h : ∀ p ∈ ps, (∀ x ∈ p, OkCol x) ∧ p.length ≤ 24) (hl : ps.length ≤ 600) : (PyData.shown (tT ps)).length ≤ 2000000 := by
  rw [tT, PyData.shown, shownAll_map]
  have h1 := tupleText_le (ps.map fun x => PyData.shown (tS x))
  have h2 := piled_le (ts := ps.map fun x => PyData.shown (tS x)) (b := 3002) fun t ht => by
    obtain ⟨x, hx, rfl⟩ := List.mem_map.mp ht
    have := shown_tS (h x hx).1 (h x hx).2
    omega
  rw [List.length_map] at h2
  omega
theorem showable_strs : ∀ xs : List Str, PyData.showableAll (xs.map PyData.str) = true
  | [] => by rw [List.map_nil, PyData.showableAll]
  | x :: xs => by rw [List.map_cons, PyData.showableAll, PyData.showable, showable_strs xs]; rfl
theorem showable_rows : ∀ ps : List (List Str), PyData.showableAll (ps.map tS) = true
  | [] => by rw [List.map_nil, PyData.showableAll]
  | p :: ps => by rw [List.map_cons, PyData.showableAll, tS, PyData.showable, showable_strs, showable_rows ps]; rfl
/-! shown texts are texts -/
theorem char_lt (c : Char) : c.toNat < 0x110000 := by
  have h := c.valid
  rcases h with h | ⟨_, h⟩
  · exact Nat.lt_trans h (by decide)
  · exact h
theorem reprChar_lt {q c d : Nat} (hc : c < 0x110000) (h : d ∈ Builtin.Str.reprChar q c) : d < 0x110000 := by
  have hex : ∀ w, d ∈ List.replicate (w - ((Nat.toDigits 16 c).map Char.toNat).length) 48 ++ (Nat.toDigits 16 c).map Char.toNat → d < 0x110000 := fun w h => by
    rcases List.mem_append.mp h with h | h
    · rw [(List.mem_replicate.mp h).2]; decide
    · obtain ⟨a, _, rfl⟩ := List.mem_map.mp h
      exact char_lt a
  have two : ∀ a b, a < 0x110000 → b < 0x110000 → d ∈ [a, b] → d < 0x110000 := fun a b ha hb h => by
    rcases List.mem_cons.mp h with e | h
    · rw [e]; exact ha
    · rw [List.mem_singleton.mp h]; exact hb
  unfold Builtin.Str.reprChar at h
  simp only at h
  split at h
  · exact two _ _ (by decide) hc h
  split at h
  · exact two _ _ (by decide) (by decide) h
  split at h
  · exact two _ _ (by decide) (by decide) h
  split at h
  · exact two _ _ (by decide) (by decide) h
  split at h
  · rw [List.mem_singleton.mp h]; exact hc
  split at h
  · rcases List.mem_append.mp h with h | h
    · exact two _ _ (by decide) (by decide) h
    · exact hex _ h
  split at h
  · rcases List.mem_append.mp h with h | h
    · exact two _ _ (by decide) (by decide) h
    · exact hex _ h
  · rcases List.mem_append.mp h with h | h
    · exact two _ _ (by decide) (by decide) h
    · exact hex _ h
theorem strOk_iff {x : Str} : PyData.strOk x = true ↔ ∀ c ∈ x.cps.toList, c < 0x110000 := by
  unfold PyData.strOk
  rw [← Array.all_toList, List.all_eq_true]
  exact ⟨fun h c hc => by simpa using h c hc, fun h c hc => by simpa using h c hc⟩
theorem strOk_append {x y : Str} (hx : PyData.strOk x = true) (hy : PyData.strOk y = true) : PyData.strOk (x ++ y) = true := by
  rw [strOk_iff] at *
  intro c hc
  have e : (x ++ y).cps.toList = x.cps.toList ++ y.cps.toList := Array.toList_append
  rw [e] at hc
  rcases List.mem_append.mp hc with h | h
  · exact hx c h
  · exact hy c h
theorem mem_foldl {q d : Nat} : ∀ (l : List Nat) (acc : Array Nat), d ∈ (l.foldl (fun out c => out ++ (Builtin.Str.reprChar q c).toArray) acc).toList → d ∈ acc.toList ∨ ∃ c ∈ l, d ∈ Builtin.Str.reprChar q c
  | [], acc, h => .inl h
  | c :: l, acc, h => by
    rcases mem_foldl l _ h with h | ⟨e, he, h⟩
    · rw [Array.toList_append] at h
      rcases List.mem_append.mp h with h | h
      · exact .inl h
      · exact .inr ⟨c, List.mem_cons_self .., h⟩
    · exact .inr ⟨e, List.mem_cons_of_mem _ he, h⟩
theorem strOk_repr {x : Str} (h : PyData.strOk x = true) : PyData.strOk (reprText x) = true := by
  have hq : reprQuote x < 0x110000 := by unfold reprQuote; split <;> decide
  rw [strOk_iff] at *
  intro d hd
  unfold reprText at hd
  simp only [Array.toList_push] at hd
  rw [← Array.foldl_toList] at hd
  rcases List.mem_append.mp hd with hd | hd
  · rcases mem_foldl _ _ hd with hd | ⟨c, hc, hd⟩
    · rw [List.mem_singleton.mp hd]; exact hq
    · exact reprChar_lt (h c hc) hd
  · rw [List.mem_singleton.mp hd]; exact hq
theorem strOk_join : ∀ {ts : List Str}, (∀ t ∈ ts, PyData.strOk t = true) → PyData.strOk (Str.join ", " ts) = true
  | [], _ => by decide +kernel
  | [x], h => h x (List.mem_cons_self ..)
  | x :: y :: r, h => by
    show PyData.strOk (x ++ ", " ++ Str.join ", " (y :: r)) = true
    exact strOk_append (strOk_append (h x (List.mem_cons_self ..)) (by decide +kernel)) (strOk_join fun t ht => h t (List.mem_cons_of_mem _ ht))
theorem strOk_tuple {ts : List Str} (h : ∀ t ∈ ts, PyData.strOk t = true) : PyData.strOk (tupleText ts) = true := by
  unfold tupleText
  refine strOk_append (strOk_append (by decide +kernel) (strOk_join h)) ?_
  split <;> decide +kernel
theorem strOk_tT {ps : List (List Str)} (h : ∀ p ∈ ps, ∀ x ∈ p, OkCol x) : PyData.strOk (PyData.shown (tT ps)) = true := by
  rw [tT, PyData.shown, shownAll_map]
  refine strOk_tuple fun t ht => ?_
  obtain ⟨p, hp, rfl⟩ := List.mem_map.mp ht
  rw [tS, PyData.shown, shownAll_map]
  refine strOk_tuple fun t ht => ?_
  obtain ⟨x, hx, rfl⟩ := List.mem_map.mp ht
  rw [PyData.shown]
  exact strOk_repr (h p hp x hx).ok
theorem reprR_tT {ps : List (List Str)} (h : ∀ p ∈ ps, (∀ x ∈ p, OkCol x) ∧ p.length ≤ 24) (hl : ps.length ≤ 600) : reprR [.val (tT ps)] = some (.val (.str (PyData.shown (tT ps)))) := by
  obtain ⟨h1, h2⟩ := lay_rows (ps := ps) fun p hp x hx => ((h p hp).1 x hx).ok
  show (if PyData.canLay0 (tT ps) = true ∧ PyData.showable (tT ps) = true ∧ PyData.depth (tT ps) ≤ 60 ∧ (PyData.shown (tT ps)).length ≤ sizeLine then _ else _) = _
  rw [if_pos]
  refine ⟨h1, ?_, ?_, Nat.le_trans (shown_tT h hl) (by decide)⟩
  · rw [tT, PyData.showable, showable_rows]
  · show PyData.depthAll (ps.map tS) + 1 ≤ 60
    omega
end PL
namespace JS
open PySem PL
theorem plain_str {n : Nat} {x : Str} : m__law_plain (n + 1) [.val (.str x)] = retM (.val (.bool true)) := by
  show bodyM 1 (g__law_plain (fun _ => m__law_plain n) n) [.val (.str x)] = _
  unfold g__law_plain
  simp [isT, tyN, isNone]
theorem plain_tS {n : Nat} {xs : List Str} (hl : xs.length ≤ 10000) : m__law_plain (n + 2) [.val (tS xs)] = retM (.val (.bool true)) := by
  show bodyM 1 (g__law_plain (fun _ => m__law_plain (n + 1)) (n + 1)) [.val (tS xs)] = _
  unfold g__law_plain
  have e : xLc (iSeq (xVar 0)) [1] (gNm 1) (tNotM (tTru (xFn 1 (m__law_plain (n + 1)) (aCons (xVar 1) aNil) []))) (xVar 1) [.val (tS xs), .un] = retM (.own (.list [])) := by
    rw [xLc_def (ds := xs.map PyData.str) (b := false) (by simp) (by rw [List.length_map]; exact small_le hl)]
    rw [compL_filter (p := fun _ => false) (F := PyData.str) fun x hx => ?_]
    · rw [List.filter_eq_nil_iff.mpr fun _ _ => Bool.false_ne_true]; simp
    · simp [turnL, wipeS, plain_str]
  have e2 : eqR (.val (.list [])) (.val (.list [])) = some (.val (.bool true)) := rfl
  simp only [bodyM_def, sSeq_def, sIf_def, tTru_def, sRet_def, xBin_def, List.replicate, List.cons_append, List.nil_append, e]
  simp [isT, tyN, e2]
theorem plain_tT {n : Nat} {ps : List (List Str)} (hl : ps.length ≤ 10000) (h : ∀ p ∈ ps, p.length ≤ 10000) : m__law_plain (n + 3) [.val (tT ps)] = retM (.val (.bool true)) := by
  show bodyM 1 (g__law_plain (fun _ => m__law_plain (n + 2)) (n + 2)) [.val (tT ps)] = _
  unfold g__law_plain
  have e : xLc (iSeq (xVar 0)) [1] (gNm 1) (tNotM (tTru (xFn 1 (m__law_plain (n + 2)) (aCons (xVar 1) aNil) []))) (xVar 1) [.val (tT ps), .un] = retM (.own (.list [])) := by
    rw [xLc_def (ds := ps.map tS) (b := false) (by simp) (by rw [List.length_map]; exact small_le hl)]
    rw [compL_filter (p := fun _ => false) (F := tS) fun p hp => ?_]
    · rw [List.filter_eq_nil_iff.mpr fun _ _ => Bool.false_ne_true]; simp
    · simp [turnL, wipeS, plain_tS (h p hp)]
  have e2 : eqR (.val (.list [])) (.val (.list [])) = some (.val (.bool true)) := rfl
  simp only [bodyM_def, sSeq_def, sIf_def, tTru_def, sRet_def, xBin_def, List.replicate, List.cons_append, List.nil_append, e]
  simp [isT, tyN, e2]
theorem eqR_same {x : Str} (h : PyData.strOk x = true) : eqR (.val (.str x)) (.val (.str x)) = some (.val (.bool true)) := by
  rw [eqR_str h h]
  simp
theorem m_law_equal {ps : List (List Str)} (h : ∀ p ∈ ps, (∀ x ∈ p, OkCol x) ∧ p.length ≤ 24) (hl : ps.length ≤ 600) : M__law_equal [.val (tT ps), .val (tT ps)] = retM (.val (.bool true)) := by
  have e1 : M__law_plain [.val (tT ps)] = retM (.val (.bool true)) := plain_tT (n := 97) (by omega) fun p hp => by have := (h p hp).2; omega
  have e2 := reprR_tT h hl
  have e3 := eqR_same (strOk_tT fun p hp => (h p hp).1)
  unfold M__law_equal g__law_equal
  simp [e1, e2, e3]
end JS
set_option Elab.async false
set_option linter.all false
set_option maxRecDepth 100000
set_option maxHeartbeats 4000000
namespace PL
open PySem
theorem addR_tuples {A B : List D} (h : A.length + B.length ≤ sizeLine) : addR (.val (.tuple A)) (.val (.tuple B)) = some (.val (.tuple (A ++ B))) := by
  show (if A.length + B.length ≤ sizeLine then _ else _) = _
  rw [if_pos h]
end PL
set_option Elab.async false
set_option linter.all false
set_option maxRecDepth 100000
set_option maxHeartbeats 4000000
/-! Q20: rows hung. -/
namespace JS
open PySem PL
theorem wp_hung {n many : Nat} {gs : GS} {cols : List Str} (hc : Cols cols) (hm : 1 ≤ many) (hm2 : many ≤ 22) (G : Good n gs) (hn : n + 700 < lim) :
    wp (M__law_hung [.obj 0, .val (tS cols), .val (.int (many : Nat))]) gs fun r g => ∃ ps : List (List Str), r = .own (.list (ps.map tS)) ∧ Cover cols ps ∧ ps.length ≤ many ∧ Good (n + 700) g := by
  have hcl := hc.le
  unfold M__law_hung g__law_hung
  simp
  refine wp_mono (wp_shufS G (Nat.lt_of_le_of_lt (by omega) hn) (by omega)) fun r g ⟨ys, hr, hp, G1⟩ => ?_
  subst hr
  simp
  have hyl : ys.length = cols.length := hp.length_eq
  have hn1 : n + cols.length < lim := Nat.lt_of_le_of_lt (by omega) hn
  refine wp_mono (wp_next (many := 3) G1 hn1 (by omega) (lim_of (by omega))) fun r g2 ⟨d, hd, hr, G2⟩ => ?_
  subst hr
  simp
  have e3 : (1 : Int) + (d : Int) = ((1 + d : Nat) : Int) := by omega
  have oky : OkS ys := fun x hx => hc.okS x (hp.mem_iff.mp hx)
  have hcn := hc.ne
  have H0 := hung_start (k := 1 + d) hp (asc_nodup hc.asc) (by omega) (by omega)
  rw [e3, slO_own, slO_own, cutD_take, cutD_drop, ← List.map_take, ← List.map_drop]
  simp only [wp_liftS, frz_own]
  rw [sortedR_strs (xs := ys.take (1 + d)) (d := .list _) rfl rfl (fun x hx => oky x (List.mem_of_mem_take hx)) (by rw [List.length_take]; omega)]
  simp only [wp_liftS, frz_own, tupleR_list]
  have hv : ((valsOf [frzV (RV.val (tS (sortS (ys.take (1 + d)))))]).bind fun ds => if ds.length ≤ sizeLine then some (RV.own (PyData.list ds)) else none) = some (.own (.list ([sortS (ys.take (1 + d))].map tS))) := by
    simp only [frz_val, valsOf_cons, valsOf_nil, Option.map_some, Option.bind_some]
    rw [if_pos (small_le (by simp))]
    rfl
  have hr1 : rng1 [.val (.int ((many : Int) - 1))] = some (rngD 0 (many - 1), false) := by
    have e : ((many : Int) - 1) = ((many - 1 : Nat) : Int) := by omega
    rw [e]
    exact rng1_nat (by omega)
  rw [hv, hr1]
  simp only [wp_liftS, slotV_own, slotV_val, if_true]
  rw [rngD_map]
  refine wp_mono (wp_forL (all := List.range (many - 1)) (e := fun i => PyData.int (i : Nat)) (fun pre ρ g => ∃ left ps s4 s6 s7 s8, ρ = [.obj 0, .val (tS cols), .val (.int (many : Nat)), .val (.list (left.map PyData.str)), s4, .own (.list (ps.map tS)), s6, s7, s8] ∧ Hung cols left ps ∧ left.length ≤ 24 ∧ ps.length ≤ 1 + pre.length ∧ Good (n + 25 + 30 * pre.length) g) (fun _ _ => False) (fun _ _ => False) (fun pre i post ρ g ea ⟨left, ps, s4, s6, s7, s8, hρ, H, hll, hpl, G3⟩ => ?_) (pre := []) rfl ⟨_, [sortS (ys.take (1 + d))], _, .un, .un, .un, rfl, H0, by rw [List.length_drop]; omega, Nat.le_refl _, G2.mono (by simp; omega)⟩) fun o g h => ?_
  · subst hρ
    obtain ⟨hpi, hi⟩ := range_split ea
    refine ⟨[.obj 0, .val (tS cols), .val (.int (many : Nat)), .val (.list (left.map PyData.str)), s4, .own (.list (ps.map tS)), .val (.int (i : Nat)), s7, s8], rfl, ?_⟩
    refine wp_mono (hung_turn hc H (by omega) hll G3 (Nat.lt_of_le_of_lt (by omega) hn)) fun o g2 ⟨left2, ps2, t4, t7, t8, ho, H2, hll2, hpl2, G4⟩ => ?_
    subst ho
    refine ⟨left2, ps2, t4, _, t7, t8, rfl, H2, hll2, ?_, G4.mono ?_⟩
    · rw [List.length_append, List.length_singleton]; omega
    · rw [List.length_append, List.length_singleton]; omega
  · cases o with
    | nx ρ2 =>
      rcases h with ⟨left, ps, s4, s6, s7, s8, hρ, H, hll, hpl, G3⟩ | h
      · subst hρ
        rw [List.length_range] at hpl G3
        cases ps with
        | nil => exact absurd H.ne (by simp)
        | cons p0 ps =>
          have hfin := H.finish (by rw [List.length_cons] at hpl; omega)
          have hm0 : p0 ∈ p0 :: ps := List.mem_cons_self ..
          have ok0 : OkS (p0 ++ left) := fun x hx => by
            rcases List.mem_append.mp hx with h | h
            · exact (H.some p0 hm0).okS hc x h
            · exact hc.okS x (H.sub x h)
          have hp0 := (H.some p0 hm0).le
          have e0 : L2.atI (tS p0 :: ps.map tS) (0 : Int) = some (tS p0) := atI_nat (xs := tS p0 :: ps.map tS) (i := 0) (by simp)
          have e1 : addR (.val (tS p0)) (.val (tS left)) = some (.val (tS (p0 ++ left))) := by
            rw [addR_tuples (by rw [List.length_map, List.length_map]; exact small_le (n := p0.length + _) (by omega)), ← List.map_append]
          have e2 := sortedR_strs (xs := p0 ++ left) (r := .val (tS (p0 ++ left))) (d := tS (p0 ++ left)) rfl rfl ok0 (by rw [List.length_append]; omega)
          simp only [look_suc, look_own, look_val, liftO_some, useM_ret, frz_bor, frz_val, frz_own, List.map_cons, ixM_bor, e0, Option.map_some, bindM_ret, tupleR_list, e1, e2, valOf_val, hasSlot, List.getElem?_cons_succ, List.getElem?_cons_zero]
          have e3 := storeM_list (ρ := [.obj 0, .val (tS cols), .val (.int (many : Nat)), .val (.list (left.map PyData.str)), s4, .own (.list (tS p0 :: ps.map tS)), s6, s7, s8]) (j := 5) (k := 0) (ds := tS p0 :: ps.map tS) (v := tS (sortS (p0 ++ left))) rfl (by simp)
          have e4 : ((0 : Nat) : Int) = 0 := rfl
          rw [e4] at e3
          simp only [e3, bindM_ret, List.set, look_suc, look_own, liftO_some, asRet_bor, wp_ret]
          exact ⟨sortS (p0 ++ left) :: ps, rfl, hfin, by rw [List.length_cons] at hpl ⊢; omega, G3.mono (by omega)⟩
      · exact h.elim
    | ret r => exact h.elim
    | brk ρ => exact h.elim
    | cnt ρ => exact h.elim
end JS
set_option Elab.async false
set_option linter.all false
set_option maxRecDepth 100000
set_option maxHeartbeats 4000000
/-! Q25: the cover drawn. -/
namespace PL
open PySem
theorem slO_bor {ds : List D} {lo hi : Option Int} : slO (.bor (.list ds)) lo hi = some (.own (.list (cutD ds lo hi))) := rfl
end PL
namespace JS
open PySem PL
theorem wp_rows {n a b : Nat} {gs : GS} {cols : List Str} {ge : Sl → M RV} {s2 s3 s4 s5 : Slot} (hc : Cols cols) (hb : b ≤ 24) (hn : n + 24 * 26 < lim)
    (hge : wp (ge [.obj 0, .val (tS cols), s2, s3, s4, s5]) gs fun r g => ∃ k : Nat, a ≤ k ∧ k ≤ b ∧ r = .val (.int (k : Nat)) ∧ Good n g) :
    wp (xLc (iRng rng1 (aCons ge aNil)) [5] (gNm 5) tYesM (xFn 4 M__law_some (aCons (xVar 0) (aCons (xVar 1) (aCons (xC (.int 1)) (aCons (xC (.int 3)) aNil)))) []) [.obj 0, .val (tS cols), s2, s3, s4, s5]) gs
      fun r g => ∃ ps : List (List Str), r = .own (.list (ps.map tS)) ∧ a ≤ ps.length ∧ ps.length ≤ b ∧ (∀ p ∈ ps, SomeOf cols p) ∧ (∀ p ∈ ps, p ≠ []) ∧ Good (n + 25 * 24) g := by
  unfold xLc
  simp only [iRng_def, aCons_def, aNil_def, wp_bind, wp_use, wp_ret]
  refine wp_mono hge fun r g ⟨k, hk1, hk2, hr, G⟩ => ?_
  subst hr
  simp only [frz_val, bindM_ret, wp_ret, rng1_nat (n := k) (by omega), wp_liftS]
  rw [if_pos (by rw [rngD_map, List.length_map, List.length_range]; exact small_le (by omega)), wp_bind]
  refine wp_mono (wp_somes (k := k) hc G (by omega) hn fun i => ⟨_, rfl, ?_⟩) fun ys g2 ⟨ps, hy, hl, h1, h2, G2⟩ => ?_
  · simp only [wipeS, List.set, xFn_def, aCons_def, aNil_def, xVar_def, xC_def, look_obj, look_val, look_suc, liftO_some, useM_ret, frz_obj, frz_val, bindM_ret, callO3]
  · subst hy
    rw [wp_ret]
    exact ⟨ps, rfl, by omega, by omega, h1, h2, G2.mono (by omega)⟩
theorem wp_hung_call {n : Nat} {gs : GS} {cols : List Str} (hc : Cols cols) (G : Good n gs) (hn : n + 800 < lim) (many : Nat) (hm : 1 ≤ many) (hm2 : many ≤ 22) :
    wp (callM 3 M__law_hung [.obj 0, .val (tS cols), .val (.int (many : Nat))] []) gs fun r g => ∃ ps : List (List Str), r = .own (.list (ps.map tS)) ∧ Cover cols ps ∧ ps.length ≤ many ∧ Good (n + 700) g := by
  rw [callO2]
  exact wp_hung hc hm hm2 G (Nat.lt_of_le_of_lt (by omega) hn)
theorem wp_cover {n : Nat} {gs : GS} {cols : List Str} (hc : Cols cols) (G : Good n gs) (hn : n + 1500 < lim) :
    wp (M__law_cover [.obj 0, .val (tS cols), .val (.int 6)]) gs fun r g => ∃ qs, r = .val (tT qs) ∧ Cover cols qs ∧ Good (n + 1500) g := by
  have hcl := hc.le
  have lt : ∀ k, k ≤ 1500 → n + k < lim := fun k hk => Nat.lt_of_le_of_lt (by omega) hn
  unfold M__law_cover g__law_cover
  simp only [bodyM_def, List.replicate, List.cons_append, List.nil_append, sSeq_def, sSetF_def, sSet_def, xFn_def, aCons_def, aNil_def, xVar_def, xC_def, look_obj, look_val, look_suc, liftO_some, useM_ret, frz_obj, frz_val, bindM_ret, callO1, wp_bind, wp_use, wp_calm]
  refine wp_mono (wp_next (many := 4) G (lt 0 (by omega)) (by omega) (lim_of (by omega))) fun r g ⟨kind, hk, hr, G1⟩ => ?_
  subst hr
  simp only [frz_val, slotV_val, wp_liftS, wp_ret, List.set, sIf_def, tBin_def, xVar_def, look_val, look_suc, liftO_some, useM_ret, xC_def, eqR_int, Option.bind_some, isB_bool, bindM_ret, wp_bind, wp_use]
  by_cases h0 : kind = 0
  · subst h0
    rw [if_pos (by decide)]
    simp only [sRet_def, xCall_def, aCons_def, aNil_def, xFn_def, xVar_def, xC_def, xBin_def, look_obj, look_val, look_suc, liftO_some, useM_ret, frz_obj, frz_val, bindM_ret, callO1, wp_bind, wp_use, wp_ret]
    refine wp_mono (wp_next (many := 6) G1 (lt 1 (by omega)) (by omega) (lim_of (by omega))) fun r g2 ⟨d, hd, hr, G2⟩ => ?_
    subst hr
    have e1 : (1 : Int) + ((d : Nat) : Int) = ((1 + d : Nat) : Int) := by omega
    simp only [frz_val, addR_int, e1, wp_liftS]
    refine wp_mono (wp_hung_call hc G2 (by have := lt 802 (by omega); omega) (1 + d) (by omega) (by omega)) fun r g3 ⟨ps, hr, C, hpl, G3⟩ => ?_
    subst hr
    simp only [frz_own]
    have hps := C.le
    have h3 := wp_shuffled (d := .list (ps.map tS)) (ds := ps.map tS) (.inl rfl) G3 (by rw [List.length_map]; exact Nat.lt_of_le_of_lt (by omega) hn) (by rw [List.length_map]; omega)
    refine wp_mono h3 fun r g4 ⟨ys, hr, hp, G4⟩ => ?_
    subst hr
    obtain ⟨qs, rfl, hp2⟩ := perm_rows hp
    simp only [frz_own, tupleR_list, wp_liftS, asRet_val, wp_ret]
    exact ⟨qs, rfl, C.of_perm hp2, G4.mono (by rw [List.length_map]; omega)⟩
  · rw [if_neg (by simp; omega)]
    simp only [sNil_def, wp_ret, sSeq_def, sIf_def, tAndM_def, tBin_def, xVar_def, xC_def, xCall_def, aCons_def, aNil_def, look_obj, look_val, look_suc, liftO_some, useM_ret, frz_obj, frz_val, bindM_ret, eqR_int, Option.bind_some, isB_bool, lenR_tuple, gtR_int, List.length_map]
    by_cases h1 : kind = 1 ∧ 2 < cols.length
    · obtain ⟨h1, h2⟩ := h1
      subst h1
      have e2 : decide (((cols.length : Nat) : Int) > 2) = true := by simp; omega
      have e1 : (((1 : Nat) : Int) == 1) = true := by decide
      simp only [e1, e2, if_true, bindM_ret, liftO_some, bindM_ret, if_true, sSeq_def, sSet_def, xFn_def, aCons_def, aNil_def, xVar_def, look_obj, look_val, look_suc, useM_ret, frz_obj, frz_val, callO1, wp_bind]
      refine wp_mono (wp_round hc (by omega) G1 (by have := lt 100 (by omega); omega)) fun r g2 ⟨ps, hr, hl1, hl8, hp, hf, G2⟩ => ?_
      subst hr
      simp only [slotV_own, wp_liftS, wp_ret, List.set, sExt, ownList, List.getElem?_cons_succ, List.getElem?_cons_zero, liftO_some, bindM_ret, wp_bind, wp_use]
      refine wp_mono (wp_rows (n := n + 1 + 27 + 1) (a := 0) (b := 2) hc (by omega) (by have := lt 700 (by omega); omega) ?_) fun r g3 ⟨qs, hr, _, hql, hqp, hqf, G3⟩ => ?_
      · simp only [xFn_def, aCons_def, aNil_def, xVar_def, xC_def, look_obj, look_suc, liftO_some, useM_ret, frz_obj, frz_val, bindM_ret, callO1]
        refine wp_mono (wp_next (many := 2) G2 (by have := lt 100 (by omega); omega) (by omega) (lim_of (by omega))) fun r g ⟨d, hd, hr, G3⟩ => ⟨d, by omega, by omega, hr, G3⟩
      · subst hr
        simp only [frz_own, listOfR_val, wp_liftS, List.length_map]
        rw [if_pos (small_le (by omega)), wp_ret]
        have hall : (ps.map tS ++ qs.map tS) = (ps ++ qs).map tS := (List.map_append ..).symm
        simp only [hall, List.set, sRet_def, xFn_def, aCons_def, aNil_def, xVar_def, xC_def, xSl_def, pNone_def, pSome_def, xCall_def, look_obj, look_val, look_suc, look_own, liftO_some, useM_ret, frz_obj, frz_val, frz_bor, bindM_ret, maxR_int, intOfR_val, Option.map_some, slO_bor, frz_own]
        have e6 : (if (3 : Int) > 6 then (3 : Int) else 6) = ((6 : Nat) : Int) := by decide
        rw [e6, cutD_take, ← List.map_take]
        simp only [callO2, wp_bind]
        have htl : ((ps ++ qs).take 6).length = min 6 (ps.length + qs.length) := by rw [List.length_take, List.length_append]
        have hmem : ∀ p ∈ (ps ++ qs).take 6, p ∈ ps ++ qs := fun p h => List.mem_of_mem_take h
        refine wp_mono (wp_covering (n := n + 1 + 27 + 1 + 25 * 24) hc G3 (by have := lt 700 (by omega); omega) (by omega) (by omega) (fun p h => ?_) (fun p h => ?_)) fun r g4 ⟨rs, hr, C, G4⟩ => ?_
        · rcases List.mem_append.mp (hmem p h) with h | h
          · exact hp p h
          · exact hqp p h
        · rcases List.mem_append.mp (hmem p h) with h | h
          · exact hf p h
          · exact hqf p h
        · subst hr
          simp only [asRet_val, wp_ret]
          exact ⟨rs, rfl, C, G4.mono (by omega)⟩
    · have e3 : (((kind : Nat) : Int) == 1) = true → decide (((cols.length : Nat) : Int) > 2) = false := fun h => by
        have hk1 : kind = 1 := by
          have := beq_iff_eq.mp h
          omega
        have : ¬ 2 < cols.length := fun h => h1 ⟨hk1, h⟩
        simp
        omega
      have fin : wp (xFn 3 M__law_covering (aCons (xVar 0) (aCons (xVar 1) (aCons (xLc (iRng rng1 (aCons (xBin addR (xC (.int 1)) (xFn 2 M__law_next (aCons (xVar 0) (aCons (xBin subR (xVar 2) (xC (.int 1))) aNil)) [])) aNil)) [5] (gNm 5) tYesM (xFn 4 M__law_some (aCons (xVar 0) (aCons (xVar 1) (aCons (xC (.int 1)) (aCons (xC (.int 3)) aNil)))) [])) aNil))) [] [Slot.obj 0, .val (tS cols), .val (.int 6), .val (.int (kind : Nat)), .un, .un]) g fun r g => ∃ qs, r = .val (tT qs) ∧ Cover cols qs ∧ Good (n + 1500) g := by
        simp only [xFn_def, aCons_def, aNil_def, xVar_def, look_obj, look_val, look_suc, liftO_some, useM_ret, frz_obj, frz_val, bindM_ret, wp_bind, wp_use]
        refine wp_mono (wp_rows (n := n + 1 + 1) (a := 1) (b := 5) hc (by omega) (by have := lt 700 (by omega); omega) ?_) fun r g3 ⟨qs, hr, hl1, hql, hqp, hqf, G3⟩ => ?_
        · simp only [xBin_def, xFn_def, aCons_def, aNil_def, xVar_def, xC_def, look_obj, look_val, look_suc, liftO_some, useM_ret, frz_obj, frz_val, bindM_ret, subR_int, callO1, wp_use]
          refine wp_mono (wp_next (many := 5) G1 (by have := lt 100 (by omega); omega) (by omega) (lim_of (by omega))) fun r g ⟨d, hd, hr, G3⟩ => ?_
          subst hr
          have e1 : (1 : Int) + ((d : Nat) : Int) = ((1 + d : Nat) : Int) := by omega
          simp only [frz_val, addR_int, e1, wp_liftS]
          exact ⟨1 + d, by omega, by omega, rfl, G3⟩
        · subst hr
          simp only [frz_own, wp_ret, callO2]
          refine wp_mono (wp_covering (n := n + 1 + 1 + 25 * 24) hc G3 (by have := lt 700 (by omega); omega) (by omega) (by omega) hqp hqf) fun r g4 ⟨rs, hr, C, G4⟩ => ?_
          exact ⟨rs, hr, C, G4.mono (by omega)⟩
      cases hk1 : (((kind : Nat) : Int) == 1) with
      | false =>
        simp only [Bool.false_eq_true, if_false, bindM_ret, sNil_def, sRet_def, wp_bind]
        refine wp_mono fin fun r g4 ⟨rs, hr, C, G4⟩ => ?_
        subst hr
        simp only [asRet_val, wp_ret]
        exact ⟨rs, rfl, C, G4⟩
      | true =>
        simp only [e3 hk1, if_true, Bool.false_eq_true, if_false, bindM_ret, sNil_def, sRet_def, wp_bind]
        refine wp_mono fin fun r g4 ⟨rs, hr, C, G4⟩ => ?_
        subst hr
        simp only [asRet_val, wp_ret]
        exact ⟨rs, rfl, C, G4⟩
end JS
set_option Elab.async false
set_option linter.all false
set_option maxRecDepth 100000
set_option maxHeartbeats 4000000
/-! Q26: signs and names. -/
namespace PL
open PySem
abbrev sg : Str := (("abcdefghijklmnopqrstuvwxyz0123456789" : String) : Str)
theorem sg_list : sg.cps.toList = [97, 98, 99, 100, 101, 102, 103, 104, 105, 106, 107, 108, 109, 110, 111, 112, 113, 114, 115, 116, 117, 118, 119, 120, 121, 122, 48, 49, 50, 51, 52, 53, 54, 55, 56, 57] := by decide +kernel
theorem sg_sig {c : Nat} (h : c ∈ sg.cps.toList) : isSig c := by
  rw [sg_list] at h
  have : ∀ c ∈ [97, 98, 99, 100, 101, 102, 103, 104, 105, 106, 107, 108, 109, 110, 111, 112, 113, 114, 115, 116, 117, 118, 119, 120, 121, 122, 48, 49, 50, 51, 52, 53, 54, 55, 56, 57], (97 ≤ c ∧ c ≤ 122) ∨ (48 ≤ c ∧ c ≤ 57) := by decide
  exact this c h
theorem sg_let {c : Nat} (h : c ∈ sg.cps.toList.take 26) : isLet c := by
  rw [sg_list] at h
  have : ∀ c ∈ [97, 98, 99, 100, 101, 102, 103, 104, 105, 106, 107, 108, 109, 110, 111, 112, 113, 114, 115, 116, 117, 118, 119, 120, 121, 122, 48, 49, 50, 51, 52, 53, 54, 55, 56, 57].take 26, 97 ≤ c ∧ c ≤ 122 := by decide
  exact this c h
theorem app_list (x y : Str) : (x ++ y).cps.toList = x.cps.toList ++ y.cps.toList := Array.toList_append
theorem OkCol.one {c : Nat} (h : isLet c) : OkCol ⟨#[c]⟩ where
  ne := by simp
  le := by simp
  hd := fun d hd => by
    have : c = d := by simpa using hd
    rw [← this]; exact h
  all := fun d hd => by
    have : d = c := by simpa using hd
    rw [this]; exact .inl h
theorem OkCol.snoc {x y : Str} (h : OkCol x) (hy : ∀ c ∈ y.cps.toList, isSig c) (hl : x.cps.toList.length + y.cps.toList.length ≤ 12) : OkCol (x ++ y) where
  ne := by
    rw [app_list]
    intro e
    exact h.ne (List.append_eq_nil_iff.mp e).1
  le := by rw [app_list, List.length_append]; exact hl
  hd := fun c hc => by
    rw [app_list] at hc
    obtain ⟨a, l, e⟩ := List.exists_cons_of_ne_nil h.ne
    rw [e] at hc
    exact h.hd c (by rw [e]; exact hc)
  all := fun c hc => by
    rw [app_list] at hc
    rcases List.mem_append.mp hc with hc | hc
    · exact h.all c hc
    · exact hy c hc
/-- the names x0, x1, .. -/
def xName (i : Nat) : Str := (("x" : String) : Str) ++ ((toString ((i : Nat) : Int) : String) : Str)
def okB (x : Str) : Bool := (match x.cps.toList with
  | [] => false
  | c :: _ => decide (97 ≤ c ∧ c ≤ 122)) && decide (x.cps.toList.length ≤ 12) && x.cps.toList.all fun c => decide ((97 ≤ c ∧ c ≤ 122) ∨ (48 ≤ c ∧ c ≤ 57))
theorem okB_ok {x : Str} (h : okB x = true) : OkCol x := by
  unfold okB at h
  rw [Bool.and_eq_true, Bool.and_eq_true, List.all_eq_true] at h
  obtain ⟨⟨h1, h2⟩, h3⟩ := h
  have h3 : ∀ c ∈ x.cps.toList, isSig c := fun c hc => of_decide_eq_true (p := (97 ≤ c ∧ c ≤ 122) ∨ (48 ≤ c ∧ c ≤ 57)) (h3 c hc)
  cases hx : x.cps.toList with
  | nil => rw [hx] at h1; exact nomatch h1
  | cons c l =>
    rw [hx] at h1
    have h1 : 97 ≤ c ∧ c ≤ 122 := of_decide_eq_true h1
    refine ⟨by rw [hx]; simp, of_decide_eq_true h2, fun d hd => ?_, h3⟩
    rw [hx] at hd
    have : c = d := by simpa using hd
    rw [← this]; exact h1
theorem xName_ok {i : Nat} (h : i < 90) : OkCol (xName i) := by
  have key : (List.range 90).all (fun i => okB (xName i)) = true := by decide +kernel
  exact okB_ok (List.all_eq_true.mp key i (List.mem_range.mpr h))
/-! the table of names -/
abbrev kvK (ks : List Str) : List (D × D) := ks.map fun k => (.str k, .bool true)
def putK (ks : List Str) (k : Str) : List Str := if k ∈ ks then ks else ks ++ [k]
theorem putD_K {ks : List Str} {k : Str} : putD (kvK ks) (.str k) (.bool true) = kvK (putK ks k) := by
  unfold putD putK
  have e : ((kvK ks).any fun kv => decide (keyD kv.1 = keyD (.str k))) = decide (k ∈ ks) := by
    rw [Bool.eq_iff_iff, List.any_eq_true, decide_eq_true_eq]
    constructor
    · rintro ⟨kv, hkv, h⟩
      obtain ⟨x, hx, rfl⟩ := List.mem_map.mp hkv
      have h := of_decide_eq_true h
      simp only [keyD, Option.some.injEq, Sum.inr.injEq] at h
      rw [← h]; exact hx
    · intro h
      exact ⟨(.str k, .bool true), List.mem_map.mpr ⟨k, h, rfl⟩, by simp⟩
  rw [e]
  by_cases h : k ∈ ks
  · rw [if_pos (decide_eq_true h), if_pos h]
    unfold kvK
    rw [List.map_map]
    refine List.map_congr_left fun x _ => ?_
    show (if keyD (.str x) = keyD (.str k) then _ else _) = _
    split <;> rfl
  · rw [if_neg (by simpa using h), if_neg h]
    unfold kvK
    rw [List.map_append]
    rfl
theorem storeM_dict {ρ : Sl} {j : Nat} {ks : List Str} {k : Str} (h : ρ[j]? = some (.own (.dict (kvK ks)))) (hl : ks.length ≤ 9000) : storeM ρ j (.val (.str k)) (.bool true) = retM (.nx (ρ.set j (.own (.dict (kvK (putK ks k)))))) := by
  have hz : (kvK ks).length < sizeLine := by
    rw [List.length_map]
    exact Nat.lt_of_lt_of_le (by omega) (small_le (n := 10000) (Nat.le_refl _))
  funext gs
  unfold storeM
  rw [h]
  show bindM (liftO (valOf (.val (.str k)))) _ gs = _
  simp only [valOf_val, liftO_some, bindM_ret]
  rw [if_pos ⟨rfl, hz⟩, putD_K]
/-- names gathered -/
structure Names (many : Nat) (ks : List Str) : Prop where
  nd : ks.Nodup
  ok : ∀ k ∈ ks, OkCol k
  le : ks.length ≤ many
theorem Names.put {many : Nat} {ks : List Str} {k : Str} (N : Names many ks) (h : OkCol k) (hl : ks.length < many) : Names many (putK ks k) ∧ ks.length ≤ (putK ks k).length ∧ 1 ≤ (putK ks k).length := by
  unfold putK
  split
  next hk => exact ⟨N, Nat.le_refl _, List.length_pos_of_mem hk⟩
  next hk =>
    refine ⟨⟨List.nodup_append.mpr ⟨N.nd, List.nodup_cons.mpr ⟨(fun h => nomatch h), List.nodup_nil⟩, fun a ha b hb e => hk (by rw [← List.mem_singleton.mp hb, ← e]; exact ha)⟩, fun x hx => ?_, by rw [List.length_append, List.length_singleton]; omega⟩, by rw [List.length_append]; omega, by rw [List.length_append, List.length_singleton]; omega⟩
    rcases List.mem_append.mp hx with hx | hx
    · exact N.ok x hx
    · rw [List.mem_singleton.mp hx]; exact h
theorem Names.cols {many : Nat} {ks : List Str} (N : Names many ks) (h1 : 1 ≤ ks.length) (hm : many ≤ 24) : Cols (sortS ks) where
  ne := by rw [(sortS_perm ks).length_eq]; exact h1
  le := by rw [(sortS_perm ks).length_eq]; exact Nat.le_trans N.le hm
  ok := fun x hx => N.ok x ((sortS_perm ks).mem_iff.mp hx)
  asc := sortS_asc N.nd
end PL
namespace JS
open PySem PL
theorem wp_pickS {n : Nat} {gs : GS} {z : Str} (G : Good n gs) (hn : n < lim) (h : 0 < z.cps.toList.length) (hm : z.cps.toList.length ≤ 10000) :
    wp (M__law_pick [.obj 0, .val (.str z)]) gs fun r g => ∃ c ∈ z.cps.toList, r = .val (.str ⟨#[c]⟩) ∧ Good (n + 1) g := by
  have hz : z.length = z.cps.toList.length := Array.length_toList.symm
  have hzl : z.length ≤ sizeLine := by rw [hz]; exact small_le hm
  unfold M__law_pick g__law_pick
  simp [lenR_str hzl]
  rw [hz]
  refine wp_mono (wp_next G hn h (lim_of (by omega))) fun r g ⟨k, hk, hr, G2⟩ => ?_
  subst hr
  simp [ixM_str hzl, atI_nat hk]
  exact ⟨_, Array.getElem_mem (by simpa using hk), rfl, G2⟩
end JS
set_option Elab.async false
set_option linter.all false
set_option maxRecDepth 100000
set_option maxHeartbeats 4000000
/-! Q27: the columns drawn. -/
namespace PL
open PySem
theorem addR_strs {x y : Str} (h : x.cps.toList.length + y.cps.toList.length ≤ 10000) : addR (.val (.str x)) (.val (.str y)) = some (.val (.str (x ++ y))) := by
  rw [Array.length_toList, Array.length_toList] at h
  show (if x.length + y.length ≤ sizeLine then _ else _) = _
  rw [if_pos (small_le (n := x.length + y.length) h)]
theorem cutS_take (z : Str) (k : Nat) : (L2.cutS z none (some (k : Int))).cps.toList = z.cps.toList.take k := by
  show cutD z.cps.toList none (some (k : Int)) = _
  exact cutD_take ..
theorem slO_str {z : Str} {lo hi : Option Int} (h : z.cps.toList.length ≤ 10000) : slO (.val (.str z)) lo hi = some (.val (.str (L2.cutS z lo hi))) := by
  rw [Array.length_toList] at h
  show (if z.length ≤ sizeLine then _ else _) = _
  rw [if_pos (small_le (n := z.length) h)]
theorem one_list {c : Nat} : (⟨#[c]⟩ : Str).cps.toList = [c] := rfl
end PL
namespace JS
open PySem PL
/-- a name drawn -/
theorem wp_name {n : Nat} {gs : GS} {s1 s3 s4 s5 s6 : Slot} (G : Good n gs) (hn : n + 20 < lim) :
    wp (sSeq (sSetF 6 (xFn 2 M__law_pick (aCons (xVar 0) (aCons (xSl (xVar 2) pNone (pSome (xC (.int 26)))) aNil)) [])) (sFor (iRng rng1 (aCons (xFn 2 M__law_pick (aCons (xVar 0) (aCons (xLst (aCons (xC (.int 0)) (aCons (xC (.int 0)) (aCons (xC (.int 1)) (aCons (xC (.int 2)) (aCons (xC (.int 11)) aNil)))))) aNil)) []) aNil)) (gNm 5) (sSetF 6 (xBin addR (xVar 6) (xFn 2 M__law_pick (aCons (xVar 0) (aCons (xVar 2) aNil)) [])))) [.obj 0, s1, .val (.str sg), s3, s4, s5, s6]) gs
    fun o g => ∃ x s5, o = .nx [.obj 0, s1, .val (.str sg), s3, s4, s5, .val (.str x)] ∧ OkCol x ∧ Good (n + 13) g := by
  have hsl : sg.cps.toList.length = 36 := by rw [sg_list]; rfl
  have lt : ∀ k, k ≤ 20 → n + k < lim := fun k hk => Nat.lt_of_le_of_lt (by omega) hn
  have hcut := cutS_take sg 26
  have e26 : ((26 : Nat) : Int) = 26 := rfl
  rw [e26] at hcut
  have hz5 : 5 ≤ sizeLine := small_le (by omega)
  simp only [sSeq_def, sSetF_def, xFn_def, aCons_def, aNil_def, xVar_def, xC_def, xSl_def, pNone_def, pSome_def, look_obj, look_val, look_suc, liftO_some, useM_ret, frz_obj, frz_val, bindM_ret, intOfR_val, Option.map_some, slO_str (z := sg) (by omega), callO1, wp_bind, wp_use]
  refine wp_mono (wp_pickS (z := L2.cutS sg none (some 26)) G (lt 0 (by omega)) (by rw [hcut, List.length_take, hsl]; decide) (by rw [hcut, List.length_take]; omega)) fun r g ⟨c, hc, hr, G1⟩ => ?_
  subst hr
  rw [hcut] at hc
  have ok0 := OkCol.one (sg_let hc)
  simp only [frz_val, slotV_val, wp_liftS, wp_ret, List.set, sFor_def, iRng_def, aCons_def, aNil_def, xFn_def, xVar_def, xLst_def, xC_def, look_obj, look_val, look_suc, liftO_some, useM_ret, frz_obj, bindM_ret, valsOf_nil, valsOf_cons, Option.map_some, Option.bind_some, List.length_cons, List.length_nil, Nat.zero_add, Nat.reduceAdd, hz5, if_true, frz_own, callO1, wp_bind, wp_use]
  refine wp_mono (wp_pick (d := .list [.int 0, .int 0, .int 1, .int 2, .int 11]) (ds := [.int 0, .int 0, .int 1, .int 2, .int 11]) (.inl rfl) G1 (lt 1 (by omega)) (by decide) (by decide)) fun r g2 ⟨z, hz, hr, G2⟩ => ?_
  subst hr
  obtain ⟨j, hj, rfl⟩ : ∃ j : Nat, j ≤ 11 ∧ z = .int (j : Nat) := by
    simp only [List.mem_cons, List.not_mem_nil, or_false] at hz
    rcases hz with h | h | h | h | h
    · exact ⟨0, by omega, h⟩
    · exact ⟨0, by omega, h⟩
    · exact ⟨1, by omega, h⟩
    · exact ⟨2, by omega, h⟩
    · exact ⟨11, by omega, h⟩
  simp only [frz_val, wp_ret, rng1_nat (n := j) (by omega), wp_liftS, if_true]
  rw [rngD_map]
  refine wp_mono (wp_forL (all := List.range j) (e := fun i => PyData.int (i : Nat)) (fun pre ρ g => ∃ x s5, ρ = [.obj 0, s1, .val (.str sg), s3, s4, s5, .val (.str x)] ∧ OkCol x ∧ x.cps.toList.length = 1 + pre.length ∧ Good (n + 2 + pre.length) g) (fun _ _ => False) (fun _ _ => False) (fun pre i post ρ g ea ⟨x, s5, hρ, hx, hxl, G3⟩ => ?_) (pre := []) rfl ⟨⟨#[c]⟩, s5, rfl, ok0, rfl, G2⟩) fun o g h => ?_
  · subst hρ
    obtain ⟨hpi, hi⟩ := range_split ea
    refine ⟨[.obj 0, s1, .val (.str sg), s3, s4, .val (.int (i : Nat)), .val (.str x)], rfl, ?_⟩
    simp only [sSetF_def, xBin_def, xFn_def, aCons_def, aNil_def, xVar_def, look_obj, look_val, look_suc, liftO_some, useM_ret, frz_obj, frz_val, bindM_ret, callO1, wp_bind, wp_use]
    refine wp_mono (wp_pickS (z := sg) G3 (by have := lt (2 + pre.length) (by omega); omega) (by omega) (by omega)) fun r g4 ⟨c, hc, hr, G4⟩ => ?_
    subst hr
    have hs := sg_sig hc
    rw [frz_val, addR_strs (by rw [one_list, List.length_singleton]; omega)]
    simp only [wp_liftS, frz_val, slotV_val, wp_ret, List.set]
    refine ⟨x ++ ⟨#[c]⟩, _, rfl, hx.snoc (fun d hd => ?_) ?_, ?_, ?_⟩
    · rw [one_list, List.mem_singleton] at hd
      rw [hd]; exact hs
    · rw [one_list, List.length_singleton]; omega
    · rw [app_list, one_list, List.length_append, List.length_append, List.length_singleton, List.length_singleton]; omega
    · rw [List.length_append, List.length_singleton]
      exact G4.mono (by omega)
  · cases o with
    | nx ρ2 =>
      rcases h with ⟨x, s5, hρ, hx, hxl, G3⟩ | h
      · rw [List.length_range] at G3
        exact ⟨x, s5, by rw [hρ], hx, G3.mono (by omega)⟩
      · exact h.elim
    | ret r => exact h.elim
    | brk ρ => exact h.elim
    | cnt ρ => exact h.elim
end JS
set_option Elab.async false
set_option linter.all false
set_option maxRecDepth 100000
set_option maxHeartbeats 4000000
/-! Q28: the columns drawn, whole. -/
namespace PL
open PySem
theorem wp_assoc {A B C : Sl → M Out} {ρ : Sl} {gs : GS} {Q : Out → GS → Prop} (h : wp (sSeq A B ρ) gs fun o g => ∃ ρ2, o = .nx ρ2 ∧ wp (C ρ2) g Q) : wp (sSeq A (sSeq B C) ρ) gs Q := by
  rw [sSeq_def, wp_bind] at *
  refine wp_mono h fun o g h => ?_
  cases o with
  | nx ρ' =>
    show wp (sSeq B C ρ') g Q
    rw [sSeq_def, wp_bind]
    refine wp_mono h fun o g ⟨ρ2, ho, h⟩ => ?_
    subst ho
    exact h
  | ret r => obtain ⟨_, e, _⟩ := wp_ret.mp h; cases e
  | brk r => obtain ⟨_, e, _⟩ := wp_ret.mp h; cases e
  | cnt r => obtain ⟨_, e, _⟩ := wp_ret.mp h; cases e
theorem strR_nat {i : Nat} (h : i < 90) : strR [.val (.int (i : Nat))] = some (.val (.str ((toString ((i : Nat) : Int) : String) : Str))) := by
  show (if ((i : Nat) : Int).natAbs.log2 < 1920 then some (RV.val (.str ((toString ((i : Nat) : Int) : String) : Str))) else none) = _
  have := log2_lt (n := i) (b := 10) (Nat.lt_trans h (by decide))
  rw [if_pos (by rw [Int.natAbs_natCast]; omega)]
theorem xName_len {i : Nat} (h : i < 90) : (("x" : String) : Str).cps.toList.length + ((toString ((i : Nat) : Int) : String) : Str).cps.toList.length ≤ 10000 := by
  have h1 := (xName_ok h).le
  unfold xName at h1
  rw [app_list, List.length_append] at h1
  omega
theorem xName_nodup : ((List.range 90).map xName).Nodup := by decide +kernel
theorem mem_putK {ks : List Str} {k x : Str} : x ∈ putK ks k ↔ x ∈ ks ∨ x = k := by
  unfold putK
  split
  next h => exact ⟨.inl, fun h2 => h2.elim id fun e => by rw [e]; exact h⟩
  next h => rw [List.mem_append, List.mem_singleton]
end PL
namespace JS
open PySem PL
theorem wp_columns {n many : Nat} {gs : GS} (G : Good n gs) (h1 : 1 ≤ many) (hm : many ≤ 8) (hn : n + 3000 < lim) :
    wp (M__law_columns [.obj 0, .val (.int (many : Nat))]) gs fun r g => ∃ cols, r = .val (tS cols) ∧ Cols cols ∧ cols.length = many ∧ Good (n + 3000) g := by
  have lt : ∀ k, k ≤ 3000 → n + k < lim := fun k hk => Nat.lt_of_le_of_lt (by omega) hn
  unfold M__law_columns g__law_columns
  have hmul : mulR (.val (.int 20)) (.val (.int (many : Nat))) = some (.val (.int ((20 * many : Nat) : Int))) := by
    have h2 := log2_lt (n := many) (b := 10) (Nat.lt_of_le_of_lt hm (by decide))
    have h3 : (20 : Int).natAbs.log2 ≤ 20 := log_int (by decide) (by decide)
    rw [mulR_ok (by rw [Int.natAbs_natCast]; omega)]
    congr 3
  simp only [bodyM_def, List.replicate, List.cons_append, List.nil_append, sSeq_def, sSetF_def, sSet_def, xC_def, useM_ret, frz_val, slotV_val, slotV_own, liftO_some, bindM_ret, List.set, wp_bind, wp_calm]
  have hrng : iRng rng1 (aCons (xBin mulR (xC (.int 20)) (xVar 1)) aNil) [.obj 0, .val (.int (many : Nat)), .val (.str sg), .own (.dict []), .un, .un, .un] = retM (rngD 0 (20 * many), false) := iRng_ret (rs := [.val (.int ((20 * many : Nat) : Int))]) (by simp [hmul]) (rng1_nat (by omega))
  simp only [sFor_def]
  rw [hrng]
  simp only [bindM_ret, if_true]
  rw [rngD_map]
  refine wp_mono (wp_forL (all := List.range (20 * many)) (e := fun i => PyData.int (i : Nat)) (fun pre ρ g => ∃ ks s4 s5 s6, ρ = [.obj 0, .val (.int (many : Nat)), .val (.str sg), .own (.dict (kvK ks)), s4, s5, s6] ∧ Names many ks ∧ (pre ≠ [] → 1 ≤ ks.length) ∧ Good (n + 13 * pre.length) g) (fun _ _ => False) (fun _ _ => False) (fun pre i post ρ g ea ⟨ks, s4, s5, s6, hρ, N, hks, G1⟩ => ?_) (pre := []) rfl ⟨[], .un, .un, .un, rfl, ⟨List.nodup_nil, (fun _ h => nomatch h), Nat.zero_le _⟩, (fun h => absurd rfl h), G⟩) fun o g h => ?_
  · subst hρ
    obtain ⟨hpi, hi⟩ := range_split ea
    refine ⟨[.obj 0, .val (.int (many : Nat)), .val (.str sg), .own (.dict (kvK ks)), .val (.int (i : Nat)), s5, s6], rfl, ?_⟩
    simp only [sIf_def, tBin_def, xCall_def, aCons_def, aNil_def, xVar_def, look_val, look_suc, look_own, liftO_some, useM_ret, frz_val, frz_bor, bindM_ret, lenR_dict, List.length_map, ltR_int, Option.bind_some, isB_bool]
    by_cases hlt : ks.length < many
    · rw [if_pos (by simp; omega)]
      refine wp_assoc (wp_mono (wp_name G1 (by have := lt (13 * pre.length + 20) (by omega); omega)) fun o g2 ⟨x, s5', ho, hx, G2⟩ => ⟨_, ho, ?_⟩)
      have hput := N.put hx hlt
      have e3 := storeM_dict (ρ := [.obj 0, .val (.int (many : Nat)), .val (.str sg), .own (.dict (kvK ks)), .val (.int (i : Nat)), s5', .val (.str x)]) (j := 3) (ks := ks) (k := x) rfl (by omega)
      simp only [sStore_def, xC_def, xVar_def, look_val, look_suc, liftO_some, useM_ret, frz_val, valOf_val, bindM_ret, hasSlot, List.getElem?_cons_succ, List.getElem?_cons_zero, e3, wp_ret, List.set]
      exact ⟨putK ks x, _, _, _, rfl, hput.1, fun _ => hput.2.2, G2.mono (by rw [List.length_append, List.length_singleton]; omega)⟩
    · rw [if_neg (by simp; omega), sNil_def, wp_ret]
      exact ⟨ks, _, _, _, rfl, N, fun _ => by omega, G1.mono (by rw [List.length_append, List.length_singleton]; omega)⟩
  · cases o with
    | nx ρ2 =>
      rcases h with ⟨ks, s4, s5, s6, hρ, N, hks, G1⟩ | h
      · subst hρ
        rw [List.length_range] at G1
        have hk1 : 1 ≤ ks.length := hks fun e => by
          have := congrArg List.length e
          rw [List.length_range, List.length_nil] at this
          omega
        have hrng2 : iRng rng1 (aCons (xC (.int 90)) aNil) [.obj 0, .val (.int (many : Nat)), .val (.str sg), .own (.dict (kvK ks)), s4, s5, s6] = retM (rngD 0 90, false) := iRng_ret (rs := [.val (.int ((90 : Nat) : Int))]) (by simp) (rng1_nat (by omega))
        simp only [sSeq_def, sFor_def, hrng2, bindM_ret, if_true, wp_bind]
        rw [rngD_map]
        refine wp_mono (wp_forL (all := List.range 90) (e := fun i => PyData.int (i : Nat)) (fun pre ρ g' => g' = g ∧ ∃ ks s4 s5 s6, ρ = [.obj 0, .val (.int (many : Nat)), .val (.str sg), .own (.dict (kvK ks)), s4, s5, s6] ∧ Names many ks ∧ 1 ≤ ks.length ∧ (ks.length = many ∨ ∀ j ∈ pre, xName j ∈ ks)) (fun _ _ => False) (fun _ _ => False) (fun pre i post ρ g' ea ⟨hg, ks, s4, s5, s6, hρ, N, hk1, hor⟩ => ?_) (pre := []) rfl ⟨rfl, ks, s4, s5, s6, rfl, N, hk1, .inr fun _ h => nomatch h⟩) fun o g' h => ?_
        · subst hρ hg
          obtain ⟨hpi, hi⟩ := range_split ea
          refine ⟨[.obj 0, .val (.int (many : Nat)), .val (.str sg), .own (.dict (kvK ks)), s4, .val (.int (i : Nat)), s6], rfl, ?_⟩
          simp only [sIf_def, tBin_def, xCall_def, aCons_def, aNil_def, xVar_def, look_val, look_suc, look_own, liftO_some, useM_ret, frz_val, frz_bor, bindM_ret, lenR_dict, List.length_map, ltR_int, Option.bind_some, isB_bool]
          by_cases hlt : ks.length < many
          · rw [if_pos (by simp; omega)]
            have hput := N.put (xName_ok hi) hlt
            have e3 := storeM_dict (ρ := [.obj 0, .val (.int (many : Nat)), .val (.str sg), .own (.dict (kvK ks)), s4, .val (.int (i : Nat)), s6]) (j := 3) (ks := ks) (k := xName i) rfl (by omega)
            have e4 := addR_strs (xName_len hi)
            simp only [sStore_def, xC_def, xBin_def, xCall_def, aCons_def, aNil_def, xVar_def, look_val, look_suc, liftO_some, useM_ret, frz_val, valOf_val, bindM_ret, hasSlot, List.getElem?_cons_succ, List.getElem?_cons_zero, strR_nat hi, e4]
            unfold xName at e3 hput
            simp only [e3, wp_ret, List.set]
            refine ⟨trivial, _, _, _, _, rfl, hput.1, hput.2.2, .inr fun j hj => ?_⟩
            rcases List.mem_append.mp hj with hj | hj
            · exact mem_putK.mpr (.inl (hor.resolve_left (by omega) j hj))
            · rw [List.mem_singleton.mp hj]
              exact mem_putK.mpr (.inr rfl)
          · rw [if_neg (by simp; omega), sNil_def, wp_ret]
            have hNle := N.le
            exact ⟨rfl, ks, _, _, _, rfl, N, hk1, .inl (by omega)⟩
        · cases o with
          | nx ρ2 =>
            rcases h with ⟨hg, ks, s4, s5, s6, hρ, N, hk1, hor⟩ | h
            · subst hρ hg
              have hok : OkS ks := fun x hx => (N.ok x hx).ok
              have hle := N.le
              have heq : ks.length = many := hor.elim id fun hall => by
                have := nodup_len xName_nodup (ys := ks) fun x hx => by
                  obtain ⟨j, hj, rfl⟩ := List.mem_map.mp hx
                  exact hall j hj
                rw [List.length_map, List.length_range] at this
                omega
              have e5 := sortedR_strs (xs := ks) (r := .bor (.dict (kvK ks))) (d := .dict (kvK ks)) rfl (by
                show some ((kvK ks).map fun p => p.1) = _
                unfold kvK
                rw [List.map_map]
                rfl) hok (by omega)
              simp only [sRet_def, xCall_def, aCons_def, aNil_def, xVar_def, look_val, look_suc, look_own, liftO_some, useM_ret, frz_bor, bindM_ret, e5, frz_own, tupleR_list, asRet_val, wp_ret]
              exact ⟨sortS ks, rfl, N.cols hk1 (by omega), by rw [(sortS_perm ks).length_eq]; exact heq, G1.mono (by omega)⟩
            · exact h.elim
          | ret r => exact h.elim
          | brk ρ => exact h.elim
          | cnt ρ => exact h.elim
      · exact h.elim
    | ret r => exact h.elim
    | brk ρ => exact h.elim
    | cnt ρ => exact h.elim
end JS
set_option Elab.async false
set_option linter.all false
set_option maxRecDepth 100000
set_option maxHeartbeats 4000000
/-! T0: what stays when rows are reduced. -/
namespace PL
open PySem
/-- some row holds all that stands with v in S -/
def cov (R : List (List Str)) (S : Str → Prop) (v : Str) : Prop := ∃ q ∈ R, v ∈ q ∧ ∀ r ∈ R, v ∈ r → ∀ c ∈ r, S c → c ∈ q
def Stab (kept : Str → Prop) (R : List (List Str)) (S : Str → Prop) : Prop := ∀ v, S v → (∃ r ∈ R, v ∈ r) ∧ (¬ kept v → ¬ cov R S v)
def inRows (R : List (List Str)) (c : Str) : Prop := ∃ r ∈ R, c ∈ r
structure Red (kept : Str → Prop) (R R' : List (List Str)) : Prop where
  down : ∀ r' ∈ R', ∃ r ∈ R, ∀ c ∈ r', c ∈ r
  up : ∀ r ∈ R, ∃ r' ∈ R', ∀ c ∈ r, c ∈ r' ∨ ¬ inRows R' c
  gone : ∀ c, inRows R c → ¬ inRows R' c → ¬ kept c ∧ ∃ r0 ∈ R, c ∈ r0 ∧ ∀ r ∈ R, c ∈ r → ∀ d ∈ r, d ∈ r0
section
variable {kept : Str → Prop} {R R' ps : List (List Str)} {S : Str → Prop}
theorem Red.fwd (h : Red kept R R') (s : Stab kept R S) : (∀ v, S v → inRows R' v) ∧ Stab kept R' S := by
  have ng : ∀ v, S v → inRows R' v := fun v hv => Classical.byContradiction fun hn => by
    obtain ⟨hr, hk⟩ := s v hv
    obtain ⟨nk, r0, h0, hv0, hall⟩ := h.gone v hr hn
    exact hk nk ⟨r0, h0, hv0, fun r hr hvr c hc _ => hall r hr hvr c hc⟩
  refine ⟨ng, fun v hv => ⟨ng v hv, fun nk hc => (s v hv).2 nk ?_⟩⟩
  obtain ⟨q', hq', hvq, hall⟩ := hc
  obtain ⟨q, hq, hsub⟩ := h.down q' hq'
  refine ⟨q, hq, hsub v hvq, fun r hr hvr c hcr hS => ?_⟩
  obtain ⟨r', hr', hup⟩ := h.up r hr
  have hv' : v ∈ r' := (hup v hvr).resolve_right fun hn => hn (ng v hv)
  have hc' : c ∈ r' := (hup c hcr).resolve_right fun hn => hn (ng c hS)
  exact hsub c (hall r' hr' hv' c hc' hS)
theorem Red.bwd (h : Red kept R R') (s : Stab kept R' S) : Stab kept R S := by
  intro v hv
  obtain ⟨⟨r', hr', hvr'⟩, hk⟩ := s v hv
  obtain ⟨r, hr, hsub⟩ := h.down r' hr'
  refine ⟨⟨r, hr, hsub v hvr'⟩, fun nk hc => hk nk ?_⟩
  obtain ⟨q, hq, hvq, hall⟩ := hc
  obtain ⟨q', hq', hup⟩ := h.up q hq
  have ng : ∀ c, S c → inRows R' c := fun c hc => (s c hc).1
  refine ⟨q', hq', (hup v hvq).resolve_right fun hn => hn (ng v hv), fun r'' hr'' hvr'' c hc hS => ?_⟩
  obtain ⟨r2, hr2, hsub2⟩ := h.down r'' hr''
  exact (hup c (hall r2 hr2 (hsub2 v hvr'') c (hsub2 c hc) hS)).resolve_right fun hn => hn (ng c hS)
theorem Red.iff (h : Red kept R R') : Stab kept R S ↔ Stab kept R' S := ⟨fun s => (h.fwd s).2, h.bwd⟩
/-- the greatest that stays -/
def top (kept : Str → Prop) (ps : List (List Str)) (v : Str) : Prop := ∃ S, Stab kept ps S ∧ S v
theorem top_stab : Stab kept ps (top kept ps) := by
  rintro v ⟨S, hS, hv⟩
  refine ⟨(hS v hv).1, fun nk ⟨q, hq, hvq, hall⟩ => (hS v hv).2 nk ⟨q, hq, hvq, fun r hr hvr c hc hSc => hall r hr hvr c hc ⟨S, hS, hSc⟩⟩⟩
structure From (kept : Str → Prop) (ps R : List (List Str)) : Prop where
  down : ∀ r ∈ R, ∃ p ∈ ps, ∀ c ∈ r, c ∈ p
  up : ∀ p ∈ ps, ∃ r ∈ R, ∀ c ∈ p, top kept ps c → c ∈ r
  stab : ∀ S, Stab kept ps S ↔ Stab kept R S
theorem From.refl : From kept ps ps := ⟨fun r h => ⟨r, h, fun c hc => hc⟩, fun p h => ⟨p, h, fun c hc _ => hc⟩, fun S => Iff.rfl⟩
theorem From.step (F : From kept ps R) (h : Red kept R R') : From kept ps R' where
  down := fun r' hr' => by
    obtain ⟨r, hr, h1⟩ := h.down r' hr'
    obtain ⟨p, hp, h2⟩ := F.down r hr
    exact ⟨p, hp, fun c hc => h2 c (h1 c hc)⟩
  up := fun p hp => by
    obtain ⟨r, hr, h1⟩ := F.up p hp
    obtain ⟨r', hr', h2⟩ := h.up r hr
    have ng := (h.fwd ((F.stab _).mp (top_stab (ps := ps)))).1
    exact ⟨r', hr', fun c hc ht => (h2 c (h1 c hc ht)).resolve_right fun hn => hn (ng c ht)⟩
  stab := fun S => (F.stab S).trans h.iff
/-- nothing more to be taken out: an antichain without lone columns -/
structure Norm (kept : Str → Prop) (R : List (List Str)) : Prop where
  anti : R.Pairwise fun p q => ¬ (∀ c ∈ p, c ∈ q) ∧ ¬ (∀ c ∈ q, c ∈ p)
  lone : ∀ c, ¬ kept c → ∀ r ∈ R, c ∈ r → ∃ q ∈ R, q ≠ r ∧ c ∈ q
theorem Norm.eq_of_sub (N : Norm kept R) {p q : List Str} (hp : p ∈ R) (hq : q ∈ R) (h : ∀ c ∈ p, c ∈ q) : p = q := by
  obtain ⟨i, hi, rfl⟩ := List.getElem_of_mem hp
  obtain ⟨j, hj, rfl⟩ := List.getElem_of_mem hq
  have ha := List.pairwise_iff_getElem.mp N.anti
  rcases Nat.lt_trichotomy i j with h1 | h1 | h1
  · exact absurd h (ha i j hi hj h1).1
  · subst h1; rfl
  · exact absurd h (ha j i hj hi h1).2
theorem Norm.stab (N : Norm kept R) : Stab kept R (inRows R) := by
  intro v hv
  refine ⟨hv, fun nk ⟨q, hq, hvq, hall⟩ => ?_⟩
  obtain ⟨p, hp, hne, hvp⟩ := N.lone v nk q hq hvq
  exact hne (N.eq_of_sub hp hq fun c hc => hall p hp hvp c hc ⟨p, hp, hc⟩)
theorem Norm.top (N : Norm kept R) (F : From kept ps R) (c : Str) : inRows R c ↔ top kept ps c :=
  ⟨fun h => ⟨_, (F.stab _).mpr N.stab, h⟩, fun h => ((F.stab _).mp top_stab c h).1⟩
theorem Norm.sub {Q : List (List Str)} (N : Norm kept R) (F : From kept ps R) (F2 : From kept ps Q) : ∀ r ∈ R, ∃ q ∈ Q, ∀ c ∈ r, c ∈ q := fun r hr => by
  obtain ⟨p, hp, h1⟩ := F.down r hr
  obtain ⟨q, hq, h2⟩ := F2.up p hp
  exact ⟨q, hq, fun c hc => h2 c (h1 c hc) ((N.top F c).mp ⟨r, hr, hc⟩)⟩
theorem Norm.nodup (N : Norm kept R) : R.Nodup := N.anti.imp fun {a b} h e => by
  subst e
  exact h.1 fun c hc => hc
/-- two ways out end alike -/
theorem Norm.mem {Q : List (List Str)} (N : Norm kept R) (F : From kept ps R) (M : Norm kept Q) (F2 : From kept ps Q) (hR : ∀ r ∈ R, r.Pairwise SLt) (hQ : ∀ r ∈ Q, r.Pairwise SLt) (r : List Str) : r ∈ R → r ∈ Q := fun hr => by
  obtain ⟨q, hq, h1⟩ := N.sub F F2 r hr
  obtain ⟨r2, hr2, h2⟩ := M.sub F2 F q hq
  have e := N.eq_of_sub hr hr2 fun c hc => h2 c (h1 c hc)
  subst e
  have : r = q := asc_ext (hR r hr) (hQ q hq) fun c => ⟨h1 c, h2 c⟩
  rw [this]; exact hq
/-- nothing stays -/
def NoStab (ps : List (List Str)) : Prop := ∀ c, ¬ top (fun _ => False) ps c
theorem Norm.empty (N : Norm (fun _ => False) R) (F : From (fun _ => False) ps R) (hn : ps ≠ []) : R = [[]] ↔ NoStab ps := by
  constructor
  · intro e c hc
    have := (N.top F c).mpr hc
    rw [e] at this
    obtain ⟨r, hr, hcr⟩ := this
    rw [List.mem_singleton.mp hr] at hcr
    exact nomatch hcr
  · intro h
    have he : ∀ r ∈ R, r = [] := fun r hr => by
      cases r with
      | nil => rfl
      | cons c t => exact absurd ((N.top F c).mp ⟨_, hr, List.mem_cons_self ..⟩) (h c)
    obtain ⟨p, hp⟩ := List.exists_mem_of_ne_nil ps hn
    obtain ⟨r, hr, _⟩ := F.up p hp
    have := he r hr
    subst this
    have hall : ∀ q ∈ R, q = [] := he
    have nd := N.nodup
    cases hR : R with
    | nil => rw [hR] at hr; exact nomatch hr
    | cons a t =>
      rw [hR] at nd hall
      have ha := hall a (List.mem_cons_self ..)
      subst ha
      cases t with
      | nil => rfl
      | cons b t =>
        have hb := hall b (List.mem_cons_of_mem _ (List.mem_cons_self ..))
        subst hb
        exact absurd (List.mem_cons_self ..) (List.nodup_cons.mp nd).1
/-- all rows empty -/
theorem From.allEmpty (F : From (fun _ => False) ps R) (he : ∀ r ∈ R, r = []) : NoStab ps := fun c hc => by
  obtain ⟨r, hr, hcr⟩ := ((F.stab _).mp top_stab c hc).1
  rw [he r hr] at hcr
  exact nomatch hcr
end
end PL
set_option Elab.async false
set_option linter.all false
set_option maxRecDepth 100000
set_option maxHeartbeats 4000000
/-! T1: ears. -/
namespace PL
open PySem
def isHost (P : Nat → List Str) (left : List Nat) (k o : Nat) : Bool := !decide (o = k) && (P k).all fun c => !(left.any fun i => !decide (i = k) && decide (c ∈ P i)) || decide (c ∈ P o)
def hostsS (P : Nat → List Str) (left : List Nat) (k : Nat) : List Nat := left.filter (isHost P left k)
def foundS (P : Nat → List Str) (left : List Nat) : List Nat := left.filter fun k => !decide (hostsS P left k = [])
abbrev offN (left : List Nat) (k : Nat) : List Nat := left.filter fun i => !decide (i = k)
def earsS (P : Nat → List Str) : Nat → List Nat → List (Nat × Option Nat) × List Nat
  | 0, left => ([], left)
  | n + 1, left => match left with
    | [k] => ([(k, none)], [])
    | left => match foundS P left with
      | [] => ([], left)
      | k :: _ => ((k, (hostsS P left k).head?) :: (earsS P n (offN left k)).1, (earsS P n (offN left k)).2)
section
variable {P : Nat → List Str} {left : List Nat} {k o : Nat}
theorem isHost_iff : isHost P left k o = true ↔ o ≠ k ∧ ∀ c ∈ P k, (∃ i ∈ left, i ≠ k ∧ c ∈ P i) → c ∈ P o := by
  unfold isHost
  rw [Bool.and_eq_true, Bool.not_eq_true', decide_eq_false_iff_not, List.all_eq_true]
  refine and_congr_right fun _ => forall_congr' fun c => forall_congr' fun _ => ?_
  rw [Bool.or_eq_true, Bool.not_eq_true', decide_eq_true_eq, List.any_eq_false]
  constructor
  · rintro h ⟨i, hi, hne, hc⟩
    rcases h with h | h
    · exact absurd (by simp [hne, hc]) (h i hi)
    · exact h
  · intro h
    by_cases hc : c ∈ P o
    · exact .inr hc
    · left
      intro i hi hb
      rw [Bool.and_eq_true, Bool.not_eq_true', decide_eq_false_iff_not, decide_eq_true_eq] at hb
      exact hc (h ⟨i, hi, hb.1, hb.2⟩)
theorem mem_offN {i : Nat} : i ∈ offN left k ↔ i ∈ left ∧ i ≠ k := by
  unfold offN
  rw [List.mem_filter, Bool.not_eq_true', decide_eq_false_iff_not]
theorem ear_red (ho : o ∈ left) (h : isHost P left k o = true) : Red (fun _ => False) (left.map P) ((offN left k).map P) where
  down := fun r hr => by
    obtain ⟨i, hi, rfl⟩ := List.mem_map.mp hr
    exact ⟨P i, List.mem_map.mpr ⟨i, (mem_offN.mp hi).1, rfl⟩, fun c hc => hc⟩
  up := fun r hr => by
    obtain ⟨i, hi, rfl⟩ := List.mem_map.mp hr
    obtain ⟨hne, hall⟩ := isHost_iff.mp h
    by_cases e : i = k
    · subst e
      refine ⟨P o, List.mem_map.mpr ⟨o, mem_offN.mpr ⟨ho, hne⟩, rfl⟩, fun c hc => ?_⟩
      by_cases hx : ∃ j ∈ left, j ≠ i ∧ c ∈ P j
      · exact .inl (hall c hc hx)
      · right
        rintro ⟨r, hr, hcr⟩
        obtain ⟨j, hj, rfl⟩ := List.mem_map.mp hr
        exact hx ⟨j, (mem_offN.mp hj).1, (mem_offN.mp hj).2, hcr⟩
    · exact ⟨P i, List.mem_map.mpr ⟨i, mem_offN.mpr ⟨hi, e⟩, rfl⟩, fun c hc => .inl hc⟩
  gone := fun c hc hn => by
    obtain ⟨r, hr, hcr⟩ := hc
    obtain ⟨i, hi, rfl⟩ := List.mem_map.mp hr
    have key : ∀ j ∈ left, c ∈ P j → j = k := fun j hj hcj => Classical.byContradiction fun hne => hn ⟨P j, List.mem_map.mpr ⟨j, mem_offN.mpr ⟨hj, hne⟩, rfl⟩, hcj⟩
    have e := key i hi hcr
    refine ⟨id, P i, hr, hcr, fun r2 hr2 hc2 d hd => ?_⟩
    obtain ⟨j, hj, rfl⟩ := List.mem_map.mp hr2
    have e2 := key j hj hc2
    rw [e]
    rw [e2] at hd
    exact hd
theorem Red.nostab {R R' : List (List Str)} (h : Red (fun _ => False) R R') : NoStab R ↔ NoStab R' := by
  unfold NoStab
  refine forall_congr' fun c => not_congr ?_
  unfold top
  exact ⟨fun ⟨S, hS, hc⟩ => ⟨S, h.iff.mp hS, hc⟩, fun ⟨S, hS, hc⟩ => ⟨S, h.iff.mpr hS, hc⟩⟩
theorem one_nostab (p : List Str) : NoStab [p] := by
  rintro c ⟨S, hS, hc⟩
  obtain ⟨⟨r, hr, hcr⟩, hk⟩ := hS c hc
  have e := List.mem_singleton.mp hr
  subst e
  exact hk id ⟨r, hr, hcr, fun r2 hr2 _ d hd _ => by rw [List.mem_singleton.mp hr2] at hd; exact hd⟩
theorem stuck (nd : left.Nodup) (h2 : 2 ≤ left.length) (h : ∀ k ∈ left, hostsS P left k = []) : ¬ NoStab (left.map P) := by
  intro hns
  have noh : ∀ k ∈ left, ∀ o ∈ left, ¬ isHost P left k o = true := fun k hk o ho hh => by
    have : o ∈ hostsS P left k := List.mem_filter.mpr ⟨ho, hh⟩
    rw [h k hk] at this
    exact nomatch this
  have hS : Stab (fun _ => False) (left.map P) (fun c => ∃ i ∈ left, ∃ j ∈ left, i ≠ j ∧ c ∈ P i ∧ c ∈ P j) := by
    rintro v ⟨i, hi, j, hj, hij, hvi, hvj⟩
    refine ⟨⟨P i, List.mem_map.mpr ⟨i, hi, rfl⟩, hvi⟩, fun _ ⟨q, hq, hvq, hall⟩ => ?_⟩
    obtain ⟨o, ho, rfl⟩ := List.mem_map.mp hq
    obtain ⟨k, hk, hko, hvk⟩ : ∃ k ∈ left, o ≠ k ∧ v ∈ P k := by
      by_cases e : o = i
      · exact ⟨j, hj, fun e2 => hij (e.symm.trans e2), hvj⟩
      · exact ⟨i, hi, e, hvi⟩
    exact noh k hk o ho (isHost_iff.mpr ⟨hko, fun c hc ⟨i2, hi2, hne, hc2⟩ => hall (P k) (List.mem_map.mpr ⟨k, hk, rfl⟩) hvk c hc ⟨k, hk, i2, hi2, fun e => hne e.symm, hc, hc2⟩⟩)
  match left, nd, h2, noh, hS, hns with
  | k :: o :: l, nd, _, noh, hS, hns =>
    have hne : o ≠ k := fun e => by
      subst e
      exact (List.nodup_cons.mp nd).1 (List.mem_cons_self ..)
    have hko := noh k (List.mem_cons_self ..) o (List.mem_cons_of_mem _ (List.mem_cons_self ..))
    refine hko (isHost_iff.mpr ⟨hne, fun c hc ⟨i, hi, hik, hci⟩ => ?_⟩)
    exact absurd ⟨_, hS, ⟨k, List.mem_cons_self .., i, hi, fun e => hik e.symm, hc, hci⟩⟩ (hns c)
theorem offN_len (nd : left.Nodup) (hk : k ∈ left) : (offN left k).length + 1 = left.length := by
  induction left with
  | nil => exact nomatch hk
  | cons a l ih =>
    have nd := List.nodup_cons.mp nd
    by_cases e : a = k
    · subst e
      have : offN (a :: l) a = l := by
        unfold offN
        rw [List.filter_cons_of_neg (by simp)]
        exact List.filter_eq_self.mpr fun i hi => by
          have : i ≠ a := fun e => nd.1 (e ▸ hi)
          simp [this]
      rw [this, List.length_cons]
    · have hk2 : k ∈ l := by
        rcases List.mem_cons.mp hk with h | h
        · exact absurd h.symm e
        · exact h
      have : offN (a :: l) k = a :: offN l k := by
        unfold offN
        rw [List.filter_cons_of_pos (by simp [e])]
      rw [this, List.length_cons, List.length_cons]
      have := ih nd.2 hk2
      omega
theorem foundS_mem (h : k ∈ foundS P left) : k ∈ left ∧ ∃ o ∈ left, isHost P left k o = true := by
  obtain ⟨h1, h2⟩ := List.mem_filter.mp h
  rw [Bool.not_eq_true', decide_eq_false_iff_not] at h2
  obtain ⟨o, ho⟩ := List.exists_mem_of_ne_nil _ h2
  exact ⟨h1, o, (List.mem_filter.mp ho).1, (List.mem_filter.mp ho).2⟩
theorem foundS_nil (h : foundS P left = []) : ∀ k ∈ left, hostsS P left k = [] := fun k hk => by
  unfold foundS at h
  have := List.filter_eq_nil_iff.mp h k hk
  simpa using this
theorem earsS_rest : ∀ (n : Nat) {left : List Nat}, left.Nodup → left ≠ [] → left.length ≤ n → ((earsS P n left).2 = [] ↔ NoStab (left.map P))
  | 0, left, nd, hn, hl => absurd (List.eq_nil_of_length_eq_zero (by omega)) hn
  | n + 1, [k], nd, hn, hl => by
    unfold earsS
    exact ⟨fun _ => one_nostab _, fun _ => rfl⟩
  | n + 1, a :: b :: l, nd, hn, hl => by
    unfold earsS
    simp only
    cases hf : foundS P (a :: b :: l) with
    | nil =>
      simp only
      exact ⟨fun e => absurd e hn, fun h => absurd h (stuck nd (by simp) (foundS_nil hf))⟩
    | cons k t =>
      simp only
      obtain ⟨hk, o, ho, hh⟩ := foundS_mem (P := P) (k := k) (left := a :: b :: l) (by rw [hf]; exact List.mem_cons_self ..)
      have hlen := offN_len nd hk
      have hle : (offN (a :: b :: l) k).length ≤ n := by omega
      have hne : offN (a :: b :: l) k ≠ [] := fun e => by
        rw [e] at hlen
        simp at hlen
      rw [earsS_rest n (nd.sublist List.filter_sublist) hne hle]
      exact (ear_red ho hh).nostab.symm
end
end PL
set_option Elab.async false
set_option linter.all false
set_option maxRecDepth 100000
set_option maxHeartbeats 4000000
namespace PL
open PySem
abbrev leftD (left : List Nat) : D := .list (left.map fun i => .int ((i : Nat) : Int))
abbrev PS (ps : List (List Str)) (i : Nat) : List Str := ps.getD i []
theorem intEq {i k : Nat} : (((i : Nat) : Int) == ((k : Nat) : Int)) = decide (i = k) := by
  rw [Bool.eq_iff_iff, beq_iff_eq, decide_eq_true_eq]
  omega
theorem atI_left {left : List Nat} {i : Nat} (h : i < left.length) : L2.atI (left.map fun i => PyData.int ((i : Nat) : Int)) ((i : Nat) : Int) = some (.int ((left[i] : Nat) : Int)) := by
  rw [atI_nat (by simpa using h)]
  simp
theorem eqR_nilL {r : RV} {xs : List Str} (hr : rd r = some (.list (xs.map PyData.str))) (h : OkS xs) : eqR r (.val (.list [])) = some (.val (.bool (decide (xs = [])))) := by
  have e : eqD (.list (xs.map PyData.str)) (.list []) = some (decide (xs = [])) := by
    unfold eqD
    rw [if_pos ⟨shaped_lS h, rfl⟩]
    cases xs <;> rfl
  cases r <;> simp only [rd] at hr <;> cases hr <;> (show (eqD _ _).map _ = _; rw [e]; rfl)
theorem wp_whileR {tc : Sl → M Bool} {tb : Sl → M Out} (J : Nat → Sl → GS → Prop) (Q : Sl → GS → Prop) (Rt : RV → GS → Prop)
    (h : ∀ n ρ gs, J n ρ gs → wp (tc ρ) gs fun k g => if k = true then wp (tb ρ) g (fun o g2 => (∃ ρ2, o = .nx ρ2 ∧ ∃ m, m < n ∧ J m ρ2 g2) ∨ ∃ r, o = .ret r ∧ Rt r g2) else Q ρ g) :
    ∀ (N n : Nat) (ρ : Sl) (gs : GS), n < N → J n ρ gs → wp (whileL tc tb N ρ) gs fun o g => (∃ ρ2, o = .nx ρ2 ∧ Q ρ2 g) ∨ ∃ r, o = .ret r ∧ Rt r g
  | 0, n, ρ, gs, hn, _ => absurd hn (Nat.not_lt_zero _)
  | N + 1, n, ρ, gs, hn, hj => by
    unfold whileL
    rw [wp_bind]
    refine wp_mono (h n ρ gs hj) fun k g hk => ?_
    cases k with
    | true =>
      rw [if_pos rfl] at hk
      rw [if_pos rfl, wp_bind]
      refine wp_mono hk fun o g2 ho => ?_
      rcases ho with ⟨ρ2, ho, m, hm, hj2⟩ | ⟨r, ho, hr⟩
      · subst ho
        exact wp_whileR J Q Rt h N m ρ2 g2 (by omega) hj2
      · subst ho
        exact wp_ret.mpr (.inr ⟨r, rfl, hr⟩)
    | false =>
      rw [if_neg Bool.false_ne_true] at hk
      rw [if_neg Bool.false_ne_true, wp_ret]
      exact .inl ⟨ρ, rfl, hk⟩
@[simp] theorem sAsg_def {g : D → Sl → Option Sl} {ge : Sl → M RV} {ρ : Sl} : sAsg g ge ρ = useM (ge ρ) fun r => bindM (liftO (valOf r)) fun d => bindM (liftO (g d ρ)) fun ρ1 => retM (.nx ρ1) := id rfl
theorem lay_left : ∀ l : List Nat, PyData.canLayAll0 (l.map fun i => PyData.int ((i : Nat) : Int)) = true ∧ PyData.depthAll (l.map fun i => PyData.int ((i : Nat) : Int)) = 0
  | [] => ⟨rfl, rfl⟩
  | i :: l => by
    obtain ⟨h1, h2⟩ := lay_left l
    constructor
    · show (true && PyData.canLayAll0 (l.map fun i => PyData.int ((i : Nat) : Int))) = true
      rw [h1]; rfl
    · show max 0 (PyData.depthAll (l.map fun i => PyData.int ((i : Nat) : Int))) = 0
      rw [h2]; rfl
theorem shaped_left (l : List Nat) : SeqAt.shaped (leftD l) = true := by
  obtain ⟨h1, h2⟩ := lay_left l
  show (PyData.canLayAll0 (l.map fun i => PyData.int ((i : Nat) : Int)) && decide (PyData.depthAll (l.map fun i => PyData.int ((i : Nat) : Int)) + 1 ≤ 64)) = true
  rw [h1, h2]; rfl
theorem eqR_left {r : RV} {l : List Nat} (hr : rd r = some (leftD l)) : eqR r (.val (.list [])) = some (.val (.bool (decide (l = [])))) := by
  have e : eqD (leftD l) (.list []) = some (decide (l = [])) := by
    unfold eqD
    rw [if_pos ⟨shaped_left l, rfl⟩]
    cases l <;> rfl
  cases r <;> simp only [rd] at hr <;> cases hr <;> (show (eqD _ _).map _ = _; rw [e]; rfl)
theorem neR_left {r : RV} {l : List Nat} (hr : rd r = some (leftD l)) : neR r (.val (.list [])) = some (.val (.bool (!decide (l = [])))) := by
  have e : neD (leftD l) (.list []) = some (!decide (l = [])) := by
    unfold neD
    rw [if_pos ⟨shaped_left l, rfl⟩]
    cases l <;> rfl
  cases r <;> simp only [rd] at hr <;> cases hr <;> (show (neD _ _).map _ = _; rw [e]; rfl)
theorem notNR_none {r : RV} : notNR r (.val .none) = some (.val (.bool (!isNone r))) := rfl
theorem strsOf_map : ∀ xs : List Str, strsOf (xs.map PyData.str) = some xs
  | [] => rfl
  | x :: xs => by
    show (strsOf (xs.map PyData.str)).map _ = _
    rw [strsOf_map xs]; rfl
theorem findIdx_idxOf {xs : List Str} {z : Str} (h : z ∈ xs) : (xs.findIdx? fun y => decide (y = z)) = some (xs.idxOf z) := by
  have hl := List.idxOf_lt_length_iff.mpr h
  rw [List.findIdx?_eq_some_iff_getElem]
  refine ⟨hl, by rw [List.getElem_idxOf hl]; simp, fun j hj => ?_⟩
  have : j < List.findIdx (fun y => y == z) xs := hj
  have := List.not_of_lt_findIdx this
  simpa using this
theorem idxR_str {xs : List Str} {z : Str} (h : z ∈ xs) : idxR (.val (tS xs)) (.val (.str z)) = some (.val (.int ((xs.idxOf z : Nat) : Int))) := by
  show ((strsOf (xs.map PyData.str)).bind fun ys => (ys.findIdx? fun y => decide (y = z)).map fun j => RV.val (.int (j : Nat))) = _
  rw [strsOf_map, Option.bind_some, findIdx_idxOf h]
  rfl
@[simp] theorem xIndex_def {ga gb : Sl → M RV} {ρ : Sl} : xIndex ga gb ρ = useM (ga ρ) fun x => bindM (liftO (isSeqR x)) fun _ => useM (gb ρ) fun y => liftO (idxR x y) := id rfl
@[simp] theorem isSeqR_tuple {ds : List D} : isSeqR (.val (.tuple ds)) = some () := id rfl
end PL
set_option Elab.async false
set_option linter.all false
set_option maxRecDepth 100000
set_option maxHeartbeats 4000000
/-! T4: the law's reducing, in plain words. -/
namespace PL
open PySem
abbrev gAt (G : List (List Str)) (i : Nat) : List Str := G.getD i []
def othA (G : List (List Str)) (i : Nat) : List (List Str) := (G.zipIdx.filter fun p => !decide (p.2 = i)).map (·.1)
def othB (G : List (List Str)) (i : Nat) : List (List Str) := (G.zipIdx.filter fun p => !decide (p.2 = i) && (!decide (p.1 = gAt G i) || decide (p.2 < i))).map (·.1)
def rowA (G : List (List Str)) (i : Nat) : List Str := (gAt G i).filter fun c => (othA G i).any fun r => decide (c ∈ r)
def stepA (G : List (List Str)) (i : Nat) : List (List Str) := G.set i (rowA G i)
def hitB (G : List (List Str)) (i : Nat) : Bool := (othB G i).any fun r => (gAt G i).all fun c => decide (c ∈ r)
def stepB (G : List (List Str)) (i : Nat) : List (List Str) := if hitB G i = true then G.set i [] else G
section
variable {G : List (List Str)} {i j : Nat} {c : Str} {r : List Str}
theorem gAt_eq (h : i < G.length) : gAt G i = G[i] := by
  unfold gAt
  rw [List.getD_eq_getElem?_getD, List.getElem?_eq_getElem h]
  rfl
theorem mem_othA : r ∈ othA G i ↔ ∃ j, j ≠ i ∧ G[j]? = some r := by
  unfold othA
  rw [List.mem_map]
  constructor
  · rintro ⟨⟨x, j⟩, h, rfl⟩
    obtain ⟨h1, h2⟩ := List.mem_filter.mp h
    rw [Bool.not_eq_true', decide_eq_false_iff_not] at h2
    exact ⟨j, h2, List.mem_zipIdx_iff_getElem?.mp h1⟩
  · rintro ⟨j, hne, hj⟩
    exact ⟨(r, j), List.mem_filter.mpr ⟨List.mem_zipIdx_iff_getElem?.mpr hj, by simp [hne]⟩, rfl⟩
theorem mem_othB : r ∈ othB G i ↔ ∃ j, j ≠ i ∧ G[j]? = some r ∧ (r ≠ gAt G i ∨ j < i) := by
  unfold othB
  rw [List.mem_map]
  constructor
  · rintro ⟨⟨x, j⟩, h, rfl⟩
    obtain ⟨h1, h2⟩ := List.mem_filter.mp h
    rw [Bool.and_eq_true, Bool.or_eq_true, Bool.not_eq_true', Bool.not_eq_true', decide_eq_false_iff_not, decide_eq_false_iff_not, decide_eq_true_eq] at h2
    exact ⟨j, h2.1, List.mem_zipIdx_iff_getElem?.mp h1, h2.2⟩
  · rintro ⟨j, hne, hj, hor⟩
    exact ⟨(r, j), List.mem_filter.mpr ⟨List.mem_zipIdx_iff_getElem?.mpr hj, by rw [Bool.and_eq_true, Bool.or_eq_true, Bool.not_eq_true', Bool.not_eq_true', decide_eq_false_iff_not, decide_eq_false_iff_not, decide_eq_true_eq]; exact ⟨hne, hor⟩⟩, rfl⟩
theorem mem_rowA : c ∈ rowA G i ↔ c ∈ gAt G i ∧ ∃ j, j ≠ i ∧ ∃ r, G[j]? = some r ∧ c ∈ r := by
  unfold rowA
  rw [List.mem_filter, List.any_eq_true]
  refine and_congr_right fun _ => ?_
  constructor
  · rintro ⟨r, hr, hc⟩
    obtain ⟨j, hne, hj⟩ := mem_othA.mp hr
    exact ⟨j, hne, r, hj, of_decide_eq_true hc⟩
  · rintro ⟨j, hne, r, hj, hc⟩
    exact ⟨r, mem_othA.mpr ⟨j, hne, hj⟩, decide_eq_true hc⟩
theorem mem_set {x : List Str} (hi : i < G.length) : r ∈ G.set i x ↔ r = x ∨ ∃ j, j ≠ i ∧ G[j]? = some r := by
  constructor
  · intro h
    obtain ⟨j, hj, rfl⟩ := List.getElem_of_mem h
    rw [List.length_set] at hj
    by_cases e : i = j
    · subst e
      left
      simp
    · right
      refine ⟨j, fun e2 => e e2.symm, ?_⟩
      rw [List.getElem_set_ne e, List.getElem?_eq_getElem hj]
  · rintro (e | ⟨j, hne, hj⟩)
    · rw [e]
      exact List.mem_set hi x
    · obtain ⟨hj2, e⟩ := List.getElem?_eq_some_iff.mp hj
      have : (G.set i x)[j]? = some r := by rw [List.getElem?_set_ne fun e => hne e.symm]; exact hj
      exact List.mem_of_getElem? this
theorem stepA_red (hi : i < G.length) : Red (fun _ => False) G (stepA G i) where
  down := fun r hr => by
    rcases (mem_set hi).mp hr with e | ⟨j, hne, hj⟩
    · exact ⟨gAt G i, by rw [gAt_eq hi]; exact List.getElem_mem hi, fun c hc => by rw [e] at hc; exact (mem_rowA.mp hc).1⟩
    · exact ⟨r, List.mem_of_getElem? hj, fun c hc => hc⟩
  up := fun r hr => by
    obtain ⟨j, hj, rfl⟩ := List.getElem_of_mem hr
    by_cases e : j = i
    · subst e
      refine ⟨rowA G j, (mem_set hi).mpr (.inl rfl), fun c hc => ?_⟩
      by_cases hx : ∃ k, k ≠ j ∧ ∃ r, G[k]? = some r ∧ c ∈ r
      · exact .inl (mem_rowA.mpr ⟨by rw [gAt_eq hj]; exact hc, hx⟩)
      · right
        rintro ⟨r, hr, hcr⟩
        rcases (mem_set hi).mp hr with e | ⟨k, hne, hk⟩
        · rw [e] at hcr
          exact hx (mem_rowA.mp hcr).2
        · exact hx ⟨k, hne, r, hk, hcr⟩
    · exact ⟨G[j], (mem_set hi).mpr (.inr ⟨j, e, List.getElem?_eq_getElem hj⟩), fun c hc => .inl hc⟩
  gone := fun c hc hn => by
    obtain ⟨r, hr, hcr⟩ := hc
    obtain ⟨j, hj, rfl⟩ := List.getElem_of_mem hr
    have key : ∀ k r2, G[k]? = some r2 → c ∈ r2 → k = i := fun k r2 hk hc2 => Classical.byContradiction fun hne => hn ⟨r2, (mem_set hi).mpr (.inr ⟨k, hne, hk⟩), hc2⟩
    have e := key j G[j] (List.getElem?_eq_getElem hj) hcr
    refine ⟨id, G[j], hr, hcr, fun r2 hr2 hc2 d hd => ?_⟩
    obtain ⟨k, hk, rfl⟩ := List.getElem_of_mem hr2
    have e2 := key k G[k] (List.getElem?_eq_getElem hk) hc2
    subst e
    subst e2
    exact hd
theorem hitB_iff : hitB G i = true ↔ ∃ j, j ≠ i ∧ ∃ r, G[j]? = some r ∧ (r ≠ gAt G i ∨ j < i) ∧ ∀ c ∈ gAt G i, c ∈ r := by
  unfold hitB
  rw [List.any_eq_true]
  constructor
  · rintro ⟨r, hr, h⟩
    obtain ⟨j, hne, hj, hor⟩ := mem_othB.mp hr
    exact ⟨j, hne, r, hj, hor, fun c hc => of_decide_eq_true (List.all_eq_true.mp h c hc)⟩
  · rintro ⟨j, hne, r, hj, hor, h⟩
    exact ⟨r, mem_othB.mpr ⟨j, hne, hj, hor⟩, List.all_eq_true.mpr fun c hc => decide_eq_true (h c hc)⟩
theorem Red.refl {kept : Str → Prop} {R : List (List Str)} : Red kept R R := ⟨fun r h => ⟨r, h, fun c hc => hc⟩, fun r h => ⟨r, h, fun c hc => .inl hc⟩, fun c h hn => absurd h hn⟩
theorem stepB_red (hi : i < G.length) : Red (fun _ => False) G (stepB G i) := by
  unfold stepB
  by_cases h : hitB G i = true
  · rw [if_pos h]
    obtain ⟨j, hne, q, hj, hor, hsub⟩ := hitB_iff.mp h
    have hq : q ∈ G.set i [] := (mem_set hi).mpr (.inr ⟨j, hne, hj⟩)
    have hup : ∀ r ∈ G, ∃ r' ∈ G.set i [], ∀ c ∈ r, c ∈ r' := fun r hr => by
      obtain ⟨k, hk, rfl⟩ := List.getElem_of_mem hr
      by_cases e : k = i
      · subst e
        exact ⟨q, hq, fun c hc => hsub c (by rw [gAt_eq hk]; exact hc)⟩
      · exact ⟨G[k], (mem_set hi).mpr (.inr ⟨k, e, List.getElem?_eq_getElem hk⟩), fun c hc => hc⟩
    refine ⟨fun r hr => ?_, fun r hr => ?_, fun c hc hn => ?_⟩
    · rcases (mem_set hi).mp hr with e | ⟨k, hk, hk2⟩
      · exact ⟨gAt G i, by rw [gAt_eq hi]; exact List.getElem_mem hi, fun c hc => by rw [e] at hc; exact nomatch hc⟩
      · exact ⟨r, List.mem_of_getElem? hk2, fun c hc => hc⟩
    · obtain ⟨r', hr', h⟩ := hup r hr
      exact ⟨r', hr', fun c hc => .inl (h c hc)⟩
    · obtain ⟨r, hr, hcr⟩ := hc
      obtain ⟨r', hr', h⟩ := hup r hr
      exact absurd ⟨r', hr', h c hcr⟩ hn
  · rw [if_neg h]
    exact Red.refl
/-! how much is left -/
def phi (cols : List Str) (G : List (List Str)) : Nat := (cols.filter fun c => G.any fun r => decide (c ∈ r)).length + G.countP fun r => !decide (r = [])
theorem countP_set {p : List Str → Bool} {x : List Str} : ∀ {G : List (List Str)} {i : Nat} (hi : i < G.length), (G.set i x).countP p + (if p G[i] = true then 1 else 0) = G.countP p + (if p x = true then 1 else 0)
  | a :: G, 0, _ => by
    show (x :: G).countP p + (if p a = true then 1 else 0) = _
    rw [List.countP_cons, List.countP_cons]
    omega
  | a :: G, i + 1, h => by
    have hi : i < G.length := by simpa using h
    have ih := countP_set (p := p) (x := x) (G := G) (i := i) hi
    show (a :: G.set i x).countP p + (if p G[i] = true then 1 else 0) = _
    rw [List.countP_cons, List.countP_cons]
    omega
theorem set_self (hi : i < G.length) {x : List Str} (e : x = G[i]) : G.set i x = G := by
  rw [e]
  exact List.set_getElem_self hi
theorem stepA_phi {cols : List Str} (hs : ∀ r ∈ G, ∀ c ∈ r, c ∈ cols) (hi : i < G.length) : stepA G i = G ∨ phi cols (stepA G i) < phi cols G := by
  by_cases e : rowA G i = gAt G i
  · left
    exact set_self hi (e.trans (gAt_eq hi))
  · right
    have hx : ∃ c ∈ gAt G i, c ∉ rowA G i := Classical.byContradiction fun hn => e (by
      unfold rowA
      exact List.filter_eq_self.mpr fun c hc => by
        have : c ∈ rowA G i := Classical.byContradiction fun h => hn ⟨c, hc, h⟩
        exact (List.mem_filter.mp this).2)
    obtain ⟨c, hc, hcn⟩ := hx
    have hGi : gAt G i ∈ G := by rw [gAt_eq hi]; exact List.getElem_mem hi
    have h1 : (cols.filter fun c => (stepA G i).any fun r => decide (c ∈ r)).length < (cols.filter fun c => G.any fun r => decide (c ∈ r)).length := by
      refine filter_lt (fun d _ hd => ?_) ⟨c, hs _ hGi c hc, List.any_eq_true.mpr ⟨_, hGi, decide_eq_true hc⟩, ?_⟩
      · obtain ⟨r, hr, hdr⟩ := List.any_eq_true.mp hd
        obtain ⟨q, hq, hsub⟩ := (stepA_red hi).down r hr
        exact List.any_eq_true.mpr ⟨q, hq, decide_eq_true (hsub d (of_decide_eq_true hdr))⟩
      · rw [List.any_eq_false]
        intro r hr hcr
        have hcr := of_decide_eq_true hcr
        rcases (mem_set hi).mp hr with e | ⟨j, hne, hj⟩
        · rw [e] at hcr
          exact hcn hcr
        · exact hcn (mem_rowA.mpr ⟨hc, j, hne, r, hj, hcr⟩)
    have h2 := countP_set (p := fun r => !decide (r = [])) (x := rowA G i) hi
    have h3 : (stepA G i).countP (fun r => !decide (r = [])) ≤ G.countP fun r => !decide (r = []) := by
      unfold stepA
      have h4 : (!decide (G[i] = [])) = true := by
        rw [← gAt_eq hi]
        cases hg : gAt G i with
        | nil => rw [hg] at hc; exact nomatch hc
        | cons a t => simp
      rw [if_pos h4] at h2
      split at h2 <;> omega
    unfold phi
    omega
theorem stepB_phi {cols : List Str} (hi : i < G.length) : stepB G i = G ∨ phi cols (stepB G i) < phi cols G := by
  unfold stepB
  by_cases h : hitB G i = true
  · rw [if_pos h]
    by_cases e : gAt G i = []
    · left
      exact set_self hi (e.symm.trans (gAt_eq hi))
    · right
      have h1 : (cols.filter fun c => (G.set i []).any fun r => decide (c ∈ r)).length ≤ (cols.filter fun c => G.any fun r => decide (c ∈ r)).length := by
        refine filter_le fun d _ hd => ?_
        obtain ⟨r, hr, hdr⟩ := List.any_eq_true.mp hd
        rcases (mem_set hi).mp hr with e | ⟨j, hne, hj⟩
        · rw [e] at hdr
          simp at hdr
        · exact List.any_eq_true.mpr ⟨r, List.mem_of_getElem? hj, hdr⟩
      have h2 := countP_set (p := fun r => !decide (r = [])) (x := []) hi
      have h4 : (!decide (G[i] = [])) = true := by
        rw [← gAt_eq hi, decide_eq_false e]
        rfl
      rw [if_pos h4] at h2
      simp at h2
      unfold phi
      omega
  · rw [if_neg h]
    exact .inl rfl
/-- rows as they may be on the way -/
structure Way (cols : List Str) (ps G : List (List Str)) : Prop where
  len : G.length = ps.length
  sub : ∀ r ∈ G, ∀ c ∈ r, c ∈ cols
  short : ∀ r ∈ G, r.length ≤ 24
  frm : From (fun _ => False) ps G
theorem Way.A {cols : List Str} {ps : List (List Str)} (W : Way cols ps G) (hi : i < G.length) : Way cols ps (stepA G i) where
  len := by unfold stepA; rw [List.length_set]; exact W.len
  sub := fun r hr c hc => by
    obtain ⟨q, hq, h⟩ := (stepA_red hi).down r hr
    exact W.sub q hq c (h c hc)
  short := fun r hr => by
    rcases (mem_set hi).mp hr with e | ⟨j, hne, hj⟩
    · rw [e]
      exact Nat.le_trans (List.length_filter_le ..) (W.short _ (by rw [gAt_eq hi]; exact List.getElem_mem hi))
    · exact W.short r (List.mem_of_getElem? hj)
  frm := W.frm.step (stepA_red hi)
theorem Way.B {cols : List Str} {ps : List (List Str)} (W : Way cols ps G) (hi : i < G.length) : Way cols ps (stepB G i) where
  len := by
    unfold stepB
    split
    · rw [List.length_set]; exact W.len
    · exact W.len
  sub := fun r hr c hc => by
    obtain ⟨q, hq, h⟩ := (stepB_red hi).down r hr
    exact W.sub q hq c (h c hc)
  short := fun r hr => by
    unfold stepB at hr
    split at hr
    · rcases (mem_set hi).mp hr with e | ⟨j, hne, hj⟩
      · rw [e]; exact Nat.zero_le _
      · exact W.short r (List.mem_of_getElem? hj)
    · exact W.short r hr
  frm := W.frm.step (stepB_red hi)
/-- nothing more happens -/
structure Fix (G : List (List Str)) : Prop where
  a : ∀ i, i < G.length → stepA G i = G
  b : ∀ i, i < G.length → stepB G i = G
theorem Fix.empty {cols : List Str} {ps : List (List Str)} (F : Fix G) (W : Way cols ps G) : (∀ r ∈ G, r = []) ↔ NoStab ps := by
  refine ⟨fun h => W.frm.allEmpty h, fun hns => Classical.byContradiction fun hn => ?_⟩
  have hB : ∀ i j, i < G.length → j < G.length → i ≠ j → gAt G i ≠ [] → (gAt G j ≠ gAt G i ∨ j < i) → ¬ ∀ c ∈ gAt G i, c ∈ gAt G j := fun i j hi hj hne h0 hor hsub => by
    have hb := F.b i hi
    have hhit : hitB G i = true := hitB_iff.mpr ⟨j, fun e => hne e.symm, gAt G j, by rw [gAt_eq hj]; exact List.getElem?_eq_getElem hj, hor, hsub⟩
    unfold stepB at hb
    rw [if_pos hhit] at hb
    have : (G.set i [])[i]? = some [] := by rw [List.getElem?_set_self hi]
    rw [hb, List.getElem?_eq_getElem hi] at this
    exact h0 (by rw [gAt_eq hi]; exact Option.some.inj this)
  have hC : ∀ i j, i < G.length → j < G.length → i ≠ j → gAt G i ≠ [] → ¬ ∀ c ∈ gAt G i, c ∈ gAt G j := fun i j hi hj hne h0 hsub => by
    by_cases e : gAt G j = gAt G i
    · rcases Nat.lt_or_gt_of_ne hne with h | h
      · exact hB j i hj hi (fun e2 => hne e2.symm) (by rw [e]; exact h0) (.inr h) (fun c hc => by rw [← e]; exact hc)
      · exact hB i j hi hj hne h0 (.inr h) hsub
    · exact hB i j hi hj hne h0 (.inl e) hsub
  have hst : Stab (fun _ => False) G (inRows G) := by
    intro v hv
    refine ⟨hv, fun _ ⟨q, hq, hvq, hall⟩ => ?_⟩
    obtain ⟨j, hj, rfl⟩ := List.getElem_of_mem hq
    have ha := F.a j hj
    have hvr : v ∈ rowA G j := by
      have : (stepA G j)[j]? = some (rowA G j) := by unfold stepA; rw [List.getElem?_set_self hj]
      rw [ha, List.getElem?_eq_getElem hj] at this
      rw [← Option.some.inj this]
      exact hvq
    obtain ⟨_, k, hkne, r, hk, hvk⟩ := mem_rowA.mp hvr
    obtain ⟨hk1, hk2⟩ := List.getElem?_eq_some_iff.mp hk
    refine hC k j hk1 hj hkne (fun e => ?_) fun c hc => ?_
    · rw [gAt_eq hk1, hk2] at e
      rw [e] at hvk
      exact nomatch hvk
    · rw [gAt_eq hk1, hk2] at hc
      rw [gAt_eq hj]
      exact hall r (List.mem_of_getElem? hk) hvk c hc ⟨r, List.mem_of_getElem? hk, hc⟩
  have : ∃ r ∈ G, r ≠ [] := Classical.byContradiction fun h => hn fun r hr => Classical.byContradiction fun h2 => h ⟨r, hr, h2⟩
  obtain ⟨r, hr, h0⟩ := this
  obtain ⟨c, t, e⟩ := List.exists_cons_of_ne_nil h0
  exact hns c ⟨inRows G, (W.frm.stab _).mpr hst, r, hr, by rw [e]; exact List.mem_cons_self ..⟩
/-- many steps in a row -/
theorem fold_phi {cols : List Str} {ps : List (List Str)} {f : List (List Str) → Nat → List (List Str)} (hw : ∀ G i, Way cols ps G → i < ps.length → Way cols ps (f G i) ∧ (f G i = G ∨ phi cols (f G i) < phi cols G)) : ∀ (l : List Nat) {G : List (List Str)}, (∀ i ∈ l, i < ps.length) → Way cols ps G → Way cols ps (l.foldl f G) ∧ ((l.foldl f G = G ∧ ∀ i ∈ l, f G i = G) ∨ phi cols (l.foldl f G) < phi cols G)
  | [], G, _, W => ⟨W, .inl ⟨rfl, fun _ h => nomatch h⟩⟩
  | i :: l, G, hl, W => by
    rw [List.foldl_cons]
    obtain ⟨W1, h1⟩ := hw G i W (hl i (List.mem_cons_self ..))
    obtain ⟨W2, h2⟩ := fold_phi hw l (G := f G i) (fun j hj => hl j (List.mem_cons_of_mem _ hj)) W1
    refine ⟨W2, ?_⟩
    rcases h1 with e | h1
    · rw [e] at h2 ⊢
      rcases h2 with ⟨e2, h3⟩ | h2
      · exact .inl ⟨e2, fun j hj => by
          rcases List.mem_cons.mp hj with e3 | hj
          · rw [e3]; exact e
          · exact h3 j hj⟩
      · exact .inr h2
    · rcases h2 with ⟨e2, _⟩ | h2
      · exact .inr (by rw [e2]; exact h1)
      · exact .inr (Nat.lt_trans h2 h1)
def roundG (n : Nat) (G : List (List Str)) : List (List Str) := (List.range n).foldl stepB ((List.range n).foldl stepA G)
theorem round_phi {cols : List Str} {ps : List (List Str)} (W : Way cols ps G) : Way cols ps (roundG ps.length G) ∧ ((Fix G ∧ roundG ps.length G = G) ∨ phi cols (roundG ps.length G) < phi cols G) := by
  have hA := fold_phi (cols := cols) (ps := ps) (f := stepA) (fun G i W hi => ⟨W.A (by rw [W.len]; exact hi), stepA_phi W.sub (by rw [W.len]; exact hi)⟩) (List.range ps.length) (G := G) (fun i hi => List.mem_range.mp hi) W
  have hB := fold_phi (cols := cols) (ps := ps) (f := stepB) (fun G i W hi => ⟨W.B (by rw [W.len]; exact hi), stepB_phi (by rw [W.len]; exact hi)⟩) (List.range ps.length) (G := (List.range ps.length).foldl stepA G) (fun i hi => List.mem_range.mp hi) hA.1
  refine ⟨hB.1, ?_⟩
  rcases hA.2 with ⟨e, ha⟩ | h
  · rcases hB.2 with ⟨e2, hb⟩ | h
    · left
      rw [e] at e2 hb
      have e3 : roundG ps.length G = G := by
        unfold roundG
        rw [e, e2]
      exact ⟨⟨fun i hi => ha i (List.mem_range.mpr (by rw [← W.len]; exact hi)), fun i hi => hb i (List.mem_range.mpr (by rw [← W.len]; exact hi))⟩, e3⟩
    · right
      rw [e] at h
      unfold roundG
      rw [e]
      exact h
  · right
    rcases hB.2 with ⟨e2, _⟩ | h2
    · unfold roundG
      rw [e2]
      exact h
    · exact Nat.lt_trans h2 h
/-- after many rounds -/
structure Rounds (cols : List Str) (ps G : List (List Str)) (t : Nat) : Prop where
  way : Way cols ps G
  cnt : Fix G ∨ phi cols G + t ≤ cols.length + ps.length
theorem Rounds.next {cols : List Str} {ps : List (List Str)} {t : Nat} (R : Rounds cols ps G t) : Rounds cols ps (roundG ps.length G) (t + 1) := by
  obtain ⟨W, h⟩ := round_phi R.way
  refine ⟨W, ?_⟩
  rcases h with ⟨F, e⟩ | h
  · rw [e]
    exact .inl F
  · rcases R.cnt with F | h2
    · left
      have e : roundG ps.length G = G := by
        obtain ⟨_, h3⟩ := round_phi R.way
        have hA : (List.range ps.length).foldl stepA G = G := by
          have : ∀ l : List Nat, (∀ i ∈ l, i < G.length) → l.foldl stepA G = G := by
            intro l
            induction l with
            | nil => intro _; rfl
            | cons i l ih => intro hl; rw [List.foldl_cons, F.a i (hl i (List.mem_cons_self ..))]; exact ih fun j hj => hl j (List.mem_cons_of_mem _ hj)
          exact this _ fun i hi => by rw [R.way.len]; exact List.mem_range.mp hi
        have hB : (List.range ps.length).foldl stepB G = G := by
          have : ∀ l : List Nat, (∀ i ∈ l, i < G.length) → l.foldl stepB G = G := by
            intro l
            induction l with
            | nil => intro _; rfl
            | cons i l ih => intro hl; rw [List.foldl_cons, F.b i (hl i (List.mem_cons_self ..))]; exact ih fun j hj => hl j (List.mem_cons_of_mem _ hj)
          exact this _ fun i hi => by rw [R.way.len]; exact List.mem_range.mp hi
        unfold roundG
        rw [hA, hB]
      rw [e]
      exact F
    · right
      omega
theorem Way.start {cols : List Str} {ps : List (List Str)} (hc : Cols cols) (C : Cover cols ps) : Rounds cols ps ps 0 := by
  refine ⟨⟨rfl, fun r hr => (C.part r hr).sub, fun r hr => Nat.le_trans (C.part r hr).le hc.le, From.refl⟩, .inr ?_⟩
  unfold phi
  have h1 : (cols.filter fun c => ps.any fun r => decide (c ∈ r)).length ≤ cols.length := List.length_filter_le ..
  have h2 : ps.countP (fun r => !decide (r = [])) ≤ ps.length := List.countP_le_length ..
  omega
end
end PL
set_option Elab.async false
set_option linter.all false
set_option maxRecDepth 100000
set_option maxHeartbeats 4000000
/-! U8: the law's reducing by its code. -/
namespace PL
open PySem
abbrev lS (xs : List Str) : D := .list (xs.map .str)
abbrev rowsL (G : List (List Str)) : D := .list (G.map lS)
theorem lay_lists : ∀ {G : List (List Str)}, (∀ p ∈ G, OkS p) → PyData.canLayAll0 (G.map lS) = true ∧ PyData.depthAll (G.map lS) ≤ 1
  | [], _ => ⟨rfl, Nat.zero_le _⟩
  | p :: ps, h => by
    obtain ⟨h1, h2⟩ := lay_lists (G := ps) fun y hy => h y (List.mem_cons_of_mem _ hy)
    obtain ⟨h3, h4⟩ := lay_strs (h p (List.mem_cons_self ..))
    constructor
    · show (PyData.canLayAll0 (p.map PyData.str) && PyData.canLayAll0 (ps.map lS)) = true
      rw [h3, h1]; rfl
    · show max (PyData.depthAll (p.map PyData.str) + 1) (PyData.depthAll (ps.map lS)) ≤ 1
      rw [h4]; omega
theorem shaped_lists {G : List (List Str)} (h : ∀ p ∈ G, OkS p) : SeqAt.shaped (rowsL G) = true := by
  obtain ⟨h1, h2⟩ := lay_lists h
  show (PyData.canLayAll0 (G.map lS) && decide (PyData.depthAll (G.map lS) + 1 ≤ 64)) = true
  rw [h1, decide_eq_true (by omega)]; rfl
theorem neR_lists0 {G : List (List Str)} (h : ∀ p ∈ G, OkS p) : neR (.val (rowsL G)) (.val (.list [])) = some (.val (.bool (!decide (G = [])))) := by
  show (neD _ _).map _ = _
  unfold neD
  rw [if_pos ⟨shaped_lists h, rfl⟩]
  cases G <;> rfl
theorem eqR_lists0 {G : List (List Str)} (h : ∀ p ∈ G, OkS p) : eqR (.val (rowsL G)) (.val (.list [])) = some (.val (.bool (decide (G = [])))) := by
  show (eqD _ _).map _ = _
  unfold eqD
  rw [if_pos ⟨shaped_lists h, rfl⟩]
  cases G <;> rfl
theorem eqv_strs : ∀ l m : List Str, PyData.eqvAll (l.map PyData.str) (m.map PyData.str) = decide (l = m)
  | [], [] => rfl
  | [], b :: m => rfl
  | a :: l, [] => rfl
  | a :: l, b :: m => by
    show ((a == b) && PyData.eqvAll (l.map PyData.str) (m.map PyData.str)) = _
    rw [eqv_strs l m]
    by_cases h : a = b <;> by_cases h2 : l = m <;> simp [h, h2]
theorem neR_strs {l m : List Str} (hl : OkS l) (hm : OkS m) : neR (.val (lS l)) (.val (lS m)) = some (.val (.bool (!decide (l = m)))) := by
  show (neD _ _).map _ = _
  unfold neD
  rw [if_pos ⟨shaped_lS hl, shaped_lS hm⟩]
  show some (RV.val (.bool (!PyData.eqvAll _ _))) = _
  rw [eqv_strs]
theorem ltR_nat {i j : Nat} : ltR (.val (.int ((i : Nat) : Int))) (.val (.int ((j : Nat) : Int))) = some (.val (.bool (decide (i < j)))) := by
  rw [ltR_int]
  congr 3
  rw [Bool.eq_iff_iff, decide_eq_true_eq, decide_eq_true_eq]
  omega
theorem atI_lists {G : List (List Str)} {i : Nat} (h : i < G.length) : L2.atI (G.map lS) ((i : Nat) : Int) = some (lS (gAt G i)) := by
  rw [atI_nat (by simpa using h), List.getElem_map, gAt_eq h]
theorem any_ne {ι : Type} {xs : List ι} {p : ι → Bool} [DecidableEq ι] : (!decide (xs.filter p = [])) = xs.any p := by
  rw [Bool.eq_iff_iff, Bool.not_eq_true', decide_eq_false_iff_not, List.filter_eq_nil_iff, List.any_eq_true]
  exact ⟨fun h => Classical.byContradiction fun hn => h fun o ho hno => hn ⟨o, ho, hno⟩, fun ⟨o, ho, h⟩ hn => hn o ho h⟩
@[simp] theorem enum1_bor {ds : List D} : enum1 [.bor (.list ds)] = some (enD ds, true) := id rfl
theorem othA_sub {G : List (List Str)} {i : Nat} {r : List Str} (h : r ∈ othA G i) : r ∈ G := by
  obtain ⟨j, _, hj⟩ := mem_othA.mp h
  exact List.mem_of_getElem? hj
theorem othB_sub {G : List (List Str)} {i : Nat} {r : List Str} (h : r ∈ othB G i) : r ∈ G := by
  obtain ⟨j, _, hj, _⟩ := mem_othB.mp h
  exact List.mem_of_getElem? hj
theorem othA_len (G : List (List Str)) (i : Nat) : (othA G i).length ≤ G.length := by
  unfold othA
  rw [List.length_map]
  exact Nat.le_trans (List.length_filter_le ..) (by rw [List.length_zipIdx]; exact Nat.le_refl _)
theorem othB_len (G : List (List Str)) (i : Nat) : (othB G i).length ≤ G.length := by
  unfold othB
  rw [List.length_map]
  exact Nat.le_trans (List.length_filter_le ..) (by rw [List.length_zipIdx]; exact Nat.le_refl _)
end PL
namespace JS
open PySem PL
section
variable {cols : List Str} {ps G : List (List Str)} {i : Nat} {s0 s2 s4 s5 s6 s7 s8 : Slot}
theorem graham_A (hc : Cols cols) (W : Way cols ps G) (hpl : ps.length ≤ 24) (hi : i < G.length) :
    (sSeq (sSetF 5 (xLc (iRng enum1 (aCons (xVar 1) aNil)) [8, 6] (gTp 2 (gsCons (gNm 8) (gsCons (gNm 6) gsNil))) (tBin neR (xVar 8) (xVar 3)) (xVar 6))) (sStore 1 (xVar 3) (xLc (iSeq (xIx (xVar 1) (xVar 3))) [7] (gNm 7) (tBin neR (xLc (iSeq (xVar 5)) [6] (gNm 6) (tBin inR (xVar 7) (xVar 6)) (xVar 6)) (xLst aNil)) (xVar 7)))) [s0, .own (rowsL G), s2, .val (.int ((i : Nat) : Int)), s4, s5, s6, s7, s8]
      = retM (.nx [s0, .own (rowsL (stepA G i)), s2, .val (.int ((i : Nat) : Int)), s4, .val (rowsL (othA G i)), s6, s7, s8]) := by
  have hGl : G.length ≤ 24 := by rw [W.len]; exact hpl
  have okG : ∀ p ∈ G, OkS p := fun p hp c hcp => hc.okS c (W.sub p hp c hcp)
  have hGi : gAt G i ∈ G := by rw [gAt_eq hi]; exact List.getElem_mem hi
  have hal := othA_len G i
  have e1 : xLc (iRng enum1 (aCons (xVar 1) aNil)) [8, 6] (gTp 2 (gsCons (gNm 8) (gsCons (gNm 6) gsNil))) (tBin neR (xVar 8) (xVar 3)) (xVar 6) [s0, .own (rowsL G), s2, .val (.int ((i : Nat) : Int)), s4, s5, s6, s7, s8] = retM (.own (rowsL (othA G i))) := by
    have hs : iRng enum1 (aCons (xVar 1) aNil) [s0, .own (rowsL G), s2, .val (.int ((i : Nat) : Int)), s4, s5, s6, s7, s8] = retM (enD (G.map lS), true) := iRng_ret (rs := [.bor (rowsL G)]) (by simp) rfl
    rw [xLc_def hs (by rw [enD_map, List.length_map, List.length_zipIdx]; exact small_le (by omega)), enD_map]
    rw [compL_filter (p := fun p => !decide (p.2 = i)) (F := fun p => lS p.1) fun p hp => ?_]
    · rw [bindM_ret]
      unfold othA
      rw [rowsL, List.map_map]
      rfl
    · simp only [turnL, wipeS, List.set, gTp, gsCons, gsNil, gNm_def, List.length_cons, List.length_nil, Nat.zero_add, Nat.reduceAdd, if_true, Option.bind_some, liftO_some, bindM_ret, tBin_def, xVar_def, look_val, look_suc, useM_ret, frz_val, neR_int, intEq, isB_bool]
      by_cases h : p.2 = i <;> simp [h]
  have e2 : xLc (iSeq (xIx (xVar 1) (xVar 3))) [7] (gNm 7) (tBin neR (xLc (iSeq (xVar 5)) [6] (gNm 6) (tBin inR (xVar 7) (xVar 6)) (xVar 6)) (xLst aNil)) (xVar 7) [s0, .own (rowsL G), s2, .val (.int ((i : Nat) : Int)), s4, .val (rowsL (othA G i)), s6, s7, s8] = retM (.own (lS (rowA G i))) := by
    have hs : iSeq (xIx (xVar 1) (xVar 3)) [s0, .own (rowsL G), s2, .val (.int ((i : Nat) : Int)), s4, .val (rowsL (othA G i)), s6, s7, s8] = retM ((gAt G i).map PyData.str, false) := by
      simp only [iSeq_def, xIx_def, xVar_def, look_val, look_own, look_suc, liftO_some, useM_ret, frz_val, frz_bor, ixM_bor, atI_lists hi, Option.map_some, walk_list]
    have hsl := W.short _ hGi
    rw [xLc_def hs (by rw [List.length_map]; exact small_le (by omega))]
    rw [compL_filter (p := fun c => (othA G i).any fun r => decide (c ∈ r)) (F := PyData.str) fun c hcp => ?_]
    · rw [bindM_ret]
      rfl
    · have okc := okG _ hGi c hcp
      have e3 : xLc (iSeq (xVar 5)) [6] (gNm 6) (tBin inR (xVar 7) (xVar 6)) (xVar 6) [s0, .own (rowsL G), s2, .val (.int ((i : Nat) : Int)), s4, .val (rowsL (othA G i)), s6, .val (.str c), s8] = retM (.own (rowsL ((othA G i).filter fun r => decide (c ∈ r)))) := by
        rw [xLc_def (ds := (othA G i).map lS) (b := false) (by simp) (by rw [List.length_map]; exact small_le (by omega))]
        rw [compL_filter (p := fun r => decide (c ∈ r)) (F := lS) fun r hr => ?_]
        · rw [bindM_ret]
        · have e4 := inR_lS (r := .val (lS r)) (x := c) (xs := r) rfl okc (okG r (othA_sub hr))
          simp only [turnL, wipeS, List.set, gNm_def, liftO_some, bindM_ret, tBin_def, xVar_def, look_val, look_suc, useM_ret, frz_val, e4, Option.bind_some, isB_bool]
          by_cases h : c ∈ r <;> simp [h]
      have e5 := neR_lists0 (G := (othA G i).filter fun r => decide (c ∈ r)) fun p hp => okG p (othA_sub (List.mem_filter.mp hp).1)
      rw [any_ne] at e5
      simp only [turnL, wipeS, List.set, gNm_def, liftO_some, bindM_ret, tBin_def, e3, useM_ret, frz_own, xLst_def, aNil_def, valsOf_nil, Option.bind_some, List.length_nil, Nat.zero_le, if_true, e5, isB_bool]
      cases ((othA G i).any fun r => decide (c ∈ r)) <;> simp
  have e6 := storeM_list (ρ := [s0, .own (rowsL G), s2, .val (.int ((i : Nat) : Int)), s4, .val (rowsL (othA G i)), s6, s7, s8]) (j := 1) (k := i) (ds := G.map lS) (v := lS (rowA G i)) rfl (by simpa using hi)
  simp only [sSeq_def, sSetF_def, e1, useM_ret, frz_own, slotV_val, liftO_some, bindM_ret, List.set, sStore_def, e2, valOf_val, hasSlot, List.getElem?_cons_succ, List.getElem?_cons_zero, xVar_def, look_val, look_suc, frz_val, e6]
  have e7 : (G.map lS).set i (lS (rowA G i)) = (stepA G i).map lS := by
    unfold stepA
    rw [List.map_set]
  rw [e7]
theorem graham_B (hc : Cols cols) (W : Way cols ps G) (hpl : ps.length ≤ 24) (hi : i < G.length) :
    (sSeq (sSetF 5 (xLc (iRng enum1 (aCons (xVar 1) aNil)) [8, 6] (gTp 2 (gsCons (gNm 8) (gsCons (gNm 6) gsNil))) (tAndM (tBin neR (xVar 8) (xVar 3)) (tOrM (tBin neR (xVar 6) (xIx (xVar 1) (xVar 3))) (tBin ltR (xVar 8) (xVar 3)))) (xVar 6))) (sIf (tBin neR (xLc (iSeq (xVar 5)) [6] (gNm 6) (tBin eqR (xLc (iSeq (xIx (xVar 1) (xVar 3))) [7] (gNm 7) (tBin notInR (xVar 7) (xVar 6)) (xVar 7)) (xLst aNil)) (xVar 6)) (xLst aNil)) (sStore 1 (xVar 3) (xLst aNil)) sNil)) [s0, .own (rowsL G), s2, .val (.int ((i : Nat) : Int)), s4, s5, s6, s7, s8]
      = retM (.nx [s0, .own (rowsL (stepB G i)), s2, .val (.int ((i : Nat) : Int)), s4, .val (rowsL (othB G i)), s6, s7, s8]) := by
  have hGl : G.length ≤ 24 := by rw [W.len]; exact hpl
  have okG : ∀ p ∈ G, OkS p := fun p hp c hcp => hc.okS c (W.sub p hp c hcp)
  have hGi : gAt G i ∈ G := by rw [gAt_eq hi]; exact List.getElem_mem hi
  have hbl := othB_len G i
  have hsl := W.short _ hGi
  have e1 : xLc (iRng enum1 (aCons (xVar 1) aNil)) [8, 6] (gTp 2 (gsCons (gNm 8) (gsCons (gNm 6) gsNil))) (tAndM (tBin neR (xVar 8) (xVar 3)) (tOrM (tBin neR (xVar 6) (xIx (xVar 1) (xVar 3))) (tBin ltR (xVar 8) (xVar 3)))) (xVar 6) [s0, .own (rowsL G), s2, .val (.int ((i : Nat) : Int)), s4, s5, s6, s7, s8] = retM (.own (rowsL (othB G i))) := by
    have hs : iRng enum1 (aCons (xVar 1) aNil) [s0, .own (rowsL G), s2, .val (.int ((i : Nat) : Int)), s4, s5, s6, s7, s8] = retM (enD (G.map lS), true) := iRng_ret (rs := [.bor (rowsL G)]) (by simp) rfl
    rw [xLc_def hs (by rw [enD_map, List.length_map, List.length_zipIdx]; exact small_le (by omega)), enD_map]
    rw [compL_filter (p := fun p => !decide (p.2 = i) && (!decide (p.1 = gAt G i) || decide (p.2 < i))) (F := fun p => lS p.1) fun p hp => ?_]
    · rw [bindM_ret]
      unfold othB
      rw [rowsL, List.map_map]
      rfl
    · have hpG : p.1 ∈ G := List.mem_of_getElem? (List.mem_zipIdx_iff_getElem?.mp hp)
      have e4 := neR_strs (okG p.1 hpG) (okG _ hGi)
      simp only [turnL, wipeS, List.set, gTp, gsCons, gsNil, gNm_def, List.length_cons, List.length_nil, Nat.zero_add, Nat.reduceAdd, if_true, Option.bind_some, liftO_some, bindM_ret, tAndM_def, tOrM_def, tBin_def, xVar_def, look_val, look_own, look_suc, useM_ret, frz_val, frz_bor, neR_int, intEq, isB_bool, xIx_def, ixM_bor, atI_lists hi, Option.map_some, e4, ltR_nat]
      by_cases h : p.2 = i
      · simp [h]
      · simp only [h, decide_false, Bool.not_false, if_true, Bool.true_and]
        cases decide (p.1 = gAt G i) <;> cases decide (p.2 < i) <;> simp
  have e2 : xLc (iSeq (xVar 5)) [6] (gNm 6) (tBin eqR (xLc (iSeq (xIx (xVar 1) (xVar 3))) [7] (gNm 7) (tBin notInR (xVar 7) (xVar 6)) (xVar 7)) (xLst aNil)) (xVar 6) [s0, .own (rowsL G), s2, .val (.int ((i : Nat) : Int)), s4, .val (rowsL (othB G i)), s6, s7, s8] = retM (.own (rowsL ((othB G i).filter fun r => (gAt G i).all fun c => decide (c ∈ r)))) := by
    rw [xLc_def (ds := (othB G i).map lS) (b := false) (by simp) (by rw [List.length_map]; exact small_le (by omega))]
    rw [compL_filter (p := fun r => (gAt G i).all fun c => decide (c ∈ r)) (F := lS) fun r hr => ?_]
    · rw [bindM_ret]
    · have e3 : xLc (iSeq (xIx (xVar 1) (xVar 3))) [7] (gNm 7) (tBin notInR (xVar 7) (xVar 6)) (xVar 7) [s0, .own (rowsL G), s2, .val (.int ((i : Nat) : Int)), s4, .val (rowsL (othB G i)), .val (lS r), s7, s8] = retM (.own (lS ((gAt G i).filter fun c => !decide (c ∈ r)))) := by
        have hs : iSeq (xIx (xVar 1) (xVar 3)) [s0, .own (rowsL G), s2, .val (.int ((i : Nat) : Int)), s4, .val (rowsL (othB G i)), .val (lS r), s7, s8] = retM ((gAt G i).map PyData.str, false) := by
          simp only [iSeq_def, xIx_def, xVar_def, look_val, look_own, look_suc, liftO_some, useM_ret, frz_val, frz_bor, ixM_bor, atI_lists hi, Option.map_some, walk_list]
        rw [xLc_def hs (by rw [List.length_map]; exact small_le (by omega))]
        rw [compL_filter (p := fun c => !decide (c ∈ r)) (F := PyData.str) fun c hcp => ?_]
        · rw [bindM_ret]
        · have e4 := notIn_lS (r := .val (lS r)) (x := c) (xs := r) rfl (okG _ hGi c hcp) (okG r (othB_sub hr))
          simp only [turnL, wipeS, List.set, gNm_def, liftO_some, bindM_ret, tBin_def, xVar_def, look_val, look_suc, useM_ret, frz_val, e4, Option.bind_some, isB_bool]
          by_cases h : c ∈ r <;> simp [h]
      have e5 := eqR_nilL (r := .val (lS ((gAt G i).filter fun c => !decide (c ∈ r)))) (xs := (gAt G i).filter fun c => !decide (c ∈ r)) rfl fun c hcp => okG _ hGi c (List.mem_filter.mp hcp).1
      have e6 : decide (((gAt G i).filter fun c => !decide (c ∈ r)) = []) = (gAt G i).all fun c => decide (c ∈ r) := by
        rw [Bool.eq_iff_iff, decide_eq_true_eq, List.filter_eq_nil_iff, List.all_eq_true]
        refine forall_congr' fun c => forall_congr' fun _ => ?_
        by_cases h : c ∈ r <;> simp [h]
      rw [e6] at e5
      simp only [turnL, wipeS, List.set, gNm_def, liftO_some, bindM_ret, tBin_def, e3, useM_ret, frz_own, xLst_def, aNil_def, valsOf_nil, Option.bind_some, List.length_nil, Nat.zero_le, if_true, e5, isB_bool]
      cases ((gAt G i).all fun c => decide (c ∈ r)) <;> simp
  have e5 := neR_lists0 (G := (othB G i).filter fun r => (gAt G i).all fun c => decide (c ∈ r)) fun p hp => okG p (othB_sub (List.mem_filter.mp hp).1)
  rw [any_ne] at e5
  have e6 := storeM_list (ρ := [s0, .own (rowsL G), s2, .val (.int ((i : Nat) : Int)), s4, .val (rowsL (othB G i)), s6, s7, s8]) (j := 1) (k := i) (ds := G.map lS) (v := .list []) rfl (by simpa using hi)
  simp only [sSeq_def, sSetF_def, e1, useM_ret, frz_own, slotV_val, liftO_some, bindM_ret, List.set, sIf_def, tBin_def, e2, xLst_def, aNil_def, valsOf_nil, Option.bind_some, List.length_nil, Nat.zero_le, if_true, e5, isB_bool]
  unfold stepB hitB
  cases ((othB G i).any fun r => (gAt G i).all fun c => decide (c ∈ r)) with
  | false => simp only [Bool.false_eq_true, if_false, sNil_def]
  | true =>
    simp only [if_true, sStore_def, xLst_def, aNil_def, bindM_ret, valsOf_nil, Option.bind_some, List.length_nil, Nat.zero_le, liftO_some, useM_ret, frz_own, valOf_val, hasSlot, List.getElem?_cons_succ, List.getElem?_cons_zero, xVar_def, look_val, look_suc, frz_val, e6, List.set]
    have e7 : (G.map lS).set i (.list []) = (G.set i []).map lS := by
      rw [List.map_set]
      rfl
    rw [e7]
end
end JS
set_option Elab.async false
set_option linter.all false
set_option maxRecDepth 100000
set_option maxHeartbeats 4000000
/-! U9: the law's reducing, whole. -/
namespace JS
open PySem PL
section
variable {cols : List Str} {ps G : List (List Str)} {gs : GS} {s0 s2 s3 s4 s5 s6 s7 s8 : Slot}
theorem graham_round (hc : Cols cols) (W : Way cols ps G) (hpl : ps.length ≤ 24) :
    wp (sSeq (sFor (iRng rng1 (aCons (xCall lenR (aCons (xVar 1) aNil)) aNil)) (gNm 3) (sSeq (sSetF 5 (xLc (iRng enum1 (aCons (xVar 1) aNil)) [8, 6] (gTp 2 (gsCons (gNm 8) (gsCons (gNm 6) gsNil))) (tBin neR (xVar 8) (xVar 3)) (xVar 6))) (sStore 1 (xVar 3) (xLc (iSeq (xIx (xVar 1) (xVar 3))) [7] (gNm 7) (tBin neR (xLc (iSeq (xVar 5)) [6] (gNm 6) (tBin inR (xVar 7) (xVar 6)) (xVar 6)) (xLst aNil)) (xVar 7))))) (sFor (iRng rng1 (aCons (xCall lenR (aCons (xVar 1) aNil)) aNil)) (gNm 3) (sSeq (sSetF 5 (xLc (iRng enum1 (aCons (xVar 1) aNil)) [8, 6] (gTp 2 (gsCons (gNm 8) (gsCons (gNm 6) gsNil))) (tAndM (tBin neR (xVar 8) (xVar 3)) (tOrM (tBin neR (xVar 6) (xIx (xVar 1) (xVar 3))) (tBin ltR (xVar 8) (xVar 3)))) (xVar 6))) (sIf (tBin neR (xLc (iSeq (xVar 5)) [6] (gNm 6) (tBin eqR (xLc (iSeq (xIx (xVar 1) (xVar 3))) [7] (gNm 7) (tBin notInR (xVar 7) (xVar 6)) (xVar 7)) (xLst aNil)) (xVar 6)) (xLst aNil)) (sStore 1 (xVar 3) (xLst aNil)) sNil))) [s0, .own (rowsL G), s2, s3, s4, s5, s6, s7, s8]) gs
    fun o g => ∃ ρ2, o = .nx ρ2 ∧ g = gs ∧ ∃ s3 s5, ρ2 = [s0, .own (rowsL (roundG ps.length G)), s2, s3, s4, s5, s6, s7, s8] := by
  have hrng : ∀ (G : List (List Str)) (s3 s5 : Slot), Way cols ps G → iRng rng1 (aCons (xCall lenR (aCons (xVar 1) aNil)) aNil) [s0, .own (rowsL G), s2, s3, s4, s5, s6, s7, s8] = retM (rngD 0 ps.length, false) := fun G s3 s5 W => iRng_ret (rs := [.val (.int (ps.length : Nat))]) (by simp [W.len]) (rng1_nat (by omega))
  have hA : ∀ {pre : List Nat} {i : Nat} {post : List Nat}, List.range ps.length = pre ++ i :: post → Way cols ps (pre.foldl stepA G) ∧ i < (pre.foldl stepA G).length := fun {pre i post} ea => by
    have hm : ∀ j ∈ pre, j < ps.length := fun j hj => List.mem_range.mp (by rw [ea]; exact List.mem_append_left _ hj)
    have := (fold_phi (cols := cols) (ps := ps) (f := stepA) (fun G i W hi => ⟨W.A (by rw [W.len]; exact hi), stepA_phi W.sub (by rw [W.len]; exact hi)⟩) pre (G := G) hm W).1
    exact ⟨this, by rw [this.len]; exact (range_split ea).2⟩
  have WA := (fold_phi (cols := cols) (ps := ps) (f := stepA) (fun G i W hi => ⟨W.A (by rw [W.len]; exact hi), stepA_phi W.sub (by rw [W.len]; exact hi)⟩) (List.range ps.length) (G := G) (fun i hi => List.mem_range.mp hi) W).1
  have hB : ∀ {pre : List Nat} {i : Nat} {post : List Nat}, List.range ps.length = pre ++ i :: post → Way cols ps (pre.foldl stepB ((List.range ps.length).foldl stepA G)) ∧ i < (pre.foldl stepB ((List.range ps.length).foldl stepA G)).length := fun {pre i post} ea => by
    have hm : ∀ j ∈ pre, j < ps.length := fun j hj => List.mem_range.mp (by rw [ea]; exact List.mem_append_left _ hj)
    have := (fold_phi (cols := cols) (ps := ps) (f := stepB) (fun G i W hi => ⟨W.B (by rw [W.len]; exact hi), stepB_phi (by rw [W.len]; exact hi)⟩) pre (G := (List.range ps.length).foldl stepA G) hm WA).1
    exact ⟨this, by rw [this.len]; exact (range_split ea).2⟩
  rw [sSeq_def, sFor_def, hrng G s3 s5 W]
  simp only [bindM_ret, if_true, wp_bind]
  rw [rngD_map]
  refine wp_mono (wp_forL (all := List.range ps.length) (e := fun i => PyData.int (i : Nat)) (fun pre ρ g => g = gs ∧ ∃ s3 s5, ρ = [s0, .own (rowsL (pre.foldl stepA G)), s2, s3, s4, s5, s6, s7, s8]) (fun _ _ => False) (fun _ _ => False) (fun pre i post ρ g ea ⟨hg, s3, s5, hρ⟩ => ?_) (pre := []) rfl ⟨rfl, s3, s5, rfl⟩) fun o g h => ?_
  · subst hρ hg
    obtain ⟨W1, hi⟩ := hA ea
    refine ⟨[s0, .own (rowsL (pre.foldl stepA G)), s2, .val (.int (i : Nat)), s4, s5, s6, s7, s8], rfl, ?_⟩
    rw [graham_A hc W1 hpl hi, wp_ret]
    exact ⟨rfl, _, _, by rw [List.foldl_append]; rfl⟩
  · cases o with
    | nx ρ2 =>
      rcases h with ⟨hg, s3, s5, hρ⟩ | h
      · subst hρ hg
        simp only [sFor_def]
        rw [hrng _ s3 s5 WA]
        simp only [bindM_ret, if_true]
        rw [rngD_map]
        refine wp_mono (wp_forL (all := List.range ps.length) (e := fun i => PyData.int (i : Nat)) (fun pre ρ g' => g' = g ∧ ∃ s3 s5, ρ = [s0, .own (rowsL (pre.foldl stepB ((List.range ps.length).foldl stepA G))), s2, s3, s4, s5, s6, s7, s8]) (fun _ _ => False) (fun _ _ => False) (fun pre i post ρ g' ea ⟨hg, s3, s5, hρ⟩ => ?_) (pre := []) rfl ⟨rfl, s3, s5, rfl⟩) fun o g' h => ?_
        · subst hρ hg
          obtain ⟨W1, hi⟩ := hB ea
          refine ⟨[s0, .own (rowsL (pre.foldl stepB ((List.range ps.length).foldl stepA G))), s2, .val (.int (i : Nat)), s4, s5, s6, s7, s8], rfl, ?_⟩
          rw [graham_B hc W1 hpl hi, wp_ret]
          exact ⟨rfl, _, _, by rw [List.foldl_append]; rfl⟩
        · cases o with
          | nx ρ2 =>
            rcases h with ⟨hg, s3, s5, hρ⟩ | h
            · exact ⟨ρ2, rfl, hg, s3, s5, hρ⟩
            · exact h.elim
          | ret r => exact h.elim
          | brk ρ => exact h.elim
          | cnt ρ => exact h.elim
      · exact h.elim
    | ret r => exact h.elim
    | brk ρ => exact h.elim
    | cnt ρ => exact h.elim
theorem wp_graham (hc : Cols cols) (C : Cover cols ps) : wp (M__law_graham [.val (tT ps)]) gs fun r g => g = gs ∧ ∃ b : Bool, r = .val (.bool b) ∧ (b = true ↔ NoStab ps) := by
  have hpl := C.le
  have hcl := hc.le
  unfold M__law_graham g__law_graham
  have e0 : xLc (iSeq (xVar 0)) [4] (gNm 4) tYesM (xCall listR (aCons (xVar 4) aNil)) [.val (tT ps), .un, .un, .un, .un, .un, .un, .un, .un] = retM (.own (rowsL ps)) := by
    rw [xLc_def (ds := ps.map tS) (b := false) (by simp) (by rw [List.length_map]; exact small_le (by omega))]
    rw [compL_map (F := lS) fun p hp => ?_]
    · rw [bindM_ret]
    · simp [turnL, wipeS]
  have hrng : ∀ {ρ : Sl}, iRng rng1 (aCons (xC (.int 60)) aNil) ρ = retM (rngD 0 60, false) := iRng_ret (rs := [.val (.int ((60 : Nat) : Int))]) (by simp) (rng1_nat (by omega))
  simp only [bodyM_def, sSeq_def, sSet_def, List.replicate, List.cons_append, List.nil_append, e0, bindM_ret, slotV_own, liftO_some, List.set, wp_bind, wp_calm]
  rw [sFor_def, hrng]
  simp only [bindM_ret, if_true]
  rw [rngD_map]
  refine wp_mono (wp_forL (all := List.range 60) (e := fun i => PyData.int (i : Nat)) (fun pre ρ g => g = gs ∧ ∃ G s2 s3 s4 s5 s6 s7 s8, ρ = [.val (tT ps), .own (rowsL G), s2, s3, s4, s5, s6, s7, s8] ∧ Rounds cols ps G pre.length) (fun _ _ => False) (fun _ _ => False) (fun pre i post ρ g ea ⟨hg, G, s2, s3, s4, s5, s6, s7, s8, hρ, hR⟩ => ?_) (pre := []) rfl ⟨rfl, ps, .un, .un, .un, .un, .un, .un, .un, rfl, Way.start hc C⟩) fun o g h => ?_
  · subst hρ hg
    refine ⟨[.val (tT ps), .own (rowsL G), .val (.int (i : Nat)), s3, s4, s5, s6, s7, s8], rfl, ?_⟩
    refine wp_mono (graham_round (G := G) hc hR.way hpl) fun o g2 ⟨ρ2, ho, hg, s3', s5', hρ⟩ => ?_
    subst ho hg hρ
    exact ⟨rfl, _, _, _, _, _, _, _, _, rfl, by rw [List.length_append]; exact hR.next⟩
  · cases o with
    | nx ρ2 =>
      rcases h with ⟨hg, G, s2, s3, s4, s5, s6, s7, s8, hρ, hR⟩ | h
      · subst hρ hg
        rw [List.length_range] at hR
        have hF : Fix G := hR.cnt.resolve_right fun h => by omega
        have hW := hR.way
        have okG : ∀ p ∈ G, OkS p := fun p hp c hcp => hc.okS c (hW.sub p hp c hcp)
        have hGl : G.length ≤ 24 := by rw [hW.len]; exact hpl
        have e1 : xLc (iSeq (xVar 1)) [6] (gNm 6) (tBin neR (xVar 6) (xLst aNil)) (xVar 6) [.val (tT ps), .own (rowsL G), s2, s3, s4, s5, s6, s7, s8] = retM (.own (rowsL (G.filter fun r => !decide (r = [])))) := by
          rw [xLc_def (ds := G.map lS) (b := true) (by simp) (by rw [List.length_map]; exact small_le (by omega))]
          rw [compL_filter (p := fun r => !decide (r = [])) (F := lS) fun r hr => ?_]
          · rw [bindM_ret]
          · have e2 := neR_nilL (r := .val (lS r)) (xs := r) rfl (okG r hr)
            simp only [turnL, wipeS, List.set, gNm_def, liftO_some, bindM_ret, tBin_def, xVar_def, look_val, look_suc, useM_ret, frz_val, xLst_def, aNil_def, valsOf_nil, Option.bind_some, List.length_nil, Nat.zero_le, if_true, frz_own, e2, isB_bool]
            by_cases h : r = [] <;> simp [h]
        have e3 := eqR_lists0 (G := G.filter fun r => !decide (r = [])) fun p hp => okG p (List.mem_filter.mp hp).1
        simp only [sRet_def, xBin_def, e1, useM_ret, frz_own, xLst_def, aNil_def, bindM_ret, valsOf_nil, Option.bind_some, List.length_nil, Nat.zero_le, if_true, liftO_some, e3, asRet_val, wp_ret]
        refine ⟨trivial, _, rfl, ?_⟩
        rw [← hF.empty hW, decide_eq_true_eq, List.filter_eq_nil_iff]
        refine forall_congr' fun r => forall_congr' fun _ => ?_
        by_cases h : r = [] <;> simp [h]
      · exact h.elim
    | ret r => exact h.elim
    | brk ρ => exact h.elim
    | cnt ρ => exact h.elim
end
end JS
set_option Elab.async false
set_option linter.all false
set_option maxRecDepth 100000
set_option maxHeartbeats 4000000
namespace JS
open PySem PL
theorem m_near {cols : List Str} {ps : List (List Str)} {x y : Str} (hc : Cols cols) (C : Cover cols ps) (hx : PyData.strOk x = true) (hy : PyData.strOk y = true) : M__law_near [.val (tT ps), .val (.str x), .val (.str y)] = retM (.val (.bool (nearB ps x y))) := by
  have hpl := C.le
  unfold M__law_near g__law_near
  simp only [bodyM_def, sRet_def, xBin_def, List.replicate, List.cons_append, List.nil_append]
  rw [xLc_def (ds := ps.map tS) (b := false) (by simp) (by rw [List.length_map]; exact small_le (by omega))]
  rw [compL_filter (p := fun p => decide (x ∈ p) && decide (y ∈ p)) (F := tS) fun p hp => ?_]
  · have hr : ∀ p ∈ ps.filter (fun p => decide (x ∈ p) && decide (y ∈ p)), OkS p := fun p h => (C.part p (List.mem_filter.mp h).1).okS hc
    have e := eqR_nil hr (r := .val (.list ((ps.filter fun p => decide (x ∈ p) && decide (y ∈ p)).map tS))) rfl
    have e2 : neR (.val (.list ((ps.filter fun p => decide (x ∈ p) && decide (y ∈ p)).map tS))) (.val (.list [])) = some (.val (.bool (nearB ps x y))) := by
      have hs := shaped_rows hr
      show (neD _ _).map _ = _
      unfold neD
      rw [if_pos ⟨hs, rfl⟩]
      show some (RV.val (.bool (!PyData.eqv _ _))) = _
      congr 3
      unfold nearB
      rw [Bool.eq_iff_iff, Bool.not_eq_true', List.any_eq_true]
      cases hf : ps.filter (fun p => decide (x ∈ p) && decide (y ∈ p)) with
      | nil =>
        refine ⟨(fun h => nomatch h), fun ⟨p, hp, h⟩ => ?_⟩
        rw [List.filter_eq_nil_iff] at hf
        exact absurd h (hf p hp)
      | cons p qs =>
        refine ⟨fun _ => ?_, fun _ => rfl⟩
        have hm : p ∈ ps.filter (fun p => decide (x ∈ p) && decide (y ∈ p)) := by rw [hf]; exact List.mem_cons_self ..
        obtain ⟨h1, h2⟩ := List.mem_filter.mp hm
        exact ⟨p, h1, h2⟩
    simp [e2]
  · have e1 := inR_tS (r := .val (tS p)) (x := x) (xs := p) rfl hx ((C.part p hp).okS hc)
    have e2 := inR_tS (r := .val (tS p)) (x := y) (xs := p) rfl hy ((C.part p hp).okS hc)
    simp only [turnL, wipeS, List.set, gNm_def, liftO_some, bindM_ret, tAndM_def, tBin_def, xVar_def, look_val, look_suc, useM_ret, frz_val, e1, e2, Option.bind_some, isB_bool]
    by_cases h1 : x ∈ p <;> by_cases h2 : y ∈ p <;> simp [h1, h2]
end JS
set_option Elab.async false
set_option linter.all false
set_option maxRecDepth 100000
set_option maxHeartbeats 4000000
namespace PL
open PySem
structure Tm (k b : Nat) (d : D) : Prop where
  lay : PyData.canLay0 d = true
  sh : PyData.showable d = true
  len : (PyData.shown d).length ≤ b
  ok : PyData.strOk (PyData.shown d) = true
  dep : PyData.depth d ≤ k
theorem tm_all {k b : Nat} : ∀ {ds : List D}, (∀ d ∈ ds, Tm k b d) → PyData.canLayAll0 ds = true ∧ PyData.showableAll ds = true ∧ PyData.depthAll ds ≤ k
  | [], _ => ⟨rfl, by rw [PyData.showableAll], Nat.zero_le _⟩
  | d :: ds, h => by
    obtain ⟨h1, h2, h3⟩ := tm_all (ds := ds) fun e he => h e (List.mem_cons_of_mem _ he)
    have hd := h d (List.mem_cons_self ..)
    refine ⟨?_, ?_, ?_⟩
    · show (PyData.canLay0 d && PyData.canLayAll0 ds) = true
      rw [hd.lay, h1]; rfl
    · rw [PyData.showableAll, hd.sh, h2]; rfl
    · show max (PyData.depth d) (PyData.depthAll ds) ≤ k
      have := hd.dep
      omega
theorem Tm.tuple {k b m : Nat} {ds : List D} (h : ∀ d ∈ ds, Tm k b d) (hl : ds.length ≤ m) : Tm (k + 1) ((b + 2) * m + 3) (.tuple ds) := by
  obtain ⟨h1, h2, h3⟩ := tm_all h
  have e : PyData.shownAll ds = ds.map PyData.shown := by
    have := shownAll_map (f := fun d : D => d) ds
    rw [List.map_id'] at this
    exact this
  refine ⟨h1, by rw [PyData.showable]; exact h2, ?_, ?_, ?_⟩
  · rw [PyData.shown, e]
    have t1 := tupleText_le (ds.map PyData.shown)
    have t2 := piled_le (ts := ds.map PyData.shown) (b := b + 2) fun t ht => by
      obtain ⟨d, hd, rfl⟩ := List.mem_map.mp ht
      have := (h d hd).len
      omega
    rw [List.length_map] at t2
    have : (b + 2) * ds.length ≤ (b + 2) * m := Nat.mul_le_mul_left _ hl
    omega
  · rw [PyData.shown, e]
    refine strOk_tuple fun t ht => ?_
    obtain ⟨d, hd, rfl⟩ := List.mem_map.mp ht
    exact (h d hd).ok
  · show PyData.depthAll ds + 1 ≤ k + 1
    omega
theorem Tm.mono {k b k2 b2 : Nat} {d : D} (h : Tm k b d) (hk : k ≤ k2) (hb : b ≤ b2) : Tm k2 b2 d := ⟨h.lay, h.sh, Nat.le_trans h.len hb, h.ok, Nat.le_trans h.dep hk⟩
theorem tm_int {i : Nat} (h : i < 100) : Tm 0 10 (.int ((i : Nat) : Int)) := by
  have key : (List.range 100).all (fun i => PyData.showable (.int ((i : Nat) : Int)) && (decide ((PyData.shown (.int ((i : Nat) : Int))).length ≤ 10) && PyData.strOk (PyData.shown (.int ((i : Nat) : Int))))) = true := by decide +kernel
  have := List.all_eq_true.mp key i (List.mem_range.mpr h)
  rw [Bool.and_eq_true, Bool.and_eq_true, decide_eq_true_eq] at this
  exact ⟨rfl, this.1, this.2.1, this.2.2, Nat.le_refl _⟩
theorem tm_none : Tm 0 10 .none := by
  have h : PyData.showable .none = true ∧ (PyData.shown .none).length ≤ 10 ∧ PyData.strOk (PyData.shown .none) = true := by decide +kernel
  exact ⟨rfl, h.1, h.2.1, h.2.2, Nat.le_refl _⟩
theorem tm_bool (b : Bool) : Tm 0 10 (.bool b) := by
  have h : PyData.showable (.bool b) = true ∧ (PyData.shown (.bool b)).length ≤ 10 ∧ PyData.strOk (PyData.shown (.bool b)) = true := by cases b <;> decide +kernel
  exact ⟨rfl, h.1, h.2.1, h.2.2, Nat.le_refl _⟩
theorem reprR_tm {k b : Nat} {d : D} (h : Tm k b d) (hk : k ≤ 60) (hb : b ≤ 1000000) : reprR [.val d] = some (.val (.str (PyData.shown d))) := by
  show (if PyData.canLay0 d = true ∧ PyData.showable d = true ∧ PyData.depth d ≤ 60 ∧ (PyData.shown d).length ≤ sizeLine then _ else _) = _
  rw [if_pos]
  exact ⟨h.lay, h.sh, Nat.le_trans h.dep hk, Nat.le_trans h.len (Nat.le_trans hb (by decide))⟩
end PL
namespace JS
open PySem PL
theorem plain_leaf {n : Nat} {d : D} (h : isT "tuple" d = false) (h2 : (isT "int" d || isT "str" d) = true ∨ d = .none) : m__law_plain (n + 1) [.val d] = retM (.val (.bool true)) := by
  show bodyM 1 (g__law_plain (fun _ => m__law_plain n) n) [.val d] = _
  unfold g__law_plain
  rcases h2 with h2 | h2
  · by_cases hn : d = .none
    · subst hn
      simp [isT, tyN, isNone]
    · have hi : isNone (.val d) = false := by
        cases d <;> first | rfl | exact absurd rfl hn
      simp [h, h2, hi]
  · subst h2
    simp [isT, tyN, isNone]
theorem plain_tuple {n : Nat} {ds : List D} (hl : ds.length ≤ 10000) (h : ∀ d ∈ ds, m__law_plain (n + 1) [.val d] = retM (.val (.bool true))) : m__law_plain (n + 2) [.val (.tuple ds)] = retM (.val (.bool true)) := by
  show bodyM 1 (g__law_plain (fun _ => m__law_plain (n + 1)) (n + 1)) [.val (.tuple ds)] = _
  unfold g__law_plain
  have e : xLc (iSeq (xVar 0)) [1] (gNm 1) (tNotM (tTru (xFn 1 (m__law_plain (n + 1)) (aCons (xVar 1) aNil) []))) (xVar 1) [.val (.tuple ds), .un] = retM (.own (.list [])) := by
    rw [xLc_def (ds := ds) (b := false) (by simp) (small_le hl)]
    have := compL_filter (ρ0 := wipeS [.val (.tuple ds), .un] [1]) (g := gNm 1) (tt := tNotM (tTru (xFn 1 (m__law_plain (n + 1)) (aCons (xVar 1) aNil) []))) (te := xVar 1) (e := fun d : D => d) (p := fun _ => false) (F := fun d : D => d) (xs := ds) fun d hd => by
      simp [turnL, wipeS, h d hd]
    rw [list_map_id] at this
    rw [this, List.filter_eq_nil_iff.mpr fun _ _ => Bool.false_ne_true]
    simp
  have e2 : eqR (.val (.list [])) (.val (.list [])) = some (.val (.bool true)) := rfl
  simp only [bodyM_def, sSeq_def, sIf_def, tTru_def, sRet_def, xBin_def, List.replicate, List.cons_append, List.nil_append, e]
  simp [isT, tyN, e2]
theorem law_equal_tm {k b : Nat} {d : D} (hp : M__law_plain [.val d] = retM (.val (.bool true))) (h : Tm k b d) (hk : k ≤ 60) (hb : b ≤ 1000000) : M__law_equal [.val d, .val d] = retM (.val (.bool true)) := by
  have e2 := reprR_tm h hk hb
  have e3 := eqR_same h.ok
  unfold M__law_equal g__law_equal
  simp [hp, e2, e3]
end JS
set_option Elab.async false
set_option linter.all false
set_option maxRecDepth 100000
set_option maxHeartbeats 4000000
/-! N0: columns taken out one after another. -/
namespace PL
open PySem
abbrev NK : Str → Prop := fun _ => False
section
variable {ps : List (List Str)} {left cols : List Str} {c : Str}
def mineS (ps : List (List Str)) (left : List Str) (c : Str) : List Str := left.filter fun o => decide (o = c) || nearB ps c o
def heldS (ps : List (List Str)) (left : List Str) (c : Str) : List Nat := (List.range ps.length).filter fun k => (mineS ps left c).all fun o => decide (o ∈ PS ps k)
theorem mem_mineS {o : Str} : o ∈ mineS ps left c ↔ o ∈ left ∧ (o = c ∨ nearB ps c o = true) := by
  unfold mineS
  rw [List.mem_filter, Bool.or_eq_true, decide_eq_true_eq]
theorem mem_heldS {k : Nat} : k ∈ heldS ps left c ↔ k < ps.length ∧ ∀ o ∈ mineS ps left c, o ∈ PS ps k := by
  unfold heldS
  rw [List.mem_filter, List.mem_range, List.all_eq_true]
  simp only [decide_eq_true_eq]
theorem PS_at {k : Nat} (h : k < ps.length) : PS ps k = ps[k] := by
  unfold PS
  rw [List.getD_eq_getElem?_getD, List.getElem?_eq_getElem h]
  rfl
/-- a column can be taken out just if one row has all that is left near it -/
theorem held_cov (hc : c ∈ left) : heldS ps left c ≠ [] ↔ cov ps (· ∈ left) c := by
  constructor
  · intro h
    obtain ⟨k, hk⟩ := List.exists_mem_of_ne_nil _ h
    obtain ⟨hl, hall⟩ := mem_heldS.mp hk
    refine ⟨PS ps k, ?_, hall c (mem_mineS.mpr ⟨hc, .inl rfl⟩), fun r hr hcr d hd hdl => hall d (mem_mineS.mpr ⟨hdl, .inr (nearB_iff.mpr ⟨r, hr, hcr, hd⟩)⟩)⟩
    rw [PS_at hl]
    exact List.getElem_mem _
  · rintro ⟨q, hq, hcq, hall⟩ h
    obtain ⟨k, hk, e⟩ := List.getElem_of_mem hq
    have hm : k ∈ heldS ps left c := mem_heldS.mpr ⟨hk, fun o ho => by
      rw [PS_at hk, e]
      obtain ⟨ho, e2 | e2⟩ := mem_mineS.mp ho
      · rw [e2]; exact hcq
      · obtain ⟨r, hr, h1, h2⟩ := nearB_iff.mp e2
        exact hall r hr h1 o h2 ho⟩
    rw [h] at hm
    exact nomatch hm
def outS (left : List Str) (c : Str) : List Str := left.filter fun o => !decide (o = c)
theorem mem_outS {o : Str} : o ∈ outS left c ↔ o ∈ left ∧ o ≠ c := by
  unfold outS
  rw [List.mem_filter, Bool.not_eq_true', decide_eq_false_iff_not]
theorem outS_len (nd : left.Nodup) (hc : c ∈ left) : (outS left c).length + 1 = left.length := by
  induction left with
  | nil => exact nomatch hc
  | cons a l ih =>
    obtain ⟨na, nd⟩ := List.nodup_cons.mp nd
    unfold outS
    by_cases e : a = c
    · subst e
      rw [List.filter_cons_of_neg (by simp), List.length_cons]
      congr 1
      have : l.filter (fun o => !decide (o = a)) = l := List.filter_eq_self.mpr fun o ho => by
        simp only [Bool.not_eq_true', decide_eq_false_iff_not]
        exact fun e => na (e ▸ ho)
      rw [this]
    · rw [List.filter_cons_of_pos (by simp [e]), List.length_cons, List.length_cons]
      have := ih nd ((List.mem_cons.mp hc).resolve_left fun h => e h.symm)
      unfold outS at this
      omega
def readyS (ps : List (List Str)) (left : List Str) : List Str := left.filter fun c => !decide (heldS ps left c = [])
theorem mem_readyS : c ∈ readyS ps left ↔ c ∈ left ∧ heldS ps left c ≠ [] := by
  unfold readyS
  rw [List.mem_filter, Bool.not_eq_true', decide_eq_false_iff_not]
def firstS (ps : List (List Str)) : Nat → List Str → Option (List (Str × Nat))
  | 0, _ => some []
  | n + 1, left => match readyS ps left with
    | [] => none
    | c :: _ => (firstS ps n (outS left c)).map ((c, (heldS ps left c).headD 0) :: ·)
theorem firstS_nil {n : Nat} (h : readyS ps left = []) : firstS ps (n + 1) left = none := by
  show (match readyS ps left with
    | [] => none
    | c :: _ => (firstS ps n (outS left c)).map ((c, (heldS ps left c).headD 0) :: ·)) = none
  rw [h]
theorem firstS_cons {n : Nat} {r : List Str} (h : readyS ps left = c :: r) : firstS ps (n + 1) left = (firstS ps n (outS left c)).map ((c, (heldS ps left c).headD 0) :: ·) := by
  show (match readyS ps left with
    | [] => none
    | c :: _ => (firstS ps n (outS left c)).map ((c, (heldS ps left c).headD 0) :: ·)) = _
  rw [h]
theorem firstS_none : ∀ (n : Nat) {left : List Str}, left.Nodup → (∀ c ∈ left, inRows ps c) → left.length = n → (firstS ps n left = none ↔ ∃ S : Str → Prop, Stab NK ps S ∧ (∃ c, S c) ∧ ∀ c, S c → c ∈ left)
  | 0, left, _, _, hl => by
    have : left = [] := List.eq_nil_of_length_eq_zero hl
    subst this
    exact ⟨(fun h => nomatch h), fun ⟨S, _, ⟨c, hc⟩, h⟩ => nomatch h c hc⟩
  | n + 1, left, nd, hin, hl => by
    unfold firstS
    cases hr : readyS ps left with
    | nil =>
      refine ⟨fun _ => ⟨(· ∈ left), fun v hv => ⟨hin v hv, fun _ hc => ?_⟩, ?_, fun c h => h⟩, fun _ => rfl⟩
      · have : v ∈ readyS ps left := mem_readyS.mpr ⟨hv, (held_cov hv).mpr hc⟩
        rw [hr] at this
        exact nomatch this
      · cases left with
        | nil => exact nomatch hl
        | cons a l => exact ⟨a, List.mem_cons_self ..⟩
    | cons c r =>
      have hc : c ∈ readyS ps left := by rw [hr]; exact List.mem_cons_self ..
      obtain ⟨hcl, hch⟩ := mem_readyS.mp hc
      have hlen := outS_len nd hcl
      have ih := firstS_none n (left := outS left c) (nd.sublist List.filter_sublist) (fun o ho => hin o (mem_outS.mp ho).1) (by omega)
      show ((firstS ps n (outS left c)).map _) = none ↔ _
      rw [Option.map_eq_none_iff, ih]
      constructor
      · rintro ⟨S, st, he, hs⟩
        exact ⟨S, st, he, fun o ho => (mem_outS.mp (hs o ho)).1⟩
      · rintro ⟨S, st, he, hs⟩
        refine ⟨S, st, he, fun o ho => mem_outS.mpr ⟨hs o ho, fun e => ?_⟩⟩
        subst e
        obtain ⟨q, hq, hoq, hall⟩ := (held_cov hcl).mp hch
        exact (st o ho).2 id ⟨q, hq, hoq, fun r hr hor d hd Sd => hall r hr hor d hd (hs d Sd)⟩
theorem first_nostab (nd : cols.Nodup) (hin : ∀ c ∈ cols, inRows ps c) (hc : ∀ c, inRows ps c → c ∈ cols) : firstS ps cols.length cols = none ↔ ¬ NoStab ps := by
  rw [firstS_none _ nd hin rfl]
  constructor
  · rintro ⟨S, st, ⟨c, h⟩, _⟩ ns
    exact ns c ⟨S, st, h⟩
  · intro h
    obtain ⟨c, h⟩ := Classical.not_forall.mp h
    obtain ⟨S, st, h⟩ := Classical.not_not.mp h
    exact ⟨S, st, ⟨c, h⟩, fun d hd => hc d (st d hd).1⟩
/-! values that are judged -/
def okD (ps : List (List Str)) : List Str → List D → Bool
  | _, [] => true
  | left, .tuple [.str c, .int i] :: r => decide (c ∈ left) && (decide (0 ≤ i) && (decide (i.toNat ∈ heldS ps left c) && okD ps (outS left c) r))
  | _, _ => false
/-- one item of a value -/
inductive It : D → Prop
  | int {c : Str} {i : Int} : PyData.strOk c = true → i.natAbs ≤ 100 → It (.tuple [.str c, .int i])
  | bool {c : Str} {b : Bool} : PyData.strOk c = true → It (.tuple [.str c, .bool b])
  | none {c : Str} : PyData.strOk c = true → It (.tuple [.str c, .none])
  | lst {c : Str} {i : Int} : PyData.strOk c = true → It (.list [.str c, .int i])
  | one {c : Str} : PyData.strOk c = true → It (.tuple [.str c])
def pairB : D → Bool
  | .tuple [_, _] => true
  | _ => false
theorem ok_pair : ∀ {ds : List D} {left : List Str}, okD ps left ds = true → ∀ d ∈ ds, pairB d = true
  | [], _, _, d, hd => nomatch hd
  | e :: r, left, h, d, hd => by
    unfold okD at h
    split at h
    · rename_i h0; exact nomatch h0
    · rename_i c i r2 h1
      obtain ⟨rfl, rfl⟩ := List.cons.inj h1
      rw [Bool.and_eq_true, Bool.and_eq_true, Bool.and_eq_true] at h
      rcases List.mem_cons.mp hd with e | hd
      · rw [e]; rfl
      · exact ok_pair h.2.2.2 d hd
    · exact nomatch h
def judgeB (cols : List Str) (ps : List (List Str)) : D → Bool
  | .tuple ds => decide (ds.length = cols.length) && okD ps cols ds
  | _ => false
/-- a value -/
inductive Val : D → Prop
  | tup {ds : List D} : (∀ d ∈ ds, It d) → ds.length ≤ 100 → Val (.tuple ds)
  | lst {ds : List D} : (∀ d ∈ ds, It d) → ds.length ≤ 100 → Val (.list ds)
end
end PL
set_option Elab.async false
set_option linter.all false
set_option maxRecDepth 100000
set_option maxHeartbeats 4000000
/-! N1: the law's own taking out. -/
namespace PL
open PySem
def stepPD (p : Str × Nat) : D := .tuple [.str p.1, .int ((p.2 : Nat) : Int)]
abbrev stepsT (l : List (Str × Nat)) : D := .tuple (l.map stepPD)
def firstD (ps : List (List Str)) (cols : List Str) : D := match firstS ps cols.length cols with
  | none => .none
  | some l => stepsT l
end PL
namespace JS
open PySem PL
section
variable {ps : List (List Str)} {cols left : List Str} {c : Str} {gs : GS}
theorem held_call (hc : Cols cols) (C : Cover cols ps) (hl : ∀ o ∈ left, o ∈ cols) (hll : left.length ≤ 24) (hcc : PyData.strOk c = true) : M__law_held [.val (tT ps), .val (lS left), .val (.str c)] = retM (.own (leftD (heldS ps left c))) := by
  have hpl := C.le
  have okl : OkS left := fun o ho => hc.okS o (hl o ho)
  have e1 : xLc (iSeq (xVar 1)) [4] (gNm 4) (tOrM (tBin eqR (xVar 4) (xVar 2)) (tTru (xFn 3 M__law_near (aCons (xVar 0) (aCons (xVar 2) (aCons (xVar 4) aNil))) []))) (xVar 4) [.val (tT ps), .val (lS left), .val (.str c), .un, .un, .un, .un] = retM (.own (lS (mineS ps left c))) := by
    rw [xLc_def (ds := left.map PyData.str) (b := false) (by simp) (by rw [List.length_map]; exact small_le (by omega))]
    rw [compL_filter (p := fun o => decide (o = c) || nearB ps c o) (F := PyData.str) fun o ho => ?_]
    · rw [bindM_ret]
      rfl
    · have e2 := eqR_str (i := o) (j := c) (okl o ho) hcc
      have e3 := m_near (x := c) (y := o) hc C hcc (okl o ho)
      have e4 : (o == c) = decide (o = c) := by
        rw [Bool.eq_iff_iff, beq_iff_eq, decide_eq_true_eq]
      rw [e4] at e2
      simp only [turnL, wipeS, List.set, gNm_def, liftO_some, bindM_ret, tOrM_def, tBin_def, tTru_def, xFn_def, aCons_def, aNil_def, xVar_def, look_val, look_suc, useM_ret, frz_val, e2, Option.bind_some, isB_bool, call3, e3, truR_val, truD_bool]
      by_cases h : o = c
      · simp [h]
      · simp only [h, decide_false, Bool.false_eq_true, if_false, Bool.false_or, bindM_ret]
        cases nearB ps c o <;> simp
  have hml : (mineS ps left c).length ≤ left.length := List.length_filter_le ..
  have okm : OkS (mineS ps left c) := fun o ho => okl o (mem_mineS.mp ho).1
  unfold M__law_held g__law_held
  simp only [bodyM_def, sSeq_def, sSetF_def, List.replicate, List.cons_append, List.nil_append, e1, useM_ret, frz_own, slotV_val, liftO_some, bindM_ret, List.set, sRet_def]
  have hrng : iRng rng1 (aCons (xCall lenR (aCons (xVar 0) aNil)) aNil) [.val (tT ps), .val (lS left), .val (.str c), .val (lS (mineS ps left c)), .un, .un, .un] = retM (rngD 0 ps.length, false) := iRng_ret (rs := [.val (.int (ps.length : Nat))]) (by simp) (rng1_nat (by omega))
  rw [xLc_def (ds := rngD 0 ps.length) (b := false) hrng (by rw [rngD_map, List.length_map, List.length_range]; exact small_le (by omega)), rngD_map]
  rw [compL_filter (p := fun k => (mineS ps left c).all fun o => decide (o ∈ PS ps k)) (F := fun i => .int (i : Nat)) fun k hk => ?_]
  · simp only [bindM_ret, asRet_own, calmM_ret]
    rfl
  · have hk := List.mem_range.mp hk
    have e5 : L2.atI (ps.map tS) ((k : Nat) : Int) = some (tS (PS ps k)) := by
      rw [atI_nat (by rw [List.length_map]; exact hk), List.getElem_map, PS_at hk]
    have okk : OkS (PS ps k) := by
      rw [PS_at hk]
      exact (C.part _ (List.getElem_mem _)).okS hc
    have e6 : ∀ {s6 : Slot}, xLc (iSeq (xVar 3)) [6] (gNm 6) (tBin notInR (xVar 6) (xIx (xVar 0) (xVar 5))) (xVar 6) [.val (tT ps), .val (lS left), .val (.str c), .val (lS (mineS ps left c)), .un, .val (.int (k : Nat)), s6] = retM (.own (lS ((mineS ps left c).filter fun o => !decide (o ∈ PS ps k)))) := by
      intro s6
      rw [xLc_def (ds := (mineS ps left c).map PyData.str) (b := false) (by simp) (by rw [List.length_map]; exact small_le (by omega))]
      rw [compL_filter (p := fun o => !decide (o ∈ PS ps k)) (F := PyData.str) fun o ho => ?_]
      · rw [bindM_ret]
      · have e7 := notIn_tS (r := .val (tS (PS ps k))) (x := o) (xs := PS ps k) rfl (okm o ho) okk
        simp only [turnL, wipeS, List.set, gNm_def, liftO_some, bindM_ret, tBin_def, xIx_def, xVar_def, look_val, look_suc, useM_ret, frz_val, ixM_tuple, e5, Option.map_some, e7, Option.bind_some, isB_bool]
        cases (!decide (o ∈ PS ps k)) <;> simp
    have okf : OkS ((mineS ps left c).filter fun o => !decide (o ∈ PS ps k)) := fun o ho => okm o (List.mem_filter.mp ho).1
    have e8 := eqR_nilL (r := .val (lS ((mineS ps left c).filter fun o => !decide (o ∈ PS ps k)))) rfl okf
    have e9 : decide (((mineS ps left c).filter fun o => !decide (o ∈ PS ps k)) = []) = (mineS ps left c).all fun o => decide (o ∈ PS ps k) := by
      rw [Bool.eq_iff_iff, decide_eq_true_eq, List.filter_eq_nil_iff, List.all_eq_true]
      simp
    rw [e9] at e8
    simp only [turnL, wipeS, List.set, gNm_def, liftO_some, bindM_ret, tBin_def, e6, useM_ret, frz_own, xLst_def, aNil_def, valsOf_nil, Option.bind_some, List.length_nil, Nat.zero_le, if_true, e8, isB_bool, xVar_def, look_val, look_suc, frz_val]
    cases ((mineS ps left c).all fun o => decide (o ∈ PS ps k)) <;> simp
theorem held_len (hpl : ps.length ≤ 24) : (heldS ps left c).length ≤ 24 := by
  unfold heldS
  refine Nat.le_trans (List.length_filter_le ..) ?_
  rw [List.length_range]
  exact hpl
/-- the columns that are ready -/
theorem ready_eq (hc : Cols cols) (C : Cover cols ps) (hl : ∀ o ∈ left, o ∈ cols) (hll : left.length ≤ 24) {s0 s2 s4 s5 s6 : Slot} :
    xLc (iSeq (xVar 3)) [6] (gNm 6) (tBin neR (xFn 3 M__law_held (aCons (xVar 1) (aCons (xVar 3) (aCons (xVar 6) aNil))) []) (xLst aNil)) (xVar 6) [s0, .val (tT ps), s2, .val (lS left), s4, s5, s6] = retM (.own (lS (readyS ps left))) := by
  rw [xLc_def (ds := left.map PyData.str) (b := false) (by simp) (by rw [List.length_map]; exact small_le (by omega))]
  rw [compL_filter (p := fun c => !decide (heldS ps left c = [])) (F := PyData.str) fun o ho => ?_]
  · rw [bindM_ret]
    rfl
  · have e1 := held_call (c := o) hc C hl hll (hc.okS o (hl o ho))
    have e2 := neR_left (r := .val (leftD (heldS ps left o))) (l := heldS ps left o) rfl
    simp only [turnL, wipeS, List.set, gNm_def, liftO_some, bindM_ret, tBin_def, xFn_def, aCons_def, aNil_def, xVar_def, look_val, look_suc, useM_ret, frz_val, call3, e1, frz_own, xLst_def, valsOf_nil, Option.bind_some, List.length_nil, Nat.zero_le, if_true, e2, isB_bool]
    cases (!decide (heldS ps left o = [])) <;> simp
theorem out_eq {x : Str} (hl : OkS left) (hll : left.length ≤ 24) (hx : PyData.strOk x = true) {te : Sl → M RV} {ρ : Sl} {s0 s1 s2 s4 s5 s6 : Slot} (hte : ∀ s6, te [s0, s1, s2, .val (lS left), s4, s5, s6] = retM (.val (.str x))) :
    xLc (iSeq (xVar 3)) [6] (gNm 6) (tBin neR (xVar 6) te) (xVar 6) [s0, s1, s2, .val (lS left), s4, s5, s6] = retM (.own (lS (outS left x))) := by
  rw [xLc_def (ds := left.map PyData.str) (b := false) (by simp) (by rw [List.length_map]; exact small_le (by omega))]
  rw [compL_filter (p := fun o => !decide (o = x)) (F := PyData.str) fun o ho => ?_]
  · rw [bindM_ret]
    rfl
  · have e : neR (.val (.str o)) (.val (.str x)) = some (.val (.bool (!decide (o = x)))) := by
      show (neD (.str o) (.str x)).map _ = _
      unfold neD
      rw [if_pos ⟨shaped_str (hl o ho), shaped_str hx⟩]
      rfl
    simp only [turnL, wipeS, List.set, gNm_def, liftO_some, bindM_ret, tBin_def, xVar_def, look_val, look_suc, useM_ret, frz_val, hte, e, Option.bind_some, isB_bool]
    cases (!decide (o = x)) <;> simp
theorem m_law_first (hc : Cols cols) (C : Cover cols ps) : M__law_first [.val (tS cols), .val (tT ps)] = retM (.val (firstD ps cols)) := by
  have hcl := hc.le
  have hz2 : 2 ≤ sizeLine := small_le (by omega)
  have hz0 : 0 ≤ sizeLine := Nat.zero_le _
  refine ret_of_wp fun gs => ?_
  unfold M__law_first g__law_first
  have hrng : iRng rng1 (aCons (xCall lenR (aCons (xVar 0) aNil)) aNil) [.val (tS cols), .val (tT ps), .un, .val (lS cols), .own (.list []), .un, .un] = retM (rngD 0 cols.length, false) := iRng_ret (rs := [.val (.int (cols.length : Nat))]) (by simp) (rng1_nat (by omega))
  simp only [bodyM_def, sSeq_def, sPar_def, List.replicate, List.cons_append, List.nil_append, xCall_def, aCons_def, aNil_def, xVar_def, look_val, liftO_some, useM_ret, frz_val, bindM_ret, listR_tuple, xLst_def, valsOf_nil, Option.bind_some, List.length_nil, Nat.zero_le, if_true, slotV_own, List.set, sFrz, List.getElem?_cons_succ, List.getElem?_cons_zero, frzS, sFor_def, wp_bind, wp_calm]
  rw [hrng]
  simp only [wp_ret, bindM_ret, if_true, wp_bind]
  rw [rngD_map]
  refine wp_mono (wp_forL (all := List.range cols.length) (e := fun i => PyData.int (i : Nat)) (fun pre ρ g => g = gs ∧ ∃ (left : List Str) (done : List (Str × Nat)) (s2 s5 s6 : Slot), ρ = [.val (tS cols), .val (tT ps), s2, .val (lS left), .own (.list (done.map stepPD)), s5, s6] ∧ left.Nodup ∧ (∀ o ∈ left, o ∈ cols) ∧ left.length + pre.length = cols.length ∧ done.length = pre.length ∧ firstS ps cols.length cols = (firstS ps left.length left).map (done ++ ·))
    (fun _ _ => False) (fun r g => g = gs ∧ r = .val (firstD ps cols)) (fun pre i post ρ g ea ⟨hg, left, done, s2, s5, s6, hρ, nd, hsub, hlen, hdl, hfi⟩ => ?step) (pre := []) rfl ⟨rfl, cols, [], .un, .un, .un, rfl, asc_nodup hc.asc, (fun _ h => h), rfl, rfl, by simp⟩) fun o g h => ?post
  case step =>
    subst hρ hg
    obtain ⟨hpi, hi⟩ := range_split ea
    have hll : left.length ≤ 24 := by omega
    have okl : OkS left := fun o ho => hc.okS o (hsub o ho)
    refine ⟨[.val (tS cols), .val (tT ps), .val (.int (i : Nat)), .val (lS left), .own (.list (done.map stepPD)), s5, s6], rfl, ?_⟩
    have er := ready_eq (s0 := .val (tS cols)) (s2 := .val (.int (i : Nat))) (s4 := .own (.list (done.map stepPD))) (s5 := s5) (s6 := s6) hc C hsub hll
    have okr : OkS (readyS ps left) := fun o ho => okl o (mem_readyS.mp ho).1
    have e0 := eqR_nilL (r := .val (lS (readyS ps left))) rfl okr
    simp only [sSeq_def, sSetF_def, er, useM_ret, frz_own, slotV_val, liftO_some, bindM_ret, List.set, sIf_def, tBin_def, xVar_def, look_val, look_suc, frz_val, xLst_def, aNil_def, valsOf_nil, Option.bind_some, List.length_nil, hz0, if_true, e0, isB_bool]
    obtain ⟨m, hm⟩ : ∃ m, left.length = m + 1 := ⟨left.length - 1, by omega⟩
    rw [hm] at hfi
    cases hr : readyS ps left with
    | nil =>
      rw [firstS_nil hr] at hfi
      simp only [decide_true, if_true, sRet_def, xC_def, bindM_ret, asRet_val, wp_ret]
      refine ⟨trivial, ?_⟩
      unfold firstD
      have : firstS ps cols.length cols = none := hfi
      rw [this]
    | cons x r =>
      rw [firstS_cons hr] at hfi
      have hx : x ∈ readyS ps left := by rw [hr]; exact List.mem_cons_self ..
      obtain ⟨hxl, hxh⟩ := mem_readyS.mp hx
      have hxo := okl x hxl
      have eh := held_call (c := x) hc C hsub hll hxo
      obtain ⟨k, t, ek⟩ := List.exists_cons_of_ne_nil hxh
      have e2 : L2.atI (PyData.str x :: r.map PyData.str) (0 : Int) = some (.str x) := atI_nat (xs := PyData.str x :: r.map PyData.str) (i := 0) (by simp)
      have e3 : L2.atI (PyData.int ((k : Nat) : Int) :: t.map fun i => PyData.int ((i : Nat) : Int)) (0 : Int) = some (.int ((k : Nat) : Int)) := atI_nat (xs := PyData.int ((k : Nat) : Int) :: t.map fun i => PyData.int ((i : Nat) : Int)) (i := 0) (by simp)
      have hdz : done.length < sizeLine := Nat.lt_of_lt_of_le (by omega) (small_le (n := 10000) (Nat.le_refl _))
      rw [ek] at eh
      have hne : decide (x :: r = []) = false := decide_eq_false (by simp)
      have eo := out_eq (left := left) (x := x) (te := xIx (xVar 5) (xC (.int 0))) (ρ := []) (s0 := .val (tS cols)) (s1 := .val (tT ps)) (s2 := .val (.int (i : Nat))) (s4 := .own (.list (done.map stepPD ++ [stepPD (x, k)]))) (s5 := .val (lS (x :: r))) (s6 := s6) okl hll hxo (by
        intro s6
        simp only [xIx_def, xVar_def, xC_def, look_suc, look_val, liftO_some, useM_ret, frz_val, List.map_cons, ixM_list, e2, Option.map_some])
      simp only [hne, Bool.false_eq_true, if_false, sNil_def, bindM_ret, sApp, ownList, List.getElem?_cons_succ, List.getElem?_cons_zero, xTup_def, xIx_def, xFn_def, aCons_def, aNil_def, xVar_def, xC_def, look_val, look_suc, liftO_some, useM_ret, frz_val, List.map_cons, ixM_list, e2, Option.map_some, call3, eh, frz_own, e3, valsOf_cons, valsOf_nil, Option.bind_some, List.length_cons, List.length_nil, Nat.zero_add, Nat.reduceAdd, hz2, if_true, valOf_val, List.length_map, hdz, List.set]
      have eo' := eo
      dsimp only [lS, List.map_cons] at eo'
      have est : stepPD (x, k) = .tuple [.str x, .int ((k : Nat) : Int)] := rfl
      rw [est] at eo'
      rw [eo']
      simp only [useM_ret, frz_own, slotV_val, liftO_some, bindM_ret, List.set, wp_ret]
      have hol := outS_len nd hxl
      refine ⟨trivial, outS left x, done ++ [(x, k)], _, _, _, by rw [List.map_append]; rfl, nd.sublist List.filter_sublist, fun o ho => hsub o (mem_outS.mp ho).1, by rw [List.length_append, List.length_singleton]; omega, by rw [List.length_append, List.length_append, hdl]; rfl, ?_⟩
      have hmo : (outS left x).length = m := by omega
      rw [hmo, hfi, ek]
      show ((firstS ps m (outS left x)).map ((x, k) :: ·)).map (done ++ ·) = _
      rw [Option.map_map]
      congr 1
      funext l
      simp
  case post =>
    cases o with
    | nx ρ2 =>
      rcases h with ⟨hg, left, done, s2, s5, s6, hρ, nd, hsub, hlen, hdl, hfi⟩ | h
      · subst hρ hg
        rw [List.length_range] at hlen hdl
        have hl0 : left = [] := List.eq_nil_of_length_eq_zero (by omega)
        subst hl0
        have ef : firstS ps cols.length cols = some done := by
          rw [hfi]
          show ((some []).map (done ++ ·)) = _
          simp
        simp only [sRet_def, xCall_def, aCons_def, aNil_def, xVar_def, look_suc, look_own, liftO_some, useM_ret, frz_bor, bindM_ret, tupleR_bor, asRet_val, wp_ret]
        refine ⟨?_, trivial⟩
        unfold firstD
        rw [ef]
      · exact h.elim
    | ret r =>
      simp only [wp_ret]
      exact ⟨h.2, h.1⟩
    | brk ρ => exact h.elim
    | cnt ρ => exact h.elim
end
end JS
set_option Elab.async false
set_option linter.all false
set_option maxRecDepth 100000
set_option maxHeartbeats 4000000
/-! N2: the code of taking out. -/
namespace PL
open PySem
theorem map_PS (ps : List (List Str)) : (List.range ps.length).map (PS ps) = ps := by
  refine List.ext_getElem (by simp) fun i h1 h2 => ?_
  rw [List.getElem_map, List.getElem_range, PS_at h2]
theorem bQ_full : ∀ cols : List Str, bQ cols (fun _ => true) + 1 = 2 ^ cols.length
  | [] => rfl
  | c :: cs => by
    have ih := bQ_full cs
    show (true.toNat + 2 * bQ cs (fun _ => true)) + 1 = 2 ^ (cs.length + 1)
    rw [Nat.pow_succ]
    simp
    omega
theorem idxOf_at {cols : List Str} (nd : cols.Nodup) {i : Nat} (h : i < cols.length) : cols.idxOf cols[i] = i := by
  have hl := List.idxOf_lt_length_iff.mpr (List.getElem_mem h)
  have e : cols[cols.idxOf cols[i]] = cols[i] := List.getElem_idxOf hl
  have key := List.pairwise_iff_getElem.mp nd
  rcases Nat.lt_trichotomy (cols.idxOf cols[i]) i with h1 | h1 | h1
  · exact absurd e (key _ _ hl h h1)
  · exact h1
  · exact absurd e.symm (key _ _ h hl h1)
/-- near columns, as the code tells them -/
abbrev nearQ (cols : List Str) (ps : List (List Str)) (i : Nat) (c : Str) : Bool := nearAt cols ps i c && !colQ cols (fun a => decide (c = a)) i
abbrev nearD (cols : List Str) (ps : List (List Str)) : D := .list ((List.range cols.length).map fun i => .int ((bQ cols (nearQ cols ps i) : Nat) : Int))
def wholeQ (cols : List Str) (ps : List (List Str)) (l : List Str) (i : Nat) (c : Str) : Bool := (nearQ cols ps i c || colQ cols (fun a => decide (c = a)) i) && decide (c ∈ l)
section
variable {cols l : List Str} {ps : List (List Str)}
theorem whole_iff (hi : i < cols.length) {c : Str} : wholeQ cols ps l i c = true ↔ c ∈ mineS ps l cols[i] := by
  unfold wholeQ
  rw [mem_mineS, Bool.and_eq_true, Bool.or_eq_true, decide_eq_true_eq]
  unfold nearQ nearAt
  rw [colQ_get hi, colQ_get hi, decide_eq_true_eq, Bool.and_eq_true, Bool.not_eq_true', decide_eq_false_iff_not]
  constructor
  · rintro ⟨h | h, hl⟩
    · exact ⟨hl, .inr h.1⟩
    · exact ⟨hl, .inl h⟩
  · rintro ⟨hl, h | h⟩
    · exact ⟨.inr h, hl⟩
    · by_cases e : c = cols[i]
      · exact ⟨.inr e, hl⟩
      · exact ⟨.inl ⟨h, e⟩, hl⟩
theorem whole_zero (hl : ∀ c ∈ l, c ∈ cols) {i : Nat} (hi : i < cols.length) {p : List Str} : bQ cols (fun c => wholeQ cols ps l i c && !inB p c) = 0 ↔ ∀ o ∈ mineS ps l cols[i], o ∈ p := by
  rw [bQ_zero]
  constructor
  · intro h o ho
    have hw := (whole_iff (cols := cols) (ps := ps) (l := l) hi).mpr ho
    have := h o (hl o (mem_mineS.mp ho).1)
    rw [hw] at this
    simpa using this
  · intro h c hc
    cases hw : wholeQ cols ps l i c with
    | false => rfl
    | true => simp [h c ((whole_iff hi).mp hw)]
end
theorem near_pow {cols : List Str} {ps : List (List Str)} {l : List Str} {i : Nat} (nd : cols.Nodup) (hi : i < cols.length) : Builtin.bitAnd (Builtin.bitOr ((bQ cols (nearQ cols ps i) : Nat) : Int) ((2 ^ i : Nat) : Int)) ((bQ cols (inB l) : Nat) : Int) = ((bQ cols (wholeQ cols ps l i) : Nat) : Int) := by
  rw [pow_bQ nd hi, iOr, bQ_or, iAnd, bQ_and]
  congr 1
  refine bQ_inj.mpr fun c hc => ?_
  unfold wholeQ
  rw [colQ_get (q := fun a => decide (c = a)) hi]
end PL
namespace JS
open PySem PL
section
variable {cols l : List Str} {ps : List (List Str)} {gs : GS}
/-- the parts that have a column and all that is left near it, by bits -/
theorem held_bits (hc : Cols cols) (hpl : ps.length ≤ 24) (hl : ∀ c ∈ l, c ∈ cols) {i : Nat} (hi : i < cols.length) {s1 s2 s3 s4 s5 s6 s8 s9 s10 : Slot} :
    xLc (iRng enum1 (aCons (xVar 0) aNil)) [9, 10] (gTp 2 (gsCons (gNm 9) (gsCons (gNm 10) gsNil))) (tBin eqR (xBin bandR (xVar 7) (xUn invR (xVar 10))) (xC (.int 0))) (xVar 9) [.val (bitsD cols ps), s1, s2, s3, s4, s5, s6, .val (.int ((bQ cols (wholeQ cols ps l i) : Nat) : Int)), s8, s9, s10] = retM (.own (leftD (heldS ps l cols[i]))) := by
  have hrows : bitsD cols ps = .list ((List.range ps.length).map fun k => .int ((bQ cols (inB (PS ps k)) : Nat) : Int)) := by
    unfold bitsD
    congr 1
    conv => lhs; rw [← map_PS ps]
    rw [List.map_map]
    rfl
  have hsrc : iRng enum1 (aCons (xVar 0) aNil) [.val (bitsD cols ps), s1, s2, s3, s4, s5, s6, .val (.int ((bQ cols (wholeQ cols ps l i) : Nat) : Int)), s8, s9, s10] = retM ((List.range ps.length).map (fun k => .tuple [.int ((k : Nat) : Int), .int ((bQ cols (inB (PS ps k)) : Nat) : Int)]), false) := by
    rw [hrows]
    refine iRng_ret (rs := [.val (.list ((List.range ps.length).map fun k => .int ((bQ cols (inB (PS ps k)) : Nat) : Int)))]) (by simp) ?_
    rw [enum1_list, enD_range]
  rw [xLc_def (ds := (List.range ps.length).map fun k => .tuple [.int ((k : Nat) : Int), .int ((bQ cols (inB (PS ps k)) : Nat) : Int)]) (b := false) hsrc (by rw [List.length_map, List.length_range]; exact small_le (by omega))]
  rw [compL_filter (p := fun k => (mineS ps l cols[i]).all fun o => decide (o ∈ PS ps k)) (F := fun k => .int (k : Nat)) fun k hk => ?_]
  · rw [bindM_ret]
    rfl
  · have hz := whole_zero (ps := ps) (l := l) hl hi (p := PS ps k)
    have e0 : (((bQ cols (fun c => wholeQ cols ps l i c && !inB (PS ps k) c) : Nat) : Int) == 0) = (mineS ps l cols[i]).all fun o => decide (o ∈ PS ps k) := by
      rw [Bool.eq_iff_iff, beq_iff_eq, List.all_eq_true]
      simp only [decide_eq_true_eq]
      rw [← hz]
      omega
    simp only [turnL, wipeS, List.set, gTp, gsCons, gsNil, gNm_def, List.length_cons, List.length_nil, if_true, Option.bind_some, liftO_some, bindM_ret, tBin_def, xBin_def, xUn_def, xVar_def, xC_def, look_val, look_suc, useM_ret, frz_val, invR_int, bandR_int, iLess, eqR_int, e0, isB_bool]
    cases ((mineS ps l cols[i]).all fun o => decide (o ∈ PS ps k)) <;> simp
end
end JS
set_option Elab.async false
set_option linter.all false
set_option maxRecDepth 100000
set_option maxHeartbeats 4000000
/-! N3: the code of taking out, whole. -/
namespace PL
open PySem
def stepI (cols : List Str) (p : Str × Nat) : D := .tuple [.int ((cols.idxOf p.1 : Nat) : Int), .int ((p.2 : Nat) : Int)]
def stepO (cols : List Str) (ps : List (List Str)) (l : List Str) : List Str → D
  | [] => .none
  | c :: _ => stepI cols (c, (heldS ps l c).headD 0)
def rdB (ps : List (List Str)) (l : List Str) (c : Str) : Bool := decide (c ∈ l) && !decide (heldS ps l c = [])
theorem ready_cols {cols l : List Str} {ps : List (List Str)} (h : l = cols.filter fun c => decide (c ∈ l)) : cols.filter (rdB ps l) = readyS ps l := by
  unfold readyS rdB
  conv => rhs; rw [h]
  rw [List.filter_filter]
  refine List.filter_congr fun c hc => ?_
  by_cases hcl : c ∈ l
  · have : heldS ps (cols.filter fun c => decide (c ∈ l)) c = heldS ps l c := by rw [← h]
    simp only [hcl, decide_true, Bool.true_and, Bool.and_true, this]
  · simp [hcl]
theorem take_filter {cols : List Str} {q : Str → Bool} {k : Nat} (hk : k < cols.length) : (cols.take (k + 1)).filter q = (cols.take k).filter q ++ (if q cols[k] = true then [cols[k]] else []) := by
  rw [List.take_succ_eq_append_getElem hk, List.filter_append]
  congr 1
  by_cases h : q cols[k] = true
  · rw [if_pos h, List.filter_cons_of_pos h, List.filter_nil]
  · rw [if_neg h, List.filter_cons_of_neg h, List.filter_nil]
end PL
namespace JS
open PySem PL
section
variable {cols l : List Str} {ps : List (List Str)} {gs : GS}
abbrev tkFor : Sl → M Out := (sFor (iRng rng1 (aCons (xVar 1) aNil)) (gNm 6) (sIf (tAndM (tBin isNR (xVar 5) (xC .none)) (tTru (xBin bandR (xBin shrR (xVar 3) (xVar 6)) (xC (.int 1))))) (sSeq (sSetF 7 (xBin bandR (xBin borR (xIx (xVar 2) (xVar 6)) (xBin shlR (xC (.int 1)) (xVar 6))) (xVar 3))) (sSeq (sSetF 8 (xLc (iRng enum1 (aCons (xVar 0) aNil)) [9, 10] (gTp 2 (gsCons (gNm 9) (gsCons (gNm 10) gsNil))) (tBin eqR (xBin bandR (xVar 7) (xUn invR (xVar 10))) (xC (.int 0))) (xVar 9))) (sIf (tTru (xVar 8)) (sSetF 5 (xTup (aCons (xVar 6) (aCons (xIx (xVar 8) (xC (.int 0))) aNil)))) sNil))) sNil))
theorem tk_for (hc : Cols cols) (hpl : ps.length ≤ 24) (hl : ∀ c ∈ l, c ∈ cols) {s4 s6 s7 s8 s9 s10 : Slot} :
    wp (tkFor [.val (bitsD cols ps), .val (.int (cols.length : Nat)), .val (nearD cols ps), .val (bitD cols (inB l)), s4, .val .none, s6, s7, s8, s9, s10]) gs fun o g => g = gs ∧ ∃ s6 s7 s8, o = .nx [.val (bitsD cols ps), .val (.int (cols.length : Nat)), .val (nearD cols ps), .val (bitD cols (inB l)), s4, .val (stepO cols ps l (cols.filter (rdB ps l))), s6, s7, s8, s9, s10] := by
  have hcl := hc.le
  have nd := asc_nodup hc.asc
  have hz2 : 2 ≤ sizeLine := small_le (by omega)
  have hrng : iRng rng1 (aCons (xVar 1) aNil) [.val (bitsD cols ps), .val (.int (cols.length : Nat)), .val (nearD cols ps), .val (bitD cols (inB l)), s4, .val .none, s6, s7, s8, s9, s10] = retM (rngD 0 cols.length, false) := iRng_ret (rs := [.val (.int (cols.length : Nat))]) (by simp) (rng1_nat (by omega))
  unfold tkFor
  simp only [sFor_def, hrng, bindM_ret, if_true]
  rw [rngD_map]
  refine wp_mono (wp_forL (all := List.range cols.length) (e := fun i => PyData.int (i : Nat)) (fun pre ρ g => g = gs ∧ ∃ s6 s7 s8, ρ = [.val (bitsD cols ps), .val (.int (cols.length : Nat)), .val (nearD cols ps), .val (bitD cols (inB l)), s4, .val (stepO cols ps l ((cols.take pre.length).filter (rdB ps l))), s6, s7, s8, s9, s10]) (fun _ _ => False) (fun _ _ => False) (fun pre i post ρ g ea ⟨hg, s6, s7, s8, hρ⟩ => ?step) (pre := []) rfl ⟨rfl, s6, s7, s8, rfl⟩) fun o g h => ?post
  case step =>
    subst hρ hg
    obtain ⟨hpi, hi⟩ := range_split ea
    rw [hpi]
    refine ⟨[.val (bitsD cols ps), .val (.int (cols.length : Nat)), .val (nearD cols ps), .val (bitD cols (inB l)), s4, .val (stepO cols ps l ((cols.take i).filter (rdB ps l))), .val (.int (i : Nat)), s7, s8, s9, s10], rfl, ?_⟩
    have htf := take_filter (q := rdB ps l) hi
    have hlen : (pre ++ [i]).length = i + 1 := by rw [List.length_append, List.length_singleton, hpi]
    cases hf : (cols.take i).filter (rdB ps l) with
    | cons c r =>
      rw [hf] at htf
      have en : isNR (.val (stepO cols ps l (c :: r))) (.val .none) = some (.val (.bool false)) := rfl
      simp only [sIf_def, tAndM_def, tBin_def, xVar_def, xC_def, look_val, look_suc, liftO_some, useM_ret, frz_val, en, Option.bind_some, isB_bool, bindM_ret, Bool.false_eq_true, if_false, sNil_def, wp_ret]
      exact ⟨trivial, _, _, _, by rw [hlen, htf]; rfl⟩
    | nil =>
      rw [hf] at htf
      have es : stepO cols ps l [] = .none := rfl
      rw [es]
      have en : isNR (.val .none) (.val .none) = some (.val (.bool true)) := rfl
      have e4 := bit_ne (b := bQ cols (inB l)) (i := i)
      rw [bQ_colQ, colQ_get hi] at e4
      simp only [sIf_def, tAndM_def, tBin_def, tTru_def, xBin_def, xVar_def, xC_def, look_val, look_suc, liftO_some, useM_ret, frz_val, en, Option.bind_some, isB_bool, bindM_ret, if_true, shr_nat, and1_nat, truR_val, truD_int, e4]
      by_cases hin : cols[i] ∈ l
      · rw [if_pos (decide_eq_true hin)]
        have e5 : L2.atI ((List.range cols.length).map fun i => PyData.int ((bQ cols (nearQ cols ps i) : Nat) : Int)) ((i : Nat) : Int) = some (.int ((bQ cols (nearQ cols ps i) : Nat) : Int)) := by
          rw [atI_nat (by rw [List.length_map, List.length_range]; exact hi), List.getElem_map, List.getElem_range]
        have e6 := near_pow (ps := ps) (l := l) nd hi
        have e7 := held_bits (ps := ps) (l := l) (s1 := .val (.int (cols.length : Nat))) (s2 := .val (nearD cols ps)) (s3 := .val (bitD cols (inB l))) (s4 := s4) (s5 := .val .none) (s6 := .val (.int (i : Nat))) (s8 := s8) (s9 := s9) (s10 := s10) hc hpl hl hi
        simp only [sSeq_def, sSetF_def, xBin_def, xIx_def, xVar_def, xC_def, look_val, look_suc, liftO_some, useM_ret, frz_val, ixM_list, e5, Option.map_some, shl1 (i := i) (by omega), borR_int, bandR_int, e6, slotV_val, bindM_ret, List.set]
        rw [e7]
        simp only [useM_ret, frz_own, slotV_val, liftO_some, bindM_ret, List.set, sIf_def, tTru_def, xVar_def, look_val, look_suc, frz_val, truR_val, truD_list, List.isEmpty_map]
        cases hh : heldS ps l cols[i] with
        | nil =>
          simp only [List.isEmpty_nil, Bool.not_true, Bool.false_eq_true, if_false, sNil_def, wp_ret]
          refine ⟨trivial, .val (.int (i : Nat)), .val (.int ((bQ cols (wholeQ cols ps l i) : Nat) : Int)), .val (leftD []), ?_⟩
          rw [hlen, htf, if_neg (by unfold rdB; simp [hh])]
          rfl
        | cons k t =>
          have e8 : L2.atI (PyData.int ((k : Nat) : Int) :: t.map fun i => PyData.int ((i : Nat) : Int)) (0 : Int) = some (.int ((k : Nat) : Int)) := atI_nat (xs := PyData.int ((k : Nat) : Int) :: t.map fun i => PyData.int ((i : Nat) : Int)) (i := 0) (by simp)
          simp only [List.isEmpty_cons, Bool.not_false, if_true, sSetF_def, xTup_def, xIx_def, aCons_def, aNil_def, xVar_def, xC_def, look_val, look_suc, liftO_some, useM_ret, frz_val, bindM_ret, List.map_cons, ixM_list, e8, Option.map_some, valsOf_cons, valsOf_nil, Option.bind_some, List.length_cons, List.length_nil, Nat.zero_add, Nat.reduceAdd, hz2, slotV_val, List.set, wp_ret]
          refine ⟨trivial, .val (.int (i : Nat)), .val (.int ((bQ cols (wholeQ cols ps l i) : Nat) : Int)), .val (leftD (k :: t)), ?_⟩
          rw [hlen, htf, if_pos (by unfold rdB; simp [hh, hin])]
          show _ = [Slot.val (bitsD cols ps), _, _, _, _, .val (PL.stepI cols (cols[i], (heldS ps l cols[i]).headD 0)), _, _, _, _, _]
          unfold PL.stepI
          rw [hh, idxOf_at nd hi]
          rfl
      · rw [if_neg (by simp [hin])]
        simp only [sNil_def, wp_ret]
        refine ⟨trivial, .val (.int (i : Nat)), s7, s8, ?_⟩
        rw [hlen, htf, if_neg (by unfold rdB; simp [hin])]
        rfl
  case post =>
    cases o with
    | nx ρ2 =>
      rcases h with ⟨hg, s6', s7', s8', hρ⟩ | h
      · subst hρ
        refine ⟨hg, s6', s7', s8', ?_⟩
        rw [List.length_range, List.take_length]
      · exact h.elim
    | ret r => exact h.elim
    | brk ρ => exact h.elim
    | cnt ρ => exact h.elim
def takenR (cols : List Str) (ps : List (List Str)) : RV := match firstS ps cols.length cols with
  | none => .val .none
  | some f => .own (.list (f.map (stepI cols)))
theorem m_taken_among (hc : Cols cols) (hpl : ps.length ≤ 24) : M_taken_among [.val (bitsD cols ps), .val (.int (cols.length : Nat))] = retM (takenR cols ps) := by
  have hcl := hc.le
  have nd := asc_nodup hc.asc
  have hz2 : 2 ≤ sizeLine := small_le (by omega)
  refine ret_of_wp fun gs => ?_
  have e1 := m_near_bits (ps := ps) hc (by omega)
  have e2 : ((2 ^ cols.length : Nat) : Int) - 1 = ((bQ cols (fun _ => true) : Nat) : Int) := by
    have := bQ_full cols
    omega
  have e3 : bQ cols (fun _ => true) = bQ cols (inB cols) := bQ_inj.mpr fun c hcc => by
    show true = decide (c ∈ cols)
    simp [hcc]
  rw [e3] at e2
  unfold M_taken_among g_taken_among
  simp only [bodyM_def, sSeq_def, sPar3, List.replicate, List.cons_append, List.nil_append, xFn_def, aCons_def, aNil_def, xBin_def, xVar_def, xC_def, look_val, look_suc, liftO_some, useM_ret, frz_val, bindM_ret, call2, e1, frz_own, shl1 (i := cols.length) (by omega), subR_int, e2, xLst_def, valsOf_nil, Option.bind_some, List.length_nil, Nat.zero_le, if_true, valOf_val, slotV_own, List.set, wp_bind, wp_calm]
  refine wp_mono (wp_whileR (fun m ρ g => g = gs ∧ ∃ (l : List Str) (done : List (Str × Nat)) (s5 s6 s7 s8 : Slot), ρ = [.val (bitsD cols ps), .val (.int (cols.length : Nat)), .val (nearD cols ps), .val (bitD cols (inB l)), .own (.list (done.map (stepI cols))), s5, s6, s7, s8, .un, .un] ∧ l = cols.filter (fun c => decide (c ∈ l)) ∧ l.length = m ∧ done.length + l.length = cols.length ∧ firstS ps cols.length cols = (firstS ps l.length l).map (done ++ ·))
    (fun ρ g => g = gs ∧ ∃ (done : List (Str × Nat)) (s3 s5 s6 s7 s8 : Slot), ρ = [.val (bitsD cols ps), .val (.int (cols.length : Nat)), .val (nearD cols ps), s3, .own (.list (done.map (stepI cols))), s5, s6, s7, s8, .un, .un] ∧ firstS ps cols.length cols = some done)
    (fun r g => g = gs ∧ r = takenR cols ps) (fun m ρ g ⟨hg, l, done, s5, s6, s7, s8, hρ, hlf, hm, hdl, hfi⟩ => ?step) 100000 cols.length _ _ (by omega) ⟨rfl, cols, [], .un, .un, .un, .un, rfl, (by symm; exact List.filter_eq_self.mpr fun c h => decide_eq_true h), rfl, (by simp), (by simp)⟩) fun o g h => ?post
  case step =>
    subst hρ hg
    have hsub : ∀ c ∈ l, c ∈ cols := fun c h => by rw [hlf] at h; exact (List.mem_filter.mp h).1
    have ndl : l.Nodup := by rw [hlf]; exact nd.sublist List.filter_sublist
    simp only [tTru_def, xVar_def, look_val, look_suc, liftO_some, useM_ret, frz_val, truR_val, truD_int, wp_ret]
    by_cases hnil : l = []
    · subst hnil
      have e : bQ cols (inB []) = 0 := bQ_zero.mpr fun c hc => decide_eq_false fun h => nomatch h
      rw [if_neg (by simp [e])]
      refine ⟨trivial, done, _, _, _, _, _, rfl, ?_⟩
      rw [hfi]
      show ((some []).map (done ++ ·)) = _
      simp
    · obtain ⟨x, hx⟩ := List.exists_mem_of_ne_nil _ hnil
      have hne : bQ cols (inB l) ≠ 0 := fun e => by
        have := bQ_zero.mp e x (hsub x hx)
        simp [hx] at this
      rw [if_pos (by simpa using hne)]
      simp only [sSeq_def, sSetF_def, xC_def, useM_ret, frz_val, slotV_val, liftO_some, bindM_ret, List.set, wp_bind]
      refine wp_mono (tk_for (gs := g) hc hpl hsub) fun o g2 ⟨hg2, s6', s7', s8', ho⟩ => ?_
      subst hg2 ho
      rw [ready_cols hlf]
      obtain ⟨m', hm'⟩ : ∃ m', l.length = m' + 1 := ⟨l.length - 1, by have := List.length_pos_iff.mpr hnil; omega⟩
      rw [hm'] at hfi
      cases hr : readyS ps l with
      | nil =>
        rw [firstS_nil hr] at hfi
        have en : isNR (.val (stepO cols ps l [])) (.val .none) = some (.val (.bool true)) := rfl
        simp only [sIf_def, tBin_def, xVar_def, xC_def, look_val, look_suc, liftO_some, useM_ret, frz_val, en, Option.bind_some, isB_bool, bindM_ret, if_true, sRet_def, asRet_val, wp_ret]
        refine .inr ⟨_, rfl, trivial, ?_⟩
        unfold takenR
        rw [hfi]
        rfl
      | cons c r =>
        rw [firstS_cons hr] at hfi
        have hcr : c ∈ readyS ps l := by rw [hr]; exact List.mem_cons_self ..
        obtain ⟨hcl2, _⟩ := mem_readyS.mp hcr
        have hcc := hsub c hcl2
        have hidx := List.idxOf_lt_length_iff.mpr hcc
        have hat : cols[cols.idxOf c] = c := List.getElem_idxOf hidx
        have en : isNR (.val (stepO cols ps l (c :: r))) (.val .none) = some (.val (.bool false)) := rfl
        have hdz : done.length < sizeLine := Nat.lt_of_lt_of_le (by omega) (small_le (n := 10000) (Nat.le_refl _))
        have e8 : L2.atI [PyData.int ((cols.idxOf c : Nat) : Int), .int (((heldS ps l c).headD 0 : Nat) : Int)] (0 : Int) = some (.int ((cols.idxOf c : Nat) : Int)) := atI_nat (xs := [PyData.int ((cols.idxOf c : Nat) : Int), .int (((heldS ps l c).headD 0 : Nat) : Int)]) (i := 0) (by simp)
        have e9 : Builtin.bitAnd ((bQ cols (inB l) : Nat) : Int) (Builtin.bitNot ((2 ^ cols.idxOf c : Nat) : Int)) = ((bQ cols (inB (outS l c)) : Nat) : Int) := by
          rw [pow_bQ nd hidx, hat, iLess]
          congr 1
          refine bQ_inj.mpr fun d hd => ?_
          show (decide (d ∈ l) && !decide (d = c)) = decide (d ∈ outS l c)
          rw [Bool.eq_iff_iff, Bool.and_eq_true, Bool.not_eq_true', decide_eq_true_eq, decide_eq_false_iff_not, decide_eq_true_eq, mem_outS]
        have est : stepO cols ps l (c :: r) = .tuple [.int ((cols.idxOf c : Nat) : Int), .int (((heldS ps l c).headD 0 : Nat) : Int)] := rfl
        rw [est] at en ⊢
        simp only [sIf_def, tBin_def, xVar_def, xC_def, look_val, look_suc, liftO_some, useM_ret, frz_val, en, Option.bind_some, isB_bool, bindM_ret, Bool.false_eq_true, if_false, sNil_def, sSeq_def, sApp, ownList, List.getElem?_cons_succ, List.getElem?_cons_zero, valOf_val, List.length_map, hdz, if_true, List.set, sSetF_def, xBin_def, xUn_def, xIx_def, ixM_tuple, e8, Option.map_some, shl1 (i := cols.idxOf c) (by omega), invR_int, bandR_int, e9, slotV_val, wp_ret]
        have hol := outS_len ndl hcl2
        have hmo : (outS l c).length = m' := by omega
        refine .inl ⟨_, rfl, m', by omega, trivial, outS l c, done ++ [(c, (heldS ps l c).headD 0)], _, _, _, _, by rw [List.map_append]; rfl, ?_, hmo, by rw [List.length_append, List.length_singleton]; omega, ?_⟩
        · unfold outS
          conv => lhs; rw [hlf]
          rw [List.filter_filter]
          refine List.filter_congr fun d hd => ?_
          rw [Bool.eq_iff_iff, Bool.and_eq_true, decide_eq_true_eq, decide_eq_true_eq, List.mem_filter]
          exact ⟨fun h => ⟨h.2, h.1⟩, fun h => ⟨h.2, h.1⟩⟩
        · rw [hmo, hfi, Option.map_map]
          congr 1
          funext t
          simp
  case post =>
    rcases h with ⟨ρ2, ho, hg, done, s3, s5, s6, s7, s8, hρ, hfi⟩ | ⟨r, ho, hg, hr⟩
    · subst ho hg hρ
      simp only [sRet_def, xVar_def, look_own, look_suc, liftO_some, bindM_ret, asRet_bor, wp_ret]
      refine ⟨?_, trivial⟩
      unfold takenR
      rw [hfi]
    · subst ho hg hr
      simp only [wp_ret]
      exact ⟨trivial, trivial⟩
end
end JS
set_option Elab.async false
set_option linter.all false
set_option maxRecDepth 100000
set_option maxHeartbeats 4000000
/-! N4: taking_out, where it raises; what the law is told. -/
namespace PL
open PySem
def excM {α : Type} (y : Exn) : M α := fun gs => .exc y gs
theorem bindM_exc {α β : Type} {y : Exn} {f : α → M β} : bindM (excM y) f = excM y := rfl
theorem useM_exc {β : Type} {y : Exn} {f : RV → M β} : useM (excM y) f = excM y := rfl
theorem sRaise_exc {x f : Str} {ge : Sl → M RV} {ρ : Sl} {d : D} (h : ge ρ = retM (.val d)) : sRaise x f ge ρ = excM ⟨x, [(f, d)]⟩ := by
  unfold sRaise
  rw [h]
  rfl
theorem tryAs_ok {x f c : Str} {gb : Sl → M Out} {ρ : Sl} {o : Out} (h : gb ρ = retM o) : sTryAs x f c gb ρ = retM o := by
  funext gs
  show (match gb ρ gs with
    | .ok o g => Res.ok o g
    | .exc y g => if y.cls = x then (match y.pay.lookup f with
      | some d => .ok (Out.ret (.val (.tuple [.str c, d]))) g
      | none => .stuck) else .stuck
    | .stuck => .stuck) = _
  rw [h]
  rfl
theorem tryAs_exc {x f c : Str} {gb : Sl → M Out} {ρ : Sl} {d : D} (h : gb ρ = excM ⟨x, [(f, d)]⟩) : sTryAs x f c gb ρ = retM (.ret (.val (.tuple [.str c, d]))) := by
  funext gs
  show (match gb ρ gs with
    | .ok o g => Res.ok o g
    | .exc y g => if y.cls = x then (match y.pay.lookup f with
      | some d => .ok (Out.ret (.val (.tuple [.str c, d]))) g
      | none => .stuck) else .stuck
    | .stuck => .stuck) = _
  rw [h]
  show (if x = x then (match List.lookup f [(f, d)] with
      | some d => Res.ok (Out.ret (.val (.tuple [.str c, d]))) gs
      | none => .stuck) else .stuck) = _
  rw [if_pos rfl, List.lookup_cons, beq_self_eq_true]
  rfl
@[simp] theorem bodyX_def {m : Nat} {g : Sl → M Out} {ss : Sl} : bodyX m g ss = bindM (g (ss ++ List.replicate m .un)) fun o => match o with
    | .nx _ => retM (.val .none)
    | .ret r => retM r
    | _ => stuckM := id rfl
def toldD (ps : List (List Str)) (cols : List Str) : D := match firstS ps cols.length cols with
  | none => .tuple [.str "not possible", .str "cyclic"]
  | some f => .tuple [.str "told", stepsT f]
theorem firstS_sub {ps : List (List Str)} : ∀ (n : Nat) {left : List Str} {f : List (Str × Nat)}, firstS ps n left = some f → ∀ p ∈ f, p.1 ∈ left ∧ (p.2 < ps.length)
  | 0, left, f, h, p, hp => by cases h; exact nomatch hp
  | n + 1, left, f, h, p, hp => by
    cases hr : readyS ps left with
    | nil => rw [firstS_nil hr] at h; exact nomatch h
    | cons c r =>
      rw [firstS_cons hr] at h
      obtain ⟨t, ht, rfl⟩ := Option.map_eq_some_iff.mp h
      have hc : c ∈ readyS ps left := by rw [hr]; exact List.mem_cons_self ..
      obtain ⟨hcl, hch⟩ := mem_readyS.mp hc
      rcases List.mem_cons.mp hp with e | hp
      · rw [e]
        refine ⟨hcl, ?_⟩
        obtain ⟨k, t, ek⟩ := List.exists_cons_of_ne_nil hch
        rw [ek]
        exact (mem_heldS.mp (show k ∈ heldS ps left c by rw [ek]; exact List.mem_cons_self ..)).1
      · obtain ⟨h1, h2⟩ := firstS_sub n ht p hp
        exact ⟨(mem_outS.mp h1).1, h2⟩
theorem firstS_len {ps : List (List Str)} : ∀ (n : Nat) {left : List Str} {f : List (Str × Nat)}, firstS ps n left = some f → f.length = n
  | 0, left, f, h => by cases h; rfl
  | n + 1, left, f, h => by
    cases hr : readyS ps left with
    | nil => rw [firstS_nil hr] at h; exact nomatch h
    | cons c r =>
      rw [firstS_cons hr] at h
      obtain ⟨t, ht, rfl⟩ := Option.map_eq_some_iff.mp h
      rw [List.length_cons, firstS_len n ht]
end PL
namespace JS
open PySem PL
section
variable {cols : List Str} {ps : List (List Str)} {gs : GS}
theorem m_taking_out (hc : Cols cols) (C : Cover cols ps) : M_taking_out [.val (tS cols), .val (tT ps)] = (match firstS ps cols.length cols with
    | none => excM ⟨"NotPossible", [("why", .str "cyclic")]⟩
    | some f => retM (.val (stepsT f))) := by
  have hpl := C.le
  have hcl := hc.le
  have hz2 : 2 ≤ sizeLine := small_le (by omega)
  have e1 := m_part_bits hc C.part (by omega)
  have e2 := m_taken_among (ps := ps) hc hpl
  unfold M_taking_out g_taking_out
  simp only [bodyX_def, sSeq_def, sExpr, sSetF_def, List.replicate, List.cons_append, List.nil_append, xFn_def, xCall_def, aCons_def, aNil_def, xVar_def, look_val, look_suc, liftO_some, useM_ret, frz_val, bindM_ret, call2, m_check_cover hc C, e1, frz_own, lenR_tuple, List.length_map, e2]
  unfold takenR
  cases hf : firstS ps cols.length cols with
  | none =>
    have en : isNR (.val .none) (.val .none) = some (.val (.bool true)) := rfl
    have er := sRaise_exc (x := "NotPossible") (f := "why") (ge := xC (.str "cyclic")) (ρ := [.val (tS cols), .val (tT ps), .val .none, .un, .un]) (d := .str "cyclic") rfl
    simp only [useM_ret, frz_val, slotV_val, liftO_some, bindM_ret, List.set, sIf_def, tBin_def, xVar_def, xC_def, look_val, look_suc, en, Option.bind_some, isB_bool, if_true]
    rw [show xC (.str "cyclic") = xC (.str "cyclic") from rfl] at er
    rw [er]
    rfl
  | some f =>
    have en : isNR (.val (.list (f.map (PL.stepI cols)))) (.val .none) = some (.val (.bool false)) := rfl
    have hfl := firstS_len _ hf
    have hsub := firstS_sub _ hf
    have e3 : xLc (iSeq (xVar 2)) [3, 4] (gTp 2 (gsCons (gNm 3) (gsCons (gNm 4) gsNil))) tYesM (xTup (aCons (xIx (xVar 0) (xVar 3)) (aCons (xVar 4) aNil))) [.val (tS cols), .val (tT ps), .val (.list (f.map (PL.stepI cols))), .un, .un] = retM (.own (.list (f.map stepPD))) := by
      rw [xLc_def (ds := f.map (PL.stepI cols)) (b := false) (by simp) (by rw [List.length_map]; exact small_le (by omega))]
      rw [compL_map (F := stepPD) fun p hp => ?_]
      · rw [bindM_ret]
      · have hpc := (hsub p hp).1
        have hidx := List.idxOf_lt_length_iff.mpr hpc
        have e4 : L2.atI (cols.map PyData.str) ((cols.idxOf p.1 : Nat) : Int) = some (.str p.1) := by
          rw [atI_nat (by rw [List.length_map]; exact hidx), List.getElem_map, List.getElem_idxOf hidx]
        simp only [PL.stepI, turnL, wipeS, List.set, gTp, gsCons, gsNil, gNm_def, List.length_cons, List.length_nil, if_true, Option.bind_some, liftO_some, bindM_ret, tYesM_def, xTup_def, xIx_def, aCons_def, aNil_def, xVar_def, look_val, look_suc, useM_ret, frz_val, ixM_tuple, e4, Option.map_some, valsOf_cons, valsOf_nil, Nat.zero_add, Nat.reduceAdd, hz2, valOf_val]
        rfl
    simp only [useM_ret, frz_own, slotV_val, liftO_some, bindM_ret, List.set, sIf_def, tBin_def, xVar_def, xC_def, look_val, look_suc, frz_val, en, Option.bind_some, isB_bool, Bool.false_eq_true, if_false, sNil_def, sRet_def, xCall_def, aCons_def, aNil_def, e3, tupleR_list, asRet_val]
theorem m_told_out (hc : Cols cols) (C : Cover cols ps) {d : D} : M__law_told [.val (.str "out"), .val (tS cols), .val (tT ps), .val d] = retM (.val (toldD ps cols)) := by
  have hz2 : 2 ≤ sizeLine := small_le (by omega)
  have e1 : eqR (.val (.str "out")) (.val (.str "out")) = some (.val (.bool true)) := eqR_same (by decide +kernel)
  have e2 := m_taking_out hc C
  have body : sRet (xTup (aCons (xC (.str "told")) (aCons (xIf (tBin eqR (xVar 0) (xC (.str "out"))) (xFn 2 M_taking_out (aCons (xVar 1) (aCons (xVar 2) aNil)) []) (xFn 3 M_accepts_taking_out (aCons (xVar 1) (aCons (xVar 2) (aCons (xVar 3) aNil))) [])) aNil))) [.val (.str "out"), .val (tS cols), .val (tT ps), .val d, .un] = (match firstS ps cols.length cols with
      | none => excM ⟨"NotPossible", [("why", .str "cyclic")]⟩
      | some f => retM (.ret (.val (.tuple [.str "told", stepsT f])))) := by
    simp only [sRet_def, xTup_def, aCons_def, aNil_def, xC_def, useM_ret, frz_val, bindM_ret, xIf_def, tBin_def, xVar_def, look_val, look_suc, liftO_some, e1, Option.bind_some, isB_bool, if_true, xFn_def, call2, e2]
    cases hf : firstS ps cols.length cols with
    | none => simp only [useM_exc, bindM_exc]
    | some f => simp only [useM_ret, frz_val, bindM_ret, valsOf_cons, valsOf_nil, Option.map_some, Option.bind_some, List.length_cons, List.length_nil, Nat.zero_add, Nat.reduceAdd, hz2, if_true, liftO_some, asRet_val]
  unfold M__law_told g__law_told
  simp only [bodyM_def, List.replicate, List.cons_append, List.nil_append]
  unfold toldD
  cases hf : firstS ps cols.length cols with
  | none =>
    rw [hf] at body
    rw [tryAs_exc body]
    simp only [calmM_ret, bindM_ret]
  | some f =>
    rw [hf] at body
    rw [tryAs_ok body]
    simp only [calmM_ret, bindM_ret]
end
end JS
set_option Elab.async false
set_option linter.all false
set_option maxRecDepth 100000
set_option maxHeartbeats 4000000
/-! N5: the judge of the code. -/
namespace PL
open PySem
@[simp] theorem notR_bool {b : Bool} : notR (.val (.bool b)) = some (.val (.bool (!b))) := id rfl
theorem bit_zero {b i : Nat} : (((b / 2 ^ i % 2 : Nat) : Int) == 0) = !b.testBit i := by
  rw [← bit_ne (b := b) (i := i)]
  unfold bne
  rw [Bool.not_not]
theorem ok_int {ps : List (List Str)} {left : List Str} {c : Str} {i : Int} {r : List D} : okD ps left (.tuple [.str c, .int i] :: r) = (decide (c ∈ left) && (decide (0 ≤ i) && (decide (i.toNat ∈ heldS ps left c) && okD ps (outS left c) r))) := by
  rw [okD]
theorem ok_bool {ps : List (List Str)} {left : List Str} {c : Str} {b : Bool} {r : List D} : okD ps left (.tuple [.str c, .bool b] :: r) = false := by
  rw [okD]
  all_goals (intros; simp_all)
theorem ok_none {ps : List (List Str)} {left : List Str} {c : Str} {r : List D} : okD ps left (.tuple [.str c, .none] :: r) = false := by
  rw [okD]
  all_goals (intros; simp_all)
theorem ok_one {ps : List (List Str)} {left : List Str} {c : Str} {r : List D} : okD ps left (.tuple [.str c] :: r) = false := by
  rw [okD]
  all_goals (intros; simp_all)
end PL
namespace JS
open PySem PL
theorem m_tuple_not {d : D} {a b : Int} (h : isT "tuple" d = false) : M_is_tuple_of [.val d, .val (.int a), .val (.int b)] = retM (.val (.bool false)) := by
  unfold M_is_tuple_of g_is_tuple_of
  simp [h]
theorem it_pair {d : D} (h : It d) : M_is_tuple_of [.val d, .val (.int 2), .val (.int 2)] = retM (.val (.bool (pairB d))) := by
  cases h with
  | int => rw [m_is_tuple_of]; rfl
  | bool => rw [m_is_tuple_of]; rfl
  | none => rw [m_is_tuple_of]; rfl
  | lst => rw [m_tuple_not rfl]; rfl
  | one => rw [m_is_tuple_of]; rfl
theorem m_from_int {i m : Int} : M_is_from_to [.val (.int i), .val (.int 0), .val (.int m)] = retM (.val (.bool (decide (0 ≤ i) && decide (i ≤ m)))) := by
  have e : M_is_integer [.val (.int i)] = retM (.val (.bool true)) := by
    unfold M_is_integer g_is_integer
    simp [isT, tyN]
  unfold M_is_from_to g_is_from_to
  by_cases h : 0 ≤ i <;> simp [e, h]
theorem m_from_bool {b : Bool} {m : Int} : M_is_from_to [.val (.bool b), .val (.int 0), .val (.int m)] = retM (.val (.bool false)) := by
  have e : M_is_integer [.val (.bool b)] = retM (.val (.bool false)) := by
    unfold M_is_integer g_is_integer
    simp [isT, tyN]
  unfold M_is_from_to g_is_from_to
  simp [e]
theorem m_from_none {m : Int} : M_is_from_to [.val .none, .val (.int 0), .val (.int m)] = retM (.val (.bool false)) := by
  have e : M_is_integer [.val .none] = retM (.val (.bool false)) := by
    unfold M_is_integer g_is_integer
    simp [isT, tyN]
  unfold M_is_from_to g_is_from_to
  simp [e]
end JS
set_option Elab.async false
set_option linter.all false
set_option maxRecDepth 100000
set_option maxHeartbeats 4000000
/-! N6: the judge of the code, whole. -/
namespace PL
open PySem
def headB (ps : List (List Str)) (l : List Str) (c : Str) : D → Bool
  | .int i => decide (c ∈ l) && (decide (0 ≤ i) && decide (i.toNat ∈ heldS ps l c))
  | _ => false
/-- the second of a pair -/
inductive Nm : D → Prop
  | int {i : Int} : i.natAbs ≤ 100 → Nm (.int i)
  | bool {b : Bool} : Nm (.bool b)
  | none : Nm .none
theorem ok_head {ps : List (List Str)} {l : List Str} {c : Str} {x : D} {r : List D} (h : Nm x) : okD ps l (.tuple [.str c, x] :: r) = (headB ps l c x && okD ps (outS l c) r) := by
  cases h with
  | int _ => rw [ok_int]; unfold headB; simp only [Bool.and_assoc]
  | bool => rw [ok_bool]; rfl
  | none => rw [ok_none]; rfl
theorem it_cases {d : D} (h : It d) (hp : pairB d = true) : ∃ c x, d = .tuple [.str c, x] ∧ PyData.strOk c = true ∧ Nm x := by
  cases h with
  | int h1 h2 => exact ⟨_, _, rfl, h1, .int h2⟩
  | bool h1 => exact ⟨_, _, rfl, h1, .bool⟩
  | none h1 => exact ⟨_, _, rfl, h1, .none⟩
  | lst => exact nomatch hp
  | one => exact nomatch hp
end PL
namespace JS
open PySem PL
section
variable {cols l : List Str} {ps : List (List Str)} {gs : GS}
theorem m_from {x : D} (h : Nm x) {m : Int} : ∃ b : Bool, M_is_from_to [.val x, .val (.int 0), .val (.int m)] = retM (.val (.bool b)) ∧ (b = true ↔ ∃ i : Int, x = .int i ∧ 0 ≤ i ∧ i ≤ m) := by
  cases h with
  | int _ =>
    refine ⟨_, m_from_int, ?_⟩
    rw [Bool.and_eq_true, decide_eq_true_eq, decide_eq_true_eq]
    exact ⟨fun h => ⟨_, rfl, h⟩, fun ⟨i, e, h⟩ => by cases e; exact h⟩
  | bool => exact ⟨_, m_from_bool, ⟨(fun h => nomatch h), fun ⟨i, e, _⟩ => nomatch e⟩⟩
  | none => exact ⟨_, m_from_none, ⟨(fun h => nomatch h), fun ⟨i, e, _⟩ => nomatch e⟩⟩
abbrev acBody : Sl → M Out := (sSeq (sIf (tOrM (tNotM (tTru (xIsi (isT "str") (xVar 7)))) (tOrM (tBin notInR (xVar 7) (xVar 0)) (tNotM (tTru (xFn 3 M_is_from_to (aCons (xVar 8) (aCons (xC (.int 0)) (aCons (xBin subR (xCall lenR (aCons (xVar 4) aNil)) (xC (.int 1))) aNil))) []))))) (sRet (xC (.bool false))) sNil) (sSeq (sSetF 9 (xIndex (xVar 0) (xVar 7))) (sSeq (sIf (tOrM (tBin eqR (xBin bandR (xBin shrR (xVar 6) (xVar 9)) (xC (.int 1))) (xC (.int 0))) (tBin neR (xBin bandR (xBin bandR (xBin borR (xIx (xVar 5) (xVar 9)) (xBin shlR (xC (.int 1)) (xVar 9))) (xVar 6)) (xUn invR (xIx (xVar 4) (xVar 8)))) (xC (.int 0)))) (sRet (xC (.bool false))) sNil) (sSetF 6 (xBin bandR (xVar 6) (xUn invR (xBin shlR (xC (.int 1)) (xVar 9))))))))
theorem ac_turn (hc : Cols cols) (hpl : ps.length ≤ 24) (hl : ∀ c ∈ l, c ∈ cols) {c : Str} {x v : D} (hcc : PyData.strOk c = true) (hx : Nm x) {s1 s9 s10 : Slot} :
    wp (acBody [.val (tS cols), s1, .val v, .val (.int (cols.length : Nat)), .val (bitsD cols ps), .val (nearD cols ps), .val (bitD cols (inB l)), .val (.str c), .val x, s9, s10]) gs fun o g => g = gs ∧
      ((headB ps l c x = true ∧ ∃ s9, o = .nx [.val (tS cols), s1, .val v, .val (.int (cols.length : Nat)), .val (bitsD cols ps), .val (nearD cols ps), .val (bitD cols (inB (outS l c))), .val (.str c), .val x, s9, s10]) ∨ (headB ps l c x = false ∧ o = .ret (.val (.bool false)))) := by
  have hcl := hc.le
  have nd := asc_nodup hc.asc
  have e1 := notIn_tS (r := .val (tS cols)) (x := c) (xs := cols) rfl hcc hc.okS
  have e2 : isT "str" (.str c) = true := rfl
  have hsub : ((ps.length : Nat) : Int) - 1 = ((ps.length : Nat) : Int) - 1 := rfl
  obtain ⟨b, ef, hb⟩ := m_from hx (m := ((ps.length : Nat) : Int) - 1)
  unfold acBody
  simp only [sSeq_def, sIf_def, tOrM_def, tNotM_def, tTru_def, tBin_def, xIsi_def, xVar_def, look_val, look_suc, liftO_some, useM_ret, frz_val, rd_val, Option.map_some, e2, truR_val, truD_bool, Bool.not_true, Bool.false_eq_true, if_false, bindM_ret, e1, Option.bind_some, isB_bool]
  by_cases hcm : c ∈ cols
  · simp only [hcm, decide_true, Bool.not_true, Bool.false_eq_true, if_false, xFn_def, xBin_def, xCall_def, aCons_def, aNil_def, xVar_def, xC_def, look_val, look_suc, liftO_some, useM_ret, frz_val, bindM_ret, lenR_list, List.length_map, subR_int, call3, ef, truR_val, truD_bool]
    cases hbb : b with
    | false =>
      simp only [Bool.not_false, if_true, sRet_def, xC_def, bindM_ret, asRet_val, wp_ret]
      refine ⟨trivial, .inr ⟨?_, trivial⟩⟩
      have hno : ¬ ∃ i : Int, x = .int i ∧ 0 ≤ i ∧ i ≤ ((ps.length : Nat) : Int) - 1 := fun h => by
        have := hb.mpr h
        rw [hbb] at this
        exact nomatch this
      cases x with
      | int i =>
        show (decide (c ∈ l) && (decide (0 ≤ i) && decide (i.toNat ∈ heldS ps l c))) = false
        cases hh : (decide (c ∈ l) && (decide (0 ≤ i) && decide (i.toNat ∈ heldS ps l c))) with
        | false => rfl
        | true =>
          rw [Bool.and_eq_true, Bool.and_eq_true, decide_eq_true_eq, decide_eq_true_eq, decide_eq_true_eq] at hh
          have := (mem_heldS.mp hh.2.2).1
          exact absurd ⟨i, rfl, hh.2.1, by omega⟩ hno
      | _ => rfl
    | true =>
      obtain ⟨i, rfl, hi0, him⟩ := hb.mp hbb
      have hidx := List.idxOf_lt_length_iff.mpr hcm
      have hat : cols[cols.idxOf c] = c := List.getElem_idxOf hidx
      have hz := bit_zero (b := bQ cols (inB l)) (i := cols.idxOf c)
      rw [bQ_colQ, colQ_get hidx, hat] at hz
      have hz : (((bQ cols (inB l) / 2 ^ cols.idxOf c % 2 : Nat) : Int) == 0) = !decide (c ∈ l) := hz
      simp only [Bool.not_true, Bool.false_eq_true, if_false, sNil_def, bindM_ret, sSetF_def, xIndex_def, xVar_def, look_val, look_suc, liftO_some, useM_ret, frz_val, isSeqR_tuple, idxR_str hcm, slotV_val, List.set, sIf_def, tOrM_def, tBin_def, xBin_def, xC_def, shr_nat, and1_nat, eqR_int, hz, Option.bind_some, isB_bool]
      by_cases hlm : c ∈ l
      · have hk : i.toNat < ps.length := by omega
        have hii : ((i.toNat : Nat) : Int) = i := by omega
        have e5 : L2.atI ((List.range cols.length).map fun i => PyData.int ((bQ cols (nearQ cols ps i) : Nat) : Int)) ((cols.idxOf c : Nat) : Int) = some (.int ((bQ cols (nearQ cols ps (cols.idxOf c)) : Nat) : Int)) := by
          rw [atI_nat (by rw [List.length_map, List.length_range]; exact hidx), List.getElem_map, List.getElem_range]
        have e6 := near_pow (ps := ps) (l := l) nd hidx
        have e7 : L2.atI (ps.map fun p => PyData.int ((bQ cols (inB p) : Nat) : Int)) i = some (.int ((bQ cols (inB (PS ps i.toNat)) : Nat) : Int)) := by
          rw [← hii, atI_nat (by rw [List.length_map]; exact hk), List.getElem_map]
          rw [show (((i.toNat : Nat) : Int)).toNat = i.toNat by omega, PS_at hk]
        have hwz := whole_zero (ps := ps) (l := l) hl hidx (p := PS ps i.toNat)
        rw [hat] at hwz
        have e0 : (((bQ cols (fun d => wholeQ cols ps l (cols.idxOf c) d && !inB (PS ps i.toNat) d) : Nat) : Int) != 0) = !decide (i.toNat ∈ heldS ps l c) := by
          rw [Bool.eq_iff_iff, bne_iff_ne, Bool.not_eq_true', decide_eq_false_iff_not, mem_heldS]
          constructor
          · intro h hh
            exact h (by have := hwz.mpr hh.2; omega)
          · intro h h0
            exact h ⟨hk, hwz.mp (by omega)⟩
        have e0 : (!(((bQ cols (fun d => wholeQ cols ps l (cols.idxOf c) d && !inB (PS ps i.toNat) d) : Nat) : Int) == 0)) = !decide (i.toNat ∈ heldS ps l c) := e0
        have e9 : Builtin.bitAnd ((bQ cols (inB l) : Nat) : Int) (Builtin.bitNot ((2 ^ cols.idxOf c : Nat) : Int)) = ((bQ cols (inB (outS l c)) : Nat) : Int) := by
          rw [pow_bQ nd hidx, hat, iLess]
          congr 1
          refine bQ_inj.mpr fun d hd => ?_
          show (decide (d ∈ l) && !decide (d = c)) = decide (d ∈ outS l c)
          rw [Bool.eq_iff_iff, Bool.and_eq_true, Bool.not_eq_true', decide_eq_true_eq, decide_eq_false_iff_not, decide_eq_true_eq, mem_outS]
        simp only [hlm, decide_true, Bool.not_true, Bool.false_eq_true, if_false, xUn_def, xBin_def, xIx_def, xVar_def, xC_def, look_val, look_suc, liftO_some, useM_ret, frz_val, ixM_list, e5, e7, Option.map_some, shl1 (i := cols.idxOf c) (by omega), borR_int, bandR_int, invR_int, e6, iLess, neR_int, e0, Option.bind_some, isB_bool, bindM_ret]
        by_cases hh : i.toNat ∈ heldS ps l c
        · simp only [hh, decide_true, Bool.not_true, Bool.false_eq_true, if_false, sNil_def, bindM_ret, sSetF_def, xBin_def, xUn_def, xVar_def, xC_def, look_val, look_suc, liftO_some, useM_ret, frz_val, shl1 (i := cols.idxOf c) (by omega), invR_int, bandR_int, e9, slotV_val, List.set, wp_ret]
          refine ⟨trivial, .inl ⟨?_, _, rfl⟩⟩
          show (decide (c ∈ l) && (decide (0 ≤ i) && decide (i.toNat ∈ heldS ps l c))) = true
          simp [hlm, hi0, hh]
        · simp only [hh, decide_false, Bool.not_false, if_true, sRet_def, xC_def, bindM_ret, asRet_val, wp_ret]
          refine ⟨trivial, .inr ⟨?_, trivial⟩⟩
          show (decide (c ∈ l) && (decide (0 ≤ i) && decide (i.toNat ∈ heldS ps l c))) = false
          simp [hh]
      · simp only [hlm, decide_false, Bool.not_false, if_true, sRet_def, xC_def, bindM_ret, asRet_val, wp_ret]
        refine ⟨trivial, .inr ⟨?_, trivial⟩⟩
        show (decide (c ∈ l) && (decide (0 ≤ i) && decide (i.toNat ∈ heldS ps l c))) = false
        simp [hlm]
  · have hlm : c ∉ l := fun h => hcm (hl c h)
    simp only [hcm, decide_false, Bool.not_false, if_true, sRet_def, xC_def, bindM_ret, asRet_val, wp_ret]
    refine ⟨trivial, .inr ⟨?_, trivial⟩⟩
    cases x with
    | int i =>
      show (decide (c ∈ l) && (decide (0 ≤ i) && decide (i.toNat ∈ heldS ps l c))) = false
      simp [hlm]
    | _ => rfl
end
end JS
set_option Elab.async false
set_option linter.all false
set_option maxRecDepth 100000
set_option maxHeartbeats 4000000
/-! N7: both judges. -/
namespace PL
open PySem
theorem judge_tup {cols : List Str} {ps : List (List Str)} {ds : List D} : judgeB cols ps (.tuple ds) = (decide (ds.length = cols.length) && okD ps cols ds) := rfl
theorem wp_forD {g : D → Sl → Option Sl} {tb : Sl → M Out} {all : List D} (J : List D → Sl → GS → Prop) (Bk : Sl → GS → Prop) (Rt : RV → GS → Prop)
    (hs : ∀ pre x post ρ gs, all = pre ++ x :: post → J pre ρ gs → ∃ ρ1, g x ρ = some ρ1 ∧ wp (tb ρ1) gs fun o g' => match o with
      | .nx ρ2 => J (pre ++ [x]) ρ2 g'
      | .cnt ρ2 => J (pre ++ [x]) ρ2 g'
      | .brk ρ2 => Bk ρ2 g'
      | .ret r => Rt r g') {ρ : Sl} {gs : GS} (h0 : J [] ρ gs) :
    wp (forL g tb all ρ) gs fun o g' => match o with
      | .nx ρ2 => J all ρ2 g' ∨ Bk ρ2 g'
      | .ret r => Rt r g'
      | _ => False := by
  have h := wp_forL (e := fun d : D => d) J Bk Rt hs (xs := all) (pre := []) rfl h0
  rw [list_map_id] at h
  exact h
end PL
namespace JS
open PySem PL
section
variable {cols l : List Str} {ps : List (List Str)} {gs : GS}
theorem m_accepts (hc : Cols cols) (C : Cover cols ps) {v : D} (hv : Val v) : M_accepts_taking_out [.val (tS cols), .val (tT ps), .val v] = retM (.val (.bool (judgeB cols ps v))) := by
  have hcl := hc.le
  have hpl := C.le
  refine ret_of_wp fun gs => ?_
  have e1 := m_part_bits hc C.part (by omega)
  unfold M_accepts_taking_out g_accepts_taking_out
  simp only [bodyM_def, sSeq_def, sExpr, sPar_def, List.replicate, List.cons_append, List.nil_append, xFn_def, xCall_def, aCons_def, aNil_def, xVar_def, look_val, look_suc, liftO_some, useM_ret, frz_val, bindM_ret, call2, m_check_cover hc C, lenR_tuple, List.length_map, e1, slotV_val, slotV_own, List.set, sFrz, List.getElem?_cons_succ, List.getElem?_cons_zero, frzS, sIf_def, tOrM_def, tNotM_def, tTru_def, call3]
  cases hv with
  | lst hds hdl =>
    rename_i ds
    simp only [m_tuple_not (d := .list ds) rfl, useM_ret, frz_val, truR_val, truD_bool, liftO_some, bindM_ret, Bool.not_false, if_true, sRet_def, xC_def, asRet_val, wp_ret, calmM_ret]
    exact ⟨rfl, trivial⟩
  | tup hds hdl =>
    rename_i ds
    have e2 : (decide (((cols.length : Nat) : Int) ≤ ((ds.length : Nat) : Int)) && decide (((ds.length : Nat) : Int) ≤ ((cols.length : Nat) : Int))) = decide (ds.length = cols.length) := by
      rw [Bool.eq_iff_iff, Bool.and_eq_true, decide_eq_true_eq, decide_eq_true_eq, decide_eq_true_eq]
      omega
    have e3 : xLc (iSeq (xVar 2)) [10] (gNm 10) tYesM (xFn 3 M_is_tuple_of (aCons (xVar 10) (aCons (xC (.int 2)) (aCons (xC (.int 2)) aNil))) []) [.val (tS cols), .val (tT ps), .val (.tuple ds), .val (.int ((cols.length : Nat) : Int)), .val (bitsD cols ps), .un, .un, .un, .un, .un, .un] = retM (.own (.list (ds.map fun d => .bool (pairB d)))) := by
      rw [xLc_def (ds := ds) (b := false) (by simp) (small_le (by omega))]
      have := compL_map (ρ0 := wipeS [.val (tS cols), .val (tT ps), .val (.tuple ds), .val (.int ((cols.length : Nat) : Int)), .val (bitsD cols ps), .un, .un, .un, .un, .un, .un] [10]) (g := gNm 10) (tt := tYesM) (te := xFn 3 M_is_tuple_of (aCons (xVar 10) (aCons (xC (.int 2)) (aCons (xC (.int 2)) aNil))) []) (e := fun d : D => d) (F := fun d => PyData.bool (pairB d)) (xs := ds) fun d hd => by
        have e4 := it_pair (hds d hd)
        simp only [turnL, wipeS, List.set, gNm_def, liftO_some, bindM_ret, tYesM_def, if_true, xFn_def, aCons_def, aNil_def, xVar_def, xC_def, look_val, look_suc, useM_ret, frz_val, call3, e4, valOf_val]
      rw [list_map_id] at this
      rw [this, bindM_ret]
    simp only [m_is_tuple_of, e2, useM_ret, frz_val, truR_val, truD_bool, liftO_some, bindM_ret]
    by_cases hlen : ds.length = cols.length
    · simp only [hlen, decide_true, Bool.not_true, Bool.false_eq_true, if_false]
      rw [show (PyData.list (ps.map fun p => PyData.int ((bQ cols (inB p) : Nat) : Int))) = bitsD cols ps from rfl, e3]
      simp only [useM_ret, frz_own, bindM_ret, allR_bools, liftO_some, frz_val, truR_val, truD_bool]
      cases hall : ds.all pairB with
      | false =>
        simp only [Bool.not_false, if_true, sRet_def, xC_def, useM_ret, bindM_ret, asRet_val, wp_ret, calmM_ret]
        refine ⟨?_, trivial⟩
        have hno : okD ps cols ds = false := by
          cases h : okD ps cols ds with
          | false => rfl
          | true =>
            have := List.all_eq_true.mpr (ok_pair h)
            rw [hall] at this
            exact nomatch this
        rw [judge_tup, hno, Bool.and_false]
      | true =>
        have hpair := List.all_eq_true.mp hall
        have en := m_near_bits (ps := ps) hc (by omega)
        have e5 : ((2 ^ cols.length : Nat) : Int) - 1 = ((bQ cols (fun _ => true) : Nat) : Int) := by
          have := bQ_full cols
          omega
        have e6 : bQ cols (fun _ => true) = bQ cols (inB cols) := bQ_inj.mpr fun c hcc => by
          show true = decide (c ∈ cols)
          simp [hcc]
        rw [e6] at e5
        simp only [Bool.not_true, Bool.false_eq_true, if_false, sNil_def, bindM_ret, look_val, look_suc, liftO_some, useM_ret, frz_val, call2, en, xBin_def, xC_def, xVar_def, shl1 (i := cols.length) (by omega), subR_int, e5, slotV_own, slotV_val, List.set, sFor_def, iSeq_def, walk_tuple, wp_bind, wp_calm, wp_ret, List.getElem?_cons_succ, List.getElem?_cons_zero]
        simp only [if_true]
        refine wp_mono (wp_forD (all := ds) (fun pre ρ g => g = gs ∧ ∃ (l : List Str) (s7 s8 s9 s10 : Slot), ρ = [.val (tS cols), .val (tT ps), .val (.tuple ds), .val (.int (cols.length : Nat)), .val (bitsD cols ps), .val (nearD cols ps), .val (bitD cols (inB l)), s7, s8, s9, s10] ∧ (∀ c ∈ l, c ∈ cols) ∧ okD ps cols ds = okD ps l (ds.drop pre.length))
          (fun _ _ => False) (fun r g => g = gs ∧ okD ps cols ds = false ∧ r = .val (.bool false)) (fun pre d post ρ g ea ⟨hg, l, s7, s8, s9, s10, hρ, hsub, hok⟩ => ?step) ⟨rfl, cols, .un, .un, .un, .un, rfl, (fun _ h => h), rfl⟩) fun o g h => ?post
        case step =>
          subst hρ hg
          have hd : d ∈ ds := by rw [ea]; simp
          obtain ⟨c, x, rfl, hcc, hx⟩ := it_cases (hds d hd) (hpair d hd)
          have hdr : ds.drop pre.length = .tuple [.str c, x] :: post := by rw [ea, List.drop_left]
          rw [hdr, ok_head hx] at hok
          refine ⟨[.val (tS cols), .val (tT ps), .val (.tuple ds), .val (.int (cols.length : Nat)), .val (bitsD cols ps), .val (nearD cols ps), .val (bitD cols (inB l)), .val (.str c), .val x, s9, s10], rfl, ?_⟩
          refine wp_mono (ac_turn (gs := g) hc hpl hsub hcc hx) fun o g2 ⟨hg, h⟩ => ?_
          subst hg
          rcases h with ⟨hh, s9', ho⟩ | ⟨hh, ho⟩
          · subst ho
            refine ⟨rfl, outS l c, _, _, _, _, rfl, fun o ho => hsub o (mem_outS.mp ho).1, ?_⟩
            rw [hok, hh, Bool.true_and, List.length_append, List.length_singleton]
            congr 1
            rw [← List.drop_drop, hdr]
            rfl
          · subst ho
            exact ⟨rfl, by rw [hok, hh, Bool.false_and], rfl⟩
        case post =>
          cases o with
          | nx ρ2 =>
            rcases h with ⟨hg, l, s7, s8, s9, s10, hρ, hsub, hok⟩ | h
            · subst hg
              simp only [sRet_def, xC_def, bindM_ret, asRet_val, wp_ret]
              refine ⟨?_, trivial⟩
              rw [judge_tup, hok, List.drop_length, okD, Bool.and_true, hlen]
              simp
            · exact h.elim
          | ret r =>
            obtain ⟨hg, hok, hr⟩ := h
            simp only [wp_ret]
            refine ⟨?_, hg⟩
            rw [hr, judge_tup, hok, Bool.and_false]
          | brk ρ => exact h.elim
          | cnt ρ => exact h.elim
    · simp only [hlen, decide_false, Bool.not_false, if_true, sRet_def, xC_def, useM_ret, frz_val, bindM_ret, asRet_val, wp_ret, calmM_ret]
      refine ⟨?_, trivial⟩
      rw [judge_tup, decide_eq_false hlen, Bool.false_and]
end
end JS
set_option Elab.async false
set_option linter.all false
set_option maxRecDepth 100000
set_option maxHeartbeats 4000000
/-! N8: the law's own judge. -/
namespace PL
open PySem
def itPlain : D → Bool
  | .list _ => false
  | _ => true
theorem notIn_left {i : Int} {L : List Nat} (h : 0 ≤ i) : notInR (.val (.int i)) (.val (leftD L)) = some (.val (.bool (!decide (i.toNat ∈ L)))) := by
  have e : ((L.map fun k => PyData.int ((k : Nat) : Int)).any fun z => PyData.eqv z (.int i)) = decide (i.toNat ∈ L) := by
    rw [Bool.eq_iff_iff, List.any_eq_true, decide_eq_true_eq]
    constructor
    · rintro ⟨z, hz, h2⟩
      obtain ⟨k, hk, rfl⟩ := List.mem_map.mp hz
      have h2 : (((k : Nat) : Int) == i) = true := h2
      have : i.toNat = k := by
        have := eq_of_beq h2
        omega
      rw [this]; exact hk
    · intro h2
      refine ⟨.int ((i.toNat : Nat) : Int), List.mem_map.mpr ⟨_, h2, rfl⟩, ?_⟩
      show ((((i.toNat : Nat) : Int)) == i) = true
      rw [beq_iff_eq]
      omega
  unfold notInR cmp2
  rw [rd_val, rd_val]
  show ((inD (.int i) (leftD L)).map (! ·)).map _ = _
  rw [show inD (.int i) (leftD L) = (if SeqAt.shaped (.int i) = true ∧ SeqAt.shaped (leftD L) = true then some ((L.map fun k => PyData.int ((k : Nat) : Int)).any fun z => PyData.eqv z (.int i)) else none) from rfl, if_pos ⟨rfl, shaped_left L⟩, e]
  rfl
end PL
namespace JS
open PySem PL
section
variable {cols left : List Str} {ps : List (List Str)} {gs : GS}
theorem m_number {x : D} (h : Nm x) {m : Int} : ∃ b : Bool, M__law_is_number [.val x, .val (.int m)] = retM (.val (.bool b)) ∧ (b = true ↔ ∃ i : Int, x = .int i ∧ 0 ≤ i ∧ i < m) := by
  cases h with
  | int _ =>
    rename_i i _
    refine ⟨decide (0 ≤ i) && decide (i < m), ?_, ?_⟩
    · unfold M__law_is_number g__law_is_number
      by_cases h : 0 ≤ i <;> simp [isT, tyN, h]
    · rw [Bool.and_eq_true, decide_eq_true_eq, decide_eq_true_eq]
      exact ⟨fun h => ⟨_, rfl, h⟩, fun ⟨i, e, h⟩ => by cases e; exact h⟩
  | bool =>
    refine ⟨false, ?_, ⟨(fun h => nomatch h), fun ⟨i, e, _⟩ => nomatch e⟩⟩
    unfold M__law_is_number g__law_is_number
    simp [isT, tyN]
  | none =>
    refine ⟨false, ?_, ⟨(fun h => nomatch h), fun ⟨i, e, _⟩ => nomatch e⟩⟩
    unfold M__law_is_number g__law_is_number
    simp [isT, tyN]
theorem plain_list {n : Nat} {ds : List D} : m__law_plain (n + 1) [.val (.list ds)] = retM (.val (.bool false)) := by
  show bodyM 1 (g__law_plain (fun _ => m__law_plain n) n) [.val (.list ds)] = _
  unfold g__law_plain
  simp [isT, tyN, isNone]
theorem plain_it {n : Nat} {d : D} (h : It d) : m__law_plain (n + 2) [.val d] = retM (.val (.bool (itPlain d))) := by
  cases h with
  | int h1 _ =>
    exact plain_tuple (by simp) fun d hd => by
      rcases List.mem_cons.mp hd with e | hd
      · rw [e]; exact plain_str
      · rw [List.mem_singleton.mp hd]; exact plain_leaf rfl (.inl rfl)
  | bool h1 =>
    exact plain_tuple (by simp) fun d hd => by
      rcases List.mem_cons.mp hd with e | hd
      · rw [e]; exact plain_str
      · rw [List.mem_singleton.mp hd]; exact plain_leaf rfl (.inl rfl)
  | none h1 =>
    exact plain_tuple (by simp) fun d hd => by
      rcases List.mem_cons.mp hd with e | hd
      · rw [e]; exact plain_str
      · rw [List.mem_singleton.mp hd]; exact plain_leaf rfl (.inr rfl)
  | lst => exact plain_list
  | one =>
    exact plain_tuple (by simp) fun d hd => by
      rw [List.mem_singleton.mp hd]; exact plain_str
theorem plain_val {n : Nat} {ds : List D} (h : ∀ d ∈ ds, It d) (hl : ds.length ≤ 100) : m__law_plain (n + 3) [.val (.tuple ds)] = retM (.val (.bool (ds.all itPlain))) := by
  show bodyM 1 (g__law_plain (fun _ => m__law_plain (n + 2)) (n + 2)) [.val (.tuple ds)] = _
  unfold g__law_plain
  have e : xLc (iSeq (xVar 0)) [1] (gNm 1) (tNotM (tTru (xFn 1 (m__law_plain (n + 2)) (aCons (xVar 1) aNil) []))) (xVar 1) [.val (.tuple ds), .un] = retM (.own (.list (ds.filter fun d => !itPlain d))) := by
    rw [xLc_def (ds := ds) (b := false) (by simp) (small_le (by omega))]
    have := compL_filter (ρ0 := wipeS [.val (.tuple ds), .un] [1]) (g := gNm 1) (tt := tNotM (tTru (xFn 1 (m__law_plain (n + 2)) (aCons (xVar 1) aNil) []))) (te := xVar 1) (e := fun d : D => d) (p := fun d => !itPlain d) (F := fun d : D => d) (xs := ds) fun d hd => by
      have e4 := plain_it (n := n) (h d hd)
      simp only [turnL, wipeS, List.set, gNm_def, liftO_some, bindM_ret, tNotM_def, tTru_def, xFn_def, aCons_def, aNil_def, xVar_def, look_val, look_suc, useM_ret, frz_val, call1, e4, truR_val, truD_bool]
      cases itPlain d <;> simp
    rw [list_map_id, list_map_id] at this
    rw [this, bindM_ret]
  have e2 : eqR (.val (.list (ds.filter fun d => !itPlain d))) (.val (.list [])) = some (.val (.bool (ds.all itPlain))) := by
    have hs : SeqAt.shaped (.list (ds.filter fun d => !itPlain d)) = true := by
      have hlay : ∀ d, It d → PyData.canLay0 d = true ∧ PyData.depth d ≤ 1 := fun d h => by
        cases h with
        | int h1 _ => exact ⟨by simp [PyData.canLay0, PyData.canLayAll0, h1], by simp [PyData.depth, PyData.depthAll]⟩
        | bool h1 => exact ⟨by simp [PyData.canLay0, PyData.canLayAll0, h1], by simp [PyData.depth, PyData.depthAll]⟩
        | none h1 => exact ⟨by simp [PyData.canLay0, PyData.canLayAll0, h1], by simp [PyData.depth, PyData.depthAll]⟩
        | lst h1 => exact ⟨by simp [PyData.canLay0, PyData.canLayAll0, h1], by simp [PyData.depth, PyData.depthAll]⟩
        | one h1 => exact ⟨by simp [PyData.canLay0, PyData.canLayAll0, h1], by simp [PyData.depth, PyData.depthAll]⟩
      have hall : ∀ es : List D, (∀ d ∈ es, It d) → PyData.canLayAll0 es = true ∧ PyData.depthAll es ≤ 1 := by
        intro es
        induction es with
        | nil => intro _; exact ⟨rfl, Nat.zero_le _⟩
        | cons d es ih =>
          intro hh
          obtain ⟨h1, h2⟩ := ih fun e he => hh e (List.mem_cons_of_mem _ he)
          obtain ⟨h3, h4⟩ := hlay d (hh d (List.mem_cons_self ..))
          refine ⟨?_, ?_⟩
          · show (PyData.canLay0 d && PyData.canLayAll0 es) = true
            rw [h1, h3]; rfl
          · show max (PyData.depth d) (PyData.depthAll es) ≤ 1
            omega
      obtain ⟨h1, h2⟩ := hall (ds.filter fun d => !itPlain d) fun d hd => h d (List.mem_filter.mp hd).1
      show (PyData.canLayAll0 (ds.filter fun d => !itPlain d) && decide (PyData.depthAll (ds.filter fun d => !itPlain d) + 1 ≤ 64)) = true
      rw [h1, decide_eq_true (Nat.le_trans (Nat.add_le_add_right h2 1) (by decide))]
      rfl
    show (eqD _ _).map _ = _
    unfold eqD
    rw [if_pos ⟨hs, rfl⟩]
    have e3 : decide ((ds.filter fun d => !itPlain d) = []) = ds.all itPlain := by
      rw [Bool.eq_iff_iff, decide_eq_true_eq, List.filter_eq_nil_iff, List.all_eq_true]
      simp
    rw [← e3]
    cases ds.filter fun d => !itPlain d <;> rfl
  simp only [bodyM_def, sSeq_def, sIf_def, tTru_def, sRet_def, xBin_def, List.replicate, List.cons_append, List.nil_append, e]
  simp [isT, tyN, e2]
abbrev ioBody : Sl → M Out := (sSeq (sIf (tOrM (tNotM (tTru (xIsi (isT "tuple") (xVar 4)))) (tOrM (tBin neR (xCall lenR (aCons (xVar 4) aNil)) (xC (.int 2))) (tOrM (tNotM (tTru (xIsi (isT "str") (xIx (xVar 4) (xC (.int 0)))))) (tOrM (tBin notInR (xIx (xVar 4) (xC (.int 0))) (xVar 3)) (tNotM (tTru (xFn 2 M__law_is_number (aCons (xIx (xVar 4) (xC (.int 1))) (aCons (xCall lenR (aCons (xVar 1) aNil)) aNil)) []))))))) (sRet (xC (.bool false))) sNil) (sSeq (sIf (tBin notInR (xIx (xVar 4) (xC (.int 1))) (xFn 3 M__law_held (aCons (xVar 1) (aCons (xVar 3) (aCons (xIx (xVar 4) (xC (.int 0))) aNil))) [])) (sRet (xC (.bool false))) sNil) (sSetF 3 (xLc (iSeq (xVar 3)) [5] (gNm 5) (tBin neR (xVar 5) (xIx (xVar 4) (xC (.int 0)))) (xVar 5)))))
theorem io_turn (hc : Cols cols) (C : Cover cols ps) (hl : ∀ o ∈ left, o ∈ cols) (hll : left.length ≤ 24) {c : Str} {x v : D} (hcc : PyData.strOk c = true) (hx : Nm x) {s0 s2 s5 : Slot} :
    wp (ioBody [s0, .val (tT ps), s2, .val (lS left), .val (.tuple [.str c, x]), s5]) gs fun o g => g = gs ∧
      ((headB ps left c x = true ∧ o = .nx [s0, .val (tT ps), s2, .val (lS (outS left c)), .val (.tuple [.str c, x]), s5]) ∨ (headB ps left c x = false ∧ o = .ret (.val (.bool false)))) := by
  have hpl := C.le
  have okl : OkS left := fun o ho => hc.okS o (hl o ho)
  have e1 : isT "tuple" (.tuple [.str c, x]) = true := rfl
  have e2 : isT "str" (.str c) = true := rfl
  have a0 : L2.atI [PyData.str c, x] (0 : Int) = some (.str c) := atI_nat (xs := [PyData.str c, x]) (i := 0) (by simp)
  have a1 : L2.atI [PyData.str c, x] (1 : Int) = some x := atI_nat (xs := [PyData.str c, x]) (i := 1) (by simp)
  have en := notIn_lS (r := .val (lS left)) (x := c) (xs := left) rfl hcc okl
  obtain ⟨b, ef, hb⟩ := m_number hx (m := ((ps.length : Nat) : Int))
  have e22 : ((((([PyData.str c, x] : List D).length : Nat) : Int)) == 2) = true := rfl
  unfold ioBody
  simp only [sSeq_def, sIf_def, tOrM_def, tNotM_def, tTru_def, tBin_def, xIsi_def, xIx_def, xCall_def, xFn_def, aCons_def, aNil_def, xVar_def, xC_def, look_val, look_suc, liftO_some, useM_ret, frz_val, rd_val, Option.map_some, e1, truR_val, truD_bool, Bool.not_true, Bool.false_eq_true, if_false, bindM_ret, lenR_tuple, neR_int, e22, Option.bind_some, isB_bool, ixM_tuple, a0, a1, e2, en, List.length_map, call2, ef]
  by_cases hlm : c ∈ left
  · simp only [hlm, decide_true, Bool.not_true, Bool.false_eq_true, if_false]
    cases hbb : b with
    | false =>
      simp only [Bool.not_false, if_true, sRet_def, xC_def, bindM_ret, asRet_val, wp_ret]
      refine ⟨trivial, .inr ⟨?_, trivial⟩⟩
      have hno : ¬ ∃ i : Int, x = .int i ∧ 0 ≤ i ∧ i < ((ps.length : Nat) : Int) := fun h => by
        have := hb.mpr h
        rw [hbb] at this
        exact nomatch this
      cases x with
      | int i =>
        show (decide (c ∈ left) && (decide (0 ≤ i) && decide (i.toNat ∈ heldS ps left c))) = false
        cases hh : (decide (c ∈ left) && (decide (0 ≤ i) && decide (i.toNat ∈ heldS ps left c))) with
        | false => rfl
        | true =>
          rw [Bool.and_eq_true, Bool.and_eq_true, decide_eq_true_eq, decide_eq_true_eq, decide_eq_true_eq] at hh
          have := (mem_heldS.mp hh.2.2).1
          exact absurd ⟨i, rfl, hh.2.1, by omega⟩ hno
      | _ => rfl
    | true =>
      obtain ⟨i, rfl, hi0, him⟩ := hb.mp hbb
      have eh := held_call (c := c) hc C hl hll hcc
      have e5 := notIn_left (L := heldS ps left c) hi0
      simp only [Bool.not_true, Bool.false_eq_true, if_false, sNil_def, bindM_ret, look_val, look_suc, liftO_some, useM_ret, frz_val, ixM_tuple, a0, a1, Option.map_some, call3, eh, frz_own, e5, Option.bind_some, isB_bool]
      by_cases hh : i.toNat ∈ heldS ps left c
      · have eo : xLc (iSeq (xVar 3)) [5] (gNm 5) (tBin neR (xVar 5) (xIx (xVar 4) (xC (.int 0)))) (xVar 5) [s0, .val (tT ps), s2, .val (lS left), .val (.tuple [.str c, .int i]), s5] = retM (.own (lS (outS left c))) := by
          rw [xLc_def (ds := left.map PyData.str) (b := false) (by simp) (by rw [List.length_map]; exact small_le (by omega))]
          rw [compL_filter (p := fun o => !decide (o = c)) (F := PyData.str) fun o ho => ?_]
          · rw [bindM_ret]
            rfl
          · have e : neR (.val (.str o)) (.val (.str c)) = some (.val (.bool (!decide (o = c)))) := by
              show (neD (.str o) (.str c)).map _ = _
              unfold neD
              rw [if_pos ⟨shaped_str (okl o ho), shaped_str hcc⟩]
              rfl
            simp only [turnL, wipeS, List.set, gNm_def, liftO_some, bindM_ret, tBin_def, xIx_def, xC_def, xVar_def, look_val, look_suc, useM_ret, frz_val, ixM_tuple, a0, Option.map_some, e, Option.bind_some, isB_bool]
            cases (!decide (o = c)) <;> simp
        simp only [hh, decide_true, Bool.not_true, Bool.false_eq_true, if_false, bindM_ret, sSetF_def]
        rw [eo]
        simp only [useM_ret, frz_own, slotV_val, liftO_some, bindM_ret, List.set, wp_ret]
        refine ⟨trivial, .inl ⟨?_, trivial⟩⟩
        show (decide (c ∈ left) && (decide (0 ≤ i) && decide (i.toNat ∈ heldS ps left c))) = true
        simp [hlm, hi0, hh]
      · simp only [hh, decide_false, Bool.not_false, if_true, sRet_def, xC_def, bindM_ret, asRet_val, wp_ret]
        refine ⟨trivial, .inr ⟨?_, trivial⟩⟩
        show (decide (c ∈ left) && (decide (0 ≤ i) && decide (i.toNat ∈ heldS ps left c))) = false
        simp [hh]
  · simp only [hlm, decide_false, Bool.not_false, if_true, sRet_def, xC_def, bindM_ret, asRet_val, wp_ret]
    refine ⟨trivial, .inr ⟨?_, trivial⟩⟩
    cases x with
    | int i =>
      show (decide (c ∈ left) && (decide (0 ≤ i) && decide (i.toNat ∈ heldS ps left c))) = false
      simp [hlm]
    | _ => rfl
theorem io_one (hc : Cols cols) {c : Str} {s0 s1 s2 s3 s5 : Slot} : wp (ioBody [s0, s1, s2, s3, .val (.tuple [.str c]), s5]) gs fun o g => g = gs ∧ o = .ret (.val (.bool false)) := by
  have e1 : isT "tuple" (.tuple [.str c]) = true := rfl
  have e22 : ((((([PyData.str c] : List D).length : Nat) : Int)) == 2) = false := rfl
  unfold ioBody
  simp only [sSeq_def, sIf_def, tOrM_def, tNotM_def, tTru_def, tBin_def, xIsi_def, xCall_def, aCons_def, aNil_def, xVar_def, xC_def, look_val, look_suc, liftO_some, useM_ret, frz_val, rd_val, Option.map_some, e1, truR_val, truD_bool, Bool.not_true, Bool.not_false, Bool.false_eq_true, if_false, if_true, bindM_ret, lenR_tuple, neR_int, e22, Option.bind_some, isB_bool, sRet_def, asRet_val, wp_ret]
  exact ⟨trivial, trivial⟩
end
end JS
set_option Elab.async false
set_option linter.all false
set_option maxRecDepth 100000
set_option maxHeartbeats 4000000
/-! N9: the law's own judge, whole; equal answers. -/
namespace PL
open PySem
theorem pair_plain {d : D} (h : pairB d = true) : itPlain d = true := by
  unfold pairB at h
  split at h
  · rfl
  · exact nomatch h
theorem tm_col9 {x : Str} (h : OkCol x) : Tm 0 122 (.str x) := ⟨h.ok, by rw [PyData.showable], shown_str h, by rw [PyData.shown]; exact strOk_repr h.ok, Nat.le_refl _⟩
theorem tm_word9 (z : Str) (h : PyData.showable (.str z) = true ∧ (PyData.shown (.str z)).length ≤ 122 ∧ PyData.strOk (PyData.shown (.str z)) = true ∧ PyData.canLay0 (.str z) = true) : Tm 0 122 (.str z) := ⟨h.2.2.2, h.1, h.2.1, h.2.2.1, Nat.le_refl _⟩
theorem tm_steps {cols : List Str} {ps : List (List Str)} (hc : Cols cols) (hpl : ps.length ≤ 24) {f : List (Str × Nat)} (h : ∀ p ∈ f, p.1 ∈ cols ∧ p.2 < ps.length) (hl : f.length ≤ 24) : Tm 2 100000 (stepsT f) :=
  (Tm.tuple (k := 1) (b := 251) (m := 24) (ds := f.map stepPD) (fun d hd => by
    obtain ⟨p, hp, rfl⟩ := List.mem_map.mp hd
    obtain ⟨h1, h2⟩ := h p hp
    exact (Tm.tuple (k := 0) (b := 122) (m := 2) (ds := [.str p.1, .int ((p.2 : Nat) : Int)]) (fun e he => by
      rcases List.mem_cons.mp he with e2 | he
      · rw [e2]; exact tm_col9 (hc.ok _ h1)
      · rw [List.mem_singleton.mp he]; exact (tm_int (by omega)).mono (by omega) (by omega)) (by simp)).mono (Nat.le_refl _) (by omega)) (by rw [List.length_map]; exact hl)).mono (Nat.le_refl _) (by omega)
theorem tm_told {cols : List Str} {ps : List (List Str)} (hc : Cols cols) (hpl : ps.length ≤ 24) : Tm 3 300000 (toldD ps cols) := by
  have hcl := hc.le
  have w1 : Tm 0 122 (.str "told") := tm_word9 _ (by decide +kernel)
  have w2 : Tm 0 122 (.str "not possible") := tm_word9 _ (by decide +kernel)
  have w3 : Tm 0 122 (.str "cyclic") := tm_word9 _ (by decide +kernel)
  unfold toldD
  cases hf : firstS ps cols.length cols with
  | none =>
    exact (Tm.tuple (k := 2) (b := 100000) (m := 2) (fun d hd => by
      rcases List.mem_cons.mp hd with e | hd
      · rw [e]; exact w2.mono (by omega) (by omega)
      · rw [List.mem_singleton.mp hd]; exact w3.mono (by omega) (by omega)) (by simp)).mono (Nat.le_refl _) (by omega)
  | some f =>
    exact (Tm.tuple (k := 2) (b := 100000) (m := 2) (fun d hd => by
      rcases List.mem_cons.mp hd with e | hd
      · rw [e]; exact w1.mono (by omega) (by omega)
      · rw [List.mem_singleton.mp hd]; exact tm_steps hc hpl (firstS_sub _ hf) (by rw [firstS_len _ hf]; exact hcl)) (by simp)).mono (Nat.le_refl _) (by omega)
def judgeD (cols : List Str) (ps : List (List Str)) (v : D) : D := .tuple [.str "told", .bool (judgeB cols ps v)]
theorem tm_judge {cols : List Str} {ps : List (List Str)} {v : D} : Tm 1 300 (judgeD cols ps v) := by
  have w1 : Tm 0 122 (.str "told") := tm_word9 _ (by decide +kernel)
  exact (Tm.tuple (k := 0) (b := 122) (m := 2) (fun d hd => by
    rcases List.mem_cons.mp hd with e | hd
    · rw [e]; exact w1
    · rw [List.mem_singleton.mp hd]; exact (tm_bool _).mono (by omega) (by omega)) (by simp)).mono (Nat.le_refl _) (by omega)
end PL
namespace JS
open PySem PL
section
variable {cols : List Str} {ps : List (List Str)} {gs : GS}
theorem m_is_one (hc : Cols cols) (C : Cover cols ps) {v : D} (hv : Val v) : M__law_is_one [.val (tS cols), .val (tT ps), .val v] = retM (.val (.bool (judgeB cols ps v))) := by
  have hcl := hc.le
  have hpl := C.le
  refine ret_of_wp fun gs => ?_
  unfold M__law_is_one g__law_is_one
  simp only [bodyM_def, sSeq_def, sIf_def, tOrM_def, tNotM_def, tTru_def, List.replicate, List.cons_append, List.nil_append, xFn_def, aCons_def, aNil_def, xVar_def, look_val, look_suc, liftO_some, useM_ret, frz_val, bindM_ret, call1]
  cases hv with
  | lst hds hdl =>
    rename_i ds
    have e : M__law_plain [.val (.list ds)] = retM (.val (.bool false)) := plain_list (n := 99)
    simp only [e, useM_ret, frz_val, truR_val, truD_bool, liftO_some, bindM_ret, Bool.not_false, if_true, sRet_def, xC_def, asRet_val, wp_ret, calmM_ret]
    exact ⟨rfl, trivial⟩
  | tup hds hdl =>
    rename_i ds
    have e : M__law_plain [.val (.tuple ds)] = retM (.val (.bool (ds.all itPlain))) := plain_val (n := 97) hds hdl
    simp only [e, useM_ret, frz_val, truR_val, truD_bool, liftO_some, bindM_ret]
    cases hall : ds.all itPlain with
    | false =>
      simp only [Bool.not_false, if_true, sRet_def, xC_def, useM_ret, frz_val, bindM_ret, asRet_val, wp_ret, calmM_ret]
      refine ⟨?_, trivial⟩
      have hno : okD ps cols ds = false := by
        cases h : okD ps cols ds with
        | false => rfl
        | true =>
          have := List.all_eq_true.mpr fun d hd => pair_plain (ok_pair h d hd)
          rw [hall] at this
          exact nomatch this
      rw [judge_tup, hno, Bool.and_false]
    | true =>
      have hpl2 := List.all_eq_true.mp hall
      have e1 : isT "tuple" (.tuple ds) = true := rfl
      have e2 : ((((ds.length : Nat) : Int)) == ((cols.length : Nat) : Int)) = decide (ds.length = cols.length) := by
        rw [Bool.eq_iff_iff, beq_iff_eq, decide_eq_true_eq]
        omega
      simp only [Bool.not_true, Bool.false_eq_true, if_false, xIsi_def, xVar_def, look_val, look_suc, liftO_some, useM_ret, frz_val, rd_val, Option.map_some, e1, truR_val, truD_bool, tBin_def, xCall_def, aCons_def, aNil_def, bindM_ret, lenR_tuple, List.length_map, neR_int, e2, Option.bind_some, isB_bool]
      by_cases hlen : ds.length = cols.length
      · simp only [hlen, decide_true, Bool.not_true, Bool.false_eq_true, if_false, sNil_def, bindM_ret, sSetF_def, xCall_def, aCons_def, aNil_def, xVar_def, look_val, look_suc, liftO_some, useM_ret, frz_val, listR_tuple, frz_own, slotV_val, List.set, sFor_def, iSeq_def, walk_tuple, wp_bind, wp_calm, wp_ret, if_true]
        refine wp_mono (wp_forD (all := ds) (fun pre ρ g => g = gs ∧ ∃ (l : List Str) (s4 s5 : Slot), ρ = [.val (tS cols), .val (tT ps), .val (.tuple ds), .val (lS l), s4, s5] ∧ (∀ c ∈ l, c ∈ cols) ∧ l.length ≤ 24 ∧ okD ps cols ds = okD ps l (ds.drop pre.length))
          (fun _ _ => False) (fun r g => g = gs ∧ okD ps cols ds = false ∧ r = .val (.bool false)) (fun pre d post ρ g ea ⟨hg, l, s4, s5, hρ, hsub, hll, hok⟩ => ?step) ⟨rfl, cols, .un, .un, rfl, (fun _ h => h), by omega, rfl⟩) fun o g h => ?post
        case step =>
          subst hρ hg
          have hd : d ∈ ds := by rw [ea]; simp
          have hdr : ds.drop pre.length = d :: post := by rw [ea, List.drop_left]
          refine ⟨[.val (tS cols), .val (tT ps), .val (.tuple ds), .val (lS l), .val d, s5], rfl, ?_⟩
          rw [hdr] at hok
          have pairC : ∀ (c : Str) (x : D), d = .tuple [.str c, x] → PyData.strOk c = true → Nm x → wp (ioBody [.val (tS cols), .val (tT ps), .val (.tuple ds), .val (lS l), .val d, s5]) g fun o g' => match o with
              | .nx ρ2 => g' = g ∧ ∃ (l : List Str) (s4 s5 : Slot), ρ2 = [.val (tS cols), .val (tT ps), .val (.tuple ds), .val (lS l), s4, s5] ∧ (∀ c ∈ l, c ∈ cols) ∧ l.length ≤ 24 ∧ okD ps cols ds = okD ps l (ds.drop (pre ++ [d]).length)
              | .cnt ρ2 => g' = g ∧ ∃ (l : List Str) (s4 s5 : Slot), ρ2 = [.val (tS cols), .val (tT ps), .val (.tuple ds), .val (lS l), s4, s5] ∧ (∀ c ∈ l, c ∈ cols) ∧ l.length ≤ 24 ∧ okD ps cols ds = okD ps l (ds.drop (pre ++ [d]).length)
              | .brk ρ2 => False
              | .ret r => g' = g ∧ okD ps cols ds = false ∧ r = .val (.bool false) := by
            rintro c x rfl hcc hx
            rw [ok_head hx] at hok
            refine wp_mono (io_turn (gs := g) (v := .none) hc C hsub hll hcc hx) fun o g2 ⟨hg, h⟩ => ?_
            subst hg
            rcases h with ⟨hh, ho⟩ | ⟨hh, ho⟩
            · subst ho
              refine ⟨rfl, outS l c, _, _, rfl, fun o ho => hsub o (mem_outS.mp ho).1, Nat.le_trans (List.length_filter_le ..) hll, ?_⟩
              rw [hok, hh, Bool.true_and, List.length_append, List.length_singleton]
              congr 1
              rw [← List.drop_drop, hdr]
              rfl
            · subst ho
              exact ⟨rfl, by rw [hok, hh, Bool.false_and], rfl⟩
          have hit := hds d hd
          have hpd := hpl2 d hd
          cases hit with
          | int h1 h2 => exact pairC _ _ rfl h1 (.int h2)
          | bool h1 => exact pairC _ _ rfl h1 .bool
          | none h1 => exact pairC _ _ rfl h1 .none
          | lst _ => exact nomatch hpd
          | one _ =>
            refine wp_mono (io_one (gs := g) hc) fun o g2 ⟨hg, ho⟩ => ?_
            subst hg ho
            exact ⟨rfl, by rw [hok, ok_one], rfl⟩
        case post =>
          cases o with
          | nx ρ2 =>
            rcases h with ⟨hg, l, s4, s5, hρ, hsub, hll, hok⟩ | h
            · subst hg
              simp only [sRet_def, xC_def, bindM_ret, asRet_val, wp_ret]
              refine ⟨?_, trivial⟩
              rw [judge_tup, hok, List.drop_length, okD, Bool.and_true, hlen]
              simp
            · exact h.elim
          | ret r =>
            obtain ⟨hg, hok, hr⟩ := h
            simp only [wp_ret]
            refine ⟨?_, hg⟩
            rw [hr, judge_tup, hok, Bool.and_false]
          | brk ρ => exact h.elim
          | cnt ρ => exact h.elim
      · simp only [hlen, decide_false, Bool.not_false, if_true, sRet_def, xC_def, useM_ret, frz_val, bindM_ret, asRet_val, wp_ret, calmM_ret]
        refine ⟨?_, trivial⟩
        rw [judge_tup, decide_eq_false hlen, Bool.false_and]
theorem m_told_judge (hc : Cols cols) (C : Cover cols ps) {v : D} (hv : Val v) : M__law_told [.val (.str "judge"), .val (tS cols), .val (tT ps), .val v] = retM (.val (judgeD cols ps v)) := by
  have hz2 : 2 ≤ sizeLine := small_le (by omega)
  have e1 : eqR (.val (.str "judge")) (.val (.str "out")) = some (.val (.bool false)) := by
    rw [eqR_str (by decide +kernel) (by decide +kernel)]
    have : ((("judge" : String) : Str) == (("out" : String) : Str)) = false := by decide +kernel
    rw [this]
  have e2 := m_accepts hc C hv
  have body : sRet (xTup (aCons (xC (.str "told")) (aCons (xIf (tBin eqR (xVar 0) (xC (.str "out"))) (xFn 2 M_taking_out (aCons (xVar 1) (aCons (xVar 2) aNil)) []) (xFn 3 M_accepts_taking_out (aCons (xVar 1) (aCons (xVar 2) (aCons (xVar 3) aNil))) [])) aNil))) [.val (.str "judge"), .val (tS cols), .val (tT ps), .val v, .un] = retM (.ret (.val (judgeD cols ps v))) := by
    simp only [sRet_def, xTup_def, aCons_def, aNil_def, xC_def, useM_ret, frz_val, bindM_ret, xIf_def, tBin_def, xVar_def, look_val, look_suc, liftO_some, e1, Option.bind_some, isB_bool, Bool.false_eq_true, if_false, xFn_def, call3, e2, valsOf_cons, valsOf_nil, Option.map_some, List.length_cons, List.length_nil, Nat.zero_add, Nat.reduceAdd, hz2, if_true, asRet_val]
    rfl
  unfold M__law_told g__law_told
  simp only [bodyM_def, List.replicate, List.cons_append, List.nil_append]
  rw [tryAs_ok body]
  simp only [calmM_ret, bindM_ret]
theorem judge_equal {v : D} : M__law_equal [.val (judgeD cols ps v), .val (judgeD cols ps v)] = retM (.val (.bool true)) := by
  have hp : M__law_plain [.val (judgeD cols ps v)] = retM (.val (.bool true)) := plain_tuple (n := 98) (by simp) fun d hd => by
    rcases List.mem_cons.mp hd with e | hd
    · rw [e]; exact plain_str (n := 98)
    · rw [List.mem_singleton.mp hd]; exact plain_leaf (n := 98) rfl (.inl rfl)
  exact law_equal_tm hp tm_judge (by omega) (by omega)
theorem plain_steps {n : Nat} {f : List (Str × Nat)} (hl : f.length ≤ 24) : m__law_plain (n + 3) [.val (stepsT f)] = retM (.val (.bool true)) :=
  plain_tuple (by rw [List.length_map]; omega) fun d hd => by
    obtain ⟨p, _, rfl⟩ := List.mem_map.mp hd
    exact plain_tuple (by simp) fun e he => by
      rcases List.mem_cons.mp he with e2 | he
      · rw [e2]; exact plain_str
      · rw [List.mem_singleton.mp he]; exact plain_leaf rfl (.inl rfl)
theorem told_equal (hc : Cols cols) (hpl : ps.length ≤ 24) : M__law_equal [.val (toldD ps cols), .val (toldD ps cols)] = retM (.val (.bool true)) := by
  have hcl := hc.le
  have hp : M__law_plain [.val (toldD ps cols)] = retM (.val (.bool true)) := by
    show m__law_plain 100 _ = _
    unfold toldD
    cases hf : firstS ps cols.length cols with
    | none =>
      exact plain_tuple (n := 98) (by simp) fun d hd => by
        rcases List.mem_cons.mp hd with e | hd
        · rw [e]; exact plain_str (n := 98)
        · rw [List.mem_singleton.mp hd]; exact plain_str (n := 98)
    | some f =>
      exact plain_tuple (n := 98) (by simp) fun d hd => by
        rcases List.mem_cons.mp hd with e | hd
        · rw [e]; exact plain_str (n := 98)
        · rw [List.mem_singleton.mp hd]; exact plain_steps (n := 96) (by rw [firstS_len _ hf]; exact hcl)
  exact law_equal_tm hp (tm_told hc hpl) (by omega) (by omega)
end
end JS
set_option Elab.async false
set_option linter.all false
set_option maxRecDepth 100000
set_option maxHeartbeats 4000000
/-! N10: sequences drawn. -/
namespace JS
open PySem PL
section
variable {cols left : List Str} {ps : List (List Str)} {gs : GS}
theorem ready_eq2 (hc : Cols cols) (C : Cover cols ps) (hl : ∀ o ∈ left, o ∈ cols) (hll : left.length ≤ 24) {s0 s1 s3 s5 s6 s7 s8 s9 : Slot} :
    xLc (iSeq (xVar 4)) [7] (gNm 7) (tBin neR (xFn 3 M__law_held (aCons (xVar 2) (aCons (xVar 4) (aCons (xVar 7) aNil))) []) (xLst aNil)) (xVar 7) [s0, s1, .val (tT ps), s3, .val (lS left), s5, s6, s7, s8, s9] = retM (.own (lS (readyS ps left))) := by
  rw [xLc_def (ds := left.map PyData.str) (b := false) (by simp) (by rw [List.length_map]; exact small_le (by omega))]
  rw [compL_filter (p := fun c => !decide (heldS ps left c = [])) (F := PyData.str) fun o ho => ?_]
  · rw [bindM_ret]
    rfl
  · have e1 := held_call (c := o) hc C hl hll (hc.okS o (hl o ho))
    have e2 := neR_left (r := .val (leftD (heldS ps left o))) (l := heldS ps left o) rfl
    simp only [turnL, wipeS, List.set, gNm_def, liftO_some, bindM_ret, tBin_def, xFn_def, aCons_def, aNil_def, xVar_def, look_val, look_suc, useM_ret, frz_val, call3, e1, frz_own, xLst_def, valsOf_nil, Option.bind_some, List.length_nil, Nat.zero_le, if_true, e2, isB_bool]
    cases (!decide (heldS ps left o = [])) <;> simp
theorem out_eq2 {x : Str} (hl : OkS left) (hll : left.length ≤ 24) (hx : PyData.strOk x = true) {s0 s1 s2 s3 s5 s6 s8 s9 : Slot} :
    xLc (iSeq (xVar 4)) [9] (gNm 9) (tBin neR (xVar 9) (xVar 7)) (xVar 9) [s0, s1, s2, s3, .val (lS left), s5, s6, .val (.str x), s8, s9] = retM (.own (lS (outS left x))) := by
  rw [xLc_def (ds := left.map PyData.str) (b := false) (by simp) (by rw [List.length_map]; exact small_le (by omega))]
  rw [compL_filter (p := fun o => !decide (o = x)) (F := PyData.str) fun o ho => ?_]
  · rw [bindM_ret]
    rfl
  · have e : neR (.val (.str o)) (.val (.str x)) = some (.val (.bool (!decide (o = x)))) := by
      show (neD (.str o) (.str x)).map _ = _
      unfold neD
      rw [if_pos ⟨shaped_str (hl o ho), shaped_str hx⟩]
      rfl
    simp only [turnL, wipeS, List.set, gNm_def, liftO_some, bindM_ret, tBin_def, xVar_def, look_val, look_suc, useM_ret, frz_val, e, Option.bind_some, isB_bool]
    cases (!decide (o = x)) <;> simp
theorem wp_law_drawn {n : Nat} (hc : Cols cols) (C : Cover cols ps) (G : Good n gs) (hn : n + 100 < lim) :
    wp (M__law_drawn [.obj 0, .val (tS cols), .val (tT ps)]) gs fun r g => ∃ f : List (Str × Nat), r = .val (stepsT f) ∧ f.length = cols.length ∧ (∀ p ∈ f, p.1 ∈ cols ∧ p.2 < ps.length) ∧ Good (n + 100) g := by
  have hcl := hc.le
  have hpl := C.le
  have hp1 := C.ne
  have hz2 : 2 ≤ sizeLine := small_le (by omega)
  have hz0 : 0 ≤ sizeLine := Nat.zero_le _
  have lt : ∀ k, k ≤ 100 → n + k < lim := fun k hk => Nat.lt_of_le_of_lt (by omega) hn
  unfold M__law_drawn g__law_drawn
  simp only [bodyM_def, sSeq_def, sPar_def, List.replicate, List.cons_append, List.nil_append, xFn_def, aCons_def, aNil_def, xVar_def, look_obj, look_val, look_suc, liftO_some, useM_ret, frz_obj, frz_val, bindM_ret, callO1, wp_bind, wp_calm]
  refine wp_mono (wp_shufS G (lt _ (by omega)) (by omega)) fun r g ⟨ys, hr, hp, G1⟩ => ?_
  subst hr
  have hyl : ys.length = cols.length := hp.length_eq
  have hrng : iRng rng1 (aCons (xCall lenR (aCons (xVar 1) aNil)) aNil) [.obj 0, .val (tS cols), .val (tT ps), .un, .val (lS ys), .own (.list []), .un, .un, .un, .un] = retM (rngD 0 cols.length, false) := iRng_ret (rs := [.val (.int (cols.length : Nat))]) (by simp) (rng1_nat (by omega))
  simp only [xLst_def, aNil_def, bindM_ret, valsOf_nil, Option.bind_some, List.length_nil, hz0, if_true, liftO_some, slotV_own, List.set, wp_ret, sFrz, List.getElem?_cons_succ, List.getElem?_cons_zero, frzS, sFor_def, wp_bind, wp_liftS]
  rw [hrng]
  simp only [wp_ret, bindM_ret, if_true, wp_bind]
  rw [rngD_map]
  refine wp_mono (wp_forL (all := List.range cols.length) (e := fun i => PyData.int (i : Nat)) (fun pre ρ g => ∃ (left : List Str) (done : List (Str × Nat)) (s3 s6 s7 s8 s9 : Slot), ρ = [.obj 0, .val (tS cols), .val (tT ps), s3, .val (lS left), .own (.list (done.map stepPD)), s6, s7, s8, s9] ∧ left.Nodup ∧ (∀ o ∈ left, o ∈ cols) ∧ left.length + pre.length = cols.length ∧ done.length = pre.length ∧ (∀ p ∈ done, p.1 ∈ cols ∧ p.2 < ps.length) ∧ Good (n + cols.length + 2 * pre.length) g)
    (fun _ _ => False) (fun _ _ => False) (fun pre i post ρ g2 ea ⟨left, done, s3, s6, s7, s8, s9, hρ, nd, hsub, hlen, hdl, hdo, G2⟩ => ?step) (pre := []) rfl ⟨ys, [], .un, .un, .un, .un, .un, rfl, hp.nodup_iff.mpr (asc_nodup hc.asc), (fun o ho => hp.mem_iff.mp ho), hyl, rfl, (fun _ h => nomatch h), G1.mono (by simp)⟩) fun o g2 h => ?post
  case step =>
    subst hρ
    obtain ⟨hpi, hi⟩ := range_split ea
    have hll : left.length ≤ 24 := by omega
    have hlpos : 0 < left.length := by omega
    have okl : OkS left := fun o ho => hc.okS o (hsub o ho)
    refine ⟨[.obj 0, .val (tS cols), .val (tT ps), .val (.int (i : Nat)), .val (lS left), .own (.list (done.map stepPD)), s6, s7, s8, s9], rfl, ?_⟩
    have er := ready_eq2 (s0 := .obj 0) (s1 := .val (tS cols)) (s3 := .val (.int (i : Nat))) (s5 := .own (.list (done.map stepPD))) (s6 := s6) (s7 := s7) (s8 := s8) (s9 := s9) hc C hsub hll
    have okr : OkS (readyS ps left) := fun o ho => okl o (mem_readyS.mp ho).1
    have e0 := neR_nilL (r := .val (lS (readyS ps left))) rfl okr
    obtain ⟨src, hsrc, hspos, hsl⟩ : ∃ src : List Str, (xIf (tBin neR (xVar 6) (xLst aNil)) (xVar 6) (xVar 4) [.obj 0, .val (tS cols), .val (tT ps), .val (.int (i : Nat)), .val (lS left), .own (.list (done.map stepPD)), .val (lS (readyS ps left)), s7, s8, s9] = retM (.val (lS src))) ∧ 0 < src.length ∧ (∀ c ∈ src, c ∈ left) ∧ src.length ≤ 24 := by
      by_cases hr : readyS ps left = []
      · refine ⟨left, ?_, hlpos, fun c h => h, hll⟩
        simp only [xIf_def, tBin_def, xVar_def, look_val, look_suc, liftO_some, useM_ret, frz_val, xLst_def, aNil_def, bindM_ret, valsOf_nil, Option.bind_some, List.length_nil, hz0, if_true, frz_own, e0, isB_bool]
        rw [decide_eq_true hr]
        rfl
      · refine ⟨readyS ps left, ?_, List.length_pos_iff.mpr hr, fun c h => (mem_readyS.mp h).1, Nat.le_trans (List.length_filter_le ..) hll⟩
        simp only [xIf_def, tBin_def, xVar_def, look_val, look_suc, liftO_some, useM_ret, frz_val, xLst_def, aNil_def, bindM_ret, valsOf_nil, Option.bind_some, List.length_nil, hz0, if_true, frz_own, e0, isB_bool]
        rw [decide_eq_false hr]
        rfl
    obtain ⟨hsl, hs24⟩ := hsl
    simp only [sSeq_def, sSetF_def, er, useM_ret, frz_own, slotV_val, liftO_some, bindM_ret, List.set, xFn_def, aCons_def, aNil_def, xVar_def, look_obj, frz_obj, hsrc, frz_val, callO1, wp_bind, wp_use]
    refine wp_mono (wp_pick (d := lS src) (ds := src.map PyData.str) (.inl rfl) G2 (Nat.lt_of_le_of_lt (by omega) hn) (by rw [List.length_map]; exact hspos) (by rw [List.length_map]; omega)) fun r g3 ⟨z, hz, hr, G3⟩ => ?_
    obtain ⟨c, hcs, rfl⟩ := List.mem_map.mp hz
    subst hr
    have hcl2 := hsl c hcs
    have hco := okl c hcl2
    have eh := held_call (c := c) hc C hsub hll hco
    have hhl := held_len (ps := ps) (left := left) (c := c) hpl
    have eo := fun s5 : Slot => out_eq2 (s5 := s5) (left := left) (x := c) (s0 := .obj 0) (s1 := .val (tS cols)) (s2 := .val (tT ps)) (s3 := .val (.int (i : Nat))) (s6 := .val (lS (readyS ps left))) (s8 := .val (leftD (heldS ps left c))) (s9 := s9) okl hll hco
    have eh0 := neR_left (r := .val (leftD (heldS ps left c))) (l := heldS ps left c) rfl
    have hdz : done.length < sizeLine := Nat.lt_of_lt_of_le (by omega) (small_le (n := 10000) (Nat.le_refl _))
    have hol := outS_len nd hcl2
    simp only [frz_val, slotV_val, wp_liftS, wp_ret, List.set, look_val, look_suc, liftO_some, useM_ret, bindM_ret, call3, eh, frz_own, sApp, ownList, List.getElem?_cons_succ, List.getElem?_cons_zero, xTup_def, aCons_def, aNil_def, xVar_def, xIf_def, tBin_def, xLst_def, valsOf_nil, Option.bind_some, List.length_nil, hz0, if_true, eh0, isB_bool, wp_bind, wp_use]
    refine wp_mono (show wp _ g3 (fun r g4 => ∃ k : Nat, r = .val (.int (k : Nat)) ∧ k < ps.length ∧ Good (n + cols.length + 2 * pre.length + 1 + 1) g4) from ?hk) fun r g4 ⟨k, hr, hkl, G4⟩ => ?fin
    case hk =>
      by_cases hh : heldS ps left c = []
      · rw [decide_eq_true hh]
        simp only [Bool.not_true, Bool.false_eq_true, if_false, xFn_def, xCall_def, aCons_def, aNil_def, xVar_def, look_obj, look_val, look_suc, liftO_some, useM_ret, frz_obj, frz_val, bindM_ret, lenR_tuple, List.length_map, callO1]
        exact wp_mono (wp_next (many := ps.length) G3 (Nat.lt_of_le_of_lt (by omega) hn) (by omega) (lim_of (by omega))) fun r g5 ⟨d, hd, hr, G5⟩ => ⟨d, hr, hd, G5⟩
      · rw [decide_eq_false hh]
        simp only [Bool.not_false, if_true, xFn_def, aCons_def, aNil_def, xVar_def, look_obj, look_val, look_suc, liftO_some, useM_ret, frz_obj, frz_val, bindM_ret, callO1]
        refine wp_mono (wp_pick (d := leftD (heldS ps left c)) (ds := (heldS ps left c).map fun i => .int ((i : Nat) : Int)) (.inl rfl) G3 (Nat.lt_of_le_of_lt (by omega) hn) (by rw [List.length_map]; exact List.length_pos_iff.mpr hh) (by rw [List.length_map]; omega)) fun r g5 ⟨z, hz, hr, G5⟩ => ?_
        obtain ⟨k, hk, rfl⟩ := List.mem_map.mp hz
        exact ⟨k, hr, (mem_heldS.mp hk).1, G5⟩
    case fin =>
      subst hr
      have est : stepPD (c, k) = .tuple [.str c, .int ((k : Nat) : Int)] := rfl
      simp only [frz_val, valsOf_cons, valsOf_nil, Option.map_some, Option.bind_some, List.length_cons, List.length_nil, Nat.zero_add, Nat.reduceAdd, hz2, if_true, wp_liftS, valOf_val, List.length_map, hdz, wp_ret, eo, useM_ret, frz_own, slotV_val, liftO_some, bindM_ret, List.set]
      refine ⟨outS left c, done ++ [(c, k)], _, _, _, _, _, by rw [List.map_append]; rfl, nd.sublist List.filter_sublist, fun o ho => hsub o (mem_outS.mp ho).1, by rw [List.length_append, List.length_singleton]; omega, by rw [List.length_append, List.length_append, hdl]; rfl, fun p hp => ?_, by rw [List.length_append, List.length_singleton]; exact G4.mono (by omega)⟩
      rcases List.mem_append.mp hp with h | h
      · exact hdo p h
      · rw [List.mem_singleton.mp h]
        exact ⟨hsub c hcl2, hkl⟩
  case post =>
    cases o with
    | nx ρ2 =>
      rcases h with ⟨left, done, s3, s6, s7, s8, s9, hρ, nd, hsub, hlen, hdl, hdo, G2⟩ | h
      · subst hρ
        rw [List.length_range] at hdl G2
        simp only [sRet_def, xCall_def, aCons_def, aNil_def, xVar_def, look_suc, look_own, liftO_some, useM_ret, frz_bor, bindM_ret, tupleR_bor, asRet_val, wp_ret]
        exact ⟨done, rfl, hdl, hdo, G2.mono (by omega)⟩
      · exact h.elim
    | ret r => exact h.elim
    | brk ρ => exact h.elim
    | cnt ρ => exact h.elim
end
end JS
set_option Elab.async false
set_option linter.all false
set_option maxRecDepth 100000
set_option maxHeartbeats 4000000
/-! N11: sequences with one thing changed. -/
namespace PL
open PySem
theorem cutD_sub {α : Type} {xs : List α} {lo hi : Option Int} : (cutD xs lo hi).Sublist xs := by
  unfold cutD
  exact (List.take_sublist _ _).trans (List.drop_sublist _ _)
theorem slO_tup {ds : List D} {lo hi : Option Int} : slO (.val (.tuple ds)) lo hi = some (.val (.tuple (cutD ds lo hi))) := rfl
theorem addR_bor {A B : List D} (h : A.length + B.length ≤ sizeLine) : addR (.bor (.list A)) (.val (.list B)) = some (.own (.list (A ++ B))) := by
  show (if A.length + B.length ≤ sizeLine then _ else _) = _
  rw [if_pos h]
@[simp] theorem xRev_def {ga : Sl → M RV} {ρ : Sl} : xRev ga ρ = useM (ga ρ) fun r => liftO (revR r) := id rfl
theorem revR_tup {ds : List D} : revR (.val (.tuple ds)) = some (.val (.tuple ds.reverse)) := rfl
theorem eqR_one {i : Int} : eqR (.val (.int i)) (.val (.int 1)) = some (.val (.bool (i == 1))) := rfl
section
variable {ds es : List D}
structure Its (m : Nat) (ds : List D) : Prop where
  it : ∀ d ∈ ds, It d
  le : ds.length ≤ m
theorem Its.cut {m : Nat} {lo hi : Option Int} (h : Its m ds) : Its m (cutD ds lo hi) := ⟨fun d hd => h.it d (cutD_sub.subset hd), Nat.le_trans cutD_sub.length_le h.le⟩
theorem Its.app {m k : Nat} (h : Its m ds) (h2 : Its k es) : Its (m + k) (ds ++ es) := ⟨fun d hd => (List.mem_append.mp hd).elim (h.it d) (h2.it d), by rw [List.length_append]; have := h.le; have := h2.le; omega⟩
theorem Its.rev {m : Nat} (h : Its m ds) : Its m ds.reverse := ⟨fun d hd => h.it d (List.mem_reverse.mp hd), by rw [List.length_reverse]; exact h.le⟩
theorem Its.one {d : D} (h : It d) : Its 1 [d] := ⟨fun e he => by rw [List.mem_singleton.mp he]; exact h, Nat.le_refl _⟩
theorem Its.tup {m : Nat} (h : Its m ds) (hm : m ≤ 100) : Val (.tuple ds) := .tup h.it (Nat.le_trans h.le hm)
theorem Its.lst {m : Nat} (h : Its m ds) (hm : m ≤ 100) : Val (.list ds) := .lst h.it (Nat.le_trans h.le hm)
end
end PL
namespace JS
open PySem PL
section
variable {cols : List Str} {ps : List (List Str)} {gs : GS}
theorem wp_law_bent {n : Nat} {f : List (Str × Nat)} (hc : Cols cols) (hpl : ps.length ≤ 24) (hf : ∀ p ∈ f, p.1 ∈ cols ∧ p.2 ≤ 24) (hfl : f.length ≤ 24) (hf1 : 0 < f.length) (G : Good n gs) (hn : n + 10 < lim) :
    wp (M__law_bent [.obj 0, .val (tS cols), .val (tT ps), .val (stepsT f)]) gs fun r g => ∃ v, r = .val v ∧ Val v ∧ Good (n + 10) g := by
  have hcl := hc.le
  have hc1 := hc.ne
  have sz : ∀ k, k ≤ 10000 → k ≤ sizeLine := fun k hk => small_le hk
  have lt : ∀ k, k ≤ 10 → n + k < lim := fun k hk => Nat.lt_of_le_of_lt (by omega) hn
  generalize hds : f.map stepPD = ds
  have hI : Its 24 ds := ⟨fun d hd => by
    rw [← hds] at hd
    obtain ⟨p, hp, rfl⟩ := List.mem_map.mp hd
    obtain ⟨h1, h2⟩ := hf p hp
    exact .int (hc.okS _ h1) (by simp; omega), by rw [← hds, List.length_map]; exact hfl⟩
  have hst : stepsT f = .tuple ds := by rw [← hds]
  rw [hst]
  have hdl : ds.length = f.length := by rw [← hds, List.length_map]
  unfold M__law_bent g__law_bent
  simp only [bodyM_def, sSeq_def, sSetF_def, List.replicate, List.cons_append, List.nil_append, xFn_def, xCall_def, aCons_def, aNil_def, xVar_def, look_obj, look_val, look_suc, liftO_some, useM_ret, frz_obj, frz_val, bindM_ret, lenR_tuple, callO1, wp_bind, wp_calm, wp_use]
  refine wp_mono (wp_next (many := ds.length) G (lt 0 (by omega)) (by omega) (lim_of (by omega))) fun r g1 ⟨k, hk, hr, G1⟩ => ?_
  subst hr
  obtain ⟨p, hp, hpd⟩ : ∃ p ∈ f, ds[k]? = some (stepPD p) := by
    have hkf : k < f.length := by omega
    refine ⟨f[k], List.getElem_mem _, ?_⟩
    subst hds
    rw [List.getElem?_map, List.getElem?_eq_getElem hkf]
    rfl
  obtain ⟨c, m⟩ := p
  obtain ⟨hcc, hm⟩ := hf _ hp
  have hco := hc.okS c hcc
  have ea : L2.atI ds ((k : Nat) : Int) = some (.tuple [.str c, .int ((m : Nat) : Int)]) := by
    have hkl : k < ds.length := hk
    rw [atI_nat hkl]
    rw [List.getElem?_eq_getElem hkl] at hpd
    exact hpd
  have hc1' : ∀ lo hi, (cutD ds lo hi).length ≤ 24 := fun lo hi => (hI.cut (lo := lo) (hi := hi)).le
  have at2 : ∀ {A B : List D}, A.length ≤ 100 → B.length ≤ 100 → addR (.val (.tuple A)) (.val (.tuple B)) = some (.val (.tuple (A ++ B))) := fun h1 h2 => addR_tuples (sz _ (by omega))
  simp only [frz_val, slotV_val, wp_liftS, wp_ret, List.set, sAsg_def, xIx_def, xVar_def, look_val, look_suc, liftO_some, useM_ret, ixM_tuple, ea, Option.map_some, valOf_val, bindM_ret, gTp, gsCons, gsNil, gNm_def, List.length_cons, List.length_nil, if_true, Option.bind_some]
  have hk1 : ((k : Nat) : Int) + 1 = ((k + 1 : Nat) : Int) := by omega
  have IA := hI.cut (lo := none) (hi := some ((k : Nat) : Int))
  have IB := hI.cut (lo := some (((k : Nat) : Int) + 1)) (hi := none)
  have IM := hI.cut (lo := some ((k : Nat) : Int)) (hi := some (((k : Nat) : Int) + 1))
  have IC := hI.cut (lo := some ((k : Nat) : Int)) (hi := none)
  have IP := hI.cut (lo := some 1) (hi := none)
  have IS := hI.cut (lo := none) (hi := some 1)
  generalize hA : cutD ds none (some ((k : Nat) : Int)) = A at IA
  generalize hB : cutD ds (some (((k : Nat) : Int) + 1)) none = B at IB
  generalize hM : cutD ds (some ((k : Nat) : Int)) (some (((k : Nat) : Int) + 1)) = M at IM
  generalize hC : cutD ds (some ((k : Nat) : Int)) none = C at IC
  generalize hP : cutD ds (some 1) none = P at IP
  generalize hS : cutD ds none (some 1) = S at IS
  have lA := IA.le
  have lB := IB.le
  have lM := IM.le
  have lC := IC.le
  have lP := IP.le
  have lS := IS.le
  have aPS := at2 (A := P) (B := S) (by omega) (by omega)
  have aAB := at2 (A := A) (B := B) (by omega) (by omega)
  have aAM := at2 (A := A) (B := M) (by omega) (by omega)
  have aAMC := at2 (A := A ++ M) (B := C) (by rw [List.length_append]; omega) (by omega)
  have aX : ∀ x : D, addR (.val (.tuple A)) (.val (.tuple [x])) = some (.val (.tuple (A ++ [x]))) := fun x => at2 (by omega) (by simp)
  have aXB : ∀ x : D, addR (.val (.tuple (A ++ [x]))) (.val (.tuple B)) = some (.val (.tuple (A ++ [x] ++ B))) := fun x => at2 (by rw [List.length_append, List.length_singleton]; omega) (by omega)
  have VX : ∀ x, It x → Val (.tuple (A ++ [x] ++ B)) := fun x h => ((IA.app (Its.one h)).app IB).tup (by omega)
  have z1 := sz 1 (by omega)
  have z2 := sz 2 (by omega)
  have z3 := sz 3 (by omega)
  have z6 := sz 6 (by omega)
  have z8 := sz 8 (by omega)
  have z11 := sz 11 (by omega)
  simp only [sSet_def, xLst_def, xTup_def, aCons_def, aNil_def, xBin_def, xSl_def, pNone_def, pSome_def, xVar_def, xC_def, xRev_def, xCall_def, look_val, look_suc, liftO_some, useM_ret, frz_val, bindM_ret, intOfR_val, Option.map_some, addR_int, slO_tup, revR_tup, listR_tuple, frz_own, hA, hB, hM, hC, hP, hS, aAB, aPS, aAM, aAMC, aX, aXB, valsOf_cons, valsOf_nil, Option.bind_some, List.length_cons, List.length_nil, Nat.zero_add, Nat.reduceAdd, z1, z2, z6, if_true, slotV_own, List.set, sExt, ownList, List.getElem?_cons_succ, List.getElem?_cons_zero, xFn_def, look_obj, frz_obj, callO1, wp_ret, wp_bind, wp_use, wp_liftS]
  refine wp_mono (wp_pick (d := tS cols) (ds := cols.map PyData.str) (.inr rfl) G1 (lt 1 (by omega)) (by rw [List.length_map]; omega) (by rw [List.length_map]; omega)) fun r g2 ⟨z, hz, hr, G2⟩ => ?_
  obtain ⟨c2, hc2, rfl⟩ := List.mem_map.mp hz
  subst hr
  have hco2 := hc.okS c2 hc2
  have epl : ((ps.length : Nat) : Int) + 1 = ((ps.length + 1 : Nat) : Int) := by omega
  simp only [frz_val, valsOf_cons, valsOf_nil, Option.map_some, Option.bind_some, List.length_cons, List.length_nil, Nat.zero_add, Nat.reduceAdd, z1, z2, if_true, liftO_some, useM_ret, bindM_ret, hA, hB, aX, aXB, lenR_tuple, List.length_map, addR_int, epl, callO1, wp_ret, wp_bind, wp_use, wp_liftS]
  refine wp_mono (wp_next (many := ps.length + 1) G2 (lt 2 (by omega)) (by omega) (lim_of (by omega))) fun r g3 ⟨k2, hk2, hr, G3⟩ => ?_
  subst hr
  simp only [frz_val, valsOf_cons, valsOf_nil, Option.map_some, Option.bind_some, List.length_cons, List.length_nil, Nat.zero_add, Nat.reduceAdd, z1, z2, z8, if_true, liftO_some, useM_ret, bindM_ret, hA, hB, aX, aXB, listOfR_val, frz_own, List.set, List.cons_append, List.nil_append, sRet_def, xFn_def, xBin_def, xLst_def, xTup_def, aCons_def, aNil_def, xSl_def, pNone_def, pSome_def, xVar_def, xC_def, look_obj, look_val, look_own, look_suc, frz_obj, frz_bor, intOfR_val, addR_int, slO_tup, eqR_one, wp_ret, wp_bind, wp_use, wp_liftS]
  have addB : ∀ {X Y : List D}, X.length + Y.length ≤ 100 → addR (.bor (.list X)) (.val (.list Y)) = some (.own (.list (X ++ Y))) := fun h => addR_bor (sz _ (by omega))
  simp only [z3, if_true, wp_liftS, frz_own]
  rw [addB (by simp)]
  simp only [wp_liftS, frz_own, callO1, List.cons_append, List.nil_append]
  refine wp_mono (wp_pick (d := .list _) (.inl rfl) G3 (lt 3 (by omega)) (by simp) (by simp)) fun r g4 ⟨v, hv, hr, G4⟩ => ?_
  subst hr
  refine ⟨v, rfl, ?_, G4.mono (by omega)⟩
  have V0 : Val (.list ds) := hI.lst (by omega)
  have V1 : Val (.tuple (A ++ B)) := (IA.app IB).tup (by omega)
  have V2 : Val (.tuple ds.reverse) := hI.rev.tup (by omega)
  have V3 : Val (.tuple (P ++ S)) := (IP.app IS).tup (by omega)
  have V4 : Val (.tuple (A ++ M ++ C)) := ((IA.app IM).app IC).tup (by omega)
  have hm2 : (((m : Nat) : Int)).natAbs ≤ 100 := by simp; omega
  have hk3 : (((k2 : Nat) : Int)).natAbs ≤ 100 := by simp; omega
  simp only [List.mem_cons, List.not_mem_nil, or_false] at hv
  rcases hv with h | h | h | h | h | h | h | h | h | h | h <;> subst h
  · exact V1
  · exact V2
  · exact V3
  · exact V4
  · exact V0
  · exact VX _ (.lst hco)
  · exact VX _ (.int hco2 hm2)
  · exact VX _ (.int hco hk3)
  · exact VX _ (.bool hco)
  · exact VX _ (.none hco)
  · exact VX _ (.one hco)
end
end JS
set_option Elab.async false
set_option linter.all false
set_option maxRecDepth 100000
set_option maxHeartbeats 4000000
/-! N12: what is judged. -/
namespace PL
open PySem
theorem plain_stepsL : ∀ f : List (Str × Nat), plainAll (f.map stepPD) = true
  | [] => rfl
  | p :: f => by
    show (plainD (stepPD p) && plainAll (f.map stepPD)) = true
    rw [plain_stepsL f]
    rfl
/-- sequences of steps over the columns -/
structure StepsOk (cols : List Str) (f : List (Str × Nat)) : Prop where
  mem : ∀ p ∈ f, p.1 ∈ cols ∧ p.2 ≤ 24
  len : f.length = cols.length
theorem StepsOk.val {cols : List Str} {f : List (Str × Nat)} (hc : Cols cols) (h : StepsOk cols f) : Val (stepsT f) :=
  .tup (fun d hd => by
    obtain ⟨p, hp, rfl⟩ := List.mem_map.mp hd
    obtain ⟨h1, h2⟩ := h.mem p hp
    exact .int (hc.okS _ h1) (by simp; omega)) (by rw [List.length_map, h.len]; have := hc.le; omega)
def dueL (ps : List (List Str)) (cols : List Str) : List (List (Str × Nat)) := match firstS ps cols.length cols with
  | none => []
  | some l => [l]
theorem dueL_ok {ps : List (List Str)} {cols : List Str} (hpl : ps.length ≤ 24) : ∀ f ∈ dueL ps cols, StepsOk cols f := by
  intro f hf
  unfold dueL at hf
  split at hf
  · exact nomatch hf
  · rename_i l h
    rw [List.mem_singleton.mp hf]
    exact ⟨fun p hp => by have := firstS_sub _ h p hp; exact ⟨this.1, by omega⟩, firstS_len _ h⟩
theorem dueL_len {ps : List (List Str)} {cols : List Str} : (dueL ps cols).length ≤ 1 := by
  unfold dueL
  split <;> simp
end PL
namespace JS
open PySem PL
section
variable {cols : List Str} {ps : List (List Str)} {gs : GS}
theorem wp_bents {n : Nat} {F : List (List (Str × Nat))} {s0 s2 s5 s7 s8 s9 s10 s11 : Slot} (hc : Cols cols) (hpl : ps.length ≤ 24) (hF : ∀ f ∈ F, StepsOk cols f) (h1 : 0 < F.length) (hl : F.length ≤ 10) (G : Good n gs) (hn : n + 100 < lim) :
    wp (xLc (iRng rng1 (aCons (xC (.int 6)) aNil)) [11] (gNm 11) tYesM (xFn 4 M__law_bent (aCons (xVar 1) (aCons (xVar 3) (aCons (xVar 6) (aCons (xFn 2 M__law_pick (aCons (xVar 1) (aCons (xVar 4) aNil)) []) aNil)))) []) [s0, .obj 0, s2, .val (tS cols), .own (.list (F.map stepsT)), s5, .val (tT ps), s7, s8, s9, s10, s11]) gs fun r g => ∃ vs, r = .own (.list vs) ∧ vs.length = 6 ∧ (∀ v ∈ vs, Val v) ∧ Good (n + 66) g := by
  have hcl := hc.le
  have hc1 := hc.ne
  have hrng : iRng rng1 (aCons (xC (.int 6)) aNil) [s0, .obj 0, s2, .val (tS cols), .own (.list (F.map stepsT)), s5, .val (tT ps), s7, s8, s9, s10, s11] = retM (rngD 0 6, false) := iRng_ret (rs := [.val (.int ((6 : Nat) : Int))]) (by simp) (rng1_nat (by omega))
  unfold xLc
  simp only [hrng, bindM_ret]
  rw [if_pos (by rw [rngD_map, List.length_map, List.length_range]; exact small_le (by omega)), wp_bind, rngD_map]
  refine wp_mono (wp_compL (all := List.range 6) (e := fun i => PyData.int (i : Nat)) (fun pre ys g => ys.length = pre.length ∧ (∀ v ∈ ys, Val v) ∧ Good (n + 11 * pre.length) g) (fun pre i post ys g ea ⟨hyl, hy, G1⟩ => ?step) (pre := []) (ys := []) rfl ⟨rfl, (fun _ h => nomatch h), G⟩) fun zs g ⟨hyl, hy, G1⟩ => ?post
  case step =>
    obtain ⟨hpi, hi⟩ := range_split ea
    simp only [turnL, wipeS, List.set, gNm_def, liftO_some, bindM_ret, tYesM_def, if_true, xFn_def, aCons_def, aNil_def, xVar_def, look_obj, look_val, look_own, look_suc, useM_ret, frz_obj, frz_val, frz_bor, wp_bind, wp_use]
    refine wp_callB rfl ?_
    refine wp_mono (wp_pick (d := .list (F.map stepsT)) (ds := F.map stepsT) (.inl rfl) G1 (Nat.lt_of_le_of_lt (by omega) hn) (by rw [List.length_map]; exact h1) (by rw [List.length_map]; omega)) fun r g2 ⟨z, hz, hr, G2⟩ => ?_
    obtain ⟨f, hf, rfl⟩ := List.mem_map.mp hz
    subst hr
    have hfo := hF f hf
    have hfl := hfo.len
    have hcr : cleanR (.val (stepsT f)) = true := plain_stepsL f
    refine ⟨⟨hcr, by rw [G2.len, G1.len]⟩, ?_⟩
    simp only [frz_val, bindM_ret, wp_ret, callO3]
    refine wp_mono (wp_law_bent hc hpl hfo.mem (by omega) (by omega) G2 (Nat.lt_of_le_of_lt (by omega) hn)) fun r g3 ⟨v, hr, hv, G3⟩ => ?_
    subst hr
    simp only [frz_val, valOf_val, wp_liftS]
    refine ⟨by rw [List.length_append, List.length_append, hyl]; rfl, fun y hy2 => ?_, by rw [List.length_append, List.length_singleton]; exact G3.mono (by omega)⟩
    rcases List.mem_append.mp hy2 with h | h
    · exact hy y h
    · rw [List.mem_singleton.mp h]; exact hv
  case post =>
    rw [List.nil_append] at hyl hy
    rw [List.length_range] at hyl G1
    exact wp_ret.mpr ⟨zs, rfl, hyl, hy, G1⟩
open Classical in
theorem m_graham (hc : Cols cols) (C : Cover cols ps) : M__law_graham [.val (tT ps)] = retM (.val (.bool (decide (NoStab ps)))) :=
  ret_of_wp fun gs => wp_mono (wp_graham hc C) fun r g ⟨hg, b, hr, hb⟩ => ⟨by
    rw [hr]
    have : b = decide (NoStab ps) := by rw [Bool.eq_iff_iff, decide_eq_true_eq]; exact hb
    rw [this], hg⟩
open Classical in
theorem first_none (hc : Cols cols) (C : Cover cols ps) : isNone (.val (firstD ps cols)) = !decide (NoStab ps) := by
  have h := first_nostab (ps := ps) (asc_nodup hc.asc) C.all fun c ⟨r, hr, hcr⟩ => (C.part r hr).sub c hcr
  rw [Bool.eq_iff_iff, Bool.not_eq_true', decide_eq_false_iff_not, ← h]
  unfold firstD
  cases firstS ps cols.length cols with
  | none => exact ⟨fun _ => rfl, fun _ => rfl⟩
  | some l => exact ⟨(fun h => nomatch h), fun h => nomatch h⟩
theorem due_told {s0 s1 s2 s3 s4 s5 s6 s7 s9 s10 s11 : Slot} : xIf (tBin isNR (xVar 8) (xC .none)) (xTup (aCons (xC (.str "not possible")) (aCons (xC (.str "cyclic")) aNil))) (xTup (aCons (xC (.str "told")) (aCons (xVar 8) aNil))) [s0, s1, s2, s3, s4, s5, s6, s7, .val (firstD ps cols), s9, s10, s11] = retM (.val (toldD ps cols)) := by
  have hz2 : 2 ≤ sizeLine := small_le (by omega)
  unfold firstD toldD
  cases firstS ps cols.length cols with
  | none => simp [isNone, hz2]
  | some l => simp [isNone, hz2]
theorem due_list {s0 s1 s2 s3 s4 s5 s6 s7 s9 s10 s11 : Slot} : xIf (tBin notNR (xVar 8) (xC .none)) (xLst (aCons (xVar 8) aNil)) (xLst aNil) [s0, s1, s2, s3, s4, s5, s6, s7, .val (firstD ps cols), s9, s10, s11] = retM (.own (.list ((dueL ps cols).map stepsT))) := by
  have hz1 : 1 ≤ sizeLine := small_le (by omega)
  unfold firstD dueL
  cases firstS ps cols.length cols with
  | none => simp [isNone, notNR_none]
  | some l => simp [isNone, notNR_none, hz1]
end
end JS
set_option Elab.async false
set_option linter.all false
set_option maxRecDepth 100000
set_option maxHeartbeats 4000000
/-! N13: the law. -/
namespace PL
open PySem
theorem eqR_bools {x y : Bool} : eqR (.val (.bool x)) (.val (.bool y)) = some (.val (.bool (x == y))) := by
  cases x <;> cases y <;> rfl
end PL
namespace JS
open PySem PL
section
theorem k37_yes {ns : List Int} : LawYes 10 g_law ns := by
  refine law_yes ?_
  have lt : ∀ k, k ≤ 60000 → k < lim := fun k hk => lim_of (by omega)
  have G0 : Good 0 [.strm ns 0 0] := ⟨ns, 0, 0, rfl, Int.le_refl _, Int.le_refl _⟩
  generalize hgs : ([.strm ns 0 0] : GS) = gs at G0
  unfold g_law lawSl
  have hrng : iRng rng1 (aCons (xC (.int 3)) aNil) (.un :: .obj 0 :: List.replicate 10 .un) = retM (rngD 0 3, false) := iRng_ret (rs := [.val (.int ((3 : Nat) : Int))]) (by simp) (rng1_nat (by omega))
  rw [sSeq_def]
  rw [sFor_def, hrng]
  simp only [bindM_ret, if_true, wp_bind]
  rw [rngD_map]
  have hz2 : 2 ≤ sizeLine := small_le (by omega)
  have hz0 : 0 ≤ sizeLine := Nat.zero_le _
  refine wp_mono (wp_forL (all := List.range 3) (e := fun i => PyData.int (i : Nat)) (fun pre ρ g => ∃ s2 s3 s4 s5 s6 s7 s8 s9 s10 s11, ρ = [.un, .obj 0, s2, s3, s4, s5, s6, s7, s8, s9, s10, s11] ∧ Good (9000 * pre.length) g) (fun _ _ => False) (fun _ _ => False) (fun pre i post ρ g ea ⟨s2, s3, s4, s5, s6, s7, s8, s9, s10, s11, hρ, G⟩ => ?step) (pre := []) rfl ⟨.un, .un, .un, .un, .un, .un, .un, .un, .un, .un, rfl, G0⟩) fun o g h => ?post
  case step =>
    subst hρ
    obtain ⟨hpi, hi⟩ := range_split ea
    refine ⟨[.un, .obj 0, .val (.int (i : Nat)), s3, s4, s5, s6, s7, s8, s9, s10, s11], rfl, ?_⟩
    simp only [sSeq_def, sSetF_def, xFn_def, xBin_def, aCons_def, aNil_def, xVar_def, xC_def, look_obj, look_val, look_suc, liftO_some, useM_ret, frz_obj, frz_val, bindM_ret, callO1, callO2, wp_bind, wp_use]
    refine wp_mono (wp_next (many := 8) G (lt _ (by omega)) (by omega) (lim_of (by omega))) fun r g1 ⟨d, hd, hr, G1⟩ => ?_
    subst hr
    have e1 : (1 : Int) + ((d : Nat) : Int) = ((1 + d : Nat) : Int) := by omega
    simp only [frz_val, addR_int, e1, wp_liftS, wp_ret, callO1, bindM_ret]
    refine wp_mono (wp_columns G1 (by omega) (by omega) (lt _ (by omega))) fun r g2 ⟨cols, hr, hc, hcl, G2⟩ => ?_
    subst hr
    simp only [frz_val, slotV_val, wp_liftS, wp_ret, List.set, sSeq_def, sAsg_def, xTup_def, xFn_def, aCons_def, aNil_def, xVar_def, xC_def, look_obj, look_val, look_suc, liftO_some, useM_ret, frz_obj, bindM_ret, callO2, wp_bind, wp_use]
    refine wp_mono (wp_cover hc G2 (lt _ (by omega))) fun r g3 ⟨ps, hr, C, G3⟩ => ?_
    subst hr
    simp only [frz_val, wp_bind, wp_use]
    refine wp_mono (wp_cover hc G3 (lt _ (by omega))) fun r g4 ⟨qs, hr, D, G4⟩ => ?_
    subst hr
    have hpl := C.le
    have hql := D.le
    have hpe : ∀ b : Bool, ((!b) == b) = false := fun b => by cases b <;> rfl
    simp only [frz_val, valsOf_cons, valsOf_nil, Option.map_some, Option.bind_some, List.length_cons, List.length_nil, Nat.zero_add, Nat.reduceAdd, hz2, if_true, wp_liftS, wp_ret, valOf_val, liftO_some, bindM_ret, gTp, gsCons, gsNil, gNm_def, List.set, sSeq_def, sPar_def, xFn_def, aCons_def, aNil_def, xVar_def, xC_def, look_val, look_suc, useM_ret, call2, call4, m_law_first hc C, m_told_out hc C, slotV_val, sFrz, List.getElem?_cons_succ, List.getElem?_cons_zero, frzS, sIf_def, tBin_def, xBin_def, isNR_none, call1, m_graham hc C, first_none hc C, eqR_bools, hpe, isB_bool, Bool.false_eq_true, if_false, sNil_def, tNotM_def, tTru_def, due_told, told_equal hc hpl, truR_val, truD_bool, Bool.not_true, wp_bind, wp_use]
    simp only [sSet_def, xBin_def, xLst_def, aCons_def, aNil_def, xFn_def, xVar_def, look_obj, look_val, look_suc, liftO_some, useM_ret, frz_obj, frz_val, bindM_ret, callO2, wp_bind, wp_use]
    refine wp_mono (wp_law_drawn hc C G4 (lt _ (by omega))) fun r g5 ⟨f1, hr, hf1l, hf1, G5⟩ => ?_
    subst hr
    simp only [frz_val, wp_bind, wp_use]
    refine wp_mono (wp_law_drawn hc D G5 (lt _ (by omega))) fun r g6 ⟨f2, hr, hf2l, hf2, G6⟩ => ?_
    subst hr
    have hF : ∀ f ∈ [f1, f2] ++ dueL ps cols, StepsOk cols f := fun f hf => by
      rcases List.mem_append.mp hf with h | h
      · rcases List.mem_cons.mp h with h | h
        · rw [h]; exact ⟨fun p hp => by have := hf1 p hp; exact ⟨this.1, by omega⟩, hf1l⟩
        · rw [List.mem_singleton.mp h]; exact ⟨fun p hp => by have := hf2 p hp; exact ⟨this.1, by omega⟩, hf2l⟩
      · exact dueL_ok hpl f h
    have hdl := dueL_len (ps := ps) (cols := cols)
    have hFl : ([f1, f2] ++ dueL ps cols).length ≤ 3 := by rw [List.length_append]; simp; omega
    have hFp : 0 < ([f1, f2] ++ dueL ps cols).length := by rw [List.length_append]; simp; omega
    have eadd := addR_lists (A := [stepsT f1, stepsT f2]) (B := (dueL ps cols).map stepsT) (by rw [List.length_map]; exact small_le (n := [stepsT f1, stepsT f2].length + (dueL ps cols).length) (by simp; omega))
    have elist : [stepsT f1, stepsT f2] ++ (dueL ps cols).map stepsT = ([f1, f2] ++ dueL ps cols).map stepsT := by rw [List.map_append]; rfl
    simp only [frz_val, frz_own, valsOf_cons, valsOf_nil, Option.map_some, Option.bind_some, List.length_cons, List.length_nil, Nat.zero_add, Nat.reduceAdd, hz2, if_true, wp_liftS, wp_ret, due_list, useM_ret, eadd, elist, slotV_own, liftO_some, bindM_ret, List.set, sSeq_def, sExt, ownList, List.getElem?_cons_succ, List.getElem?_cons_zero, wp_bind, wp_use]
    generalize hFF : [f1, f2] ++ dueL ps cols = F at *
    refine wp_mono (wp_bents hc hpl hF hFp (by omega) G6 (lt _ (by omega))) fun r g7 ⟨vs, hr, hvl, hv, G7⟩ => ?_
    subst hr
    have hzz : (F.map stepsT).length + vs.length ≤ sizeLine := by rw [List.length_map]; exact small_le (by omega)
    have hV : ∀ v ∈ F.map stepsT ++ vs, Val v := fun v h => by
      rcases List.mem_append.mp h with h | h
      · obtain ⟨f, hf, rfl⟩ := List.mem_map.mp h
        exact (hF f hf).val hc
      · exact hv v h
    simp only [frz_own, listOfR_val, wp_liftS, liftO_some, bindM_ret, hzz, if_true, List.set, wp_ret, sFrz, List.getElem?_cons_succ, List.getElem?_cons_zero, frzS, sFor_def, iSeq_def, xVar_def, look_val, look_suc, useM_ret, frz_val, walk_list, wp_bind, wp_use]
    refine wp_mono (wp_forD (all := F.map stepsT ++ vs) (fun pre2 ρ g => g = g7 ∧ ∃ s5 s10, ρ = [.un, .obj 0, .val (.int (i : Nat)), .val (tS cols), .val (.list (F.map stepsT ++ vs)), s5, .val (tT ps), .val (tT qs), .val (firstD ps cols), .val (toldD ps cols), s10, s11]) (fun _ _ => False) (fun _ _ => False) (fun pre2 v post2 ρ g ea2 ⟨hg, s5, s10, hρ⟩ => ?ask) ⟨rfl, s5, s10, rfl⟩) fun o g h => ?rest
    case ask =>
      subst hρ hg
      have hvv : Val v := hV v (by rw [ea2]; simp)
      refine ⟨[.un, .obj 0, .val (.int (i : Nat)), .val (tS cols), .val (.list (F.map stepsT ++ vs)), .val v, .val (tT ps), .val (tT qs), .val (firstD ps cols), .val (toldD ps cols), s10, s11], rfl, ?_⟩
      simp only [sFor_def, iSeq_def, xTup_def, aCons_def, aNil_def, xVar_def, look_val, look_suc, liftO_some, useM_ret, frz_val, bindM_ret, valsOf_cons, valsOf_nil, Option.map_some, Option.bind_some, List.length_cons, List.length_nil, Nat.zero_add, Nat.reduceAdd, hz2, if_true, walk_tuple]
      refine wp_mono (wp_forL (all := [ps, qs]) (e := tT) (fun pre3 ρ g3 => g3 = g ∧ ∃ s10, ρ = [.un, .obj 0, .val (.int (i : Nat)), .val (tS cols), .val (.list (F.map stepsT ++ vs)), .val v, .val (tT ps), .val (tT qs), .val (firstD ps cols), .val (toldD ps cols), s10, s11]) (fun _ _ => False) (fun _ _ => False) (fun pre3 rs post3 ρ g3 ea3 ⟨hg3, s10, hρ⟩ => ?inn) (pre := []) rfl ⟨rfl, s10, rfl⟩) fun o g3 h => ?out
      case inn =>
        subst hρ hg3
        refine ⟨[.un, .obj 0, .val (.int (i : Nat)), .val (tS cols), .val (.list (F.map stepsT ++ vs)), .val v, .val (tT ps), .val (tT qs), .val (firstD ps cols), .val (toldD ps cols), .val (tT rs), s11], rfl, ?_⟩
        have R : Cover cols rs := by
          have : rs ∈ [ps, qs] := by rw [ea3]; simp
          rcases List.mem_cons.mp this with h | h
          · rw [h]; exact C
          · rw [List.mem_singleton.mp h]; exact D
        have e1 := m_told_judge hc R hvv
        have e2 := m_is_one hc R hvv
        have e3 := judge_equal (cols := cols) (ps := rs) (v := v)
        have e4 : PyData.tuple [.str "told", .bool (judgeB cols rs v)] = judgeD cols rs v := rfl
        simp only [sIf_def, tNotM_def, tTru_def, xFn_def, xTup_def, aCons_def, aNil_def, xVar_def, xC_def, look_val, look_suc, liftO_some, useM_ret, frz_val, bindM_ret, call4, call3, call2, e1, e2, valsOf_cons, valsOf_nil, Option.map_some, Option.bind_some, List.length_cons, List.length_nil, Nat.zero_add, Nat.reduceAdd, hz2, if_true, e4, e3, truR_val, truD_bool, Bool.not_true, Bool.false_eq_true, if_false, sNil_def, wp_ret]
        exact ⟨trivial, _, rfl⟩
      case out =>
        cases o with
        | nx ρ2 =>
          rcases h with ⟨hg3, s10', hρ⟩ | h
          · subst hρ hg3
            exact ⟨rfl, _, _, rfl⟩
          · exact h.elim
        | ret r => exact h.elim
        | brk ρ => exact h.elim
        | cnt ρ => exact h.elim
    case rest =>
      cases o with
      | nx ρ2 =>
        rcases h with ⟨hg, s5', s10', hρ⟩ | h
        · subst hρ hg
          exact ⟨_, _, _, _, _, _, _, _, _, _, rfl, by rw [List.length_append, List.length_singleton]; exact G7.mono (by omega)⟩
        · exact h.elim
      | ret r => exact h.elim
      | brk ρ => exact h.elim
      | cnt ρ => exact h.elim
  case post =>
    cases o with
    | nx ρ2 =>
      rcases h with ⟨s2, s3, s4, s5, s6, s7, s8, s9, s10, s11, hρ, G⟩ | h
      · subst hρ
        simp only [sRet_def, xC_def, bindM_ret, asRet_val, wp_ret]
      · exact h.elim
    | ret r => exact h.elim
    | brk ρ => exact h.elim
    | cnt ρ => exact h.elim
end
end JS
set_option Elab.async false
set_option linter.all false
set_option maxRecDepth 100000
set_option maxHeartbeats 4000000
namespace JS
open PySem PySem.Spec PyProof.Rows L2 PL
theorem top_of {K : PySem.W.Frag} {h : Heap} {mg : Str → Option Value} (X : K.In h) (G : h.Ns mainGlobals mg) (c : He.SaysD fa fn K) (ce : exk K = true) : Nonempty (Top K mg) := by
  obtain ⟨d0, F0⟩ := c.def_ 0 (d := d_is_integer) rfl
  obtain ⟨d1, F1⟩ := c.def_ 1 (d := d_is_from_to) rfl
  obtain ⟨d2, F2⟩ := c.def_ 2 (d := d_is_tuple_of) rfl
  obtain ⟨d3, F3⟩ := c.def_ 3 (d := d_is_ascending) rfl
  obtain ⟨d4, F4⟩ := c.def_ 4 (d := d_is_within) rfl
  obtain ⟨d5, F5⟩ := c.def_ 5 (d := d_is_column) rfl
  obtain ⟨d6, F6⟩ := c.def_ 6 (d := d_is_columns) rfl
  obtain ⟨d7, F7⟩ := c.def_ 7 (d := d_is_some_of) rfl
  obtain ⟨d8, F8⟩ := c.def_ 8 (d := d_check_columns) rfl
  obtain ⟨d9, F9⟩ := c.def_ 9 (d := d_is_cover_over) rfl
  obtain ⟨d10, F10⟩ := c.def_ 10 (d := d_check_parts) rfl
  obtain ⟨d11, F11⟩ := c.def_ 11 (d := d_part_bits) rfl
  obtain ⟨d12, F12⟩ := c.def_ 12 (d := d_near_bits) rfl
  obtain ⟨d13, F13⟩ := c.def_ 13 (d := d_check_cover) rfl
  obtain ⟨d14, F14⟩ := c.def_ 14 (d := d_taken_among) rfl
  obtain ⟨d15, F15⟩ := c.def_ 15 (d := d_taking_out) rfl
  obtain ⟨d16, F16⟩ := c.def_ 16 (d := d_accepts_taking_out) rfl
  obtain ⟨d17, F17⟩ := c.def_ 17 (d := d__law_stream) rfl
  obtain ⟨d18, F18⟩ := c.def_ 18 (d := d__law_next) rfl
  obtain ⟨d19, F19⟩ := c.def_ 19 (d := d__law_pick) rfl
  obtain ⟨d20, F20⟩ := c.def_ 20 (d := d__law_shuffled) rfl
  obtain ⟨d21, F21⟩ := c.def_ 21 (d := d__law_plain) rfl
  obtain ⟨d22, F22⟩ := c.def_ 22 (d := d__law_equal) rfl
  obtain ⟨d23, F23⟩ := c.def_ 23 (d := d__law_columns) rfl
  obtain ⟨d24, F24⟩ := c.def_ 24 (d := d__law_some) rfl
  obtain ⟨d25, F25⟩ := c.def_ 25 (d := d__law_covering) rfl
  obtain ⟨d26, F26⟩ := c.def_ 26 (d := d__law_hung) rfl
  obtain ⟨d27, F27⟩ := c.def_ 27 (d := d__law_round) rfl
  obtain ⟨d28, F28⟩ := c.def_ 28 (d := d__law_cover) rfl
  obtain ⟨d29, F29⟩ := c.def_ 29 (d := d__law_near) rfl
  obtain ⟨d30, F30⟩ := c.def_ 30 (d := d__law_graham) rfl
  obtain ⟨d31, F31⟩ := c.def_ 31 (d := d__law_is_number) rfl
  obtain ⟨d32, F32⟩ := c.def_ 32 (d := d__law_told) rfl
  obtain ⟨d33, F33⟩ := c.def_ 33 (d := d__law_held) rfl
  obtain ⟨d34, F34⟩ := c.def_ 34 (d := d__law_first) rfl
  obtain ⟨d35, F35⟩ := c.def_ 35 (d := d__law_drawn) rfl
  obtain ⟨d36, F36⟩ := c.def_ 36 (d := d__law_is_one) rfl
  obtain ⟨d37, F37⟩ := c.def_ 37 (d := d__law_bent) rfl
  obtain ⟨d38, F38⟩ := c.def_ 38 (d := d_law) rfl
  obtain ⟨di0, Fi0⟩ := c.def_ 39 (d := di_NotPossible) rfl
  simp only [exk, Bool.and_eq_true] at ce
  exact ⟨{
    di_NotPossible := di0
    Fi_NotPossible := Fi0
    x_NotPossible := exB_ok X G ce
    d_is_integer := d0
    F_is_integer := F0
    m_is_integer := He.glo_ok X G (c.fact 0 (f := .glo "is_integer") rfl)
    d_is_from_to := d1
    F_is_from_to := F1
    m_is_from_to := He.glo_ok X G (c.fact 1 (f := .glo "is_from_to") rfl)
    d_is_tuple_of := d2
    F_is_tuple_of := F2
    m_is_tuple_of := He.glo_ok X G (c.fact 2 (f := .glo "is_tuple_of") rfl)
    d_is_ascending := d3
    F_is_ascending := F3
    m_is_ascending := He.glo_ok X G (c.fact 3 (f := .glo "is_ascending") rfl)
    d_is_within := d4
    F_is_within := F4
    m_is_within := He.glo_ok X G (c.fact 4 (f := .glo "is_within") rfl)
    d_is_column := d5
    F_is_column := F5
    m_is_column := He.glo_ok X G (c.fact 5 (f := .glo "is_column") rfl)
    d_is_columns := d6
    F_is_columns := F6
    m_is_columns := He.glo_ok X G (c.fact 6 (f := .glo "is_columns") rfl)
    d_is_some_of := d7
    F_is_some_of := F7
    m_is_some_of := He.glo_ok X G (c.fact 7 (f := .glo "is_some_of") rfl)
    d_check_columns := d8
    F_check_columns := F8
    m_check_columns := He.glo_ok X G (c.fact 8 (f := .glo "check_columns") rfl)
    d_is_cover_over := d9
    F_is_cover_over := F9
    m_is_cover_over := He.glo_ok X G (c.fact 9 (f := .glo "is_cover_over") rfl)
    d_check_parts := d10
    F_check_parts := F10
    m_check_parts := He.glo_ok X G (c.fact 10 (f := .glo "check_parts") rfl)
    d_part_bits := d11
    F_part_bits := F11
    m_part_bits := He.glo_ok X G (c.fact 11 (f := .glo "part_bits") rfl)
    d_near_bits := d12
    F_near_bits := F12
    m_near_bits := He.glo_ok X G (c.fact 12 (f := .glo "near_bits") rfl)
    d_check_cover := d13
    F_check_cover := F13
    m_check_cover := He.glo_ok X G (c.fact 13 (f := .glo "check_cover") rfl)
    d_taken_among := d14
    F_taken_among := F14
    m_taken_among := He.glo_ok X G (c.fact 14 (f := .glo "taken_among") rfl)
    d_taking_out := d15
    F_taking_out := F15
    m_taking_out := He.glo_ok X G (c.fact 15 (f := .glo "taking_out") rfl)
    d_accepts_taking_out := d16
    F_accepts_taking_out := F16
    m_accepts_taking_out := He.glo_ok X G (c.fact 16 (f := .glo "accepts_taking_out") rfl)
    d__law_stream := d17
    F__law_stream := F17
    m__law_stream := He.glo_ok X G (c.fact 17 (f := .glo "_law_stream") rfl)
    d__law_next := d18
    F__law_next := F18
    m__law_next := He.glo_ok X G (c.fact 18 (f := .glo "_law_next") rfl)
    d__law_pick := d19
    F__law_pick := F19
    m__law_pick := He.glo_ok X G (c.fact 19 (f := .glo "_law_pick") rfl)
    d__law_shuffled := d20
    F__law_shuffled := F20
    m__law_shuffled := He.glo_ok X G (c.fact 20 (f := .glo "_law_shuffled") rfl)
    d__law_plain := d21
    F__law_plain := F21
    m__law_plain := He.glo_ok X G (c.fact 21 (f := .glo "_law_plain") rfl)
    d__law_equal := d22
    F__law_equal := F22
    m__law_equal := He.glo_ok X G (c.fact 22 (f := .glo "_law_equal") rfl)
    d__law_columns := d23
    F__law_columns := F23
    m__law_columns := He.glo_ok X G (c.fact 23 (f := .glo "_law_columns") rfl)
    d__law_some := d24
    F__law_some := F24
    m__law_some := He.glo_ok X G (c.fact 24 (f := .glo "_law_some") rfl)
    d__law_covering := d25
    F__law_covering := F25
    m__law_covering := He.glo_ok X G (c.fact 25 (f := .glo "_law_covering") rfl)
    d__law_hung := d26
    F__law_hung := F26
    m__law_hung := He.glo_ok X G (c.fact 26 (f := .glo "_law_hung") rfl)
    d__law_round := d27
    F__law_round := F27
    m__law_round := He.glo_ok X G (c.fact 27 (f := .glo "_law_round") rfl)
    d__law_cover := d28
    F__law_cover := F28
    m__law_cover := He.glo_ok X G (c.fact 28 (f := .glo "_law_cover") rfl)
    d__law_near := d29
    F__law_near := F29
    m__law_near := He.glo_ok X G (c.fact 29 (f := .glo "_law_near") rfl)
    d__law_graham := d30
    F__law_graham := F30
    m__law_graham := He.glo_ok X G (c.fact 30 (f := .glo "_law_graham") rfl)
    d__law_is_number := d31
    F__law_is_number := F31
    m__law_is_number := He.glo_ok X G (c.fact 31 (f := .glo "_law_is_number") rfl)
    d__law_told := d32
    F__law_told := F32
    m__law_told := He.glo_ok X G (c.fact 32 (f := .glo "_law_told") rfl)
    d__law_held := d33
    F__law_held := F33
    m__law_held := He.glo_ok X G (c.fact 33 (f := .glo "_law_held") rfl)
    d__law_first := d34
    F__law_first := F34
    m__law_first := He.glo_ok X G (c.fact 34 (f := .glo "_law_first") rfl)
    d__law_drawn := d35
    F__law_drawn := F35
    m__law_drawn := He.glo_ok X G (c.fact 35 (f := .glo "_law_drawn") rfl)
    d__law_is_one := d36
    F__law_is_one := F36
    m__law_is_one := He.glo_ok X G (c.fact 36 (f := .glo "_law_is_one") rfl)
    d__law_bent := d37
    F__law_bent := F37
    m__law_bent := He.glo_ok X G (c.fact 37 (f := .glo "_law_bent") rfl)
    d_law := d38
    F_law := F38
    m_law := He.glo_ok X G (c.fact 38 (f := .glo "law") rfl)
    b_ValueError := He.free_ok X G (c.fact 39 (f := .free "ValueError") rfl)
    b_abs := He.free_ok X G (c.fact 40 (f := .free "abs") rfl)
    b_all := He.free_ok X G (c.fact 41 (f := .free "all") rfl)
    b_bool := He.free_ok X G (c.fact 42 (f := .free "bool") rfl)
    b_enumerate := He.free_ok X G (c.fact 43 (f := .free "enumerate") rfl)
    b_int := He.free_ok X G (c.fact 44 (f := .free "int") rfl)
    b_isinstance := He.free_ok X G (c.fact 45 (f := .free "isinstance") rfl)
    b_len := He.free_ok X G (c.fact 46 (f := .free "len") rfl)
    b_list := He.free_ok X G (c.fact 47 (f := .free "list") rfl)
    b_max := He.free_ok X G (c.fact 48 (f := .free "max") rfl)
    b_min := He.free_ok X G (c.fact 49 (f := .free "min") rfl)
    b_range := He.free_ok X G (c.fact 50 (f := .free "range") rfl)
    b_repr := He.free_ok X G (c.fact 51 (f := .free "repr") rfl)
    b_sorted := He.free_ok X G (c.fact 52 (f := .free "sorted") rfl)
    b_str := He.free_ok X G (c.fact 53 (f := .free "str") rfl)
    b_sum := He.free_ok X G (c.fact 54 (f := .free "sum") rfl)
    b_tuple := He.free_ok X G (c.fact 55 (f := .free "tuple") rfl)
    k_MOST_SIGNS := He.int_ok X G (c.fact 56 (f := .int "MOST_SIGNS" 12) rfl)
    k_MOST_COLUMNS := He.int_ok X G (c.fact 57 (f := .int "MOST_COLUMNS" 24) rfl)
    k_MOST_PARTS := He.int_ok X G (c.fact 58 (f := .int "MOST_PARTS" 24) rfl) }⟩
end JS
open PySem PySem.W PySem.Calls PyProof.Rows
theorem JS.holds_of (yes : ∀ ns : List Int, ns.length ≤ 63 → PL.LawYes 10 JS.g_law ns) : PySem.Challenge.rw_joinsure_k37_whole_taking_out_columns.Holds := by
  w_on; o_law
  refine HandSHeadRun.head_any (r := OpenLaw.row PySem.Challenge.rw_joinsure_k37_whole_taking_out_columns) (q := view (OpenLaw.row PySem.Challenge.rw_joinsure_k37_whole_taking_out_columns).prog [50]) (H := JS.hk) (ob := JS.ob) (M := 3000) (loose := JS.loose) (d := HandSHeadRun.topDef (OpenLaw.row PySem.Challenge.rw_joinsure_k37_whole_taking_out_columns).prog 50) (kwd := []) JS.ob_eq
    (by kernel_rfl) (fun s => by kernel_rfl) JS.run (by kernel_rfl) (by kernel_rfl) (by kernel_rfl) (by rfl) (by first | assumption | decide +kernel) (by decide +kernel) ⟨rfl, rfl, rfl, rfl, rfl, by decide +kernel⟩ ?hw ?hc
  case hw => w_witness2
  case hc =>
    refine PL.walk_ofG (l := PySem.Challenge.rw_joinsure_k37_whole_taking_out_columns) (n := 63) (k := 103) (x := "script") (CX := L2.CX0) rfl (by decide) (by kernel_rfl) ⟨rfl, by decide, by decide⟩ PL.guards0 ?F (fun _ _ _ _ z => z)
    intro w mg fa h Y G hmg0
    obtain ⟨K, KX, c⟩ := Y
    have hmg : mg ("law" : PySem.Str) = some (.ref fa) := by
      have e : (HandSHeadRun.topDef (OpenLaw.row PySem.Challenge.rw_joinsure_k37_whole_taking_out_columns).prog 50).name = ("law" : PySem.Str) := by kernel_rfl
      rw [← e]
      exact hmg0
    obtain ⟨T⟩ := JS.top_of KX G (congrArg (fun z : He.AlT => z.1) c.t) c.more
    have e := hmg.symm.trans T.m_law
    cases e
    have b := L2.FunD.bindsA (ps := ["script"]) T.F_law fun _ _ _ _ _ _ us hl => match us, hl with | [_], _ => rfl
    exact ⟨K, T.d_law, PL.spLaw K 10 JS.g_law, KX, fun s v => b s [v] rfl, fun H a ns hl _ hS => ⟨a, ns, rfl, hS, Nat.le_trans hl (by decide), yes ns hl, fun _ => rfl⟩, fun base _ _ => JS.ok_law T⟩
theorem PySem.Challenge.cw_joinsure_k37_whole_taking_out_columns_holds : PySem.Challenge.rw_joinsure_k37_whole_taking_out_columns.Holds :=
  JS.holds_of fun ns _ => JS.k37_yes
