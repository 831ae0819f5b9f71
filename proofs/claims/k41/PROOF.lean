import PyProof.Rows.All
import Wide.All
import OpenK.AllK
import Wide.FinOn
import HandS.ForMost
import HandS.Walk
import HandS.Evl
import HandS.Slots
import HandS.TupAny
import HandS.IsInst
import HandS.Dict
import KE.KDictKeyed
import HandS.Zip
import KE.SortData
import HandS.Wide
import KE.DataCmp
import KE.DataFind
import HandS.TupLe
import HandS.Steps
import HandS.SlotsOwn
import HandS.WordsDict
import HandS.Exc
import HandS.ExcOwn
import KE.KDictWalk
import KE.KDictList
import HandS.Conv
import HandS.AnyAll
import HandS.TupLen
import HandS.Star
import HandS.Text
import PyProof.TupleOfStr
import HandS.Iter
import HandS.Comp
import HandS.DictComp
import HandS.Set
import HandS.SetKeys
import KE.GoesSet
import HandS.TupSets
import HandS.DictEq
import KE.DataMinMax
import HandS.Lambda
import HandS.Defaults
import PyProof.ExcBaseAll.ValueError
import HandS.Strs
import HandS.TryMany
import HandS.Words
import HandS.Head0
import HandS.Head1
import HandS.Head2
import HandS.HeadEnd
import HandS.HeadHook1
import HandS.HeadHook2
import HandS.HeadHook3
import HandS.HeadHook4
import HandS.HeadWalk
import KE.KStateDown
import PySem.Challenge.RW_joinhouse_k41_errors_of_shapes
set_option Elab.async false
set_option linter.all false
set_option maxRecDepth 100000
set_option maxHeartbeats 4000000
/-! tuples of which it is known that they have no dict -/
namespace Ev
open PySem PySem.Spec PyProof.Rows L2
def ND (K : PySem.W.Frag) (H : Hp) (a : Addr) : Prop := (∃ o, K.lookup a = some o ∧ o.dict = none) ∨ ∃ o u, H a = some (.frz o u) ∧ o.dict = none
structure SqX (K : PySem.W.Frag) (H : Hp) (a : Addr) (xs : List V) : Prop where
  sq : SqT K H a xs
  nd : ND K H a
theorem ex_x {K : PySem.W.Frag} {H H' : Hp} {a : Addr} {xs : List V} (e : Evl.Ex H H') (h : SqX K H a xs) : SqX K H' a xs := ⟨Evl.ex_t e h.sq, by
  rcases h.nd with h | ⟨o, u, h1, h2⟩
  · exact .inl h
  · exact .inr ⟨o, u, e _ _ h1, h2⟩⟩
theorem sx_of {K : PySem.W.Frag} {H : Hp} {a : Addr} {xs : List V} {o : Obj} (h : H a = some (.frz o (.tup xs))) (hd : o.dict = none) : SqX K H a xs := ⟨.inl (.inr ⟨_, h⟩), .inr ⟨_, _, h, hd⟩⟩
section
variable {X : Cx} {pos : Pos} {es : List Expr} {t : TA}
def tTupX (t : TA) : TE := fun σ H Q => t σ H fun xs H1 => xs.length ≤ sizeLine ∧ ∀ p (o : Obj), o.dict = none → H1 p = none → Q (.ref p) (upd H1 p (.frz o (.tup xs)))
theorem pe_tupX {x1} (h : PA X es t) : PE X (.Tuple es x1 pos) (tTupX t) := by
  refine ⟨fun pins s σ H Q I hq => ?_⟩
  refine wpAny_Tuple_spliced (thn (h.run pos pins s σ H _ I hq) fun us s1 ⟨xs, H1, I1, r, z, q⟩ => ⟨by rw [← r.length]; exact z, ?_⟩)
  have hf : H1 s1.heap.objs.size = none := I1.hok.fresh (Nat.le_refl _)
  refine ⟨.ref s1.heap.objs.size, upd H1 s1.heap.objs.size (.frz { cls := .type "tuple", data := .seq us.toArray } (.tup xs)), I1.laid (t' := s1.toks) (fun b u e => Heap.get?_push_of_some _ e) (Nat.le_refl _) ?_, rfl, q _ { cls := .type "tuple", data := .seq us.toArray } rfl hf⟩
  exact ⟨Heap.get?_push_size _ rfl, z, us, r, ⟨_, Heap.get?_push_size _ rfl, rfl, _, rfl⟩⟩
theorem call_tuple_ofX : CallR X (.type "tuple") (fun xs H Q => ∃ p ys, xs = [.ref p] ∧ ((SqL X.K H p ys ∧ ∀ l (o : Obj), o.dict = none → H l = none → Q (.ref l) (upd H l (.frz o (.tup ys)))) ∨ (SqT X.K H p ys ∧ Q (.ref p) H))) := by
  intro pins s σ H xs us Q I r h
  obtain ⟨p, ys, rfl, h⟩ := h
  obtain ⟨u, rfl, rx⟩ := vals1 r
  cases rx
  rcases h with ⟨hq, q⟩ | ⟨hq, q⟩
  · obtain ⟨its, r', pl, hz⟩ := I.list hq
    have hlen := r'.length
    refine call_tuple_list pl.isList (fun h' kp => ?_) (by simp only [List.size_toArray] <;> omega)
    have I1 : Inv X pins σ H { s with heap := h' } := I.kept (t' := s.toks) kp
    have I2 : Inv X pins σ (upd H h'.objs.size (.frz { cls := .type "tuple", data := .seq its.toArray } (.tup ys))) { s with heap := h'.push { cls := .type "tuple", data := .seq its.toArray } } :=
      I1.laid (t' := s.toks) (fun b o e => Heap.get?_push_of_some _ e) (Nat.le_refl _) (show ObjOk X.prog X.w _ _ _ (.frz _ (.tup ys)) from ⟨Heap.get?_push_size _ rfl, hz, its, r', IsTup.new _ _⟩)
    exact ⟨.ref h'.objs.size, _, I2, rfl, q _ _ rfl (I1.hok.fresh (Nat.le_refl _))⟩
  · obtain ⟨its, r', pl, hz⟩ := I.tuple hq
    exact call_tuple_same pl ⟨.ref p, H, I, rfl, q⟩
def rCatX (K : PySem.W.Frag) : R2 := fun x y H Q => ∃ a b xs ys, x = .ref a ∧ y = .ref b ∧ SqT K H a xs ∧ SqT K H b ys ∧ xs.length + ys.length ≤ sizeLine ∧
  (xs = [] → Q (.ref b) H) ∧ (xs ≠ [] → ys = [] → Q (.ref a) H) ∧ (xs ≠ [] → ys ≠ [] → ∀ p (o : Obj), o.dict = none → H p = none → Q (.ref p) (upd H p (.frz o (.tup (xs ++ ys)))))
theorem op_catX : OpR X (binaryOp .Add) (rCatX X.K) := by
  intro pins s σ H x y v u Q I rx ry h
  obtain ⟨a, b, xs, ys, rfl, rfl, ha, hb, hz, q0, q1, q2⟩ := h
  by_cases hx : xs = []
  · subst hx
    cases rx
    cases ry
    obtain ⟨its, r1, p1, _⟩ := I.tuple ha
    obtain ⟨its2, r2, p2, _⟩ := I.tuple hb
    cases r1
    exact cat_tup0 p1 p2 ⟨.ref b, H, I, rfl, q0 rfl⟩
  · cases rx
    cases ry
    obtain ⟨its, r1, p1, _⟩ := I.tuple ha
    obtain ⟨its2, r2, p2, _⟩ := I.tuple hb
    refine HT.cat_tup p1 p2 (fun z => hx (r1.nil_iff.mp z)) (fun z => ⟨.ref a, H, I, rfl, q1 hx (r2.nil_iff.mp z)⟩) (fun z => ?_) (by rw [← r1.length, ← r2.length]; exact hz)
    refine ⟨.ref s.heap.objs.size, _, I.laid (t' := s.toks) (o := .frz { cls := .type "tuple", data := .seq (its ++ its2).toArray } (.tup (xs ++ ys))) (fun b ob q => Heap.get?_push_of_some _ q) (Nat.le_refl _) ?_, rfl, q2 hx (fun w => z (r2.nil_iff.mpr w)) _ { cls := .type "tuple", data := .seq (its ++ its2).toArray } rfl (I.hok.fresh (Nat.le_refl _))⟩
    exact ⟨Heap.get?_push_size _ rfl, by rw [List.length_append]; exact hz, _, r1.append r2, IsTup.new _ _⟩
  def rSlX (K : PySem.W.Frag) : V → Option Int → Option Int → Hp → VK → Prop := fun x lo hi H Q => ∃ a xs, x = .ref a ∧ SqT K H a xs ∧
  (HT.sIx xs.length 0 lo = 0 ∧ HT.sIx xs.length xs.length hi = xs.length → Q (.ref a) H) ∧ (¬ (HT.sIx xs.length 0 lo = 0 ∧ HT.sIx xs.length xs.length hi = xs.length) → ∀ p (o : Obj), o.dict = none → H p = none → Q (.ref p) (upd H p (.frz o (.tup (cutV xs lo hi)))))
theorem sl_tupX : SlR X (rSlX X.K) := by
  intro pins s σ H x v vl vu lo hi sl Q I rx hs pl pu h
  obtain ⟨a, xs, rfl, hx, q1, q2⟩ := h
  by_cases hw : HT.sIx xs.length 0 lo = 0 ∧ HT.sIx xs.length xs.length hi = xs.length
  · exact sl_tupA pins s σ H _ v vl vu lo hi sl Q I rx hs pl pu ⟨a, xs, rfl, hx, q1, fun z => absurd hw z⟩
  · cases rx
    obtain ⟨its, r, ht, hz⟩ := I.tuple hx
    have hlen : its.toArray.size = xs.length := by rw [List.size_toArray]; exact r.length.symm
    refine ⟨"tuple", _, PyProof.Rows.slot_tuple_getitem.lookup, ht.typeIs, ?_⟩
    refine HT.getItem_tuple_cut ht hs pl pu (by rw [hlen]; exact hw) ?_ (by rw [hlen]; exact hz)
    rw [hlen]
    refine ⟨.ref s.heap.objs.size, _, I.laid (t' := s.toks) (o := .frz { cls := .type "tuple", data := .seq (List.take (HT.sIx xs.length xs.length hi - HT.sIx xs.length 0 lo) (List.drop (HT.sIx xs.length 0 lo) its.toArray.toList)).toArray } (.tup (cutV xs lo hi))) (fun b ob q => Heap.get?_push_of_some _ q) (Nat.le_refl _) ?_, rfl, q2 hw _ { cls := .type "tuple", data := .seq (List.take (HT.sIx xs.length xs.length hi - HT.sIx xs.length 0 lo) (List.drop (HT.sIx xs.length 0 lo) its.toArray.toList)).toArray } rfl (I.hok.fresh (Nat.le_refl _))⟩
    exact ⟨Heap.get?_push_size _ rfl, Nat.le_trans (cutV_length xs lo hi) hz, _, (r.drop (HT.sIx xs.length 0 lo)).take (HT.sIx xs.length xs.length hi - HT.sIx xs.length 0 lo), IsTup.new _ _⟩
/-- the value's type, and that it has no dict -/
theorem SqX.is {pins : List (Addr × Obj)} {σ : List (Option V)} {H : Hp} {s : Shared} {a : Addr} {xs : List V} (I : Inv X pins σ H s) (h : SqX X.K H a xs) : s.TypeIs (.ref a) "tuple" ∧ ∀ b, Value.ref a = .ref b → ∃ ob, s.heap.get? b = some ob ∧ ob.dict = none := by
  obtain ⟨its, _, ht, _⟩ := I.tuple h.sq
  refine ⟨ht.typeIs, fun b e => ?_⟩
  cases e
  rcases h.nd with ⟨o, h1, h2⟩ | ⟨o, u, h1, h2⟩
  · exact ⟨o, I.kIn _ o h1, h2⟩
  · exact ⟨o, (I.hok _ _ h1).1, h2⟩
/-- t.m(..), t a tuple -/
def tBX (K : PySem.W.Frag) (r : V → List V → Hp → VK → Prop) (to : TE) (t : TA) : TE := fun σ H Q => to σ H fun x H1 => (∃ a xs, x = .ref a ∧ SqX K H1 a xs) ∧ t σ H1 fun xs H2 => r x xs H2 Q
theorem pe_bmX {o e : Expr} {es : List Expr} {to : TE} {t : TA} {name : Str} {apos cpos : Pos} {id : String} {r : V → List V → Hp → VK → Prop} (slot : Slot "tuple" name id) (hty : typeOf (.builtin id) = pure (.type "method_descriptor")) (hm : MtR X id r) (ho : PE X o to) (ha : PA X (e :: es) t)
    (hbase : attributeBase o name X.env (eval o X.env) = eval o X.env)
    (hfew : ((backTo cpos (starEach (e :: es) X.env)).all (fun x => !x.1) && (backToKw cpos (keywordEach [] X.env)).all (fun x => x.1.isSome)
      && decide ((e :: es).length + ([] : List Keyword).length + (if ([] : List Keyword).isEmpty then 0 else 1) < 30)) = true)
    (hline : (apos.endLine == cpos.line) = true) (hs : starEach (e :: es) X.env = (false, eval e X.env) :: starEach es X.env) (hplain : (backTo cpos (starEach es X.env)).any (·.1) = false) :
    PE X (.Call (.Attribute o name apos) (e :: es) [] cpos) (tBX X.K r to t) := by
  refine ⟨fun pins s σ H Q I h => ?_⟩
  refine wpAny_Call_method_late hbase hfew hline rfl (thn (ho.run pins s σ H _ I h) fun v s1 ⟨x, H1, I1, r1, ⟨a, xs, ea, hx⟩, q1⟩ => ?_)
  subst ea
  have hv : v = .ref a := by cases r1; rfl
  subst hv
  obtain ⟨h1, h2⟩ := hx.is I1
  refine ⟨"tuple", id, PySem.F.plainAttrs_tuple, slot, hty, h1, h2, ?_⟩
  have hA := ha.run cpos pins s1 σ H1 _ I1 q1
  rw [hs] at hA ⊢
  refine Calls.callWith_builtin (by show (false || (backTo cpos (starEach es X.env)).any (·.1)) = false; rw [hplain] <;> rfl) (Calls.evalArgs_plain ?_)
  exact thn hA fun us s2 ⟨vs, H2, I2, r2, q2⟩ => hm pins s2 σ H2 _ vs _ us Q I2 r1 r2 q2
end
end Ev
set_option maxHeartbeats 4000000
/-! Ev: data by structure over the hand layer. -/
namespace Ev
open PySem PySem.Spec PyProof.Rows L2
abbrev St := L2.St

/-- data by structure -/
inductive D where
  | non | bl (b : Bool) | int (i : Int) | str (x : Str) | tup (xs : List D) | lst (xs : List D)
  | dct (ks vs : List D) | ins (c : Nat) (fs : List D) | ty (n : String) | cl (c : Nat)
  /-- a pair that a walk hands over -/
  | wt (xs : List D)
  /-- the dice of a law, at p, rolled at most n times -/
  | di (p : Addr) (n : Nat)
  deriving Inhabited

/-- what is fixed through a law: the program, the world, the written part, the classes -/
structure Gx where
  P : Program
  w : World
  K : PySem.W.Frag
  cad : Nat -> Addr

/-- a dict whose keys are tuples, nested: its entries as they stand -/
def dnRows (P : Program) (w : World) (h : Heap) (a : Addr) (xs : List (NestedKey × Addr × V)) : Prop :=
  (a == sysModules) = false ∧ ∃ ys : List (NestedKey × Addr × Value), Paired (fun (p : NestedKey × Addr × V) (q : NestedKey × Addr × Value) => p.1 = q.1 ∧ p.2.1 = q.2.1 ∧ RelV p.2.2 q.2.2) xs ys ∧
    ∃ o es ep, h.get? a = some o ∧ o.ExactDict ∧ o.data = .dict es ep ∧ es.toList = ys.map (entryOfKey (nestedKind P w)) ∧ (ys.map (·.1)).Nodup ∧ ∀ y ∈ ys, y.1.depth ≤ 8
def DnO (P : Program) (w : World) (a : Addr) (xs : List (NestedKey × Addr × V)) : HO := .ext fun h => dnRows P w h a xs

mutual
/-- the key that a hashable datum is -/
def nk : D → Option NestedKey
  | .non => some .none
  | .bl b => some (.num (if b = true then 1 else 0))
  | .int i => some (.num i)
  | .str x => some (.text x)
  | .tup xs => (nks xs).map .tup
  | .lst _ => none
  | .dct _ _ => none
  | .ins _ _ => none
  | .ty _ => none
  | .cl _ => none
  | .wt _ => none
  | .di _ _ => none
def nks : List D → Option (List NestedKey)
  | [] => some []
  | x :: xs => match nk x, nks xs with
    | some k, some ks => some (k :: ks)
    | _, _ => none
end

mutual
inductive RelD (G : Gx) (Kn : Hp) : D → V → Prop
  | non : RelD G Kn .non .non
  | bl (b : Bool) : RelD G Kn (.bl b) (.bl b)
  | int (i : Int) : RelD G Kn (.int i) (.int i)
  | str (x : Str) : RelD G Kn (.str x) (.str x)
  | ty (n : String) : RelD G Kn (.ty n) (.ty n)
  | cl (c : Nat) : RelD G Kn (.cl c) (.ref (G.cad c))
  | tup {a : Addr} {xs : List V} {ds : List D} : SqX G.K Kn a xs → RelDs G Kn ds xs → RelD G Kn (.tup ds) (.ref a)
  | wt {a : Addr} {xs : List V} {ds : List D} : SqT G.K Kn a xs → RelDs G Kn ds xs → RelD G Kn (.wt ds) (.ref a)
  | di {a : Addr} {n : Nat} {x y z : Int} : Kn a = some (.lst [.int x, .int y, .int z]) → RelD G Kn (.di a n) (.ref a)
  | lst {a : Addr} {xs : List V} {ds : List D} : Kn a = some (.lst xs) → RelDs G Kn ds xs → RelD G Kn (.lst ds) (.ref a)
  /-- keys that are ints or texts -/
  | dctK {a : Addr} {o : Obj} {kvs : List (Key × V)} {ks vs : List D} : Kn a = some (.frz o (.dK kvs)) → RelDs G Kn ks (kvs.map fun p => kV p.1) → RelDs G Kn vs (kvs.map Prod.snd) → RelD G Kn (.dct ks vs) (.ref a)
  /-- keys that are tuples -/
  | dctN {a : Addr} {o : Obj} {xs : List (NestedKey × Addr × V)} {ks vs : List D} : Kn a = some (.frz o (DnO G.P G.w a xs)) → RelDs G Kn ks (xs.map fun p => V.ref p.2.1) → nks ks = some (xs.map (·.1)) → RelDs G Kn vs (xs.map (·.2.2)) → xs ≠ [] → RelD G Kn (.dct ks vs) (.ref a)
  | ins {a dx : Addr} {c : Nat} {xs : List (Option V)} {fs : List D} : Kn a = some (SlX.SlO a (G.cad c) dx xs) → Kn dx = some (.xd []) → RelFs G Kn fs xs → RelD G Kn (.ins c fs) (.ref a)
inductive RelDs (G : Gx) (Kn : Hp) : List D → List V → Prop
  | nil : RelDs G Kn [] []
  | cons {d : D} {v : V} {ds : List D} {vs : List V} : RelD G Kn d v → RelDs G Kn ds vs → RelDs G Kn (d :: ds) (v :: vs)
/-- the fields of an instance; one that is not yet set is .wt [] -/
inductive RelFs (G : Gx) (Kn : Hp) : List D → List (Option V) → Prop
  | nil : RelFs G Kn [] []
  | cons {d : D} {v : V} {ds : List D} {vs : List (Option V)} : RelD G Kn d v → RelFs G Kn ds vs → RelFs G Kn (d :: ds) (some v :: vs)
  | hole {ds : List D} {vs : List (Option V)} : RelFs G Kn ds vs → RelFs G Kn (.wt [] :: ds) (none :: vs)
end

abbrev Ex := Evl.Ex

mutual
theorem RelD.mono {G : Gx} {Kn Kn' : Hp} (e : Ex Kn Kn') : ∀ {d : D} {v : V}, RelD G Kn d v → RelD G Kn' d v
  | _, _, .non => .non
  | _, _, .bl b => .bl b
  | _, _, .int i => .int i
  | _, _, .str x => .str x
  | _, _, .ty n => .ty n
  | _, _, .cl c => .cl c
  | _, _, .tup h r => .tup (ex_x e h) (RelDs.mono e r)
  | _, _, .wt h r => .wt (Evl.ex_t e h) (RelDs.mono e r)
  | _, _, .di h => .di (e _ _ h)
  | _, _, .lst h r => .lst (e _ _ h) (RelDs.mono e r)
  | _, _, .dctK h r q => .dctK (e _ _ h) (RelDs.mono e r) (RelDs.mono e q)
  | _, _, .dctN h r k q n => .dctN (e _ _ h) (RelDs.mono e r) k (RelDs.mono e q) n
  | _, _, .ins h g r => .ins (e _ _ h) (e _ _ g) (RelFs.mono e r)
theorem RelDs.mono {G : Gx} {Kn Kn' : Hp} (e : Ex Kn Kn') : ∀ {ds : List D} {vs : List V}, RelDs G Kn ds vs → RelDs G Kn' ds vs
  | _, _, .nil => .nil
  | _, _, .cons h r => .cons (RelD.mono e h) (RelDs.mono e r)
theorem RelFs.mono {G : Gx} {Kn Kn' : Hp} (e : Ex Kn Kn') : ∀ {ds : List D} {vs : List (Option V)}, RelFs G Kn ds vs → RelFs G Kn' ds vs
  | _, _, .nil => .nil
  | _, _, .cons h r => .cons (RelD.mono e h) (RelFs.mono e r)
  | _, _, .hole r => .hole (RelFs.mono e r)
end
def isSet : D → Bool
  | .wt _ => false
  | _ => true
theorem RelFs.get {G : Gx} {Kn : Hp} : ∀ {ds : List D} {vs : List (Option V)} {i : Nat} {d : D}, RelFs G Kn ds vs → ds[i]? = some d → isSet d = true → ∃ v, vs[i]? = some (some v) ∧ RelD G Kn d v
  | _, _, _, _, .nil, e, _ => by simp at e
  | _, _, 0, _, .cons h _, e, _ => by simp at e; subst e; exact ⟨_, rfl, h⟩
  | _, _, 0, _, .hole _, e, s => by simp at e; subst e; simp [isSet] at s
  | _, _, i + 1, _, .cons _ r, e, s => by
    obtain ⟨u, h1, h2⟩ := RelFs.get (i := i) r (by simpa using e) s
    exact ⟨u, by simpa using h1, h2⟩
  | _, _, i + 1, _, .hole r, e, s => by
    obtain ⟨u, h1, h2⟩ := RelFs.get (i := i) r (by simpa using e) s
    exact ⟨u, by simpa using h1, h2⟩
theorem RelFs.length {G : Gx} {Kn : Hp} : ∀ {ds : List D} {vs : List (Option V)}, RelFs G Kn ds vs → ds.length = vs.length
  | _, _, .nil => rfl
  | _, _, .cons _ r => by simp [RelFs.length r]
  | _, _, .hole r => by simp [RelFs.length r]
theorem RelFs.holes {G : Gx} {Kn : Hp} : ∀ n : Nat, RelFs G Kn (List.replicate n (.wt [])) (List.replicate n none)
  | 0 => .nil
  | n + 1 => .hole (RelFs.holes n)
theorem RelFs.append {G : Gx} {Kn : Hp} : ∀ {ds es : List D} {vs us : List (Option V)}, RelFs G Kn ds vs → RelFs G Kn es us → RelFs G Kn (ds ++ es) (vs ++ us)
  | _, _, _, _, .nil, s => s
  | _, _, _, _, .cons h r, s => .cons h (RelFs.append r s)
  | _, _, _, _, .hole r, s => .hole (RelFs.append r s)
theorem RelFs.set {G : Gx} {Kn : Hp} {d : D} {v : V} (rd : RelD G Kn d v) : ∀ {ds : List D} {vs : List (Option V)} (i : Nat), RelFs G Kn ds vs → RelFs G Kn (ds.set i d) (vs.set i (some v))
  | _, _, _, .nil => .nil
  | _, _, 0, .cons _ r => .cons rd r
  | _, _, 0, .hole r => .cons rd r
  | _, _, i + 1, .cons h r => .cons h (RelFs.set rd i r)
  | _, _, i + 1, .hole r => .hole (RelFs.set rd i r)
def putF (i : Nat) (d : D) (fs : List D) : List D := (fs ++ List.replicate (i + 1 - fs.length) (D.wt [])).set i d
theorem RelFs.put {G : Gx} {Kn : Hp} {d : D} {v : V} {fs : List D} {xs : List (Option V)} (i : Nat) (r : RelFs G Kn fs xs) (rd : RelD G Kn d v) : RelFs G Kn (putF i d fs) (SlX.putS i v xs) := by
  unfold putF SlX.putS
  rw [r.length]
  exact RelFs.set rd i (r.append (RelFs.holes _))
theorem putF_ne {i : Nat} {d : D} {fs : List D} : putF i d fs ≠ [] := fun z => by
  have h : (putF i d fs).length = 0 := by rw [z]; rfl
  unfold putF at h
  rw [List.length_set, List.length_append, List.length_replicate] at h
  omega
section
variable {G : Gx} {Kn : Hp}
theorem RelDs.length : ∀ {ds : List D} {vs : List V}, RelDs G Kn ds vs → ds.length = vs.length
  | _, _, .nil => rfl
  | _, _, .cons _ r => by simp [RelDs.length r]
theorem RelDs.append : ∀ {ds es : List D} {vs us : List V}, RelDs G Kn ds vs → RelDs G Kn es us → RelDs G Kn (ds ++ es) (vs ++ us)
  | _, _, _, _, .nil, s => s
  | _, _, _, _, .cons h r, s => .cons h (RelDs.append r s)
theorem RelDs.get : ∀ {ds : List D} {vs : List V} {i : Nat} {d : D}, RelDs G Kn ds vs → ds[i]? = some d → ∃ v, vs[i]? = some v ∧ RelD G Kn d v
  | _, _, _, _, .nil, e => by simp at e
  | _, _, 0, _, .cons h _, e => by simp at e; subst e; exact ⟨_, rfl, h⟩
  | _, _, i + 1, _, .cons _ r, e => by
    obtain ⟨u, h1, h2⟩ := RelDs.get (i := i) r (by simpa using e)
    exact ⟨u, by simpa using h1, h2⟩
theorem RelDs.get' : ∀ {ds : List D} {vs : List V} {i : Nat} {v : V}, RelDs G Kn ds vs → vs[i]? = some v → ∃ d, ds[i]? = some d ∧ RelD G Kn d v
  | _, _, _, _, .nil, e => by simp at e
  | _, _, 0, _, .cons h _, e => by simp at e; subst e; exact ⟨_, rfl, h⟩
  | _, _, i + 1, _, .cons _ r, e => by
    obtain ⟨u, h1, h2⟩ := RelDs.get' (i := i) r (by simpa using e)
    exact ⟨u, by simpa using h1, h2⟩
theorem RelDs.take : ∀ {ds : List D} {vs : List V} (n : Nat), RelDs G Kn ds vs → RelDs G Kn (ds.take n) (vs.take n)
  | _, _, 0, _ => .nil
  | _, _, _ + 1, .nil => .nil
  | _, _, n + 1, .cons h r => .cons h (RelDs.take n r)
theorem RelDs.drop : ∀ {ds : List D} {vs : List V} (n : Nat), RelDs G Kn ds vs → RelDs G Kn (ds.drop n) (vs.drop n)
  | _, _, 0, r => r
  | _, _, _ + 1, .nil => .nil
  | _, _, n + 1, .cons _ r => RelDs.drop n r
end

/-- a step forth: all that stands stands; what is known grows, by new objects alone -/
structure Step (H Kn H' Kn' : Hp) : Prop where
  ex : Ex H H'
  kx : Ex Kn Kn'
  sub : Ex Kn' H'
  fr : ∀ a o, H a = some o → Kn' a = Kn a
theorem Step.refl {H Kn : Hp} (e : Ex Kn H) : Step H Kn H Kn := ⟨Evl.Ex.refl _, Evl.Ex.refl _, e, fun _ _ _ => rfl⟩
theorem Step.trans {H Kn H1 K1 H2 K2 : Hp} (a : Step H Kn H1 K1) (b : Step H1 K1 H2 K2) : Step H Kn H2 K2 :=
  ⟨a.ex.trans b.ex, a.kx.trans b.kx, b.sub, fun x o h => (b.fr x o (a.ex x o h)).trans (a.fr x o h)⟩
/-- a new object, known from now on -/
theorem Step.new {H Kn : Hp} {p : Addr} {o : HO} (e : Ex Kn H) (hp : H p = none) : Step H Kn (upd H p o) (upd Kn p o) := by
  have hk : Kn p = none := by
    cases q : Kn p with
    | none => rfl
    | some u => rw [e p u q] at hp; cases hp
  refine ⟨Evl.Ex.new hp, Evl.Ex.new hk, fun a u h => ?_, fun a u h => upd_ne (ne_of_none h hp)⟩
  by_cases ha : a = p
  · subst ha; rw [upd_same] at h; rw [upd_same]; exact h
  · rw [upd_ne ha] at h; rw [upd_ne ha]; exact e a u h
/-- a new object, one's own (not known) -/
theorem Step.own {H Kn : Hp} {p : Addr} {o : HO} (e : Ex Kn H) (hp : H p = none) : Step H Kn (upd H p o) Kn :=
  ⟨Evl.Ex.new hp, Evl.Ex.refl _, fun a u h => by rw [upd_ne (fun z => by subst z; rw [e a u h] at hp; cases hp)]; exact e a u h, fun _ _ _ => rfl⟩
theorem known_none {H Kn : Hp} {p : Addr} (e : Ex Kn H) (hp : H p = none) : Kn p = none := by
  cases q : Kn p with
  | none => rfl
  | some u => rw [e p u q] at hp; cases hp

abbrev Env := List (Option D)
structure RelE (G : Gx) (Kn : Hp) (env : Env) (σ : St) : Prop where
  len : env.length = σ.length
  at_ : ∀ (i : Nat) (d : D), env[i]? = some (some d) → ∃ v, σ[i]? = some (some v) ∧ RelD G Kn d v
theorem RelE.mono {G : Gx} {Kn Kn' : Hp} {env : Env} {σ : St} (e : Ex Kn Kn') (r : RelE G Kn env σ) : RelE G Kn' env σ := ⟨r.len, fun i d h => let ⟨v, a, b⟩ := r.at_ i d h; ⟨v, a, b.mono e⟩⟩

/-- evaluates to d -/
def tD (G : Gx) (env : Env) (d : D) : TE := fun σ H Q => ∃ Kn, Ex Kn H ∧ RelE G Kn env σ ∧ ∀ v H' Kn', Step H Kn H' Kn' → RelD G Kn' d v → Q v H'
def tTst (G : Gx) (env : Env) (b : Bool) : TT := fun σ H Q => ∃ Kn, Ex Kn H ∧ RelE G Kn env σ ∧ ∀ H' Kn', Step H Kn H' Kn' → Q b H'
def tDs (G : Gx) (env : Env) (ds : List D) : TA := fun σ H Q => ∃ Kn, Ex Kn H ∧ RelE G Kn env σ ∧ ∀ vs H' Kn', Step H Kn H' Kn' → RelDs G Kn' ds vs → Q vs H'
/-- a new list, a new dict, one's own: its items are known, the object is not -/
inductive Own (G : Gx) (Kn H : Hp) (p : Addr) : D → Prop
  | lst {xs : List V} {ds : List D} : H p = some (.lst xs) → RelDs G Kn ds xs → Own G Kn H p (.lst ds)
  | dctK {kvs : List (Key × V)} {ks vs : List D} : H p = some (.dK kvs) → RelDs G Kn ks (kvs.map fun p => kV p.1) → RelDs G Kn vs (kvs.map Prod.snd) → Own G Kn H p (.dct ks vs)
  | dctN {xs : List (NestedKey × Addr × V)} {ks vs : List D} : H p = some (DnO G.P G.w p xs) → RelDs G Kn ks (xs.map fun q => V.ref q.2.1) → nks ks = some (xs.map (·.1)) → RelDs G Kn vs (xs.map (·.2.2)) → Own G Kn H p (.dct ks vs)
  | di {n : Nat} {x y z : Int} : H p = some (.lst [.int x, .int y, .int z]) → 0 ≤ x → 0 ≤ z → Own G Kn H p (.di p n)
def tF (G : Gx) (env : Env) (d : D) : TE := fun σ H Q => ∃ Kn, Ex Kn H ∧ RelE G Kn env σ ∧ ∀ p H' Kn', Step H Kn H' Kn' → H p = none → Kn' p = none → Own G Kn' H' p d → Q (.ref p) H'

section
variable {X : Cx} {e a b c : Expr} {t t' ta tb : TE} {G : Gx} {env : Env} {pos : Pos}
theorem PE.weak (h : PE X e t) (w : ∀ σ H Q, t' σ H Q → t σ H Q) : PE X e t' := ⟨fun pins s σ H Q I q => h.run pins s σ H Q I (w σ H Q q)⟩
theorem PT.weak {t t' : TT} (h : PT X e t) (w : ∀ σ H Q, t' σ H Q → t σ H Q) : PT X e t' := ⟨fun pins s σ H Q I q => h.run pins s σ H Q I (w σ H Q q)⟩
theorem PW.weak {t t' : TT} (h : PW X e t) (w : ∀ σ H Q, t' σ H Q → t σ H Q) : PW X e t' := ⟨fun wh pins s σ H Q I q => h.run wh pins s σ H Q I (w σ H Q q)⟩
theorem PA.weak {es : List Expr} {t t' : TA} (h : PA X es t) (w : ∀ σ H Q, t' σ H Q → t σ H Q) : PA X es t' := ⟨fun po pins s σ H Q I q => h.run po pins s σ H Q I (w σ H Q q)⟩
theorem PS.weak {st : Stmt} {t t' : TS} (h : PS X st t) (w : ∀ D σ H, t' D σ H → t D σ H) : PS X st t' := ⟨fun pins s σ H Q I q => h.run pins s σ H Q I (w Q σ H q)⟩
theorem PSs.weak {st : List Stmt} {t t' : TS} (h : PSs X st t) (w : ∀ D σ H, t' D σ H → t D σ H) : PSs X st t' := ⟨fun pins s σ H Q I q => h.run pins s σ H Q I (w Q σ H q)⟩

/-- one's own, given away: known from now on -/
theorem Own.give {pins : List (Addr × Obj)} {σ : St} {s : Shared} {Kn H : Hp} {p : Addr} {d : D} (I : Inv X pins σ H s) (o : Own G Kn H p d) (e : Ex Kn H) (hk : Kn p = none) :
    ∃ H' Kn', Inv X pins σ H' s ∧ Ex Kn Kn' ∧ Ex Kn' H' ∧ (∀ a, a ≠ p → Kn' a = Kn a) ∧ (∀ a, a ≠ p → H' a = H a) ∧ RelD G Kn' d (.ref p) := by
  have lk : ∀ u, H p = some u → Mut (some u) → ∃ od, Inv X pins σ (upd H p (.frz od u)) s ∧ Ex Kn (upd Kn p (.frz od u)) ∧ Ex (upd Kn p (.frz od u)) (upd H p (.frz od u)) := fun u hu mu => by
    obtain ⟨od, J⟩ := I.lock hu mu
    refine ⟨od, J, Evl.Ex.new hk, fun a x h => ?_⟩
    by_cases ha : a = p
    · subst ha; rw [upd_same] at h; rw [upd_same]; exact h
    · rw [upd_ne ha] at h; rw [upd_ne ha]; exact e a x h
  cases o with
  | lst h r =>
    refine ⟨H, upd Kn p _, I, Evl.Ex.new hk, fun a x hx => ?_, fun a ha => upd_ne ha, fun _ _ => rfl, .lst upd_same (r.mono (Evl.Ex.new hk))⟩
    by_cases ha : a = p
    · subst ha; rw [upd_same] at hx; rw [h]; exact hx
    · rw [upd_ne ha] at hx; exact e a x hx
  | @di n x0 y0 z0 h _ _ =>
    refine ⟨H, upd Kn p (.lst [.int x0, .int y0, .int z0]), I, Evl.Ex.new hk, fun a x hx => ?_, fun a ha => upd_ne ha, fun _ _ => rfl, .di upd_same⟩
    by_cases ha : a = p
    · subst ha; rw [upd_same] at hx; rw [h]; exact hx
    · rw [upd_ne ha] at hx; exact e a x hx
  | dctK h r q => obtain ⟨od, J, h1, h2⟩ := lk _ h trivial; exact ⟨_, _, J, h1, h2, fun a ha => upd_ne ha, fun a ha => upd_ne ha, .dctK upd_same (r.mono h1) (q.mono h1)⟩
  | @dctN xs ks vs h r k q =>
    cases xs with
    | cons p xs => obtain ⟨od, J, h1, h2⟩ := lk _ h trivial; exact ⟨_, _, J, h1, h2, fun a ha => upd_ne ha, fun a ha => upd_ne ha, .dctN upd_same (r.mono h1) k (q.mono h1) (by simp)⟩
    | nil =>
      obtain ⟨⟨hs, ys, hp, o, es, ep, ho, hx, hd, hes, _, _⟩, _, _⟩ := I.hok p _ h
      cases hp
      have he : es = #[] := by apply Array.toList_inj.mp; simpa using hes
      subst he
      have J0 : Inv X pins σ (upd H p (.dK [])) s := d_write (h' := s.heap) (t' := s.toks) I (by rw [h]; trivial) (Heap.SameBut.refl _ _) ⟨o, ho⟩ ⟨Nat.zero_le _, hs, [], .nil, o, #[], ep, ho, hx, hd, by intro e he; simp at he, .nil, .nil⟩
      have ex0 : Ex Kn (upd H p (.dK [])) := fun a x hx => by rw [upd_ne (fun z => by rw [z, hk] at hx; cases hx)]; exact e a x hx
      obtain ⟨od, J⟩ := J0.lock upd_same trivial
      have eu : upd (upd H p (.dK [])) p (.frz od (.dK [])) = upd H p (.frz od (.dK [])) := by
        funext a
        by_cases ha : a = p
        · subst ha; rw [upd_same, upd_same]
        · rw [upd_ne ha, upd_ne ha, upd_ne ha]
      rw [eu] at J
      cases r
      cases q
      refine ⟨_, upd Kn p (.frz od (.dK [])), J, Evl.Ex.new hk, fun a x h => ?_, fun a ha => upd_ne ha, fun a ha => upd_ne ha, .dctK (kvs := []) upd_same .nil .nil⟩
      by_cases ha : a = p
      · subst ha; rw [upd_same] at h; rw [upd_same]; exact h
      · rw [upd_ne ha] at h; rw [upd_ne ha]; exact e a x h
theorem tF_tD {d : D} (h : PE X e (tF G env d)) : PE X e (tD G env d) := by
  refine ⟨fun pins s σ H Q I ⟨Kn, ex, re, q⟩ => ?_⟩
  refine thn (h.run pins s σ H (fun v H' => ∃ p Kn', v = .ref p ∧ Step H Kn H' Kn' ∧ H p = none ∧ Kn' p = none ∧ Own G Kn' H' p d) I ⟨Kn, ex, re, fun p H' Kn' s hp hk o => ⟨p, Kn', rfl, s, hp, hk, o⟩⟩) fun u s1 ⟨v, H1, I1, r1, p, K1, ev, st, hp, hk, o⟩ => ?_
  obtain ⟨H2, K2, J, a1, a2, a3, a4, r⟩ := o.give I1 st.sub hk
  refine ⟨.ref p, H2, J, by rw [← ev]; exact r1, q _ H2 K2 ⟨fun x y hx => ?_, st.kx.trans a1, a2, fun x y hx => (a3 x (ne_of_none hx hp)).trans (st.fr x y hx)⟩ r⟩
  rw [a4 x (ne_of_none hx hp)]
  exact st.ex x y hx

theorem pd_c {d : D} {v : V} (h : PE X e (tC v)) (r : ∀ Kn, RelD G Kn d v) : PE X e (tD G env d) := PE.weak h fun σ H Q ⟨Kn, ex, re, q⟩ => q v H Kn (Step.refl ex) (r Kn)
theorem pd_int {i : Int} {j} : PE X (.Constant (.int i) j pos) (tD G env (.int i)) := pd_c pe_int fun _ => .int i
theorem pd_bl {i : Bool} {j} : PE X (.Constant (.bool i) j pos) (tD G env (.bl i)) := pd_c pe_bl fun _ => .bl i
theorem pd_non {j} : PE X (.Constant .none j pos) (tD G env .non) := pd_c pe_non fun _ => .non
theorem pd_str {x : Str} {j} : PE X (.Constant (.str x) j pos) (tD G env (.str x)) := pd_c pe_str fun _ => .str x
theorem pd_var {i : Nat} {x : Str} {d : D} (hN : X.N[i]? = some x) (hv : Vis X.env.scope x) (he : env[i]? = some (some d)) (hd : (x == ("__debug__" : Str)) = false) (hcd : (x == ("__classdict__" : Str)) = false) : PE X (.Name x pos) (tD G env d) :=
  PE.weak (pe_var hN hv hd hcd) fun σ H Q ⟨Kn, ex, re, q⟩ => by
    obtain ⟨v, h1, h2⟩ := re.at_ i d he
    exact ⟨v, h1, q v H Kn (Step.refl ex) h2⟩

/-- an operation on values, by data -/
def R2D (G : Gx) (r : R2) (x y z : D) : Prop := ∀ Kn H v u Q, Ex Kn H → RelD G Kn x v → RelD G Kn y u → (∀ w H' Kn', Step H Kn H' Kn' → RelD G Kn' z w → Q w H') → r v u H Q
def R1D (G : Gx) (r : V → Hp → VK → Prop) (x z : D) : Prop := ∀ Kn H v Q, Ex Kn H → RelD G Kn x v → (∀ w H' Kn', Step H Kn H' Kn' → RelD G Kn' z w → Q w H') → r v H Q
def RCD (G : Gx) (r : List V → Hp → VK → Prop) (xs : List D) (z : D) : Prop := ∀ Kn H vs Q, Ex Kn H → RelDs G Kn xs vs → (∀ w H' Kn', Step H Kn H' Kn' → RelD G Kn' z w → Q w H') → r vs H Q
/-- .. with a new object of one's own -/
def R2F (G : Gx) (r : R2) (x y z : D) : Prop := ∀ Kn H v u Q, Ex Kn H → RelD G Kn x v → RelD G Kn y u → (∀ p H' Kn', Step H Kn H' Kn' → H p = none → Kn' p = none → Own G Kn' H' p z → Q (.ref p) H') → r v u H Q
def RCF (G : Gx) (r : List V → Hp → VK → Prop) (xs : List D) (z : D) : Prop := ∀ Kn H vs Q, Ex Kn H → RelDs G Kn xs vs → (∀ p H' Kn', Step H Kn H' Kn' → H p = none → Kn' p = none → Own G Kn' H' p z → Q (.ref p) H') → r vs H Q

theorem two_D {x y : D} {σ : St} {H : Hp} {Q : V → V → Hp → Prop} (h : ∃ Kn, Ex Kn H ∧ RelE G Kn env σ ∧ ∀ v u H' Kn', Step H Kn H' Kn' → RelD G Kn' x v → RelD G Kn' y u → Q v u H') :
    tD G env x σ H fun v H1 => tD G env y σ H1 fun u H2 => Q v u H2 := by
  obtain ⟨Kn, ex, re, q⟩ := h
  exact ⟨Kn, ex, re, fun v H1 K1 s1 r1 => ⟨K1, s1.sub, re.mono s1.kx, fun u H2 K2 s2 r2 => q v u H2 K2 (s1.trans s2) (r1.mono s2.kx) r2⟩⟩
theorem pd_bin {op : Operator} {r : R2} {x y z : D} (ho : OpR X (binaryOp op) r) (ha : PE X a (tD G env x)) (hb : PE X b (tD G env y)) (hr : R2D G r x y z) : PE X (.BinOp a op b pos) (tD G env z) :=
  PE.weak (pe_op ho ha hb) fun σ H Q ⟨Kn, ex, re, q⟩ => two_D ⟨Kn, ex, re, fun v u H2 K2 s r1 r2 => hr K2 H2 v u Q s.sub r1 r2 fun w H3 K3 s3 r3 => q w H3 K3 (s.trans s3) r3⟩
theorem fresh_step {H Kn H' Kn' : Hp} {p : Addr} (s : Step H Kn H' Kn') (h : H' p = none) : H p = none := Evl.fresh_back s.ex h
theorem pf_bin {op : Operator} {r : R2} {x y z : D} (ho : OpR X (binaryOp op) r) (ha : PE X a (tD G env x)) (hb : PE X b (tD G env y)) (hr : R2F G r x y z) : PE X (.BinOp a op b pos) (tF G env z) :=
  PE.weak (pe_op ho ha hb) fun σ H Q ⟨Kn, ex, re, q⟩ => two_D ⟨Kn, ex, re, fun v u H2 K2 s r1 r2 => hr K2 H2 v u Q s.sub r1 r2 fun p H3 K3 s3 hp hk o => q p H3 K3 (s.trans s3) (fresh_step s hp) hk o⟩
theorem pd_cmp {op : CmpOp} {r : R2} {x y z : D} (ho : OpR X (compareOp op) r) (ha : PE X a (tD G env x)) (hb : PE X b (tD G env y)) (hr : R2D G r x y z) (hm : behindInMarks op b = false) : PE X (.Compare a [op] [b] pos) (tD G env z) :=
  PE.weak (pe_cmpR ho ha hb hm) fun σ H Q ⟨Kn, ex, re, q⟩ => two_D ⟨Kn, ex, re, fun v u H2 K2 s r1 r2 => hr K2 H2 v u Q s.sub r1 r2 fun w H3 K3 s3 r3 => q w H3 K3 (s.trans s3) r3⟩
theorem pd_un {op : UnaryOp} {r : V → Hp → VK → Prop} {x z : D} (ho : UnR X (unaryOp op) r) (ha : PE X a (tD G env x)) (hr : R1D G r x z) : PE X (.UnaryOp op a pos) (tD G env z) :=
  PE.weak (pe_un ho ha) fun σ H Q ⟨Kn, ex, re, q⟩ => ⟨Kn, ex, re, fun v H1 K1 s1 r1 => hr K1 H1 v Q s1.sub r1 fun w H3 K3 s3 r3 => q w H3 K3 (s1.trans s3) r3⟩
end
end Ev
set_option maxHeartbeats 4000000
namespace Ev
open PySem PySem.Spec PyProof.Rows L2

/-! ### operations on values, told by data -/
def r2 (G : Gx) (x y z : D) : R2 := fun v u H Q => ∃ Kn, Ex Kn H ∧ RelD G Kn x v ∧ RelD G Kn y u ∧ ∀ w H' Kn', Step H Kn H' Kn' → RelD G Kn' z w → Q w H'
def r2F (G : Gx) (x y z : D) : R2 := fun v u H Q => ∃ Kn, Ex Kn H ∧ RelD G Kn x v ∧ RelD G Kn y u ∧ ∀ p H' Kn', Step H Kn H' Kn' → H p = none → Kn' p = none → Own G Kn' H' p z → Q (.ref p) H'
def r1 (G : Gx) (x z : D) : V → Hp → VK → Prop := fun v H Q => ∃ Kn, Ex Kn H ∧ RelD G Kn x v ∧ ∀ w H' Kn', Step H Kn H' Kn' → RelD G Kn' z w → Q w H'
def rc (G : Gx) (xs : List D) (z : D) : List V → Hp → VK → Prop := fun vs H Q => ∃ Kn, Ex Kn H ∧ RelDs G Kn xs vs ∧ ∀ w H' Kn', Step H Kn H' Kn' → RelD G Kn' z w → Q w H'
def rcF (G : Gx) (xs : List D) (z : D) : List V → Hp → VK → Prop := fun vs H Q => ∃ Kn, Ex Kn H ∧ RelDs G Kn xs vs ∧ ∀ p H' Kn', Step H Kn H' Kn' → H p = none → Kn' p = none → Own G Kn' H' p z → Q (.ref p) H'
section
variable {X : Cx} {G : Gx}
theorem OpR.byD {f : Value → Value → Sem Value} {r : R2} {x y z : D} (h : OpR X f r) (hr : R2D G r x y z) : OpR X f (r2 G x y z) :=
  fun pins s σ H a b v u Q I ra rb ⟨Kn, ex, rx, ry, q⟩ => h pins s σ H a b v u Q I ra rb (hr Kn H a b Q ex rx ry q)
theorem OpR.byF {f : Value → Value → Sem Value} {r : R2} {x y z : D} (h : OpR X f r) (hr : R2F G r x y z) : OpR X f (r2F G x y z) :=
  fun pins s σ H a b v u Q I ra rb ⟨Kn, ex, rx, ry, q⟩ => h pins s σ H a b v u Q I ra rb (hr Kn H a b Q ex rx ry q)
theorem UnR.byD {f : Value → Sem Value} {r : V → Hp → VK → Prop} {x z : D} (h : UnR X f r) (hr : R1D G r x z) : UnR X f (r1 G x z) :=
  fun pins s σ H a v Q I ra ⟨Kn, ex, rx, q⟩ => h pins s σ H a v Q I ra (hr Kn H a Q ex rx q)
theorem CallR.byD {f : Value} {r : List V → Hp → VK → Prop} {xs : List D} {z : D} (h : CallR X f r) (hr : RCD G r xs z) : CallR X f (rc G xs z) :=
  fun pins s σ H a v Q I ra ⟨Kn, ex, rx, q⟩ => h pins s σ H a v Q I ra (hr Kn H a Q ex rx q)
theorem CallR.byF {f : Value} {r : List V → Hp → VK → Prop} {xs : List D} {z : D} (h : CallR X f r) (hr : RCF G r xs z) : CallR X f (rcF G xs z) :=
  fun pins s σ H a v Q I ra ⟨Kn, ex, rx, q⟩ => h pins s σ H a v Q I ra (hr Kn H a Q ex rx q)
theorem r2_self {x y z : D} : R2D G (r2 G x y z) x y z := fun Kn H v u Q ex r1 r2 q => ⟨Kn, ex, r1, r2, q⟩
theorem r2F_self {x y z : D} : R2F G (r2F G x y z) x y z := fun Kn H v u Q ex r1 r2 q => ⟨Kn, ex, r1, r2, q⟩
theorem r1_self {x z : D} : R1D G (r1 G x z) x z := fun Kn H v Q ex r1 q => ⟨Kn, ex, r1, q⟩
theorem rc_self {xs : List D} {z : D} : RCD G (rc G xs z) xs z := fun Kn H v Q ex r1 q => ⟨Kn, ex, r1, q⟩
theorem rcF_self {xs : List D} {z : D} : RCF G (rcF G xs z) xs z := fun Kn H v Q ex r1 q => ⟨Kn, ex, r1, q⟩
end

section
variable {X : Cx} {e a b c : Expr} {es : List Expr} {G : Gx} {env : Env} {pos : Pos}
theorem pd_op {op : Operator} {x y z : D} (ho : OpR X (binaryOp op) (r2 G x y z)) (ha : PE X a (tD G env x)) (hb : PE X b (tD G env y)) : PE X (.BinOp a op b pos) (tD G env z) := pd_bin ho ha hb r2_self
theorem pf_op {op : Operator} {x y z : D} (ho : OpR X (binaryOp op) (r2F G x y z)) (ha : PE X a (tD G env x)) (hb : PE X b (tD G env y)) : PE X (.BinOp a op b pos) (tF G env z) := pf_bin ho ha hb r2F_self
theorem pd_cm {op : CmpOp} {x y z : D} (ho : OpR X (compareOp op) (r2 G x y z)) (ha : PE X a (tD G env x)) (hb : PE X b (tD G env y)) (hm : behindInMarks op b = false) : PE X (.Compare a [op] [b] pos) (tD G env z) := pd_cmp ho ha hb r2_self hm
theorem pd_u {op : UnaryOp} {x z : D} (ho : UnR X (unaryOp op) (r1 G x z)) (ha : PE X a (tD G env x)) : PE X (.UnaryOp op a pos) (tD G env z) := pd_un ho ha r1_self

/-! ### tests, and, or, not, if -/
theorem RelD.bool {Kn : Hp} {v : V} {k : Bool} (r : RelD G Kn (.bl k) v) : v = .bl k := by cases r; rfl
theorem tD_B {k : Bool} (σ : St) (H : Hp) (Q : Bool → Hp → Prop) (h : tTst G env k σ H Q) : tB (tD G env (.bl k)) σ H Q := by
  obtain ⟨Kn, ex, re, q⟩ := h
  exact ⟨Kn, ex, re, fun v H' K' s r => ⟨k, r.bool, q H' K' s⟩⟩
theorem pdt_val {k : Bool} (h : PE X e (tD G env (.bl k))) (he : ∀ whole, isTrue e X.env whole = (do let v ← whole; standAt e.pos; holding [v] (truthy v))) : PT X e (tTst G env k) := PT.weak (pt_val h he) tD_B
theorem pdt_not {k : Bool} (h : PT X a (tTst G env k)) : PT X (.UnaryOp .Not a pos) (tTst G env (!k)) := PT.weak (pt_not h) fun σ H Q q => q
theorem pdt_cmp {op : CmpOp} {x y : D} {k : Bool} (ho : OpR X (compareOp op) (r2 G x y (.bl k))) (ha : PE X a (tD G env x)) (hb : PE X b (tD G env y)) (hm : behindInMarks op b = false) : PT X (.Compare a [op] [b] pos) (tTst G env k) :=
  PT.weak (pt_cmpR ho ha hb hm) fun σ H Q ⟨Kn, ex, re, q⟩ => two_D ⟨Kn, ex, re, fun v u H2 K2 s r1 r2 => ⟨K2, s.sub, r1, r2, fun w H3 K3 s3 r3 => ⟨k, r3.bool, q H3 K3 (s.trans s3)⟩⟩⟩
theorem pdw_and1 {k : Bool} (h : PT X a (tTst G env k)) : PW X (.BoolOp .And [a] pos) (tTst G env k) := pw_and1 h
theorem pdw_or1 {k : Bool} (h : PT X a (tTst G env k)) : PW X (.BoolOp .Or [a] pos) (tTst G env k) := pw_or1 h
theorem tTst_then {k : Bool} {σ : St} {H : Hp} {Q : Bool → Hp → Prop} (h : ∃ Kn, Ex Kn H ∧ RelE G Kn env σ ∧ ∀ H' Kn', Step H Kn H' Kn' → RelE G Kn' env σ → Q k H') : tTst G env k σ H Q := by
  obtain ⟨Kn, ex, re, q⟩ := h
  exact ⟨Kn, ex, re, fun H' K' s => q H' K' s (re.mono s.kx)⟩
theorem pdw_andT {k : Bool} {rest : List Expr} (ha : PT X a (tTst G env true)) (hb : PW X (.BoolOp .And (b :: rest) pos) (tTst G env k)) : PW X (.BoolOp .And (a :: b :: rest) pos) (tTst G env k) :=
  PW.weak (pw_and ha hb) fun σ H Q ⟨Kn, ex, re, q⟩ => tTst_then ⟨Kn, ex, re, fun H1 K1 s re1 => iteT ⟨K1, s.sub, re1, fun H2 K2 s2 => q H2 K2 (s.trans s2)⟩⟩
theorem pdw_andF {t : TT} {rest : List Expr} (ha : PT X a (tTst G env false)) (hb : PW X (.BoolOp .And (b :: rest) pos) t) : PW X (.BoolOp .And (a :: b :: rest) pos) (tTst G env false) :=
  PW.weak (pw_and ha hb) fun σ H Q ⟨Kn, ex, re, q⟩ => tTst_then ⟨Kn, ex, re, fun H1 K1 s re1 => iteF (q H1 K1 s)⟩
theorem pdw_orF {k : Bool} {rest : List Expr} (ha : PT X a (tTst G env false)) (hb : PW X (.BoolOp .Or (b :: rest) pos) (tTst G env k)) : PW X (.BoolOp .Or (a :: b :: rest) pos) (tTst G env k) :=
  PW.weak (pw_or ha hb) fun σ H Q ⟨Kn, ex, re, q⟩ => tTst_then ⟨Kn, ex, re, fun H1 K1 s re1 => iteF ⟨K1, s.sub, re1, fun H2 K2 s2 => q H2 K2 (s.trans s2)⟩⟩
theorem pdw_orT {t : TT} {rest : List Expr} (ha : PT X a (tTst G env true)) (hb : PW X (.BoolOp .Or (b :: rest) pos) t) : PW X (.BoolOp .Or (a :: b :: rest) pos) (tTst G env true) :=
  PW.weak (pw_or ha hb) fun σ H Q ⟨Kn, ex, re, q⟩ => tTst_then ⟨Kn, ex, re, fun H1 K1 s re1 => iteT (q H1 K1 s)⟩
/-- what is not reached needs no reading -/
def tNoE : TE := fun _ _ _ => False
def tNoT : TT := fun _ _ _ => False
def tNoS : TS := fun _ _ _ => False
theorem pe_no : PE X e tNoE := ⟨fun _ _ _ _ _ _ h => h.elim⟩
theorem pt_no : PT X e tNoT := ⟨fun _ _ _ _ _ _ h => h.elim⟩
theorem pw_no : PW X e tNoT := ⟨fun _ _ _ _ _ _ _ h => h.elim⟩
theorem ps_no {st : Stmt} : PS X st tNoS := ⟨fun _ _ _ _ _ _ h => h.elim⟩
theorem pss_no {st : List Stmt} : PSs X st tNoS := ⟨fun _ _ _ _ _ _ h => h.elim⟩
theorem pd_one {op} {d : D} (h : PE X a (tD G env d)) : PE X (.BoolOp op [a] pos) (tD G env d) := pe_one h
theorem pd_andT {d : D} {rest : List Expr} (ha : PE X a (tD G env (.bl true))) (hb : PE X (.BoolOp .And (b :: rest) pos) (tD G env d)) : PE X (.BoolOp .And (a :: b :: rest) pos) (tD G env d) :=
  PE.weak (pe_and ha hb) fun σ H Q ⟨Kn, ex, re, q⟩ => ⟨Kn, ex, re, fun v H1 K1 s r => ⟨true, r.bool, iteT ⟨K1, s.sub, re.mono s.kx, fun w H2 K2 s2 r2 => q w H2 K2 (s.trans s2) r2⟩⟩⟩
theorem pd_andF {rest : List Expr} (ha : PE X a (tD G env (.bl false))) : PE X (.BoolOp .And (a :: b :: rest) pos) (tD G env (.bl false)) :=
  PE.weak (pe_and ha pe_no) fun σ H Q ⟨Kn, ex, re, q⟩ => ⟨Kn, ex, re, fun v H1 K1 s r => ⟨false, r.bool, iteF (q _ H1 K1 s (.bl false))⟩⟩
theorem pd_orF {d : D} {rest : List Expr} (ha : PE X a (tD G env (.bl false))) (hb : PE X (.BoolOp .Or (b :: rest) pos) (tD G env d)) : PE X (.BoolOp .Or (a :: b :: rest) pos) (tD G env d) :=
  PE.weak (pe_or ha hb) fun σ H Q ⟨Kn, ex, re, q⟩ => ⟨Kn, ex, re, fun v H1 K1 s r => ⟨false, r.bool, iteF ⟨K1, s.sub, re.mono s.kx, fun w H2 K2 s2 r2 => q w H2 K2 (s.trans s2) r2⟩⟩⟩
theorem pd_orT {rest : List Expr} (ha : PE X a (tD G env (.bl true))) : PE X (.BoolOp .Or (a :: b :: rest) pos) (tD G env (.bl true)) :=
  PE.weak (pe_or ha pe_no) fun σ H Q ⟨Kn, ex, re, q⟩ => ⟨Kn, ex, re, fun v H1 K1 s r => ⟨true, r.bool, iteT (q _ H1 K1 s (.bl true))⟩⟩
theorem pd_ifT {d : D} (hc : PT X c (tTst G env true)) (ha : PE X a (tD G env d)) : PE X (.IfExp c a b pos) (tD G env d) :=
  PE.weak (pe_ifExp hc ha pe_no) fun σ H Q ⟨Kn, ex, re, q⟩ => tTst_then ⟨Kn, ex, re, fun H1 K1 s re1 => iteT ⟨K1, s.sub, re1, fun w H2 K2 s2 r2 => q w H2 K2 (s.trans s2) r2⟩⟩
theorem pd_ifF {d : D} (hc : PT X c (tTst G env false)) (hb : PE X b (tD G env d)) : PE X (.IfExp c a b pos) (tD G env d) :=
  PE.weak (pe_ifExp hc pe_no hb) fun σ H Q ⟨Kn, ex, re, q⟩ => tTst_then ⟨Kn, ex, re, fun H1 K1 s re1 => iteF ⟨K1, s.sub, re1, fun w H2 K2 s2 r2 => q w H2 K2 (s.trans s2) r2⟩⟩
/-- a < b < c -/
theorem pd_chainT {op op' : CmpOp} {x y z d : D} (ho : OpR X (compareOp op) (r2 G x y (.bl true))) (ho' : OpR X (compareOp op') (r2 G y z d)) (ha : PE X a (tD G env x)) (hb : PE X b (tD G env y)) (hc : PE X c (tD G env z)) (hm : lastMarks [op, op'] [b, c] = false) : PE X (.Compare a [op, op'] [b, c] pos) (tD G env d) :=
  PE.weak (pe_chain ho ho' ha hb hc (hm := hm)) fun σ H Q ⟨Kn, ex, re, q⟩ => two_D ⟨Kn, ex, re, fun v u H2 K2 s r1 r2 => ⟨K2, s.sub, r1, r2, fun w H3 K3 s3 r3 => ⟨true, r3.bool, iteT ⟨K3, s3.sub, re.mono (s.trans s3).kx, fun z4 H4 K4 s4 r4 => ⟨K4, s4.sub, r2.mono (s3.trans s4).kx, r4, fun w5 H5 K5 s5 r5 => q w5 H5 K5 (((s.trans s3).trans s4).trans s5) r5⟩⟩⟩⟩⟩
theorem pd_chainF {op op' : CmpOp} {x y : D} {r : R2} (ho : OpR X (compareOp op) (r2 G x y (.bl false))) (ho' : OpR X (compareOp op') r) (ha : PE X a (tD G env x)) (hb : PE X b (tD G env y)) (hm : lastMarks [op, op'] [b, c] = false) : PE X (.Compare a [op, op'] [b, c] pos) (tD G env (.bl false)) :=
  PE.weak (pe_chain ho ho' ha hb pe_no (hm := hm)) fun σ H Q ⟨Kn, ex, re, q⟩ => two_D ⟨Kn, ex, re, fun v u H2 K2 s r1 r2 => ⟨K2, s.sub, r1, r2, fun w H3 K3 s3 r3 => ⟨false, r3.bool, iteF (q _ H3 K3 (s.trans s3) (.bl false))⟩⟩⟩

/-! ### argument lists, displays, calls of built-ins -/
theorem pd_nil : PA X [] (tDs G env []) := PA.weak pa_nil fun σ H Q ⟨Kn, ex, re, q⟩ => q [] H Kn (Step.refl ex) .nil
theorem pd_cons {d : D} {ds : List D} (ha : PE X e (tD G env d)) (hr : PA X es (tDs G env ds)) (hs : starEach (e :: es) X.env = (false, eval e X.env) :: starEach es X.env) : PA X (e :: es) (tDs G env (d :: ds)) :=
  PA.weak (pa_cons ha hr hs) fun σ H Q ⟨Kn, ex, re, q⟩ => ⟨Kn, ex, re, fun v H1 K1 s1 r1 => ⟨K1, s1.sub, re.mono s1.kx, fun vs H2 K2 s2 r2 => q (v :: vs) H2 K2 (s1.trans s2) (.cons (r1.mono s2.kx) r2)⟩⟩
theorem pd_tup {x1} {ds : List D} (h : PA X es (tDs G env ds)) (hl : ds.length ≤ sizeLine) : PE X (.Tuple es x1 pos) (tD G env (.tup ds)) :=
  PE.weak (pe_tupX h) fun σ H Q ⟨Kn, ex, re, q⟩ => ⟨Kn, ex, re, fun vs H1 K1 s1 r1 => ⟨by rw [← r1.length]; exact hl, fun p ob hb hp => q _ _ _ (s1.trans (Step.new s1.sub hp)) (.tup (sx_of upd_same hb) (r1.mono (Step.new (o := .frz ob (.tup vs)) s1.sub hp).kx))⟩⟩
theorem pf_lst {ds : List D} (h : PA X es (tDs G env ds)) (hl : ds.length ≤ sizeLine) : PE X (.List es pos) (tF G env (.lst ds)) :=
  PE.weak (pe_lst h) fun σ H Q ⟨Kn, ex, re, q⟩ => ⟨Kn, ex, re, fun vs H1 K1 s1 r1 => ⟨by rw [← r1.length]; exact hl, fun p hp => q p _ K1 (s1.trans (Step.own s1.sub hp)) (fresh_step s1 hp) (known_none s1.sub hp) (.lst upd_same r1)⟩⟩
theorem pd_callB {x : Str} {p : Pos} {id : String} {ds : List D} {d : D} (hc : CallR X (.builtin id) (rc G ds d)) (hg : Gl X x) (hm : X.mg x = none) (hv : bootBuiltins x = some (.builtin id)) (ha : PA X (e :: es) (tDs G env ds)) (hn : x ≠ "__name__") (hdb : (x == ("__debug__" : Str)) = false)
    (he : starEach (e :: es) X.env = (false, eval e X.env) :: starEach es X.env) (hpl : (backTo pos (starEach es X.env)).any (·.1) = false) : PE X (.Call (.Name x p) (e :: es) [] pos) (tD G env d) :=
  PE.weak (pe_callB hc hg hm hv ha hn hdb he hpl) fun σ H Q ⟨Kn, ex, re, q⟩ => ⟨Kn, ex, re, fun vs H1 K1 s1 r1 => ⟨K1, s1.sub, r1, fun w H2 K2 s2 r2 => q w H2 K2 (s1.trans s2) r2⟩⟩
theorem pf_callB {x : Str} {p : Pos} {id : String} {ds : List D} {d : D} (hc : CallR X (.builtin id) (rcF G ds d)) (hg : Gl X x) (hm : X.mg x = none) (hv : bootBuiltins x = some (.builtin id)) (ha : PA X (e :: es) (tDs G env ds)) (hn : x ≠ "__name__") (hdb : (x == ("__debug__" : Str)) = false)
    (he : starEach (e :: es) X.env = (false, eval e X.env) :: starEach es X.env) (hpl : (backTo pos (starEach es X.env)).any (·.1) = false) : PE X (.Call (.Name x p) (e :: es) [] pos) (tF G env d) :=
  PE.weak (pe_callB hc hg hm hv ha hn hdb he hpl) fun σ H Q ⟨Kn, ex, re, q⟩ => ⟨Kn, ex, re, fun vs H1 K1 s1 r1 => ⟨K1, s1.sub, r1, fun p H2 K2 s2 hp hk o => q p H2 K2 (s1.trans s2) (fresh_step s1 hp) hk o⟩⟩
end
end Ev
set_option maxHeartbeats 4000000
namespace Ev
open PySem PySem.Spec PyProof.Rows L2
section
variable {X : Cx} {e a b c o : Expr} {es : List Expr} {G : Gx} {env : Env} {pos : Pos}
theorem pd_callTy {x : Str} {p : Pos} {T : String} {ds : List D} {d : D} (hc : CallR X (.type T) (rc G ds d)) (hg : Gl X x) (hm : X.mg x = none) (hv : bootBuiltins x = some (.type T)) (ha : PA X (e :: es) (tDs G env ds)) (hn : x ≠ "__name__") (hdb : (x == ("__debug__" : Str)) = false)
    (he : starEach (e :: es) X.env = (false, eval e X.env) :: starEach es X.env) (hpl : (backTo pos (starEach es X.env)).any (·.1) = false) : PE X (.Call (.Name x p) (e :: es) [] pos) (tD G env d) :=
  PE.weak (pe_callTy hc hg hm hv ha hn hdb he hpl) fun σ H Q ⟨Kn, ex, re, q⟩ => ⟨Kn, ex, re, fun vs H1 K1 s1 r1 => ⟨K1, s1.sub, r1, fun w H2 K2 s2 r2 => q w H2 K2 (s1.trans s2) r2⟩⟩
theorem pf_callTy {x : Str} {p : Pos} {T : String} {ds : List D} {d : D} (hc : CallR X (.type T) (rcF G ds d)) (hg : Gl X x) (hm : X.mg x = none) (hv : bootBuiltins x = some (.type T)) (ha : PA X (e :: es) (tDs G env ds)) (hn : x ≠ "__name__") (hdb : (x == ("__debug__" : Str)) = false)
    (he : starEach (e :: es) X.env = (false, eval e X.env) :: starEach es X.env) (hpl : (backTo pos (starEach es X.env)).any (·.1) = false) : PE X (.Call (.Name x p) (e :: es) [] pos) (tF G env d) :=
  PE.weak (pe_callTy hc hg hm hv ha hn hdb he hpl) fun σ H Q ⟨Kn, ex, re, q⟩ => ⟨Kn, ex, re, fun vs H1 K1 s1 r1 => ⟨K1, s1.sub, r1, fun p H2 K2 s2 hp hk o => q p H2 K2 (s1.trans s2) (fresh_step s1 hp) hk o⟩⟩

/-! ### subscripts -/
theorem IxR.byD {r : R2} {x y z : D} (h : IxR X r) (hr : R2D G r x y z) : IxR X (r2 G x y z) :=
  fun va sl pins s σ H a b v u Q I ra rb ⟨Kn, ex, rx, ry, q⟩ hs => h va sl pins s σ H a b v u Q I ra rb (hr Kn H a b Q ex rx ry q) hs
theorem pd_ix {x y z : D} (hr : IxR X (r2 G x y z)) (ha : PE X a (tD G env x)) (hb : PE X b (tD G env y)) (hs : PlainIx b) : PE X (.Subscript a b pos) (tD G env z) :=
  PE.weak (pe_ix hr ha hb hs) fun σ H Q ⟨Kn, ex, re, q⟩ => two_D ⟨Kn, ex, re, fun v u H2 K2 s r1 r2 => ⟨K2, s.sub, r1, r2, fun w H3 K3 s3 r3 => q w H3 K3 (s.trans s3) r3⟩⟩

/-! ### slices -/
def tOpt (G : Gx) (env : Env) (i : Option Int) : TO := fun σ H Q => ∃ Kn, Ex Kn H ∧ RelE G Kn env σ ∧ ∀ H' Kn', Step H Kn H' Kn' → Q i H'
theorem PO.weak {eo : Option Expr} {t t' : TO} (h : PO X eo t) (w : ∀ σ H Q, t' σ H Q → t σ H Q) : PO X eo t' := ⟨fun pins s σ H Q I q => h.run pins s σ H Q I (w σ H Q q)⟩
theorem po_noneD : PO X none (tOpt G env none) := PO.weak po_none fun σ H Q ⟨Kn, ex, re, q⟩ => q H Kn (Step.refl ex)
theorem po_someD {i : Int} (h : PE X e (tD G env (.int i))) : PO X (some e) (tOpt G env (some i)) := PO.weak (po_some h) fun σ H Q ⟨Kn, ex, re, q⟩ => ⟨Kn, ex, re, fun v H' K' s r => ⟨i, by cases r; rfl, q H' K' s⟩⟩
def rsl (G : Gx) (x : D) (lo hi : Option Int) (z : D) : V → Option Int → Option Int → Hp → VK → Prop := fun v l h H Q => l = lo ∧ h = hi ∧ ∃ Kn, Ex Kn H ∧ RelD G Kn x v ∧ ∀ w H' Kn', Step H Kn H' Kn' → RelD G Kn' z w → Q w H'
def rslF (G : Gx) (x : D) (lo hi : Option Int) (z : D) : V → Option Int → Option Int → Hp → VK → Prop := fun v l h H Q => l = lo ∧ h = hi ∧ ∃ Kn, Ex Kn H ∧ RelD G Kn x v ∧ ∀ p H' Kn', Step H Kn H' Kn' → H p = none → Kn' p = none → Own G Kn' H' p z → Q (.ref p) H'
theorem pd_slice {x z : D} {lo hi : Option Expr} {l h : Option Int} {p2 : Pos} (hr : L2.SlR X (rsl G x l h z)) (he : PE X e (tD G env x)) (hl : PO X lo (tOpt G env l)) (hu : PO X hi (tOpt G env h)) : PE X (.Subscript e (.Slice lo hi none p2) pos) (tD G env z) :=
  PE.weak (pe_slice hr he hl hu) fun σ H Q ⟨Kn, ex, re, q⟩ => ⟨Kn, ex, re, fun v H1 K1 s1 r1 => ⟨K1, s1.sub, re.mono s1.kx, fun H2 K2 s2 => ⟨K2, s2.sub, re.mono (s1.trans s2).kx, fun H3 K3 s3 =>
    ⟨rfl, rfl, K3, s3.sub, r1.mono (s2.trans s3).kx, fun w H4 K4 s4 r4 => q w H4 K4 (((s1.trans s2).trans s3).trans s4) r4⟩⟩⟩⟩
theorem pf_slice {x z : D} {lo hi : Option Expr} {l h : Option Int} {p2 : Pos} (hr : L2.SlR X (rslF G x l h z)) (he : PE X e (tD G env x)) (hl : PO X lo (tOpt G env l)) (hu : PO X hi (tOpt G env h)) : PE X (.Subscript e (.Slice lo hi none p2) pos) (tF G env z) :=
  PE.weak (pe_slice hr he hl hu) fun σ H Q ⟨Kn, ex, re, q⟩ => ⟨Kn, ex, re, fun v H1 K1 s1 r1 => ⟨K1, s1.sub, re.mono s1.kx, fun H2 K2 s2 => ⟨K2, s2.sub, re.mono (s1.trans s2).kx, fun H3 K3 s3 =>
    ⟨rfl, rfl, K3, s3.sub, r1.mono (s2.trans s3).kx, fun p H4 K4 s4 hp hk o => q p H4 K4 (((s1.trans s2).trans s3).trans s4) (fresh_step ((s1.trans s2).trans s3) hp) hk o⟩⟩⟩⟩

/-! ### the type of data, methods of built-in types -/
/-- the built-in type of a datum -/
def tyD : D → Option String
  | .non => some "NoneType" | .bl _ => some "bool" | .int _ => some "int" | .str _ => some "str" | .tup _ => some "tuple" | .lst _ => some "list" | .dct _ _ => some "dict"
  | .ins _ _ => none | .ty _ => none | .cl _ => none | .wt _ => none | .di _ _ => none
/-- what a value of a datum is, in the model -/
theorem RelD.typeIs {pins : List (Addr × Obj)} {σ : St} {Kn H : Hp} {s : Shared} {d : D} {x : V} {v : Value} {T : String} (hK : X.K = G.K) (hP : X.prog = G.P) (hw : X.w = G.w) (I : Inv X pins σ H s) (ex : Ex Kn H) (rd : RelD G Kn d x) (r : RelV x v) (ht : tyD d = some T) (hm : T = "str" ∨ T = "int" ∨ T = "list" ∨ T = "dict") :
    s.TypeIs v T ∧ ∀ a, v = .ref a → ∃ ob, s.heap.get? a = some ob ∧ ob.dict = none := by
  cases rd with
  | non => simp [tyD] at ht; subst ht; simp at hm
  | bl _ => simp [tyD] at ht; subst ht; simp at hm
  | ty _ => simp [tyD] at ht
  | cl _ => simp [tyD] at ht
  | ins _ _ _ => simp [tyD] at ht
  | wt _ _ => simp [tyD] at ht
  | di _ => simp [tyD] at ht
  | tup _ _ => simp [tyD] at ht; subst ht; simp at hm
  | int i => simp [tyD] at ht; subst ht; obtain ⟨t, rfl⟩ := r; exact ⟨typeIs_int s i t, fun _ e => nomatch e⟩
  | str z => simp [tyD] at ht; subst ht; obtain ⟨t, rfl⟩ := r; exact ⟨typeIs_str s z t, fun _ e => nomatch e⟩
  | lst h _ => simp [tyD] at ht; subst ht; exact tyV_is I r (.inl ⟨rfl, _, Evl.sq_of (ex _ _ h)⟩)
  | @dctK a o kvs ks vs h _ _ =>
    simp [tyD] at ht; subst ht; cases r
    obtain ⟨e, _, _, _, _, o', _, _, e', x', _⟩ := I.hok a _ (ex _ _ h)
    exact ⟨⟨o', e', x'.1⟩, fun b eb => by cases eb; exact ⟨o', e', x'.2.1⟩⟩
  | @dctN a o xs ks vs h _ _ _ _ =>
    simp [tyD] at ht; subst ht; cases r
    obtain ⟨e, ⟨_, _, _, o', _, _, e', x', _⟩, _⟩ := I.hok a _ (ex _ _ h)
    exact ⟨⟨o', e', x'.1⟩, fun b eb => by cases eb; exact ⟨o', e', x'.2.1⟩⟩
def rm (G : Gx) (x : D) (xs : List D) (z : D) : V → List V → Hp → VK → Prop := fun v vs H Q => ∃ Kn, Ex Kn H ∧ RelD G Kn x v ∧ RelDs G Kn xs vs ∧ ∀ w H' Kn', Step H Kn H' Kn' → RelD G Kn' z w → Q w H'
def rmF (G : Gx) (x : D) (xs : List D) (z : D) : V → List V → Hp → VK → Prop := fun v vs H Q => ∃ Kn, Ex Kn H ∧ RelD G Kn x v ∧ RelDs G Kn xs vs ∧ ∀ p H' Kn', Step H Kn H' Kn' → H p = none → Kn' p = none → Own G Kn' H' p z → Q (.ref p) H'
def tMG (tyP : V → Hp → Prop) (r : V → List V → Hp → VK → Prop) (to : TE) (t : TA) : TE := fun σ H Q => to σ H fun x H1 => tyP x H1 ∧ t σ H1 fun xs H2 => r x xs H2 Q
def tMG0 (tyP : V → Hp → Prop) (r : V → List V → Hp → VK → Prop) (to : TE) : TE := fun σ H Q => to σ H fun x H1 => tyP x H1 ∧ r x [] H1 Q
variable {name : Str} {apos cpos : Pos} {T id : String} {r : V → List V → Hp → VK → Prop} {to : TE} {t : TA} {tyP : V → Hp → Prop}
theorem pe_bmG0 (hT : ∀ (pins : List (Addr × Obj)) (s : Shared) (σ : St) (H : Hp) (x : V) (v : Value), Inv X pins σ H s → RelV x v → tyP x H → s.TypeIs v T ∧ ∀ a, v = .ref a → ∃ ob, s.heap.get? a = some ob ∧ ob.dict = none)
    (pa : PlainAttrs T) (slot : Slot T name id) (hty : typeOf (.builtin id) = pure (.type "method_descriptor")) (hm : MtR X id r) (ho : PE X o to)
    (hbase : attributeBase o name X.env (eval o X.env) = eval o X.env) (hline : (apos.endLine == cpos.line) = true) : PE X (.Call (.Attribute o name apos) [] [] cpos) (tMG0 tyP r to) := by
  refine ⟨fun pins s σ H Q I h => ?_⟩
  refine wpAny_Call_method0_late hbase hline (thn (ho.run pins s σ H _ I h) fun v s1 ⟨x, H1, I1, r1, ty, q1⟩ => ?_)
  obtain ⟨h1, h2⟩ := hT pins s1 σ H1 x v I1 r1 ty
  exact ⟨T, id, pa, slot, hty, h1, h2, Calls.callWith_builtin rfl (PySem.evalArgs_none (hm pins s1 σ H1 x [] v [] Q I1 r1 .nil q1))⟩
theorem pe_bmG (hT : ∀ (pins : List (Addr × Obj)) (s : Shared) (σ : St) (H : Hp) (x : V) (v : Value), Inv X pins σ H s → RelV x v → tyP x H → s.TypeIs v T ∧ ∀ a, v = .ref a → ∃ ob, s.heap.get? a = some ob ∧ ob.dict = none)
    (pa : PlainAttrs T) (slot : Slot T name id) (hty : typeOf (.builtin id) = pure (.type "method_descriptor")) (hm : MtR X id r) (ho : PE X o to) (ha : PA X (e :: es) t)
    (hbase : attributeBase o name X.env (eval o X.env) = eval o X.env)
    (hfew : ((backTo cpos (starEach (e :: es) X.env)).all (fun x => !x.1) && (backToKw cpos (keywordEach [] X.env)).all (fun x => x.1.isSome)
      && decide ((e :: es).length + ([] : List Keyword).length + (if ([] : List Keyword).isEmpty then 0 else 1) < 30)) = true)
    (hline : (apos.endLine == cpos.line) = true) (hs : starEach (e :: es) X.env = (false, eval e X.env) :: starEach es X.env) (hplain : (backTo cpos (starEach es X.env)).any (·.1) = false) :
    PE X (.Call (.Attribute o name apos) (e :: es) [] cpos) (tMG tyP r to t) := by
  refine ⟨fun pins s σ H Q I h => ?_⟩
  refine wpAny_Call_method_late hbase hfew hline rfl (thn (ho.run pins s σ H _ I h) fun v s1 ⟨x, H1, I1, r1, ty, q1⟩ => ?_)
  obtain ⟨h1, h2⟩ := hT pins s1 σ H1 x v I1 r1 ty
  refine ⟨T, id, pa, slot, hty, h1, h2, ?_⟩
  have hA := ha.run cpos pins s1 σ H1 _ I1 q1
  rw [hs] at hA ⊢
  refine Calls.callWith_builtin (by show (false || (backTo cpos (starEach es X.env)).any (·.1)) = false; rw [hplain] <;> rfl) (Calls.evalArgs_plain ?_)
  exact thn hA fun us s2 ⟨vs, H2, I2, r2, q2⟩ => hm pins s2 σ H2 x vs v us Q I2 r1 r2 q2
/-- the value stands for d -/
def isD (G : Gx) (d : D) (x : V) (H : Hp) : Prop := ∃ Kn, Ex Kn H ∧ RelD G Kn d x
theorem pd_m {x z : D} {xs : List D} (hK : X.K = G.K) (hP : X.prog = G.P) (hw : X.w = G.w) (ht : tyD x = some T) (hm4 : T = "str" ∨ T = "int" ∨ T = "list" ∨ T = "dict") (pa : PlainAttrs T) (slot : Slot T name id) (hty : typeOf (.builtin id) = pure (.type "method_descriptor")) (hm : MtR X id (rm G x xs z)) (ho : PE X o (tD G env x)) (ha : PA X (e :: es) (tDs G env xs))
    (hbase : attributeBase o name X.env (eval o X.env) = eval o X.env)
    (hfew : ((backTo cpos (starEach (e :: es) X.env)).all (fun x => !x.1) && (backToKw cpos (keywordEach [] X.env)).all (fun x => x.1.isSome)
      && decide ((e :: es).length + ([] : List Keyword).length + (if ([] : List Keyword).isEmpty then 0 else 1) < 30)) = true)
    (hline : (apos.endLine == cpos.line) = true) (hs : starEach (e :: es) X.env = (false, eval e X.env) :: starEach es X.env) (hplain : (backTo cpos (starEach es X.env)).any (·.1) = false) :
    PE X (.Call (.Attribute o name apos) (e :: es) [] cpos) (tD G env z) :=
  PE.weak (pe_bmG (tyP := isD G x) (fun pins s σ H y v I r ⟨Kn, ex, rd⟩ => rd.typeIs hK hP hw I ex r ht hm4) pa slot hty hm ho ha hbase hfew hline hs hplain) fun σ H Q ⟨Kn, ex, re, q⟩ =>
    ⟨Kn, ex, re, fun v H1 K1 s1 r1 => ⟨⟨K1, s1.sub, r1⟩, K1, s1.sub, re.mono s1.kx, fun vs H2 K2 s2 r2 => ⟨K2, s2.sub, r1.mono s2.kx, r2, fun w H3 K3 s3 r3 => q w H3 K3 ((s1.trans s2).trans s3) r3⟩⟩⟩
theorem pd_m0 {x z : D} (hK : X.K = G.K) (hP : X.prog = G.P) (hw : X.w = G.w) (ht : tyD x = some T) (hm4 : T = "str" ∨ T = "int" ∨ T = "list" ∨ T = "dict") (pa : PlainAttrs T) (slot : Slot T name id) (hty : typeOf (.builtin id) = pure (.type "method_descriptor")) (hm : MtR X id (rm G x [] z)) (ho : PE X o (tD G env x))
    (hbase : attributeBase o name X.env (eval o X.env) = eval o X.env) (hline : (apos.endLine == cpos.line) = true) : PE X (.Call (.Attribute o name apos) [] [] cpos) (tD G env z) :=
  PE.weak (pe_bmG0 (tyP := isD G x) (fun pins s σ H y v I r ⟨Kn, ex, rd⟩ => rd.typeIs hK hP hw I ex r ht hm4) pa slot hty hm ho hbase hline) fun σ H Q ⟨Kn, ex, re, q⟩ =>
    ⟨Kn, ex, re, fun v H1 K1 s1 r1 => ⟨⟨K1, s1.sub, r1⟩, K1, s1.sub, r1, .nil, fun w H3 K3 s3 r3 => q w H3 K3 (s1.trans s3) r3⟩⟩

/-! ### a def by data -/
/-- called with ds it gives d; what stands stands -/
def spD (G : Gx) (F : List D → Option D) : Sp := fun vs H Q _ => ∃ Kn ds d, Ex Kn H ∧ RelDs G Kn ds vs ∧ F ds = some d ∧ ∀ v H' Kn', Step H Kn H' Kn' → RelD G Kn' d v → Q v H'
theorem pd_call {CX : CXT} {k : Nat} {f : Addr} {fd : FuncData} {ps : List Str} {F : List D → Option D} {x : Str} {p : Pos} {ds : List D} {d : D} (Fo : FnOk X.prog X.w X.K X.mg X.base CX k f fd ps (spD G F)) (hr : Room k X.A) (hg : Gl X x) (hm : X.mg x = some (.ref f)) (hk : PySem.W.keepIn X.K (.ref f) = true) (hb : Binds X.K fd ps []) (hx : Passes CX X E0)
    (ha : PA X (e :: es) (tDs G env ds)) (hF : F ds = some d) (hdb : (x == ("__debug__" : Str)) = false) (he : starEach (e :: es) X.env = (false, eval e X.env) :: starEach es X.env) (hpl : (backTo pos (starEach es X.env)).any (·.1) = false) :
    PE X (.Call (.Name x p) (e :: es) [] pos) (tD G env d) :=
  PE.weak (pe_call (dvs := []) Fo hr hg hm hk hb .nil hx ha hdb he hpl) fun σ H Q ⟨Kn, ex, re, q⟩ => ⟨Kn, ex, re, fun vs H1 K1 s1 r1 => by
    show spD G F (vs ++ []) H1 Q E0
    rw [List.append_nil]
    exact ⟨K1, ds, d, s1.sub, r1, hF, fun v H2 K2 s2 r2 => q v H2 K2 (s1.trans s2) r2⟩⟩
end
end Ev
set_option maxHeartbeats 4000000
namespace Ev
open PySem PySem.Spec PyProof.Rows L2

/-! ### slots -/
structure SameS (is : List Nat) (σ σ' : St) : Prop where
  len : σ'.length = σ.length
  at_ : ∀ j, j ∉ is → σ'[j]? = σ[j]?
def wipeE (env : Env) : List Nat → Env
  | [] => env
  | v :: vs => (wipeE env vs).set v none
theorem wipe_at (σ : St) (vs : List Nat) (j : Nat) : (wipe σ vs)[j]? = if j ∈ vs then (if j < σ.length then some none else none) else σ[j]? := by
  induction vs with
  | nil => simp [wipe]
  | cons v vs ih =>
    show ((wipe σ vs).set v none)[j]? = _
    by_cases h : j = v
    · subst h
      by_cases hl : j < σ.length
      · rw [List.getElem?_set_self (by rw [wipe_length]; exact hl)]; simp [hl]
      · rw [List.getElem?_eq_none_iff.mpr (by rw [List.length_set, wipe_length]; omega)]; simp [hl]
    · rw [List.getElem?_set_ne (Ne.symm h), ih]
      simp [h]
theorem wipe_same {σ σ' : St} {vs is : List Nat} (s : SameS is (wipe σ vs) σ') (h : ∀ i ∈ is, i ∈ vs) : wipe σ' vs = wipe σ vs := by
  refine List.ext_getElem? fun j => ?_
  have hl : σ'.length = σ.length := by rw [s.len, wipe_length]
  rw [wipe_at, wipe_at, hl]
  by_cases hj : j ∈ vs
  · rw [if_pos hj, if_pos hj]
  · rw [if_neg hj, if_neg hj, s.at_ j (fun z => hj (h j z)), wipe_at, if_neg hj]
section
variable {G : Gx} {Kn : Hp}
theorem RelE.set_none {env : Env} {σ : St} (r : RelE G Kn env σ) (v : Nat) : RelE G Kn (env.set v none) (σ.set v none) := by
  refine ⟨by rw [List.length_set, List.length_set, r.len], fun i d h => ?_⟩
  by_cases hi : v = i
  · subst hi
    by_cases hl : v < env.length
    · rw [List.getElem?_set_self hl] at h; cases h
    · rw [List.getElem?_eq_none_iff.mpr (by rw [List.length_set]; omega)] at h; cases h
  · rw [List.getElem?_set_ne hi] at h ⊢
    exact r.at_ i d h
theorem RelE.wipe {env : Env} {σ : St} (r : RelE G Kn env σ) : ∀ vs, RelE G Kn (wipeE env vs) (L2.wipe σ vs)
  | [] => r
  | v :: vs => (RelE.wipe r vs).set_none v
theorem RelE.put {env : Env} {σ : St} (r : RelE G Kn env σ) (i : Nat) {d : D} {v : V} (h : RelD G Kn d v) : RelE G Kn (env.set i (some d)) (σ.set i (some v)) := by
  refine ⟨by rw [List.length_set, List.length_set, r.len], fun j e hj => ?_⟩
  by_cases hi : i = j
  · subst hi
    by_cases hl : i < env.length
    · rw [List.getElem?_set_self hl] at hj; cases hj
      exact ⟨v, List.getElem?_set_self (by rw [← r.len]; exact hl), h⟩
    · rw [List.getElem?_eq_none_iff.mpr (by rw [List.length_set]; omega)] at hj; cases hj
  · rw [List.getElem?_set_ne hi] at hj ⊢
    exact r.at_ j e hj
end

/-! ### targets -/
inductive Tg where
  | nm (i : Nat)
  | tp (ts : List Tg)
mutual
def asgT : Tg → D → Env → Option Env
  | .nm i, d, env => some (env.set i (some d))
  | .tp ts, .tup ds, env => asgTs ts ds env
  | .tp ts, .wt ds, env => asgTs ts ds env
  | .tp _, _, _ => none
def asgTs : List Tg → List D → Env → Option Env
  | [], [], env => some env
  | t :: ts, d :: ds, env => match asgT t d env with
    | some env1 => asgTs ts ds env1
    | none => none
  | _, _, _ => none
end
mutual
def tgS : Tg → List Nat
  | .nm i => [i]
  | .tp ts => tgSs ts
def tgSs : List Tg → List Nat
  | [] => []
  | t :: ts => tgS t ++ tgSs ts
end
def tG (G : Gx) (t : Tg) : TG := fun x σ H Q => ∃ Kn env d env2, Ex Kn H ∧ RelE G Kn env σ ∧ RelD G Kn d x ∧ asgT t d env = some env2 ∧ ∀ σ', RelE G Kn env2 σ' → SameS (tgS t) σ σ' → Q σ' H
def tGs (G : Gx) (ts : List Tg) : TGs := fun xs σ H Q => ∃ Kn env ds env2, Ex Kn H ∧ RelE G Kn env σ ∧ RelDs G Kn ds xs ∧ asgTs ts ds env = some env2 ∧ ∀ σ', RelE G Kn env2 σ' → SameS (tgSs ts) σ σ' → Q σ' H
theorem asgTs_len : ∀ {ts : List Tg} {ds : List D} {env env2 : Env}, asgTs ts ds env = some env2 → ts.length = ds.length
  | [], [], _, _, _ => rfl
  | [], _ :: _, _, _, h => by simp [asgTs] at h
  | _ :: _, [], _, _, h => by simp [asgTs] at h
  | t :: ts, d :: ds, env, env2, h => by
    unfold asgTs at h
    cases e : asgT t d env with
    | none => rw [e] at h; cases h
    | some env1 => rw [e] at h; simp [asgTs_len h]
section
variable {X : Cx} {G : Gx} {pos : Pos}
theorem PG.weak {tg : Expr} {t t' : TG} (h : PG X tg t) (w : ∀ x σ H Q, t' x σ H Q → t x σ H Q) : PG X tg t' := ⟨fun pins s σ H v u Q I r q => h.run pins s σ H v u Q I r (w v σ H Q q)⟩
theorem PGs.weak {tg : List Expr} {t t' : TGs} (h : PGs X tg t) (w : ∀ x σ H Q, t' x σ H Q → t x σ H Q) : PGs X tg t' := ⟨fun pins s σ H v u Q I r q => h.run pins s σ H v u Q I r (w v σ H Q q)⟩
theorem pg_nm {i : Nat} {x : Str} (hN : X.N.Nodup) (hi : X.N[i]? = some x) (hx : Loc X.env.scope x) (hf : X.fn x = true ∨ X.env.scope.names.lookup x = some .local) : PG X (.Name x pos) (tG G (.nm i)) :=
  PG.weak (pg_name hN hi hx hf) fun v σ H Q ⟨Kn, env, d, env2, ex, re, rd, ha, q⟩ => by
    simp only [asgT, Option.some.injEq] at ha
    subst ha
    exact q _ (re.put i rd) ⟨by simp, fun j hj => List.getElem?_set_ne (fun z => hj (by simp [tgS, z]))⟩
theorem pgs_n : PGs X [] (tGs G []) := PGs.weak pgs_nil fun v σ H Q ⟨Kn, env, ds, env2, ex, re, rd, ha, q⟩ => by
  cases rd with
  | nil => simp only [asgTs, Option.some.injEq] at ha; subst ha; exact ⟨rfl, q σ re ⟨rfl, fun _ _ => rfl⟩⟩
  | cons _ _ => simp [asgTs] at ha
theorem pgs_c {e : Expr} {es : List Expr} {t : Tg} {ts : List Tg} (h1 : PG X e (tG G t)) (h2 : PGs X es (tGs G ts)) (hs : (assignEach (e :: es) X.env).map (·.2) = assign e X.env :: (assignEach es X.env).map (·.2)) : PGs X (e :: es) (tGs G (t :: ts)) :=
  PGs.weak (pgs_cons h1 h2 hs) fun v σ H Q ⟨Kn, env, ds, env2, ex, re, rd, ha, q⟩ => by
    cases rd with
    | nil => simp [asgTs] at ha
    | @cons d v ds vs rd rds =>
      unfold asgTs at ha
      cases e1 : asgT t d env with
      | none => rw [e1] at ha; cases ha
      | some env1 =>
        rw [e1] at ha
        refine ⟨v, vs, rfl, Kn, env, d, env1, ex, re, rd, e1, fun σ1 re1 s1 => ⟨Kn, env1, ds, env2, ex, re1, rds, ha, fun σ2 re2 s2 => q σ2 re2 ⟨s2.len.trans s1.len, fun j hj => ?_⟩⟩⟩
        have hj' : j ∉ tgS t ∧ j ∉ tgSs ts := by simpa [tgSs] using hj
        exact (s2.at_ j hj'.2).trans (s1.at_ j hj'.1)
theorem pg_tp {es : List Expr} {k : Nat} {ts : List Tg} (hK : X.K = G.K) (hc : X.calm = true) (h : PGs X es (tGs G ts)) (hn : (assignEach es X.env).length = ts.length) (hst : (assignEach es X.env).findIdx? (·.1) = none) : PG X (.Tuple es k pos) (tG G (.tp ts)) :=
  PG.weak (pg_tup hc h hn hst) fun v σ H Q ⟨Kn, env, d, env2, ex, re, rd, ha, q⟩ => by
    cases rd with
    | @tup a xs ds hs rds =>
      rw [asgT] at ha
      exact ⟨a, xs, rfl, by rw [hK]; exact Evl.ex_t ex hs.sq, by rw [asgTs_len ha, rds.length], Kn, env, ds, env2, ex, re, rds, ha, fun σ' r s => q σ' r (by simpa [tgS] using s)⟩
    | @wt a xs ds hs rds =>
      rw [asgT] at ha
      exact ⟨a, xs, rfl, by rw [hK]; exact Evl.ex_t ex hs, by rw [asgTs_len ha, rds.length], Kn, env, ds, env2, ex, re, rds, ha, fun σ' r s => q σ' r (by simpa [tgS] using s)⟩
    | _ => simp [asgT] at ha
end

/-! ### what is walked -/
def ItD (G : Gx) (J : It) (Kn : Hp) (ds : List D) : Prop :=
  (∀ H, Ex Kn H → J.stop ds.length H) ∧ ∀ (i : Nat) (d : D), ds[i]? = some d → ∀ H, Ex Kn H → J.go i H ∧ ∀ x H', J.yld i H x H' → ∀ K1, Ex Kn K1 → Ex K1 H → ∃ K2, Step H K1 H' K2 ∧ RelD G K2 d x
def tI (G : Gx) (env : Env) (ds : List D) : TI := fun σ H R => ∃ Kn, Ex Kn H ∧ RelE G Kn env σ ∧ ∀ J H' Kn', Step H Kn H' Kn' → ItD G J Kn' ds → R J H'
section
variable {X : Cx} {G : Gx} {env : Env} {pos : Pos} {tg iter e : Expr}
theorem PI.weak {t t' : TI} (h : PI X tg iter t) (w : ∀ σ H R, t' σ H R → t σ H R) : PI X tg iter t' := ⟨fun pins s σ H R I q => h.run pins s σ H R I (w σ H R q)⟩
theorem itD_at {J : It} {Kn : Hp} {ds : List D} {xs : List V} (r : RelDs G Kn ds xs) (h : ∀ H, Ex Kn H → (∀ i x, xs[i]? = some x → J.go i H ∧ ∀ y H', J.yld i H y H' → H' = H ∧ y = x) ∧ J.stop xs.length H) : ItD G J Kn ds := by
  refine ⟨fun H ex => by rw [r.length]; exact (h H ex).2, fun i d hd H ex => ?_⟩
  obtain ⟨x, hx, rx⟩ := r.get hd
  obtain ⟨g, y⟩ := (h H ex).1 i x hx
  refine ⟨g, fun z H' hz K1 k1 k2 => ?_⟩
  obtain ⟨rfl, rfl⟩ := y z H' hz
  exact ⟨K1, Step.refl k2, rx.mono k1⟩
theorem pi_lst {ds : List D} (hK : X.K = G.K) (h : PE X e (tD G env (.lst ds))) : PI X tg e (tI G env ds) :=
  PI.weak (pi_list h) fun σ H R ⟨Kn, ex, re, q⟩ => ⟨Kn, ex, re, fun v H1 K1 s1 r1 => by
    cases r1 with
    | @lst a xs _ ha rs =>
      refine ⟨a, rfl, ⟨xs, Evl.sq_of (s1.sub _ _ ha)⟩, q _ H1 K1 s1 (itD_at rs fun H2 ex2 => ⟨fun i x hx => ⟨⟨xs, x, Evl.sq_of (ex2 _ _ ha), hx⟩, fun y H' ⟨e1, e2⟩ => ⟨e1, ?_⟩⟩, ⟨xs, Evl.sq_of (ex2 _ _ ha), Nat.le_refl _⟩⟩)⟩
      have z := e2 xs (Evl.sq_of (ex2 _ _ ha))
      rw [hx] at z
      exact (Option.some.inj z).symm⟩
theorem pi_tpl {ds : List D} (hK : X.K = G.K) (h : PE X e (tD G env (.tup ds))) : PI X tg e (tI G env ds) :=
  PI.weak (pi_tup h) fun σ H R ⟨Kn, ex, re, q⟩ => ⟨Kn, ex, re, fun v H1 K1 s1 r1 => by
    cases r1 with
    | @tup a xs _ ha rs =>
      have ha := ha.sq
      rw [← hK] at ha
      refine ⟨a, rfl, ⟨xs, Evl.ex_t s1.sub ha⟩, q _ H1 K1 s1 (itD_at rs fun H2 ex2 => ⟨fun i x hx => ⟨⟨xs, x, Evl.ex_t ex2 ha, hx⟩, fun y H' ⟨e1, e2⟩ => ⟨e1, ?_⟩⟩, ⟨xs, Evl.ex_t ex2 ha, Nat.le_refl _⟩⟩)⟩
      have z := e2 xs (Evl.ex_t ex2 ha)
      rw [hx] at z
      exact (Option.some.inj z).symm⟩
theorem getElem?_sign {z : Str} {i : Nat} {d : D} (h : (z.cps.toList.map fun c => D.str ⟨#[c]⟩)[i]? = some d) : ∃ c, z.cps[i]? = some c ∧ d = .str ⟨#[c]⟩ := by
  rw [List.getElem?_map] at h
  cases e : z.cps.toList[i]? with
  | none => rw [e] at h; cases h
  | some c => rw [e] at h; exact ⟨c, by rw [← Array.getElem?_toList]; exact e, (Option.some.inj h).symm⟩
theorem pi_text {z : Str} (h : PE X e (tD G env (.str z))) : PI X tg e (tI G env (z.cps.toList.map fun c => D.str ⟨#[c]⟩)) :=
  PI.weak (pi_str h) fun σ H R ⟨Kn, ex, re, q⟩ => ⟨Kn, ex, re, fun v H1 K1 s1 r1 => by
    cases r1
    refine ⟨z, rfl, q _ H1 K1 s1 ⟨fun H2 _ => (by show z.cps.size ≤ _; simp), fun i d hd H2 ex2 => ?_⟩⟩
    obtain ⟨c, hc, rfl⟩ := getElem?_sign hd
    refine ⟨(Array.getElem?_eq_some_iff.mp hc).1, fun y H' ⟨e1, c', e2, e3⟩ K2 k1 k2 => ?_⟩
    subst e1
    rw [hc] at e2
    cases e2
    exact ⟨K2, Step.refl k2, by rw [e3]; exact .str _⟩⟩
theorem itD_rng {Kn : Hp} {lo : Int} {n : Nat} : ItD G (Itr lo n) Kn ((List.range n).map fun k => D.int (lo + (k : Nat))) := by
  refine ⟨fun H2 _ => (by show n ≤ _; simp), fun i d hd H2 ex2 => ?_⟩
  rw [List.getElem?_map] at hd
  cases e : (List.range n)[i]? with
  | none => rw [e] at hd; cases hd
  | some k =>
    rw [e] at hd
    obtain ⟨hl, hk⟩ := List.getElem?_eq_some_iff.mp e
    rw [List.getElem_range] at hk
    subst hk
    refine ⟨(by simpa using hl : i < n), fun y H' ⟨e1, e2⟩ K2 k1 k2 => ?_⟩
    subst e1
    refine ⟨K2, Step.refl k2, ?_⟩
    have := (Option.some.inj hd).symm
    rw [this, e2]
    exact .int _
theorem pi_rng1 {p : Pos} {j : Int} (hg : Gl X "range") (hm : X.mg "range" = none) (h : PA X [e] (tDs G env [.int j])) (h1 : -(2 ^ 62) ≤ j) (h2 : j < 2 ^ 62) (hs : starEach [e] X.env = [(false, eval e X.env)]) : PI X tg (.Call (.Name "range" p) [e] [] pos) (tI G env ((List.range j.toNat).map fun k => D.int ((0 : Int) + (k : Nat)))) :=
  PI.weak (pi_range1 hg hm h (hs := hs)) fun σ H R ⟨Kn, ex, re, q⟩ => ⟨Kn, ex, re, fun vs H1 K1 s1 r1 => by
    obtain ⟨⟩ | ⟨r, rr⟩ := r1
    cases r; cases rr
    exact ⟨j, rfl, h1, h2, q _ H1 K1 s1 itD_rng⟩⟩
theorem pi_rng2 {p : Pos} {e2 : Expr} {i j : Int} (hg : Gl X "range") (hm : X.mg "range" = none) (h : PA X [e, e2] (tDs G env [.int i, .int j])) (hb : -(2 ^ 62) ≤ i ∧ i < 2 ^ 62 ∧ -(2 ^ 62) ≤ j ∧ j < 2 ^ 62) (hs : starEach [e, e2] X.env = [(false, eval e X.env), (false, eval e2 X.env)]) (hs2 : starEach [e2] X.env = [(false, eval e2 X.env)]) : PI X tg (.Call (.Name "range" p) [e, e2] [] pos) (tI G env ((List.range (j - i).toNat).map fun k => D.int (i + (k : Nat)))) :=
  PI.weak (pi_range2 hg hm h (hs := hs) (hs2 := hs2)) fun σ H R ⟨Kn, ex, re, q⟩ => ⟨Kn, ex, re, fun vs H1 K1 s1 r1 => by
    obtain ⟨⟩ | ⟨r, rr⟩ := r1
    cases r
    obtain ⟨⟩ | ⟨r, rr⟩ := rr
    cases r; cases rr
    exact ⟨i, j, rfl, hb, q _ H1 K1 s1 itD_rng⟩⟩
end

/-! ### [elt for tg in iter if ..] -/
def compD (t : Tg) (ft : Env → Option Bool) (fe : Env → Option D) (env : Env) : List D → Option (List D)
  | [] => some []
  | d :: ds => match asgT t d env with
    | none => none
    | some env2 => match ft env2 with
      | none => none
      | some true => (match fe env2, compD t ft fe env ds with
        | some y, some r => some (y :: r)
        | _, _ => none)
      | some false => compD t ft fe env ds
theorem compD_append {t : Tg} {ft : Env → Option Bool} {fe : Env → Option D} {env : Env} : ∀ (ds es : List D), compD t ft fe env (ds ++ es) = match compD t ft fe env ds, compD t ft fe env es with | some a, some b => some (a ++ b) | _, _ => none
  | [], es => by simp only [List.nil_append, compD]; cases compD t ft fe env es <;> rfl
  | d :: ds, es => by
    simp only [List.cons_append, compD]
    rw [compD_append ds es]
    cases asgT t d env with
    | none => rfl
    | some env2 =>
      dsimp only
      cases ft env2 with
      | none => rfl
      | some b =>
        cases b with
        | false => rfl
        | true => dsimp only; cases fe env2 <;> cases compD t ft fe env ds <;> cases compD t ft fe env es <;> rfl
/-- the sum of all readings -/
def tTs (G : Gx) (ft : Env → Option Bool) : TT := fun σ H Q => ∃ env b, ft env = some b ∧ tTst G env b σ H Q
def tEs (G : Gx) (fe : Env → Option D) : TE := fun σ H Q => ∃ env d, fe env = some d ∧ tD G env d σ H Q
section
variable {X : Cx} {G : Gx} {env : Env} {pos : Pos} {tg iter elt : Expr} {ifs : List Expr} {scope : Scope} {own : List (Str × Nat)}
theorem PTs.any {ft : Env → Option Bool} (h : ∀ env b, ft env = some b → PTs X ifs (tTst G env b)) : PTs X ifs (tTs G ft) := ⟨fun pins s σ H Q I ⟨env, b, e, q⟩ => (h env b e).run pins s σ H Q I q⟩
theorem PE.any {fe : Env → Option D} {e : Expr} (h : ∀ env d, fe env = some d → PE X e (tD G env d)) : PE X e (tEs G fe) := ⟨fun pins s σ H Q I ⟨env, d, e, q⟩ => (h env d e).run pins s σ H Q I q⟩
theorem lc_reads {t : Tg} {ft : Env → Option Bool} {fe : Env → Option D} {ds rs : List D} (hsub : ∀ i ∈ tgS t, i ∈ own.map (·.2)) (hres : compD t ft fe (wipeE env (own.map (·.2))) ds = some rs) (hl : rs.length ≤ sizeLine) (σ : St) (H : Hp) (Q : VK) (h : tF G env (.lst rs) σ H Q) :
    tLc (tI G env ds) (tG G t) (tTs G ft) (tEs G fe) (own.map (·.2)) σ H Q := by
  obtain ⟨Kn, ex, re, q⟩ := h
  refine ⟨Kn, ex, re, fun J H1 K1 s1 it p hp => ?_⟩
  have hk1 : K1 p = none := known_none s1.sub hp
  refine ⟨fun i m H2 => m = ds.length - i ∧ i ≤ ds.length ∧ ∃ K2 acc ri, Ex K1 K2 ∧ Ex K2 H2 ∧ Ex H1 H2 ∧ (∀ a o, H1 a = some o → K2 a = K1 a) ∧ K2 p = none ∧ H2 p = some (.lst acc) ∧ RelDs G K2 ri acc ∧ compD t ft fe (wipeE env (own.map (·.2))) (ds.take i) = some ri, ⟨ds.length, by simp, Nat.zero_le _, K1, [], [], Evl.Ex.refl _, ?_, Evl.Ex.new hp, fun _ _ _ => rfl, hk1, upd_same, .nil, by simp [compD]⟩, ?_⟩
  · intro a o ha
    rw [upd_ne (fun z => by rw [z, hk1] at ha; cases ha)]
    exact s1.sub a o ha
  rintro i m H2 ⟨rfl, hi, K2, acc, ri, k12, k2, h12, kf, kp, hacc, rr, hc⟩
  have exI : Ex K1 H2 := k12.trans k2
  by_cases hlt : i < ds.length
  · have hd : ds[i]? = some ds[i] := by simp [hlt]
    obtain ⟨go, yl⟩ := it.2 i ds[i] hd H2 exI
    have htk : ds.take (i + 1) = ds.take i ++ [ds[i]] := by rw [List.take_add_one, hd]; rfl
    have split : compD t ft fe (wipeE env (own.map (·.2))) (ds.take (i + 1) ++ ds.drop (i + 1)) = some rs := by rw [List.take_append_drop]; exact hres
    rw [compD_append] at split
    obtain ⟨r1, hr1, r2, hr2, hr12⟩ : ∃ r1, compD t ft fe (wipeE env (own.map (·.2))) (ds.take (i + 1)) = some r1 ∧ ∃ r2, compD t ft fe (wipeE env (own.map (·.2))) (ds.drop (i + 1)) = some r2 ∧ rs = r1 ++ r2 := by
      cases e1 : compD t ft fe (wipeE env (own.map (·.2))) (ds.take (i + 1)) with
      | none => rw [e1] at split; cases split
      | some r1 =>
        cases e2 : compD t ft fe (wipeE env (own.map (·.2))) (ds.drop (i + 1)) with
        | none => rw [e1, e2] at split; cases split
        | some r2 => rw [e1, e2] at split; exact ⟨r1, rfl, r2, rfl, (Option.some.inj split).symm⟩
    have hone := hr1
    rw [htk, compD_append, hc] at hone
    refine .inr ⟨go, fun H' => ∃ K2 acc ri, Ex K1 K2 ∧ Ex K2 H' ∧ Ex H1 H' ∧ (∀ a o, H1 a = some o → K2 a = K1 a) ∧ K2 p = none ∧ H' p = some (.lst acc) ∧ RelDs G K2 ri acc ∧ compD t ft fe (wipeE env (own.map (·.2))) (ds.take (i + 1)) = some ri, fun H' w => ⟨ds.length - (i + 1), by omega, rfl, hlt, w⟩, fun x H' hy => ?_⟩
    obtain ⟨K3, s3, rx⟩ := yl x H' hy K2 k12 k2
    have k3p : K3 p = none := (s3.fr p _ hacc).trans kp
    have re3 : RelE G K3 (wipeE env (own.map (·.2))) (wipe σ (own.map (·.2))) := (re.mono (s1.kx.trans (k12.trans s3.kx))).wipe _
    simp only [compD] at hone
    cases ea : asgT t ds[i] (wipeE env (own.map (·.2))) with
    | none => rw [ea] at hone; cases hone
    | some env2 =>
      rw [ea] at hone
      refine ⟨K3, _, ds[i], env2, s3.sub, re3, rx, ea, fun σ2 re2 sm => ⟨wipe_same sm hsub, ?_⟩⟩
      dsimp only at hone
      cases eb : ft env2 with
      | none => rw [eb] at hone; cases hone
      | some b =>
        rw [eb] at hone
        refine ⟨env2, b, eb, K3, s3.sub, re2, fun H4 K4 s4 => ?_⟩
        have s34 := s3.trans s4
        cases b with
        | false =>
          have hone' : r1 = ri := by simpa using hone.symm
          refine iteF ⟨K4, acc, ri, k12.trans s34.kx, s34.sub, h12.trans s34.ex, fun a o ha => (s34.fr a o (h12 a o ha)).trans (kf a o ha), (s34.fr p _ hacc).trans kp, s34.ex p _ hacc, rr.mono s34.kx, by rw [hr1, hone']⟩
        | true =>
          refine iteT ?_
          cases ee : fe env2 with
          | none => rw [ee] at hone; simp at hone
          | some y =>
            rw [ee] at hone
            have hone' : r1 = ri ++ [y] := by simpa using hone.symm
            refine ⟨env2, y, ee, K4, s4.sub, re2.mono s4.kx, fun v H5 K5 s5 r5 => ?_⟩
            have s35 := s34.trans s5
            have k5p : K5 p = none := (s35.fr p _ hacc).trans kp
            refine ⟨acc, s35.ex p _ hacc, ?_, K5, acc ++ [v], ri ++ [y], k12.trans s35.kx, ?_, ?_, fun a o ha => (s35.fr a o (h12 a o ha)).trans (kf a o ha), k5p, upd_same, (rr.mono s35.kx).append (.cons r5 .nil), by rw [hr1, hone']⟩
            · have : acc.length = ri.length := rr.length.symm
              have h2 : rs.length = r1.length + r2.length := by rw [hr12, List.length_append]
              rw [hone'] at h2
              simp only [List.length_append, List.length_cons, List.length_nil] at h2
              omega
            · intro a o ha
              rw [upd_ne (fun z => by rw [z, k5p] at ha; cases ha)]
              exact s35.sub a o ha
            · intro a o ha
              rw [upd_ne (fun z => by rw [z, hp] at ha; cases ha)]
              exact s35.ex a o (h12 a o ha)
  · have e : i = ds.length := by omega
    subst e
    rw [List.take_length] at hc
    have : ri = rs := by rw [hc] at hres; exact Option.some.inj hres
    subst this
    refine .inl ⟨it.1 H2 exI, q p H2 K2 ⟨s1.ex.trans h12, s1.kx.trans k12, k2, fun a o ha => (kf a o (s1.ex a o ha)).trans (s1.fr a o ha)⟩ (fresh_step s1 hp) kp (.lst hacc rr)⟩
theorem pf_lc {t : Tg} {ft : Env → Option Bool} {fe : Env → Option D} {ds rs : List D} (hc : X.calm = true) (hN : X.N.Nodup) (hi : PI X tg iter (tI G env ds)) (ok : BlkOk X.N X.env.scope scope own) (hsub : ∀ i ∈ tgS t, i ∈ own.map (·.2))
    (hg : ∀ (s : Shared) (H : Hp) (C : Addr) (cl : List (Str × Addr)) (fp : List Addr), PG (X.blk s H scope (compEnvC scope cl C X.env) fp) tg (tG G t))
    (ht : ∀ (s : Shared) (H : Hp) (C : Addr) (cl : List (Str × Addr)) (fp : List Addr) env b, ft env = some b → PTs (X.blk s H scope (compEnvC scope cl C X.env) fp) ifs (tTst G env b))
    (he : ∀ (s : Shared) (H : Hp) (C : Addr) (cl : List (Str × Addr)) (fp : List Addr) env d, fe env = some d → PE (X.blk s H scope (compEnvC scope cl C X.env) fp) elt (tD G env d))
    (hres : compD t ft fe (wipeE env (own.map (·.2))) ds = some rs) (hl : rs.length ≤ sizeLine) (hs : ∀ x, foldedSetIterable iter X.env x = pure x) :
    PE X (.ListComp elt [⟨tg, iter, ifs, 0⟩] scope pos) (tF G env (.lst rs)) :=
  PE.weak (pe_lc hc hN hi ok hg (fun s H C cl fp => PTs.any (ht s H C cl fp)) (fun s H C cl fp => PE.any (he s H C cl fp)) hs) fun σ H Q h => lc_reads hsub hres hl σ H Q h
end
end Ev
set_option maxHeartbeats 4000000
namespace Ev
open PySem PySem.Spec PyProof.Rows L2

/-! ### the small language -/
inductive Bl where
  | len | all | any | sum | isi | sorted | list | tuple | str | int | abs | max | min | dict
inductive Mt where
  | join | count | items | values | get
mutual
inductive E where
  | c (d : D) | v (i : Nat) | g (k : Nat)
  | bin (op : Operator) (a b : E) | neg (a : E) | not_ (a : E)
  | cmp (op : CmpOp) (a b : E) | chn (o1 o2 : CmpOp) (a b c : E)
  | and_ (a b : E) | or_ (a b : E) | ife (t a b : E)
  | tup (es : List E) | lst (es : List E)
  | fn (f : Nat) (es : List E) | bl (b : Bl) (es : List E) | mt (m : Mt) (o : E) (es : List E)
  | ix (a b : E) | sl (a : E) (lo hi : Option E)
  | at_ (f : Nat) (o : E) | me (m : Nat) (o : E) (es : List E) | mk (c : Nat) (es : List E)
  | lc (elt : E) (t : Tg) (it : I) (ifs : List E) (ow : List Nat)
  | dc (k v : E) (t : Tg) (it : I) (ifs : List E) (ow : List Nat)
inductive I where
  | val (e : E) | rng1 (e : E) | rng2 (a b : E) | zip (a b : E) | enum (e : E) | items (e : E) | vals (e : E)
end

/-! ### data -/
mutual
def pyd : D → Option PyData
  | .non => some .none
  | .bl b => some (.bool b)
  | .int i => some (.int i)
  | .str x => some (.str x)
  | .tup xs => (pyds xs).map .tuple
  | .lst xs => (pyds xs).map .list
  | .dct _ _ => none
  | .ins _ _ => none
  | .ty _ => none
  | .cl _ => none
  | .wt _ => none
  | .di _ _ => none
def pyds : List D → Option (List PyData)
  | [] => some []
  | x :: xs => match pyd x, pyds xs with
    | some a, some b => some (a :: b)
    | _, _ => none
end

/-! ### operators -/
def evBin : Operator → D → D → Option D
  | .Add, .int i, .int j => some (.int (i + j))
  | .Add, .str x, .str y => if x.length + y.length ≤ sizeLine then some (.str (x ++ y)) else none
  | .Add, .tup xs, .tup ys => if xs.length + ys.length ≤ sizeLine then some (.tup (xs ++ ys)) else none
  | .Add, .lst xs, .lst ys => if xs.length + ys.length ≤ sizeLine then some (.lst (xs ++ ys)) else none
  | .Sub, .int i, .int j => some (.int (i - j))
  | .Mult, .int i, .int j => if i.natAbs.log2 + j.natAbs.log2 < 1000000 then some (.int (i * j)) else none
  | .FloorDiv, .int i, .int j => if 0 < j ∧ j.natAbs.log2 < 9000 then some (.int (i / j)) else none
  | .Mod, .int i, .int j => if 0 < j then some (.int (i % j)) else none
  | .Pow, .int i, .int j => if 0 ≤ j ∧ j ≤ 1000000 ∧ i.natAbs < 2 ^ 64 then some (.int (i ^ j.toNat)) else none
  | _, _, _ => none
def litS (s : Str) : List Nat := s.cps.toList
/-- x in a text: one sign -/
def evIn : D → D → Option Bool
  | .str x, .str z => match x.cps.toList with
    | [c] => some (decide (c ∈ z.cps.toList))
    | _ => none
  | _, _ => none
section
variable {X : Cx} {G : Gx}
theorem bin_ok {op : Operator} {x y z : D} (hK : X.K = G.K) (h : evBin op x y = some z) (hn : ∀ xs, z ≠ .lst xs) : OpR X (binaryOp op) (r2 G x y z) := by
  unfold evBin at h
  split at h
  · rename_i i j
    cases h
    refine OpR.byD op_add fun Kn H v u Q ex r1 r2 q => ?_
    cases r1; cases r2
    exact ⟨i, j, rfl, rfl, q _ H Kn (Step.refl ex) (.int _)⟩
  · rename_i i j
    split at h
    · rename_i hl
      cases h
      refine OpR.byD op_add_str fun Kn H v u Q ex r1 r2 q => ?_
      cases r1; cases r2
      exact ⟨i, j, rfl, rfl, hl, q _ H Kn (Step.refl ex) (.str _)⟩
    · cases h
  · rename_i xs ys
    split at h
    · rename_i hl
      cases h
      refine OpR.byD op_catX fun Kn H v u Q ex r1 r2 q => ?_
      cases r1 with
      | @tup a vs _ ha ra =>
        cases r2 with
        | @tup b us _ hb rb =>
          refine ⟨a, b, vs, us, rfl, rfl, by rw [hK]; exact Evl.ex_t ex ha.sq, by rw [hK]; exact Evl.ex_t ex hb.sq, by rw [← ra.length, ← rb.length]; exact hl, fun e => ?_, fun _ e => ?_, fun _ _ p ob hob hp => ?_⟩
          · subst e; cases ra
            exact q _ H Kn (Step.refl ex) (.tup hb rb)
          · subst e; cases rb
            rw [List.append_nil] at q
            exact q _ H Kn (Step.refl ex) (.tup ha ra)
          · have s := Step.new (o := .frz ob (.tup (vs ++ us))) ex hp
            exact q _ _ _ s (.tup (sx_of upd_same hob) ((ra.append rb).mono s.kx))
    · cases h
  · split at h
    · cases h; exact absurd rfl (hn _)
    · cases h
  · rename_i i j
    cases h
    refine OpR.byD op_sub fun Kn H v u Q ex r1 r2 q => ?_
    cases r1; cases r2
    exact ⟨i, j, rfl, rfl, q _ H Kn (Step.refl ex) (.int _)⟩
  · rename_i i j
    split at h
    · rename_i hc
      cases h
      refine OpR.byD op_mulW fun Kn H v u Q ex r1 r2 q => ?_
      cases r1; cases r2
      exact ⟨i, j, rfl, rfl, hc, q _ H Kn (Step.refl ex) (.int _)⟩
    · cases h
  · rename_i i j
    split at h
    · rename_i hc
      cases h
      refine OpR.byD op_fdivW fun Kn H v u Q ex r1 r2 q => ?_
      cases r1; cases r2
      exact ⟨i, j, rfl, rfl, hc, q _ H Kn (Step.refl ex) (.int _)⟩
    · cases h
  · rename_i i j
    split at h
    · rename_i hc
      cases h
      refine OpR.byD op_mod fun Kn H v u Q ex r1 r2 q => ?_
      cases r1; cases r2
      exact ⟨i, j, rfl, rfl, hc, q _ H Kn (Step.refl ex) (.int _)⟩
    · cases h
  · rename_i i j
    split at h
    · rename_i hc
      cases h
      refine OpR.byD op_pow fun Kn H v u Q ex r1 r2 q => ?_
      cases r1; cases r2
      exact ⟨i, j, rfl, rfl, hc, q _ H Kn (Step.refl ex) (.int _)⟩
    · cases h
  · cases h
/-- two lists put together: any lists -/
theorem op_catL : OpR X (binaryOp .Add) (fun x y H Q => ∃ l b xs zs, x = .ref l ∧ y = .ref b ∧ H l = some (.lst xs) ∧ H b = some (.lst zs) ∧ xs.length + zs.length ≤ sizeLine ∧ ∀ p, H p = none → Q (.ref p) (upd H p (.lst (xs ++ zs)))) := op_cat
theorem binF_add {xs ys : List D} (h : xs.length + ys.length ≤ sizeLine) : OpR X (binaryOp .Add) (r2F G (.lst xs) (.lst ys) (.lst (xs ++ ys))) := by
  refine OpR.byF op_cat fun Kn H v u Q ex r1 r2 q => ?_
  cases r1 with
  | @lst a vs _ ha ra =>
    cases r2 with
    | @lst b us _ hb rb =>
      exact ⟨a, b, vs, us, rfl, rfl, ex _ _ ha, ex _ _ hb, by rw [← ra.length, ← rb.length]; exact h, fun p hp => q p _ Kn (Step.own ex hp) hp (known_none ex hp) (.lst upd_same (ra.append rb))⟩
end
end Ev
set_option maxHeartbeats 4000000
namespace Ev
open PySem PySem.Spec PyProof.Rows L2

mutual
theorem RelD.dp {G : Gx} {Kn H : Hp} (ex : Ex Kn H) : ∀ {d : D} {v : V} {p : PyData}, RelD G Kn d v → pyd d = some p → Dp G.K H v p
  | _, _, _, .non, h => by simp [pyd] at h; subst h; exact .non
  | _, _, _, .bl b, h => by simp [pyd] at h; subst h; exact .bl b
  | _, _, _, .int i, h => by simp [pyd] at h; subst h; exact .int i
  | _, _, _, .str x, h => by simp [pyd] at h; subst h; exact .str x
  | _, _, _, .ty n, h => by simp [pyd] at h
  | _, _, _, .cl c, h => by simp [pyd] at h
  | _, _, _, .wt _ _, h => by simp [pyd] at h
  | _, _, _, .di _, h => by simp [pyd] at h
  | _, _, _, .dctK _ _ _, h => by simp [pyd] at h
  | _, _, _, .dctN _ _ _ _ _, h => by simp [pyd] at h
  | _, _, _, .ins _ _ _, h => by simp [pyd] at h
  | _, _, _, .tup (ds := ds) ht r, h => by
    simp only [pyd, Option.map_eq_some_iff] at h
    obtain ⟨ps, h1, rfl⟩ := h
    exact .tup (Evl.ex_t ex ht.sq) (RelDs.dp ex r h1)
  | _, _, _, .lst (ds := ds) ht r, h => by
    simp only [pyd, Option.map_eq_some_iff] at h
    obtain ⟨ps, h1, rfl⟩ := h
    exact .lst (Evl.sq_of (ex _ _ ht)) (RelDs.dp ex r h1)
theorem RelDs.dp {G : Gx} {Kn H : Hp} (ex : Ex Kn H) : ∀ {ds : List D} {vs : List V} {ps : List PyData}, RelDs G Kn ds vs → pyds ds = some ps → DpAll G.K H vs ps
  | _, _, _, .nil, h => by simp [pyds] at h; subst h; exact .nil
  | _, _, _, .cons (d := d) (ds := ds) r rs, h => by
    simp only [pyds] at h
    split at h
    · rename_i a b ha hb
      cases h
      exact .cons (RelD.dp ex r ha) (RelDs.dp ex rs hb)
    · cases h
end
section
variable {X : Cx} {G : Gx}
theorem RelD.reads {pins : List (Addr × Obj)} {σ : St} {Kn H : Hp} {s : Shared} {d : D} {x : V} {v : Value} {p : PyData} (hK : X.K = G.K) (I : Inv X pins σ H s) (ex : Ex Kn H) (r : RelD G Kn d x) (rv : RelV x v) (h : pyd d = some p) : ∃ as, Reads s.heap v p as :=
  Dp.reads I p x v (by rw [hK]; exact r.dp ex h) rv
mutual
theorem pyd_plain : ∀ {d : D} {p : PyData}, pyd d = some p → p.plain = true
  | .non, _, h => by simp [pyd] at h; subst h; rfl
  | .bl b, _, h => by simp [pyd] at h; subst h; rfl
  | .int i, _, h => by simp [pyd] at h; subst h; rfl
  | .str x, _, h => by simp [pyd] at h; subst h; rfl
  | .ty n, _, h => by simp [pyd] at h
  | .cl n, _, h => by simp [pyd] at h
  | .wt n, _, h => by simp [pyd] at h
  | .di _ _, _, h => by simp [pyd] at h
  | .dct _ _, _, h => by simp [pyd] at h
  | .ins _ _, _, h => by simp [pyd] at h
  | .tup xs, _, h => by
    simp only [pyd, Option.map_eq_some_iff] at h
    obtain ⟨ps, h1, rfl⟩ := h
    rw [PyData.plain]; exact pyds_plain h1
  | .lst xs, _, h => by
    simp only [pyd, Option.map_eq_some_iff] at h
    obtain ⟨ps, h1, rfl⟩ := h
    rw [PyData.plain]; exact pyds_plain h1
theorem pyds_plain : ∀ {ds : List D} {ps : List PyData}, pyds ds = some ps → PyData.plainAll ps = true
  | [], _, h => by simp [pyds] at h; subst h; rfl
  | d :: ds, _, h => by
    simp only [pyds] at h
    split at h
    · rename_i a b ha hb
      cases h
      rw [PyData.plainAll, pyd_plain ha, pyds_plain hb]; rfl
    · cases h
end

/-! ### comparisons of data -/
def dpth (p : PyData) : Bool := decide (p.depth ≤ 50)
def evEq (x y : D) : Option Bool := match pyd x, pyd y with
  | some a, some b => if dpth a = true then some (PyData.eqv a b) else none
  | _, _ => none
def nnP : PyData → Bool
  | .none => false
  | _ => true
def isNon : D → Bool
  | .non => true
  | _ => false
def evLt (x y : D) : Option Bool := match pyd x, pyd y with
  | some a, some b => if (PySem.W.alike a b && dpth a && nnP a) = true then some (PySem.W.dataLt a b) else none
  | _, _ => none
theorem room_dpth {A : Around} {k : Nat} {a b : PyData} (hr : Room k A) (h : dpth a = true) : A.units + min a.depth b.depth < cLine := by
  have h1 := hr.units
  have h2 : a.depth ≤ 50 := of_decide_eq_true h
  have h3 : min a.depth b.depth ≤ a.depth := Nat.min_le_left _ _
  omega
theorem eq_ok {x y : D} {k : Bool} {n : Nat} (hK : X.K = G.K) (hr : Room n X.A) (h : evEq x y = some k) : OpR X (compareOp .Eq) (r2 G x y (.bl k)) := by
  intro pins s σ H a b v u Q I ra rb ⟨Kn, ex, rx, ry, q⟩
  unfold evEq at h
  split at h
  · rename_i pa pb ha hb
    split at h
    · rename_i hd
      cases h
      obtain ⟨as, r1⟩ := rx.reads hK I ex ra ha
      obtain ⟨bs, r2⟩ := ry.reads hK I ex rb hb
      exact SeqAt.eq_plain r1 r2 (pyd_plain ha) (pyd_plain hb) (room_dpth hr hd) ⟨.bl _, H, I, rfl, q _ H Kn (Step.refl ex) (.bl _)⟩
    · cases h
  · cases h
theorem ne_ok {x y : D} {k : Bool} {n : Nat} (hK : X.K = G.K) (hr : Room n X.A) (h : evEq x y = some k) : OpR X (compareOp .NotEq) (r2 G x y (.bl !k)) := by
  intro pins s σ H a b v u Q I ra rb ⟨Kn, ex, rx, ry, q⟩
  unfold evEq at h
  split at h
  · rename_i pa pb ha hb
    split at h
    · rename_i hd
      cases h
      obtain ⟨as, r1⟩ := rx.reads hK I ex ra ha
      obtain ⟨bs, r2⟩ := ry.reads hK I ex rb hb
      exact SeqAt.ne_plain r1 r2 (pyd_plain ha) (pyd_plain hb) (room_dpth hr hd) ⟨.bl _, H, I, rfl, q _ H Kn (Step.refl ex) (.bl _)⟩
    · cases h
  · cases h
theorem lt_core {x y : D} {k : Bool} (h : evLt x y = some k) : ∃ a b, pyd x = some a ∧ pyd y = some b ∧ PySem.W.alike a b = true ∧ a ≠ .none ∧ dpth a = true ∧ k = PySem.W.dataLt a b := by
  unfold evLt at h
  split at h
  · rename_i pa pb ha hb
    split at h
    · rename_i hc
      simp only [Bool.and_eq_true] at hc
      cases h
      exact ⟨pa, pb, ha, hb, hc.1.1, fun z => by rw [z] at hc; simp [nnP] at hc, hc.1.2, rfl⟩
    · cases h
  · cases h
theorem lt_ok {x y : D} {k : Bool} {n : Nat} (hK : X.K = G.K) (hr : Room n X.A) (h : evLt x y = some k) : OpR X (compareOp .Lt) (r2 G x y (.bl k)) := by
  intro pins s σ H a b v u Q I ra rb ⟨Kn, ex, rx, ry, q⟩
  obtain ⟨pa, pb, ha, hb, al, nn, hd, rfl⟩ := lt_core h
  obtain ⟨as, r1⟩ := rx.reads hK I ex ra ha
  obtain ⟨bs, r2⟩ := ry.reads hK I ex rb hb
  exact PySem.W.lt_data r1 r2 al nn (room_dpth hr hd) ⟨.bl _, H, I, rfl, q _ H Kn (Step.refl ex) (.bl _)⟩
theorem gt_ok {x y : D} {k : Bool} {n : Nat} (hK : X.K = G.K) (hr : Room n X.A) (h : evLt y x = some k) (h2 : (evLt x y).isSome = true) : OpR X (compareOp .Gt) (r2 G x y (.bl k)) := by
  intro pins s σ H a b v u Q I ra rb ⟨Kn, ex, rx, ry, q⟩
  obtain ⟨k2, h2⟩ := Option.isSome_iff_exists.mp h2
  obtain ⟨pa, pb, ha, hb, al, nn, hd, _⟩ := lt_core h2
  obtain ⟨pa', pb', ha', hb', _, _, _, rfl⟩ := lt_core h
  rw [hb] at ha'; rw [ha] at hb'; cases ha'; cases hb'
  obtain ⟨as, r1⟩ := rx.reads hK I ex ra ha
  obtain ⟨bs, r2⟩ := ry.reads hK I ex rb hb
  exact PySem.W.gt_data r1 r2 al nn (room_dpth hr hd) ⟨.bl _, H, I, rfl, q _ H Kn (Step.refl ex) (.bl _)⟩
def evCmp (op : CmpOp) (x y : D) : Option Bool := match op, x, y with
  | .Lt, .int i, .int j => some (decide (i < j))
  | .LtE, .int i, .int j => some (decide (i ≤ j))
  | .Gt, .int i, .int j => some (decide (j < i))
  | .GtE, .int i, .int j => some (decide (j ≤ i))
  | .Eq, x, y => evEq x y
  | .NotEq, x, y => (evEq x y).map (!·)
  | .Lt, x, y => evLt x y
  | .In, .str x, .str z => (match x.cps.toList with | [c] => some (decide (c ∈ z.cps.toList)) | _ => none)
  | .NotIn, .str x, .str z => (match x.cps.toList with | [c] => some (!decide (c ∈ z.cps.toList)) | _ => none)
  | .In, x, .tup ys => (match pyd x, pyds ys with | some a, some b => if dpth a = true then some (b.any fun z => PyData.eqv z a) else none | _, _ => none)
  | .NotIn, x, .tup ys => (match pyd x, pyds ys with | some a, some b => if dpth a = true then some (!b.any fun z => PyData.eqv z a) else none | _, _ => none)
  | .In, x, .lst ys => (match pyd x, pyds ys with | some a, some b => if dpth a = true then some (b.any fun z => PyData.eqv z a) else none | _, _ => none)
  | .NotIn, x, .lst ys => (match pyd x, pyds ys with | some a, some b => if dpth a = true then some (!b.any fun z => PyData.eqv z a) else none | _, _ => none)
  | .Is, x, .non => some (isNon x)
  | .IsNot, x, .non => some (!isNon x)
  | .Is, .bl a, .bl b => some (decide (a = b))
  | .IsNot, .bl a, .bl b => some (!decide (a = b))
  | _, _, _ => none
theorem str_one {x : Str} {c : Nat} (h : x.cps.toList = [c]) : x = ⟨#[c]⟩ := by
  cases x with
  | mk a => simp only at h; congr; exact Array.toList_inj.mp (by simpa using h)
theorem room_in {A : Around} {k : Nat} {a : PyData} {xs : List PyData} (hr : Room k A) (h : dpth a = true) : A.units + 1 + min (PyData.depthAll xs) a.depth < cLine := by
  have h1 := hr.units
  have h2 : a.depth ≤ 50 := of_decide_eq_true h
  have h3 : min (PyData.depthAll xs) a.depth ≤ a.depth := Nat.min_le_right _ _
  omega
theorem RelD.non_iff {Kn : Hp} {d : D} {v : V} (r : RelD G Kn d v) : decide (v = .non) = isNon d := by cases r <;> simp [isNon]
theorem cmp_ok {op : CmpOp} {x y : D} {k : Bool} {n : Nat} (hK : X.K = G.K) (hr : Room n X.A) (h : evCmp op x y = some k) : OpR X (compareOp op) (r2 G x y (.bl k)) := by
  unfold evCmp at h
  split at h
  · cases h; exact OpR.byD op_lt fun Kn H v u Q ex r1 r2 q => by cases r1; cases r2; exact ⟨_, _, rfl, rfl, q _ H Kn (Step.refl ex) (.bl _)⟩
  · cases h; exact OpR.byD op_le fun Kn H v u Q ex r1 r2 q => by cases r1; cases r2; exact ⟨_, _, rfl, rfl, q _ H Kn (Step.refl ex) (.bl _)⟩
  · cases h; exact OpR.byD op_gt fun Kn H v u Q ex r1 r2 q => by cases r1; cases r2; exact ⟨_, _, rfl, rfl, q _ H Kn (Step.refl ex) (.bl _)⟩
  · cases h; exact OpR.byD op_ge fun Kn H v u Q ex r1 r2 q => by cases r1; cases r2; exact ⟨_, _, rfl, rfl, q _ H Kn (Step.refl ex) (.bl _)⟩
  · exact eq_ok hK hr h
  · obtain ⟨k', h', rfl⟩ := Option.map_eq_some_iff.mp h; exact ne_ok hK hr h'
  · exact lt_ok hK hr h
  · split at h
    · rename_i c hc
      cases h
      exact OpR.byD op_in_sign fun Kn H v u Q ex r1 r2 q => by cases r1; cases r2; exact ⟨c, _, by rw [str_one hc], rfl, q _ H Kn (Step.refl ex) (.bl _)⟩
    · cases h
  · split at h
    · rename_i c hc
      cases h
      exact OpR.byD op_notInS fun Kn H v u Q ex r1 r2 q => by cases r1; cases r2; exact ⟨c, _, by rw [str_one hc], rfl, q _ H Kn (Step.refl ex) (.bl _)⟩
    · cases h
  all_goals first
    | (intro pins s σ H a b v u Q I ra rb ⟨Kn, ex, rx, ry, q⟩
       split at h
       · rename_i pa pb ha hb
         split at h
         · rename_i hd
           cases h
           obtain ⟨as, r1⟩ := rx.reads hK I ex ra ha
           obtain ⟨bs, r2⟩ := ry.reads hK I ex rb (by first | (show pyd (.tup _) = some (.tuple pb); rw [pyd, hb]; rfl) | (show pyd (.lst _) = some (.list pb); rw [pyd, hb]; rfl))
           first
             | exact SeqAt.in_tuple_data r2 r1 (pyds_plain hb) (pyd_plain ha) (room_in hr hd) ⟨.bl _, H, I, rfl, q _ H Kn (Step.refl ex) (.bl _)⟩
             | exact SeqAt.notIn_tuple_data r2 r1 (pyds_plain hb) (pyd_plain ha) (room_in hr hd) ⟨.bl _, H, I, rfl, q _ H Kn (Step.refl ex) (.bl _)⟩
             | exact SeqAt.in_list_data r2 r1 (pyds_plain hb) (pyd_plain ha) (room_in hr hd) ⟨.bl _, H, I, rfl, q _ H Kn (Step.refl ex) (.bl _)⟩
             | exact SeqAt.notIn_list_data r2 r1 (pyds_plain hb) (pyd_plain ha) (room_in hr hd) ⟨.bl _, H, I, rfl, q _ H Kn (Step.refl ex) (.bl _)⟩
         · cases h
       · cases h)
    | (cases h; exact OpR.byD op_isN fun Kn H v u Q ex r1 r2 q => by
        cases r2; refine ⟨rfl, q _ H Kn (Step.refl ex) ?_⟩; rw [r1.non_iff]; exact .bl _)
    | (cases h; exact OpR.byD op_notN fun Kn H v u Q ex r1 r2 q => by
        cases r2; refine ⟨rfl, q _ H Kn (Step.refl ex) ?_⟩; rw [r1.non_iff]; exact .bl _)
    | (cases h; exact OpR.byD op_is_bl fun Kn H v u Q ex r1 r2 q => by cases r1; cases r2; exact ⟨_, _, rfl, rfl, q _ H Kn (Step.refl ex) (.bl _)⟩)
    | (cases h; exact OpR.byD op_isnot_bl fun Kn H v u Q ex r1 r2 q => by cases r1; cases r2; exact ⟨_, _, rfl, rfl, q _ H Kn (Step.refl ex) (.bl _)⟩)
    | (cases h; done)
end
end Ev
set_option maxHeartbeats 4000000
/-! Ev: statements by data. -/
namespace Ev
open PySem PySem.Spec PyProof.Rows L2

/-- what a call comes to: a datum, or an exception of a class -/
inductive R where
  | ok (d : D)
  | ex (c : Nat)
/-- a slot: unknown, known, one's own -/
inductive Sl where
  | no
  | fr (d : D)
  | ow (d : D)
abbrev EnvS := List Sl
def Sl.see : Sl → Option D
  | .fr d => some d
  | .no => none
  | .ow _ => none
def see (env : EnvS) : Env := env.map Sl.see
inductive O where
  | nx (e : EnvS)
  | rt (d : D)
  | bk (e : EnvS)
  | ct (e : EnvS)
  | ex (c : Nat)

structure RS (G : Gx) (H0 K0 : Hp) (env : EnvS) (σ : St) (H Kn : Hp) : Prop where
  st : Step H0 K0 H Kn
  len : env.length = σ.length
  fr : ∀ (i : Nat) (d : D), env[i]? = some (.fr d) → ∃ v, σ[i]? = some (some v) ∧ RelD G Kn d v
  ow : ∀ (i : Nat) (d : D), env[i]? = some (.ow d) → ∃ p, σ[i]? = some (some (.ref p)) ∧ H0 p = none ∧ Kn p = none ∧ Own G Kn H p d
  sep : ∀ (i j : Nat) (d e : D), env[i]? = some (.ow d) → env[j]? = some (.ow e) → i ≠ j → σ[i]? ≠ σ[j]?

section
variable {G : Gx} {H0 K0 H H' Kn Kn' : Hp} {env : EnvS} {σ : St}
theorem Own.there {p : Addr} {d : D} (o : Own G Kn H p d) : ∃ u, H p = some u := by
  cases o with
  | lst h _ => exact ⟨_, h⟩
  | dctK h _ _ => exact ⟨_, h⟩
  | dctN h _ _ _ => exact ⟨_, h⟩
  | di h _ _ => exact ⟨_, h⟩
theorem Own.step {p : Addr} {d : D} (o : Own G Kn H p d) (s : Step H Kn H' Kn') : Own G Kn' H' p d := by
  cases o with
  | lst h r => exact .lst (s.ex _ _ h) (r.mono s.kx)
  | dctK h r q => exact .dctK (s.ex _ _ h) (r.mono s.kx) (q.mono s.kx)
  | dctN h r k q => exact .dctN (s.ex _ _ h) (r.mono s.kx) k (q.mono s.kx)
  | di h a b => exact .di (s.ex _ _ h) a b
/-- another object is changed, and more is known -/
theorem Own.keep {p : Addr} {d : D} (o : Own G Kn H p d) (k : Ex Kn Kn') (h : H' p = H p) : Own G Kn' H' p d := by
  cases o with
  | lst a r => exact .lst (h.trans a) (r.mono k)
  | dctK a r q => exact .dctK (h.trans a) (r.mono k) (q.mono k)
  | dctN a r e q => exact .dctN (h.trans a) (r.mono k) e (q.mono k)
  | di a x y => exact .di (h.trans a) x y
theorem RS.step (r : RS G H0 K0 env σ H Kn) (s : Step H Kn H' Kn') : RS G H0 K0 env σ H' Kn' := by
  refine ⟨r.st.trans s, r.len, fun i d e => ?_, fun i d e => ?_, r.sep⟩
  · obtain ⟨v, a, b⟩ := r.fr i d e
    exact ⟨v, a, b.mono s.kx⟩
  · obtain ⟨p, a, b, c, o⟩ := r.ow i d e
    obtain ⟨u, hu⟩ := o.there
    exact ⟨p, a, b, (s.fr p u hu).trans c, o.step s⟩
theorem see_at {i : Nat} {d : D} (h : (see env)[i]? = some (some d)) : env[i]? = some (.fr d) := by
  unfold see at h
  rw [List.getElem?_map] at h
  cases e : env[i]? with
  | none => rw [e] at h; cases h
  | some s =>
    rw [e] at h
    cases s with
    | no => simp [Sl.see] at h
    | fr x => simp [Sl.see] at h; rw [h]
    | ow x => simp [Sl.see] at h
theorem RS.relE (r : RS G H0 K0 env σ H Kn) : RelE G Kn (see env) σ := ⟨by unfold see; rw [List.length_map]; exact r.len, fun i d h => r.fr i d (see_at h)⟩
/-- a slot is set to what is known -/
theorem RS.put {i : Nat} {d : D} {v : V} (r : RS G H0 K0 env σ H Kn) (rd : RelD G Kn d v) : RS G H0 K0 (env.set i (.fr d)) (σ.set i (some v)) H Kn := by
  refine ⟨r.st, by rw [List.length_set, List.length_set, r.len], fun j e h => ?_, fun j e h => ?_, fun j k d1 d2 h1 h2 hjk => ?_⟩
  · by_cases hj : i = j
    · subst hj
      have hl : i < env.length := by
        have := (List.getElem?_eq_some_iff.mp h).1
        simpa using this
      rw [List.getElem?_set_self hl] at h
      cases h
      exact ⟨v, by rw [List.getElem?_set_self (by rw [← r.len]; exact hl)], rd⟩
    · rw [List.getElem?_set_ne hj] at h ⊢
      exact r.fr j e h
  · by_cases hj : i = j
    · subst hj
      have hl : i < env.length := by
        have := (List.getElem?_eq_some_iff.mp h).1
        simpa using this
      rw [List.getElem?_set_self hl] at h
      cases h
    · rw [List.getElem?_set_ne hj] at h ⊢
      exact r.ow j e h
  · have ne : ∀ {m : Nat} {x : D}, (env.set i (.fr d))[m]? = some (.ow x) → i ≠ m ∧ env[m]? = some (.ow x) := fun {m x} hm => by
      by_cases hj : i = m
      · subst hj
        have hl : i < env.length := by
          have := (List.getElem?_eq_some_iff.mp hm).1
          simpa using this
        rw [List.getElem?_set_self hl] at hm
        cases hm
      · rw [List.getElem?_set_ne hj] at hm
        exact ⟨hj, hm⟩
    obtain ⟨n1, e1⟩ := ne h1
    obtain ⟨n2, e2⟩ := ne h2
    rw [List.getElem?_set_ne n1, List.getElem?_set_ne n2]
    exact r.sep j k d1 d2 e1 e2 hjk
/-- .. to a new object of one's own -/
theorem RS.putOwn {i : Nat} {d : D} {p : Addr} (r : RS G H0 K0 env σ H Kn) (s : Step H Kn H' Kn') (hp : H p = none) (hk : Kn' p = none) (o : Own G Kn' H' p d) : RS G H0 K0 (env.set i (.ow d)) (σ.set i (some (.ref p))) H' Kn' := by
  have r2 := r.step s
  have out : ∀ {m : Nat} {s' : Sl}, i ≠ m → (env.set i (.ow d))[m]? = some s' → env[m]? = some s' := fun {m s'} hm h => by rw [List.getElem?_set_ne hm] at h; exact h
  have hl : ∀ {s' : Sl}, (env.set i (.ow d))[i]? = some s' → i < env.length := fun {s'} h => by
    have := (List.getElem?_eq_some_iff.mp h).1
    simpa using this
  have nin : ∀ (m : Nat) (x : D), env[m]? = some (.ow x) → σ[m]? ≠ some (some (.ref p)) := fun m x hm z => by
    obtain ⟨q, a, b, c, ow⟩ := r.ow m x hm
    obtain ⟨u, hu⟩ := ow.there
    rw [a] at z
    cases z
    rw [hp] at hu
    cases hu
  refine ⟨r2.st, by rw [List.length_set, List.length_set, r.len], fun j e h => ?_, fun j e h => ?_, fun j k d1 d2 h1 h2 hjk => ?_⟩
  · by_cases hj : i = j
    · subst hj
      rw [List.getElem?_set_self (hl h)] at h
      cases h
    · rw [List.getElem?_set_ne hj]
      exact r2.fr j e (out hj h)
  · by_cases hj : i = j
    · subst hj
      have h2 := h
      rw [List.getElem?_set_self (hl h)] at h2
      cases h2
      exact ⟨p, by rw [List.getElem?_set_self (by rw [← r.len]; exact hl h)], Evl.fresh_back r.st.ex hp, hk, o⟩
    · rw [List.getElem?_set_ne hj]
      exact r2.ow j e (out hj h)
  · by_cases hj : i = j
    · subst hj
      have hk' := out hjk h2
      rw [List.getElem?_set_self (by rw [← r.len]; exact hl h1), List.getElem?_set_ne hjk]
      exact fun z => nin k d2 hk' z.symm
    · by_cases hk2 : i = k
      · subst hk2
        rw [List.getElem?_set_self (by rw [← r.len]; exact hl h2), List.getElem?_set_ne hj]
        exact nin j d1 (out hj h1)
      · rw [List.getElem?_set_ne hj, List.getElem?_set_ne hk2]
        exact r.sep j k d1 d2 (out hj h1) (out hk2 h2) hjk
/-- what is one's own is changed -/
theorem RS.mut {i : Nat} {d d' : D} {p : Addr} {o : HO} (r : RS G H0 K0 env σ H Kn) (he : env[i]? = some (.ow d)) (hs : σ[i]? = some (some (.ref p))) (hn : Own G Kn (upd H p o) p d') : RS G H0 K0 (env.set i (.ow d')) σ (upd H p o) Kn := by
  obtain ⟨q, a, b, c, ow⟩ := r.ow i d he
  rw [hs] at a
  cases a
  have hl : i < env.length := (List.getElem?_eq_some_iff.mp he).1
  refine ⟨⟨fun x u hx => by rw [upd_ne (fun z => by rw [z, b] at hx; cases hx)]; exact r.st.ex x u hx, r.st.kx, fun x u hx => by rw [upd_ne (fun z => by rw [z, c] at hx; cases hx)]; exact r.st.sub x u hx, r.st.fr⟩, by rw [List.length_set]; exact r.len, fun j e h => ?_, fun j e h => ?_, fun j k d1 d2 h1 h2 hjk => ?_⟩
  · by_cases hj : i = j
    · subst hj; rw [List.getElem?_set_self hl] at h; cases h
    · rw [List.getElem?_set_ne hj] at h; exact r.fr j e h
  · by_cases hj : i = j
    · subst hj; rw [List.getElem?_set_self hl] at h; cases h; exact ⟨p, hs, b, c, hn⟩
    · rw [List.getElem?_set_ne hj] at h
      obtain ⟨q, a', b', c', ow'⟩ := r.ow j e h
      refine ⟨q, a', b', c', ow'.keep (Evl.Ex.refl _) (upd_ne fun z => ?_)⟩
      subst z
      exact r.sep i j d e he h hj (hs.trans a'.symm)
  · have back : ∀ {m : Nat} {x : D}, (env.set i (.ow d'))[m]? = some (.ow x) → ∃ y, env[m]? = some (.ow y) := fun {m x} hm => by
      by_cases hj : i = m
      · subst hj; exact ⟨d, he⟩
      · rw [List.getElem?_set_ne hj] at hm; exact ⟨x, hm⟩
    obtain ⟨_, e1⟩ := back h1
    obtain ⟨_, e2⟩ := back h2
    exact r.sep j k _ _ e1 e2 hjk
end

/-- the ground and what is known -/
def mrgH (Kn H0 : Hp) : Hp := fun a => match Kn a with
  | some o => some o
  | none => H0 a
theorem mrgH_none {Kn H0 : Hp} {a : Addr} (h : mrgH Kn H0 a = none) : Kn a = none ∧ H0 a = none := by
  unfold mrgH at h
  cases e : Kn a with
  | none => rw [e] at h; exact ⟨rfl, h⟩
  | some o => rw [e] at h; cases h
theorem mrgH_of {Kn H0 : Hp} {a : Addr} (h1 : Kn a = none) (h2 : H0 a = none) : mrgH Kn H0 a = none := by unfold mrgH; rw [h1]; exact h2
theorem mrgH_left {Kn H0 : Hp} {a : Addr} {o : HO} (h : Kn a = some o) : mrgH Kn H0 a = some o := by unfold mrgH; rw [h]
theorem mrgH_right {Kn H0 H : Hp} {a : Addr} {o : HO} (e1 : Ex Kn H) (e2 : Ex H0 H) (h : H0 a = some o) : mrgH Kn H0 a = some o := by
  unfold mrgH
  cases e : Kn a with
  | none => exact h
  | some u => exact (e1 a u e).symm.trans (e2 a o h)
theorem RS.rebase {G : Gx} {H0 K0 H Kn : Hp} {env : EnvS} {σ : St} (r : RS G H0 K0 env σ H Kn) : RS G (mrgH Kn H0) Kn env σ H Kn := by
  refine ⟨⟨fun a o h => ?_, Evl.Ex.refl _, r.st.sub, fun _ _ _ => rfl⟩, r.len, r.fr, fun i d e => ?_, r.sep⟩
  · cases e : Kn a with
    | some u => rw [mrgH_left e] at h; cases h; exact r.st.sub a _ e
    | none => unfold mrgH at h; rw [e] at h; exact r.st.ex a o h
  · obtain ⟨p, a, b, c, ow⟩ := r.ow i d e
    exact ⟨p, a, mrgH_of c b, c, ow⟩
theorem Step.unbase {H0 K0 H Kn H' Kn' : Hp} (a : Step H0 K0 H Kn) (b : Step (mrgH Kn H0) Kn H' Kn') : Step H0 K0 H' Kn' :=
  ⟨fun x o h => b.ex x o (mrgH_right a.sub a.ex h), a.kx.trans b.kx, b.sub, fun x o h => (b.fr x o (mrgH_right a.sub a.ex h)).trans (a.fr x o h)⟩
theorem RS.unbase {G : Gx} {H0 K0 H Kn H' Kn' : Hp} {env : EnvS} {σ : St} (a : Step H0 K0 H Kn) (r : RS G (mrgH Kn H0) Kn env σ H' Kn') : RS G H0 K0 env σ H' Kn' :=
  ⟨a.unbase r.st, r.len, r.fr, fun i d e => let ⟨p, x, y, z, ow⟩ := r.ow i d e; ⟨p, x, (mrgH_none y).2, z, ow⟩, r.sep⟩

/-- the wished end of a statement -/
def tO (G : Gx) (E : XK) (H0 K0 : Hp) : O → Ends → Prop
  | .nx env, D => ∀ σ H Kn, RS G H0 K0 env σ H Kn → D.nx σ H
  | .rt d, D => ∀ v H Kn, Step H0 K0 H Kn → RelD G Kn d v → D.rt v H
  | .bk env, D => ∀ σ H Kn, RS G H0 K0 env σ H Kn → D.bk σ H
  | .ct env, D => ∀ σ H Kn, RS G H0 K0 env σ H Kn → D.ct σ H
  | .ex c, _ => ∀ dd H Kn, Step H0 K0 H Kn → E (.ref (G.cad c)) dd H
def tS (G : Gx) (E : XK) (H0 K0 : Hp) (env : EnvS) (o : O) : TS := fun D σ H => (∃ Kn, RS G H0 K0 env σ H Kn) ∧ tO G E H0 K0 o D
def SS (X : Cx) (G : Gx) (E : XK) (st : Stmt) (g : EnvS → Option O) : Prop := ∀ H0 K0 env o, g env = some o → PS X st (tS G E H0 K0 env o)
def SSs (X : Cx) (G : Gx) (E : XK) (st : List Stmt) (g : EnvS → Option O) : Prop := ∀ H0 K0 env o, g env = some o → PSs X st (tS G E H0 K0 env o)
def SD (X : Cx) (G : Gx) (e : Expr) (f : Env → Option D) : Prop := ∀ env d, f env = some d → PE X e (tD G env d)
def SF (X : Cx) (G : Gx) (e : Expr) (f : Env → Option D) : Prop := ∀ env d, f env = some d → PE X e (tF G env d)
def ST (X : Cx) (G : Gx) (e : Expr) (f : Env → Option Bool) : Prop := ∀ env b, f env = some b → PT X e (tTst G env b)
def SA (X : Cx) (G : Gx) (es : List Expr) (f : Env → Option (List D)) : Prop := ∀ env ds, f env = some ds → PA X es (tDs G env ds)
def SI (X : Cx) (G : Gx) (tg e : Expr) (f : Env → Option (List D)) : Prop := ∀ env ds, f env = some ds → PI X tg e (tI G env ds)

section
variable {X : Cx} {G : Gx} {E : XK} {st : Stmt} {sts : List Stmt} {pos : Pos} {e : Expr}
/-- nothing is promised: never reached -/
theorem SD.no : SD X G e (fun _ => none) := fun _ _ h => nomatch h
theorem ST.no : ST X G e (fun _ => none) := fun _ _ h => nomatch h
theorem SS.no : SS X G E st (fun _ => none) := fun _ _ _ _ h => nomatch h
theorem SSs.no : SSs X G E sts (fun _ => none) := fun _ _ _ _ h => nomatch h
theorem SF.sd {f : Env → Option D} (h : SF X G e f) : SD X G e f := fun env d q => tF_tD (h env d q)

def gSkip : EnvS → Option O := fun env => some (.nx env)
def gSeq (g h : EnvS → Option O) : EnvS → Option O := fun env => match g env with
  | some (.nx e) => h e
  | some (.rt d) => some (.rt d)
  | some (.bk e) => some (.bk e)
  | some (.ct e) => some (.ct e)
  | some (.ex c) => some (.ex c)
  | none => none
theorem SSs.nil : SSs X G E [] gSkip := fun H0 K0 env o h => by
  cases h
  exact PSs.weak pss_nil fun D σ H ⟨⟨Kn, r⟩, q⟩ => q σ H Kn r
theorem SSs.cons {g h : EnvS → Option O} (h1 : SS X G E st g) (h2 : SSs X G E sts h) : SSs X G E (st :: sts) (gSeq g h) := fun H0 K0 env o hg => by
  unfold gSeq at hg
  cases e1 : g env with
  | none => rw [e1] at hg; cases hg
  | some o1 =>
    rw [e1] at hg
    cases o1 with
    | nx env1 => exact PSs.weak (pss_cons (h1 H0 K0 env _ e1) (h2 H0 K0 env1 o hg)) fun D σ H ⟨r, q⟩ => ⟨r, fun σ1 H1 K1 r1 => ⟨⟨K1, r1⟩, q⟩⟩
    | rt d => cases hg; exact PSs.weak (pss_cons (h1 H0 K0 env _ e1) pss_no) fun D σ H h => h
    | bk d => cases hg; exact PSs.weak (pss_cons (h1 H0 K0 env _ e1) pss_no) fun D σ H h => h
    | ct d => cases hg; exact PSs.weak (pss_cons (h1 H0 K0 env _ e1) pss_no) fun D σ H h => h
    | ex d => cases hg; exact PSs.weak (pss_cons (h1 H0 K0 env _ e1) pss_no) fun D σ H h => h
theorem SSs.one {g : EnvS → Option O} (h1 : SS X G E st g) : SSs X G E [st] g := fun H0 K0 env o hg => pss_one (h1 H0 K0 env o hg)

/-! ### one's own is given away -/
def frz1 (i : Nat) (env : EnvS) : EnvS := match env[i]? with
  | some (.ow d) => env.set i (.fr d)
  | _ => env
def frzL : List Nat → EnvS → EnvS
  | [], env => env
  | i :: is, env => frz1 i (frzL is env)
theorem frz_run {pins : List (Addr × Obj)} {s : Shared} {H0 K0 H Kn : Hp} {env : EnvS} {σ : St} {i : Nat} (I : Inv X pins σ H s) (r : RS G H0 K0 env σ H Kn) : ∃ H' Kn', Inv X pins σ H' s ∧ RS G H0 K0 (frz1 i env) σ H' Kn' := by
  unfold frz1
  split
  · rename_i d he
    obtain ⟨p, a, b, c, ow⟩ := r.ow i d he
    obtain ⟨H', K', J, a1, a2, a3, a4, rd⟩ := ow.give I r.st.sub c
    have hl : i < env.length := (List.getElem?_eq_some_iff.mp he).1
    refine ⟨H', K', J, ⟨fun x u hx => ?_, r.st.kx.trans a1, a2, fun x u hx => (a3 x ?_).trans (r.st.fr x u hx)⟩, by rw [List.length_set]; exact r.len, fun j e h => ?_, fun j e h => ?_, fun j k d1 d2 h1 h2 hjk => ?_⟩
    · rw [a4 x (fun z => by rw [z, b] at hx; cases hx)]; exact r.st.ex x u hx
    · intro z; rw [z, b] at hx; cases hx
    · by_cases hj : i = j
      · subst hj; rw [List.getElem?_set_self hl] at h; cases h; exact ⟨_, a, rd⟩
      · rw [List.getElem?_set_ne hj] at h
        obtain ⟨v, x, y⟩ := r.fr j e h
        exact ⟨v, x, y.mono a1⟩
    · by_cases hj : i = j
      · subst hj; rw [List.getElem?_set_self hl] at h; cases h
      · rw [List.getElem?_set_ne hj] at h
        obtain ⟨q, a', b', c', ow'⟩ := r.ow j e h
        have hq : q ≠ p := fun z => by subst z; exact r.sep i j d e he h hj (a.trans a'.symm)
        exact ⟨q, a', b', (a3 q hq).trans c', ow'.keep a1 (a4 q hq)⟩
    · have back : ∀ {m : Nat} {x : D}, (env.set i (.fr d))[m]? = some (.ow x) → env[m]? = some (.ow x) := fun {m x} hm => by
        by_cases hj : i = m
        · subst hj; rw [List.getElem?_set_self hl] at hm; cases hm
        · rw [List.getElem?_set_ne hj] at hm; exact hm
      exact r.sep j k _ _ (back h1) (back h2) hjk
  · exact ⟨H, Kn, I, r⟩
theorem frz_runL {pins : List (Addr × Obj)} {s : Shared} {H0 K0 H Kn : Hp} {env : EnvS} {σ : St} (I : Inv X pins σ H s) (r : RS G H0 K0 env σ H Kn) : ∀ is : List Nat, ∃ H' Kn', Inv X pins σ H' s ∧ RS G H0 K0 (frzL is env) σ H' Kn'
  | [] => ⟨H, Kn, I, r⟩
  | i :: is => by
    obtain ⟨H1, K1, I1, r1⟩ := frz_runL I r is
    exact frz_run I1 r1
theorem SS.frz {g : EnvS → Option O} (is : List Nat) (h : SS X G E st g) : SS X G E st (fun env => g (frzL is env)) := fun H0 K0 env o hg =>
  ⟨fun pins s σ H D I ⟨⟨Kn, r⟩, q⟩ => by
    obtain ⟨H1, K1, I1, r1⟩ := frz_runL I r is
    exact (h H0 K0 _ o hg).run pins s σ H1 D I1 ⟨⟨K1, r1⟩, q⟩⟩

/-! ### small statements -/
theorem SS.pass : SS X G E (.Pass pos) gSkip := fun H0 K0 env o h => by
  cases h
  exact PS.weak ps_pass fun D σ H ⟨⟨Kn, r⟩, q⟩ => q σ H Kn r
def gRet (f : Env → Option D) : EnvS → Option O := fun env => (f (see env)).map .rt
theorem SS.ret {f : Env → Option D} (h : SD X G e f) : SS X G E (.Return (some e) pos) (gRet f) := fun H0 K0 env o hg => by
  unfold gRet at hg
  cases e1 : f (see env) with
  | none => rw [e1] at hg; cases hg
  | some d =>
    rw [e1] at hg; cases hg
    exact PS.weak (ps_ret (h _ d e1)) fun D σ H ⟨⟨Kn, r⟩, q⟩ => ⟨Kn, r.st.sub, r.relE, fun v H1 K1 s1 rd => q v H1 K1 (r.st.trans s1) rd⟩
theorem SS.retN : SS X G E (.Return none pos) (fun _ => some (.rt .non)) := fun H0 K0 env o h => by
  cases h
  exact PS.weak ps_retN fun D σ H ⟨⟨Kn, r⟩, q⟩ => q .non H Kn r.st .non
def gIf (c : Env → Option Bool) (a b : EnvS → Option O) : EnvS → Option O := fun env => match c (see env) with
  | some true => a env
  | some false => b env
  | none => none
theorem SS.ife {c : Expr} {p q : List Stmt} {fc : Env → Option Bool} {a b : EnvS → Option O} (hc : ST X G c fc) (ha : SSs X G E p a) (hb : SSs X G E q b) : SS X G E (.If c p q pos) (gIf fc a b) := fun H0 K0 env o hg => by
  unfold gIf at hg
  cases e1 : fc (see env) with
  | none => rw [e1] at hg; cases hg
  | some k =>
    rw [e1] at hg
    cases k with
    | true => exact PS.weak (ps_if (hc _ _ e1) (ha H0 K0 env o hg) pss_no) fun D σ H ⟨⟨Kn, r⟩, q⟩ => ⟨Kn, r.st.sub, r.relE, fun H1 K1 s1 => iteT ⟨⟨K1, r.step s1⟩, q⟩⟩
    | false => exact PS.weak (ps_if (hc _ _ e1) pss_no (hb H0 K0 env o hg)) fun D σ H ⟨⟨Kn, r⟩, q⟩ => ⟨Kn, r.st.sub, r.relE, fun H1 K1 s1 => iteF ⟨⟨K1, r.step s1⟩, q⟩⟩
def gSet (i : Nat) (f : Env → Option D) : EnvS → Option O := fun env => (f (see env)).map fun d => .nx (env.set i (.fr d))
def gOwn (i : Nat) (f : Env → Option D) : EnvS → Option O := fun env => (f (see env)).map fun d => .nx (env.set i (.ow d))
theorem SS.set {i : Nat} {x : Str} {pos' : Pos} {f : Env → Option D} (hN : X.N.Nodup) (hi : X.N[i]? = some x) (hx : Loc X.env.scope x) (he : SD X G e f) (hs : swapsWith e (some (.Name x pos')) pos.line X.env = pure false) (hf : X.fn x = true ∨ X.env.scope.names.lookup x = some .local) :
    SS X G E (.Assign [.Name x pos'] e pos) (gSet i f) := fun H0 K0 env o hg => by
  unfold gSet at hg
  cases e1 : f (see env) with
  | none => rw [e1] at hg; cases hg
  | some d =>
    rw [e1] at hg; cases hg
    exact PS.weak (ps_set hN hi hx (he _ d e1) hs hf) fun D σ H ⟨⟨Kn, r⟩, q⟩ => ⟨Kn, r.st.sub, r.relE, fun v H1 K1 s1 rd => q _ H1 K1 ((r.step s1).put rd)⟩
theorem SS.setF {i : Nat} {x : Str} {pos' : Pos} {f : Env → Option D} (hN : X.N.Nodup) (hi : X.N[i]? = some x) (hx : Loc X.env.scope x) (he : SF X G e f) (hs : swapsWith e (some (.Name x pos')) pos.line X.env = pure false) (hf : X.fn x = true ∨ X.env.scope.names.lookup x = some .local) :
    SS X G E (.Assign [.Name x pos'] e pos) (gOwn i f) := fun H0 K0 env o hg => by
  unfold gOwn at hg
  cases e1 : f (see env) with
  | none => rw [e1] at hg; cases hg
  | some d =>
    rw [e1] at hg; cases hg
    exact PS.weak (ps_set hN hi hx (he _ d e1) hs hf) fun D σ H ⟨⟨Kn, r⟩, q⟩ => ⟨Kn, r.st.sub, r.relE, fun p H1 K1 s1 hp hk ow => q _ H1 K1 (r.putOwn s1 hp hk ow)⟩
def gExpr (f : Env → Option D) : EnvS → Option O := fun env => (f (see env)).map fun _ => .nx env
theorem SS.expr {f : Env → Option D} (he : SD X G e f) (hs : swapsWith e none pos.line X.env = pure false) : SS X G E (.Expr e pos) (gExpr f) := fun H0 K0 env o hg => by
  unfold gExpr at hg
  cases e1 : f (see env) with
  | none => rw [e1] at hg; cases hg
  | some d =>
    rw [e1] at hg; cases hg
    exact PS.weak (ps_expr (he _ d e1) hs) fun D σ H ⟨⟨Kn, r⟩, q⟩ => ⟨Kn, r.st.sub, r.relE, fun v H1 K1 s1 rd => q σ H1 K1 (r.step s1)⟩
end

/-! ### targets at statements -/
def mrg (env : EnvS) (e2 : Env) (is : List Nat) : EnvS := env.mapIdx fun j s => if j ∈ is then (match e2[j]? with | some (some d) => .fr d | _ => .no) else s
def asgS (t : Tg) (d : D) (env : EnvS) : Option EnvS := (asgT t d (see env)).map fun e2 => mrg env e2 (tgS t)
theorem mrg_in {env : EnvS} {e2 : Env} {is : List Nat} {j : Nat} {s : Sl} (h : (mrg env e2 is)[j]? = some s) (hj : j ∈ is) : (∃ d, s = .fr d ∧ e2[j]? = some (some d)) ∨ s = .no := by
  unfold mrg at h
  rw [List.getElem?_mapIdx] at h
  cases e : env[j]? with
  | none => rw [e] at h; cases h
  | some x =>
    rw [e] at h
    simp only [Option.map_some, Option.some.injEq, if_pos hj] at h
    split at h
    · rename_i d hd; exact .inl ⟨d, h.symm, hd⟩
    · exact .inr h.symm
theorem mrg_out {env : EnvS} {e2 : Env} {is : List Nat} {j : Nat} {s : Sl} (h : (mrg env e2 is)[j]? = some s) (hj : j ∉ is) : env[j]? = some s := by
  unfold mrg at h
  rw [List.getElem?_mapIdx] at h
  cases e : env[j]? with
  | none => rw [e] at h; cases h
  | some x =>
    rw [e] at h
    simp only [Option.map_some, Option.some.injEq, if_neg hj] at h
    rw [h]
theorem RS.merge {G : Gx} {H0 K0 H Kn : Hp} {env : EnvS} {e2 : Env} {σ σ' : St} {is : List Nat} (r : RS G H0 K0 env σ H Kn) (re : RelE G Kn e2 σ') (sm : SameS is σ σ') : RS G H0 K0 (mrg env e2 is) σ' H Kn := by
  have no : ∀ {j : Nat} {d : D}, (mrg env e2 is)[j]? = some (.ow d) → j ∉ is ∧ env[j]? = some (.ow d) := fun {j d} h => by
    by_cases hj : j ∈ is
    · rcases mrg_in h hj with ⟨x, e, _⟩ | e <;> cases e
    · exact ⟨hj, mrg_out h hj⟩
  refine ⟨r.st, by unfold mrg; rw [List.length_mapIdx, sm.len, r.len], fun j d h => ?_, fun j d h => ?_, fun j k d1 d2 h1 h2 hjk => ?_⟩
  · by_cases hj : j ∈ is
    · rcases mrg_in h hj with ⟨x, e, h2⟩ | e
      · cases e; exact re.at_ j d h2
      · cases e
    · rw [sm.at_ j hj]; exact r.fr j d (mrg_out h hj)
  · obtain ⟨n, e⟩ := no h
    rw [sm.at_ j n]; exact r.ow j d e
  · obtain ⟨n1, e1⟩ := no h1
    obtain ⟨n2, e2⟩ := no h2
    rw [sm.at_ j n1, sm.at_ k n2]
    exact r.sep j k d1 d2 e1 e2 hjk

section
variable {X : Cx} {G : Gx} {E : XK} {pos : Pos} {tg iter e : Expr} {body : List Stmt}
/-- a, b = value -/
def gAsg (t : Tg) (f : Env → Option D) : EnvS → Option O := fun env => match f (see env) with
  | some d => (asgS t d env).map .nx
  | none => none
theorem SS.asg {t : Tg} {f : Env → Option D} (he : SD X G e f) (hg : PG X tg (tG G t)) (hs : swapsWithSole [tg] e pos.line X.env = pure false) (hw : swappedStores [tg] e X.env = pure none)
    (h1 : (assignEach [tg] X.env).map (·.2) = [assign tg X.env]) : SS X G E (.Assign [tg] e pos) (gAsg t f) := fun H0 K0 env o hg' => by
  unfold gAsg at hg'
  cases e1 : f (see env) with
  | none => rw [e1] at hg'; cases hg'
  | some d =>
    rw [e1] at hg'
    dsimp only at hg'
    unfold asgS at hg'
    cases e2 : asgT t d (see env) with
    | none => rw [e2] at hg'; cases hg'
    | some en2 =>
      rw [e2] at hg'
      cases hg'
      exact PS.weak (ps_asg (he _ d e1) hg hs hw h1) fun D σ H ⟨⟨Kn, r⟩, q⟩ => ⟨Kn, r.st.sub, r.relE, fun v H1 K1 s1 rd =>
        ⟨K1, see env, d, en2, s1.sub, (r.step s1).relE, rd, e2, fun σ' re sm => q σ' H1 K1 ((r.step s1).merge re sm)⟩⟩
/-- for tg in .. -/
def forD (t : Tg) (b : EnvS → Option O) : List D → EnvS → Option O
  | [], env => some (.nx env)
  | d :: ds, env => match asgS t d env with
    | none => none
    | some env2 => match b env2 with
      | some (.nx e) => forD t b ds e
      | some (.ct e) => forD t b ds e
      | some (.bk e) => some (.nx e)
      | some (.rt d) => some (.rt d)
      | some (.ex c) => some (.ex c)
      | none => none
def gFor (t : Tg) (fi : Env → Option (List D)) (b : EnvS → Option O) : EnvS → Option O := fun env => match fi (see env) with
  | some ds => forD t b ds env
  | none => none
def tSs (G : Gx) (E : XK) (g : EnvS → Option O) : TS := fun D σ H => ∃ H0 K0 env o, g env = some o ∧ tS G E H0 K0 env o D σ H
theorem SSs.any {sts : List Stmt} {g : EnvS → Option O} (h : SSs X G E sts g) : PSs X sts (tSs G E g) := ⟨fun pins s σ H D I ⟨H0, K0, env, o, hg, q⟩ => (h H0 K0 env o hg).run pins s σ H D I q⟩
theorem SS.for_ {t : Tg} {fi : Env → Option (List D)} {b : EnvS → Option O} (hp : PassesOwn (model X.prog X.w) X.A X.env X.xe) (hc : X.calm = true) (hi : SI X G tg iter fi) (hg : PG X tg (tG G t)) (hb : SSs X G E body b) (hs : ∀ x, foldedSetIterable iter X.env x = pure x) :
    SS X G E (.For tg iter body [] pos) (gFor t fi b) := fun H0 K0 env o hgo => by
  unfold gFor at hgo
  cases e1 : fi (see env) with
  | none => rw [e1] at hgo; cases hgo
  | some ds =>
    rw [e1] at hgo
    dsimp only at hgo
    refine PS.weak (ps_for hp hc (hi _ ds e1) hg hb.any hs) fun D σ H ⟨⟨Kn, r⟩, q⟩ => ⟨Kn, r.st.sub, r.relE, fun J H1 K1 s1 it => ?_⟩
    refine ⟨fun i m σ2 H2 => m = ds.length - i ∧ i ≤ ds.length ∧ ∃ K2 env2, Ex K1 K2 ∧ RS G H0 K0 env2 σ2 H2 K2 ∧ forD t b (ds.drop i) env2 = some o, ⟨ds.length, by simp, Nat.zero_le _, K1, env, Evl.Ex.refl _, r.step s1, hgo⟩, ?_⟩
    rintro i m σ2 H2 ⟨rfl, hil, K2, env2, k12, r2, hf⟩
    have exI : Ex K1 H2 := k12.trans r2.st.sub
    by_cases hlt : i < ds.length
    · have hd : ds[i]? = some ds[i] := by simp [hlt]
      obtain ⟨go, yl⟩ := it.2 i ds[i] hd H2 exI
      refine .inr ⟨go, fun σ3 H3 => ∃ K3 env3, Ex K1 K3 ∧ RS G H0 K0 env3 σ3 H3 K3 ∧ forD t b (ds.drop (i + 1)) env3 = some o, fun σ3 H3 w => ⟨ds.length - (i + 1), by omega, rfl, hlt, w⟩, fun x H' hy => ?_⟩
      obtain ⟨K3, s3, rx⟩ := yl x H' hy K2 k12 r2.st.sub
      have hsp : ds.drop i = ds[i] :: ds.drop (i + 1) := List.drop_eq_getElem_cons hlt
      rw [hsp] at hf
      simp only [forD] at hf
      cases ea : asgS t ds[i] env2 with
      | none => rw [ea] at hf; cases hf
      | some env3 =>
        rw [ea] at hf
        dsimp only at hf
        have ea' := ea
        unfold asgS at ea'
        cases eb : asgT t ds[i] (see env2) with
        | none => rw [eb] at ea'; cases ea'
        | some en2 =>
          rw [eb] at ea'
          have r3 := r2.step s3
          refine ⟨K3, see env2, ds[i], en2, s3.sub, r3.relE, rx, eb, fun σ' re sm => ?_⟩
          have r4 : RS G H0 K0 env3 σ' H' K3 := by
            have := r3.merge re sm
            rw [← Option.some.inj ea']
            exact this
          have k13 : Ex K1 K3 := k12.trans s3.kx
          cases eo : b env3 with
          | none => rw [eo] at hf; cases hf
          | some ob =>
            rw [eo] at hf
            refine ⟨mrgH K3 H0, K3, env3, ob, eo, ⟨K3, r4.rebase⟩, ?_⟩
            cases ob with
            | nx e4 => exact fun σ5 H5 K5 r5 => ⟨K5, e4, k13.trans r5.st.kx, RS.unbase r4.st r5, hf⟩
            | ct e4 => exact fun σ5 H5 K5 r5 => ⟨K5, e4, k13.trans r5.st.kx, RS.unbase r4.st r5, hf⟩
            | bk e4 => cases hf; exact fun σ5 H5 K5 r5 => q σ5 H5 K5 (RS.unbase r4.st r5)
            | rt d => cases hf; exact fun v H5 K5 s5 rd => q v H5 K5 (r4.st.unbase s5) rd
            | ex c => cases hf; exact fun dd H5 K5 s5 => q dd H5 K5 (r4.st.unbase s5)
    · have e : i = ds.length := by omega
      subst e
      rw [List.drop_length] at hf
      cases hf
      exact .inl ⟨it.1 H2 exI, q σ2 H2 K2 r2⟩
end
end Ev
set_option maxHeartbeats 4000000
/-! Ev: expressions by data, one rule a construct. -/
namespace Ev
open PySem PySem.Spec PyProof.Rows L2

/-- what stays through a law, for a context -/
structure Gd (X : Cx) (G : Gx) (mg : Str → Option Value) (base : Heap) (k : Nat) : Prop where
  hK : X.K = G.K
  hP : X.prog = G.P
  hw : X.w = G.w
  hm : X.mg = mg
  hb : X.base = base
  hc : X.calm = true
  hN : X.N.Nodup
  hr : Room k X.A
theorem Gd.blk {X : Cx} {G : Gx} {mg : Str → Option Value} {base : Heap} {k : Nat} (g : Gd X G mg base k) (s : Shared) (H : Hp) (scope : Scope) (ce : PySem.Env) (fp : List Addr) : Gd (X.blk s H scope ce fp) G mg base k := ⟨g.hK, g.hP, g.hw, g.hm, g.hb, g.hc, g.hN, g.hr⟩

section
variable {X : Cx} {G : Gx} {e a b c : Expr} {es : List Expr} {pos : Pos} {mg : Str → Option Value} {base : Heap} {k : Nat}
/-! ### names, constants -/
def cC (d : D) : Env → Option D := fun _ => some d
def cV (i : Nat) : Env → Option D := fun env => match env[i]? with
  | some (some d) => some d
  | _ => none
theorem SD.int {i : Int} {j} : SD X G (.Constant (.int i) j pos) (cC (.int i)) := fun env d h => by cases h; exact pd_int
theorem SD.bl {i : Bool} {j} : SD X G (.Constant (.bool i) j pos) (cC (.bl i)) := fun env d h => by cases h; exact pd_bl
theorem SD.non {j} : SD X G (.Constant .none j pos) (cC .non) := fun env d h => by cases h; exact pd_non
theorem SD.str {x : Str} {j} : SD X G (.Constant (.str x) j pos) (cC (.str x)) := fun env d h => by cases h; exact pd_str
theorem SD.var (i : Nat) {x : Str} (hN : X.N[i]? = some x) (hv : Vis X.env.scope x) (hd : (x == ("__debug__" : Str)) = false) (hcd : (x == ("__classdict__" : Str)) = false) : SD X G (.Name x pos) (cV i) := fun env d h => by
  unfold cV at h
  split at h
  · rename_i y hy; cases h; exact pd_var hN hv hy hd hcd
  · cases h
theorem SD.glob {x : Str} {u : Value} {v : V} (d : D) (g : Gd X G mg base k) (hg : Gl X x) (hm : mg x = some u) (r : RelV v u) (rd : ∀ Kn, RelD G Kn d v) (hd : (x == ("__debug__" : Str)) = false) : SD X G (.Name x pos) (cC d) := fun env d' h => by
  cases h; exact pd_c (pe_glob hg (by rw [g.hm]; exact hm) r hd) rd
theorem SD.globI {x : Str} {i : Int} {t : Tok} (g : Gd X G mg base k) (hg : Gl X x) (hm : mg x = some (.int i t)) (hd : (x == ("__debug__" : Str)) = false) : SD X G (.Name x pos) (cC (.int i)) := SD.glob (v := .int i) (.int i) g hg hm ⟨t, rfl⟩ (fun _ => .int i) hd
theorem SD.globS {x z : Str} {t : Tok} (g : Gd X G mg base k) (hg : Gl X x) (hm : mg x = some (.str z t)) (hd : (x == ("__debug__" : Str)) = false) : SD X G (.Name x pos) (cC (.str z)) := SD.glob (v := .str z) (.str z) g hg hm ⟨t, rfl⟩ (fun _ => .str z) hd
theorem SD.cls {x : Str} (c : Nat) (g : Gd X G mg base k) (hg : Gl X x) (hm : mg x = some (.ref (G.cad c))) (hd : (x == ("__debug__" : Str)) = false) : SD X G (.Name x pos) (cC (.cl c)) := SD.glob (v := .ref (G.cad c)) (.cl c) g hg hm rfl (fun _ => .cl c) hd
theorem SD.ty {x : Str} {n : String} (g : Gd X G mg base k) (hg : Gl X x) (hm : mg x = none) (hv : bootBuiltins x = some (.type n)) (hn : x ≠ "__name__") (hd : (x == ("__debug__" : Str)) = false) : SD X G (.Name x pos) (cC (.ty n)) := fun env d h => by
  cases h; exact pd_c (pe_bltn (v := .ty n) hg (by rw [g.hm]; exact hm) hv rfl hn hd) fun _ => .ty n

/-! ### operators -/
def cBin (op : Operator) (f g : Env → Option D) : Env → Option D := fun env => match f env, g env with
  | some x, some y => evBin op x y
  | _, _ => none
def isL : D → Bool
  | .lst _ => true
  | _ => false
def noL (o : Option D) : Option D := match o with
  | some (.lst _) => none
  | r => r
theorem noL_ok {o : Option D} {d : D} (h : noL o = some d) : o = some d ∧ ∀ xs, d ≠ .lst xs := by
  unfold noL at h
  split at h
  · cases h
  · rename_i r hr
    exact ⟨h, fun xs e => hr xs (by rw [h, e])⟩
theorem SD.bin {op : Operator} {f g : Env → Option D} (gd : Gd X G mg base k) (ha : SD X G a f) (hb : SD X G b g) : SD X G (.BinOp a op b pos) (fun env => noL (cBin op f g env)) := fun env d h => by
  obtain ⟨h1, h2⟩ := noL_ok h
  unfold cBin at h1
  split at h1
  · rename_i x y hx hy
    exact pd_op (bin_ok gd.hK h1 h2) (ha _ _ hx) (hb _ _ hy)
  · cases h1
def cCmp (op : CmpOp) (f g : Env → Option D) : Env → Option Bool := fun env => match f env, g env with
  | some x, some y => evCmp op x y
  | _, _ => none
def bD (f : Env → Option Bool) : Env → Option D := fun env => (f env).map .bl
theorem bD_some {f : Env → Option Bool} {env : Env} {d : D} (h : bD f env = some d) : ∃ k, f env = some k ∧ d = .bl k := by
  unfold bD at h
  cases e : f env with
  | none => rw [e] at h; cases h
  | some k => rw [e] at h; cases h; exact ⟨k, rfl, rfl⟩
theorem cCmp_some {op : CmpOp} {f g : Env → Option D} {env : Env} {k : Bool} (h : cCmp op f g env = some k) : ∃ x y, f env = some x ∧ g env = some y ∧ evCmp op x y = some k := by
  unfold cCmp at h
  split at h
  · rename_i x y hx hy; exact ⟨x, y, hx, hy, h⟩
  · cases h
theorem SD.cmp {op : CmpOp} {f g : Env → Option D} (gd : Gd X G mg base k) (ha : SD X G a f) (hb : SD X G b g) (hm : behindInMarks op b = false) : SD X G (.Compare a [op] [b] pos) (bD (cCmp op f g)) := fun env d h => by
  obtain ⟨_, h', rfl⟩ := bD_some h
  obtain ⟨x, y, hx, hy, e⟩ := cCmp_some h'
  exact pd_cm (cmp_ok gd.hK gd.hr e) (ha _ _ hx) (hb _ _ hy) hm
theorem ST.cmp {op : CmpOp} {f g : Env → Option D} (gd : Gd X G mg base k) (ha : SD X G a f) (hb : SD X G b g) (hm : behindInMarks op b = false) : ST X G (.Compare a [op] [b] pos) (cCmp op f g) := fun env k h => by
  obtain ⟨x, y, hx, hy, e⟩ := cCmp_some h
  exact pdt_cmp (cmp_ok gd.hK gd.hr e) (ha _ _ hx) (hb _ _ hy) hm
/-- a < b < c -/
def cChn (o1 o2 : CmpOp) (f g h : Env → Option D) : Env → Option Bool := fun env => match f env, g env with
  | some x, some y => (match evCmp o1 x y with
    | some true => (match h env with
      | some z => evCmp o2 y z
      | none => none)
    | some false => (match h env with
      | some z => (match evCmp o2 y z with
        | some _ => some false
        | none => none)
      | none => none)
    | none => none)
  | _, _ => none
theorem SD.chn {o1 o2 : CmpOp} {f g h : Env → Option D} (gd : Gd X G mg base k) (ha : SD X G a f) (hb : SD X G b g) (hc : SD X G c h) (hm : lastMarks [o1, o2] [b, c] = false) : SD X G (.Compare a [o1, o2] [b, c] pos) (bD (cChn o1 o2 f g h)) := fun env d hd => by
  obtain ⟨kk, hh, rfl⟩ := bD_some hd
  unfold cChn at hh
  split at hh
  · rename_i x y hx hy
    cases e1 : evCmp o1 x y with
    | none => rw [e1] at hh; cases hh
    | some k1 =>
      rw [e1] at hh
      cases e2 : h env with
      | none => rw [e2] at hh; cases k1 <;> cases hh
      | some z =>
        rw [e2] at hh
        cases k1 with
        | true => exact pd_chainT (cmp_ok gd.hK gd.hr e1) (cmp_ok gd.hK gd.hr hh) (ha _ _ hx) (hb _ _ hy) (hc _ _ e2) hm
        | false =>
          dsimp only at hh
          cases e3 : evCmp o2 y z with
          | none => rw [e3] at hh; cases hh
          | some k2 => rw [e3] at hh; cases hh; exact pd_chainF (cmp_ok gd.hK gd.hr e1) (cmp_ok gd.hK gd.hr e3) (ha _ _ hx) (hb _ _ hy) hm
  · cases hh

/-! ### tests -/
theorem SD.test {f : Env → Option Bool} (h : SD X G e (bD f)) (he : ∀ whole, isTrue e X.env whole = (do let v ← whole; standAt e.pos; holding [v] (truthy v))) : ST X G e f := fun env k q => pdt_val (h env (.bl k) (by unfold bD; rw [q]; rfl)) he
def tB (f : Env → Option D) : Env → Option Bool := fun env => match f env with
  | some (.bl k) => some k
  | _ => none
theorem SD.testD {f : Env → Option D} (h : SD X G e f) (he : ∀ whole, isTrue e X.env whole = (do let v ← whole; standAt e.pos; holding [v] (truthy v))) : ST X G e (tB f) := fun env k q => by
  unfold tB at q
  split at q
  · rename_i k' hk; cases q; exact pdt_val (h env _ hk) he
  · cases q
def tNot (f : Env → Option Bool) : Env → Option Bool := fun env => (f env).map not
theorem ST.not_ {f : Env → Option Bool} (h : ST X G a f) : ST X G (.UnaryOp .Not a pos) (tNot f) := fun env k q => by
  unfold tNot at q
  cases e : f env with
  | none => rw [e] at q; cases q
  | some j => rw [e] at q; cases q; exact pdt_not (h env j e)
def SW (X : Cx) (G : Gx) (e : Expr) (f : Env → Option Bool) : Prop := ∀ env b, f env = some b → PW X e (tTst G env b)
theorem SW.st {f : Env → Option Bool} (h : SW X G e f) : ST X G e f := fun env k q => (h env k q).pt
def tAnd (f g : Env → Option Bool) : Env → Option Bool := fun env => match f env with
  | some true => g env
  | some false => some false
  | none => none
def tOr (f g : Env → Option Bool) : Env → Option Bool := fun env => match f env with
  | some true => some true
  | some false => g env
  | none => none
theorem SW.and1 {f : Env → Option Bool} (h : ST X G a f) : SW X G (.BoolOp .And [a] pos) f := fun env k q => pdw_and1 (h env k q)
theorem SW.or1 {f : Env → Option Bool} (h : ST X G a f) : SW X G (.BoolOp .Or [a] pos) f := fun env k q => pdw_or1 (h env k q)
theorem SW.and_ {rest : List Expr} {f g : Env → Option Bool} (ha : ST X G a f) (hb : SW X G (.BoolOp .And (b :: rest) pos) g) : SW X G (.BoolOp .And (a :: b :: rest) pos) (tAnd f g) := fun env k q => by
  unfold tAnd at q
  split at q
  · rename_i h; exact pdw_andT (ha _ _ h) (hb _ _ q)
  · rename_i h; cases q; exact pdw_andF (ha _ _ h) pw_no
  · cases q
theorem SW.or_ {rest : List Expr} {f g : Env → Option Bool} (ha : ST X G a f) (hb : SW X G (.BoolOp .Or (b :: rest) pos) g) : SW X G (.BoolOp .Or (a :: b :: rest) pos) (tOr f g) := fun env k q => by
  unfold tOr at q
  split at q
  · rename_i h; cases q; exact pdw_orT (ha _ _ h) pw_no
  · rename_i h; exact pdw_orF (ha _ _ h) (hb _ _ q)
  · cases q
/-! ### and, or, not, if as values -/
def cAnd (f g : Env → Option D) : Env → Option D := fun env => match f env with
  | some (.bl true) => g env
  | some (.bl false) => some (.bl false)
  | _ => none
def cOr (f g : Env → Option D) : Env → Option D := fun env => match f env with
  | some (.bl true) => some (.bl true)
  | some (.bl false) => g env
  | _ => none
theorem SD.one {op} {f : Env → Option D} (h : SD X G a f) : SD X G (.BoolOp op [a] pos) f := fun env d q => pd_one (h env d q)
theorem SD.and_ {rest : List Expr} {f g : Env → Option D} (ha : SD X G a f) (hb : SD X G (.BoolOp .And (b :: rest) pos) g) : SD X G (.BoolOp .And (a :: b :: rest) pos) (cAnd f g) := fun env d q => by
  unfold cAnd at q
  split at q
  · rename_i h; exact pd_andT (ha _ _ h) (hb _ _ q)
  · rename_i h; cases q; exact pd_andF (ha _ _ h)
  · cases q
theorem SD.or_ {rest : List Expr} {f g : Env → Option D} (ha : SD X G a f) (hb : SD X G (.BoolOp .Or (b :: rest) pos) g) : SD X G (.BoolOp .Or (a :: b :: rest) pos) (cOr f g) := fun env d q => by
  unfold cOr at q
  split at q
  · rename_i h; cases q; exact pd_orT (ha _ _ h)
  · rename_i h; exact pd_orF (ha _ _ h) (hb _ _ q)
  · cases q
def cNot (f : Env → Option D) : Env → Option D := fun env => match f env with
  | some (.bl k) => some (.bl (!k))
  | _ => none
theorem SD.not_ {f : Env → Option D} (h : SD X G a f) : SD X G (.UnaryOp .Not a pos) (cNot f) := fun env d q => by
  unfold cNot at q
  split at q
  · rename_i k' hk; cases q
    exact PE.weak (pe_not (h env _ hk)) fun σ H Q ⟨Kn, ex, re, q⟩ => ⟨Kn, ex, re, fun v H1 K1 s1 r => ⟨k', r.bool, q _ H1 K1 s1 (.bl _)⟩⟩
  · cases q
def cIf (t : Env → Option Bool) (f g : Env → Option D) : Env → Option D := fun env => match t env with
  | some true => f env
  | some false => g env
  | none => none
theorem SD.ife {t : Env → Option Bool} {f g : Env → Option D} (hc : ST X G c t) (ha : SD X G a f) (hb : SD X G b g) : SD X G (.IfExp c a b pos) (cIf t f g) := fun env d q => by
  unfold cIf at q
  split at q
  · rename_i h; exact pd_ifT (hc _ _ h) (ha _ _ q)
  · rename_i h; exact pd_ifF (hc _ _ h) (hb _ _ q)
  · cases q

/-! ### argument lists, displays -/
def aNil : Env → Option (List D) := fun _ => some []
def aCons (f : Env → Option D) (g : Env → Option (List D)) : Env → Option (List D) := fun env => match f env, g env with
  | some x, some xs => some (x :: xs)
  | _, _ => none
theorem SA.nil : SA X G [] aNil := fun env ds h => by cases h; exact pd_nil
theorem SA.cons {f : Env → Option D} {g : Env → Option (List D)} (ha : SD X G e f) (hr : SA X G es g) (hs : starEach (e :: es) X.env = (false, eval e X.env) :: starEach es X.env) : SA X G (e :: es) (aCons f g) := fun env ds h => by
  unfold aCons at h
  split at h
  · rename_i x xs hx hxs; cases h; exact pd_cons (ha _ _ hx) (hr _ _ hxs) hs
  · cases h
def few (o : Option (List D)) : Option (List D) := match o with
  | some ds => if ds.length ≤ 4096 then some ds else none
  | none => none
theorem few_ok {o : Option (List D)} {ds : List D} (h : few o = some ds) : o = some ds ∧ ds.length ≤ sizeLine := by
  unfold few at h
  split at h
  · split at h
    · cases h; exact ⟨rfl, by rw [sizeLine_eq]; omega⟩
    · cases h
  · cases h
def cTup (g : Env → Option (List D)) : Env → Option D := fun env => (few (g env)).map .tup
def cLst (g : Env → Option (List D)) : Env → Option D := fun env => (few (g env)).map .lst
theorem SD.tup {x1} {g : Env → Option (List D)} (h : SA X G es g) : SD X G (.Tuple es x1 pos) (cTup g) := fun env d q => by
  unfold cTup at q
  cases e : few (g env) with
  | none => rw [e] at q; cases q
  | some ds => rw [e] at q; cases q; obtain ⟨h1, h2⟩ := few_ok e; exact pd_tup (h _ _ h1) h2
theorem SF.lst {g : Env → Option (List D)} (h : SA X G es g) : SF X G (.List es pos) (cLst g) := fun env d q => by
  unfold cLst at q
  cases e : few (g env) with
  | none => rw [e] at q; cases q
  | some ds => rw [e] at q; cases q; obtain ⟨h1, h2⟩ := few_ok e; exact pf_lst (h _ _ h1) h2

/-! ### calls of built-ins -/
def cCall (F : List D → Option D) (g : Env → Option (List D)) : Env → Option D := fun env => match g env with
  | some ds => F ds
  | none => none
theorem cCall_some {F : List D → Option D} {g : Env → Option (List D)} {env : Env} {d : D} (h : cCall F g env = some d) : ∃ ds, g env = some ds ∧ F ds = some d := by
  unfold cCall at h
  split at h
  · rename_i ds e; exact ⟨ds, e, h⟩
  · cases h
theorem SD.callB {x : Str} {p : Pos} {id : String} {F : List D → Option D} {g : Env → Option (List D)} (gd : Gd X G mg base k) (hc : ∀ ds d, F ds = some d → CallR X (.builtin id) (rc G ds d)) (hg : Gl X x) (hm : mg x = none) (hv : bootBuiltins x = some (.builtin id)) (ha : SA X G (e :: es) g) (hn : x ≠ "__name__") (hdb : (x == ("__debug__" : Str)) = false)
    (he : starEach (e :: es) X.env = (false, eval e X.env) :: starEach es X.env) (hpl : (backTo pos (starEach es X.env)).any (·.1) = false) : SD X G (.Call (.Name x p) (e :: es) [] pos) (cCall F g) := fun env d h => by
  obtain ⟨ds, h1, h2⟩ := cCall_some h
  exact pd_callB (hc ds d h2) hg (by rw [gd.hm]; exact hm) hv (ha _ _ h1) hn hdb he hpl
theorem SF.callB {x : Str} {p : Pos} {id : String} {F : List D → Option D} {g : Env → Option (List D)} (gd : Gd X G mg base k) (hc : ∀ ds d, F ds = some d → CallR X (.builtin id) (rcF G ds d)) (hg : Gl X x) (hm : mg x = none) (hv : bootBuiltins x = some (.builtin id)) (ha : SA X G (e :: es) g) (hn : x ≠ "__name__") (hdb : (x == ("__debug__" : Str)) = false)
    (he : starEach (e :: es) X.env = (false, eval e X.env) :: starEach es X.env) (hpl : (backTo pos (starEach es X.env)).any (·.1) = false) : SF X G (.Call (.Name x p) (e :: es) [] pos) (cCall F g) := fun env d h => by
  obtain ⟨ds, h1, h2⟩ := cCall_some h
  exact pf_callB (hc ds d h2) hg (by rw [gd.hm]; exact hm) hv (ha _ _ h1) hn hdb he hpl
theorem SD.callT {x : Str} {p : Pos} {T : String} {F : List D → Option D} {g : Env → Option (List D)} (gd : Gd X G mg base k) (hc : ∀ ds d, F ds = some d → CallR X (.type T) (rc G ds d)) (hg : Gl X x) (hm : mg x = none) (hv : bootBuiltins x = some (.type T)) (ha : SA X G (e :: es) g) (hn : x ≠ "__name__") (hdb : (x == ("__debug__" : Str)) = false)
    (he : starEach (e :: es) X.env = (false, eval e X.env) :: starEach es X.env) (hpl : (backTo pos (starEach es X.env)).any (·.1) = false) : SD X G (.Call (.Name x p) (e :: es) [] pos) (cCall F g) := fun env d h => by
  obtain ⟨ds, h1, h2⟩ := cCall_some h
  exact pd_callTy (hc ds d h2) hg (by rw [gd.hm]; exact hm) hv (ha _ _ h1) hn hdb he hpl
theorem SF.callT {x : Str} {p : Pos} {T : String} {F : List D → Option D} {g : Env → Option (List D)} (gd : Gd X G mg base k) (hc : ∀ ds d, F ds = some d → CallR X (.type T) (rcF G ds d)) (hg : Gl X x) (hm : mg x = none) (hv : bootBuiltins x = some (.type T)) (ha : SA X G (e :: es) g) (hn : x ≠ "__name__") (hdb : (x == ("__debug__" : Str)) = false)
    (he : starEach (e :: es) X.env = (false, eval e X.env) :: starEach es X.env) (hpl : (backTo pos (starEach es X.env)).any (·.1) = false) : SF X G (.Call (.Name x p) (e :: es) [] pos) (cCall F g) := fun env d h => by
  obtain ⟨ds, h1, h2⟩ := cCall_some h
  exact pf_callTy (hc ds d h2) hg (by rw [gd.hm]; exact hm) hv (ha _ _ h1) hn hdb he hpl
end

/-! ### calls of defs; what may be raised -/
def tR (G : Gx) (E : XK) (env : Env) : R → TE
  | .ok d => tD G env d
  | .ex c => fun σ H _ => ∃ Kn, Ex Kn H ∧ RelE G Kn env σ ∧ ∀ dd H' Kn', Step H Kn H' Kn' → E (.ref (G.cad c)) dd H'
def SE (X : Cx) (G : Gx) (E : XK) (e : Expr) (f : Env → Option R) : Prop := ∀ env r, f env = some r → PE X e (tR G E env r)
/-- the promise of a def -/
def spR (G : Gx) (F : List D → Option R) (n : Nat) : Sp := fun vs H Q E => vs.length = n ∧ ∃ Kn ds r, Ex Kn H ∧ RelDs G Kn ds vs ∧ F ds = some r ∧ match r with
  | .ok d => ∀ v H' Kn', Step H Kn H' Kn' → RelD G Kn' d v → Q v H'
  | .ex c => ∀ dd H' Kn', Step H Kn H' Kn' → E (.ref (G.cad c)) dd H'
def startS (N : List Str) (ds : List D) : EnvS := ds.map .fr ++ List.replicate (N.length - ds.length) .no
def runF (N : List Str) (g : EnvS → Option O) : List D → Option R := fun ds => match g (startS N ds) with
  | some (.rt d) => some (.ok d)
  | some (.nx _) => some (.ok .non)
  | some (.ex c) => some (.ex c)
  | _ => none
abbrev FnD (G : Gx) (mg : Str → Option Value) (base : Heap) (k : Nat) (f : Addr) (fd : FuncData) (ps : List Str) (F : List D → Option R) : Prop := FnOk G.P G.w G.K mg base (L2.CX G.P G.w) k f fd ps (spR G F ps.length)
section
variable {G : Gx}
theorem start_rs {H Kn : Hp} {N : List Str} {ds : List D} {vs : List V} (e : Ex Kn H) (r : RelDs G Kn ds vs) (hl : ds.length ≤ N.length) : RS G H Kn (startS N ds) (L2.start N vs) H Kn := by
  have hd := r.length
  have at1 : ∀ (i : Nat) (s : Sl), (startS N ds)[i]? = some s → (∃ d, s = .fr d ∧ ds[i]? = some d) ∨ s = .no := fun i s h => by
    unfold startS at h
    by_cases hi : i < ds.length
    · rw [List.getElem?_append_left (by simpa using hi), List.getElem?_map] at h
      cases q : ds[i]? with
      | none => rw [q] at h; cases h
      | some d => rw [q] at h; cases h; exact .inl ⟨d, rfl, rfl⟩
    · rw [List.getElem?_append_right (by simpa using hi)] at h
      exact .inr (List.mem_replicate.mp (List.mem_of_getElem? h)).2
  refine ⟨Step.refl e, ?_, fun i d h => ?_, fun i d h => ?_, fun i j d d2 h => ?_⟩
  · unfold startS L2.start
    simp only [List.length_append, List.length_map, List.length_replicate]
    omega
  · rcases at1 i _ h with ⟨x, e1, e2⟩ | e1
    · cases e1
      obtain ⟨v, hv, rv⟩ := r.get e2
      refine ⟨v, ?_, rv⟩
      unfold L2.start
      have hi := (List.getElem?_eq_some_iff.mp hv).1
      rw [List.getElem?_append_left (by simpa using hi), List.getElem?_map, hv]
      rfl
    · cases e1
  · rcases at1 i _ h with ⟨x, e1, e2⟩ | e1 <;> cases e1
  · rcases at1 i _ h with ⟨x, e1, e2⟩ | e1 <;> cases e1
/-- THE RULE of a def -/
theorem fnD {mg : Str → Option Value} {base : Heap} {k : Nat} {f : Addr} {name qual : Str} {params : Arguments} {body : List Stmt} {scope : Scope} {dV kV doc pm cdv ct oc : Value} {an od : Option Addr}
    {osl : Array (Option Value)} {N ps : List Str} {g : EnvS → Option O} (lk : G.K.lookup f = some ⟨oc, od, .func (PySem.W.fnOf name qual params body scope dV kV doc pm an cdv ct), osl⟩) (hcd : PySem.W.codeIn G.K cdv qual = true) (S : FnScope N ps scope)
    (hbody : ∀ (A : Around) (outer : List PySem.Env) (s : Shared) (H : Hp) (E : XK), Gd (cxOf (L2.CX G.P G.w) G.P G.w G.K mg base N qual scope f cdv A outer s H E) G mg base k → Takes (cxOf (L2.CX G.P G.w) G.P G.w G.K mg base N qual scope f cdv A outer s H E) (fun cls d _ H' => E cls d H') →
      PassesOwn (model G.P G.w) (A.deeper (envOfC qual scope s.heap.objs.size f cdv)) (envOfC qual scope s.heap.objs.size f cdv) (cxOf (L2.CX G.P G.w) G.P G.w G.K mg base N qual scope f cdv A outer s H E).xe →
      SSs (cxOf (L2.CX G.P G.w) G.P G.w G.K mg base N qual scope f cdv A outer s H E) G E body g) :
    FnD G mg base (k + 1) f (PySem.W.fnOf name qual params body scope dV kV doc pm an cdv ct) ps (runF N g) := by
  refine fn_of lk hcd S (fun vs H Q E h => h.1) fun A outer s H vs Q E hr ⟨hl, Kn, ds, r, ex, rd, hF, hq⟩ => ?_
  have hb := hbody A outer s H E ⟨rfl, rfl, rfl, rfl, rfl, rfl, S.nd, hr⟩ (takes_of rfl rfl rfl rfl) (passes_of rfl)
  have hlen : ds.length ≤ N.length := by
    rw [rd.length, hl]
    have := congrArg List.length S.pre
    rw [List.length_take] at this
    omega
  unfold runF at hF
  cases e1 : g (startS N ds) with
  | none => rw [e1] at hF; cases hF
  | some o =>
    rw [e1] at hF
    refine ⟨_, hb H Kn _ o e1, ⟨Kn, start_rs ex rd hlen⟩, ?_⟩
    cases o with
    | nx e2 => cases hF; exact fun σ' H' K' r' => hq .non H' K' r'.st .non
    | rt d => cases hF; exact fun v H' K' st rv => hq v H' K' st rv
    | ex c => cases hF; exact fun dd H' K' st => hq dd H' K' st
    | bk _ => cases hF
    | ct _ => cases hF
end
section
variable {X : Cx} {G : Gx} {E : XK} {e a b c : Expr} {es : List Expr} {pos : Pos} {mg : Str → Option Value} {base : Heap} {k n : Nat}
def cFn (F : List D → Option R) (g : Env → Option (List D)) : Env → Option R := fun env => match g env with
  | some ds => F ds
  | none => none
theorem tR_call {F : List D → Option R} {n : Nat} {env : Env} {ds : List D} {r : R} (hl : ds.length = n) (hF : F ds = some r) (σ : St) (H : Hp) (Q : VK) (h : tR G E env r σ H Q) : tCall (spR G F n) [] E (tDs G env ds) σ H Q := by
  cases r with
  | ok d =>
    obtain ⟨Kn, ex, re, q⟩ := h
    refine ⟨Kn, ex, re, fun vs H1 K1 s1 r1 => ?_⟩
    show spR G F n (vs ++ []) H1 Q E
    rw [List.append_nil]
    exact ⟨by rw [← r1.length]; exact hl, K1, ds, _, s1.sub, r1, hF, fun v H2 K2 s2 r2 => q v H2 K2 (s1.trans s2) r2⟩
  | ex c =>
    obtain ⟨Kn, ex, re, q⟩ := h
    refine ⟨Kn, ex, re, fun vs H1 K1 s1 r1 => ?_⟩
    show spR G F n (vs ++ []) H1 Q E
    rw [List.append_nil]
    exact ⟨by rw [← r1.length]; exact hl, K1, ds, _, s1.sub, r1, hF, fun dd H2 K2 s2 => q dd H2 K2 (s1.trans s2)⟩
def nArg (n : Nat) (g : Env → Option (List D)) : Env → Option (List D) := fun env => match g env with
  | some ds => if ds.length = n then some ds else none
  | none => none
theorem nArg_ok {n : Nat} {g : Env → Option (List D)} {env : Env} {ds : List D} (h : nArg n g env = some ds) : g env = some ds ∧ ds.length = n := by
  unfold nArg at h
  split at h
  · split at h
    · rename_i e hl; cases h; exact ⟨e, hl⟩
    · cases h
  · cases h
theorem cFn_some {F : List D → Option R} {g : Env → Option (List D)} {env : Env} {r : R} (h : cFn F g env = some r) : ∃ ds, g env = some ds ∧ F ds = some r := by
  unfold cFn at h
  split at h
  · rename_i ds e; exact ⟨ds, e, h⟩
  · cases h
theorem FnD.at_ {f : Addr} {fd : FuncData} {ps : List Str} {F : List D → Option R} (gd : Gd X G mg base k) (Fo : FnD G mg base n f fd ps F) : FnOk X.prog X.w X.K X.mg X.base (L2.CX X.prog X.w) n f fd ps (spR G F ps.length) := by
  rw [gd.hP, gd.hw, gd.hK, gd.hm, gd.hb]; exact Fo
theorem SE.call {f : Addr} {fd : FuncData} {ps : List Str} {F : List D → Option R} {x : Str} {p : Pos} {g : Env → Option (List D)} (gd : Gd X G mg base k) (Fo : FnD G mg base n f fd ps F) (tk : Takes X (fun cls d _ H' => E cls d H')) (hn : n ≤ k) (hg : Gl X x) (hm : mg x = some (.ref f)) (hk : PySem.W.keepIn G.K (.ref f) = true) (hb : Binds G.K fd ps [])
    (ha : SA X G (e :: es) g) (hdb : (x == ("__debug__" : Str)) = false) (he : starEach (e :: es) X.env = (false, eval e X.env) :: starEach es X.env) (hpl : (backTo pos (starEach es X.env)).any (·.1) = false) :
    SE X G E (.Call (.Name x p) (e :: es) [] pos) (cFn F (nArg ps.length g)) := fun env r h => by
  obtain ⟨ds, h1, h2⟩ := cFn_some h
  obtain ⟨h1, hl⟩ := nArg_ok h1
  exact PE.weak (pe_call (dvs := []) (ds := []) (Fo.at_ gd) (gd.hr.mono hn) hg (by rw [gd.hm]; exact hm) (by rw [gd.hK]; exact hk) (by rw [gd.hK]; exact hb) .nil (passes_call tk fun _ _ _ _ h => h) (ha _ _ h1) hdb he hpl) fun σ H Q q => tR_call hl h2 σ H Q q
def okD (f : Env → Option R) : Env → Option D := fun env => match f env with
  | some (.ok d) => some d
  | _ => none
theorem okD_some {f : Env → Option R} {env : Env} {d : D} (h : okD f env = some d) : f env = some (.ok d) := by
  unfold okD at h
  split at h
  · rename_i d' e; cases h; exact e
  · cases h
theorem passes0 {P : Program} {w : World} : Passes (L2.CX P w) X E0 := fun _ _ _ _ _ _ _ ⟨_, _, _, _, _, _, _, _, _, _, _, _, z⟩ => z.elim
/-- a call that gives a value -/
theorem SD.call {f : Addr} {fd : FuncData} {ps : List Str} {F : List D → Option R} {x : Str} {p : Pos} {g : Env → Option (List D)} (gd : Gd X G mg base k) (Fo : FnD G mg base n f fd ps F) (hn : n ≤ k) (hg : Gl X x) (hm : mg x = some (.ref f)) (hk : PySem.W.keepIn G.K (.ref f) = true) (hb : Binds G.K fd ps [])
    (ha : SA X G (e :: es) g) (hdb : (x == ("__debug__" : Str)) = false) (he : starEach (e :: es) X.env = (false, eval e X.env) :: starEach es X.env) (hpl : (backTo pos (starEach es X.env)).any (·.1) = false) :
    SD X G (.Call (.Name x p) (e :: es) [] pos) (okD (cFn F (nArg ps.length g))) := fun env d h => by
  obtain ⟨ds, h1, h2⟩ := cFn_some (okD_some h)
  obtain ⟨h1, hl⟩ := nArg_ok h1
  exact PE.weak (pe_call (dvs := []) (ds := []) (Fo.at_ gd) (gd.hr.mono hn) hg (by rw [gd.hm]; exact hm) (by rw [gd.hK]; exact hk) (by rw [gd.hK]; exact hb) .nil (passes0 (P := X.prog) (w := X.w)) (ha _ _ h1) hdb he hpl) fun σ H Q q => tR_call (E := E0) (r := .ok d) hl h2 σ H Q q
/-! statements with a call that may raise -/
def gExprR (f : Env → Option R) : EnvS → Option O := fun env => match f (see env) with
  | some (.ok _) => some (.nx env)
  | some (.ex c) => some (.ex c)
  | none => none
theorem SS.exprR {f : Env → Option R} (he : SE X G E e f) (hs : swapsWith e none pos.line X.env = pure false) : SS X G E (.Expr e pos) (gExprR f) := fun H0 K0 env o hg => by
  unfold gExprR at hg
  split at hg
  · rename_i d h; cases hg
    exact PS.weak (ps_expr (he _ _ h) hs) fun D σ H ⟨⟨Kn, r⟩, q⟩ => ⟨Kn, r.st.sub, r.relE, fun v H1 K1 s1 rd => q σ H1 K1 (r.step s1)⟩
  · rename_i c h; cases hg
    exact PS.weak (ps_expr (he _ _ h) hs) fun D σ H ⟨⟨Kn, r⟩, q⟩ => ⟨Kn, r.st.sub, r.relE, fun dd H1 K1 s1 => q dd H1 K1 (r.st.trans s1)⟩
  · cases hg
def gRetR (f : Env → Option R) : EnvS → Option O := fun env => match f (see env) with
  | some (.ok d) => some (.rt d)
  | some (.ex c) => some (.ex c)
  | none => none
theorem SS.retR {f : Env → Option R} (he : SE X G E e f) : SS X G E (.Return (some e) pos) (gRetR f) := fun H0 K0 env o hg => by
  unfold gRetR at hg
  split at hg
  · rename_i d h; cases hg
    exact PS.weak (ps_ret (he _ _ h)) fun D σ H ⟨⟨Kn, r⟩, q⟩ => ⟨Kn, r.st.sub, r.relE, fun v H1 K1 s1 rd => q v H1 K1 (r.st.trans s1) rd⟩
  · rename_i c h; cases hg
    exact PS.weak (ps_ret (he _ _ h)) fun D σ H ⟨⟨Kn, r⟩, q⟩ => ⟨Kn, r.st.sub, r.relE, fun dd H1 K1 s1 => q dd H1 K1 (r.st.trans s1)⟩
  · cases hg
def gSetR (i : Nat) (f : Env → Option R) : EnvS → Option O := fun env => match f (see env) with
  | some (.ok d) => some (.nx (env.set i (.fr d)))
  | some (.ex c) => some (.ex c)
  | none => none
theorem SS.setR {i : Nat} {x : Str} {pos' : Pos} {f : Env → Option R} (hN : X.N.Nodup) (hi : X.N[i]? = some x) (hx : Loc X.env.scope x) (he : SE X G E e f) (hs : swapsWith e (some (.Name x pos')) pos.line X.env = pure false) (hf : X.fn x = true ∨ X.env.scope.names.lookup x = some .local) :
    SS X G E (.Assign [.Name x pos'] e pos) (gSetR i f) := fun H0 K0 env o hg => by
  unfold gSetR at hg
  split at hg
  · rename_i d h; cases hg
    exact PS.weak (ps_set hN hi hx (he _ _ h) hs hf) fun D σ H ⟨⟨Kn, r⟩, q⟩ => ⟨Kn, r.st.sub, r.relE, fun v H1 K1 s1 rd => q _ H1 K1 ((r.step s1).put rd)⟩
  · rename_i c h; cases hg
    exact PS.weak (ps_set hN hi hx (he _ _ h) hs hf) fun D σ H ⟨⟨Kn, r⟩, q⟩ => ⟨Kn, r.st.sub, r.relE, fun dd H1 K1 s1 => q dd H1 K1 (r.st.trans s1)⟩
  · cases hg
end
end Ev
set_option maxHeartbeats 4000000
/-! Ev: sorted, of anything that can be gathered. -/
namespace Ev
open PySem PySem.Spec PyProof.Rows L2

mutual
theorem reads_there {h : Heap} : ∀ {d : PyData} {v : Value} {as : List Addr}, Reads h v d as → ∀ a ∈ as, ∃ o, h.get? a = some o
  | _, _, _, .none, a, ha => nomatch ha
  | _, _, _, .bool _, a, ha => nomatch ha
  | _, _, _, .int _ _, a, ha => nomatch ha
  | _, _, _, .str _ _, a, ha => nomatch ha
  | _, _, _, .list h1 _ _ h4, a, ha => (List.mem_cons.mp ha).elim (fun e => by subst e; exact ⟨_, h1⟩) fun e => reads_thereAll h4 a e
  | _, _, _, .tuple _ _ _ h4, a, ha => reads_thereAll h4 a ha
  | _, _, _, .dict h1 _ _ h4 h5, a, ha => (List.mem_append.mp ha).elim (fun e => (List.mem_cons.mp e).elim (fun e => by subst e; exact ⟨_, h1⟩) fun e => reads_thereAll h4 a e) fun e => reads_thereAll h5 a e
theorem reads_thereAll {h : Heap} : ∀ {ds : List PyData} {vs : List Value} {as : List Addr}, ReadsAll h vs ds as → ∀ a ∈ as, ∃ o, h.get? a = some o
  | _, _, _, .nil, a, ha => nomatch ha
  | _, _, _, .cons h1 h2, a, ha => (List.mem_append.mp ha).elim (fun e => reads_there h1 a e) fun e => reads_thereAll h2 a e
end

section
variable {prog : Program} {w : World} {A : Around} {E : Value → Shared → Prop} {s : Shared} {β : Type} {vs : List Value} {bs : List β} {enc : β → PyData} {R : Value → β → Prop}
/-- sorted(v), v gathers vs -/
theorem sorted_by {v : Value} {Q : Value → Shared → Prop}
    (hcol : ∀ Q' : List Value → Shared → Prop, (∀ s1 vs, (∀ b o, s.heap.get? b = some o → s1.heap.get? b = some o) → s.heap.objs.size ≤ s1.heap.objs.size → s1.gens = s.gens → s1.os = s.os →
      (∃ bs : List β, PySem.W.EachIs R vs bs ∧ PySem.W.EachIs (fun v b => ∃ as, Reads s.heap v (enc b) as) vs bs ∧ PySem.W.AllAlike (bs.map enc) ∧ PySem.W.Sortable (bs.map enc) ∧ bs.length ≤ sizeLine ∧ (∀ b ∈ bs, A.units + 2 + (enc b).depth < cLine) ∧
        ∀ out p c s', (∀ b o, s.heap.get? b = some o → s'.heap.get? b = some o) → s'.gens = s.gens → s'.os = s.os → s.heap.objs.size ≤ p → s'.heap.get? p = some (seqObj "list" (List.toArray out) c) → PySem.W.EachIs R out (bs.mergeSort (PySem.W.dataLe false enc)) → Q (.ref p) s') → Q' vs s1) →
      wpAny (model prog w) A.in1 (collect v) Q' (fun _ _ => False) s) : wpAny (model prog w) A (call (.builtin "sorted") [v]) Q E s := by
  refine Calls.call_function_entry kind_sorted plain_sorted entry_sorted (args_sorted1 _) ?_
  unfold Builtin.«sorted»
  refine wpAny_bind (m := checkCount "sorted" 1 1 _) (wpAny_pure ?_)
  refine wpAny_bind (wpAny_mono (hcol _ fun s1 vs k1 hz g1 o1 ⟨bs, e, er, hal, hk, hL, hu, fin⟩ => ?_) (fun _ _ z => z) fun _ _ z => z.elim)
  refine wpAny_bind (wpAny_newList ?_ (by rw [e.length]; exact hL))
  have hoL : (s1.heap.push (seqObj "list" vs.toArray 0)).get? s1.heap.objs.size = some (seqObj "list" vs.toArray 0) := Heap.get?_push_size _ rfl
  have er2 : PySem.W.EachIs (fun v b => ∃ as, Reads (s1.heap.push (seqObj "list" vs.toArray 0)) v (enc b) as ∧ s1.heap.objs.size ∉ as) vs bs := er.mono fun u b ⟨as, r⟩ => by
    refine ⟨as, PyProof.Rows.Reads.keeps (fun x o q => Heap.get?_push_of_some _ (k1 x o q)) r, fun hm => ?_⟩
    obtain ⟨o, ho⟩ := reads_there r _ hm
    exact absurd (Nat.lt_of_lt_of_le (Heap.lt_size ho) hz) (Nat.lt_irrefl _)
  refine wpAny_bind (wpAny_holding (PySem.W.list_sort_data (s := { s1 with heap := s1.heap.push (seqObj "list" vs.toArray 0) }) hoL e er2 hal hk hL (fun b hb => by have := hu b hb; show A.units + 1 + 1 + _ < _; omega) fun out hl ho => ?_))
  obtain ⟨c, hc⟩ := sortedHeap_at (vs := vs) (out := out.toArray) hoL
  refine wpAny_pure ⟨_, rfl, fin out s1.heap.objs.size c _ (fun b u q => ?_) g1 o1 hz hc ho⟩
  have q1 := k1 b u q
  have hlt := Heap.lt_size q1
  show (sortedHeap (s1.heap.push (seqObj "list" vs.toArray 0)) s1.heap.objs.size vs out.toArray).get? b = some u
  rw [sortedHeap_old (Nat.ne_of_lt hlt) (by rw [Heap.size_push]; exact Nat.lt_succ_of_lt hlt)]
  exact Heap.get?_push_of_some _ q1
end
end Ev
set_option maxHeartbeats 4000000
/-! Ev: dicts as they stand; what is gathered; built-ins by data. -/
namespace Ev
open PySem PySem.Spec PyProof.Rows L2

/-! ### a dict as it stands -/
section
variable {X : Cx} {G : Gx}
theorem vals_keysK {P : Program} {w : World} : ∀ {es : List DictEntry} {vs : List (Key × Value)} {kvs : List (Key × V)}, Pairs (mixKind P w) es vs → KV kvs vs → Vals (kvs.map fun p => kV p.1) (es.map (·.key)) ∧ Vals (kvs.map Prod.snd) (es.map (·.val))
  | [], _, _, .nil, .nil => ⟨.nil, .nil⟩
  | e :: es, _, _, .cons h1 h2 p, .cons ⟨r1, r2⟩ q => by
    obtain ⟨a, b⟩ := vals_keysK p q
    refine ⟨.cons ?_ a, .cons ?_ b⟩
    · show L2.RelV (kV _) e.key
      rw [r1]; exact keyIs_rel h1
    · show L2.RelV _ e.val
      rw [h2]; exact r2
theorem vals_keysN : ∀ {ys : List (NestedKey × Addr × Value)} {xs : List (NestedKey × Addr × V)} {P : Program} {w : World}, Paired (fun (p : NestedKey × Addr × V) (q : NestedKey × Addr × Value) => p.1 = q.1 ∧ p.2.1 = q.2.1 ∧ RelV p.2.2 q.2.2) xs ys →
    Vals (xs.map fun p => V.ref p.2.1) ((ys.map (entryOfKey (nestedKind P w))).map (·.key)) ∧ Vals (xs.map (·.2.2)) ((ys.map (entryOfKey (nestedKind P w))).map (·.val))
  | _, _, _, _, .nil => ⟨.nil, .nil⟩
  | _, _, P, w, .cons ⟨r1, r2, r3⟩ q => by
    obtain ⟨a, b⟩ := vals_keysN (P := P) (w := w) q
    refine ⟨.cons ?_ a, .cons r3 b⟩
    show Value.ref _ = Value.ref _
    rw [r2]
theorem dct_raw {pins : List (Addr × Obj)} {σ : St} {Kn H : Hp} {s : Shared} {ks vs : List D} {a : Addr} (I : Inv X pins σ H s) (ex : Ex Kn H) (r : RelD G Kn (.dct ks vs) (.ref a)) :
    ∃ es ep xk xv, s.heap.DictRaw a es ep ∧ (a == sysModules) = false ∧ es.size ≤ sizeLine + ks.length ∧ RelDs G Kn ks xk ∧ RelDs G Kn vs xv ∧ Vals xk (es.toList.map (·.key)) ∧ Vals xv (es.toList.map (·.val)) := by
  cases r with
  | @dctK _ o kvs _ _ h rk rv =>
    obtain ⟨he, hl, hs, vs', kv, o', es, ep, ho, hx, hd, _, hp, _⟩ := I.hok a _ (ex _ _ h)
    obtain ⟨v1, v2⟩ := vals_keysK hp kv
    refine ⟨es, ep, _, _, ⟨o', ho, hx, hd⟩, hs, ?_, rk, rv, v1, v2⟩
    have := v1.length
    have h2 := rk.length
    simp only [List.length_map, Array.length_toList] at this h2
    omega
  | @dctN _ o xs _ _ h rk hk rv _ =>
    obtain ⟨he, ⟨hs, ys, hp, o', es, ep, ho, hx, hd, hes, _, _⟩, _⟩ := I.hok a _ (ex _ _ h)
    obtain ⟨v1, v2⟩ := vals_keysN (P := G.P) (w := G.w) hp
    rw [← hes] at v1 v2
    refine ⟨es, ep, _, _, ⟨o', ho, hx, hd⟩, hs, ?_, rk, rv, v1, v2⟩
    have := v1.length
    have h2 := rk.length
    simp only [List.length_map, Array.length_toList] at this h2
    omega
end
/-! ### keys that are tuples -/
section
variable {X : Cx} {G : Gx} {pins : List (Addr × Obj)} {σ : St} {Kn H : Hp} {s : Shared}
mutual
theorem RelD.nest (hK : X.K = G.K) (I : Inv X pins σ H s) (ex : Ex Kn H) : ∀ {d : D} {x : V} {v : Value} {k : NestedKey}, RelD G Kn d x → nk d = some k → L2.RelV x v → NestedIs s.heap k v
  | _, _, _, _, .non, h, r => by cases h; cases (show _ = Value.none from r); exact .none
  | _, _, _, _, .bl b, h, r => by cases h; cases (show _ = Value.bool b from r); exact .bool rfl
  | _, _, _, _, .int i, h, r => by cases h; obtain ⟨t, e⟩ := (show ∃ t, _ = Value.int i t from r); subst e; exact .int i t
  | _, _, _, _, .str z, h, r => by cases h; obtain ⟨t, e⟩ := (show ∃ t, _ = Value.str z t from r); subst e; exact .text z t
  | _, _, _, _, .ty _, h, _ => by cases h
  | _, _, _, _, .cl _, h, _ => by cases h
  | _, _, _, _, .wt _ _, h, _ => by cases h
  | _, _, _, _, .di _, h, _ => by cases h
  | _, _, _, _, .lst _ _, h, _ => by cases h
  | _, _, _, _, .dctK _ _ _, h, _ => by cases h
  | _, _, _, _, .dctN _ _ _ _ _, h, _ => by cases h
  | _, _, _, _, .ins _ _ _, h, _ => by cases h
  | _, _, v, _, @RelD.tup _ _ a xs ds hs rr, h, r => by
    cases (show v = Value.ref a from r)
    simp only [nk] at h
    cases e : nks ds with
    | none => rw [e] at h; cases h
    | some ks =>
      rw [e] at h
      cases h
      obtain ⟨its, rv, ⟨o, ho, hc, n, hd⟩, _⟩ := I.tuple (by rw [hK]; exact Evl.ex_t ex hs.sq)
      exact .tup ho hc hd (by simpa using RelDs.nest hK I ex rr e rv)
theorem RelDs.nest (hK : X.K = G.K) (I : Inv X pins σ H s) (ex : Ex Kn H) : ∀ {ds : List D} {xs : List V} {vs : List Value} {ks : List NestedKey}, RelDs G Kn ds xs → nks ds = some ks → Vals xs vs → NestedAll s.heap ks vs
  | _, _, _, _, .nil, h, r => by cases h; cases r; exact .nil
  | d :: ds, _, _, _, .cons h1 h2, h, r => by
    simp only [nks] at h
    cases e1 : nk d with
    | none => rw [e1] at h; cases h
    | some k =>
      cases e2 : nks ds with
      | none => rw [e1, e2] at h; cases h
      | some ks =>
        rw [e1, e2] at h
        cases h
        cases r with
        | cons r1 r2 => exact .cons (RelD.nest hK I ex h1 e1 r1) (RelDs.nest hK I ex h2 e2 r2)
end
theorem nest_pair {h : Heap} : ∀ {ks : List NestedKey} {ys : List (NestedKey × Addr × Value)}, ks = ys.map (·.1) → NestedAll h ks (ys.map fun y => Value.ref y.2.1) → ∀ y ∈ ys, NestedIs h y.1 (.ref y.2.1)
  | _, [], _, _, y, hy => by cases hy
  | _, z :: ys, e, n, y, hy => by
    subst e
    cases n with
    | cons n1 n2 =>
      rcases List.mem_cons.mp hy with q | q
      · subst q; exact n1
      · exact nest_pair rfl n2 y q
theorem vals_refsN : ∀ {xs : List (NestedKey × Addr × V)} {ys : List (NestedKey × Addr × Value)}, Paired (fun (p : NestedKey × Addr × V) (q : NestedKey × Addr × Value) => p.1 = q.1 ∧ p.2.1 = q.2.1 ∧ L2.RelV p.2.2 q.2.2) xs ys →
    Vals (xs.map fun p => V.ref p.2.1) (ys.map fun y => Value.ref y.2.1) ∧ xs.map (·.1) = ys.map (·.1)
  | _, _, .nil => ⟨.nil, rfl⟩
  | _, _, .cons ⟨r1, r2, r3⟩ q => by
    obtain ⟨a, b⟩ := vals_refsN q
    refine ⟨.cons ?_ a, by simp [r1, b]⟩
    show Value.ref _ = Value.ref _
    rw [r2]
/-- a dict whose keys are tuples, as the library has it -/
theorem dctN_at {a : Addr} {xs : List (NestedKey × Addr × V)} {ks : List D} (hK : X.K = G.K) (I : Inv X pins σ H s) (ex : Ex Kn H) (h : dnRows G.P G.w s.heap a xs) (rk : RelDs G Kn ks (xs.map fun p => V.ref p.2.1)) (hk : nks ks = some (xs.map (·.1))) :
    (a == sysModules) = false ∧ ∃ ys, Paired (fun (p : NestedKey × Addr × V) (q : NestedKey × Addr × Value) => p.1 = q.1 ∧ p.2.1 = q.2.1 ∧ L2.RelV p.2.2 q.2.2) xs ys ∧ s.heap.DictOfH (nestedKind G.P G.w) a ys ∧ ∀ y ∈ ys, y.1.depth ≤ 8 := by
  obtain ⟨hs, ys, hp, o, es, ep, ho, hx, hd, hes, nd, dep⟩ := h
  obtain ⟨v1, e1⟩ := vals_refsN hp
  have n := RelDs.nest hK I ex rk hk v1
  exact ⟨hs, ys, hp, ⟨o, es, ep, ho, hx, hd, hes, fun y hy => ⟨nest_pair e1 n y hy, dep y hy⟩, nd⟩, dep⟩
end
section
variable {prog : Program} {w : World} {d : Addr} {es : Array DictEntry} {ep : Nat}
theorem src_raw (lo : (d == sysModules) = false) : PySem.W.KdlSrc prog w "dict" d d es.size (fun i v => ∃ hi : i < es.size, v = es[i].key) (fun h => h.DictRaw d es ep) where
  type := fun _ hm => hm.typeIs
  there := fun _ hm => let ⟨_, ho, _⟩ := hm; ⟨Heap.lt_size ho, Heap.lt_size ho⟩
  keep := fun _ _ hm hk => hm.at fun o e => hk d (.inl rfl) o e
  notList := by decide
  notTuple := by decide
  hint := fun _ _ _ _ hm hq => PySem.W.kdl_hint_dict hm.typeIs hq
  iter := fun _ _ hh hm => ⟨_, _, (fun _ _ hq => wpAny_pyIter_dict_raw lo hm hq), Walks.rawKeys hh _ d (let ⟨_, ho, _⟩ := hm; Nat.ne_of_lt (Heap.lt_size ho)) es ep, ⟨⟨_, Heap.get?_push_size _ rfl, rfl, rfl⟩, hm.at fun o e => Heap.get?_push_of_some _ e⟩⟩
end
section
variable {prog : Program} {w : World} {A : Around} {E : Value → Shared → Prop} {s : Shared} {T : String} {r d : Addr} {n : Nat} {P : Nat → Value → Prop} {OK : Heap → Prop}
theorem collect_src {R : List Value → Shared → Prop} (K : PySem.W.KdlSrc prog w T r d n P OK) (hh : A.handled = none) (hok : OK s.heap) (hn : n ≤ sizeLine)
    (h : ∀ (h' : Heap) (tk : Nat) (vs : List Value), (∀ b o, s.heap.get? b = some o → h'.get? b = some o) → s.heap.objs.size ≤ h'.objs.size → vs.length = n → (∀ j v, vs[j]? = some v → P j v) → R vs { s with heap := h', toks := tk }) :
    wpAny (model prog w) A (collect (.ref r)) R E s := by
  obtain ⟨hr, hd⟩ := K.there _ hok
  unfold collect
  refine wpAny_bind (wpAny_runValue (codeAny_builtin entry_proto_collect' ?_))
  rw [Around.under_plainId PySem.F.plain_proto_collect _]
  show wpAny _ A.in1 (newList [] >>= fun l => again (.builtin "list.__iadd__" ⟨[l, .ref r], []⟩)) _ _ s
  refine wpAny_bind (wpAny_newObj_type ?_)
  refine wpAny_pure ⟨plainId_quiet PySem.F.plain_list_iadd _, codeAny_builtin entry_list_iadd' ?_⟩
  rw [Around.under_plainId PySem.F.plain_list_iadd _]
  have hS : (s.heap.push { cls := .type "list", data := .seq ([] : List Value).toArray }).get? s.heap.objs.size = some { cls := .type "list", data := .seq #[] } := Heap.get?_push_size _ rfl
  show wpAny _ A.in1 (Builtin.List.listExtendWith (.ref s.heap.objs.size) (.ref r) (.ref s.heap.objs.size)) _ _ _
  have key := PySem.W.kdl_extend (A := A) (s := { s with heap := s.heap.push { cls := .type "list", data := .seq ([] : List Value).toArray } })
    (R := fun (q : Result) (s' : Shared) => ∃ (h' : Heap) (tk : Nat) (acc' : Array Value) (c' : Nat), q = .ok (.ret (.ref s.heap.objs.size)) ∧ s' = { s with heap := h', toks := tk } ∧
      (∀ b o, s.heap.get? b = some o → h'.get? b = some o) ∧ h'.get? s.heap.objs.size = some { cls := .type "list", dict := none, data := .seq acc' c', slots := #[] } ∧ ItemsOf P acc' n)
    K hh (K.keep _ _ hok fun b _ o e => Heap.get?_push_of_some _ e) s.heap.objs.size (Nat.ne_of_gt hr) (Nat.ne_of_gt hd) (.ref s.heap.objs.size) 0 hS
    (fun h' tk acc' c' hk hS' hacc => ⟨h', tk, acc', c', rfl, rfl, fun b o e => hk b o (Nat.ne_of_lt (Heap.lt_size e)) (Heap.get?_push_of_some _ e), hS', hacc⟩) hn
  have fin : ∀ (h' : Heap) (tk : Nat) (acc' : Array Value) (c' : Nat), (∀ b o, s.heap.get? b = some o → h'.get? b = some o) → h'.get? s.heap.objs.size = some { cls := .type "list", dict := none, data := .seq acc' c', slots := #[] } → ItemsOf P acc' n → R acc'.toList { s with heap := h', toks := tk } :=
    fun h' tk acc' c' hk hS' hacc => h h' tk acc'.toList hk (Nat.le_of_lt (Heap.lt_size hS')) (by rw [Array.length_toList]; exact hacc.1) fun j v e => hacc.2 j v (by rw [← Array.getElem?_toList]; exact e)
  refine wpAny_mono key (fun f s' x => ?_) fun e s' x => ?_
  · cases f with
    | done f =>
      obtain ⟨h', tk, acc', c', e, rfl, hk, hS', hacc⟩ := x
      cases e
      show wpAny _ A (load s.heap.objs.size >>= _) _ _ _
      exact wpAny_bind (wpAny_load hS' (wpAny_pure (fin h' tk acc' c' hk hS' hacc)))
    | again c₁ =>
      refine ⟨x.1, codeAny_mono x.2 fun q s₂ y => ?_⟩
      obtain ⟨h', tk, acc', c', rfl, rfl, hk, hS', hacc⟩ := y
      show wpAny _ A (load s.heap.objs.size >>= _) _ _ _
      exact wpAny_bind (wpAny_load hS' (wpAny_pure (fin h' tk acc' c' hk hS' hacc)))
  · obtain ⟨_, _, _, _, e', _⟩ := x
    cases e'
/-- a list, a tuple, gathered -/
theorem collect_seq {l : Addr} {o : Obj} {T : String} {vs : List Value} {n : Nat} {Q : List Value → Shared → Prop} (ho : s.heap.get? l = some o) (hc : o.cls = .type T) (hT : T = "list" ∨ T = "tuple") (hd : o.data = .seq vs.toArray n)
    (h : ∀ h' : Heap, (∀ b o, s.heap.get? b = some o → h'.get? b = some o) → s.heap.objs.size ≤ h'.objs.size → Q vs { s with heap := h' }) (hsz : vs.length ≤ sizeLine) :
    wpAny (model prog w) A (collect (.ref l)) Q E s := by
  unfold collect
  refine wpAny_bind (wpAny_runValue (codeAny_builtin entry_proto_collect' ?_))
  show wpAny _ _ (do again (.builtin "list.__iadd__" ⟨[← newList [], .ref l], []⟩)) _ _ s
  refine wpAny_bind (wpAny_newList (wpAny_pure ⟨Code.quiet_builtin _ (by decide +kernel), codeAny_builtin entry_list_iadd' ?_⟩))
  show wpAny _ _ (Builtin.List.listExtendWith (.ref s.heap.objs.size) (.ref l) (.ref s.heap.objs.size)) _ _ { s with heap := s.heap.push (seqObj "list" #[] 0) }
  unfold Builtin.List.listExtendWith
  have ho' : (s.heap.push (seqObj "list" #[] 0)).get? l = some o := Heap.get?_push_of_some _ ho
  refine wpAny_bind (wpAny_typeOf (T := T) ⟨o, ho', hc⟩ ?_)
  have ht : (Builtin.List.listSameRef (.ref s.heap.objs.size) (.ref l) || Value.type T == Value.type "list" || Value.type T == Value.type "tuple") = true := by
    rcases hT with e | e <;> subst e <;> simp
  rw [if_pos ht]
  refine wpAny_bind (listItems_at ho' hd ?_)
  refine wpAny_bind (listItems_at (xs := #[]) (n := 0) (Heap.get?_push_size _ rfl) rfl ?_)
  rw [if_neg (by simp)]
  refine wpAny_bind (listUpdate_at (xs := #[]) (n := 0) (Heap.get?_push_size _ rfl) rfl ?_ (Nat.zero_le _) (by show (#[] ++ vs.toArray).size ≤ sizeLine + 1; simp only [Array.size_append, List.size_toArray, List.length_nil]; omega))
  refine wpAny_pure ?_
  show wpAny (model prog w) A (do
      let o ← load s.heap.objs.size
      match o.data with
      | .seq xs _ => pure xs.toList
      | _ => unsupported "internal:collect") Q E { s with heap := (s.heap.push (seqObj "list" #[] 0)).update s.heap.objs.size (Obj.mapSeq (· ++ vs.toArray)) }
  have hat := get?_update_seq (h := s.heap.push (seqObj "list" #[] 0)) (Heap.get?_push_size _ rfl) (· ++ vs.toArray)
  refine wpAny_bind (wpAny_load hat ?_)
  show wpAny _ _ (pure ((#[] : Array Value) ++ vs.toArray).toList) Q E _
  rw [show ((#[] : Array Value) ++ vs.toArray).toList = vs by simp]
  refine wpAny_pure (h _ (fun b u e => ?_) (Nat.le_of_lt (Heap.lt_size hat)))
  rw [Heap.get?_update_other _ _ (Nat.ne_of_gt (Heap.lt_size e))]
  exact Heap.get?_push_of_some _ e
end
end Ev
set_option maxHeartbeats 4000000
/-! Ev: built-ins by data. -/
namespace Ev
open PySem PySem.Spec PyProof.Rows L2

/-! ### data of one kind -/
def boolsD : List D → Option (List Bool)
  | [] => some []
  | .bl b :: r => (boolsD r).map (b :: ·)
  | _ => none
def intsD : List D → Option (List Int)
  | [] => some []
  | .int i :: r => (intsD r).map (i :: ·)
  | _ => none
theorem boolsD_rel {G : Gx} {Kn : Hp} : ∀ {ds : List D} {xs : List V} {bs : List Bool}, RelDs G Kn ds xs → boolsD ds = some bs → xs = bs.map V.bl
  | _, _, _, .nil, h => by cases h; rfl
  | .bl b :: ds, _, _, .cons r rr, h => by
    simp only [boolsD] at h
    cases e : boolsD ds with
    | none => rw [e] at h; cases h
    | some q => rw [e] at h; cases h; cases r; rw [boolsD_rel rr e]; rfl
  | .non :: _, _, _, .cons _ _, h => by cases h
  | .int _ :: _, _, _, .cons _ _, h => by cases h
  | .str _ :: _, _, _, .cons _ _, h => by cases h
  | .tup _ :: _, _, _, .cons _ _, h => by cases h
  | .lst _ :: _, _, _, .cons _ _, h => by cases h
  | .dct _ _ :: _, _, _, .cons _ _, h => by cases h
  | .ins _ _ :: _, _, _, .cons _ _, h => by cases h
  | .ty _ :: _, _, _, .cons _ _, h => by cases h
  | .cl _ :: _, _, _, .cons _ _, h => by cases h
  | .wt _ :: _, _, _, .cons _ _, h => by cases h
  | .di _ _ :: _, _, _, .cons _ _, h => by cases h
theorem intsD_rel {G : Gx} {Kn : Hp} : ∀ {ds : List D} {xs : List V} {bs : List Int}, RelDs G Kn ds xs → intsD ds = some bs → xs = bs.map V.int
  | _, _, _, .nil, h => by cases h; rfl
  | .int b :: ds, _, _, .cons r rr, h => by
    simp only [intsD] at h
    cases e : intsD ds with
    | none => rw [e] at h; cases h
    | some q => rw [e] at h; cases h; cases r; rw [intsD_rel rr e]; rfl
  | .non :: _, _, _, .cons _ _, h => by cases h
  | .bl _ :: _, _, _, .cons _ _, h => by cases h
  | .str _ :: _, _, _, .cons _ _, h => by cases h
  | .tup _ :: _, _, _, .cons _ _, h => by cases h
  | .lst _ :: _, _, _, .cons _ _, h => by cases h
  | .dct _ _ :: _, _, _, .cons _ _, h => by cases h
  | .ins _ _ :: _, _, _, .cons _ _, h => by cases h
  | .ty _ :: _, _, _, .cons _ _, h => by cases h
  | .cl _ :: _, _, _, .cons _ _, h => by cases h
  | .wt _ :: _, _, _, .cons _ _, h => by cases h
  | .di _ _ :: _, _, _, .cons _ _, h => by cases h

/-! ### len, all, any, sum -/
def evLen : List D → Option D
  | [.str x] => if x.length ≤ 4096 then some (.int x.length) else none
  | [.tup xs] => some (.int xs.length)
  | [.lst xs] => some (.int xs.length)
  | [.dct ks _] => if ks.length ≤ 4096 then some (.int ks.length) else none
  | _ => none
def evAll : List D → Option D
  | [.lst xs] => (boolsD xs).map fun bs => .bl (bs.all id)
  | _ => none
def evAny : List D → Option D
  | [.lst xs] => (boolsD xs).map fun bs => .bl (bs.any id)
  | _ => none
def evSum : List D → Option D
  | [.lst xs] => (intsD xs).map fun bs => .int bs.sum
  | _ => none
section
variable {X : Cx} {G : Gx} {mg : Str → Option Value} {base : Heap} {k : Nat}
theorem relDs1 {Kn : Hp} {d : D} {vs : List V} (r : RelDs G Kn [d] vs) : ∃ v, vs = [v] ∧ RelD G Kn d v := by
  cases r with
  | cons h t => cases t; exact ⟨_, rfl, h⟩
theorem relDs2 {Kn : Hp} {d e : D} {vs : List V} (r : RelDs G Kn [d, e] vs) : ∃ v u, vs = [v, u] ∧ RelD G Kn d v ∧ RelD G Kn e u := by
  cases r with
  | cons h t =>
    obtain ⟨u, rfl, h2⟩ := relDs1 t
    exact ⟨_, _, rfl, h, h2⟩
theorem lst_sq {Kn H : Hp} {ds : List D} {v : V} (ex : Ex Kn H) (r : RelD G Kn (.lst ds) v) : ∃ a xs, v = .ref a ∧ SqL G.K H a xs ∧ RelDs G Kn ds xs := by
  cases r with
  | lst h rr => exact ⟨_, _, rfl, Evl.sq_of (ex _ _ h), rr⟩
theorem tup_sq {Kn H : Hp} {ds : List D} {v : V} (ex : Ex Kn H) (r : RelD G Kn (.tup ds) v) : ∃ a xs, v = .ref a ∧ SqT G.K H a xs ∧ RelDs G Kn ds xs := by
  cases r with
  | tup h rr => exact ⟨_, _, rfl, Evl.ex_t ex h.sq, rr⟩
theorem len_ok (gd : Gd X G mg base k) (ds : List D) (d : D) (h : evLen ds = some d) : CallR X (.builtin "len") (rc G ds d) := by
  unfold evLen at h
  split at h
  · rename_i x
    split at h
    · rename_i hl; cases h
      refine CallR.byD call_len fun Kn H vs Q ex r q => ?_
      obtain ⟨v, rfl, r1⟩ := relDs1 r
      cases r1
      exact ⟨_, x.length, rfl, ⟨by rw [sizeLine_eq]; omega, rfl⟩, q _ H Kn (Step.refl ex) (.int _)⟩
    · cases h
  · rename_i xs; cases h
    refine CallR.byD call_len fun Kn H vs Q ex r q => ?_
    obtain ⟨v, rfl, r1⟩ := relDs1 r
    obtain ⟨a, ys, rfl, hs, rr⟩ := tup_sq ex r1
    exact ⟨_, ys.length, rfl, .inr ⟨ys, by rw [gd.hK]; exact hs, rfl⟩, q _ H Kn (Step.refl ex) (by rw [← rr.length]; exact .int _)⟩
  · rename_i xs; cases h
    refine CallR.byD call_len fun Kn H vs Q ex r q => ?_
    obtain ⟨v, rfl, r1⟩ := relDs1 r
    obtain ⟨a, ys, rfl, hs, rr⟩ := lst_sq ex r1
    exact ⟨_, ys.length, rfl, .inl ⟨ys, by rw [gd.hK]; exact hs, rfl⟩, q _ H Kn (Step.refl ex) (by rw [← rr.length]; exact .int _)⟩
  · rename_i ks ws
    split at h
    · rename_i hl; cases h
      intro pins s σ H vs us Q I rv ⟨Kn, ex, r, q⟩
      obtain ⟨v, rfl, r1⟩ := relDs1 r
      obtain ⟨a, rfl⟩ : ∃ a, v = .ref a := by cases r1 <;> exact ⟨_, rfl⟩
      obtain ⟨u, rfl, ru⟩ := vals1 rv
      cases (show u = Value.ref a from ru)
      have len : ∀ n : Nat, n = ks.length → EP X pins σ Q (.int n s.toks) { s with toks := s.toks + 1 } := fun n e => by
        subst e; exact ⟨.int _, H, I.tok _, ⟨_, rfl⟩, q _ H Kn (Step.refl ex) (.int _)⟩
      cases r1 with
      | @dctK _ o kvs _ _ hh rk _ =>
        exact d_len I (.inr ⟨o, ex _ _ hh⟩) fun t s' I' => ⟨.int kvs.length, H, I', ⟨t, rfl⟩, q _ H Kn (Step.refl ex) (by have := rk.length; rw [List.length_map] at this; rw [← this]; exact .int _)⟩
      | @dctN _ o xs _ _ hh rk hk _ _ =>
        obtain ⟨_, hdn, _⟩ := I.hok a _ (ex _ _ hh)
        obtain ⟨hs, ys, hp, hm, _⟩ := dctN_at gd.hK I ex hdn rk hk
        have e1 : ys.length = ks.length := by have := rk.length; rw [List.length_map] at this; rw [this]; exact (Paired.length hp).symm
        have hm' : s.heap.DictOfH (nestedKind X.prog X.w) a ys := by rw [gd.hP, gd.hw]; exact hm
        exact call_len_dictH hs hm' (by rw [e1]; omega) ⟨.int _, H, (I.tok (s.toks + 1 + 1)), ⟨_, rfl⟩, q _ H Kn (Step.refl ex) (by rw [e1]; exact .int _)⟩
    · cases h
  · cases h
theorem all_ok (gd : Gd X G mg base k) (ds : List D) (d : D) (h : evAll ds = some d) : CallR X (.builtin "all") (rc G ds d) := by
  unfold evAll at h
  split at h
  · rename_i xs
    cases e : boolsD xs with
    | none => rw [e] at h; cases h
    | some bs =>
      rw [e] at h; cases h
      refine CallR.byD (cr_all gd.hc) fun Kn H vs Q ex r q => ?_
      obtain ⟨v, rfl, r1⟩ := relDs1 r
      obtain ⟨a, ys, rfl, hs, rr⟩ := lst_sq ex r1
      rw [boolsD_rel rr e] at hs
      exact ⟨a, bs, rfl, by rw [gd.hK]; exact hs, q _ H Kn (Step.refl ex) (.bl _)⟩
  · cases h
theorem any_ok (gd : Gd X G mg base k) (ds : List D) (d : D) (h : evAny ds = some d) : CallR X (.builtin "any") (rc G ds d) := by
  unfold evAny at h
  split at h
  · rename_i xs
    cases e : boolsD xs with
    | none => rw [e] at h; cases h
    | some bs =>
      rw [e] at h; cases h
      refine CallR.byD (cr_any gd.hc) fun Kn H vs Q ex r q => ?_
      obtain ⟨v, rfl, r1⟩ := relDs1 r
      obtain ⟨a, ys, rfl, hs, rr⟩ := lst_sq ex r1
      rw [boolsD_rel rr e] at hs
      exact ⟨a, bs, rfl, by rw [gd.hK]; exact hs, q _ H Kn (Step.refl ex) (.bl _)⟩
  · cases h
theorem sum_ok (gd : Gd X G mg base k) (ds : List D) (d : D) (h : evSum ds = some d) : CallR X (.builtin "sum") (rc G ds d) := by
  unfold evSum at h
  split at h
  · rename_i xs
    cases e : intsD xs with
    | none => rw [e] at h; cases h
    | some bs =>
      rw [e] at h; cases h
      refine CallR.byD (cr_sum gd.hc) fun Kn H vs Q ex r q => ?_
      obtain ⟨v, rfl, r1⟩ := relDs1 r
      obtain ⟨a, ys, rfl, hs, rr⟩ := lst_sq ex r1
      rw [intsD_rel rr e] at hs
      exact ⟨a, bs, rfl, by rw [gd.hK]; exact hs, q _ H Kn (Step.refl ex) (.int _)⟩
  · cases h

/-! ### isinstance -/
/-- the kinds of data that isinstance tells apart -/
def tyV (G : Gx) : D → Option Value
  | .non => some (.type "NoneType") | .bl _ => some (.type "bool") | .int _ => some (.type "int") | .str _ => some (.type "str") | .tup _ => some (.type "tuple") | .lst _ => some (.type "list") | .dct _ _ => some (.type "dict")
  | .ins c _ => some (.ref (G.cad c)) | .ty _ => none | .cl _ => none | .wt _ => none | .di _ _ => none
def tkD : D → Option Nat
  | .non => some 0 | .bl _ => some 1 | .int _ => some 2 | .str _ => some 3 | .tup _ => some 4 | .lst _ => some 5 | .dct _ _ => some 6
  | .ins c _ => some (c + 7) | .ty _ => none | .cl _ => none | .wt _ => none | .di _ _ => none
def tkV (G : Gx) : Nat → Value
  | 0 => .type "NoneType" | 1 => .type "bool" | 2 => .type "int" | 3 => .type "str" | 4 => .type "tuple" | 5 => .type "list" | 6 => .type "dict"
  | c + 7 => .ref (G.cad c)
/-- what isinstance answers, for the kinds of a program -/
structure Isi (G : Gx) (tab : List (Nat × Nat × Bool)) (cls : List Nat) : Prop where
  ok : ∀ t ∈ tab, PySem.W.kitOne G.K (tkV G t.1) (tkV G t.2.1) = some t.2.2
  sl : ∀ c ∈ cls, SlX.SCls G.K (G.cad c) ∧ SlX.SIsi G.K (G.cad c)
def tyNo : String → Option Nat
  | "bool" => some 1 | "int" => some 2 | "str" => some 3 | "tuple" => some 4 | "list" => some 5 | "dict" => some 6
  | _ => none
def clNo : D → Option Nat
  | .ty n => tyNo n
  | .cl c => some (c + 7)
  | _ => none
def look3 (tab : List (Nat × Nat × Bool)) (a b : Nat) : Option Bool := match tab with
  | [] => none
  | (x, y, r) :: t => if x == a && y == b then some r else look3 t a b
theorem look3_mem : ∀ {tab : List (Nat × Nat × Bool)} {a b : Nat} {r : Bool}, look3 tab a b = some r → (a, b, r) ∈ tab
  | (x, y, q) :: t, a, b, r, h => by
    unfold look3 at h
    split at h
    · rename_i hc
      simp only [Bool.and_eq_true, beq_iff_eq] at hc
      obtain ⟨rfl, rfl⟩ := hc
      cases h
      exact .head _
    · exact .tail _ (look3_mem h)
def evIsi (tab : List (Nat × Nat × Bool)) (cls : List Nat) : List D → Option D
  | [d, c] => match tkD d, clNo c with
    | some a, some b => if a < 7 ∨ (a - 7) ∈ cls then (look3 tab a b).map .bl else none
    | _, _ => none
  | _ => none
theorem tyNo_V {n : String} {b : Nat} (h : tyNo n = some b) : tkV G b = .type n := by
  unfold tyNo at h
  split at h <;> first | (cases h; rfl) | cases h
theorem isi_ok {tab : List (Nat × Nat × Bool)} {cls : List Nat} (S : Isi G tab cls) (gd : Gd X G mg base k) (ds : List D) (d : D) (h : evIsi tab cls ds = some d) : CallR X (.builtin "isinstance") (rc G ds d) := by
  unfold evIsi at h
  split at h
  · rename_i x c
    split at h
    · rename_i a b ha hb
      split at h
      · rename_i hcl
        cases e : look3 tab a b with
        | none => rw [e] at h; cases h
        | some r =>
          rw [e] at h; cases h
          have hk := S.ok _ (look3_mem e)
          dsimp only at hk
          intro pins s σ H vs us Q I rv ⟨Kn, ex, rds, q⟩
          obtain ⟨v, u, rfl, r1, r2⟩ := relDs2 rds
          obtain ⟨w1, w2, rfl, rv1, rv2⟩ := vals2 rv
          have hq : ∀ tk, EP X pins σ Q (.bool r) { s with toks := tk } := fun tk => ⟨.bl r, H, I.tok tk, rfl, q _ H Kn (Step.refl ex) (.bl r)⟩
          have hw : w2 = tkV G b := by
            cases c with
            | ty n => cases r2; have := tyNo_V (G := G) hb; rw [this]; exact rv2
            | cl c => cases r2; cases hb; exact rv2
            | _ => cases hb
          subst hw
          have hK := gd.hK
          rw [← hK] at hk
          cases r1 with
          | non => cases ha; cases (show w1 = Value.none from rv1); exact PySem.W.kia_one PySem.W.kitx_none I.kIn True.intro hk (fun z => nomatch z) hq
          | bl y => cases ha; cases (show w1 = Value.bool y from rv1); exact PySem.W.kia_one PySem.W.kitx_bool I.kIn True.intro hk (fun z => nomatch z) hq
          | int i => cases ha; obtain ⟨t, z⟩ := (show ∃ t, w1 = Value.int i t from rv1); subst z; exact PySem.W.kia_one PySem.W.kitx_int I.kIn True.intro hk (fun z => nomatch z) hq
          | str y => cases ha; obtain ⟨t, z⟩ := (show ∃ t, w1 = Value.str y t from rv1); subst z; exact PySem.W.kia_one PySem.W.kitx_str I.kIn True.intro hk (fun z => nomatch z) hq
          | @tup a' xs ds' hs rr =>
            cases ha; cases (show w1 = Value.ref a' from rv1)
            obtain ⟨its, _, ⟨o, ho, hc, _⟩, _⟩ := I.tuple (by rw [hK]; exact Evl.ex_t ex hs.sq)
            exact PySem.W.kia_one PySem.W.kitx_tuple I.kIn ⟨o, ho, hc⟩ hk (fun z => nomatch z) hq
          | @lst a' xs ds' hs rr =>
            cases ha; cases (show w1 = Value.ref a' from rv1)
            obtain ⟨_, _, n, _, h1⟩ := (show ObjOk X.prog X.w H s.heap a' (.lst xs) from I.hok a' _ (ex _ _ hs))
            exact PySem.W.kia_one PySem.W.kitx_list I.kIn ⟨_, h1, rfl⟩ hk (fun z => nomatch z) hq
          | @dctK a' o kvs ks vs hs rk rr =>
            cases ha; cases (show w1 = Value.ref a' from rv1)
            obtain ⟨es, ep, _, _, ⟨o', ho, hx, _⟩, _⟩ := dct_raw I ex (.dctK hs rk rr)
            exact PySem.W.kia_one PySem.W.kitx_dict I.kIn ⟨o', ho, hx.1⟩ hk (fun z => nomatch z) hq
          | @dctN a' o xs ks vs hs rk hn rr nn =>
            cases ha; cases (show w1 = Value.ref a' from rv1)
            obtain ⟨es, ep, _, _, ⟨o', ho, hx, _⟩, _⟩ := dct_raw I ex (.dctN hs rk hn rr nn)
            exact PySem.W.kia_one PySem.W.kitx_dict I.kIn ⟨o', ho, hx.1⟩ hk (fun z => nomatch z) hq
          | @ins a' dx c' xs fs hs hx rr =>
            cases ha; cases (show w1 = Value.ref a' from rv1)
            obtain ⟨hc, hi⟩ := S.sl c' (by
              rcases hcl with z | z
              · omega
              · simpa using z)
            rw [← hK] at hc hi
            obtain ⟨sl, od, _, J, _⟩ := SlX.slt_inst I (.inr ⟨ex _ _ hs, ex _ _ hx⟩)
            exact PySem.W.kia_one (OwX.kitx_slt hc.ic (hc.get _) hi.ca hi.cn hi.ct hi.cm) I.kIn J hk (fun z => nomatch z) hq
          | ty n => cases ha
          | cl n => cases ha
          | wt _ => cases ha
          | di _ => cases ha
      · cases h
    · cases h
  · cases h
end
end Ev
set_option maxHeartbeats 4000000
/-! Ev: sorted by data. -/
namespace Ev
open PySem PySem.Spec PyProof.Rows L2

def insD (x : D) : List D → List D
  | [] => [x]
  | y :: r => match evLt x y with
    | some true => x :: y :: r
    | _ => y :: insD x r
def isort : List D → List D
  | [] => []
  | x :: r => insD x (isort r)
theorem insD_perm (x : D) : ∀ l : List D, (insD x l).Perm (x :: l)
  | [] => List.Perm.refl _
  | y :: r => by
    unfold insD
    split
    · exact List.Perm.refl _
    · exact ((insD_perm x r).cons y).trans (List.Perm.swap x y r)
theorem isort_perm : ∀ l : List D, (isort l).Perm l
  | [] => List.Perm.refl _
  | x :: r => (insD_perm x (isort r)).trans ((isort_perm r).cons x)
def pairLt : List D → Bool
  | [] => true
  | y :: r => r.all (fun z => match evLt y z with | some true => true | _ => false) && pairLt r
def encD (d : D) : PyData := (pyd d).getD .none
def isTup1 : D → Bool
  | .tup (_ :: _) => true
  | _ => false
def notTup : D → Bool
  | .tup _ => false
  | _ => true
def srtD (ds : List D) : Option (List D) :=
  let ys := isort ds
  if (ds.all (fun x => ds.all fun y => (evLt x y).isSome) && pairLt ys && (ds.all isTup1 || ds.all notTup) && decide (ds.length ≤ 4096)) = true then some ys else none
theorem evLt_enc {x y : D} {k : Bool} (h : evLt x y = some k) : pyd x = some (encD x) ∧ pyd y = some (encD y) ∧ PySem.W.alike (encD x) (encD y) = true ∧ encD x ≠ .none ∧ dpth (encD x) = true ∧ k = PySem.W.dataLt (encD x) (encD y) := by
  obtain ⟨a, b, h1, h2, h3, h4, h5, h6⟩ := lt_core h
  have e1 : encD x = a := by unfold encD; rw [h1]; rfl
  have e2 : encD y = b := by unfold encD; rw [h2]; rfl
  rw [e1, e2]
  exact ⟨h1, h2, h3, h4, h5, h6⟩
theorem pw_any {R : D → D → Prop} : ∀ {l : List D}, l.Pairwise R → ∀ {a b : D}, a ∈ l → b ∈ l → a = b ∨ R a b ∨ R b a
  | _ :: _, .cons h t, a, b, ha, hb => by
    rcases List.mem_cons.mp ha with e1 | e1
    · rcases List.mem_cons.mp hb with e2 | e2
      · exact .inl (e1.trans e2.symm)
      · subst e1; exact .inr (.inl (h b e2))
    · rcases List.mem_cons.mp hb with e2 | e2
      · subst e2; exact .inr (.inr (h a e1))
      · exact pw_any t e1 e2
theorem pairLt_pw : ∀ {ys : List D}, pairLt ys = true → ys.Pairwise fun y z => evLt y z = some true
  | [], _ => .nil
  | y :: r, h => by
    simp only [pairLt, Bool.and_eq_true, List.all_eq_true] at h
    refine .cons (fun z hz => ?_) (pairLt_pw h.2)
    have := h.1 z hz
    split at this
    · assumption
    · cases this
structure Srt (ds ys : List D) : Prop where
  ok : ∀ x ∈ ds, pyd x = some (encD x) ∧ dpth (encD x) = true
  al : PySem.W.AllAlike (ds.map encD)
  so : PySem.W.Sortable (ds.map encD)
  len : ds.length ≤ 4096
  ms : ds.mergeSort (PySem.W.dataLe false encD) = ys
theorem srtD_ok {ds ys : List D} (h : srtD ds = some ys) : Srt ds ys := by
  unfold srtD at h
  dsimp only at h
  split at h
  · rename_i hc
    cases h
    simp only [Bool.and_eq_true, List.all_eq_true, decide_eq_true_eq, Bool.or_eq_true] at hc
    obtain ⟨⟨⟨h1, h2⟩, h3⟩, h4⟩ := hc
    have lt : ∀ x ∈ ds, ∀ y ∈ ds, ∃ k, evLt x y = some k := fun x hx y hy => Option.isSome_iff_exists.mp (h1 x hx y hy)
    have okx : ∀ x ∈ ds, pyd x = some (encD x) ∧ dpth (encD x) = true := fun x hx => by
      obtain ⟨k, e⟩ := lt x hx x hx
      obtain ⟨a, _, _, _, b, _⟩ := evLt_enc e
      exact ⟨a, b⟩
    refine ⟨okx, ?_, ?_, h4, ?_⟩
    · intro d hd d' hd'
      obtain ⟨x, hx, rfl⟩ := List.mem_map.mp hd
      obtain ⟨y, hy, rfl⟩ := List.mem_map.mp hd'
      obtain ⟨k, e⟩ := lt x hx y hy
      exact (evLt_enc e).2.2.1
    · rcases h3 with h3 | h3
      · refine .inl fun d hd => ?_
        obtain ⟨x, hx, rfl⟩ := List.mem_map.mp hd
        have hq := (okx x hx).1
        have ht := h3 x hx
        unfold isTup1 at ht
        split at ht
        · rename_i y r
          simp only [pyd, pyds] at hq
          cases e1 : pyd y with
          | none => rw [e1] at hq; cases hq
          | some a =>
            cases e2 : pyds r with
            | none => rw [e1, e2] at hq; cases hq
            | some b =>
              rw [e1, e2] at hq
              refine ⟨a, b, ?_⟩
              unfold encD
              simp only [pyd, pyds]
              rw [e1, e2]
              rfl
        · cases ht
      · refine .inr fun d hd => ?_
        obtain ⟨x, hx, rfl⟩ := List.mem_map.mp hd
        obtain ⟨k, e⟩ := lt x hx x hx
        refine ⟨(evLt_enc e).2.2.2.1, fun xs z => ?_⟩
        have hq := (okx x hx).1
        rw [z] at hq
        have ht := h3 x hx
        cases x with
        | tup l => simp [notTup] at ht
        | non => simp [pyd] at hq
        | bl _ => simp [pyd] at hq
        | int _ => simp [pyd] at hq
        | str _ => simp [pyd] at hq
        | lst l => simp only [pyd] at hq; cases e : pyds l with | none => rw [e] at hq; cases hq | some b => rw [e] at hq; cases hq
        | dct _ _ => simp [pyd] at hq
        | ins _ _ => simp [pyd] at hq
        | ty _ => simp [pyd] at hq
        | cl _ => simp [pyd] at hq
        | wt _ => simp [pyd] at hq
        | di _ _ => simp [pyd] at hq
    · have tot := PySem.W.sortLe_total (listOrd itemOrd) false fun d => PySem.W.keyToks (encD d)
      have pw1 := PySem.W.sort_pairwise tot ds
      have pw2 := pairLt_pw h2
      have lts : ∀ y z, evLt y z = some true → PySem.W.dataLt (encD y) (encD z) = true := fun y z e => (evLt_enc e).2.2.2.2.2.symm
      have le_of : ∀ y z, y ∈ isort ds → z ∈ isort ds → evLt y z = some true → PySem.W.dataLe false encD y z = true := fun y z hy hz e => by
        have t := tot.total y z
        rcases t with t | t
        · exact t
        · exfalso
          have t' : (!PySem.W.dataLt (encD y) (encD z)) = true := t
          rw [lts y z e] at t'
          cases t'
      have p12 : (ds.mergeSort (PySem.W.dataLe false encD)).Perm (isort ds) := (List.mergeSort_perm ds _).trans (isort_perm ds).symm
      refine List.Perm.eq_of_pairwise (le := fun a b => PySem.W.dataLe false encD a b = true) (fun a b ha hb h1 h2 => ?_) pw1 (List.Pairwise.imp_of_mem (fun {y z} hy hz e => le_of y z hy hz e) pw2) p12
      have ha' : a ∈ isort ds := p12.mem_iff.mp ha
      by_cases hab : a = b
      · exact hab
      · exfalso
        have : evLt a b = some true ∨ evLt b a = some true := by
          rcases pw_any pw2 ha' hb with e | e | e
          · exact absurd e hab
          · exact .inl e
          · exact .inr e
        rcases this with e | e
        · have t' : (!PySem.W.dataLt (encD a) (encD b)) = true := h2
          rw [lts a b e] at t'
          cases t'
        · have t' : (!PySem.W.dataLt (encD b) (encD a)) = true := h1
          rw [lts b a e] at t'
          cases t'
  · cases h

/-! ### the call -/
/-- what is gathered of a datum -/
def gat : D → Option (List D)
  | .lst xs => some xs
  | .tup xs => some xs
  | .dct ks _ => some ks
  | _ => none
def evSorted : List D → Option D
  | [d] => match gat d with
    | some ds => (srtD ds).map .lst
    | none => none
  | _ => none
section
variable {X : Cx} {G : Gx} {mg : Str → Option Value} {base : Heap} {k : Nat} {pins : List (Addr × Obj)} {σ : St} {Kn H : Hp} {s : Shared}
def Rsv (G : Gx) (Kn : Hp) (u : Value) (b : V × D) : Prop := L2.RelV b.1 u ∧ RelD G Kn b.2 b.1
theorem each_of : ∀ {ds : List D} {xs : List V} {us : List Value}, RelDs G Kn ds xs → Vals xs us → PySem.W.EachIs (Rsv G Kn) us (xs.zip ds)
  | _, _, _, .nil, .nil => .nil
  | _, _, _, .cons h t, .cons r q => .cons ⟨r, h⟩ (each_of t q)
theorem zip_snd : ∀ {ds : List D} {xs : List V}, RelDs G Kn ds xs → (xs.zip ds).map (·.2) = ds
  | _, _, .nil => rfl
  | _, _, .cons h t => by simp [zip_snd t]
theorem each_back : ∀ {us : List Value} {bs : List (V × D)}, PySem.W.EachIs (Rsv G Kn) us bs → Vals (bs.map (·.1)) us ∧ RelDs G Kn (bs.map (·.2)) (bs.map (·.1))
  | _, _, .nil => ⟨.nil, .nil⟩
  | _, _, .cons h t => by
    obtain ⟨a, b⟩ := each_back t
    exact ⟨.cons h.1 a, .cons h.2 b⟩
theorem each_with {α β : Type} {R : α → β → Prop} {P : α → β → Prop} : ∀ {as : List α} {bs : List β}, PySem.W.EachIs R as bs → (∀ a b, b ∈ bs → R a b → P a b) → PySem.W.EachIs P as bs
  | _, _, .nil, _ => .nil
  | _, _, .cons h t, p => .cons (p _ _ (.head _) h) (each_with t fun a b hb r => p a b (.tail _ hb) r)
/-- sorted(v), by data -/
theorem sorted_run {ds ys : List D} {xs : List V} {us : List Value} {v : Value} {Q : VK} (gd : Gd X G mg base k) (I : Inv X pins σ H s) (ex : Ex Kn H) (S : Srt ds ys) (rr : RelDs G Kn ds xs) (rv : Vals xs us)
    (q : ∀ p H' Kn', Step H Kn H' Kn' → H p = none → Kn' p = none → Own G Kn' H' p (.lst ys) → Q (.ref p) H')
    (hcol : ∀ Q' : List Value → Shared → Prop, (∀ s1, (∀ b o, s.heap.get? b = some o → s1.heap.get? b = some o) → s.heap.objs.size ≤ s1.heap.objs.size → s1.gens = s.gens → s1.os = s.os → Q' us s1) → wpAny (model X.prog X.w) X.A.in1 (collect v) Q' (fun _ _ => False) s) :
    wpAny (model X.prog X.w) X.A (call (.builtin "sorted") [v]) (EP X pins σ Q) X.xe s := by
  have hsnd := zip_snd rr
  have henc : (xs.zip ds).map (fun b => encD b.2) = ds.map encD := by
    rw [← hsnd, List.map_map, hsnd]; rfl
  refine sorted_by (β := V × D) (enc := fun b => encD b.2) (R := Rsv G Kn) fun Q' h => hcol Q' fun s1 k1 z1 g1 o1 => h s1 us k1 z1 g1 o1 ?_
  have he := each_of rr rv
  refine ⟨xs.zip ds, he, each_with he fun u b hb rb => ?_, by rw [henc]; exact S.al, by rw [henc]; exact S.so, ?_, fun b hb => ?_, fun out p c s' k2 g2 o2 hp hg ho => ?_⟩
  · have hb2 : b.2 ∈ ds := by rw [← hsnd]; exact List.mem_map.mpr ⟨b, hb, rfl⟩
    exact rb.2.reads gd.hK I ex rb.1 (S.ok _ hb2).1
  · have : (xs.zip ds).length = ds.length := by rw [← hsnd, List.length_map, hsnd]
    rw [this, sizeLine_eq]
    have := S.len
    omega
  · have hb2 : b.2 ∈ ds := by rw [← hsnd]; exact List.mem_map.mpr ⟨b, hb, rfl⟩
    have h1 : (encD b.2).depth ≤ 50 := of_decide_eq_true (S.ok _ hb2).2
    have h2 := gd.hr.units
    show X.A.units + 2 + (encD b.2).depth < cLine
    omega
  · obtain ⟨vo, ro⟩ := each_back ho
    have hms : ((xs.zip ds).mergeSort (PySem.W.dataLe false fun b : V × D => encD b.2)).map (·.2) = ys := by
      have z := PySem.W.sort_maps (r := PySem.W.dataLe false fun b : V × D => encD b.2) (s := PySem.W.dataLe false encD) (fun b : V × D => b.2) (l := xs.zip ds) (fun a _ b _ => rfl)
      rw [z, hsnd]
      exact S.ms
    rw [hms] at ro
    generalize hbs : (xs.zip ds).mergeSort (PySem.W.dataLe false fun b : V × D => encD b.2) = bs' at vo ro
    have hn : H p = none := I.hok.fresh hp
    have hlen : (bs'.map (·.1)).length ≤ sizeLine := by
      have e1 := ro.length
      have e2 : ys.length = ds.length := by rw [← S.ms]; exact (List.mergeSort_perm ds _).length_eq
      have := S.len
      rw [sizeLine_eq]
      omega
    have J : Inv X pins σ (upd H p (.lst (bs'.map (·.1)))) { s with heap := s'.heap, gens := s'.gens, drawn := s'.drawn, toks := s'.toks } :=
      I.call (ch := []) (Un.laid k2 hp hn) (I.hok.laid k2 hp ⟨hlen, out, c, vo, hg⟩) (by rw [g2]; exact I.bare) (fun _ z => nomatch z)
    have e : s' = { s with heap := s'.heap, gens := s'.gens, drawn := s'.drawn, toks := s'.toks } := by
      cases s'; cases s; cases o2; rfl
    rw [e]
    exact ⟨.ref p, _, J, rfl, q p _ Kn (Step.own ex hn) hn (known_none ex hn) (.lst upd_same ro)⟩
theorem raw_vals {es : Array DictEntry} {vs : List Value} (hl : vs.length = es.size) (h : ∀ j v, vs[j]? = some v → ∃ hi : j < es.size, v = es[j].key) : vs = es.toList.map (·.key) := by
  refine List.ext_getElem? fun j => ?_
  by_cases hj : j < es.size
  · obtain ⟨v, hv⟩ : ∃ v, vs[j]? = some v := ⟨vs[j]'(by omega), List.getElem?_eq_getElem (by omega)⟩
    obtain ⟨hi, e⟩ := h j v hv
    rw [hv, e, List.getElem?_map, Array.getElem?_toList, Array.getElem?_eq_getElem hi]
    rfl
  · rw [List.getElem?_eq_none_iff.mpr (by omega), List.getElem?_eq_none_iff.mpr (by rw [List.length_map, Array.length_toList]; omega)]
/-- the keys of a dict, gathered -/
theorem collect_dct {A : Around} {E : Value → Shared → Prop} {ks vs : List D} {a : Addr} {R : List Value → Shared → Prop} (hh : A.handled = none) (I : Inv X pins σ H s) (ex : Ex Kn H) (r : RelD G Kn (.dct ks vs) (.ref a)) (hl : ks.length ≤ 4096)
    (h : ∀ xk us, RelDs G Kn ks xk → Vals xk us → ∀ (h' : Heap) (tk : Nat), (∀ b o, s.heap.get? b = some o → h'.get? b = some o) → s.heap.objs.size ≤ h'.objs.size → R us { s with heap := h', toks := tk }) : wpAny (model X.prog X.w) A (collect (.ref a)) R E s := by
  obtain ⟨es, ep, xk, xv, hr, hs, _, rk, _, vk, _⟩ := dct_raw I ex r
  have he : es.size = ks.length := by
    have e1 := vk.length
    have e2 := rk.length
    simp only [List.length_map, Array.length_toList] at e1
    omega
  refine collect_src (src_raw hs) hh hr (by rw [sizeLine_eq]; omega) fun h' tk vs' k1 z1 hl' hp => ?_
  rw [raw_vals hl' hp]
  exact h xk _ rk vk h' tk k1 z1
theorem sorted_ok (gd : Gd X G mg base k) (ds : List D) (d : D) (h : evSorted ds = some d) : CallR X (.builtin "sorted") (rcF G ds d) := by
  unfold evSorted at h
  split at h
  · rename_i x
    split at h
    · rename_i gs hg
      cases e : srtD gs with
      | none => rw [e] at h; cases h
      | some ys =>
        rw [e] at h; cases h
        have S := srtD_ok e
        intro pins s σ H vs us Q I rv ⟨Kn, ex, rds, q⟩
        obtain ⟨v, rfl, r1⟩ := relDs1 rds
        obtain ⟨u, rfl, ru⟩ := vals1 rv
        cases r1 with
        | @lst a xs _ hs rr =>
          cases hg; cases (show u = Value.ref a from ru)
          obtain ⟨hl, its, n, rvs, h1⟩ := (show ObjOk X.prog X.w H s.heap a (.lst xs) from I.hok a _ (ex _ _ hs))
          exact sorted_run gd I ex S rr rvs q fun Q' h => collect_seq h1 rfl (.inl rfl) rfl (fun h' k1 z1 => h _ k1 z1 rfl rfl) (by rw [← rvs.length]; exact hl)
        | @tup a xs _ hs rr =>
          cases hg; cases (show u = Value.ref a from ru)
          obtain ⟨its, rvs, ⟨o, ho, hc, n, hd⟩, hl⟩ := I.tuple (by rw [gd.hK]; exact Evl.ex_t ex hs.sq)
          exact sorted_run gd I ex S rr rvs q fun Q' h => collect_seq ho hc (.inr rfl) hd (fun h' k1 z1 => h _ k1 z1 rfl rfl) (by rw [← rvs.length]; exact hl)
        | @dctK a o kvs ks vs hs rk rr =>
          cases hg; cases (show u = Value.ref a from ru)
          obtain ⟨es, ep, xk, xv, hr, hsm, _, rk2, _, vk, _⟩ := dct_raw I ex (.dctK hs rk rr)
          refine sorted_run gd I ex S rk2 vk q fun Q' h => ?_
          exact collect_src (src_raw hsm) (I.ok.hd gd.hc) hr (by have e1 := vk.length; have e2 := rk2.length; simp only [List.length_map, Array.length_toList] at e1; have := S.len; rw [sizeLine_eq]; omega) fun h' tk vs' k1 z1 hl' hp => by
            rw [raw_vals hl' hp]; exact h _ k1 z1 rfl rfl
        | @dctN a o xs ks vs hs rk hn rr nn =>
          cases hg; cases (show u = Value.ref a from ru)
          obtain ⟨es, ep, xk, xv, hr, hsm, _, rk2, _, vk, _⟩ := dct_raw I ex (.dctN hs rk hn rr nn)
          refine sorted_run gd I ex S rk2 vk q fun Q' h => ?_
          exact collect_src (src_raw hsm) (I.ok.hd gd.hc) hr (by have e1 := vk.length; have e2 := rk2.length; simp only [List.length_map, Array.length_toList] at e1; have := S.len; rw [sizeLine_eq]; omega) fun h' tk vs' k1 z1 hl' hp => by
            rw [raw_vals hl' hp]; exact h _ k1 z1 rfl rfl
        | _ => cases hg
    · cases h
  · cases h
end
end Ev
set_option maxHeartbeats 4000000
/-! Ev: subscripts, slices, join, star, dicts. -/
namespace Ev
open PySem PySem.Spec PyProof.Rows L2

/-! ### keys -/
def keyD : D → Option Key
  | .int i => some (.inl i)
  | .str x => some (.inr x)
  | _ => none
def keysD : List D → Option (List Key)
  | [] => some []
  | d :: ds => match keyD d, keysD ds with
    | some k, some ks => some (k :: ks)
    | _, _ => none
def lookK : List Key → List D → Key → Option D
  | k :: ks, v :: vs, x => if k = x then some v else lookK ks vs x
  | _, _, _ => none
theorem keyD_rel {G : Gx} {Kn : Hp} {d : D} {v : V} {k : Key} (r : RelD G Kn d v) (h : keyD d = some k) : v = kV k := by
  cases r <;> simp [keyD] at h <;> subst h <;> rfl
theorem keysD_rel {G : Gx} {Kn : Hp} : ∀ {ds : List D} {vs : List V} {ks : List Key}, RelDs G Kn ds vs → keysD ds = some ks → vs = ks.map kV
  | _, _, _, .nil, h => by cases h; rfl
  | d :: ds, _, _, .cons r rr, h => by
    simp only [keysD] at h
    cases e1 : keyD d with
    | none => rw [e1] at h; cases h
    | some k =>
      cases e2 : keysD ds with
      | none => rw [e1, e2] at h; cases h
      | some ks =>
        rw [e1, e2] at h; cases h
        rw [keyD_rel r e1, keysD_rel rr e2]; rfl
theorem look_rel {G : Gx} {Kn : Hp} : ∀ {kvs : List (Key × V)} {ks : List Key} {vs : List D} (x : Key), kvs.map (·.1) = ks → RelDs G Kn vs (kvs.map Prod.snd) →
    match lookK ks vs x with
    | some d => ∃ v, valV kvs x = some v ∧ RelD G Kn d v
    | none => valV kvs x = none
  | [], _, _, x, e, r => by subst e; simp [lookK, valV]
  | p :: kvs, _, v :: vs, x, e, r => by
    subst e
    cases r with
    | cons h t =>
      simp only [List.map_cons, lookK]
      by_cases hk : p.1 = x
      · rw [if_pos hk]; exact ⟨p.2, valV_pos hk, h⟩
      · rw [if_neg hk, valV_neg hk]
        exact look_rel (kvs := kvs) x rfl t
  | _ :: _, _, [], _, _, r => by cases r
theorem map_kV {kvs : List (Key × V)} {ks : List Key} (h : kvs.map (fun p => kV p.1) = ks.map kV) : kvs.map (·.1) = ks := by
  apply kVs_inj
  rw [List.map_map]
  exact h
/-- the dict, its keys being texts and numbers -/
theorem dct_keys {G : Gx} {Kn : Hp} {ks vs : List D} {v : V} {keys : List Key} (r : RelD G Kn (.dct ks vs) v) (h : keysD ks = some keys) :
    ∃ a o kvs, v = .ref a ∧ Kn a = some (.frz o (.dK kvs)) ∧ kvs.map (·.1) = keys ∧ RelDs G Kn vs (kvs.map Prod.snd) := by
  cases r with
  | @dctK a o kvs _ _ hh rk rv => exact ⟨a, o, kvs, rfl, hh, map_kV (keysD_rel rk h), rv⟩
  | @dctN a o xs _ _ hh rk hk rv nn =>
    exfalso
    have e := keysD_rel rk h
    cases xs with
    | nil => exact nn rfl
    | cons p xs =>
      cases keys with
      | nil => simp at e
      | cons k ks =>
        have e1 : V.ref p.2.1 = kV k := (List.cons.inj e).1
        cases k <;> cases e1

section
variable {X : Cx} {G : Gx} {e a b : Expr} {es : List Expr} {pos : Pos} {mg : Str → Option Value} {base : Heap} {k : Nat}
/-! ### a[b] -/
def evIx : D → D → Option D
  | .lst xs, .int i => atI xs i
  | .tup xs, .int i => atI xs i
  | .dct ks vs, x => match keysD ks, keyD x with
    | some keys, some key => lookK keys vs key
    | _, _ => none
  | _, _ => none
theorem atI_rel {Kn : Hp} {ds : List D} {xs : List V} {i : Int} {d : D} (r : RelDs G Kn ds xs) (h : atI ds i = some d) : ∃ v, atI xs i = some v ∧ RelD G Kn d v := by
  unfold atI at h ⊢
  rw [← r.length]
  cases e : ixN ds.length i with
  | none => rw [e] at h; cases h
  | some j => rw [e] at h; exact r.get h
def cIx (f g : Env → Option D) : Env → Option D := fun env => match f env, g env with
  | some x, some y => evIx x y
  | _, _ => none
theorem SD.ix {f g : Env → Option D} (gd : Gd X G mg base k) (ha : SD X G a f) (hb : SD X G b g) (hs : PlainIx b) : SD X G (.Subscript a b pos) (cIx f g) := fun env d h => by
  unfold cIx at h
  split at h
  · rename_i x y hx hy
    unfold evIx at h
    split at h
    · rename_i xs i
      refine pd_ix (IxR.byD (ix_list) fun Kn H v u Q ex r1 r2 q => ?_) (ha _ _ hx) (hb _ _ hy) hs
      cases r2
      obtain ⟨p, ys, rfl, hsq, rr⟩ := lst_sq ex r1
      obtain ⟨w, hw, rw'⟩ := atI_rel rr h
      exact ⟨p, ys, i, w, rfl, rfl, by rw [gd.hK]; exact hsq, hw, q _ H Kn (Step.refl ex) rw'⟩
    · rename_i xs i
      refine pd_ix (IxR.byD (ix_tup) fun Kn H v u Q ex r1 r2 q => ?_) (ha _ _ hx) (hb _ _ hy) hs
      cases r2
      obtain ⟨p, ys, rfl, hsq, rr⟩ := tup_sq ex r1
      obtain ⟨w, hw, rw'⟩ := atI_rel rr h
      exact ⟨p, ys, i, w, rfl, rfl, by rw [gd.hK]; exact hsq, hw, q _ H Kn (Step.refl ex) rw'⟩
    · rename_i ks vs x
      split at h
      · rename_i keys key hk1 hk2
        have hu : X.A.units + 1 < cLine := by have := gd.hr.units; omega
        refine PE.weak (pe_dget hu (ha _ _ hx) (hb _ _ hy) hs) fun σ H Q ⟨Kn, ex, re, q⟩ => two_D ⟨Kn, ex, re, fun v u H2 K2 s r1 r2 => ?_⟩
        obtain ⟨a', o, kvs, rfl, hh, hks, rv⟩ := dct_keys r1 hk1
        have hl := look_rel key hks rv
        rw [h] at hl
        obtain ⟨w, hw, rw'⟩ := hl
        exact ⟨a', w, rfl, .inl ⟨kvs, key, .inr ⟨o, s.sub _ _ hh⟩, keyD_rel r2 hk2, hw.symm⟩, q w H2 K2 s rw'⟩
      · cases h
    · cases h
  · cases h
/-! ### x in a dict -/
def evIn2 : D → D → Option Bool
  | x, .dct ks vs => match keysD ks, keyD x with
    | some keys, some key => some (lookK keys vs key).isSome
    | _, _ => none
  | _, _ => none
theorem in_rel {pins : List (Addr × Obj)} {σ : St} {H Kn : Hp} {x : D} {ks vs : List D} {r : Bool} {v u : V} (ex : Ex Kn H) (h : evIn2 x (.dct ks vs) = some r) (r1 : RelD G Kn x v) (r2 : RelD G Kn (.dct ks vs) u) : ∃ a o, u = .ref a ∧ DGet H a v o ∧ o.isSome = r := by
  unfold evIn2 at h
  dsimp only at h
  split at h
  · rename_i keys key hk1 hk2
    cases h
    obtain ⟨a', o, kvs, rfl, hh, hks, rv⟩ := dct_keys r2 hk1
    refine ⟨a', valV kvs key, rfl, .inl ⟨kvs, key, .inr ⟨o, ex _ _ hh⟩, keyD_rel r1 hk2, rfl⟩, ?_⟩
    have hl := look_rel key hks rv
    split at hl
    · rename_i d hd; rw [hd]; obtain ⟨w, hw, _⟩ := hl; rw [hw]; rfl
    · rename_i hd; rw [hd, hl]; rfl
  · cases h
theorem in_ok {x y : D} {r : Bool} (gd : Gd X G mg base k) (h : evIn2 x y = some r) : OpR X (compareOp .In) (r2 G x y (.bl r)) := by
  intro pins s σ H v u a b Q I rv ru ⟨Kn, ex, r1, r2, q⟩
  cases y with
  | dct ks vs =>
    obtain ⟨a', o, rfl, g, e⟩ := in_rel (pins := pins) (σ := σ) ex h r1 r2
    cases (show b = Value.ref a' from ru)
    have hu : X.A.units + 1 < cLine := by have := gd.hr.units; omega
    exact d_in hu I g rv fun s' I' => ⟨.bl o.isSome, H, I', rfl, by rw [e]; exact q _ H Kn (Step.refl ex) (.bl _)⟩
  | _ => cases h
theorem notin_ok {x y : D} {r : Bool} (gd : Gd X G mg base k) (h : evIn2 x y = some r) : OpR X (compareOp .NotIn) (r2 G x y (.bl (!r))) := by
  intro pins s σ H v u a b Q I rv ru ⟨Kn, ex, r1, r2, q⟩
  cases y with
  | dct ks vs =>
    obtain ⟨a', o, rfl, g, e⟩ := in_rel (pins := pins) (σ := σ) ex h r1 r2
    cases (show b = Value.ref a' from ru)
    have hu : X.A.units + 1 < cLine := by have := gd.hr.units; omega
    exact d_notIn hu I g rv fun s' I' => ⟨.bl (!o.isSome), H, I', rfl, by rw [e]; exact q _ H Kn (Step.refl ex) (.bl _)⟩
  | _ => cases h
/-! ### slices of tuples -/
def cutD (xs : List D) (lo hi : Option Int) : List D := (xs.drop (HT.sIx xs.length 0 lo)).take (HT.sIx xs.length xs.length hi - HT.sIx xs.length 0 lo)
end
end Ev
set_option maxHeartbeats 4000000
/-! Ev: slices, join, star, conversions, displays. -/
namespace Ev
open PySem PySem.Spec PyProof.Rows L2
section
variable {X : Cx} {G : Gx} {e a b : Expr} {es : List Expr} {pos : Pos} {mg : Str → Option Value} {base : Heap} {k : Nat}
/-! ### slices of tuples -/
theorem cut_rel {Kn : Hp} {ds : List D} {xs : List V} (lo hi : Option Int) (r : RelDs G Kn ds xs) : RelDs G Kn (cutD ds lo hi) (cutV xs lo hi) := by
  unfold cutD cutV
  rw [r.length]
  exact (r.drop _).take _
def oI (f : Option (Env → Option D)) : Env → Option (Option Int) := fun env => match f with
  | none => some none
  | some g => match g env with
    | some (.int i) => some (some i)
    | _ => none
def SO (X : Cx) (G : Gx) (e : Option Expr) (f : Env → Option (Option Int)) : Prop := ∀ env i, f env = some i → PO X e (tOpt G env i)
def oNone : Env → Option (Option Int) := fun _ => some none
def oSome (g : Env → Option D) : Env → Option (Option Int) := fun env => match g env with
  | some (.int i) => some (some i)
  | _ => none
theorem SO.none : SO X G none oNone := fun env i h => by cases h; exact po_noneD
theorem SO.some {g : Env → Option D} (h : SD X G e g) : SO X G (some e) (oSome g) := fun env i q => by
  unfold oSome at q
  split at q
  · rename_i j hj; cases q; exact po_someD (h _ _ hj)
  · cases q
def cSl (f : Env → Option D) (l h : Env → Option (Option Int)) : Env → Option D := fun env => match f env, l env, h env with
  | some (.tup xs), some lo, some hi => some (.tup (cutD xs lo hi))
  | _, _, _ => none
theorem SD.slice {lo hi : Option Expr} {p2 : Pos} {f : Env → Option D} {l h : Env → Option (Option Int)} (gd : Gd X G mg base k) (he : SD X G e f) (hl : SO X G lo l) (hh : SO X G hi h) : SD X G (.Subscript e (.Slice lo hi none p2) pos) (cSl f l h) := fun env d q => by
  unfold cSl at q
  split at q
  · rename_i xs lo' hi' h1 h2 h3
    cases q
    refine pd_slice (x := .tup xs) (l := lo') (h := hi') ?_ (he _ _ h1) (hl _ _ h2) (hh _ _ h3)
    intro pins s σ H v u vl vu lo2 hi2 sl Q I r1 r2 r3 r4 ⟨e1, e2, Kn, ex, rd, q⟩
    refine sl_tupX pins s σ H v u vl vu lo2 hi2 sl Q I r1 r2 r3 r4 ?_
    subst e1 e2
    obtain ⟨a', ys, rfl, hs, rr⟩ := tup_sq ex rd
    refine ⟨a', ys, rfl, by rw [gd.hK]; exact hs, fun hz => ?_, fun hz p ob hob hp => ?_⟩
    · have hcut : cutD xs lo2 hi2 = xs := by
        unfold cutD
        rw [rr.length, hz.1, hz.2, ← rr.length]
        simp
      rw [hcut] at q
      exact q _ H Kn (Step.refl ex) rd
    · have st := Step.new (o := .frz ob (.tup (cutV ys lo2 hi2))) ex hp
      exact q _ _ _ st (.tup (sx_of upd_same hob) ((cut_rel lo2 hi2 rr).mono st.kx))
  · cases q
/-! ### join -/
def strsD : List D → Option (List Str)
  | [] => some []
  | .str x :: r => (strsD r).map (x :: ·)
  | _ => none
theorem strsD_rel {Kn : Hp} : ∀ {ds : List D} {xs : List V} {bs : List Str}, RelDs G Kn ds xs → strsD ds = some bs → xs = bs.map V.str
  | _, _, _, .nil, h => by cases h; rfl
  | .str b :: ds, _, _, .cons r rr, h => by
    simp only [strsD] at h
    cases e : strsD ds with
    | none => rw [e] at h; cases h
    | some q => rw [e] at h; cases h; cases r; rw [strsD_rel rr e]; rfl
  | .non :: _, _, _, .cons _ _, h => by cases h
  | .bl _ :: _, _, _, .cons _ _, h => by cases h
  | .int _ :: _, _, _, .cons _ _, h => by cases h
  | .tup _ :: _, _, _, .cons _ _, h => by cases h
  | .lst _ :: _, _, _, .cons _ _, h => by cases h
  | .dct _ _ :: _, _, _, .cons _ _, h => by cases h
  | .ins _ _ :: _, _, _, .cons _ _, h => by cases h
  | .ty _ :: _, _, _, .cons _ _, h => by cases h
  | .cl _ :: _, _, _, .cons _ _, h => by cases h
  | .wt _ :: _, _, _, .cons _ _, h => by cases h
  | .di _ _ :: _, _, _, .cons _ _, h => by cases h
def cJoin (f g : Env → Option D) : Env → Option D := fun env => match f env, g env with
  | some (.str a), some (.lst xs) => match strsD xs with
    | some ys => if (ys.map (·.length)).sum + ys.length * a.length ≤ 16777216 then some (.str (Txt.join a ys)) else none
    | none => none
  | _, _ => none
theorem SD.join {apos : Pos} {f g : Env → Option D} (gd : Gd X G mg base k) (ho : SD X G a f) (he : SD X G e g) (hs : starEach [e] X.env = [(false, eval e X.env)]) (hbase : attributeBase a "join" X.env (eval a X.env) = eval a X.env) (hline : (apos.endLine == pos.line) = true) :
    SD X G (.Call (.Attribute a "join" apos) [e] [] pos) (cJoin f g) := fun env d q => by
  unfold cJoin at q
  split at q
  · rename_i z xs h1 h2
    split at q
    · rename_i ys h3
      split at q
      · rename_i hz
        cases q
        refine PE.weak (pe_join (ho _ _ h1) (he _ _ h2) hs hbase hline) fun σ H Q ⟨Kn, ex, re, q⟩ => ⟨Kn, ex, re, fun v H1 K1 s1 r1 => ?_⟩
        cases r1
        refine ⟨⟨z, rfl⟩, K1, s1.sub, re.mono s1.kx, fun u H2 K2 s2 r2 => ?_⟩
        obtain ⟨p, vs, rfl, hsq, rr⟩ := lst_sq s2.sub r2
        rw [strsD_rel rr h3] at hsq
        exact ⟨z, p, ys, rfl, rfl, .inl (by rw [gd.hK]; exact hsq), hz, q _ H2 K2 (s1.trans s2) (.str _)⟩
      · cases q
    · cases q
  · cases q
/-! ### star -/
def seqD : D → Option (List D)
  | .lst xs => some xs
  | .tup xs => some xs
  | _ => none
def aStar (f : Env → Option D) (g : Env → Option (List D)) : Env → Option (List D) := fun env => match f env with
  | some d => (match seqD d, g env with
    | some xs, some ys => some (xs ++ ys)
    | _, _ => none)
  | none => none
theorem SA.star {p : Pos} {f : Env → Option D} {g : Env → Option (List D)} (gd : Gd X G mg base k) (he : SD X G e f) (hr : SA X G es g) (hs : starEach (.Starred e p :: es) X.env = (true, eval e X.env) :: starEach es X.env) : SA X G (.Starred e p :: es) (aStar f g) := fun env ds q => by
  unfold aStar at q
  split at q
  · rename_i d hd
    split at q
    · rename_i xs ys h1 h2
      cases q
      refine PA.weak (StX.pa_star (he _ _ hd) (hr _ _ h2) hs) fun σ H Q ⟨Kn, ex, re, q⟩ => ⟨Kn, ex, re, fun v H1 K1 s1 r1 => ?_⟩
      have fin : ∀ vs, RelDs G K1 xs vs → tDs G env ys σ H1 fun us H2 => Q (vs ++ us) H2 := fun vs rr => ⟨K1, s1.sub, re.mono s1.kx, fun us H2 K2 s2 r2 => q _ H2 K2 (s1.trans s2) ((rr.mono s2.kx).append r2)⟩
      cases d with
      | lst zs =>
        cases h1
        obtain ⟨p, vs, rfl, hsq, rr⟩ := lst_sq s1.sub r1
        exact ⟨p, vs, rfl, .inr (by rw [gd.hK]; exact hsq), fin vs rr⟩
      | tup zs =>
        cases h1
        obtain ⟨p, vs, rfl, hsq, rr⟩ := tup_sq s1.sub r1
        exact ⟨p, vs, rfl, .inl (by rw [gd.hK]; exact hsq), fin vs rr⟩
      | _ => cases h1
    · cases q
  · cases q
/-! ### list(..), tuple(..), int(..), dict(..) -/
def evListOf : List D → Option D
  | [d] => (seqD d).map .lst
  | _ => none
theorem list_ok (gd : Gd X G mg base k) (ds : List D) (d : D) (h : evListOf ds = some d) : CallR X (.type "list") (rcF G ds d) := by
  unfold evListOf at h
  split at h
  · rename_i x
    cases e : seqD x with
    | none => rw [e] at h; cases h
    | some xs =>
      rw [e] at h; cases h
      refine CallR.byF call_list_of fun Kn H vs Q ex r q => ?_
      obtain ⟨v, rfl, r1⟩ := relDs1 r
      have fin : ∀ ys, RelDs G Kn xs ys → ∀ l, H l = none → Q (.ref l) (upd H l (.lst ys)) := fun ys rr l hl => q l _ Kn (Step.own ex hl) hl (known_none ex hl) (.lst upd_same rr)
      cases x with
      | lst zs => cases e; obtain ⟨p, ys, rfl, hs, rr⟩ := lst_sq ex r1; exact ⟨p, ys, rfl, .inl (by rw [gd.hK]; exact hs), fin ys rr⟩
      | tup zs => cases e; obtain ⟨p, ys, rfl, hs, rr⟩ := tup_sq ex r1; exact ⟨p, ys, rfl, .inr (by rw [gd.hK]; exact hs), fin ys rr⟩
      | _ => cases e
  · cases h
def evTupleOf : List D → Option D
  | [.lst xs] => some (.tup xs)
  | [.tup xs] => some (.tup xs)
  | [.str x] => if x.cps.size ≤ 4096 then some (.tup (x.cps.toList.map fun c => .str ⟨#[c]⟩)) else none
  | _ => none
theorem signs_rel {Kn : Hp} : ∀ cs : List Nat, RelDs G Kn (cs.map fun c => D.str ⟨#[c]⟩) (cs.map fun c => V.str ⟨#[c]⟩)
  | [] => .nil
  | c :: cs => .cons (.str _) (signs_rel cs)
theorem vals_at : ∀ {xs : List V} {us : List Value}, xs.length = us.length → (∀ (j : Nat) (v : V) (w : Value), xs[j]? = some v → us[j]? = some w → L2.RelV v w) → Vals xs us
  | [], [], _, _ => .nil
  | x :: xs, u :: us, hl, h => .cons (h 0 x u rfl rfl) (vals_at (by simpa using hl) fun j v w h1 h2 => h (j + 1) v w (by simpa using h1) (by simpa using h2))
  | [], _ :: _, hl, _ => by simp at hl
  | _ :: _, [], hl, _ => by simp at hl
theorem tuple_ok (gd : Gd X G mg base k) (ds : List D) (d : D) (h : evTupleOf ds = some d) : CallR X (.type "tuple") (rc G ds d) := by
  unfold evTupleOf at h
  split at h
  · rename_i xs; cases h
    refine CallR.byD call_tuple_ofX fun Kn H vs Q ex r q => ?_
    obtain ⟨v, rfl, r1⟩ := relDs1 r
    obtain ⟨p, ys, rfl, hs, rr⟩ := lst_sq ex r1
    refine ⟨p, ys, rfl, .inl ⟨by rw [gd.hK]; exact hs, fun l ob hob hl => ?_⟩⟩
    have st := Step.new (o := .frz ob (.tup ys)) ex hl
    exact q _ _ _ st (.tup (sx_of upd_same hob) (rr.mono st.kx))
  · rename_i xs; cases h
    refine CallR.byD call_tuple_ofX fun Kn H vs Q ex r q => ?_
    obtain ⟨v, rfl, r1⟩ := relDs1 r
    obtain ⟨p, ys, rfl, hs, rr⟩ := tup_sq ex r1
    exact ⟨p, ys, rfl, .inr ⟨by rw [gd.hK]; exact hs, q _ H Kn (Step.refl ex) r1⟩⟩
  · rename_i x
    split at h
    · rename_i hl; cases h
      intro pins s σ H vs us Q I rv ⟨Kn, ex, rds, q⟩
      obtain ⟨v, rfl, r1⟩ := relDs1 rds
      obtain ⟨u, rfl, ru⟩ := vals1 rv
      cases r1
      obtain ⟨t, e⟩ := (show ∃ t, u = Value.str x t from ru)
      subst e
      refine call_tuple_str (hsz := by rw [sizeLine_eq]; omega) (I.ok.hd gd.hc) x t fun h' tk acc hk hacc => ?_
      have hv : Vals (x.cps.toList.map fun c => V.str ⟨#[c]⟩) acc.toList := by
        refine vals_at (by simp [hacc.1]) fun j v w h1 h2 => ?_
        obtain ⟨c, t, hc, rfl⟩ := hacc.2 j w (by rw [← Array.getElem?_toList]; exact h2)
        rw [List.getElem?_map, Array.getElem?_toList, hc] at h1
        cases h1
        exact ⟨t, rfl⟩
      have I1 : Inv X pins σ H { s with heap := h', toks := tk } := I.kept (t' := tk) hk
      have hn : H h'.objs.size = none := I1.hok.fresh (Nat.le_refl _)
      have st := Step.new (o := .frz { cls := .type "tuple", data := .seq acc } (.tup (x.cps.toList.map fun c => V.str ⟨#[c]⟩))) ex hn
      refine ⟨.ref h'.objs.size, _, I1.laid (a := h'.objs.size) (h' := h'.push { cls := .type "tuple", data := .seq acc }) (o := .frz { cls := .type "tuple", data := .seq acc } (.tup (x.cps.toList.map fun c => V.str ⟨#[c]⟩))) (t' := tk) (fun b o e => Heap.get?_push_of_some _ e) (Nat.le_refl _) ⟨Heap.get?_push_size _ rfl, by rw [List.length_map, Array.length_toList, sizeLine_eq]; omega, acc.toList, hv, ⟨_, Heap.get?_push_size _ rfl, rfl, 0, by simp⟩⟩, rfl, q _ _ _ st (.tup (sx_of upd_same rfl) (signs_rel _))⟩
    · cases h
  · cases h
def evIntOf : List D → Option D
  | [.int i] => some (.int i)
  | [.bl b] => some (.int (if b then 1 else 0))
  | _ => none
theorem int_ok (ds : List D) (d : D) (h : evIntOf ds = some d) : CallR X (.type "int") (rc G ds d) := by
  unfold evIntOf at h
  split at h
  · cases h
    refine CallR.byD call_int1 fun Kn H vs Q ex r q => ?_
    obtain ⟨v, rfl, r1⟩ := relDs1 r
    cases r1
    exact .inl ⟨_, rfl, q _ H Kn (Step.refl ex) (.int _)⟩
  · cases h
    refine CallR.byD call_int1 fun Kn H vs Q ex r q => ?_
    obtain ⟨v, rfl, r1⟩ := relDs1 r
    cases r1
    exact .inr ⟨_, rfl, q _ H Kn (Step.refl ex) (.int _)⟩
  · cases h
def evDictOf : List D → Option D
  | [.dct ks vs] => if (keysD ks).isSome then some (.dct ks vs) else none
  | _ => none
theorem dict_ok (ds : List D) (d : D) (h : evDictOf ds = some d) : CallR X (.type "dict") (rcF G ds d) := by
  unfold evDictOf at h
  split at h
  · rename_i ks vs
    split at h
    · rename_i hk; cases h
      obtain ⟨keys, hkeys⟩ := Option.isSome_iff_exists.mp hk
      intro pins s σ H ws us Q I rv ⟨Kn, ex, rds, q⟩
      obtain ⟨v, rfl, r1⟩ := relDs1 rds
      obtain ⟨u, rfl, ru⟩ := vals1 rv
      have r2 := r1
      cases r1 with
      | @dctK a o kvs _ _ hh rk rv2 =>
        cases (show u = Value.ref a from ru)
        exact d_copyOf I (.inr ⟨o, ex _ _ hh⟩) fun p s' hp I' => ⟨.ref p, _, I', rfl, q p _ Kn (Step.own ex hp) hp (known_none ex hp) (.dctK upd_same rk rv2)⟩
      | @dctN a o xs _ _ hh rk hk2 rv2 nn =>
        obtain ⟨a', o', kvs, e, hh', _⟩ := dct_keys r2 hkeys
        cases e
        rw [hh] at hh'
        cases hh'
    · cases h
  · cases h
end
end Ev
set_option maxHeartbeats 4000000
/-! Ev: walks over dicts and zips; displays of dicts; changes of one's own. -/
namespace Ev
open PySem PySem.Spec PyProof.Rows L2

/-! ### the keys of a dict whose keys are tuples -/
def Itn (P : Program) (w : World) (d : Addr) (o : Obj) (xs : List (NestedKey × Addr × V)) : It :=
  ⟨fun i H => H d = some (.frz o (DnO P w d xs)) ∧ i < xs.length, fun i H x H' => H' = H ∧ ∃ p, xs[i]? = some p ∧ x = .ref p.2.1, fun i H => H d = some (.frz o (DnO P w d xs)) ∧ xs.length ≤ i⟩
section
variable {P : Program} {w : World} {K : PySem.W.Frag} {tg : Expr} {d : Addr} {o : Obj} {es : Array DictEntry} {ep : Nat}
theorem paired_get {α β : Type} {F : α → β → Prop} : ∀ {l₁ : List α} {l₂ : List β} {j : Nat} {x : α}, Paired F l₁ l₂ → l₁[j]? = some x → ∃ y, l₂[j]? = some y ∧ F x y
  | _, _, _, _, .nil, e => by simp at e
  | _, _, 0, _, .cons h _, e => by simp at e; subst e; exact ⟨_, rfl, h⟩
  | _, _, j + 1, _, .cons _ r, e => by
    obtain ⟨u, h1, h2⟩ := paired_get (j := j) r (by simpa using e)
    exact ⟨u, by simpa using h1, h2⟩
theorem frzN {X : Cx} {pins : List (Addr × Obj)} {σ : St} {H : Hp} {s : Shared} {xs : List (NestedKey × Addr × V)} (I : Inv X pins σ H s) (h : H d = some (.frz o (DnO P w d xs))) :
    (d == sysModules) = false ∧ s.heap.get? d = some o ∧ o.ExactDict ∧ ∃ (es : Array DictEntry) (ep : Nat), o.data = .dict es ep ∧ es.size = xs.length ∧
      ∀ (i : Nat) (p : NestedKey × Addr × V), xs[i]? = some p → ∃ en : DictEntry, es[i]? = some en ∧ en.key = .ref p.2.1 := by
  obtain ⟨hd, ⟨hs, ys, hp, o', es, ep, ho, hx, hdt, hes, _, _⟩, _⟩ := I.hok d _ h
  rw [hd] at ho
  cases ho
  refine ⟨hs, hd, hx, es, ep, hdt, ?_, fun i p e => ?_⟩
  · have l1 := congrArg List.length hes
    have l2 := Paired.length hp
    simp only [List.length_map, Array.length_toList] at l1
    omega
  · obtain ⟨y, hy, r1, r2, _⟩ := paired_get hp e
    refine ⟨entryOfKey (nestedKind P w) y, ?_, ?_⟩
    · rw [← Array.getElem?_toList, hes, List.getElem?_map, hy]; rfl
    · show Value.ref y.2.1 = _
      rw [r2]
theorem turn_keysN {xs : List (NestedKey × Addr × V)} (it : Addr) (hod : o.data = .dict es ep) : Turn P w K tg (Itn P w d o xs) [it] it (fun i h => h.IsKeyIter it d i xs.length ep) where
  mem := by simp
  obj := fun i h st b hb => by
    have e : b = it := by simpa using hb
    subst e
    obtain ⟨oi, e, c, dd⟩ := st
    exact ⟨oi, e, fun v z => by rw [dd] at z; cases z⟩
  keep := fun i h h' st k => st.at fun oi e => k it (by simp) oi e
  item := by
    intro X hP hw hK hc i pins s σ H E I hf st hg
    subst hP hw hK
    obtain ⟨hd, hi⟩ := hg
    obtain ⟨f0, f1, f2, f3, f4, f5⟩ := hf it (by simp)
    obtain ⟨hs, hgd, hx, es', ep', hdt, hsz, ent⟩ := frzN I hd
    obtain ⟨rfl, rfl⟩ := dict_ep hod hdt
    obtain ⟨p, hkv⟩ : ∃ p, xs[i]? = some p := ⟨xs[i], List.getElem?_eq_getElem hi⟩
    obtain ⟨en, hen, hkey⟩ := ent i p hkv
    refine next_key_item st hgd hdt hsz hen fun h' st' sb => ?_
    have I1 : Inv X pins σ H { s with heap := h' } := I.turned (t' := s.toks) (fun b ob hb e => (sb.2 b hb).trans e) f0 f1 f3 f4 f5
    obtain ⟨oi, e, c, dd⟩ := id st'
    exact ⟨en.key, rfl, go_of (s := { s with heap := h' }) e c dd (by decide) ⟨.ref p.2.1, H, I1, hkey, ⟨rfl, p, hkv, rfl⟩, st', fun b hb => (hf b hb).1⟩⟩
  done := by
    intro X hP hw hK hc i pins s σ H E I hf st hg
    subst hP hw hK
    obtain ⟨hd, hi⟩ := hg
    obtain ⟨f0, f1, f2, f3, f4, f5⟩ := hf it (by simp)
    obtain ⟨hs, hgd, hx, es', ep', hdt, hsz, ent⟩ := frzN I hd
    obtain ⟨rfl, rfl⟩ := dict_ep hod hdt
    exact next_key_end (I.ok.hd hc) st hgd hdt hsz hi fun h' eb => ⟨rfl, I.turned (t' := s.toks) (fun b ob hb e => eb b ob hb e) f0 f1 f3 f4 f5⟩
  self := fun A i s Q E st h => by
    refine wpAny_pyIter_slot st.typeIs F.slot_dict_keyiterator_iter (wpAny_call_entry F.slot_dict_keyiterator_iter st.typeIs F.entry_dict_keyiterator_iter ?_ (F.args_dict_keyiterator_iter_1 _))
    show wpAny _ _ (ret (.ref it)) _ _ s
    exact wpAny_pure ⟨_, rfl, "dict_keyiterator", _, st.typeIs, F.slot_dict_keyiterator_next.lookup, h⟩
end
section
variable {X : Cx} {G : Gx} {e a b : Expr} {es : List Expr} {pos : Pos} {mg : Str → Option Value} {base : Heap} {k : Nat} {tg : Expr}
/-! ### what is walked, by data -/
/-- for x in e: a list, a tuple, a text, a dict -/
def walkD : D → Option (List D)
  | .lst xs => some xs
  | .tup xs => some xs
  | .str z => some (z.cps.toList.map fun c => D.str ⟨#[c]⟩)
  | .dct ks _ => some ks
  | _ => none
def iVal (f : Env → Option D) : Env → Option (List D) := fun env => match f env with
  | some d => walkD d
  | none => none
theorem pi_dctK {ks vs : List D} {env : Env} (gd : Gd X G mg base k) (h : PE X e (tD G env (.dct ks vs))) : PI X tg e (tI G env ks) := by
  refine ⟨fun pins s σ H R I ⟨Kn, ex, re, q⟩ => ?_⟩
  refine thn (h.run pins s σ H (fun v H' => ∃ K', Step H Kn H' K' ∧ RelD G K' (.dct ks vs) v) I ⟨Kn, ex, re, fun v H1 K1 s1 r1 => ⟨K1, s1, r1⟩⟩) fun u s1 ⟨x, H1, I1, rx, K1, st1, r1⟩ => ?_
  cases r1 with
  | @dctK d o kvs _ _ hd rk rv =>
    obtain rfl : u = Value.ref d := rx
    obtain ⟨hs, hgd, hx, es, ep, vs', hdt, hsz, kv, hm⟩ := I1.frzK (st1.sub _ _ hd)
    refine iter_keys hs hgd hx hdt (pi_one (tk := s1.toks) I1 _ (turn_keys _ hdt) ⟨_, Heap.get?_push_size _ rfl, rfl, ?_⟩ (q _ H1 K1 st1 (itD_at rk fun H2 ex2 => ⟨fun i y hy => ⟨⟨ex2 _ _ hd, ?_⟩, fun z H' hz => ?_⟩, ⟨ex2 _ _ hd, by simp⟩⟩)))
    · rw [hsz] <;> rfl
    · have := (List.getElem?_eq_some_iff.mp hy).1
      simpa using this
    · obtain ⟨e1, k1, v1, e2, e3⟩ := hz
      refine ⟨e1, ?_⟩
      rw [List.getElem?_map, e2] at hy
      cases hy
      exact e3
  | @dctN d o xs _ _ hd rk hk rv nn =>
    obtain rfl : u = Value.ref d := rx
    have hd1 := st1.sub _ _ hd
    rw [← gd.hP, ← gd.hw] at hd1
    obtain ⟨hs, hgd, hx, es, ep, hdt, hsz, ent⟩ := frzN I1 hd1
    refine iter_keys hs hgd hx hdt (pi_one (tk := s1.toks) I1 _ (turn_keysN (xs := xs) _ hdt) ⟨_, Heap.get?_push_size _ rfl, rfl, ?_⟩ (q _ H1 K1 st1 (itD_at rk fun H2 ex2 => ⟨fun i y hy => ⟨⟨by have := ex2 _ _ hd; rw [← gd.hP, ← gd.hw] at this; exact this, ?_⟩, fun z H' hz => ?_⟩, ⟨by have := ex2 _ _ hd; rw [← gd.hP, ← gd.hw] at this; exact this, by simp⟩⟩)))
    · rw [hsz] <;> rfl
    · have := (List.getElem?_eq_some_iff.mp hy).1
      simpa using this
    · obtain ⟨e1, p, e2, e3⟩ := hz
      refine ⟨e1, ?_⟩
      rw [List.getElem?_map, e2] at hy
      cases hy
      exact e3
theorem SI.val {f : Env → Option D} (gd : Gd X G mg base k) (h : SD X G e f) : SI X G tg e (iVal f) := fun env ds q => by
  unfold iVal at q
  split at q
  · rename_i d hd
    cases d with
    | lst xs => cases q; exact pi_lst gd.hK (h _ _ hd)
    | tup xs => cases q; exact pi_tpl gd.hK (h _ _ hd)
    | str z => cases q; exact pi_text (h _ _ hd)
    | dct ks vs => cases q; exact pi_dctK gd (h _ _ hd)
    | _ => cases q
  · cases q
/-! range -/
def iRng1 (f : Env → Option (List D)) : Env → Option (List D) := fun env => match f env with
  | some [.int j] => if 0 ≤ j ∧ j < 4096 then some ((List.range j.toNat).map fun k => D.int ((0 : Int) + (k : Nat))) else none
  | _ => none
theorem SI.rng1 {p : Pos} {f : Env → Option (List D)} (gd : Gd X G mg base k) (hg : Gl X "range") (hm : mg "range" = none) (h : SA X G [e] f) (hs : starEach [e] X.env = [(false, eval e X.env)]) : SI X G tg (.Call (.Name "range" p) [e] [] pos) (iRng1 f) := fun env ds q => by
  unfold iRng1 at q
  split at q
  · rename_i j hj
    split at q
    · rename_i hb; cases q; exact pi_rng1 hg (by rw [gd.hm]; exact hm) (h _ _ hj) (by omega) (by omega) hs
    · cases q
  · cases q
/-! items, values -/
def keyedD : D → Bool
  | .dct ks _ => (keysD ks).isSome
  | _ => false
def iItms (f : Env → Option D) : Env → Option (List D) := fun env => match f env with
  | some (.dct ks vs) => if (keysD ks).isSome then some (List.zipWith (fun a b => D.wt [a, b]) ks vs) else none
  | _ => none
def iVls (f : Env → Option D) : Env → Option (List D) := fun env => match f env with
  | some (.dct ks vs) => if (keysD ks).isSome then some vs else none
  | _ => none
theorem SI.items {apos tpos : Pos} {elts : List Expr} {kk : Nat} {f : Env → Option D} (gd : Gd X G mg base k) (h : SD X G e f) (hbase : attributeBase e "items" X.env (eval e X.env) = eval e X.env) (hline : (apos.endLine == pos.line) = true) : SI X G (.Tuple elts kk tpos) (.Call (.Attribute e "items" apos) [] [] pos) (iItms f) := fun env ds q => by
  unfold iItms at q
  split at q
  · rename_i ks vs hd
    split at q
    · rename_i hk
      cases q
      obtain ⟨keys, hkeys⟩ := Option.isSome_iff_exists.mp hk
      refine PI.weak (pi_items (h _ _ hd) hbase hline) fun σ H R ⟨Kn, ex, re, q⟩ => ⟨Kn, ex, re, fun v H1 K1 s1 r1 => ?_⟩
      have r2 := r1
      cases r1 with
      | @dctK d o kvs _ _ hd2 rk rv =>
        refine ⟨d, o, kvs, rfl, s1.sub _ _ hd2, q _ H1 K1 s1 ?_⟩
        have hl1 := rk.length
        have hl2 := rv.length
        simp only [List.length_map] at hl1 hl2
        refine ⟨fun H2 ex2 => ⟨ex2 _ _ hd2, by rw [List.length_zipWith]; omega⟩, fun i d' hd' H2 ex2 => ?_⟩
        rw [List.getElem?_zipWith] at hd'
        cases e1 : ks[i]? with
        | none => rw [e1] at hd'; cases hd'
        | some kd =>
          cases e2 : vs[i]? with
          | none => rw [e1, e2] at hd'; cases hd'
          | some vd =>
            rw [e1, e2] at hd'
            cases hd'
            have hi : i < kvs.length := by have := (List.getElem?_eq_some_iff.mp e1).1; omega
            refine ⟨⟨ex2 _ _ hd2, hi⟩, fun y H' ⟨T, k', v', e3, e4, e5, e6⟩ K2 k1 k2 => ?_⟩
            subst e4 e6
            have st := Step.new (o := .tup [kV k', v']) k2 e5
            refine ⟨_, st, .wt (Evl.st_of upd_same) (.cons ?_ (.cons ?_ .nil))⟩
            · obtain ⟨w, hw, rw'⟩ := rk.get e1
              rw [List.getElem?_map, e3] at hw
              cases hw
              exact rw'.mono (k1.trans st.kx)
            · obtain ⟨w, hw, rw'⟩ := rv.get e2
              rw [List.getElem?_map, e3] at hw
              cases hw
              exact rw'.mono (k1.trans st.kx)
      | @dctN d o xs _ _ hd2 rk hk2 rv nn =>
        exfalso
        obtain ⟨a', o', kvs, e, hh', _⟩ := dct_keys r2 hkeys
        cases e
        rw [hd2] at hh'
        cases hh'
    · cases q
  · cases q
theorem SI.values {apos : Pos} {f : Env → Option D} (gd : Gd X G mg base k) (h : SD X G e f) (hbase : attributeBase e "values" X.env (eval e X.env) = eval e X.env) (hline : (apos.endLine == pos.line) = true) : SI X G tg (.Call (.Attribute e "values" apos) [] [] pos) (iVls f) := fun env ds q => by
  unfold iVls at q
  split at q
  · rename_i ks vs hd
    split at q
    · rename_i hk
      cases q
      obtain ⟨keys, hkeys⟩ := Option.isSome_iff_exists.mp hk
      refine PI.weak (pi_values (h _ _ hd) hbase hline) fun σ H R ⟨Kn, ex, re, q⟩ => ⟨Kn, ex, re, fun v H1 K1 s1 r1 => ?_⟩
      have r2 := r1
      cases r1 with
      | @dctK d o kvs _ _ hd2 rk rv =>
        refine ⟨d, o, kvs, rfl, s1.sub _ _ hd2, q _ H1 K1 s1 (itD_at rv fun H2 ex2 => ⟨fun i y hy => ⟨⟨ex2 _ _ hd2, ?_⟩, fun z H' ⟨e1, k', e2⟩ => ⟨e1, ?_⟩⟩, ⟨ex2 _ _ hd2, by simp⟩⟩)⟩
        · have := (List.getElem?_eq_some_iff.mp hy).1
          simpa using this
        · rw [List.getElem?_map, e2] at hy
          cases hy
          rfl
      | @dctN d o xs _ _ hd2 rk hk2 rv nn =>
        exfalso
        obtain ⟨a', o', kvs, e, hh', _⟩ := dct_keys r2 hkeys
        cases e
        rw [hd2] at hh'
        cases hh'
    · cases q
  · cases q
/-! zip of two tuples (or two lists) -/
def iZip (f : Env → Option (List D)) : Env → Option (List D) := fun env => match f env with
  | some [.tup xs, .tup ys] => some (List.zipWith (fun a b => D.wt [a, b]) xs ys)
  | _ => none
theorem SI.zip {e2 : Expr} {p tpos : Pos} {elts : List Expr} {kk : Nat} {f : Env → Option (List D)} (gd : Gd X G mg base k) (hg : Gl X "zip") (hm : mg "zip" = none) (ha : SA X G [e, e2] f)
    (hs : starEach [e, e2] X.env = (false, eval e X.env) :: starEach [e2] X.env) (hpl : (backTo pos (starEach [e2] X.env)).any (·.1) = false) : SI X G (.Tuple elts kk tpos) (.Call (.Name "zip" p) [e, e2] [] pos) (iZip f) := fun env ds q => by
  unfold iZip at q
  split at q
  · rename_i xs ys hd
    cases q
    refine PI.weak (RZ.pi_zipA hg (by rw [gd.hm]; exact hm) (ha _ _ hd) hs hpl) fun σ H R ⟨Kn, ex, re, q⟩ => ⟨Kn, ex, re, fun vs H1 K1 s1 r1 => ?_⟩
    obtain ⟨v, u, rfl, r1, r2⟩ := relDs2 r1
    cases r1 with
    | @tup a' us _ hs1 rr1 =>
      cases r2 with
      | @tup b' ws _ hs2 rr2 =>
        have hs1 := hs1.sq; have hs2 := hs2.sq
        rw [← gd.hK] at hs1 hs2
        refine ⟨a', b', us, ws, rfl, .inr ⟨Evl.ex_t s1.sub hs1, Evl.ex_t s1.sub hs2, q _ H1 K1 s1 ⟨fun H2 ex2 => ⟨us, ws, Evl.ex_t ex2 hs1, Evl.ex_t ex2 hs2, ?_⟩, fun i d' hd' H2 ex2 => ?_⟩⟩⟩
        · have h1 := rr1.length
          have h2 := rr2.length
          rw [List.length_zipWith]
          omega
        · rw [List.getElem?_zipWith] at hd'
          cases e1 : xs[i]? with
          | none => rw [e1] at hd'; cases hd'
          | some kd =>
            cases e2 : ys[i]? with
            | none => rw [e1, e2] at hd'; cases hd'
            | some vd =>
              rw [e1, e2] at hd'
              cases hd'
              obtain ⟨x1, hx1, rx1⟩ := rr1.get e1
              obtain ⟨y1, hy1, ry1⟩ := rr2.get e2
              refine ⟨⟨us, ws, x1, y1, Evl.ex_t ex2 hs1, Evl.ex_t ex2 hs2, hx1, hy1⟩, fun y H' ⟨T, x', y', e3, e4, e5, e6, e7⟩ K2 k1 k2 => ?_⟩
              subst e3 e5
              have a1 := e6 us (Evl.ex_t ex2 hs1)
              have a2 := e7 ws (Evl.ex_t ex2 hs2)
              rw [hx1] at a1
              rw [hy1] at a2
              cases a1
              cases a2
              have st := Step.new (o := .tup [x1, y1]) k2 e4
              exact ⟨_, st, .wt (Evl.st_of upd_same) (.cons (rx1.mono (k1.trans st.kx)) (.cons (ry1.mono (k1.trans st.kx)) .nil))⟩
  · cases q
end
end Ev
set_option maxHeartbeats 4000000
/-! Ev: raise; instances with slots: attributes, properties, methods, C(..). -/
namespace Ev
open PySem PySem.Spec PyProof.Rows L2
section
variable {X : Cx} {G : Gx} {E : XK} {e a b o : Expr} {es : List Expr} {pos : Pos} {mg : Str → Option Value} {base : Heap} {k n : Nat}
/-! ### raise C('..') -/
def gRaise (c : Nat) : EnvS → Option O := fun _ => some (.ex c)
theorem SS.raise {c : Nat} {x m : Str} {j : Nat} {p p2 cpos : Pos} {bmB : List Value} {B newId initId : String} (gd : Gd X G mg base k) (tk : Takes X (fun cls d _ H' => E cls d H')) (F : ExcBaseFacts B newId initId bmB) (q : PySem.W.excIn G.K (G.cad c) bmB newId = true)
    (gC : mg x = some (.ref (G.cad c))) (kC : PySem.W.keepIn G.K (.ref (G.cad c)) = true) (r1 : PySem.W.subIn G.K (.ref (G.cad c)) (.type "BaseException") = some true) (r2 : PySem.W.typeIn G.K (.ref (G.cad c)) = some (.type "type")) (hg : Gl X x) (hdb : (x == ("__debug__" : Str)) = false) :
    SS X G E (.Raise (some (.Call (.Name x p) [.Constant (.str m) j p2] [] cpos)) none pos) (gRaise c) := fun H0 K0 env o' h => by
  cases h
  exact PS.weak (ps_raise gd.hc tk (pmk_own F (by rw [gd.hK]; exact q) (by rw [gd.hm]; exact gC) (by rw [gd.hK]; exact kC) (raises_own (by rw [gd.hK]; exact r1) (by rw [gd.hK]; exact r2)) hg hdb)) fun D σ H ⟨⟨Kn, r⟩, q⟩ => q none H Kn r.st

/-! ### attributes -/
structure Fld (G : Gx) (c : Nat) (f : Str) (i : Nat) : Prop where
  cls : SlX.SCls G.K (G.cad c)
  at_ : ∃ p, SlX.Slot1 G.K (G.cad c) f p i
def cAt (c i : Nat) (f : Env → Option D) : Env → Option D := fun env => match f env with
  | some (.ins c' fs) => if c' = c then (match fs[i]? with | some d => if isSet d then some d else none | none => none) else none
  | _ => none
theorem SD.attr {c i : Nat} {f : Str} {g : Env → Option D} (gd : Gd X G mg base k) (F : Fld G c f i) (h : SD X G e g) (hb : attributeBase e f X.env (eval e X.env) = eval e X.env) : SD X G (.Attribute e f pos) (cAt c i g) := fun env d q => by
  unfold cAt at q
  split at q
  · rename_i c' fs hd
    split at q
    · rename_i hc; subst hc
      obtain ⟨p, hp⟩ := F.at_
      refine PE.weak (SlX.pe_sl (h _ _ hd) hb) fun σ H Q ⟨Kn, ex, re, q2⟩ => ⟨Kn, ex, re, fun v H1 K1 s1 r1 => ?_⟩
      cases r1 with
      | @ins a' dx _ xs _ ha hx rr =>
        obtain ⟨hq1, hq2⟩ : fs[i]? = some d ∧ isSet d = true := by
          split at q
          · rename_i d' e'
            split at q
            · rename_i hs'; cases q; exact ⟨e', hs'⟩
            · cases q
          · cases q
        obtain ⟨w, hw, rw'⟩ := rr.get hq1 hq2
        exact ⟨a', G.cad c', dx, p, xs, i, w, rfl, .inr ⟨s1.sub _ _ ha, s1.sub _ _ hx⟩, by rw [gd.hK]; exact F.cls, by rw [gd.hK]; exact hp, hw, q2 w H1 K1 s1 rw'⟩
    · cases q
  · cases q
/-! ### properties, methods -/
theorem FnD.raw {f : Addr} {fd : FuncData} {ps : List Str} {F : List D → Option R} (gd : Gd X G mg base k) (Fo : FnD G mg base n f fd ps F) (hb : Binds G.K fd ps []) : FnR X.prog X.w X.K X.mg X.base (L2.CX X.prog X.w) n f (spR G F ps.length) := by
  have := (Fo.at_ gd).raw (ds := []) (dvs := []) (by rw [gd.hK]; exact hb) .nil
  exact this.imp fun vs H Q E h => by rw [List.append_nil]; exact h
structure Prp (G : Gx) (c : Nat) (f : Str) (g : Addr) : Prop where
  cls : SlX.SCls G.K (G.cad c)
  at_ : ∃ p, PySem.W.findIn G.K (.ref (G.cad c)) f = some (some (.ref p)) ∧ PySem.W.specialIn G.K (.ref p) "__get__" = some (some (.builtin "property.__get__")) ∧ PySem.W.takesIn G.K (.ref p) = some true ∧ ∃ rest, PySem.W.recIn G.K p "property" = some (.ref g :: rest)
def cPrp (c : Nat) (F : List D → Option R) (f : Env → Option D) : Env → Option D := fun env => match f env with
  | some (.ins c' fs) => if c' = c then (match F [.ins c' fs] with | some (.ok d) => some d | _ => none) else none
  | _ => none
theorem SD.prop {c : Nat} {f ps0 : Str} {g : Addr} {fd : FuncData} {F : List D → Option R} {h : Env → Option D} (gd : Gd X G mg base k) (Pr : Prp G c f g) (Fo : FnD G mg base n g fd [ps0] F) (hn : n + 1 ≤ k) (hb : Binds G.K fd [ps0] []) (he : SD X G e h) (ha : attributeBase e f X.env (eval e X.env) = eval e X.env) :
    SD X G (.Attribute e f pos) (cPrp c F h) := fun env d q => by
  unfold cPrp at q
  split at q
  · rename_i c' fs hd
    split at q
    · rename_i hc; subst hc
      split at q
      · rename_i d' hF; cases q
        obtain ⟨p, p1, p2, p3, p4⟩ := Pr.at_
        refine PE.weak (SlX.pe_propSl (C := G.cad c') (E := E0) (p := p) (he _ _ hd) (by rw [gd.hK]; exact Pr.cls) (by rw [gd.hK]; exact p1) (by rw [gd.hK]; exact p2) (by rw [gd.hK]; exact p3) (by rw [gd.hK]; exact p4) (FnD.raw gd Fo hb) (gd.hr.mono hn) (fun H s e s' ⟨_, _, _, _, _, _, _, _, _, _, _, _, z⟩ => z.elim) ha) fun σ H Q ⟨Kn, ex, re, q2⟩ => ⟨Kn, ex, re, fun v H1 K1 s1 r1 => ?_⟩
        have r2 := r1
        cases r1 with
        | @ins a' dx _ xs _ ha hx rr =>
          exact ⟨a', dx, xs, rfl, .inr ⟨s1.sub _ _ ha, s1.sub _ _ hx⟩, rfl, K1, [.ins c' fs], .ok d, s1.sub, .cons r2 .nil, hF, fun v2 H2 K2 s2 r3 => q2 v2 H2 K2 (s1.trans s2) r3⟩
      · cases q
    · cases q
  · cases q
structure Mth (G : Gx) (c : Nat) (m : Str) (g : Addr) : Prop where
  cls : SlX.SCls G.K (G.cad c)
  at_ : Meth G.K (G.cad c) m g
def cMth (c : Nat) (F : List D → Option R) (f : Env → Option D) (g : Env → Option (List D)) : Env → Option R := fun env => match f env with
  | some (.ins c' fs) => if c' = c then (match g env with | some ds => F (.ins c' fs :: ds) | none => none) else none
  | _ => none
theorem SE.meth {c : Nat} {m : Str} {g : Addr} {fd : FuncData} {ps : List Str} {apos : Pos} {pl : Sem Bool} {F : List D → Option R} {h : Env → Option D} {ga : Env → Option (List D)} (gd : Gd X G mg base k) (Mt : Mth G c m g) (Fo : FnD G mg base n g fd ps F) (tk : Takes X (fun cls d _ H' => E cls d H')) (hn : n ≤ k) (hb : Binds G.K fd ps []) (ho : SD X G o h) (ha : SA X G (e :: es) ga) (hlen : (e :: es).length + 1 = ps.length)
    (hl : ∀ env ds, ga env = some ds → ds.length = (e :: es).length)
    (hst : starEach (e :: es) X.env = (false, eval e X.env) :: starEach es X.env) (hpl : (backTo pos (starEach es X.env)).any (·.1) = false)
    (ht : eval (.Call (.Attribute o m apos) (e :: es) [] pos) X.env = (do
      let ov ← eval o X.env
      standAt apos.atName
      let (f, first) ← holding [ov] (getMethod ov m pl)
      callWith pos f first (backTo pos (starEach (e :: es) X.env)) (backToKw pos (keywordEach [] X.env)))) :
    SE X G E (.Call (.Attribute o m apos) (e :: es) [] pos) (cMth c F h ga) := fun env r q => by
  unfold cMth at q
  split at q
  · rename_i c' fs hd
    split at q
    · rename_i hc; subst hc
      split at q
      · rename_i ds hds
        refine PE.weak (SlX.pe_methSl (C := G.cad c') (E := E) (pl := pl) (ho _ _ hd) (by rw [gd.hK]; exact Mt.cls) (by rw [gd.hK]; exact Mt.at_) (FnD.raw gd Fo hb) (gd.hr.mono hn) (passes_call tk fun _ _ _ _ h => h) (ha _ _ hds) hst hpl ht) fun σ H Q hq => ?_
        have fin : ∀ Kn, Ex Kn H → RelE G Kn env σ → (∀ v H1 K1 ws H2 K2, Step H Kn H1 K1 → Step H1 K1 H2 K2 → RelDs G K2 (.ins c' fs :: ds) (v :: ws) → spR G F ps.length (v :: ws) H2 Q E) → SlX.tMethSl (G.cad c') (spR G F ps.length) E (tD G env (.ins c' fs)) (tDs G env ds) σ H Q := fun Kn ex re fq => ⟨Kn, ex, re, fun v H1 K1 s1 r1 => by
          have r2 := r1
          cases r1 with
          | @ins a' dx _ xs _ ha hx rr => exact ⟨a', dx, xs, rfl, .inr ⟨s1.sub _ _ ha, s1.sub _ _ hx⟩, K1, s1.sub, re.mono s1.kx, fun ws H2 K2 s2 r3 => fq _ H1 K1 ws H2 K2 s1 s2 (.cons (r2.mono s2.kx) r3)⟩⟩
        have lenOk : ∀ {K2 : Hp} {v : V} {ws : List V}, RelDs G K2 (.ins c' fs :: ds) (v :: ws) → (v :: ws).length = ps.length := fun {K2 v ws} rr => by
          rw [← rr.length, List.length_cons, hl env ds hds]; exact hlen
        cases r with
        | ok d =>
          obtain ⟨Kn, ex, re, q2⟩ := hq
          exact fin Kn ex re fun v H1 K1 ws H2 K2 s1 s2 rr => ⟨lenOk rr, K2, _, .ok d, s2.sub, rr, q, fun v2 H3 K3 s3 r3 => q2 v2 H3 K3 ((s1.trans s2).trans s3) r3⟩
        | ex c =>
          obtain ⟨Kn, ex, re, q2⟩ := hq
          exact fin Kn ex re fun v H1 K1 ws H2 K2 s1 s2 rr => ⟨lenOk rr, K2, _, .ex c, s2.sub, rr, q, fun dd H3 K3 s3 => q2 dd H3 K3 ((s1.trans s2).trans s3)⟩
      · cases q
    · cases q
  · cases q
end
end Ev
set_option maxHeartbeats 4000000
/-! Ev: __init__ of a class with slots, and C(..). -/
namespace Ev
open PySem PySem.Spec PyProof.Rows L2

mutual
/-- no instance within -/
def noIns : D → Bool
  | .ins _ _ => false
  | .tup xs => noInsL xs
  | .lst xs => noInsL xs
  | .dct ks vs => noInsL ks && noInsL vs
  | .non => true | .bl _ => true | .int _ => true | .str _ => true | .ty _ => true | .cl _ => true | .wt _ => false | .di _ _ => false
def noInsL : List D → Bool
  | [] => true
  | d :: ds => noIns d && noInsL ds
end
/-- all but p and dx -/
def del (Kn : Hp) (p dx : Addr) : Hp := fun a => if a = p ∨ a = dx then none else Kn a
theorem del_ne {Kn : Hp} {p dx a : Addr} (h1 : a ≠ p) (h2 : a ≠ dx) : del Kn p dx a = Kn a := by unfold del; rw [if_neg (by rintro (z | z); exact h1 z; exact h2 z)]
theorem del_some {Kn : Hp} {p dx a : Addr} {o : HO} (h : del Kn p dx a = some o) : a ≠ p ∧ a ≠ dx ∧ Kn a = some o := by
  unfold del at h
  split at h
  · cases h
  · rename_i hn
    exact ⟨fun z => hn (.inl z), fun z => hn (.inr z), h⟩
section
variable {G : Gx} {Kn : Hp} {p dx C : Addr} {vs : List (Option V)}
theorem del_keep {a : Addr} {o : HO} (hp : Kn p = some (SlX.SlO p C dx vs)) (hd : Kn dx = some (.xd [])) (h : Kn a = some o) (h1 : ∀ φ, o ≠ .ext φ) (h2 : ∀ l, o ≠ .xd l) : del Kn p dx a = some o := by
  rw [del_ne (fun z => ?_) fun z => ?_]
  · exact h
  · subst z; rw [hp] at h; cases h; exact h1 _ rfl
  · subst z; rw [hd] at h; cases h; exact h2 _ rfl
theorem del_sqT {a : Addr} {xs : List V} (hp : Kn p = some (SlX.SlO p C dx vs)) (hd : Kn dx = some (.xd [])) (h : SqT G.K Kn a xs) : SqT G.K (del Kn p dx) a xs := by
  rcases h with (h | ⟨o, h⟩) | h
  · exact .inl (.inl (del_keep hp hd h (fun _ z => nomatch z) fun _ z => nomatch z))
  · exact .inl (.inr ⟨o, del_keep hp hd h (fun _ z => nomatch z) fun _ z => nomatch z⟩)
  · exact .inr h
theorem del_sqX {a : Addr} {xs : List V} (hp : Kn p = some (SlX.SlO p C dx vs)) (hd : Kn dx = some (.xd [])) (h : SqX G.K Kn a xs) : SqX G.K (del Kn p dx) a xs := ⟨del_sqT hp hd h.sq, by
  rcases h.nd with h | ⟨o, u, h1, h2⟩
  · exact .inl h
  · exact .inr ⟨o, u, del_keep hp hd h1 (fun _ z => nomatch z) (fun _ z => nomatch z), h2⟩⟩
mutual
theorem RelD.del (hp : Kn p = some (SlX.SlO p C dx vs)) (hd : Kn dx = some (.xd [])) : ∀ {d : D} {v : V}, RelD G Kn d v → noIns d = true → RelD G (Ev.del Kn p dx) d v
  | _, _, .non, _ => .non
  | _, _, .bl b, _ => .bl b
  | _, _, .int i, _ => .int i
  | _, _, .str x, _ => .str x
  | _, _, .ty n, _ => .ty n
  | _, _, .cl c, _ => .cl c
  | _, _, .wt h r, n => by simp [noIns] at n
  | _, _, .di h, n => by simp [noIns] at n
  | _, _, .tup h r, n => .tup (del_sqX hp hd h) (RelDs.del hp hd r (by simpa [noIns] using n))
  | _, _, .lst h r, n => .lst (del_keep hp hd h (fun _ z => nomatch z) fun _ z => nomatch z) (RelDs.del hp hd r (by simpa [noIns] using n))
  | _, _, .dctK h r q, n => by
    rw [noIns, Bool.and_eq_true] at n
    exact .dctK (del_keep hp hd h (fun _ z => nomatch z) fun _ z => nomatch z) (RelDs.del hp hd r n.1) (RelDs.del hp hd q n.2)
  | _, _, .dctN h r k q m, n => by
    rw [noIns, Bool.and_eq_true] at n
    exact .dctN (del_keep hp hd h (fun _ z => nomatch z) fun _ z => nomatch z) (RelDs.del hp hd r n.1) k (RelDs.del hp hd q n.2) m
  | _, _, .ins _ _ _, n => by simp [noIns] at n
theorem RelDs.del (hp : Kn p = some (SlX.SlO p C dx vs)) (hd : Kn dx = some (.xd [])) : ∀ {ds : List D} {us : List V}, RelDs G Kn ds us → noInsL ds = true → RelDs G (Ev.del Kn p dx) ds us
  | _, _, .nil, _ => .nil
  | _, _, .cons h r, n => by
    rw [noInsL, Bool.and_eq_true] at n
    exact .cons (RelD.del hp hd h n.1) (RelDs.del hp hd r n.2)
end
end

/-- within __init__: self at p, its fields so far -/
structure RI (G : Gx) (c : Nat) (p dx : Addr) (H0 K0 : Hp) (env : Env) (fs : List D) (σ : St) (H Kn : Hp) : Prop where
  st : Step H0 K0 H Kn
  re : RelE G Kn env σ
  s0 : σ[0]? = some (some (.ref p))
  hp : H0 p = none
  hd : H0 dx = none
  kp : Kn p = none
  kd : Kn dx = none
  ne : dx ≠ p
  me : (fs = [] ∧ H p = some (.ins (G.cad c) dx []) ∧ H dx = some (.own p)) ∨ (fs ≠ [] ∧ ∃ xs, RelFs G Kn fs xs ∧ H p = some (SlX.SlO p (G.cad c) dx xs) ∧ H dx = some (.xd []))
inductive OI where
  | nx (env : Env) (fs : List D)
  | ex (c : Nat)
def tOI (G : Gx) (E : XK) (c : Nat) (p dx : Addr) (H0 K0 : Hp) : OI → Ends → Prop
  | .nx env fs, D => ∀ σ H Kn, RI G c p dx H0 K0 env fs σ H Kn → D.nx σ H
  | .ex c', _ => ∀ dd H Kn, Step H0 K0 H Kn → E (.ref (G.cad c')) dd H
def tJ (G : Gx) (E : XK) (c : Nat) (p dx : Addr) (H0 K0 : Hp) (env : Env) (fs : List D) (o : OI) : TS := fun D σ H => (∃ Kn, RI G c p dx H0 K0 env fs σ H Kn) ∧ tOI G E c p dx H0 K0 o D
def SJ (X : Cx) (G : Gx) (E : XK) (c : Nat) (st : Stmt) (g : Env → List D → Option OI) : Prop := ∀ p dx H0 K0 env fs o, g env fs = some o → PS X st (tJ G E c p dx H0 K0 env fs o)
def SJs (X : Cx) (G : Gx) (E : XK) (c : Nat) (st : List Stmt) (g : Env → List D → Option OI) : Prop := ∀ p dx H0 K0 env fs o, g env fs = some o → PSs X st (tJ G E c p dx H0 K0 env fs o)
section
variable {G : Gx} {c : Nat} {p dx : Addr} {H0 K0 H Kn H' Kn' : Hp} {env : Env} {fs : List D} {σ : St}
theorem RI.step (r : RI G c p dx H0 K0 env fs σ H Kn) (s : Step H Kn H' Kn') : RI G c p dx H0 K0 env fs σ H' Kn' := by
  have hP : ∃ o, H p = some o := by rcases r.me with ⟨_, h, _⟩ | ⟨_, _, _, h, _⟩ <;> exact ⟨_, h⟩
  have hD : ∃ o, H dx = some o := by rcases r.me with ⟨_, _, h⟩ | ⟨_, _, _, _, h⟩ <;> exact ⟨_, h⟩
  obtain ⟨o1, h1⟩ := hP
  obtain ⟨o2, h2⟩ := hD
  refine ⟨r.st.trans s, r.re.mono s.kx, r.s0, r.hp, r.hd, (s.fr p o1 h1).trans r.kp, (s.fr dx o2 h2).trans r.kd, r.ne, ?_⟩
  rcases r.me with ⟨a, b, d⟩ | ⟨a, xs, b, d, e⟩
  · exact .inl ⟨a, s.ex _ _ b, s.ex _ _ d⟩
  · exact .inr ⟨a, xs, b.mono s.kx, s.ex _ _ d, s.ex _ _ e⟩
/-- self, too, seen -/
def seeI (c : Nat) (env : Env) (fs : List D) : Env := match fs with
  | [] => env
  | _ :: _ => env.set 0 (some (.ins c fs))
def kI (p dx : Addr) (Kn H : Hp) : Hp := fun a => if a = p ∨ a = dx then H a else Kn a
theorem RI.borrow (r : RI G c p dx H0 K0 env fs σ H Kn) (hne : fs ≠ []) : ∃ K1, Ex K1 H ∧ RelE G K1 (env.set 0 (some (.ins c fs))) σ ∧ Ex Kn K1 ∧ (∀ a, a ≠ p → a ≠ dx → K1 a = Kn a) ∧ ∃ xs, K1 p = some (SlX.SlO p (G.cad c) dx xs) ∧ K1 dx = some (.xd []) ∧ RelFs G Kn fs xs ∧ H p = some (SlX.SlO p (G.cad c) dx xs) ∧ H dx = some (.xd []) := by
  rcases r.me with ⟨a, _, _⟩ | ⟨_, xs, b, d, e⟩
  · exact absurd a hne
  · have kx : Ex Kn (kI p dx Kn H) := fun a o h => by
      unfold kI
      rw [if_neg (by rintro (z | z); subst z; rw [r.kp] at h; cases h; subst z; rw [r.kd] at h; cases h)]
      exact h
    have k1 : kI p dx Kn H p = some (SlX.SlO p (G.cad c) dx xs) := by unfold kI; rw [if_pos (.inl rfl)]; exact d
    have k2 : kI p dx Kn H dx = some (.xd []) := by unfold kI; rw [if_pos (.inr rfl)]; exact e
    refine ⟨kI p dx Kn H, fun a o h => ?_, ?_, kx, fun a h1 h2 => by unfold kI; rw [if_neg (by rintro (z | z); exact h1 z; exact h2 z)], xs, k1, k2, b, d, e⟩
    · unfold kI at h
      split at h
      · exact h
      · exact r.st.sub a o h
    · refine ⟨by rw [List.length_set]; exact r.re.len, fun i x hx => ?_⟩
      by_cases hi : 0 = i
      · subst hi
        have hl : 0 < env.length := by
          have := (List.getElem?_eq_some_iff.mp hx).1
          simpa using this
        rw [List.getElem?_set_self hl] at hx
        cases hx
        exact ⟨_, r.s0, .ins k1 k2 (b.mono kx)⟩
      · rw [List.getElem?_set_ne hi] at hx
        obtain ⟨v, h1, h2⟩ := r.re.at_ i x hx
        exact ⟨v, h1, h2.mono kx⟩
end
section
variable {X : Cx} {G : Gx} {E : XK} {c : Nat} {st : Stmt} {sts : List Stmt} {e : Expr} {pos : Pos} {mg : Str → Option Value} {base : Heap} {k n : Nat}
def jSeq (g h : Env → List D → Option OI) : Env → List D → Option OI := fun env fs => match g env fs with
  | some (.nx e f) => h e f
  | some (.ex c) => some (.ex c)
  | none => none
theorem SJs.nil : SJs X G E c [] (fun env fs => some (.nx env fs)) := fun p dx H0 K0 env fs o h => by
  cases h
  exact PSs.weak pss_nil fun D σ H ⟨⟨Kn, r⟩, q⟩ => q σ H Kn r
theorem SJs.cons {g h : Env → List D → Option OI} (h1 : SJ X G E c st g) (h2 : SJs X G E c sts h) : SJs X G E c (st :: sts) (jSeq g h) := fun p dx H0 K0 env fs o hg => by
  unfold jSeq at hg
  split at hg
  · rename_i e1 f1 hh
    exact PSs.weak (pss_cons (h1 p dx H0 K0 env fs _ hh) (h2 p dx H0 K0 e1 f1 o hg)) fun D σ H ⟨r, q⟩ => ⟨r, fun σ1 H1 K1 r1 => ⟨⟨K1, r1⟩, q⟩⟩
  · rename_i c1 hh
    cases hg
    exact PSs.weak (pss_cons (h1 p dx H0 K0 env fs _ hh) pss_no) fun D σ H h => h
  · cases hg
theorem no_at {σ : St} {i : Nat} {s : Sl} (h : (σ.map fun _ => Sl.no)[i]? = some s) : s = .no := by
  rw [List.getElem?_map] at h
  cases e1 : σ[i]? with
  | none => rw [e1] at h; cases h
  | some x => rw [e1] at h; cases h; rfl
theorem rs_no {H0 K0 H Kn : Hp} {σ : St} (st : Step H0 K0 H Kn) : RS G H0 K0 (σ.map fun _ => Sl.no) σ H Kn :=
  ⟨st, by simp, fun i d h => (by have := no_at h; cases this), fun i d h => (by have := no_at h; cases this), fun i j d d2 h => (by have := no_at h; cases this)⟩
/-- if test: raise .. -/
def jIf (t : Env → Option Bool) (c : Nat) : Env → List D → Option OI := fun env fs => match t env with
  | some true => some (.ex c)
  | some false => some (.nx env fs)
  | none => none
theorem SJ.ifRaise {c' : Nat} {test : Expr} {rs : Stmt} {t : Env → Option Bool} {g : EnvS → Option O} (ht : ST X G test t) (hr : SS X G E rs (gRaise c')) : SJ X G E c (.If test [rs] [] pos) (jIf t c') := fun p dx H0 K0 env fs o hg => by
  unfold jIf at hg
  split at hg
  · rename_i hh; cases hg
    have hrun : PSs X [rs] (fun D σ H => ∃ Kn, Step H0 K0 H Kn ∧ ∀ dd H' Kn', Step H0 K0 H' Kn' → E (.ref (G.cad c')) dd H') := ⟨fun pins s σ H D I ⟨Kn, st, q⟩ =>
      (pss_one (hr H0 K0 (σ.map fun _ => Sl.no) _ rfl)).run pins s σ H D I ⟨⟨Kn, rs_no st⟩, q⟩⟩
    exact PS.weak (ps_if (ht _ _ hh) hrun pss_no) fun D σ H ⟨⟨Kn, r⟩, q⟩ => ⟨Kn, r.st.sub, r.re, fun H1 K1 s1 => iteT ⟨K1, r.st.trans s1, q⟩⟩
  · rename_i hh; cases hg
    exact PS.weak (ps_if (ht _ _ hh) pss_no pss_nil) fun D σ H ⟨⟨Kn, r⟩, q⟩ => ⟨Kn, r.st.sub, r.re, fun H1 K1 s1 => iteF (q σ H1 K1 (r.step s1))⟩
  · cases hg
/-- x = e -/
def jSet (i : Nat) (f : Env → Option D) : Env → List D → Option OI := fun env fs => match f env with
  | some d => if i = 0 then none else some (.nx (env.set i (some d)) fs)
  | none => none
theorem SJ.set {i : Nat} {x : Str} {pos' : Pos} {f : Env → Option D} (hN : X.N.Nodup) (hi : X.N[i]? = some x) (hx : Loc X.env.scope x) (he : SD X G e f) (hs : swapsWith e (some (.Name x pos')) pos.line X.env = pure false) (hf : X.fn x = true ∨ X.env.scope.names.lookup x = some .local) :
    SJ X G E c (.Assign [.Name x pos'] e pos) (jSet i f) := fun p dx H0 K0 env fs o hg => by
  unfold jSet at hg
  split at hg
  · rename_i d hd
    split at hg
    · cases hg
    · rename_i h0; cases hg
      exact PS.weak (ps_set hN hi hx (he _ d hd) hs hf) fun D σ H ⟨⟨Kn, r⟩, q⟩ => ⟨Kn, r.st.sub, r.re, fun v H1 K1 s1 rd => q _ H1 K1 (by
        have r2 := r.step s1
        exact ⟨r2.st, r2.re.put i rd, by rw [List.getElem?_set_ne h0]; exact r2.s0, r2.hp, r2.hd, r2.kp, r2.kd, r2.ne, r2.me⟩)⟩
  · cases hg
/-- self.f = e, f the next field -/
def jFld (c i : Nat) (f : Env → Option D) : Env → List D → Option OI := fun env fs => match f (seeI c env fs) with
  | some d => if noIns d = true then some (.nx env (putF i d fs)) else none
  | none => none
theorem SJ.fld {i : Nat} {f self : Str} {pos' p0 : Pos} {g : Env → Option D} (gd : Gd X G mg base k) (F : Fld G c f i) (hN0 : X.N[0]? = some self) (hv : Vis X.env.scope self) (hd : (self == ("__debug__" : Str)) = false) (hcd : (self == ("__classdict__" : Str)) = false) (he : SD X G e g)
    (hs : swapsWith e (some (.Attribute (.Name self p0) f pos')) pos.line X.env = pure false) : SJ X G E c (.Assign [.Attribute (.Name self p0) f pos'] e pos) (jFld c i g) := fun p dx H0 K0 env fs o hg => by
  unfold jFld at hg
  split at hg
  · rename_i d hdv
    split at hg
    · rename_i hno
      cases hg
      obtain ⟨pp, hslot⟩ := F.at_
      refine PS.weak (SlX.ps_sl (pe_var (i := 0) hN0 hv hd hcd) (he _ d hdv) hs) fun D σ H ⟨⟨Kn, r⟩, q⟩ => ?_
      -- behind the value
      have fin : ∀ (H1 Kd : Hp) (y : V) (xs : List (Option V)), Step H0 K0 H1 Kd → RelE G Kd env σ → RelFs G Kd fs xs → RelD G Kd d y → Kd p = none → Kd dx = none → SlX.Slt H1 p (G.cad c) dx xs →
          (∃ v, σ[0]? = some (some v) ∧ ∃ a C dx' p' vs i', v = V.ref a ∧ SlX.Slt H1 a C dx' vs ∧ SlX.SCls X.K C ∧ SlX.Slot1 X.K C f p' i' ∧ D.nx σ (SlX.slH H1 a C dx' (SlX.putS i' y vs))) := fun H1 Kd y xs st re rf rd k1 k2 hsl => by
        refine ⟨_, r.s0, p, G.cad c, dx, pp, xs, i, rfl, hsl, by rw [gd.hK]; exact F.cls, by rw [gd.hK]; exact hslot, ?_⟩
        refine q σ _ Kd ⟨⟨fun a o h => ?_, st.kx, fun a o h => ?_, st.fr⟩, re, r.s0, r.hp, r.hd, k1, k2, r.ne, .inr ⟨putF_ne, SlX.putS i y xs, rf.put i rd, upd_same, by unfold SlX.slH; rw [upd_ne r.ne, upd_same]⟩⟩
        · rw [SlX.slH_ne (fun z => by subst z; rw [r.hp] at h; cases h) (fun z => by subst z; rw [r.hd] at h; cases h)]
          exact st.ex a o h
        · rw [SlX.slH_ne (fun z => by subst z; rw [k1] at h; cases h) (fun z => by subst z; rw [k2] at h; cases h)]
          exact st.sub a o h
      cases fs with
      | nil =>
        refine ⟨Kn, r.st.sub, r.re, fun y H1 K1 s1 rd => ?_⟩
        have r2 := r.step s1
        rcases r2.me with ⟨_, b1, b2⟩ | ⟨z, _⟩
        · exact fin H1 K1 y [] r2.st r2.re .nil rd r2.kp r2.kd (.inl ⟨b1, rfl⟩)
        · exact absurd rfl z
      | cons f0 ft =>
        obtain ⟨K1, ex1, re1, kx1, kn1, xs, kp1, kd1, rf, hp1, hd1⟩ := r.borrow (by simp)
        refine ⟨K1, ex1, re1, fun y H2 K2 s2 rd => ?_⟩
        have kp2 : K2 p = some (SlX.SlO p (G.cad c) dx xs) := (s2.fr p _ hp1).trans kp1
        have kd2 : K2 dx = some (.xd []) := (s2.fr dx _ hd1).trans kd1
        have exd : Ex Kn (Ev.del K2 p dx) := fun a o h => by
          have h1 : a ≠ p := fun z => by subst z; rw [r.kp] at h; cases h
          have h2 : a ≠ dx := fun z => by subst z; rw [r.kd] at h; cases h
          rw [del_ne h1 h2]
          exact s2.kx a o (kx1 a o h)
        refine fin H2 (Ev.del K2 p dx) y xs ⟨r.st.ex.trans s2.ex, r.st.kx.trans exd, fun a o h => s2.sub a o (del_some h).2.2, fun a o h => ?_⟩ (r.re.mono exd) (rf.mono exd) (rd.del kp2 kd2 hno) (by unfold Ev.del; rw [if_pos (.inl rfl)]) (by unfold Ev.del; rw [if_pos (.inr rfl)]) (.inr ⟨s2.ex _ _ hp1, s2.ex _ _ hd1⟩)
        have h1 : a ≠ p := fun z => by subst z; rw [r.hp] at h; cases h
        have h2 : a ≠ dx := fun z => by subst z; rw [r.hd] at h; cases h
        rw [del_ne h1 h2, s2.fr a o (r.st.ex a o h), kn1 a h1 h2]
        exact r.st.fr a o h
    · cases hg
  · cases hg
end
end Ev
set_option maxHeartbeats 4000000
/-! Ev: C(..). -/
namespace Ev
open PySem PySem.Spec PyProof.Rows L2
/-- the promise of __init__ -/
def spI (G : Gx) (c : Nat) (F : List D → Option R) (n : Nat) : Sp := fun vs H Q E => vs.length = n ∧ ∃ x dx ws Hb Kn ds r, vs = V.ref x :: ws ∧ Hb x = none ∧ Hb dx = none ∧ dx ≠ x ∧ H = upd (upd Hb dx (.own x)) x (.ins (G.cad c) dx []) ∧ Ex Kn Hb ∧ RelDs G Kn ds ws ∧ F ds = some r ∧ match r with
  | .ok d => ∀ H' Kn', Step Hb Kn H' Kn' → RelD G Kn' d (.ref x) → Q .non H'
  | .ex c' => ∀ dd H' Kn', Step Hb Kn H' Kn' → E (.ref (G.cad c')) dd H'
def startE (N : List Str) (ds : List D) : Env := none :: (ds.map some ++ List.replicate (N.length - (ds.length + 1)) none)
def runI (c : Nat) (N : List Str) (g : Env → List D → Option OI) : List D → Option R := fun ds => match g (startE N ds) [] with
  | some (.nx _ (f :: fs)) => some (.ok (.ins c (f :: fs)))
  | some (.ex c') => some (.ex c')
  | _ => none
abbrev FnI (G : Gx) (mg : Str → Option Value) (base : Heap) (c k : Nat) (f : Addr) (fd : FuncData) (ps : List Str) (F : List D → Option R) : Prop := FnOk G.P G.w G.K mg base (L2.CX G.P G.w) k f fd ps (spI G c F ps.length)
section
variable {G : Gx}
theorem fnI {mg : Str → Option Value} {base : Heap} {c k : Nat} {f : Addr} {name qual : Str} {params : Arguments} {body : List Stmt} {scope : Scope} {dV kV doc pm cdv ct oc : Value} {an od : Option Addr}
    {osl : Array (Option Value)} {N ps : List Str} {g : Env → List D → Option OI} (lk : G.K.lookup f = some ⟨oc, od, .func (PySem.W.fnOf name qual params body scope dV kV doc pm an cdv ct), osl⟩) (hcd : PySem.W.codeIn G.K cdv qual = true) (S : FnScope N ps scope)
    (hbody : ∀ (A : Around) (outer : List PySem.Env) (s : Shared) (H : Hp) (E : XK), Gd (cxOf (L2.CX G.P G.w) G.P G.w G.K mg base N qual scope f cdv A outer s H E) G mg base k → Takes (cxOf (L2.CX G.P G.w) G.P G.w G.K mg base N qual scope f cdv A outer s H E) (fun cls d _ H' => E cls d H') →
      SJs (cxOf (L2.CX G.P G.w) G.P G.w G.K mg base N qual scope f cdv A outer s H E) G E c body g) :
    FnI G mg base c (k + 1) f (PySem.W.fnOf name qual params body scope dV kV doc pm an cdv ct) ps (runI c N g) := by
  refine fn_of lk hcd S (fun vs H Q E h => h.1) fun A outer s H vs Q E hr ⟨hl, x, dx, ws, Hb, Kn, ds, r, hv, hx, hdx, hne, hH, ex, rd, hF, hq⟩ => ?_
  have hb := hbody A outer s H E ⟨rfl, rfl, rfl, rfl, rfl, rfl, S.nd, hr⟩ (takes_of rfl rfl rfl rfl)
  subst hv
  have hpl : ps.length ≤ N.length := by
    have := congrArg List.length S.pre
    rw [List.length_take] at this
    omega
  have hlen : ds.length + 1 ≤ N.length := by
    rw [rd.length]
    rw [List.length_cons] at hl
    omega
  have kx : Kn x = none := known_none ex hx
  have kd : Kn dx = none := known_none ex hdx
  have hri : RI G c x dx Hb Kn (startE N ds) [] (L2.start N (V.ref x :: ws)) H Kn := by
    refine ⟨⟨fun a o h => ?_, Evl.Ex.refl _, fun a o h => ?_, fun _ _ _ => rfl⟩, ⟨?_, fun i d h => ?_⟩, ?_, hx, hdx, kx, kd, hne, .inl ⟨rfl, ?_, ?_⟩⟩
    · rw [hH, upd_ne (fun z => by rw [z, hx] at h; cases h), upd_ne (fun z => by rw [z, hdx] at h; cases h)]
      exact h
    · have h' := ex a o h
      rw [hH, upd_ne (fun z => by rw [z, hx] at h'; cases h'), upd_ne (fun z => by rw [z, hdx] at h'; cases h')]
      exact h'
    · unfold startE L2.start
      have := rd.length
      simp only [List.length_cons, List.length_append, List.length_map, List.length_replicate]
      omega
    · cases i with
      | zero => simp [startE] at h
      | succ i =>
        unfold startE at h
        rw [List.getElem?_cons_succ] at h
        by_cases hi : i < ds.length
        · rw [List.getElem?_append_left (by simpa using hi), List.getElem?_map] at h
          cases e1 : ds[i]? with
          | none => rw [e1] at h; cases h
          | some d' =>
            rw [e1] at h
            cases h
            obtain ⟨v, hv, rv⟩ := rd.get e1
            refine ⟨v, ?_, rv⟩
            unfold L2.start
            have hi2 := (List.getElem?_eq_some_iff.mp hv).1
            rw [List.getElem?_append_left (by simp; omega), List.getElem?_map, List.getElem?_cons_succ, hv]
            rfl
        · rw [List.getElem?_append_right (by simpa using hi)] at h
          have := (List.mem_replicate.mp (List.mem_of_getElem? h)).2
          cases this
    · unfold L2.start
      rw [List.getElem?_append_left (by simp)]
      rfl
    · rw [hH]; exact upd_same
    · rw [hH, upd_ne hne]; exact upd_same
  unfold runI at hF
  cases e1 : g (startE N ds) [] with
  | none => rw [e1] at hF; cases hF
  | some o =>
    rw [e1] at hF
    refine ⟨_, hb x dx Hb Kn _ _ o e1, ⟨Kn, hri⟩, ?_⟩
    cases o with
    | nx e2 fs =>
      cases fs with
      | nil => cases hF
      | cons f0 ft =>
        cases hF
        refine fun σ' H' K' r' => ?_
        obtain ⟨K1, ex1, re1, kx1, kn1, xs, kp1, kd1, rf, hp1, hd1⟩ := r'.borrow (by simp)
        refine hq H' K1 ⟨r'.st.ex, r'.st.kx.trans kx1, ex1, fun a o h => ?_⟩ (.ins kp1 kd1 (rf.mono kx1))
        rw [kn1 a (fun z => by subst z; rw [hx] at h; cases h) (fun z => by subst z; rw [hdx] at h; cases h)]
        exact r'.st.fr a o h
    | ex c' => cases hF; exact fun dd H' K' st => hq dd H' K' st
end
section
variable {X : Cx} {G : Gx} {E : XK} {e : Expr} {es : List Expr} {pos : Pos} {mg : Str → Option Value} {base : Heap} {c k n : Nat}
theorem FnI.at_ {f : Addr} {fd : FuncData} {ps : List Str} {F : List D → Option R} (gd : Gd X G mg base k) (Fo : FnI G mg base c n f fd ps F) : FnOk X.prog X.w X.K X.mg X.base (L2.CX X.prog X.w) n f fd ps (spI G c F ps.length) := by
  rw [gd.hP, gd.hw, gd.hK, gd.hm, gd.hb]; exact Fo
theorem tR_make {F : List D → Option R} {m : Nat} {env : Env} {ds : List D} {r : R} (hl : ds.length + 1 = m) (hF : F ds = some r) (σ : St) (H : Hp) (Q : VK) (h : tR G E env r σ H Q) : tMake (G.cad c) (spI G c F m) [] E (tDs G env ds) σ H Q := by
  cases r with
  | ok d =>
    obtain ⟨Kn, ex, re, q⟩ := h
    refine ⟨Kn, ex, re, fun vs H1 K1 s1 r1 x dx hx hdx hne => ?_⟩
    rw [List.append_nil]
    exact ⟨by rw [List.length_cons, ← r1.length]; exact hl, x, dx, vs, H1, K1, ds, _, rfl, hx, hdx, hne, rfl, s1.sub, r1, hF, fun H2 K2 s2 r2 => ⟨rfl, q _ H2 K2 (s1.trans s2) r2⟩⟩
  | ex c' =>
    obtain ⟨Kn, ex, re, q⟩ := h
    refine ⟨Kn, ex, re, fun vs H1 K1 s1 r1 x dx hx hdx hne => ?_⟩
    rw [List.append_nil]
    exact ⟨by rw [List.length_cons, ← r1.length]; exact hl, x, dx, vs, H1, K1, ds, _, rfl, hx, hdx, hne, rfl, s1.sub, r1, hF, fun dd H2 K2 s2 => q dd H2 K2 (s1.trans s2)⟩
theorem SE.make {f : Addr} {fd : FuncData} {ps : List Str} {F : List D → Option R} {x self : Str} {p : Pos} {g : Env → Option (List D)} (gd : Gd X G mg base k) (M : Mk G.K (G.cad c) f) (Fo : FnI G mg base c n f fd (self :: ps) F) (tk : Takes X (fun cls d _ H' => E cls d H')) (hn : n + 1 ≤ k) (hg : Gl X x) (hm : mg x = some (.ref (G.cad c))) (hb : Binds G.K fd (self :: ps) [])
    (ha : SA X G (e :: es) g) (hdb : (x == ("__debug__" : Str)) = false) (he : starEach (e :: es) X.env = (false, eval e X.env) :: starEach es X.env) (hpl : (backTo pos (starEach es X.env)).any (·.1) = false) :
    SE X G E (.Call (.Name x p) (e :: es) [] pos) (cFn F (nArg ps.length g)) := fun env r h => by
  obtain ⟨ds, h1, h2⟩ := cFn_some h
  obtain ⟨h1, hl⟩ := nArg_ok h1
  exact PE.weak (pe_make (dvs := []) (ds := []) (C := G.cad c) (by rw [gd.hK]; exact M) (Fo.at_ gd) (gd.hr.mono hn) hg (by rw [gd.hm]; exact hm) (by rw [gd.hK]; exact hb) .nil (passes_call tk fun _ _ _ _ h => h) (ha _ _ h1) hdb he hpl) fun σ H Q q => tR_make (by rw [hl]; rfl) h2 σ H Q q
theorem SD.make {f : Addr} {fd : FuncData} {ps : List Str} {F : List D → Option R} {x self : Str} {p : Pos} {g : Env → Option (List D)} (gd : Gd X G mg base k) (M : Mk G.K (G.cad c) f) (Fo : FnI G mg base c n f fd (self :: ps) F) (hn : n + 1 ≤ k) (hg : Gl X x) (hm : mg x = some (.ref (G.cad c))) (hb : Binds G.K fd (self :: ps) [])
    (ha : SA X G (e :: es) g) (hdb : (x == ("__debug__" : Str)) = false) (he : starEach (e :: es) X.env = (false, eval e X.env) :: starEach es X.env) (hpl : (backTo pos (starEach es X.env)).any (·.1) = false) :
    SD X G (.Call (.Name x p) (e :: es) [] pos) (okD (cFn F (nArg ps.length g))) := fun env d h => by
  obtain ⟨ds, h1, h2⟩ := cFn_some (okD_some h)
  obtain ⟨h1, hl⟩ := nArg_ok h1
  exact PE.weak (pe_make (dvs := []) (ds := []) (C := G.cad c) (by rw [gd.hK]; exact M) (Fo.at_ gd) (gd.hr.mono hn) hg (by rw [gd.hm]; exact hm) (by rw [gd.hK]; exact hb) .nil (passes0 (P := X.prog) (w := X.w)) (ha _ _ h1) hdb he hpl) fun σ H Q q => tR_make (E := E0) (r := .ok d) (by rw [hl]; rfl) h2 σ H Q q
end
end Ev
set_option maxHeartbeats 4000000
/-! Ev: comprehensions with two clauses, whatever is made of the items (emit). -/
namespace Ev
open PySem PySem.Spec PyProof.Rows L2

/-- no generator -/
structure Cmp (e : Expr) : Prop where
  denL : ∀ (prog : Program) (w : World) (d : Nat) (it acc : Value) (env : PySem.Env), (model prog w).den (.compLoop e d it acc env) = (compTurn e d it acc env).onRaise (fun x => do noteFrame x env; theTreesLotGoes x)
  denS : ∀ (prog : Program) (w : World) (d : Nat) (it acc : Value) (env : PySem.Env), (model prog w).den (.compStart e d it acc env) = (compStart e d it acc env).onRaise (fun x => do noteFrame x env; standAt theWindowsPlace)
  undL : ∀ (A : Around) (d : Nat) (it acc : Value) (env : PySem.Env), A.under (.compLoop e d it acc env) = A
  undS : ∀ (A : Around) (d : Nat) (it acc : Value) (env : PySem.Env), A.under (.compStart e d it acc env) = A
theorem cmp_set (elt : Expr) (gs : List Comprehension) (scope : Scope) (pos : Pos) : Cmp (.SetComp elt gs scope pos) := ⟨fun _ _ _ _ _ _ => rfl, fun _ _ _ _ _ _ => rfl, fun _ _ _ _ _ => rfl, fun _ _ _ _ _ => rfl⟩
theorem cmp_dict (kx vx : Expr) (gs : List Comprehension) (scope : Scope) (pos : Pos) : Cmp (.DictComp kx vx gs scope pos) := ⟨fun _ _ _ _ _ _ => rfl, fun _ _ _ _ _ _ => rfl, fun _ _ _ _ _ => rfl, fun _ _ _ _ _ => rfl⟩
/-- a comprehension with two clauses; emit: what is done with each item -/
structure Two (e : Expr) (t0 i0 t1 i1 : Expr) (ifs0 ifs1 : List Expr) (emit : PySem.Env → Value → Sem Unit) : Prop where
  cl : clausesOf e = [⟨t0, i0, ifs0, 0⟩, ⟨t1, i1, ifs1, 0⟩]
  out : ∀ (it acc : Value) (env : PySem.Env), compTurn e 0 it acc env = (do
      standAt i0.pos
      match ← pyNext it with
      | none => pure (.done .next)
      | some v =>
        letOwnedTupleGo t0 it v
        assign t0 env v
        let mut ok := true
        for c in ifs0 do
          if ok then ok ← isTrue c env (eval c env)
        if ok then
          let x ← eval i1 env
          standAt i1.pos
          let x ← foldedSetIterable i1 env x
          let _ ← runOwn (.compStart e 1 (← holding [x] (pyIter x)) acc env) env
        again (.compLoop e 0 it acc env))
  inn : ∀ (it acc : Value) (env : PySem.Env), compTurn e 1 it acc env = (do
      standAt i1.pos
      match ← pyNext it with
      | none => pure (.done .next)
      | some v =>
        letOwnedTupleGo t1 it v
        assign t1 env v
        let mut ok := true
        for c in ifs1 do
          if ok then ok ← isTrue c env (eval c env)
        if ok then
          emit env acc
        again (.compLoop e 1 it acc env))
def emitS (elt : Expr) : PySem.Env → Value → Sem Unit := fun env acc => do let v ← eval elt env; standAt elt.pos; let _ ← call (.builtin "set.add") [acc, v]
def emitD (kx vx : Expr) : PySem.Env → Value → Sem Unit := fun env acc => do
  let kv ← eval kx env
  let vv ← holding [kv] (eval vx env)
  match acc with
  | .ref d => do
    standAt { kx.pos with endLine := vx.pos.endLine, endCol := vx.pos.endCol }
    holding [kv, vv] (dictSet d kv vv)
  | _ => unsupported "internal:dictcomp"
theorem two_set (elt t0 i0 t1 i1 : Expr) (ifs0 ifs1 : List Expr) (scope : Scope) (pos : Pos) : Two (.SetComp elt [⟨t0, i0, ifs0, 0⟩, ⟨t1, i1, ifs1, 0⟩] scope pos) t0 i0 t1 i1 ifs0 ifs1 (emitS elt) := ⟨rfl, fun _ _ _ => rfl, fun _ _ _ => rfl⟩
theorem two_dict (kx vx t0 i0 t1 i1 : Expr) (ifs0 ifs1 : List Expr) (scope : Scope) (pos : Pos) : Two (.DictComp kx vx [⟨t0, i0, ifs0, 0⟩, ⟨t1, i1, ifs1, 0⟩] scope pos) t0 i0 t1 i1 ifs0 ifs1 (emitD kx vx) := ⟨rfl, fun _ _ _ => rfl, fun _ _ _ => rfl⟩
section
variable {prog : Program} {w : World} {A : Around} {R : Result → Shared → Prop} {s : Shared} {e t0 i0 t1 i1 : Expr} {ifs0 ifs1 : List Expr} {it acc : Value} {env : PySem.Env} {emit : PySem.Env → Value → Sem Unit}
theorem loop2_out (C : Cmp e) (T : Two e t0 i0 t1 i1 ifs0 ifs1 emit) (hs : ∀ x, foldedSetIterable i1 env x = pure x) (I : Nat → Shared → Prop)
    (turn : ∀ n s, I n s → wpAny (model prog w) A (pyNext it) (fun r s₁ => match r with
      | none => R (.ok .next) s₁
      | some v => wpAny (model prog w) A (letOwnedTupleGo t0 it v) (fun _ s₁' => wpAny (model prog w) A (assign t0 env v) (fun _ s₂ =>
          wpAny (model prog w) A (forIn ifs0 true fun c r => if r = true then do let ok ← isTrue c env (eval c env); pure (ForInStep.yield ok) else pure (ForInStep.yield r)) (fun ok s₃ =>
            if ok = true then wpAny (model prog w) A (eval i1 env) (fun x s₄ => wpAny (model prog w) A (pyIter x) (fun it1 s₅ =>
              codeAny (model prog w) A (.compStart e 1 it1 acc env) (fun r s' => match r with
                | .ok _ => ∃ m, m < n ∧ I m s'
                | .error _ => False) s₅) (notedBy (model prog w) A env fun e s' => R (.error e) s') s₄) (notedBy (model prog w) A env fun e s' => R (.error e) s') s₃
            else ∃ m, m < n ∧ I m s₃) (notedBy (model prog w) A env fun e s' => R (.error e) s') s₂) (notedBy (model prog w) A env fun e s' => R (.error e) s') s₁') (notedBy (model prog w) A env fun e s' => R (.error e) s') s₁) (notedBy (model prog w) A env fun e s' => R (.error e) s') s)
    (n : Nat) (h : I n s) : codeAny (model prog w) A (.compLoop e 0 it acc env) R s := by
  refine codeAny_loop rfl I (fun n s hI => ?_) n h
  rw [C.undL, C.denL]
  refine wpAny_noted ?_
  rw [T.out]
  refine wpAny_bind (wpAny_standAt (wpAny_bind (wpAny_mono (turn n s hI) (fun r s₁ h₁ => ?_) fun _ _ h' => h')))
  cases r with
  | none => exact wpAny_pure h₁
  | some v =>
    refine wpAny_bind (wpAny_mono h₁ (fun _ s₁' h₁' => ?_) fun _ _ h' => h')
    refine wpAny_bind (wpAny_mono h₁' (fun _ s₂ h₂ => wpAny_bind (wpAny_mono h₂ (fun ok s₃ h₃ => ?_) fun _ _ h' => h')) fun _ _ h' => h')
    cases ok with
    | false => exact wpAny_pure ⟨rfl, h₃⟩
    | true =>
      refine wpAny_bind (wpAny_mono h₃ (fun x s₄ h₄ => ?_) fun _ _ h' => h')
      refine wpAny_bind (wpAny_standAt (wpAny_bind (wpAny_of_eq (hs x) (wpAny_bind (wpAny_holding (wpAny_mono h₄ (fun it1 s₅ h₅ => ?_) fun _ _ h' => h'))))))
      refine wpAny_bind (wpAny_runOwn ?_)
      rw [Around.mark_none]
      refine codeAny_mono h₅ fun r s' hr => ?_
      cases r with
      | ok f =>
        first
          | exact wpAny_pure ⟨rfl, hr⟩
          | exact wpAny_bind (wpAny_pure (wpAny_pure ⟨rfl, hr⟩))
      | error e => exact hr.elim
theorem loop2_in (C : Cmp e) (T : Two e t0 i0 t1 i1 ifs0 ifs1 emit) (I : Nat → Shared → Prop)
    (turn : ∀ n s, I n s → wpAny (model prog w) A (pyNext it) (fun r s₁ => match r with
      | none => R (.ok .next) s₁
      | some v => wpAny (model prog w) A (letOwnedTupleGo t1 it v) (fun _ s₁' => wpAny (model prog w) A (assign t1 env v) (fun _ s₂ =>
          wpAny (model prog w) A (forIn ifs1 true fun c r => if r = true then do let ok ← isTrue c env (eval c env); pure (ForInStep.yield ok) else pure (ForInStep.yield r)) (fun ok s₃ =>
            if ok = true then wpAny (model prog w) A (emit env acc) (fun _ s₅ => ∃ m, m < n ∧ I m s₅) (notedBy (model prog w) A env fun e s' => R (.error e) s') s₃
            else ∃ m, m < n ∧ I m s₃) (notedBy (model prog w) A env fun e s' => R (.error e) s') s₂) (notedBy (model prog w) A env fun e s' => R (.error e) s') s₁') (notedBy (model prog w) A env fun e s' => R (.error e) s') s₁) (notedBy (model prog w) A env fun e s' => R (.error e) s') s)
    (n : Nat) (h : I n s) : codeAny (model prog w) A (.compLoop e 1 it acc env) R s := by
  refine codeAny_loop rfl I (fun n s hI => ?_) n h
  rw [C.undL, C.denL]
  refine wpAny_noted ?_
  rw [T.inn]
  refine wpAny_bind (wpAny_standAt (wpAny_bind (wpAny_mono (turn n s hI) (fun r s₁ h₁ => ?_) fun _ _ h' => h')))
  cases r with
  | none => exact wpAny_pure h₁
  | some v =>
    refine wpAny_bind (wpAny_mono h₁ (fun _ s₁' h₁' => ?_) fun _ _ h' => h')
    refine wpAny_bind (wpAny_mono h₁' (fun _ s₂ h₂ => wpAny_bind (wpAny_mono h₂ (fun ok s₃ h₃ => ?_) fun _ _ h' => h')) fun _ _ h' => h')
    cases ok with
    | false => exact wpAny_pure ⟨rfl, h₃⟩
    | true => exact wpAny_bind (wpAny_mono h₃ (fun _ s₅ h₅ => wpAny_pure ⟨rfl, h₅⟩) fun _ _ h' => h')
/-- the start of either clause -/
theorem start_any (C : Cmp e) {d : Nat} {g : Comprehension} (hcl : (clausesOf e)[d]? = some g) (ha : g.is_async = 0) (h0 : codeAny (model prog w) A (.compLoop e d it acc env) R s)
    (h : wpAny (model prog w) A (pyIter it) (fun it' s' => codeAny (model prog w) A (.compLoop e d it' acc env) R s') (notedBy (model prog w) A env fun x s' => R (.error x) s') s) :
    codeAny (model prog w) A (.compStart e d it acc env) R s := by
  refine codeAny_of_tree ?_
  rw [C.undS, C.denS]
  refine wpAny_notedAt ?_
  unfold compStart
  rw [hcl]
  have hz : ((some g : Option Comprehension).elim false (fun x => x.is_async != 0)) = false := by simp [ha]
  rw [hz]
  simp only [Bool.false_eq_true, if_false]
  refine wpAny_bind (wpAny_askSetting (wpAny_ite ?_))
  split
  · first
      | exact wpAny_bind (wpAny_pure (wpAny_pure (And.intro rfl h0)))
      | exact wpAny_pure (And.intro rfl h0)
  · first
      | exact wpAny_bind (wpAny_rule (wpAny_bind (wpAny_standAt (wpAny_bind (wpAny_mono h (fun it' s' h' => wpAny_pure (And.intro rfl h')) fun _ _ x => x)))))
      | (refine wpAny_bind (wpAny_rule ?_); show wpAny _ _ (standAt g.iter.pos >>= _) _ _ s; exact wpAny_bind (wpAny_standAt (wpAny_bind (wpAny_mono h (fun it' s' h' => wpAny_pure (And.intro rfl h')) fun _ _ x => x))))
end
end Ev
set_option maxHeartbeats 4000000
/-! Ev: the core of a comprehension with two clauses, turned from the hand layer's rule for lists to any emit. -/
namespace Ev
open PySem PySem.Spec PyProof.Rows L2
/-- what is done with an item, by readings: the new thing at D -/
abbrev TAdd := Addr → St → Hp → (Hp → Prop) → Prop
def PAdd (X : Cx) (emit : PySem.Env → Value → Sem Unit) (ta : TAdd) : Prop := ∀ (pins : List (Addr × Obj)) (s : Shared) (σ : L2.St) (H : Hp) (Q : Hp → Prop) (D : Addr), Inv X pins σ H s → ta D σ H Q → wpAny (model X.prog X.w) X.A (emit X.env (.ref D)) (fun _ s' => ∃ H', Inv X pins σ H' s' ∧ Q H') X.xe s
def tC2 (o0 : Addr → HO) (wi : TI) (g : TG) (tt : TT) (wi1 : TI) (g1 : TG) (tt1 : TT) (ta : TAdd) (vs vs1 : List Nat) : TE := fun σ H Q => wi σ H fun J H1 => ∀ D, H1 D = none → ∃ W : Nat → Nat → Hp → Prop, (∃ m, W 0 m (upd H1 D (o0 D))) ∧ ∀ i m H, W i m H →
  (J.stop i H ∧ Q (.ref D) H) ∨ (J.go i H ∧ ∃ Nx : Hp → Prop, (∀ H', Nx H' → ∃ m', m' < m ∧ W (i + 1) m' H') ∧ ∀ x H', J.yld i H x H' → g x (wipe σ vs) H' fun σ2 H2 => wipe σ2 vs = wipe σ vs ∧ tt σ2 H2 fun b H3 =>
    if b = true then wi1 σ2 H3 fun J1 H4 => ∃ W1 : Nat → Nat → Hp → Prop, (∃ m, W1 0 m H4) ∧ ∀ j k H, W1 j k H →
      (J1.stop j H ∧ Nx H) ∨ (J1.go j H ∧ ∃ Nx1 : Hp → Prop, (∀ H', Nx1 H' → ∃ k', k' < k ∧ W1 (j + 1) k' H') ∧ ∀ x H', J1.yld j H x H' → g1 x (wipe σ2 vs1) H' fun σ3 H5 => wipe σ3 vs1 = wipe σ2 vs1 ∧ tt1 σ3 H5 fun b H6 =>
        if b = true then ta D σ3 H6 Nx1 else Nx1 H6)
    else Nx H3)
section
variable {X : Cx}
theorem core2 {pins : List (Addr × Obj)} {s : Shared} {σ : L2.St} {H : Hp} {Q : VK} {e tg iter tg1 iter1 : Expr} {ifs ifs1 : List Expr} {scope : Scope} {own : List (Str × Nat)} {vs1 : List Nat} {pos' : Pos} {wi wi1 : TI} {g g1 : TG} {tt tt1 : TT} {ta : TAdd} {use : Option (Value → Sem Unit)} {Qf : Value → Shared → Prop} {emit : PySem.Env → Value → Sem Unit} {newAcc : Sem Value} {ob : Obj} {o0 : Addr → HO}
    (C2 : Cmp e) (T2 : Two e tg iter tg1 iter1 ifs ifs1 emit) (hna : ∀ (A : Around) (E : Value → Shared → Prop) (s : Shared) (Q : Value → Shared → Prop), Q (.ref s.heap.objs.size) { s with heap := s.heap.push ob } → wpAny (model X.prog X.w) A newAcc Q E s)
    (hob : ∀ (H : Hp) (h : Heap), sysModules < h.objs.size → ObjOk X.prog X.w (upd H h.objs.size (o0 h.objs.size)) (h.push ob) h.objs.size (o0 h.objs.size))
    (hc : X.calm = true) (hN : X.N.Nodup) (I : Inv X pins σ H s) (hi : PI X tg iter wi) (ok : BlkOk X.N X.env.scope scope own) (hv : ∀ i ∈ vs1, i ∈ own.map (·.2))
    (hg : ∀ (s : Shared) (H : Hp) (C : Addr) (cl : List (Str × Addr)) (fp : List Addr), PG (X.blk s H scope (compEnvC scope cl C X.env) fp) tg g) (ht : ∀ (s : Shared) (H : Hp) (C : Addr) (cl : List (Str × Addr)) (fp : List Addr), PTs (X.blk s H scope (compEnvC scope cl C X.env) fp) ifs tt)
    (he : ∀ (s : Shared) (H : Hp) (C : Addr) (cl : List (Str × Addr)) (fp : List Addr), PAdd (X.blk s H scope (compEnvC scope cl C X.env) fp) emit ta) (hs : ∀ x, foldedSetIterable iter X.env x = pure x)
    (hi1 : ∀ (s : Shared) (H : Hp) (C : Addr) (cl : List (Str × Addr)) (fp : List Addr), PI (X.blk s H scope (compEnvC scope cl C X.env) fp) tg1 iter1 wi1)
    (hg1 : ∀ (s : Shared) (H : Hp) (C : Addr) (cl : List (Str × Addr)) (fp : List Addr), PG (X.blk s H scope (compEnvC scope cl C X.env) fp) tg1 g1)
    (ht1 : ∀ (s : Shared) (H : Hp) (C : Addr) (cl : List (Str × Addr)) (fp : List Addr), PTs (X.blk s H scope (compEnvC scope cl C X.env) fp) ifs1 tt1)
    (hs1 : ∀ env x, foldedSetIterable iter1 env x = pure x)
    (h : tC2 o0 wi g tt wi1 g1 tt1 ta (own.map (·.2)) vs1 σ H Q)
    (hRR : ∀ D C s' m H', Inv X pins σ H' s' → Q (.ref D) H' → s'.heap.Ns C m → FpOk X pins H' C → compPost (model X.prog X.w) X.A X.xe use Qf (.ref D) C (.ok .next) s') :
    wpAny (model X.prog X.w) X.A (comprehension e scope X.env pos' newAcc false (eval iter X.env) use) Qf X.xe s := by
  have hfree : ∀ y ∈ scope.names, y.2 = .free → ∃ c, X.env.cells.lookup y.1 = some c := fun y hy e => by
    rcases ok.free y hy e with k | k
    · exact I.ok.has _ (.inl k)
    · exact I.ok.has _ (.inr k)
  refine wpAny_comprehension_free (use := use) T2.cl hs (closure_ok hfree) ok.kind (fun y hy e => by rw [ok.uniq y hy, e])
    (thn (hi.run pins s σ H _ I h) fun xv s1 hx => thn hx fun itv s2 h2 => ?_)
  obtain ⟨it, fp, tn, J, H2, e, I2, T, st2, f2, q⟩ := h2
  subst e
  refine hna _ _ _ _ (newEnv_comp ?_)
  generalize hD : s2.heap.objs.size = D
  have hDn : H2 D = none := I2.hok.fresh (Nat.le_of_eq hD)
  obtain ⟨W, ⟨m0, w0⟩, turn⟩ := q D hDn
  -- the new list
  generalize hs3 : ({ s2 with heap := s2.heap.push ob } : Shared) = s3
  have I3 : Inv X pins σ (upd H2 D (o0 D)) s3 := by
    rw [← hs3]
    refine I2.laid (t' := s2.toks) (fun b o e => Heap.get?_push_of_some _ e) (Nat.le_of_eq hD) ?_
    rw [← hD]
    exact hob H2 s2.heap I2.big
  have h3 : s3.heap = s2.heap.push ob := by rw [← hs3]
  have sz : ∀ b ∈ fp, b < s2.heap.objs.size := fun b hb => by
    obtain ⟨o, e, _⟩ := T.obj _ _ st2 b hb
    exact Heap.lt_size e
  have f3 : ∀ b ∈ fp, FpOk X pins (upd H2 D (o0 D)) b ∧ b < s3.heap.objs.size := fun b hb => by
    have hlt := sz b hb
    refine ⟨⟨?_, (f2 b hb).2⟩, by rw [h3, Heap.size_push]; exact Nat.lt_succ_of_lt hlt⟩
    rw [upd_ne (by rw [← hD]; exact Nat.ne_of_lt hlt)]
    exact (f2 b hb).1
  have st3 : tn 0 s3.heap := T.keep _ _ _ st2 fun b _ o e => by rw [h3]; exact Heap.get?_push_of_some _ e
  have I4 := block_start I3 ok hN f3
  have pg := hg s3 (upd H2 D (o0 D)) s3.heap.objs.size (cellsFrom (s3.heap.objs.size + 1) scope.names (cloFrom X.env.cells scope.names [])) fp
  have pt := ht s3 (upd H2 D (o0 D)) s3.heap.objs.size (cellsFrom (s3.heap.objs.size + 1) scope.names (cloFrom X.env.cells scope.names [])) fp
  have pe := he s3 (upd H2 D (o0 D)) s3.heap.objs.size (cellsFrom (s3.heap.objs.size + 1) scope.names (cloFrom X.env.cells scope.names [])) fp
  have pi1 := hi1 s3 (upd H2 D (o0 D)) s3.heap.objs.size (cellsFrom (s3.heap.objs.size + 1) scope.names (cloFrom X.env.cells scope.names [])) fp
  have pg1 := hg1 s3 (upd H2 D (o0 D)) s3.heap.objs.size (cellsFrom (s3.heap.objs.size + 1) scope.names (cloFrom X.env.cells scope.names [])) fp
  have pt1 := ht1 s3 (upd H2 D (o0 D)) s3.heap.objs.size (cellsFrom (s3.heap.objs.size + 1) scope.names (cloFrom X.env.cells scope.names [])) fp
  show codeAny _ _ (.compStart e 0 (.ref it) (.ref D) (compEnvC scope (cellsFrom (s3.heap.objs.size + 1) scope.names (cloFrom X.env.cells scope.names [])) s3.heap.objs.size X.env)) (compPost (model X.prog X.w) X.A X.xe use Qf (.ref D) s3.heap.objs.size) { s3 with heap := pushCells (s3.heap.push { cls := .type "dict", data := .dict #[] }) scope.names }
  have nfp : ∀ b ∈ fp, (upd H2 D (o0 D)) b = none := fun b hb => (f3 b hb).1.1
  generalize hce : compEnvC scope (cellsFrom (s3.heap.objs.size + 1) scope.names (cloFrom X.env.cells scope.names [])) s3.heap.objs.size X.env = ce at I4 pg pt pe pi1 pg1 pt1 ⊢
  have cL : ce.locals = s3.heap.objs.size := by subst hce; rfl
  generalize hH3 : upd H2 D (o0 D) = H3 at I3 I4 pg pt pe pi1 pg1 pt1 w0 nfp f3
  generalize hs4 : ({ s3 with heap := pushCells (s3.heap.push { cls := .type "dict", data := .dict #[] }) scope.names } : Shared) = s4 at I4 ⊢
  have st4 : tn 0 s4.heap := T.keep _ _ _ st3 fun b _ o e => by rw [← hs4]; exact pushCells_keeps _ _ _ _ (Heap.get?_push_of_some _ e)
  have stat : ∀ {σ' : L2.St} {H' : Hp} {s' : Shared}, Inv (X.blk s3 H3 scope ce fp) [] σ' H' s' → (∀ b ∈ fp, H' b = none) → ∀ b ∈ fp, FpOk (X.blk s3 H3 scope ce fp) [] H' b := fun {σ' H' s'} I' hn b hb =>
    ⟨hn b hb, (I'.ok.exf b hb).1, I'.ok.exfs b hb, .inl hb, fun x c e => (I'.ok.exf b hb).2 x c e, fun p hp => absurd (show p ∈ ([] : List (Addr × Obj)) ++ [] from hp) (by simp)⟩
  have loop : codeAny (model X.prog X.w) X.A (.compLoop e 0 (.ref it) (.ref D) ce) (compPost (model X.prog X.w) X.A X.xe use Qf (.ref D) s3.heap.objs.size) s4 := by
    refine loop2_out C2 T2 (hs1 ce) (fun n s' => ∃ i H', Inv (X.blk s3 H3 scope ce fp) [] (wipe σ (own.map (·.2))) H' s' ∧ tn i s'.heap ∧ (∀ b ∈ fp, H' b = none) ∧ W i n H') ?_ m0 ⟨0, H3, I4, st4, nfp, w0⟩
    rintro n s5 ⟨i, H5, I5, st5, n5, w5⟩
    rcases turn i n H5 w5 with ⟨stop, qq⟩ | ⟨go, Nx, hNx, step⟩
    · have td := T.done (X.blk s3 H3 scope ce fp) rfl rfl rfl hc i [] s5 _ H5 (fun _ _ => False) I5 (stat I5 n5) st5 stop
      refine thnF td fun r s6 ⟨hr, I6⟩ => ?_
      subst hr
      -- back in the def's context
      have I7 : Inv X pins σ H5 s6 := I3.call' (ch := fp) I6.os I6.base I6.hok I6.bare fun b hb => ⟨(f3 b hb).1.2.2.2.1, (f3 b hb).1.2.1, (f3 b hb).1.2.2.2.2.1, (f3 b hb).1.2.2.2.2.2⟩
      have nC : H5 s3.heap.objs.size = none := by
        have z : H5 ce.locals = none := I6.free
        rw [cL] at z
        exact z
      obtain ⟨m, hn, _⟩ := I6.loc
      have hn : s6.heap.Ns ce.locals m := hn
      rw [cL] at hn
      exact hRR D s3.heap.objs.size s6 m H5 I7 qq hn (I3.fpOk (Nat.le_refl _) nC)
    · have ti := T.item (X.blk s3 H3 scope ce fp) rfl rfl rfl hc i [] s5 _ H5 (fun _ _ => False) I5 (stat I5 n5) st5 go
      refine thnF ti fun r s6 ⟨u, hr, h6⟩ => ?_
      subst hr
      refine thnF h6 fun _ s7 ⟨x, H7, I7, r7, y7, st7, n7⟩ => ?_
      have I7' := I7.pinned (stat I7 n7) (T.obj _ _ st7)
      refine thnF (pg.run _ s7 _ H7 x u _ I7' r7 (step x H7 y7)) fun _ s8 ⟨σ8, H8, I8, hw8, q8⟩ => ?_
      refine thnF (pt.run _ s8 σ8 H8 _ I8 q8) fun b s9 ⟨H9, I9, q9⟩ => ?_
      -- the turn's end, from any slots that know what the block knew at its start
      have fin : ∀ {σ9 : L2.St} {s' : Shared} {H' : Hp}, Inv (X.blk s3 H3 scope ce fp) ([] ++ pinsAt fp s7.heap) σ9 H' s' → (wipe σ (own.map (·.2))).length = σ9.length → (∀ (j : Nat) v, (wipe σ (own.map (·.2)))[j]? = some (some v) → σ9[j]? = some (some v)) → Nx H' →
          ∃ m, m < n ∧ ∃ i H', Inv (X.blk s3 H3 scope ce fp) [] (wipe σ (own.map (·.2))) H' s' ∧ tn i s'.heap ∧ (∀ b ∈ fp, H' b = none) ∧ W i m H' := fun {σ9 s' H'} I' hl hk nx => by
        obtain ⟨m', hm, w'⟩ := hNx H' nx
        have pin' : ∀ b ∈ fp, ∀ o, s7.heap.get? b = some o → s'.heap.get? b = some o ∧ H' b = none := fun b hb o e =>
          let z := I'.pin (b, o) (List.mem_append_right _ (List.mem_append_right _ (mem_pinsAt hb e)))
          ⟨z.1, z.2.1⟩
        refine ⟨m', hm, i + 1, H', (I'.unpinned (pins := [])).weak hl hk, T.keep _ _ _ st7 fun b hb o e => (pin' b hb o e).1, fun b hb => ?_, w'⟩
        obtain ⟨o, e, _⟩ := T.obj _ _ st7 b hb
        exact (pin' b hb o e).2
      have hl8 : (wipe σ (own.map (·.2))).length = σ8.length := by rw [← hw8, wipe_length]
      have hk8 : ∀ (j : Nat) v, (wipe σ (own.map (·.2)))[j]? = some (some v) → σ8[j]? = some (some v) := fun j v e => by
        rw [← hw8] at e
        exact (wipe_some e).1
      have hk9 : ∀ (j : Nat) v, (wipe σ (own.map (·.2)))[j]? = some (some v) → (wipe σ8 vs1)[j]? = some (some v) := fun j v e => by
        rw [← hw8] at e
        obtain ⟨e1, e2⟩ := wipe_some e
        rw [wipe_out fun z => e2 (hv j z)]
        exact e1
      cases b with
      | false =>
        simp only [Bool.false_eq_true, if_false] at q9 ⊢
        exact fin I9 hl8 hk8 q9
      | true =>
        simp only [if_true] at q9 ⊢
        refine thnF (pi1.run _ s9 σ8 H9 _ I9 q9) fun xv s10 hx => thnF hx fun itv s11 h11 => ?_
        obtain ⟨it1, fp1, tn1, J1, H11, e1, I11, T1, st11, f11, W1, ⟨m1, w1⟩, turn1⟩ := h11
        subst e1
        -- the inner loop
        have stat1 : ∀ {H' : Hp}, (∀ b ∈ fp1, H' b = none) → ∀ b ∈ fp1, FpOk (X.blk s3 H3 scope ce fp) ([] ++ pinsAt fp s7.heap) H' b := fun hn b hb => ⟨hn b hb, (f11 b hb).2⟩
        have loop1 : codeAny (model X.prog X.w) X.A (.compLoop e 1 (.ref it1) (.ref D) ce)
            (fun r s' => match r with
              | .ok _ => ∃ m, m < n ∧ ∃ i H', Inv (X.blk s3 H3 scope ce fp) [] (wipe σ (own.map (·.2))) H' s' ∧ tn i s'.heap ∧ (∀ b ∈ fp, H' b = none) ∧ W i m H'
              | .error _ => False) s11 := by
          refine loop2_in C2 T2 (fun k s' => ∃ j H', Inv (X.blk s3 H3 scope ce fp) ([] ++ pinsAt fp s7.heap) (wipe σ8 vs1) H' s' ∧ tn1 j s'.heap ∧ (∀ b ∈ fp1, H' b = none) ∧ W1 j k H') ?_ m1 ⟨0, H11, I11.weak (wipe_length _ _) (fun j v e => (wipe_some e).1), st11, fun b hb => (f11 b hb).1, w1⟩
          rintro k s12 ⟨j, H12, I12, st12, n12, w12⟩
          rcases turn1 j k H12 w12 with ⟨stop1, nx1⟩ | ⟨go1, Nx1, hNx1, step1⟩
          · refine thnF (T1.done (X.blk s3 H3 scope ce fp) rfl rfl rfl hc j _ s12 (wipe σ8 vs1) H12 (fun _ _ => False) I12 (stat1 n12) st12 stop1) fun r s13 ⟨hr, I13⟩ => ?_
            subst hr
            exact fin I13 (hl8.trans (wipe_length σ8 vs1).symm) hk9 nx1
          · refine thnF (T1.item (X.blk s3 H3 scope ce fp) rfl rfl rfl hc j _ s12 (wipe σ8 vs1) H12 (fun _ _ => False) I12 (stat1 n12) st12 go1) fun r s13 ⟨u1, hr, h13⟩ => ?_
            subst hr
            refine thnF h13 fun _ s14 ⟨x1, H14, I14, r14, y14, st14, n14⟩ => ?_
            have I14' := I14.pinned (stat1 n14) (T1.obj _ _ st14)
            refine thnF (pg1.run _ s14 (wipe σ8 vs1) H14 x1 u1 _ I14' r14 (step1 x1 H14 y14)) fun _ s15 ⟨σ15, H15, I15, hw15, q15⟩ => ?_
            refine thnF (pt1.run _ s15 σ15 H15 _ I15 q15) fun b1 s16 ⟨H16, I16, q16⟩ => ?_
            have fin1 : ∀ {s' : Shared} {H' : Hp}, Inv (X.blk s3 H3 scope ce fp) (([] ++ pinsAt fp s7.heap) ++ pinsAt fp1 s14.heap) σ15 H' s' → Nx1 H' → ∃ m, m < k ∧ ∃ j H', Inv (X.blk s3 H3 scope ce fp) ([] ++ pinsAt fp s7.heap) (wipe σ8 vs1) H' s' ∧ tn1 j s'.heap ∧ (∀ b ∈ fp1, H' b = none) ∧ W1 j m H' := fun {s' H'} I' nx => by
              obtain ⟨m', hm, w'⟩ := hNx1 H' nx
              have pin' : ∀ b ∈ fp1, ∀ o, s14.heap.get? b = some o → s'.heap.get? b = some o ∧ H' b = none := fun b hb o e =>
                let z := I'.pin (b, o) (List.mem_append_right _ (List.mem_append_right _ (mem_pinsAt hb e)))
                ⟨z.1, z.2.1⟩
              refine ⟨m', hm, j + 1, H', I'.unpinned.weak (by rw [← hw15, wipe_length]) (fun j v e => by rw [← hw15] at e; exact (wipe_some e).1), T1.keep _ _ _ st14 fun b hb o e => (pin' b hb o e).1, fun b hb => ?_, w'⟩
              obtain ⟨o, e, _⟩ := T1.obj _ _ st14 b hb
              exact (pin' b hb o e).2
            cases b1 with
            | false =>
              simp only [Bool.false_eq_true, if_false] at q16 ⊢
              exact fin1 I16 q16
            | true =>
              simp only [if_true] at q16 ⊢
              exact thnF (pe _ s16 σ15 H16 _ D I16 q16) fun _ s17 ⟨H17, I17, nx⟩ => fin1 I17 nx
        exact start_any C2 (by rw [T2.cl]; rfl) rfl loop1 (T1.self X.A 0 _ _ _ st11 loop1)
  exact start_any C2 (by rw [T2.cl]; rfl) rfl loop (T.self X.A 0 _ _ _ st4 loop)
end
end Ev
set_option maxHeartbeats 4000000
/-! Ev: comprehensions with two clauses, by data. -/
namespace Ev
open PySem PySem.Spec PyProof.Rows L2

/-- a step forth in which the thing at D may change -/
structure Chg (D : Addr) (H Kn H' Kn' : Hp) : Prop where
  ex : ∀ a o, a ≠ D → H a = some o → H' a = some o
  kx : Ex Kn Kn'
  sub : Ex Kn' H'
  fr : ∀ a o, H a = some o → Kn' a = Kn a
  at_ : ∀ o, H D = some o → ∃ o', H' D = some o'
theorem Step.chg {D : Addr} {H Kn H' Kn' : Hp} (s : Step H Kn H' Kn') : Chg D H Kn H' Kn' := ⟨fun a o _ h => s.ex a o h, s.kx, s.sub, s.fr, fun o h => ⟨o, s.ex D o h⟩⟩
theorem Chg.refl {D : Addr} {H Kn : Hp} (e : Ex Kn H) : Chg D H Kn H Kn := (Step.refl e).chg
theorem Chg.trans {D : Addr} {H Kn H1 K1 H2 K2 : Hp} (a : Chg D H Kn H1 K1) (b : Chg D H1 K1 H2 K2) : Chg D H Kn H2 K2 := by
  refine ⟨fun x o hx h => b.ex x o hx (a.ex x o hx h), a.kx.trans b.kx, b.sub, fun x o h => ?_, fun o h => ?_⟩
  · by_cases hx : x = D
    · subst hx
      obtain ⟨o', h'⟩ := a.at_ o h
      exact (b.fr x o' h').trans (a.fr x o h)
    · exact (b.fr x o (a.ex x o hx h)).trans (a.fr x o h)
  · obtain ⟨o', h'⟩ := a.at_ o h
    exact b.at_ o' h'
section
variable {A : Type}
/-- what is gathered, and how it stands at D -/
structure Acc (G : Gx) (A : Type) (o0 : Addr → HO) (a0 : A) (rep : A → Addr → Hp → Hp → Prop) : Prop where
  zero : ∀ (D : Addr) (H Kn : Hp), Ex Kn H → H D = none → rep a0 D (upd H D (o0 D)) Kn
  step : ∀ (a : A) (D : Addr) (H Kn H' Kn' : Hp), rep a D H Kn → Step H Kn H' Kn' → rep a D H' Kn'
  there : ∀ (a : A) (D : Addr) (H Kn : Hp), rep a D H Kn → ∃ o, H D = some o
def foldC (t : Tg) (ft : Env → Option Bool) (body : Env → A → Option A) (env : Env) : List D → A → Option A
  | [], a => some a
  | d :: ds, a => match asgT t d env with
    | none => none
    | some env2 => match ft env2 with
      | none => none
      | some false => foldC t ft body env ds a
      | some true => match body env2 a with
        | none => none
        | some a2 => foldC t ft body env ds a2
/-- emit, by data -/
def tAddD (G : Gx) (rep : A → Addr → Hp → Hp → Prop) (fa : Env → A → Option A) : TAdd := fun D σ H Q => ∃ env a a2 Kn, fa env a = some a2 ∧ Ex Kn H ∧ RelE G Kn env σ ∧ rep a D H Kn ∧ ∀ H' Kn', Chg D H Kn H' Kn' → rep a2 D H' Kn' → Q H'
def tIs (G : Gx) (fi : Env → Option (List D)) : TI := fun σ H R => ∃ env ds, fi env = some ds ∧ tI G env ds σ H R
theorem PI.any {X : Cx} {G : Gx} {tg e : Expr} {fi : Env → Option (List D)} (h : SI X G tg e fi) : PI X tg e (tIs G fi) := ⟨fun pins s σ H R I ⟨env, ds, e, q⟩ => (h env ds e).run pins s σ H R I q⟩
variable {G : Gx} {o0 : Addr → HO} {a0 : A} {rep : A → Addr → Hp → Hp → Prop}
/-- the inner walk -/
theorem walk_in (K : Acc G A o0 a0 rep) {t : Tg} {ft : Env → Option Bool} {fa : Env → A → Option A} {env : Env} {vs : List Nat} {σ : St} {ds : List D} {a a' : A} {D : Addr} {J : It} {H Kn : Hp} {Nx : Hp → Prop} (hsub : ∀ i ∈ tgS t, i ∈ vs)
    (ex : Ex Kn H) (re : RelE G Kn env σ) (it : ItD G J Kn ds) (hr : rep a D H Kn) (hf : foldC t ft fa (wipeE env vs) ds a = some a') (hN : ∀ H' Kn', Chg D H Kn H' Kn' → rep a' D H' Kn' → Nx H') :
    ∃ W : Nat → Nat → Hp → Prop, (∃ m, W 0 m H) ∧ ∀ j k H, W j k H →
      (J.stop j H ∧ Nx H) ∨ (J.go j H ∧ ∃ N1 : Hp → Prop, (∀ H', N1 H' → ∃ k', k' < k ∧ W (j + 1) k' H') ∧ ∀ x H', J.yld j H x H' → tG G t x (wipe σ vs) H' fun σ3 H5 => wipe σ3 vs = wipe σ vs ∧ tTs G ft σ3 H5 fun b H6 =>
        if b = true then tAddD G rep fa D σ3 H6 N1 else N1 H6) := by
  refine ⟨fun j k H2 => k = ds.length - j ∧ j ≤ ds.length ∧ ∃ K2 aj, Chg D H Kn H2 K2 ∧ rep aj D H2 K2 ∧ foldC t ft fa (wipeE env vs) (ds.drop j) aj = some a', ⟨ds.length, by simp, Nat.zero_le _, Kn, a, Chg.refl ex, hr, by simpa using hf⟩, ?_⟩
  rintro j k H2 ⟨rfl, hj, K2, aj, c2, r2, hfj⟩
  have exI : Ex Kn H2 := c2.kx.trans c2.sub
  by_cases hlt : j < ds.length
  · have hd : ds[j]? = some ds[j] := by simp [hlt]
    obtain ⟨go, yl⟩ := it.2 j ds[j] hd H2 exI
    refine .inr ⟨go, fun H' => ∃ K3 a3, Chg D H Kn H' K3 ∧ rep a3 D H' K3 ∧ foldC t ft fa (wipeE env vs) (ds.drop (j + 1)) a3 = some a', fun H' w => ⟨ds.length - (j + 1), by omega, rfl, hlt, w⟩, fun x H' hy => ?_⟩
    obtain ⟨K3, s3, rx⟩ := yl x H' hy K2 c2.kx c2.sub
    rw [List.drop_eq_getElem_cons hlt] at hfj
    simp only [foldC] at hfj
    have c3 := c2.trans (Step.chg (D := D) s3)
    have re3 : RelE G K3 (wipeE env vs) (wipe σ vs) := (re.mono c3.kx).wipe _
    have r3 := K.step _ _ _ _ _ _ r2 s3
    cases ea : asgT t ds[j] (wipeE env vs) with
    | none => rw [ea] at hfj; cases hfj
    | some env2 =>
      rw [ea] at hfj
      dsimp only at hfj
      refine ⟨K3, _, ds[j], env2, s3.sub, re3, rx, ea, fun σ2 re2 sm => ⟨wipe_same sm hsub, ?_⟩⟩
      cases eb : ft env2 with
      | none => rw [eb] at hfj; cases hfj
      | some b =>
        rw [eb] at hfj
        refine ⟨env2, b, eb, K3, s3.sub, re2, fun H4 K4 s4 => ?_⟩
        have c4 := c3.trans (Step.chg (D := D) s4)
        have r4 := K.step _ _ _ _ _ _ r3 s4
        cases b with
        | false => exact iteF ⟨K4, aj, c4, r4, hfj⟩
        | true =>
          dsimp only at hfj
          cases ec : fa env2 aj with
          | none => rw [ec] at hfj; cases hfj
          | some a2 =>
            rw [ec] at hfj
            exact iteT ⟨env2, aj, a2, K4, ec, s4.sub, re2.mono s4.kx, r4, fun H5 K5 c5 r5 => ⟨K5, a2, c4.trans c5, r5, hfj⟩⟩
  · have e : j = ds.length := by omega
    subst e
    rw [List.drop_length] at hfj
    cases hfj
    exact .inl ⟨it.1 H2 exI, hN H2 K2 c2 r2⟩
/-- both -/
def body2 (fi1 : Env → Option (List D)) (t1 : Tg) (f1 : Env → Option Bool) (fa : Env → A → Option A) (vs1 : List Nat) : Env → A → Option A := fun env a => match fi1 env with
  | none => none
  | some ds1 => foldC t1 f1 fa (wipeE env vs1) ds1 a
theorem c2_reads (K : Acc G A o0 a0 rep) {t t1 : Tg} {ft f1 : Env → Option Bool} {fi1 : Env → Option (List D)} {fa : Env → A → Option A} {env : Env} {vs vs1 : List Nat} {ds : List D} {a' : A} (hsub : ∀ i ∈ tgS t, i ∈ vs) (hsub1 : ∀ i ∈ tgS t1, i ∈ vs1)
    (hf : foldC t ft (body2 fi1 t1 f1 fa vs1) (wipeE env vs) ds a0 = some a') (σ : St) (H : Hp) (Q : VK)
    (h : ∃ Kn, Ex Kn H ∧ RelE G Kn env σ ∧ ∀ D H' Kn', H D = none → Kn' D = none → Step H Kn H' Kn' → rep a' D H' Kn' → Q (.ref D) H') :
    tC2 o0 (tI G env ds) (tG G t) (tTs G ft) (tIs G fi1) (tG G t1) (tTs G f1) (tAddD G rep fa) vs vs1 σ H Q := by
  obtain ⟨Kn, ex, re, q⟩ := h
  refine ⟨Kn, ex, re, fun J H1 K1 s1 it D hD => ?_⟩
  have kD : K1 D = none := known_none s1.sub hD
  have hDH : H D = none := fresh_step s1 hD
  have ex1 : Ex K1 (upd H1 D (o0 D)) := fun a o h => by rw [upd_ne (fun z => by rw [z, kD] at h; cases h)]; exact s1.sub a o h
  have z0 := K.zero D H1 K1 s1.sub hD
  refine ⟨fun i m H2 => m = ds.length - i ∧ i ≤ ds.length ∧ ∃ K2 ai, Chg D (upd H1 D (o0 D)) K1 H2 K2 ∧ rep ai D H2 K2 ∧ foldC t ft (body2 fi1 t1 f1 fa vs1) (wipeE env vs) (ds.drop i) ai = some a', ⟨ds.length, by simp, Nat.zero_le _, K1, a0, Chg.refl ex1, z0, by simpa using hf⟩, ?_⟩
  rintro i m H2 ⟨rfl, hi, K2, ai, c2, r2, hfi⟩
  have exI : Ex K1 H2 := c2.kx.trans c2.sub
  by_cases hlt : i < ds.length
  · have hd : ds[i]? = some ds[i] := by simp [hlt]
    obtain ⟨go, yl⟩ := it.2 i ds[i] hd H2 exI
    refine .inr ⟨go, fun H' => ∃ K3 a3, Chg D (upd H1 D (o0 D)) K1 H' K3 ∧ rep a3 D H' K3 ∧ foldC t ft (body2 fi1 t1 f1 fa vs1) (wipeE env vs) (ds.drop (i + 1)) a3 = some a', fun H' w => ⟨ds.length - (i + 1), by omega, rfl, hlt, w⟩, fun x H' hy => ?_⟩
    obtain ⟨K3, s3, rx⟩ := yl x H' hy K2 c2.kx c2.sub
    rw [List.drop_eq_getElem_cons hlt] at hfi
    simp only [foldC] at hfi
    have c3 := c2.trans (Step.chg (D := D) s3)
    have re3 : RelE G K3 (wipeE env vs) (wipe σ vs) := (re.mono (s1.kx.trans c3.kx)).wipe _
    have r3 := K.step _ _ _ _ _ _ r2 s3
    cases ea : asgT t ds[i] (wipeE env vs) with
    | none => rw [ea] at hfi; cases hfi
    | some env2 =>
      rw [ea] at hfi
      dsimp only at hfi
      refine ⟨K3, _, ds[i], env2, s3.sub, re3, rx, ea, fun σ2 re2 sm => ⟨wipe_same sm hsub, ?_⟩⟩
      cases eb : ft env2 with
      | none => rw [eb] at hfi; cases hfi
      | some b =>
        rw [eb] at hfi
        refine ⟨env2, b, eb, K3, s3.sub, re2, fun H4 K4 s4 => ?_⟩
        have c4 := c3.trans (Step.chg (D := D) s4)
        have r4 := K.step _ _ _ _ _ _ r3 s4
        cases b with
        | false => exact iteF ⟨K4, ai, c4, r4, hfi⟩
        | true =>
          dsimp only at hfi
          cases ec : body2 fi1 t1 f1 fa vs1 env2 ai with
          | none => rw [ec] at hfi; cases hfi
          | some a2 =>
            rw [ec] at hfi
            unfold body2 at ec
            cases ed : fi1 env2 with
            | none => rw [ed] at ec; cases ec
            | some ds1 =>
              rw [ed] at ec
              refine iteT ⟨env2, ds1, ed, K4, s4.sub, re2.mono s4.kx, fun J1 H5 K5 s5 it1 => ?_⟩
              exact walk_in K hsub1 s5.sub (re2.mono (s4.kx.trans s5.kx)) it1 (K.step _ _ _ _ _ _ r4 s5) ec fun H6 K6 c6 r6 => ⟨K6, a2, (c4.trans (Step.chg (D := D) s5)).trans c6, r6, hfi⟩
  · have e : i = ds.length := by omega
    subst e
    rw [List.drop_length] at hfi
    cases hfi
    refine .inl ⟨it.1 H2 exI, q D H2 K2 hDH ?_ ⟨fun a o h => ?_, s1.kx.trans c2.kx, c2.sub, fun a o h => ?_⟩ r2⟩
    · exact (c2.fr D _ upd_same).trans kD
    · have h1 := s1.ex a o h
      have hne : a ≠ D := fun z => by rw [z, hD] at h1; cases h1
      exact c2.ex a o hne (by rw [upd_ne hne]; exact h1)
    · have h1 := s1.ex a o h
      have hne : a ≠ D := fun z => by rw [z, hD] at h1; cases h1
      exact (c2.fr a o (by rw [upd_ne hne]; exact h1)).trans (s1.fr a o h)
end
end Ev
set_option maxHeartbeats 4000000
/-! Ev: a comprehension with one clause, any emit. -/
namespace Ev
open PySem PySem.Spec PyProof.Rows L2
structure One (e : Expr) (t0 i0 : Expr) (ifs0 : List Expr) (emit : PySem.Env → Value → Sem Unit) : Prop where
  cl : clausesOf e = [⟨t0, i0, ifs0, 0⟩]
  turn : ∀ (it acc : Value) (env : PySem.Env), compTurn e 0 it acc env = (do
      standAt i0.pos
      match ← pyNext it with
      | none => pure (.done .next)
      | some v =>
        letOwnedTupleGo t0 it v
        assign t0 env v
        let mut ok := true
        for c in ifs0 do
          if ok then ok ← isTrue c env (eval c env)
        if ok then
          emit env acc
        again (.compLoop e 0 it acc env))
theorem one_set (elt t0 i0 : Expr) (ifs0 : List Expr) (scope : Scope) (pos : Pos) : One (.SetComp elt [⟨t0, i0, ifs0, 0⟩] scope pos) t0 i0 ifs0 (emitS elt) := ⟨rfl, fun _ _ _ => rfl⟩
theorem one_dict (kx vx t0 i0 : Expr) (ifs0 : List Expr) (scope : Scope) (pos : Pos) : One (.DictComp kx vx [⟨t0, i0, ifs0, 0⟩] scope pos) t0 i0 ifs0 (emitD kx vx) := ⟨rfl, fun _ _ _ => rfl⟩
section
variable {prog : Program} {w : World} {A : Around} {R : Result → Shared → Prop} {s : Shared} {e t0 i0 : Expr} {ifs0 : List Expr} {it acc : Value} {env : PySem.Env} {emit : PySem.Env → Value → Sem Unit}
theorem loop1_any (C : Cmp e) (T : One e t0 i0 ifs0 emit) (I : Nat → Shared → Prop)
    (turn : ∀ n s, I n s → wpAny (model prog w) A (pyNext it) (fun r s₁ => match r with
      | none => R (.ok .next) s₁
      | some v => wpAny (model prog w) A (letOwnedTupleGo t0 it v) (fun _ s₁' => wpAny (model prog w) A (assign t0 env v) (fun _ s₂ =>
          wpAny (model prog w) A (forIn ifs0 true fun c r => if r = true then do let ok ← isTrue c env (eval c env); pure (ForInStep.yield ok) else pure (ForInStep.yield r)) (fun ok s₃ =>
            if ok = true then wpAny (model prog w) A (emit env acc) (fun _ s₅ => ∃ m, m < n ∧ I m s₅) (notedBy (model prog w) A env fun e s' => R (.error e) s') s₃
            else ∃ m, m < n ∧ I m s₃) (notedBy (model prog w) A env fun e s' => R (.error e) s') s₂) (notedBy (model prog w) A env fun e s' => R (.error e) s') s₁') (notedBy (model prog w) A env fun e s' => R (.error e) s') s₁) (notedBy (model prog w) A env fun e s' => R (.error e) s') s)
    (n : Nat) (h : I n s) : codeAny (model prog w) A (.compLoop e 0 it acc env) R s := by
  refine codeAny_loop rfl I (fun n s hI => ?_) n h
  rw [C.undL, C.denL]
  refine wpAny_noted ?_
  rw [T.turn]
  refine wpAny_bind (wpAny_standAt (wpAny_bind (wpAny_mono (turn n s hI) (fun r s₁ h₁ => ?_) fun _ _ h' => h')))
  cases r with
  | none => exact wpAny_pure h₁
  | some v =>
    refine wpAny_bind (wpAny_mono h₁ (fun _ s₁' h₁' => ?_) fun _ _ h' => h')
    refine wpAny_bind (wpAny_mono h₁' (fun _ s₂ h₂ => wpAny_bind (wpAny_mono h₂ (fun ok s₃ h₃ => ?_) fun _ _ h' => h')) fun _ _ h' => h')
    cases ok with
    | false => exact wpAny_pure ⟨rfl, h₃⟩
    | true => exact wpAny_bind (wpAny_mono h₃ (fun _ s₅ h₅ => wpAny_pure ⟨rfl, h₅⟩) fun _ _ h' => h')
end
def tC1 (o0 : Addr → HO) (wi : TI) (g : TG) (tt : TT) (ta : TAdd) (vs : List Nat) : TE := fun σ H Q => wi σ H fun J H1 => ∀ D, H1 D = none → ∃ W : Nat → Nat → Hp → Prop, (∃ m, W 0 m (upd H1 D (o0 D))) ∧ ∀ i m H, W i m H →
  (J.stop i H ∧ Q (.ref D) H) ∨ (J.go i H ∧ ∃ Nx : Hp → Prop, (∀ H', Nx H' → ∃ m', m' < m ∧ W (i + 1) m' H') ∧ ∀ x H', J.yld i H x H' → g x (wipe σ vs) H' fun σ2 H2 => wipe σ2 vs = wipe σ vs ∧ tt σ2 H2 fun b H3 =>
    if b = true then ta D σ2 H3 Nx else Nx H3)
section
variable {X : Cx}
theorem core1 {pins : List (Addr × Obj)} {s : Shared} {σ : L2.St} {H : Hp} {Q : VK} {e tg iter : Expr} {ifs : List Expr} {scope : Scope} {own : List (Str × Nat)} {pos' : Pos} {wi : TI} {g : TG} {tt : TT} {ta : TAdd} {use : Option (Value → Sem Unit)} {Qf : Value → Shared → Prop} {emit : PySem.Env → Value → Sem Unit} {newAcc : Sem Value} {ob : Obj} {o0 : Addr → HO}
    (C2 : Cmp e) (T2 : One e tg iter ifs emit) (hna : ∀ (A : Around) (E : Value → Shared → Prop) (s : Shared) (Q : Value → Shared → Prop), Q (.ref s.heap.objs.size) { s with heap := s.heap.push ob } → wpAny (model X.prog X.w) A newAcc Q E s)
    (hob : ∀ (H : Hp) (h : Heap), sysModules < h.objs.size → ObjOk X.prog X.w (upd H h.objs.size (o0 h.objs.size)) (h.push ob) h.objs.size (o0 h.objs.size))
    (hc : X.calm = true) (hN : X.N.Nodup) (I : Inv X pins σ H s) (hi : PI X tg iter wi) (ok : BlkOk X.N X.env.scope scope own)
    (hg : ∀ (s : Shared) (H : Hp) (C : Addr) (cl : List (Str × Addr)) (fp : List Addr), PG (X.blk s H scope (compEnvC scope cl C X.env) fp) tg g) (ht : ∀ (s : Shared) (H : Hp) (C : Addr) (cl : List (Str × Addr)) (fp : List Addr), PTs (X.blk s H scope (compEnvC scope cl C X.env) fp) ifs tt)
    (he : ∀ (s : Shared) (H : Hp) (C : Addr) (cl : List (Str × Addr)) (fp : List Addr), PAdd (X.blk s H scope (compEnvC scope cl C X.env) fp) emit ta) (hs : ∀ x, foldedSetIterable iter X.env x = pure x)
    (h : tC1 o0 wi g tt ta (own.map (·.2)) σ H Q)
    (hRR : ∀ D C s' m H', Inv X pins σ H' s' → Q (.ref D) H' → s'.heap.Ns C m → FpOk X pins H' C → compPost (model X.prog X.w) X.A X.xe use Qf (.ref D) C (.ok .next) s') :
    wpAny (model X.prog X.w) X.A (comprehension e scope X.env pos' newAcc false (eval iter X.env) use) Qf X.xe s := by
  have hfree : ∀ y ∈ scope.names, y.2 = .free → ∃ c, X.env.cells.lookup y.1 = some c := fun y hy e => by
    rcases ok.free y hy e with k | k
    · exact I.ok.has _ (.inl k)
    · exact I.ok.has _ (.inr k)
  refine wpAny_comprehension_free (use := use) T2.cl hs (closure_ok hfree) ok.kind (fun y hy e => by rw [ok.uniq y hy, e])
    (thn (hi.run pins s σ H _ I h) fun xv s1 hx => thn hx fun itv s2 h2 => ?_)
  obtain ⟨it, fp, tn, J, H2, e, I2, T, st2, f2, q⟩ := h2
  subst e
  refine hna _ _ _ _ (newEnv_comp ?_)
  generalize hD : s2.heap.objs.size = D
  have hDn : H2 D = none := I2.hok.fresh (Nat.le_of_eq hD)
  obtain ⟨W, ⟨m0, w0⟩, turn⟩ := q D hDn
  -- the new list
  generalize hs3 : ({ s2 with heap := s2.heap.push ob } : Shared) = s3
  have I3 : Inv X pins σ (upd H2 D (o0 D)) s3 := by
    rw [← hs3]
    refine I2.laid (t' := s2.toks) (fun b o e => Heap.get?_push_of_some _ e) (Nat.le_of_eq hD) ?_
    rw [← hD]
    exact hob H2 s2.heap I2.big
  have h3 : s3.heap = s2.heap.push ob := by rw [← hs3]
  have sz : ∀ b ∈ fp, b < s2.heap.objs.size := fun b hb => by
    obtain ⟨o, e, _⟩ := T.obj _ _ st2 b hb
    exact Heap.lt_size e
  have f3 : ∀ b ∈ fp, FpOk X pins (upd H2 D (o0 D)) b ∧ b < s3.heap.objs.size := fun b hb => by
    have hlt := sz b hb
    refine ⟨⟨?_, (f2 b hb).2⟩, by rw [h3, Heap.size_push]; exact Nat.lt_succ_of_lt hlt⟩
    rw [upd_ne (by rw [← hD]; exact Nat.ne_of_lt hlt)]
    exact (f2 b hb).1
  have st3 : tn 0 s3.heap := T.keep _ _ _ st2 fun b _ o e => by rw [h3]; exact Heap.get?_push_of_some _ e
  have I4 := block_start I3 ok hN f3
  have pg := hg s3 (upd H2 D (o0 D)) s3.heap.objs.size (cellsFrom (s3.heap.objs.size + 1) scope.names (cloFrom X.env.cells scope.names [])) fp
  have pt := ht s3 (upd H2 D (o0 D)) s3.heap.objs.size (cellsFrom (s3.heap.objs.size + 1) scope.names (cloFrom X.env.cells scope.names [])) fp
  have pe := he s3 (upd H2 D (o0 D)) s3.heap.objs.size (cellsFrom (s3.heap.objs.size + 1) scope.names (cloFrom X.env.cells scope.names [])) fp
  show codeAny _ _ (.compStart e 0 (.ref it) (.ref D) (compEnvC scope (cellsFrom (s3.heap.objs.size + 1) scope.names (cloFrom X.env.cells scope.names [])) s3.heap.objs.size X.env)) (compPost (model X.prog X.w) X.A X.xe use Qf (.ref D) s3.heap.objs.size) { s3 with heap := pushCells (s3.heap.push { cls := .type "dict", data := .dict #[] }) scope.names }
  have nfp : ∀ b ∈ fp, (upd H2 D (o0 D)) b = none := fun b hb => (f3 b hb).1.1
  generalize hce : compEnvC scope (cellsFrom (s3.heap.objs.size + 1) scope.names (cloFrom X.env.cells scope.names [])) s3.heap.objs.size X.env = ce at I4 pg pt pe ⊢
  have cL : ce.locals = s3.heap.objs.size := by subst hce; rfl
  generalize hH3 : upd H2 D (o0 D) = H3 at I3 I4 pg pt pe w0 nfp f3
  generalize hs4 : ({ s3 with heap := pushCells (s3.heap.push { cls := .type "dict", data := .dict #[] }) scope.names } : Shared) = s4 at I4 ⊢
  have st4 : tn 0 s4.heap := T.keep _ _ _ st3 fun b _ o e => by rw [← hs4]; exact pushCells_keeps _ _ _ _ (Heap.get?_push_of_some _ e)
  have stat : ∀ {σ' : L2.St} {H' : Hp} {s' : Shared}, Inv (X.blk s3 H3 scope ce fp) [] σ' H' s' → (∀ b ∈ fp, H' b = none) → ∀ b ∈ fp, FpOk (X.blk s3 H3 scope ce fp) [] H' b := fun {σ' H' s'} I' hn b hb =>
    ⟨hn b hb, (I'.ok.exf b hb).1, I'.ok.exfs b hb, .inl hb, fun x c e => (I'.ok.exf b hb).2 x c e, fun p hp => absurd (show p ∈ ([] : List (Addr × Obj)) ++ [] from hp) (by simp)⟩
  have loop : codeAny (model X.prog X.w) X.A (.compLoop e 0 (.ref it) (.ref D) ce) (compPost (model X.prog X.w) X.A X.xe use Qf (.ref D) s3.heap.objs.size) s4 := by
    refine loop1_any C2 T2 (fun n s' => ∃ i H', Inv (X.blk s3 H3 scope ce fp) [] (wipe σ (own.map (·.2))) H' s' ∧ tn i s'.heap ∧ (∀ b ∈ fp, H' b = none) ∧ W i n H') ?_ m0 ⟨0, H3, I4, st4, nfp, w0⟩
    rintro n s5 ⟨i, H5, I5, st5, n5, w5⟩
    rcases turn i n H5 w5 with ⟨stop, qq⟩ | ⟨go, Nx, hNx, step⟩
    · have td := T.done (X.blk s3 H3 scope ce fp) rfl rfl rfl hc i [] s5 _ H5 (fun _ _ => False) I5 (stat I5 n5) st5 stop
      refine thnF td fun r s6 ⟨hr, I6⟩ => ?_
      subst hr
      -- back in the def's context
      have I7 : Inv X pins σ H5 s6 := I3.call' (ch := fp) I6.os I6.base I6.hok I6.bare fun b hb => ⟨(f3 b hb).1.2.2.2.1, (f3 b hb).1.2.1, (f3 b hb).1.2.2.2.2.1, (f3 b hb).1.2.2.2.2.2⟩
      have nC : H5 s3.heap.objs.size = none := by
        have z : H5 ce.locals = none := I6.free
        rw [cL] at z
        exact z
      obtain ⟨m, hn, _⟩ := I6.loc
      have hn : s6.heap.Ns ce.locals m := hn
      rw [cL] at hn
      exact hRR D s3.heap.objs.size s6 m H5 I7 qq hn (I3.fpOk (Nat.le_refl _) nC)
    · have ti := T.item (X.blk s3 H3 scope ce fp) rfl rfl rfl hc i [] s5 _ H5 (fun _ _ => False) I5 (stat I5 n5) st5 go
      refine thnF ti fun r s6 ⟨u, hr, h6⟩ => ?_
      subst hr
      refine thnF h6 fun _ s7 ⟨x, H7, I7, r7, y7, st7, n7⟩ => ?_
      have I7' := I7.pinned (stat I7 n7) (T.obj _ _ st7)
      refine thnF (pg.run _ s7 _ H7 x u _ I7' r7 (step x H7 y7)) fun _ s8 ⟨σ8, H8, I8, hw8, q8⟩ => ?_
      refine thnF (pt.run _ s8 σ8 H8 _ I8 q8) fun b s9 ⟨H9, I9, q9⟩ => ?_
      -- the turn's end
      have fin : ∀ {s' : Shared} {H' : Hp}, Inv (X.blk s3 H3 scope ce fp) ([] ++ pinsAt fp s7.heap) σ8 H' s' → Nx H' → ∃ m, m < n ∧ ∃ i H', Inv (X.blk s3 H3 scope ce fp) [] (wipe σ (own.map (·.2))) H' s' ∧ tn i s'.heap ∧ (∀ b ∈ fp, H' b = none) ∧ W i m H' := fun {s' H'} I' nx => by
        obtain ⟨m', hm, w'⟩ := hNx H' nx
        have pin' : ∀ b ∈ fp, ∀ o, s7.heap.get? b = some o → s'.heap.get? b = some o ∧ H' b = none := fun b hb o e =>
          let z := I'.pin (b, o) (List.mem_append_right _ (List.mem_append_right _ (mem_pinsAt hb e)))
          ⟨z.1, z.2.1⟩
        have hl : (wipe σ (own.map (·.2))).length = σ8.length := by rw [← hw8, wipe_length]
        refine ⟨m', hm, i + 1, H', (I'.unpinned (pins := [])).weak hl (fun j v e => ?_), T.keep _ _ _ st7 fun b hb o e => (pin' b hb o e).1, fun b hb => ?_, w'⟩
        · rw [← hw8] at e
          exact (wipe_some e).1
        · obtain ⟨o, e, _⟩ := T.obj _ _ st7 b hb
          exact (pin' b hb o e).2
      cases b with
      | false =>
        simp only [Bool.false_eq_true, if_false] at q9 ⊢
        exact fin I9 q9
      | true =>
        simp only [if_true] at q9 ⊢
        exact thnF (pe _ s9 σ8 H9 _ D I9 q9) fun _ s10 ⟨H10, I10, nx⟩ => fin I10 nx
  exact start_any C2 (by rw [T2.cl]; rfl) rfl loop (T.self X.A 0 _ _ _ st4 loop)
end
section
variable {A : Type} {G : Gx} {o0 : Addr → HO} {a0 : A} {rep : A → Addr → Hp → Hp → Prop}
theorem c1_reads (K : Acc G A o0 a0 rep) {t : Tg} {ft : Env → Option Bool} {fa : Env → A → Option A} {env : Env} {vs : List Nat} {ds : List D} {a' : A} (hsub : ∀ i ∈ tgS t, i ∈ vs)
    (hf : foldC t ft fa (wipeE env vs) ds a0 = some a') (σ : St) (H : Hp) (Q : VK)
    (h : ∃ Kn, Ex Kn H ∧ RelE G Kn env σ ∧ ∀ D H' Kn', H D = none → Kn' D = none → Step H Kn H' Kn' → rep a' D H' Kn' → Q (.ref D) H') :
    tC1 o0 (tI G env ds) (tG G t) (tTs G ft) (tAddD G rep fa) vs σ H Q := by
  obtain ⟨Kn, ex, re, q⟩ := h
  refine ⟨Kn, ex, re, fun J H1 K1 s1 it D hD => ?_⟩
  have kD : K1 D = none := known_none s1.sub hD
  have hDH : H D = none := fresh_step s1 hD
  have ex1 : Ex K1 (upd H1 D (o0 D)) := fun a o h => by rw [upd_ne (fun z => by rw [z, kD] at h; cases h)]; exact s1.sub a o h
  have z0 := K.zero D H1 K1 s1.sub hD
  refine walk_in K hsub ex1 (re.mono s1.kx) it z0 hf fun H2 K2 c2 r2 => q D H2 K2 hDH ?_ ⟨fun a o h => ?_, s1.kx.trans c2.kx, c2.sub, fun a o h => ?_⟩ r2
  · exact (c2.fr D _ upd_same).trans kD
  · have h1 := s1.ex a o h
    have hne : a ≠ D := fun z => by rw [z, hD] at h1; cases h1
    exact c2.ex a o hne (by rw [upd_ne hne]; exact h1)
  · have h1 := s1.ex a o h
    have hne : a ≠ D := fun z => by rw [z, hD] at h1; cases h1
    exact (c2.fr a o (by rw [upd_ne hne]; exact h1)).trans (s1.fr a o h)
end
end Ev
set_option maxHeartbeats 4000000
/-! Ev: dicts that are gathered: keys that are texts and numbers; keys that are tuples. -/
namespace Ev
open PySem PySem.Spec PyProof.Rows L2
section
variable {κ : Type} [DecidableEq κ]
def repl : List κ → List D → κ → D → List D
  | k :: ks, v :: vs, x, y => (if k = x then y else v) :: repl ks vs x y
  | _, vs, _, _ => vs
def putL (keys : List κ) (ks vs : List D) (key : κ) (kd vd : D) : List D × List D := if key ∈ keys then (ks, repl keys vs key vd) else (ks ++ [kd], vs ++ [vd])
theorem repl_rel {G : Gx} {Kn : Hp} {α : Type} {key : κ} {vd : D} {y : V} (rd : RelD G Kn vd y) (fk : α → κ) (fv : α → V) (up : α → α) (hk : ∀ a, fk (up a) = fk a) (hv : ∀ a, fv (up a) = if fk a = key then y else fv a) : ∀ {xs : List α} {keys : List κ} {vs : List D}, xs.map fk = keys → RelDs G Kn vs (xs.map fv) → RelDs G Kn (repl keys vs key vd) ((xs.map up).map fv)
  | [], _, _, e, r => by subst e; cases r; exact .nil
  | x :: xs, _, v :: vs, e, r => by
    subst e
    cases r with
    | cons h t =>
      simp only [List.map_cons, repl]
      refine .cons ?_ (repl_rel rd fk fv up hk hv rfl t)
      rw [hv]
      by_cases hx : fk x = key
      · rw [if_pos hx, if_pos hx]; exact rd
      · rw [if_neg hx, if_neg hx]; exact h
  | _ :: _, _, [], _, r => by cases r
end
/-! ### texts and numbers -/
section
variable {G : Gx}
def repK (G : Gx) (p : List D × List D) (D : Addr) (H Kn : Hp) : Prop := ∃ kvs : List (Key × V), H D = some (.dK kvs) ∧ RelDs G Kn p.1 (kvs.map fun q => kV q.1) ∧ RelDs G Kn p.2 (kvs.map Prod.snd) ∧ keysD p.1 = some (kvs.map (·.1))
theorem accK : Acc G (List D × List D) (fun _ => .dK []) ([], []) (repK G) where
  zero := fun D H Kn _ _ => ⟨[], upd_same, .nil, .nil, rfl⟩
  step := fun a D H Kn H' Kn' ⟨kvs, h, r, q, k⟩ s => ⟨kvs, s.ex _ _ h, r.mono s.kx, q.mono s.kx, k⟩
  there := fun a D H Kn ⟨kvs, h, _⟩ => ⟨_, h⟩
def putKD (kd vd : D) (p : List D × List D) : Option (List D × List D) := match keyD kd, keysD p.1 with
  | some key, some keys => if p.1.length < 4096 then some (putL keys p.1 p.2 key kd vd) else none
  | _, _ => none
theorem keysD_append : ∀ {ds : List D} {ks : List Key} {d : D} {k : Key}, keysD ds = some ks → keyD d = some k → keysD (ds ++ [d]) = some (ks ++ [k])
  | [], _, d, k, h, e => by cases h; simp [keysD, e]
  | x :: ds, _, d, k, h, e => by
    simp only [keysD] at h
    cases e1 : keyD x with
    | none => rw [e1] at h; cases h
    | some a =>
      cases e2 : keysD ds with
      | none => rw [e1, e2] at h; cases h
      | some b =>
        rw [e1, e2] at h; cases h
        simp only [List.cons_append, keysD, e1, keysD_append e2 e]
theorem putKD_rel {kd vd : D} {ks vs : List D} {p' : List D × List D} {Kn : Hp} {kvs : List (Key × V)} {kv y : V} (h : putKD kd vd (ks, vs) = some p') (rk : RelDs G Kn ks (kvs.map fun q => kV q.1)) (rv : RelDs G Kn vs (kvs.map Prod.snd)) (hk : keysD ks = some (kvs.map (·.1))) (r1 : RelD G Kn kd kv) (r2 : RelD G Kn vd y) :
    ∃ key, kv = kV key ∧ kvs.length < sizeLine ∧ RelDs G Kn p'.1 ((putK kvs key y).map fun q => kV q.1) ∧ RelDs G Kn p'.2 ((putK kvs key y).map Prod.snd) ∧ keysD p'.1 = some ((putK kvs key y).map (·.1)) := by
  unfold putKD at h
  split at h
  · rename_i key keys h1 h2
    dsimp only at h2
    split at h
    · rename_i hl
      cases h
      rw [hk] at h2
      cases h2
      have hlen : kvs.length = ks.length := by have := rk.length; rw [List.length_map] at this; exact this.symm
      refine ⟨key, keyD_rel r1 h1, by dsimp only at hl; rw [sizeLine_eq]; omega, ?_⟩
      unfold putL putK
      have hany : (kvs.any fun kv => decide (kv.1 = key)) = true ↔ key ∈ kvs.map (·.1) := by
        rw [List.any_eq_true, List.mem_map]
        constructor
        · rintro ⟨x, hx, e⟩; exact ⟨x, hx, of_decide_eq_true e⟩
        · rintro ⟨x, hx, e⟩; exact ⟨x, hx, decide_eq_true e⟩
      by_cases hm : key ∈ kvs.map (·.1)
      · rw [if_pos hm, if_pos (hany.mpr hm)]
        have fst : ∀ q : Key × V, (if q.1 = key then (q.1, y) else q).1 = q.1 := fun q => by split <;> rfl
        have e1 : (kvs.map fun kv => if kv.1 = key then (kv.1, y) else kv).map (fun q => kV q.1) = kvs.map fun q => kV q.1 := by rw [List.map_map]; exact List.map_congr_left fun q _ => by show kV (if q.1 = key then (q.1, y) else q).1 = kV q.1; rw [fst]
        have e2 : (kvs.map fun kv => if kv.1 = key then (kv.1, y) else kv).map (·.1) = kvs.map (·.1) := by rw [List.map_map]; exact List.map_congr_left fun q _ => fst q
        refine ⟨by rw [e1]; exact rk, repl_rel r2 (·.1) Prod.snd _ fst (fun q => by split <;> rfl) rfl rv, by rw [e2]; exact hk⟩
      · rw [if_neg hm, if_neg (fun z => hm (hany.mp z))]
        simp only [List.map_append, List.map_cons, List.map_nil]
        refine ⟨rk.append (.cons (by rw [← keyD_rel r1 h1]; exact r1) .nil), rv.append (.cons r2 .nil), keysD_append hk h1⟩
    · cases h
  · cases h
end
/-! ### tuples -/
section
variable {G : Gx}
def repN (G : Gx) (p : List D × List D) (D : Addr) (H Kn : Hp) : Prop := ∃ xs : List (NestedKey × Addr × V), H D = some (DnO G.P G.w D xs) ∧ RelDs G Kn p.1 (xs.map fun q => V.ref q.2.1) ∧ nks p.1 = some (xs.map (·.1)) ∧ RelDs G Kn p.2 (xs.map (·.2.2))
theorem accN : Acc G (List D × List D) (fun D => DnO G.P G.w D []) ([], []) (repN G) where
  zero := fun D H Kn _ _ => ⟨[], upd_same, .nil, rfl, .nil⟩
  step := fun a D H Kn H' Kn' ⟨kvs, h, r, k, q⟩ s => ⟨kvs, s.ex _ _ h, r.mono s.kx, k, q.mono s.kx⟩
  there := fun a D H Kn ⟨kvs, h, _⟩ => ⟨_, h⟩
def putND (kd vd : D) (p : List D × List D) : Option (List D × List D) := match kd with
  | .tup _ => (match nk kd, nks p.1 with
    | some key, some keys => if p.1.length < 4096 ∧ key.depth ≤ 8 then some (putL keys p.1 p.2 key kd vd) else none
    | _, _ => none)
  | _ => none
theorem nks_append : ∀ {ds : List D} {ks : List NestedKey} {d : D} {k : NestedKey}, nks ds = some ks → nk d = some k → nks (ds ++ [d]) = some (ks ++ [k])
  | [], _, d, k, h, e => by cases h; simp [nks, e]
  | x :: ds, _, d, k, h, e => by
    simp only [nks] at h
    cases e1 : nk x with
    | none => rw [e1] at h; cases h
    | some a =>
      cases e2 : nks ds with
      | none => rw [e1, e2] at h; cases h
      | some b =>
        rw [e1, e2] at h; cases h
        simp only [List.cons_append, nks, e1, nks_append e2 e]
def storV (xs : List (NestedKey × Addr × V)) (key : NestedKey) (a : Addr) (y : V) : List (NestedKey × Addr × V) := if key ∈ xs.map (·.1) then xs.map (fun x => if x.1 = key then (x.1, x.2.1, y) else x) else xs ++ [(key, a, y)]
theorem putND_rel {kd vd : D} {ks vs : List D} {p' : List D × List D} {Kn : Hp} {xs : List (NestedKey × Addr × V)} {kv y : V} (h : putND kd vd (ks, vs) = some p') (rk : RelDs G Kn ks (xs.map fun q => V.ref q.2.1)) (hk : nks ks = some (xs.map (·.1))) (rv : RelDs G Kn vs (xs.map (·.2.2))) (r1 : RelD G Kn kd kv) (r2 : RelD G Kn vd y) :
    ∃ key a, kv = .ref a ∧ nk kd = some key ∧ key.depth ≤ 8 ∧ xs.length < 4096 ∧ RelDs G Kn p'.1 ((storV xs key a y).map fun q => V.ref q.2.1) ∧ nks p'.1 = some ((storV xs key a y).map (·.1)) ∧ RelDs G Kn p'.2 ((storV xs key a y).map (·.2.2)) := by
  unfold putND at h
  split at h
  · rename_i ds
    split at h
    · rename_i key keys h1 h2
      dsimp only at h2
      split at h
      · rename_i hl
        cases h
        rw [hk] at h2
        cases h2
        have hlen : xs.length = ks.length := by have := rk.length; rw [List.length_map] at this; exact this.symm
        obtain ⟨a, rfl⟩ : ∃ a, kv = V.ref a := by cases r1; exact ⟨_, rfl⟩
        refine ⟨key, a, rfl, h1, hl.2, by have := hl.1; dsimp only at this; omega, ?_⟩
        unfold putL storV
        by_cases hm : key ∈ xs.map (·.1)
        · rw [if_pos hm, if_pos hm]
          have f1 : ∀ q : NestedKey × Addr × V, (if q.1 = key then (q.1, q.2.1, y) else q).1 = q.1 := fun q => by split <;> rfl
          have f2 : ∀ q : NestedKey × Addr × V, (if q.1 = key then (q.1, q.2.1, y) else q).2.1 = q.2.1 := fun q => by split <;> rfl
          have e1 : (xs.map fun x => if x.1 = key then (x.1, x.2.1, y) else x).map (fun q => V.ref q.2.1) = xs.map fun q => V.ref q.2.1 := by rw [List.map_map]; exact List.map_congr_left fun q _ => by show V.ref (if q.1 = key then (q.1, q.2.1, y) else q).2.1 = V.ref q.2.1; rw [f2]
          have e2 : (xs.map fun x => if x.1 = key then (x.1, x.2.1, y) else x).map (·.1) = xs.map (·.1) := by rw [List.map_map]; exact List.map_congr_left fun q _ => f1 q
          exact ⟨by rw [e1]; exact rk, by rw [e2]; exact hk, repl_rel r2 (fun q : NestedKey × Addr × V => q.1) (fun q => q.2.2) _ f1 (fun q => by split <;> rfl) rfl rv⟩
        · rw [if_neg hm, if_neg hm]
          simp only [List.map_append, List.map_cons, List.map_nil]
          exact ⟨rk.append (.cons r1 .nil), nks_append hk h1, rv.append (.cons r2 .nil)⟩
      · cases h
    · cases h
  · cases h
/-- the store, as the library has it -/
theorem stor_pair {xs : List (NestedKey × Addr × V)} {ys : List (NestedKey × Addr × Value)} {key : NestedKey} {a : Addr} {y : V} {u : Value} (hp : Paired (fun (p : NestedKey × Addr × V) (q : NestedKey × Addr × Value) => p.1 = q.1 ∧ p.2.1 = q.2.1 ∧ L2.RelV p.2.2 q.2.2) xs ys) (ru : L2.RelV y u) :
    Paired (fun (p : NestedKey × Addr × V) (q : NestedKey × Addr × Value) => p.1 = q.1 ∧ p.2.1 = q.2.1 ∧ L2.RelV p.2.2 q.2.2) (storV xs key a y) (storedH ys key a u) := by
  have hm : key ∈ xs.map (·.1) ↔ (atKey ys key).isSome = true := by
    have e := (vals_refsN hp).2
    rw [e]
    unfold atKey
    rw [Option.isSome_map, List.find?_isSome, List.mem_map]
    constructor
    · rintro ⟨q, hq, e⟩; exact ⟨q, hq, by simpa using e⟩
    · rintro ⟨q, hq, e⟩; exact ⟨q, hq, by simpa using e⟩
  unfold storV storedH
  by_cases hk : key ∈ xs.map (·.1)
  · rw [if_pos hk, if_pos (hm.mp hk)]
    clear hm hk
    induction hp with
    | nil => exact .nil
    | @cons p q ps qs h t ih =>
      simp only [List.map_cons]
      refine .cons ?_ ih
      unfold putAt
      obtain ⟨h1, h2, h3⟩ := h
      by_cases hx : p.1 = key
      · rw [if_pos hx, if_pos (h1.symm.trans hx)]; exact ⟨h1, h2, ru⟩
      · rw [if_neg hx, if_neg (fun z => hx (h1.trans z))]; exact ⟨h1, h2, h3⟩
  · rw [if_neg hk, if_neg (fun z => hk (hm.mpr z))]
    clear hm hk
    induction hp with
    | nil => exact .cons ⟨rfl, rfl, ru⟩ .nil
    | cons h t ih => exact .cons h ih
end
end Ev
set_option maxHeartbeats 4000000
/-! Ev: dict comprehensions by data; d[k] = v; xs.append(x). -/
namespace Ev
open PySem PySem.Spec PyProof.Rows L2
section
variable {X : Cx} {G : Gx} {mg : Str → Option Value} {base : Heap} {k : Nat} {pins : List (Addr × Obj)} {σ : St} {s : Shared}
/-- d[k] = v, k a tuple: by dictSet -/
theorem n_write {D : Addr} {xs : List (NestedKey × Addr × V)} {H : Hp} {ys : List (NestedKey × Addr × Value)} {key : NestedKey} {a : Addr} {y : V} {u : Value} {h' : Heap} {tk : Nat} (gd : Gd X G mg base k) (I : Inv X pins σ H s) (hD : H D = some (DnO G.P G.w D xs)) (hs : (D == sysModules) = false) (hp : Paired (fun (p : NestedKey × Addr × V) (q : NestedKey × Addr × Value) => p.1 = q.1 ∧ p.2.1 = q.2.1 ∧ L2.RelV p.2.2 q.2.2) xs ys)
    (ru : L2.RelV y u) (dep : ∀ z ∈ ys, z.1.depth ≤ 8) (hk8 : key.depth ≤ 8) (hm : h'.DictOfH (nestedKind G.P G.w) D (storedH ys key a u)) (sb : Heap.SameBut D s.heap h') : Inv X pins σ (upd H D (DnO G.P G.w D (storV xs key a y))) { s with heap := h', toks := tk } := by
  obtain ⟨o, es, ep, ho, hx, hd, hes, _, nd⟩ := hm
  refine d_write I (by rw [hD]; exact True.intro) sb ⟨o, ho⟩ ⟨⟨hs, storedH ys key a u, stor_pair hp ru, o, es, ep, ho, hx, hd, hes, nd, fun z hz => ?_⟩, ⟨o, ho⟩, fun h1 h2 ⟨w1, zs, w2, o2, es2, ep2, w3, w4⟩ k2 => ⟨w1, zs, w2, o2, es2, ep2, k2 _ w3, w4⟩⟩
  unfold storedH at hz
  split at hz
  · obtain ⟨z', hz', rfl⟩ := List.mem_map.mp hz
    unfold putAt
    split <;> exact dep z' hz'
  · rcases List.mem_append.mp hz with q | q
    · exact dep z q
    · rw [List.mem_singleton.mp q]; exact hk8
theorem relD_nest {Kn H : Hp} {d : D} {a : Addr} {key : NestedKey} (gd : Gd X G mg base k) (I : Inv X pins σ H s) (ex : Ex Kn H) (r : RelD G Kn d (.ref a)) (h : nk d = some key) (h8 : key.depth ≤ 8) : (nestedKind G.P G.w).is s.heap key a := ⟨r.nest gd.hK I ex h (show L2.RelV (.ref a) (.ref a) from rfl), h8⟩
theorem chg_upd {D : Addr} {H Kn : Hp} {o : HO} (ex : Ex Kn H) (k : Kn D = none) : Chg D H Kn (upd H D o) Kn :=
  ⟨fun a u ha h => by rw [upd_ne ha]; exact h, Evl.Ex.refl _, fun a u h => by rw [upd_ne (fun z => by rw [z, k] at h; cases h)]; exact ex a u h, fun _ _ _ => rfl, fun _ _ => ⟨_, upd_same⟩⟩
end
section
variable {X : Cx} {G : Gx} {mg : Str → Option Value} {base : Heap} {k : Nat} {kx vx : Expr}
def faD (put : D → D → List D × List D → Option (List D × List D)) (fk fv : Env → Option D) : Env → List D × List D → Option (List D × List D) := fun env p => match fk env, fv env with
  | some kd, some vd => put kd vd p
  | _, _ => none
/-- with the thing at D unknown -/
def hid (rep : List D × List D → Addr → Hp → Hp → Prop) : List D × List D → Addr → Hp → Hp → Prop := fun p D H Kn => Kn D = none ∧ rep p D H Kn
theorem acc_hid {A : Type} {G : Gx} {o0 : Addr → HO} {a0 : A} {rep : A → Addr → Hp → Hp → Prop} (K : Acc G A o0 a0 rep) : Acc G A o0 a0 (fun p D H Kn => Kn D = none ∧ rep p D H Kn) where
  zero := fun D H Kn ex hD => ⟨known_none ex hD, K.zero D H Kn ex hD⟩
  step := fun a D H Kn H' Kn' ⟨h, r⟩ s => by
    obtain ⟨o, ho⟩ := K.there a D H Kn r
    exact ⟨(s.fr D o ho).trans h, K.step a D H Kn H' Kn' r s⟩
  there := fun a D H Kn ⟨_, r⟩ => K.there a D H Kn r
theorem padd_K {fk fv : Env → Option D} (gd : Gd X G mg base k) (hk : SD X G kx fk) (hv : SD X G vx fv) : PAdd X (emitD kx vx) (tAddD G (hid (repK G)) (faD putKD fk fv)) := fun pins s σ H Q D I ⟨env, a, a2, Kn, hfa, ex, re, hr, q⟩ => by
  unfold faD at hfa
  split at hfa
  · rename_i kd vd h1 h2
    unfold emitD
    refine wpAny_bind (thn ((hk _ _ h1).run pins s σ H (fun v H1 => ∃ K1, Step H Kn H1 K1 ∧ RelD G K1 kd v) I ⟨Kn, ex, re, fun v H1 K1 s1 r1 => ⟨K1, s1, r1⟩⟩) fun kv s1 ⟨x, H1, I1, rx, K1, st1, r1⟩ => ?_)
    refine wpAny_bind (wpAny_holding (thn ((hv _ _ h2).run pins s1 σ H1 (fun v H2 => ∃ K2, Step H1 K1 H2 K2 ∧ RelD G K2 vd v) I1 ⟨K1, st1.sub, re.mono st1.kx, fun v H2 K2 s2 r2 => ⟨K2, s2, r2⟩⟩) fun vv s2 ⟨y, H2, I2, ry, K2, st2, r2⟩ => ?_))
    have st := st1.trans st2
    obtain ⟨hkD, kvs, hD, rk, rv, hks⟩ := (acc_hid accK).step a D H Kn H2 K2 hr st
    obtain ⟨key, e, hz, a1, a2', a3⟩ := putKD_rel hfa rk rv hks (r1.mono st2.kx) r2
    subst e
    refine wpAny_bind (wpAny_standAt (wpAny_holding (d_dictSet I2 hD hz rx ry fun s3 I3 => ⟨_, I3, q _ K2 ((Step.chg st).trans (chg_upd st.sub hkD)) ⟨hkD, _, upd_same, a1, a2', a3⟩⟩)))
  · cases hfa
theorem padd_N {fk fv : Env → Option D} (gd : Gd X G mg base k) (hk : SD X G kx fk) (hv : SD X G vx fv) : PAdd X (emitD kx vx) (tAddD G (hid (repN G)) (faD putND fk fv)) := fun pins s σ H Q D I ⟨env, a, a2, Kn, hfa, ex, re, hr, q⟩ => by
  unfold faD at hfa
  split at hfa
  · rename_i kd vd h1 h2
    unfold emitD
    refine wpAny_bind (thn ((hk _ _ h1).run pins s σ H (fun v H1 => ∃ K1, Step H Kn H1 K1 ∧ RelD G K1 kd v) I ⟨Kn, ex, re, fun v H1 K1 s1 r1 => ⟨K1, s1, r1⟩⟩) fun kv s1 ⟨x, H1, I1, rx, K1, st1, r1⟩ => ?_)
    refine wpAny_bind (wpAny_holding (thn ((hv _ _ h2).run pins s1 σ H1 (fun v H2 => ∃ K2, Step H1 K1 H2 K2 ∧ RelD G K2 vd v) I1 ⟨K1, st1.sub, re.mono st1.kx, fun v H2 K2 s2 r2 => ⟨K2, s2, r2⟩⟩) fun vv s2 ⟨y, H2, I2, ry, K2, st2, r2⟩ => ?_))
    have st := st1.trans st2
    obtain ⟨hkD, xs, hD, rk, hks, rv⟩ := (acc_hid accN).step a D H Kn H2 K2 hr st
    obtain ⟨key, b, e, hnk, h8, hz, a1, a2', a3⟩ := putND_rel hfa rk hks rv (r1.mono st2.kx) r2
    subst e
    cases (show kv = Value.ref b from rx)
    obtain ⟨hdn, _⟩ := I2.hok D _ hD
    obtain ⟨hsm, ys, hp, hm, dep⟩ := dctN_at gd.hK I2 st.sub hdn rk hks
    have hkey := relD_nest gd I2 st.sub (r1.mono st2.kx) hnk h8
    rw [← gd.hP, ← gd.hw] at hm hkey
    refine wpAny_bind (wpAny_standAt (wpAny_holding (wpAny_dictSet_heap (hsz := by have := Paired.length hp; rw [sizeLine_eq]; omega) (show (nestedKind X.prog X.w).room X.A from by have := gd.hr.units; show X.A.units + 8 < cLine; omega) hkey hm fun h' hm' sb => ?_)))
    rw [gd.hP, gd.hw] at hm'
    exact ⟨_, n_write gd I2 hD hsm hp ry dep h8 hm' sb, q _ K2 ((Step.chg st).trans (chg_upd st.sub hkD)) ⟨hkD, _, upd_same, a1, a2', a3⟩⟩
  · cases hfa
end
end Ev
set_option maxHeartbeats 4000000
/-! Ev: comprehensions as values and in assignments, by data. -/
namespace Ev
open PySem PySem.Spec PyProof.Rows L2

/-- the kinds of comprehensions: how the new thing is made -/
structure Mkr (X : Cx) (e : Expr) (scope : Scope) (iter : Expr) (newAcc : Sem Value) (ob : Obj) (o0 : Addr → HO) : Prop where
  ev : ∃ p, eval e X.env = comprehension e scope X.env p newAcc false (eval iter X.env)
  us : ∃ p, ∀ use, evalThenUse e X.env use = (do let _ ← comprehension e scope X.env p newAcc false (eval iter X.env) (some use))
  na : ∀ (A : Around) (E : Value → Shared → Prop) (s : Shared) (Q : Value → Shared → Prop), Q (.ref s.heap.objs.size) { s with heap := s.heap.push ob } → wpAny (model X.prog X.w) A newAcc Q E s
  ob : ∀ (H : Hp) (h : Heap), sysModules < h.objs.size → ObjOk X.prog X.w (upd H h.objs.size (o0 h.objs.size)) (h.push ob) h.objs.size (o0 h.objs.size)
section
variable {X : Cx} {e tg iter tg1 iter1 : Expr} {ifs ifs1 : List Expr} {scope : Scope} {own : List (Str × Nat)} {vs1 : List Nat} {wi wi1 : TI} {g g1 : TG} {tt tt1 : TT} {ta : TAdd} {emit : PySem.Env → Value → Sem Unit} {newAcc : Sem Value} {ob : Obj} {o0 : Addr → HO}
theorem pe_c1 (C2 : Cmp e) (T2 : One e tg iter ifs emit) (M : Mkr X e scope iter newAcc ob o0) (hc : X.calm = true) (hN : X.N.Nodup) (hi : PI X tg iter wi) (ok : BlkOk X.N X.env.scope scope own)
    (hg : ∀ (s : Shared) (H : Hp) (C : Addr) (cl : List (Str × Addr)) (fp : List Addr), PG (X.blk s H scope (compEnvC scope cl C X.env) fp) tg g) (ht : ∀ (s : Shared) (H : Hp) (C : Addr) (cl : List (Str × Addr)) (fp : List Addr), PTs (X.blk s H scope (compEnvC scope cl C X.env) fp) ifs tt)
    (he : ∀ (s : Shared) (H : Hp) (C : Addr) (cl : List (Str × Addr)) (fp : List Addr), PAdd (X.blk s H scope (compEnvC scope cl C X.env) fp) emit ta) (hs : ∀ x, foldedSetIterable iter X.env x = pure x) : PE X e (tC1 o0 wi g tt ta (own.map (·.2))) := by
  refine ⟨fun pins s σ H Q I h => ?_⟩
  obtain ⟨p, ev⟩ := M.ev
  rw [ev]
  refine core1 C2 T2 M.na M.ob hc hN I hi ok hg ht he hs h fun D C s' m H' I' q hn f => ⟨m, hn, fun h'' sb => ?_⟩
  obtain ⟨f0, f1, f2, f3, f4, f5⟩ := f
  exact ⟨.ref D, H', I'.turned (t' := s'.toks) (fun b o hb e => (sb.2 b hb).trans e) f0 f1 f3 f4 f5, rfl, q⟩
theorem pe_c2 (C2 : Cmp e) (T2 : Two e tg iter tg1 iter1 ifs ifs1 emit) (M : Mkr X e scope iter newAcc ob o0) (hc : X.calm = true) (hN : X.N.Nodup) (hi : PI X tg iter wi) (ok : BlkOk X.N X.env.scope scope own) (hv : ∀ i ∈ vs1, i ∈ own.map (·.2))
    (hg : ∀ (s : Shared) (H : Hp) (C : Addr) (cl : List (Str × Addr)) (fp : List Addr), PG (X.blk s H scope (compEnvC scope cl C X.env) fp) tg g) (ht : ∀ (s : Shared) (H : Hp) (C : Addr) (cl : List (Str × Addr)) (fp : List Addr), PTs (X.blk s H scope (compEnvC scope cl C X.env) fp) ifs tt)
    (hi1 : ∀ (s : Shared) (H : Hp) (C : Addr) (cl : List (Str × Addr)) (fp : List Addr), PI (X.blk s H scope (compEnvC scope cl C X.env) fp) tg1 iter1 wi1)
    (hg1 : ∀ (s : Shared) (H : Hp) (C : Addr) (cl : List (Str × Addr)) (fp : List Addr), PG (X.blk s H scope (compEnvC scope cl C X.env) fp) tg1 g1) (ht1 : ∀ (s : Shared) (H : Hp) (C : Addr) (cl : List (Str × Addr)) (fp : List Addr), PTs (X.blk s H scope (compEnvC scope cl C X.env) fp) ifs1 tt1)
    (he : ∀ (s : Shared) (H : Hp) (C : Addr) (cl : List (Str × Addr)) (fp : List Addr), PAdd (X.blk s H scope (compEnvC scope cl C X.env) fp) emit ta) (hs : ∀ x, foldedSetIterable iter X.env x = pure x) (hs1 : ∀ env x, foldedSetIterable iter1 env x = pure x) : PE X e (tC2 o0 wi g tt wi1 g1 tt1 ta (own.map (·.2)) vs1) := by
  refine ⟨fun pins s σ H Q I h => ?_⟩
  obtain ⟨p, ev⟩ := M.ev
  rw [ev]
  refine core2 C2 T2 M.na M.ob hc hN I hi ok hv hg ht he hs hi1 hg1 ht1 hs1 h fun D C s' m H' I' q hn f => ⟨m, hn, fun h'' sb => ?_⟩
  obtain ⟨f0, f1, f2, f3, f4, f5⟩ := f
  exact ⟨.ref D, H', I'.turned (t' := s'.toks) (fun b o hb e => (sb.2 b hb).trans e) f0 f1 f3 f4 f5, rfl, q⟩
/-- x = the comprehension, on one line: what remains behind it -/
theorem used_end {i : Nat} {y : Str} {py spos : Pos} {pins : List (Addr × Obj)} {σ : L2.St} {D : Ends} (hN : X.N.Nodup) (hy : X.N[i]? = some y) (hyl : X.env.scope.names.lookup y = some .local) (L C : Addr) (s' : Shared) (m : Str → Option Value) (H' : Hp) (I' : Inv X pins σ H' s') (q : D.nx (σ.set i (some (.ref L))) H') (hn : s'.heap.Ns C m) (f : FpOk X pins H' C) :
    compPost (model X.prog X.w) X.A X.xe (some (assign (.Name y py) X.env)) (fun _ s' => SP X pins D .next s') (.ref L) C (.ok .next) s' := by
  show wpAny _ _ (assign (.Name y py) X.env (.ref L)) _ _ _
  refine wpAny_assign_Name (store_ok2 (v := V.ref L) I' hN hy (.inl hyl) rfl (fun s2 I2 ⟨a, sb, ha⟩ => ?_) (.inr hyl))
  obtain ⟨f0, f1, f2, f3, f4, f5⟩ := f
  have haC : C ≠ a := by
    rcases ha with z | z
    · rw [z]; exact f1
    · exact fun e => f4 y a z e.symm
  refine ⟨m, hn.sameBut sb haC, fun h3 sb3 => ?_⟩
  exact ⟨_, H', I2.turned (t' := s2.toks) (fun b o hb e => (sb3.2 b hb).trans e) f0 f1 f3 f4 f5, q⟩
theorem ps_c1 {i : Nat} {y : Str} {py spos : Pos} (C2 : Cmp e) (T2 : One e tg iter ifs emit) (M : Mkr X e scope iter newAcc ob o0) (hc : X.calm = true) (hN : X.N.Nodup) (hy : X.N[i]? = some y) (hyl : X.env.scope.names.lookup y = some .local) (hsw : swapsWith e (some (.Name y py)) spos.line X.env = pure true) (hi : PI X tg iter wi) (ok : BlkOk X.N X.env.scope scope own)
    (hg : ∀ (s : Shared) (H : Hp) (C : Addr) (cl : List (Str × Addr)) (fp : List Addr), PG (X.blk s H scope (compEnvC scope cl C X.env) fp) tg g) (ht : ∀ (s : Shared) (H : Hp) (C : Addr) (cl : List (Str × Addr)) (fp : List Addr), PTs (X.blk s H scope (compEnvC scope cl C X.env) fp) ifs tt)
    (he : ∀ (s : Shared) (H : Hp) (C : Addr) (cl : List (Str × Addr)) (fp : List Addr), PAdd (X.blk s H scope (compEnvC scope cl C X.env) fp) emit ta) (hs : ∀ x, foldedSetIterable iter X.env x = pure x) : PS X (.Assign [.Name y py] e spos) (tAsg (tC1 o0 wi g tt ta (own.map (·.2))) (gName i)) := by
  refine ⟨fun pins s σ H D I h => ?_⟩
  obtain ⟨p, us⟩ := M.us
  rw [exec_Assign_Name_used _ _ _ _ hsw, us]
  refine wpAny_bind (wpAny_standAt (wpAny_bind (wpAny_bind ?_)))
  have h : tC1 o0 wi g tt ta (own.map (·.2)) σ H (fun x H1 => gName i x σ H1 D.nx) := h
  exact thn (core1 (Qf := fun _ s' => SP X pins D .next s') C2 T2 M.na M.ob hc hN I hi ok hg ht he hs h fun L C s' m H' I' q hn f => used_end (spos := spos) hN hy hyl L C s' m H' I' q hn f) fun _ s' hq => wpAny_pure (wpAny_pure hq)
theorem ps_c2 {i : Nat} {y : Str} {py spos : Pos} (C2 : Cmp e) (T2 : Two e tg iter tg1 iter1 ifs ifs1 emit) (M : Mkr X e scope iter newAcc ob o0) (hc : X.calm = true) (hN : X.N.Nodup) (hy : X.N[i]? = some y) (hyl : X.env.scope.names.lookup y = some .local) (hsw : swapsWith e (some (.Name y py)) spos.line X.env = pure true) (hi : PI X tg iter wi) (ok : BlkOk X.N X.env.scope scope own) (hv : ∀ i ∈ vs1, i ∈ own.map (·.2))
    (hg : ∀ (s : Shared) (H : Hp) (C : Addr) (cl : List (Str × Addr)) (fp : List Addr), PG (X.blk s H scope (compEnvC scope cl C X.env) fp) tg g) (ht : ∀ (s : Shared) (H : Hp) (C : Addr) (cl : List (Str × Addr)) (fp : List Addr), PTs (X.blk s H scope (compEnvC scope cl C X.env) fp) ifs tt)
    (hi1 : ∀ (s : Shared) (H : Hp) (C : Addr) (cl : List (Str × Addr)) (fp : List Addr), PI (X.blk s H scope (compEnvC scope cl C X.env) fp) tg1 iter1 wi1)
    (hg1 : ∀ (s : Shared) (H : Hp) (C : Addr) (cl : List (Str × Addr)) (fp : List Addr), PG (X.blk s H scope (compEnvC scope cl C X.env) fp) tg1 g1) (ht1 : ∀ (s : Shared) (H : Hp) (C : Addr) (cl : List (Str × Addr)) (fp : List Addr), PTs (X.blk s H scope (compEnvC scope cl C X.env) fp) ifs1 tt1)
    (he : ∀ (s : Shared) (H : Hp) (C : Addr) (cl : List (Str × Addr)) (fp : List Addr), PAdd (X.blk s H scope (compEnvC scope cl C X.env) fp) emit ta) (hs : ∀ x, foldedSetIterable iter X.env x = pure x) (hs1 : ∀ env x, foldedSetIterable iter1 env x = pure x) : PS X (.Assign [.Name y py] e spos) (tAsg (tC2 o0 wi g tt wi1 g1 tt1 ta (own.map (·.2)) vs1) (gName i)) := by
  refine ⟨fun pins s σ H D I h => ?_⟩
  obtain ⟨p, us⟩ := M.us
  rw [exec_Assign_Name_used _ _ _ _ hsw, us]
  refine wpAny_bind (wpAny_standAt (wpAny_bind (wpAny_bind ?_)))
  have h : tC2 o0 wi g tt wi1 g1 tt1 ta (own.map (·.2)) vs1 σ H (fun x H1 => gName i x σ H1 D.nx) := h
  exact thn (core2 (Qf := fun _ s' => SP X pins D .next s') C2 T2 M.na M.ob hc hN I hi ok hv hg ht he hs hi1 hg1 ht1 hs1 h fun L C s' m H' I' q hn f => used_end (spos := spos) hN hy hyl L C s' m H' I' q hn f) fun _ s' hq => wpAny_pure (wpAny_pure hq)
end
/-! ### lists -/
def emitL (elt : Expr) : PySem.Env → Value → Sem Unit := fun env acc => do let _ ← call (.builtin "list.append") [acc, ← eval elt env]
theorem one_list (elt t0 i0 : Expr) (ifs0 : List Expr) (scope : Scope) (pos : Pos) : One (.ListComp elt [⟨t0, i0, ifs0, 0⟩] scope pos) t0 i0 ifs0 (emitL elt) := ⟨rfl, fun _ _ _ => rfl⟩
theorem two_list (elt t0 i0 t1 i1 : Expr) (ifs0 ifs1 : List Expr) (scope : Scope) (pos : Pos) : Two (.ListComp elt [⟨t0, i0, ifs0, 0⟩, ⟨t1, i1, ifs1, 0⟩] scope pos) t0 i0 t1 i1 ifs0 ifs1 (emitL elt) := ⟨rfl, fun _ _ _ => rfl, fun _ _ _ => rfl⟩
theorem cmp_list (elt : Expr) (gs : List Comprehension) (scope : Scope) (pos : Pos) : Cmp (.ListComp elt gs scope pos) := ⟨fun _ _ _ _ _ _ => rfl, fun _ _ _ _ _ _ => rfl, fun _ _ _ _ _ => rfl, fun _ _ _ _ _ => rfl⟩
section
variable {X : Cx} {G : Gx} {mg : Str → Option Value} {base : Heap} {k : Nat} {elt : Expr}
def repL (G : Gx) (ds : List D) (D : Addr) (H Kn : Hp) : Prop := ∃ xs, H D = some (.lst xs) ∧ RelDs G Kn ds xs
theorem accL : Acc G (List D) (fun _ => .lst []) [] (repL G) where
  zero := fun D H Kn _ _ => ⟨[], upd_same, .nil⟩
  step := fun a D H Kn H' Kn' ⟨xs, h, r⟩ s => ⟨xs, s.ex _ _ h, r.mono s.kx⟩
  there := fun a D H Kn ⟨xs, h, _⟩ => ⟨_, h⟩
def faL (fe : Env → Option D) : Env → List D → Option (List D) := fun env ds => match fe env with
  | some d => if ds.length < 4096 then some (ds ++ [d]) else none
  | none => none
theorem padd_L {fe : Env → Option D} (he : SD X G elt fe) : PAdd X (emitL elt) (tAddD G (fun p D H Kn => Kn D = none ∧ repL G p D H Kn) (faL fe)) := fun pins s σ H Q D I ⟨env, a, a2, Kn, hfa, ex, re, hr, q⟩ => by
  unfold faL at hfa
  split at hfa
  · rename_i d h1
    split at hfa
    · rename_i hl
      cases hfa
      unfold emitL
      refine wpAny_bind (thn ((he _ _ h1).run pins s σ H (fun v H1 => ∃ K1, Step H Kn H1 K1 ∧ RelD G K1 d v) I ⟨Kn, ex, re, fun v H1 K1 s1 r1 => ⟨K1, s1, r1⟩⟩) fun kv s1 ⟨x, H1, I1, rx, K1, st1, r1⟩ => ?_)
      obtain ⟨hkD, xs, hD, rr⟩ := (acc_hid accL).step a D H Kn H1 K1 hr st1
      refine wpAny_bind (app_ok I1 hD (by have := rr.length; rw [sizeLine_eq]; omega) rx fun s2 I2 => wpAny_pure ⟨_, I2, q _ K1 ((Step.chg st1).trans (chg_upd st1.sub hkD)) ⟨hkD, _, upd_same, rr.append (.cons r1 .nil)⟩⟩)
    · cases hfa
  · cases hfa
end
end Ev
set_option maxHeartbeats 4000000
/-! Ev: comprehensions of lists and dicts, the rules. -/
namespace Ev
open PySem PySem.Spec PyProof.Rows L2
def STs (X : Cx) (G : Gx) (ifs : List Expr) (f : Env → Option Bool) : Prop := ∀ env b, f env = some b → PTs X ifs (tTst G env b)
section
variable {X : Cx} {G : Gx} {e : Expr}
def tYs : Env → Option Bool := fun _ => some true
theorem STs.nil : STs X G [] tYs := fun env b h => by
  cases h
  exact ⟨fun pins s σ H Q I ⟨Kn, ex, re, q⟩ => pts_nil.run pins s σ H Q I (q H Kn (Step.refl ex))⟩
theorem STs.one {f : Env → Option Bool} (h : ST X G e f) : STs X G [e] f := fun env b q => pts_one (h env b q)
end
section
variable {X : Cx} {G : Gx} {mg : Str → Option Value} {base : Heap} {k : Nat} {A : Type} {o0 : Addr → HO} {a0 : A} {rep : A → Addr → Hp → Hp → Prop} {e tg iter tg1 iter1 : Expr} {ifs ifs1 : List Expr} {scope : Scope} {own : List (Str × Nat)} {vs1 : List Nat} {emit : PySem.Env → Value → Sem Unit} {newAcc : Sem Value} {ob : Obj} {t t1 : Tg} {ft f1 : Env → Option Bool} {fi fi1 : Env → Option (List D)} {fa : Env → A → Option A} {out : A → D} {E : XK}
def cC1 (fi : Env → Option (List D)) (t : Tg) (ft : Env → Option Bool) (fa : Env → A → Option A) (vs : List Nat) (a0 : A) : Env → Option A := fun env => match fi env with
  | none => none
  | some ds => foldC t ft fa (wipeE env vs) ds a0
def outD (out : A → D) (f : Env → Option A) : Env → Option D := fun env => (f env).map out
/-- the reading of a comprehension: the new thing stands for a -/
def tA (G : Gx) (rep : A → Addr → Hp → Hp → Prop) (env : Env) (a : A) : TE := fun σ H Q => ∃ Kn, Ex Kn H ∧ RelE G Kn env σ ∧ ∀ D H' Kn', H D = none → Kn' D = none → Step H Kn H' Kn' → rep a D H' Kn' → Q (.ref D) H'
def SC (X : Cx) (G : Gx) (rep : A → Addr → Hp → Hp → Prop) (e : Expr) (f : Env → Option A) : Prop := ∀ env a, f env = some a → PE X e (tA G rep env a)
theorem SC.sf {f : Env → Option A} (h : SC X G rep e f) (ow : ∀ a D H Kn, rep a D H Kn → Own G Kn H D (out a)) : SF X G e (outD out f) := fun env d q => by
  unfold outD at q
  cases e1 : f env with
  | none => rw [e1] at q; cases q
  | some a =>
    rw [e1] at q; cases q
    exact PE.weak (h env a e1) fun σ H Q ⟨Kn, ex, re, q⟩ => ⟨Kn, ex, re, fun D H' K' h1 h2 s r => q D H' K' s h1 h2 (ow _ _ _ _ r)⟩
theorem SC.one (K : Acc G A o0 a0 rep) (gd : Gd X G mg base k) (C2 : Cmp e) (T2 : One e tg iter ifs emit) (M : Mkr X e scope iter newAcc ob o0) (hi : SI X G tg iter fi) (ok : BlkOk X.N X.env.scope scope own) (hsub : ∀ i ∈ tgS t, i ∈ own.map (·.2))
    (hg : ∀ (s : Shared) (H : Hp) (C : Addr) (cl : List (Str × Addr)) (fp : List Addr), PG (X.blk s H scope (compEnvC scope cl C X.env) fp) tg (tG G t)) (ht : ∀ (s : Shared) (H : Hp) (C : Addr) (cl : List (Str × Addr)) (fp : List Addr), STs (X.blk s H scope (compEnvC scope cl C X.env) fp) G ifs ft)
    (he : ∀ (s : Shared) (H : Hp) (C : Addr) (cl : List (Str × Addr)) (fp : List Addr), PAdd (X.blk s H scope (compEnvC scope cl C X.env) fp) emit (tAddD G rep fa)) (hs : ∀ x, foldedSetIterable iter X.env x = pure x) : SC X G rep e (cC1 fi t ft fa (own.map (·.2)) a0) := fun env a q => by
  unfold cC1 at q
  cases e1 : fi env with
  | none => rw [e1] at q; cases q
  | some ds =>
    rw [e1] at q
    exact PE.weak (pe_c1 C2 T2 M gd.hc gd.hN (hi env ds e1) ok hg (fun s H C cl fp => PTs.any (ht s H C cl fp)) he hs) fun σ H Q h => c1_reads K hsub q σ H Q h
theorem SC.two (K : Acc G A o0 a0 rep) (gd : Gd X G mg base k) (C2 : Cmp e) (T2 : Two e tg iter tg1 iter1 ifs ifs1 emit) (M : Mkr X e scope iter newAcc ob o0) (hi : SI X G tg iter fi) (ok : BlkOk X.N X.env.scope scope own) (hsub : ∀ i ∈ tgS t, i ∈ own.map (·.2)) (hsub1 : ∀ i ∈ tgS t1, i ∈ vs1) (hv : ∀ i ∈ vs1, i ∈ own.map (·.2))
    (hg : ∀ (s : Shared) (H : Hp) (C : Addr) (cl : List (Str × Addr)) (fp : List Addr), PG (X.blk s H scope (compEnvC scope cl C X.env) fp) tg (tG G t)) (ht : ∀ (s : Shared) (H : Hp) (C : Addr) (cl : List (Str × Addr)) (fp : List Addr), STs (X.blk s H scope (compEnvC scope cl C X.env) fp) G ifs ft)
    (hi1 : ∀ (s : Shared) (H : Hp) (C : Addr) (cl : List (Str × Addr)) (fp : List Addr), SI (X.blk s H scope (compEnvC scope cl C X.env) fp) G tg1 iter1 fi1)
    (hg1 : ∀ (s : Shared) (H : Hp) (C : Addr) (cl : List (Str × Addr)) (fp : List Addr), PG (X.blk s H scope (compEnvC scope cl C X.env) fp) tg1 (tG G t1)) (ht1 : ∀ (s : Shared) (H : Hp) (C : Addr) (cl : List (Str × Addr)) (fp : List Addr), STs (X.blk s H scope (compEnvC scope cl C X.env) fp) G ifs1 f1)
    (he : ∀ (s : Shared) (H : Hp) (C : Addr) (cl : List (Str × Addr)) (fp : List Addr), PAdd (X.blk s H scope (compEnvC scope cl C X.env) fp) emit (tAddD G rep fa)) (hs : ∀ x, foldedSetIterable iter X.env x = pure x) (hs1 : ∀ env x, foldedSetIterable iter1 env x = pure x) : SC X G rep e (cC1 fi t ft (body2 fi1 t1 f1 fa vs1) (own.map (·.2)) a0) := fun env a q => by
  unfold cC1 at q
  cases e1 : fi env with
  | none => rw [e1] at q; cases q
  | some ds =>
    rw [e1] at q
    exact PE.weak (pe_c2 C2 T2 M gd.hc gd.hN (hi env ds e1) ok hv hg (fun s H C cl fp => PTs.any (ht s H C cl fp)) (fun s H C cl fp => PI.any (hi1 s H C cl fp)) hg1 (fun s H C cl fp => PTs.any (ht1 s H C cl fp)) he hs hs1) fun σ H Q h => c2_reads K hsub hsub1 q σ H Q h
/-! in assignments -/
def gOwnA (i : Nat) (out : A → D) (f : Env → Option A) : EnvS → Option O := fun env => (f (see env)).map fun a => .nx (env.set i (.ow (out a)))
theorem SS.one {i : Nat} {y : Str} {py spos : Pos} (K : Acc G A o0 a0 rep) (ow : ∀ a D H Kn, rep a D H Kn → Own G Kn H D (out a)) (gd : Gd X G mg base k) (C2 : Cmp e) (T2 : One e tg iter ifs emit) (M : Mkr X e scope iter newAcc ob o0) (hy : X.N[i]? = some y) (hyl : X.env.scope.names.lookup y = some .local) (hsw : swapsWith e (some (.Name y py)) spos.line X.env = pure true) (hi : SI X G tg iter fi) (ok : BlkOk X.N X.env.scope scope own) (hsub : ∀ i ∈ tgS t, i ∈ own.map (·.2))
    (hg : ∀ (s : Shared) (H : Hp) (C : Addr) (cl : List (Str × Addr)) (fp : List Addr), PG (X.blk s H scope (compEnvC scope cl C X.env) fp) tg (tG G t)) (ht : ∀ (s : Shared) (H : Hp) (C : Addr) (cl : List (Str × Addr)) (fp : List Addr), STs (X.blk s H scope (compEnvC scope cl C X.env) fp) G ifs ft)
    (he : ∀ (s : Shared) (H : Hp) (C : Addr) (cl : List (Str × Addr)) (fp : List Addr), PAdd (X.blk s H scope (compEnvC scope cl C X.env) fp) emit (tAddD G rep fa)) (hs : ∀ x, foldedSetIterable iter X.env x = pure x) : SS X G E (.Assign [.Name y py] e spos) (gOwnA i out (cC1 fi t ft fa (own.map (·.2)) a0)) := fun H0 K0 env o q => by
  unfold gOwnA cC1 at q
  cases e1 : fi (see env) with
  | none => rw [e1] at q; cases q
  | some ds =>
    rw [e1] at q
    dsimp only at q
    cases e2 : foldC t ft fa (wipeE (see env) (own.map (·.2))) ds a0 with
    | none => rw [e2] at q; cases q
    | some a =>
      rw [e2] at q; cases q
      exact PS.weak (ps_c1 C2 T2 M gd.hc gd.hN hy hyl hsw (hi _ ds e1) ok hg (fun s H C cl fp => PTs.any (ht s H C cl fp)) he hs) fun D σ H ⟨⟨Kn, r⟩, q⟩ => c1_reads K hsub e2 σ H _ ⟨Kn, r.st.sub, r.relE, fun L H' K' h1 h2 s rp => q _ H' K' (r.putOwn s h1 h2 (ow _ _ _ _ rp))⟩
theorem SS.two {i : Nat} {y : Str} {py spos : Pos} (K : Acc G A o0 a0 rep) (ow : ∀ a D H Kn, rep a D H Kn → Own G Kn H D (out a)) (gd : Gd X G mg base k) (C2 : Cmp e) (T2 : Two e tg iter tg1 iter1 ifs ifs1 emit) (M : Mkr X e scope iter newAcc ob o0) (hy : X.N[i]? = some y) (hyl : X.env.scope.names.lookup y = some .local) (hsw : swapsWith e (some (.Name y py)) spos.line X.env = pure true) (hi : SI X G tg iter fi) (ok : BlkOk X.N X.env.scope scope own) (hsub : ∀ i ∈ tgS t, i ∈ own.map (·.2)) (hsub1 : ∀ i ∈ tgS t1, i ∈ vs1) (hv : ∀ i ∈ vs1, i ∈ own.map (·.2))
    (hg : ∀ (s : Shared) (H : Hp) (C : Addr) (cl : List (Str × Addr)) (fp : List Addr), PG (X.blk s H scope (compEnvC scope cl C X.env) fp) tg (tG G t)) (ht : ∀ (s : Shared) (H : Hp) (C : Addr) (cl : List (Str × Addr)) (fp : List Addr), STs (X.blk s H scope (compEnvC scope cl C X.env) fp) G ifs ft)
    (hi1 : ∀ (s : Shared) (H : Hp) (C : Addr) (cl : List (Str × Addr)) (fp : List Addr), SI (X.blk s H scope (compEnvC scope cl C X.env) fp) G tg1 iter1 fi1)
    (hg1 : ∀ (s : Shared) (H : Hp) (C : Addr) (cl : List (Str × Addr)) (fp : List Addr), PG (X.blk s H scope (compEnvC scope cl C X.env) fp) tg1 (tG G t1)) (ht1 : ∀ (s : Shared) (H : Hp) (C : Addr) (cl : List (Str × Addr)) (fp : List Addr), STs (X.blk s H scope (compEnvC scope cl C X.env) fp) G ifs1 f1)
    (he : ∀ (s : Shared) (H : Hp) (C : Addr) (cl : List (Str × Addr)) (fp : List Addr), PAdd (X.blk s H scope (compEnvC scope cl C X.env) fp) emit (tAddD G rep fa)) (hs : ∀ x, foldedSetIterable iter X.env x = pure x) (hs1 : ∀ env x, foldedSetIterable iter1 env x = pure x) : SS X G E (.Assign [.Name y py] e spos) (gOwnA i out (cC1 fi t ft (body2 fi1 t1 f1 fa vs1) (own.map (·.2)) a0)) := fun H0 K0 env o q => by
  unfold gOwnA cC1 at q
  cases e1 : fi (see env) with
  | none => rw [e1] at q; cases q
  | some ds =>
    rw [e1] at q
    dsimp only at q
    cases e2 : foldC t ft (body2 fi1 t1 f1 fa vs1) (wipeE (see env) (own.map (·.2))) ds a0 with
    | none => rw [e2] at q; cases q
    | some a =>
      rw [e2] at q; cases q
      exact PS.weak (ps_c2 C2 T2 M gd.hc gd.hN hy hyl hsw (hi _ ds e1) ok hv hg (fun s H C cl fp => PTs.any (ht s H C cl fp)) (fun s H C cl fp => PI.any (hi1 s H C cl fp)) hg1 (fun s H C cl fp => PTs.any (ht1 s H C cl fp)) he hs hs1) fun D σ H ⟨⟨Kn, r⟩, q⟩ => c2_reads K hsub hsub1 e2 σ H _ ⟨Kn, r.st.sub, r.relE, fun L H' K' h1 h2 s rp => q _ H' K' (r.putOwn s h1 h2 (ow _ _ _ _ rp))⟩
end
/-! ### what is made -/
section
variable {X : Cx} {G : Gx} {mg : Str → Option Value} {base : Heap} {k : Nat} {elt kx vx tg iter : Expr} {ifs : List Expr} {gs : List Comprehension} {scope : Scope} {pos : Pos}
theorem mkr_list : Mkr X (.ListComp elt (⟨tg, iter, ifs, 0⟩ :: gs) scope pos) scope iter (newList []) { cls := .type "list", data := .seq ([] : List Value).toArray } (fun _ => .lst []) where
  ev := ⟨firstIterPos (⟨tg, iter, ifs, 0⟩ :: gs) pos, rfl⟩
  us := ⟨firstIterPos (⟨tg, iter, ifs, 0⟩ :: gs) pos, fun use => rfl⟩
  na := fun A E s Q h => wpAny_newObj_type h (by show 0 ≤ sizeLine; decide)
  ob := fun H h hb => ⟨Nat.zero_le _, [], 0, .nil, Heap.get?_push_size _ rfl⟩
theorem mkr_dict : Mkr X (.DictComp kx vx (⟨tg, iter, ifs, 0⟩ :: gs) scope pos) scope iter newDict { cls := .type "dict", data := .dict #[] } (fun _ => .dK []) where
  ev := ⟨firstIterPos (⟨tg, iter, ifs, 0⟩ :: gs) pos, rfl⟩
  us := ⟨firstIterPos (⟨tg, iter, ifs, 0⟩ :: gs) pos, fun use => rfl⟩
  na := fun A E s Q h => wpAny_newObj_type h
  ob := fun H h hb => dk_empty h hb
theorem mkr_dictN (gd : Gd X G mg base k) : Mkr X (.DictComp kx vx (⟨tg, iter, ifs, 0⟩ :: gs) scope pos) scope iter newDict { cls := .type "dict", data := .dict #[] } (fun D => DnO G.P G.w D []) where
  ev := ⟨firstIterPos (⟨tg, iter, ifs, 0⟩ :: gs) pos, rfl⟩
  us := ⟨firstIterPos (⟨tg, iter, ifs, 0⟩ :: gs) pos, fun use => rfl⟩
  na := fun A E s Q h => wpAny_newObj_type h
  ob := fun H h hb => ⟨⟨by have : h.objs.size ≠ sysModules := Nat.ne_of_gt hb; simpa using this, [], .nil, _, #[], 0, Heap.get?_push_size _ rfl, ⟨rfl, rfl, rfl⟩, rfl, rfl, .nil, fun y hy => nomatch hy⟩, ⟨_, Heap.get?_push_size _ rfl⟩, fun h1 h2 ⟨w1, zs, w2, o2, es2, ep2, w3, w4⟩ k2 => ⟨w1, zs, w2, o2, es2, ep2, k2 _ w3, w4⟩⟩
theorem own_L {G : Gx} : ∀ (a : List D) (D : Addr) (H Kn : Hp), (Kn D = none ∧ repL G a D H Kn) → Own G Kn H D (.lst a) := fun a D H Kn ⟨_, xs, h, r⟩ => .lst h r
theorem own_K {G : Gx} : ∀ (a : List D × List D) (D : Addr) (H Kn : Hp), hid (repK G) a D H Kn → Own G Kn H D (.dct a.1 a.2) := fun a D H Kn ⟨_, kvs, h, r, q, _⟩ => .dctK h r q
theorem own_N {G : Gx} : ∀ (a : List D × List D) (D : Addr) (H Kn : Hp), hid (repN G) a D H Kn → Own G Kn H D (.dct a.1 a.2) := fun a D H Kn ⟨_, xs, h, r, k, q⟩ => .dctN h r k q
end
end Ev
set_option maxHeartbeats 4000000
/-! Ev: sets of texts and numbers. -/
namespace Ev
open PySem PySem.Spec PyProof.Rows L2
def keyM (e : Int × Value) : Key := match e.2 with
  | .int i _ => .inl i
  | .str x _ => .inr x
  | _ => .inl 0
def GoodM (P : Program) (w : World) (e : Int × Value) : Prop := ∃ k, L2.RelV (kV k) e.2 ∧ e.1 = (mixKind P w).hash k
theorem keyM_of {k : Key} {u : Value} {h : Int} (r : L2.RelV (kV k) u) : keyM (h, u) = k := by
  cases k with
  | inl i => obtain ⟨t, rfl⟩ := (show ∃ t, u = Value.int i t from r); rfl
  | inr x => obtain ⟨t, rfl⟩ := (show ∃ t, u = Value.str x t from r); rfl
theorem keyM_good {P : Program} {w : World} {e : Int × Value} (g : GoodM P w e) : L2.RelV (kV (keyM e)) e.2 := by
  obtain ⟨k, r, _⟩ := g
  have := keyM_of (h := e.1) r
  rw [show keyM e = k from this]
  exact r
/-- a set at a: its members' keys -/
def SetM (P : Program) (w : World) (h : Heap) (a : Addr) (S : Key → Bool) (n : Nat) : Prop :=
  ∃ o es ep t, h.get? a = some o ∧ o.ExactSet ∧ o.data = .set es ep t ∧ (∀ e ∈ es.toList, GoodM P w e) ∧ (es.toList.map keyM).Nodup ∧ (∀ k, S k = true ↔ k ∈ es.toList.map keyM) ∧
    es.size < scanBound ∧ t.fits es.size = true ∧ es.size = n ∧ Ris t.place.toList ∧ (w.params.followText "set-order" = true ∨ t.led = true)
section
variable {P : Program} {w : World}
theorem goodM_elems {l : List (Int × Value)} (g : ∀ e ∈ l, GoodM P w e) : ElemsOf (mixKind P w) l := fun e he => by
  obtain ⟨k, r, h2⟩ := g e he
  exact ⟨⟨k, kV_is r, h2⟩, key_scan r⟩
theorem goodM_is {e : Int × Value} (g : GoodM P w e) (k : Key) : (mixKind P w).is k e.2 = true ↔ keyM e = k := by
  constructor
  · intro h
    exact keyM_of (h := e.1) (keyIs_rel h)
  · intro h
    subst h
    exact kV_is (keyM_good g)
theorem goodM_mem {l : List (Int × Value)} (g : ∀ e ∈ l, GoodM P w e) (k : Key) : k ∈ l.map keyM ↔ ∃ e ∈ l, (mixKind P w).is k e.2 = true := by
  rw [List.mem_map]
  constructor
  · rintro ⟨e, he, q⟩
    exact ⟨e, he, (goodM_is (g e he) k).2 q⟩
  · rintro ⟨e, he, q⟩
    exact ⟨e, he, (goodM_is (g e he) k).1 q⟩
end
section
variable {P : Program} {w : World} {A : Around} {E : Value → Shared → Prop} {s : Shared} {a : Addr} {S : Key → Bool} {n : Nat}
theorem setM_tail {g : Bool → Sem Unit} (hg : ∀ (b : Bool) (s₁ : Shared) (Q' : Unit → Shared → Prop), Q' () s₁ → wpAny (model P w) A (g b) Q' E s₁)
    {o : Obj} {es : Array (Int × Value)} {ep : Nat} {t : SetTable} (ho : s.heap.get? a = some o) (hex : o.ExactSet) (hd : o.data = .set es ep t)
    {es1 : Array (Int × Value)} {t2 : SetTable} {S' : Key → Bool} (g1 : ∀ e ∈ es1.toList, GoodM P w e) (nd1 : (es1.toList.map keyM).Nodup) (m1 : ∀ k, S' k = true ↔ k ∈ es1.toList.map keyM)
    (hb1 : es1.size < scanBound) (hf2 : t2.fits es1.size = true) (hr : Ris t2.place.toList) (hl : w.params.followText "set-order" = true ∨ t2.led = true) {wasDummy : Bool} {R : Option Bool → Shared → Prop}
    (hR : ∀ h', Heap.SameBut a s.heap h' → SetM P w h' a S' es1.size → R (some true) { s with heap := h' }) :
    wpAny (model P w) A (do
        storeSet a es1 t2
        if (!wasDummy && t2.tooFull) = true then do
            g (relayAll t2 es1 (SetTable.grown es1.size)).2.2
            storeSet a (relayAll t2 es1 (SetTable.grown es1.size)).1 (relayAll t2 es1 (SetTable.grown es1.size)).2.1
            pure (some true)
          else pure (some true)) R E s := by
  refine wpAny_bind (wpAny_storeSet_of ho hd ?_ (fits_of_scanBound hb1))
  have ho1 := store_at (es' := es1) (t' := t2) ho hd
  have sb1 := Heap.SameBut.update s.heap a (Obj.putSet es1 t2)
  split
  · have pm := relayAll_perm t2 es1 (SetTable.grown es1.size)
    have hf3 := relayAll_fits t2 es1 (SetTable.grown es1.size)
    have hr3 := relayAll_ris t2 es1 (SetTable.grown es1.size)
    have hl3 := relayAll_led t2 es1 (SetTable.grown es1.size)
    generalize relayAll t2 es1 (SetTable.grown es1.size) = Z at pm hf3 hr3 hl3 ⊢
    obtain ⟨es2, t3, gave⟩ := Z
    dsimp only at pm hf3 hr3 hl3 ⊢
    have hsz : es2.size = es1.size := by rw [← Array.length_toList, pm.length_eq, Array.length_toList]
    have hb2 : es2.size < scanBound := by rw [hsz]; exact hb1
    refine wpAny_bind (hg _ _ _ ?_)
    refine wpAny_bind (wpAny_storeSet_of ho1 rfl ?_ (fits_of_scanBound hb2))
    have ho2 := store_at (es' := es2) (t' := t3) ho1 rfl
    refine wpAny_pure (hR _ (sb1.trans (Heap.SameBut.update _ a _)) ?_)
    exact ⟨_, es2, _, t3, ho2, hex, rfl, fun e he => g1 e (pm.mem_iff.mp he), (pm.map keyM).nodup_iff.mpr nd1, fun k => (m1 k).trans (pm.map keyM).mem_iff.symm, hb2, hf3, hsz, hr3,
      hl.imp id fun z => by rw [hl3]; exact z⟩
  · exact wpAny_pure (hR _ sb1 ⟨_, es1, _, t2, ho1, hex, rfl, g1, nd1, m1, hb1, hf2, rfl, hr, hl⟩)

theorem setM_hashed {k : Key} {u : Value} (hu : L2.RelV (kV k) u) {Q : Bool → Shared → Prop} (R : SetM P w s.heap a S n) (room : n + 1 < scanBound)
    (hQ : ∀ h', Heap.SameBut a s.heap h' → SetM P w h' a (fun j => S j || decide (j = k)) (if S k = true then n else n + 1) → Q (!S k) { s with heap := h' }) :
    wpAny (model P w) A (setAddHashed a u ((mixKind P w).hash k)) Q E s := by
  obtain ⟨o, es, ep, t, ho, hex, hd, g, nd, hm, hb, hf, hn, hr, hl⟩ := R
  have hkey : (mixKind P w).is k u = true := kV_is hu
  have hsc : u.scannable = true := key_scan hu
  have hel : ElemsOf (mixKind P w) es.toList := goodM_elems g
  unfold setAddHashed setAddHashedIn
  refine wpAny_holding (wpAny_bind (wpAny_setState_of ho hd hf ?_))
  dsimp only
  rw [byScan_of hsc hb hel]
  simp only [↓reduceIte]
  unfold setAddByScan
  refine wpAny_bind ?_
  refine wpAny_bind (wpAny_rule ?_)
  refine wpAny_bind (wpAny_setScan_of hkey ho hd hf hel ?_)
  cases hfi : List.findIdx? (fun e => (mixKind P w).is k e.2) es.toList with
  | some j =>
    dsimp only
    obtain ⟨hj, pj, _⟩ := List.findIdx?_eq_some_iff_getElem.mp hfi
    have hSk : S k = true := (hm k).2 ((goodM_mem g k).2 ⟨es.toList[j], List.getElem_mem hj, pj⟩)
    refine wpAny_pure (wpAny_pure ?_)
    have q := hQ s.heap (Heap.SameBut.refl a s.heap) ⟨o, es, ep, t, ho, hex, hd, g, nd, fun i => by
      rw [Bool.or_eq_true, decide_eq_true_eq, ← hm i]
      exact ⟨fun z => z.elim id (fun e => e ▸ hSk), .inl⟩, hb, hf, by rw [if_pos hSk]; exact hn, hr, hl⟩
    rw [hSk] at q
    exact q
  | none =>
    dsimp only
    have hnk : k ∉ es.toList.map keyM := fun z => by
      obtain ⟨e, he, q⟩ := (goodM_mem g k).1 z
      have c := List.findIdx?_eq_none_iff.mp hfi e he
      rw [q] at c
      cases c
    have hSk : S k = false := by
      cases q : S k with
      | false => rfl
      | true => exact absurd ((hm k).1 q) hnk
    have hgw : ∀ (b : Bool) {s₁ : Shared} {Q' : Unit → Shared → Prop}, Q' () s₁ → wpAny (model P w) A (match b with | true => rule "set.scan.the-table-gave-way" | false => pure ()) Q' E s₁ :=
      fun b s₁ Q' q => by cases b <;> first | exact wpAny_pure q | exact wpAny_rule q
    have pm := layNew_perm t es ((mixKind P w).hash k) u
    have hf1 := layNew_fits t es ((mixKind P w).hash k) u
    have hr1 := layNew_ris t es ((mixKind P w).hash k) u hr
    have hl1 := layNew_led t es ((mixKind P w).hash k) u
    generalize layNew t es ((mixKind P w).hash k) u = Z at pm hf1 hr1 hl1 ⊢
    obtain ⟨es1, t1, wasDummy, gave⟩ := Z
    dsimp only at pm hf1 hr1 hl1 ⊢
    rw [Array.toList_push] at pm
    have pc : es1.toList.Perm (((mixKind P w).hash k, u) :: es.toList) := pm.trans (List.perm_append_singleton _ _)
    have pk : (es1.toList.map keyM).Perm (k :: es.toList.map keyM) := by have z := pc.map keyM; rw [List.map_cons, keyM_of hu] at z; exact z
    have g1 : ∀ e ∈ es1.toList, GoodM P w e := fun e he => by
      rcases List.mem_cons.mp (pc.mem_iff.mp he) with z | z
      · rw [z]; exact ⟨k, hu, rfl⟩
      · exact g e z
    have nd1 : (es1.toList.map keyM).Nodup := pk.nodup_iff.mpr (List.nodup_cons.mpr ⟨hnk, nd⟩)
    have m1 : ∀ i, (S i || decide (i = k)) = true ↔ i ∈ es1.toList.map keyM := fun i => by
      rw [Bool.or_eq_true, decide_eq_true_eq, hm i, pk.mem_iff, List.mem_cons]
      exact Or.comm
    have hsz : es1.size = n + 1 := by rw [← Array.length_toList, pc.length_eq, List.length_cons, Array.length_toList, hn]
    have hb1 : es1.size < scanBound := by rw [hsz]; exact room
    have hled : w.params.followText "set-order" = true ∨ t1.led = true := hl.imp id fun z => by rw [hl1]; exact z
    have fin : ∀ h', Heap.SameBut a s.heap h' → SetM P w h' a (fun j => S j || decide (j = k)) es1.size → Q true { s with heap := h' } := fun h' sb r => by
      have q := hQ h' sb
      rw [hSk] at q
      rw [hsz] at r
      exact q r
    refine wpAny_bind (hgw _ ?_)
    split
    · refine wpAny_bind ?_
      rw [hashByValue_scannable 8 hsc]
      refine wpAny_pure ?_
      refine setM_tail ?_ ho hex hd g1 nd1 m1 hb1 ?_ ?_ ?_ ?_
      · intro b s₁ Q' q; cases b <;> first | exact wpAny_pure q | exact wpAny_rule q
      · first | (split <;> first | exact hf1 | exact SetTable.fits_plain_off hf1) | exact hf1
      · first | (split <;> exact hr1) | exact hr1
      · first | (split <;> exact hled) | exact hled
      · intro h' sb r; dsimp only; exact wpAny_pure (fin h' sb r)
    · refine wpAny_bind (wpAny_pure ?_)
      simp only [↓reduceIte]
      refine setM_tail ?_ ho hex hd g1 nd1 m1 hb1 hf1 hr1 hled ?_
      · intro b s₁ Q' q; cases b <;> first | exact wpAny_pure q | exact wpAny_rule q
      · intro h' sb r; dsimp only; exact wpAny_pure (fin h' sb r)
end
end Ev
set_option maxHeartbeats 4000000
/-! Ev: sets of texts and numbers by data: {..}, sorted, len. -/
namespace Ev
open PySem PySem.Spec PyProof.Rows L2
/-- sorted whatever the order was -/
theorem srtD_perm {ds ds' ys : List D} (h : srtD ds = some ys) (hp : ds'.Perm ds) : Srt ds' ys := by
  have S := srtD_ok h
  have pl : ∀ {x : PyData}, x ∈ ds'.map encD → x ∈ ds.map encD := fun {x} hx => (hp.map encD).mem_iff.mp hx
  refine ⟨fun x hx => S.ok x (hp.mem_iff.mp hx), fun d hd d' hd' => S.al d (pl hd) d' (pl hd'), ?_, by rw [hp.length_eq]; exact S.len, ?_⟩
  · rcases S.so with z | z
    · exact .inl fun d hd => z d (pl hd)
    · exact .inr fun d hd => z d (pl hd)
  · unfold srtD at h
    dsimp only at h
    split at h
    · rename_i hc
      cases h
      simp only [Bool.and_eq_true, List.all_eq_true, decide_eq_true_eq, Bool.or_eq_true] at hc
      obtain ⟨⟨⟨_, h2⟩, _⟩, _⟩ := hc
      have pw2 := pairLt_pw h2
      have lts : ∀ y z, evLt y z = some true → PySem.W.dataLt (encD y) (encD z) = true := fun y z e => (evLt_enc e).2.2.2.2.2.symm
      have tot := PySem.W.sortLe_total (listOrd itemOrd) false fun d => PySem.W.keyToks (encD d)
      have pw1 := PySem.W.sort_pairwise tot ds'
      have pw3 := PySem.W.sort_pairwise tot ds
      rw [← S.ms]
      have e : isort ds = ds.mergeSort (PySem.W.dataLe false encD) := S.ms.symm
      have p12 : (ds'.mergeSort (PySem.W.dataLe false encD)).Perm (ds.mergeSort (PySem.W.dataLe false encD)) := ((List.mergeSort_perm ds' _).trans hp).trans (List.mergeSort_perm ds _).symm
      refine List.Perm.eq_of_pairwise (le := fun a b => PySem.W.dataLe false encD a b = true) (fun a b ha hb h1 h2 => ?_) pw1 pw3 p12
      have ha' : a ∈ isort ds := by rw [e]; exact p12.mem_iff.mp ha
      have hb' : b ∈ isort ds := by rw [e]; exact hb
      rcases pw_any pw2 ha' hb' with z | z | z
      · exact z
      · exfalso
        have t' : (!PySem.W.dataLt (encD a) (encD b)) = true := h2
        rw [lts a b z] at t'
        cases t'
      · exfalso
        have t' : (!PySem.W.dataLt (encD b) (encD a)) = true := h1
        rw [lts b a z] at t'
        cases t'
    · cases h
section
variable {P : Program} {w : World} {A : Around} {E : Value → Shared → Prop} {s : Shared} {a : Addr} {S : Key → Bool} {n : Nat}
theorem SetM.at {h h' : Heap} (R : SetM P w h a S n) (k : ∀ o, h.get? a = some o → h'.get? a = some o) : SetM P w h' a S n := by
  obtain ⟨o, es, ep, t, ho, r⟩ := R
  exact ⟨o, es, ep, t, k o ho, r⟩
theorem SetM.setOf {h : Heap} (R : SetM P w h a S n) : h.SetOf (mixKind P w) a S n := by
  obtain ⟨o, es, ep, t, ho, hx, hd, g, nd, hm, hb, hf, hn, _⟩ := R
  exact ⟨o, es, ep, t, ho, hx, hd, goodM_elems g, fun k => (hm k).trans (goodM_mem g k), hb, hf, hn⟩
theorem SetM.congr {h : Heap} {S' : Key → Bool} {n' : Nat} (R : SetM P w h a S n) (e : ∀ k, S' k = S k) (en : n = n') : SetM P w h a S' n' := by
  have q : S' = S := funext e
  subst q; subst en; exact R
theorem setM_add {k : Key} {u : Value} {Q : Value → Shared → Prop} (hu : L2.RelV (kV k) u) (R : SetM P w s.heap a S n) (room : n + 1 < scanBound)
    (hQ : ∀ h' tk, Heap.SameBut a s.heap h' → SetM P w h' a (fun j => S j || decide (j = k)) (if S k = true then n else n + 1) → Q .none { s with heap := h', toks := tk }) :
    wpAny (model P w) A (call (.builtin "set.add") [.ref a, u]) Q E s := by
  have hS : s.heap.SetOf (mixKind P w) a S n := R.setOf
  refine wpAny_call_entry F.slot_set_add hS.typeIs F.entry_set_add ?_ (F.args_set_add_2 _ _)
  unfold Builtin.«set.add» Builtin.Frozenset.oneOther
  simp only [List.isEmpty_nil, bind_assoc]
  unfold Builtin.Frozenset.addrOf setAdd
  refine wpAny_bind (wpAny_pure ?_)
  try dsimp only
  refine wpAny_bind (wpAny_pure ?_)
  try dsimp only
  refine wpAny_bind ?_
  refine wpAny_holding ?_
  refine wpAny_bind ((mixKind P w).pyHash (kV_is hu) ?_)
  refine setM_hashed (s := { s with toks := s.toks + 1 }) hu R room fun h' sb r => ?_
  show wpAny _ _ (ret Value.none) _ _ _
  exact wpAny_pure ⟨_, rfl, hQ h' _ sb r⟩
theorem setM_fresh {h : Heap} : SetM P w (h.push { cls := .type "set", dict := none, data := .set #[] 0 (.fresh 0 0 (!w.params.followText "set-order")) }) h.objs.size (fun _ => false) 0 :=
  ⟨_, #[], 0, _, Heap.get?_push_size _ rfl, ⟨rfl, rfl, rfl⟩, rfl, (fun e he => by simp at he), (by simp), (fun k => by simp), (by decide), (by rfl), rfl, List.Pairwise.nil, by
    show _ ∨ (!w.params.followText "set-order") = true
    cases w.params.followText "set-order"
    · exact .inr rfl
    · exact .inl rfl⟩
end
/-! ### by data -/
def inK (k : Key) (ks : List Key) : Bool := ks.any fun x => decide (x = k)
theorem inK_iff {k : Key} {ks : List Key} : inK k ks = true ↔ k ∈ ks := by
  unfold inK
  rw [List.any_eq_true]
  exact ⟨fun ⟨x, hx, e⟩ => (of_decide_eq_true e) ▸ hx, fun h => ⟨k, h, decide_eq_true rfl⟩⟩
theorem inK_snoc {j k : Key} {ks : List Key} : inK j (ks ++ [k]) = (inK j ks || decide (k = j)) := by unfold inK; rw [List.any_append]; simp
def SmO (P : Program) (w : World) (a : Addr) (keys : List Key) : HO := .ext fun h => SetM P w h a (fun k => inK k keys) keys.length
theorem smO_new {P : Program} {w : World} {H : Hp} {h : Heap} {a : Addr} {keys : List Key} (R : SetM P w h a (fun k => inK k keys) keys.length) : ObjOk P w H h a (SmO P w a keys) := by
  obtain ⟨o, es, ep, t, ho, r⟩ := id R
  exact ⟨R, ⟨o, ho⟩, fun h1 h2 z k => z.at k⟩
section
variable {X : Cx} {G : Gx} {mg : Str → Option Value} {base : Heap} {k : Nat} {elt : Expr}
def repS (G : Gx) (ds : List D) (D : Addr) (H Kn : Hp) : Prop := Kn D = none ∧ ∃ keys, keysD ds = some keys ∧ keys.Nodup ∧ H D = some (SmO G.P G.w D keys)
theorem accS : Acc G (List D) (fun D => SmO G.P G.w D []) [] (repS G) where
  zero := fun D H Kn ex hD => ⟨known_none ex hD, [], rfl, .nil, upd_same⟩
  step := fun a D H Kn H' Kn' ⟨h0, keys, h1, h2, h3⟩ s => ⟨(s.fr D _ h3).trans h0, keys, h1, h2, s.ex _ _ h3⟩
  there := fun a D H Kn ⟨_, keys, _, _, h⟩ => ⟨_, h⟩
def faS (fe : Env → Option D) : Env → List D → Option (List D) := fun env ds => match fe env with
  | some d => (match keyD d, keysD ds with
    | some key, some keys => if inK key keys = true ∧ ds.length < 4001 then some ds else if ds.length < 4000 then some (ds ++ [d]) else none
    | _, _ => none)
  | none => none
theorem keysD_len : ∀ {ds : List D} {ks : List Key}, keysD ds = some ks → ds.length = ks.length
  | [], _, h => by cases h; rfl
  | d :: ds, _, h => by
    simp only [keysD] at h
    cases e1 : keyD d with
    | none => rw [e1] at h; cases h
    | some k =>
      cases e2 : keysD ds with
      | none => rw [e1, e2] at h; cases h
      | some ks => rw [e1, e2] at h; cases h; simp [keysD_len e2]
theorem padd_S {fe : Env → Option D} (gd : Gd X G mg base k) (he : SD X G elt fe) : PAdd X (emitS elt) (tAddD G (repS G) (faS fe)) := fun pins s σ H Q D I ⟨env, a, a2, Kn, hfa, ex, re, hr, q⟩ => by
  unfold faS at hfa
  split at hfa
  · rename_i d h1
    split at hfa
    · rename_i key keys h2 h3
      unfold emitS
      refine wpAny_bind (thn ((he _ _ h1).run pins s σ H (fun v H1 => ∃ K1, Step H Kn H1 K1 ∧ RelD G K1 d v) I ⟨Kn, ex, re, fun v H1 K1 s1 r1 => ⟨K1, s1, r1⟩⟩) fun kv s1 ⟨x, H1, I1, rx, K1, st1, r1⟩ => ?_)
      obtain ⟨hkD, keys', hks, hnd, hD⟩ := accS.step a D H Kn H1 K1 hr st1
      rw [h3] at hks
      cases hks
      have ex1 := keyD_rel r1 h2
      subst ex1
      obtain ⟨R, _⟩ := I1.hok D _ hD
      rw [← gd.hP, ← gd.hw] at R
      have hlen := keysD_len h3
      have hlt : a.length < 4001 := by
        split at hfa
        · rename_i hc; exact hc.2
        · split at hfa
          · rename_i hl; omega
          · cases hfa
      have mem : ∀ (z : List Key) (h' : Heap), (inK key keys = true ∧ z = keys) ∨ (inK key keys = false ∧ z = keys ++ [key]) → SetM X.prog X.w h' D (fun j => inK j keys || decide (j = key)) (if inK key keys = true then keys.length else keys.length + 1) → SetM X.prog X.w h' D (fun j => inK j z) z.length := fun z h' hz R' => by
        rcases hz with ⟨hm, rfl⟩ | ⟨hm, rfl⟩
        · refine R'.congr (fun j => ?_) (by rw [if_pos hm])
          by_cases hj : j = key
          · subst hj; simp [hm]
          · simp [hj]
        · refine R'.congr (fun j => ?_) (by rw [hm]; simp)
          rw [inK_snoc]
          congr 1
          exact decide_eq_decide.mpr eq_comm
      have hroom : keys.length + 1 < scanBound := by
        have : keys.length < 4001 := by
          rw [← hlen]
          exact hlt
        show _ < 4096
        omega
      refine wpAny_bind (wpAny_standAt (wpAny_bind (setM_add rx R hroom fun h' tk sb R' => wpAny_pure ?_)))
      have fin : ∀ (z : List Key) (ds2 : List Ev.D), (inK key keys = true ∧ z = keys) ∨ (inK key keys = false ∧ z = keys ++ [key]) → a2 = ds2 → keysD ds2 = some z → z.Nodup → ∃ H', Inv X pins σ H' { s1 with heap := h', toks := tk } ∧ Q H' := fun z ds2 hz e2 hkz nz => by
        subst e2
        refine ⟨upd H1 D (SmO G.P G.w D z), d_write I1 (by rw [hD]; exact True.intro) sb ?_ ?_, q _ K1 ((Step.chg st1).trans (chg_upd st1.sub hkD)) ⟨hkD, z, hkz, nz, upd_same⟩⟩
        · obtain ⟨o, _, _, _, ho, _⟩ := R'; exact ⟨o, ho⟩
        · rw [← gd.hP, ← gd.hw]; exact smO_new (mem z h' hz R')
      cases hm : inK key keys with
      | true =>
        rw [hm] at hfa
        rw [if_pos ⟨rfl, hlt⟩] at hfa
        cases hfa
        exact fin keys a (.inl ⟨hm, rfl⟩) rfl h3 hnd
      | false =>
        rw [hm] at hfa
        rw [if_neg (by simp)] at hfa
        split at hfa
        · cases hfa
          exact fin (keys ++ [key]) (a ++ [d]) (.inr ⟨hm, rfl⟩) rfl (keysD_append h3 h2) (List.nodup_append.mpr ⟨hnd, by simp, fun x hx y hy => by rw [List.mem_singleton.mp hy]; exact fun z => by rw [inK_iff.mpr (z ▸ hx)] at hm; cases hm⟩)
        · cases hfa
    · cases hfa
  · cases hfa
end
end Ev
set_option maxHeartbeats 4000000
/-! Ev: sorted and len of sets of texts; the maker of set comprehensions. -/
namespace Ev
open PySem PySem.Spec PyProof.Rows L2
section
variable {X : Cx} {G : Gx} {mg : Str → Option Value} {base : Heap} {k : Nat} {elt tg iter e : Expr} {ifs : List Expr} {gs : List Comprehension} {scope : Scope} {pos : Pos}
theorem mkr_set (gd : Gd X G mg base k) : Mkr X (.SetComp elt (⟨tg, iter, ifs, 0⟩ :: gs) scope pos) scope iter (newSet (.type "set")) { cls := .type "set", dict := none, data := .set #[] 0 (.fresh 0 0 (!X.w.params.followText "set-order")) } (fun D => SmO G.P G.w D []) where
  ev := ⟨firstIterPos (⟨tg, iter, ifs, 0⟩ :: gs) pos, rfl⟩
  us := ⟨firstIterPos (⟨tg, iter, ifs, 0⟩ :: gs) pos, fun use => rfl⟩
  na := fun A E s Q h => wpAny_newSet_raw fun led e => by subst e; exact h
  ob := fun H h hb => by rw [← gd.hP, ← gd.hw]; exact smO_new (setM_fresh.congr (fun _ => rfl) rfl)
def dKey : Key → D
  | .inl i => .int i
  | .inr x => .str x
theorem keyD_d : ∀ {d : D} {k : Key}, keyD d = some k → d = dKey k
  | .int i, _, h => by cases h; rfl
  | .str x, _, h => by cases h; rfl
  | .non, _, h => by cases h
  | .bl _, _, h => by cases h
  | .tup _, _, h => by cases h
  | .lst _, _, h => by cases h
  | .dct _ _, _, h => by cases h
  | .ins _ _, _, h => by cases h
  | .ty _, _, h => by cases h
  | .cl _, _, h => by cases h
  | .wt _, _, h => by cases h
  | .di _ _, _, h => by cases h
theorem keysD_d : ∀ {ds : List D} {ks : List Key}, keysD ds = some ks → ds = ks.map dKey
  | [], _, h => by cases h; rfl
  | d :: ds, _, h => by
    simp only [keysD] at h
    cases e1 : keyD d with
    | none => rw [e1] at h; cases h
    | some k =>
      cases e2 : keysD ds with
      | none => rw [e1, e2] at h; cases h
      | some ks => rw [e1, e2] at h; cases h; rw [keyD_d e1, keysD_d e2]; rfl
theorem dKey_rel {Kn : Hp} (k : Key) : RelD G Kn (dKey k) (kV k) := by
  cases k with
  | inl i => exact .int i
  | inr x => exact .str x
def kyU (u : Value) : Key := keyM (0, u)
theorem each_key {Kn : Hp} : ∀ {us : List Value}, (∀ u ∈ us, L2.RelV (kV (kyU u)) u) → PySem.W.EachIs (Rsv G Kn) us (us.map fun u => (kV (kyU u), dKey (kyU u)))
  | [], _ => .nil
  | u :: us, h => .cons ⟨h u (.head _), dKey_rel _⟩ (each_key fun x hx => h x (.tail _ hx))
/-- sorted of a set of texts -/
def rSrtS (G : Gx) (ds ys : List D) : List V → Hp → VK → Prop := fun vs H Q => ∃ D Kn, vs = [V.ref D] ∧ Ex Kn H ∧ repS G ds D H Kn ∧ ∀ p xs, H p = none → RelDs G Kn ys xs → Q (.ref p) (upd H p (.lst xs))
theorem sortedS_ok {ds ys : List D} (gd : Gd X G mg base k) (hs : srtD ds = some ys) : CallR X (.builtin "sorted") (rSrtS G ds ys) := by
  intro pins s σ H vs us Q I rv ⟨D, Kn, e, ex, ⟨hkD, keys, hkeys, hnd, hD⟩, q⟩
  subst e
  obtain ⟨u, rfl, ru⟩ := vals1 rv
  cases (show u = Value.ref D from ru)
  obtain ⟨R, _⟩ := I.hok D _ hD
  rw [← gd.hP, ← gd.hw] at R
  obtain ⟨o, es, ep, t, ho, hx, hd, g, nd, hm, hb, hf, hn, hr, hl⟩ := R
  have hds := keysD_d hkeys
  refine sorted_by (β := V × Ev.D) (enc := fun b => encD b.2) (R := Rsv G Kn) fun Q' h => collect_set (A := X.A.in1) (I.ok.hd gd.hc) ⟨o, ho, hx.1, hd⟩ hf hb hr hl fun s1 out k1 z1 g1 o1 pm => h s1 out k1 z1 g1 o1 ?_
  have good : ∀ v ∈ out, L2.RelV (kV (kyU v)) v := fun v hv => by
    obtain ⟨e1, he1, rfl⟩ := List.mem_map.mp (pm.mem_iff.mp hv)
    have z := keyM_good (g e1 he1)
    exact z
  have pk : (out.map kyU).Perm keys := by
    have p1 : (out.map kyU).Perm ((es.toList.map (·.2)).map kyU) := pm.map _
    rw [List.map_map] at p1
    have e2 : es.toList.map (kyU ∘ (·.2)) = es.toList.map keyM := List.map_congr_left fun z _ => rfl
    rw [e2] at p1
    refine p1.trans ((List.perm_ext_iff_of_nodup nd hnd).mpr fun z => ?_)
    rw [← hm z, inK_iff]
  have hsnd : (out.map fun u => (kV (kyU u), dKey (kyU u))).map (·.2) = (out.map kyU).map dKey := by rw [List.map_map, List.map_map]; rfl
  have pd : ((out.map fun u => (kV (kyU u), dKey (kyU u))).map (·.2)).Perm ds := by rw [hsnd, hds]; exact pk.map dKey
  have S := srtD_perm hs pd
  have henc : (out.map fun u => (kV (kyU u), dKey (kyU u))).map (fun b => encD b.2) = ((out.map fun u => (kV (kyU u), dKey (kyU u))).map (·.2)).map encD := by simp only [List.map_map]; rfl
  have he := each_key (G := G) (Kn := Kn) good
  refine ⟨_, he, each_with he fun v b hb2 rb => ?_, by rw [henc]; exact S.al, by rw [henc]; exact S.so, ?_, fun b hb2 => ?_, fun out2 p c s' k2 g2 o2 hp hg hout => ?_⟩
  · exact rb.2.reads gd.hK I ex rb.1 (S.ok _ (List.mem_map.mpr ⟨b, hb2, rfl⟩)).1
  · have := S.len; rw [List.length_map] at this; rw [sizeLine_eq]; omega
  · have h1 : (encD b.2).depth ≤ 50 := of_decide_eq_true (S.ok _ (List.mem_map.mpr ⟨b, hb2, rfl⟩)).2
    have h2 := gd.hr.units
    show X.A.units + 2 + (encD b.2).depth < cLine
    omega
  · obtain ⟨vo, ro⟩ := each_back hout
    have hms : ((out.map fun u => (kV (kyU u), dKey (kyU u))).mergeSort (PySem.W.dataLe false fun b : V × Ev.D => encD b.2)).map (·.2) = ys := by
      have z := PySem.W.sort_maps (r := PySem.W.dataLe false fun b : V × Ev.D => encD b.2) (s := PySem.W.dataLe false encD) (fun b : V × Ev.D => b.2) (l := out.map fun u => (kV (kyU u), dKey (kyU u))) (fun a _ b _ => rfl)
      rw [z]
      exact S.ms
    rw [hms] at ro
    generalize hbs : (out.map fun u => (kV (kyU u), dKey (kyU u))).mergeSort (PySem.W.dataLe false fun b : V × Ev.D => encD b.2) = bs' at vo ro
    have hnn : H p = none := I.hok.fresh hp
    have hlen : (bs'.map (·.1)).length ≤ sizeLine := by
      have e1 := ro.length
      have e2 : ys.length = ((out.map fun u => (kV (kyU u), dKey (kyU u))).map (·.2)).length := by rw [← S.ms]; exact (List.mergeSort_perm _ _).length_eq
      have := S.len
      rw [sizeLine_eq]
      omega
    have J : Inv X pins σ (upd H p (.lst (bs'.map (·.1)))) { s with heap := s'.heap, gens := s'.gens, drawn := s'.drawn, toks := s'.toks } :=
      I.call (ch := []) (Un.laid k2 hp hnn) (I.hok.laid k2 hp ⟨hlen, out2, c, vo, hg⟩) (by rw [g2]; exact I.bare) (fun _ z => nomatch z)
    have e : s' = { s with heap := s'.heap, gens := s'.gens, drawn := s'.drawn, toks := s'.toks } := by
      cases s'; cases s; cases o2; rfl
    rw [e]
    exact ⟨.ref p, _, J, rfl, q p _ hnn ro⟩
def cSrtS (f : Env → Option (List D)) : Env → Option D := fun env => match f env with
  | some ds => (srtD ds).map .lst
  | none => none
theorem SF.sortedS {x : Str} {p : Pos} {f : Env → Option (List D)} (gd : Gd X G mg base k) (hx : x = "sorted") (hg : Gl X x) (hm : mg x = none) (ha : SC X G (repS G) e f) (he : starEach [e] X.env = (false, eval e X.env) :: starEach [] X.env) : SF X G (.Call (.Name x p) [e] [] pos) (cSrtS f) := fun env d q => by
  subst hx
  unfold cSrtS at q
  split at q
  · rename_i ds hds
    cases e1 : srtD ds with
    | none => rw [e1] at q; cases q
    | some ys =>
      rw [e1] at q; cases q
      refine PE.weak (pe_callB (sortedS_ok gd e1) hg (by rw [gd.hm]; exact hm) rfl (pa_cons (ha env ds hds) pa_nil he) (by decide) (by decide) he rfl) fun σ H Q ⟨Kn, ex, re, q⟩ => ⟨Kn, ex, re, fun D H1 K1 h1 h2 s1 r1 => ?_⟩
      exact ⟨D, K1, rfl, s1.sub, r1, fun p xs hp rr => q p _ K1 (s1.trans (Step.own s1.sub hp)) (fresh_step s1 hp) (known_none s1.sub hp) (.lst upd_same rr)⟩
  · cases q
end
end Ev
set_option maxHeartbeats 4000000
/-! Ev: changes of one's own lists and dicts; displays of dicts; d.get(k, x). -/
namespace Ev
open PySem PySem.Spec PyProof.Rows L2
section
variable {X : Cx} {G : Gx} {E : XK} {mg : Str → Option Value} {base : Heap} {k : Nat} {e a b f o : Expr} {pos : Pos}
/-! ### xs.append(e) -/
def gApp (i : Nat) (g : Env → Option D) : EnvS → Option O := fun env => match env[i]?, g (see env) with
  | some (.ow (.lst ds)), some d => if ds.length < 4096 then some (.nx (env.set i (.ow (.lst (ds ++ [d]))))) else none
  | _, _ => none
theorem SS.append {i : Nat} {x : Str} {p0 apos cpos : Pos} {g : Env → Option D} (gd : Gd X G mg base k) (hN : X.N[i]? = some x) (hv : Vis X.env.scope x) (hd : (x == ("__debug__" : Str)) = false) (hcd : (x == ("__classdict__" : Str)) = false) (he : SD X G e g)
    (hbase : attributeBase (.Name x p0) "append" X.env (eval (.Name x p0) X.env) = eval (.Name x p0) X.env)
    (hfew : ((backTo cpos (starEach [e] X.env)).all (fun x => !x.1) && (backToKw cpos (keywordEach [] X.env)).all (fun x => x.1.isSome)
      && decide (([e] : List Expr).length + ([] : List Keyword).length + (if ([] : List Keyword).isEmpty then 0 else 1) < 30)) = true)
    (hline : (apos.endLine == cpos.line) = true) (hs : starEach [e] X.env = (false, eval e X.env) :: starEach [] X.env) (hsw : swapsWith (.Call (.Attribute (.Name x p0) "append" apos) [e] [] cpos) none pos.line X.env = pure false) :
    SS X G E (.Expr (.Call (.Attribute (.Name x p0) "append" apos) [e] [] cpos) pos) (gApp i g) := fun H0 K0 env o q => by
  unfold gApp at q
  split at q
  · rename_i ds d h1 h2
    split at q
    · rename_i hl
      cases q
      refine PS.weak (ps_expr (pe_bm (r := rAppend) PySem.F.plainAttrs_list PySem.F.slot_list_append PySem.F.type_list_append mt_append (pe_var hN hv hd hcd) (pa_cons (he _ _ h2) pa_nil hs) hbase hfew hline hs rfl) hsw) fun D σ H ⟨⟨Kn, r⟩, q⟩ => ?_
      obtain ⟨p, hp, h0, hk, ow⟩ := r.ow i _ h1
      cases ow with
      | @lst xs _ hx rr =>
        refine ⟨_, hp, .inl ⟨rfl, xs, Evl.sq_of hx⟩, Kn, r.st.sub, r.relE, fun v H1 K1 s1 r1 => ⟨p, xs, v, rfl, rfl, s1.ex _ _ hx, by have := rr.length; rw [sizeLine_eq]; omega, ?_⟩⟩
        exact q σ _ K1 ((r.step s1).mut h1 hp (.lst upd_same ((rr.mono s1.kx).append (.cons r1 .nil))))
    · cases q
  · cases q
/-! ### {} -/
def cNew : Env → Option D := fun _ => some (.dct [] [])
theorem SF.newK : SF X G (.Dict [] [] pos) cNew := fun env d q => by
  cases q
  exact PE.weak pe_dnewK fun σ H Q ⟨Kn, ex, re, q⟩ => fun p hp => q p _ Kn (Step.own ex hp) hp (known_none ex hp) (.dctK (kvs := []) upd_same .nil .nil)
theorem pe_dnewN (gd : Gd X G mg base k) : PE X (.Dict [] [] pos) (fun _ H Q => ∀ p, H p = none → Q (.ref p) (upd H p (DnO G.P G.w p []))) := ⟨fun pins s σ H Q I h =>
  wpAny_Dict_empty ⟨.ref s.heap.objs.size, _, I.laid (a := s.heap.objs.size) (o := DnO G.P G.w s.heap.objs.size []) (t' := s.toks) (fun _ _ q => Heap.get?_push_of_some _ q) (Nat.le_refl _) ((mkr_dictN (kx := .Constant .none 0 pos) (vx := .Constant .none 0 pos) (tg := .Constant .none 0 pos) (iter := .Constant .none 0 pos) (ifs := []) (gs := []) (scope := X.env.scope) (pos := pos) gd).ob H s.heap I.big), rfl, h _ (I.hok.fresh (Nat.le_refl _))⟩⟩
theorem SF.newN (gd : Gd X G mg base k) : SF X G (.Dict [] [] pos) cNew := fun env d q => by
  cases q
  exact PE.weak (pe_dnewN gd) fun σ H Q ⟨Kn, ex, re, q⟩ => fun p hp => q p _ Kn (Step.own ex hp) hp (known_none ex hp) (.dctN (xs := []) upd_same .nil rfl .nil)
/-! ### d.get(k, x) -/
def cGet (f g h : Env → Option D) : Env → Option D := fun env => match f env, g env, h env with
  | some (.dct ks vs), some x, some z => (match keysD ks, keyD x with
    | some keys, some key => (match lookK keys vs key with
      | some d => some d
      | none => some z)
    | _, _ => none)
  | _, _, _ => none
theorem SD.get2 {apos cpos : Pos} {fo fe ff : Env → Option D} (gd : Gd X G mg base k) (ho : SD X G o fo) (he : SD X G e fe) (hf : SD X G f ff) (m : M2 X o "get" apos e f cpos) : SD X G (.Call (.Attribute o "get" apos) [e, f] [] cpos) (cGet fo fe ff) := fun env d q => by
  unfold cGet at q
  split at q
  · rename_i ks vs x z h1 h2 h3
    split at q
    · rename_i keys key hk1 hk2
      have hu : X.A.units + 1 < cLine := by have := gd.hr.units; omega
      refine PE.weak (pe_dget2 hu (ho _ _ h1) (he _ _ h2) (hf _ _ h3) m) fun σ H Q ⟨Kn, ex, re, q2⟩ => ⟨Kn, ex, re, fun v H1 K1 s1 r1 => ?_⟩
      obtain ⟨a', ob, kvs, rfl, hh, hks, rv⟩ := dct_keys r1 hk1
      refine ⟨a', rfl, .inl ⟨kvs, .inr ⟨ob, s1.sub _ _ hh⟩⟩, K1, s1.sub, re.mono s1.kx, fun y H2 K2 s2 r2 => ⟨K2, s2.sub, (re.mono s1.kx).mono s2.kx, fun w H3 K3 s3 r3 => ?_⟩⟩
      have s123 := (s1.trans s2).trans s3
      refine ⟨valV kvs key, .inl ⟨kvs, key, .inr ⟨ob, s3.ex _ _ (s2.ex _ _ (s1.sub _ _ hh))⟩, keyD_rel r2 hk2, rfl⟩, ?_⟩
      have hl := look_rel key hks (rv.mono (s2.trans s3).kx)
      split at q
      · rename_i d' hd'
        cases q
        rw [hd'] at hl
        obtain ⟨w', hw', rw'⟩ := hl
        rw [hw']
        exact q2 _ H3 K3 s123 rw'
      · rename_i hd'
        cases q
        rw [hd'] at hl
        have hl' : valV kvs key = none := hl
        rw [hl']
        exact q2 _ H3 K3 s123 r3
    · cases q
  · cases q
end
end Ev
set_option maxHeartbeats 4000000
/-! Ev: d[k] = v on one's own dict. -/
namespace Ev
open PySem PySem.Spec PyProof.Rows L2
section
variable {X : Cx} {G : Gx} {E : XK} {mg : Str → Option Value} {base : Heap} {k : Nat} {i value : Expr} {pos : Pos} {pins : List (Addr × Obj)} {s : Shared} {σ : St} {H0 K0 H Kn : Hp} {env : EnvS} {j : Nat} {ks vs : List D}
theorem set_same {env : EnvS} {j : Nat} {x : Sl} (h : env[j]? = some x) : env.set j x = env := by
  refine List.ext_getElem? fun m => ?_
  by_cases hm : j = m
  · subst hm; rw [List.getElem?_set_self (List.getElem?_eq_some_iff.mp h).1, h]
  · rw [List.getElem?_set_ne hm]
theorem retypeK {p : Addr} (I : Inv X pins σ H s) (h : H p = some (DnO G.P G.w p [])) : Inv X pins σ (upd H p (.dK [])) s := by
  obtain ⟨⟨hs, ys, hp, o, es, ep, ho, hx, hd, hes, _, _⟩, _, _⟩ := I.hok p _ h
  cases hp
  have he : es = #[] := by apply Array.toList_inj.mp; simpa using hes
  subst he
  exact d_write (h' := s.heap) (t' := s.toks) I (by rw [h]; trivial) (Heap.SameBut.refl _ _) ⟨o, ho⟩ ⟨Nat.zero_le _, hs, [], .nil, o, #[], ep, ho, hx, hd, by intro e he; simp at he, .nil, .nil⟩
theorem retypeN {p : Addr} (I : Inv X pins σ H s) (h : H p = some (.dK [])) : Inv X pins σ (upd H p (DnO G.P G.w p [])) s := by
  obtain ⟨_, hs, vs', kv, o, es, ep, ho, hx, hd, _, hp, _⟩ := I.hok p _ h
  cases kv
  cases he : es.toList with
  | cons z zs => rw [he] at hp; cases hp
  | nil =>
    exact d_write (h' := s.heap) (t' := s.toks) I (by rw [h]; trivial) (Heap.SameBut.refl _ _) ⟨o, ho⟩ ⟨⟨hs, [], .nil, o, es, ep, ho, hx, hd, by rw [he]; rfl, .nil, fun y hy => nomatch hy⟩, ⟨o, ho⟩, fun h1 h2 ⟨w1, zs, w2, o2, es2, ep2, w3, w4⟩ k2 => ⟨w1, zs, w2, o2, es2, ep2, k2 _ w3, w4⟩⟩
theorem normK {keys : List Key} (I : Inv X pins σ H s) (r : RS G H0 K0 env σ H Kn) (h : env[j]? = some (.ow (.dct ks vs))) (hk : keysD ks = some keys) :
    ∃ H' p kvs, Inv X pins σ H' s ∧ RS G H0 K0 env σ H' Kn ∧ σ[j]? = some (some (.ref p)) ∧ H' p = some (.dK kvs) ∧ RelDs G Kn ks (kvs.map fun q => kV q.1) ∧ RelDs G Kn vs (kvs.map Prod.snd) ∧ keysD ks = some (kvs.map (·.1)) := by
  obtain ⟨p, hσ, h0, hkn, ow⟩ := r.ow j _ h
  have hl : ∀ {kvs : List (Key × V)}, RelDs G Kn ks (kvs.map fun q => kV q.1) → keysD ks = some (kvs.map (·.1)) := fun {kvs} rk => by rw [hk, map_kV (keysD_rel rk hk)]
  cases ow with
  | @dctK kvs _ _ hH rk rv => exact ⟨H, p, kvs, I, r, hσ, hH, rk, rv, hl rk⟩
  | @dctN xs _ _ hH rk hnk rv =>
    cases xs with
    | nil =>
      cases rk
      cases rv
      have z := r.mut (o := .dK []) (d' := .dct [] []) h hσ (.dctK (kvs := []) upd_same .nil .nil)
      rw [set_same h] at z
      exact ⟨_, p, [], retypeK I hH, z, hσ, upd_same, .nil, .nil, rfl⟩
    | cons z zs =>
      exfalso
      have e := keysD_rel rk hk
      cases keys with
      | nil => simp at e
      | cons k1 kr =>
        have e1 : V.ref z.2.1 = kV k1 := (List.cons.inj e).1
        cases k1 <;> cases e1
def tupKs : List D → Bool
  | [] => true
  | .tup _ :: r => tupKs r
  | _ => false
theorem normN (I : Inv X pins σ H s) (r : RS G H0 K0 env σ H Kn) (h : env[j]? = some (.ow (.dct ks vs))) (hk : tupKs ks = true) :
    ∃ H' p xs, Inv X pins σ H' s ∧ RS G H0 K0 env σ H' Kn ∧ σ[j]? = some (some (.ref p)) ∧ H' p = some (DnO G.P G.w p xs) ∧ RelDs G Kn ks (xs.map fun q => V.ref q.2.1) ∧ nks ks = some (xs.map (·.1)) ∧ RelDs G Kn vs (xs.map (·.2.2)) := by
  obtain ⟨p, hσ, h0, hkn, ow⟩ := r.ow j _ h
  cases ow with
  | @dctN xs _ _ hH rk hnk rv => exact ⟨H, p, xs, I, r, hσ, hH, rk, hnk, rv⟩
  | @dctK kvs _ _ hH rk rv =>
    cases kvs with
    | nil =>
      cases rk
      cases rv
      have z := r.mut (o := DnO G.P G.w p []) (d' := .dct [] []) h hσ (.dctN (xs := []) upd_same .nil rfl .nil)
      rw [set_same h] at z
      exact ⟨_, p, [], retypeN I hH, z, hσ, upd_same, .nil, rfl, .nil⟩
    | cons z zs =>
      exfalso
      obtain ⟨k1, v1⟩ := z
      cases ks with
      | nil => cases rk
      | cons d ds =>
        cases rk with
        | cons r1 _ =>
          cases d with
          | tup l => cases k1 <;> cases r1
          | _ => simp [tupKs] at hk
def gPutK (j : Nat) (fi fv : Env → Option D) : EnvS → Option O := fun env => match env[j]?, fv (see env), fi (see env) with
  | some (.ow (.dct ks vs)), some vd, some kd => (match putKD kd vd (ks, vs) with
    | some p => some (.nx (env.set j (.ow (.dct p.1 p.2))))
    | none => none)
  | _, _, _ => none
theorem SS.putK {x : Str} {p0 pos' : Pos} {fi fv : Env → Option D} (gd : Gd X G mg base k) (hN : X.N[j]? = some x) (hv : Vis X.env.scope x) (hd : (x == ("__debug__" : Str)) = false) (hcd : (x == ("__classdict__" : Str)) = false) (hi : SD X G i fi) (he : SD X G value fv)
    (hs : swapsWith value (some (.Subscript (.Name x p0) i pos')) pos.line X.env = pure false) : SS X G E (.Assign [.Subscript (.Name x p0) i pos'] value pos) (gPutK j fi fv) := fun H0 K0 env o q => by
  unfold gPutK at q
  split at q
  · rename_i ks vs vd kd h1 h2 h3
    split at q
    · rename_i pr hp
      cases q
      have hu : X.A.units + 1 < cLine := by have := gd.hr.units; omega
      obtain ⟨keys, hkeys⟩ : ∃ keys, keysD ks = some keys := by
        unfold putKD at hp
        split at hp
        · rename_i key keys _ hk2; exact ⟨keys, hk2⟩
        · cases hp
      refine ⟨fun pins s σ H D I ⟨⟨Kn, r⟩, q⟩ => ?_⟩
      obtain ⟨H', p, kvs, I', r', hσ, hH, rk, rv, hks⟩ := normK I r h1 hkeys
      refine (ps_dput hu (pe_var hN hv hd hcd) (hi _ _ h3) (he _ _ h2) hs).run pins s σ H' D I' ⟨Kn, r'.st.sub, r'.relE, fun v H1 K1 s1 r1 => ⟨_, hσ, K1, s1.sub, (r'.step s1).relE, fun y H2 K2 s2 r2 => ?_⟩⟩
      have s12 := s1.trans s2
      obtain ⟨key, e, hz, a1, a2, a3⟩ := putKD_rel hp (rk.mono s12.kx) (rv.mono s12.kx) hks r2 (r1.mono s2.kx)
      subst e
      exact ⟨p, _, rfl, DPut.k (s12.ex _ _ hH) hz, q σ _ K2 ((r'.step s12).mut h1 hσ (.dctK upd_same a1 a2))⟩
    · cases q
  · cases q
def gPutN (j : Nat) (fi fv : Env → Option D) : EnvS → Option O := fun env => match env[j]?, fv (see env), fi (see env) with
  | some (.ow (.dct ks vs)), some vd, some kd => if tupKs ks = true then (match putND kd vd (ks, vs) with
    | some p => some (.nx (env.set j (.ow (.dct p.1 p.2))))
    | none => none) else none
  | _, _, _ => none
/-- o[i] = v, o a dict whose keys are tuples -/
def tSetN (G : Gx) : TSet := fun o i v H Q => ∃ p a xs key kd ks Kn, o = .ref p ∧ i = .ref a ∧ Ex Kn H ∧ H p = some (DnO G.P G.w p xs) ∧ RelD G Kn kd i ∧ nk kd = some key ∧ key.depth ≤ 8 ∧ xs.length < 4096 ∧ RelDs G Kn ks (xs.map fun q => V.ref q.2.1) ∧ nks ks = some (xs.map (·.1)) ∧ Q (upd H p (DnO G.P G.w p (storV xs key a v)))
theorem pset_N (gd : Gd X G mg base k) : PSet X (tSetN G) := fun pins s σ H o i v ov iv u Q I ro ri rv ⟨p, a, xs, key, kd, ks, Kn, eo, ei, ex, hH, rd, hnk, h8, hl, rk, hks, q⟩ => by
  subst eo ei
  cases (show ov = Value.ref p from ro)
  cases (show iv = Value.ref a from ri)
  obtain ⟨hdn, _⟩ := I.hok p _ hH
  obtain ⟨hsm, ys, hp, hm, dep⟩ := dctN_at gd.hK I ex hdn rk hks
  have hkey := relD_nest gd I ex rd hnk h8
  rw [← gd.hP, ← gd.hw] at hm hkey
  refine wpAny_setItem_heap (hsz := by have := Paired.length hp; rw [sizeLine_eq]; omega) (show (nestedKind X.prog X.w).room X.A.in1 from by have := gd.hr.units; show X.A.units + 1 + 8 < cLine; omega) hkey hm fun h' hm' sb => ?_
  rw [gd.hP, gd.hw] at hm'
  exact ⟨_, n_write gd I hH hsm hp rv dep h8 hm' sb, q⟩
theorem SS.putN {x : Str} {p0 pos' : Pos} {fi fv : Env → Option D} (gd : Gd X G mg base k) (hN : X.N[j]? = some x) (hv : Vis X.env.scope x) (hd : (x == ("__debug__" : Str)) = false) (hcd : (x == ("__classdict__" : Str)) = false) (hi : SD X G i fi) (he : SD X G value fv)
    (ha : ∀ v, assign (.Subscript (.Name x p0) i pos') X.env v = (do
      let ov ← holding [v] (eval (.Name x p0) X.env)
      let iv ← holding [v, ov] (eval i X.env)
      standAt pos'
      holding [v, ov, iv] (setItem ov iv v)
      release [v, ov, iv] []))
    (hs : swapsWithSole [.Subscript (.Name x p0) i pos'] value pos.line X.env = pure false) (hw : swappedStores [.Subscript (.Name x p0) i pos'] value X.env = pure none)
    (h1' : (assignEach [.Subscript (.Name x p0) i pos'] X.env).map (·.2) = [assign (.Subscript (.Name x p0) i pos') X.env]) : SS X G E (.Assign [.Subscript (.Name x p0) i pos'] value pos) (gPutN j fi fv) := fun H0 K0 env o q => by
  unfold gPutN at q
  split at q
  · rename_i ks vs vd kd h1 h2 h3
    split at q
    · rename_i htk
      split at q
      · rename_i pr hp
        cases q
        refine ⟨fun pins s σ H D I ⟨⟨Kn, r⟩, q⟩ => ?_⟩
        obtain ⟨H', p, xs, I', r', hσ, hH, rk, hks, rv⟩ := normN I r h1 htk
        refine (ps_asg (he _ _ h2) (pg_sub (pe_var hN hv hd hcd) (hi _ _ h3) (pset_N gd) ha) hs hw h1').run pins s σ H' D I' ⟨Kn, r'.st.sub, r'.relE, fun v H1 K1 s1 r1 => ⟨_, hσ, K1, s1.sub, (r'.step s1).relE, fun y H2 K2 s2 r2 => ?_⟩⟩
        have s12 := s1.trans s2
        obtain ⟨key, a, e, hnk, h8, hl, a1, a2, a3⟩ := putND_rel hp (rk.mono s12.kx) hks (rv.mono s12.kx) r2 (r1.mono s2.kx)
        subst e
        exact ⟨p, a, xs, key, kd, ks, K2, rfl, rfl, s12.sub, s12.ex _ _ hH, r2, hnk, h8, hl, rk.mono s12.kx, hks, q σ _ K2 ((r'.step s12).mut h1 hσ (.dctN upd_same a1 a2 a3))⟩
      · cases q
    · cases q
  · cases q
end
end Ev
set_option maxHeartbeats 4000000
/-! Ev: {k: v, ..}; len of a set; min and max of a pair. -/
namespace Ev
open PySem PySem.Spec PyProof.Rows L2
section
variable {X : Cx} {G : Gx} {E : XK} {mg : Str → Option Value} {base : Heap} {k : Nat} {e kx vx : Expr} {keys : List (Option Expr)} {values : List Expr} {pos : Pos}
def SPs (X : Cx) (G : Gx) (pos : Pos) (keys : List (Option Expr)) (values : List Expr) (f : Env → Option (List (D × D))) : Prop := ∀ env ps, f env = some ps → PPs X pos keys values (ps.map fun p => (tD G env p.1, tD G env p.2))
def pNil : Env → Option (List (D × D)) := fun _ => some []
def pCons (fk fv : Env → Option D) (g : Env → Option (List (D × D))) : Env → Option (List (D × D)) := fun env => match fk env, fv env, g env with
  | some a, some b, some r => some ((a, b) :: r)
  | _, _, _ => none
theorem SPs.nil : SPs X G pos [] [] pNil := fun env ps h => by cases h; exact pps_nil
theorem SPs.cons {fk fv : Env → Option D} {g : Env → Option (List (D × D))} (hk : SD X G kx fk) (hv : SD X G vx fv) (hr : SPs X G pos keys values g) : SPs X G pos (some kx :: keys) (vx :: values) (pCons fk fv g) := fun env ps h => by
  unfold pCons at h
  split at h
  · rename_i a b r h1 h2 h3; cases h; exact pps_cons (hk _ _ h1) (hv _ _ h2) (hr _ _ h3)
  · cases h
inductive RelPs (G : Gx) (Kn : Hp) : List (D × D) → List (V × V) → Prop
  | nil : RelPs G Kn [] []
  | cons {a b : D} {x y : V} {ps : List (D × D)} {vs : List (V × V)} : RelD G Kn a x → RelD G Kn b y → RelPs G Kn ps vs → RelPs G Kn ((a, b) :: ps) ((x, y) :: vs)
theorem RelPs.mono {Kn Kn' : Hp} (e : Ex Kn Kn') : ∀ {ps : List (D × D)} {vs : List (V × V)}, RelPs G Kn ps vs → RelPs G Kn' ps vs
  | _, _, .nil => .nil
  | _, _, .cons a b r => .cons (a.mono e) (b.mono e) (RelPs.mono e r)
theorem pairs_D {env : Env} {σ : St} : ∀ {ps : List (D × D)} {H : Hp} {Q : List (V × V) → Hp → Prop}, (∃ Kn, Ex Kn H ∧ RelE G Kn env σ ∧ ∀ vs H' Kn', Step H Kn H' Kn' → RelPs G Kn' ps vs → Q vs H') → tPairs (ps.map fun p => (tD G env p.1, tD G env p.2)) σ H Q
  | [], H, Q, ⟨Kn, ex, re, q⟩ => q [] H Kn (Step.refl ex) .nil
  | (a, b) :: ps, H, Q, ⟨Kn, ex, re, q⟩ => ⟨Kn, ex, re, fun x H1 K1 s1 r1 => ⟨K1, s1.sub, re.mono s1.kx, fun y H2 K2 s2 r2 => pairs_D ⟨K2, s2.sub, re.mono (s1.trans s2).kx, fun vs H3 K3 s3 r3 => q _ H3 K3 ((s1.trans s2).trans s3) (.cons (r1.mono (s2.trans s3).kx) (r2.mono s3.kx) r3)⟩⟩⟩
def nodupK : List Key → Bool
  | [] => true
  | k :: ks => !inK k ks && nodupK ks
theorem nodupK_ok : ∀ {ks : List Key}, nodupK ks = true → ks.Nodup
  | [], _ => .nil
  | k :: ks, h => by
    simp only [nodupK, Bool.and_eq_true, Bool.not_eq_true'] at h
    have h1 : k ∉ ks := fun z => by
      have h' := h.1
      rw [inK_iff.mpr z] at h'
      cases h'
    exact List.nodup_cons.mpr ⟨h1, nodupK_ok h.2⟩
theorem mergeK_nodup : ∀ (more acc : List (Key × V)), ((acc ++ more).map (·.1)).Nodup → mergeK acc more = acc ++ more
  | [], acc, _ => by simp [mergeK]
  | p :: more, acc, h => by
    have hn : valV acc p.1 = none := by
      cases e : valV acc p.1 with
      | none => rfl
      | some v =>
        exfalso
        have hi := valV_in e
        rw [List.map_append, List.map_cons] at h
        exact (List.nodup_append.mp h).2.2 _ hi _ (.head _) rfl
    show mergeK (putK acc p.1 p.2) more = _
    rw [putK_new p.2 hn, mergeK_nodup more _ (by simpa using h)]
    simp
def cDisp (f : Env → Option (List (D × D))) : Env → Option D := fun env => match f env with
  | some ps => (match keysD (ps.map (·.1)) with
    | some keys => if nodupK keys = true ∧ ps.length ≤ 15 then some (.dct (ps.map (·.1)) (ps.map (·.2))) else none
    | none => none)
  | none => none
theorem relPs_split {Kn : Hp} : ∀ {ps : List (D × D)} {vs : List (V × V)} {keys : List Key}, RelPs G Kn ps vs → keysD (ps.map (·.1)) = some keys → ∃ kvs : List (Key × V), vs = kvs.map (fun kv => (kV kv.1, kv.2)) ∧ kvs.map (·.1) = keys ∧ RelDs G Kn (ps.map (·.1)) (kvs.map fun q => kV q.1) ∧ RelDs G Kn (ps.map (·.2)) (kvs.map Prod.snd) ∧ kvs.length = ps.length
  | _, _, _, .nil, h => by cases h; exact ⟨[], rfl, rfl, .nil, .nil, rfl⟩
  | (a, b) :: ps, _, _, .cons r1 r2 r, h => by
    simp only [List.map_cons, keysD] at h
    cases e1 : keyD a with
    | none => rw [e1] at h; cases h
    | some k =>
      cases e2 : keysD (ps.map (·.1)) with
      | none => rw [e1, e2] at h; cases h
      | some ks =>
        rw [e1, e2] at h; cases h
        obtain ⟨kvs, a1, a2, a3, a4, a5⟩ := relPs_split r e2
        have ek := keyD_rel r1 e1
        subst ek
        exact ⟨(k, _) :: kvs, by rw [a1]; rfl, by simp [a2], .cons r1 a3, .cons r2 a4, by simp [a5]⟩
theorem SF.disp {f : Env → Option (List (D × D))} (h : SPs X G pos keys values f) (hall : keys.all (·.isSome) = true) (hl : keys.length = values.length) (h0 : keys ≠ []) (h15 : keys.length ≤ 15) : SF X G (.Dict keys values pos) (cDisp f) := fun env d q => by
  unfold cDisp at q
  split at q
  · rename_i ps hps
    split at q
    · rename_i kk hkk
      split at q
      · rename_i hc
        cases q
        refine PE.weak (pe_disp (h _ _ hps) hall hl h0 h15) fun σ H Q ⟨Kn, ex, re, q⟩ => fun p hp => ?_
        have so := Step.own (o := .dK []) ex hp
        refine pairs_D ⟨Kn, so.sub, re, fun vs H2 K2 s2 r2 => ?_⟩
        obtain ⟨kvs, a1, a2, a3, a4, a5⟩ := relPs_split r2 hkk
        have hp2 := s2.ex p _ upd_same
        have kp : K2 p = none := (s2.fr p _ upd_same).trans (known_none ex hp)
        refine ⟨hp2, kvs, a1, by rw [a5]; exact hc.2, ?_⟩
        rw [mergeK_nodup kvs [] (by simpa [a2] using nodupK_ok hc.1)]
        have c2 : Chg p (upd H p (.dK [])) Kn (upd H2 p (.dK kvs)) K2 := (Step.chg s2).trans (chg_upd s2.sub kp)
        refine q p _ K2 ⟨fun a o h => ?_, s2.kx, c2.sub, fun a o h => ?_⟩ hp kp (.dctK upd_same a3 a4)
        · have hne : a ≠ p := fun z => by rw [z, hp] at h; cases h
          exact c2.ex a o hne (by rw [upd_ne hne]; exact h)
        · have hne : a ≠ p := fun z => by rw [z, hp] at h; cases h
          exact c2.fr a o (by rw [upd_ne hne]; exact h)
      · cases q
    · cases q
  · cases q
/-! ### len of a set of texts -/
def cLenS (f : Env → Option (List D)) : Env → Option D := fun env => (f env).map fun ds => .int ds.length
def rLenS (G : Gx) (ds : List D) : List V → Hp → VK → Prop := fun vs H Q => ∃ D Kn, vs = [V.ref D] ∧ repS G ds D H Kn ∧ Q (.int ds.length) H
theorem lenS_ok {ds : List D} (gd : Gd X G mg base k) : CallR X (.builtin "len") (rLenS G ds) := by
  intro pins s σ H vs us Q I rv ⟨D, Kn, e, ⟨hkD, keys, hkeys, hnd, hD⟩, q⟩
  subst e
  obtain ⟨u, rfl, ru⟩ := vals1 rv
  cases (show u = Value.ref D from ru)
  obtain ⟨R, _⟩ := I.hok D _ hD
  rw [← gd.hP, ← gd.hw] at R
  obtain ⟨o, es, ep, t, ho, hx, hd, g, nd, hm, hb, hf, hn, hr, hl⟩ := R
  have e1 : (es.size : Int) = (ds.length : Int) := by rw [hn, keysD_len hkeys]
  have hb' : es.size < 4096 := hb
  refine call_len_set ho hx hd hf (by omega) ⟨.int ds.length, H, I.tok _, ⟨_, by rw [e1]⟩, q⟩
theorem SD.lenS {x : Str} {p : Pos} {f : Env → Option (List D)} (gd : Gd X G mg base k) (hx : x = "len") (hg : Gl X x) (hm : mg x = none) (ha : SC X G (repS G) e f) (he : starEach [e] X.env = (false, eval e X.env) :: starEach [] X.env) : SD X G (.Call (.Name x p) [e] [] pos) (cLenS f) := fun env d q => by
  subst hx
  unfold cLenS at q
  cases e1 : f env with
  | none => rw [e1] at q; cases q
  | some ds =>
    rw [e1] at q; cases q
    exact PE.weak (pe_callB (lenS_ok (ds := ds) gd) hg (by rw [gd.hm]; exact hm) rfl (pa_cons (ha env ds e1) pa_nil he) (by decide) (by decide) he rfl) fun σ H Q ⟨Kn, ex, re, q⟩ => ⟨Kn, ex, re, fun D H1 K1 h1 h2 s1 r1 => ⟨D, K1, rfl, r1, q _ H1 K1 s1 (.int _)⟩⟩
end
end Ev
set_option maxHeartbeats 4000000
/-! Ev: set(xs), set(t), whatever the members are. -/
namespace Ev
open PySem PySem.Spec PyProof.Rows L2
def freshS (w : World) : Obj := { cls := .type "set", dict := none, data := .set #[] 0 (.fresh 0 0 (!w.params.followText "set-order")) }
/-- how the set at S grows, item by item -/
structure SetStep (P : Program) (w : World) (h0 : Heap) (S : Addr) (items : Array Value) (RP : Nat → Heap → Prop) : Prop where
  zero : ∀ h : Heap, h.get? S = some (freshS w) → (∀ b o, h0.get? b = some o → h.get? b = some o) → RP 0 h
  keep : ∀ (i : Nat) (h h' : Heap), RP i h → (∀ o, h.get? S = some o → h'.get? S = some o) → (∀ b o, h0.get? b = some o → h'.get? b = some o) → RP i h'
  add : ∀ (i : Nat) (v : Value) (s : Shared) (A : Around) (E : Value → Shared → Prop) (Q : Bool → Shared → Prop), A.units + 40 < cLine → items[i]? = some v → RP i s.heap → (∀ b o, h0.get? b = some o → s.heap.get? b = some o) →
    (∀ b h' tk, s.toks ≤ tk → Heap.SameBut S s.heap h' → RP (i + 1) h' → Q b { s with heap := h', toks := tk }) → wpAny (model P w) A (setAdd S v) Q E s
section
variable {P : Program} {w : World} {A : Around} {E : Value → Shared → Prop} {s : Shared}
theorem set_loop {I : Addr} {fp wr : List Addr} {G : Array GenState → Array GenState → Prop} {items : Array Value} {St : Nat → Shared → Prop} {R : Result → Shared → Prop} {Pv : Nat → Value → Prop} {RP : Nat → Heap → Prop} {h0 : Heap}
    (W : WalksS P w A.in1 I fp wr G items.size Pv St) (S : Addr) (hSf : S ∉ fp) (K : SetStep P w h0 S items RP) (hval : ∀ i v, Pv i v → items[i]? = some v) (hS0 : h0.get? S = none) (hw0 : ∀ b ∈ wr, h0.get? b = none) (hu : A.in1.units + 40 < cLine) :
    ∀ (k i : Nat) (s : Shared), items.size - i = k → i ≤ items.size → St i s → (∀ b o, h0.get? b = some o → s.heap.get? b = some o) → RP i s.heap →
      (∀ s', Moved (S :: wr) G s s' → RP items.size s'.heap → (∀ b o, h0.get? b = some o → s'.heap.get? b = some o) → R (.ok (.ret .none)) s') →
      codeAny (model P w) A (.builtin "set.update.loop" ⟨[.ref S, .ref I], []⟩) R s := by
  have hSw : S ∉ wr := fun h => hSf (W.sub _ h)
  have hsub : ∀ b ∈ wr, b ∈ S :: wr := fun b hb => List.mem_cons_of_mem _ hb
  have keepM : ∀ {s s' : Shared}, Moved wr G s s' → (∀ b o, h0.get? b = some o → s.heap.get? b = some o) → ∀ b o, h0.get? b = some o → s'.heap.get? b = some o := fun hm hkp b o e =>
    hm.heap b o (fun hb => by rw [hw0 b hb] at e; cases e) (hkp b o e)
  intro k
  induction k with
  | zero =>
    intro i s hk' hi hst hkp hS hR
    have hin : i = items.size := by omega
    subst hin
    refine codeAny_builtin PyProof.Rows.F.entry_set_update_loop ?_
    rw [Around.under_plainId PyProof.Rows.F.plain_set_update_loop _]
    show wpAny _ A.in1 (pyNext (.ref I) >>= _) _ _ s
    refine wpAny_bind (W.done s _ _ hst fun s' hm => ?_)
    show wpAny _ A.in1 (ret Value.none) _ _ s'
    have hkp' := keepM hm hkp
    exact wpAny_pure (hR s' (hm.mono hsub) (K.keep _ _ _ hS (fun o e => hm.heap S o hSw e) hkp') hkp')
  | succ k ih =>
    intro i s hk' hi hst hkp hS hR
    have hlt : i < items.size := by omega
    refine codeAny_builtin PyProof.Rows.F.entry_set_update_loop ?_
    rw [Around.under_plainId PyProof.Rows.F.plain_set_update_loop _]
    show wpAny _ A.in1 (pyNext (.ref I) >>= _) _ _ s
    refine wpAny_bind (W.item i s _ _ hlt hst fun v s' hP hst' hm => ?_)
    have hv := hval i v hP
    have hkp' := keepM hm hkp
    have hS' := K.keep _ _ _ hS (fun o e => hm.heap S o hSw e) hkp'
    show wpAny _ A.in1 (holding [v] (setAdd S v) >>= _) _ _ s'
    refine wpAny_bind (wpAny_holding ?_)
    refine K.add i v s' A.in1 _ _ hu hv hS' hkp' fun b h' tk htk hsb hS2 => ?_
    have hkp2 : ∀ b o, h0.get? b = some o → h'.get? b = some o := fun b o e => (hsb.2 b (fun z => by rw [z, hS0] at e; cases e)).trans (hkp' b o e)
    refine wpAny_pure ⟨plainId_quiet PyProof.Rows.F.plain_set_update_loop _, ih (i + 1) _ (by omega) hlt (W.frame _ s' _ _ hst' htk fun b hb o e => ?_) hkp2 hS2 fun s'' hm'' hS'' hkp'' => ?_⟩
    · rw [hsb.2 b (fun h : b = S => hSf (by rw [← h]; exact hb))]; exact e
    · refine hR s'' (Moved.trans W.gtrans ((hm.mono hsub).then_heap htk fun b o hb e => ?_) hm'') hS'' hkp''
      rw [hsb.2 b (fun h : b = S => hb (by rw [h]; exact List.mem_cons_self))]; exact e
theorem call_set_l {l : Addr} {items : Array Value} {RP : Nat → Heap → Prop} {Q : Value → Shared → Prop} (hh : A.handled = none) (hl : s.heap.IsList l items) (hRP : SetStep P w s.heap s.heap.objs.size items RP) (hu : A.units + 60 < cLine)
    (h : ∀ (h' : Heap) (tk : Nat), RP items.size h' → (∀ b o, s.heap.get? b = some o → h'.get? b = some o) → Q (.ref s.heap.objs.size) { s with heap := h', toks := tk }) :
    wpAny (model P w) A (call (.type "set") [.ref l]) Q E s := by
  obtain ⟨c, tl, hmro⟩ := PySem.F.called_set.mro
  have hmade := PySem.F.called_set.made
  have hsub := PySem.F.called_set.sub
  refine wpAny_call (codeAny_of_tree ?_)
  show wpAny _ _ (callAny (.type "set") _) _ _ _
  refine wpAny_pure ⟨Code.quiet_builtin _ (by decide +kernel), codeAny_builtin PySem.F.entry_type_call ?_⟩
  rw [Around.under_plain (weight_type_call_type "set" [.ref l] []) rfl]
  have h1 := PySem.F.called_set.notType
  have h2 := PySem.F.called_set.canCreate
  have hct := PySem.F.typeCall_set_1 (.ref l)
  repeat (any_goals (first | assumption | wp_step))

  refine codeAny_mono (code_set_led1 (.ref l) (E := E) (Q₁ := fun obj s₁ => obj = .ref s.heap.objs.size ∧ s₁ = { s with heap := s.heap.push { cls := .type "set", dict := none, data := .set #[] 0 (.fresh 0 0 (!w.params.followText "set-order")) } }) ⟨rfl, rfl⟩) fun r s₁ hr => ?_
  cases r with
  | error e => exact hr
  | ok fl =>
    cases fl with
    | ret obj =>
      obtain ⟨rfl, rfl⟩ := hr
      have hS : (s.heap.push { cls := .type "set", dict := none, data := .set #[] 0 (.fresh 0 0 (!w.params.followText "set-order")) }).get? s.heap.objs.size = some { cls := .type "set", dict := none, data := .set #[] 0 (.fresh 0 0 (!w.params.followText "set-order")) } := Heap.get?_push_size _ rfl
      have hT : Shared.TypeIs { s with heap := s.heap.push { cls := .type "set", dict := none, data := .set #[] 0 (.fresh 0 0 (!w.params.followText "set-order")) } } (.ref s.heap.objs.size) "set" := ⟨_, hS, rfl⟩
      have hli := PySem.F.called_set.init.lookup
      have hbi := PySem.F.called_set.init.bind (.ref s.heap.objs.size)
      repeat (any_goals (first | assumption | wp_step))

      refine codeAny_mono (codeAny_call_builtin (R := wants (fun r s₂ => r = .none ∧ ∃ h' tk, s₂ = { s with heap := h', toks := tk } ∧ RP items.size h' ∧
          (∀ b o, s.heap.get? b = some o → h'.get? b = some o)) E) PySem.F.called_set.init.plain PySem.F.entry_set_init (check_set_init_1 hT ?_)) fun r₂ s₂ hr₂ => ?_
      · obtain ⟨ol, hol, hcl, nl, hdl⟩ := hl
        obtain ⟨ocls, odict, odata, oslots⟩ := ol
        simp only at hcl hdl
        subst hcl; subst hdl
        have hol' : (s.heap.push { cls := .type "set", dict := none, data := .set #[] 0 (.fresh 0 0 (!w.params.followText "set-order")) }).get? l = some { cls := .type "list", dict := odict, data := .seq items nl, slots := oslots } := Heap.get?_push_of_some _ hol
        have hsls := PySem.F.sub_list_set
        have hslf := PySem.F.sub_list_frozenset
        have hne : (Value.type "list" == Value.type "dict") = false := by decide
        have hl1 : (s.heap.push { cls := .type "set", dict := none, data := .set #[] 0 (.fresh 0 0 (!w.params.followText "set-order")) }).IsList l items := ⟨_, hol', rfl, nl, rfl⟩
        unfold Builtin.«set.__init__» noKeywords Builtin.Frozenset.updateFrom
        generalize hPI : pyIter = PI
        wp_walk
        subst hPI

        refine wpAny_pyIter_list hl1 ?_
        refine wpAny_bind (wpAny_runValue ?_)
        have hlS : l < s.heap.objs.size := Heap.lt_size hol
        have hh3 : A.in1.in1.in1.handled = none := by simp [hh]
        have hz1 : (s.heap.push { cls := .type "set", dict := none, data := .set #[] 0 (.fresh 0 0 (!w.params.followText "set-order")) }).objs.size = s.heap.objs.size + 1 := Heap.size_push ..
        have hneI : l ≠ (s.heap.push { cls := .type "set", dict := none, data := .set #[] 0 (.fresh 0 0 (!w.params.followText "set-order")) }).objs.size := by
          rw [Heap.size_push]; exact Nat.ne_of_lt (Nat.lt_succ_of_lt hlS)
        have hSf : s.heap.objs.size ∉ [(s.heap.push { cls := .type "set", dict := none, data := .set #[] 0 (.fresh 0 0 (!w.params.followText "set-order")) }).objs.size, l] := by
          rw [Heap.size_push]; simp only [List.mem_cons, List.mem_singleton, List.not_mem_nil, or_false, not_or]
          exact ⟨Nat.ne_of_lt (Nat.lt_succ_self _), Nat.ne_of_gt hlS⟩
        have none_of : ∀ b, s.heap.objs.size ≤ b → s.heap.get? b = none := fun b hb => by
          cases q : s.heap.get? b with
          | none => rfl
          | some o => exact absurd (Nat.lt_of_lt_of_le (Heap.lt_size q) hb) (Nat.lt_irrefl _)
        refine set_loop ((Walks.list hh3 _ l hneI items).toS) s.heap.objs.size hSf hRP (fun _ _ z => z) (none_of _ (Nat.le_refl _)) (fun b hb => none_of b (by
            rw [List.mem_singleton.mp hb, Heap.size_push]
            exact Nat.le_succ _)) (by show A.units + 1 + 1 + 1 + 40 < cLine; omega) (items.size - 0) 0 _ (by omega) (Nat.zero_le _)
          ⟨⟨_, Heap.get?_push_size _ rfl, rfl, rfl⟩, (hl1.push _)⟩ (fun b o e => Heap.get?_push_of_some _ (Heap.get?_push_of_some _ e)) ?hS0 ?hR
        case hS0 =>
          have hget : ((s.heap.push { cls := .type "set", dict := none, data := .set #[] 0 (.fresh 0 0 (!w.params.followText "set-order")) }).push { cls := .type "list_iterator", data := .fields #[.ref l, .int 0 0] }).get? s.heap.objs.size
              = some { cls := .type "set", dict := none, data := .set #[] 0 (.fresh 0 0 (!w.params.followText "set-order")) } := Heap.get?_push_of_some _ hS
          exact hRP.zero _ hget fun b o e => Heap.get?_push_of_some _ (Heap.get?_push_of_some _ e)
        case hR =>
          intro s' hm hS' hkp
          obtain ⟨h', g2, d', tk', os'⟩ := s'
          have eg : g2 = s.gens := hm.gens
          have ed : d' = s.drawn := hm.drawn
          have eo : os' = s.os := hm.os
          subst eg; subst ed; subst eo
          show wpAny _ _ _ _ _ _
          refine wpAny_pure ?_
          show wpAny _ _ (ret Value.none) _ _ _
          exact wpAny_pure ⟨rfl, h', tk', rfl, hS', hkp⟩

      · cases r₂ with
        | error e => exact hr₂
        | ok fl₂ =>
          cases fl₂ with
          | ret r =>
            obtain ⟨rfl, h', tk, rfl, hS', hk'⟩ := hr₂
            repeat (any_goals (first | assumption | wp_step))
            exact h _ _ hS' hk'
          | _ => exact hr₂.elim
    | _ => exact hr.elim
theorem call_set_t {l : Addr} {items : Array Value} {RP : Nat → Heap → Prop} {Q : Value → Shared → Prop} (hh : A.handled = none) (hl : s.heap.IsTuple l items) (hRP : SetStep P w s.heap s.heap.objs.size items RP) (hu : A.units + 60 < cLine)
    (h : ∀ (h' : Heap) (tk : Nat), RP items.size h' → (∀ b o, s.heap.get? b = some o → h'.get? b = some o) → Q (.ref s.heap.objs.size) { s with heap := h', toks := tk }) :
    wpAny (model P w) A (call (.type "set") [.ref l]) Q E s := by
  obtain ⟨c, tl, hmro⟩ := PySem.F.called_set.mro
  have hmade := PySem.F.called_set.made
  have hsub := PySem.F.called_set.sub
  refine wpAny_call (codeAny_of_tree ?_)
  show wpAny _ _ (callAny (.type "set") _) _ _ _
  refine wpAny_pure ⟨Code.quiet_builtin _ (by decide +kernel), codeAny_builtin PySem.F.entry_type_call ?_⟩
  rw [Around.under_plain (weight_type_call_type "set" [.ref l] []) rfl]
  have h1 := PySem.F.called_set.notType
  have h2 := PySem.F.called_set.canCreate
  have hct := PySem.F.typeCall_set_1 (.ref l)
  repeat (any_goals (first | assumption | wp_step))

  refine codeAny_mono (code_set_led1 (.ref l) (E := E) (Q₁ := fun obj s₁ => obj = .ref s.heap.objs.size ∧ s₁ = { s with heap := s.heap.push { cls := .type "set", dict := none, data := .set #[] 0 (.fresh 0 0 (!w.params.followText "set-order")) } }) ⟨rfl, rfl⟩) fun r s₁ hr => ?_
  cases r with
  | error e => exact hr
  | ok fl =>
    cases fl with
    | ret obj =>
      obtain ⟨rfl, rfl⟩ := hr
      have hS : (s.heap.push { cls := .type "set", dict := none, data := .set #[] 0 (.fresh 0 0 (!w.params.followText "set-order")) }).get? s.heap.objs.size = some { cls := .type "set", dict := none, data := .set #[] 0 (.fresh 0 0 (!w.params.followText "set-order")) } := Heap.get?_push_size _ rfl
      have hT : Shared.TypeIs { s with heap := s.heap.push { cls := .type "set", dict := none, data := .set #[] 0 (.fresh 0 0 (!w.params.followText "set-order")) } } (.ref s.heap.objs.size) "set" := ⟨_, hS, rfl⟩
      have hli := PySem.F.called_set.init.lookup
      have hbi := PySem.F.called_set.init.bind (.ref s.heap.objs.size)
      repeat (any_goals (first | assumption | wp_step))

      refine codeAny_mono (codeAny_call_builtin (R := wants (fun r s₂ => r = .none ∧ ∃ h' tk, s₂ = { s with heap := h', toks := tk } ∧ RP items.size h' ∧
          (∀ b o, s.heap.get? b = some o → h'.get? b = some o)) E) PySem.F.called_set.init.plain PySem.F.entry_set_init (check_set_init_1 hT ?_)) fun r₂ s₂ hr₂ => ?_
      · obtain ⟨ol, hol, hcl, nl, hdl⟩ := hl
        obtain ⟨ocls, odict, odata, oslots⟩ := ol
        simp only at hcl hdl
        subst hcl; subst hdl
        have hol' : (s.heap.push { cls := .type "set", dict := none, data := .set #[] 0 (.fresh 0 0 (!w.params.followText "set-order")) }).get? l = some { cls := .type "tuple", dict := odict, data := .seq items nl, slots := oslots } := Heap.get?_push_of_some _ hol
        have hsls := PySem.F.sub_tuple_set
        have hslf := PySem.F.sub_tuple_frozenset
        have hne : (Value.type "tuple" == Value.type "dict") = false := by decide
        have hl1 : (s.heap.push { cls := .type "set", dict := none, data := .set #[] 0 (.fresh 0 0 (!w.params.followText "set-order")) }).IsTuple l items := ⟨_, hol', rfl, nl, rfl⟩
        unfold Builtin.«set.__init__» noKeywords Builtin.Frozenset.updateFrom
        generalize hPI : pyIter = PI
        wp_walk
        subst hPI

        refine wpAny_pyIter_tuple hl1 ?_
        refine wpAny_bind (wpAny_runValue ?_)
        have hlS : l < s.heap.objs.size := Heap.lt_size hol
        have hh3 : A.in1.in1.in1.handled = none := by simp [hh]
        have hz1 : (s.heap.push { cls := .type "set", dict := none, data := .set #[] 0 (.fresh 0 0 (!w.params.followText "set-order")) }).objs.size = s.heap.objs.size + 1 := Heap.size_push ..
        have hneI : l ≠ (s.heap.push { cls := .type "set", dict := none, data := .set #[] 0 (.fresh 0 0 (!w.params.followText "set-order")) }).objs.size := by
          rw [Heap.size_push]; exact Nat.ne_of_lt (Nat.lt_succ_of_lt hlS)
        have hSf : s.heap.objs.size ∉ [(s.heap.push { cls := .type "set", dict := none, data := .set #[] 0 (.fresh 0 0 (!w.params.followText "set-order")) }).objs.size, l] := by
          rw [Heap.size_push]; simp only [List.mem_cons, List.mem_singleton, List.not_mem_nil, or_false, not_or]
          exact ⟨Nat.ne_of_lt (Nat.lt_succ_self _), Nat.ne_of_gt hlS⟩
        have none_of : ∀ b, s.heap.objs.size ≤ b → s.heap.get? b = none := fun b hb => by
          cases q : s.heap.get? b with
          | none => rfl
          | some o => exact absurd (Nat.lt_of_lt_of_le (Heap.lt_size q) hb) (Nat.lt_irrefl _)
        refine set_loop ((Walks.tuple hh3 _ l hneI items).toS) s.heap.objs.size hSf hRP (fun _ _ z => z) (none_of _ (Nat.le_refl _)) (fun b hb => none_of b (by
            rw [List.mem_singleton.mp hb, Heap.size_push]
            exact Nat.le_succ _)) (by show A.units + 1 + 1 + 1 + 40 < cLine; omega) (items.size - 0) 0 _ (by omega) (Nat.zero_le _)
          ⟨⟨_, Heap.get?_push_size _ rfl, rfl, rfl⟩, (hl1.push _)⟩ (fun b o e => Heap.get?_push_of_some _ (Heap.get?_push_of_some _ e)) ?hS0 ?hR
        case hS0 =>
          have hget : ((s.heap.push { cls := .type "set", dict := none, data := .set #[] 0 (.fresh 0 0 (!w.params.followText "set-order")) }).push { cls := .type "tuple_iterator", data := .fields #[.ref l, .int 0 0] }).get? s.heap.objs.size
              = some { cls := .type "set", dict := none, data := .set #[] 0 (.fresh 0 0 (!w.params.followText "set-order")) } := Heap.get?_push_of_some _ hS
          exact hRP.zero _ hget fun b o e => Heap.get?_push_of_some _ (Heap.get?_push_of_some _ e)
        case hR =>
          intro s' hm hS' hkp
          obtain ⟨h', g2, d', tk', os'⟩ := s'
          have eg : g2 = s.gens := hm.gens
          have ed : d' = s.drawn := hm.drawn
          have eo : os' = s.os := hm.os
          subst eg; subst ed; subst eo
          show wpAny _ _ _ _ _ _
          refine wpAny_pure ?_
          show wpAny _ _ (ret Value.none) _ _ _
          exact wpAny_pure ⟨rfl, h', tk', rfl, hS', hkp⟩

      · cases r₂ with
        | error e => exact hr₂
        | ok fl₂ =>
          cases fl₂ with
          | ret r =>
            obtain ⟨rfl, h', tk, rfl, hS', hk'⟩ := hr₂
            repeat (any_goals (first | assumption | wp_step))
            exact h _ _ hS' hk'
          | _ => exact hr₂.elim
    | _ => exact hr.elim
end
end Ev
set_option maxHeartbeats 4000000
/-! Ev: set(t), set(xs) of texts by data. -/
namespace Ev
open PySem PySem.Spec PyProof.Rows L2
/-- the first of each -/
def firstK : List Key → List Key → List Key
  | acc, [] => acc
  | acc, k :: ks => if inK k acc = true then firstK acc ks else firstK (acc ++ [k]) ks
theorem firstK_snoc : ∀ (ks acc : List Key) (k : Key), firstK acc (ks ++ [k]) = if inK k (firstK acc ks) = true then firstK acc ks else firstK acc ks ++ [k]
  | [], acc, k => by simp only [List.nil_append, firstK]; rfl
  | x :: ks, acc, k => by
    simp only [List.cons_append, firstK]
    split
    · exact firstK_snoc ks acc k
    · exact firstK_snoc ks _ k
theorem firstK_nodup : ∀ (ks acc : List Key), acc.Nodup → (firstK acc ks).Nodup
  | [], acc, h => h
  | x :: ks, acc, h => by
    unfold firstK
    split
    · exact firstK_nodup ks acc h
    · rename_i hm
      exact firstK_nodup ks _ (List.nodup_append.mpr ⟨h, by simp, fun a ha b hb => by rw [List.mem_singleton.mp hb]; exact fun z => hm (inK_iff.mpr (z ▸ ha))⟩)
theorem firstK_len : ∀ (ks acc : List Key), (firstK acc ks).length ≤ acc.length + ks.length
  | [], acc => by simp [firstK]
  | x :: ks, acc => by
    unfold firstK
    split
    · have := firstK_len ks acc; simp only [List.length_cons]; omega
    · have := firstK_len ks (acc ++ [x]); simp only [List.length_append, List.length_cons, List.length_nil] at this ⊢; omega
theorem vals_back : ∀ {xs : List V} {us : List Value} {i : Nat} {u : Value}, Vals xs us → us[i]? = some u → ∃ x, xs[i]? = some x ∧ L2.RelV x u
  | _, _, _, _, .nil, e => by simp at e
  | _, _, 0, _, .cons h _, e => by simp at e; subst e; exact ⟨_, rfl, h⟩
  | _, _, i + 1, _, .cons _ r, e => by
    obtain ⟨x, h1, h2⟩ := vals_back (i := i) r (by simpa using e)
    exact ⟨x, by simpa using h1, h2⟩
theorem setAdd_M {P : Program} {w : World} {A : Around} {E : Value → Shared → Prop} {s : Shared} {a : Addr} {S : Key → Bool} {n : Nat} {k : Key} {u : Value} {Q : Bool → Shared → Prop} (hu : L2.RelV (kV k) u) (R : SetM P w s.heap a S n) (room : n + 1 < scanBound)
    (hQ : ∀ h', Heap.SameBut a s.heap h' → SetM P w h' a (fun j => S j || decide (j = k)) (if S k = true then n else n + 1) → Q (!S k) { s with heap := h', toks := s.toks + 1 }) : wpAny (model P w) A (setAdd a u) Q E s := by
  unfold setAdd
  refine wpAny_holding ?_
  refine wpAny_bind ((mixKind P w).pyHash (kV_is hu) ?_)
  exact setM_hashed (s := { s with toks := s.toks + 1 }) hu R room fun h' sb r => hQ h' sb r
theorem step_M {P : Program} {w : World} {h0 : Heap} {S : Addr} {items : Array Value} {ks : List Key} (hv : Vals (ks.map kV) items.toList) (hl : ks.length < 4000) (hS : h0.get? S = none) : SetStep P w h0 S items (fun i h => SetM P w h S (fun k => inK k (firstK [] (ks.take i))) (firstK [] (ks.take i)).length) where
  zero := fun h ho _ => by
    refine ⟨_, #[], 0, _, ho, ⟨rfl, rfl, rfl⟩, rfl, (fun e he => by simp at he), (by simp), (fun k => by simp [firstK, inK]), (by decide), (by rfl), rfl, List.Pairwise.nil, ?_⟩
    show _ ∨ (!w.params.followText "set-order") = true
    cases w.params.followText "set-order"
    · exact .inr rfl
    · exact .inl rfl
  keep := fun i h h' R k _ => R.at k
  add := fun i v s A E Q _ hi R _ hQ => by
    have hi' : items.toList[i]? = some v := by rw [Array.getElem?_toList]; exact hi
    obtain ⟨kv, hkv, rv⟩ := vals_back hv hi'
    rw [List.getElem?_map] at hkv
    cases e : ks[i]? with
    | none => rw [e] at hkv; cases hkv
    | some key =>
      rw [e] at hkv
      cases hkv
      have ht : ks.take (i + 1) = ks.take i ++ [key] := by rw [List.take_add_one, e]; rfl
      have hn : (firstK [] (ks.take i)).length + 1 < scanBound := by
        have h1 := firstK_len (ks.take i) []
        have h2 : (ks.take i).length ≤ ks.length := by rw [List.length_take]; omega
        show _ < 4096
        simp only [List.length_nil] at h1
        omega
      refine setAdd_M rv R hn fun h' sb R' => hQ _ h' _ (Nat.le_succ _) sb ?_
      rw [ht, firstK_snoc]
      cases hm : inK key (firstK [] (ks.take i)) with
      | true =>
        rw [hm] at R'
        refine R'.congr (fun j => ?_) (by simp)
        by_cases hj : j = key
        · subst hj; simp [hm]
        · simp [hj]
      | false =>
        rw [hm] at R'
        refine R'.congr (fun j => ?_) (by simp)
        simp only [Bool.false_eq_true, if_false]
        rw [inK_snoc]
        congr 1
        exact decide_eq_decide.mpr eq_comm
/-! ### by data -/
section
variable {X : Cx} {G : Gx} {mg : Str → Option Value} {base : Heap} {k : Nat} {e : Expr} {pos : Pos}
def cSetOf (f : Env → Option (List D)) : Env → Option (List D) := fun env => match f env with
  | some [d] => (match seqD d with
    | some xs => (match keysD xs with
      | some ks => if ks.length < 4000 then some ((firstK [] ks).map dKey) else none
      | none => none)
    | none => none)
  | _ => none
theorem keysD_map : ∀ ks : List Key, keysD (ks.map dKey) = some ks
  | [] => rfl
  | k :: ks => by
    have h1 : keyD (dKey k) = some k := by cases k <;> rfl
    simp only [List.map_cons, keysD, h1, keysD_map ks]
def rSetD (G : Gx) (ds zs : List D) : List V → Hp → VK → Prop := fun vs H Q => ∃ Kn, Ex Kn H ∧ RelDs G Kn ds vs ∧ ∀ D H' Kn', H D = none → Kn' D = none → Step H Kn H' Kn' → repS G zs D H' Kn' → Q (.ref D) H'
theorem setOf_ok {d : D} {xs : List D} {ks : List Key} (gd : Gd X G mg base k) (h1 : seqD d = some xs) (h2 : keysD xs = some ks) (hl : ks.length < 4000) : CallR X (.type "set") (rSetD G [d] ((firstK [] ks).map dKey)) := by
  intro pins s σ H vs us Q I rv ⟨Kn, ex, rds, q⟩
  obtain ⟨v, rfl, r1⟩ := relDs1 rds
  obtain ⟨u, rfl, ru⟩ := vals1 rv
  have hS0 : s.heap.get? s.heap.objs.size = none := by
    cases z : s.heap.get? s.heap.objs.size with
    | none => rfl
    | some o => exact absurd (Heap.lt_size z) (Nat.lt_irrefl _)
  have hu : X.A.units + 60 < cLine := by have := gd.hr.units; omega
  have fin : ∀ (items : Array Value), SetM X.prog X.w s.heap s.heap.objs.size (fun _ => false) 0 ∨ True → ∀ (h' : Heap) (tk : Nat), ks.take items.size = ks → SetM X.prog X.w h' s.heap.objs.size (fun k => inK k (firstK [] (ks.take items.size))) (firstK [] (ks.take items.size)).length → (∀ b o, s.heap.get? b = some o → h'.get? b = some o) → EP X pins σ Q (.ref s.heap.objs.size) { s with heap := h', toks := tk } := fun items _ h' tk et R kp => by
    rw [et] at R
    have hn : H s.heap.objs.size = none := I.hok.fresh (Nat.le_refl _)
    have so := Step.own (o := SmO G.P G.w s.heap.objs.size (firstK [] ks)) ex hn
    refine ⟨.ref s.heap.objs.size, _, I.laid (t' := tk) kp (Nat.le_refl _) (o := SmO G.P G.w s.heap.objs.size (firstK [] ks)) (by rw [← gd.hP, ← gd.hw]; exact smO_new R), rfl, q _ _ Kn hn (known_none ex hn) so ⟨known_none ex hn, firstK [] ks, keysD_map _, firstK_nodup ks [] .nil, upd_same⟩⟩
  cases d with
  | lst zs =>
    cases h1
    obtain ⟨a, ys, rfl, hs, rr⟩ := lst_sq ex r1
    cases (show u = Value.ref a from ru)
    obtain ⟨its, rvs, pl, hz⟩ := I.list (by rw [gd.hK]; exact hs)
    have hv : Vals (ks.map kV) its := by rw [← keysD_rel rr h2]; exact rvs
    refine call_set_l (I.ok.hd gd.hc) pl.isList (step_M (by simpa using hv) hl hS0) hu fun h' tk R kp => fin its.toArray (.inr trivial) h' tk ?_ R kp
    rw [List.take_of_length_le]
    have := hv.length
    rw [List.length_map] at this
    simp [this]
  | tup zs =>
    cases h1
    obtain ⟨a, ys, rfl, hs, rr⟩ := tup_sq ex r1
    cases (show u = Value.ref a from ru)
    obtain ⟨its, rvs, pl, hz⟩ := I.tuple (by rw [gd.hK]; exact hs)
    have hv : Vals (ks.map kV) its := by rw [← keysD_rel rr h2]; exact rvs
    refine call_set_t (I.ok.hd gd.hc) pl (step_M (by simpa using hv) hl hS0) hu fun h' tk R kp => fin its.toArray (.inr trivial) h' tk ?_ R kp
    rw [List.take_of_length_le]
    have := hv.length
    rw [List.length_map] at this
    simp [this]
  | _ => cases h1
theorem SC.setOf {x : Str} {p : Pos} {f : Env → Option (List D)} (gd : Gd X G mg base k) (hx : x = "set") (hg : Gl X x) (hm : mg x = none) (ha : SA X G [e] f) (he : starEach [e] X.env = (false, eval e X.env) :: starEach [] X.env) : SC X G (repS G) (.Call (.Name x p) [e] [] pos) (cSetOf f) := fun env a q => by
  subst hx
  unfold cSetOf at q
  split at q
  · rename_i d hd
    split at q
    · rename_i xs h1
      split at q
      · rename_i ks h2
        split at q
        · rename_i hl
          cases q
          exact PE.weak (pe_callTy (setOf_ok gd h1 h2 hl) hg (by rw [gd.hm]; exact hm) rfl (ha env _ hd) (by decide) (by decide) he rfl) fun σ H Q ⟨Kn, ex, re, q⟩ => ⟨Kn, ex, re, fun vs H1 K1 s1 r1 => ⟨K1, s1.sub, r1, fun D H2 K2 h3 h4 s2 r2 => q D H2 K2 (fresh_step s1 h3) h4 (s1.trans s2) r2⟩⟩
        · cases q
      · cases q
    · cases q
  · cases q
end
end Ev
set_option maxHeartbeats 4000000
/-! Ev: tuples as members of sets: what a search asks of them. -/
namespace Ev
open PySem PySem.Spec PyProof.Rows L2
section
variable {P : Program} {w : World} {A : Around} {E : Value → Shared → Prop}
mutual
theorem ofA_key : ∀ (k : NestedKey) (v : Value) (n : Nat) (s : Shared), NestedIs s.heap k v → k.depth ≤ n → ∀ Q : Bool → Shared → Prop, Q false s → wpAny (model P w) A (ofAClassStatement n v) Q E s
  | .none, _, n, s, x, _, Q, h => by cases x; cases n <;> exact wpAny_pure h
  | .num i, _, n, s, x, _, Q, h => by cases x <;> cases n <;> exact wpAny_pure h
  | .text z, _, n, s, x, _, Q, h => by cases x; cases n <;> exact wpAny_pure h
  | .tup ks, _, n, s, x, hd, Q, h => by
    cases x with
    | @tup b o items m _ ho hc hdt hi =>
      rw [NestedKey.depth] at hd
      cases n with
      | zero => omega
      | succ n =>
        have hall := ofA_keys ks items.toList n s hi (by omega)
        unfold ofAClassStatement
        refine wpAny_bind (wpAny_typeOf (T := "tuple") ⟨o, ho, hc⟩ ?_)
        dsimp only
        have e : (("tuple" : String) == "tuple") = true := by decide
        simp only [e, if_true, Bool.not_true, Bool.false_eq_true, if_false]
        try refine wpAny_bind (wpAny_pure ?_)
        try simp only [Bool.not_true, Bool.false_eq_true, if_false]
        show wpAny _ _ (seqItems? (.ref b) >>= _) _ _ s
        refine wpAny_bind (wpAny_seqItems ho hdt ?_)
        dsimp only
        refine wpAny_bind ?_
        show wpAny _ _ (forIn items _ _) _ _ s
        rw [← Array.forIn_toList]
        refine wpAny_forIn_list _ (fun rest r s' => r.1 = none ∧ s' = s ∧ ∀ v ∈ rest, ∀ Q : Bool → Shared → Prop, Q false s → wpAny (model P w) A (ofAClassStatement n v) Q E s) _ ?_ ?_ _ _ ⟨rfl, rfl, hall⟩
        · rintro v rest r s' ⟨hr, rfl, hall⟩
          refine wpAny_bind (hall v List.mem_cons_self _ ?_)
          simp only [Bool.false_eq_true, if_false]
          exact wpAny_pure ⟨rfl, rfl, fun u hu' => hall u (List.mem_cons_of_mem _ hu')⟩
        · rintro ⟨r1, r2⟩ s' ⟨hr, rfl, _⟩
          simp only at hr
          subst hr
          exact wpAny_pure h
theorem ofA_keys : ∀ (ks : List NestedKey) (vs : List Value) (n : Nat) (s : Shared), NestedAll s.heap ks vs → NestedKey.depthAll ks ≤ n → ∀ v ∈ vs, ∀ Q : Bool → Shared → Prop, Q false s → wpAny (model P w) A (ofAClassStatement n v) Q E s
  | [], _, n, s, x, _, v, hv => by cases x; cases hv
  | k :: ks, _, n, s, x, hn, v, hv => by
    cases x with
    | cons x1 x2 =>
      simp only [NestedKey.depthAll] at hn
      rcases List.mem_cons.mp hv with e | hv
      · rw [e]; exact ofA_key k _ n s x1 (by omega)
      · exact ofA_keys ks _ n s x2 (by omega) v hv
end
mutual
/-- by value or not: the state stays -/
theorem hby_key : ∀ (k : NestedKey) (v : Value) (n : Nat) (s : Shared), NestedIs s.heap k v → ∀ Q : Bool → Shared → Prop, (∀ b, Q b s) → wpAny (model P w) A (hashByValue n v) Q E s
  | .none, _, n, s, x, Q, h => by cases x; cases n <;> exact wpAny_pure (h _)
  | .num i, _, n, s, x, Q, h => by cases x <;> cases n <;> exact wpAny_pure (h _)
  | .text z, _, n, s, x, Q, h => by cases x; cases n <;> exact wpAny_pure (h _)
  | .tup ks, _, n, s, x, Q, h => by
    cases x with
    | @tup b o items m _ ho hc hdt hi =>
      cases n with
      | zero => exact wpAny_pure (h _)
      | succ n =>
        have hall := hby_keys ks items.toList n s hi
        unfold hashByValue
        refine wpAny_bind (wpAny_specialOf (T := "tuple") ⟨o, ho, hc⟩ PySem.F.slot_tuple_hash.lookup ?_)
        show wpAny _ _ (seqItems? (.ref b) >>= _) _ _ s
        refine wpAny_bind (wpAny_seqItems ho hdt ?_)
        refine wpAny_bind ?_
        show wpAny _ _ (forIn items _ _) _ _ s
        rw [← Array.forIn_toList]
        refine wpAny_forIn_list _ (fun rest r s' => s' = s ∧ ∀ v ∈ rest, ∀ Q : Bool → Shared → Prop, (∀ b, Q b s) → wpAny (model P w) A (hashByValue n v) Q E s) _ ?_ ?_ _ _ ⟨rfl, hall⟩
        · rintro v rest r s' ⟨rfl, hall⟩
          refine wpAny_bind (hall v List.mem_cons_self _ fun b => ?_)
          cases b
          · exact wpAny_pure (wpAny_pure (h _))
          · exact wpAny_pure ⟨rfl, fun u hu' => hall u (List.mem_cons_of_mem _ hu')⟩
        · rintro ⟨r1, r2⟩ s' ⟨rfl, _⟩
          cases r1 with
          | none => exact wpAny_pure (h _)
          | some z => exact wpAny_pure (h _)
theorem hby_keys : ∀ (ks : List NestedKey) (vs : List Value) (n : Nat) (s : Shared), NestedAll s.heap ks vs → ∀ v ∈ vs, ∀ Q : Bool → Shared → Prop, (∀ b, Q b s) → wpAny (model P w) A (hashByValue n v) Q E s
  | [], _, n, s, x, v, hv => by cases x; cases hv
  | k :: ks, _, n, s, x, v, hv => by
    cases x with
    | cons x1 x2 =>
      rcases List.mem_cons.mp hv with e | hv
      · rw [e]; exact hby_key k _ n s x1
      · exact hby_keys ks _ n s x2 v hv
end
end
end Ev
set_option maxHeartbeats 4000000
/-! Ev: sets of tuples, nested: the table's rules of the hand layer, turned from tuples of ints to the library's nested keys. -/
namespace Ev
open PySem PySem.Spec PyProof.Rows L2
abbrev NsT (P : Program) (w : World) (h : Heap) (k : NestedKey) (a : Addr) : Prop := (nestedKind P w).is h k a
abbrev nhash (P : Program) (w : World) (k : NestedKey) : Int := (nestedKind P w).hash k
theorem tab_like {t t' : SetTable} {hs : List Int} (e1 : t'.place = t.place) (e2 : t'.mask = t.mask) (e3 : t'.dummies = t.dummies) (T : TabOk t hs) : TabOk t' hs :=
  ⟨by rw [e1]; exact T.ris, by rw [e3]; exact T.dm, by rw [e1]; exact T.sz, by rw [e2]; exact T.mok, by rw [e1, e2]; exact T.bd, by rw [e1, e2]; exact T.reach⟩
section
variable {P : Program} {w : World} {A : Around} {E : Value → Shared → Prop} {s : Shared}
theorem by_val {β : Type} {t : SetTable} {k : NestedKey} {x : Addr} {F : Bool → Sem β} {Q : β → Shared → Prop} (hx : NsT P w s.heap k x) (h : ∀ b, wpAny (model P w) A (F b) Q E s) : wpAny (model P w) A (if t.plain = true then (do let b ← hashByValue 8 (.ref x); F b) else (do let b ← pure true; F b)) Q E s := by
  split
  · exact wpAny_bind (hby_key k _ 8 s hx.1 _ h)
  · exact wpAny_bind (wpAny_pure (h _))
theorem nseen {k : NestedKey} {b : Addr} {Q : Bool → Shared → Prop} (hk : NsT P w s.heap k b) {ys : List Value} (hy : ∀ y ∈ ys, ∃ k' c, y = Value.ref c ∧ NsT P w s.heap k' c) (h : Q false s) :
    wpAny (model P w) A (searchCouldBeSeen (.ref b) ys) Q E s := by
  unfold searchCouldBeSeen
  refine wpAny_bind ?_
  refine wpAny_forIn_list _ (fun rest r s' => r.1 = none ∧ s' = s ∧ ∀ y ∈ rest, ∃ k' c, y = Value.ref c ∧ NsT P w s.heap k' c) _ ?_ ?_ _ _ ⟨rfl, rfl, hy⟩
  · rintro v rest r s' ⟨hr, rfl, hall⟩
    obtain ⟨k', c, rfl, hc⟩ := hall v List.mem_cons_self
    have rest' : ∀ y ∈ rest, ∃ k' c, y = Value.ref c ∧ NsT P w s'.heap k' c := fun u hu' => hall u (List.mem_cons_of_mem _ hu')
    dsimp only
    by_cases hv : (b == c || (carriedByValue (.ref b) && carriedByValue (.ref c))) = true
    · refine wp_if_pos hv ?_
      exact wpAny_pure ⟨rfl, rfl, rest'⟩
    · refine wp_if_neg hv ?_
      refine wpAny_bind ((nestedKind P w).quiet hk ?_)
      simp only [Bool.not_true, Bool.false_eq_true, if_false]
      refine wpAny_bind ((nestedKind P w).quiet hc ?_)
      simp only [Bool.not_true, Bool.false_eq_true, if_false]
      refine wpAny_bind (ofA_key _ _ 8 _ hk.1 hk.2 _ ?_)
      simp only [Bool.false_eq_true, if_false]
      refine wpAny_bind (ofA_key _ _ 8 _ hc.1 hc.2 _ ?_)
      simp only [Bool.false_eq_true, if_false]
      exact wpAny_pure ⟨rfl, rfl, rest'⟩
  · rintro ⟨r1, r2⟩ s' ⟨hr, rfl, _⟩
    simp only at hr
    subst hr
    exact wpAny_pure h
def rowsN (P : Program) (w : World) (L : List (Addr × NestedKey)) : List (Int × Value) := L.map fun p => (nhash P w p.2, Value.ref p.1)
structure SetNR (P : Program) (w : World) (h : Heap) (a : Addr) (L : List (Addr × NestedKey)) (es : Array (Int × Value)) (ep : Nat) (t : SetTable) : Prop where
  ob : ∃ o, h.get? a = some o ∧ o.ExactSet ∧ o.data = .set es ep t
  rows : es.toList = rowsN P w L
  tab : TabOk t (L.map fun p => nhash P w p.2)
  nd : (L.map (·.2)).Nodup
  tup : ∀ p ∈ L, NsT P w h p.2 p.1
  plain : True
  led : w.params.followText "set-order" = true ∨ t.led = true
  room : L.length * 5 < t.mask * 3
  few : L.length < 64
variable {a : Addr} {L : List (Addr × NestedKey)} {es : Array (Int × Value)} {ep : Nat} {t : SetTable}
theorem SetNR.size (R : SetNR P w s.heap a L es ep t) : es.size = L.length := by
  have h := congrArg List.length R.rows
  unfold rowsN at h
  rw [Array.length_toList, List.length_map] at h
  exact h
theorem SetNR.fits (R : SetNR P w s.heap a L es ep t) : t.fits es.size = true := by
  have h1 := R.tab.sz
  rw [List.length_map] at h1
  have h2 := R.size
  have h3 := R.room
  unfold SetTable.fits SetTable.fill
  rw [R.tab.dm, Bool.and_eq_true, beq_iff_eq, decide_eq_true_eq]
  show t.place.size = es.size ∧ t.place.size + 0 ≤ t.mask
  omega
theorem SetNR.entry (R : SetNR P w s.heap a L es ep t) {i : Nat} {p : Addr × NestedKey} (h : L[i]? = some p) : es[i]? = some (nhash P w p.2, Value.ref p.1) := by
  rw [← Array.getElem?_toList, R.rows]
  unfold rowsN
  rw [List.getElem?_map, h] <;> rfl
theorem SetNR.gw (R : SetNR P w s.heap a L es ep t) : ¬ t.gaveWay = true := by
  unfold SetTable.gaveWay
  rw [mask_odd R.tab.mok]
  decide
theorem sameMem (t : SetTable) : t.sameMemory t.moves t.mask = some true := by
  unfold SetTable.sameMemory
  rw [if_pos (beq_self_eq_true _)]

/-- THE SEARCH: from the c-th step of the way on -/
theorem nsearch_from (R : SetNR P w s.heap a L es ep t) {x : Addr} {k : NestedKey} (hx : NsT P w s.heap k x) (hu : A.units + 8 < cLine) {K : Nat} (hKf : K < 10 * SetTable.turns t.mask)
    (hK : way t.mask (nhash P w k) K ∉ t.place.toList) (hKb : ∀ c, c < K → way t.mask (nhash P w k) c ∈ t.place.toList) {Q : SetFound → Shared → Prop}
    (hin : k ∈ L.map (·.2) → Q (.there none) s) (hout : k ∉ L.map (·.2) → Q (.free (way t.mask (nhash P w k) K) false) s) :
    ∀ (f c : Nat) (stand : Option SetTable.Probe), stand.getD (t.probeStart (nhash P w k)) = nth t.mask (runAt t.mask (SetTable.bits (nhash P w k) % (t.mask + 1)) (SetTable.bits (nhash P w k))) c → c ≤ K → K - c < f →
      (∀ (i : Nat) p, L[i]? = some p → p.2 = k → ∃ c', c ≤ c' ∧ c' < K ∧ t.place.toList[i]? = some (way t.mask (nhash P w k) c')) →
      wpAny (model P w) A (setSearchFrom a (.ref x) (nhash P w k) true f stand) Q E s
  | 0, c, stand, _, _, hf, _ => absurd hf (Nat.not_lt_zero _)
  | f + 1, c, stand, hst, hc, hf, hre => by
    obtain ⟨o, ho, hex, hd⟩ := R.ob
    rw [setSearchFrom_succ]
    refine wpAny_bind (wpAny_setState_of ho hd R.fits ?_)
    dsimp only
    refine wp_if_neg R.gw ?_
    try refine wpAny_bind (wpAny_pure ?_)
    have hnd : (nth t.mask (runAt t.mask (SetTable.bits (nhash P w k) % (t.mask + 1)) (SetTable.bits (nhash P w k))) c).dummy = none := by
      have key : ∀ (n : Nat) (p : SetTable.Probe), p.dummy = none → (nth t.mask p n).dummy = none := by
        intro n
        induction n with
        | zero => intro p h; exact h
        | succ n ih =>
          intro p h
          refine ih (adv t.mask p) ?_
          unfold adv
          split <;> exact h
      exact key c _ rfl
    have sh : ∀ q, nth t.mask (nth t.mask (runAt t.mask (SetTable.bits (nhash P w k) % (t.mask + 1)) (SetTable.bits (nhash P w k))) c) q = nth t.mask (runAt t.mask (SetTable.bits (nhash P w k) % (t.mask + 1)) (SetTable.bits (nhash P w k))) (c + q) := fun q => (nth_add t.mask c _ q).symm
    have e1 : ∀ q, (nth t.mask (nth t.mask (runAt t.mask (SetTable.bits (nhash P w k) % (t.mask + 1)) (SetTable.bits (nhash P w k))) c) q).j = way t.mask (nhash P w k) (c + q) := fun q => congrArg SetTable.Probe.j (sh q)
    have spec := go_spec t R.tab.ris R.tab.dm (fun i => (es[i]?.map (·.1)).getD 0) (nhash P w k) (10 * SetTable.turns t.mask) (K - c) _ hnd (by omega)
      (fun q hq => by rw [e1]; exact hKb (c + q) (by omega)) (by rw [e1, show c + (K - c) = K by omega]; exact hK)
    have hashAt : ∀ (i : Nat) p, L[i]? = some p → (fun i => (es[i]?.map (·.1)).getD 0) i = nhash P w p.2 := fun i p hp => by
      show (es[i]?.map (·.1)).getD 0 = _
      rw [R.entry hp] <;> rfl
    rcases spec with ⟨q, i, hq, hi, hh, hno, hpr⟩ | ⟨hno, hpr⟩
    · -- a candidate
      have hpr' : t.probe (fun i => (es[i]?.map (·.1)).getD 0) (nhash P w k) (stand.getD (t.probeStart (nhash P w k))) = some (.candidate (way t.mask (nhash P w k) (c + q)) i (nth t.mask (runAt t.mask (SetTable.bits (nhash P w k) % (t.mask + 1)) (SetTable.bits (nhash P w k))) (c + (q + 1)))) := by
        rw [hst, ← e1, ← sh]
        exact hpr
      rw [hpr']
      dsimp only
      rw [e1] at hi
      -- the entry
      have hil : i < L.length := by
        have h1 : i < t.place.toList.length := (List.getElem?_eq_some_iff.mp hi).1
        have h2 := R.tab.sz
        rw [List.length_map] at h2
        rw [Array.length_toList] at h1
        omega
      have hp : L[i]? = some L[i] := List.getElem?_eq_getElem hil
      generalize hpe : L[i] = p at hp
      have hmem : p ∈ L := List.mem_of_getElem? hp
      have hpt := R.tup p hmem
      have rest : wpAny (model P w) A (searchRest a (.ref x) (nhash P w k) true f es t (way t.mask (nhash P w k) (c + q)) i (nth t.mask (runAt t.mask (SetTable.bits (nhash P w k) % (t.mask + 1)) (SetTable.bits (nhash P w k))) (c + (q + 1)))) Q E s := by
        unfold searchRest
        rw [R.entry hp]
        dsimp only
        refine wpAny_bind (wpAny_holding ((nestedKind P w).eqBool hu hpt hx ?_))
        refine wpAny_bind (wpAny_setState_of ho hd R.fits ?_)
        dsimp only
        by_cases hkk : p.2 = k
        · refine wp_if_pos (by simp [hkk]) ?_
          refine wpAny_pure (hin ?_)
          exact List.mem_map.mpr ⟨p, hmem, hkk⟩
        · refine wp_if_neg (by simp [hkk]) ?_
          try refine wpAny_bind (wpAny_pure ?_)
          rw [sameMem]
          dsimp only
          have hsl : t.slot (way t.mask (nhash P w k) (c + q)) = .live i := slot_live R.tab.ris hi
          simp only [if_true, hsl, R.entry hp]
          refine wpAny_bind (wpAny_isSame_ref_self (wpAny_bind (wpAny_pure ?_)))
          simp only [if_true]
          refine wp_if_neg (by simp [hkk]) ?_
          refine nsearch_from R hx hu hKf hK hKb hin hout f (c + (q + 1)) _ rfl (by omega) (by omega) fun i0 p0 h0 hk0 => ?_
          obtain ⟨c', a1, a2, a3⟩ := hre i0 p0 h0 hk0
          refine ⟨c', ?_, a2, a3⟩
          -- it isn't passed
          rcases Nat.lt_or_ge c' (c + q) with z | z
          · exfalso
            refine hno (c' - c) i0 (by omega) (by rw [e1, show c + (c' - c) = c' by omega]; exact a3) ?_
            exact (hashAt i0 p0 h0).trans (congrArg (nhash P w) hk0)
          · rcases Nat.lt_or_ge (c + q) c' with y | y
            · omega
            · exfalso
              have ec : c' = c + q := Nat.le_antisymm y z
              rw [ec] at a3
              have s0 := slot_live R.tab.ris a3
              rw [hsl] at s0
              injection s0 with s0
              rw [← s0, hp] at h0
              exact hkk ((congrArg Prod.snd (Option.some.inj h0)).trans hk0)
      by_cases hl : t.led = true
      · refine wp_if_neg (by simp [hl]) ?_
        try refine wpAny_bind (wpAny_pure ?_)
        exact rest
      · refine wp_if_pos (by simp [hl]) ?_
        refine wpAny_bind (nseen hx (fun y hy => ?_) ?_)
        · obtain ⟨e, he, ee⟩ := List.mem_map.mp hy
          have he1 : e ∈ es ∧ e.1 = nhash P w k := by simpa using he
          have he2 : e ∈ es.toList := by simpa using he1.1
          rw [R.rows] at he2
          obtain ⟨p2, hp2, e2⟩ := List.mem_map.mp he2
          refine ⟨p2.2, p2.1, ?_, R.tup p2 hp2⟩
          rw [← ee, ← e2]
        · refine wp_if_neg (by decide) ?_
          try refine wpAny_bind (wpAny_pure ?_)
          exact rest
    · -- the empty slot
      have hpr' : t.probe (fun i => (es[i]?.map (·.1)).getD 0) (nhash P w k) (stand.getD (t.probeStart (nhash P w k))) = some (.empty (way t.mask (nhash P w k) K) none) := by
        have e2 : way t.mask (nhash P w k) K = (nth t.mask (nth t.mask (runAt t.mask (SetTable.bits (nhash P w k) % (t.mask + 1)) (SetTable.bits (nhash P w k))) c) (K - c)).j := by
          rw [e1, show c + (K - c) = K by omega]
        rw [hst, e2]
        exact hpr
      rw [hpr']
      dsimp only
      refine wpAny_pure (hout fun hm => ?_)
      obtain ⟨p0, h0, hk0⟩ := List.mem_map.mp hm
      obtain ⟨i0, hi0, e0⟩ := List.getElem_of_mem h0
      have h00 : L[i0]? = some p0 := by rw [List.getElem?_eq_getElem hi0, e0]
      obtain ⟨c', a1, a2, a3⟩ := hre i0 p0 h00 hk0
      refine hno (c' - c) i0 (by omega) (by rw [e1, show c + (c' - c) = c' by omega]; exact a3) ?_
      exact (hashAt i0 p0 h00).trans (congrArg (nhash P w) hk0)

/-- the search as adding asks for it -/
theorem nsearch_at (R : SetNR P w s.heap a L es ep t) {x : Addr} {k : NestedKey} (hx : NsT P w s.heap k x) (hu : A.units + 8 < cLine) {Q : SetFound → Shared → Prop}
    (hin : k ∈ L.map (·.2) → Q (.there none) s)
    (hout : ∀ K, k ∉ L.map (·.2) → way t.mask (nhash P w k) K ∉ t.place.toList → (∀ c, c < K → way t.mask (nhash P w k) c ∈ t.place.toList) → Q (.free (way t.mask (nhash P w k) K) false) s) :
    wpAny (model P w) A (setSearch a (.ref x) (nhash P w k) true) Q E s := by
  have hroom := R.room
  obtain ⟨K, hKf, hK, hKb⟩ := R.tab.first (by rw [List.length_map]; omega) (nhash P w k)
  have hbig : K < 100000 := by
    have : 10 * SetTable.turns t.mask ≤ 1420 := by
      unfold SetTable.turns
      rcases R.tab.mok with e | e | e <;> omega
    omega
  unfold setSearch
  refine nsearch_from R hx hu hKf hK hKb hin (fun hn => hout K hn hK hKb) 100000 0 none rfl (Nat.zero_le _) (by omega) fun i p hp hk => ?_
  have hi : (L.map fun p => nhash P w p.2)[i]? = some (nhash P w k) := by rw [List.getElem?_map, hp, ← hk] <;> rfl
  have hil : i < t.place.toList.length := by
    have h1 : i < L.length := (List.getElem?_eq_some_iff.mp hp).1
    have h2 := R.tab.sz
    rw [List.length_map] at h2
    rw [Array.length_toList]
    omega
  have hj := List.getElem?_eq_getElem hil
  obtain ⟨c, hc, e⟩ := R.tab.before hK hi hj
  exact ⟨c, Nat.zero_le _, hc, by rw [hj, e]⟩
end
section
variable {P : Program} {w : World} {A : Around} {E : Value → Shared → Prop} {s : Shared}
/-- a tuple isn't the set -/
theorem nsT_same {h h' : Heap} {k : NestedKey} {a b : Addr} {o : Obj} {es : Array (Int × Value)} {ep : Nat} {t : SetTable} (hb : NsT P w h k b) (ho : h.get? a = some o) (hd : o.data = .set es ep t) (hs : Heap.SameBut a h h') : NsT P w h' k b := ⟨NestedIs.at (fun c ob vs n hc hq => by
    refine (hs.2 c fun e => ?_).trans hc
    subst e
    rw [ho] at hc
    cases hc
    rw [hd] at hq
    cases hq) k _ hb.1, hb.2⟩
theorem nrows_put (L : List (Addr × NestedKey)) (p : Nat) (x : Addr) (k : NestedKey) : rowsN P w (L.take p ++ (x, k) :: L.drop p) = (rowsN P w L).take p ++ (nhash P w k, Value.ref x) :: (rowsN P w L).drop p := by
  unfold rowsN
  rw [List.map_append, List.map_cons, List.map_take, List.map_drop]
theorem put_perm {α : Type} (L : List α) (p : Nat) (x : α) : (L.take p ++ x :: L.drop p).Perm (x :: L) := by
  have h : (L.take p ++ x :: L.drop p).Perm (x :: (L.take p ++ L.drop p)) := List.perm_middle
  rw [List.take_append_drop] at h
  exact h
theorem norder_rows (L : List (Addr × NestedKey)) (es : Array (Int × Value)) (order : Array Nat) (hr : es.toList = rowsN P w L) (hp : order.toList.Perm (List.range L.length)) :
    ∃ L2, (order.filterMap (es[·]?)).toList = rowsN P w L2 ∧ L2.Perm L ∧ (L2.map fun p => nhash P w p.2) = order.toList.map fun i => (es.map (·.1)).getD i 0 := by
  have hsz : es.size = L.length := by
    have h := congrArg List.length hr
    unfold rowsN at h
    rw [Array.length_toList, List.length_map] at h
    exact h
  have ent : ∀ i (h : i < L.length), es[i]? = some (nhash P w (L[i]).2, Value.ref (L[i]).1) := fun i h => by
    rw [← Array.getElem?_toList, hr]
    unfold rowsN
    rw [List.getElem?_map, List.getElem?_eq_getElem h] <;> rfl
  have key : ∀ l : List Nat, (∀ i ∈ l, i < L.length) → ∃ L2 : List (Addr × NestedKey), l.filterMap (fun i => es[i]?) = rowsN P w L2 ∧ L2 = l.filterMap (fun i => L[i]?) ∧ (L2.map fun p => nhash P w p.2) = l.map fun i => (es.map (·.1)).getD i 0 := by
    intro l
    induction l with
    | nil => intro _; exact ⟨[], rfl, rfl, rfl⟩
    | cons i l ih =>
      intro hl
      have hi := hl i List.mem_cons_self
      obtain ⟨L2, e1, e2, e3⟩ := ih fun j hj => hl j (List.mem_cons_of_mem _ hj)
      refine ⟨L[i] :: L2, ?_, ?_, ?_⟩
      · rw [List.filterMap_cons_some (ent i hi), e1] <;> rfl
      · rw [List.filterMap_cons_some (List.getElem?_eq_getElem hi), e2]
      · rw [List.map_cons, List.map_cons, e3]
        have hi2 : i < (es.map (·.1)).size := by rw [Array.size_map, hsz]; exact hi
        have e4 : (es.map (·.1)).getD i 0 = nhash P w (L[i]).2 := by
          have e5 : (es.map (·.1))[i]? = some (nhash P w (L[i]).2) := by rw [Array.getElem?_map, ent i hi] <;> rfl
          simp [Array.getD_eq_getD_getElem?, e5]
        rw [e4]
  obtain ⟨L2, e1, e2, e3⟩ := key order.toList fun i hi => List.mem_range.mp (hp.mem_iff.mp hi)
  refine ⟨L2, by first | (rw [Array.toList_filterMap]; exact e1) | simpa using e1, ?_, e3⟩
  have h1 : L2.Perm ((List.range L.length).filterMap fun i => L[i]?) := by
    rw [e2]
    exact hp.filterMap _
  have h2 : (List.range L.length).filterMap (fun i => L[i]?) = L := by
    have key2 : ∀ n, n ≤ L.length → (List.range n).filterMap (fun i => L[i]?) = L.take n := by
      intro n
      induction n with
      | zero => intro _; rfl
      | succ n ih =>
        intro hn
        have hlt : n < L.length := hn
        rw [List.range_succ, List.filterMap_append, ih (Nat.le_of_lt hlt), List.take_succ, List.getElem?_eq_getElem hlt]
        rw [List.filterMap_cons_some (List.getElem?_eq_getElem hlt)] <;> rfl
    rw [key2 L.length (Nat.le_refl _), List.take_length]
  rw [h2] at h1
  exact h1

variable {a : Addr} {L : List (Addr × NestedKey)} {es : Array (Int × Value)} {ep : Nat} {t : SetTable}
/-- the table laid anew, larger -/
theorem nrelay_at {o : Obj} (ho : s.heap.get? a = some o) (hex : o.ExactSet) (hd : o.data = .set es ep t) (hrows : es.toList = rowsN P w L) (hsz : t.place.size = es.size) (hdm : t.dummies = #[]) (hfl : es.size ≤ t.mask)
    (nd : (L.map (·.2)).Nodup) (tup : ∀ p ∈ L, NsT P w s.heap p.2 p.1) (pl : True) (ld : w.params.followText "set-order" = true ∨ t.led = true) (few : L.length < 64) {wanted M : Nat}
    (hw : SetTable.sizeAbove wanted - 1 = M) (hM : MaskOk M) (hw2 : SetTable.sizeAbove wanted ≤ 128) (hn : L.length * 5 < M * 3) {Q : Unit → Shared → Prop}
    (hQ : ∀ h' L' es' ep' t', Heap.SameBut a s.heap h' → SetNR P w h' a L' es' ep' t' → L'.Perm L → Q () { s with heap := h' }) : wpAny (model P w) A (setRelay a wanted) Q E s := by
  have hsl : es.size = L.length := by
    have h := congrArg List.length hrows
    unfold rowsN at h
    rw [Array.length_toList, List.length_map] at h
    exact h
  have hfits : t.fits es.size = true := by
    unfold SetTable.fits SetTable.fill
    rw [hdm, Bool.and_eq_true, beq_iff_eq, decide_eq_true_eq]
    show t.place.size = es.size ∧ t.place.size + 0 ≤ t.mask
    omega
  obtain ⟨t', order, e, hp, T, em, el, ep', ed⟩ := relaid_ok t (hs := es.map (·.1)) (wanted := wanted) hw hM (by rw [Array.size_map, hsl]; omega)
  rw [Array.size_map, hsl] at hp
  obtain ⟨L2, r1, r2, r3⟩ := norder_rows L es order hrows hp
  rw [← r3] at T
  have hs2 : (order.filterMap (es[·]?)).size = es.size := by
    have h := congrArg List.length r1
    unfold rowsN at h
    rw [Array.length_toList, List.length_map, r2.length_eq] at h
    rw [h, hsl]
  rw [setRelay_eq]
  refine wpAny_bind (wpAny_setState_of ho hd hfits ?_)
  dsimp only
  refine wp_if_neg (by rw [sizeLine_eq]; omega) ?_
  try refine wpAny_bind (wpAny_pure ?_)
  rw [e]
  dsimp only
  refine wpAny_bind ?_
  refine wp_if_neg (by rw [hs2]; simp) ?_
  try refine wpAny_bind (wpAny_pure ?_)
  refine wpAny_pure ?_
  dsimp only
  refine wpAny_storeSet_of ho hd ?_ (by rw [hs2, hsl, sizeLine_eq]; omega)
  have sb : Heap.SameBut a s.heap (s.heap.update a (Obj.putSet (order.filterMap (es[·]?)) t')) := Heap.SameBut.update ..
  refine hQ _ L2 (order.filterMap (es[·]?)) (ep + 1) t' sb ?_ r2
  refine ⟨⟨_, store_at ho hd, ⟨hex.1, hex.2.1, hex.2.2⟩, rfl⟩, r1, T, ?_, fun p hpm => nsT_same (tup p (r2.mem_iff.mp hpm)) ho hd sb, trivial, by rw [el]; exact ld, ?_, by rw [r2.length_eq]; exact few⟩
  · exact (r2.map (·.2)).nodup_iff.mpr nd
  · rw [r2.length_eq, em]
    exact hn

/-- ADDING -/
theorem nadd_at (R : SetNR P w s.heap a L es ep t) {x : Addr} {k : NestedKey} (hx : NsT P w s.heap k x) (hu : A.units + 8 < cLine) (hfew : L.length + 1 < 64) {Q : Bool → Shared → Prop}
    (hQ : ∀ b h' L' es' ep' t', Heap.SameBut a s.heap h' → SetNR P w h' a L' es' ep' t' → (k ∈ L.map (·.2) → L' = L) → (k ∉ L.map (·.2) → L'.Perm ((x, k) :: L)) → Q b { s with heap := h' }) :
    wpAny (model P w) A (setAddHashed a (.ref x) (nhash P w k)) Q E s := by
  obtain ⟨o, ho, hex, hd⟩ := R.ob
  have hsl := R.size
  have hroom := R.room
  unfold setAddHashed
  refine wpAny_holding ?_
  rw [show (100000 : Nat) = 99999 + 1 from rfl, setAddHashedIn_succ]
  refine wpAny_bind (wpAny_setState_of ho hd R.fits ?_)
  dsimp only
  refine wp_if_neg (by simp [byScan, Value.scannable]) ?_
  try refine wpAny_bind (wpAny_pure ?_)
  refine wpAny_bind (nsearch_at R hx hu (fun hm => ?_) fun K hm hK hb => ?_)
  · dsimp only
    exact wpAny_pure (hQ false s.heap L es ep t (Heap.SameBut.refl a s.heap) R (fun _ => rfl) fun z => absurd hm z)
  · dsimp only
    refine wpAny_bind (wpAny_setState_of ho hd R.fits ?_)
    dsimp only
    obtain ⟨q1, q2, q3, q4, q5, q6, q7, q8, q9⟩ := R.tab.put hK hb
    have hp1 : True := trivial
    generalize hpt : t.put (way t.mask (nhash P w k) K) = pt at q1 q3 q4 q5 q6 q7 q8 q9 ⊢
    obtain ⟨t0, p⟩ := pt
    dsimp only at q1 q3 q4 q5 q6 q7 q8 q9 ⊢
    subst q1
    refine by_val hx fun bv => ?_
    generalize hT : (if bv = true then t0 else { t0 with plain := false }) = t1
    have e1 : t1.place = t0.place := by rw [← hT]; split <;> rfl
    have e2 : t1.mask = t0.mask := by rw [← hT]; split <;> rfl
    have e3 : t1.led = t0.led := by rw [← hT]; split <;> rfl
    have e4 : t1.dummies = t0.dummies := by rw [← hT]; split <;> rfl
    replace q3 := tab_like e1 e2 e4 q3
    replace q4 := e2.trans q4
    replace q5 := e3.trans q5
    replace q9 : t1.fill = _ := (show t1.place.size + t1.dummies.size = t0.place.size + t0.dummies.size by rw [e1, e4]).trans q9
    have hin : (SetTable.insertAt es (SetTable.below t.place (way t.mask (nhash P w k) K)) (nhash P w k, Value.ref x)).toList = rowsN P w (L.take (SetTable.below t.place (way t.mask (nhash P w k) K)) ++ (x, k) :: L.drop (SetTable.below t.place (way t.mask (nhash P w k) K))) := by
      rw [SetTable.toList_insertAt, nrows_put, R.rows]
    generalize hpp : SetTable.below t.place (way t.mask (nhash P w k) K) = p at q2 q3 hin ⊢
    have pm := put_perm L p (x, k)
    have hlen : (L.take p ++ (x, k) :: L.drop p).length = L.length + 1 := pm.length_eq
    have hhs : (L.take p ++ (x, k) :: L.drop p).map (fun p => nhash P w p.2) = (L.map fun p => nhash P w p.2).take p ++ nhash P w k :: (L.map fun p => nhash P w p.2).drop p := by
      rw [List.map_append, List.map_cons, List.map_take, List.map_drop]
    rw [← hhs] at q3
    have nd1 : ((L.take p ++ (x, k) :: L.drop p).map (·.2)).Nodup := by
      refine (pm.map (·.2)).nodup_iff.mpr ?_
      rw [List.map_cons]
      exact List.nodup_cons.mpr ⟨hm, R.nd⟩
    have hes : (SetTable.insertAt es p (nhash P w k, Value.ref x)).size = L.length + 1 := by
      have h := congrArg List.length hin
      unfold rowsN at h
      rw [Array.length_toList, List.length_map, hlen] at h
      exact h
    generalize SetTable.insertAt es p (nhash P w k, Value.ref x) = es1 at hin hes ⊢
    generalize L.take p ++ (x, k) :: L.drop p = L1 at pm hlen q3 nd1 hin
    refine wpAny_bind (wpAny_storeSet_of ho hd ?_ (by rw [hes, sizeLine_eq]; omega))
    have sb : Heap.SameBut a s.heap (s.heap.update a (Obj.putSet es1 t1)) := Heap.SameBut.update ..
    have ho1 := store_at (es' := es1) (t' := t1) ho hd
    generalize s.heap.update a (Obj.putSet es1 t1) = h1 at sb ho1 ⊢
    have tup1 : ∀ p ∈ L1, NsT P w h1 p.2 p.1 := fun p hp => by
      rcases List.mem_cons.mp (pm.mem_iff.mp hp) with e | hp
      · rw [e]; exact nsT_same hx ho hd sb
      · exact nsT_same (R.tup p hp) ho hd sb
    have ld1 : w.params.followText "set-order" = true ∨ t1.led = true := by rw [q5]; exact R.led
    by_cases hf : t1.tooFull = true
    · first
        | (refine wpAny_bind ?_; refine wp_if_pos (by simp [hf]) ?_)
        | (refine wp_if_pos (by simp [hf]) ?_; refine wpAny_bind ?_)
      have hfull : (L.length + 1) * 5 ≥ t1.mask * 3 := by
        have h := hf
        unfold SetTable.tooFull at h
        rw [decide_eq_true_eq, q9, List.length_map] at h
        exact h
      rw [hsl]
      have hsz1 : t1.place.size = es1.size := by
        have h := q3.sz
        rw [List.length_map, hlen] at h
        rw [h, hes]
      have cases2 : (t.mask = 7 ∧ L.length = 4) ∨ (t.mask = 31 ∧ L.length = 18) := by
        rcases R.tab.mok with e | e | e
        · left; rw [q4, e] at hfull; rw [e] at hroom; exact ⟨e, by omega⟩
        · right; rw [q4, e] at hfull; rw [e] at hroom; exact ⟨e, by omega⟩
        · exfalso; rw [q4, e] at hfull; omega
      have go : ∀ M, SetTable.sizeAbove (SetTable.grown (L.length + 1)) - 1 = M → MaskOk M → SetTable.sizeAbove (SetTable.grown (L.length + 1)) ≤ 128 → (L.length + 1) * 5 < M * 3 →
          wpAny (model P w) A (setRelay a (SetTable.grown (L.length + 1))) (fun _ s' => wpAny (model P w) A (pure true) Q E s') E { s with heap := h1 } := fun M h1' h2' h3' h4' => by
        refine nrelay_at (s := { s with heap := h1 }) ho1 ⟨hex.1, hex.2.1, hex.2.2⟩ rfl hin hsz1 q3.dm (by rw [hes, q4]; rcases cases2 with ⟨e, e2⟩ | ⟨e, e2⟩ <;> omega) nd1 tup1 hp1 ld1 (by rw [hlen]; exact hfew) h1' h2' h3' (by rw [hlen]; exact h4') ?_
        intro h2 L2 es2 ep2 t2 sb2 R2 pm2
        refine wpAny_pure (hQ true h2 L2 es2 ep2 t2 (sb.trans sb2) R2 (fun z => absurd z hm) fun _ => pm2.trans pm)
      rcases cases2 with ⟨_, e2⟩ | ⟨_, e2⟩
      · refine go 31 (by rw [e2, size_20]) (.inr (.inl rfl)) (by rw [e2, size_20]; decide) (by omega)
      · refine go 127 (by rw [e2, size_76]) (.inr (.inr rfl)) (by rw [e2, size_76]; decide) (by omega)
    · first
        | refine wp_if_neg (by simp [hf]) ?_
        | (refine wpAny_bind ?_; refine wp_if_neg (by simp [hf]) ?_; refine wpAny_pure ?_)
      refine wpAny_pure (hQ true h1 L1 es1 (ep + 1) t1 sb ⟨⟨_, ho1, ⟨hex.1, hex.2.1, hex.2.2⟩, rfl⟩, hin, q3, nd1, tup1, hp1, ld1, ?_, by rw [hlen]; exact hfew⟩ (fun z => absurd z hm) fun _ => pm)
      have h := hf
      unfold SetTable.tooFull at h
      rw [decide_eq_true_eq, q9, List.length_map] at h
      rw [hlen]
      omega
end
end Ev
set_option maxHeartbeats 4000000
/-! Ev: sets of tuples by data. -/
namespace Ev
open PySem PySem.Spec PyProof.Rows L2
/-- what the set's own object shows -/
structure SetN0 (P : Program) (w : World) (h : Heap) (a : Addr) (L : List (Addr × NestedKey)) : Prop where
  ex : ∃ (es : Array (Int × Value)) (ep : Nat) (t : SetTable), (∃ o, h.get? a = some o ∧ o.ExactSet ∧ o.data = .set es ep t) ∧ es.toList = rowsN P w L ∧ TabOk t (L.map fun p => nhash P w p.2) ∧ (L.map (·.2)).Nodup ∧
    (w.params.followText "set-order" = true ∨ t.led = true) ∧ L.length * 5 < t.mask * 3 ∧ L.length < 64
def SnO (P : Program) (w : World) (a : Addr) (L : List (Addr × NestedKey)) : HO := .ext fun h => SetN0 P w h a L
section
variable {P : Program} {w : World} {h h' : Heap} {a : Addr} {L : List (Addr × NestedKey)}
theorem SetNR.n0 {es : Array (Int × Value)} {ep : Nat} {t : SetTable} (R : SetNR P w h a L es ep t) : SetN0 P w h a L := ⟨es, ep, t, R.ob, R.rows, R.tab, R.nd, R.led, R.room, R.few⟩
theorem SetN0.full (R : SetN0 P w h a L) (ht : ∀ p ∈ L, NsT P w h p.2 p.1) : ∃ es ep t, SetNR P w h a L es ep t := by
  obtain ⟨es, ep, t, h1, h2, h3, h4, h5, h6, h7⟩ := R.ex
  exact ⟨es, ep, t, h1, h2, h3, h4, ht, trivial, h5, h6, h7⟩
theorem SetN0.at (R : SetN0 P w h a L) (k : ∀ o, h.get? a = some o → h'.get? a = some o) : SetN0 P w h' a L := by
  obtain ⟨es, ep, t, ⟨o, ho, r⟩, r2⟩ := R.ex
  exact ⟨es, ep, t, ⟨o, k o ho, r⟩, r2⟩
theorem snO_new {H : Hp} (R : SetN0 P w h a L) : ObjOk P w H h a (SnO P w a L) := by
  obtain ⟨es, ep, t, ⟨o, ho, r⟩, r2⟩ := R.ex
  exact ⟨R, ⟨o, ho⟩, fun h1 h2 z k => z.at k⟩
theorem setNR_fresh (ho : h.get? a = some (freshS w)) : SetNR P w h a [] #[] 0 (.fresh 0 0 (!w.params.followText "set-order")) where
  ob := ⟨_, ho, ⟨rfl, rfl, rfl⟩, rfl⟩
  rows := rfl
  tab := ⟨List.Pairwise.nil, rfl, rfl, .inl rfl, (fun x hx => nomatch hx), (fun i h j e => nomatch e)⟩
  nd := .nil
  tup := fun p hp => by cases hp
  plain := trivial
  led := by
    show _ ∨ (!w.params.followText "set-order") = true
    cases w.params.followText "set-order"
    · exact .inr rfl
    · exact .inl rfl
  room := by show 0 * 5 < 7 * 3; decide
  few := by decide
theorem setAdd_N {A : Around} {E : Value → Shared → Prop} {s : Shared} {es : Array (Int × Value)} {ep : Nat} {t : SetTable} {x : Addr} {k : NestedKey} (R : SetNR P w s.heap a L es ep t) (hx : NsT P w s.heap k x) (hu : A.units + 8 < cLine) (hfew : L.length + 1 < 64) {Q : Bool → Shared → Prop}
    (hQ : ∀ b h' tk L', s.toks ≤ tk → Heap.SameBut a s.heap h' → SetN0 P w h' a L' → (k ∈ L.map (·.2) → L' = L) → (k ∉ L.map (·.2) → L'.Perm ((x, k) :: L)) → Q b { s with heap := h', toks := tk }) : wpAny (model P w) A (setAdd a (.ref x)) Q E s := by
  unfold setAdd
  refine wpAny_holding ?_
  refine wpAny_bind ((nestedKind P w).pyHash hu hx ?_)
  exact nadd_at (s := { s with toks := s.toks + (nestedKind P w).draws k }) R hx hu hfew fun b h' L' es' ep' t' sb R' c1 c2 => hQ b h' _ L' (Nat.le_add_right _ _) sb R'.n0 c1 c2
end
/-- the first of each key -/
def firstN : List (Addr × NestedKey) → List (Addr × NestedKey) → List (Addr × NestedKey)
  | acc, [] => acc
  | acc, p :: ps => if (acc.any fun q => decide (q.2 = p.2)) = true then firstN acc ps else firstN (acc ++ [p]) ps
theorem any_mem {acc : List (Addr × NestedKey)} {k : NestedKey} : (acc.any fun q => decide (q.2 = k)) = true ↔ k ∈ acc.map (·.2) := by
  rw [List.any_eq_true, List.mem_map]
  constructor
  · rintro ⟨x, hx, e⟩; exact ⟨x, hx, of_decide_eq_true e⟩
  · rintro ⟨x, hx, e⟩; exact ⟨x, hx, decide_eq_true e⟩
theorem firstN_snoc : ∀ (ps acc : List (Addr × NestedKey)) (p : Addr × NestedKey), firstN acc (ps ++ [p]) = if ((firstN acc ps).any fun q => decide (q.2 = p.2)) = true then firstN acc ps else firstN acc ps ++ [p]
  | [], acc, p => by simp only [List.nil_append, firstN]; rfl
  | x :: ps, acc, p => by
    simp only [List.cons_append, firstN]
    split
    · exact firstN_snoc ps acc p
    · exact firstN_snoc ps _ p
theorem firstN_sub : ∀ (ps acc : List (Addr × NestedKey)) (q : Addr × NestedKey), q ∈ firstN acc ps → q ∈ acc ∨ q ∈ ps
  | [], acc, q, h => .inl h
  | x :: ps, acc, q, h => by
    unfold firstN at h
    split at h
    · exact (firstN_sub ps acc q h).imp id fun z => .tail _ z
    · rcases firstN_sub ps _ q h with z | z
      · rcases List.mem_append.mp z with z | z
        · exact .inl z
        · rw [List.mem_singleton.mp z]; exact .inr (.head _)
      · exact .inr (.tail _ z)
theorem firstN_len : ∀ (ps acc : List (Addr × NestedKey)), (firstN acc ps).length ≤ acc.length + ps.length
  | [], acc => by simp [firstN]
  | x :: ps, acc => by
    unfold firstN
    split
    · have := firstN_len ps acc; simp only [List.length_cons]; omega
    · have := firstN_len ps (acc ++ [x]); simp only [List.length_append, List.length_cons, List.length_nil] at this ⊢; omega
theorem step_N {P : Program} {w : World} {h0 : Heap} {S : Addr} {items : Array Value} {ps : List (Addr × NestedKey)} (hv : items.toList = ps.map fun p => Value.ref p.1) (hk : ∀ p ∈ ps, NsT P w h0 p.2 p.1) (hl : ps.length < 60) (hS0 : h0.get? S = none) :
    SetStep P w h0 S items (fun i h => (∀ b o, h0.get? b = some o → h.get? b = some o) ∧ ∃ L, SetN0 P w h S L ∧ L.Perm (firstN [] (ps.take i))) where
  zero := fun h ho hk0 => ⟨hk0, [], (setNR_fresh ho).n0, by simp [firstN]⟩
  keep := fun i h h' ⟨_, L, R, pm⟩ k kp => ⟨kp, L, R.at k, pm⟩
  add := fun i v s A E Q hu hi ⟨kp, L, R, pm⟩ kp2 hQ => by
    have hi' : items.toList[i]? = some v := by rw [Array.getElem?_toList]; exact hi
    rw [hv, List.getElem?_map] at hi'
    cases e : ps[i]? with
    | none => rw [e] at hi'; cases hi'
    | some p =>
      rw [e] at hi'
      cases hi'
      have ht : ps.take (i + 1) = ps.take i ++ [p] := by rw [List.take_add_one, e]; rfl
      have keepT : ∀ q ∈ ps, NsT P w s.heap q.2 q.1 := fun q hq => ⟨NestedIs.at (fun c ob vs n hc _ => kp2 c ob hc) _ _ (hk q hq).1, (hk q hq).2⟩
      have hsub : ∀ q ∈ L, q ∈ ps := fun q hq => (firstN_sub _ _ q (pm.mem_iff.mp hq)).elim (fun z => by cases z) fun z => List.mem_of_mem_take z
      obtain ⟨es, ep, t, RF⟩ := R.full fun q hq => keepT q (hsub q hq)
      have hlen : L.length + 1 < 64 := by
        have h1 := firstN_len (ps.take i) []
        have h2 : (ps.take i).length ≤ ps.length := by rw [List.length_take]; omega
        rw [pm.length_eq]
        simp only [List.length_nil] at h1
        omega
      refine setAdd_N RF (keepT p (List.mem_of_getElem? e)) (by omega) hlen fun b h' tk L' htk sb R' c1 c2 => hQ b h' tk htk sb ⟨fun b o hb => ?_, L', R', ?_⟩
      · by_cases hbS : b = S
        · subst hbS; rw [hS0] at hb; cases hb
        · exact (sb.2 b hbS).trans (kp2 b o hb)
      · rw [ht, firstN_snoc]
        have hm : p.2 ∈ L.map (·.2) ↔ ((firstN [] (ps.take i)).any fun q => decide (q.2 = p.2)) = true := by rw [any_mem]; exact (pm.map (·.2)).mem_iff
        by_cases hc : p.2 ∈ L.map (·.2)
        · rw [if_pos (hm.mp hc), c1 hc]; exact pm
        · rw [if_neg (fun z => hc (hm.mpr z))]
          exact (c2 hc).trans ((pm.cons p).trans (List.perm_append_singleton p _).symm)
end Ev
set_option maxHeartbeats 4000000
/-! Ev: sets of tuples by data: set(xs), sorted, len. -/
namespace Ev
open PySem PySem.Spec PyProof.Rows L2
def repT (G : Gx) (ds : List D) (D : Addr) (H Kn : Hp) : Prop := Kn D = none ∧ ∃ xs L : List (Addr × NestedKey), RelDs G Kn ds (xs.map fun p => V.ref p.1) ∧ nks ds = some (xs.map (·.2)) ∧ (∀ p ∈ xs, p.2.depth ≤ 8) ∧ L.Perm xs ∧ H D = some (SnO G.P G.w D L)
theorem accT {G : Gx} : Acc G (List D) (fun D => SnO G.P G.w D []) [] (repT G) where
  zero := fun D H Kn ex hD => ⟨known_none ex hD, [], [], .nil, rfl, (fun p hp => nomatch hp), .refl _, upd_same⟩
  step := fun a D H Kn H' Kn' ⟨h0, xs, L, h1, h2, h3, h4, h5⟩ s => ⟨(s.fr D _ h5).trans h0, xs, L, h1.mono s.kx, h2, h3, h4, s.ex _ _ h5⟩
  there := fun a D H Kn ⟨_, xs, L, _, _, _, _, h⟩ => ⟨_, h⟩
theorem vals_map_refs : ∀ xs : List (Addr × NestedKey), Vals (xs.map fun p => V.ref p.1) (xs.map fun p => Value.ref p.1)
  | [] => .nil
  | p :: xs => .cons rfl (vals_map_refs xs)
theorem nest_at {h : Heap} : ∀ {xs : List (Addr × NestedKey)}, NestedAll h (xs.map (·.2)) (xs.map fun p => Value.ref p.1) → ∀ p ∈ xs, NestedIs h p.2 (.ref p.1)
  | [], _, p, hp => nomatch hp
  | q :: xs, n, p, hp => by
    cases n with
    | cons n1 n2 =>
      rcases List.mem_cons.mp hp with e | e
      · subst e; exact n1
      · exact nest_at n2 p e
section
variable {X : Cx} {G : Gx} {mg : Str → Option Value} {base : Heap} {k : Nat} {e elt : Expr} {pos : Pos}
/-! ### sorted -/
theorem nested_of {pins : List (Addr × Obj)} {σ : St} {H Kn : Hp} {s : Shared} {ds : List D} {xs : List (Addr × NestedKey)} (gd : Gd X G mg base k) (I : Inv X pins σ H s) (ex : Ex Kn H) (r : RelDs G Kn ds (xs.map fun p => V.ref p.1)) (hk : nks ds = some (xs.map (·.2))) (h8 : ∀ p ∈ xs, p.2.depth ≤ 8) : ∀ p ∈ xs, NsT X.prog X.w s.heap p.2 p.1 := by
  have n := RelDs.nest gd.hK I ex r hk (vals_map_refs xs)
  intro p hp
  refine ⟨?_, h8 p hp⟩
  exact nest_at n p hp
def unV : V × D → Value
  | (.ref a, _) => .ref a
  | _ => .none
theorem zip_good {Kn : Hp} : ∀ {ds : List D} {xs : List (Addr × NestedKey)}, RelDs G Kn ds (xs.map fun p => V.ref p.1) → ∀ z ∈ (xs.map fun p => V.ref p.1).zip ds, L2.RelV z.1 (unV z) ∧ RelD G Kn z.2 z.1
  | [], _, r, z, hz => by simp at hz
  | d :: ds, [], r, z, hz => by simp at hz
  | d :: ds, p :: xs, .cons h t, z, hz => by
    rw [List.map_cons, List.zip_cons_cons] at hz
    rcases List.mem_cons.mp hz with e | e
    · subst e; exact ⟨rfl, h⟩
    · exact zip_good t z e
theorem zip_unV {Kn : Hp} : ∀ {ds : List D} {xs : List (Addr × NestedKey)}, RelDs G Kn ds (xs.map fun p => V.ref p.1) → ((xs.map fun p => V.ref p.1).zip ds).map unV = xs.map fun p => Value.ref p.1
  | [], [], _ => rfl
  | [], _ :: _, r => by cases r
  | _ :: _, [], r => by cases r
  | d :: ds, p :: xs, .cons h t => by
    rw [List.map_cons, List.zip_cons_cons, List.map_cons, zip_unV t]; rfl
theorem each_zs {Kn : Hp} : ∀ {zs : List (V × D)}, (∀ z ∈ zs, L2.RelV z.1 (unV z) ∧ RelD G Kn z.2 z.1) → PySem.W.EachIs (Rsv G Kn) (zs.map unV) zs
  | [], _ => .nil
  | z :: zs, h => .cons (h z (.head _)) (each_zs fun x hx => h x (.tail _ hx))
def rSrtT (G : Gx) (ds ys : List D) : List V → Hp → VK → Prop := fun vs H Q => ∃ D Kn, vs = [V.ref D] ∧ Ex Kn H ∧ repT G ds D H Kn ∧ ∀ p xs, H p = none → RelDs G Kn ys xs → Q (.ref p) (upd H p (.lst xs))
theorem sortedT_ok {ds ys : List D} (gd : Gd X G mg base k) (hs : srtD ds = some ys) : CallR X (.builtin "sorted") (rSrtT G ds ys) := by
  intro pins s σ H vs us Q I rv ⟨D, Kn, e, ex, ⟨hkD, xs, L, rr, hks, h8, pL, hD⟩, q⟩
  subst e
  obtain ⟨u, rfl, ru⟩ := vals1 rv
  cases (show u = Value.ref D from ru)
  obtain ⟨R, _⟩ := I.hok D _ hD
  rw [← gd.hP, ← gd.hw] at R
  obtain ⟨es, ep, t, ⟨RF⟩⟩ : ∃ es ep t, Nonempty (SetNR X.prog X.w s.heap D L es ep t) := by
    obtain ⟨es, ep, t, RF⟩ := R.full fun p hp => nested_of gd I ex rr hks h8 p (pL.mem_iff.mp hp)
    exact ⟨es, ep, t, ⟨RF⟩⟩
  obtain ⟨o, ho, hx, hd⟩ := RF.ob
  have hsz := RF.size
  refine sorted_by (β := V × Ev.D) (enc := fun b => encD b.2) (R := Rsv G Kn) fun Q' h => collect_set (A := X.A.in1) (I.ok.hd gd.hc) ⟨o, ho, hx.1, hd⟩ RF.fits (by have := RF.few; show es.size < 4096; omega) RF.tab.ris RF.led fun s1 out k1 z1 g1 o1 pm => h s1 out k1 z1 g1 o1 ?_
  have hes : es.toList.map (·.2) = L.map fun q => Value.ref q.1 := by
    rw [RF.rows]
    unfold rowsN
    rw [List.map_map]
    rfl
  rw [hes] at pm
  have pm2 : out.Perm (xs.map fun q => Value.ref q.1) := pm.trans (pL.map _)
  rw [← zip_unV rr] at pm2
  obtain ⟨zs', pz, ez⟩ := perm_lift unV pm2 _ rfl
  subst ez
  have good : ∀ z ∈ zs', L2.RelV z.1 (unV z) ∧ RelD G Kn z.2 z.1 := fun z hz => zip_good rr z (pz.mem_iff.mp hz)
  have pd : (zs'.map (·.2)).Perm ds := by
    have z := pz.map (·.2)
    rw [zip_snd rr] at z
    exact z
  have S := srtD_perm hs pd
  have henc : zs'.map (fun b => encD b.2) = (zs'.map (·.2)).map encD := by simp only [List.map_map]; rfl
  have he := each_zs (G := G) (Kn := Kn) good
  refine ⟨_, he, each_with he fun v b hb2 rb => ?_, by rw [henc]; exact S.al, by rw [henc]; exact S.so, ?_, fun b hb2 => ?_, fun out2 p c s' k2 g2 o2 hp hg hout => ?_⟩
  · exact rb.2.reads gd.hK I ex rb.1 (S.ok _ (List.mem_map.mpr ⟨b, hb2, rfl⟩)).1
  · have := S.len; rw [List.length_map] at this; rw [sizeLine_eq]; omega
  · have h1 : (encD b.2).depth ≤ 50 := of_decide_eq_true (S.ok _ (List.mem_map.mpr ⟨b, hb2, rfl⟩)).2
    have h2 := gd.hr.units
    show X.A.units + 2 + (encD b.2).depth < cLine
    omega
  · obtain ⟨vo, ro⟩ := each_back hout
    have hms : (zs'.mergeSort (PySem.W.dataLe false fun b : V × Ev.D => encD b.2)).map (·.2) = ys := by
      have z := PySem.W.sort_maps (r := PySem.W.dataLe false fun b : V × Ev.D => encD b.2) (s := PySem.W.dataLe false encD) (fun b : V × Ev.D => b.2) (l := zs') (fun a _ b _ => rfl)
      rw [z]
      exact S.ms
    rw [hms] at ro
    generalize hbs : zs'.mergeSort (PySem.W.dataLe false fun b : V × Ev.D => encD b.2) = bs' at vo ro
    have hnn : H p = none := I.hok.fresh hp
    have hlen : (bs'.map (·.1)).length ≤ sizeLine := by
      have e1 := ro.length
      have e2 : ys.length = (zs'.map (·.2)).length := by rw [← S.ms]; exact (List.mergeSort_perm _ _).length_eq
      have := S.len
      rw [sizeLine_eq]
      omega
    have J : Inv X pins σ (upd H p (.lst (bs'.map (·.1)))) { s with heap := s'.heap, gens := s'.gens, drawn := s'.drawn, toks := s'.toks } :=
      I.call (ch := []) (Un.laid k2 hp hnn) (I.hok.laid k2 hp ⟨hlen, out2, c, vo, hg⟩) (by rw [g2]; exact I.bare) (fun _ z => nomatch z)
    have e : s' = { s with heap := s'.heap, gens := s'.gens, drawn := s'.drawn, toks := s'.toks } := by
      cases s'; cases s; cases o2; rfl
    rw [e]
    exact ⟨.ref p, _, J, rfl, q p _ hnn ro⟩
theorem SF.sortedT {x : Str} {p : Pos} {f : Env → Option (List D)} (gd : Gd X G mg base k) (hx : x = "sorted") (hg : Gl X x) (hm : mg x = none) (ha : SC X G (repT G) e f) (he : starEach [e] X.env = (false, eval e X.env) :: starEach [] X.env) : SF X G (.Call (.Name x p) [e] [] pos) (cSrtS f) := fun env d q => by
  subst hx
  unfold cSrtS at q
  split at q
  · rename_i ds hds
    cases e1 : srtD ds with
    | none => rw [e1] at q; cases q
    | some ys =>
      rw [e1] at q; cases q
      refine PE.weak (pe_callB (sortedT_ok gd e1) hg (by rw [gd.hm]; exact hm) rfl (pa_cons (ha env ds hds) pa_nil he) (by decide) (by decide) he rfl) fun σ H Q ⟨Kn, ex, re, q⟩ => ⟨Kn, ex, re, fun D H1 K1 h1 h2 s1 r1 => ?_⟩
      exact ⟨D, K1, rfl, s1.sub, r1, fun p xs hp rr => q p _ K1 (s1.trans (Step.own s1.sub hp)) (fresh_step s1 hp) (known_none s1.sub hp) (.lst upd_same rr)⟩
  · cases q
/-! ### len -/
def rLenST (G : Gx) (ds : List D) : List V → Hp → VK → Prop := fun vs H Q => ∃ D Kn, vs = [V.ref D] ∧ repT G ds D H Kn ∧ Q (.int ds.length) H
theorem lenT_ok {ds : List D} (gd : Gd X G mg base k) : CallR X (.builtin "len") (rLenST G ds) := by
  intro pins s σ H vs us Q I rv ⟨D, Kn, e, ⟨hkD, xs, L, rr, hks, h8, pL, hD⟩, q⟩
  subst e
  obtain ⟨u, rfl, ru⟩ := vals1 rv
  cases (show u = Value.ref D from ru)
  obtain ⟨R, _⟩ := I.hok D _ hD
  obtain ⟨es, ep, t, ⟨o, ho, hx, hd⟩, h2, h3, h4, h5, h6, h7⟩ := R.ex
  have e0 : es.size = L.length := by
    have z := congrArg List.length h2
    unfold rowsN at z
    rw [Array.length_toList, List.length_map] at z
    exact z
  have e1 : (es.size : Int) = (ds.length : Int) := by
    have z := rr.length
    rw [List.length_map] at z
    rw [e0, pL.length_eq, z]
  have hf : t.fits es.size = true := by
    have z1 := h3.sz
    rw [List.length_map] at z1
    unfold SetTable.fits SetTable.fill
    rw [h3.dm, Bool.and_eq_true, beq_iff_eq, decide_eq_true_eq]
    show t.place.size = es.size ∧ t.place.size + 0 ≤ t.mask
    omega
  exact call_len_set ho hx hd hf (by omega) ⟨.int ds.length, H, I.tok _, ⟨_, by rw [e1]⟩, q⟩
theorem SD.lenT {x : Str} {p : Pos} {f : Env → Option (List D)} (gd : Gd X G mg base k) (hx : x = "len") (hg : Gl X x) (hm : mg x = none) (ha : SC X G (repT G) e f) (he : starEach [e] X.env = (false, eval e X.env) :: starEach [] X.env) : SD X G (.Call (.Name x p) [e] [] pos) (cLenS f) := fun env d q => by
  subst hx
  unfold cLenS at q
  cases e1 : f env with
  | none => rw [e1] at q; cases q
  | some ds =>
    rw [e1] at q; cases q
    exact PE.weak (pe_callB (lenT_ok (ds := ds) gd) hg (by rw [gd.hm]; exact hm) rfl (pa_cons (ha env ds e1) pa_nil he) (by decide) (by decide) he rfl) fun σ H Q ⟨Kn, ex, re, q⟩ => ⟨Kn, ex, re, fun D H1 K1 h1 h2 s1 r1 => ⟨D, K1, rfl, r1, q _ H1 K1 s1 (.int _)⟩⟩
end
end Ev
set_option maxHeartbeats 4000000
/-! Ev: set(xs) of tuples; {.. for ..} of tuples. -/
namespace Ev
open PySem PySem.Spec PyProof.Rows L2
def firstT : List (D × NestedKey) → List (D × NestedKey) → List (D × NestedKey)
  | acc, [] => acc
  | acc, p :: ps => if (acc.any fun q => decide (q.2 = p.2)) = true then firstT acc ps else firstT (acc ++ [p]) ps
theorem tup_refs {G : Gx} {Kn : Hp} : ∀ {xs : List D} {ys : List V} {keys : List NestedKey}, tupKs xs = true → RelDs G Kn xs ys → nks xs = some keys → ∃ ps : List (Addr × NestedKey), ys = ps.map (fun p => V.ref p.1) ∧ keys = ps.map (·.2)
  | [], _, _, _, .nil, h => by cases h; exact ⟨[], rfl, rfl⟩
  | d :: ds, _, _, ht, .cons h t, hk => by
    cases d with
    | tup l =>
      simp only [nks] at hk
      cases e1 : nk (.tup l) with
      | none => rw [e1] at hk; cases hk
      | some k1 =>
        cases e2 : nks ds with
        | none => rw [e1, e2] at hk; cases hk
        | some ks =>
          rw [e1, e2] at hk; cases hk
          obtain ⟨ps, a1, a2⟩ := tup_refs (by simpa [tupKs] using ht) t e2
          cases h with
          | @tup a _ _ _ _ => exact ⟨(a, k1) :: ps, by rw [a1]; rfl, by rw [a2]; rfl⟩
    | _ => simp [tupKs] at ht
theorem vals_eq : ∀ {ps : List (Addr × NestedKey)} {us ws : List Value}, Vals (ps.map fun p => V.ref p.1) us → Vals (ps.map fun p => V.ref p.1) ws → us = ws
  | [], _, _, .nil, .nil => rfl
  | p :: ps, _, _, .cons r1 t1, .cons r2 t2 => by
    rw [vals_eq t1 t2, (show _ = Value.ref p.1 from r1), (show _ = Value.ref p.1 from r2)]
theorem first_rel {G : Gx} {Kn : Hp} : ∀ {xs : List D} {ps : List (Addr × NestedKey)} {acc : List (D × NestedKey)} {acc' : List (Addr × NestedKey)}, RelDs G Kn xs (ps.map fun p => V.ref p.1) → RelDs G Kn (acc.map (·.1)) (acc'.map fun p => V.ref p.1) → acc.map (·.2) = acc'.map (·.2) →
    RelDs G Kn ((firstT acc (xs.zip (ps.map (·.2)))).map (·.1)) ((firstN acc' ps).map fun p => V.ref p.1) ∧ (firstT acc (xs.zip (ps.map (·.2)))).map (·.2) = (firstN acc' ps).map (·.2)
  | [], [], acc, acc', _, ra, ek => ⟨ra, ek⟩
  | [], _ :: _, _, _, r, _, _ => by cases r
  | _ :: _, [], _, _, r, _, _ => by cases r
  | d :: xs, p :: ps, acc, acc', .cons h t, ra, ek => by
    rw [List.map_cons, List.zip_cons_cons]
    have ea : (acc.any fun q => decide (q.2 = p.2)) = (acc'.any fun q => decide (q.2 = p.2)) := by
      have z1 : (acc.any fun q => decide (q.2 = p.2)) = ((acc.map (·.2)).any fun q => decide (q = p.2)) := by rw [List.any_map]; rfl
      have z2 : (acc'.any fun q => decide (q.2 = p.2)) = ((acc'.map (·.2)).any fun q => decide (q = p.2)) := by rw [List.any_map]; rfl
      rw [z1, z2, ek]
    simp only [firstT, firstN]
    rw [ea]
    split
    · exact first_rel t ra ek
    · refine first_rel t ?_ ?_
      · simp only [List.map_append, List.map_cons, List.map_nil]
        exact ra.append (.cons h .nil)
      · simp only [List.map_append, List.map_cons, List.map_nil, ek]
theorem nks_of_zip : ∀ {ds : List (D × NestedKey)}, (∀ q ∈ ds, nk q.1 = some q.2) → nks (ds.map (·.1)) = some (ds.map (·.2))
  | [], _ => rfl
  | q :: ds, h => by
    simp only [List.map_cons, nks]
    rw [h q (.head _), nks_of_zip fun x hx => h x (.tail _ hx)]
theorem firstT_sub : ∀ (ps acc : List (D × NestedKey)) (q : D × NestedKey), q ∈ firstT acc ps → q ∈ acc ∨ q ∈ ps
  | [], acc, q, h => .inl h
  | x :: ps, acc, q, h => by
    unfold firstT at h
    split at h
    · exact (firstT_sub ps acc q h).imp id fun z => .tail _ z
    · rcases firstT_sub ps _ q h with z | z
      · rcases List.mem_append.mp z with z | z
        · exact .inl z
        · rw [List.mem_singleton.mp z]; exact .inr (.head _)
      · exact .inr (.tail _ z)
theorem zip_nk : ∀ {xs : List D} {ks : List NestedKey}, nks xs = some ks → ∀ q ∈ xs.zip ks, nk q.1 = some q.2
  | [], _, h, q, hq => by simp at hq
  | d :: ds, _, h, q, hq => by
    simp only [nks] at h
    cases e1 : nk d with
    | none => rw [e1] at h; cases h
    | some k1 =>
      cases e2 : nks ds with
      | none => rw [e1, e2] at h; cases h
      | some ks =>
        rw [e1, e2] at h; cases h
        rw [List.zip_cons_cons] at hq
        rcases List.mem_cons.mp hq with e | e
        · subst e; exact e1
        · exact zip_nk e2 q e
section
variable {X : Cx} {G : Gx} {mg : Str → Option Value} {base : Heap} {k : Nat} {e elt : Expr} {pos : Pos}
def cSetOfT (f : Env → Option (List D)) : Env → Option (List D) := fun env => match f env with
  | some [d] => (match seqD d with
    | some xs => (match nks xs with
      | some ks => if tupKs xs = true ∧ ks.length < 60 ∧ (ks.all fun q => decide (q.depth ≤ 8)) = true then some ((firstT [] (xs.zip ks)).map (·.1)) else none
      | none => none)
    | none => none)
  | _ => none
def rSetT (G : Gx) (ds zs : List D) : List V → Hp → VK → Prop := fun vs H Q => ∃ Kn, Ex Kn H ∧ RelDs G Kn ds vs ∧ ∀ D H' Kn', H D = none → Kn' D = none → Step H Kn H' Kn' → repT G zs D H' Kn' → Q (.ref D) H'
theorem setOfT_ok {d : D} {xs : List D} {ks : List NestedKey} (gd : Gd X G mg base k) (h1 : seqD d = some xs) (h2 : nks xs = some ks) (ht : tupKs xs = true) (hl : ks.length < 60) (h8 : ∀ q ∈ ks, q.depth ≤ 8) : CallR X (.type "set") (rSetT G [d] ((firstT [] (xs.zip ks)).map (·.1))) := by
  intro pins s σ H vs us Q I rv ⟨Kn, ex, rds, q⟩
  obtain ⟨v, rfl, r1⟩ := relDs1 rds
  obtain ⟨u, rfl, ru⟩ := vals1 rv
  have hS0 : s.heap.get? s.heap.objs.size = none := by
    cases z : s.heap.get? s.heap.objs.size with
    | none => rfl
    | some o => exact absurd (Heap.lt_size z) (Nat.lt_irrefl _)
  have hu : X.A.units + 60 < cLine := by have := gd.hr.units; omega
  have fin : ∀ (ps : List (Addr × NestedKey)) (n : Nat), ks = ps.map (·.2) → RelDs G Kn xs (ps.map fun p => V.ref p.1) → ps.take n = ps → ∀ (h' : Heap) (tk : Nat), (∃ L, SetN0 X.prog X.w h' s.heap.objs.size L ∧ L.Perm (firstN [] (ps.take n))) → (∀ b o, s.heap.get? b = some o → h'.get? b = some o) → EP X pins σ Q (.ref s.heap.objs.size) { s with heap := h', toks := tk } := fun ps n ek rr et h' tk ⟨L, R, pm⟩ kp => by
    rw [et] at pm
    have hn : H s.heap.objs.size = none := I.hok.fresh (Nat.le_refl _)
    have so := Step.own (o := SnO G.P G.w s.heap.objs.size L) ex hn
    obtain ⟨a1, a2⟩ := first_rel (acc := []) (acc' := []) rr .nil rfl
    rw [← ek] at a1 a2
    refine ⟨.ref s.heap.objs.size, _, I.laid (t' := tk) kp (Nat.le_refl _) (o := SnO G.P G.w s.heap.objs.size L) (by rw [← gd.hP, ← gd.hw]; exact snO_new R), rfl, q _ _ Kn hn (known_none ex hn) so ⟨known_none ex hn, firstN [] ps, L, a1, ?_, fun p hp => ?_, pm, upd_same⟩⟩
    · rw [← a2]
      exact nks_of_zip fun z hz => zip_nk h2 z ((firstT_sub _ _ z hz).elim (fun w => nomatch w) id)
    · have := (firstN_sub _ _ p hp).elim (fun w => nomatch w) id
      exact h8 _ (by rw [ek]; exact List.mem_map.mpr ⟨p, this, rfl⟩)
  have facts : ∀ {ys : List V} {its : List Value}, RelDs G Kn xs ys → Vals ys its → ∃ ps : List (Addr × NestedKey), ks = ps.map (·.2) ∧ RelDs G Kn xs (ps.map fun p => V.ref p.1) ∧ its = ps.map (fun p => Value.ref p.1) ∧ (∀ p ∈ ps, NsT X.prog X.w s.heap p.2 p.1) ∧ ps.length < 60 ∧ ps.take its.toArray.size = ps := fun {ys its} rr rvs => by
    obtain ⟨ps, a1, a2⟩ := tup_refs ht rr h2
    subst a1
    have ei : its = ps.map (fun p => Value.ref p.1) := vals_eq rvs (vals_map_refs ps)
    refine ⟨ps, a2, rr, ei, nested_of gd I ex rr (by rw [h2, a2]) fun p hp => h8 _ (by rw [a2]; exact List.mem_map.mpr ⟨p, hp, rfl⟩), by rw [a2, List.length_map] at hl; exact hl, ?_⟩
    rw [List.take_of_length_le]
    rw [ei]
    simp
  cases d with
  | lst zs =>
    cases h1
    obtain ⟨a, ys, rfl, hs, rr⟩ := lst_sq ex r1
    cases (show u = Value.ref a from ru)
    obtain ⟨its, rvs, pl, hz⟩ := I.list (by rw [gd.hK]; exact hs)
    obtain ⟨ps, b1, b2, b3, b4, b5, b6⟩ := facts rr rvs
    exact call_set_l (I.ok.hd gd.hc) pl.isList (step_N (by simpa using b3) b4 b5 hS0) hu fun h' tk R kp => fin ps _ b1 b2 b6 h' tk R.2 kp
  | tup zs =>
    cases h1
    obtain ⟨a, ys, rfl, hs, rr⟩ := tup_sq ex r1
    cases (show u = Value.ref a from ru)
    obtain ⟨its, rvs, pl, hz⟩ := I.tuple (by rw [gd.hK]; exact hs)
    obtain ⟨ps, b1, b2, b3, b4, b5, b6⟩ := facts rr rvs
    exact call_set_t (I.ok.hd gd.hc) pl (step_N (by simpa using b3) b4 b5 hS0) hu fun h' tk R kp => fin ps _ b1 b2 b6 h' tk R.2 kp
  | _ => cases h1
theorem SC.setOfT {x : Str} {p : Pos} {f : Env → Option (List D)} (gd : Gd X G mg base k) (hx : x = "set") (hg : Gl X x) (hm : mg x = none) (ha : SA X G [e] f) (he : starEach [e] X.env = (false, eval e X.env) :: starEach [] X.env) : SC X G (repT G) (.Call (.Name x p) [e] [] pos) (cSetOfT f) := fun env a q => by
  subst hx
  unfold cSetOfT at q
  split at q
  · rename_i d hd
    split at q
    · rename_i xs h1
      split at q
      · rename_i ks h2
        split at q
        · rename_i hl
          cases q
          refine PE.weak (pe_callTy (setOfT_ok gd h1 h2 hl.1 hl.2.1 fun z hz => of_decide_eq_true (List.all_eq_true.mp hl.2.2 z hz)) hg (by rw [gd.hm]; exact hm) rfl (ha env _ hd) (by decide) (by decide) he rfl) fun σ H Q ⟨Kn, ex, re, q⟩ => ⟨Kn, ex, re, fun vs H1 K1 s1 r1 => ⟨K1, s1.sub, r1, fun D H2 K2 h3 h4 s2 r2 => q D H2 K2 (fresh_step s1 h3) h4 (s1.trans s2) r2⟩⟩
        · cases q
      · cases q
    · cases q
  · cases q
end
end Ev
set_option maxHeartbeats 4000000
/-! Ev: {.. for ..} of tuples. -/
namespace Ev
open PySem PySem.Spec PyProof.Rows L2
section
variable {P : Program} {w : World} {A : Around} {E : Value → Shared → Prop} {s : Shared} {a : Addr} {L : List (Addr × NestedKey)}
theorem setN_add {es : Array (Int × Value)} {ep : Nat} {t : SetTable} {x : Addr} {k : NestedKey} (R : SetNR P w s.heap a L es ep t) (hx : NsT P w s.heap k x) (hu : A.units + 20 < cLine) (hfew : L.length + 1 < 64) {Q : Value → Shared → Prop}
    (hQ : ∀ h' tk L', Heap.SameBut a s.heap h' → SetN0 P w h' a L' → (k ∈ L.map (·.2) → L' = L) → (k ∉ L.map (·.2) → L'.Perm ((x, k) :: L)) → Q .none { s with heap := h', toks := tk }) : wpAny (model P w) A (call (.builtin "set.add") [.ref a, .ref x]) Q E s := by
  obtain ⟨o, ho, hex, hd⟩ := R.ob
  refine wpAny_call_entry F.slot_set_add ⟨o, ho, hex.1⟩ F.entry_set_add ?_ (F.args_set_add_2 _ _)
  unfold Builtin.«set.add» Builtin.Frozenset.oneOther
  simp only [List.isEmpty_nil, bind_assoc]
  unfold Builtin.Frozenset.addrOf
  refine wpAny_bind (wpAny_pure ?_)
  try dsimp only
  refine wpAny_bind (wpAny_pure ?_)
  try dsimp only
  refine wpAny_bind ?_
  refine setAdd_N R hx (by show A.units + 1 + 8 < cLine; omega) hfew fun b h' tk L' _ sb R' c1 c2 => ?_
  show wpAny _ _ (ret Value.none) _ _ _
  exact wpAny_pure ⟨_, rfl, hQ h' tk L' sb R' c1 c2⟩
end
section
variable {X : Cx} {G : Gx} {mg : Str → Option Value} {base : Heap} {k : Nat} {elt tg iter : Expr} {ifs : List Expr} {gs : List Comprehension} {scope : Scope} {pos : Pos}
def isTp : D → Bool
  | .tup _ => true
  | _ => false
def faT (fe : Env → Option D) : Env → List D → Option (List D) := fun env ds => match fe env with
  | some d => (match nk d, nks ds with
    | some key, some keys => if isTp d = true ∧ ds.length < 60 ∧ key.depth ≤ 8 then (if (keys.any fun q => decide (q = key)) = true then some ds else some (ds ++ [d])) else none
    | _, _ => none)
  | none => none
theorem padd_T {fe : Env → Option D} (gd : Gd X G mg base k) (he : SD X G elt fe) : PAdd X (emitS elt) (tAddD G (repT G) (faT fe)) := fun pins s σ H Q D I ⟨env, a, a2, Kn, hfa, ex, re, hr, q⟩ => by
  unfold faT at hfa
  split at hfa
  · rename_i d h1
    split at hfa
    · rename_i key keys h2 h3
      split at hfa
      · rename_i hc
        obtain ⟨htp, hlt, h8⟩ := hc
        unfold emitS
        refine wpAny_bind (thn ((he _ _ h1).run pins s σ H (fun v H1 => ∃ K1, Step H Kn H1 K1 ∧ RelD G K1 d v) I ⟨Kn, ex, re, fun v H1 K1 s1 r1 => ⟨K1, s1, r1⟩⟩) fun kv s1 ⟨x, H1, I1, rx, K1, st1, r1⟩ => ?_)
        obtain ⟨hkD, xs, L, rr, hks, hd8, pL, hD⟩ := accT.step a D H Kn H1 K1 hr st1
        rw [h3] at hks
        cases hks
        obtain ⟨b, rfl⟩ : ∃ b, x = V.ref b := by
          cases r1 with
          | tup _ _ => exact ⟨_, rfl⟩
          | _ => simp [isTp] at htp
        cases (show kv = Value.ref b from rx)
        obtain ⟨R, _⟩ := I1.hok D _ hD
        rw [← gd.hP, ← gd.hw] at R
        have hall := nested_of gd I1 st1.sub rr h3 hd8
        obtain ⟨es, ep, t, RF⟩ := R.full fun p hp => hall p (pL.mem_iff.mp hp)
        have hkey : NsT X.prog X.w s1.heap key b := by
          have z := relD_nest gd I1 st1.sub r1 h2 h8
          rw [← gd.hP, ← gd.hw] at z
          exact z
        have hlen : L.length + 1 < 64 := by
          have z := rr.length
          rw [List.length_map] at z
          rw [pL.length_eq]
          omega
        have hu : X.A.units + 20 < cLine := by have := gd.hr.units; omega
        refine wpAny_bind (wpAny_standAt (wpAny_bind (setN_add RF hkey hu hlen fun h' tk L' sb R' c1 c2 => wpAny_pure ?_)))
        have hm : key ∈ L.map (·.2) ↔ ((xs.map (·.2)).any fun q => decide (q = key)) = true := by
          rw [(pL.map (·.2)).mem_iff, List.any_eq_true]
          exact ⟨fun z => ⟨key, z, decide_eq_true rfl⟩, fun ⟨z, hz, e⟩ => (of_decide_eq_true e) ▸ hz⟩
        have fin : ∀ (ds2 : List Ev.D) (xs2 : List (Addr × NestedKey)), a2 = ds2 → RelDs G K1 ds2 (xs2.map fun p => V.ref p.1) → nks ds2 = some (xs2.map (·.2)) → (∀ p ∈ xs2, p.2.depth ≤ 8) → L'.Perm xs2 → ∃ H', Inv X pins σ H' { s1 with heap := h', toks := tk } ∧ Q H' := fun ds2 xs2 e2 b1 b2 b3 b4 => by
          subst e2
          refine ⟨upd H1 D (SnO G.P G.w D L'), d_write I1 (by rw [hD]; exact True.intro) sb ?_ ?_, q _ K1 ((Step.chg st1).trans (chg_upd st1.sub hkD)) ⟨hkD, xs2, L', b1, b2, b3, b4, upd_same⟩⟩
          · obtain ⟨_, _, _, ⟨o, ho, _⟩, _⟩ := R'.ex; exact ⟨o, ho⟩
          · rw [← gd.hP, ← gd.hw]; exact snO_new R'
        cases hc2 : ((xs.map (·.2)).any fun q => decide (q = key)) with
        | true =>
          rw [hc2] at hfa
          simp only [if_true] at hfa
          cases hfa
          exact fin a xs rfl rr h3 hd8 (by rw [c1 (hm.mpr hc2)]; exact pL)
        | false =>
          rw [hc2] at hfa
          simp only [Bool.false_eq_true, if_false] at hfa
          cases hfa
          refine fin (a ++ [d]) (xs ++ [(b, key)]) rfl ?_ ?_ ?_ ?_
          · simp only [List.map_append, List.map_cons, List.map_nil]
            exact rr.append (.cons r1 .nil)
          · simp only [List.map_append, List.map_cons, List.map_nil]
            exact nks_append h3 h2
          · intro p hp
            rcases List.mem_append.mp hp with z | z
            · exact hd8 p z
            · rw [List.mem_singleton.mp z]; exact h8
          · exact (c2 (fun z => by rw [hm.mp z] at hc2; cases hc2)).trans ((pL.cons _).trans (List.perm_append_singleton _ _).symm)
      · cases hfa
    · cases hfa
  · cases hfa
theorem mkr_setT (gd : Gd X G mg base k) : Mkr X (.SetComp elt (⟨tg, iter, ifs, 0⟩ :: gs) scope pos) scope iter (newSet (.type "set")) { cls := .type "set", dict := none, data := .set #[] 0 (.fresh 0 0 (!X.w.params.followText "set-order")) } (fun D => SnO G.P G.w D []) where
  ev := ⟨firstIterPos (⟨tg, iter, ifs, 0⟩ :: gs) pos, rfl⟩
  us := ⟨firstIterPos (⟨tg, iter, ifs, 0⟩ :: gs) pos, fun use => rfl⟩
  na := fun A E s Q h => wpAny_newSet_raw fun led e => by subst e; exact h
  ob := fun H h hb => by rw [← gd.hP, ← gd.hw]; exact snO_new (setNR_fresh (Heap.get?_push_size _ rfl)).n0
end
end Ev
set_option maxHeartbeats 4000000
/-! Ev: dict == dict, x in a list of dicts. -/
namespace Ev
open PySem PySem.Spec PyProof.Rows PyProof.V L2
/-! ### x in a list, within one model -/
section
variable {prog : Program} {w : World} {A : Around} {E : Value → Shared → Prop} {s : Shared}
theorem contains_loopP (l : Addr) (items : Array Value) (n : Nat) (dd : Option Addr) (sl : Array (Option Value)) (x : Value) (e : Nat → Bool) (k : Nat) :
    ∀ i : Nat, items.size - i = k → MeetsIn prog w (Builtin.«list.__contains__.loop» ⟨[.ref l, x, rawInt i], []⟩)
      (fun A R s => s.heap.get? l = some { cls := .type "list", dict := dd, data := .seq items n, slots := sl } ∧ (∀ j (h : j < items.size), SeqAt.EqP prog w A.in1 s items[j] x (e j)) ∧ R (.ok (.ret (.bool (((List.range items.size).drop i).any e)))) s) := by
  induction k with
  | zero =>
    intro i hk A R s h
    obtain ⟨hp, g, d, tk, os⟩ := s; obtain ⟨hl, he, h⟩ := h
    wp_walk using wpAny_loadPart' hl
    have hi : items[((i : Nat) : Int).toNat]? = none := by simp; omega
    have hd : (List.range items.size).drop i = [] := by simp; omega
    rw [hd] at h
    rw [hi]
    wp_walk
    exact h
  | succ k ih =>
    intro i hk A R s h
    obtain ⟨hp, g, d, tk, os⟩ := s; obtain ⟨hl, he, h⟩ := h
    wp_walk using wpAny_loadPart' hl
    have hlt : i < items.size := by omega
    have hi : items[((i : Nat) : Int).toNat]? = some items[i] := by simp [hlt]
    have hd : (List.range items.size).drop i = i :: (List.range items.size).drop (i + 1) := by simp [List.drop_eq_getElem_cons, hlt]
    rw [hd, List.any_cons] at h
    rw [hi]
    refine wpAny_bind (he _ hlt _ _ ?_)
    cases hb : e i with
    | true =>
      rw [hb] at h
      wp_walk
      exact h
    | false =>
      rw [hb] at h
      have hc : ((i : Int) + 1) = ((i + 1 : Nat) : Int) := by push_cast; rfl
      wp_walk
      rw [hc]
      exact ⟨plainId_quiet MeetsSeq.plain_contains_loop _, codeAny_builtin MeetsSeq.entry_contains_loop (by
        rw [Around.under_plainId MeetsSeq.plain_contains_loop _]
        exact ih (i + 1) (by omega) A R _ ⟨hl, he, by simpa using h⟩)⟩
theorem list_containsP (l : Addr) (items : Array Value) (n : Nat) (dd : Option Addr) (sl : Array (Option Value)) (x : Value) (e : Nat → Bool) :
    MeetsIn prog w (Builtin.«list.__contains__» ⟨[.ref l, x], []⟩)
      (fun A R s => s.heap.get? l = some { cls := .type "list", dict := dd, data := .seq items n, slots := sl } ∧ (∀ j (h : j < items.size), SeqAt.EqP prog w A.in1 s items[j] x (e j)) ∧ R (.ok (.ret (.bool ((List.range items.size).any e)))) s) := by
  intro A R s h
  obtain ⟨hp, g, d, tk, os⟩ := s; obtain ⟨hl, he, h⟩ := h
  wp_walk using wpAny_loadPart' hl
  exact ⟨plainId_quiet MeetsSeq.plain_contains_loop _, codeAny_builtin MeetsSeq.entry_contains_loop (by
    rw [Around.under_plainId MeetsSeq.plain_contains_loop _]
    exact contains_loopP l items n dd sl x e _ 0 rfl A R _ ⟨hl, he, by simpa using h⟩)⟩
theorem in_listP {l : Addr} {items : Array Value} {x : Value} {Q : Value → Shared → Prop} (e : Nat → Bool) (hl : s.heap.IsList l items) (he : ∀ j (h : j < items.size), SeqAt.EqP prog w A.in1 s items[j] x (e j))
    (h : Q (.bool ((List.range items.size).any e)) s) : wpAny (model prog w) A (compareOp .In x (.ref l)) Q E s := by
  obtain ⟨⟨cls, dd, data, sl⟩, ho, hc, n, hd⟩ := id hl
  simp only at hc hd
  subst hc hd
  show wpAny _ A (do return .bool (← contains (.ref l) x)) Q E s
  have hT : s.TypeIs (.ref l) "list" := ⟨_, ho, rfl⟩
  refine wpAny_bind (wpAny_contains_slot hT F.slot_list_contains (call_meetsIn F.slot_list_contains hT F.entry_list_contains (F.args_list_contains_2 _ _) (list_containsP l items n dd sl x e) ⟨ho, he, ?_⟩))
  exact wpAny_truthy_bool (wpAny_pure h)
theorem notIn_listP {l : Addr} {items : Array Value} {x : Value} {Q : Value → Shared → Prop} (e : Nat → Bool) (hl : s.heap.IsList l items) (he : ∀ j (h : j < items.size), SeqAt.EqP prog w A.in1 s items[j] x (e j))
    (h : Q (.bool (!(List.range items.size).any e)) s) : wpAny (model prog w) A (compareOp .NotIn x (.ref l)) Q E s := by
  obtain ⟨⟨cls, dd, data, sl⟩, ho, hc, n, hd⟩ := id hl
  simp only at hc hd
  subst hc hd
  show wpAny _ A (do return .bool (!(← contains (.ref l) x))) Q E s
  have hT : s.TypeIs (.ref l) "list" := ⟨_, ho, rfl⟩
  refine wpAny_bind (wpAny_contains_slot hT F.slot_list_contains (call_meetsIn F.slot_list_contains hT F.entry_list_contains (F.args_list_contains_2 _ _) (list_containsP l items n dd sl x e) ⟨ho, he, ?_⟩))
  exact wpAny_truthy_bool (wpAny_pure h)
end
end Ev
set_option maxHeartbeats 4000000
/-! Ev: dict == dict (flat values), x in a list of dicts. -/
namespace Ev
open PySem PySem.Spec PyProof.Rows PyProof.V L2
def flatD : D → Option PyData
  | .non => some .none
  | .bl b => some (.bool b)
  | .int i => some (.int i)
  | .str x => some (.str x)
  | _ => none
theorem flat_rel {G : Gx} {Kn : Hp} {d : D} {x : V} {v : Value} {p : PyData} (r : RelD G Kn d x) (rv : RelV x v) (h : flatD d = some p) : Flat v p := by
  cases r with
  | non => cases h; cases (show v = Value.none from rv); exact Flat.none
  | bl b => cases h; cases (show v = Value.bool b from rv); exact Flat.bool _
  | int i => cases h; obtain ⟨t, rfl⟩ := (show ∃ t, v = Value.int i t from rv); exact Flat.int _ _
  | str x => cases h; obtain ⟨t, rfl⟩ := (show ∃ t, v = Value.str x t from rv); exact Flat.str _ _
  | _ => cases h
/-- the values of the one under the keys of the other -/
def hitsD (ls : List Key) (us : List D) : List Key → List D → Option Bool
  | [], [] => some true
  | k :: ks, v :: vs => match lookK ls us k with
    | none => some false
    | some d => match flatD v, flatD d, hitsD ls us ks vs with
      | some p, some q, some b => some (PyData.eqv p q && b)
      | _, _, _ => none
  | _, _ => none
def evEqK : D → D → Option Bool
  | .dct ks vs, .dct ls us => match keysD ks, keysD ls with
    | some k1, some k2 => (hitsD k2 us k1 vs).map ((k1.length == k2.length) && ·)
    | _, _ => none
  | _, _ => none
theorem hitsD_run {P : Program} {w : World} {A : Around} {s : Shared} {G : Gx} {Kn : Hp} {kb : List (Key × V)} {vb : List (Key × Value)} {us : List D} (rb : KV kb vb) (ru : RelDs G Kn us (kb.map Prod.snd)) :
    ∀ {ka : List (Key × V)} {va : List (Key × Value)} {vs : List D} {r : Bool}, KV ka va → RelDs G Kn vs (ka.map Prod.snd) → hitsD (kb.map (·.1)) us (ka.map (·.1)) vs = some r → PySem.W.KeqHitsP P w A s vb va r
  | [], _, _, _, ra, rv, h => by
    cases ra
    cases rv
    cases h
    exact .nil
  | p :: ka, _, _, r, ra, rv, h => by
    cases ra with
    | @cons _ q _ va h1 t =>
    cases rv with
    | @cons v _ vs _ r1 rr =>
    obtain ⟨key, u⟩ := q
    obtain ⟨h1, h2⟩ := h1
    have h1' : p.1 = key := h1
    simp only [List.map_cons, hitsD] at h
    have hl := look_rel p.1 rfl ru
    have rr2 := rb.val p.1
    cases e : lookK (kb.map (·.1)) us p.1 with
    | none =>
      rw [e] at h hl
      cases h
      have hl' : valV kb p.1 = none := hl
      rw [hl'] at rr2
      rw [h1'] at rr2
      cases e2 : valueAt vb key with
      | none => exact .miss e2
      | some y => rw [e2] at rr2; exact rr2.elim
    | some d =>
      rw [e] at h hl
      obtain ⟨y, hy, ry⟩ := hl
      rw [hy, h1'] at rr2
      cases e2 : valueAt vb key with
      | none => rw [e2] at rr2; exact rr2.elim
      | some yv =>
        rw [e2] at rr2
        dsimp only at h
        split at h
        · rename_i a b c ha hb hc
          cases h
          exact .hit e2 (PySem.W.keq_flat (flat_rel r1 h2 ha) (flat_rel ry rr2 hb)).eqP (hitsD_run rb ru t rr hc)
        · cases h
section
variable {X : Cx} {G : Gx} {mg : Str → Option Value} {base : Heap} {k : Nat}
theorem rc_K {pins : List (Addr × Obj)} {σ : St} {H Kn : Hp} {s : Shared} {A : Around} {x y : D} {v u : V} {r : Bool} (I : Inv X pins σ H s) (ex : Ex Kn H) (hu : A.units < cLine) (r1 : RelD G Kn x v) (r2 : RelD G Kn y u) (h : evEqK x y = some r) :
    ∃ a b, v = .ref a ∧ u = .ref b ∧ ∀ (E Q : Value → Shared → Prop), Q (.bool r) s → wpAny (model X.prog X.w) A (richCompare .Eq (.ref a) (.ref b)) Q E s := by
  unfold evEqK at h
  split at h
  · rename_i ks vs ls us
    split at h
    · rename_i k1 k2 hk1 hk2
      obtain ⟨r', hr, rfl⟩ := Option.map_eq_some_iff.mp h
      obtain ⟨a, o, ka, rfl, ha, ea, rva⟩ := dct_keys r1 hk1
      obtain ⟨b, o', kb, rfl, hb, eb, rvb⟩ := dct_keys r2 hk2
      obtain ⟨_, ya, va, ra, da⟩ := dk_rd I.hok (.inr ⟨o, ex _ _ ha⟩)
      obtain ⟨_, yb, vb, rb, db⟩ := dk_rd I.hok (.inr ⟨o', ex _ _ hb⟩)
      refine ⟨a, b, rfl, rfl, fun E Q q => ?_⟩
      subst ea eb
      refine PySem.W.rcP_dicts (knd := mixKind X.prog X.w) (r := r') ya yb da db hu (fun _ => hitsD_run rb rvb ra rva hr) E Q ?_
      have e1 : ka.length = va.length := Paired.length ra
      have e2 : kb.length = vb.length := Paired.length rb
      rw [← e1, ← e2]
      simpa using q
    · cases h
  · cases h
theorem eqK_ok {x y : D} {r : Bool} (gd : Gd X G mg base k) (h : evEqK x y = some r) : OpR X (compareOp .Eq) (r2 G x y (.bl r)) := by
  intro pins s σ H v u a b Q I rv ru ⟨Kn, ex, r1, r2, q⟩
  have hu : X.A.units < cLine := by have := gd.hr.units; omega
  obtain ⟨a', b', rfl, rfl, run⟩ := rc_K (A := X.A) I ex hu r1 r2 h
  cases (show a = Value.ref a' from rv)
  cases (show b = Value.ref b' from ru)
  exact run _ _ ⟨.bl r, H, I, rfl, q _ H Kn (Step.refl ex) (.bl _)⟩
/-! ### a dict in a list of dicts -/
def anyK (x : D) : List D → Option Bool
  | [] => some false
  | y :: ys => match evEqK y x, anyK x ys with
    | some a, some b => some (a || b)
    | _, _ => none
theorem flat_eqv {Kn : Hp} {d e : D} {x : V} {p q : PyData} (r1 : RelD G Kn d x) (r2 : RelD G Kn e x) (h1 : flatD d = some p) (h2 : flatD e = some q) : PyData.eqv p q = true := by
  cases r1 with
  | non => cases r2; cases h1; cases h2; simp [PyData.eqv]
  | bl b => cases r2; cases h1; cases h2; simp [PyData.eqv]
  | int i => cases r2; cases h1; cases h2; simp [PyData.eqv]
  | str x => cases r2; cases h1; cases h2; simp [PyData.eqv]
  | _ => cases h1
theorem hitsD_same {Kn : Hp} {kb : List (Key × V)} {us : List D} (ru : RelDs G Kn us (kb.map Prod.snd)) :
    ∀ {ka : List (Key × V)} {vs : List D} {r : Bool}, (∀ p ∈ ka, valV kb p.1 = some p.2) → RelDs G Kn vs (ka.map Prod.snd) → hitsD (kb.map (·.1)) us (ka.map (·.1)) vs = some r → r = true
  | [], _, _, _, rv, h => by
    cases rv
    cases h
    rfl
  | p :: ka, _, r, hp, rv, h => by
    cases rv with
    | @cons v _ vs _ r1 rr =>
    simp only [List.map_cons, hitsD] at h
    have hl := look_rel p.1 rfl ru
    have e0 := hp p List.mem_cons_self
    cases e : lookK (kb.map (·.1)) us p.1 with
    | none =>
      rw [e] at hl
      have hl' : valV kb p.1 = none := hl
      rw [hl'] at e0; cases e0
    | some d =>
      rw [e] at h hl
      obtain ⟨y, hy, ry⟩ := hl
      rw [hy] at e0
      cases e0
      dsimp only at h
      split at h
      · rename_i a b c ha hb hc
        cases h
        rw [flat_eqv r1 ry ha hb, hitsD_same ru (fun p' m => hp p' (List.mem_cons_of_mem _ m)) rr hc]; rfl
      · cases h
theorem val_self : ∀ {kb : List (Key × V)}, (kb.map (·.1)).Nodup → ∀ p ∈ kb, valV kb p.1 = some p.2
  | [], _, p, m => by cases m
  | q :: kb, nd, p, m => by
    rw [List.map_cons, List.nodup_cons] at nd
    rcases List.mem_cons.mp m with rfl | m
    · exact valV_pos rfl
    · have hne : q.1 ≠ p.1 := fun e => nd.1 (by rw [e]; exact List.mem_map_of_mem m)
      rw [valV_neg hne]
      exact val_self nd.2 p m
theorem KV.keys {kvs : List (Key × V)} {vs : List (Key × Value)} (r : KV kvs vs) : kvs.map (·.1) = vs.map (·.1) := by
  unfold KV at r
  induction r with
  | nil => rfl
  | cons h t ih => rw [List.map_cons, List.map_cons, ih, h.1]
theorem evEqK_same {pins : List (Addr × Obj)} {σ : St} {H Kn : Hp} {s : Shared} {x y : D} {a : Addr} {r : Bool} (I : Inv X pins σ H s) (ex : Ex Kn H) (r1 : RelD G Kn x (.ref a)) (r2 : RelD G Kn y (.ref a)) (h : evEqK x y = some r) : r = true := by
  unfold evEqK at h
  split at h
  · rename_i ks vs ls us
    split at h
    · rename_i k1 k2 hk1 hk2
      obtain ⟨r', hr, rfl⟩ := Option.map_eq_some_iff.mp h
      obtain ⟨a', o, ka, ea', ha, ea, rva⟩ := dct_keys r1 hk1
      obtain ⟨b', o', kb, eb', hb, eb, rvb⟩ := dct_keys r2 hk2
      cases ea'; cases eb'
      rw [ha] at hb
      cases hb
      obtain ⟨_, ya, va, ra, da⟩ := dk_rd I.hok (.inr ⟨o, ex _ _ ha⟩)
      obtain ⟨_, _, _, _, _, _, _, _, nd⟩ := da
      rw [← KV.keys ra] at nd
      subst ea eb
      rw [hitsD_same rvb (val_self nd) rva hr]
      simp
    · cases h
  · cases h
theorem eqP_K {pins : List (Addr × Obj)} {σ : St} {H Kn : Hp} {s : Shared} {A : Around} {x y : D} {v u : V} {va ua : Value} {r : Bool} (I : Inv X pins σ H s) (ex : Ex Kn H) (hu : A.units < cLine) (r1 : RelD G Kn x v) (r2 : RelD G Kn y u) (h : evEqK x y = some r)
    (rv : RelV v va) (ru : RelV u ua) : SeqAt.EqP X.prog X.w A s va ua r := by
  obtain ⟨a, b, rfl, rfl, run⟩ := rc_K (A := A) I ex hu r1 r2 h
  cases (show va = Value.ref a from rv)
  cases (show ua = Value.ref b from ru)
  by_cases e : a = b
  · subst e
    rw [evEqK_same I ex r1 r2 h]
    exact (SeqAt.EqAt.same _).eqP
  · exact SeqAt.eqP_refs e run
theorem anyK_get {x : D} : ∀ {ys : List D} {r : Bool}, anyK x ys = some r → ∃ bs : List Bool, bs.length = ys.length ∧ r = bs.any id ∧ ∀ j (h : j < ys.length) (h' : j < bs.length), evEqK ys[j] x = some bs[j]
  | [], r, h => by cases h; exact ⟨[], rfl, rfl, fun j h => absurd h (Nat.not_lt_zero _)⟩
  | y :: ys, r, h => by
    simp only [anyK] at h
    split at h
    · rename_i a b ha hb
      cases h
      obtain ⟨bs, hl, rfl, hg⟩ := anyK_get hb
      refine ⟨a :: bs, by simp [hl], by simp, fun j h1 h2 => ?_⟩
      cases j with
      | zero => exact ha
      | succ j => simpa using hg j (by simpa using h1) (by simpa using h2)
    · cases h
theorem any_range (bs : List Bool) {n : Nat} (hn : n = bs.length) : ((List.range n).any fun j => bs.getD j false) = bs.any id := by
  subst hn
  rw [Bool.eq_iff_iff]
  simp only [List.any_eq_true, List.mem_range, id_eq]
  constructor
  · rintro ⟨j, hj, h⟩
    rw [List.getD_eq_getElem?_getD, List.getElem?_eq_getElem hj] at h
    exact ⟨bs[j], List.getElem_mem hj, h⟩
  · rintro ⟨b, hb, h⟩
    obtain ⟨j, hj, e⟩ := List.getElem_of_mem hb
    refine ⟨j, hj, ?_⟩
    rw [List.getD_eq_getElem?_getD, List.getElem?_eq_getElem hj, e]; exact h
/-- the items of a list: their equality with x -/
theorem itemsK {pins : List (Addr × Obj)} {σ : St} {H Kn : Hp} {s : Shared} {x : D} {ys : List D} {v u : V} {va ua : Value} {r : Bool} (gd : Gd X G mg base k) (I : Inv X pins σ H s) (ex : Ex Kn H) (r1 : RelD G Kn x v) (r2 : RelD G Kn (.lst ys) u) (h : anyK x ys = some r) (rv : RelV v va) (ru : RelV u ua) :
    ∃ l items e, ua = .ref l ∧ s.heap.IsList l items ∧ (∀ j (h : j < items.size), SeqAt.EqP X.prog X.w X.A.in1 s items[j] va (e j)) ∧ (List.range items.size).any e = r := by
  obtain ⟨p, xs, rfl, hsq, rr⟩ := lst_sq ex r2
  cases (show ua = Value.ref p from ru)
  obtain ⟨us, q1, p1, _⟩ := I.list (by rw [gd.hK]; exact hsq)
  obtain ⟨bs, hl, rfl, hg⟩ := anyK_get h
  have hlen : ys.length = xs.length := rr.length
  have hlen2 : xs.length = us.length := Paired.length q1
  have hu : X.A.in1.units < cLine := by have := gd.hr.units; show X.A.units + 1 < cLine; omega
  refine ⟨p, us.toArray, fun j => bs.getD j false, rfl, p1.isList, fun j hj => ?_, ?_⟩
  · have hj' : j < us.length := by simpa using hj
    have h1 : j < ys.length := by omega
    have h2 : j < xs.length := by omega
    have h3 : j < bs.length := by omega
    obtain ⟨w', hw, rw'⟩ := rr.get (i := j) (d := ys[j]) (List.getElem?_eq_getElem h1)
    rw [List.getElem?_eq_getElem h2] at hw
    cases hw
    obtain ⟨w2, hw2, rvv⟩ := Vals.get q1 (List.getElem?_eq_getElem h2)
    rw [List.getElem?_eq_getElem hj'] at hw2
    cases hw2
    have e : bs.getD j false = bs[j] := by rw [List.getD_eq_getElem?_getD, List.getElem?_eq_getElem h3]; rfl
    show SeqAt.EqP _ _ _ _ us.toArray[j] _ (bs.getD j false)
    rw [e]
    simpa using eqP_K (A := X.A.in1) I ex hu rw' r1 (hg j h1 h3) rvv rv
  · exact any_range bs (by simp; omega)
theorem inK_ok {x : D} {ys : List D} {r : Bool} (gd : Gd X G mg base k) (h : anyK x ys = some r) : OpR X (compareOp .In) (r2 G x (.lst ys) (.bl r)) := by
  intro pins s σ H v u a b Q I rv ru ⟨Kn, ex, r1, r2, q⟩
  obtain ⟨l, items, e, rfl, hl, he, rfl⟩ := itemsK gd I ex r1 r2 h rv ru
  exact in_listP e hl he ⟨.bl _, H, I, rfl, q _ H Kn (Step.refl ex) (.bl _)⟩
theorem notinK_ok {x : D} {ys : List D} {r : Bool} (gd : Gd X G mg base k) (h : anyK x ys = some r) : OpR X (compareOp .NotIn) (r2 G x (.lst ys) (.bl (!r))) := by
  intro pins s σ H v u a b Q I rv ru ⟨Kn, ex, r1, r2, q⟩
  obtain ⟨l, items, e, rfl, hl, he, rfl⟩ := itemsK gd I ex r1 r2 h rv ru
  exact notIn_listP e hl he ⟨.bl _, H, I, rfl, q _ H Kn (Step.refl ex) (.bl _)⟩
end
end Ev
set_option maxHeartbeats 4000000
/-! Ev: comparisons, with dicts. -/
namespace Ev
open PySem PySem.Spec PyProof.Rows PyProof.V L2
def anyKL (x : D) : D → Option Bool
  | .lst ys => anyK x ys
  | _ => none
def evCmp2 (op : CmpOp) (x y : D) : Option Bool := match evCmp op x y with
  | some r => some r
  | none => match op with
    | .Eq => evEqK x y
    | .In => (match evIn2 x y with
      | some r => some r
      | none => anyKL x y)
    | .NotIn => (match evIn2 x y with
      | some r => some (!r)
      | none => (anyKL x y).map (!·))
    | _ => none
section
variable {X : Cx} {G : Gx} {a b : Expr} {pos : Pos} {mg : Str → Option Value} {base : Heap} {k : Nat}
theorem cmp2_ok {op : CmpOp} {x y : D} {r : Bool} (gd : Gd X G mg base k) (h : evCmp2 op x y = some r) : OpR X (compareOp op) (r2 G x y (.bl r)) := by
  unfold evCmp2 at h
  split at h
  · rename_i r' e
    cases h
    exact cmp_ok gd.hK gd.hr e
  · split at h
    · exact eqK_ok gd h
    · split at h
      · rename_i r' e
        cases h
        exact in_ok gd e
      · unfold anyKL at h
        split at h
        · exact inK_ok gd h
        · cases h
    · split at h
      · rename_i r' e
        cases h
        exact notin_ok gd e
      · obtain ⟨r', h', rfl⟩ := Option.map_eq_some_iff.mp h
        unfold anyKL at h'
        split at h'
        · exact notinK_ok gd h'
        · cases h'
    · cases h
def cCmp2 (op : CmpOp) (f g : Env → Option D) : Env → Option Bool := fun env => match f env, g env with
  | some x, some y => evCmp2 op x y
  | _, _ => none
theorem cCmp2_some {op : CmpOp} {f g : Env → Option D} {env : Env} {k : Bool} (h : cCmp2 op f g env = some k) : ∃ x y, f env = some x ∧ g env = some y ∧ evCmp2 op x y = some k := by
  unfold cCmp2 at h
  split at h
  · rename_i x y hx hy; exact ⟨x, y, hx, hy, h⟩
  · cases h
theorem SD.cmp2 {op : CmpOp} {f g : Env → Option D} (gd : Gd X G mg base k) (ha : SD X G a f) (hb : SD X G b g) (hm : behindInMarks op b = false) : SD X G (.Compare a [op] [b] pos) (bD (cCmp2 op f g)) := fun env d h => by
  obtain ⟨_, h', rfl⟩ := bD_some h
  obtain ⟨x, y, hx, hy, e⟩ := cCmp2_some h'
  exact pd_cm (cmp2_ok gd e) (ha _ _ hx) (hb _ _ hy) hm
theorem ST.cmp2 {op : CmpOp} {f g : Env → Option D} (gd : Gd X G mg base k) (ha : SD X G a f) (hb : SD X G b g) (hm : behindInMarks op b = false) : ST X G (.Compare a [op] [b] pos) (cCmp2 op f g) := fun env k h => by
  obtain ⟨x, y, hx, hy, e⟩ := cCmp2_some h
  exact pdt_cmp (cmp2_ok gd e) (ha _ _ hx) (hb _ _ hy) hm
end
end Ev
set_option maxHeartbeats 4000000
/-! Ev: min and max of a tuple of two numbers. -/
namespace Ev
open PySem PySem.Spec PyProof.Rows PyProof.V L2
def evMin : List D → Option D
  | [.tup [.int i, .int j]] => some (.int (min i j))
  | _ => none
def evMax : List D → Option D
  | [.tup [.int i, .int j]] => some (.int (max i j))
  | _ => none
section
variable {X : Cx} {G : Gx} {mg : Str → Option Value} {base : Heap} {k : Nat}
theorem alike2 (i j : Int) : PySem.W.AlikeAll [.int i, .int j] := by
  constructor
  · intro x hx y hy
    simp only [List.mem_cons, List.mem_nil_iff, or_false] at hx hy
    rcases hx with rfl | rfl <;> rcases hy with rfl | rfl <;> rfl
  · intro x hx
    simp only [List.mem_cons, List.mem_nil_iff, or_false] at hx
    rcases hx with rfl | rfl <;> exact fun h => nomatch h
theorem two_tup {pins : List (Addr × Obj)} {σ : St} {H Kn : Hp} {s : Shared} {i j : Int} {v : V} (gd : Gd X G mg base k) (I : Inv X pins σ H s) (ex : Ex Kn H) (r : RelD G Kn (.tup [.int i, .int j]) v) :
    ∃ (l : Addr) (vs : Array Value) (as : List Addr), v = .ref l ∧ s.heap.IsTuple l vs ∧ ReadsAll s.heap vs.toList [.int i, .int j] as := by
  obtain ⟨a, xs, rfl, hsq, rr⟩ := tup_sq ex r
  obtain ⟨x, y, rfl, r1, r2⟩ := relDs2 rr
  cases r1; cases r2
  obtain ⟨its, q, p, _⟩ := I.tuple (by rw [gd.hK]; exact hsq)
  obtain ⟨t, u, rfl⟩ := Vals.int2 q
  exact ⟨a, _, _, rfl, p, .cons (.int _ _) (.cons (.int _ _) .nil)⟩
theorem min_ok (gd : Gd X G mg base k) (ds : List D) (d : D) (h : evMin ds = some d) : CallR X (.builtin "min") (rc G ds d) := by
  unfold evMin at h
  split at h
  · rename_i i j
    cases h
    intro pins s σ H vs us Q I r ⟨Kn, ex, rr, q⟩
    obtain ⟨v, rfl, r1⟩ := relDs1 rr
    obtain ⟨l, its, as, rfl, ht, hr⟩ := two_tup gd I ex r1
    rw [Vals.ref1 r]
    refine PySem.W.min_tuple_data (I.ok.hd gd.hc) ht hr (alike2 i j) (by have := gd.hr.units; simp [PyData.depthAll, PyData.depth]; omega) fun n v h' tk bs hv rd hk => ?_
    rw [show PySem.W.minD (.int i) [.int j] = .int (min i j) from PySem.W.minD_ints i [j]] at rd
    cases rd
    exact ⟨.int _, H, I.kept hk, ⟨_, rfl⟩, q _ H Kn (Step.refl ex) (.int _)⟩
  · cases h
theorem max_ok (gd : Gd X G mg base k) (ds : List D) (d : D) (h : evMax ds = some d) : CallR X (.builtin "max") (rc G ds d) := by
  unfold evMax at h
  split at h
  · rename_i i j
    cases h
    intro pins s σ H vs us Q I r ⟨Kn, ex, rr, q⟩
    obtain ⟨v, rfl, r1⟩ := relDs1 rr
    obtain ⟨l, its, as, rfl, ht, hr⟩ := two_tup gd I ex r1
    rw [Vals.ref1 r]
    refine PySem.W.max_tuple_data (I.ok.hd gd.hc) ht hr (alike2 i j) (by have := gd.hr.units; simp [PyData.depthAll, PyData.depth]; omega) fun n v h' tk bs hv rd hk => ?_
    rw [show PySem.W.maxD (.int i) [.int j] = .int (max i j) from PySem.W.maxD_ints i [j]] at rd
    cases rd
    exact ⟨.int _, H, I.kept hk, ⟨_, rfl⟩, q _ H Kn (Step.refl ex) (.int _)⟩
  · cases h
end
end Ev
set_option maxHeartbeats 4000000
/-! the rules with their small premises filled in -/
namespace Ev
open PySem PySem.Spec PyProof.Rows L2
section
variable {X : Cx} {G : Gx} {E : XK} {e a b c o : Expr} {es : List Expr} {pos p : Pos} {mg : Str → Option Value} {base : Heap} {k n : Nat}
theorem SD.v (i : Nat) {x : Str} (hN : X.N[i]? = some x := by rfl) (hv : Vis X.env.scope x := by first | exact Or.inl rfl | exact Or.inr (Or.inl rfl) | exact Or.inr (Or.inr rfl)) (hd : (x == ("__debug__" : Str)) = false := by decide +kernel) (hcd : (x == ("__classdict__" : Str)) = false := by decide +kernel) : SD X G (.Name x pos) (cV i) := SD.var i hN hv hd hcd
theorem SD.gI {x : Str} {i : Int} (g : Gd X G mg base k) (hm : ∃ t, mg x = some (.int i t)) (hg : Gl X x := by rfl) (hd : (x == ("__debug__" : Str)) = false := by decide +kernel) : SD X G (.Name x pos) (cC (.int i)) := let ⟨_, h⟩ := hm; SD.globI g hg h hd
theorem SD.gS {x z : Str} (g : Gd X G mg base k) (hm : ∃ t, mg x = some (.str z t)) (hg : Gl X x := by rfl) (hd : (x == ("__debug__" : Str)) = false := by decide +kernel) : SD X G (.Name x pos) (cC (.str z)) := let ⟨_, h⟩ := hm; SD.globS g hg h hd
theorem SD.gC {x : Str} (c : Nat) (g : Gd X G mg base k) (hm : mg x = some (.ref (G.cad c))) (hg : Gl X x := by rfl) (hd : (x == ("__debug__" : Str)) = false := by decide +kernel) : SD X G (.Name x pos) (cC (.cl c)) := SD.cls c g hg hm hd
theorem SD.gT {x : Str} {n : String} (g : Gd X G mg base k) (hm : mg x = none) (hv : bootBuiltins x = some (.type n) := by rfl) (hg : Gl X x := by rfl) (hn : x ≠ "__name__" := by decide +kernel) (hd : (x == ("__debug__" : Str)) = false := by decide +kernel) : SD X G (.Name x pos) (cC (.ty n)) := SD.ty g hg hm hv hn hd
def cNeg (f : Env → Option D) : Env → Option D := fun env => match f env with
  | some (.int i) => some (.int (-i))
  | _ => none
theorem SD.neg {f : Env → Option D} (h : SD X G a f) : SD X G (.UnaryOp .USub a pos) (cNeg f) := fun env d q => by
  unfold cNeg at q
  split at q
  · rename_i i e1
    cases q
    exact pd_un un_neg (h _ _ e1) fun Kn H v Q ex r q => by
      cases r
      exact ⟨i, rfl, q _ H Kn (Step.refl ex) (.int _)⟩
  · cases q
theorem SA.x {f : Env → Option D} {g : Env → Option (List D)} (ha : SD X G e f) (hr : SA X G es g) (hs : starEach (e :: es) X.env = (false, eval e X.env) :: starEach es X.env := by rfl) : SA X G (e :: es) (aCons f g) := SA.cons ha hr hs
theorem SA.s {f : Env → Option D} {g : Env → Option (List D)} (gd : Gd X G mg base k) (he : SD X G e f) (hr : SA X G es g) (hs : starEach (.Starred e p :: es) X.env = (true, eval e X.env) :: starEach es X.env := by rfl) : SA X G (.Starred e p :: es) (aStar f g) := SA.star gd he hr hs
theorem SD.cB {x : Str} {id : String} {F : List D → Option D} {g : Env → Option (List D)} (gd : Gd X G mg base k) (hc : ∀ ds d, F ds = some d → CallR X (.builtin id) (rc G ds d)) (hm : mg x = none) (ha : SA X G (e :: es) g) (hg : Gl X x := by rfl) (hv : bootBuiltins x = some (.builtin id) := by rfl) (hn : x ≠ "__name__" := by decide +kernel) (hdb : (x == ("__debug__" : Str)) = false := by decide +kernel)
    (he : starEach (e :: es) X.env = (false, eval e X.env) :: starEach es X.env := by rfl) (hpl : (backTo pos (starEach es X.env)).any (·.1) = false := by rfl) : SD X G (.Call (.Name x p) (e :: es) [] pos) (cCall F g) := SD.callB gd hc hg hm hv ha hn hdb he hpl
theorem SF.cB {x : Str} {id : String} {F : List D → Option D} {g : Env → Option (List D)} (gd : Gd X G mg base k) (hc : ∀ ds d, F ds = some d → CallR X (.builtin id) (rcF G ds d)) (hm : mg x = none) (ha : SA X G (e :: es) g) (hg : Gl X x := by rfl) (hv : bootBuiltins x = some (.builtin id) := by rfl) (hn : x ≠ "__name__" := by decide +kernel) (hdb : (x == ("__debug__" : Str)) = false := by decide +kernel)
    (he : starEach (e :: es) X.env = (false, eval e X.env) :: starEach es X.env := by rfl) (hpl : (backTo pos (starEach es X.env)).any (·.1) = false := by rfl) : SF X G (.Call (.Name x p) (e :: es) [] pos) (cCall F g) := SF.callB gd hc hg hm hv ha hn hdb he hpl
theorem SD.cT {x : Str} {T : String} {F : List D → Option D} {g : Env → Option (List D)} (gd : Gd X G mg base k) (hc : ∀ ds d, F ds = some d → CallR X (.type T) (rc G ds d)) (hm : mg x = none) (ha : SA X G (e :: es) g) (hg : Gl X x := by rfl) (hv : bootBuiltins x = some (.type T) := by rfl) (hn : x ≠ "__name__" := by decide +kernel) (hdb : (x == ("__debug__" : Str)) = false := by decide +kernel)
    (he : starEach (e :: es) X.env = (false, eval e X.env) :: starEach es X.env := by rfl) (hpl : (backTo pos (starEach es X.env)).any (·.1) = false := by rfl) : SD X G (.Call (.Name x p) (e :: es) [] pos) (cCall F g) := SD.callT gd hc hg hm hv ha hn hdb he hpl
theorem SF.cT {x : Str} {T : String} {F : List D → Option D} {g : Env → Option (List D)} (gd : Gd X G mg base k) (hc : ∀ ds d, F ds = some d → CallR X (.type T) (rcF G ds d)) (hm : mg x = none) (ha : SA X G (e :: es) g) (hg : Gl X x := by rfl) (hv : bootBuiltins x = some (.type T) := by rfl) (hn : x ≠ "__name__" := by decide +kernel) (hdb : (x == ("__debug__" : Str)) = false := by decide +kernel)
    (he : starEach (e :: es) X.env = (false, eval e X.env) :: starEach es X.env := by rfl) (hpl : (backTo pos (starEach es X.env)).any (·.1) = false := by rfl) : SF X G (.Call (.Name x p) (e :: es) [] pos) (cCall F g) := SF.callT gd hc hg hm hv ha hn hdb he hpl
/-- a def that can be called: where it stands, what it promises -/
def Cal (G : Gx) (mg : Str → Option Value) (base : Heap) (n : Nat) (x : Str) (ps : List Str) (F : List D → Option R) : Prop :=
  ∃ f fd, FnD G mg base n f fd ps F ∧ mg x = some (.ref f) ∧ PySem.W.keepIn G.K (.ref f) = true ∧ Binds G.K fd ps []
/-- a class that makes: its __init__ -/
def CalI (G : Gx) (mg : Str → Option Value) (base : Heap) (c n : Nat) (x self : Str) (ps : List Str) (F : List D → Option R) : Prop :=
  ∃ f fd, FnI G mg base c n f fd (self :: ps) F ∧ Mk G.K (G.cad c) f ∧ mg x = some (.ref (G.cad c)) ∧ Binds G.K fd (self :: ps) []
/-- a property, a method of a class -/
def CalP (G : Gx) (mg : Str → Option Value) (base : Heap) (c n : Nat) (x self : Str) (F : List D → Option R) : Prop :=
  ∃ f fd, FnD G mg base n f fd [self] F ∧ Prp G c x f ∧ Binds G.K fd [self] []
def CalM (G : Gx) (mg : Str → Option Value) (base : Heap) (c n : Nat) (x : Str) (ps : List Str) (F : List D → Option R) : Prop :=
  ∃ f fd, FnD G mg base n f fd ps F ∧ Mth G c x f ∧ Binds G.K fd ps []
theorem SE.fn {ps : List Str} {F : List D → Option R} {x : Str} {g : Env → Option (List D)} (gd : Gd X G mg base k) (C : Cal G mg base n x ps F) (tk : Takes X (fun cls d _ H' => E cls d H')) (ha : SA X G (e :: es) g) (hn : n ≤ k := by decide) (hg : Gl X x := by rfl) (hdb : (x == ("__debug__" : Str)) = false := by decide +kernel)
    (he : starEach (e :: es) X.env = (false, eval e X.env) :: starEach es X.env := by rfl) (hpl : (backTo pos (starEach es X.env)).any (·.1) = false := by rfl) : SE X G E (.Call (.Name x p) (e :: es) [] pos) (cFn F (nArg ps.length g)) := by
  obtain ⟨f, fd, h1, h2, h3, h4⟩ := C
  exact SE.call gd h1 tk hn hg h2 h3 h4 ha hdb he hpl
theorem SD.fn {ps : List Str} {F : List D → Option R} {x : Str} {g : Env → Option (List D)} (gd : Gd X G mg base k) (C : Cal G mg base n x ps F) (ha : SA X G (e :: es) g) (hn : n ≤ k := by decide) (hg : Gl X x := by rfl) (hdb : (x == ("__debug__" : Str)) = false := by decide +kernel)
    (he : starEach (e :: es) X.env = (false, eval e X.env) :: starEach es X.env := by rfl) (hpl : (backTo pos (starEach es X.env)).any (·.1) = false := by rfl) : SD X G (.Call (.Name x p) (e :: es) [] pos) (okD (cFn F (nArg ps.length g))) := by
  obtain ⟨f, fd, h1, h2, h3, h4⟩ := C
  exact SD.call gd h1 hn hg h2 h3 h4 ha hdb he hpl
theorem SE.mk {c : Nat} {ps : List Str} {F : List D → Option R} {x self : Str} {g : Env → Option (List D)} (gd : Gd X G mg base k) (C : CalI G mg base c n x self ps F) (tk : Takes X (fun cls d _ H' => E cls d H')) (ha : SA X G (e :: es) g) (hn : n + 1 ≤ k := by decide) (hg : Gl X x := by rfl) (hdb : (x == ("__debug__" : Str)) = false := by decide +kernel)
    (he : starEach (e :: es) X.env = (false, eval e X.env) :: starEach es X.env := by rfl) (hpl : (backTo pos (starEach es X.env)).any (·.1) = false := by rfl) : SE X G E (.Call (.Name x p) (e :: es) [] pos) (cFn F (nArg ps.length g)) := by
  obtain ⟨f, fd, h1, h2, h3, h4⟩ := C
  exact SE.make gd h2 h1 tk hn hg h3 h4 ha hdb he hpl
theorem SD.mk {c : Nat} {ps : List Str} {F : List D → Option R} {x self : Str} {g : Env → Option (List D)} (gd : Gd X G mg base k) (C : CalI G mg base c n x self ps F) (ha : SA X G (e :: es) g) (hn : n + 1 ≤ k := by decide) (hg : Gl X x := by rfl) (hdb : (x == ("__debug__" : Str)) = false := by decide +kernel)
    (he : starEach (e :: es) X.env = (false, eval e X.env) :: starEach es X.env := by rfl) (hpl : (backTo pos (starEach es X.env)).any (·.1) = false := by rfl) : SD X G (.Call (.Name x p) (e :: es) [] pos) (okD (cFn F (nArg ps.length g))) := by
  obtain ⟨f, fd, h1, h2, h3, h4⟩ := C
  exact SD.make gd h2 h1 hn hg h3 h4 ha hdb he hpl
theorem SD.pr {c : Nat} {F : List D → Option R} {f self : Str} {h : Env → Option D} (gd : Gd X G mg base k) (C : CalP G mg base c n f self F) (he : SD X G e h) (hn : n + 1 ≤ k := by decide) (ha : attributeBase e f X.env (eval e X.env) = eval e X.env := by rfl) : SD X G (.Attribute e f pos) (cPrp c F h) := by
  obtain ⟨g, fd, h1, h2, h3⟩ := C
  exact SD.prop gd h2 h1 hn h3 he ha
theorem SD.at {c i : Nat} {f : Str} {g : Env → Option D} (gd : Gd X G mg base k) (F : Fld G c f i) (h : SD X G e g) (hb : attributeBase e f X.env (eval e X.env) = eval e X.env := by rfl) : SD X G (.Attribute e f pos) (cAt c i g) := SD.attr gd F h hb
theorem SE.sd {f : Env → Option R} (h : ∀ E, Takes X (fun cls d _ H' => E cls d H') → SE X G E e f) : SD X G e (okD f) := fun env d q => by
  have := h (fun _ _ _ => False) LamX.takes0 env (.ok d) (okD_some q)
  exact this
theorem SD.ap {f g : Env → Option D} (gd : Gd X G mg base k) (ha : SD X G a f) (hb : SD X G b g) (hs : PlainIx b := by exact fun _ _ => rfl) : SD X G (.Subscript a b pos) (cIx f g) := SD.ix gd ha hb hs
theorem SD.sl {lo hi : Option Expr} {p2 : Pos} {f : Env → Option D} {l h : Env → Option (Option Int)} (gd : Gd X G mg base k) (he : SD X G e f) (hl : SO X G lo l) (hh : SO X G hi h) : SD X G (.Subscript e (.Slice lo hi none p2) pos) (cSl f l h) := SD.slice gd he hl hh
theorem SD.jn {apos : Pos} {f g : Env → Option D} (gd : Gd X G mg base k) (ho : SD X G a f) (he : SD X G e g) (hs : starEach [e] X.env = [(false, eval e X.env)] := by rfl) (hbase : attributeBase a "join" X.env (eval a X.env) = eval a X.env := by rfl) (hline : (apos.endLine == pos.line) = true := by rfl) :
    SD X G (.Call (.Attribute a "join" apos) [e] [] pos) (cJoin f g) := SD.join gd ho he hs hbase hline
theorem SD.cm {op : CmpOp} {f g : Env → Option D} (gd : Gd X G mg base k) (ha : SD X G a f) (hb : SD X G b g) (hm : behindInMarks op b = false := by rfl) : SD X G (.Compare a [op] [b] pos) (bD (cCmp2 op f g)) := SD.cmp2 gd ha hb hm
theorem ST.cm {op : CmpOp} {f g : Env → Option D} (gd : Gd X G mg base k) (ha : SD X G a f) (hb : SD X G b g) (hm : behindInMarks op b = false := by rfl) : ST X G (.Compare a [op] [b] pos) (cCmp2 op f g) := ST.cmp2 gd ha hb hm
theorem SD.ch {o1 o2 : CmpOp} {f g h : Env → Option D} (gd : Gd X G mg base k) (ha : SD X G a f) (hb : SD X G b g) (hc : SD X G c h) (hm : lastMarks [o1, o2] [b, c] = false := by rfl) : SD X G (.Compare a [o1, o2] [b, c] pos) (bD (cChn o1 o2 f g h)) := SD.chn gd ha hb hc hm
theorem SD.t {f : Env → Option D} (h : SD X G e f) (he : ∀ whole, isTrue e X.env whole = (do let v ← whole; standAt e.pos; holding [v] (truthy v)) := by exact fun _ => rfl) : ST X G e (tB f) := SD.testD h he
end
end Ev
set_option maxHeartbeats 4000000
namespace Ev
open PySem PySem.Spec PyProof.Rows L2
section
variable {X : Cx} {G : Gx} {E : XK} {e o tg iter tg1 iter1 elt kx vx value i0 : Expr} {es ifs ifs1 : List Expr} {pos p : Pos} {mg : Str → Option Value} {base : Heap} {k n : Nat} {scope : Scope}
theorem PG.na (gd : Gd X G mg base k) (i : Nat) {x : Str} (hi : X.N[i]? = some x := by rfl) (hx : Loc X.env.scope x := by first | exact Or.inl rfl | exact Or.inr rfl) (hf : X.fn x = true ∨ X.env.scope.names.lookup x = some .local := by first | exact Or.inl rfl | exact Or.inr rfl) : PG X (.Name x pos) (tG G (.nm i)) := pg_nm gd.hN hi hx hf
theorem PGs.x {t : Tg} {ts : List Tg} (h1 : PG X e (tG G t)) (h2 : PGs X es (tGs G ts)) (hs : (assignEach (e :: es) X.env).map (·.2) = assign e X.env :: (assignEach es X.env).map (·.2) := by rfl) : PGs X (e :: es) (tGs G (t :: ts)) := pgs_c h1 h2 hs
theorem PG.t (gd : Gd X G mg base k) {m : Nat} {ts : List Tg} (h : PGs X es (tGs G ts)) (hn : (assignEach es X.env).length = ts.length := by rfl) (hst : (assignEach es X.env).findIdx? (·.1) = none := by rfl) : PG X (.Tuple es m pos) (tG G (.tp ts)) := pg_tp gd.hK gd.hc h hn hst
def blkB (N : List Str) (sc scope : Scope) (own : List (Str × Nat)) : Bool :=
  decide (scope.kind = .function) && ((scope.names.all fun y => decide (scope.names.lookup y.1 = some y.2)) && ((own.all fun p => decide (N[p.2]? = some p.1)) && ((scope.names.all fun y => !decide (y.2 = .free) || (decide (sc.names.lookup y.1 = some .cell) || decide (sc.names.lookup y.1 = some .free))) &&
    (scope.names.all fun y => !(decide (y.2 = .local) || decide (y.2 = .cell)) || (decide (y.1 ∈ own.map (·.1)) || !decide (y.1 ∈ N))))))
theorem blk_of {N : List Str} {sc scope : Scope} {own : List (Str × Nat)} (h : blkB N sc scope own = true) : BlkOk N sc scope own := by
  unfold blkB at h
  simp only [Bool.and_eq_true, List.all_eq_true, decide_eq_true_eq, Bool.or_eq_true, Bool.not_eq_true', decide_eq_false_iff_not] at h
  obtain ⟨h1, h2, h3, h4, h5⟩ := h
  refine ⟨h1, h2, h3, fun y hy e => ?_, fun y hy e => ?_⟩
  · rcases h4 y hy with z | z
    · exact absurd e z
    · exact z
  · rcases h5 y hy with z | z
    · rw [Bool.or_eq_false_iff, decide_eq_false_iff_not, decide_eq_false_iff_not] at z
      rcases e with e | e
      · exact absurd e z.1
      · exact absurd e z.2
    · exact z
/-- what holds in a comprehension's block -/
def InB (X : Cx) (scope : Scope) (p : Cx → Prop) : Prop := ∀ (s : Shared) (H : Hp) (C : Addr) (cl : List (Str × Addr)) (fp : List Addr), p (X.blk s H scope (compEnvC scope cl C X.env) fp)
section
variable {own : List (Str × Nat)} {vs1 : List Nat} {t t1 : Tg} {ft f1 : Env → Option Bool} {fi fi1 : Env → Option (List D)} {fe fk fv : Env → Option D}
theorem SF.lc1 (own : List (Str × Nat)) (gd : Gd X G mg base k) (hi : SI X G tg iter fi) (hg : InB X scope fun Y => PG Y tg (tG G t)) (ht : InB X scope fun Y => STs Y G ifs ft) (he : InB X scope fun Y => SD Y G elt fe)
    (ok : blkB X.N X.env.scope scope own = true := by kernel_rfl) (hsub : ∀ i ∈ tgS t, i ∈ own.map (·.2) := by decide +kernel) (hs : ∀ x, foldedSetIterable iter X.env x = pure x := by exact fun _ => rfl) :
    SF X G (.ListComp elt [⟨tg, iter, ifs, 0⟩] scope pos) (outD D.lst (cC1 fi t ft (faL fe) (own.map (·.2)) [])) :=
  SC.sf (SC.one (acc_hid accL) gd (cmp_list _ _ _ _) (one_list _ _ _ _ _ _) mkr_list hi (blk_of ok) hsub hg ht (fun s H C cl fp => padd_L (he s H C cl fp)) hs) own_L
theorem SF.lc2 (own : List (Str × Nat)) (vs1 : List Nat) (gd : Gd X G mg base k) (hi : SI X G tg iter fi) (hg : InB X scope fun Y => PG Y tg (tG G t)) (ht : InB X scope fun Y => STs Y G ifs ft) (hi1 : InB X scope fun Y => SI Y G tg1 iter1 fi1) (hg1 : InB X scope fun Y => PG Y tg1 (tG G t1)) (ht1 : InB X scope fun Y => STs Y G ifs1 f1) (he : InB X scope fun Y => SD Y G elt fe)
    (ok : blkB X.N X.env.scope scope own = true := by kernel_rfl) (hsub : ∀ i ∈ tgS t, i ∈ own.map (·.2) := by decide +kernel) (hsub1 : ∀ i ∈ tgS t1, i ∈ vs1 := by decide +kernel) (hv : ∀ i ∈ vs1, i ∈ own.map (·.2) := by decide +kernel) (hs : ∀ x, foldedSetIterable iter X.env x = pure x := by exact fun _ => rfl) (hs1 : ∀ env x, foldedSetIterable iter1 env x = pure x := by exact fun _ _ => rfl) :
    SF X G (.ListComp elt [⟨tg, iter, ifs, 0⟩, ⟨tg1, iter1, ifs1, 0⟩] scope pos) (outD D.lst (cC1 fi t ft (body2 fi1 t1 f1 (faL fe) vs1) (own.map (·.2)) [])) :=
  SC.sf (SC.two (acc_hid accL) gd (cmp_list _ _ _ _) (two_list _ _ _ _ _ _ _ _ _) mkr_list hi (blk_of ok) hsub hsub1 hv hg ht hi1 hg1 ht1 (fun s H C cl fp => padd_L (he s H C cl fp)) hs hs1) own_L
def dctP (a : List D × List D) : D := .dct a.1 a.2
theorem SF.dk1 (own : List (Str × Nat)) (gd : Gd X G mg base k) (hi : SI X G tg iter fi) (hg : InB X scope fun Y => PG Y tg (tG G t)) (ht : InB X scope fun Y => STs Y G ifs ft) (hk : InB X scope fun Y => SD Y G kx fk) (hv : InB X scope fun Y => SD Y G vx fv)
    (ok : blkB X.N X.env.scope scope own = true := by kernel_rfl) (hsub : ∀ i ∈ tgS t, i ∈ own.map (·.2) := by decide +kernel) (hs : ∀ x, foldedSetIterable iter X.env x = pure x := by exact fun _ => rfl) :
    SF X G (.DictComp kx vx [⟨tg, iter, ifs, 0⟩] scope pos) (outD dctP (cC1 fi t ft (faD putKD fk fv) (own.map (·.2)) ([], []))) :=
  SC.sf (SC.one (acc_hid accK) gd (cmp_dict _ _ _ _ _) (one_dict _ _ _ _ _ _ _) mkr_dict hi (blk_of ok) hsub hg ht (fun s H C cl fp => padd_K (gd.blk s H _ _ fp) (hk s H C cl fp) (hv s H C cl fp)) hs) own_K
theorem SF.dk2 (own : List (Str × Nat)) (vs1 : List Nat) (gd : Gd X G mg base k) (hi : SI X G tg iter fi) (hg : InB X scope fun Y => PG Y tg (tG G t)) (ht : InB X scope fun Y => STs Y G ifs ft) (hi1 : InB X scope fun Y => SI Y G tg1 iter1 fi1) (hg1 : InB X scope fun Y => PG Y tg1 (tG G t1)) (ht1 : InB X scope fun Y => STs Y G ifs1 f1) (hk : InB X scope fun Y => SD Y G kx fk) (hv : InB X scope fun Y => SD Y G vx fv)
    (ok : blkB X.N X.env.scope scope own = true := by kernel_rfl) (hsub : ∀ i ∈ tgS t, i ∈ own.map (·.2) := by decide +kernel) (hsub1 : ∀ i ∈ tgS t1, i ∈ vs1 := by decide +kernel) (hv' : ∀ i ∈ vs1, i ∈ own.map (·.2) := by decide +kernel) (hs : ∀ x, foldedSetIterable iter X.env x = pure x := by exact fun _ => rfl) (hs1 : ∀ env x, foldedSetIterable iter1 env x = pure x := by exact fun _ _ => rfl) :
    SF X G (.DictComp kx vx [⟨tg, iter, ifs, 0⟩, ⟨tg1, iter1, ifs1, 0⟩] scope pos) (outD dctP (cC1 fi t ft (body2 fi1 t1 f1 (faD putKD fk fv) vs1) (own.map (·.2)) ([], []))) :=
  SC.sf (SC.two (acc_hid accK) gd (cmp_dict _ _ _ _ _) (two_dict _ _ _ _ _ _ _ _ _ _) mkr_dict hi (blk_of ok) hsub hsub1 hv' hg ht hi1 hg1 ht1 (fun s H C cl fp => padd_K (gd.blk s H _ _ fp) (hk s H C cl fp) (hv s H C cl fp)) hs hs1) own_K
theorem SF.dn1 (own : List (Str × Nat)) (gd : Gd X G mg base k) (hi : SI X G tg iter fi) (hg : InB X scope fun Y => PG Y tg (tG G t)) (ht : InB X scope fun Y => STs Y G ifs ft) (hk : InB X scope fun Y => SD Y G kx fk) (hv : InB X scope fun Y => SD Y G vx fv)
    (ok : blkB X.N X.env.scope scope own = true := by kernel_rfl) (hsub : ∀ i ∈ tgS t, i ∈ own.map (·.2) := by decide +kernel) (hs : ∀ x, foldedSetIterable iter X.env x = pure x := by exact fun _ => rfl) :
    SF X G (.DictComp kx vx [⟨tg, iter, ifs, 0⟩] scope pos) (outD dctP (cC1 fi t ft (faD putND fk fv) (own.map (·.2)) ([], []))) :=
  SC.sf (SC.one (acc_hid accN) gd (cmp_dict _ _ _ _ _) (one_dict _ _ _ _ _ _ _) (mkr_dictN gd) hi (blk_of ok) hsub hg ht (fun s H C cl fp => padd_N (gd.blk s H _ _ fp) (hk s H C cl fp) (hv s H C cl fp)) hs) own_N
theorem SF.dn2 (own : List (Str × Nat)) (vs1 : List Nat) (gd : Gd X G mg base k) (hi : SI X G tg iter fi) (hg : InB X scope fun Y => PG Y tg (tG G t)) (ht : InB X scope fun Y => STs Y G ifs ft) (hi1 : InB X scope fun Y => SI Y G tg1 iter1 fi1) (hg1 : InB X scope fun Y => PG Y tg1 (tG G t1)) (ht1 : InB X scope fun Y => STs Y G ifs1 f1) (hk : InB X scope fun Y => SD Y G kx fk) (hv : InB X scope fun Y => SD Y G vx fv)
    (ok : blkB X.N X.env.scope scope own = true := by kernel_rfl) (hsub : ∀ i ∈ tgS t, i ∈ own.map (·.2) := by decide +kernel) (hsub1 : ∀ i ∈ tgS t1, i ∈ vs1 := by decide +kernel) (hv' : ∀ i ∈ vs1, i ∈ own.map (·.2) := by decide +kernel) (hs : ∀ x, foldedSetIterable iter X.env x = pure x := by exact fun _ => rfl) (hs1 : ∀ env x, foldedSetIterable iter1 env x = pure x := by exact fun _ _ => rfl) :
    SF X G (.DictComp kx vx [⟨tg, iter, ifs, 0⟩, ⟨tg1, iter1, ifs1, 0⟩] scope pos) (outD dctP (cC1 fi t ft (body2 fi1 t1 f1 (faD putND fk fv) vs1) (own.map (·.2)) ([], []))) :=
  SC.sf (SC.two (acc_hid accN) gd (cmp_dict _ _ _ _ _) (two_dict _ _ _ _ _ _ _ _ _ _) (mkr_dictN gd) hi (blk_of ok) hsub hsub1 hv' hg ht hi1 hg1 ht1 (fun s H C cl fp => padd_N (gd.blk s H _ _ fp) (hk s H C cl fp) (hv s H C cl fp)) hs hs1) own_N
theorem SC.s1 (own : List (Str × Nat)) (gd : Gd X G mg base k) (hi : SI X G tg iter fi) (hg : InB X scope fun Y => PG Y tg (tG G t)) (ht : InB X scope fun Y => STs Y G ifs ft) (he : InB X scope fun Y => SD Y G elt fe)
    (ok : blkB X.N X.env.scope scope own = true := by kernel_rfl) (hsub : ∀ i ∈ tgS t, i ∈ own.map (·.2) := by decide +kernel) (hs : ∀ x, foldedSetIterable iter X.env x = pure x := by exact fun _ => rfl) :
    SC X G (repS G) (.SetComp elt [⟨tg, iter, ifs, 0⟩] scope pos) (cC1 fi t ft (faS fe) (own.map (·.2)) []) :=
  SC.one accS gd (cmp_set _ _ _ _) (one_set _ _ _ _ _ _) (mkr_set gd) hi (blk_of ok) hsub hg ht (fun s H C cl fp => padd_S (gd.blk s H _ _ fp) (he s H C cl fp)) hs
theorem SC.s2 (own : List (Str × Nat)) (vs1 : List Nat) (gd : Gd X G mg base k) (hi : SI X G tg iter fi) (hg : InB X scope fun Y => PG Y tg (tG G t)) (ht : InB X scope fun Y => STs Y G ifs ft) (hi1 : InB X scope fun Y => SI Y G tg1 iter1 fi1) (hg1 : InB X scope fun Y => PG Y tg1 (tG G t1)) (ht1 : InB X scope fun Y => STs Y G ifs1 f1) (he : InB X scope fun Y => SD Y G elt fe)
    (ok : blkB X.N X.env.scope scope own = true := by kernel_rfl) (hsub : ∀ i ∈ tgS t, i ∈ own.map (·.2) := by decide +kernel) (hsub1 : ∀ i ∈ tgS t1, i ∈ vs1 := by decide +kernel) (hv : ∀ i ∈ vs1, i ∈ own.map (·.2) := by decide +kernel) (hs : ∀ x, foldedSetIterable iter X.env x = pure x := by exact fun _ => rfl) (hs1 : ∀ env x, foldedSetIterable iter1 env x = pure x := by exact fun _ _ => rfl) :
    SC X G (repS G) (.SetComp elt [⟨tg, iter, ifs, 0⟩, ⟨tg1, iter1, ifs1, 0⟩] scope pos) (cC1 fi t ft (body2 fi1 t1 f1 (faS fe) vs1) (own.map (·.2)) []) :=
  SC.two accS gd (cmp_set _ _ _ _) (two_set _ _ _ _ _ _ _ _ _) (mkr_set gd) hi (blk_of ok) hsub hsub1 hv hg ht hi1 hg1 ht1 (fun s H C cl fp => padd_S (gd.blk s H _ _ fp) (he s H C cl fp)) hs hs1
theorem SC.tt1 (own : List (Str × Nat)) (gd : Gd X G mg base k) (hi : SI X G tg iter fi) (hg : InB X scope fun Y => PG Y tg (tG G t)) (ht : InB X scope fun Y => STs Y G ifs ft) (he : InB X scope fun Y => SD Y G elt fe)
    (ok : blkB X.N X.env.scope scope own = true := by kernel_rfl) (hsub : ∀ i ∈ tgS t, i ∈ own.map (·.2) := by decide +kernel) (hs : ∀ x, foldedSetIterable iter X.env x = pure x := by exact fun _ => rfl) :
    SC X G (repT G) (.SetComp elt [⟨tg, iter, ifs, 0⟩] scope pos) (cC1 fi t ft (faT fe) (own.map (·.2)) []) :=
  SC.one accT gd (cmp_set _ _ _ _) (one_set _ _ _ _ _ _) (mkr_setT gd) hi (blk_of ok) hsub hg ht (fun s H C cl fp => padd_T (gd.blk s H _ _ fp) (he s H C cl fp)) hs
/-! ### x = [..] on one line -/
theorem SS.l1 (i : Nat) {y : Str} {py spos : Pos} (own : List (Str × Nat)) (gd : Gd X G mg base k) (hi : SI X G tg iter fi) (hg : InB X scope fun Y => PG Y tg (tG G t)) (ht : InB X scope fun Y => STs Y G ifs ft) (he : InB X scope fun Y => SD Y G elt fe)
    (hy : X.N[i]? = some y := by rfl) (hyl : X.env.scope.names.lookup y = some .local := by rfl) (hsw : swapsWith (.ListComp elt [⟨tg, iter, ifs, 0⟩] scope pos) (some (.Name y py)) spos.line X.env = pure true := by rfl)
    (ok : blkB X.N X.env.scope scope own = true := by kernel_rfl) (hsub : ∀ i ∈ tgS t, i ∈ own.map (·.2) := by decide +kernel) (hs : ∀ x, foldedSetIterable iter X.env x = pure x := by exact fun _ => rfl) :
    SS X G E (.Assign [.Name y py] (.ListComp elt [⟨tg, iter, ifs, 0⟩] scope pos) spos) (gOwnA i D.lst (cC1 fi t ft (faL fe) (own.map (·.2)) [])) :=
  SS.one (acc_hid accL) own_L gd (cmp_list _ _ _ _) (one_list _ _ _ _ _ _) mkr_list hy hyl hsw hi (blk_of ok) hsub hg ht (fun s H C cl fp => padd_L (he s H C cl fp)) hs
theorem SS.l2 (i : Nat) {y : Str} {py spos : Pos} (own : List (Str × Nat)) (vs1 : List Nat) (gd : Gd X G mg base k) (hi : SI X G tg iter fi) (hg : InB X scope fun Y => PG Y tg (tG G t)) (ht : InB X scope fun Y => STs Y G ifs ft) (hi1 : InB X scope fun Y => SI Y G tg1 iter1 fi1) (hg1 : InB X scope fun Y => PG Y tg1 (tG G t1)) (ht1 : InB X scope fun Y => STs Y G ifs1 f1) (he : InB X scope fun Y => SD Y G elt fe)
    (hy : X.N[i]? = some y := by rfl) (hyl : X.env.scope.names.lookup y = some .local := by rfl) (hsw : swapsWith (.ListComp elt [⟨tg, iter, ifs, 0⟩, ⟨tg1, iter1, ifs1, 0⟩] scope pos) (some (.Name y py)) spos.line X.env = pure true := by rfl)
    (ok : blkB X.N X.env.scope scope own = true := by kernel_rfl) (hsub : ∀ i ∈ tgS t, i ∈ own.map (·.2) := by decide +kernel) (hsub1 : ∀ i ∈ tgS t1, i ∈ vs1 := by decide +kernel) (hv : ∀ i ∈ vs1, i ∈ own.map (·.2) := by decide +kernel) (hs : ∀ x, foldedSetIterable iter X.env x = pure x := by exact fun _ => rfl) (hs1 : ∀ env x, foldedSetIterable iter1 env x = pure x := by exact fun _ _ => rfl) :
    SS X G E (.Assign [.Name y py] (.ListComp elt [⟨tg, iter, ifs, 0⟩, ⟨tg1, iter1, ifs1, 0⟩] scope pos) spos) (gOwnA i D.lst (cC1 fi t ft (body2 fi1 t1 f1 (faL fe) vs1) (own.map (·.2)) [])) :=
  SS.two (acc_hid accL) own_L gd (cmp_list _ _ _ _) (two_list _ _ _ _ _ _ _ _ _) mkr_list hy hyl hsw hi (blk_of ok) hsub hsub1 hv hg ht hi1 hg1 ht1 (fun s H C cl fp => padd_L (he s H C cl fp)) hs hs1
theorem SS.k1 (i : Nat) {y : Str} {py spos : Pos} (own : List (Str × Nat)) (gd : Gd X G mg base k) (hi : SI X G tg iter fi) (hg : InB X scope fun Y => PG Y tg (tG G t)) (ht : InB X scope fun Y => STs Y G ifs ft) (hk : InB X scope fun Y => SD Y G kx fk) (hv : InB X scope fun Y => SD Y G vx fv)
    (hy : X.N[i]? = some y := by rfl) (hyl : X.env.scope.names.lookup y = some .local := by rfl) (hsw : swapsWith (.DictComp kx vx [⟨tg, iter, ifs, 0⟩] scope pos) (some (.Name y py)) spos.line X.env = pure true := by rfl)
    (ok : blkB X.N X.env.scope scope own = true := by kernel_rfl) (hsub : ∀ i ∈ tgS t, i ∈ own.map (·.2) := by decide +kernel) (hs : ∀ x, foldedSetIterable iter X.env x = pure x := by exact fun _ => rfl) :
    SS X G E (.Assign [.Name y py] (.DictComp kx vx [⟨tg, iter, ifs, 0⟩] scope pos) spos) (gOwnA i dctP (cC1 fi t ft (faD putKD fk fv) (own.map (·.2)) ([], []))) :=
  SS.one (acc_hid accK) own_K gd (cmp_dict _ _ _ _ _) (one_dict _ _ _ _ _ _ _) mkr_dict hy hyl hsw hi (blk_of ok) hsub hg ht (fun s H C cl fp => padd_K (gd.blk s H _ _ fp) (hk s H C cl fp) (hv s H C cl fp)) hs
theorem SS.k2 (i : Nat) {y : Str} {py spos : Pos} (own : List (Str × Nat)) (vs1 : List Nat) (gd : Gd X G mg base k) (hi : SI X G tg iter fi) (hg : InB X scope fun Y => PG Y tg (tG G t)) (ht : InB X scope fun Y => STs Y G ifs ft) (hi1 : InB X scope fun Y => SI Y G tg1 iter1 fi1) (hg1 : InB X scope fun Y => PG Y tg1 (tG G t1)) (ht1 : InB X scope fun Y => STs Y G ifs1 f1) (hk : InB X scope fun Y => SD Y G kx fk) (hv : InB X scope fun Y => SD Y G vx fv)
    (hy : X.N[i]? = some y := by rfl) (hyl : X.env.scope.names.lookup y = some .local := by rfl) (hsw : swapsWith (.DictComp kx vx [⟨tg, iter, ifs, 0⟩, ⟨tg1, iter1, ifs1, 0⟩] scope pos) (some (.Name y py)) spos.line X.env = pure true := by rfl)
    (ok : blkB X.N X.env.scope scope own = true := by kernel_rfl) (hsub : ∀ i ∈ tgS t, i ∈ own.map (·.2) := by decide +kernel) (hsub1 : ∀ i ∈ tgS t1, i ∈ vs1 := by decide +kernel) (hv' : ∀ i ∈ vs1, i ∈ own.map (·.2) := by decide +kernel) (hs : ∀ x, foldedSetIterable iter X.env x = pure x := by exact fun _ => rfl) (hs1 : ∀ env x, foldedSetIterable iter1 env x = pure x := by exact fun _ _ => rfl) :
    SS X G E (.Assign [.Name y py] (.DictComp kx vx [⟨tg, iter, ifs, 0⟩, ⟨tg1, iter1, ifs1, 0⟩] scope pos) spos) (gOwnA i dctP (cC1 fi t ft (body2 fi1 t1 f1 (faD putKD fk fv) vs1) (own.map (·.2)) ([], []))) :=
  SS.two (acc_hid accK) own_K gd (cmp_dict _ _ _ _ _) (two_dict _ _ _ _ _ _ _ _ _ _) mkr_dict hy hyl hsw hi (blk_of ok) hsub hsub1 hv' hg ht hi1 hg1 ht1 (fun s H C cl fp => padd_K (gd.blk s H _ _ fp) (hk s H C cl fp) (hv s H C cl fp)) hs hs1
end
/-! ### statements -/
section
variable {f : Env → Option D} {pos' : Pos} {x : Str}
theorem SS.st (i : Nat) (gd : Gd X G mg base k) (he : SD X G e f) (hi : X.N[i]? = some x := by rfl) (hx : Loc X.env.scope x := by first | exact Or.inl rfl | exact Or.inr rfl) (hs : swapsWith e (some (.Name x pos')) pos.line X.env = pure false := by rfl) (hf : X.fn x = true ∨ X.env.scope.names.lookup x = some .local := by first | exact Or.inl rfl | exact Or.inr rfl) :
    SS X G E (.Assign [.Name x pos'] e pos) (gSet i f) := SS.set gd.hN hi hx he hs hf
theorem SS.sw (i : Nat) (gd : Gd X G mg base k) (he : SF X G e f) (hi : X.N[i]? = some x := by rfl) (hx : Loc X.env.scope x := by first | exact Or.inl rfl | exact Or.inr rfl) (hs : swapsWith e (some (.Name x pos')) pos.line X.env = pure false := by rfl) (hf : X.fn x = true ∨ X.env.scope.names.lookup x = some .local := by first | exact Or.inl rfl | exact Or.inr rfl) :
    SS X G E (.Assign [.Name x pos'] e pos) (gOwn i f) := SS.setF gd.hN hi hx he hs hf
theorem SS.sr (i : Nat) {f : Env → Option R} (gd : Gd X G mg base k) (he : SE X G E e f) (hi : X.N[i]? = some x := by rfl) (hx : Loc X.env.scope x := by first | exact Or.inl rfl | exact Or.inr rfl) (hs : swapsWith e (some (.Name x pos')) pos.line X.env = pure false := by rfl) (hf : X.fn x = true ∨ X.env.scope.names.lookup x = some .local := by first | exact Or.inl rfl | exact Or.inr rfl) :
    SS X G E (.Assign [.Name x pos'] e pos) (gSetR i f) := SS.setR gd.hN hi hx he hs hf
theorem SS.ex {f : Env → Option R} (he : SE X G E e f) (hs : swapsWith e none pos.line X.env = pure false := by rfl) : SS X G E (.Expr e pos) (gExprR f) := SS.exprR he hs
theorem SS.ag {t : Tg} (he : SD X G e f) (hg : PG X tg (tG G t)) (hs : swapsWithSole [tg] e pos.line X.env = pure false := by rfl) (hw : swappedStores [tg] e X.env = pure none := by rfl) (h1 : (assignEach [tg] X.env).map (·.2) = [assign tg X.env] := by rfl) : SS X G E (.Assign [tg] e pos) (gAsg t f) := SS.asg he hg hs hw h1
theorem SS.ap (gd : Gd X G mg base k) {p0 apos cpos : Pos} {g : Env → Option D} (i : Nat) (he : SD X G e g) (hN : X.N[i]? = some x := by rfl) (hv : Vis X.env.scope x := by first | exact Or.inl rfl | exact Or.inr (Or.inl rfl) | exact Or.inr (Or.inr rfl)) (hd : (x == ("__debug__" : Str)) = false := by decide +kernel) (hcd : (x == ("__classdict__" : Str)) = false := by decide +kernel)
    (hbase : attributeBase (.Name x p0) "append" X.env (eval (.Name x p0) X.env) = eval (.Name x p0) X.env := by rfl)
    (hfew : ((backTo cpos (starEach [e] X.env)).all (fun x => !x.1) && (backToKw cpos (keywordEach [] X.env)).all (fun x => x.1.isSome)
      && decide (([e] : List Expr).length + ([] : List Keyword).length + (if ([] : List Keyword).isEmpty then 0 else 1) < 30)) = true := by rfl)
    (hline : (apos.endLine == cpos.line) = true := by rfl) (hs : starEach [e] X.env = (false, eval e X.env) :: starEach [] X.env := by rfl) (hsw : swapsWith (.Call (.Attribute (.Name x p0) "append" apos) [e] [] cpos) none pos.line X.env = pure false := by rfl) :
    SS X G E (.Expr (.Call (.Attribute (.Name x p0) "append" apos) [e] [] cpos) pos) (gApp i g) := SS.append gd hN hv hd hcd he hbase hfew hline hs hsw
theorem SS.pk {p0 : Pos} {fi fv : Env → Option D} (j : Nat) (gd : Gd X G mg base k) (hi : SD X G i0 fi) (he : SD X G value fv) (hN : X.N[j]? = some x := by rfl) (hv : Vis X.env.scope x := by first | exact Or.inl rfl | exact Or.inr (Or.inl rfl) | exact Or.inr (Or.inr rfl)) (hd : (x == ("__debug__" : Str)) = false := by decide +kernel) (hcd : (x == ("__classdict__" : Str)) = false := by decide +kernel)
    (hs : swapsWith value (some (.Subscript (.Name x p0) i0 pos')) pos.line X.env = pure false := by rfl) : SS X G E (.Assign [.Subscript (.Name x p0) i0 pos'] value pos) (gPutK j fi fv) := SS.putK gd hN hv hd hcd hi he hs
theorem SS.pn {p0 : Pos} {fi fv : Env → Option D} (j : Nat) (gd : Gd X G mg base k) (hi : SD X G i0 fi) (he : SD X G value fv) (hN : X.N[j]? = some x := by rfl) (hv : Vis X.env.scope x := by first | exact Or.inl rfl | exact Or.inr (Or.inl rfl) | exact Or.inr (Or.inr rfl)) (hd : (x == ("__debug__" : Str)) = false := by decide +kernel) (hcd : (x == ("__classdict__" : Str)) = false := by decide +kernel)
    (ha : ∀ v, assign (.Subscript (.Name x p0) i0 pos') X.env v = (do
      let ov ← holding [v] (eval (.Name x p0) X.env)
      let iv ← holding [v, ov] (eval i0 X.env)
      standAt pos'
      holding [v, ov, iv] (setItem ov iv v)
      release [v, ov, iv] []) := by exact fun _ => rfl)
    (hs : swapsWithSole [.Subscript (.Name x p0) i0 pos'] value pos.line X.env = pure false := by rfl) (hw : swappedStores [.Subscript (.Name x p0) i0 pos'] value X.env = pure none := by rfl)
    (h1' : (assignEach [.Subscript (.Name x p0) i0 pos'] X.env).map (·.2) = [assign (.Subscript (.Name x p0) i0 pos') X.env] := by rfl) : SS X G E (.Assign [.Subscript (.Name x p0) i0 pos'] value pos) (gPutN j fi fv) := SS.putN gd hN hv hd hcd hi he ha hs hw h1'
theorem SS.fo {t : Tg} {fi : Env → Option (List D)} {b : EnvS → Option O} {body : List Stmt} (gd : Gd X G mg base k) (hp : PassesOwn (model X.prog X.w) X.A X.env X.xe) (hi : SI X G tg iter fi) (hg : PG X tg (tG G t)) (hb : SSs X G E body b) (hs : ∀ x, foldedSetIterable iter X.env x = pure x := by exact fun _ => rfl) :
    SS X G E (.For tg iter body [] pos) (gFor t fi b) := SS.for_ hp gd.hc hi hg hb hs
end
/-! ### walks -/
theorem SI.r1 {f : Env → Option (List D)} (gd : Gd X G mg base k) (hm : mg "range" = none) (h : SA X G [e] f) (hg : Gl X "range" := by rfl) (hs : starEach [e] X.env = [(false, eval e X.env)] := by rfl) : SI X G tg (.Call (.Name "range" p) [e] [] pos) (iRng1 f) := SI.rng1 gd hg hm h hs
theorem SI.it {apos tpos : Pos} {elts : List Expr} {kk : Nat} {f : Env → Option D} (gd : Gd X G mg base k) (h : SD X G e f) (hbase : attributeBase e "items" X.env (eval e X.env) = eval e X.env := by rfl) (hline : (apos.endLine == pos.line) = true := by rfl) : SI X G (.Tuple elts kk tpos) (.Call (.Attribute e "items" apos) [] [] pos) (iItms f) := SI.items gd h hbase hline
theorem SI.vl {apos : Pos} {f : Env → Option D} (gd : Gd X G mg base k) (h : SD X G e f) (hbase : attributeBase e "values" X.env (eval e X.env) = eval e X.env := by rfl) (hline : (apos.endLine == pos.line) = true := by rfl) : SI X G tg (.Call (.Attribute e "values" apos) [] [] pos) (iVls f) := SI.values gd h hbase hline
theorem SI.zp {e2 : Expr} {tpos : Pos} {elts : List Expr} {kk : Nat} {f : Env → Option (List D)} (gd : Gd X G mg base k) (hm : mg "zip" = none) (ha : SA X G [e, e2] f) (hg : Gl X "zip" := by rfl)
    (hs : starEach [e, e2] X.env = (false, eval e X.env) :: starEach [e2] X.env := by rfl) (hpl : (backTo pos (starEach [e2] X.env)).any (·.1) = false := by rfl) : SI X G (.Tuple elts kk tpos) (.Call (.Name "zip" p) [e, e2] [] pos) (iZip f) := SI.zip gd hg hm ha hs hpl
/-! ### sets -/
theorem SF.sS {f : Env → Option (List D)} (gd : Gd X G mg base k) (hm : mg "sorted" = none) (ha : SC X G (repS G) e f) (hg : Gl X "sorted" := by rfl) (he : starEach [e] X.env = (false, eval e X.env) :: starEach [] X.env := by rfl) : SF X G (.Call (.Name "sorted" p) [e] [] pos) (cSrtS f) := SF.sortedS gd rfl hg hm ha he
theorem SF.sT {f : Env → Option (List D)} (gd : Gd X G mg base k) (hm : mg "sorted" = none) (ha : SC X G (repT G) e f) (hg : Gl X "sorted" := by rfl) (he : starEach [e] X.env = (false, eval e X.env) :: starEach [] X.env := by rfl) : SF X G (.Call (.Name "sorted" p) [e] [] pos) (cSrtS f) := SF.sortedT gd rfl hg hm ha he
theorem SD.lS {f : Env → Option (List D)} (gd : Gd X G mg base k) (hm : mg "len" = none) (ha : SC X G (repS G) e f) (hg : Gl X "len" := by rfl) (he : starEach [e] X.env = (false, eval e X.env) :: starEach [] X.env := by rfl) : SD X G (.Call (.Name "len" p) [e] [] pos) (cLenS f) := SD.lenS gd rfl hg hm ha he
theorem SD.lT {f : Env → Option (List D)} (gd : Gd X G mg base k) (hm : mg "len" = none) (ha : SC X G (repT G) e f) (hg : Gl X "len" := by rfl) (he : starEach [e] X.env = (false, eval e X.env) :: starEach [] X.env := by rfl) : SD X G (.Call (.Name "len" p) [e] [] pos) (cLenS f) := SD.lenT gd rfl hg hm ha he
theorem SC.so {f : Env → Option (List D)} (gd : Gd X G mg base k) (hm : mg "set" = none) (ha : SA X G [e] f) (hg : Gl X "set" := by rfl) (he : starEach [e] X.env = (false, eval e X.env) :: starEach [] X.env := by rfl) : SC X G (repS G) (.Call (.Name "set" p) [e] [] pos) (cSetOf f) := SC.setOf gd rfl hg hm ha he
theorem SC.sot {f : Env → Option (List D)} (gd : Gd X G mg base k) (hm : mg "set" = none) (ha : SA X G [e] f) (hg : Gl X "set" := by rfl) (he : starEach [e] X.env = (false, eval e X.env) :: starEach [] X.env := by rfl) : SC X G (repT G) (.Call (.Name "set" p) [e] [] pos) (cSetOfT f) := SC.setOfT gd rfl hg hm ha he
/-! ### dicts, methods -/
theorem SF.dp {keys : List (Option Expr)} {values : List Expr} {f : Env → Option (List (D × D))} (h : SPs X G pos keys values f) (hall : keys.all (·.isSome) = true := by rfl) (hl : keys.length = values.length := by rfl) (h0 : keys ≠ [] := by exact fun z => nomatch z) (h15 : keys.length ≤ 15 := by decide) : SF X G (.Dict keys values pos) (cDisp f) := SF.disp h hall hl h0 h15
theorem SD.g2 {f0 : Expr} {apos cpos : Pos} {fo fe ff : Env → Option D} (gd : Gd X G mg base k) (ho : SD X G o fo) (he : SD X G e fe) (hf : SD X G f0 ff) (m : M2 X o "get" apos e f0 cpos := by exact ⟨rfl, rfl, rfl, rfl⟩) : SD X G (.Call (.Attribute o "get" apos) [e, f0] [] cpos) (cGet fo fe ff) := SD.get2 gd ho he hf m
end
end Ev
set_option maxHeartbeats 4000000
namespace Ev
open PySem PySem.Spec PyProof.Rows L2
/-- a def of the program's text, as it stands behind the head -/
abbrev FunH (G : Gx) (name qual : Str) (st : Stmt) (f : Addr) (fd : FuncData) : Prop := FunD G.K name qual (defArgs st) (defBody st) (defScope st) [] [] f fd
def DefH (G : Gx) (mg : Str → Option Value) (x : Str) (st : Stmt) : Prop := ∃ f fd, FunH G x x st f fd ∧ mg x = some (.ref f)
def MthH (G : Gx) (c : Nat) (m qual : Str) (st : Stmt) : Prop := ∃ f fd, FunH G m qual st f fd ∧ Mth G c m f
def PrpH (G : Gx) (c : Nat) (m qual : Str) (st : Stmt) : Prop := ∃ f fd, FunH G m qual st f fd ∧ Prp G c m f
def MkH (G : Gx) (mg : Str → Option Value) (c : Nat) (x qual : Str) (st : Stmt) : Prop := ∃ f fd, FunH G "__init__" qual st f fd ∧ Mk G.K (G.cad c) f ∧ mg x = some (.ref (G.cad c))
/-- the context of a def's body -/
abbrev cxD (G : Gx) (mg : Str → Option Value) (base : Heap) (N : List Str) (qual : Str) (sc : Scope) (f : Addr) (cdv : Value) (A : Around) (outer : List PySem.Env) (s : Shared) (H : Hp) (E : XK) : Cx := cxOf (L2.CX G.P G.w) G.P G.w G.K mg base N qual sc f cdv A outer s H E
def Body (G : Gx) (mg : Str → Option Value) (base : Heap) (k : Nat) (N : List Str) (st : Stmt) (g : EnvS → Option O) : Prop :=
  ∀ (qual : Str) (f : Addr) (cdv : Value) (A : Around) (outer : List PySem.Env) (s : Shared) (H : Hp) (E : XK), Gd (cxD G mg base N qual (defScope st) f cdv A outer s H E) G mg base k → Takes (cxD G mg base N qual (defScope st) f cdv A outer s H E) (fun cls d _ H' => E cls d H') →
    PassesOwn (model (cxD G mg base N qual (defScope st) f cdv A outer s H E).prog (cxD G mg base N qual (defScope st) f cdv A outer s H E).w) (cxD G mg base N qual (defScope st) f cdv A outer s H E).A (cxD G mg base N qual (defScope st) f cdv A outer s H E).env (cxD G mg base N qual (defScope st) f cdv A outer s H E).xe →
    SSs (cxD G mg base N qual (defScope st) f cdv A outer s H E) G E (defBody st) g
def BodyI (G : Gx) (mg : Str → Option Value) (base : Heap) (c k : Nat) (N : List Str) (st : Stmt) (g : Env → List D → Option OI) : Prop :=
  ∀ (qual : Str) (f : Addr) (cdv : Value) (A : Around) (outer : List PySem.Env) (s : Shared) (H : Hp) (E : XK), Gd (cxD G mg base N qual (defScope st) f cdv A outer s H E) G mg base k → Takes (cxD G mg base N qual (defScope st) f cdv A outer s H E) (fun cls d _ H' => E cls d H') →
    SJs (cxD G mg base N qual (defScope st) f cdv A outer s H E) G E c (defBody st) g
section
variable {G : Gx} {mg : Str → Option Value} {base : Heap} {c k n : Nat} {N ps : List Str} {st : Stmt} {x m self name qual : Str} {f : Addr} {fd : FuncData}
theorem fnD_of {g : EnvS → Option O} (F : FunH G name qual st f fd) (S : FnScope N ps (defScope st)) (W : Body G mg base k N st g) : FnD G mg base (k + 1) f fd ps (runF N g) := by
  obtain ⟨oc, od, dV, kV, doc, pm, an, cdv, ct, osl, rfl, lk, hcd, hD, hK⟩ := F.ex
  exact fnD lk hcd S fun A outer s H E gd tk pa => W qual f cdv A outer s H E gd tk pa
theorem fnI_of {g : Env → List D → Option OI} (F : FunH G name qual st f fd) (S : FnScope N ps (defScope st)) (W : BodyI G mg base c k N st g) : FnI G mg base c (k + 1) f fd ps (runI c N g) := by
  obtain ⟨oc, od, dV, kV, doc, pm, an, cdv, ct, osl, rfl, lk, hcd, hD, hK⟩ := F.ex
  exact fnI lk hcd S fun A outer s H E gd tk => W qual f cdv A outer s H E gd tk
abbrev BindsAll (st : Stmt) (ps : List Str) : Prop := ∀ (name qual : Str) (kV doc pm : Value) (an : Option Addr) (cdv ct : Value) (us : List Value), us.length = ps.length → bindArgs (PySem.W.fnOf name qual (defArgs st) (defBody st) (defScope st) .none kV doc pm an cdv ct) ⟨us, []⟩ = pure (ps.zip us)
theorem Cal.of {g : EnvS → Option O} (D : DefH G mg x st) (S : FnScope N ps (defScope st)) (hb : BindsAll st ps) (W : Body G mg base k N st g) : Cal G mg base (k + 1) x ps (runF N g) := by
  obtain ⟨f, fd, F, hm⟩ := D
  exact ⟨f, fd, fnD_of F S W, hm, F.kp, F.bindsN (hb _ _)⟩
theorem CalM.of {g : EnvS → Option O} (D : MthH G c x qual st) (S : FnScope N ps (defScope st)) (hb : BindsAll st ps) (W : Body G mg base k N st g) : CalM G mg base c (k + 1) x ps (runF N g) := by
  obtain ⟨f, fd, F, hm⟩ := D
  exact ⟨f, fd, fnD_of F S W, hm, F.bindsN (hb _ _)⟩
theorem CalP.of {g : EnvS → Option O} (D : PrpH G c x qual st) (S : FnScope N [self] (defScope st)) (hb : BindsAll st [self]) (W : Body G mg base k N st g) : CalP G mg base c (k + 1) x self (runF N g) := by
  obtain ⟨f, fd, F, hm⟩ := D
  exact ⟨f, fd, fnD_of F S W, hm, F.bindsN (hb _ _)⟩
theorem CalI.of {g : Env → List D → Option OI} (D : MkH G mg c x qual st) (S : FnScope N (self :: ps) (defScope st)) (hb : BindsAll st (self :: ps)) (W : BodyI G mg base c k N st g) : CalI G mg base c (k + 1) x self ps (runI c N g) := by
  obtain ⟨f, fd, F, hm, hx⟩ := D
  exact ⟨f, fd, fnI_of F S W, hm, hx, F.bindsN (hb _ _)⟩
end
section
variable {X : Cx} {G : Gx} {E : XK} {e o : Expr} {es : List Expr} {pos : Pos} {mg : Str → Option Value} {base : Heap} {k n : Nat}
theorem SE.me {c : Nat} {m : Str} {ps : List Str} {apos : Pos} {F : List D → Option R} {h : Env → Option D} {ga : Env → Option (List D)} (gd : Gd X G mg base k) (C : CalM G mg base c n m ps F) (tk : Takes X (fun cls d _ H' => E cls d H')) (ho : SD X G o h) (ha : SA X G (e :: es) ga) (hl : ∀ env ds, ga env = some ds → ds.length = (e :: es).length) (pl : Sem Bool)
    (ht : eval (.Call (.Attribute o m apos) (e :: es) [] pos) X.env = (do
      let ov ← eval o X.env
      standAt apos.atName
      let (f, first) ← holding [ov] (getMethod ov m pl)
      callWith pos f first (backTo pos (starEach (e :: es) X.env)) (backToKw pos (keywordEach [] X.env)))) (hn : n ≤ k := by decide) (hlen : (e :: es).length + 1 = ps.length := by rfl)
    (hst : starEach (e :: es) X.env = (false, eval e X.env) :: starEach es X.env := by rfl) (hpl : (backTo pos (starEach es X.env)).any (·.1) = false := by rfl) :
    SE X G E (.Call (.Attribute o m apos) (e :: es) [] pos) (cMth c F h ga) := by
  obtain ⟨f, fd, h1, h2, h3⟩ := C
  exact SE.meth gd h2 h1 tk hn h3 ho ha hlen hl hst hpl ht
end
section
variable {X : Cx} {G : Gx} {E : XK} {mg : Str → Option Value} {base : Heap} {k : Nat}
/-- an exception class of the program, over ValueError, without __init__ -/
structure ExcH (G : Gx) (mg : Str → Option Value) (c : Nat) (x : Str) : Prop where
  q : PySem.W.excIn G.K (G.cad c) [.type "ValueError", .type "Exception", .type "BaseException", .type "object"] "ValueError.__new__" = true
  kC : PySem.W.keepIn G.K (.ref (G.cad c)) = true
  r1 : PySem.W.subIn G.K (.ref (G.cad c)) (.type "BaseException") = some true
  r2 : PySem.W.typeIn G.K (.ref (G.cad c)) = some (.type "type")
  gC : mg x = some (.ref (G.cad c))
theorem SS.ra {c : Nat} {x m : Str} {j : Nat} {p p2 cpos pos : Pos} (gd : Gd X G mg base k) (tk : Takes X (fun cls d _ H' => E cls d H')) (h : ExcH G mg c x) (hg : Gl X x := by rfl) (hdb : (x == ("__debug__" : Str)) = false := by decide +kernel) :
    SS X G E (.Raise (some (.Call (.Name x p) [.Constant (.str m) j p2] [] cpos)) none pos) (gRaise c) := SS.raise gd tk PySem.F.excBase_ValueError h.q h.gC h.kC h.r1 h.r2 hg hdb
end
end Ev
set_option maxHeartbeats 4000000
namespace Ev
open PySem PySem.Spec PyProof.Rows L2
section
variable {X : Cx} {G : Gx} {E : XK} {e o : Expr} {es : List Expr} {pos pos' : Pos} {mg : Str → Option Value} {base : Heap} {k n : Nat} {c : Nat} {x : Str}
theorem SE.me1 {m : Str} {ps : List Str} {apos : Pos} {F : List D → Option R} {h fe : Env → Option D} {pl : Sem Bool} (gd : Gd X G mg base k) (C : CalM G mg base c n m ps F) (tk : Takes X (fun cls d _ H' => E cls d H')) (ho : SD X G o h) (he : SD X G e fe)
    (ht : eval (.Call (.Attribute o m apos) [e] [] pos) X.env = (do
      let ov ← eval o X.env
      standAt apos.atName
      let (f, first) ← holding [ov] (getMethod ov m pl)
      callWith pos f first (backTo pos (starEach [e] X.env)) (backToKw pos (keywordEach [] X.env))) := by rfl) (hn : n ≤ k := by decide) (hlen : 2 = ps.length := by rfl)
    (hst : starEach [e] X.env = (false, eval e X.env) :: starEach [] X.env := by rfl) (hpl : (backTo pos (starEach [] X.env)).any (·.1) = false := by rfl) :
    SE X G E (.Call (.Attribute o m apos) [e] [] pos) (cMth c F h (aCons fe aNil)) :=
  SE.me gd C tk ho (SA.cons he SA.nil hst) (fun env ds q => by
    unfold aCons aNil at q
    cases e1 : fe env with
    | none => rw [e1] at q; cases q
    | some d => rw [e1] at q; cases q; rfl) pl ht hn hlen hst hpl
theorem pdt_chainT {a b c : Expr} {env : Env} {op op' : CmpOp} {x y z : D} {q : Bool} (ho : OpR X (compareOp op) (r2 G x y (.bl true))) (ho' : OpR X (compareOp op') (r2 G y z (.bl q))) (ha : PE X a (tD G env x)) (hb : PE X b (tD G env y)) (hc : PE X c (tD G env z)) (hm : lastMarks [op, op'] [b, c] = false) : PT X (.Compare a [op, op'] [b, c] pos) (tTst G env q) :=
  PT.weak (pt_chain ho ho' ha hb hc (hm := hm)) fun σ H Q h => by
    obtain ⟨Kn, ex, re, q⟩ := tD_B σ H Q h
    exact two_D ⟨Kn, ex, re, fun v u H2 K2 s r1 r2 => ⟨K2, s.sub, r1, r2, fun w H3 K3 s3 r3 => ⟨true, r3.bool, iteT ⟨K3, s3.sub, re.mono (s.trans s3).kx, fun z4 H4 K4 s4 r4 => ⟨K4, s4.sub, r2.mono (s3.trans s4).kx, r4, fun w5 H5 K5 s5 r5 => q w5 H5 K5 (((s.trans s3).trans s4).trans s5) r5⟩⟩⟩⟩⟩
theorem pdt_chainF {a b c : Expr} {env : Env} {op op' : CmpOp} {x y : D} {r : R2} (ho : OpR X (compareOp op) (r2 G x y (.bl false))) (ho' : OpR X (compareOp op') r) (ha : PE X a (tD G env x)) (hb : PE X b (tD G env y)) (hm : lastMarks [op, op'] [b, c] = false) : PT X (.Compare a [op, op'] [b, c] pos) (tTst G env false) :=
  PT.weak (pt_chain ho ho' ha hb pe_no (hm := hm)) fun σ H Q h => by
    obtain ⟨Kn, ex, re, q⟩ := tD_B σ H Q h
    exact two_D ⟨Kn, ex, re, fun v u H2 K2 s r1 r2 => ⟨K2, s.sub, r1, r2, fun w H3 K3 s3 r3 => ⟨false, r3.bool, iteF (q _ H3 K3 (s.trans s3) (.bl false))⟩⟩⟩
theorem ST.ch {a b c : Expr} {o1 o2 : CmpOp} {f g h : Env → Option D} (gd : Gd X G mg base k) (ha : SD X G a f) (hb : SD X G b g) (hc : SD X G c h) (hm : lastMarks [o1, o2] [b, c] = false := by rfl) : ST X G (.Compare a [o1, o2] [b, c] pos) (cChn o1 o2 f g h) := fun env kk hh => by
  unfold cChn at hh
  split at hh
  · rename_i x y hx hy
    cases e1 : evCmp o1 x y with
    | none => rw [e1] at hh; cases hh
    | some k1 =>
      rw [e1] at hh
      cases e2 : h env with
      | none => rw [e2] at hh; cases k1 <;> cases hh
      | some z =>
        rw [e2] at hh
        cases k1 with
        | true => exact pdt_chainT (cmp_ok gd.hK gd.hr e1) (cmp_ok gd.hK gd.hr hh) (ha _ _ hx) (hb _ _ hy) (hc _ _ e2) hm
        | false =>
          dsimp only at hh
          cases e3 : evCmp o2 y z with
          | none => rw [e3] at hh; cases hh
          | some k2 => rw [e3] at hh; cases hh; exact pdt_chainF (cmp_ok gd.hK gd.hr e1) (cmp_ok gd.hK gd.hr e3) (ha _ _ hx) (hb _ _ hy) hm
  · cases hh
/-! ### t.index(x), a tuple of texts -/
def firstAt (z : Str) : List Str → Option Nat
  | [] => none
  | y :: ys => if y = z then some 0 else (firstAt z ys).map (· + 1)
theorem firstAt_ok {z : Str} : ∀ {ys : List Str} {j : Nat}, firstAt z ys = some j → ys[j]? = some z ∧ ∀ m, m < j → ys[m]? ≠ some z
  | [], j, h => by cases h
  | y :: ys, j, h => by
    unfold firstAt at h
    split at h
    · rename_i e
      cases h
      exact ⟨by rw [e]; rfl, fun m hm => absurd hm (by omega)⟩
    · rename_i e
      cases q : firstAt z ys with
      | none => rw [q] at h; cases h
      | some i =>
        rw [q] at h
        cases h
        obtain ⟨h1, h2⟩ := firstAt_ok q
        refine ⟨h1, fun m hm => ?_⟩
        cases m with
        | zero => exact fun w => e (by simpa using w)
        | succ m => exact h2 m (by dsimp only at hm; omega)
def cTix (f g : Env → Option D) : Env → Option D := fun env => match f env, g env with
  | some (.tup ds), some (.str z) => (match strsD ds with
    | some ys => (firstAt z ys).map fun j => .int (j : Nat)
    | none => none)
  | _, _ => none
theorem SD.ti {apos cpos : Pos} {fo fe : Env → Option D} (gd : Gd X G mg base k) (ho : SD X G o fo) (he : SD X G e fe)
    (hbase : attributeBase o "index" X.env (eval o X.env) = eval o X.env := by rfl)
    (hfew : ((backTo cpos (starEach [e] X.env)).all (fun x => !x.1) && (backToKw cpos (keywordEach [] X.env)).all (fun x => x.1.isSome)
      && decide (([e] : List Expr).length + ([] : List Keyword).length + (if ([] : List Keyword).isEmpty then 0 else 1) < 30)) = true := by rfl)
    (hline : (apos.endLine == cpos.line) = true := by rfl) (hs : starEach [e] X.env = (false, eval e X.env) :: starEach [] X.env := by rfl) :
    SD X G (.Call (.Attribute o "index" apos) [e] [] cpos) (cTix fo fe) := fun env d q => by
  unfold cTix at q
  split at q
  · rename_i ds z h1 h2
    split at q
    · rename_i ys h3
      cases h4 : firstAt z ys with
      | none => rw [h4] at q; cases q
      | some j =>
        rw [h4] at q
        cases q
        obtain ⟨j1, j2⟩ := firstAt_ok h4
        refine PE.weak (pe_bmX PySem.F.slot_tuple_index PySem.F.type_tuple_index mt_tup_index (ho _ _ h1) (pa_cons (he _ _ h2) pa_nil hs) hbase hfew hline hs rfl) fun σ H Q ⟨Kn, ex, re, q⟩ => ⟨Kn, ex, re, fun v H1 K1 s1 r1 => ?_⟩
        cases r1 with
        | @tup p vs _ hx rr =>
          refine ⟨⟨p, vs, rfl, by rw [gd.hK]; exact ex_x s1.sub hx⟩, K1, s1.sub, re.mono s1.kx, fun u H2 K2 s2 r2 => ?_⟩
          cases r2
          have e3 := strsD_rel rr h3
          subst e3
          exact ⟨p, ys, z, j, rfl, rfl, by rw [gd.hK]; exact Evl.ex_t s2.ex (Evl.ex_t s1.sub hx.sq), j1, j2, q _ H2 K2 (s1.trans s2) (.int _)⟩
    · cases q
  · cases q
theorem SJ.st (i : Nat) {f : Env → Option D} (gd : Gd X G mg base k) (he : SD X G e f) (hi : X.N[i]? = some x := by rfl) (hx : Loc X.env.scope x := by first | exact Or.inl rfl | exact Or.inr rfl) (hs : swapsWith e (some (.Name x pos')) pos.line X.env = pure false := by rfl) (hf : X.fn x = true ∨ X.env.scope.names.lookup x = some .local := by first | exact Or.inl rfl | exact Or.inr rfl) :
    SJ X G E c (.Assign [.Name x pos'] e pos) (jSet i f) := SJ.set gd.hN hi hx he hs hf
theorem SJ.fl {i : Nat} {f self : Str} {p0 : Pos} {g : Env → Option D} (gd : Gd X G mg base k) (F : Fld G c f i) (he : SD X G e g) (hN0 : X.N[0]? = some self := by rfl) (hv : Vis X.env.scope self := by first | exact Or.inl rfl | exact Or.inr (Or.inl rfl) | exact Or.inr (Or.inr rfl)) (hd : (self == ("__debug__" : Str)) = false := by decide +kernel) (hcd : (self == ("__classdict__" : Str)) = false := by decide +kernel)
    (hs : swapsWith e (some (.Attribute (.Name self p0) f pos')) pos.line X.env = pure false := by rfl) : SJ X G E c (.Assign [.Attribute (.Name self p0) f pos'] e pos) (jFld c i g) := SJ.fld gd F hN0 hv hd hcd he hs
/-! ### a, b = x, y -/
def gPar (i j : Nat) (f : Env → Option (List D)) : EnvS → Option O := fun env => match f (see env) with
  | some [a, b] => some (.nx ((env.set i (.fr a)).set j (.fr b)))
  | _ => none
theorem SS.pr {a b : Expr} {y : Str} {px py pt : Pos} {kt k2 pt2} {f : Env → Option (List D)} (i j : Nat) (gd : Gd X G mg base k) (ha : SA X G [a, b] f) (hi : X.N[i]? = some x := by rfl) (hj : X.N[j]? = some y := by rfl) (hij : i ≠ j := by decide)
    (hx : X.env.scope.names.lookup x = some .local := by rfl) (hy : X.env.scope.names.lookup y = some .local := by rfl)
    (hw : swappedStores [.Tuple [.Name x px, .Name y py] kt pt] (.Tuple [a, b] k2 pt2) X.env = pure (some [x, y]) := by rfl)
    (hs : swapsWithSole [.Tuple [.Name x px, .Name y py] kt pt] (.Tuple [a, b] k2 pt2) pos.line X.env = pure false := by rfl) :
    SS X G E (.Assign [.Tuple [.Name x px, .Name y py] kt pt] (.Tuple [a, b] k2 pt2) pos) (gPar i j f) := fun H0 K0 env o hg => by
  unfold gPar at hg
  split at hg
  · rename_i d1 d2 hd
    cases hg
    refine PS.weak (ps_par gd.hc gd.hN hi hj hij hx hy (ha _ _ hd) hw hs) fun D σ H ⟨⟨Kn, r⟩, q⟩ => ⟨Kn, r.st.sub, r.relE, fun vs H1 K1 s1 rd => ?_⟩
    obtain ⟨v, w, rfl, r1, r2⟩ := relDs2 rd
    exact ⟨v, w, rfl, q _ H1 K1 (((r.step s1).put r1).put r2)⟩
  · cases hg
end
end Ev
set_option maxHeartbeats 4000000
/-! the law's own level: dice, picks, calls in lambdas -/
namespace Ev
open PySem PySem.Spec PyProof.Rows L2
/-! ### no tables -/
def NoTab (H : Hp) : Prop := ∀ a ps, H a ≠ some (.tbl ps)
def strip (Kn : Hp) : Hp := fun a => match Kn a with
  | some (.tbl _) => none
  | x => x
theorem strip_at {Kn : Hp} {a : Addr} {o : HO} (h : Kn a = some o) (n : ∀ ps, o ≠ .tbl ps) : strip Kn a = some o := by
  unfold strip
  rw [h]
  cases o <;> first | rfl | exact absurd rfl (n _)
theorem strip_of {Kn : Hp} {a : Addr} {o : HO} (h : strip Kn a = some o) : Kn a = some o ∧ ∀ ps, o ≠ .tbl ps := by
  unfold strip at h
  cases e : Kn a with
  | none => rw [e] at h; cases h
  | some u =>
    rw [e] at h
    cases u <;> first | (cases h; done) | (cases h; exact ⟨rfl, fun _ z => nomatch z⟩)
theorem strip_no {Kn : Hp} : NoTab (strip Kn) := fun a ps h => (strip_of h).2 ps rfl
theorem strip_none {Kn : Hp} {a : Addr} (h : Kn a = none) : strip Kn a = none := by unfold strip; rw [h]
theorem strip_same {Kn K0 : Hp} {a : Addr} (n : NoTab K0) (h : Kn a = K0 a) : strip Kn a = K0 a := by
  unfold strip
  rw [h]
  cases e : K0 a with
  | none => rfl
  | some u => cases u <;> first | rfl | exact absurd e (n _ _)
theorem strip_sqT {G : Gx} {Kn : Hp} {a : Addr} {xs : List V} (h : SqT G.K Kn a xs) : SqT G.K (strip Kn) a xs := by
  rcases h with (h | ⟨o, h⟩) | h
  · exact .inl (.inl (strip_at h fun _ z => nomatch z))
  · exact .inl (.inr ⟨o, strip_at h fun _ z => nomatch z⟩)
  · exact .inr h
theorem strip_sqX {G : Gx} {Kn : Hp} {a : Addr} {xs : List V} (h : SqX G.K Kn a xs) : SqX G.K (strip Kn) a xs := ⟨strip_sqT h.sq, by
  rcases h.nd with h | ⟨o, u, h1, h2⟩
  · exact .inl h
  · exact .inr ⟨o, u, strip_at h1 (fun _ z => nomatch z), h2⟩⟩
theorem slO_tab {a C dx : Addr} {vs : List (Option V)} (ps : Array Value) : SlX.SlO a C dx vs ≠ .tbl ps := fun z => nomatch z
mutual
theorem RelD.strip {G : Gx} {Kn : Hp} : ∀ {d : D} {v : V}, RelD G Kn d v → RelD G (Ev.strip Kn) d v
  | _, _, .non => .non
  | _, _, .bl b => .bl b
  | _, _, .int i => .int i
  | _, _, .str x => .str x
  | _, _, .ty n => .ty n
  | _, _, .cl c => .cl c
  | _, _, .tup h r => .tup (strip_sqX h) (RelDs.strip r)
  | _, _, .wt h r => .wt (strip_sqT h) (RelDs.strip r)
  | _, _, .di h => .di (strip_at h fun _ z => nomatch z)
  | _, _, .lst h r => .lst (strip_at h fun _ z => nomatch z) (RelDs.strip r)
  | _, _, .dctK h r q => .dctK (strip_at h fun _ z => nomatch z) (RelDs.strip r) (RelDs.strip q)
  | _, _, .dctN h r k q n => .dctN (strip_at h fun _ z => nomatch z) (RelDs.strip r) k (RelDs.strip q) n
  | _, _, .ins h g r => .ins (strip_at h slO_tab) (strip_at g fun _ z => nomatch z) (RelFs.strip r)
theorem RelDs.strip {G : Gx} {Kn : Hp} : ∀ {ds : List D} {vs : List V}, RelDs G Kn ds vs → RelDs G (Ev.strip Kn) ds vs
  | _, _, .nil => .nil
  | _, _, .cons h r => .cons (RelD.strip h) (RelDs.strip r)
theorem RelFs.strip {G : Gx} {Kn : Hp} : ∀ {ds : List D} {vs : List (Option V)}, RelFs G Kn ds vs → RelFs G (Ev.strip Kn) ds vs
  | _, _, .nil => .nil
  | _, _, .cons h r => .cons (RelD.strip h) (RelFs.strip r)
  | _, _, .hole r => .hole (RelFs.strip r)
end
section
variable {G : Gx} {H0 K0 H H' Kn : Hp} {env : EnvS} {σ : St}
theorem Own.strip {p : Addr} {d : D} (o : Own G Kn H p d) (e : H' p = H p) : Own G (Ev.strip Kn) H' p d := by
  cases o with
  | lst h r => exact .lst (e.trans h) r.strip
  | dctK h r q => exact .dctK (e.trans h) r.strip q.strip
  | dctN h r k q => exact .dctN (e.trans h) r.strip k q.strip
  | di h a b => exact .di (e.trans h) a b
theorem Own.noTab {p : Addr} {d : D} (o : Own G Kn H p d) : ∃ u, H p = some u ∧ ∀ ps, u ≠ .tbl ps := by
  cases o with
  | lst h r => exact ⟨_, h, fun _ z => nomatch z⟩
  | dctK h r q => exact ⟨_, h, fun _ z => nomatch z⟩
  | dctN h r k q => exact ⟨_, h, fun _ z => nomatch z⟩
  | di h a b => exact ⟨_, h, fun _ z => nomatch z⟩
/-- tables are written, all else stays -/
theorem RS.tabs (r : RS G H0 K0 env σ H Kn) (n0 : NoTab H0) (nk : NoTab K0) (e : LamX.ExtN H H') : RS G H0 K0 env σ H' (Ev.strip Kn) := by
  refine ⟨⟨fun a o h => e a o (r.st.ex a o h) fun ps z => n0 a ps (by rw [h, z]), fun a o h => strip_at (r.st.kx a o h) fun ps z => nk a ps (by rw [h, z]), fun a o h => ?_, fun a o h => strip_same nk (r.st.fr a o h)⟩, r.len, fun i d h => ?_, fun i d h => ?_, r.sep⟩
  · obtain ⟨h1, h2⟩ := strip_of h
    exact e a o (r.st.sub a o h1) h2
  · obtain ⟨v, a, b⟩ := r.fr i d h
    exact ⟨v, a, b.strip⟩
  · obtain ⟨p, a, b, c, o⟩ := r.ow i d h
    obtain ⟨u, hu, hn⟩ := o.noTab
    exact ⟨p, a, b, strip_none c, o.strip ((e p u hu hn).trans hu.symm)⟩
end
end Ev
set_option maxHeartbeats 4000000
namespace Ev
open PySem PySem.Spec PyProof.Rows L2
open LamX (Tabs TabS CodeO ExtN)
/-! ### the heap without one's own objects -/
open Classical in
noncomputable def ownless (env : EnvS) (σ : St) (H : Hp) : Hp := fun a => if ∃ (i : Nat) (d : D), env[i]? = some (Sl.ow d) ∧ σ[i]? = some (some (V.ref a)) then none else H a
section
variable {G : Gx} {H0 K0 H H' Kn Kn' : Hp} {env env' : EnvS} {σ σ' : St} {a : Addr} {o : HO}
theorem ownless_of (h : ownless env σ H a = some o) : H a = some o := by
  unfold ownless at h
  split at h
  · cases h
  · exact h
theorem RS.h0 (r : RS G H0 K0 env σ H Kn) (h : H0 a = some o) : ownless env σ H a = some o := by
  unfold ownless
  rw [if_neg]
  · exact r.st.ex a o h
  · rintro ⟨i, d, h1, h2⟩
    obtain ⟨p, a1, a2, _⟩ := r.ow i d h1
    rw [a1] at h2
    cases h2
    rw [h] at a2
    cases a2
theorem RS.rebase2 (r : RS G H0 K0 env σ H Kn) : RS G (ownless env σ H) Kn env σ H Kn :=
  ⟨⟨fun a o h => ownless_of h, Evl.Ex.refl _, r.st.sub, fun _ _ _ => rfl⟩, r.len, r.fr, fun i d h => let ⟨p, a, b, c, o⟩ := r.ow i d h; ⟨p, a, if_pos ⟨i, d, h, a⟩, c, o⟩, r.sep⟩
theorem RS.unS (r : RS G H0 K0 env σ H Kn) (s : Step (ownless env σ H) Kn H' Kn') : Step H0 K0 H' Kn' :=
  ⟨fun a o h => s.ex a o (r.h0 h), r.st.kx.trans s.kx, s.sub, fun a o h => (s.fr a o (r.h0 h)).trans (r.st.fr a o h)⟩
theorem RS.un (r : RS G H0 K0 env σ H Kn) (r' : RS G (ownless env σ H) Kn env' σ' H' Kn') : RS G H0 K0 env' σ' H' Kn' :=
  ⟨r.unS r'.st, r'.len, r'.fr, (fun i d h => by
    obtain ⟨p, a, b, c, o⟩ := r'.ow i d h
    refine ⟨p, a, ?_, c, o⟩
    cases q : H0 p with
    | none => rfl
    | some u => rw [r.h0 q] at b; cases b), r'.sep⟩
variable {X : Cx} {pins : List (Addr × Obj)} {s : Shared} {σ2 : St} {T : List (Addr × Str)}
theorem Own.notCode {p : Addr} {d : D} {q : Str} (I : Inv X pins σ2 H s) (o : Own G Kn H p d) : H p ≠ some (CodeO p q) := fun z => by
  cases o with
  | lst h _ => rw [h] at z; cases z
  | dctK h _ _ => rw [h] at z; cases z
  | di h _ _ => rw [h] at z; cases z
  | dctN h _ _ _ =>
    obtain ⟨⟨oc, vs, t, g1, g2, _⟩, _, _⟩ := I.hok p _ z
    obtain ⟨⟨_, ys, _, o', es, ep, h1, _, h2, _⟩, _, _⟩ := I.hok p _ h
    rw [g1] at h1
    cases h1
    rw [g2] at h2
    cases h2
theorem tabs_keep (I : Inv X pins σ2 H s) (r : RS G H0 K0 env σ H Kn) (t : Tabs T H) (e : Ex (ownless env σ H) H') : Tabs T H' := fun p hp => by
  obtain ⟨ps, h1, h2, h3⟩ := t p hp
  have no : ∀ (a : Addr) (u : HO), H a = some u → (∀ (i : Nat) (d : D) (p' : Addr), env[i]? = some (Sl.ow d) → Own G Kn H p' d → p' = a → False) → H' a = some u := fun a u hu hn => by
    refine e a u ?_
    unfold ownless
    rw [if_neg]
    · exact hu
    · rintro ⟨i, d, g1, g2⟩
      obtain ⟨p', a1, _, _, ow⟩ := r.ow i d g1
      rw [a1] at g2
      cases g2
      exact hn i d a g1 ow rfl
  refine ⟨ps, no _ _ h1 fun i d p' _ ow e' => ?_, h2, fun pos cv hc => ?_⟩
  · subst e'
    obtain ⟨u, g1, g2⟩ := ow.noTab
    rw [h1] at g1
    cases g1
    exact g2 _ rfl
  · obtain ⟨c, rfl, h4⟩ := h3 pos cv hc
    refine ⟨c, rfl, no _ _ h4 fun i d p' _ ow e' => ?_⟩
    subst e'
    exact ow.notCode I h4
end
/-! ### the law's statements -/
inductive OL where
  | nx (e : EnvS)
  | rt (d : D) (e : EnvS)
def tOL (G : Gx) (T : List (Addr × Str)) (H0 K0 : Hp) : OL → Ends → Prop
  | .nx e, D => ∀ σ H Kn, RS G H0 K0 e σ H Kn → Tabs T H → D.nx σ H
  | .rt d e, D => ∀ v σ H Kn, RS G H0 K0 e σ H Kn → Tabs T H → RelD G Kn d v → D.rt v H
def tL (G : Gx) (T : List (Addr × Str)) (H0 K0 : Hp) (env : EnvS) (o : OL) : TS := fun D σ H => (∃ Kn, RS G H0 K0 env σ H Kn) ∧ Tabs T H ∧ tOL G T H0 K0 o D
/-- no tables; the script stands (its address is G.cad 99) -/
def NT (G : Gx) (H0 : Hp) : Prop := NoTab H0 ∧ ∃ ns : List Int, SqL G.K H0 (G.cad 99) (ns.map V.int)
def L1 (X : Cx) (G : Gx) (T : List (Addr × Str)) (st : Stmt) (env : EnvS) (o : OL) : Prop := ∀ H0 K0, NT G H0 → NoTab K0 → PS X st (tL G T H0 K0 env o)
def LJ (X : Cx) (G : Gx) (T : List (Addr × Str)) (sts : List Stmt) (env : EnvS) (o : OL) : Prop := ∀ H0 K0, NT G H0 → NoTab K0 → PSs X sts (tL G T H0 K0 env o)
section
variable {X : Cx} {G : Gx} {E : XK} {T : List (Addr × Str)} {st : Stmt} {sts : List Stmt} {env env1 : EnvS} {o : OL} {e : Expr} {pos pos' : Pos} {mg : Str → Option Value} {base : Heap} {k : Nat}
theorem L1.ss {g : EnvS → Option O} (h : SS X G E st g) (hg : g env = some (.nx env1)) : L1 X G T st env (.nx env1) := fun H0 K0 n0 nk =>
  ⟨fun pins s σ H D I ⟨⟨Kn, r⟩, t, q⟩ => (h (ownless env σ H) Kn env _ hg).run pins s σ H D I ⟨⟨Kn, r.rebase2⟩, fun σ1 H1 K1 r1 => q σ1 H1 K1 (r.un r1) (tabs_keep I r t r1.st.ex)⟩⟩
theorem L1.ret {f : Env → Option D} {d : D} (h : SD X G e f) (hf : f (see env) = some d) : L1 X G T (.Return (some e) pos) env (.rt d env) := fun H0 K0 n0 nk =>
  PS.weak (ps_ret (h _ _ hf)) fun D σ H ⟨⟨Kn, r⟩, t, q⟩ => ⟨Kn, r.st.sub, r.relE, fun v H1 K1 s1 rd => q v σ H1 K1 (r.step s1) (t.ext s1.ex) rd⟩
theorem LJ.cons (h1 : L1 X G T st env (.nx env1)) (h2 : LJ X G T sts env1 o) : LJ X G T (st :: sts) env o := fun H0 K0 n0 nk =>
  PSs.weak (pss_cons (h1 H0 K0 n0 nk) (h2 H0 K0 n0 nk)) fun D σ H ⟨r, t, q⟩ => ⟨r, t, fun σ1 H1 K1 r1 t1 => ⟨⟨K1, r1⟩, t1, q⟩⟩
theorem LJ.one (h1 : L1 X G T st env o) : LJ X G T [st] env o := fun H0 K0 n0 nk => pss_one (h1 H0 K0 n0 nk)
/-! ### a word of a call -/
/-- what a chain of except clauses answers to a class -/
def chainW (K : PySem.W.Frag) (c : Value) : List (Addr × Str) → Option Str
  | [] => none
  | (a, w) :: r => match PySem.W.exmOne K c (.ref a) with
    | some true => some w
    | some false => chainW K c r
    | none => none
def tChain (K : PySem.W.Frag) (Q : VK) (c : Value) (H : Hp) : List (Addr × Str) → Prop
  | [] => False
  | (a, w) :: r => ∃ b, PySem.W.exmOne K c (.ref a) = some b ∧ (b = true → Q (.str w) H) ∧ (b = false → tChain K Q c H r)
theorem tChain_of {K : PySem.W.Frag} {Q : VK} {c : Value} {H : Hp} {w : Str} : ∀ {l : List (Addr × Str)}, chainW K c l = some w → Q (.str w) H → tChain K Q c H l
  | [], h, _ => by cases h
  | (a, w') :: r, h, q => by
    unfold chainW at h
    split at h
    · rename_i e; cases h; exact ⟨true, e, (fun _ => q), (fun z => nomatch z)⟩
    · rename_i e; exact ⟨false, e, (fun z => nomatch z), (fun _ => tChain_of h q)⟩
    · cases h
/-- try: a() / except ..: return .. / .. ; return fine -/
def TWord (K : PySem.W.Frag) (l : List (Addr × Str)) (fine : Str) : (XK → Hp → VK → Prop) → Hp → VK → Prop := fun tl H Q =>
  tl (fun cls _ H' => tChain K Q cls H' l) H (fun _ H' => Q (.str fine) H')
/-- the word that a call comes to -/
def wordR (G : Gx) (l : List (Addr × Str)) (fine : Str) : R → Option Str
  | .ok _ => some fine
  | .ex c => chainW G.K (.ref (G.cad c)) l
def tWd (G : Gx) (T : List (Addr × Str)) (env : EnvS) (w : Str) : TE := fun σ H Q => ∃ H0 K0 Kn, NoTab H0 ∧ NoTab K0 ∧ RS G H0 K0 env σ H Kn ∧ Tabs T H ∧ ∀ H2 K2, RS G H0 K0 env σ H2 K2 → Tabs T H2 → Q (.str w) H2
theorem tWd_of {K : PySem.W.Frag} (hK : K = G.K) {l : List (Addr × Str)} {fine w : Str} {r : R} (hw : wordR G l fine r = some w) (σ : St) (H : Hp) (Q : VK) (h : tWd G T env w σ H Q) : LamX.tLam T (TWord K l fine) (fun E => tR G E (see env) r) σ H Q := by
  subst hK
  obtain ⟨H0, K0, Kn, n0, nk, rs, t, q⟩ := h
  refine ⟨t, fun H1 e1 t1 => ?_⟩
  have r1 := rs.tabs n0 nk e1
  cases r with
  | ok d =>
    cases hw
    exact ⟨_, r1.st.sub, r1.relE, fun v H2 K2 s2 _ => q H2 K2 (r1.step s2) (t1.ext s2.ex)⟩
  | ex c => exact ⟨_, r1.st.sub, r1.relE, fun dd H2 K2 s2 => tChain_of hw (q H2 K2 (r1.step s2) (t1.ext s2.ex))⟩
/-- told = [..] -/
theorem L1.word1 {i : Nat} {x : Str} {w : Str} (gd : Gd X G mg base k) (h : PE X e (tWd G T env w)) (hi : X.N[i]? = some x) (hx : Loc X.env.scope x) (hst : starEach [e] X.env = (false, eval e X.env) :: starEach [] X.env) (hs : swapsWith (.List [e] pos') (some (.Name x pos')) pos.line X.env = pure false) (hf : X.fn x = true ∨ X.env.scope.names.lookup x = some .local) {p1 : Pos}
    (hs' : swapsWith (.List [e] p1) (some (.Name x pos')) pos.line X.env = pure false) : L1 X G T (.Assign [.Name x pos'] (.List [e] p1) pos) env (.nx (env.set i (.ow (.lst [.str w])))) := fun H0 K0 n0 nk =>
  PS.weak (ps_set gd.hN hi hx (pe_lst (pa_cons h pa_nil hst)) hs' hf) fun D σ H ⟨⟨Kn, r⟩, t, q⟩ => by
    refine ⟨H0, K0, Kn, n0.1, nk, r, t, fun H2 K2 r2 t2 => ⟨by simp [sizeLine_eq], fun p hp => ?_⟩⟩
    exact q _ _ K2 (r2.putOwn (Step.own r2.st.sub hp) hp (known_none r2.st.sub hp) (.lst upd_same (.cons (.str w) .nil))) (t2.ext (Evl.Ex.new hp))
end
end Ev
set_option maxHeartbeats 4000000
namespace Ev
open PySem PySem.Spec PyProof.Rows L2
open LamX (Tabs TabS CodeO ExtN)
section
variable {X : Cx} {G : Gx} {E : XK} {T : List (Addr × Str)} {st : Stmt} {sts : List Stmt} {env env1 : EnvS} {o : OL} {e : Expr} {pos pos' : Pos} {mg : Str → Option Value} {base : Heap} {k : Nat}
/-- told.append(..) -/
theorem L1.wordA {i : Nat} {x w : Str} {p0 apos cpos : Pos} {ds : List D} (gd : Gd X G mg base k) (h : PE X e (tWd G T env w)) (he : env[i]? = some (.ow (.lst ds))) (hl : ds.length < 4096) (hN : X.N[i]? = some x) (hv : Vis X.env.scope x) (hd : (x == ("__debug__" : Str)) = false) (hcd : (x == ("__classdict__" : Str)) = false)
    (hbase : attributeBase (.Name x p0) "append" X.env (eval (.Name x p0) X.env) = eval (.Name x p0) X.env)
    (hfew : ((backTo cpos (starEach [e] X.env)).all (fun x => !x.1) && (backToKw cpos (keywordEach [] X.env)).all (fun x => x.1.isSome)
      && decide (([e] : List Expr).length + ([] : List Keyword).length + (if ([] : List Keyword).isEmpty then 0 else 1) < 30)) = true)
    (hline : (apos.endLine == cpos.line) = true) (hs : starEach [e] X.env = (false, eval e X.env) :: starEach [] X.env) (hsw : swapsWith (.Call (.Attribute (.Name x p0) "append" apos) [e] [] cpos) none pos.line X.env = pure false) :
    L1 X G T (.Expr (.Call (.Attribute (.Name x p0) "append" apos) [e] [] cpos) pos) env (.nx (env.set i (.ow (.lst (ds ++ [.str w]))))) := fun H0 K0 n0 nk => by
  refine PS.weak (ps_expr (pe_bm (r := rAppend) PySem.F.plainAttrs_list PySem.F.slot_list_append PySem.F.type_list_append mt_append (pe_var hN hv hd hcd) (pa_cons h pa_nil hs) hbase hfew hline hs rfl) hsw) fun D σ H ⟨⟨Kn, r⟩, t, q⟩ => ?_
  obtain ⟨p, hp, h0, hk, ow⟩ := r.ow i _ he
  cases ow with
  | @lst xs _ hx rr =>
    refine ⟨_, hp, .inl ⟨rfl, xs, Evl.sq_of hx⟩, H0, K0, Kn, n0.1, nk, r, t, fun H2 K2 r2 t2 => ?_⟩
    obtain ⟨p2, hp2, h02, hk2, ow2⟩ := r2.ow i _ he
    rw [hp] at hp2
    cases hp2
    cases ow2 with
    | @lst ys _ hy ry =>
      refine ⟨p, ys, .str w, rfl, rfl, hy, by have := ry.length; rw [sizeLine_eq]; omega, ?_⟩
      refine q σ _ K2 (r2.mut he hp (.lst upd_same (ry.append (.cons (.str w) .nil)))) fun z hz => ?_
      obtain ⟨ps, g1, g2, g3⟩ := t2 z hz
      refine ⟨ps, by rw [upd_ne (fun e' => by rw [e', hy] at g1; cases g1)]; exact g1, g2, fun pos cv hc => ?_⟩
      obtain ⟨c, rfl, g4⟩ := g3 pos cv hc
      exact ⟨c, rfl, by rw [upd_ne (fun e' => by rw [e', hy] at g4; cases g4)]; exact g4⟩
end
/-! ### the def that tells the word -/
section
variable {X : Cx}
theorem word_gives {Ng : List Str} {x a q fine : Str} {sg : Scope} {g : Addr} {cdg : Value} {j : Nat} {p1 p2 p3 p4 p5 p6 : Pos} {hds : List ExceptHandler} {h₀ : ExceptHandler} {l : List (Addr × Str)}
    (hh : ∀ (s : Shared) (H : Hp) (Q : VK), HdsOk (cxOf C8.CX0 X.prog X.w X.K X.mg X.base Ng x sg g cdg X.A X.stack s H C8.E0).nox (h₀ :: hds) (l.map fun p => (Value.ref p.1, fun _ _ _ => tRet (tC (.str p.2)))))
    (h0 : ∀ f : Addr, (L2.start Ng [V.ref f])[0]? = some (some (V.ref f)))
    (hsw : ∀ (s : Shared) (H : Hp) (pn : List (Addr × Obj)) (xe : Value → Shared → Prop), swapsWith (.Call (.Name a p1) [] [] p2) none p3.line ((cxOf C8.CX0 X.prog X.w X.K X.mg X.base Ng x sg g cdg X.A X.stack s H C8.E0).tr pn xe).env = pure false) :
    LamX.GivesTo X Ng x sg g cdg [.Try [.Expr (.Call (.Name a p1) [] [] p2) p3] (h₀ :: hds) [] [] p4, .Return (some (.Constant (.str fine) j p5)) p6] a q (TWord X.K l fine) := by
  intro f c' s H Q tl act hc h
  refine ⟨_, pss_cons (ps_try_many (X := (cxOf C8.CX0 X.prog X.w X.K X.mg X.base Ng x sg g cdg X.A X.stack s H C8.E0).nox)
      (tb := fun W D σ H => ∃ Ech : XK, (∀ cls d σ' H', Ech cls d H' → W cls d σ' H') ∧ σ[0]? = some (some (.ref f)) ∧ H c' = some (CodeO c' q) ∧ tl Ech H (fun _ H' => D.nx σ H'))
      rfl rfl takes_none5 (fun W pn xe tk _ => ?_) (hh s H Q)) (pss_one (ps_ret pe_str)), ?_⟩
  · refine ⟨fun pins s' σ H' D I h' => ?_⟩
    obtain ⟨Ech, hW, h1, h2, h3⟩ := h'
    have hp := act W pn xe Ech p1 p2 tk hW
    have hq := pss_one (ps_expr (pos := p3) hp (hsw s H pn xe))
    exact hq.run pins s' σ H' D I ⟨h1, h2, h3⟩
  · refine ⟨fun cls _ H' => tChain X.K Q cls H' l, fun cls d σ' H' w => ?_, h0 f, hc, h⟩
    have go : ∀ (Dd : Ends), Dd.rt = Q → ∀ l' : List (Addr × Str), tChain X.K Q cls H' l' → wMany X.K (fun _ _ _ _ => False) Dd (l'.map fun p => (Value.ref p.1, fun _ _ _ => tRet (tC (.str p.2)))) cls d σ' H' := by
      intro Dd hD l'
      subst hD
      induction l' with
      | nil => exact fun z => z.elim
      | cons p r ih => exact fun ⟨b, e1, e2, e3⟩ => ⟨b, e1, fun hb a _ => e2 hb, fun hb => ih (e3 hb)⟩
    exact go _ rfl l w
end
end Ev
set_option maxHeartbeats 4000000
namespace Ev
open PySem PySem.Spec PyProof.Rows L2
open LamX (Tabs TabS CodeO ExtN)
section
variable {X : Cx} {G : Gx} {T : List (Addr × Str)} {env : EnvS} {mg : Str → Option Value} {base : Heap} {k : Nat}
/-- the body of a lambda, by data -/
def LamB (X : Cx) (G : Gx) (mg : Str → Option Value) (base : Heap) (k : Nat) (scope : Scope) (body : Expr) (f : Env → Option R) : Prop :=
  ∀ (A : Around) (outer : List PySem.Env) (s : Shared) (H : Hp) (E : XK) (f' c' : Addr), Gd (LamX.lamCx X A outer s H E scope f' c') G mg base k → Takes (LamX.lamCx X A outer s H E scope f' c') (fun cls d _ H' => E cls d H') → SE (LamX.lamCx X A outer s H E scope f' c') G E body f
theorem pe_word {x a : Str} {st : Stmt} {Ng : List Str} {c P : Addr} {params : Arguments} {body : Expr} {scope : Scope} {lpos p pos : Pos} {r : R} {w fine : Str} {l : List (Addr × Str)} {f : Env → Option R}
    (gd : Gd X G mg base (k + 2)) (D : DefH G mg x st) (Sg : FnScope Ng [a] (defScope st)) (hb : BindsAll st [a]) (hNg : Ng[0]? = some a) (hva : Vis (defScope st) a)
    (hG : ∀ (g : Addr) (cdv : Value), LamX.GivesTo X Ng x (defScope st) g cdv (defBody st) a (X.env.qual ++ "<lambda>") (TWord X.K l fine))
    (TB : LamX.TabB base mg c P) (hcode : X.env.code = .ref c) (hmT : (P, X.env.qual ++ "<lambda>") ∈ T) (hu : ∀ p ∈ T, p.1 = P → p.2 = X.env.qual ++ "<lambda>")
    (hbody : LamB X G mg base k scope body f) (hf : f (see env) = some r) (hw : wordR G l fine r = some w)
    (L : LamX.LamS X.env.scope scope) (hdef : defaultsOf params X.env = ([], []))
    (hbind : ∀ (q : Str) (cl : List (Str × Addr)) (pm cv ctv : Value), bindArgs (PySem.W.kla_fn "<lambda>" q params body scope cl pm cv ctv) ⟨[], []⟩ = pure [])
    (hg : Gl X x) (hdb : (x == ("__debug__" : Str)) = false) (hd : (a == ("__debug__" : Str)) = false) (hcd : (a == ("__classdict__" : Str)) = false) :
    PE X (.Call (.Name x p) [.Lambda params body scope lpos] [] pos) (tWd G T env w) := by
  obtain ⟨g, fd, F, hm⟩ := D
  have hbn : Binds G.K fd [a] [] := F.bindsN (hb _ _)
  have hkp := F.kp
  obtain ⟨oc, od, dV, kV, doc, pm, an, cdv, ct, osl, rfl, lk, hcg, hD, hK⟩ := F.ex
  refine PE.weak (LamX.pe_lamcall (T := T) (TT := TWord X.K l fine) (k := k) (t := fun E => tR G E (see env) r) hg (by rw [gd.hm]; exact hm) (by rw [gd.hK]; exact hkp) (by rw [gd.hK]; exact lk) (by rw [gd.hK]; exact hcg) (by rw [gd.hK]; exact hbn) Sg hNg hva (hG g cdv) (by rw [gd.hb, gd.hm]; exact TB) hcode hmT hu gd.hr L hdef hbind ?_ hdb hd hcd) (tWd_of gd.hK hw)
  intro A outer s H E f' c' hr
  exact hbody A outer s H E f' c' ⟨gd.hK, gd.hP, gd.hw, gd.hm, gd.hb, rfl, gd.hN, hr⟩ (takes_of rfl rfl rfl rfl) _ _ hf
end
end Ev
set_option maxHeartbeats 4000000
namespace Ev
open PySem PySem.Spec PyProof.Rows L2
open LamX (Tabs TabS CodeO ExtN)
def spRoll : Sp := fun vs H Q _ => ∃ (p : Addr) (x y z n : Int), vs = [.ref p, .int n] ∧ 0 < n ∧ n < 1073741824 ∧ H p = some (.lst [.int x, .int y, .int z]) ∧ 0 ≤ x ∧ 0 ≤ z ∧
  ∀ r x' z', 0 ≤ r → r < n → 0 ≤ x' → 0 ≤ z' → z' ≤ z + 1 → Q (.int r) (upd H p (.lst [.int x', .int y, .int z']))
def spPick : Sp := fun vs H Q _ => ∃ (p l : Addr) (x y z : Int) (xs : List V), vs = [.ref p, .ref l] ∧ l ≠ p ∧ H p = some (.lst [.int x, .int y, .int z]) ∧ 0 ≤ x ∧ 0 ≤ z ∧ H l = some (.lst xs) ∧ xs ≠ [] ∧ xs.length < 1000000 ∧
  ∀ v x' z', v ∈ xs → 0 ≤ x' → 0 ≤ z' → z' ≤ z + 1 → Q v (upd H p (.lst [.int x', .int y, .int z']))
/-- a def by hand, that can be called -/
def CalS (G : Gx) (mg : Str → Option Value) (base : Heap) (n : Nat) (x : Str) (ps : List Str) (sp : Sp) : Prop :=
  ∃ f fd, FnOk G.P G.w G.K mg base (L2.CX G.P G.w) n f fd ps sp ∧ mg x = some (.ref f) ∧ PySem.W.keepIn G.K (.ref f) = true ∧ Binds G.K fd ps []
theorem tabs_upd {T : List (Addr × Str)} {H : Hp} {p : Addr} {xs : List V} {o : HO} (t : Tabs T H) (h : H p = some (.lst xs)) : Tabs T (upd H p o) := fun z hz => by
  obtain ⟨ps, g1, g2, g3⟩ := t z hz
  refine ⟨ps, by rw [upd_ne (fun e' => by rw [e', h] at g1; cases g1)]; exact g1, g2, fun pos cv hc => ?_⟩
  obtain ⟨c, rfl, g4⟩ := g3 pos cv hc
  exact ⟨c, rfl, by rw [upd_ne (fun e' => by rw [e', h] at g4; cases g4)]; exact g4⟩
theorem RelDs.mem {G : Gx} {Kn : Hp} : ∀ {ds : List D} {vs : List V} {v : V}, RelDs G Kn ds vs → v ∈ vs → ∃ d ∈ ds, RelD G Kn d v
  | _, _, _, .nil, h => by cases h
  | _, _, _, .cons r rr, h => by
    rcases List.mem_cons.mp h with e | h
    · subst e; exact ⟨_, List.mem_cons_self, r⟩
    · obtain ⟨d, h1, h2⟩ := RelDs.mem rr h
      exact ⟨d, List.mem_cons_of_mem _ h1, h2⟩
section
variable {X : Cx} {G : Gx} {T : List (Addr × Str)} {sts : List Stmt} {env : EnvS} {o : OL} {e : Expr} {pos pos' : Pos} {mg : Str → Option Value} {base : Heap} {k : Nat}
theorem CalS.pe {n : Nat} {x : Str} {ps : List Str} {sp : Sp} {es : List Expr} {t : TA} {p : Pos} (C : CalS G mg base n x ps sp) (gd : Gd X G mg base k) (hn : n ≤ k) (ha : PA X (e :: es) t) (hg : Gl X x) (hdb : (x == ("__debug__" : Str)) = false) (he : starEach (e :: es) X.env = (false, eval e X.env) :: starEach es X.env) (hpl : (backTo pos (starEach es X.env)).any (·.1) = false) :
    PE X (.Call (.Name x p) (e :: es) [] pos) (tCall sp [] (fun _ _ _ => False) t) := by
  obtain ⟨f, fd, F, hm, hk, hb⟩ := C
  rw [← gd.hP, ← gd.hw, ← gd.hK, ← gd.hm, ← gd.hb] at F
  exact pe_call F (gd.hr.mono hn) hg (by rw [gd.hm]; exact hm) (by rw [gd.hK]; exact hk) (by rw [gd.hK]; exact hb) .nil (passes_call LamX.takes0 (fun _ _ _ _ z => z)) ha hdb he hpl
theorem set_at {env : EnvS} {j : Nat} {s : Sl} (h : env[j]? = some s) : env.set j s = env := by
  apply List.ext_getElem?
  intro m
  by_cases hm : j = m
  · subst hm
    rw [List.getElem?_set_self (List.getElem?_eq_some_iff.mp h).1, h]
  · rw [List.getElem?_set_ne hm]
theorem LJ.pick {i j n : Nat} {x y : Str} {p : Addr} {p1 p2 pc : Pos} {fe : Env → Option D} {ds : List D} (C : CalS G mg base 2 "_law_pick" ["_law_dice_here", "_law_items"] spPick) (gd : Gd X G mg base k) (hn : 2 ≤ k) (he : SF X G e fe) (hd : env[j]? = some (.ow (.di p n))) (hds : fe (see env) = some (.lst ds)) (hne : ds ≠ []) (hlen : ds.length < 1000000)
    (h : ∀ d ∈ ds, LJ X G T sts (env.set i (.fr d)) o)
    (hi : X.N[i]? = some x) (hx : Loc X.env.scope x) (hj : X.N[j]? = some y) (hvj : Vis X.env.scope y) (hdj : (y == ("__debug__" : Str)) = false) (hcj : (y == ("__classdict__" : Str)) = false) (hg : Gl X "_law_pick")
    (hs1 : starEach [.Name y p2, e] X.env = (false, eval (.Name y p2) X.env) :: starEach [e] X.env) (hs2 : starEach [e] X.env = (false, eval e X.env) :: starEach [] X.env) (hpl : (backTo pc (starEach [e] X.env)).any (·.1) = false)
    (hsw : swapsWith (.Call (.Name "_law_pick" p1) [.Name y p2, e] [] pc) (some (.Name x pos')) pos.line X.env = pure false) (hf : X.fn x = true ∨ X.env.scope.names.lookup x = some .local) :
    LJ X G T (.Assign [.Name x pos'] (.Call (.Name "_law_pick" p1) [.Name y p2, e] [] pc) pos :: sts) env o := fun H0 K0 n0 nk => by
  have rest : PSs X sts (fun D σ H => ∃ d, d ∈ ds ∧ tL G T H0 K0 (env.set i (.fr d)) o D σ H) := ⟨fun pins s σ H D I ⟨d, hd, q⟩ => (h d hd H0 K0 n0 nk).run pins s σ H D I q⟩
  refine PSs.weak (pss_cons (ps_set gd.hN hi hx (C.pe gd hn (pa_cons (pe_var hj hvj hdj hcj) (pa_cons (he _ _ hds) pa_nil hs2) hs1) hg (by decide +kernel) hs1 hpl) hsw hf) rest) fun D σ H ⟨⟨Kn, r⟩, t, q⟩ => ?_
  obtain ⟨p', hp', h0, hkp, ow⟩ := r.ow j _ hd
  cases ow with
  | @di n' x0 y0 z0 hp a1 a2 =>
    refine ⟨_, hp', Kn, r.st.sub, r.relE, fun l H1 K1 s1 hl hkl own => ?_⟩
    cases own with
    | @lst xs _ hl2 rr =>
      have hp1 := s1.ex _ _ hp
      have hlp : l ≠ p := fun z => by rw [z, hp] at hl; cases hl
      refine ⟨p, l, x0, y0, z0, xs, rfl, hlp, hp1, a1, a2, hl2, fun z => hne (by subst z; cases rr; rfl), by rw [← rr.length]; exact hlen, fun v x' z' hv b1 b2 b3 => ?_⟩
      obtain ⟨d, hd1, hd2⟩ := rr.mem hv
      have r2 := (r.step s1).mut (o := .lst [.int x', .int y0, .int z']) (d' := .di p n) hd hp' (.di upd_same b1 b2)
      rw [set_at hd] at r2
      exact ⟨d, hd1, ⟨K1, r2.put hd2⟩, tabs_upd (t.ext s1.ex) hp1, q⟩
end
end Ev
set_option maxHeartbeats 4000000
/-! the law's level: less known of a slot, loops, dice, calls with dice -/
namespace Ev
open PySem PySem.Spec PyProof.Rows L2
open LamX (Tabs TabS CodeO ExtN)
inductive LeE : EnvS → EnvS → Prop
  | nil : LeE [] []
  | no {s : Sl} {a b : EnvS} : LeE a b → LeE (.no :: a) (s :: b)
  | same {s : Sl} {a b : EnvS} : LeE a b → LeE (s :: a) (s :: b)
theorem LeE.length : ∀ {a b : EnvS}, LeE a b → a.length = b.length
  | _, _, .nil => rfl
  | _, _, .no h => by simp [LeE.length h]
  | _, _, .same h => by simp [LeE.length h]
theorem LeE.at_ : ∀ {a b : EnvS} {i : Nat} {s : Sl}, LeE a b → a[i]? = some s → s = .no ∨ b[i]? = some s
  | _, _, _, _, .nil, h => by simp at h
  | _, _, 0, _, .no _, h => by simp at h; exact .inl h.symm
  | _, _, 0, _, .same _, h => by simp at h; exact .inr (by simp [h])
  | _, _, i + 1, _, .no r, h => by
    rcases LeE.at_ (i := i) r (by simpa using h) with z | z
    · exact .inl z
    · exact .inr (by simpa using z)
  | _, _, i + 1, _, .same r, h => by
    rcases LeE.at_ (i := i) r (by simpa using h) with z | z
    · exact .inl z
    · exact .inr (by simpa using z)
def Dice (H : Hp) (p : Addr) : Prop := ∃ x y z : Int, H p = some (.lst [.int x, .int y, .int z]) ∧ 0 ≤ x ∧ 0 ≤ z
section
variable {G : Gx} {H0 H1 K0 H H' Kn : Hp} {env env' : EnvS} {σ : St}
theorem RS.le (r : RS G H0 K0 env σ H Kn) (l : LeE env' env) : RS G H0 K0 env' σ H Kn := by
  have fr : ∀ {i : Nat} {d : D}, env'[i]? = some (.fr d) → env[i]? = some (.fr d) := fun h => by
    rcases l.at_ h with z | z
    · cases z
    · exact z
  have ow : ∀ {i : Nat} {d : D}, env'[i]? = some (.ow d) → env[i]? = some (.ow d) := fun h => by
    rcases l.at_ h with z | z
    · cases z
    · exact z
  exact ⟨r.st, l.length.trans r.len, fun i d h => r.fr i d (fr h), fun i d h => r.ow i d (ow h), fun i j d e h1 h2 h3 => r.sep i j d e (ow h1) (ow h2) h3⟩
theorem RS.less (r : RS G H0 K0 env σ H Kn) (e : Ex H1 H0) : RS G H1 K0 env σ H Kn :=
  ⟨⟨e.trans r.st.ex, r.st.kx, r.st.sub, fun a o h => r.st.fr a o (e a o h)⟩, r.len, r.fr, (fun i d h => by
    obtain ⟨p, a, b, c, o⟩ := r.ow i d h
    refine ⟨p, a, ?_, c, o⟩
    cases q : H1 p with
    | none => rfl
    | some u => rw [e p u q] at b; cases b), r.sep⟩
theorem RS.consOw {p : Addr} {d : D} (r : RS G H0 K0 env σ H Kn) (hp : H0 p = none) (hk : Kn p = none) (o : Own G Kn H p d) (no : ∀ (i : Nat) (x : D), env[i]? ≠ some (.ow x)) : RS G H0 K0 (.ow d :: env) (some (.ref p) :: σ) H Kn := by
  refine ⟨r.st, by simp [r.len], fun i x h => ?_, fun i x h => ?_, fun i j x y h1 h2 h3 => ?_⟩
  · cases i with
    | zero => simp at h
    | succ i => simpa using r.fr i x (by simpa using h)
  · cases i with
    | zero => simp at h; subst h; exact ⟨p, by simp, hp, hk, o⟩
    | succ i => exact absurd (by simpa using h) (no i x)
  · cases i with
    | zero =>
      cases j with
      | zero => exact absurd rfl h3
      | succ j => exact absurd (by simpa using h2) (no j y)
    | succ i => exact absurd (by simpa using h1) (no i x)
/-- all but p and the tables stays, p has dice -/
theorem RS.called {j n : Nat} {p : Addr} (r : RS G H0 K0 env σ H Kn) (n0 : NoTab H0) (nk : NoTab K0) (hd : env[j]? = some (.ow (.di p n))) (e : ∀ b o, b ≠ p → H b = some o → (∀ ps, o ≠ .tbl ps) → H' b = some o) (hp : Dice H' p) : RS G H0 K0 env σ H' (Ev.strip Kn) := by
  obtain ⟨p', q1, q2, q3, q4⟩ := r.ow j _ hd
  cases q4 with
  | di q4 _ _ =>
    have ne : ∀ {a : Addr} {o : HO}, H0 a = some o → a ≠ p := fun h z => by rw [z, q2] at h; cases h
    have nk' : ∀ {a : Addr} {o : HO}, Kn a = some o → a ≠ p := fun h z => by rw [z, q3] at h; cases h
    refine ⟨⟨fun a o h => e a o (ne h) (r.st.ex a o h) fun ps z => n0 a ps (by rw [h, z]), fun a o h => strip_at (r.st.kx a o h) fun ps z => nk a ps (by rw [h, z]), fun a o h => ?_, fun a o h => strip_same nk (r.st.fr a o h)⟩, r.len, fun i d h => ?_, fun i d h => ?_, r.sep⟩
    · obtain ⟨h1, h2⟩ := strip_of h
      exact e a o (nk' h1) (r.st.sub a o h1) h2
    · obtain ⟨v, a, b⟩ := r.fr i d h
      exact ⟨v, a, b.strip⟩
    · obtain ⟨p2, a, b, c, o⟩ := r.ow i d h
      by_cases hij : i = j
      · subst hij
        rw [hd] at h
        cases h
        rw [a] at q1
        cases q1
        obtain ⟨x, y, z, h1, h2, h3⟩ := hp
        exact ⟨p, a, b, strip_none c, .di h1 h2 h3⟩
      · have hne : p2 ≠ p := fun z => r.sep i j _ _ h hd hij (by rw [a, q1, z])
        obtain ⟨u, hu, hn⟩ := o.noTab
        exact ⟨p2, a, b, strip_none c, o.strip ((e p2 u hne hu hn).trans hu.symm)⟩
end
section
variable {X : Cx} {G : Gx} {E : XK} {T : List (Addr × Str)} {st : Stmt} {sts : List Stmt} {env env1 env2 : EnvS} {o : OL} {e : Expr} {es : List Expr} {pos pos' : Pos} {mg : Str → Option Value} {base : Heap} {k : Nat}
theorem LJ.nil : LJ X G T [] env (.nx env) := fun H0 K0 n0 nk => PSs.weak pss_nil fun D σ H ⟨⟨Kn, r⟩, t, q⟩ => q σ H Kn r t
theorem LJ.le (h : LJ X G T sts env1 o) (l : LeE env1 env) : LJ X G T sts env o := fun H0 K0 n0 nk =>
  PSs.weak (h H0 K0 n0 nk) fun D σ H ⟨⟨Kn, r⟩, t, q⟩ => ⟨⟨Kn, r.le l⟩, t, q⟩
theorem L1.retW {f : Env → Option D} {d : D} (h : SD X G e f) (hf : f (see env) = some d) (l : LeE env1 env) : L1 X G T (.Return (some e) pos) env (.rt d env1) := fun H0 K0 n0 nk =>
  PS.weak (ps_ret (h _ _ hf)) fun D σ H ⟨⟨Kn, r⟩, t, q⟩ => ⟨Kn, r.st.sub, r.relE, fun v H1 K1 s1 rd => q v σ H1 K1 ((r.step s1).le l) (t.ext s1.ex) rd⟩
/-! ### a number -/
def LN (X : Cx) (G : Gx) (T : List (Addr × Str)) (e : Expr) (env : EnvS) (m : Nat) : Prop := ∀ H0 K0, NT G H0 → NoTab K0 →
  PE X e (fun σ H Q => ∃ Kn, RS G H0 K0 env σ H Kn ∧ Tabs T H ∧ ∀ (j : Nat) H' K', j ≤ m → RS G H0 K0 env σ H' K' → Tabs T H' → Q (.int j) H')
theorem LN.sd {f : Env → Option D} {j m : Nat} (h : SD X G e f) (hf : f (see env) = some (.int j)) (hj : j ≤ m) : LN X G T e env m := fun H0 K0 n0 nk =>
  PE.weak (h _ _ hf) fun σ H Q ⟨Kn, r, t, q⟩ => ⟨Kn, r.st.sub, r.relE, fun v H1 K1 s1 rd => by cases rd; exact q j H1 K1 hj (r.step s1) (t.ext s1.ex)⟩
/-- max(c, min(m, len(script))) -/
theorem LN.script {s c m : Nat} {y : Str} {j1 j2 : Nat} {p1 p2 p3 p4 p5 p6 p7 : Pos} {p8 : Pos} (gd : Gd X G mg base k) (h0 : env[s]? = some (.fr (.cl 99))) (hc : c ≤ m) (h1 : mg "max" = none) (h2 : mg "min" = none) (h3 : mg "len" = none) (hN : X.N[s]? = some y)
    (hv : Vis X.env.scope y) (hd : (y == ("__debug__" : Str)) = false) (hcd : (y == ("__classdict__" : Str)) = false) (g1 : Gl X "max") (g2 : Gl X "min") (g3 : Gl X "len") :
    LN X G T (.Call (.Name "max" p1) [.Constant (.int c) j1 p2, .Call (.Name "min" p3) [.Constant (.int m) j2 p4, .Call (.Name "len" p5) [.Name y p6] [] p7] [] p8] [] pos) env m := fun H0 K0 n0 nk => by
  obtain ⟨hn, ns, sq⟩ := n0
  refine PE.weak (pe_callB (call_max2 gd.hc) g1 (by rw [gd.hm]; exact h1) rfl (pa_cons pe_int (pa_cons (pe_callB (call_min2 gd.hc) g2 (by rw [gd.hm]; exact h2) rfl (pa_cons pe_int (pa_cons (pe_callB call_len g3 (by rw [gd.hm]; exact h3) rfl (pa_cons (pe_var hN hv hd hcd) pa_nil)) pa_nil))) pa_nil))) fun σ H Q ⟨Kn, r, t, q⟩ => ?_
  obtain ⟨v, hv1, rv⟩ := r.fr s _ h0
  cases rv
  refine ⟨_, hv1, _, ns.length, rfl, .inl ⟨ns.map V.int, ?_, by simp⟩, m, ns.length, rfl, ?_⟩
  · rw [gd.hK]
    exact Evl.ex_l r.st.ex sq
  · refine ⟨c, _, rfl, ?_⟩
    have key : ∃ jn : Nat, jn ≤ m ∧ (if (if (ns.length : Int) < (m : Int) then (ns.length : Int) else (m : Int)) > (c : Int) then (if (ns.length : Int) < (m : Int) then (ns.length : Int) else (m : Int)) else (c : Int)) = (jn : Int) := by
      refine ⟨max c (min m ns.length), by omega, ?_⟩
      split <;> split at * <;> omega
    obtain ⟨jn, e1, e2⟩ := key
    rw [e2]
    exact q jn H Kn e1 r t
/-! ### for x in range(..) -/
theorem L1.rng {m s : Nat} {x : Str} {px p : Pos} {body : List Stmt} (gd : Gd X G mg base k) (hp : PassesOwn (model X.prog X.w) X.A X.env X.xe) (hm : mg "range" = none) (hn : LN X G T e env m) (hm2 : m < 1000000)
    (hb : ∀ i : Nat, i < m → LJ X G T body (env.set s (.fr (.int i))) (.nx env))
    (hs : X.N[s]? = some x) (hx : Loc X.env.scope x) (hf : X.fn x = true ∨ X.env.scope.names.lookup x = some .local) (hg : Gl X "range") (hst : starEach [e] X.env = [(false, eval e X.env)]) (hfo : ∀ y, foldedSetIterable (.Call (.Name "range" p) [e] [] pos) X.env y = pure y) :
    L1 X G T (.For (.Name x px) (.Call (.Name "range" p) [e] [] pos) body [] pos') env (.nx env) := fun H0 K0 n0 nk => by
  have hbody : PSs X body (fun D σ H => ∃ i, i < m ∧ tL G T H0 K0 (env.set s (.fr (.int (i : Nat)))) (.nx env) D σ H) := ⟨fun pins s σ H D I ⟨i, hi, q⟩ => (hb i hi H0 K0 n0 nk).run pins s σ H D I q⟩
  refine PS.weak (ps_for hp gd.hc (pi_range1 hg (by rw [gd.hm]; exact hm) (pa_cons (hn H0 K0 n0 nk) pa_nil hst) (hs := hst)) (pg_name gd.hN hs hx hf) hbody hfo) fun D σ H ⟨⟨Kn, r⟩, t, q⟩ => ?_
  refine ⟨Kn, r, t, fun j H1 K1 hj r1 t1 => ⟨(j : Int), rfl, by omega, by omega, ?_⟩⟩
  refine ⟨fun i n σ2 H2 => n = j - i ∧ i ≤ j ∧ ∃ K2, RS G H0 K0 env σ2 H2 K2 ∧ Tabs T H2, ⟨j, by omega, Nat.zero_le _, K1, r1, t1⟩, ?_⟩
  rintro i n σ2 H2 ⟨rfl, hij, K2, r2, t2⟩
  by_cases hlt : i < j
  · refine .inr ⟨show i < (j : Int).toNat by omega, fun σ3 H3 => ∃ K3, RS G H0 K0 env σ3 H3 K3 ∧ Tabs T H3, fun σ3 H3 w => ⟨j - (i + 1), by omega, rfl, by omega, w⟩, fun y H' hy => ?_⟩
    obtain ⟨rfl, rfl⟩ := hy
    refine ⟨i, by omega, ⟨K2, ?_⟩, t2, fun σ3 H3 K3 r3 t3 => ⟨K3, r3, t3⟩⟩
    have := r2.put (i := s) (RelD.int (G := G) (Kn := K2) ((0 : Int) + (i : Int)))
    rw [Int.zero_add] at this ⊢
    exact this
  · exact .inl ⟨show (j : Int).toNat ≤ i by omega, q σ2 H2 K2 r2 t2⟩
/-! ### tests -/
def LT (X : Cx) (G : Gx) (T : List (Addr × Str)) (e : Expr) (env : EnvS) (b : Bool) : Prop := ∀ H0 K0, NT G H0 → NoTab K0 →
  PT X e (fun σ H Q => ∃ Kn, RS G H0 K0 env σ H Kn ∧ Tabs T H ∧ ∀ H' K', RS G H0 K0 env σ H' K' → Tabs T H' → Q b H')
theorem LT.not_ {b : Bool} (h : LT X G T e env b) : LT X G T (.UnaryOp .Not e pos) env (!b) := fun H0 K0 n0 nk =>
  PT.weak (pt_not (h H0 K0 n0 nk)) fun σ H Q ⟨Kn, r, t, q⟩ => ⟨Kn, r, t, fun H' K' r' t' => q H' K' r' t'⟩
theorem L1.ifF {body : List Stmt} {tb : TS} (h : LT X G T e env false) (hb : PSs X body tb) : L1 X G T (.If e body [] pos) env (.nx env) := fun H0 K0 n0 nk =>
  PS.weak (ps_if (h H0 K0 n0 nk) hb pss_nil) fun D σ H ⟨⟨Kn, r⟩, t, q⟩ => ⟨Kn, r, t, fun H' K' r' t' => iteF (q σ H' K' r' t')⟩
/-! ### dice -/
def spDice (K : PySem.W.Frag) : Sp := fun vs H Q _ => ∃ (a : Addr) (ns : List Int) (i : Nat), vs = [.ref a, .int i] ∧ SqL K H a (ns.map V.int) ∧ i < 1000 ∧ ∀ p x y, H p = none → 0 ≤ x → Q (.ref p) (upd H p (.lst [.int x, .int y, .int 0]))
theorem LJ.dice {i j s m : Nat} {x y z : Str} {p1 p2 p3 pc : Pos} (C : CalS G mg base 1 "_law_dice" ["_law_script", "_law_spot"] (spDice G.K)) (gd : Gd X G mg base k) (hn : 1 ≤ k) (h0 : env[s]? = some (.fr (.cl 99))) (hi : env[i]? = some (.fr (.int m))) (hm : m < 1000)
    (h : ∀ p, LJ X G T sts (env.set j (.ow (.di p 0))) o)
    (hj : X.N[j]? = some x) (hx : Loc X.env.scope x) (hNs : X.N[s]? = some y) (hvs : Vis X.env.scope y) (hds : (y == ("__debug__" : Str)) = false) (hcs : (y == ("__classdict__" : Str)) = false)
    (hNi : X.N[i]? = some z) (hvi : Vis X.env.scope z) (hdi : (z == ("__debug__" : Str)) = false) (hci : (z == ("__classdict__" : Str)) = false) (hg : Gl X "_law_dice")
    (hsw : swapsWith (.Call (.Name "_law_dice" p1) [.Name y p2, .Name z p3] [] pc) (some (.Name x pos')) pos.line X.env = pure false) (hf : X.fn x = true ∨ X.env.scope.names.lookup x = some .local) :
    LJ X G T (.Assign [.Name x pos'] (.Call (.Name "_law_dice" p1) [.Name y p2, .Name z p3] [] pc) pos :: sts) env o := fun H0 K0 n0 nk => by
  have rest : PSs X sts (fun D σ H => ∃ p, tL G T H0 K0 (env.set j (.ow (.di p 0))) o D σ H) := ⟨fun pins s σ H D I ⟨p, q⟩ => (h p H0 K0 n0 nk).run pins s σ H D I q⟩
  refine PSs.weak (pss_cons (ps_set gd.hN hj hx (C.pe gd hn (pa_cons (pe_var hNs hvs hds hcs) (pa_cons (pe_var hNi hvi hdi hci) pa_nil)) hg (by decide +kernel) rfl rfl) hsw hf) rest) fun D σ H ⟨⟨Kn, r⟩, t, q⟩ => ?_
  obtain ⟨v, e1, e2⟩ := r.fr s _ h0
  cases e2
  obtain ⟨u, e3, e4⟩ := r.fr i _ hi
  cases e4
  obtain ⟨hn0, ns, sq⟩ := n0
  refine ⟨_, e1, _, e3, _, ns, m, rfl, Evl.ex_l r.st.ex sq, hm, fun p x' y' hp hx' => ?_⟩
  exact ⟨p, ⟨Kn, r.putOwn (Step.own r.st.sub hp) hp (known_none r.st.sub hp) (.di upd_same hx' (by decide))⟩, t.ext (Evl.Ex.new hp), q⟩
/-! ### a def with dice, at the law's level -/
def cut (p : Addr) (H : Hp) : Hp := fun a => if a = p then none else strip H a
theorem cut_no {p : Addr} {H : Hp} : NoTab (cut p H) := fun a ps h => by
  unfold cut at h
  split at h
  · cases h
  · exact strip_no _ _ h
theorem cut_ex {p : Addr} {H : Hp} : Ex (cut p H) H := fun a o h => by
  unfold cut at h
  split at h
  · cases h
  · exact (strip_of h).1
theorem cut_at {p a : Addr} {H : Hp} {o : HO} (ha : a ≠ p) (h : H a = some o) (n : ∀ ps, o ≠ .tbl ps) : cut p H a = some o := by
  unfold cut
  rw [if_neg ha]
  exact strip_at h n
def spT (G : Gx) (T : List (Addr × Str)) (ds : List D) (b : Bool) (n : Nat) : Sp := fun vs H Q _ => ∃ (p : Addr) (vr : List V) (Kn : Hp), vs = .ref p :: vr ∧ vs.length = n ∧ Dice H p ∧ Ex Kn H ∧ Kn p = none ∧ RelDs G Kn ds vr ∧ Tabs T H ∧ (∃ ns : List Int, SqL G.K (cut p H) (G.cad 99) (ns.map V.int)) ∧
  ∀ H', (∀ a o, a ≠ p → H a = some o → (∀ ps, o ≠ .tbl ps) → H' a = some o) → Dice H' p → Tabs T H' → Q (.bl b) H'
theorem LT.call {n j : Nat} {f x : Str} {ps : List Str} {ds : List D} {b : Bool} {p : Addr} {p1 p2 : Pos} {g : Env → Option (List D)} (C : CalS G mg base n f ps (spT G T ds b ps.length)) (gd : Gd X G mg base k) (hn : n ≤ k) (hd : env[j]? = some (.ow (.di p 0))) (ha : SA X G es g) (hg : g (see env) = some ds) (hl : es.length + 1 = ps.length) (hle : ds.length = es.length)
    (hj : X.N[j]? = some x) (hvj : Vis X.env.scope x) (hdj : (x == ("__debug__" : Str)) = false) (hcj : (x == ("__classdict__" : Str)) = false) (hgl : Gl X f) (hdb : (f == ("__debug__" : Str)) = false)
    (hst : starEach (.Name x p2 :: es) X.env = (false, eval (.Name x p2) X.env) :: starEach es X.env) (hpl : (backTo pos (starEach es X.env)).any (·.1) = false) :
    LT X G T (.Call (.Name f p1) (.Name x p2 :: es) [] pos) env b := fun H0 K0 n0 nk => by
  refine PT.weak (pt_val (C.pe gd hn (pa_cons (pe_var hj hvj hdj hcj) (ha _ _ hg) hst) hgl hdb hst hpl)) fun σ H Q ⟨Kn, r, t, q⟩ => ?_
  obtain ⟨p', e1, e2, e3, e4⟩ := r.ow j _ hd
  cases e4 with
  | @di _ x0 y0 z0 hp hx hz =>
    refine ⟨_, e1, Kn, r.st.sub, r.relE, fun vs H1 K1 s1 rd => ?_⟩
    have r1 := r.step s1
    obtain ⟨hn0, ns, sq⟩ := n0
    refine ⟨p, vs, K1, by simp, by simp [← rd.length, hle, hl], ⟨x0, y0, z0, s1.ex _ _ hp, hx, hz⟩, s1.sub, (s1.fr _ _ hp).trans e3, rd, t.ext s1.ex, ⟨ns, Evl.ex_l (fun a o h => cut_at (fun z => by rw [z, e2] at h; cases h) (r1.st.ex a o h) fun ps z => hn0 a ps (by rw [h, z])) sq⟩, fun H' e hp' t' => ⟨b, rfl, ?_⟩⟩
    exact q H' _ (r1.called hn0 nk hd e hp') t'
end
/-- a def that makes lambdas: where its code object lies -/
def DefC (G : Gx) (mg : Str → Option Value) (x : Str) (st : Stmt) (c : Addr) : Prop := ∃ f fd, FunH G x x st f fd ∧ mg x = some (.ref f) ∧ fd.code = .ref c
theorem DefC.defH {G : Gx} {mg : Str → Option Value} {x : Str} {st : Stmt} {c : Addr} (D : DefC G mg x st c) : DefH G mg x st := let ⟨f, fd, F, h, _⟩ := D; ⟨f, fd, F, h⟩
abbrev Own_ (X : Cx) : Prop := PassesOwn (model X.prog X.w) X.A X.env X.xe
section
variable {G : Gx} {mg : Str → Option Value} {base : Heap} {c k : Nat} {N ps : List Str} {st : Stmt} {x y : Str} {ca : Addr} {T : List (Addr × Str)}
theorem startS_no {N : List Str} {ds : List D} (i : Nat) (z : D) : (startS N ds)[i]? ≠ some (.ow z) := fun h => by
  unfold startS at h
  by_cases hi : i < ds.length
  · rw [List.getElem?_append_left (by simpa using hi), List.getElem?_map] at h
    cases q : ds[i]? with
    | none => rw [q] at h; cases h
    | some d => rw [q] at h; cases h
  · rw [List.getElem?_append_right (by simpa using hi)] at h
    cases (List.mem_replicate.mp (List.mem_of_getElem? h)).2
theorem CalS.ofT {ds : List D} {b : Bool} {r : EnvS} (D : DefC G mg x st ca) (S : FnScope (y :: N) ps (defScope st)) (hb : BindsAll st ps) (hl : ds.length ≤ N.length)
    (hbody : ∀ (f : Addr) (A : Around) (outer : List PySem.Env) (s : Shared) (H : Hp) (E : XK) (p : Addr), Gd (cxD G mg base (y :: N) x (defScope st) f (.ref ca) A outer s H E) G mg base k → Own_ (cxD G mg base (y :: N) x (defScope st) f (.ref ca) A outer s H E) →
      LJ (cxD G mg base (y :: N) x (defScope st) f (.ref ca) A outer s H E) G T (defBody st) (.ow (.di p 0) :: startS N ds) (.rt (.bl b) (.ow (.di p 0) :: r))) :
    CalS G mg base (k + 1) x ps (spT G T ds b ps.length) := by
  obtain ⟨f, fd, F, hm, hc⟩ := D
  have hbn : Binds G.K fd ps [] := F.bindsN (hb _ _)
  have hkp := F.kp
  obtain ⟨oc, od, dV, kV, doc, pm, an, cdv, ct, osl, rfl, lk, hcd, hD, hK⟩ := F.ex
  have hc2 : cdv = .ref ca := hc
  subst hc2
  refine ⟨f, _, fn_of lk hcd S (fun vs H Q E q => ?_) fun A outer s H vs Q E hr q => ?_, hm, hkp, hbn⟩
  · obtain ⟨p, vr, Kn, _, q, _⟩ := q
    exact q
  · obtain ⟨p, vr, Kn, rfl, hlen, ⟨x0, y0, z0, d1, d2, d3⟩, ex, hkn, rd, t, sq, hq⟩ := q
    have exS : Ex (strip Kn) H := fun a o h => ex a o (strip_of h).1
    have rs : RS G (cut p H) (strip Kn) (.ow (.di p 0) :: startS N ds) (L2.start (y :: N) (.ref p :: vr)) H (strip Kn) := by
      have e1 : L2.start (y :: N) (.ref p :: vr) = some (.ref p) :: L2.start N vr := by
        unfold L2.start
        simp
      rw [e1]
      refine RS.consOw ((start_rs (N := N) exS rd.strip hl).less cut_ex) (by unfold cut; simp) (strip_none hkn) (.di d1 d2 d3) startS_no
    refine ⟨_, hbody f A outer s H E p ⟨rfl, rfl, rfl, rfl, rfl, rfl, S.nd, hr⟩ (passes_of rfl) (cut p H) (strip Kn) ⟨cut_no, sq⟩ strip_no, ⟨strip Kn, rs⟩, t, fun v σ' H' K' r' t' rv => ?_⟩
    cases rv
    refine hq H' (fun a o ha h n => r'.st.ex a o (cut_at ha h n)) ?_ t'
    obtain ⟨p2, a1, _, _, a2⟩ := r'.ow 0 _ rfl
    cases a2 with
    | di h1 h2 h3 => exact ⟨_, _, _, h1, h2, h3⟩
end
end Ev
set_option maxHeartbeats 4000000
/-! the head's facts, tested by the kernel -/
namespace Ev
open PySem PySem.Spec PyProof.Rows L2
/-- where a def stands: a global, a method, behind a property -/
inductive At where
  | d (x : Str)
  | m (c f : Str)
  | p (c f : Str)
def prpAd (K : PySem.W.Frag) (p : Addr) : Addr := match PySem.W.recIn K p "property" with
  | some (.ref g :: _) => g
  | _ => 0
def At.ad (K : PySem.W.Frag) : At → Addr
  | .d x => He.ga K x
  | .m c f => He.ma K (He.ga K c) f
  | .p c f => prpAd K (He.ma K (He.ga K c) f)
structure Df where
  at_ : At
  name : Str
  qual : Str
  st : Stmt
def fnY (K : PySem.W.Frag) (a : Addr) : He.FnW := match K.lookup a with
  | some ⟨_, _, .func fd, _⟩ => some (fd.name, fd.qualname, fd.params, fd.body, fd.scope, fd.globals, fd.closure, fd.builtins)
  | _ => none
def Df.val (d : Df) : He.FnW := some (d.name, d.qual, defArgs d.st, .stmts (defBody d.st), defScope d.st, mainGlobals, [], builtinsNs)
def Df.ok (K : PySem.W.Frag) (d : Df) : Bool := PySem.W.keepIn K (.ref (d.at_.ad K)) && (match K.lookup (d.at_.ad K) with
  | some ⟨_, _, .func fd, _⟩ => PySem.W.codeIn K fd.code d.qual && (He.dflB K fd.defaults [] && He.kwdB K fd.kwdefaults [])
  | _ => false)
theorem Df.funH {G : Gx} {d : Df} (e : fnY G.K (d.at_.ad G.K) = d.val) (c : d.ok G.K = true) : ∃ fd, FunH G d.name d.qual d.st (d.at_.ad G.K) fd := by
  obtain ⟨kp, c2⟩ := He.ba c
  unfold fnY at e
  cases q : G.K.lookup (d.at_.ad G.K) with
  | none =>
    rw [q] at c2
    cases c2
  | some o =>
    obtain ⟨oc, od, dt, osl⟩ := o
    rw [q] at c2 e
    cases dt with
    | func fd =>
      obtain ⟨n1, n2, n3, n4, n5, n6, n7, n8, n9, n10, n11, n12, n13, n14, n15⟩ := fd
      have e2 : (some (n1, n2, n3, n4, n5, n6, n7, n15) : He.FnW) = some (d.name, d.qual, defArgs d.st, .stmts (defBody d.st), defScope d.st, mainGlobals, [], builtinsNs) := e
      simp only [Option.some.injEq, Prod.mk.injEq] at e2
      obtain ⟨h1, h2, h3, h4, h5, h6, h7, h8⟩ := e2
      subst h1 h2 h3 h4 h5 h6 h7 h8
      have c3 : (PySem.W.codeIn G.K n13 d.qual && (He.dflB G.K n8 [] && He.kwdB G.K n9 [])) = true := c2
      obtain ⟨k1, k2⟩ := He.ba c3
      obtain ⟨k3, k4⟩ := He.ba k2
      exact ⟨_, ⟨oc, od, n8, n9, n10, n11, n12, n13, n14, osl, rfl, q, k1, He.dflB_ok k3, He.kwdB_ok k4⟩, kp⟩
    | _ => cases c2
/-! ### classes -/
def oB (a b : Option (Option Value)) : Bool := He.eqO a b
def sclsB (K : PySem.W.Frag) (C : Addr) : Bool := PySem.W.plainGet K C Str.empty && (PySem.W.isClsIn K C && (PySem.W.plainOver K C && He.eqO (PySem.W.findIn K (.ref C) "__setattr__") (some (some (.builtin "object.__setattr__")))))
theorem sclsB_ok {K : PySem.W.Frag} {C : Addr} (h : sclsB K C = true) : SlX.SCls K C := by
  obtain ⟨a, h⟩ := He.ba h
  obtain ⟨b, h⟩ := He.ba h
  obtain ⟨c, d⟩ := He.ba h
  exact ⟨a, b, c, He.eqO_ok d⟩
def sisiB (K : PySem.W.Frag) (C : Addr) : Bool := He.eqO (PySem.W.findIn K (.ref C) "__class__") (some (some (.builtin "object.__class__"))) && (He.eqO (PySem.W.specialIn K (.builtin "object.__class__") "__get__") (some (some (.builtin "getset_descriptor.__get__"))) &&
  (decide (PySem.W.takesIn K (.builtin "object.__class__") = some true) && decide (PySem.W.mroIn K C (.type "object") = some true)))
theorem sisiB_ok {K : PySem.W.Frag} {C : Addr} (h : sisiB K C = true) : SlX.SIsi K C := by
  obtain ⟨a, h⟩ := He.ba h
  obtain ⟨b, h⟩ := He.ba h
  obtain ⟨c, d⟩ := He.ba h
  exact ⟨He.eqO_ok a, He.eqO_ok b, of_decide_eq_true c, of_decide_eq_true d⟩
def fldB (K : PySem.W.Frag) (C : Addr) (f : Str) (i : Nat) : Bool := sclsB K C && (He.eqO (PySem.W.findIn K (.ref C) f) (some (some (.ref (He.ma K C f)))) && (He.eqO (PySem.W.specialIn K (.ref (He.ma K C f)) "__get__") (some (some (.builtin "member_descriptor.__get__"))) &&
  (decide (PySem.W.takesIn K (.ref (He.ma K C f)) = some true) && (decide (PySem.W.typeIn K (.ref (He.ma K C f)) = some (.type "member_descriptor")) && (decide (PySem.W.slotIn K (He.ma K C f) C = some i) && decide (i < 1000))))))
theorem fldB_ok {G : Gx} {c i : Nat} {f : Str} (h : fldB G.K (G.cad c) f i = true) : Fld G c f i := by
  obtain ⟨a, h⟩ := He.ba h
  obtain ⟨b, h⟩ := He.ba h
  obtain ⟨c, h⟩ := He.ba h
  obtain ⟨d, h⟩ := He.ba h
  obtain ⟨e, h⟩ := He.ba h
  obtain ⟨g, h⟩ := He.ba h
  exact ⟨sclsB_ok a, _, ⟨He.eqO_ok b, He.eqO_ok c, of_decide_eq_true d, of_decide_eq_true e, of_decide_eq_true g, of_decide_eq_true h⟩⟩
def prpB (K : PySem.W.Frag) (C : Addr) (f : Str) : Bool := sclsB K C && (He.eqO (PySem.W.findIn K (.ref C) f) (some (some (.ref (He.ma K C f)))) && (He.eqO (PySem.W.specialIn K (.ref (He.ma K C f)) "__get__") (some (some (.builtin "property.__get__"))) &&
  (decide (PySem.W.takesIn K (.ref (He.ma K C f)) = some true) && (match PySem.W.recIn K (He.ma K C f) "property" with
    | some (.ref _ :: _) => true
    | _ => false))))
theorem prpB_ok {G : Gx} {c : Nat} {f : Str} (h : prpB G.K (G.cad c) f = true) : Prp G c f (prpAd G.K (He.ma G.K (G.cad c) f)) := by
  obtain ⟨a, h⟩ := He.ba h
  obtain ⟨b, h⟩ := He.ba h
  obtain ⟨c', h⟩ := He.ba h
  obtain ⟨d, h⟩ := He.ba h
  refine ⟨sclsB_ok a, _, He.eqO_ok b, He.eqO_ok c', of_decide_eq_true d, ?_⟩
  unfold prpAd
  split at h
  · rename_i g rest e
    rw [e]
    exact ⟨rest, rfl⟩
  · cases h
def mthB (K : PySem.W.Frag) (C : Addr) (m : Str) : Bool := sclsB K C && (He.eqO (PySem.W.findIn K (.ref C) m) (some (some (.ref (He.ma K C m)))) && (PySem.W.isFn K (.ref (He.ma K C m)) && PySem.W.keepIn K (.ref (He.ma K C m))))
theorem mthB_ok {G : Gx} {c : Nat} {m : Str} (h : mthB G.K (G.cad c) m = true) : Mth G c m (He.ma G.K (G.cad c) m) := by
  obtain ⟨a, h⟩ := He.ba h
  obtain ⟨b, h⟩ := He.ba h
  obtain ⟨c', d⟩ := He.ba h
  exact ⟨sclsB_ok a, He.eqO_ok b, c', d⟩
def mkB (K : PySem.W.Frag) (C : Addr) : Bool := PySem.W.makesIn K C && (He.eqO (PySem.W.findIn K (.ref C) "__init__") (some (some (.ref (He.ma K C "__init__")))) && (PySem.W.isFn K (.ref (He.ma K C "__init__")) && PySem.W.keepIn K (.ref C)))
theorem mkB_ok {K : PySem.W.Frag} {C : Addr} (h : mkB K C = true) : Mk K C (He.ma K C "__init__") := by
  obtain ⟨a, h⟩ := He.ba h
  obtain ⟨b, h⟩ := He.ba h
  obtain ⟨c', d⟩ := He.ba h
  exact ⟨a, He.eqO_ok b, c', d⟩
def excB (K : PySem.W.Frag) (C : Addr) : Bool := PySem.W.excIn K C [.type "ValueError", .type "Exception", .type "BaseException", .type "object"] "ValueError.__new__" && (PySem.W.keepIn K (.ref C) && (decide (PySem.W.subIn K (.ref C) (.type "BaseException") = some true) && decide (PySem.W.typeIn K (.ref C) = some (.type "type"))))
theorem excB_ok {G : Gx} {mg : Str → Option Value} {c : Nat} {x : Str} (h : excB G.K (G.cad c) = true) (hm : mg x = some (.ref (G.cad c))) : ExcH G mg c x := by
  obtain ⟨a, h⟩ := He.ba h
  obtain ⟨b, h⟩ := He.ba h
  obtain ⟨c', d⟩ := He.ba h
  exact ⟨a, b, of_decide_eq_true c', of_decide_eq_true d, hm⟩
def tkC (cad : Nat → Addr) : Nat → Value
  | 0 => .type "NoneType" | 1 => .type "bool" | 2 => .type "int" | 3 => .type "str" | 4 => .type "tuple" | 5 => .type "list" | 6 => .type "dict"
  | c + 7 => .ref (cad c)
theorem tkC_eq (G : Gx) : ∀ n, tkV G n = tkC G.cad n
  | 0 => rfl | 1 => rfl | 2 => rfl | 3 => rfl | 4 => rfl | 5 => rfl | 6 => rfl | _ + 7 => rfl
def isiC (K : PySem.W.Frag) (cad : Nat → Addr) (tab : List (Nat × Nat × Bool)) (cls : List Nat) : Bool := (tab.all fun t => decide (PySem.W.kitOne K (tkC cad t.1) (tkC cad t.2.1) = some t.2.2)) && cls.all fun c => sclsB K (cad c) && sisiB K (cad c)
theorem isiC_ok {G : Gx} {tab : List (Nat × Nat × Bool)} {cls : List Nat} (h : isiC G.K G.cad tab cls = true) : Isi G tab cls := by
  obtain ⟨a, b⟩ := He.ba h
  exact ⟨fun t ht => by rw [tkC_eq, tkC_eq]; exact of_decide_eq_true (List.all_eq_true.mp a t ht), fun c hc => by
    obtain ⟨x, y⟩ := He.ba (List.all_eq_true.mp b c hc)
    exact ⟨sclsB_ok x, sisiB_ok y⟩⟩
/-! ### the Hook: HandS' one, and the defs -/
abbrev AlY : Type := He.AlX × List He.FnW
def obsY (as : List Addr) (fa : List He.Fa) (df : List Df) (tf : List He.Defn) (ex : PySem.W.Frag → Bool) (g : Addr → Option Obj) : AlY :=
  ((He.obsT fa [] [] (He.frT g as), (ex (He.frT g as) && df.all fun d => d.ok (He.frT g as)) && He.tabsB g tf (He.frT g as)), df.map fun d => fnY (He.frT g as) (d.at_.ad (He.frT g as)))
structure SaysY (fa : List He.Fa) (df : List Df) (tf : List He.Defn) (ex : PySem.W.Frag → Bool) (w : World) (h : Heap) (K : PySem.W.Frag) : Prop where
  x : He.SaysX fa [] [] tf (fun K => ex K && df.all fun d => d.ok K) w h K
  d : (df.map fun d => fnY K (d.at_.ad K)) = df.map Df.val
theorem saysW {as : List Addr} {fa : List He.Fa} {tf : List He.Defn} {ex : PySem.W.Frag → Bool} {w : World} {hp : Heap} (e1 : He.obsT fa [] [] (He.frT hp.get? as) = He.valT [] [] w) (e2 : (ex (He.frT hp.get? as) && He.tabsB hp.get? tf (He.frT hp.get? as)) = true) :
    He.SaysX fa [] [] tf ex w hp (He.frT hp.get? as) := by
  obtain ⟨m, tb⟩ := He.ba e2
  have at_ : ∀ d ∈ tf, ∃ u, hp.get? (He.cT (He.frT hp.get? as) d).2 = some u ∧ He.emptyTab u = true := fun d hd => by
    have z := (He.ba (List.all_eq_true.mp tb d hd)).2
    split at z
    · rename_i u e; exact ⟨u, e, z⟩
    · cases z
  refine ⟨e1, m, fun d hd => (He.ba (List.all_eq_true.mp tb d hd)).1, fun d hd => ?_, fun d hd => ?_⟩
  · obtain ⟨u, e, z⟩ := at_ d hd; exact He.frT_none e z
  · obtain ⟨u, e, z⟩ := at_ d hd; rw [e, He.emptyTab_eq z]
def hookY (as : List Addr) (fa : List He.Fa) (df : List Df) (tf : List He.Defn) (ex : PySem.W.Frag → Bool) : PySem.W.Hook where
  α := AlY
  obs := fun s => obsY as fa df tf ex s.heap.get?
  val := fun w => (He.valX [] [] w, df.map Df.val)
  says := fun w h => ∃ K : PySem.W.Frag, K.In h ∧ SaysY fa df tf ex w h K
  of := fun _ _ e => ⟨_, He.frT_in, saysW (congrArg (fun z : AlY => z.1.1) e) (congrArg (fun z : AlY => z.1.2) e), congrArg (fun z : AlY => z.2) e⟩
  keeps := fun _ _ _ ⟨K, hK, c, d⟩ k => ⟨K, PySem.W.Frag.In.keeps hK k, ⟨c.t, c.more, c.hd, c.out, fun p hp => k _ _ (c.empty p hp)⟩, d⟩
theorem obsY_eq {as : List Addr} {fa : List He.Fa} {df : List Df} {tf : List He.Defn} {ex : PySem.W.Frag → Bool} {g : Addr → Option Obj} {s : Shared} (h : ∀ a, g a = s.heap.get? a) : obsY as fa df tf ex g = (hookY as fa df tf ex).obs s := by
  have e : g = s.heap.get? := funext h
  rw [e] <;> rfl
section
variable {fa : List He.Fa} {df : List Df} {tf : List He.Defn} {ex : PySem.W.Frag → Bool} {w : World} {h : Heap} {K : PySem.W.Frag}
theorem SaysY.fact (c : SaysY fa df tf ex w h K) (i : Nat) {f : He.Fa} (hi : fa[i]? = some f := by rfl) : f.ok K = true :=
  (show He.SaysD fa [] K from congrArg (fun z : He.AlT => z.1) c.x.t).fact i hi
theorem SaysY.exs (c : SaysY fa df tf ex w h K) : ex K = true := (He.ba c.x.more).1
theorem SaysY.dfs {G : Gx} (hK : G.K = K) (c : SaysY fa df tf ex w h K) (i : Nat) {d : Df} (hi : df[i]? = some d := by rfl) : ∃ fd, FunH G d.name d.qual d.st (d.at_.ad K) fd := by
  subst hK
  refine Df.funH ?_ (List.all_eq_true.mp (He.ba c.x.more).2 d (List.mem_of_getElem? hi))
  have e := congrArg (fun l : List He.FnW => l[i]?) c.d
  simp only [List.getElem?_map, hi, Option.map_some] at e
  exact Option.some.inj e
end
end Ev
set_option maxHeartbeats 4000000
namespace Ev
open PySem PySem.Spec PyProof.Rows L2
theorem codeH {G : Gx} {x : Str} {st : Stmt} {fd : FuncData} (F : FunH G x x st (He.ga G.K x) fd) : fd.code = .ref (He.cT G.K (x, none)).1 := by
  obtain ⟨oc, od, dV, kV, doc, pm, an, cdv, ct, osl, rfl, lk, hcd, hD, hK⟩ := F.ex
  obtain ⟨c, rfl⟩ := He.codeIn_ref hcd
  have e := He.codeOf_eq (p := (x, none)) lk rfl
  show Value.ref c = .ref (He.codeOf G.K (x, none))
  rw [e]
end Ev
set_option maxHeartbeats 4000000
namespace K41
open PySem PySem.Spec PyProof.Rows L2 Ev
def top (i : Nat) : Stmt := PySem.Challenge.pw_joinhouse_k41_errors_of_shapes.main.body.getD i (.Pass ⟨0, 0, 0, 0⟩)
def clsBody (s : Stmt) : List Stmt := match s with
  | .ClassDef _ _ _ b _ _ _ _ _ _ _ => b
  | _ => []
def inn (i j : Nat) : Stmt := (clsBody (top i)).getD j (.Pass ⟨0, 0, 0, 0⟩)
def isiCls : List Nat := [0, 1]
def isiTab : List (Nat × Nat × Bool) := [(0, 1, false), (0, 2, false), (0, 3, false), (0, 4, false), (0, 6, false), (0, 7, false), (0, 8, false),
  (1, 1, true), (1, 2, true), (1, 3, false), (1, 4, false), (1, 6, false), (1, 7, false), (1, 8, false),
  (2, 1, false), (2, 2, true), (2, 3, false), (2, 4, false), (2, 6, false), (2, 7, false), (2, 8, false),
  (3, 1, false), (3, 2, false), (3, 3, true), (3, 4, false), (3, 6, false), (3, 7, false), (3, 8, false),
  (4, 1, false), (4, 2, false), (4, 3, false), (4, 4, true), (4, 6, false), (4, 7, false), (4, 8, false),
  (5, 1, false), (5, 2, false), (5, 3, false), (5, 4, false), (5, 6, false), (5, 7, false), (5, 8, false),
  (6, 1, false), (6, 2, false), (6, 3, false), (6, 4, false), (6, 6, true), (6, 7, false), (6, 8, false),
  (7, 1, false), (7, 2, false), (7, 3, false), (7, 4, false), (7, 6, false), (7, 7, true), (7, 8, false),
  (8, 1, false), (8, 2, false), (8, 3, false), (8, 4, false), (8, 6, false), (8, 7, false), (8, 8, true)]

structure Hd (G : Gx) (mg : Str → Option Value) (base : Heap) : Prop where
  f_Question_own_clauses : Fld G 0 "own_clauses" 1
  p_Question_clauses : PrpH G 0 "clauses" "Question.clauses" (inn 31 3)
  f_Question_own_lines : Fld G 0 "own_lines" 3
  p_Question_lines : PrpH G 0 "lines" "Question.lines" (inn 31 5)
  n_isinstance : mg "isinstance" = none
  n_tuple : mg "tuple" = none
  n_len : mg "len" = none
  g_MAX_CLAUSES : ∃ t, mg "MAX_CLAUSES" = some (.int 8 t)
  n_all : mg "all" = none
  n_str : mg "str" = none
  g_MAX_LETTERS : ∃ t, mg "MAX_LETTERS" = some (.int 8 t)
  g_LETTERS : ∃ t, mg "LETTERS" = some (.str "abcdefghijklmnopqrstuvwxyz" t)
  d_is_name : DefH G mg "is_name" (top 16)
  d_are_names : DefH G mg "are_names" (top 17)
  g_MAX_COLUMNS : ∃ t, mg "MAX_COLUMNS" = some (.int 8 t)
  d_is_clause : DefH G mg "is_clause" (top 24)
  n_zip : mg "zip" = none
  n_sorted : mg "sorted" = none
  d_columns_in : DefH G mg "columns_in" (top 25)
  d_widths_in : DefH G mg "widths_in" (top 27)
  d_are_clauses : DefH G mg "are_clauses" (top 26)
  n_set : mg "set" = none
  d_are_asked : DefH G mg "are_asked" (top 28)
  e_InvalidQuestion : ExcH G mg 2 "InvalidQuestion"
  f_Question_own_asked : Fld G 0 "own_asked" 0
  f_Question_own_columns : Fld G 0 "own_columns" 2
  f_Question_own_widths : Fld G 0 "own_widths" 5
  f_Question_own_lots : Fld G 0 "own_lots" 4
  n_any : mg "any" = none
  d_lots_by : DefH G mg "lots_by" (top 30)
  g_CLAUSE : ∃ t, mg "CLAUSE" = some (.str "clause" t)
  d_clause_text : DefH G mg "clause_text" (top 29)
  g_ASKED : ∃ t, mg "ASKED" = some (.str "asked" t)
  i_Question : MkH G mg 0 "Question" "Question.__init__" (inn 31 1)
  n_dict : mg "dict" = none
  g_MAX_TABLES : ∃ t, mg "MAX_TABLES" = some (.int 16 t)
  n_int : mg "int" = none
  n_bool : mg "bool" = none
  g_GREAT : ∃ t, mg "GREAT" = some (.int 1000000000000000000000000000000000000000000000000000000000000 t)
  d_is_integer : DefH G mg "is_integer" (top 14)
  d_is_count : DefH G mg "is_count" (top 15)
  g_MAX_WIDTH : ∃ t, mg "MAX_WIDTH" = some (.int 8 t)
  d_is_width : DefH G mg "is_width" (top 38)
  d_are_tables : DefH G mg "are_tables" (top 39)
  g_MAX_ROWS : ∃ t, mg "MAX_ROWS" = some (.int 3000 t)
  d_is_row : DefH G mg "is_row" (top 18)
  d_are_table_rows : DefH G mg "are_table_rows" (top 40)
  n_sum : mg "sum" = none
  d_are_rows_of : DefH G mg "are_rows_of" (top 41)
  e_InvalidStore : ExcH G mg 3 "InvalidStore"
  f_Store_own_tables : Fld G 1 "own_tables" 2
  f_Store_own_rows : Fld G 1 "own_rows" 1
  f_Store_own_pairs : Fld G 1 "own_pairs" 0
  i_Store : MkH G mg 1 "Store" "Store.__init__" (inn 44 1)
  g_Question : mg "Question" = some (.ref (G.cad 0))
  d_require_question : DefH G mg "require_question" (top 32)
  d_sets_of : DefH G mg "sets_of" (top 86)
  n_list : mg "list" = none
  d_cutting : DefH G mg "cutting" (top 95)
  d_is_link : DefH G mg "is_link" (top 87)
  e_InvalidOperation : ExcH G mg 5 "InvalidOperation"
  n_min : mg "min" = none
  n_max : mg "max" = none
  d_tree_of : DefH G mg "tree_of" (top 97)
  d_join_tree : DefH G mg "join_tree" (top 98)
  d_are_links : DefH G mg "are_links" (top 88)
  d_is_join_tree : DefH G mg "is_join_tree" (top 91)
  d_is_cutting : DefH G mg "is_cutting" (top 96)
  d_knot_of : DefH G mg "knot_of" (top 70)
  p_Question_columns : PrpH G 0 "columns" "Question.columns" (inn 31 6)
  g_CROWN : ∃ t, mg "CROWN" = some (.str "crown" t)
  g_MIN_CROWN : ∃ t, mg "MIN_CROWN" = some (.int 3 t)
  d_is_less : DefH G mg "is_less" (top 61)
  d_greatest_traces : DefH G mg "greatest_traces" (top 60)
  n_range : mg "range" = none
  d_without_each : DefH G mg "without_each" (top 62)
  d_is_crown : DefH G mg "is_crown" (top 63)
  g_RING : ∃ t, mg "RING" = some (.str "ring" t)
  g_MIN_RING : ∃ t, mg "MIN_RING" = some (.int 4 t)
  d_is_ring : DefH G mg "is_ring" (top 65)
  d_is_right_knot : DefH G mg "is_right_knot" (top 71)
  d_is_knot : DefH G mg "is_knot" (top 72)
  p_Question_is_plain : PrpH G 0 "is_plain" "Question.is_plain" (inn 31 8)
  d_require_plain : DefH G mg "require_plain" (top 73)
  e_InvalidKnot : ExcH G mg 4 "InvalidKnot"
  d_crown_choices : DefH G mg "crown_choices" (top 75)
  d_choices_in : DefH G mg "choices_in" (top 76)
  p_Question_tables : PrpH G 0 "tables" "Question.tables" (inn 31 7)
  d_stuck_by : DefH G mg "stuck_by" (top 77)
  d_stuck_store : DefH G mg "stuck_store" (top 78)
  g_Store : mg "Store" = some (.ref (G.cad 1))
  d_require_store : DefH G mg "require_store" (top 45)
  d_fits : DefH G mg "fits" (top 49)
  m_Store_require_table : MthH G 1 "require_table" "Store.require_table" (inn 44 6)
  m_Store_rows : MthH G 1 "rows" "Store.rows" (inn 44 7)
  d_parts_at : DefH G mg "parts_at" (top 80)
  d_do_agree : DefH G mg "do_agree" (top 81)
  d_all_agree : DefH G mg "all_agree" (top 82)
  d_is_stuck : DefH G mg "is_stuck" (top 84)
  d_are_agreeing : DefH G mg "are_agreeing" (top 83)
  d__law_question : DefH G mg "_law_question" (top 103)
  d__law_made : DefH G mg "_law_made" (top 104)
  d__law_written : DefH G mg "_law_written" (top 105)
  d__law_dice : DefH G mg "_law_dice" (top 100)
  d__law_roll : DefH G mg "_law_roll" (top 101)
  d__law_pick : DefH G mg "_law_pick" (top 102)
  d__law_word : DefH G mg "_law_word" (top 106)
  d__law_right : DefC G mg "_law_right" (top 107) (He.cT G.K ("_law_right", none)).1
  d_law : DefC G mg "law" (top 108) (He.cT G.K ("law", none)).1
  tne_law__law_right : (He.cT G.K ("law", none)).2 ≠ (He.cT G.K ("_law_right", none)).2
  n_abs : mg "abs" = none
  x_InvalidQuestion_InvalidQuestion : PySem.W.exmOne G.K (.ref (G.cad 2)) (.ref (G.cad 2)) = some true
  x_InvalidKnot_InvalidQuestion : PySem.W.exmOne G.K (.ref (G.cad 4)) (.ref (G.cad 2)) = some false
  x_InvalidKnot_InvalidKnot : PySem.W.exmOne G.K (.ref (G.cad 4)) (.ref (G.cad 4)) = some true
  x_InvalidStore_InvalidQuestion : PySem.W.exmOne G.K (.ref (G.cad 3)) (.ref (G.cad 2)) = some false
  x_InvalidStore_InvalidKnot : PySem.W.exmOne G.K (.ref (G.cad 3)) (.ref (G.cad 4)) = some false
  x_InvalidStore_InvalidStore : PySem.W.exmOne G.K (.ref (G.cad 3)) (.ref (G.cad 3)) = some true
  x_InvalidOperation_InvalidQuestion : PySem.W.exmOne G.K (.ref (G.cad 5)) (.ref (G.cad 2)) = some false
  x_InvalidOperation_InvalidKnot : PySem.W.exmOne G.K (.ref (G.cad 5)) (.ref (G.cad 4)) = some false
  x_InvalidOperation_InvalidStore : PySem.W.exmOne G.K (.ref (G.cad 5)) (.ref (G.cad 3)) = some false
  x_InvalidOperation_InvalidOperation : PySem.W.exmOne G.K (.ref (G.cad 5)) (.ref (G.cad 5)) = some true
  g_InvalidQuestion : mg "InvalidQuestion" = some (.ref (G.cad 2))
  g_InvalidKnot : mg "InvalidKnot" = some (.ref (G.cad 4))
  g_InvalidStore : mg "InvalidStore" = some (.ref (G.cad 3))
  g_InvalidOperation : mg "InvalidOperation" = some (.ref (G.cad 5))
  isi : Isi G isiTab isiCls
end K41
set_option maxHeartbeats 4000000
namespace K41
open PySem PySem.Spec PyProof.Rows L2 Ev
def N_roll : List Str := ["_law_dice_here", "_law_total", "_law_found", "_law_one", "_law_two"]
theorem S_roll : FnScope N_roll ["_law_dice_here", "_law_total"] (defScope (top 101)) := ⟨rfl, rfl, rfl, by decide +kernel, rfl, by decide +kernel, by decide +kernel⟩
section
variable {X : Cx} {a b : Expr} {ta tb : TE} {pos : Pos}
theorem ixl (ha : PE X a ta) (hb : PE X b tb) (hs : PlainIx b := by exact fun _ _ => rfl) : PE X (.Subscript a b pos) (tOp (rIxL X.K) ta tb) := pe_ix ix_list ha hb hs
end
theorem ok_roll {G : Gx} {mg : Str → Option Value} {base : Heap} (h : Hd G mg base) : CalS G mg base 1 "_law_roll" ["_law_dice_here", "_law_total"] spRoll := by
  obtain ⟨f, fd, F, hm⟩ := h.d__law_roll
  refine ⟨f, fd, F.ok S_roll (fun vs H Q E q => ?_) (fun cdv A outer s H vs Q E hr q => ⟨_, pss_cons (ps_if (pt_cmpR op_gt (ixl (pv 0) pe_int) pe_int rfl)
      (pss_cons (ps_set (i := 2) S_roll.nd rfl (Or.inl rfl) (pe_op op_mod (pe_callTy call_int1 rfl h.n_int rfl (pa_cons (ixl (pv 0) pe_int) pa_nil)) (pv 1)))
      (pss_cons (ps_asg (pe_op op_fdiv (ixl (pv 0) pe_int) (pv 1)) (pg_sub (pv 0) pe_int set_list))
      (pss_one (ps_ret (pv 2))))) pss_nil)
    (pss_cons (ps_asg (pe_op op_add (ixl (pv 0) pe_int) pe_int) (pg_sub (pv 0) pe_int set_list))
    (pss_cons (ps_set (i := 3) S_roll.nd rfl (Or.inl rfl) (pe_op op_mod (pe_callTy call_int1 rfl h.n_int rfl (pa_cons (pe_op op_add (ixl (pv 0) pe_int) (pe_op op_mul pe_int (ixl (pv 0) pe_int))) pa_nil)) pe_int))
    (pss_cons (ps_set (i := 4) S_roll.nd rfl (Or.inl rfl) (pe_op op_add (pe_op op_mul (pe_op op_mod (pe_callTy call_int1 rfl h.n_int rfl (pa_cons (pe_op op_add (pe_op op_mul (pv 3) (pv 3)) (pe_op op_mul pe_int (ixl (pv 0) pe_int))) pa_nil)) pe_int) pe_int) (pv 3)))
    (pss_one (ps_ret (pe_op op_mod (pe_callTy call_int1 rfl h.n_int rfl (pa_cons (pe_op op_fdiv (pv 4) pe_int) pa_nil)) (pv 1))))))), ?_⟩), hm, F.kp, F.bindsN fun _ _ _ _ _ _ us hl => match us, hl with | [_, _], _ => rfl⟩
  · obtain ⟨p, x, y, z, n, rfl, _⟩ := q
    rfl
  · obtain ⟨p, x, y, z, n, rfl, hn, hn2, hp, hx, hz, hq⟩ := q
    have at0 : ∀ (c d e : Int) (H' : Hp), H' p = some (.lst [.int c, .int d, .int e]) → SqL G.K H' p [.int c, .int d, .int e] := fun c d e H' g => Evl.sq_of g
    refine ⟨_, rfl, p, _, 0, _, rfl, rfl, at0 _ _ _ _ hp, rfl, x, 0, rfl, rfl, _, rfl, ?_⟩
    by_cases hx0 : 0 < x
    · rw [show decide (0 < x) = true from decide_eq_true hx0]
      refine iteT ?_
      refine ⟨_, rfl, p, _, 0, _, rfl, rfl, at0 _ _ _ _ hp, rfl, .inl ⟨x, rfl, _, rfl, x, n, rfl, rfl, hn, ?_⟩⟩
      refine ⟨_, rfl, p, _, 0, _, rfl, rfl, at0 _ _ _ _ hp, rfl, _, rfl, x, n, rfl, rfl, ⟨hn, hn2⟩, ?_⟩
      refine ⟨_, rfl, p, _, 0, 0, rfl, rfl, hp, rfl, ?_⟩
      exact ⟨_, rfl, hq (x % n) (x / n) z (Int.emod_nonneg _ (by omega)) (Int.emod_lt_of_pos _ hn) (Int.ediv_nonneg hx (by omega)) hz (by omega)⟩
    · rw [show decide (0 < x) = false from decide_eq_false hx0]
      refine iteF ?_
      have hu : ∀ c d e : Int, upd H p (.lst [.int c, .int d, .int e]) p = some (.lst [.int c, .int d, .int e]) := fun c d e => upd_same
      refine ⟨_, rfl, p, _, 2, _, rfl, rfl, at0 _ _ _ _ hp, rfl, z, 1, rfl, rfl, ?_⟩
      refine ⟨_, rfl, p, _, 2, 2, rfl, rfl, hp, rfl, ?_⟩
      refine ⟨_, rfl, p, _, 1, _, rfl, rfl, at0 _ _ _ _ upd_same, rfl, _, rfl, p, _, 2, _, rfl, rfl, at0 _ _ _ _ upd_same, rfl, 67867979, z + 1, rfl, rfl, .inl ⟨by decide, by decide⟩, y, _, rfl, rfl, .inl ⟨_, rfl, _, 2305843009213693907, rfl, rfl, (show (0 : Int) < 2305843009213693907 by decide), ?_⟩⟩
      have ho1 : 0 ≤ ((y + 67867979 * (z + 1)) % 2305843009213693907) := Int.emod_nonneg _ (by decide)
      have ho2 : ((y + 67867979 * (z + 1)) % 2305843009213693907) < 2305843009213693907 := Int.emod_lt_of_pos _ (by decide)
      refine ⟨_, rfl, _, rfl, ((y + 67867979 * (z + 1)) % 2305843009213693907), ((y + 67867979 * (z + 1)) % 2305843009213693907), rfl, rfl, .inl ⟨by omega, by omega⟩, _, rfl, p, _, 2, _, rfl, rfl, at0 _ _ _ _ upd_same, rfl, 97, z + 1, rfl, rfl, .inl ⟨by decide, by decide⟩, _, _, rfl, rfl, .inl ⟨_, rfl, _, 2305843009213693921, rfl, rfl, (show (0 : Int) < 2305843009213693921 by decide), _, 8191991, rfl, rfl, .inr ⟨by decide, by decide⟩, _, rfl, _, ((y + 67867979 * (z + 1)) % 2305843009213693907), rfl, rfl, ?_⟩⟩
      refine ⟨_, rfl, _, 65536, rfl, rfl, ⟨by decide, by decide⟩, .inl ⟨_, rfl, _, rfl, _, n, rfl, rfl, hn, ?_⟩⟩
      exact hq _ x (z + 1) (Int.emod_nonneg _ (by omega)) (Int.emod_lt_of_pos _ hn) hx (by omega) (by omega)
end K41
set_option maxHeartbeats 4000000
namespace K41
open PySem PySem.Spec PyProof.Rows L2 Ev
def N_pick : List Str := ["_law_dice_here", "_law_items"]
theorem S_pick : FnScope N_pick ["_law_dice_here", "_law_items"] (defScope (top 102)) := ⟨rfl, rfl, rfl, by decide +kernel, rfl, by decide +kernel, by decide +kernel⟩
theorem ok_pick {G : Gx} {mg : Str → Option Value} {base : Heap} (h : Hd G mg base) : CalS G mg base 2 "_law_pick" ["_law_dice_here", "_law_items"] spPick := by
  obtain ⟨f, fd, F, hm⟩ := h.d__law_pick
  obtain ⟨fr, fdr, Fr, hmr, hkr, hbr⟩ := ok_roll h
  refine ⟨f, fd, F.ok S_pick (fun vs H Q E q => ?_) (fun cdv A outer s H vs Q E hr q => ⟨_, pss_one (ps_ret (ixl (pv 1) (pe_call (E := fun _ _ _ => False) Fr hr rfl hmr hkr hbr .nil (passes_call LamX.takes0 (fun _ _ _ _ z => z)) (pa_cons (pv 0) (pa_cons (pe_callB call_len rfl h.n_len rfl (pa_cons (pv 1) pa_nil)) pa_nil))))), ?_⟩), hm, F.kp, F.bindsN fun _ _ _ _ _ _ us hl => match us, hl with | [_, _], _ => rfl⟩
  · obtain ⟨p, l, x, y, z, xs, rfl, _⟩ := q
    rfl
  · obtain ⟨p, l, x, y, z, xs, rfl, hlp, hp, hx, hz, hl, hne, hlen, hq⟩ := q
    have hpos : 0 < xs.length := List.length_pos_iff.mpr hne
    refine ⟨_, rfl, _, rfl, _, rfl, _, xs.length, rfl, .inl ⟨xs, Evl.sq_of hl, rfl⟩, ?_⟩
    refine ⟨p, x, y, z, xs.length, rfl, by omega, by omega, hp, hx, hz, fun r x' z' h1 h2 h3 h4 h5 => ?_⟩
    have hr2 : r.toNat < xs.length := by omega
    refine ⟨l, xs, r, xs[r.toNat], rfl, rfl, Evl.sq_of (by rw [upd_ne hlp]; exact hl), ?_, hq _ x' z' (List.getElem_mem hr2) h3 h4 h5⟩
    unfold atI ixN
    rw [if_pos h1, if_pos (by omega)]
    simp [List.getElem?_eq_getElem hr2]
end K41
set_option maxHeartbeats 4000000
namespace K41
open PySem PySem.Spec PyProof.Rows L2 Ev
def N_word : List Str := ["_law_call"]
theorem S_word : FnScope N_word ["_law_call"] (defScope (top 106)) := ⟨rfl, rfl, rfl, by decide +kernel, rfl, by decide +kernel, by decide +kernel⟩
def chn (G : Gx) : List (Addr × Str) := [(G.cad 2, "question"), (G.cad 4, "knot"), (G.cad 3, "store"), (G.cad 5, "operation")]
theorem nm_of {Y : Cx} {x : Str} {c : Value} (hg : Gl Y x) (hd : (x == ("__debug__" : Str)) = false) (hm : Y.mg x = some c) : Names Y x c := ⟨hg, hd, .inl hm⟩
theorem word_G {X : Cx} {G : Gx} {mg : Str → Option Value} {base : Heap} {k : Nat} (h : Hd G mg base) (gd : Gd X G mg base k) (q : Str) (g : Addr) (cdv : Value) :
    LamX.GivesTo X N_word "_law_word" (defScope (top 106)) g cdv (defBody (top 106)) "_law_call" q (TWord X.K (chn G) "fine") := by
  refine word_gives (h0 := fun _ => rfl) (hsw := fun _ _ _ _ => rfl) (fun s H Q => ?_)
  refine .cons (nm_of rfl (by decide +kernel) (gd.hm ▸ h.g_InvalidQuestion)) (fun _ _ _ _ _ _ _ => pss_one (ps_ret pe_str)) ?_
  refine .cons (nm_of rfl (by decide +kernel) (gd.hm ▸ h.g_InvalidKnot)) (fun _ _ _ _ _ _ _ => pss_one (ps_ret pe_str)) ?_
  refine .cons (nm_of rfl (by decide +kernel) (gd.hm ▸ h.g_InvalidStore)) (fun _ _ _ _ _ _ _ => pss_one (ps_ret pe_str)) ?_
  refine .cons (nm_of rfl (by decide +kernel) (gd.hm ▸ h.g_InvalidOperation)) (fun _ _ _ _ _ _ _ => pss_one (ps_ret pe_str)) ?_
  exact .nil
end K41
set_option maxHeartbeats 4000000
namespace K41
open PySem PySem.Spec PyProof.Rows L2 Ev
def N_require_question : List Str := ["value"]
theorem S_require_question : FnScope N_require_question ["value"] (defScope (top 32)) := ⟨rfl, rfl, rfl, by decide +kernel, rfl, by decide +kernel, by decide +kernel⟩
def w_require_question : {g : EnvS → Option O // ∀ G mg base, Hd G mg base → Body G mg base 0 N_require_question (top 32) g} := ⟨_, fun G mg base h _ _ _ _ _ _ _ _ gd tk pa =>
  (SSs.one (SS.ife (ST.not_ (SD.t (SD.cB gd (isi_ok h.isi gd) h.n_isinstance (SA.x (SD.v 0) (SA.x (SD.gC 0 gd h.g_Question) SA.nil))))) (SSs.one (SS.ra gd tk h.e_InvalidQuestion)) SSs.nil))⟩
def F_require_question : List D → Option R := runF N_require_question w_require_question.1
theorem c_require_question {G : Gx} {mg : Str → Option Value} {base : Heap} (h : Hd G mg base) : Cal G mg base 1 "require_question" ["value"] F_require_question := Cal.of h.d_require_question S_require_question (fun _ _ _ _ _ _ _ _ us hl => match us, hl with | [_], _ => rfl) (w_require_question.2 G mg base h)
end K41
set_option maxHeartbeats 4000000
namespace K41
open PySem PySem.Spec PyProof.Rows L2 Ev
def N_Question_clauses : List Str := ["self"]
theorem S_Question_clauses : FnScope N_Question_clauses ["self"] (defScope (inn 31 3)) := ⟨rfl, rfl, rfl, by decide +kernel, rfl, by decide +kernel, by decide +kernel⟩
def w_Question_clauses : {g : EnvS → Option O // ∀ G mg base, Hd G mg base → Body G mg base 0 N_Question_clauses (inn 31 3) g} := ⟨_, fun G mg base h _ _ _ _ _ _ _ _ gd tk pa =>
  (SSs.one (SS.ret (SD.at gd h.f_Question_own_clauses (SD.v 0))))⟩
def F_Question_clauses : List D → Option R := runF N_Question_clauses w_Question_clauses.1
theorem c_Question_clauses {G : Gx} {mg : Str → Option Value} {base : Heap} (h : Hd G mg base) : CalP G mg base 0 1 "clauses" "self" F_Question_clauses := CalP.of h.p_Question_clauses S_Question_clauses (fun _ _ _ _ _ _ _ _ us hl => match us, hl with | [_], _ => rfl) (w_Question_clauses.2 G mg base h)
end K41
set_option maxHeartbeats 4000000
namespace K41
open PySem PySem.Spec PyProof.Rows L2 Ev
def N_sets_of : List Str := ["question", "column", "table", "columns"]
theorem S_sets_of : FnScope N_sets_of ["question"] (defScope (top 86)) := ⟨rfl, rfl, rfl, by decide +kernel, rfl, by decide +kernel, by decide +kernel⟩
def w_sets_of : {g : EnvS → Option O // ∀ G mg base, Hd G mg base → Body G mg base 2 N_sets_of (top 86) g} := ⟨_, fun G mg base h _ _ _ _ _ _ _ _ gd tk pa =>
  (SSs.one (SS.ret (SF.sd (SF.lc1 [("table", 2), ("columns", 3)] gd (SI.val gd (SD.pr gd (c_Question_clauses h) (SD.v 0))) (fun _ _ _ _ _ => (PG.t (Gd.blk gd _ _ _ _ _) (PGs.x (PG.na (Gd.blk gd _ _ _ _ _) 2) (PGs.x (PG.na (Gd.blk gd _ _ _ _ _) 3) pgs_n)))) (fun _ _ _ _ _ => STs.nil) (fun _ _ _ _ _ => (SF.sd (SF.dk1 [("column", 1)] (Gd.blk gd _ _ _ _ _) (SI.val (Gd.blk gd _ _ _ _ _) (SD.v 3)) (fun _ _ _ _ _ => (PG.na (Gd.blk (Gd.blk gd _ _ _ _ _) _ _ _ _ _) 1)) (fun _ _ _ _ _ => STs.nil) (fun _ _ _ _ _ => (SD.v 1)) (fun _ _ _ _ _ => SD.bl))))))))⟩
def F_sets_of : List D → Option R := runF N_sets_of w_sets_of.1
theorem c_sets_of {G : Gx} {mg : Str → Option Value} {base : Heap} (h : Hd G mg base) : Cal G mg base 3 "sets_of" ["question"] F_sets_of := Cal.of h.d_sets_of S_sets_of (fun _ _ _ _ _ _ _ _ us hl => match us, hl with | [_], _ => rfl) (w_sets_of.2 G mg base h)
end K41
set_option maxHeartbeats 4000000
namespace K41
open PySem PySem.Spec PyProof.Rows L2 Ev
def N_cutting : List Str := ["question", "sets", "found", "left", "pair", "index"]
theorem S_cutting : FnScope N_cutting ["question"] (defScope (top 95)) := ⟨rfl, rfl, rfl, by decide +kernel, rfl, by decide +kernel, by decide +kernel⟩
def w_cutting : {g : EnvS → Option O // ∀ G mg base, Hd G mg base → Body G mg base 3 N_cutting (top 95) g} := ⟨_, fun G mg base h _ _ _ _ _ _ _ _ gd tk pa =>
  (SSs.cons (SS.ex (SE.fn gd (c_require_question h) tk (SA.x (SD.v 0) SA.nil)))
  (SSs.cons (SS.pr 1 2 gd (SA.x (SD.fn gd (c_sets_of h) (SA.x (SD.v 0) SA.nil)) (SA.x (SF.sd (SF.lst SA.nil)) SA.nil)))
  (SSs.cons (SS.st 3 gd (SF.sd (SF.cT gd (list_ok gd) h.n_list (SA.x SD.no SA.nil))))
  SSs.no)))⟩
def F_cutting : List D → Option R := runF N_cutting w_cutting.1
theorem c_cutting {G : Gx} {mg : Str → Option Value} {base : Heap} (h : Hd G mg base) : Cal G mg base 4 "cutting" ["question"] F_cutting := Cal.of h.d_cutting S_cutting (fun _ _ _ _ _ _ _ _ us hl => match us, hl with | [_], _ => rfl) (w_cutting.2 G mg base h)
end K41
set_option maxHeartbeats 4000000
namespace K41
open PySem PySem.Spec PyProof.Rows L2 Ev
def N_is_integer : List Str := ["value"]
theorem S_is_integer : FnScope N_is_integer ["value"] (defScope (top 14)) := ⟨rfl, rfl, rfl, by decide +kernel, rfl, by decide +kernel, by decide +kernel⟩
def w_is_integer : {g : EnvS → Option O // ∀ G mg base, Hd G mg base → Body G mg base 0 N_is_integer (top 14) g} := ⟨_, fun G mg base h _ _ _ _ _ _ _ _ gd tk pa =>
  (SSs.one (SS.ret (SD.and_ (SD.cB gd (isi_ok h.isi gd) h.n_isinstance (SA.x (SD.v 0) (SA.x (SD.gT gd h.n_int) SA.nil))) (SD.and_ (SD.not_ (SD.cB gd (isi_ok h.isi gd) h.n_isinstance (SA.x (SD.v 0) (SA.x (SD.gT gd h.n_bool) SA.nil)))) (SD.one (SD.ch gd (SD.neg (SD.gI gd h.g_GREAT)) (SD.v 0) (SD.gI gd h.g_GREAT)))))))⟩
def F_is_integer : List D → Option R := runF N_is_integer w_is_integer.1
theorem c_is_integer {G : Gx} {mg : Str → Option Value} {base : Heap} (h : Hd G mg base) : Cal G mg base 1 "is_integer" ["value"] F_is_integer := Cal.of h.d_is_integer S_is_integer (fun _ _ _ _ _ _ _ _ us hl => match us, hl with | [_], _ => rfl) (w_is_integer.2 G mg base h)
end K41
set_option maxHeartbeats 4000000
namespace K41
open PySem PySem.Spec PyProof.Rows L2 Ev
def N_is_count : List Str := ["value"]
theorem S_is_count : FnScope N_is_count ["value"] (defScope (top 15)) := ⟨rfl, rfl, rfl, by decide +kernel, rfl, by decide +kernel, by decide +kernel⟩
def w_is_count : {g : EnvS → Option O // ∀ G mg base, Hd G mg base → Body G mg base 1 N_is_count (top 15) g} := ⟨_, fun G mg base h _ _ _ _ _ _ _ _ gd tk pa =>
  (SSs.one (SS.ret (SD.and_ (SD.fn gd (c_is_integer h) (SA.x (SD.v 0) SA.nil)) (SD.one (SD.cm gd (SD.v 0) SD.int)))))⟩
def F_is_count : List D → Option R := runF N_is_count w_is_count.1
theorem c_is_count {G : Gx} {mg : Str → Option Value} {base : Heap} (h : Hd G mg base) : Cal G mg base 2 "is_count" ["value"] F_is_count := Cal.of h.d_is_count S_is_count (fun _ _ _ _ _ _ _ _ us hl => match us, hl with | [_], _ => rfl) (w_is_count.2 G mg base h)
end K41
set_option maxHeartbeats 4000000
namespace K41
open PySem PySem.Spec PyProof.Rows L2 Ev
def N_is_link : List Str := ["value"]
theorem S_is_link : FnScope N_is_link ["value"] (defScope (top 87)) := ⟨rfl, rfl, rfl, by decide +kernel, rfl, by decide +kernel, by decide +kernel⟩
def w_is_link : {g : EnvS → Option O // ∀ G mg base, Hd G mg base → Body G mg base 2 N_is_link (top 87) g} := ⟨_, fun G mg base h _ _ _ _ _ _ _ _ gd tk pa =>
  (SSs.cons (SS.ife (SW.st (SW.or_ (ST.not_ (SD.t (SD.cB gd (isi_ok h.isi gd) h.n_isinstance (SA.x (SD.v 0) (SA.x (SD.gT gd h.n_tuple) SA.nil))))) (SW.or_ (ST.cm gd (SD.cB gd (len_ok gd) h.n_len (SA.x (SD.v 0) SA.nil)) SD.int) (SW.or_ (ST.not_ (SD.t (SD.fn gd (c_is_count h) (SA.x (SD.ap gd (SD.v 0) SD.int) SA.nil)))) (SW.or1 (ST.not_ (SD.t (SD.fn gd (c_is_count h) (SA.x (SD.ap gd (SD.v 0) SD.int) SA.nil))))))))) (SSs.one (SS.ret SD.bl)) SSs.nil)
  (SSs.one (SS.ret (SD.cm gd (SD.ap gd (SD.v 0) SD.int) (SD.ap gd (SD.v 0) SD.int)))))⟩
def F_is_link : List D → Option R := runF N_is_link w_is_link.1
theorem c_is_link {G : Gx} {mg : Str → Option Value} {base : Heap} (h : Hd G mg base) : Cal G mg base 3 "is_link" ["value"] F_is_link := Cal.of h.d_is_link S_is_link (fun _ _ _ _ _ _ _ _ us hl => match us, hl with | [_], _ => rfl) (w_is_link.2 G mg base h)
end K41
set_option maxHeartbeats 4000000
namespace K41
open PySem PySem.Spec PyProof.Rows L2 Ev
def N_tree_of : List Str := ["cutting", "pair"]
theorem S_tree_of : FnScope N_tree_of ["cutting"] (defScope (top 97)) := ⟨rfl, rfl, rfl, by decide +kernel, rfl, by decide +kernel, by decide +kernel⟩
def w_tree_of : {g : EnvS → Option O // ∀ G mg base, Hd G mg base → Body G mg base 3 N_tree_of (top 97) g} := ⟨_, fun G mg base h _ _ _ _ _ _ _ _ gd tk pa =>
  (SSs.cons (SS.ife (SW.st (SW.or_ (ST.not_ (SD.t (SD.cB gd (isi_ok h.isi gd) h.n_isinstance (SA.x (SD.v 0) (SA.x (SD.gT gd h.n_tuple) SA.nil))))) (SW.or1 (ST.not_ (SD.t (SD.cB gd (all_ok gd) h.n_all (SA.x (SF.sd (SF.lc1 [("pair", 1)] gd (SI.val gd (SD.v 0)) (fun _ _ _ _ _ => (PG.na (Gd.blk gd _ _ _ _ _) 1)) (fun _ _ _ _ _ => STs.nil) (fun _ _ _ _ _ => (SD.fn (Gd.blk gd _ _ _ _ _) (c_is_link h) (SA.x (SD.v 1) SA.nil))))) SA.nil))))))) (SSs.one (SS.ra gd tk h.e_InvalidOperation)) SSs.nil)
  (SSs.one (SS.ret (SD.cT gd (tuple_ok gd) h.n_tuple (SA.x (SF.sd (SF.sT gd h.n_sorted (SC.tt1 [("pair", 1)] gd (SI.val gd (SD.v 0)) (fun _ _ _ _ _ => (PG.na (Gd.blk gd _ _ _ _ _) 1)) (fun _ _ _ _ _ => STs.nil) (fun _ _ _ _ _ => (SD.tup (SA.x (SD.cB (Gd.blk gd _ _ _ _ _) (min_ok (Gd.blk gd _ _ _ _ _)) h.n_min (SA.x (SD.v 1) SA.nil)) (SA.x (SD.cB (Gd.blk gd _ _ _ _ _) (max_ok (Gd.blk gd _ _ _ _ _)) h.n_max (SA.x (SD.v 1) SA.nil)) SA.nil))))))) SA.nil)))))⟩
def F_tree_of : List D → Option R := runF N_tree_of w_tree_of.1
theorem c_tree_of {G : Gx} {mg : Str → Option Value} {base : Heap} (h : Hd G mg base) : Cal G mg base 4 "tree_of" ["cutting"] F_tree_of := Cal.of h.d_tree_of S_tree_of (fun _ _ _ _ _ _ _ _ us hl => match us, hl with | [_], _ => rfl) (w_tree_of.2 G mg base h)
end K41
set_option maxHeartbeats 4000000
namespace K41
open PySem PySem.Spec PyProof.Rows L2 Ev
def N_join_tree : List Str := ["question", "found"]
theorem S_join_tree : FnScope N_join_tree ["question"] (defScope (top 98)) := ⟨rfl, rfl, rfl, by decide +kernel, rfl, by decide +kernel, by decide +kernel⟩
def w_join_tree : {g : EnvS → Option O // ∀ G mg base, Hd G mg base → Body G mg base 4 N_join_tree (top 98) g} := ⟨_, fun G mg base h _ _ _ _ _ _ _ _ gd tk pa =>
  (SSs.cons (SS.sr 1 gd (SE.fn gd (c_cutting h) tk (SA.x (SD.v 0) SA.nil)))
  (SSs.one (SS.ret (SD.ife (ST.cm gd (SD.v 1) SD.non) SD.non (SD.fn gd (c_tree_of h) (SA.x (SD.v 1) SA.nil))))))⟩
def F_join_tree : List D → Option R := runF N_join_tree w_join_tree.1
theorem c_join_tree {G : Gx} {mg : Str → Option Value} {base : Heap} (h : Hd G mg base) : Cal G mg base 5 "join_tree" ["question"] F_join_tree := Cal.of h.d_join_tree S_join_tree (fun _ _ _ _ _ _ _ _ us hl => match us, hl with | [_], _ => rfl) (w_join_tree.2 G mg base h)
end K41
set_option maxHeartbeats 4000000
namespace K41
open PySem PySem.Spec PyProof.Rows L2 Ev
def N_are_links : List Str := ["value", "many", "link", "one", "other", "i", "j"]
theorem S_are_links : FnScope N_are_links ["value", "many"] (defScope (top 88)) := ⟨rfl, rfl, rfl, by decide +kernel, rfl, by decide +kernel, by decide +kernel⟩
def w_are_links : {g : EnvS → Option O // ∀ G mg base, Hd G mg base → Body G mg base 3 N_are_links (top 88) g} := ⟨_, fun G mg base h _ _ _ _ _ _ _ _ gd tk pa =>
  (SSs.cons (SS.ife (SW.st (SW.or_ (ST.not_ (SD.t (SD.cB gd (isi_ok h.isi gd) h.n_isinstance (SA.x (SD.v 0) (SA.x (SD.gT gd h.n_tuple) SA.nil))))) (SW.or_ (ST.cm gd (SD.cB gd (len_ok gd) h.n_len (SA.x (SD.v 0) SA.nil)) (SD.bin gd (SD.v 1) SD.int)) (SW.or1 (ST.not_ (SD.t (SD.cB gd (all_ok gd) h.n_all (SA.x (SF.sd (SF.lc1 [("link", 2)] gd (SI.val gd (SD.v 0)) (fun _ _ _ _ _ => (PG.na (Gd.blk gd _ _ _ _ _) 2)) (fun _ _ _ _ _ => STs.nil) (fun _ _ _ _ _ => (SD.fn (Gd.blk gd _ _ _ _ _) (c_is_link h) (SA.x (SD.v 2) SA.nil))))) SA.nil)))))))) (SSs.one (SS.ret SD.bl)) SSs.nil)
  (SSs.cons (SS.ife (ST.not_ (SD.t (SD.cB gd (all_ok gd) h.n_all (SA.x (SF.sd (SF.lc1 [("one", 3), ("other", 4)] gd (SI.zp gd h.n_zip (SA.x (SD.v 0) (SA.x (SD.sl gd (SD.v 0) (SO.some SD.int) SO.none) SA.nil))) (fun _ _ _ _ _ => (PG.t (Gd.blk gd _ _ _ _ _) (PGs.x (PG.na (Gd.blk gd _ _ _ _ _) 3) (PGs.x (PG.na (Gd.blk gd _ _ _ _ _) 4) pgs_n)))) (fun _ _ _ _ _ => STs.nil) (fun _ _ _ _ _ => (SD.cm (Gd.blk gd _ _ _ _ _) (SD.v 3) (SD.v 4))))) SA.nil)))) (SSs.one (SS.ret SD.bl)) SSs.nil)
  (SSs.one (SS.ret (SD.cB gd (all_ok gd) h.n_all (SA.x (SF.sd (SF.lc1 [("i", 5), ("j", 6)] gd (SI.val gd (SD.v 0)) (fun _ _ _ _ _ => (PG.t (Gd.blk gd _ _ _ _ _) (PGs.x (PG.na (Gd.blk gd _ _ _ _ _) 5) (PGs.x (PG.na (Gd.blk gd _ _ _ _ _) 6) pgs_n)))) (fun _ _ _ _ _ => STs.nil) (fun _ _ _ _ _ => (SD.ch (Gd.blk gd _ _ _ _ _) (SD.v 5) (SD.v 6) (SD.v 1))))) SA.nil))))))⟩
def F_are_links : List D → Option R := runF N_are_links w_are_links.1
theorem c_are_links {G : Gx} {mg : Str → Option Value} {base : Heap} (h : Hd G mg base) : Cal G mg base 4 "are_links" ["value", "many"] F_are_links := Cal.of h.d_are_links S_are_links (fun _ _ _ _ _ _ _ _ us hl => match us, hl with | [_, _], _ => rfl) (w_are_links.2 G mg base h)
end K41
set_option maxHeartbeats 4000000
namespace K41
open PySem PySem.Spec PyProof.Rows L2 Ev
def N_is_join_tree : List Str := ["question", "value"]
theorem S_is_join_tree : FnScope N_is_join_tree ["question", "value"] (defScope (top 91)) := ⟨rfl, rfl, rfl, by decide +kernel, rfl, by decide +kernel, by decide +kernel⟩
def w_is_join_tree : {g : EnvS → Option O // ∀ G mg base, Hd G mg base → Body G mg base 4 N_is_join_tree (top 91) g} := ⟨_, fun G mg base h _ _ _ _ _ _ _ _ gd tk pa =>
  (SSs.cons (SS.ex (SE.fn gd (c_require_question h) tk (SA.x (SD.v 0) SA.nil)))
  (SSs.one (SS.ret (SD.and_ (SD.fn gd (c_are_links h) (SA.x (SD.v 1) (SA.x (SD.cB gd (len_ok gd) h.n_len (SA.x (SD.pr gd (c_Question_clauses h) (SD.v 0)) SA.nil)) SA.nil))) (SD.one SD.no)))))⟩
def F_is_join_tree : List D → Option R := runF N_is_join_tree w_is_join_tree.1
theorem c_is_join_tree {G : Gx} {mg : Str → Option Value} {base : Heap} (h : Hd G mg base) : Cal G mg base 5 "is_join_tree" ["question", "value"] F_is_join_tree := Cal.of h.d_is_join_tree S_is_join_tree (fun _ _ _ _ _ _ _ _ us hl => match us, hl with | [_, _], _ => rfl) (w_is_join_tree.2 G mg base h)
end K41
set_option maxHeartbeats 4000000
namespace K41
open PySem PySem.Spec PyProof.Rows L2 Ev
def N_is_cutting : List Str := ["question", "value", "sets", "pair", "left", "i", "j", "index"]
theorem S_is_cutting : FnScope N_is_cutting ["question", "value"] (defScope (top 96)) := ⟨rfl, rfl, rfl, by decide +kernel, rfl, by decide +kernel, by decide +kernel⟩
def w_is_cutting : {g : EnvS → Option O // ∀ G mg base, Hd G mg base → Body G mg base 3 N_is_cutting (top 96) g} := ⟨_, fun G mg base h _ _ _ _ _ _ _ _ gd tk pa =>
  (SSs.cons (SS.ex (SE.fn gd (c_require_question h) tk (SA.x (SD.v 0) SA.nil)))
  (SSs.cons (SS.sr 2 gd (SE.fn gd (c_sets_of h) tk (SA.x (SD.v 0) SA.nil)))
  (SSs.cons (SS.ife (SW.st (SW.or_ (ST.not_ (SD.t (SD.cB gd (isi_ok h.isi gd) h.n_isinstance (SA.x (SD.v 1) (SA.x (SD.gT gd h.n_tuple) SA.nil))))) (SW.or_ (ST.cm gd (SD.cB gd (len_ok gd) h.n_len (SA.x (SD.v 1) SA.nil)) (SD.bin gd (SD.cB gd (len_ok gd) h.n_len (SA.x (SD.v 2) SA.nil)) SD.int)) (SW.or1 (ST.not_ (SD.t (SD.cB gd (all_ok gd) h.n_all (SA.x (SF.sd (SF.lc1 [("pair", 3)] gd (SI.val gd (SD.v 1)) (fun _ _ _ _ _ => (PG.na (Gd.blk gd _ _ _ _ _) 3)) (fun _ _ _ _ _ => STs.nil) (fun _ _ _ _ _ => (SD.fn (Gd.blk gd _ _ _ _ _) (c_is_link h) (SA.x (SD.v 3) SA.nil))))) SA.nil)))))))) (SSs.one (SS.ret SD.bl)) SSs.nil)
  (SSs.cons (SS.st 4 gd (SF.sd (SF.cT gd (list_ok gd) h.n_list (SA.x SD.no SA.nil))))
  (SSs.cons (SS.fo gd pa (SI.val gd (SD.v 1)) (PG.t gd (PGs.x (PG.na gd 5) (PGs.x (PG.na gd 6) pgs_n))) (SSs.cons (SS.ife (SW.st (SW.or_ (ST.cm gd (SD.v 5) (SD.v 4)) (SW.or_ (ST.cm gd (SD.v 6) (SD.v 4)) (SW.or1 (ST.not_ (SD.t SD.no)))))) (SSs.one (SS.ret SD.bl)) SSs.nil)
  (SSs.one (SS.l1 4 [("index", 7)] gd (SI.val gd (SD.v 4)) (fun _ _ _ _ _ => (PG.na (Gd.blk gd _ _ _ _ _) 7)) (fun _ _ _ _ _ => (STs.one (ST.cm (Gd.blk gd _ _ _ _ _) (SD.v 7) (SD.v 5)))) (fun _ _ _ _ _ => (SD.v 7))))))
  (SSs.one (SS.ret SD.bl)))))))⟩
def F_is_cutting : List D → Option R := runF N_is_cutting w_is_cutting.1
theorem c_is_cutting {G : Gx} {mg : Str → Option Value} {base : Heap} (h : Hd G mg base) : Cal G mg base 4 "is_cutting" ["question", "value"] F_is_cutting := Cal.of h.d_is_cutting S_is_cutting (fun _ _ _ _ _ _ _ _ us hl => match us, hl with | [_, _], _ => rfl) (w_is_cutting.2 G mg base h)
end K41
set_option maxHeartbeats 4000000
namespace K41
open PySem PySem.Spec PyProof.Rows L2 Ev
def N_knot_of : List Str := ["question", "columns", "knot"]
theorem S_knot_of : FnScope N_knot_of ["question"] (defScope (top 70)) := ⟨rfl, rfl, rfl, by decide +kernel, rfl, by decide +kernel, by decide +kernel⟩
def w_knot_of : {g : EnvS → Option O // ∀ G mg base, Hd G mg base → Body G mg base 1 N_knot_of (top 70) g} := ⟨_, fun G mg base h _ _ _ _ _ _ _ _ gd tk pa =>
  (SSs.cons (SS.ex (SE.fn gd (c_require_question h) tk (SA.x (SD.v 0) SA.nil)))
  (SSs.cons (SS.fo gd pa (SI.val gd SD.no) (PG.na gd 1) SSs.no)
  (SSs.one (SS.ret SD.non))))⟩
def F_knot_of : List D → Option R := runF N_knot_of w_knot_of.1
theorem c_knot_of {G : Gx} {mg : Str → Option Value} {base : Heap} (h : Hd G mg base) : Cal G mg base 2 "knot_of" ["question"] F_knot_of := Cal.of h.d_knot_of S_knot_of (fun _ _ _ _ _ _ _ _ us hl => match us, hl with | [_], _ => rfl) (w_knot_of.2 G mg base h)
end K41
set_option maxHeartbeats 4000000
namespace K41
open PySem PySem.Spec PyProof.Rows L2 Ev
def N_is_name : List Str := ["value", "sign"]
theorem S_is_name : FnScope N_is_name ["value"] (defScope (top 16)) := ⟨rfl, rfl, rfl, by decide +kernel, rfl, by decide +kernel, by decide +kernel⟩
def w_is_name : {g : EnvS → Option O // ∀ G mg base, Hd G mg base → Body G mg base 0 N_is_name (top 16) g} := ⟨_, fun G mg base h _ _ _ _ _ _ _ _ gd tk pa =>
  (SSs.cons (SS.ife (SW.st (SW.or_ (ST.not_ (SD.t (SD.cB gd (isi_ok h.isi gd) h.n_isinstance (SA.x (SD.v 0) (SA.x (SD.gT gd h.n_str) SA.nil))))) (SW.or1 (ST.not_ (ST.ch gd SD.int (SD.cB gd (len_ok gd) h.n_len (SA.x (SD.v 0) SA.nil)) (SD.gI gd h.g_MAX_LETTERS)))))) (SSs.one (SS.ret SD.bl)) SSs.nil)
  (SSs.one (SS.ret (SD.cB gd (all_ok gd) h.n_all (SA.x (SF.sd (SF.lc1 [("sign", 1)] gd (SI.val gd (SD.v 0)) (fun _ _ _ _ _ => (PG.na (Gd.blk gd _ _ _ _ _) 1)) (fun _ _ _ _ _ => STs.nil) (fun _ _ _ _ _ => (SD.cm (Gd.blk gd _ _ _ _ _) (SD.v 1) (SD.gS (Gd.blk gd _ _ _ _ _) h.g_LETTERS))))) SA.nil)))))⟩
def F_is_name : List D → Option R := runF N_is_name w_is_name.1
theorem c_is_name {G : Gx} {mg : Str → Option Value} {base : Heap} (h : Hd G mg base) : Cal G mg base 1 "is_name" ["value"] F_is_name := Cal.of h.d_is_name S_is_name (fun _ _ _ _ _ _ _ _ us hl => match us, hl with | [_], _ => rfl) (w_is_name.2 G mg base h)
end K41
set_option maxHeartbeats 4000000
namespace K41
open PySem PySem.Spec PyProof.Rows L2 Ev
def N_are_names : List Str := ["value", "name"]
theorem S_are_names : FnScope N_are_names ["value"] (defScope (top 17)) := ⟨rfl, rfl, rfl, by decide +kernel, rfl, by decide +kernel, by decide +kernel⟩
def w_are_names : {g : EnvS → Option O // ∀ G mg base, Hd G mg base → Body G mg base 1 N_are_names (top 17) g} := ⟨_, fun G mg base h _ _ _ _ _ _ _ _ gd tk pa =>
  (SSs.one (SS.ret (SD.and_ (SD.cB gd (isi_ok h.isi gd) h.n_isinstance (SA.x (SD.v 0) (SA.x (SD.gT gd h.n_tuple) SA.nil))) (SD.one (SD.cB gd (all_ok gd) h.n_all (SA.x (SF.sd (SF.lc1 [("name", 1)] gd (SI.val gd (SD.v 0)) (fun _ _ _ _ _ => (PG.na (Gd.blk gd _ _ _ _ _) 1)) (fun _ _ _ _ _ => STs.nil) (fun _ _ _ _ _ => (SD.fn (Gd.blk gd _ _ _ _ _) (c_is_name h) (SA.x (SD.v 1) SA.nil))))) SA.nil))))))⟩
def F_are_names : List D → Option R := runF N_are_names w_are_names.1
theorem c_are_names {G : Gx} {mg : Str → Option Value} {base : Heap} (h : Hd G mg base) : Cal G mg base 2 "are_names" ["value"] F_are_names := Cal.of h.d_are_names S_are_names (fun _ _ _ _ _ _ _ _ us hl => match us, hl with | [_], _ => rfl) (w_are_names.2 G mg base h)
end K41
set_option maxHeartbeats 4000000
namespace K41
open PySem PySem.Spec PyProof.Rows L2 Ev
def N_Question_columns : List Str := ["self"]
theorem S_Question_columns : FnScope N_Question_columns ["self"] (defScope (inn 31 6)) := ⟨rfl, rfl, rfl, by decide +kernel, rfl, by decide +kernel, by decide +kernel⟩
def w_Question_columns : {g : EnvS → Option O // ∀ G mg base, Hd G mg base → Body G mg base 0 N_Question_columns (inn 31 6) g} := ⟨_, fun G mg base h _ _ _ _ _ _ _ _ gd tk pa =>
  (SSs.one (SS.ret (SD.at gd h.f_Question_own_columns (SD.v 0))))⟩
def F_Question_columns : List D → Option R := runF N_Question_columns w_Question_columns.1
theorem c_Question_columns {G : Gx} {mg : Str → Option Value} {base : Heap} (h : Hd G mg base) : CalP G mg base 0 1 "columns" "self" F_Question_columns := CalP.of h.p_Question_columns S_Question_columns (fun _ _ _ _ _ _ _ _ us hl => match us, hl with | [_], _ => rfl) (w_Question_columns.2 G mg base h)
end K41
set_option maxHeartbeats 4000000
namespace K41
open PySem PySem.Spec PyProof.Rows L2 Ev
def N_is_less : List Str := ["one", "other", "column"]
theorem S_is_less : FnScope N_is_less ["one", "other"] (defScope (top 61)) := ⟨rfl, rfl, rfl, by decide +kernel, rfl, by decide +kernel, by decide +kernel⟩
def w_is_less : {g : EnvS → Option O // ∀ G mg base, Hd G mg base → Body G mg base 0 N_is_less (top 61) g} := ⟨_, fun G mg base h _ _ _ _ _ _ _ _ gd tk pa =>
  (SSs.one (SS.ret (SD.and_ (SD.cm gd (SD.cB gd (len_ok gd) h.n_len (SA.x (SD.v 0) SA.nil)) (SD.cB gd (len_ok gd) h.n_len (SA.x (SD.v 1) SA.nil))) (SD.one (SD.cB gd (all_ok gd) h.n_all (SA.x (SF.sd (SF.lc1 [("column", 2)] gd (SI.val gd (SD.v 0)) (fun _ _ _ _ _ => (PG.na (Gd.blk gd _ _ _ _ _) 2)) (fun _ _ _ _ _ => STs.nil) (fun _ _ _ _ _ => (SD.cm (Gd.blk gd _ _ _ _ _) (SD.v 2) (SD.v 1))))) SA.nil))))))⟩
def F_is_less : List D → Option R := runF N_is_less w_is_less.1
theorem c_is_less {G : Gx} {mg : Str → Option Value} {base : Heap} (h : Hd G mg base) : Cal G mg base 1 "is_less" ["one", "other"] F_is_less := Cal.of h.d_is_less S_is_less (fun _ _ _ _ _ _ _ _ us hl => match us, hl with | [_, _], _ => rfl) (w_is_less.2 G mg base h)
end K41
set_option maxHeartbeats 4000000
namespace K41
open PySem PySem.Spec PyProof.Rows L2 Ev
def N_greatest_traces : List Str := ["question", "columns", "found", "table", "own", "column", "one", "other"]
theorem S_greatest_traces : FnScope N_greatest_traces ["question", "columns"] (defScope (top 60)) := ⟨rfl, rfl, rfl, by decide +kernel, rfl, by decide +kernel, by decide +kernel⟩
def w_greatest_traces : {g : EnvS → Option O // ∀ G mg base, Hd G mg base → Body G mg base 2 N_greatest_traces (top 60) g} := ⟨_, fun G mg base h _ _ _ _ _ _ _ _ gd tk pa =>
  (SSs.cons (SS.sw 2 gd (SF.newN gd))
  (SSs.cons (SS.fo gd pa (SI.val gd (SD.pr gd (c_Question_clauses h) (SD.v 0))) (PG.t gd (PGs.x (PG.na gd 3) (PGs.x (PG.na gd 4) pgs_n))) (SSs.one (SS.pn 2 gd (SD.cT gd (tuple_ok gd) h.n_tuple (SA.x (SF.sd (SF.cB gd (sorted_ok gd) h.n_sorted (SA.x (SF.sd (SF.lc1 [("column", 5)] gd (SI.val gd (SD.v 1)) (fun _ _ _ _ _ => (PG.na (Gd.blk gd _ _ _ _ _) 5)) (fun _ _ _ _ _ => (STs.one (ST.cm (Gd.blk gd _ _ _ _ _) (SD.v 5) (SD.v 4)))) (fun _ _ _ _ _ => (SD.v 5)))) SA.nil))) SA.nil)) SD.bl)))
  (SSs.one (SS.frz [2] (SS.ret (SF.sd (SF.cB gd (sorted_ok gd) h.n_sorted (SA.x (SF.sd (SF.lc1 [("one", 6)] gd (SI.val gd (SD.v 2)) (fun _ _ _ _ _ => (PG.na (Gd.blk gd _ _ _ _ _) 6)) (fun _ _ _ _ _ => (STs.one (ST.not_ (SD.t (SD.cB (Gd.blk gd _ _ _ _ _) (any_ok (Gd.blk gd _ _ _ _ _)) h.n_any (SA.x (SF.sd (SF.lc1 [("other", 7)] (Gd.blk gd _ _ _ _ _) (SI.val (Gd.blk gd _ _ _ _ _) (SD.v 2)) (fun _ _ _ _ _ => (PG.na (Gd.blk (Gd.blk gd _ _ _ _ _) _ _ _ _ _) 7)) (fun _ _ _ _ _ => STs.nil) (fun _ _ _ _ _ => (SD.fn (Gd.blk (Gd.blk gd _ _ _ _ _) _ _ _ _ _) (c_is_less h) (SA.x (SD.v 6) (SA.x (SD.v 7) SA.nil)))))) SA.nil)))))) (fun _ _ _ _ _ => (SD.v 6)))) SA.nil))))))))⟩
def F_greatest_traces : List D → Option R := runF N_greatest_traces w_greatest_traces.1
theorem c_greatest_traces {G : Gx} {mg : Str → Option Value} {base : Heap} (h : Hd G mg base) : Cal G mg base 3 "greatest_traces" ["question", "columns"] F_greatest_traces := Cal.of h.d_greatest_traces S_greatest_traces (fun _ _ _ _ _ _ _ _ us hl => match us, hl with | [_, _], _ => rfl) (w_greatest_traces.2 G mg base h)
end K41
set_option maxHeartbeats 4000000
namespace K41
open PySem PySem.Spec PyProof.Rows L2 Ev
def N_without_each : List Str := ["columns", "at"]
theorem S_without_each : FnScope N_without_each ["columns"] (defScope (top 62)) := ⟨rfl, rfl, rfl, by decide +kernel, rfl, by decide +kernel, by decide +kernel⟩
def w_without_each : {g : EnvS → Option O // ∀ G mg base, Hd G mg base → Body G mg base 0 N_without_each (top 62) g} := ⟨_, fun G mg base h _ _ _ _ _ _ _ _ gd tk pa =>
  (SSs.one (SS.ret (SF.sd (SF.cB gd (sorted_ok gd) h.n_sorted (SA.x (SF.sd (SF.lc1 [("at", 1)] gd (SI.r1 gd h.n_range (SA.x (SD.cB gd (len_ok gd) h.n_len (SA.x (SD.v 0) SA.nil)) SA.nil)) (fun _ _ _ _ _ => (PG.na (Gd.blk gd _ _ _ _ _) 1)) (fun _ _ _ _ _ => STs.nil) (fun _ _ _ _ _ => (SD.tup (SA.s (Gd.blk gd _ _ _ _ _) (SD.sl (Gd.blk gd _ _ _ _ _) (SD.v 0) SO.none (SO.some (SD.v 1))) (SA.s (Gd.blk gd _ _ _ _ _) (SD.sl (Gd.blk gd _ _ _ _ _) (SD.v 0) (SO.some (SD.bin (Gd.blk gd _ _ _ _ _) (SD.v 1) SD.int)) SO.none) SA.nil)))))) SA.nil)))))⟩
def F_without_each : List D → Option R := runF N_without_each w_without_each.1
theorem c_without_each {G : Gx} {mg : Str → Option Value} {base : Heap} (h : Hd G mg base) : Cal G mg base 1 "without_each" ["columns"] F_without_each := Cal.of h.d_without_each S_without_each (fun _ _ _ _ _ _ _ _ us hl => match us, hl with | [_], _ => rfl) (w_without_each.2 G mg base h)
end K41
set_option maxHeartbeats 4000000
namespace K41
open PySem PySem.Spec PyProof.Rows L2 Ev
def N_is_crown : List Str := ["question", "columns"]
theorem S_is_crown : FnScope N_is_crown ["question", "columns"] (defScope (top 63)) := ⟨rfl, rfl, rfl, by decide +kernel, rfl, by decide +kernel, by decide +kernel⟩
def w_is_crown : {g : EnvS → Option O // ∀ G mg base, Hd G mg base → Body G mg base 3 N_is_crown (top 63) g} := ⟨_, fun G mg base h _ _ _ _ _ _ _ _ gd tk pa =>
  (SSs.one (SS.ret (SD.and_ (SD.cm gd (SD.cB gd (len_ok gd) h.n_len (SA.x (SD.v 1) SA.nil)) (SD.gI gd h.g_MIN_CROWN)) (SD.one (SD.cm gd (SD.fn gd (c_greatest_traces h) (SA.x (SD.v 0) (SA.x (SD.v 1) SA.nil))) (SD.fn gd (c_without_each h) (SA.x (SD.v 1) SA.nil)))))))⟩
def F_is_crown : List D → Option R := runF N_is_crown w_is_crown.1
theorem c_is_crown {G : Gx} {mg : Str → Option Value} {base : Heap} (h : Hd G mg base) : Cal G mg base 4 "is_crown" ["question", "columns"] F_is_crown := Cal.of h.d_is_crown S_is_crown (fun _ _ _ _ _ _ _ _ us hl => match us, hl with | [_, _], _ => rfl) (w_is_crown.2 G mg base h)
end K41
set_option maxHeartbeats 4000000
namespace K41
open PySem PySem.Spec PyProof.Rows L2 Ev
def N_is_ring : List Str := ["question", "columns"]
theorem S_is_ring : FnScope N_is_ring ["question", "columns"] (defScope (top 65)) := ⟨rfl, rfl, rfl, by decide +kernel, rfl, by decide +kernel, by decide +kernel⟩
def w_is_ring : {g : EnvS → Option O // ∀ G mg base, Hd G mg base → Body G mg base 3 N_is_ring (top 65) g} := ⟨_, fun G mg base h _ _ _ _ _ _ _ _ gd tk pa =>
  (SSs.one (SS.ret (SD.and_ (SD.cm gd (SD.cB gd (len_ok gd) h.n_len (SA.x (SD.v 1) SA.nil)) (SD.gI gd h.g_MIN_RING)) (SD.one (SD.cm gd (SD.fn gd (c_greatest_traces h) (SA.x (SD.v 0) (SA.x (SD.v 1) SA.nil))) SD.no)))))⟩
def F_is_ring : List D → Option R := runF N_is_ring w_is_ring.1
theorem c_is_ring {G : Gx} {mg : Str → Option Value} {base : Heap} (h : Hd G mg base) : Cal G mg base 4 "is_ring" ["question", "columns"] F_is_ring := Cal.of h.d_is_ring S_is_ring (fun _ _ _ _ _ _ _ _ us hl => match us, hl with | [_, _], _ => rfl) (w_is_ring.2 G mg base h)
end K41
set_option maxHeartbeats 4000000
namespace K41
open PySem PySem.Spec PyProof.Rows L2 Ev
def N_is_right_knot : List Str := ["question", "value", "word", "columns", "column"]
theorem S_is_right_knot : FnScope N_is_right_knot ["question", "value"] (defScope (top 71)) := ⟨rfl, rfl, rfl, by decide +kernel, rfl, by decide +kernel, by decide +kernel⟩
def w_is_right_knot : {g : EnvS → Option O // ∀ G mg base, Hd G mg base → Body G mg base 4 N_is_right_knot (top 71) g} := ⟨_, fun G mg base h _ _ _ _ _ _ _ _ gd tk pa =>
  (SSs.cons (SS.ife (SW.st (SW.or_ (ST.not_ (SD.t (SD.cB gd (isi_ok h.isi gd) h.n_isinstance (SA.x (SD.v 1) (SA.x (SD.gT gd h.n_tuple) SA.nil))))) (SW.or_ (ST.cm gd (SD.cB gd (len_ok gd) h.n_len (SA.x (SD.v 1) SA.nil)) SD.int) (SW.or_ (ST.not_ (SD.t (SD.cB gd (isi_ok h.isi gd) h.n_isinstance (SA.x (SD.ap gd (SD.v 1) SD.int) (SA.x (SD.gT gd h.n_str) SA.nil))))) (SW.or1 (ST.not_ (SD.t (SD.fn gd (c_are_names h) (SA.x (SD.ap gd (SD.v 1) SD.int) SA.nil))))))))) (SSs.one (SS.ret SD.bl)) SSs.nil)
  (SSs.cons (SS.ag (SD.v 1) (PG.t gd (PGs.x (PG.na gd 2) (PGs.x (PG.na gd 3) pgs_n))))
  (SSs.cons (SS.ife (SW.st (SW.or_ (ST.not_ (SD.t (SD.cB gd (all_ok gd) h.n_all (SA.x (SF.sd (SF.lc1 [("column", 4)] gd (SI.val gd (SD.v 3)) (fun _ _ _ _ _ => (PG.na (Gd.blk gd _ _ _ _ _) 4)) (fun _ _ _ _ _ => STs.nil) (fun _ _ _ _ _ => (SD.cm (Gd.blk gd _ _ _ _ _) (SD.v 4) (SD.pr (Gd.blk gd _ _ _ _ _) (c_Question_columns h) (SD.v 0)))))) SA.nil)))) (SW.or1 (ST.cm gd (SD.lS gd h.n_len (SC.so gd h.n_set (SA.x (SD.v 3) SA.nil))) (SD.cB gd (len_ok gd) h.n_len (SA.x (SD.v 3) SA.nil)))))) (SSs.one (SS.ret SD.bl)) SSs.nil)
  (SSs.cons (SS.ife (ST.cm gd (SD.v 2) (SD.gS gd h.g_CROWN)) (SSs.one (SS.ret (SD.and_ (SD.cm gd (SD.v 3) (SD.cT gd (tuple_ok gd) h.n_tuple (SA.x (SF.sd (SF.cB gd (sorted_ok gd) h.n_sorted (SA.x (SD.v 3) SA.nil))) SA.nil))) (SD.one (SD.fn gd (c_is_crown h) (SA.x (SD.v 0) (SA.x (SD.v 3) SA.nil))))))) SSs.nil)
  (SSs.cons (SS.ife (SW.st (SW.or_ (ST.cm gd (SD.v 2) (SD.gS gd h.g_RING)) (SW.or1 (ST.not_ (SD.t (SD.fn gd (c_is_ring h) (SA.x (SD.v 0) (SA.x (SD.v 3) SA.nil)))))))) (SSs.one (SS.ret SD.bl)) SSs.nil)
  (SSs.one (SS.ret (SD.and_ (SD.cm gd (SD.ap gd (SD.v 3) SD.int) (SD.cB gd (min_ok gd) h.n_min (SA.x (SD.v 3) SA.nil))) (SD.one (SD.cm gd (SD.ap gd (SD.v 3) SD.int) (SD.ap gd (SD.v 3) (SD.neg SD.int))))))))))))⟩
def F_is_right_knot : List D → Option R := runF N_is_right_knot w_is_right_knot.1
theorem c_is_right_knot {G : Gx} {mg : Str → Option Value} {base : Heap} (h : Hd G mg base) : Cal G mg base 5 "is_right_knot" ["question", "value"] F_is_right_knot := Cal.of h.d_is_right_knot S_is_right_knot (fun _ _ _ _ _ _ _ _ us hl => match us, hl with | [_, _], _ => rfl) (w_is_right_knot.2 G mg base h)
end K41
set_option maxHeartbeats 4000000
namespace K41
open PySem PySem.Spec PyProof.Rows L2 Ev
def N_is_knot : List Str := ["question", "value"]
theorem S_is_knot : FnScope N_is_knot ["question", "value"] (defScope (top 72)) := ⟨rfl, rfl, rfl, by decide +kernel, rfl, by decide +kernel, by decide +kernel⟩
def w_is_knot : {g : EnvS → Option O // ∀ G mg base, Hd G mg base → Body G mg base 5 N_is_knot (top 72) g} := ⟨_, fun G mg base h _ _ _ _ _ _ _ _ gd tk pa =>
  (SSs.cons (SS.ex (SE.fn gd (c_require_question h) tk (SA.x (SD.v 0) SA.nil)))
  (SSs.one (SS.retR (SE.fn gd (c_is_right_knot h) tk (SA.x (SD.v 0) (SA.x (SD.v 1) SA.nil))))))⟩
def F_is_knot : List D → Option R := runF N_is_knot w_is_knot.1
theorem c_is_knot {G : Gx} {mg : Str → Option Value} {base : Heap} (h : Hd G mg base) : Cal G mg base 6 "is_knot" ["question", "value"] F_is_knot := Cal.of h.d_is_knot S_is_knot (fun _ _ _ _ _ _ _ _ us hl => match us, hl with | [_, _], _ => rfl) (w_is_knot.2 G mg base h)
end K41
set_option maxHeartbeats 4000000
namespace K41
open PySem PySem.Spec PyProof.Rows L2 Ev
def N_is_width : List Str := ["value"]
theorem S_is_width : FnScope N_is_width ["value"] (defScope (top 38)) := ⟨rfl, rfl, rfl, by decide +kernel, rfl, by decide +kernel, by decide +kernel⟩
def w_is_width : {g : EnvS → Option O // ∀ G mg base, Hd G mg base → Body G mg base 2 N_is_width (top 38) g} := ⟨_, fun G mg base h _ _ _ _ _ _ _ _ gd tk pa =>
  (SSs.one (SS.ret (SD.and_ (SD.fn gd (c_is_count h) (SA.x (SD.v 0) SA.nil)) (SD.one (SD.ch gd SD.int (SD.v 0) (SD.gI gd h.g_MAX_WIDTH))))))⟩
def F_is_width : List D → Option R := runF N_is_width w_is_width.1
theorem c_is_width {G : Gx} {mg : Str → Option Value} {base : Heap} (h : Hd G mg base) : Cal G mg base 3 "is_width" ["value"] F_is_width := Cal.of h.d_is_width S_is_width (fun _ _ _ _ _ _ _ _ us hl => match us, hl with | [_], _ => rfl) (w_is_width.2 G mg base h)
end K41
set_option maxHeartbeats 4000000
namespace K41
open PySem PySem.Spec PyProof.Rows L2 Ev
def N_are_tables : List Str := ["value", "table", "width"]
theorem S_are_tables : FnScope N_are_tables ["value"] (defScope (top 39)) := ⟨rfl, rfl, rfl, by decide +kernel, rfl, by decide +kernel, by decide +kernel⟩
def w_are_tables : {g : EnvS → Option O // ∀ G mg base, Hd G mg base → Body G mg base 3 N_are_tables (top 39) g} := ⟨_, fun G mg base h _ _ _ _ _ _ _ _ gd tk pa =>
  (SSs.cons (SS.ife (SW.st (SW.or_ (ST.not_ (SD.t (SD.cB gd (isi_ok h.isi gd) h.n_isinstance (SA.x (SD.v 0) (SA.x (SD.gT gd h.n_dict) SA.nil))))) (SW.or1 (ST.not_ (ST.ch gd SD.int (SD.cB gd (len_ok gd) h.n_len (SA.x (SD.v 0) SA.nil)) (SD.gI gd h.g_MAX_TABLES)))))) (SSs.one (SS.ret SD.bl)) SSs.nil)
  (SSs.one (SS.ret (SD.cB gd (all_ok gd) h.n_all (SA.x (SF.sd (SF.lc1 [("table", 1), ("width", 2)] gd (SI.it gd (SD.v 0)) (fun _ _ _ _ _ => (PG.t (Gd.blk gd _ _ _ _ _) (PGs.x (PG.na (Gd.blk gd _ _ _ _ _) 1) (PGs.x (PG.na (Gd.blk gd _ _ _ _ _) 2) pgs_n)))) (fun _ _ _ _ _ => STs.nil) (fun _ _ _ _ _ => (SD.and_ (SD.fn (Gd.blk gd _ _ _ _ _) (c_is_name h) (SA.x (SD.v 1) SA.nil)) (SD.one (SD.fn (Gd.blk gd _ _ _ _ _) (c_is_width h) (SA.x (SD.v 2) SA.nil))))))) SA.nil)))))⟩
def F_are_tables : List D → Option R := runF N_are_tables w_are_tables.1
theorem c_are_tables {G : Gx} {mg : Str → Option Value} {base : Heap} (h : Hd G mg base) : Cal G mg base 4 "are_tables" ["value"] F_are_tables := Cal.of h.d_are_tables S_are_tables (fun _ _ _ _ _ _ _ _ us hl => match us, hl with | [_], _ => rfl) (w_are_tables.2 G mg base h)
end K41
set_option maxHeartbeats 4000000
namespace K41
open PySem PySem.Spec PyProof.Rows L2 Ev
def N_is_row : List Str := ["value", "one"]
theorem S_is_row : FnScope N_is_row ["value"] (defScope (top 18)) := ⟨rfl, rfl, rfl, by decide +kernel, rfl, by decide +kernel, by decide +kernel⟩
def w_is_row : {g : EnvS → Option O // ∀ G mg base, Hd G mg base → Body G mg base 2 N_is_row (top 18) g} := ⟨_, fun G mg base h _ _ _ _ _ _ _ _ gd tk pa =>
  (SSs.one (SS.ret (SD.and_ (SD.cB gd (isi_ok h.isi gd) h.n_isinstance (SA.x (SD.v 0) (SA.x (SD.gT gd h.n_tuple) SA.nil))) (SD.and_ (SD.ch gd SD.int (SD.cB gd (len_ok gd) h.n_len (SA.x (SD.v 0) SA.nil)) (SD.gI gd h.g_MAX_WIDTH)) (SD.one (SD.cB gd (all_ok gd) h.n_all (SA.x (SF.sd (SF.lc1 [("one", 1)] gd (SI.val gd (SD.v 0)) (fun _ _ _ _ _ => (PG.na (Gd.blk gd _ _ _ _ _) 1)) (fun _ _ _ _ _ => STs.nil) (fun _ _ _ _ _ => (SD.fn (Gd.blk gd _ _ _ _ _) (c_is_count h) (SA.x (SD.v 1) SA.nil))))) SA.nil)))))))⟩
def F_is_row : List D → Option R := runF N_is_row w_is_row.1
theorem c_is_row {G : Gx} {mg : Str → Option Value} {base : Heap} (h : Hd G mg base) : Cal G mg base 3 "is_row" ["value"] F_is_row := Cal.of h.d_is_row S_is_row (fun _ _ _ _ _ _ _ _ us hl => match us, hl with | [_], _ => rfl) (w_is_row.2 G mg base h)
end K41
set_option maxHeartbeats 4000000
namespace K41
open PySem PySem.Spec PyProof.Rows L2 Ev
def N_are_table_rows : List Str := ["value", "width", "row"]
theorem S_are_table_rows : FnScope N_are_table_rows ["value", "width"] (defScope (top 40)) := ⟨rfl, rfl, rfl, by decide +kernel, rfl, by decide +kernel, by decide +kernel⟩
def w_are_table_rows : {g : EnvS → Option O // ∀ G mg base, Hd G mg base → Body G mg base 3 N_are_table_rows (top 40) g} := ⟨_, fun G mg base h _ _ _ _ _ _ _ _ gd tk pa =>
  (SSs.cons (SS.ife (SW.st (SW.or_ (ST.not_ (SD.t (SD.cB gd (isi_ok h.isi gd) h.n_isinstance (SA.x (SD.v 0) (SA.x (SD.gT gd h.n_tuple) SA.nil))))) (SW.or1 (ST.cm gd (SD.cB gd (len_ok gd) h.n_len (SA.x (SD.v 0) SA.nil)) (SD.gI gd h.g_MAX_ROWS))))) (SSs.one (SS.ret SD.bl)) SSs.nil)
  (SSs.one (SS.ret (SD.and_ (SD.cB gd (all_ok gd) h.n_all (SA.x (SF.sd (SF.lc1 [("row", 2)] gd (SI.val gd (SD.v 0)) (fun _ _ _ _ _ => (PG.na (Gd.blk gd _ _ _ _ _) 2)) (fun _ _ _ _ _ => STs.nil) (fun _ _ _ _ _ => (SD.and_ (SD.fn (Gd.blk gd _ _ _ _ _) (c_is_row h) (SA.x (SD.v 2) SA.nil)) (SD.one (SD.cm (Gd.blk gd _ _ _ _ _) (SD.cB (Gd.blk gd _ _ _ _ _) (len_ok (Gd.blk gd _ _ _ _ _)) h.n_len (SA.x (SD.v 2) SA.nil)) (SD.v 1))))))) SA.nil)) (SD.one (SD.cm gd (SD.lT gd h.n_len (SC.sot gd h.n_set (SA.x (SD.v 0) SA.nil))) (SD.cB gd (len_ok gd) h.n_len (SA.x (SD.v 0) SA.nil))))))))⟩
def F_are_table_rows : List D → Option R := runF N_are_table_rows w_are_table_rows.1
theorem c_are_table_rows {G : Gx} {mg : Str → Option Value} {base : Heap} (h : Hd G mg base) : Cal G mg base 4 "are_table_rows" ["value", "width"] F_are_table_rows := Cal.of h.d_are_table_rows S_are_table_rows (fun _ _ _ _ _ _ _ _ us hl => match us, hl with | [_, _], _ => rfl) (w_are_table_rows.2 G mg base h)
end K41
set_option maxHeartbeats 4000000
namespace K41
open PySem PySem.Spec PyProof.Rows L2 Ev
def N_are_rows_of : List Str := ["tables", "value", "table", "rows"]
theorem S_are_rows_of : FnScope N_are_rows_of ["tables", "value"] (defScope (top 41)) := ⟨rfl, rfl, rfl, by decide +kernel, rfl, by decide +kernel, by decide +kernel⟩
def w_are_rows_of : {g : EnvS → Option O // ∀ G mg base, Hd G mg base → Body G mg base 4 N_are_rows_of (top 41) g} := ⟨_, fun G mg base h _ _ _ _ _ _ _ _ gd tk pa =>
  (SSs.cons (SS.ife (SW.st (SW.or_ (ST.not_ (SD.t (SD.cB gd (isi_ok h.isi gd) h.n_isinstance (SA.x (SD.v 1) (SA.x (SD.gT gd h.n_dict) SA.nil))))) (SW.or1 (ST.not_ (SD.t (SD.cB gd (all_ok gd) h.n_all (SA.x (SF.sd (SF.lc1 [("table", 2)] gd (SI.val gd (SD.v 1)) (fun _ _ _ _ _ => (PG.na (Gd.blk gd _ _ _ _ _) 2)) (fun _ _ _ _ _ => STs.nil) (fun _ _ _ _ _ => (SD.and_ (SD.fn (Gd.blk gd _ _ _ _ _) (c_is_name h) (SA.x (SD.v 2) SA.nil)) (SD.one (SD.cm (Gd.blk gd _ _ _ _ _) (SD.v 2) (SD.v 0))))))) SA.nil))))))) (SSs.one (SS.ret SD.bl)) SSs.nil)
  (SSs.cons (SS.ife (ST.not_ (SD.t (SD.cB gd (all_ok gd) h.n_all (SA.x (SF.sd (SF.lc1 [("table", 2), ("rows", 3)] gd (SI.it gd (SD.v 1)) (fun _ _ _ _ _ => (PG.t (Gd.blk gd _ _ _ _ _) (PGs.x (PG.na (Gd.blk gd _ _ _ _ _) 2) (PGs.x (PG.na (Gd.blk gd _ _ _ _ _) 3) pgs_n)))) (fun _ _ _ _ _ => STs.nil) (fun _ _ _ _ _ => (SD.fn (Gd.blk gd _ _ _ _ _) (c_are_table_rows h) (SA.x (SD.v 3) (SA.x (SD.ap (Gd.blk gd _ _ _ _ _) (SD.v 0) (SD.v 2)) SA.nil)))))) SA.nil)))) (SSs.one (SS.ret SD.bl)) SSs.nil)
  (SSs.one (SS.ret (SD.cm gd (SD.cB gd (sum_ok gd) h.n_sum (SA.x (SF.sd (SF.lc1 [("rows", 3)] gd (SI.vl gd (SD.v 1)) (fun _ _ _ _ _ => (PG.na (Gd.blk gd _ _ _ _ _) 3)) (fun _ _ _ _ _ => STs.nil) (fun _ _ _ _ _ => (SD.cB (Gd.blk gd _ _ _ _ _) (len_ok (Gd.blk gd _ _ _ _ _)) h.n_len (SA.x (SD.v 3) SA.nil))))) SA.nil)) (SD.gI gd h.g_MAX_ROWS))))))⟩
def F_are_rows_of : List D → Option R := runF N_are_rows_of w_are_rows_of.1
theorem c_are_rows_of {G : Gx} {mg : Str → Option Value} {base : Heap} (h : Hd G mg base) : Cal G mg base 5 "are_rows_of" ["tables", "value"] F_are_rows_of := Cal.of h.d_are_rows_of S_are_rows_of (fun _ _ _ _ _ _ _ _ us hl => match us, hl with | [_, _], _ => rfl) (w_are_rows_of.2 G mg base h)
end K41
set_option maxHeartbeats 4000000
namespace K41
open PySem PySem.Spec PyProof.Rows L2 Ev
def N_Store_init : List Str := ["self", "tables", "rows", "table", "some", "row"]
theorem S_Store_init : FnScope N_Store_init ["self", "tables", "rows"] (defScope (inn 44 1)) := ⟨rfl, rfl, rfl, by decide +kernel, rfl, by decide +kernel, by decide +kernel⟩
def w_Store_init : {g : Ev.Env → List D → Option OI // ∀ G mg base, Hd G mg base → BodyI G mg base 1 5 N_Store_init (inn 44 1) g} := ⟨_, fun G mg base h _ _ _ _ _ _ _ _ gd tk =>
  (SJs.cons (SJ.ifRaise (g := gSkip) (SW.st (SW.or_ (ST.not_ (SD.t (SD.fn gd (c_are_tables h) (SA.x (SD.v 1) SA.nil)))) (SW.or1 (ST.not_ (SD.t (SD.fn gd (c_are_rows_of h) (SA.x (SD.v 1) (SA.x (SD.v 2) SA.nil)))))))) (SS.ra gd tk h.e_InvalidStore))
  (SJs.cons (SJ.fl gd h.f_Store_own_tables (SF.sd (SF.dk1 [("table", 3)] gd (SI.val gd (SF.sd (SF.cB gd (sorted_ok gd) h.n_sorted (SA.x (SD.v 1) SA.nil)))) (fun _ _ _ _ _ => (PG.na (Gd.blk gd _ _ _ _ _) 3)) (fun _ _ _ _ _ => STs.nil) (fun _ _ _ _ _ => (SD.v 3)) (fun _ _ _ _ _ => (SD.ap (Gd.blk gd _ _ _ _ _) (SD.v 1) (SD.v 3))))))
  (SJs.cons (SJ.fl gd h.f_Store_own_rows (SF.sd (SF.dk1 [("table", 3)] gd (SI.val gd (SD.at gd h.f_Store_own_tables (SD.v 0))) (fun _ _ _ _ _ => (PG.na (Gd.blk gd _ _ _ _ _) 3)) (fun _ _ _ _ _ => STs.nil) (fun _ _ _ _ _ => (SD.v 3)) (fun _ _ _ _ _ => (SD.cT (Gd.blk gd _ _ _ _ _) (tuple_ok (Gd.blk gd _ _ _ _ _)) h.n_tuple (SA.x (SF.sd (SF.cB (Gd.blk gd _ _ _ _ _) (sorted_ok (Gd.blk gd _ _ _ _ _)) h.n_sorted (SA.x (SD.g2 (Gd.blk gd _ _ _ _ _) (SD.v 2) (SD.v 3) (SD.tup SA.nil)) SA.nil))) SA.nil))))))
  (SJs.cons (SJ.fl gd h.f_Store_own_pairs (SF.sd (SF.dn2 [("table", 3), ("some", 4), ("row", 5)] [5] gd (SI.it gd (SD.at gd h.f_Store_own_rows (SD.v 0))) (fun _ _ _ _ _ => (PG.t (Gd.blk gd _ _ _ _ _) (PGs.x (PG.na (Gd.blk gd _ _ _ _ _) 3) (PGs.x (PG.na (Gd.blk gd _ _ _ _ _) 4) pgs_n)))) (fun _ _ _ _ _ => STs.nil) (fun _ _ _ _ _ => (SI.val (Gd.blk gd _ _ _ _ _) (SD.v 4))) (fun _ _ _ _ _ => (PG.na (Gd.blk gd _ _ _ _ _) 5)) (fun _ _ _ _ _ => STs.nil) (fun _ _ _ _ _ => (SD.tup (SA.x (SD.v 3) (SA.x (SD.v 5) SA.nil)))) (fun _ _ _ _ _ => SD.bl))))
  SJs.nil))))⟩
def F_Store_init : List D → Option R := runI 1 N_Store_init w_Store_init.1
theorem c_Store_init {G : Gx} {mg : Str → Option Value} {base : Heap} (h : Hd G mg base) : CalI G mg base 1 6 "Store" "self" ["tables", "rows"] F_Store_init := CalI.of h.i_Store S_Store_init (fun _ _ _ _ _ _ _ _ us hl => match us, hl with | [_, _, _], _ => rfl) (w_Store_init.2 G mg base h)
end K41
set_option maxHeartbeats 4000000
namespace K41
open PySem PySem.Spec PyProof.Rows L2 Ev
def N_Question_is_plain : List Str := ["self"]
theorem S_Question_is_plain : FnScope N_Question_is_plain ["self"] (defScope (inn 31 8)) := ⟨rfl, rfl, rfl, by decide +kernel, rfl, by decide +kernel, by decide +kernel⟩
def w_Question_is_plain : {g : EnvS → Option O // ∀ G mg base, Hd G mg base → Body G mg base 0 N_Question_is_plain (inn 31 8) g} := ⟨_, fun G mg base h _ _ _ _ _ _ _ _ gd tk pa =>
  (SSs.one (SS.ret (SD.cm gd (SD.cB gd (len_ok gd) h.n_len (SA.x (SD.at gd h.f_Question_own_widths (SD.v 0)) SA.nil)) (SD.cB gd (len_ok gd) h.n_len (SA.x (SD.at gd h.f_Question_own_clauses (SD.v 0)) SA.nil)))))⟩
def F_Question_is_plain : List D → Option R := runF N_Question_is_plain w_Question_is_plain.1
theorem c_Question_is_plain {G : Gx} {mg : Str → Option Value} {base : Heap} (h : Hd G mg base) : CalP G mg base 0 1 "is_plain" "self" F_Question_is_plain := CalP.of h.p_Question_is_plain S_Question_is_plain (fun _ _ _ _ _ _ _ _ us hl => match us, hl with | [_], _ => rfl) (w_Question_is_plain.2 G mg base h)
end K41
set_option maxHeartbeats 4000000
namespace K41
open PySem PySem.Spec PyProof.Rows L2 Ev
def N_require_plain : List Str := ["question"]
theorem S_require_plain : FnScope N_require_plain ["question"] (defScope (top 73)) := ⟨rfl, rfl, rfl, by decide +kernel, rfl, by decide +kernel, by decide +kernel⟩
def w_require_plain : {g : EnvS → Option O // ∀ G mg base, Hd G mg base → Body G mg base 2 N_require_plain (top 73) g} := ⟨_, fun G mg base h _ _ _ _ _ _ _ _ gd tk pa =>
  (SSs.cons (SS.ex (SE.fn gd (c_require_question h) tk (SA.x (SD.v 0) SA.nil)))
  (SSs.one (SS.ife (ST.not_ (SD.t (SD.pr gd (c_Question_is_plain h) (SD.v 0)))) (SSs.one (SS.ra gd tk h.e_InvalidOperation)) SSs.nil)))⟩
def F_require_plain : List D → Option R := runF N_require_plain w_require_plain.1
theorem c_require_plain {G : Gx} {mg : Str → Option Value} {base : Heap} (h : Hd G mg base) : Cal G mg base 3 "require_plain" ["question"] F_require_plain := Cal.of h.d_require_plain S_require_plain (fun _ _ _ _ _ _ _ _ us hl => match us, hl with | [_], _ => rfl) (w_require_plain.2 G mg base h)
end K41
set_option maxHeartbeats 4000000
namespace K41
open PySem PySem.Spec PyProof.Rows L2 Ev
def N_crown_choices : List Str := ["columns", "own", "inner", "column", "found", "one"]
theorem S_crown_choices : FnScope N_crown_choices ["columns", "own"] (defScope (top 75)) := ⟨rfl, rfl, rfl, by decide +kernel, rfl, by decide +kernel, by decide +kernel⟩
def w_crown_choices : {g : EnvS → Option O // ∀ G mg base, Hd G mg base → Body G mg base 0 N_crown_choices (top 75) g} := ⟨_, fun G mg base h _ _ _ _ _ _ _ _ gd tk pa =>
  (SSs.cons (SS.sw 2 gd (SF.lc1 [("column", 3)] gd (SI.val gd (SD.v 0)) (fun _ _ _ _ _ => (PG.na (Gd.blk gd _ _ _ _ _) 3)) (fun _ _ _ _ _ => (STs.one (ST.cm (Gd.blk gd _ _ _ _ _) (SD.v 3) (SD.v 1)))) (fun _ _ _ _ _ => (SD.v 3))))
  (SSs.cons (SS.frz [2] (SS.l1 4 [("one", 5)] gd (SI.val gd (SD.v 2)) (fun _ _ _ _ _ => (PG.na (Gd.blk gd _ _ _ _ _) 5)) (fun _ _ _ _ _ => STs.nil) (fun _ _ _ _ _ => (SF.sd (SF.dk1 [("column", 3)] (Gd.blk gd _ _ _ _ _) (SI.val (Gd.blk gd _ _ _ _ _) (SD.v 2)) (fun _ _ _ _ _ => (PG.na (Gd.blk (Gd.blk gd _ _ _ _ _) _ _ _ _ _) 3)) (fun _ _ _ _ _ => STs.nil) (fun _ _ _ _ _ => (SD.v 3)) (fun _ _ _ _ _ => (SD.cT (Gd.blk (Gd.blk gd _ _ _ _ _) _ _ _ _ _) int_ok h.n_int (SA.x (SD.cm (Gd.blk (Gd.blk gd _ _ _ _ _) _ _ _ _ _) (SD.v 3) (SD.v 5)) SA.nil))))))))
  (SSs.one (SS.frz [2, 4] (SS.ret (SD.ife (ST.cm gd (SD.cB gd (len_ok gd) h.n_len (SA.x (SD.v 2) SA.nil)) (SD.bin gd (SD.cB gd (len_ok gd) h.n_len (SA.x (SD.v 0) SA.nil)) SD.int)) (SD.v 4) (SF.sd (SF.lst (SA.s gd (SD.v 4) (SA.x (SF.sd (SF.dk1 [("column", 3)] gd (SI.val gd (SD.v 2)) (fun _ _ _ _ _ => (PG.na (Gd.blk gd _ _ _ _ _) 3)) (fun _ _ _ _ _ => STs.nil) (fun _ _ _ _ _ => (SD.v 3)) (fun _ _ _ _ _ => SD.int))) SA.nil))))))))))⟩
def F_crown_choices : List D → Option R := runF N_crown_choices w_crown_choices.1
theorem c_crown_choices {G : Gx} {mg : Str → Option Value} {base : Heap} (h : Hd G mg base) : Cal G mg base 1 "crown_choices" ["columns", "own"] F_crown_choices := Cal.of h.d_crown_choices S_crown_choices (fun _ _ _ _ _ _ _ _ us hl => match us, hl with | [_, _], _ => rfl) (w_crown_choices.2 G mg base h)
end K41
set_option maxHeartbeats 4000000
namespace K41
open PySem PySem.Spec PyProof.Rows L2 Ev
def N_choices_in : List Str := ["knot", "own"]
theorem S_choices_in : FnScope N_choices_in ["knot", "own"] (defScope (top 76)) := ⟨rfl, rfl, rfl, by decide +kernel, rfl, by decide +kernel, by decide +kernel⟩
def w_choices_in : {g : EnvS → Option O // ∀ G mg base, Hd G mg base → Body G mg base 1 N_choices_in (top 76) g} := ⟨_, fun G mg base h _ _ _ _ _ _ _ _ gd tk pa =>
  (SSs.one (SS.ret (SD.ife (ST.cm gd (SD.ap gd (SD.v 0) SD.int) (SD.gS gd h.g_RING)) SD.no (SD.fn gd (c_crown_choices h) (SA.x (SD.ap gd (SD.v 0) SD.int) (SA.x (SD.v 1) SA.nil))))))⟩
def F_choices_in : List D → Option R := runF N_choices_in w_choices_in.1
theorem c_choices_in {G : Gx} {mg : Str → Option Value} {base : Heap} (h : Hd G mg base) : Cal G mg base 2 "choices_in" ["knot", "own"] F_choices_in := Cal.of h.d_choices_in S_choices_in (fun _ _ _ _ _ _ _ _ us hl => match us, hl with | [_, _], _ => rfl) (w_choices_in.2 G mg base h)
end K41
set_option maxHeartbeats 4000000
namespace K41
open PySem PySem.Spec PyProof.Rows L2 Ev
def N_Question_tables : List Str := ["self"]
theorem S_Question_tables : FnScope N_Question_tables ["self"] (defScope (inn 31 7)) := ⟨rfl, rfl, rfl, by decide +kernel, rfl, by decide +kernel, by decide +kernel⟩
def w_Question_tables : {g : EnvS → Option O // ∀ G mg base, Hd G mg base → Body G mg base 0 N_Question_tables (inn 31 7) g} := ⟨_, fun G mg base h _ _ _ _ _ _ _ _ gd tk pa =>
  (SSs.one (SS.ret (SF.sd (SF.cT gd dict_ok h.n_dict (SA.x (SD.at gd h.f_Question_own_widths (SD.v 0)) SA.nil)))))⟩
def F_Question_tables : List D → Option R := runF N_Question_tables w_Question_tables.1
theorem c_Question_tables {G : Gx} {mg : Str → Option Value} {base : Heap} (h : Hd G mg base) : CalP G mg base 0 1 "tables" "self" F_Question_tables := CalP.of h.p_Question_tables S_Question_tables (fun _ _ _ _ _ _ _ _ us hl => match us, hl with | [_], _ => rfl) (w_Question_tables.2 G mg base h)
end K41
set_option maxHeartbeats 4000000
namespace K41
open PySem PySem.Spec PyProof.Rows L2 Ev
def N_stuck_by : List Str := ["question", "knot", "rows", "table", "own", "choices", "column", "chosen"]
theorem S_stuck_by : FnScope N_stuck_by ["question", "knot"] (defScope (top 77)) := ⟨rfl, rfl, rfl, by decide +kernel, rfl, by decide +kernel, by decide +kernel⟩
def w_stuck_by : {g : EnvS → Option O // ∀ G mg base, Hd G mg base → Body G mg base 7 N_stuck_by (top 77) g} := ⟨_, fun G mg base h _ _ _ _ _ _ _ _ gd tk pa =>
  (SSs.cons (SS.ex (SE.fn gd (c_require_plain h) tk (SA.x (SD.v 0) SA.nil)))
  (SSs.cons (SS.ife (ST.not_ (SD.t (SD.fn gd (c_is_right_knot h) (SA.x (SD.v 0) (SA.x (SD.v 1) SA.nil))))) (SSs.one (SS.ra gd tk h.e_InvalidKnot)) SSs.nil)
  (SSs.cons (SS.sw 2 gd SF.newK)
  (SSs.cons (SS.fo gd pa (SI.val gd (SD.pr gd (c_Question_clauses h) (SD.v 0))) (PG.t gd (PGs.x (PG.na gd 3) (PGs.x (PG.na gd 4) pgs_n))) (SSs.cons (SS.sr 5 gd (SE.fn gd (c_choices_in h) tk (SA.x (SD.v 1) (SA.x (SD.v 4) SA.nil))))
  (SSs.one (SS.pk 2 gd (SD.v 3) (SD.cT gd (tuple_ok gd) h.n_tuple (SA.x (SF.sd (SF.lc1 [("chosen", 7)] gd (SI.val gd (SD.v 5)) (fun _ _ _ _ _ => (PG.na (Gd.blk gd _ _ _ _ _) 7)) (fun _ _ _ _ _ => STs.nil) (fun _ _ _ _ _ => (SD.cT (Gd.blk gd _ _ _ _ _) (tuple_ok (Gd.blk gd _ _ _ _ _)) h.n_tuple (SA.x (SF.sd (SF.lc1 [("column", 6)] (Gd.blk gd _ _ _ _ _) (SI.val (Gd.blk gd _ _ _ _ _) (SD.v 4)) (fun _ _ _ _ _ => (PG.na (Gd.blk (Gd.blk gd _ _ _ _ _) _ _ _ _ _) 6)) (fun _ _ _ _ _ => STs.nil) (fun _ _ _ _ _ => (SD.g2 (Gd.blk (Gd.blk gd _ _ _ _ _) _ _ _ _ _) (SD.v 7) (SD.v 6) SD.int)))) SA.nil))))) SA.nil))))))
  (SSs.one (SS.frz [2] (SS.retR (SE.mk gd (c_Store_init h) tk (SA.x (SD.pr gd (c_Question_tables h) (SD.v 0)) (SA.x (SD.v 2) SA.nil))))))))))⟩
def F_stuck_by : List D → Option R := runF N_stuck_by w_stuck_by.1
theorem c_stuck_by {G : Gx} {mg : Str → Option Value} {base : Heap} (h : Hd G mg base) : Cal G mg base 8 "stuck_by" ["question", "knot"] F_stuck_by := Cal.of h.d_stuck_by S_stuck_by (fun _ _ _ _ _ _ _ _ us hl => match us, hl with | [_, _], _ => rfl) (w_stuck_by.2 G mg base h)
end K41
set_option maxHeartbeats 4000000
namespace K41
open PySem PySem.Spec PyProof.Rows L2 Ev
def N_stuck_store : List Str := ["question", "knot"]
theorem S_stuck_store : FnScope N_stuck_store ["question"] (defScope (top 78)) := ⟨rfl, rfl, rfl, by decide +kernel, rfl, by decide +kernel, by decide +kernel⟩
def w_stuck_store : {g : EnvS → Option O // ∀ G mg base, Hd G mg base → Body G mg base 8 N_stuck_store (top 78) g} := ⟨_, fun G mg base h _ _ _ _ _ _ _ _ gd tk pa =>
  (SSs.cons (SS.ex (SE.fn gd (c_require_plain h) tk (SA.x (SD.v 0) SA.nil)))
  (SSs.cons (SS.sr 1 gd (SE.fn gd (c_knot_of h) tk (SA.x (SD.v 0) SA.nil)))
  (SSs.one (SS.ret (SD.ife (ST.cm gd (SD.v 1) SD.non) SD.non (SD.fn gd (c_stuck_by h) (SA.x (SD.v 0) (SA.x (SD.v 1) SA.nil))))))))⟩
def F_stuck_store : List D → Option R := runF N_stuck_store w_stuck_store.1
theorem c_stuck_store {G : Gx} {mg : Str → Option Value} {base : Heap} (h : Hd G mg base) : Cal G mg base 9 "stuck_store" ["question"] F_stuck_store := Cal.of h.d_stuck_store S_stuck_store (fun _ _ _ _ _ _ _ _ us hl => match us, hl with | [_], _ => rfl) (w_stuck_store.2 G mg base h)
end K41
set_option maxHeartbeats 4000000
namespace K41
open PySem PySem.Spec PyProof.Rows L2 Ev
def N_require_store : List Str := ["value"]
theorem S_require_store : FnScope N_require_store ["value"] (defScope (top 45)) := ⟨rfl, rfl, rfl, by decide +kernel, rfl, by decide +kernel, by decide +kernel⟩
def w_require_store : {g : EnvS → Option O // ∀ G mg base, Hd G mg base → Body G mg base 0 N_require_store (top 45) g} := ⟨_, fun G mg base h _ _ _ _ _ _ _ _ gd tk pa =>
  (SSs.one (SS.ife (ST.not_ (SD.t (SD.cB gd (isi_ok h.isi gd) h.n_isinstance (SA.x (SD.v 0) (SA.x (SD.gC 1 gd h.g_Store) SA.nil))))) (SSs.one (SS.ra gd tk h.e_InvalidStore)) SSs.nil))⟩
def F_require_store : List D → Option R := runF N_require_store w_require_store.1
theorem c_require_store {G : Gx} {mg : Str → Option Value} {base : Heap} (h : Hd G mg base) : Cal G mg base 1 "require_store" ["value"] F_require_store := Cal.of h.d_require_store S_require_store (fun _ _ _ _ _ _ _ _ us hl => match us, hl with | [_], _ => rfl) (w_require_store.2 G mg base h)
end K41
set_option maxHeartbeats 4000000
namespace K41
open PySem PySem.Spec PyProof.Rows L2 Ev
def N_fits : List Str := ["store", "question", "table", "width"]
theorem S_fits : FnScope N_fits ["store", "question"] (defScope (top 49)) := ⟨rfl, rfl, rfl, by decide +kernel, rfl, by decide +kernel, by decide +kernel⟩
def w_fits : {g : EnvS → Option O // ∀ G mg base, Hd G mg base → Body G mg base 1 N_fits (top 49) g} := ⟨_, fun G mg base h _ _ _ _ _ _ _ _ gd tk pa =>
  (SSs.cons (SS.ex (SE.fn gd (c_require_store h) tk (SA.x (SD.v 0) SA.nil)))
  (SSs.cons (SS.ex (SE.fn gd (c_require_question h) tk (SA.x (SD.v 1) SA.nil)))
  (SSs.one (SS.ret (SD.cB gd (all_ok gd) h.n_all (SA.x (SF.sd (SF.lc1 [("table", 2), ("width", 3)] gd (SI.it gd (SD.at gd h.f_Question_own_widths (SD.v 1))) (fun _ _ _ _ _ => (PG.t (Gd.blk gd _ _ _ _ _) (PGs.x (PG.na (Gd.blk gd _ _ _ _ _) 2) (PGs.x (PG.na (Gd.blk gd _ _ _ _ _) 3) pgs_n)))) (fun _ _ _ _ _ => STs.nil) (fun _ _ _ _ _ => (SD.cm (Gd.blk gd _ _ _ _ _) (SD.g2 (Gd.blk gd _ _ _ _ _) (SD.at (Gd.blk gd _ _ _ _ _) h.f_Store_own_tables (SD.v 0)) (SD.v 2) SD.int) (SD.v 3))))) SA.nil))))))⟩
def F_fits : List D → Option R := runF N_fits w_fits.1
theorem c_fits {G : Gx} {mg : Str → Option Value} {base : Heap} (h : Hd G mg base) : Cal G mg base 2 "fits" ["store", "question"] F_fits := Cal.of h.d_fits S_fits (fun _ _ _ _ _ _ _ _ us hl => match us, hl with | [_, _], _ => rfl) (w_fits.2 G mg base h)
end K41
set_option maxHeartbeats 4000000
namespace K41
open PySem PySem.Spec PyProof.Rows L2 Ev
def N_Store_require_table : List Str := ["self", "table"]
theorem S_Store_require_table : FnScope N_Store_require_table ["self", "table"] (defScope (inn 44 6)) := ⟨rfl, rfl, rfl, by decide +kernel, rfl, by decide +kernel, by decide +kernel⟩
def w_Store_require_table : {g : EnvS → Option O // ∀ G mg base, Hd G mg base → Body G mg base 1 N_Store_require_table (inn 44 6) g} := ⟨_, fun G mg base h _ _ _ _ _ _ _ _ gd tk pa =>
  (SSs.one (SS.ife (SW.st (SW.or_ (ST.not_ (SD.t (SD.fn gd (c_is_name h) (SA.x (SD.v 1) SA.nil)))) (SW.or1 (ST.cm gd (SD.v 1) (SD.at gd h.f_Store_own_tables (SD.v 0)))))) SSs.no SSs.nil))⟩
def F_Store_require_table : List D → Option R := runF N_Store_require_table w_Store_require_table.1
theorem c_Store_require_table {G : Gx} {mg : Str → Option Value} {base : Heap} (h : Hd G mg base) : CalM G mg base 1 2 "require_table" ["self", "table"] F_Store_require_table := CalM.of h.m_Store_require_table S_Store_require_table (fun _ _ _ _ _ _ _ _ us hl => match us, hl with | [_, _], _ => rfl) (w_Store_require_table.2 G mg base h)
end K41
set_option maxHeartbeats 4000000
namespace K41
open PySem PySem.Spec PyProof.Rows L2 Ev
def N_Store_rows : List Str := ["self", "table"]
theorem S_Store_rows : FnScope N_Store_rows ["self", "table"] (defScope (inn 44 7)) := ⟨rfl, rfl, rfl, by decide +kernel, rfl, by decide +kernel, by decide +kernel⟩
def w_Store_rows : {g : EnvS → Option O // ∀ G mg base, Hd G mg base → Body G mg base 2 N_Store_rows (inn 44 7) g} := ⟨_, fun G mg base h _ _ _ _ _ _ _ _ gd tk pa =>
  (SSs.cons (SS.ex (SE.me1 gd (c_Store_require_table h) tk (SD.v 0) (SD.v 1)))
  (SSs.one (SS.ret (SD.ap gd (SD.at gd h.f_Store_own_rows (SD.v 0)) (SD.v 1)))))⟩
def F_Store_rows : List D → Option R := runF N_Store_rows w_Store_rows.1
theorem c_Store_rows {G : Gx} {mg : Str → Option Value} {base : Heap} (h : Hd G mg base) : CalM G mg base 1 3 "rows" ["self", "table"] F_Store_rows := CalM.of h.m_Store_rows S_Store_rows (fun _ _ _ _ _ _ _ _ us hl => match us, hl with | [_, _], _ => rfl) (w_Store_rows.2 G mg base h)
end K41
set_option maxHeartbeats 4000000
namespace K41
open PySem PySem.Spec PyProof.Rows L2 Ev
def N_parts_at : List Str := ["columns", "rows", "common", "places", "column", "place", "row"]
theorem S_parts_at : FnScope N_parts_at ["columns", "rows", "common"] (defScope (top 80)) := ⟨rfl, rfl, rfl, by decide +kernel, rfl, by decide +kernel, by decide +kernel⟩
def w_parts_at : {g : EnvS → Option O // ∀ G mg base, Hd G mg base → Body G mg base 0 N_parts_at (top 80) g} := ⟨_, fun G mg base h _ _ _ _ _ _ _ _ gd tk pa =>
  (SSs.cons (SS.sw 3 gd (SF.lc1 [("column", 4)] gd (SI.val gd (SD.v 2)) (fun _ _ _ _ _ => (PG.na (Gd.blk gd _ _ _ _ _) 4)) (fun _ _ _ _ _ => STs.nil) (fun _ _ _ _ _ => (SD.ti (Gd.blk gd _ _ _ _ _) (SD.v 0) (SD.v 4)))))
  (SSs.one (SS.frz [3] (SS.ret (SF.sd (SF.dn1 [("row", 6)] gd (SI.val gd (SD.v 1)) (fun _ _ _ _ _ => (PG.na (Gd.blk gd _ _ _ _ _) 6)) (fun _ _ _ _ _ => STs.nil) (fun _ _ _ _ _ => (SD.cT (Gd.blk gd _ _ _ _ _) (tuple_ok (Gd.blk gd _ _ _ _ _)) h.n_tuple (SA.x (SF.sd (SF.lc1 [("place", 5)] (Gd.blk gd _ _ _ _ _) (SI.val (Gd.blk gd _ _ _ _ _) (SD.v 3)) (fun _ _ _ _ _ => (PG.na (Gd.blk (Gd.blk gd _ _ _ _ _) _ _ _ _ _) 5)) (fun _ _ _ _ _ => STs.nil) (fun _ _ _ _ _ => (SD.ap (Gd.blk (Gd.blk gd _ _ _ _ _) _ _ _ _ _) (SD.v 6) (SD.v 5))))) SA.nil))) (fun _ _ _ _ _ => SD.bl)))))))⟩
def F_parts_at : List D → Option R := runF N_parts_at w_parts_at.1
theorem c_parts_at {G : Gx} {mg : Str → Option Value} {base : Heap} (h : Hd G mg base) : Cal G mg base 1 "parts_at" ["columns", "rows", "common"] F_parts_at := Cal.of h.d_parts_at S_parts_at (fun _ _ _ _ _ _ _ _ us hl => match us, hl with | [_, _, _], _ => rfl) (w_parts_at.2 G mg base h)
end K41
set_option maxHeartbeats 4000000
namespace K41
open PySem PySem.Spec PyProof.Rows L2 Ev
def N_do_agree : List Str := ["store", "one", "other", "common", "column", "first"]
theorem S_do_agree : FnScope N_do_agree ["store", "one", "other"] (defScope (top 81)) := ⟨rfl, rfl, rfl, by decide +kernel, rfl, by decide +kernel, by decide +kernel⟩
def w_do_agree : {g : EnvS → Option O // ∀ G mg base, Hd G mg base → Body G mg base 3 N_do_agree (top 81) g} := ⟨_, fun G mg base h _ _ _ _ _ _ _ _ gd tk pa =>
  (SSs.cons (SS.l1 3 [("column", 4)] gd (SI.val gd (SF.sd (SF.sS gd h.n_sorted (SC.so gd h.n_set (SA.x (SD.ap gd (SD.v 1) SD.int) SA.nil))))) (fun _ _ _ _ _ => (PG.na (Gd.blk gd _ _ _ _ _) 4)) (fun _ _ _ _ _ => (STs.one (ST.cm (Gd.blk gd _ _ _ _ _) (SD.v 4) (SD.ap (Gd.blk gd _ _ _ _ _) (SD.v 2) SD.int)))) (fun _ _ _ _ _ => (SD.v 4)))
  (SSs.cons (SS.frz [3] (SS.sr 5 gd (SE.fn gd (c_parts_at h) tk (SA.x (SD.ap gd (SD.v 1) SD.int) (SA.x (SE.sd fun E tk => (SE.me1 gd (c_Store_rows h) tk (SD.v 0) (SD.ap gd (SD.v 1) SD.int))) (SA.x (SD.v 3) SA.nil))))))
  (SSs.one (SS.frz [3] (SS.ret (SD.cm gd (SD.v 5) (SD.fn gd (c_parts_at h) (SA.x (SD.ap gd (SD.v 2) SD.int) (SA.x (SE.sd fun E tk => (SE.me1 gd (c_Store_rows h) tk (SD.v 0) (SD.ap gd (SD.v 2) SD.int))) (SA.x (SD.v 3) SA.nil))))))))))⟩
def F_do_agree : List D → Option R := runF N_do_agree w_do_agree.1
theorem c_do_agree {G : Gx} {mg : Str → Option Value} {base : Heap} (h : Hd G mg base) : Cal G mg base 4 "do_agree" ["store", "one", "other"] F_do_agree := Cal.of h.d_do_agree S_do_agree (fun _ _ _ _ _ _ _ _ us hl => match us, hl with | [_, _, _], _ => rfl) (w_do_agree.2 G mg base h)
end K41
set_option maxHeartbeats 4000000
namespace K41
open PySem PySem.Spec PyProof.Rows L2 Ev
def N_all_agree : List Str := ["question", "store", "clauses", "table", "columns", "row", "one", "other"]
theorem S_all_agree : FnScope N_all_agree ["question", "store"] (defScope (top 82)) := ⟨rfl, rfl, rfl, by decide +kernel, rfl, by decide +kernel, by decide +kernel⟩
def w_all_agree : {g : EnvS → Option O // ∀ G mg base, Hd G mg base → Body G mg base 4 N_all_agree (top 82) g} := ⟨_, fun G mg base h _ _ _ _ _ _ _ _ gd tk pa =>
  (SSs.cons (SS.st 2 gd (SD.pr gd (c_Question_clauses h) (SD.v 0)))
  (SSs.cons (SS.fo gd pa (SI.val gd (SD.v 2)) (PG.t gd (PGs.x (PG.na gd 3) (PGs.x (PG.na gd 4) pgs_n))) (SSs.one (SS.ife (ST.not_ (SD.t (SD.cB gd (all_ok gd) h.n_all (SA.x (SF.sd (SF.lc1 [("row", 5)] gd (SI.val gd (SE.sd fun E tk => (SE.me1 gd (c_Store_rows h) tk (SD.v 1) (SD.v 3)))) (fun _ _ _ _ _ => (PG.na (Gd.blk gd _ _ _ _ _) 5)) (fun _ _ _ _ _ => STs.nil) (fun _ _ _ _ _ => SD.no))) SA.nil)))) (SSs.one (SS.ret SD.bl)) SSs.nil)))
  (SSs.one (SS.ret (SD.cB gd (all_ok gd) h.n_all (SA.x (SF.sd (SF.lc2 [("one", 6), ("other", 7)] [7] gd (SI.val gd (SD.v 2)) (fun _ _ _ _ _ => (PG.na (Gd.blk gd _ _ _ _ _) 6)) (fun _ _ _ _ _ => STs.nil) (fun _ _ _ _ _ => (SI.val (Gd.blk gd _ _ _ _ _) (SD.v 2))) (fun _ _ _ _ _ => (PG.na (Gd.blk gd _ _ _ _ _) 7)) (fun _ _ _ _ _ => (STs.one (ST.cm (Gd.blk gd _ _ _ _ _) (SD.v 6) (SD.v 7)))) (fun _ _ _ _ _ => (SD.fn (Gd.blk gd _ _ _ _ _) (c_do_agree h) (SA.x (SD.v 1) (SA.x (SD.v 6) (SA.x (SD.v 7) SA.nil))))))) SA.nil))))))⟩
def F_all_agree : List D → Option R := runF N_all_agree w_all_agree.1
theorem c_all_agree {G : Gx} {mg : Str → Option Value} {base : Heap} (h : Hd G mg base) : Cal G mg base 5 "all_agree" ["question", "store"] F_all_agree := Cal.of h.d_all_agree S_all_agree (fun _ _ _ _ _ _ _ _ us hl => match us, hl with | [_, _], _ => rfl) (w_all_agree.2 G mg base h)
end K41
set_option maxHeartbeats 4000000
namespace K41
open PySem PySem.Spec PyProof.Rows L2 Ev
def N_is_stuck : List Str := ["question", "value", "table"]
theorem S_is_stuck : FnScope N_is_stuck ["question", "value"] (defScope (top 84)) := ⟨rfl, rfl, rfl, by decide +kernel, rfl, by decide +kernel, by decide +kernel⟩
def w_is_stuck : {g : EnvS → Option O // ∀ G mg base, Hd G mg base → Body G mg base 5 N_is_stuck (top 84) g} := ⟨_, fun G mg base h _ _ _ _ _ _ _ _ gd tk pa =>
  (SSs.cons (SS.ex (SE.fn gd (c_require_plain h) tk (SA.x (SD.v 0) SA.nil)))
  (SSs.cons (SS.ife (SW.st (SW.or_ (ST.not_ (SD.t (SD.cB gd (isi_ok h.isi gd) h.n_isinstance (SA.x (SD.v 1) (SA.x (SD.gC 1 gd h.g_Store) SA.nil))))) (SW.or1 (ST.not_ (SD.t (SD.fn gd (c_fits h) (SA.x (SD.v 1) (SA.x (SD.v 0) SA.nil)))))))) (SSs.one (SS.ret SD.bl)) SSs.nil)
  (SSs.cons (SS.ife (SW.st (SW.or_ (SD.t (SD.cB gd (any_ok gd) h.n_any (SA.x (SF.sd (SF.lc1 [("table", 2)] gd (SI.val gd (SD.pr gd (c_Question_tables h) (SD.v 0))) (fun _ _ _ _ _ => (PG.na (Gd.blk gd _ _ _ _ _) 2)) (fun _ _ _ _ _ => STs.nil) (fun _ _ _ _ _ => (SD.cm (Gd.blk gd _ _ _ _ _) (SE.sd fun E tk => (SE.me1 (Gd.blk gd _ _ _ _ _) (c_Store_rows h) tk (SD.v 1) (SD.v 2))) (SD.tup SA.nil))))) SA.nil))) (SW.or1 (ST.not_ (SD.t (SD.fn gd (c_all_agree h) (SA.x (SD.v 0) (SA.x (SD.v 1) SA.nil)))))))) (SSs.one (SS.ret SD.bl)) SSs.nil)
  (SSs.one (SS.ret (SD.not_ SD.no))))))⟩
def F_is_stuck : List D → Option R := runF N_is_stuck w_is_stuck.1
theorem c_is_stuck {G : Gx} {mg : Str → Option Value} {base : Heap} (h : Hd G mg base) : Cal G mg base 6 "is_stuck" ["question", "value"] F_is_stuck := Cal.of h.d_is_stuck S_is_stuck (fun _ _ _ _ _ _ _ _ us hl => match us, hl with | [_, _], _ => rfl) (w_is_stuck.2 G mg base h)
end K41
set_option maxHeartbeats 4000000
namespace K41
open PySem PySem.Spec PyProof.Rows L2 Ev
def N_are_agreeing : List Str := ["question", "store"]
theorem S_are_agreeing : FnScope N_are_agreeing ["question", "store"] (defScope (top 83)) := ⟨rfl, rfl, rfl, by decide +kernel, rfl, by decide +kernel, by decide +kernel⟩
def w_are_agreeing : {g : EnvS → Option O // ∀ G mg base, Hd G mg base → Body G mg base 5 N_are_agreeing (top 83) g} := ⟨_, fun G mg base h _ _ _ _ _ _ _ _ gd tk pa =>
  (SSs.cons (SS.ex (SE.fn gd (c_require_question h) tk (SA.x (SD.v 0) SA.nil)))
  (SSs.cons (SS.ife (ST.not_ (SD.t (SD.cB gd (isi_ok h.isi gd) h.n_isinstance (SA.x (SD.v 1) (SA.x (SD.gC 1 gd h.g_Store) SA.nil))))) (SSs.one (SS.ra gd tk h.e_InvalidStore)) SSs.nil)
  (SSs.cons (SS.ife (ST.not_ (SD.t (SD.fn gd (c_fits h) (SA.x (SD.v 1) (SA.x (SD.v 0) SA.nil))))) (SSs.one (SS.ra gd tk h.e_InvalidOperation)) SSs.nil)
  (SSs.one (SS.retR (SE.fn gd (c_all_agree h) tk (SA.x (SD.v 0) (SA.x (SD.v 1) SA.nil))))))))⟩
def F_are_agreeing : List D → Option R := runF N_are_agreeing w_are_agreeing.1
theorem c_are_agreeing {G : Gx} {mg : Str → Option Value} {base : Heap} (h : Hd G mg base) : Cal G mg base 6 "are_agreeing" ["question", "store"] F_are_agreeing := Cal.of h.d_are_agreeing S_are_agreeing (fun _ _ _ _ _ _ _ _ us hl => match us, hl with | [_, _], _ => rfl) (w_are_agreeing.2 G mg base h)
end K41
set_option maxHeartbeats 4000000
namespace K41
open PySem PySem.Spec PyProof.Rows L2 Ev
def N_columns_in : List Str := ["clauses", "table", "columns", "column"]
theorem S_columns_in : FnScope N_columns_in ["clauses"] (defScope (top 25)) := ⟨rfl, rfl, rfl, by decide +kernel, rfl, by decide +kernel, by decide +kernel⟩
def w_columns_in : {g : EnvS → Option O // ∀ G mg base, Hd G mg base → Body G mg base 0 N_columns_in (top 25) g} := ⟨_, fun G mg base h _ _ _ _ _ _ _ _ gd tk pa =>
  (SSs.one (SS.ret (SD.cT gd (tuple_ok gd) h.n_tuple (SA.x (SF.sd (SF.sS gd h.n_sorted (SC.s2 [("table", 1), ("columns", 2), ("column", 3)] [3] gd (SI.val gd (SD.v 0)) (fun _ _ _ _ _ => (PG.t (Gd.blk gd _ _ _ _ _) (PGs.x (PG.na (Gd.blk gd _ _ _ _ _) 1) (PGs.x (PG.na (Gd.blk gd _ _ _ _ _) 2) pgs_n)))) (fun _ _ _ _ _ => STs.nil) (fun _ _ _ _ _ => (SI.val (Gd.blk gd _ _ _ _ _) (SD.v 2))) (fun _ _ _ _ _ => (PG.na (Gd.blk gd _ _ _ _ _) 3)) (fun _ _ _ _ _ => STs.nil) (fun _ _ _ _ _ => (SD.v 3))))) SA.nil))))⟩
def F_columns_in : List D → Option R := runF N_columns_in w_columns_in.1
theorem c_columns_in {G : Gx} {mg : Str → Option Value} {base : Heap} (h : Hd G mg base) : Cal G mg base 1 "columns_in" ["clauses"] F_columns_in := Cal.of h.d_columns_in S_columns_in (fun _ _ _ _ _ _ _ _ us hl => match us, hl with | [_], _ => rfl) (w_columns_in.2 G mg base h)
end K41
set_option maxHeartbeats 4000000
namespace K41
open PySem PySem.Spec PyProof.Rows L2 Ev
def N_widths_in : List Str := ["clauses", "table", "columns"]
theorem S_widths_in : FnScope N_widths_in ["clauses"] (defScope (top 27)) := ⟨rfl, rfl, rfl, by decide +kernel, rfl, by decide +kernel, by decide +kernel⟩
def w_widths_in : {g : EnvS → Option O // ∀ G mg base, Hd G mg base → Body G mg base 0 N_widths_in (top 27) g} := ⟨_, fun G mg base h _ _ _ _ _ _ _ _ gd tk pa =>
  (SSs.one (SS.ret (SF.sd (SF.dk1 [("table", 1), ("columns", 2)] gd (SI.val gd (SD.v 0)) (fun _ _ _ _ _ => (PG.t (Gd.blk gd _ _ _ _ _) (PGs.x (PG.na (Gd.blk gd _ _ _ _ _) 1) (PGs.x (PG.na (Gd.blk gd _ _ _ _ _) 2) pgs_n)))) (fun _ _ _ _ _ => STs.nil) (fun _ _ _ _ _ => (SD.v 1)) (fun _ _ _ _ _ => (SD.cB (Gd.blk gd _ _ _ _ _) (len_ok (Gd.blk gd _ _ _ _ _)) h.n_len (SA.x (SD.v 2) SA.nil)))))))⟩
def F_widths_in : List D → Option R := runF N_widths_in w_widths_in.1
theorem c_widths_in {G : Gx} {mg : Str → Option Value} {base : Heap} (h : Hd G mg base) : Cal G mg base 1 "widths_in" ["clauses"] F_widths_in := Cal.of h.d_widths_in S_widths_in (fun _ _ _ _ _ _ _ _ us hl => match us, hl with | [_], _ => rfl) (w_widths_in.2 G mg base h)
end K41
set_option maxHeartbeats 4000000
namespace K41
open PySem PySem.Spec PyProof.Rows L2 Ev
def N_is_clause : List Str := ["value"]
theorem S_is_clause : FnScope N_is_clause ["value"] (defScope (top 24)) := ⟨rfl, rfl, rfl, by decide +kernel, rfl, by decide +kernel, by decide +kernel⟩
def w_is_clause : {g : EnvS → Option O // ∀ G mg base, Hd G mg base → Body G mg base 2 N_is_clause (top 24) g} := ⟨_, fun G mg base h _ _ _ _ _ _ _ _ gd tk pa =>
  (SSs.cons (SS.ife (SW.st (SW.or_ (ST.not_ (SD.t (SD.cB gd (isi_ok h.isi gd) h.n_isinstance (SA.x (SD.v 0) (SA.x (SD.gT gd h.n_tuple) SA.nil))))) (SW.or_ (ST.cm gd (SD.cB gd (len_ok gd) h.n_len (SA.x (SD.v 0) SA.nil)) SD.int) (SW.or1 (ST.not_ (SD.t (SD.fn gd (c_is_name h) (SA.x (SD.ap gd (SD.v 0) SD.int) SA.nil)))))))) (SSs.one (SS.ret SD.bl)) SSs.nil)
  (SSs.one (SS.ret (SD.and_ (SD.fn gd (c_are_names h) (SA.x (SD.ap gd (SD.v 0) SD.int) SA.nil)) (SD.one (SD.ch gd SD.int (SD.cB gd (len_ok gd) h.n_len (SA.x (SD.ap gd (SD.v 0) SD.int) SA.nil)) (SD.gI gd h.g_MAX_COLUMNS)))))))⟩
def F_is_clause : List D → Option R := runF N_is_clause w_is_clause.1
theorem c_is_clause {G : Gx} {mg : Str → Option Value} {base : Heap} (h : Hd G mg base) : Cal G mg base 3 "is_clause" ["value"] F_is_clause := Cal.of h.d_is_clause S_is_clause (fun _ _ _ _ _ _ _ _ us hl => match us, hl with | [_], _ => rfl) (w_is_clause.2 G mg base h)
end K41
set_option maxHeartbeats 4000000
namespace K41
open PySem PySem.Spec PyProof.Rows L2 Ev
def N_are_clauses : List Str := ["value", "one", "other", "widths", "table", "columns"]
theorem S_are_clauses : FnScope N_are_clauses ["value"] (defScope (top 26)) := ⟨rfl, rfl, rfl, by decide +kernel, rfl, by decide +kernel, by decide +kernel⟩
def w_are_clauses : {g : EnvS → Option O // ∀ G mg base, Hd G mg base → Body G mg base 3 N_are_clauses (top 26) g} := ⟨_, fun G mg base h _ _ _ _ _ _ _ _ gd tk pa =>
  (SSs.cons (SS.ife (SW.st (SW.or_ (ST.not_ (SD.t (SD.cB gd (isi_ok h.isi gd) h.n_isinstance (SA.x (SD.v 0) (SA.x (SD.gT gd h.n_tuple) SA.nil))))) (SW.or_ (ST.not_ (ST.ch gd SD.int (SD.cB gd (len_ok gd) h.n_len (SA.x (SD.v 0) SA.nil)) (SD.gI gd h.g_MAX_CLAUSES))) (SW.or1 (ST.not_ (SD.t (SD.cB gd (all_ok gd) h.n_all (SA.x (SF.sd (SF.lc1 [("one", 1)] gd (SI.val gd (SD.v 0)) (fun _ _ _ _ _ => (PG.na (Gd.blk gd _ _ _ _ _) 1)) (fun _ _ _ _ _ => STs.nil) (fun _ _ _ _ _ => (SD.fn (Gd.blk gd _ _ _ _ _) (c_is_clause h) (SA.x (SD.v 1) SA.nil))))) SA.nil)))))))) (SSs.one (SS.ret SD.bl)) SSs.nil)
  (SSs.cons (SS.ife (SW.st (SW.or_ (ST.not_ (SD.t (SD.cB gd (all_ok gd) h.n_all (SA.x (SF.sd (SF.lc1 [("one", 1), ("other", 2)] gd (SI.zp gd h.n_zip (SA.x (SD.v 0) (SA.x (SD.sl gd (SD.v 0) (SO.some SD.int) SO.none) SA.nil))) (fun _ _ _ _ _ => (PG.t (Gd.blk gd _ _ _ _ _) (PGs.x (PG.na (Gd.blk gd _ _ _ _ _) 1) (PGs.x (PG.na (Gd.blk gd _ _ _ _ _) 2) pgs_n)))) (fun _ _ _ _ _ => STs.nil) (fun _ _ _ _ _ => (SD.cm (Gd.blk gd _ _ _ _ _) (SD.v 1) (SD.v 2))))) SA.nil)))) (SW.or1 (ST.cm gd (SD.cB gd (len_ok gd) h.n_len (SA.x (SD.fn gd (c_columns_in h) (SA.x (SD.v 0) SA.nil)) SA.nil)) (SD.gI gd h.g_MAX_COLUMNS))))) (SSs.one (SS.ret SD.bl)) SSs.nil)
  (SSs.cons (SS.sr 3 gd (SE.fn gd (c_widths_in h) tk (SA.x (SD.v 0) SA.nil)))
  (SSs.one (SS.ret (SD.cB gd (all_ok gd) h.n_all (SA.x (SF.sd (SF.lc1 [("table", 4), ("columns", 5)] gd (SI.val gd (SD.v 0)) (fun _ _ _ _ _ => (PG.t (Gd.blk gd _ _ _ _ _) (PGs.x (PG.na (Gd.blk gd _ _ _ _ _) 4) (PGs.x (PG.na (Gd.blk gd _ _ _ _ _) 5) pgs_n)))) (fun _ _ _ _ _ => STs.nil) (fun _ _ _ _ _ => (SD.cm (Gd.blk gd _ _ _ _ _) (SD.cB (Gd.blk gd _ _ _ _ _) (len_ok (Gd.blk gd _ _ _ _ _)) h.n_len (SA.x (SD.v 5) SA.nil)) (SD.ap (Gd.blk gd _ _ _ _ _) (SD.v 3) (SD.v 4)))))) SA.nil)))))))⟩
def F_are_clauses : List D → Option R := runF N_are_clauses w_are_clauses.1
theorem c_are_clauses {G : Gx} {mg : Str → Option Value} {base : Heap} (h : Hd G mg base) : Cal G mg base 4 "are_clauses" ["value"] F_are_clauses := Cal.of h.d_are_clauses S_are_clauses (fun _ _ _ _ _ _ _ _ us hl => match us, hl with | [_], _ => rfl) (w_are_clauses.2 G mg base h)
end K41
set_option maxHeartbeats 4000000
namespace K41
open PySem PySem.Spec PyProof.Rows L2 Ev
def N_are_asked : List Str := ["columns", "value", "name"]
theorem S_are_asked : FnScope N_are_asked ["columns", "value"] (defScope (top 28)) := ⟨rfl, rfl, rfl, by decide +kernel, rfl, by decide +kernel, by decide +kernel⟩
def w_are_asked : {g : EnvS → Option O // ∀ G mg base, Hd G mg base → Body G mg base 2 N_are_asked (top 28) g} := ⟨_, fun G mg base h _ _ _ _ _ _ _ _ gd tk pa =>
  (SSs.one (SS.ret (SD.and_ (SD.fn gd (c_are_names h) (SA.x (SD.v 1) SA.nil)) (SD.and_ (SD.cB gd (all_ok gd) h.n_all (SA.x (SF.sd (SF.lc1 [("name", 2)] gd (SI.val gd (SD.v 1)) (fun _ _ _ _ _ => (PG.na (Gd.blk gd _ _ _ _ _) 2)) (fun _ _ _ _ _ => STs.nil) (fun _ _ _ _ _ => (SD.cm (Gd.blk gd _ _ _ _ _) (SD.v 2) (SD.v 0))))) SA.nil)) (SD.one (SD.cm gd (SD.lS gd h.n_len (SC.so gd h.n_set (SA.x (SD.v 1) SA.nil))) (SD.cB gd (len_ok gd) h.n_len (SA.x (SD.v 1) SA.nil))))))))⟩
def F_are_asked : List D → Option R := runF N_are_asked w_are_asked.1
theorem c_are_asked {G : Gx} {mg : Str → Option Value} {base : Heap} (h : Hd G mg base) : Cal G mg base 3 "are_asked" ["columns", "value"] F_are_asked := Cal.of h.d_are_asked S_are_asked (fun _ _ _ _ _ _ _ _ us hl => match us, hl with | [_, _], _ => rfl) (w_are_asked.2 G mg base h)
end K41
set_option maxHeartbeats 4000000
namespace K41
open PySem PySem.Spec PyProof.Rows L2 Ev
def N_lots_by : List Str := ["columns", "clauses", "lots", "column", "table", "some", "met", "lot", "made"]
theorem S_lots_by : FnScope N_lots_by ["columns", "clauses"] (defScope (top 30)) := ⟨rfl, rfl, rfl, by decide +kernel, rfl, by decide +kernel, by decide +kernel⟩
def w_lots_by : {g : EnvS → Option O // ∀ G mg base, Hd G mg base → Body G mg base 0 N_lots_by (top 30) g} := ⟨_, fun G mg base h _ _ _ _ _ _ _ _ gd tk pa =>
  (SSs.cons (SS.l1 2 [("column", 3)] gd (SI.val gd (SD.v 0)) (fun _ _ _ _ _ => (PG.na (Gd.blk gd _ _ _ _ _) 3)) (fun _ _ _ _ _ => STs.nil) (fun _ _ _ _ _ => (SF.sd (SF.dp (SPs.cons (SD.v 3) SD.bl SPs.nil)))))
  (SSs.cons (SS.fo gd pa (SI.val gd (SD.v 1)) (PG.t gd (PGs.x (PG.na gd 4) (PGs.x (PG.na gd 5) pgs_n))) (SSs.cons (SS.frz [2] (SS.sw 6 gd (SF.lc1 [("lot", 7)] gd (SI.val gd (SD.v 2)) (fun _ _ _ _ _ => (PG.na (Gd.blk gd _ _ _ _ _) 7)) (fun _ _ _ _ _ => (STs.one (SD.t (SD.cB (Gd.blk gd _ _ _ _ _) (any_ok (Gd.blk gd _ _ _ _ _)) h.n_any (SA.x (SF.sd (SF.lc1 [("column", 3)] (Gd.blk gd _ _ _ _ _) (SI.val (Gd.blk gd _ _ _ _ _) (SD.v 5)) (fun _ _ _ _ _ => (PG.na (Gd.blk (Gd.blk gd _ _ _ _ _) _ _ _ _ _) 3)) (fun _ _ _ _ _ => STs.nil) (fun _ _ _ _ _ => (SD.cm (Gd.blk (Gd.blk gd _ _ _ _ _) _ _ _ _ _) (SD.v 3) (SD.v 7))))) SA.nil))))) (fun _ _ _ _ _ => (SD.v 7)))))
  (SSs.cons (SS.frz [6] (SS.k2 8 [("lot", 7), ("column", 3)] [3] gd (SI.val gd (SD.v 6)) (fun _ _ _ _ _ => (PG.na (Gd.blk gd _ _ _ _ _) 7)) (fun _ _ _ _ _ => STs.nil) (fun _ _ _ _ _ => (SI.val (Gd.blk gd _ _ _ _ _) (SD.v 7))) (fun _ _ _ _ _ => (PG.na (Gd.blk gd _ _ _ _ _) 3)) (fun _ _ _ _ _ => STs.nil) (fun _ _ _ _ _ => (SD.v 3)) (fun _ _ _ _ _ => SD.bl)))
  (SSs.cons (SS.frz [2, 6] (SS.l1 2 [("lot", 7)] gd (SI.val gd (SD.v 2)) (fun _ _ _ _ _ => (PG.na (Gd.blk gd _ _ _ _ _) 7)) (fun _ _ _ _ _ => (STs.one (ST.cm (Gd.blk gd _ _ _ _ _) (SD.v 7) (SD.v 6)))) (fun _ _ _ _ _ => (SD.v 7))))
  (SSs.one (SS.frz [8] (SS.ap gd 2 (SD.v 8))))))))
  (SSs.one (SS.frz [2] (SS.ret (SD.cT gd (tuple_ok gd) h.n_tuple (SA.x (SF.sd (SF.cB gd (sorted_ok gd) h.n_sorted (SA.x (SF.sd (SF.lc1 [("lot", 7)] gd (SI.val gd (SD.v 2)) (fun _ _ _ _ _ => (PG.na (Gd.blk gd _ _ _ _ _) 7)) (fun _ _ _ _ _ => STs.nil) (fun _ _ _ _ _ => (SD.cT (Gd.blk gd _ _ _ _ _) (tuple_ok (Gd.blk gd _ _ _ _ _)) h.n_tuple (SA.x (SF.sd (SF.cB (Gd.blk gd _ _ _ _ _) (sorted_ok (Gd.blk gd _ _ _ _ _)) h.n_sorted (SA.x (SD.v 7) SA.nil))) SA.nil))))) SA.nil))) SA.nil)))))))⟩
def F_lots_by : List D → Option R := runF N_lots_by w_lots_by.1
theorem c_lots_by {G : Gx} {mg : Str → Option Value} {base : Heap} (h : Hd G mg base) : Cal G mg base 1 "lots_by" ["columns", "clauses"] F_lots_by := Cal.of h.d_lots_by S_lots_by (fun _ _ _ _ _ _ _ _ us hl => match us, hl with | [_, _], _ => rfl) (w_lots_by.2 G mg base h)
end K41
set_option maxHeartbeats 4000000
namespace K41
open PySem PySem.Spec PyProof.Rows L2 Ev
def N_clause_text : List Str := ["clause"]
theorem S_clause_text : FnScope N_clause_text ["clause"] (defScope (top 29)) := ⟨rfl, rfl, rfl, by decide +kernel, rfl, by decide +kernel, by decide +kernel⟩
def w_clause_text : {g : EnvS → Option O // ∀ G mg base, Hd G mg base → Body G mg base 0 N_clause_text (top 29) g} := ⟨_, fun G mg base h _ _ _ _ _ _ _ _ gd tk pa =>
  (SSs.one (SS.ret (SD.jn gd SD.str (SF.sd (SF.lst (SA.x (SD.gS gd h.g_CLAUSE) (SA.x (SD.ap gd (SD.v 0) SD.int) (SA.s gd (SD.ap gd (SD.v 0) SD.int) SA.nil))))))))⟩
def F_clause_text : List D → Option R := runF N_clause_text w_clause_text.1
theorem c_clause_text {G : Gx} {mg : Str → Option Value} {base : Heap} (h : Hd G mg base) : Cal G mg base 1 "clause_text" ["clause"] F_clause_text := Cal.of h.d_clause_text S_clause_text (fun _ _ _ _ _ _ _ _ us hl => match us, hl with | [_], _ => rfl) (w_clause_text.2 G mg base h)
end K41
set_option maxHeartbeats 4000000
namespace K41
open PySem PySem.Spec PyProof.Rows L2 Ev
def N_Question_init : List Str := ["self", "clauses", "asked", "widths", "table", "clause"]
theorem S_Question_init : FnScope N_Question_init ["self", "clauses", "asked"] (defScope (inn 31 1)) := ⟨rfl, rfl, rfl, by decide +kernel, rfl, by decide +kernel, by decide +kernel⟩
def w_Question_init : {g : Ev.Env → List D → Option OI // ∀ G mg base, Hd G mg base → BodyI G mg base 0 4 N_Question_init (inn 31 1) g} := ⟨_, fun G mg base h _ _ _ _ _ _ _ _ gd tk =>
  (SJs.cons (SJ.ifRaise (g := gSkip) (SW.st (SW.or_ (ST.not_ (SD.t (SD.fn gd (c_are_clauses h) (SA.x (SD.v 1) SA.nil)))) (SW.or1 (ST.not_ (SD.t (SD.fn gd (c_are_asked h) (SA.x (SD.fn gd (c_columns_in h) (SA.x (SD.v 1) SA.nil)) (SA.x (SD.v 2) SA.nil)))))))) (SS.ra gd tk h.e_InvalidQuestion))
  (SJs.cons (SJ.fl gd h.f_Question_own_clauses (SD.v 1))
  (SJs.cons (SJ.fl gd h.f_Question_own_asked (SD.v 2))
  (SJs.cons (SJ.fl gd h.f_Question_own_columns (SD.fn gd (c_columns_in h) (SA.x (SD.v 1) SA.nil)))
  (SJs.cons (SJ.st 3 gd (SD.fn gd (c_widths_in h) (SA.x (SD.v 1) SA.nil)))
  (SJs.cons (SJ.fl gd h.f_Question_own_widths (SF.sd (SF.dk1 [("table", 4)] gd (SI.val gd (SF.sd (SF.cB gd (sorted_ok gd) h.n_sorted (SA.x (SD.v 3) SA.nil)))) (fun _ _ _ _ _ => (PG.na (Gd.blk gd _ _ _ _ _) 4)) (fun _ _ _ _ _ => STs.nil) (fun _ _ _ _ _ => (SD.v 4)) (fun _ _ _ _ _ => (SD.ap (Gd.blk gd _ _ _ _ _) (SD.v 3) (SD.v 4))))))
  (SJs.cons (SJ.fl gd h.f_Question_own_lots (SD.fn gd (c_lots_by h) (SA.x (SD.at gd h.f_Question_own_columns (SD.v 0)) (SA.x (SD.v 1) SA.nil))))
  (SJs.cons (SJ.fl gd h.f_Question_own_lines (SD.tup (SA.s gd (SF.sd (SF.lc1 [("clause", 5)] gd (SI.val gd (SD.v 1)) (fun _ _ _ _ _ => (PG.na (Gd.blk gd _ _ _ _ _) 5)) (fun _ _ _ _ _ => STs.nil) (fun _ _ _ _ _ => (SD.fn (Gd.blk gd _ _ _ _ _) (c_clause_text h) (SA.x (SD.v 5) SA.nil))))) (SA.x (SD.jn gd SD.str (SF.sd (SF.lst (SA.x (SD.gS gd h.g_ASKED) (SA.s gd (SD.v 2) SA.nil))))) SA.nil))))
  SJs.nil))))))))⟩
def F_Question_init : List D → Option R := runI 0 N_Question_init w_Question_init.1
theorem c_Question_init {G : Gx} {mg : Str → Option Value} {base : Heap} (h : Hd G mg base) : CalI G mg base 0 5 "Question" "self" ["clauses", "asked"] F_Question_init := CalI.of h.i_Question S_Question_init (fun _ _ _ _ _ _ _ _ us hl => match us, hl with | [_, _, _], _ => rfl) (w_Question_init.2 G mg base h)
end K41
set_option maxHeartbeats 4000000
namespace K41
open PySem PySem.Spec PyProof.Rows L2 Ev
def N__law_made : List Str := ["_law_plain"]
theorem S__law_made : FnScope N__law_made ["_law_plain"] (defScope (top 104)) := ⟨rfl, rfl, rfl, by decide +kernel, rfl, by decide +kernel, by decide +kernel⟩
def w__law_made : {g : EnvS → Option O // ∀ G mg base, Hd G mg base → Body G mg base 6 N__law_made (top 104) g} := ⟨_, fun G mg base h _ _ _ _ _ _ _ _ gd tk pa =>
  (SSs.one (SS.retR (SE.mk gd (c_Question_init h) tk (SA.x (SD.cT gd (tuple_ok gd) h.n_tuple (SA.x (SD.ap gd (SD.v 0) SD.str) SA.nil)) (SA.x (SD.cT gd (tuple_ok gd) h.n_tuple (SA.x (SD.ap gd (SD.v 0) SD.str) SA.nil)) SA.nil)))))⟩
def F__law_made : List D → Option R := runF N__law_made w__law_made.1
theorem c__law_made {G : Gx} {mg : Str → Option Value} {base : Heap} (h : Hd G mg base) : Cal G mg base 7 "_law_made" ["_law_plain"] F__law_made := Cal.of h.d__law_made S__law_made (fun _ _ _ _ _ _ _ _ us hl => match us, hl with | [_], _ => rfl) (w__law_made.2 G mg base h)
end K41
set_option maxHeartbeats 4000000
namespace K41
open PySem PySem.Spec PyProof.Rows L2 Ev
def N__law_question : List Str := ["_law_clauses", "_law_asked", "_law_table", "_law_columns"]
theorem S__law_question : FnScope N__law_question ["_law_clauses", "_law_asked"] (defScope (top 103)) := ⟨rfl, rfl, rfl, by decide +kernel, rfl, by decide +kernel, by decide +kernel⟩
def w__law_question : {g : EnvS → Option O // ∀ G mg base, Hd G mg base → Body G mg base 0 N__law_question (top 103) g} := ⟨_, fun G mg base h _ _ _ _ _ _ _ _ gd tk pa =>
  (SSs.one (SS.ret (SF.sd (SF.dp (SPs.cons SD.str (SF.sd (SF.sT gd h.n_sorted (SC.sot gd h.n_set (SA.x (SF.sd (SF.lc1 [("_law_table", 2), ("_law_columns", 3)] gd (SI.val gd (SD.v 0)) (fun _ _ _ _ _ => (PG.t (Gd.blk gd _ _ _ _ _) (PGs.x (PG.na (Gd.blk gd _ _ _ _ _) 2) (PGs.x (PG.na (Gd.blk gd _ _ _ _ _) 3) pgs_n)))) (fun _ _ _ _ _ => STs.nil) (fun _ _ _ _ _ => (SD.tup (SA.x (SD.v 2) (SA.x (SD.cT (Gd.blk gd _ _ _ _ _) (tuple_ok (Gd.blk gd _ _ _ _ _)) h.n_tuple (SA.x (SD.v 3) SA.nil)) SA.nil)))))) SA.nil)))) (SPs.cons SD.str (SF.sd (SF.cT gd (list_ok gd) h.n_list (SA.x (SD.v 1) SA.nil))) SPs.nil))))))⟩
def F__law_question : List D → Option R := runF N__law_question w__law_question.1
theorem c__law_question {G : Gx} {mg : Str → Option Value} {base : Heap} (h : Hd G mg base) : Cal G mg base 1 "_law_question" ["_law_clauses", "_law_asked"] F__law_question := Cal.of h.d__law_question S__law_question (fun _ _ _ _ _ _ _ _ us hl => match us, hl with | [_, _], _ => rfl) (w__law_question.2 G mg base h)
end K41
set_option maxHeartbeats 4000000
namespace K41
open PySem PySem.Spec PyProof.Rows L2 Ev
def N__law_written : List Str := ["_law_way"]
theorem S__law_written : FnScope N__law_written ["_law_way"] (defScope (top 105)) := ⟨rfl, rfl, rfl, by decide +kernel, rfl, by decide +kernel, by decide +kernel⟩
def w__law_written : {g : EnvS → Option O // ∀ G mg base, Hd G mg base → Body G mg base 1 N__law_written (top 105) g} := ⟨_, fun G mg base h _ _ _ _ _ _ _ _ gd tk pa =>
  (SSs.cons (SS.ife (ST.cm gd (SD.v 0) SD.int) (SSs.one (SS.retR (SE.fn gd (c__law_question h) tk (SA.x (SF.sd (SF.lst (SA.x (SD.tup (SA.x SD.str (SA.x SD.str SA.nil))) (SA.x (SD.tup (SA.x SD.str (SA.x SD.str SA.nil))) SA.nil)))) (SA.x (SF.sd (SF.lst (SA.x SD.str (SA.x SD.str SA.nil)))) SA.nil))))) SSs.nil)
  (SSs.cons (SS.ife (ST.cm gd (SD.v 0) SD.int) (SSs.one (SS.retR (SE.fn gd (c__law_question h) tk (SA.x (SF.sd (SF.lst (SA.x (SD.tup (SA.x SD.str (SA.x SD.str SA.nil))) (SA.x (SD.tup (SA.x SD.str (SA.x SD.str SA.nil))) (SA.x (SD.tup (SA.x SD.str (SA.x SD.str SA.nil))) SA.nil))))) (SA.x (SF.sd (SF.lst SA.nil)) SA.nil))))) SSs.nil)
  (SSs.cons (SS.ife (ST.cm gd (SD.v 0) SD.int) (SSs.one (SS.retR (SE.fn gd (c__law_question h) tk (SA.x (SF.sd (SF.lst (SA.x (SD.tup (SA.x SD.str (SA.x SD.str SA.nil))) (SA.x (SD.tup (SA.x SD.str (SA.x SD.str SA.nil))) SA.nil)))) (SA.x (SF.sd (SF.lst (SA.x SD.str SA.nil))) SA.nil))))) SSs.nil)
  (SSs.cons (SS.ife (ST.cm gd (SD.v 0) SD.int) (SSs.one (SS.retR (SE.fn gd (c__law_question h) tk (SA.x (SF.sd (SF.lst (SA.x (SD.tup (SA.x SD.str (SA.x SD.str SA.nil))) (SA.x (SD.tup (SA.x SD.str (SA.x SD.str SA.nil))) (SA.x (SD.tup (SA.x SD.str (SA.x SD.str SA.nil))) (SA.x (SD.tup (SA.x SD.str (SA.x SD.str SA.nil))) SA.nil)))))) (SA.x (SF.sd (SF.lst (SA.x SD.str (SA.x SD.str (SA.x SD.str (SA.x SD.str SA.nil)))))) SA.nil))))) SSs.nil)
  (SSs.cons (SS.ife (ST.cm gd (SD.v 0) SD.int) (SSs.one (SS.retR (SE.fn gd (c__law_question h) tk (SA.x (SF.sd (SF.lst (SA.x (SD.tup (SA.x SD.str (SA.x SD.str SA.nil))) (SA.x (SD.tup (SA.x SD.str (SA.x SD.str SA.nil))) (SA.x (SD.tup (SA.x SD.str (SA.x SD.str SA.nil))) SA.nil))))) (SA.x (SF.sd (SF.lst (SA.x SD.str SA.nil))) SA.nil))))) SSs.nil)
  (SSs.cons (SS.ife (ST.cm gd (SD.v 0) SD.int) (SSs.one (SS.retR (SE.fn gd (c__law_question h) tk (SA.x (SF.sd (SF.lst (SA.x (SD.tup (SA.x SD.str (SA.x SD.str SA.nil))) (SA.x (SD.tup (SA.x SD.str (SA.x SD.str SA.nil))) (SA.x (SD.tup (SA.x SD.str (SA.x SD.str SA.nil))) (SA.x (SD.tup (SA.x SD.str (SA.x SD.str SA.nil))) SA.nil)))))) (SA.x (SF.sd (SF.lst (SA.x SD.str SA.nil))) SA.nil))))) SSs.nil)
  (SSs.cons (SS.ife (ST.cm gd (SD.v 0) SD.int) (SSs.one (SS.retR (SE.fn gd (c__law_question h) tk (SA.x (SF.sd (SF.lst (SA.x (SD.tup (SA.x SD.str (SA.x SD.str SA.nil))) (SA.x (SD.tup (SA.x SD.str (SA.x SD.str SA.nil))) SA.nil)))) (SA.x (SF.sd (SF.lst (SA.x SD.str (SA.x SD.str SA.nil)))) SA.nil))))) SSs.nil)
  (SSs.cons (SS.ife (ST.cm gd (SD.v 0) SD.int) (SSs.one (SS.retR (SE.fn gd (c__law_question h) tk (SA.x (SF.sd (SF.lst (SA.x (SD.tup (SA.x SD.str (SA.x SD.str SA.nil))) (SA.x (SD.tup (SA.x SD.str (SA.x SD.str SA.nil))) SA.nil)))) (SA.x (SF.sd (SF.lst (SA.x SD.str SA.nil))) SA.nil))))) SSs.nil)
  (SSs.cons (SS.ife (ST.cm gd (SD.v 0) SD.int) (SSs.one (SS.retR (SE.fn gd (c__law_question h) tk (SA.x (SF.sd (SF.lst (SA.x (SD.tup (SA.x SD.str (SA.x SD.str SA.nil))) (SA.x (SD.tup (SA.x SD.str (SA.x SD.str SA.nil))) (SA.x (SD.tup (SA.x SD.str (SA.x SD.str SA.nil))) (SA.x (SD.tup (SA.x SD.str (SA.x SD.str SA.nil))) SA.nil)))))) (SA.x (SF.sd (SF.lst SA.nil)) SA.nil))))) SSs.nil)
  (SSs.one (SS.retR (SE.fn gd (c__law_question h) tk (SA.x (SF.sd (SF.lst (SA.x (SD.tup (SA.x SD.str (SA.x SD.str SA.nil))) SA.nil))) (SA.x (SF.sd (SF.lst (SA.x SD.str SA.nil))) SA.nil))))))))))))))⟩
def F__law_written : List D → Option R := runF N__law_written w__law_written.1
theorem c__law_written {G : Gx} {mg : Str → Option Value} {base : Heap} (h : Hd G mg base) : Cal G mg base 2 "_law_written" ["_law_way"] F__law_written := Cal.of h.d__law_written S__law_written (fun _ _ _ _ _ _ _ _ us hl => match us, hl with | [_], _ => rfl) (w__law_written.2 G mg base h)
end K41
set_option maxHeartbeats 4000000
namespace K41
open PySem PySem.Spec PyProof.Rows L2 Ev
def RING : D := (.ins 0 [(.tup []), (.tup [(.tup [(.str "r"), (.tup [(.str "a"), (.str "b")])]), (.tup [(.str "s"), (.tup [(.str "b"), (.str "c")])]), (.tup [(.str "t"), (.tup [(.str "a"), (.str "c")])])]), (.tup [(.str "a"), (.str "b"), (.str "c")]), (.tup [(.str "clause r a b"), (.str "clause s b c"), (.str "clause t a c"), (.str "asked")]), (.tup [(.tup [(.str "a"), (.str "b"), (.str "c")])]), (.dct [(.str "r"), (.str "s"), (.str "t")] [(.int (2)), (.int (2)), (.int (2))])])
def TWICE : D := (.ins 0 [(.tup [(.str "a")]), (.tup [(.tup [(.str "r"), (.tup [(.str "a"), (.str "b")])]), (.tup [(.str "r"), (.tup [(.str "c"), (.str "b")])])]), (.tup [(.str "a"), (.str "b"), (.str "c")]), (.tup [(.str "clause r a b"), (.str "clause r c b"), (.str "asked a")]), (.tup [(.tup [(.str "a"), (.str "b"), (.str "c")])]), (.dct [(.str "r")] [(.int (2))])])
def mk (n : Int) : Option R := match F__law_written [.int n] with
  | some (.ok d) => F__law_made [d]
  | _ => none
theorem ring_ok : mk 1 = some (.ok RING) := by kernel_rfl
theorem twice_ok : mk 2 = some (.ok TWICE) := by kernel_rfl
def wordN : R → Option Str
  | .ok _ => some "fine"
  | .ex 2 => some "question"
  | .ex 4 => some "knot"
  | .ex 3 => some "store"
  | .ex 5 => some "operation"
  | .ex _ => none
theorem word_N {G : Gx} {mg : Str → Option Value} {base : Heap} (h : Hd G mg base) {r : R} {w : Str} (e : wordN r = some w) : wordR G (chn G) "fine" r = some w := by
  unfold wordN at e
  split at e
  · cases e; rfl
  · cases e; simp [wordR, chn, chainW, h.x_InvalidQuestion_InvalidQuestion]
  · cases e; simp [wordR, chn, chainW, h.x_InvalidKnot_InvalidQuestion, h.x_InvalidKnot_InvalidKnot]
  · cases e; simp [wordR, chn, chainW, h.x_InvalidStore_InvalidQuestion, h.x_InvalidStore_InvalidKnot, h.x_InvalidStore_InvalidStore]
  · cases e; simp [wordR, chn, chainW, h.x_InvalidOperation_InvalidQuestion, h.x_InvalidOperation_InvalidKnot, h.x_InvalidOperation_InvalidStore, h.x_InvalidOperation_InvalidOperation]
  · cases e
end K41
set_option maxHeartbeats 4000000
namespace K41
open PySem PySem.Spec PyProof.Rows L2 Ev
def N_dice : List Str := ["_law_script", "_law_spot", "_law_cell", "_law_left"]
theorem S_dice : FnScope N_dice ["_law_script", "_law_spot"] (defScope (top 100)) := ⟨rfl, rfl, rfl, by decide +kernel, rfl, by decide +kernel, by decide +kernel⟩
theorem op_mulW {X : Cx} : OpR X (binaryOp .Mult) (rI (fun i j => IntMulOk i j) fun i j => .int (i * j)) := opI fun _ _ _ _ _ _ _ hc q => mul_int q hc
theorem mulW_ok : IntMulOk (10 ^ (60 : Int).toNat) (10 ^ (60 : Int).toNat) := by unfold IntMulOk; decide +kernel
theorem ok_dice {G : Gx} {mg : Str → Option Value} {base : Heap} (h : Hd G mg base) : CalS G mg base 1 "_law_dice" ["_law_script", "_law_spot"] (spDice G.K) := by
  obtain ⟨f, fd, F, hm⟩ := h.d__law_dice
  refine ⟨f, fd, F.ok S_dice (fun vs H Q E q => ?_) (fun cdv A outer s H vs Q E hr q => ⟨_, pss_cons (ps_set (i := 2) S_dice.nd rfl (Or.inl rfl) (pe_ifExp (pt_cmpR op_lt (pv 1) (pe_callB call_len rfl h.n_len rfl (pa_cons (pv 0) pa_nil)) rfl) (pe_callTy call_int1 rfl h.n_int rfl (pa_cons (ixl (pv 0) (pv 1)) pa_nil)) (pe_op op_add (pe_op op_mul pe_int (pv 1)) pe_int)))
    (pss_cons (ps_set (i := 3) S_dice.nd rfl (Or.inl rfl) (pe_op op_mod (pe_callB (call_max2 rfl) rfl h.n_max rfl (pa_cons pe_int (pa_cons (pe_op op_sub (pe_callB call_abs rfl h.n_abs rfl (pa_cons (pv 2) pa_nil)) (pe_op op_pow pe_int pe_int)) pa_nil))) (pe_op op_mulW (pe_op op_pow pe_int pe_int) (pe_op op_pow pe_int pe_int))))
    (pss_one (ps_ret (pe_lst (pa_cons (pv 3) (pa_cons (pe_op op_add (pe_op op_add (pe_op op_add (pe_op op_mul (pe_op op_mod (pe_callB call_abs rfl h.n_abs rfl (pa_cons (pv 2) pa_nil)) pe_int) pe_int) (pe_op op_mul pe_int (pv 1))) (pe_op op_mul pe_int (pe_callTy call_int1 rfl h.n_int rfl (pa_cons (pe_cmpR op_lt (pv 2) pe_int rfl) pa_nil)))) pe_int) (pa_cons pe_int pa_nil))))))), ?_⟩), hm, F.kp, F.bindsN fun _ _ _ _ _ _ us hl => match us, hl with | [_, _], _ => rfl⟩
  · obtain ⟨a, ns, i, rfl, _⟩ := q
    rfl
  · obtain ⟨a, ns, i, rfl, sq, hi, hq⟩ := q
    refine ⟨_, rfl, _, rfl, _, ns.length, rfl, .inl ⟨ns.map V.int, sq, by simp⟩, i, ns.length, rfl, rfl, _, rfl, ?_⟩
    have e16 : CPow 10 16 := ⟨by decide, by decide, by decide⟩
    have e60 : CPow 10 60 := ⟨by decide, by decide, by decide⟩
    have pos : (0 : Int) < 10 ^ (60 : Int).toNat * 10 ^ (60 : Int).toNat := by decide +kernel
    by_cases hlt : (i : Int) < (ns.length : Int)
    · rw [show decide ((i : Int) < (ns.length : Int)) = true from decide_eq_true hlt]
      refine iteT ?_
      have hl : i < ns.length := by omega
      refine ⟨_, rfl, _, rfl, a, ns.map V.int, i, .int ns[i], rfl, rfl, sq, ?_, .inl ⟨ns[i], rfl, ?_⟩⟩
      · unfold atI ixN
        rw [if_pos (by omega), if_pos (by simp; omega)]
        simp [hl]
      · generalize ns[i] = cell
        refine ⟨_, rfl, cell, rfl, 10, 16, rfl, rfl, e16, _, _, rfl, rfl, 0, _, rfl, 10, 60, rfl, rfl, e60, 10, 60, rfl, rfl, e60, _, _, rfl, rfl, mulW_ok, _, _, rfl, rfl, pos, ?_⟩
        refine ⟨_, rfl, _, rfl, cell, rfl, _, _, rfl, rfl, (show (0 : Int) < 1152921504606846869 by decide), _, _, rfl, rfl, .inr ⟨by decide, by decide⟩, _, rfl, _, _, rfl, rfl, .inl ⟨by decide, by decide⟩, _, _, rfl, rfl, _, rfl, _, _, rfl, rfl, .inr ⟨_, rfl, _, _, rfl, rfl, .inl ⟨by decide, by decide⟩, _, _, rfl, rfl, _, _, rfl, rfl, ?_⟩⟩
        exact ⟨by simp [sizeLine_eq], fun p hp => hq p _ _ hp (Int.emod_nonneg _ (by omega))⟩
    · rw [show decide ((i : Int) < (ns.length : Int)) = false from decide_eq_false hlt]
      refine iteF ?_
      refine ⟨_, rfl, 61, i, rfl, rfl, .inl ⟨by decide, by decide⟩, _, 23, rfl, rfl, ?_⟩
      refine ⟨_, rfl, _, rfl, 10, 16, rfl, rfl, e16, _, _, rfl, rfl, 0, _, rfl, 10, 60, rfl, rfl, e60, 10, 60, rfl, rfl, e60, _, _, rfl, rfl, mulW_ok, _, _, rfl, rfl, pos, ?_⟩
      refine ⟨_, rfl, _, rfl, _, rfl, _, _, rfl, rfl, (show (0 : Int) < 1152921504606846869 by decide), _, _, rfl, rfl, .inr ⟨by decide, by decide⟩, _, rfl, _, _, rfl, rfl, .inl ⟨by decide, by decide⟩, _, _, rfl, rfl, _, rfl, _, _, rfl, rfl, .inr ⟨_, rfl, _, _, rfl, rfl, .inl ⟨by decide, by decide⟩, _, _, rfl, rfl, _, _, rfl, rfl, ?_⟩⟩
      exact ⟨by simp [sizeLine_eq], fun p hp => hq p _ _ hp (Int.emod_nonneg _ (by omega))⟩
end K41
set_option maxHeartbeats 4000000
/-! list + list, list * int; the law's rules with their small premises filled in -/
namespace Ev
open PySem PySem.Spec PyProof.Rows L2
open LamX (Tabs TabS CodeO ExtN)
def cCatL (f g : Env → Option D) : Env → Option D := fun env => match f env, g env with
  | some (.lst xs), some (.lst ys) => if xs.length + ys.length ≤ 100000 then some (.lst (xs ++ ys)) else none
  | _, _ => none
def cRepL (f g : Env → Option D) : Env → Option D := fun env => match f env, g env with
  | some (.lst xs), some (.int k) => if 0 ≤ k ∧ k ≤ 1000 ∧ xs.length ≤ 100 then some (.lst (List.replicate k.toNat xs).flatten) else none
  | _, _ => none
theorem RelDs.rep {G : Gx} {Kn : Hp} {ds : List D} {vs : List V} (r : RelDs G Kn ds vs) : ∀ n : Nat, RelDs G Kn (List.replicate n ds).flatten (List.replicate n vs).flatten
  | 0 => .nil
  | n + 1 => by
    rw [List.replicate_succ, List.replicate_succ, List.flatten_cons, List.flatten_cons]
    exact r.append (RelDs.rep r n)
section
variable {X : Cx} {G : Gx} {a b : Expr} {pos : Pos} {f g : Env → Option D}
theorem SF.cat (ha : SD X G a f) (hb : SD X G b g) : SF X G (.BinOp a .Add b pos) (cCatL f g) := fun env d h => by
  unfold cCatL at h
  split at h
  · rename_i xs ys e1 e2
    split at h
    · rename_i hz
      cases h
      exact pf_bin op_cat (ha _ _ e1) (hb _ _ e2) fun Kn H v u Q ex rx ry q => by
        cases rx with
        | lst h1 r1 =>
          cases ry with
          | lst h2 r2 => exact ⟨_, _, _, _, rfl, rfl, ex _ _ h1, ex _ _ h2, Evl.sz_of (by rw [← r1.length, ← r2.length]; exact hz), fun p hp => q p _ Kn (Step.own ex hp) hp (known_none ex hp) (.lst upd_same (r1.append r2))⟩
    · cases h
  · cases h
theorem SF.rep (ha : SD X G a f) (hb : SD X G b g) : SF X G (.BinOp a .Mult b pos) (cRepL f g) := fun env d h => by
  unfold cRepL at h
  split at h
  · rename_i xs k e1 e2
    split at h
    · rename_i hz
      cases h
      exact pf_bin op_rep (ha _ _ e1) (hb _ _ e2) fun Kn H v u Q ex rx ry q => by
        cases rx with
        | lst h1 r1 =>
          cases ry with
          | int _ =>
            refine ⟨_, _, _, rfl, rfl, ex _ _ h1, by omega, by omega, Evl.sz_of ?_, fun p hp => q p _ Kn (Step.own ex hp) hp (known_none ex hp) (.lst upd_same (r1.rep _))⟩
            rw [← r1.length]
            have h3 : k.toNat ≤ 1000 := by omega
            calc xs.length * k.toNat ≤ 100 * 1000 := Nat.mul_le_mul hz.2.2 h3
              _ ≤ 100000 := by decide
    · cases h
  · cases h
end
section
variable {X : Cx} {G : Gx} {T : List (Addr × Str)} {st : Stmt} {sts : List Stmt} {env env1 : EnvS} {o : OL} {e : Expr} {es : List Expr} {pos pos' : Pos} {mg : Str → Option Value} {base : Heap} {k : Nat}
/-- x = _law_pick(dice, [..]) -/
theorem LJ.pk (i j : Nat) {n : Nat} {x y : Str} {p : Addr} {p1 p2 pc : Pos} {fe : Env → Option D} (ds : List D) (C : CalS G mg base 2 "_law_pick" ["_law_dice_here", "_law_items"] spPick) (gd : Gd X G mg base k) (he : SF X G e fe) (hds : fe (see env) = some (.lst ds))
    (h : ∀ d ∈ ds, LJ X G T sts (env.set i (.fr d)) o) (hn : 2 ≤ k := by decide) (hd : env[j]? = some (.ow (.di p n)) := by rfl) (hne : ds ≠ [] := by exact fun z => nomatch z) (hlen : ds.length < 1000000 := by decide)
    (hi : X.N[i]? = some x := by rfl) (hx : Loc X.env.scope x := by first | exact Or.inl rfl | exact Or.inr rfl) (hj : X.N[j]? = some y := by rfl) (hvj : Vis X.env.scope y := by first | exact Or.inl rfl | exact Or.inr (Or.inl rfl) | exact Or.inr (Or.inr rfl)) (hdj : (y == ("__debug__" : Str)) = false := by decide +kernel) (hcj : (y == ("__classdict__" : Str)) = false := by decide +kernel) (hg : Gl X "_law_pick" := by rfl)
    (hs1 : starEach [.Name y p2, e] X.env = (false, eval (.Name y p2) X.env) :: starEach [e] X.env := by rfl) (hs2 : starEach [e] X.env = (false, eval e X.env) :: starEach [] X.env := by rfl) (hpl : (backTo pc (starEach [e] X.env)).any (·.1) = false := by rfl)
    (hsw : swapsWith (.Call (.Name "_law_pick" p1) [.Name y p2, e] [] pc) (some (.Name x pos')) pos.line X.env = pure false := by rfl) (hf : X.fn x = true ∨ X.env.scope.names.lookup x = some .local := by first | exact Or.inl rfl | exact Or.inr rfl) :
    LJ X G T (.Assign [.Name x pos'] (.Call (.Name "_law_pick" p1) [.Name y p2, e] [] pc) pos :: sts) env o := LJ.pick C gd hn he hd hds hne hlen h hi hx hj hvj hdj hcj hg hs1 hs2 hpl hsw hf
/-- .. of a list that is known -/
theorem LJ.pkD (i j : Nat) {n : Nat} {x y : Str} {p : Addr} {p1 p2 pc : Pos} {fe : Env → Option D} (ds : List D) (C : CalS G mg base 2 "_law_pick" ["_law_dice_here", "_law_items"] spPick) (gd : Gd X G mg base k) (he : SD X G e fe) (hds : fe (see env) = some (.lst ds))
    (h : ∀ d ∈ ds, LJ X G T sts (env.set i (.fr d)) o) (hn : 2 ≤ k := by decide) (hd : env[j]? = some (.ow (.di p n)) := by rfl) (hne : ds ≠ [] := by exact fun z => nomatch z) (hlen : ds.length < 1000000 := by decide)
    (hi : X.N[i]? = some x := by rfl) (hx : Loc X.env.scope x := by first | exact Or.inl rfl | exact Or.inr rfl) (hj : X.N[j]? = some y := by rfl) (hvj : Vis X.env.scope y := by first | exact Or.inl rfl | exact Or.inr (Or.inl rfl) | exact Or.inr (Or.inr rfl)) (hdj : (y == ("__debug__" : Str)) = false := by decide +kernel) (hcj : (y == ("__classdict__" : Str)) = false := by decide +kernel) (hg : Gl X "_law_pick" := by rfl)
    (hs1 : starEach [.Name y p2, e] X.env = (false, eval (.Name y p2) X.env) :: starEach [e] X.env := by rfl) (hs2 : starEach [e] X.env = (false, eval e X.env) :: starEach [] X.env := by rfl) (hpl : (backTo pc (starEach [e] X.env)).any (·.1) = false := by rfl)
    (hsw : swapsWith (.Call (.Name "_law_pick" p1) [.Name y p2, e] [] pc) (some (.Name x pos')) pos.line X.env = pure false := by rfl) (hf : X.fn x = true ∨ X.env.scope.names.lookup x = some .local := by first | exact Or.inl rfl | exact Or.inr rfl) :
    LJ X G T (.Assign [.Name x pos'] (.Call (.Name "_law_pick" p1) [.Name y p2, e] [] pc) pos :: sts) env o := fun H0 K0 n0 nk => by
  have rest : PSs X sts (fun D σ H => ∃ d, d ∈ ds ∧ tL G T H0 K0 (env.set i (.fr d)) o D σ H) := ⟨fun pins s σ H D I ⟨d, hd, q⟩ => (h d hd H0 K0 n0 nk).run pins s σ H D I q⟩
  refine PSs.weak (pss_cons (ps_set gd.hN hi hx (C.pe gd hn (pa_cons (pe_var hj hvj hdj hcj) (pa_cons (he _ _ hds) pa_nil hs2) hs1) hg (by decide +kernel) hs1 hpl) hsw hf) rest) fun D σ H ⟨⟨Kn, r⟩, t, q⟩ => ?_
  obtain ⟨p', hp', h0, hkp, ow⟩ := r.ow j _ hd
  cases ow with
  | @di n' x0 y0 z0 hp a1 a2 =>
    refine ⟨_, hp', Kn, r.st.sub, r.relE, fun v H1 K1 s1 rd => ?_⟩
    cases rd with
    | @lst l xs _ hl rr =>
      have hp1 := s1.ex _ _ hp
      have hk1 : K1 p = none := (s1.fr p _ hp).trans hkp
      have hlp : l ≠ p := fun z => by rw [z, hk1] at hl; cases hl
      refine ⟨p, l, x0, y0, z0, xs, rfl, hlp, hp1, a1, a2, s1.sub _ _ hl, fun z => hne (by subst z; cases rr; rfl), by rw [← rr.length]; exact hlen, fun v x' z' hv b1 b2 b3 => ?_⟩
      obtain ⟨d, hd1, hd2⟩ := rr.mem hv
      have r2 := (r.step s1).mut (o := .lst [.int x', .int y0, .int z']) (d' := .di p n) hd hp' (.di upd_same b1 b2)
      rw [set_at hd] at r2
      exact ⟨d, hd1, ⟨K1, r2.put hd2⟩, tabs_upd (t.ext s1.ex) hp1, q⟩
/-- told = [word] -/
theorem LJ.w1 (i : Nat) {x : Str} {w : Str} {p1 : Pos} (gd : Gd X G mg base k) (h : PE X e (tWd G T env w)) (rest : LJ X G T sts (env.set i (.ow (.lst [.str w]))) o) (hi : X.N[i]? = some x := by rfl) (hx : Loc X.env.scope x := by first | exact Or.inl rfl | exact Or.inr rfl) (hst : starEach [e] X.env = (false, eval e X.env) :: starEach [] X.env := by rfl)
    (hf : X.fn x = true ∨ X.env.scope.names.lookup x = some .local := by first | exact Or.inl rfl | exact Or.inr rfl) (hs' : swapsWith (.List [e] p1) (some (.Name x pos')) pos.line X.env = pure false := by rfl) (hs : swapsWith (.List [e] pos') (some (.Name x pos')) pos.line X.env = pure false := by rfl) :
    LJ X G T (.Assign [.Name x pos'] (.List [e] p1) pos :: sts) env o := LJ.cons (L1.word1 gd h hi hx hst hs hf hs') rest
/-- told.append(word) -/
theorem LJ.wA (i : Nat) {x w : Str} {p0 apos cpos : Pos} (ds : List D) (gd : Gd X G mg base k) (h : PE X e (tWd G T env w)) (rest : LJ X G T sts (env.set i (.ow (.lst (ds ++ [.str w])))) o) (he : env[i]? = some (.ow (.lst ds)) := by rfl) (hl : ds.length < 4096 := by decide) (hN : X.N[i]? = some x := by rfl) (hv : Vis X.env.scope x := by first | exact Or.inl rfl | exact Or.inr (Or.inl rfl) | exact Or.inr (Or.inr rfl)) (hd : (x == ("__debug__" : Str)) = false := by decide +kernel) (hcd : (x == ("__classdict__" : Str)) = false := by decide +kernel)
    (hbase : attributeBase (.Name x p0) "append" X.env (eval (.Name x p0) X.env) = eval (.Name x p0) X.env := by rfl)
    (hfew : ((backTo cpos (starEach [e] X.env)).all (fun x => !x.1) && (backToKw cpos (keywordEach [] X.env)).all (fun x => x.1.isSome)
      && decide (([e] : List Expr).length + ([] : List Keyword).length + (if ([] : List Keyword).isEmpty then 0 else 1) < 30)) = true := by rfl)
    (hline : (apos.endLine == cpos.line) = true := by rfl) (hs : starEach [e] X.env = (false, eval e X.env) :: starEach [] X.env := by rfl) (hsw : swapsWith (.Call (.Attribute (.Name x p0) "append" apos) [e] [] cpos) none pos.line X.env = pure false := by rfl) :
    LJ X G T (.Expr (.Call (.Attribute (.Name x p0) "append" apos) [e] [] cpos) pos :: sts) env o := LJ.cons (L1.wordA gd h he hl hN hv hd hcd hbase hfew hline hs hsw) rest
theorem LJ.ss {E : XK} {g : EnvS → Option O} (h : SS X G E st g) (hg : g env = some (.nx env1)) (rest : LJ X G T sts env1 o) : LJ X G T (st :: sts) env o := LJ.cons (L1.ss h hg) rest
theorem LJ.ret {f : Env → Option D} {d : D} (h : SD X G e f) (hf : f (see env) = some d) (l : LeE env1 env) : LJ X G T [.Return (some e) pos] env (.rt d env1) := LJ.one (L1.retW h hf l)
theorem LJ.rng {m : Nat} (s : Nat) {x : Str} {px p : Pos} {body : List Stmt} (gd : Gd X G mg base k) (hp : Own_ X) (hm : mg "range" = none) (hn : LN X G T e env m) (hb : ∀ i : Nat, i < m → LJ X G T body (env.set s (.fr (.int i))) (.nx env)) (rest : LJ X G T sts env o) (hm2 : m < 1000000 := by decide)
    (hs : X.N[s]? = some x := by rfl) (hx : Loc X.env.scope x := by first | exact Or.inl rfl | exact Or.inr rfl) (hf : X.fn x = true ∨ X.env.scope.names.lookup x = some .local := by first | exact Or.inl rfl | exact Or.inr rfl) (hg : Gl X "range" := by rfl) (hst : starEach [e] X.env = [(false, eval e X.env)] := by rfl) (hfo : ∀ y, foldedSetIterable (.Call (.Name "range" p) [e] [] pos) X.env y = pure y := by exact fun _ => rfl) :
    LJ X G T (.For (.Name x px) (.Call (.Name "range" p) [e] [] pos) body [] pos' :: sts) env o := LJ.cons (L1.rng gd hp hm hn hm2 hb hs hx hf hg hst hfo) rest
theorem LN.sc (s : Nat) {c m : Nat} {y : Str} {j1 j2 : Nat} {p1 p2 p3 p4 p5 p6 p7 p8 : Pos} (gd : Gd X G mg base k) (h1 : mg "max" = none) (h2 : mg "min" = none) (h3 : mg "len" = none) (h0 : env[s]? = some (.fr (.cl 99)) := by rfl) (hc : c ≤ m := by decide) (hN : X.N[s]? = some y := by rfl)
    (hv : Vis X.env.scope y := by first | exact Or.inl rfl | exact Or.inr (Or.inl rfl) | exact Or.inr (Or.inr rfl)) (hd : (y == ("__debug__" : Str)) = false := by decide +kernel) (hcd : (y == ("__classdict__" : Str)) = false := by decide +kernel) (g1 : Gl X "max" := by rfl) (g2 : Gl X "min" := by rfl) (g3 : Gl X "len" := by rfl) :
    LN X G T (.Call (.Name "max" p1) [.Constant (.int c) j1 p2, .Call (.Name "min" p3) [.Constant (.int m) j2 p4, .Call (.Name "len" p5) [.Name y p6] [] p7] [] p8] [] pos) env m := LN.script gd h0 hc h1 h2 h3 hN hv hd hcd g1 g2 g3
theorem LJ.di (i j s : Nat) {m : Nat} {x y z : Str} {p1 p2 p3 pc : Pos} (C : CalS G mg base 1 "_law_dice" ["_law_script", "_law_spot"] (spDice G.K)) (gd : Gd X G mg base k) (hm : m < 1000) (h : ∀ p, LJ X G T sts (env.set j (.ow (.di p 0))) o) (hn : 1 ≤ k := by decide) (h0 : env[s]? = some (.fr (.cl 99)) := by rfl) (hi : env[i]? = some (.fr (.int m)) := by rfl)
    (hj : X.N[j]? = some x := by rfl) (hx : Loc X.env.scope x := by first | exact Or.inl rfl | exact Or.inr rfl) (hNs : X.N[s]? = some y := by rfl) (hvs : Vis X.env.scope y := by first | exact Or.inl rfl | exact Or.inr (Or.inl rfl) | exact Or.inr (Or.inr rfl)) (hds : (y == ("__debug__" : Str)) = false := by decide +kernel) (hcs : (y == ("__classdict__" : Str)) = false := by decide +kernel)
    (hNi : X.N[i]? = some z := by rfl) (hvi : Vis X.env.scope z := by first | exact Or.inl rfl | exact Or.inr (Or.inl rfl) | exact Or.inr (Or.inr rfl)) (hdi : (z == ("__debug__" : Str)) = false := by decide +kernel) (hci : (z == ("__classdict__" : Str)) = false := by decide +kernel) (hg : Gl X "_law_dice" := by rfl)
    (hsw : swapsWith (.Call (.Name "_law_dice" p1) [.Name y p2, .Name z p3] [] pc) (some (.Name x pos')) pos.line X.env = pure false := by rfl) (hf : X.fn x = true ∨ X.env.scope.names.lookup x = some .local := by first | exact Or.inl rfl | exact Or.inr rfl) :
    LJ X G T (.Assign [.Name x pos'] (.Call (.Name "_law_dice" p1) [.Name y p2, .Name z p3] [] pc) pos :: sts) env o := LJ.dice C gd hn h0 hi hm h hj hx hNs hvs hds hcs hNi hvi hdi hci hg hsw hf
theorem LT.ca (j : Nat) {n : Nat} {f x : Str} {ps : List Str} {ds : List D} {b : Bool} {p : Addr} {p1 p2 : Pos} {g : Env → Option (List D)} (C : CalS G mg base n f ps (spT G T ds b ps.length)) (gd : Gd X G mg base k) (ha : SA X G es g) (hn : n ≤ k := by decide) (hd : env[j]? = some (.ow (.di p 0)) := by rfl) (hg : g (see env) = some ds := by rfl) (hl : es.length + 1 = ps.length := by rfl) (hle : ds.length = es.length := by rfl)
    (hj : X.N[j]? = some x := by rfl) (hvj : Vis X.env.scope x := by first | exact Or.inl rfl | exact Or.inr (Or.inl rfl) | exact Or.inr (Or.inr rfl)) (hdj : (x == ("__debug__" : Str)) = false := by decide +kernel) (hcj : (x == ("__classdict__" : Str)) = false := by decide +kernel) (hgl : Gl X f := by rfl) (hdb : (f == ("__debug__" : Str)) = false := by decide +kernel)
    (hst : starEach (.Name x p2 :: es) X.env = (false, eval (.Name x p2) X.env) :: starEach es X.env := by rfl) (hpl : (backTo pos (starEach es X.env)).any (·.1) = false := by rfl) :
    LT X G T (.Call (.Name f p1) (.Name x p2 :: es) [] pos) env b := LT.call C gd hn hd ha hg hl hle hj hvj hdj hcj hgl hdb hst hpl
/-- if ..: (not taken) -/
theorem LJ.ifF {body : List Stmt} {tb : TS} (h : LT X G T e env false) (hb : PSs X body tb) (rest : LJ X G T sts env o) : LJ X G T (.If e body [] pos :: sts) env o := LJ.cons (L1.ifF h hb) rest
end
/-! ### the law itself -/
def spLawT (K : PySem.W.Frag) (T : List (Addr × Str)) : Sp := fun vs H Q _ => ∃ (a : Addr) (ns : List Int), vs = [.ref a] ∧ SqL K H a (ns.map V.int) ∧ Tabs T H ∧ ∀ H', Q (.bl true) H'
theorem strip_sqL {K : PySem.W.Frag} {H : Hp} {a : Addr} {xs : List V} (h : SqL K H a xs) : SqL K (strip H) a xs := by
  rcases h with (h | ⟨o, h⟩) | h
  · exact .inl (.inl (strip_at h fun _ z => nomatch z))
  · exact .inl (.inr ⟨o, strip_at h fun _ z => nomatch z⟩)
  · exact .inr h
theorem law_fn {P : Program} {w : World} {K : PySem.W.Frag} {mg : Str → Option Value} {base : Heap} {k : Nat} {N : List Str} {st : Stmt} {x y : Str} {ca f : Addr} {fd : FuncData} {T : List (Addr × Str)} {r : EnvS} (cad : Addr → Nat → Addr) (h99 : ∀ a, cad a 99 = a)
    (F : FunD K x x (defArgs st) (defBody st) (defScope st) [] [] f fd) (hc : fd.code = .ref ca) (S : FnScope (y :: N) [y] (defScope st))
    (hbody : ∀ (a : Addr) (A : Around) (outer : List PySem.Env) (s : Shared) (H : Hp) (E : XK), Gd (cxD ⟨P, w, K, cad a⟩ mg base (y :: N) x (defScope st) f (.ref ca) A outer s H E) ⟨P, w, K, cad a⟩ mg base k → Own_ (cxD ⟨P, w, K, cad a⟩ mg base (y :: N) x (defScope st) f (.ref ca) A outer s H E) →
      LJ (cxD ⟨P, w, K, cad a⟩ mg base (y :: N) x (defScope st) f (.ref ca) A outer s H E) ⟨P, w, K, cad a⟩ T (defBody st) (startS (y :: N) [.cl 99]) (.rt (.bl true) r)) :
    FnOk P w K mg base (L2.CX P w) (k + 1) f fd [y] (spLawT K T) := by
  obtain ⟨oc, od, dV, kV, doc, pm, an, cdv, ct, osl, rfl, lk, hcd, hD, hK⟩ := F.ex
  have hc2 : cdv = .ref ca := hc
  subst hc2
  refine fn_of lk hcd S (fun vs H Q E q => ?_) fun A outer s H vs Q E hr q => ?_
  · obtain ⟨a, ns, rfl, _⟩ := q
    rfl
  · obtain ⟨a, ns, rfl, sq, t, hq⟩ := q
    have e0 : Ex (fun _ => none) H := fun _ _ z => nomatch z
    have rd : RelDs ⟨P, w, K, cad a⟩ (fun _ => none) [.cl 99] [.ref a] := .cons (by
      have z := RelD.cl (G := ⟨P, w, K, cad a⟩) (Kn := fun _ => none) 99
      have e : (Gx.mk P w K (cad a)).cad 99 = a := h99 a
      rw [e] at z
      exact z) .nil
    have rs := (start_rs (N := y :: N) e0 rd (by simp)).less (H1 := strip H) (fun a o h => (strip_of h).1)
    refine ⟨_, hbody a A outer s H E ⟨rfl, rfl, rfl, rfl, rfl, rfl, S.nd, hr⟩ (passes_of rfl) (strip H) (fun _ => none) ⟨strip_no, ns, ?_⟩ (fun _ _ z => nomatch z), ⟨_, rs⟩, t, fun v σ' H' K' r' t' rv => ?_⟩
    · have e : (Gx.mk P w K (cad a)).cad 99 = a := h99 a
      rw [e]
      exact strip_sqL sq
    · cases rv
      exact hq H'
end Ev
namespace Ev
open PySem PySem.Spec PyProof.Rows L2
/-- a def that makes lambdas: its code object, its table -/
def LmAt (X : Cx) (T : List (Addr × Str)) (base : Heap) (mg : Str → Option Value) : Prop := ∃ c P, LamX.TabB base mg c P ∧ X.env.code = .ref c ∧ (P, X.env.qual ++ "<lambda>") ∈ T ∧ ∀ p ∈ T, p.1 = P → p.2 = X.env.qual ++ "<lambda>"
end Ev
namespace Ev
open PySem PySem.Spec PyProof.Rows L2
theorem LJ.as {X : Cx} {G : Gx} {T : List (Addr × Str)} {sts : List Stmt} {env : EnvS} {o : OL} (env1 : EnvS) (h : LJ X G T sts env1 o) (e : env = env1 := by rfl) : LJ X G T sts env o := e ▸ h
end Ev
namespace Ev
open PySem PySem.Spec PyProof.Rows L2
theorem LJ.frz {X : Cx} {G : Gx} {T : List (Addr × Str)} {sts : List Stmt} {env : EnvS} {o : OL} (is : List Nat) (h : LJ X G T sts (frzL is env) o) : LJ X G T sts env o := fun H0 K0 n0 nk => ⟨fun pins s σ H D I ⟨⟨Kn, r⟩, t, q⟩ => by
  obtain ⟨H1, K1, I1, r1⟩ := frz_runL I r.rebase2 is
  exact (h H0 K0 n0 nk).run pins s σ H1 D I1 ⟨⟨K1, r.un r1⟩, tabs_keep I r t r1.st.ex, q⟩⟩
end Ev
namespace Ev
open PySem PySem.Spec PyProof.Rows L2
theorem cFn_w {F : List D → Option R} {n : Nat} {g : Env → Option (List D)} {env : Env} {ds : List D} {wN : R → Option Str} {w : Str} (q : (F ds).bind wN = some w) (h : g env = some ds) (hl : ds.length = n) : (cFn F (nArg n g) env).bind wN = some w := by
  have e : cFn F (nArg n g) env = F ds := by
    unfold cFn nArg
    rw [h]
    simp [hl]
  rw [e]
  exact q
end Ev
set_option maxHeartbeats 4000000
namespace K41
open PySem PySem.Spec PyProof.Rows L2 Ev
theorem pw {X : Cx} {G : Gx} {T : List (Addr × Str)} {env : EnvS} {mg : Str → Option Value} {base : Heap} {k : Nat} {params : Arguments} {body : Expr} {scope : Scope} {lpos p pos : Pos} {w : Str} {f : Ev.Env → Option R}
    (h : Hd G mg base) (gd : Gd X G mg base (k + 2)) (lm : LmAt X T base mg) (hbody : LamB X G mg base k scope body f) (hfw : (f (see env)).bind wordN = some w)
    (L : LamX.LamS X.env.scope scope := by exact LamX.lamS_by (by kernel_rfl)) (hdef : defaultsOf params X.env = ([], []) := by rfl)
    (hbind : ∀ (q : Str) (cl : List (Str × Addr)) (pm cv ctv : Value), bindArgs (PySem.W.kla_fn "<lambda>" q params body scope cl pm cv ctv) ⟨[], []⟩ = pure [] := by exact fun _ _ _ _ _ => rfl) (hg : Gl X "_law_word" := by rfl) :
    PE X (.Call (.Name "_law_word" p) [.Lambda params body scope lpos] [] pos) (tWd G T env w) := by
  obtain ⟨c, P, TB, hcode, hmT, hu⟩ := lm
  cases e : f (see env) with
  | none => rw [e] at hfw; cases hfw
  | some r =>
    rw [e] at hfw
    have hw : wordN r = some w := hfw
    exact pe_word gd h.d__law_word S_word (fun _ _ _ _ _ _ _ _ us hl => match us, hl with | [_], _ => rfl) rfl (Or.inl rfl) (fun g cdv => word_G h gd _ g cdv) TB hcode hmT hu hbody e (by rw [word_N h hw]) L hdef hbind hg (by decide +kernel) (by decide +kernel) (by decide +kernel)
def TB (K : PySem.W.Frag) : List (Addr × Str) := [((He.cT K ("_law_right", none)).2, ("_law_right" : Str) ++ ".<locals>." ++ "<lambda>"), ((He.cT K ("law", none)).2, ("law" : Str) ++ ".<locals>." ++ "<lambda>")]
end K41
set_option maxHeartbeats 4000000
namespace K41
open PySem PySem.Spec PyProof.Rows L2 Ev
def cnames : List Str := ["Question", "Store", "InvalidQuestion", "InvalidStore", "InvalidKnot", "InvalidOperation"]
def cadK (K : PySem.W.Frag) (a : Addr) (c : Nat) : Addr := match c with
  | 0 => He.ga K "Question"
  | 1 => He.ga K "Store"
  | 2 => He.ga K "InvalidQuestion"
  | 3 => He.ga K "InvalidStore"
  | 4 => He.ga K "InvalidKnot"
  | 5 => He.ga K "InvalidOperation"
  | _ => a
abbrev gx (P : Program) (w : World) (K : PySem.W.Frag) (a : Addr) : Gx := ⟨P, w, K, cadK K a⟩
theorem isiC_a (K : PySem.W.Frag) (a : Addr) : isiC K (cadK K a) isiTab isiCls = isiC K (cadK K 0) isiTab isiCls := by rfl
def fa0 : List He.Fa := [.free "isinstance", .free "tuple", .free "len", .int "MAX_CLAUSES" 8, .free "all", .free "str", .int "MAX_LETTERS" 8, .str "LETTERS" "abcdefghijklmnopqrstuvwxyz"]
def fa1 : List He.Fa := [.glo "is_name", .glo "are_names", .int "MAX_COLUMNS" 8, .glo "is_clause", .free "zip", .free "sorted", .glo "columns_in", .glo "widths_in"]
def fa2 : List He.Fa := [.glo "are_clauses", .free "set", .glo "are_asked", .glo "InvalidQuestion", .free "any", .glo "lots_by", .str "CLAUSE" "clause", .glo "clause_text"]
def fa3 : List He.Fa := [.str "ASKED" "asked", .glo "Question", .free "dict", .int "MAX_TABLES" 16, .free "int", .free "bool", .int "GREAT" 1000000000000000000000000000000000000000000000000000000000000, .glo "is_integer"]
def fa4 : List He.Fa := [.glo "is_count", .int "MAX_WIDTH" 8, .glo "is_width", .glo "are_tables", .int "MAX_ROWS" 3000, .glo "is_row", .glo "are_table_rows", .free "sum"]
def fa5 : List He.Fa := [.glo "are_rows_of", .glo "InvalidStore", .glo "Store", .glo "require_question", .glo "sets_of", .free "list", .glo "cutting", .glo "is_link"]
def fa6 : List He.Fa := [.glo "InvalidOperation", .free "min", .free "max", .glo "tree_of", .glo "join_tree", .glo "are_links", .glo "is_join_tree", .glo "is_cutting"]
def fa7 : List He.Fa := [.glo "knot_of", .str "CROWN" "crown", .int "MIN_CROWN" 3, .glo "is_less", .glo "greatest_traces", .free "range", .glo "without_each", .glo "is_crown"]
def fa8 : List He.Fa := [.str "RING" "ring", .int "MIN_RING" 4, .glo "is_ring", .glo "is_right_knot", .glo "is_knot", .glo "require_plain", .glo "InvalidKnot", .glo "crown_choices"]
def fa9 : List He.Fa := [.glo "choices_in", .glo "stuck_by", .glo "stuck_store", .glo "require_store", .glo "fits", .glo "parts_at", .glo "do_agree", .glo "all_agree"]
def fa10 : List He.Fa := [.glo "is_stuck", .glo "are_agreeing", .glo "_law_question", .glo "_law_made", .glo "_law_written", .glo "_law_dice", .glo "_law_roll", .glo "_law_pick"]
def fa11 : List He.Fa := [.glo "_law_word", .glo "_law_right", .glo "law", .free "abs"]
def fa : List He.Fa := fa0 ++ fa1 ++ fa2 ++ fa3 ++ fa4 ++ fa5 ++ fa6 ++ fa7 ++ fa8 ++ fa9 ++ fa10 ++ fa11
def df0 : List Df := [⟨.p "Question" "clauses", "clauses", "Question.clauses", (inn 31 3)⟩, ⟨.p "Question" "lines", "lines", "Question.lines", (inn 31 5)⟩, ⟨.d "is_name", "is_name", "is_name", (top 16)⟩, ⟨.d "are_names", "are_names", "are_names", (top 17)⟩, ⟨.d "is_clause", "is_clause", "is_clause", (top 24)⟩, ⟨.d "columns_in", "columns_in", "columns_in", (top 25)⟩, ⟨.d "widths_in", "widths_in", "widths_in", (top 27)⟩, ⟨.d "are_clauses", "are_clauses", "are_clauses", (top 26)⟩]
def df1 : List Df := [⟨.d "are_asked", "are_asked", "are_asked", (top 28)⟩, ⟨.d "lots_by", "lots_by", "lots_by", (top 30)⟩, ⟨.d "clause_text", "clause_text", "clause_text", (top 29)⟩, ⟨.m "Question" "__init__", "__init__", "Question.__init__", (inn 31 1)⟩, ⟨.d "is_integer", "is_integer", "is_integer", (top 14)⟩, ⟨.d "is_count", "is_count", "is_count", (top 15)⟩, ⟨.d "is_width", "is_width", "is_width", (top 38)⟩, ⟨.d "are_tables", "are_tables", "are_tables", (top 39)⟩]
def df2 : List Df := [⟨.d "is_row", "is_row", "is_row", (top 18)⟩, ⟨.d "are_table_rows", "are_table_rows", "are_table_rows", (top 40)⟩, ⟨.d "are_rows_of", "are_rows_of", "are_rows_of", (top 41)⟩, ⟨.m "Store" "__init__", "__init__", "Store.__init__", (inn 44 1)⟩, ⟨.d "require_question", "require_question", "require_question", (top 32)⟩, ⟨.d "sets_of", "sets_of", "sets_of", (top 86)⟩, ⟨.d "cutting", "cutting", "cutting", (top 95)⟩, ⟨.d "is_link", "is_link", "is_link", (top 87)⟩]
def df3 : List Df := [⟨.d "tree_of", "tree_of", "tree_of", (top 97)⟩, ⟨.d "join_tree", "join_tree", "join_tree", (top 98)⟩, ⟨.d "are_links", "are_links", "are_links", (top 88)⟩, ⟨.d "is_join_tree", "is_join_tree", "is_join_tree", (top 91)⟩, ⟨.d "is_cutting", "is_cutting", "is_cutting", (top 96)⟩, ⟨.d "knot_of", "knot_of", "knot_of", (top 70)⟩, ⟨.p "Question" "columns", "columns", "Question.columns", (inn 31 6)⟩, ⟨.d "is_less", "is_less", "is_less", (top 61)⟩]
def df4 : List Df := [⟨.d "greatest_traces", "greatest_traces", "greatest_traces", (top 60)⟩, ⟨.d "without_each", "without_each", "without_each", (top 62)⟩, ⟨.d "is_crown", "is_crown", "is_crown", (top 63)⟩, ⟨.d "is_ring", "is_ring", "is_ring", (top 65)⟩, ⟨.d "is_right_knot", "is_right_knot", "is_right_knot", (top 71)⟩, ⟨.d "is_knot", "is_knot", "is_knot", (top 72)⟩, ⟨.p "Question" "is_plain", "is_plain", "Question.is_plain", (inn 31 8)⟩, ⟨.d "require_plain", "require_plain", "require_plain", (top 73)⟩]
def df5 : List Df := [⟨.d "crown_choices", "crown_choices", "crown_choices", (top 75)⟩, ⟨.d "choices_in", "choices_in", "choices_in", (top 76)⟩, ⟨.p "Question" "tables", "tables", "Question.tables", (inn 31 7)⟩, ⟨.d "stuck_by", "stuck_by", "stuck_by", (top 77)⟩, ⟨.d "stuck_store", "stuck_store", "stuck_store", (top 78)⟩, ⟨.d "require_store", "require_store", "require_store", (top 45)⟩, ⟨.d "fits", "fits", "fits", (top 49)⟩, ⟨.m "Store" "require_table", "require_table", "Store.require_table", (inn 44 6)⟩]
def df6 : List Df := [⟨.m "Store" "rows", "rows", "Store.rows", (inn 44 7)⟩, ⟨.d "parts_at", "parts_at", "parts_at", (top 80)⟩, ⟨.d "do_agree", "do_agree", "do_agree", (top 81)⟩, ⟨.d "all_agree", "all_agree", "all_agree", (top 82)⟩, ⟨.d "is_stuck", "is_stuck", "is_stuck", (top 84)⟩, ⟨.d "are_agreeing", "are_agreeing", "are_agreeing", (top 83)⟩, ⟨.d "_law_question", "_law_question", "_law_question", (top 103)⟩, ⟨.d "_law_made", "_law_made", "_law_made", (top 104)⟩]
def df7 : List Df := [⟨.d "_law_written", "_law_written", "_law_written", (top 105)⟩, ⟨.d "_law_dice", "_law_dice", "_law_dice", (top 100)⟩, ⟨.d "_law_roll", "_law_roll", "_law_roll", (top 101)⟩, ⟨.d "_law_pick", "_law_pick", "_law_pick", (top 102)⟩, ⟨.d "_law_word", "_law_word", "_law_word", (top 106)⟩, ⟨.d "_law_right", "_law_right", "_law_right", (top 107)⟩, ⟨.d "law", "law", "law", (top 108)⟩]
def df : List Df := df0 ++ df1 ++ df2 ++ df3 ++ df4 ++ df5 ++ df6 ++ df7
def ts0 : List (PySem.W.Frag → Bool) := [fun K => fldB K (He.ga K "Question") "own_clauses" 1, fun K => prpB K (He.ga K "Question") "clauses", fun K => fldB K (He.ga K "Question") "own_lines" 3, fun K => prpB K (He.ga K "Question") "lines", fun K => excB K (He.ga K "InvalidQuestion"), fun K => fldB K (He.ga K "Question") "own_asked" 0, fun K => fldB K (He.ga K "Question") "own_columns" 2, fun K => fldB K (He.ga K "Question") "own_widths" 5]
def ts1 : List (PySem.W.Frag → Bool) := [fun K => fldB K (He.ga K "Question") "own_lots" 4, fun K => mkB K (He.ga K "Question"), fun K => excB K (He.ga K "InvalidStore"), fun K => fldB K (He.ga K "Store") "own_tables" 2, fun K => fldB K (He.ga K "Store") "own_rows" 1, fun K => fldB K (He.ga K "Store") "own_pairs" 0, fun K => mkB K (He.ga K "Store"), fun K => excB K (He.ga K "InvalidOperation")]
def ts2 : List (PySem.W.Frag → Bool) := [fun K => prpB K (He.ga K "Question") "columns", fun K => prpB K (He.ga K "Question") "is_plain", fun K => excB K (He.ga K "InvalidKnot"), fun K => prpB K (He.ga K "Question") "tables", fun K => mthB K (He.ga K "Store") "require_table", fun K => mthB K (He.ga K "Store") "rows", fun K => decide ((He.cT K ("law", none)).2 ≠ (He.cT K ("_law_right", none)).2), fun K => decide (PySem.W.exmOne K (.ref (He.ga K "InvalidQuestion")) (.ref (He.ga K "InvalidQuestion")) = some true)]
def ts3 : List (PySem.W.Frag → Bool) := [fun K => decide (PySem.W.exmOne K (.ref (He.ga K "InvalidKnot")) (.ref (He.ga K "InvalidQuestion")) = some false), fun K => decide (PySem.W.exmOne K (.ref (He.ga K "InvalidKnot")) (.ref (He.ga K "InvalidKnot")) = some true), fun K => decide (PySem.W.exmOne K (.ref (He.ga K "InvalidStore")) (.ref (He.ga K "InvalidQuestion")) = some false), fun K => decide (PySem.W.exmOne K (.ref (He.ga K "InvalidStore")) (.ref (He.ga K "InvalidKnot")) = some false), fun K => decide (PySem.W.exmOne K (.ref (He.ga K "InvalidStore")) (.ref (He.ga K "InvalidStore")) = some true), fun K => decide (PySem.W.exmOne K (.ref (He.ga K "InvalidOperation")) (.ref (He.ga K "InvalidQuestion")) = some false), fun K => decide (PySem.W.exmOne K (.ref (He.ga K "InvalidOperation")) (.ref (He.ga K "InvalidKnot")) = some false), fun K => decide (PySem.W.exmOne K (.ref (He.ga K "InvalidOperation")) (.ref (He.ga K "InvalidStore")) = some false)]
def ts4 : List (PySem.W.Frag → Bool) := [fun K => decide (PySem.W.exmOne K (.ref (He.ga K "InvalidOperation")) (.ref (He.ga K "InvalidOperation")) = some true), fun K => isiC K (cadK K 0) isiTab isiCls]
def ts : List (PySem.W.Frag → Bool) := ts0 ++ ts1 ++ ts2 ++ ts3 ++ ts4
def names0 : List PySem.Str := [("_wall" : PySem.Str), ("JoinError" : PySem.Str), ("InvalidQuestion" : PySem.Str), ("InvalidClause" : PySem.Str), ("InvalidStore" : PySem.Str), ("InvalidKnot" : PySem.Str), ("InvalidOperation" : PySem.Str), ("UnknownName" : PySem.Str), ("MAX_LETTERS" : PySem.Str), ("MAX_WIDTH" : PySem.Str), ("GREAT" : PySem.Str), ("LETTERS" : PySem.Str)]
def names1 : List PySem.Str := [("is_integer" : PySem.Str), ("is_count" : PySem.Str), ("is_name" : PySem.Str), ("are_names" : PySem.Str), ("is_row" : PySem.Str), ("MAX_CLAUSES" : PySem.Str), ("MAX_COLUMNS" : PySem.Str), ("CLAUSE" : PySem.Str), ("ASKED" : PySem.Str), ("is_clause" : PySem.Str), ("columns_in" : PySem.Str), ("are_clauses" : PySem.Str)]
def names2 : List PySem.Str := [("widths_in" : PySem.Str), ("are_asked" : PySem.Str), ("clause_text" : PySem.Str), ("lots_by" : PySem.Str), ("Question" : PySem.Str), ("require_question" : PySem.Str), ("MAX_TABLES" : PySem.Str), ("MAX_ROWS" : PySem.Str), ("TABLE" : PySem.Str), ("ROW" : PySem.Str), ("is_width" : PySem.Str), ("are_tables" : PySem.Str)]
def names3 : List PySem.Str := [("are_table_rows" : PySem.Str), ("are_rows_of" : PySem.Str), ("row_line" : PySem.Str), ("rows_by_tables" : PySem.Str), ("Store" : PySem.Str), ("require_store" : PySem.Str), ("product_of" : PySem.Str), ("paired_rows" : PySem.Str), ("paired_row" : PySem.Str), ("fits" : PySem.Str), ("require_fit" : PySem.Str), ("rows_kept" : PySem.Str)]
def names4 : List PySem.Str := [("Reader" : PySem.Str), ("is_answered" : PySem.Str), ("RING" : PySem.Str), ("CROWN" : PySem.Str), ("MIN_RING" : PySem.Str), ("MIN_CROWN" : PySem.Str), ("greatest_traces" : PySem.Str), ("is_less" : PySem.Str), ("without_each" : PySem.Str), ("is_crown" : PySem.Str), ("neighbour_pairs" : PySem.Str), ("is_ring" : PySem.Str)]
def names5 : List PySem.Str := [("ring_in" : PySem.Str), ("ring_along" : PySem.Str), ("each_set" : PySem.Str), ("knot_on" : PySem.Str), ("knot_of" : PySem.Str), ("is_right_knot" : PySem.Str), ("is_knot" : PySem.Str), ("require_plain" : PySem.Str), ("ring_choices" : PySem.Str), ("crown_choices" : PySem.Str), ("choices_in" : PySem.Str), ("stuck_by" : PySem.Str)]
def names6 : List PySem.Str := [("stuck_store" : PySem.Str), ("agrees_with_itself" : PySem.Str), ("parts_at" : PySem.Str), ("do_agree" : PySem.Str), ("all_agree" : PySem.Str), ("are_agreeing" : PySem.Str), ("is_stuck" : PySem.Str), ("sets_of" : PySem.Str), ("is_link" : PySem.Str), ("are_links" : PySem.Str), ("hangs_by" : PySem.Str), ("joins" : PySem.Str)]
def names7 : List PySem.Str := [("is_join_tree" : PySem.Str), ("common_columns" : PySem.Str), ("can_cut" : PySem.Str), ("next_cut" : PySem.Str), ("cutting" : PySem.Str), ("is_cutting" : PySem.Str), ("tree_of" : PySem.Str), ("join_tree" : PySem.Str), ("_law_dice" : PySem.Str), ("_law_roll" : PySem.Str), ("_law_pick" : PySem.Str), ("_law_question" : PySem.Str)]
def names8 : List PySem.Str := [("_law_made" : PySem.Str), ("_law_written" : PySem.Str), ("_law_word" : PySem.Str), ("_law_right" : PySem.Str)]
def names : List PySem.Str := names0 ++ names1 ++ names2 ++ names3 ++ names4 ++ names5 ++ names6 ++ names7 ++ names8
def as_0 : List Addr := [3, 6, 4, 21, 31, 44, 56, 68, 80, 92, 113, 123, 130, 135, 140, 145, 152, 157, 162, 167, 172, 179, 184, 382, 397, 404, 409, 414, 419, 424, 429, 609, 621, 626, 631, 636, 641, 648, 653, 685]
def as_1 : List Addr := [697, 702, 707, 712, 719, 724, 731, 736, 741, 746, 753, 760, 765, 772, 779, 784, 789, 796, 801, 808, 813, 818, 823, 828, 835, 840, 845, 852, 857, 864, 869, 876, 881, 886, 891, 896, 901, 906, 913, 920]
def as_2 : List Addr := [927, 934, 939, 946, 953, 960, 967, 974, 0, 20, 30, 43, 55, 67, 79, 91, 112, 122, 129, 134, 139, 144, 151, 156, 161, 166, 171, 178, 183, 381, 396, 403, 408, 413, 418, 423, 428, 608, 620, 625]
def as_3 : List Addr := [630, 635, 640, 647, 652, 684, 696, 701, 706, 711, 718, 723, 730, 735, 740, 745, 752, 759, 764, 771, 778, 783, 788, 795, 800, 807, 812, 817, 822, 827, 834, 839, 844, 851, 856, 863, 868, 875, 880, 885]
def as_4 : List Addr := [890, 895, 900, 905, 912, 919, 926, 933, 938, 945, 952, 959, 966, 973, 15, 17, 18, 19, 29, 32, 42, 54, 66, 78, 90, 110, 111, 114, 117, 119, 120, 121, 124, 126, 127, 128, 131, 133, 136, 138]
def as_5 : List Addr := [141, 143, 146, 148, 149, 150, 153, 155, 158, 160, 163, 165, 168, 170, 173, 175, 176, 177, 180, 182, 192, 197, 206, 215, 223, 231, 239, 247, 255, 263, 271, 279, 286, 291, 298, 305, 312, 319, 326, 333]
def as_6 : List Addr := [340, 345, 352, 359, 366, 373, 378, 379, 383, 384, 385, 386, 387, 388, 391, 393, 394, 395, 398, 400, 401, 402, 405, 407, 410, 412, 415, 417, 420, 422, 425, 427, 437, 442, 451, 460, 466, 474, 481, 488]
def as_7 : List Addr := [495, 502, 509, 516, 523, 530, 537, 544, 551, 558, 563, 570, 577, 584, 591, 598, 605, 606, 610, 611, 612, 615, 617, 618, 619, 622, 624, 627, 629, 632, 634, 637, 639, 642, 644, 645, 646, 649, 651, 661]
def as_8 : List Addr := [666, 671, 676, 681, 682, 686, 687, 688, 691, 693, 694, 695, 698, 700, 703, 705, 708, 710, 713, 715, 716, 717, 720, 722, 725, 727, 728, 729, 732, 734, 737, 739, 742, 744, 747, 749, 750, 751, 754, 756]
def as_9 : List Addr := [757, 758, 761, 763, 766, 768, 769, 770, 773, 775, 776, 777, 780, 782, 785, 787, 790, 792, 793, 794, 797, 799, 802, 804, 805, 806, 809, 811, 814, 816, 819, 821, 824, 826, 829, 831, 832, 833, 836, 838]
def as_10 : List Addr := [841, 843, 846, 848, 849, 850, 853, 855, 858, 860, 861, 862, 865, 867, 870, 872, 873, 874, 877, 879, 882, 884, 887, 889, 892, 894, 897, 899, 902, 904, 907, 909, 910, 911, 914, 916, 917, 918, 921, 923]
def as_11 : List Addr := [924, 925, 928, 930, 931, 932, 935, 937, 940, 942, 943, 944, 947, 949, 950, 951, 954, 956, 957, 958, 961, 963, 964, 965, 968, 970, 971, 972, 109, 98, 196, 204, 205, 214, 222, 230, 238, 246, 254, 262]
def as_12 : List Addr := [270, 278, 285, 290, 297, 304, 311, 318, 325, 332, 339, 344, 351, 358, 365, 372, 377, 441, 449, 450, 459, 465, 473, 480, 487, 494, 501, 508, 515, 522, 529, 536, 543, 550, 557, 562, 569, 576, 583, 590]
def as_13 : List Addr := [597, 604, 665, 670, 675, 680, 104, 106, 107, 108, 193, 195, 203, 207, 213, 221, 229, 237, 245, 253, 261, 269, 277, 280, 282, 283, 284, 287, 289, 292, 294, 295, 296, 299, 301, 302, 303, 306, 308, 309]
def as_14 : List Addr := [310, 313, 315, 316, 317, 320, 322, 323, 324, 327, 329, 330, 331, 334, 336, 337, 338, 341, 343, 346, 348, 349, 350, 353, 355, 356, 357, 360, 362, 363, 364, 367, 369, 370, 371, 374, 376, 438, 440, 448]
def as_15 : List Addr := [452, 458, 464, 472, 475, 477, 478, 479, 482, 484, 485, 486, 489, 491, 492, 493, 496, 498, 499, 500, 503, 505, 506, 507, 510, 512, 513, 514, 517, 519, 520, 521, 524, 526, 527, 528, 531, 533, 534, 535]
def as_16 : List Addr := [538, 540, 541, 542, 545, 547, 548, 549, 552, 554, 555, 556, 559, 561, 564, 566, 567, 568, 571, 573, 574, 575, 578, 580, 581, 582, 585, 587, 588, 589, 592, 594, 595, 596, 599, 601, 602, 603, 662, 664]
def as_17 : List Addr := [667, 669, 672, 674, 677, 679]
def as_ : List Addr := as_0 ++ as_1 ++ as_2 ++ as_3 ++ as_4 ++ as_5 ++ as_6 ++ as_7 ++ as_8 ++ as_9 ++ as_10 ++ as_11 ++ as_12 ++ as_13 ++ as_14 ++ as_15 ++ as_16 ++ as_17
def tf : List He.Defn := [("_law_right", none), ("law", none)]
abbrev Rw : PySem.W.OpenRow := PySem.W.OpenLaw.row PySem.Challenge.rw_joinhouse_k41_errors_of_shapes
def tst (K : PySem.W.Frag) : Bool := ts.all fun t => t K
abbrev hk : PySem.W.Hook := hookY as_ fa df tf tst
def ob (s : PySem.W.SharedT) : AlY := obsY as_ fa df tf tst (HandSHeadRun.getT s)
theorem ob_eq (s : PySem.W.SharedT) : ob s = hk.obs s.abs := obsY_eq (HandSHeadRun.getT_eq s)
theorem hd_of {P : Program} {w : World} {h : Heap} {K : PySem.W.Frag} {mg : Str → Option Value} {base : Heap} {a : Addr} (X : K.In h) (Gn : h.Ns mainGlobals mg) (c : SaysY fa df tf tst w h K) : Hd (gx P w K a) mg base where
  f_Question_own_clauses := fldB_ok (G := gx P w K a) (List.all_eq_true.mp c.exs _ (List.mem_of_getElem? (i := 0) rfl))
  p_Question_clauses := let ⟨fd, F⟩ := c.dfs (G := gx P w K a) rfl 0 (d := ⟨.p "Question" "clauses", "clauses", "Question.clauses", (inn 31 3)⟩); ⟨_, fd, F, prpB_ok (G := gx P w K a) (List.all_eq_true.mp c.exs _ (List.mem_of_getElem? (i := 1) rfl))⟩
  f_Question_own_lines := fldB_ok (G := gx P w K a) (List.all_eq_true.mp c.exs _ (List.mem_of_getElem? (i := 2) rfl))
  p_Question_lines := let ⟨fd, F⟩ := c.dfs (G := gx P w K a) rfl 1 (d := ⟨.p "Question" "lines", "lines", "Question.lines", (inn 31 5)⟩); ⟨_, fd, F, prpB_ok (G := gx P w K a) (List.all_eq_true.mp c.exs _ (List.mem_of_getElem? (i := 3) rfl))⟩
  n_isinstance := He.free_ok X Gn (c.fact 0 (f := .free "isinstance"))
  n_tuple := He.free_ok X Gn (c.fact 1 (f := .free "tuple"))
  n_len := He.free_ok X Gn (c.fact 2 (f := .free "len"))
  g_MAX_CLAUSES := He.int_ok X Gn (c.fact 3 (f := .int "MAX_CLAUSES" 8))
  n_all := He.free_ok X Gn (c.fact 4 (f := .free "all"))
  n_str := He.free_ok X Gn (c.fact 5 (f := .free "str"))
  g_MAX_LETTERS := He.int_ok X Gn (c.fact 6 (f := .int "MAX_LETTERS" 8))
  g_LETTERS := He.str_ok X Gn (c.fact 7 (f := .str "LETTERS" "abcdefghijklmnopqrstuvwxyz"))
  d_is_name := let ⟨fd, F⟩ := c.dfs (G := gx P w K a) rfl 2 (d := ⟨.d "is_name", "is_name", "is_name", (top 16)⟩); ⟨_, fd, F, He.glo_ok X Gn (c.fact 8 (f := .glo "is_name"))⟩
  d_are_names := let ⟨fd, F⟩ := c.dfs (G := gx P w K a) rfl 3 (d := ⟨.d "are_names", "are_names", "are_names", (top 17)⟩); ⟨_, fd, F, He.glo_ok X Gn (c.fact 9 (f := .glo "are_names"))⟩
  g_MAX_COLUMNS := He.int_ok X Gn (c.fact 10 (f := .int "MAX_COLUMNS" 8))
  d_is_clause := let ⟨fd, F⟩ := c.dfs (G := gx P w K a) rfl 4 (d := ⟨.d "is_clause", "is_clause", "is_clause", (top 24)⟩); ⟨_, fd, F, He.glo_ok X Gn (c.fact 11 (f := .glo "is_clause"))⟩
  n_zip := He.free_ok X Gn (c.fact 12 (f := .free "zip"))
  n_sorted := He.free_ok X Gn (c.fact 13 (f := .free "sorted"))
  d_columns_in := let ⟨fd, F⟩ := c.dfs (G := gx P w K a) rfl 5 (d := ⟨.d "columns_in", "columns_in", "columns_in", (top 25)⟩); ⟨_, fd, F, He.glo_ok X Gn (c.fact 14 (f := .glo "columns_in"))⟩
  d_widths_in := let ⟨fd, F⟩ := c.dfs (G := gx P w K a) rfl 6 (d := ⟨.d "widths_in", "widths_in", "widths_in", (top 27)⟩); ⟨_, fd, F, He.glo_ok X Gn (c.fact 15 (f := .glo "widths_in"))⟩
  d_are_clauses := let ⟨fd, F⟩ := c.dfs (G := gx P w K a) rfl 7 (d := ⟨.d "are_clauses", "are_clauses", "are_clauses", (top 26)⟩); ⟨_, fd, F, He.glo_ok X Gn (c.fact 16 (f := .glo "are_clauses"))⟩
  n_set := He.free_ok X Gn (c.fact 17 (f := .free "set"))
  d_are_asked := let ⟨fd, F⟩ := c.dfs (G := gx P w K a) rfl 8 (d := ⟨.d "are_asked", "are_asked", "are_asked", (top 28)⟩); ⟨_, fd, F, He.glo_ok X Gn (c.fact 18 (f := .glo "are_asked"))⟩
  e_InvalidQuestion := excB_ok (G := gx P w K a) (List.all_eq_true.mp c.exs _ (List.mem_of_getElem? (i := 4) rfl)) (He.glo_ok X Gn (c.fact 19 (f := .glo "InvalidQuestion")))
  f_Question_own_asked := fldB_ok (G := gx P w K a) (List.all_eq_true.mp c.exs _ (List.mem_of_getElem? (i := 5) rfl))
  f_Question_own_columns := fldB_ok (G := gx P w K a) (List.all_eq_true.mp c.exs _ (List.mem_of_getElem? (i := 6) rfl))
  f_Question_own_widths := fldB_ok (G := gx P w K a) (List.all_eq_true.mp c.exs _ (List.mem_of_getElem? (i := 7) rfl))
  f_Question_own_lots := fldB_ok (G := gx P w K a) (List.all_eq_true.mp c.exs _ (List.mem_of_getElem? (i := 8) rfl))
  n_any := He.free_ok X Gn (c.fact 20 (f := .free "any"))
  d_lots_by := let ⟨fd, F⟩ := c.dfs (G := gx P w K a) rfl 9 (d := ⟨.d "lots_by", "lots_by", "lots_by", (top 30)⟩); ⟨_, fd, F, He.glo_ok X Gn (c.fact 21 (f := .glo "lots_by"))⟩
  g_CLAUSE := He.str_ok X Gn (c.fact 22 (f := .str "CLAUSE" "clause"))
  d_clause_text := let ⟨fd, F⟩ := c.dfs (G := gx P w K a) rfl 10 (d := ⟨.d "clause_text", "clause_text", "clause_text", (top 29)⟩); ⟨_, fd, F, He.glo_ok X Gn (c.fact 23 (f := .glo "clause_text"))⟩
  g_ASKED := He.str_ok X Gn (c.fact 24 (f := .str "ASKED" "asked"))
  i_Question := let ⟨fd, F⟩ := c.dfs (G := gx P w K a) rfl 11 (d := ⟨.m "Question" "__init__", "__init__", "Question.__init__", (inn 31 1)⟩); ⟨_, fd, F, mkB_ok (List.all_eq_true.mp c.exs _ (List.mem_of_getElem? (i := 9) rfl)), He.glo_ok X Gn (c.fact 25 (f := .glo "Question"))⟩
  n_dict := He.free_ok X Gn (c.fact 26 (f := .free "dict"))
  g_MAX_TABLES := He.int_ok X Gn (c.fact 27 (f := .int "MAX_TABLES" 16))
  n_int := He.free_ok X Gn (c.fact 28 (f := .free "int"))
  n_bool := He.free_ok X Gn (c.fact 29 (f := .free "bool"))
  g_GREAT := He.int_ok X Gn (c.fact 30 (f := .int "GREAT" 1000000000000000000000000000000000000000000000000000000000000))
  d_is_integer := let ⟨fd, F⟩ := c.dfs (G := gx P w K a) rfl 12 (d := ⟨.d "is_integer", "is_integer", "is_integer", (top 14)⟩); ⟨_, fd, F, He.glo_ok X Gn (c.fact 31 (f := .glo "is_integer"))⟩
  d_is_count := let ⟨fd, F⟩ := c.dfs (G := gx P w K a) rfl 13 (d := ⟨.d "is_count", "is_count", "is_count", (top 15)⟩); ⟨_, fd, F, He.glo_ok X Gn (c.fact 32 (f := .glo "is_count"))⟩
  g_MAX_WIDTH := He.int_ok X Gn (c.fact 33 (f := .int "MAX_WIDTH" 8))
  d_is_width := let ⟨fd, F⟩ := c.dfs (G := gx P w K a) rfl 14 (d := ⟨.d "is_width", "is_width", "is_width", (top 38)⟩); ⟨_, fd, F, He.glo_ok X Gn (c.fact 34 (f := .glo "is_width"))⟩
  d_are_tables := let ⟨fd, F⟩ := c.dfs (G := gx P w K a) rfl 15 (d := ⟨.d "are_tables", "are_tables", "are_tables", (top 39)⟩); ⟨_, fd, F, He.glo_ok X Gn (c.fact 35 (f := .glo "are_tables"))⟩
  g_MAX_ROWS := He.int_ok X Gn (c.fact 36 (f := .int "MAX_ROWS" 3000))
  d_is_row := let ⟨fd, F⟩ := c.dfs (G := gx P w K a) rfl 16 (d := ⟨.d "is_row", "is_row", "is_row", (top 18)⟩); ⟨_, fd, F, He.glo_ok X Gn (c.fact 37 (f := .glo "is_row"))⟩
  d_are_table_rows := let ⟨fd, F⟩ := c.dfs (G := gx P w K a) rfl 17 (d := ⟨.d "are_table_rows", "are_table_rows", "are_table_rows", (top 40)⟩); ⟨_, fd, F, He.glo_ok X Gn (c.fact 38 (f := .glo "are_table_rows"))⟩
  n_sum := He.free_ok X Gn (c.fact 39 (f := .free "sum"))
  d_are_rows_of := let ⟨fd, F⟩ := c.dfs (G := gx P w K a) rfl 18 (d := ⟨.d "are_rows_of", "are_rows_of", "are_rows_of", (top 41)⟩); ⟨_, fd, F, He.glo_ok X Gn (c.fact 40 (f := .glo "are_rows_of"))⟩
  e_InvalidStore := excB_ok (G := gx P w K a) (List.all_eq_true.mp c.exs _ (List.mem_of_getElem? (i := 10) rfl)) (He.glo_ok X Gn (c.fact 41 (f := .glo "InvalidStore")))
  f_Store_own_tables := fldB_ok (G := gx P w K a) (List.all_eq_true.mp c.exs _ (List.mem_of_getElem? (i := 11) rfl))
  f_Store_own_rows := fldB_ok (G := gx P w K a) (List.all_eq_true.mp c.exs _ (List.mem_of_getElem? (i := 12) rfl))
  f_Store_own_pairs := fldB_ok (G := gx P w K a) (List.all_eq_true.mp c.exs _ (List.mem_of_getElem? (i := 13) rfl))
  i_Store := let ⟨fd, F⟩ := c.dfs (G := gx P w K a) rfl 19 (d := ⟨.m "Store" "__init__", "__init__", "Store.__init__", (inn 44 1)⟩); ⟨_, fd, F, mkB_ok (List.all_eq_true.mp c.exs _ (List.mem_of_getElem? (i := 14) rfl)), He.glo_ok X Gn (c.fact 42 (f := .glo "Store"))⟩
  g_Question := He.glo_ok X Gn (c.fact 25 (f := .glo "Question"))
  d_require_question := let ⟨fd, F⟩ := c.dfs (G := gx P w K a) rfl 20 (d := ⟨.d "require_question", "require_question", "require_question", (top 32)⟩); ⟨_, fd, F, He.glo_ok X Gn (c.fact 43 (f := .glo "require_question"))⟩
  d_sets_of := let ⟨fd, F⟩ := c.dfs (G := gx P w K a) rfl 21 (d := ⟨.d "sets_of", "sets_of", "sets_of", (top 86)⟩); ⟨_, fd, F, He.glo_ok X Gn (c.fact 44 (f := .glo "sets_of"))⟩
  n_list := He.free_ok X Gn (c.fact 45 (f := .free "list"))
  d_cutting := let ⟨fd, F⟩ := c.dfs (G := gx P w K a) rfl 22 (d := ⟨.d "cutting", "cutting", "cutting", (top 95)⟩); ⟨_, fd, F, He.glo_ok X Gn (c.fact 46 (f := .glo "cutting"))⟩
  d_is_link := let ⟨fd, F⟩ := c.dfs (G := gx P w K a) rfl 23 (d := ⟨.d "is_link", "is_link", "is_link", (top 87)⟩); ⟨_, fd, F, He.glo_ok X Gn (c.fact 47 (f := .glo "is_link"))⟩
  e_InvalidOperation := excB_ok (G := gx P w K a) (List.all_eq_true.mp c.exs _ (List.mem_of_getElem? (i := 15) rfl)) (He.glo_ok X Gn (c.fact 48 (f := .glo "InvalidOperation")))
  n_min := He.free_ok X Gn (c.fact 49 (f := .free "min"))
  n_max := He.free_ok X Gn (c.fact 50 (f := .free "max"))
  d_tree_of := let ⟨fd, F⟩ := c.dfs (G := gx P w K a) rfl 24 (d := ⟨.d "tree_of", "tree_of", "tree_of", (top 97)⟩); ⟨_, fd, F, He.glo_ok X Gn (c.fact 51 (f := .glo "tree_of"))⟩
  d_join_tree := let ⟨fd, F⟩ := c.dfs (G := gx P w K a) rfl 25 (d := ⟨.d "join_tree", "join_tree", "join_tree", (top 98)⟩); ⟨_, fd, F, He.glo_ok X Gn (c.fact 52 (f := .glo "join_tree"))⟩
  d_are_links := let ⟨fd, F⟩ := c.dfs (G := gx P w K a) rfl 26 (d := ⟨.d "are_links", "are_links", "are_links", (top 88)⟩); ⟨_, fd, F, He.glo_ok X Gn (c.fact 53 (f := .glo "are_links"))⟩
  d_is_join_tree := let ⟨fd, F⟩ := c.dfs (G := gx P w K a) rfl 27 (d := ⟨.d "is_join_tree", "is_join_tree", "is_join_tree", (top 91)⟩); ⟨_, fd, F, He.glo_ok X Gn (c.fact 54 (f := .glo "is_join_tree"))⟩
  d_is_cutting := let ⟨fd, F⟩ := c.dfs (G := gx P w K a) rfl 28 (d := ⟨.d "is_cutting", "is_cutting", "is_cutting", (top 96)⟩); ⟨_, fd, F, He.glo_ok X Gn (c.fact 55 (f := .glo "is_cutting"))⟩
  d_knot_of := let ⟨fd, F⟩ := c.dfs (G := gx P w K a) rfl 29 (d := ⟨.d "knot_of", "knot_of", "knot_of", (top 70)⟩); ⟨_, fd, F, He.glo_ok X Gn (c.fact 56 (f := .glo "knot_of"))⟩
  p_Question_columns := let ⟨fd, F⟩ := c.dfs (G := gx P w K a) rfl 30 (d := ⟨.p "Question" "columns", "columns", "Question.columns", (inn 31 6)⟩); ⟨_, fd, F, prpB_ok (G := gx P w K a) (List.all_eq_true.mp c.exs _ (List.mem_of_getElem? (i := 16) rfl))⟩
  g_CROWN := He.str_ok X Gn (c.fact 57 (f := .str "CROWN" "crown"))
  g_MIN_CROWN := He.int_ok X Gn (c.fact 58 (f := .int "MIN_CROWN" 3))
  d_is_less := let ⟨fd, F⟩ := c.dfs (G := gx P w K a) rfl 31 (d := ⟨.d "is_less", "is_less", "is_less", (top 61)⟩); ⟨_, fd, F, He.glo_ok X Gn (c.fact 59 (f := .glo "is_less"))⟩
  d_greatest_traces := let ⟨fd, F⟩ := c.dfs (G := gx P w K a) rfl 32 (d := ⟨.d "greatest_traces", "greatest_traces", "greatest_traces", (top 60)⟩); ⟨_, fd, F, He.glo_ok X Gn (c.fact 60 (f := .glo "greatest_traces"))⟩
  n_range := He.free_ok X Gn (c.fact 61 (f := .free "range"))
  d_without_each := let ⟨fd, F⟩ := c.dfs (G := gx P w K a) rfl 33 (d := ⟨.d "without_each", "without_each", "without_each", (top 62)⟩); ⟨_, fd, F, He.glo_ok X Gn (c.fact 62 (f := .glo "without_each"))⟩
  d_is_crown := let ⟨fd, F⟩ := c.dfs (G := gx P w K a) rfl 34 (d := ⟨.d "is_crown", "is_crown", "is_crown", (top 63)⟩); ⟨_, fd, F, He.glo_ok X Gn (c.fact 63 (f := .glo "is_crown"))⟩
  g_RING := He.str_ok X Gn (c.fact 64 (f := .str "RING" "ring"))
  g_MIN_RING := He.int_ok X Gn (c.fact 65 (f := .int "MIN_RING" 4))
  d_is_ring := let ⟨fd, F⟩ := c.dfs (G := gx P w K a) rfl 35 (d := ⟨.d "is_ring", "is_ring", "is_ring", (top 65)⟩); ⟨_, fd, F, He.glo_ok X Gn (c.fact 66 (f := .glo "is_ring"))⟩
  d_is_right_knot := let ⟨fd, F⟩ := c.dfs (G := gx P w K a) rfl 36 (d := ⟨.d "is_right_knot", "is_right_knot", "is_right_knot", (top 71)⟩); ⟨_, fd, F, He.glo_ok X Gn (c.fact 67 (f := .glo "is_right_knot"))⟩
  d_is_knot := let ⟨fd, F⟩ := c.dfs (G := gx P w K a) rfl 37 (d := ⟨.d "is_knot", "is_knot", "is_knot", (top 72)⟩); ⟨_, fd, F, He.glo_ok X Gn (c.fact 68 (f := .glo "is_knot"))⟩
  p_Question_is_plain := let ⟨fd, F⟩ := c.dfs (G := gx P w K a) rfl 38 (d := ⟨.p "Question" "is_plain", "is_plain", "Question.is_plain", (inn 31 8)⟩); ⟨_, fd, F, prpB_ok (G := gx P w K a) (List.all_eq_true.mp c.exs _ (List.mem_of_getElem? (i := 17) rfl))⟩
  d_require_plain := let ⟨fd, F⟩ := c.dfs (G := gx P w K a) rfl 39 (d := ⟨.d "require_plain", "require_plain", "require_plain", (top 73)⟩); ⟨_, fd, F, He.glo_ok X Gn (c.fact 69 (f := .glo "require_plain"))⟩
  e_InvalidKnot := excB_ok (G := gx P w K a) (List.all_eq_true.mp c.exs _ (List.mem_of_getElem? (i := 18) rfl)) (He.glo_ok X Gn (c.fact 70 (f := .glo "InvalidKnot")))
  d_crown_choices := let ⟨fd, F⟩ := c.dfs (G := gx P w K a) rfl 40 (d := ⟨.d "crown_choices", "crown_choices", "crown_choices", (top 75)⟩); ⟨_, fd, F, He.glo_ok X Gn (c.fact 71 (f := .glo "crown_choices"))⟩
  d_choices_in := let ⟨fd, F⟩ := c.dfs (G := gx P w K a) rfl 41 (d := ⟨.d "choices_in", "choices_in", "choices_in", (top 76)⟩); ⟨_, fd, F, He.glo_ok X Gn (c.fact 72 (f := .glo "choices_in"))⟩
  p_Question_tables := let ⟨fd, F⟩ := c.dfs (G := gx P w K a) rfl 42 (d := ⟨.p "Question" "tables", "tables", "Question.tables", (inn 31 7)⟩); ⟨_, fd, F, prpB_ok (G := gx P w K a) (List.all_eq_true.mp c.exs _ (List.mem_of_getElem? (i := 19) rfl))⟩
  d_stuck_by := let ⟨fd, F⟩ := c.dfs (G := gx P w K a) rfl 43 (d := ⟨.d "stuck_by", "stuck_by", "stuck_by", (top 77)⟩); ⟨_, fd, F, He.glo_ok X Gn (c.fact 73 (f := .glo "stuck_by"))⟩
  d_stuck_store := let ⟨fd, F⟩ := c.dfs (G := gx P w K a) rfl 44 (d := ⟨.d "stuck_store", "stuck_store", "stuck_store", (top 78)⟩); ⟨_, fd, F, He.glo_ok X Gn (c.fact 74 (f := .glo "stuck_store"))⟩
  g_Store := He.glo_ok X Gn (c.fact 42 (f := .glo "Store"))
  d_require_store := let ⟨fd, F⟩ := c.dfs (G := gx P w K a) rfl 45 (d := ⟨.d "require_store", "require_store", "require_store", (top 45)⟩); ⟨_, fd, F, He.glo_ok X Gn (c.fact 75 (f := .glo "require_store"))⟩
  d_fits := let ⟨fd, F⟩ := c.dfs (G := gx P w K a) rfl 46 (d := ⟨.d "fits", "fits", "fits", (top 49)⟩); ⟨_, fd, F, He.glo_ok X Gn (c.fact 76 (f := .glo "fits"))⟩
  m_Store_require_table := let ⟨fd, F⟩ := c.dfs (G := gx P w K a) rfl 47 (d := ⟨.m "Store" "require_table", "require_table", "Store.require_table", (inn 44 6)⟩); ⟨_, fd, F, mthB_ok (G := gx P w K a) (List.all_eq_true.mp c.exs _ (List.mem_of_getElem? (i := 20) rfl))⟩
  m_Store_rows := let ⟨fd, F⟩ := c.dfs (G := gx P w K a) rfl 48 (d := ⟨.m "Store" "rows", "rows", "Store.rows", (inn 44 7)⟩); ⟨_, fd, F, mthB_ok (G := gx P w K a) (List.all_eq_true.mp c.exs _ (List.mem_of_getElem? (i := 21) rfl))⟩
  d_parts_at := let ⟨fd, F⟩ := c.dfs (G := gx P w K a) rfl 49 (d := ⟨.d "parts_at", "parts_at", "parts_at", (top 80)⟩); ⟨_, fd, F, He.glo_ok X Gn (c.fact 77 (f := .glo "parts_at"))⟩
  d_do_agree := let ⟨fd, F⟩ := c.dfs (G := gx P w K a) rfl 50 (d := ⟨.d "do_agree", "do_agree", "do_agree", (top 81)⟩); ⟨_, fd, F, He.glo_ok X Gn (c.fact 78 (f := .glo "do_agree"))⟩
  d_all_agree := let ⟨fd, F⟩ := c.dfs (G := gx P w K a) rfl 51 (d := ⟨.d "all_agree", "all_agree", "all_agree", (top 82)⟩); ⟨_, fd, F, He.glo_ok X Gn (c.fact 79 (f := .glo "all_agree"))⟩
  d_is_stuck := let ⟨fd, F⟩ := c.dfs (G := gx P w K a) rfl 52 (d := ⟨.d "is_stuck", "is_stuck", "is_stuck", (top 84)⟩); ⟨_, fd, F, He.glo_ok X Gn (c.fact 80 (f := .glo "is_stuck"))⟩
  d_are_agreeing := let ⟨fd, F⟩ := c.dfs (G := gx P w K a) rfl 53 (d := ⟨.d "are_agreeing", "are_agreeing", "are_agreeing", (top 83)⟩); ⟨_, fd, F, He.glo_ok X Gn (c.fact 81 (f := .glo "are_agreeing"))⟩
  d__law_question := let ⟨fd, F⟩ := c.dfs (G := gx P w K a) rfl 54 (d := ⟨.d "_law_question", "_law_question", "_law_question", (top 103)⟩); ⟨_, fd, F, He.glo_ok X Gn (c.fact 82 (f := .glo "_law_question"))⟩
  d__law_made := let ⟨fd, F⟩ := c.dfs (G := gx P w K a) rfl 55 (d := ⟨.d "_law_made", "_law_made", "_law_made", (top 104)⟩); ⟨_, fd, F, He.glo_ok X Gn (c.fact 83 (f := .glo "_law_made"))⟩
  d__law_written := let ⟨fd, F⟩ := c.dfs (G := gx P w K a) rfl 56 (d := ⟨.d "_law_written", "_law_written", "_law_written", (top 105)⟩); ⟨_, fd, F, He.glo_ok X Gn (c.fact 84 (f := .glo "_law_written"))⟩
  d__law_dice := let ⟨fd, F⟩ := c.dfs (G := gx P w K a) rfl 57 (d := ⟨.d "_law_dice", "_law_dice", "_law_dice", (top 100)⟩); ⟨_, fd, F, He.glo_ok X Gn (c.fact 85 (f := .glo "_law_dice"))⟩
  d__law_roll := let ⟨fd, F⟩ := c.dfs (G := gx P w K a) rfl 58 (d := ⟨.d "_law_roll", "_law_roll", "_law_roll", (top 101)⟩); ⟨_, fd, F, He.glo_ok X Gn (c.fact 86 (f := .glo "_law_roll"))⟩
  d__law_pick := let ⟨fd, F⟩ := c.dfs (G := gx P w K a) rfl 59 (d := ⟨.d "_law_pick", "_law_pick", "_law_pick", (top 102)⟩); ⟨_, fd, F, He.glo_ok X Gn (c.fact 87 (f := .glo "_law_pick"))⟩
  d__law_word := let ⟨fd, F⟩ := c.dfs (G := gx P w K a) rfl 60 (d := ⟨.d "_law_word", "_law_word", "_law_word", (top 106)⟩); ⟨_, fd, F, He.glo_ok X Gn (c.fact 88 (f := .glo "_law_word"))⟩
  d__law_right := let ⟨fd, F⟩ := c.dfs (G := gx P w K a) rfl 61 (d := ⟨.d "_law_right", "_law_right", "_law_right", (top 107)⟩); ⟨_, fd, F, He.glo_ok X Gn (c.fact 89 (f := .glo "_law_right")), codeH F⟩
  d_law := let ⟨fd, F⟩ := c.dfs (G := gx P w K a) rfl 62 (d := ⟨.d "law", "law", "law", (top 108)⟩); ⟨_, fd, F, He.glo_ok X Gn (c.fact 90 (f := .glo "law")), codeH F⟩
  tne_law__law_right := of_decide_eq_true (List.all_eq_true.mp c.exs _ (List.mem_of_getElem? (i := 22) rfl))
  n_abs := He.free_ok X Gn (c.fact 91 (f := .free "abs"))
  x_InvalidQuestion_InvalidQuestion := of_decide_eq_true (List.all_eq_true.mp c.exs _ (List.mem_of_getElem? (i := 23) rfl))
  x_InvalidKnot_InvalidQuestion := of_decide_eq_true (List.all_eq_true.mp c.exs _ (List.mem_of_getElem? (i := 24) rfl))
  x_InvalidKnot_InvalidKnot := of_decide_eq_true (List.all_eq_true.mp c.exs _ (List.mem_of_getElem? (i := 25) rfl))
  x_InvalidStore_InvalidQuestion := of_decide_eq_true (List.all_eq_true.mp c.exs _ (List.mem_of_getElem? (i := 26) rfl))
  x_InvalidStore_InvalidKnot := of_decide_eq_true (List.all_eq_true.mp c.exs _ (List.mem_of_getElem? (i := 27) rfl))
  x_InvalidStore_InvalidStore := of_decide_eq_true (List.all_eq_true.mp c.exs _ (List.mem_of_getElem? (i := 28) rfl))
  x_InvalidOperation_InvalidQuestion := of_decide_eq_true (List.all_eq_true.mp c.exs _ (List.mem_of_getElem? (i := 29) rfl))
  x_InvalidOperation_InvalidKnot := of_decide_eq_true (List.all_eq_true.mp c.exs _ (List.mem_of_getElem? (i := 30) rfl))
  x_InvalidOperation_InvalidStore := of_decide_eq_true (List.all_eq_true.mp c.exs _ (List.mem_of_getElem? (i := 31) rfl))
  x_InvalidOperation_InvalidOperation := of_decide_eq_true (List.all_eq_true.mp c.exs _ (List.mem_of_getElem? (i := 32) rfl))
  g_InvalidQuestion := He.glo_ok X Gn (c.fact 19 (f := .glo "InvalidQuestion"))
  g_InvalidKnot := He.glo_ok X Gn (c.fact 70 (f := .glo "InvalidKnot"))
  g_InvalidStore := He.glo_ok X Gn (c.fact 41 (f := .glo "InvalidStore"))
  g_InvalidOperation := He.glo_ok X Gn (c.fact 48 (f := .glo "InvalidOperation"))
  isi := isiC_ok ((isiC_a K a).trans (List.all_eq_true.mp c.exs _ (List.mem_of_getElem? (i := 33) rfl)))
end K41
set_option maxHeartbeats 4000000
namespace K41
open PySem PySem.Spec PyProof.Rows L2 Ev
def N_Question_lines : List Str := ["self"]
theorem S_Question_lines : FnScope N_Question_lines ["self"] (defScope (inn 31 5)) := ⟨rfl, rfl, rfl, by decide +kernel, rfl, by decide +kernel, by decide +kernel⟩
def w_Question_lines : {g : EnvS → Option O // ∀ G mg base, Hd G mg base → Body G mg base 0 N_Question_lines (inn 31 5) g} := ⟨_, fun G mg base h _ _ _ _ _ _ _ _ gd tk pa =>
  (SSs.one (SS.ret (SD.at gd h.f_Question_own_lines (SD.v 0))))⟩
def F_Question_lines : List D → Option R := runF N_Question_lines w_Question_lines.1
theorem c_Question_lines {G : Gx} {mg : Str → Option Value} {base : Heap} (h : Hd G mg base) : CalP G mg base 0 1 "lines" "self" F_Question_lines := CalP.of h.p_Question_lines S_Question_lines (fun _ _ _ _ _ _ _ _ us hl => match us, hl with | [_], _ => rfl) (w_Question_lines.2 G mg base h)
end K41
set_option maxHeartbeats 4000000
namespace K41
open PySem PySem.Spec PyProof.Rows L2 Ev
def ask (F : List D → Option R) (w : Str) (ds : List D) : Bool := decide ((F ds).bind wordN = some w)
theorem ask_of {F : List D → Option R} {w : Str} {ds : List D} (h : ask F w ds = true) : (F ds).bind wordN = some w := of_decide_eq_true h
theorem all1 {M : List D} {p : D → Bool} (h : (M.all p) = true) {d : D} (hd : d ∈ M) : p d = true := List.all_eq_true.mp h d hd
theorem all2 {M N : List D} {p : D → D → Bool} (h : (M.all fun d => N.all fun e => p d e) = true) {d e : D} (hd : d ∈ M) (he : e ∈ N) : p d e = true := List.all_eq_true.mp (List.all_eq_true.mp h d hd) e he
theorem all3 {M N O : List D} {p : D → D → D → Bool} (h : (M.all fun d => N.all fun e => O.all fun g => p d e g) = true) {d e g : D} (hd : d ∈ M) (he : e ∈ N) (hg : g ∈ O) : p d e g = true := List.all_eq_true.mp (List.all_eq_true.mp (List.all_eq_true.mp h d hd) e he) g hg
theorem mem_tf__law_right (K : PySem.W.Frag) : He.cT K ("_law_right", none) ∈ tf.map (He.cT K) := List.mem_map.mpr ⟨_, List.mem_cons_self, rfl⟩
theorem mem_tf_law (K : PySem.W.Frag) : He.cT K ("law", none) ∈ tf.map (He.cT K) := List.mem_map.mpr ⟨_, List.mem_cons_of_mem _ List.mem_cons_self, rfl⟩
section
variable {G : Gx} {mg : Str → Option Value} {base : Heap} {N : List Str} {st : Scope} {f : Addr} {A : Around} {outer : List PySem.Env} {s : Shared} {H : Hp} {E : XK}
theorem lm__law_right (h : Hd G mg base) (tb : LamX.TabB base mg (He.cT G.K ("_law_right", none)).1 (He.cT G.K ("_law_right", none)).2) : LmAt (cxD G mg base N "_law_right" st f (.ref (He.cT G.K ("_law_right", none)).1) A outer s H E) (TB G.K) base mg :=
  ⟨_, _, tb, rfl, List.mem_cons_self, fun p hp e => by
    rcases List.mem_cons.mp hp with z | z
    · rw [z]; rfl
    · rcases List.mem_cons.mp z with z | z
      · rw [z] at e; exact absurd e h.tne_law__law_right
      · cases z⟩
theorem lm_law (h : Hd G mg base) (tb : LamX.TabB base mg (He.cT G.K ("law", none)).1 (He.cT G.K ("law", none)).2) : LmAt (cxD G mg base N "law" st f (.ref (He.cT G.K ("law", none)).1) A outer s H E) (TB G.K) base mg :=
  ⟨_, _, tb, rfl, List.mem_cons_of_mem _ List.mem_cons_self, fun p hp e => by
    rcases List.mem_cons.mp hp with z | z
    · rw [z] at e; exact absurd e.symm h.tne_law__law_right
    · rcases List.mem_cons.mp z with z | z
      · rw [z]; rfl
      · cases z⟩
end
end K41
set_option maxHeartbeats 4000000
namespace K41
open PySem PySem.Spec PyProof.Rows L2 Ev

end K41
set_option maxHeartbeats 4000000
namespace K41
open PySem PySem.Spec PyProof.Rows L2 Ev
def M_none : List D := [D.non, (.int (0)), (.str ""), (.tup []), (.dct [] []), (.tup [(.tup [(.str "r"), (.tup [(.str "a"), (.str "b")])]), (.tup [(.str "s"), (.tup [(.str "b"), (.str "c")])]), (.tup [(.str "t"), (.tup [(.str "a"), (.str "c")])])]), (.tup [(.str "clause r a b"), (.str "clause s b c"), (.str "clause t a c"), (.str "asked")]), (.bl true), (.lst [RING])]
def M_odd : List D := [D.non, (.int (0)), (.tup []), (.tup [(.str "crown")]), (.tup [(.str "ring"), (.tup [(.str "a"), (.str "b"), (.str "c")])]), (.tup [(.str "crown"), (.tup [(.str "a"), (.str "b")])]), (.str "crown"), (.dct [] [])]
def M_bad : List D := [D.non, (.int (0)), (.tup [(.tup [(.int (0)), (.int (0))])]), (.tup [(.tup [(.int (0)), (.int (1)), (.int (2))])]), (.tup [(.tup [(.int (0)), (.int (-1))])]), (.tup [(.tup [(.bl true), (.int (1))])]), (.lst [(.tup [(.int (0)), (.int (1))])]), (.tup [(.tup [(.int (0)), D.non])]), (.str "01"), (.dct [] [])]
def M_store : List D := [D.non, (.int (0)), (.tup []), (.dct [] []), RING, (.str "row r 1 2"), (.bl true)]
theorem q__law_right_1 : (M_none.all fun d_none => ask F_join_tree "question" [d_none]) = true := by kernel_rfl
theorem q__law_right_2 : (M_none.all fun d_none => (M_odd.all fun d_odd => ask F_is_join_tree "question" [d_none, d_odd])) = true := by kernel_rfl
theorem q__law_right_3 : (M_none.all fun d_none => ask F_cutting "question" [d_none]) = true := by kernel_rfl
theorem q__law_right_4 : (M_none.all fun d_none => (M_odd.all fun d_odd => ask F_is_cutting "question" [d_none, d_odd])) = true := by kernel_rfl
theorem q__law_right_5 : (M_none.all fun d_none => ask F_knot_of "question" [d_none]) = true := by kernel_rfl
theorem q__law_right_6 : (M_none.all fun d_none => (M_odd.all fun d_odd => ask F_is_knot "question" [d_none, d_odd])) = true := by kernel_rfl
theorem q__law_right_7 : (M_none.all fun d_none => (M_odd.all fun d_odd => ask F_stuck_by "question" [d_none, d_odd])) = true := by kernel_rfl
theorem q__law_right_8 : (M_none.all fun d_none => ask F_stuck_store "question" [d_none]) = true := by kernel_rfl
theorem q__law_right_9 : (M_none.all fun d_none => (M_odd.all fun d_odd => ask F_is_stuck "question" [d_none, d_odd])) = true := by kernel_rfl
theorem q__law_right_10 : (M_none.all fun d_none => (M_store.all fun d_store => ask F_are_agreeing "question" [d_none, d_store])) = true := by kernel_rfl
theorem q__law_right_11 : (M_odd.all fun d_odd => ask F_stuck_by "operation" [TWICE, d_odd]) = true := by kernel_rfl
theorem q__law_right_12 : (M_odd.all fun d_odd => ask F_is_stuck "operation" [TWICE, d_odd]) = true := by kernel_rfl
theorem q__law_right_13 : (M_odd.all fun d_odd => ask F_stuck_by "knot" [RING, d_odd]) = true := by kernel_rfl
theorem q__law_right_14 : (M_store.all fun d_store => ask F_are_agreeing "store" [RING, d_store]) = true := by kernel_rfl
theorem q__law_right_15 : (M_bad.all fun d_bad => ask F_tree_of "operation" [d_bad]) = true := by kernel_rfl
end K41
set_option maxHeartbeats 40000000
namespace K41
open PySem PySem.Spec PyProof.Rows L2 Ev
def N__law_right : List Str := ["_law_dice_here", "_law_ring", "_law_twice", "_law_none", "_law_odd", "_law_some", "_law_bad", "_law_store", "_law_told", "_law_due"]
theorem S__law_right : FnScope N__law_right ["_law_dice_here", "_law_ring", "_law_twice"] (defScope (top 107)) := ⟨rfl, rfl, rfl, by decide +kernel, rfl, by decide +kernel, by decide +kernel⟩
theorem _law_right_ok {G : Gx} {mg : Str → Option Value} {base : Heap} (h : Hd G mg base) (tb : ∀ p ∈ tf.map (He.cT G.K), LamX.TabB base mg p.1 p.2) : CalS G mg base 13 "_law_right" ["_law_dice_here", "_law_ring", "_law_twice"] (spT G (TB G.K) [RING, TWICE] true 3) :=
  CalS.ofT (r := List.replicate 9 .no) h.d__law_right S__law_right (fun _ _ _ _ _ _ _ _ us hl => match us, hl with | [_, _, _], _ => rfl) (by decide) fun f A outer s H E p gd ow =>
  have lm : LmAt (cxD G mg base N__law_right "_law_right" (defScope (top 107)) f (.ref (He.cT G.K ("_law_right", none)).1) A outer s H E) (TB G.K) base mg := lm__law_right h (tb _ (mem_tf__law_right G.K))
  LJ.le (env1 := [.ow (.di p 0), .fr RING, .fr TWICE, .no, .no, .no, .no, .no, .no, .no])
  (LJ.pk 3 0 M_none (ok_pick h) gd (SF.lst (SA.x SD.non (SA.x SD.int (SA.x SD.str (SA.x (SD.tup SA.nil) (SA.x (SF.sd SF.newK) (SA.x (SD.pr gd (c_Question_clauses h) (SD.v 1)) (SA.x (SD.pr gd (c_Question_lines h) (SD.v 1)) (SA.x SD.bl (SA.x (SF.sd (SF.lst (SA.x (SD.v 1) SA.nil))) SA.nil)))))))))) (by kernel_rfl) fun d_none hd_none =>
  (LJ.as [.ow (.di p 0), .fr RING, .fr TWICE, .fr d_none, .no, .no, .no, .no, .no, .no] (LJ.pk 4 0 M_odd (ok_pick h) gd (SF.lst (SA.x SD.non (SA.x SD.int (SA.x (SD.tup SA.nil) (SA.x (SD.tup (SA.x SD.str SA.nil)) (SA.x (SD.tup (SA.x SD.str (SA.x (SD.tup (SA.x SD.str (SA.x SD.str (SA.x SD.str SA.nil)))) SA.nil))) (SA.x (SD.tup (SA.x SD.str (SA.x (SD.tup (SA.x SD.str (SA.x SD.str SA.nil))) SA.nil))) (SA.x SD.str (SA.x (SF.sd SF.newK) SA.nil))))))))) (by kernel_rfl) fun d_odd hd_odd =>
  (LJ.as [.ow (.di p 0), .fr RING, .fr TWICE, .fr d_none, .fr d_odd, .no, .no, .no, .no, .no] (LJ.ss (E := E) (env1 := [.ow (.di p 0), .fr RING, .fr TWICE, .fr d_none, .fr d_odd, .fr (.lst M_bad), .no, .no, .no, .no]) (SS.st 5 gd (SF.sd (SF.lst (SA.x SD.non (SA.x SD.int (SA.x (SD.tup (SA.x (SD.tup (SA.x SD.int (SA.x SD.int SA.nil))) SA.nil)) (SA.x (SD.tup (SA.x (SD.tup (SA.x SD.int (SA.x SD.int (SA.x SD.int SA.nil)))) SA.nil)) (SA.x (SD.tup (SA.x (SD.tup (SA.x SD.int (SA.x (SD.neg SD.int) SA.nil))) SA.nil)) (SA.x (SD.tup (SA.x (SD.tup (SA.x SD.bl (SA.x SD.int SA.nil))) SA.nil)) (SA.x (SF.sd (SF.lst (SA.x (SD.tup (SA.x SD.int (SA.x SD.int SA.nil))) SA.nil))) (SA.x (SD.tup (SA.x (SD.tup (SA.x SD.int (SA.x SD.non SA.nil))) SA.nil)) (SA.x SD.str (SA.x (SF.sd SF.newK) SA.nil))))))))))))) (by kernel_rfl)
  (LJ.pkD 6 0 M_bad (ok_pick h) gd (SD.v 5) (by kernel_rfl) fun d_bad hd_bad =>
  (LJ.as [.ow (.di p 0), .fr RING, .fr TWICE, .fr d_none, .fr d_odd, .fr (.lst M_bad), .fr d_bad, .no, .no, .no] (LJ.pk 7 0 M_store (ok_pick h) gd (SF.lst (SA.x SD.non (SA.x SD.int (SA.x (SD.tup SA.nil) (SA.x (SF.sd SF.newK) (SA.x (SD.v 1) (SA.x SD.str (SA.x SD.bl SA.nil)))))))) (by kernel_rfl) fun d_store hd_store =>
  (LJ.as [.ow (.di p 0), .fr RING, .fr TWICE, .fr d_none, .fr d_odd, .fr (.lst M_bad), .fr d_bad, .fr d_store, .no, .no] (LJ.w1 8 gd (pw (w := "question") h gd lm (fun _ _ _ _ _ _ _ gd tk => (SE.fn gd (c_join_tree h) tk (SA.x (SD.v 3) SA.nil))) (cFn_w (ask_of (all1 q__law_right_1 hd_none)) rfl rfl))
  (LJ.as [.ow (.di p 0), .fr RING, .fr TWICE, .fr d_none, .fr d_odd, .fr (.lst M_bad), .fr d_bad, .fr d_store, .ow (.lst [.str "question"]), .no] (LJ.wA 8 [.str "question"] gd (pw (w := "question") h gd lm (fun _ _ _ _ _ _ _ gd tk => (SE.fn gd (c_is_join_tree h) tk (SA.x (SD.v 3) (SA.x (SD.v 4) SA.nil)))) (cFn_w (ask_of (all2 q__law_right_2 hd_none hd_odd)) rfl rfl))
  (LJ.as [.ow (.di p 0), .fr RING, .fr TWICE, .fr d_none, .fr d_odd, .fr (.lst M_bad), .fr d_bad, .fr d_store, .ow (.lst [.str "question", .str "question"]), .no] (LJ.wA 8 [.str "question", .str "question"] gd (pw (w := "question") h gd lm (fun _ _ _ _ _ _ _ gd tk => (SE.fn gd (c_cutting h) tk (SA.x (SD.v 3) SA.nil))) (cFn_w (ask_of (all1 q__law_right_3 hd_none)) rfl rfl))
  (LJ.as [.ow (.di p 0), .fr RING, .fr TWICE, .fr d_none, .fr d_odd, .fr (.lst M_bad), .fr d_bad, .fr d_store, .ow (.lst [.str "question", .str "question", .str "question"]), .no] (LJ.wA 8 [.str "question", .str "question", .str "question"] gd (pw (w := "question") h gd lm (fun _ _ _ _ _ _ _ gd tk => (SE.fn gd (c_is_cutting h) tk (SA.x (SD.v 3) (SA.x (SD.v 4) SA.nil)))) (cFn_w (ask_of (all2 q__law_right_4 hd_none hd_odd)) rfl rfl))
  (LJ.as [.ow (.di p 0), .fr RING, .fr TWICE, .fr d_none, .fr d_odd, .fr (.lst M_bad), .fr d_bad, .fr d_store, .ow (.lst [.str "question", .str "question", .str "question", .str "question"]), .no] (LJ.wA 8 [.str "question", .str "question", .str "question", .str "question"] gd (pw (w := "question") h gd lm (fun _ _ _ _ _ _ _ gd tk => (SE.fn gd (c_knot_of h) tk (SA.x (SD.v 3) SA.nil))) (cFn_w (ask_of (all1 q__law_right_5 hd_none)) rfl rfl))
  (LJ.as [.ow (.di p 0), .fr RING, .fr TWICE, .fr d_none, .fr d_odd, .fr (.lst M_bad), .fr d_bad, .fr d_store, .ow (.lst [.str "question", .str "question", .str "question", .str "question", .str "question"]), .no] (LJ.wA 8 [.str "question", .str "question", .str "question", .str "question", .str "question"] gd (pw (w := "question") h gd lm (fun _ _ _ _ _ _ _ gd tk => (SE.fn gd (c_is_knot h) tk (SA.x (SD.v 3) (SA.x (SD.v 4) SA.nil)))) (cFn_w (ask_of (all2 q__law_right_6 hd_none hd_odd)) rfl rfl))
  (LJ.as [.ow (.di p 0), .fr RING, .fr TWICE, .fr d_none, .fr d_odd, .fr (.lst M_bad), .fr d_bad, .fr d_store, .ow (.lst [.str "question", .str "question", .str "question", .str "question", .str "question", .str "question"]), .no] (LJ.wA 8 [.str "question", .str "question", .str "question", .str "question", .str "question", .str "question"] gd (pw (w := "question") h gd lm (fun _ _ _ _ _ _ _ gd tk => (SE.fn gd (c_stuck_by h) tk (SA.x (SD.v 3) (SA.x (SD.v 4) SA.nil)))) (cFn_w (ask_of (all2 q__law_right_7 hd_none hd_odd)) rfl rfl))
  (LJ.as [.ow (.di p 0), .fr RING, .fr TWICE, .fr d_none, .fr d_odd, .fr (.lst M_bad), .fr d_bad, .fr d_store, .ow (.lst [.str "question", .str "question", .str "question", .str "question", .str "question", .str "question", .str "question"]), .no] (LJ.wA 8 [.str "question", .str "question", .str "question", .str "question", .str "question", .str "question", .str "question"] gd (pw (w := "question") h gd lm (fun _ _ _ _ _ _ _ gd tk => (SE.fn gd (c_stuck_store h) tk (SA.x (SD.v 3) SA.nil))) (cFn_w (ask_of (all1 q__law_right_8 hd_none)) rfl rfl))
  (LJ.as [.ow (.di p 0), .fr RING, .fr TWICE, .fr d_none, .fr d_odd, .fr (.lst M_bad), .fr d_bad, .fr d_store, .ow (.lst [.str "question", .str "question", .str "question", .str "question", .str "question", .str "question", .str "question", .str "question"]), .no] (LJ.wA 8 [.str "question", .str "question", .str "question", .str "question", .str "question", .str "question", .str "question", .str "question"] gd (pw (w := "question") h gd lm (fun _ _ _ _ _ _ _ gd tk => (SE.fn gd (c_is_stuck h) tk (SA.x (SD.v 3) (SA.x (SD.v 4) SA.nil)))) (cFn_w (ask_of (all2 q__law_right_9 hd_none hd_odd)) rfl rfl))
  (LJ.as [.ow (.di p 0), .fr RING, .fr TWICE, .fr d_none, .fr d_odd, .fr (.lst M_bad), .fr d_bad, .fr d_store, .ow (.lst [.str "question", .str "question", .str "question", .str "question", .str "question", .str "question", .str "question", .str "question", .str "question"]), .no] (LJ.wA 8 [.str "question", .str "question", .str "question", .str "question", .str "question", .str "question", .str "question", .str "question", .str "question"] gd (pw (w := "question") h gd lm (fun _ _ _ _ _ _ _ gd tk => (SE.fn gd (c_are_agreeing h) tk (SA.x (SD.v 3) (SA.x (SD.v 7) SA.nil)))) (cFn_w (ask_of (all2 q__law_right_10 hd_none hd_store)) rfl rfl))
  (LJ.as [.ow (.di p 0), .fr RING, .fr TWICE, .fr d_none, .fr d_odd, .fr (.lst M_bad), .fr d_bad, .fr d_store, .ow (.lst [.str "question", .str "question", .str "question", .str "question", .str "question", .str "question", .str "question", .str "question", .str "question", .str "question"]), .no] (LJ.wA 8 [.str "question", .str "question", .str "question", .str "question", .str "question", .str "question", .str "question", .str "question", .str "question", .str "question"] gd (pw (w := "operation") h gd lm (fun _ _ _ _ _ _ _ gd tk => (SE.fn gd (c_stuck_by h) tk (SA.x (SD.v 2) (SA.x (SD.v 4) SA.nil)))) (cFn_w (ask_of (all1 q__law_right_11 hd_odd)) rfl rfl))
  (LJ.as [.ow (.di p 0), .fr RING, .fr TWICE, .fr d_none, .fr d_odd, .fr (.lst M_bad), .fr d_bad, .fr d_store, .ow (.lst [.str "question", .str "question", .str "question", .str "question", .str "question", .str "question", .str "question", .str "question", .str "question", .str "question", .str "operation"]), .no] (LJ.wA 8 [.str "question", .str "question", .str "question", .str "question", .str "question", .str "question", .str "question", .str "question", .str "question", .str "question", .str "operation"] gd (pw (w := "operation") h gd lm (fun _ _ _ _ _ _ _ gd tk => (SE.fn gd (c_stuck_store h) tk (SA.x (SD.v 2) SA.nil))) ((by kernel_rfl)))
  (LJ.as [.ow (.di p 0), .fr RING, .fr TWICE, .fr d_none, .fr d_odd, .fr (.lst M_bad), .fr d_bad, .fr d_store, .ow (.lst [.str "question", .str "question", .str "question", .str "question", .str "question", .str "question", .str "question", .str "question", .str "question", .str "question", .str "operation", .str "operation"]), .no] (LJ.wA 8 [.str "question", .str "question", .str "question", .str "question", .str "question", .str "question", .str "question", .str "question", .str "question", .str "question", .str "operation", .str "operation"] gd (pw (w := "operation") h gd lm (fun _ _ _ _ _ _ _ gd tk => (SE.fn gd (c_is_stuck h) tk (SA.x (SD.v 2) (SA.x (SD.v 4) SA.nil)))) (cFn_w (ask_of (all1 q__law_right_12 hd_odd)) rfl rfl))
  (LJ.as [.ow (.di p 0), .fr RING, .fr TWICE, .fr d_none, .fr d_odd, .fr (.lst M_bad), .fr d_bad, .fr d_store, .ow (.lst [.str "question", .str "question", .str "question", .str "question", .str "question", .str "question", .str "question", .str "question", .str "question", .str "question", .str "operation", .str "operation", .str "operation"]), .no] (LJ.wA 8 [.str "question", .str "question", .str "question", .str "question", .str "question", .str "question", .str "question", .str "question", .str "question", .str "question", .str "operation", .str "operation", .str "operation"] gd (pw (w := "knot") h gd lm (fun _ _ _ _ _ _ _ gd tk => (SE.fn gd (c_stuck_by h) tk (SA.x (SD.v 1) (SA.x (SD.v 4) SA.nil)))) (cFn_w (ask_of (all1 q__law_right_13 hd_odd)) rfl rfl))
  (LJ.as [.ow (.di p 0), .fr RING, .fr TWICE, .fr d_none, .fr d_odd, .fr (.lst M_bad), .fr d_bad, .fr d_store, .ow (.lst [.str "question", .str "question", .str "question", .str "question", .str "question", .str "question", .str "question", .str "question", .str "question", .str "question", .str "operation", .str "operation", .str "operation", .str "knot"]), .no] (LJ.wA 8 [.str "question", .str "question", .str "question", .str "question", .str "question", .str "question", .str "question", .str "question", .str "question", .str "question", .str "operation", .str "operation", .str "operation", .str "knot"] gd (pw (w := "store") h gd lm (fun _ _ _ _ _ _ _ gd tk => (SE.fn gd (c_are_agreeing h) tk (SA.x (SD.v 1) (SA.x (SD.v 7) SA.nil)))) (cFn_w (ask_of (all1 q__law_right_14 hd_store)) rfl rfl))
  (LJ.as [.ow (.di p 0), .fr RING, .fr TWICE, .fr d_none, .fr d_odd, .fr (.lst M_bad), .fr d_bad, .fr d_store, .ow (.lst [.str "question", .str "question", .str "question", .str "question", .str "question", .str "question", .str "question", .str "question", .str "question", .str "question", .str "operation", .str "operation", .str "operation", .str "knot", .str "store"]), .no] (LJ.wA 8 [.str "question", .str "question", .str "question", .str "question", .str "question", .str "question", .str "question", .str "question", .str "question", .str "question", .str "operation", .str "operation", .str "operation", .str "knot", .str "store"] gd (pw (w := "operation") h gd lm (fun _ _ _ _ _ _ _ gd tk => (SE.fn gd (c_tree_of h) tk (SA.x (SD.v 6) SA.nil))) (cFn_w (ask_of (all1 q__law_right_15 hd_bad)) rfl rfl))
  (LJ.as [.ow (.di p 0), .fr RING, .fr TWICE, .fr d_none, .fr d_odd, .fr (.lst M_bad), .fr d_bad, .fr d_store, .ow (.lst [.str "question", .str "question", .str "question", .str "question", .str "question", .str "question", .str "question", .str "question", .str "question", .str "question", .str "operation", .str "operation", .str "operation", .str "knot", .str "store", .str "operation"]), .no] (LJ.wA 8 [.str "question", .str "question", .str "question", .str "question", .str "question", .str "question", .str "question", .str "question", .str "question", .str "question", .str "operation", .str "operation", .str "operation", .str "knot", .str "store", .str "operation"] gd (pw (w := "fine") h gd lm (fun _ _ _ _ _ _ _ gd tk => (SE.fn gd (c_stuck_by h) tk (SA.x (SD.v 1) (SA.x (SD.tup (SA.x SD.str (SA.x (SD.tup (SA.x SD.str (SA.x SD.str (SA.x SD.str SA.nil)))) SA.nil))) SA.nil)))) ((by kernel_rfl)))
  (LJ.as [.ow (.di p 0), .fr RING, .fr TWICE, .fr d_none, .fr d_odd, .fr (.lst M_bad), .fr d_bad, .fr d_store, .ow (.lst [.str "question", .str "question", .str "question", .str "question", .str "question", .str "question", .str "question", .str "question", .str "question", .str "question", .str "operation", .str "operation", .str "operation", .str "knot", .str "store", .str "operation", .str "fine"]), .no] (LJ.wA 8 [.str "question", .str "question", .str "question", .str "question", .str "question", .str "question", .str "question", .str "question", .str "question", .str "question", .str "operation", .str "operation", .str "operation", .str "knot", .str "store", .str "operation", .str "fine"] gd (pw (w := "fine") h gd lm (fun _ _ _ _ _ _ _ gd tk => (SE.fn gd (c_are_agreeing h) tk (SA.x (SD.v 2) (SA.x (SD.mk gd (c_Store_init h) (SA.x (SF.sd (SF.dp (SPs.cons SD.str SD.int SPs.nil))) (SA.x (SF.sd SF.newK) SA.nil))) SA.nil)))) ((by kernel_rfl)))
  (LJ.as [.ow (.di p 0), .fr RING, .fr TWICE, .fr d_none, .fr d_odd, .fr (.lst M_bad), .fr d_bad, .fr d_store, .ow (.lst [.str "question", .str "question", .str "question", .str "question", .str "question", .str "question", .str "question", .str "question", .str "question", .str "question", .str "operation", .str "operation", .str "operation", .str "knot", .str "store", .str "operation", .str "fine", .str "fine"]), .no] (LJ.ss (E := E) (env1 := [.ow (.di p 0), .fr RING, .fr TWICE, .fr d_none, .fr d_odd, .fr (.lst M_bad), .fr d_bad, .fr d_store, .ow (.lst [.str "question", .str "question", .str "question", .str "question", .str "question", .str "question", .str "question", .str "question", .str "question", .str "question", .str "operation", .str "operation", .str "operation", .str "knot", .str "store", .str "operation", .str "fine", .str "fine"]), .fr (.lst [(.str "question"), (.str "question"), (.str "question"), (.str "question"), (.str "question"), (.str "question"), (.str "question"), (.str "question"), (.str "question"), (.str "question"), (.str "operation"), (.str "operation"), (.str "operation"), (.str "knot"), (.str "store"), (.str "operation"), (.str "fine"), (.str "fine")])]) (SS.st 9 gd (SF.sd (SF.cat (SF.sd (SF.cat (SF.sd (SF.rep (SF.sd (SF.lst (SA.x SD.str SA.nil))) SD.int)) (SF.sd (SF.rep (SF.sd (SF.lst (SA.x SD.str SA.nil))) SD.int)))) (SF.sd (SF.lst (SA.x SD.str (SA.x SD.str (SA.x SD.str (SA.x SD.str (SA.x SD.str SA.nil)))))))))) (by kernel_rfl)
  (LJ.ss (E := E) (env1 := [.ow (.di p 0), .fr RING, .fr TWICE, .fr d_none, .fr d_odd, .fr (.lst M_bad), .fr d_bad, .fr d_store, .fr (.lst [.str "question", .str "question", .str "question", .str "question", .str "question", .str "question", .str "question", .str "question", .str "question", .str "question", .str "operation", .str "operation", .str "operation", .str "knot", .str "store", .str "operation", .str "fine", .str "fine"]), .fr (.lst [(.str "question"), (.str "question"), (.str "question"), (.str "question"), (.str "question"), (.str "question"), (.str "question"), (.str "question"), (.str "question"), (.str "question"), (.str "operation"), (.str "operation"), (.str "operation"), (.str "knot"), (.str "store"), (.str "operation"), (.str "fine"), (.str "fine")])]) (SS.frz [8] (SS.ife (ST.cm gd (SD.v 8) (SD.v 9)) (SSs.one (SS.ret SD.bl)) SSs.nil)) (by kernel_rfl)
  (LJ.ret (SD.cm gd (SF.sd (SF.lst (SA.x (SD.fn gd (c_is_join_tree h) (SA.x (SD.v 1) (SA.x (SD.v 4) SA.nil))) (SA.x (SD.fn gd (c_is_cutting h) (SA.x (SD.v 1) (SA.x (SD.v 4) SA.nil))) (SA.x (SD.fn gd (c_is_knot h) (SA.x (SD.v 1) (SA.x (SD.v 4) SA.nil))) (SA.x (SD.fn gd (c_is_stuck h) (SA.x (SD.v 1) (SA.x (SD.v 4) SA.nil))) SA.nil)))))) (SF.sd (SF.rep (SF.sd (SF.lst (SA.x SD.bl SA.nil))) SD.int))) (by (simp only [M_odd, List.mem_cons, List.not_mem_nil, or_false] at hd_odd; rcases hd_odd with rfl | rfl | rfl | rfl | rfl | rfl | rfl | rfl) <;> kernel_rfl) (by repeat (first | exact LeE.nil | apply LeE.same | apply LeE.no)))))))))))))))))))))))))))))))))))))))))))))))))) (by repeat (first | exact LeE.nil | apply LeE.same | apply LeE.no))
end K41
set_option maxHeartbeats 40000000
namespace K41
open PySem PySem.Spec PyProof.Rows L2 Ev
def N_law : List Str := ["_law_script", "_law_ring", "_law_twice", "_law_spot", "_law_dice_here", "_law_turn", "_law_told"]
theorem S_law : FnScope N_law ["_law_script"] (defScope (top 108)) := ⟨rfl, rfl, rfl, by decide +kernel, rfl, by decide +kernel, by decide +kernel⟩
theorem law_ok {P : Program} {w : World} {K : PySem.W.Frag} {mg : Str → Option Value} {base : Heap} {f : Addr} {fd : FuncData} (hh : ∀ a, Hd (gx P w K a) mg base) (tb : ∀ p ∈ tf.map (He.cT K), LamX.TabB base mg p.1 p.2) (F : FunD K "law" "law" (defArgs (top 108)) (defBody (top 108)) (defScope (top 108)) [] [] f fd) (hc : fd.code = .ref (He.cT K ("law", none)).1) :
    FnOk P w K mg base (L2.CX P w) 15 f fd ["_law_script"] (spLawT K (TB K)) :=
  law_fn (cadK K) (fun _ => rfl) F hc S_law (r := List.replicate 7 .no) fun a A outer s H E gd ow =>
  have h := hh a
  have lm : LmAt (cxD (gx P w K a) mg base N_law "law" (defScope (top 108)) f (.ref (He.cT K ("law", none)).1) A outer s H E) (TB K) base mg := lm_law h (tb _ (mem_tf_law K))
  LJ.le (env1 := [.fr (.cl 99), .no, .no, .no, .no, .no, .no])
  (LJ.ss (E := E) (env1 := [.fr (.cl 99), .fr RING, .fr TWICE, .no, .no, .no, .no]) (SS.pr 1 2 gd (SA.x (SD.fn gd (c__law_made h) (SA.x (SD.fn gd (c__law_written h) (SA.x SD.int SA.nil)) SA.nil)) (SA.x (SD.fn gd (c__law_made h) (SA.x (SD.fn gd (c__law_written h) (SA.x SD.int SA.nil)) SA.nil)) SA.nil))) (by kernel_rfl)
  (LJ.rng (m := 4) 3 gd ow h.n_range (LN.sc (m := 4) 0 gd h.n_max h.n_min h.n_len) (fun i_3 hi_3 =>
  (LJ.as [.fr (.cl 99), .fr RING, .fr TWICE, .fr (.int i_3), .no, .no, .no] (LJ.di (m := i_3) 3 4 0 (ok_dice h) gd (by omega) fun p =>
  (LJ.as [.fr (.cl 99), .fr RING, .fr TWICE, .fr (.int i_3), .ow (.di p 0), .no, .no] (LJ.rng (m := 3) 5 gd ow h.n_range (LN.sd (m := 3) (j := 3) SD.int rfl (by decide)) (fun i_5 hi_5 =>
  (LJ.as [.fr (.cl 99), .fr RING, .fr TWICE, .fr (.int i_3), .ow (.di p 0), .fr (.int i_5), .no] (LJ.ifF (LT.not_ (LT.ca 4 (_law_right_ok h tb) gd (SA.x (SD.v 1) (SA.x (SD.v 2) SA.nil)))) (pss_one (ps_ret pe_bl))
  (LJ.le LJ.nil (by repeat (first | exact LeE.nil | apply LeE.same | apply LeE.no))))))
  (LJ.le LJ.nil (by repeat (first | exact LeE.nil | apply LeE.same | apply LeE.no))))))))
  (LJ.w1 6 gd (pw (w := "fine") h gd lm (fun _ _ _ _ _ _ _ gd tk => (SE.fn gd (c_tree_of h) tk (SA.x (SD.tup SA.nil) SA.nil))) ((by kernel_rfl)))
  (LJ.as [.fr (.cl 99), .fr RING, .fr TWICE, .no, .no, .no, .ow (.lst [.str "fine"])] (LJ.wA 6 [.str "fine"] gd (pw (w := "fine") h gd lm (fun _ _ _ _ _ _ _ gd tk => (SE.fn gd (c_tree_of h) tk (SA.x (SD.tup (SA.x (SD.tup (SA.x SD.int (SA.x (SD.bin gd SD.int SD.int) SA.nil))) SA.nil)) SA.nil))) ((by kernel_rfl)))
  (LJ.as [.fr (.cl 99), .fr RING, .fr TWICE, .no, .no, .no, .ow (.lst [.str "fine", .str "fine"])] (LJ.frz [6] (LJ.as [.fr (.cl 99), .fr RING, .fr TWICE, .no, .no, .no, .fr (.lst [.str "fine", .str "fine"])] (LJ.ret (SD.cm gd (SD.v 6) (SF.sd (SF.lst (SA.x SD.str (SA.x SD.str SA.nil))))) (by kernel_rfl) (by repeat (first | exact LeE.nil | apply LeE.same | apply LeE.no))))))))))) (by repeat (first | exact LeE.nil | apply LeE.same | apply LeE.no))
end K41
set_option maxHeartbeats 0
namespace K41
open PySem PySem.Spec PyProof.Rows L2 Ev
theorem run (w : World) : HandSHeadRun.RunEq Rw (PySem.W.view Rw.prog [108]) hk ob 7400 names w := by
  intro os
  kernel_rfl
end K41
set_option maxHeartbeats 40000000
namespace K41
open PySem PySem.Spec PyProof.Rows L2 Ev
theorem tabs0 {K : PySem.W.Frag} {H : Hp} (h : ∀ p ∈ tf.map (He.cT K), H p.2 = some (.tbl #[])) : LamX.Tabs (TB K) H := fun p hp => by
  rcases List.mem_cons.mp hp with z | z
  · rw [z]; exact .nil (h _ (mem_tf__law_right K))
  · rcases List.mem_cons.mp z with z | z
    · rw [z]; exact .nil (h _ (mem_tf_law K))
    · cases z
theorem at_law {l : PySem.W.OpenLaw} {w : World} {K : PySem.W.Frag} {mg : Str → Option Value} {fa' : Addr} {h : Heap} (KX : K.In h) (Gn : h.Ns mainGlobals mg) (hmg : mg "law" = some (.ref fa')) (c : SaysY fa df tf tst w h K) :
    LamX.LawAtS l w K (L2.CX l.prog w) 15 63 "_law_script" mg fa' h := by
  obtain ⟨f, fd, F, hm, hc⟩ := (hd_of (P := l.prog) (base := h) (a := 0) KX Gn c).d_law
  rw [hmg] at hm
  cases hm
  have b := FunD.bindsA (ps := ["_law_script"]) F fun _ _ _ _ _ _ us hl => match us, hl with | [_], _ => rfl
  refine ⟨fd, tf.map (He.cT K), spLawT K (TB K), fun p hp => ?_, fun p hp => ?_, fun p hp => ?_, fun s v => b s [v] rfl, fun H a ns _ _ hH hS => ⟨a, ns, rfl, hS, tabs0 hH, fun _ => rfl⟩, fun base _ _ tb => law_ok (fun a => hd_of KX Gn c) tb F hc⟩
  · obtain ⟨q, hq, rfl⟩ := List.mem_map.mp hp
    exact c.x.empty q hq
  · obtain ⟨q, hq, rfl⟩ := List.mem_map.mp hp
    exact c.x.out q hq
  · obtain ⟨q, hq, rfl⟩ := List.mem_map.mp hp
    exact PySem.W.codeHd_of_K KX (c.x.hd q hq)
theorem cx_no {P : Program} {w : World} {H : Hp} {s : Shared} {e : Value} {s' : Shared} (z : L2.CX P w [] H s (fun _ _ _ => False) e s') : False := by
  obtain ⟨_, _, _, _, _, _, _, _, _, _, _, _, z⟩ := z
  exact z
end K41
open PySem PySem.W PySem.Calls PyProof.Rows
theorem PySem.Challenge.cw_joinhouse_k41_errors_of_shapes_holds : PySem.Challenge.rw_joinhouse_k41_errors_of_shapes.Holds := by
  w_on; o_law
  refine HandSHeadRun.head_any (r := OpenLaw.row PySem.Challenge.rw_joinhouse_k41_errors_of_shapes) (q := view (OpenLaw.row PySem.Challenge.rw_joinhouse_k41_errors_of_shapes).prog [108]) (H := K41.hk) (ob := K41.ob) (M := 7400) (loose := K41.names) (d := HandSHeadRun.topDef (OpenLaw.row PySem.Challenge.rw_joinhouse_k41_errors_of_shapes).prog 108) (kwd := []) K41.ob_eq
    (by kernel_rfl) (fun s => by kernel_rfl) K41.run (by kernel_rfl) (by kernel_rfl) (by kernel_rfl) (by rfl) (by first | assumption | decide +kernel) (by decide +kernel) ⟨rfl, rfl, rfl, rfl, rfl, by decide +kernel⟩ ?hw ?hc
  case hw => w_witness2
  case hc =>
    refine LamX.walk_ofTsE (l := PySem.Challenge.rw_joinhouse_k41_errors_of_shapes) (n := 63) (k := 15) (x := "_law_script") (CX := fun w => L2.CX (PySem.Challenge.rw_joinhouse_k41_errors_of_shapes).prog w) rfl (by decide) (by kernel_rfl) ⟨rfl, by decide, by decide⟩ ?F (fun _ _ _ _ _ z => K41.cx_no z)
    intro w mg fa h Y G hmg0
    obtain ⟨K, KX, c⟩ := Y
    have hmg : mg ("law" : PySem.Str) = some (.ref fa) := by
      have e : (HandSHeadRun.topDef (OpenLaw.row PySem.Challenge.rw_joinhouse_k41_errors_of_shapes).prog 108).name = ("law" : PySem.Str) := by kernel_rfl
      rw [← e]
      exact hmg0
    exact ⟨K, KX, K41.at_law KX G hmg c⟩
