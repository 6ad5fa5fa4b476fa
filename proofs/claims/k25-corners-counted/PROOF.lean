import PyProof.Rows.All
import Wide.All
import OpenK.AllK
import Wide.FinOn
import HandS.ForMost
import HandS.Deep
import HandS.SortRule
import HandS.Wide
import HandS.TupAny
import HandS.Strs
import HandS.Style
import HandS.WideBits
import HandS.IsInst
import HandS.Conv
import HandS.TupLe
import PyProof.IsiBase
import PyProof.FactsAll.set
import PyProof.IsInstance
import PyProof.IsiFacts
import PyProof.IsiFacts2
import HandS.RaiseMore
import KE.GoesMore
import HandS.SortInts
import HandS.Zip
import KE.DatumOrd
import KE.SortData
import HandS.TupSets
import HandS.WordsDict
import HandS.Text
import HandS.Exc
import HandS.ExcOwn
import HandS.TryOnly
import HandS.TryMany
import HandS.Small
import HandS.ExcInit
import HandS.ExcField
import HandS.Remove
import HandS.SetFor
import PyProof.WalksMore
import PyProof.TupleIter
import HandS.More
import KE.KDictDisplayH
import KE.KDictCopyH
import KE.KDictSum
import KE.SortCalls
import HandS.IterVal
import KE.KDictZip
import HandS.TupLen
import HandS.Sort
import PyProof.SumWalkG
import PyProof.WalkInts
import KE.KDictKeyed
import HandS.Iter
import PySem.Challenge.RW_lowerboards_k25_whole_corners_counted
set_option Elab.async false
set_option autoImplicit false
set_option linter.all false
set_option maxRecDepth 100000
set_option maxHeartbeats 1000001
namespace L2
open PyProof.Rows PySem PySem.Spec

def Bare (K : PySem.W.Frag) (H : Hp) (a : Addr) : Prop := (∃ o xs, H a = some (.frz o (.tup xs)) ∧ o.dict = none) ∨ ∃ o, K.lookup a = some o ∧ o.dict = none
def tupO (o : Obj) (xs : List V) : HO := .frz o (.tup xs)
theorem bareOf {K : PySem.W.Frag} {H : Hp} {a : Addr} {o : Obj} {xs : List V} (h : H a = some (tupO o xs)) (d : o.dict = none) : Bare K H a := .inl ⟨o, xs, h, d⟩
theorem sqtOf {K : PySem.W.Frag} {H : Hp} {a : Addr} {o : Obj} {xs : List V} (h : H a = some (tupO o xs)) : SqT K H a xs := .inl (.inr ⟨o, h⟩)
def NewT (H : Hp) (xs : List V) (Q : VK) : Prop := ∀ (p : Addr) (o : Obj), H p = none → o.dict = none → Q (.ref p) (upd H p (tupO o xs))
section
variable
      {X : Cx} {pins : List (Addr × Obj)} {σ : L2.St} {H : Hp} {s : Shared}
theorem Inv.tnew {its : List Value} {ys : List V} {t' : Nat} (I : Inv X pins σ H s) (hv : Vals ys its) (hz : ys.length ≤ sizeLine) :
    Inv X pins σ (upd H s.heap.objs.size (tupO { cls := .type "tuple", data := .seq its.toArray } ys)) { s with heap := s.heap.push { cls := .type "tuple", data := .seq its.toArray }, toks := t' } :=
  I.laid (fun _ _ q => Heap.get?_push_of_some _ q) (Nat.le_refl _) ⟨Heap.get?_push_size _ rfl, hz, its, hv, IsTup.new _ _⟩
variable {e : Expr} {es : List Expr} {te : TE} {t : TA} {pos : Pos}
def tTupF (t : TA) : TE := fun σ H Q => t σ H fun xs H1 => xs.length ≤ sizeLine ∧ NewT H1 xs Q
theorem pe_tupF {x1 : Nat} (h : PA X es t) : PE X (.Tuple es x1 pos) (tTupF t) := by
  refine ⟨fun pins s σ H Q I hq => wpAny_Tuple_spliced (thn (h.run pos pins s σ H _ I hq) fun us s1 ⟨xs, H1, I1, r, z, q⟩ => ⟨?_, ?_⟩)⟩
  · rw [← r.length]
    exact z
  · exact ⟨.ref _, _, I1.tnew (t' := s1.toks) r z, rfl, q _ _ I1.fresh rfl⟩
theorem call_tupleF : CallR X (.type "tuple") (fun xs H Q => ∃ p ys, xs = [.ref p] ∧ ((SqL X.K H p ys ∧ NewT H ys Q) ∨ (SqT X.K H p ys ∧ Q (.ref p) H))) := by
  intro pins s σ H xs us Q I r ⟨p, ys, ex, h⟩
  subst ex
  obtain
        ⟨u, rfl, rx⟩ := vals1 r
  cases rx
  rcases
        h with ⟨hq, q⟩ | ⟨hq, q⟩
  · obtain ⟨its, rv, pl, hz⟩ := I.list hq
    have hl := rv.length
    refine call_tuple_list pl.isList (fun h' kp => ?_) (by simp only [List.size_toArray]; omega)
    have
          I1 : Inv X pins σ H { s with heap := h' } := I.kept (t' := s.toks) kp
    exact ⟨.ref h'.objs.size, _, I1.tnew (t' := s.toks) rv hz, rfl, q _ _ I1.fresh rfl⟩
  · obtain ⟨its, rv, pl, _⟩ := I.tuple hq
    exact
          call_tuple_same pl ⟨.ref p, H, I, rfl, q⟩
theorem op_catF : OpR X (binaryOp .Add) (fun x y H Q => ∃ a b xs ys, x = .ref a ∧ y = .ref b ∧ SqT X.K H a xs ∧ SqT X.K H b ys ∧ xs.length + ys.length ≤ sizeLine ∧
    (xs = [] → Q (.ref b) H) ∧ (xs ≠ [] → ys = [] → Q (.ref a) H) ∧ (xs ≠ [] → ys ≠ [] → NewT H (xs ++ ys) Q)) := by
  intro pins s σ H x y v u Q I rx ry ⟨a, b, xs, ys, e1, e2, ha, hb, hz, q0, q1, q2⟩
  subst e1 e2
  cases rx
  cases ry
  obtain ⟨i1, r1, p1, _⟩ := I.tuple ha
  obtain ⟨i2, r2, p2, _⟩ := I.tuple hb
  by_cases hx : xs = []
  · subst hx
    cases r1
    exact
          cat_tup0 p1 p2 ⟨.ref b, H, I, rfl, q0 rfl⟩
  · refine HT.cat_tup p1 p2 (fun z => hx (r1.nil_iff.mp z)) (fun z => ⟨.ref a, H, I, rfl, q1 hx (r2.nil_iff.mp z)⟩) (fun z => ?_) (by rw [← r1.length, ← r2.length]; exact hz)
    exact ⟨.ref _, _, I.tnew (t' := s.toks) (r1.append r2) (by rw [List.length_append]; exact hz), rfl, q2 hx (fun w => z (r2.nil_iff.mpr w)) _ _ I.fresh rfl⟩
theorem sl_tupF : SlR X (fun x lo hi H Q => ∃ a xs, x = .ref a ∧ SqT X.K H a xs ∧ (HT.sIx xs.length 0 lo = 0 ∧ HT.sIx xs.length xs.length hi = xs.length → Q (.ref a) H) ∧
    (¬ (HT.sIx xs.length 0 lo = 0 ∧ HT.sIx xs.length xs.length hi = xs.length) → NewT H (cutV xs lo hi) Q)) := by
  intro pins s σ H x v vl vu lo hi sl Q I rx hs pl pu ⟨a, xs, ex, hx, q1, q2⟩
  subst ex
  cases rx
  obtain
        ⟨its, r, ht, hz⟩ := I.tuple hx
  have
        hlen : its.toArray.size = xs.length := by rw [List.size_toArray]; exact r.length.symm
  refine
        ⟨"tuple", _, PyProof.Rows.slot_tuple_getitem.lookup, ht.typeIs, ?_⟩
  by_cases
        hw : HT.sIx xs.length 0 lo = 0 ∧ HT.sIx xs.length xs.length hi = xs.length
  · exact getItem_tuple_whole ht hs pl pu (by rw [hlen]; exact hw) ⟨.ref a, H, I, rfl, q1 hw⟩
  · refine HT.getItem_tuple_cut ht hs pl pu (by rw [hlen]; exact hw) ?_ (by rw [hlen]; exact hz)
    rw [hlen]
    exact ⟨.ref _, _, I.tnew (t' := s.toks) ((r.drop _).take _) (Nat.le_trans (cutV_length xs lo hi) hz), rfl, q2 hw _ _ I.fresh rfl⟩
theorem call_divmodF : CallR X (.builtin "divmod") (fun xs H Q => ∃ i j, xs = [.int i, .int j] ∧ CDiv i j ∧ NewT H [.int (i / j), .int (i % j)] Q) := by
  intro pins s σ H xs us Q I r ⟨i, j, ex, ⟨h1, h2⟩, q⟩
  subst ex
  obtain
        ⟨u, w', rfl, ⟨t, rfl⟩, ⟨t', rfl⟩⟩ := vals2 r
  refine
        divmod_int (by omega) ?_ (.inl (PyProof.noPylong_small (by omega)))
  rw
        [Int.fdiv_eq_ediv_of_nonneg i (by omega), Int.fmod_eq_emod_of_nonneg i (by omega)]
  exact ⟨.ref s.heap.objs.size, _, I.tnew (its := [.int (i / j) s.toks, .int (i % j) (s.toks + 1)]) (ys := [.int (i / j), .int (i % j)]) (.cons ⟨_, rfl⟩ (.cons ⟨_, rfl⟩ .nil)) (by simp only [List.length_cons, List.length_nil]; rw [sizeLine_eq]; decide), rfl, q _ _ I.fresh rfl⟩
end
end L2
set_option Elab.async false
set_option autoImplicit false
set_option linter.all false
set_option maxRecDepth 100000
set_option maxHeartbeats 1000001
namespace L2
open PyProof.Rows PySem PySem.Spec

abbrev D := PyData

inductive TV where
  | d (x : D)
  | own (xs : List D)
  /-- a dict of one's own -/
  | dc (ps : List (D × D))

def TV.toD : TV → D
  | .d x => x
  | .own xs => .list xs
  | .dc ps => .dict ((.bool false, .none) :: ps)
def TV.mut : TV → Bool
  | .d _ => false
  | _ => true

abbrev Slots := List (Option TV)

theorem sameT {K : PySem.W.Frag} {H H' : Hp} {a : Addr} {xs : List V} (e : Same H H') (h : SqT K H a xs) : SqT K H' a xs := by
  rcases
        h with (h | ⟨o, h⟩) | h
  · exact .inl (.inl (e _ _ h))
  · exact
        .inl (.inr ⟨o, e _ _ h⟩)
  · exact .inr h
theorem rdSame {H H' : Hp} {a : Addr} {u : HO} (e : Same H H') (h : Rd H a u) : Rd H' a u := by
  rcases h with h | ⟨o, h⟩
  · exact .inl (e _ _ h)
  · exact .inr ⟨o, e _ _ h⟩
theorem bareSame {K : PySem.W.Frag} {H H' : Hp} {a : Addr} (e : Same H H') (h : Bare K H a) : Bare K H' a := by
  rcases h with ⟨o, xs, h, d⟩ | h
  · exact .inl ⟨o, xs, e _ _ h, d⟩
  · exact .inr h
def KInts (K : PySem.W.Frag) (a : Addr) (is : List Int) : Prop := ∃ (o : Obj) (its : Array Value) (n : Nat), K.lookup a = some o ∧ o.cls = .type "list" ∧ o.dict = none ∧ o.data = .seq its n ∧ its.size ≤ sizeLine ∧ Vals (is.map V.int) its.toList
def scrD (is : List Int) : D := .dict (is.map fun i => (.int i, .none))
def isScr (kvs : List (D × D)) : Bool := kvs.all fun p => match p with
  | (.int _, .none) => true
  | _ => false
theorem isScr_of (is : List Int) : isScr (is.map fun i => (.int i, .none)) = true := by
  unfold isScr
  rw [List.all_map]
  exact
        List.all_eq_true.mpr fun _ _ => rfl
def dicD : D := .dict [(.none, .none)]
def keyD : Key → D
  | .inl i => .int i
  | .inr x => .str x
def scalV : D → Option V
  | .none => some .non
  | .bool b => some (.bl b)
  | .int i => some (.int i)
  | .str x => some (.str x)
  | _ => none
def FlatKv : List (Key × V) → List (D × D) → Prop
  | [], [] => True
  | (k, v) :: r, (x, y) :: q => keyD k = x ∧ scalV y = some v ∧ FlatKv r q
  | _, _ => False
abbrev DEnt := List Int × Addr × V
def hT (ks : List Int) : Int := reduceHash (Builtin.Tuple.tupleHashOf (ks.map hashInt))
def dcE (x : List Int × Addr × Value) : DictEntry := ⟨hT x.1, .ref x.2.1, x.2.2⟩
def dcPhi (a : Addr) (es : List DEnt) (o : Obj) (h : Heap) : Prop := es.length ≤ sizeLine ∧ (a == sysModules) = false ∧ (es.map (·.1)).Nodup ∧ ∃ us : List Value, Vals (es.map (·.2.2)) us ∧
  ∃ ds ep, h.get? a = some o ∧ o.ExactDict ∧ o.data = .dict ds ep ∧ ds.toList = ((es.map (·.1)).zip ((es.map (·.2.1)).zip us)).map dcE
def DcO (a : Addr) (es : List DEnt) (o : Obj) : HO := .ext (dcPhi a es o)
def keyT (ks : List Int) : D := .tuple (ks.map PyData.int)
def dps (es : List DEnt) (ds : List D) : List (D × D) := (es.map fun e => keyT e.1).zip ds
def ips (kvs : List (Int × V)) (ds : List D) : List (D × D) := (kvs.map fun e => PyData.int e.1).zip ds
mutual
inductive Dq (K : PySem.W.Frag) (H : Hp) : V → D → Prop
  | non : Dq K H .non .none
  | bl (b : Bool) : Dq K H (.bl b) (.bool b)
  | int (i : Int) : Dq K H (.int i) (.int i)
  | str (x : Str) : Dq K H (.str x) (.str x)
  | lst {a : Addr} {xs : List V} {ds : List D} : Rd H a (.lst xs) → DqAll K H xs ds → Dq K H (.ref a) (.list ds)
  | tup {a : Addr} {xs : List V} {ds : List D} : SqT K H a xs → Bare K H a → DqAll K H xs ds → Dq K H (.ref a) (.tuple ds)
  | scr {a : Addr} {is : List Int} : KInts K a is → Dq K H (.ref a) (.dict (is.map fun i => (.int i, .none)))
  | dic {a : Addr} {kvs : List (Key × V)} : Rd H a (.dK kvs) → Dq K H (.ref a) (.dict [(.none, .none)])
  | dct {a : Addr} {kvs : List (Key × V)} {ps : List (D × D)} : Rd H a (.dK kvs) → FlatKv kvs ps → Dq K H (.ref a) (.dict ((.bool true, .none) :: ps))
  | dcx {a : Addr} {es : List DEnt} {ob : Obj} {ds : List D} : H a = some (DcO a es ob) → DqAll K H (es.map fun e => V.ref e.2.1) (es.map fun e => keyT e.1) → DqAll K H (es.map fun e => e.2.2) ds → Dq K H (.ref a) (.dict ((.bool false, .none) :: dps es ds))
  | dci {a : Addr} {kvs : List (Int × V)} {ds : List D} : Rd H a (.dK (kvs.map fun e => (.inl e.1, e.2))) → DqAll K H (kvs.map fun e => e.2) ds → Dq K H (.ref a) (.dict ((.bool false, .none) :: ips kvs ds))
  | fn {a : Addr} : PySem.W.keepIn K (.ref a) = true → (∃ o, K.lookup a = some o ∧ o.cls = .type "function") → Dq K H (.ref a) (.dict [(.none, .int (a : Nat))])
inductive DqAll (K : PySem.W.Frag) (H : Hp) : List V → List D → Prop
  | nil : DqAll K H [] []
  | cons {v : V} {vs : List V} {d : D} {ds : List D} : Dq K H v d → DqAll K H vs ds → DqAll K H (v :: vs) (d :: ds)
end
mutual
theorem dqMono {K : PySem.W.Frag} {H H' : Hp} (e : Same H H') : ∀ {v : V} {d : D}, Dq K H v d → Dq K H' v d
  | _, _, .non => .non
  | _, _, .bl b => .bl b
  | _, _, .int i => .int i
  | _, _, .str x => .str x
  | _, _, .lst hs ha => .lst (rdSame e hs) (dqAllMono e ha)
  | _, _, .tup hs hb ha => .tup (sameT e hs) (bareSame e hb) (dqAllMono e ha)
  | _, _, .scr hs => .scr hs
  | _, _, .dic hs => .dic (rdSame e hs)
  | _, _, .dct hs hk => .dct (rdSame e hs) hk
  | _, _, .dcx hs hk hv => .dcx (e _ _ hs) (dqAllMono e hk) (dqAllMono e hv)
  | _, _, .dci hs hv => .dci (rdSame e hs) (dqAllMono e hv)
  | _, _, .fn hk hl => .fn hk hl
theorem dqAllMono {K : PySem.W.Frag} {H H' : Hp} (e : Same H H') : ∀ {vs : List V} {ds : List D}, DqAll K H vs ds → DqAll K H' vs ds
  | _, _, .nil => .nil
  | _, _, .cons h1 h2 => .cons (dqMono e h1) (dqAllMono e h2)
end
theorem dpMono {K : PySem.W.Frag} {H H' : Hp} (e : Same H H') (d : D) (v : V) (h : Dq K H v d) : Dq K H' v d := dqMono e h
theorem dpAllMono {K : PySem.W.Frag} {H H' : Hp} (e : Same H H') (ds : List D) (vs : List V) (h : DqAll K H vs ds) : DqAll K H' vs ds := dqAllMono e h
theorem Dq.to {K : PySem.W.Frag} {H H' : Hp} {v : V} {d : D} (h : Dq K H v d) (e : Same H H') : Dq K H' v d := dpMono e d v h
theorem DqAll.to {K : PySem.W.Frag} {H H' : Hp} {vs : List V} {ds : List D} (h : DqAll K H vs ds) (e : Same H H') : DqAll K H' vs ds := dpAllMono e ds vs h
section
variable {K : PySem.W.Frag} {H : Hp}
theorem DqAll.len : ∀ {vs : List V} {ds : List D}, DqAll K H vs ds → vs.length = ds.length
  | _, _, .nil => rfl
  | _, _, .cons _ h => by simp [DqAll.len h]
theorem DqAll.app : ∀ {vs ws : List V} {ds es : List D}, DqAll K H vs ds → DqAll K H ws es → DqAll K H (vs ++ ws) (ds ++ es)
  | _, _, _, _, .nil, h => h
  | _, _, _, _, .cons a r, h => .cons a (DqAll.app r h)
theorem DqAll.one {v : V} {d : D} (h : Dq K H v d) : DqAll K H [v] [d] := .cons h .nil
theorem DqAll.get : ∀ {vs : List V} {ds : List D} {i : Nat} {d : D}, DqAll K H vs ds → ds[i]? = some d → ∃ v, vs[i]? = some v ∧ Dq K H v d
  |
        _, _, _, _, .nil, e => by simp at e
  | _, _, 0, _, .cons a _, e => by
    simp at e
    subst e
    exact ⟨_, rfl, a⟩
  | _, _, i + 1, _, .cons _ r, e => by
    obtain ⟨v, h1, h2⟩ := DqAll.get (i := i) r (by simpa using e)
    exact ⟨v, by simpa using h1, h2⟩
theorem DqAll.getV : ∀ {vs : List V} {ds : List D} {i : Nat} {v : V}, DqAll K H vs ds → vs[i]? = some v → ∃ d, ds[i]? = some d ∧ Dq K H v d
  |
        _, _, _, _, .nil, e => by simp at e
  | _, _, 0, _, .cons a _, e => by
    simp at e
    subst e
    exact ⟨_, rfl, a⟩
  | _, _, i + 1, _, .cons _ r, e => by
    obtain ⟨v, h1, h2⟩ := DqAll.getV (i := i) r (by simpa using e)
    exact ⟨v, by simpa using h1, h2⟩
theorem DqAll.set : ∀ {vs : List V} {ds : List D} (i : Nat) {v : V} {d : D}, DqAll K H vs ds → Dq K H v d → DqAll K H (vs.set i v) (ds.set i d)
  | _, _, _, _, _, .nil, _ => .nil
  | _, _, 0, _, _, .cons _ r, h => .cons h r
  | _, _, i + 1, _, _, .cons a r, h => .cons a (DqAll.set i r h)
theorem DqAll.take : ∀ {vs : List V} {ds : List D} (n : Nat), DqAll K H vs ds → DqAll K H (vs.take n) (ds.take n)
  | _, _, 0, _ => .nil
  | _, _, _ + 1, .nil => .nil
  | _, _, n + 1, .cons a r => .cons a (DqAll.take n r)
theorem DqAll.drop : ∀ {vs : List V} {ds : List D} (n : Nat), DqAll K H vs ds → DqAll K H (vs.drop n) (ds.drop n)
  | _, _, 0, h => h
  | _, _, _ + 1, .nil => .nil
  | _, _, n + 1, .cons _ r => DqAll.drop n r
theorem DqAll.erase : ∀ {vs : List V} {ds : List D} (n : Nat), DqAll K H vs ds → DqAll K H (vs.eraseIdx n) (ds.eraseIdx n)
  | _, _, _, .nil => by simpa using DqAll.nil
  | _, _, 0, .cons _ r => r
  | _, _, n + 1, .cons a r => .cons a (DqAll.erase n r)
end

inductive DpB (K : PySem.W.Frag) (F H : Hp) : V → D → Prop
  | non : DpB K F H .non .none
  | bl (b : Bool) : DpB K F H (.bl b) (.bool b)
  | int (i : Int) : DpB K F H (.int i) (.int i)
  | str (x : Str) : DpB K F H (.str x) (.str x)
  | lst {a : Addr} {xs : List V} {ds : List D} : Rd H a (.lst xs) → DqAll K F xs ds → DpB K F H (.ref a) (.list ds)
  | tup {a : Addr} {xs : List V} {ds : List D} : SqT K F a xs → Bare K F a → DqAll K F xs ds → DpB K F H (.ref a) (.tuple ds)
  | scr {a : Addr} {is : List Int} : KInts K a is → DpB K F H (.ref a) (.dict (is.map fun i => (.int i, .none)))
  | dic {a : Addr} {kvs : List (Key × V)} : Rd F a (.dK kvs) → DpB K F H (.ref a) (.dict [(.none, .none)])
  | dct {a : Addr} {kvs : List (Key × V)} {ps : List (D × D)} : Rd F a (.dK kvs) → FlatKv kvs ps → DpB K F H (.ref a) (.dict ((.bool true, .none) :: ps))
  | dcx {a : Addr} {es : List DEnt} {ob : Obj} {ds : List D} : H a = some (DcO a es ob) → DqAll K F (es.map fun e => V.ref e.2.1) (es.map fun e => keyT e.1) → DqAll K F (es.map fun e => e.2.2) ds → DpB K F H (.ref a) (.dict ((.bool false, .none) :: dps es ds))
  | dci {a : Addr} {kvs : List (Int × V)} {ds : List D} : Rd H a (.dK (kvs.map fun e => (.inl e.1, e.2))) → DqAll K F (kvs.map fun e => e.2) ds → DpB K F H (.ref a) (.dict ((.bool false, .none) :: ips kvs ds))
  | fn {a : Addr} : PySem.W.keepIn K (.ref a) = true → (∃ o, K.lookup a = some o ∧ o.cls = .type "function") → DpB K F H (.ref a) (.dict [(.none, .int (a : Nat))])
inductive DpBs (K : PySem.W.Frag) (F H : Hp) : List V → List D → Prop
  | nil : DpBs K F H [] []
  | cons {v : V} {vs : List V} {d : D} {ds : List D} : DpB K F H v d → DpBs K F H vs ds → DpBs K F H (v :: vs) (d :: ds)
theorem Dq.bor {K : PySem.W.Frag} {F H : Hp} {v : V} {d : D} (h : Dq K F v d) (e : Same F H) : DpB K F H v d := by
  cases h with
  | non => exact .non
  | bl b => exact .bl b
  | int i => exact .int i
  | str x => exact .str x
  | lst hs ha => exact .lst (rdSame e hs) ha
  | tup hs hb ha => exact .tup hs hb ha
  | scr hs => exact .scr hs
  | dic hs => exact .dic hs
  | dct hs hk => exact .dct hs hk
  | dcx hs hk hv => exact .dcx (e _ _ hs) hk hv
  | dci hs hv => exact .dci (rdSame e hs) hv
  | fn hk hl => exact .fn hk hl
theorem DpB.dp {K : PySem.W.Frag} {F H : Hp} {v : V} {d : D} (h : DpB K F H v d) (e : Same F H) : Dq K H v d := by
  cases h with
  | non => exact .non
  | bl b => exact .bl b
  | int i => exact .int i
  | str x => exact .str x
  | lst hs ha => exact .lst hs (DqAll.to ha e)
  | tup hs hb ha => exact .tup (sameT e hs) (bareSame e hb) (DqAll.to ha e)
  | scr hs => exact .scr hs
  | dic hs => exact .dic (rdSame e hs)
  | dct hs hk => exact .dct (rdSame e hs) hk
  | dcx hs hk hv => exact .dcx hs (DqAll.to hk e) (DqAll.to hv e)
  | dci hs hv => exact .dci hs (DqAll.to hv e)
  | fn hk hl => exact .fn hk hl
theorem DqAll.bor {K : PySem.W.Frag} {F H : Hp} (e : Same F H) : ∀ {vs : List V} {ds : List D}, DqAll K F vs ds → DpBs K F H vs ds
  | _, _, .nil => .nil
  | _, _, .cons a r => .cons (Dq.bor a e) (DqAll.bor e r)

inductive DcU (K : PySem.W.Frag) (F : Hp) (a : Addr) : HO → List (D × D) → Prop
  | t {es : List DEnt} {ob : Obj} {ds : List D} : DqAll K F (es.map fun e => V.ref e.2.1) (es.map fun e => keyT e.1) → DqAll K F (es.map fun e => e.2.2) ds → DcU K F a (DcO a es ob) (dps es ds)
  | i {kvs : List (Int × V)} {ds : List D} : DqAll K F (kvs.map fun e => e.2) ds → DcU K F a (.dK (kvs.map fun e => (.inl e.1, e.2))) (ips kvs ds)
theorem DcU.to {K : PySem.W.Frag} {F F' : Hp} {a : Addr} {u : HO} {ps : List (D × D)} (h : DcU K F a u ps) (e : Same F F') : DcU K F' a u ps := by
  cases h with
  | t h1 h2 => exact .t (DqAll.to h1 e) (DqAll.to h2 e)
  | i h => exact .i (DqAll.to h e)
theorem DcU.dq {K : PySem.W.Frag} {F : Hp} {a : Addr} {u : HO} {ps : List (D × D)} (h : DcU K F a u ps) (e : F a = some u) : Dq K F (.ref a) (.dict ((.bool false, .none) :: ps)) := by
  cases h with
  | t h1 h2 => exact .dcx e h1 h2
  | i h => exact .dci (.of e) h
def TVR (K : PySem.W.Frag) (G F H : Hp) (v : V) : TV → Prop
  | .d x => Dq K F v x
  | .own xs => ∃ a vs, v = .ref a ∧ H a = some (.lst vs) ∧ F a = none ∧ G a = none ∧ DqAll K F vs xs
  | .dc ps => ∃ a u, v = .ref a ∧ H a = some u ∧ F a = none ∧ G a = none ∧ DcU K F a u ps
def MuR (K : PySem.W.Frag) (F : Hp) (a : Addr) (u : HO) : TV → Prop
  | .d _ => False
  | .own xs => ∃ vs, u = .lst vs ∧ DqAll K F vs xs
  | .dc ps => DcU K F a u ps
theorem MuR.to {K : PySem.W.Frag} {F F' : Hp} {a : Addr} {u : HO} {t : TV} (h : MuR K F a u t) (e : Same F F') : MuR K F' a u t := by
  cases t with
  | d x => exact h
  | own xs =>
    obtain ⟨vs, r, q⟩ := h
    exact ⟨vs, r, DqAll.to q e⟩
  | dc ps => exact DcU.to h e
theorem MuR.dq {K : PySem.W.Frag} {F : Hp} {a : Addr} {u : HO} {t : TV} (h : MuR K F a u t) (e : F a = some u) : Dq K F (.ref a) t.toD := by
  cases t with
  | d x => exact h.elim
  | own xs =>
    obtain ⟨vs, rfl, q⟩ := h
    exact .lst (.of e) q
  | dc ps => exact DcU.dq h e
theorem TVR.mutI {K : PySem.W.Frag} {G F H : Hp} {v : V} {t : TV} (h : TVR K G F H v t) (m : t.mut = true) : ∃ a u, v = .ref a ∧ H a = some u ∧ F a = none ∧ G a = none ∧ MuR K F a u t := by
  cases t with
  | d x => cases m
  | own xs =>
    obtain ⟨a, vs, e, h1, h2, h3, h4⟩ := h
    exact ⟨a, _, e, h1, h2, h3, vs, rfl, h4⟩
  | dc ps => exact h
theorem TVR.mutE {K : PySem.W.Frag} {G F H : Hp} {t : TV} {a : Addr} {u : HO} (h1 : H a = some u) (h2 : F a = none) (h3 : G a = none) (h : MuR K F a u t) : TVR K G F H (.ref a) t := by
  cases t with
  | d x => exact h.elim
  | own xs =>
    obtain ⟨vs, rfl, q⟩ := h
    exact ⟨a, vs, rfl, h1, h2, h3, q⟩
  | dc ps => exact ⟨a, u, rfl, h1, h2, h3, h⟩
theorem TVR.split {K : PySem.W.Frag} {G F H : Hp} {v : V} {t : TV} (h : TVR K G F H v t) : (∃ y, t = .d y ∧ Dq K F v y) ∨ (t.mut = true ∧ ∃ a u, v = .ref a ∧ H a = some u ∧ F a = none ∧ G a = none ∧ MuR K F a u t) := by
  cases t with
  | d x => exact .inl ⟨x, rfl, h⟩
  | own xs => exact .inr ⟨rfl, TVR.mutI h rfl⟩
  | dc ps => exact .inr ⟨rfl, TVR.mutI h rfl⟩

structure Sim (K : PySem.W.Frag) (G : Hp) (io : Option Addr) (env : Slots) (σ : L2.St) (F H : Hp) : Prop where
  len : env.length = σ.length
  fh : Same F H
  gh : Same G H
  fg : ∀ a, F a = none ∨ G a = none
  sl : ∀ (i : Nat) (t : TV), env[i]? = some (some t) → ∃ v, σ[i]? = some (some v) ∧ TVR K G F H v t
  sep : ∀ (i j : Nat) (t u : TV) (a : Addr), env[i]? = some (some t) → env[j]? = some (some u) → t.mut = true → u.mut = true → σ[i]? = some (some (.ref a)) → σ[j]? = some (some (.ref a)) → i = j
  at0 : ∀ a : Addr, io = some a → σ[0]? = some (some (.ref a))
  io0 : ∀ a : Addr, io = some a → ∃ xs, env[0]? = some (some (.own xs))

def Apart (env : Slots) (σ : L2.St) (v : V) (r : TV) : Prop := r.mut = true → ∀ (i : Nat) (t : TV), env[i]? = some (some t) → t.mut = true → σ[i]? ≠ some (some v)

theorem Apart.d {env : Slots} {σ : L2.St} {v : V} {x : D} : Apart env σ v (.d x) := fun m => by cases m
structure Ext (F H F' H' : Hp) : Prop where
  ff : Same F F'
  fh : Same F' H'
  hh : Same H H'
  new : ∀ a, F a = none → H a ≠ none → F' a = none
theorem Ext.refl {F H : Hp} (e : Same F H) : Ext F H F H := ⟨Same.refl _, e, Same.refl _, fun _ h _ => h⟩
theorem Ext.trans {F H F1 H1 F2 H2 : Hp} (a : Ext F H F1 H1) (b : Ext F1 H1 F2 H2) : Ext F H F2 H2 :=
  ⟨a.ff.trans b.ff, b.fh, a.hh.trans b.hh, fun c h1 h2 => b.new c (a.new c h1 h2) (by
    cases e : H c with
    | none => exact absurd e h2
    | some o => rw [a.hh c o e]; intro z; cases z)⟩
theorem same_upd {H : Hp} {p : Addr} {o : HO} (h : H p = none) : Same H (upd H p o) := fun b u e => by
  rw [upd_ne (ne_of_none e h)]
  exact e
theorem none_sub {F H : Hp} {p : Addr} (e : Same F H) (h : H p = none) : F p = none := e.free h
theorem Ext.stay {F H : Hp} {p : Addr} {o : HO} (e : Same F H) (h : H p = none) : Ext F H (upd F p o) (upd H p o) where
  ff := same_upd (none_sub e h)
  fh := fun b u q => by
    by_cases hb : b = p
    · subst hb
      rw [upd_same] at q ⊢
      exact q
    · rw [upd_ne hb] at q ⊢
      exact e b u q
  hh := same_upd h
  new := fun a h1 h2 => by
    by_cases hb : a = p
    · subst hb
      exact absurd h h2
    · rw [upd_ne hb]
      exact h1
theorem Ext.lay {F H : Hp} {p : Addr} {o : HO} (e : Same F H) (h : H p = none) : Ext F H F (upd H p o) where
  ff := Same.refl _
  fh := e.trans (same_upd h)
  hh := same_upd h
  new := fun _ h1 _ => h1

section
variable {K : PySem.W.Frag} {G F H F' H' : Hp} {io : Option Addr} {env env' : Slots} {σ σ' : L2.St} {v : V} {r : TV}
theorem TVR.ext (h : TVR K G F H v r) (x : Ext F H F' H') : TVR K G F' H' v r := by
  rcases h.split with ⟨y, rfl, h⟩ | ⟨_, a, u, rfl, h1, h2, h3, h4⟩
  · exact Dq.to h x.ff
  · exact .mutE (x.hh _ _ h1) (x.new a h2 (by rw [h1]; intro z; cases z)) h3 (h4.to x.ff)
theorem Sim.ext (S : Sim K G io env σ F H) (x : Ext F H F' H') : Sim K G io env σ F' H' where
  len := S.len
  fh := x.fh
  gh := S.gh.trans x.hh
  fg := fun a => by
    cases e : G a with
    | none => exact .inr rfl
    | some o =>
      rcases S.fg a with z | z
      · exact .inl (x.new a z (by rw [S.gh a o e]; intro q; cases q))
      · rw [e] at z
        cases z
  sl := fun i t e => by
    obtain ⟨v, h1, h2⟩ := S.sl i t e
    exact ⟨v, h1, h2.ext x⟩
  sep := S.sep
  at0 := S.at0
  io0 := S.io0
theorem TVR.look (h : TVR K G F H v r) (e : Same F H) : DpB K F H v r.toD := by
  cases r with
  | d y => exact Dq.bor h e
  | own xs =>
    obtain ⟨a, vs, rfl, h1, h2, h3, h4⟩ := h
    exact .lst (.of h1) h4
  | dc ps =>
    obtain ⟨a, u, rfl, h1, h2, h3, h4⟩ := h
    cases h4 with
    | t q1 q2 => exact .dcx h1 q1 q2
    | i q => exact .dci (.of h1) q
theorem TVR.freeze (S : Sim K G io env σ F H) (h : TVR K G F H v r) (ap : Apart env σ v r) : ∃ F', Same F F' ∧ Sim K G io env σ F' H ∧ Dq K F' v r.toD := by
  rcases h.split with ⟨y, rfl, h⟩ | ⟨hm, a, u, rfl, h1, h2, h3, h4⟩
  · exact ⟨F, Same.refl _, S, h⟩
  · have sm : Same F (upd F a u) := same_upd h2
    refine ⟨upd F a u, sm, ⟨S.len, fun b u q => ?_, S.gh, fun b => ?_, fun i t e => ?_, S.sep, S.at0, S.io0⟩, MuR.dq (h4.to sm) upd_same⟩
    · by_cases hb : b = a
      · subst hb
        rw [upd_same] at q
        cases q
        exact h1
      · rw [upd_ne hb] at q
        exact S.fh b u q
    · by_cases hb : b = a
      · subst hb
        exact .inr h3
      · rw [upd_ne hb]
        exact S.fg b
    · obtain ⟨w, e1, e2⟩ := S.sl i t e
      refine ⟨w, e1, ?_⟩
      rcases e2.split with ⟨y, rfl, e2⟩ | ⟨hm2, b, us, rfl, g1, g2, g3, g4⟩
      · exact Dq.to e2 sm
      · have ne : b ≠ a := fun z => ap hm i t e hm2 (by rw [e1, z])
        exact .mutE g1 (by rw [upd_ne ne]; exact g2) g3 (g4.to sm)
theorem Sim.putD {i : Nat} {x : D} (S : Sim K G io env σ F H) (hi : i < σ.length) (h : Dq K F v x) (h0 : i ≠ 0 ∨ io = none) : Sim K G io (env.set i (some (.d x))) (σ.set i (some v)) F H where
  len := by rw [List.length_set, List.length_set]; exact S.len
  fh := S.fh
  gh := S.gh
  fg := S.fg
  sl := fun j t e => by
    by_cases hj : i = j
    · subst hj
      rw [List.getElem?_set_self (by rw [S.len]; exact hi)] at e
      cases e
      exact ⟨v, List.getElem?_set_self hi, h⟩
    · rw [List.getElem?_set_ne hj] at e ⊢
      exact S.sl j t e
  sep := fun j k t u a e1 e2 m1 m2 e3 e4 => by
    have n1 : i ≠ j := fun z => by
      subst z
      rw [List.getElem?_set_self (by rw [S.len]; exact hi)] at e1
      cases e1
      cases m1
    have n2 : i ≠ k := fun z => by
      subst z
      rw [List.getElem?_set_self (by rw [S.len]; exact hi)] at e2
      cases e2
      cases m2
    rw [List.getElem?_set_ne n1] at e1 e3
    rw [List.getElem?_set_ne n2] at e2 e4
    exact S.sep j k t u a e1 e2 m1 m2 e3 e4
  at0 := fun a e => by
    rcases h0 with z | z
    · rw [List.getElem?_set_ne z]
      exact S.at0 a e
    · rw [z] at e
      cases e
  io0 := fun a e => by
    rcases h0 with z | z
    · rw [List.getElem?_set_ne z]
      exact S.io0 a e
    · rw [z] at e
      cases e
theorem Sim.put {i : Nat} (S : Sim K G io env σ F H) (hi : i < σ.length) (h : TVR K G F H v r) (ap : Apart env σ v r) (h0 : i ≠ 0 ∨ io = none) : Sim K G io (env.set i (some r)) (σ.set i (some v)) F H where
  len := by rw [List.length_set, List.length_set]; exact S.len
  fh := S.fh
  gh := S.gh
  fg := S.fg
  sl := fun j t e => by
    by_cases hj : i = j
    · subst hj
      rw [List.getElem?_set_self (by rw [S.len]; exact hi)] at e
      cases e
      exact ⟨v, List.getElem?_set_self hi, h⟩
    · rw [List.getElem?_set_ne hj] at e ⊢
      exact S.sl j t e
  sep := fun j k t u a e1 e2 m1 m2 e3 e4 => by
    by_cases n1 : i = j
    · by_cases n2 : i = k
      · exact n1.symm.trans n2
      · subst n1
        rw [List.getElem?_set_self (by rw [S.len]; exact hi)] at e1
        rw [List.getElem?_set_self hi] at e3
        rw [List.getElem?_set_ne n2] at e2 e4
        cases e1
        cases e3
        exact absurd e4 (ap m1 k u e2 m2)
    · rw [List.getElem?_set_ne n1] at e1 e3
      by_cases n2 : i = k
      · subst n2
        rw [List.getElem?_set_self (by rw [S.len]; exact hi)] at e2
        rw [List.getElem?_set_self hi] at e4
        cases e2
        cases e4
        exact absurd e3 (ap m2 j t e1 m1)
      · rw [List.getElem?_set_ne n2] at e2 e4
        exact S.sep j k t u a e1 e2 m1 m2 e3 e4
  at0 := fun a e => by
    rcases h0 with z | z
    · rw [List.getElem?_set_ne z]
      exact S.at0 a e
    · rw [z] at e
      cases e
  io0 := fun a e => by
    rcases h0 with z | z
    · rw [List.getElem?_set_ne z]
      exact S.io0 a e
    · rw [z] at e
      cases e
theorem Sim.writeM {i : Nat} {t0 t1 : TV} {a : Addr} {u1 : HO} (S : Sim K G io env σ F H) (e : env[i]? = some (some t0)) (m0 : t0.mut = true) (m1 : t1.mut = true) (ea : σ[i]? = some (some (.ref a))) (h : MuR K F a u1 t1) (h0 : i ≠ 0 ∨ io = none ∨ ∃ xs, t1 = .own xs) :
    Sim K G io (env.set i (some t1)) σ F (upd H a u1) := by
  have hi : i < env.length := (List.getElem?_eq_some_iff.mp e).1
  obtain ⟨v, e1, tv⟩ := S.sl i _ e
  obtain ⟨a', u0, rfl, h1, h2, h3, h4⟩ := tv.mutI m0
  rw [ea] at e1
  cases e1
  have fh' : Same F (upd H a u1) := fun b u q => by
    rw [upd_ne (ne_of_none q h2)]
    exact S.fh b u q
  refine ⟨by rw [List.length_set]; exact S.len, fh', fun b u q => ?_, S.fg, fun j t q => ?_, fun j k t u b q1 q2 w1 w2 q3 q4 => ?_, S.at0, fun b q => ?_⟩
  · rw [upd_ne (ne_of_none q h3)]
    exact S.gh b u q
  · by_cases hj : i = j
    · subst hj
      rw [List.getElem?_set_self hi] at q
      cases q
      exact ⟨_, ea, .mutE upd_same h2 h3 h⟩
    · rw [List.getElem?_set_ne hj] at q
      obtain ⟨w, g1, g2⟩ := S.sl j t q
      refine ⟨w, g1, ?_⟩
      rcases g2.split with ⟨y, rfl, g2⟩ | ⟨hm2, b, ws, rfl, k1, k2, k3, k4⟩
      · exact g2
      · have ne : b ≠ a := fun z => by
          subst z
          exact hj (S.sep i j t0 t b e q m0 hm2 ea g1)
        exact .mutE (by rw [upd_ne ne]; exact k1) k2 k3 k4
  · have own : ∀ (m : Nat) (ts : TV), (env.set i (some t1))[m]? = some (some ts) → ts.mut = true → ∃ ts' : TV, env[m]? = some (some ts') ∧ ts'.mut = true := fun m ts q w => by
      by_cases hm : i = m
      · subst hm
        exact ⟨t0, e, m0⟩
      · rw [List.getElem?_set_ne hm] at q
        exact ⟨ts, q, w⟩
    obtain ⟨z1, y1, x1⟩ := own j t q1 w1
    obtain ⟨z2, y2, x2⟩ := own k u q2 w2
    exact S.sep j k z1 z2 b y1 y2 x1 x2 q3 q4
  · obtain ⟨zs, w1⟩ := S.io0 b q
    by_cases hi0 : i = 0
    · subst hi0
      rcases h0 with z | z | ⟨xs, z⟩
      · exact absurd rfl z
      · rw [z] at q
        cases q
      · exact ⟨xs, by rw [List.getElem?_set_self hi, z]⟩
    · rw [List.getElem?_set_ne hi0]
      exact ⟨zs, w1⟩
theorem Sim.write {i : Nat} {xs ys : List D} {a : Addr} {us : List V} (S : Sim K G io env σ F H) (e : env[i]? = some (some (.own xs))) (ea : σ[i]? = some (some (.ref a))) (h : DqAll K F us ys) :
    Sim K G io (env.set i (some (.own ys))) σ F (upd H a (.lst us)) := S.writeM e rfl rfl ea ⟨us, rfl, h⟩ (.inr (.inr ⟨ys, rfl⟩))
theorem Sim.fixM {i : Nat} {t0 : TV} (S : Sim K G io env σ F H) (e : env[i]? = some (some t0)) (m0 : t0.mut = true) (h0 : i ≠ 0 ∨ io = none) :
    ∃ F', Same F F' ∧ Sim K G io (env.set i (some (.d t0.toD))) σ F' H := by
  have hi : i < env.length := (List.getElem?_eq_some_iff.mp e).1
  obtain ⟨v, e1, tv⟩ := S.sl i _ e
  obtain ⟨a, u0, rfl, h1, h2, h3, h4⟩ := tv.mutI m0
  have sm : Same F (upd F a u0) := same_upd h2
  refine ⟨upd F a u0, sm, by rw [List.length_set]; exact S.len, fun b u q => ?_, S.gh, fun b => ?_, fun j t q => ?_, fun j k t u b q1 q2 w1 w2 q3 q4 => ?_, S.at0, fun b q => ?_⟩
  · by_cases hb : b = a
    · subst hb
      rw [upd_same] at q
      cases q
      exact h1
    · rw [upd_ne hb] at q
      exact S.fh b u q
  · by_cases hb : b = a
    · subst hb
      exact .inr h3
    · rw [upd_ne hb]
      exact S.fg b
  · by_cases hj : i = j
    · subst hj
      rw [List.getElem?_set_self hi] at q
      cases q
      exact ⟨_, e1, MuR.dq (h4.to sm) upd_same⟩
    · rw [List.getElem?_set_ne hj] at q
      obtain ⟨w, g1, g2⟩ := S.sl j t q
      refine ⟨w, g1, ?_⟩
      rcases g2.split with ⟨y, rfl, g2⟩ | ⟨hm2, b, ws, rfl, k1, k2, k3, k4⟩
      · exact Dq.to g2 sm
      · have ne : b ≠ a := fun z => by
          subst z
          exact hj (S.sep i j t0 t b e q m0 hm2 e1 g1)
        exact .mutE k1 (by rw [upd_ne ne]; exact k2) k3 (k4.to sm)
  · have n1 : i ≠ j := fun z => by
      subst z
      rw [List.getElem?_set_self hi] at q1
      cases q1
      cases w1
    have n2 : i ≠ k := fun z => by
      subst z
      rw [List.getElem?_set_self hi] at q2
      cases q2
      cases w2
    rw [List.getElem?_set_ne n1] at q1
    rw [List.getElem?_set_ne n2] at q2
    exact S.sep j k t u b q1 q2 w1 w2 q3 q4
  · rcases h0 with z | z
    · rw [List.getElem?_set_ne z]
      exact S.io0 b q
    · rw [z] at q
      cases q
theorem Sim.fix {i : Nat} {xs : List D} (S : Sim K G io env σ F H) (e : env[i]? = some (some (.own xs))) (h0 : i ≠ 0 ∨ io = none) :
    ∃ F', Same F F' ∧ Sim K G io (env.set i (some (.d (.list xs)))) σ F' H := S.fixM e rfl h0
end
mutual
theorem Dq.dp {K : PySem.W.Frag} {H : Hp} : ∀ {d : D} {v : V}, d.canLay0 = true → Dq K H v d → Dp K H v d
  | _, _, _, .non => .non
  | _, _, _, .bl b => .bl b
  | _, _, _, .int i => .int i
  | _, _, _, .str x => .str x
  | _, _, c, .lst h r => .lst (.inl h) (DqAll.dp (by simpa [PyData.canLay0] using c) r)
  | _, _, c, .tup h _ r => .tup h (DqAll.dp (by simpa [PyData.canLay0] using c) r)
  | _, _, c, .scr _ => by simp [PyData.canLay0] at c
  | _, _, c, .dic _ => by simp [PyData.canLay0] at c
  | _, _, c, .dct _ _ => by simp [PyData.canLay0] at c
  | _, _, c, .dcx _ _ _ => by simp [PyData.canLay0] at c
  | _, _, c, .dci _ _ => by simp [PyData.canLay0] at c
  | _, _, c, .fn _ _ => by simp [PyData.canLay0] at c
theorem DqAll.dp {K : PySem.W.Frag} {H : Hp} : ∀ {ds : List D} {vs : List V}, PyData.canLayAll0 ds = true → DqAll K H vs ds → DpAll K H vs ds
  | _, _, _, .nil => .nil
  | d :: ds, _, c, .cons a r => by
    have c' : d.canLay0 = true ∧ PyData.canLayAll0 ds = true := by simpa [PyData.canLayAll0] using c
    exact .cons (Dq.dp c'.1 a) (DqAll.dp c'.2 r)
end
end L2
set_option Elab.async false
set_option autoImplicit false
set_option linter.all false
set_option maxRecDepth 100000
set_option maxHeartbeats 1000001
namespace L2
open PyProof.Rows PySem PySem.Spec

abbrev DE := Slots → Option (TV × Slots)
inductive Opd where
  | bor (i : Nat)
  | ex (d : DE)

def frz (d : DE) : DE := fun e => match d e with
  | some (r, e1) => some (.d r.toD, e1)
  | none => none
def dC (x : D) : DE := fun e => some (.d x, e)
def dVar (i : Nat) : DE := fun e => match e[i]? with
  | some (some (.d x)) => some (.d x, e)
  | some (some (.own xs)) => some (.d (.list xs), e.set i (some (.d (.list xs))))
  | some (some (.dc ps)) => some (.d (.dict ((.bool false, .none) :: ps)), e.set i (some (.d (.dict ((.bool false, .none) :: ps)))))
  | _ => none
def dMove (i : Nat) : DE := fun e => match e[i]? with
  | some (some r) => some (r, e.set i none)
  | _ => none
def evs : List Opd → Slots → Option (List D × Slots)
  | [], e => some ([], e)
  | .bor i :: os, e => match e[i]? with
    | some (some _) => match evs os e with
      | some (xs, e1) => match e1[i]? with
        | some (some t) => some (t.toD :: xs, e1)
        | _ => none
      | none => none
    | _ => none
  | .ex d :: os, e => match d e with
    | some (.d x, e1) => match evs os e1 with
      | some (xs, e2) => some (x :: xs, e2)
      | none => none
    | _ => none
def evx : List DE → Slots → Option (List D × Slots)
  | [], e => some ([], e)
  | d :: ds, e => match d e with
    | some (.d x, e1) => match evx ds e1 with
      | some (xs, e2) => some (x :: xs, e2)
      | none => none
    | _ => none
def dPrim (g : List D → Option TV) (os : List Opd) : DE := fun e => match evs os e with
  | some (xs, e1) => match g xs with
    | some r => some (r, e1)
    | none => none
  | none => none
def dTup (ds : List DE) : DE := fun e => match evx ds e with
  | some (xs, e1) => if xs.length ≤ sizeLine then some (.d (.tuple xs), e1) else none
  | none => none
def dLst (ds : List DE) : DE := fun e => match evx ds e with
  | some (xs, e1) => if xs.length ≤ sizeLine then some (.own xs, e1) else none
  | none => none
def asB : Option (TV × Slots) → Option (Bool × Slots)
  | some (.d (.bool b), e) => some (b, e)
  | _ => none
def dIf (c a b : DE) : DE := fun e => match asB (c e) with
  | some (true, e1) => a e1
  | some (false, e1) => b e1
  | none => none
def dAnd (a b : DE) : DE := fun e => match asB (a e) with
  | some (true, e1) => b e1
  | some (false, e1) => some (.d (.bool false), e1)
  | none => none
def dOr (a b : DE) : DE := fun e => match asB (a e) with
  | some (true, e1) => some (.d (.bool true), e1)
  | some (false, e1) => b e1
  | none => none
def dNot (a : DE) : DE := fun e => match asB (a e) with
  | some (b, e1) => some (.d (.bool (!b)), e1)
  | none => none

section
variable (K : PySem.W.Frag) (b : Bool)
def tE (d : DE) : TE := fun σ H Q => ∃ (G : Hp) (io : Option Addr) (F : Hp) (env : Slots) (r : TV) (env' : Slots), (b = false → io = none) ∧ d env = some (r, env') ∧ Sim K G io env σ F H ∧
  ∀ (v : V) (F' H' : Hp), Same F F' → Sim K G io env' σ F' H' → TVR K G F' H' v r → Apart env' σ v r → Q v H'
def tO : Opd → TE
  | .bor i => tVar i
  | .ex d => tE K b d
def tOs : List Opd → TA
  | [] => tNil
  | o :: os => tCons (tO K b o) (tOs os)
def tXs : List DE → TA
  | [] => tNil
  | d :: ds => tCons (tE K b d) (tXs ds)
def tT (d : DE) : TT := fun σ H Q => ∃ (G : Hp) (io : Option Addr) (F : Hp) (env : Slots) (c : Bool) (env' : Slots), (b = false → io = none) ∧ asB (d env) = some (c, env') ∧ Sim K G io env σ F H ∧
  ∀ (F' H' : Hp), Same F F' → Sim K G io env' σ F' H' → Q c H'
end

theorem PE.of {X : Cx} {e : Expr} {t t' : TE} (h : PE X e t) (m : ∀ σ H Q, t' σ H Q → t σ H Q) : PE X e t' := ⟨fun pins s σ H Q I q => h.run pins s σ H Q I (m σ H Q q)⟩
theorem PT.of {X : Cx} {e : Expr} {t t' : TT} (h : PT X e t) (m : ∀ σ H Q, t' σ H Q → t σ H Q) : PT X e t' := ⟨fun pins s σ H Q I q => h.run pins s σ H Q I (m σ H Q q)⟩
theorem PA.of {X : Cx} {es : List Expr} {t t' : TA} (h : PA X es t) (m : ∀ σ H Q, t' σ H Q → t σ H Q) : PA X es t' := ⟨fun pos pins s σ H Q I q => h.run pos pins s σ H Q I (m σ H Q q)⟩
theorem PS.of {X : Cx} {e : Stmt} {t t' : TS} (h : PS X e t) (m : ∀ D σ H, t' D σ H → t D σ H) : PS X e t' := ⟨fun pins s σ H D I q => h.run pins s σ H D I (m D σ H q)⟩
theorem PSs.of {X : Cx} {e : List Stmt} {t t' : TS} (h : PSs X e t) (m : ∀ D σ H, t' D σ H → t D σ H) : PSs X e t' := ⟨fun pins s σ H D I q => h.run pins s σ H D I (m D σ H q)⟩

section
variable {K : PySem.W.Frag} {b : Bool} {G F H : Hp} {io : Option Addr} {env env' : Slots} {σ : L2.St}
theorem not_io (hb : b = false → io = none) {i : Nat} (h : i ≠ 0 ∨ b = false) : i ≠ 0 ∨ io = none := h.elim .inl fun z => .inr (hb z)
theorem tE_at {d : DE} {r : TV} {Q : VK} (hb : b = false → io = none) (h : d env = some (r, env')) (S : Sim K G io env σ F H)
    (k : ∀ (v : V) (F' H' : Hp), Same F F' → Sim K G io env' σ F' H' → TVR K G F' H' v r → Apart env' σ v r → Q v H') : tE K b d σ H Q := ⟨G, io, F, env, r, env', hb, h, S, k⟩
theorem tOs_at (hb : b = false → io = none) : ∀ {os : List Opd} {env env' : Slots} {xs : List D} {F H : Hp} {R : List V → Hp → Prop}, evs os env = some (xs, env') → Sim K G io env σ F H →
    (∀ (vs : List V) (F' H' : Hp), Same F F' → Sim K G io env' σ F' H' → DpBs K F' H' vs xs → R vs H') → tOs K b os σ H R
  | [], env, env', xs, F, H, R, h, S, k => by
    simp only [evs, Option.some.injEq, Prod.mk.injEq] at h
    obtain ⟨rfl, rfl⟩ := h
    exact k [] F H (Same.refl F) S .nil
  | .bor i :: os, env, env', xs, F, H, R, h, S, k => by
    simp only [evs] at h
    split at h
    · rename_i t0 h0
      split at h
      · rename_i ys e1 h1
        split at h
        · rename_i t1 h2
          simp only [Option.some.injEq, Prod.mk.injEq] at h
          obtain ⟨rfl, rfl⟩ := h
          obtain ⟨v, e2, _⟩ := S.sl i t0 h0
          refine ⟨v, e2, tOs_at hb h1 S fun vs F' H' sm S' hs => ?_⟩
          obtain ⟨v', e3, hv⟩ := S'.sl i t1 h2
          rw [e2] at e3
          cases e3
          exact k (v :: vs) F' H' sm S' (.cons (hv.look S'.fh) hs)
        · cases h
      · cases h
    · cases h
  | .ex d :: os, env, env', xs, F, H, R, h, S, k => by
    simp only [evs] at h
    split at h
    · rename_i x e1 h1
      split at h
      · rename_i ys e2 h2
        simp only [Option.some.injEq, Prod.mk.injEq] at h
        obtain ⟨rfl, rfl⟩ := h
        refine tE_at hb h1 S fun v F1 H1 sm S1 hv _ => ?_
        refine tOs_at hb h2 S1 fun vs F' H' sm' S' hs => ?_
        exact k (v :: vs) F' H' (sm.trans sm') S' (.cons (Dq.bor (Dq.to hv sm') S'.fh) hs)
      · cases h
    · cases h
theorem tXs_at (hb : b = false → io = none) : ∀ {ds : List DE} {env env' : Slots} {xs : List D} {F H : Hp} {R : List V → Hp → Prop}, evx ds env = some (xs, env') → Sim K G io env σ F H →
    (∀ (vs : List V) (F' H' : Hp), Same F F' → Sim K G io env' σ F' H' → DqAll K F' vs xs → R vs H') → tXs K b ds σ H R
  | [], env, env', xs, F, H, R, h, S, k => by
    simp only [evx, Option.some.injEq, Prod.mk.injEq] at h
    obtain ⟨rfl, rfl⟩ := h
    exact k [] F H (Same.refl F) S .nil
  | d :: os, env, env', xs, F, H, R, h, S, k => by
    simp only [evx] at h
    split at h
    · rename_i x e1 h1
      split at h
      · rename_i ys e2 h2
        simp only [Option.some.injEq, Prod.mk.injEq] at h
        obtain ⟨rfl, rfl⟩ := h
        refine tE_at hb h1 S fun v F1 H1 sm S1 hv _ => ?_
        refine tXs_at hb h2 S1 fun vs F' H' sm' S' hs => ?_
        exact k (v :: vs) F' H' (sm.trans sm') S' (.cons (Dq.to hv sm') hs)
      · cases h
    · cases h
end

def NewR (K : PySem.W.Frag) (F H F' H' : Hp) (v : V) : TV → Prop
  | .d x => Dq K F' v x
  | .own xs => ∃ p vs, v = .ref p ∧ H p = none ∧ H' p = some (.lst vs) ∧ F' p = none ∧ DqAll K F' vs xs
  | .dc ps => ∃ p u, v = .ref p ∧ H p = none ∧ H' p = some u ∧ F' p = none ∧ DcU K F' p u ps
def PostP (K : PySem.W.Frag) (F H : Hp) (r : TV) (Q : VK) : Prop := ∀ (v : V) (F' H' : Hp), Ext F H F' H' → NewR K F H F' H' v r → Q v H'
def rPs (K : PySem.W.Frag) (g : List D → Option TV) : List V → Hp → VK → Prop := fun vs H Q => ∃ (F : Hp) (xs : List D) (r : TV), Same F H ∧ DpBs K F H vs xs ∧ g xs = some r ∧ PostP K F H r Q
def rP2 (K : PySem.W.Frag) (g : List D → Option TV) : R2 := fun x y H Q => rPs K g [x, y] H Q
section
variable {K : PySem.W.Frag} {G F H : Hp} {io : Option Addr} {env env' : Slots} {σ : L2.St} {Q : VK}
theorem PostP.scal {x : D} {v : V} (p : PostP K F H (.d x) Q) (e : Same F H) (h : Dq K F v x) : Q v H := p v F H (.refl e) h
theorem PostP.tup {xs : List D} {vs : List V} (p : PostP K F H (.d (.tuple xs)) Q) (e : Same F H) (h : DqAll K F vs xs) : NewT H vs Q := fun q o hq ho =>
  p _ _ _ (.stay e hq) (.tup (sqtOf upd_same) (bareOf upd_same ho) (DqAll.to h (same_upd (none_sub e hq))))
theorem PostP.lst {xs : List D} {vs : List V} {q : Addr} (p : PostP K F H (.own xs) Q) (e : Same F H) (h : DqAll K F vs xs) (hq : H q = none) : Q (.ref q) (upd H q (.lst vs)) :=
  p _ _ _ (.lay e hq) ⟨q, vs, rfl, hq, upd_same, none_sub e hq, h⟩
theorem Sim.fresh_ap {p : Addr} {r : TV} (S : Sim K G io env' σ F H) (h : H p = none) : Apart env' σ (.ref p) r := fun _ i t e1 m e2 => by
  obtain ⟨v, g1, g2⟩ := S.sl i _ e1
  obtain ⟨a, u, rfl, g3, _⟩ := g2.mutI m
  rw [e2] at g1
  cases g1
  rw [h] at g3
  cases g3
theorem post_of {r : TV} {F0 : Hp} (sm : Same F0 F) (S : Sim K G io env' σ F H) (k : ∀ (v : V) (F' H' : Hp), Same F0 F' → Sim K G io env' σ F' H' → TVR K G F' H' v r → Apart env' σ v r → Q v H') : PostP K F H r Q := by
  intro v F' H' x n
  have S' := S.ext x
  cases r with
  | d y => exact k v F' H' (sm.trans x.ff) S' n Apart.d
  | own xs =>
    obtain ⟨p, vs, rfl, h1, h2, h3, h4⟩ := n
    exact k _ F' H' (sm.trans x.ff) S' ⟨p, vs, rfl, h2, h3, none_sub S.gh h1, h4⟩ (S.fresh_ap h1)
  | dc ps =>
    obtain ⟨p, u, rfl, h1, h2, h3, h4⟩ := n
    exact k _ F' H' (sm.trans x.ff) S' ⟨p, u, rfl, h2, h3, none_sub S.gh h1, h4⟩ (S.fresh_ap h1)
theorem prim_at {b : Bool} {g : List D → Option TV} {os : List Opd} {r : TV} (hb : b = false → io = none) (h : dPrim g os env = some (r, env')) (S : Sim K G io env σ F H)
    (k : ∀ (v : V) (F' H' : Hp), Same F F' → Sim K G io env' σ F' H' → TVR K G F' H' v r → Apart env' σ v r → Q v H') : tOs K b os σ H fun vs H1 => rPs K g vs H1 Q := by
  unfold dPrim at h
  split at h
  · rename_i xs e1 h1
    split at h
    · rename_i r' h2
      simp only [Option.some.injEq, Prod.mk.injEq] at h
      obtain ⟨rfl, rfl⟩ := h
      exact tOs_at hb h1 S fun vs F' H' sm S' hs => ⟨F', xs, r', S'.fh, hs, h2, post_of sm S' k⟩
    · cases h
  · cases h
end

section
variable {X : Cx} {b : Bool} {e a c : Expr} {es : List Expr} {o o1 o2 : Opd} {os : List Opd} {d : DE} {ds : List DE} {pos p : Pos} {g : List D → Option TV}
theorem pe_frz (h : PE X e (tE X.K b d)) : PE X e (tE X.K b (frz d)) := h.of fun σ H Q ⟨G, io, F, env, r, env', hb, h1, S, k⟩ => by
  unfold frz at h1
  split at h1
  · rename_i r' e1 h2
    simp only [Option.some.injEq, Prod.mk.injEq] at h1
    obtain ⟨rfl, rfl⟩ := h1
    refine tE_at hb h2 S fun v F' H' sm S' hv ap => ?_
    obtain ⟨F2, sm2, S2, hv2⟩ := hv.freeze S' ap
    exact k v F2 H' (sm.trans sm2) S2 hv2 Apart.d
  · cases h1
theorem pe_const {x : D} {v : V} (h : PE X e (tC v)) (hd : ∀ F : Hp, Dq X.K F v x) : PE X e (tE X.K b (dC x)) := h.of fun σ H Q ⟨G, io, F, env, r, env', hb, h1, S, k⟩ => by
  simp only [dC, Option.some.injEq, Prod.mk.injEq] at h1
  obtain ⟨rfl, rfl⟩ := h1
  exact k v F H (Same.refl F) S (hd F) Apart.d
theorem pe_dvar {i : Nat} (h : PE X e (tVar i)) (h0 : i ≠ 0 ∨ b = false) : PE X e (tE X.K b (dVar i)) := h.of fun σ H Q ⟨G, io, F, env, r, env', hb, h1, S, k⟩ => by
  unfold dVar at h1
  split at h1
  · rename_i x hx
    simp only [Option.some.injEq, Prod.mk.injEq] at h1
    obtain ⟨rfl, rfl⟩ := h1
    obtain ⟨v, e1, hv⟩ := S.sl i _ hx
    exact ⟨v, e1, k v F H (Same.refl F) S hv Apart.d⟩
  · rename_i xs hx
    simp only [Option.some.injEq, Prod.mk.injEq] at h1
    obtain ⟨rfl, rfl⟩ := h1
    obtain ⟨v, e1, hv⟩ := S.sl i _ hx
    obtain ⟨F', sm, S'⟩ := S.fix hx (not_io hb h0)
    have hi : i < env.length := (List.getElem?_eq_some_iff.mp hx).1
    obtain ⟨v', e2, hv2⟩ := S'.sl i _ (List.getElem?_set_self hi)
    rw [e1] at e2
    cases e2
    exact ⟨v, e1, k v F' H sm S' hv2 Apart.d⟩
  · rename_i ps hx
    simp only [Option.some.injEq, Prod.mk.injEq] at h1
    obtain ⟨rfl, rfl⟩ := h1
    obtain ⟨v, e1, hv⟩ := S.sl i _ hx
    obtain ⟨F', sm, S'⟩ := S.fixM hx rfl (not_io hb h0)
    have hi : i < env.length := (List.getElem?_eq_some_iff.mp hx).1
    obtain ⟨v', e2, hv2⟩ := S'.sl i _ (List.getElem?_set_self hi)
    rw [e1] at e2
    cases e2
    exact ⟨v, e1, k v F' H sm S' hv2 Apart.d⟩
  · cases h1
theorem Sim.drop {K : PySem.W.Frag} {G F H : Hp} {io : Option Addr} {env : Slots} {σ : L2.St} {i : Nat} (S : Sim K G io env σ F H) (h0 : i ≠ 0 ∨ io = none) : Sim K G io (env.set i none) σ F H where
  len := by rw [List.length_set]; exact S.len
  fh := S.fh
  gh := S.gh
  fg := S.fg
  sl := fun j t q => by
    by_cases hj : i = j
    · subst hj
      rw [List.getElem?_set] at q
      simp at q
    · rw [List.getElem?_set_ne hj] at q
      exact S.sl j t q
  sep := fun j k t u a e1 e2 m1 m2 e3 e4 => by
    have n : ∀ (m : Nat) (ts : TV), (env.set i none)[m]? = some (some ts) → env[m]? = some (some ts) := fun m ts q => by
      by_cases hm : i = m
      · subst hm
        rw [List.getElem?_set] at q
        simp at q
      · rwa [List.getElem?_set_ne hm] at q
    exact S.sep j k t u a (n j t e1) (n k u e2) m1 m2 e3 e4
  at0 := S.at0
  io0 := fun a e => by
    rcases h0 with z | z
    · rw [List.getElem?_set_ne z]
      exact S.io0 a e
    · rw [z] at e
      cases e
theorem pe_dmove {i : Nat} (h : PE X e (tVar i)) (h0 : i ≠ 0 ∨ b = false) : PE X e (tE X.K b (dMove i)) := h.of fun σ H Q ⟨G, io, F, env, r, env', hb, h1, S, k⟩ => by
  unfold dMove at h1
  split at h1
  · rename_i r' hx
    simp only [Option.some.injEq, Prod.mk.injEq] at h1
    obtain ⟨rfl, rfl⟩ := h1
    obtain ⟨v, e1, hv⟩ := S.sl i _ hx
    refine ⟨v, e1, k v F H (Same.refl F) (S.drop (not_io hb h0)) hv fun m j t q m2 q2 => ?_⟩
    by_cases hj : i = j
    · subst hj
      rw [List.getElem?_set] at q
      simp at q
    · rw [List.getElem?_set_ne hj] at q
      obtain ⟨a, u, rfl, _⟩ := hv.mutI m
      exact hj (S.sep i j r' t a hx q m m2 e1 q2)
  · cases h1
theorem pe_bin {op : Operator} (ho : OpR X (binaryOp op) (rP2 X.K g)) (ha : PE X a (tO X.K b o1)) (hc : PE X c (tO X.K b o2)) : PE X (.BinOp a op c pos) (tE X.K b (dPrim g [o1, o2])) :=
  (pe_op ho ha hc).of fun σ H Q ⟨G, io, F, env, r, env', hb, h1, S, k⟩ => prim_at hb h1 S k
theorem pe_cmp1 {op : CmpOp} (ho : OpR X (compareOp op) (rP2 X.K g)) (ha : PE X a (tO X.K b o1)) (hc : PE X c (tO X.K b o2)) (hm : behindInMarks op c = false) : PE X (.Compare a [op] [c] pos) (tE X.K b (dPrim g [o1, o2])) :=
  (pe_cmpR ho ha hc hm).of fun σ H Q ⟨G, io, F, env, r, env', hb, h1, S, k⟩ => prim_at hb h1 S k
theorem pe_un1 {op : UnaryOp} (ho : UnR X (unaryOp op) fun x H Q => rPs X.K g [x] H Q) (ha : PE X a (tO X.K b o)) : PE X (.UnaryOp op a pos) (tE X.K b (dPrim g [o])) :=
  (pe_un ho ha).of fun σ H Q ⟨G, io, F, env, r, env', hb, h1, S, k⟩ => prim_at hb h1 S k
theorem pe_ix1 (hr : IxR X (rP2 X.K g)) (ha : PE X a (tO X.K b o1)) (hc : PE X c (tO X.K b o2)) (hs : PlainIx c) : PE X (.Subscript a c pos) (tE X.K b (dPrim g [o1, o2])) :=
  (pe_ix hr ha hc hs).of fun σ H Q ⟨G, io, F, env, r, env', hb, h1, S, k⟩ => prim_at hb h1 S k
theorem pe_bltin {x : Str} {id : String} (hc : CallR X (.builtin id) (rPs X.K g)) (hg : Gl X x) (hm : X.mg x = none) (hv : bootBuiltins x = some (.builtin id)) (ha : PA X (e :: es) (tOs X.K b os))
    (hn : x ≠ "__name__") (hdb : (x == ("__debug__" : Str)) = false) (he : starEach (e :: es) X.env = (false, eval e X.env) :: starEach es X.env) (hpl : (backTo pos (starEach es X.env)).any (·.1) = false) :
    PE X (.Call (.Name x p) (e :: es) [] pos) (tE X.K b (dPrim g os)) :=
  (pe_callB hc hg hm hv ha hn hdb he hpl).of fun σ H Q ⟨G, io, F, env, r, env', hb, h1, S, k⟩ => prim_at hb h1 S k
theorem pe_bltinT {x : Str} {T : String} (hc : CallR X (.type T) (rPs X.K g)) (hg : Gl X x) (hm : X.mg x = none) (hv : bootBuiltins x = some (.type T)) (ha : PA X (e :: es) (tOs X.K b os))
    (hn : x ≠ "__name__") (hdb : (x == ("__debug__" : Str)) = false) (he : starEach (e :: es) X.env = (false, eval e X.env) :: starEach es X.env) (hpl : (backTo pos (starEach es X.env)).any (·.1) = false) :
    PE X (.Call (.Name x p) (e :: es) [] pos) (tE X.K b (dPrim g os)) :=
  (pe_callTy hc hg hm hv ha hn hdb he hpl).of fun σ H Q ⟨G, io, F, env, r, env', hb, h1, S, k⟩ => prim_at hb h1 S k
theorem pe_dtup {x1 : Nat} (h : PA X es (tXs X.K b ds)) : PE X (.Tuple es x1 pos) (tE X.K b (dTup ds)) := (pe_tupF h).of fun σ H Q ⟨G, io, F, env, r, env', hb, h1, S, k⟩ => by
  unfold dTup at h1
  split at h1
  · rename_i xs e1 h2
    split at h1
    · rename_i hz
      simp only [Option.some.injEq, Prod.mk.injEq] at h1
      obtain ⟨rfl, rfl⟩ := h1
      refine tXs_at hb h2 S fun vs F' H' sm S' hs => ⟨by rw [DqAll.len hs]; exact hz, (post_of sm S' k).tup S'.fh hs⟩
    · cases h1
  · cases h1
theorem pe_dlst (h : PA X es (tXs X.K b ds)) : PE X (.List es pos) (tE X.K b (dLst ds)) := (pe_lst h).of fun σ H Q ⟨G, io, F, env, r, env', hb, h1, S, k⟩ => by
  unfold dLst at h1
  split at h1
  · rename_i xs e1 h2
    split at h1
    · rename_i hz
      simp only [Option.some.injEq, Prod.mk.injEq] at h1
      obtain ⟨rfl, rfl⟩ := h1
      refine tXs_at hb h2 S fun vs F' H' sm S' hs => ⟨by rw [DqAll.len hs]; exact hz, fun q hq => ?_⟩
      exact (post_of sm S' k).lst S'.fh hs hq
    · cases h1
  · cases h1
end

section
variable {X : Cx} {b : Bool} {e a c : Expr} {rest : List Expr} {d d1 d2 : DE} {pos : Pos} {op : BoolOp}
theorem asB_some {r : Option (TV × Slots)} {c : Bool} {e : Slots} (h : asB r = some (c, e)) : r = some (.d (.bool c), e) := by
  unfold asB at h
  split at h
  · simp only [Option.some.injEq, Prod.mk.injEq] at h
    obtain ⟨rfl, rfl⟩ := h
    rfl
  · cases h
theorem pt_of (h : PE X e (tE X.K b d)) (he : ∀ whole, isTrue e X.env whole = (do let v ← whole; standAt e.pos; holding [v] (truthy v))) : PT X e (tT X.K b d) :=
  (pt_val h he).of fun σ H Q ⟨G, io, F, env, c, env', hb, h1, S, k⟩ => tE_at hb (asB_some h1) S fun v F' H' sm S' hv _ => by
    cases hv
    exact ⟨c, rfl, k F' H' sm S'⟩
theorem pt_cmpd {op : CmpOp} {g : List D → Option TV} {o1 o2 : Opd} (ho : OpR X (compareOp op) (rP2 X.K g)) (ha : PE X a (tO X.K b o1)) (hc : PE X c (tO X.K b o2)) (hm : behindInMarks op c = false) : PT X (.Compare a [op] [c] pos) (tT X.K b (dPrim g [o1, o2])) :=
  (pt_cmpR ho ha hc hm).of fun σ H Q ⟨G, io, F, env, c, env', hb, h1, S, k⟩ => prim_at (Q := fun x H' => ∃ k, x = .bl k ∧ Q k H') hb (asB_some h1) S fun v F' H' sm S' hv _ => by
    cases hv
    exact ⟨c, rfl, k F' H' sm S'⟩
theorem pt_dnot (h : PT X a (tT X.K b d)) : PT X (.UnaryOp .Not a pos) (tT X.K b (dNot d)) := (pt_not h).of fun σ H Q ⟨G, io, F, env, c, env', hb, h1, S, k⟩ => by
  have h1 := asB_some h1
  unfold dNot at h1
  split at h1
  · rename_i c' e1 h2
    simp only [Option.some.injEq, Prod.mk.injEq, TV.d.injEq, PyData.bool.injEq] at h1
    obtain ⟨rfl, rfl⟩ := h1
    exact ⟨G, io, F, env, c', e1, hb, h2, S, k⟩
  · cases h1
theorem pe_dnot (h : PE X a (tE X.K b d)) : PE X (.UnaryOp .Not a pos) (tE X.K b (dNot d)) := (pe_not h).of fun σ H Q ⟨G, io, F, env, r, env', hb, h1, S, k⟩ => by
  unfold dNot at h1
  split at h1
  · rename_i c' e1 h2
    simp only [Option.some.injEq, Prod.mk.injEq] at h1
    obtain ⟨rfl, rfl⟩ := h1
    refine tE_at hb (asB_some h2) S fun v F' H' sm S' hv _ => ?_
    cases hv
    exact ⟨c', rfl, k _ F' H' sm S' (.bl _) Apart.d⟩
  · cases h1
theorem pt_dand (ha : PT X a (tT X.K b d1)) (hc : PW X (.BoolOp .And (c :: rest) pos) (tT X.K b d2)) : PW X (.BoolOp .And (a :: c :: rest) pos) (tT X.K b (dAnd d1 d2)) := by
  refine ⟨fun whole pins s σ H Q I q => (pw_and ha hc).run whole pins s σ H Q I ?_⟩
  obtain ⟨G, io, F, env, k0, env', hb, h1, S, k⟩ := q
  have h1 := asB_some h1
  unfold dAnd at h1
  split at h1
  · rename_i e1 h2
    refine ⟨G, io, F, env, true, e1, hb, h2, S, fun F' H' sm S' => ?_⟩
    dsimp only
    rw [if_pos rfl]
    exact ⟨G, io, F', e1, k0, env', hb, by rw [h1]; rfl, S', fun F2 H2 sm2 S2 => k F2 H2 (sm.trans sm2) S2⟩
  · rename_i e1 h2
    simp only [Option.some.injEq, Prod.mk.injEq, TV.d.injEq, PyData.bool.injEq] at h1
    obtain ⟨rfl, rfl⟩ := h1
    exact ⟨G, io, F, env, false, e1, hb, h2, S, fun F' H' sm S' => by
      dsimp only
      rw
            [if_neg Bool.false_ne_true]
      exact k F' H' sm S'⟩
  · cases h1
theorem pt_dor (ha : PT X a (tT X.K b d1)) (hc : PW X (.BoolOp .Or (c :: rest) pos) (tT X.K b d2)) : PW X (.BoolOp .Or (a :: c :: rest) pos) (tT X.K b (dOr d1 d2)) := by
  refine ⟨fun whole pins s σ H Q I q => (pw_or ha hc).run whole pins s σ H Q I ?_⟩
  obtain ⟨G, io, F, env, k0, env', hb, h1, S, k⟩ := q
  have h1 := asB_some h1
  unfold dOr at h1
  split at h1
  · rename_i e1 h2
    simp only [Option.some.injEq, Prod.mk.injEq, TV.d.injEq, PyData.bool.injEq] at h1
    obtain ⟨rfl, rfl⟩ := h1
    exact ⟨G, io, F, env, true, e1, hb, h2, S, fun F' H' sm S' => by
      dsimp only
      rw [if_pos rfl]
      exact k F' H' sm S'⟩
  · rename_i e1 h2
    refine ⟨G, io, F, env, false, e1, hb, h2, S, fun F' H' sm S' => ?_⟩
    dsimp only
    rw
          [if_neg Bool.false_ne_true]
    exact ⟨G, io, F', e1, k0, env', hb, by rw [h1]; rfl, S', fun F2 H2 sm2 S2 => k F2 H2 (sm.trans sm2) S2⟩
  · cases h1
theorem pe_dand (ha : PE X a (tE X.K b d1)) (hc : PE X (.BoolOp .And (c :: rest) pos) (tE X.K b d2)) : PE X (.BoolOp .And (a :: c :: rest) pos) (tE X.K b (dAnd d1 d2)) := (pe_and ha hc).of fun σ H Q ⟨G, io, F, env, r, env', hb, h1, S, k⟩ => by
  unfold dAnd at h1
  split at h1
  · rename_i e1 h2
    refine tE_at hb (asB_some h2) S fun v F' H' sm S' hv _ => ?_
    cases hv
    refine ⟨true, rfl, ?_⟩
    rw [if_pos rfl]
    exact tE_at hb h1 S' fun v F2 H2 sm2 S2 hv2 ap => k v F2 H2 (sm.trans sm2) S2 hv2 ap
  · rename_i e1 h2
    simp only [Option.some.injEq, Prod.mk.injEq] at h1
    obtain ⟨rfl, rfl⟩ := h1
    refine tE_at hb (asB_some h2) S fun v F' H' sm S' hv _ => ?_
    cases hv
    refine ⟨false, rfl, ?_⟩
    rw
          [if_neg Bool.false_ne_true]
    exact k _ F' H' sm S' (.bl _) Apart.d
  · cases h1
theorem pe_dif (hc : PT X c (tT X.K b d)) (ha : PE X a (tE X.K b d1)) (he : PE X e (tE X.K b d2)) : PE X (.IfExp c a e pos) (tE X.K b (dIf d d1 d2)) := (pe_ifExp hc ha he).of fun σ H Q ⟨G, io, F, env, r, env', hb, h1, S, k⟩ => by
  unfold dIf at h1
  split at h1
  · rename_i e1 h2
    refine ⟨G, io, F, env, true, e1, hb, h2, S, fun F' H' sm S' => ?_⟩
    dsimp only
    rw [if_pos rfl]
    exact tE_at hb h1 S' fun v F2 H2 sm2 S2 hv2 ap => k v F2 H2 (sm.trans sm2) S2 hv2 ap
  · rename_i e1 h2
    refine ⟨G, io, F, env, false, e1, hb, h2, S, fun F' H' sm S' => ?_⟩
    dsimp only
    rw
          [if_neg Bool.false_ne_true]
    exact tE_at hb h1 S' fun v F2 H2 sm2 S2 hv2 ap => k v F2 H2 (sm.trans sm2) S2 hv2 ap
  · cases h1
end
end L2
set_option Elab.async false
set_option autoImplicit false
set_option linter.all false
set_option maxRecDepth 100000
set_option maxHeartbeats 1000001
namespace L2
open PyProof.Rows PySem PySem.Spec

inductive Fl where
  | nx
  | rt (r : TV)
  | bk
  | ct
abbrev DS := Slots → Option (Fl × Slots)
abbrev DG := D → Slots → Option Slots
abbrev DI := Slots → Option (List D × Slots)

def dSeq : List DS → DS
  | [], e => some (.nx, e)
  | s :: ss, e => match s e with
    | some (.nx, e1) => dSeq ss e1
    | r => r
def sDrop (d : DE) : DS := fun e => match d e with
  | some (_, e1) => some (.nx, e1)
  | none => none
def sRet (d : DE) : DS := fun e => match d e with
  | some (r, e1) => some (.rt r, e1)
  | none => none
def sSet (i : Nat) (d : DE) : DS := fun e => match d e with
  | some (r, e1) => if i < e1.length then some (.nx, e1.set i (some r)) else none
  | none => none
def sAsg (d : DE) (g : DG) : DS := fun e => match d e with
  | some (.d x, e1) => match g x e1 with
    | some e2 => some (.nx, e2)
    | none => none
  | _ => none
def sIf (c : DE) (t u : DS) : DS := fun e => match asB (c e) with
  | some (true, e1) => t e1
  | some (false, e1) => u e1
  | none => none
def forGo (g : DG) (t : DS) : List D → DS
  | [], e => some (.nx, e)
  | x :: xs, e => match g x e with
    | some e1 => match t e1 with
      | some (.nx, e2) => forGo g t xs e2
      | some (.ct, e2) => forGo g t xs e2
      | some (.bk, e2) => some (.nx, e2)
      | some (.rt r, e2) => some (.rt r, e2)
      | none => none
    | none => none
def sFor (s : DI) (g : DG) (t : DS) : DS := fun e => match s e with
  | some (xs, e1) => forGo g t xs e1
  | none => none
def gNm (i : Nat) : DG := fun x e => if i < e.length then some (e.set i (some (.d x))) else none
def gIx (i : Nat) (d : DE) : DG := fun x e => match e[i]? with
  | some (some (.own _)) => match d e with
    | some (.d (.int k), e1) => match e1[i]? with
      | some (some (.own xs)) => match ixN xs.length k with
        | some j => some (e1.set i (some (.own (xs.set j x))))
        | none => none
      | _ => none
    | _ => none
  | _ => none
def gAll : List DG → List D → Slots → Option Slots
  | [], [], e => some e
  | g :: gs, x :: xs, e => match g x e with
    | some e1 => gAll gs xs e1
    | none => none
  | _, _, _ => none
def gTp (gs : List DG) : DG := fun x e => match x with
  | .tuple xs => gAll gs xs e
  | _ => none

section
variable (K : PySem.W.Frag) (b : Bool)
def flQ (D : Ends) (K : PySem.W.Frag) (G F H : Hp) (env : Slots) (σ : L2.St) : Fl → Prop
  | .nx => D.nx σ H
  | .bk => D.bk σ H
  | .ct => D.ct σ H
  | .rt r => ∀ v, TVR K G F H v r → Apart env σ v r → D.rt v H
def tS (d : DS) : TS := fun D σ H => ∃ (G : Hp) (io : Option Addr) (F : Hp) (env : Slots) (fl : Fl) (env' : Slots), (b = false → io = none) ∧ d env = some (fl, env') ∧ Sim K G io env σ F H ∧
  ∀ (σ' : L2.St) (F' H' : Hp), Same F F' → Sim K G io env' σ' F' H' → flQ D K G F' H' env' σ' fl
def tG (R : Hp → V → D → Prop) (g : DG) (vs : List Nat) : TG := fun v σ H Q => ∃ (G : Hp) (io : Option Addr) (F : Hp) (env : Slots) (x : D) (env' : Slots), (b = false → io = none) ∧ g x env = some env' ∧ Sim K G io env σ F H ∧ R F v x ∧
  ∀ (σ' : L2.St) (F' H' : Hp), Same F F' → Sim K G io env' σ' F' H' → (∀ ws : List Nat, (∀ i ∈ vs, i ∈ ws) → wipe σ' ws = wipe σ ws) → Q σ' H'
def tGs (g : List DG) (vs : List Nat) : TGs := fun us σ H Q => ∃ (G : Hp) (io : Option Addr) (F : Hp) (env : Slots) (xs : List D) (env' : Slots), (b = false → io = none) ∧ gAll g xs env = some env' ∧ Sim K G io env σ F H ∧ DqAll K F us xs ∧
  ∀ (σ' : L2.St) (F' H' : Hp), Same F F' → Sim K G io env' σ' F' H' → (∀ ws : List Nat, (∀ i ∈ vs, i ∈ ws) → wipe σ' ws = wipe σ ws) → Q σ' H'
end

def Dt (K : PySem.W.Frag) (F : Hp) (v : V) (x : D) : Prop := Dq K F v x ∨ ∃ a xs ds, v = .ref a ∧ x = .tuple ds ∧ SqT K F a xs ∧ DqAll K F xs ds
theorem wipe_set {i : Nat} {x : Option V} : ∀ {ws : List Nat} {σ : L2.St}, i ∈ ws → wipe (σ.set i x) ws = wipe σ ws
  | [], _, h => by simp at h
  | w :: ws, σ, h => by
    unfold wipe
    by_cases hw : i ∈ ws
    · rw [wipe_set hw]
    · have e : i = w := by
        rcases
              List.mem_cons.mp h with e | h
        · exact e
        · exact absurd h hw
      subst e
      have key : ∀ (us : List Nat) (τ : L2.St), i ∉ us → wipe (τ.set i x) us = (wipe τ us).set i x := by
        intro us
        induction us with
        | nil => intro τ _; rfl
        | cons u us ih =>
          intro τ hu
          have h1 : i ≠ u := fun z => hu (z ▸ List.mem_cons_self)
          have h2 : i ∉ us := fun z => hu (List.mem_cons_of_mem _ z)
          unfold wipe
          rw [ih τ h2, List.set_comm _ _ h1]
      rw [key ws σ hw, List.set_set]

section
variable {K : PySem.W.Frag} {b : Bool} {G F H : Hp} {io : Option Addr} {env env' : Slots} {σ : L2.St}
theorem tS_at {d : DS} {fl : Fl} {D : Ends} (hb : b = false → io = none) (h : d env = some (fl, env')) (S : Sim K G io env σ F H)
    (k : ∀ (σ' : L2.St) (F' H' : Hp), Same F F' → Sim K G io env' σ' F' H' → flQ D K G F' H' env' σ' fl) : tS K b d D σ H := ⟨G, io, F, env, fl, env', hb, h, S, k⟩
end
section
variable {X : Cx} {b : Bool} {e a c : Expr} {st : Stmt} {sts u : List Stmt} {d d1 : DE} {s s1 s2 : DS} {ss : List DS} {g : DG} {gs : List DG} {pos p : Pos} {i : Nat} {x : Str} {vs ws : List Nat}
theorem pss_d0 : PSs X [] (tS X.K b (dSeq [])) := pss_nil.of fun D σ H ⟨G, io, F, env, fl, env', hb, h1, S, k⟩ => by
  simp only [dSeq, Option.some.injEq, Prod.mk.injEq] at h1
  obtain ⟨rfl, rfl⟩ := h1
  exact k σ F H (Same.refl F) S
theorem pss_d (h1 : PS X st (tS X.K b s)) (h2 : PSs X sts (tS X.K b (dSeq ss))) : PSs X (st :: sts) (tS X.K b (dSeq (s :: ss))) := (pss_cons h1 h2).of fun D σ H ⟨G, io, F, env, fl, env', hb, h, S, k⟩ => by
  simp only [dSeq] at h
  split at h
  · rename_i e1 h3
    exact tS_at hb h3 S fun σ1 F1 H1 sm S1 => tS_at hb h S1 fun σ2 F2 H2 sm2 S2 => k σ2 F2 H2 (sm.trans sm2) S2
  · rename_i r hr
    refine tS_at hb h S fun σ1 F1 H1 sm S1 => ?_
    have q := k σ1 F1 H1 sm S1
    cases fl with
    | nx => exact absurd h (hr env')
    | rt r => exact q
    | bk => exact q
    | ct => exact q
theorem ps_ddrop (h : PE X e (tE X.K b d)) (hs : swapsWith e none pos.line X.env = pure false) : PS X (.Expr e pos) (tS X.K b (sDrop d)) := (ps_expr h hs).of fun D σ H ⟨G, io, F, env, fl, env', hb, h1, S, k⟩ => by
  unfold sDrop at h1
  split at h1
  · rename_i r e1 h2
    simp only [Option.some.injEq, Prod.mk.injEq] at h1
    obtain ⟨rfl, rfl⟩ := h1
    exact tE_at hb h2 S fun v F' H' sm S' _ _ => k σ F' H' sm S'
  · cases h1
theorem ps_dret (h : PE X e (tE X.K b d)) : PS X (.Return (some e) pos) (tS X.K b (sRet d)) := (ps_ret h).of fun D σ H ⟨G, io, F, env, fl, env', hb, h1, S, k⟩ => by
  unfold sRet at h1
  split at h1
  · rename_i r e1 h2
    simp only [Option.some.injEq, Prod.mk.injEq] at h1
    obtain ⟨rfl, rfl⟩ := h1
    exact tE_at hb h2 S fun v F' H' sm S' hv ap => k σ F' H' sm S' v hv ap
  · cases h1
theorem ps_dset {py : Pos} (hN : X.N.Nodup) (hi : X.N[i]? = some x) (hx : Loc X.env.scope x) (h : PE X e (tE X.K b d)) (hs : swapsWith e (some (.Name x py)) pos.line X.env = pure false) (hf : X.fn x = true ∨ X.env.scope.names.lookup x = some .local)
    (h0 : i ≠ 0 ∨ b = false) : PS X (.Assign [.Name x py] e pos) (tS X.K b (sSet i d)) := (ps_set hN hi hx h hs hf).of fun D σ H ⟨G, io, F, env, fl, env', hb, h1, S, k⟩ => by
  unfold sSet at h1
  split at h1
  · rename_i r e1 h2
    split at h1
    · rename_i hl
      simp only [Option.some.injEq, Prod.mk.injEq] at h1
      obtain ⟨rfl, rfl⟩ := h1
      exact tE_at hb h2 S fun v F' H' sm S' hv ap => k _ F' H' sm (S'.put (by rw [← S'.len]; exact hl) hv ap (not_io hb h0))
    · cases h1
  · cases h1
theorem ps_dasg {tg : Expr} (h : PE X e (tE X.K b d)) (hg : PG X tg (tG X.K b (Dq X.K) g vs)) (hs : swapsWithSole [tg] e pos.line X.env = pure false) (hw : swappedStores [tg] e X.env = pure none)
    (ha : (assignEach [tg] X.env).map (·.2) = [assign tg X.env]) : PS X (.Assign [tg] e pos) (tS X.K b (sAsg d g)) := (ps_asg h hg hs hw ha).of fun D σ H ⟨G, io, F, env, fl, env', hb, h1, S, k⟩ => by
  unfold sAsg at h1
  split at h1
  · rename_i y e1 h2
    split at h1
    · rename_i e2 h3
      simp only [Option.some.injEq, Prod.mk.injEq] at h1
      obtain ⟨rfl, rfl⟩ := h1
      exact tE_at hb h2 S fun v F' H' sm S' hv ap => ⟨G, io, F', e1, y, e2, hb, h3, S', hv, fun σ2 F2 H2 sm2 S2 _ => k σ2 F2 H2 (sm.trans sm2) S2⟩
    · cases h1
  · cases h1
theorem ps_dif {c : Expr} (hc : PT X c (tT X.K b d)) (ha : PSs X sts (tS X.K b s)) (hu : PSs X u (tS X.K b s1)) : PS X (.If c sts u pos) (tS X.K b (sIf d s s1)) := (ps_if hc ha hu).of fun D σ H ⟨G, io, F, env, fl, env', hb, h1, S, k⟩ => by
  unfold sIf at h1
  split at h1
  · rename_i e1 h2
    refine ⟨G, io, F, env, true, e1, hb, h2, S, fun F' H' sm S' => ?_⟩
    dsimp only
    rw [if_pos rfl]
    exact tS_at hb h1 S' fun σ2 F2 H2 sm2 S2 => k σ2 F2 H2 (sm.trans sm2) S2
  · rename_i e1 h2
    refine ⟨G, io, F, env, false, e1, hb, h2, S, fun F' H' sm S' => ?_⟩
    dsimp only
    rw
          [if_neg Bool.false_ne_true]
    exact tS_at hb h1 S' fun σ2 F2 H2 sm2 S2 => k σ2 F2 H2 (sm.trans sm2) S2
  · cases h1
structure Steps (R : Hp → V → D → Prop) (F : Hp) (J : It) (xs : List D) : Prop where
  go : ∀ (i : Nat) (x : D) (F' H : Hp), xs[i]? = some x → Same F F' → Same F' H → J.go i H
  yld : ∀ (i : Nat) (x : D) (F' H : Hp) (v : V) (H' : Hp), xs[i]? = some x → Same F F' → Same F' H → J.yld i H v H' → ∃ F'', Ext F' H F'' H' ∧ R F'' v x
  stop : ∀ (i : Nat) (F' H : Hp), xs.length = i → Same F F' → Same F' H → J.stop i H
def iD (K : PySem.W.Frag) (b : Bool) (W : Hp → V → D → Prop) (d : DI) : TI := fun σ H R => ∃ (G : Hp) (io : Option Addr) (F : Hp) (env : Slots) (xs : List D) (env' : Slots), (b = false → io = none) ∧ d env = some (xs, env') ∧ Sim K G io env σ F H ∧
  ∀ (J : It) (F' H' : Hp), Same F F' → Sim K G io env' σ F' H' → Steps W F' J xs → R J H'
theorem PI.of {tg it : Expr} {t t' : TI} (h : PI X tg it t) (m : ∀ σ H R, t' σ H R → t σ H R) : PI X tg it t' := ⟨fun pins s σ H R I q => h.run pins s σ H R I (m σ H R q)⟩
theorem PI.by {tg it : Expr} {t' : TI} (h : ∀ σ H R, t' σ H R → ∃ t, PI X tg it t ∧ t σ H R) : PI X tg it t' := ⟨fun pins s σ H R I q => by
  obtain ⟨t, h1, h2⟩ := h σ H R q
  exact h1.run pins s σ H R I h2⟩
theorem drop_some {α : Type} {xs : List α} {i : Nat} (h : i < xs.length) : ∃ x, xs[i]? = some x ∧ xs.drop i = x :: xs.drop (i + 1) :=
  ⟨xs[i], List.getElem?_eq_getElem h, List.drop_eq_getElem_cons h⟩
theorem ps_dfor {tg it : Expr} {di : DI} {W : Hp → V → D → Prop} (hp : PassesOwn (model X.prog X.w) X.A X.env X.xe) (hc : X.calm = true) (hi : PI X tg it (iD X.K b W di)) (hg : PG X tg (tG X.K b W g vs)) (ht : PSs X sts (tS X.K b s))
    (hs : ∀ x, foldedSetIterable it X.env x = pure x) : PS X (.For tg it sts [] pos) (tS X.K b (sFor di g s)) := (ps_for hp hc hi hg ht hs).of fun D σ H ⟨G, io, F, env, fl, env', hb, h1, S, k⟩ => by
  unfold sFor at h1
  split at h1
  · rename_i xs e1 h2
    refine ⟨G, io, F, env, xs, e1, hb, h2, S, fun J F0 H0 sm0 S0 st => ?_⟩
    refine ⟨fun i m σ1 H1 => ∃ F1 env1, Same F0 F1 ∧ Sim X.K G io env1 σ1 F1 H1 ∧ forGo g s (xs.drop i) env1 = some (fl, env') ∧ m = xs.length - i ∧ i ≤ xs.length, ⟨xs.length, F0, e1, Same.refl F0, S0, h1, by simp, Nat.zero_le _⟩, ?_⟩
    rintro i m σ1 H1 ⟨F1, e2, sm, S1, h3, rfl, hi⟩
    by_cases hlt : i < xs.length
    · obtain ⟨x, hx, hd⟩ := drop_some hlt
      rw [hd] at h3
      simp only [forGo] at h3
      refine .inr ⟨st.go i x F1 H1 hx sm S1.fh, fun σ4 H4 => ∃ F4 env4, Same F0 F4 ∧ Sim X.K G io env4 σ4 F4 H4 ∧ forGo g s (xs.drop (i + 1)) env4 = some (fl, env'), ?_, ?_⟩
      · rintro σ4 H4 ⟨F4, e4, q1, q2, q3⟩
        exact ⟨xs.length - (i + 1), by omega, F4, e4, q1, q2, q3, rfl, hlt⟩
      · intro v H2 hy
        obtain ⟨F2, x2, hv⟩ := st.yld i x F1 H1 v H2 hx sm S1.fh hy
        split at h3
        · rename_i e3 h4
          refine ⟨G, io, F2, e2, x, e3, hb, h4, S1.ext x2, hv, fun σ5 F5 H5 sm5 S5 _ => ?_⟩
          have sm6 : Same F0 F5 := (sm.trans x2.ff).trans sm5
          split at h3
          · rename_i e6 h6
            exact tS_at hb h6 S5 fun σ7 F7 H7 sm7 S7 => ⟨F7, _, sm6.trans sm7, S7, h3⟩
          · rename_i e6 h6
            exact tS_at hb h6 S5 fun σ7 F7 H7 sm7 S7 => ⟨F7, _, sm6.trans sm7, S7, h3⟩
          · rename_i e6 h6
            simp only [Option.some.injEq, Prod.mk.injEq] at h3
            obtain ⟨rfl, rfl⟩ := h3
            exact tS_at hb h6 S5 fun σ7 F7 H7 sm7 S7 => k σ7 F7 H7 (sm0.trans (sm6.trans sm7)) S7
          · rename_i r e6 h6
            simp only [Option.some.injEq, Prod.mk.injEq] at h3
            obtain ⟨rfl, rfl⟩ := h3
            exact tS_at hb h6 S5 fun σ7 F7 H7 sm7 S7 => k σ7 F7 H7 (sm0.trans (sm6.trans sm7)) S7
          · cases h3
        · cases h3
    · have
          e : i = xs.length := by omega
      subst e
      rw [List.drop_length] at h3
      simp only [forGo, Option.some.injEq, Prod.mk.injEq] at h3
      obtain ⟨rfl, rfl⟩ := h3
      exact .inl ⟨st.stop _ F1 H1 rfl sm S1.fh, k σ1 F1 H1 (sm0.trans sm) S1⟩
  · cases h1

theorem pg_dnm (hN : X.N.Nodup) (hi : X.N[i]? = some x) (hx : Loc X.env.scope x) (hf : X.fn x = true ∨ X.env.scope.names.lookup x = some .local) (h0 : i ≠ 0 ∨ b = false) : PG X (.Name x pos) (tG X.K b (Dq X.K) (gNm i) [i]) :=
  ⟨fun pins s σ H v u Q I r ⟨G, io, F, env, x, env', hb, h1, S, hv, k⟩ => (pg_name hN hi hx hf).run pins s σ H v u Q I r (by
    unfold gNm at h1
    split at h1
    · rename_i hl
      cases h1
      exact k _ F H (Same.refl F) (S.putD (by rw [← S.len]; exact hl) hv (not_io hb h0)) fun ws hw => wipe_set (hw i (List.mem_singleton.mpr rfl))
    · cases h1)⟩
theorem pgs_d0 : PGs X [] (tGs X.K b [] []) := ⟨fun pins s σ H vs us Q I r ⟨G, io, F, env, xs, env', hb, h1, S, hv, k⟩ => pgs_nil.run pins s σ H vs us Q I r (by
    cases xs with
    | cons => cases h1
    | nil =>
      simp only [gAll, Option.some.injEq] at h1
      subst h1
      cases hv
      exact ⟨rfl, k σ F H (Same.refl F) S fun _ _ => rfl⟩)⟩
theorem pgs_d {es : List Expr} (h1 : PG X e (tG X.K b (Dq X.K) g vs)) (h2 : PGs X es (tGs X.K b gs ws)) (hs : (assignEach (e :: es) X.env).map (·.2) = assign e X.env :: (assignEach es X.env).map (·.2)) : PGs X (e :: es) (tGs X.K b (g :: gs) (vs ++ ws)) :=
  ⟨fun pins s σ H us xs Q I r ⟨G, io, F, env, ys, env', hb, h3, S, hv, k⟩ => (pgs_cons h1 h2 hs).run pins s σ H us xs Q I r (by
    cases ys with
    | nil => cases h3
    | cons y ys =>
      simp only [gAll] at h3
      split at h3
      · rename_i e1 h4
        cases hv with
        | cons q1 q2 =>
          refine ⟨_, _, rfl, G, io, F, env, y, e1, hb, h4, S, q1, fun σ1 F1 H1 sm S1 w1 => ?_⟩
          refine ⟨G, io, F1, e1, ys, env', hb, h3, S1, DqAll.to q2 sm, fun σ2 F2 H2 sm2 S2 w2 => k σ2 F2 H2 (sm.trans sm2) S2 fun zs hz => ?_⟩
          rw [w2 zs fun i hi => hz i (List.mem_append_right _ hi), w1 zs fun i hi => hz i (List.mem_append_left _ hi)]
      · cases h3)⟩
theorem gAll_len : ∀ {gs : List DG} {xs : List D} {e e1 : Slots}, gAll gs xs e = some e1 → gs.length = xs.length
  | [], [], _, _, _ => rfl
  | g :: gs, x :: xs, e, e1, h => by
    simp only [gAll] at h
    split at h
    · rename_i e2 _
      simp [gAll_len h]
    · cases h
  | [], _ :: _, _, _, h => by cases h
  | _ :: _, [], _, _, h => by cases h
theorem pg_dtp {es : List Expr} {kt : Nat} (hc : X.calm = true) (h : PGs X es (tGs X.K b gs vs)) (hn : (assignEach es X.env).length = gs.length) (hst : (assignEach es X.env).findIdx? (·.1) = none) : PG X (.Tuple es kt pos) (tG X.K b (Dt X.K) (gTp gs) vs) :=
  ⟨fun pins s σ H v u Q I r ⟨G, io, F, env, x, env', hb, h1, S, hv, k⟩ => (pg_tup hc h hn hst).run pins s σ H v u Q I r (by
    unfold gTp at h1
    split at h1
    · rename_i xs
      obtain ⟨a, us, rfl, hs, ha⟩ : ∃ a us, v = .ref a ∧ SqT X.K F a us ∧ DqAll X.K F us xs := by
        rcases hv with hv | ⟨a, us, ds, e1, e2, hs, ha⟩
        · cases hv with
          | tup hs _ ha => exact ⟨_, _, rfl, hs, ha⟩
        · cases e2
          exact ⟨a, us, e1, hs, ha⟩
      refine ⟨_, _, rfl, sameT S.fh hs, ?_, G, io, F, env, xs, env', hb, h1, S, ha, k⟩
      rw [DqAll.len ha, gAll_len h1]
    · cases h1)⟩
theorem PG.weak {tg : Expr} (h : PG X tg (tG X.K b (Dt X.K) g vs)) : PG X tg (tG X.K b (Dq X.K) g vs) :=
  ⟨fun pins s σ H v u Q I r ⟨G, io, F, env, x, env', hb, h1, S, hv, k⟩ => h.run pins s σ H v u Q I r ⟨G, io, F, env, x, env', hb, h1, S, .inl hv, k⟩⟩
theorem pg_dix {o ix : Expr} (ho : PE X o (tVar i)) (hi : PE X ix (tE X.K b d)) (ha : ∀ v, assign (.Subscript o ix pos) X.env v = (do
      let
            ov ← holding [v] (eval o X.env)
      let iv ← holding [v, ov] (eval ix X.env)
      standAt pos
      holding
            [v, ov, iv] (setItem ov iv v)
      release [v, ov, iv] [])) : PG X (.Subscript o ix pos) (tG X.K b (Dq X.K) (gIx i d) []) :=
  ⟨fun pins s σ H v u Q I r ⟨G, io, F, env, x, env', hb, h1, S, hv, k⟩ => (pg_sub ho hi set_list ha).run pins s σ H v u Q I r (by
    unfold gIx at h1
    split at h1
    · rename_i xs0 h0
      obtain ⟨v0, e0, a, us0, rfl, _⟩ := S.sl i _ h0
      split at h1
      · rename_i kx e1 h2
        split at h1
        · rename_i xs h3
          split at h1
          · rename_i j h4
            cases h1
            refine ⟨_, e0, tE_at hb h2 S fun w F' H' sm S' hw _ => ?_⟩
            cases hw
            obtain ⟨v1, e2, a1, us, rfl, g1, g2, g3, g4⟩ := S'.sl i _ h3
            rw [e0] at e2
            cases e2
            refine ⟨a, us, kx, j, rfl, rfl, g1, by rw [DqAll.len g4]; exact h4, ?_⟩
            exact k σ F' _ sm (S'.write h3 e0 (DqAll.set j g4 (Dq.to hv sm))) fun _ _ => rfl
          · cases h1
        · cases h1
      · cases h1
    · cases h1)⟩
end
end L2
set_option Elab.async false
set_option autoImplicit false
set_option linter.all false
set_option maxRecDepth 100000
set_option maxHeartbeats 1000001
namespace L2
open PyProof.Rows PySem PySem.Spec

structure FnG (P : Program) (w : World) (K : PySem.W.Frag) (mg : Str → Option Value) (base : Heap) (k : Nat) (f : Addr) (fd : FuncData) (ps : List Str) (sp : Sp) : Prop where
  len : ∀ (vs : List V) (H : Hp) (Q : VK), sp vs H Q E0 → vs.length = ps.length
  run : ∀ (A : Around) (outer : List Env) (s : Shared) (H : Hp) (args : Args) (us : List Value) (vs : List V) (Q : VK), Room k A → A.guards = some [] → Env0 P w K mg base A outer s H →
    BindsTo s fd args (ps.zip us) → Vals vs us → sp vs H Q E0 → codeAny (model P w) A (.call (.ref f) args) (CR CX0 outer P w H s Q E0) s

section
variable {P : Program} {w : World} {K : PySem.W.Frag} {mg : Str → Option Value} {base : Heap} {k : Nat} {f : Addr} {name qual : Str} {params : Arguments} {body : List Stmt} {scope : Scope}
  {dV kV doc pm cdv ct oc : Value} {an od : Option Addr} {osl : Array (Option Value)} {N ps : List Str} {sp : Sp}
theorem fnG_of (lk : K.lookup f = some ⟨oc, od, .func (PySem.W.fnOf name qual params body scope dV kV doc pm an cdv ct), osl⟩) (cd : PySem.W.codeIn K cdv qual = true) (S : FnScope N ps scope)
    (len : ∀ (vs : List V) (H : Hp) (Q : VK), sp vs H Q E0 → vs.length = ps.length)
    (hbody : ∀ (A : Around) (outer : List Env) (s : Shared) (H : Hp) (vs : List V) (Q : VK), Room k (A.deeper (envOfC qual scope s.heap.objs.size f cdv)) → A.guards = some [] → sp vs H Q E0 →
      ∃ t, PSs (cxOf CX0 P w K mg base N qual scope f cdv A outer s H E0).nox body t ∧ t { nx := fun _ H' => Q .non H', rt := Q } (start N vs) H) :
    FnG P w K mg base (k + 1) f (PySem.W.fnOf name qual params body scope dV kV doc pm an cdv ct) ps sp where
  len := len
  run := by
    intro A outer s H args us vs Q hr hgd e0 bd rv hsp
    have inH : K.In s.heap := e0.mod.kin.keeps fun c o z => (e0.bs c o z).1
    have lim : s.heap.NoLimit := e0.mod.nolimit.keeps fun c o z => (e0.bs c o z).1
    have kinds : ∀ z ∈ ps.zip us, scope.names.lookup z.1 = some .local ∨
        (scope.names.lookup z.1 = some .cell ∧ ((cellsFrom (s.heap.objs.size + 1) scope.names []).lookup z.1).isSome = true) := by
      rintro ⟨n, u⟩ hz
      rcases S.par n (List.of_mem_zip hz).1 with q | q
      · exact .inl q
      · exact
            .inr ⟨q, PySem.W.cellsFrom_some _ _ _ (.inl q)⟩
    refine codeAny_call_function hr.depth (inH _ _ lk) rfl S.co S.gen rfl (PySem.W.codeRec_of inH cd) (bd _ _ _ _ ?_)
    refine wpAny_newFunctionEnv_cells S.kind kinds fun env he s1 x => ?_
    subst he
    obtain ⟨t, ht, hq⟩ := hbody A outer s H vs Q (hr.deeper _) hgd hsp
    have I := inv_start (CX := CX0) (qual := qual) (f := f) (cd := cdv) (E := E0) S hr.hd e0 (len _ _ _ hsp) rv x
    refine
          ⟨lim.keeps x.toInCall.keep, codeAny_func ?_⟩
    refine wpAny_mono (ht.nox.run [] s1 (start N vs) H _ I hq) ?_ fun _ _ z => z
    intro fl s' hs
    have fin : ∀ {σ' : L2.St} {H' : Hp} {v : V} {u : Value}, Inv (cxOf CX0 P w K mg base N qual scope f cdv A outer s H E0) [] σ' H' s' → RelV v u → Q v H' → CE outer P w H s Q u s' :=
      fun J rv q => ⟨_, _, J.os, J.bare, J.base, J.hok, rv, q⟩
    cases fl with
    | next =>
      obtain ⟨_, _, J, q⟩ := hs
      exact fin (v := V.non) J rfl q
    | ret u =>
      obtain ⟨_, _, _, J, rv, q⟩ := hs
      exact fin J rv q
    | brk =>
      obtain ⟨_, _, _, q⟩ := hs
      exact False.elim q
    | cont =>
      obtain ⟨_, _, _, q⟩ := hs
      exact False.elim q
end

section
variable {X : Cx} {k : Nat} {f : Addr} {fd : FuncData} {ps ks : List Str} {sp : Sp} {x : Str} {p pos : Pos} {e : Expr} {es : List Expr} {kws : List Keyword} {t tk : TA}
theorem runG {pins : List (Addr × Obj)} {σ : L2.St} {H : Hp} {s : Shared} {Q : VK} {args : Args} {us : List Value} {vs : List V} (F : FnG X.prog X.w X.K X.mg X.base k f fd ps sp) (hr : Room k X.A) (hgd : X.A.guards = some [])
    (I : Inv X pins σ H s) (hb : BindsTo s fd args (ps.zip us)) (r : Vals vs us) (h : sp vs H Q E0) : codeAny (model X.prog X.w) X.A (.call (.ref f) args) (fun r s' => match r with
      | .ok (.ret u) => EP X pins σ Q u s'
      | _ => False) s := by
  refine codeAny_mono (F.run X.A X.stack s H args us vs Q hr hgd I.env0 hb r h) ?_
  rintro (e | fl) s' hq
  · exact hq
  · cases fl with
    | ret u => exact I.after hq
    | next => exact hq
    | brk => exact hq
    | cont => exact hq
theorem callG {pins : List (Addr × Obj)} {σ : L2.St} {H : Hp} {s : Shared} {Q : VK} {args : List Value} {kw : List (Str × Value)} {us : List Value} {vs : List V} (F : FnG X.prog X.w X.K X.mg X.base k f fd ps sp) (hr : Room k X.A) (hgd : X.A.guards = some [])
    (I : Inv X pins σ H s) (hb : BindsTo s fd ⟨args, kw⟩ (ps.zip us)) (r : Vals vs us) (h : sp vs H Q E0) : wpAny (model X.prog X.w) X.A (call (.ref f) args kw) (EP X pins σ Q) X.xe s := by
  refine wpAny_call (codeAny_mono (runG F hr hgd I hb r h) ?_)
  rintro (e | fl) s' hq
  · exact hq.elim
  · cases fl with
    | ret u => exact hq
    | next => exact hq
    | brk => exact hq
    | cont => exact hq
def BindP (fd : FuncData) (ps : List Str) : Prop := ∀ us : List Value, us.length = ps.length → bindArgs fd ⟨us, []⟩ = pure (ps.zip us)
theorem pe_callG (F : FnG X.prog X.w X.K X.mg X.base k f fd ps sp) (hr : Room k X.A) (hgd : X.A.guards = some []) (hg : Gl X x) (hm : X.mg x = some (.ref f)) (hk : PySem.W.keepIn X.K (.ref f) = true) (hb : BindP fd ps)
    (ha : PA X (e :: es) t) (hdb : (x == ("__debug__" : Str)) = false) (he : starEach (e :: es) X.env = (false, eval e X.env) :: starEach es X.env) (hpl : (backTo pos (starEach es X.env)).any (·.1) = false) :
    PE X (.Call (.Name x p) (e :: es) [] pos) (tCall sp [] E0 t) := by
  refine ⟨fun pins s σ H Q I h => wpAny_Call_Name_kw (ld_glob I hg hm ?_ hdb)⟩
  refine
        PySem.W.callWith_K (h₀ := X.base) I.ok.mod.kin hk (thn (ha.run pos pins s σ H _ I h) fun us s1 ⟨vs, H1, I1, r, q⟩ => ⟨I1.kIn, ?_⟩) he hpl
  have q' : sp vs H1 Q E0 := by rw [← List.append_nil vs]; exact q
  exact callG F hr hgd I1 (.of_eq (hb us (by rw [← r.length]; exact F.len _ _ _ q'))) r q'
def prm {α : Type} (pm : List Nat) (xs : List α) : List α := pm.filterMap fun j => xs[j]?
def BindK (fd : FuncData) (ps : List Str) (n : Nat) (ks : List Str) (pm : List Nat) : Prop :=
  ∀ us ws : List Value, us.length = n → ws.length = ks.length → bindArgs fd ⟨us, ks.zip ws⟩ = pure (ps.zip (prm pm (us ++ ws)))
theorem prm_vals : ∀ {pm : List Nat} {vs : List V} {us : List Value}, Vals vs us → Vals (prm pm vs) (prm pm us)
  | [], _, _, _ => .nil
  | j :: pm, vs, us, r => by
    have ih := prm_vals (pm := pm) r
    unfold prm at ih ⊢
    cases e : vs[j]? with
    | none =>
      rw [List.filterMap_cons_none e, List.filterMap_cons_none (r.none_of e)]
      exact ih
    | some v =>
      obtain ⟨u, hu, ru⟩ := r.get e
      rw [List.filterMap_cons_some e, List.filterMap_cons_some hu]
      exact .cons ru ih
def tCallP (sp : Sp) (n m : Nat) (pm : List Nat) (t tk : TA) : TE := fun σ H Q => t σ H fun vs H1 => tk σ H1 fun zs H2 => vs.length = n ∧ zs.length = m ∧ sp (prm pm (vs ++ zs)) H2 Q E0
theorem pe_callKG0 {pm : List Nat} (F : FnG X.prog X.w X.K X.mg X.base k f fd ps sp) (hr : Room k X.A) (hgd : X.A.guards = some []) (hg : Gl X x) (hm : X.mg x = some (.ref f)) (hk : PySem.W.keepIn X.K (.ref f) = true) (hb : BindK fd ps 0 ks pm)
    (hkw : PK X kws tk) (hall : (backToKw pos (keywordEach kws X.env)).all (·.1.isSome) = true) (hks : (backToKw pos (keywordEach kws X.env)).filterMap (·.1) = ks)
    (hdb : (x == ("__debug__" : Str)) = false) (hpl : ((backTo pos (starEach [] X.env)).any (·.1) || (backToKw pos (keywordEach kws X.env)).any (·.1.isNone)) = false) :
    PE X (.Call (.Name x p) [] kws pos) (tCallP sp 0 ks.length pm tNil tk) := by
  refine ⟨fun pins s σ H Q I h => wpAny_Call_Name_kw (ld_glob I hg hm ?_ hdb)⟩
  refine PySem.W.callWith_KW0 (h₀ := X.base) I.ok.mod.kin hk hall ?_ hpl
  refine thn (hkw.run pos pins s σ H _ I h) fun ws s2 ⟨zs, H2, I2, rz, n1, n2, q2⟩ => ⟨I2.kIn, ?_⟩
  rw [hks]
  exact callG F hr hgd I2 (.of_eq (hb [] ws rfl (by rw [← rz.length]; exact n2))) (prm_vals (us := [] ++ ws) (Vals.append .nil rz)) q2
end

abbrev FD := Option (List D) → List D → Option (TV × List D)
def FrQ (K : PySem.W.Frag) (F F' H : Hp) (v : V) (r : TV) (zs : List D) : Prop := zs = [PyData.none] → ∃ (p : Addr) (us : List V) (xss : List (List D)), v = .ref p ∧ H p = some (.lst us) ∧ r = .own (xss.map PyData.list) ∧ ∀ w ∈ us, ∃ a ws, w = .ref a ∧ F a = none ∧ F' a = some (.lst ws)
def sp0 (K : PySem.W.Frag) (np : Nat) (f : FD) : Sp := fun vs H Q _ => vs.length = np ∧ ∃ (G F : Hp) (ds : List D) (r : TV) (zs : List D), f none ds = some (r, zs) ∧ Same F H ∧ Same G H ∧ (∀ a, F a = none ∨ G a = none) ∧ DqAll K F vs ds ∧
  ∀ (v : V) (F' H' : Hp), Same F F' → Same F' H' → Same G H' → (∀ a, F' a = none ∨ G a = none) → TVR K G F' H' v r → FrQ K F F' H' v r zs → Q v H'
def sp1 (K : PySem.W.Frag) (np : Nat) (f : FD) : Sp := fun vs H Q _ => vs.length = np ∧ ∃ (G F : Hp) (a : Addr) (us ws : List V) (xs ds : List D) (r : TV) (zs : List D), vs = .ref a :: ws ∧ f (some xs) ds = some (r, zs) ∧ Same F H ∧ Same G H ∧ (∀ a, F a = none ∨ G a = none) ∧
  DqAll K F ws ds ∧ H a = some (.lst us) ∧ F a = none ∧ G a = none ∧ DqAll K F us xs ∧
  ∀ (v : V) (F' H' : Hp) (us' : List V), Same F F' → Same F' H' → Same G H' → (∀ a, F' a = none ∨ G a = none) → H' a = some (.lst us') → F' a = none → DqAll K F' us' zs → TVR K G F' H' v r → (r.mut = true → v ≠ .ref a) → Q v H'
def spF (K : PySem.W.Frag) (io : Bool) (np : Nat) (f : FD) : Sp := if io = true then sp1 K np f else sp0 K np f
def ent (n : Nat) (ds : List D) : Slots := ds.map (fun x => some (.d x)) ++ List.replicate (n - ds.length) none
def dFn (n : Nat) (body : DS) : FD := fun io ds => match io with
  | none => match body (ent n ds) with
    | some (.rt r, _) => some (r, [])
    | some (.nx, _) => some (.d .none, [])
    | _ => none
  | some xs => match body (some (.own xs) :: ent (n - 1) ds) with
    | some (.rt r, e) => match (e[(0 : Nat)]? : Option (Option TV)) with
      | some (some (.own zs)) => some (r, zs)
      | _ => none
    | some (.nx, e) => match (e[(0 : Nat)]? : Option (Option TV)) with
      | some (some (.own zs)) => some (.d .none, zs)
      | _ => none
    | _ => none
section
variable {K : PySem.W.Frag} {G F H : Hp}
theorem ent_get {n : Nat} {ds : List D} {i : Nat} {t : TV} (h : (ent n ds)[i]? = some (some t)) : ∃ x, ds[i]? = some x ∧ t = .d x := by
  unfold ent at h
  by_cases hi : i < ds.length
  · rw [List.getElem?_append_left (by simpa using hi), List.getElem?_map] at h
    cases e : ds[i]? with
    | none =>
          rw [e] at h; cases h
    | some x =>
      rw [e] at h
      simp only [Option.map_some, Option.some.injEq] at h
      exact ⟨x, rfl, h.symm⟩
  · rw [List.getElem?_append_right (by simpa using hi), List.getElem?_replicate] at h
    split at h <;> cases h
theorem start_get {N : List Str} {vs : List V} {i : Nat} {v : V} (h : vs[i]? = some v) : (start N vs)[i]? = some (some v) := by
  unfold start
  have hi : i < vs.length := (List.getElem?_eq_some_iff.mp h).1
  rw [List.getElem?_append_left (by simpa using hi), List.getElem?_map, h]
  rfl
theorem sim0 {N : List Str} {vs : List V} {ds : List D} (h1 : Same F H) (h2 : Same G H) (h3 : ∀ a, F a = none ∨ G a = none) (h4 : DqAll K F vs ds) : Sim K G none (ent N.length ds) (start N vs) F H where
  len := by
    unfold ent start
    rw [List.length_append, List.length_append, List.length_map, List.length_map, List.length_replicate, List.length_replicate, DqAll.len h4]
  fh := h1
  gh := h2
  fg := h3
  sl := fun i t e => by
    obtain ⟨x, hx, rfl⟩ := ent_get e
    obtain ⟨v, hv, r⟩ := DqAll.get h4 hx
    exact ⟨v, start_get hv, r⟩
  sep := fun i j t u a e1 _ m _ _ _ => by
    obtain ⟨x, _, z⟩ := ent_get e1
    subst z
    cases m
  at0 := fun a e => nomatch e
  io0 := fun a e => nomatch e
theorem sim1 {N : List Str} {a : Addr} {us ws : List V} {xs ds : List D} (hN : 1 ≤ N.length) (h1 : Same F H) (h2 : Same G H) (h3 : ∀ a, F a = none ∨ G a = none) (h4 : DqAll K F ws ds) (h5 : H a = some (.lst us)) (h6 : F a = none) (h7 : G a = none) (h8 : DqAll K F us xs) :
    Sim K G (some a) (some (.own xs) :: ent (N.length - 1) ds) (start N (.ref a :: ws)) F H where
  len := by
    unfold ent start
    simp only [List.length_append, List.length_map, List.length_replicate, List.length_cons, List.map_cons, List.cons_append, DqAll.len h4]
    omega
  fh := h1
  gh := h2
  fg := h3
  sl := fun i t e => by
    cases i with
    | zero =>
      simp
            only [List.getElem?_cons_zero, Option.some.injEq] at e
      subst e
      exact ⟨.ref a, start_get rfl, a, us, rfl, h5, h6, h7, h8⟩
    | succ i =>
      rw [List.getElem?_cons_succ] at e
      obtain ⟨x, hx, rfl⟩ := ent_get e
      obtain ⟨v, hv, r⟩ := DqAll.get h4 hx
      exact ⟨v, start_get (by simpa using hv), r⟩
  sep := fun i j t u b e1 e2 m1 m2 _ _ => by
    cases i with
    | zero =>
      cases j with
      | zero => rfl
      | succ j =>
        rw [List.getElem?_cons_succ] at e2
        obtain ⟨x, _, z⟩ := ent_get e2
        subst z
        cases m2
    | succ i =>
      rw [List.getElem?_cons_succ] at e1
      obtain ⟨x, _, z⟩ := ent_get e1
      subst z
      cases m1
  at0 := fun b e => by
    cases e
    exact start_get rfl
  io0 := fun b e => ⟨xs, rfl⟩
theorem body_ok {N : List Str} {io : Bool} {np : Nat} {d : DS} {vs : List V} {Q : VK} (hN : np ≤ N.length) (hnp : io = true → 1 ≤ np) (h : spF K io np (dFn N.length d) vs H Q E0) : tS K io d { nx := fun _ H' => Q .non H', rt := Q } (start N vs) H := by
  cases io with
  | false =>
    obtain ⟨hl, G, F, ds, r, zs, hf, s1, s2, s3, hd, k⟩ := h
    have S := sim0 (N := N) s1 s2 s3 hd
    simp only [dFn] at hf
    split at hf
    · rename_i r' e1 h1
      simp only [Option.some.injEq, Prod.mk.injEq] at hf
      obtain ⟨rfl, rfl⟩ := hf
      exact tS_at (fun _ => rfl) h1 S fun σ' F' H' sm S' v hv ap => k v F' H' sm S'.fh S'.gh S'.fg hv fun z => nomatch z
    · rename_i e1 h1
      simp only [Option.some.injEq, Prod.mk.injEq] at hf
      obtain ⟨rfl, rfl⟩ := hf
      exact tS_at (fun _ => rfl) h1 S fun σ' F' H' sm S' => k .non F' H' sm S'.fh S'.gh S'.fg .non fun z => nomatch z
    · cases hf
  | true =>
    obtain ⟨hl, G, F, a, us, ws, xs, ds, r, zs, rfl, hf, s1, s2, s3, hd, q1, q2, q3, q4, k⟩ := h
    have S := sim1 (N := N) (Nat.le_trans (hnp rfl) hN) s1 s2 s3 hd q1 q2 q3 q4
    have last : ∀ {e1 : Slots} {σ' : L2.St} {F' H' : Hp} {zs : List D}, Sim K G (some a) e1 σ' F' H' → e1[0]? = some (some (.own zs)) → ∃ us', H' a = some (.lst us') ∧ F' a = none ∧ DqAll K F' us' zs := by
      intro e1 σ' F' H' zs S' h2
      obtain ⟨v, g1, b, us', rfl, g2, g3, g4, g5⟩ := S'.sl 0 _ h2
      rw [S'.at0 a rfl] at g1
      cases g1
      exact ⟨us', g2, g3, g5⟩
    simp only [dFn] at hf
    split at hf
    · rename_i r' e1 h1
      split at hf
      · rename_i zs' h2
        simp only [Option.some.injEq, Prod.mk.injEq] at hf
        obtain ⟨rfl, rfl⟩ := hf
        refine tS_at (fun z => nomatch z) h1 S fun σ' F' H' sm S' v hv ap => ?_
        obtain ⟨us', g2, g3, g5⟩ := last S' h2
        refine k v F' H' us' sm S'.fh S'.gh S'.fg g2 g3 g5 hv fun m ev => ?_
        exact ap m 0 _ h2 rfl (by rw [ev]; exact S'.at0 a rfl)
      · cases hf
    · rename_i e1 h1
      split at hf
      · rename_i zs' h2
        simp only [Option.some.injEq, Prod.mk.injEq] at hf
        obtain ⟨rfl, rfl⟩ := hf
        refine tS_at (fun z => nomatch z) h1 S fun σ' F' H' sm S' => ?_
        obtain ⟨us', g2, g3, g5⟩ := last S' h2
        exact k .non F' H' us' sm S'.fh S'.gh S'.fg g2 g3 g5 .non fun m => by cases m
      · cases hf
    · cases hf
end
end L2
set_option Elab.async false
set_option autoImplicit false
set_option linter.all false
set_option maxRecDepth 100000
set_option maxHeartbeats 1000001
namespace L2
open PyProof.Rows PySem PySem.Spec

open Classical in
noncomputable def gOwn (G : Hp) (sk : Option Nat) (env : Slots) (σ : L2.St) (H : Hp) : Hp := fun a => if ∃ (i : Nat) (t : TV), sk ≠ some i ∧ env[i]? = some (some t) ∧ t.mut = true ∧ σ[i]? = some (some (.ref a)) then H a else G a
section
variable {K : PySem.W.Frag} {G F H : Hp} {io : Option Addr} {env env' : Slots} {σ : L2.St} {sk : Option Nat}
theorem gOwn_of {i : Nat} {t : TV} {a : Addr} (h : sk ≠ some i) (e : env[i]? = some (some t)) (m : t.mut = true) (e2 : σ[i]? = some (some (.ref a))) : gOwn G sk env σ H a = H a := by
  unfold gOwn
  exact if_pos ⟨i, t, h, e, m, e2⟩
theorem gOwn_cases (a : Addr) : (∃ (i : Nat) (t : TV), sk ≠ some i ∧ env[i]? = some (some t) ∧ t.mut = true ∧ σ[i]? = some (some (.ref a)) ∧ gOwn G sk env σ H a = H a) ∨ gOwn G sk env σ H a = G a := by
  by_cases h : ∃ (i : Nat) (t : TV), sk ≠ some i ∧ env[i]? = some (some t) ∧ t.mut = true ∧ σ[i]? = some (some (.ref a))
  · obtain ⟨i, t, h1, h2, m, h3⟩ := h
    exact .inl ⟨i, t, h1, h2, m, h3, gOwn_of h1 h2 m h3⟩
  · right
    unfold gOwn
    exact if_neg h
theorem gOwn_sub (S : Sim K G io env σ F H) : Same (gOwn G sk env σ H) H := fun a o e => by
  rcases gOwn_cases (G := G) (sk := sk) (env := env) (σ := σ) (H := H) a with ⟨_, _, _, _, _, _, z⟩ | z
  · rw [z] at e
    exact e
  · rw [z] at e
    exact S.gh a o e
theorem gOwn_fg (S : Sim K G io env σ F H) (a : Addr) : F a = none ∨ gOwn G sk env σ H a = none := by
  rcases gOwn_cases (G := G) (sk := sk) (env := env) (σ := σ) (H := H) a with ⟨i, t, _, h2, m, h3, z⟩ | z
  · obtain ⟨v, e1, tv⟩ := S.sl i _ h2
    obtain ⟨b, u, rfl, _, g2, _⟩ := tv.mutI m
    rw [h3] at e1
    cases e1
    exact .inl g2
  · rw [z]
    exact S.fg a
theorem gOwn_up (S : Sim K G io env σ F H) : Same G (gOwn G sk env σ H) := fun a o e => by
  rcases gOwn_cases (G := G) (sk := sk) (env := env) (σ := σ) (H := H) a with ⟨_, _, _, _, _, _, z⟩ | z
  · rw [z]
    exact S.gh a o e
  · rw [z]
    exact e
theorem Sim.back {F' H' : Hp} (S : Sim K G io env σ F H) (s1 : Same F F') (s2 : Same F' H') (s3 : Same (gOwn G none env σ H) H') (s4 : ∀ a, F' a = none ∨ gOwn G none env σ H a = none) : Sim K G io env σ F' H' where
  len := S.len
  fh := s2
  gh := (gOwn_up S).trans s3
  fg := fun a => (s4 a).imp id fun z => (gOwn_up S).free z
  sl := fun i t e => by
    obtain ⟨v, e1, hv⟩ := S.sl i t e
    refine ⟨v, e1, ?_⟩
    rcases hv.split with ⟨y, rfl, hv⟩ | ⟨m, a, us, rfl, g1, g2, g3, g4⟩
    · exact Dq.to hv s1
    · have q : gOwn G none env σ H a = some us := by
        rw [gOwn_of (by intro z; cases z) e m e1]
        exact g1
      refine .mutE (s3 _ _ q) ?_ g3 (g4.to s1)
      rcases s4 a with z | z
      · exact z
      · rw [q] at z
        cases z
  sep := S.sep
  at0 := S.at0
  io0 := S.io0
theorem TVR.back {F' H' : Hp} {v : V} {r : TV} (S : Sim K G io env σ F H) (h : TVR K (gOwn G none env σ H) F' H' v r) : TVR K G F' H' v r ∧ Apart env σ v r := by
  rcases h.split with ⟨y, rfl, h⟩ | ⟨m, a, us, rfl, g1, g2, g3, g4⟩
  · exact ⟨h, Apart.d⟩
  · refine ⟨.mutE g1 g2 ((gOwn_up S).free g3) g4, fun _ i t e m2 e2 => ?_⟩
    rw [gOwn_of (by intro z; cases z) e m2 e2] at g3
    obtain ⟨v, e1, tv⟩ := S.sl i _ e
    obtain ⟨b, us', rfl, k1, _⟩ := tv.mutI m2
    rw [e2] at e1
    cases e1
    rw [g3] at k1
    cases k1
theorem Sim.backIo {F' H' : Hp} {i : Nat} {xs zs : List D} {a : Addr} {us' : List V} (S : Sim K G io env σ F H) (hi : env[i]? = some (some (.own xs))) (ha : σ[i]? = some (some (.ref a)))
    (s1 : Same F F') (s2 : Same F' H') (s3 : Same (gOwn G (some i) env σ H) H') (s4 : ∀ a, F' a = none ∨ gOwn G (some i) env σ H a = none) (e1 : H' a = some (.lst us')) (e2 : F' a = none) (e3 : DqAll K F' us' zs) : Sim K G io (env.set i (some (.own zs))) σ F' H' := by
  have hl : i < env.length := (List.getElem?_eq_some_iff.mp hi).1
  refine ⟨by rw [List.length_set]; exact S.len, s2, (gOwn_up S).trans s3, fun a => (s4 a).imp id fun z => (gOwn_up S).free z, fun j t e => ?_, fun j k t u b q1 q2 m1 m2 q3 q4 => ?_, S.at0, fun b e => ?_⟩
  · by_cases hj : i = j
    · subst hj
      rw [List.getElem?_set_self hl] at e
      cases e
      obtain ⟨v, f1, b, us, rfl, g1, g2, g3, g4⟩ := S.sl i _ hi
      rw [ha] at f1
      cases f1
      exact ⟨_, ha, a, us', rfl, e1, e2, g3, e3⟩
    · rw [List.getElem?_set_ne hj] at e
      obtain ⟨v, f1, hv⟩ := S.sl j t e
      refine ⟨v, f1, ?_⟩
      rcases hv.split with ⟨y, rfl, hv⟩ | ⟨m, b, us, rfl, g1, g2, g3, g4⟩
      · exact Dq.to hv s1
      · have q : gOwn G (some i) env σ H b = some us := by
          rw [gOwn_of (by intro z; cases z; exact hj rfl) e m f1]
          exact g1
        refine .mutE (s3 _ _ q) ?_ g3 (g4.to s1)
        rcases s4 b with z | z
        · exact z
        · rw [q] at z
          cases z
  · have own : ∀ (m : Nat) (ts : TV), (env.set i (some (.own zs)))[m]? = some (some ts) → ts.mut = true → ∃ ts' : TV, env[m]? = some (some ts') ∧ ts'.mut = true := fun m ts q mm => by
      by_cases hm : i = m
      · subst hm
        exact ⟨_, hi, rfl⟩
      · rw [List.getElem?_set_ne hm] at q
        exact ⟨ts, q, mm⟩
    obtain ⟨z1, w1, x1⟩ := own j t q1 m1
    obtain ⟨z2, w2, x2⟩ := own k u q2 m2
    exact S.sep j k z1 z2 b w1 w2 x1 x2 q3 q4
  · obtain ⟨ys, q⟩ := S.io0 b e
    by_cases h0 : i = 0
    · subst h0
      exact ⟨zs, List.getElem?_set_self hl⟩
    · rw [List.getElem?_set_ne h0]
      exact ⟨ys, q⟩
theorem TVR.backIo {F' H' : Hp} {v : V} {r : TV} {i : Nat} {xs zs : List D} {a : Addr} (S : Sim K G io env σ F H) (hi : env[i]? = some (some (.own xs))) (ha : σ[i]? = some (some (.ref a))) (h : TVR K (gOwn G (some i) env σ H) F' H' v r)
    (hn : r.mut = true → v ≠ .ref a) : TVR K G F' H' v r ∧ Apart (env.set i (some (.own zs))) σ v r := by
  rcases h.split with ⟨y, rfl, h⟩ | ⟨m, b, us, rfl, g1, g2, g3, g4⟩
  · exact ⟨h, Apart.d⟩
  · refine ⟨.mutE g1 g2 ((gOwn_up S).free g3) g4, fun _ j t e m2 e2 => ?_⟩
    by_cases hj : i = j
    · subst hj
      rw [ha] at e2
      cases e2
      exact hn m rfl
    · rw [List.getElem?_set_ne hj] at e
      rw [gOwn_of (by intro z; cases z; exact hj rfl) e m2 e2] at g3
      obtain ⟨v, e1, tv⟩ := S.sl j _ e
      obtain ⟨c, us', rfl, k1, _⟩ := tv.mutI m2
      rw [e2] at e1
      cases e1
      rw [g3] at k1
      cases k1
theorem Sim.guardM {a : Addr} {u : HO} {r : TV} (S : Sim K G io env σ F H) (h : H a = some u) (h2 : F a = none) (h3 : G a = none) (hm : r.mut = true) (ap : Apart env σ (.ref a) r) : Sim K (upd G a u) io env σ F H where
  len := S.len
  fh := S.fh
  gh := fun b o e => by
    by_cases hb : b = a
    · subst hb
      rw [upd_same] at e
      cases e
      exact h
    · rw [upd_ne hb] at e
      exact S.gh b o e
  fg := fun b => by
    by_cases hb : b = a
    · subst hb
      exact .inl h2
    · rw [upd_ne hb]
      exact S.fg b
  sl := fun i t e => by
    obtain ⟨v, e1, hv⟩ := S.sl i t e
    refine ⟨v, e1, ?_⟩
    rcases hv.split with ⟨y, rfl, hv⟩ | ⟨m, b, ws, rfl, g1, g2, g3, g4⟩
    · exact hv
    · have ne : b ≠ a := fun z => ap hm i t e m (by rw [e1, z])
      exact .mutE g1 g2 (by rw [upd_ne ne]; exact g3) g4
  sep := S.sep
  at0 := S.at0
  io0 := S.io0
theorem Sim.freeM {a : Addr} {u : HO} {r : TV} {F0 : Hp} (S : Sim K (upd G a u) io env σ F H) (h3 : G a = none) (hd : MuR K F0 a u r) (sm : Same F0 F) : Sim K G io env σ F H ∧ H a = some u ∧ F a = none ∧ MuR K F a u r ∧ Apart env σ (.ref a) r := by
  refine ⟨⟨S.len, S.fh, (same_upd h3).trans S.gh, fun b => (S.fg b).imp id fun z => (same_upd h3).free z, fun i t e => ?_, S.sep, S.at0, S.io0⟩, S.gh a _ upd_same, ?_, hd.to sm, fun _ i t e m e2 => ?_⟩
  · obtain ⟨v, e1, hv⟩ := S.sl i t e
    refine ⟨v, e1, ?_⟩
    rcases hv.split with ⟨y, rfl, hv⟩ | ⟨m, b, ws, rfl, g1, g2, g3, g4⟩
    · exact hv
    · exact .mutE g1 g2 ((same_upd h3).free g3) g4
  · rcases S.fg a with z | z
    · exact z
    · rw [upd_same] at z
      cases z
  · obtain ⟨v, e1, tv⟩ := S.sl i _ e
    obtain ⟨b, ws, rfl, g1, g2, g3, g4⟩ := tv.mutI m
    rw [e2] at e1
    cases e1
    rw [upd_same] at g3
    cases g3
theorem Sim.guard {a : Addr} {us : List V} {xs : List D} (S : Sim K G io env σ F H) (h : H a = some (.lst us)) (h2 : F a = none) (h3 : G a = none) (ap : Apart env σ (.ref a) (.own xs)) : Sim K (upd G a (.lst us)) io env σ F H := S.guardM h h2 h3 rfl ap
theorem Sim.free {a : Addr} {us : List V} {xs : List D} {F0 : Hp} (S : Sim K (upd G a (.lst us)) io env σ F H) (h3 : G a = none) (hd : DqAll K F0 us xs) (sm : Same F0 F) : Sim K G io env σ F H ∧ H a = some (.lst us) ∧ F a = none ∧ DqAll K F us xs ∧ Apart env σ (.ref a) (.own xs) := by
  obtain ⟨S1, h1, h2, h4, h5⟩ := Sim.freeM (r := .own xs) S h3 ⟨us, rfl, hd⟩ sm
  obtain ⟨vs, e, q⟩ := h4
  cases e
  exact ⟨S1, h1, h2, q, h5⟩
theorem Sim.hold {v : V} {r : TV} (S : Sim K G io env σ F H) (t : TVR K G F H v r) (ap : Apart env σ v r) : ∃ G' : Hp, Sim K G' io env σ F H ∧ ∀ (env2 : Slots) (F2 H2 : Hp), Same F F2 → Sim K G' io env2 σ F2 H2 →
    Sim K G io env2 σ F2 H2 ∧ TVR K G F2 H2 v r ∧ Apart env2 σ v r ∧ ∀ (w : V) (q : TV), TVR K G' F2 H2 w q → TVR K G F2 H2 w q ∧ (r.mut = true → q.mut = true → w ≠ v) := by
  rcases t.split with ⟨x, rfl, t⟩ | ⟨hm, c, u, rfl, g1, g2, g3, g4⟩
  · exact ⟨G, S, fun env2 F2 H2 sm S2 => ⟨S2, Dq.to t sm, Apart.d, fun w q hw => ⟨hw, fun z => by cases z⟩⟩⟩
  · refine ⟨upd G c u, S.guardM g1 g2 g3 hm ap, fun env2 F2 H2 sm S2 => ?_⟩
    obtain ⟨S3, q1, q2, q3, q4⟩ := Sim.freeM S2 g3 g4 sm
    refine ⟨S3, .mutE q1 q2 g3 q3, q4, fun w q hw => ?_⟩
    rcases hw.split with ⟨y, rfl, hw⟩ | ⟨m2, c2, ws, rfl, k1, k2, k3, k4⟩
    · exact ⟨hw, fun _ z => by cases z⟩
    · have ne : c2 ≠ c := fun z => by
        rw [z, upd_same] at k3
        cases k3
      rw [upd_ne ne] at k3
      exact ⟨.mutE k1 k2 k3 k4, fun _ _ z => ne (by cases z; rfl)⟩
end

def dCall (f : FD) (pm : Option (List Nat)) (ds : List DE) : DE := fun e => match evx ds e with
  | some (xs, e1) => match f none (match pm with | none => xs | some p => prm p xs) with
    | some (r, _) => some (r, e1)
    | none => none
  | none => none
def dCallI (f : FD) (i : Nat) (ds : List DE) : DE := fun e => match e[i]? with
  | some (some (.own _)) => match evx ds e with
    | some (xs, e1) => match e1[i]? with
      | some (some (.own ys)) => match f (some ys) xs with
        | some (r, zs) => some (r, e1.set i (some (.own zs)))
        | none => none
      | _ => none
    | none => none
  | _ => none
def dCallN (f : FD) (d0 : DE) (ds : List DE) : DE := fun e => match d0 e with
  | some (.own ys, e1) => match evx ds e1 with
    | some (xs, e2) => match f (some ys) xs with
      | some (r, _) => some (r, e2)
      | none => none
    | none => none
  | _ => none
section
variable {X : Cx} {b : Bool} {e : Expr} {f : FD} {np : Nat} {pm : List Nat} {ds : List DE} {d0 : DE} {i : Nat}
theorem dpPrm {K : PySem.W.Frag} {F : Hp} : ∀ {pm : List Nat} {vs : List V} {xs : List D}, DqAll K F vs xs → DqAll K F (prm pm vs) (prm pm xs)
  | [], _, _, _ => .nil
  | j :: pm, vs, xs, h => by
    have ih := dpPrm (pm := pm) h
    unfold prm at ih ⊢
    cases q : xs[j]? with
    | none =>
      have q2 : vs[j]? = none := by
        rw [List.getElem?_eq_none_iff] at q ⊢
        rw [DqAll.len h]
        exact q
      rw [List.filterMap_cons_none q, List.filterMap_cons_none q2]
      exact ih
    | some x =>
      obtain ⟨v, hv, r⟩ := DqAll.get h q
      rw [List.filterMap_cons_some q, List.filterMap_cons_some hv]
      exact .cons r ih
theorem spF_at {G F H : Hp} {io : Option Addr} {env : Slots} {σ : L2.St} {vs : List V} {xs : List D} {r : TV} {zs : List D} {Q : VK} (K : PySem.W.Frag) (hl : vs.length = np) (h : f none xs = some (r, zs)) (S : Sim K G io env σ F H) (hs : DqAll K F vs xs)
    (k : ∀ (v : V) (F' H' : Hp), Same F F' → Sim K G io env σ F' H' → TVR K G F' H' v r → Apart env σ v r → Q v H') : spF K false np f vs H Q E0 := by
  refine ⟨hl, gOwn G none env σ H, F, xs, r, zs, h, S.fh, gOwn_sub S, gOwn_fg S, hs, fun v F' H' s1 s2 s3 s4 hv _ => ?_⟩
  obtain ⟨h1, h2⟩ := TVR.back S hv
  exact k v F' H' s1 (S.back s1 s2 s3 s4) h1 h2
theorem evx_len : ∀ {ds : List DE} {e e1 : Slots} {xs : List D}, evx ds e = some (xs, e1) → ds.length = xs.length := by
  intro ds
  induction ds with
  | nil =>
    intro e e1 xs h
    simp only [evx, Option.some.injEq, Prod.mk.injEq] at h
    rw [← h.1]
    rfl
  | cons d ds ih =>
    intro e e1 xs h
    simp only [evx] at h
    split at h
    · split at h
      · rename_i h5
        simp only [Option.some.injEq, Prod.mk.injEq] at h
        rw [← h.1, List.length_cons, List.length_cons, ih h5]
      · cases h
    · cases h
theorem pe_dcall (h : PE X e (tCall (spF X.K false np f) [] E0 (tXs X.K b ds))) (hn : ds.length = np) : PE X e (tE X.K b (dCall f none ds)) := h.of fun σ H Q ⟨G, io, F, env, r, env', hb, h1, S, k⟩ => by
  unfold dCall at h1
  split at h1
  · rename_i xs e1 h2
    split at h1
    · rename_i r' zs h3
      simp only [Option.some.injEq, Prod.mk.injEq] at h1
      obtain ⟨rfl, rfl⟩ := h1
      refine tXs_at hb h2 S fun vs F' H' sm S' hs => ?_
      rw [List.append_nil]
      refine spF_at X.K ?_ h3 S' hs fun v F2 H2 sm2 S2 hv ap => k v F2 H2 (sm.trans sm2) S2 hv ap
      rw [DqAll.len hs, ← evx_len h2]
      exact hn
    · cases h1
  · cases h1
theorem evx_app : ∀ {d1 d2 : List DE} {e : Slots} {xs : List D} {e2 : Slots}, evx (d1 ++ d2) e = some (xs, e2) → ∃ ys zs e1, evx d1 e = some (ys, e1) ∧ evx d2 e1 = some (zs, e2) ∧ xs = ys ++ zs := by
  intro d1
  induction d1 with
  | nil => intro d2 e xs e2 h; exact ⟨[], xs, e, rfl, h, rfl⟩
  | cons d d1 ih =>
    intro d2 e xs e2 h
    simp only [List.cons_append, evx] at h
    split at h
    · rename_i x e3 h3
      split at h
      · rename_i ys e4 h4
        simp only [Option.some.injEq, Prod.mk.injEq] at h
        obtain ⟨rfl, rfl⟩ := h
        obtain ⟨as, zs, e1, q1, q2, rfl⟩ := ih h4
        exact ⟨x :: as, zs, e1, by simp only [evx, h3, q1], q2, rfl⟩
      · cases h
    · cases h
theorem pe_dcallK {d1 d2 : List DE} {n m : Nat} (h : PE X e (tCallP (spF X.K false np f) n m pm (tXs X.K b d1) (tXs X.K b d2))) (h1' : d1.length = n) (h2' : d2.length = m) (hp : pm.all (· < n + m) = true) (hn : pm.length = np) :
    PE X e (tE X.K b (dCall f (some pm) (d1 ++ d2))) := h.of fun σ H Q ⟨G, io, F, env, r, env', hb, h1, S, k⟩ => by
  unfold dCall at h1
  split at h1
  · rename_i xs e1 h2
    split at h1
    · rename_i r' zs h3
      simp only [Option.some.injEq, Prod.mk.injEq] at h1
      obtain ⟨rfl, rfl⟩ := h1
      obtain ⟨ys, ws, e2, q1, q2, rfl⟩ := evx_app h2
      refine tXs_at hb q1 S fun vs F1 H1 sm1 S1 hs1 => ?_
      refine tXs_at hb q2 S1 fun us F2 H2 sm2 S2 hs2 => ?_
      have l1 : vs.length = n := by rw [DqAll.len hs1, ← evx_len q1, h1']
      have l2 : us.length = m := by rw [DqAll.len hs2, ← evx_len q2, h2']
      refine ⟨l1, l2, spF_at X.K ?_ h3 S2 (dpPrm (DqAll.app (DqAll.to hs1 sm2) hs2)) fun v F3 H3 sm3 S3 hv ap => k v F3 H3 ((sm1.trans sm2).trans sm3) S3 hv ap⟩
      have key : ∀ (p : List Nat), p.all (· < n + m) = true → (prm p (vs ++ us)).length = p.length := by
        intro p
        induction p with
        | nil => intro _; rfl
        | cons j p ih =>
          intro hj
          simp only [List.all_cons, Bool.and_eq_true, decide_eq_true_eq] at hj
          have hlt : j < (vs ++ us).length := by rw [List.length_append, l1, l2]; exact hj.1
          unfold prm at ih ⊢
          rw [List.filterMap_cons_some (List.getElem?_eq_getElem hlt), List.length_cons, List.length_cons, ih hj.2]
      rw [key pm hp]
      exact hn
    · cases h1
  · cases h1
theorem pe_dcallI (h : PE X e (tCall (spF X.K true np f) [] E0 (tCons (tVar i) (tXs X.K b ds)))) (hn : ds.length + 1 = np) : PE X e (tE X.K b (dCallI f i ds)) := h.of fun σ H Q ⟨G, io, F, env, r, env', hb, h1, S, k⟩ => by
  unfold dCallI at h1
  split at h1
  · rename_i xs0 h0
    split at h1
    · rename_i xs e1 h2
      split at h1
      · rename_i ys h3
        split at h1
        · rename_i r' zs h4
          simp only [Option.some.injEq, Prod.mk.injEq] at h1
          obtain ⟨rfl, rfl⟩ := h1
          obtain ⟨v0, e0, a, us0, rfl, _⟩ := S.sl i _ h0
          refine ⟨_, e0, tXs_at hb h2 S fun vs F' H' sm S' hs => ?_⟩
          dsimp only
          rw [List.append_nil]
          obtain ⟨v1, e2, a1, us, rfl, g1, g2, g3, g4⟩ := S'.sl i _ h3
          rw [e0] at e2
          cases e2
          have ng : gOwn G (some i) e1 σ H' a = none := by
            rcases gOwn_cases (G := G) (sk := some i) (env := e1) (σ := σ) (H := H') a with ⟨j, ts, q1, q2, m2, q3, _⟩ | z
            · exact absurd (congrArg some (S'.sep i j _ ts a h3 q2 rfl m2 e0 q3)) q1
            · rw [z]
              exact g3
          refine ⟨by rw [List.length_cons, DqAll.len hs, ← evx_len h2]; exact hn, gOwn G (some i) e1 σ H', F', a, us, vs, ys, xs, r', zs, rfl, h4, S'.fh, gOwn_sub S', gOwn_fg S', hs, g1, g2, ng, g4, ?_⟩
          intro v F2 H2 us' s1 s2 s3 s4 k1 k2 k3 hv hn
          obtain ⟨q1, q2⟩ := TVR.backIo (zs := zs) S' h3 e0 hv hn
          exact k v F2 H2 (sm.trans s1) (S'.backIo h3 e0 s1 s2 s3 s4 k1 k2 k3) q1 q2
        · cases h1
      · cases h1
    · cases h1
  · cases h1
theorem pe_dcallN (h : PE X e (tCall (spF X.K true np f) [] E0 (tCons (tE X.K b d0) (tXs X.K b ds)))) (hn : ds.length + 1 = np) : PE X e (tE X.K b (dCallN f d0 ds)) := h.of fun σ H Q ⟨G, io, F, env, r, env', hb, h1, S, k⟩ => by
  unfold dCallN at h1
  split at h1
  · rename_i ys e1 h2
    split at h1
    · rename_i xs e2 h3
      split at h1
      · rename_i r' zs h4
        simp only [Option.some.injEq, Prod.mk.injEq] at h1
        obtain ⟨rfl, rfl⟩ := h1
        refine tE_at hb h2 S fun v0 F1 H1 sm S1 hv0 ap => ?_
        obtain ⟨a, us, rfl, g1, g2, g3, g4⟩ := hv0
        refine tXs_at hb h3 (S1.guard g1 g2 g3 ap) fun vs F2 H2 sm2 S2 hs => ?_
        dsimp only
        rw [List.append_nil]
        obtain ⟨S3, k1, k2, k3, ap3⟩ := Sim.free S2 g3 g4 sm2
        have ng : gOwn G none e2 σ H2 a = none := by
          rcases gOwn_cases (G := G) (sk := none) (env := e2) (σ := σ) (H := H2) a with ⟨j, ts, q1, q2, m2, q3, _⟩ | z
          · exact absurd q3 (ap3 rfl j ts q2 m2)
          · rw [z]
            exact g3
        refine ⟨by rw [List.length_cons, DqAll.len hs, ← evx_len h3]; exact hn, gOwn G none e2 σ H2, F2, a, us, vs, ys, xs, r', zs, rfl, h4, S3.fh, gOwn_sub S3, gOwn_fg S3, hs, k1, k2, ng, k3, ?_⟩
        intro v F4 H4 us' s1 s2 s3 s4 _ _ _ hv _
        obtain ⟨q1, q2⟩ := TVR.back S3 hv
        exact k v F4 H4 ((sm.trans sm2).trans s1) (S3.back s1 s2 s3 s4) q1 q2
      · cases h1
    · cases h1
  · cases h1
end
end L2
set_option Elab.async false
set_option autoImplicit false
set_option linter.all false
set_option maxRecDepth 100000
set_option maxHeartbeats 1000001
namespace L2
open PyProof.Rows PySem PySem.Spec

def wipeS (e : Slots) : List Nat → Slots
  | [] => e
  | v :: vs => (wipeS e vs).set v none
def undo (e0 e : Slots) : List Nat → Option Slots
  | [] => some e
  | v :: vs => match undo e0 e vs with
    | some e1 => match e0[v]? with
      | some (some (.own _)) => none
      | some (some (.dc _)) => none
      | some t => some (e1.set v t)
      | none => none
    | none => none
def dYes : DE := dC (.bool true)
def lcGo (g : DG) (c t : DE) (vs : List Nat) : List D → Slots → Option (List D × Slots)
  | [], e => some ([], e)
  | x :: xs, e => match g x e with
    | some e1 => match asB (c e1) with
      | some (true, e2) => match t e2 with
        | some (.d y, e3) => match lcGo g c t vs xs (wipeS e3 vs) with
          | some (ys, e4) => some (y :: ys, e4)
          | none => none
        | _ => none
      | some (false, e2) => lcGo g c t vs xs (wipeS e2 vs)
      | none => none
    | none => none
def dLc (s : DI) (g : DG) (vs : List Nat) (c t : DE) : DE := fun e => match s e with
  | some (xs, e1) => match lcGo g c t vs xs (wipeS e1 vs) with
    | some (ys, e2) => if ys.length ≤ sizeLine then (match undo e1 e2 vs with
      | some e3 => some (.own ys, e3)
      | none => none) else none
    | none => none
  | none => none
section
variable {K : PySem.W.Frag} {G F H : Hp} {io : Option Addr} {env env' : Slots} {σ : L2.St} {b : Bool}
theorem wipeS_len (e : Slots) : ∀ vs : List Nat, (wipeS e vs).length = e.length
  | [] => rfl
  | v :: vs => by unfold wipeS; rw [List.length_set, wipeS_len e vs]
theorem wipeS_some {e : Slots} {i : Nat} {t : TV} : ∀ {vs : List Nat}, (wipeS e vs)[i]? = some (some t) → e[i]? = some (some t) ∧ i ∉ vs
  | [], h => ⟨h, by simp⟩
  | v :: vs, h => by
    unfold wipeS at h
    by_cases hi : v = i
    · subst hi
      rw [List.getElem?_set] at h
      simp at h
    · rw
          [List.getElem?_set_ne hi] at h
      obtain ⟨h1, h2⟩ := wipeS_some h
      exact
            ⟨h1, by simp only [List.mem_cons, not_or]; exact ⟨fun e => hi e.symm, h2⟩⟩
theorem wipe_out2 {σ : L2.St} {i : Nat} : ∀ {vs : List Nat}, i ∉ vs → (wipe σ vs)[i]? = σ[i]?
  | [], _ => rfl
  | v :: vs, h => by
    unfold wipe
    have ne : v ≠ i := fun e => h (by rw [e]; exact List.mem_cons_self)
    rw [List.getElem?_set_ne ne]
    exact wipe_out2 fun e => h (List.mem_cons_of_mem _ e)
theorem wipe_wipe {σ : L2.St} : ∀ {vs ws : List Nat}, (∀ i ∈ vs, i ∈ ws) → wipe (wipe σ vs) ws = wipe σ ws
  | [], _, _ => rfl
  | v :: vs, ws, h => by
    show wipe ((wipe σ vs).set v none) ws = wipe σ ws
    rw [wipe_set (h v List.mem_cons_self), wipe_wipe fun i hi => h i (List.mem_cons_of_mem _ hi)]
theorem Sim.wiped {vs : List Nat} (S : Sim K G io env σ F H) (h0 : 0 ∉ vs ∨ io = none) : Sim K G io (wipeS env vs) (wipe σ vs) F H where
  len := by rw [wipeS_len, wipe_length]; exact S.len
  fh := S.fh
  gh := S.gh
  fg := S.fg
  sl := fun i t e => by
    obtain ⟨e1, hi⟩ := wipeS_some e
    rw [wipe_out2 hi]
    exact S.sl i t e1
  sep := fun i j t u a e1 e2 m1 m2 e3 e4 => by
    obtain ⟨f1, hi⟩ := wipeS_some e1
    obtain ⟨f2, hj⟩ := wipeS_some e2
    rw [wipe_out2 hi] at e3
    rw [wipe_out2 hj] at e4
    exact S.sep i j t u a f1 f2 m1 m2 e3 e4
  at0 := fun a e => by
    rcases h0 with z | z
    · rw [wipe_out2 z]
      exact S.at0 a e
    · rw [z] at e
      cases e
  io0 := fun a e => by
    rcases h0 with z | z
    · obtain ⟨xs, q⟩ := S.io0 a e
      refine ⟨xs, ?_⟩
      have key : ∀ us : List Nat, 0 ∉ us → (wipeS env us)[0]? = env[0]? := by
        intro us
        induction us with
        | nil => intro _; rfl
        | cons u us ih =>
          intro hu
          show ((wipeS env us).set u none)[0]? = env[0]?
          have ne : u ≠ 0 := fun e => hu (by rw [e]; exact List.mem_cons_self)
          rw [List.getElem?_set_ne ne, ih fun e => hu (List.mem_cons_of_mem _ e)]
      rw [key vs z]
      exact q
    · rw [z] at e
      cases e
theorem undo_get {e0 e : Slots} : ∀ {vs : List Nat} {e3 : Slots}, undo e0 e vs = some e3 → e3.length = e.length ∧ ∀ (i : Nat) (t : TV), e3[i]? = some (some t) → (i ∉ vs ∧ e[i]? = some (some t)) ∨ (i ∈ vs ∧ e0[i]? = some (some t) ∧ t.mut = false)
  | [], e3, h => by
    simp only [undo, Option.some.injEq] at h
    subst h
    exact ⟨rfl, fun i t q => .inl ⟨by simp, q⟩⟩
  | v :: vs, e3, h => by
    simp only [undo] at h
    split at h
    · rename_i e1 h1
      obtain ⟨l1, g1⟩ := undo_get h1
      split at h
      · cases h
      · cases h
      · rename_i t0 hn hn2 ht
        cases h
        refine ⟨by rw [List.length_set]; exact l1, fun i t q => ?_⟩
        by_cases hi : v = i
        · subst hi
          rw [List.getElem?_set] at q
          simp only [if_true] at q
          split at q
          · simp only [Option.some.injEq] at q
            subst q
            refine .inr ⟨List.mem_cons_self, ht, ?_⟩
            cases t with
            | d x => rfl
            | own ys => exact absurd rfl (hn ys)
            | dc ps => exact absurd rfl (hn2 ps)
          · cases q
        · rw [List.getElem?_set_ne hi] at q
          rcases g1 i t q with ⟨q1, q2⟩ | ⟨q1, q2, q3⟩
          · exact .inl ⟨by simp only [List.mem_cons, not_or]; exact ⟨fun e => hi e.symm, q1⟩, q2⟩
          · exact .inr ⟨List.mem_cons_of_mem _ q1, q2, q3⟩
      · cases h
    · cases h
theorem Sim.undone {vs : List Nat} {e0 e e3 : Slots} {F0 H0 : Hp} (S0 : Sim K G io e0 σ F0 H0) (S : Sim K G io e (wipe σ vs) F H) (sm : Same F0 F) (h : undo e0 e vs = some e3) (h0 : 0 ∉ vs ∨ io = none) : Sim K G io e3 σ F H := by
  obtain ⟨l, g⟩ := undo_get h
  refine ⟨by rw [l, S.len, wipe_length], S.fh, S.gh, S.fg, fun i t q => ?_, fun i j t u a q1 q2 m1 m2 q3 q4 => ?_, S0.at0, fun a q => ?_⟩
  · rcases g i t q with ⟨h1, h2⟩ | ⟨h1, h2, h3⟩
    · obtain ⟨v, e1, hv⟩ := S.sl i t h2
      rw [wipe_out2 h1] at e1
      exact ⟨v, e1, hv⟩
    · obtain ⟨v, e1, hv⟩ := S0.sl i t h2
      refine ⟨v, e1, ?_⟩
      rcases hv.split with ⟨x, rfl, hv⟩ | ⟨m, _⟩
      · exact Dq.to hv sm
      · rw [h3] at m
        cases m
  · have key : ∀ (m : Nat) (ts : TV), e3[m]? = some (some ts) → ts.mut = true → m ∉ vs ∧ e[m]? = some (some ts) := fun m ts q mm => by
      rcases g m _ q with z | ⟨_, _, z⟩
      · exact z
      · rw [z] at mm
        cases mm
    obtain ⟨n1, w1⟩ := key i t q1 m1
    obtain ⟨n2, w2⟩ := key j u q2 m2
    exact S.sep i j t u a w1 w2 m1 m2 (by rw [wipe_out2 n1]; exact q3) (by rw [wipe_out2 n2]; exact q4)
  · rcases h0 with z | z
    · obtain ⟨xs, w⟩ := S.io0 a q
      have key : ∀ (us : List Nat) (u3 : Slots), 0 ∉ us → undo e0 e us = some u3 → u3[0]? = e[0]? := by
        intro us
        induction us with
        | nil =>
          intro u3 _ hu
          simp only [undo, Option.some.injEq] at hu
          rw [hu]
        | cons u us ih =>
          intro u3 hn hu
          simp only [undo] at hu
          split at hu
          · rename_i e1 h1
            split at hu
            · cases hu
            · cases hu
            · cases hu
              have ne : u ≠ 0 := fun e => hn (by rw [e]; exact List.mem_cons_self)
              rw [List.getElem?_set_ne ne]
              exact ih e1 (fun e => hn (List.mem_cons_of_mem _ e)) h1
            · cases hu
          · cases hu
      exact ⟨xs, by rw [key vs e3 z h]; exact w⟩
    · rw [z] at q
      cases q
theorem lc_at {W : Hp → V → D → Prop} {s : DI} {g : DG} {vs ws : List Nat} {c t : DE} {Q : VK} (hw : ∀ i ∈ ws, i ∈ vs) (hv : 0 ∉ vs ∨ b = false) (h : tE K b (dLc s g vs c t) σ H Q) : tLc (iD K b W s) (tG K b W g ws) (tT K b c) (tE K b t) vs σ H Q := by
  obtain ⟨G, io, F, env, r, env', hb, h1, S, k⟩ := h
  unfold dLc at h1
  split at h1
  · rename_i xs e1 h2
    split at h1
    · rename_i ys e2 h3
      split at h1
      · rename_i hz
        split at h1
        · rename_i e3 h4
          simp only [Option.some.injEq, Prod.mk.injEq] at h1
          obtain ⟨rfl, rfl⟩ := h1
          refine ⟨G, io, F, env, xs, e1, hb, h2, S, fun J F0 H0 sm0 S0 st ad hD => ?_⟩
          have h0 : 0 ∉ vs ∨ io = none := hv.imp id fun z => hb z
          have S1 := (S0.ext (Ext.lay (o := .lst []) S0.fh hD)).wiped (vs := vs) h0
          refine ⟨fun i m H1 => ∃ (F1 : Hp) (e : Slots) (acc : List V) (as rest : List D), Same F0 F1 ∧ Sim K G io e (wipe σ vs) F1 H1 ∧ H1 ad = some (.lst acc) ∧ F1 ad = none ∧ G ad = none ∧ Apart e (wipe σ vs) (.ref ad) (.own as) ∧ DqAll K F1 acc as ∧
            lcGo g c t vs (xs.drop i) e = some (rest, e2) ∧ as ++ rest = ys ∧ m = xs.length - i ∧ i ≤ xs.length,
            ⟨xs.length, F0, wipeS e1 vs, [], [], ys, Same.refl F0, S1, upd_same, none_sub S0.fh hD, none_sub S0.gh hD, ?_, .nil, h3, rfl, by simp, Nat.zero_le _⟩, ?_⟩
          · intro _ i tt q1 mm q2
            obtain ⟨v, f1, tv1⟩ := S1.sl i _ q1
            obtain ⟨a, ws', rfl, f2, _⟩ := tv1.mutI mm
            rw [q2] at f1
            cases f1
            obtain ⟨q3, n3⟩ := wipeS_some q1
            rw [wipe_out2 n3] at q2
            obtain ⟨v, f3, tv2⟩ := S0.sl i _ q3
            obtain ⟨a', us', e', f4, _⟩ := tv2.mutI mm
            rw [q2] at f3
            cases f3
            cases e'
            rw [hD] at f4
            cases f4
          · rintro i m H1 ⟨F1, e, acc, as, rest, sm, S2, k1, k2, k3, ap, k4, h5, h6, rfl, hi⟩
            by_cases hlt : i < xs.length
            · obtain ⟨x, hx, hd⟩ := drop_some hlt
              rw [hd] at h5
              simp only [lcGo] at h5
              refine .inr ⟨st.go i x F1 H1 hx sm S2.fh, fun H4 => ∃ (F1 : Hp) (e : Slots) (acc : List V) (as rest : List D), Same F0 F1 ∧ Sim K G io e (wipe σ vs) F1 H4 ∧ H4 ad = some (.lst acc) ∧ F1 ad = none ∧ G ad = none ∧ Apart e (wipe σ vs) (.ref ad) (.own as) ∧ DqAll K F1 acc as ∧
                lcGo g c t vs (xs.drop (i + 1)) e = some (rest, e2) ∧ as ++ rest = ys, ?_, ?_⟩
              · rintro H4 ⟨F4, e4, acc4, as4, rest4, a1, a2, a3, a4, a5, a6, a7, a8, a9⟩
                exact ⟨xs.length - (i + 1), by omega, F4, e4, acc4, as4, rest4, a1, a2, a3, a4, a5, a6, a7, a8, a9, rfl, hlt⟩
              · intro v H2 hy
                obtain ⟨F2, x2, hv2⟩ := st.yld i x F1 H1 v H2 hx sm S2.fh hy
                have S3 := (S2.guard k1 k2 k3 ap).ext x2
                split at h5
                · rename_i e5 h7
                  refine ⟨upd G ad (.lst acc), io, F2, e, x, e5, hb, h7, S3, hv2, fun σ6 F6 H6 sm6 S6 wp => ?_⟩
                  have wp' : wipe σ6 vs = wipe σ vs := by
                    rw [wp vs hw, wipe_wipe fun i hi => hi]
                  have turn : ∀ {e7 : Slots} {F7 H7 : Hp}, Same F6 F7 → Sim K (upd G ad (.lst acc)) io e7 σ6 F7 H7 → Sim K (upd G ad (.lst acc)) io (wipeS e7 vs) (wipe σ vs) F7 H7 := fun sm7 S7 => by
                    rw [← wp']
                    exact S7.wiped h0
                  have dp7 : ∀ {F7 : Hp}, Same F6 F7 → DqAll K F7 acc as := fun sm7 => DqAll.to k4 ((x2.ff.trans sm6).trans sm7)
                  refine ⟨wp', ?_⟩
                  split at h5
                  · rename_i e7 h8
                    split at h5
                    · rename_i y e8 h9
                      split at h5
                      · rename_i ys' e9 h10
                        simp only [Option.some.injEq, Prod.mk.injEq] at h5
                        obtain ⟨rfl, rfl⟩ := h5
                        refine ⟨upd G ad (.lst acc), io, F6, e5, true, e7, hb, h8, S6, fun F7 H7 sm7 S7 => ?_⟩
                        dsimp only
                        rw [if_pos rfl]
                        refine tE_at hb h9 S7 fun v8 F8 H8 sm8 S8 hv8 _ => ?_
                        have S9 := turn (sm7.trans sm8) S8
                        obtain ⟨S10, j1, j2, j3, j4⟩ := Sim.free S9 k3 (dp7 (sm7.trans sm8)) (Same.refl F8)
                        have hl : acc.length < sizeLine := by
                          have q1 := DqAll.len j3
                          have q2 : ys.length = as.length + (ys'.length + 1) := by rw [← h6, List.length_append, List.length_cons]
                          omega
                        refine ⟨acc, j1, hl, ?_⟩
                        -- the item is put to the list
                        have fh' : Same F8 (upd H8 ad (.lst (acc ++ [v8]))) := fun a o q => by
                          rw [upd_ne (ne_of_none q j2)]
                          exact S10.fh a o q
                        refine ⟨F8, wipeS e8 vs, acc ++ [v8], as ++ [y], ys', ((sm.trans x2.ff).trans sm6).trans (sm7.trans sm8), ⟨S10.len, fh', fun a o q => ?_, S10.fg, fun l u q => ?_, S10.sep, S10.at0, S10.io0⟩, upd_same, j2, k3, fun _ l us q1 mm q2 => j4 rfl l us q1 mm q2, DqAll.app j3 (.one hv8), h10, ?_⟩
                        · rw [upd_ne (ne_of_none q k3)]
                          exact S10.gh a o q
                        · obtain ⟨w, f1, f2⟩ := S10.sl l u q
                          refine ⟨w, f1, ?_⟩
                          rcases f2.split with ⟨z, rfl, f2⟩ | ⟨mm, a, us, rfl, g1, g2, g3, g4⟩
                          · exact f2
                          · have ne : a ≠ ad := fun z => j4 rfl l u q mm (by rw [f1, z])
                            exact .mutE (by rw [upd_ne ne]; exact g1) g2 g3 g4
                        · rw [← h6, List.append_assoc]
                          rfl
                      · cases h5
                    · cases h5
                  · rename_i e7 h8
                    refine ⟨upd G ad (.lst acc), io, F6, e5, false, e7, hb, h8, S6, fun F7 H7 sm7 S7 => ?_⟩
                    dsimp only
                    rw
                          [if_neg Bool.false_ne_true]
                    have S9 := turn sm7 S7
                    obtain ⟨S10, j1, j2, j3, j4⟩ := Sim.free S9 k3 (dp7 sm7) (Same.refl F7)
                    exact ⟨F7, wipeS e7 vs, acc, as, rest, ((sm.trans x2.ff).trans sm6).trans sm7, S10, j1, j2, k3, j4, j3, h5, h6⟩
                  · cases h5
                · cases h5
            · have e' : i = xs.length := by omega
              subst e'
              rw [List.drop_length] at h5
              simp only [lcGo, Option.some.injEq, Prod.mk.injEq] at h5
              obtain ⟨rfl, rfl⟩ := h5
              rw [List.append_nil] at h6
              subst h6
              refine .inl ⟨st.stop _ F1 H1 rfl sm S2.fh, ?_⟩
              have S4 := Sim.undone S0 S2 sm h4 h0
              refine k (.ref ad) F1 H1 (sm0.trans sm) S4 ⟨ad, acc, rfl, k1, k2, k3, k4⟩ fun _ l us q1 mm q2 => ?_
              rcases (undo_get h4).2 l _ q1 with ⟨n1, n2⟩ | ⟨_, _, n3⟩
              · exact ap rfl l us n2 mm (by rw [wipe_out2 n1]; exact q2)
              · rw [n3] at mm
                cases mm
        · cases h1
      · cases h1
    · cases h1
  · cases h1
end
end L2
set_option Elab.async false
set_option autoImplicit false
set_option linter.all false
set_option maxRecDepth 100000
set_option maxHeartbeats 1000001
namespace L2
open PyProof.Rows PySem PySem.Spec
section
variable {K : PySem.W.Frag} {G F H : Hp} {io : Option Addr} {env env' : Slots} {σ : L2.St} {b : Bool}
theorem Sim.push {ad : Addr} {us : List V} {as : List D} (S : Sim K G io env σ F H) (j2 : F ad = none) (k3 : G ad = none) (j4 : Apart env σ (.ref ad) (.own as)) : Sim K G io env σ F (upd H ad (.lst us)) := by
  refine ⟨S.len, fun a o q => ?_, fun a o q => ?_, S.fg, fun l u q => ?_, S.sep, S.at0, S.io0⟩
  · rw [upd_ne (ne_of_none q j2)]
    exact S.fh a o q
  · rw [upd_ne (ne_of_none q k3)]
    exact S.gh a o q
  · obtain ⟨w, f1, f2⟩ := S.sl l u q
    refine ⟨w, f1, ?_⟩
    rcases f2.split with ⟨z, rfl, f2⟩ | ⟨mm, a, us, rfl, g1, g2, g3, g4⟩
    · exact f2
    · have ne : a ≠ ad := fun z => j4 rfl l u q mm (by rw [f1, z])
      exact .mutE (by rw [upd_ne ne]; exact g1) g2 g3 g4
structure Blk (K : PySem.W.Frag) (G : Hp) (io : Option Addr) (ad : Addr) (F0 : Hp) (σ : L2.St) (e : Slots) (as : List D) (F H : Hp) (acc : List V) : Prop where
  sm : Same F0 F
  S : Sim K G io e σ F H
  at_ : H ad = some (.lst acc)
  nf : F ad = none
  ng : G ad = none
  ap : Apart e σ (.ref ad) (.own as)
  dp : DqAll K F acc as
theorem Blk.guard {ad : Addr} {F0 : Hp} {e : Slots} {as : List D} {acc : List V} (B : Blk K G io ad F0 σ e as F H acc) : Sim K (upd G ad (.lst acc)) io e σ F H := B.S.guard B.at_ B.nf B.ng B.ap
theorem Blk.of {ad : Addr} {F0 F1 H1 : Hp} {e e1 : Slots} {σ1 : L2.St} {as : List D} {acc : List V} (B : Blk K G io ad F0 σ e as F H acc) (sm : Same F F1) (S : Sim K (upd G ad (.lst acc)) io e1 σ1 F1 H1) : Blk K G io ad F0 σ1 e1 as F1 H1 acc := by
  obtain ⟨S10, j1, j2, j3, j4⟩ := Sim.free S B.ng (DqAll.to B.dp sm) (Same.refl F1)
  exact ⟨B.sm.trans sm, S10, j1, j2, B.ng, j4, j3⟩
theorem Blk.put {ad : Addr} {F0 : Hp} {e : Slots} {as : List D} {acc : List V} {v : V} {y : D} (B : Blk K G io ad F0 σ e as F H acc) (h : Dq K F v y) : Blk K G io ad F0 σ e (as ++ [y]) F (upd H ad (.lst (acc ++ [v]))) (acc ++ [v]) :=
  ⟨B.sm, B.S.push B.nf B.ng B.ap, upd_same, B.nf, B.ng, fun _ l us q1 mm q2 => B.ap rfl l us q1 mm q2, DqAll.app B.dp (.one h)⟩
theorem Blk.wiped {ad : Addr} {F0 : Hp} {e : Slots} {as : List D} {acc : List V} {vs : List Nat} (B : Blk K G io ad F0 σ e as F H acc) (h0 : 0 ∉ vs ∨ io = none) : Blk K G io ad F0 (wipe σ vs) (wipeS e vs) as F H acc :=
  ⟨B.sm, B.S.wiped h0, B.at_, B.nf, B.ng, fun _ l us q1 mm q2 => by
    obtain ⟨h1, h2⟩ := wipeS_some q1
    rw [wipe_out2 h2] at q2
    exact B.ap rfl l us h1 mm q2, B.dp⟩
end
end L2
set_option Elab.async false
set_option autoImplicit false
set_option linter.all false
set_option maxRecDepth 100000
set_option maxHeartbeats 1000001
namespace L2
open PyProof.Rows PySem PySem.Spec

def fits (n : Nat) (r : TV) : Option TV := if n ≤ sizeLine then some r else none
theorem fits_some {n : Nat} {r r' : TV} (h : fits n r = some r') : n ≤ sizeLine ∧ r = r' := by
  unfold fits at h
  split at h
  · rename_i z
    cases h
    exact ⟨z, rfl⟩
  · cases h
def pAdd : List D → Option TV
  | [.int i, .int j] => some (.d (.int (i + j)))
  | [.list a, .list c] => fits (a.length + c.length) (.own (a ++ c))
  | [.tuple a, .tuple c] => fits (a.length + c.length) (.d (.tuple (a ++ c)))
  | [.str a, .str c] => fits (a.length + c.length) (.d (.str (a ++ c)))
  | _ => none
def pSub : List D → Option TV
  | [.int i, .int j] => some (.d (.int (i - j)))
  | _ => none
def pMul : List D → Option TV
  | [.int i, .int j] => if i.natAbs.log2 + j.natAbs.log2 < 1000000 then some (.d (.int (i * j))) else none
  | [.list a, .int k] => if -(2 ^ 63) ≤ k ∧ k < 2 ^ 63 then fits (a.length * k.toNat) (.own (List.replicate k.toNat a).flatten) else none
  | _ => none
def pFdiv : List D → Option TV
  | [.int i, .int j] => if 0 < j ∧ j.natAbs.log2 < 9000 then some (.d (.int (i / j))) else none
  | _ => none
def pMod : List D → Option TV
  | [.int i, .int j] => if 0 < j then some (.d (.int (i % j))) else none
  | _ => none
def pPow : List D → Option TV
  | [.int i, .int j] => if 0 ≤ j ∧ j ≤ 1000000 ∧ i.natAbs < 2 ^ 64 then some (.d (.int (i ^ j.toNat))) else none
  | _ => none
def pNeg : List D → Option TV
  | [.int i] => some (.d (.int (-i)))
  | _ => none
def pEq : List D → Option TV
  | [x, y] => if SeqAt.shaped x = true ∧ SeqAt.shaped y = true then some (.d (.bool (PyData.eqv x y))) else none
  | _ => none
def pNe : List D → Option TV
  | [x, y] => if SeqAt.shaped x = true ∧ SeqAt.shaped y = true then some (.d (.bool (!PyData.eqv x y))) else none
  | _ => none
def pLt : List D → Option TV
  | [.int i, .int j] => some (.d (.bool (decide (i < j))))
  | _ => none
def pLe : List D → Option TV
  | [.int i, .int j] => some (.d (.bool (decide (i ≤ j))))
  | _ => none
def pGt : List D → Option TV
  | [.int i, .int j] => some (.d (.bool (decide (j < i))))
  | _ => none
def pGe : List D → Option TV
  | [.int i, .int j] => some (.d (.bool (decide (j ≤ i))))
  | _ => none
def isN : D → Bool
  | .none => true
  | _ => false
def pIs : List D → Option TV
  | [x, .none] => some (.d (.bool (isN x)))
  | [.bool a, .bool c] => some (.d (.bool (decide (a = c))))
  | _ => none
def pIsNot : List D → Option TV
  | [x, .none] => some (.d (.bool (!isN x)))
  | [.bool a, .bool c] => some (.d (.bool (!decide (a = c))))
  | _ => none
section
variable {X : Cx} {K : PySem.W.Frag} {F H : Hp}
theorem op_catR : OpR X (binaryOp .Add) (fun x y H Q => ∃ l b xs zs, x = .ref l ∧ y = .ref b ∧ Rd H l (.lst xs) ∧ Rd H b (.lst zs) ∧ xs.length + zs.length ≤ sizeLine ∧ ∀ p, H p = none → Q (.ref p) (upd H p (.lst (xs ++ zs)))) := by
  intro
        pins s σ H x y v u Q I rx ry h
  obtain
        ⟨l, b, xs, zs, rfl, rfl, hH, hB, hz, q⟩ := h
  cases rx
  cases ry
  obtain ⟨z1, i1, n1, r1, e1⟩ := hH.ok I.hok
  obtain ⟨z2, i2, n2, r2, e2⟩ := hB.ok I.hok
  have l1 := r1.length
  have l2 := r2.length
  refine PySem.P.add_list e1 e2 ?_ (by rw [List.size_toArray, List.size_toArray]; omega)
  rw [show i1.toArray ++ i2.toArray = (i1 ++ i2).toArray by simp]
  exact ⟨.ref _, _, I.lnew (t' := s.toks) (r1.append r2) (by rw [List.length_append]; omega), rfl, q _ I.fresh⟩
theorem DqAll.nil_iff {vs : List V} {ds : List D} (h : DqAll K F vs ds) : vs = [] ↔ ds = [] := by
  cases h with
  | nil => simp
  | cons a r => simp
theorem op_pAdd : OpR X (binaryOp .Add) (rP2 X.K pAdd) := by
  intro pins s σ H x y v u Q I rx ry ⟨F, xs, r, sm, hs, hg, p⟩
  cases hs with
  | cons h1 t1 =>
    cases t1 with
    | cons h2 t2 =>
      cases t2
      cases h1 <;> cases h2 <;> simp only [pAdd, Option.some.injEq, reduceCtorEq] at hg
      case int.int i j =>
        subst hg
        exact op_add pins s σ H _ _ v u Q I rx ry ⟨i, j, rfl, rfl, p.scal sm (.int _)⟩
      case str.str i j =>
        obtain ⟨hz, rfl⟩ := fits_some hg
        exact op_add_str pins s σ H _ _ v u Q I rx ry ⟨i, j, rfl, rfl, hz, p.scal sm (.str _)⟩
      case lst.lst a us ds ha hd b ws es hb he =>
        obtain ⟨hz, rfl⟩ := fits_some hg
        exact op_catR pins s σ H _ _ v u Q I rx ry ⟨a, b, us, ws, rfl, rfl, ha, hb, by rw [DqAll.len hd, DqAll.len he]; exact hz, fun q hq => p.lst sm (DqAll.app hd he) hq⟩
      case tup.tup a us ds ha ba hd b ws es hb bb he =>
        obtain ⟨hz, rfl⟩ := fits_some hg
        refine op_catF pins s σ H _ _ v u Q I rx ry ⟨a, b, us, ws, rfl, rfl, sameT sm ha, sameT sm hb, by rw [DqAll.len hd, DqAll.len he]; exact hz, fun z => ?_, fun _ z => ?_, fun _ _ => p.tup sm (DqAll.app hd he)⟩
        · obtain rfl := (DqAll.nil_iff hd).mp z
          exact p.scal sm (.tup hb bb he)
        · obtain rfl := (DqAll.nil_iff he).mp z
          rw [List.append_nil] at p
          exact p.scal sm (.tup ha ba hd)
theorem op_repR : OpR X (binaryOp .Mult) (fun x y H Q => ∃ l k xs, x = .ref l ∧ y = .int k ∧ Rd H l (.lst xs) ∧ -(2 ^ 63) ≤ k ∧ k < 2 ^ 63 ∧ xs.length * k.toNat ≤ sizeLine ∧ ∀ p, H p = none → Q (.ref p) (upd H p (.lst (List.replicate k.toNat xs).flatten))) := by
  intro
        pins s σ H x y v u Q I rx ry h
  obtain
        ⟨l, k, xs, rfl, rfl, hH, h1, h2, hz, q⟩ := h
  cases rx
  obtain ⟨tk, rfl⟩ := ry
  obtain ⟨_, its, n, rv, e⟩ := hH.ok I.hok
  have hl := rv.length
  have sz : its.toArray.size * k.toNat ≤ sizeLine := by
    rw [List.size_toArray, ← hl]
    exact hz
  have big : (sizeLine : Nat) ≤ (2 ^ 63 - 1) / 8 := by decide
  have fit : ¬ (!Builtin.List.listFitsIndex k) = true := by
    rw [fitsIndex_both h1 h2]
    exact Bool.false_ne_true
  have short : ¬ Builtin.List.listTooLong (its.toArray.size * k.toNat) = true := by
    rw [notLongL sz]
    exact Bool.false_ne_true
  have out : (List.replicate (if its.toArray.isEmpty = true then 0 else k.toNat) its.toArray).foldl (fun a c => a ++ c) #[] = (List.replicate k.toNat its).flatten.toArray := by
    have z : ∀ m : Nat, (List.replicate m its.toArray).foldl (fun a c => a ++ c) #[] = (List.replicate m its).flatten.toArray := by
      intro m
      have q := foldl_rep its m []
      rw [List.nil_append] at q
      exact q
    rw [z]
    cases its with
    | nil => simp
    | cons c cs => rw [if_neg (by simp)]
  refine wpAny_binaryOp_repeat_ref (T := "list") (U := "int") (by decide) ⟨_, e, rfl⟩ (fun s' => typeIs_int s' k tk)
    noFill_list_mul F.fills_int_mul F.slot_int_rmul repeat_list F.slot_int_index.lookup ?_
  refine call_meets F.slot_int_rmul (typeIs_int s k tk) F.entry_int_rmul (F.args_int_rmul_2 _ _)
    (int___rmul___int_list k tk l its.toArray n) ⟨e, rfl, ⟨_, e, rfl⟩, ?_⟩
  refine call_meets F.slot_list_mul ⟨_, e, rfl⟩ F.entry_list_mul (F.args_list_mul_2 _ _)
    (AutoListH.list___mul___list_int_3 l its.toArray n k tk fit (by omega) short) ⟨e, ?_⟩
  rw [out]
  refine ⟨.ref _, _, I.lnew (t' := s.toks) (rv.rep k.toNat) ?_, rfl, q _ I.fresh⟩
  rw [PyProof.Rows.lm_len_rep_flat, Nat.mul_comm]
  exact hz
theorem int2 {g : List D → Option TV} {f : Value → Value → Sem Value} {C : Int → Int → Prop} {gv : Int → Int → V} {gd : Int → Int → D} (ho : OpR X f (rI C gv)) (hv : ∀ (F : Hp) (i j : Int), Dq X.K F (gv i j) (gd i j))
    (hg : ∀ (x y : D) (r : TV), g [x, y] = some r → ∃ i j, x = .int i ∧ y = .int j ∧ C i j ∧ r = .d (gd i j)) : OpR X f (rP2 X.K g) := by
  intro pins s σ H x y v u Q I rx ry ⟨F, xs, r, sm, hs, h, p⟩
  cases hs with
  | cons h1 t1 =>
    cases t1 with
    | cons h2 t2 =>
      cases t2
      obtain ⟨i, j, rfl, rfl, c, rfl⟩ := hg _ _ _ h
      cases h1
      cases h2
      exact ho pins s σ H _ _ v u Q I rx ry ⟨i, j, rfl, rfl, c, p.scal sm (hv F i j)⟩
theorem int20 {g : List D → Option TV} {f : Value → Value → Sem Value} {gv : Int → Int → V} {gd : Int → Int → D} (ho : OpR X f (rI0 gv)) (hv : ∀ (F : Hp) (i j : Int), Dq X.K F (gv i j) (gd i j))
    (hg : ∀ (x y : D) (r : TV), g [x, y] = some r → ∃ i j, x = .int i ∧ y = .int j ∧ r = .d (gd i j)) : OpR X f (rP2 X.K g) := by
  intro pins s σ H x y v u Q I rx ry ⟨F, xs, r, sm, hs, h, p⟩
  cases hs with
  | cons h1 t1 =>
    cases t1 with
    | cons h2 t2 =>
      cases t2
      obtain ⟨i, j, rfl, rfl, rfl⟩ := hg _ _ _ h
      cases h1
      cases h2
      exact ho pins s σ H _ _ v u Q I rx ry ⟨i, j, rfl, rfl, p.scal sm (hv F i j)⟩
theorem op_pSub : OpR X (binaryOp .Sub) (rP2 X.K pSub) := int20 op_sub (fun F i j => .int _) fun x y r h => by
  cases x <;> cases y <;> simp only [pSub, Option.some.injEq, reduceCtorEq] at h
  exact ⟨_, _, rfl, rfl, h.symm⟩
theorem op_pMul : OpR X (binaryOp .Mult) (rP2 X.K pMul) := by
  intro pins s σ H x y v u Q I rx ry ⟨F, xs, r, sm, hs, hg, p⟩
  cases hs with
  | cons h1 t1 =>
    cases t1 with
    | cons h2 t2 =>
      cases t2
      cases h1 <;> cases h2 <;> simp only [pMul, Option.some.injEq, reduceCtorEq] at hg
      case int.int i j =>
        split at hg
        · rename_i hz
          cases hg
          exact op_mulW pins s σ H _ _ v u Q I rx ry ⟨i, j, rfl, rfl, hz, p.scal sm (.int _)⟩
        · cases hg
      case lst.int a us ds ha hd k =>
        split at hg
        · rename_i hk
          obtain ⟨hz, rfl⟩ := fits_some hg
          refine op_repR pins s σ H _ _ v u Q I rx ry ⟨a, k, us, rfl, rfl, ha, hk.1, hk.2, by rw [DqAll.len hd]; exact hz, fun q hq => p.lst sm ?_ hq⟩
          generalize k.toNat = n
          induction n with
          | zero => exact .nil
          | succ n ih =>
            rw
                  [List.replicate_succ, List.replicate_succ, List.flatten_cons, List.flatten_cons]
            exact DqAll.app hd ih
        · cases hg
theorem op_pFdiv : OpR X (binaryOp .FloorDiv) (rP2 X.K pFdiv) := int2 op_fdivW (fun F i j => .int _) fun x y r h => by
  cases x <;> cases y <;> simp only [pFdiv, reduceCtorEq] at h
  split at h
  · rename_i c
    cases h
    exact ⟨_, _, rfl, rfl, c, rfl⟩
  · cases h
theorem op_pMod : OpR X (binaryOp .Mod) (rP2 X.K pMod) := int2 op_mod (fun F i j => .int _) fun x y r h => by
  cases x <;> cases y <;> simp only [pMod, reduceCtorEq] at h
  split at h
  · rename_i c
    cases h
    exact ⟨_, _, rfl, rfl, c, rfl⟩
  · cases h
theorem op_pPow : OpR X (binaryOp .Pow) (rP2 X.K pPow) := int2 op_pow (fun F i j => .int _) fun x y r h => by
  cases x <;> cases y <;> simp only [pPow, reduceCtorEq] at h
  split at h
  · rename_i c
    cases h
    exact ⟨_, _, rfl, rfl, c, rfl⟩
  · cases h
theorem op_pLt : OpR X (compareOp .Lt) (rP2 X.K pLt) := int20 op_lt (fun F i j => .bl _) fun x y r h => by
  cases x <;> cases y <;> simp only [pLt, Option.some.injEq, reduceCtorEq] at h
  exact ⟨_, _, rfl, rfl, h.symm⟩
theorem op_pLe : OpR X (compareOp .LtE) (rP2 X.K pLe) := int20 op_le (fun F i j => .bl _) fun x y r h => by
  cases x <;> cases y <;> simp only [pLe, Option.some.injEq, reduceCtorEq] at h
  exact ⟨_, _, rfl, rfl, h.symm⟩
theorem op_pGt : OpR X (compareOp .Gt) (rP2 X.K pGt) := int20 op_gt (fun F i j => .bl _) fun x y r h => by
  cases x <;> cases y <;> simp only [pGt, Option.some.injEq, reduceCtorEq] at h
  exact ⟨_, _, rfl, rfl, h.symm⟩
theorem op_pGe : OpR X (compareOp .GtE) (rP2 X.K pGe) := int20 op_ge (fun F i j => .bl _) fun x y r h => by
  cases x <;> cases y <;> simp only [pGe, Option.some.injEq, reduceCtorEq] at h
  exact ⟨_, _, rfl, rfl, h.symm⟩
theorem un_pNeg : UnR X (unaryOp .USub) (fun x H Q => rPs X.K pNeg [x] H Q) := by
  intro pins s σ H x v Q I rx ⟨F, xs, r, sm, hs, hg, p⟩
  cases hs with
  | cons h1 t1 =>
    cases t1
    cases h1 <;> simp only [pNeg, Option.some.injEq, reduceCtorEq] at hg
    subst hg
    exact un_neg pins s σ H _ v Q I rx ⟨_, rfl, p.scal sm (.int _)⟩
theorem op_pEq (hu : X.A.units + 64 < cLine) : OpR X (compareOp .Eq) (rP2 X.K pEq) := by
  intro pins s σ H x y v u Q I rx ry ⟨F, xs, r, sm, hs, hg, p⟩
  cases hs with
  | cons h1 t1 =>
    cases t1 with
    | cons h2 t2 =>
      cases t2
      simp only [pEq] at hg
      split at hg
      · rename_i c
        cases hg
        exact op_eqD hu pins s σ H _ _ v u Q I rx ry ⟨_, _, (h1.dp sm).dp (SeqAt.canLay_of_shaped c.1), (h2.dp sm).dp (SeqAt.canLay_of_shaped c.2), c.1, c.2, p.scal sm (.bl _)⟩
      · cases hg
theorem op_pNe (hu : X.A.units + 64 < cLine) : OpR X (compareOp .NotEq) (rP2 X.K pNe) := by
  intro pins s σ H x y v u Q I rx ry ⟨F, xs, r, sm, hs, hg, p⟩
  cases hs with
  | cons h1 t1 =>
    cases t1 with
    | cons h2 t2 =>
      cases t2
      simp only [pNe] at hg
      split at hg
      · rename_i c
        cases hg
        exact op_neD hu pins s σ H _ _ v u Q I rx ry ⟨_, _, (h1.dp sm).dp (SeqAt.canLay_of_shaped c.1), (h2.dp sm).dp (SeqAt.canLay_of_shaped c.2), c.1, c.2, p.scal sm (.bl _)⟩
      · cases hg
theorem isN_eq {v : V} {d : D} (h : DpB K F H v d) : decide (v = .non) = isN d := by
  cases h <;> simp [isN]
theorem op_pIs : OpR X (compareOp .Is) (rP2 X.K pIs) := by
  intro pins s σ H x y v u Q I rx ry ⟨F, xs, r, sm, hs, hg, p⟩
  cases hs with
  | cons h1 t1 =>
    cases t1 with
    | cons h2 t2 =>
      cases t2
      cases h2 <;> try (cases h1 <;> simp only [pIs, reduceCtorEq] at hg; done)
      case non =>
        have e := isN_eq h1
        simp only [pIs, Option.some.injEq] at hg
        subst hg
        exact op_isN pins s σ H _ _ v u Q I rx ry ⟨rfl, by rw [e]; exact p.scal sm (.bl _)⟩
      case bl c =>
        cases h1 <;> simp only [pIs, Option.some.injEq, reduceCtorEq] at hg
        subst hg
        exact op_isBl pins s σ H _ _ v u Q I rx ry ⟨_, _, rfl, rfl, p.scal sm (.bl _)⟩
end
end L2
set_option Elab.async false
set_option autoImplicit false
set_option linter.all false
set_option maxRecDepth 100000
set_option maxHeartbeats 1000001
namespace L2
open PyProof.Rows PySem PySem.Spec

def pIx : List D → Option TV
  | [.list xs, .int i] => (atI xs i).map .d
  | [.tuple xs, .int i] => (atI xs i).map .d
  | [.dict kvs, .int i] => if isScr kvs = true then (atI (kvs.map (·.1)) i).map .d else none
  | _ => none
def cutD {α : Type} (xs : List α) (lo hi : Option Int) : List α := (xs.drop (HT.sIx xs.length 0 lo)).take (HT.sIx xs.length xs.length hi - HT.sIx xs.length 0 lo)
def cutT (x : D) (lo hi : Option Int) : Option TV := match x with
  | .list xs => some (.own (cutD xs lo hi))
  | .tuple xs => some (.d (.tuple (cutD xs lo hi)))
  | _ => none
def evp : Option DE → Slots → Option (Option Int × Slots)
  | none, e => some (none, e)
  | some d, e => match d e with
    | some (.d (.int i), e1) => some (some i, e1)
    | _ => none
def dSlice (o : Opd) (lo hi : Option DE) : DE := fun e => match o with
  | .ex d => match d e with
    | some (.d x, e1) => match evp lo e1 with
      | some (l, e2) => match evp hi e2 with
        | some (u, e3) => match cutT x l u with
          | some r => some (r, e3)
          | none => none
        | none => none
      | none => none
    | _ => none
  | .bor i => match e[i]? with
    | some (some _) => match evp lo e with
      | some (l, e2) => match evp hi e2 with
        | some (u, e3) => match e3[i]? with
          | some (some t) => match cutT t.toD l u with
            | some r => some (r, e3)
            | none => none
          | _ => none
        | none => none
      | none => none
    | _ => none
def pRev : List D → Option TV
  | [.list xs] => some (.own xs.reverse)
  | [.tuple xs] => some (.d (.tuple xs.reverse))
  | _ => none
def tP (K : PySem.W.Frag) (b : Bool) : Option DE → TO
  | none => tNoPart
  | some d => tPart (tE K b d)
section
variable {X : Cx} {K : PySem.W.Frag} {F H : Hp} {b : Bool} {io : Option Addr} {G : Hp} {env env' : Slots} {σ : L2.St}
theorem atI_dq {vs : List V} {ds : List D} {i : Int} {d : D} (h : DqAll K F vs ds) (e : atI ds i = some d) : ∃ v, atI vs i = some v ∧ Dq K F v d := by
  unfold atI at e ⊢
  rw [DqAll.len h]
  cases q : ixN ds.length i with
  | none =>
        rw [q] at e; cases e
  | some j =>
    rw [q] at e
    exact DqAll.get h e
theorem keys_scr (is : List Int) : (is.map fun i => (PyData.int i, PyData.none)).map (·.1) = is.map PyData.int := by
  rw [List.map_map]
  rfl
theorem dq_ints0 {F : Hp} : ∀ is : List Int, DqAll X.K F (is.map V.int) (is.map PyData.int)
  | [] => .nil
  | i :: is => .cons (.int i) (dq_ints0 is)
theorem ix_pIx : IxR X (rP2 X.K pIx) := by
  intro value slice pins s σ H x y v u Q I rx ry ⟨F, xs, r, sm, hs, hg, p⟩ hp
  cases hs with
  | cons h1 t1 =>
    cases t1 with
    | cons h2 t2 =>
      cases t2
      cases h1 <;> cases h2 <;> simp only [pIx, Option.map_eq_some_iff, reduceCtorEq] at hg
      case lst.int a us ds ha hd i =>
        obtain ⟨d, e, rfl⟩ := hg
        obtain ⟨w, ew, hw⟩ := atI_dq hd e
        exact ix_list value slice pins s σ H _ _ v u Q I rx ry ⟨a, us, i, w, rfl, rfl, .inl ha, ew, p.scal sm hw⟩ hp
      case tup.int a us ds ha ba hd i =>
        obtain ⟨d, e, rfl⟩ := hg
        obtain ⟨w, ew, hw⟩ := atI_dq hd e
        exact ix_tup value slice pins s σ H _ _ v u Q I rx ry ⟨a, us, i, w, rfl, rfl, sameT sm ha, ew, p.scal sm hw⟩ hp
      case dic.int => cases hg
      case dct.int => cases hg
      case dcx.int => cases hg
      case dci.int => cases hg
      case fn.int => cases hg
      case scr.int a is ha i =>
        rw [if_pos (isScr_of is), Option.map_eq_some_iff] at hg
        obtain ⟨d, e, rfl⟩ := hg
        rw [keys_scr] at e
        obtain ⟨w, ew, hw⟩ := atI_dq (F := F) (K := X.K) (dq_ints0 is) e
        exact ix_list value slice pins s σ H _ _ v u Q I rx ry ⟨a, is.map V.int, i, w, rfl, rfl, .inr ha, ew, p.scal sm hw⟩ hp
theorem cut_dq {vs : List V} {ds : List D} (lo hi : Option Int) (h : DqAll K F vs ds) : DqAll K F (cutV vs lo hi) (cutD ds lo hi) := by
  unfold cutV cutD
  rw [DqAll.len h]
  exact DqAll.take _ (DqAll.drop _ h)
theorem cut_whole {ds : List D} {lo hi : Option Int} (h : HT.sIx ds.length 0 lo = 0 ∧ HT.sIx ds.length ds.length hi = ds.length) : cutD ds lo hi = ds := by
  unfold cutD
  rw [h.1, h.2, List.drop_zero, Nat.sub_zero, List.take_length]
def rCut (K : PySem.W.Frag) : V → Option Int → Option Int → Hp → VK → Prop := fun x lo hi H Q => ∃ (F : Hp) (d : D) (r : TV), Same F H ∧ DpB K F H x d ∧ cutT d lo hi = some r ∧ PostP K F H r Q
theorem sl_cut : SlR X (rCut X.K) := by
  intro pins s σ H x v vl vu lo hi sl Q I rx hs pl pu ⟨F, d, r, sm, hd, hc, p⟩
  cases hd <;> simp only [cutT, Option.some.injEq, reduceCtorEq] at hc
  case lst a us ds ha hd =>
    subst hc
    exact sl_list pins s σ H _ v vl vu lo hi sl Q I rx hs pl pu ⟨a, us, rfl, .inl ha, fun q hq => p.lst sm (cut_dq lo hi hd) hq⟩
  case tup a us ds ha ba hd =>
    subst hc
    refine sl_tupF pins s σ H _ v vl vu lo hi sl Q I rx hs pl pu ⟨a, us, rfl, sameT sm ha, fun w => ?_, fun _ => p.tup sm (cut_dq lo hi hd)⟩
    rw [DqAll.len hd] at w
    rw [cut_whole w] at p
    exact p.scal sm (.tup ha ba hd)
theorem evp_at (hb : b = false → io = none) {o : Option DE} {q : Option Int} {R : Option Int → Hp → Prop} (h : evp o env = some (q, env')) (S : Sim K G io env σ F H)
    (k : ∀ F' H' : Hp, Same F F' → Sim K G io env' σ F' H' → R q H') : tP K b o σ H R := by
  cases o with
  | none =>
    simp only [evp, Option.some.injEq, Prod.mk.injEq] at h
    obtain ⟨rfl, rfl⟩ := h
    exact k F H (Same.refl F) S
  | some d =>
    simp only [evp] at h
    split at h
    · rename_i i e1 h1
      simp only [Option.some.injEq, Prod.mk.injEq] at h
      obtain ⟨rfl, rfl⟩ := h
      refine tE_at hb h1 S fun v F' H' sm S' hv _ => ?_
      cases hv
      exact ⟨i, rfl, k F' H' sm S'⟩
    · cases h
theorem po_d {e : Option Expr} {d : Option DE} (h : match e, d with
    | none, none => True
    | some e, some d => PE X e (tE X.K b d)
    | _, _ => False) : PO X e (tP X.K b d) := by
  cases e <;> cases d
  · exact po_none
  · exact h.elim
  · exact h.elim
  · exact po_some h
theorem pe_dslice {e : Expr} {lo hi : Option Expr} {o : Opd} {dl dh : Option DE} {p2 pos : Pos} (he : PE X e (tO X.K b o)) (hl : PO X lo (tP X.K b dl)) (hh : PO X hi (tP X.K b dh)) : PE X (.Subscript e (.Slice lo hi none p2) pos) (tE X.K b (dSlice o dl dh)) :=
  (pe_slice sl_cut he hl hh).of fun σ H Q ⟨G, io, F, env, r, env', hb, h1, S, k⟩ => by
    cases o with
    | ex d =>
      simp only [dSlice] at h1
      split at h1
      · rename_i x e1 h2
        split at h1
        · rename_i l e2 h3
          split at h1
          · rename_i u e3 h4
            split at h1
            · rename_i r' h5
              simp only [Option.some.injEq, Prod.mk.injEq] at h1
              obtain ⟨rfl, rfl⟩ := h1
              refine tE_at hb h2 S fun v F1 H1 sm1 S1 hv _ => ?_
              refine evp_at hb h3 S1 fun F2 H2 sm2 S2 => ?_
              refine evp_at hb h4 S2 fun F3 H3 sm3 S3 => ?_
              exact ⟨F3, x, r', S3.fh, Dq.bor (Dq.to hv (sm2.trans sm3)) S3.fh, h5, post_of ((sm1.trans sm2).trans sm3) S3 k⟩
            · cases h1
          · cases h1
        · cases h1
      · cases h1
    | bor i =>
      simp only [dSlice] at h1
      split at h1
      · rename_i t0 h0
        split at h1
        · rename_i l e2 h3
          split at h1
          · rename_i u e3 h4
            split at h1
            · rename_i t h6
              split at h1
              · rename_i r' h5
                simp only [Option.some.injEq, Prod.mk.injEq] at h1
                obtain ⟨rfl, rfl⟩ := h1
                obtain ⟨v, e0, _⟩ := S.sl i _ h0
                refine ⟨v, e0, ?_⟩
                refine evp_at hb h3 S fun F2 H2 sm2 S2 => ?_
                refine evp_at hb h4 S2 fun F3 H3 sm3 S3 => ?_
                obtain ⟨v', e7, hv⟩ := S3.sl i _ h6
                rw [e0] at e7
                cases e7
                exact ⟨F3, _, r', S3.fh, hv.look S3.fh, h5, post_of (sm2.trans sm3) S3 k⟩
              · cases h1
            · cases h1
          · cases h1
        · cases h1
      · cases h1

def intsD : List D → Option (List Int)
  | [] => some []
  | .int i :: xs => match intsD xs with
    | some is => some (i :: is)
    | none => none
  | _ :: _ => none
def boolsD : List D → Option (List Bool)
  | [] => some []
  | .bool b :: xs => match boolsD xs with
    | some bs => some (b :: bs)
    | none => none
  | _ :: _ => none
theorem ints_dq : ∀ {vs : List V} {ds : List D} {is : List Int}, DqAll K F vs ds → intsD ds = some is → vs = is.map V.int ∧ ds = is.map PyData.int
  | _, _, _, .nil, e => by
    simp only [intsD, Option.some.injEq] at e
    subst e
    exact ⟨rfl, rfl⟩
  | _, _, _, .cons a r, e => by
    cases a <;> simp only [intsD, reduceCtorEq] at e
    split at e
    · rename_i is h
      cases e
      obtain ⟨h1, h2⟩ := ints_dq r h
      rw [h1, h2]
      exact ⟨rfl, rfl⟩
    · cases e
theorem bools_dq : ∀ {vs : List V} {ds : List D} {is : List Bool}, DqAll K F vs ds → boolsD ds = some is → vs = is.map V.bl
  | _, _, _, .nil, e => by
    simp only [boolsD, Option.some.injEq] at e
    subst e
    rfl
  | _, _, _, .cons a r, e => by
    cases a <;> simp only [boolsD, reduceCtorEq] at e
    split at e
    · rename_i is h
      cases e
      rw [bools_dq r h]
      rfl
    · cases e
theorem dq_ints : ∀ is : List Int, DqAll K F (is.map V.int) (is.map PyData.int)
  | [] => .nil
  | i :: is => .cons (.int i) (dq_ints is)
def pLen : List D → Option TV
  | [.list xs] => some (.d (.int xs.length))
  | [.tuple xs] => some (.d (.int xs.length))
  | [.dict kvs] => if isScr kvs = true then some (.d (.int kvs.length)) else none
  | _ => none
def pList : List D → Option TV
  | [.list xs] => some (.own xs)
  | [.tuple xs] => some (.own xs)
  | _ => none
def pTuple : List D → Option TV
  | [.list xs] => some (.d (.tuple xs))
  | [.tuple xs] => some (.d (.tuple xs))
  | _ => none
def pAbs : List D → Option TV
  | [.int i] => some (.d (.int (if i < 0 then -i else i)))
  | _ => none
def pInt : List D → Option TV
  | [.int i] => some (.d (.int i))
  | [.bool k] => some (.d (.int (if k then 1 else 0)))
  | _ => none
def maxI : Int → List Int → Int
  | m, [] => m
  | m, x :: xs => maxI (if m < x then x else m) xs
def minI : Int → List Int → Int
  | m, [] => m
  | m, x :: xs => minI (if x < m then x else m) xs
def pMax : List D → Option TV
  | [.int i, .int j] => some (.d (.int (if j > i then j else i)))
  | [.list xs] => match intsD xs with
    | some (m :: is) => some (.d (.int (maxI m is)))
    | _ => none
  | _ => none
def pMin : List D → Option TV
  | [.int i, .int j] => some (.d (.int (if j < i then j else i)))
  | [.list xs] => match intsD xs with
    | some (m :: is) => some (.d (.int (minI m is)))
    | _ => none
  | _ => none
def pSum : List D → Option TV
  | [.list xs] => match intsD xs with
    | some is => some (.d (.int is.sum))
    | none => none
  | _ => none
def pAny : List D → Option TV
  | [.list xs] => match boolsD xs with
    | some bs => some (.d (.bool (bs.any id)))
    | none => none
  | _ => none
def pAll : List D → Option TV
  | [.list xs] => match boolsD xs with
    | some bs => some (.d (.bool (bs.all id)))
    | none => none
  | _ => none
def pDivmod : List D → Option TV
  | [.int i, .int j] => if 0 < j ∧ j < 1073741824 then some (.d (.tuple [.int (i / j), .int (i % j)])) else none
  | _ => none
theorem maxI_spec : ∀ (is : List Int) (m : Int), (maxI m is ∈ m :: is) ∧ ∀ y ∈ m :: is, y ≤ maxI m is
  | [], m => ⟨by simp [maxI], by simp [maxI]⟩
  | x :: is, m => by
    obtain ⟨h1, h2⟩ := maxI_spec is (if m < x then x else m)
    unfold maxI
    refine ⟨?_, fun y hy => ?_⟩
    · rcases List.mem_cons.mp h1 with e | e
      · rw [e]
        split <;> simp
      · simp [e]
    · have h3 := h2 (if m < x then x else m) List.mem_cons_self
      have h4 := fun e => h2 y (List.mem_cons_of_mem _ e)
      generalize maxI (if m < x then x else m) is = z at h3 h4 ⊢
      rcases
            List.mem_cons.mp hy with e | e
      · subst e
        split at h3 <;> omega
      · rcases
            List.mem_cons.mp e with e | e
        · subst e
          split at h3 <;> omega
        · exact h4 e
theorem minI_spec : ∀ (is : List Int) (m : Int), (minI m is ∈ m :: is) ∧ ∀ y ∈ m :: is, minI m is ≤ y
  | [], m => ⟨by simp [minI], by simp [minI]⟩
  | x :: is, m => by
    obtain ⟨h1, h2⟩ := minI_spec is (if x < m then x else m)
    unfold minI
    refine ⟨?_, fun y hy => ?_⟩
    · rcases List.mem_cons.mp h1 with e | e
      · rw [e]
        split <;> simp
      · simp [e]
    · have h3 := h2 (if x < m then x else m) List.mem_cons_self
      have h4 := fun e => h2 y (List.mem_cons_of_mem _ e)
      generalize minI (if x < m then x else m) is = z at h3 h4 ⊢
      rcases
            List.mem_cons.mp hy with e | e
      · subst e
        split at h3 <;> omega
      · rcases
            List.mem_cons.mp e with e | e
        · subst e
          split at h3 <;> omega
        · exact h4 e
theorem call1 {f : Value} {g : List D → Option TV} {r : List V → Hp → VK → Prop} (ho : CallR X f r) (hg : ∀ (F H : Hp) (x : V) (d : D) (t : TV) (Q : VK), Same F H → DpB X.K F H x d → g [d] = some t → PostP X.K F H t Q → r [x] H Q)
    (h0 : ∀ (xs : List D) (t : TV), g xs = some t → ∃ d, xs = [d]) : CallR X f (rPs X.K g) := by
  intro pins s σ H vs us Q I rv ⟨F, xs, t, sm, hs, h, p⟩
  obtain ⟨d, rfl⟩ := h0 xs t h
  cases hs with
  | cons h1 t1 =>
    cases t1
    exact ho pins s σ H _ us Q I rv (hg F H _ d t Q sm h1 h p)
theorem cr_pLen : CallR X (.builtin "len") (rPs X.K pLen) := call1 call_len_seq (fun F H x d t Q sm hd h p => by
    cases hd <;> simp only [pLen, Option.some.injEq, reduceCtorEq] at h
    case lst a us ds ha hd =>
      subst h
      refine ⟨a, us, rfl, .inl (.inl ha), ?_⟩
      rw [DqAll.len hd]
      exact p.scal sm (.int _)
    case tup a us ds ha ba hd =>
      subst h
      refine ⟨a, us, rfl, .inr (sameT sm ha), ?_⟩
      rw [DqAll.len hd]
      exact p.scal sm (.int _)
    case dic => cases h
    case dct => cases h
    case dcx => cases h
    case dci => cases h
    case fn => cases h
    case scr a is ha =>
      rw [if_pos (isScr_of is)] at h
      cases h
      refine ⟨a, is.map V.int, rfl, .inl (.inr ha), ?_⟩
      rw [List.length_map]
      rw [List.length_map] at p
      exact p.scal sm (.int _)) fun xs t h => by
  unfold pLen at h
  split at h <;> first | exact ⟨_, rfl⟩ | cases h
theorem cr_pList : CallR X (.type "list") (rPs X.K pList) := call1 call_list_of (fun F H x d t Q sm hd h p => by
    cases hd <;> simp only [pList, Option.some.injEq, reduceCtorEq] at h
    case lst a us ds ha hd =>
      subst h
      exact ⟨a, us, rfl, .inl (.inl ha), fun q hq => p.lst sm hd hq⟩
    case tup a us ds ha ba hd =>
      subst h
      exact ⟨a, us, rfl, .inr (sameT sm ha), fun q hq => p.lst sm hd hq⟩) fun xs t h => by
  unfold pList at h
  split at h <;> first | exact ⟨_, rfl⟩ | cases h
theorem cr_pTuple : CallR X (.type "tuple") (rPs X.K pTuple) := call1 call_tupleF (fun F H x d t Q sm hd h p => by
    cases hd <;> simp only [pTuple, Option.some.injEq, reduceCtorEq] at h
    case lst a us ds ha hd =>
      subst h
      exact ⟨a, us, rfl, .inl ⟨.inl ha, p.tup sm hd⟩⟩
    case tup a us ds ha ba hd =>
      subst h
      exact ⟨a, us, rfl, .inr ⟨sameT sm ha, p.scal sm (.tup ha ba hd)⟩⟩) fun xs t h => by
  unfold pTuple at h
  split at h <;> first | exact ⟨_, rfl⟩ | cases h
theorem cr_pAbs : CallR X (.builtin "abs") (rPs X.K pAbs) := call1 call_abs (fun F H x d t Q sm hd h p => by
    cases hd <;> simp only [pAbs, Option.some.injEq, reduceCtorEq] at h
    subst h
    exact ⟨_, rfl, p.scal sm (.int _)⟩) fun xs t h => by
  unfold pAbs at h
  split at h <;> first | exact ⟨_, rfl⟩ | cases h
theorem cr_pInt : CallR X (.type "int") (rPs X.K pInt) := call1 call_int1 (fun F H x d t Q sm hd h p => by
    cases hd <;> simp only [pInt, Option.some.injEq, reduceCtorEq] at h
    · subst h
      exact .inr ⟨_, rfl, p.scal sm (.int _)⟩
    · subst h
      exact .inl ⟨_, rfl, p.scal sm (.int _)⟩) fun xs t h => by
  unfold pInt at h
  split at h <;> first | exact ⟨_, rfl⟩ | cases h
theorem cr_pSum (hc : X.calm = true) : CallR X (.builtin "sum") (rPs X.K pSum) := call1 (cr_sum hc) (fun F H x d t Q sm hd h p => by
    cases hd <;> simp only [pSum, reduceCtorEq] at h
    case lst a us ds ha hd =>
      split at h
      · rename_i is e
        cases h
        obtain ⟨rfl, _⟩ := ints_dq hd e
        exact ⟨a, is, rfl, .inl ha, p.scal sm (.int _)⟩
      · cases h) fun xs t h => by
  unfold pSum at h
  split at h <;> first | exact ⟨_, rfl⟩ | cases h
theorem cr_pAny (hc : X.calm = true) : CallR X (.builtin "any") (rPs X.K pAny) := call1 (cr_any hc) (fun F H x d t Q sm hd h p => by
    cases hd <;> simp only [pAny, reduceCtorEq] at h
    case lst a us ds ha hd =>
      split at h
      · rename_i is e
        cases h
        obtain rfl := bools_dq hd e
        exact ⟨a, is, rfl, .inl ha, p.scal sm (.bl _)⟩
      · cases h) fun xs t h => by
  unfold pAny at h
  split at h <;> first | exact ⟨_, rfl⟩ | cases h
theorem cr_pAll (hc : X.calm = true) : CallR X (.builtin "all") (rPs X.K pAll) := call1 (cr_all hc) (fun F H x d t Q sm hd h p => by
    cases hd <;> simp only [pAll, reduceCtorEq] at h
    case lst a us ds ha hd =>
      split at h
      · rename_i is e
        cases h
        obtain rfl := bools_dq hd e
        exact ⟨a, is, rfl, .inl ha, p.scal sm (.bl _)⟩
      · cases h) fun xs t h => by
  unfold pAll at h
  split at h <;> first | exact ⟨_, rfl⟩ | cases h
theorem cr_pMax (hc : X.calm = true) : CallR X (.builtin "max") (rPs X.K pMax) := by
  intro pins s σ H vs us Q I rv ⟨F, xs, t, sm, hs, h, p⟩
  unfold pMax at h
  split at h
  · rename_i i j
    cases h
    cases hs with
    | cons h1 t1 =>
      cases t1 with
      | cons h2 t2 =>
        cases t2
        cases h1
        cases h2
        exact call_max2 hc pins s σ H _ us Q I rv ⟨i, j, rfl, p.scal sm (.int _)⟩
  · rename_i ys
    split at h
    · rename_i m is e
      cases h
      cases hs with
      | cons h1 t1 =>
        cases t1
        cases h1 with
        | lst ha hd =>
          obtain ⟨rfl, _⟩ := ints_dq hd e
          refine cr_max hc pins s σ H _ us Q I rv ⟨_, m :: is, rfl, .inl ha, by simp, fun n hn hm => ?_⟩
          obtain ⟨q1, q2⟩ := maxI_spec is m
          have e1 : n = maxI m is := Int.le_antisymm (q2 n hn) (hm _ q1)
          rw [e1]
          exact p.scal sm (.int _)
    · cases h
  · cases h
theorem cr_pMin (hc : X.calm = true) : CallR X (.builtin "min") (rPs X.K pMin) := by
  intro pins s σ H vs us Q I rv ⟨F, xs, t, sm, hs, h, p⟩
  unfold pMin at h
  split at h
  · rename_i i j
    cases h
    cases hs with
    | cons h1 t1 =>
      cases t1 with
      | cons h2 t2 =>
        cases t2
        cases h1
        cases h2
        exact call_min2 hc pins s σ H _ us Q I rv ⟨i, j, rfl, p.scal sm (.int _)⟩
  · rename_i ys
    split at h
    · rename_i m is e
      cases h
      cases hs with
      | cons h1 t1 =>
        cases t1
        cases h1 with
        | lst ha hd =>
          obtain ⟨rfl, _⟩ := ints_dq hd e
          refine cr_min hc pins s σ H _ us Q I rv ⟨_, m :: is, rfl, .inl ha, by simp, fun n hn hm => ?_⟩
          obtain ⟨q1, q2⟩ := minI_spec is m
          have e1 : n = minI m is := Int.le_antisymm (hm _ q1) (q2 n hn)
          rw [e1]
          exact p.scal sm (.int _)
    · cases h
  · cases h
theorem cr_pDivmod : CallR X (.builtin "divmod") (rPs X.K pDivmod) := by
  intro pins s σ H vs us Q I rv ⟨F, xs, t, sm, hs, h, p⟩
  unfold pDivmod at h
  split at h
  · rename_i i j
    split at h
    · rename_i c
      cases h
      cases hs with
      | cons h1 t1 =>
        cases t1 with
        | cons h2 t2 =>
          cases t2
          cases h1
          cases h2
          exact call_divmodF pins s σ H _ us Q I rv ⟨i, j, rfl, c, p.tup sm (.cons (.int _) (.cons (.int _) .nil))⟩
    · cases h
  · cases h
end
end L2
set_option Elab.async false
set_option autoImplicit false
set_option linter.all false
set_option maxRecDepth 100000
set_option maxHeartbeats 1000001
namespace L2
open PyProof.Rows PySem PySem.Spec

abbrev MD := List D → List D → Option (List D × D)
def dMut (m : MD) (i : Nat) (ds : List DE) : DE := fun e => match e[i]? with
  | some (some (.own _)) => match evx ds e with
    | some (vs, e1) => match e1[i]? with
      | some (some (.own xs)) => match m xs vs with
        | some (ys, r) => some (.d r, e1.set i (some (.own ys)))
        | none => none
      | _ => none
    | none => none
  | _ => none
def mAppend : MD
  | xs, [y] => if xs.length < sizeLine then some (xs ++ [y], .none) else none
  | _, _ => none
def mPop : MD
  | xs, [.int i] => if -(2 ^ 63) ≤ i ∧ i < 2 ^ 63 then (match seqIndex? i xs.length with
    | some k => match xs[k]? with
      | some y => some (xs.eraseIdx k, y)
      | none => none
    | none => none) else none
  | _, _ => none
def MutOk (K : PySem.W.Frag) (m : MD) (r : V → List V → Hp → VK → Prop) : Prop :=
  ∀ (F H : Hp) (a : Addr) (us : List V) (xs : List D) (ws : List V) (vs : List D) (ys : List D) (y : D) (Q : VK), H a = some (.lst us) → DqAll K F us xs → DqAll K F ws vs → m xs vs = some (ys, y) →
    (∀ (v : V) (us' : List V), DqAll K F us' ys → Dq K F v y → Q v (upd H a (.lst us'))) → r (.ref a) ws H Q
theorem mut_append {K : PySem.W.Frag} : MutOk K mAppend rAppend := by
  intro F H a us xs ws vs ys y Q h1 h2 h3 h4 k
  unfold mAppend at h4
  split at h4
  · rename_i z
    split at h4
    · rename_i hl
      simp only [Option.some.injEq, Prod.mk.injEq] at h4
      obtain ⟨rfl, rfl⟩ := h4
      cases h3 with
      | cons q1 q2 =>
        cases q2
        exact ⟨a, us, _, rfl, rfl, h1, by rw [DqAll.len h2]; exact hl, k _ _ (DqAll.app h2 (.one q1)) .non⟩
    · cases h4
  · cases h4
theorem mut_pop {K : PySem.W.Frag} : MutOk K mPop rPopAt := by
  intro F H a us xs ws vs ys y Q h1 h2 h3 h4 k
  unfold mPop at h4
  split at h4
  · rename_i i
    split at h4
    · rename_i hi
      split at h4
      · rename_i j hj
        split at h4
        · rename_i z hz
          simp only [Option.some.injEq, Prod.mk.injEq] at h4
          obtain ⟨rfl, rfl⟩ := h4
          cases h3 with
          | cons q1 q2 =>
            cases q2
            cases q1
            obtain ⟨v, g1, g2⟩ := DqAll.get h2 hz
            exact ⟨a, us, i, j, v, rfl, rfl, h1, hi.1, hi.2, by rw [DqAll.len h2]; exact hj, g1, k _ _ (DqAll.erase j h2) g2⟩
        · cases h4
      · cases h4
    · cases h4
  · cases h4
section
variable {X : Cx} {b : Bool} {o e : Expr} {es : List Expr} {i : Nat} {ds : List DE} {m : MD} {r : V → List V → Hp → VK → Prop} {name : Str} {apos cpos : Pos} {id : String}
theorem tyv_list {K : PySem.W.Frag} {H : Hp} {a : Addr} {us : List V} (h : H a = some (.lst us)) : tyV K "list" (.ref a) H := .inl ⟨rfl, us, .inl (.inl h)⟩
theorem pe_dmut (slot : Slot "list" name id) (hty : typeOf (.builtin id) = pure (.type "method_descriptor")) (hm : MtR X id r) (hk : MutOk X.K m r) (ho : PE X o (tVar i)) (ha : PA X (e :: es) (tXs X.K b ds))
    (hbase : attributeBase o name X.env (eval o X.env) = eval o X.env)
    (hfew
          : ((backTo cpos (starEach (e :: es) X.env)).all (fun x => !x.1) && (backToKw cpos (keywordEach [] X.env)).all (fun x => x.1.isSome)
      && decide ((e :: es).length + ([] : List Keyword).length + (if ([] : List Keyword).isEmpty then 0 else 1) < 30)) = true)
    (hline : (apos.endLine == cpos.line) = true) (hs : starEach (e :: es) X.env = (false, eval e X.env) :: starEach es X.env) (hplain : (backTo cpos (starEach es X.env)).any (·.1) = false) :
    PE X (.Call (.Attribute o name apos) (e :: es) [] cpos) (tE X.K b (dMut m i ds)) :=
  (pe_bm PySem.F.plainAttrs_list slot hty hm ho ha hbase hfew hline hs hplain).of fun σ H Q ⟨G, io, F, env, r, env', hb, h1, S, k⟩ => by
    unfold dMut at h1
    split at h1
    · rename_i xs0 h0
      split at h1
      · rename_i vs e1 h2
        split at h1
        · rename_i xs h3
          split at h1
          · rename_i ys y h4
            simp only [Option.some.injEq, Prod.mk.injEq] at h1
            obtain ⟨rfl, rfl⟩ := h1
            obtain ⟨v0, e0, a, us0, rfl, g0, _⟩ := S.sl i _ h0
            refine ⟨_, e0, tyv_list g0, tXs_at hb h2 S fun ws F' H' sm S' hw => ?_⟩
            obtain ⟨v1, e2, a1, us, rfl, g1, g2, g3, g4⟩ := S'.sl i _ h3
            rw [e0] at e2
            cases e2
            refine hk F' H' a us xs ws vs ys y Q g1 g4 hw h4 fun v us' d1 d2 => ?_
            exact k v F' _ sm (S'.write h3 e0 d1) d2 Apart.d
          · cases h1
        · cases h1
      · cases h1
    · cases h1
end

def dExt (i : Nat) (d : DE) : DE := fun e => match e[i]? with
  | some (some (.own _)) => match d e with
    | some (.own ys, e1) => match e1[i]? with
      | some (some (.own xs)) => if xs.length + ys.length ≤ sizeLine then some (.d .none, e1.set i (some (.own (xs ++ ys)))) else none
      | _ => none
    | _ => none
  | _ => none
section
variable {X : Cx} {b : Bool} {o e : Expr} {i : Nat} {d : DE} {apos cpos : Pos}
theorem pe_dext (ho : PE X o (tVar i)) (ha : PE X e (tE X.K b d))
    (hbase : attributeBase o "extend" X.env (eval o X.env) = eval o X.env)
    (hfew
          : ((backTo cpos (starEach [e] X.env)).all (fun x => !x.1) && (backToKw cpos (keywordEach [] X.env)).all (fun x => x.1.isSome)
      && decide (([e] : List Expr).length + ([] : List Keyword).length + (if ([] : List Keyword).isEmpty then 0 else 1) < 30)) = true)
    (hline : (apos.endLine == cpos.line) = true) (hs : starEach [e] X.env = (false, eval e X.env) :: starEach [] X.env) :
    PE X (.Call (.Attribute o "extend" apos) [e] [] cpos) (tE X.K b (dExt i d)) :=
  (pe_bm PySem.F.plainAttrs_list PySem.F.slot_list_extend PySem.F.type_list_extend mt_extend ho (pa_cons ha pa_nil hs) hbase hfew hline hs rfl).of fun σ H Q ⟨G, io, F, env, r, env', hb, h1, S, k⟩ => by
    unfold dExt at h1
    split at h1
    · rename_i xs0 h0
      split at h1
      · rename_i ys e1 h2
        split at h1
        · rename_i xs h3
          split at h1
          · rename_i hl
            simp only [Option.some.injEq, Prod.mk.injEq] at h1
            obtain ⟨rfl, rfl⟩ := h1
            obtain ⟨v0, e0, a, us0, rfl, g0, _⟩ := S.sl i _ h0
            refine ⟨_, e0, tyv_list g0, tE_at hb h2 S fun w F' H' sm S' hw ap => ?_⟩
            obtain ⟨c, zs, rfl, w1, w2, w3, w4⟩ := hw
            obtain ⟨v1, e2, a1, us, rfl, g1, g2, g3, g4⟩ := S'.sl i _ h3
            rw [e0] at e2
            cases e2
            refine ⟨a, c, us, zs, rfl, rfl, g1, w1, by rw [DqAll.len g4, DqAll.len w4]; exact hl, ?_⟩
            exact k _ F' _ sm (S'.write h3 e0 (DqAll.app g4 w4)) .non Apart.d
          · cases h1
        · cases h1
      · cases h1
    · cases h1
end
end L2
set_option Elab.async false
set_option autoImplicit false
set_option linter.all false
set_option maxRecDepth 100000
namespace PySem
open Sem (wp)
namespace F
theorem lk_fn_class : typeLookup (.type "function") "__class__" = pure (some (.builtin "object.__class__")) := by rw [typeLookup_type, builtinLookup_eq_fast]; kernel_rfl
theorem sub_fn_owner : isSubtype (.type "function") (.type (".".intercalate ("object.__class__".cutAt '.').dropLast)) = pure true := by
  rw
        [owner_object_class, isSubtype_type]; kernel_rfl
theorem slot_fn_ga : Slot "function" "__getattribute__" "object.__getattribute__" :=
  .of (owner := "object") (n := "__getattribute__") (by rw [typeLookup_type, builtinLookup_eq_fast]; kernel_rfl) (by decide +kernel) (by decide +kernel) (by decide +kernel) (.inl (by decide +kernel)) (by rw [isSubtype_type]; kernel_rfl)
end F
section
variable
      {prog : Program} {w : World} {A : Around} {E : Value → Shared → Prop} {h : Heap} {g : Array GenState} {d : Drawn} {t : Nat} {os : OsState} {a : Addr} {o : Obj}
theorem fn_get {R : Result → Shared → Prop} (hx : h.get? a = some o) (hc : o.cls = .type "function") (hq : R (.ok (.ret (.type "function"))) ⟨h, g, d, t, os⟩) :
    codeAny (model prog w) A (.call (.builtin "getset_descriptor.__get__") ⟨[.builtin "object.__class__", .ref a, .type "function"], []⟩) R ⟨h, g, d, t, os⟩ := by
  have hT : (⟨h, g, d, t, os⟩ : Shared).TypeIs (.ref a) "function" := ⟨_, hx, hc⟩
  have
        hT5 : (⟨h, g, d, t, os⟩ : Shared).TypeIs (.builtin "object.__class__") "getset_descriptor" := F.typeOf_object_class
  have f8 := F.sub_fn_owner
  refine
        codeAny_call_builtin F.slot_gs_get.plain F.entry_gs_get (F.slot_gs_get.check _ _ _ _ _ _ _ _ hT5 (F.args_gs_get _ _ _) ?_)
  repeat
        (any_goals (first | assumption | wp_step))
  refine
        ⟨Code.quiet_builtin _ (by decide +kernel), codeAny_builtin F.entry_object_class ?_⟩
  repeat
        (any_goals (first | assumption | wp_step))
theorem fn_entry {tk : Tok} {Q : Fin → Shared → Prop} (hx : h.get? a = some o) (hc : o.cls = .type "function") (hq : Q (.done (.ret (.type "function"))) ⟨h, g, d, t, os⟩) :
    wpAny
          (model prog w) A (Builtin.«object.__getattribute__» ⟨[.ref a, .str "__class__" tk], []⟩) Q E ⟨h, g, d, t, os⟩ := by
  have hT : (⟨h, g, d, t, os⟩ : Shared).TypeIs (.ref a) "function" := ⟨_, hx, hc⟩
  have
        hT5 : (⟨h, g, d, t, os⟩ : Shared).TypeIs (.builtin "object.__class__") "getset_descriptor" := F.typeOf_object_class
  have f4 := F.lk_fn_class
  have
        f5 := F.typeOf_object_class
  have
        f6 := F.slot_gs_get.lookup
  have
        f7 := F.slot_gs_set.lookup
  repeat
        (any_goals (first | assumption | wp_step))
  refine fn_get hx hc ?_
  repeat
        (any_goals (first | assumption | wp_step))
theorem fn_call {tk : Tok} {R : Result → Shared → Prop} (hx : h.get? a = some o) (hc : o.cls = .type "function") (hq : R (.ok (.ret (.type "function"))) ⟨h, g, d, t, os⟩) :
    codeAny (model prog w) A (.call (.builtin "object.__getattribute__") ⟨[.ref a, .str "__class__" tk], []⟩) R ⟨h, g, d, t, os⟩ :=
  codeAny_call_builtin F.slot_fn_ga.plain F.entry_object_getattribute (F.slot_fn_ga.check _ _ _ _ _ _ _ _ (show (⟨h, g, d, t, os⟩ : Shared).TypeIs (.ref a) "function" from ⟨_, hx, hc⟩) (F.args_object_getattribute_2 _ _) (fn_entry hx hc hq))
theorem fn_by {tk : Tok} {Q : Value → Shared → Prop} (hx : h.get? a = some o) (hc : o.cls = .type "function") (hq : Q (.type "function") ⟨h, g, d, t, os⟩) : wpAny (model prog w) A (getAttrBy (.ref a) (.str "__class__" tk) false) Q E ⟨h, g, d, t, os⟩ := by
  have hT : (⟨h, g, d, t, os⟩ : Shared).TypeIs (.ref a) "function" := ⟨_, hx, hc⟩
  have f2 := F.slot_fn_ga.lookup
  have f3 := F.slot_fn_ga.bind (.ref a)
  repeat
        (any_goals (first | assumption | wp_step))
  refine fn_call hx hc ?_
  repeat
        (any_goals (first | assumption | wp_step))
theorem fn_attr {Q : Option Value → Shared → Prop} (hx : h.get? a = some o) (hc : o.cls = .type "function") (hq : Q (some (.type "function")) ⟨h, g, d, t + 1, os⟩) : wpAny (model prog w) A (getAttr? (.ref a) "__class__") Q E ⟨h, g, d, t, os⟩ := by
  unfold getAttr? getAttrBy?
  repeat (any_goals (first | assumption | with_reducible apply fn_by hx hc | wp_step))
end
theorem kitx_fn {K : PySem.W.Frag} {a : Addr} : PySem.W.KitX K (.ref a) (.type "function") (PySem.W.KitAt a "function") := PySem.W.kitx_of PySem.W.kitAt_ty (fun {_ _ _ _ _ s} p k => by
  obtain ⟨h, g, d, t, os⟩ := s
  obtain ⟨o, h1, h2⟩ := p
  exact fn_attr h1 h2 k)
end PySem
set_option Elab.async false
set_option autoImplicit false
set_option linter.all false
set_option maxRecDepth 100000
set_option maxHeartbeats 1000001
namespace L2
open PyProof.Rows PySem PySem.Spec

def ixOf (ds : List D) (y : D) : Option Nat := ds.findIdx? fun z => PyData.eqv z y
def dTIx (d1 d2 : DE) : DE := fun e => match d1 e with
  | some (.d (.tuple ds), e1) => match d2 e1 with
    | some (.d y, e2) => if SeqAt.shaped (.tuple ds) = true ∧ SeqAt.shaped y = true then (match ixOf ds y with
      | some j => some (.d (.int (j : Nat)), e2)
      | none => none) else none
    | _ => none
  | _ => none
section
variable {X : Cx} {b : Bool} {o e : Expr} {es : List Expr} {d1 d2 : DE} {apos cpos pos : Pos}
inductive Ty where
  | int | bool | str | list | tuple | dict
def Ty.nm : Ty → String
  | .int => "int" | .bool => "bool" | .str => "str" | .list => "list" | .tuple => "tuple" | .dict => "dict"
def isFnK : List (D × D) → Bool
  | [(.none, .int _)] => true
  | _ => false
def isT : D → Ty → Bool
  | .int _, .int => true
  | .bool _, .int => true
  | .bool _, .bool => true
  | .str _, .str => true
  | .list _, .list => true
  | .tuple _, .tuple => true
  | .dict kvs, .list => isScr kvs
  | .dict kvs, .dict => !isScr kvs && !isFnK kvs
  | _, _ => false
def tyNm : D → String
  | .none => "NoneType" | .bool _ => "bool" | .int _ => "int" | .str _ => "str" | .list _ => "list" | .tuple _ => "tuple" | .dict kvs => if isScr kvs = true then "list" else if isFnK kvs = true then "function" else "dict"
def pIsi (ts : List Ty) : List D → Option TV
  | [x] => some (.d (.bool (ts.any (isT x))))
  | _ => none
theorem kit_d {K : PySem.W.Frag} (x : D) (t : Ty) : PySem.W.kitOne K (.type (tyNm x)) (.type t.nm) = some (isT x t) := by
  refine kit_ty ?_
  cases x with
  | dict kvs =>
    cases c : isScr kvs <;> cases c2 : isFnK kvs <;> cases t <;> (simp only [tyNm, Ty.nm, isT, c, c2, if_true, Bool.false_eq_true, if_false, Bool.not_true, Bool.not_false, Bool.and_true, Bool.and_false]; first | rfl | decide +kernel)
  | _ => cases t <;> first | (simp only [tyNm, Ty.nm, isT]; decide +kernel) | rfl
theorem kitAny_d {K : PySem.W.Frag} (x : D) : ∀ ts : List Ty, PySem.W.kitAny K (.type (tyNm x)) (ts.map fun t => .type t.nm) = some (ts.any (isT x))
  | [] => kitAny_nil
  | t :: ts => by
    rw [List.map_cons, List.any_cons]
    refine kitAny_cons (kit_d x t) (fun h => ?_) fun h => ?_
    · rw [h, Bool.false_or]
      exact kitAny_d x ts
    · rw [h, Bool.true_or]
def TyY (K : PySem.W.Frag) (H : Hp) (x : V) (t : Value) : Prop := TyX K H x t ∨ (∃ (a : Addr) (es : List DEnt) (ob : Obj), x = .ref a ∧ H a = some (DcO a es ob) ∧ t = .type "dict") ∨ ∃ (a : Addr) (o : Obj), x = .ref a ∧ K.lookup a = some o ∧ o.cls = .type "function" ∧ t = .type "function"
theorem kit_ofY {X : Cx} {pins : List (Addr × Obj)} {σ : St} {H : Hp} {s : Shared} {x : V} {u t : Value} (I : Inv X pins σ H s) (rx : RelV x u) (ty : TyY X.K H x t) : ∃ P : Heap → Prop, PySem.W.KitX X.K u t P ∧ P s.heap ∧ u ≠ .builtin "__main__.__loader__#opaque" := by
  rcases ty with ty | ⟨a, es, o, rfl, e, rfl⟩ | ⟨a, o, rfl, e, hc, rfl⟩
  · exact kit_of I rx ty
  · cases (show u = Value.ref a from rx)
    obtain ⟨⟨_, _, _, us, _, ds, ep, h1, h2, _⟩, _⟩ := (show ObjOk X.prog X.w H s.heap a (DcO a es o) from I.hok a _ e)
    exact
          ⟨_, PySem.W.kitx_dict, ⟨o, h1, h2.1⟩, fun z => nomatch z⟩
  · cases (show u = Value.ref a from rx)
    exact ⟨_, PySem.kitx_fn, ⟨o, I.kIn a o e, hc⟩, fun z => nomatch z⟩
def rIsiY (K : PySem.W.Frag) : List V → Hp → VK → Prop := fun xs H Q => ∃ (x c : V) (t u : Value) (b : Bool), xs = [x, c] ∧ ClsV c u ∧ TyY K H x t ∧ PySem.W.kitOne K t u = some b ∧ Q (.bl b) H
def rIsiTY (K : PySem.W.Frag) : List V → Hp → VK → Prop := fun xs H Q => ∃ (x : V) (tp : Addr) (cs : List V) (t : Value) (us : List Value) (b : Bool), xs = [x, .ref tp] ∧ H tp = some (.tup cs) ∧ Paired ClsV cs us ∧ TyY K H x t ∧ PySem.W.kitAny K t us = some b ∧ Q (.bl b) H
theorem call_isiY {X : Cx} : CallR X (.builtin "isinstance") (rIsiY X.K) := by
  intro
        pins s σ H xs us Q I r h
  obtain
        ⟨x, c, t, u, b, rfl, k, ty, e, q⟩ := h
  obtain
        ⟨u1, u2, rfl, r1, r2⟩ := vals2 r
  have e2 := k.eq r2
  subst e2
  obtain ⟨P, Z, p, hx⟩ := kit_ofY I r1 ty
  exact
        PySem.W.kia_one Z I.kIn p e hx fun tk => ⟨.bl b, H, I.tok tk, rfl, q⟩
theorem call_isiTY {X : Cx} : CallR X (.builtin "isinstance") (rIsiTY X.K) := by
  intro
        pins s σ H xs us Q I r h
  obtain
        ⟨x, tp, cs, t, ws, b, rfl, hT, k, ty, e, q⟩ := h
  obtain
        ⟨u1, u2, rfl, r1, r2⟩ := vals2 r
  cases
        (show u2 = Value.ref tp from r2)
  obtain ⟨P, Z, p, hx⟩ := kit_ofY I r1 ty
  obtain
        ⟨_, its, rv, o, h1, h2, n, h3⟩ := (show ObjOk X.prog X.w H s.heap tp (.tup cs) from I.hok tp _ hT)
  have e3 := ClsV.all k rv
  subst e3
  obtain ⟨oc, od, dt, sl⟩ := o
  simp only at h2 h3
  subst h2 h3
  exact
        PySem.W.kia_tup Z I.kIn p h1 e hx fun tk => ⟨.bl b, H, I.tok tk, rfl, q⟩
theorem tyx_of {K : PySem.W.Frag} {F H : Hp} {v : V} {x : D} (h : DpB K F H v x) (e : Same F H) : TyY K H v (.type (tyNm x)) := by
  cases h with
  | non => exact .inl (.base .non)
  | bl b => exact .inl (.base (.bl b))
  | int i => exact .inl (.base (.int i))
  | str x => exact .inl (.base (.str x))
  | lst hs ha =>
    rcases hs with h | ⟨o, h⟩
    · exact .inl (.base (.lst h))
    · exact .inl (.base (.frz h))
  | tup hs hb ha =>
    rcases hs with (h | ⟨o, h⟩) | ⟨o, its, n, h, hc, _⟩
    · exact .inl (.base (.tup (e _ _ h)))
    · exact .inl (.fTuple (e _ _ h))
    · exact .inl (.kTuple h hc)
  | scr hs =>
    rename_i is
    obtain ⟨o, its, n, h, hc, _⟩ := hs
    have q : tyNm (.dict (is.map fun i => (.int i, .none))) = "list" := by simp only [tyNm, isScr_of is, if_true]
    rw [q]
    exact .inl (.kList h hc)
  | dic hs =>
    rcases hs with h | ⟨o, h⟩
    · exact .inl (.base (.dK (e _ _ h)))
    · exact .inl (.fDict (e _ _ h))
  | dct hs hk =>
    rename_i kvs ps
    have q : tyNm (.dict ((.bool true, .none) :: ps)) = "dict" := by
      have z : isScr ((.bool true, .none) :: ps) = false := rfl
      have z2 : isFnK ((.bool true, .none) :: ps) = false := rfl
      simp only [tyNm, z, z2, Bool.false_eq_true, if_false]
    rw [q]
    rcases hs with h | ⟨o, h⟩
    · exact .inl (.base (.dK (e _ _ h)))
    · exact .inl (.fDict (e _ _ h))
  | dcx hs hk hv =>
    rename_i a es ob ds
    have q : tyNm (.dict ((.bool false, .none) :: dps es ds)) = "dict" := by
      have z : isScr ((.bool false, .none) :: dps es ds) = false := rfl
      have z2 : isFnK ((.bool false, .none) :: dps es ds) = false := rfl
      simp only [tyNm, z, z2, Bool.false_eq_true, if_false]
    rw [q]
    exact .inr (.inl ⟨_, _, _, rfl, hs, rfl⟩)
  | dci hs hv =>
    rename_i kvs ds
    have q : tyNm (.dict ((.bool false, .none) :: ips kvs ds)) = "dict" := by
      have z : isScr ((.bool false, .none) :: ips kvs ds) = false := rfl
      have z2 : isFnK ((.bool false, .none) :: ips kvs ds) = false := rfl
      simp only [tyNm, z, z2, Bool.false_eq_true, if_false]
    rw [q]
    rcases hs with h | ⟨o, h⟩
    · exact .inl (.base (.dK h))
    · exact .inl (.fDict h)
  | fn hk hl =>
    obtain ⟨o, h1, h2⟩ := hl
    exact .inr (.inr ⟨_, o, rfl, h1, h2, rfl⟩)
theorem tyx_up {K : PySem.W.Frag} {F H : Hp} {v : V} {x : D} {p : Addr} {u : HO} (h : DpB K F H v x) (e : Same F H) (hp : H p = none) : TyY K (upd H p u) v (.type (tyNm x)) := by
  have e2 : Same H (upd H p u) := same_upd hp
  cases h with
  | non => exact .inl (.base .non)
  | bl b => exact .inl (.base (.bl b))
  | int i => exact .inl (.base (.int i))
  | str x => exact .inl (.base (.str x))
  | lst hs ha => exact tyx_of (F := F) (.lst (rdSame e2 hs) ha) (e.trans e2)
  | tup hs hb ha => exact tyx_of (F := F) (.tup hs hb ha) (e.trans e2)
  | scr hs => exact tyx_of (F := F) (H := upd H p u) (.scr hs) (e.trans e2)
  | dic hs => exact tyx_of (F := F) (H := upd H p u) (.dic hs) (e.trans e2)
  | dct hs hk => exact tyx_of (F := F) (H := upd H p u) (.dct hs hk) (e.trans e2)
  | dcx hs hk hv => exact tyx_of (F := F) (H := upd H p u) (.dcx (e2 _ _ hs) hk hv) (e.trans e2)
  | dci hs hv => exact tyx_of (F := F) (H := upd H p u) (.dci (rdSame e2 hs) hv) (e.trans e2)
  | fn hk hl => exact tyx_of (F := F) (H := upd H p u) (.fn hk hl) (e.trans e2)
variable {ob : Opd} {p p2 pt : Pos} {k2 : Nat}
theorem pe_disi1 {t : Ty} {e2 : Expr} (ho : PE X e (tO X.K b ob)) (hg : Gl X "isinstance") (hm : X.mg "isinstance" = none) (ht : PE X e2 (tC (.ty t.nm))) (he : starEach [e, e2] X.env = (false, eval e X.env) :: starEach [e2] X.env) (he2 : starEach [e2] X.env = (false, eval e2 X.env) :: starEach [] X.env)
    (hpl : (backTo pos (starEach [e2] X.env)).any (·.1) = false) :
    PE X (.Call (.Name "isinstance" p) [e, e2] [] pos) (tE X.K b (dPrim (pIsi [t]) [ob])) :=
  (pe_callB call_isiY hg hm boot_isinstance (pa_cons ho (pa_cons ht pa_nil he2) he) (by decide) (by decide) he hpl).of fun σ H Q ⟨G, io, F, env, r, env', hb, h1, S, k⟩ => by
    have q := prim_at hb h1 S k
    have fin : ∀ (v : V) (H1 : Hp), rPs X.K (pIsi [t]) [v] H1 Q → rIsiY X.K [v, .ty t.nm] H1 Q := by
      intro v H1 ⟨F2, xs, r2, sm, hd, hg, pp⟩
      cases hd with
      | cons d1 d2 =>
        cases d2
        simp only [pIsi, Option.some.injEq] at hg
        subst hg
        refine ⟨v, .ty t.nm, _, .type t.nm, _, rfl, .ty _, tyx_of d1 sm, kit_d _ t, ?_⟩
        have := pp.scal sm (.bl _)
        simpa using this
    cases ob with
    | bor i =>
      obtain ⟨v, q1, q2⟩ := q
      exact ⟨v, q1, fin v _ q2⟩
    | ex d =>
      obtain ⟨G1, io1, F1, env1, r1, env1', hb1, w1, S1, k1⟩ := q
      exact ⟨G1, io1, F1, env1, r1, env1', hb1, w1, S1, fun v F' H' s1 s2 s3 s4 => fin v _ (k1 v F' H' s1 s2 s3 s4)⟩
theorem pe_disi2 {t u : Ty} {e2 e3 : Expr} (ho : PE X e (tO X.K b ob)) (hg : Gl X "isinstance") (hm : X.mg "isinstance" = none) (ht : PE X e2 (tC (.ty t.nm))) (hu : PE X e3 (tC (.ty u.nm))) (he : starEach [e, .Tuple [e2, e3] k2 pt] X.env = (false, eval e X.env) :: starEach [.Tuple [e2, e3] k2 pt] X.env)
    (h1' : starEach [.Tuple [e2, e3] k2 pt] X.env = (false, eval (.Tuple [e2, e3] k2 pt) X.env) :: starEach [] X.env) (h2' : starEach [e2, e3] X.env = (false, eval e2 X.env) :: starEach [e3] X.env) (h3' : starEach [e3] X.env = (false, eval e3 X.env) :: starEach [] X.env)
    (hpl : (backTo pos (starEach [.Tuple [e2, e3] k2 pt] X.env)).any (·.1) = false) :
    PE X (.Call (.Name "isinstance" p) [e, .Tuple [e2, e3] k2 pt] [] pos) (tE X.K b (dPrim (pIsi [t, u]) [ob])) :=
  (pe_callB call_isiTY hg hm boot_isinstance (pa_cons ho (pa_cons (pe_tup (pa_cons ht (pa_cons hu pa_nil h3') h2')) pa_nil h1') he) (by decide) (by decide) he hpl).of fun σ H Q ⟨G, io, F, env, r, env', hb, h1, S, k⟩ => by
    have q := prim_at hb h1 S k
    have fin : ∀ (v : V) (H1 : Hp), rPs X.K (pIsi [t, u]) [v] H1 Q → ∀ z, H1 z = none → rIsiTY X.K [v, .ref z] (upd H1 z (.tup [.ty t.nm, .ty u.nm])) Q := by
      intro v H1 ⟨F2, xs, r2, sm, hd, hg, pp⟩ z hz
      cases hd with
      | cons d1 d2 =>
        cases d2
        simp only [pIsi, Option.some.injEq] at hg
        subst hg
        refine ⟨v, z, [.ty t.nm, .ty u.nm], _, [.type t.nm, .type u.nm], _, rfl, upd_same, .cons (.ty _) (.cons (.ty _) .nil), tyx_up d1 sm hz, kitAny_d _ [t, u], ?_⟩
        exact pp _ _ _ (.lay sm hz) (.bl _)
    cases ob with
    | bor i =>
      obtain ⟨v, q1, q2⟩ := q
      exact ⟨v, q1, by show 2 ≤ sizeLine; decide, fun z hz => fin v _ q2 z hz⟩
    | ex d =>
      obtain ⟨G1, io1, F1, env1, r1, env1', hb1, w1, S1, k1⟩ := q
      refine ⟨G1, io1, F1, env1, r1, env1', hb1, w1, S1, fun v F' H' s1 s2 s3 s4 => ?_⟩
      exact ⟨by show 2 ≤ sizeLine; decide, fun z hz => fin v _ (k1 v F' H' s1 s2 s3 s4) z hz⟩
end
end L2
set_option Elab.async false
set_option autoImplicit false
set_option linter.all false
set_option maxRecDepth 100000
set_option maxHeartbeats 1000001
namespace L2
open PyProof.Rows PySem PySem.Spec
section
variable
      {prog : Program} {w : World} {A : Around} {E : Value → Shared → Prop} {s : Shared}
end
section
variable {X : Cx} {b : Bool} {o e : Expr} {ob : Opd} {pos p1 p2 p3 p : Pos} {k : Nat}
def reprOk (x : D) : Bool := x.canLay0 && x.showable && !x.hasDict && decide (x.depth ≤ 64) && decide (x.shown.length ≤ sizeLine)
def pRepr : List D → Option TV
  | [.int i] => if i.natAbs.log2 < 1920 then some (.d (.str (toString i))) else none
  | [.list xs] => if reprOk (.list xs) = true then some (.d (.str (PyData.shown (.list xs)))) else none
  | [.tuple xs] => if reprOk (.tuple xs) = true then some (.d (.str (PyData.shown (.tuple xs)))) else none
  | _ => none
theorem cr_reprRef (hg : X.A.guards = some []) (hu : X.A.units + 66 < cLine) {x : D} {a : Addr} (hr : reprOk x = true) {pins : List (Addr × Obj)} {s : Shared} {σ : St} {H : Hp} {Q : VK} (I : Inv X pins σ H s) (hd : Dq X.K H (.ref a) x) (q : Q (.str x.shown) H) :
    wpAny (model X.prog X.w) X.A (call (.builtin "repr") [.ref a]) (EP X pins σ Q) X.xe s := by
  unfold reprOk at hr
  simp only [Bool.and_eq_true, decide_eq_true_eq, Bool.not_eq_true'] at hr
  obtain ⟨⟨⟨⟨h0, h1⟩, h2⟩, h3⟩, h4⟩ := hr
  obtain ⟨as, r⟩ := Dp.reads I x (.ref a) (.ref a) (hd.dp h0) rfl
  refine repr_of_reads' r h1 (fun z => by rw [h2] at z; cases z) hg (by omega) (fun c ob z => z) (fun h' u tk hk => ?_) h4
  exact ⟨.str x.shown, H, I.kept (t' := tk) hk, ⟨_, rfl⟩, q⟩
theorem cr_pRepr (hg : X.A.guards = some []) (hu : X.A.units + 66 < cLine) : CallR X (.builtin "repr") (rPs X.K pRepr) := by
  intro pins s σ H vs us Q I rv ⟨F, xs, t, sm, hs, h, p⟩
  unfold pRepr at h
  split at h
  · rename_i i
    split at h
    · rename_i c
      cases h
      cases hs with
      | cons h1 t1 =>
        cases t1
        cases h1
        exact SkE.call_repr_int pins s σ H _ us Q I rv ⟨i, rfl, c, p.scal sm (.str _)⟩
    · cases h
  · rename_i ys
    split at h
    · rename_i c
      cases h
      cases hs with
      | cons h1 t1 =>
        cases t1
        have d := h1.dp sm
        cases h1 with
        | lst ha hd =>
          obtain ⟨u, rfl, ru⟩ := vals1 rv
          cases ru
          exact cr_reprRef hg hu c I d (p.scal sm (.str _))
    · cases h
  · rename_i ys
    split at h
    · rename_i c
      cases h
      cases hs with
      | cons h1 t1 =>
        cases t1
        have d := h1.dp sm
        cases h1 with
        | tup ha hb hd =>
          obtain ⟨u, rfl, ru⟩ := vals1 rv
          cases ru
          exact cr_reprRef hg hu c I d (p.scal sm (.str _))
    · cases h
  · cases h
end
end L2
set_option Elab.async false
set_option autoImplicit false
set_option linter.all false
set_option maxRecDepth 100000
set_option maxHeartbeats 2000001
namespace L2
open PyProof.Rows PySem PySem.Spec
open
      AutoSeq1 (wpAny_loadPart')

theorem newEnumT (a : Addr) (xs : Array Value) (n : Nat) (dd : Option Addr) (sl : Array (Option Value)) :
    Meets (Builtin.«enumerate.__new__» ⟨[.type "enumerate", .ref a], []⟩) (fun _ R s => s.heap.get? a = some { cls := .type "tuple", dict := dd, data := .seq xs n, slots := sl } ∧
      R (.ok (.ret (.ref (s.heap.push { cls := .type "tuple_iterator", data := .fields #[.ref a, .int 0 0] }).objs.size)))
        { s with heap := (s.heap.push { cls := .type "tuple_iterator", data := .fields #[.ref a, .int 0 0] }).push { cls := .type "enumerate", data := .fields #[.none, .bool false, .ref s.heap.objs.size, rawInt 0, .none, .none] } }) :=
  .of_wp
        fun prog w A R s h => by
    obtain
          ⟨hp, g, d, tk, os⟩ := s
    obtain ⟨ha, h⟩ := h
    have sub := sub_enumerate
    have hT : Heap.IsTuple (Shared.heap ⟨hp, g, d, tk, os⟩) a xs := ⟨_, ha, rfl, n, rfl⟩
    wp_walk using wpAny_loadPart' ha
    refine
          wpAny_stack_any fun st => wpAny_pure ?_
    split
    · rename_i c _ _ _ _ _
      cases
            (c == Value.type "enumerate")
      · wp_walk using wpAny_loadPart' ha, wpAny_pyIter_tuple hT
        exact ⟨_, rfl, h⟩
      · wp_walk using wpAny_loadPart' ha, wpAny_pyIter_tuple hT
        exact ⟨_, rfl, h⟩
    · wp_walk using wpAny_loadPart' ha, wpAny_pyIter_tuple hT
      exact ⟨_, rfl, h⟩
theorem callEnumT {prog : Program} {w : World} {A : Around} {E : Value → Shared → Prop} {s : Shared} {a : Addr} {xs : Array Value} {Q : Value → Shared → Prop} (hT : IsTup s.heap a xs)
    (h : ∀ h', IsEnum h' (s.heap.objs.size + 1) s.heap.objs.size 0 .none → h'.IsTupleIter s.heap.objs.size a 0 → (∀ b o, s.heap.get? b = some o → h'.get? b = some o) → Q (.ref (s.heap.objs.size + 1)) { s with heap := h' }) :
    wpAny (model prog w) A (call (.type "enumerate") [.ref a]) Q E s := by
  obtain ⟨⟨c, dd, dt, sl⟩, ha, hc, n, hd⟩ := hT
  replace hc : c = .type "tuple" := hc
  replace hd : dt = .seq xs n := hd
  subst hc hd
  refine callType_new F.called_enumerate (by decide) (F.typeCall_enumerate_1 _) (F.newCall_enumerate_1 _) (fun obj => F.args_object_init_2 obj _) F.entry_enumerate_new (newEnumT a xs n dd sl) ⟨ha, ?_⟩
  have hz : (s.heap.push { cls := .type "tuple_iterator", data := .fields #[.ref a, .int 0 0] }).objs.size = s.heap.objs.size + 1 := Heap.size_push ..
  show _ ∧ _
  rw [hz]
  have he : IsEnum ((s.heap.push { cls := .type "tuple_iterator", data := .fields #[.ref a, .int 0 0] }).push { cls := .type "enumerate", data := .fields #[.none, .bool false, .ref s.heap.objs.size, rawInt 0, .none, .none] }) (s.heap.objs.size + 1) s.heap.objs.size 0 .none := by
    have q := Heap.get?_push_size (s.heap.push { cls := .type "tuple_iterator", data := .fields #[.ref a, .int 0 0] }) (o := { cls := .type "enumerate", data := .fields #[.none, .bool false, .ref s.heap.objs.size, rawInt 0, .none, .none] }) rfl
    rw [hz] at q
    exact q
  exact ⟨⟨_, he, rfl⟩, h _ he ⟨_, Heap.get?_push_of_some _ (Heap.get?_push_size _ rfl), rfl, rfl⟩ fun b o x => Heap.get?_push_of_some _ (Heap.get?_push_of_some _ x)⟩
def ItET (K : PySem.W.Frag) (a : Addr) : It :=
  ⟨fun i H => ∃ (xs : List V) (x : V), SqT K H a xs ∧ xs[i]? = some x, fun i H v H' => ∃ T x, v = .ref T ∧ H T = none ∧ H' = upd H T (.tup [.int (i : Nat), x]) ∧ ∀ xs, SqT K H a xs → xs[i]? = some x, fun i H => ∃ xs : List V, SqT K H a xs ∧ xs.length = i⟩
theorem turnE {P : Program} {w : World} {K : PySem.W.Frag} {elts : List Expr} {kk : Nat} {tpos : Pos} (a e it : Addr) :
    Turn P w K (.Tuple elts kk tpos) (ItET K a) [e, it] e (fun i h => (∃ old, IsEnum h e it ((i : Nat) : Int) old) ∧ h.IsTupleIter it a i ∧ e ≠ it ∧ e ≠ a ∧ a ≠ it) where
  mem := by simp
  obj := fun i h st b hb => by
    obtain
          ⟨⟨old, he⟩, ⟨o, ho, hc, hd⟩, _⟩ := st
    have z : b = e ∨ b = it := by simpa using hb
    rcases z with z | z
    · rw
          [z]; exact ⟨_, he, fun v q => nomatch q⟩
    · rw
          [z]; exact ⟨o, ho, fun v q => by rw [hd] at q; cases q⟩
  keep
        := fun i h h' st k => let ⟨⟨old, he⟩, hi, hne⟩ := st; ⟨⟨old, k e (by simp) _ he⟩, hi.at fun o q => k it (by simp) o q, hne⟩
  item := by
    intro
          X hP hw hK hc i pins s σ H E I hf st hg
    subst hP hw hK
    obtain ⟨⟨old, he⟩, hit, hne, hea, hai⟩ := st
    obtain ⟨xs, x, hq, hx⟩ := hg
    obtain
          ⟨its, rv, p, hz⟩ := I.tuple hq
    obtain
          ⟨u, hu, ru⟩ := rv.get hx
    have
          hel : e < s.heap.objs.size := Heap.lt_size he
    have
          hil : it < s.heap.objs.size := by obtain ⟨_, q, _⟩ := hit; exact Heap.lt_size q
    have hlt : i < its.toArray.size := by
      rw [List.size_toArray]
      exact (List.getElem?_eq_some_iff.mp hu).1
    have DT := Draws.tuple (prog := X.prog) (w := X.w) (A := X.A.in1) (show X.A.in1.handled = none from I.ok.hd hc) it a hai its.toArray
    refine wpAny_pyNext_enum_itemD DT he ⟨hit, (show s.heap.IsTuple a its.toArray from p)⟩ hlt hne (by simp only [List.mem_cons, List.not_mem_nil, or_false, not_or]; exact ⟨hne, hea⟩) fun x' h' tk hx' ho hit' hT hsz hk => ?_
    have ex : x' = u := by
      have hu' : its.toArray[i]? = some u := by simpa using hu
      rw [hu'] at hx'
      exact (Option.some.inj hx').symm
    subst ex
    refine ⟨_, rfl, wpAny_letOwnedTupleGo_enum (s := { s with heap := h', toks := tk + 1 }) ho fun h'' he' sb => ?_⟩
    have hT2 : h''.get? s.heap.objs.size = some { cls := .type "tuple", data := .seq #[.int i tk, x'] } := (sb.2 _ (Nat.ne_of_gt hel)).trans hT
    have
          new : ObjOk X.prog X.w (upd H s.heap.objs.size (.tup [.int (i : Nat), x])) h'' s.heap.objs.size (.tup [.int (i : Nat), x]) :=
      ⟨by show 2 ≤ sizeLine; decide, [.int i tk, x'], .cons ⟨_, rfl⟩ (.cons ru .nil), ⟨_, hT2, rfl, _, rfl⟩⟩
    have I1 : Inv X pins σ (upd H s.heap.objs.size (.tup [.int (i : Nat), x])) { s with heap := h'', toks := tk + 1 } :=
      I.turnedNew
            (ch := [e, it]) (fun b ob hb q => (sb.2 b (fun z => hb (by simp [z]))).trans (hk b ob (fun z => hb (by simp [z])) (fun z => hb (by simp [z])) q)) hf (Nat.le_refl _) new
    refine ⟨.ref s.heap.objs.size, _, I1, rfl, ⟨_, x, rfl, I.hok.fresh (Nat.le_refl _), rfl, fun ys hy => by rw [I.tuple_inj hy hq]; exact hx⟩, ⟨⟨x', ?_⟩, hit'.1.at fun o q => (sb.2 it (Ne.symm hne)).trans q, hne, hea, hai⟩, fun b hb => ?_⟩
    · have
          e1 : ((i + 1 : Nat) : Int) = (i : Int) + 1 := by omega
      rw [e1]
      exact he'
    · have
          hb' : b < s.heap.objs.size := by
        have z : b = e ∨ b = it := by simpa using hb
        rcases z with z | z
        · rw [z]; exact hel
        · rw [z]; exact hil
      rw
            [upd_ne (Nat.ne_of_lt hb')]
      exact (hf b hb).1
  done := by
    intro
          X hP hw hK hc i pins s σ H E I hf st hg
    subst hP hw hK
    obtain ⟨⟨old, he⟩, hit, hne, hea, hai⟩ := st
    obtain ⟨xs, hq, hx⟩ := hg
    obtain
          ⟨its, rv, p, hz⟩ := I.tuple hq
    obtain
          ⟨f0, f1, f2, f3, f4, f5⟩ := hf it (by simp)
    have hl := rv.length
    have ei : i = its.toArray.size := by rw [List.size_toArray]; omega
    have DT := Draws.tuple (prog := X.prog) (w := X.w) (A := X.A.in1) (show X.A.in1.handled = none from I.ok.hd hc) it a hai its.toArray
    subst ei
    exact wpAny_pyNext_enum_endD DT he ⟨hit, (show s.heap.IsTuple a its.toArray from p)⟩ fun h' eb => ⟨rfl, I.turned (t' := s.toks) (fun b o hb q => eb b o hb q) f0 f1 f3 f4 f5⟩
  self
        := fun A i s Q E st h => let ⟨⟨_, he⟩, _⟩ := st; wpAny_pyIter_enum he h
def iEnumT (K : PySem.W.Frag) (ta : TA) : TI := fun σ H R => ta σ H fun vs H1 => ∃ a xs, vs = [.ref a] ∧ ((SqL K H1 a xs ∧ R (Ite K a) H1) ∨ (SqT K H1 a xs ∧ R (ItET K a) H1))
theorem pi_enumT {X : Cx} {e : Expr} {ta : TA} {p pos tpos : Pos} {elts : List Expr} {kk : Nat} (hg : Gl X "enumerate") (hm : X.mg "enumerate" = none) (ha : PA X [e] ta) (hs : starEach [e] X.env = [(false, eval e X.env)]) :
    PI X (.Tuple elts kk tpos) (.Call (.Name "enumerate" p) [e] [] pos) (iEnumT X.K ta) := by
  refine
        ⟨fun pins s σ H R I h => ?_⟩
  refine
        Call_ (ld_blt I hg hm boot_enumerate (PyProof.Rows.callWith_type1 (thn (ha.run pos pins s σ H _ I h) fun us s1 ⟨vs, H1, I1, r1, q1⟩ => ?_) hs rfl))
  obtain ⟨a, xs, rfl, hq⟩ := q1
  cases r1 with
  | cons r rr =>
    cases rr
    cases r
    have old : ∀ b, b ∈ [s1.heap.objs.size + 1, s1.heap.objs.size] → FpOk X pins H1 b := fun b hb => by
      have z : b = s1.heap.objs.size + 1 ∨ b = s1.heap.objs.size := by simpa using hb
      have
            hle : s1.heap.objs.size ≤ b := by
        rcases z with z | z
        · rw
              [z]; exact Nat.le_add_right _ _
        · rw [z]; exact Nat.le_refl _
      exact
            I1.fpOk hle (I1.hok.fresh hle)
    rcases hq with ⟨hq, q⟩ | ⟨hq, q⟩
    · obtain
          ⟨its, rv, p', hz⟩ := I1.list hq
      refine
            call_enumerate_list p'.isList fun h' he hit hsz hk => wpAny_pyIter_enum he ?_
      exact ⟨s1.heap.objs.size + 1, [s1.heap.objs.size + 1, s1.heap.objs.size], _, _, H1, rfl, I1.kept (t' := s1.toks) hk, turn_enum a (s1.heap.objs.size + 1) s1.heap.objs.size, ⟨⟨.none, he⟩, hit, Nat.succ_ne_self _⟩, old, q⟩
    · obtain
          ⟨its, rv, p', hz⟩ := I1.tuple hq
      have hlt : a < s1.heap.objs.size := by obtain ⟨o, ho, _⟩ := p'; exact Heap.lt_size ho
      refine callEnumT p' fun h' he hit hk => wpAny_pyIter_enum he ?_
      exact ⟨s1.heap.objs.size + 1, [s1.heap.objs.size + 1, s1.heap.objs.size], _, _, H1, rfl, I1.kept (t' := s1.toks) hk, turnE a (s1.heap.objs.size + 1) s1.heap.objs.size, ⟨⟨.none, he⟩, hit, Nat.succ_ne_self _, (Nat.ne_of_gt (Nat.lt_succ_of_lt hlt)), Nat.ne_of_lt hlt⟩, old, q⟩
end L2
set_option Elab.async false
set_option autoImplicit false
set_option linter.all false
set_option maxRecDepth 100000
set_option maxHeartbeats 1000001
namespace L2
open PyProof.Rows PySem PySem.Spec

def seqD : D → Option (List D)
  | .list xs => some xs
  | .tuple xs => some xs
  | _ => none
def iSeq (d : DE) : DI := fun e => match d e with
  | some (.d x, e1) => match seqD x with
    | some xs => some (xs, e1)
    | none => none
  | _ => none
def rgD (lo : Int) (n : Nat) : List D := (List.range n).map fun (i : Nat) => .int (lo + (i : Int))
def smallR (i j : Int) : Bool := decide (-(2 ^ 62) ≤ i ∧ i < 2 ^ 62 ∧ -(2 ^ 62) ≤ j ∧ j < 2 ^ 62)
def rgOf : List D → Option (Int × Int)
  | [.int j] => if smallR 0 j = true then some (0, j) else none
  | [.int i, .int j] => if smallR i j = true then some (i, j) else none
  | _ => none
def iRg (os : List Opd) : DI := fun e => match evs os e with
  | some (xs, e1) => match rgOf xs with
    | some (i, j) => some (rgD i (j - i).toNat, e1)
    | none => none
  | none => none
def pairsD : Nat → List D → List D
  | _, [] => []
  | i, x :: xs => .tuple [.int (i : Nat), x] :: pairsD (i + 1) xs
def iEnu (d : DE) : DI := fun e => match d e with
  | some (.d x, e1) => match seqD x with
    | some xs => some (pairsD 0 xs, e1)
    | none => none
  | _ => none
theorem rgD_get {lo : Int} {n i : Nat} {x : D} (h : (rgD lo n)[i]? = some x) : i < n ∧ x = .int (lo + (i : Int)) := by
  unfold rgD at h
  rw [List.getElem?_map] at h
  by_cases hi : i < n
  · rw [List.getElem?_range hi] at h
    exact ⟨hi, (Option.some.inj h).symm⟩
  · rw [List.getElem?_eq_none (by rw [List.length_range]; omega)] at h
    cases h
theorem rgD_len {lo : Int} {n : Nat} : (rgD lo n).length = n := by
  unfold rgD
  rw
        [List.length_map, List.length_range]
theorem pairsD_get : ∀ {xs : List D} {k i : Nat} {x : D}, (pairsD k xs)[i]? = some x → ∃ y, xs[i]? = some y ∧ x = .tuple [.int ((k + i : Nat) : Int), y]
  | [], _, _, _, h => by simp [pairsD] at h
  | y :: ys, k, 0, x, h => by
    simp only [pairsD, List.getElem?_cons_zero, Option.some.injEq] at h
    exact ⟨y, rfl, h.symm⟩
  | y :: ys, k, i + 1, x, h => by
    simp only [pairsD, List.getElem?_cons_succ] at h
    obtain ⟨z, h1, h2⟩ := pairsD_get h
    refine ⟨z, by simpa using h1, ?_⟩
    rw [h2]
    have e : k + 1 + i = k + (i + 1) := by omega
    rw [e]
theorem pairsD_len : ∀ {xs : List D} {k : Nat}, (pairsD k xs).length = xs.length
  | [], _ => rfl
  | _ :: xs, k => by simp [pairsD, pairsD_len (xs := xs)]
theorem Dq.lstI {K : PySem.W.Frag} {F : Hp} {v : V} {zs : List D} (h : Dq K F v (.list zs)) : ∃ a us, v = .ref a ∧ Rd F a (.lst us) ∧ DqAll K F us zs := by
  cases h with
  | lst h1 h2 => exact ⟨_, _, rfl, h1, h2⟩
theorem Dq.tupI {K : PySem.W.Frag} {F : Hp} {v : V} {zs : List D} (h : Dq K F v (.tuple zs)) : ∃ a us, v = .ref a ∧ SqT K F a us ∧ Bare K F a ∧ DqAll K F us zs := by
  cases h with
  | tup h1 h2 h3 => exact ⟨_, _, rfl, h1, h2, h3⟩
theorem evs_len : ∀ {os : List Opd} {e e1 : Slots} {xs : List D}, evs os e = some (xs, e1) → xs.length = os.length
  | [], e, e1, xs, h => by
    simp only [evs, Option.some.injEq, Prod.mk.injEq] at h
    rw [← h.1]
    rfl
  | .bor i :: os, e, e1, xs, h => by
    simp only [evs] at h
    split at h
    · split at h
      · rename_i ys e2 h2
        split at h
        · simp only [Option.some.injEq, Prod.mk.injEq] at h
          rw [← h.1, List.length_cons, List.length_cons, evs_len h2]
        · cases h
      · cases h
    · cases h
  | .ex d :: os, e, e1, xs, h => by
    simp only [evs] at h
    split at h
    · split at h
      · rename_i ys e2 h2
        simp only [Option.some.injEq, Prod.mk.injEq] at h
        rw [← h.1, List.length_cons, List.length_cons, evs_len h2]
      · cases h
    · cases h
section
variable {X : Cx} {b : Bool} {e tg : Expr} {es : List Expr} {d : DE} {os : List Opd} {p pos tpos : Pos} {elts : List Expr} {kk : Nat}
theorem steps_list {F : Hp} {a : Addr} {us : List V} {xs : List D} (h : SqL X.K F a us) (hx : DqAll X.K F us xs) (hup : ∀ F' : Hp, Same F F' → SqL X.K F' a us) : Steps (Dq X.K) F (Itl X.K a) xs where
  go := fun i x F' H hi s1 s2 => by
    obtain ⟨v, g1, g2⟩ := DqAll.get hx hi
    exact ⟨us, v, hup H (s1.trans s2), g1⟩
  yld := fun i x F' H v H' hi s1 s2 hy => by
    obtain ⟨rfl, hv⟩ := hy
    obtain ⟨w, g1, g2⟩ := DqAll.get hx hi
    rw [hv us (hup _ (s1.trans s2))] at g1
    cases g1
    exact ⟨F', .refl s2, g2.to s1⟩
  stop := fun i F' H hi s1 s2 => ⟨us, hup H (s1.trans s2), by rw [DqAll.len hx]; exact Nat.le_of_eq hi⟩
theorem steps_tup {F : Hp} {a : Addr} {us : List V} {xs : List D} (h : SqT X.K F a us) (hx : DqAll X.K F us xs) : Steps (Dq X.K) F (Itt X.K a) xs where
  go := fun i x F' H hi s1 s2 => by
    obtain ⟨v, g1, g2⟩ := DqAll.get hx hi
    exact ⟨us, v, sameT (s1.trans s2) h, g1⟩
  yld := fun i x F' H v H' hi s1 s2 hy => by
    obtain ⟨rfl, hv⟩ := hy
    obtain ⟨w, g1, g2⟩ := DqAll.get hx hi
    rw [hv us (sameT (s1.trans s2) h)] at g1
    cases g1
    exact ⟨F', .refl s2, g2.to s1⟩
  stop := fun i F' H hi s1 s2 => ⟨us, sameT (s1.trans s2) h, by rw [DqAll.len hx]; exact Nat.le_of_eq hi⟩
theorem steps_listR {F : Hp} {a : Addr} {us : List V} {xs : List D} (h : Rd F a (.lst us)) (hx : DqAll X.K F us xs) : Steps (Dq X.K) F (Itl X.K a) xs :=
  steps_list (.inl h) hx fun F' s => .inl (rdSame s h)
theorem pi_dseq (h : PE X e (tE X.K b d)) : PI X tg e (iD X.K b (Dq X.K) (iSeq d)) := PI.by fun σ H R ⟨G, io, F, env, xs, env', hb, h1, S, k⟩ => by
  unfold iSeq at h1
  split at h1
  · rename_i x e1 h2
    split at h1
    · rename_i ys h3
      simp only [Option.some.injEq, Prod.mk.injEq] at h1
      obtain ⟨rfl, rfl⟩ := h1
      cases x <;> simp only [seqD, Option.some.injEq, reduceCtorEq] at h3
      case list zs =>
        subst h3
        refine ⟨_, pi_list h, tE_at hb h2 S fun v F' H' sm S' hv _ => ?_⟩
        cases hv with
        | lst hs ha =>
          rename_i a us _
          exact ⟨a, rfl, ⟨us, .inl (rdSame S'.fh hs)⟩, k _ F' H' sm S' (steps_listR hs ha)⟩
      case tuple zs =>
        subst h3
        refine ⟨_, pi_tup h, tE_at hb h2 S fun v F' H' sm S' hv _ => ?_⟩
        cases hv with
        | tup hs hb2 ha =>
          rename_i a us _
          exact ⟨a, rfl, ⟨us, sameT S'.fh hs⟩, k _ F' H' sm S' (steps_tup hs ha)⟩
    · cases h1
  · cases h1
theorem steps_rg {F : Hp} {lo : Int} {n : Nat} : Steps (Dq X.K) F (Itr lo n) (rgD lo n) where
  go := fun i x F' H hi s1 s2 => (rgD_get hi).1
  yld := fun i x F' H v H' hi s1 s2 hy => by
    obtain ⟨rfl, rfl⟩ := hy
    obtain ⟨_, rfl⟩ := rgD_get hi
    exact ⟨F', .refl s2, .int _⟩
  stop := fun i F' H hi s1 s2 => by
    rw [rgD_len] at hi
    exact Nat.le_of_eq hi
theorem pi_drg (hg : Gl X "range") (hm : X.mg "range" = none) {a c : Expr} : (PA X [a] (tOs X.K b os) → os.length = 1 → starEach [a] X.env = [(false, eval a X.env)] → PI X tg (.Call (.Name "range" p) [a] [] pos) (iD X.K b (Dq X.K) (iRg os))) ∧
    (PA X [a, c] (tOs X.K b os) → os.length = 2 → starEach [a, c] X.env = [(false, eval a X.env), (false, eval c X.env)] → starEach [c] X.env = [(false, eval c X.env)] → PI X tg (.Call (.Name "range" p) [a, c] [] pos) (iD X.K b (Dq X.K) (iRg os))) := by
  refine ⟨fun ha hl hs => (pi_range1 hg hm ha hs).of ?_, fun ha hl hs hs2 => (pi_range2 hg hm ha hs hs2).of ?_⟩
  all_goals
    intro σ H R ⟨G, io, F, env, xs, env', hb, h1, S, k⟩
    unfold iRg at h1
    split at h1
    · rename_i ys e1 h2
      split at h1
      · rename_i i j h3
        simp only [Option.some.injEq, Prod.mk.injEq] at h1
        obtain ⟨rfl, rfl⟩ := h1
        refine tOs_at hb h2 S fun vs F' H' sm S' hv => ?_
        have hl2 : ys.length = os.length := evs_len h2
        unfold rgOf at h3
        split at h3
        · first
          | (simp only [List.length_cons, List.length_nil] at hl2; omega)
          | (rename_i j0
             split at h3
             · rename_i c
               simp only [Option.some.injEq, Prod.mk.injEq] at h3
               obtain ⟨rfl, rfl⟩ := h3
               unfold smallR at c
               have c' := of_decide_eq_true c
               cases hv with
               | cons q1 q2 =>
                 cases q2
                 cases q1
                 refine ⟨_, rfl, c'.2.2.1, c'.2.2.2, ?_⟩
                 rw [Int.sub_zero] at k
                 exact k _ F' H' sm S' steps_rg
             · cases h3)
        · first
          | (simp only [List.length_cons, List.length_nil] at hl2; omega)
          | (rename_i i0 j0
             split at h3
             · rename_i c
               simp only [Option.some.injEq, Prod.mk.injEq] at h3
               obtain ⟨rfl, rfl⟩ := h3
               unfold smallR at c
               have c' := of_decide_eq_true c
               cases hv with
               | cons q1 q2 =>
                 cases q2 with
                 | cons q3 q4 =>
                   cases q4
                   cases q1
                   cases q3
                   exact ⟨_, _, rfl, c', k _ F' H' sm S' steps_rg⟩
             · cases h3)
        · cases h3
      · cases h1
    · cases h1

theorem steps_enL {F : Hp} {a : Addr} {us : List V} {xs : List D} (h : Rd F a (.lst us)) (hx : DqAll X.K F us xs) : Steps (Dt X.K) F (Ite X.K a) (pairsD 0 xs) where
  go := fun i x F' H hi s1 s2 => by
    obtain ⟨y, g0, _⟩ := pairsD_get hi
    obtain ⟨v, g1, g2⟩ := DqAll.get hx g0
    exact ⟨us, v, .inl (rdSame (s1.trans s2) h), g1⟩
  yld := fun i x F' H v H' hi s1 s2 hy => by
    obtain ⟨T, z, rfl, hT, rfl, hz⟩ := hy
    obtain ⟨y, g0, rfl⟩ := pairsD_get hi
    obtain ⟨w, g1, g2⟩ := DqAll.get hx g0
    rw [hz us (.inl (rdSame (s1.trans s2) h))] at g1
    cases g1
    refine ⟨_, .stay s2 hT, .inr ⟨T, _, _, rfl, rfl, .inl (.inl upd_same), ?_⟩⟩
    rw [Nat.zero_add]
    exact .cons (.int _) (.cons ((g2.to s1).to (same_upd (none_sub s2 hT))) .nil)
  stop := fun i F' H hi s1 s2 => by
    rw [pairsD_len] at hi
    exact ⟨us, .inl (rdSame (s1.trans s2) h), by rw [DqAll.len hx]; exact Nat.le_of_eq hi⟩
theorem steps_enT {F : Hp} {a : Addr} {us : List V} {xs : List D} (h : SqT X.K F a us) (hx : DqAll X.K F us xs) : Steps (Dt X.K) F (ItET X.K a) (pairsD 0 xs) where
  go := fun i x F' H hi s1 s2 => by
    obtain ⟨y, g0, _⟩ := pairsD_get hi
    obtain ⟨v, g1, g2⟩ := DqAll.get hx g0
    exact ⟨us, v, sameT (s1.trans s2) h, g1⟩
  yld := fun i x F' H v H' hi s1 s2 hy => by
    obtain ⟨T, z, rfl, hT, rfl, hz⟩ := hy
    obtain ⟨y, g0, rfl⟩ := pairsD_get hi
    obtain ⟨w, g1, g2⟩ := DqAll.get hx g0
    rw [hz us (sameT (s1.trans s2) h)] at g1
    cases g1
    refine ⟨_, .stay s2 hT, .inr ⟨T, _, _, rfl, rfl, .inl (.inl upd_same), ?_⟩⟩
    rw [Nat.zero_add]
    exact .cons (.int _) (.cons ((g2.to s1).to (same_upd (none_sub s2 hT))) .nil)
  stop := fun i F' H hi s1 s2 => by
    rw [pairsD_len] at hi
    exact ⟨us, sameT (s1.trans s2) h, by rw [DqAll.len hx]; exact hi⟩
theorem pi_denu (hg : Gl X "enumerate") (hm : X.mg "enumerate" = none) (h : PE X e (tE X.K b d)) (hs : starEach [e] X.env = [(false, eval e X.env)]) (hs2 : starEach [e] X.env = (false, eval e X.env) :: starEach [] X.env) :
    PI X (.Tuple elts kk tpos) (.Call (.Name "enumerate" p) [e] [] pos) (iD X.K b (Dt X.K) (iEnu d)) := (pi_enumT hg hm (pa_cons h pa_nil hs2) hs).of fun σ H R ⟨G, io, F, env, xs, env', hb, h1, S, k⟩ => by
  unfold iEnu at h1
  split at h1
  · rename_i x e1 h2
    split at h1
    · rename_i ys h3
      simp only [Option.some.injEq, Prod.mk.injEq] at h1
      obtain ⟨rfl, rfl⟩ := h1
      refine tE_at hb h2 S fun v F' H' sm S' hv ap => ?_
      cases x <;> simp only [seqD, Option.some.injEq, reduceCtorEq] at h3
      case list zs =>
        subst h3
        obtain ⟨a, us, rfl, hs, ha⟩ := Dq.lstI hv
        exact ⟨a, us, rfl, .inl ⟨.inl (rdSame S'.fh hs), k _ F' H' sm S' (steps_enL hs ha)⟩⟩
      case tuple zs =>
        subst h3
        obtain ⟨a, us, rfl, hs, hb2, ha⟩ := Dq.tupI hv
        exact ⟨a, us, rfl, .inr ⟨sameT S'.fh hs, k _ F' H' sm S' (steps_enT hs ha)⟩⟩
    · cases h1
  · cases h1

def rgOf2 : List D → Option (Int × Int)
  | [.int j] => if smallR 0 j = true ∧ j.toNat ≤ 2 ^ 24 then some (0, j) else none
  | [.int i, .int j] => if smallR i j = true ∧ (j - i).toNat ≤ 2 ^ 24 then some (i, j) else none
  | _ => none
def dLRg (os : List Opd) : DE := fun e => match evs os e with
  | some (xs, e1) => match rgOf2 xs with
    | some (i, j) => some (.own (rgD i (j - i).toNat), e1)
    | none => none
  | none => none
def dTRg (os : List Opd) : DE := fun e => match evs os e with
  | some (xs, e1) => match rgOf2 xs with
    | some (i, j) => some (.d (.tuple (rgD i (j - i).toNat)), e1)
    | none => none
  | none => none
theorem rgV_dq {K : PySem.W.Frag} {F : Hp} (lo : Int) (n : Nat) : DqAll K F ((List.range n).map fun i => V.int (lo + (i : Nat))) (rgD lo n) := by
  unfold rgD
  generalize List.range n = l
  induction l with
  | nil => exact .nil
  | cons i l ih => exact .cons (.int _) ih
def tTupRgF (te : L2.St → Hp → (Int → Int → Hp → Prop) → Prop) : TE := fun σ H Q => te σ H fun i j H1 => RgOk i j ∧ NewT H1 (rgV i j) Q
theorem pe_tupRgF {te : L2.St → Hp → (Int → Int → Hp → Prop) → Prop} (hc : X.calm = true) (hg : Gl X "tuple") (hm : X.mg "tuple" = none) (he : PRg X e te) (na : starEach [e] X.env = (false, eval e X.env) :: starEach [] X.env) : PE X (.Call (.Name "tuple" p) [e] [] pos) (tTupRgF te) := by
  refine
        ⟨fun pins s σ H Q I h => ?_⟩
  refine Call_ (ld_blt I hg hm boot_tuple (PyProof.Rows.callWith_type1 (args_cons (thn (he pins s σ H _ I h) fun x s1 ⟨r, i, j, t, u, v, H1, ex, hr, I1, ok, q⟩ => args_nil ?_) na) na))
  subst ex
  obtain ⟨c1, c2, c3, c4, c5⟩ := ok
  refine call_tuple_range (n := (j - i).toNat) (I1.ok.hd hc) hr (small_one c1 c2 c3 c4) (rangeSize_nat i j) c5 fun h' tk acc hk hi => ?_
  have
        I2 : Inv X pins σ H1 { s1 with heap := h', toks := tk } := I1.kept hk
  have sz : (rgV i j).length ≤ sizeLine := by rw [rgV_length, sizeLine_eq]; omega
  have I3 := I2.tnew (t' := tk) (its := acc.toList) (vals_rg hi) sz
  simp only [Array.toArray_toList] at I3
  exact ⟨.ref h'.objs.size, _, I3, rfl, q _ _ I2.fresh rfl⟩
theorem rg_at2 {G F H : Hp} {io : Option Addr} {env e1 : Slots} {σ : L2.St} {o o2 : Opd} {xs : List D} {i j : Int} {Q : Int → Int → Hp → Prop} (hb : b = false → io = none) (h : evs [o, o2] env = some (xs, e1)) (S : Sim X.K G io env σ F H) (hr : rgOf2 xs = some (i, j))
    (k : ∀ F' H', Same F F' → Sim X.K G io e1 σ F' H' → RgOk i j → Q i j H') : tRg2 (tO X.K b o) (tO X.K b o2) σ H Q := by
  have q := tOs_at (R := fun vs H1 => ∃ n m, vs = [.int n, .int m] ∧ Q n m H1) hb h S fun vs F' H' sm S' hv => by
    have hl := evs_len h
    unfold rgOf2 at hr
    split at hr
    · simp only [List.length_cons, List.length_nil] at hl
      omega
    · rename_i i0 j0
      split at hr
      · rename_i c
        simp only [Option.some.injEq, Prod.mk.injEq] at hr
        obtain ⟨rfl, rfl⟩ := hr
        have c' := of_decide_eq_true c.1
        cases hv with
        | cons q1 q2 =>
          cases q2 with
          | cons q3 q4 =>
            cases q4
            cases q1
            cases q3
            exact ⟨_, _, rfl, k F' H' sm S' ⟨c'.1, c'.2.1, c'.2.2.1, c'.2.2.2, c.2⟩⟩
      · cases hr
    · cases hr
  have fin : ∀ (x y : V) (H1 : Hp), (∃ n m, [x, y] = [V.int n, V.int m] ∧ Q n m H1) → ∃ n m, x = V.int n ∧ y = V.int m ∧ Q n m H1 := by
    intro x y H1 ⟨n, m, e, q2⟩
    simp only [List.cons.injEq, and_true] at e
    exact ⟨n, m, e.1, e.2, q2⟩
  have lift : ∀ (o : Opd) (σ : L2.St) (H : Hp) (A B : V → Hp → Prop), (∀ v H, A v H → B v H) → tO X.K b o σ H A → tO X.K b o σ H B := by
    intro o σ H A B ab h
    cases o with
    | bor i => exact ⟨h.choose, h.choose_spec.1, ab _ _ h.choose_spec.2⟩
    | ex d =>
      obtain ⟨G1, io1, F1, env1, r1, env1', hb1, w1, S1, k1⟩ := h
      exact ⟨G1, io1, F1, env1, r1, env1', hb1, w1, S1, fun v F' H' s1 s2 s3 s4 => ab _ _ (k1 v F' H' s1 s2 s3 s4)⟩
  exact lift o σ H _ _ (fun x H1 h1 => lift o2 σ H1 _ _ (fun y H2 h2 => fin x y H2 h2) h1) q
theorem pi_drg1 {a : Expr} (hg : Gl X "range") (hm : X.mg "range" = none) (ha : PA X [a] (tOs X.K b os)) (hl : os.length = 1) (hs : starEach [a] X.env = [(false, eval a X.env)]) : PI X tg (.Call (.Name "range" p) [a] [] pos) (iD X.K b (Dq X.K) (iRg os)) := (pi_drg (c := a) hg hm).1 ha hl hs
theorem pi_drg2 {a c : Expr} (hg : Gl X "range") (hm : X.mg "range" = none) (ha : PA X [a, c] (tOs X.K b os)) (hl : os.length = 2) (hs : starEach [a, c] X.env = [(false, eval a X.env), (false, eval c X.env)]) (hs2 : starEach [c] X.env = [(false, eval c X.env)]) : PI X tg (.Call (.Name "range" p) [a, c] [] pos) (iD X.K b (Dq X.K) (iRg os)) := (pi_drg hg hm).2 ha hl hs hs2
end
end L2
set_option Elab.async false
set_option autoImplicit false
set_option linter.all false
set_option maxRecDepth 100000
set_option maxHeartbeats 1000001
namespace SrtO
open PyProof.Rows PySem PySem.Spec L2
section
variable
      {prog : Program} {w : World} {A : Around} {E : Value → Shared → Prop} {s : Shared}
theorem collectTup {a : Addr} {us : List Value} {Q : List Value → Shared → Prop} (ha : IsTup s.heap a us.toArray)
    (k : Q us { s with heap := (s.heap.push (seqObj "list" #[] 0)).update s.heap.objs.size (Obj.mapSeq (· ++ us.toArray)) }) (fit : us.length ≤ sizeLine) : wpAny (model prog w) A (collect (.ref a)) Q E s := by
  obtain ⟨o, ho, hc, n, hd⟩ := id ha
  unfold collect
  refine
        wpAny_bind (wpAny_runValue (codeAny_builtin entry_proto_collect' ?_))
  show wpAny _ _ (do again (.builtin "list.__iadd__" ⟨[← newList [], .ref a], []⟩)) _ _ s
  refine
        wpAny_bind (wpAny_newList (wpAny_pure ⟨Code.quiet_builtin _ (by decide +kernel), codeAny_builtin entry_list_iadd' ?_⟩))
  show wpAny _ _ (Builtin.List.listExtendWith (.ref s.heap.objs.size) (.ref a) (.ref s.heap.objs.size)) _ _ { s with heap := s.heap.push (seqObj "list" #[] 0) }
  unfold
        Builtin.List.listExtendWith
  have up : (s.heap.push (seqObj "list" #[] 0)).get? a = some o := Heap.get?_push_of_some _ ho
  refine wpAny_bind (wpAny_typeOf (T := "tuple") ⟨o, up, hc⟩ ?_)
  have et : (Value.type "tuple" == Value.type "tuple") = true := by rfl
  rw [if_pos (by rw [et]; simp)]
  refine wpAny_bind (listItems_at up hd ?_)
  refine
        wpAny_bind (listItems_at (xs := #[]) (n := 0) (Heap.get?_push_size _ rfl) rfl ?_)
  rw [if_neg (by simp)]
  refine wpAny_bind (listUpdate_at (xs := #[]) (n := 0) (Heap.get?_push_size _ rfl) rfl ?_ (Nat.zero_le _) (by show (#[] ++ us.toArray).size ≤ sizeLine + 1; simp only [Array.size_append, List.size_toArray, List.length_nil]; omega))
  refine wpAny_pure ?_
  show
        wpAny (model prog w) A (do
      let ob ← load s.heap.objs.size
      match ob.data with
      | .seq xs _ => pure xs.toList
      | _ => unsupported "internal:collect") Q E { s with heap := (s.heap.push (seqObj "list" #[] 0)).update s.heap.objs.size (Obj.mapSeq (· ++ us.toArray)) }
  refine
        wpAny_bind (wpAny_load (get?_update_seq (Heap.get?_push_size _ rfl) _) ?_)
  show wpAny _ _ (pure ((#[] : Array Value) ++ us.toArray).toList) Q E _
  rw [show ((#[] : Array Value) ++ us.toArray).toList = us by simp]
  exact wpAny_pure k
theorem sortedTup {a : Addr} {us : List Value} {lt : Value → Value → Bool} {Q : Value → Shared → Prop} (O : Swo lt) (ha : IsTup s.heap a us.toArray) (fit : us.length ≤ sizeLine)
    (hS : 2 ≤ us.length → ∀ (h₁ : Heap) (c : Addr), h₁.get? c = some (seqObj "list" us.toArray 0) → (∀ b o, s.heap.get? b = some o → b ≠ c ∧ h₁.get? b = some o) → SortableO prog w A.in1.in1 { s with heap := h₁ } c us lt)
    (k : ∀ out : List Value, Srtd lt out → Stb lt out us → Q (.ref (s.heap.objs.size + 1)) { s with heap := sortedAll s.heap us out.toArray }) :
    wpAny (model prog w) A (call (.builtin "sorted") [.ref a]) Q E s := by
  refine
        Calls.call_function_entry kind_sorted plain_sorted entry_sorted (args_sorted1 _) ?_
  unfold Builtin.«sorted»
  refine
        wpAny_bind (m := checkCount "sorted" 1 1 _) (wpAny_pure ?_)
  refine wpAny_bind (collectTup ha ?_ fit)
  refine wpAny_bind (wpAny_newList ?_ fit)
  have z1 : ((s.heap.push (seqObj "list" #[] 0)).update s.heap.objs.size (Obj.mapSeq (· ++ us.toArray))).objs.size = s.heap.objs.size + 1 := by
    rw
          [Heap.size_update, size_push']
  have z2 : (((s.heap.push (seqObj "list" #[] 0)).update s.heap.objs.size (Obj.mapSeq (· ++ us.toArray))).push (seqObj "list" us.toArray 0)).get? (s.heap.objs.size + 1) = some (seqObj "list" us.toArray 0) := by
    rw [← z1]; exact Heap.get?_push_size _ rfl
  have up : ∀ b o, s.heap.get? b = some o → b ≠ s.heap.objs.size + 1 ∧ (((s.heap.push (seqObj "list" #[] 0)).update s.heap.objs.size (Obj.mapSeq (· ++ us.toArray))).push (seqObj "list" us.toArray 0)).get? b = some o := fun b o q => by
    have lt1 : b < s.heap.objs.size := Heap.lt_size q
    refine ⟨Nat.ne_of_lt (Nat.lt_succ_of_lt lt1), Heap.get?_push_of_some _ ?_⟩
    rw [Heap.get?_update_ne _ _ _ _ (Nat.ne_of_lt lt1)]
    exact
          Heap.get?_push_of_some _ q
  show wpAny _ _ _ _ _ { s with heap := ((s.heap.push (seqObj "list" #[] 0)).update s.heap.objs.size (Obj.mapSeq (· ++ us.toArray))).push (seqObj "list" us.toArray 0) }
  rw [z1]
  refine wpAny_bind (wpAny_holding (wpAny_call_entry slot_list_sort ⟨_, z2, rfl⟩ entry_list_sort (list_sort_ord O z2 fit (fun h2 => hS h2 _ _ z2 up) fun out hs hb => ⟨_, rfl, ?_⟩) (args_list_sort _)))
  exact wpAny_pure ⟨_, rfl, k out hs hb⟩
end
end SrtO

namespace L2
open PyProof.Rows PySem PySem.Spec
def
      insI (x : Int) : List Int → List Int
  | [] => [x]
  | y :: ys => if x ≤ y then x :: y :: ys else y :: insI x ys
def sortI : List Int → List Int
  | [] => []
  | x :: xs => insI x (sortI xs)
theorem insI_perm (x : Int) : ∀ ys : List Int, (insI x ys).Perm (x :: ys)
  | [] => .refl _
  | y :: ys => by
    unfold insI
    split
    · exact .refl _
    · exact ((insI_perm x ys).cons y).trans (.swap x y ys)
theorem sortI_perm : ∀ xs : List Int, (sortI xs).Perm xs
  | [] => .refl _
  | x :: xs => (insI_perm x _).trans ((sortI_perm xs).cons x)
theorem insI_sorted (x : Int) : ∀ {ys : List Int}, ys.Pairwise (· ≤ ·) → (insI x ys).Pairwise (· ≤ ·)
  | [], _ => by simp [insI]
  | y :: ys, h => by
    rw [List.pairwise_cons] at h
    unfold insI
    split
    · rename_i c
      rw [List.pairwise_cons]
      refine ⟨fun z hz => ?_, List.pairwise_cons.mpr h⟩
      rcases
            List.mem_cons.mp hz with rfl | hz
      · exact c
      · exact Int.le_trans c (h.1 z hz)
    · rename_i c
      rw [List.pairwise_cons]
      refine ⟨fun z hz => ?_, insI_sorted x h.2⟩
      rcases List.mem_cons.mp ((insI_perm x ys).mem_iff.mp hz) with rfl | hz
      · omega
      · exact h.1 z hz
theorem sortI_sorted : ∀ xs : List Int, (sortI xs).Pairwise (· ≤ ·)
  | [] => .nil
  | x :: xs => insI_sorted x (sortI_sorted xs)
theorem sortI_uniq {xs ys : List Int} (h1 : xs.Perm ys) (h2 : xs.Pairwise (· ≤ ·)) : xs = sortI ys :=
  List.Perm.eq_of_pairwise (le := (· ≤ ·)) (fun a b _ _ h1 h2 => Int.le_antisymm h1 h2) h2 (sortI_sorted ys) (h1.trans (sortI_perm ys).symm)
def pSorted : List D → Option TV
  | [.list xs] => match intsD xs with
    | some is => some (.own ((sortI is).map PyData.int))
    | none => none
  | [.tuple xs] => match intsD xs with
    | some is => some (.own ((sortI is).map PyData.int))
    | none => none
  | _ => none
section
variable {X : Cx} {b : Bool} {e tg : Expr} {es : List Expr} {d : DE} {os : List Opd} {p pos tpos p2 : Pos} {elts : List Expr} {kk : Nat}
theorem ints_map {K : PySem.W.Frag} {F : Hp} : ∀ is : List Int, DqAll K F (is.map V.int) (is.map PyData.int)
  | [] => .nil
  | i :: is => .cons (.int i) (ints_map is)
theorem cr_sortTm {pins : List (Addr × Obj)} {s : Shared} {σ : L2.St} {H : Hp} {a : Addr} {ns : List Int} {Q : VK} (I : Inv X pins σ H s) (hs : SqT X.K H a (ns.map V.int))
    (q : ∀ p : Addr, H p = none → Q (.ref p) (upd H p (.lst ((sortI ns).map V.int)))) : wpAny (model X.prog X.w) X.A (call (.builtin "sorted") [.ref a]) (EP X pins σ Q) X.xe s := by
  obtain ⟨its, rv, hl, hz⟩ := I.tuple hs
  have hi := rv.ints
  refine SrtO.sortedTup SrtO.swo_int hl (by rw [← rv.length]; exact hz) (fun h2 h₁ a' _ _ => SrtO.ints_sortable hi h2) fun out h1 h2 => ?_
  obtain
        ⟨k1, k2, k3⟩ := SrtO.ints_out hi h1 h2
  obtain ⟨ep, he⟩ := PyProof.Rows.sortedAll_at s.heap its out.toArray
  have
        hlen : ((out.map SrtO.iv).map V.int).length ≤ sizeLine := by
    rw
          [List.length_map, k2.length_eq]
    rw [List.length_map] at hz
    exact hz
  have eq := sortI_uniq k2 k3
  refine ⟨.ref _, upd H (s.heap.objs.size + 1) (.lst ((out.map SrtO.iv).map V.int)), I.laid (t' := s.toks) (fun _ _ => PyProof.Rows.sortedAll_old) (Nat.le_succ _) ⟨hlen, out, ep, vals_of_ints k1, he⟩, rfl, ?_⟩
  rw [eq]
  exact q _ (I.hok.fresh (Nat.le_succ _))
theorem cr_pSorted : CallR X (.builtin "sorted") (rPs X.K pSorted) := by
  intro pins s σ H vs us Q I rv ⟨F, xs, t, sm, hs, h, p⟩
  unfold pSorted at h
  split at h
  · rename_i ys
    split at h
    · rename_i is e
      cases h
      cases hs with
      | cons h1 t1 =>
        cases t1
        cases h1 with
        | lst ha hd =>
          obtain ⟨rfl, _⟩ := ints_dq hd e
          refine cr_sortedI pins s σ H _ us Q I rv ⟨_, is, rfl, .inl ha, fun ns' q k2 k3 hq => ?_⟩
          rw [sortI_uniq k2 k3]
          exact p.lst sm (ints_map _) hq
    · cases h
  · rename_i ys
    split at h
    · rename_i is e
      cases h
      cases hs with
      | cons h1 t1 =>
        cases t1
        cases h1 with
        | tup ha hb hd =>
          obtain ⟨rfl, _⟩ := ints_dq hd e
          obtain ⟨u, rfl, ru⟩ := vals1 rv
          cases ru
          exact cr_sortTm I (sameT sm ha) fun q hq => p.lst sm (ints_map _) hq
    · cases h
  · cases h

variable {a c : Expr} {o o2 : Opd}
theorem lrg_of {te : L2.St → Hp → (Int → Int → Hp → Prop) → Prop} (h : PE X e (tLstRg te)) (hr : ∀ (G F H : Hp) (io : Option Addr) (env e1 : Slots) (σ : L2.St) (xs : List D) (i j : Int) (Q : Int → Int → Hp → Prop), (b = false → io = none) → evs os env = some (xs, e1) → Sim X.K G io env σ F H →
      rgOf2 xs = some (i, j) → (∀ F' H', Same F F' → Sim X.K G io e1 σ F' H' → RgOk i j → Q i j H') → te σ H Q) : PE X e (tE X.K b (dLRg os)) := h.of fun σ H Q ⟨G, io, F, env, r, env', hb, h1, S, k⟩ => by
  unfold dLRg at h1
  split at h1
  · rename_i xs e1 h2
    split at h1
    · rename_i i j h3
      simp only [Option.some.injEq, Prod.mk.injEq] at h1
      obtain ⟨rfl, rfl⟩ := h1
      exact hr G F H io env _ σ xs i j _ hb h2 S h3 fun F' H' sm S' ok => ⟨ok, fun q hq => (post_of sm S' k).lst S'.fh (rgV_dq i (j - i).toNat) hq⟩
    · cases h1
  · cases h1
theorem trg_of {te : L2.St → Hp → (Int → Int → Hp → Prop) → Prop} (h : PE X e (tTupRgF te)) (hr : ∀ (G F H : Hp) (io : Option Addr) (env e1 : Slots) (σ : L2.St) (xs : List D) (i j : Int) (Q : Int → Int → Hp → Prop), (b = false → io = none) → evs os env = some (xs, e1) → Sim X.K G io env σ F H →
      rgOf2 xs = some (i, j) → (∀ F' H', Same F F' → Sim X.K G io e1 σ F' H' → RgOk i j → Q i j H') → te σ H Q) : PE X e (tE X.K b (dTRg os)) := h.of fun σ H Q ⟨G, io, F, env, r, env', hb, h1, S, k⟩ => by
  unfold dTRg at h1
  split at h1
  · rename_i xs e1 h2
    split at h1
    · rename_i i j h3
      simp only [Option.some.injEq, Prod.mk.injEq] at h1
      obtain ⟨rfl, rfl⟩ := h1
      exact hr G F H io env _ σ xs i j _ hb h2 S h3 fun F' H' sm S' ok => ⟨ok, (post_of sm S' k).tup S'.fh (rgV_dq i (j - i).toNat)⟩
    · cases h1
  · cases h1
theorem pe_dlrg2 (hc : X.calm = true) (hg : Gl X "list") (hm : X.mg "list" = none) (hg2 : Gl X "range") (hm2 : X.mg "range" = none) (ha : PE X a (tO X.K b o)) (hcx : PE X c (tO X.K b o2)) (hs : starEach [a, c] X.env = (false, eval a X.env) :: starEach [c] X.env) (hs1 : starEach [c] X.env = (false, eval c X.env) :: starEach [] X.env) (hp : (backTo tpos (starEach [c] X.env)).any (·.1) = false)
    (hs2 : starEach [.Call (.Name "range" p2) [a, c] [] tpos] X.env = (false, eval (.Call (.Name "range" p2) [a, c] [] tpos) X.env) :: starEach [] X.env) : PE X (.Call (.Name "list" p) [.Call (.Name "range" p2) [a, c] [] tpos] [] pos) (tE X.K b (dLRg [o, o2])) :=
  lrg_of (pe_listRg hc hg hm (prg_2 hg2 hm2 ha hcx hs hs1 hp) hs2) fun G F H io env e1 σ xs i j Q hb h S hr k => rg_at2 hb h S hr k
theorem pe_dtrg2 (hc : X.calm = true) (hg : Gl X "tuple") (hm : X.mg "tuple" = none) (hg2 : Gl X "range") (hm2 : X.mg "range" = none) (ha : PE X a (tO X.K b o)) (hcx : PE X c (tO X.K b o2)) (hs : starEach [a, c] X.env = (false, eval a X.env) :: starEach [c] X.env) (hs1 : starEach [c] X.env = (false, eval c X.env) :: starEach [] X.env) (hp : (backTo tpos (starEach [c] X.env)).any (·.1) = false)
    (hs2 : starEach [.Call (.Name "range" p2) [a, c] [] tpos] X.env = (false, eval (.Call (.Name "range" p2) [a, c] [] tpos) X.env) :: starEach [] X.env) : PE X (.Call (.Name "tuple" p) [.Call (.Name "range" p2) [a, c] [] tpos] [] pos) (tE X.K b (dTRg [o, o2])) :=
  trg_of (pe_tupRgF hc hg hm (prg_2 hg2 hm2 ha hcx hs hs1 hp) hs2) fun G F H io env e1 σ xs i j Q hb h S hr k => rg_at2 hb h S hr k

def sStuck : DS := fun _ => none
theorem ps_stuck {st : Stmt} : PS X st (tS X.K b sStuck) := ⟨fun pins s σ H D I ⟨G, io, F, env, fl, env', hb, h1, _⟩ => nomatch h1⟩
theorem pe_dglob {x : Str} {n : Int} {t : Tok} (hg : Gl X x) (hm : X.mg x = some (.int n t)) (hd : (x == ("__debug__" : Str)) = false) : PE X (.Name x pos) (tE X.K b (dC (.int n))) :=
  pe_const (pe_glob (v := .int n) hg hm ⟨t, rfl⟩ hd) fun F => .int n

def dChain (g g2 : List D → Option TV) (d1 d2 d3 : DE) : DE := fun e => match d1 e with
  | some (.d x, e1) => match d2 e1 with
    | some (.d y, e2) => match g [x, y] with
      | some (.d (.bool true)) => match d3 e2 with
        | some (.d z, e3) => match g2 [y, z] with
          | some (.d (.bool r)) => some (.d (.bool r), e3)
          | _ => none
        | _ => none
      | some (.d (.bool false)) => some (.d (.bool false), e2)
      | _ => none
    | _ => none
  | _ => none
variable {op op2 : CmpOp} {g g2 : List D → Option TV} {d1 d2 d3 : DE} {f : Expr}
theorem chain_at {σ : L2.St} {H : Hp} {Q : VK} (hq : tE X.K b (dChain g g2 d1 d2 d3) σ H Q) : tChain (rP2 X.K g) (rP2 X.K g2) (tE X.K b d1) (tE X.K b d2) (tE X.K b d3) σ H Q := by
  obtain ⟨G, io, F, env, r, env', hb, h1, S, k⟩ := hq
  unfold dChain at h1
  split at h1
  · rename_i x e1 h2
    split at h1
    · rename_i y e2 h3
      refine tE_at hb h2 S fun v F1 H1 s1 S1 v1 _ => tE_at hb h3 S1 fun w F2 H2 s2 S2 w1 _ => ?_
      have dx : DpB X.K F2 H2 v x := (v1.to s2).bor S2.fh
      have dy : DpB X.K F2 H2 w y := Dq.bor w1 S2.fh
      split at h1
      · rename_i h4
        refine ⟨F2, [x, y], _, S2.fh, .cons dx (.cons dy .nil), h4, fun u F3 H3 ex n => ?_⟩
        cases n
        refine ⟨true, rfl, ?_⟩
        rw [if_pos rfl]
        have S3 := S2.ext ex
        split at h1
        · rename_i z e3 h5
          split at h1
          · rename_i r2 h6
            simp only [Option.some.injEq, Prod.mk.injEq] at h1
            obtain ⟨rfl, rfl⟩ := h1
            refine tE_at hb h5 S3 fun w' F4 H4 s4 S4 w2 _ => ?_
            refine ⟨F4, [y, z], _, S4.fh, .cons ((Dq.to w1 (ex.ff.trans s4)).bor S4.fh) (.cons (Dq.bor w2 S4.fh) .nil), h6, ?_⟩
            exact post_of ((s1.trans s2).trans (ex.ff.trans s4)) S4 k
          · cases h1
        · cases h1
      · rename_i h4
        simp only [Option.some.injEq, Prod.mk.injEq] at h1
        obtain ⟨rfl, rfl⟩ := h1
        refine ⟨F2, [x, y], _, S2.fh, .cons dx (.cons dy .nil), h4, fun u F3 H3 ex n => ?_⟩
        cases n
        refine ⟨false, rfl, ?_⟩
        rw
              [if_neg Bool.false_ne_true]
        exact k (.bl false) F3 H3 ((s1.trans s2).trans ex.ff) (S2.ext ex) (.bl _) Apart.d
      · cases h1
    · cases h1
  · cases h1
theorem pe_dchain (ho : OpR X (compareOp op) (rP2 X.K g)) (ho2 : OpR X (compareOp op2) (rP2 X.K g2)) (ha : PE X a (tE X.K b d1)) (hc : PE X c (tE X.K b d2)) (hf : PE X f (tE X.K b d3)) (hm : lastMarks [op, op2] [c, f] = false) : PE X (.Compare a [op, op2] [c, f] pos) (tE X.K b (dChain g g2 d1 d2 d3)) :=
  (pe_chain ho ho2 ha hc hf hm).of fun σ H Q h => chain_at h
theorem pt_dchain (ho : OpR X (compareOp op) (rP2 X.K g)) (ho2 : OpR X (compareOp op2) (rP2 X.K g2)) (ha : PE X a (tE X.K b d1)) (hc : PE X c (tE X.K b d2)) (hf : PE X f (tE X.K b d3)) (hm : lastMarks [op, op2] [c, f] = false) : PT X (.Compare a [op, op2] [c, f] pos) (tT X.K b (dChain g g2 d1 d2 d3)) :=
  (pt_chain ho ho2 ha hc hf hm).of fun σ H Q h => by
    obtain ⟨G, io, F, env, r, env', hb, h1, S, k⟩ := h
    refine chain_at (Q := fun z H1 => ∃ q, z = .bl q ∧ Q q H1) ?_
    unfold asB at h1
    split at h1
    · rename_i q e1 h2
      simp only [Option.some.injEq, Prod.mk.injEq] at h1
      obtain ⟨rfl, rfl⟩ := h1
      refine ⟨G, io, F, env, _, _, hb, h2, S, fun v F' H' s1 S1 hv _ => ?_⟩
      cases hv
      exact ⟨_, rfl, k F' H' s1 S1⟩
    · cases h1
end
end L2
set_option Elab.async false
set_option autoImplicit false
set_option linter.all false
set_option maxRecDepth 100000
set_option maxHeartbeats 1000001
namespace L2
open PyProof.Rows PySem PySem.Spec

def sParO (i j : Nat) (d1 d2 : DE) : DS := fun e => match d1 e with
  | some (r1, e1) => match d2 e1 with
    | some (r2, e2) => if i < e2.length ∧ j < e2.length then some (.nx, (e2.set i (some r1)).set j (some r2)) else none
    | none => none
  | none => none
section
variable {X : Cx} {b : Bool} {a a2 : Expr} {i j : Nat} {x y : Str} {d1 d2 : DE} {pos : Pos}
theorem ap_set {K : PySem.W.Frag} {G F H : Hp} {env : Slots} {σ : L2.St} {v w : V} {r t : TV} {i : Nat} (ap : Apart env σ v r) (hl : i < σ.length) (ne : r.mut = true → t.mut = true → v ≠ w) (he : i < env.length) : Apart (env.set i (some t)) (σ.set i (some w)) v r := by
  intro mr k u q mu
  by_cases hk : i = k
  · subst hk
    rw [List.getElem?_set_self he] at q
    cases q
    rw [List.getElem?_set_self hl]
    intro z
    cases z
    exact ne mr mu rfl
  · rw [List.getElem?_set_ne hk] at q ⊢
    exact ap mr k u q mu
theorem ps_dparO {px py pt pt2 : Pos} {kt k2 : Nat} (hc : X.calm = true) (hN : X.N.Nodup) (hi : X.N[i]? = some x) (hj : X.N[j]? = some y) (hij : i ≠ j)
    (hx : X.env.scope.names.lookup x = some .local) (hy : X.env.scope.names.lookup y = some .local) (ha : PE X a (tE X.K b d1)) (ha2 : PE X a2 (tE X.K b d2)) (h0 : i ≠ 0 ∨ b = false) (h0' : j ≠ 0 ∨ b = false)
    (s1 : starEach [a, a2] X.env = (false, eval a X.env) :: starEach [a2] X.env) (s2 : starEach [a2] X.env = (false, eval a2 X.env) :: starEach [] X.env)
    (hw : swappedStores [.Tuple [.Name x px, .Name y py] kt pt] (.Tuple [a, a2] k2 pt2) X.env = pure (some [x, y]))
    (hs : swapsWithSole [.Tuple [.Name x px, .Name y py] kt pt] (.Tuple [a, a2] k2 pt2) pos.line X.env = pure false) :
    PS X (.Assign [.Tuple [.Name x px, .Name y py] kt pt] (.Tuple [a, a2] k2 pt2) pos) (tS X.K b (sParO i j d1 d2)) := (ps_par hc hN hi hj hij hx hy (pa_cons ha (pa_cons ha2 pa_nil s2) s1) hw hs).of fun D σ H ⟨G, io, F, env, fl, env', hb, h1, S, k⟩ => by
  unfold sParO at h1
  split at h1
  · rename_i r1 e1 h2
    split at h1
    · rename_i r2 e2 h3
      split at h1
      · rename_i hl
        simp only [Option.some.injEq, Prod.mk.injEq] at h1
        obtain ⟨rfl, rfl⟩ := h1
        refine tE_at hb h2 S fun v F1 H1 m1 S1 t1 p1 => ?_
        obtain ⟨G1, S1', rel⟩ := S1.hold t1 p1
        refine tE_at hb h3 S1' fun w F2 H2 m2 S2 t2 p2 => ⟨_, w, rfl, ?_⟩
        obtain ⟨S3, t3, p3, r3⟩ := rel _ F2 H2 m2 S2
        obtain ⟨t4, ne⟩ := r3 w r2 t2
        have li : i < σ.length := by rw [← S3.len]; exact hl.1
        have lj : j < σ.length := by rw [← S3.len]; exact hl.2
        exact k _ F2 H2 (m1.trans m2) ((S3.put li t3 p3 (not_io hb h0)).put (by rw [List.length_set]; exact lj) t4 (ap_set (K := X.K) (G := G) (F := F2) (H := H2) p2 li (fun a b => ne b a) hl.1) (not_io hb h0'))
      · cases h1
    · cases h1
  · cases h1
end

abbrev Blkd (X : Cx) (scope : Scope) (R : Cx → Prop) : Prop := ∀ (s : Shared) (H : Hp) (C : Addr) (cl : List (Str × Addr)) (fp : List Addr), R (X.blk s H scope (compEnvC scope cl C X.env) fp)
section
variable {X : Cx} {b : Bool} {elt tg iter cnd tg1 iter1 cnd1 : Expr} {scope : Scope} {own : List (Str × Nat)} {pos : Pos} {W W1 : Hp → V → D → Prop} {s s1 : DI} {g g1 : DG} {ws ws1 vs1 : List Nat} {c c1 t : DE}
theorem pts_no {Y : Cx} : PTs Y [] (tT Y.K b dYes) := ⟨fun pins s σ H Q I ⟨G, io, F, env, c, env', hb, h1, S, k⟩ => by
  have h2 : asB (dYes env) = some (true, env) := rfl
  rw [h2] at h1
  cases h1
  exact pts_nil.run pins s σ H Q I (k F H (Same.refl F) S)⟩
theorem pe_dlc {ifs : List Expr} (hc : X.calm = true) (hN : X.N.Nodup) (hi : PI X tg iter (iD X.K b W s)) (ok : BlkOk X.N X.env.scope scope own)
    (hg : Blkd X scope fun Y => PG Y tg (tG X.K b W g ws)) (ht : Blkd X scope fun Y => PTs Y ifs (tT X.K b c)) (he : Blkd X scope fun Y => PE Y elt (tE X.K b t)) (hs : ∀ x, foldedSetIterable iter X.env x = pure x)
    (hw : ∀ i ∈ ws, i ∈ own.map (·.2)) (hv : 0 ∉ own.map (·.2) ∨ b = false) : PE X (.ListComp elt [⟨tg, iter, ifs, 0⟩] scope pos) (tE X.K b (dLc s g (own.map (·.2)) c t)) :=
  (pe_lc hc hN hi ok hg ht he hs).of fun σ H Q h => lc_at hw hv h
theorem set_at {i : Nat} {d : DE} {te : TE} {D : Ends} {σ : L2.St} {H : Hp} (h : tS X.K b (sSet i d) D σ H) (h0 : i ≠ 0 ∨ b = false) (m : ∀ Q, tE X.K b d σ H Q → te σ H Q) : tAsg te (gName i) D σ H := by
  obtain ⟨G, io, F, env, fl, env', hb, h1, S, k⟩ := h
  unfold sSet at h1
  split at h1
  · rename_i r e1 h2
    split at h1
    · rename_i hl
      simp only [Option.some.injEq, Prod.mk.injEq] at h1
      obtain ⟨rfl, rfl⟩ := h1
      exact m _ (tE_at hb h2 S fun v F' H' sm S' hv ap => k _ F' H' sm (S'.put (by rw [← S'.len]; exact hl) hv ap (not_io hb h0)))
    · cases h1
  · cases h1
theorem ps_dsetLc {ifs : List Expr} {i : Nat} {y : Str} {py spos : Pos} (hy : X.N[i]? = some y) (hyl : X.env.scope.names.lookup y = some .local) (hsw : swapsWith (.ListComp elt [⟨tg, iter, ifs, 0⟩] scope pos) (some (.Name y py)) spos.line X.env = pure true) (h0 : i ≠ 0 ∨ b = false)
    (hc : X.calm = true) (hN : X.N.Nodup) (hi : PI X tg iter (iD X.K b W s)) (ok : BlkOk X.N X.env.scope scope own)
    (hg : Blkd X scope fun Y => PG Y tg (tG X.K b W g ws)) (ht : Blkd X scope fun Y => PTs Y ifs (tT X.K b c)) (he : Blkd X scope fun Y => PE Y elt (tE X.K b t)) (hs : ∀ x, foldedSetIterable iter X.env x = pure x)
    (hw : ∀ i ∈ ws, i ∈ own.map (·.2)) (hv : 0 ∉ own.map (·.2) ∨ b = false) : PS X (.Assign [.Name y py] (.ListComp elt [⟨tg, iter, ifs, 0⟩] scope pos) spos) (tS X.K b (sSet i (dLc s g (own.map (·.2)) c t))) :=
  (ps_setLc hc hN hy hyl hsw hi ok hg ht he hs).of fun D σ H h => set_at h h0 fun Q q => lc_at hw hv q
end
end L2
set_option Elab.async false
set_option autoImplicit false
set_option linter.all false
set_option maxRecDepth 100000
set_option maxHeartbeats 1000001
namespace L2
open PySem PySem.W PySem.Calls PySem.Spec PyProof.Rows

def Keeps (n : Nat) (f : FD) : Prop := ∀ is : List Int, is.length ≤ n → (∃ zs, f none [.list (is.map PyData.int)] = some (.d (.bool true), zs)) ∧ ∃ zs, f none [scrD is] = some (.d (.bool true), zs)
section
variable {P : Program} {w : World} {K : PySem.W.Frag} {mg mb : Str → Option Value} {k n : Nat} {fa a : Addr} {fd : FuncData} {x : Str} {f : FD} {s1 : Shared} {us : List Value} {is : List Int}
theorem law_core {H : Hp} (hH : ∀ b u, H b = some u → b = a ∧ K.lookup a = none ∧ ∃ ob ys, u = .frz ob (.lst ys)) (inK : K.In s1.heap) (nsm : s1.heap.Ns mainGlobals mg) (nsb : s1.heap.Ns builtinsNs mb) (boot : ∀ y : Str, y ≠ "__name__" → mb y = bootBuiltins y) (lim : s1.heap.NoLimit) (gens : s1.gens = #[])
    (obj : s1.heap.get? a = some { cls := .type "list", data := .seq us.toArray }) (room : Room k callerA) (F : ∀ base : Heap, K.In base → base.Ns mainGlobals mg → FnG P w K mg base k fa fd [x] (sp0 K 1 f)) (bind : ∀ (s : Shared) (u : Value), BindsTo s fd ⟨[u], []⟩ [(x, u)])
    (ok : HOk P w H s1.heap) {d : D} (hd : Dq K H (.ref a) d) {zs : List D} (hf : f none [d] = some (.d (.bool true), zs)) :
    codeAny (model P w) callerA (.call (.ref fa) ⟨[.ref a], []⟩) (fun r s' => r = .ok (.ret (.bool true)) ∧ OldK s1.heap s'.heap ∧ s'.os = s1.os ∧ AllBare s'.gens) s1 := by
  have low : ∀ {b : Addr} {o : Obj}, s1.heap.get? b = some o → H b = none → (hidT s1.heap H).get? b = some o := fun e q => hidT_get e q
  have plain : ∀ {b : Addr} {o : Obj} {es : Array DictEntry} {ep : Nat}, s1.heap.get? b = some o → o.data = .dict es ep → H b = none := by
    intro b o es ep e d
    cases q : H b with
    | none => rfl
    | some u =>
      obtain ⟨rfl, _⟩ := hH b u q
      rw [obj] at e
      cases e
      exact absurd d (by intro z; cases z)
  have nsUp : ∀ {b : Addr} {m : Str → Option Value}, s1.heap.Ns b m → (hidT s1.heap H).Ns b m := fun ⟨o, es, ep, e, d, r⟩ => ⟨o, es, ep, low e (plain e d), d, r⟩
  have inB : K.In (hidT s1.heap H) := by
    intro b o e
    refine low (inK b o e) ?_
    cases q : H b with
    | none => rfl
    | some u =>
      obtain ⟨rfl, q2, _⟩ := hH b u q
      rw [q2] at e
      cases e
  have md : Mod K mg (hidT s1.heap H) := ⟨inB, nsUp nsm, ⟨mb, nsUp nsb, boot⟩, let ⟨mc, h1, h2⟩ := lim; ⟨mc, nsUp h1, h2⟩⟩
  have env0 : Env0 P w K mg (hidT s1.heap H) callerA [] s1 H := ⟨rfl, md, fun b o e => of_hidT e, Nat.le_of_eq (hidT_size _ _), trivial, fun b hb => absurd (show b ∈ ([] : List Addr) from hb) (by simp), ok, .of_eq gens⟩
  have prm : sp0 K 1 f [.ref a] H (fun v _ => v = .bl true) E0 := by
    refine ⟨rfl, fun _ => none, H, [d], _, zs, hf, Same.refl H, (fun _ _ z => nomatch z), (fun _ => .inr rfl), .cons hd .nil, ?_⟩
    intro v F' H' _ _ _ _ hv _
    cases (show Dq K F' v (.bool true) from hv)
    rfl
  refine codeAny_mono ((F _ inB (nsUp nsm)).run callerA [] s1 H ⟨[.ref a], []⟩ [.ref a] [.ref a] _ room (by first | rfl | decide) env0 (bind s1 (.ref a)) (.cons rfl .nil) prm) fun r s' hr => ?_
  cases r with
  | error e => exact (show False from hr).elim
  | ok fl =>
    cases fl with
    | next => exact (show False from hr).elim
    | brk => exact (show False from hr).elim
    | cont => exact (show False from hr).elim
    | ret u =>
      obtain ⟨v, H', os, bare, un, ok', rv, q⟩ := hr
      cases (show v = .bl true from q)
      cases (show u = Value.bool true from rv)
      refine
            ⟨rfl, OldK.of_keep fun b o e => ?_, os, bare⟩
      cases q : H b with
      | none =>
            exact un.keep b o e q (by intro z; exact absurd (show b ∈ ([] : List Addr) from z) (by simp)) (by simp)
      | some u =>
        obtain ⟨_, _, ob, ys, rfl⟩ := hH b u q
        have later := un.frzs b ob _ q
        obtain ⟨g1, _⟩ := ok b _ q
        obtain ⟨g2, _⟩ := ok' b _ later
        rw [e] at g1
        cases g1
        exact g2
theorem law_callG (inK : K.In s1.heap) (nsm : s1.heap.Ns mainGlobals mg) (nsb : s1.heap.Ns builtinsNs mb) (boot : ∀ y : Str, y ≠ "__name__" → mb y = bootBuiltins y) (lim : s1.heap.NoLimit) (gens : s1.gens = #[])
    (obj : s1.heap.get? a = some { cls := .type "list", data := .seq us.toArray }) (hi : IntsAre us is) (hl : is.length ≤ sizeLine) (room : Room k callerA) (F : ∀ base : Heap, K.In base → base.Ns mainGlobals mg → FnG P w K mg base k fa fd [x] (sp0 K 1 f)) (bind : ∀ (s : Shared) (u : Value), BindsTo s fd ⟨[u], []⟩ [(x, u)])
    (h1 : ∃ zs, f none [.list (is.map PyData.int)] = some (.d (.bool true), zs)) (h2 : ∃ zs, f none [scrD is] = some (.d (.bool true), zs)) :
    codeAny (model P w) callerA (.call (.ref fa) ⟨[.ref a], []⟩) (fun r s' => r = .ok (.ret (.bool true)) ∧ OldK s1.heap s'.heap ∧ s'.os = s1.os ∧ AllBare s'.gens) s1 := by
  have rv := vals_ints hi
  have ln := hi.length
  obtain ⟨z1, e1⟩ := h1
  obtain ⟨z2, e2⟩ := h2
  cases hk : K.lookup a with
  | some o =>
    have e := inK a o hk
    rw [obj] at e
    cases e
    refine law_core (H := fun _ => none) (fun b u z => nomatch z) inK nsm nsb boot lim gens obj room F bind (fun b u z => nomatch z) (.scr ⟨_, us.toArray, _, hk, rfl, rfl, rfl, ?_, by simpa using rv⟩) e2
    rw [List.size_toArray, ln]
    exact hl
  | none =>
    refine law_core (H := fun b => if b = a then some (.frz { cls := .type "list", data := .seq us.toArray } (.lst (is.map V.int))) else none) (fun b u z => ?_) inK nsm nsb boot lim gens obj room F bind (fun b u z => ?_) (.lst (.inr ⟨_, if_pos rfl⟩) (dq_ints is)) e1
    · by_cases hb : b = a
      · have
            z' := (if_pos hb).symm.trans z
        cases z'
        exact ⟨hb, hk, _, _, rfl⟩
      · have
            z' := (if_neg hb).symm.trans z
        cases z'
    · by_cases hb : b = a
      · have
            z' := (if_pos hb).symm.trans z
        cases z'
        subst hb
        exact ⟨obj, by rw [List.length_map]; exact hl, us, _, rv, obj⟩
      · have
            z' := (if_neg hb).symm.trans z
        cases z'
end
theorem walk_ofG {l : PySem.W.OpenLaw} {n k : Nat} {q : Program} {loose : List Str} {XP : (Str → Option Value) → Heap → Prop} {YP : World → Heap → Prop} {d : DefRec} {K : Params → PySem.W.Frag} {f : FD} {x : Str}
    (hn
          : l.most = some n) (hn2 : n ≤ sizeLine) (hdf : d.params.defaults = []) (hr : Room k callerA) (hY : ∀ (w : World) (h : Heap), YP w h → (K w.params).In h)
    (F
          : ∀ (w : World) (mg : Str → Option Value) (fa : Addr) (h : Heap), (K w.params).In h → h.Ns mainGlobals mg → mg d.name = some (.ref fa) →
      ∃ fd : FuncData, (∀ (s : Shared) (u : Value), BindsTo s fd ⟨[u], []⟩ [(x, u)]) ∧ ∀ base : Heap, (K w.params).In base → base.Ns mainGlobals mg → FnG l.prog w (K w.params) mg base k fa fd [x] (sp0 (K w.params) 1 f))
    (law : Keeps n f) : PySem.W.WalkO q loose XP YP l.row.toRowW d [] (fun f vs => PySem.call f vs) := by
  refine
        Att.attach_call hn hdf fun w s₀ s₁ mg mb fa o pm cd doc a vs ns G Y ho hd hcd hmg hobj hints hlen hg => ?_
  obtain ⟨fd, hb, hF⟩ := F w mg fa _ (hY w _ Y) G.T.g hmg
  exact law_callG (hY w _ Y) G.T.g G.T.b G.T.builtins G.T.nolimit hg hobj hints (Nat.le_trans hlen hn2) hr hF hb (law ns hlen).1 (law ns hlen).2

structure Fx (P : Program) (w : World) (K : PySem.W.Frag) (mg : Str → Option Value) (base : Heap) (k : Nat) (x : Str) (ps : List Str) (kb : FuncData → Prop) (sp : Sp) : Prop where
  ex : ∃ (f : Addr) (fd : FuncData), FnG P w K mg base k f fd ps sp ∧ mg x = some (.ref f) ∧ PySem.W.keepIn K (.ref f) = true ∧ BindP fd ps ∧ kb fd
section
variable {X : Cx} {b : Bool} {e a : Expr} {es : List Expr} {j : Nat} {x : Str} {ps ks : List Str} {kb : FuncData → Prop} {f : FD} {np : Nat} {ds d2 : List DE} {d : DE} {p pos : Pos} {i : Nat} {kws : List Keyword} {o : Opd} {os : List Opd}
theorem pax0 : PA X [] (tXs X.K b []) := pa_nil
theorem pax (h : PE X e (tE X.K b d)) (r : PA X es (tXs X.K b ds)) (hs : starEach (e :: es) X.env = (false, eval e X.env) :: starEach es X.env) : PA X (e :: es) (tXs X.K b (d :: ds)) := pa_cons h r hs
theorem pao0 : PA X [] (tOs X.K b []) := pa_nil
theorem pao (h : PE X e (tO X.K b o)) (r : PA X es (tOs X.K b os)) (hs : starEach (e :: es) X.env = (false, eval e X.env) :: starEach es X.env) : PA X (e :: es) (tOs X.K b (o :: os)) := pa_cons h r hs
theorem o_bor (h : PE X e (tVar i)) : PE X e (tO X.K b (.bor i)) := h
theorem o_ex (h : PE X e (tE X.K b d)) : PE X e (tO X.K b (.ex d)) := h
theorem fx0 (F : Fx X.prog X.w X.K X.mg X.base j x ps kb (spF X.K false np f)) (hr : Room j X.A) (hgd : X.A.guards = some []) (hg : Gl X x) (ha : PA X (e :: es) (tXs X.K b ds)) (hn : ds.length = np) (hdb : (x == ("__debug__" : Str)) = false)
    (he : starEach (e :: es) X.env = (false, eval e X.env) :: starEach es X.env) (hpl : (backTo pos (starEach es X.env)).any (·.1) = false) : PE X (.Call (.Name x p) (e :: es) [] pos) (tE X.K b (dCall f none ds)) := by
  obtain ⟨fa, fd, h1, h2, h3, h4, _⟩ := F.ex
  exact pe_dcall (pe_callG h1 hr hgd hg h2 h3 h4 ha hdb he hpl) hn
theorem fxI (F : Fx X.prog X.w X.K X.mg X.base j x ps kb (spF X.K true np f)) (hr : Room j X.A) (hgd : X.A.guards = some []) (hg : Gl X x) (hi : PE X e (tVar i)) (ha : PA X es (tXs X.K b ds)) (hn : ds.length + 1 = np) (hdb : (x == ("__debug__" : Str)) = false)
    (he : starEach (e :: es) X.env = (false, eval e X.env) :: starEach es X.env) (hpl : (backTo pos (starEach es X.env)).any (·.1) = false) : PE X (.Call (.Name x p) (e :: es) [] pos) (tE X.K b (dCallI f i ds)) := by
  obtain ⟨fa, fd, h1, h2, h3, h4, _⟩ := F.ex
  exact pe_dcallI (pe_callG h1 hr hgd hg h2 h3 h4 (pa_cons hi ha he) hdb he hpl) hn
theorem fxN (F : Fx X.prog X.w X.K X.mg X.base j x ps kb (spF X.K true np f)) (hr : Room j X.A) (hgd : X.A.guards = some []) (hg : Gl X x) (hi : PE X e (tE X.K b d)) (ha : PA X es (tXs X.K b ds)) (hn : ds.length + 1 = np) (hdb : (x == ("__debug__" : Str)) = false)
    (he : starEach (e :: es) X.env = (false, eval e X.env) :: starEach es X.env) (hpl : (backTo pos (starEach es X.env)).any (·.1) = false) : PE X (.Call (.Name x p) (e :: es) [] pos) (tE X.K b (dCallN f d ds)) := by
  obtain ⟨fa, fd, h1, h2, h3, h4, _⟩ := F.ex
  exact pe_dcallN (pe_callG h1 hr hgd hg h2 h3 h4 (pa_cons hi ha he) hdb he hpl) hn
theorem fxK0 {pm : List Nat} (F : Fx X.prog X.w X.K X.mg X.base j x ps kb (spF X.K false np f)) (hk : ∀ fd, kb fd → BindK fd ps 0 ks pm) (hr : Room j X.A) (hgd : X.A.guards = some []) (hg : Gl X x) (hkw : PK X kws (tXs X.K b d2)) (hn : pm.length = np) (h2' : d2.length = ks.length) (hp : pm.all (· < 0 + ks.length) = true) (hdb : (x == ("__debug__" : Str)) = false)
    (hall : (backToKw pos (keywordEach kws X.env)).all (·.1.isSome) = true) (hks : (backToKw pos (keywordEach kws X.env)).filterMap (·.1) = ks)
    (hpl : ((backTo pos (starEach [] X.env)).any (·.1) || (backToKw pos (keywordEach kws X.env)).any (·.1.isNone)) = false) : PE X (.Call (.Name x p) [] kws pos) (tE X.K b (dCall f (some pm) ([] ++ d2))) := by
  obtain ⟨fa, fd, h1, h2, h3, h4, h5⟩ := F.ex
  exact pe_dcallK (d1 := []) (d2 := d2) (pe_callKG0 h1 hr hgd hg h2 h3 (hk fd h5) hkw hall hks hdb hpl) rfl h2' hp hn
theorem pe_dnum {n : Int} (hg : Gl X x) (hm : ∃ t, X.mg x = some (.int n t)) (hd : (x == ("__debug__" : Str)) = false) : PE X (.Name x pos) (tE X.K b (dC (.int n))) := by
  obtain ⟨t, h⟩ := hm
  exact pe_dglob hg h hd
end
theorem spF_len {K : PySem.W.Frag} {io : Bool} {np : Nat} {f : FD} {vs : List V} {H : Hp} {Q : VK} (h : spF K io np f vs H Q E0) : vs.length = np := by
  cases io
  · exact h.1
  · exact h.1
end L2
set_option Elab.async false
set_option autoImplicit false
set_option linter.all false
set_option maxRecDepth 100000
set_option maxHeartbeats 1000001
namespace L2
open PyProof.Rows PySem PySem.Spec
def sPar3 (i j l : Nat) (d1 d2 d3 : DE) : DS := fun e => match d1 e with
  | some (r1, e1) => match d2 e1 with
    | some (r2, e2) => match d3 e2 with
      | some (r3, e3) => if i < e3.length ∧ j < e3.length ∧ l < e3.length then some (.nx, ((e3.set i (some r1)).set j (some r2)).set l (some r3)) else none
      | none => none
    | none => none
  | none => none
section
variable {X : Cx} {b : Bool} {a a2 a3 : Expr} {i j l : Nat} {x y z : Str} {d1 d2 d3 : DE} {pos : Pos}
end
end L2
set_option Elab.async false
set_option autoImplicit false
set_option linter.all false
set_option maxRecDepth 100000
set_option maxHeartbeats 1000001
namespace L2
open PyProof.Rows PySem PySem.Spec
section
variable {X : Cx} {b : Bool} {pos : Pos}
end
end L2
set_option Elab.async false
set_option autoImplicit false
set_option linter.all false
set_option maxRecDepth 100000
set_option maxHeartbeats 1000001
namespace L2
open PyProof.Rows PySem PySem.Spec RZ
def zipD : List D → List D → List D
  | x :: xs, y :: ys => .tuple [x, y] :: zipD xs ys
  | _, _ => []
def zipOf : D → D → Option (List D)
  | .list xs, .list ys => some (zipD xs ys)
  | .tuple xs, .tuple ys => some (zipD xs ys)
  | _, _ => none
def iZp (d1 d2 : DE) : DI := fun e => match evx [d1, d2] e with
  | some ([x, y], e1) => match zipOf x y with
    | some zs => some (zs, e1)
    | none => none
  | _ => none
theorem zipD_get : ∀ {xs ys : List D} {i : Nat} {z : D}, (zipD xs ys)[i]? = some z → ∃ x y, xs[i]? = some x ∧ ys[i]? = some y ∧ z = .tuple [x, y]
  | [], ys, i, z, h => by
    unfold zipD at h
    simp at h
  | x :: xs, [], i, z, h => by
    unfold zipD at h
    simp at h
  | x :: xs, y :: ys, 0, z, h => by
    simp only [zipD, List.getElem?_cons_zero, Option.some.injEq] at h
    exact ⟨x, y, rfl, rfl, h.symm⟩
  | x :: xs, y :: ys, i + 1, z, h => by
    simp only [zipD, List.getElem?_cons_succ] at h
    obtain ⟨a, c, h1, h2, h3⟩ := zipD_get h
    exact ⟨a, c, by simpa using h1, by simpa using h2, h3⟩
theorem zipD_len : ∀ {xs ys : List D}, xs.length ≤ (zipD xs ys).length ∨ ys.length ≤ (zipD xs ys).length
  | [], ys => .inl (Nat.zero_le _)
  | x :: xs, [] => .inr (Nat.zero_le _)
  | x :: xs, y :: ys => by
    rcases zipD_len (xs := xs) (ys := ys) with h | h
    · exact .inl (by simp only [zipD, List.length_cons]; omega)
    · exact .inr (by simp only [zipD, List.length_cons]; omega)
section
variable {X : Cx} {b : Bool} {e e2 tg : Expr} {d1 d2 : DE} {p pos tpos : Pos} {elts : List Expr} {kk : Nat}
theorem steps_zpL {F : Hp} {a c : Addr} {us ws : List V} {xs ys : List D} (h : Rd F a (.lst us)) (hx : DqAll X.K F us xs) (k : Rd F c (.lst ws)) (hy : DqAll X.K F ws ys) : Steps (Dt X.K) F (Itz X.K a c) (zipD xs ys) where
  go := fun i z F' H hi s1 s2 => by
    obtain ⟨x, y, g0, g1, _⟩ := zipD_get hi
    obtain ⟨v, q1, _⟩ := DqAll.get hx g0
    obtain ⟨w, q2, _⟩ := DqAll.get hy g1
    exact ⟨us, ws, v, w, .inl (rdSame (s1.trans s2) h), .inl (rdSame (s1.trans s2) k), q1, q2⟩
  yld := fun i z F' H v H' hi s1 s2 hyl => by
    obtain ⟨T, x', y', rfl, hT, rfl, hz1, hz2⟩ := hyl
    obtain ⟨x, y, g0, g1, rfl⟩ := zipD_get hi
    obtain ⟨w1, q1, q2⟩ := DqAll.get hx g0
    obtain ⟨w2, q3, q4⟩ := DqAll.get hy g1
    rw [hz1 us (.inl (rdSame (s1.trans s2) h))] at q1
    rw [hz2 ws (.inl (rdSame (s1.trans s2) k))] at q3
    cases q1
    cases q3
    have up := same_upd (o := .tup [x', y']) (none_sub s2 hT)
    exact ⟨_, .stay s2 hT, .inr ⟨T, _, _, rfl, rfl, .inl (.inl upd_same), .cons ((q2.to s1).to up) (.cons ((q4.to s1).to up) .nil)⟩⟩
  stop := fun i F' H hi s1 s2 => by
    refine ⟨us, ws, .inl (rdSame (s1.trans s2) h), .inl (rdSame (s1.trans s2) k), ?_⟩
    rw [DqAll.len hx, DqAll.len hy, ← hi]
    exact zipD_len
theorem steps_zpT {F : Hp} {a c : Addr} {us ws : List V} {xs ys : List D} (h : SqT X.K F a us) (hx : DqAll X.K F us xs) (k : SqT X.K F c ws) (hy : DqAll X.K F ws ys) : Steps (Dt X.K) F (ItzT X.K a c) (zipD xs ys) where
  go := fun i z F' H hi s1 s2 => by
    obtain ⟨x, y, g0, g1, _⟩ := zipD_get hi
    obtain ⟨v, q1, _⟩ := DqAll.get hx g0
    obtain ⟨w, q2, _⟩ := DqAll.get hy g1
    exact ⟨us, ws, v, w, sameT (s1.trans s2) h, sameT (s1.trans s2) k, q1, q2⟩
  yld := fun i z F' H v H' hi s1 s2 hyl => by
    obtain ⟨T, x', y', rfl, hT, rfl, hz1, hz2⟩ := hyl
    obtain ⟨x, y, g0, g1, rfl⟩ := zipD_get hi
    obtain ⟨w1, q1, q2⟩ := DqAll.get hx g0
    obtain ⟨w2, q3, q4⟩ := DqAll.get hy g1
    rw [hz1 us (sameT (s1.trans s2) h)] at q1
    rw [hz2 ws (sameT (s1.trans s2) k)] at q3
    cases q1
    cases q3
    have up := same_upd (o := .tup [x', y']) (none_sub s2 hT)
    exact ⟨_, .stay s2 hT, .inr ⟨T, _, _, rfl, rfl, .inl (.inl upd_same), .cons ((q2.to s1).to up) (.cons ((q4.to s1).to up) .nil)⟩⟩
  stop := fun i F' H hi s1 s2 => by
    refine ⟨us, ws, sameT (s1.trans s2) h, sameT (s1.trans s2) k, ?_⟩
    rw [DqAll.len hx, DqAll.len hy, ← hi]
    exact zipD_len
theorem pi_dzip (hg : Gl X "zip") (hm : X.mg "zip" = none) (ha : PA X [e, e2] (tXs X.K b [d1, d2])) (hs : starEach [e, e2] X.env = (false, eval e X.env) :: starEach [e2] X.env) (hpl : (backTo pos (starEach [e2] X.env)).any (·.1) = false) :
    PI X (.Tuple elts kk tpos) (.Call (.Name "zip" p) [e, e2] [] pos) (iD X.K b (Dt X.K) (iZp d1 d2)) := (pi_zipA hg hm ha hs hpl).of fun σ H R ⟨G, io, F, env, zs, env', hb, h1, S, k⟩ => by
  unfold iZp at h1
  split at h1
  · rename_i x y e1 h2
    split at h1
    · rename_i ws h3
      simp only [Option.some.injEq, Prod.mk.injEq] at h1
      obtain ⟨rfl, rfl⟩ := h1
      refine tXs_at hb h2 S fun vs F' H' sm S' hv => ?_
      cases hv with
      | cons q1 r1 =>
        cases r1 with
        | cons q2 r2 =>
          cases r2
          unfold zipOf at h3
          split at h3
          · cases h3
            obtain ⟨a, us, rfl, g1, g2⟩ := Dq.lstI q1
            obtain ⟨c, ws, rfl, g3, g4⟩ := Dq.lstI q2
            exact ⟨a, c, us, ws, rfl, .inl ⟨.inl (rdSame S'.fh g1), .inl (rdSame S'.fh g3), k _ F' H' sm S' (steps_zpL g1 g2 g3 g4)⟩⟩
          · cases h3
            obtain ⟨a, us, rfl, g1, _, g2⟩ := Dq.tupI q1
            obtain ⟨c, ws, rfl, g3, _, g4⟩ := Dq.tupI q2
            exact ⟨a, c, us, ws, rfl, .inr ⟨sameT S'.fh g1, sameT S'.fh g3, k _ F' H' sm S' (steps_zpT g1 g2 g3 g4)⟩⟩
          · cases h3
    · cases h1
  · cases h1
end
end L2
set_option Elab.async false
set_option autoImplicit false
set_option linter.all false
set_option maxRecDepth 100000
set_option maxHeartbeats 1000001
namespace L2
open PyProof.Rows PySem PySem.Spec
def dnD (i : Int) (n : Nat) : List D := (List.range n).map fun (k : Nat) => .int (i + (k : Int) * (-1))
def dnV (i : Int) (n : Nat) : List V := (List.range n).map fun (k : Nat) => .int (i + (k : Int) * (-1))
def rgOf3 : List D → Option (Int × Int)
  | [.int i, .int j, .int k] => if k = -1 ∧ smallR i j = true ∧ (i - j).toNat ≤ 2 ^ 24 then some (i, j) else none
  | _ => none
def dTRg3 (os : List Opd) : DE := fun e => match evs os e with
  | some (xs, e1) => match rgOf3 xs with
    | some (i, j) => some (.d (.tuple (dnD i (i - j).toNat)), e1)
    | none => none
  | none => none
def dLRg3 (os : List Opd) : DE := fun e => match evs os e with
  | some (xs, e1) => match rgOf3 xs with
    | some (i, j) => some (.own (dnD i (i - j).toNat), e1)
    | none => none
  | none => none
theorem dn_dq {K : PySem.W.Frag} {F : Hp} (i : Int) (n : Nat) : DqAll K F (dnV i n) (dnD i n) := by
  unfold dnV dnD
  generalize List.range n = l
  induction l with
  | nil => exact .nil
  | cons k l ih => exact .cons (.int _) ih
section
variable {X : Cx} {b : Bool} {tg a c d e : Expr} {os : List Opd} {p pos p2 tpos : Pos}
theorem rg3_at {G F H : Hp} {io : Option Addr} {env e1 : Slots} {σ : L2.St} {xs : List D} {i j : Int} {R : List V → Hp → Prop} (hb : b = false → io = none) (h : evs os env = some (xs, e1)) (S : Sim X.K G io env σ F H) (hr : rgOf3 xs = some (i, j))
    (k : ∀ F' H', Same F F' → Sim X.K G io e1 σ F' H' → smallR i j = true → (i - j).toNat ≤ 2 ^ 24 → R [.int i, .int j, .int (-1)] H') : tOs X.K b os σ H R :=
  tOs_at hb h S fun vs F' H' sm S' hv => by
    unfold rgOf3 at hr
    split at hr
    · rename_i i0 j0 k0
      split at hr
      · rename_i q
        simp only [Option.some.injEq, Prod.mk.injEq] at hr
        obtain ⟨rfl, rfl⟩ := hr
        obtain ⟨rfl, q2, q3⟩ := q
        cases hv with
        | cons q4 r1 =>
          cases r1 with
          | cons q5 r2 =>
            cases r2 with
            | cons q6 r3 =>
              cases r3
              cases q4
              cases q5
              cases q6
              exact k F' H' sm S' q2 q3
      · cases hr
    · cases hr
theorem rg3_obj (hg : Gl X "range") (hm : X.mg "range" = none) {t : TA} (ha : PA X [a, c, d] t) (hs : starEach [a, c, d] X.env = (false, eval a X.env) :: starEach [c, d] X.env) (hpl : (backTo tpos (starEach [c, d] X.env)).any (·.1) = false) {pins : List (Addr × Obj)} {s : Shared} {σ : L2.St} {H : Hp} {Q : Int → Int → Hp → Prop} (I : Inv X pins σ H s)
    (h : t σ H fun vs H1 => ∃ i j : Int, vs = [.int i, .int j, .int (-1)] ∧ Q i j H1) : wpAny (model X.prog X.w) X.A (eval (.Call (.Name "range" p2) [a, c, d] [] tpos) X.env) (fun x s' => ∃ r i j t u v H', x = .ref r ∧ IsRange s'.heap r i j (-1) t u v ∧ Inv X pins σ H' s' ∧ Q i j H') X.xe s := by
  refine Call_ (ld_blt I hg hm boot_range (PyProof.Rows.callWith_type1 (thn (ha.run tpos pins s σ H _ I h) fun us s1 ⟨vs, H1, I1, r1, i, j, ev, q⟩ => ?_) hs hpl))
  subst ev
  cases r1 with
  | cons r rr =>
    cases rr with
    | cons r' rr =>
      cases rr with
      | cons r'' rr =>
        cases rr
        obtain ⟨t, rfl⟩ := r
        obtain ⟨t', rfl⟩ := r'
        obtain ⟨t'', rfl⟩ := r''
        exact call_range_3 (by decide) ⟨_, i, j, _, _, _, H1, rfl, IsRange.new .., I1.kept (t' := s1.toks) fun b o e => Heap.get?_push_of_some _ e, q⟩ (.inl (PyProof.noPylong_small (by decide)))
theorem vals_dn {i : Int} {n : Nat} {acc : Array Value} (h : ItemsOf (fun k v => ∃ t, v = .int (i + k * (-1)) t) acc n) : Vals (dnV i n) acc.toList := by
  have e : acc.toList.length = n := by rw [Array.length_toList]; exact h.1
  unfold dnV
  rw [← e]
  refine
        vals_of_get acc.toList _ fun j u hj => ?_
  obtain
        ⟨t, rfl⟩ := h.2 j u (by rw [← hj, Array.getElem?_toList])
  exact ⟨t, rfl⟩
theorem dnV_len {i : Int} {n : Nat} : (dnV i n).length = n := by
  unfold dnV
  rw
        [List.length_map, List.length_range]
theorem pe_dtrg3 (hc : X.calm = true) (hg : Gl X "tuple") (hm : X.mg "tuple" = none) (hg2 : Gl X "range") (hm2 : X.mg "range" = none) (ha : PA X [a, c, d] (tOs X.K b os)) (hs : starEach [a, c, d] X.env = (false, eval a X.env) :: starEach [c, d] X.env) (hpl : (backTo tpos (starEach [c, d] X.env)).any (·.1) = false)
    (na : starEach [.Call (.Name "range" p2) [a, c, d] [] tpos] X.env = (false, eval (.Call (.Name "range" p2) [a, c, d] [] tpos) X.env) :: starEach [] X.env) : PE X (.Call (.Name "tuple" p) [.Call (.Name "range" p2) [a, c, d] [] tpos] [] pos) (tE X.K b (dTRg3 os)) := by
  refine
        ⟨fun pins s σ H Q I h => ?_⟩
  obtain ⟨G, io, F, env, r, env', hb, h1, S, k⟩ := h
  unfold dTRg3 at h1
  split at h1
  · rename_i ys e1 h2
    split at h1
    · rename_i i j h3
      simp only [Option.some.injEq, Prod.mk.injEq] at h1
      obtain ⟨rfl, rfl⟩ := h1
      refine Call_ (ld_blt I hg hm boot_tuple (PyProof.Rows.callWith_type1 (args_cons (thn (rg3_obj hg2 hm2 ha hs hpl (Q := fun i' j' H1 => i' = i ∧ j' = j ∧ smallR i j = true ∧ (i - j).toNat ≤ 2 ^ 24 ∧ ∃ F1, Same F F1 ∧ Sim X.K G io e1 σ F1 H1) I (rg3_at hb h2 S h3 fun F' H' sm S' q2 q3 => ⟨i, j, rfl, rfl, rfl, q2, q3, F', sm, S'⟩)) fun x s1 ⟨r, i', j', t, u, v, H1, ex, hr, I1, ei, ej, q2, q3, F1, sm, S1⟩ => args_nil ?_) na) na))
      subst ex ei ej
      unfold smallR at q2
      have q := of_decide_eq_true q2
      obtain ⟨_, _, c1, c2⟩ := RgC.neg q.1 q.2.1 q.2.2.1 q.2.2.2
      refine call_tuple_range (n := (i' - j').toNat) (I1.ok.hd hc) hr c1 c2 q3 fun h' tk acc hk hi => ?_
      have I2 : Inv X pins σ H1 { s1 with heap := h', toks := tk } := I1.kept (t' := tk) hk
      have sz : (dnV i' (i' - j').toNat).length ≤ sizeLine := by
        rw [dnV_len, sizeLine_eq]
        omega
      have I3 := I2.tnew (t' := tk) (its := acc.toList) (vals_dn hi) sz
      simp only [Array.toArray_toList] at I3
      exact ⟨.ref h'.objs.size, _, I3, rfl, ((post_of sm S1 k).tup S1.fh (dn_dq i' (i' - j').toNat)) _ _ I2.fresh rfl⟩
    · cases h1
  · cases h1
end
end L2
set_option Elab.async false
set_option autoImplicit false
set_option linter.all false
set_option maxRecDepth 100000
set_option maxHeartbeats 1000001
namespace L2
open PyProof.Rows PySem PySem.Spec
section
variable {X : Cx} {b : Bool} {o e : Expr} {d1 d2 : DE} {apos cpos : Pos}
end
end L2
set_option Elab.async false
set_option autoImplicit false
set_option linter.all false
set_option maxRecDepth 100000
set_option maxHeartbeats 1000001
namespace L2
open PyProof.Rows PySem PySem.Spec
def gtI (m : Int) (is : List Int) : Int := is.foldl (fun a y => if a < y then y else a) m
theorem gtI_of (m : Int) (is : List Int) : PySem.W.maxOf m is = gtI m is := by
  unfold PySem.W.maxOf gtI
  congr 1
  funext a y
  show (if decide (a < y) = true then y else a) = _
  by_cases h : a < y <;> simp [h]
def pMaxA : List D → Option TV
  | [.tuple xs] => match intsD xs with
    | some (m :: is) => some (.d (.int (gtI m is)))
    | _ => none
  | l => pMax l
section
variable {X : Cx}
theorem cr_pMaxA (hc : X.calm = true) (hu : X.A.units + 66 < cLine) : CallR X (.builtin "max") (rPs X.K pMaxA) := by
  intro pins s σ H vs us Q I rv ⟨F, xs, t, sm, hs, h, p⟩
  unfold pMaxA at h
  split at h
  · rename_i ys
    split at h
    · rename_i m is e
      cases h
      cases hs with
      | cons h1 t1 =>
        cases t1
        cases h1 with
        | tup ha hb hd =>
          obtain ⟨rfl, _⟩ := ints_dq hd e
          obtain ⟨u, rfl, ru⟩ := vals1 rv
          cases ru
          obtain ⟨its, r2, ht, hz⟩ := I.tuple (sameT sm ha)
          refine PySem.W.max_tuple_datum (x := m) (xs := is) (vs := its.toArray) (I.ok.hd hc) (show s.heap.IsTuple _ its.toArray from ht) (show PySem.W.HoldAll s.heap its (m :: is) from PySem.W.HoldAll.of_ints r2.ints) ?_ fun i v h' tk hi hv hk => ?_
          · show X.A.units + 1 + 0 < cLine
            omega
          · obtain ⟨t, rfl⟩ := PySem.W.int_of_holds hv
            rw [gtI_of]
            exact ⟨.int _, H, I.kept (t' := tk) hk, ⟨_, rfl⟩, p.scal sm (.int _)⟩
    · cases h
  · exact cr_pMax hc pins s σ H vs us Q I rv ⟨F, xs, t, sm, hs, h, p⟩
end
end L2
set_option Elab.async false
set_option autoImplicit false
set_option linter.all false
set_option maxRecDepth 100000
set_option maxHeartbeats 1000001
namespace L2
open PyProof.Rows PySem PySem.Spec
def iK (xs : List D) : DI := fun e => some (xs, e)
def dLcB (i : Nat) (g : DG) (vs : List Nat) (c t : DE) : DE := fun e => match e[i]? with
  | some (some (.own xs)) => if i ∈ vs then none else (match dLc (iK xs) g vs c t (e.set i none) with
    | some (r, e3) => some (r, e3.set i (some (.own xs)))
    | none => none)
  | _ => dLc (iSeq (dVar i)) g vs c t e
section
variable {K : PySem.W.Frag} {G F H : Hp} {io : Option Addr} {env env' : Slots} {σ : L2.St} {b : Bool}
theorem goO {G H F : Hp} {a : Addr} {us : List V} {xs : List D} {i : Nat} {x : D} (gh : Same G H) (hg : G a = some (.lst us)) (hx : DqAll K F us xs) (hi : xs[i]? = some x) : (Itl K a).go i H := by
  obtain ⟨v, g1, g2⟩ := DqAll.get hx hi
  exact ⟨us, v, .inl (.of (gh _ _ hg)), g1⟩
theorem yldO {G H F0 F H' : Hp} {a : Addr} {us : List V} {xs : List D} {i : Nat} {x : D} {v : V} (gh : Same G H) (hg : G a = some (.lst us)) (hx : DqAll K F0 us xs) (sm : Same F0 F) (fh : Same F H) (hi : xs[i]? = some x) (hy : (Itl K a).yld i H v H') : ∃ F'', Ext F H F'' H' ∧ Dq K F'' v x := by
  obtain ⟨rfl, hv⟩ := hy
  obtain ⟨w, g1, g2⟩ := DqAll.get hx hi
  rw [hv us (.inl (.of (gh _ _ hg)))] at g1
  cases g1
  exact ⟨F, .refl fh, g2.to sm⟩
theorem stopO {G H F : Hp} {a : Addr} {us : List V} {xs : List D} (gh : Same G H) (hg : G a = some (.lst us)) (hx : DqAll K F us xs) : (Itl K a).stop xs.length H := ⟨us, .inl (.of (gh _ _ hg)), by rw [DqAll.len hx]; exact Nat.le_refl _⟩
theorem lcK_at {g : DG} {vs ws : List Nat} {c t : DE} {Q : VK} {a : Addr} {us : List V} {xs : List D} {r : TV} {F0 H0 : Hp} {e0 e3' : Slots} (hb : b = false → io = none) (hw : ∀ i ∈ ws, i ∈ vs) (hv : 0 ∉ vs ∨ b = false) (S0 : Sim K G io e0 σ F0 H0) (hga : G a = some (.lst us)) (hx0 : DqAll K F0 us xs)
    (h1 : dLc (iK xs) g vs c t e0 = some (r, e3')) (k : ∀ (v : V) (F' H' : Hp), Same F0 F' → Sim K G io e3' σ F' H' → TVR K G F' H' v r → Apart e3' σ v r → Q v H') : tLc (fun _ H R => R (Itl K a) H) (tG K b (Dq K) g ws) (tT K b c) (tE K b t) vs σ H0 Q := by
  intro ad hD
  unfold dLc iK at h1
  dsimp only at h1
  split at h1
  · rename_i ys e2 h3
    split at h1
    · rename_i hz
      split at h1
      · rename_i e3 h4
        simp only [Option.some.injEq, Prod.mk.injEq] at h1
        obtain ⟨rfl, rfl⟩ := h1
        refine ?_
        have h0 : 0 ∉ vs ∨ io = none := hv.imp id fun z => hb z
        have S1 := (S0.ext (Ext.lay (o := .lst []) S0.fh hD)).wiped (vs := vs) h0
        refine ⟨fun i m H1 => ∃ (F1 : Hp) (e : Slots) (acc : List V) (as rest : List D), Same F0 F1 ∧ Sim K G io e (wipe σ vs) F1 H1 ∧ H1 ad = some (.lst acc) ∧ F1 ad = none ∧ G ad = none ∧ Apart e (wipe σ vs) (.ref ad) (.own as) ∧ DqAll K F1 acc as ∧
          lcGo g c t vs (xs.drop i) e = some (rest, e2) ∧ as ++ rest = ys ∧ m = xs.length - i ∧ i ≤ xs.length,
          ⟨xs.length, F0, wipeS e0 vs, [], [], ys, Same.refl F0, S1, upd_same, none_sub S0.fh hD, none_sub S0.gh hD, ?_, .nil, h3, rfl, by simp, Nat.zero_le _⟩, ?_⟩
        · intro _ i us q1 mm q2
          obtain ⟨v, f1, tv1⟩ := S1.sl i _ q1
          obtain ⟨a, ws', rfl, f2, _⟩ := tv1.mutI mm
          rw [q2] at f1
          cases f1
          obtain ⟨q3, n3⟩ := wipeS_some q1
          rw [wipe_out2 n3] at q2
          obtain ⟨v, f3, tv2⟩ := S0.sl i _ q3
          obtain ⟨a', us', e', f4, _⟩ := tv2.mutI mm
          rw [q2] at f3
          cases f3
          cases e'
          rw [hD] at f4
          cases f4
        · rintro i m H1 ⟨F1, e, acc, as, rest, sm, S2, k1, k2, k3, ap, k4, h5, h6, rfl, hi⟩
          by_cases hlt : i < xs.length
          · obtain ⟨x, hx, hd⟩ := drop_some hlt
            rw [hd] at h5
            simp only [lcGo] at h5
            refine .inr ⟨goO S2.gh hga hx0 hx, fun H4 => ∃ (F1 : Hp) (e : Slots) (acc : List V) (as rest : List D), Same F0 F1 ∧ Sim K G io e (wipe σ vs) F1 H4 ∧ H4 ad = some (.lst acc) ∧ F1 ad = none ∧ G ad = none ∧ Apart e (wipe σ vs) (.ref ad) (.own as) ∧ DqAll K F1 acc as ∧
              lcGo g c t vs (xs.drop (i + 1)) e = some (rest, e2) ∧ as ++ rest = ys, ?_, ?_⟩
            · rintro H4 ⟨F4, e4, acc4, as4, rest4, a1, a2, a3, a4, a5, a6, a7, a8, a9⟩
              exact ⟨xs.length - (i + 1), by omega, F4, e4, acc4, as4, rest4, a1, a2, a3, a4, a5, a6, a7, a8, a9, rfl, hlt⟩
            · intro v H2 hy
              obtain ⟨F2, x2, hv2⟩ := yldO S2.gh hga hx0 sm S2.fh hx hy
              have S3 := (S2.guard k1 k2 k3 ap).ext x2
              split at h5
              · rename_i e5 h7
                refine ⟨upd G ad (.lst acc), io, F2, e, x, e5, hb, h7, S3, hv2, fun σ6 F6 H6 sm6 S6 wp => ?_⟩
                have wp' : wipe σ6 vs = wipe σ vs := by
                  rw [wp vs hw, wipe_wipe fun i hi => hi]
                have turn : ∀ {e7 : Slots} {F7 H7 : Hp}, Same F6 F7 → Sim K (upd G ad (.lst acc)) io e7 σ6 F7 H7 → Sim K (upd G ad (.lst acc)) io (wipeS e7 vs) (wipe σ vs) F7 H7 := fun sm7 S7 => by
                  rw [← wp']
                  exact S7.wiped h0
                have dp7 : ∀ {F7 : Hp}, Same F6 F7 → DqAll K F7 acc as := fun sm7 => DqAll.to k4 ((x2.ff.trans sm6).trans sm7)
                refine ⟨wp', ?_⟩
                split at h5
                · rename_i e7 h8
                  split at h5
                  · rename_i y e8 h9
                    split at h5
                    · rename_i ys' e9 h10
                      simp only [Option.some.injEq, Prod.mk.injEq] at h5
                      obtain ⟨rfl, rfl⟩ := h5
                      refine ⟨upd G ad (.lst acc), io, F6, e5, true, e7, hb, h8, S6, fun F7 H7 sm7 S7 => ?_⟩
                      dsimp only
                      rw [if_pos rfl]
                      refine tE_at hb h9 S7 fun v8 F8 H8 sm8 S8 hv8 _ => ?_
                      have S9 := turn (sm7.trans sm8) S8
                      obtain ⟨S10, j1, j2, j3, j4⟩ := Sim.free S9 k3 (dp7 (sm7.trans sm8)) (Same.refl F8)
                      have hl : acc.length < sizeLine := by
                        have q1 := DqAll.len j3
                        have q2 : ys.length = as.length + (ys'.length + 1) := by rw [← h6, List.length_append, List.length_cons]
                        omega
                      refine ⟨acc, j1, hl, ?_⟩
                      -- the item is put to the list
                      have fh' : Same F8 (upd H8 ad (.lst (acc ++ [v8]))) := fun a o q => by
                        rw [upd_ne (ne_of_none q j2)]
                        exact S10.fh a o q
                      refine ⟨F8, wipeS e8 vs, acc ++ [v8], as ++ [y], ys', ((sm.trans x2.ff).trans sm6).trans (sm7.trans sm8), ⟨S10.len, fh', fun a o q => ?_, S10.fg, fun l u q => ?_, S10.sep, S10.at0, S10.io0⟩, upd_same, j2, k3, fun _ l us q1 mm q2 => j4 rfl l us q1 mm q2, DqAll.app j3 (.one hv8), h10, ?_⟩
                      · rw [upd_ne (ne_of_none q k3)]
                        exact S10.gh a o q
                      · obtain ⟨w, f1, f2⟩ := S10.sl l u q
                        refine ⟨w, f1, ?_⟩
                        rcases f2.split with ⟨z, rfl, f2⟩ | ⟨mm, a, us, rfl, g1, g2, g3, g4⟩
                        · exact f2
                        · have ne : a ≠ ad := fun z => j4 rfl l u q mm (by rw [f1, z])
                          exact .mutE (by rw [upd_ne ne]; exact g1) g2 g3 g4
                      · rw [← h6, List.append_assoc]
                        rfl
                    · cases h5
                  · cases h5
                · rename_i e7 h8
                  refine ⟨upd G ad (.lst acc), io, F6, e5, false, e7, hb, h8, S6, fun F7 H7 sm7 S7 => ?_⟩
                  dsimp only
                  rw
                        [if_neg Bool.false_ne_true]
                  have S9 := turn sm7 S7
                  obtain ⟨S10, j1, j2, j3, j4⟩ := Sim.free S9 k3 (dp7 sm7) (Same.refl F7)
                  exact ⟨F7, wipeS e7 vs, acc, as, rest, ((sm.trans x2.ff).trans sm6).trans sm7, S10, j1, j2, k3, j4, j3, h5, h6⟩
                · cases h5
              · cases h5
          · have e' : i = xs.length := by omega
            subst e'
            rw [List.drop_length] at h5
            simp only [lcGo, Option.some.injEq, Prod.mk.injEq] at h5
            obtain ⟨rfl, rfl⟩ := h5
            rw [List.append_nil] at h6
            subst h6
            refine .inl ⟨stopO S2.gh hga hx0, ?_⟩
            have S4 := Sim.undone S0 S2 sm h4 h0
            refine k (.ref ad) F1 H1 sm S4 ⟨ad, acc, rfl, k1, k2, k3, k4⟩ fun _ l us q1 mm q2 => ?_
            rcases (undo_get h4).2 l _ q1 with ⟨n1, n2⟩ | ⟨_, _, n3⟩
            · exact ap rfl l us n2 mm (by rw [wipe_out2 n1]; exact q2)
            · rw [n3] at mm
              cases mm
      · cases h1
    · cases h1
  · cases h1
def iB (K : PySem.W.Frag) (b : Bool) (i : Nat) : TI := fun σ H R => (∃ (a : Addr) (us : List V), σ[i]? = some (some (.ref a)) ∧ H a = some (.lst us) ∧ R (Itl K a) H) ∨ iD K b (Dq K) (iSeq (dVar i)) σ H R
theorem lcB_at {i : Nat} {g : DG} {vs ws : List Nat} {c t : DE} {Q : VK} (h0 : i ≠ 0 ∨ b = false) (hw : ∀ j ∈ ws, j ∈ vs) (hv : 0 ∉ vs ∨ b = false) {H : Hp} (h : tE K b (dLcB i g vs c t) σ H Q) : tLc (iB K b i) (tG K b (Dq K) g ws) (tT K b c) (tE K b t) vs σ H Q := by
  obtain ⟨G, io, F, env, r, env', hb, h1, S, k⟩ := h
  unfold dLcB at h1
  split at h1
  · rename_i xs ei
    split at h1
    · cases h1
    · rename_i hni
      split at h1
      · rename_i r1 e3 h2
        simp only [Option.some.injEq, Prod.mk.injEq] at h1
        obtain ⟨rfl, rfl⟩ := h1
        obtain ⟨v, hs, a, us, rfl, g1, g2, g3, g4⟩ := S.sl i _ ei
        have hi : i < σ.length := by
          rw [← S.len]
          exact (List.getElem?_eq_some_iff.mp ei).1
        have h0' : i ≠ 0 ∨ io = none := h0.imp id fun z => hb z
        have S1 := S.drop h0'
        have ap : Apart (env.set i none) σ (.ref a) (.own xs) := fun _ j ys q1 mm q2 => by
          by_cases hj : i = j
          · subst hj
            rw [List.getElem?_set] at q1
            simp at q1
          · rw [List.getElem?_set_ne hj] at q1
            exact hj (S.sep i j _ ys a ei q1 rfl mm hs q2)
        have S2 := S1.guard g1 g2 g3 ap
        refine .inl ⟨a, us, hs, g1, ?_⟩
        refine lcK_at hb hw hv S2 upd_same g4 h2 fun v F' H' sm S3 tv av => ?_
        obtain ⟨S4, j1, j2, j3, j4⟩ := Sim.free S3 g3 g4 sm
        have S5 := S4.put hi (v := .ref a) (r := .own xs) ⟨a, us, rfl, j1, j2, g3, j3⟩ j4 h0'
        have es : σ.set i (some (.ref a)) = σ := by
          refine List.ext_getElem? fun m => ?_
          rw [List.getElem?_set]
          split
          · rename_i c
            subst c
            exact hs.symm
          · rfl
        rw [es] at S5
        refine k v F' H' sm S5 ?_ fun z l ys q1 mm q2 => ?_
        · rcases tv.split with ⟨x, rfl, tv⟩ | ⟨_, c1, ws1, rfl, k1, k2, k3, k4⟩
          · exact tv
          · exact .mutE k1 k2 ((same_upd g3).free k3) k4
        · by_cases hl : i = l
          · subst hl
            obtain ⟨c1, ws1, rfl, k1, k2, k3, k4⟩ := tv.mutI z
            rw [hs] at q2
            cases q2
            rw [upd_same] at k3
            cases k3
          · rw [List.getElem?_set_ne hl] at q1
            exact av z l ys q1 mm q2
      · cases h1
  · exact .inr (lc_at (W := Dq K) (s := iSeq (dVar i)) hw hv ⟨G, io, F, env, r, env', hb, h1, S, k⟩)
end
section
variable {X : Cx} {b : Bool} {elt tg iter : Expr} {scope : Scope} {own : List (Str × Nat)} {pos : Pos} {g : DG} {ws : List Nat} {c t : DE} {i : Nat}
theorem pi_B (h : PE X iter (tVar i)) (hd : PE X iter (tE X.K b (dVar i))) : PI X tg iter (iB X.K b i) := PI.by fun σ H R q => by
  rcases q with ⟨a, us, h1, h2, h3⟩ | q
  · exact ⟨_, pi_list h, ⟨.ref a, h1, a, rfl, ⟨us, .inl (.of h2)⟩, h3⟩⟩
  · exact ⟨_, pi_dseq hd, q⟩
theorem pe_dlcB {ifs : List Expr} (hc : X.calm = true) (hN : X.N.Nodup) (h : PE X iter (tVar i)) (hd : PE X iter (tE X.K b (dVar i))) (h0 : i ≠ 0 ∨ b = false) (ok : BlkOk X.N X.env.scope scope own)
    (hg : Blkd X scope fun Y => PG Y tg (tG X.K b (Dq X.K) g ws)) (ht : Blkd X scope fun Y => PTs Y ifs (tT X.K b c)) (he : Blkd X scope fun Y => PE Y elt (tE X.K b t)) (hs : ∀ x, foldedSetIterable iter X.env x = pure x)
    (hw : ∀ i ∈ ws, i ∈ own.map (·.2)) (hv : 0 ∉ own.map (·.2) ∨ b = false) : PE X (.ListComp elt [⟨tg, iter, ifs, 0⟩] scope pos) (tE X.K b (dLcB i g (own.map (·.2)) c t)) :=
  (pe_lc hc hN (pi_B h hd) ok hg ht he hs).of fun σ H Q h => lcB_at h0 hw hv h
end
end L2
set_option Elab.async false
set_option autoImplicit false
set_option linter.all false
set_option maxRecDepth 100000
set_option maxHeartbeats 1000001
namespace L2
open PyProof.Rows PySem PySem.Spec
def rowE (b : List Int) : D := .list (b.map PyData.int)
def rowsD : List D → Option (List (List Int))
  | [] => some []
  | .list xs :: r => match intsD xs with
    | some is => match rowsD r with
      | some rs => some (is :: rs)
      | none => none
    | none => none
  | _ => none
def sortR (bs : List (List Int)) : List (List Int) := bs.mergeSort fun p q => decide (p ≤ q)
def pSortedR : List D → Option TV
  | [.list xs] => match intsD xs with
    | some is => some (.own ((sortI is).map PyData.int))
    | none => match rowsD xs with
      | some bs => if bs.length ≤ sizeLine then some (.own ((sortR bs).map rowE)) else none
      | none => none
  | l => pSorted l
def pReprB : List D → Option TV
  | [.bool b] => some (.d (.str (if b then "True" else "False")))
  | l => pRepr l
section
variable {X : Cx}
theorem cr_pReprB (hg : X.A.guards = some []) (hu : X.A.units + 66 < cLine) : CallR X (.builtin "repr") (rPs X.K pReprB) := by
  intro pins s σ H vs us Q I rv ⟨F, xs, t, sm, hs, h, p⟩
  unfold pReprB at h
  split at h
  · rename_i b
    cases h
    cases hs with
    | cons h1 t1 =>
      cases t1
      cases h1
      obtain ⟨u, rfl, ru⟩ := vals1 rv
      cases ru
      refine PySem.P.repr_of_bool ?_
      exact ⟨.str (if b then "True" else "False"), H, I.kept (t' := s.toks + 1) fun c ob z => z, ⟨_, rfl⟩, p.scal sm (.str _)⟩
  · exact cr_pRepr hg hu pins s σ H vs us Q I rv ⟨F, _, t, sm, hs, h, p⟩
end
end L2
set_option Elab.async false
set_option autoImplicit false
set_option linter.all false
set_option maxRecDepth 100000
set_option maxHeartbeats 1000001
namespace L2
open PyProof.Rows PySem PySem.Spec
section
variable {X : Cx} {b : Bool}
end
section
variable {X : Cx}
end
section
variable {X : Cx} {b : Bool} {a c d : Expr} {os : List Opd} {p p2 tpos pos : Pos}
theorem pe_dlrg3 (hc : X.calm = true) (hg : Gl X "list") (hm : X.mg "list" = none) (hg2 : Gl X "range") (hm2 : X.mg "range" = none) (ha : PA X [a, c, d] (tOs X.K b os)) (hs : starEach [a, c, d] X.env = (false, eval a X.env) :: starEach [c, d] X.env) (hpl : (backTo tpos (starEach [c, d] X.env)).any (·.1) = false)
    (na : starEach [.Call (.Name "range" p2) [a, c, d] [] tpos] X.env = (false, eval (.Call (.Name "range" p2) [a, c, d] [] tpos) X.env) :: starEach [] X.env) : PE X (.Call (.Name "list" p) [.Call (.Name "range" p2) [a, c, d] [] tpos] [] pos) (tE X.K b (dLRg3 os)) := by
  refine
        ⟨fun pins s σ H Q I h => ?_⟩
  obtain ⟨G, io, F, env, r, env', hb, h1, S, k⟩ := h
  unfold dLRg3 at h1
  split at h1
  · rename_i ys e1 h2
    split at h1
    · rename_i i j h3
      simp only [Option.some.injEq, Prod.mk.injEq] at h1
      obtain ⟨rfl, rfl⟩ := h1
      refine Call_ (ld_blt I hg hm boot_list (PyProof.Rows.callWith_type1 (args_cons (thn (rg3_obj hg2 hm2 ha hs hpl (Q := fun i' j' H1 => i' = i ∧ j' = j ∧ smallR i j = true ∧ (i - j).toNat ≤ 2 ^ 24 ∧ ∃ F1, Same F F1 ∧ Sim X.K G io e1 σ F1 H1) I (rg3_at hb h2 S h3 fun F' H' sm S' q2 q3 => ⟨i, j, rfl, rfl, rfl, q2, q3, F', sm, S'⟩)) fun x s1 ⟨r, i', j', t, u, v, H1, ex, hr, I1, ei, ej, q2, q3, F1, sm, S1⟩ => args_nil ?_) na) na))
      subst ex ei ej
      unfold smallR at q2
      have q := of_decide_eq_true q2
      obtain ⟨_, _, c1, c2⟩ := RgC.neg q.1 q.2.1 q.2.2.1 q.2.2.2
      refine call_list_range (n := (i' - j').toNat) (I1.ok.hd hc) hr c1 c2 q3 fun h' tk acc c' hk e' hi => ?_
      have sz : (dnV i' (i' - j').toNat).length ≤ sizeLine := by
        rw [dnV_len, sizeLine_eq]
        omega
      have fr : H1 s1.heap.objs.size = none := I1.hok.fresh (Nat.le_refl _)
      refine ⟨.ref s1.heap.objs.size, upd H1 s1.heap.objs.size (.lst (dnV i' (i' - j').toNat)), I1.laid hk (Nat.le_refl _) ⟨sz, acc.toList, c', vals_dn hi, ?_⟩, rfl, ?_⟩
      · rw [Array.toArray_toList]
        exact e'
      · exact (post_of sm S1 k).lst S1.fh (dn_dq i' (i' - j').toNat) fr
    · cases h1
  · cases h1
end
section
variable {K : PySem.W.Frag} {G G' F H : Hp} {io : Option Addr} {env env' : Slots} {σ : L2.St} {v : V} {r : TV}
end
section
variable {X : Cx} {b : Bool} {a1 a2 : Expr} {sts : List Stmt} {d1 d2 : DE} {s : DS} {i : Nat} {x : Str} {px lp pos : Pos}
end
end L2
set_option Elab.async false
set_option autoImplicit false
set_option linter.all false
set_option maxRecDepth 100000
set_option maxHeartbeats 1000001
namespace L2
open PyProof.Rows PySem PySem.Spec
section
variable {X : Cx} {b : Bool} {a a2 : Expr} {i j : Nat} {x y : Str} {d1 d2 : DE} {pos : Pos}
end
end L2
set_option Elab.async false
set_option autoImplicit false
set_option linter.all false
set_option maxRecDepth 100000
set_option maxHeartbeats 1000001
namespace L2
open PyProof.Rows PySem PySem.Spec
section
variable {X : Cx} {b : Bool} {o : Expr} {i : Nat} {apos cpos : Pos}
end
def tupE (b : List Int) : D := .tuple (b.map PyData.int)
def tupsD : List D → Option (List (List Int))
  | [] => some []
  | .tuple xs :: r => match intsD xs with
    | some is => match tupsD r with
      | some rs => if is = [] then none else some (is :: rs)
      | none => none
    | none => none
  | _ => none
def pSortedT : List D → Option TV
  | [.list xs] => match tupsD xs with
    | some bs => if bs.length ≤ sizeLine then some (.own ((sortR bs).map tupE)) else none
    | none => pSortedR [.list xs]
  | l => pSortedR l
section
variable {X : Cx}
end
end L2
set_option Elab.async false
set_option autoImplicit false
set_option linter.all false
set_option maxRecDepth 100000
set_option maxHeartbeats 1000001
namespace L2
open PyProof.Rows PySem PySem.Spec
section
variable {X : Cx} {b : Bool} {j : Nat} {x : Str} {ps : List Str} {kb : FuncData → Prop} {f : FD} {p pos : Pos}
end
section
variable {P : Program} {w : World} {K : PySem.W.Frag} {mg : Str → Option Value} {base : Heap} {k np : Nat} {io : Bool} {f : Addr} {fd : FuncData} {ps : List Str}
end
end L2
set_option Elab.async false
set_option autoImplicit false
set_option linter.all false
set_option maxRecDepth 100000
set_option maxHeartbeats 1000001
namespace L2
open PyProof.Rows PySem PySem.Spec
section
variable {X : Cx} {b : Bool} {x : Str} {pos : Pos} {d : D}
end
end L2
set_option Elab.async false
set_option autoImplicit false
set_option linter.all false
set_option maxRecDepth 100000
set_option maxHeartbeats 1000001
namespace L2
open PyProof.Rows PySem PySem.Spec
def pReprN : List D → Option TV
  | [.none] => some (.d (.str "None"))
  | l => pReprB l
section
variable {X : Cx}
theorem cr_pReprN (hg : X.A.guards = some []) (hu : X.A.units + 66 < cLine) : CallR X (.builtin "repr") (rPs X.K pReprN) := by
  intro pins s σ H vs us Q I rv ⟨F, xs, t, sm, hs, h, p⟩
  unfold pReprN at h
  split at h
  · cases h
    cases hs with
    | cons h1 t1 =>
      cases t1
      cases h1
      obtain ⟨u, rfl, ru⟩ := vals1 rv
      cases ru
      refine PySem.P.repr_of_none ?_
      exact ⟨.str "None", H, I.kept (t' := s.toks + 1) fun c ob z => z, ⟨_, rfl⟩, p.scal sm (.str _)⟩
  · exact cr_pReprB hg hu pins s σ H vs us Q I rv ⟨F, _, t, sm, hs, h, p⟩
end
end L2
set_option Elab.async false
set_option autoImplicit false
set_option linter.all false
set_option maxRecDepth 100000
set_option maxHeartbeats 1000001
namespace L2
open PySem

theorem lc_fm {g : DG} {c t : DE} {vs : List Nat} {e : Slots} {p : D → Bool} {f : D → D} : ∀ {xs : List D}, (∀ x ∈ xs, ∃ e1 e2, g x e = some e1 ∧ asB (c e1) = some (p x, e2) ∧ (p x = true → ∃ e3, t e2 = some (.d (f x), e3) ∧ wipeS e3 vs = e) ∧ (p x = false → wipeS e2 vs = e)) →
    lcGo g c t vs xs e = some ((xs.filter p).map f, e)
  | [], _ => rfl
  | x :: xs, h => by
    obtain ⟨e1, e2, h1, h2, h3, h4⟩ := h x List.mem_cons_self
    have ih := lc_fm (g := g) (c := c) (t := t) (vs := vs) (e := e) (p := p) (f := f) fun y hy => h y (List.mem_cons_of_mem _ hy)
    simp only [lcGo, h1]
    cases hp : p x with
    | true =>
      rw [hp] at h2
      obtain ⟨e3, h5, h6⟩ := h3 hp
      rw [h2]
      simp only [h5, h6, ih, List.filter_cons, hp, if_true, List.map_cons]
    | false =>
      rw [hp] at h2
      rw [h2]
      simp only [h4 hp, ih, List.filter_cons, hp, Bool.false_eq_true, if_false]
theorem lc_m {g : DG} {t : DE} {vs : List Nat} {e : Slots} {f : D → D} {xs : List D} (h : ∀ x ∈ xs, ∃ e1 e3, g x e = some e1 ∧ t e1 = some (.d (f x), e3) ∧ wipeS e3 vs = e) : lcGo g dYes t vs xs e = some (xs.map f, e) := by
  have := lc_fm (g := g) (c := dYes) (t := t) (vs := vs) (e := e) (p := fun _ => true) (f := f) (xs := xs) fun x hx => by
    obtain ⟨e1, e3, h1, h2, h3⟩ := h x hx
    exact ⟨e1, e1, h1, rfl, fun _ => ⟨e3, h2, h3⟩, fun z => by cases z⟩
  rw [this, List.filter_eq_self.mpr fun _ _ => rfl]
theorem dLc_of {s : DI} {g : DG} {vs : List Nat} {c t : DE} {e e1 e2 e3 : Slots} {xs ys : List D} (h1 : s e = some (xs, e1)) (h2 : lcGo g c t vs xs (wipeS e1 vs) = some (ys, e2)) (h3 : ys.length ≤ 1000) (h4 : undo e1 e2 vs = some e3) : dLc s g vs c t e = some (.own ys, e3) := by
  have h5 : ys.length ≤ sizeLine := by
    have := sizeLine_eq
    omega
  unfold dLc
  rw [h1]
  dsimp only
  rw [h2]
  dsimp only
  rw [if_pos h5, h4]
theorem dLRg_of {os : List Opd} {e e1 : Slots} {xs : List D} {i j : Int} (h1 : evs os e = some (xs, e1)) (h2 : rgOf2 xs = some (i, j)) : dLRg os e = some (.own (rgD i (j - i).toNat), e1) := by
  unfold dLRg
  rw [h1]
  dsimp only
  rw [h2]
theorem dTRg_of {os : List Opd} {e e1 : Slots} {xs : List D} {i j : Int} (h1 : evs os e = some (xs, e1)) (h2 : rgOf2 xs = some (i, j)) : dTRg os e = some (.d (.tuple (rgD i (j - i).toNat)), e1) := by
  unfold dTRg
  rw [h1]
  dsimp only
  rw [h2]
theorem iRg_of {os : List Opd} {e e1 : Slots} {xs : List D} {i j : Int} (h1 : evs os e = some (xs, e1)) (h2 : rgOf xs = some (i, j)) : iRg os e = some (rgD i (j - i).toNat, e1) := by
  unfold iRg
  rw [h1]
  dsimp only
  rw [h2]
theorem evs_ex {d : DE} {os : List Opd} {e e1 e2 : Slots} {x : D} {xs : List D} (h1 : d e = some (.d x, e1)) (h2 : evs os e1 = some (xs, e2)) : evs (.ex d :: os) e = some (x :: xs, e2) := by
  simp only [evs, h1, h2]
theorem evs_bor {i : Nat} {os : List Opd} {e e2 : Slots} {t t2 : TV} {xs : List D} (h1 : e[i]? = some (some t)) (h2 : evs os e = some (xs, e2)) (h3 : e2[i]? = some (some t2)) : evs (.bor i :: os) e = some (t2.toD :: xs, e2) := by
  simp only [evs, h1, h2, h3]
theorem prim_of {g : List D → Option TV} {os : List Opd} {e e1 : Slots} {xs : List D} {r : TV} (h1 : evs os e = some (xs, e1)) (h2 : g xs = some r) : dPrim g os e = some (r, e1) := by
  simp only [dPrim, h1, h2]
theorem frz_of {d : DE} {e e1 : Slots} {r : TV} (h : d e = some (r, e1)) : frz d e = some (.d r.toD, e1) := by
  simp only [frz, h]
theorem for_inv {g : DG} {t : DS} (I : List D → Slots → Prop) : ∀ {xs : List D} {e : Slots}, I xs e → (∀ x xs e, I (x :: xs) e → ∃ e1 e2, g x e = some e1 ∧ t e1 = some (.nx, e2) ∧ I xs e2) → ∃ e', forGo g t xs e = some (.nx, e') ∧ I [] e'
  | [], e, h, _ => ⟨e, rfl, h⟩
  | x :: xs, e, h, k => by
    obtain ⟨e1, e2, h1, h2, h3⟩ := k x xs e h
    obtain ⟨e', h4, h5⟩ := for_inv I h3 k
    exact ⟨e', by simp only [forGo, h1, h2, h4], h5⟩

abbrev iD' (xs : List Int) : List D := xs.map PyData.int
abbrev Tu (xs : List Int) : D := .tuple (xs.map PyData.int)
abbrev Li (xs : List Int) : D := .list (xs.map PyData.int)
theorem intsD_map : ∀ xs : List Int, intsD (xs.map PyData.int) = some xs
  | [] => rfl
  | x :: xs => by simp only [List.map_cons, intsD, intsD_map xs]
theorem canLay_map : ∀ xs : List Int, PyData.canLayAll0 (xs.map PyData.int) = true
  | [] => rfl
  | x :: xs => by simp only [List.map_cons, PyData.canLayAll0, PyData.canLay0, canLay_map xs, Bool.and_self]
theorem depth_map : ∀ xs : List Int, PyData.depthAll (xs.map PyData.int) ≤ 1
  |
        [] => by simp [PyData.depthAll]
  | x :: xs => by
    have := depth_map xs
    simp
          only [List.map_cons, PyData.depthAll, PyData.depth]
    omega
theorem shaped_T (xs : List Int) : SeqAt.shaped (Tu xs) = true := by
  have h := depth_map xs
  refine Bool.and_eq_true_iff.mpr ⟨canLay_map xs, decide_eq_true ?_⟩
  show PyData.depthAll (xs.map PyData.int) + 1 ≤ 64
  omega
theorem shaped_L (xs : List Int) : SeqAt.shaped (Li xs) = true := by
  have h := depth_map xs
  refine Bool.and_eq_true_iff.mpr ⟨canLay_map xs, decide_eq_true ?_⟩
  show PyData.depthAll (xs.map PyData.int) + 1 ≤ 64
  omega
theorem shaped_i (i : Int) : SeqAt.shaped (.int i) = true := by
  simp only [SeqAt.shaped, PyData.canLay0, PyData.depth, Bool.true_and]
  rfl
theorem eqv_ints : ∀ xs ys : List Int, PyData.eqvAll (xs.map PyData.int) (ys.map PyData.int) = decide (xs = ys)
  |
        [], [] => by simp [PyData.eqvAll]
  | [], y :: ys => by simp [PyData.eqvAll]
  | x :: xs, [] => by simp [PyData.eqvAll]
  | x :: xs, y :: ys => by
    simp only [List.map_cons, PyData.eqvAll, eqv_ints xs ys, PyData.eqv]
    by_cases
          h1 : x = y <;> by_cases h2 : xs = ys <;> simp [h1, h2]
theorem eqv_T (xs ys : List Int) : PyData.eqv (Tu xs) (Tu ys) = decide (xs = ys) := by
  simp only [PyData.eqv, eqv_ints]
theorem eqv_L (xs ys : List Int) : PyData.eqv (Li xs) (Li ys) = decide (xs = ys) := by
  simp only [PyData.eqv, eqv_ints]
theorem ints_all {xs : List Int} : boolsD ((xs.map PyData.int).map fun _ => PyData.bool true) = some ((xs.map PyData.int).map fun _ => true) := by
  induction xs with
  | nil => rfl
  | cons x xs ih => simp only [List.map_cons, boolsD, ih]

def okS (x : D) : Prop := x.canLay0 = true ∧ x.showable = true ∧ x.hasDict = false ∧ x.depth ≤ 8 ∧ x.shown.length ≤ 1000
theorem showAll_map : ∀ xs : List Int, (∀ x ∈ xs, x.natAbs < 10 ^ 4) → PyData.showableAll (xs.map PyData.int) = true
  | [], _ => rfl
  | x :: xs, h => by
    have h1 : x.natAbs.log2 < 1920 := by
      have q := h x List.mem_cons_self
      by_cases z : x.natAbs = 0
      · rw [z]; decide
      · exact (Nat.log2_lt z).mpr (Nat.lt_of_lt_of_le q (Nat.le_trans (by decide : 10 ^ 4 ≤ 2 ^ 14) (Nat.pow_le_pow_right (by decide) (by decide))))
    simp only [List.map_cons, PyData.showableAll, PyData.showable, h1, decide_true, Bool.true_and]
    exact showAll_map xs fun y hy => h y (List.mem_cons_of_mem _ hy)
theorem hasDict_map : ∀ xs : List Int, PyData.hasDictAll (xs.map PyData.int) = false
  | [] => rfl
  | x :: xs => by simp only [List.map_cons, PyData.hasDictAll, PyData.hasDict, hasDict_map xs, Bool.or_self]
theorem shown_map : ∀ xs : List Int, (∀ x ∈ xs, x.natAbs < 10 ^ 4) → ((PyData.shownAll (xs.map PyData.int)).map (·.length)).sum ≤ 6 * xs.length ∧ (PyData.shownAll (xs.map PyData.int)).length = xs.length
  | [], _ => ⟨Nat.le_refl _, rfl⟩
  | x :: xs, h => by
    obtain ⟨h1, h2⟩ := shown_map xs fun y hy => h y (List.mem_cons_of_mem _ hy)
    have h3 : (PyData.shown (.int x)).length ≤ 6 := by
      have e := int_text_length_le10 (k := 4) (by decide) (h x List.mem_cons_self)
      show (Str.ofString (toString x)).length ≤ 6
      rw [ofString_length]
      omega
    refine ⟨?_, ?_⟩
    · simp only [List.map_cons, PyData.shownAll, List.sum_cons, List.length_cons]
      omega
    · simp only [List.map_cons, PyData.shownAll, List.length_cons, h2]
theorem okS_T {xs : List Int} (hl : xs.length ≤ 40) (h : ∀ x ∈ xs, x.natAbs < 10 ^ 4) : okS (Tu xs) := by
  obtain ⟨h1, h2⟩ := shown_map xs h
  have h3 := tupleText_len_le (PyData.shownAll (xs.map PyData.int))
  have h4 := depth_map xs
  refine ⟨canLay_map xs, showAll_map xs h, hasDict_map xs, ?_, ?_⟩
  · show PyData.depthAll (xs.map PyData.int) + 1 ≤ 8
    omega
  · show (tupleText (PyData.shownAll (xs.map PyData.int))).length ≤ 1000
    omega
theorem okS_L {xs : List Int} (hl : xs.length ≤ 40) (h : ∀ x ∈ xs, x.natAbs < 10 ^ 4) : okS (Li xs) := by
  obtain ⟨h1, h2⟩ := shown_map xs h
  have h3 := listText_len_le (PyData.shownAll (xs.map PyData.int))
  have h4 := depth_map xs
  refine ⟨canLay_map xs, showAll_map xs h, hasDict_map xs, ?_, ?_⟩
  · show PyData.depthAll (xs.map PyData.int) + 1 ≤ 8
    omega
  · show (listText (PyData.shownAll (xs.map PyData.int))).length ≤ 1000
    omega
theorem okS_all : ∀ xs : List D, (∀ x ∈ xs, okS x) → PyData.canLayAll0 xs = true ∧ PyData.showableAll xs = true ∧ PyData.hasDictAll xs = false ∧ PyData.depthAll xs ≤ 8 ∧ ((PyData.shownAll xs).map (·.length)).sum ≤ 1000 * xs.length ∧ (PyData.shownAll xs).length = xs.length
  | [], _ => ⟨rfl, rfl, rfl, Nat.zero_le _, Nat.le_refl _, rfl⟩
  | x :: xs, h => by
    obtain ⟨h1, h2, h3, h4, h5, h6⟩ := okS_all xs fun y hy => h y (List.mem_cons_of_mem _ hy)
    obtain ⟨g1, g2, g3, g4, g5⟩ := h x List.mem_cons_self
    refine ⟨?_, ?_, ?_, ?_, ?_, ?_⟩
    · simp only [PyData.canLayAll0, g1, h1, Bool.and_self]
    · simp only [PyData.showableAll, g2, h2, Bool.and_self]
    · simp only [PyData.hasDictAll, g3, h3, Bool.or_self]
    · simp only [PyData.depthAll]; omega
    · simp only [PyData.shownAll, List.map_cons, List.sum_cons, List.length_cons]; omega
    · simp only [PyData.shownAll, List.length_cons, h6]
theorem reprOk_list {xs : List D} (h : ∀ x ∈ xs, okS x) (hl : xs.length ≤ 1000) : reprOk (.list xs) = true := by
  obtain ⟨h1, h2, h3, h4, h5, h6⟩ := okS_all xs h
  have h7 := listText_len_le (PyData.shownAll xs)
  have h8 := sizeLine_eq
  have g1 : (PyData.list xs).depth ≤ 64 := by
    show PyData.depthAll xs + 1 ≤ 64
    omega
  have g2 : (PyData.list xs).shown.length ≤ sizeLine := by
    show (listText (PyData.shownAll xs)).length ≤ sizeLine
    omega
  have g3 : (PyData.list xs).canLay0 = true := h1
  have g4 : (PyData.list xs).showable = true := h2
  have g5 : (PyData.list xs).hasDict = false := h3
  unfold reprOk
  rw [g3, g4, g5, decide_eq_true g1, decide_eq_true g2]
  rfl
end L2
set_option Elab.async false
set_option autoImplicit false
set_option linter.all false
set_option maxRecDepth 100000
set_option maxHeartbeats 1000001
namespace L2
open PyProof.Rows PySem PySem.Spec
section
variable {X : Cx}
end
end L2
set_option Elab.async false
set_option autoImplicit false
set_option linter.all false
set_option maxRecDepth 100000
set_option maxHeartbeats 1000001
namespace L2
open PyProof.Rows PySem PySem.Spec
section
variable {X : Cx} {b : Bool} {a : Expr} {ta : TE} {d : DE} {p p2 q pos : Pos}
end
end L2
set_option Elab.async false
set_option autoImplicit false
set_option linter.all false
set_option maxRecDepth 100000
set_option maxHeartbeats 1000001
namespace L2
open PyProof.Rows PySem PySem.Spec
def dEmp : DE := fun e => some (.d dicD, e)
section
variable {X : Cx} {b : Bool} {pos : Pos}
end
end L2
set_option Elab.async false
set_option autoImplicit false
set_option linter.all false
set_option maxRecDepth 100000
set_option maxHeartbeats 1000001
namespace L2
open PyProof.Rows PySem PySem.Spec
section
variable {K : PySem.W.Frag} {b : Bool} {G F H : Hp} {io : Option Addr} {env : Slots} {σ : L2.St}
structure Bk (K : PySem.W.Frag) (G0 G F : Hp) (a : Addr) (bs : List Addr) (xss : List (List D)) : Prop where
  top : G a = some (.lst (bs.map V.ref))
  len : bs.length = xss.length
  nd : (a :: bs).Nodup
  at' : ∀ (k : Nat) (c : Addr) (xs : List D), bs[k]? = some c → xss[k]? = some xs → ∃ us, G c = some (.lst us) ∧ DqAll K F us xs
  new : ∀ c ∈ a :: bs, G0 c = none
  old : ∀ c, c ∉ a :: bs → G c = G0 c
theorem Bk.to {G0 F' : Hp} {a : Addr} {bs : List Addr} {xss : List (List D)} (B : Bk K G0 G F a bs xss) (sm : Same F F') : Bk K G0 G F' a bs xss :=
  ⟨B.top, B.len, B.nd, fun k c xs h1 h2 => by
    obtain ⟨us, g1, g2⟩ := B.at' k c xs h1 h2
    exact ⟨us, g1, DqAll.to g2 sm⟩, B.new, B.old⟩
theorem Bk.put {G0 : Hp} {a c : Addr} {bs : List Addr} {xss : List (List D)} {j : Nat} {us : List V} {v : V} {ys : List D} {y : D} (B : Bk K G0 G F a bs xss) (h1 : bs[j]? = some c) (h2 : xss[j]? = some ys) (h3 : G c = some (.lst us)) (h4 : DqAll K F us ys) (hv : Dq K F v y) : Bk K G0 (upd G c (.lst (us ++ [v]))) F a bs (xss.set j (ys ++ [y])) := by
  have hc : c ∈ bs := List.mem_of_getElem? h1
  have ca : c ≠ a := fun z => (List.nodup_cons.mp B.nd).1 (z ▸ hc)
  refine ⟨by rw [upd_ne ca.symm]; exact B.top, by rw [List.length_set]; exact B.len, B.nd, fun k d xs q1 q2 => ?_, B.new, fun d hd => ?_⟩
  · by_cases hk : j = k
    · subst hk
      rw [h1] at q1
      cases q1
      have hj : j < xss.length := (List.getElem?_eq_some_iff.mp h2).1
      rw [List.getElem?_set_self hj] at q2
      cases q2
      exact ⟨_, upd_same, DqAll.app h4 (.one hv)⟩
    · rw [List.getElem?_set_ne hk] at q2
      obtain ⟨ws, g1, g2⟩ := B.at' k d xs q1 q2
      have ne : d ≠ c := fun z => by
        subst z
        have l1 := (List.getElem?_eq_some_iff.mp h1).1
        have l2 := (List.getElem?_eq_some_iff.mp q1).1
        have e1 := (List.getElem?_eq_some_iff.mp h1).2
        have e2 := (List.getElem?_eq_some_iff.mp q1).2
        exact hk ((List.getElem_inj (List.nodup_cons.mp B.nd).2).mp (e1.trans e2.symm))
      exact ⟨ws, by rw [upd_ne ne]; exact g1, g2⟩
  · have ne : d ≠ c := fun z => hd (List.mem_cons_of_mem _ (z ▸ hc))
    rw [upd_ne ne]
    exact B.old d hd
end
section
variable {X : Cx} {b : Bool} {i v : Nat} {st : Stmt} {sts : List Stmt} {ss : List DS} {d0 di : DI} {g : DG} {d1 d2 : DE} {ws : List Nat} {W : Hp → V → D → Prop}
end
end L2
set_option Elab.async false
set_option autoImplicit false
set_option linter.all false
set_option maxRecDepth 100000
set_option maxHeartbeats 1000001
namespace L2
open PyProof.Rows PySem PySem.Spec
def evl (i : Nat) : List (Option DE) → Slots → Option (List D × Slots)
  | [], e => some ([], e)
  | none :: ds, e => match evl i ds e with
    | some (xs, e1) => match e1[i]? with
      | some (some (.own ys)) => some (.list ys :: xs, e1)
      | _ => none
    | none => none
  | some d :: ds, e => match d e with
    | some (.d x, e1) => match evl i ds e1 with
      | some (xs, e2) => some (x :: xs, e2)
      | none => none
    | _ => none
def plainB : D → Bool
  | .none => true
  | .bool _ => true
  | .int _ => true
  | .str _ => true
  | _ => false
def dCallL (f : FD) (i : Nat) (ds : List (Option DE)) (es : List DE) : DE := fun e => match e[i]? with
  | some (some (.own _)) => match evl i ds e with
    | some (xs, e1) => match e1[i]? with
      | some (some (.own _)) => match f none xs with
        | some (.d x, _) => if plainB x = true then some (.d x, e1) else none
        | _ => none
      | _ => none
    | none => none
  | _ => dCall f none es e
section
variable {K : PySem.W.Frag} {b : Bool} {G F H : Hp} {io : Option Addr} {env env' : Slots} {σ : L2.St} {i : Nat}
inductive DqL (K : PySem.W.Frag) (F : Hp) (w : V) (ys : List D) : List V → List D → Prop
  | nil : DqL K F w ys [] []
  | cons {v : V} {vs : List V} {d : D} {ds : List D} : Dq K F v d → DqL K F w ys vs ds → DqL K F w ys (v :: vs) (d :: ds)
  | lend {vs : List V} {ds : List D} : DqL K F w ys vs ds → DqL K F w ys (w :: vs) (.list ys :: ds)
theorem DqL.len {w : V} {ys : List D} : ∀ {vs : List V} {ds : List D}, DqL K F w ys vs ds → vs.length = ds.length
  | _, _, .nil => rfl
  | _, _, .cons _ r => by simp [DqL.len r]
  | _, _, .lend r => by simp [DqL.len r]
theorem DqL.all {a : Addr} {us : List V} {ys : List D} (fa : F a = none) (hd : DqAll K F us ys) : ∀ {vs : List V} {ds : List D}, DqL K F (.ref a) ys vs ds → DqAll K (upd F a (.lst us)) vs ds
  | _, _, .nil => .nil
  | _, _, .cons h r => .cons (h.to (same_upd fa)) (DqL.all fa hd r)
  | _, _, .lend r => .cons (.lst (.of upd_same) (DqAll.to hd (same_upd fa))) (DqL.all fa hd r)
theorem flat_any {F F' : Hp} {v : V} {x : D} (hf : plainB x = true) (h : Dq K F v x) : Dq K F' v x := by
  cases h with
  | non => exact .non
  | bl c => exact .bl c
  | int c => exact .int c
  | str c => exact .str c
  | _ => cases hf
end
section
variable {X : Cx} {b : Bool} {e : Expr} {es : List Expr} {i np : Nat} {f : FD} {ds : List (Option DE)} {ds' : List DE}
variable {x : Str} {p pos : Pos} {j : Nat} {ps : List Str} {kb : FuncData → Prop}
end
end L2
set_option Elab.async false
set_option autoImplicit false
set_option linter.all false
set_option maxRecDepth 100000
set_option maxHeartbeats 1000001
namespace L2
open PyProof.Rows PySem PySem.Spec
section
variable {X : Cx}
end
section
variable {X : Cx} {b : Bool} {e : Expr} {d : DE} {p p2 q pos : Pos}
end
end L2
set_option Elab.async false
set_option autoImplicit false
set_option linter.all false
set_option maxRecDepth 100000
set_option maxHeartbeats 1000001
namespace L2
open PyProof.Rows PySem PySem.Spec RZ
structure Wk where
  st : Heap → Addr → Addr → Nat → Prop
  of : Heap → Addr → Array Value → Prop
  stK : ∀ {h h' : Heap} {i l : Addr} {k : Nat}, st h i l k → (∀ o, h.get? i = some o → h'.get? i = some o) → st h' i l k
  ofK : ∀ {h h' : Heap} {l : Addr} {xs : Array Value}, of h l xs → (∀ o, h.get? l = some o → h'.get? l = some o) → of h' l xs
  stL : ∀ {h : Heap} {i l : Addr} {k : Nat}, st h i l k → i < h.objs.size ∧ ∃ o, h.get? i = some o ∧ ∀ v, o.data ≠ .cell v
  on : ∀ {prog : Program} {w : World} {A : Around} {E : Value → Shared → Prop} {s : Shared} {i l : Addr} {k : Nat} {xs : Array Value} {x : Value} {Q : Value → Shared → Prop}, st s.heap i l k → of s.heap l xs → xs[k]? = some x →
    (∀ h', st h' i l (k + 1) → Heap.SameBut i s.heap h' → Q x { s with heap := h' }) → wpAny (model prog w) A (Builtin.SmallTypes.nextOf (.ref i)) Q E s
  off : ∀ {prog : Program} {w : World} {A : Around} {E : Value → Shared → Prop} {s : Shared} {i l : Addr} {k : Nat} {xs : Array Value} {Q : Value → Shared → Prop}, A.handled = none → st s.heap i l k → of s.heap l xs → xs[k]? = none →
    (∀ h' e, Heap.ExtBut i s.heap h' → (∃ o, h'.get? e = some o ∧ o.cls = .type "StopIteration") → E (.ref e) { s with heap := h' }) → wpAny (model prog w) A (Builtin.SmallTypes.nextOf (.ref i)) Q E s
def wkT : Wk where
  st h i l k := h.IsTupleIter i l k
  of h l xs := h.IsTuple l xs
  stK a b := a.at b
  ofK a b := a.at b
  stL a := by
    obtain ⟨o, h1, _, h2⟩ := a
    exact ⟨Heap.lt_size h1, o, h1, fun v q => by rw [h2] at q; cases q⟩
  on a b c d := nextOf_tuple_item a b c d
  off a b c d e := nextOf_tuple_end a b c d e
def wkL : Wk where
  st h i l k := h.IsListIter i l k
  of h l xs := h.IsList l xs
  stK a b := a.at b
  ofK a b := a.at b
  stL a := by
    obtain ⟨o, h1, _, h2⟩ := a
    exact ⟨Heap.lt_size h1, o, h1, fun v q => by rw [h2] at q; cases q⟩
  on a b c d := wpAny_nextOf_list_item a b c d
  off a b c d e := wpAny_nextOf_list_end a b c d e
section
variable {prog : Program} {w : World} {A : Around} {E : Value → Shared → Prop} {s : Shared} {K1 K2 : Wk}
end
section
variable {X : Cx} {b : Bool} {e e2 tg : Expr} {d1 d2 : DE} {p pos tpos : Pos} {elts : List Expr} {kk : Nat}
end
end L2
set_option Elab.async false
set_option autoImplicit false
set_option linter.all false
set_option maxRecDepth 100000
set_option maxHeartbeats 1000001
namespace L2
open PyProof.Rows PySem PySem.Spec
section
variable {X : Cx} {b : Bool} {o e : Expr} {i : Nat} {d : DE} {apos cpos : Pos}
end
end L2
set_option Elab.async false
set_option autoImplicit false
set_option linter.all false
set_option maxRecDepth 100000
set_option maxHeartbeats 1000001
namespace L2
open PyProof.Rows PySem PySem.Spec
section
variable {X : Cx} {b : Bool} {o : Expr} {d : DE} {apos pos : Pos}
end
section
variable {X : Cx} {b : Bool} {pos : Pos}
end
end L2
set_option Elab.async false
set_option autoImplicit false
set_option linter.all false
set_option maxRecDepth 100000
set_option maxHeartbeats 1000001
namespace L2
open PyProof.Rows PySem PySem.Spec
section
variable {X : Cx} {b : Bool} {e : Expr} {d : DE} {p p2 q pos : Pos}
end
section
variable {X : Cx} {b : Bool} {e : Expr} {d : DE} {a : Str} {j : Option Str} {p0 apos pos : Pos}
end
end L2
set_option Elab.async false
set_option autoImplicit false
set_option linter.all false
set_option maxRecDepth 100000
set_option maxHeartbeats 1000001
namespace L2
open PyProof.Rows PySem PySem.Spec
section
variable {X : Cx} {b : Bool}
end
end L2
set_option Elab.async false
set_option autoImplicit false
set_option linter.all false
set_option maxRecDepth 100000
set_option maxHeartbeats 2000001
namespace L2
open PyProof.Rows PySem PySem.Spec
abbrev RS := Slots → Option ((Str × List D) × Slots)
abbrev RD := List D → Option (Str × List D)
section
variable (K : PySem.W.Frag) (b : Bool) (mg : Str → Option Value)
end
section
variable {P : Program} {w : World} {K : PySem.W.Frag} {mg : Str → Option Value} {base : Heap} {k : Nat} {f : Addr} {name qual : Str} {params : Arguments} {body : List Stmt} {scope : Scope}
  {dV kV doc pm cdv ct oc : Value} {an od : Option Addr} {osl : Array (Option Value)} {N ps : List Str} {sp : Sp}
end
section
variable {X : Cx} {k : Nat} {f : Addr} {fd : FuncData} {ps ks : List Str} {sp : Sp} {x : Str} {p pos : Pos} {e : Expr} {es : List Expr} {kws : List Keyword} {t tk : TA} {W : WX}
end
section
variable {X : Cx} {b : Bool} {e : Expr} {r : RD} {np : Nat} {pm : List Nat} {ds d1 d2 : List DE} {W : WX}
end
section
variable {X : Cx} {b : Bool} {e c : Expr} {st : Stmt} {sts u : List Stmt} {d : DE} {s : DS} {rd ra rb : RS} {pos p : Pos} {x : Str} {W : WX} {i : Nat}
theorem PS.nox {t : TS} (h : PS X.nox st t) : PS X st t := ⟨fun pins s σ H D I hw =>
  wpAny_mono
        (h.run pins s σ H D (I.wish _) hw) (fun _ _ q => q.unwish) fun _ _ z => False.elim z⟩
end
section
variable {K : PySem.W.Frag} {mg : Str → Option Value}
end
section
variable {X : Cx} {b : Bool} {e a : Expr} {es : List Expr} {j : Nat} {x : Str} {ps ks : List Str} {kb : FuncData → Prop} {r : RD} {np : Nat} {ds d2 : List DE} {p pos : Pos} {kws : List Keyword} {W : WX}
end
section
variable {X : Cx} {b : Bool} {s : DS} {rd : RS} {pos : Pos}
end
end L2
set_option Elab.async false
set_option autoImplicit false
set_option linter.all false
set_option maxRecDepth 100000
set_option maxHeartbeats 1000001
namespace L2
open PyProof.Rows PySem PySem.Spec
section
variable {h : Heap} {P : Program} {w : World} {H : Hp}
end
section
variable {X : Cx}
variable {b : Bool} {pos : Pos}
end
end L2
set_option Elab.async false
set_option autoImplicit false
set_option linter.all false
set_option maxRecDepth 100000
set_option maxHeartbeats 2000001
namespace L2
open PyProof.Rows PySem PySem.Spec
section
variable {X : Cx} {b : Bool} {e : Expr} {d : DE} {pos p p2 : Pos} {x : Str} {W : WX} {k : Nat}
end
section
variable
      {P : Program} {w : World} {K : PySem.W.Frag} {mg : Str → Option Value} {base : Heap}
end
def Held (K : PySem.W.Frag) (i : Nat) (a C : Addr) (cls : Value) (d : Option Addr) (v : D) (σ : L2.St) (F : Hp) : Prop := σ[i]? = some (some (.ref a)) ∧ cls = .ref C ∧ ∃ dd u, d = some dd ∧ F dd = some (.xd [(("value" : Str), u)]) ∧ Dq K F u v
section
variable (K : PySem.W.Frag) (b : Bool) (i : Nat) (a C : Addr) (cls : Value) (d : Option Addr)
end
theorem Held.to {K : PySem.W.Frag} {i : Nat} {a C : Addr} {cls : Value} {d : Option Addr} {v : D} {σ : L2.St} {F F' : Hp} (h : Held K i a C cls d v σ F) (sm : Same F F') : Held K i a C cls d v σ F' := by
  obtain ⟨h1, h2, dd, u, h3, h4, h5⟩ := h
  exact ⟨h1, h2, dd, u, h3, sm _ _ h4, h5.to sm⟩
section
variable {X : Cx} {b : Bool} {i : Nat} {a C : Addr} {cls : Value} {d : Option Addr} {oe : Obj} {pn : List (Addr × Obj)} {e c : Expr} {es : List Expr} {d0 : DE} {ev ew : D → DE} {evs : List (D → DE)} {pos p : Pos} {g : List D → Option TV}
end
section
variable {X : Cx} {b : Bool} {s : DS} {rd : RS} {pos : Pos}
end
section
variable {P : Program} {w : World} {K : PySem.W.Frag} {mg : Str → Option Value} {base : Heap} {x qual : Str} {st : Stmt}
end
end L2
set_option Elab.async false
set_option autoImplicit false
set_option linter.all false
set_option maxRecDepth 100000
set_option maxHeartbeats 2000001
namespace L2
open PyProof.Rows PySem PySem.Spec
section
variable {X : Cx} {b : Bool} {i : Nat} {o e : Expr} {d : DE} {apos cpos : Pos}
end
end L2
set_option Elab.async false
set_option autoImplicit false
set_option linter.all false
set_option maxRecDepth 100000
set_option maxHeartbeats 2000001
namespace L2
open PyProof.Rows PySem PySem.Spec
def mrg1 : Option TV → Option TV → Option (Option TV)
  | some (.own _), some (.own zs) => if zs.all plainB = true then some (some (.own zs)) else none
  | some (.own _), _ => none
  | some (.dc _), _ => none
  | o, _ => some o
def mrg : Slots → Slots → Option Slots
  | [], [] => some []
  | a :: as, c :: cs => match mrg1 a c, mrg as cs with
    | some o, some os => some (o :: os)
    | _, _ => none
  | _, _ => none
theorem mrg_len : ∀ {e e1 e2 : Slots}, mrg e e1 = some e2 → e2.length = e.length
  | [], [], e2, h => by
    cases h
    rfl
  | [], _ :: _, e2, h => by cases h
  | _ :: _, [], e2, h => by cases h
  | a :: as, c :: cs, e2, h => by
    simp only [mrg] at h
    split at h
    · rename_i o os h1 h2
      cases h
      rw [List.length_cons, List.length_cons, mrg_len h2]
    · cases h
theorem mrg1_or {o o1 : Option TV} {t : TV} (h : mrg1 o o1 = some (some t)) : (∃ x, t = .d x ∧ o = some t) ∨ ∃ zs xs, t = .own zs ∧ zs.all plainB = true ∧ o1 = some t ∧ o = some (.own xs) := by
  unfold mrg1 at h
  split at h
  · rename_i xs zs
    split at h
    · rename_i hz
      cases h
      exact .inr ⟨zs, xs, rfl, hz, rfl, rfl⟩
    · cases h
  · cases h
  · cases h
  · rename_i ne ne2 _
    cases h
    cases t with
    | d x => exact .inl ⟨x, rfl, rfl⟩
    | own zs => exact absurd rfl (ne zs)
    | dc ps => exact absurd rfl (ne2 ps)
theorem mrg_get : ∀ {e e1 e2 : Slots} {j : Nat} {t : TV}, mrg e e1 = some e2 → e2[j]? = some (some t) → (∃ x, t = .d x ∧ e[j]? = some (some t)) ∨ ∃ zs xs, t = .own zs ∧ zs.all plainB = true ∧ e1[j]? = some (some t) ∧ e[j]? = some (some (.own xs))
  | [], [], e2, j, t, h, q => by
    cases h
    simp at q
  | [], _ :: _, e2, j, t, h, q => by cases h
  | _ :: _, [], e2, j, t, h, q => by cases h
  | a :: as, c :: cs, e2, j, t, h, q => by
    simp only [mrg] at h
    split at h
    · rename_i o os h1 h2
      cases h
      cases j with
      | zero =>
        simp only [List.getElem?_cons_zero, Option.some.injEq] at q
        subst q
        rcases mrg1_or h1 with ⟨x, rfl, rfl⟩ | ⟨zs, xs, rfl, hz, rfl, rfl⟩
        · exact .inl ⟨x, rfl, rfl⟩
        · exact .inr ⟨zs, xs, rfl, hz, rfl, rfl⟩
      | succ j =>
        simp only [List.getElem?_cons_succ] at q ⊢
        exact mrg_get h2 q
    · cases h
theorem mrg_own : ∀ {e e1 e2 : Slots} {j : Nat} {xs zs : List D}, mrg e e1 = some e2 → e[j]? = some (some (.own xs)) → e1[j]? = some (some (.own zs)) → e2[j]? = some (some (.own zs))
  | [], [], e2, j, xs, zs, h, q, q1 => by simp at q
  | [], _ :: _, e2, j, xs, zs, h, q, q1 => by cases h
  | _ :: _, [], e2, j, xs, zs, h, q, q1 => by cases h
  | a :: as, c :: cs, e2, j, xs, zs, h, q, q1 => by
    simp only [mrg] at h
    split at h
    · rename_i o os h1 h2
      cases h
      cases j with
      | zero =>
        simp only [List.getElem?_cons_zero, Option.some.injEq] at q q1 ⊢
        subst q
        subst q1
        unfold mrg1 at h1
        dsimp only at h1
        split at h1
        · cases h1
          rfl
        · cases h1
      | succ j =>
        simp only [List.getElem?_cons_succ] at q q1 ⊢
        exact mrg_own h2 q q1
    · cases h
theorem flat_all {K : PySem.W.Frag} {F F' : Hp} : ∀ {vs : List V} {zs : List D}, zs.all plainB = true → DqAll K F vs zs → DqAll K F' vs zs
  | [], [], _, .nil => .nil
  | v :: vs, z :: zs, h, .cons a r => by
    rw
          [List.all_cons, Bool.and_eq_true] at h
    exact .cons (flat_any h.1 a) (flat_all h.2 r)
section
variable {K : PySem.W.Frag} {G F H : Hp} {io : Option Addr} {env : Slots} {σ : L2.St}
end
section
variable {X : Cx} {b : Bool} {e elt iter tg : Expr} {d c t : DE} {g : DG} {ws : List Nat} {own : List (Str × Nat)} {s : DI} {W : Hp → V → D → Prop} {i : Nat} {scope : Scope} {pos : Pos}
end
end L2
set_option Elab.async false
set_option autoImplicit false
set_option linter.all false
set_option maxRecDepth 100000
set_option maxHeartbeats 2000001
namespace PySem.SeqAt
open
      AutoSeq1 (wpAny_loadPart')
open MeetsSeq
end PySem.SeqAt
namespace L2
open PyProof.Rows PySem PySem.Spec
section
variable {X : Cx}
end
end L2
set_option Elab.async false
set_option autoImplicit false
set_option linter.all false
set_option maxRecDepth 100000
set_option maxHeartbeats 3200000
namespace L2
open PyProof.Rows PySem PySem.Spec
section
variable
      {P : Program} {w : World} {A : Around} {E : Value → Shared → Prop} {s : Shared}
end
end L2
set_option Elab.async false
set_option autoImplicit false
set_option linter.all false
set_option maxRecDepth 100000
set_option maxHeartbeats 3200000
namespace L2
open PyProof.Rows PySem PySem.Spec
section
variable {X : Cx} {b : Bool} {e : Expr} {o : Opd} {p p2 pos pos2 : Pos}
end
end L2
set_option Elab.async false
set_option autoImplicit false
set_option linter.all false
set_option maxRecDepth 100000
set_option maxHeartbeats 3200000
namespace L2
open PyProof.Rows PySem PySem.Spec
section
variable
      {P : Program} {w : World} {A : Around} {E : Value → Shared → Prop} {s : Shared}
end
end L2
set_option Elab.async false
set_option autoImplicit false
set_option linter.all false
set_option maxRecDepth 100000
set_option maxHeartbeats 3200000
namespace L2
open PyProof.Rows PySem PySem.Spec
section
variable {X : Cx} {b : Bool} {e : Expr} {o : Opd} {p p2 pos pos2 : Pos}
end
end L2
set_option Elab.async false
set_option autoImplicit false
set_option linter.all false
set_option maxRecDepth 100000
set_option maxHeartbeats 2000001
namespace L2
open PyProof.Rows PySem PySem.Spec

def kyD : D → Option (Sum Int (List Int))
  | .int i => some (.inl i)
  | .tuple ds => (intsD ds).map .inr
  | _ => none
section
variable {X : Cx} {pins : List (Addr × Obj)} {σ : L2.St} {H : Hp} {s : Shared} {F : Hp}
end

section
variable {K : PySem.W.Frag} {F : Hp} {k : List Int} {b : Addr} {v : V} {y : D} {u : Value}
end
def DcT (K : PySem.W.Frag) (H : Hp) (a : Addr) (es : List DEnt) : Prop := ((∃ ob, H a = some (DcO a es ob)) ∧ DqAll K H (es.map fun e => V.ref e.2.1) (es.map fun e => keyT e.1)) ∨ (H a = some (.dK []) ∧ es = [])
section
variable {X : Cx} {pins : List (Addr × Obj)} {σ : L2.St} {H : Hp} {s : Shared} {F : Hp}
end
def okT (ps : List (D × D)) : Bool := ps.all fun p => match kyD p.1 with
  | some (.inr _) => true
  | _ => false
section
variable {X : Cx} {b : Bool} {i : Nat} {d : DE} {pos : Pos}
theorem DcU.tup {K : PySem.W.Frag} {F H : Hp} {a : Addr} {u : HO} {ps : List (D × D)} (h : DcU K F a u ps) (e : Same F H) (hu : H a = some u) (ok : okT ps = true) : ∃ es ds, DcT K H a es ∧ DqAll K F (es.map fun e => V.ref e.2.1) (es.map fun e => keyT e.1) ∧ DqAll K F (es.map fun e => e.2.2) ds ∧ ps = dps es ds ∧ es.length = ps.length := by
  cases h with
  | @t es ob ds h1 h2 => exact ⟨es, ds, .inl ⟨⟨ob, hu⟩, DqAll.to h1 e⟩, h1, h2, rfl, by have := DqAll.len h2; simp only [List.length_map] at this; simp [dps, this]⟩
  | @i kvs ds h =>
    cases kvs with
    | nil =>
      cases h
      exact ⟨[], [], .inr ⟨hu, rfl⟩, .nil, .nil, rfl, rfl⟩
    | cons x xs =>
      cases h with
      | cons q r => simp [okT, ips, kyD] at ok
end

section
variable {X : Cx}
end
end L2
set_option Elab.async false
set_option autoImplicit false
set_option linter.all false
set_option maxRecDepth 100000
set_option maxHeartbeats 2000001
namespace L2
open PyProof.Rows PySem PySem.Spec

section
variable {K : PySem.W.Frag} {G F H : Hp} {io : Option Addr} {env : Slots} {σ : L2.St}
theorem Sim.poke {p : Addr} {r : TV} (S : Sim K G io env σ F H) (ap : Apart env σ (.ref p) r) (m : r.mut = true) (h2 : F p = none) (h3 : G p = none) (u : HO) : Sim K G io env σ F (upd H p u) where
  len := S.len
  fh := fun b w q => by
    rw [upd_ne (ne_of_none q h2)]
    exact S.fh b w q
  gh := fun b w q => by
    rw [upd_ne (ne_of_none q h3)]
    exact S.gh b w q
  fg := S.fg
  sl := fun i t e => by
    obtain ⟨v, e1, hv⟩ := S.sl i t e
    refine ⟨v, e1, ?_⟩
    rcases hv.split with ⟨y, rfl, hv⟩ | ⟨mt, a, w, rfl, g1, g2, g3, g4⟩
    · exact hv
    · have ne : a ≠ p := fun z => ap m i t e mt (by rw [e1, z])
      exact .mutE (by rw [upd_ne ne]; exact g1) g2 g3 g4
  sep := S.sep
  at0 := S.at0
  io0 := S.io0
end
section
variable {X : Cx} {b : Bool} {pos : Pos}
end

section
variable {X : Cx} {A : Around} {E : Value → Shared → Prop} {prog : Program} {w : World} {s : Shared}
end

section
variable {X : Cx} {b : Bool} {pos pos' : Pos} {d : DE} {x : Str} {ps : List (D × D)} {ix : Expr}
end
end L2
set_option Elab.async false
set_option autoImplicit false
set_option linter.all false
set_option maxRecDepth 100000
set_option maxHeartbeats 2000001
namespace L2
open PyProof.Rows PySem PySem.Spec
section
variable {X : Cx}
end
end L2
set_option Elab.async false
set_option autoImplicit false
set_option linter.all false
set_option maxRecDepth 100000
set_option maxHeartbeats 1000001
namespace L2
open PyProof.Rows PySem PySem.Spec RZ
section
variable {X : Cx} {b : Bool} {e e2 tg : Expr} {d1 d2 : DE} {p pos tpos : Pos} {elts : List Expr} {kk : Nat}
end
end L2
set_option Elab.async false
set_option autoImplicit false
set_option linter.all false
set_option maxRecDepth 100000
set_option maxHeartbeats 2000001
namespace L2
open PyProof.Rows PySem PySem.Spec RZ ItX
section
variable {K : PySem.W.Frag} {G F H : Hp} {io : Option Addr} {env env' : Slots} {σ : L2.St} {b : Bool}
end
def zwO (K : Wk) (i l : Addr) : HO := .ext fun h => K.st h i l 0
def zpO (a : Addr) (x y : Value) : HO := .ext fun h => IsPair h a x y
def zoO (a : Addr) : HO := .ext fun h => ∃ x y, IsPair h a x y
def ztO (z TI TO : Addr) : HO := .ext fun h => IsZip h z TI TO .none
def ztH (K1 K2 : Wk) (z TI TO i1 i2 a b : Addr) (H : Hp) : Hp := upd (upd (upd (upd (upd H i1 (zwO K1 i1 a)) i2 (zwO K2 i2 b)) TI (zpO TI (.ref i1) (.ref i2))) TO (zoO TO)) z (ztO z TI TO)
structure ZNew (n : Nat) (H : Hp) (z TI TO i1 i2 : Addr) : Prop where
  hz : H z = none
  hI : H TI = none
  hO : H TO = none
  h1 : H i1 = none
  h2 : H i2 = none
  nz : n ≤ z
  nI : n ≤ TI
  nO : n ≤ TO
  n1 : n ≤ i1
  n2 : n ≤ i2
def ZKd (K : PySem.W.Frag) (H : Hp) (a b : Addr) (xs ys : List V) (K1 K2 : Wk) (J : It) : Prop := (K1 = wkL ∧ K2 = wkL ∧ J = Itz K a b ∧ SqL K H a xs ∧ SqL K H b ys) ∨ (K1 = wkT ∧ K2 = wkT ∧ J = ItzT K a b ∧ SqT K H a xs ∧ SqT K H b ys)
def tZipV (K : PySem.W.Frag) (n : Nat) (ta : TA) : TE := fun σ H Q => ta σ H fun vs H1 => ∃ a b xs ys K1 K2 J, vs = [.ref a, .ref b] ∧ ZKd K H1 a b xs ys K1 K2 J ∧
  ∀ z TI TO i1 i2, ZipApart z TI TO i1 i2 a b → ZNew n H1 z TI TO i1 i2 → Q (.ref z) (ztH K1 K2 z TI TO i1 i2 a b H1)
section
variable {X : Cx} {pins : List (Addr × Obj)} {σ : L2.St} {H : Hp} {s : Shared} {e e2 : Expr} {ta : TA} {p pos : Pos}
theorem ext_ok {P : Program} {w : World} {H' : Hp} {h : Heap} {a : Addr} {φ : Heap → Prop} (x : φ h) (t : ∃ o, h.get? a = some o) (st : ∀ h1 h2 : Heap, φ h1 → (∀ o, h1.get? a = some o → h2.get? a = some o) → φ h2) : ObjOk P w H' h a (.ext φ) := ⟨x, t, st⟩
theorem inv_zt {K1 K2 : Wk} {z TI TO i1 i2 a b : Addr} {h' : Heap} {x y : Value} {n : Nat} (I : Inv X pins σ H { s with heap := h' }) (D : ZipApart z TI TO i1 i2 a b) (N : ZNew n H z TI TO i1 i2) (fp : ∀ c ∈ [z, TI, TO, i1, i2], ∀ H' : Hp, H' c = none → FpOk X pins H' c)
    (g1 : IsZip h' z TI TO .none) (g2 : IsPair h' TI (.ref i1) (.ref i2)) (g3 : IsPair h' TO x y) (g4 : K1.st h' i1 a 0) (g5 : K2.st h' i2 b 0) : Inv X pins σ (ztH K1 K2 z TI TO i1 i2 a b H) { s with heap := h' } := by
  have k : ∀ (it : Addr) (b : Addr) (ob : Obj), b ≠ it → h'.get? b = some ob → h'.get? b = some ob := fun _ _ _ _ q => q
  have J1 : Inv X pins σ (upd H i1 (zwO K1 i1 a)) { s with heap := h' } := Inv.take (s := { s with heap := h' }) (h' := h') (t' := s.toks) I (k i1) (fp i1 (by simp) H N.h1) (ext_ok g4 (let ⟨_, o, e, _⟩ := K1.stL g4; ⟨o, e⟩) fun _ _ x q => K1.stK x q)
  have J2 : Inv X pins σ (upd (upd H i1 (zwO K1 i1 a)) i2 (zwO K2 i2 b)) { s with heap := h' } := Inv.take (s := { s with heap := h' }) (h' := h') (t' := s.toks) J1 (k i2) (fp i2 (by simp) _ (by rw [upd_ne (Ne.symm D.i12)]; exact N.h2)) (ext_ok g5 (let ⟨_, o, e, _⟩ := K2.stL g5; ⟨o, e⟩) fun _ _ x q => K2.stK x q)
  have J3 : Inv X pins σ (upd (upd (upd H i1 (zwO K1 i1 a)) i2 (zwO K2 i2 b)) TI (zpO TI (.ref i1) (.ref i2))) { s with heap := h' } := Inv.take (s := { s with heap := h' }) (h' := h') (t' := s.toks) J2 (k TI) (fp TI (by simp) _ (by rw [upd_ne D.TIi2, upd_ne D.TIi1]; exact N.hI)) (ext_ok g2 ⟨_, g2⟩ fun _ _ x q => q _ x)
  have J4 : Inv X pins σ (upd (upd (upd (upd H i1 (zwO K1 i1 a)) i2 (zwO K2 i2 b)) TI (zpO TI (.ref i1) (.ref i2))) TO (zoO TO)) { s with heap := h' } := Inv.take (s := { s with heap := h' }) (h' := h') (t' := s.toks) J3 (k TO) (fp TO (by simp) _ (by rw [upd_ne (Ne.symm D.TITO), upd_ne D.TOi2, upd_ne D.TOi1]; exact N.hO)) (ext_ok ⟨x, y, g3⟩ ⟨_, g3⟩ fun _ _ ⟨x, y, r⟩ q => ⟨x, y, q _ r⟩)
  exact Inv.take (s := { s with heap := h' }) (h' := h') (t' := s.toks) J4 (k z) (fp z (by simp) _ (by rw [upd_ne (Ne.symm D.TOz), upd_ne (Ne.symm D.TIz), upd_ne (Ne.symm D.i2z), upd_ne (Ne.symm D.i1z)]; exact N.hz)) (ext_ok g1 ⟨_, g1⟩ fun _ _ x q => q _ x)
theorem pe_zipV (hg : Gl X "zip") (hm : X.mg "zip" = none) (ha : PA X [e, e2] ta) (hs : starEach [e, e2] X.env = (false, eval e X.env) :: starEach [e2] X.env) (hpl : (backTo pos (starEach [e2] X.env)).any (·.1) = false) :
    PE X (.Call (.Name "zip" p) [e, e2] [] pos) (tZipV X.K X.s_0.heap.objs.size ta) := by
  refine
        ⟨fun pins s σ H Q I h => ?_⟩
  refine
        Call_ (ld_blt I hg hm PyProof.Rows.boot_zip (PyProof.Rows.callWith_type1 (thn (ha.run pos pins s σ H _ I h) fun us s1 ⟨vs, H1, I1, r1, q1⟩ => ?_) hs hpl))
  obtain ⟨a, b, xs, ys, K1, K2, J, rfl, kd, q⟩ := q1
  obtain ⟨rfl⟩ : us = [.ref a, .ref b] := by
    cases r1 with
    | cons r rr =>
      cases rr with
      | cons r2 rr =>
        cases rr
        cases r
        cases r2
        rfl
  have le : ∀ c, c ∈ [s1.heap.objs.size + 4, s1.heap.objs.size + 2, s1.heap.objs.size + 3, s1.heap.objs.size, s1.heap.objs.size + 1] → s1.heap.objs.size ≤ c := fun c hc => by
    simp only [List.mem_cons, List.not_mem_nil, or_false] at hc
    omega
  have N : ZNew X.s_0.heap.objs.size H1 (s1.heap.objs.size + 4) (s1.heap.objs.size + 2) (s1.heap.objs.size + 3) s1.heap.objs.size (s1.heap.objs.size + 1) := by
    have z := I1.sz
    exact ⟨I1.hok.fresh (le _ (by simp)), I1.hok.fresh (le _ (by simp)), I1.hok.fresh (le _ (by simp)), I1.hok.fresh (le _ (by simp)), I1.hok.fresh (le _ (by simp)), by omega, by omega, by omega, z, by omega⟩
  rcases kd with ⟨rfl, rfl, rfl, s2, s3⟩ | ⟨rfl, rfl, rfl, s2, s3⟩
  · obtain ⟨_, _, p1, _⟩ := I1.list s2
    obtain ⟨_, _, p2, _⟩ := I1.list s3
    have D := PySem.W.ktu_apart s1.heap.objs.size a b p1.lt p2.lt
    exact call_zip_2 p1.isList p2.isList fun h' g1 g2 g3 g4 g5 sz hk => ⟨.ref _, _, inv_zt (K1 := wkL) (K2 := wkL) (I1.kept (t' := s1.toks) hk) D N (fun c hc H' hn => I1.fpOk (le c hc) hn) g1 g2 g3 g4 g5, rfl, q _ _ _ _ _ D N⟩
  · obtain ⟨w1, _, p1, _⟩ := I1.tuple s2
    obtain ⟨w2, _, p2, _⟩ := I1.tuple s3
    obtain ⟨_, l1, _⟩ := id p1
    obtain ⟨_, l2, _⟩ := id p2
    have D := PySem.W.ktu_apart s1.heap.objs.size a b (Heap.lt_size l1) (Heap.lt_size l2)
    exact call_zipT (show s1.heap.IsTuple a w1.toArray from p1) (show s1.heap.IsTuple b w2.toArray from p2) fun h' g1 g2 g3 g4 g5 sz hk => ⟨.ref _, _, inv_zt (K1 := wkT) (K2 := wkT) (I1.kept (t' := s1.toks) hk) D N (fun c hc H' hn => I1.fpOk (le c hc) hn) g1 g2 g3 g4 g5, rfl, q _ _ _ _ _ D N⟩
end
section
variable {X : Cx} {k : Nat} {x : Str} {p tpos : Pos} {elts : List Expr} {kk : Nat}
end
section
variable {X : Cx} {b : Bool} {i : Nat} {d1 d2 : DE} {g : DG} {ws : List Nat} {c t : DE} {y : Str} {e1x e2x elt : Expr} {elts : List Expr} {ifs : List Expr} {kk : Nat} {scope : Scope} {own : List (Str × Nat)} {py zp zcp sp tpos np cp ap alp rp : Pos} {sts : List Stmt} {ss : List DS}
end
end L2
set_option Elab.async false
set_option autoImplicit false
set_option linter.all false
set_option maxRecDepth 100000
set_option maxHeartbeats 2000001
namespace L2
open PyProof.Rows PySem PySem.Spec
section
variable {X : Cx} {K : PySem.W.Frag} {G F H : Hp} {io : Option Addr} {env env' : Slots} {σ : L2.St} {b : Bool}
end
section
variable {X : Cx}
end
end L2
set_option Elab.async false
set_option autoImplicit false
set_option linter.all false
set_option maxRecDepth 100000
set_option maxHeartbeats 2000001
namespace L2
open PyProof.Rows PySem PySem.Spec RZ
def ZLs (z TI TO i1 i2 l1 l2 S : Addr) (xs ys : Array Value) (i : Nat) (h : Heap) : Prop := IsPair h TI (.ref i1) (.ref i2) ∧ h.IsListIter i1 l1 i ∧ h.IsListIter i2 l2 i ∧ h.IsList l1 xs ∧ h.IsList l2 ys ∧
  ((IsZip h z TI TO .none ∧ ∃ a b, IsPair h TO a b) ∨ ∃ T f oT, IsZipHeld h z TI TO T f ∧ h.get? T = some oT ∧ T ≠ z ∧ T ≠ i1 ∧ T ≠ i2 ∧ T ≠ S)
structure ZMade (xs ys : Array Value) (lo : Addr) (h : Heap) (as : List Addr) : Prop where
  rise : as.Pairwise (· < ·)
  above : ∀ a ∈ as, lo ≤ a
  pairs : ∀ (j : Nat) (a : Addr), as[j]? = some a → ∃ x y, xs[j]? = some x ∧ ys[j]? = some y ∧ IsPair h a x y
theorem ZMade.there {xs ys : Array Value} {lo : Addr} {h : Heap} {as : List Addr} (g : ZMade xs ys lo h as) {a : Addr} (ha : a ∈ as) : a < h.objs.size := by
  obtain
        ⟨j, hj⟩ := List.mem_iff_getElem?.mp ha
  obtain ⟨_, _, _, _, e⟩ := g.pairs j a hj
  exact Heap.lt_size e
theorem ZLs.keep {z TI TO i1 i2 l1 l2 S : Addr} {xs ys : Array Value} {i : Nat} {h h' : Heap} (st : ZLs z TI TO i1 i2 l1 l2 S xs ys i h) (k : ∀ b o, b ≠ S → h.get? b = some o → h'.get? b = some o) (n : ∀ c ∈ [z, TI, TO, i1, i2, l1, l2], c ≠ S) : ZLs z TI TO i1 i2 l1 l2 S xs ys i h' := by
  obtain
        ⟨hTI, h1, h2, hl1, hl2, hz⟩ := st
  have N : ∀ {c}, c ∈ [z, TI, TO, i1, i2, l1, l2] → c ≠ S := fun hc => n _ hc
  refine ⟨k _ _ (N (by simp)) hTI, h1.at fun o e => k _ o (N (by simp)) e, h2.at fun o e => k _ o (N (by simp)) e, hl1.at fun o e => k _ o (N (by simp)) e, hl2.at fun o e => k _ o (N (by simp)) e, ?_⟩
  rcases
        hz with ⟨hz, a, b, hTO⟩ | ⟨T, f, oT, hz, hT, r1, r2, r3, r4⟩
  · exact .inl ⟨k _ _ (N (by simp)) hz, a, b, k _ _ (N (by simp)) hTO⟩
  · exact .inr ⟨T, f, oT, k _ _ (N (by simp)) hz, k _ _ r4 hT, r1, r2, r3, r4⟩
section
variable {prog : Program} {w : World} {A : Around} {E : Value → Shared → Prop} {s : Shared} {z TI TO i1 i2 l1 l2 S : Addr} {xs ys : Array Value}
end
section
variable {prog : Program} {w : World} {A : Around} {s : Shared} {R : Result → Shared → Prop} {z TI TO i1 i2 l1 l2 S : Addr} {xs ys : Array Value}
end
section
variable
      {prog : Program} {w : World} {A : Around} {E : Value → Shared → Prop} {s : Shared}
end
end L2
set_option Elab.async false
set_option autoImplicit false
set_option linter.all false
set_option maxRecDepth 100000
set_option maxHeartbeats 2000001
namespace L2
open PyProof.Rows PySem PySem.Spec RZ ItX
section
variable {X : Cx} {pins : List (Addr × Obj)} {σ : L2.St} {s : Shared}
theorem zt_open {K1 K2 : Wk} {z TI TO i1 i2 a b : Addr} {H0 : Hp} (I : Inv X pins σ (ztH K1 K2 z TI TO i1 i2 a b H0) s) (D : ZipApart z TI TO i1 i2 a b) (N : ZNew X.s_0.heap.objs.size H0 z TI TO i1 i2) :
    Inv X pins σ H0 s ∧ IsZip s.heap z TI TO .none ∧ IsPair s.heap TI (.ref i1) (.ref i2) ∧ (∃ x y, IsPair s.heap TO x y) ∧ K1.st s.heap i1 a 0 ∧ K2.st s.heap i2 b 0 ∧ ∀ c ∈ [z, TI, TO, i1, i2], FpOk X pins H0 c := by
  -- what stands
  have e5 : ztH K1 K2 z TI TO i1 i2 a b H0 z = some (ztO z TI TO) := upd_same
  have g1 : IsZip s.heap z TI TO .none := (show ObjOk X.prog X.w _ s.heap z (.ext fun h => IsZip h z TI TO .none) from I.hok z _ e5).1
  have J4 := inv_drop I e5
  have d5 : dropH (ztH K1 K2 z TI TO i1 i2 a b H0) z = upd (upd (upd (upd H0 i1 (zwO K1 i1 a)) i2 (zwO K2 i2 b)) TI (zpO TI (.ref i1) (.ref i2))) TO (zoO TO) := dropH_upd (by rw [upd_ne (Ne.symm D.TOz), upd_ne (Ne.symm D.TIz), upd_ne (Ne.symm D.i2z), upd_ne (Ne.symm D.i1z)]; exact N.hz)
  have f5 := inv_fp I e5 N.nz
  rw [d5] at J4 f5
  have e4 : (upd (upd (upd (upd H0 i1 (zwO K1 i1 a)) i2 (zwO K2 i2 b)) TI (zpO TI (.ref i1) (.ref i2))) TO (zoO TO)) TO = some (zoO TO) := upd_same
  obtain ⟨xx, yy, g3⟩ : ∃ x y, IsPair s.heap TO x y := (show ObjOk X.prog X.w _ s.heap TO (.ext fun h => ∃ x y, IsPair h TO x y) from J4.hok TO _ e4).1
  have J3 := inv_drop J4 e4
  have d4 : dropH (upd (upd (upd (upd H0 i1 (zwO K1 i1 a)) i2 (zwO K2 i2 b)) TI (zpO TI (.ref i1) (.ref i2))) TO (zoO TO)) TO = upd (upd (upd H0 i1 (zwO K1 i1 a)) i2 (zwO K2 i2 b)) TI (zpO TI (.ref i1) (.ref i2)) := dropH_upd (by rw [upd_ne (Ne.symm D.TITO), upd_ne D.TOi2, upd_ne D.TOi1]; exact N.hO)
  have f4 := inv_fp J4 e4 N.nO
  rw [d4] at J3 f4
  have e3 : (upd (upd (upd H0 i1 (zwO K1 i1 a)) i2 (zwO K2 i2 b)) TI (zpO TI (.ref i1) (.ref i2))) TI = some (zpO TI (.ref i1) (.ref i2)) := upd_same
  have g2 : IsPair s.heap TI (.ref i1) (.ref i2) := (show ObjOk X.prog X.w _ s.heap TI (.ext fun h => IsPair h TI (.ref i1) (.ref i2)) from J3.hok TI _ e3).1
  have J2 := inv_drop J3 e3
  have d3 : dropH (upd (upd (upd H0 i1 (zwO K1 i1 a)) i2 (zwO K2 i2 b)) TI (zpO TI (.ref i1) (.ref i2))) TI = upd (upd H0 i1 (zwO K1 i1 a)) i2 (zwO K2 i2 b) := dropH_upd (by rw [upd_ne D.TIi2, upd_ne D.TIi1]; exact N.hI)
  have f3 := inv_fp J3 e3 N.nI
  rw [d3] at J2 f3
  have e2 : (upd (upd H0 i1 (zwO K1 i1 a)) i2 (zwO K2 i2 b)) i2 = some (zwO K2 i2 b) := upd_same
  have g5 : K2.st s.heap i2 b 0 := (show ObjOk X.prog X.w _ s.heap i2 (.ext fun h => K2.st h i2 b 0) from J2.hok i2 _ e2).1
  have J1 := inv_drop J2 e2
  have d2 : dropH (upd (upd H0 i1 (zwO K1 i1 a)) i2 (zwO K2 i2 b)) i2 = upd H0 i1 (zwO K1 i1 a) := dropH_upd (by rw [upd_ne (Ne.symm D.i12)]; exact N.h2)
  have f2 := inv_fp J2 e2 N.n2
  rw [d2] at J1 f2
  have e1 : (upd H0 i1 (zwO K1 i1 a)) i1 = some (zwO K1 i1 a) := upd_same
  have g4 : K1.st s.heap i1 a 0 := (show ObjOk X.prog X.w _ s.heap i1 (.ext fun h => K1.st h i1 a 0) from J1.hok i1 _ e1).1
  have J0 := inv_drop J1 e1
  have d1 : dropH (upd H0 i1 (zwO K1 i1 a)) i1 = H0 := dropH_upd N.h1
  have f1 := inv_fp J1 e1 N.n1
  rw [d1] at J0 f1
  have fp : ∀ c ∈ [z, TI, TO, i1, i2], FpOk X pins H0 c := fun c hc => by
    simp only [List.mem_cons, List.not_mem_nil, or_false] at hc
    rcases hc with rfl | rfl | rfl | rfl | rfl
    · exact ⟨N.hz, f5.2⟩
    · exact ⟨N.hI, f3.2⟩
    · exact ⟨N.hO, f4.2⟩
    · exact f1
    · exact ⟨N.h2, f2.2⟩
  exact ⟨J0, g1, g2, ⟨xx, yy, g3⟩, g4, g5, fp⟩
end
abbrev Np := Addr × (Value × Value) × (V × V)
def npO (p : Np) : Obj := { cls := .type "tuple", data := .seq #[p.2.1.1, p.2.1.2] }
def npH (p : Np) : HO := tupO (npO p) [p.2.2.1, p.2.2.2]
section
variable {X : Cx} {pins : List (Addr × Obj)} {σ : L2.St} {s : Shared} {K : PySem.W.Frag} {F : Hp}
end
section
variable {X : Cx} {b : Bool} {e1x e2x : Expr} {d1 d2 : DE} {lp zp lpos zpos : Pos}
end
end L2
set_option Elab.async false
set_option autoImplicit false
set_option linter.all false
set_option maxRecDepth 100000
set_option maxHeartbeats 1000001
namespace L2
open PyProof.Rows PySem PySem.Spec
section
variable {X : Cx} {b : Bool} {pos : Pos}
end
end L2
set_option Elab.async false
set_option autoImplicit false
set_option linter.all false
set_option maxRecDepth 100000
set_option maxHeartbeats 1000001
namespace L2
open PyProof.Rows PySem PySem.Spec
section
variable {X : Cx} {b : Bool} {d : DE} {e : Expr}
end
end L2
set_option Elab.async false
set_option autoImplicit false
set_option linter.all false
set_option maxRecDepth 100000
set_option maxHeartbeats 1000001
namespace L2
open PyProof.Rows PySem PySem.Spec
section
variable {X : Cx} {b : Bool} {d : DE} {e : Expr} {i : Nat} {x : Str} {pos pos' : Pos}
end
end L2
set_option Elab.async false
set_option autoImplicit false
set_option linter.all false
set_option maxRecDepth 100000
set_option maxHeartbeats 1000001
namespace L2
open PyProof.Rows PySem PySem.Spec
section
variable {X : Cx}
end
end L2
set_option Elab.async false
set_option autoImplicit false
set_option linter.all false
set_option maxRecDepth 100000
set_option maxHeartbeats 1000001
namespace L2
open PyProof.Rows PySem PySem.Spec
section
variable {X : Cx} {b : Bool} {e : Expr} {es : List Expr} {j i np : Nat} {fa : Nat} {x y : Str} {ps : List Str} {f : FD} {ds : List DE} {p pos : Pos} {sp : Sp} {t : TA}
end
end L2
set_option Elab.async false
set_option autoImplicit false
set_option linter.all false
set_option maxRecDepth 100000
set_option maxHeartbeats 2000001
namespace L2
open PyProof.Rows PySem PySem.Spec RZ ItX
open PySem.W (kdx_alive)
open
      AutoSeq1 (wpAny_loadPart')
abbrev IsZipG (h : Heap) (z TI TO : Addr) (v : Value) (f : Bool) : Prop := h.get? z = some { cls := .type "zip", dict := none, data := .fields #[v, .bool f, .bool false, .ref TI, .ref TO], slots := #[] }
def ZEs (z TI TO i1 i2 l1 l2 : Addr) (i : Nat) (h : Heap) : Prop := IsPair h TI (.ref i1) (.ref i2) ∧ (∃ a b, IsPair h TO a b) ∧ h.IsListIter i1 l1 i ∧ h.IsListIter i2 l2 i ∧ (IsZip h z TI TO .none ∨ ∃ T f, IsZipHeld h z TI TO T f)
section
variable {prog : Program} {w : World} {A : Around} {E : Value → Shared → Prop} {s : Shared} {z TI TO T i1 i2 l1 l2 e : Addr} {f : Bool} {xs ys : Array Value}
theorem ez_dead {a : Addr} {Q : Option Obj → Shared → Prop} (ho : s.heap.get? a = none) (h : Q none s) : wpAny (model prog w) A (loadIfAlive a) Q E s := by
  have
        h' : Q (s.heap.get? a) s := by rw [ho]; exact h
  exact fun _ _ _ => h'
theorem ez_free {Q : Bool → Shared → Prop} (hz : IsZipHeld s.heap z TI TO T f) (hT : s.heap.get? T = none) (h : Q true s) : wpAny (model prog w) A (Builtin.SmallTypes.ownedTupleIsFree (.ref z)) Q E s := by
  unfold
        Builtin.SmallTypes.ownedTupleIsFree
  refine
        wpAny_bind (wpAny_field hz rfl (x := rawInt T) rfl ?_)
  show
        wpAny _ _ (loadIfAlive ((T : Int).toNat) >>= _) _ _ _
  rw [Int.toNat_natCast]
  refine wpAny_bind (ez_dead hT ?_)
  simp
        only [Option.isNone_none, if_true]
  exact wpAny_pure h
theorem ez_item_dead {i : Nat} {x y a b : Value} {Q : Value → Shared → Prop} (D : ZipApart z TI TO i1 i2 l1 l2) (hz : IsZipHeld s.heap z TI TO T f) (hT : s.heap.get? T = none) (hTI : IsPair s.heap TI (.ref i1) (.ref i2)) (hTO : IsPair s.heap TO a b)
    (h1 : s.heap.IsListIter i1 l1 i) (h2 : s.heap.IsListIter i2 l2 i) (hl1 : s.heap.IsList l1 xs) (hl2 : s.heap.IsList l2 ys) (hx : xs[i]? = some x) (hy : ys[i]? = some y)
    (hQ : ∀ h', ZEs z TI TO i1 i2 l1 l2 (i + 1) h' → IsPair h' s.heap.objs.size x y → h'.objs.size = s.heap.objs.size + 1 → (∀ c o, c ≠ z → c ≠ TO → c ≠ i1 → c ≠ i2 → s.heap.get? c = some o → h'.get? c = some o) → Q (.ref s.heap.objs.size) { s with heap := h' }) :
    wpAny
          (model prog w) A (Builtin.«zip.__next__» ⟨[.ref z], []⟩) (fun fin s' => ∃ v, fin = .done (.ret v) ∧ Q v s') E s := by
  show
        wpAny _ _ (field (.ref z) 2 >>= _) _ _ _
  refine
        wpAny_bind (wpAny_field hz rfl (x := .bool false) rfl ?_)
  show
        wpAny _ _ (field (.ref z) 3 >>= _) _ _ _
  refine
        wpAny_bind (wpAny_field hz rfl (x := .ref TI) rfl ?_)
  refine
        wpAny_bind (wpAny_seqItems hTI rfl ?_)
  show
        wpAny _ _ (Builtin.SmallTypes.ownedTupleIsFree (.ref z) >>= _) _ _ _
  refine wpAny_bind (ez_free hz hT ?_)
  simp only [if_true]
  refine
        wpAny_bind (wpAny_rule ?_)
  refine
        wpAny_bind (wpAny_field hz rfl (x := .ref TO) rfl ?_)
  refine wpAny_bind (wpAny_setField_rec hz (by simp) fun g1 hz1 hs1 => ?_)
  replace hz1 : IsZipG g1 z TI TO .ellipsis f := hz1
  refine wpAny_bind ?_
  simp
        only [List.zipIdx_cons, List.zipIdx_nil, List.forIn_cons, List.forIn_nil]
  refine
        wpAny_bind (wpAny_bind (wpAny_onRaise ?_))
  show
        wpAny _ _ (Builtin.SmallTypes.nextOf (.ref i1) >>= _) _ _ _
  refine wpAny_bind (wpAny_nextOf_list_item (h1.extBut hs1.extBut D.i1z) (hl1.extBut hs1.extBut D.l1z) hx fun g2 h12 hs2 => wpAny_pure ?_)
  have hTO2 : IsPair g2 TO a b := hs2.extBut _ _ D.TOi1 (hs1.extBut _ _ D.TOz hTO)
  refine wpAny_bind (wpAny_seqItems hTO2 rfl ?_)
  refine wpAny_bind (wpAny_updateSeq_pair hTO2 fun g3 hTO3 hs3 => ?_)
  replace hTO3 : IsPair g3 TO x b := hTO3
  refine
        wpAny_bind (wpAny_letGo (wpAny_pure ?_))
  refine
        wpAny_bind (wpAny_bind (wpAny_onRaise ?_))
  show
        wpAny _ _ (Builtin.SmallTypes.nextOf (.ref i2) >>= _) _ _ _
  refine wpAny_bind (wpAny_nextOf_list_item (((h2.extBut hs1.extBut D.i2z).extBut hs2.extBut D.i12.symm).extBut hs3.extBut D.TOi2.symm)
    (((hl2.extBut hs1.extBut D.l2z).extBut hs2.extBut D.l2i1).extBut hs3.extBut D.l2TO) hy fun g4 h24 hs4 => wpAny_pure ?_)
  have hTO4 : IsPair g4 TO x b := hs4.extBut _ _ D.TOi2 hTO3
  refine wpAny_bind (wpAny_seqItems hTO4 rfl ?_)
  refine wpAny_bind (wpAny_updateSeq_pair hTO4 fun g5 hTO5 hs5 => ?_)
  replace hTO5 : IsPair g5 TO x y := hTO5
  refine
        wpAny_bind (wpAny_letGo (wpAny_pure (wpAny_pure ?_)))
  refine wpAny_bind (wpAny_seqItems hTO5 rfl ?_)
  refine
        wpAny_bind (wpAny_newTuple ?_)
  have hsz : g5.objs.size = s.heap.objs.size := by rw [hs5.1, hs4.1, hs3.1, hs2.1, hs1.1]
  have hz5 : IsZipG g5 z TI TO .ellipsis f := hs5.extBut _ _ D.TOz.symm (hs4.extBut _ _ D.i2z.symm (hs3.extBut _ _ D.TOz.symm (hs2.extBut _ _ D.i1z.symm hz1)))
  have hk5 : ∀ c o, c ≠ z → c ≠ TO → c ≠ i1 → c ≠ i2 → s.heap.get? c = some o → g5.get? c = some o := fun c o c1 c2 c3 c4 q =>
    hs5.extBut _ _ c2 (hs4.extBut _ _ c4 (hs3.extBut _ _ c2 (hs2.extBut _ _ c3 (hs1.extBut _ _ c1 q))))
  have h15 : g5.IsListIter i1 l1 (i + 1) := ((h12.extBut hs3.extBut D.TOi1.symm).extBut hs4.extBut D.i12).extBut hs5.extBut D.TOi1.symm
  have h25 : g5.IsListIter i2 l2 (i + 1) := h24.extBut hs5.extBut D.TOi2.symm
  have hzlt : z < g5.objs.size := Heap.lt_size hz5
  show wpAny _ _ (Builtin.SmallTypes.ownedTupleHandOut (.ref z) (.ref g5.objs.size) >>= _) _ _ _
  refine wpAny_bind ?_
  unfold
        Builtin.SmallTypes.ownedTupleHandOut
  have hz6 : IsZipG (g5.push { cls := .type "tuple", data := .seq #[x, y] }) z TI TO .ellipsis f := Heap.get?_push_of_some _ hz5
  refine wpAny_bind (wpAny_setField_rec hz6 (by simp) fun g7 hz7 hs7 => ?_)
  replace hz7 : IsZipG g7 z TI TO (rawInt g5.objs.size) f := hz7
  refine wpAny_setField_rec hz7 (by simp) fun g8 hz8 hs8 => ?_
  replace hz8 : IsZipHeld g8 z TI TO g5.objs.size false := hz8
  have up : ∀ c o, c ≠ z → g5.get? c = some o → g8.get? c = some o := fun c o c1 q => hs8.extBut _ _ c1 (hs7.extBut _ _ c1 (Heap.get?_push_of_some _ q))
  have hT8 : IsPair g8 g5.objs.size x y := hs8.extBut _ _ (Nat.ne_of_gt hzlt) (hs7.extBut _ _ (Nat.ne_of_gt hzlt) (Heap.get?_push_size _ rfl))
  have hz9 : g8.objs.size = g5.objs.size + 1 := by rw [hs8.1, hs7.1, Heap.size_push]
  have hi1 : i1 ≠ z := D.i1z
  refine
        wpAny_pure ⟨_, rfl, ?_⟩
  have R : Q (.ref s.heap.objs.size) { s with heap := g8 } := by
    refine hQ g8 ⟨up _ _ D.TIz (hk5 _ _ D.TIz D.TITO D.TIi1 D.TIi2 hTI), ⟨x, y, up _ _ D.TOz hTO5⟩, h15.at fun o q => up _ o D.i1z q, h25.at fun o q => up _ o D.i2z q, .inr ⟨_, _, hz8⟩⟩ (by rw [← hsz]; exact hT8) (by rw [← hsz]; exact hz9) fun c o c1 c2 c3 c4 q => up c o c1 (hk5 c o c1 c2 c3 c4 q)
  rw [← hsz] at R
  exact R
theorem ez_next {i : Nat} {x y : Value} {Q : Value → Shared → Prop} (D : ZipApart z TI TO i1 i2 l1 l2) (st : ZEs z TI TO i1 i2 l1 l2 i s.heap) (hl1 : s.heap.IsList l1 xs) (hl2 : s.heap.IsList l2 ys) (hx : xs[i]? = some x) (hy : ys[i]? = some y)
    (hQ : ∀ h', ZEs z TI TO i1 i2 l1 l2 (i + 1) h' → IsPair h' s.heap.objs.size x y → h'.objs.size = s.heap.objs.size + 1 → (∀ c o, c ≠ z → c ≠ TO → c ≠ i1 → c ≠ i2 → s.heap.get? c = some o → h'.get? c = some o) → Q (.ref s.heap.objs.size) { s with heap := h' }) :
    wpAny (model prog w) A (Builtin.SmallTypes.nextOf (.ref z)) Q E s := by
  obtain ⟨hTI, ⟨a, b, hTO⟩, h1, h2, hz⟩ := st
  have hTy : s.TypeIs (.ref z) "zip" := by
    rcases hz with hz | ⟨T, f, hz⟩
    · exact ⟨_, hz, rfl⟩
    · exact ⟨_, hz, rfl⟩
  unfold
        Builtin.SmallTypes.nextOf
  refine wpAny_bind (wpAny_callSpecial?_slot (name := Str.ofString "__next__") hTy F.slot_zip_next (wpAny_call_entry F.slot_zip_next hTy F.entry_zip_next ?_ (F.args_zip_next_1 _)))
  rcases hz with hz | ⟨T, f, hz⟩
  · exact zip_next_item D hz hTI hTO h1 h2 hl1 hl2 hx hy fun h' a1 a2 a3 a4 a5 a6 a7 => wpAny_pure (hQ h' ⟨a7 _ _ D.TIz D.TITO D.TIi1 D.TIi2 hTI, ⟨_, _, a2⟩, a3, a4, .inr ⟨_, _, a1⟩⟩ a5 a6 a7)
  · cases hT : s.heap.get? T with
    | none => exact ez_item_dead D hz hT hTI hTO h1 h2 hl1 hl2 hx hy fun h' a1 a2 a3 a4 => wpAny_pure (hQ h' a1 a2 a3 a4)
    | some oT => exact zip_next_item_held D hz hT hTI h1 h2 hl1 hl2 hx hy fun h' a1 a3 a4 a5 a6 a7 => wpAny_pure (hQ h' ⟨a7 _ _ D.TIz D.TIi1 D.TIi2 hTI, ⟨_, _, a7 _ _ D.TOz D.TOi1 D.TOi2 hTO⟩, a3, a4, .inr ⟨_, _, a1⟩⟩ a5 a6 fun c o c1 _ c3 c4 q => a7 c o c1 c3 c4 q)
theorem ez_end_dead {i : Nat} {a b : Value} {Q : Fin → Shared → Prop} (hh : A.handled = none) (D : ZipApart z TI TO i1 i2 l1 l2) (hz : IsZipHeld s.heap z TI TO T f) (hT : s.heap.get? T = none) (hTI : IsPair s.heap TI (.ref i1) (.ref i2)) (hTO : IsPair s.heap TO a b)
    (h1 : s.heap.IsListIter i1 l1 i) (h2 : s.heap.IsListIter i2 l2 i) (hl1 : s.heap.IsList l1 xs) (hl2 : s.heap.IsList l2 ys) (hend : xs[i]? = none ∨ ys[i]? = none)
    (hE
          : ∀ h' e, (∀ c o, c ≠ z → c ≠ TO → c ≠ i1 → c ≠ i2 → s.heap.get? c = some o → h'.get? c = some o) → (∃ o, h'.get? e = some o ∧ o.cls = .type "StopIteration") → E (.ref e) { s with heap := h' }) :
    wpAny
          (model prog w) A (Builtin.«zip.__next__» ⟨[.ref z], []⟩) Q E s := by
  show
        wpAny _ _ (field (.ref z) 2 >>= _) _ _ _
  refine
        wpAny_bind (wpAny_field hz rfl (x := .bool false) rfl ?_)
  show
        wpAny _ _ (field (.ref z) 3 >>= _) _ _ _
  refine
        wpAny_bind (wpAny_field hz rfl (x := .ref TI) rfl ?_)
  refine
        wpAny_bind (wpAny_seqItems hTI rfl ?_)
  show
        wpAny _ _ (Builtin.SmallTypes.ownedTupleIsFree (.ref z) >>= _) _ _ _
  refine wpAny_bind (ez_free hz hT ?_)
  simp only [if_true]
  refine
        wpAny_bind (wpAny_rule ?_)
  refine
        wpAny_bind (wpAny_field hz rfl (x := .ref TO) rfl ?_)
  refine wpAny_bind (wpAny_setField_rec hz (by simp) fun g1 hz1 hs1 => ?_)
  replace hz1 : IsZipG g1 z TI TO .ellipsis f := hz1
  refine wpAny_bind ?_
  simp
        only [List.zipIdx_cons, List.zipIdx_nil, List.forIn_cons, List.forIn_nil]
  refine
        wpAny_bind (wpAny_bind (wpAny_onRaise ?_))
  show
        wpAny _ _ (Builtin.SmallTypes.nextOf (.ref i1) >>= _) _ _ _
  cases hx : xs[i]? with
  | none =>
    refine wpAny_bind (wpAny_nextOf_list_end hh (h1.extBut hs1.extBut D.i1z) (hl1.extBut hs1.extBut D.l1z) hx fun g2 e hs2 he => ?_)
    obtain ⟨oe, hoe, hce⟩ := he
    have hz2 : IsZipG g2 z TI TO .ellipsis f := hs2 _ _ D.i1z.symm hz1
    have hez : e ≠ z := fun x => by subst x; rw [hz2] at hoe; cases hoe; simp at hce
    refine wpAny_setField_rec hz2 (by simp) fun g3 _ hs3 => hE g3 e (fun c o c1 _ c3 _ x => hs3.extBut _ _ c1 (hs2 _ _ c3 (hs1.extBut _ _ c1 x))) ⟨oe, hs3.extBut _ _ hez hoe, hce⟩
  | some x =>
    have hy : ys[i]? = none := by rcases hend with h | h; rw [hx] at h; cases h; exact h
    refine wpAny_bind (wpAny_nextOf_list_item (h1.extBut hs1.extBut D.i1z) (hl1.extBut hs1.extBut D.l1z) hx fun g2 h12 hs2 => wpAny_pure ?_)
    have hTO2 : IsPair g2 TO a b := hs2.extBut _ _ D.TOi1 (hs1.extBut _ _ D.TOz hTO)
    refine wpAny_bind (wpAny_seqItems hTO2 rfl ?_)
    refine wpAny_bind (wpAny_updateSeq_pair hTO2 fun g3 hTO3 hs3 => ?_)
    refine
          wpAny_bind (wpAny_letGo (wpAny_pure ?_))
    refine
          wpAny_bind (wpAny_bind (wpAny_onRaise ?_))
    show
          wpAny _ _ (Builtin.SmallTypes.nextOf (.ref i2) >>= _) _ _ _
    refine wpAny_bind (wpAny_nextOf_list_end hh (((h2.extBut hs1.extBut D.i2z).extBut hs2.extBut D.i12.symm).extBut hs3.extBut D.TOi2.symm)
      (((hl2.extBut hs1.extBut D.l2z).extBut hs2.extBut D.l2i1).extBut hs3.extBut D.l2TO) hy fun g4 e hs4 he => ?_)
    obtain ⟨oe, hoe, hce⟩ := he
    have hz4 : IsZipG g4 z TI TO .ellipsis f := hs4 _ _ D.i2z.symm (hs3.extBut _ _ D.TOz.symm (hs2.extBut _ _ D.i1z.symm hz1))
    have hez : e ≠ z := fun x => by subst x; rw [hz4] at hoe; cases hoe; simp at hce
    refine wpAny_setField_rec hz4 (by simp) fun g5 _ hs5 => hE g5 e (fun c o c1 c2 c3 c4 x => hs5.extBut _ _ c1 (hs4 _ _ c4 (hs3.extBut _ _ c2 (hs2.extBut _ _ c3 (hs1.extBut _ _ c1 x))))) ⟨oe, hs5.extBut _ _ hez hoe, hce⟩
theorem ez_end {i : Nat} {Q : Value → Shared → Prop} (hh : A.in1.handled = none) (D : ZipApart z TI TO i1 i2 l1 l2) (st : ZEs z TI TO i1 i2 l1 l2 i s.heap) (hl1 : s.heap.IsList l1 xs) (hl2 : s.heap.IsList l2 ys) (hend : xs[i]? = none ∨ ys[i]? = none)
    (hE
          : ∀ h' e, (∀ c o, c ≠ z → c ≠ TO → c ≠ i1 → c ≠ i2 → s.heap.get? c = some o → h'.get? c = some o) → (∃ o, h'.get? e = some o ∧ o.cls = .type "StopIteration") → E (.ref e) { s with heap := h' }) :
    wpAny (model prog w) A (Builtin.SmallTypes.nextOf (.ref z)) Q E s := by
  obtain ⟨hTI, ⟨a, b, hTO⟩, h1, h2, hz⟩ := st
  have hTy : s.TypeIs (.ref z) "zip" := by
    rcases hz with hz | ⟨T, f, hz⟩
    · exact ⟨_, hz, rfl⟩
    · exact ⟨_, hz, rfl⟩
  unfold
        Builtin.SmallTypes.nextOf
  refine wpAny_bind (wpAny_callSpecial?_slot (name := Str.ofString "__next__") hTy F.slot_zip_next (wpAny_call_entry F.slot_zip_next hTy F.entry_zip_next ?_ (F.args_zip_next_1 _)))
  rcases hz with hz | ⟨T, f, hz⟩
  · exact zip_next_end hh D hz hTI hTO h1 h2 hl1 hl2 hend hE
  · cases hT : s.heap.get? T with
    | none => exact ez_end_dead hh D hz hT hTI hTO h1 h2 hl1 hl2 hend hE
    | some oT => exact zip_next_end_held hh D hz hT hTI h1 h2 hl1 hl2 hend fun h' e hk he => hE h' e (fun c o c1 _ c3 c4 x => hk c o c1 c3 c4 x) he
theorem ez_enum_item {i : Nat} {old : Value} {P : Heap → Prop} {Q : Value → Shared → Prop} (he : IsEnum s.heap e z i old)
    (hn : ∀ Q' : Value → Shared → Prop, (∀ h1, P h1 → Q' (.ref s.heap.objs.size) { s with heap := h1 }) → wpAny (model prog w) A (Builtin.SmallTypes.nextOf (.ref z)) Q' E s)
    (hP : ∀ h1, P h1 → IsEnum h1 e z i old ∧ h1.objs.size = s.heap.objs.size + 1)
    (hQ : ∀ h1 h', P h1 → IsEnumOut h' e z ((i : Int) + 1) (.ref s.heap.objs.size) (s.heap.objs.size + 1) → IsPair h' (s.heap.objs.size + 1) (.int i s.toks) (.ref s.heap.objs.size) → (∀ b o, b ≠ e → h1.get? b = some o → h'.get? b = some o) →
      Q (.ref (s.heap.objs.size + 1)) { s with heap := h', toks := s.toks + 1 }) :
    wpAny
          (model prog w) A (Builtin.«enumerate.__next__» ⟨[.ref e], []⟩) (fun fin s' => ∃ v, fin = .done (.ret v) ∧ Q v s') E s := by
  obtain
        ⟨hp, g, d, tk, os⟩ := s
  show
        wpAny _ _ (field (.ref e) 2 >>= _) _ _ _
  refine wpAny_bind (wpAny_field he rfl (x := .ref z) rfl ?_)
  refine wpAny_bind (hn _ fun h1 p1 => ?_)
  obtain ⟨e1, sz1⟩ := hP h1 p1
  replace sz1 : h1.objs.size = hp.objs.size + 1 := sz1
  show wpAny _ _ (field (.ref e) 3 >>= _) _ _ ⟨h1, g, d, tk, os⟩
  refine wpAny_bind (wpAny_field e1 rfl (x := rawInt i) rfl ?_)
  show wpAny _ _ (field (.ref e) 4 >>= _) _ _ ⟨h1, g, d, tk, os⟩
  refine wpAny_bind (wpAny_field e1 rfl (x := .none) rfl ?_)
  show wpAny _ _ (mkInt i >>= _) _ _ ⟨h1, g, d, tk, os⟩
  refine
        wpAny_bind (wpAny_mkInt ?_)
  show wpAny _ _ (setField (.ref e) 3 (rawInt ((i : Int) + 1)) >>= _) _ _ ⟨h1, g, d, tk + 1, os⟩
  refine
        wpAny_bind (wpAny_setField_rec e1 (by simp) fun h2 e2 s2 => ?_)
  replace s2 : Heap.SameBut e h1 h2 := s2
  replace e2 : IsEnum h2 e z ((i : Int) + 1) old := e2
  show wpAny _ _ (setField (.ref e) 4 .none >>= _) _ _ ⟨h2, g, d, tk + 1, os⟩
  refine
        wpAny_bind (wpAny_setField_rec e2 (by simp) fun h3 e3 s3 => ?_)
  replace s3 : Heap.SameBut e h2 h3 := s3
  replace e3 : IsEnum h3 e z ((i : Int) + 1) old := e3
  show wpAny _ _ (newTuple [.int i tk, .ref hp.objs.size] >>= _) _ _ ⟨h3, g, d, tk + 1, os⟩
  refine
        wpAny_bind (wpAny_newTuple ?_)
  have e4 : IsEnum (h3.push { cls := .type "tuple", data := .seq #[.int i tk, .ref hp.objs.size] }) e z ((i : Int) + 1) old := Heap.get?_push_of_some _ e3
  generalize hh4 : h3.push { cls := .type "tuple", data := .seq #[.int i tk, .ref hp.objs.size] } = h4 at e4
  have hsz : h3.objs.size = hp.objs.size + 1 := by rw [s3.1, s2.1, sz1]
  have el : e < hp.objs.size := Heap.lt_size he
  have t4 : IsPair h4 (hp.objs.size + 1) (.int i tk) (.ref hp.objs.size) := by rw [← hh4, ← hsz]; exact Heap.get?_push_size _ rfl
  have k4 : ∀ b o, b ≠ e → h1.get? b = some o → h4.get? b = some o := fun b o c q => by
    rw [← hh4]; exact Heap.get?_push_of_some _ (s3.extBut b o c (s2.extBut b o c q))
  show wpAny _ _ (Builtin.SmallTypes.ownedTupleIsFree (.ref e) >>= _) _ _ ⟨h4, g, d, tk + 1, os⟩
  rw [hsz]
  clear hh4 e3 s3 e2 s2 hsz h3 h2
  have ne : hp.objs.size + 1 ≠ e := Nat.ne_of_gt (Nat.lt_succ_of_lt el)
  refine wpAny_bind ?_
  unfold
        Builtin.SmallTypes.ownedTupleIsFree
  refine wpAny_bind (wpAny_field e4 rfl (x := .none) rfl (wpAny_pure ?_))
  simp only [if_true]
  refine
        wpAny_bind (wpAny_rule ?_)
  refine wpAny_bind (wpAny_field e4 rfl (x := old) rfl ?_)
  refine wpAny_bind (wpAny_setField_rec e4 (by simp) fun h5 e5 s5 => ?_)
  replace s5 : Heap.SameBut e h4 h5 := s5
  replace e5 : IsEnum h5 e z ((i : Int) + 1) (.ref hp.objs.size) := e5
  show wpAny _ _ (Builtin.SmallTypes.ownedTupleHandOut (.ref e) (.ref (hp.objs.size + 1)) >>= _) _ _ ⟨h5, g, d, tk + 1, os⟩
  refine wpAny_bind ?_
  unfold
        Builtin.SmallTypes.ownedTupleHandOut
  refine wpAny_bind (wpAny_setField_rec e5 (by simp) fun h6 e6 s6 => ?_)
  replace s6 : Heap.SameBut e h5 h6 := s6
  replace e6 : IsEnumOut h6 e z ((i : Int) + 1) (.ref hp.objs.size) (hp.objs.size + 1) := e6
  refine wpAny_setField_rec e6 (by simp) fun h7 e7 s7 => ?_
  replace s7 : Heap.SameBut e h6 h7 := s7
  replace e7 : IsEnumOut h7 e z ((i : Int) + 1) (.ref hp.objs.size) (hp.objs.size + 1) := e7
  have k7 : ∀ b o, b ≠ e → h4.get? b = some o → h7.get? b = some o := fun b o c q => s7.extBut b o c (s6.extBut b o c (s5.extBut b o c q))
  exact wpAny_bind (wpAny_letGo (wpAny_pure ⟨_, rfl, hQ h1 h7 p1 e7 (k7 _ _ ne t4) fun b o c q => k7 b o c (k4 b o c q)⟩))
theorem ez_pyNext_item {i : Nat} {old x y : Value} {Q : Option Value → Shared → Prop} (he : IsEnum s.heap e z i old) (D : ZipApart z TI TO i1 i2 l1 l2) (N : e ∉ [z, TI, TO, i1, i2]) (st : ZEs z TI TO i1 i2 l1 l2 i s.heap) (hl1 : s.heap.IsList l1 xs) (hl2 : s.heap.IsList l2 ys) (hx : xs[i]? = some x) (hy : ys[i]? = some y)
    (hQ : ∀ h', IsEnumOut h' e z ((i : Int) + 1) (.ref s.heap.objs.size) (s.heap.objs.size + 1) → IsPair h' (s.heap.objs.size + 1) (.int i s.toks) (.ref s.heap.objs.size) → IsPair h' s.heap.objs.size x y → ZEs z TI TO i1 i2 l1 l2 (i + 1) h' →
      (∀ c o, c ∉ [e, z, TI, TO, i1, i2] → s.heap.get? c = some o → h'.get? c = some o) → Q (some (.ref (s.heap.objs.size + 1))) { s with heap := h', toks := s.toks + 1 }) :
    wpAny
          (model prog w) A (pyNext (.ref e)) Q E s := by
  have
        hT : s.TypeIs (.ref e) "enumerate" := ⟨_, he, rfl⟩
  simp only [List.mem_cons, List.not_mem_nil, or_false, not_or] at N
  obtain ⟨n1, n2, n3, n4, n5⟩ := N
  have el : e < s.heap.objs.size := Heap.lt_size he
  unfold pyNext
  refine wpAny_bind (wpAny_attempt (wpAny_callSpecial?_slot (name := Str.ofString "__next__") hT F.slot_enumerate_next (wpAny_call_entry F.slot_enumerate_next hT F.entry_enumerate_next
    (ez_enum_item (P := fun h1 => ZEs z TI TO i1 i2 l1 l2 (i + 1) h1 ∧ IsPair h1 s.heap.objs.size x y ∧ h1.objs.size = s.heap.objs.size + 1 ∧ ∀ c o, c ≠ z → c ≠ TO → c ≠ i1 → c ≠ i2 → s.heap.get? c = some o → h1.get? c = some o) he
      (fun Q' h => ez_next D st hl1 hl2 hx hy fun h' a1 a2 a3 a4 => h h' ⟨a1, a2, a3, a4⟩) (fun h1 ⟨_, _, a3, a4⟩ => ⟨a4 _ _ n1 n3 n4 n5 he, a3⟩) fun h1 h' ⟨a1, a2, a3, a4⟩ b1 b2 b3 => wpAny_pure (hQ h' b1 b2 (b3 _ _ (Nat.ne_of_gt el) a2) ?_ fun c o hc q => ?_)) (F.args_enumerate_next_1 _))))
  · obtain ⟨hTI, ⟨a, b, hTO⟩, h1, h2, hz⟩ := a1
    refine ⟨b3 _ _ (Ne.symm n2) hTI, ⟨a, b, b3 _ _ (Ne.symm n3) hTO⟩, h1.at fun o q => b3 _ o (Ne.symm n4) q, h2.at fun o q => b3 _ o (Ne.symm n5) q, ?_⟩
    rcases hz with hz | ⟨T, f, hz⟩
    · exact .inl (b3 _ _ (Ne.symm n1) hz)
    · exact .inr ⟨T, f, b3 _ _ (Ne.symm n1) hz⟩
  · simp only [List.mem_cons, List.not_mem_nil, or_false, not_or] at hc
    exact b3 c o hc.1 (a4 c o hc.2.1 hc.2.2.2.1 hc.2.2.2.2.1 hc.2.2.2.2.2 q)
theorem ez_pyNext_end {i : Nat} {old : Value} {Q : Option Value → Shared → Prop} (hh : A.in1.in1.handled = none) (he : IsEnum s.heap e z i old) (D : ZipApart z TI TO i1 i2 l1 l2) (st : ZEs z TI TO i1 i2 l1 l2 i s.heap) (hl1 : s.heap.IsList l1 xs) (hl2 : s.heap.IsList l2 ys) (hend : xs[i]? = none ∨ ys[i]? = none)
    (hQ : ∀ h', (∀ c o, c ∉ [e, z, TI, TO, i1, i2] → s.heap.get? c = some o → h'.get? c = some o) → Q none { s with heap := h' }) : wpAny (model prog w) A (pyNext (.ref e)) Q E s := by
  have
        hT : s.TypeIs (.ref e) "enumerate" := ⟨_, he, rfl⟩
  unfold pyNext
  refine
        wpAny_bind (wpAny_attempt (wpAny_callSpecial?_slot (name := Str.ofString "__next__") hT F.slot_enumerate_next
    (wpAny_call_entry
          F.slot_enumerate_next hT F.entry_enumerate_next ?_ (F.args_enumerate_next_1 _))))
  show
        wpAny _ _ (field (.ref e) 2 >>= _) _ _ _
  refine wpAny_bind (wpAny_field he rfl (x := .ref z) rfl ?_)
  refine wpAny_bind (ez_end hh D st hl1 hl2 hend fun h' x hk hx => ?_)
  obtain ⟨o, ho, hc⟩ := hx
  refine
        wpAny_bind (wpAny_isInstance (T := "StopIteration") (b := true) ⟨o, ho, hc⟩ isSubtype_stop ?_)
  exact wpAny_pure (hQ h' fun c o hc q => by
    simp only [List.mem_cons, List.not_mem_nil, or_false, not_or] at hc
    exact hk c o hc.2.1 hc.2.2.2.1 hc.2.2.2.2.1 hc.2.2.2.2.2 q)
end
def ItEZ (K : PySem.W.Frag) (a b : Addr) : It :=
  ⟨fun
        i H => ∃ (xs ys : List V) (x y : V), SqL K H a xs ∧ SqL K H b ys ∧ xs[i]? = some x ∧ ys[i]? = some y,
    fun i H v H' => ∃ (T T' : Addr) (x y : V) (u w : Value), v = .ref T' ∧ H T = none ∧ H T' = none ∧ T' ≠ T ∧ H' = upd (upd H T (npH (T, (u, w), (x, y)))) T' (.tup [.int (i : Nat), .ref T]) ∧ (∀ xs, SqL K H a xs → xs[i]? = some x) ∧ ∀ ys, SqL K H b ys → ys[i]? = some y,
    fun
          i H => ∃ xs ys : List V, SqL K H a xs ∧ SqL K H b ys ∧ (xs.length ≤ i ∨ ys.length ≤ i)⟩
theorem turn_ez {P : Program} {w : World} {K : PySem.W.Frag} {elts : List Expr} {kk : Nat} {tpos : Pos} {a b e z TI TO i1 i2 : Addr} (D : ZipApart z TI TO i1 i2 a b) (N : e ∉ [z, TI, TO, i1, i2]) :
    Turn P w K (.Tuple elts kk tpos) (ItEZ K a b) [e, z, TI, TO, i1, i2] e (fun i h => (∃ old, IsEnum h e z ((i : Nat) : Int) old) ∧ ZEs z TI TO i1 i2 a b i h) where
  mem := by simp
  self A i s Q E st h := let ⟨⟨_, he⟩, _⟩ := st; wpAny_pyIter_enum he h
  obj i h st c hc := by
    obtain ⟨⟨old, he⟩, hTI, ⟨x, y, hTO⟩, ⟨o1, q1, _, d1⟩, ⟨o2, q2, _, d2⟩, hz⟩ := st
    simp only [List.mem_cons, List.not_mem_nil, or_false] at hc
    rcases hc with rfl | rfl | rfl | rfl | rfl | rfl
    · exact ⟨_, he, fun v q => nomatch q⟩
    · rcases hz with hz | ⟨T, f, hz⟩
      · exact ⟨_, hz, fun v q => nomatch q⟩
      · exact ⟨_, hz, fun v q => nomatch q⟩
    · exact ⟨_, hTI, fun v q => nomatch q⟩
    · exact ⟨_, hTO, fun v q => nomatch q⟩
    · exact ⟨o1, q1, fun v q => by rw [d1] at q; cases q⟩
    · exact ⟨o2, q2, fun v q => by rw [d2] at q; cases q⟩
  keep i h h' st k := by
    obtain ⟨⟨old, he⟩, hTI, ⟨x, y, hTO⟩, h1, h2, hz⟩ := st
    refine ⟨⟨old, k e (by simp) _ he⟩, k TI (by simp) _ hTI, ⟨x, y, k TO (by simp) _ hTO⟩, h1.at fun o q => k i1 (by simp) o q, h2.at fun o q => k i2 (by simp) o q, ?_⟩
    rcases hz with hz | ⟨T, f, hz⟩
    · exact .inl (k z (by simp) _ hz)
    · exact .inr ⟨T, f, k z (by simp) _ hz⟩
  item := by
    intro
          X hP hw hK hc i pins s σ H E I hf st hg
    subst hP hw hK
    obtain
          ⟨xs, ys, x, y, hqx, hqy, hx, hy⟩ := hg
    obtain ⟨us, ru, p1, _⟩ := I.list hqx
    obtain ⟨ws, rw', p2, _⟩ := I.list hqy
    obtain ⟨u, hu, r1⟩ := ru.get hx
    obtain ⟨v, hv, r2⟩ := rw'.get hy
    obtain ⟨⟨old, he⟩, stz⟩ := st
    have el : e < s.heap.objs.size := Heap.lt_size he
    have lts : ∀ c ∈ [e, z, TI, TO, i1, i2], c < s.heap.objs.size := fun c hcm => by
      obtain ⟨q2, ⟨_, _, q3⟩, ⟨_, q4, _⟩, ⟨_, q5, _⟩, q1⟩ := id stz
      simp only [List.mem_cons, List.not_mem_nil, or_false] at hcm
      rcases hcm with rfl | rfl | rfl | rfl | rfl | rfl
      · exact el
      · rcases q1 with q1 | ⟨_, _, q1⟩
        · exact Heap.lt_size q1
        · exact Heap.lt_size q1
      · exact Heap.lt_size q2
      · exact Heap.lt_size q3
      · exact Heap.lt_size q4
      · exact Heap.lt_size q5
    have hu : us.toArray[i]? = some u := by simpa using hu
    have hv : ws.toArray[i]? = some v := by simpa using hv
    refine ez_pyNext_item he D N stz p1.isList p2.isList hu hv fun h' b1 b2 b3 b4 hk => ?_
    refine ⟨_, rfl, wpAny_letOwnedTupleGo_enum (s := { s with heap := h', toks := s.toks + 1 }) b1 fun h2 e2 sb => ?_⟩
    have nT : s.heap.objs.size ≠ e := Nat.ne_of_gt el
    have nT' : s.heap.objs.size + 1 ≠ e := Nat.ne_of_gt (Nat.lt_succ_of_lt el)
    have hT2 : IsPair h2 s.heap.objs.size u v := (sb.2 _ nT).trans b3
    have hT3 : IsPair h2 (s.heap.objs.size + 1) (.int i s.toks) (.ref s.heap.objs.size) := (sb.2 _ nT').trans b2
    have nw : ObjOk X.prog X.w (upd H s.heap.objs.size (npH (s.heap.objs.size, (u, v), (x, y)))) h2 s.heap.objs.size (npH (s.heap.objs.size, (u, v), (x, y))) := ⟨hT2, by show 2 ≤ sizeLine; decide, [u, v], .cons r1 (.cons r2 .nil), ⟨_, hT2, rfl, _, rfl⟩⟩
    have I1 : Inv X pins σ (upd H s.heap.objs.size (npH (s.heap.objs.size, (u, v), (x, y)))) { s with heap := h2, toks := s.toks + 1 } :=
      I.turnedNew (t' := s.toks + 1) (ch := [e, z, TI, TO, i1, i2]) (fun c o hb q => (sb.2 c (fun z => hb (by simp [z]))).trans (hk c o hb q)) hf (Nat.le_refl _) nw
    have hn' : upd H s.heap.objs.size (npH (s.heap.objs.size, (u, v), (x, y))) (s.heap.objs.size + 1) = none := by
      rw [upd_ne (Nat.succ_ne_self _)]
      exact I.hok.fresh (Nat.le_succ _)
    have I2 : Inv X pins σ (upd (upd H s.heap.objs.size (npH (s.heap.objs.size, (u, v), (x, y)))) (s.heap.objs.size + 1) (.tup [.int (i : Nat), .ref s.heap.objs.size])) { s with heap := h2, toks := s.toks + 1 } :=
      Inv.take (s := { s with heap := h2, toks := s.toks + 1 }) (h' := h2) (t' := s.toks + 1) I1 (fun b ob _ q => q) (I.fpOk (Nat.le_succ _) hn')
        (⟨by show 2 ≤ sizeLine; decide, [.int i s.toks, .ref s.heap.objs.size], .cons ⟨_, rfl⟩ (.cons rfl .nil), ⟨_, hT3, rfl, _, rfl⟩⟩ : ObjOk X.prog X.w _ h2 (s.heap.objs.size + 1) (.tup [.int (i : Nat), .ref s.heap.objs.size]))
    refine ⟨.ref (s.heap.objs.size + 1), _, I2, rfl, ⟨s.heap.objs.size, s.heap.objs.size + 1, x, y, u, v, rfl, I.hok.fresh (Nat.le_refl _), I.hok.fresh (Nat.le_succ _), Nat.succ_ne_self _, rfl, fun l hl => by rw [I.list_inj hl hqx]; exact hx, fun l hl => by rw [I.list_inj hl hqy]; exact hy⟩, ⟨⟨.ref s.heap.objs.size, ?_⟩, ?_⟩, fun c hcm => ?_⟩
    · have
          e1 : ((i + 1 : Nat) : Int) = (i : Int) + 1 := by omega
      rw [e1]
      exact e2
    · simp only [List.mem_cons, List.not_mem_nil, or_false, not_or] at N
      obtain ⟨n1, n2, n3, n4, n5⟩ := N
      obtain ⟨hTI, ⟨xx, yy, hTO⟩, h1, h2', hz⟩ := b4
      refine ⟨(sb.2 _ (Ne.symm n2)).trans hTI, ⟨xx, yy, (sb.2 _ (Ne.symm n3)).trans hTO⟩, h1.at fun o q => (sb.2 _ (Ne.symm n4)).trans q, h2'.at fun o q => (sb.2 _ (Ne.symm n5)).trans q, ?_⟩
      rcases hz with hz | ⟨T, f, hz⟩
      · exact .inl ((sb.2 _ (Ne.symm n1)).trans hz)
      · exact .inr ⟨T, f, (sb.2 _ (Ne.symm n1)).trans hz⟩
    · have q := lts c hcm
      rw [upd_ne (Nat.ne_of_lt (Nat.lt_succ_of_lt q)), upd_ne (Nat.ne_of_lt q)]
      exact (hf c hcm).1
  done := by
    intro
          X hP hw hK hc i pins s σ H E I hf st hg
    subst hP hw hK
    obtain
          ⟨xs, ys, hqx, hqy, hend⟩ := hg
    obtain ⟨us, ru, p1, _⟩ := I.list hqx
    obtain ⟨ws, rw', p2, _⟩ := I.list hqy
    have l1 := ru.length
    have l2 := rw'.length
    obtain ⟨⟨old, he⟩, stz⟩ := st
    refine ez_pyNext_end (I.ok.hd hc) he D stz p1.isList p2.isList (hend.imp (fun q => ?_) fun q => ?_) fun h' hk => ⟨rfl, I.turnedL (t' := s.toks) (ch := [e, z, TI, TO, i1, i2]) (fun c o hb q => hk c o hb q) hf⟩
    · rw [List.getElem?_toArray]
      exact List.getElem?_eq_none (by omega)
    · rw [List.getElem?_toArray]
      exact List.getElem?_eq_none (by omega)
theorem newEnumZ (z TI TO : Addr) : Meets (Builtin.«enumerate.__new__» ⟨[.type "enumerate", .ref z], []⟩) (fun _ R s => IsZip s.heap z TI TO .none ∧
      R (.ok (.ret (.ref s.heap.objs.size))) { s with heap := s.heap.push { cls := .type "enumerate", data := .fields #[.none, .bool false, .ref z, rawInt 0, .none, .none] } }) :=
  .of_wp
        fun prog w A R s h => by
    obtain
          ⟨hp, g, d, tk, os⟩ := s
    obtain ⟨ha, h⟩ := h
    have sub := sub_enumerate
    have hT : IsZip (Shared.heap ⟨hp, g, d, tk, os⟩) z TI TO .none := ha
    wp_walk using wpAny_loadPart' ha
    refine
          wpAny_stack_any fun st => wpAny_pure ?_
    split
    · rename_i c _ _ _ _ _
      cases
            (c == Value.type "enumerate")
      · wp_walk using wpAny_loadPart' ha, wpAny_pyIter_zip hT
        exact ⟨_, rfl, h⟩
      · wp_walk using wpAny_loadPart' ha, wpAny_pyIter_zip hT
        exact ⟨_, rfl, h⟩
    · wp_walk using wpAny_loadPart' ha, wpAny_pyIter_zip hT
      exact ⟨_, rfl, h⟩
theorem callEnumZ {prog : Program} {w : World} {A : Around} {E : Value → Shared → Prop} {s : Shared} {z TI TO : Addr} {Q : Value → Shared → Prop} (hz : IsZip s.heap z TI TO .none)
    (h : ∀ h', IsEnum h' s.heap.objs.size z 0 .none → (∀ b o, s.heap.get? b = some o → h'.get? b = some o) → Q (.ref s.heap.objs.size) { s with heap := h' }) :
    wpAny (model prog w) A (call (.type "enumerate") [.ref z]) Q E s := by
  refine callType_new F.called_enumerate (by decide) (F.typeCall_enumerate_1 _) (F.newCall_enumerate_1 _) (fun obj => F.args_object_init_2 obj _) F.entry_enumerate_new (newEnumZ z TI TO) ⟨hz, ?_⟩
  exact ⟨⟨_, Heap.get?_push_size _ rfl, rfl⟩, h _ (Heap.get?_push_size _ rfl) fun b o x => Heap.get?_push_of_some _ x⟩
end L2
set_option Elab.async false
set_option autoImplicit false
set_option linter.all false
set_option maxRecDepth 100000
set_option maxHeartbeats 2000001
namespace L2
open PyProof.Rows PySem PySem.Spec RZ ItX
def iEnZr (K : PySem.W.Frag) (n : Nat) (ta : TA) : TI := fun σ H R => ta σ H fun vs H1 => ∃ z TI TO i1 i2 a b H0 us ws, vs = [.ref z] ∧ H1 = ztH wkL wkL z TI TO i1 i2 a b H0 ∧ ZipApart z TI TO i1 i2 a b ∧ ZNew n H0 z TI TO i1 i2 ∧ SqL K H0 a us ∧ SqL K H0 b ws ∧ R (ItEZ K a b) H0
theorem pi_enZr {X : Cx} {e : Expr} {ta : TA} {p pos tpos : Pos} {elts : List Expr} {kk : Nat} (hg : Gl X "enumerate") (hm : X.mg "enumerate" = none) (ha : PA X [e] ta) (hs : starEach [e] X.env = [(false, eval e X.env)]) :
    PI X (.Tuple elts kk tpos) (.Call (.Name "enumerate" p) [e] [] pos) (iEnZr X.K X.s_0.heap.objs.size ta) := by
  refine
        ⟨fun pins s σ H R I h => ?_⟩
  refine
        Call_ (ld_blt I hg hm boot_enumerate (PyProof.Rows.callWith_type1 (thn (ha.run pos pins s σ H _ I h) fun us s1 ⟨vs, H1, I1, r1, q1⟩ => ?_) hs rfl))
  obtain ⟨z, TI, TO, i1, i2, a, b, H0, xs, ys, rfl, rfl, D, N, hA, hB, q⟩ := q1
  obtain
        ⟨u, rfl, ru⟩ := vals1 r1
  cases ru
  obtain ⟨J0, g1, g2, g3, g4, g5, fp⟩ := zt_open I1 D N
  have lts : ∀ c ∈ [z, TI, TO, i1, i2], c < s1.heap.objs.size := fun c hc => by
    obtain ⟨_, _, q3⟩ := g3
    obtain ⟨_, q4, _⟩ := id g4
    obtain ⟨_, q5, _⟩ := id g5
    simp only [List.mem_cons, List.not_mem_nil, or_false] at hc
    rcases hc with rfl | rfl | rfl | rfl | rfl
    · exact Heap.lt_size g1
    · exact Heap.lt_size g2
    · exact Heap.lt_size q3
    · exact Heap.lt_size q4
    · exact Heap.lt_size q5
  have Ne : s1.heap.objs.size ∉ [z, TI, TO, i1, i2] := fun h => Nat.lt_irrefl _ (lts _ h)
  refine callEnumZ g1 fun h' he hk => wpAny_pyIter_enum he ?_
  refine ⟨s1.heap.objs.size, [s1.heap.objs.size, z, TI, TO, i1, i2], _, _, H0, rfl, J0.kept (t' := s1.toks) hk, turn_ez D Ne, ⟨⟨.none, he⟩, ?_⟩, fun c hc => ?_, q⟩
  · obtain ⟨x, y, q3⟩ := g3
    exact ⟨hk _ _ g2, ⟨x, y, hk _ _ q3⟩, g4.at fun o q => hk _ o q, g5.at fun o q => hk _ o q, .inl (hk _ _ g1)⟩
  · rcases
        List.mem_cons.mp hc with rfl | hc
    · exact J0.fpOk (Nat.le_refl _) (J0.hok.fresh (Nat.le_refl _))
    · exact fp c hc
def iEnZ (d1 d2 : DE) : DI := fun e => match evx [d1, d2] e with
  | some ([.list xs, .list ys], e1) => some (pairsD 0 (zipD xs ys), e1)
  | _ => none
section
variable {X : Cx} {b : Bool} {e1x e2x : Expr} {d1 d2 : DE} {p pos zp zpos tpos : Pos} {elts : List Expr} {kk : Nat}
theorem steps_ez {F : Hp} {a c : Addr} {us ws : List V} {xs ys : List D} (h : Rd F a (.lst us)) (hx : DqAll X.K F us xs) (k : Rd F c (.lst ws)) (hy : DqAll X.K F ws ys) : Steps (Dt X.K) F (ItEZ X.K a c) (pairsD 0 (zipD xs ys)) where
  go := fun i z F' H hi s1 s2 => by
    obtain ⟨q, g, _⟩ := pairsD_get hi
    obtain ⟨x, y, g0, g1, _⟩ := zipD_get g
    obtain ⟨v, q1, _⟩ := DqAll.get hx g0
    obtain ⟨w, q2, _⟩ := DqAll.get hy g1
    exact ⟨us, ws, v, w, .inl (rdSame (s1.trans s2) h), .inl (rdSame (s1.trans s2) k), q1, q2⟩
  yld := fun i z F' H v H' hi s1 s2 hyl => by
    obtain ⟨T, T', x', y', u0, w0, rfl, hT, hT', nT, rfl, hz1, hz2⟩ := hyl
    obtain ⟨q, g, rfl⟩ := pairsD_get hi
    obtain ⟨x, y, g0, g1, rfl⟩ := zipD_get g
    obtain ⟨w1, q1, q2⟩ := DqAll.get hx g0
    obtain ⟨w2, q3, q4⟩ := DqAll.get hy g1
    rw [hz1 us (.inl (rdSame (s1.trans s2) h))] at q1
    rw [hz2 ws (.inl (rdSame (s1.trans s2) k))] at q3
    cases q1
    cases q3
    have up := same_upd (o := npH (T, (u0, w0), (x', y'))) (none_sub s2 hT)
    have E1 := Ext.stay (o := npH (T, (u0, w0), (x', y'))) s2 hT
    have hT2 : upd H T (npH (T, (u0, w0), (x', y'))) T' = none := by rw [upd_ne nT]; exact hT'
    have E2 := Ext.stay (o := .tup [.int (i : Nat), .ref T]) E1.fh hT2
    have up2 := E2.ff
    refine ⟨_, E1.trans E2, .inr ⟨T', _, _, rfl, rfl, .inl (.inl upd_same), ?_⟩⟩
    rw [Nat.zero_add]
    have e : upd (upd F' T (npH (T, (u0, w0), (x', y')))) T' (.tup [.int (i : Nat), .ref T]) T = some (npH (T, (u0, w0), (x', y'))) := by
      rw [upd_ne (Ne.symm nT)]
      exact upd_same
    exact .cons (.int _) (.cons (.tup (sqtOf e) (bareOf e rfl) (.cons (((q2.to s1).to up).to up2) (.cons (((q4.to s1).to up).to up2) .nil))) .nil)
  stop := fun i F' H hi s1 s2 => by
    rw [pairsD_len] at hi
    refine ⟨us, ws, .inl (rdSame (s1.trans s2) h), .inl (rdSame (s1.trans s2) k), ?_⟩
    rw [DqAll.len hx, DqAll.len hy, ← hi]
    exact zipD_len
theorem pi_denz (hgE : Gl X "enumerate") (hmE : X.mg "enumerate" = none) (hgz : Gl X "zip") (hmz : X.mg "zip" = none) (hz : PA X [e1x, e2x] (tXs X.K b [d1, d2])) (hzs : starEach [e1x, e2x] X.env = (false, eval e1x X.env) :: starEach [e2x] X.env) (hzp : (backTo zpos (starEach [e2x] X.env)).any (·.1) = false)
    (hst : starEach [.Call (.Name "zip" zp) [e1x, e2x] [] zpos] X.env = [(false, eval (.Call (.Name "zip" zp) [e1x, e2x] [] zpos) X.env)]) (hst2 : starEach [.Call (.Name "zip" zp) [e1x, e2x] [] zpos] X.env = (false, eval (.Call (.Name "zip" zp) [e1x, e2x] [] zpos) X.env) :: starEach [] X.env) :
    PI X (.Tuple elts kk tpos) (.Call (.Name "enumerate" p) [.Call (.Name "zip" zp) [e1x, e2x] [] zpos] [] pos) (iD X.K b (Dt X.K) (iEnZ d1 d2)) :=
  (pi_enZr hgE hmE (pa_cons (pe_zipV hgz hmz hz hzs hzp) pa_nil hst2) hst).of fun σ H R ⟨G, io, F, env, zs, env', hb, h1, S, k⟩ => by
    unfold iEnZ at h1
    split at h1
    · rename_i xs ys e1 h2
      simp only [Option.some.injEq, Prod.mk.injEq] at h1
      obtain ⟨rfl, rfl⟩ := h1
      refine tXs_at hb h2 S fun vs F' H' sm S' hv => ?_
      cases hv with
      | cons v1 r1 =>
        cases r1 with
        | cons v2 r2 =>
          cases r2
          obtain ⟨a, us, rfl, g1, g2⟩ := Dq.lstI v1
          obtain ⟨c, ws, rfl, g3, g4⟩ := Dq.lstI v2
          exact ⟨a, c, us, ws, wkL, wkL, Itz X.K a c, rfl, .inl ⟨rfl, rfl, rfl, .inl (rdSame S'.fh g1), .inl (rdSame S'.fh g3)⟩, fun z TI TO i1 i2 Dz N => ⟨z, TI, TO, i1, i2, a, c, H', us, ws, rfl, rfl, Dz, N, .inl (rdSame S'.fh g1), .inl (rdSame S'.fh g3), k _ F' H' sm S' (steps_ez g1 g2 g3 g4)⟩⟩
    · cases h1
end
end L2
set_option Elab.async false
set_option autoImplicit false
set_option linter.all false
set_option maxRecDepth 100000
set_option maxHeartbeats 2000001
namespace L2
open PyProof.Rows PySem PySem.Spec
section
variable {X : Cx} {b : Bool} {o e : Expr} {ob : Opd} {pos p1 p2 p3 p : Pos} {k j a : Nat} {lw : Option Expr} {tl : TO} {lo : Option Int}
end
end L2
set_option Elab.async false
set_option autoImplicit false
set_option linter.all false
set_option maxRecDepth 100000
set_option maxHeartbeats 2000001
namespace L2
open PyProof.Rows PySem PySem.Spec
section
variable
      {X : Cx} {pins : List (Addr × Obj)} {σ : L2.St} {H : Hp} {s : Shared}
end
section
variable
      {P : Program} {w : World} {K : PySem.W.Frag} {tg : Expr} {d : Addr} {o : Obj} {es : Array DictEntry} {ep : Nat}
end
section
variable {X : Cx} {b : Bool} {e tg : Expr} {d : DE} {td : TE}
end
end L2
set_option Elab.async false
set_option autoImplicit false
set_option linter.all false
set_option maxRecDepth 100000
set_option maxHeartbeats 2000001
namespace L2
open PyProof.Rows PySem PySem.Spec
section
variable {X : Cx}
end
end L2
set_option Elab.async false
set_option autoImplicit false
set_option linter.all false
set_option maxRecDepth 100000
set_option maxHeartbeats 1000001
namespace L2
open PyProof.Rows PySem PySem.Spec
section
variable {X : Cx} {b : Bool} {o : Expr} {i : Nat} {apos cpos : Pos}
end
section
variable {X : Cx} {b : Bool} {d dk : DE} {o ix e : Expr} {i : Nat} {pos pos' : Pos}
end
end L2
set_option Elab.async false
set_option autoImplicit false
set_option linter.all false
set_option maxRecDepth 100000
set_option maxHeartbeats 1000001
namespace L2
open PyProof.Rows PySem PySem.Spec
section
variable {X : Cx}
end
end L2
set_option Elab.async false
set_option autoImplicit false
set_option linter.all false
set_option maxRecDepth 100000
set_option maxHeartbeats 2000001
namespace L2
open PyProof.Rows PySem PySem.Spec
section
variable {X : Cx} {b : Bool} {e : Expr} {d : DE} {p p2 q pos : Pos}
end
end L2
set_option Elab.async false
set_option autoImplicit false
set_option linter.all false
set_option maxRecDepth 100000
set_option maxHeartbeats 2000001
namespace L2
open PyProof.Rows PySem PySem.Spec
section
variable {X : Cx} {A : Around} {E : Value → Shared → Prop} {prog : Program} {w : World} {s : Shared}
end
end L2
set_option Elab.async false
set_option autoImplicit false
set_option linter.all false
set_option maxRecDepth 100000
set_option maxHeartbeats 2000001
namespace L2
open PyProof.Rows PySem PySem.Spec
section
variable {X : Cx} {b : Bool} {o e : Expr} {es : List Expr} {d : DE} {ds : List DE} {m : MD} {apos cpos : Pos} {name id : String} {r : V → List V → Hp → VK → Prop}
end
end L2
set_option Elab.async false
set_option autoImplicit false
set_option linter.all false
set_option maxRecDepth 100000
set_option maxHeartbeats 2000001
namespace L2
open PyProof.Rows PySem PySem.Spec
section
variable
      {prog : Program} {w : World} {A : Around} {E : Value → Shared → Prop} {s : Shared} {l : Addr} {its : List Value} {ns : List Int} {Q : Value → Shared → Prop}
end
section
variable {X : Cx}
end
end L2
set_option Elab.async false
set_option autoImplicit false
set_option linter.all false
set_option maxRecDepth 100000
set_option maxHeartbeats 1000001
namespace L2
open PyProof.Rows PySem PySem.Spec
section
variable {X : Cx} {b : Bool} {gs : List DG} {vs : List Nat} {pos : Pos}
end
end L2
set_option Elab.async false
set_option autoImplicit false
set_option linter.all false
set_option maxRecDepth 100000
set_option maxHeartbeats 2000001
namespace L2
open PyProof.Rows PySem PySem.Spec
section
variable {X : Cx}
variable {b : Bool} {o e : Expr} {es : List Expr} {i : Nat} {ds : List DE} {apos cpos : Pos}
end
section
variable {K : PySem.W.Frag} {G F H : Hp} {io : Option Addr} {env : Slots} {σ : L2.St}
end
section
variable {X : Cx} {b : Bool} {e elt iter tg : Expr} {d c t : DE} {g : DG} {ws : List Nat} {own : List (Str × Nat)} {s : DI} {W : Hp → V → D → Prop} {i : Nat} {scope : Scope} {pos : Pos}
end
section
variable {X : Cx} {b : Bool} {e : Expr} {d : DE} {i : Nat}
end
end L2
set_option Elab.async false
set_option autoImplicit false
set_option linter.all false
set_option maxRecDepth 100000
set_option maxHeartbeats 2000001
namespace L2
open PyProof.Rows PySem PySem.Spec
section
variable {X : Cx}
end
end L2
set_option Elab.async false
set_option autoImplicit false
set_option linter.all false
set_option maxRecDepth 100000
set_option maxHeartbeats 2000001
namespace L2
open PyProof.Rows PySem PySem.Spec
section
variable
      {X : Cx} {pins : List (Addr × Obj)} {σ : L2.St} {H : Hp} {s : Shared}
end
section
variable {X : Cx} {b : Bool} {e : Expr} {d : DE} {p p2 q pos : Pos}
end
end L2
set_option Elab.async false
set_option autoImplicit false
set_option linter.all false
set_option maxRecDepth 100000
set_option maxHeartbeats 2000001
namespace L2
open PyProof.Rows PySem PySem.Spec
section
variable {K : PySem.W.Frag} {F H : Hp} {k : Int} {v : V} {y : D}
end
section
variable {X : Cx} {pins : List (Addr × Obj)} {σ : L2.St} {H : Hp} {s : Shared} {F : Hp} {b : Bool}
end
section
variable {X : Cx} {b : Bool} {i : Nat} {d : DE} {pos : Pos}
end
section
variable {K : PySem.W.Frag} {G F H : Hp} {io : Option Addr} {env : Slots} {σ : L2.St}
end
section
variable {X : Cx} {b : Bool} {e tg : Expr} {i : Nat}
end
end L2
set_option Elab.async false
set_option autoImplicit false
set_option linter.all false
set_option maxRecDepth 100000
set_option maxHeartbeats 2000001
namespace L2
open PyProof.Rows PySem PySem.Spec
section
variable {X : Cx}
variable {b : Bool} {o e : Expr} {es : List Expr} {i : Nat} {ds : List DE} {apos cpos : Pos}
end
end L2
set_option Elab.async false
set_option autoImplicit false
set_option linter.all false
set_option maxRecDepth 100000
set_option maxHeartbeats 2000001
namespace L2
open PyProof.Rows PySem PySem.Spec
theorem paired_mem {α β : Type} {P : α → β → Prop} : ∀ {l : List α} {m : List β} {x : α}, Paired P l m → x ∈ l → ∃ y, P x y
  | _, _, _, .nil, h => absurd h List.not_mem_nil
  | _, _, x, .cons r t, h => by
    rcases
          List.mem_cons.mp h with rfl | h
    · exact ⟨_, r⟩
    · exact paired_mem t h
section
variable {K : PySem.W.Frag} {b : Bool} {σ : L2.St} {io : Option Addr}
end
section
variable {K : PySem.W.Frag} {G F H : Hp} {env : Slots} {σ : L2.St} {io : Option Addr}
theorem Sim.void {i : Nat} (S : Sim K G io env σ F H) (h0 : i ≠ 0 ∨ io = none) (v : V) : Sim K G io (env.set i none) (σ.set i (some v)) F H where
  len := by rw [List.length_set, List.length_set]; exact S.len
  fh := S.fh
  gh := S.gh
  fg := S.fg
  sl := fun j t e => by
    by_cases hj : i = j
    · subst hj
      rw [List.getElem?_set] at e
      simp at e
    · rw [List.getElem?_set_ne hj] at e ⊢
      exact S.sl j t e
  sep := fun j k t u a e1 e2 m1 m2 e3 e4 => by
    have n1 : i ≠ j := fun z => by
      subst z
      rw [List.getElem?_set] at e1
      simp at e1
    have n2 : i ≠ k := fun z => by
      subst z
      rw [List.getElem?_set] at e2
      simp at e2
    rw [List.getElem?_set_ne n1] at e1 e3
    rw [List.getElem?_set_ne n2] at e2 e4
    exact S.sep j k t u a e1 e2 m1 m2 e3 e4
  at0 := fun a e => by
    rcases h0 with z | z
    · rw [List.getElem?_set_ne z]
      exact S.at0 a e
    · rw [z] at e
      cases e
  io0 := fun a e => by
    rcases h0 with z | z
    · rw [List.getElem?_set_ne z]
      exact S.io0 a e
    · rw [z] at e
      cases e
theorem Apart.void {i : Nat} {v w : V} {r : TV} (h : Apart env σ v r) : Apart (env.set i none) (σ.set i (some w)) v r := fun m j t e mt => by
  have n1 : i ≠ j := fun z => by
    subst z
    rw [List.getElem?_set] at e
    simp at e
  rw [List.getElem?_set_ne n1] at e ⊢
  exact h m j t e mt
end
section
variable {X : Cx} {b : Bool} {i j : Nat} {ds : List DE} {c : DE}
end
end L2
set_option Elab.async false
set_option autoImplicit false
set_option linter.all false
set_option maxRecDepth 100000
set_option maxHeartbeats 2000001
namespace L2
open PyProof.Rows PySem PySem.Spec
section
variable {X : Cx}
end
end L2
set_option Elab.async false
set_option autoImplicit false
set_option linter.all false
set_option maxRecDepth 100000
set_option maxHeartbeats 2000001
namespace L2
open PyProof.Rows PySem PySem.Spec RZ ItX
section
variable {X : Cx} {b : Bool} {e1x e2x : Expr} {d1 d2 : DE} {lp zp lpos zpos : Pos}
end
end L2
set_option Elab.async false
set_option autoImplicit false
set_option linter.all false
set_option maxRecDepth 100000
set_option
      maxHeartbeats 400000
namespace L2
open PyProof.Rows PySem PySem.Spec
def unf1 : Option HO → Option HO
  | some (.frz _ (.lst xs)) => some (.lst xs)
  | o => o
def unfL (H H' : Hp) : Hp := fun a => match H a with
  | some _ => H' a
  | none => unf1 (H' a)
theorem unf1_none {o : Option HO} (h : o = none) : unf1 o = none := by rw [h]; rfl
theorem unf1_some {o : Option HO} {u : HO} (h : o = some u) (n : ∀ ob xs, u ≠ .frz ob (.lst xs)) : unf1 o = some u := by
  rw [h]
  unfold unf1
  split
  · rename_i ob xs e
    cases e
    exact absurd rfl (n ob xs)
  · rfl
theorem unf1_inv {o : Option HO} {u : HO} (h : unf1 o = some u) : o = some u ∨ ∃ ob xs, o = some (.frz ob (.lst xs)) ∧ u = .lst xs := by
  unfold unf1 at h
  split at h
  · cases h
    exact .inr ⟨_, _, rfl, rfl⟩
  · exact .inl h
theorem unfL_some {H H' : Hp} {a : Addr} {u : HO} (h : H a = some u) : unfL H H' a = H' a := by
  unfold unfL
  rw [h]
theorem unfL_none {H H' : Hp} {a : Addr} (h : H a = none) : unfL H H' a = unf1 (H' a) := by
  unfold unfL
  rw [h]
theorem unfL_keep {H H' : Hp} {a : Addr} {u : HO} (h : H' a = some u) (n : ∀ ob xs, u ≠ .frz ob (.lst xs)) : unfL H H' a = some u := by
  cases e : H a with
  | some o => rw [unfL_some e]; exact h
  | none => rw [unfL_none e]; exact unf1_some h n
theorem ce_unf {P : Program} {w : World} {outer : List Env} {H : Hp} {s : Shared} {Q : VK} {u : Value} {s' : Shared} (h : CE outer P w H s (fun v H' => Q v (unfL H H')) u s') : CE outer P w H s Q u s' := by
  obtain ⟨v, H', e1, e2, un, ok, rv, q⟩ := h
  have back : ∀ {a : Addr} {o : HO}, unfL H H' a = some o → H' a = some o ∨ ∃ ob xs, H' a = some (.frz ob (.lst xs)) ∧ o = .lst xs := by
    intro a o e
    cases z : H a with
    | some o' => rw [unfL_some z] at e; exact .inl e
    | none => rw [unfL_none z] at e; exact unf1_inv e
  refine ⟨v, unfL H H', e1, e2, ⟨un.keep, un.slot, fun b o g n hx => ?_, un.there, fun b xs g => unfL_keep (un.tups b xs g) (fun _ _ z => nomatch z), fun b o x g => ?_, fun b ps g => ?_⟩, fun a o e => ?_, rv, q⟩
  · rw [unfL_none n]
    exact unf1_none (un.free b o g n hx)
  · rw [unfL_some g]
    exact un.frzs b o x g
  · obtain ⟨more, g2⟩ := un.tbls b ps g
    exact ⟨more, unfL_keep g2 fun _ _ z => nomatch z⟩
  · have st : ∀ {u : HO}, ObjOk P w H' s'.heap a u → ObjOk P w (unfL H H') s'.heap a u := fun x => x.stay (fun _ _ _ z => z) (fun b z => unfL_keep z fun _ _ y => nomatch y) fun b xs z => unfL_keep z fun _ _ y => nomatch y
    rcases back e with g | ⟨ob, xs, g, rfl⟩
    · exact st (ok a o g)
    · exact st (ok a _ g).2
def spU (sp : Sp) : Sp := fun vs H Q E => sp vs H (fun v H' => Q v (unfL H H')) E
theorem fnG_unf {P : Program} {w : World} {K : PySem.W.Frag} {mg : Str → Option Value} {base : Heap} {k : Nat} {f : Addr} {fd : FuncData} {ps : List Str} {sp : Sp} (F : FnG P w K mg base k f fd ps sp) : FnG P w K mg base k f fd ps (spU sp) where
  len := fun vs H Q h => F.len vs H _ h
  run := fun A outer s H args us vs Q hr hgd e0 bd rv h => codeAny_mono (F.run A outer s H args us vs _ hr hgd e0 bd rv h) fun r s' hq => by
    rcases r with e | fl
    · exact hq
    · cases fl with
      | ret u => exact ce_unf hq
      | next => exact hq
      | brk => exact hq
      | cont => exact hq

mutual
def lf : D → Bool
  | .none => true
  | .bool _ => true
  | .int _ => true
  | .str _ => true
  | .tuple ds => lfs ds
  | _ => false
def lfs : List D → Bool
  | [] => true
  | d :: ds => lf d && lfs ds
end
def isL (u : HO) : Prop := (∃ xs, u = .lst xs) ∨ ∃ ob xs, u = .frz ob (.lst xs)
theorem rd_isL {F : Hp} {a : Addr} {xs : List V} (h : Rd F a (.lst xs)) : ∃ u, F a = some u ∧ isL u := by
  rcases h with h | ⟨o, h⟩
  · exact ⟨_, h, .inl ⟨xs, rfl⟩⟩
  · exact ⟨_, h, .inr ⟨o, xs, rfl⟩⟩
section
variable {K : PySem.W.Frag} {F F2 : Hp}
theorem lfs_cons {d : D} {ds : List D} (l : lfs (d :: ds) = true) : lf d = true ∧ lfs ds = true := by
  simp only [lfs, Bool.and_eq_true] at l
  exact l
theorem nlT (h : ∀ a u, F a = some u → ¬ isL u → F2 a = some u) {a : Addr} {xs : List V} (hs : SqT K F a xs) : SqT K F2 a xs := by
  rcases hs with (z | ⟨o, z⟩) | z
  · exact .inl (.inl (h _ _ z (by rintro (⟨xs, q⟩ | ⟨ob, xs, q⟩) <;> cases q)))
  · exact .inl (.inr ⟨o, h _ _ z (by rintro (⟨xs, q⟩ | ⟨ob, xs, q⟩) <;> cases q)⟩)
  · exact .inr z
theorem nlB (h : ∀ a u, F a = some u → ¬ isL u → F2 a = some u) {a : Addr} (hb : Bare K F a) : Bare K F2 a := by
  rcases hb with ⟨o, xs, z, d⟩ | z
  · exact .inl ⟨o, xs, h _ _ z (by rintro (⟨xs, q⟩ | ⟨ob, xs, q⟩) <;> cases q), d⟩
  · exact .inr z
theorem dqCut (h : ∀ a u, F a = some u → ¬ isL u → F2 a = some u) {v : V} {d : D} (hl : lf d = true) (hd : Dq K F v d) : Dq K F2 v d :=
  Dq.rec (motive_1 := fun v d _ => lf d = true → Dq K F2 v d) (motive_2 := fun vs ds _ => lfs ds = true → DqAll K F2 vs ds)
    (fun _ => .non) (fun b _ => .bl b) (fun i _ => .int i) (fun x _ => .str x)
    (fun _ _ _ l => absurd l (by simp only [lf]; exact Bool.false_ne_true))
    (fun {a xs ds} hs hb ha ih l => .tup (nlT h hs) (nlB h hb) (ih (by simpa only [lf] using l)))
    (fun _ l => absurd l (by simp only [lf]; exact Bool.false_ne_true))
    (fun _ l => absurd l (by simp only [lf]; exact Bool.false_ne_true))
    (fun _ _ l => absurd l (by simp only [lf]; exact Bool.false_ne_true))
    (fun _ _ _ _ _ l => absurd l (by simp only [lf]; exact Bool.false_ne_true))
    (fun _ _ _ l => absurd l (by simp only [lf]; exact Bool.false_ne_true))
    (fun _ _ l => absurd l (by simp only [lf]; exact Bool.false_ne_true))
    (fun _ => .nil)
    (fun h1 h2 i1 i2 l => .cons (i1 (lfs_cons l).1) (i2 (lfs_cons l).2)) hd hl
theorem dqAllCut (h : ∀ a u, F a = some u → ¬ isL u → F2 a = some u) : ∀ {vs : List V} {ds : List D}, lfs ds = true → DqAll K F vs ds → DqAll K F2 vs ds
  | [], [], _, _ => .nil
  | [], _ :: _, _, h0 => by cases h0
  | _ :: _, [], _, h0 => by cases h0
  | v :: vs, d :: ds, l, h0 => by
    cases h0 with
    | cons h1 h2 => exact .cons (dqCut h (lfs_cons l).1 h1) (dqAllCut h (lfs_cons l).2 h2)
end

abbrev DO := Slots → Option (List (List D) × Slots)
def rowsL : List D → Option (List (List D))
  | [] => some []
  | .list xs :: r => if lfs xs = true ∧ xs.length ≤ 1000 then (rowsL r).map (xs :: ·) else none
  | _ => none
theorem rowsL_inv : ∀ {rs : List D} {xss : List (List D)}, rowsL rs = some xss → rs = xss.map PyData.list ∧ ∀ xs ∈ xss, lfs xs = true ∧ xs.length ≤ 1000
  | [], xss, h => by
    cases h
    exact ⟨rfl, fun xs h => absurd h List.not_mem_nil⟩
  | .list xs :: r, xss, h => by
    simp only [rowsL] at h
    split at h
    · rename_i hx
      cases e : rowsL r with
      | none =>
            rw [e] at h; cases h
      | some yss =>
        rw [e] at h
        cases h
        obtain ⟨h1, h2⟩ := rowsL_inv e
        exact ⟨by rw [h1]; rfl, fun ys hy => by
          rcases
                List.mem_cons.mp hy with rfl | hy
          · exact hx
          · exact h2 ys hy⟩
    · cases h
  | .none :: r, xss, h => by cases h
  | .bool _ :: r, xss, h => by cases h
  | .int _ :: r, xss, h => by cases h
  | .str _ :: r, xss, h => by cases h
  | .tuple _ :: r, xss, h => by cases h
  | .dict _ :: r, xss, h => by cases h
def RowP (K : PySem.W.Frag) (G F H : Hp) (env : Slots) (σ : L2.St) (p : Addr) (w : V) (xs : List D) : Prop := ∃ a ws, w = .ref a ∧ a ≠ p ∧ H a = some (.lst ws) ∧ F a = none ∧ G a = none ∧ Apart env σ (.ref a) (.own []) ∧ DqAll K F ws xs ∧ xs.length ≤ 1000
def Frs (K : PySem.W.Frag) (G F H : Hp) (env : Slots) (σ : L2.St) (v : V) (xss : List (List D)) : Prop := ∃ p us, v = .ref p ∧ H p = some (.lst us) ∧ F p = none ∧ G p = none ∧ Apart env σ (.ref p) (.own []) ∧ Paired (RowP K G F H env σ p) us xss ∧ xss.length ≤ 1000
section
variable (K : PySem.W.Frag) (b : Bool)
def tOw (d : DO) : TE := fun σ H Q => ∃ (G : Hp) (io : Option Addr) (F : Hp) (env : Slots) (xss : List (List D)) (env' : Slots), (b = false → io = none) ∧ d env = some (xss, env') ∧ Sim K G io env σ F H ∧
  ∀ (v : V) (F' H' : Hp), Same F F' → Sim K G io env' σ F' H' → Frs K G F' H' env' σ v xss → Q v H'
def tOg (d : DO) : TE := fun σ H Q => ∃ (G : Hp) (io : Option Addr) (F : Hp) (env : Slots) (xss : List (List D)) (env' : Slots), (b = false → io = none) ∧ d env = some (xss, env') ∧ Sim K G io env σ F H ∧
  ∀ (F' H' : Hp) (p : Addr) (us : List V), Same F F' → Sim K G io env' σ F' H' → H' p = some (.lst us) → TVR K G F' H' (.ref p) (.own (xss.map PyData.list)) → Apart env' σ (.ref p) (.own []) → (∀ w ∈ us, ∃ a ws, w = .ref a ∧ F a = none ∧ F' a = some (.lst ws)) → Q (.ref p) H'
end
section
variable {K : PySem.W.Frag} {G F H : Hp} {io : Option Addr} {env : Slots} {σ : L2.St} {b : Bool}
theorem paired_of {K : PySem.W.Frag} {Fq : Hp} {R : V → List D → Prop} : ∀ {us : List V} {xss : List (List D)}, DqAll K Fq us (xss.map PyData.list) → (∀ w xs, w ∈ us → xs ∈ xss → Dq K Fq w (.list xs) → R w xs) → Paired R us xss
  | [], [], _, _ => .nil
  |
        [], _ :: _, h, _ => by cases h
  | w :: us, [], h, _ => by cases h
  | w :: us, xs :: xss, h, k => by
    simp only [List.map_cons] at h
    cases h with
    | cons h1 h2 => exact .cons (k w xs List.mem_cons_self List.mem_cons_self h1) (paired_of h2 fun w' xs' m1 m2 => k w' xs' (List.mem_cons_of_mem _ m1) (List.mem_cons_of_mem _ m2))
theorem own_apart {a : Addr} (S : Sim K G io env σ F H) (h : gOwn G none env σ H a = none) : Apart env σ (.ref a) (.own []) := fun _ i t e m q => by
  rw [gOwn_of (by intro z; cases z) e m q] at h
  obtain ⟨v, e1, tv⟩ := S.sl i _ e
  obtain ⟨c, u, rfl, k1, _⟩ := tv.mutI m
  rw [q] at e1
  cases e1
  rw [h] at k1
  cases k1
theorem mkFrs {F1 H1 Fz Fq H' : Hp} {p : Addr} {us : List V} {xss : List (List D)} (S : Sim K G io env σ F1 H1) (s1 : Same F1 Fz) (s2 : Same Fz H') (s3 : Same (gOwn G none env σ H1) H') (s4 : ∀ a, Fz a = none ∨ gOwn G none env σ H1 a = none)
    (hp : H' p = some (.lst us)) (fp : Fz p = none) (gp : gOwn G none env σ H1 p = none) (qp : Fq p = none) (hd : DqAll K Fq us (xss.map PyData.list))
    (hr : ∀ a vs, V.ref a ∈ us → Rd Fq a (.lst vs) → H' a = some (.lst vs) ∧ Fz a = none ∧ gOwn G none env σ H1 a = none) (nl : ∀ a u, Fq a = some u → ¬ isL u → Fz a = some u)
    (ok : ∀ xs ∈ xss, lfs xs = true ∧ xs.length ≤ 1000) (hl : xss.length ≤ 1000) : Sim K G io env σ Fz H' ∧ Frs K G Fz H' env σ (.ref p) xss := by
  refine ⟨S.back s1 s2 s3 s4, p, us, rfl, hp, fp, (gOwn_up S).free gp, own_apart S gp, paired_of hd fun w xs hw hx hq => ?_, hl⟩
  cases hq with
  | @lst a vs _ r q =>
    obtain ⟨g1, g2, g3⟩ := hr a vs hw r
    refine ⟨a, vs, rfl, fun z => ?_, g1, g2, (gOwn_up S).free g3, own_apart S g3, dqAllCut nl (ok xs hx).1 q, (ok xs hx).2⟩
    obtain ⟨u, h1, _⟩ := rd_isL r
    rw [z, qp] at h1
    cases h1
end
end L2
set_option Elab.async false
set_option autoImplicit false
set_option linter.all false
set_option maxRecDepth 100000
set_option
      maxHeartbeats 400000
namespace L2
open PyProof.Rows PySem PySem.Spec
def argsOf (pm : Option (List Nat)) (xs : List D) : List D := match pm with
  | none => xs
  | some p => prm p xs
def shortL (o : Option (List (List D))) : Option (List (List D)) := match o with
  | some xss => if xss.length ≤ 1000 then some xss else none
  | none => none
def calM (f : FD) : List D → Option (List (List D)) := fun xs => match f none xs with
  | some (.own rs, [.none]) => shortL (rowsL rs)
  | _ => none
def calF (f : FD) : List D → Option (List (List D)) := fun xs => if lfs xs = true then (match f none xs with
  | some (.own rs, _) => shortL (rowsL rs)
  | _ => none) else none
def dCallO (cal : List D → Option (List (List D))) (pm : Option (List Nat)) (ds : List DE) : DO := fun e => match evx ds e with
  | some (xs, e1) => match cal (argsOf pm xs) with
    | some xss => some (xss, e1)
    | none => none
  | none => none
def CalOk (K : PySem.W.Frag) (np : Nat) (sp : Sp) (cal : List D → Option (List (List D))) : Prop :=
  ∀ {G F H : Hp} {io : Option Addr} {env : Slots} {σ : L2.St} {vs : List V} {xs : List D} {xss : List (List D)} {Q : VK}, cal xs = some xss → vs.length = np → Sim K G io env σ F H → DqAll K F vs xs →
    (∀ (v : V) (F' H' : Hp), Same F F' → Sim K G io env σ F' H' → Frs K G F' H' env σ v xss → Q v H') → sp vs H Q E0
theorem shortL_inv {o : Option (List (List D))} {xss : List (List D)} (h : shortL o = some xss) : o = some xss ∧ xss.length ≤ 1000 := by
  unfold shortL at h
  split at h
  · split at h
    · cases h
      exact ⟨rfl, by assumption⟩
    · cases h
  · cases h
section
variable {K : PySem.W.Frag} {np : Nat} {f : FD}
open Classical in
theorem calM_ok : CalOk K np (spF K false np f) (calM f) := by
  intro G F H io env σ vs xs xss Q hc hl S hs k
  unfold calM at hc
  split at hc
  · rename_i rs hf
    obtain ⟨hr, hn⟩ := shortL_inv hc
    obtain ⟨rfl, ok⟩ := rowsL_inv hr
    refine ⟨hl, gOwn G none env σ H, F, xs, _, _, hf, S.fh, gOwn_sub S, gOwn_fg S, hs, fun v F' H' s1 s2 s3 s4 hv fq => ?_⟩
    obtain ⟨p, us, yss, rfl, hp, e, rows⟩ := fq rfl
    obtain ⟨p', us', e', h1, h2, h3, h4⟩ := hv
    cases e'
    rw [hp] at h1
    cases h1
    let Fz : Hp := fun a => if V.ref a ∈ us then none else F' a
    have fz : ∀ a, Fz a = none ∨ Fz a = F' a := fun a => by
      by_cases q : V.ref a ∈ us
      · exact .inl (if_pos q)
      · exact .inr (if_neg q)
    have nr : ∀ a, V.ref a ∈ us → F a = none ∧ ∃ ws, F' a = some (.lst ws) := fun a q => by
      obtain ⟨c, ws, ec, g1, g2⟩ := rows _ q
      cases ec
      exact ⟨g1, ws, g2⟩
    have r := mkFrs (Fz := Fz) (Fq := F') (H' := H') (p := p) (us := us) (xss := xss) S (fun a u q => by
        have n1 : V.ref a ∉ us := fun z => by rw [(nr a z).1] at q; cases q
        show (if V.ref a ∈ us then none else F' a) = some u
        rw [if_neg n1]
        exact s1 a u q) (fun a u q => by
        rcases fz a with z | z
        · rw [z] at q; cases q
        · rw [z] at q; exact s2 a u q) s3 (fun a => by
        rcases fz a with z | z
        · exact .inl z
        · rw [z]; exact s4 a) hp (by
        rcases fz p with z | z
        · exact z
        · rw [z]; exact h2) h3 h2 h4 (fun a ws q rd => by
        obtain ⟨ws', g⟩ := (nr a q).2
        have e2 : F' a = some (.lst ws) := by
          rcases rd with z | ⟨o, z⟩
          · exact z
          · rw [g] at z; cases z
        refine ⟨s2 a _ e2, if_pos q, ?_⟩
        rcases s4 a with z | z
        · rw [e2] at z; cases z
        · exact z) (fun a u q nl => by
        have n1 : V.ref a ∉ us := fun z => by
          obtain ⟨ws', g⟩ := (nr a z).2
          rw [g] at q
          cases q
          exact nl (.inl ⟨_, rfl⟩)
        show (if V.ref a ∈ us then none else F' a) = some u
        rw [if_neg n1]
        exact q) ok hn
    exact k _ Fz H' (fun a u q => by
        have n1 : V.ref a ∉ us := fun z => by rw [(nr a z).1] at q; cases q
        show (if V.ref a ∈ us then none else F' a) = some u
        rw [if_neg n1]
        exact s1 a u q) r.1 r.2
  · cases hc
open Classical in
theorem calF_ok : CalOk K np (spU (spF K false np f)) (calF f) := by
  intro G F H io env σ vs xs xss Q hc hl S hs k
  unfold calF at hc
  split at hc
  · rename_i hlf
    split at hc
    · rename_i rs zs hf
      obtain ⟨hr, hn⟩ := shortL_inv hc
      obtain ⟨rfl, ok⟩ := rowsL_inv hr
      let Fc : Hp := fun a => match F a with
        | some u => if isL u then none else some u
        | none => none
      let Gc : Hp := fun a => match Fc a with
        | some _ => none
        | none => H a
      have fc : ∀ a u, Fc a = some u → F a = some u ∧ ¬ isL u := fun a u q => by
        change (match F a with | some u => if isL u then none else some u | none => none) = some u at q
        split at q
        · rename_i u' e
          split at q
          · cases q
          · rename_i nl
            cases q
            exact ⟨e, nl⟩
        · cases q
      have cf : ∀ a u, F a = some u → ¬ isL u → Fc a = some u := fun a u q nl => by
        show (match F a with | some u => if isL u then none else some u | none => none) = some u
        rw [q]
        exact if_neg nl
      have gc : ∀ a, Fc a = none → Gc a = H a := fun a q => by
        show (match Fc a with | some _ => none | none => H a) = H a
        rw [q]
      have gn : ∀ a, Gc a = none → (∃ u, Fc a = some u) ∨ H a = none := fun a q => by
        cases e : Fc a with
        | some u => exact .inl ⟨u, rfl⟩
        | none => rw [gc a e] at q; exact .inr q
      have sfc : Same Fc H := fun a u q => S.fh a u (fc a u q).1
      refine ⟨hl, Gc, Fc, xs, _, _, hf, sfc, fun a u q => ?_, fun a => ?_, dqAllCut cf hlf hs, fun v F' H' s1 s2 s3 s4 hv _ => ?_⟩
      · cases e : Fc a with
        | some u' =>
          change (match Fc a with | some _ => none | none => H a) = some u at q
          rw [e] at q
          cases q
        | none => rw [gc a e] at q; exact q
      · cases e : Fc a with
        | none => exact .inl rfl
        | some u =>
          right
          show (match Fc a with | some _ => none | none => H a) = none
          rw [e]
      obtain ⟨p, us, rfl, h1, h2, h3, h4⟩ := hv
      -- what was there before is as it was
      have old : ∀ a u, H a = some u → F a = some u ∨ gOwn G none env σ H a = some u → H' a = some u := fun a u q w => by
        cases e : Fc a with
        | some u' =>
          have q2 := s2 a _ (s1 a _ e)
          rw [q2, ← sfc a _ e, q]
        | none => exact s3 a u (by rw [gc a e]; exact q)
      have hp1 : H p = none := by
        rcases gn p h3 with ⟨u, q⟩ | q
        · rw [s1 p u q] at h2; cases h2
        · exact q
      have ff : ∀ a, H a = none → F a = none := fun a q => none_sub S.fh q
      have gg : ∀ a, H a = none → gOwn G none env σ H a = none := fun a q => none_sub (gOwn_sub S) q
      let Fz : Hp := fun a => if H a = none then (if V.ref a ∈ us then none else unf1 (F' a)) else F a
      have z1 : ∀ a, H a ≠ none → Fz a = F a := fun a q => if_neg q
      have z2 : ∀ a, H a = none → V.ref a ∈ us → Fz a = none := fun a q m => by
        show (if H a = none then (if V.ref a ∈ us then none else unf1 (F' a)) else F a) = none
        rw [if_pos q, if_pos m]
      have z3 : ∀ a, H a = none → V.ref a ∉ us → Fz a = unf1 (F' a) := fun a q m => by
        show (if H a = none then (if V.ref a ∈ us then none else unf1 (F' a)) else F a) = unf1 (F' a)
        rw [if_pos q, if_neg m]
      have s1z : Same F Fz := fun a u q => by
        rw [z1 a (by rw [S.fh a u q]; intro z; cases z)]
        exact q
      have lis : ∀ a vs, V.ref a ∈ us → Rd F' a (.lst vs) → H a = none := fun a vs _ rd => by
        obtain ⟨u, q, il⟩ := rd_isL rd
        rcases s4 a with z | z
        · rw [q] at z; cases z
        · rcases gn a z with ⟨u', y⟩ | y
          · have w := s1 a u' y
            rw [q] at w
            cases w
            exact absurd il (fc a u y).2
          · exact y
      have r := mkFrs (Fz := Fz) (Fq := F') (H' := unfL H H') (p := p) (us := us) (xss := xss) S s1z (fun a u q => by
          by_cases hn : H a = none
          · by_cases m : V.ref a ∈ us
            · rw [z2 a hn m] at q; cases q
            · rw [z3 a hn m] at q
              rw [unfL_none hn]
              cases e : F' a with
              | none => rw [e] at q; cases q
              | some o => rw [s2 a o e, ← e]; exact q
          · rw [z1 a hn] at q
            rw [unfL_some (S.fh a u q)]
            exact old a u (S.fh a u q) (.inl q)) (fun a u q => by
          have hq := gOwn_sub S a u q
          rw [unfL_some hq]
          exact old a u hq (.inr q)) (fun a => by
          by_cases hn : H a = none
          · exact .inr (gg a hn)
          · rw [z1 a hn]
            exact gOwn_fg S a) (unfL_keep h1 fun _ _ z => nomatch z) (by
          by_cases m : V.ref p ∈ us
          · exact z2 p hp1 m
          · rw [z3 p hp1 m, h2]; rfl) (gg p hp1) h2 h4 (fun a ws m rd => by
          have hn := lis a ws m rd
          refine ⟨?_, z2 a hn m, gg a hn⟩
          rw [unfL_none hn]
          rcases rd with z | ⟨o, z⟩
          · rw [s2 a _ z]; rfl
          · rw [s2 a _ z]; rfl) (fun a u q nl => by
          by_cases hn : H a = none
          · have m : V.ref a ∉ us := fun m => by
              exact absurd m (by
                intro m
                obtain ⟨i, hi, e⟩ := List.getElem_of_mem m
                obtain ⟨d, hd, dq⟩ := DqAll.getV h4 (show us[i]? = some (.ref a) by rw [List.getElem?_eq_getElem hi, e])
                rw [List.getElem?_map] at hd
                cases e2 : xss[i]? with
                | none => rw [e2] at hd; cases hd
                | some xs =>
                  rw [e2] at hd
                  cases hd
                  cases dq with
                  | lst rd _ =>
                    obtain ⟨u', q', il⟩ := rd_isL rd
                    rw [q] at q'
                    cases q'
                    exact nl il)
            rw [z3 a hn m]
            exact unf1_some q fun ob ys z => nl (.inr ⟨ob, ys, z⟩)
          · rcases s4 a with z | z
            · rw [q] at z; cases z
            · rcases gn a z with ⟨u', y⟩ | y
              · rw [z1 a hn]
                have w := s1 a u' y
                rw [q] at w
                cases w
                exact (fc a u y).1
              · exact absurd y hn) ok hn
      exact k _ Fz (unfL H H') s1z r.1 r.2
    · cases hc
  · cases hc
end
section
variable {X : Cx} {b : Bool} {e : Expr} {np : Nat} {pm : List Nat} {ds : List DE} {sp : Sp} {cal : List D → Option (List (List D))}
theorem pe_dcallO (hc : CalOk X.K np sp cal) (h : PE X e (tCall sp [] E0 (tXs X.K b ds))) (hn : ds.length = np) : PE X e (tOw X.K b (dCallO cal none ds)) := h.of fun σ H Q ⟨G, io, F, env, xss, env', hb, h1, S, k⟩ => by
  unfold dCallO at h1
  split at h1
  · rename_i xs e1 h2
    split at h1
    · rename_i yss h3
      simp only [Option.some.injEq, Prod.mk.injEq] at h1
      obtain ⟨rfl, rfl⟩ := h1
      refine tXs_at hb h2 S fun vs F' H' sm S' hs => ?_
      rw [List.append_nil]
      refine hc h3 ?_ S' hs fun v F2 H2 sm2 S2 fr => k v F2 H2 (sm.trans sm2) S2 fr
      rw [DqAll.len hs, ← evx_len h2]
      exact hn
    · cases h1
  · cases h1
end
section
variable {K : PySem.W.Frag} {G F H : Hp} {io : Option Addr} {env : Slots} {σ : L2.St} {b : Bool}
theorem Sim.staysS (B : Addr → Prop) (S : Sim K G io env σ F H) (hB : ∀ a, B a → F a = none ∧ G a = none ∧ Apart env σ (.ref a) (.own [])) : ∃ F2 : Hp, (∀ a, B a → F2 a = H a) ∧ (∀ a, ¬ B a → F2 a = F a) ∧ Same F F2 ∧ Sim K G io env σ F2 H := by
  classical
  let F2 : Hp := fun a => if B a then H a else F a
  have y : ∀ a, B a → F2 a = H a := fun a h => if_pos h
  have n : ∀ a, ¬ B a → F2 a = F a := fun a h => if_neg h
  have sm : Same F F2 := fun a u q => by
    rw [n a fun z => by rw [(hB a z).1] at q; cases q]
    exact q
  refine ⟨F2, y, n, sm, S.len, fun a u q => ?_, S.gh, fun a => ?_, fun i t e => ?_, S.sep, S.at0, S.io0⟩
  · by_cases h : B a
    · rw [y a h] at q
      exact q
    · rw [n a h] at q
      exact S.fh a u q
  · by_cases h : B a
    · exact .inr (hB a h).2.1
    · rw [n a h]
      exact S.fg a
  · obtain ⟨v, e1, hv⟩ := S.sl i t e
    refine ⟨v, e1, ?_⟩
    rcases hv.split with ⟨y, rfl, hv⟩ | ⟨m, c, us, rfl, g1, g2, g3, g4⟩
    · exact Dq.to hv sm
    · refine .mutE g1 ?_ g3 (g4.to sm)
      rw [n c fun z => (hB c z).2.2 rfl i t e m e1]
      exact g2
theorem paired_l {α β : Type} {P : α → β → Prop} : ∀ {l : List α} {m : List β}, Paired P l m → l.length = m.length
  | _, _, .nil => rfl
  | _, _, .cons _ t => by rw [List.length_cons, List.length_cons, paired_l t]
theorem tOg_of {d : DO} {Q : VK} (h : tOg K b d σ H Q) : tOw K b d σ H Q := by
  classical
  obtain ⟨G, io, F, env, xss, env', hb, h1, S, k⟩ := h
  refine ⟨G, io, F, env, xss, env', hb, h1, S, fun v F' H' sm S' fr => ?_⟩
  obtain ⟨p, us, rfl, hp, fp, gp, ap, pr, hl⟩ := fr
  have row : ∀ w ∈ us, ∃ xs, RowP K G F' H' env' σ p w xs := fun w hw => paired_mem pr hw
  have hB : ∀ a, V.ref a ∈ us → F' a = none ∧ G a = none ∧ Apart env' σ (.ref a) (.own []) := fun a hw => by
    obtain ⟨xs, c, ws, ec, q1, q2, q3, q4, q5, _⟩ := row _ hw
    cases ec
    exact ⟨q3, q4, q5⟩
  obtain ⟨F2, y, n, sm2, S2⟩ := S'.staysS (fun a => V.ref a ∈ us) hB
  have np : V.ref p ∉ us := fun hw => by
    obtain ⟨xs, c, ws, ec, q1, _⟩ := row _ hw
    cases ec
    exact q1 rfl
  have dq : ∀ {us' : List V} {yss : List (List D)}, (∀ w ∈ us', w ∈ us) → Paired (RowP K G F' H' env' σ p) us' yss → DqAll K F2 us' (yss.map PyData.list) := by
    intro us' yss hs pr
    induction pr with
    | nil => exact .nil
    | cons r t ih =>
      obtain ⟨c, ws, rfl, q1, q2, q3, q4, q5, q6, _⟩ := r
      exact .cons (.lst (.of (by rw [y c (hs _ List.mem_cons_self)]; exact q2)) (DqAll.to q6 sm2)) (ih fun w hw => hs w (List.mem_cons_of_mem _ hw))
  refine k F2 H' p us (sm.trans sm2) S2 hp ⟨p, us, rfl, hp, by rw [n p np]; exact fp, gp, dq (fun _ h => h) pr⟩ ap fun w hw => ?_
  obtain ⟨xs, c, ws, rfl, q1, q2, q3, q4, q5, _⟩ := row w hw
  exact ⟨c, ws, rfl, none_sub (fun a u q => sm a u q) q3, by rw [y c hw]; exact q2⟩
end
theorem pe_og {X : Cx} {b : Bool} {e : Expr} {d : DO} (h : PE X e (tOw X.K b d)) : PE X e (tOg X.K b d) := h.of fun _ _ _ q => tOg_of q
def dFnO (n : Nat) (pre : List DS) (d : DO) : FD := fun io ds => match io with
  | none => match dSeq pre (ent n ds) with
    | some (.nx, e1) => match d e1 with
      | some (xss, _) => some (.own (xss.map PyData.list), [.none])
      | none => none
    | _ => none
  | some _ => none
def tSO (K : PySem.W.Frag) (pre : List DS) (d : DO) : TS := fun U σ H => ∃ (G F : Hp) (env : Slots) (e1 : Slots) (xss : List (List D)) (e2 : Slots), dSeq pre env = some (.nx, e1) ∧ d e1 = some (xss, e2) ∧ Sim K G none env σ F H ∧
  ∀ (σ' : L2.St) (F' H' : Hp) (p : Addr) (us : List V), Same F F' → Sim K G none e2 σ' F' H' → H' p = some (.lst us) → TVR K G F' H' (.ref p) (.own (xss.map PyData.list)) → (∀ w ∈ us, ∃ a ws, w = .ref a ∧ F a = none ∧ F' a = some (.lst ws)) → U.rt (.ref p) H'
section
variable {X : Cx} {e : Expr} {d : DO} {st : Stmt} {sts : List Stmt} {s : DS} {ss : List DS} {pos : Pos}
theorem pssO_one (h : PE X e (tOg X.K false d)) : PSs X [.Return (some e) pos] (tSO X.K [] d) := (pss_one (ps_ret h)).of fun U σ H ⟨G, F, env, e1, xss, e2, h1, h2, S, k⟩ => by
  simp only [dSeq, Option.some.injEq, Prod.mk.injEq] at h1
  obtain ⟨_, rfl⟩ := h1
  exact ⟨G, none, F, env, xss, e2, fun _ => rfl, h2, S, fun F' H' p us sm S' hp tv ap rows => k σ F' H' p us sm S' hp tv rows⟩
theorem bodyO_ok {K : PySem.W.Frag} {N : List Str} {np : Nat} {pre : List DS} {vs : List V} {Q : VK} {H : Hp} (hN : np ≤ N.length) (h : spF K false np (dFnO N.length pre d) vs H Q E0) : tSO K pre d { nx := fun _ H' => Q .non H', rt := Q } (start N vs) H := by
  obtain ⟨hl, G, F, ds, r, zs, hf, s1, s2, s3, hd, k⟩ := h
  have S := sim0 (N := N) s1 s2 s3 hd
  simp only [dFnO] at hf
  split at hf
  · rename_i e1 h1
    split at hf
    · rename_i xss e2 h2
      simp only [Option.some.injEq, Prod.mk.injEq] at hf
      obtain ⟨rfl, rfl⟩ := hf
      exact ⟨G, F, _, e1, xss, e2, h1, h2, S, fun σ' F' H' p us sm S' hp tv rows => k _ F' H' sm S'.fh S'.gh S'.fg tv fun _ => ⟨p, us, xss, rfl, hp, rfl, rows⟩⟩
    · cases hf
  · cases hf
end
end L2
set_option Elab.async false
set_option autoImplicit false
set_option linter.all false
set_option maxRecDepth 100000
set_option maxHeartbeats 1000001
namespace L2
open PyProof.Rows PySem PySem.Spec
def NwR (F0 F : Hp) (us : List V) : Prop := ∀ w ∈ us, ∃ a ws, w = .ref a ∧ F0 a = none ∧ F a = some (.lst ws)
theorem NwR.nil {F0 F : Hp} : NwR F0 F [] := fun _ h => absurd h List.not_mem_nil
theorem NwR.to {F0 F F' : Hp} {us : List V} (h : NwR F0 F us) (s : Same F F') : NwR F0 F' us := fun w hw => by
  obtain ⟨a, ws, e, h1, h2⟩ := h w hw
  exact ⟨a, ws, e, h1, s a _ h2⟩
section
variable {K : PySem.W.Frag} {G F H : Hp} {io : Option Addr} {env env' : Slots} {σ : L2.St} {b : Bool}
end
section
variable {X : Cx} {b : Bool} {elt tg iter : Expr} {scope : Scope} {own : List (Str × Nat)} {pos : Pos} {W : Hp → V → D → Prop} {s : DI} {g : DG} {ws : List Nat} {c t : DE}
end
end L2
set_option Elab.async false
set_option autoImplicit false
set_option linter.all false
set_option maxRecDepth 100000
set_option maxHeartbeats 1000001
namespace L2
open PyProof.Rows PySem PySem.Spec
def FrsX (K : PySem.W.Frag) (G F H : Hp) (env : Slots) (σ : L2.St) (p : Addr) (us : List V) (xss : List (List D)) : Prop := H p = some (.lst us) ∧ F p = none ∧ G p = none ∧ Apart env σ (.ref p) (.own []) ∧ Paired (RowP K G F H env σ p) us xss ∧ xss.length ≤ 1000
def InB (p : Addr) (us : List V) (a : Addr) : Prop := a = p ∨ V.ref a ∈ us
section
variable {K : PySem.W.Frag} {G F H : Hp} {io : Option Addr} {env : Slots} {σ : L2.St} {p : Addr} {us : List V} {xss : List (List D)}
theorem FrsX.inB (h : FrsX K G F H env σ p us xss) {a : Addr} (m : InB p us a) : F a = none ∧ G a = none ∧ Apart env σ (.ref a) (.own []) ∧ ∃ ws, H a = some (.lst ws) := by
  obtain ⟨h1, h2, h3, h4, h5, h6⟩ := h
  rcases m with rfl | m
  · exact ⟨h2, h3, h4, us, h1⟩
  · obtain ⟨xs, c, ws, e, q1, q2, q3, q4, q5, q6, q7⟩ := paired_mem h5 m
    cases e
    exact ⟨q3, q4, q5, ws, q2⟩
theorem FrsX.move {G2 F2 H2 : Hp} {env2 : Slots} {σ2 : L2.St} (h : FrsX K G F H env σ p us xss) (hm : ∀ a, InB p us a → H2 a = H a ∧ F2 a = none ∧ G2 a = none ∧ Apart env2 σ2 (.ref a) (.own [])) (hd : ∀ {ws : List V} {xs : List D}, DqAll K F ws xs → DqAll K F2 ws xs) : FrsX K G2 F2 H2 env2 σ2 p us xss := by
  obtain ⟨h1, h2, h3, h4, h5, h6⟩ := h
  obtain ⟨g1, g2, g3, g4⟩ := hm p (.inl rfl)
  refine ⟨g1.trans h1, g2, g3, g4, ?_, h6⟩
  have key : ∀ {us' : List V} {yss : List (List D)}, (∀ w ∈ us', w ∈ us) → Paired (RowP K G F H env σ p) us' yss → Paired (RowP K G2 F2 H2 env2 σ2 p) us' yss := by
    intro us' yss hs pr
    induction pr with
    | nil => exact .nil
    | cons r t ih =>
      obtain ⟨c, ws, rfl, q1, q2, q3, q4, q5, q6, q7⟩ := r
      obtain ⟨k1, k2, k3, k4⟩ := hm c (.inr (hs _ List.mem_cons_self))
      exact .cons ⟨c, ws, rfl, q1, k1.trans q2, k2, k3, k4, hd q6, q7⟩ (ih fun w hw => hs w (List.mem_cons_of_mem _ hw))
  exact key (fun _ z => z) h5
theorem Apart.plain {v : V} {r : TV} (h : Apart env σ v (.own [])) : Apart env σ v r := fun _ i t e m => h rfl i t e m
theorem FrsX.hold (h : FrsX K G F H env σ p us xss) (S : Sim K G io env σ F H) : ∃ G' : Hp, Sim K G' io env σ F H ∧ Same G G' ∧ (∀ a, InB p us a → G' a ≠ none) ∧ ∀ (env2 : Slots) (σ2 : L2.St) (F2 H2 : Hp), Same F F2 → Sim K G' io env2 σ2 F2 H2 → Sim K G io env2 σ2 F2 H2 ∧ FrsX K G F2 H2 env2 σ2 p us xss := by
  classical
  let G' : Hp := fun a => if InB p us a then H a else G a
  have y : ∀ a, InB p us a → G' a = H a := fun a q => if_pos q
  have n : ∀ a, ¬ InB p us a → G' a = G a := fun a q => if_neg q
  have gg : Same G G' := fun a u q => by
    rw [n a fun z => by rw [(h.inB z).2.1] at q; cases q]
    exact q
  have nz : ∀ a, InB p us a → G' a ≠ none := fun a m => by
    obtain ⟨_, _, _, ws, q⟩ := h.inB m
    rw [y a m, q]
    intro z
    cases z
  refine ⟨G', ⟨S.len, S.fh, fun a u q => ?_, fun a => ?_, fun i t e => ?_, S.sep, S.at0, S.io0⟩, gg, nz, fun env2 σ2 F2 H2 sm S2 => ?_⟩
  · by_cases m : InB p us a
    · rw [y a m] at q
      exact q
    · rw [n a m] at q
      exact S.gh a u q
  · by_cases m : InB p us a
    · exact .inl (h.inB m).1
    · rw [n a m]
      exact S.fg a
  · obtain ⟨v, e1, hv⟩ := S.sl i t e
    refine ⟨v, e1, ?_⟩
    rcases hv.split with ⟨x, rfl, hv⟩ | ⟨mt, c, w, rfl, g1, g2, g3, g4⟩
    · exact hv
    · exact .mutE g1 g2 (by rw [n c fun z => (h.inB z).2.2.1 rfl i t e mt e1]; exact g3) g4
  · have S3 : Sim K G io env2 σ2 F2 H2 := ⟨S2.len, S2.fh, gg.trans S2.gh, fun a => (S2.fg a).imp id fun z => none_sub gg z, fun i t e => by
      obtain ⟨v, e1, hv⟩ := S2.sl i t e
      refine ⟨v, e1, ?_⟩
      rcases hv.split with ⟨x, rfl, hv⟩ | ⟨mt, c, w, rfl, g1, g2, g3, g4⟩
      · exact hv
      · exact .mutE g1 g2 (none_sub gg g3) g4, S2.sep, S2.at0, S2.io0⟩
    refine ⟨S3, h.move (fun a m => ⟨?_, ?_, (h.inB m).2.1, fun _ i t e mt q => ?_⟩) fun q => DqAll.to q sm⟩
    · obtain ⟨_, _, _, ws, q⟩ := h.inB m
      rw [q]
      exact S2.gh a _ (by rw [y a m]; exact q)
    · exact (S2.fg a).resolve_right (nz a m)
    · obtain ⟨v, e1, tv⟩ := S2.sl i _ e
      obtain ⟨c, w, rfl, k1, k2, k3, _⟩ := tv.mutI mt
      rw [q] at e1
      cases e1
      exact nz a m k3
theorem Sim.backC {e0 e2 e3 : Slots} {F5 H5 Fz : Hp} {i : Nat} (S : Sim K G io e0 σ F H) (S5 : Sim K G io e3 σ F5 H5) (s1 : Same F Fz) (s2 : Same Fz F5) (h : mrg e0 (e3.set i none) = some e2) (hi : e0[i]? = some none) (h0 : i ≠ 0 ∨ io = none) : Sim K G io e2 σ Fz H5 := by
  have get : ∀ (j : Nat) (t : TV), e2[j]? = some (some t) → (∃ x, t = .d x ∧ e0[j]? = some (some t)) ∨ ∃ zs ws, t = .own zs ∧ zs.all plainB = true ∧ e3[j]? = some (some t) ∧ e0[j]? = some (some (.own ws)) := fun j t q => by
    rcases mrg_get h q with ⟨x, q1, q2⟩ | ⟨zs, ws, q1, q2, q3, q4⟩
    · exact .inl ⟨x, q1, q2⟩
    · have n1 : i ≠ j := fun z => by
        subst z
        rw [hi] at q4
        cases q4
      rw [List.getElem?_set_ne n1] at q3
      exact .inr ⟨zs, ws, q1, q2, q3, q4⟩
  exact {
    len := by rw [mrg_len h]; exact S.len
    fh := fun c o q => S5.fh c o (s2 c o q)
    gh := S5.gh
    fg := fun a => (S5.fg a).imp (none_sub s2) id
    sl := fun j t q => by
      rcases get j t q with ⟨x, rfl, q2⟩ | ⟨zs, ws, rfl, q2, q3, q4⟩
      · obtain ⟨v, g1, g2⟩ := S.sl j _ q2
        exact ⟨v, g1, Dq.to g2 s1⟩
      · obtain ⟨w, g1, c, ys, rfl, g2, g3, g4, g5⟩ := S5.sl j _ q3
        exact ⟨_, g1, c, ys, rfl, g2, none_sub s2 g3, g4, flat_all q2 g5⟩
    sep := fun j l ys ws c q1 q2 m1 m2 q3 q4 => by
      have own : ∀ (m : Nat) (ts : TV), e2[m]? = some (some ts) → ts.mut = true → ∃ ts', e0[m]? = some (some (.own ts')) := fun m ts q mm => by
        rcases get m _ q with ⟨x, z, _⟩ | ⟨_, ws', _, _, _, q4⟩
        · subst z
          cases mm
        · exact ⟨ws', q4⟩
      obtain ⟨t1, w1⟩ := own j ys q1 m1
      obtain ⟨t2, w2⟩ := own l ws q2 m2
      exact S.sep j l _ _ c w1 w2 rfl rfl q3 q4
    at0 := S.at0
    io0 := fun c q => by
      rcases h0 with h0 | h0
      · obtain ⟨ys, w1⟩ := S5.io0 c q
        obtain ⟨zs, w2⟩ := S.io0 c q
        refine ⟨ys, ?_⟩
        exact mrg_own h w2 (by rw [List.getElem?_set_ne h0]; exact w1)
      · rw [h0] at q
        cases q }
theorem list_set_same {α : Type} {l : List α} {i : Nat} {x : α} (h : l[i]? = some x) : l.set i x = l := by
  apply List.ext_getElem?
  intro j
  by_cases hj : i = j
  · subst hj
    rw [List.getElem?_set_self (List.getElem?_eq_some_iff.mp h).1, h]
  · rw [List.getElem?_set_ne hj]
theorem FrsX.frz {i : Nat} (h : FrsX K G F H env σ p us xss) (S : Sim K G io env σ F H) (hi : env[i]? = some none) (hs : σ[i]? = some (some (.ref p))) (h0 : i ≠ 0 ∨ io = none) :
    ∃ F2, (∀ a, InB p us a → F2 a = H a) ∧ (∀ a, ¬ InB p us a → F2 a = F a) ∧ Same F F2 ∧ Sim K G io (env.set i (some (.d (.list (xss.map PyData.list))))) σ F2 H := by
  obtain ⟨F2, y, n, sm, S2⟩ := S.staysS (InB p us) fun a m => ⟨(h.inB m).1, (h.inB m).2.1, (h.inB m).2.2.1⟩
  obtain ⟨h1, h2, h3, h4, h5, h6⟩ := h
  have dq : ∀ {us' : List V} {yss : List (List D)}, (∀ w ∈ us', w ∈ us) → Paired (RowP K G F H env σ p) us' yss → DqAll K F2 us' (yss.map PyData.list) := by
    intro us' yss hs pr
    induction pr with
    | nil => exact .nil
    | cons r t ih =>
      obtain ⟨c, ws, rfl, q1, q2, q3, q4, q5, q6, _⟩ := r
      exact .cons (.lst (.of (by rw [y c (.inr (hs _ List.mem_cons_self))]; exact q2)) (DqAll.to q6 sm)) (ih fun w hw => hs w (List.mem_cons_of_mem _ hw))
  have d : Dq K F2 (.ref p) (.list (xss.map PyData.list)) := .lst (.of (by rw [y p (.inl rfl)]; exact h1)) (dq (fun _ z => z) h5)
  have S3 := S2.putD (i := i) (List.getElem?_eq_some_iff.mp hs).1 d h0
  rw [list_set_same hs] at S3
  exact ⟨F2, y, n, sm, S3⟩
theorem FrsX.look {i : Nat} {F2 F5 H5 : Hp} {e2 e3 : Slots} (h : FrsX K G F H env σ p us xss) (S : Sim K G io env σ F H) (hi : env[i]? = some none) (h0 : i ≠ 0 ∨ io = none) (y : ∀ a, InB p us a → F2 a = H a) (n : ∀ a, ¬ InB p us a → F2 a = F a)
    (sm5 : Same F2 F5) (S5 : Sim K G io e3 σ F5 H5) (hm : mrg env (e3.set i none) = some e2) : ∃ Fz, Same F Fz ∧ (∀ a u, F5 a = some u → ¬ isL u → Fz a = some u) ∧ Sim K G io e2 σ Fz H5 ∧ FrsX K G Fz H5 e2 σ p us xss := by
  classical
  let Fz : Hp := fun a => if InB p us a then none else F5 a
  have zy : ∀ a, InB p us a → Fz a = none := fun a q => if_pos q
  have zn : ∀ a, ¬ InB p us a → Fz a = F5 a := fun a q => if_neg q
  have keep : ∀ a, InB p us a → ∃ ws, F5 a = some (.lst ws) ∧ H a = some (.lst ws) := fun a m => by
    obtain ⟨_, _, _, ws, q⟩ := h.inB m
    exact ⟨ws, sm5 a _ (by rw [y a m]; exact q), q⟩
  have s1 : Same F Fz := fun a u q => by
    have m : ¬ InB p us a := fun z => by rw [(h.inB z).1] at q; cases q
    rw [zn a m]
    exact sm5 a u (by rw [n a m]; exact q)
  have s2 : Same Fz F5 := fun a u q => by
    by_cases m : InB p us a
    · rw [zy a m] at q
      cases q
    · rw [zn a m] at q
      exact q
  refine ⟨Fz, s1, fun a u q nl => ?_, S.backC S5 s1 s2 hm hi h0, h.move (fun a m => ?_) fun q => DqAll.to q s1⟩
  · rw [zn a fun m => by
      obtain ⟨ws, g, _⟩ := keep a m
      rw [g] at q
      cases q
      exact nl (.inl ⟨ws, rfl⟩)]
    exact q
  · obtain ⟨ws, g1, g2⟩ := keep a m
    refine ⟨by rw [g2]; exact S5.fh a _ g1, zy a m, (h.inB m).2.1, fun _ j t e mt q => ?_⟩
    rcases mrg_get hm e with ⟨x, rfl, _⟩ | ⟨zs, ws', rfl, _, _, q4⟩
    · cases mt
    · exact (h.inB m).2.2.1 rfl j _ q4 rfl q
end
section
variable {K : PySem.W.Frag} {G F H : Hp} {io : Option Addr} {env : Slots} {σ : L2.St} {p : Addr} {us : List V} {xss : List (List D)} {b : Bool} {i : Nat}
theorem look_tT {c : DE} {q : Bool} {e2 e3 : Slots} {Q : Bool → Hp → Prop} (hb : b = false → io = none) (h : FrsX K G F H env σ p us xss) (S : Sim K G io env σ F H) (hi : env[i]? = some none) (hs : σ[i]? = some (some (.ref p))) (h0 : i ≠ 0 ∨ io = none)
    (hc : asB (c (env.set i (some (.d (.list (xss.map PyData.list)))))) = some (q, e3)) (hm : mrg env (e3.set i none) = some e2)
    (k : ∀ Fz H5, Same F Fz → Sim K G io e2 σ Fz H5 → FrsX K G Fz H5 e2 σ p us xss → Q q H5) : tT K b c σ H Q := by
  obtain ⟨F2, y, n, sm, S3⟩ := h.frz S hi hs h0
  refine ⟨G, io, F2, _, q, e3, hb, hc, S3, fun F5 H5 sm5 S5 => ?_⟩
  obtain ⟨Fz, s1, _, S6, f6⟩ := h.look S hi h0 y n sm5 S5 hm
  exact k Fz H5 s1 S6 f6
theorem look_tE {c : DE} {x : D} {e2 e3 : Slots} {Q : VK} (hb : b = false → io = none) (h : FrsX K G F H env σ p us xss) (S : Sim K G io env σ F H) (hi : env[i]? = some none) (hs : σ[i]? = some (some (.ref p))) (h0 : i ≠ 0 ∨ io = none)
    (hc : c (env.set i (some (.d (.list (xss.map PyData.list))))) = some (.d x, e3)) (hx : lf x = true) (hm : mrg env (e3.set i none) = some e2)
    (k : ∀ v Fz H5, Same F Fz → Sim K G io e2 σ Fz H5 → FrsX K G Fz H5 e2 σ p us xss → Dq K Fz v x → Q v H5) : tE K b c σ H Q := by
  obtain ⟨F2, y, n, sm, S3⟩ := h.frz S hi hs h0
  refine ⟨G, io, F2, _, .d x, e3, hb, hc, S3, fun v F5 H5 sm5 S5 hv _ => ?_⟩
  obtain ⟨Fz, s1, nl, S6, f6⟩ := h.look S hi h0 y n sm5 S5 hm
  exact k v Fz H5 s1 S6 f6 (dqCut nl hx hv)
theorem poke0 {w : V} {tc : TE} {Q : VK} (h : FrsX K G F H env σ p us xss) (S : Sim K G io env σ F H) (hs : σ[i]? = some (some (.ref p))) (hn : xss ≠ []) (htc : ∀ {H' : Hp} {Q : VK}, Q w H' → tc σ H' Q)
    (k : ∀ H', Sim K G io env σ F H' → H' p = some (.lst us) → Q .non H') : tBM K "list" rAppend (tOp (rIxL K) (tVar i) (tC (.int 0))) (tCons tc tNil) σ H Q := by
  obtain ⟨h1, h2, h3, h4, h5, h6⟩ := h
  cases h5 with
  | nil => exact absurd rfl hn
  | @cons u xs us' xss' r t =>
    obtain ⟨c, ws, rfl, q1, q2, q3, q4, q5, q6, q7⟩ := r
    have l := DqAll.len q6
    have h9 := sizeLine_eq
    refine ⟨.ref p, hs, ?_⟩
    refine ⟨p, _, 0, .ref c, rfl, rfl, .inl (.inl h1), atI_nat (j := 0) rfl, tyv_list q2, ?_⟩
    refine htc ⟨c, ws, w, rfl, rfl, q2, by omega, ?_⟩
    exact k _ (S.poke q5 rfl q3 q4 _) (by rw [upd_ne (Ne.symm q1)]; exact h1)
end
end L2
set_option Elab.async false
set_option autoImplicit false
set_option linter.all false
set_option maxRecDepth 100000
set_option maxHeartbeats 1000001
namespace L2
open PyProof.Rows PySem PySem.Spec
inductive LS where
  | chk (c : DE)
  | asg (k : Nat) (d : DE)
def lsGo (i : Nat) (L : D) : List LS → Slots → Option (Bool × Slots)
  | [], e => some (false, e)
  | .chk c :: r, e => match asB (c (e.set i (some (.d L)))) with
    | some (q, e3) => match mrg e (e3.set i none) with
      | some e2 => if q = true then some (true, e2) else lsGo i L r e2
      | none => none
    | none => none
  | .asg k d :: r, e => match d (e.set i (some (.d L))) with
    | some (.d x, e3) => if lf x = true ∧ k ≠ i ∧ k ≠ 0 ∧ k < e.length then (match mrg e (e3.set i none) with
      | some e2 => lsGo i L r (e2.set k (some (.d x)))
      | none => none) else none
    | _ => none
def lsFor (i : Nat) (L : D) (j : Nat) (ms : List LS) : List D → Slots → Option (Bool × Slots)
  | [], e => some (false, e)
  | x :: xs, e => if j < e.length then (match lsGo i L ms (e.set j (some (.d x))) with
    | some (true, e2) => some (true, e2)
    | some (false, e2) => lsFor i L j ms xs e2
    | none => none) else none
def tLk (K : PySem.W.Frag) (b : Bool) : List LS → TS
  | [] => tNext
  | .chk c :: r => tSeq (tIfS (tT K b c) (tS K b (dSeq [sRet (dC (.bool false))])) tNext) (tLk K b r)
  | .asg k d :: r => tSeq (tAsg (tE K b d) (gName k)) (tLk K b r)
section
variable {K : PySem.W.Frag} {G F H : Hp} {io : Option Addr} {env : Slots} {σ : L2.St} {p : Addr} {us : List V} {xss : List (List D)} {b : Bool} {i : Nat}
theorem mrg_none {e e1 e2 : Slots} (hm : mrg e e1 = some e2) (hi : e[i]? = some none) : e2[i]? = some none := by
  have l := mrg_len hm
  have hl : i < e.length := (List.getElem?_eq_some_iff.mp hi).1
  have h2 : e2[i]? = some e2[i] := List.getElem?_eq_getElem (by omega)
  cases q : e2[i] with
  | none => rw [h2, q]
  | some t =>
    rw [q] at h2
    rcases mrg_get hm h2 with ⟨x, _, z⟩ | ⟨_, _, _, _, _, z⟩ <;> · rw [hi] at z; cases z
theorem FrsX.put {k : Nat} {v : V} {x : D} (h : FrsX K G F H env σ p us xss) : FrsX K G F H (env.set k (some (.d x))) (σ.set k (some v)) p us xss :=
  h.move (fun a m => ⟨rfl, (h.inB m).1, (h.inB m).2.1, fun _ j t e mt q => by
    by_cases hj : k = j
    · subst hj
      rw [List.getElem?_set] at e
      split at e
      · simp only [Option.ite_none_right_eq_some, Option.some.injEq] at e
        obtain ⟨_, rfl⟩ := e
        cases mt
      · simp_all
    · rw [List.getElem?_set_ne hj] at e q
      exact (h.inB m).2.2.1 rfl j t e mt q⟩) fun q => q
theorem ls_at {U : Ends} (hb : b = false → io = none) (h0 : i ≠ 0 ∨ io = none) : ∀ {ms : List LS} {F H : Hp} {env e' : Slots} {σ : L2.St} {q : Bool}, lsGo i (.list (xss.map PyData.list)) ms env = some (q, e') → Sim K G io env σ F H → FrsX K G F H env σ p us xss → env[i]? = some none → σ[i]? = some (some (.ref p)) →
    (∀ σ' F' H', Same F F' → q = false → Sim K G io e' σ' F' H' → FrsX K G F' H' e' σ' p us xss → e'[i]? = some none → σ'[i]? = some (some (.ref p)) → U.nx σ' H') →
    (∀ σ' F' H', Same F F' → q = true → Sim K G io e' σ' F' H' → flQ U K G F' H' e' σ' (.rt (.d (.bool false)))) → tLk K b ms U σ H
  | [], F, H, env, e', σ, q, h, S, fr, hi, hs, k1, k2 => by
    simp only [lsGo, Option.some.injEq, Prod.mk.injEq] at h
    obtain ⟨rfl, rfl⟩ := h
    exact k1 σ F H (Same.refl F) rfl S fr hi hs
  | .chk c :: r, F, H, env, e', σ, q, h, S, fr, hi, hs, k1, k2 => by
    simp only [lsGo] at h
    split at h
    · rename_i q1 e3 hc
      split at h
      · rename_i e2 hm
        refine look_tT hb fr S hi hs h0 hc hm fun Fz H5 sm S5 fr5 => ?_
        cases q1 with
        | true =>
          rw [if_pos rfl] at h
          simp only [Option.some.injEq, Prod.mk.injEq] at h
          obtain ⟨rfl, rfl⟩ := h
          exact ⟨G, io, Fz, e2, .rt (.d (.bool false)), e2, hb, rfl, S5, fun σ7 F7 H7 sm7 S7 => k2 σ7 F7 H7 (sm.trans sm7) rfl S7⟩
        | false =>
          rw
                [if_neg Bool.false_ne_true] at h
          exact ls_at hb h0 h S5 fr5 (mrg_none hm hi) hs (fun σ' F' H' s => k1 σ' F' H' (sm.trans s)) fun σ' F' H' s => k2 σ' F' H' (sm.trans s)
      · cases h
    · cases h
  | .asg k d :: r, F, H, env, e', σ, q, h, S, fr, hi, hs, k1, k2 => by
    simp only [lsGo] at h
    split at h
    · rename_i x e3 hc
      split at h
      · rename_i hx
        split at h
        · rename_i e2 hm
          refine look_tE hb fr S hi hs h0 hc hx.1 hm fun v Fz H5 sm S5 fr5 hv => ?_
          have hk : k < σ.length := by rw [← S.len]; exact hx.2.2.2
          have S6 := S5.putD (i := k) hk hv (.inl hx.2.2.1)
          refine ls_at hb h0 h S6 fr5.put ?_ ?_ (fun σ' F' H' s => k1 σ' F' H' (sm.trans s)) fun σ' F' H' s => k2 σ' F' H' (sm.trans s)
          · rw [List.getElem?_set_ne hx.2.1]
            exact mrg_none hm hi
          · rw [List.getElem?_set_ne hx.2.1]
            exact hs
        · cases h
      · cases h
    · cases h
theorem lsFor_at {W : Hp → V → D → Prop} {U : Ends} {di : DI} {j : Nat} {ms : List LS} {xs : List D} (hW : ∀ F v x, W F v x → Dq K F v x) (hdi : ∀ e, di e = some (xs, e)) (hb : b = false → io = none) (h0 : i ≠ 0 ∨ io = none) (hj : j ≠ 0 ∨ io = none) (hij : j ≠ i) {F H : Hp} {env e' : Slots} {σ : L2.St} {q : Bool}
    (h : lsFor i (.list (xss.map PyData.list)) j ms xs env = some (q, e')) (S : Sim K G io env σ F H) (fr : FrsX K G F H env σ p us xss) (hi : env[i]? = some none) (hs : σ[i]? = some (some (.ref p)))
    (k1 : ∀ σ' F' H', Same F F' → q = false → Sim K G io e' σ' F' H' → FrsX K G F' H' e' σ' p us xss → e'[i]? = some none → σ'[i]? = some (some (.ref p)) → U.nx σ' H')
    (k2 : ∀ σ' F' H', Same F F' → q = true → Sim K G io e' σ' F' H' → flQ U K G F' H' e' σ' (.rt (.d (.bool false)))) : tFor (iD K b W di) (gName j) (tLk K b ms) U σ H := by
  obtain ⟨G', SG, gg, nz, back⟩ := fr.hold S
  refine ⟨G', io, F, env, xs, env, hb, hdi env, SG, fun J F0 H0 sm0 S0 st => ?_⟩
  obtain ⟨S0', fr0⟩ := back _ _ _ _ sm0 S0
  refine ⟨fun n m σ1 H1 => ∃ F1 env1, Same F0 F1 ∧ Sim K G io env1 σ1 F1 H1 ∧ FrsX K G F1 H1 env1 σ1 p us xss ∧ env1[i]? = some none ∧ σ1[i]? = some (some (.ref p)) ∧ lsFor i (.list (xss.map PyData.list)) j ms (xs.drop n) env1 = some (q, e') ∧ m = xs.length - n ∧ n ≤ xs.length,
    ⟨xs.length, F0, env, Same.refl F0, S0', fr0, hi, hs, h, by simp, Nat.zero_le _⟩, ?_⟩
  rintro n m σ1 H1 ⟨F1, e2, sm, S1, fr1, hi1, hs1, h3, rfl, hn⟩
  by_cases hlt : n < xs.length
  · obtain ⟨x, hx, hd⟩ := drop_some hlt
    rw [hd] at h3
    simp only [lsFor] at h3
    split at h3
    · rename_i hl
      refine .inr ⟨st.go n x F1 H1 hx sm S1.fh, fun σ4 H4 => ∃ F4 env4, Same F0 F4 ∧ Sim K G io env4 σ4 F4 H4 ∧ FrsX K G F4 H4 env4 σ4 p us xss ∧ env4[i]? = some none ∧ σ4[i]? = some (some (.ref p)) ∧ lsFor i (.list (xss.map PyData.list)) j ms (xs.drop (n + 1)) env4 = some (q, e'), ?_, ?_⟩
      · rintro σ4 H4 ⟨F4, e4, q1, q2, q3, q4, q5, q6⟩
        exact ⟨xs.length - (n + 1), by omega, F4, e4, q1, q2, q3, q4, q5, q6, rfl, hlt⟩
      · intro v H2 hy
        obtain ⟨F2, x2, hv⟩ := st.yld n x F1 H1 v H2 hx sm S1.fh hy
        have S2 := S1.ext x2
        have fr2 : FrsX K G F2 H2 e2 σ1 p us xss := fr1.move (fun a ma => by
          obtain ⟨g1, g2, g3, ws, g4⟩ := fr1.inB ma
          exact ⟨by rw [g4]; exact x2.hh a _ g4, x2.new a g1 (by rw [g4]; intro z; cases z), g2, g3⟩) fun z => DqAll.to z x2.ff
        have hk : j < σ1.length := by rw [← S1.len]; exact hl
        have S3 := S2.putD (i := j) hk (hW _ _ _ hv) hj
        have hi3 : (e2.set j (some (.d x)))[i]? = some none := by rw [List.getElem?_set_ne hij]; exact hi1
        have hs3 : (σ1.set j (some v))[i]? = some (some (.ref p)) := by rw [List.getElem?_set_ne hij]; exact hs1
        split at h3
        · rename_i e5 h5
          simp only [Option.some.injEq, Prod.mk.injEq] at h3
          obtain ⟨rfl, rfl⟩ := h3
          exact ls_at (q := true) hb h0 h5 S3 fr2.put hi3 hs3 (fun _ _ _ _ z => nomatch z) fun σ' F' H' s _ S' => k2 σ' F' H' (sm0.trans ((sm.trans x2.ff).trans s)) rfl S'
        · rename_i e5 h5
          exact ls_at (q := false) hb h0 h5 S3 fr2.put hi3 hs3 (fun σ' F' H' s _ S' f' q1 q2 => ⟨F', e5, (sm.trans x2.ff).trans s, S', f', q1, q2, h3⟩) fun _ _ _ _ z => nomatch z
        · cases h3
    · cases h3
  · have en : n = xs.length := by omega
    subst en
    rw [List.drop_length] at h3
    simp only [lsFor, Option.some.injEq, Prod.mk.injEq] at h3
    obtain ⟨rfl, rfl⟩ := h3
    exact .inl ⟨st.stop _ F1 H1 rfl sm S1.fh, k1 σ1 F1 H1 (sm0.trans sm) rfl S1 fr1 hi1 hs1⟩
end
section
variable {X : Cx} {b : Bool} {i : Nat} {d : DO} {w : V}
theorem FrsX.void {K : PySem.W.Frag} {G F H : Hp} {env : Slots} {σ : L2.St} {p : Addr} {us : List V} {xss : List (List D)} {w : V} (h : FrsX K G F H env σ p us xss) : FrsX K G F H (env.set i none) (σ.set i (some w)) p us xss :=
  h.move (fun a m => ⟨rfl, (h.inB m).1, (h.inB m).2.1, (h.inB m).2.2.1.void⟩) fun q => q
theorem ne_nil {α : Type} {l : List α} (h : l.isEmpty = false) : l ≠ [] := by
  intro z
  rw [z] at h
  cases h
end
def sPokeB (i : Nat) (d : DO) (c0 : DE) (j : Nat) (xs : List D) (ms : List LS) : DS := fun e => match d e with
  | some (xss, e1) => if i < e1.length ∧ xss.isEmpty = false then (match lsGo i (.list (xss.map PyData.list)) [.chk c0] (e1.set i none) with
    | some (true, e2) => some (.rt (.d (.bool false)), e2)
    | some (false, e2) => match lsFor i (.list (xss.map PyData.list)) j ms xs e2 with
      | some (true, e3) => some (.rt (.d (.bool false)), e3)
      | some (false, e3) => some (.nx, e3)
      | none => none
    | none => none) else none
  | none => none
def tPokeB (X : Cx) (b : Bool) (i : Nat) (d : DO) (c0 : DE) (j : Nat) (W : Hp → V → D → Prop) (di : DI) (ms : List LS) (w : V) (u : TS) : TS :=
  tSeq (tAsg (tOw X.K b d) (gName i)) (tSeq (tIfS (tT X.K b c0) (tS X.K b (dSeq [sRet (dC (.bool false))])) tNext) (tSeq (tFor (iD X.K b W di) (gName j) (tLk X.K b ms))
    (tSeq (tDrop (tBM X.K "list" rAppend (tOp (rIxL X.K) (tVar i) (tC (.int 0))) (tCons (tC w) tNil))) (tSeq (tDrop (tBM X.K "list" rAppend (tVar i) (tCons (tLst tNil) tNil))) u))))
section
variable {X : Cx} {b : Bool} {i j : Nat} {d : DO} {w : V} {c0 : DE} {W : Hp → V → D → Prop} {di : DI} {xs : List D} {ms : List LS}
theorem sPokeB_inv {env e' : Slots} {fl : Fl} (h : sPokeB i d c0 j xs ms env = some (fl, e')) : ∃ xss e1, d env = some (xss, e1) ∧ i < e1.length ∧ xss ≠ [] ∧ ∃ q e2, lsGo i (.list (xss.map PyData.list)) [.chk c0] (e1.set i none) = some (q, e2) ∧
    ((q = true ∧ fl = .rt (.d (.bool false)) ∧ e' = e2) ∨ (q = false ∧ ∃ q2, lsFor i (.list (xss.map PyData.list)) j ms xs e2 = some (q2, e') ∧ ((q2 = true ∧ fl = .rt (.d (.bool false))) ∨ (q2 = false ∧ fl = .nx)))) := by
  unfold sPokeB at h
  split at h
  · rename_i xss e1 h1
    split at h
    · rename_i hz
      refine ⟨xss, e1, h1, hz.1, ne_nil hz.2, ?_⟩
      split at h
      · rename_i e2 h2
        cases h
        exact ⟨true, _, h2, .inl ⟨rfl, rfl, rfl⟩⟩
      · rename_i e2 h2
        refine ⟨false, e2, h2, .inr ⟨rfl, ?_⟩⟩
        split at h
        · rename_i e3 h3
          cases h
          exact ⟨true, h3, .inl ⟨rfl, rfl⟩⟩
        · rename_i e3 h3
          cases h
          exact ⟨false, h3, .inr ⟨rfl, rfl⟩⟩
        · cases h
      · cases h
    · cases h
  · cases h
theorem tyv_l {K : PySem.W.Frag} {H : Hp} {a : Addr} {us : List V} (h : H a = some (.lst us)) : tyV K "list" (.ref a) H := tyv_list h
theorem pokeB_core {G F H : Hp} {io : Option Addr} {env e' : Slots} {σ : L2.St} {fl : Fl} {u : TS} {U : Ends} (hW : ∀ F v x, W F v x → Dq X.K F v x) (hdi : ∀ e, di e = some (xs, e)) (h0 : i ≠ 0 ∨ b = false) (hj0 : j ≠ 0 ∨ b = false) (hij : j ≠ i) (hb : b = false → io = none) (h : sPokeB i d c0 j xs ms env = some (fl, e')) (S : Sim X.K G io env σ F H)
    (k : ∀ (σ' : L2.St) (F' H' : Hp), Same F F' → Sim X.K G io e' σ' F' H' → flQ { U with nx := u U } X.K G F' H' e' σ' fl) : tPokeB X b i d c0 j W di ms w u U σ H := by
  have i0 : i ≠ 0 ∨ io = none := h0.imp id hb
  have j0 : j ≠ 0 ∨ io = none := hj0.imp id hb
  obtain ⟨xss, e1, he, hz, hn, q, e2, hl, ends⟩ := sPokeB_inv h
  refine ⟨G, io, F, env, xss, e1, hb, he, S, fun v F' H' sm S' fr => ?_⟩
  obtain ⟨p, us, rfl, fx⟩ := fr
  have fx : FrsX X.K G F' H' e1 σ p us xss := fx
  have il : i < σ.length := by rw [← S'.len]; exact hz
  have Sv := S'.void (i := i) i0 (.ref p)
  have hi : (e1.set i none)[i]? = some none := List.getElem?_set_self hz
  have hs : (σ.set i (some (V.ref p)))[i]? = some (some (.ref p)) := List.getElem?_set_self il
  -- the first test
  simp only [lsGo] at hl
  cases hc : asB (c0 ((e1.set i none).set i (some (.d (.list (xss.map PyData.list)))))) with
  | none => rw [hc] at hl; cases hl
  | some r =>
    obtain ⟨q1, e3⟩ := r
    rw [hc] at hl
    dsimp only at hl
    cases hm : mrg (e1.set i none) (e3.set i none) with
    | none => rw [hm] at hl; cases hl
    | some e4 =>
      rw [hm] at hl
      dsimp only at hl
      refine look_tT hb fx.void Sv hi hs i0 hc hm fun Fz H5 smz S5 fr5 => ?_
      have sm1 := sm.trans smz
      cases q1 with
      | true =>
        rw [if_pos rfl] at hl
        simp only [Option.some.injEq, Prod.mk.injEq] at hl
        obtain ⟨rfl, rfl⟩ := hl
        rcases ends with ⟨_, rfl, rfl⟩ | ⟨z, _⟩
        · exact ⟨G, io, Fz, e', .rt (.d (.bool false)), e', hb, rfl, S5, fun σ7 F7 H7 sm7 S7 => k σ7 F7 H7 (sm1.trans sm7) S7⟩
        · cases z
      | false =>
        rw [if_neg Bool.false_ne_true] at hl
        simp only [Option.some.injEq, Prod.mk.injEq] at hl
        obtain ⟨rfl, rfl⟩ := hl
        rcases ends with ⟨z, _⟩ | ⟨_, q2, hf, ends⟩
        · cases z
        · refine lsFor_at (U := { U with nx := _ }) hW hdi hb i0 j0 hij hf S5 fr5 (mrg_none hm hi) hs (fun σ6 F6 H6 sm6 hq S6 fr6 hi6 hs6 => ?_) fun σ6 F6 H6 sm6 hq S6 => ?_
          · rcases ends with ⟨z, _⟩ | ⟨_, rfl⟩
            · rw [hq] at z; cases z
            · refine poke0 (i := i) fr6 S6 hs6 hn (fun z => z) fun H7 S7 hp7 => ?_
              have ll := fr6.2.2.2.2.2
              have lu := paired_l fr6.2.2.2.2.1
              have h9 := sizeLine_eq
              refine ⟨.ref p, hs6, tyv_l hp7, ?_⟩
              refine ⟨Nat.zero_le _, fun c hc7 => ?_⟩
              have x7 : Ext F6 H7 F6 (upd H7 c (.lst [])) := .lay S7.fh hc7
              have pc : p ≠ c := fun z => by rw [z, hc7] at hp7; cases hp7
              refine ⟨p, us, .ref c, rfl, rfl, by rw [upd_ne pc]; exact hp7, by omega, ?_⟩
              have S8 := (S7.ext x7).poke (p := p) (r := .own []) fr6.2.2.2.1 rfl fr6.2.1 fr6.2.2.1 (.lst (us ++ [.ref c]))
              exact k σ6 F6 _ (sm1.trans sm6) S8
          · rcases ends with ⟨_, rfl⟩ | ⟨z, _⟩
            · exact k σ6 F6 H6 (sm1.trans sm6) S6
            · rw [hq] at z; cases z
theorem pokeB_at (hW : ∀ F v x, W F v x → Dq X.K F v x) (hdi : ∀ e, di e = some (xs, e)) (h0 : i ≠ 0 ∨ b = false) (hj0 : j ≠ 0 ∨ b = false) (hij : j ≠ i) {ss : List DS} {U : Ends} {σ : L2.St} {H : Hp} (h : tS X.K b (dSeq (sPokeB i d c0 j xs ms :: ss)) U σ H) : tPokeB X b i d c0 j W di ms w (tS X.K b (dSeq ss)) U σ H := by
  obtain ⟨G, io, F, env, fl, env', hb, h2, S, k⟩ := h
  simp only [dSeq] at h2
  split at h2
  · rename_i e1 h3
    exact pokeB_core hW hdi h0 hj0 hij hb h3 S fun σ1 F1 H1 sm S1 => tS_at hb h2 S1 fun σ2 F2 H2 sm2 S2 => k σ2 F2 H2 (sm.trans sm2) S2
  · rename_i r hr
    refine pokeB_core hW hdi h0 hj0 hij hb h2 S fun σ1 F1 H1 sm S1 => ?_
    have q := k σ1 F1 H1 sm S1
    cases fl with
    | nx => exact absurd h2 (hr env')
    | rt r => exact q
    | bk => exact q
    | ct => exact q
theorem pss_pokeB {st1 st2 st3 st4 st5 : Stmt} {sts : List Stmt} {ss : List DS} (hW : ∀ F v x, W F v x → Dq X.K F v x) (hdi : ∀ e, di e = some (xs, e)) (h0 : i ≠ 0 ∨ b = false) (hj0 : j ≠ 0 ∨ b = false) (hij : j ≠ i)
    (p1 : PS X st1 (tAsg (tOw X.K b d) (gName i))) (p2 : PS X st2 (tIfS (tT X.K b c0) (tS X.K b (dSeq [sRet (dC (.bool false))])) tNext)) (p3 : PS X st3 (tFor (iD X.K b W di) (gName j) (tLk X.K b ms)))
    (p4 : PS X st4 (tDrop (tBM X.K "list" rAppend (tOp (rIxL X.K) (tVar i) (tC (.int 0))) (tCons (tC w) tNil)))) (p5 : PS X st5 (tDrop (tBM X.K "list" rAppend (tVar i) (tCons (tLst tNil) tNil))))
    (p6 : PSs X sts (tS X.K b (dSeq ss))) : PSs X (st1 :: st2 :: st3 :: st4 :: st5 :: sts) (tS X.K b (dSeq (sPokeB i d c0 j xs ms :: ss))) :=
  (pss_cons p1 (pss_cons p2 (pss_cons p3 (pss_cons p4 (pss_cons p5 p6))))).of fun U σ H h => pokeB_at hW hdi h0 hj0 hij h
end
end L2
set_option Elab.async false
set_option autoImplicit false
set_option linter.all false
set_option maxRecDepth 100000
set_option maxHeartbeats 1000001
namespace L2
open PyProof.Rows PySem PySem.Spec
section
variable {X : Cx} {tg l : Expr} {tl : TE}
end
section
variable {X : Cx} {b : Bool} {i : Nat} {y : Str} {d1 d2 : DE} {e1x e2x elt tg : Expr} {scope : Scope} {own : List (Str × Nat)} {py zp zcp sp np cp rp : Pos} {g : DG} {ws : List Nat} {c t : DE} {ifs : List Expr} {sts : List Stmt} {ss : List DS}
end
section
variable {X : Cx} {b : Bool} {e a : Expr} {es : List Expr} {j : Nat} {x : Str} {ps ks : List Str} {kb : FuncData → Prop} {f : FD} {np : Nat} {ds d2 : List DE} {p pos : Pos} {kws : List Keyword}
theorem fxM (F : Fx X.prog X.w X.K X.mg X.base j x ps kb (spF X.K false np f)) (hr : Room j X.A) (hgd : X.A.guards = some []) (hg : Gl X x) (ha : PA X (e :: es) (tXs X.K b ds)) (hn : ds.length = np) (hdb : (x == ("__debug__" : Str)) = false)
    (he : starEach (e :: es) X.env = (false, eval e X.env) :: starEach es X.env) (hpl : (backTo pos (starEach es X.env)).any (·.1) = false) : PE X (.Call (.Name x p) (e :: es) [] pos) (tOw X.K b (dCallO (calM f) none ds)) := by
  obtain ⟨fa, fd, h1, h2, h3, h4, _⟩ := F.ex
  exact pe_dcallO calM_ok (pe_callG h1 hr hgd hg h2 h3 h4 ha hdb he hpl) hn
theorem fxF (F : Fx X.prog X.w X.K X.mg X.base j x ps kb (spF X.K false np f)) (hr : Room j X.A) (hgd : X.A.guards = some []) (hg : Gl X x) (ha : PA X (e :: es) (tXs X.K b ds)) (hn : ds.length = np) (hdb : (x == ("__debug__" : Str)) = false)
    (he : starEach (e :: es) X.env = (false, eval e X.env) :: starEach es X.env) (hpl : (backTo pos (starEach es X.env)).any (·.1) = false) : PE X (.Call (.Name x p) (e :: es) [] pos) (tOw X.K b (dCallO (calF f) none ds)) := by
  obtain ⟨fa, fd, h1, h2, h3, h4, _⟩ := F.ex
  exact pe_dcallO calF_ok (pe_callG (fnG_unf h1) hr hgd hg h2 h3 h4 ha hdb he hpl) hn
end
end L2
set_option Elab.async false
set_option autoImplicit false
set_option linter.all false
set_option maxRecDepth 100000
set_option maxHeartbeats 2000001
namespace K25
open PySem L2 PySem.Spec PyProof.Rows
def top (i : Nat) : Stmt := PySem.Challenge.pw_lowerboards_k25_whole_corners_counted.main.body.getD i (.Pass ⟨0, 0, 0, 0⟩)
abbrev s_is_integer : Stmt := top 8
abbrev N_is_integer : List Str := ["value"]
abbrev P_is_integer : List Str := ["value"]
abbrev s_is_count : Stmt := top 9
abbrev N_is_count : List Str := ["value"]
abbrev P_is_count : List Str := ["value"]
abbrev s_is_list : Stmt := top 10
abbrev N_is_list : List Str := ["value"]
abbrev P_is_list : List Str := ["value"]
abbrev s_is_order : Stmt := top 11
abbrev N_is_order : List Str := ["value", "thing"]
abbrev P_is_order : List Str := ["value"]
abbrev s_want_order : Stmt := top 12
abbrev N_want_order : List Str := ["value"]
abbrev P_want_order : List Str := ["value"]
abbrev s_want_alike : Stmt := top 13
abbrev N_want_alike : List Str := ["order", "other"]
abbrev P_want_alike : List Str := ["order", "other"]
abbrev s_is_lower : Stmt := top 15
abbrev N_is_lower : List Str := ["order", "other", "near", "far", "thing", "against", "one", "two"]
abbrev P_is_lower : List Str := ["order", "other"]
abbrev s_want_two : Stmt := top 16
abbrev N_want_two : List Str := ["order", "other", "one", "two"]
abbrev P_want_two : List Str := ["order", "other"]
abbrev s_is_below : Stmt := top 17
abbrev N_is_below : List Str := ["order", "other", "one", "two"]
abbrev P_is_below : List Str := ["order", "other"]
abbrev s_is_corner : Stmt := top 19
abbrev N_is_corner : List Str := ["value", "size"]
abbrev P_is_corner : List Str := ["value", "size"]
abbrev s_want_corner : Stmt := top 20
abbrev N_want_corner : List Str := ["size", "value"]
abbrev P_want_corner : List Str := ["size", "value"]
abbrev s_count_of : Stmt := top 21
abbrev N_count_of : List Str := ["order", "corner", "places", "least", "thing"]
abbrev P_count_of : List Str := ["order", "corner"]
abbrev s_counted : Stmt := top 22
abbrev N_counted : List Str := ["order", "corner", "here"]
abbrev P_counted : List Str := ["order", "corner"]
abbrev s_table_of : Stmt := top 23
abbrev N_table_of : List Str := ["order", "found", "row", "thing", "at", "many"]
abbrev P_table_of : List Str := ["order"]
abbrev s_corner_table : Stmt := top 24
abbrev N_corner_table : List Str := ["order"]
abbrev P_corner_table : List Str := ["order"]
abbrev s_first_over : Stmt := top 25
abbrev N_first_over : List Str := ["order", "other", "place", "row", "against", "at", "many"]
abbrev P_first_over : List Str := ["order", "other"]
abbrev s_over : Stmt := top 26
abbrev N_over : List Str := ["order", "other", "one", "two"]
abbrev P_over : List Str := ["order", "other"]
abbrev s_L_pot : Stmt := top 28
abbrev N_L_pot : List Str := ["_law_script", "_law_k", "_law_cell"]
abbrev P_L_pot : List Str := ["_law_script", "_law_k"]
abbrev s_L_draw : Stmt := top 29
abbrev N_L_draw : List Str := ["_law_pot_here", "_law_many", "_law_digit"]
abbrev P_L_draw : List Str := ["_law_pot_here", "_law_many"]
abbrev s_L_pick : Stmt := top 30
abbrev N_L_pick : List Str := ["_law_pot_here", "_law_some"]
abbrev P_L_pick : List Str := ["_law_pot_here", "_law_some"]
abbrev s_L_mixed : Stmt := top 31
abbrev N_L_mixed : List Str := ["_law_pot_here", "_law_some", "_law_left", "_law_found", "_law_turn"]
abbrev P_L_mixed : List Str := ["_law_pot_here", "_law_some"]
abbrev s_L_order : Stmt := top 32
abbrev N_L_order : List Str := ["_law_pot_here", "_law_size", "_law_way"]
abbrev P_L_order : List Str := ["_law_pot_here", "_law_size"]
abbrev s_L_as : Stmt := top 33
abbrev N_L_as : List Str := ["_law_pot_here", "_law_order_here"]
abbrev P_L_as : List Str := ["_law_pot_here", "_law_order_here"]
abbrev s_L_moved : Stmt := top 34
abbrev N_L_moved : List Str := ["_law_order_here", "_law_first", "_law_second", "_law_found"]
abbrev P_L_moved : List Str := ["_law_order_here", "_law_first", "_law_second"]
abbrev s_L_wrong : Stmt := top 35
abbrev N_L_wrong : List Str := ["_law_order_here", "_law_many", "_law_found", "_law_near", "_law_far"]
abbrev P_L_wrong : List Str := ["_law_order_here"]
abbrev s_L_count : Stmt := top 36
abbrev N_L_count : List Str := ["_law_order_here", "_law_corner", "_law_thing"]
abbrev P_L_count : List Str := ["_law_order_here", "_law_corner"]
abbrev s_L_corners : Stmt := top 37
abbrev N_L_corners : List Str := ["_law_size", "_law_found", "_law_places", "_law_least"]
abbrev P_L_corners : List Str := ["_law_size"]
abbrev s_L_table : Stmt := top 38
abbrev N_L_table : List Str := ["_law_order_here", "_law_size", "_law_places", "_law_least"]
abbrev P_L_table : List Str := ["_law_order_here"]
abbrev s_L_over : Stmt := top 39
abbrev N_L_over : List Str := ["_law_one", "_law_two", "_law_more", "_law_corner"]
abbrev P_L_over : List Str := ["_law_one", "_law_two"]
abbrev s_L_table_right : Stmt := top 40
abbrev N_L_table_right : List Str := ["_law_pot_here", "_law_order_here", "_law_told", "_law_size", "_law_table_here", "_law_turn", "_law_corner", "_law_due", "_law_row"]
abbrev P_L_table_right : List Str := ["_law_pot_here", "_law_order_here"]
abbrev s_L_pair_right : Stmt := top 41
abbrev N_L_pair_right : List Str := ["_law_pot_here", "_law_one", "_law_two", "_law_due", "_law_told"]
abbrev P_L_pair_right : List Str := ["_law_pot_here", "_law_one", "_law_two"]
abbrev s_L_right : Stmt := top 42
abbrev N_L_right : List Str := ["_law_pot_here", "_law_size", "_law_one", "_law_two", "_law_nine", "_law_near", "_law_far"]
abbrev P_L_right : List Str := ["_law_pot_here"]
abbrev s_law : Stmt := top 43
abbrev N_law : List Str := ["_law_script", "_law_k"]
abbrev P_law : List Str := ["_law_script"]
structure Txt (K : PySem.W.Frag) (mg : Str → Option Value) : Prop where
  MOST_THINGS : ∃ t, mg "MOST_THINGS" = some (.int 9 t)
  b_abs : mg "abs" = none
  b_all : mg "all" = none
  b_any : mg "any" = none
  b_bool : mg "bool" = none
  b_divmod : mg "divmod" = none
  b_enumerate : mg "enumerate" = none
  b_int : mg "int" = none
  b_isinstance : mg "isinstance" = none
  b_len : mg "len" = none
  b_list : mg "list" = none
  b_max : mg "max" = none
  b_min : mg "min" = none
  b_range : mg "range" = none
  b_repr : mg "repr" = none
  b_sorted : mg "sorted" = none
  b_sum : mg "sum" = none
  b_tuple : mg "tuple" = none
  b_zip : mg "zip" = none
def kb_is_integer (fd : FuncData) : Prop := True
def kb_is_count (fd : FuncData) : Prop := True
def kb_is_list (fd : FuncData) : Prop := True
def kb_is_order (fd : FuncData) : Prop := True
def kb_want_order (fd : FuncData) : Prop := True
def kb_want_alike (fd : FuncData) : Prop := True
def kb_is_lower (fd : FuncData) : Prop := True
def kb_want_two (fd : FuncData) : Prop := True
def kb_is_below (fd : FuncData) : Prop := True
def kb_is_corner (fd : FuncData) : Prop := True
def kb_want_corner (fd : FuncData) : Prop := True
def kb_count_of (fd : FuncData) : Prop := True
def kb_counted (fd : FuncData) : Prop := BindK fd P_counted 0 ["corner", "order"] [1, 0]
def kb_table_of (fd : FuncData) : Prop := True
def kb_corner_table (fd : FuncData) : Prop := BindK fd P_corner_table 0 ["order"] [0]
def kb_first_over (fd : FuncData) : Prop := True
def kb_over (fd : FuncData) : Prop := BindK fd P_over 0 ["other", "order"] [1, 0]
def kb_L_pot (fd : FuncData) : Prop := True
def kb_L_draw (fd : FuncData) : Prop := True
def kb_L_pick (fd : FuncData) : Prop := True
def kb_L_mixed (fd : FuncData) : Prop := True
def kb_L_order (fd : FuncData) : Prop := True
def kb_L_as (fd : FuncData) : Prop := True
def kb_L_moved (fd : FuncData) : Prop := True
def kb_L_wrong (fd : FuncData) : Prop := True
def kb_L_count (fd : FuncData) : Prop := True
def kb_L_corners (fd : FuncData) : Prop := True
def kb_L_table (fd : FuncData) : Prop := True
def kb_L_over (fd : FuncData) : Prop := True
def kb_L_table_right (fd : FuncData) : Prop := True
def kb_L_pair_right (fd : FuncData) : Prop := True
def kb_L_right (fd : FuncData) : Prop := True
def d_is_integer : FD := dFn 1 (dSeq [sRet (dAnd (dPrim (pIsi [.int]) [.bor 0]) (dNot (dPrim (pIsi [.bool]) [.bor 0])))])
def d_is_count : FD := dFn 1 (dSeq [sRet (dAnd (dCall d_is_integer none [dVar 0]) (dPrim pGe [.bor 0, .ex (dC (.int 0))]))])
def d_is_list : FD := dFn 1 (dSeq [sRet (dPrim (pIsi [.list, .tuple]) [.bor 0])])
def d_is_order : FD := dFn 2 (dSeq [sIf (dOr (dNot (dCall d_is_list none [dVar 0])) (dOr (dNot (dChain pLe pLe (dC (.int 1)) (dPrim pLen [.bor 0]) (dC (.int 9)))) (dNot (dPrim pAll [.ex (frz (dLc (iSeq (dVar 0)) (gNm 1) [1] (dYes) (frz (dCall d_is_integer none [dVar 1]))))])))) (dSeq [sRet (dC (.bool false))]) (dSeq []),
 sRet (dPrim pEq [.ex (frz (dPrim pSorted [.bor 0])), .ex (frz (dLRg [.ex (dC (.int 1)), .ex (frz (dPrim pAdd [.ex (dPrim pLen [.bor 0]), .ex (dC (.int 1))]))]))])])
def d_want_order : FD := dFn 1 (dSeq [sIf (dNot (dCall d_is_order none [dVar 0])) (dSeq [sStuck]) (dSeq []),
 sRet (dPrim pTuple [.bor 0])])
def d_want_alike : FD := dFn 2 (dSeq [sIf (dPrim pNe [.ex (dPrim pLen [.bor 0]), .ex (dPrim pLen [.bor 1])]) (dSeq [sStuck]) (dSeq [])])
abbrev b1_is_lower : DS := dSeq [sParO 2 3 (dPrim pSorted [.ex (frz (dPrim pAdd [.bor 2, .ex (frz (dLst [dVar 4]))]))]) (dPrim pSorted [.ex (frz (dPrim pAdd [.bor 3, .ex (frz (dLst [dVar 5]))]))]),
 sIf (dPrim pAny [.ex (frz (dLc (iZp (dVar 2) (dVar 3)) (gTp [gNm 6, gNm 7]) [6, 7] (dYes) (dPrim pGt [.bor 6, .bor 7])))]) (dSeq [sRet (dC (.bool false))]) (dSeq [])]
def d_is_lower : FD := dFn 8 (dSeq [sParO 2 3 (dLst []) (dLst []),
 sFor (iZp (dVar 0) (dVar 1)) (gTp [gNm 4, gNm 5]) (b1_is_lower),
 sRet (dC (.bool true))])
def d_want_two : FD := dFn 4 (dSeq [sParO 2 3 (dCall d_want_order none [dVar 0]) (dCall d_want_order none [dVar 1]),
 sDrop (dCall d_want_alike none [dVar 2, dVar 3]),
 sRet (dTup [dVar 2, dVar 3])])
def d_is_below : FD := dFn 4 (dSeq [sAsg (frz (dCall d_want_two none [dVar 0, dVar 1])) (gTp [gNm 2, gNm 3]),
 sRet (dCall d_is_lower none [dVar 2, dVar 3])])
def d_is_corner : FD := dFn 2 (dSeq [sIf (dOr (dNot (dPrim (pIsi [.tuple]) [.bor 0])) (dOr (dPrim pNe [.ex (dPrim pLen [.bor 0]), .ex (dC (.int 2))]) (dOr (dNot (dCall d_is_count none [dPrim pIx [.bor 0, .ex (dC (.int 0))]])) (dNot (dCall d_is_count none [dPrim pIx [.bor 0, .ex (dC (.int 1))]]))))) (dSeq [sRet (dC (.bool false))]) (dSeq []),
 sRet (dAnd (dChain pLe pLe (dC (.int 1)) (dPrim pIx [.bor 0, .ex (dC (.int 0))]) (dVar 1)) (dChain pLe pLe (dC (.int 1)) (dPrim pIx [.bor 0, .ex (dC (.int 1))]) (dVar 1)))])
def d_want_corner : FD := dFn 2 (dSeq [sIf (dNot (dCall d_is_corner none [dVar 1, dVar 0])) (dSeq [sStuck]) (dSeq [])])
def d_count_of : FD := dFn 5 (dSeq [sAsg (dVar 1) (gTp [gNm 2, gNm 3]),
 sRet (dPrim pLen [.ex (frz (dLc (iSeq (frz (dSlice (.bor 0) none (some (dVar 2))))) (gNm 4) [4] (dPrim pGe [.bor 4, .bor 3]) (dVar 4)))])])
def d_counted : FD := dFn 3 (dSeq [sSet 2 (dCall d_want_order none [dVar 0]),
 sDrop (dCall d_want_corner none [dPrim pLen [.bor 2], dVar 1]),
 sRet (dCall d_count_of none [dVar 2, dVar 1])])
abbrev b1_table_of : DE := frz (dIf (dPrim pLt [.bor 4, .bor 3]) (dPrim pAdd [.bor 5, .ex (dC (.int 1))]) (dVar 5))
abbrev b2_table_of : DS := dSeq [sSet 2 (dLc (iEnu (dVar 2)) (gTp [gNm 4, gNm 5]) [4, 5] (dYes) (b1_table_of)),
 sDrop (dMut mAppend 1 [dVar 2])]
def d_table_of : FD := dFn 6 (dSeq [sParO 1 2 (dLst []) (dPrim pMul [.ex (frz (dLst [dC (.int 0)])), .ex (dPrim pLen [.bor 0])]),
 sFor (iSeq (dVar 0)) (gNm 3) (b2_table_of),
 sRet (dMove 1)])
def d_corner_table : FD := dFnO 1 [] (dCallO (calF d_table_of) none [frz (dCall d_want_order none [dVar 0])])
abbrev b1_first_over : DS := dSeq [sIf (dPrim pGt [.bor 6, .ex (dPrim pIx [.bor 4, .bor 5])]) (dSeq [sRet (dTup [frz (dPrim pAdd [.bor 2, .ex (dC (.int 1))]), frz (dPrim pAdd [.bor 5, .ex (dC (.int 1))])])]) (dSeq [])]
abbrev b2_first_over : DS := dSeq [sFor (iEnu (dVar 3)) (gTp [gNm 5, gNm 6]) (b1_first_over)]
def d_first_over : FD := dFn 7 (dSeq [sFor (iEnZ (frz (dCall d_table_of none [dVar 0])) (frz (dCall d_table_of none [dVar 1]))) (gTp [gNm 2, gTp [gNm 3, gNm 4]]) (b2_first_over),
 sRet (dC .none)])
def d_over : FD := dFn 4 (dSeq [sAsg (frz (dCall d_want_two none [dVar 0, dVar 1])) (gTp [gNm 2, gNm 3]),
 sRet (dCall d_first_over none [dVar 2, dVar 3])])
def d_L_pot : FD := dFn 3 (dSeq [sSet 2 (dIf (dPrim pLt [.bor 1, .ex (dPrim pLen [.bor 0])]) (dPrim pAbs [.ex (dPrim pIx [.bor 0, .bor 1])]) (dPrim pAdd [.ex (frz (dPrim pMul [.ex (dC (.int 89)), .bor 1])), .ex (dC (.int 67))])),
 sRet (dLst [dPrim pMaxA [.ex (dC (.int 0)), .ex (dPrim pSub [.bor 2, .ex (dPrim pPow [.ex (dC (.int 10)), .ex (dC (.int 18))])])], frz (dPrim pAdd [.ex (dPrim pMod [.ex (dPrim pInt [.ex (frz (dPrim pAdd [.ex (frz (dPrim pAdd [.ex (frz (dPrim pMul [.ex (dPrim pMod [.ex (dPrim pInt [.bor 2]), .ex (dC (.int 2147483549))]), .ex (dC (.int 48271))])), .ex (frz (dPrim pMul [.ex (dC (.int 6011)), .bor 1]))])), .ex (dC (.int 97))]))]), .ex (dC (.int 2147483579))]), .ex (dC (.int 1))])])])
def d_L_draw : FD := dFn 3 (dSeq [sIf (dPrim pGt [.ex (dPrim pIx [.bor 0, .ex (dC (.int 0))]), .ex (dC (.int 0))]) (dSeq [sAsg (dPrim pDivmod [.ex (dPrim pIx [.bor 0, .ex (dC (.int 0))]), .bor 1]) (gTp [gIx 0 (dC (.int 0)), gNm 2]),
 sRet (dMove 2)]) (dSeq []),
 sAsg (dPrim pMod [.ex (dPrim pInt [.ex (frz (dPrim pAdd [.ex (frz (dPrim pMul [.ex (dPrim pIx [.bor 0, .ex (dC (.int 1))]), .ex (dC (.int 39373))])), .ex (dC (.int 911))]))]), .ex (dC (.int 2147483629))]) (gIx 0 (dC (.int 1))),
 sRet (dPrim pMod [.ex (dPrim pInt [.ex (dPrim pFdiv [.ex (dPrim pMod [.ex (dPrim pInt [.ex (frz (dPrim pMul [.ex (dPrim pIx [.bor 0, .ex (dC (.int 1))]), .ex (dPrim pIx [.bor 0, .ex (dC (.int 1))])]))]), .ex (dC (.int 2147483587))]), .ex (dC (.int 13))])]), .bor 1])])
def d_L_pick : FD := dFn 2 (dSeq [sRet (dPrim pIx [.bor 1, .ex (frz (dCallI d_L_draw 0 [dPrim pLen [.bor 1]]))])])
abbrev b1_L_mixed : DS := dSeq [sDrop (dMut mAppend 3 [dMut mPop 2 [frz (dCallI d_L_draw 0 [dPrim pLen [.bor 2]])]])]
def d_L_mixed : FD := dFn 5 (dSeq [sParO 2 3 (dPrim pList [.bor 1]) (dLst []),
 sFor (iRg [.ex (dPrim pLen [.bor 1])]) (gNm 4) (b1_L_mixed),
 sRet (dMove 3)])
def d_L_order : FD := dFn 3 (dSeq [sSet 2 (dCallI d_L_draw 0 [dC (.int 9)]),
 sIf (dPrim pEq [.bor 2, .ex (dC (.int 0))]) (dSeq [sRet (dTRg [.ex (dC (.int 1)), .ex (frz (dPrim pAdd [.bor 1, .ex (dC (.int 1))]))])]) (dSeq []),
 sIf (dPrim pEq [.bor 2, .ex (dC (.int 1))]) (dSeq [sRet (dTRg3 [.bor 1, .ex (dC (.int 0)), .ex (dPrim pNeg [.ex (dC (.int 1))])])]) (dSeq []),
 sIf (dAnd (dPrim pLt [.bor 2, .ex (dC (.int 4))]) (dPrim pEq [.bor 1, .ex (dC (.int 4))])) (dSeq [sRet (dCallI d_L_pick 0 [frz (dLst [dTup [dC (.int 4), dC (.int 2), dC (.int 3), dC (.int 1)], dTup [dC (.int 3), dC (.int 4), dC (.int 1), dC (.int 2)]])])]) (dSeq []),
 sIf (dAnd (dPrim pLt [.bor 2, .ex (dC (.int 4))]) (dPrim pEq [.bor 1, .ex (dC (.int 5))])) (dSeq [sRet (dCallI d_L_pick 0 [frz (dLst [dTup [dC (.int 3), dC (.int 5), dC (.int 1), dC (.int 4), dC (.int 2)], dTup [dC (.int 4), dC (.int 2), dC (.int 5), dC (.int 1), dC (.int 3)], dTup [dC (.int 4), dC (.int 5), dC (.int 3), dC (.int 1), dC (.int 2)], dTup [dC (.int 5), dC (.int 2), dC (.int 3), dC (.int 4), dC (.int 1)]])])]) (dSeq []),
 sRet (dPrim pTuple [.ex (frz (dCallI d_L_mixed 0 [frz (dLRg [.ex (dC (.int 1)), .ex (frz (dPrim pAdd [.bor 1, .ex (dC (.int 1))]))])]))])])
def d_L_as : FD := dFn 2 (dSeq [sRet (dIf (dPrim pEq [.ex (frz (dCallI d_L_draw 0 [dC (.int 2)])), .ex (dC (.int 0))]) (dPrim pList [.bor 1]) (dVar 1))])
def d_L_moved : FD := dFn 4 (dSeq [sSet 3 (dPrim pList [.bor 0]),
 sAsg (dTup [dPrim pIx [.bor 0, .bor 2], dPrim pIx [.bor 0, .bor 1]]) (gTp [gIx 3 (dVar 1), gIx 3 (dVar 2)]),
 sRet (dPrim pTuple [.bor 3])])
abbrev b1_L_wrong : DE := dPrim pGt [.ex (dPrim pIx [.bor 0, .bor 3]), .ex (dPrim pIx [.bor 0, .bor 4])]
abbrev b2_L_wrong : DS := dSeq [sDrop (dExt 2 (dLc (iRg [.ex (frz (dPrim pAdd [.bor 3, .ex (dC (.int 1))])), .bor 1]) (gNm 4) [4] (b1_L_wrong) (dTup [dVar 3, dVar 4])))]
def d_L_wrong : FD := dFn 5 (dSeq [sSet 1 (dPrim pLen [.bor 0]),
 sSet 2 (dLst []),
 sFor (iRg [.bor 1]) (gNm 3) (b2_L_wrong),
 sRet (dMove 2)])
abbrev b1_L_count : DE := dPrim pGe [.bor 2, .ex (dPrim pIx [.bor 1, .ex (dC (.int 1))])]
def d_L_count : FD := dFn 3 (dSeq [sRet (dPrim pSum [.ex (frz (dLc (iSeq (frz (dSlice (.bor 0) none (some (dPrim pIx [.bor 1, .ex (dC (.int 0))]))))) (gNm 2) [2] (b1_L_count) (dC (.int 1))))])])
abbrev b1_L_corners : DS := dSeq [sDrop (dExt 1 (dLc (iRg [.ex (dC (.int 1)), .ex (frz (dPrim pAdd [.bor 0, .ex (dC (.int 1))]))]) (gNm 3) [3] (dYes) (dTup [dVar 2, dVar 3])))]
def d_L_corners : FD := dFn 4 (dSeq [sSet 1 (dLst []),
 sFor (iRg [.ex (dC (.int 1)), .ex (frz (dPrim pAdd [.bor 0, .ex (dC (.int 1))]))]) (gNm 2) (b1_L_corners),
 sRet (dMove 1)])
abbrev b1_L_table : DE := frz (dLc (iRg [.ex (dC (.int 1)), .ex (frz (dPrim pAdd [.bor 1, .ex (dC (.int 1))]))]) (gNm 3) [3] (dYes) (frz (dCall d_L_count none [dVar 0, dTup [dVar 2, dVar 3]])))
def d_L_table : FD := dFn 4 (dSeq [sSet 1 (dPrim pLen [.bor 0]),
 sRet (dLc (iRg [.ex (dC (.int 1)), .ex (frz (dPrim pAdd [.bor 1, .ex (dC (.int 1))]))]) (gNm 2) [2] (dYes) (b1_L_table))])
abbrev b1_L_over : DE := dPrim pGt [.ex (frz (dCall d_L_count none [dVar 0, dVar 3])), .ex (frz (dCall d_L_count none [dVar 1, dVar 3]))]
def d_L_over : FD := dFn 4 (dSeq [sSet 2 (dLc (iSeq (frz (dCall d_L_corners none [dPrim pLen [.bor 0]]))) (gNm 3) [3] (b1_L_over) (dVar 3)),
 sRet (dIf (dPrim pNe [.bor 2, .ex (frz (dLst []))]) (dPrim pIx [.bor 2, .ex (dC (.int 0))]) (dC .none))])
def d_L_table_right : FD := dFn 9 (dSeq [sParO 2 3 (dCallI d_L_as 0 [dVar 1]) (dPrim pLen [.bor 1]),
 sPokeB 4 (dCallO (calM d_corner_table) none [dVar 2]) (dOr (dPrim pNe [.ex (dPrim pReprN [.bor 4]), .ex (dPrim pReprN [.ex (frz (dCall d_L_table none [dVar 1]))])]) (dOr (dPrim pNe [.ex (dPrim pIx [.bor 4, .ex (dPrim pNeg [.ex (dC (.int 1))])]), .ex (frz (dLRg3 [.bor 3, .ex (dC (.int 0)), .ex (dPrim pNeg [.ex (dC (.int 1))])]))]) (dPrim pNe [.ex (frz (dLcB 4 (gNm 8) [8] (dYes) (dPrim pIx [.bor 8, .ex (dC (.int 0))]))), .ex (frz (dLRg [.ex (dC (.int 1)), .ex (frz (dPrim pAdd [.bor 3, .ex (dC (.int 1))]))]))]))) 5 (rgD 0 8) [.asg 6 (dTup [frz (dPrim pAdd [.ex (dC (.int 1)), .ex (frz (dCallI d_L_draw 0 [dVar 3]))]), frz (dPrim pAdd [.ex (dC (.int 1)), .ex (frz (dCallI d_L_draw 0 [dVar 3]))])]), .asg 7 (frz (dCall d_L_count none [dVar 1, dVar 6])), .chk (dPrim pNe [.ex (dPrim pReprN [.ex (frz (dLst [frz (dCall d_counted none [dVar 2, dVar 6]), frz (dCall d_counted (some [1, 0]) ([] ++ [dVar 6, dVar 2])), dPrim pIx [.ex (dPrim pIx [.bor 4, .ex (dPrim pSub [.ex (dPrim pIx [.bor 6, .ex (dC (.int 0))]), .ex (dC (.int 1))])]), .ex (dPrim pSub [.ex (dPrim pIx [.bor 6, .ex (dC (.int 1))]), .ex (dC (.int 1))])]]))]), .ex (dPrim pReprN [.ex (frz (dPrim pMul [.ex (frz (dLst [dVar 7])), .ex (dC (.int 3))]))])])],
 sRet (dPrim pEq [.ex (dPrim pReprN [.ex (frz (dCall d_corner_table (some [0]) ([] ++ [dVar 2])))]), .ex (dPrim pReprN [.ex (frz (dCall d_L_table none [dVar 1]))])])])
def d_L_pair_right : FD := dFn 5 (dSeq [sSet 3 (dCall d_L_over none [dVar 1, dVar 2]),
 sSet 4 (dLst [frz (dCall d_over none [dVar 1, dVar 2]), frz (dCall d_over (some [1, 0]) ([] ++ [frz (dPrim pList [.bor 2]), dVar 1])), frz (dCall d_over none [frz (dPrim pList [.bor 1]), dVar 2])]),
 sRet (dAnd (dPrim pEq [.ex (dPrim pReprN [.bor 4]), .ex (dPrim pReprN [.ex (frz (dPrim pMul [.ex (frz (dLst [dVar 3])), .ex (dC (.int 3))]))])]) (dPrim pEq [.ex (frz (dCall d_is_below none [dVar 1, dVar 2])), .ex (dPrim pIs [.bor 3, .ex (dC .none)])]))])
abbrev b1_L_right : DS := dSeq [sIf (dOr (dNot (dCallI d_L_pair_right 0 [frz (dCall d_L_moved none [dVar 2, dVar 5, dVar 6]), dVar 2])) (dNot (dCallI d_L_pair_right 0 [dVar 2, frz (dCall d_L_moved none [dVar 2, dVar 5, dVar 6])]))) (dSeq [sRet (dC (.bool false))]) (dSeq [])]
def d_L_right : FD := dFn 7 (dSeq [sSet 1 (dPrim pAdd [.ex (dC (.int 1)), .ex (frz (dCallI d_L_draw 0 [dC (.int 6)]))]),
 sParO 2 3 (dCallI d_L_order 0 [dVar 1]) (dCallI d_L_order 0 [dVar 1]),
 sSet 4 (dPrim pTuple [.ex (frz (dCallI d_L_mixed 0 [frz (dLRg [.ex (dC (.int 1)), .ex (dC (.int 10))])]))]),
 sIf (dOr (dNot (dCallI d_L_table_right 0 [dVar 2])) (dNot (dCallI d_L_table_right 0 [dVar 4]))) (dSeq [sRet (dC (.bool false))]) (dSeq []),
 sFor (iSeq (frz (dCall d_L_wrong none [dVar 2]))) (gTp [gNm 5, gNm 6]) (b1_L_right),
 sRet (dAnd (dCallI d_L_pair_right 0 [dVar 2, dVar 3]) (dAnd (dCallI d_L_pair_right 0 [dVar 3, dVar 2]) (dPrim pIs [.ex (frz (dCall d_over none [dVar 2, dVar 2])), .ex (dC .none)])))])
abbrev b1_law : DE := frz (dCallN d_L_right (dCall d_L_pot none [dVar 0, dVar 1]) [])
def d_law : FD := dFn 2 (dSeq [sRet (dPrim pAll [.ex (frz (dLc (iRg [.ex (dPrim pMaxA [.ex (dC (.int 1)), .ex (dPrim pMin [.ex (dPrim pLen [.bor 0]), .ex (dC (.int 2))])])]) (gNm 1) [1] (dYes) (b1_law)))])])
section
variable
      {P : Program} {w : World} {K : PySem.W.Frag} {mg : Str → Option Value} {base : Heap}
theorem x66 {k : Nat} {A : Around} (hr : Room k A) : A.units + 66 < cLine := Nat.lt_of_le_of_lt (Nat.le_trans (Nat.add_le_add_left (by decide) _) (Nat.add_le_add_right (Nat.le_add_right _ _) _)) hr.un
theorem sc_is_integer : FnScope N_is_integer P_is_integer (defScope s_is_integer) := ⟨rfl, rfl, rfl, by decide +kernel, rfl, by decide +kernel, by decide +kernel⟩
theorem ok_is_integer {f : Addr} {kV doc pm cdv ct oc : Value} {an od : Option Addr} {osl : Array (Option Value)} (lk : K.lookup f = some ⟨oc, od, .func (PySem.W.fnOf "is_integer" "is_integer" (defArgs s_is_integer) (defBody s_is_integer) (defScope s_is_integer) .none kV doc pm an cdv ct), osl⟩) (cd : PySem.W.codeIn K cdv "is_integer" = true) (T : Txt K mg)  :
  FnG P w K mg base 1 f (PySem.W.fnOf "is_integer" "is_integer" (defArgs s_is_integer) (defBody s_is_integer) (defScope s_is_integer) .none kV doc pm an cdv ct) P_is_integer (spF K false 1 d_is_integer) := by
  refine fnG_of (N := N_is_integer) lk cd sc_is_integer (fun vs H Q h => spF_len h) fun A outer s H vs Q hr hgd h => ⟨_, ?_, body_ok (N := N_is_integer) (by decide) (by decide) h⟩
  have nd := sc_is_integer.nd
  exact pss_d
    (ps_dret (pe_dand (pe_disi1 (t := .int) (o_bor (pv 0)) rfl T.b_isinstance (pe_bltn (v := .ty "int") rfl T.b_int PyProof.Rows.boot_int rfl) rfl rfl rfl) (pe_one (pe_dnot (pe_disi1 (t := .bool) (o_bor (pv 0)) rfl T.b_isinstance (pe_bltn (v := .ty "bool") rfl T.b_bool PyProof.Rows.boot_bool rfl) rfl rfl rfl))))) (pss_d0)
theorem sc_is_count : FnScope N_is_count P_is_count (defScope s_is_count) := ⟨rfl, rfl, rfl, by decide +kernel, rfl, by decide +kernel, by decide +kernel⟩
theorem ok_is_count {f : Addr} {kV doc pm cdv ct oc : Value} {an od : Option Addr} {osl : Array (Option Value)} (lk : K.lookup f = some ⟨oc, od, .func (PySem.W.fnOf "is_count" "is_count" (defArgs s_is_count) (defBody s_is_count) (defScope s_is_count) .none kV doc pm an cdv ct), osl⟩) (cd : PySem.W.codeIn K cdv "is_count" = true) (T : Txt K mg) (X_is_integer : Fx P w K mg base 1 "is_integer" P_is_integer kb_is_integer (spF K false 1 d_is_integer)) :
  FnG P w K mg base 2 f (PySem.W.fnOf "is_count" "is_count" (defArgs s_is_count) (defBody s_is_count) (defScope s_is_count) .none kV doc pm an cdv ct) P_is_count (spF K false 1 d_is_count) := by
  refine fnG_of (N := N_is_count) lk cd sc_is_count (fun vs H Q h => spF_len h) fun A outer s H vs Q hr hgd h => ⟨_, ?_, body_ok (N := N_is_count) (by decide) (by decide) h⟩
  have nd := sc_is_count.nd
  exact pss_d
    (ps_dret (pe_dand (fx0 X_is_integer (hr.mono (j := 1) (by decide)) hgd rfl (pax (pe_dvar (pv 0) (Or.inr rfl)) (pax0) rfl) rfl (by decide) rfl rfl) (pe_one (pe_cmp1 (op_pGe) (o_bor (pv 0)) (o_ex (pe_const pe_int (fun _ => .int _))) rfl)))) (pss_d0)
theorem sc_is_list : FnScope N_is_list P_is_list (defScope s_is_list) := ⟨rfl, rfl, rfl, by decide +kernel, rfl, by decide +kernel, by decide +kernel⟩
theorem ok_is_list {f : Addr} {kV doc pm cdv ct oc : Value} {an od : Option Addr} {osl : Array (Option Value)} (lk : K.lookup f = some ⟨oc, od, .func (PySem.W.fnOf "is_list" "is_list" (defArgs s_is_list) (defBody s_is_list) (defScope s_is_list) .none kV doc pm an cdv ct), osl⟩) (cd : PySem.W.codeIn K cdv "is_list" = true) (T : Txt K mg)  :
  FnG P w K mg base 1 f (PySem.W.fnOf "is_list" "is_list" (defArgs s_is_list) (defBody s_is_list) (defScope s_is_list) .none kV doc pm an cdv ct) P_is_list (spF K false 1 d_is_list) := by
  refine fnG_of (N := N_is_list) lk cd sc_is_list (fun vs H Q h => spF_len h) fun A outer s H vs Q hr hgd h => ⟨_, ?_, body_ok (N := N_is_list) (by decide) (by decide) h⟩
  have nd := sc_is_list.nd
  exact pss_d
    (ps_dret (pe_disi2 (t := .list) (u := .tuple) (o_bor (pv 0)) rfl T.b_isinstance (pe_bltn (v := .ty "list") rfl T.b_list PyProof.Rows.boot_list rfl) (pe_bltn (v := .ty "tuple") rfl T.b_tuple PyProof.Rows.boot_tuple rfl) rfl rfl rfl rfl rfl)) (pss_d0)
theorem sc_is_order : FnScope N_is_order P_is_order (defScope s_is_order) := ⟨rfl, rfl, rfl, by decide +kernel, rfl, by decide +kernel, by decide +kernel⟩
theorem ok_is_order {f : Addr} {kV doc pm cdv ct oc : Value} {an od : Option Addr} {osl : Array (Option Value)} (lk : K.lookup f = some ⟨oc, od, .func (PySem.W.fnOf "is_order" "is_order" (defArgs s_is_order) (defBody s_is_order) (defScope s_is_order) .none kV doc pm an cdv ct), osl⟩) (cd : PySem.W.codeIn K cdv "is_order" = true) (T : Txt K mg) (X_is_list : Fx P w K mg base 1 "is_list" P_is_list kb_is_list (spF K false 1 d_is_list)) (X_is_integer : Fx P w K mg base 1 "is_integer" P_is_integer kb_is_integer (spF K false 1 d_is_integer)) :
  FnG P w K mg base 2 f (PySem.W.fnOf "is_order" "is_order" (defArgs s_is_order) (defBody s_is_order) (defScope s_is_order) .none kV doc pm an cdv ct) P_is_order (spF K false 1 d_is_order) := by
  refine fnG_of (N := N_is_order) lk cd sc_is_order (fun vs H Q h => spF_len h) fun A outer s H vs Q hr hgd h => ⟨_, ?_, body_ok (N := N_is_order) (by decide) (by decide) h⟩
  have nd := sc_is_order.nd
  have u64 : (A.deeper (envOfC "is_order" (defScope s_is_order) s.heap.objs.size f cdv)).units + 64 < cLine := hr.units
  exact pss_d
    (ps_dif (PW.pt (pt_dor (pt_dnot (pt_of (fx0 X_is_list (hr.mono (j := 1) (by decide)) hgd rfl (pax (pe_dvar (pv 0) (Or.inr rfl)) (pax0) rfl) rfl (by decide) rfl rfl) (fun _ => rfl))) (pt_dor (pt_dnot (pt_dchain (op_pLe) (op_pLe) (pe_const pe_int (fun _ => .int _)) (pe_bltin cr_pLen rfl T.b_len PySem.boot_len (pao (o_bor (pv 0)) (pao0) rfl) (by decide) (by decide) rfl rfl) (pe_dnum rfl T.MOST_THINGS (by decide)) rfl)) (pw_or1 (pt_dnot (pt_of (pe_bltin (cr_pAll rfl) rfl T.b_all boot_all (pao (o_ex (pe_frz (pe_dlc (own := [(("thing" : Str), 1)]) (W := Dq K) (g := gNm 1) (c := dYes) (t := frz (dCall d_is_integer none [dVar 1])) rfl nd (pi_dseq (pe_dvar (pv 0) (Or.inr rfl))) (blkOk_by (N := N_is_order) (sc := defScope s_is_order) (by decide +kernel)) (fun _ _ _ _ _ => pg_dnm nd rfl (by first | exact Or.inl rfl | exact Or.inr rfl | exact Or.inr (Or.inl rfl) | exact Or.inr (Or.inr rfl)) (by first | exact Or.inl rfl | exact Or.inr rfl | exact Or.inr (Or.inl rfl) | exact Or.inr (Or.inr rfl)) (Or.inr rfl)) (fun _ _ _ _ _ => pts_no) (fun _ _ _ _ _ => pe_frz (fx0 X_is_integer (hr.mono (j := 1) (by decide)) hgd rfl (pax (pe_dvar (pv 1) (Or.inr rfl)) (pax0) rfl) rfl (by decide) rfl rfl)) (fun _ => rfl) (by decide) (Or.inr rfl)))) (pao0) rfl) (by decide) (by decide) rfl rfl) (fun _ => rfl))))))) (pss_d
    (ps_dret (pe_const pe_bl (fun _ => .bl _))) (pss_d0)) (pss_d0)) (pss_d
    (ps_dret (pe_cmp1 (op_pEq u64) (o_ex (pe_frz (pe_bltin cr_pSorted rfl T.b_sorted boot_sorted (pao (o_bor (pv 0)) (pao0) rfl) (by decide) (by decide) rfl rfl))) (o_ex (pe_frz (pe_dlrg2 rfl rfl T.b_list rfl T.b_range (o_ex (pe_const pe_int (fun _ => .int _))) (o_ex (pe_frz (pe_bin op_pAdd (o_ex (pe_bltin cr_pLen rfl T.b_len PySem.boot_len (pao (o_bor (pv 0)) (pao0) rfl) (by decide) (by decide) rfl rfl)) (o_ex (pe_const pe_int (fun _ => .int _)))))) rfl rfl rfl rfl))) rfl)) (pss_d0))
theorem sc_want_order : FnScope N_want_order P_want_order (defScope s_want_order) := ⟨rfl, rfl, rfl, by decide +kernel, rfl, by decide +kernel, by decide +kernel⟩
theorem ok_want_order {f : Addr} {kV doc pm cdv ct oc : Value} {an od : Option Addr} {osl : Array (Option Value)} (lk : K.lookup f = some ⟨oc, od, .func (PySem.W.fnOf "want_order" "want_order" (defArgs s_want_order) (defBody s_want_order) (defScope s_want_order) .none kV doc pm an cdv ct), osl⟩) (cd : PySem.W.codeIn K cdv "want_order" = true) (T : Txt K mg) (X_is_order : Fx P w K mg base 2 "is_order" P_is_order kb_is_order (spF K false 1 d_is_order)) :
  FnG P w K mg base 3 f (PySem.W.fnOf "want_order" "want_order" (defArgs s_want_order) (defBody s_want_order) (defScope s_want_order) .none kV doc pm an cdv ct) P_want_order (spF K false 1 d_want_order) := by
  refine fnG_of (N := N_want_order) lk cd sc_want_order (fun vs H Q h => spF_len h) fun A outer s H vs Q hr hgd h => ⟨_, ?_, body_ok (N := N_want_order) (by decide) (by decide) h⟩
  have nd := sc_want_order.nd
  exact pss_d
    (ps_dif (pt_dnot (pt_of (fx0 X_is_order (hr.mono (j := 2) (by decide)) hgd rfl (pax (pe_dvar (pv 0) (Or.inr rfl)) (pax0) rfl) rfl (by decide) rfl rfl) (fun _ => rfl))) (pss_d
    (ps_stuck) (pss_d0)) (pss_d0)) (pss_d
    (ps_dret (pe_bltinT cr_pTuple rfl T.b_tuple boot_tuple (pao (o_bor (pv 0)) (pao0) rfl) (by decide) (by decide) rfl rfl)) (pss_d0))
theorem sc_want_alike : FnScope N_want_alike P_want_alike (defScope s_want_alike) := ⟨rfl, rfl, rfl, by decide +kernel, rfl, by decide +kernel, by decide +kernel⟩
theorem ok_want_alike {f : Addr} {kV doc pm cdv ct oc : Value} {an od : Option Addr} {osl : Array (Option Value)} (lk : K.lookup f = some ⟨oc, od, .func (PySem.W.fnOf "want_alike" "want_alike" (defArgs s_want_alike) (defBody s_want_alike) (defScope s_want_alike) .none kV doc pm an cdv ct), osl⟩) (cd : PySem.W.codeIn K cdv "want_alike" = true) (T : Txt K mg)  :
  FnG P w K mg base 1 f (PySem.W.fnOf "want_alike" "want_alike" (defArgs s_want_alike) (defBody s_want_alike) (defScope s_want_alike) .none kV doc pm an cdv ct) P_want_alike (spF K false 2 d_want_alike) := by
  refine fnG_of (N := N_want_alike) lk cd sc_want_alike (fun vs H Q h => spF_len h) fun A outer s H vs Q hr hgd h => ⟨_, ?_, body_ok (N := N_want_alike) (by decide) (by decide) h⟩
  have nd := sc_want_alike.nd
  have u64 : (A.deeper (envOfC "want_alike" (defScope s_want_alike) s.heap.objs.size f cdv)).units + 64 < cLine := hr.units
  exact pss_d
    (ps_dif (pt_cmpd (op_pNe u64) (o_ex (pe_bltin cr_pLen rfl T.b_len PySem.boot_len (pao (o_bor (pv 0)) (pao0) rfl) (by decide) (by decide) rfl rfl)) (o_ex (pe_bltin cr_pLen rfl T.b_len PySem.boot_len (pao (o_bor (pv 1)) (pao0) rfl) (by decide) (by decide) rfl rfl)) rfl) (pss_d
    (ps_stuck) (pss_d0)) (pss_d0)) (pss_d0)
theorem sc_is_lower : FnScope N_is_lower P_is_lower (defScope s_is_lower) := ⟨rfl, rfl, rfl, by decide +kernel, rfl, by decide +kernel, by decide +kernel⟩
theorem ok_is_lower {f : Addr} {kV doc pm cdv ct oc : Value} {an od : Option Addr} {osl : Array (Option Value)} (lk : K.lookup f = some ⟨oc, od, .func (PySem.W.fnOf "is_lower" "is_lower" (defArgs s_is_lower) (defBody s_is_lower) (defScope s_is_lower) .none kV doc pm an cdv ct), osl⟩) (cd : PySem.W.codeIn K cdv "is_lower" = true) (T : Txt K mg)  :
  FnG P w K mg base 1 f (PySem.W.fnOf "is_lower" "is_lower" (defArgs s_is_lower) (defBody s_is_lower) (defScope s_is_lower) .none kV doc pm an cdv ct) P_is_lower (spF K false 2 d_is_lower) := by
  refine fnG_of (N := N_is_lower) lk cd sc_is_lower (fun vs H Q h => spF_len h) fun A outer s H vs Q hr hgd h => ⟨_, ?_, body_ok (N := N_is_lower) (by decide) (by decide) h⟩
  have nd := sc_is_lower.nd
  exact pss_d
    (ps_dparO (i := 2) (j := 3) rfl nd rfl rfl (by decide) rfl rfl (pe_dlst (pax0)) (pe_dlst (pax0)) (Or.inr rfl) (Or.inr rfl) rfl rfl rfl rfl) (pss_d
    (ps_dfor PassesOwn.never rfl (pi_dzip rfl T.b_zip (pax (pe_dvar (pv 0) (Or.inr rfl)) (pax (pe_dvar (pv 1) (Or.inr rfl)) pax0 rfl) rfl) rfl rfl) (pg_dtp rfl (pgs_d (pg_dnm nd rfl (by first | exact Or.inl rfl | exact Or.inr rfl | exact Or.inr (Or.inl rfl) | exact Or.inr (Or.inr rfl)) (by first | exact Or.inl rfl | exact Or.inr rfl | exact Or.inr (Or.inl rfl) | exact Or.inr (Or.inr rfl)) (Or.inr rfl)) (pgs_d (pg_dnm nd rfl (by first | exact Or.inl rfl | exact Or.inr rfl | exact Or.inr (Or.inl rfl) | exact Or.inr (Or.inr rfl)) (by first | exact Or.inl rfl | exact Or.inr rfl | exact Or.inr (Or.inl rfl) | exact Or.inr (Or.inr rfl)) (Or.inr rfl)) (pgs_d0) rfl) rfl) rfl rfl) (pss_d
    (ps_dparO (i := 2) (j := 3) rfl nd rfl rfl (by decide) rfl rfl (pe_bltin cr_pSorted rfl T.b_sorted boot_sorted (pao (o_ex (pe_frz (pe_bin op_pAdd (o_bor (pv 2)) (o_ex (pe_frz (pe_dlst (pax (pe_dvar (pv 4) (Or.inr rfl)) (pax0) rfl))))))) (pao0) rfl) (by decide) (by decide) rfl rfl) (pe_bltin cr_pSorted rfl T.b_sorted boot_sorted (pao (o_ex (pe_frz (pe_bin op_pAdd (o_bor (pv 3)) (o_ex (pe_frz (pe_dlst (pax (pe_dvar (pv 5) (Or.inr rfl)) (pax0) rfl))))))) (pao0) rfl) (by decide) (by decide) rfl rfl) (Or.inr rfl) (Or.inr rfl) rfl rfl rfl rfl) (pss_d
    (ps_dif (pt_of (pe_bltin (cr_pAny rfl) rfl T.b_any boot_any (pao (o_ex (pe_frz (pe_dlc (own := [(("one" : Str), 6), (("two" : Str), 7)]) (W := Dt K) (g := gTp [gNm 6, gNm 7]) (c := dYes) (t := dPrim pGt [.bor 6, .bor 7]) rfl nd (pi_dzip rfl T.b_zip (pax (pe_dvar (pv 2) (Or.inr rfl)) (pax (pe_dvar (pv 3) (Or.inr rfl)) pax0 rfl) rfl) rfl rfl) (blkOk_by (N := N_is_lower) (sc := defScope s_is_lower) (by decide +kernel)) (fun _ _ _ _ _ => pg_dtp rfl (pgs_d (pg_dnm nd rfl (by first | exact Or.inl rfl | exact Or.inr rfl | exact Or.inr (Or.inl rfl) | exact Or.inr (Or.inr rfl)) (by first | exact Or.inl rfl | exact Or.inr rfl | exact Or.inr (Or.inl rfl) | exact Or.inr (Or.inr rfl)) (Or.inr rfl)) (pgs_d (pg_dnm nd rfl (by first | exact Or.inl rfl | exact Or.inr rfl | exact Or.inr (Or.inl rfl) | exact Or.inr (Or.inr rfl)) (by first | exact Or.inl rfl | exact Or.inr rfl | exact Or.inr (Or.inl rfl) | exact Or.inr (Or.inr rfl)) (Or.inr rfl)) (pgs_d0) rfl) rfl) rfl rfl) (fun _ _ _ _ _ => pts_no) (fun _ _ _ _ _ => pe_cmp1 (op_pGt) (o_bor (pv 6)) (o_bor (pv 7)) rfl) (fun _ => rfl) (by decide) (Or.inr rfl)))) (pao0) rfl) (by decide) (by decide) rfl rfl) (fun _ => rfl)) (pss_d
    (ps_dret (pe_const pe_bl (fun _ => .bl _))) (pss_d0)) (pss_d0)) (pss_d0))) (fun _ => rfl)) (pss_d
    (ps_dret (pe_const pe_bl (fun _ => .bl _))) (pss_d0)))
theorem sc_want_two : FnScope N_want_two P_want_two (defScope s_want_two) := ⟨rfl, rfl, rfl, by decide +kernel, rfl, by decide +kernel, by decide +kernel⟩
theorem ok_want_two {f : Addr} {kV doc pm cdv ct oc : Value} {an od : Option Addr} {osl : Array (Option Value)} (lk : K.lookup f = some ⟨oc, od, .func (PySem.W.fnOf "want_two" "want_two" (defArgs s_want_two) (defBody s_want_two) (defScope s_want_two) .none kV doc pm an cdv ct), osl⟩) (cd : PySem.W.codeIn K cdv "want_two" = true) (T : Txt K mg) (X_want_order : Fx P w K mg base 3 "want_order" P_want_order kb_want_order (spF K false 1 d_want_order)) (X_want_alike : Fx P w K mg base 1 "want_alike" P_want_alike kb_want_alike (spF K false 2 d_want_alike)) :
  FnG P w K mg base 4 f (PySem.W.fnOf "want_two" "want_two" (defArgs s_want_two) (defBody s_want_two) (defScope s_want_two) .none kV doc pm an cdv ct) P_want_two (spF K false 2 d_want_two) := by
  refine fnG_of (N := N_want_two) lk cd sc_want_two (fun vs H Q h => spF_len h) fun A outer s H vs Q hr hgd h => ⟨_, ?_, body_ok (N := N_want_two) (by decide) (by decide) h⟩
  have nd := sc_want_two.nd
  exact pss_d
    (ps_dparO (i := 2) (j := 3) rfl nd rfl rfl (by decide) rfl rfl (fx0 X_want_order (hr.mono (j := 3) (by decide)) hgd rfl (pax (pe_dvar (pv 0) (Or.inr rfl)) (pax0) rfl) rfl (by decide) rfl rfl) (fx0 X_want_order (hr.mono (j := 3) (by decide)) hgd rfl (pax (pe_dvar (pv 1) (Or.inr rfl)) (pax0) rfl) rfl (by decide) rfl rfl) (Or.inr rfl) (Or.inr rfl) rfl rfl rfl rfl) (pss_d
    (ps_ddrop (fx0 X_want_alike (hr.mono (j := 1) (by decide)) hgd rfl (pax (pe_dvar (pv 2) (Or.inr rfl)) (pax (pe_dvar (pv 3) (Or.inr rfl)) (pax0) rfl) rfl) rfl (by decide) rfl rfl) rfl) (pss_d
    (ps_dret (pe_dtup (pax (pe_dvar (pv 2) (Or.inr rfl)) (pax (pe_dvar (pv 3) (Or.inr rfl)) (pax0) rfl) rfl))) (pss_d0)))
theorem sc_is_below : FnScope N_is_below P_is_below (defScope s_is_below) := ⟨rfl, rfl, rfl, by decide +kernel, rfl, by decide +kernel, by decide +kernel⟩
theorem ok_is_below {f : Addr} {kV doc pm cdv ct oc : Value} {an od : Option Addr} {osl : Array (Option Value)} (lk : K.lookup f = some ⟨oc, od, .func (PySem.W.fnOf "is_below" "is_below" (defArgs s_is_below) (defBody s_is_below) (defScope s_is_below) .none kV doc pm an cdv ct), osl⟩) (cd : PySem.W.codeIn K cdv "is_below" = true) (T : Txt K mg) (X_want_two : Fx P w K mg base 4 "want_two" P_want_two kb_want_two (spF K false 2 d_want_two)) (X_is_lower : Fx P w K mg base 1 "is_lower" P_is_lower kb_is_lower (spF K false 2 d_is_lower)) :
  FnG P w K mg base 5 f (PySem.W.fnOf "is_below" "is_below" (defArgs s_is_below) (defBody s_is_below) (defScope s_is_below) .none kV doc pm an cdv ct) P_is_below (spF K false 2 d_is_below) := by
  refine fnG_of (N := N_is_below) lk cd sc_is_below (fun vs H Q h => spF_len h) fun A outer s H vs Q hr hgd h => ⟨_, ?_, body_ok (N := N_is_below) (by decide) (by decide) h⟩
  have nd := sc_is_below.nd
  exact pss_d
    (ps_dasg (pe_frz (fx0 X_want_two (hr.mono (j := 4) (by decide)) hgd rfl (pax (pe_dvar (pv 0) (Or.inr rfl)) (pax (pe_dvar (pv 1) (Or.inr rfl)) (pax0) rfl) rfl) rfl (by decide) rfl rfl)) (PG.weak (pg_dtp rfl (pgs_d (pg_dnm nd rfl (by first | exact Or.inl rfl | exact Or.inr rfl | exact Or.inr (Or.inl rfl) | exact Or.inr (Or.inr rfl)) (by first | exact Or.inl rfl | exact Or.inr rfl | exact Or.inr (Or.inl rfl) | exact Or.inr (Or.inr rfl)) (Or.inr rfl)) (pgs_d (pg_dnm nd rfl (by first | exact Or.inl rfl | exact Or.inr rfl | exact Or.inr (Or.inl rfl) | exact Or.inr (Or.inr rfl)) (by first | exact Or.inl rfl | exact Or.inr rfl | exact Or.inr (Or.inl rfl) | exact Or.inr (Or.inr rfl)) (Or.inr rfl)) (pgs_d0) rfl) rfl) rfl rfl)) rfl rfl rfl) (pss_d
    (ps_dret (fx0 X_is_lower (hr.mono (j := 1) (by decide)) hgd rfl (pax (pe_dvar (pv 2) (Or.inr rfl)) (pax (pe_dvar (pv 3) (Or.inr rfl)) (pax0) rfl) rfl) rfl (by decide) rfl rfl)) (pss_d0))
theorem sc_is_corner : FnScope N_is_corner P_is_corner (defScope s_is_corner) := ⟨rfl, rfl, rfl, by decide +kernel, rfl, by decide +kernel, by decide +kernel⟩
theorem ok_is_corner {f : Addr} {kV doc pm cdv ct oc : Value} {an od : Option Addr} {osl : Array (Option Value)} (lk : K.lookup f = some ⟨oc, od, .func (PySem.W.fnOf "is_corner" "is_corner" (defArgs s_is_corner) (defBody s_is_corner) (defScope s_is_corner) .none kV doc pm an cdv ct), osl⟩) (cd : PySem.W.codeIn K cdv "is_corner" = true) (T : Txt K mg) (X_is_count : Fx P w K mg base 2 "is_count" P_is_count kb_is_count (spF K false 1 d_is_count)) :
  FnG P w K mg base 3 f (PySem.W.fnOf "is_corner" "is_corner" (defArgs s_is_corner) (defBody s_is_corner) (defScope s_is_corner) .none kV doc pm an cdv ct) P_is_corner (spF K false 2 d_is_corner) := by
  refine fnG_of (N := N_is_corner) lk cd sc_is_corner (fun vs H Q h => spF_len h) fun A outer s H vs Q hr hgd h => ⟨_, ?_, body_ok (N := N_is_corner) (by decide) (by decide) h⟩
  have nd := sc_is_corner.nd
  have u64 : (A.deeper (envOfC "is_corner" (defScope s_is_corner) s.heap.objs.size f cdv)).units + 64 < cLine := hr.units
  exact pss_d
    (ps_dif (PW.pt (pt_dor (pt_dnot (pt_of (pe_disi1 (t := .tuple) (o_bor (pv 0)) rfl T.b_isinstance (pe_bltn (v := .ty "tuple") rfl T.b_tuple PyProof.Rows.boot_tuple rfl) rfl rfl rfl) (fun _ => rfl))) (pt_dor (pt_cmpd (op_pNe u64) (o_ex (pe_bltin cr_pLen rfl T.b_len PySem.boot_len (pao (o_bor (pv 0)) (pao0) rfl) (by decide) (by decide) rfl rfl)) (o_ex (pe_const pe_int (fun _ => .int _))) rfl) (pt_dor (pt_dnot (pt_of (fx0 X_is_count (hr.mono (j := 2) (by decide)) hgd rfl (pax (pe_ix1 ix_pIx (o_bor (pv 0)) (o_ex (pe_const pe_int (fun _ => .int _))) (fun _ _ => rfl)) (pax0) rfl) rfl (by decide) rfl rfl) (fun _ => rfl))) (pw_or1 (pt_dnot (pt_of (fx0 X_is_count (hr.mono (j := 2) (by decide)) hgd rfl (pax (pe_ix1 ix_pIx (o_bor (pv 0)) (o_ex (pe_const pe_int (fun _ => .int _))) (fun _ _ => rfl)) (pax0) rfl) rfl (by decide) rfl rfl) (fun _ => rfl)))))))) (pss_d
    (ps_dret (pe_const pe_bl (fun _ => .bl _))) (pss_d0)) (pss_d0)) (pss_d
    (ps_dret (pe_dand (pe_dchain (op_pLe) (op_pLe) (pe_const pe_int (fun _ => .int _)) (pe_ix1 ix_pIx (o_bor (pv 0)) (o_ex (pe_const pe_int (fun _ => .int _))) (fun _ _ => rfl)) (pe_dvar (pv 1) (Or.inr rfl)) rfl) (pe_one (pe_dchain (op_pLe) (op_pLe) (pe_const pe_int (fun _ => .int _)) (pe_ix1 ix_pIx (o_bor (pv 0)) (o_ex (pe_const pe_int (fun _ => .int _))) (fun _ _ => rfl)) (pe_dvar (pv 1) (Or.inr rfl)) rfl)))) (pss_d0))
theorem sc_want_corner : FnScope N_want_corner P_want_corner (defScope s_want_corner) := ⟨rfl, rfl, rfl, by decide +kernel, rfl, by decide +kernel, by decide +kernel⟩
theorem ok_want_corner {f : Addr} {kV doc pm cdv ct oc : Value} {an od : Option Addr} {osl : Array (Option Value)} (lk : K.lookup f = some ⟨oc, od, .func (PySem.W.fnOf "want_corner" "want_corner" (defArgs s_want_corner) (defBody s_want_corner) (defScope s_want_corner) .none kV doc pm an cdv ct), osl⟩) (cd : PySem.W.codeIn K cdv "want_corner" = true) (T : Txt K mg) (X_is_corner : Fx P w K mg base 3 "is_corner" P_is_corner kb_is_corner (spF K false 2 d_is_corner)) :
  FnG P w K mg base 4 f (PySem.W.fnOf "want_corner" "want_corner" (defArgs s_want_corner) (defBody s_want_corner) (defScope s_want_corner) .none kV doc pm an cdv ct) P_want_corner (spF K false 2 d_want_corner) := by
  refine fnG_of (N := N_want_corner) lk cd sc_want_corner (fun vs H Q h => spF_len h) fun A outer s H vs Q hr hgd h => ⟨_, ?_, body_ok (N := N_want_corner) (by decide) (by decide) h⟩
  have nd := sc_want_corner.nd
  exact pss_d
    (ps_dif (pt_dnot (pt_of (fx0 X_is_corner (hr.mono (j := 3) (by decide)) hgd rfl (pax (pe_dvar (pv 1) (Or.inr rfl)) (pax (pe_dvar (pv 0) (Or.inr rfl)) (pax0) rfl) rfl) rfl (by decide) rfl rfl) (fun _ => rfl))) (pss_d
    (ps_stuck) (pss_d0)) (pss_d0)) (pss_d0)
theorem sc_count_of : FnScope N_count_of P_count_of (defScope s_count_of) := ⟨rfl, rfl, rfl, by decide +kernel, rfl, by decide +kernel, by decide +kernel⟩
theorem ok_count_of {f : Addr} {kV doc pm cdv ct oc : Value} {an od : Option Addr} {osl : Array (Option Value)} (lk : K.lookup f = some ⟨oc, od, .func (PySem.W.fnOf "count_of" "count_of" (defArgs s_count_of) (defBody s_count_of) (defScope s_count_of) .none kV doc pm an cdv ct), osl⟩) (cd : PySem.W.codeIn K cdv "count_of" = true) (T : Txt K mg)  :
  FnG P w K mg base 1 f (PySem.W.fnOf "count_of" "count_of" (defArgs s_count_of) (defBody s_count_of) (defScope s_count_of) .none kV doc pm an cdv ct) P_count_of (spF K false 2 d_count_of) := by
  refine fnG_of (N := N_count_of) lk cd sc_count_of (fun vs H Q h => spF_len h) fun A outer s H vs Q hr hgd h => ⟨_, ?_, body_ok (N := N_count_of) (by decide) (by decide) h⟩
  have nd := sc_count_of.nd
  exact pss_d
    (ps_dasg (pe_dvar (pv 1) (Or.inr rfl)) (PG.weak (pg_dtp rfl (pgs_d (pg_dnm nd rfl (by first | exact Or.inl rfl | exact Or.inr rfl | exact Or.inr (Or.inl rfl) | exact Or.inr (Or.inr rfl)) (by first | exact Or.inl rfl | exact Or.inr rfl | exact Or.inr (Or.inl rfl) | exact Or.inr (Or.inr rfl)) (Or.inr rfl)) (pgs_d (pg_dnm nd rfl (by first | exact Or.inl rfl | exact Or.inr rfl | exact Or.inr (Or.inl rfl) | exact Or.inr (Or.inr rfl)) (by first | exact Or.inl rfl | exact Or.inr rfl | exact Or.inr (Or.inl rfl) | exact Or.inr (Or.inr rfl)) (Or.inr rfl)) (pgs_d0) rfl) rfl) rfl rfl)) rfl rfl rfl) (pss_d
    (ps_dret (pe_bltin cr_pLen rfl T.b_len PySem.boot_len (pao (o_ex (pe_frz (pe_dlc (own := [(("thing" : Str), 4)]) (W := Dq K) (g := gNm 4) (c := dPrim pGe [.bor 4, .bor 3]) (t := dVar 4) rfl nd (pi_dseq (pe_frz (pe_dslice (o_bor (pv 0)) (po_d trivial) (po_d (d := some _) (pe_dvar (pv 2) (Or.inr rfl)))))) (blkOk_by (N := N_count_of) (sc := defScope s_count_of) (by decide +kernel)) (fun _ _ _ _ _ => pg_dnm nd rfl (by first | exact Or.inl rfl | exact Or.inr rfl | exact Or.inr (Or.inl rfl) | exact Or.inr (Or.inr rfl)) (by first | exact Or.inl rfl | exact Or.inr rfl | exact Or.inr (Or.inl rfl) | exact Or.inr (Or.inr rfl)) (Or.inr rfl)) (fun _ _ _ _ _ => pts_one (pt_cmpd (op_pGe) (o_bor (pv 4)) (o_bor (pv 3)) rfl)) (fun _ _ _ _ _ => pe_dvar (pv 4) (Or.inr rfl)) (fun _ => rfl) (by decide) (Or.inr rfl)))) (pao0) rfl) (by decide) (by decide) rfl rfl)) (pss_d0))
theorem sc_counted : FnScope N_counted P_counted (defScope s_counted) := ⟨rfl, rfl, rfl, by decide +kernel, rfl, by decide +kernel, by decide +kernel⟩
theorem ok_counted {f : Addr} {kV doc pm cdv ct oc : Value} {an od : Option Addr} {osl : Array (Option Value)} (lk : K.lookup f = some ⟨oc, od, .func (PySem.W.fnOf "counted" "counted" (defArgs s_counted) (defBody s_counted) (defScope s_counted) .none kV doc pm an cdv ct), osl⟩) (cd : PySem.W.codeIn K cdv "counted" = true) (T : Txt K mg) (X_want_order : Fx P w K mg base 3 "want_order" P_want_order kb_want_order (spF K false 1 d_want_order)) (X_want_corner : Fx P w K mg base 4 "want_corner" P_want_corner kb_want_corner (spF K false 2 d_want_corner)) (X_count_of : Fx P w K mg base 1 "count_of" P_count_of kb_count_of (spF K false 2 d_count_of)) :
  FnG P w K mg base 5 f (PySem.W.fnOf "counted" "counted" (defArgs s_counted) (defBody s_counted) (defScope s_counted) .none kV doc pm an cdv ct) P_counted (spF K false 2 d_counted) := by
  refine fnG_of (N := N_counted) lk cd sc_counted (fun vs H Q h => spF_len h) fun A outer s H vs Q hr hgd h => ⟨_, ?_, body_ok (N := N_counted) (by decide) (by decide) h⟩
  have nd := sc_counted.nd
  exact pss_d
    (ps_dset (i := 2) nd rfl (by first | exact Or.inl rfl | exact Or.inr rfl | exact Or.inr (Or.inl rfl) | exact Or.inr (Or.inr rfl)) (fx0 X_want_order (hr.mono (j := 3) (by decide)) hgd rfl (pax (pe_dvar (pv 0) (Or.inr rfl)) (pax0) rfl) rfl (by decide) rfl rfl) rfl (by first | exact Or.inl rfl | exact Or.inr rfl | exact Or.inr (Or.inl rfl) | exact Or.inr (Or.inr rfl)) (Or.inr rfl)) (pss_d
    (ps_ddrop (fx0 X_want_corner (hr.mono (j := 4) (by decide)) hgd rfl (pax (pe_bltin cr_pLen rfl T.b_len PySem.boot_len (pao (o_bor (pv 2)) (pao0) rfl) (by decide) (by decide) rfl rfl) (pax (pe_dvar (pv 1) (Or.inr rfl)) (pax0) rfl) rfl) rfl (by decide) rfl rfl) rfl) (pss_d
    (ps_dret (fx0 X_count_of (hr.mono (j := 1) (by decide)) hgd rfl (pax (pe_dvar (pv 2) (Or.inr rfl)) (pax (pe_dvar (pv 1) (Or.inr rfl)) (pax0) rfl) rfl) rfl (by decide) rfl rfl)) (pss_d0)))
theorem sc_table_of : FnScope N_table_of P_table_of (defScope s_table_of) := ⟨rfl, rfl, rfl, by decide +kernel, rfl, by decide +kernel, by decide +kernel⟩
theorem ok_table_of {f : Addr} {kV doc pm cdv ct oc : Value} {an od : Option Addr} {osl : Array (Option Value)} (lk : K.lookup f = some ⟨oc, od, .func (PySem.W.fnOf "table_of" "table_of" (defArgs s_table_of) (defBody s_table_of) (defScope s_table_of) .none kV doc pm an cdv ct), osl⟩) (cd : PySem.W.codeIn K cdv "table_of" = true) (T : Txt K mg)  :
  FnG P w K mg base 1 f (PySem.W.fnOf "table_of" "table_of" (defArgs s_table_of) (defBody s_table_of) (defScope s_table_of) .none kV doc pm an cdv ct) P_table_of (spF K false 1 d_table_of) := by
  refine fnG_of (N := N_table_of) lk cd sc_table_of (fun vs H Q h => spF_len h) fun A outer s H vs Q hr hgd h => ⟨_, ?_, body_ok (N := N_table_of) (by decide) (by decide) h⟩
  have nd := sc_table_of.nd
  exact pss_d
    (ps_dparO (i := 1) (j := 2) rfl nd rfl rfl (by decide) rfl rfl (pe_dlst (pax0)) (pe_bin op_pMul (o_ex (pe_frz (pe_dlst (pax (pe_const pe_int (fun _ => .int _)) (pax0) rfl)))) (o_ex (pe_bltin cr_pLen rfl T.b_len PySem.boot_len (pao (o_bor (pv 0)) (pao0) rfl) (by decide) (by decide) rfl rfl))) (Or.inr rfl) (Or.inr rfl) rfl rfl rfl rfl) (pss_d
    (ps_dfor PassesOwn.never rfl (pi_dseq (pe_dvar (pv 0) (Or.inr rfl))) (pg_dnm nd rfl (by first | exact Or.inl rfl | exact Or.inr rfl | exact Or.inr (Or.inl rfl) | exact Or.inr (Or.inr rfl)) (by first | exact Or.inl rfl | exact Or.inr rfl | exact Or.inr (Or.inl rfl) | exact Or.inr (Or.inr rfl)) (Or.inr rfl)) (pss_d
    (ps_dsetLc (i := 2) (own := [(("at" : Str), 4), (("many" : Str), 5)]) (W := Dt K) (g := gTp [gNm 4, gNm 5]) (c := dYes) (t := b1_table_of) rfl rfl (sw_true rfl rfl rfl (by decide +kernel)) (Or.inr rfl) rfl nd (pi_denu rfl T.b_enumerate (pe_dvar (pv 2) (Or.inr rfl)) rfl rfl) (blkOk_by (N := N_table_of) (sc := defScope s_table_of) (by decide +kernel)) (fun _ _ _ _ _ => pg_dtp rfl (pgs_d (pg_dnm nd rfl (by first | exact Or.inl rfl | exact Or.inr rfl | exact Or.inr (Or.inl rfl) | exact Or.inr (Or.inr rfl)) (by first | exact Or.inl rfl | exact Or.inr rfl | exact Or.inr (Or.inl rfl) | exact Or.inr (Or.inr rfl)) (Or.inr rfl)) (pgs_d (pg_dnm nd rfl (by first | exact Or.inl rfl | exact Or.inr rfl | exact Or.inr (Or.inl rfl) | exact Or.inr (Or.inr rfl)) (by first | exact Or.inl rfl | exact Or.inr rfl | exact Or.inr (Or.inl rfl) | exact Or.inr (Or.inr rfl)) (Or.inr rfl)) (pgs_d0) rfl) rfl) rfl rfl) (fun _ _ _ _ _ => pts_no) (fun _ _ _ _ _ => pe_frz (pe_dif (pt_cmpd (op_pLt) (o_bor (pv 4)) (o_bor (pv 3)) rfl) (pe_bin op_pAdd (o_bor (pv 5)) (o_ex (pe_const pe_int (fun _ => .int _)))) (pe_dvar (pv 5) (Or.inr rfl)))) (fun _ => rfl) (by decide) (Or.inr rfl)) (pss_d
    (ps_ddrop (pe_dmut PySem.F.slot_list_append PySem.F.type_list_append mt_append mut_append (pv 1) (pax (pe_dvar (pv 2) (Or.inr rfl)) (pax0) rfl) rfl rfl rfl rfl rfl) rfl) (pss_d0))) (fun _ => rfl)) (pss_d
    (ps_dret (pe_dmove (pv 1) (Or.inr rfl))) (pss_d0)))
theorem sc_corner_table : FnScope N_corner_table P_corner_table (defScope s_corner_table) := ⟨rfl, rfl, rfl, by decide +kernel, rfl, by decide +kernel, by decide +kernel⟩
theorem ok_corner_table {f : Addr} {kV doc pm cdv ct oc : Value} {an od : Option Addr} {osl : Array (Option Value)} (lk : K.lookup f = some ⟨oc, od, .func (PySem.W.fnOf "corner_table" "corner_table" (defArgs s_corner_table) (defBody s_corner_table) (defScope s_corner_table) .none kV doc pm an cdv ct), osl⟩) (cd : PySem.W.codeIn K cdv "corner_table" = true) (T : Txt K mg) (X_table_of : Fx P w K mg base 1 "table_of" P_table_of kb_table_of (spF K false 1 d_table_of)) (X_want_order : Fx P w K mg base 3 "want_order" P_want_order kb_want_order (spF K false 1 d_want_order)) :
  FnG P w K mg base 4 f (PySem.W.fnOf "corner_table" "corner_table" (defArgs s_corner_table) (defBody s_corner_table) (defScope s_corner_table) .none kV doc pm an cdv ct) P_corner_table (spF K false 1 d_corner_table) := by
  refine fnG_of (N := N_corner_table) lk cd sc_corner_table (fun vs H Q h => spF_len h) fun A outer s H vs Q hr hgd h => ⟨_, ?_, bodyO_ok (N := N_corner_table) (by decide) h⟩
  have nd := sc_corner_table.nd
  exact pssO_one (pe_og (fxF X_table_of (hr.mono (j := 1) (by decide)) hgd rfl (pax (pe_frz (fx0 X_want_order (hr.mono (j := 3) (by decide)) hgd rfl (pax (pe_dvar (pv 0) (Or.inr rfl)) (pax0) rfl) rfl (by decide) rfl rfl)) (pax0) rfl) rfl (by decide) rfl rfl))
theorem sc_first_over : FnScope N_first_over P_first_over (defScope s_first_over) := ⟨rfl, rfl, rfl, by decide +kernel, rfl, by decide +kernel, by decide +kernel⟩
theorem ok_first_over {f : Addr} {kV doc pm cdv ct oc : Value} {an od : Option Addr} {osl : Array (Option Value)} (lk : K.lookup f = some ⟨oc, od, .func (PySem.W.fnOf "first_over" "first_over" (defArgs s_first_over) (defBody s_first_over) (defScope s_first_over) .none kV doc pm an cdv ct), osl⟩) (cd : PySem.W.codeIn K cdv "first_over" = true) (T : Txt K mg) (X_table_of : Fx P w K mg base 1 "table_of" P_table_of kb_table_of (spF K false 1 d_table_of)) :
  FnG P w K mg base 2 f (PySem.W.fnOf "first_over" "first_over" (defArgs s_first_over) (defBody s_first_over) (defScope s_first_over) .none kV doc pm an cdv ct) P_first_over (spF K false 2 d_first_over) := by
  refine fnG_of (N := N_first_over) lk cd sc_first_over (fun vs H Q h => spF_len h) fun A outer s H vs Q hr hgd h => ⟨_, ?_, body_ok (N := N_first_over) (by decide) (by decide) h⟩
  have nd := sc_first_over.nd
  exact pss_d
    (ps_dfor PassesOwn.never rfl (pi_denz rfl T.b_enumerate rfl T.b_zip (pax (pe_frz (fx0 X_table_of (hr.mono (j := 1) (by decide)) hgd rfl (pax (pe_dvar (pv 0) (Or.inr rfl)) (pax0) rfl) rfl (by decide) rfl rfl)) (pax (pe_frz (fx0 X_table_of (hr.mono (j := 1) (by decide)) hgd rfl (pax (pe_dvar (pv 1) (Or.inr rfl)) (pax0) rfl) rfl (by decide) rfl rfl)) pax0 rfl) rfl) rfl rfl rfl rfl) (pg_dtp rfl (pgs_d (pg_dnm nd rfl (by first | exact Or.inl rfl | exact Or.inr rfl | exact Or.inr (Or.inl rfl) | exact Or.inr (Or.inr rfl)) (by first | exact Or.inl rfl | exact Or.inr rfl | exact Or.inr (Or.inl rfl) | exact Or.inr (Or.inr rfl)) (Or.inr rfl)) (pgs_d (PG.weak (pg_dtp rfl (pgs_d (pg_dnm nd rfl (by first | exact Or.inl rfl | exact Or.inr rfl | exact Or.inr (Or.inl rfl) | exact Or.inr (Or.inr rfl)) (by first | exact Or.inl rfl | exact Or.inr rfl | exact Or.inr (Or.inl rfl) | exact Or.inr (Or.inr rfl)) (Or.inr rfl)) (pgs_d (pg_dnm nd rfl (by first | exact Or.inl rfl | exact Or.inr rfl | exact Or.inr (Or.inl rfl) | exact Or.inr (Or.inr rfl)) (by first | exact Or.inl rfl | exact Or.inr rfl | exact Or.inr (Or.inl rfl) | exact Or.inr (Or.inr rfl)) (Or.inr rfl)) (pgs_d0) rfl) rfl) rfl rfl)) (pgs_d0) rfl) rfl) rfl rfl) (pss_d
    (ps_dfor PassesOwn.never rfl (pi_denu rfl T.b_enumerate (pe_dvar (pv 3) (Or.inr rfl)) rfl rfl) (pg_dtp rfl (pgs_d (pg_dnm nd rfl (by first | exact Or.inl rfl | exact Or.inr rfl | exact Or.inr (Or.inl rfl) | exact Or.inr (Or.inr rfl)) (by first | exact Or.inl rfl | exact Or.inr rfl | exact Or.inr (Or.inl rfl) | exact Or.inr (Or.inr rfl)) (Or.inr rfl)) (pgs_d (pg_dnm nd rfl (by first | exact Or.inl rfl | exact Or.inr rfl | exact Or.inr (Or.inl rfl) | exact Or.inr (Or.inr rfl)) (by first | exact Or.inl rfl | exact Or.inr rfl | exact Or.inr (Or.inl rfl) | exact Or.inr (Or.inr rfl)) (Or.inr rfl)) (pgs_d0) rfl) rfl) rfl rfl) (pss_d
    (ps_dif (pt_cmpd (op_pGt) (o_bor (pv 6)) (o_ex (pe_ix1 ix_pIx (o_bor (pv 4)) (o_bor (pv 5)) (fun _ _ => rfl))) rfl) (pss_d
    (ps_dret (pe_dtup (pax (pe_frz (pe_bin op_pAdd (o_bor (pv 2)) (o_ex (pe_const pe_int (fun _ => .int _))))) (pax (pe_frz (pe_bin op_pAdd (o_bor (pv 5)) (o_ex (pe_const pe_int (fun _ => .int _))))) (pax0) rfl) rfl))) (pss_d0)) (pss_d0)) (pss_d0)) (fun _ => rfl)) (pss_d0)) (fun _ => rfl)) (pss_d
    (ps_dret (pe_const pe_non (fun _ => .non))) (pss_d0))
theorem sc_over : FnScope N_over P_over (defScope s_over) := ⟨rfl, rfl, rfl, by decide +kernel, rfl, by decide +kernel, by decide +kernel⟩
theorem ok_over {f : Addr} {kV doc pm cdv ct oc : Value} {an od : Option Addr} {osl : Array (Option Value)} (lk : K.lookup f = some ⟨oc, od, .func (PySem.W.fnOf "over" "over" (defArgs s_over) (defBody s_over) (defScope s_over) .none kV doc pm an cdv ct), osl⟩) (cd : PySem.W.codeIn K cdv "over" = true) (T : Txt K mg) (X_want_two : Fx P w K mg base 4 "want_two" P_want_two kb_want_two (spF K false 2 d_want_two)) (X_first_over : Fx P w K mg base 2 "first_over" P_first_over kb_first_over (spF K false 2 d_first_over)) :
  FnG P w K mg base 5 f (PySem.W.fnOf "over" "over" (defArgs s_over) (defBody s_over) (defScope s_over) .none kV doc pm an cdv ct) P_over (spF K false 2 d_over) := by
  refine fnG_of (N := N_over) lk cd sc_over (fun vs H Q h => spF_len h) fun A outer s H vs Q hr hgd h => ⟨_, ?_, body_ok (N := N_over) (by decide) (by decide) h⟩
  have nd := sc_over.nd
  exact pss_d
    (ps_dasg (pe_frz (fx0 X_want_two (hr.mono (j := 4) (by decide)) hgd rfl (pax (pe_dvar (pv 0) (Or.inr rfl)) (pax (pe_dvar (pv 1) (Or.inr rfl)) (pax0) rfl) rfl) rfl (by decide) rfl rfl)) (PG.weak (pg_dtp rfl (pgs_d (pg_dnm nd rfl (by first | exact Or.inl rfl | exact Or.inr rfl | exact Or.inr (Or.inl rfl) | exact Or.inr (Or.inr rfl)) (by first | exact Or.inl rfl | exact Or.inr rfl | exact Or.inr (Or.inl rfl) | exact Or.inr (Or.inr rfl)) (Or.inr rfl)) (pgs_d (pg_dnm nd rfl (by first | exact Or.inl rfl | exact Or.inr rfl | exact Or.inr (Or.inl rfl) | exact Or.inr (Or.inr rfl)) (by first | exact Or.inl rfl | exact Or.inr rfl | exact Or.inr (Or.inl rfl) | exact Or.inr (Or.inr rfl)) (Or.inr rfl)) (pgs_d0) rfl) rfl) rfl rfl)) rfl rfl rfl) (pss_d
    (ps_dret (fx0 X_first_over (hr.mono (j := 2) (by decide)) hgd rfl (pax (pe_dvar (pv 2) (Or.inr rfl)) (pax (pe_dvar (pv 3) (Or.inr rfl)) (pax0) rfl) rfl) rfl (by decide) rfl rfl)) (pss_d0))
theorem sc_L_pot : FnScope N_L_pot P_L_pot (defScope s_L_pot) := ⟨rfl, rfl, rfl, by decide +kernel, rfl, by decide +kernel, by decide +kernel⟩
theorem ok_L_pot {f : Addr} {kV doc pm cdv ct oc : Value} {an od : Option Addr} {osl : Array (Option Value)} (lk : K.lookup f = some ⟨oc, od, .func (PySem.W.fnOf "_law_pot" "_law_pot" (defArgs s_L_pot) (defBody s_L_pot) (defScope s_L_pot) .none kV doc pm an cdv ct), osl⟩) (cd : PySem.W.codeIn K cdv "_law_pot" = true) (T : Txt K mg)  :
  FnG P w K mg base 1 f (PySem.W.fnOf "_law_pot" "_law_pot" (defArgs s_L_pot) (defBody s_L_pot) (defScope s_L_pot) .none kV doc pm an cdv ct) P_L_pot (spF K false 2 d_L_pot) := by
  refine fnG_of (N := N_L_pot) lk cd sc_L_pot (fun vs H Q h => spF_len h) fun A outer s H vs Q hr hgd h => ⟨_, ?_, body_ok (N := N_L_pot) (by decide) (by decide) h⟩
  have nd := sc_L_pot.nd
  have u66 : (A.deeper (envOfC "_law_pot" (defScope s_L_pot) s.heap.objs.size f cdv)).units + 66 < cLine := x66 hr
  exact pss_d
    (ps_dset (i := 2) nd rfl (by first | exact Or.inl rfl | exact Or.inr rfl | exact Or.inr (Or.inl rfl) | exact Or.inr (Or.inr rfl)) (pe_dif (pt_cmpd (op_pLt) (o_bor (pv 1)) (o_ex (pe_bltin cr_pLen rfl T.b_len PySem.boot_len (pao (o_bor (pv 0)) (pao0) rfl) (by decide) (by decide) rfl rfl)) rfl) (pe_bltin cr_pAbs rfl T.b_abs boot_abs (pao (o_ex (pe_ix1 ix_pIx (o_bor (pv 0)) (o_bor (pv 1)) (fun _ _ => rfl))) (pao0) rfl) (by decide) (by decide) rfl rfl) (pe_bin op_pAdd (o_ex (pe_frz (pe_bin op_pMul (o_ex (pe_const pe_int (fun _ => .int _))) (o_bor (pv 1))))) (o_ex (pe_const pe_int (fun _ => .int _))))) rfl (by first | exact Or.inl rfl | exact Or.inr rfl | exact Or.inr (Or.inl rfl) | exact Or.inr (Or.inr rfl)) (Or.inr rfl)) (pss_d
    (ps_dret (pe_dlst (pax (pe_bltin (cr_pMaxA rfl u66) rfl T.b_max boot_max (pao (o_ex (pe_const pe_int (fun _ => .int _))) (pao (o_ex (pe_bin op_pSub (o_bor (pv 2)) (o_ex (pe_bin op_pPow (o_ex (pe_const pe_int (fun _ => .int _))) (o_ex (pe_const pe_int (fun _ => .int _))))))) (pao0) rfl) rfl) (by decide) (by decide) rfl rfl) (pax (pe_frz (pe_bin op_pAdd (o_ex (pe_bin op_pMod (o_ex (pe_bltinT cr_pInt rfl T.b_int boot_int (pao (o_ex (pe_frz (pe_bin op_pAdd (o_ex (pe_frz (pe_bin op_pAdd (o_ex (pe_frz (pe_bin op_pMul (o_ex (pe_bin op_pMod (o_ex (pe_bltinT cr_pInt rfl T.b_int boot_int (pao (o_bor (pv 2)) (pao0) rfl) (by decide) (by decide) rfl rfl)) (o_ex (pe_const pe_int (fun _ => .int _))))) (o_ex (pe_const pe_int (fun _ => .int _)))))) (o_ex (pe_frz (pe_bin op_pMul (o_ex (pe_const pe_int (fun _ => .int _))) (o_bor (pv 1)))))))) (o_ex (pe_const pe_int (fun _ => .int _)))))) (pao0) rfl) (by decide) (by decide) rfl rfl)) (o_ex (pe_const pe_int (fun _ => .int _))))) (o_ex (pe_const pe_int (fun _ => .int _))))) (pax0) rfl) rfl))) (pss_d0))
theorem sc_L_draw : FnScope N_L_draw P_L_draw (defScope s_L_draw) := ⟨rfl, rfl, rfl, by decide +kernel, rfl, by decide +kernel, by decide +kernel⟩
theorem ok_L_draw {f : Addr} {kV doc pm cdv ct oc : Value} {an od : Option Addr} {osl : Array (Option Value)} (lk : K.lookup f = some ⟨oc, od, .func (PySem.W.fnOf "_law_draw" "_law_draw" (defArgs s_L_draw) (defBody s_L_draw) (defScope s_L_draw) .none kV doc pm an cdv ct), osl⟩) (cd : PySem.W.codeIn K cdv "_law_draw" = true) (T : Txt K mg)  :
  FnG P w K mg base 1 f (PySem.W.fnOf "_law_draw" "_law_draw" (defArgs s_L_draw) (defBody s_L_draw) (defScope s_L_draw) .none kV doc pm an cdv ct) P_L_draw (spF K true 2 d_L_draw) := by
  refine fnG_of (N := N_L_draw) lk cd sc_L_draw (fun vs H Q h => spF_len h) fun A outer s H vs Q hr hgd h => ⟨_, ?_, body_ok (N := N_L_draw) (by decide) (by decide) h⟩
  have nd := sc_L_draw.nd
  exact pss_d
    (ps_dif (pt_cmpd (op_pGt) (o_ex (pe_ix1 ix_pIx (o_bor (pv 0)) (o_ex (pe_const pe_int (fun _ => .int _))) (fun _ _ => rfl))) (o_ex (pe_const pe_int (fun _ => .int _))) rfl) (pss_d
    (ps_dasg (pe_bltin cr_pDivmod rfl T.b_divmod boot_divmod (pao (o_ex (pe_ix1 ix_pIx (o_bor (pv 0)) (o_ex (pe_const pe_int (fun _ => .int _))) (fun _ _ => rfl))) (pao (o_bor (pv 1)) (pao0) rfl) rfl) (by decide) (by decide) rfl rfl) (PG.weak (pg_dtp rfl (pgs_d (pg_dix (pv 0) (pe_const pe_int (fun _ => .int _)) (fun _ => rfl)) (pgs_d (pg_dnm nd rfl (by first | exact Or.inl rfl | exact Or.inr rfl | exact Or.inr (Or.inl rfl) | exact Or.inr (Or.inr rfl)) (by first | exact Or.inl rfl | exact Or.inr rfl | exact Or.inr (Or.inl rfl) | exact Or.inr (Or.inr rfl)) (Or.inl (by decide))) (pgs_d0) rfl) rfl) rfl rfl)) rfl rfl rfl) (pss_d
    (ps_dret (pe_dmove (pv 2) (Or.inl (by decide)))) (pss_d0))) (pss_d0)) (pss_d
    (ps_dasg (pe_bin op_pMod (o_ex (pe_bltinT cr_pInt rfl T.b_int boot_int (pao (o_ex (pe_frz (pe_bin op_pAdd (o_ex (pe_frz (pe_bin op_pMul (o_ex (pe_ix1 ix_pIx (o_bor (pv 0)) (o_ex (pe_const pe_int (fun _ => .int _))) (fun _ _ => rfl))) (o_ex (pe_const pe_int (fun _ => .int _)))))) (o_ex (pe_const pe_int (fun _ => .int _)))))) (pao0) rfl) (by decide) (by decide) rfl rfl)) (o_ex (pe_const pe_int (fun _ => .int _)))) (pg_dix (pv 0) (pe_const pe_int (fun _ => .int _)) (fun _ => rfl)) rfl rfl rfl) (pss_d
    (ps_dret (pe_bin op_pMod (o_ex (pe_bltinT cr_pInt rfl T.b_int boot_int (pao (o_ex (pe_bin op_pFdiv (o_ex (pe_bin op_pMod (o_ex (pe_bltinT cr_pInt rfl T.b_int boot_int (pao (o_ex (pe_frz (pe_bin op_pMul (o_ex (pe_ix1 ix_pIx (o_bor (pv 0)) (o_ex (pe_const pe_int (fun _ => .int _))) (fun _ _ => rfl))) (o_ex (pe_ix1 ix_pIx (o_bor (pv 0)) (o_ex (pe_const pe_int (fun _ => .int _))) (fun _ _ => rfl)))))) (pao0) rfl) (by decide) (by decide) rfl rfl)) (o_ex (pe_const pe_int (fun _ => .int _))))) (o_ex (pe_const pe_int (fun _ => .int _))))) (pao0) rfl) (by decide) (by decide) rfl rfl)) (o_bor (pv 1)))) (pss_d0)))
theorem sc_L_pick : FnScope N_L_pick P_L_pick (defScope s_L_pick) := ⟨rfl, rfl, rfl, by decide +kernel, rfl, by decide +kernel, by decide +kernel⟩
theorem ok_L_pick {f : Addr} {kV doc pm cdv ct oc : Value} {an od : Option Addr} {osl : Array (Option Value)} (lk : K.lookup f = some ⟨oc, od, .func (PySem.W.fnOf "_law_pick" "_law_pick" (defArgs s_L_pick) (defBody s_L_pick) (defScope s_L_pick) .none kV doc pm an cdv ct), osl⟩) (cd : PySem.W.codeIn K cdv "_law_pick" = true) (T : Txt K mg) (X_L_draw : Fx P w K mg base 1 "_law_draw" P_L_draw kb_L_draw (spF K true 2 d_L_draw)) :
  FnG P w K mg base 2 f (PySem.W.fnOf "_law_pick" "_law_pick" (defArgs s_L_pick) (defBody s_L_pick) (defScope s_L_pick) .none kV doc pm an cdv ct) P_L_pick (spF K true 2 d_L_pick) := by
  refine fnG_of (N := N_L_pick) lk cd sc_L_pick (fun vs H Q h => spF_len h) fun A outer s H vs Q hr hgd h => ⟨_, ?_, body_ok (N := N_L_pick) (by decide) (by decide) h⟩
  have nd := sc_L_pick.nd
  exact pss_d
    (ps_dret (pe_ix1 ix_pIx (o_bor (pv 1)) (o_ex (pe_frz (fxI X_L_draw (hr.mono (j := 1) (by decide)) hgd rfl (pv 0) (pax (pe_bltin cr_pLen rfl T.b_len PySem.boot_len (pao (o_bor (pv 1)) (pao0) rfl) (by decide) (by decide) rfl rfl) (pax0) rfl) rfl (by decide) rfl rfl))) (fun _ _ => rfl))) (pss_d0)
theorem sc_L_mixed : FnScope N_L_mixed P_L_mixed (defScope s_L_mixed) := ⟨rfl, rfl, rfl, by decide +kernel, rfl, by decide +kernel, by decide +kernel⟩
theorem ok_L_mixed {f : Addr} {kV doc pm cdv ct oc : Value} {an od : Option Addr} {osl : Array (Option Value)} (lk : K.lookup f = some ⟨oc, od, .func (PySem.W.fnOf "_law_mixed" "_law_mixed" (defArgs s_L_mixed) (defBody s_L_mixed) (defScope s_L_mixed) .none kV doc pm an cdv ct), osl⟩) (cd : PySem.W.codeIn K cdv "_law_mixed" = true) (T : Txt K mg) (X_L_draw : Fx P w K mg base 1 "_law_draw" P_L_draw kb_L_draw (spF K true 2 d_L_draw)) :
  FnG P w K mg base 2 f (PySem.W.fnOf "_law_mixed" "_law_mixed" (defArgs s_L_mixed) (defBody s_L_mixed) (defScope s_L_mixed) .none kV doc pm an cdv ct) P_L_mixed (spF K true 2 d_L_mixed) := by
  refine fnG_of (N := N_L_mixed) lk cd sc_L_mixed (fun vs H Q h => spF_len h) fun A outer s H vs Q hr hgd h => ⟨_, ?_, body_ok (N := N_L_mixed) (by decide) (by decide) h⟩
  have nd := sc_L_mixed.nd
  exact pss_d
    (ps_dparO (i := 2) (j := 3) rfl nd rfl rfl (by decide) rfl rfl (pe_bltinT cr_pList rfl T.b_list boot_list (pao (o_bor (pv 1)) (pao0) rfl) (by decide) (by decide) rfl rfl) (pe_dlst (pax0)) (Or.inl (by decide)) (Or.inl (by decide)) rfl rfl rfl rfl) (pss_d
    (ps_dfor PassesOwn.never rfl (pi_drg1 rfl T.b_range (pao (o_ex (pe_bltin cr_pLen rfl T.b_len PySem.boot_len (pao (o_bor (pv 1)) (pao0) rfl) (by decide) (by decide) rfl rfl)) (pao0) rfl) rfl rfl) (pg_dnm nd rfl (by first | exact Or.inl rfl | exact Or.inr rfl | exact Or.inr (Or.inl rfl) | exact Or.inr (Or.inr rfl)) (by first | exact Or.inl rfl | exact Or.inr rfl | exact Or.inr (Or.inl rfl) | exact Or.inr (Or.inr rfl)) (Or.inl (by decide))) (pss_d
    (ps_ddrop (pe_dmut PySem.F.slot_list_append PySem.F.type_list_append mt_append mut_append (pv 3) (pax (pe_dmut PySem.F.slot_list_pop PySem.F.type_list_pop mt_popAt mut_pop (pv 2) (pax (pe_frz (fxI X_L_draw (hr.mono (j := 1) (by decide)) hgd rfl (pv 0) (pax (pe_bltin cr_pLen rfl T.b_len PySem.boot_len (pao (o_bor (pv 2)) (pao0) rfl) (by decide) (by decide) rfl rfl) (pax0) rfl) rfl (by decide) rfl rfl)) (pax0) rfl) rfl rfl rfl rfl rfl) (pax0) rfl) rfl rfl rfl rfl rfl) rfl) (pss_d0)) (fun _ => rfl)) (pss_d
    (ps_dret (pe_dmove (pv 3) (Or.inl (by decide)))) (pss_d0)))
theorem sc_L_order : FnScope N_L_order P_L_order (defScope s_L_order) := ⟨rfl, rfl, rfl, by decide +kernel, rfl, by decide +kernel, by decide +kernel⟩
theorem ok_L_order {f : Addr} {kV doc pm cdv ct oc : Value} {an od : Option Addr} {osl : Array (Option Value)} (lk : K.lookup f = some ⟨oc, od, .func (PySem.W.fnOf "_law_order" "_law_order" (defArgs s_L_order) (defBody s_L_order) (defScope s_L_order) .none kV doc pm an cdv ct), osl⟩) (cd : PySem.W.codeIn K cdv "_law_order" = true) (T : Txt K mg) (X_L_draw : Fx P w K mg base 1 "_law_draw" P_L_draw kb_L_draw (spF K true 2 d_L_draw)) (X_L_pick : Fx P w K mg base 2 "_law_pick" P_L_pick kb_L_pick (spF K true 2 d_L_pick)) (X_L_mixed : Fx P w K mg base 2 "_law_mixed" P_L_mixed kb_L_mixed (spF K true 2 d_L_mixed)) :
  FnG P w K mg base 3 f (PySem.W.fnOf "_law_order" "_law_order" (defArgs s_L_order) (defBody s_L_order) (defScope s_L_order) .none kV doc pm an cdv ct) P_L_order (spF K true 2 d_L_order) := by
  refine fnG_of (N := N_L_order) lk cd sc_L_order (fun vs H Q h => spF_len h) fun A outer s H vs Q hr hgd h => ⟨_, ?_, body_ok (N := N_L_order) (by decide) (by decide) h⟩
  have nd := sc_L_order.nd
  have u64 : (A.deeper (envOfC "_law_order" (defScope s_L_order) s.heap.objs.size f cdv)).units + 64 < cLine := hr.units
  exact pss_d
    (ps_dset (i := 2) nd rfl (by first | exact Or.inl rfl | exact Or.inr rfl | exact Or.inr (Or.inl rfl) | exact Or.inr (Or.inr rfl)) (fxI X_L_draw (hr.mono (j := 1) (by decide)) hgd rfl (pv 0) (pax (pe_const pe_int (fun _ => .int _)) (pax0) rfl) rfl (by decide) rfl rfl) rfl (by first | exact Or.inl rfl | exact Or.inr rfl | exact Or.inr (Or.inl rfl) | exact Or.inr (Or.inr rfl)) (Or.inl (by decide))) (pss_d
    (ps_dif (pt_cmpd (op_pEq u64) (o_bor (pv 2)) (o_ex (pe_const pe_int (fun _ => .int _))) rfl) (pss_d
    (ps_dret (pe_dtrg2 rfl rfl T.b_tuple rfl T.b_range (o_ex (pe_const pe_int (fun _ => .int _))) (o_ex (pe_frz (pe_bin op_pAdd (o_bor (pv 1)) (o_ex (pe_const pe_int (fun _ => .int _)))))) rfl rfl rfl rfl)) (pss_d0)) (pss_d0)) (pss_d
    (ps_dif (pt_cmpd (op_pEq u64) (o_bor (pv 2)) (o_ex (pe_const pe_int (fun _ => .int _))) rfl) (pss_d
    (ps_dret (pe_dtrg3 rfl rfl T.b_tuple rfl T.b_range (pao (o_bor (pv 1)) (pao (o_ex (pe_const pe_int (fun _ => .int _))) (pao (o_ex (pe_un1 un_pNeg (o_ex (pe_const pe_int (fun _ => .int _))))) (pao0) rfl) rfl) rfl) rfl rfl rfl)) (pss_d0)) (pss_d0)) (pss_d
    (ps_dif (PW.pt (pt_dand (pt_cmpd (op_pLt) (o_bor (pv 2)) (o_ex (pe_const pe_int (fun _ => .int _))) rfl) (pw_and1 (pt_cmpd (op_pEq u64) (o_bor (pv 1)) (o_ex (pe_const pe_int (fun _ => .int _))) rfl)))) (pss_d
    (ps_dret (fxI X_L_pick (hr.mono (j := 2) (by decide)) hgd rfl (pv 0) (pax (pe_frz (pe_dlst (pax (pe_dtup (pax (pe_const pe_int (fun _ => .int _)) (pax (pe_const pe_int (fun _ => .int _)) (pax (pe_const pe_int (fun _ => .int _)) (pax (pe_const pe_int (fun _ => .int _)) (pax0) rfl) rfl) rfl) rfl)) (pax (pe_dtup (pax (pe_const pe_int (fun _ => .int _)) (pax (pe_const pe_int (fun _ => .int _)) (pax (pe_const pe_int (fun _ => .int _)) (pax (pe_const pe_int (fun _ => .int _)) (pax0) rfl) rfl) rfl) rfl)) (pax0) rfl) rfl))) (pax0) rfl) rfl (by decide) rfl rfl)) (pss_d0)) (pss_d0)) (pss_d
    (ps_dif (PW.pt (pt_dand (pt_cmpd (op_pLt) (o_bor (pv 2)) (o_ex (pe_const pe_int (fun _ => .int _))) rfl) (pw_and1 (pt_cmpd (op_pEq u64) (o_bor (pv 1)) (o_ex (pe_const pe_int (fun _ => .int _))) rfl)))) (pss_d
    (ps_dret (fxI X_L_pick (hr.mono (j := 2) (by decide)) hgd rfl (pv 0) (pax (pe_frz (pe_dlst (pax (pe_dtup (pax (pe_const pe_int (fun _ => .int _)) (pax (pe_const pe_int (fun _ => .int _)) (pax (pe_const pe_int (fun _ => .int _)) (pax (pe_const pe_int (fun _ => .int _)) (pax (pe_const pe_int (fun _ => .int _)) (pax0) rfl) rfl) rfl) rfl) rfl)) (pax (pe_dtup (pax (pe_const pe_int (fun _ => .int _)) (pax (pe_const pe_int (fun _ => .int _)) (pax (pe_const pe_int (fun _ => .int _)) (pax (pe_const pe_int (fun _ => .int _)) (pax (pe_const pe_int (fun _ => .int _)) (pax0) rfl) rfl) rfl) rfl) rfl)) (pax (pe_dtup (pax (pe_const pe_int (fun _ => .int _)) (pax (pe_const pe_int (fun _ => .int _)) (pax (pe_const pe_int (fun _ => .int _)) (pax (pe_const pe_int (fun _ => .int _)) (pax (pe_const pe_int (fun _ => .int _)) (pax0) rfl) rfl) rfl) rfl) rfl)) (pax (pe_dtup (pax (pe_const pe_int (fun _ => .int _)) (pax (pe_const pe_int (fun _ => .int _)) (pax (pe_const pe_int (fun _ => .int _)) (pax (pe_const pe_int (fun _ => .int _)) (pax (pe_const pe_int (fun _ => .int _)) (pax0) rfl) rfl) rfl) rfl) rfl)) (pax0) rfl) rfl) rfl) rfl))) (pax0) rfl) rfl (by decide) rfl rfl)) (pss_d0)) (pss_d0)) (pss_d
    (ps_dret (pe_bltinT cr_pTuple rfl T.b_tuple boot_tuple (pao (o_ex (pe_frz (fxI X_L_mixed (hr.mono (j := 2) (by decide)) hgd rfl (pv 0) (pax (pe_frz (pe_dlrg2 rfl rfl T.b_list rfl T.b_range (o_ex (pe_const pe_int (fun _ => .int _))) (o_ex (pe_frz (pe_bin op_pAdd (o_bor (pv 1)) (o_ex (pe_const pe_int (fun _ => .int _)))))) rfl rfl rfl rfl)) (pax0) rfl) rfl (by decide) rfl rfl))) (pao0) rfl) (by decide) (by decide) rfl rfl)) (pss_d0))))))
theorem sc_L_as : FnScope N_L_as P_L_as (defScope s_L_as) := ⟨rfl, rfl, rfl, by decide +kernel, rfl, by decide +kernel, by decide +kernel⟩
theorem ok_L_as {f : Addr} {kV doc pm cdv ct oc : Value} {an od : Option Addr} {osl : Array (Option Value)} (lk : K.lookup f = some ⟨oc, od, .func (PySem.W.fnOf "_law_as" "_law_as" (defArgs s_L_as) (defBody s_L_as) (defScope s_L_as) .none kV doc pm an cdv ct), osl⟩) (cd : PySem.W.codeIn K cdv "_law_as" = true) (T : Txt K mg) (X_L_draw : Fx P w K mg base 1 "_law_draw" P_L_draw kb_L_draw (spF K true 2 d_L_draw)) :
  FnG P w K mg base 2 f (PySem.W.fnOf "_law_as" "_law_as" (defArgs s_L_as) (defBody s_L_as) (defScope s_L_as) .none kV doc pm an cdv ct) P_L_as (spF K true 2 d_L_as) := by
  refine fnG_of (N := N_L_as) lk cd sc_L_as (fun vs H Q h => spF_len h) fun A outer s H vs Q hr hgd h => ⟨_, ?_, body_ok (N := N_L_as) (by decide) (by decide) h⟩
  have nd := sc_L_as.nd
  have u64 : (A.deeper (envOfC "_law_as" (defScope s_L_as) s.heap.objs.size f cdv)).units + 64 < cLine := hr.units
  exact pss_d
    (ps_dret (pe_dif (pt_cmpd (op_pEq u64) (o_ex (pe_frz (fxI X_L_draw (hr.mono (j := 1) (by decide)) hgd rfl (pv 0) (pax (pe_const pe_int (fun _ => .int _)) (pax0) rfl) rfl (by decide) rfl rfl))) (o_ex (pe_const pe_int (fun _ => .int _))) rfl) (pe_bltinT cr_pList rfl T.b_list boot_list (pao (o_bor (pv 1)) (pao0) rfl) (by decide) (by decide) rfl rfl) (pe_dvar (pv 1) (Or.inl (by decide))))) (pss_d0)
theorem sc_L_moved : FnScope N_L_moved P_L_moved (defScope s_L_moved) := ⟨rfl, rfl, rfl, by decide +kernel, rfl, by decide +kernel, by decide +kernel⟩
theorem ok_L_moved {f : Addr} {kV doc pm cdv ct oc : Value} {an od : Option Addr} {osl : Array (Option Value)} (lk : K.lookup f = some ⟨oc, od, .func (PySem.W.fnOf "_law_moved" "_law_moved" (defArgs s_L_moved) (defBody s_L_moved) (defScope s_L_moved) .none kV doc pm an cdv ct), osl⟩) (cd : PySem.W.codeIn K cdv "_law_moved" = true) (T : Txt K mg)  :
  FnG P w K mg base 1 f (PySem.W.fnOf "_law_moved" "_law_moved" (defArgs s_L_moved) (defBody s_L_moved) (defScope s_L_moved) .none kV doc pm an cdv ct) P_L_moved (spF K false 3 d_L_moved) := by
  refine fnG_of (N := N_L_moved) lk cd sc_L_moved (fun vs H Q h => spF_len h) fun A outer s H vs Q hr hgd h => ⟨_, ?_, body_ok (N := N_L_moved) (by decide) (by decide) h⟩
  have nd := sc_L_moved.nd
  exact pss_d
    (ps_dset (i := 3) nd rfl (by first | exact Or.inl rfl | exact Or.inr rfl | exact Or.inr (Or.inl rfl) | exact Or.inr (Or.inr rfl)) (pe_bltinT cr_pList rfl T.b_list boot_list (pao (o_bor (pv 0)) (pao0) rfl) (by decide) (by decide) rfl rfl) rfl (by first | exact Or.inl rfl | exact Or.inr rfl | exact Or.inr (Or.inl rfl) | exact Or.inr (Or.inr rfl)) (Or.inr rfl)) (pss_d
    (ps_dasg (pe_dtup (pax (pe_ix1 ix_pIx (o_bor (pv 0)) (o_bor (pv 2)) (fun _ _ => rfl)) (pax (pe_ix1 ix_pIx (o_bor (pv 0)) (o_bor (pv 1)) (fun _ _ => rfl)) (pax0) rfl) rfl)) (PG.weak (pg_dtp rfl (pgs_d (pg_dix (pv 3) (pe_dvar (pv 1) (Or.inr rfl)) (fun _ => rfl)) (pgs_d (pg_dix (pv 3) (pe_dvar (pv 2) (Or.inr rfl)) (fun _ => rfl)) (pgs_d0) rfl) rfl) rfl rfl)) rfl rfl rfl) (pss_d
    (ps_dret (pe_bltinT cr_pTuple rfl T.b_tuple boot_tuple (pao (o_bor (pv 3)) (pao0) rfl) (by decide) (by decide) rfl rfl)) (pss_d0)))
theorem sc_L_wrong : FnScope N_L_wrong P_L_wrong (defScope s_L_wrong) := ⟨rfl, rfl, rfl, by decide +kernel, rfl, by decide +kernel, by decide +kernel⟩
theorem ok_L_wrong {f : Addr} {kV doc pm cdv ct oc : Value} {an od : Option Addr} {osl : Array (Option Value)} (lk : K.lookup f = some ⟨oc, od, .func (PySem.W.fnOf "_law_wrong" "_law_wrong" (defArgs s_L_wrong) (defBody s_L_wrong) (defScope s_L_wrong) .none kV doc pm an cdv ct), osl⟩) (cd : PySem.W.codeIn K cdv "_law_wrong" = true) (T : Txt K mg)  :
  FnG P w K mg base 1 f (PySem.W.fnOf "_law_wrong" "_law_wrong" (defArgs s_L_wrong) (defBody s_L_wrong) (defScope s_L_wrong) .none kV doc pm an cdv ct) P_L_wrong (spF K false 1 d_L_wrong) := by
  refine fnG_of (N := N_L_wrong) lk cd sc_L_wrong (fun vs H Q h => spF_len h) fun A outer s H vs Q hr hgd h => ⟨_, ?_, body_ok (N := N_L_wrong) (by decide) (by decide) h⟩
  have nd := sc_L_wrong.nd
  exact pss_d
    (ps_dset (i := 1) nd rfl (by first | exact Or.inl rfl | exact Or.inr rfl | exact Or.inr (Or.inl rfl) | exact Or.inr (Or.inr rfl)) (pe_bltin cr_pLen rfl T.b_len PySem.boot_len (pao (o_bor (pv 0)) (pao0) rfl) (by decide) (by decide) rfl rfl) rfl (by first | exact Or.inl rfl | exact Or.inr rfl | exact Or.inr (Or.inl rfl) | exact Or.inr (Or.inr rfl)) (Or.inr rfl)) (pss_d
    (ps_dset (i := 2) nd rfl (by first | exact Or.inl rfl | exact Or.inr rfl | exact Or.inr (Or.inl rfl) | exact Or.inr (Or.inr rfl)) (pe_dlst (pax0)) rfl (by first | exact Or.inl rfl | exact Or.inr rfl | exact Or.inr (Or.inl rfl) | exact Or.inr (Or.inr rfl)) (Or.inr rfl)) (pss_d
    (ps_dfor PassesOwn.never rfl (pi_drg1 rfl T.b_range (pao (o_bor (pv 1)) (pao0) rfl) rfl rfl) (pg_dnm nd rfl (by first | exact Or.inl rfl | exact Or.inr rfl | exact Or.inr (Or.inl rfl) | exact Or.inr (Or.inr rfl)) (by first | exact Or.inl rfl | exact Or.inr rfl | exact Or.inr (Or.inl rfl) | exact Or.inr (Or.inr rfl)) (Or.inr rfl)) (pss_d
    (ps_ddrop (pe_dext (pv 2) (pe_dlc (own := [(("_law_far" : Str), 4)]) (W := Dq K) (g := gNm 4) (c := b1_L_wrong) (t := dTup [dVar 3, dVar 4]) rfl nd (pi_drg2 rfl T.b_range (pao (o_ex (pe_frz (pe_bin op_pAdd (o_bor (pv 3)) (o_ex (pe_const pe_int (fun _ => .int _)))))) (pao (o_bor (pv 1)) (pao0) rfl) rfl) rfl rfl rfl) (blkOk_by (N := N_L_wrong) (sc := defScope s_L_wrong) (by decide +kernel)) (fun _ _ _ _ _ => pg_dnm nd rfl (by first | exact Or.inl rfl | exact Or.inr rfl | exact Or.inr (Or.inl rfl) | exact Or.inr (Or.inr rfl)) (by first | exact Or.inl rfl | exact Or.inr rfl | exact Or.inr (Or.inl rfl) | exact Or.inr (Or.inr rfl)) (Or.inr rfl)) (fun _ _ _ _ _ => pts_one (pt_cmpd (op_pGt) (o_ex (pe_ix1 ix_pIx (o_bor (pv 0)) (o_bor (pv 3)) (fun _ _ => rfl))) (o_ex (pe_ix1 ix_pIx (o_bor (pv 0)) (o_bor (pv 4)) (fun _ _ => rfl))) rfl)) (fun _ _ _ _ _ => pe_dtup (pax (pe_dvar (pv 3) (Or.inr rfl)) (pax (pe_dvar (pv 4) (Or.inr rfl)) (pax0) rfl) rfl)) (fun _ => rfl) (by decide) (Or.inr rfl)) rfl rfl rfl rfl) rfl) (pss_d0)) (fun _ => rfl)) (pss_d
    (ps_dret (pe_dmove (pv 2) (Or.inr rfl))) (pss_d0))))
theorem sc_L_count : FnScope N_L_count P_L_count (defScope s_L_count) := ⟨rfl, rfl, rfl, by decide +kernel, rfl, by decide +kernel, by decide +kernel⟩
theorem ok_L_count {f : Addr} {kV doc pm cdv ct oc : Value} {an od : Option Addr} {osl : Array (Option Value)} (lk : K.lookup f = some ⟨oc, od, .func (PySem.W.fnOf "_law_count" "_law_count" (defArgs s_L_count) (defBody s_L_count) (defScope s_L_count) .none kV doc pm an cdv ct), osl⟩) (cd : PySem.W.codeIn K cdv "_law_count" = true) (T : Txt K mg)  :
  FnG P w K mg base 1 f (PySem.W.fnOf "_law_count" "_law_count" (defArgs s_L_count) (defBody s_L_count) (defScope s_L_count) .none kV doc pm an cdv ct) P_L_count (spF K false 2 d_L_count) := by
  refine fnG_of (N := N_L_count) lk cd sc_L_count (fun vs H Q h => spF_len h) fun A outer s H vs Q hr hgd h => ⟨_, ?_, body_ok (N := N_L_count) (by decide) (by decide) h⟩
  have nd := sc_L_count.nd
  exact pss_d
    (ps_dret (pe_bltin (cr_pSum rfl) rfl T.b_sum boot_sum (pao (o_ex (pe_frz (pe_dlc (own := [(("_law_thing" : Str), 2)]) (W := Dq K) (g := gNm 2) (c := b1_L_count) (t := dC (.int 1)) rfl nd (pi_dseq (pe_frz (pe_dslice (o_bor (pv 0)) (po_d trivial) (po_d (d := some _) (pe_ix1 ix_pIx (o_bor (pv 1)) (o_ex (pe_const pe_int (fun _ => .int _))) (fun _ _ => rfl)))))) (blkOk_by (N := N_L_count) (sc := defScope s_L_count) (by decide +kernel)) (fun _ _ _ _ _ => pg_dnm nd rfl (by first | exact Or.inl rfl | exact Or.inr rfl | exact Or.inr (Or.inl rfl) | exact Or.inr (Or.inr rfl)) (by first | exact Or.inl rfl | exact Or.inr rfl | exact Or.inr (Or.inl rfl) | exact Or.inr (Or.inr rfl)) (Or.inr rfl)) (fun _ _ _ _ _ => pts_one (pt_cmpd (op_pGe) (o_bor (pv 2)) (o_ex (pe_ix1 ix_pIx (o_bor (pv 1)) (o_ex (pe_const pe_int (fun _ => .int _))) (fun _ _ => rfl))) rfl)) (fun _ _ _ _ _ => pe_const pe_int (fun _ => .int _)) (fun _ => rfl) (by decide) (Or.inr rfl)))) (pao0) rfl) (by decide) (by decide) rfl rfl)) (pss_d0)
theorem sc_L_corners : FnScope N_L_corners P_L_corners (defScope s_L_corners) := ⟨rfl, rfl, rfl, by decide +kernel, rfl, by decide +kernel, by decide +kernel⟩
theorem ok_L_corners {f : Addr} {kV doc pm cdv ct oc : Value} {an od : Option Addr} {osl : Array (Option Value)} (lk : K.lookup f = some ⟨oc, od, .func (PySem.W.fnOf "_law_corners" "_law_corners" (defArgs s_L_corners) (defBody s_L_corners) (defScope s_L_corners) .none kV doc pm an cdv ct), osl⟩) (cd : PySem.W.codeIn K cdv "_law_corners" = true) (T : Txt K mg)  :
  FnG P w K mg base 1 f (PySem.W.fnOf "_law_corners" "_law_corners" (defArgs s_L_corners) (defBody s_L_corners) (defScope s_L_corners) .none kV doc pm an cdv ct) P_L_corners (spF K false 1 d_L_corners) := by
  refine fnG_of (N := N_L_corners) lk cd sc_L_corners (fun vs H Q h => spF_len h) fun A outer s H vs Q hr hgd h => ⟨_, ?_, body_ok (N := N_L_corners) (by decide) (by decide) h⟩
  have nd := sc_L_corners.nd
  exact pss_d
    (ps_dset (i := 1) nd rfl (by first | exact Or.inl rfl | exact Or.inr rfl | exact Or.inr (Or.inl rfl) | exact Or.inr (Or.inr rfl)) (pe_dlst (pax0)) rfl (by first | exact Or.inl rfl | exact Or.inr rfl | exact Or.inr (Or.inl rfl) | exact Or.inr (Or.inr rfl)) (Or.inr rfl)) (pss_d
    (ps_dfor PassesOwn.never rfl (pi_drg2 rfl T.b_range (pao (o_ex (pe_const pe_int (fun _ => .int _))) (pao (o_ex (pe_frz (pe_bin op_pAdd (o_bor (pv 0)) (o_ex (pe_const pe_int (fun _ => .int _)))))) (pao0) rfl) rfl) rfl rfl rfl) (pg_dnm nd rfl (by first | exact Or.inl rfl | exact Or.inr rfl | exact Or.inr (Or.inl rfl) | exact Or.inr (Or.inr rfl)) (by first | exact Or.inl rfl | exact Or.inr rfl | exact Or.inr (Or.inl rfl) | exact Or.inr (Or.inr rfl)) (Or.inr rfl)) (pss_d
    (ps_ddrop (pe_dext (pv 1) (pe_dlc (own := [(("_law_least" : Str), 3)]) (W := Dq K) (g := gNm 3) (c := dYes) (t := dTup [dVar 2, dVar 3]) rfl nd (pi_drg2 rfl T.b_range (pao (o_ex (pe_const pe_int (fun _ => .int _))) (pao (o_ex (pe_frz (pe_bin op_pAdd (o_bor (pv 0)) (o_ex (pe_const pe_int (fun _ => .int _)))))) (pao0) rfl) rfl) rfl rfl rfl) (blkOk_by (N := N_L_corners) (sc := defScope s_L_corners) (by decide +kernel)) (fun _ _ _ _ _ => pg_dnm nd rfl (by first | exact Or.inl rfl | exact Or.inr rfl | exact Or.inr (Or.inl rfl) | exact Or.inr (Or.inr rfl)) (by first | exact Or.inl rfl | exact Or.inr rfl | exact Or.inr (Or.inl rfl) | exact Or.inr (Or.inr rfl)) (Or.inr rfl)) (fun _ _ _ _ _ => pts_no) (fun _ _ _ _ _ => pe_dtup (pax (pe_dvar (pv 2) (Or.inr rfl)) (pax (pe_dvar (pv 3) (Or.inr rfl)) (pax0) rfl) rfl)) (fun _ => rfl) (by decide) (Or.inr rfl)) rfl rfl rfl rfl) rfl) (pss_d0)) (fun _ => rfl)) (pss_d
    (ps_dret (pe_dmove (pv 1) (Or.inr rfl))) (pss_d0)))
theorem sc_L_table : FnScope N_L_table P_L_table (defScope s_L_table) := ⟨rfl, rfl, rfl, by decide +kernel, rfl, by decide +kernel, by decide +kernel⟩
theorem ok_L_table {f : Addr} {kV doc pm cdv ct oc : Value} {an od : Option Addr} {osl : Array (Option Value)} (lk : K.lookup f = some ⟨oc, od, .func (PySem.W.fnOf "_law_table" "_law_table" (defArgs s_L_table) (defBody s_L_table) (defScope s_L_table) .none kV doc pm an cdv ct), osl⟩) (cd : PySem.W.codeIn K cdv "_law_table" = true) (T : Txt K mg) (X_L_count : Fx P w K mg base 1 "_law_count" P_L_count kb_L_count (spF K false 2 d_L_count)) :
  FnG P w K mg base 2 f (PySem.W.fnOf "_law_table" "_law_table" (defArgs s_L_table) (defBody s_L_table) (defScope s_L_table) .none kV doc pm an cdv ct) P_L_table (spF K false 1 d_L_table) := by
  refine fnG_of (N := N_L_table) lk cd sc_L_table (fun vs H Q h => spF_len h) fun A outer s H vs Q hr hgd h => ⟨_, ?_, body_ok (N := N_L_table) (by decide) (by decide) h⟩
  have nd := sc_L_table.nd
  exact pss_d
    (ps_dset (i := 1) nd rfl (by first | exact Or.inl rfl | exact Or.inr rfl | exact Or.inr (Or.inl rfl) | exact Or.inr (Or.inr rfl)) (pe_bltin cr_pLen rfl T.b_len PySem.boot_len (pao (o_bor (pv 0)) (pao0) rfl) (by decide) (by decide) rfl rfl) rfl (by first | exact Or.inl rfl | exact Or.inr rfl | exact Or.inr (Or.inl rfl) | exact Or.inr (Or.inr rfl)) (Or.inr rfl)) (pss_d
    (ps_dret (pe_dlc (own := [(("_law_places" : Str), 2)]) (W := Dq K) (g := gNm 2) (c := dYes) (t := b1_L_table) rfl nd (pi_drg2 rfl T.b_range (pao (o_ex (pe_const pe_int (fun _ => .int _))) (pao (o_ex (pe_frz (pe_bin op_pAdd (o_bor (pv 1)) (o_ex (pe_const pe_int (fun _ => .int _)))))) (pao0) rfl) rfl) rfl rfl rfl) (blkOk_by (N := N_L_table) (sc := defScope s_L_table) (by decide +kernel)) (fun _ _ _ _ _ => pg_dnm nd rfl (by first | exact Or.inl rfl | exact Or.inr rfl | exact Or.inr (Or.inl rfl) | exact Or.inr (Or.inr rfl)) (by first | exact Or.inl rfl | exact Or.inr rfl | exact Or.inr (Or.inl rfl) | exact Or.inr (Or.inr rfl)) (Or.inr rfl)) (fun _ _ _ _ _ => pts_no) (fun _ _ _ _ _ => pe_frz (pe_dlc (own := [(("_law_least" : Str), 3)]) (W := Dq K) (g := gNm 3) (c := dYes) (t := frz (dCall d_L_count none [dVar 0, dTup [dVar 2, dVar 3]])) rfl nd (pi_drg2 rfl T.b_range (pao (o_ex (pe_const pe_int (fun _ => .int _))) (pao (o_ex (pe_frz (pe_bin op_pAdd (o_bor (pv 1)) (o_ex (pe_const pe_int (fun _ => .int _)))))) (pao0) rfl) rfl) rfl rfl rfl) (blkOk_by (N := N_L_table) (by with_unfolding_all rfl)) (fun _ _ _ _ _ => pg_dnm nd rfl (by first | exact Or.inl rfl | exact Or.inr rfl | exact Or.inr (Or.inl rfl) | exact Or.inr (Or.inr rfl)) (by first | exact Or.inl rfl | exact Or.inr rfl | exact Or.inr (Or.inl rfl) | exact Or.inr (Or.inr rfl)) (Or.inr rfl)) (fun _ _ _ _ _ => pts_no) (fun _ _ _ _ _ => pe_frz (fx0 X_L_count (hr.mono (j := 1) (by decide)) hgd rfl (pax (pe_dvar (pv 0) (Or.inr rfl)) (pax (pe_dtup (pax (pe_dvar (pv 2) (Or.inr rfl)) (pax (pe_dvar (pv 3) (Or.inr rfl)) (pax0) rfl) rfl)) (pax0) rfl) rfl) rfl (by decide) rfl rfl)) (fun _ => rfl) (by decide) (Or.inr rfl))) (fun _ => rfl) (by decide) (Or.inr rfl))) (pss_d0))
theorem sc_L_over : FnScope N_L_over P_L_over (defScope s_L_over) := ⟨rfl, rfl, rfl, by decide +kernel, rfl, by decide +kernel, by decide +kernel⟩
theorem ok_L_over {f : Addr} {kV doc pm cdv ct oc : Value} {an od : Option Addr} {osl : Array (Option Value)} (lk : K.lookup f = some ⟨oc, od, .func (PySem.W.fnOf "_law_over" "_law_over" (defArgs s_L_over) (defBody s_L_over) (defScope s_L_over) .none kV doc pm an cdv ct), osl⟩) (cd : PySem.W.codeIn K cdv "_law_over" = true) (T : Txt K mg) (X_L_corners : Fx P w K mg base 1 "_law_corners" P_L_corners kb_L_corners (spF K false 1 d_L_corners)) (X_L_count : Fx P w K mg base 1 "_law_count" P_L_count kb_L_count (spF K false 2 d_L_count)) :
  FnG P w K mg base 2 f (PySem.W.fnOf "_law_over" "_law_over" (defArgs s_L_over) (defBody s_L_over) (defScope s_L_over) .none kV doc pm an cdv ct) P_L_over (spF K false 2 d_L_over) := by
  refine fnG_of (N := N_L_over) lk cd sc_L_over (fun vs H Q h => spF_len h) fun A outer s H vs Q hr hgd h => ⟨_, ?_, body_ok (N := N_L_over) (by decide) (by decide) h⟩
  have nd := sc_L_over.nd
  have u64 : (A.deeper (envOfC "_law_over" (defScope s_L_over) s.heap.objs.size f cdv)).units + 64 < cLine := hr.units
  exact pss_d
    (ps_dsetLc (i := 2) (own := [(("_law_corner" : Str), 3)]) (W := Dq K) (g := gNm 3) (c := b1_L_over) (t := dVar 3) rfl rfl (sw_true rfl rfl rfl (by decide +kernel)) (Or.inr rfl) rfl nd (pi_dseq (pe_frz (fx0 X_L_corners (hr.mono (j := 1) (by decide)) hgd rfl (pax (pe_bltin cr_pLen rfl T.b_len PySem.boot_len (pao (o_bor (pv 0)) (pao0) rfl) (by decide) (by decide) rfl rfl) (pax0) rfl) rfl (by decide) rfl rfl))) (blkOk_by (N := N_L_over) (sc := defScope s_L_over) (by decide +kernel)) (fun _ _ _ _ _ => pg_dnm nd rfl (by first | exact Or.inl rfl | exact Or.inr rfl | exact Or.inr (Or.inl rfl) | exact Or.inr (Or.inr rfl)) (by first | exact Or.inl rfl | exact Or.inr rfl | exact Or.inr (Or.inl rfl) | exact Or.inr (Or.inr rfl)) (Or.inr rfl)) (fun _ _ _ _ _ => pts_one (pt_cmpd (op_pGt) (o_ex (pe_frz (fx0 X_L_count (hr.mono (j := 1) (by decide)) hgd rfl (pax (pe_dvar (pv 0) (Or.inr rfl)) (pax (pe_dvar (pv 3) (Or.inr rfl)) (pax0) rfl) rfl) rfl (by decide) rfl rfl))) (o_ex (pe_frz (fx0 X_L_count (hr.mono (j := 1) (by decide)) hgd rfl (pax (pe_dvar (pv 1) (Or.inr rfl)) (pax (pe_dvar (pv 3) (Or.inr rfl)) (pax0) rfl) rfl) rfl (by decide) rfl rfl))) rfl)) (fun _ _ _ _ _ => pe_dvar (pv 3) (Or.inr rfl)) (fun _ => rfl) (by decide) (Or.inr rfl)) (pss_d
    (ps_dret (pe_dif (pt_cmpd (op_pNe u64) (o_bor (pv 2)) (o_ex (pe_frz (pe_dlst (pax0)))) rfl) (pe_ix1 ix_pIx (o_bor (pv 2)) (o_ex (pe_const pe_int (fun _ => .int _))) (fun _ _ => rfl)) (pe_const pe_non (fun _ => .non)))) (pss_d0))
theorem sc_L_table_right : FnScope N_L_table_right P_L_table_right (defScope s_L_table_right) := ⟨rfl, rfl, rfl, by decide +kernel, rfl, by decide +kernel, by decide +kernel⟩
theorem ok_L_table_right {f : Addr} {kV doc pm cdv ct oc : Value} {an od : Option Addr} {osl : Array (Option Value)} (lk : K.lookup f = some ⟨oc, od, .func (PySem.W.fnOf "_law_table_right" "_law_table_right" (defArgs s_L_table_right) (defBody s_L_table_right) (defScope s_L_table_right) .none kV doc pm an cdv ct), osl⟩) (cd : PySem.W.codeIn K cdv "_law_table_right" = true) (T : Txt K mg) (X_L_as : Fx P w K mg base 2 "_law_as" P_L_as kb_L_as (spF K true 2 d_L_as)) (X_corner_table : Fx P w K mg base 4 "corner_table" P_corner_table kb_corner_table (spF K false 1 d_corner_table)) (X_L_table : Fx P w K mg base 2 "_law_table" P_L_table kb_L_table (spF K false 1 d_L_table)) (X_L_draw : Fx P w K mg base 1 "_law_draw" P_L_draw kb_L_draw (spF K true 2 d_L_draw)) (X_L_count : Fx P w K mg base 1 "_law_count" P_L_count kb_L_count (spF K false 2 d_L_count)) (X_counted : Fx P w K mg base 5 "counted" P_counted kb_counted (spF K false 2 d_counted)) :
  FnG P w K mg base 6 f (PySem.W.fnOf "_law_table_right" "_law_table_right" (defArgs s_L_table_right) (defBody s_L_table_right) (defScope s_L_table_right) .none kV doc pm an cdv ct) P_L_table_right (spF K true 2 d_L_table_right) := by
  refine fnG_of (N := N_L_table_right) lk cd sc_L_table_right (fun vs H Q h => spF_len h) fun A outer s H vs Q hr hgd h => ⟨_, ?_, body_ok (N := N_L_table_right) (by decide) (by decide) h⟩
  have nd := sc_L_table_right.nd
  have u64 : (A.deeper (envOfC "_law_table_right" (defScope s_L_table_right) s.heap.objs.size f cdv)).units + 64 < cLine := hr.units
  have u66 : (A.deeper (envOfC "_law_table_right" (defScope s_L_table_right) s.heap.objs.size f cdv)).units + 66 < cLine := x66 hr
  exact pss_d
    (ps_dparO (i := 2) (j := 3) rfl nd rfl rfl (by decide) rfl rfl (fxI X_L_as (hr.mono (j := 2) (by decide)) hgd rfl (pv 0) (pax (pe_dvar (pv 1) (Or.inl (by decide))) (pax0) rfl) rfl (by decide) rfl rfl) (pe_bltin cr_pLen rfl T.b_len PySem.boot_len (pao (o_bor (pv 1)) (pao0) rfl) (by decide) (by decide) rfl rfl) (Or.inl (by decide)) (Or.inl (by decide)) rfl rfl rfl rfl) (pss_pokeB (i := 4) (j := 5) (w := (.int 9)) (ms := [.asg 6 (dTup [frz (dPrim pAdd [.ex (dC (.int 1)), .ex (frz (dCallI d_L_draw 0 [dVar 3]))]), frz (dPrim pAdd [.ex (dC (.int 1)), .ex (frz (dCallI d_L_draw 0 [dVar 3]))])]), .asg 7 (frz (dCall d_L_count none [dVar 1, dVar 6])), .chk (dPrim pNe [.ex (dPrim pReprN [.ex (frz (dLst [frz (dCall d_counted none [dVar 2, dVar 6]), frz (dCall d_counted (some [1, 0]) ([] ++ [dVar 6, dVar 2])), dPrim pIx [.ex (dPrim pIx [.bor 4, .ex (dPrim pSub [.ex (dPrim pIx [.bor 6, .ex (dC (.int 0))]), .ex (dC (.int 1))])]), .ex (dPrim pSub [.ex (dPrim pIx [.bor 6, .ex (dC (.int 1))]), .ex (dC (.int 1))])]]))]), .ex (dPrim pReprN [.ex (frz (dPrim pMul [.ex (frz (dLst [dVar 7])), .ex (dC (.int 3))]))])])]) (W := Dq K) (di := iRg [.ex (dC (.int 8))]) (fun _ _ _ h => h) (fun _ => rfl) (Or.inl (by decide)) (Or.inl (by decide)) (by decide) (ps_set (i := 4) nd rfl (by first | exact Or.inl rfl | exact Or.inr rfl | exact Or.inr (Or.inl rfl) | exact Or.inr (Or.inr rfl)) (fxM X_corner_table (hr.mono (j := 4) (by decide)) hgd rfl (pax (pe_dvar (pv 2) (Or.inl (by decide))) (pax0) rfl) rfl (by decide) rfl rfl) rfl (by first | exact Or.inl rfl | exact Or.inr rfl | exact Or.inr (Or.inl rfl) | exact Or.inr (Or.inr rfl))) (ps_if (PW.pt (pt_dor (pt_cmpd (op_pNe u64) (o_ex (pe_bltin (cr_pReprN hgd u66) rfl T.b_repr boot_repr (pao (o_bor (pv 4)) (pao0) rfl) (by decide) (by decide) rfl rfl)) (o_ex (pe_bltin (cr_pReprN hgd u66) rfl T.b_repr boot_repr (pao (o_ex (pe_frz (fx0 X_L_table (hr.mono (j := 2) (by decide)) hgd rfl (pax (pe_dvar (pv 1) (Or.inl (by decide))) (pax0) rfl) rfl (by decide) rfl rfl))) (pao0) rfl) (by decide) (by decide) rfl rfl)) rfl) (pt_dor (pt_cmpd (op_pNe u64) (o_ex (pe_ix1 ix_pIx (o_bor (pv 4)) (o_ex (pe_un1 un_pNeg (o_ex (pe_const pe_int (fun _ => .int _))))) (fun _ _ => rfl))) (o_ex (pe_frz (pe_dlrg3 rfl rfl T.b_list rfl T.b_range (pao (o_bor (pv 3)) (pao (o_ex (pe_const pe_int (fun _ => .int _))) (pao (o_ex (pe_un1 un_pNeg (o_ex (pe_const pe_int (fun _ => .int _))))) (pao0) rfl) rfl) rfl) rfl rfl rfl))) rfl) (pw_or1 (pt_cmpd (op_pNe u64) (o_ex (pe_frz (pe_dlcB (own := [(("_law_row" : Str), 8)]) (g := gNm 8) (c := dYes) (t := dPrim pIx [.bor 8, .ex (dC (.int 0))]) rfl nd (pv 4) (pe_dvar (pv 4) (Or.inl (by decide))) (Or.inl (by decide)) (blkOk_by (N := N_L_table_right) (sc := defScope s_L_table_right) (by decide +kernel)) (fun _ _ _ _ _ => pg_dnm nd rfl (by first | exact Or.inl rfl | exact Or.inr rfl | exact Or.inr (Or.inl rfl) | exact Or.inr (Or.inr rfl)) (by first | exact Or.inl rfl | exact Or.inr rfl | exact Or.inr (Or.inl rfl) | exact Or.inr (Or.inr rfl)) (Or.inl (by decide))) (fun _ _ _ _ _ => pts_no) (fun _ _ _ _ _ => pe_ix1 ix_pIx (o_bor (pv 8)) (o_ex (pe_const pe_int (fun _ => .int _))) (fun _ _ => rfl)) (fun _ => rfl) (by decide) (Or.inl (by decide))))) (o_ex (pe_frz (pe_dlrg2 rfl rfl T.b_list rfl T.b_range (o_ex (pe_const pe_int (fun _ => .int _))) (o_ex (pe_frz (pe_bin op_pAdd (o_bor (pv 3)) (o_ex (pe_const pe_int (fun _ => .int _)))))) rfl rfl rfl rfl))) rfl))))) (pss_d (ps_dret (pe_const pe_bl (fun _ => .bl _))) (pss_d0)) pss_nil) (ps_for PassesOwn.never rfl (pi_drg1 rfl T.b_range (pao (o_ex (pe_const pe_int (fun _ => .int _))) (pao0) rfl) rfl rfl) (pg_name (i := 5) nd rfl (by first | exact Or.inl rfl | exact Or.inr rfl | exact Or.inr (Or.inl rfl) | exact Or.inr (Or.inr rfl)) (by first | exact Or.inl rfl | exact Or.inr rfl | exact Or.inr (Or.inl rfl) | exact Or.inr (Or.inr rfl))) (pss_cons (ps_set (i := 6) nd rfl (by first | exact Or.inl rfl | exact Or.inr rfl | exact Or.inr (Or.inl rfl) | exact Or.inr (Or.inr rfl)) (pe_dtup (pax (pe_frz (pe_bin op_pAdd (o_ex (pe_const pe_int (fun _ => .int _))) (o_ex (pe_frz (fxI X_L_draw (hr.mono (j := 1) (by decide)) hgd rfl (pv 0) (pax (pe_dvar (pv 3) (Or.inl (by decide))) (pax0) rfl) rfl (by decide) rfl rfl))))) (pax (pe_frz (pe_bin op_pAdd (o_ex (pe_const pe_int (fun _ => .int _))) (o_ex (pe_frz (fxI X_L_draw (hr.mono (j := 1) (by decide)) hgd rfl (pv 0) (pax (pe_dvar (pv 3) (Or.inl (by decide))) (pax0) rfl) rfl (by decide) rfl rfl))))) (pax0) rfl) rfl)) rfl (by first | exact Or.inl rfl | exact Or.inr rfl | exact Or.inr (Or.inl rfl) | exact Or.inr (Or.inr rfl))) (pss_cons (ps_set (i := 7) nd rfl (by first | exact Or.inl rfl | exact Or.inr rfl | exact Or.inr (Or.inl rfl) | exact Or.inr (Or.inr rfl)) (pe_frz (fx0 X_L_count (hr.mono (j := 1) (by decide)) hgd rfl (pax (pe_dvar (pv 1) (Or.inl (by decide))) (pax (pe_dvar (pv 6) (Or.inl (by decide))) (pax0) rfl) rfl) rfl (by decide) rfl rfl)) rfl (by first | exact Or.inl rfl | exact Or.inr rfl | exact Or.inr (Or.inl rfl) | exact Or.inr (Or.inr rfl))) (pss_cons (ps_if (pt_cmpd (op_pNe u64) (o_ex (pe_bltin (cr_pReprN hgd u66) rfl T.b_repr boot_repr (pao (o_ex (pe_frz (pe_dlst (pax (pe_frz (fx0 X_counted (hr.mono (j := 5) (by decide)) hgd rfl (pax (pe_dvar (pv 2) (Or.inl (by decide))) (pax (pe_dvar (pv 6) (Or.inl (by decide))) (pax0) rfl) rfl) rfl (by decide) rfl rfl)) (pax (pe_frz (fxK0 (ks := [("corner" : Str), ("order" : Str)]) (pm := [1, 0]) (d2 := [dVar 6, dVar 2]) X_counted (fun _ h => h) (hr.mono (j := 5) (by decide)) hgd rfl (pk_cons (pe_dvar (pv 6) (Or.inl (by decide))) (pk_cons (pe_dvar (pv 2) (Or.inl (by decide))) (pk_nil))) rfl rfl rfl (by decide) rfl rfl rfl)) (pax (pe_ix1 ix_pIx (o_ex (pe_ix1 ix_pIx (o_bor (pv 4)) (o_ex (pe_bin op_pSub (o_ex (pe_ix1 ix_pIx (o_bor (pv 6)) (o_ex (pe_const pe_int (fun _ => .int _))) (fun _ _ => rfl))) (o_ex (pe_const pe_int (fun _ => .int _))))) (fun _ _ => rfl))) (o_ex (pe_bin op_pSub (o_ex (pe_ix1 ix_pIx (o_bor (pv 6)) (o_ex (pe_const pe_int (fun _ => .int _))) (fun _ _ => rfl))) (o_ex (pe_const pe_int (fun _ => .int _))))) (fun _ _ => rfl)) (pax0) rfl) rfl) rfl)))) (pao0) rfl) (by decide) (by decide) rfl rfl)) (o_ex (pe_bltin (cr_pReprN hgd u66) rfl T.b_repr boot_repr (pao (o_ex (pe_frz (pe_bin op_pMul (o_ex (pe_frz (pe_dlst (pax (pe_dvar (pv 7) (Or.inl (by decide))) (pax0) rfl)))) (o_ex (pe_const pe_int (fun _ => .int _)))))) (pao0) rfl) (by decide) (by decide) rfl rfl)) rfl) (pss_d (ps_dret (pe_const pe_bl (fun _ => .bl _))) (pss_d0)) pss_nil) pss_nil))) (fun _ => rfl)) (ps_expr (pe_bm PySem.F.plainAttrs_list PySem.F.slot_list_append PySem.F.type_list_append mt_append (pe_ix ix_list (pv 4) pe_int (fun _ _ => rfl)) (pa_cons pe_int pa_nil rfl) rfl rfl rfl rfl rfl) rfl) (ps_expr (pe_bm PySem.F.plainAttrs_list PySem.F.slot_list_append PySem.F.type_list_append mt_append (pv 4) (pa_cons (pe_lst pa_nil) pa_nil rfl) rfl rfl rfl rfl rfl) rfl) (pss_d
    (ps_dret (pe_cmp1 (op_pEq u64) (o_ex (pe_bltin (cr_pReprN hgd u66) rfl T.b_repr boot_repr (pao (o_ex (pe_frz (fxK0 (ks := [("order" : Str)]) (pm := [0]) (d2 := [dVar 2]) X_corner_table (fun _ h => h) (hr.mono (j := 4) (by decide)) hgd rfl (pk_cons (pe_dvar (pv 2) (Or.inl (by decide))) (pk_nil)) rfl rfl rfl (by decide) rfl rfl rfl))) (pao0) rfl) (by decide) (by decide) rfl rfl)) (o_ex (pe_bltin (cr_pReprN hgd u66) rfl T.b_repr boot_repr (pao (o_ex (pe_frz (fx0 X_L_table (hr.mono (j := 2) (by decide)) hgd rfl (pax (pe_dvar (pv 1) (Or.inl (by decide))) (pax0) rfl) rfl (by decide) rfl rfl))) (pao0) rfl) (by decide) (by decide) rfl rfl)) rfl)) (pss_d0)))
theorem sc_L_pair_right : FnScope N_L_pair_right P_L_pair_right (defScope s_L_pair_right) := ⟨rfl, rfl, rfl, by decide +kernel, rfl, by decide +kernel, by decide +kernel⟩
theorem ok_L_pair_right {f : Addr} {kV doc pm cdv ct oc : Value} {an od : Option Addr} {osl : Array (Option Value)} (lk : K.lookup f = some ⟨oc, od, .func (PySem.W.fnOf "_law_pair_right" "_law_pair_right" (defArgs s_L_pair_right) (defBody s_L_pair_right) (defScope s_L_pair_right) .none kV doc pm an cdv ct), osl⟩) (cd : PySem.W.codeIn K cdv "_law_pair_right" = true) (T : Txt K mg) (X_L_over : Fx P w K mg base 2 "_law_over" P_L_over kb_L_over (spF K false 2 d_L_over)) (X_over : Fx P w K mg base 5 "over" P_over kb_over (spF K false 2 d_over)) (X_is_below : Fx P w K mg base 5 "is_below" P_is_below kb_is_below (spF K false 2 d_is_below)) :
  FnG P w K mg base 6 f (PySem.W.fnOf "_law_pair_right" "_law_pair_right" (defArgs s_L_pair_right) (defBody s_L_pair_right) (defScope s_L_pair_right) .none kV doc pm an cdv ct) P_L_pair_right (spF K true 3 d_L_pair_right) := by
  refine fnG_of (N := N_L_pair_right) lk cd sc_L_pair_right (fun vs H Q h => spF_len h) fun A outer s H vs Q hr hgd h => ⟨_, ?_, body_ok (N := N_L_pair_right) (by decide) (by decide) h⟩
  have nd := sc_L_pair_right.nd
  have u64 : (A.deeper (envOfC "_law_pair_right" (defScope s_L_pair_right) s.heap.objs.size f cdv)).units + 64 < cLine := hr.units
  have u66 : (A.deeper (envOfC "_law_pair_right" (defScope s_L_pair_right) s.heap.objs.size f cdv)).units + 66 < cLine := x66 hr
  exact pss_d
    (ps_dset (i := 3) nd rfl (by first | exact Or.inl rfl | exact Or.inr rfl | exact Or.inr (Or.inl rfl) | exact Or.inr (Or.inr rfl)) (fx0 X_L_over (hr.mono (j := 2) (by decide)) hgd rfl (pax (pe_dvar (pv 1) (Or.inl (by decide))) (pax (pe_dvar (pv 2) (Or.inl (by decide))) (pax0) rfl) rfl) rfl (by decide) rfl rfl) rfl (by first | exact Or.inl rfl | exact Or.inr rfl | exact Or.inr (Or.inl rfl) | exact Or.inr (Or.inr rfl)) (Or.inl (by decide))) (pss_d
    (ps_dset (i := 4) nd rfl (by first | exact Or.inl rfl | exact Or.inr rfl | exact Or.inr (Or.inl rfl) | exact Or.inr (Or.inr rfl)) (pe_dlst (pax (pe_frz (fx0 X_over (hr.mono (j := 5) (by decide)) hgd rfl (pax (pe_dvar (pv 1) (Or.inl (by decide))) (pax (pe_dvar (pv 2) (Or.inl (by decide))) (pax0) rfl) rfl) rfl (by decide) rfl rfl)) (pax (pe_frz (fxK0 (ks := [("other" : Str), ("order" : Str)]) (pm := [1, 0]) (d2 := [frz (dPrim pList [.bor 2]), dVar 1]) X_over (fun _ h => h) (hr.mono (j := 5) (by decide)) hgd rfl (pk_cons (pe_frz (pe_bltinT cr_pList rfl T.b_list boot_list (pao (o_bor (pv 2)) (pao0) rfl) (by decide) (by decide) rfl rfl)) (pk_cons (pe_dvar (pv 1) (Or.inl (by decide))) (pk_nil))) rfl rfl rfl (by decide) rfl rfl rfl)) (pax (pe_frz (fx0 X_over (hr.mono (j := 5) (by decide)) hgd rfl (pax (pe_frz (pe_bltinT cr_pList rfl T.b_list boot_list (pao (o_bor (pv 1)) (pao0) rfl) (by decide) (by decide) rfl rfl)) (pax (pe_dvar (pv 2) (Or.inl (by decide))) (pax0) rfl) rfl) rfl (by decide) rfl rfl)) (pax0) rfl) rfl) rfl)) rfl (by first | exact Or.inl rfl | exact Or.inr rfl | exact Or.inr (Or.inl rfl) | exact Or.inr (Or.inr rfl)) (Or.inl (by decide))) (pss_d
    (ps_dret (pe_dand (pe_cmp1 (op_pEq u64) (o_ex (pe_bltin (cr_pReprN hgd u66) rfl T.b_repr boot_repr (pao (o_bor (pv 4)) (pao0) rfl) (by decide) (by decide) rfl rfl)) (o_ex (pe_bltin (cr_pReprN hgd u66) rfl T.b_repr boot_repr (pao (o_ex (pe_frz (pe_bin op_pMul (o_ex (pe_frz (pe_dlst (pax (pe_dvar (pv 3) (Or.inl (by decide))) (pax0) rfl)))) (o_ex (pe_const pe_int (fun _ => .int _)))))) (pao0) rfl) (by decide) (by decide) rfl rfl)) rfl) (pe_one (pe_cmp1 (op_pEq u64) (o_ex (pe_frz (fx0 X_is_below (hr.mono (j := 5) (by decide)) hgd rfl (pax (pe_dvar (pv 1) (Or.inl (by decide))) (pax (pe_dvar (pv 2) (Or.inl (by decide))) (pax0) rfl) rfl) rfl (by decide) rfl rfl))) (o_ex (pe_cmp1 (op_pIs) (o_bor (pv 3)) (o_ex (pe_const pe_non (fun _ => .non))) rfl)) rfl)))) (pss_d0)))
theorem sc_L_right : FnScope N_L_right P_L_right (defScope s_L_right) := ⟨rfl, rfl, rfl, by decide +kernel, rfl, by decide +kernel, by decide +kernel⟩
theorem ok_L_right {f : Addr} {kV doc pm cdv ct oc : Value} {an od : Option Addr} {osl : Array (Option Value)} (lk : K.lookup f = some ⟨oc, od, .func (PySem.W.fnOf "_law_right" "_law_right" (defArgs s_L_right) (defBody s_L_right) (defScope s_L_right) .none kV doc pm an cdv ct), osl⟩) (cd : PySem.W.codeIn K cdv "_law_right" = true) (T : Txt K mg) (X_L_draw : Fx P w K mg base 1 "_law_draw" P_L_draw kb_L_draw (spF K true 2 d_L_draw)) (X_L_order : Fx P w K mg base 3 "_law_order" P_L_order kb_L_order (spF K true 2 d_L_order)) (X_L_mixed : Fx P w K mg base 2 "_law_mixed" P_L_mixed kb_L_mixed (spF K true 2 d_L_mixed)) (X_L_table_right : Fx P w K mg base 6 "_law_table_right" P_L_table_right kb_L_table_right (spF K true 2 d_L_table_right)) (X_L_wrong : Fx P w K mg base 1 "_law_wrong" P_L_wrong kb_L_wrong (spF K false 1 d_L_wrong)) (X_L_pair_right : Fx P w K mg base 6 "_law_pair_right" P_L_pair_right kb_L_pair_right (spF K true 3 d_L_pair_right)) (X_L_moved : Fx P w K mg base 1 "_law_moved" P_L_moved kb_L_moved (spF K false 3 d_L_moved)) (X_over : Fx P w K mg base 5 "over" P_over kb_over (spF K false 2 d_over)) :
  FnG P w K mg base 7 f (PySem.W.fnOf "_law_right" "_law_right" (defArgs s_L_right) (defBody s_L_right) (defScope s_L_right) .none kV doc pm an cdv ct) P_L_right (spF K true 1 d_L_right) := by
  refine fnG_of (N := N_L_right) lk cd sc_L_right (fun vs H Q h => spF_len h) fun A outer s H vs Q hr hgd h => ⟨_, ?_, body_ok (N := N_L_right) (by decide) (by decide) h⟩
  have nd := sc_L_right.nd
  exact pss_d
    (ps_dset (i := 1) nd rfl (by first | exact Or.inl rfl | exact Or.inr rfl | exact Or.inr (Or.inl rfl) | exact Or.inr (Or.inr rfl)) (pe_bin op_pAdd (o_ex (pe_const pe_int (fun _ => .int _))) (o_ex (pe_frz (fxI X_L_draw (hr.mono (j := 1) (by decide)) hgd rfl (pv 0) (pax (pe_const pe_int (fun _ => .int _)) (pax0) rfl) rfl (by decide) rfl rfl)))) rfl (by first | exact Or.inl rfl | exact Or.inr rfl | exact Or.inr (Or.inl rfl) | exact Or.inr (Or.inr rfl)) (Or.inl (by decide))) (pss_d
    (ps_dparO (i := 2) (j := 3) rfl nd rfl rfl (by decide) rfl rfl (fxI X_L_order (hr.mono (j := 3) (by decide)) hgd rfl (pv 0) (pax (pe_dvar (pv 1) (Or.inl (by decide))) (pax0) rfl) rfl (by decide) rfl rfl) (fxI X_L_order (hr.mono (j := 3) (by decide)) hgd rfl (pv 0) (pax (pe_dvar (pv 1) (Or.inl (by decide))) (pax0) rfl) rfl (by decide) rfl rfl) (Or.inl (by decide)) (Or.inl (by decide)) rfl rfl rfl rfl) (pss_d
    (ps_dset (i := 4) nd rfl (by first | exact Or.inl rfl | exact Or.inr rfl | exact Or.inr (Or.inl rfl) | exact Or.inr (Or.inr rfl)) (pe_bltinT cr_pTuple rfl T.b_tuple boot_tuple (pao (o_ex (pe_frz (fxI X_L_mixed (hr.mono (j := 2) (by decide)) hgd rfl (pv 0) (pax (pe_frz (pe_dlrg2 rfl rfl T.b_list rfl T.b_range (o_ex (pe_const pe_int (fun _ => .int _))) (o_ex (pe_const pe_int (fun _ => .int _))) rfl rfl rfl rfl)) (pax0) rfl) rfl (by decide) rfl rfl))) (pao0) rfl) (by decide) (by decide) rfl rfl) rfl (by first | exact Or.inl rfl | exact Or.inr rfl | exact Or.inr (Or.inl rfl) | exact Or.inr (Or.inr rfl)) (Or.inl (by decide))) (pss_d
    (ps_dif (PW.pt (pt_dor (pt_dnot (pt_of (fxI X_L_table_right (hr.mono (j := 6) (by decide)) hgd rfl (pv 0) (pax (pe_dvar (pv 2) (Or.inl (by decide))) (pax0) rfl) rfl (by decide) rfl rfl) (fun _ => rfl))) (pw_or1 (pt_dnot (pt_of (fxI X_L_table_right (hr.mono (j := 6) (by decide)) hgd rfl (pv 0) (pax (pe_dvar (pv 4) (Or.inl (by decide))) (pax0) rfl) rfl (by decide) rfl rfl) (fun _ => rfl)))))) (pss_d
    (ps_dret (pe_const pe_bl (fun _ => .bl _))) (pss_d0)) (pss_d0)) (pss_d
    (ps_dfor PassesOwn.never rfl (pi_dseq (pe_frz (fx0 X_L_wrong (hr.mono (j := 1) (by decide)) hgd rfl (pax (pe_dvar (pv 2) (Or.inl (by decide))) (pax0) rfl) rfl (by decide) rfl rfl))) (PG.weak (pg_dtp rfl (pgs_d (pg_dnm nd rfl (by first | exact Or.inl rfl | exact Or.inr rfl | exact Or.inr (Or.inl rfl) | exact Or.inr (Or.inr rfl)) (by first | exact Or.inl rfl | exact Or.inr rfl | exact Or.inr (Or.inl rfl) | exact Or.inr (Or.inr rfl)) (Or.inl (by decide))) (pgs_d (pg_dnm nd rfl (by first | exact Or.inl rfl | exact Or.inr rfl | exact Or.inr (Or.inl rfl) | exact Or.inr (Or.inr rfl)) (by first | exact Or.inl rfl | exact Or.inr rfl | exact Or.inr (Or.inl rfl) | exact Or.inr (Or.inr rfl)) (Or.inl (by decide))) (pgs_d0) rfl) rfl) rfl rfl)) (pss_d
    (ps_dif (PW.pt (pt_dor (pt_dnot (pt_of (fxI X_L_pair_right (hr.mono (j := 6) (by decide)) hgd rfl (pv 0) (pax (pe_frz (fx0 X_L_moved (hr.mono (j := 1) (by decide)) hgd rfl (pax (pe_dvar (pv 2) (Or.inl (by decide))) (pax (pe_dvar (pv 5) (Or.inl (by decide))) (pax (pe_dvar (pv 6) (Or.inl (by decide))) (pax0) rfl) rfl) rfl) rfl (by decide) rfl rfl)) (pax (pe_dvar (pv 2) (Or.inl (by decide))) (pax0) rfl) rfl) rfl (by decide) rfl rfl) (fun _ => rfl))) (pw_or1 (pt_dnot (pt_of (fxI X_L_pair_right (hr.mono (j := 6) (by decide)) hgd rfl (pv 0) (pax (pe_dvar (pv 2) (Or.inl (by decide))) (pax (pe_frz (fx0 X_L_moved (hr.mono (j := 1) (by decide)) hgd rfl (pax (pe_dvar (pv 2) (Or.inl (by decide))) (pax (pe_dvar (pv 5) (Or.inl (by decide))) (pax (pe_dvar (pv 6) (Or.inl (by decide))) (pax0) rfl) rfl) rfl) rfl (by decide) rfl rfl)) (pax0) rfl) rfl) rfl (by decide) rfl rfl) (fun _ => rfl)))))) (pss_d
    (ps_dret (pe_const pe_bl (fun _ => .bl _))) (pss_d0)) (pss_d0)) (pss_d0)) (fun _ => rfl)) (pss_d
    (ps_dret (pe_dand (fxI X_L_pair_right (hr.mono (j := 6) (by decide)) hgd rfl (pv 0) (pax (pe_dvar (pv 2) (Or.inl (by decide))) (pax (pe_dvar (pv 3) (Or.inl (by decide))) (pax0) rfl) rfl) rfl (by decide) rfl rfl) (pe_dand (fxI X_L_pair_right (hr.mono (j := 6) (by decide)) hgd rfl (pv 0) (pax (pe_dvar (pv 3) (Or.inl (by decide))) (pax (pe_dvar (pv 2) (Or.inl (by decide))) (pax0) rfl) rfl) rfl (by decide) rfl rfl) (pe_one (pe_cmp1 (op_pIs) (o_ex (pe_frz (fx0 X_over (hr.mono (j := 5) (by decide)) hgd rfl (pax (pe_dvar (pv 2) (Or.inl (by decide))) (pax (pe_dvar (pv 2) (Or.inl (by decide))) (pax0) rfl) rfl) rfl (by decide) rfl rfl))) (o_ex (pe_const pe_non (fun _ => .non))) rfl))))) (pss_d0))))))
theorem sc_law : FnScope N_law P_law (defScope s_law) := ⟨rfl, rfl, rfl, by decide +kernel, rfl, by decide +kernel, by decide +kernel⟩
theorem ok_law {f : Addr} {kV doc pm cdv ct oc : Value} {an od : Option Addr} {osl : Array (Option Value)} (lk : K.lookup f = some ⟨oc, od, .func (PySem.W.fnOf "law" "law" (defArgs s_law) (defBody s_law) (defScope s_law) .none kV doc pm an cdv ct), osl⟩) (cd : PySem.W.codeIn K cdv "law" = true) (T : Txt K mg) (X_L_right : Fx P w K mg base 7 "_law_right" P_L_right kb_L_right (spF K true 1 d_L_right)) (X_L_pot : Fx P w K mg base 1 "_law_pot" P_L_pot kb_L_pot (spF K false 2 d_L_pot)) :
  FnG P w K mg base 8 f (PySem.W.fnOf "law" "law" (defArgs s_law) (defBody s_law) (defScope s_law) .none kV doc pm an cdv ct) P_law (spF K false 1 d_law) := by
  refine fnG_of (N := N_law) lk cd sc_law (fun vs H Q h => spF_len h) fun A outer s H vs Q hr hgd h => ⟨_, ?_, body_ok (N := N_law) (by decide) (by decide) h⟩
  have nd := sc_law.nd
  have u66 : (A.deeper (envOfC "law" (defScope s_law) s.heap.objs.size f cdv)).units + 66 < cLine := x66 hr
  exact pss_d
    (ps_dret (pe_bltin (cr_pAll rfl) rfl T.b_all boot_all (pao (o_ex (pe_frz (pe_dlc (own := [(("_law_k" : Str), 1)]) (W := Dq K) (g := gNm 1) (c := dYes) (t := b1_law) rfl nd (pi_drg1 rfl T.b_range (pao (o_ex (pe_bltin (cr_pMaxA rfl u66) rfl T.b_max boot_max (pao (o_ex (pe_const pe_int (fun _ => .int _))) (pao (o_ex (pe_bltin (cr_pMin rfl) rfl T.b_min boot_min (pao (o_ex (pe_bltin cr_pLen rfl T.b_len PySem.boot_len (pao (o_bor (pv 0)) (pao0) rfl) (by decide) (by decide) rfl rfl)) (pao (o_ex (pe_const pe_int (fun _ => .int _))) (pao0) rfl) rfl) (by decide) (by decide) rfl rfl)) (pao0) rfl) rfl) (by decide) (by decide) rfl rfl)) (pao0) rfl) rfl rfl) (blkOk_by (N := N_law) (sc := defScope s_law) (by decide +kernel)) (fun _ _ _ _ _ => pg_dnm nd rfl (by first | exact Or.inl rfl | exact Or.inr rfl | exact Or.inr (Or.inl rfl) | exact Or.inr (Or.inr rfl)) (by first | exact Or.inl rfl | exact Or.inr rfl | exact Or.inr (Or.inl rfl) | exact Or.inr (Or.inr rfl)) (Or.inr rfl)) (fun _ _ _ _ _ => pts_no) (fun _ _ _ _ _ => pe_frz (fxN X_L_right (hr.mono (j := 7) (by decide)) hgd rfl (fx0 X_L_pot (hr.mono (j := 1) (by decide)) hgd rfl (pax (pe_dvar (pv 0) (Or.inr rfl)) (pax (pe_dvar (pv 1) (Or.inr rfl)) (pax0) rfl) rfl) rfl (by decide) rfl rfl) (pax0) rfl (by decide) rfl rfl)) (fun _ => rfl) (by decide) (Or.inr rfl)))) (pao0) rfl) (by decide) (by decide) rfl rfl)) (pss_d0)
end
end K25
set_option Elab.async false
set_option autoImplicit false
set_option linter.all false
set_option maxRecDepth 100000
set_option maxHeartbeats 1000001
namespace Pm
def at' (s : List Int) (i : Nat) : Int := s.getD i 0
def mk (n : Nat) (f : Nat → Int) : List Int := (List.range n).map f
def iota (n : Nat) : List Int := mk n fun i => (1 : Int) + (i : Int)
structure P (n : Nat) (s : List Int) : Prop where
  len : s.length = n
  rng : ∀ i, i < n → 1 ≤ at' s i ∧ at' s i ≤ n
  inj : ∀ i j, i < n → j < n → at' s i = at' s j → i = j
  sur : ∀ t : Int, 1 ≤ t → t ≤ n → ∃ i, i < n ∧ at' s i = t
theorem at_eq {s : List Int} {i : Nat} (h : i < s.length) : at' s i = s[i] := by
  unfold at'
  rw [List.getD_eq_getElem?_getD, List.getElem?_eq_getElem h]
  rfl
theorem at_some {s : List Int} {i : Nat} (h : i < s.length) : s[i]? = some (at' s i) := by
  rw [at_eq h, List.getElem?_eq_getElem h]
theorem len_mk (n : Nat) (f : Nat → Int) : (mk n f).length = n := by
  unfold mk
  rw
        [List.length_map, List.length_range]
theorem at_mk {n : Nat} {f : Nat → Int} {i : Nat} (h : i < n) : at' (mk n f) i = f i := by
  rw [at_eq (by rw [len_mk]; exact h)]
  unfold mk
  rw [List.getElem_map, List.getElem_range]
theorem ext {s t : List Int} {n : Nat} (h1 : s.length = n) (h2 : t.length = n) (h : ∀ i, i < n → at' s i = at' t i) : s = t := by
  refine List.ext_getElem (h1.trans h2.symm) fun i i1 i2 => ?_
  have := h i (by omega)
  rw [at_eq i1, at_eq i2] at this
  exact this
theorem at_iota {n i : Nat} (h : i < n) : at' (iota n) i = 1 + (i : Int) := at_mk h
theorem len_iota (n : Nat) : (iota n).length = n := len_mk n _
theorem P_iota (n : Nat) : P n (iota n) where
  len := len_iota n
  rng := fun i h => by rw [at_iota h]; omega
  inj := fun i j h1 h2 e => by rw [at_iota h1, at_iota h2] at e; omega
  sur := fun t h1 h2 => ⟨(t - 1).toNat, by omega, by rw [at_iota (by omega)]; omega⟩
def ix (s : List Int) (t : Int) : Nat := s.findIdx (· == t)
section
variable {n : Nat} {s t u : List Int}
theorem P.mem (h : P n s) {x : Int} (hx : x ∈ s) : 1 ≤ x ∧ x ≤ n := by
  obtain
        ⟨i, hi, rfl⟩ := List.getElem_of_mem hx
  have := h.rng i (by rw [← h.len]; exact hi)
  rw [at_eq hi] at this
  exact this
def exch (s : List Int) (i j : Nat) : List Int := (s.set i (at' s j)).set j (at' s i)
theorem len_exch {i j : Nat} : (exch s i j).length = s.length := by
  unfold exch
  rw [List.length_set, List.length_set]
theorem at_exch {i j k : Nat} (hi : i < s.length) (hj : j < s.length) (hk : k < s.length) : at' (exch s i j) k = if k = j then at' s i else if k = i then at' s j else at' s k := by
  show ((s.set i (at' s j)).set j (at' s i)).getD k 0 = _
  rw [List.getD_eq_getElem?_getD, List.getElem?_set, List.getElem?_set, List.length_set]
  by_cases h1 : j = k
  · rw [if_pos h1, if_pos h1.symm, if_pos hj]
    rfl
  · have h1' : ¬ k = j := fun z => h1 z.symm
    rw [if_neg h1, if_neg h1']
    by_cases h2 : i = k
    · rw [if_pos h2, if_pos h2.symm, if_pos hi]
      rfl
    · have h2' : ¬ k = i := fun z => h2 z.symm
      rw [if_neg h2, if_neg h2', at_some hk]
      rfl
def sw (i j k : Nat) : Nat := if k = j then i else if k = i then j else k
theorem sw_inj {i j k l : Nat} (e : sw i j k = sw i j l) : k = l := by
  unfold sw at e
  split at e <;> split at e <;> (try split at e) <;> (try split at e) <;> omega
theorem at_sw {i j k : Nat} (hi : i < s.length) (hj : j < s.length) (hk : k < s.length) : at' (exch s i j) k = at' s (sw i j k) := by
  rw [at_exch hi hj hk]
  unfold sw
  split
  · rfl
  · split <;> rfl
theorem sw_lt {i j k m : Nat} (hi : i < m) (hj : j < m) (hk : k < m) : sw i j k < m := by
  unfold sw
  split
  · exact hi
  · split
    · exact hj
    · exact hk
theorem P_exch (h : P n s) {i j : Nat} (hi : i < n) (hj : j < n) : P n (exch s i j) where
  len := by rw [len_exch]; exact h.len
  rng := fun k hk => by
    rw [at_exch (by rw [h.len]; exact hi) (by rw [h.len]; exact hj) (by rw [h.len]; exact hk)]
    split
    · exact h.rng i hi
    · split
      · exact h.rng j hj
      · exact h.rng k hk
  inj := fun k l hk hl e => by
    rw [at_sw (by rw [h.len]; exact hi) (by rw [h.len]; exact hj) (by rw [h.len]; exact hk), at_sw (by rw [h.len]; exact hi) (by rw [h.len]; exact hj) (by rw [h.len]; exact hl)] at e
    exact sw_inj (h.inj _ _ (sw_lt hi hj hk) (sw_lt hi hj hl) e)
  sur := fun x h1 h2 => by
    obtain ⟨k, hk, e⟩ := h.sur x h1 h2
    by_cases a1 : k = i
    · refine ⟨j, hj, ?_⟩
      rw [at_exch (by rw [h.len]; exact hi) (by rw [h.len]; exact hj) (by rw [h.len]; exact hj), if_pos rfl, ← e, a1]
    · by_cases a2 : k = j
      · refine ⟨i, hi, ?_⟩
        rw [at_exch (by rw [h.len]; exact hi) (by rw [h.len]; exact hj) (by rw [h.len]; exact hi)]
        by_cases a3 : i = j
        · omega
        · rw [if_neg a3, if_pos rfl, ← e, a2]
      · refine ⟨k, hk, ?_⟩
        rw [at_exch (by rw [h.len]; exact hi) (by rw [h.len]; exact hj) (by rw [h.len]; exact hk), if_neg a2, if_neg a1, e]
end
end Pm
set_option Elab.async false
set_option autoImplicit false
set_option linter.all false
set_option maxRecDepth 100000
set_option maxHeartbeats 1000001
namespace Pm
def S (n : Nat) (f : Nat → Nat) : Nat := ((List.range n).map f).sum
def w (s : List Int) (i j : Nat) : Nat := if i < j ∧ at' s j < at' s i then 1 else 0
section
variable {n : Nat} {s : List Int}
theorem P.nodup (h : P n s) : s.Nodup := by
  refine List.pairwise_iff_getElem.mpr fun i j hi hj hij e => ?_
  rw [← at_eq hi, ← at_eq hj] at e
  have := h.inj i j (by rw [← h.len]; exact hi) (by rw [← h.len]; exact hj) e
  omega
theorem P.perm (h : P n s) : s.Perm (iota n) := by
  refine (List.perm_ext_iff_of_nodup h.nodup (P_iota n).nodup).mpr fun a => ?_
  have key : ∀ {u : List Int}, P n u → (a ∈ u ↔ 1 ≤ a ∧ a ≤ n) := fun {u} k => by
    constructor
    · exact k.mem
    · intro ⟨h1, h2⟩
      obtain ⟨i, hi, e⟩ := k.sur a h1 h2
      rw [← e, at_eq (by rw [k.len]; exact hi)]
      exact List.getElem_mem _
  rw [key h, key (P_iota n)]
theorem P_of (h : s.Perm (iota n)) : P n s := by
  have ln : s.length = n := by rw [h.length_eq, len_iota]
  have nd : s.Nodup := h.nodup_iff.mpr (P_iota n).nodup
  have mem : ∀ a, a ∈ s ↔ 1 ≤ a ∧ a ≤ n := fun a => by
    rw [h.mem_iff]
    constructor
    · exact (P_iota n).mem
    · intro ⟨h1, h2⟩
      obtain ⟨i, hi, e⟩ := (P_iota n).sur a h1 h2
      rw [← e, at_eq (by rw [len_iota]; exact hi)]
      exact List.getElem_mem _
  refine ⟨ln, fun i hi => ?_, fun i j hi hj e => ?_, fun t h1 h2 => ?_⟩
  · rw [at_eq (by rw [ln]; exact hi)]
    exact (mem _).mp (List.getElem_mem _)
  · rw [at_eq (by rw [ln]; exact hi), at_eq (by rw [ln]; exact hj)] at e
    have hi' : i < s.length := by rw [ln]; exact hi
    have hj' : j < s.length := by rw [ln]; exact hj
    rcases Nat.lt_trichotomy i j with q | q | q
    · exact absurd e (List.pairwise_iff_getElem.mp nd i j hi' hj' q)
    · exact q
    · exact absurd e.symm (List.pairwise_iff_getElem.mp nd j i hj' hi' q)
  · obtain ⟨i, hi, e⟩ := List.getElem_of_mem ((mem t).mpr ⟨h1, h2⟩)
    exact ⟨i, by rw [← ln]; exact hi, by rw [at_eq hi]; exact e⟩
theorem iota_sorted (n : Nat) : (iota n).Pairwise (· ≤ ·) := by
  unfold iota mk
  refine List.pairwise_map.mpr (List.Pairwise.imp (R := (· < ·)) (fun {a b} h => by omega) List.pairwise_lt_range)
theorem P.sort (h : P n s) : L2.sortI s = iota n := (L2.sortI_uniq h.perm.symm (iota_sorted n)).symm
end
end Pm
set_option Elab.async false
set_option autoImplicit false
set_option linter.all false
set_option maxRecDepth 100000
set_option maxHeartbeats 1000001
namespace Pm
section
variable {n : Nat} {s : List Int}
end
end Pm
set_option Elab.async false
set_option autoImplicit false
set_option linter.all false
set_option maxRecDepth 100000
set_option maxHeartbeats 1000001
namespace Pm
end Pm
set_option Elab.async false
set_option autoImplicit false
set_option linter.all false
set_option maxRecDepth 100000
set_option maxHeartbeats 1000001
namespace Pm
def bsd (s t : List Int) : List Int := s ++ t.map fun x => x + (s.length : Int)
section
variable {m n : Nat} {s t u : List Int}
theorem len_bsd : (bsd s t).length = s.length + t.length := by
  unfold bsd
  rw [List.length_append, List.length_map]
theorem at_bl {i : Nat} (h : i < s.length) : at' (bsd s t) i = at' s i := by
  unfold at' bsd
  rw [List.getD_eq_getElem?_getD, List.getD_eq_getElem?_getD, List.getElem?_append_left h]
theorem at_br {i : Nat} (h : i < t.length) : at' (bsd s t) (s.length + i) = at' t i + (s.length : Int) := by
  rw [at_eq (by rw [len_bsd]; omega), at_eq h]
  unfold bsd
  rw [List.getElem_append_right (by omega), List.getElem_map]
  congr 2
  omega
end
end Pm
set_option Elab.async false
set_option autoImplicit false
set_option linter.all false
set_option maxRecDepth 100000
set_option maxHeartbeats 1000001
namespace Pm
theorem pig : ∀ (k : Nat) (f : Nat → Nat), (∀ i, i < k → f i < k) → (∀ i j, i < k → j < k → f i = f j → i = j) → ∀ t, t < k → ∃ i, i < k ∧ f i = t
  | 0, _, _, _, t, ht => absurd ht (by omega)
  | k + 1, f, h1, h2, t, ht => by
    have ih := pig k (fun i => if f i = k then f k else f i) (fun i hi => by
      have a := h1 i (by omega)
      have b := h1 k (by omega)
      have c := h2 i k (by omega) (by omega)
      show (if f i = k then f k else f i) < k
      split
      · rename_i z
        have : f k ≠ k := fun y => by
          have := c (by rw [z, y])
          omega
        omega
      · omega) (fun i j hi hj e => by
      have a := h2 i j (by omega) (by omega)
      have b := h2 i k (by omega) (by omega)
      have c := h2 j k (by omega) (by omega)
      have e' : (if f i = k then f k else f i) = (if f j = k then f k else f j) := e
      split at e' <;> split at e'
      · exact a (by omega)
      · have := c e'.symm
        omega
      · have := b e'
        omega
      · exact a e')
    by_cases q : f k = t
    · exact ⟨k, by omega, q⟩
    · by_cases r : t < k
      · obtain ⟨i, hi, e⟩ := ih t r
        have e' : (if f i = k then f k else f i) = t := e
        split at e'
        · exact absurd e' q
        · exact ⟨i, by omega, e'⟩
      · have b := h1 k (by omega)
        obtain ⟨i, hi, e⟩ := ih (f k) (by omega)
        have e' : (if f i = k then f k else f i) = f k := e
        split at e'
        · rename_i z
          exact ⟨i, by omega, by omega⟩
        · have := h2 i k (by omega) (by omega) e'
          omega
section
variable {m n : Nat} {s t u : List Int}
def Cut (s : List Int) (k : Nat) : Prop := ∀ i, i < k → i < s.length → at' s i ≤ (k : Int)
instance (s : List Int) (k : Nat) : Decidable (Cut s k) := inferInstanceAs (Decidable (∀ i, i < k → i < s.length → at' s i ≤ (k : Int)))
theorem at_take {k i : Nat} (h : i < k) : at' (s.take k) i = at' s i := by
  unfold at'
  rw [List.getD_eq_getElem?_getD, List.getD_eq_getElem?_getD, List.getElem?_take, if_pos h]
theorem at_drop {k i : Nat} : at' (s.drop k) i = at' s (k + i) := by
  unfold at'
  rw [List.getD_eq_getElem?_getD, List.getD_eq_getElem?_getD, List.getElem?_drop]
def part (s : List Int) (b e : Nat) : List Int := ((s.take e).drop b).map fun x => x - (b : Int)
theorem P_take (h : P n s) {k : Nat} (hk : k ≤ n) (c : Cut s k) : P k (s.take k) := by
  have hl := h.len
  have len : (s.take k).length = k := by rw [List.length_take]; omega
  have inj : ∀ i j, i < k → j < k → at' (s.take k) i = at' (s.take k) j → i = j := fun i j hi hj e => by
    rw [at_take hi, at_take hj] at e
    exact h.inj i j (by omega) (by omega) e
  have rng : ∀ i, i < k → 1 ≤ at' (s.take k) i ∧ at' (s.take k) i ≤ k := fun i hi => by
    rw [at_take hi]
    exact ⟨(h.rng i (by omega)).1, c i hi (by omega)⟩
  refine ⟨len, rng, inj, fun t h1 h2 => ?_⟩
  obtain ⟨i, hi, e⟩ := pig k (fun i => (at' (s.take k) i - 1).toNat) (fun i hi => by
    have := rng i hi
    show (at' (s.take k) i - 1).toNat < k
    omega) (fun i j hi hj e => inj i j hi hj (by
    have a := rng i hi
    have b := rng j hj
    have e' : (at' (s.take k) i - 1).toNat = (at' (s.take k) j - 1).toNat := e
    omega)) (t - 1).toNat (by omega)
  have a := rng i hi
  have e' : (at' (s.take k) i - 1).toNat = (t - 1).toNat := e
  exact ⟨i, hi, by omega⟩
theorem at_part {b e i : Nat} (h : b + i < e) (he : e ≤ s.length) : at' (part s b e) i = at' s (b + i) - (b : Int) := by
  unfold part
  have l : i < ((s.take e).drop b).length := by rw [List.length_drop, List.length_take]; omega
  rw [at_eq (by rw [List.length_map]; exact l), List.getElem_map, ← at_eq l, at_drop, at_take h]
theorem len_part {b e : Nat} (he : e ≤ s.length) : (part s b e).length = e - b := by
  unfold part
  rw [List.length_map, List.length_drop, List.length_take]
  omega
theorem split (h : P n s) {k : Nat} (hk : k ≤ n) (c : Cut s k) : s = bsd (s.take k) (part s k n) := by
  have hl := h.len
  have p := P_take h hk c
  have l2 := len_part (s := s) (b := k) (e := n) (by omega)
  have lp := p.len
  refine ext (n := n) hl (by rw [len_bsd, p.len, l2]; omega) fun i hi => ?_
  by_cases d : i < k
  · rw [at_bl (by omega), at_take d]
  · obtain ⟨j, rfl⟩ : ∃ j, i = (s.take k).length + j := ⟨i - k, by omega⟩
    rw [at_br (by omega), at_part (by omega) (by omega), lp]
    omega
end
end Pm
set_option Elab.async false
set_option autoImplicit false
set_option linter.all false
set_option maxRecDepth 100000
set_option maxHeartbeats 1000001
namespace Pm
def sm (bs : List (List Int)) : List Int := bs.foldl bsd []
section
variable {m n : Nat} {s t u : List Int} {bs : List (List Int)}
def bk (s : List Int) : Nat → List (List Int) × Nat
  | 0 => ([], 0)
  | k + 1 => if Cut s (k + 1) then ((bk s k).1 ++ [part s (bk s k).2 (k + 1)], k + 1) else bk s k
end
end Pm
set_option Elab.async false
set_option autoImplicit false
set_option linter.all false
set_option maxRecDepth 100000
set_option maxHeartbeats 1000001
namespace Pm
section
variable {m n : Nat} {s t u : List Int} {bs cs : List (List Int)}
end
end Pm
set_option Elab.async false
set_option autoImplicit false
set_option linter.all false
set_option maxRecDepth 100000
set_option maxHeartbeats 1000001
namespace Pm
section
variable {m n : Nat} {s t u : List Int}
end
end Pm
set_option Elab.async false
set_option autoImplicit false
set_option linter.all false
set_option maxRecDepth 100000
set_option maxHeartbeats 1000001
namespace Pm
section
variable {m n : Nat} {s t u : List Int}
def wpi (s : List Int) (i : Nat) : List Nat := ((List.range (s.length - (i + 1))).map fun k => i + 1 + k).filter fun j => decide (at' s j < at' s i)
def wp (s : List Int) : List (Nat × Nat) := (List.range s.length).flatMap fun i => (wpi s i).map fun j => (i, j)
end
end Pm
set_option Elab.async false
set_option autoImplicit false
set_option linter.all false
set_option maxRecDepth 100000
set_option maxHeartbeats 1000001
namespace Pm
open L2 (sortI)
def hd (n : Nat) : Nat → Nat → List (List Nat)
  | _, 0 => [[]]
  | a, k + 1 => (List.range' a (n - a)).flatMap fun p => (hd n (p + 1) k).map fun r => p :: r
end Pm
set_option Elab.async false
set_option autoImplicit false
set_option linter.all false
set_option maxRecDepth 100000
set_option maxHeartbeats 1000001
namespace Pm
open L2 (sortI)
def put (s : List Int) (p : Nat) (t : Int) : List Int :=
  let m := s.map fun x => if t ≤ x then x + 1 else x
  m.take p ++ t :: m.drop p
end Pm
set_option Elab.async false
set_option autoImplicit false
set_option linter.all false
set_option maxRecDepth 100000
set_option maxHeartbeats 1000001
namespace L2
open PySem
theorem toDd (x : D) : (TV.d x).toD = x := rfl
theorem toDo (xs : List D) : (TV.own xs).toD = .list xs := rfl
theorem bnT : (!true) = false := rfl
theorem bnF : (!false) = true := rfl
def flK (f : Fl) (e : Slots) (k : DS) : Option (Fl × Slots) := match f with
  | .nx => k e
  | .rt r => some (.rt r, e)
  | .bk => some (.bk, e)
  | .ct => some (.ct, e)
section
variable {d d1 d2 d3 a b c : DE} {ds : List DE} {os : List Opd} {e e1 e2 e3 : Slots} {x y z : D} {xs ys : List D} {r r2 t t2 : TV} {i j : Nat} {q : Bool} {s u : DS} {ss : List DS} {g h : List D → Option TV} {fd : FD} {fl : Option (Fl × Slots)} {o : Option (TV × Slots)}
theorem small_ok {n : Nat} (h : n ≤ 1000) : n ≤ sizeLine := by
  have := sizeLine_eq
  omega
theorem v_C : dC x e = some (.d x, e) := rfl
theorem v_Var (h : e[i]? = some (some (.d x))) : dVar i e = some (.d x, e) := by simp only [dVar, h]
theorem v_VarO (h : e[i]? = some (some (.own xs))) (h2 : e.set i (some (.d (.list xs))) = e1) : dVar i e = some (.d (.list xs), e1) := by simp only [dVar, h, h2]
theorem v_Move (h : e[i]? = some (some r)) (h2 : e.set i none = e1) : dMove i e = some (r, e1) := by simp only [dMove, h, h2]
theorem v_frzd (h : d e = some (.d x, e1)) : frz d e = some (.d x, e1) := by simp only [frz, h, TV.toD]
theorem v_frzo (h : d e = some (.own xs, e1)) : frz d e = some (.d (.list xs), e1) := by simp only [frz, h, TV.toD]
theorem v_frz (h : d e = some (r, e1)) : frz d e = some (.d r.toD, e1) := by simp only [frz, h]
theorem v_os0 : evs [] e = some ([], e) := rfl
theorem v_osE (h1 : d e = some (.d x, e1)) (h2 : evs os e1 = some (xs, e2)) : evs (.ex d :: os) e = some (x :: xs, e2) := by simp only [evs, h1, h2]
theorem v_osD (h1 : e[i]? = some (some (.d y))) (h2 : evs os e = some (xs, e2)) (h3 : e2[i]? = some (some (.d x))) : evs (.bor i :: os) e = some (x :: xs, e2) := by simp only [evs, h1, h2, h3, TV.toD]
theorem v_osO {zs : List D} (h1 : e[i]? = some (some (.own zs))) (h2 : evs os e = some (xs, e2)) (h3 : e2[i]? = some (some (.own ys))) : evs (.bor i :: os) e = some (.list ys :: xs, e2) := by simp only [evs, h1, h2, h3, TV.toD]
theorem v_xs0 : evx [] e = some ([], e) := rfl
theorem v_xs (h1 : d e = some (.d x, e1)) (h2 : evx ds e1 = some (xs, e2)) : evx (d :: ds) e = some (x :: xs, e2) := by simp only [evx, h1, h2]
theorem v_prim (h1 : evs os e = some (xs, e1)) (h2 : g xs = some r) : dPrim g os e = some (r, e1) := by simp only [dPrim, h1, h2]
theorem v_tup (h1 : evx ds e = some (xs, e1)) (h2 : xs.length ≤ 1000) : dTup ds e = some (.d (.tuple xs), e1) := by simp only [dTup, h1, small_ok h2, if_true]
theorem v_lst (h1 : evx ds e = some (xs, e1)) (h2 : xs.length ≤ 1000) : dLst ds e = some (.own xs, e1) := by simp only [dLst, h1, small_ok h2, if_true]
theorem v_if (h1 : c e = some (.d (.bool q), e1)) (h2 : cond q (a e1) (b e1) = o) : dIf c a b e = o := by
  simp only [dIf, h1, asB]
  cases q <;> exact h2
theorem v_and (h1 : a e = some (.d (.bool q), e1)) (h2 : cond q (b e1) (some (.d (.bool false), e1)) = o) : dAnd a b e = o := by
  simp only [dAnd, h1, asB]
  cases q <;> exact h2
theorem v_or (h1 : a e = some (.d (.bool q), e1)) (h2 : cond q (some (.d (.bool true), e1)) (b e1) = o) : dOr a b e = o := by
  simp only [dOr, h1, asB]
  cases q <;> exact h2
theorem v_notT (h1 : a e = some (.d (.bool true), e1)) : dNot a e = some (.d (.bool false), e1) := by simp only [dNot, h1, asB, Bool.not_true]
theorem v_chain (h1 : d1 e = some (.d x, e1)) (h2 : d2 e1 = some (.d y, e2)) (h3 : g [x, y] = some (.d (.bool true))) (h4 : d3 e2 = some (.d z, e3)) (h5 : h [y, z] = some (.d (.bool q))) : dChain g h d1 d2 d3 e = some (.d (.bool q), e3) := by simp only [dChain, h1, h2, h3, h4, h5]
theorem v_call {zs : List D} (h1 : evx ds e = some (xs, e1)) (h2 : fd none xs = some (r, zs)) : dCall fd none ds e = some (r, e1) := by simp only [dCall, h1, h2]
theorem v_callK {pm : List Nat} {zs : List D} (h1 : evx ds e = some (xs, e1)) (h3 : prm pm xs = ys) (h2 : fd none ys = some (r, zs)) : dCall fd (some pm) ds e = some (r, e1) := by simp only [dCall, h1, h3, h2]
theorem v_callI {zs ws : List D} (h0 : e[i]? = some (some (.own ws))) (h1 : evx ds e = some (xs, e1)) (h2 : e1[i]? = some (some (.own ys))) (h3 : fd (some ys) xs = some (r, zs)) (h4 : e1.set i (some (.own zs)) = e2) : dCallI fd i ds e = some (r, e2) := by simp only [dCallI, h0, h1, h2, h3, h4]
theorem v_callN {zs : List D} (h0 : d e = some (.own ys, e1)) (h1 : evx ds e1 = some (xs, e2)) (h3 : fd (some ys) xs = some (r, zs)) : dCallN fd d ds e = some (r, e2) := by simp only [dCallN, h0, h1, h3]
theorem v_mut {m : MD} {ws : List D} (h0 : e[i]? = some (some (.own ws))) (h1 : evx ds e = some (xs, e1)) (h2 : e1[i]? = some (some (.own ys))) {zs : List D} (h3 : m ys xs = some (zs, x)) (h4 : e1.set i (some (.own zs)) = e2) : dMut m i ds e = some (.d x, e2) := by simp only [dMut, h0, h1, h2, h3, h4]
theorem v_ext {ws : List D} (h0 : e[i]? = some (some (.own ws))) (h1 : d e = some (.own ys, e1)) (h2 : e1[i]? = some (some (.own xs))) (h3 : xs.length + ys.length ≤ 1000) (h4 : e1.set i (some (.own (xs ++ ys))) = e2) : dExt i d e = some (.d .none, e2) := by simp only [dExt, h0, h1, h2, small_ok h3, if_true, h4]
theorem v_tix (h1 : d1 e = some (.d (.tuple xs), e1)) (h2 : d2 e1 = some (.d x, e2)) (h3 : SeqAt.shaped (.tuple xs) = true) (h4 : SeqAt.shaped x = true) (h5 : ixOf xs x = some j) : dTIx d1 d2 e = some (.d (.int (j : Nat)), e2) := by simp only [dTIx, h1, h2, h3, h4, h5, and_self, if_true]
theorem v_not (h1 : a e = some (.d (.bool q), e1)) : dNot a e = some (.d (.bool (!q)), e1) := by simp only [dNot, h1, asB]
theorem v_sq0 : dSeq [] e = some (.nx, e) := rfl
theorem v_sq {f : Fl} (h1 : s e = some (f, e1)) (h2 : flK f e1 (dSeq ss) = fl) : dSeq (s :: ss) e = fl := by
  simp only [dSeq, h1]
  cases f <;> exact h2
theorem v_sqN (h1 : s e = some (.nx, e1)) (h2 : dSeq ss e1 = fl) : dSeq (s :: ss) e = fl := by simp only [dSeq, h1, h2]
theorem v_sqR (h1 : s e = some (.rt r, e1)) : dSeq (s :: ss) e = some (.rt r, e1) := by simp only [dSeq, h1]
theorem v_drop (h1 : d e = some (r, e1)) : sDrop d e = some (.nx, e1) := by simp only [sDrop, h1]
theorem v_ret (h1 : d e = some (r, e1)) : sRet d e = some (.rt r, e1) := by simp only [sRet, h1]
theorem v_set (h1 : d e = some (r, e1)) (h2 : i < e1.length) (h3 : e1.set i (some r) = e2) : sSet i d e = some (.nx, e2) := by simp only [sSet, h1, h2, if_true, h3]
theorem v_asg {gg : DG} (h1 : d e = some (.d x, e1)) (h2 : gg x e1 = some e2) : sAsg d gg e = some (.nx, e2) := by simp only [sAsg, h1, h2]
theorem v_par (h1 : d1 e = some (r, e1)) (h2 : d2 e1 = some (r2, e2)) (h3 : i < e2.length ∧ j < e2.length) (h4 : (e2.set i (some r)).set j (some r2) = e3) : sParO i j d1 d2 e = some (.nx, e3) := by simp only [sParO, h1, h2, h3, and_self, if_true, h4]
theorem v_sif (h1 : c e = some (.d (.bool q), e1)) (h2 : cond q (s e1) (u e1) = fl) : sIf c s u e = fl := by
  simp only [sIf, h1, asB]
  cases q <;> exact h2
theorem v_for {di : DI} {gg : DG} (h1 : di e = some (xs, e1)) (h2 : forGo gg s xs e1 = fl) : sFor di gg s e = fl := by simp only [sFor, h1, h2]
theorem v_gNm (h1 : i < e.length) (h2 : e.set i (some (.d x)) = e1) : gNm i x e = some e1 := by simp only [gNm, h1, if_true, h2]
theorem v_gIx {k : Int} {ws : List D} (h0 : e[i]? = some (some (.own ws))) (h1 : d e = some (.d (.int k), e1)) (h2 : e1[i]? = some (some (.own xs))) (h3 : ixN xs.length k = some j) (h4 : e1.set i (some (.own (xs.set j x))) = e2) : gIx i d x e = some e2 := by simp only [gIx, h0, h1, h2, h3, h4]
theorem v_gTp {gs : List DG} (h : gAll gs xs e = some e1) : gTp gs (.tuple xs) e = some e1 := h
theorem v_gA0 : gAll [] [] e = some e := rfl
theorem v_gA {gg : DG} {gs : List DG} (h1 : gg x e = some e1) (h2 : gAll gs xs e1 = some e2) : gAll (gg :: gs) (x :: xs) e = some e2 := by simp only [gAll, h1, h2]
theorem v_seq (h1 : d e = some (.d x, e1)) (h2 : seqD x = some xs) : iSeq d e = some (xs, e1) := by simp only [iSeq, h1, h2]
theorem v_enu (h1 : d e = some (.d x, e1)) (h2 : seqD x = some xs) : iEnu d e = some (pairsD 0 xs, e1) := by simp only [iEnu, h1, h2]
theorem v_fn0 {n : Nat} {body : DS} {e0 : Slots} (h0 : ent n xs = e0) (h1 : body e0 = some (.rt r, e1)) : dFn n body none xs = some (r, []) := by simp only [dFn, h0, h1]
theorem v_fnN0 {n : Nat} {body : DS} {e0 : Slots} (h0 : ent n xs = e0) (h1 : body e0 = some (.nx, e1)) : dFn n body none xs = some (.d .none, []) := by simp only [dFn, h0, h1]
theorem v_fnI0 {n : Nat} {body : DS} {zs : List D} {e0 : Slots} (h0 : ent (n - 1) xs = e0) (h1 : body (some (.own ys) :: e0) = some (.rt r, e1)) (h2 : e1[(0 : Nat)]? = some (some (.own zs))) : dFn n body (some ys) xs = some (r, zs) := by simp only [dFn, h0, h1, h2]
end
end L2
set_option Elab.async false
set_option autoImplicit false
set_option linter.all false
set_option maxRecDepth 100000
set_option maxHeartbeats 1000001
namespace L2
open PySem
theorem ok_app {a b : Str} (h : PyData.strOk a = true) (k : PyData.strOk b = true) : PyData.strOk (a ++ b) = true := by
  unfold PyData.strOk at *
  show (a.cps ++ b.cps).all _ = true
  rw [Array.all_append, h, k]
  rfl
theorem ok_of (s : String) : PyData.strOk (Str.ofString s) = true := by
  rw [Str.ofString_eq_toList]
  unfold PyData.strOk
  rw [List.all_toArray, List.all_map]
  refine List.all_eq_true.mpr fun c _ => decide_eq_true ?_
  have h := c.valid
  show c.toNat < 0x110000
  rcases h with h | ⟨_, h⟩
  · have h' : c.toNat < 0xD800 := h
    omega
  · exact h
theorem ok_join {sep : Str} (hs : PyData.strOk sep = true) : ∀ ts : List Str, (∀ t ∈ ts, PyData.strOk t = true) → PyData.strOk (Str.join sep ts) = true
  | [], _ => by
    show PyData.strOk Str.empty = true
    first | exact ok_of "" | (unfold PyData.strOk Str.empty; simp) | decide +kernel
  | [x], h => h x (by simp)
  | x :: y :: r, h => ok_app (ok_app (h x (by simp)) hs) (ok_join hs (y :: r) fun t ht => h t (by simp only [List.mem_cons] at ht ⊢; exact .inr ht))
theorem ok_text : ∀ (ts : List Str) (k : Nat) (acc : Str), PyData.strOk acc = true → (∀ t ∈ ts, PyData.strOk t = true) → PyData.strOk (textFrom k acc ts) = true
  | [], _, acc, h, _ => h
  | t :: r, k, acc, h, g => ok_text r (k + 1) _ (ok_app (ok_app h (ok_of _)) (g t (by simp))) fun u hu => g u (by simp [hu])
theorem ok_list {ts : List Str} (h : ∀ t ∈ ts, PyData.strOk t = true) : PyData.strOk (listText ts) = true := ok_app (ok_text ts 0 _ (ok_of _) h) (ok_of _)
theorem ok_tup {ts : List Str} (h : ∀ t ∈ ts, PyData.strOk t = true) : PyData.strOk (tupleText ts) = true := ok_app (ok_app (ok_of _) (ok_join (ok_of _) ts h)) (ok_of _)
theorem ok_ints : ∀ xs : List Int, ∀ t ∈ PyData.shownAll (xs.map PyData.int), PyData.strOk t = true
  | [], t, h => by cases h
  | x :: xs, t, h => by
    rcases
          List.mem_cons.mp h with rfl | h
    · exact ok_of _
    · exact ok_ints xs t h
theorem ok_T (xs : List Int) : PyData.strOk (PyData.shown (Tu xs)) = true := ok_tup (ok_ints xs)
theorem ok_L (xs : List Int) : PyData.strOk (PyData.shown (Li xs)) = true := ok_list (ok_ints xs)
theorem ok_all : ∀ ds : List D, (∀ d ∈ ds, PyData.strOk (PyData.shown d) = true) → ∀ t ∈ PyData.shownAll ds, PyData.strOk t = true
  | [], _, t, h => by cases h
  | d :: ds, g, t, h => by
    rcases
          List.mem_cons.mp h with rfl | h
    · exact g d (by simp)
    · exact ok_all ds (fun u hu => g u (by simp [hu])) t h
end L2
set_option Elab.async false
set_option autoImplicit false
set_option linter.all false
set_option maxRecDepth 100000
set_option maxHeartbeats 1000001
namespace Lib
open PySem L2 Pm
def d_is_integer : FD := dFn 1 (dSeq [sRet (dAnd (dPrim (pIsi [.int]) [.bor 0]) (dNot (dPrim (pIsi [.bool]) [.bor 0])))])
def d_is_count : FD := dFn 1 (dSeq [sRet (dAnd (dCall d_is_integer none [dVar 0]) (dPrim pGe [.bor 0, .ex (dC (.int 0))]))])
def d_is_list : FD := dFn 1 (dSeq [sRet (dPrim (pIsi [.list, .tuple]) [.bor 0])])
def d_is_order : FD := dFn 2 (dSeq [sIf (dOr (dNot (dCall d_is_list none [dVar 0])) (dOr (dNot (dChain pLe pLe (dC (.int 1)) (dPrim pLen [.bor 0]) (dC (.int 9)))) (dNot (dPrim pAll [.ex (frz (dLc (iSeq (dVar 0)) (gNm 1) [1] (dYes) (frz (dCall d_is_integer none [dVar 1]))))])))) (dSeq [sRet (dC (.bool false))]) (dSeq []),
 sRet (dPrim pEq [.ex (frz (dPrim pSorted [.bor 0])), .ex (frz (dLRg [.ex (dC (.int 1)), .ex (frz (dPrim pAdd [.ex (dPrim pLen [.bor 0]), .ex (dC (.int 1))]))]))])])
def d_want_order : FD := dFn 1 (dSeq [sIf (dNot (dCall d_is_order none [dVar 0])) (dSeq [sStuck]) (dSeq []),
 sRet (dPrim pTuple [.bor 0])])
def d_want_alike : FD := dFn 2 (dSeq [sIf (dPrim pNe [.ex (dPrim pLen [.bor 0]), .ex (dPrim pLen [.bor 1])]) (dSeq [sStuck]) (dSeq [])])
def d_exchanged_in : FD := dFn 4 (dSeq [sSet 3 (dPrim pList [.bor 0]),
 sAsg (dTup [dPrim pIx [.bor 0, .bor 2], dPrim pIx [.bor 0, .bor 1]]) (gTp [gIx 3 (dVar 1), gIx 3 (dVar 2)]),
 sRet (dPrim pTuple [.bor 3])])
def d_L_wrong : FD := dFn 4 (dSeq [sSet 1 (dLst []),
 sFor (iRg [.ex (dPrim pLen [.bor 0])]) (gNm 2) (dSeq [sDrop (dExt 1 (dLc (iRg [.ex (frz (dPrim pAdd [.bor 2, .ex (dC (.int 1))])), .ex (dPrim pLen [.bor 0])]) (gNm 3) [3] (dPrim pGt [.ex (dPrim pIx [.bor 0, .bor 2]), .ex (dPrim pIx [.bor 0, .bor 3])]) (dTup [dVar 2, dVar 3])))]),
 sRet (dMove 1)])
theorem rg_iota (n : Nat) : rgD 1 n = iD' (iota n) := by
  unfold rgD iD' iota mk
  rw [List.map_map]
  rfl
theorem e_is_count (i : Int) : d_is_count none [.int i] = some (.d (.bool (decide (0 ≤ i))), []) := rfl
theorem smallR_of {i j : Int} (h1 : 0 ≤ i) (h2 : i ≤ 100) (h3 : 0 ≤ j) (h4 : j ≤ 100) : smallR i j = true := by
  unfold smallR
  exact decide_eq_true ⟨by omega, by omega, by omega, by omega⟩
theorem rgOf2_two {n : Nat} (h : n ≤ 9) : rgOf2 [.int 1, .int ((n : Int) + 1)] = some (1, (n : Int) + 1) := by
  have e : smallR 1 ((n : Int) + 1) = true ∧ ((n : Int) + 1 - 1).toNat ≤ 2 ^ 24 := ⟨smallR_of (by omega) (by omega) (by omega) (by omega), by omega⟩
  simp only [rgOf2, e, and_self, if_true]

theorem ints_lc (xs : List Int) (x : D) (h : seqD x = some (iD' xs)) : lcGo (gNm 1) dYes (frz (dCall d_is_integer none [dVar 1])) [1] (iD' xs) [some (.d x), none] = some ((iD' xs).map fun _ => .bool true, [some (.d x), none]) :=
  lc_m fun y hy => by
    obtain ⟨i, _, rfl⟩ := List.mem_map.mp hy
    exact ⟨_, _, rfl, rfl, rfl⟩
theorem all_bools (xs : List Int) : boolsD ((iD' xs).map fun _ => PyData.bool true) = some ((iD' xs).map fun _ => true) := ints_all
theorem all_true (xs : List Int) : ((iD' xs).map fun _ => true).all id = true := by
  induction xs with
  | nil => rfl
  | cons x xs ih => simpa using ih
theorem pLe_19 {n : Nat} (h1 : 1 ≤ n) : pLe [.int 1, .int (n : Nat)] = some (.d (.bool true)) := by
  simp only [pLe, decide_eq_true (show (1 : Int) ≤ (n : Int) by omega)]
theorem pLe_9 {n : Nat} (h1 : n ≤ 9) : pLe [.int (n : Nat), .int 9] = some (.d (.bool true)) := by
  simp only [pLe, decide_eq_true (show (n : Int) ≤ 9 by omega)]
theorem q_eqi (a b : Int) : pEq [.int a, .int b] = some (.d (.bool (decide (a = b)))) := by
  simp only [pEq, shaped_i, and_self, if_true, PyData.eqv]
  congr 3
theorem q_nei (a b : Int) : pNe [.int a, .int b] = some (.d (.bool (!decide (a = b)))) := by
  simp only [pNe, shaped_i, and_self, if_true, PyData.eqv]
  congr 4
theorem q_eqT (a b : List Int) : pEq [Tu a, Tu b] = some (.d (.bool (decide (a = b)))) := by
  simp only [pEq, shaped_T, eqv_T, and_self, if_true]
theorem q_neT (a b : List Int) : pNe [Tu a, Tu b] = some (.d (.bool (!decide (a = b)))) := by
  simp only [pNe, shaped_T, eqv_T, and_self, if_true]
theorem q_eqL (a b : List Int) : pEq [Li a, Li b] = some (.d (.bool (decide (a = b)))) := by
  simp only [pEq, shaped_L, eqv_L, and_self, if_true]
theorem q_len {n : Nat} {s : List Int} (h : s.length = n) : pLen [Tu s] = some (.d (.int (n : Nat))) := by
  show some (TV.d (.int ((iD' s).length : Nat))) = _
  rw [List.length_map, h]
theorem q_lenL {n : Nat} {s : List Int} (h : s.length = n) : pLen [Li s] = some (.d (.int (n : Nat))) := by
  show some (TV.d (.int ((iD' s).length : Nat))) = _
  rw [List.length_map, h]
theorem q_add (a b : Int) : pAdd [.int a, .int b] = some (.d (.int (a + b))) := rfl
theorem q_sub (a b : Int) : pSub [.int a, .int b] = some (.d (.int (a - b))) := rfl
theorem rg1 (n : Nat) : rgD 1 ((n : Int) + 1 - 1).toNat = iD' (iota n) := by
  rw [← rg_iota]
  congr 1
  omega
theorem e_is_order {n : Nat} {s : List Int} {x : D} (h : P n s) (h1 : 1 ≤ n) (h9 : n ≤ 9) (hx : x = Tu s ∨ x = Li s) : d_is_order none [x] = some (.d (.bool true), []) := by
  have a1 : ∀ x, seqD x = some (iD' s) → dLc (iSeq (dVar 0)) (gNm 1) [1] dYes (frz (dCall d_is_integer none [dVar 1])) [some (.d x), none] = some (.own ((iD' s).map fun _ => .bool true), [some (.d x), none]) := fun x hx =>
    dLc_of (v_seq rfl hx) (ints_lc s x hx) (by rw [List.length_map, List.length_map, h.len]; omega) rfl
  have a5 : pAll [.list ((iD' s).map fun _ => PyData.bool true)] = some (.d (.bool true)) := by
    simp only [pAll, all_bools]
    rw [all_true]
  have a7 := q_add (n : Nat) 1
  have a8 : pEq [Li (iota n), Li (iota n)] = some (.d (.bool true)) := by
    rw [q_eqL, decide_eq_true rfl]
  have c1 := pLe_19 h1
  have c2 := pLe_9 h9
  have b1 : ∀ x, pLen [x] = some (.d (.int (n : Nat))) → dLRg [.ex (dC (.int 1)), .ex (frz (dPrim pAdd [.ex (dPrim pLen [.bor 0]), .ex (dC (.int 1))]))] [some (.d x), none] = some (.own (iD' (iota n)), [some (.d x), none]) := fun x a4 => by
    rw [← rg1 n]
    exact dLRg_of (evs_ex rfl (evs_ex (frz_of (prim_of (evs_ex (prim_of (evs_bor rfl rfl rfl) a4) (evs_ex rfl rfl)) a7)) rfl)) (rgOf2_two h9)
  rcases hx with rfl | rfl
  · have a3 : d_is_list none [Tu s] = some (.d (.bool true), []) := rfl
    have a4 := q_len h.len
    have a6 : pSorted [Tu s] = some (.own (iD' (iota n))) := by
      simp only [pSorted, intsD_map, h.sort]
    have b2 := b1 _ a4
    have a2 := a1 (Tu s) rfl
    apply v_fn0 (e0 := [some (.d (Tu s)), none]) rfl
    repeat' (first | with_reducible assumption | with_reducible exact v_C | with_reducible exact v_os0 | with_reducible exact v_xs0 | with_reducible exact v_sq0 | with_reducible exact v_gA0 | ((with_reducible apply v_Var); exact rfl) | ((with_reducible apply v_VarO); exact rfl; dsimp only [List.set]; exact rfl) | ((with_reducible apply v_Move); exact rfl; dsimp only [List.set]; exact rfl) | with_reducible apply v_osE | ((with_reducible apply v_osD); exact rfl) | ((with_reducible apply v_osO); exact rfl) | with_reducible apply v_xs | with_reducible apply v_prim | with_reducible apply v_frz | with_reducible apply v_tup | with_reducible apply v_lst | with_reducible apply v_call | with_reducible apply v_callK | with_reducible apply v_chain | with_reducible apply v_not | with_reducible apply v_and | with_reducible apply v_or | with_reducible apply v_if | with_reducible apply v_sif | with_reducible apply v_sq | with_reducible apply v_drop | with_reducible apply v_ret | with_reducible apply v_set | with_reducible apply v_callI | with_reducible apply v_asg | (simp only [List.length_cons, List.length_nil, Nat.reduceAdd, Nat.reduceLT, Nat.reduceLeDiff]; done) | (dsimp only [flK, cond_true, cond_false, L2.bnT, L2.bnF, L2.toDd, L2.toDo, List.set, List.length_cons, List.length_nil, prm, List.filterMap, List.getElem?_cons_zero, List.getElem?_cons_succ, List.append_nil, List.nil_append, List.cons_append]; done) | (dsimp only [flK, cond_true, cond_false, L2.bnT, L2.bnF, L2.toDd, L2.toDo, List.set, prm, List.filterMap, List.getElem?_cons_zero, List.getElem?_cons_succ, List.nil_append, List.cons_append]) | decide)
  · have a3 : d_is_list none [Li s] = some (.d (.bool true), []) := rfl
    have a4 := q_lenL h.len
    have a6 : pSorted [Li s] = some (.own (iD' (iota n))) := by
      simp only [pSorted, intsD_map, h.sort]
    have b2 := b1 _ a4
    have a2 := a1 (Li s) rfl
    apply v_fn0 (e0 := [some (.d (Li s)), none]) rfl
    repeat' (first | with_reducible assumption | with_reducible exact v_C | with_reducible exact v_os0 | with_reducible exact v_xs0 | with_reducible exact v_sq0 | with_reducible exact v_gA0 | ((with_reducible apply v_Var); exact rfl) | ((with_reducible apply v_VarO); exact rfl; dsimp only [List.set]; exact rfl) | ((with_reducible apply v_Move); exact rfl; dsimp only [List.set]; exact rfl) | with_reducible apply v_osE | ((with_reducible apply v_osD); exact rfl) | ((with_reducible apply v_osO); exact rfl) | with_reducible apply v_xs | with_reducible apply v_prim | with_reducible apply v_frz | with_reducible apply v_tup | with_reducible apply v_lst | with_reducible apply v_call | with_reducible apply v_callK | with_reducible apply v_chain | with_reducible apply v_not | with_reducible apply v_and | with_reducible apply v_or | with_reducible apply v_if | with_reducible apply v_sif | with_reducible apply v_sq | with_reducible apply v_drop | with_reducible apply v_ret | with_reducible apply v_set | with_reducible apply v_callI | with_reducible apply v_asg | (simp only [List.length_cons, List.length_nil, Nat.reduceAdd, Nat.reduceLT, Nat.reduceLeDiff]; done) | (dsimp only [flK, cond_true, cond_false, L2.bnT, L2.bnF, L2.toDd, L2.toDo, List.set, List.length_cons, List.length_nil, prm, List.filterMap, List.getElem?_cons_zero, List.getElem?_cons_succ, List.append_nil, List.nil_append, List.cons_append]; done) | (dsimp only [flK, cond_true, cond_false, L2.bnT, L2.bnF, L2.toDd, L2.toDo, List.set, prm, List.filterMap, List.getElem?_cons_zero, List.getElem?_cons_succ, List.nil_append, List.cons_append]) | decide)
theorem e_want_order {n : Nat} {s : List Int} {x : D} (h : P n s) (h1 : 1 ≤ n) (h9 : n ≤ 9) (hx : x = Tu s ∨ x = Li s) : d_want_order none [x] = some (.d (Tu s), []) := by
  have a1 := e_is_order h h1 h9 hx
  have a2 : pTuple [x] = some (.d (Tu s)) := by rcases hx with rfl | rfl <;> rfl
  apply v_fn0 (e0 := [some (.d x)]) rfl
  repeat' (first | with_reducible assumption | with_reducible exact v_C | with_reducible exact v_os0 | with_reducible exact v_xs0 | with_reducible exact v_sq0 | with_reducible exact v_gA0 | ((with_reducible apply v_Var); exact rfl) | ((with_reducible apply v_VarO); exact rfl; dsimp only [List.set]; exact rfl) | ((with_reducible apply v_Move); exact rfl; dsimp only [List.set]; exact rfl) | with_reducible apply v_osE | ((with_reducible apply v_osD); exact rfl) | ((with_reducible apply v_osO); exact rfl) | with_reducible apply v_xs | with_reducible apply v_prim | with_reducible apply v_frz | with_reducible apply v_tup | with_reducible apply v_lst | with_reducible apply v_call | with_reducible apply v_callK | with_reducible apply v_chain | with_reducible apply v_not | with_reducible apply v_and | with_reducible apply v_or | with_reducible apply v_if | with_reducible apply v_sif | with_reducible apply v_sq | with_reducible apply v_drop | with_reducible apply v_ret | with_reducible apply v_set | with_reducible apply v_callI | with_reducible apply v_asg | (simp only [List.length_cons, List.length_nil, Nat.reduceAdd, Nat.reduceLT, Nat.reduceLeDiff]; done) | (dsimp only [flK, cond_true, cond_false, L2.bnT, L2.bnF, L2.toDd, L2.toDo, List.set, List.length_cons, List.length_nil, prm, List.filterMap, List.getElem?_cons_zero, List.getElem?_cons_succ, List.append_nil, List.nil_append, List.cons_append]; done) | (dsimp only [flK, cond_true, cond_false, L2.bnT, L2.bnF, L2.toDd, L2.toDo, List.set, prm, List.filterMap, List.getElem?_cons_zero, List.getElem?_cons_succ, List.nil_append, List.cons_append]) | decide)
theorem e_want_alike {n : Nat} {s t : List Int} (h : P n s) (k : P n t) : d_want_alike none [Tu s, Tu t] = some (.d .none, []) := by
  have a1 := q_len h.len
  have a2 := q_len k.len
  have a3 : pNe [.int (n : Nat), .int (n : Nat)] = some (.d (.bool false)) := by
    rw [q_nei, decide_eq_true rfl]
    rfl
  apply v_fnN0 (e0 := [some (.d (Tu s)), some (.d (Tu t))]) rfl
  repeat' (first | with_reducible assumption | with_reducible exact v_C | with_reducible exact v_os0 | with_reducible exact v_xs0 | with_reducible exact v_sq0 | with_reducible exact v_gA0 | ((with_reducible apply v_Var); exact rfl) | ((with_reducible apply v_VarO); exact rfl; dsimp only [List.set]; exact rfl) | ((with_reducible apply v_Move); exact rfl; dsimp only [List.set]; exact rfl) | with_reducible apply v_osE | ((with_reducible apply v_osD); exact rfl) | ((with_reducible apply v_osO); exact rfl) | with_reducible apply v_xs | with_reducible apply v_prim | with_reducible apply v_frz | with_reducible apply v_tup | with_reducible apply v_lst | with_reducible apply v_call | with_reducible apply v_callK | with_reducible apply v_chain | with_reducible apply v_not | with_reducible apply v_and | with_reducible apply v_or | with_reducible apply v_if | with_reducible apply v_sif | with_reducible apply v_sq | with_reducible apply v_drop | with_reducible apply v_ret | with_reducible apply v_set | with_reducible apply v_callI | with_reducible apply v_asg | (simp only [List.length_cons, List.length_nil, Nat.reduceAdd, Nat.reduceLT, Nat.reduceLeDiff]; done) | (dsimp only [flK, cond_true, cond_false, L2.bnT, L2.bnF, L2.toDd, L2.toDo, List.set, List.length_cons, List.length_nil, prm, List.filterMap, List.getElem?_cons_zero, List.getElem?_cons_succ, List.append_nil, List.nil_append, List.cons_append]; done) | (dsimp only [flK, cond_true, cond_false, L2.bnT, L2.bnF, L2.toDd, L2.toDo, List.set, prm, List.filterMap, List.getElem?_cons_zero, List.getElem?_cons_succ, List.nil_append, List.cons_append]) | decide)
theorem ixN_nat {n i : Nat} (h : i < n) : ixN n (i : Nat) = some i := by
  unfold ixN
  rw
        [if_pos (by omega), if_pos (by omega)]
  rfl
theorem q_ix {n : Nat} {s : List Int} (h : s.length = n) {k : Int} {i : Nat} (hk : k = (i : Nat)) (hi : i < n) : pIx [Tu s, .int k] = some (.d (.int (at' s i))) := by
  subst hk
  have e1 : (iD' s)[i]? = some (.int (at' s i)) := by
    rw [List.getElem?_map, at_some (by rw [h]; exact hi)]
    rfl
  have e2 : atI (iD' s) (i : Nat) = some (.int (at' s i)) := by
    unfold atI
    rw [List.length_map, h, ixN_nat hi]
    exact e1
  simp only [pIx, e2, Option.map_some]
theorem mem_rg {lo : Int} {n : Nat} {x : D} (h : x ∈ rgD lo n) : ∃ i : Nat, i < n ∧ x = .int (lo + (i : Int)) := by
  unfold rgD at h
  obtain ⟨i, hi, e⟩ := List.mem_map.mp h
  exact ⟨i, List.mem_range.mp hi, e.symm⟩
def toI : D → Int
  | .int i => i
  | _ => 0
theorem e_exch {n : Nat} {s : List Int} (h : s.length = n) {i j : Nat} (hi : i < n) (hj : j < n) : dFn 4 (dSeq [sSet 3 (dPrim pList [.bor 0]),
 sAsg (dTup [dPrim pIx [.bor 0, .bor 2], dPrim pIx [.bor 0, .bor 1]]) (gTp [gIx 3 (dVar 1), gIx 3 (dVar 2)]),
 sRet (dPrim pTuple [.bor 3])]) none [Tu s, .int (i : Nat), .int (j : Nat)] = some (.d (Tu (exch s i j)), []) := by
  have a1 : pList [Tu s] = some (.own (iD' s)) := rfl
  have a2 := q_ix h (k := (j : Nat)) rfl hj
  have a3 := q_ix h (k := (i : Nat)) rfl hi
  have a4 : ((iD' s).set i (.int (at' s j))).set j (.int (at' s i)) = iD' (exch s i j) := by
    unfold iD' exch
    rw [← List.map_set, ← List.map_set]
  have b1 : gTp [gIx 3 (dVar 1), gIx 3 (dVar 2)] (.tuple [.int (at' s j), .int (at' s i)]) [some (.d (Tu s)), some (.d (.int (i : Nat))), some (.d (.int (j : Nat))), some (.own (iD' s))] = some [some (.d (Tu s)), some (.d (.int (i : Nat))), some (.d (.int (j : Nat))), some (.own (iD' (exch s i j)))] := by
    rw [← a4]
    exact v_gTp (v_gA (v_gIx rfl (v_Var rfl) rfl (by rw [List.length_map, h]; exact ixN_nat hi) rfl) (v_gA (v_gIx rfl (v_Var rfl) rfl (by rw [List.length_set, List.length_map, h]; exact ixN_nat hj) rfl) v_gA0))
  have a5 : pTuple [Li (exch s i j)] = some (.d (Tu (exch s i j))) := rfl
  apply v_fn0 (e0 := [some (.d (Tu s)), some (.d (.int (i : Nat))), some (.d (.int (j : Nat))), none]) rfl
  repeat' (first | with_reducible assumption | with_reducible exact v_C | with_reducible exact v_os0 | with_reducible exact v_xs0 | with_reducible exact v_sq0 | with_reducible exact v_gA0 | ((with_reducible apply v_Var); exact rfl) | ((with_reducible apply v_VarO); exact rfl; dsimp only [List.set]; exact rfl) | ((with_reducible apply v_Move); exact rfl; dsimp only [List.set]; exact rfl) | with_reducible apply v_osE | ((with_reducible apply v_osD); exact rfl) | ((with_reducible apply v_osO); exact rfl) | with_reducible apply v_xs | with_reducible apply v_prim | with_reducible apply v_frz | with_reducible apply v_tup | with_reducible apply v_lst | with_reducible apply v_call | with_reducible apply v_callK | with_reducible apply v_chain | with_reducible apply v_not | with_reducible apply v_and | with_reducible apply v_or | with_reducible apply v_if | with_reducible apply v_sif | with_reducible apply v_sq | with_reducible apply v_drop | with_reducible apply v_ret | with_reducible apply v_set | with_reducible apply v_callI | with_reducible apply v_asg | (simp only [List.length_cons, List.length_nil, Nat.reduceAdd, Nat.reduceLT, Nat.reduceLeDiff]; done) | (dsimp only [flK, cond_true, cond_false, L2.bnT, L2.bnF, L2.toDd, L2.toDo, List.set, List.length_cons, List.length_nil, prm, List.filterMap, List.getElem?_cons_zero, List.getElem?_cons_succ, List.append_nil, List.nil_append, List.cons_append]; done) | (dsimp only [flK, cond_true, cond_false, L2.bnT, L2.bnF, L2.toDd, L2.toDo, List.set, prm, List.filterMap, List.getElem?_cons_zero, List.getElem?_cons_succ, List.nil_append, List.cons_append]) | decide)
theorem e_exchanged_in {n : Nat} {s : List Int} (h : s.length = n) {i j : Nat} (hi : i < n) (hj : j < n) : d_exchanged_in none [Tu s, .int (i : Nat), .int (j : Nat)] = some (.d (Tu (exch s i j)), []) := e_exch h hi hj
def pp (s : List Int) (a : Int) (y : D) : Bool := decide (at' s (toI y).toNat < at' s a.toNat)
def tt (a : Int) (y : D) : D := .tuple [.int a, y]
def ff (s : List Int) (n : Nat) (lo : Int) (x : D) : List D := ((rgD lo ((n : Int) - lo).toNat).filter (pp s (toI x))).map (tt (toI x))
theorem q_gt (a b : Int) : pGt [.int a, .int b] = some (.d (.bool (decide (b < a)))) := rfl
theorem rgOf_nat {n : Nat} (h : n ≤ 9) : rgOf [.int (n : Nat)] = some (0, ((n : Nat) : Int)) := by
  have e := smallR_of (i := 0) (j := (n : Nat)) (by omega) (by omega) (by omega) (by omega)
  simp only [rgOf, e, if_true]
theorem rgOf_two {n i : Nat} (h : n ≤ 9) (hi : i < n) : rgOf [.int (0 + (i : Int) + 1), .int (n : Nat)] = some (0 + (i : Int) + 1, ((n : Nat) : Int)) := by
  have e := smallR_of (i := 0 + (i : Int) + 1) (j := (n : Nat)) (by omega) (by omega) (by omega) (by omega)
  simp only [rgOf, e, if_true]
theorem rep_zero (n : Nat) : (List.replicate n [PyData.int 0]).flatten = iD' (List.replicate n 0) := by
  induction n with
  | zero => rfl
  | succ n ih =>
    rw [List.replicate_succ, List.flatten_cons, ih, List.replicate_succ]
    rfl
end Lib
set_option Elab.async false
set_option autoImplicit false
set_option linter.all false
set_option maxRecDepth 100000
set_option maxHeartbeats 1000001
namespace Lib
open PySem L2 Pm
def Pot (p : List D) : Prop := ∃ a b : Int, p = [.int a, .int b] ∧ 0 ≤ a ∧ 0 ≤ b ∧ b < 2 ^ 32
theorem lg {i : Int} {k : Nat} (h : i.natAbs < 2 ^ k) (hk : 0 < k) : i.natAbs.log2 < k := by
  by_cases z : i.natAbs = 0
  · rw [z]
    exact hk
  · exact (Nat.log2_lt z).mpr h
theorem q_mul {a b : Int} (ha : a.natAbs < 2 ^ 200) (hb : b.natAbs < 2 ^ 200) : pMul [.int a, .int b] = some (.d (.int (a * b))) := by
  have e : a.natAbs.log2 + b.natAbs.log2 < 1000000 := by
    have h1 := lg ha (by decide)
    have h2 := lg hb (by decide)
    omega
  simp only [pMul]
  rw [if_pos e]
theorem q_mod {a b : Int} (hb : 0 < b) : pMod [.int a, .int b] = some (.d (.int (a % b))) := by
  simp only [pMod]
  rw [if_pos hb]
theorem q_int (a : Int) : pInt [.int a] = some (.d (.int a)) := rfl
theorem ix0 (a b : Int) : pIx [.list [.int a, .int b], .int 0] = some (.d (.int a)) := rfl
theorem ix1 (a b : Int) : pIx [.list [.int a, .int b], .int 1] = some (.d (.int b)) := rfl
theorem abs_lt {b : Int} (h0 : 0 ≤ b) (h : b < 2 ^ 32) : b.natAbs < 2 ^ 200 := by
  have h1 : b.natAbs < 2 ^ 32 := by omega
  exact Nat.lt_of_lt_of_le h1 (Nat.pow_le_pow_right (by decide) (by decide))
def Draws (f : FD) : Prop := ∀ (p : List D) (m : Int), Pot p → 1 ≤ m → m ≤ 100 → ∃ (r : Nat) (p' : List D), f (some p) [.int m] = some (.d (.int (r : Nat)), p') ∧ (r : Int) < m ∧ Pot p'
def D_draw (A B M M2 C : Int) : FD := dFn 3 (dSeq [sIf (dPrim pGt [.ex (dPrim pIx [.bor 0, .ex (dC (.int 0))]), .ex (dC (.int 0))]) (dSeq [sAsg (dPrim pDivmod [.ex (dPrim pIx [.bor 0, .ex (dC (.int 0))]), .bor 1]) (gTp [gIx 0 (dC (.int 0)), gNm 2]),
 sRet (dMove 2)]) (dSeq []),
 sAsg (dPrim pMod [.ex (dPrim pInt [.ex (frz (dPrim pAdd [.ex (frz (dPrim pMul [.ex (dPrim pIx [.bor 0, .ex (dC (.int 1))]), .ex (dC (.int A))])), .ex (dC (.int B))]))]), .ex (dC (.int M))]) (gIx 0 (dC (.int 1))),
 sRet (dPrim pMod [.ex (dPrim pInt [.ex (dPrim pFdiv [.ex (dPrim pMod [.ex (dPrim pInt [.ex (frz (dPrim pMul [.ex (dPrim pIx [.bor 0, .ex (dC (.int 1))]), .ex (dPrim pIx [.bor 0, .ex (dC (.int 1))])]))]), .ex (dC (.int M2))]), .ex (dC (.int C))])]), .bor 1])])
theorem q_fdiv {a c : Int} (h : 0 < c ∧ c < 2 ^ 32) : pFdiv [.int a, .int c] = some (.d (.int (a / c))) := by
  have e : c.natAbs.log2 < 9000 := by
    have := lg (i := c) (k := 32) (by omega) (by decide)
    omega
  simp only [pFdiv]
  rw [if_pos ⟨h.1, e⟩]
theorem e_draw {A B M M2 C : Int} (hA : 0 ≤ A ∧ A < 2 ^ 32) (hM : 0 < M ∧ M < 2 ^ 32) (hM2 : 0 < M2) (hC : 0 < C ∧ C < 2 ^ 32) : Draws (D_draw A B M M2 C) := by
  intro p m hp h1 h2
  obtain ⟨a, b, rfl, ha, hb, hb2⟩ := hp
  have m0 : (0 : Int) < m := by omega
  by_cases c : 0 < a
  · have g1 : pGt [.int a, .int 0] = some (.d (.bool true)) := by
      simp only [pGt, decide_eq_true c]
    have hc : 0 < m ∧ m < 1073741824 := ⟨by omega, by omega⟩
    have g2 : pDivmod [.int a, .int m] = some (.d (.tuple [.int (a / m), .int (a % m)])) := by
      simp only [pDivmod]
      rw [if_pos hc]
    have er : (((a % m).toNat : Nat) : Int) = a % m := by
      have := Int.emod_nonneg a (by omega : m ≠ 0)
      omega
    have b1 : gTp [gIx 0 (dC (.int 0)), gNm 2] (.tuple [.int (a / m), .int (a % m)]) [some (.own [.int a, .int b]), some (.d (.int m)), none] = some [some (.own [.int (a / m), .int b]), some (.d (.int m)), some (.d (.int (a % m)))] := rfl
    refine ⟨(a % m).toNat, [.int (a / m), .int b], ?_, ?_, a / m, b, rfl, Int.ediv_nonneg ha (by omega), hb, hb2⟩
    · rw [er]
      exact v_fnI0 (e0 := [some (.d (.int m)), none]) rfl (v_sqR (v_sif (v_prim (v_osE (v_prim (v_osO rfl (v_osE v_C v_os0) rfl) (ix0 a b)) (v_osE v_C v_os0)) g1)
        (v_sqN (v_asg (v_prim (v_osE (v_prim (v_osO rfl (v_osE v_C v_os0) rfl) (ix0 a b)) (v_osD rfl v_os0 rfl)) g2) b1) (v_sqR (v_ret (v_Move rfl rfl)))))) rfl
    · rw [er]
      exact Int.emod_lt_of_pos a m0
  · have g1 : pGt [.int a, .int 0] = some (.d (.bool false)) := by
      simp only [pGt, decide_eq_false c]
    let b' : Int := (b * A + B) % M
    have hb' : 0 ≤ b' := Int.emod_nonneg _ (by omega)
    have hb2' : b' < M := Int.emod_lt_of_pos _ hM.1
    have hb3' : b' < 2 ^ 32 := by omega
    let r : Int := (b' * b' % M2 / C) % m
    have hr : 0 ≤ r := Int.emod_nonneg _ (by omega)
    have hr2 : r < m := Int.emod_lt_of_pos _ m0
    have er : ((r.toNat : Nat) : Int) = r := by omega
    have g2 : pMul [.int b, .int A] = some (.d (.int (b * A))) := q_mul (abs_lt hb hb2) (abs_lt hA.1 hA.2)
    have g3 : pMul [.int b', .int b'] = some (.d (.int (b' * b'))) := q_mul (abs_lt hb' hb3') (abs_lt hb' hb3')
    have b1 : gIx 0 (dC (.int 1)) (.int b') [some (.own [.int a, .int b]), some (.d (.int m)), none] = some [some (.own [.int a, .int b']), some (.d (.int m)), none] := rfl
    refine ⟨r.toNat, [.int a, .int b'], ?_, by omega, a, b', rfl, ha, hb', hb3'⟩
    rw [er]
    exact v_fnI0 (e0 := [some (.d (.int m)), none]) rfl (v_sqN (v_sif (v_prim (v_osE (v_prim (v_osO rfl (v_osE v_C v_os0) rfl) (ix0 a b)) (v_osE v_C v_os0)) g1) v_sq0)
      (v_sqN (v_asg (v_prim (v_osE (v_prim (v_osE (v_frzd (v_prim (v_osE (v_frzd (v_prim (v_osE (v_prim (v_osO rfl (v_osE v_C v_os0) rfl) (ix1 a b)) (v_osE v_C v_os0)) g2)) (v_osE v_C v_os0)) (q_add _ _))) v_os0) (q_int _)) (v_osE v_C v_os0)) (q_mod hM.1)) b1)
      (v_sqR (v_ret (v_prim (v_osE (v_prim (v_osE (v_prim (v_osE (v_prim (v_osE (v_prim (v_osE (v_frzd (v_prim (v_osE (v_prim (v_osO rfl (v_osE v_C v_os0) rfl) (ix1 a b')) (v_osE (v_prim (v_osO rfl (v_osE v_C v_os0) rfl) (ix1 a b')) v_os0)) g3)) v_os0) (q_int _)) (v_osE v_C v_os0)) (q_mod hM2)) (v_osE v_C v_os0)) (q_fdiv hC)) v_os0) (q_int _)) (v_osD rfl v_os0 rfl)) (q_mod m0)))))) rfl
theorem perm_erase {l : List Int} {i : Nat} (h : i < l.length) : (l[i] :: l.eraseIdx i).Perm l := by
  induction
        l generalizing i with
  | nil => exact absurd h (by simp)
  | cons x l ih =>
    cases i with
    | zero => exact .refl _
    | succ i =>
      have h' : i < l.length := by simpa using h
      show (l[i] :: x :: l.eraseIdx i).Perm (x :: l)
      exact (List.Perm.swap x l[i] _).trans ((ih h').cons x)
theorem er_map (l : List Int) (i : Nat) : (iD' l).eraseIdx i = iD' (l.eraseIdx i) := by
  induction
        l generalizing i with
  | nil => rfl
  | cons x l ih =>
    cases i with
    | zero => rfl
    | succ i =>
      show PyData.int x :: (iD' l).eraseIdx i = PyData.int x :: iD' (l.eraseIdx i)
      rw [ih]
end Lib
set_option Elab.async false
set_option autoImplicit false
set_option linter.all false
set_option maxRecDepth 100000
set_option maxHeartbeats 1000001
namespace Lib
open PySem L2 Pm
def prD (l : List (Nat × Nat)) : List D := l.map fun z => .tuple [.int (z.1 : Nat), .int (z.2 : Nat)]
end Lib
set_option Elab.async false
set_option autoImplicit false
set_option linter.all false
set_option maxRecDepth 100000
set_option maxHeartbeats 1000001
namespace L2
open PySem
section
variable {e e1 e2 : Slots} {t t2 r : TV} {i : Nat} {d : DE}
theorem v_ev0 : evp none e = some (none, e) := rfl
theorem v_ev {k : Int} (h : d e = some (.d (.int k), e1)) : evp (some d) e = some (some k, e1) := by simp only [evp, h]
theorem v_sl {lo hi : Option DE} {l u : Option Int} (h1 : e[i]? = some (some t)) (h2 : evp lo e = some (l, e1)) (h3 : evp hi e1 = some (u, e2)) (h4 : e2[i]? = some (some t2)) (h5 : cutT t2.toD l u = some r) : dSlice (.bor i) lo hi e = some (r, e2) := by
  simp only [dSlice, h1, h2, h3, h4, h5]
end
theorem cut_e {α : Type} {xs : List α} {k : Nat} (hk : k ≤ xs.length) : cutD xs none (some (k : Int)) = xs.take k := by
  unfold cutD
  rw [HT.sIx_nat, HT.sIx_none, Nat.min_eq_left hk, List.drop_zero, Nat.sub_zero]
theorem for_ix {g : DG} {t : DS} : ∀ {xs : List D} (I : Nat → Slots → Prop) {e : Slots}, I 0 e → (∀ (i : Nat) (h : i < xs.length) (e : Slots), I i e → ∃ e1 e2, g xs[i] e = some e1 ∧ t e1 = some (.nx, e2) ∧ I (i + 1) e2) → ∃ e', forGo g t xs e = some (.nx, e') ∧ I xs.length e'
  | [], I, e, h, _ => ⟨e, rfl, h⟩
  | x :: xs, I, e, h, k => by
    obtain ⟨e1, e2, h1, h2, h3⟩ := k 0 (Nat.succ_pos _) e h
    obtain ⟨e', h4, h5⟩ := for_ix (g := g) (t := t) (xs := xs) (fun i => I (i + 1)) (e := e2) h3 fun i hi e he => k (i + 1) (Nat.succ_lt_succ hi) e he
    refine ⟨e', ?_, h5⟩
    have h1' : g x e = some e1 := h1
    simp only [forGo, h1', h2, h4]
theorem rg_at {lo : Int} {n i : Nat} (h : i < (rgD lo n).length) : (rgD lo n)[i] = .int (lo + (i : Int)) := by
  have hn : i < n := by
    have := h
    rw [rgD_len] at this
    exact this
  have q : (rgD lo n)[i]? = some (.int (lo + (i : Int))) := by
    unfold rgD
    rw [List.getElem?_map, List.getElem?_range hn]
    rfl
  rw [List.getElem?_eq_getElem h] at q
  exact Option.some.inj q
end L2
namespace Lib
open PySem L2 Pm
theorem q_cat {a c : List D} (h : a.length + c.length ≤ 1000) : pAdd [.list a, .list c] = some (.own (a ++ c)) := by
  simp only [pAdd, fits]
  rw [if_pos (small_ok h)]
theorem cut_Te {s : List Int} {k : Nat} (hk : k ≤ s.length) : cutT (Tu s) none (some (k : Int)) = some (.d (Tu (s.take k))) := by
  simp only [cutT]
  rw [cut_e (by rw [List.length_map]; exact hk), ← List.map_take]
theorem q_lt (a b : Int) : pLt [.int a, .int b] = some (.d (.bool (decide (a < b)))) := rfl
end Lib
set_option Elab.async false
set_option autoImplicit false
set_option linter.all false
set_option maxRecDepth 100000
set_option maxHeartbeats 1000001
namespace Pm
section
variable {m n : Nat} {s p : List Int}
end
end Pm
namespace Lib
open PySem L2 Pm
section
variable {d1 d2 : DE} {e e1 e2 : Slots} {xs : List D} {x : D} {j : Nat}
end
theorem q_app {xs : List D} {x : D} (h : xs.length ≤ 1000) : mAppend xs [x] = some (xs ++ [x], .none) := by
  simp only [mAppend]
  have := sizeLine_eq
  rw [if_pos (by omega)]
end Lib
set_option Elab.async false
set_option autoImplicit false
set_option linter.all false
set_option maxRecDepth 100000
set_option maxHeartbeats 1000001
namespace L2
open PySem
section
variable {d1 d2 d3 : DE} {e e1 e2 e3 e4 : Slots} {x : D} {i j l : Nat} {r r1 r2 r3 : TV}
theorem v_VarR (h : e[i]? = some (some r)) (h2 : r.toD = x) (h3 : e.set i (some (.d x)) = e1) : dVar i e = some (.d x, e1) := by
  cases r with
  | d y =>
    have hy : y = x := h2
    subst hy
    have q : e.set i (some (.d y)) = e := by
      refine
            List.ext_getElem? fun k => ?_
      rw [List.getElem?_set]
      split
      · rename_i c
        subst c
        split
        · exact h.symm
        · rename_i c
          exact (List.getElem?_eq_none (by omega)).symm
      · rfl
    rw [← h3, q]
    exact v_Var h
  | own ys =>
    have hy : PyData.list ys = x := h2
    subst hy
    exact v_VarO h h3
  | dc ps =>
    have hy : (TV.dc ps).toD = x := h2
    subst hy
    rw [← h3]
    simp only [dVar, h]
    rfl
theorem v_osR {os : List Opd} {xs : List D} (h1 : e[i]? = some (some r)) (h2 : evs os e = some (xs, e2)) (h3 : e2[i]? = some (some r1)) (h4 : r1.toD = x) : evs (.bor i :: os) e = some (x :: xs, e2) := by
  subst h4
  simp only [evs, h1, h2, h3]
theorem v_par3 (h1 : d1 e = some (r1, e1)) (h2 : d2 e1 = some (r2, e2)) (h3 : d3 e2 = some (r3, e3)) (h4 : i < e3.length ∧ j < e3.length ∧ l < e3.length) (h5 : ((e3.set i (some r1)).set j (some r2)).set l (some r3) = e4) : sPar3 i j l d1 d2 d3 e = some (.nx, e4) := by
  simp only [sPar3, h1, h2, h3, h4, and_self, if_true, h5]
theorem v_sifT {c : DE} {s u : DS} {fl : Option (Fl × Slots)} (h1 : c e = some (.d (.bool true), e1)) (h2 : s e1 = fl) : sIf c s u e = fl := v_sif h1 h2
theorem v_sifF {c : DE} {s u : DS} {fl : Option (Fl × Slots)} (h1 : c e = some (.d (.bool false), e1)) (h2 : u e1 = fl) : sIf c s u e = fl := v_sif h1 h2
theorem v_orF {a b : DE} {q : Bool} (h1 : a e = some (.d (.bool false), e1)) (h2 : b e1 = some (.d (.bool q), e2)) : dOr a b e = some (.d (.bool q), e2) := v_or h1 h2
theorem v_andT {a b : DE} {q : Bool} (h1 : a e = some (.d (.bool true), e1)) (h2 : b e1 = some (.d (.bool q), e2)) : dAnd a b e = some (.d (.bool q), e2) := v_and h1 h2
end
theorem reprOk_of {x : D} (h : okS x) : reprOk x = true := by
  obtain ⟨h1, h2, h3, h4, h5⟩ := h
  have h8 := sizeLine_eq
  unfold reprOk
  rw [h1, h2, h3, decide_eq_true (show x.depth ≤ 64 by omega), decide_eq_true (show x.shown.length ≤ sizeLine by omega)]
  rfl
theorem canLay_T : ∀ bs : List (List Int), PyData.canLayAll0 (bs.map Tu) = true
  | [] => rfl
  | b :: bs => by
    have h : PyData.canLay0 (Tu b) = true := canLay_map b
    simp only [List.map_cons, PyData.canLayAll0, h, canLay_T bs, Bool.and_self]
theorem depth_T : ∀ bs : List (List Int), PyData.depthAll (bs.map Tu) ≤ 2
  |
        [] => by simp [PyData.depthAll]
  | b :: bs => by
    have h := depth_map b
    have h2 := depth_T bs
    have h3 : PyData.depth (Tu b) = PyData.depthAll (b.map PyData.int) + 1 := rfl
    simp only [List.map_cons, PyData.depthAll, h3]
    omega
theorem shaped_LT (bs : List (List Int)) : SeqAt.shaped (.list (bs.map Tu)) = true := by
  have h := depth_T bs
  refine Bool.and_eq_true_iff.mpr ⟨canLay_T bs, decide_eq_true ?_⟩
  show PyData.depthAll (bs.map Tu) + 1 ≤ 64
  omega
end L2
namespace Lib
open PySem L2 Pm
theorem q_neL1 {a b : List Int} (h : a = b) : pNe [Li a, Li b] = some (.d (.bool false)) := by
  simp only [pNe, shaped_L, eqv_L, and_self, if_true, decide_eq_true h, Bool.not_true]
theorem q_nei1 {a b : Int} (h : a = b) : pNe [.int a, .int b] = some (.d (.bool false)) := by
  rw [q_nei, decide_eq_true h]
  rfl
end Lib
set_option Elab.async false
set_option autoImplicit false
set_option linter.all false
set_option maxRecDepth 100000
set_option maxHeartbeats 1000001
namespace Lib
open PySem L2 Pm
structure Scr (x : D) (is : List Int) : Prop where
  len : pLen [x] = some (.d (.int (is.length : Nat)))
  ix : ∀ (k : Nat) (h : k < is.length), pIx [x, .int (k : Nat)] = some (.d (.int is[k]))
theorem scr_list (is : List Int) : Scr (Li is) is where
  len := q_lenL rfl
  ix := fun k h => by
    have e : atI (iD' is) ((k : Nat) : Int) = some (.int is[k]) := by
      unfold atI
      rw [List.length_map, ixN_nat h]
      show (iD' is)[k]? = _
      rw [List.getElem?_map, List.getElem?_eq_getElem h]
      rfl
    simp only [pIx, e, Option.map_some]
theorem scr_own (is : List Int) : Scr (scrD is) is where
  len := by
    show (if isScr (is.map fun i => (PyData.int i, PyData.none)) = true then some (TV.d (.int (((is.map fun i => (PyData.int i, PyData.none)).length : Nat) : Int))) else none) = _
    rw [if_pos (isScr_of is), List.length_map]
  ix := fun k h => by
    have e : atI (iD' is) ((k : Nat) : Int) = some (.int is[k]) := by
      unfold atI
      rw [List.length_map, ixN_nat h]
      show (iD' is)[k]? = _
      rw [List.getElem?_map, List.getElem?_eq_getElem h]
      rfl
    have e2 : (is.map fun i => (PyData.int i, PyData.none)).map (·.1) = iD' is := keys_scr is
    simp only [pIx, scrD]
    rw [if_pos (isScr_of is), e2, e]
    rfl
theorem q_max (a b : Int) : ∃ c, pMaxA [.int a, .int b] = some (.d (.int c)) ∧ c = max a b := ⟨_, rfl, by split <;> omega⟩
theorem q_min (a b : Int) : ∃ c, pMin [.int a, .int b] = some (.d (.int c)) ∧ c = min a b := ⟨_, rfl, by split <;> omega⟩
theorem q_abs (a : Int) : ∃ c, pAbs [.int a] = some (.d (.int c)) := ⟨_, rfl⟩
theorem trues (n : Nat) : boolsD ((rgD 0 n).map fun _ => PyData.bool true) = some ((rgD 0 n).map fun _ => true) := by
  unfold rgD
  induction n with
  | zero => rfl
  | succ n ih =>
    generalize (List.range (n + 1)) = l
    induction l with
    | nil => rfl
    | cons x l ih2 => simp only [List.map_cons, boolsD, ih2]
theorem all_t (l : List D) : (l.map fun _ => true).all id = true := by
  induction l with
  | nil => rfl
  | cons x l ih => simpa using ih
end Lib
set_option Elab.async false
set_option autoImplicit false
set_option linter.all false
set_option maxRecDepth 100000
set_option maxHeartbeats 1000001
namespace L2
open PySem
end L2
namespace Pm
section
variable {n : Nat} {s : List Int}
def wq (s : List Int) (i : Nat) : List (Nat × Nat) := (List.range i).flatMap fun i => (wpi s i).map fun j => (i, j)
theorem wq_all (h : P n s) : wq s n = wp s := by
  unfold wq wp
  rw [h.len]
end
end Pm
namespace Lib
open PySem L2 Pm
theorem prD_app (a b : List (Nat × Nat)) : Lib.prD (a ++ b) = Lib.prD a ++ Lib.prD b := by
  unfold Lib.prD
  rw [List.map_append]
theorem wq_succ (s : List Int) (i : Nat) : Lib.prD (wq s (i + 1)) = Lib.prD (wq s i) ++ Lib.prD ((wpi s i).map fun j => (i, j)) := by
  rw [← prD_app]
  unfold wq
  rw [List.range_succ, List.flatMap_append]
  simp only [List.flatMap_cons, List.flatMap_nil, List.append_nil]
end Lib
set_option Elab.async false
set_option autoImplicit false
set_option linter.all false
set_option maxRecDepth 100000
set_option maxHeartbeats 1000001
namespace Lib
open PySem L2 Pm
end Lib
set_option Elab.async false
set_option autoImplicit false
set_option linter.all false
set_option maxRecDepth 100000
set_option maxHeartbeats 1000001
namespace Pm
section
variable {n : Nat} {s t : List Int}
def exs (n : Nat) : List (Nat × Nat) := (List.range n).flatMap fun i => ((List.range (n - (i + 1))).map fun k => i + 1 + k).map fun j => (i, j)
theorem mem_exs {z : Nat × Nat} : z ∈ exs n ↔ z.1 < z.2 ∧ z.2 < n := by
  unfold exs
  rw [List.mem_flatMap]
  constructor
  · rintro ⟨i, hi, hz⟩
    obtain ⟨j, hj, rfl⟩ := List.mem_map.mp hz
    obtain ⟨k, hk, rfl⟩ := List.mem_map.mp hj
    have := List.mem_range.mp hk
    exact ⟨by show i < i + 1 + k; omega, by show i + 1 + k < n; omega⟩
  · intro h
    refine ⟨z.1, List.mem_range.mpr (by omega), List.mem_map.mpr ⟨z.2, List.mem_map.mpr ⟨z.2 - (z.1 + 1), List.mem_range.mpr (by omega), by omega⟩, rfl⟩⟩
end
end Pm
set_option Elab.async false
set_option autoImplicit false
set_option linter.all false
set_option maxRecDepth 100000
set_option maxHeartbeats 1000001
namespace Pm
open L2 (insI sortI)
def LeL : List Int → List Int → Prop
  | [], [] => True
  | a :: as, b :: bs => a ≤ b ∧ LeL as bs
  | _, _ => False
def pw : List Int → List Int → Bool
  | a :: as, b :: bs => decide (a ≤ b) && pw as bs
  | _, _ => true
theorem LeL_pw : ∀ {as bs : List Int}, as.length = bs.length → (LeL as bs ↔ pw as bs = true)
  | [], [], _ => ⟨fun _ => rfl, fun _ => trivial⟩
  | a :: as, b :: bs, h => by
    have ih := LeL_pw (as := as) (bs := bs) (by simpa using h)
    unfold LeL pw
    rw [Bool.and_eq_true, ih, decide_eq_true_eq]
theorem sortI_congr {as bs : List Int} (h : as.Perm bs) : sortI as = sortI bs := L2.sortI_uniq ((L2.sortI_perm as).trans h) (L2.sortI_sorted as)
theorem sortI_len (as : List Int) : (sortI as).length = as.length := (L2.sortI_perm as).length_eq
def lowk (s t : List Int) (k : Nat) : Bool := pw (sortI (s.take (k + 1))) (sortI (t.take (k + 1)))
def lowb (n : Nat) (s t : List Int) : Bool := (List.range n).all fun k => lowk s t k
section
variable {n : Nat} {s t : List Int}
end
end Pm
set_option Elab.async false
set_option autoImplicit false
set_option linter.all false
set_option maxRecDepth 100000
set_option maxHeartbeats 1000001
namespace Pm
section
variable {n : Nat} {s : List Int}
def Wd (n : Nat) (v : List Nat) : Prop := ∀ l ∈ v, 1 ≤ l ∧ l < n
theorem Wd.one {l : Nat} (h : 1 ≤ l ∧ l < n) : Wd n [l] := fun k hk => by
  rw [List.mem_singleton.mp hk]
  exact h
def M (s : List Int) : List (List Int) := (wp s).map fun z => [at' s z.2, at' s z.1]
theorem mem_wpi {i j : Nat} : j ∈ wpi s i ↔ i < j ∧ j < s.length ∧ at' s j < at' s i := by
  unfold wpi
  rw [List.mem_filter, List.mem_map]
  constructor
  · rintro ⟨⟨k, hk, rfl⟩, q⟩
    have := List.mem_range.mp hk
    exact ⟨by omega, by omega, of_decide_eq_true q⟩
  · rintro ⟨h1, h2, h3⟩
    exact ⟨⟨j - (i + 1), List.mem_range.mpr (by omega), by omega⟩, decide_eq_true h3⟩
theorem mem_wp {z : Nat × Nat} : z ∈ wp s ↔ z.1 < z.2 ∧ z.2 < s.length ∧ at' s z.2 < at' s z.1 := by
  unfold wp
  rw [List.mem_flatMap]
  constructor
  · rintro ⟨i, hi, hz⟩
    obtain ⟨j, hj, rfl⟩ := List.mem_map.mp hz
    exact mem_wpi.mp hj
  · intro h
    exact ⟨z.1, List.mem_range.mpr (by omega), List.mem_map.mpr ⟨z.2, mem_wpi.mpr h, rfl⟩⟩
end
end Pm
set_option Elab.async false
set_option autoImplicit false
set_option linter.all false
set_option maxRecDepth 100000
set_option maxHeartbeats 1000001
namespace L2
open PySem
end L2
namespace Lib
open PySem L2 Pm
section
variable {n : Nat} {v : List Nat} {x : D}
theorem q_eqN (a b : Nat) : pEq [.int (a : Nat), .int (b : Nat)] = some (.d (.bool (decide (a = b)))) := by
  rw [q_eqi]
  have e : decide (((a : Nat) : Int) = ((b : Nat) : Int)) = decide (a = b) := decide_eq_decide.mpr ⟨fun h => by omega, fun h => by omega⟩
  rw [e]
theorem q_ix0 (x : D) (xs : List D) : pIx [.list (x :: xs), .int 0] = some (.d x) := by
  have e1 : atI (x :: xs) 0 = some x := by
    unfold atI
    rw [show ((0 : Int)) = ((0 : Nat) : Int) from rfl, ixN_nat (by simp)]
    rfl
  simp only [pIx, e1, Option.map_some]
end
end Lib
set_option Elab.async false
set_option autoImplicit false
set_option linter.all false
set_option maxRecDepth 100000
set_option maxHeartbeats 1000001
namespace L2
open PySem
section
variable {d1 d2 d3 a b : DE} {e e1 e2 : Slots} {x y z : D} {p q : Bool} {g h : List D → Option TV}
theorem v_andB (h1 : a e = some (.d (.bool p), e1)) (h2 : b e1 = some (.d (.bool q), e1)) : dAnd a b e = some (.d (.bool (p && q)), e1) := by
  refine v_and h1 ?_
  cases p
  · rfl
  · exact h2
end
theorem lc_fe {β : Type} {enc : β → D} {g : DG} {c t : DE} {vs : List Nat} {e : Slots} {p : β → Bool} {f : β → D} : ∀ {xs : List β}, (∀ x ∈ xs, ∃ e1 e2, g (enc x) e = some e1 ∧ asB (c e1) = some (p x, e2) ∧ (p x = true → ∃ e3, t e2 = some (.d (f x), e3) ∧ wipeS e3 vs = e) ∧ (p x = false → wipeS e2 vs = e)) →
    lcGo g c t vs (xs.map enc) e = some ((xs.filter p).map f, e)
  | [], _ => rfl
  | x :: xs, h => by
    obtain ⟨e1, e2, h1, h2, h3, h4⟩ := h x List.mem_cons_self
    have ih := lc_fe (enc := enc) (g := g) (c := c) (t := t) (vs := vs) (e := e) (p := p) (f := f) fun y hy => h y (List.mem_cons_of_mem _ hy)
    rw [List.map_cons]
    simp only [lcGo, h1]
    cases hp : p x with
    | true =>
      rw [hp] at h2
      obtain ⟨e3, h5, h6⟩ := h3 hp
      rw [h2]
      simp only [h5, h6, ih, List.filter_cons, hp, if_true, List.map_cons]
    | false =>
      rw [hp] at h2
      rw [h2]
      simp only [h4 hp, ih, List.filter_cons, hp, Bool.false_eq_true, if_false]
theorem lc_me {β : Type} {enc : β → D} {g : DG} {t : DE} {vs : List Nat} {e : Slots} {f : β → D} {xs : List β} (h : ∀ x ∈ xs, ∃ e1 e3, g (enc x) e = some e1 ∧ t e1 = some (.d (f x), e3) ∧ wipeS e3 vs = e) : lcGo g dYes t vs (xs.map enc) e = some (xs.map f, e) := by
  have := lc_fe (enc := enc) (g := g) (c := dYes) (t := t) (vs := vs) (e := e) (p := fun _ => true) (f := f) (xs := xs) fun x hx => by
    obtain ⟨e1, e3, h1, h2, h3⟩ := h x hx
    exact ⟨e1, e1, h1, rfl, fun _ => ⟨e3, h2, h3⟩, fun z => by cases z⟩
  rw [this, List.filter_eq_self.mpr fun _ _ => rfl]
end L2
namespace Lib
open PySem L2 Pm
theorem tupsD_map : ∀ ps : List (List Int), (∀ b ∈ ps, b ≠ []) → tupsD (ps.map Tu) = some ps
  | [], _ => rfl
  | p :: ps, h => by
    show tupsD (.tuple (p.map PyData.int) :: ps.map Tu) = _
    simp only [tupsD, intsD_map, tupsD_map ps fun b hb => h b (List.mem_cons_of_mem _ hb)]
    rw [if_neg (h p List.mem_cons_self)]
theorem q_sortT {ps : List (List Int)} (h : ps.length ≤ 1000) (hne : ∀ b ∈ ps, b ≠ []) : pSortedT [.list (ps.map Tu)] = some (.own ((sortR ps).map Tu)) := by
  simp only [pSortedT, tupsD_map ps hne]
  rw [if_pos (small_ok h)]
  rfl
def Xp (z : Nat × Nat) : D := .tuple [.int (z.1 : Nat), .int (z.2 : Nat)]
def d_done : FD := dFn 5 (dSeq [sAsg (dVar 1) (gTp [gNm 2, gNm 3]),
 sSet 4 (dPrim pList [.bor 0]),
 sAsg (dTup [dPrim pIx [.bor 0, .bor 3], dPrim pIx [.bor 0, .bor 2]]) (gTp [gIx 4 (dVar 2), gIx 4 (dVar 3)]),
 sRet (dPrim pTuple [.bor 4])])
section
variable {n : Nat} {s t : List Int} {x : D} {i j : Nat}
theorem e_done (h : s.length = n) (hi : i < n) (hj : j < n) : d_done none [Tu s, Xp (i, j)] = some (.d (Tu (exch s i j)), []) := by
  have a1 : pList [Tu s] = some (.own (iD' s)) := rfl
  have a2 := q_ix h (k := (j : Nat)) rfl hj
  have a3 := q_ix h (k := (i : Nat)) rfl hi
  have a4 : ((iD' s).set i (.int (at' s j))).set j (.int (at' s i)) = iD' (exch s i j) := by
    unfold iD' exch
    rw [← List.map_set, ← List.map_set]
  let E : Option TV → Slots := fun o => [some (.d (Tu s)), some (.d (Xp (i, j))), some (.d (.int (i : Nat))), some (.d (.int (j : Nat))), o]
  have b0 : sAsg (dVar 1) (gTp [gNm 2, gNm 3]) [some (.d (Tu s)), some (.d (Xp (i, j))), none, none, none] = some (.nx, E none) := v_asg (v_Var rfl) rfl
  have b1 : gTp [gIx 4 (dVar 2), gIx 4 (dVar 3)] (.tuple [.int (at' s j), .int (at' s i)]) (E (some (.own (iD' s)))) = some (E (some (.own (iD' (exch s i j))))) := by
    rw [← a4]
    exact v_gTp (v_gA (v_gIx rfl (v_Var rfl) rfl (by rw [List.length_map, h]; exact ixN_nat hi) rfl) (v_gA (v_gIx rfl (v_Var rfl) rfl (by rw [List.length_set, List.length_map, h]; exact ixN_nat hj) rfl) v_gA0))
  have a5 : pTuple [Li (exch s i j)] = some (.d (Tu (exch s i j))) := rfl
  exact v_fn0 (e0 := [some (.d (Tu s)), some (.d (Xp (i, j))), none, none, none]) rfl (v_sqN b0 (v_sqN (v_set (v_prim (v_osD rfl v_os0 rfl) a1) (show 4 < 5 by decide) rfl) (v_sqN (v_asg (v_tup (v_xs (v_prim (v_osD rfl (v_osD rfl v_os0 rfl) rfl) a2) (v_xs (v_prim (v_osD rfl (v_osD rfl v_os0 rfl) rfl) a3) v_xs0)) (by simp)) b1) (v_sqR (v_ret (v_prim (v_osO rfl v_os0 rfl) a5))))))
def exsk (n k : Nat) : List (Nat × Nat) := (List.range k).flatMap fun i => ((List.range (n - (i + 1))).map fun k => i + 1 + k).map fun j => (i, j)
theorem exsk_len : ∀ n, n < 10 → ∀ k, k < 10 → (exsk n k).length ≤ 81 := by decide +kernel
theorem exs_len {n : Nat} (h : n ≤ 9) : (exs n).length ≤ 81 := exsk_len n (by omega) n (by omega)
theorem e_right {st : FD} {p : Nat × Nat → Bool} (h : P n s) (h1 : 1 ≤ n) (h9 : n ≤ 9) (hx : x = Tu s ∨ x = Li s) (hs : st none [Tu s] = some (.own (((exs n).filter p).map Xp), [])) : dFn 3 (dSeq [sSet 1 (dCall d_want_order none [dVar 0]),
 sRet (dPrim pSortedT [.ex (frz (dLc (iSeq (frz (dCall st none [dVar 1]))) (gNm 2) [2] (dYes) (frz (dCall d_done none [dVar 1, dVar 2]))))])]) none [x] = some (.own ((sortR (((exs n).filter p).map fun z => exch s z.1 z.2)).map Tu), []) := by
  have a1 := e_want_order h h1 h9 hx
  have b0 : iSeq (frz (dCall st none [dVar 1])) [some (.d x), some (.d (Tu s)), none] = some (((exs n).filter p).map Xp, [some (.d x), some (.d (Tu s)), none]) :=
    v_seq (v_frzo (v_call (v_xs (v_Var rfl) v_xs0) hs)) rfl
  have b1 : lcGo (gNm 2) dYes (frz (dCall d_done none [dVar 1, dVar 2])) [2] (((exs n).filter p).map Xp) [some (.d x), some (.d (Tu s)), none] = some (((exs n).filter p).map (fun z => Tu (exch s z.1 z.2)), [some (.d x), some (.d (Tu s)), none]) :=
    lc_me fun z hz => by
      obtain ⟨h1, h2⟩ := mem_exs.mp (List.mem_filter.mp hz).1
      exact ⟨_, [some (.d x), some (.d (Tu s)), some (.d (Xp z))], rfl, v_frzd (v_call (v_xs (v_Var rfl) (v_xs (v_Var rfl) v_xs0)) (e_done h.len (by omega) h2)), rfl⟩
  have l1 := exs_len h9
  have l2 := List.length_filter_le p (exs n)
  have b2 := dLc_of (vs := [2]) (e3 := [some (.d x), some (.d (Tu s)), none]) b0 b1 (by rw [List.length_map]; omega) rfl
  have em : ((exs n).filter p).map (fun z => Tu (exch s z.1 z.2)) = (((exs n).filter p).map fun z => exch s z.1 z.2).map Tu := by
    rw [List.map_map]
    rfl
  rw [em] at b2
  have q := q_sortT (ps := ((exs n).filter p).map fun z => exch s z.1 z.2) (by rw [List.length_map]; omega) fun b hb e => by
    obtain ⟨z, _, rfl⟩ := List.mem_map.mp hb
    have := congrArg List.length e
    rw [len_exch, h.len] at this
    simp only [List.length_nil] at this
    omega
  exact v_fn0 (e0 := [some (.d x), none, none]) rfl (v_sqN (v_set (v_call (v_xs (v_Var rfl) v_xs0) a1) (show 1 < 3 by decide) rfl) (v_sqR (v_ret (v_prim (v_osE (v_frzo b2) v_os0) q))))
end
end Lib
set_option Elab.async false
set_option autoImplicit false
set_option linter.all false
set_option maxRecDepth 100000
set_option maxHeartbeats 1000001
namespace Lib
open PySem L2 Pm
def d_is_lower : FD := dFn 8 (dSeq [sParO 2 3 (dLst []) (dLst []),
 sFor (iZp (dVar 0) (dVar 1)) (gTp [gNm 4, gNm 5]) (dSeq [sParO 2 3 (dPrim pSorted [.ex (frz (dPrim pAdd [.bor 2, .ex (frz (dLst [dVar 4]))]))]) (dPrim pSorted [.ex (frz (dPrim pAdd [.bor 3, .ex (frz (dLst [dVar 5]))]))]),
 sIf (dPrim pAny [.ex (frz (dLc (iZp (dVar 2) (dVar 3)) (gTp [gNm 6, gNm 7]) [6, 7] (dYes) (dPrim pGt [.bor 6, .bor 7])))]) (dSeq [sRet (dC (.bool false))]) (dSeq [])]),
 sRet (dC (.bool true))])
def d_want_two : FD := dFn 4 (dSeq [sParO 2 3 (dCall d_want_order none [dVar 0]) (dCall d_want_order none [dVar 1]),
 sDrop (dCall d_want_alike none [dVar 2, dVar 3]),
 sRet (dTup [dVar 2, dVar 3])])
def d_is_below : FD := dFn 4 (dSeq [sAsg (frz (dCall d_want_two none [dVar 0, dVar 1])) (gTp [gNm 2, gNm 3]),
 sRet (dCall d_is_lower none [dVar 2, dVar 3])])
theorem q_srtL (xs : List Int) : pSorted [Li xs] = some (.own (iD' (sortI xs))) := by
  simp only [pSorted, intsD_map]
theorem q_catL {a b : List Int} (h : a.length + b.length ≤ 1000) : pAdd [Li a, Li b] = some (.own (iD' (a ++ b))) := by
  rw [q_cat (by rw [List.length_map, List.length_map]; exact h), ← List.map_append]
def Pz (z : Int × Int) : D := .tuple [.int z.1, .int z.2]
theorem zip_Pz : ∀ a b : List Int, zipD (iD' a) (iD' b) = (a.zip b).map Pz
  | [], b => by cases b <;> rfl
  | x :: a, [] => rfl
  | x :: a, y :: b => by
    show PyData.tuple [.int x, .int y] :: zipD (iD' a) (iD' b) = _
    rw [zip_Pz a b]
    rfl
theorem pw_any : ∀ a b : List Int, ((a.zip b).any fun z => decide (z.2 < z.1)) = !pw a b
  | [], b => by cases b <;> rfl
  | x :: a, [] => rfl
  | x :: a, y :: b => by
    show (decide (y < x) || (a.zip b).any fun z => decide (z.2 < z.1)) = !(decide (x ≤ y) && pw a b)
    rw [pw_any a b, Bool.not_and]
    congr 1
    by_cases c : x ≤ y
    · rw [decide_eq_true c, decide_eq_false (by omega)]
      rfl
    · rw [decide_eq_false c, decide_eq_true (by omega)]
      rfl
section
variable {n : Nat} {s t : List Int} {x y : D} {i j : Nat}
theorem sort_next {s : List Int} {k : Nat} (hk : k < s.length) : sortI (sortI (s.take k) ++ [at' s k]) = sortI (s.take (k + 1)) := by
  refine sortI_congr ?_
  rw [List.take_add_one, List.getElem?_eq_getElem hk, at_eq hk]
  exact (L2.sortI_perm _).append_right _
theorem e_is_lower (h : P n s) (k : P n t) (h9 : n ≤ 9) : d_is_lower none [Tu s, Tu t] = some (.d (.bool (lowb n s t)), []) := by
  have hl := h.len
  have kl := k.len
  let E : Option TV → Option TV → Option TV → Option TV → Slots := fun a b c d => [some (.d (Tu s)), some (.d (Tu t)), a, b, c, d, none, none]
  let B : DS := dSeq [sParO 2 3 (dPrim pSorted [.ex (frz (dPrim pAdd [.bor 2, .ex (frz (dLst [dVar 4]))]))]) (dPrim pSorted [.ex (frz (dPrim pAdd [.bor 3, .ex (frz (dLst [dVar 5]))]))]),
 sIf (dPrim pAny [.ex (frz (dLc (iZp (dVar 2) (dVar 3)) (gTp [gNm 6, gNm 7]) [6, 7] (dYes) (dPrim pGt [.bor 6, .bor 7])))]) (dSeq [sRet (dC (.bool false))]) (dSeq [])]
  -- one turn
  have turn : ∀ (m : Nat) (a b : TV) (c d : Option TV), m < n → a.toD = Li (sortI (s.take m)) → b.toD = Li (sortI (t.take m)) → ∃ e1, gTp [gNm 4, gNm 5] (Pz (at' s m, at' t m)) (E (some a) (some b) c d) = some e1 ∧
      B e1 = some (if lowk s t m then .nx else .rt (.d (.bool false)), E (some (.d (Li (sortI (s.take (m + 1)))))) (some (.d (Li (sortI (t.take (m + 1)))))) (some (.d (.int (at' s m)))) (some (.d (.int (at' t m))))) := by
    intro m a b c d hm ha hb
    let S : Option TV := some (.d (.int (at' s m)))
    let T : Option TV := some (.d (.int (at' t m)))
    refine ⟨E (some a) (some b) S T, rfl, ?_⟩
    have ls : (sortI (s.take m)).length ≤ 9 := by rw [sortI_len, List.length_take]; omega
    have lt : (sortI (t.take m)).length ≤ 9 := by rw [sortI_len, List.length_take]; omega
    have p1 : dPrim pSorted [.ex (frz (dPrim pAdd [.bor 2, .ex (frz (dLst [dVar 4]))]))] (E (some a) (some b) S T) = some (.own (iD' (sortI (s.take (m + 1)))), E (some a) (some b) S T) := by
      rw [← sort_next (s := s) (k := m) (by omega)]
      exact v_prim (v_osE (v_frzo (v_prim (v_osR rfl (v_osE (v_frzo (v_lst (v_xs (v_Var rfl) v_xs0) (by simp))) v_os0) rfl ha) (q_catL (b := [at' s m]) (by simp only [List.length_cons, List.length_nil]; omega)))) v_os0) (q_srtL _)
    have p2 : dPrim pSorted [.ex (frz (dPrim pAdd [.bor 3, .ex (frz (dLst [dVar 5]))]))] (E (some a) (some b) S T) = some (.own (iD' (sortI (t.take (m + 1)))), E (some a) (some b) S T) := by
      rw [← sort_next (s := t) (k := m) (by omega)]
      exact v_prim (v_osE (v_frzo (v_prim (v_osR rfl (v_osE (v_frzo (v_lst (v_xs (v_Var rfl) v_xs0) (by simp))) v_os0) rfl hb) (q_catL (b := [at' t m]) (by simp only [List.length_cons, List.length_nil]; omega)))) v_os0) (q_srtL _)
    let A1 := sortI (s.take (m + 1))
    let B1 := sortI (t.take (m + 1))
    have p3 : sParO 2 3 (dPrim pSorted [.ex (frz (dPrim pAdd [.bor 2, .ex (frz (dLst [dVar 4]))]))]) (dPrim pSorted [.ex (frz (dPrim pAdd [.bor 3, .ex (frz (dLst [dVar 5]))]))]) (E (some a) (some b) S T) = some (.nx, E (some (.own (iD' A1))) (some (.own (iD' B1))) S T) :=
      v_par p1 p2 (by show 2 < 8 ∧ 3 < 8; decide) rfl
    let Z : Slots := E (some (.d (Li A1))) (some (.d (Li B1))) S T
    have z0 : iZp (dVar 2) (dVar 3) (E (some (.own (iD' A1))) (some (.own (iD' B1))) S T) = some ((A1.zip B1).map Pz, Z) := by
      have q : evx [dVar 2, dVar 3] (E (some (.own (iD' A1))) (some (.own (iD' B1))) S T) = some ([Li A1, Li B1], Z) := v_xs (v_VarO rfl rfl) (v_xs (v_VarO rfl rfl) v_xs0)
      unfold iZp
      rw [q]
      show (match zipOf (Li A1) (Li B1) with
        | some zs => some (zs, Z)
        | none => none) = _
      show some (zipD (iD' A1) (iD' B1), Z) = _
      rw [zip_Pz]
    have z1 : lcGo (gTp [gNm 6, gNm 7]) dYes (dPrim pGt [.bor 6, .bor 7]) [6, 7] ((A1.zip B1).map Pz) Z = some ((A1.zip B1).map fun z => PyData.bool (decide (z.2 < z.1)), Z) :=
      lc_me fun z _ => ⟨_, [some (.d (Tu s)), some (.d (Tu t)), some (.d (Li A1)), some (.d (Li B1)), S, T, some (.d (.int z.1)), some (.d (.int z.2))], rfl, v_prim (v_osD rfl (v_osD rfl v_os0 rfl) rfl) (q_gt _ _), rfl⟩
    have lA : A1.length ≤ 9 := by show (sortI (s.take (m + 1))).length ≤ 9; rw [sortI_len, List.length_take]; omega
    have z2 := dLc_of (vs := [6, 7]) (e3 := Z) z0 z1 (by rw [List.length_map, List.length_zip]; omega) rfl
    have q : ∀ l : List (Int × Int), boolsD (l.map fun z => PyData.bool (decide (z.2 < z.1))) = some (l.map fun z => decide (z.2 < z.1)) := by
      intro l
      induction l with
      | nil => rfl
      | cons y l ih => simp only [List.map_cons, boolsD, ih]
    have q2 : pAny [.list ((A1.zip B1).map fun z => PyData.bool (decide (z.2 < z.1)))] = some (.d (.bool (!lowk s t m))) := by
      simp only [pAny, q]
      unfold lowk
      rw [← pw_any, List.any_map]
      rfl
    have z3 := v_prim (v_osE (v_frzo z2) v_os0) q2
    refine v_sqN p3 ?_
    cases c : lowk s t m with
    | true =>
      rw [c] at z3
      exact v_sqN (v_sifF z3 v_sq0) v_sq0
    | false =>
      rw [c] at z3
      exact v_sqR (v_sifT z3 (v_sqR (v_ret v_C)))
  -- all turns from one on
  have loop : ∀ (r m : Nat) (a b : TV) (c d : Option TV), m + r = n → a.toD = Li (sortI (s.take m)) → b.toD = Li (sortI (t.take m)) → ∃ e', forGo (gTp [gNm 4, gNm 5]) B (((s.zip t).drop m).map Pz) (E (some a) (some b) c d) = some (if (List.range r).all (fun l => lowk s t (m + l)) then .nx else .rt (.d (.bool false)), e') := by
    intro r
    induction r with
    | zero =>
      intro m a b c d hm ha hb
      have e0 : (s.zip t).drop m = [] := List.drop_eq_nil_of_le (by rw [List.length_zip]; omega)
      rw [e0]
      exact ⟨_, rfl⟩
    | succ r ih =>
      intro m a b c d hm ha hb
      have lz : m < (s.zip t).length := by rw [List.length_zip]; omega
      have ez : (s.zip t)[m] = (at' s m, at' t m) := by
        rw [List.getElem_zip, at_eq (by omega), at_eq (by omega)]
      rw [List.drop_eq_getElem_cons lz, ez, List.map_cons]
      obtain ⟨e1, g1, g2⟩ := turn m a b c d (by omega) ha hb
      have er : (List.range (r + 1)).all (fun l => lowk s t (m + l)) = (lowk s t m && (List.range r).all fun l => lowk s t (m + 1 + l)) := by
        rw
              [List.range_succ_eq_map, List.all_cons, List.all_map]
        congr 1
        refine congrArg (fun f => (List.range r).all f) (funext fun l => ?_)
        show lowk s t (m + (l + 1)) = _
        rw [show m + (l + 1) = m + 1 + l by omega]
      rw [er]
      cases hc : lowk s t m with
      | true =>
        rw [hc] at g2
        obtain ⟨e', g3⟩ := ih (m + 1) (.d (Li (sortI (s.take (m + 1))))) (.d (Li (sortI (t.take (m + 1))))) (some (.d (.int (at' s m)))) (some (.d (.int (at' t m)))) (by omega) rfl rfl
        refine ⟨e', ?_⟩
        rw [Bool.true_and, ← g3]
        simp only [forGo, g1, g2, if_true]
      | false =>
        rw [hc] at g2
        refine ⟨E (some (.d (Li (sortI (s.take (m + 1)))))) (some (.d (Li (sortI (t.take (m + 1)))))) (some (.d (.int (at' s m)))) (some (.d (.int (at' t m)))), ?_⟩
        have h := g2
        simp only [forGo, g1, h, Bool.false_and]
        rfl
  obtain ⟨e', c1⟩ := loop n 0 (.own []) (.own []) none none (by omega) rfl rfl
  have el : (List.range n).all (fun l => lowk s t (0 + l)) = lowb n s t := by
    unfold lowb
    refine congrArg (fun f => (List.range n).all f) (funext fun l => ?_)
    rw [Nat.zero_add]
  rw [el, List.drop_zero] at c1
  have z0 : iZp (dVar 0) (dVar 1) (E (some (.own [])) (some (.own [])) none none) = some ((s.zip t).map Pz, E (some (.own [])) (some (.own [])) none none) := by
    have q : evx [dVar 0, dVar 1] (E (some (.own [])) (some (.own [])) none none) = some ([Tu s, Tu t], E (some (.own [])) (some (.own [])) none none) := v_xs (v_Var rfl) (v_xs (v_Var rfl) v_xs0)
    unfold iZp
    rw [q]
    show some (zipD (iD' s) (iD' t), _) = _
    rw [zip_Pz]
  have p0 : sParO 2 3 (dLst []) (dLst []) (E none none none none) = some (.nx, E (some (.own [])) (some (.own [])) none none) :=
    v_par (v_lst v_xs0 (by decide)) (v_lst v_xs0 (by decide)) (by show 2 < 8 ∧ 3 < 8; decide) rfl
  cases hc : lowb n s t with
  | true =>
    rw [hc] at c1
    exact v_fn0 (e0 := E none none none none) rfl (v_sqN p0 (v_sqN (v_for z0 c1) (v_sqR (v_ret v_C))))
  | false =>
    rw [hc] at c1
    exact v_fn0 (e0 := E none none none none) rfl (v_sqN p0 (v_sqR (v_for z0 c1)))
theorem e_want_two (h : P n s) (k : P n t) (h1 : 1 ≤ n) (h9 : n ≤ 9) (hx : x = Tu s ∨ x = Li s) (hy : y = Tu t ∨ y = Li t) : d_want_two none [x, y] = some (.d (.tuple [Tu s, Tu t]), []) := by
  have a1 := e_want_order h h1 h9 hx
  have a2 := e_want_order k h1 h9 hy
  have a3 := e_want_alike h k
  exact v_fn0 (e0 := [some (.d x), some (.d y), none, none]) rfl (v_sqN (v_par (v_call (v_xs (v_Var rfl) v_xs0) a1) (v_call (v_xs (v_Var rfl) v_xs0) a2) (by show 2 < 4 ∧ 3 < 4; decide) rfl) (v_sqN (v_drop (v_call (v_xs (v_Var rfl) (v_xs (v_Var rfl) v_xs0)) a3)) (v_sqR (v_ret (v_tup (v_xs (v_Var rfl) (v_xs (v_Var rfl) v_xs0)) (by simp))))))
theorem e_is_below (h : P n s) (k : P n t) (h1 : 1 ≤ n) (h9 : n ≤ 9) (hx : x = Tu s ∨ x = Li s) (hy : y = Tu t ∨ y = Li t) : d_is_below none [x, y] = some (.d (.bool (lowb n s t)), []) := by
  have a1 := e_want_two h k h1 h9 hx hy
  have a2 := e_is_lower h k h9
  exact v_fn0 (e0 := [some (.d x), some (.d y), none, none]) rfl (v_sqN (v_asg (e2 := [some (.d x), some (.d y), some (.d (Tu s)), some (.d (Tu t))]) (v_frzd (v_call (v_xs (v_Var rfl) (v_xs (v_Var rfl) v_xs0)) a1)) rfl) (v_sqR (v_ret (v_call (v_xs (v_Var rfl) (v_xs (v_Var rfl) v_xs0)) a2))))
theorem v_ifT {c a b : DE} {e e1 : Slots} {o : Option (TV × Slots)} (h1 : c e = some (.d (.bool true), e1)) (h2 : a e1 = o) : dIf c a b e = o := v_if h1 h2
theorem v_ifF {c a b : DE} {e e1 : Slots} {o : Option (TV × Slots)} (h1 : c e = some (.d (.bool false), e1)) (h2 : b e1 = o) : dIf c a b e = o := v_if h1 h2
end
end Lib
set_option Elab.async false
set_option autoImplicit false
set_option linter.all false
set_option maxRecDepth 100000
set_option maxHeartbeats 1000001
namespace Lib
open PySem L2 Pm
def D_potH : FD := dFn 3 (dSeq [sSet 2 (dIf (dPrim pLt [.bor 1, .ex (dPrim pLen [.bor 0])]) (dPrim pAbs [.ex (dPrim pIx [.bor 0, .bor 1])]) (dPrim pAdd [.ex (frz (dPrim pMul [.ex (dC (.int 89)), .bor 1])), .ex (dC (.int 67))])),
 sRet (dLst [dPrim pMaxA [.ex (dC (.int 0)), .ex (dPrim pSub [.bor 2, .ex (dPrim pPow [.ex (dC (.int 10)), .ex (dC (.int 18))])])], frz (dPrim pAdd [.ex (dPrim pMod [.ex (dPrim pInt [.ex (frz (dPrim pAdd [.ex (frz (dPrim pAdd [.ex (frz (dPrim pMul [.ex (dPrim pMod [.ex (dPrim pInt [.bor 2]), .ex (dC (.int 2147483549))]), .ex (dC (.int 48271))])), .ex (frz (dPrim pMul [.ex (dC (.int 6011)), .bor 1]))])), .ex (dC (.int 97))]))]), .ex (dC (.int 2147483579))]), .ex (dC (.int 1))])])])
theorem e_potH {x : D} {is : List Int} (hx : Scr x is) {k : Nat} (hk : k < 3) : ∃ p', D_potH none [x, .int (k : Nat)] = some (.own p', []) ∧ Pot p' := by
  let E : Option TV → Slots := fun o => [some (.d x), some (.d (.int (k : Nat))), o]
  have m1 : pMul [.int 89, .int (k : Nat)] = some (.d (.int (89 * (k : Int)))) := q_mul (abs_lt (by decide) (by decide)) (abs_lt (by omega) (by omega))
  have cell : ∃ c : Int, dIf (dPrim pLt [.bor 1, .ex (dPrim pLen [.bor 0])]) (dPrim pAbs [.ex (dPrim pIx [.bor 0, .bor 1])]) (dPrim pAdd [.ex (frz (dPrim pMul [.ex (dC (.int 89)), .bor 1])), .ex (dC (.int 67))]) (E none) = some (.d (.int c), E none) := by
    by_cases c : k < is.length
    · have g : pLt [.int (k : Nat), .int (is.length : Nat)] = some (.d (.bool true)) := by
        simp only [pLt, decide_eq_true (show ((k : Nat) : Int) < (is.length : Nat) by omega)]
      obtain ⟨z, q⟩ := q_abs is[k]
      exact ⟨z, v_ifT (v_prim (v_osD rfl (v_osE (v_prim (v_osD rfl v_os0 rfl) hx.len) v_os0) rfl) g) (v_prim (v_osE (v_prim (v_osD rfl (v_osD rfl v_os0 rfl) rfl) (hx.ix k c)) v_os0) q)⟩
    · have g : pLt [.int (k : Nat), .int (is.length : Nat)] = some (.d (.bool false)) := by
        simp only [pLt, decide_eq_false (show ¬ (((k : Nat) : Int) < (is.length : Nat)) by omega)]
      exact ⟨_, v_ifF (v_prim (v_osD rfl (v_osE (v_prim (v_osD rfl v_os0 rfl) hx.len) v_os0) rfl) g) (v_prim (v_osE (v_frzd (v_prim (v_osE v_C (v_osD rfl v_os0 rfl)) m1)) (v_osE v_C v_os0)) (q_add _ _))⟩
  obtain ⟨c, hc⟩ := cell
  have w1 : pPow [.int 10, .int 18] = some (.d (.int (10 ^ 18))) := by
    simp only [pPow]
    rw [if_pos ⟨by decide, by decide, by decide⟩]
    rfl
  have r0 : 0 ≤ c % 2147483549 := Int.emod_nonneg _ (by decide)
  have r1 : c % 2147483549 < 2147483549 := Int.emod_lt_of_pos _ (by decide)
  have m2 : pMul [.int (c % 2147483549), .int 48271] = some (.d (.int (c % 2147483549 * 48271))) := q_mul (abs_lt (by omega) (by omega)) (abs_lt (by decide) (by decide))
  have m3 : pMul [.int 6011, .int (k : Nat)] = some (.d (.int (6011 * (k : Int)))) := q_mul (abs_lt (by decide) (by decide)) (abs_lt (by omega) (by omega))
  obtain ⟨a, x1, x2⟩ := q_max 0 (c - 10 ^ 18)
  have s0 : 0 ≤ (c % 2147483549 * 48271 + 6011 * (k : Int) + 97) % 2147483579 := Int.emod_nonneg _ (by decide)
  have s1 : (c % 2147483549 * 48271 + 6011 * (k : Int) + 97) % 2147483579 < 2147483579 := Int.emod_lt_of_pos _ (by decide)
  refine ⟨[.int a, .int ((c % 2147483549 * 48271 + 6011 * (k : Int) + 97) % 2147483579 + 1)], ?_, a, _, rfl, by omega, by omega, by omega⟩
  exact v_fn0 (e0 := E none) rfl (v_sqN (v_set hc (show 2 < 3 by decide) rfl) (v_sqR (v_ret (v_lst (v_xs (v_prim (v_osE v_C (v_osE (v_prim (v_osD rfl (v_osE (v_prim (v_osE v_C (v_osE v_C v_os0)) w1) v_os0) rfl) (q_sub _ _)) v_os0)) x1)
    (v_xs (v_frzd (v_prim (v_osE (v_prim (v_osE (v_prim (v_osE (v_frzd (v_prim (v_osE (v_frzd (v_prim (v_osE (v_frzd (v_prim (v_osE (v_prim (v_osE (v_prim (v_osD rfl v_os0 rfl) (q_int _)) (v_osE v_C v_os0)) (q_mod (by decide))) (v_osE v_C v_os0)) m2)) (v_osE (v_frzd (v_prim (v_osE v_C (v_osD rfl v_os0 rfl)) m3)) v_os0)) (q_add _ _))) (v_osE v_C v_os0)) (q_add _ _))) v_os0) (q_int _)) (v_osE v_C v_os0)) (q_mod (by decide))) (v_osE v_C v_os0)) (q_add _ _))) v_xs0)) (by simp)))))
def D_lawM (N : Int) (pot right : FD) : FD := dFn 2 (dSeq [sRet (dPrim pAll [.ex (frz (dLc (iRg [.ex (dPrim pMaxA [.ex (dC (.int 1)), .ex (dPrim pMin [.ex (dPrim pLen [.bor 0]), .ex (dC (.int N))])])]) (gNm 1) [1] (dYes) (frz (dCallN right (dCall pot none [dVar 0, dVar 1]) []))))])])
theorem e_lawM {N : Int} (hN : 1 ≤ N ∧ N ≤ 3) {pot right : FD} {x : D} {is : List Int} (hlen : pLen [x] = some (.d (.int (is.length : Nat)))) (hpot : ∀ k : Nat, k < 3 → ∃ p', pot none [x, .int (k : Nat)] = some (.own p', []) ∧ Pot p') (hright : ∀ p, Pot p → ∃ p', right (some p) [] = some (.d (.bool true), p') ∧ Pot p') : (D_lawM N pot right) none [x] = some (.d (.bool true), []) := by
  obtain ⟨m, hm1, hm3, hm⟩ : ∃ m : Nat, 1 ≤ m ∧ m ≤ 3 ∧ max 1 (min (is.length : Int) N) = (m : Nat) := ⟨(max 1 (min (is.length : Int) N)).toNat, by omega, by omega, by omega⟩
  obtain ⟨c1, q1, e1⟩ := q_min (is.length : Nat) N
  obtain ⟨c2, q2, e2⟩ := q_max 1 c1
  have e3 : c2 = (m : Nat) := by omega
  subst e3
  have b0 : iRg [.ex (dPrim pMaxA [.ex (dC (.int 1)), .ex (dPrim pMin [.ex (dPrim pLen [.bor 0]), .ex (dC (.int N))])])] [some (.d x), none] = some (rgD 0 ((m : Int) - 0).toNat, [some (.d x), none]) :=
    iRg_of (v_osE (v_prim (v_osE v_C (v_osE (v_prim (v_osE (v_prim (v_osD rfl v_os0 rfl) hlen) (v_osE v_C v_os0)) q1) v_os0)) q2) v_os0) (rgOf_nat (by omega))
  have b1 : lcGo (gNm 1) dYes (frz (dCallN right (dCall pot none [dVar 0, dVar 1]) [])) [1] (rgD 0 ((m : Int) - 0).toNat) [some (.d x), none] = some ((rgD 0 ((m : Int) - 0).toNat).map fun _ => .bool true, [some (.d x), none]) :=
    lc_m fun y hy => by
      obtain ⟨i, hi, rfl⟩ := mem_rg hy
      have e : (0 + (i : Int)) = (i : Nat) := by omega
      rw [e]
      obtain ⟨p, f1, hp⟩ := hpot i (by omega)
      obtain ⟨p', f2, hp'⟩ := hright p hp
      exact ⟨[some (.d x), some (.d (.int (i : Nat)))], [some (.d x), some (.d (.int (i : Nat)))], rfl, v_frzd (v_callN (v_call (v_xs (v_Var rfl) (v_xs (v_Var rfl) v_xs0)) f1) v_xs0 f2), rfl⟩
  have ln : ((rgD 0 ((m : Int) - 0).toNat).map fun _ => PyData.bool true).length ≤ 1000 := by
    rw [List.length_map, rgD_len]
    omega
  have b2 := dLc_of (vs := [1]) (e3 := [some (.d x), none]) b0 b1 ln rfl
  have q3 : pAll [.list ((rgD 0 ((m : Int) - 0).toNat).map fun _ => PyData.bool true)] = some (.d (.bool true)) := by
    simp only [pAll, trues]
    rw [all_t]
  exact v_fn0 (e0 := [some (.d x), none]) rfl (v_sqR (v_ret (v_prim (v_osE (v_frzo b2) v_os0) q3)))
theorem keepsH {N : Int} {pot right law : FD} (hN : 1 ≤ N ∧ N ≤ 3) (hpot : pot = D_potH) (hright : ∀ p, Pot p → ∃ p', right (some p) [] = some (.d (.bool true), p') ∧ Pot p') (hl : law = D_lawM N pot right) : Keeps 63 law := fun is _ => by
  subst hl
  subst hpot
  exact ⟨⟨[], e_lawM hN (scr_list is).len (fun k hk => e_potH (scr_list is) hk) hright⟩, ⟨[], e_lawM hN (scr_own is).len (fun k hk => e_potH (scr_own is) hk) hright⟩⟩
def D_mixed (f : FD) : FD := dFn 5 (dSeq [sParO 2 3 (dPrim pList [.bor 1]) (dLst []),
 sFor (iRg [.ex (dPrim pLen [.bor 1])]) (gNm 4) (dSeq [sDrop (dMut mAppend 3 [dMut mPop 2 [frz (dCallI f 0 [dPrim pLen [.bor 2]])]])]),
 sRet (dMove 3)])
theorem e_mixed {f : FD} (df : Draws f) {p : List D} {l : List Int} (hp : Pot p) (h9 : l.length ≤ 9) : ∃ (s : List Int) (p' : List D), D_mixed f (some p) [Li l] = some (.own (iD' s), p') ∧ s.Perm l ∧ Pot p' := by
  let A : Option TV := some (.d (Li l))
  obtain ⟨e', c1, q, left, found, t4, rfl, hq, hperm, hlen⟩ := for_inv (g := gNm 4) (t := dSeq [sDrop (dMut mAppend 3 [dMut mPop 2 [frz (dCallI f 0 [dPrim pLen [.bor 2]])]])])
    (fun rest e => ∃ (q : List D) (left found : List Int) (t4 : Option TV), e = [some (.own q), A, some (.own (iD' left)), some (.own (iD' found)), t4] ∧ Pot q ∧ (found ++ left).Perm l ∧ left.length = rest.length) (xs := rgD 0 ((l.length : Int) - 0).toNat)
    (e := [some (.own p), A, some (.own (iD' l)), some (.own (iD' [])), none]) ⟨p, l, [], none, rfl, hp, .refl _, by rw [rgD_len]; omega⟩ (by
      rintro x xs e ⟨q, left, found, t4, rfl, hq, hperm, hlen⟩
      have tot := hperm.length_eq
      rw [List.length_append] at tot
      rw [List.length_cons] at hlen
      obtain ⟨r, q', d1, d2, d3⟩ := df q ((left.length : Nat) : Int) hq (by omega) (by omega)
      have hr : r < left.length := by omega
      have a1 : pLen [Li left] = some (.d (.int ((left.length : Nat) : Int))) := q_lenL rfl
      have a2 : mPop (iD' left) [.int (r : Nat)] = some (iD' (left.eraseIdx r), .int left[r]) := by
        have e1 : -(2 ^ 63) ≤ ((r : Nat) : Int) ∧ ((r : Nat) : Int) < 2 ^ 63 := ⟨by omega, by omega⟩
        have e2 : seqIndex? ((r : Nat) : Int) (iD' left).length = some r := by
          have := ixN_seq (ixN_nat (n := (iD' left).length) (i := r) (by rw [List.length_map]; exact hr))
          exact this.1
        have e3 : (iD' left)[r]? = some (.int left[r]) := by
          rw [List.getElem?_map, List.getElem?_eq_getElem hr]
          rfl
        simp only [mPop]
        rw [if_pos e1, e2]
        simp only [e3, er_map]
      have a3 : mAppend (iD' found) [.int left[r]] = some (iD' (found ++ [left[r]]), .none) := by
        have e1 : (iD' found).length < sizeLine := by
          have := sizeLine_eq
          rw [List.length_map]
          omega
        simp only [mAppend]
        rw [if_pos e1]
        unfold iD'
        rw [List.map_append]
        rfl
      have b2 : dCallI f 0 [dPrim pLen [.bor 2]] [some (.own q), A, some (.own (iD' left)), some (.own (iD' found)), some (.d x)] = some (.d (.int (r : Nat)), [some (.own q'), A, some (.own (iD' left)), some (.own (iD' found)), some (.d x)]) :=
        v_callI rfl (v_xs (v_prim (v_osO rfl v_os0 rfl) a1) v_xs0) rfl d1 rfl
      have b3 : dMut mPop 2 [frz (dCallI f 0 [dPrim pLen [.bor 2]])] [some (.own q), A, some (.own (iD' left)), some (.own (iD' found)), some (.d x)] = some (.d (.int left[r]), [some (.own q'), A, some (.own (iD' (left.eraseIdx r))), some (.own (iD' found)), some (.d x)]) :=
        v_mut rfl (v_xs (v_frzd b2) v_xs0) rfl a2 rfl
      refine ⟨_, _, rfl, v_sqN (v_drop (v_mut rfl (v_xs b3 v_xs0) rfl a3 rfl)) v_sq0, q', left.eraseIdx r, found ++ [left[r]], some (.d x), rfl, d3, ?_, ?_⟩
      · rw [List.append_assoc]
        exact ((perm_erase hr).append_left found).trans hperm
      · rw [List.length_eraseIdx_of_lt hr]
        omega)
  have hl : left = [] := List.eq_nil_of_length_eq_zero hlen
  subst hl
  rw [List.append_nil] at hperm
  have c0 : sParO 2 3 (dPrim pList [.bor 1]) (dLst []) [some (.own p), A, none, none, none] = some (.nx, [some (.own p), A, some (.own (iD' l)), some (.own (iD' [])), none]) :=
    v_par (v_prim (v_osD rfl v_os0 rfl) rfl) (v_lst v_xs0 (by decide)) (by show 2 < 5 ∧ 3 < 5; decide) rfl
  exact ⟨found, q, v_fnI0 (e0 := [A, none, none, none]) rfl (v_sqN c0 (v_sqN (v_for (iRg_of (v_osE (v_prim (v_osD rfl v_os0 rfl) (q_lenL rfl)) v_os0) (rgOf_nat h9)) c1) (v_sqR (v_ret (v_Move rfl rfl))))) rfl, hperm, hq⟩
def D_pick (f : FD) : FD := dFn 2 (dSeq [sRet (dPrim pIx [.bor 1, .ex (frz (dCallI f 0 [dPrim pLen [.bor 1]]))])])
theorem e_pickD {f : FD} (df : Draws f) {p : List D} {l : List D} (hp : Pot p) (h0 : l ≠ []) (h100 : l.length ≤ 100) : ∃ (a : D) (p' : List D), D_pick f (some p) [.list l] = some (.d a, p') ∧ a ∈ l ∧ Pot p' := by
  have hpos : 0 < l.length := List.length_pos_iff.mpr h0
  obtain ⟨r, q', d1, d2, d3⟩ := df p ((l.length : Nat) : Int) hp (by omega) (by omega)
  have hr : r < l.length := by omega
  have a1 : pLen [.list l] = some (.d (.int ((l.length : Nat) : Int))) := rfl
  have a2 : pIx [.list l, .int (r : Nat)] = some (.d l[r]) := by
    have e : atI l ((r : Nat) : Int) = some l[r] := by
      unfold atI
      rw [ixN_nat hr]
      exact List.getElem?_eq_getElem hr
    simp only [pIx, e, Option.map_some]
  exact ⟨l[r], q', v_fnI0 (e0 := [some (.d (.list l))]) rfl (v_sqR (v_ret (v_prim (v_osD rfl (v_osE (v_frzd (v_callI rfl (v_xs (v_prim (v_osD rfl v_os0 rfl) a1) v_xs0) rfl d1 rfl)) v_os0) rfl) a2))) rfl, List.getElem_mem hr, d3⟩
def D_as (f : FD) : FD := dFn 2 (dSeq [sRet (dIf (dPrim pEq [.ex (frz (dCallI f 0 [dC (.int 2)])), .ex (dC (.int 0))]) (dPrim pList [.bor 1]) (dVar 1))])
theorem e_as {f : FD} (df : Draws f) {p : List D} {s : List Int} (hp : Pot p) : ∃ (r : TV) (p' : List D), (D_as f) (some p) [Tu s] = some (r, p') ∧ (r.toD = Tu s ∨ r.toD = Li s) ∧ Pot p' := by
  obtain ⟨r, p', h1, h2, h3⟩ := df p 2 hp (by decide) (by decide)
  by_cases c : (r : Int) = 0
  · have g : pEq [.int (r : Nat), .int 0] = some (.d (.bool true)) := by rw [q_eqi, decide_eq_true c]
    exact ⟨.own (iD' s), p', v_fnI0 (e0 := [some (.d (Tu s))]) rfl (v_sqR (v_ret (v_ifT (v_prim (v_osE (v_frzd (v_callI rfl (v_xs v_C v_xs0) rfl h1 rfl)) (v_osE v_C v_os0)) g) (v_prim (v_osD rfl v_os0 rfl) rfl)))) rfl, .inr rfl, h3⟩
  · have g : pEq [.int (r : Nat), .int 0] = some (.d (.bool false)) := by rw [q_eqi, decide_eq_false c]
    exact ⟨.d (Tu s), p', v_fnI0 (e0 := [some (.d (Tu s))]) rfl (v_sqR (v_ret (v_ifF (v_prim (v_osE (v_frzd (v_callI rfl (v_xs v_C v_xs0) rfl h1 rfl)) (v_osE v_C v_os0)) g) (v_Var rfl)))) rfl, .inl rfl, h3⟩
def D_orderW (f pick mixed : FD) : FD := dFn 3 (dSeq [sSet 2 (dCallI f 0 [dC (.int 9)]),
 sIf (dPrim pEq [.bor 2, .ex (dC (.int 0))]) (dSeq [sRet (dTRg [.ex (dC (.int 1)), .ex (frz (dPrim pAdd [.bor 1, .ex (dC (.int 1))]))])]) (dSeq []),
 sIf (dPrim pEq [.bor 2, .ex (dC (.int 1))]) (dSeq [sRet (dTRg3 [.bor 1, .ex (dC (.int 0)), .ex (dPrim pNeg [.ex (dC (.int 1))])])]) (dSeq []),
 sIf (dAnd (dPrim pLt [.bor 2, .ex (dC (.int 4))]) (dPrim pEq [.bor 1, .ex (dC (.int 4))])) (dSeq [sRet (dCallI pick 0 [frz (dLst [dTup [dC (.int 4), dC (.int 2), dC (.int 3), dC (.int 1)], dTup [dC (.int 3), dC (.int 4), dC (.int 1), dC (.int 2)]])])]) (dSeq []),
 sIf (dAnd (dPrim pLt [.bor 2, .ex (dC (.int 4))]) (dPrim pEq [.bor 1, .ex (dC (.int 5))])) (dSeq [sRet (dCallI pick 0 [frz (dLst [dTup [dC (.int 3), dC (.int 5), dC (.int 1), dC (.int 4), dC (.int 2)], dTup [dC (.int 4), dC (.int 2), dC (.int 5), dC (.int 1), dC (.int 3)], dTup [dC (.int 4), dC (.int 5), dC (.int 3), dC (.int 1), dC (.int 2)], dTup [dC (.int 5), dC (.int 2), dC (.int 3), dC (.int 4), dC (.int 1)]])])]) (dSeq []),
 sRet (dPrim pTuple [.ex (frz (dCallI mixed 0 [frz (dLRg [.ex (dC (.int 1)), .ex (frz (dPrim pAdd [.bor 1, .ex (dC (.int 1))]))])]))])])
def fall (n : Nat) : List Int := mk n fun i => (n : Int) - (i : Int)
theorem P_fall (n : Nat) : P n (fall n) where
  len := len_mk n _
  rng := fun i h => by unfold fall; rw [at_mk h]; omega
  inj := fun i j h1 h2 e => by unfold fall at e; rw [at_mk h1, at_mk h2] at e; omega
  sur := fun t h1 h2 => ⟨((n : Int) - t).toNat, by omega, by unfold fall; rw [at_mk (by omega)]; omega⟩
theorem dn_fall (n : Nat) : dnD (n : Int) ((n : Int) - 0).toNat = iD' (fall n) := by
  have e : ((n : Int) - 0).toNat = n := by omega
  rw [e]
  unfold dnD iD' fall mk
  rw [List.map_map]
  refine
        List.map_congr_left fun i _ => ?_
  show PyData.int ((n : Int) + (i : Int) * (-1)) = .int ((n : Int) - (i : Int))
  rw [show ((n : Int) + (i : Int) * (-1)) = ((n : Int) - (i : Int)) by omega]
theorem dTRg3_of {os : List Opd} {e e1 : Slots} {xs : List D} {i j : Int} (h1 : evs os e = some (xs, e1)) (h2 : rgOf3 xs = some (i, j)) : dTRg3 os e = some (.d (.tuple (dnD i (i - j).toNat)), e1) := by
  unfold dTRg3
  rw [h1]
  dsimp only
  rw [h2]
theorem rgOf3_fall {n : Nat} (n9 : n ≤ 9) : rgOf3 [.int (n : Nat), .int 0, .int (-1)] = some ((n : Int), 0) := by
  have e : smallR (n : Int) 0 = true := smallR_of (by omega) (by omega) (by omega) (by omega)
  have e2 : ((n : Int) - 0).toNat ≤ 2 ^ 24 := by omega
  simp only [rgOf3]
  rw [if_pos ⟨trivial, e, e2⟩]
theorem four_P : ∀ s ∈ [[4, 2, 3, 1], [3, 4, 1, 2]], P 4 s := by
  intro s hs
  simp only [List.mem_cons, List.not_mem_nil, or_false] at hs
  rcases hs with rfl | rfl <;> exact P_of (by decide)
theorem five_P : ∀ s ∈ [[3, 5, 1, 4, 2], [4, 2, 5, 1, 3], [4, 5, 3, 1, 2], [5, 2, 3, 4, 1]], P 5 s := by
  intro s hs
  simp only [List.mem_cons, List.not_mem_nil, or_false] at hs
  rcases hs with rfl | rfl | rfl | rfl <;> exact P_of (by decide)
theorem e_orderW {f pick mixed : FD} (df : Draws f) (hpick : pick = D_pick f) (hmix : mixed = D_mixed f) {p : List D} {n : Nat} (hp : Pot p) (h1 : 1 ≤ n) (h9 : n ≤ 9) : ∃ (s : List Int) (p' : List D), D_orderW f pick mixed (some p) [.int (n : Nat)] = some (.d (Tu s), p') ∧ P n s ∧ Pot p' := by
  subst hpick
  subst hmix
  obtain ⟨w, p1, d1, d2, hp1⟩ := df p 9 hp (by decide) (by decide)
  let N : Option TV := some (.d (.int (n : Nat)))
  let E : Option TV → Slots := fun o => [some (.own p), N, o]
  let F : Slots := [some (.own p1), N, some (.d (.int (w : Nat)))]
  have a0 : sSet 2 (dCallI f 0 [dC (.int 9)]) (E none) = some (.nx, F) := v_set (v_callI rfl (v_xs v_C v_xs0) rfl d1 rfl) (show 2 < 3 by decide) rfl
  have q0 : ∀ c : Int, dPrim pEq [.bor 2, .ex (dC (.int c))] F = some (.d (.bool (decide ((w : Int) = c))), F) := fun c => v_prim (v_osD rfl (v_osE v_C v_os0) rfl) (q_eqi _ _)
  have q4 : ∀ c : Int, dAnd (dPrim pLt [.bor 2, .ex (dC (.int 4))]) (dPrim pEq [.bor 1, .ex (dC (.int c))]) F = some (.d (.bool (decide ((w : Int) < 4) && decide ((n : Int) = c))), F) := fun c => v_andB (v_prim (v_osD rfl (v_osE v_C v_os0) rfl) (q_lt _ _)) (v_prim (v_osD rfl (v_osE v_C v_os0) rfl) (q_eqi _ _))
  by_cases c0 : (w : Int) = 0
  · have z := q0 0
    rw [decide_eq_true c0] at z
    have b1 : dTRg [.ex (dC (.int 1)), .ex (frz (dPrim pAdd [.bor 1, .ex (dC (.int 1))]))] F = some (.d (Tu (iota n)), F) := by
      show _ = some (TV.d (PyData.tuple (iD' (iota n))), _)
      rw [← rg1 n]
      exact dTRg_of (v_osE v_C (v_osE (v_frzd (v_prim (v_osD rfl (v_osE v_C v_os0) rfl) (q_add _ _))) v_os0)) (rgOf2_two h9)
    exact ⟨iota n, p1, v_fnI0 (e0 := [N, none]) rfl (v_sqN a0 (v_sqR (v_sifT z (v_sqR (v_ret b1))))) rfl, P_iota n, hp1⟩
  have z0 := q0 0
  rw [decide_eq_false c0] at z0
  by_cases c1 : (w : Int) = 1
  · have z := q0 1
    rw [decide_eq_true c1] at z
    have b1 : dTRg3 [.bor 1, .ex (dC (.int 0)), .ex (dPrim pNeg [.ex (dC (.int 1))])] F = some (.d (Tu (fall n)), F) := by
      show _ = some (TV.d (PyData.tuple (iD' (fall n))), _)
      rw [← dn_fall n]
      exact dTRg3_of (v_osD rfl (v_osE v_C (v_osE (v_prim (v_osE v_C v_os0) rfl) v_os0)) rfl) (rgOf3_fall h9)
    exact ⟨fall n, p1, v_fnI0 (e0 := [N, none]) rfl (v_sqN a0 (v_sqN (v_sifF z0 v_sq0) (v_sqR (v_sifT z (v_sqR (v_ret b1)))))) rfl, P_fall n, hp1⟩
  have z1 := q0 1
  rw [decide_eq_false c1] at z1
  by_cases c2 : (w : Int) < 4 ∧ (n : Int) = 4
  · have z := q4 4
    rw [decide_eq_true c2.1, decide_eq_true c2.2] at z
    obtain ⟨a, p2, f2, ma, hp2⟩ := e_pickD df (l := [[4, 2, 3, 1], [3, 4, 1, 2]].map Tu) hp1 (by simp) (by simp)
    obtain ⟨s, hs, rfl⟩ := List.mem_map.mp ma
    have b1 : frz (dLst [dTup [dC (.int 4), dC (.int 2), dC (.int 3), dC (.int 1)], dTup [dC (.int 3), dC (.int 4), dC (.int 1), dC (.int 2)]]) F = some (.d (.list ([[4, 2, 3, 1], [3, 4, 1, 2]].map Tu)), F) := rfl
    have en : n = 4 := by omega
    exact ⟨s, p2, v_fnI0 (e0 := [N, none]) rfl (v_sqN a0 (v_sqN (v_sifF z0 v_sq0) (v_sqN (v_sifF z1 v_sq0) (v_sqR (v_sifT z (v_sqR (v_ret (v_callI rfl (v_xs b1 v_xs0) rfl f2 rfl)))))))) rfl, by rw [en]; exact four_P s hs, hp2⟩
  have z2 := q4 4
  have k2 : (decide ((w : Int) < 4) && decide ((n : Int) = 4)) = false := by
    rw [← Bool.decide_and]
    exact decide_eq_false c2
  rw [k2] at z2
  by_cases c3 : (w : Int) < 4 ∧ (n : Int) = 5
  · have z := q4 5
    rw [decide_eq_true c3.1, decide_eq_true c3.2] at z
    obtain ⟨a, p2, f2, ma, hp2⟩ := e_pickD df (l := [[3, 5, 1, 4, 2], [4, 2, 5, 1, 3], [4, 5, 3, 1, 2], [5, 2, 3, 4, 1]].map Tu) hp1 (by simp) (by simp)
    obtain ⟨s, hs, rfl⟩ := List.mem_map.mp ma
    have b1 : frz (dLst [dTup [dC (.int 3), dC (.int 5), dC (.int 1), dC (.int 4), dC (.int 2)], dTup [dC (.int 4), dC (.int 2), dC (.int 5), dC (.int 1), dC (.int 3)], dTup [dC (.int 4), dC (.int 5), dC (.int 3), dC (.int 1), dC (.int 2)], dTup [dC (.int 5), dC (.int 2), dC (.int 3), dC (.int 4), dC (.int 1)]]) F = some (.d (.list ([[3, 5, 1, 4, 2], [4, 2, 5, 1, 3], [4, 5, 3, 1, 2], [5, 2, 3, 4, 1]].map Tu)), F) := rfl
    have en : n = 5 := by omega
    exact ⟨s, p2, v_fnI0 (e0 := [N, none]) rfl (v_sqN a0 (v_sqN (v_sifF z0 v_sq0) (v_sqN (v_sifF z1 v_sq0) (v_sqN (v_sifF z2 v_sq0) (v_sqR (v_sifT z (v_sqR (v_ret (v_callI rfl (v_xs b1 v_xs0) rfl f2 rfl))))))))) rfl, by rw [en]; exact five_P s hs, hp2⟩
  have z3 := q4 5
  have k3 : (decide ((w : Int) < 4) && decide ((n : Int) = 5)) = false := by
    rw [← Bool.decide_and]
    exact decide_eq_false c3
  rw [k3] at z3
  obtain ⟨s, p2, f2, hs, hp2⟩ := e_mixed df (l := iota n) hp1 (by rw [len_iota]; exact h9)
  have b1 : frz (dLRg [.ex (dC (.int 1)), .ex (frz (dPrim pAdd [.bor 1, .ex (dC (.int 1))]))]) F = some (.d (Li (iota n)), F) := by
    show _ = some (TV.d (PyData.list (iD' (iota n))), _)
    rw [← rg1 n]
    exact v_frzo (dLRg_of (v_osE v_C (v_osE (v_frzd (v_prim (v_osD rfl (v_osE v_C v_os0) rfl) (q_add _ _))) v_os0)) (rgOf2_two h9))
  exact ⟨s, p2, v_fnI0 (e0 := [N, none]) rfl (v_sqN a0 (v_sqN (v_sifF z0 v_sq0) (v_sqN (v_sifF z1 v_sq0) (v_sqN (v_sifF z2 v_sq0) (v_sqN (v_sifF z3 v_sq0) (v_sqR (v_ret (v_prim (v_osE (v_frzo (v_callI rfl (v_xs b1 v_xs0) rfl f2 rfl)) v_os0) rfl)))))))) rfl, P_of hs, hp2⟩
end Lib
set_option Elab.async false
set_option autoImplicit false
set_option linter.all false
set_option maxRecDepth 100000
set_option maxHeartbeats 1000001
namespace Pm
section
variable {n : Nat} {s : List Int}
def hh (o : List Int) : List Int → Nat × Nat
  | [a, b] => (ix o b, ix o a)
  | _ => (0, 0)
end
end Pm
set_option Elab.async false
set_option autoImplicit false
set_option linter.all false
set_option maxRecDepth 100000
set_option maxHeartbeats 1000001
namespace Lib
open PySem L2 Pm
section
variable {n : Nat} {v : List Nat} {x : D} {s : List Int}
theorem q_ixL {l : List Int} {k : Int} {i : Nat} (hk : k = (i : Nat)) (hi : i < l.length) : pIx [.list (iD' l), .int k] = some (.d (.int (at' l i))) := by
  subst hk
  have e1 : (iD' l)[i]? = some (.int (at' l i)) := by
    rw [List.getElem?_map, at_some hi]
    rfl
  have e2 : atI (iD' l) (i : Nat) = some (.int (at' l i)) := by
    unfold atI
    rw [List.length_map, ixN_nat hi]
    exact e1
  simp only [pIx, e2, Option.map_some]
end
end Lib
set_option Elab.async false
set_option autoImplicit false
set_option linter.all false
set_option maxRecDepth 100000
set_option maxHeartbeats 1000001
namespace Lib
open PySem L2 Pm
theorem rgOf_nn {b n : Nat} (hb : b ≤ 99) (h : n ≤ 99) : rgOf [.int (b : Nat), .int (n : Nat)] = some (((b : Nat) : Int), ((n : Nat) : Int)) := by
  have e := smallR_of (i := (b : Int)) (j := (n : Nat)) (by omega) (by omega) (by omega) (by omega)
  simp only [rgOf, e, if_true]
theorem rg_nat (b l : Nat) : rgD (b : Int) l = (List.range' b l).map fun p : Nat => PyData.int (p : Nat) := by
  unfold rgD
  rw [List.range'_eq_map_range, List.map_map]
  refine
        List.map_congr_left fun i _ => ?_
  show PyData.int ((b : Int) + (i : Int)) = .int ((b + i : Nat) : Int)
  rw [show ((b : Int) + (i : Int)) = ((b + i : Nat) : Int) by omega]
section
variable {n m : Nat} {s t v : List Int} {x y : D}
end
end Lib
set_option Elab.async false
set_option autoImplicit false
set_option linter.all false
set_option maxRecDepth 100000
set_option maxHeartbeats 1000001
namespace Lib
open PySem L2 Pm
def lt (v : List Nat) (a : Nat) : Nat := v.getD a 0
section
variable {n : Nat} {v : List Nat}
end
end Lib
set_option Elab.async false
set_option autoImplicit false
set_option linter.all false
set_option maxRecDepth 100000
set_option maxHeartbeats 1000001
namespace Lib
open PySem L2 Pm
section
variable {n : Nat} {v : List Nat}
end
end Lib
namespace Pm
section
variable {n : Nat} {v : List Nat}
end
end Pm
set_option Elab.async false
set_option autoImplicit false
set_option linter.all false
set_option maxRecDepth 100000
set_option maxHeartbeats 1000001
namespace Lib
open PySem L2 Pm
section
variable {n m : Nat} {s t v : List Int} {x y : D}
end
end Lib
set_option Elab.async false
set_option autoImplicit false
set_option linter.all false
set_option maxRecDepth 100000
set_option maxHeartbeats 1000001
namespace Lib
open PySem L2 Pm
end Lib
set_option Elab.async false
set_option autoImplicit false
set_option linter.all false
set_option maxRecDepth 100000
set_option maxHeartbeats 1000001
namespace Lib
open PySem L2 Pm
theorem q_ge (a b : Int) : pGe [.int a, .int b] = some (.d (.bool (decide (b ≤ a)))) := rfl
end Lib
set_option Elab.async false
set_option autoImplicit false
set_option linter.all false
set_option maxRecDepth 100000
set_option maxHeartbeats 1000001
namespace Lib
open PySem L2 Pm
theorem q_neNil (bs : List (List Int)) : pNe [.list (bs.map Tu), .list []] = some (.d (.bool (decide (bs ≠ [])))) := by
  cases bs with
  | nil =>
    have e : PyData.eqv (.list []) (.list []) = true := rfl
    have s0 : SeqAt.shaped (.list []) = true := shaped_LT []
    simp only [pNe, List.map_nil, s0, and_self, if_true, e]
    rfl
  | cons b bs =>
    have e : PyData.eqv (.list ((b :: bs).map Tu)) (.list []) = false := rfl
    have s0 : SeqAt.shaped (.list []) = true := shaped_LT []
    simp only [pNe, s0, shaped_LT, and_self, if_true, e]
    rfl
end Lib
namespace Lib
open PySem L2 Pm
end Lib
set_option Elab.async false
set_option autoImplicit false
set_option linter.all false
set_option maxRecDepth 100000
set_option maxHeartbeats 1000001
namespace Pm
open L2 (sortI)
end Pm
set_option Elab.async false
set_option autoImplicit false
set_option linter.all false
set_option maxRecDepth 100000
set_option maxHeartbeats 1000001
namespace Lib
open PySem L2 Pm
section
variable {n : Nat} {s : List Int} {x : D}
end
end Lib
set_option Elab.async false
set_option autoImplicit false
set_option linter.all false
set_option maxRecDepth 100000
set_option maxHeartbeats 1000001
namespace Pm
open L2 (sortI)
section
variable {n m k : Nat} {s t v w u : List Int}
end
end Pm
set_option Elab.async false
set_option autoImplicit false
set_option linter.all false
set_option maxRecDepth 100000
set_option maxHeartbeats 1000001
namespace Lib
open PySem L2 Pm
def ShN (x : D) : Prop := pReprN [x] = some (.d (.str x.shown)) ∧ PyData.strOk x.shown = true
theorem shN_list {xs : List D} (h : ∀ x ∈ xs, okS x ∧ PyData.strOk x.shown = true) (hl : xs.length ≤ 1000) : ShN (.list xs) := by
  have a := reprOk_list (fun x hx => (h x hx).1) hl
  refine ⟨?_, ok_list (ok_all _ fun x hx => (h x hx).2)⟩
  show (if reprOk (.list xs) = true then _ else _) = _
  rw [if_pos a]
theorem for_nx {g : DG} {t : DS} {x : D} {xs : List D} {e e1 e2 : Slots} {fl : Option (Fl × Slots)} (h1 : g x e = some e1) (h2 : t e1 = some (.nx, e2)) (h3 : forGo g t xs e2 = fl) : forGo g t (x :: xs) e = fl := by
  simp only [forGo, h1, h2, h3]
theorem for_rt {g : DG} {t : DS} {x : D} {xs : List D} {e e1 e2 : Slots} {r : TV} (h1 : g x e = some e1) (h2 : t e1 = some (.rt r, e2)) : forGo g t (x :: xs) e = some (.rt r, e2) := by
  simp only [forGo, h1, h2]
end Lib
namespace Lib
open PySem L2 Pm
section
variable {n : Nat} {s t : List Int} {ws : List (List Int)} {x c : D}
end
end Lib
set_option Elab.async false
set_option autoImplicit false
set_option linter.all false
set_option maxRecDepth 100000
set_option maxHeartbeats 1000001
set_option Elab.async false
set_option autoImplicit false
set_option linter.all false
set_option maxRecDepth 100000
set_option maxHeartbeats 1000001
namespace Pm
open L2 (insI sortI)
def ge (k : Nat) (l : List Int) : Nat := (l.filter fun x => decide ((k : Int) ≤ x)).length
def cn (s : List Int) (m k : Nat) : Nat := ge k (s.take m)
def b2 (p : Prop) [Decidable p] : Nat := if p then 1 else 0
theorem b2_pos {p : Prop} [Decidable p] (h : p) : b2 p = 1 := if_pos h
theorem b2_neg {p : Prop} [Decidable p] (h : ¬ p) : b2 p = 0 := if_neg h
theorem b2_le {p : Prop} [Decidable p] : b2 p ≤ 1 := by unfold b2; split <;> omega
theorem ge_cons (k : Nat) (x : Int) (l : List Int) : ge k (x :: l) = b2 ((k : Int) ≤ x) + ge k l := by
  unfold ge b2
  rw [List.filter_cons]
  by_cases c : (k : Int) ≤ x
  · rw [if_pos (decide_eq_true c), if_pos c, List.length_cons]
    omega
  · rw [if_neg (by rw [decide_eq_false c]; exact Bool.false_ne_true), if_neg c]
    omega
theorem ge_app (k : Nat) (a b : List Int) : ge k (a ++ b) = ge k a + ge k b := by
  unfold ge
  rw [List.filter_append, List.length_append]
theorem ge_perm {k : Nat} {a b : List Int} (h : a.Perm b) : ge k a = ge k b := (h.filter _).length_eq
theorem ge_le (k : Nat) (l : List Int) : ge k l ≤ l.length := List.length_filter_le _ _
theorem ge_all {k : Nat} {l : List Int} (h : ∀ x ∈ l, (k : Int) ≤ x) : ge k l = l.length := by
  unfold ge
  rw [List.filter_eq_self.mpr fun x hx => decide_eq_true (h x hx)]
theorem ge_iff {k : Nat} {l : List Int} (h : ge k l = l.length) : ∀ x ∈ l, (k : Int) ≤ x := by
  induction l with
  | nil => intro x hx; cases hx
  | cons y l ih =>
    rw [ge_cons, List.length_cons] at h
    have a := ge_le k l
    by_cases c : (k : Int) ≤ y
    · rw [b2_pos c] at h
      intro x hx
      rcases
            List.mem_cons.mp hx with rfl | hx
      · exact c
      · exact ih (by omega) x hx
    · rw [b2_neg c] at h
      omega
theorem LeL_ge : ∀ {a b : List Int}, LeL a b → ∀ k, ge k a ≤ ge k b
  | [], [], _, k => Nat.le_refl _
  | x :: a, y :: b, h, k => by
    have ih := LeL_ge h.2 k
    have := h.1
    rw [ge_cons, ge_cons]
    unfold b2
    split <;> split <;> omega
theorem ge_LeL : ∀ {a b : List Int}, a.length = b.length → a.Pairwise (· ≤ ·) → b.Pairwise (· ≤ ·) → (∀ x ∈ a, 0 ≤ x) → (∀ k, ge k a ≤ ge k b) → LeL a b
  | [], [], _, _, _, _, _ => trivial
  | x :: a, y :: b, hl, sa, sb, h0, h => by
    have sa2 := List.pairwise_cons.mp sa
    have sb2 := List.pairwise_cons.mp sb
    have hl2 : a.length = b.length := by simpa using hl
    have x0 := h0 x List.mem_cons_self
    have ex : ((x.toNat : Nat) : Int) = x := by omega
    have all : ∀ z ∈ y :: b, x ≤ z := by
      have q := h x.toNat
      have l1 : ge x.toNat (x :: a) = (x :: a).length := ge_all fun z hz => by
        rw [ex]
        rcases
              List.mem_cons.mp hz with rfl | hz
        · exact Int.le_refl _
        · exact sa2.1 z hz
      have l2 := ge_le x.toNat (y :: b)
      have l3 := ge_iff (k := x.toNat) (l := y :: b) (by omega)
      intro z hz
      have := l3 z hz
      omega
    refine ⟨all y List.mem_cons_self, ge_LeL hl2 sa2.2 sb2.2 (fun z hz => h0 z (List.mem_cons_of_mem _ hz)) fun k => ?_⟩
    have q := h k
    rw [ge_cons, ge_cons] at q
    by_cases c : (k : Int) ≤ x
    · have e : ge k b = b.length := ge_all fun z hz => by
        have := all z (List.mem_cons_of_mem _ hz)
        omega
      have := ge_le k a
      omega
    · rw [b2_neg c] at q
      by_cases d : (k : Int) ≤ y
      · have e : ge k b = b.length := ge_all fun z hz => by
          have := sb2.1 z hz
          omega
        have := ge_le k a
        omega
      · rw [b2_neg d] at q
        omega
section
variable {n : Nat} {s t u : List Int}
def Low (s t : List Int) : Prop := ∀ m k : Nat, cn s m k ≤ cn t m k
theorem cn_zero (k : Nat) : cn s 0 k = 0 := rfl
theorem cn_succ {m : Nat} (k : Nat) (h : m < s.length) : cn s (m + 1) k = cn s m k + b2 ((k : Int) ≤ at' s m) := by
  unfold cn
  rw [List.take_add_one, List.getElem?_eq_getElem h, ge_app, at_eq h]
  show _ + ge k [s[m]] = _
  rw [ge_cons]
  rfl
theorem cn_big {m : Nat} (k : Nat) (h : s.length ≤ m) : cn s m k = ge k s := by
  unfold cn
  rw [List.take_of_length_le h]
theorem cn_ge {m : Nat} (k : Nat) (h : s.length ≤ m) : cn s m k = cn s s.length k := by
  rw [cn_big k h, cn_big k (Nat.le_refl _)]
theorem low_iff (h : P n s) (k : P n t) : lowb n s t = true ↔ Low s t := by
  have hs := h.len
  have ht := k.len
  have pos : ∀ {u : List Int}, P n u → ∀ m, ∀ x ∈ sortI (u.take m), 0 ≤ x := fun hu m x hx => by
    have := hu.mem (List.take_subset _ _ ((L2.sortI_perm _).mem_iff.mp hx))
    omega
  have one : ∀ m, m ≤ n → (pw (sortI (s.take m)) (sortI (t.take m)) = true ↔ ∀ j, cn s m j ≤ cn t m j) := fun m hm => by
    have ll : (sortI (s.take m)).length = (sortI (t.take m)).length := by rw [sortI_len, sortI_len, List.length_take, List.length_take, hs, ht]
    rw [← LeL_pw ll]
    have e : ∀ {u : List Int} (j : Nat), ge j (sortI (u.take m)) = cn u m j := fun j => ge_perm (L2.sortI_perm _)
    constructor
    · intro q j
      have := LeL_ge q j
      rwa [e, e] at this
    · intro q
      exact ge_LeL ll (L2.sortI_sorted _) (L2.sortI_sorted _) (pos h m) fun j => by
        rw [e, e]
        exact q j
  constructor
  · intro q m j
    have a := fun i (hi : i < n) => List.all_eq_true.mp q i (List.mem_range.mpr hi)
    rcases m with _ | m
    · exact Nat.le_refl _
    · by_cases c : m < n
      · exact (one (m + 1) (by omega)).mp (a m c) j
      · rcases n with _ | n
        · rw [cn_ge j (by omega), cn_ge (s := t) j (by omega), hs, ht]
          exact Nat.le_refl _
        · rw [cn_ge j (by omega), cn_ge (s := t) j (by omega), hs, ht]
          exact (one (n + 1) (by omega)).mp (a n (by omega)) j
  · intro q
    refine List.all_eq_true.mpr fun i hi => ?_
    exact (one (i + 1) (by have := List.mem_range.mp hi; omega)).mpr fun j => q (i + 1) j
theorem cn_k0 (h : P n s) {m : Nat} (hm : m ≤ n) : cn s m 1 = m ∧ cn s m 0 = m := by
  have hl := h.len
  have q : ∀ k : Nat, k ≤ 1 → cn s m k = m := fun k hk => by
    unfold cn
    rw [ge_all fun x hx => by
      have := h.mem (List.take_subset _ _ hx)
      omega, List.length_take]
    omega
  exact ⟨q 1 (by omega), q 0 (by omega)⟩
theorem cn_top (h : P n s) {m k : Nat} (hk : n < k) : cn s m k = 0 := by
  unfold cn ge
  rw [List.filter_eq_nil_iff.mpr fun x hx => by
    have := h.mem (List.take_subset _ _ hx)
    rw
          [decide_eq_false (by omega)]
    exact Bool.false_ne_true]
  rfl
theorem cn_iota {m k : Nat} (hm : m ≤ n) (hk : 1 ≤ k) : cn (iota n) m k = m - (k - 1) := by
  induction m with
  | zero => rw [cn_zero]; omega
  | succ m ih =>
    rw [cn_succ k (by rw [len_iota]; omega), ih (by omega), at_iota (by omega)]
    unfold b2
    split <;> omega
theorem ge_eqperm (h : P n s) (k : P n t) (j : Nat) : ge j s = ge j t := ge_perm (h.perm.trans k.perm.symm)
theorem cn_full (h : P n s) {k : Nat} (hk : 1 ≤ k) : cn s n k = n - (k - 1) := by
  have e := ge_eqperm h (P_iota n) k
  have a := cn_big (s := s) (m := n) k (by rw [h.len]; exact Nat.le_refl _)
  have b := cn_big (s := iota n) (m := n) k (by rw [len_iota]; exact Nat.le_refl _)
  rw [a, e, ← b, cn_iota (Nat.le_refl _) hk]
theorem cn_lip {m : Nat} (k : Nat) (h : m < s.length) : cn s m k ≤ cn s (m + 1) k ∧ cn s (m + 1) k ≤ cn s m k + 1 := by
  rw [cn_succ k h]
  have := b2_le (p := (k : Int) ≤ at' s m)
  omega
theorem cn_mono {m m' : Nat} (k : Nat) (h : m ≤ m') (hm : m' ≤ s.length) : cn s m k ≤ cn s m' k := by
  obtain ⟨d, rfl⟩ : ∃ d, m' = m + d := ⟨m' - m, by omega⟩
  clear h
  induction d with
  | zero => exact Nat.le_refl _
  | succ d ih =>
    have a := ih (by omega)
    have b := (cn_lip (s := s) (m := m + d) k (by omega)).1
    show cn s m k ≤ cn s (m + d + 1) k
    omega
theorem cn_le (h : P n s) {m k : Nat} (hm : m ≤ n) (hk : 1 ≤ k) : cn s m k ≤ m ∧ cn s m k ≤ n - (k - 1) := by
  have a := ge_le k (s.take m)
  rw [List.length_take] at a
  have b := cn_mono (s := s) (m := m) (m' := n) k hm (by rw [h.len]; omega)
  rw [cn_full h hk] at b
  exact ⟨by unfold cn; omega, b⟩
theorem inside (h : P n s) (k : P n t) {m j : Nat} (hm : m ≤ n) (c : cn s m j ≠ cn t m j) : 1 ≤ m ∧ m < n ∧ 2 ≤ j ∧ j ≤ n := by
  refine ⟨?_, ?_, ?_, ?_⟩
  · rcases m with _ | m
    · exact absurd rfl c
    · omega
  · refine Decidable.byContradiction fun z => c ?_
    have e : m = n := by omega
    subst e
    rcases j with _ | j
    · rw [(cn_k0 h hm).2, (cn_k0 k hm).2]
    · rw [cn_full h (by omega), cn_full k (by omega)]
  · refine Decidable.byContradiction fun z => c ?_
    rcases j with _ | _ | j
    · rw [(cn_k0 h hm).2, (cn_k0 k hm).2]
    · show cn s m 1 = cn t m 1
      rw [(cn_k0 h hm).1, (cn_k0 k hm).1]
    · omega
  · refine Decidable.byContradiction fun z => c ?_
    rw [cn_top h (by omega), cn_top k (by omega)]
theorem low_of {Q : Nat → Nat → Prop} (h : P n s) (k : P n t) (g : ∀ m j, m ≤ n → cn t m j < cn s m j → False) : Low s t := fun m j => by
  by_cases c : m ≤ n
  · exact Nat.le_of_not_lt fun z => g m j c z
  · have a := cn_ge (s := s) (m := m) j (by rw [h.len]; omega)
    have b := cn_ge (s := t) (m := m) j (by rw [k.len]; omega)
    rw [a, b, h.len, k.len]
    exact Nat.le_of_not_lt fun z => g n j (Nat.le_refl _) z
theorem low_refl : Low s s := fun _ _ => Nat.le_refl _
end
end Pm
set_option Elab.async false
set_option autoImplicit false
set_option linter.all false
set_option maxRecDepth 100000
set_option maxHeartbeats 1000001
namespace Pm
section
variable {n : Nat} {s t u : List Int}
def R (b l : Nat) : List Int := (List.range' b l).map fun i : Nat => (i : Int)
theorem len_R (b l : Nat) : (R b l).length = l := by
  unfold R
  rw [List.length_map, List.length_range']
theorem at_R {b l i : Nat} (h : i < l) : at' (R b l) i = ((b + i : Nat) : Int) := by
  rw [at_eq (by rw [len_R]; exact h)]
  unfold R
  rw [List.getElem_map, List.getElem_range']
  simp
theorem iota_R (n : Nat) : iota n = R 1 n := ext (len_iota n) (len_R 1 n) fun i hi => by
  rw [at_iota hi, at_R hi]
  omega
def ahd (m k c : Nat) : List Int := R 1 (m - c) ++ R k c
def lst (n m k c : Nat) : List Int := if (c : Int) ≤ max 0 ((m : Int) - k + 1) then iota n else ahd m k c ++ (iota n).filter fun x => !decide (x ∈ ahd m k c)
end
end Pm
set_option Elab.async false
set_option autoImplicit false
set_option linter.all false
set_option maxRecDepth 100000
set_option maxHeartbeats 1000001
namespace Lib
open PySem L2 Pm
theorem for_each {α σ : Type} {enc : α → D} {S : σ → Slots} {g : DG} {t : DS} : ∀ {xs : List α} (o : σ), (∀ x ∈ xs, ∀ o, ∃ e1 o', g (enc x) (S o) = some e1 ∧ t e1 = some (.nx, S o')) → ∃ o', forGo g t (xs.map enc) (S o) = some (.nx, S o')
  | [], o, _ => ⟨o, rfl⟩
  | x :: xs, o, h => by
    obtain ⟨e1, o1, h1, h2⟩ := h x List.mem_cons_self o
    obtain ⟨o', h3⟩ := for_each (xs := xs) o1 fun y hy => h y (List.mem_cons_of_mem _ hy)
    exact ⟨o', for_nx h1 h2 h3⟩
theorem for_acc {α β σ : Type} {enc : α → D} (F : α → List β) (S : List β → σ → Slots) {g : DG} {t : DS} : ∀ {xs : List α} (acc : List β) (o : σ), acc.length + (xs.flatMap F).length ≤ 1000 → (∀ x ∈ xs, ∀ (acc : List β) (o : σ), acc.length + (F x).length ≤ 1000 → ∃ e1 o', g (enc x) (S acc o) = some e1 ∧ t e1 = some (.nx, S (acc ++ F x) o')) → ∃ o', forGo g t (xs.map enc) (S acc o) = some (.nx, S (acc ++ xs.flatMap F) o')
  | [], acc, o, _, _ => ⟨o, by rw [List.flatMap_nil, List.append_nil]; rfl⟩
  | x :: xs, acc, o, hl, h => by
    rw [List.flatMap_cons, List.length_append] at hl
    obtain ⟨e1, o1, h1, h2⟩ := h x List.mem_cons_self acc o (by omega)
    obtain ⟨o', h3⟩ := for_acc (xs := xs) F S (acc ++ F x) o1 (by rw [List.length_append]; omega) fun y hy => h y (List.mem_cons_of_mem _ hy)
    rw [List.append_assoc] at h3
    exact ⟨o', for_nx h1 h2 (by rw [List.flatMap_cons]; exact h3)⟩
abbrev iN (p : Nat) : D := .int (p : Int)
theorem iRg2 {os : List Opd} {e e1 : Slots} {b c : Nat} (h : evs os e = some ([.int (b : Nat), .int (c : Nat)], e1)) (hb : b ≤ 99) (hc : c ≤ 99) : iRg os e = some ((List.range' b (c - b)).map iN, e1) := by
  have := iRg_of h (rgOf_nn (b := b) (n := c) hb hc)
  rw [this, rg_nat, show ((c : Int) - (b : Int)).toNat = c - b by omega]
theorem lRg2 {os : List Opd} {e e1 : Slots} {b c : Nat} (h : evs os e = some ([.int (b : Nat), .int (c : Nat)], e1)) (hb : b ≤ 99) (hc : c ≤ 99) : dLRg os e = some (.own (iD' (R b (c - b))), e1) := by
  have e0 := smallR_of (i := (b : Int)) (j := (c : Int)) (by omega) (by omega) (by omega) (by omega)
  have r : rgOf2 [.int (b : Nat), .int (c : Nat)] = some (((b : Nat) : Int), ((c : Nat) : Int)) := by
    simp only [rgOf2]
    rw [if_pos ⟨e0, Nat.le_trans (show ((c : Int) - (b : Int)).toNat ≤ 99 by omega) (by decide)⟩]
  rw [dLRg_of h r, rg_nat, show ((c : Int) - (b : Int)).toNat = c - b by omega]
  unfold R iD'
  rw [List.map_map]
  rfl
theorem q_leD {a b : Int} (h : a ≤ b) : pLe [.int a, .int b] = some (.d (.bool true)) := by
  have e : pLe [.int a, .int b] = some (.d (.bool (decide (a ≤ b)))) := rfl
  rw [e, decide_eq_true h]
theorem q_leI' (a b : Int) : pLe [.int a, .int b] = some (.d (.bool (decide (a ≤ b)))) := rfl
theorem q_addN (a b : Nat) : pAdd [.int (a : Int), .int (b : Int)] = some (.d (.int ((a + b : Nat) : Int))) := q_add _ _
theorem q_add1 (a : Nat) : pAdd [.int (a : Int), .int 1] = some (.d (.int ((a + 1 : Nat) : Int))) := q_add _ _
theorem q_subN {a b : Nat} (h : b ≤ a) : pSub [.int (a : Int), .int (b : Int)] = some (.d (.int ((a - b : Nat) : Int))) := by
  rw [q_sub, show ((a - b : Nat) : Int) = (a : Int) - b by omega]
theorem q_sub1 {a : Nat} (h : 1 ≤ a) : pSub [.int (a : Int), .int 1] = some (.d (.int ((a - 1 : Nat) : Int))) := by
  rw [q_sub, show ((a - 1 : Nat) : Int) = (a : Int) - 1 by omega]
theorem count_nat (a : Nat) : d_is_count none [.int (a : Nat)] = some (.d (.bool true), []) := by
  rw [e_is_count, decide_eq_true (show (0 : Int) ≤ (a : Nat) by omega)]
def d_is_corner : FD := dFn 2 (dSeq [sIf (dOr (dNot (dPrim (pIsi [.tuple]) [.bor 0])) (dOr (dPrim pNe [.ex (dPrim pLen [.bor 0]), .ex (dC (.int 2))]) (dOr (dNot (dCall d_is_count none [dPrim pIx [.bor 0, .ex (dC (.int 0))]])) (dNot (dCall d_is_count none [dPrim pIx [.bor 0, .ex (dC (.int 1))]]))))) (dSeq [sRet (dC (.bool false))]) (dSeq []),
 sRet (dAnd (dChain pLe pLe (dC (.int 1)) (dPrim pIx [.bor 0, .ex (dC (.int 0))]) (dVar 1)) (dChain pLe pLe (dC (.int 1)) (dPrim pIx [.bor 0, .ex (dC (.int 1))]) (dVar 1)))])
def d_want_corner : FD := dFn 2 (dSeq [sIf (dNot (dCall d_is_corner none [dVar 1, dVar 0])) (dSeq [sStuck]) (dSeq [])])
def d_count_of : FD := dFn 5 (dSeq [sAsg (dVar 1) (gTp [gNm 2, gNm 3]),
 sRet (dPrim pLen [.ex (frz (dLc (iSeq (frz (dSlice (.bor 0) none (some (dVar 2))))) (gNm 4) [4] (dPrim pGe [.bor 4, .bor 3]) (dVar 4)))])])
def d_counted : FD := dFn 3 (dSeq [sSet 2 (dCall d_want_order none [dVar 0]),
 sDrop (dCall d_want_corner none [dPrim pLen [.bor 2], dVar 1]),
 sRet (dCall d_count_of none [dVar 2, dVar 1])])
section
variable {n m k : Nat} {s t v : List Int} {x y : D}
theorem ix_X0 (m k : Nat) : pIx [Xp (m, k), .int 0] = some (.d (.int (m : Nat))) := rfl
theorem ix_X1 (m k : Nat) : pIx [Xp (m, k), .int 1] = some (.d (.int (k : Nat))) := rfl
theorem e_is_corner (h1 : 1 ≤ m ∧ m ≤ n) (h2 : 1 ≤ k ∧ k ≤ n) : d_is_corner none [Xp (m, k), .int (n : Nat)] = some (.d (.bool true), []) := by
  have c1 := count_nat m
  have c2 := count_nat k
  have l1 := q_leD (a := 1) (b := (m : Nat)) (by omega)
  have l2 := q_leD (a := (m : Nat)) (b := (n : Nat)) (by omega)
  have l3 := q_leD (a := 1) (b := (k : Nat)) (by omega)
  have l4 := q_leD (a := (k : Nat)) (b := (n : Nat)) (by omega)
  have i0 := ix_X0 m k
  have i1 := ix_X1 m k
  have t1 : pIsi [.tuple] [Xp (m, k)] = some (.d (.bool true)) := rfl
  have t2 : pLen [Xp (m, k)] = some (.d (.int 2)) := rfl
  have t3 : pNe [.int 2, .int 2] = some (.d (.bool false)) := rfl
  apply v_fn0 (e0 := [some (.d (Xp (m, k))), some (.d (.int (n : Nat)))]) rfl
  repeat (first | with_reducible assumption | with_reducible exact L2.v_C | with_reducible exact L2.v_os0 | with_reducible exact L2.v_xs0 | with_reducible exact L2.v_sq0 | with_reducible exact L2.v_gA0 | ((with_reducible apply L2.v_Var); exact rfl) | ((with_reducible apply L2.v_VarO); exact rfl; dsimp only [List.set]; exact rfl) | ((with_reducible apply L2.v_Move); exact rfl; dsimp only [List.set]; exact rfl) | with_reducible apply L2.v_osE | ((with_reducible apply L2.v_osD); exact rfl) | ((with_reducible apply L2.v_osO); exact rfl) | with_reducible apply L2.v_xs | with_reducible apply L2.v_prim | with_reducible apply L2.v_frz | with_reducible apply L2.v_tup | with_reducible apply L2.v_lst | with_reducible apply L2.v_call | with_reducible apply L2.v_callK | with_reducible apply L2.v_callN | ((with_reducible apply L2.v_callI); exact rfl) | with_reducible apply L2.v_chain | with_reducible apply L2.v_not | with_reducible apply L2.v_and | with_reducible apply L2.v_or | with_reducible apply L2.v_if | with_reducible apply L2.v_sif | with_reducible apply L2.v_sq | with_reducible apply L2.v_drop | with_reducible apply L2.v_ret | with_reducible apply L2.v_set | with_reducible apply L2.v_par | with_reducible apply L2.v_asg | with_reducible apply L2.v_for | with_reducible exact Lib.q_add _ _ | with_reducible exact Lib.q_sub _ _ | with_reducible exact Lib.q_lt _ _ | with_reducible exact Lib.q_gt _ _ | with_reducible exact Lib.q_ge _ _ | (focus (simp only [List.length_cons, List.length_nil, Nat.reduceAdd, Nat.reduceLT, Nat.reduceLeDiff, and_self]; done)) | (focus (dsimp only [L2.flK, cond_true, cond_false, L2.bnT, L2.bnF, L2.toDd, L2.toDo, List.set, L2.prm, List.filterMap, List.getElem?_cons_zero, List.getElem?_cons_succ, List.append_nil, List.nil_append, List.cons_append]; done)) | (dsimp only [L2.flK, cond_true, cond_false, L2.bnT, L2.bnF, L2.toDd, L2.toDo, List.set, L2.prm, List.filterMap, List.getElem?_cons_zero, List.getElem?_cons_succ, List.nil_append, List.cons_append]) | exact rfl)
theorem e_want_corner (h1 : 1 ≤ m ∧ m ≤ n) (h2 : 1 ≤ k ∧ k ≤ n) : d_want_corner none [.int (n : Nat), Xp (m, k)] = some (.d .none, []) := by
  have c := e_is_corner h1 h2
  apply v_fnN0 (e0 := [some (.d (.int (n : Nat))), some (.d (Xp (m, k)))]) rfl
  repeat (first | with_reducible assumption | with_reducible exact L2.v_C | with_reducible exact L2.v_os0 | with_reducible exact L2.v_xs0 | with_reducible exact L2.v_sq0 | with_reducible exact L2.v_gA0 | ((with_reducible apply L2.v_Var); exact rfl) | ((with_reducible apply L2.v_VarO); exact rfl; dsimp only [List.set]; exact rfl) | ((with_reducible apply L2.v_Move); exact rfl; dsimp only [List.set]; exact rfl) | with_reducible apply L2.v_osE | ((with_reducible apply L2.v_osD); exact rfl) | ((with_reducible apply L2.v_osO); exact rfl) | with_reducible apply L2.v_xs | with_reducible apply L2.v_prim | with_reducible apply L2.v_frz | with_reducible apply L2.v_tup | with_reducible apply L2.v_lst | with_reducible apply L2.v_call | with_reducible apply L2.v_callK | with_reducible apply L2.v_callN | ((with_reducible apply L2.v_callI); exact rfl) | with_reducible apply L2.v_chain | with_reducible apply L2.v_not | with_reducible apply L2.v_and | with_reducible apply L2.v_or | with_reducible apply L2.v_if | with_reducible apply L2.v_sif | with_reducible apply L2.v_sq | with_reducible apply L2.v_drop | with_reducible apply L2.v_ret | with_reducible apply L2.v_set | with_reducible apply L2.v_par | with_reducible apply L2.v_asg | with_reducible apply L2.v_for | with_reducible exact Lib.q_add _ _ | with_reducible exact Lib.q_sub _ _ | with_reducible exact Lib.q_lt _ _ | with_reducible exact Lib.q_gt _ _ | with_reducible exact Lib.q_ge _ _ | (focus (simp only [List.length_cons, List.length_nil, Nat.reduceAdd, Nat.reduceLT, Nat.reduceLeDiff, and_self]; done)) | (focus (dsimp only [L2.flK, cond_true, cond_false, L2.bnT, L2.bnF, L2.toDd, L2.toDo, List.set, L2.prm, List.filterMap, List.getElem?_cons_zero, List.getElem?_cons_succ, List.append_nil, List.nil_append, List.cons_append]; done)) | (dsimp only [L2.flK, cond_true, cond_false, L2.bnT, L2.bnF, L2.toDd, L2.toDo, List.set, L2.prm, List.filterMap, List.getElem?_cons_zero, List.getElem?_cons_succ, List.nil_append, List.cons_append]) | exact rfl)
theorem e_count_of (hl : s.length = n) (n9 : n ≤ 9) (hm : m ≤ n) (k : Nat) : d_count_of none [Tu s, Xp (m, k)] = some (.d (.int (cn s m k : Nat)), []) := by
  let E : Option TV → Slots := fun o => [some (.d (Tu s)), some (.d (Xp (m, k))), some (.d (.int (m : Nat))), some (.d (.int (k : Nat))), o]
  have b0 : lcGo (gNm 4) (dPrim pGe [.bor 4, .bor 3]) (dVar 4) [4] ((s.take m).map PyData.int) (E none) = some (((s.take m).filter fun x => decide ((k : Int) ≤ x)).map PyData.int, E none) :=
    lc_fe fun x _ => ⟨_, E (some (.d (.int x))), rfl, congrArg asB (v_prim (v_osD rfl (v_osD rfl v_os0 rfl) rfl) (q_ge _ _)), fun _ => ⟨_, v_Var rfl, rfl⟩, fun _ => rfl⟩
  have lf := List.length_filter_le (fun x : Int => decide ((k : Int) ≤ x)) (s.take m)
  rw [List.length_take] at lf
  have b1 := dLc_of (s := iSeq (frz (dSlice (.bor 0) none (some (dVar 2))))) (e := E none) (vs := [4]) (e3 := E none) (v_seq (v_frzd (v_sl rfl v_ev0 (v_ev (v_Var rfl)) rfl (cut_Te (by omega)))) rfl) b0 (by rw [List.length_map]; omega) rfl
  exact v_fn0 (e0 := [some (.d (Tu s)), some (.d (Xp (m, k))), none, none, none]) rfl (v_sqN (v_asg (v_Var rfl) rfl) (v_sqR (v_ret (v_prim (v_osE (v_frzo b1) v_os0) (q_lenL rfl)))))
theorem e_counted (h : P n s) (n1 : 1 ≤ n) (n9 : n ≤ 9) (h1 : 1 ≤ m ∧ m ≤ n) (h2 : 1 ≤ k ∧ k ≤ n) (hx : x = Tu s ∨ x = Li s) : d_counted none [x, Xp (m, k)] = some (.d (.int (cn s m k : Nat)), []) := by
  have a1 := e_want_order h n1 n9 hx
  have a2 := e_want_corner h1 h2
  have a3 := e_count_of h.len n9 h1.2 k
  have a4 := q_len h.len
  apply v_fn0 (e0 := [some (.d x), some (.d (Xp (m, k))), none]) rfl
  repeat (first | with_reducible assumption | with_reducible exact L2.v_C | with_reducible exact L2.v_os0 | with_reducible exact L2.v_xs0 | with_reducible exact L2.v_sq0 | with_reducible exact L2.v_gA0 | ((with_reducible apply L2.v_Var); exact rfl) | ((with_reducible apply L2.v_VarO); exact rfl; dsimp only [List.set]; exact rfl) | ((with_reducible apply L2.v_Move); exact rfl; dsimp only [List.set]; exact rfl) | with_reducible apply L2.v_osE | ((with_reducible apply L2.v_osD); exact rfl) | ((with_reducible apply L2.v_osO); exact rfl) | with_reducible apply L2.v_xs | with_reducible apply L2.v_prim | with_reducible apply L2.v_frz | with_reducible apply L2.v_tup | with_reducible apply L2.v_lst | with_reducible apply L2.v_call | with_reducible apply L2.v_callK | with_reducible apply L2.v_callN | ((with_reducible apply L2.v_callI); exact rfl) | with_reducible apply L2.v_chain | with_reducible apply L2.v_not | with_reducible apply L2.v_and | with_reducible apply L2.v_or | with_reducible apply L2.v_if | with_reducible apply L2.v_sif | with_reducible apply L2.v_sq | with_reducible apply L2.v_drop | with_reducible apply L2.v_ret | with_reducible apply L2.v_set | with_reducible apply L2.v_par | with_reducible apply L2.v_asg | with_reducible apply L2.v_for | with_reducible exact Lib.q_add _ _ | with_reducible exact Lib.q_sub _ _ | with_reducible exact Lib.q_lt _ _ | with_reducible exact Lib.q_gt _ _ | with_reducible exact Lib.q_ge _ _ | (focus (simp only [List.length_cons, List.length_nil, Nat.reduceAdd, Nat.reduceLT, Nat.reduceLeDiff, and_self]; done)) | (focus (dsimp only [L2.flK, cond_true, cond_false, L2.bnT, L2.bnF, L2.toDd, L2.toDo, List.set, L2.prm, List.filterMap, List.getElem?_cons_zero, List.getElem?_cons_succ, List.append_nil, List.nil_append, List.cons_append]; done)) | (dsimp only [L2.flK, cond_true, cond_false, L2.bnT, L2.bnF, L2.toDd, L2.toDo, List.set, L2.prm, List.filterMap, List.getElem?_cons_zero, List.getElem?_cons_succ, List.nil_append, List.cons_append]) | exact rfl)
theorem fm_len {α β : Type} {F : α → List β} {c : Nat} : ∀ {l : List α}, (∀ x ∈ l, (F x).length ≤ c) → (l.flatMap F).length ≤ l.length * c
  | [], _ => by simp
  | x :: l, h => by
    have := fm_len (l := l) fun y hy => h y (List.mem_cons_of_mem _ hy)
    have := h x List.mem_cons_self
    rw [List.flatMap_cons, List.length_append, List.length_cons, Nat.succ_mul]
    omega
end
end Lib
set_option Elab.async false
set_option autoImplicit false
set_option linter.all false
set_option maxRecDepth 100000
set_option maxHeartbeats 1000001
namespace Lib
open PySem L2 Pm
def d_L_count : FD := dFn 3 (dSeq [sRet (dPrim pSum [.ex (frz (dLc (iSeq (frz (dSlice (.bor 0) none (some (dPrim pIx [.bor 1, .ex (dC (.int 0))]))))) (gNm 2) [2] (dPrim pGe [.bor 2, .ex (dPrim pIx [.bor 1, .ex (dC (.int 1))])]) (dC (.int 1))))])])
def d_L_corners : FD := dFn 4 (dSeq [sSet 1 (dLst []),
 sFor (iRg [.ex (dC (.int 1)), .ex (frz (dPrim pAdd [.bor 0, .ex (dC (.int 1))]))]) (gNm 2) (dSeq [sDrop (dExt 1 (dLc (iRg [.ex (dC (.int 1)), .ex (frz (dPrim pAdd [.bor 0, .ex (dC (.int 1))]))]) (gNm 3) [3] (dYes) (dTup [dVar 2, dVar 3])))]),
 sRet (dMove 1)])
section
variable {n m k : Nat} {s t v : List Int} {x y : D}
theorem intsD_1 {α : Type} : ∀ l : List α, intsD (l.map fun _ => PyData.int 1) = some (l.map fun _ => (1 : Int))
  | [] => rfl
  | a :: l => by
    show (match intsD (l.map fun _ => PyData.int 1) with | some is => some ((1 : Int) :: is) | none => none) = _
    rw [intsD_1 l]
    rfl
theorem q_sum1 {α : Type} (l : List α) : pSum [.list (l.map fun _ => PyData.int 1)] = some (.d (.int (l.length : Nat))) := by
  have e : (l.map fun _ => (1 : Int)).sum = (l.length : Int) := by
    induction l with
    | nil => rfl
    | cons a l ih =>
      rw [List.map_cons, List.sum_cons, ih, List.length_cons]
      omega
  simp only [pSum, intsD_1, e]
theorem e_L_count (hl : s.length = n) (n9 : n ≤ 9) (hm : m ≤ n) (k : Nat) : d_L_count none [Tu s, Xp (m, k)] = some (.d (.int (cn s m k : Nat)), []) := by
  let E : Option TV → Slots := fun o => [some (.d (Tu s)), some (.d (Xp (m, k))), o]
  have b0 : lcGo (gNm 2) (dPrim pGe [.bor 2, .ex (dPrim pIx [.bor 1, .ex (dC (.int 1))])]) (dC (.int 1)) [2] ((s.take m).map PyData.int) (E none) = some (((s.take m).filter fun x => decide ((k : Int) ≤ x)).map (fun _ => PyData.int 1), E none) :=
    lc_fe fun x _ => ⟨_, E (some (.d (.int x))), rfl, congrArg asB (v_prim (v_osD rfl (v_osE (v_prim (v_osD rfl (v_osE v_C v_os0) rfl) (ix_X1 m k)) v_os0) rfl) (q_ge _ _)), fun _ => ⟨_, v_C, rfl⟩, fun _ => rfl⟩
  have lf := List.length_filter_le (fun x : Int => decide ((k : Int) ≤ x)) (s.take m)
  rw [List.length_take] at lf
  have b1 := dLc_of (s := iSeq (frz (dSlice (.bor 0) none (some (dPrim pIx [.bor 1, .ex (dC (.int 0))]))))) (e := E none) (vs := [2]) (e3 := E none) (v_seq (v_frzd (v_sl rfl v_ev0 (v_ev (v_prim (v_osD rfl (v_osE v_C v_os0) rfl) (ix_X0 m k))) rfl (cut_Te (by omega)))) rfl) b0 (by rw [List.length_map]; omega) rfl
  exact v_fn0 (e0 := E none) rfl (v_sqR (v_ret (v_prim (v_osE (v_frzo b1) v_os0) (q_sum1 _))))
def crL (n : Nat) : List (Nat × Nat) := (List.range' 1 n).flatMap fun m => (List.range' 1 n).map fun k => (m, k)
theorem mem_crL {z : Nat × Nat} : z ∈ crL n ↔ (1 ≤ z.1 ∧ z.1 ≤ n) ∧ 1 ≤ z.2 ∧ z.2 ≤ n := by
  unfold crL
  rw [List.mem_flatMap]
  constructor
  · rintro ⟨m, hm, hz⟩
    obtain ⟨k, hk, rfl⟩ := List.mem_map.mp hz
    have hm := List.mem_range'_1.mp hm
    have hk := List.mem_range'_1.mp hk
    exact ⟨⟨by omega, by omega⟩, by omega, by omega⟩
  · rintro ⟨h1, h2⟩
    exact ⟨z.1, List.mem_range'_1.mpr (by omega), List.mem_map.mpr ⟨z.2, List.mem_range'_1.mpr (by omega), rfl⟩⟩
theorem crL_len (n9 : n ≤ 9) : (crL n).length ≤ 81 := by
  have := fm_len (F := fun m => (List.range' 1 n).map fun k => (m, k)) (c := 9) (l := List.range' 1 n) fun x _ => by
    rw [List.length_map, List.length_range']
    exact n9
  rw [List.length_range'] at this
  unfold crL
  omega
theorem e_L_corners (n9 : n ≤ 9) : d_L_corners none [.int (n : Nat)] = some (.own ((crL n).map Xp), []) := by
  let S : List (Nat × Nat) → Option TV → Slots := fun acc o => [some (.d (.int (n : Nat))), some (.own (acc.map Xp)), o, none]
  let B : DS := dSeq [sDrop (dExt 1 (dLc (iRg [.ex (dC (.int 1)), .ex (frz (dPrim pAdd [.bor 0, .ex (dC (.int 1))]))]) (gNm 3) [3] (dYes) (dTup [dVar 2, dVar 3])))]
  have rg : ∀ (a b c : Option TV), iRg [.ex (dC (.int 1)), .ex (frz (dPrim pAdd [.bor 0, .ex (dC (.int 1))]))] [some (.d (.int (n : Nat))), a, b, c] = some ((List.range' 1 n).map iN, [some (.d (.int (n : Nat))), a, b, c]) := fun a b c => by
    have := iRg2 (b := 1) (c := n + 1) (os := [.ex (dC (.int 1)), .ex (frz (dPrim pAdd [.bor 0, .ex (dC (.int 1))]))]) (e := [some (.d (.int (n : Nat))), a, b, c]) (e1 := [some (.d (.int (n : Nat))), a, b, c]) (v_osE v_C (v_osE (v_frzd (v_prim (v_osD rfl (v_osE v_C v_os0) rfl) (q_add1 n))) v_os0)) (by omega) (by omega)
    rw [this, show n + 1 - 1 = n by omega]
  obtain ⟨o, c1⟩ := for_acc (enc := iN) (fun m => (List.range' 1 n).map fun k => (m, k)) S (g := gNm 2) (t := B) (xs := List.range' 1 n) [] none (by
    have := crL_len n9
    unfold crL at this
    simp only [List.length_nil]
    omega) fun m hm acc o ha => by
      let Z : Option TV → Slots := fun b => [some (.d (.int (n : Nat))), some (.own (acc.map Xp)), some (.d (iN m)), b]
      have b0 : lcGo (gNm 3) dYes (dTup [dVar 2, dVar 3]) [3] ((List.range' 1 n).map iN) (Z none) = some ((List.range' 1 n).map (fun k => Xp (m, k)), Z none) :=
        lc_me fun k hk => ⟨_, Z (some (.d (iN k))), rfl, v_tup (v_xs (v_Var rfl) (v_xs (v_Var rfl) v_xs0)) (by simp), rfl⟩
      have em : (List.range' 1 n).map (fun k => Xp (m, k)) = ((List.range' 1 n).map fun k => (m, k)).map Xp := by
        rw [List.map_map]
        rfl
      rw [em] at b0
      have b1 := dLc_of (e := Z none) (vs := [3]) (e3 := Z none) (rg _ _ _) b0 (by rw [List.length_map, List.length_map, List.length_range']; omega) rfl
      refine ⟨Z none, some (.d (iN m)), rfl, v_sqN (v_drop (v_ext rfl b1 rfl (by rw [List.length_map, List.length_map]; exact ha) ?_)) v_sq0⟩
      show List.set _ 1 _ = ([some (.d (.int (n : Nat))), some (.own ((acc ++ (List.range' 1 n).map fun k => (m, k)).map Xp)), some (.d (iN m)), none] : Slots)
      rw [List.map_append]
      rfl
  exact v_fn0 (e0 := [some (.d (.int (n : Nat))), none, none, none]) rfl (v_sqN (v_set (v_lst v_xs0 (by decide)) (show 1 < 4 by decide) rfl) (v_sqN (v_for (rg _ _ _) c1) (v_sqR (v_ret (v_Move rfl rfl)))))
theorem low_crL (h : P n s) (k : P n t) : ((crL n).all fun z => decide (cn s z.1 z.2 ≤ cn t z.1 z.2)) = lowb n s t := by
  rw [Bool.eq_iff_iff, low_iff h k, List.all_eq_true]
  constructor
  · intro g
    refine low_of (Q := fun _ _ => True) h k fun m j hm z => ?_
    obtain ⟨i1, i2, i3, i4⟩ := inside h k hm (j := j) (by omega)
    have le : cn s m j ≤ cn t m j := of_decide_eq_true (g (m, j) (mem_crL.mpr ⟨⟨i1, hm⟩, by show 1 ≤ j; omega, i4⟩))
    omega
  · exact fun g z _ => decide_eq_true (g z.1 z.2)
end
end Lib
set_option Elab.async false
set_option autoImplicit false
set_option linter.all false
set_option maxRecDepth 100000
set_option maxHeartbeats 1000001
namespace Lib
open PySem L2 Pm
section
variable {n m k : Nat} {s t v : List Int} {x y : D}
theorem q_neB' {a b : Bool} (h : a = b) : pNe [.bool a, .bool b] = some (.d (.bool false)) := by
  subst h
  cases a <;> rfl
end
end Lib
set_option Elab.async false
set_option autoImplicit false
set_option linter.all false
set_option maxRecDepth 100000
set_option maxHeartbeats 1000001
namespace Lib
open PySem L2 Pm
theorem for_fst {α σ : Type} {enc : α → D} {S : σ → Slots} {g : DG} {t : DS} {r : α → TV} (p : α → Bool) : ∀ {xs : List α} (o : σ), (∀ x ∈ xs, ∀ o, ∃ e1, g (enc x) (S o) = some e1 ∧ (p x = false → ∃ o', t e1 = some (.nx, S o')) ∧ (p x = true → ∃ e2, t e1 = some (.rt (r x), e2))) →
    (match xs.find? p with
      | none => ∃ o', forGo g t (xs.map enc) (S o) = some (.nx, S o')
      | some x => ∃ e2, forGo g t (xs.map enc) (S o) = some (.rt (r x), e2))
  | [], o, _ => ⟨o, rfl⟩
  | x :: xs, o, h => by
    obtain ⟨e1, h1, h2, h3⟩ := h x List.mem_cons_self o
    cases c : p x with
    | false =>
      obtain ⟨o1, h4⟩ := h2 c
      have a := for_fst (xs := xs) p o1 fun y hy => h y (List.mem_cons_of_mem _ hy)
      rw [List.find?_cons_of_neg (by rw [c]; exact Bool.false_ne_true)]
      cases e : xs.find? p with
      | none =>
        rw [e] at a
        obtain ⟨o', f⟩ := a
        exact ⟨o', for_nx h1 h4 f⟩
      | some y =>
        rw [e] at a
        obtain ⟨e2, f⟩ := a
        exact ⟨e2, for_nx h1 h4 f⟩
    | true =>
      obtain ⟨e2, h4⟩ := h3 c
      rw [List.find?_cons_of_pos c]
      exact ⟨e2, for_rt h1 h4⟩
section
variable {n m k : Nat} {s t v : List Int} {x y : D}
abbrev Vv (y : D) : Option TV := some (.d y)
def lowk (s t : List Int) (n m : Nat) : Bool := (List.range' 2 (n - 1)).all fun k => decide (cn s m k ≤ cn t m k)
end
end Lib
namespace Lib
open PySem L2 Pm
end Lib
set_option Elab.async false
set_option autoImplicit false
set_option linter.all false
set_option maxRecDepth 100000
set_option maxHeartbeats 1000001
namespace Lib
open PySem L2 Pm
section
variable {n m k c : Nat} {s t v x y : List Int}
end
end Lib
set_option Elab.async false
set_option autoImplicit false
set_option linter.all false
set_option maxRecDepth 100000
set_option maxHeartbeats 1000001
namespace Lib
open PySem L2 Pm
def d_table_of : FD := dFn 6 (dSeq [sParO 1 2 (dLst []) (dPrim pMul [.ex (frz (dLst [dC (.int 0)])), .ex (dPrim pLen [.bor 0])]),
 sFor (iSeq (dVar 0)) (gNm 3) (dSeq [sSet 2 (dLc (iEnu (dVar 2)) (gTp [gNm 4, gNm 5]) [4, 5] (dYes) (frz (dIf (dPrim pLt [.bor 4, .bor 3]) (dPrim pAdd [.bor 5, .ex (dC (.int 1))]) (dVar 5)))),
 sDrop (dMut mAppend 1 [dVar 2])]),
 sRet (dMove 1)])
theorem pairsD_map {β : Type} (f : β → D) : ∀ (l : List β) (k : Nat) (g : Nat → β), (∀ (i : Nat) (h : i < l.length), l[i] = g (k + i)) → pairsD k (l.map f) = (List.range' k l.length).map fun i => .tuple [.int (i : Nat), f (g i)]
  | [], _, _, _ => rfl
  | x :: l, k, g, h => by
    have h0 : x = g k := h 0 (by simp)
    rw [List.map_cons, List.length_cons, List.range'_succ, List.map_cons, ← h0]
    show _ :: pairsD (k + 1) (l.map f) = _
    rw [pairsD_map f l (k + 1) g fun i hi => by
      have := h (i + 1) (by rw [List.length_cons]; omega)
      rw [List.getElem_cons_succ] at this
      rw [this]
      congr 1
      omega]
theorem pairs_rg {n : Nat} (f : Nat → D) : pairsD 0 ((List.range n).map f) = (List.range n).map fun i => .tuple [.int (i : Nat), f i] := by
  have := pairsD_map f (List.range n) 0 (fun i => i) fun i h => by rw [List.getElem_range, Nat.zero_add]
  rw [List.length_range] at this
  rw [this, List.range_eq_range']
theorem q_zeros {n : Nat} (n9 : n ≤ 9) : pMul [.list [.int 0], .int (n : Nat)] = some (.own (iD' (List.replicate n 0))) := by
  have e : -(2 ^ 63) ≤ ((n : Nat) : Int) ∧ ((n : Nat) : Int) < 2 ^ 63 := ⟨by omega, by omega⟩
  have e2 : [PyData.int 0].length * n ≤ sizeLine := by
    have := sizeLine_eq
    simp
          only [List.length_cons, List.length_nil]
    omega
  simp only [pMul, e, and_self, if_true, fits, Int.toNat_natCast, rep_zero]
  rw [if_pos e2]
section
variable {n m k c : Nat} {s t : List Int} {x : D}
def rwI (n : Nat) (s : List Int) (m : Nat) : List Int := (List.range n).map fun a => ((cn s m (a + 1) : Nat) : Int)
theorem rwI_len (n : Nat) (s : List Int) (m : Nat) : (rwI n s m).length = n := by
  unfold rwI
  rw
        [List.length_map, List.length_range]
theorem rwI_D (n : Nat) (s : List Int) (m : Nat) : iD' (rwI n s m) = (List.range n).map fun a => PyData.int ((cn s m (a + 1) : Nat) : Int) := by
  show List.map PyData.int (List.map _ _) = _
  rw [List.map_map]
  rfl
theorem e_table_of (hl : s.length = n) (n9 : n ≤ 9) : d_table_of none [Tu s] = some (.own ((List.range n).map fun i => Li (rwI n s (i + 1))), []) := by
  let E : List D → Option TV → Option TV → Slots := fun f r o => [Vv (Tu s), some (.own f), r, o, none, none]
  let F : Nat → List D := fun m => (List.range m).map fun i => Li (rwI n s (i + 1))
  have z0 : iD' (List.replicate n 0) = iD' (rwI n s 0) := by
    congr 1
    refine ext (by rw [List.length_replicate]) (rwI_len n s 0) fun i hi => ?_
    rw [at_eq (by rw [List.length_replicate]; exact hi), List.getElem_replicate, at_eq (by rw [rwI_len]; exact hi)]
    unfold rwI
    rw [List.getElem_map]
    rfl
  have c1 : sParO 1 2 (dLst []) (dPrim pMul [.ex (frz (dLst [dC (.int 0)])), .ex (dPrim pLen [.bor 0])]) [Vv (Tu s), none, none, none, none, none] = some (.nx, E [] (some (.own (iD' (rwI n s 0)))) none) :=
    v_par (v_lst v_xs0 (by decide)) (v_prim (v_osE (v_frzo (v_lst (v_xs v_C v_xs0) (by simp))) (v_osE (v_prim (v_osD rfl v_os0 rfl) (q_len hl)) v_os0)) (by rw [← z0]; exact q_zeros n9)) (by show 1 < 6 ∧ 2 < 6; decide) rfl
  obtain ⟨e', c2, r, o, rfl, hr⟩ := for_ix (g := gNm 3) (t := dSeq [sSet 2 (dLc (iEnu (dVar 2)) (gTp [gNm 4, gNm 5]) [4, 5] (dYes) (frz (dIf (dPrim pLt [.bor 4, .bor 3]) (dPrim pAdd [.bor 5, .ex (dC (.int 1))]) (dVar 5)))),
 sDrop (dMut mAppend 1 [dVar 2])]) (xs := iD' s) (fun m e => ∃ r o, e = E (F m) r o ∧ (r = some (.own (iD' (rwI n s m))) ∨ r = Vv (Li (rwI n s m)))) (e := E [] (some (.own (iD' (rwI n s 0)))) none) ⟨_, none, rfl, .inl rfl⟩ (by
    rintro m hm e ⟨r, o, rfl, hr⟩
    have hm' : m < n := by rw [List.length_map] at hm; omega
    have ex : (iD' s)[m] = PyData.int (at' s m) := by
      rw [List.getElem_map, ← at_eq]
    rw [ex]
    let T : Option TV := Vv (.int (at' s m))
    have vv : dVar 2 (E (F m) r T) = some (.d (Li (rwI n s m)), E (F m) (Vv (Li (rwI n s m))) T) := by
      rcases hr with rfl | rfl
      · exact v_VarO rfl rfl
      · exact v_Var rfl
    let S : Slots := E (F m) (Vv (Li (rwI n s m))) T
    have it : iEnu (dVar 2) (E (F m) r T) = some ((List.range n).map fun a => PyData.tuple [.int (a : Nat), .int ((cn s m (a + 1) : Nat) : Int)], S) := by
      have := v_enu vv (xs := iD' (rwI n s m)) rfl
      rw [rwI_D, pairs_rg] at this
      exact this
    have b0 : lcGo (gTp [gNm 4, gNm 5]) dYes (frz (dIf (dPrim pLt [.bor 4, .bor 3]) (dPrim pAdd [.bor 5, .ex (dC (.int 1))]) (dVar 5))) [4, 5] ((List.range n).map fun a => PyData.tuple [.int (a : Nat), .int ((cn s m (a + 1) : Nat) : Int)]) S = some ((List.range n).map (fun a => PyData.int ((cn s (m + 1) (a + 1) : Nat) : Int)), S) :=
      lc_me fun a ha => by
        let Z : Slots := [Vv (Tu s), some (.own (F m)), Vv (Li (rwI n s m)), T, Vv (.int (a : Nat)), Vv (.int ((cn s m (a + 1) : Nat) : Int))]
        have q := q_lt (a : Nat) (at' s m)
        have sc := cn_succ (s := s) (m := m) (a + 1) (by omega)
        refine ⟨Z, Z, rfl, ?_, rfl⟩
        by_cases c : ((a : Nat) : Int) < at' s m
        · rw [decide_eq_true c] at q
          rw [b2_pos (show ((a + 1 : Nat) : Int) ≤ at' s m by omega)] at sc
          rw [sc]
          exact v_frzd (v_ifT (v_prim (v_osD rfl (v_osD rfl v_os0 rfl) rfl) q) (v_prim (v_osD rfl (v_osE v_C v_os0) rfl) (q_add1 _)))
        · rw [decide_eq_false c] at q
          rw [b2_neg (show ¬ ((a + 1 : Nat) : Int) ≤ at' s m by omega)] at sc
          rw [sc]
          exact v_frzd (v_ifF (v_prim (v_osD rfl (v_osD rfl v_os0 rfl) rfl) q) (v_Var rfl))
    rw [← rwI_D] at b0
    have b1 := dLc_of (s := iEnu (dVar 2)) (e := E (F m) r T) (vs := [4, 5]) (e3 := S) it b0 (by rw [List.length_map, rwI_len]; omega) rfl
    have l1 : (F m).length = m := by rw [List.length_map, List.length_range]
    refine ⟨E (F m) r T, E (F (m + 1)) (Vv (Li (rwI n s (m + 1)))) T, rfl, v_sqN (v_set b1 (show 2 < 6 by decide) rfl) (v_sqN (v_drop (v_mut rfl (v_xs (v_VarO rfl rfl) v_xs0) rfl (q_app (by omega)) ?_)) v_sq0), _, _, rfl, .inr rfl⟩
    show List.set _ 1 _ = _
    have : F (m + 1) = F m ++ [Li (rwI n s (m + 1))] := by
      show (List.range (m + 1)).map _ = _
      rw [List.range_succ, List.map_append]
      rfl
    rw [this]
    rfl)
  rw [List.length_map, hl] at c2 hr
  exact v_fn0 (e0 := [Vv (Tu s), none, none, none, none, none]) rfl (v_sqN c1 (v_sqN (v_for (v_seq (v_Var rfl) rfl) c2) (v_sqR (v_ret (v_Move rfl rfl)))))
end
end Lib
set_option Elab.async false
set_option autoImplicit false
set_option linter.all false
set_option maxRecDepth 100000
set_option maxHeartbeats 1000001
namespace L2
open PySem
section
variable {d d1 d2 d3 a b c : DE} {ds : List DE} {os : List Opd} {e e1 e2 e3 e4 : Slots} {x y z : D} {xs ys : List D} {r r1 r2 t t2 : TV} {i j l : Nat} {q p : Bool} {s u : DS} {ss : List DS} {g h : List D → Option TV} {fd : FD} {fl : Option (Fl × Slots)} {o : Option (TV × Slots)} {f : Fl} {k : DS}
theorem w_get {w : Option (Option TV)} (h : e[i]? = w) : e[i]? = w := h
theorem w_set {v : Option TV} (h : e.set i v = e1) : e.set i v = e1 := h
theorem w_wipe {vs : List Nat} (h : wipeS e vs = e1) : wipeS e vs = e1 := h
theorem w_undo {vs : List Nat} {w : Option Slots} (h : undo e e1 vs = w) : undo e e1 vs = w := h
theorem w_prm {pm : List Nat} (h : prm pm xs = ys) : prm pm xs = ys := h
theorem w_toD (h : r.toD = x) : r.toD = x := h
theorem w_lt (h : Nat.ble (i + 1) e.length = true) : i < e.length := Nat.le_of_ble_eq_true h
theorem w_le (h : Nat.ble xs.length 1000 = true) : xs.length ≤ 1000 := Nat.le_of_ble_eq_true h
theorem w_lt2 (h : i < e.length) (h2 : j < e.length) : i < e.length ∧ j < e.length := ⟨h, h2⟩
theorem w_lt3 (h : i < e.length) (h2 : j < e.length) (h3 : l < e.length) : i < e.length ∧ j < e.length ∧ l < e.length := ⟨h, h2, h3⟩
theorem w_cT {α : Type} {m n w : α} (h : m = w) : cond true m n = w := h
theorem w_cF {α : Type} {m n w : α} (h : n = w) : cond false m n = w := h
theorem w_fN (h : k e = fl) : flK .nx e k = fl := h
theorem w_fR : flK (.rt r) e k = some (.rt r, e) := rfl
theorem w_ent {n : Nat} (h : ent n xs = e) : ent n xs = e := h
theorem w_lc {si : DI} {gg : DG} {vs : List Nat} (h1 : si e = some (xs, e1)) (hw : wipeS e1 vs = e2) (h2 : lcGo gg a b vs xs e2 = some (ys, e3)) (h3 : ys.length ≤ 1000) (h4 : undo e1 e3 vs = some e4) : dLc si gg vs a b e = some (.own ys, e4) := by
  subst hw
  exact dLc_of h1 h2 h3 h4
theorem w_seq (h : seqD x = some xs) : seqD x = some xs := h
theorem w_asB (h : a e = some (.d (.bool q), e1)) : asB (a e) = some (q, e1) := by rw [h]; rfl
theorem w_frz (h : d e = some (r, e1)) (h2 : r.toD = x) : frz d e = some (.d x, e1) := by
  subst h2
  exact v_frz h
theorem w_pTuple (h : pTuple xs = some r) : pTuple xs = some r := h
theorem w_pList (h : pList xs = some r) : pList xs = some r := h
theorem w_pNeg (h : pNeg xs = some r) : pNeg xs = some r := h
theorem w_pRev (h : pRev xs = some r) : pRev xs = some r := h
theorem w_pInt (h : pInt xs = some r) : pInt xs = some r := h
theorem w_pLen (h : pLen xs = some r) : pLen xs = some r := h
theorem w_pIsi {ts : List Ty} (h : ts.any (isT x) = q) : pIsi ts [x] = some (.d (.bool q)) := by
  subst h
  rfl
theorem w_isN (h : isN x = q) : pIs [x, .none] = some (.d (.bool q)) := by
  subst h
  cases x <;> rfl
theorem w_isNn (h : (!isN x) = q) : pIsNot [x, .none] = some (.d (.bool q)) := by
  subst h
  cases x <;> rfl
theorem w_not (h : a e = some (.d (.bool q), e1)) (h2 : (!q) = p) : dNot a e = some (.d (.bool p), e1) := by
  subst h2
  exact v_not h
theorem w_nT : (!true) = false := rfl
theorem w_nF : (!false) = true := rfl
theorem w_nV {q : Bool} : (!q) = !q := rfl
theorem w_some {α : Type} {a : α} : some a = some a := rfl
theorem w_sq0 (h : e = e1) : dSeq [] e = some (.nx, e1) := by
  rw [h]
  rfl
theorem w_C (h : x = y) : dC x e = some (.d y, e) := by
  rw [h]
  rfl
theorem w_fR2 (h : r = t) (h2 : e = e1) : flK (.rt r) e k = some (.rt t, e1) := by
  rw [h, h2]
  rfl
theorem w_app0 {ws : Option (List D × Slots)} (h : evx ds e = ws) : evx ([] ++ ds) e = ws := h
theorem w_app1 {es : List DE} {ws : Option (List D × Slots)} (h : evx (d :: (es ++ ds)) e = ws) : evx ((d :: es) ++ ds) e = ws := h
theorem w_Emp : dEmp e = some (.d dicD, e) := rfl
theorem w_sl {lo hi : Option DE} {lw up : Option Int} (h1 : e[i]? = some (some t)) (h2 : evp lo e = some (lw, e1)) (h3 : evp hi e1 = some (up, e2)) (h4 : e2[i]? = some (some t2)) (h5 : t2.toD = x) (h6 : cutT x lw up = some r) : dSlice (.bor i) lo hi e = some (r, e2) := by
  subst h5
  exact v_sl h1 h2 h3 h4 h6
theorem v_callL {os' : List (Option DE)} {ws zs : List D} (h0 : e[i]? = some (some (.own ws))) (h1 : evl i os' e = some (xs, e1)) (h2 : e1[i]? = some (some (.own ys))) (h3 : fd none xs = some (.d x, zs)) (h4 : plainB x = true) : dCallL fd i os' ds e = some (.d x, e1) := by
  simp only [dCallL, h0, h1, h2, h3, h4, if_true]
theorem v_callLd {os' : List (Option DE)} (h0 : e[i]? = some (some (.d x))) (h1 : dCall fd none ds e = o) : dCallL fd i os' ds e = o := by
  simp only [dCallL, h0, h1]
theorem v_el0 : evl i [] e = some ([], e) := rfl
theorem v_elN {os' : List (Option DE)} (h1 : evl i os' e = some (xs, e1)) (h2 : e1[i]? = some (some (.own ys))) : evl i (none :: os') e = some (.list ys :: xs, e1) := by
  simp only [evl, h1, h2]
theorem v_elS {os' : List (Option DE)} (h1 : d e = some (.d x, e1)) (h2 : evl i os' e1 = some (xs, e2)) : evl i (some d :: os') e = some (x :: xs, e2) := by
  simp only [evl, h1, h2]
theorem w_pl (h : plainB x = true) : plainB x = true := h
end
end L2
open L2 in
local macro_rules | `(tactic| walk_at "go2") => `(tactic| (first | with_reducible (first | assumption | exact v_C | exact v_os0 | exact v_xs0 | exact v_sq0 | exact v_gA0 | exact v_ev0 | exact w_fR | exact w_some | exact w_nT | exact w_nF | exact w_nV) | ((with_reducible apply w_get); exact rfl) | ((with_reducible apply w_set) <;> (dsimp +zetaDelta only [List.set]) <;> exact rfl) | ((with_reducible apply w_wipe) <;> (dsimp +zetaDelta only [wipeS, List.set]) <;> exact rfl) | ((with_reducible apply w_undo) <;> (dsimp +zetaDelta only [undo, List.getElem?_cons_zero, List.getElem?_cons_succ, List.set]) <;> exact rfl) | ((with_reducible apply w_prm) <;> (dsimp +zetaDelta only [prm, List.filterMap, List.getElem?_cons_zero, List.getElem?_cons_succ, List.nil_append, List.cons_append]) <;> exact rfl) | ((with_reducible apply w_seq); exact rfl) | ((with_reducible apply w_ent) <;> (dsimp only [ent, List.map, List.replicate, List.length_cons, List.length_nil, List.cons_append, List.nil_append, Nat.reduceAdd, Nat.reduceSub]) <;> exact rfl) | ((with_reducible apply v_Var); exact rfl) | ((with_reducible apply v_VarO); exact rfl) | ((with_reducible apply v_VarR); exact rfl) | ((with_reducible apply v_Move); exact rfl) | with_reducible apply v_osE | ((with_reducible apply v_osR); exact rfl) | with_reducible (first | apply v_xs | apply w_app0 | apply w_app1 | exact w_Emp | apply v_prim | apply w_frz) | ((with_reducible apply w_toD) <;> (dsimp only [L2.toDd, L2.toDo]) <;> exact rfl) | ((with_reducible apply w_toD); exact rfl) | with_reducible (first | apply v_tup | apply v_lst | apply v_call | apply v_callK | apply v_chain | apply w_not | apply v_and | apply v_or | apply v_if | apply v_sif | apply v_sq | apply w_fN | apply v_drop | apply v_ret | apply v_set | apply v_asg | apply v_par | apply v_par3 | apply v_mut | apply v_ext | apply v_callI | apply v_callN) | ((with_reducible apply v_callL); exact rfl) | ((with_reducible apply v_callLd); exact rfl) | with_reducible (first | exact v_el0 | apply v_elN | apply v_elS) | ((with_reducible apply w_pl); exact rfl) | with_reducible (first | apply v_for | apply w_lc | apply v_seq | apply v_enu | apply v_gNm | apply v_gTp | apply v_gA | apply v_gIx | apply v_tix | apply w_sl | apply v_slE | apply v_ev | apply w_asB | apply w_cT | apply w_cF | apply w_lt2 | apply w_lt3) | ((with_reducible apply w_lt); exact rfl) | ((with_reducible apply w_le); exact rfl) | with_reducible (first | exact Lib.q_len (Pm.P.len (by assumption)) | exact Lib.q_lenL (Pm.P.len (by assumption)) | exact Lib.q_add1 _ | exact Lib.q_addN _ _ | exact Lib.q_add _ _ | exact Lib.q_cat (by simp only [List.length_map, List.length_cons, List.length_nil, List.length_append, List.length_range, List.length_reverse, List.length_drop, List.length_take]; omega) | exact Lib.q_sub1 (by omega) | exact Lib.q_subN (by omega) | exact Lib.q_sub _ _ | exact Lib.q_ix (Pm.P.len (by assumption)) rfl (by omega) | exact Lib.q_lt _ _ | exact Lib.q_gt _ _ | exact Lib.q_leI' _ _ | exact Lib.q_ge _ _ | exact Lib.q_eqT _ _ | exact Lib.q_neT _ _ | exact Lib.q_eqN _ _ | exact Lib.q_neB' rfl | exact Lib.q_nei1 rfl | exact Lib.q_eqi _ _) | ((with_reducible apply w_sq0); exact rfl) | ((with_reducible apply w_C); exact rfl) | ((with_reducible apply w_fR2) <;> exact rfl) | ((with_reducible apply w_pTuple); exact rfl) | ((with_reducible apply w_pList); exact rfl) | ((with_reducible apply w_isN); first | exact (rfl : _ = true) | exact (rfl : _ = false)) | ((with_reducible apply w_isNn); first | exact (rfl : _ = true) | exact (rfl : _ = false)) | ((with_reducible apply w_pNeg); exact rfl) | ((with_reducible apply w_pRev); exact rfl) | ((with_reducible apply w_pInt); exact rfl) | ((with_reducible apply w_pLen); exact rfl) | ((with_reducible apply w_pIsi); first | exact (rfl : _ = true) | exact (rfl : _ = false))))
set_option Elab.async false
set_option autoImplicit false
set_option linter.all false
set_option maxRecDepth 100000
set_option maxHeartbeats 1000001
namespace Lib
open PySem L2 Pm
abbrev b1_first_over : DS := dSeq [sIf (dPrim pGt [.bor 6, .ex (dPrim pIx [.bor 4, .bor 5])]) (dSeq [sRet (dTup [frz (dPrim pAdd [.bor 2, .ex (dC (.int 1))]), frz (dPrim pAdd [.bor 5, .ex (dC (.int 1))])])]) (dSeq [])]
abbrev b2_first_over : DS := dSeq [sFor (iEnu (dVar 3)) (gTp [gNm 5, gNm 6]) (b1_first_over)]
def d_first_over : FD := dFn 7 (dSeq [sFor (iEnZ (frz (dCall d_table_of none [dVar 0])) (frz (dCall d_table_of none [dVar 1]))) (gTp [gNm 2, gTp [gNm 3, gNm 4]]) (b2_first_over),
 sRet (dC .none)])
def d_over : FD := dFn 4 (dSeq [sAsg (frz (dCall d_want_two none [dVar 0, dVar 1])) (gTp [gNm 2, gNm 3]),
 sRet (dCall d_first_over none [dVar 2, dVar 3])])
section
variable {n : Nat} {s t : List Int} {x y : D}
def ovA (n : Nat) (s t : List Int) (i : Nat) : Option Nat := (List.range n).find? fun a => decide (cn t (i + 1) (a + 1) < cn s (i + 1) (a + 1))
def ovP (n : Nat) (s t : List Int) : Option (Nat × Nat) := ((List.range n).find? fun i => (ovA n s t i).isSome).map fun i => (i + 1, (ovA n s t i).getD 0 + 1)
def oX : Option (Nat × Nat) → D
  | none => .none
  | some z => Xp z
theorem zipD_map {α : Type} (f g : α → D) : ∀ l : List α, zipD (l.map f) (l.map g) = l.map fun a => PyData.tuple [f a, g a]
  | [] => rfl
  | a :: l => by
    show PyData.tuple [f a, g a] :: zipD (l.map f) (l.map g) = _
    rw [zipD_map f g l]
    rfl
theorem ovP_none (h : P n s) (k : P n t) : ovP n s t = none ↔ lowb n s t = true := by
  rw [← low_crL h k, List.all_eq_true]
  unfold ovP
  rw [Option.map_eq_none_iff, List.find?_eq_none]
  constructor
  · intro g z hz
    obtain ⟨⟨z1, z2⟩, z3, z4⟩ := mem_crL.mp hz
    have q := g (z.1 - 1) (List.mem_range.mpr (by omega))
    unfold ovA at q
    rw [List.find?_isSome] at q
    have q2 : ¬ cn t z.1 z.2 < cn s z.1 z.2 := fun c => q ⟨z.2 - 1, List.mem_range.mpr (by omega), by
      rw [Nat.sub_add_cancel z1, Nat.sub_add_cancel z3]
      exact decide_eq_true c⟩
    exact
          decide_eq_true (by omega)
  · intro g i hi q
    unfold ovA at q
    rw [List.find?_isSome] at q
    obtain ⟨a, ha, c⟩ := q
    have hi := List.mem_range.mp hi
    have ha := List.mem_range.mp ha
    have c := of_decide_eq_true c
    have := of_decide_eq_true (g (i + 1, a + 1) (mem_crL.mpr ⟨⟨by show 1 ≤ i + 1; omega, by show i + 1 ≤ n; omega⟩, by show 1 ≤ a + 1; omega, by show a + 1 ≤ n; omega⟩))
    have this : cn s (i + 1) (a + 1) ≤ cn t (i + 1) (a + 1) := this
    omega
abbrev OE (s t : List Int) (o : Option TV × Option TV × Option TV × Option TV × Option TV) : Slots := [Vv (Tu s), Vv (Tu t), o.1, o.2.1, o.2.2.1, o.2.2.2.1, o.2.2.2.2]
abbrev OR (n : Nat) (s : List Int) (m : Nat) : D := Li (rwI n s (m + 1))
abbrev OW (n : Nat) (s t : List Int) (i : Nat) (q : Option TV × Option TV) : Option TV × Option TV × Option TV × Option TV × Option TV := (Vv (.int (i : Nat)), Vv (OR n s i), Vv (OR n t i), q.1, q.2)
theorem ov_ix {i a : Nat} (ha : a < n) : pIx [OR n t i, .int (a : Nat)] = some (.d (.int ((cn t (i + 1) (a + 1) : Nat) : Int))) := by
  have ln : (rwI n t (i + 1)).length = n := rwI_len n t (i + 1)
  have x0 := q_ixL (l := rwI n t (i + 1)) (k := (a : Nat)) (i := a) rfl (by rw [ln]; exact ha)
  have e : at' (rwI n t (i + 1)) a = ((cn t (i + 1) (a + 1) : Nat) : Int) := by
    unfold rwI
    simp [at', ha]
  rw [e] at x0
  exact x0
theorem ov_body {i a : Nat} (ha : a < n) (q : Option TV × Option TV) : ∃ e1, gTp [gNm 5, gNm 6] (PyData.tuple [.int (a : Nat), .int ((cn s (i + 1) (a + 1) : Nat) : Int)]) (OE s t (OW n s t i q)) = some e1 ∧
    (decide (cn t (i + 1) (a + 1) < cn s (i + 1) (a + 1)) = false → ∃ q', b1_first_over e1 = some (.nx, OE s t (OW n s t i q'))) ∧ (decide (cn t (i + 1) (a + 1) < cn s (i + 1) (a + 1)) = true → ∃ e2, b1_first_over e1 = some (.rt (.d (Xp (i + 1, a + 1))), e2)) := by
  let q' : Option TV × Option TV := (Vv (.int (a : Nat)), Vv (.int ((cn s (i + 1) (a + 1) : Nat) : Int)))
  have x1 := ov_ix (t := t) (i := i) ha
  have g1 := q_gt (cn s (i + 1) (a + 1) : Nat) ((cn t (i + 1) (a + 1) : Nat) : Int)
  have e3 : decide (((cn t (i + 1) (a + 1) : Nat) : Int) < ((cn s (i + 1) (a + 1) : Nat) : Int)) = decide (cn t (i + 1) (a + 1) < cn s (i + 1) (a + 1)) := decide_eq_decide.mpr (by omega)
  rw [e3] at g1
  have a1 := q_add1 i
  have a2 := q_add1 a
  have T : dPrim pGt [.bor 6, .ex (dPrim pIx [.bor 4, .bor 5])] (OE s t (OW n s t i q')) = some (.d (.bool (decide (cn t (i + 1) (a + 1) < cn s (i + 1) (a + 1)))), OE s t (OW n s t i q')) :=
    v_prim (v_osD rfl (v_osE (v_prim (v_osD rfl (v_osD rfl v_os0 rfl) rfl) x1) v_os0) rfl) g1
  refine ⟨OE s t (OW n s t i q'), rfl, fun c => ⟨q', ?_⟩, fun c => ⟨OE s t (OW n s t i q'), ?_⟩⟩
  · rw [c] at T
    exact v_sqN (v_sifF T v_sq0) v_sq0
  · rw [c] at T
    exact v_sqR (v_sifT T (v_sqR (v_ret (v_tup (v_xs (v_frzd (v_prim (v_osD rfl (v_osE v_C v_os0) rfl) a1)) (v_xs (v_frzd (v_prim (v_osD rfl (v_osE v_C v_os0) rfl) a2)) v_xs0)) (by simp)))))
theorem ov_row {i : Nat} (o : Option TV × Option TV × Option TV × Option TV × Option TV) : ∃ e1, gTp [gNm 2, gTp [gNm 3, gNm 4]] (PyData.tuple [.int (i : Nat), .tuple [OR n s i, OR n t i]]) (OE s t o) = some e1 ∧
    ((ovA n s t i).isSome = false → ∃ o', b2_first_over e1 = some (.nx, OE s t o')) ∧ ((ovA n s t i).isSome = true → ∃ e2, b2_first_over e1 = some (.rt (.d (Xp (i + 1, (ovA n s t i).getD 0 + 1))), e2)) := by
  have it2 : iEnu (dVar 3) (OE s t (OW n s t i o.2.2.2)) = some ((List.range n).map fun a => PyData.tuple [.int (a : Nat), .int ((cn s (i + 1) (a + 1) : Nat) : Int)], OE s t (OW n s t i o.2.2.2)) := by
    have := v_enu (d := dVar 3) (e := OE s t (OW n s t i o.2.2.2)) (v_Var rfl) (xs := iD' (rwI n s (i + 1))) rfl
    rw [rwI_D, pairs_rg] at this
    exact this
  have f2 := for_fst (enc := fun a : Nat => PyData.tuple [.int (a : Nat), .int ((cn s (i + 1) (a + 1) : Nat) : Int)]) (S := fun q => OE s t (OW n s t i q)) (g := gTp [gNm 5, gNm 6]) (t := b1_first_over) (r := fun a => TV.d (Xp (i + 1, a + 1))) (fun a => decide (cn t (i + 1) (a + 1) < cn s (i + 1) (a + 1))) (xs := List.range n) o.2.2.2 fun a ha q => ov_body (List.mem_range.mp ha) q
  refine ⟨OE s t (OW n s t i o.2.2.2), rfl, ?_⟩
  unfold ovA
  cases c : (List.range n).find? (fun a => decide (cn t (i + 1) (a + 1) < cn s (i + 1) (a + 1))) with
  | none =>
    rw [c] at f2
    obtain ⟨o', f3⟩ := f2
    exact ⟨fun _ => ⟨OW n s t i o', v_sqN (v_for it2 f3) v_sq0⟩, fun z => by cases z⟩
  | some a =>
    rw [c] at f2
    obtain ⟨e2, f3⟩ := f2
    exact ⟨fun z => (by cases z), fun _ => ⟨e2, v_sqR (v_for it2 f3)⟩⟩
theorem ov_it1 (h : s.length = n) (k : t.length = n) (n9 : n ≤ 9) : evx [frz (dCall d_table_of none [dVar 0]), frz (dCall d_table_of none [dVar 1])] [Vv (Tu s), Vv (Tu t), none, none, none, none, none] = some ([.list ((List.range n).map fun i => Li (rwI n s (i + 1))), .list ((List.range n).map fun i => Li (rwI n t (i + 1)))], [Vv (Tu s), Vv (Tu t), none, none, none, none, none]) := by
  have tb1 := e_table_of h n9
  have tb2 := e_table_of k n9
  exact v_xs (v_frzo (v_call (v_xs (v_Var rfl) v_xs0) tb1)) (v_xs (v_frzo (v_call (v_xs (v_Var rfl) v_xs0) tb2)) v_xs0)
theorem ov_it2 {E : Slots} {F G : Nat → D} (ex : evx [frz (dCall d_table_of none [dVar 0]), frz (dCall d_table_of none [dVar 1])] E = some ([.list ((List.range n).map F), .list ((List.range n).map G)], E)) : iEnZ (frz (dCall d_table_of none [dVar 0])) (frz (dCall d_table_of none [dVar 1])) E = some (pairsD 0 (zipD ((List.range n).map F) ((List.range n).map G)), E) := by
  unfold iEnZ
  rw [ex]
theorem ov_it3 {n : Nat} {F G : Nat → D} : pairsD 0 (zipD ((List.range n).map F) ((List.range n).map G)) = (List.range n).map fun i => PyData.tuple [.int (i : Nat), .tuple [F i, G i]] := by
  rw [zipD_map, pairs_rg]
theorem ov_it (h : s.length = n) (k : t.length = n) (n9 : n ≤ 9) : iEnZ (frz (dCall d_table_of none [dVar 0])) (frz (dCall d_table_of none [dVar 1])) [Vv (Tu s), Vv (Tu t), none, none, none, none, none] = some ((List.range n).map fun i => PyData.tuple [.int (i : Nat), .tuple [OR n s i, OR n t i]], [Vv (Tu s), Vv (Tu t), none, none, none, none, none]) := by
  have a := ov_it2 (ov_it1 h k n9)
  rw [ov_it3] at a
  exact a
theorem ov_for : (ovP n s t = none → ∃ e2, forGo (gTp [gNm 2, gTp [gNm 3, gNm 4]]) b2_first_over ((List.range n).map fun i => PyData.tuple [.int (i : Nat), .tuple [OR n s i, OR n t i]]) [Vv (Tu s), Vv (Tu t), none, none, none, none, none] = some (.nx, e2)) ∧
    ∀ z, ovP n s t = some z → ∃ e2, forGo (gTp [gNm 2, gTp [gNm 3, gNm 4]]) b2_first_over ((List.range n).map fun i => PyData.tuple [.int (i : Nat), .tuple [OR n s i, OR n t i]]) [Vv (Tu s), Vv (Tu t), none, none, none, none, none] = some (.rt (.d (Xp z)), e2) := by
  have f := for_fst (enc := fun i : Nat => PyData.tuple [.int (i : Nat), .tuple [OR n s i, OR n t i]]) (S := OE s t) (g := gTp [gNm 2, gTp [gNm 3, gNm 4]]) (t := b2_first_over) (r := fun i => TV.d (Xp (i + 1, (ovA n s t i).getD 0 + 1))) (fun i => (ovA n s t i).isSome) (xs := List.range n) (none, none, none, none, none) fun i _ o => ov_row o
  unfold ovP
  cases c : (List.range n).find? (fun i => (ovA n s t i).isSome) with
  | none =>
    rw [c] at f
    obtain ⟨o', f3⟩ := f
    exact ⟨fun _ => ⟨_, f3⟩, fun z hz => by cases hz⟩
  | some i =>
    rw [c] at f
    obtain ⟨e2, f3⟩ := f
    exact ⟨fun z => (by cases z), fun z hz => by
      cases hz
      exact ⟨e2, f3⟩⟩
theorem e_first_over (h : s.length = n) (k : t.length = n) (n9 : n ≤ 9) : d_first_over none [Tu s, Tu t] = some (.d (oX (ovP n s t)), []) := by
  have it := ov_it h k n9
  obtain ⟨f1, f2⟩ := ov_for (n := n) (s := s) (t := t)
  generalize (List.range n).map (fun i => PyData.tuple [.int (i : Nat), .tuple [OR n s i, OR n t i]]) = L at it f1 f2
  cases c : ovP n s t with
  | none =>
    obtain ⟨e2, f3⟩ := f1 c
    exact v_fn0 (e0 := [Vv (Tu s), Vv (Tu t), none, none, none, none, none]) rfl (v_sqN (v_for it f3) (v_sqR (v_ret v_C)))
  | some i =>
    obtain ⟨e2, f3⟩ := f2 i c
    exact v_fn0 (e0 := [Vv (Tu s), Vv (Tu t), none, none, none, none, none]) rfl (v_sqR (v_for it f3))
theorem e_over (h : P n s) (k : P n t) (n1 : 1 ≤ n) (n9 : n ≤ 9) (hx : x = Tu s ∨ x = Li s) (hy : y = Tu t ∨ y = Li t) : d_over none [x, y] = some (.d (oX (ovP n s t)), []) := by
  have w := e_want_two h k n1 n9 hx hy
  have f := e_first_over h.len k.len n9
  apply v_fn0 <;> repeat' (walk_at "go2")
theorem q_isO (o : Option (Nat × Nat)) : pIs [oX o, .none] = some (.d (.bool o.isNone)) := by cases o <;> rfl
end
end Lib
set_option Elab.async false
set_option autoImplicit false
set_option linter.all false
set_option maxRecDepth 100000
set_option maxHeartbeats 1000001
namespace Po
open PySem L2 Pm Lib
theorem lfs_ints : ∀ l : List Int, lfs (l.map PyData.int) = true
  | [] => rfl
  | a :: l => by
    show lfs (PyData.int a :: l.map PyData.int) = true
    simp only [lfs, lf, Bool.true_and]
    exact lfs_ints l
theorem lf_Tu (l : List Int) : lf (Tu l) = true := by
  simp only [lf]
  exact lfs_ints l
theorem rowsL_of : ∀ {xss : List (List D)}, (∀ xs ∈ xss, lfs xs = true ∧ xs.length ≤ 1000) → rowsL (xss.map PyData.list) = some xss
  | [], _ => rfl
  | xs :: xss, h => by
    show rowsL (PyData.list xs :: xss.map PyData.list) = _
    simp only [rowsL, h xs List.mem_cons_self, and_self, if_true, rowsL_of fun ys hy => h ys (List.mem_cons_of_mem _ hy), Option.map_some]
theorem shortL_of {xss : List (List D)} (h : xss.length ≤ 1000) : shortL (some xss) = some xss := if_pos h
theorem calF_of {f : FD} {xs zs : List D} {xss : List (List D)} (h : lfs xs = true) (h2 : f none xs = some (.own (xss.map PyData.list), zs)) (h3 : ∀ xs ∈ xss, lfs xs = true ∧ xs.length ≤ 1000) (h4 : xss.length ≤ 1000) : calF f xs = some xss := by
  simp only [calF, h, h2, rowsL_of h3, if_true, shortL_of h4]
theorem calM_of {f : FD} {xs : List D} {xss : List (List D)} (h2 : f none xs = some (.own (xss.map PyData.list), [.none])) (h3 : ∀ xs ∈ xss, lfs xs = true ∧ xs.length ≤ 1000) (h4 : xss.length ≤ 1000) : calM f xs = some xss := by
  simp only [calM, h2, rowsL_of h3, shortL_of h4]
section
variable {e e0 e1 e2 e3 e4 : Slots} {xss : List (List D)} {i j k : Nat} {x L : D}
theorem v_callO {cal : List D → Option (List (List D))} {pm : Option (List Nat)} {ds : List DE} {xs ys : List D} (h1 : evx ds e = some (xs, e1)) (h2 : argsOf pm xs = ys) (h3 : cal ys = some xss) : dCallO cal pm ds e = some (xss, e1) := by
  simp only [dCallO, h1, h2, h3]
theorem dFnO_of {n : Nat} {pre : List DS} {d : DO} {ds : List D} (h0 : ent n ds = e0) (h1 : dSeq pre e0 = some (.nx, e1)) (h2 : d e1 = some (xss, e2)) : dFnO n pre d none ds = some (.own (xss.map PyData.list), [.none]) := by
  simp only [dFnO, h0, h1, h2]
theorem lsChk {c : DE} {r : List LS} {o : Option (Bool × Slots)} (h : c (e.set i (some (.d L))) = some (.d (.bool false), e3)) (hm : mrg e (e3.set i none) = some e2) (h2 : lsGo i L r e2 = o) : lsGo i L (.chk c :: r) e = o := by
  simp only [lsGo, h, asB, hm]
  exact h2
theorem lsAsg {d : DE} {r : List LS} {o : Option (Bool × Slots)} (h : d (e.set i (some (.d L))) = some (.d x, e3)) (hx : lf x = true) (hk : k ≠ i ∧ k ≠ 0 ∧ k < e.length) (hm : mrg e (e3.set i none) = some e2) (h2 : lsGo i L r (e2.set k (some (.d x))) = o) : lsGo i L (.asg k d :: r) e = o := by
  simp only [lsGo, h, hx, hk.1, hk.2.1, hk.2.2, ne_eq, not_false_eq_true, true_and, and_self, if_true, hm]
  exact h2
theorem lsNil : lsGo i L [] e = some (false, e) := rfl
theorem lsFor_of {ms : List LS} (I : Slots → Prop) : ∀ {xs : List D} {e : Slots}, I e → (∀ x ∈ xs, ∀ e, I e → j < e.length ∧ ∃ e2, lsGo i L ms (e.set j (some (.d x))) = some (false, e2) ∧ I e2) → ∃ e', lsFor i L j ms xs e = some (false, e') ∧ I e'
  | [], e, h, _ => ⟨e, rfl, h⟩
  | x :: xs, e, h, k => by
    obtain ⟨h1, e2, h2, h3⟩ := k x List.mem_cons_self e h
    obtain ⟨e', h4, h5⟩ := lsFor_of I h3 fun y hy => k y (List.mem_cons_of_mem _ hy)
    refine ⟨e', ?_, h5⟩
    simp only [lsFor, h1, if_true, h2]
    exact h4
theorem v_pokeB {d : DO} {c0 : DE} {xs : List D} {ms : List LS} (h1 : d e = some (xss, e1)) (h2 : i < e1.length) (h3 : xss ≠ []) (h4 : lsGo i (.list (xss.map PyData.list)) [.chk c0] (e1.set i none) = some (false, e2)) (h5 : lsFor i (.list (xss.map PyData.list)) j ms xs e2 = some (false, e3)) : sPokeB i d c0 j xs ms e = some (.nx, e3) := by
  have h6 : xss.isEmpty = false := by
    cases xss with
    | nil => exact absurd rfl h3
    | cons a l => rfl
  simp only [sPokeB, h1, h2, h6, and_self, if_true, h4, h5]
end
theorem pot_pl {p : List D} (h : Pot p) : p.all plainB = true := by
  obtain ⟨a, b, rfl, _⟩ := h
  rfl
theorem shp_str {z : Str} (h : PyData.strOk z = true) : SeqAt.shaped (.str z) = true := by
  simp only [SeqAt.shaped, PyData.canLay0, h, PyData.depth]
  rfl
theorem eqv_str (z : Str) : PyData.eqv (.str z) (.str z) = true := by simp [PyData.eqv]
theorem ne_str {z : Str} (h : PyData.strOk z = true) : pNe [.str z, .str z] = some (.d (.bool false)) := by
  simp only [pNe, shp_str h, and_self, if_true, eqv_str]
  rfl
theorem eq_str {z : Str} (h : PyData.strOk z = true) : pEq [.str z, .str z] = some (.d (.bool true)) := by
  simp only [pEq, shp_str h, and_self, if_true, eqv_str]
theorem sh_row {l : List Int} (hl : l.length ≤ 40) (h : ∀ x ∈ l, x.natAbs < 10 ^ 4) : ShN (Li l) := by
  refine ⟨?_, ok_L l⟩
  show (if reprOk (Li l) = true then _ else _) = _
  rw [if_pos (reprOk_of (okS_L hl h))]
theorem q_ixG {l : List D} {i : Nat} {x : D} (h : l[i]? = some x) : pIx [.list l, .int (i : Nat)] = some (.d x) := by
  simp only [pIx, atI_nat h, Option.map_some]
end Po
set_option Elab.async false
set_option autoImplicit false
set_option linter.all false
set_option maxRecDepth 100000
set_option maxHeartbeats 1000001
namespace Pm
def Ac (A : List (Nat × Nat)) : Prop := ∃ r : Nat → Nat, ∀ a ∈ A, r a.1 < r a.2
section
variable {A : List (Nat × Nat)} {L : List Nat} {n : Nat}
end
def tt (T : List (Nat × Nat)) (k : Nat) : Nat × Nat := T.getD k (0, 0)
def arw (T : List (Nat × Nat)) (sg : List Int) (k : Nat) : Nat × Nat := if at' sg k = 1 then ((tt T k).2, (tt T k).1) else tt T k
def ar (T : List (Nat × Nat)) (sg : List Int) : List (Nat × Nat) := (List.range T.length).map (arw T sg)
def Sgn (m : Nat) (sg : List Int) : Prop := sg.length = m ∧ ∀ k, k < m → at' sg k = 0 ∨ at' sg k = 1
section
variable {n m t : Nat} {T : List (Nat × Nat)} {sg tg : List Int}
def flp (sg : List Int) (l : List Nat) : List Int := mk sg.length fun p => if p ∈ l then 1 - at' sg p else at' sg p
theorem flp_len (l : List Nat) : (flp sg l).length = sg.length := len_mk _ _
theorem at_flp {l : List Nat} {k : Nat} (hk : k < sg.length) : at' (flp sg l) k = if k ∈ l then 1 - at' sg k else at' sg k := at_mk hk
theorem flp_nil : flp sg [] = sg := ext (flp_len []) rfl fun i hi => by
  rw [at_flp hi, if_neg (by simp)]
theorem flp_sgn (h : Sgn m sg) (l : List Nat) : Sgn m (flp sg l) := ⟨by rw [flp_len]; exact h.1, fun k hk => by
  rw [at_flp (by rw [h.1]; exact hk)]
  have := h.2 k hk
  split <;> omega⟩
theorem sgn_ext (h : Sgn m sg) (k : Sgn m tg) (e : ∀ i, i < m → at' sg i = at' tg i) : sg = tg := ext h.1 k.1 e
def unl (sg tg : List Int) : List Nat := (List.range sg.length).filter fun k => !decide (at' sg k = at' tg k)
theorem mem_unl {k : Nat} : k ∈ unl sg tg ↔ k < sg.length ∧ at' sg k ≠ at' tg k := by
  unfold unl
  rw [List.mem_filter, List.mem_range, Bool.not_eq_true', decide_eq_false_iff_not]
theorem unl_nd : (unl sg tg).Nodup := List.nodup_range.filter _
structure Rd0 (T : List (Nat × Nat)) (sg tg : List Int) (l : List Nat) : Prop where
  nd : l.Nodup
  sub : ∀ x ∈ l, x ∈ unl sg tg
  ac : ∀ k, k ≤ l.length → Ac (ar T (flp sg (l.take k)))
theorem unl_symm (h : Sgn m sg) (g : Sgn m tg) : unl tg sg = unl sg tg := by
  unfold unl
  rw [h.1, g.1]
  refine List.filter_congr fun k _ => ?_
  rw [show decide (at' tg k = at' sg k) = decide (at' sg k = at' tg k) from decide_eq_decide.mpr eq_comm]
theorem mem_unl_flp (h : Sgn m sg) (g : Sgn m tg) {l : List Nat} (hl : ∀ x ∈ l, x ∈ unl sg tg) {k : Nat} : k ∈ unl (flp sg l) tg ↔ k ∈ unl sg tg ∧ k ∉ l := by
  rw [mem_unl, mem_unl, flp_len]
  constructor
  · rintro ⟨a, b⟩
    rw [at_flp a] at b
    by_cases c : k ∈ l
    · rw [if_pos c] at b
      have := (mem_unl.mp (hl k c)).2
      have h1 := h.2 k (by rw [← h.1]; exact a)
      have h2 := g.2 k (by rw [← h.1]; exact a)
      omega
    · rw [if_neg c] at b
      exact ⟨⟨a, b⟩, c⟩
  · rintro ⟨⟨a, b⟩, c⟩
    refine ⟨a, ?_⟩
    rw [at_flp a, if_neg c]
    exact b
theorem Rd0.perm (h : Sgn m sg) (g : Sgn m tg) {l : List Nat} (R : Rd0 T sg tg l) (e : flp sg l = tg) : l.Perm (unl sg tg) := by
  refine (List.perm_ext_iff_of_nodup R.nd unl_nd).mpr fun k => ⟨R.sub k, fun hk => ?_⟩
  by_cases c : k ∈ l
  · exact c
  · have : k ∈ unl (flp sg l) tg := (mem_unl_flp h g R.sub).mpr ⟨hk, c⟩
    rw [e] at this
    exact absurd rfl (mem_unl.mp this).2
theorem Rd0.nil (a : Ac (ar T sg)) : Rd0 T sg tg [] := ⟨List.nodup_nil, (fun x h => by cases h), fun k hk => by
  have : k = 0 := by simpa using hk
  subst this
  rw [List.take_zero, flp_nil]
  exact a⟩
theorem Rd0.len (h : Sgn m sg) {l : List Nat} (R : Rd0 T sg tg l) : l.length ≤ m := by
  have key : ∀ (l : List Nat) (m : Nat), l.Nodup → (∀ x ∈ l, x < m) → l.length ≤ m := by
    intro l m nd hl
    have p := (List.perm_ext_iff_of_nodup nd (List.nodup_range.filter (fun x => decide (x ∈ l)) : ((List.range m).filter fun x => decide (x ∈ l)).Nodup)).mpr fun x => by
      rw [List.mem_filter, List.mem_range, decide_eq_true_eq]
      exact ⟨fun z => ⟨hl x z, z⟩, fun z => z.2⟩
    rw [p.length_eq]
    have := List.length_filter_le (fun x => decide (x ∈ l)) (List.range m)
    rwa [List.length_range] at this
  exact key l m R.nd fun x hx => by
    have := (mem_unl.mp (R.sub x hx)).1
    rwa [h.1] at this
theorem Rd0.back (h : Sgn m sg) (g : Sgn m tg) {l : List Nat} (R : Rd0 T sg tg l) (e : flp sg l = tg) : Rd0 T tg sg l.reverse := by
  refine ⟨List.pairwise_reverse.mpr (R.nd.imp fun z => z.symm), fun x hx => by rw [unl_symm h g]; exact R.sub x (List.mem_reverse.mp hx), fun k hk => ?_⟩
  rw [List.length_reverse] at hk
  have q : flp tg (l.reverse.take k) = flp sg (l.take (l.length - k)) := by
    refine sgn_ext (flp_sgn g _) (flp_sgn h _) fun i hi => ?_
    rw [at_flp (by rw [g.1]; exact hi), at_flp (by rw [h.1]; exact hi), ← e, at_flp (by rw [h.1]; exact hi)]
    have sp : l = l.take (l.length - k) ++ l.drop (l.length - k) := (List.take_append_drop _ _).symm
    have er : i ∈ l.reverse.take k ↔ i ∈ l.drop (l.length - k) := by rw [List.take_reverse, List.mem_reverse]
    have em : i ∈ l ↔ i ∈ l.take (l.length - k) ∨ i ∈ l.drop (l.length - k) := by
      rw
            [← List.mem_append, List.take_append_drop]
    have dj : ¬ (i ∈ l.take (l.length - k) ∧ i ∈ l.drop (l.length - k)) := fun ⟨p, q⟩ => by
      have nd := R.nd
      rw [sp] at nd
      exact (List.nodup_append.mp nd).2.2 i p i q rfl
    by_cases c1 : i ∈ l.take (l.length - k)
    · have c2 : i ∉ l.drop (l.length - k) := fun z => dj ⟨c1, z⟩
      rw [if_neg (fun z => c2 (er.mp z)), if_pos (em.mpr (.inl c1)), if_pos c1]
    · by_cases c2 : i ∈ l.drop (l.length - k)
      · rw [if_pos (er.mpr c2), if_pos (em.mpr (.inr c2)), if_neg c1]
        omega
      · rw [if_neg (fun z => c2 (er.mp z)), if_neg (fun z => (em.mp z).elim c1 c2), if_neg c1]
  rw [q]
  exact R.ac _ (by omega)
end
end Pm
set_option Elab.async false
set_option autoImplicit false
set_option linter.all false
set_option maxRecDepth 100000
set_option maxHeartbeats 1000001
namespace L2
open PySem
section
variable {d0 di : DI} {g : DG} {d1 d2 : DE} {e e1 e2 e3 e4 e5 : Slots} {xs ys : List D} {bs : List (List D)} {i v : Nat}
end
end L2
namespace Lib
open PySem L2 Pm
section
variable {n m t : Nat} {s : List Int} {T A : List (Nat × Nat)} {sg tg : List Int} {x y z : D}
def gls (A : List (Nat × Nat)) (p : Nat) : List Nat := (A.filter fun a => decide (a.1 = p)).map (·.2)
def nx (n : Nat) (A : List (Nat × Nat)) : List D := (List.range n).map fun p => PyData.list ((gls A p).map iN)
end
section
variable {n m t : Nat} {s : List Int} {T A : List (Nat × Nat)} {sg tg : List Int} {x y z : D}
end
section
variable {n m t : Nat} {s : List Int} {T A : List (Nat × Nat)} {sg tg : List Int} {x y z : D}
end
end Lib
set_option Elab.async false
set_option autoImplicit false
set_option linter.all false
set_option maxRecDepth 100000
set_option maxHeartbeats 1000001
namespace Lib
open PySem L2 Pm
end Lib
set_option Elab.async false
set_option autoImplicit false
set_option linter.all false
set_option maxRecDepth 100000
set_option maxHeartbeats 1000001
namespace Lib
open PySem L2 Pm
end Lib
set_option Elab.async false
set_option autoImplicit false
set_option linter.all false
set_option maxRecDepth 100000
set_option maxHeartbeats 1000001
namespace K25
open PySem L2 Pm Lib Po
theorem df : Draws d_L_draw := e_draw (A := 39373) (B := 911) (M := 2147483629) (M2 := 2147483587) (C := 13) (by decide) (by decide) (by decide) (by decide)
section
variable {n i j : Nat} {s t u : List Int} {x y z : D} {p xs : List D}
theorem o_order (hp : Pot p) (h1 : 1 ≤ n) (h9 : n ≤ 9) : ∃ (s : List Int) (p' : List D), d_L_order (some p) [.int (n : Nat)] = some (.d (Tu s), p') ∧ P n s ∧ Pot p' := e_orderW (f := d_L_draw) (pick := d_L_pick) (mixed := d_L_mixed) df rfl rfl hp h1 h9
theorem o_mixed (hp : Pot p) : ∃ (s' : List Int) (p' : List D), d_L_mixed (some p) [Li (iota 9)] = some (.own (iD' s'), p') ∧ P 9 s' ∧ Pot p' := by
  have fm : ∃ (u : List Int) (p' : List D), d_L_mixed (some p) [Li (iota 9)] = some (.own (iD' u), p') ∧ u.Perm (iota 9) ∧ Pot p' := Lib.e_mixed df hp (by rw [len_iota]; exact Nat.le_refl 9)
  obtain ⟨s', p', a, b, c⟩ := fm
  exact ⟨s', p', a, P_of b, c⟩
theorem o_as0 (hp : Pot p) : ∃ (r : TV) (p' : List D), d_L_as (some p) [Tu s] = some (r, p') ∧ (r.toD = Tu s ∨ r.toD = Li s) ∧ Pot p' := e_as df hp
theorem wpi_len (hl : s.length = n) (h9 : n ≤ 9) (i : Nat) : (wpi s i).length ≤ 9 := by
  unfold wpi
  have := List.length_filter_le (fun j => decide (at' s j < at' s i)) ((List.range (s.length - (i + 1))).map fun k => i + 1 + k)
  rw [List.length_map, List.length_range] at this
  omega
theorem wq_len (hl : s.length = n) (h9 : n ≤ 9) : ∀ k, (Lib.prD (wq s k)).length ≤ k * 9
  | 0 => Nat.le_refl _
  | k + 1 => by
    have ih := wq_len hl h9 k
    have := wpi_len hl h9 k
    rw [wq_succ, List.length_append]
    have e : (Lib.prD ((wpi s k).map fun j => (k, j))).length = (wpi s k).length := by
      unfold Lib.prD
      rw [List.length_map, List.length_map]
    omega
theorem o_Lw (h : P n s) (h9 : n ≤ 9) : d_L_wrong none [Tu s] = some (.own (Lib.prD (wp s)), []) := by
  have hl := h.len
  let N : Option TV := some (.d (.int (n : Nat)))
  let E : Option TV → Option TV → Option TV → Slots := fun a b c => [some (.d (Tu s)), N, a, b, c]
  obtain ⟨e', c1, o, rfl⟩ := for_ix (g := gNm 3) (t := dSeq [sDrop (dExt 2 (dLc (iRg [.ex (frz (dPrim pAdd [.bor 3, .ex (dC (.int 1))])), .bor 1]) (gNm 4) [4] (dPrim pGt [.ex (dPrim pIx [.bor 0, .bor 3]), .ex (dPrim pIx [.bor 0, .bor 4])]) (dTup [dVar 3, dVar 4])))])
    (xs := rgD 0 ((n : Int) - 0).toNat) (fun k e => ∃ o, e = E (some (.own (Lib.prD (wq s k)))) o none) (e := E (some (.own [])) none none) ⟨none, rfl⟩ (by
      rintro k hk e ⟨o, rfl⟩
      rw [rg_at hk]
      rw [rgD_len] at hk
      have hkn : k < n := by omega
      have e1 : (0 + (k : Int)) = (k : Nat) := by omega
      have b3 : iRg [.ex (frz (dPrim pAdd [.bor 3, .ex (dC (.int 1))])), .bor 1] (E (some (.own (Lib.prD (wq s k)))) (some (.d (.int (0 + (k : Int))))) none) = some (rgD (0 + (k : Int) + 1) ((n : Int) - (0 + (k : Int) + 1)).toNat, E (some (.own (Lib.prD (wq s k)))) (some (.d (.int (0 + (k : Int))))) none) :=
        iRg_of (v_osE (v_frzd (v_prim (v_osD rfl (v_osE v_C v_os0) rfl) (q_add _ _))) (v_osD rfl v_os0 rfl)) (rgOf_two h9 hkn)
      have er : rgD (0 + (k : Int) + 1) ((n : Int) - (0 + (k : Int) + 1)).toNat = ((List.range (s.length - (k + 1))).map fun l => k + 1 + l).map fun j : Nat => PyData.int (j : Nat) := by
        unfold rgD
        have e2 : ((n : Int) - (0 + (k : Int) + 1)).toNat = s.length - (k + 1) := by omega
        rw [e2, List.map_map]
        refine List.map_congr_left fun l _ => ?_
        show PyData.int (0 + (k : Int) + 1 + (l : Int)) = .int ((k + 1 + l : Nat) : Int)
        rw [show (0 + (k : Int) + 1 + (l : Int)) = ((k + 1 + l : Nat) : Int) by omega]
      have b1 : lcGo (gNm 4) (dPrim pGt [.ex (dPrim pIx [.bor 0, .bor 3]), .ex (dPrim pIx [.bor 0, .bor 4])]) (dTup [dVar 3, dVar 4]) [4] (rgD (0 + (k : Int) + 1) ((n : Int) - (0 + (k : Int) + 1)).toNat) (E (some (.own (Lib.prD (wq s k)))) (some (.d (.int (0 + (k : Int))))) none) = some (((wpi s k).map fun j => Xp (k, j)), E (some (.own (Lib.prD (wq s k)))) (some (.d (.int (0 + (k : Int))))) none) := by
        rw [er]
        refine lc_fe fun j hj => ?_
        obtain ⟨l, hl', rfl⟩ := List.mem_map.mp hj
        have hl' := List.mem_range.mp hl'
        refine ⟨_, E (some (.own (Lib.prD (wq s k)))) (some (.d (.int (0 + (k : Int))))) (some (.d (.int ((k + 1 + l : Nat) : Int)))), rfl, ?_, fun _ => ⟨E (some (.own (Lib.prD (wq s k)))) (some (.d (.int (0 + (k : Int))))) (some (.d (.int ((k + 1 + l : Nat) : Int)))), ?_, rfl⟩, fun _ => rfl⟩
        · exact congrArg asB (v_prim (e := E (some (.own (Lib.prD (wq s k)))) (some (.d (.int (0 + (k : Int))))) (some (.d (.int ((k + 1 + l : Nat) : Int))))) (os := [.ex (dPrim pIx [.bor 0, .bor 3]), .ex (dPrim pIx [.bor 0, .bor 4])]) (v_osE (v_prim (v_osD rfl (v_osD rfl v_os0 rfl) rfl) (q_ix hl (i := k) (by omega) hkn)) (v_osE (v_prim (v_osD rfl (v_osD rfl v_os0 rfl) rfl) (q_ix hl (i := k + 1 + l) rfl (by omega))) v_os0)) (q_gt _ _))
        · rw [e1]
          exact v_tup (v_xs (v_Var rfl) (v_xs (v_Var rfl) v_xs0)) (by simp)
      have l1 := wq_len hl h9 k
      have l2 := wpi_len hl h9 k
      have b2 := dLc_of (vs := [4]) (e3 := E (some (.own (Lib.prD (wq s k)))) (some (.d (.int (0 + (k : Int))))) none) b3 b1 (by rw [List.length_map]; omega) rfl
      refine ⟨_, E (some (.own (Lib.prD (wq s (k + 1))))) (some (.d (.int (0 + (k : Int))))) none, rfl, v_sqN (v_drop (v_ext rfl b2 rfl (by rw [List.length_map]; omega) ?_)) v_sq0, _, rfl⟩
      rw [wq_succ]
      have e5 : Lib.prD ((wpi s k).map fun j => (k, j)) = (wpi s k).map fun j => Xp (k, j) := by
        unfold Lib.prD
        rw [List.map_map]
        rfl
      rw [e5]
      rfl)
  have en : (rgD 0 ((n : Int) - 0).toNat).length = n := by rw [rgD_len]; omega
  rw [en, wq_all h] at c1
  have b0 : iRg [.bor 1] (E (some (.own [])) none none) = some (rgD 0 ((n : Int) - 0).toNat, E (some (.own [])) none none) := iRg_of (v_osD rfl v_os0 rfl) (rgOf_nat h9)
  exact v_fn0 (e0 := [some (.d (Tu s)), none, none, none, none]) rfl (v_sqN (v_set (v_prim (v_osD rfl v_os0 rfl) (q_len hl)) (show 1 < 5 by decide) rfl) (v_sqN (v_set (v_lst v_xs0 (by decide)) (show 2 < 5 by decide) rfl) (v_sqN (v_for b0 c1) (v_sqR (v_ret (v_Move rfl rfl))))))
theorem o_moved (hl : s.length = n) (hi : i < n) (hj : j < n) : d_L_moved none [Tu s, .int (i : Nat), .int (j : Nat)] = some (.d (Tu (exch s i j)), []) := Lib.e_exchanged_in hl hi hj
theorem o_below (h : P n s) (k : P n t) (h1 : 1 ≤ n) (h9 : n ≤ 9) (hx : x = Tu s ∨ x = Li s) (hy : y = Tu t ∨ y = Li t) : d_is_below none [x, y] = some (.d (.bool (lowb n s t)), []) := Lib.e_is_below h k h1 h9 hx hy
theorem o_overP (h : P n s) (k : P n t) (h1 : 1 ≤ n) (h9 : n ≤ 9) (hx : x = Tu s ∨ x = Li s) (hy : y = Tu t ∨ y = Li t) : d_over none [x, y] = some (.d (oX (ovP n s t)), []) := Lib.e_over h k h1 h9 hx hy
theorem o_counted {m k : Nat} (h : P n s) (n1 : 1 ≤ n) (n9 : n ≤ 9) (h1 : 1 ≤ m ∧ m ≤ n) (h2 : 1 ≤ k ∧ k ≤ n) (hx : x = Tu s ∨ x = Li s) : d_counted none [x, Xp (m, k)] = some (.d (.int (cn s m k : Nat)), []) := e_counted h n1 n9 h1 h2 hx
theorem o_Lcount {m : Nat} (hl : s.length = n) (n9 : n ≤ 9) (hm : m ≤ n) (k : Nat) : d_L_count none [Tu s, Xp (m, k)] = some (.d (.int (cn s m k : Nat)), []) := e_L_count hl n9 hm k
theorem o_Lcorners (n9 : n ≤ 9) : d_L_corners none [.int (n : Nat)] = some (.own ((crL n).map Xp), []) := e_L_corners n9
theorem o_want {n : Nat} {s : List Int} {x : D} (h : P n s) (h1 : 1 ≤ n) (h9 : n ≤ 9) (hx : x = Tu s ∨ x = Li s) : d_want_order none [x] = some (.d (Tu s), []) := e_want_order h h1 h9 hx
theorem o_tab (hl : s.length = n) (n9 : n ≤ 9) : d_table_of none [Tu s] = some (.own ((List.range n).map fun i => Li (rwI n s (i + 1))), []) := e_table_of hl n9
def rows (n : Nat) (s : List Int) : List (List D) := (List.range n).map fun i => iD' (rwI n s (i + 1))
theorem rows_map : (rows n s).map PyData.list = (List.range n).map fun i => Li (rwI n s (i + 1)) := by
  unfold rows
  rw [List.map_map]
  rfl
theorem rows_ok (n9 : n ≤ 9) : ∀ xs ∈ rows n s, lfs xs = true ∧ xs.length ≤ 1000 := fun xs hx => by
  obtain ⟨i, _, rfl⟩ := List.mem_map.mp hx
  refine ⟨lfs_ints _, ?_⟩
  rw [List.length_map, rwI_len]
  omega
theorem rows_len : (rows n s).length = n := by
  unfold rows
  rw
        [List.length_map, List.length_range]
theorem e_ctab (h : P n s) (n1 : 1 ≤ n) (n9 : n ≤ 9) (hx : x = Tu s ∨ x = Li s) : d_corner_table none [x] = some (.own ((rows n s).map PyData.list), [.none]) := by
  have w := o_want h n1 n9 hx
  have c : calF d_table_of [Tu s] = some (rows n s) := calF_of (by simp only [lfs, lf_Tu, Bool.and_self]) (by rw [rows_map]; exact o_tab h.len n9) (rows_ok n9) (by rw [rows_len]; omega)
  exact dFnO_of (e0 := [Vv x]) (e1 := [Vv x]) rfl rfl (v_callO (v_xs (v_frzd (v_call (v_xs (v_Var rfl) v_xs0) w)) v_xs0) rfl c)
theorem c_ctab (h : P n s) (n1 : 1 ≤ n) (n9 : n ≤ 9) (hx : x = Tu s ∨ x = Li s) : calM d_corner_table [x] = some (rows n s) := calM_of (e_ctab h n1 n9 hx) (rows_ok n9) (by rw [rows_len]; omega)
theorem e_Ltable (h : s.length = n) (n9 : n ≤ 9) : d_L_table none [Tu s] = some (.own ((rows n s).map PyData.list), []) := by
  let E : Option TV → Option TV → Slots := fun a b => [Vv (Tu s), Vv (.int (n : Nat)), a, b]
  have ln := q_len h
  have rg : ∀ a b, iRg [.ex (dC (.int 1)), .ex (frz (dPrim pAdd [.bor 1, .ex (dC (.int 1))]))] (E a b) = some ((List.range' 1 n).map iN, E a b) := fun a b => by
    have := iRg2 (b := 1) (c := n + 1) (os := [.ex (dC (.int 1)), .ex (frz (dPrim pAdd [.bor 1, .ex (dC (.int 1))]))]) (e := E a b) (e1 := E a b) (v_osE v_C (v_osE (v_frzd (v_prim (v_osD rfl (v_osE v_C v_os0) rfl) (q_add1 n))) v_os0)) (by omega) (by omega)
    rw [this, show n + 1 - 1 = n by omega]
  have row : ∀ m ∈ List.range' 1 n, b1_L_table (E (Vv (iN m)) none) = some (.d (Li (rwI n s m)), E (Vv (iN m)) none) := fun m hm => by
    have hm := List.mem_range'_1.mp hm
    have b0 : lcGo (gNm 3) dYes (frz (dCall d_L_count none [dVar 0, dTup [dVar 2, dVar 3]])) [3] ((List.range' 1 n).map iN) (E (Vv (iN m)) none) = some ((List.range' 1 n).map (fun k => PyData.int (cn s m k : Nat)), E (Vv (iN m)) none) :=
      lc_me fun k hk => ⟨_, E (Vv (iN m)) (Vv (iN k)), rfl, v_frzd (v_call (v_xs (v_Var rfl) (v_xs (v_tup (v_xs (v_Var rfl) (v_xs (v_Var rfl) v_xs0)) (by simp)) v_xs0)) (o_Lcount h n9 (by omega) k)), rfl⟩
    have b1 := dLc_of (e := E (Vv (iN m)) none) (vs := [3]) (e3 := E (Vv (iN m)) none) (rg _ _) b0 (by rw [List.length_map, List.length_range']; omega) rfl
    have e : (List.range' 1 n).map (fun k => PyData.int (cn s m k : Nat)) = iD' (rwI n s m) := by
      rw [rwI_D, List.range'_eq_map_range, List.map_map]
      refine List.map_congr_left fun a _ => ?_
      show PyData.int (cn s m (1 + a) : Nat) = .int (cn s m (a + 1) : Nat)
      rw [Nat.add_comm]
    rw [e] at b1
    exact v_frzo b1
  have b0 : lcGo (gNm 2) dYes b1_L_table [2] ((List.range' 1 n).map iN) (E none none) = some ((List.range' 1 n).map (fun m => Li (rwI n s m)), E none none) :=
    lc_me fun m hm => ⟨_, E (Vv (iN m)) none, rfl, row m hm, rfl⟩
  have b1 := dLc_of (e := E none none) (vs := [2]) (e3 := E none none) (rg _ _) b0 (by rw [List.length_map, List.length_range']; omega) rfl
  have e : (List.range' 1 n).map (fun m => Li (rwI n s m)) = (rows n s).map PyData.list := by
    rw [rows_map, List.range'_eq_map_range, List.map_map]
    refine List.map_congr_left fun a _ => ?_
    show Li (rwI n s (1 + a)) = Li (rwI n s (a + 1))
    rw [Nat.add_comm]
  rw [e] at b1
  exact v_fn0 (e0 := [Vv (Tu s), none, none, none]) rfl (v_sqN (v_set (v_prim (v_osD rfl v_os0 rfl) ln) (show 1 < 4 by decide) rfl) (v_sqR (v_ret b1)))
theorem ovP_find (n : Nat) (s t : List Int) : ovP n s t = (crL n).find? fun z => decide (cn t z.1 z.2 < cn s z.1 z.2) := by
  have key : ∀ l : List Nat, (l.flatMap fun i => (List.range n).map fun a => (i + 1, a + 1)).find? (fun z => decide (cn t z.1 z.2 < cn s z.1 z.2)) = ((l.find? fun i => (ovA n s t i).isSome).map fun i => (i + 1, (ovA n s t i).getD 0 + 1)) := by
    intro l
    induction l with
    | nil => rfl
    | cons i l ih =>
      rw [List.flatMap_cons, List.find?_append, ih, List.find?_map, List.find?_cons]
      have e : (List.range n).find? ((fun z : Nat × Nat => decide (cn t z.1 z.2 < cn s z.1 z.2)) ∘ fun a => (i + 1, a + 1)) = ovA n s t i := rfl
      rw [e]
      cases e2 : ovA n s t i with
      | none => rfl
      | some a => simp [e2]
  unfold ovP
  rw [← key (List.range n)]
  unfold crL
  rw [List.range'_eq_map_range, List.flatMap_map]
  congr 1
  apply congrArg (fun f => (List.range n).flatMap f)
  funext i
  rw [List.map_map]
  refine List.map_congr_left fun a _ => ?_
  show (i + 1, a + 1) = (1 + i, 1 + a)
  rw [Nat.add_comm i, Nat.add_comm a]
theorem e_Lover (h : P n s) (k : P n t) (n9 : n ≤ 9) : d_L_over none [Tu s, Tu t] = some (.d (oX (ovP n s t)), []) := by
  let E : Option TV → Option TV → Slots := fun a b => [Vv (Tu s), Vv (Tu t), a, b]
  let q : Nat × Nat → Bool := fun z => decide (cn t z.1 z.2 < cn s z.1 z.2)
  have b0 : lcGo (gNm 3) b1_L_over (dVar 3) [3] ((crL n).map Xp) (E none none) = some (((crL n).filter q).map Xp, E none none) :=
    lc_fe fun z hz => by
      have hz := mem_crL.mp hz
      have g := q_gt ((cn s z.1 z.2 : Nat) : Int) (cn t z.1 z.2 : Nat)
      rw [show decide (((cn t z.1 z.2 : Nat) : Int) < ((cn s z.1 z.2 : Nat) : Int)) = q z from decide_eq_decide.mpr (by omega)] at g
      exact ⟨_, E none (Vv (Xp z)), rfl, congrArg asB (v_prim (v_osE (v_frzd (v_call (v_xs (v_Var rfl) (v_xs (v_Var rfl) v_xs0)) (o_Lcount h.len n9 hz.1.2 z.2))) (v_osE (v_frzd (v_call (v_xs (v_Var rfl) (v_xs (v_Var rfl) v_xs0)) (o_Lcount k.len n9 hz.1.2 z.2))) v_os0)) g), fun _ => ⟨_, v_Var rfl, rfl⟩, fun _ => rfl⟩
  have cl := crL_len n9
  have fl := List.length_filter_le q (crL n)
  have b1 := dLc_of (s := iSeq (frz (dCall d_L_corners none [dPrim pLen [.bor 0]]))) (e := E none none) (vs := [3]) (e3 := E none none) (v_seq (v_frzo (v_call (v_xs (v_prim (v_osD rfl v_os0 rfl) (q_len h.len)) v_xs0) (o_Lcorners n9))) rfl) b0 (by rw [List.length_map]; omega) rfl
  have fe : ovP n s t = ((crL n).filter q).head? := by rw [ovP_find, List.head?_filter]
  let W : Option TV := some (.own (((crL n).filter q).map Xp))
  have s1 : sSet 2 (dLc (iSeq (frz (dCall d_L_corners none [dPrim pLen [.bor 0]]))) (gNm 3) [3] (b1_L_over) (dVar 3)) (E none none) = some (.nx, E W none) := v_set b1 (show 2 < 4 by decide) rfl
  have ne0 : pNe [.list (((crL n).filter q).map Xp), .list []] = some (.d (.bool (decide ((crL n).filter q ≠ [])))) := by
    have := q_neNil (((crL n).filter q).map fun z => [((z.1 : Nat) : Int), ((z.2 : Nat) : Int)])
    rw [List.map_map] at this
    have e : decide (((crL n).filter q).map (fun z => [((z.1 : Nat) : Int), ((z.2 : Nat) : Int)]) ≠ []) = decide ((crL n).filter q ≠ []) := decide_eq_decide.mpr (not_congr List.map_eq_nil_iff)
    rw [e] at this
    exact this
  cases c : (crL n).filter q with
  | nil =>
    have c0 : dPrim pNe [.bor 2, .ex (frz (dLst []))] (E W none) = some (.d (.bool false), E W none) := v_prim (v_osO rfl (v_osE (v_frzo (v_lst v_xs0 (by decide))) v_os0) rfl) (by rw [ne0, c]; rfl)
    rw [fe, c]
    exact v_fn0 (e0 := E none none) rfl (v_sqN s1 (v_sqR (v_ret (v_ifF c0 v_C))))
  | cons z l =>
    have c0 : dPrim pNe [.bor 2, .ex (frz (dLst []))] (E W none) = some (.d (.bool true), E W none) := v_prim (v_osO rfl (v_osE (v_frzo (v_lst v_xs0 (by decide))) v_os0) rfl) (by rw [ne0, c]; rfl)
    have x0 : pIx [.list (((crL n).filter q).map Xp), .int 0] = some (.d (Xp z)) := by
      rw [c]
      exact q_ix0 (Xp z) (l.map Xp)
    rw [fe, c]
    exact v_fn0 (e0 := E none none) rfl (v_sqN s1 (v_sqR (v_ret (v_ifT c0 (v_prim (v_osO rfl (v_osE v_C v_os0) rfl) x0)))))
end
end K25
set_option Elab.async false
set_option autoImplicit false
set_option linter.all false
set_option maxRecDepth 100000
set_option maxHeartbeats 1000001
namespace K25
open PySem L2 Pm Lib Po
section
variable {n i j : Nat} {s t u : List Int} {x y z X : D} {p q xs : List D}
theorem rw_small (n9 : n ≤ 9) (hl : s.length = n) (m : Nat) : (rwI n s m).length ≤ 40 ∧ ∀ x ∈ rwI n s m, x.natAbs < 10 ^ 4 := by
  refine ⟨by rw [rwI_len]; omega, fun x hx => ?_⟩
  unfold rwI at hx
  obtain
        ⟨a, _, rfl⟩ := List.mem_map.mp hx
  have : cn s m (a + 1) ≤ s.length := by
    unfold cn
    exact Nat.le_trans (List.length_filter_le _ _) (by rw [List.length_take]; omega)
  show (((cn s m (a + 1) : Nat) : Int)).natAbs < 10 ^ 4
  omega
abbrev TB (n : Nat) (s : List Int) : D := .list ((rows n s).map PyData.list)
theorem sh_tab (n9 : n ≤ 9) (hl : s.length = n) : ShN (TB n s) := shN_list (fun x hx => by
  rw [rows_map] at hx
  obtain ⟨i, _, rfl⟩ := List.mem_map.mp hx
  obtain ⟨a, b⟩ := rw_small n9 hl (i + 1)
  exact ⟨okS_L a b, ok_L _⟩) (by rw [List.length_map, rows_len]; omega)
theorem sh_3 (c : Nat) (hc : c ≤ 9) : ShN (Li [(c : Int), (c : Int), (c : Int)]) := sh_row (by show 3 ≤ 40; decide) fun x hx => by
  simp
        only [List.mem_cons, List.not_mem_nil, or_false] at hx
  rcases hx with rfl | rfl | rfl <;> · show ((c : Int)).natAbs < 10 ^ 4; omega
theorem last_row (h : P n s) : rwI n s n = fall n := by
  unfold rwI fall mk
  refine List.map_congr_left fun a ha => ?_
  have := cn_full h (k := a + 1) (by omega)
  have ha := List.mem_range.mp ha
  rw [this]
  omega
theorem first_col (h : P n s) (n1 : 1 ≤ n) : (List.range n).map (fun i => PyData.int ((cn s (i + 1) 1 : Nat) : Int)) = iD' (iota n) := by
  unfold iota mk iD'
  rw [List.map_map]
  refine List.map_congr_left fun i hi => ?_
  have hi := List.mem_range.mp hi
  rw [(cn_k0 h (show i + 1 ≤ n by omega)).1]
  show PyData.int ((i + 1 : Nat) : Int) = .int ((1 : Int) + (i : Int))
  congr 1
  omega
theorem row_at (hi : i < n) : ((rows n s).map PyData.list)[i]? = some (Li (rwI n s (i + 1))) := by
  rw [rows_map, List.getElem?_map, List.getElem?_range hi]
  rfl
abbrev S9 (p : List D) (s : List Int) (X : D) (n : Nat) (o4 o5 o6 o7 o8 : Option TV) : Slots := [some (.own p), Vv (Tu s), Vv X, Vv (.int (n : Nat)), o4, o5, o6, o7, o8]
theorem mrg9 {o4' o8 : Option TV} (o5 o6 o7 : Option D) (hq : Pot q) : mrg (S9 p s X n none (o5.map .d) (o6.map .d) (o7.map .d) none) ((S9 q s X n o4' (o5.map .d) (o6.map .d) (o7.map .d) o8).set 4 none) = some (S9 q s X n none (o5.map .d) (o6.map .d) (o7.map .d) none) := by
  have := pot_pl hq
  cases o5 <;> cases o6 <;> cases o7 <;> simp [mrg, mrg1, this]
abbrev chk0 : DE := dOr (dPrim pNe [.ex (dPrim pReprN [.bor 4]), .ex (dPrim pReprN [.ex (frz (dCall d_L_table none [dVar 1]))])]) (dOr (dPrim pNe [.ex (dPrim pIx [.bor 4, .ex (dPrim pNeg [.ex (dC (.int 1))])]), .ex (frz (dLRg3 [.bor 3, .ex (dC (.int 0)), .ex (dPrim pNeg [.ex (dC (.int 1))])]))]) (dPrim pNe [.ex (frz (dLcB 4 (gNm 8) [8] (dYes) (dPrim pIx [.bor 8, .ex (dC (.int 0))]))), .ex (frz (dLRg [.ex (dC (.int 1)), .ex (frz (dPrim pAdd [.bor 3, .ex (dC (.int 1))]))]))]))
theorem dLRg3_of {os : List Opd} {e e1 : Slots} {xs : List D} {i j : Int} (h1 : evs os e = some (xs, e1)) (h2 : rgOf3 xs = some (i, j)) : dLRg3 os e = some (.own (dnD i (i - j).toNat), e1) := by
  simp only [dLRg3, h1, h2]
theorem chk_tab (h : P n s) (n1 : 1 ≤ n) (n9 : n ≤ 9) : chk0 (S9 p s X n (Vv (TB n s)) none none none none) = some (.d (.bool false), S9 p s X n (Vv (TB n s)) none none none none) := by
  let E : Option TV → Slots := fun o => S9 p s X n (Vv (TB n s)) none none none o
  have sh := sh_tab n9 h.len
  have a1 : dPrim pNe [.ex (dPrim pReprN [.bor 4]), .ex (dPrim pReprN [.ex (frz (dCall d_L_table none [dVar 1]))])] (E none) = some (.d (.bool false), E none) :=
    v_prim (v_osE (v_prim (v_osD rfl v_os0 rfl) sh.1) (v_osE (v_prim (v_osE (v_frzo (v_call (v_xs (v_Var rfl) v_xs0) (e_Ltable h.len n9))) v_os0) sh.1) v_os0)) (ne_str sh.2)
  have lr : pIx [TB n s, .int (-1)] = some (.d (Li (rwI n s n))) := by
    have e : (rows n s).map PyData.list = ((rows n s).map PyData.list).take (n - 1) ++ [Li (rwI n s n)] := by
      have l : ((rows n s).map PyData.list).length = n := by rw [List.length_map, rows_len]
      have g := row_at (n := n) (s := s) (i := n - 1) (by omega)
      rw [show n - 1 + 1 = n by omega] at g
      refine
            List.ext_getElem? fun j => ?_
      by_cases c : j < n - 1
      · rw [List.getElem?_append_left (by rw [List.length_take]; omega), List.getElem?_take, if_pos c]
      · rw [List.getElem?_append_right (by rw [List.length_take]; omega), List.length_take, l, Nat.min_eq_left (by omega)]
        by_cases d : j = n - 1
        · subst d
          rw [g, Nat.sub_self]
          rfl
        · rw [List.getElem?_eq_none (by omega), List.getElem?_eq_none (by simp; omega)]
    show (atI ((rows n s).map PyData.list) (-1)).map TV.d = _
    rw [e, atI_last]
    rfl
  have ng : pNeg [.int 1] = some (.d (.int (-1))) := rfl
  have rg3 : dLRg3 [.bor 3, .ex (dC (.int 0)), .ex (dPrim pNeg [.ex (dC (.int 1))])] (E none) = some (.own (iD' (fall n)), E none) := by
    have := dLRg3_of (os := [.bor 3, .ex (dC (.int 0)), .ex (dPrim pNeg [.ex (dC (.int 1))])]) (e := E none) (e1 := E none) (v_osD rfl (v_osE v_C (v_osE (v_prim (v_osE v_C v_os0) ng) v_os0)) rfl) (rgOf3_fall n9)
    rw [dn_fall] at this
    exact this
  have a2 : dPrim pNe [.ex (dPrim pIx [.bor 4, .ex (dPrim pNeg [.ex (dC (.int 1))])]), .ex (frz (dLRg3 [.bor 3, .ex (dC (.int 0)), .ex (dPrim pNeg [.ex (dC (.int 1))])]))] (E none) = some (.d (.bool false), E none) :=
    v_prim (v_osE (v_prim (v_osD rfl (v_osE (v_prim (v_osE v_C v_os0) ng) v_os0) rfl) lr) (v_osE (v_frzo rg3) v_os0)) (q_neL1 (last_row h))
  have b0 : lcGo (gNm 8) dYes (dPrim pIx [.bor 8, .ex (dC (.int 0))]) [8] ((List.range n).map fun i => Li (rwI n s (i + 1))) (E none) = some ((List.range n).map (fun i => PyData.int ((cn s (i + 1) 1 : Nat) : Int)), E none) :=
    lc_me fun i hi => ⟨_, E (Vv (Li (rwI n s (i + 1)))), rfl, v_prim (v_osD rfl (v_osE v_C v_os0) rfl) (ov_ix (a := 0) (by omega)), rfl⟩
  have b1 : dLcB 4 (gNm 8) [8] (dYes) (dPrim pIx [.bor 8, .ex (dC (.int 0))]) (E none) = some (.own (iD' (iota n)), E none) := by
    have sq : iSeq (dVar 4) (E none) = some ((List.range n).map (fun i => Li (rwI n s (i + 1))), E none) := v_seq (v_Var rfl) (by show some ((rows n s).map PyData.list) = _; rw [rows_map])
    rw [first_col h n1] at b0
    exact dLc_of (s := iSeq (dVar 4)) (e := E none) (vs := [8]) (e3 := E none) sq b0 (by rw [List.length_map, len_iota]; omega) rfl
  have rg2 : dLRg [.ex (dC (.int 1)), .ex (frz (dPrim pAdd [.bor 3, .ex (dC (.int 1))]))] (E none) = some (.own (iD' (iota n)), E none) := by
    have := lRg2 (b := 1) (c := n + 1) (os := [.ex (dC (.int 1)), .ex (frz (dPrim pAdd [.bor 3, .ex (dC (.int 1))]))]) (e := E none) (e1 := E none) (v_osE v_C (v_osE (v_frzd (v_prim (v_osD rfl (v_osE v_C v_os0) rfl) (q_add1 n))) v_os0)) (by omega) (by omega)
    rw [this, show n + 1 - 1 = n by omega, iota_R]
  have a3 : dPrim pNe [.ex (frz (dLcB 4 (gNm 8) [8] (dYes) (dPrim pIx [.bor 8, .ex (dC (.int 0))]))), .ex (frz (dLRg [.ex (dC (.int 1)), .ex (frz (dPrim pAdd [.bor 3, .ex (dC (.int 1))]))]))] (E none) = some (.d (.bool false), E none) :=
    v_prim (v_osE (v_frzo b1) (v_osE (v_frzo rg2) v_os0)) (q_neL1 rfl)
  exact v_orF a1 (v_orF a2 a3)
abbrev msT : List LS := [.asg 6 (dTup [frz (dPrim pAdd [.ex (dC (.int 1)), .ex (frz (dCallI d_L_draw 0 [dVar 3]))]), frz (dPrim pAdd [.ex (dC (.int 1)), .ex (frz (dCallI d_L_draw 0 [dVar 3]))])]), .asg 7 (frz (dCall d_L_count none [dVar 1, dVar 6])), .chk (dPrim pNe [.ex (dPrim pReprN [.ex (frz (dLst [frz (dCall d_counted none [dVar 2, dVar 6]), frz (dCall d_counted (some [1, 0]) ([] ++ [dVar 6, dVar 2])), dPrim pIx [.ex (dPrim pIx [.bor 4, .ex (dPrim pSub [.ex (dPrim pIx [.bor 6, .ex (dC (.int 0))]), .ex (dC (.int 1))])]), .ex (dPrim pSub [.ex (dPrim pIx [.bor 6, .ex (dC (.int 1))]), .ex (dC (.int 1))])]]))]), .ex (dPrim pReprN [.ex (frz (dPrim pMul [.ex (frz (dLst [dVar 7])), .ex (dC (.int 3))]))])])]
theorem one_turn (h : P n s) (n1 : 1 ≤ n) (n9 : n ≤ 9) (hX : X = Tu s ∨ X = Li s) (hp : Pot p) (k : D) (o5 o6 o7 : Option D) : ∃ q k' c' d', lsGo 4 (TB n s) msT ((S9 p s X n none (o5.map .d) (o6.map .d) (o7.map .d) none).set 5 (Vv k)) = some (false, S9 q s X n none (Option.map TV.d (some k')) (Option.map TV.d (some c')) (Option.map TV.d (some d')) none) ∧ Pot q := by
  obtain ⟨i, p1, f1, g1, hp1⟩ := df p (n : Nat) hp (by omega) (by omega)
  obtain ⟨j, p2, f2, g2, hp2⟩ := df p1 (n : Nat) hp1 (by omega) (by omega)
  have hi : i < n := by omega
  have hj : j < n := by omega
  let c : Nat := cn s (i + 1) (j + 1)
  have c9 : c ≤ 9 := Nat.le_trans (cn_le h (show i + 1 ≤ n by omega) (show 1 ≤ j + 1 by omega)).1 (by omega)
  have ad : ∀ m : Nat, pAdd [.int 1, .int (m : Nat)] = some (.d (.int ((m + 1 : Nat) : Int))) := fun m => by
    rw [q_add]
    congr 3
    omega
  have d1 : dTup [frz (dPrim pAdd [.ex (dC (.int 1)), .ex (frz (dCallI d_L_draw 0 [dVar 3]))]), frz (dPrim pAdd [.ex (dC (.int 1)), .ex (frz (dCallI d_L_draw 0 [dVar 3]))])] (S9 p s X n (Vv (TB n s)) (Vv k) (o6.map .d) (o7.map .d) none) = some (.d (Xp (i + 1, j + 1)), S9 p2 s X n (Vv (TB n s)) (Vv k) (o6.map .d) (o7.map .d) none) :=
    v_tup (v_xs (v_frzd (v_prim (v_osE v_C (v_osE (v_frzd (v_callI rfl (v_xs (v_Var rfl) v_xs0) rfl f1 rfl)) v_os0)) (ad i))) (v_xs (v_frzd (v_prim (v_osE v_C (v_osE (v_frzd (v_callI (e2 := S9 p2 s X n (Vv (TB n s)) (Vv k) (o6.map .d) (o7.map .d) none) rfl (v_xs (v_Var rfl) v_xs0) rfl f2 rfl)) v_os0)) (ad j))) v_xs0)) (by simp)
  have d2 : frz (dCall d_L_count none [dVar 1, dVar 6]) (S9 p2 s X n (Vv (TB n s)) (Vv k) (Vv (Xp (i + 1, j + 1))) (o7.map .d) none) = some (.d (.int (c : Nat)), S9 p2 s X n (Vv (TB n s)) (Vv k) (Vv (Xp (i + 1, j + 1))) (o7.map .d) none) :=
    v_frzd (v_call (v_xs (v_Var rfl) (v_xs (v_Var rfl) v_xs0)) (o_Lcount h.len n9 (show i + 1 ≤ n by omega) (j + 1)))
  let E : Slots := S9 p2 s X n (Vv (TB n s)) (Vv k) (Vv (Xp (i + 1, j + 1))) (Vv (.int (c : Nat))) none
  have oc := o_counted h n1 n9 (m := i + 1) (k := j + 1) ⟨by omega, by omega⟩ ⟨by omega, by omega⟩ hX
  have x1 : dPrim pIx [.bor 4, .ex (dPrim pSub [.ex (dPrim pIx [.bor 6, .ex (dC (.int 0))]), .ex (dC (.int 1))])] E = some (.d (Li (rwI n s (i + 1))), E) := by
    have sb : pSub [.int ((i + 1 : Nat) : Int), .int 1] = some (.d (.int (i : Nat))) := by
      rw [q_sub1 (by omega)]
      rfl
    exact v_prim (v_osD rfl (v_osE (v_prim (v_osE (v_prim (v_osD rfl (v_osE v_C v_os0) rfl) (ix_X0 (i + 1) (j + 1))) (v_osE v_C v_os0)) sb) v_os0) rfl) (q_ixG (row_at hi))
  have x2 : dPrim pIx [.ex (dPrim pIx [.bor 4, .ex (dPrim pSub [.ex (dPrim pIx [.bor 6, .ex (dC (.int 0))]), .ex (dC (.int 1))])]), .ex (dPrim pSub [.ex (dPrim pIx [.bor 6, .ex (dC (.int 1))]), .ex (dC (.int 1))])] E = some (.d (.int (c : Nat)), E) := by
    have sb : pSub [.int ((j + 1 : Nat) : Int), .int 1] = some (.d (.int (j : Nat))) := by
      rw [q_sub1 (by omega)]
      rfl
    exact v_prim (v_osE x1 (v_osE (v_prim (v_osE (v_prim (v_osD rfl (v_osE v_C v_os0) rfl) (ix_X1 (i + 1) (j + 1))) (v_osE v_C v_os0)) sb) v_os0)) (ov_ix hj)
  have sh := sh_3 c c9
  have d3 : dPrim pNe [.ex (dPrim pReprN [.ex (frz (dLst [frz (dCall d_counted none [dVar 2, dVar 6]), frz (dCall d_counted (some [1, 0]) ([] ++ [dVar 6, dVar 2])), dPrim pIx [.ex (dPrim pIx [.bor 4, .ex (dPrim pSub [.ex (dPrim pIx [.bor 6, .ex (dC (.int 0))]), .ex (dC (.int 1))])]), .ex (dPrim pSub [.ex (dPrim pIx [.bor 6, .ex (dC (.int 1))]), .ex (dC (.int 1))])]]))]), .ex (dPrim pReprN [.ex (frz (dPrim pMul [.ex (frz (dLst [dVar 7])), .ex (dC (.int 3))]))])] E = some (.d (.bool false), E) :=
    v_prim (v_osE (v_prim (v_osE (v_frzo (v_lst (v_xs (v_frzd (v_call (v_xs (v_Var rfl) (v_xs (v_Var rfl) v_xs0)) oc)) (v_xs (v_frzd (v_callK (w_app0 (v_xs (v_Var rfl) (v_xs (v_Var rfl) v_xs0))) rfl oc)) (v_xs x2 v_xs0))) (by simp))) v_os0) sh.1)
      (v_osE (v_prim (v_osE (v_frzo (v_prim (v_osE (v_frzo (v_lst (v_xs (v_Var rfl) v_xs0) (by simp))) (v_osE v_C v_os0)) (show pMul [.list [.int (c : Nat)], .int 3] = some (.own (iD' [(c : Int), (c : Int), (c : Int)])) from rfl))) v_os0) sh.1) v_os0)) (ne_str sh.2)
  refine ⟨p2, k, Xp (i + 1, j + 1), .int (c : Nat), ?_, hp2⟩
  refine lsAsg d1 (lf_Tu [((i + 1 : Nat) : Int), ((j + 1 : Nat) : Int)]) ⟨by decide, by decide, by show 6 < 9; decide⟩ (mrg9 (o5 := some k) (o6 := o6) (o7 := o7) hp2) ?_
  refine lsAsg d2 rfl ⟨by decide, by decide, by show 7 < 9; decide⟩ (mrg9 (o5 := some k) (o6 := some (Xp (i + 1, j + 1))) (o7 := o7) hp2) ?_
  exact lsChk d3 (mrg9 (o5 := some k) (o6 := some (Xp (i + 1, j + 1))) (o7 := some (.int (c : Nat))) hp2) lsNil
theorem e_table_right (h : P n s) (n1 : 1 ≤ n) (n9 : n ≤ 9) (hp : Pot p) : ∃ q, d_L_table_right (some p) [Tu s] = some (.d (.bool true), q) ∧ Pot q := by
  obtain ⟨r, p1, f1, hr, hp1⟩ := o_as0 (s := s) hp
  obtain ⟨X, hX, hr'⟩ : ∃ X : D, (X = Tu s ∨ X = Li s) ∧ (r = .d X ∨ r = .own (iD' s) ∧ X = Li s) := by
    cases r with
    | d x => exact ⟨x, hr, .inl rfl⟩
    | own xs => exact hr.elim (fun h => by cases h) fun h => ⟨Li s, .inr rfl, .inr ⟨congrArg TV.own (PyData.list.inj h), rfl⟩⟩
    | dc ps => exact hr.elim (fun h => by cases h) fun h => by cases h
  let E0 : Slots := [some (.own p), Vv (Tu s), none, none, none, none, none, none, none]
  let E1 : Slots := [some (.own p1), Vv (Tu s), some r, Vv (.int (n : Nat)), none, none, none, none, none]
  have s1 : sParO 2 3 (dCallI d_L_as 0 [dVar 1]) (dPrim pLen [.bor 1]) E0 = some (.nx, E1) :=
    v_par (v_callI rfl (v_xs (v_Var rfl) v_xs0) rfl f1 rfl) (v_prim (v_osD rfl v_os0 rfl) (q_len h.len)) (by show 2 < 9 ∧ 3 < 9; decide) rfl
  have fz : dVar 2 E1 = some (.d X, S9 p1 s X n none none none none none) := by
    rcases hr' with rfl | ⟨rfl, rfl⟩
    · rfl
    · rfl
  have d0 : dCallO (calM d_corner_table) none [dVar 2] E1 = some (rows n s, S9 p1 s X n none none none none none) := v_callO (v_xs fz v_xs0) rfl (c_ctab h n1 n9 hX)
  have g0 : lsGo 4 (TB n s) [.chk chk0] ((S9 p1 s X n none none none none none).set 4 none) = some (false, S9 p1 s X n none none none none none) :=
    lsChk (chk_tab h n1 n9) (mrg9 (o5 := none) (o6 := none) (o7 := none) hp1) lsNil
  obtain ⟨e', g1, q, o5, o6, o7, rfl, hq⟩ := lsFor_of (i := 4) (j := 5) (L := TB n s) (ms := msT) (fun e => ∃ (q : List D) (o5 o6 o7 : Option D), e = S9 q s X n none (o5.map .d) (o6.map .d) (o7.map .d) none ∧ Pot q) (xs := rgD 0 8) (e := S9 p1 s X n none none none none none) ⟨p1, none, none, none, rfl, hp1⟩ fun k hk e he => by
    obtain ⟨q, o5, o6, o7, rfl, hq⟩ := he
    obtain ⟨q', k', c', d', f, hq'⟩ := one_turn h n1 n9 hX hq k o5 o6 o7
    exact ⟨by show 5 < 9; decide, _, f, q', some k', some c', some d', rfl, hq'⟩
  have nr : rows n s ≠ [] := fun z => by
    have := rows_len (n := n) (s := s)
    rw [z] at this
    simp at this
    omega
  have s2 := v_pokeB (i := 4) (j := 5) (c0 := chk0) (xs := rgD 0 8) (ms := msT) d0 (by show 4 < 9; decide) nr g0 g1
  have sh := sh_tab n9 h.len
  let E2 : Slots := S9 q s X n none (o5.map .d) (o6.map .d) (o7.map .d) none
  have s3 : dPrim pEq [.ex (dPrim pReprN [.ex (frz (dCall d_corner_table (some [0]) ([] ++ [dVar 2])))]), .ex (dPrim pReprN [.ex (frz (dCall d_L_table none [dVar 1]))])] E2 = some (.d (.bool true), E2) :=
    v_prim (v_osE (v_prim (v_osE (v_frzo (v_callK (w_app0 (v_xs (v_Var rfl) v_xs0)) rfl (e_ctab h n1 n9 hX))) v_os0) sh.1) (v_osE (v_prim (v_osE (v_frzo (v_call (v_xs (v_Var rfl) v_xs0) (e_Ltable h.len n9))) v_os0) sh.1) v_os0)) (eq_str sh.2)
  exact ⟨q, v_fnI0 (e0 := [Vv (Tu s), none, none, none, none, none, none, none]) rfl (v_sqN s1 (v_sqN s2 (v_sqR (v_ret s3)))) rfl, hq⟩
end
end K25
set_option Elab.async false
set_option autoImplicit false
set_option linter.all false
set_option maxRecDepth 100000
set_option maxHeartbeats 1000001
namespace K25
open PySem L2 Pm Lib Po
section
variable {n i j : Nat} {s t u : List Int} {x y z X : D} {p q xs : List D}
theorem sh_oX (n9 : n ≤ 9) (s t : List Int) : ShN (.list [oX (ovP n s t), oX (ovP n s t), oX (ovP n s t)]) := by
  cases c : ovP n s t with
  | none => exact ⟨rfl, by decide +kernel⟩
  | some z =>
    have hz : z ∈ crL n := by
      rw [ovP_find] at c
      exact List.mem_of_find?_eq_some c
    have hz := mem_crL.mp hz
    have ok : okS (Xp z) ∧ PyData.strOk (Xp z).shown = true := ⟨okS_T (xs := [((z.1 : Nat) : Int), ((z.2 : Nat) : Int)]) (by show 2 ≤ 40; decide) fun x hx => by
      simp
            only [List.mem_cons, List.not_mem_nil, or_false] at hx
      rcases hx with rfl | rfl
      · show ((z.1 : Int)).natAbs < 10 ^ 4; omega
      · show ((z.2 : Int)).natAbs < 10 ^ 4; omega, ok_T [((z.1 : Nat) : Int), ((z.2 : Nat) : Int)]⟩
    refine shN_list (fun x hx => ?_) (by show 3 ≤ 1000; decide)
    have e : x = Xp z := by
      simp only [List.mem_cons, List.not_mem_nil, or_false, or_self] at hx
      exact hx
    rw [e]
    exact ok
theorem e_pair (h : P n s) (k : P n t) (n1 : 1 ≤ n) (n9 : n ≤ 9) (p : List D) : d_L_pair_right (some p) [Tu s, Tu t] = some (.d (.bool true), p) := by
  let o := ovP n s t
  let W : Option TV := some (.own [oX o, oX o, oX o])
  let E : Option TV → Option TV → Slots := fun a b => [some (.own p), Vv (Tu s), Vv (Tu t), a, b]
  have lo := e_Lover h k n9
  have s1 : sSet 3 (dCall d_L_over none [dVar 1, dVar 2]) (E none none) = some (.nx, E (Vv (oX o)) none) := v_set (v_call (v_xs (v_Var rfl) (v_xs (v_Var rfl) v_xs0)) lo) (show 3 < 5 by decide) rfl
  have o1 := o_overP h k n1 n9 (x := Tu s) (y := Tu t) (.inl rfl) (.inl rfl)
  have o2 := o_overP h k n1 n9 (x := Tu s) (y := Li t) (.inl rfl) (.inr rfl)
  have o3 := o_overP h k n1 n9 (x := Li s) (y := Tu t) (.inr rfl) (.inl rfl)
  have s2 : sSet 4 (dLst [frz (dCall d_over none [dVar 1, dVar 2]), frz (dCall d_over (some [1, 0]) ([] ++ [frz (dPrim pList [.bor 2]), dVar 1])), frz (dCall d_over none [frz (dPrim pList [.bor 1]), dVar 2])]) (E (Vv (oX o)) none) = some (.nx, E (Vv (oX o)) W) :=
    v_set (v_lst (v_xs (v_frzd (v_call (v_xs (v_Var rfl) (v_xs (v_Var rfl) v_xs0)) o1)) (v_xs (v_frzd (v_callK (w_app0 (v_xs (v_frzo (v_prim (v_osD rfl v_os0 rfl) rfl)) (v_xs (v_Var rfl) v_xs0))) rfl o2)) (v_xs (v_frzd (v_call (v_xs (v_frzo (v_prim (v_osD rfl v_os0 rfl) rfl)) (v_xs (v_Var rfl) v_xs0)) o3)) v_xs0))) (by simp)) (show 4 < 5 by decide) rfl
  have sh := sh_oX n9 s t
  have bl := o_below h k n1 n9 (x := Tu s) (y := Tu t) (.inl rfl) (.inl rfl)
  have be : lowb n s t = o.isNone := by
    rw [Bool.eq_iff_iff, ← ovP_none h k, Option.isNone_iff_eq_none]
  rw [be] at bl
  have s3 : dPrim pEq [.ex (dPrim pReprN [.bor 4]), .ex (dPrim pReprN [.ex (frz (dPrim pMul [.ex (frz (dLst [dVar 3])), .ex (dC (.int 3))]))])] (E (Vv (oX o)) W) = some (.d (.bool true), E (Vv (oX o)) W) :=
    v_prim (v_osE (v_prim (v_osO rfl v_os0 rfl) sh.1) (v_osE (v_prim (v_osE (v_frzo (v_prim (v_osE (v_frzo (v_lst (v_xs (v_Var rfl) v_xs0) (by simp))) (v_osE v_C v_os0)) (show pMul [.list [oX o], .int 3] = some (.own [oX o, oX o, oX o]) from rfl))) v_os0) sh.1) v_os0)) (eq_str sh.2)
  have s4 : dPrim pEq [.ex (frz (dCall d_is_below none [dVar 1, dVar 2])), .ex (dPrim pIs [.bor 3, .ex (dC .none)])] (E (Vv (oX o)) W) = some (.d (.bool true), E (Vv (oX o)) W) :=
    v_prim (v_osE (v_frzd (v_call (v_xs (v_Var rfl) (v_xs (v_Var rfl) v_xs0)) bl)) (v_osE (v_prim (v_osD rfl (v_osE v_C v_os0) rfl) (q_isO o)) v_os0)) (by cases o.isNone <;> rfl)
  exact v_fnI0 (e0 := [Vv (Tu s), Vv (Tu t), none, none]) rfl (v_sqN s1 (v_sqN s2 (v_sqR (v_ret (v_andT s3 s4))))) rfl
theorem e_right (p : List D) (hp : Pot p) : ∃ p', d_L_right (some p) [] = some (.d (.bool true), p') ∧ Pot p' := by
  obtain ⟨r, p1, f1, g1, hp1⟩ := df p 6 hp (by decide) (by decide)
  have em : 1 + ((r : Nat) : Int) = ((1 + r : Nat) : Int) := by omega
  have hn : 1 ≤ 1 + r ∧ 1 + r ≤ 9 := ⟨by omega, by omega⟩
  generalize hm : 1 + r = n at em hn
  obtain ⟨n1, n9⟩ := hn
  obtain ⟨s, p2, f2, hs, hp2⟩ := o_order (n := n) hp1 n1 n9
  obtain ⟨t, p3, f3, ht, hp3⟩ := o_order (n := n) hp2 n1 n9
  obtain ⟨u, p4, f4, hu, hp4⟩ := o_mixed hp3
  obtain ⟨p5, f5, hp5⟩ := e_table_right hs n1 n9 hp4
  obtain ⟨p6, f6, hp6⟩ := e_table_right hu (by decide) (by decide) hp5
  have ad : pAdd [.int 1, .int (r : Nat)] = some (.d (.int (n : Nat))) := by
    rw [← em]
    rfl
  let N : Option TV := Vv (.int (n : Nat))
  let S : Option TV := Vv (Tu s)
  let T : Option TV := Vv (Tu t)
  let U : Option TV := Vv (Tu u)
  let E : List D → Option TV → Option TV → Option TV → Option TV → Option TV → Option TV → Slots := fun q a b c d e f => [some (.own q), a, b, c, d, e, f]
  have c1 : sSet 1 (dPrim pAdd [.ex (dC (.int 1)), .ex (frz (dCallI d_L_draw 0 [dC (.int 6)]))]) (E p none none none none none none) = some (.nx, E p1 N none none none none none) :=
    v_set (v_prim (v_osE v_C (v_osE (v_frzd (v_callI rfl (v_xs v_C v_xs0) rfl f1 rfl)) v_os0)) ad) (show 1 < 7 by decide) rfl
  have c2 : sParO 2 3 (dCallI d_L_order 0 [dVar 1]) (dCallI d_L_order 0 [dVar 1]) (E p1 N none none none none none) = some (.nx, E p3 N S T none none none) :=
    v_par (e1 := E p2 N none none none none none) (e2 := E p3 N none none none none none) (v_callI rfl (v_xs (v_Var rfl) v_xs0) rfl f2 rfl) (v_callI rfl (v_xs (v_Var rfl) v_xs0) rfl f3 rfl) (by show 2 < 7 ∧ 3 < 7; decide) rfl
  have rg : dLRg [.ex (dC (.int 1)), .ex (dC (.int 10))] (E p3 N S T none none none) = some (.own (iD' (iota 9)), E p3 N S T none none none) := dLRg_of (i := 1) (j := 10) (v_osE v_C (v_osE v_C v_os0)) (by decide)
  have c3 : sSet 4 (dPrim pTuple [.ex (frz (dCallI d_L_mixed 0 [frz (dLRg [.ex (dC (.int 1)), .ex (dC (.int 10))])]))]) (E p3 N S T none none none) = some (.nx, E p4 N S T U none none) :=
    v_set (v_prim (v_osE (v_frzo (v_callI rfl (v_xs (v_frzo rg) v_xs0) rfl f4 rfl)) v_os0) rfl) (show 4 < 7 by decide) rfl
  have c4 : dOr (dNot (dCallI d_L_table_right 0 [dVar 2])) (dNot (dCallI d_L_table_right 0 [dVar 4])) (E p4 N S T U none none) = some (.d (.bool false), E p6 N S T U none none) :=
    v_orF (e1 := E p5 N S T U none none) (v_notT (v_callI rfl (v_xs (v_Var rfl) v_xs0) rfl f5 rfl)) (v_notT (v_callI rfl (v_xs (v_Var rfl) v_xs0) rfl f6 rfl))
  have hl := hs.len
  obtain ⟨o', c5⟩ := for_each (enc := fun z : Nat × Nat => PyData.tuple [.int (z.1 : Nat), .int (z.2 : Nat)]) (S := fun o : Option TV × Option TV => E p6 N S T U o.1 o.2) (g := gTp [gNm 5, gNm 6]) (t := b1_L_right) (xs := wp s) (none, none) fun z hz o => by
    obtain ⟨z1, z2, _⟩ := mem_wp.mp hz
    rw [hl] at z2
    have hz1 : z.1 < n := by omega
    have mv := o_moved hl hz1 z2
    have pe := P_exch hs hz1 z2
    let F : Slots := E p6 N S T U (Vv (.int (z.1 : Nat))) (Vv (.int (z.2 : Nat)))
    have m1 : frz (dCall d_L_moved none [dVar 2, dVar 5, dVar 6]) F = some (.d (Tu (exch s z.1 z.2)), F) := v_frzd (v_call (v_xs (v_Var rfl) (v_xs (v_Var rfl) (v_xs (v_Var rfl) v_xs0))) mv)
    have m2 : dCall d_L_moved none [dVar 2, dVar 5, dVar 6] F = some (.d (Tu (exch s z.1 z.2)), F) := v_call (v_xs (v_Var rfl) (v_xs (v_Var rfl) (v_xs (v_Var rfl) v_xs0))) mv
    have t1 : dOr (dNot (dCallI d_L_pair_right 0 [frz (dCall d_L_moved none [dVar 2, dVar 5, dVar 6]), dVar 2])) (dNot (dCallI d_L_pair_right 0 [dVar 2, frz (dCall d_L_moved none [dVar 2, dVar 5, dVar 6])])) F = some (.d (.bool false), F) :=
      v_orF (v_notT (v_callI rfl (v_xs m1 (v_xs (v_Var rfl) v_xs0)) rfl (e_pair pe hs n1 n9 p6) rfl)) (v_notT (v_callI rfl (v_xs (v_Var rfl) (v_xs m1 v_xs0)) rfl (e_pair hs pe n1 n9 p6) rfl))
    exact ⟨F, (Vv (.int (z.1 : Nat)), Vv (.int (z.2 : Nat))), rfl, v_sqN (v_sifF t1 v_sq0) v_sq0⟩
  have i5 : iSeq (frz (dCall d_L_wrong none [dVar 2])) (E p6 N S T U none none) = some ((wp s).map fun z : Nat × Nat => PyData.tuple [.int (z.1 : Nat), .int (z.2 : Nat)], E p6 N S T U none none) := v_seq (v_frzo (v_call (v_xs (v_Var rfl) v_xs0) (o_Lw hs n9))) rfl
  have oo := o_overP hs hs n1 n9 (x := Tu s) (y := Tu s) (.inl rfl) (.inl rfl)
  rw [(ovP_none hs hs).mpr ((low_iff hs hs).mpr low_refl)] at oo
  let G : Slots := E p6 N S T U o'.1 o'.2
  have c6 : dAnd (dCallI d_L_pair_right 0 [dVar 2, dVar 3]) (dAnd (dCallI d_L_pair_right 0 [dVar 3, dVar 2]) (dPrim pIs [.ex (frz (dCall d_over none [dVar 2, dVar 2])), .ex (dC .none)])) G = some (.d (.bool true), G) :=
    v_andT (v_callI rfl (v_xs (v_Var rfl) (v_xs (v_Var rfl) v_xs0)) rfl (e_pair hs ht n1 n9 p6) rfl) (v_andT (v_callI rfl (v_xs (v_Var rfl) (v_xs (v_Var rfl) v_xs0)) rfl (e_pair ht hs n1 n9 p6) rfl) (v_prim (v_osE (v_frzd (v_call (v_xs (v_Var rfl) (v_xs (v_Var rfl) v_xs0)) oo)) (v_osE v_C v_os0)) rfl))
  exact ⟨p6, v_fnI0 (e0 := [none, none, none, none, none, none]) rfl (v_sqN c1 (v_sqN c2 (v_sqN c3 (v_sqN (v_sifF c4 v_sq0) (v_sqN (v_for i5 c5) (v_sqR (v_ret c6))))))) rfl, hp6⟩
end
theorem keeps : Keeps 63 d_law := keepsH (N := 2) (pot := d_L_pot) (right := d_L_right) (by decide) rfl e_right rfl
end K25

namespace K25
open PySem L2 PySem.Spec PyProof.Rows
theorem all_mk {l : PySem.W.OpenLaw} {w : World} {K : PySem.W.Frag} {h : Heap} {mg : Str → Option Value} {fa : Addr} (X : K.In h) (G : h.Ns mainGlobals mg) (hfa : mg "law" = some (.ref fa))
    {f0 : Addr} {oc0 kV0 dc0 pm0 cd0 ct0 : Value} {od0 an0 : Option Addr} {sl0 : Array (Option Value)} {f1 : Addr} {oc1 kV1 dc1 pm1 cd1 ct1 : Value} {od1 an1 : Option Addr} {sl1 : Array (Option Value)} {f2 : Addr} {oc2 kV2 dc2 pm2 cd2 ct2 : Value} {od2 an2 : Option Addr} {sl2 : Array (Option Value)} {f3 : Addr} {oc3 kV3 dc3 pm3 cd3 ct3 : Value} {od3 an3 : Option Addr} {sl3 : Array (Option Value)} {f4 : Addr} {oc4 kV4 dc4 pm4 cd4 ct4 : Value} {od4 an4 : Option Addr} {sl4 : Array (Option Value)} {f5 : Addr} {oc5 kV5 dc5 pm5 cd5 ct5 : Value} {od5 an5 : Option Addr} {sl5 : Array (Option Value)} {f6 : Addr} {oc6 kV6 dc6 pm6 cd6 ct6 : Value} {od6 an6 : Option Addr} {sl6 : Array (Option Value)} {f7 : Addr} {oc7 kV7 dc7 pm7 cd7 ct7 : Value} {od7 an7 : Option Addr} {sl7 : Array (Option Value)} {f8 : Addr} {oc8 kV8 dc8 pm8 cd8 ct8 : Value} {od8 an8 : Option Addr} {sl8 : Array (Option Value)} {f9 : Addr} {oc9 kV9 dc9 pm9 cd9 ct9 : Value} {od9 an9 : Option Addr} {sl9 : Array (Option Value)} {f10 : Addr} {oc10 kV10 dc10 pm10 cd10 ct10 : Value} {od10 an10 : Option Addr} {sl10 : Array (Option Value)} {f11 : Addr} {oc11 kV11 dc11 pm11 cd11 ct11 : Value} {od11 an11 : Option Addr} {sl11 : Array (Option Value)} {f12 : Addr} {oc12 kV12 dc12 pm12 cd12 ct12 : Value} {od12 an12 : Option Addr} {sl12 : Array (Option Value)} {f13 : Addr} {oc13 kV13 dc13 pm13 cd13 ct13 : Value} {od13 an13 : Option Addr} {sl13 : Array (Option Value)} {f14 : Addr} {oc14 kV14 dc14 pm14 cd14 ct14 : Value} {od14 an14 : Option Addr} {sl14 : Array (Option Value)} {f15 : Addr} {oc15 kV15 dc15 pm15 cd15 ct15 : Value} {od15 an15 : Option Addr} {sl15 : Array (Option Value)} {f16 : Addr} {oc16 kV16 dc16 pm16 cd16 ct16 : Value} {od16 an16 : Option Addr} {sl16 : Array (Option Value)} {f17 : Addr} {oc17 kV17 dc17 pm17 cd17 ct17 : Value} {od17 an17 : Option Addr} {sl17 : Array (Option Value)} {f18 : Addr} {oc18 kV18 dc18 pm18 cd18 ct18 : Value} {od18 an18 : Option Addr} {sl18 : Array (Option Value)} {f19 : Addr} {oc19 kV19 dc19 pm19 cd19 ct19 : Value} {od19 an19 : Option Addr} {sl19 : Array (Option Value)} {f20 : Addr} {oc20 kV20 dc20 pm20 cd20 ct20 : Value} {od20 an20 : Option Addr} {sl20 : Array (Option Value)} {f21 : Addr} {oc21 kV21 dc21 pm21 cd21 ct21 : Value} {od21 an21 : Option Addr} {sl21 : Array (Option Value)} {f22 : Addr} {oc22 kV22 dc22 pm22 cd22 ct22 : Value} {od22 an22 : Option Addr} {sl22 : Array (Option Value)} {f23 : Addr} {oc23 kV23 dc23 pm23 cd23 ct23 : Value} {od23 an23 : Option Addr} {sl23 : Array (Option Value)} {f24 : Addr} {oc24 kV24 dc24 pm24 cd24 ct24 : Value} {od24 an24 : Option Addr} {sl24 : Array (Option Value)} {f25 : Addr} {oc25 kV25 dc25 pm25 cd25 ct25 : Value} {od25 an25 : Option Addr} {sl25 : Array (Option Value)} {f26 : Addr} {oc26 kV26 dc26 pm26 cd26 ct26 : Value} {od26 an26 : Option Addr} {sl26 : Array (Option Value)} {f27 : Addr} {oc27 kV27 dc27 pm27 cd27 ct27 : Value} {od27 an27 : Option Addr} {sl27 : Array (Option Value)} {f28 : Addr} {oc28 kV28 dc28 pm28 cd28 ct28 : Value} {od28 an28 : Option Addr} {sl28 : Array (Option Value)} {f29 : Addr} {oc29 kV29 dc29 pm29 cd29 ct29 : Value} {od29 an29 : Option Addr} {sl29 : Array (Option Value)} {f30 : Addr} {oc30 kV30 dc30 pm30 cd30 ct30 : Value} {od30 an30 : Option Addr} {sl30 : Array (Option Value)} {f31 : Addr} {oc31 kV31 dc31 pm31 cd31 ct31 : Value} {od31 an31 : Option Addr} {sl31 : Array (Option Value)} {f32 : Addr} {oc32 kV32 dc32 pm32 cd32 ct32 : Value} {od32 an32 : Option Addr} {sl32 : Array (Option Value)} {t_MOST_THINGS : Tok}
    (a0 : PySem.W.nsIn K mainGlobals "is_integer" = some (some (.ref f0))) (l0 : K.lookup f0 = some ⟨oc0, od0, .func (PySem.W.fnOf "is_integer" "is_integer" (defArgs s_is_integer) (defBody s_is_integer) (defScope s_is_integer) .none kV0 dc0 pm0 an0 cd0 ct0), sl0⟩) (c0 : PySem.W.codeIn K cd0 "is_integer" = true) (k0 : PySem.W.keepIn K (.ref f0) = true)
    (a1 : PySem.W.nsIn K mainGlobals "is_count" = some (some (.ref f1))) (l1 : K.lookup f1 = some ⟨oc1, od1, .func (PySem.W.fnOf "is_count" "is_count" (defArgs s_is_count) (defBody s_is_count) (defScope s_is_count) .none kV1 dc1 pm1 an1 cd1 ct1), sl1⟩) (c1 : PySem.W.codeIn K cd1 "is_count" = true) (k1 : PySem.W.keepIn K (.ref f1) = true)
    (a2 : PySem.W.nsIn K mainGlobals "is_list" = some (some (.ref f2))) (l2 : K.lookup f2 = some ⟨oc2, od2, .func (PySem.W.fnOf "is_list" "is_list" (defArgs s_is_list) (defBody s_is_list) (defScope s_is_list) .none kV2 dc2 pm2 an2 cd2 ct2), sl2⟩) (c2 : PySem.W.codeIn K cd2 "is_list" = true) (k2 : PySem.W.keepIn K (.ref f2) = true)
    (a3 : PySem.W.nsIn K mainGlobals "is_order" = some (some (.ref f3))) (l3 : K.lookup f3 = some ⟨oc3, od3, .func (PySem.W.fnOf "is_order" "is_order" (defArgs s_is_order) (defBody s_is_order) (defScope s_is_order) .none kV3 dc3 pm3 an3 cd3 ct3), sl3⟩) (c3 : PySem.W.codeIn K cd3 "is_order" = true) (k3 : PySem.W.keepIn K (.ref f3) = true)
    (a4 : PySem.W.nsIn K mainGlobals "want_order" = some (some (.ref f4))) (l4 : K.lookup f4 = some ⟨oc4, od4, .func (PySem.W.fnOf "want_order" "want_order" (defArgs s_want_order) (defBody s_want_order) (defScope s_want_order) .none kV4 dc4 pm4 an4 cd4 ct4), sl4⟩) (c4 : PySem.W.codeIn K cd4 "want_order" = true) (k4 : PySem.W.keepIn K (.ref f4) = true)
    (a5 : PySem.W.nsIn K mainGlobals "want_alike" = some (some (.ref f5))) (l5 : K.lookup f5 = some ⟨oc5, od5, .func (PySem.W.fnOf "want_alike" "want_alike" (defArgs s_want_alike) (defBody s_want_alike) (defScope s_want_alike) .none kV5 dc5 pm5 an5 cd5 ct5), sl5⟩) (c5 : PySem.W.codeIn K cd5 "want_alike" = true) (k5 : PySem.W.keepIn K (.ref f5) = true)
    (a6 : PySem.W.nsIn K mainGlobals "is_lower" = some (some (.ref f6))) (l6 : K.lookup f6 = some ⟨oc6, od6, .func (PySem.W.fnOf "is_lower" "is_lower" (defArgs s_is_lower) (defBody s_is_lower) (defScope s_is_lower) .none kV6 dc6 pm6 an6 cd6 ct6), sl6⟩) (c6 : PySem.W.codeIn K cd6 "is_lower" = true) (k6 : PySem.W.keepIn K (.ref f6) = true)
    (a7 : PySem.W.nsIn K mainGlobals "want_two" = some (some (.ref f7))) (l7 : K.lookup f7 = some ⟨oc7, od7, .func (PySem.W.fnOf "want_two" "want_two" (defArgs s_want_two) (defBody s_want_two) (defScope s_want_two) .none kV7 dc7 pm7 an7 cd7 ct7), sl7⟩) (c7 : PySem.W.codeIn K cd7 "want_two" = true) (k7 : PySem.W.keepIn K (.ref f7) = true)
    (a8 : PySem.W.nsIn K mainGlobals "is_below" = some (some (.ref f8))) (l8 : K.lookup f8 = some ⟨oc8, od8, .func (PySem.W.fnOf "is_below" "is_below" (defArgs s_is_below) (defBody s_is_below) (defScope s_is_below) .none kV8 dc8 pm8 an8 cd8 ct8), sl8⟩) (c8 : PySem.W.codeIn K cd8 "is_below" = true) (k8 : PySem.W.keepIn K (.ref f8) = true)
    (a9 : PySem.W.nsIn K mainGlobals "is_corner" = some (some (.ref f9))) (l9 : K.lookup f9 = some ⟨oc9, od9, .func (PySem.W.fnOf "is_corner" "is_corner" (defArgs s_is_corner) (defBody s_is_corner) (defScope s_is_corner) .none kV9 dc9 pm9 an9 cd9 ct9), sl9⟩) (c9 : PySem.W.codeIn K cd9 "is_corner" = true) (k9 : PySem.W.keepIn K (.ref f9) = true)
    (a10 : PySem.W.nsIn K mainGlobals "want_corner" = some (some (.ref f10))) (l10 : K.lookup f10 = some ⟨oc10, od10, .func (PySem.W.fnOf "want_corner" "want_corner" (defArgs s_want_corner) (defBody s_want_corner) (defScope s_want_corner) .none kV10 dc10 pm10 an10 cd10 ct10), sl10⟩) (c10 : PySem.W.codeIn K cd10 "want_corner" = true) (k10 : PySem.W.keepIn K (.ref f10) = true)
    (a11 : PySem.W.nsIn K mainGlobals "count_of" = some (some (.ref f11))) (l11 : K.lookup f11 = some ⟨oc11, od11, .func (PySem.W.fnOf "count_of" "count_of" (defArgs s_count_of) (defBody s_count_of) (defScope s_count_of) .none kV11 dc11 pm11 an11 cd11 ct11), sl11⟩) (c11 : PySem.W.codeIn K cd11 "count_of" = true) (k11 : PySem.W.keepIn K (.ref f11) = true)
    (a12 : PySem.W.nsIn K mainGlobals "counted" = some (some (.ref f12))) (l12 : K.lookup f12 = some ⟨oc12, od12, .func (PySem.W.fnOf "counted" "counted" (defArgs s_counted) (defBody s_counted) (defScope s_counted) .none kV12 dc12 pm12 an12 cd12 ct12), sl12⟩) (c12 : PySem.W.codeIn K cd12 "counted" = true) (k12 : PySem.W.keepIn K (.ref f12) = true)
    (a13 : PySem.W.nsIn K mainGlobals "table_of" = some (some (.ref f13))) (l13 : K.lookup f13 = some ⟨oc13, od13, .func (PySem.W.fnOf "table_of" "table_of" (defArgs s_table_of) (defBody s_table_of) (defScope s_table_of) .none kV13 dc13 pm13 an13 cd13 ct13), sl13⟩) (c13 : PySem.W.codeIn K cd13 "table_of" = true) (k13 : PySem.W.keepIn K (.ref f13) = true)
    (a14 : PySem.W.nsIn K mainGlobals "corner_table" = some (some (.ref f14))) (l14 : K.lookup f14 = some ⟨oc14, od14, .func (PySem.W.fnOf "corner_table" "corner_table" (defArgs s_corner_table) (defBody s_corner_table) (defScope s_corner_table) .none kV14 dc14 pm14 an14 cd14 ct14), sl14⟩) (c14 : PySem.W.codeIn K cd14 "corner_table" = true) (k14 : PySem.W.keepIn K (.ref f14) = true)
    (a15 : PySem.W.nsIn K mainGlobals "first_over" = some (some (.ref f15))) (l15 : K.lookup f15 = some ⟨oc15, od15, .func (PySem.W.fnOf "first_over" "first_over" (defArgs s_first_over) (defBody s_first_over) (defScope s_first_over) .none kV15 dc15 pm15 an15 cd15 ct15), sl15⟩) (c15 : PySem.W.codeIn K cd15 "first_over" = true) (k15 : PySem.W.keepIn K (.ref f15) = true)
    (a16 : PySem.W.nsIn K mainGlobals "over" = some (some (.ref f16))) (l16 : K.lookup f16 = some ⟨oc16, od16, .func (PySem.W.fnOf "over" "over" (defArgs s_over) (defBody s_over) (defScope s_over) .none kV16 dc16 pm16 an16 cd16 ct16), sl16⟩) (c16 : PySem.W.codeIn K cd16 "over" = true) (k16 : PySem.W.keepIn K (.ref f16) = true)
    (a17 : PySem.W.nsIn K mainGlobals "_law_pot" = some (some (.ref f17))) (l17 : K.lookup f17 = some ⟨oc17, od17, .func (PySem.W.fnOf "_law_pot" "_law_pot" (defArgs s_L_pot) (defBody s_L_pot) (defScope s_L_pot) .none kV17 dc17 pm17 an17 cd17 ct17), sl17⟩) (c17 : PySem.W.codeIn K cd17 "_law_pot" = true) (k17 : PySem.W.keepIn K (.ref f17) = true)
    (a18 : PySem.W.nsIn K mainGlobals "_law_draw" = some (some (.ref f18))) (l18 : K.lookup f18 = some ⟨oc18, od18, .func (PySem.W.fnOf "_law_draw" "_law_draw" (defArgs s_L_draw) (defBody s_L_draw) (defScope s_L_draw) .none kV18 dc18 pm18 an18 cd18 ct18), sl18⟩) (c18 : PySem.W.codeIn K cd18 "_law_draw" = true) (k18 : PySem.W.keepIn K (.ref f18) = true)
    (a19 : PySem.W.nsIn K mainGlobals "_law_pick" = some (some (.ref f19))) (l19 : K.lookup f19 = some ⟨oc19, od19, .func (PySem.W.fnOf "_law_pick" "_law_pick" (defArgs s_L_pick) (defBody s_L_pick) (defScope s_L_pick) .none kV19 dc19 pm19 an19 cd19 ct19), sl19⟩) (c19 : PySem.W.codeIn K cd19 "_law_pick" = true) (k19 : PySem.W.keepIn K (.ref f19) = true)
    (a20 : PySem.W.nsIn K mainGlobals "_law_mixed" = some (some (.ref f20))) (l20 : K.lookup f20 = some ⟨oc20, od20, .func (PySem.W.fnOf "_law_mixed" "_law_mixed" (defArgs s_L_mixed) (defBody s_L_mixed) (defScope s_L_mixed) .none kV20 dc20 pm20 an20 cd20 ct20), sl20⟩) (c20 : PySem.W.codeIn K cd20 "_law_mixed" = true) (k20 : PySem.W.keepIn K (.ref f20) = true)
    (a21 : PySem.W.nsIn K mainGlobals "_law_order" = some (some (.ref f21))) (l21 : K.lookup f21 = some ⟨oc21, od21, .func (PySem.W.fnOf "_law_order" "_law_order" (defArgs s_L_order) (defBody s_L_order) (defScope s_L_order) .none kV21 dc21 pm21 an21 cd21 ct21), sl21⟩) (c21 : PySem.W.codeIn K cd21 "_law_order" = true) (k21 : PySem.W.keepIn K (.ref f21) = true)
    (a22 : PySem.W.nsIn K mainGlobals "_law_as" = some (some (.ref f22))) (l22 : K.lookup f22 = some ⟨oc22, od22, .func (PySem.W.fnOf "_law_as" "_law_as" (defArgs s_L_as) (defBody s_L_as) (defScope s_L_as) .none kV22 dc22 pm22 an22 cd22 ct22), sl22⟩) (c22 : PySem.W.codeIn K cd22 "_law_as" = true) (k22 : PySem.W.keepIn K (.ref f22) = true)
    (a23 : PySem.W.nsIn K mainGlobals "_law_moved" = some (some (.ref f23))) (l23 : K.lookup f23 = some ⟨oc23, od23, .func (PySem.W.fnOf "_law_moved" "_law_moved" (defArgs s_L_moved) (defBody s_L_moved) (defScope s_L_moved) .none kV23 dc23 pm23 an23 cd23 ct23), sl23⟩) (c23 : PySem.W.codeIn K cd23 "_law_moved" = true) (k23 : PySem.W.keepIn K (.ref f23) = true)
    (a24 : PySem.W.nsIn K mainGlobals "_law_wrong" = some (some (.ref f24))) (l24 : K.lookup f24 = some ⟨oc24, od24, .func (PySem.W.fnOf "_law_wrong" "_law_wrong" (defArgs s_L_wrong) (defBody s_L_wrong) (defScope s_L_wrong) .none kV24 dc24 pm24 an24 cd24 ct24), sl24⟩) (c24 : PySem.W.codeIn K cd24 "_law_wrong" = true) (k24 : PySem.W.keepIn K (.ref f24) = true)
    (a25 : PySem.W.nsIn K mainGlobals "_law_count" = some (some (.ref f25))) (l25 : K.lookup f25 = some ⟨oc25, od25, .func (PySem.W.fnOf "_law_count" "_law_count" (defArgs s_L_count) (defBody s_L_count) (defScope s_L_count) .none kV25 dc25 pm25 an25 cd25 ct25), sl25⟩) (c25 : PySem.W.codeIn K cd25 "_law_count" = true) (k25 : PySem.W.keepIn K (.ref f25) = true)
    (a26 : PySem.W.nsIn K mainGlobals "_law_corners" = some (some (.ref f26))) (l26 : K.lookup f26 = some ⟨oc26, od26, .func (PySem.W.fnOf "_law_corners" "_law_corners" (defArgs s_L_corners) (defBody s_L_corners) (defScope s_L_corners) .none kV26 dc26 pm26 an26 cd26 ct26), sl26⟩) (c26 : PySem.W.codeIn K cd26 "_law_corners" = true) (k26 : PySem.W.keepIn K (.ref f26) = true)
    (a27 : PySem.W.nsIn K mainGlobals "_law_table" = some (some (.ref f27))) (l27 : K.lookup f27 = some ⟨oc27, od27, .func (PySem.W.fnOf "_law_table" "_law_table" (defArgs s_L_table) (defBody s_L_table) (defScope s_L_table) .none kV27 dc27 pm27 an27 cd27 ct27), sl27⟩) (c27 : PySem.W.codeIn K cd27 "_law_table" = true) (k27 : PySem.W.keepIn K (.ref f27) = true)
    (a28 : PySem.W.nsIn K mainGlobals "_law_over" = some (some (.ref f28))) (l28 : K.lookup f28 = some ⟨oc28, od28, .func (PySem.W.fnOf "_law_over" "_law_over" (defArgs s_L_over) (defBody s_L_over) (defScope s_L_over) .none kV28 dc28 pm28 an28 cd28 ct28), sl28⟩) (c28 : PySem.W.codeIn K cd28 "_law_over" = true) (k28 : PySem.W.keepIn K (.ref f28) = true)
    (a29 : PySem.W.nsIn K mainGlobals "_law_table_right" = some (some (.ref f29))) (l29 : K.lookup f29 = some ⟨oc29, od29, .func (PySem.W.fnOf "_law_table_right" "_law_table_right" (defArgs s_L_table_right) (defBody s_L_table_right) (defScope s_L_table_right) .none kV29 dc29 pm29 an29 cd29 ct29), sl29⟩) (c29 : PySem.W.codeIn K cd29 "_law_table_right" = true) (k29 : PySem.W.keepIn K (.ref f29) = true)
    (a30 : PySem.W.nsIn K mainGlobals "_law_pair_right" = some (some (.ref f30))) (l30 : K.lookup f30 = some ⟨oc30, od30, .func (PySem.W.fnOf "_law_pair_right" "_law_pair_right" (defArgs s_L_pair_right) (defBody s_L_pair_right) (defScope s_L_pair_right) .none kV30 dc30 pm30 an30 cd30 ct30), sl30⟩) (c30 : PySem.W.codeIn K cd30 "_law_pair_right" = true) (k30 : PySem.W.keepIn K (.ref f30) = true)
    (a31 : PySem.W.nsIn K mainGlobals "_law_right" = some (some (.ref f31))) (l31 : K.lookup f31 = some ⟨oc31, od31, .func (PySem.W.fnOf "_law_right" "_law_right" (defArgs s_L_right) (defBody s_L_right) (defScope s_L_right) .none kV31 dc31 pm31 an31 cd31 ct31), sl31⟩) (c31 : PySem.W.codeIn K cd31 "_law_right" = true) (k31 : PySem.W.keepIn K (.ref f31) = true)
    (a32 : PySem.W.nsIn K mainGlobals "law" = some (some (.ref f32))) (l32 : K.lookup f32 = some ⟨oc32, od32, .func (PySem.W.fnOf "law" "law" (defArgs s_law) (defBody s_law) (defScope s_law) .none kV32 dc32 pm32 an32 cd32 ct32), sl32⟩) (c32 : PySem.W.codeIn K cd32 "law" = true) (k32 : PySem.W.keepIn K (.ref f32) = true)
    (q_MOST_THINGS : PySem.W.nsIn K mainGlobals "MOST_THINGS" = some (some (.int 9 t_MOST_THINGS)))
    (z_abs : PySem.W.nsIn K mainGlobals "abs" = some none)
    (z_all : PySem.W.nsIn K mainGlobals "all" = some none)
    (z_any : PySem.W.nsIn K mainGlobals "any" = some none)
    (z_bool : PySem.W.nsIn K mainGlobals "bool" = some none)
    (z_divmod : PySem.W.nsIn K mainGlobals "divmod" = some none)
    (z_enumerate : PySem.W.nsIn K mainGlobals "enumerate" = some none)
    (z_int : PySem.W.nsIn K mainGlobals "int" = some none)
    (z_isinstance : PySem.W.nsIn K mainGlobals "isinstance" = some none)
    (z_len : PySem.W.nsIn K mainGlobals "len" = some none)
    (z_list : PySem.W.nsIn K mainGlobals "list" = some none)
    (z_max : PySem.W.nsIn K mainGlobals "max" = some none)
    (z_min : PySem.W.nsIn K mainGlobals "min" = some none)
    (z_range : PySem.W.nsIn K mainGlobals "range" = some none)
    (z_repr : PySem.W.nsIn K mainGlobals "repr" = some none)
    (z_sorted : PySem.W.nsIn K mainGlobals "sorted" = some none)
    (z_sum : PySem.W.nsIn K mainGlobals "sum" = some none)
    (z_tuple : PySem.W.nsIn K mainGlobals "tuple" = some none)
    (z_zip : PySem.W.nsIn K mainGlobals "zip" = some none)
    : ∃ fd : FuncData, (∀ (s : Shared) (v : Value), BindsTo s fd ⟨[v], []⟩ [("_law_script", v)]) ∧ ∀ base : Heap, K.In base → base.Ns mainGlobals mg → FnG l.prog w K mg base 8 fa fd ["_law_script"] (sp0 K 1 d_law) := by
  have e := hfa.symm.trans (PySem.W.mg_of X G a32)
  cases e
  have T : Txt K mg := ⟨⟨_, PySem.W.mg_of X G q_MOST_THINGS⟩, PySem.W.mg_none_of X G z_abs, PySem.W.mg_none_of X G z_all, PySem.W.mg_none_of X G z_any, PySem.W.mg_none_of X G z_bool, PySem.W.mg_none_of X G z_divmod, PySem.W.mg_none_of X G z_enumerate, PySem.W.mg_none_of X G z_int, PySem.W.mg_none_of X G z_isinstance, PySem.W.mg_none_of X G z_len, PySem.W.mg_none_of X G z_list, PySem.W.mg_none_of X G z_max, PySem.W.mg_none_of X G z_min, PySem.W.mg_none_of X G z_range, PySem.W.mg_none_of X G z_repr, PySem.W.mg_none_of X G z_sorted, PySem.W.mg_none_of X G z_sum, PySem.W.mg_none_of X G z_tuple, PySem.W.mg_none_of X G z_zip⟩
  refine ⟨PySem.W.fnOf "law" "law" (defArgs s_law) (defBody s_law) (defScope s_law) .none kV32 dc32 pm32 an32 cd32 ct32, fun s v => .of_eq rfl, fun base _ _ => ?_⟩
  have X_is_integer : Fx l.prog w K mg base 1 "is_integer" P_is_integer kb_is_integer (spF K false 1 d_is_integer) := ⟨⟨f0, _, ok_is_integer l0 c0 T , PySem.W.mg_of X G a0, k0, (fun us hl => match us, hl with | [_], _ => rfl), True.intro⟩⟩
  have X_is_count : Fx l.prog w K mg base 2 "is_count" P_is_count kb_is_count (spF K false 1 d_is_count) := ⟨⟨f1, _, ok_is_count l1 c1 T X_is_integer, PySem.W.mg_of X G a1, k1, (fun us hl => match us, hl with | [_], _ => rfl), True.intro⟩⟩
  have X_is_list : Fx l.prog w K mg base 1 "is_list" P_is_list kb_is_list (spF K false 1 d_is_list) := ⟨⟨f2, _, ok_is_list l2 c2 T , PySem.W.mg_of X G a2, k2, (fun us hl => match us, hl with | [_], _ => rfl), True.intro⟩⟩
  have X_is_order : Fx l.prog w K mg base 2 "is_order" P_is_order kb_is_order (spF K false 1 d_is_order) := ⟨⟨f3, _, ok_is_order l3 c3 T X_is_list X_is_integer, PySem.W.mg_of X G a3, k3, (fun us hl => match us, hl with | [_], _ => rfl), True.intro⟩⟩
  have X_want_order : Fx l.prog w K mg base 3 "want_order" P_want_order kb_want_order (spF K false 1 d_want_order) := ⟨⟨f4, _, ok_want_order l4 c4 T X_is_order, PySem.W.mg_of X G a4, k4, (fun us hl => match us, hl with | [_], _ => rfl), True.intro⟩⟩
  have X_want_alike : Fx l.prog w K mg base 1 "want_alike" P_want_alike kb_want_alike (spF K false 2 d_want_alike) := ⟨⟨f5, _, ok_want_alike l5 c5 T , PySem.W.mg_of X G a5, k5, (fun us hl => match us, hl with | [_, _], _ => rfl), True.intro⟩⟩
  have X_is_lower : Fx l.prog w K mg base 1 "is_lower" P_is_lower kb_is_lower (spF K false 2 d_is_lower) := ⟨⟨f6, _, ok_is_lower l6 c6 T , PySem.W.mg_of X G a6, k6, (fun us hl => match us, hl with | [_, _], _ => rfl), True.intro⟩⟩
  have X_want_two : Fx l.prog w K mg base 4 "want_two" P_want_two kb_want_two (spF K false 2 d_want_two) := ⟨⟨f7, _, ok_want_two l7 c7 T X_want_order X_want_alike, PySem.W.mg_of X G a7, k7, (fun us hl => match us, hl with | [_, _], _ => rfl), True.intro⟩⟩
  have X_is_below : Fx l.prog w K mg base 5 "is_below" P_is_below kb_is_below (spF K false 2 d_is_below) := ⟨⟨f8, _, ok_is_below l8 c8 T X_want_two X_is_lower, PySem.W.mg_of X G a8, k8, (fun us hl => match us, hl with | [_, _], _ => rfl), True.intro⟩⟩
  have X_is_corner : Fx l.prog w K mg base 3 "is_corner" P_is_corner kb_is_corner (spF K false 2 d_is_corner) := ⟨⟨f9, _, ok_is_corner l9 c9 T X_is_count, PySem.W.mg_of X G a9, k9, (fun us hl => match us, hl with | [_, _], _ => rfl), True.intro⟩⟩
  have X_want_corner : Fx l.prog w K mg base 4 "want_corner" P_want_corner kb_want_corner (spF K false 2 d_want_corner) := ⟨⟨f10, _, ok_want_corner l10 c10 T X_is_corner, PySem.W.mg_of X G a10, k10, (fun us hl => match us, hl with | [_, _], _ => rfl), True.intro⟩⟩
  have X_count_of : Fx l.prog w K mg base 1 "count_of" P_count_of kb_count_of (spF K false 2 d_count_of) := ⟨⟨f11, _, ok_count_of l11 c11 T , PySem.W.mg_of X G a11, k11, (fun us hl => match us, hl with | [_, _], _ => rfl), True.intro⟩⟩
  have X_counted : Fx l.prog w K mg base 5 "counted" P_counted kb_counted (spF K false 2 d_counted) := ⟨⟨f12, _, ok_counted l12 c12 T X_want_order X_want_corner X_count_of, PySem.W.mg_of X G a12, k12, (fun us hl => match us, hl with | [_, _], _ => rfl), (fun us ws h1 h2 => match us, ws, h1, h2 with | [], [_, _], _, _ => rfl)⟩⟩
  have X_table_of : Fx l.prog w K mg base 1 "table_of" P_table_of kb_table_of (spF K false 1 d_table_of) := ⟨⟨f13, _, ok_table_of l13 c13 T , PySem.W.mg_of X G a13, k13, (fun us hl => match us, hl with | [_], _ => rfl), True.intro⟩⟩
  have X_corner_table : Fx l.prog w K mg base 4 "corner_table" P_corner_table kb_corner_table (spF K false 1 d_corner_table) := ⟨⟨f14, _, ok_corner_table l14 c14 T X_table_of X_want_order, PySem.W.mg_of X G a14, k14, (fun us hl => match us, hl with | [_], _ => rfl), (fun us ws h1 h2 => match us, ws, h1, h2 with | [], [_], _, _ => rfl)⟩⟩
  have X_first_over : Fx l.prog w K mg base 2 "first_over" P_first_over kb_first_over (spF K false 2 d_first_over) := ⟨⟨f15, _, ok_first_over l15 c15 T X_table_of, PySem.W.mg_of X G a15, k15, (fun us hl => match us, hl with | [_, _], _ => rfl), True.intro⟩⟩
  have X_over : Fx l.prog w K mg base 5 "over" P_over kb_over (spF K false 2 d_over) := ⟨⟨f16, _, ok_over l16 c16 T X_want_two X_first_over, PySem.W.mg_of X G a16, k16, (fun us hl => match us, hl with | [_, _], _ => rfl), (fun us ws h1 h2 => match us, ws, h1, h2 with | [], [_, _], _, _ => rfl)⟩⟩
  have X_L_pot : Fx l.prog w K mg base 1 "_law_pot" P_L_pot kb_L_pot (spF K false 2 d_L_pot) := ⟨⟨f17, _, ok_L_pot l17 c17 T , PySem.W.mg_of X G a17, k17, (fun us hl => match us, hl with | [_, _], _ => rfl), True.intro⟩⟩
  have X_L_draw : Fx l.prog w K mg base 1 "_law_draw" P_L_draw kb_L_draw (spF K true 2 d_L_draw) := ⟨⟨f18, _, ok_L_draw l18 c18 T , PySem.W.mg_of X G a18, k18, (fun us hl => match us, hl with | [_, _], _ => rfl), True.intro⟩⟩
  have X_L_pick : Fx l.prog w K mg base 2 "_law_pick" P_L_pick kb_L_pick (spF K true 2 d_L_pick) := ⟨⟨f19, _, ok_L_pick l19 c19 T X_L_draw, PySem.W.mg_of X G a19, k19, (fun us hl => match us, hl with | [_, _], _ => rfl), True.intro⟩⟩
  have X_L_mixed : Fx l.prog w K mg base 2 "_law_mixed" P_L_mixed kb_L_mixed (spF K true 2 d_L_mixed) := ⟨⟨f20, _, ok_L_mixed l20 c20 T X_L_draw, PySem.W.mg_of X G a20, k20, (fun us hl => match us, hl with | [_, _], _ => rfl), True.intro⟩⟩
  have X_L_order : Fx l.prog w K mg base 3 "_law_order" P_L_order kb_L_order (spF K true 2 d_L_order) := ⟨⟨f21, _, ok_L_order l21 c21 T X_L_draw X_L_pick X_L_mixed, PySem.W.mg_of X G a21, k21, (fun us hl => match us, hl with | [_, _], _ => rfl), True.intro⟩⟩
  have X_L_as : Fx l.prog w K mg base 2 "_law_as" P_L_as kb_L_as (spF K true 2 d_L_as) := ⟨⟨f22, _, ok_L_as l22 c22 T X_L_draw, PySem.W.mg_of X G a22, k22, (fun us hl => match us, hl with | [_, _], _ => rfl), True.intro⟩⟩
  have X_L_moved : Fx l.prog w K mg base 1 "_law_moved" P_L_moved kb_L_moved (spF K false 3 d_L_moved) := ⟨⟨f23, _, ok_L_moved l23 c23 T , PySem.W.mg_of X G a23, k23, (fun us hl => match us, hl with | [_, _, _], _ => rfl), True.intro⟩⟩
  have X_L_wrong : Fx l.prog w K mg base 1 "_law_wrong" P_L_wrong kb_L_wrong (spF K false 1 d_L_wrong) := ⟨⟨f24, _, ok_L_wrong l24 c24 T , PySem.W.mg_of X G a24, k24, (fun us hl => match us, hl with | [_], _ => rfl), True.intro⟩⟩
  have X_L_count : Fx l.prog w K mg base 1 "_law_count" P_L_count kb_L_count (spF K false 2 d_L_count) := ⟨⟨f25, _, ok_L_count l25 c25 T , PySem.W.mg_of X G a25, k25, (fun us hl => match us, hl with | [_, _], _ => rfl), True.intro⟩⟩
  have X_L_corners : Fx l.prog w K mg base 1 "_law_corners" P_L_corners kb_L_corners (spF K false 1 d_L_corners) := ⟨⟨f26, _, ok_L_corners l26 c26 T , PySem.W.mg_of X G a26, k26, (fun us hl => match us, hl with | [_], _ => rfl), True.intro⟩⟩
  have X_L_table : Fx l.prog w K mg base 2 "_law_table" P_L_table kb_L_table (spF K false 1 d_L_table) := ⟨⟨f27, _, ok_L_table l27 c27 T X_L_count, PySem.W.mg_of X G a27, k27, (fun us hl => match us, hl with | [_], _ => rfl), True.intro⟩⟩
  have X_L_over : Fx l.prog w K mg base 2 "_law_over" P_L_over kb_L_over (spF K false 2 d_L_over) := ⟨⟨f28, _, ok_L_over l28 c28 T X_L_corners X_L_count, PySem.W.mg_of X G a28, k28, (fun us hl => match us, hl with | [_, _], _ => rfl), True.intro⟩⟩
  have X_L_table_right : Fx l.prog w K mg base 6 "_law_table_right" P_L_table_right kb_L_table_right (spF K true 2 d_L_table_right) := ⟨⟨f29, _, ok_L_table_right l29 c29 T X_L_as X_corner_table X_L_table X_L_draw X_L_count X_counted, PySem.W.mg_of X G a29, k29, (fun us hl => match us, hl with | [_, _], _ => rfl), True.intro⟩⟩
  have X_L_pair_right : Fx l.prog w K mg base 6 "_law_pair_right" P_L_pair_right kb_L_pair_right (spF K true 3 d_L_pair_right) := ⟨⟨f30, _, ok_L_pair_right l30 c30 T X_L_over X_over X_is_below, PySem.W.mg_of X G a30, k30, (fun us hl => match us, hl with | [_, _, _], _ => rfl), True.intro⟩⟩
  have X_L_right : Fx l.prog w K mg base 7 "_law_right" P_L_right kb_L_right (spF K true 1 d_L_right) := ⟨⟨f31, _, ok_L_right l31 c31 T X_L_draw X_L_order X_L_mixed X_L_table_right X_L_wrong X_L_pair_right X_L_moved X_over, PySem.W.mg_of X G a31, k31, (fun us hl => match us, hl with | [_], _ => rfl), True.intro⟩⟩
  exact ok_law l32 c32 T X_L_right X_L_pot
theorem
      walk {l : PySem.W.OpenLaw} {q : Program} {loose : List Str} {XP : (Str → Option Value) → Heap → Prop} {YP : World → Heap → Prop} {d : DefRec} {K : Params → PySem.W.Frag} (hn : l.most = some 63) (hdf : d.params.defaults = [])
    (hY
          : ∀ (w : World) (h : Heap), YP w h → (K w.params).In h)
    (F
          : ∀ (w : World) (mg : Str → Option Value) (fa : Addr) (h : Heap), (K w.params).In h → h.Ns mainGlobals mg → mg d.name = some (.ref fa) →
      ∃ fd : FuncData, (∀ (s : Shared) (u : Value), BindsTo s fd ⟨[u], []⟩ [("_law_script", u)]) ∧ ∀ base : Heap, (K w.params).In base → base.Ns mainGlobals mg → FnG l.prog w (K w.params) mg base 8 fa fd ["_law_script"] (sp0 (K w.params) 1 d_law)) (law : Keeps 63 d_law) :
    PySem.W.WalkO
          q loose XP YP l.row.toRowW d [] (fun f vs => PySem.call f vs) :=
  L2.walk_ofG (n := 63) (k := 8) (x := "_law_script") hn (by decide) hdf ⟨rfl, by decide, by decide⟩ hY F law
end K25
open
      PySem PySem.W PyProof.Rows
set_option
      maxRecDepth 100000 in
set_option maxHeartbeats 0 in
theorem PySem.Challenge.cw_lowerboards_k25_whole_corners_counted_holds : PySem.Challenge.rw_lowerboards_k25_whole_corners_counted.Holds := by
  w_on;
        o_law; k_head; (case hw => w_witness2)
  k_fill
  refine K25.walk (l := PySem.Challenge.rw_lowerboards_k25_whole_corners_counted) rfl rfl (fun w h Y => PySem.W.kIn_of Y) ?F K25.keeps
  case F =>
    intro w mg fa h KX G hmg
    refine' K25.all_mk KX G hmg ?a0 ?l0 ?c0 ?k0 ?a1 ?l1 ?c1 ?k1 ?a2 ?l2 ?c2 ?k2 ?a3 ?l3 ?c3 ?k3 ?a4 ?l4 ?c4 ?k4 ?a5 ?l5 ?c5 ?k5 ?a6 ?l6 ?c6 ?k6 ?a7 ?l7 ?c7 ?k7 ?a8 ?l8 ?c8 ?k8 ?a9 ?l9 ?c9 ?k9 ?a10 ?l10 ?c10 ?k10 ?a11 ?l11 ?c11 ?k11 ?a12 ?l12 ?c12 ?k12 ?a13 ?l13 ?c13 ?k13 ?a14 ?l14 ?c14 ?k14 ?a15 ?l15 ?c15 ?k15 ?a16 ?l16 ?c16 ?k16 ?a17 ?l17 ?c17 ?k17 ?a18 ?l18 ?c18 ?k18 ?a19 ?l19 ?c19 ?k19 ?a20 ?l20 ?c20 ?k20 ?a21 ?l21 ?c21 ?k21 ?a22 ?l22 ?c22 ?k22 ?a23 ?l23 ?c23 ?k23 ?a24 ?l24 ?c24 ?k24 ?a25 ?l25 ?c25 ?k25 ?a26 ?l26 ?c26 ?k26 ?a27 ?l27 ?c27 ?k27 ?a28 ?l28 ?c28 ?k28 ?a29 ?l29 ?c29 ?k29 ?a30 ?l30 ?c30 ?k30 ?a31 ?l31 ?c31 ?k31 ?a32 ?l32 ?c32 ?k32 ?q_MOST_THINGS ?z_abs ?z_all ?z_any ?z_bool ?z_divmod ?z_enumerate ?z_int ?z_isinstance ?z_len ?z_list ?z_max ?z_min ?z_range ?z_repr ?z_sorted ?z_sum ?z_tuple ?z_zip
    (case a0 => k_is)
    (case l0 => k_is)
    (case c0 => k_is)
    (case k0 => k_is)
    (case a1 => k_is)
    (case l1 => k_is)
    (case c1 => k_is)
    (case k1 => k_is)
    (case a2 => k_is)
    (case l2 => k_is)
    (case c2 => k_is)
    (case k2 => k_is)
    (case a3 => k_is)
    (case l3 => k_is)
    (case c3 => k_is)
    (case k3 => k_is)
    (case a4 => k_is)
    (case l4 => k_is)
    (case c4 => k_is)
    (case k4 => k_is)
    (case a5 => k_is)
    (case l5 => k_is)
    (case c5 => k_is)
    (case k5 => k_is)
    (case a6 => k_is)
    (case l6 => k_is)
    (case c6 => k_is)
    (case k6 => k_is)
    (case a7 => k_is)
    (case l7 => k_is)
    (case c7 => k_is)
    (case k7 => k_is)
    (case a8 => k_is)
    (case l8 => k_is)
    (case c8 => k_is)
    (case k8 => k_is)
    (case a9 => k_is)
    (case l9 => k_is)
    (case c9 => k_is)
    (case k9 => k_is)
    (case a10 => k_is)
    (case l10 => k_is)
    (case c10 => k_is)
    (case k10 => k_is)
    (case a11 => k_is)
    (case l11 => k_is)
    (case c11 => k_is)
    (case k11 => k_is)
    (case a12 => k_is)
    (case l12 => k_is)
    (case c12 => k_is)
    (case k12 => k_is)
    (case a13 => k_is)
    (case l13 => k_is)
    (case c13 => k_is)
    (case k13 => k_is)
    (case a14 => k_is)
    (case l14 => k_is)
    (case c14 => k_is)
    (case k14 => k_is)
    (case a15 => k_is)
    (case l15 => k_is)
    (case c15 => k_is)
    (case k15 => k_is)
    (case a16 => k_is)
    (case l16 => k_is)
    (case c16 => k_is)
    (case k16 => k_is)
    (case a17 => k_is)
    (case l17 => k_is)
    (case c17 => k_is)
    (case k17 => k_is)
    (case a18 => k_is)
    (case l18 => k_is)
    (case c18 => k_is)
    (case k18 => k_is)
    (case a19 => k_is)
    (case l19 => k_is)
    (case c19 => k_is)
    (case k19 => k_is)
    (case a20 => k_is)
    (case l20 => k_is)
    (case c20 => k_is)
    (case k20 => k_is)
    (case a21 => k_is)
    (case l21 => k_is)
    (case c21 => k_is)
    (case k21 => k_is)
    (case a22 => k_is)
    (case l22 => k_is)
    (case c22 => k_is)
    (case k22 => k_is)
    (case a23 => k_is)
    (case l23 => k_is)
    (case c23 => k_is)
    (case k23 => k_is)
    (case a24 => k_is)
    (case l24 => k_is)
    (case c24 => k_is)
    (case k24 => k_is)
    (case a25 => k_is)
    (case l25 => k_is)
    (case c25 => k_is)
    (case k25 => k_is)
    (case a26 => k_is)
    (case l26 => k_is)
    (case c26 => k_is)
    (case k26 => k_is)
    (case a27 => k_is)
    (case l27 => k_is)
    (case c27 => k_is)
    (case k27 => k_is)
    (case a28 => k_is)
    (case l28 => k_is)
    (case c28 => k_is)
    (case k28 => k_is)
    (case a29 => k_is)
    (case l29 => k_is)
    (case c29 => k_is)
    (case k29 => k_is)
    (case a30 => k_is)
    (case l30 => k_is)
    (case c30 => k_is)
    (case k30 => k_is)
    (case a31 => k_is)
    (case l31 => k_is)
    (case c31 => k_is)
    (case k31 => k_is)
    (case a32 => k_is)
    (case l32 => k_is)
    (case c32 => k_is)
    (case k32 => k_is)
    (case q_MOST_THINGS => k_is)
    (case z_abs => k_is)
    (case z_all => k_is)
    (case z_any => k_is)
    (case z_bool => k_is)
    (case z_divmod => k_is)
    (case z_enumerate => k_is)
    (case z_int => k_is)
    (case z_isinstance => k_is)
    (case z_len => k_is)
    (case z_list => k_is)
    (case z_max => k_is)
    (case z_min => k_is)
    (case z_range => k_is)
    (case z_repr => k_is)
    (case z_sorted => k_is)
    (case z_sum => k_is)
    (case z_tuple => k_is)
    (case z_zip => k_is)

