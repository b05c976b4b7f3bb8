import PyProof.Rows.All
import Wide.All
import OpenK.AllK
import Wide.FinOn
import HandS.ForMost
import HandS.ForExc
import HandS.More
import HandS.TupAny
import HandS.Walk
import KE.KDictPairs
import HandS.CallSlots
import HandS.TupLe
import HandS.Wide
import HandS.Rev
import HandS.IsInst
import HandS.RaiseMore
import KE.SortData
import KE.GoesEnum
import HandS.NoneIn
import HandS.Conv
import HandS.Iter
import PyProof.Rows.Range3
import HandS.Zip
import HandS.Text
import HandS.Defaults
import KE.KExcIs
import HandS.ExcIs
import HandS.Zip0
import KE.KDictZip
import HandS.Strs
import HandS.TryOnly
import HandS.TupMul
import HandS.ExcInit
import HandS.ExcField
import HandS.ExcValue
import KE.GoesZip
import KE.GoesMore
import PySem.Challenge.RW_stepledger_k03_bad_row
set_option Elab.async false
set_option linter.all false
noncomputable section
set_option maxRecDepth 100000
set_option maxHeartbeats 4000000
/-! tuples that are known to hold no names of their own: new ones are laid down as they stand -/
namespace M
open PySem PySem.Spec PyProof.Rows L2
/-- a tuple's object -/
abbrev tupO (us : List Value) : Obj := { cls := .type "tuple", data := .seq us.toArray }
theorem tup_ok {P : Program} {w : World} {H : Hp} {h : Heap} {a : Addr} {xs : List V} {us : List Value} (hz : xs.length ≤ sizeLine) (r : Vals xs us) (e : h.get? a = some (tupO us)) : ObjOk P w H h a (.frz (tupO us) (.tup xs)) :=
  ⟨e, hz, us, r, ⟨_, e, rfl, _, rfl⟩⟩
section
variable {X : Cx} {pos : Pos} {es : List Expr} {t : TA}
def tTupP (t : TA) : TE := fun σ H Q => t σ H fun xs H1 => xs.length ≤ sizeLine ∧ ∀ (p : Addr) (o : Obj), H1 p = none → o.dict = none → Q (.ref p) (upd H1 p (.frz o (.tup xs)))
theorem pe_tupP {x1} (h : PA X es t) : PE X (.Tuple es x1 pos) (tTupP t) := by
  refine ⟨fun pins s σ H Q I hq => ?_⟩
  refine wpAny_Tuple_spliced (thn (h.run pos pins s σ H _ I hq) fun us s1 ⟨xs, H1, I1, r, z, q⟩ => ⟨by rw [← r.length]; exact z, ?_⟩)
  have hf : H1 s1.heap.objs.size = none := I1.hok.fresh (Nat.le_refl _)
  refine ⟨.ref s1.heap.objs.size, upd H1 s1.heap.objs.size (.frz (tupO us) (.tup xs)), I1.laid (t' := s1.toks) (fun b u e => Heap.get?_push_of_some _ e) (Nat.le_refl _) ?_, rfl, q _ _ hf rfl⟩
  exact tup_ok z r (Heap.get?_push_size _ rfl)
def rSlAP (K : PySem.W.Frag) : V → Option Int → Option Int → Hp → VK → Prop := fun x lo hi H Q => ∃ a xs, x = .ref a ∧ SqT K H a xs ∧
  (HT.sIx xs.length 0 lo = 0 ∧ HT.sIx xs.length xs.length hi = xs.length → Q (.ref a) H) ∧ (¬ (HT.sIx xs.length 0 lo = 0 ∧ HT.sIx xs.length xs.length hi = xs.length) → ∀ (p : Addr) (o : Obj), H p = none → o.dict = none → Q (.ref p) (upd H p (.frz o (.tup (cutV xs lo hi)))))
theorem sl_tupAP : SlR X (rSlAP X.K) := by
  intro pins s σ H x v vl vu lo hi sl Q I rx hs pl pu h
  obtain ⟨a, xs, rfl, hx, q1, q2⟩ := h
  cases rx
  obtain ⟨its, r, ht, hz⟩ := I.tuple hx
  have hlen : its.toArray.size = xs.length := by rw [List.size_toArray]; exact r.length.symm
  refine ⟨"tuple", _, PyProof.Rows.slot_tuple_getitem.lookup, ht.typeIs, ?_⟩
  by_cases hw : HT.sIx xs.length 0 lo = 0 ∧ HT.sIx xs.length xs.length hi = xs.length
  · exact getItem_tuple_whole ht hs pl pu (by rw [hlen]; exact hw) ⟨.ref a, H, I, rfl, q1 hw⟩
  · refine HT.getItem_tuple_cut ht hs pl pu (by rw [hlen]; exact hw) ?_ (by rw [hlen]; exact hz)
    rw [hlen]
    exact ⟨.ref s.heap.objs.size, _, I.laid (t' := s.toks) (fun b ob q => Heap.get?_push_of_some _ q) (Nat.le_refl _) (tup_ok (Nat.le_trans (cutV_length xs lo hi) hz) ((r.drop (HT.sIx xs.length 0 lo)).take (HT.sIx xs.length xs.length hi - HT.sIx xs.length 0 lo)) (Heap.get?_push_size _ rfl)), rfl, q2 hw _ _ (I.hok.fresh (Nat.le_refl _)) rfl⟩
def rCatAP (K : PySem.W.Frag) : R2 := fun x y H Q => ∃ a b xs ys, x = .ref a ∧ y = .ref b ∧ SqT K H a xs ∧ SqT K H b ys ∧ xs.length + ys.length ≤ sizeLine ∧
  (xs = [] → Q (.ref b) H) ∧ (xs ≠ [] → ys = [] → Q (.ref a) H) ∧ (xs ≠ [] → ys ≠ [] → ∀ (p : Addr) (o : Obj), H p = none → o.dict = none → Q (.ref p) (upd H p (.frz o (.tup (xs ++ ys)))))
theorem op_catAP : OpR X (binaryOp .Add) (rCatAP X.K) := by
  intro pins s σ H x y v u Q I rx ry h
  obtain ⟨a, b, xs, ys, rfl, rfl, ha, hb, hz, q0, q1, q2⟩ := h
  cases rx
  cases ry
  obtain ⟨its, r1, p1, _⟩ := I.tuple ha
  obtain ⟨its2, r2, p2, _⟩ := I.tuple hb
  by_cases hx : xs = []
  · subst hx
    cases r1
    exact cat_tup0 p1 p2 ⟨.ref b, H, I, rfl, q0 rfl⟩
  · refine HT.cat_tup p1 p2 (fun z => hx (r1.nil_iff.mp z)) (fun z => ⟨.ref a, H, I, rfl, q1 hx (r2.nil_iff.mp z)⟩) (fun z => ?_) (by rw [← r1.length, ← r2.length]; exact hz)
    exact ⟨.ref s.heap.objs.size, _, I.laid (t' := s.toks) (fun b ob q => Heap.get?_push_of_some _ q) (Nat.le_refl _) (tup_ok (xs := xs ++ ys) (by rw [List.length_append]; exact hz) (r1.append r2) (Heap.get?_push_size _ rfl)), rfl, q2 hx (fun w => z (r2.nil_iff.mpr w)) _ _ (I.hok.fresh (Nat.le_refl _)) rfl⟩
def rTupP (K : PySem.W.Frag) : List V → Hp → VK → Prop := fun xs H Q => ∃ p ys, xs = [.ref p] ∧ ((SqL K H p ys ∧ ∀ (l : Addr) (o : Obj), H l = none → o.dict = none → Q (.ref l) (upd H l (.frz o (.tup ys)))) ∨ (SqT K H p ys ∧ Q (.ref p) H))
theorem call_tuple_ofP : CallR X (.type "tuple") (rTupP X.K) := by
  intro pins s σ H xs us Q I r h
  obtain ⟨p, ys, rfl, h⟩ := h
  obtain ⟨u, rfl, rx⟩ := vals1 r
  cases rx
  rcases h with ⟨hq, q⟩ | ⟨hq, q⟩
  · obtain ⟨its, r', pl, hz⟩ := I.list hq
    have hlen := r'.length
    refine call_tuple_list pl.isList (fun h' kp => ?_) (by simp only [List.size_toArray] <;> omega)
    have I1 : Inv X pins σ H { s with heap := h' } := I.kept (t' := s.toks) kp
    have I2 : Inv X pins σ (upd H h'.objs.size (.frz (tupO its) (.tup ys))) { s with heap := h'.push (tupO its) } :=
      I1.laid (t' := s.toks) (fun b o e => Heap.get?_push_of_some _ e) (Nat.le_refl _) (tup_ok hz r' (Heap.get?_push_size _ rfl))
    exact ⟨.ref h'.objs.size, _, I2, rfl, q _ _ (I1.hok.fresh (Nat.le_refl _)) rfl⟩
  · obtain ⟨its, r', pl, hz⟩ := I.tuple hq
    exact call_tuple_same pl ⟨.ref p, H, I, rfl, q⟩
end
/-! dict(tuple of pairs) -/
def PlT (K : PySem.W.Frag) (F : Hp) (a : Addr) : Prop := (∃ o xs, F a = some (.frz o (.tup xs)) ∧ o.dict = none) ∨ ∃ o, K.lookup a = some o ∧ o.dict = none
theorem PlT.mono {K : PySem.W.Frag} {F F' : Hp} {a : Addr} (e : Same F F') (h : PlT K F a) : PlT K F' a := by
  rcases h with ⟨o, xs, h1, h2⟩ | h
  · exact .inl ⟨o, xs, e _ _ h1, h2⟩
  · exact .inr h
section
variable {X : Cx} {pins : List (Addr × Obj)} {σ : L2.St} {H : Hp} {s : Shared}
theorem plain_of (I : Inv X pins σ H s) {a : Addr} {its : List Value} (t : IsTup s.heap a its.toArray) (p : PlT X.K H a) : PlainSeq "tuple" s.heap a its.toArray := by
  obtain ⟨o, ho, hc, n, hd⟩ := t
  refine ⟨o, n, ho, hc, ?_, hd⟩
  rcases p with ⟨o', xs, h1, h2⟩ | ⟨o', h1, h2⟩
  · have e : s.heap.get? a = some o' := (show ObjOk X.prog X.w H s.heap a (.frz o' (.tup xs)) from I.hok a _ h1).1
    rw [ho] at e; cases e; exact h2
  · have e := I.kIn a o' h1
    rw [ho] at e; cases e; exact h2
def rDictT (K : PySem.W.Frag) : List V → Hp → VK → Prop := fun xs H Q => ∃ (a : Addr) (ps : List Addr) (kvs : List (Key × V)), xs = [.ref a] ∧ SqT K H a (ps.map V.ref) ∧ PlT K H a ∧ Paired (fun p kv => SqT K H p [kV kv.1, kv.2]) ps kvs ∧
    ∀ p, H p = none → Q (.ref p) (upd H p (.dK (mergeK [] kvs)))
theorem call_dictT (hcalm : X.calm = true) : CallR X (.type "dict") (rDictT X.K) := by
  intro pins s σ H xs us Q I r q
  obtain ⟨a, ps, kvs, ex, hq, hpl, hp, q⟩ := q
  subst ex
  obtain ⟨u, eu, rx⟩ := vals1 r
  subst eu
  cases rx
  obtain ⟨its, rv, pl, hz⟩ := I.tuple hq
  have ei := refs_at rv
  subst ei
  rw [List.length_map] at hz
  obtain ⟨prs, rel, hl, hpr⟩ := pairs_of I hp
  have plain := plain_of I pl hpl
  have size : (ps.map Value.ref).toArray.size = prs.length := by simp [hl]
  -- the pairs, by place
  have us : ∃ us : List Value, us.length = prs.length ∧ ∀ (j : Nat) (q : Key × Value), prs[j]? = some q → ∃ (b : Addr) (u : Value), ps[j]? = some b ∧ us[j]? = some u ∧ IsTup s.heap b #[u, q.2] ∧ keyIs q.1 u = true := by
    clear size plain pl hq hp rel hz rv
    induction prs generalizing ps with
    | nil => exact ⟨[], rfl, fun j q e => by simp at e⟩
    | cons p prs ih =>
      cases ps with
      | nil => simp at hl
      | cons b bs =>
        obtain ⟨b', u, e1, e2, e3⟩ := hpr 0 p rfl
        obtain ⟨us, h1, h2⟩ := ih bs (by simpa using hl) fun j q e => by
          obtain ⟨b', u', e1, e2, e3⟩ := hpr (j + 1) q (by simpa using e)
          exact ⟨b', u', by simpa using e1, e2, e3⟩
        refine ⟨u :: us, by simp [h1], fun j q e => ?_⟩
        cases j with
        | zero =>
          have e' : p = q := Option.some.inj e
          subst e'
          exact ⟨b', u, e1, rfl, e2, e3⟩
        | succ j =>
          obtain ⟨b2, u2, f1, f2, f3, f4⟩ := h2 j q (by simpa using e)
          exact ⟨b2, u2, by simpa using f1, by simpa using f2, f3, f4⟩
  obtain ⟨us, ul, hus⟩ := us
  have ok : PlainSeq "tuple" s.heap a (ps.map Value.ref).toArray ∧ PairItems s.heap (ps.map Value.ref).toArray (fun j => ps.getD j 0) (us.zip (prs.map (·.2))) := by
    refine ⟨plain, by simp [ul, hl], fun j k v e => ?_⟩
    rw [List.getElem?_zip_eq_some, List.getElem?_map, Option.map_eq_some_iff] at e
    obtain ⟨e1, q, e2, e3⟩ := e
    obtain ⟨b, u, f1, f2, f3, f4⟩ := hus j q e2
    rw [e1] at f2; cases f2
    subst e3
    refine ⟨by simp [f1, List.getD], .inl ?_⟩
    simp only [List.getD, f1, Option.getD_some]
    exact f3
  have ln : (us.zip (prs.map (·.2))).length = prs.length := by simp [ul]
  refine PySem.call_dict_pairs (knd := mixKind X.prog X.w) (kvs := prs) (PairArg.tuple a _ _ _) (I.ok.hd hcalm) ok ?_ (by rw [ln, hl]; exact hz) fun h' tk hd' k => ?_
  · refine ⟨ln.symm, fun j k v e => ?_⟩
    have e : (us.zip (prs.map (·.2)))[j]? = some (k, v) := e
    rw [List.getElem?_zip_eq_some, List.getElem?_map, Option.map_eq_some_iff] at e
    obtain ⟨e1, q, e2, e3⟩ := e
    obtain ⟨b, u, f1, f2, f3, f4⟩ := hus j q e2
    rw [e1] at f2; cases f2
    subst e3
    exact ⟨q.1, e2, f4⟩
  · have hm : (s.heap.objs.size == sysModules) = false := beq_eq_false_iff_ne.mpr (Nat.ne_of_gt I.big)
    have hlen : (mergeK [] kvs).length ≤ sizeLine := by
      refine Nat.le_trans (length_mergeK kvs []) ?_
      rw [List.length_nil, Nat.zero_add, rel.length, hl]
      exact hz
    exact ⟨.ref s.heap.objs.size, upd H s.heap.objs.size (.dK (mergeK [] kvs)), I.laid (t' := tk) (fun b o e => k b o (by simp) e) (Nat.le_refl _) (show ObjOk X.prog X.w _ _ _ (.dK (mergeK [] kvs)) from ⟨hlen, hm, merged [] prs, KV.merge rel .nil, hd'⟩), rfl, q _ (I.hok.fresh (Nat.le_refl _))⟩
end
/-- an error's object, its class and its own names -/
def exA (cls : Value) (d : Option Addr) (a : Addr) : HO := .ext fun h => ∃ (oe : Obj) (vs : Array Value), h.get? a = some oe ∧ Zc cls d oe ∧ oe.data = .fields vs
theorem exA_ok {P : Program} {w : World} {H : Hp} {h : Heap} {a : Addr} {cls : Value} {d : Option Addr} {oe : Obj} {vs : Array Value} (e : h.get? a = some oe) (z : Zc cls d oe) (hd : oe.data = .fields vs) : ObjOk P w H h a (exA cls d a) :=
  ⟨⟨oe, vs, e, z, hd⟩, ⟨oe, e⟩, fun _ _ ⟨o, v, q, r⟩ k => ⟨o, v, k o q, r⟩⟩
end M

set_option maxRecDepth 100000
set_option maxHeartbeats 4000000
/-! M: a layer of plain data over the hand layer: expressions and statements as Lean functions over data -/
namespace M
open PySem PySem.Spec PyProof.Rows L2

/-- plain data that stands still -/
inductive D where
  | non | bl (b : Bool) | int (i : Int) | str (x : Str) | tup (xs : List D) | lst (xs : List D) | scr (ns : List Int)
/-- a tuple of pairs -/
def pairsD : List D → Bool
  | [] => true
  | .tup [_, _] :: r => pairsD r
  | _ => false
/-- what a name holds: data, or a thing that may change, by its number -/
inductive W where
  | d (x : D) | ref (i : Nat)
inductive O where
  | lst (ws : List W) | dct (kvs : List (Key × W)) | ins (c : Str) (fs : List (Str × W)) | still (ds : List D) | pin (kvs : List (Key × W)) | err (cn : Str) (fs : List (Str × D)) | dead
/-- what may change -/
def O.live : O → Prop
  | .dead => False
  | .still _ => False
  | .pin _ => False
  | _ => True
/-- what has a place of its own -/
def O.own : O → Prop
  | .dead => False
  | .still _ => False
  | _ => True
theorem O.live.own : ∀ {o : O}, o.live → o.own
  | .lst _, _ => trivial
  | .dct _, _ => trivial
  | .ins _ _, _ => trivial
  | .err _ _, _ => trivial
/-- an exception: its class, its own fields -/
structure Ex where
  cls : Str
  fs : List (Str × D)
abbrev Sd := List (Option W)
abbrev Gd := List O
inductive R (α : Type) where
  | ok (a : α) | exc (x : Ex) (s : Sd) (G : Gd) | bad
def R.bind {α β : Type} : R α → (α → R β) → R β
  | .ok a, f => f a
  | .exc x s G, _ => .exc x s G
  | .bad, _ => .bad
@[simp] theorem R.bind_ok {α β : Type} (a : α) (f : α → R β) : (R.ok a).bind f = f a := rfl
@[simp] theorem R.bind_exc {α β : Type} (x : Ex) (s : Sd) (G : Gd) (f : α → R β) : (R.exc x s G : R α).bind f = .exc x s G := rfl
@[simp] theorem R.bind_bad {α β : Type} (f : α → R β) : (R.bad : R α).bind f = .bad := rfl
/-- where p holds, r (never reckoned by the kernel) -/
noncomputable def gate {α : Type} (p : Prop) (r : R α) : R α := @ite _ p (Classical.propDecidable p) r .bad
theorem gate_pos {α : Type} {p : Prop} {r : R α} (h : p) : gate p r = r := if_pos h
@[simp] theorem gate_T {α : Type} {r : R α} : gate True r = r := gate_pos trivial
@[simp] theorem gate_F {α : Type} {r : R α} : gate False r = .bad := if_neg id
@[simp] theorem gate_bind {α β : Type} {p : Prop} {r : R α} {f : α → R β} : (gate p r).bind f = gate p (r.bind f) := by
  unfold gate; split <;> rfl
abbrev FE := Sd → Gd → R (W × Gd)
abbrev FT := Sd → Gd → R (Bool × Gd)
abbrev FA := Sd → Gd → R (List W × Gd)
inductive Fl where
  | nx (s : Sd) | rt (w : W) | bk (s : Sd) | ct (s : Sd)
abbrev FS := Sd → Gd → R (Fl × Gd)

/-! ### data in the heap -/
mutual
inductive RepD (K : PySem.W.Frag) (F : Hp) : V → D → Prop
  | non : RepD K F .non .non
  | bl (b : Bool) : RepD K F (.bl b) (.bl b)
  | int (i : Int) : RepD K F (.int i) (.int i)
  | str (x : Str) : RepD K F (.str x) (.str x)
  | tup {a : Addr} {xs : List V} {ds : List D} : SqT K F a xs → RepDs K F xs ds → (pairsD ds = true → PlT K F a) → RepD K F (.ref a) (.tup ds)
  | lst {a : Addr} {xs : List V} {ds : List D} : F a = some (.lst xs) → RepDs K F xs ds → RepD K F (.ref a) (.lst ds)
  | scr {a : Addr} {ns : List Int} : SqL K F a (ns.map V.int) → RepD K F (.ref a) (.scr ns)
inductive RepDs (K : PySem.W.Frag) (F : Hp) : List V → List D → Prop
  | nil : RepDs K F [] []
  | cons {v : V} {vs : List V} {d : D} {ds : List D} : RepD K F v d → RepDs K F vs ds → RepDs K F (v :: vs) (d :: ds)
end
theorem Same.rd {H H' : Hp} {a : Addr} {u : HO} (e : Same H H') (h : Rd H a u) : Rd H' a u := by
  rcases h with h | ⟨o, h⟩
  · exact .inl (e _ _ h)
  · exact .inr ⟨o, e _ _ h⟩
theorem Same.seqT {K : PySem.W.Frag} {H H' : Hp} {a : Addr} {xs : List V} (e : Same H H') (h : SqT K H a xs) : SqT K H' a xs := by
  rcases h with (h | ⟨o, h⟩) | h
  · exact .inl (.inl (e _ _ h))
  · exact .inl (.inr ⟨o, e _ _ h⟩)
  · exact .inr h
mutual
theorem RepD.mono {K : PySem.W.Frag} {F F' : Hp} (e : Same F F') : ∀ {d : D} {v : V}, RepD K F v d → RepD K F' v d
  | .non, _, h => by cases h; exact .non
  | .bl b, _, h => by cases h; exact .bl b
  | .int i, _, h => by cases h; exact .int i
  | .str x, _, h => by cases h; exact .str x
  | .tup ds, _, h => by
    cases h with
    | tup a b pl => exact .tup (Same.seqT e a) (RepDs.mono e b) fun h => (pl h).mono e
  | .lst ds, _, h => by
    cases h with
    | lst a b => exact .lst (e _ _ a) (RepDs.mono e b)
  | .scr ns, _, h => by
    cases h with
    | scr a => exact .scr (L2.Same.seq e a)
theorem RepDs.mono {K : PySem.W.Frag} {F F' : Hp} (e : Same F F') : ∀ {ds : List D} {vs : List V}, RepDs K F vs ds → RepDs K F' vs ds
  | [], _, h => by cases h; exact .nil
  | d :: ds, _, h => by
    cases h with
    | cons a b => exact .cons (RepD.mono e a) (RepDs.mono e b)
end
theorem RepDs.length {K : PySem.W.Frag} {F : Hp} : ∀ {ds : List D} {vs : List V}, RepDs K F vs ds → vs.length = ds.length
  | [], _, h => by cases h; rfl
  | d :: ds, _, h => by
    cases h with
    | cons a b => simp [RepDs.length b]
theorem RepDs.get {K : PySem.W.Frag} {F : Hp} : ∀ {ds : List D} {vs : List V} {i : Nat} {d : D}, RepDs K F vs ds → ds[i]? = some d → ∃ v, vs[i]? = some v ∧ RepD K F v d
  | [], _, _, _, _, e => by simp at e
  | x :: ds, _, 0, d, h, e => by
    cases h with
    | cons a b => simp at e; subst e; exact ⟨_, rfl, a⟩
  | x :: ds, _, i + 1, d, h, e => by
    cases h with
    | cons a b =>
      obtain ⟨v, h1, h2⟩ := RepDs.get (i := i) b (by simpa using e)
      exact ⟨v, by simpa using h1, h2⟩
theorem RepDs.append {K : PySem.W.Frag} {F : Hp} : ∀ {ds es : List D} {vs us : List V}, RepDs K F vs ds → RepDs K F us es → RepDs K F (vs ++ us) (ds ++ es)
  | [], _, _, _, h, h2 => by cases h; exact h2
  | x :: ds, _, _, _, h, h2 => by
    cases h with
    | cons a b => exact .cons a (RepDs.append b h2)
theorem RepDs.take {K : PySem.W.Frag} {F : Hp} : ∀ {ds : List D} {vs : List V} (n : Nat), RepDs K F vs ds → RepDs K F (vs.take n) (ds.take n)
  | _, _, 0, _ => by simp; exact .nil
  | [], _, n + 1, h => by cases h; exact .nil
  | x :: ds, _, n + 1, h => by
    cases h with
    | cons a b => exact .cons a (RepDs.take n b)
theorem RepDs.drop {K : PySem.W.Frag} {F : Hp} : ∀ {ds : List D} {vs : List V} (n : Nat), RepDs K F vs ds → RepDs K F (vs.drop n) (ds.drop n)
  | _, _, 0, h => by simpa using h
  | [], _, n + 1, h => by cases h; exact .nil
  | x :: ds, _, n + 1, h => by
    cases h with
    | cons a b => exact RepDs.drop n b

/-- a name's value: n of the things are told -/
def RepW (K : PySem.W.Frag) (F : Hp) (α : Nat → Addr) (n : Nat) : V → W → Prop
  | v, .d x => RepD K F v x
  | v, .ref i => i < n ∧ v = .ref (α i)
abbrev RepWs (K : PySem.W.Frag) (F : Hp) (α : Nat → Addr) (n : Nat) : List V → List W → Prop := Paired (RepW K F α n)
def RepKV (K : PySem.W.Frag) (F : Hp) (α : Nat → Addr) (n : Nat) : List (Key × V) → List (Key × W) → Prop := Paired fun p q => p.1 = q.1 ∧ RepW K F α n p.2 q.2
def RepFs (K : PySem.W.Frag) (F : Hp) (α : Nat → Addr) (n : Nat) : List (Str × V) → List (Str × W) → Prop := Paired fun p q => p.1 = q.1 ∧ RepW K F α n p.2 q.2
/-- the class of a name: where it stands -/
abbrev ClsAt := Str → Option Addr
def RepO (K : PySem.W.Frag) (cl : ClsAt) (H F : Hp) (α : Nat → Addr) (n : Nat) : HO → O → Prop
  | .lst vs, .lst ws => RepWs K F α n vs ws
  | .dK kvs, .dct qs => RepKV K F α n kvs qs
  | .ins C _ fs, .ins c gs => cl c = some C ∧ RepFs K F α n fs gs
  | .ext φ, .err cn gs => ∃ C d a, HO.ext φ = exA (.ref C) d a ∧ cl cn = some C ∧ (gs = [] ∧ d = none ∨ ∃ dx vs, d = some dx ∧ F dx = some (.xd vs) ∧ Paired (fun (p : Str × V) (q : Str × D) => p.1 = q.1 ∧ RepD K F p.2 q.2) vs gs)
  | _, _ => False
structure RC where
  K : PySem.W.Frag
  cl : ClsAt
  B : Hp
  F0 : Hp
structure Rel (c : RC) (F : Hp) (α : Nat → Addr) (G : Gd) (H : Hp) : Prop where
  bh : Same c.B H
  fh : Same F H
  f0 : Same c.F0 F
  fb : ∀ a, c.B a ≠ none → F a = c.F0 a
  ob : ∀ i o, G[i]? = some o → o.live → (∃ ho, H (α i) = some ho ∧ RepO c.K c.cl H F α G.length ho o) ∧ c.B (α i) = none ∧ F (α i) = none
  st : ∀ (i : Nat) ds, G[i]? = some (.still ds) → ∃ vs, F (α i) = some (.lst vs) ∧ RepDs c.K F vs ds
  inj : ∀ (i j : Nat) oi oj, G[i]? = some oi → G[j]? = some oj → oi.own → oj.own → α i = α j → i = j
  pn : ∀ (i : Nat) qs, G[i]? = some (.pin qs) → ∃ o kvs, c.B (α i) = some (.frz o (.dK kvs)) ∧ RepKV c.K F α G.length kvs qs
structure Ext (F : Hp) (α : Nat → Addr) (n : Nat) (F' : Hp) (α' : Nat → Addr) (n' : Nat) : Prop where
  f : Same F F'
  a : ∀ i, i < n → α' i = α i
  n : n ≤ n'
theorem Ext.refl {F : Hp} {α : Nat → Addr} {n : Nat} : Ext F α n F α n := ⟨Same.refl _, fun _ _ => rfl, Nat.le_refl _⟩
theorem Ext.trans {F F1 F2 : Hp} {α α1 α2 : Nat → Addr} {n n1 n2 : Nat} (a : Ext F α n F1 α1 n1) (b : Ext F1 α1 n1 F2 α2 n2) : Ext F α n F2 α2 n2 :=
  ⟨a.f.trans b.f, fun i h => (b.a i (Nat.lt_of_lt_of_le h a.n)).trans (a.a i h), Nat.le_trans a.n b.n⟩
section
variable {K : PySem.W.Frag} {F F' : Hp} {α α' : Nat → Addr} {n n' : Nat}
theorem RepW.mono {v : V} {w : W} (e : Ext F α n F' α' n') (h : RepW K F α n v w) : RepW K F' α' n' v w := by
  cases w with
  | d x => exact RepD.mono e.f h
  | ref i => exact ⟨Nat.lt_of_lt_of_le h.1 e.n, by rw [h.2, e.a i h.1]⟩
theorem RepWs.mono {vs : List V} {ws : List W} (e : Ext F α n F' α' n') (h : RepWs K F α n vs ws) : RepWs K F' α' n' vs ws := Paired.mapP h fun _ _ r => RepW.mono e r
theorem RepKV.mono {vs : List (Key × V)} {ws : List (Key × W)} (e : Ext F α n F' α' n') (h : RepKV K F α n vs ws) : RepKV K F' α' n' vs ws := Paired.mapP h fun _ _ r => ⟨r.1, RepW.mono e r.2⟩
theorem RepFs.mono {vs : List (Str × V)} {ws : List (Str × W)} (e : Ext F α n F' α' n') (h : RepFs K F α n vs ws) : RepFs K F' α' n' vs ws := Paired.mapP h fun _ _ r => ⟨r.1, RepW.mono e r.2⟩
theorem RepO.mono {cl : ClsAt} {H H' : Hp} {ho : HO} {o : O} (e : Ext F α n F' α' n') (h : RepO K cl H F α n ho o) : RepO K cl H' F' α' n' ho o := by
  cases ho <;> cases o <;> first | exact h.elim | exact RepWs.mono e h | exact RepKV.mono e h | exact ⟨h.1, RepFs.mono e h.2⟩ | exact (match h with | ⟨C, d, a, h1, h2, h3⟩ => ⟨C, d, a, h1, h2, h3.imp id fun ⟨dx, vs, q1, q2, q3⟩ => ⟨dx, vs, q1, e.f _ _ q2, Paired.mapP q3 fun _ _ r => ⟨r.1, RepD.mono e.f r.2⟩⟩⟩)
theorem RepWs.get : ∀ {vs : List V} {ws : List W} {i : Nat} {w : W}, RepWs K F α n vs ws → ws[i]? = some w → ∃ v, vs[i]? = some v ∧ RepW K F α n v w
  | _, _, _, _, .nil, e => by simp at e
  | _, _, 0, _, .cons r _, e => by simp at e; subst e; exact ⟨_, rfl, r⟩
  | _, _, i + 1, _, .cons _ t, e => by
    obtain ⟨u, h1, h2⟩ := RepWs.get (i := i) t (by simpa using e)
    exact ⟨u, by simpa using h1, h2⟩
theorem RepWs.append : ∀ {vs us : List V} {ws xs : List W}, RepWs K F α n vs ws → RepWs K F α n us xs → RepWs K F α n (vs ++ us) (ws ++ xs)
  | _, _, _, _, .nil, h => h
  | _, _, _, _, .cons r t, h => .cons r (RepWs.append t h)
theorem RepWs.set {v : V} {w : W} (r : RepW K F α n v w) : ∀ {vs : List V} {ws : List W} (i : Nat), RepWs K F α n vs ws → RepWs K F α n (vs.set i v) (ws.set i w)
  | _, _, _, .nil => .nil
  | _, _, 0, .cons _ t => .cons r t
  | _, _, i + 1, .cons q t => .cons q (RepWs.set r i t)
theorem RepWs.length {vs : List V} {ws : List W} (h : RepWs K F α n vs ws) : vs.length = ws.length := Paired.length h
theorem RepDs.ws : ∀ {ds : List D} {vs : List V}, RepDs K F vs ds → RepWs K F α n vs (ds.map W.d)
  | [], _, h => by cases h; exact .nil
  | d :: ds, _, h => by
    cases h with
    | cons a b => exact .cons a (RepDs.ws b)
def toD : W → Option D
  | .d x => some x
  | .ref _ => none
def toDs : List W → Option (List D)
  | [] => some []
  | .d x :: r => (toDs r).map (x :: ·)
  | .ref _ :: _ => none
@[simp] theorem toDs_nil : toDs [] = some [] := rfl
@[simp] theorem toDs_map : ∀ ds : List D, toDs (ds.map W.d) = some ds
  | [] => rfl
  | d :: ds => by simp [toDs, toDs_map ds]
theorem toDs_eq : ∀ {ws : List W} {ds : List D}, toDs ws = some ds → ws = ds.map W.d
  | [], _, h => by simp [toDs] at h; subst h; rfl
  | .d x :: r, ds, h => by
    simp only [toDs, Option.map_eq_some_iff] at h
    obtain ⟨a, h1, rfl⟩ := h
    rw [toDs_eq h1]; rfl
  | .ref _ :: _, _, h => by simp [toDs] at h
theorem RepWs.ds : ∀ {ds : List D} {vs : List V}, RepWs K F α n vs (ds.map W.d) → RepDs K F vs ds
  | [], _, h => by cases h; exact .nil
  | d :: ds, _, h => by
    cases h with
    | cons a b => exact .cons a (RepWs.ds b)
end

/-! ### the heap grows, changes -/
section
variable {c : RC} {F H : Hp} {α : Nat → Addr} {G : Gd} {p : Addr}
theorem same_upd {H : Hp} {p : Addr} {o : HO} (h : H p = none) : Same H (upd H p o) := fun b x e => by
  rw [upd_ne (ne_of_none e h)]; exact e
theorem Rel.free (R : Rel c F α G H) (hp : H p = none) : c.B p = none ∧ F p = none :=
  ⟨R.bh.free hp, R.fh.free hp⟩
theorem Rel.ne (R : Rel c F α G H) (hp : H p = none) {i : Nat} {o : O} (h : G[i]? = some o) (hd : o.live) : α i ≠ p := by
  obtain ⟨⟨ho, e, _⟩, _⟩ := R.ob i o h hd
  exact ne_of_none e hp
theorem Rel.neO (R : Rel c F α G H) (hp : H p = none) {i : Nat} {o : O} (h : G[i]? = some o) (hd : o.own) : α i ≠ p := by
  cases o with
  | pin qs =>
    obtain ⟨o, kvs, e, _⟩ := R.pn i qs h
    exact ne_of_none (R.bh _ _ e) hp
  | dead => exact hd.elim
  | still ds => exact hd.elim
  | _ => exact R.ne hp h trivial
/-- a new object that nobody of ours knows -/
theorem Rel.skip (R : Rel c F α G H) (hp : H p = none) (o : HO) : Rel c F α G (upd H p o) :=
  ⟨R.bh.trans (same_upd hp), R.fh.trans (same_upd hp), R.f0, R.fb, fun i ob h hd => by
    obtain ⟨⟨ho, e, r⟩, b⟩ := R.ob i ob h hd
    exact ⟨⟨ho, by rw [upd_ne (R.ne hp h hd)]; exact e, RepO.mono Ext.refl r⟩, b⟩, R.st, R.inj, R.pn⟩
/-- a new object that stands still -/
theorem Rel.frz (R : Rel c F α G H) (hp : H p = none) (o : HO) : Rel c (upd F p o) α G (upd H p o) ∧ Ext F α G.length (upd F p o) α G.length := by
  have hf := R.free hp
  refine ⟨⟨R.bh.trans (same_upd hp), fun b x e => ?_, R.f0.trans (same_upd hf.2), fun a ha => ?_, fun i ob h hd => ?_, fun i ds h => ?_, R.inj, fun i qs h => ?_⟩, same_upd hf.2, fun _ _ => rfl, Nat.le_refl _⟩
  · by_cases hb : b = p
    · subst hb; rw [upd_same] at e ⊢; exact e
    · rw [upd_ne hb] at e ⊢; exact R.fh _ _ e
  · have : a ≠ p := fun z => ha (by rw [z]; exact hf.1)
    rw [upd_ne this]; exact R.fb a ha
  · obtain ⟨⟨ho, e, r⟩, b1, b2⟩ := R.ob i ob h hd
    have ne := R.ne hp h hd
    exact ⟨⟨ho, by rw [upd_ne ne]; exact e, RepO.mono ⟨same_upd hf.2, fun _ _ => rfl, Nat.le_refl _⟩ r⟩, b1, by rw [upd_ne ne]; exact b2⟩
  · obtain ⟨vs, e, r⟩ := R.st i ds h
    exact ⟨vs, same_upd hf.2 _ _ e, RepDs.mono (same_upd hf.2) r⟩
  · obtain ⟨o, kvs, e, r⟩ := R.pn i qs h
    exact ⟨o, kvs, e, RepKV.mono ⟨same_upd hf.2, fun _ _ => rfl, Nat.le_refl _⟩ r⟩
/-- the addresses with one more -/
def pushA (α : Nat → Addr) (n : Nat) (p : Addr) : Nat → Addr := fun i => if i = n then p else α i
theorem pushA_lt {α : Nat → Addr} {n i : Nat} {p : Addr} (h : i < n) : pushA α n p i = α i := if_neg (Nat.ne_of_lt h)
theorem pushA_eq {α : Nat → Addr} {n : Nat} {p : Addr} : pushA α n p n = p := if_pos rfl
/-- a new thing that may change -/
theorem Rel.push (R : Rel c F α G H) (hp : H p = none) {ho : HO} {o : O} (r : RepO c.K c.cl H F α G.length ho o) :
    Rel c F (pushA α G.length p) (G ++ [o]) (upd H p ho) ∧ Ext F α G.length F (pushA α G.length p) (G ++ [o]).length := by
  have hf := R.free hp
  have hx : Ext F α G.length F (pushA α G.length p) (G ++ [o]).length := ⟨Same.refl _, fun i h => pushA_lt h, by simp⟩
  have lt : ∀ {i : Nat} {ob : O}, (G ++ [o])[i]? = some ob → (i < G.length ∧ G[i]? = some ob) ∨ (i = G.length ∧ ob = o) := fun {i ob} h => by
    by_cases hi : i < G.length
    · rw [List.getElem?_append_left hi] at h; exact .inl ⟨hi, h⟩
    · rw [List.getElem?_append_right (Nat.le_of_not_lt hi)] at h
      have : i - G.length = 0 := by
        cases e : i - G.length with
        | zero => rfl
        | succ k => rw [e] at h; simp at h
      rw [this] at h; simp at h
      exact .inr ⟨by omega, h.symm⟩
  refine ⟨⟨R.bh.trans (same_upd hp), R.fh.trans (same_upd hp), R.f0, R.fb, fun i ob h hd => ?_, fun i ds h => ?_, fun i j oi oj hi hj di dj e => ?_, fun i qs h => ?_⟩, hx⟩
  · rcases lt h with ⟨hi, h⟩ | ⟨rfl, rfl⟩
    · obtain ⟨⟨ho', e, r'⟩, b⟩ := R.ob i ob h hd
      rw [pushA_lt hi]
      exact ⟨⟨ho', by rw [upd_ne (R.ne hp h hd)]; exact e, RepO.mono hx r'⟩, b⟩
    · rw [pushA_eq]
      exact ⟨⟨ho, upd_same, RepO.mono hx r⟩, hf⟩
  · rcases lt h with ⟨hi, h⟩ | ⟨_, e⟩
    · rw [pushA_lt hi]; exact R.st i ds h
    · rw [← e] at r; cases ho <;> exact r.elim
  · rcases lt hi with ⟨h1, hi2⟩ | ⟨h1, _⟩ <;> rcases lt hj with ⟨h2, hj2⟩ | ⟨h2, _⟩
    · rw [pushA_lt h1, pushA_lt h2] at e; exact R.inj i j oi oj hi2 hj2 di dj e
    · rw [pushA_lt h1, h2, pushA_eq] at e; exact absurd e (R.neO hp hi2 di)
    · rw [pushA_lt h2, h1, pushA_eq] at e; exact absurd e.symm (R.neO hp hj2 dj)
    · rw [h1, h2]
  · rcases lt h with ⟨hi, h⟩ | ⟨_, e⟩
    · obtain ⟨o', kvs, e', r'⟩ := R.pn i qs h
      rw [pushA_lt hi]; exact ⟨o', kvs, e', RepKV.mono hx r'⟩
    · rw [← e] at r; cases ho <;> exact r.elim
/-- a thing is changed -/
theorem Rel.set (R : Rel c F α G H) {i : Nat} {o0 : O} (hi : G[i]? = some o0) (hd : o0.live) {ho : HO} {o : O} (r : RepO c.K c.cl H F α G.length ho o) :
    Rel c F α (G.set i o) (upd H (α i) ho) := by
  obtain ⟨⟨h0, e0, _⟩, b0, f0⟩ := R.ob i o0 hi hd
  have il : i < G.length := by
    rcases Nat.lt_or_ge i G.length with h | h
    · exact h
    · rw [List.getElem?_eq_none h] at hi; cases hi
  have at_ : ∀ {j : Nat} {ob : O}, (G.set i o)[j]? = some ob → (j = i ∧ ob = o) ∨ (j ≠ i ∧ G[j]? = some ob) := fun {j ob} h => by
    by_cases hj : j = i
    · subst hj
      rw [List.getElem?_set_self il] at h
      exact .inl ⟨rfl, (Option.some.inj h).symm⟩
    · rw [List.getElem?_set_ne (Ne.symm hj)] at h; exact .inr ⟨hj, h⟩
  have hx : Ext F α G.length F α (G.set i o).length := ⟨Same.refl _, fun _ _ => rfl, by simp⟩
  refine ⟨fun b x e => ?_, fun b x e => ?_, R.f0, R.fb, fun j ob h hd' => ?_, fun j ds h => ?_, fun j k oj ok hj hk dj dk e => ?_, fun j qs h => ?_⟩
  · have : b ≠ α i := fun z => by rw [z, b0] at e; cases e
    rw [upd_ne this]; exact R.bh _ _ e
  · have : b ≠ α i := fun z => by rw [z, f0] at e; cases e
    rw [upd_ne this]; exact R.fh _ _ e
  · rcases at_ h with ⟨rfl, rfl⟩ | ⟨hj, h⟩
    · exact ⟨⟨ho, upd_same, RepO.mono hx r⟩, b0, f0⟩
    · obtain ⟨⟨ho', e, r'⟩, b⟩ := R.ob j ob h hd'
      have ne : α j ≠ α i := fun z => hj (R.inj j i ob o0 h hi hd'.own hd.own z)
      exact ⟨⟨ho', by rw [upd_ne ne]; exact e, RepO.mono hx r'⟩, b⟩
  · rcases at_ h with ⟨_, e⟩ | ⟨_, h⟩
    · rw [← e] at r; cases ho <;> exact r.elim
    · exact R.st j ds h
  · have key : ∀ {m : Nat} {om : O}, (G.set i o)[m]? = some om → om.own → ∃ o', G[m]? = some o' ∧ o'.own := fun {m om} h hm => by
      rcases at_ h with ⟨rfl, _⟩ | ⟨_, h⟩
      · exact ⟨o0, hi, hd.own⟩
      · exact ⟨om, h, hm⟩
    obtain ⟨o1, h1, d1⟩ := key hj dj
    obtain ⟨o2, h2, d2⟩ := key hk dk
    exact R.inj j k o1 o2 h1 h2 d1 d2 e
  · rcases at_ h with ⟨_, e⟩ | ⟨_, h⟩
    · rw [← e] at r; cases ho <;> exact r.elim
    · obtain ⟨o', kvs, e', r'⟩ := R.pn j qs h
      exact ⟨o', kvs, e', RepKV.mono hx r'⟩
/-- a thing stands still from now on -/
theorem Rel.still (R : Rel c F α G H) {i : Nat} {o0 : O} (hi : G[i]? = some o0) (hd : o0.live) {vs : List V} {ds : List D} (e0 : H (α i) = some (.lst vs)) (rd : RepDs c.K F vs ds) :
    Rel c (upd F (α i) (.lst vs)) α (G.set i (.still ds)) H ∧ Ext F α G.length (upd F (α i) (.lst vs)) α (G.set i (.still ds)).length := by
  obtain ⟨⟨_, _, _⟩, b0, f0⟩ := R.ob i o0 hi hd
  have il : i < G.length := by
    rcases Nat.lt_or_ge i G.length with h | h
    · exact h
    · rw [List.getElem?_eq_none h] at hi; cases hi
  have at_ : ∀ {j : Nat} {ob : O}, (G.set i (.still ds))[j]? = some ob → ob.own → j ≠ i ∧ G[j]? = some ob := fun {j ob} h hd => by
    by_cases hj : j = i
    · subst hj
      rw [List.getElem?_set_self il] at h
      rw [← Option.some.inj h] at hd; exact hd.elim
    · rw [List.getElem?_set_ne (Ne.symm hj)] at h; exact ⟨hj, h⟩
  have hx : Ext F α G.length (upd F (α i) (.lst vs)) α (G.set i (.still ds)).length := ⟨same_upd f0, fun _ _ => rfl, by simp⟩
  refine ⟨⟨R.bh, fun b x e => ?_, R.f0.trans (same_upd f0), fun a ha => ?_, fun j ob h hd' => ?_, fun j es h => ?_, fun j k oj ok hj hk dj dk e => ?_, fun j qs h => ?_⟩, hx⟩
  · by_cases hb : b = α i
    · subst hb; rw [upd_same] at e; cases e; exact e0
    · rw [upd_ne hb] at e; exact R.fh _ _ e
  · have : a ≠ α i := fun z => ha (by rw [z]; exact b0)
    rw [upd_ne this]; exact R.fb a ha
  · obtain ⟨hj, h⟩ := at_ h hd'.own
    obtain ⟨⟨ho', e, r'⟩, b1, b2⟩ := R.ob j ob h hd'
    have ne : α j ≠ α i := fun z => hj (R.inj j i ob o0 h hi hd'.own hd.own z)
    exact ⟨⟨ho', e, RepO.mono hx r'⟩, b1, by rw [upd_ne ne]; exact b2⟩
  · by_cases hj : j = i
    · subst hj
      rw [List.getElem?_set_self il] at h
      cases h
      exact ⟨vs, upd_same, RepDs.mono (same_upd f0) rd⟩
    · rw [List.getElem?_set_ne (Ne.symm hj)] at h
      obtain ⟨us, e, r⟩ := R.st j es h
      exact ⟨us, same_upd f0 _ _ e, RepDs.mono (same_upd f0) r⟩
  · exact R.inj j k oj ok (at_ hj dj).2 (at_ hk dk).2 dj dk e
  · by_cases hj : j = i
    · subst hj
      rw [List.getElem?_set_self il] at h
      cases h
    · rw [List.getElem?_set_ne (Ne.symm hj)] at h
      obtain ⟨o', kvs, e', r'⟩ := R.pn j qs h
      exact ⟨o', kvs, e', RepKV.mono hx r'⟩
end
end M

set_option maxRecDepth 100000
set_option maxHeartbeats 4000000
namespace M
abbrev St := L2.St
open PySem PySem.Spec PyProof.Rows L2

/-! ### readings by data -/
structure RepS (K : PySem.W.Frag) (F : Hp) (α : Nat → Addr) (n : Nat) (σ : St) (s : Sd) : Prop where
  len : σ.length = s.length
  at_ : ∀ (i : Nat) (w : W), s[i]? = some (some w) → ∃ v, σ[i]? = some (some v) ∧ RepW K F α n v w
theorem RepS.mono {K : PySem.W.Frag} {F F' : Hp} {α α' : Nat → Addr} {n n' : Nat} {σ : St} {s : Sd} (e : Ext F α n F' α' n') (h : RepS K F α n σ s) : RepS K F' α' n' σ s :=
  ⟨h.len, fun i w q => let ⟨v, a, b⟩ := h.at_ i w q; ⟨v, a, RepW.mono e b⟩⟩
theorem RepS.set {K : PySem.W.Frag} {F : Hp} {α : Nat → Addr} {n : Nat} {σ : St} {s : Sd} {v : V} {w : W} (h : RepS K F α n σ s) (r : RepW K F α n v w) (i : Nat) : RepS K F α n (σ.set i (some v)) (s.set i (some w)) :=
  ⟨by simp [h.len], fun j x q => by
    by_cases hj : j = i
    · subst hj
      have hl : j < s.length := by
        rcases Nat.lt_or_ge j s.length with z | z
        · exact z
        · rw [List.getElem?_eq_none (by simpa using z)] at q; cases q
      rw [List.getElem?_set_self hl] at q
      cases q
      exact ⟨v, by rw [List.getElem?_set_self (by rw [h.len]; exact hl)], r⟩
    · rw [List.getElem?_set_ne (Ne.symm hj)] at q
      obtain ⟨u, a, b⟩ := h.at_ j x q
      exact ⟨u, by rw [List.getElem?_set_ne (Ne.symm hj)]; exact a, b⟩⟩
theorem RepS.clear {K : PySem.W.Frag} {F : Hp} {α : Nat → Addr} {n : Nat} {σ : St} {s : Sd} (h : RepS K F α n σ s) (i : Nat) : RepS K F α n (σ.set i none) (s.set i none) :=
  ⟨by simp [h.len], fun j x q => by
    by_cases hj : j = i
    · subst hj
      rw [List.getElem?_set] at q
      simp at q
    · rw [List.getElem?_set_ne (Ne.symm hj)] at q
      obtain ⟨u, a, b⟩ := h.at_ j x q
      exact ⟨u, by rw [List.getElem?_set_ne (Ne.symm hj)]; exact a, b⟩⟩
/-- an exception in the air -/
def RepX (c : RC) (F : Hp) (x : Ex) (cls : Value) (d : Option Addr) (H : Hp) : Prop :=
  ∃ C, c.cl x.cls = some C ∧ cls = .ref C ∧ (x.fs = [] ∧ d = none ∨ ∃ dx vs, d = some dx ∧ c.B dx = none ∧ H dx = some (.xd vs) ∧ Paired (fun (p : Str × V) (q : Str × D) => p.1 = q.1 ∧ RepD c.K F p.2 q.2) vs x.fs)
/-- a wish about exceptions, by data: what is wanted where x is in the air over s, G -/
def FinX (c : RC) (Z : WX) (F : Hp) (α : Nat → Addr) (n : Nat) (x : Ex) (s : Sd) (G : Gd) : Prop :=
  ∀ F' α' H' σ' cls d, Ext F α n F' α' G.length → Rel c F' α' G H' → RepS c.K F' α' G.length σ' s → RepX c F' x cls d H' → Z cls d σ' H'
end M
namespace M
open PySem PySem.Spec PyProof.Rows L2
theorem _root_.L2.PE.imp {X : Cx} {e : Expr} {t t' : TE} (h : PE X e t) (i : ∀ σ H Q, t' σ H Q → t σ H Q) : PE X e t' := ⟨fun pins s σ H Q I w => h.run pins s σ H Q I (i σ H Q w)⟩
theorem _root_.L2.PT.imp {X : Cx} {e : Expr} {t t' : TT} (h : PT X e t) (i : ∀ σ H Q, t' σ H Q → t σ H Q) : PT X e t' := ⟨fun pins s σ H Q I w => h.run pins s σ H Q I (i σ H Q w)⟩
theorem _root_.L2.PA.imp {X : Cx} {e : List Expr} {t t' : TA} (h : PA X e t) (i : ∀ σ H Q, t' σ H Q → t σ H Q) : PA X e t' := ⟨fun pos pins s σ H Q I w => h.run pos pins s σ H Q I (i σ H Q w)⟩
theorem _root_.L2.PS.imp {X : Cx} {e : Stmt} {t t' : TS} (h : PS X e t) (i : ∀ D σ H, t' D σ H → t D σ H) : PS X e t' := ⟨fun pins s σ H D I w => h.run pins s σ H D I (i D σ H w)⟩
theorem _root_.L2.PSs.imp {X : Cx} {e : List Stmt} {t t' : TS} (h : PSs X e t) (i : ∀ D σ H, t' D σ H → t D σ H) : PSs X e t' := ⟨fun pins s σ H D I w => h.run pins s σ H D I (i D σ H w)⟩

/-- a state by data -/
structure At (c : RC) (F : Hp) (α : Nat → Addr) (G : Gd) (s : Sd) (σ : St) (H : Hp) : Prop where
  rel : Rel c F α G H
  sl : RepS c.K F α G.length σ s
/-- the end of an evaluation: P tells what an answer must bear -/
def Fin {β γ : Type} (rep : PySem.W.Frag → Hp → (Nat → Addr) → Nat → γ → β → Prop) (c : RC) (Z : WX) (F : Hp) (α : Nat → Addr) (n : Nat) (r : R (β × Gd)) (Q : γ → Hp → Prop) : Prop :=
  match r with
  | .ok (w, G) => ∀ F' α' H' v, Ext F α n F' α' G.length → Rel c F' α' G H' → rep c.K F' α' G.length v w → Q v H'
  | .exc x s G => FinX c Z F α n x s G
  | .bad => False
abbrev FinE := @Fin W V RepW
abbrev FinA := @Fin (List W) (List V) RepWs
def RepB : PySem.W.Frag → Hp → (Nat → Addr) → Nat → Bool → Bool → Prop := fun _ _ _ _ a b => a = b
abbrev FinT := @Fin Bool Bool RepB
section
variable {β γ : Type} {rep : PySem.W.Frag → Hp → (Nat → Addr) → Nat → γ → β → Prop} {c : RC} {Z : WX} {F F1 : Hp} {α α1 : Nat → Addr} {n n1 : Nat}
theorem FinX.mono {x : Ex} {s : Sd} {G : Gd} (e : Ext F α n F1 α1 n1) (h : FinX c Z F α n x s G) : FinX c Z F1 α1 n1 x s G :=
  fun F' α' H' σ' cls d e' R S r => h F' α' H' σ' cls d (e.trans e') R S r
theorem Fin.mono {r : R (β × Gd)} {Q : γ → Hp → Prop} (e : Ext F α n F1 α1 n1) (h : Fin rep c Z F α n r Q) : Fin rep c Z F1 α1 n1 r Q := by
  cases r with
  | ok p => exact fun F' α' H' v e' R r => h F' α' H' v (e.trans e') R r
  | exc x s G => exact FinX.mono e h
  | bad => exact h
theorem Fin.imp {r : R (β × Gd)} {Q Q' : γ → Hp → Prop} (h : Fin rep c Z F α n r Q) (i : ∀ v H, Q v H → Q' v H) : Fin rep c Z F α n r Q' := by
  cases r with
  | ok p => exact fun F' α' H' v e' R r => i _ _ (h F' α' H' v e' R r)
  | exc x s G => exact h
  | bad => exact h
end
/-- the readings -/
def tG {β γ : Type} (rep : PySem.W.Frag → Hp → (Nat → Addr) → Nat → γ → β → Prop) (c : RC) (Z : WX) (f : Sd → Gd → R (β × Gd)) : St → Hp → (γ → Hp → Prop) → Prop := fun σ H Q =>
  ∃ F α G s, At c F α G s σ H ∧ Fin rep c Z F α G.length (f s G) Q
abbrev tM (c : RC) (Z : WX) (f : FE) : TE := tG RepW c Z f
abbrev tMT (c : RC) (Z : WX) (f : FT) : TT := tG RepB c Z f
abbrev tMA (c : RC) (Z : WX) (f : FA) : TA := tG RepWs c Z f
/-- one evaluation behind another -/
def seqF {β δ : Type} (f : Sd → Gd → R (β × Gd)) (k : β → Sd → Gd → R (δ × Gd)) : Sd → Gd → R (δ × Gd) := fun s G => (f s G).bind fun p => k p.1 s p.2
section
variable {β γ δ ε : Type} {rep : PySem.W.Frag → Hp → (Nat → Addr) → Nat → γ → β → Prop} {rep' : PySem.W.Frag → Hp → (Nat → Addr) → Nat → ε → δ → Prop} {c : RC} {Z : WX}
theorem tG.seq {f : Sd → Gd → R (β × Gd)} {k : β → Sd → Gd → R (δ × Gd)} {σ : St} {H : Hp} {Q : ε → Hp → Prop} (h : tG rep' c Z (seqF f k) σ H Q) :
    tG rep c Z f σ H fun v H1 => ∃ F1 α1 G1 s w, At c F1 α1 G1 s σ H1 ∧ rep c.K F1 α1 G1.length v w ∧ Fin rep' c Z F1 α1 G1.length (k w s G1) Q := by
  obtain ⟨F, α, G, s, A, h⟩ := h
  refine ⟨F, α, G, s, A, ?_⟩
  unfold seqF at h
  cases e : f s G with
  | ok p =>
    rw [e] at h
    obtain ⟨w, G1⟩ := p
    exact fun F' α' H' v e' R r => ⟨F', α', G1, s, w, ⟨R, A.sl.mono e'⟩, r, h.mono e'⟩
  | exc x s' G' => rw [e] at h; exact h
  | bad => rw [e] at h; exact h
theorem tG.imp {f : Sd → Gd → R (β × Gd)} {σ : St} {H : Hp} {Q Q' : γ → Hp → Prop} (h : tG rep c Z f σ H Q) (i : ∀ v H, Q v H → Q' v H) : tG rep c Z f σ H Q' := by
  obtain ⟨F, α, G, s, A, h⟩ := h
  exact ⟨F, α, G, s, A, h.imp i⟩
end
/-! ### names, constants -/
section
variable {X : Cx} {c : RC} {Z : WX} {pos : Pos}
def eV (i : Nat) : FE := fun s G => match s[i]? with
  | some (some w) => .ok (w, G)
  | _ => .bad
theorem mVar (i : Nat) {x : Str} (hN : X.N[i]? = some x := by rfl) (hv : Vis X.env.scope x := by first | exact Or.inl rfl | exact Or.inr (Or.inl rfl) | exact Or.inr (Or.inr rfl)) (hd : (x == ("__debug__" : Str)) = false := by decide)
    (hcd : (x == ("__classdict__" : Str)) = false := by decide) : PE X (.Name x pos) (tM c Z (eV i)) := by
  refine (pe_var hN hv hd hcd).imp fun σ H Q h => ?_
  obtain ⟨F, α, G, s, A, h⟩ := h
  unfold eV at h
  split at h
  · rename_i w e
    obtain ⟨v, e1, r⟩ := A.sl.at_ i w e
    exact ⟨v, e1, h F α H v Ext.refl A.rel r⟩
  · exact h.elim
def eC (x : D) : FE := fun _ G => .ok (.d x, G)
theorem mConst {e : Expr} {v : V} {x : D} (h : PE X e (tC v)) (r : ∀ K F, RepD K F v x) : PE X e (tM c Z (eC x)) := by
  refine h.imp fun σ H Q h => ?_
  obtain ⟨F, α, G, s, A, h⟩ := h
  exact h F α H v Ext.refl A.rel (r _ _)
theorem mInt {i j} : PE X (.Constant (.int i) j pos) (tM c Z (eC (.int i))) := mConst pe_int fun _ _ => .int i
theorem mBl {i j} : PE X (.Constant (.bool i) j pos) (tM c Z (eC (.bl i))) := mConst pe_bl fun _ _ => .bl i
theorem mNon {j} : PE X (.Constant .none j pos) (tM c Z (eC .non)) := mConst pe_non fun _ _ => .non
theorem mStr {i j} : PE X (.Constant (.str i) j pos) (tM c Z (eC (.str i))) := mConst pe_str fun _ _ => .str i

/-! ### operations on values -/
/-- a two-place operation by data -/
def OpM (c : RC) (Z : WX) (r : R2) (g : W → W → Gd → R (W × Gd)) : Prop := ∀ F α G H x y a b Q, Rel c F α G H → RepW c.K F α G.length x a → RepW c.K F α G.length y b → FinE c Z F α G.length (g a b G) Q → r x y H Q
def e2 (g : W → W → Gd → R (W × Gd)) (fa fb : FE) : FE := seqF fa fun a => seqF fb fun b _ G => g a b G
theorem OpM.op {r : R2} {g : W → W → Gd → R (W × Gd)} {fa fb : FE} (o : OpM c Z r g) (σ : St) (H : Hp) (Q : VK) (h : tM c Z (e2 g fa fb) σ H Q) : tOp r (tM c Z fa) (tM c Z fb) σ H Q := by
  refine (tG.seq (rep := RepW) h).imp fun x H1 ⟨F1, α1, G1, s, a, A1, r1, h1⟩ => ?_
  have h1' : tM c Z (seqF fb fun b _ G => g a b G) σ H1 Q := ⟨F1, α1, G1, s, A1, h1⟩
  obtain ⟨F, α, G, s', A, h2⟩ := id h1'
  refine ⟨F1, α1, G1, s, A1, ?_⟩
  unfold seqF at h1
  cases e : fb s G1 with
  | ok p =>
    rw [e] at h1
    exact fun F' α' H' v e' R r => o F' α' p.2 H' x v a p.1 Q R (r1.mono e') r (h1.mono e')
  | exc x s' G' => rw [e] at h1; exact h1
  | bad => rw [e] at h1; exact h1
theorem mBin {a b : Expr} {op : Operator} {r : R2} {g : W → W → Gd → R (W × Gd)} {fa fb : FE} (o : OpM c Z r g) (ho : OpR X (binaryOp op) r) (ha : PE X a (tM c Z fa)) (hb : PE X b (tM c Z fb)) :
    PE X (.BinOp a op b pos) (tM c Z (e2 g fa fb)) := (pe_op ho ha hb).imp fun σ H Q h => o.op σ H Q h
theorem mCmp {a b : Expr} {op : CmpOp} {r : R2} {g : W → W → Gd → R (W × Gd)} {fa fb : FE} (o : OpM c Z r g) (ho : OpR X (compareOp op) r) (ha : PE X a (tM c Z fa)) (hb : PE X b (tM c Z fb)) (hm : behindInMarks op b = false) :
    PE X (.Compare a [op] [b] pos) (tM c Z (e2 g fa fb)) := (pe_cmpR ho ha hb hm).imp fun σ H Q h => o.op σ H Q h
/-- a truth, as a test -/
def toT (f : FE) : FT := seqF f fun w _ G => match w with
  | .d (.bl b) => .ok (b, G)
  | _ => .bad
theorem toT_ok {f : FE} (σ : St) (H : Hp) (Q : Bool → Hp → Prop) (h : tMT c Z (toT f) σ H Q) : tM c Z f σ H fun x H' => ∃ k, x = .bl k ∧ Q k H' := by
  refine (tG.seq (rep := RepW) h).imp fun v H1 ⟨F1, α1, G1, s, w, A1, r1, h1⟩ => ?_
  cases w with
  | ref i => exact h1.elim
  | d x =>
    cases x with
    | bl b => cases r1; exact ⟨b, rfl, h1 F1 α1 H1 b Ext.refl A1.rel rfl⟩
    | _ => exact h1.elim
theorem mCmpT {a b : Expr} {op : CmpOp} {r : R2} {g : W → W → Gd → R (W × Gd)} {fa fb : FE} (o : OpM c Z r g) (ho : OpR X (compareOp op) r) (ha : PE X a (tM c Z fa)) (hb : PE X b (tM c Z fb)) (hm : behindInMarks op b = false) :
    PT X (.Compare a [op] [b] pos) (tMT c Z (toT (e2 g fa fb))) := (pt_cmpR ho ha hb hm).imp fun σ H Q h => by
  have h' := toT_ok σ H Q h
  exact o.op σ H _ h'
theorem mTest {e : Expr} {f : FE} (h : PE X e (tM c Z f)) (he : ∀ whole, isTrue e X.env whole = (do let v ← whole; standAt e.pos; holding [v] (truthy v)) := by intro _; rfl) : PT X e (tMT c Z (toT f)) :=
  (pt_val h he).imp fun σ H Q h => toT_ok σ H Q h
/-- and, or, not -/
def tfAnd (f g : FT) : FT := seqF f fun b s G => if b = true then g s G else .ok (false, G)
def tfOr (f g : FT) : FT := seqF f fun b s G => if b = true then .ok (true, G) else g s G
def tfNot (f : FT) : FT := seqF f fun b _ G => .ok (!b, G)
theorem _root_.L2.PW.imp {X : Cx} {e : Expr} {t t' : TT} (h : PW X e t) (i : ∀ σ H Q, t' σ H Q → t σ H Q) : PW X e t' := ⟨fun wh pins s σ H Q I w => h.run wh pins s σ H Q I (i σ H Q w)⟩
theorem Fin.ret {β γ : Type} {rep : PySem.W.Frag → Hp → (Nat → Addr) → Nat → γ → β → Prop} {F : Hp} {α : Nat → Addr} {G : Gd} {w : β} {v : γ} {H : Hp} {Q : γ → Hp → Prop} {s : Sd} {σ : St} (h : Fin rep c Z F α G.length (.ok (w, G)) Q) (A : At c F α G s σ H) (r : rep c.K F α G.length v w) : Q v H :=
  h F α H v Ext.refl A.rel r
theorem mAnd1 {a : Expr} {f : FT} (h : PT X a (tMT c Z f)) : PW X (.BoolOp .And [a] pos) (tMT c Z f) := pw_and1 h
theorem mOr1 {a : Expr} {f : FT} (h : PT X a (tMT c Z f)) : PW X (.BoolOp .Or [a] pos) (tMT c Z f) := pw_or1 h
theorem mAnd {a b : Expr} {rest : List Expr} {f g : FT} (h : PT X a (tMT c Z f)) (hb : PW X (.BoolOp .And (b :: rest) pos) (tMT c Z g)) : PW X (.BoolOp .And (a :: b :: rest) pos) (tMT c Z (tfAnd f g)) :=
  PW.imp (pw_and h hb) fun σ H Q h => (tG.seq (rep := RepB) h).imp fun v H1 ⟨F1, α1, G1, s, w, A1, r1, h1⟩ => by
    cases r1
    cases v with
    | true => rw [if_pos rfl] at h1; exact iteT ⟨F1, α1, G1, s, A1, h1⟩
    | false => rw [if_neg Bool.false_ne_true] at h1; exact iteF (h1.ret A1 rfl)
theorem mOr {a b : Expr} {rest : List Expr} {f g : FT} (h : PT X a (tMT c Z f)) (hb : PW X (.BoolOp .Or (b :: rest) pos) (tMT c Z g)) : PW X (.BoolOp .Or (a :: b :: rest) pos) (tMT c Z (tfOr f g)) :=
  PW.imp (pw_or h hb) fun σ H Q h => (tG.seq (rep := RepB) h).imp fun v H1 ⟨F1, α1, G1, s, w, A1, r1, h1⟩ => by
    cases r1
    cases v with
    | false => rw [if_neg Bool.false_ne_true] at h1; exact iteF ⟨F1, α1, G1, s, A1, h1⟩
    | true => rw [if_pos rfl] at h1; exact iteT (h1.ret A1 rfl)
theorem mNot {a : Expr} {f : FT} (h : PT X a (tMT c Z f)) : PT X (.UnaryOp .Not a pos) (tMT c Z (tfNot f)) :=
  PT.imp (pt_not h) fun σ H Q h => (tG.seq (rep := RepB) h).imp fun v H1 ⟨F1, α1, G1, s, w, A1, r1, h1⟩ => by
    cases r1
    exact h1.ret A1 rfl
/-- .. as values -/
def eAnd (f g : FE) : FE := seqF f fun w s G => match w with
  | .d (.bl b) => if b = true then g s G else .ok (.d (.bl false), G)
  | _ => .bad
def eOr (f g : FE) : FE := seqF f fun w s G => match w with
  | .d (.bl b) => if b = true then .ok (.d (.bl true), G) else g s G
  | _ => .bad
def eNot (f : FE) : FE := seqF f fun w _ G => match w with
  | .d (.bl b) => .ok (.d (.bl (!b)), G)
  | _ => .bad
theorem mVOne {op} {a : Expr} {f : FE} (h : PE X a (tM c Z f)) : PE X (.BoolOp op [a] pos) (tM c Z f) := pe_one h
theorem mVAnd {a b : Expr} {rest : List Expr} {f g : FE} (h : PE X a (tM c Z f)) (hb : PE X (.BoolOp .And (b :: rest) pos) (tM c Z g)) : PE X (.BoolOp .And (a :: b :: rest) pos) (tM c Z (eAnd f g)) :=
  PE.imp (pe_and h hb) fun σ H Q h => (tG.seq (rep := RepW) h).imp fun v H1 ⟨F1, α1, G1, s, w, A1, r1, h1⟩ => by
    cases w with
    | ref i => exact h1.elim
    | d x =>
      cases x with
      | bl b =>
        cases r1
        refine ⟨b, rfl, ?_⟩
        cases b with
        | true => exact iteT ⟨F1, α1, G1, s, A1, h1⟩
        | false => exact iteF (Fin.ret (rep := RepW) h1 A1 (.bl false))
      | _ => exact h1.elim
theorem mVOr {a b : Expr} {rest : List Expr} {f g : FE} (h : PE X a (tM c Z f)) (hb : PE X (.BoolOp .Or (b :: rest) pos) (tM c Z g)) : PE X (.BoolOp .Or (a :: b :: rest) pos) (tM c Z (eOr f g)) :=
  PE.imp (pe_or h hb) fun σ H Q h => (tG.seq (rep := RepW) h).imp fun v H1 ⟨F1, α1, G1, s, w, A1, r1, h1⟩ => by
    cases w with
    | ref i => exact h1.elim
    | d x =>
      cases x with
      | bl b =>
        cases r1
        refine ⟨b, rfl, ?_⟩
        cases b with
        | false => exact iteF ⟨F1, α1, G1, s, A1, h1⟩
        | true => exact iteT (Fin.ret (rep := RepW) h1 A1 (.bl true))
      | _ => exact h1.elim
theorem mVNot {a : Expr} {f : FE} (h : PE X a (tM c Z f)) : PE X (.UnaryOp .Not a pos) (tM c Z (eNot f)) :=
  PE.imp (pe_not h) fun σ H Q h => (tG.seq (rep := RepW) h).imp fun v H1 ⟨F1, α1, G1, s, w, A1, r1, h1⟩ => by
    cases w with
    | ref i => exact h1.elim
    | d x =>
      cases x with
      | bl b => cases r1; exact ⟨b, rfl, Fin.ret (rep := RepW) h1 A1 (.bl _)⟩
      | _ => exact h1.elim
/-- a if t else b -/
def eIf (t : FT) (f g : FE) : FE := seqF t fun b s G => if b = true then f s G else g s G
theorem mIfE {e a b : Expr} {t : FT} {f g : FE} (ht : PT X e (tMT c Z t)) (ha : PE X a (tM c Z f)) (hb : PE X b (tM c Z g)) : PE X (.IfExp e a b pos) (tM c Z (eIf t f g)) :=
  PE.imp (pe_ifExp ht ha hb) fun σ H Q h => (tG.seq (rep := RepB) h).imp fun v H1 ⟨F1, α1, G1, s, w, A1, r1, h1⟩ => by
    cases r1
    cases v with
    | true => rw [if_pos rfl] at h1; exact iteT ⟨F1, α1, G1, s, A1, h1⟩
    | false => rw [if_neg Bool.false_ne_true] at h1; exact iteF ⟨F1, α1, G1, s, A1, h1⟩
/-- arguments -/
def aNil : FA := fun _ G => .ok ([], G)
def aCons (f : FE) (g : FA) : FA := seqF f fun w => seqF g fun ws _ G => .ok (w :: ws, G)
theorem mNil : PA X [] (tMA c Z aNil) := PA.imp pa_nil fun σ H Q ⟨F, α, G, s, A, h⟩ => h F α H [] Ext.refl A.rel .nil
theorem mCons {e : Expr} {es : List Expr} {f : FE} {g : FA} (h : PE X e (tM c Z f)) (hr : PA X es (tMA c Z g)) (hs : starEach (e :: es) X.env = (false, eval e X.env) :: starEach es X.env := by rfl) : PA X (e :: es) (tMA c Z (aCons f g)) :=
  PA.imp (pa_cons h hr hs) fun σ H Q h => (tG.seq (rep := RepW) h).imp fun v H1 ⟨F1, α1, G1, s, w, A1, r1, h1⟩ => by
    refine ⟨F1, α1, G1, s, A1, ?_⟩
    unfold seqF at h1
    cases e : g s G1 with
    | ok p =>
      rw [e] at h1
      exact fun F' α' H' vs e' R r => h1 F' α' H' (v :: vs) e' R (.cons (r1.mono e') r)
    | exc x s' G' => rw [e] at h1; exact h1
    | bad => rw [e] at h1; exact h1
/-- what comes of evaluated arguments -/
def eA (g : List W → Sd → Gd → R (W × Gd)) (f : FA) : FE := seqF f g
def ArgM (c : RC) (Z : WX) (r : List V → Hp → VK → Prop) (g : List W → Gd → R (W × Gd)) : Prop := ∀ F α G H xs ws Q, Rel c F α G H → RepWs c.K F α G.length xs ws → FinE c Z F α G.length (g ws G) Q → r xs H Q
theorem ArgM.cb {r : List V → Hp → VK → Prop} {g : List W → Gd → R (W × Gd)} {f : FA} (o : ArgM c Z r g) (σ : St) (H : Hp) (Q : VK) (h : tM c Z (eA (fun ws _ G => g ws G) f) σ H Q) : tCB r (tMA c Z f) σ H Q :=
  (tG.seq (rep := RepWs) h).imp fun xs H1 ⟨F1, α1, G1, s, ws, A1, r1, h1⟩ => o F1 α1 G1 H1 xs ws Q A1.rel r1 h1
theorem mBuiltin {x : Str} {p : Pos} {e : Expr} {es : List Expr} {id : String} {r : List V → Hp → VK → Prop} {g : List W → Gd → R (W × Gd)} {f : FA} (o : ArgM c Z r g) (hc : CallR X (.builtin id) r) (hg : Gl X x) (hm : X.mg x = none) (hv : bootBuiltins x = some (.builtin id))
    (ha : PA X (e :: es) (tMA c Z f)) (hn : x ≠ "__name__" := by decide) (hdb : (x == ("__debug__" : Str)) = false := by decide)
    (he : starEach (e :: es) X.env = (false, eval e X.env) :: starEach es X.env := by rfl) (hpl : (backTo pos (starEach es X.env)).any (·.1) = false := by rfl) : PE X (.Call (.Name x p) (e :: es) [] pos) (tM c Z (eA (fun ws _ G => g ws G) f)) :=
  (pe_callB hc hg hm hv ha hn hdb he hpl).imp fun σ H Q h => o.cb σ H Q h
theorem mType {x : Str} {p : Pos} {e : Expr} {es : List Expr} {T : String} {r : List V → Hp → VK → Prop} {g : List W → Gd → R (W × Gd)} {f : FA} (o : ArgM c Z r g) (hc : CallR X (.type T) r) (hg : Gl X x) (hm : X.mg x = none) (hv : bootBuiltins x = some (.type T))
    (ha : PA X (e :: es) (tMA c Z f)) (hn : x ≠ "__name__" := by decide) (hdb : (x == ("__debug__" : Str)) = false := by decide)
    (he : starEach (e :: es) X.env = (false, eval e X.env) :: starEach es X.env := by rfl) (hpl : (backTo pos (starEach es X.env)).any (·.1) = false := by rfl) : PE X (.Call (.Name x p) (e :: es) [] pos) (tM c Z (eA (fun ws _ G => g ws G) f)) :=
  (pe_callTy hc hg hm hv ha hn hdb he hpl).imp fun σ H Q h => o.cb σ H Q h
end
end M

set_option maxRecDepth 100000
set_option maxHeartbeats 4000000
namespace M
open PySem PySem.Spec PyProof.Rows L2
section
variable {X : Cx} {c : RC} {Z : WX} {pos : Pos}
/-- where a statement ends -/
def FinS (c : RC) (Z : WX) (F : Hp) (α : Nat → Addr) (n : Nat) (r : R (Fl × Gd)) (E : Ends) : Prop :=
  match r with
  | .ok (.nx s, G) => ∀ F' α' H' σ', Ext F α n F' α' G.length → At c F' α' G s σ' H' → E.nx σ' H'
  | .ok (.bk s, G) => ∀ F' α' H' σ', Ext F α n F' α' G.length → At c F' α' G s σ' H' → E.bk σ' H'
  | .ok (.ct s, G) => ∀ F' α' H' σ', Ext F α n F' α' G.length → At c F' α' G s σ' H' → E.ct σ' H'
  | .ok (.rt w, G) => ∀ F' α' H' v, Ext F α n F' α' G.length → Rel c F' α' G H' → RepW c.K F' α' G.length v w → E.rt v H'
  | .exc x s G => FinX c Z F α n x s G
  | .bad => False
theorem FinS.mono {F F1 : Hp} {α α1 : Nat → Addr} {n n1 : Nat} {r : R (Fl × Gd)} {E : Ends} (e : Ext F α n F1 α1 n1) (h : FinS c Z F α n r E) : FinS c Z F1 α1 n1 r E := by
  cases r with
  | ok p =>
    obtain ⟨f, G⟩ := p
    cases f with
    | nx s => exact fun F' α' H' σ' e' A => h F' α' H' σ' (e.trans e') A
    | bk s => exact fun F' α' H' σ' e' A => h F' α' H' σ' (e.trans e') A
    | ct s => exact fun F' α' H' σ' e' A => h F' α' H' σ' (e.trans e') A
    | rt w => exact fun F' α' H' v e' R r => h F' α' H' v (e.trans e') R r
  | exc x s G => exact FinX.mono e h
  | bad => exact h
def tMS (c : RC) (Z : WX) (f : FS) : TS := fun E σ H => ∃ F α G s, At c F α G s σ H ∧ FinS c Z F α G.length (f s G) E
theorem FinS.nx {F : Hp} {α : Nat → Addr} {G : Gd} {s : Sd} {σ : St} {H : Hp} {E : Ends} (h : FinS c Z F α G.length (.ok (.nx s, G)) E) (A : At c F α G s σ H) : E.nx σ H := h F α H σ Ext.refl A
/-- blocks -/
def sNil : FS := fun s G => .ok (.nx s, G)
def sSeq (f g : FS) : FS := fun s G => match f s G with
  | .ok (.nx s1, G1) => g s1 G1
  | .ok (.bk s1, G1) => .ok (.bk s1, G1)
  | .ok (.ct s1, G1) => .ok (.ct s1, G1)
  | .ok (.rt w, G1) => .ok (.rt w, G1)
  | .exc x s1 G1 => .exc x s1 G1
  | .bad => .bad
theorem msNil : PSs X [] (tMS c Z sNil) := pss_nil.imp fun E σ H ⟨F, α, G, s, A, h⟩ => h.nx A
theorem msOne {st : Stmt} {f : FS} (h : PS X st (tMS c Z f)) : PSs X [st] (tMS c Z f) := pss_one h
theorem msCons {st : Stmt} {rest : List Stmt} {f g : FS} (h : PS X st (tMS c Z f)) (hr : PSs X rest (tMS c Z g)) : PSs X (st :: rest) (tMS c Z (sSeq f g)) := by
  refine (pss_cons h hr).imp fun E σ H h => ?_
  obtain ⟨F, α, G, s, A, h⟩ := h
  refine ⟨F, α, G, s, A, ?_⟩
  unfold sSeq at h
  cases e : f s G with
  | ok p =>
    rw [e] at h
    obtain ⟨q, G1⟩ := p
    cases q with
    | nx s1 => exact fun F' α' H' σ' e' A' => ⟨F', α', G1, s1, A', h.mono e'⟩
    | bk s1 => exact h
    | ct s1 => exact h
    | rt w => exact h
  | exc x s' G' => rw [e] at h; exact h
  | bad => rw [e] at h; exact h
def sPass : FS := sNil
def sBreak : FS := fun s G => .ok (.bk s, G)
def sCont : FS := fun s G => .ok (.ct s, G)
theorem mPass : PS X (.Pass pos) (tMS c Z sPass) := ps_pass.imp fun E σ H ⟨F, α, G, s, A, h⟩ => h.nx A
theorem mBreak : PS X (.Break pos) (tMS c Z sBreak) := ps_break.imp fun E σ H ⟨F, α, G, s, A, h⟩ => h F α H σ Ext.refl A
theorem mCont : PS X (.Continue pos) (tMS c Z sCont) := ps_continue.imp fun E σ H ⟨F, α, G, s, A, h⟩ => h F α H σ Ext.refl A
/-- code that is never come to -/
def sNever : FS := fun _ _ => .bad
theorem mNever {st : Stmt} : PS X st (tMS c Z sNever) := ps_never.imp fun E σ H ⟨F, α, G, s, A, h⟩ => h
theorem msNever {st : List Stmt} : PSs X st (tMS c Z sNever) := pss_never.imp fun E σ H ⟨F, α, G, s, A, h⟩ => h
/-- from an expression to a statement -/
def seqS {β : Type} (f : Sd → Gd → R (β × Gd)) (k : β → FS) : FS := fun s G => (f s G).bind fun p => k p.1 s p.2
theorem tG.seqS {β γ : Type} {rep : PySem.W.Frag → Hp → (Nat → Addr) → Nat → γ → β → Prop} {f : Sd → Gd → R (β × Gd)} {k : β → FS} {σ : St} {H : Hp} {E : Ends} (h : tMS c Z (seqS f k) E σ H) :
    tG rep c Z f σ H fun v H1 => ∃ F1 α1 G1 s w, At c F1 α1 G1 s σ H1 ∧ rep c.K F1 α1 G1.length v w ∧ FinS c Z F1 α1 G1.length (k w s G1) E := by
  obtain ⟨F, α, G, s, A, h⟩ := h
  refine ⟨F, α, G, s, A, ?_⟩
  unfold M.seqS at h
  cases e : f s G with
  | ok p =>
    rw [e] at h
    obtain ⟨w, G1⟩ := p
    exact fun F' α' H' v e' R r => ⟨F', α', G1, s, w, ⟨R, A.sl.mono e'⟩, r, h.mono e'⟩
  | exc x s' G' => rw [e] at h; exact h
  | bad => rw [e] at h; exact h
def sExpr (f : FE) : FS := seqS f fun _ s G => .ok (.nx s, G)
theorem mExpr {e : Expr} {f : FE} (h : PE X e (tM c Z f)) (hs : swapsWith e none pos.line X.env = pure false := by rfl) : PS X (.Expr e pos) (tMS c Z (sExpr f)) :=
  (ps_expr h hs).imp fun E σ H h => (tG.seqS (rep := RepW) h).imp fun v H1 ⟨F1, α1, G1, s, w, A1, r1, h1⟩ => h1.nx A1
def sRet (f : FE) : FS := seqS f fun w _ G => .ok (.rt w, G)
theorem mRet {e : Expr} {f : FE} (h : PE X e (tM c Z f)) : PS X (.Return (some e) pos) (tMS c Z (sRet f)) :=
  (ps_ret h).imp fun E σ H h => (tG.seqS (rep := RepW) h).imp fun v H1 ⟨F1, α1, G1, s, w, A1, r1, h1⟩ => h1 F1 α1 H1 v Ext.refl A1.rel r1
def sRetN : FS := fun _ G => .ok (.rt (.d .non), G)
theorem mRetN : PS X (.Return none pos) (tMS c Z sRetN) := ps_retN.imp fun E σ H ⟨F, α, G, s, A, h⟩ => h F α H .non Ext.refl A.rel .non
def sIf (t : FT) (f g : FS) : FS := seqS t fun b s G => if b = true then f s G else g s G
theorem mIf {e : Expr} {a b : List Stmt} {t : FT} {f g : FS} (ht : PT X e (tMT c Z t)) (ha : PSs X a (tMS c Z f)) (hb : PSs X b (tMS c Z g)) : PS X (.If e a b pos) (tMS c Z (sIf t f g)) :=
  (ps_if ht ha hb).imp fun E σ H h => (tG.seqS (rep := RepB) h).imp fun v H1 ⟨F1, α1, G1, s, w, A1, r1, h1⟩ => by
    cases r1
    cases v with
    | true => rw [if_pos rfl] at h1; exact iteT ⟨F1, α1, G1, s, A1, h1⟩
    | false => rw [if_neg Bool.false_ne_true] at h1; exact iteF ⟨F1, α1, G1, s, A1, h1⟩

/-! ### targets -/
abbrev FG := W → Sd → Gd → R (Sd × Gd)
def FinG (c : RC) (Z : WX) (F : Hp) (α : Nat → Addr) (n : Nat) (r : R (Sd × Gd)) (Q : St → Hp → Prop) : Prop :=
  match r with
  | .ok (s, G) => ∀ F' α' H' σ', Ext F α n F' α' G.length → At c F' α' G s σ' H' → Q σ' H'
  | .exc x s G => FinX c Z F α n x s G
  | .bad => False
theorem FinG.mono {F F1 : Hp} {α α1 : Nat → Addr} {n n1 : Nat} {r : R (Sd × Gd)} {Q : St → Hp → Prop} (e : Ext F α n F1 α1 n1) (h : FinG c Z F α n r Q) : FinG c Z F1 α1 n1 r Q := by
  cases r with
  | ok p => exact fun F' α' H' σ' e' A => h F' α' H' σ' (e.trans e') A
  | exc x s G => exact FinX.mono e h
  | bad => exact h
def tMG (c : RC) (Z : WX) (g : FG) : TG := fun v σ H Q => ∃ F α G s w, At c F α G s σ H ∧ RepW c.K F α G.length v w ∧ FinG c Z F α G.length (g w s G) Q
theorem _root_.L2.PG.imp {X : Cx} {e : Expr} {t t' : TG} (h : PG X e t) (i : ∀ v σ H Q, t' v σ H Q → t v σ H Q) : PG X e t' := ⟨fun pins s σ H v u Q I r w => h.run pins s σ H v u Q I r (i v σ H Q w)⟩
def gN (i : Nat) : FG := fun w s G => .ok (s.set i (some w), G)
theorem mgName (i : Nat) {x : Str} (hN : X.N.Nodup) (hi : X.N[i]? = some x := by rfl) (hx : Loc X.env.scope x := by first | exact Or.inl rfl | exact Or.inr rfl) (hf : X.fn x = true ∨ X.env.scope.names.lookup x = some .local := by first | exact .inl rfl | exact .inr rfl | assumption) :
    PG X (.Name x pos) (tMG c Z (gN i)) := (pg_name hN hi hx hf).imp fun v σ H Q ⟨F, α, G, s, w, A, r, h⟩ => h F α H _ Ext.refl ⟨A.rel, A.sl.set r i⟩
/-- target = value -/
def sAsg (g : FG) (f : FE) : FS := seqS f fun w s G => (g w s G).bind fun p => .ok (.nx p.1, p.2)
theorem asg_fin {F : Hp} {α : Nat → Addr} {n : Nat} {r : R (Sd × Gd)} {E : Ends} (h : FinS c Z F α n (r.bind fun p => .ok (.nx p.1, p.2)) E) : FinG c Z F α n r E.nx := by
  cases r with
  | ok p => exact h
  | exc x s G => exact h
  | bad => exact h
theorem mAsg {tg e : Expr} {f : FE} {g : FG} (he : PE X e (tM c Z f)) (hg : PG X tg (tMG c Z g)) (hs : swapsWithSole [tg] e pos.line X.env = pure false := by rfl) (hw : swappedStores [tg] e X.env = pure none := by rfl)
    (h1 : (assignEach [tg] X.env).map (·.2) = [assign tg X.env] := by rfl) : PS X (.Assign [tg] e pos) (tMS c Z (sAsg g f)) :=
  (ps_asg he hg hs hw h1).imp fun E σ H h => (tG.seqS (rep := RepW) h).imp fun v H1 ⟨F1, α1, G1, s, w, A1, r1, h1⟩ => ⟨F1, α1, G1, s, w, A1, r1, asg_fin h1⟩
/-- name = value -/
def sSet (i : Nat) (f : FE) : FS := seqS f fun w s G => .ok (.nx (s.set i (some w)), G)
theorem mSet (i : Nat) {x : Str} {e : Expr} {f : FE} {pos' : Pos} (hN : X.N.Nodup) (he : PE X e (tM c Z f)) (hi : X.N[i]? = some x := by rfl) (hx : Loc X.env.scope x := by first | exact Or.inl rfl | exact Or.inr rfl)
    (hs : swapsWith e (some (.Name x pos')) pos.line X.env = pure false := by rfl) (hf : X.fn x = true ∨ X.env.scope.names.lookup x = some .local := by first | exact .inl rfl | exact .inr rfl | assumption) :
    PS X (.Assign [.Name x pos'] e pos) (tMS c Z (sSet i f)) :=
  (ps_set hN hi hx he hs hf).imp fun E σ H h => (tG.seqS (rep := RepW) h).imp fun v H1 ⟨F1, α1, G1, s, w, A1, r1, h1⟩ => h1 F1 α1 H1 _ Ext.refl ⟨A1.rel, A1.sl.set r1 i⟩
/-- name += value (ints) -/
def sAug (op : Int → Int → Int) (i : Nat) (f : FE) : FS := fun s G => match s[i]? with
  | some (some (.d (.int a))) => seqS f (fun w s G => match w with
    | .d (.int b) => .ok (.nx (s.set i (some (.d (.int (op a b))))), G)
    | _ => .bad) s G
  | _ => .bad
theorem mAug {op : Operator} {o : Int → Int → Int} (i : Nat) {x : Str} {e : Expr} {f : FE} {pos' : Pos} (hN : X.N.Nodup) (he : PE X e (tM c Z f)) (ho : PIp X op (ipI o)) (hi : X.N[i]? = some x := by rfl) (hx : Loc X.env.scope x := by first | exact Or.inl rfl | exact Or.inr rfl)
    (hf : X.fn x = true ∨ X.env.scope.names.lookup x = some .local := by first | exact .inl rfl | exact .inr rfl | assumption) : PS X (.AugAssign (.Name x pos') op e pos) (tMS c Z (sAug o i f)) :=
  (ps_aug hN hi hx he ho hf).imp fun E σ H ⟨F, α, G, s, A, h⟩ => by
    unfold sAug at h
    split at h
    · rename_i a e1
      obtain ⟨v, e2, r⟩ := A.sl.at_ i _ e1
      cases r
      refine ⟨_, e2, ?_⟩
      refine (tG.seqS (rep := RepW) ⟨F, α, G, s, A, h⟩).imp fun v H1 ⟨F1, α1, G1, s, w, A1, r1, h1⟩ => ?_
      cases w with
      | ref j => exact h1.elim
      | d y =>
        cases y with
        | int b => cases r1; exact ⟨a, b, rfl, rfl, h1 F1 α1 H1 _ Ext.refl ⟨A1.rel, A1.sl.set (show RepW c.K F1 α1 G1.length (.int (o a b)) (.d (.int (o a b))) from RepD.int _) i⟩⟩
        | _ => exact h1.elim
    · exact h.elim
/-- a, b = a tuple -/
def gs : List FG → List D → Sd → Gd → R (Sd × Gd)
  | [], [], s, G => .ok (s, G)
  | g :: r, x :: xs, s, G => (g (.d x) s G).bind fun p => gs r xs p.1 p.2
  | _, _, _, _ => .bad
def gTupD (l : List FG) : FG := fun w s G => match w with
  | .d (.tup xs) => gs l xs s G
  | _ => .bad
def tMGs (c : RC) (Z : WX) (l : List FG) : TGs := fun vs σ H Q => ∃ F α G s ds, At c F α G s σ H ∧ RepDs c.K F vs ds ∧ FinG c Z F α G.length (gs l ds s G) Q
theorem _root_.L2.PGs.imp {X : Cx} {e : List Expr} {t t' : TGs} (h : PGs X e t) (i : ∀ v σ H Q, t' v σ H Q → t v σ H Q) : PGs X e t' := ⟨fun pins s σ H v u Q I r w => h.run pins s σ H v u Q I r (i v σ H Q w)⟩
theorem mgNil : PGs X [] (tMGs c Z []) := pgs_nil.imp fun v σ H Q ⟨F, α, G, s, ds, A, r, h⟩ => by
  cases ds with
  | nil => cases r; exact ⟨rfl, h F α H σ Ext.refl A⟩
  | cons x xs => exact h.elim
theorem mgCons {e : Expr} {es : List Expr} {g : FG} {l : List FG} (h1 : PG X e (tMG c Z g)) (h2 : PGs X es (tMGs c Z l)) (hs : (assignEach (e :: es) X.env).map (·.2) = assign e X.env :: (assignEach es X.env).map (·.2) := by rfl) :
    PGs X (e :: es) (tMGs c Z (g :: l)) := (pgs_cons h1 h2 hs).imp fun v σ H Q ⟨F, α, G, s, ds, A, r, h⟩ => by
  cases ds with
  | nil => exact h.elim
  | cons x xs =>
    cases r with
    | cons a b =>
      refine ⟨_, _, rfl, F, α, G, s, .d x, A, a, ?_⟩
      unfold gs at h
      cases e : g (.d x) s G with
      | ok p =>
        rw [e] at h
        exact fun F' α' H' σ' e' A' => ⟨F', α', p.2, p.1, xs, A', RepDs.mono e'.f b, FinG.mono e' h⟩
      | exc x s' G' => rw [e] at h; exact h
      | bad => rw [e] at h; exact h
theorem gs_len : ∀ {l : List FG} {ds : List D} {s : Sd} {G : Gd}, gs l ds s G ≠ .bad → (∀ x s1 G1, gs l ds s G ≠ .exc x s1 G1) → ds.length = l.length
  | [], [], _, _, _, _ => rfl
  | [], _ :: _, _, _, h, _ => absurd rfl h
  | _ :: _, [], _, _, h, _ => absurd rfl h
  | g :: l, x :: xs, s, G, h, h' => by
    unfold gs at h h'
    cases e : g (.d x) s G with
    | ok p => rw [e] at h h'; simp only [List.length_cons]; rw [gs_len (s := p.1) (G := p.2) h h']
    | exc x s1 G1 => rw [e] at h'; exact absurd rfl (h' x s1 G1)
    | bad => rw [e] at h; exact absurd rfl h
theorem mgTup {es : List Expr} {k : Nat} {l : List FG} (hK : X.K = c.K) (hc : X.calm = true) (h : PGs X es (tMGs c Z l)) (hl : ∀ ds s G, ds.length ≠ l.length → gs l ds s G = .bad)
    (hn : (assignEach es X.env).length = l.length := by rfl) (hst : (assignEach es X.env).findIdx? (·.1) = none := by rfl) : PG X (.Tuple es k pos) (tMG c Z (gTupD l)) :=
  (pg_tup hc h hn hst).imp fun v σ H Q ⟨F, α, G, s, w, A, r, h⟩ => by
    cases w with
    | ref i => exact h.elim
    | d x =>
      cases x with
      | tup xs =>
        cases r with
        | tup a b pl =>
          refine ⟨_, _, rfl, by rw [hK]; exact Same.seqT A.rel.fh a, ?_, F, α, G, s, xs, A, b, h⟩
          rw [RepDs.length b]
          by_cases e : xs.length = l.length
          · exact e
          · have h' : FinG c Z F α G.length (gs l xs s G) Q := h
            rw [hl xs s G e] at h'; exact h'.elim
      | _ => exact h.elim

/-! ### for -/
def Yields (c : RC) (F : Hp) (α : Nat → Addr) (G : Gd) (J : It) (ws : List W) : Prop := ∀ (c' : RC), c'.K = c.K → c'.cl = c.cl → Same c.B c'.B → ∀ F' α' G' H', Ext F α G.length F' α' G'.length → Rel c' F' α' G' H' → ∀ i,
  (∀ w, ws[i]? = some w → J.go i H' ∧ ∀ x H'', J.yld i H' x H'' → ∃ F'', Ext F' α' G'.length F'' α' G'.length ∧ Rel c' F'' α' G' H'' ∧ RepW c.K F'' α' G'.length x w) ∧ (i = ws.length → J.stop i H')
theorem Yields.mono {F F1 : Hp} {α α1 : Nat → Addr} {G G1 : Gd} {J : It} {ws : List W} (e : Ext F α G.length F1 α1 G1.length) (h : Yields c F α G J ws) : Yields c F1 α1 G1 J ws :=
  fun c' k1 k2 k3 F' α' G' H' e' R => h c' k1 k2 k3 F' α' G' H' (e.trans e') R
def FinI (c : RC) (Z : WX) (F : Hp) (α : Nat → Addr) (n : Nat) (r : R (List W × Gd)) (Q : It → Hp → Prop) : Prop :=
  match r with
  | .ok (ws, G) => ∀ F' α' H' J, Ext F α n F' α' G.length → Rel c F' α' G H' → Yields c F' α' G J ws → Q J H'
  | .exc x s G => FinX c Z F α n x s G
  | .bad => False
def tMI (c : RC) (Z : WX) (f : FA) : TI := fun σ H Q => ∃ F α G s, At c F α G s σ H ∧ FinI c Z F α G.length (f s G) Q
theorem _root_.L2.PI.imp {X : Cx} {tg e : Expr} {t t' : TI} (h : PI X tg e t) (i : ∀ σ H Q, t' σ H Q → t σ H Q) : PI X tg e t' := ⟨fun pins s σ H R I w => h.run pins s σ H R I (i σ H R w)⟩
def forM (g : FG) (b : FS) : List W → FS
  | [] => fun s G => .ok (.nx s, G)
  | w :: ws => fun s G => match g w s G with
    | .ok (s1, G1) => match b s1 G1 with
      | .ok (.nx s2, G2) => forM g b ws s2 G2
      | .ok (.ct s2, G2) => forM g b ws s2 G2
      | .ok (.bk s2, G2) => .ok (.nx s2, G2)
      | .ok (.rt x, G2) => .ok (.rt x, G2)
      | .exc x s2 G2 => .exc x s2 G2
      | .bad => .bad
    | .exc x s1 G1 => .exc x s1 G1
    | .bad => .bad
def sFor (i : FA) (g : FG) (b : FS) : FS := fun s G => (i s G).bind fun p => forM g b p.1 s p.2
theorem mFor {tg iter : Expr} {body : List Stmt} {i : FA} {g : FG} {b : FS} (hp : PassesOwn (model X.prog X.w) X.A X.env X.xe) (hc : X.calm = true) (hi : PI X tg iter (tMI c Z i)) (hg : PG X tg (tMG c Z g)) (hb : PSs X body (tMS c Z b))
    (hs : ∀ x, foldedSetIterable iter X.env x = pure x := by intro _; rfl) : PS X (.For tg iter body [] pos) (tMS c Z (sFor i g b)) := by
  refine (ps_for hp hc hi hg hb hs).imp fun E σ H h => ?_
  obtain ⟨F, α, G, s, A, h⟩ := h
  refine ⟨F, α, G, s, A, ?_⟩
  unfold sFor at h
  cases e : i s G with
  | bad => rw [e] at h; exact h
  | exc x s' G' => rw [e] at h; exact h
  | ok p =>
    obtain ⟨ws, G1⟩ := p
    rw [e] at h
    intro F1 α1 H1 J e1 R1 Y
    refine ⟨fun i m σ H => m = ws.length - i ∧ i ≤ ws.length ∧ ∃ F' α' G' s', Ext F1 α1 G1.length F' α' G'.length ∧ At c F' α' G' s' σ H ∧ FinS c Z F' α' G'.length (forM g b (ws.drop i) s' G') E, ⟨ws.length, rfl, Nat.zero_le _, F1, α1, G1, s, Ext.refl, ⟨R1, A.sl.mono e1⟩, ?_⟩, ?_⟩
    · exact FinS.mono e1 (show FinS c Z F α G.length (forM g b ws s G1) E from h)
    rintro i m σ2 H2 ⟨rfl, hi, F2, α2, G2, s2, x2, A2, h2⟩
    have y := Y c rfl rfl (Same.refl _) F2 α2 G2 H2 x2 A2.rel i
    cases hw : ws[i]? with
    | none =>
      have hi' : ws.length ≤ i := List.getElem?_eq_none_iff.mp hw
      rw [List.drop_eq_nil_of_le hi'] at h2
      exact .inl ⟨y.2 (by omega), h2.nx A2⟩
    | some w =>
      obtain ⟨hlt, ew⟩ := List.getElem?_eq_some_iff.mp hw
      obtain ⟨g1, g2⟩ := y.1 w hw
      rw [List.drop_eq_getElem_cons hlt, ew] at h2
      refine .inr ⟨g1, fun σ' H' => ∃ F' α' G' s', Ext F1 α1 G1.length F' α' G'.length ∧ At c F' α' G' s' σ' H' ∧ FinS c Z F' α' G'.length (forM g b (ws.drop (i + 1)) s' G') E,
        fun σ' H' q => ⟨ws.length - (i + 1), by omega, rfl, hlt, q⟩, fun x H3 hx => ?_⟩
      obtain ⟨F3, x3, R3, r3⟩ := g2 x H3 hx
      refine ⟨F3, α2, G2, s2, w, ⟨R3, A2.sl.mono x3⟩, r3, ?_⟩
      have h3 := FinS.mono x3 h2
      unfold forM at h3
      cases e4 : g w s2 G2 with
      | bad => rw [e4] at h3; exact h3
      | exc x s' G' => rw [e4] at h3; exact h3
      | ok p4 =>
        obtain ⟨s4, G4⟩ := p4
        rw [e4] at h3
        intro F4 α4 H4 σ4 x4 A4
        refine ⟨F4, α4, G4, s4, A4, ?_⟩
        have h5 := FinS.mono x4 h3
        have far : Ext F1 α1 G1.length F4 α4 G4.length := x2.trans (x3.trans x4)
        dsimp only at h5
        cases e5 : b s4 G4 with
        | bad => rw [e5] at h5; exact h5
        | exc x s' G' => rw [e5] at h5; exact h5
        | ok p5 =>
          obtain ⟨q, G5⟩ := p5
          rw [e5] at h5
          cases q with
          | nx s5 => exact fun F' α' H' σ' e' A' => ⟨F', α', G5, s5, far.trans e', A', FinS.mono e' h5⟩
          | ct s5 => exact fun F' α' H' σ' e' A' => ⟨F', α', G5, s5, far.trans e', A', FinS.mono e' h5⟩
          | bk s5 => exact h5
          | rt w => exact h5
/-! ### while -/
def whM (t : FT) (b : FS) : Nat → FS
  | 0 => fun _ _ => .bad
  | n + 1 => fun s G => match t s G with
    | .ok (true, G1) => match b s G1 with
      | .ok (.nx s2, G2) => whM t b n s2 G2
      | .ok (.ct s2, G2) => whM t b n s2 G2
      | .ok (.bk s2, G2) => .ok (.nx s2, G2)
      | .ok (.rt x, G2) => .ok (.rt x, G2)
      | .exc x s2 G2 => .exc x s2 G2
      | .bad => .bad
    | .ok (false, G1) => .ok (.nx s, G1)
    | .exc x s1 G1 => .exc x s1 G1
    | .bad => .bad
theorem mWhile (n : Nat) {e : Expr} {body : List Stmt} {t : FT} {b : FS} (hp : PassesOwn (model X.prog X.w) X.A X.env X.xe) (ht : PT X e (tMT c Z t)) (hb : PSs X body (tMS c Z b)) : PS X (.While e body [] pos) (tMS c Z (whM t b n)) := by
  refine (ps_while hp ht hb).imp fun E σ H h => ?_
  obtain ⟨F, α, G, s, A, h⟩ := h
  refine ⟨fun m σ H => ∃ F' α' G' s', At c F' α' G' s' σ H ∧ FinS c Z F' α' G'.length (whM t b m s' G') E, ⟨n, F, α, G, s, A, h⟩, ?_⟩
  rintro m σ2 H2 ⟨F2, α2, G2, s2, A2, h2⟩
  cases m with
  | zero => exact h2.elim
  | succ m =>
    refine ⟨F2, α2, G2, s2, A2, ?_⟩
    unfold whM at h2
    cases e3 : t s2 G2 with
    | bad => rw [e3] at h2; exact h2
    | exc x s' G' => rw [e3] at h2; exact h2
    | ok p3 =>
      obtain ⟨k, G3⟩ := p3
      rw [e3] at h2
      intro F3 α3 H3 v x3 R3 r3
      have r3' : v = k := r3
      subst r3'
      cases v with
      | false => exact iteF (h2 F3 α3 H3 σ2 x3 ⟨R3, A2.sl.mono x3⟩)
      | true =>
        refine iteT ⟨fun σ' H' => ∃ F' α' G' s', At c F' α' G' s' σ' H' ∧ FinS c Z F' α' G'.length (whM t b m s' G') E, fun σ' H' q => ⟨m, Nat.lt_succ_self m, q⟩, F3, α3, G3, s2, ⟨R3, A2.sl.mono x3⟩, ?_⟩
        have h4 := FinS.mono x3 h2
        dsimp only at h4
        cases e5 : b s2 G3 with
        | bad => rw [e5] at h4; exact h4
        | exc x s' G' => rw [e5] at h4; exact h4
        | ok p5 =>
          obtain ⟨q, G5⟩ := p5
          rw [e5] at h4
          cases q with
          | nx s5 => exact fun F' α' H' σ' e' A' => ⟨F', α', G5, s5, A', FinS.mono e' h4⟩
          | ct s5 => exact fun F' α' H' σ' e' A' => ⟨F', α', G5, s5, A', FinS.mono e' h4⟩
          | bk s5 => exact h4
          | rt w => exact h4
end
end M

set_option maxRecDepth 100000
set_option maxHeartbeats 4000000
namespace M
open PySem PySem.Spec PyProof.Rows L2

/-! ### data as the library's data -/
mutual
def toPy : D → PyData
  | .non => .none
  | .bl b => .bool b
  | .int i => .int i
  | .str x => .str x
  | .tup xs => .tuple (toPys xs)
  | .lst xs => .list (toPys xs)
  | .scr ns => .list (ns.map PyData.int)
def toPys : List D → List PyData
  | [] => []
  | x :: xs => toPy x :: toPys xs
end
theorem dp_ints {K : PySem.W.Frag} {H : Hp} : ∀ ns : List Int, DpAll K H (ns.map V.int) (ns.map PyData.int)
  | [] => .nil
  | n :: ns => .cons (.int n) (dp_ints ns)
mutual
theorem RepD.dp {K : PySem.W.Frag} {H : Hp} : ∀ {d : D} {v : V}, RepD K H v d → Dp K H v (toPy d)
  | .non, _, h => by cases h; exact .non
  | .bl b, _, h => by cases h; exact .bl b
  | .int i, _, h => by cases h; exact .int i
  | .str x, _, h => by cases h; exact .str x
  | .tup ds, _, h => by
    cases h with
    | tup a b pl => exact .tup a (RepDs.dp b)
  | .lst ds, _, h => by
    cases h with
    | lst a b => exact .lst (SqL.of a) (RepDs.dp b)
  | .scr ns, _, h => by
    cases h with
    | scr a => exact .lst a (dp_ints ns)
theorem RepDs.dp {K : PySem.W.Frag} {H : Hp} : ∀ {ds : List D} {vs : List V}, RepDs K H vs ds → DpAll K H vs (toPys ds)
  | [], _, h => by cases h; exact .nil
  | d :: ds, _, h => by
    cases h with
    | cons a b => exact .cons (RepD.dp a) (RepDs.dp b)
end

/-! ### what a value is -/
/-- the items of a sequence, and whether it is a tuple -/
def asSeq (G : Gd) : W → Option (Bool × List W)
  | .d (.tup xs) => some (true, xs.map W.d)
  | .d (.lst xs) => some (false, xs.map W.d)
  | .d (.scr ns) => some (false, ns.map fun n => W.d (.int n))
  | .ref i => match G[i]? with
    | some (.lst ws) => some (false, ws)
    | some (.still ds) => some (false, ds.map W.d)
    | _ => none
  | _ => none
def toDat (G : Gd) : W → Option D
  | .d x => some x
  | .ref i => match G[i]? with
    | some (.lst ws) => (toDs ws).map D.lst
    | some (.still ds) => some (.lst ds)
    | _ => none
section
variable {c : RC} {F H : Hp} {α : Nat → Addr} {G : Gd}
theorem Rel.lstAt (R : Rel c F α G H) {i : Nat} {ws : List W} (h : G[i]? = some (.lst ws)) : ∃ vs, H (α i) = some (.lst vs) ∧ RepWs c.K F α G.length vs ws := by
  obtain ⟨⟨ho, e, r⟩, _⟩ := R.ob i _ h trivial
  cases ho with
  | lst vs => exact ⟨vs, e, r⟩
  | _ => exact r.elim
theorem reps_ints {K : PySem.W.Frag} {n : Nat} : ∀ ns : List Int, RepWs K F α n (ns.map V.int) (ns.map fun n => W.d (.int n))
  | [] => .nil
  | i :: ns => .cons (show RepW K F α n (.int i) (.d (.int i)) from RepD.int i) (reps_ints ns)
theorem asSeq_rep (R : Rel c F α G H) {v : V} {w : W} {t : Bool} {ws : List W} (r : RepW c.K F α G.length v w) (h : asSeq G w = some (t, ws)) :
    ∃ a vs, v = .ref a ∧ (if t = true then SqT c.K H a vs else SqL c.K H a vs) ∧ RepWs c.K F α G.length vs ws := by
  cases w with
  | ref i =>
    simp only [asSeq] at h
    split at h
    · rename_i ws' e
      cases h
      obtain ⟨vs, e1, r1⟩ := R.lstAt e
      exact ⟨_, vs, r.2, iteF (SqL.of e1), r1⟩
    · rename_i ds e
      cases h
      obtain ⟨vs, e1, r1⟩ := R.st i ds e
      exact ⟨_, vs, r.2, iteF (SqL.of (R.fh _ _ e1)), RepDs.ws r1⟩
    · cases h
  | d x =>
    cases x with
    | tup xs =>
      cases h
      cases r with
      | tup a b pl => exact ⟨_, _, rfl, iteT (Same.seqT R.fh a), RepDs.ws b⟩
    | lst xs =>
      cases h
      cases r with
      | lst a b => exact ⟨_, _, rfl, iteF (SqL.of (R.fh _ _ a)), RepDs.ws b⟩
    | scr ns =>
      cases h
      cases r with
      | scr a => exact ⟨_, _, rfl, iteF (L2.Same.seq R.fh a), reps_ints ns⟩
    | _ => cases h
theorem asSeq_any (R : Rel c F α G H) {v : V} {w : W} {t : Bool} {ws : List W} (r : RepW c.K F α G.length v w) (h : asSeq G w = some (t, ws)) :
    ∃ a vs, v = .ref a ∧ (SqL c.K H a vs ∨ SqT c.K H a vs) ∧ RepWs c.K F α G.length vs ws := by
  obtain ⟨a, vs, e, h1, h2⟩ := asSeq_rep R r h
  refine ⟨a, vs, e, ?_, h2⟩
  cases t with
  | true => rw [if_pos rfl] at h1; exact .inr h1
  | false => rw [if_neg Bool.false_ne_true] at h1; exact .inl h1
theorem toDat_dp (R : Rel c F α G H) {v : V} {w : W} {x : D} (r : RepW c.K F α G.length v w) (h : toDat G w = some x) : Dp c.K H v (toPy x) := by
  cases w with
  | d y => cases h; exact RepD.dp (RepD.mono R.fh r)
  | ref i =>
    simp only [toDat] at h
    split at h
    · rename_i ws e
      rw [Option.map_eq_some_iff] at h
      obtain ⟨ds, e1, rfl⟩ := h
      obtain ⟨vs, e2, r2⟩ := R.lstAt e
      rw [toDs_eq e1] at r2
      rw [r.2]
      exact .lst (SqL.of e2) (RepDs.dp (RepDs.mono R.fh (RepWs.ds r2)))
    · rename_i ds e
      cases h
      obtain ⟨vs, e1, r1⟩ := R.st i ds e
      rw [r.2]
      exact .lst (SqL.of (R.fh _ _ e1)) (RepDs.dp (RepDs.mono R.fh r1))
    · cases h
end

/-! ### new things -/
/-- a new list: one that may change (m), or one that stands still -/
def newL (m : Bool) (ws : List W) (G : Gd) : R (W × Gd) := if m = true then .ok (.ref G.length, G ++ [.lst ws]) else match toDs ws with
  | some ds => .ok (.d (.lst ds), G)
  | none => .bad
def newT (ws : List W) (G : Gd) : R (W × Gd) := match toDs ws with
  | some ds => .ok (.d (.tup ds), G)
  | none => .bad
section
variable {c : RC} {Z : WX} {F H : Hp} {α : Nat → Addr} {G : Gd} {p : Addr} {Q : VK}
theorem newL_fin {m : Bool} {vs : List V} {ws : List W} (h : FinE c Z F α G.length (newL m ws G) Q) (R : Rel c F α G H) (r : RepWs c.K F α G.length vs ws) (hp : H p = none) : Q (.ref p) (upd H p (.lst vs)) := by
  unfold newL at h
  cases m with
  | true =>
    rw [if_pos rfl] at h
    obtain ⟨R', e'⟩ := R.push hp (ho := .lst vs) (o := .lst ws) r
    exact h _ _ _ _ e' R' ⟨by simp, by rw [pushA_eq]⟩
  | false =>
    rw [if_neg Bool.false_ne_true] at h
    split at h
    · rename_i ds e
      obtain ⟨R', e'⟩ := R.frz hp (.lst vs)
      rw [toDs_eq e] at r
      exact h _ _ _ _ e' R' (show RepD c.K _ _ _ from .lst upd_same (RepDs.mono e'.f (RepWs.ds r)))
    · exact h.elim
theorem newT_fin {vs : List V} {ws : List W} (h : FinE c Z F α G.length (newT ws G) Q) (R : Rel c F α G H) (r : RepWs c.K F α G.length vs ws) (hp : H p = none) {o : Obj} (ho : o.dict = none) : Q (.ref p) (upd H p (.frz o (.tup vs))) := by
  unfold newT at h
  split at h
  · rename_i ds e
    obtain ⟨R', e'⟩ := R.frz hp (.frz o (.tup vs))
    rw [toDs_eq e] at r
    exact h _ _ _ _ e' R' (show RepD c.K _ _ _ from .tup (.inl (.inr ⟨o, upd_same⟩)) (RepDs.mono e'.f (RepWs.ds r)) fun _ => .inl ⟨o, _, upd_same, ho⟩)
  · exact h.elim
end
/-! ### operators -/
section
variable {X : Cx} {c : RC} {Z : WX}
def rAddAny (K : PySem.W.Frag) : R2 := fun x y H Q => (∃ i j, x = .int i ∧ y = .int j ∧ Q (.int (i + j)) H) ∨ (∃ i j, x = .str i ∧ y = .str j ∧ i.length + j.length ≤ sizeLine ∧ Q (.str (i ++ j)) H) ∨ rCat x y H Q ∨ rCatAP K x y H Q
theorem op_addAny : OpR X (binaryOp .Add) (rAddAny X.K) := OpR.or op_add (OpR.or op_add_str (OpR.or op_cat op_catAP))
def wAdd (m : Bool) (a b : W) (G : Gd) : R (W × Gd) := match a, b with
  | .d (.int i), .d (.int j) => .ok (.d (.int (i + j)), G)
  | .d (.str x), .d (.str y) => if x.length + y.length ≤ sizeLine then .ok (.d (.str (x ++ y)), G) else .bad
  | .d (.tup xs), .d (.tup ys) => if xs.length + ys.length ≤ sizeLine then .ok (.d (.tup (xs ++ ys)), G) else .bad
  | .d (.scr _), _ => .bad
  | _, .d (.scr _) => .bad
  | a, b => match asSeq G a, asSeq G b with
    | some (false, xs), some (false, ys) => if xs.length + ys.length ≤ sizeLine then newL m (xs ++ ys) G else .bad
    | _, _ => .bad
theorem rdL {F H : Hp} {α : Nat → Addr} {G : Gd} (R : Rel c F α G H) {v : V} {w : W} {ws : List W} (r : RepW c.K F α G.length v w) (h : asSeq G w = some (false, ws)) (hn : ∀ ns, w ≠ .d (.scr ns)) :
    ∃ a vs, v = .ref a ∧ H a = some (.lst vs) ∧ RepWs c.K F α G.length vs ws := by
  cases w with
  | ref i =>
    simp only [asSeq] at h
    split at h
    · rename_i ws' e
      cases h
      obtain ⟨vs, e1, r1⟩ := R.lstAt e
      exact ⟨_, vs, r.2, e1, r1⟩
    · rename_i ds e
      cases h
      obtain ⟨vs, e1, r1⟩ := R.st i ds e
      exact ⟨_, vs, r.2, R.fh _ _ e1, RepDs.ws r1⟩
    · cases h
  | d x =>
    cases x with
    | lst xs =>
      cases h
      cases r with
      | lst a b => exact ⟨_, _, rfl, R.fh _ _ a, RepDs.ws b⟩
    | scr ns => exact absurd rfl (hn ns)
    | _ => cases h
theorem om_add (m : Bool) : OpM c Z (rAddAny c.K) (wAdd m) := by
  intro F α G H x y a b Q R ra rb h
  unfold wAdd at h
  split at h
  · cases ra; cases rb
    exact .inl ⟨_, _, rfl, rfl, h F α H _ Ext.refl R (RepD.int _)⟩
  · split at h
    · rename_i hl
      cases ra; cases rb
      exact .inr (.inl ⟨_, _, rfl, rfl, hl, h F α H _ Ext.refl R (RepD.str _)⟩)
    · exact h.elim
  · split at h
    · rename_i xs ys hl
      cases ra with
      | tup a1 b1 pl1 =>
        cases rb with
        | tup a2 b2 pl2 =>
          have l1 := RepDs.length b1
          have l2 := RepDs.length b2
          refine .inr (.inr (.inr ⟨_, _, _, _, rfl, rfl, Same.seqT R.fh a1, Same.seqT R.fh a2, by rw [l1, l2]; exact hl, fun e => ?_, fun e e2 => ?_, fun e e2 p o hp ho => ?_⟩))
          · have ex : xs = [] := List.length_eq_zero_iff.mp (by rw [← l1, e]; rfl)
            subst ex
            exact h F α H _ Ext.refl R (show RepD c.K F _ _ from .tup a2 b2 pl2)
          · have ey : ys = [] := List.length_eq_zero_iff.mp (by rw [← l2, e2]; rfl)
            subst ey
            rw [List.append_nil] at h
            exact h F α H _ Ext.refl R (show RepD c.K F _ _ from .tup a1 b1 pl1)
          · obtain ⟨R', e'⟩ := R.frz hp (.frz o (.tup _))
            exact h _ _ _ _ e' R' (show RepD c.K _ _ _ from .tup (.inl (.inr ⟨o, upd_same⟩)) (RepDs.mono e'.f (RepDs.append b1 b2)) fun _ => .inl ⟨o, _, upd_same, ho⟩)
    · exact h.elim
  · exact h.elim
  · exact h.elim
  · split at h
    · rename_i hn1 hn2 _ _ _ _ _ xs ys e1 e2
      split at h
      · rename_i hl
        obtain ⟨p1, v1, rfl, q1, r1⟩ := rdL R ra e1 hn1
        obtain ⟨p2, v2, rfl, q2, r2⟩ := rdL R rb e2 hn2
        exact .inr (.inr (.inl ⟨_, _, _, _, rfl, rfl, q1, q2, by rw [r1.length, r2.length]; exact hl, fun p hp => newL_fin h R (r1.append r2) hp⟩))
      · exact h.elim
    · exact h.elim
/-- operations on ints -/
def wInt (C : Int → Int → Bool) (g : Int → Int → Int) (a b : W) (G : Gd) : R (W × Gd) := match a, b with
  | .d (.int i), .d (.int j) => gate (C i j = true) (.ok (.d (.int (g i j)), G))
  | _, _ => .bad
theorem om_int {C : Int → Int → Bool} {P : Int → Int → Prop} {g : Int → Int → Int} (hC : ∀ i j, C i j = true → P i j) : OpM c Z (rI P fun i j => .int (g i j)) (wInt C g) := by
  intro F α G H x y a b Q R ra rb h
  unfold wInt at h
  split at h
  · unfold gate at h
    split at h
    · rename_i hc
      cases ra; cases rb
      exact ⟨_, _, rfl, rfl, hC _ _ hc, h F α H _ Ext.refl R (RepD.int _)⟩
    · exact h.elim
  · exact h.elim
def wSub : W → W → Gd → R (W × Gd) := wInt (fun _ _ => true) fun i j => i - j
theorem om_sub : OpM c Z (rI0 fun i j => .int (i - j)) wSub := by
  intro F α G H x y a b Q R ra rb h
  obtain ⟨i, j, e1, e2, _, q⟩ := om_int (c := c) (Z := Z) (P := fun _ _ => True) (fun _ _ _ => trivial) F α G H x y a b Q R ra rb h
  exact ⟨i, j, e1, e2, q⟩
/-- * of ints: one of both below 2 ^ 64, or both below a million bits together -/
def mulOk (i j : Int) : Bool := decide ((-(2 ^ 64) < i ∧ i < 2 ^ 64) ∨ (-(2 ^ 64) < j ∧ j < 2 ^ 64) ∨ i.natAbs.log2 + j.natAbs.log2 < 1000000)
instance {x : Str} {n : Int} : Decidable (MulOk x n) := by unfold MulOk; infer_instance
def rMulStr : R2 := fun x y H Q => ∃ z n, x = .str z ∧ y = .int n ∧ MulOk z n ∧ Q (.str (Txt.mul z n)) H
theorem op_mulStr : OpR X (binaryOp .Mult) rMulStr := by
  intro pins st σ H v1 v2 u1 u2 Q I q1 q2 ⟨z, n, e1, e2, hm, hQ⟩
  subst e1; subst e2
  obtain ⟨t1, rfl⟩ := q1
  obtain ⟨t2, rfl⟩ := q2
  exact SB.mul hm fun t' k => ⟨.str _, H, I.tok _, ⟨_, rfl⟩, hQ⟩
def rMulAny : R2 := fun x y H Q => rI CMul (fun i j => .int (i * j)) x y H Q ∨ rI CMulW (fun i j => .int (i * j)) x y H Q ∨ rMulStr x y H Q ∨ rRep x y H Q
theorem op_mulAny : OpR X (binaryOp .Mult) rMulAny := OpR.or op_mul (OpR.or op_mulW (OpR.or op_mulStr op_rep))
def wMul (m : Bool) (a b : W) (G : Gd) : R (W × Gd) := match a, b with
  | .d (.int i), .d (.int j) => gate (mulOk i j = true) (.ok (.d (.int (i * j)), G))
  | .d (.str z), .d (.int n) => gate (MulOk z n) (.ok (.d (.str (Txt.mul z n)), G))
  | .d (.scr _), _ => .bad
  | a, .d (.int k) => match asSeq G a with
    | some (false, ws) => gate (-(2 ^ 63) ≤ k ∧ k < 2 ^ 63 ∧ ws.length * k.toNat ≤ sizeLine) (newL m (List.replicate k.toNat ws).flatten G)
    | _ => .bad
  | _, _ => .bad
theorem reps_rep {K : PySem.W.Frag} {F : Hp} {α : Nat → Addr} {n : Nat} {vs : List V} {ws : List W} (r : RepWs K F α n vs ws) : ∀ k : Nat, RepWs K F α n (List.replicate k vs).flatten (List.replicate k ws).flatten
  | 0 => .nil
  | k + 1 => by
    rw [List.replicate_succ, List.replicate_succ, List.flatten_cons, List.flatten_cons]
    exact r.append (reps_rep r k)
theorem om_mul (m : Bool) : OpM c Z rMulAny (wMul m) := by
  intro F α G H x y a b Q R ra rb h
  unfold wMul at h
  split at h
  · unfold gate at h
    split at h
    · rename_i i j hc
      cases ra; cases rb
      have hc' := of_decide_eq_true hc
      have fin := h F α H _ Ext.refl R (RepD.int _)
      rcases hc' with k | k | k
      · exact .inl ⟨_, _, rfl, rfl, .inl k, fin⟩
      · exact .inl ⟨_, _, rfl, rfl, .inr k, fin⟩
      · exact .inr (.inl ⟨_, _, rfl, rfl, k, fin⟩)
    · exact h.elim
  · unfold gate at h
    split at h
    · rename_i hm
      cases ra; cases rb
      exact .inr (.inr (.inl ⟨_, _, rfl, rfl, hm, h F α H _ Ext.refl R (RepD.str _)⟩))
    · exact h.elim
  · exact h.elim
  · split at h
    · rename_i hn _ ws e
      unfold gate at h
      split at h
      · rename_i hc
        cases rb
        obtain ⟨p, vs, rfl, hq, r⟩ := rdL R ra e hn
        exact .inr (.inr (.inr ⟨p, _, vs, rfl, rfl, hq, hc.1, hc.2.1, by rw [r.length]; exact hc.2.2, fun q hq' => newL_fin h R (reps_rep r _) hq'⟩))
      · exact h.elim
    · exact h.elim
  · exact h.elim
def wMod : W → W → Gd → R (W × Gd) := wInt (fun _ j => decide (0 < j)) fun i j => i % j
theorem om_mod : OpM c Z (rI (fun _ j => 0 < j) fun i j => .int (i % j)) wMod := om_int fun _ _ h => of_decide_eq_true h
/-- // by a positive divisor -/
def wDiv : W → W → Gd → R (W × Gd) := wInt (fun _ j => decide (0 < j ∧ j < 1073741824)) fun i j => i / j
theorem om_div : OpM c Z (rI CDiv fun i j => .int (i / j)) wDiv := om_int fun i j h => show 0 < j ∧ j < 1073741824 from of_decide_eq_true h
def wPow : W → W → Gd → R (W × Gd) := wInt (fun i j => decide (0 ≤ j ∧ j ≤ 1000000 ∧ i.natAbs < 2 ^ 64)) fun i j => i ^ j.toNat
theorem om_pow : OpM c Z (rI CPow fun i j => .int (i ^ j.toNat)) wPow := om_int fun i j h => show 0 ≤ j ∧ j ≤ 1000000 ∧ i.natAbs < 2 ^ 64 from of_decide_eq_true h
def eNeg (f : FE) : FE := seqF f fun w _ G => match w with
  | .d (.int i) => .ok (.d (.int (-i)), G)
  | _ => .bad
theorem mNeg {a : Expr} {f : FE} {pos : Pos} (h : PE X a (tM c Z f)) : PE X (.UnaryOp .USub a pos) (tM c Z (eNeg f)) :=
  (pe_un un_neg h).imp fun σ H Q h => (tG.seq (rep := RepW) h).imp fun v H1 ⟨F1, α1, G1, s, w, A1, r1, h1⟩ => by
    cases w with
    | ref i => exact h1.elim
    | d x =>
      cases x with
      | int i => cases r1; exact ⟨i, rfl, Fin.ret (rep := RepW) h1 A1 (.int _)⟩
      | _ => exact h1.elim
/-! comparisons -/
def rEqM (K : PySem.W.Frag) (neg : Bool) : R2 := fun x y H Q => ∃ d e, Dp K H x d ∧ Dp K H y e ∧ d.canLay0 = true ∧ e.canLay0 = true ∧ min d.depth e.depth ≤ 64 ∧ Q (.bl (if neg = true then !PyData.eqv d e else PyData.eqv d e)) H
theorem op_eqM (hu : X.A.units + 64 < cLine) : OpR X (compareOp .Eq) (rEqM X.K false) := by
  intro pins st σ H v1 v2 u1 u2 Q I q1 q2 ⟨d, e, hd, he, cd, ce, hm, hQ⟩
  obtain ⟨l1, k1⟩ := Dp.reads I d v1 u1 hd q1
  obtain ⟨l2, k2⟩ := Dp.reads I e v2 u2 he q2
  exact SeqAt.compareEq_reads k1 k2 cd ce (Nat.lt_of_le_of_lt (Nat.add_le_add_left hm _) hu) ⟨.bl _, H, I, rfl, hQ⟩
theorem op_neM (hu : X.A.units + 64 < cLine) : OpR X (compareOp .NotEq) (rEqM X.K true) := by
  intro pins st σ H v1 v2 u1 u2 Q I q1 q2 ⟨d, e, hd, he, cd, ce, hm, hQ⟩
  obtain ⟨l1, k1⟩ := Dp.reads I d v1 u1 hd q1
  obtain ⟨l2, k2⟩ := Dp.reads I e v2 u2 he q2
  exact SeqAt.compareNe_reads k1 k2 cd ce (Nat.lt_of_le_of_lt (Nat.add_le_add_left hm _) hu) ⟨.bl _, H, I, rfl, hQ⟩
def rEqAny (K : PySem.W.Frag) : R2 := fun x y H Q => rEq x y H Q ∨ rEqM K false x y H Q
def rNeAny (K : PySem.W.Frag) : R2 := fun x y H Q => rNe x y H Q ∨ rEqM K true x y H Q
theorem op_eqAny (hu : X.A.units + 64 < cLine) : OpR X (compareOp .Eq) (rEqAny X.K) := OpR.or op_eq (op_eqM hu)
theorem op_neAny (hu : X.A.units + 64 < cLine) : OpR X (compareOp .NotEq) (rNeAny X.K) := OpR.or op_ne (op_neM hu)
/-- == of scalars that are told apart by their kind -/
def eqS : D → D → Option Bool
  | .int i, .int j => some (decide (i = j))
  | .str x, .str y => some (decide (x = y))
  | .bl x, .bl y => some (decide (x = y))
  | .non, .non => some true
  | .non, .int _ => some false | .int _, .non => some false | .non, .str _ => some false | .str _, .non => some false | .non, .bl _ => some false | .bl _, .non => some false
  | .int _, .str _ => some false | .str _, .int _ => some false | .bl _, .str _ => some false | .str _, .bl _ => some false
  | _, _ => none
def layD (x : D) : Bool := (toPy x).canLay0
def shal (x : D) : Bool := decide ((toPy x).depth ≤ 64)
def eqD (x y : D) : Bool := PyData.eqv (toPy x) (toPy y)
def wEqD (x y : D) : Option Bool := match eqS x y with
  | some k => some k
  | none => if layD x = true ∧ layD y = true ∧ (shal x = true ∨ shal y = true) then some (eqD x y) else none
def wEq (neg : Bool) (a b : W) (G : Gd) : R (W × Gd) := match toDat G a, toDat G b with
  | some x, some y => match wEqD x y with
    | some k => .ok (.d (.bl (if neg = true then !k else k)), G)
    | none => .bad
  | _, _ => .bad
theorem eqS_scal {K : PySem.W.Frag} {F : Hp} {x y : D} {v u : V} {k : Bool} (rx : RepD K F v x) (ry : RepD K F u y) (h : eqS x y = some k) : scal v u = true ∧ decide (v = u) = k := by
  cases x <;> cases y <;> simp only [eqS, Option.some.injEq, reduceCtorEq] at h <;> cases rx <;> cases ry <;> subst h <;> simp [scal]
theorem toDat_repS {F H : Hp} {α : Nat → Addr} {G : Gd} {v : V} {w : W} {x : D} (r : RepW c.K F α G.length v w) (h : toDat G w = some x) (hl : ∀ l, x ≠ .lst l) : RepD c.K F v x := by
  cases w with
  | d y => cases h; exact r
  | ref i =>
    simp only [toDat] at h
    split at h
    · rw [Option.map_eq_some_iff] at h
      obtain ⟨ds, _, rfl⟩ := h
      exact absurd rfl (hl _)
    · cases h
      exact absurd rfl (hl _)
    · cases h
theorem eqS_nl {x y : D} {k : Bool} (h : eqS x y = some k) : (∀ l, x ≠ .lst l) ∧ ∀ l, y ≠ .lst l := by
  constructor <;> intro l e <;> subst e
  · cases y <;> simp [eqS] at h
  · cases x <;> simp [eqS] at h
theorem wEq_core {F H : Hp} {α : Nat → Addr} {G : Gd} {x y : V} {a b : W} {Q : VK} {neg : Bool} (R : Rel c F α G H) (ra : RepW c.K F α G.length x a) (rb : RepW c.K F α G.length y b) (h : FinE c Z F α G.length (wEq neg a b G) Q) :
    (∃ k, scal x y = true ∧ decide (x = y) = k ∧ Q (.bl (if neg = true then !k else k)) H) ∨ rEqM c.K neg x y H Q := by
  unfold wEq at h
  split at h
  · rename_i dx dy e1 e2
    split at h
    · rename_i k e
      have fin := h F α H _ Ext.refl R (RepD.bl _)
      unfold wEqD at e
      split at e
      · rename_i k' e3
        cases e
        obtain ⟨n1, n2⟩ := eqS_nl e3
        obtain ⟨s1, s2⟩ := eqS_scal (toDat_repS (H := H) ra e1 n1) (toDat_repS (H := H) rb e2 n2) e3
        exact .inl ⟨k, s1, s2, fin⟩
      · split at e
        · rename_i hc
          cases e
          refine .inr ⟨_, _, toDat_dp R ra e1, toDat_dp R rb e2, hc.1, hc.2.1, ?_, fin⟩
          rcases hc.2.2 with z | z
          · exact Nat.le_trans (Nat.min_le_left _ _) (of_decide_eq_true z)
          · exact Nat.le_trans (Nat.min_le_right _ _) (of_decide_eq_true z)
        · cases e
    · exact h.elim
  · exact h.elim
theorem om_eq : OpM c Z (rEqAny c.K) (wEq false) := by
  intro F α G H x y a b Q R ra rb h
  rcases wEq_core R ra rb h with ⟨k, s, e, q⟩ | q
  · refine .inl ⟨s, ?_⟩
    rw [e]; exact q
  · exact .inr q
theorem om_ne : OpM c Z (rNeAny c.K) (wEq true) := by
  intro F α G H x y a b Q R ra rb h
  rcases wEq_core R ra rb h with ⟨k, s, e, q⟩ | q
  · refine .inl ⟨s, ?_⟩
    rw [e]; exact q
  · exact .inr q
/-- <, <=, >, >= of ints -/
def wCmpI (p : Int → Int → Bool) (a b : W) (G : Gd) : R (W × Gd) := match a, b with
  | .d (.int i), .d (.int j) => .ok (.d (.bl (p i j)), G)
  | _, _ => .bad
theorem om_cmpI {p : Int → Int → Bool} : OpM c Z (rI0 fun i j => .bl (p i j)) (wCmpI p) := by
  intro F α G H x y a b Q R ra rb h
  unfold wCmpI at h
  split at h
  · cases ra; cases rb
    exact ⟨_, _, rfl, rfl, h F α H _ Ext.refl R (RepD.bl _)⟩
  · exact h.elim
/-- is None -/
def isNonW : W → Bool
  | .d .non => true
  | _ => false
def wIsN (neg : Bool) (a b : W) (G : Gd) : R (W × Gd) := match b with
  | .d .non => .ok (.d (.bl (if neg = true then !isNonW a else isNonW a)), G)
  | _ => .bad
theorem isN_rep {F : Hp} {α : Nat → Addr} {n : Nat} {K : PySem.W.Frag} {v : V} {w : W} (r : RepW K F α n v w) : decide (v = .non) = isNonW w := by
  cases w with
  | ref i =>
    obtain ⟨_, e⟩ := r
    subst e
    rfl
  | d x => cases x <;> cases r <;> rfl
theorem om_isN : OpM c Z (fun x y H Q => y = .non ∧ Q (.bl (decide (x = .non))) H) (wIsN false) := by
  intro F α G H x y a b Q R ra rb h
  unfold wIsN at h
  split at h
  · cases rb
    refine ⟨rfl, ?_⟩
    rw [isN_rep ra]
    exact h F α H _ Ext.refl R (RepD.bl _)
  · exact h.elim
theorem om_notN : OpM c Z (fun x y H Q => y = .non ∧ Q (.bl (!decide (x = .non))) H) (wIsN true) := by
  intro F α G H x y a b Q R ra rb h
  unfold wIsN at h
  split at h
  · cases rb
    refine ⟨rfl, ?_⟩
    rw [isN_rep ra]
    exact h F α H _ Ext.refl R (RepD.bl _)
  · exact h.elim
/-- in: a sign in a text, a flat thing in a sequence -/
def flatD : D → Bool
  | .non => true | .bl _ => true | .int _ => true | .str _ => true | _ => false
def eqF : D → D → Bool
  | .non, .non => true
  | .bl a, .bl b => a == b
  | .bl a, .int b => (if a then 1 else 0) == b
  | .int a, .bl b => a == (if b then 1 else 0)
  | .int a, .int b => a == b
  | .str a, .str b => a == b
  | _, _ => false
def inD (x : D) (xs : List D) : Bool := xs.any fun y => eqF y x
def wIn (neg : Bool) (a b : W) (G : Gd) : R (W × Gd) := match a, b with
  | .d (.str x), .d (.str z) => if h : x.cps.size = 1 then .ok (.d (.bl (if neg = true then !decide (x.cps[0] ∈ z.cps.toList) else decide (x.cps[0] ∈ z.cps.toList))), G) else .bad
  | .d x, b => match asSeq G b with
    | some (_, ws) => match toDs ws with
      | some ds => if flatD x = true ∧ ds.all flatD = true then .ok (.d (.bl (if neg = true then !inD x ds else inD x ds)), G) else .bad
      | none => .bad
    | none => .bad
  | _, _ => .bad
def rInAny (K : PySem.W.Frag) (neg : Bool) : R2 := fun x y H Q => (∃ (c : Nat) (z : Str), x = .str ⟨#[c]⟩ ∧ y = .str z ∧ Q (.bl (if neg = true then !decide (c ∈ z.cps.toList) else decide (c ∈ z.cps.toList))) H) ∨ rIn K neg x y H Q
theorem op_inAny : OpR X (compareOp .In) (rInAny X.K false) := OpR.or op_in_sign op_in_seq
theorem op_notInAny : OpR X (compareOp .NotIn) (rInAny X.K true) := OpR.or op_notIn_sign op_notIn_seq
theorem flat_rep {K : PySem.W.Frag} {F : Hp} {v : V} {x : D} (r : RepD K F v x) (h : flatD x = true) : flatV v = true := by
  cases x <;> first | (cases r; rfl) | cases h
theorem eqF_rep {K : PySem.W.Frag} {F : Hp} {v u : V} {x y : D} (r : RepD K F v x) (r' : RepD K F u y) (h : flatD x = true) (h' : flatD y = true) : eqV v u = eqF x y := by
  cases x <;> cases y <;> first | (cases r; cases r'; rfl) | cases h | cases h'
theorem inD_rep {K : PySem.W.Frag} {F : Hp} {v : V} {x : D} (r : RepD K F v x) (h : flatD x = true) : ∀ {vs : List V} {ds : List D}, RepDs K F vs ds → ds.all flatD = true → vs.all flatV = true ∧ inV v vs = inD x ds
  | _, [], q, _ => by cases q; exact ⟨rfl, rfl⟩
  | _, d :: ds, q, hd => by
    cases q with
    | cons a b =>
      rw [List.all_cons, Bool.and_eq_true] at hd
      obtain ⟨i1, i2⟩ := inD_rep r h b hd.2
      refine ⟨by rw [List.all_cons, flat_rep a hd.1, i1]; rfl, ?_⟩
      unfold inV inD at *
      rw [List.any_cons, List.any_cons, i2, eqF_rep a r hd.1 h]
theorem om_in (neg : Bool) : OpM c Z (rInAny c.K neg) (wIn neg) := by
  intro F α G H x y a b Q R ra rb h
  unfold wIn at h
  split at h
  · rename_i z1 z2
    split at h
    · rename_i hs
      cases ra; cases rb
      have e : z1 = ⟨#[z1.cps[0]]⟩ := by
        obtain ⟨cps⟩ := z1
        have hs' : cps.size = 1 := hs
        congr 1
        apply Array.ext
        · simpa using hs'
        · intro i h1 h2
          have : i = 0 := by simp at h2; omega
          subst this; rfl
      exact .inl ⟨_, z2, congrArg V.str e, rfl, h F α H _ Ext.refl R (RepD.bl _)⟩
    · exact h.elim
  · rename_i dx b' hn
    split at h
    · rename_i t ws e1
      split at h
      · rename_i ds e2
        split at h
        · rename_i hc
          obtain ⟨p, vs, rfl, hq, r⟩ := asSeq_any R rb e1
          rw [toDs_eq e2] at r
          have r' := RepWs.ds r
          obtain ⟨i1, i2⟩ := inD_rep ra hc.1 r' hc.2
          refine .inr ⟨p, vs, rfl, hq, flat_rep ra hc.1, i1, ?_⟩
          rw [i2]
          exact h F α H _ Ext.refl R (RepD.bl _)
        · exact h.elim
      · exact h.elim
    · exact h.elim
  · exact h.elim
end
end M

set_option maxRecDepth 100000
set_option maxHeartbeats 4000000
namespace M
open PySem PySem.Spec PyProof.Rows L2
section
variable {X : Cx} {c : RC} {Z : WX} {pos : Pos}
/-! ### subscripts -/
theorem atI_rep {β γ : Type} {P : β → γ → Prop} {vs : List β} {ws : List γ} {i : Int} {w : γ} (hl : vs.length = ws.length) (get : ∀ (j : Nat) w, ws[j]? = some w → ∃ v, vs[j]? = some v ∧ P v w) (h : atI ws i = some w) : ∃ v, atI vs i = some v ∧ P v w := by
  unfold atI at h ⊢
  rw [hl]
  cases e : ixN ws.length i with
  | none => rw [e] at h; cases h
  | some j => rw [e] at h; exact get j w h
def wIx (a b : W) (G : Gd) : R (W × Gd) := match b with
  | .d (.int i) => match a with
    | .d (.str z) => if z.length ≤ sizeLine then match atI z.cps.toList i with
      | some k => .ok (.d (.str ⟨#[k]⟩), G)
      | none => .bad else .bad
    | a => match asSeq G a with
      | some (_, ws) => match atI ws i with
        | some w => .ok (w, G)
        | none => .bad
      | none => .bad
  | _ => .bad
theorem om_ix : OpM c Z (rIx c.K) wIx := by
  intro F α G H x y a b Q R ra rb h
  unfold wIx at h
  split at h
  · cases rb
    split at h
    · split at h
      · rename_i hl
        split at h
        · rename_i k e
          cases ra
          exact .inr (.inr ⟨_, _, k, rfl, rfl, hl, e, h F α H _ Ext.refl R (RepD.str _)⟩)
        · exact h.elim
      · exact h.elim
    · split at h
      · rename_i t ws e
        split at h
        · rename_i w e2
          obtain ⟨p, vs, rfl, hq, r⟩ := asSeq_rep R ra e
          obtain ⟨v, e3, r3⟩ := atI_rep (P := RepW c.K F α G.length) r.length (fun j w h => r.get h) e2
          have fin := h F α H v Ext.refl R r3
          cases t with
          | true => rw [if_pos rfl] at hq; exact .inr (.inl ⟨p, vs, _, v, rfl, rfl, hq, e3, fin⟩)
          | false => rw [if_neg Bool.false_ne_true] at hq; exact .inl ⟨p, vs, _, v, rfl, rfl, hq, e3, fin⟩
        · exact h.elim
      · exact h.elim
  · exact h.elim
theorem mIx {a b : Expr} {fa fb : FE} (hK : X.K = c.K) (ha : PE X a (tM c Z fa)) (hb : PE X b (tM c Z fb)) (hs : PlainIx b := by intro _ _; rfl) : PE X (.Subscript a b pos) (tM c Z (e2 wIx fa fb)) :=
  (pe_ix (r := rIx X.K) ix_seq ha hb hs).imp fun σ H Q h => by rw [hK]; exact om_ix.op σ H Q h
/-- slices -/
def RepP : PySem.W.Frag → Hp → (Nat → Addr) → Nat → Option Int → Option Int → Prop := fun _ _ _ _ a b => a = b
abbrev FP := Sd → Gd → R (Option Int × Gd)
abbrev tMP (c : RC) (Z : WX) (f : FP) : TO := tG RepP c Z f
theorem _root_.L2.PO.imp {X : Cx} {e : Option Expr} {t t' : TO} (h : PO X e t) (i : ∀ σ H Q, t' σ H Q → t σ H Q) : PO X e t' := ⟨fun pins s σ H Q I w => h.run pins s σ H Q I (i σ H Q w)⟩
def pNo : FP := fun _ G => .ok (none, G)
def pSo (f : FE) : FP := seqF f fun w _ G => match w with
  | .d (.int i) => .ok (some i, G)
  | _ => .bad
theorem mPNo : PO X none (tMP c Z pNo) := po_none.imp fun σ H Q ⟨F, α, G, s, A, h⟩ => h F α H none Ext.refl A.rel rfl
theorem mPSo {e : Expr} {f : FE} (h : PE X e (tM c Z f)) : PO X (some e) (tMP c Z (pSo f)) :=
  (po_some h).imp fun σ H Q h => (tG.seq (rep := RepW) h).imp fun v H1 ⟨F1, α1, G1, s, w, A1, r1, h1⟩ => by
    cases w with
    | ref i => exact h1.elim
    | d x =>
      cases x with
      | int i => cases r1; exact ⟨i, rfl, Fin.ret (rep := RepP) h1 A1 rfl⟩
      | _ => exact h1.elim
def cutG {β : Type} (xs : List β) (lo hi : Option Int) : List β := (xs.drop (HT.sIx xs.length 0 lo)).take (HT.sIx xs.length xs.length hi - HT.sIx xs.length 0 lo)
def wSl (m : Bool) (w : W) (l u : Option Int) (G : Gd) : R (W × Gd) := match w with
  | .d (.str z) => if z.length ≤ sizeLine then .ok (.d (.str (cutS z l u)), G) else .bad
  | .d (.tup xs) => .ok (.d (.tup (cutG xs l u)), G)
  | w => match asSeq G w with
    | some (false, ws) => newL m (cutG ws l u) G
    | _ => .bad
def eSl (m : Bool) (f : FE) (lo hi : FP) : FE := seqF f fun w => seqF lo fun l => seqF hi fun u _ G => wSl m w l u G
def rSlAny (K : PySem.W.Frag) : V → Option Int → Option Int → Hp → VK → Prop := fun x l u H Q => rSlL K x l u H Q ∨ rSlAP K x l u H Q ∨ rSlS x l u H Q
theorem sl_any : SlR X (rSlAny X.K) := SlR.or sl_list (SlR.or sl_tupAP sl_str)
theorem cut_rep {K : PySem.W.Frag} {F : Hp} {α : Nat → Addr} {n : Nat} {vs : List V} {ws : List W} (r : RepWs K F α n vs ws) (l u : Option Int) : RepWs K F α n (cutV vs l u) (cutG ws l u) := by
  have tk : ∀ (k : Nat) {vs : List V} {ws : List W}, RepWs K F α n vs ws → RepWs K F α n (vs.take k) (ws.take k) := fun k => by
    induction k with
    | zero => intro vs ws _; rw [List.take_zero, List.take_zero]; exact .nil
    | succ k ih =>
      intro vs ws r
      cases r with
      | nil => exact .nil
      | cons a b => exact .cons a (ih b)
  have dr : ∀ (k : Nat) {vs : List V} {ws : List W}, RepWs K F α n vs ws → RepWs K F α n (vs.drop k) (ws.drop k) := fun k => by
    induction k with
    | zero => intro vs ws r; exact r
    | succ k ih =>
      intro vs ws r
      cases r with
      | nil => exact .nil
      | cons a b => exact ih b
  unfold cutV cutG
  rw [r.length]
  exact tk _ (dr _ r)
theorem cutG_map {β γ : Type} (f : β → γ) (xs : List β) (l u : Option Int) : cutG (xs.map f) l u = (cutG xs l u).map f := by
  unfold cutG
  rw [List.length_map, List.map_take, List.map_drop]
theorem wSl_ok {F H : Hp} {α : Nat → Addr} {G : Gd} {x : V} {w : W} {m : Bool} {l u : Option Int} {Q : VK} (R : Rel c F α G H) (r : RepW c.K F α G.length x w) (h : FinE c Z F α G.length (wSl m w l u G) Q) : rSlAny c.K x l u H Q := by
  unfold wSl at h
  split at h
  · split at h
    · rename_i hl
      cases r
      exact .inr (.inr ⟨_, rfl, hl, h F α H _ Ext.refl R (RepD.str _)⟩)
    · exact h.elim
  · rename_i xs
    cases r with
    | tup a b pl =>
      have cr : RepDs c.K F (cutV _ l u) (cutG xs l u) := RepWs.ds (α := α) (n := G.length) (by rw [← cutG_map]; exact cut_rep (RepDs.ws b) l u)
      refine .inr (.inl ⟨_, _, rfl, Same.seqT R.fh a, fun hw => ?_, fun hw p o hp ho => ?_⟩)
      · have e : cutG xs l u = xs := by
          rw [RepDs.length b] at hw
          unfold cutG
          rw [hw.1, hw.2, List.drop_zero, Nat.sub_zero, List.take_length]
        rw [e] at h
        exact h F α H _ Ext.refl R (show RepD c.K F _ _ from .tup a b pl)
      · obtain ⟨R', e'⟩ := R.frz hp (.frz o (.tup _))
        exact h _ _ _ _ e' R' (show RepD c.K _ _ _ from .tup (.inl (.inr ⟨o, upd_same⟩)) (RepDs.mono e'.f cr) fun _ => .inl ⟨o, _, upd_same, ho⟩)
  · split at h
    · rename_i ws e
      obtain ⟨p, vs, rfl, hq, r'⟩ := asSeq_rep R r e
      rw [if_neg Bool.false_ne_true] at hq
      exact .inl ⟨p, vs, rfl, hq, fun q hq' => newL_fin h R (cut_rep r' l u) hq'⟩
    · exact h.elim
theorem mSl (m : Bool) {e : Expr} {lo hi : Option Expr} {f : FE} {fl fh : FP} {p2 : Pos} (hK : X.K = c.K) (he : PE X e (tM c Z f)) (hl : PO X lo (tMP c Z fl)) (hu : PO X hi (tMP c Z fh)) : PE X (.Subscript e (.Slice lo hi none p2) pos) (tM c Z (eSl m f fl fh)) :=
  (pe_slice (r := rSlAny X.K) sl_any he hl hu).imp fun σ H Q h => by
    rw [hK]
    refine (tG.seq (rep := RepW) h).imp fun x H1 ⟨F1, α1, G1, s, w, A1, r1, h1⟩ => ?_
    have h1' : tM c Z (seqF fl fun l => seqF fh fun u _ G => wSl m w l u G) σ H1 Q := ⟨F1, α1, G1, s, A1, h1⟩
    refine ⟨F1, α1, G1, s, A1, ?_⟩
    unfold seqF at h1
    cases e : fl s G1 with
    | bad => rw [e] at h1; exact h1
    | exc x s' G' => rw [e] at h1; exact h1
    | ok p =>
      rw [e] at h1
      intro F2 α2 H2 o x2 R2 r2
      have r2' : o = p.1 := r2
      subst r2'
      refine ⟨F2, α2, p.2, s, ⟨R2, A1.sl.mono x2⟩, ?_⟩
      dsimp only [R.bind] at h1
      cases e3 : fh s p.2 with
      | bad => rw [e3] at h1; exact h1
      | exc x s' G' => rw [e3] at h1; exact FinX.mono x2 h1
      | ok q =>
        rw [e3] at h1
        intro F3 α3 H3 o3 x3 R3 r3
        have r3' : o3 = q.1 := r3
        subst r3'
        exact wSl_ok R3 (r1.mono (x2.trans x3)) (Fin.mono (rep := RepW) (x2.trans x3) h1)
/-! ### displays -/
def eTup (f : FA) : FE := seqF f fun ws _ G => if ws.length ≤ sizeLine then newT ws G else .bad
def eLst (m : Bool) (f : FA) : FE := seqF f fun ws _ G => if ws.length ≤ sizeLine then newL m ws G else .bad
theorem mTup {es : List Expr} {f : FA} {k} (h : PA X es (tMA c Z f)) : PE X (.Tuple es k pos) (tM c Z (eTup f)) :=
  (pe_tupP h).imp fun σ H Q h => (tG.seq (rep := RepWs) h).imp fun vs H1 ⟨F1, α1, G1, s, ws, A1, r1, h1⟩ => by
    split at h1
    · rename_i hl
      exact ⟨by rw [r1.length]; exact hl, fun p o hp ho => newT_fin h1 A1.rel r1 hp ho⟩
    · exact h1.elim
theorem mLst (m : Bool) {es : List Expr} {f : FA} (h : PA X es (tMA c Z f)) : PE X (.List es pos) (tM c Z (eLst m f)) :=
  (pe_lst h).imp fun σ H Q h => (tG.seq (rep := RepWs) h).imp fun vs H1 ⟨F1, α1, G1, s, ws, A1, r1, h1⟩ => by
    split at h1
    · rename_i hl
      exact ⟨by rw [r1.length]; exact hl, fun p hp => newL_fin h1 A1.rel r1 hp⟩
    · exact h1.elim
/-- a list that stands still from now on -/
def eFrz (f : FE) : FE := seqF f fun w _ G => match w with
  | .ref i => match G[i]? with
    | some (.lst ws) => match toDs ws with
      | some ds => .ok (.d (.lst ds), G.set i (.still ds))
      | none => .bad
    | some (.still ds) => .ok (.d (.lst ds), G)
    | _ => .bad
  | .d x => .ok (.d x, G)
theorem mFrz {e : Expr} {f : FE} (h : PE X e (tM c Z f)) : PE X e (tM c Z (eFrz f)) :=
  h.imp fun σ H Q h => (tG.seq (rep := RepW) h).imp fun v H1 ⟨F1, α1, G1, s, w, A1, r1, h1⟩ => by
    cases w with
    | d x => exact h1 F1 α1 H1 v Ext.refl A1.rel r1
    | ref i =>
      dsimp only at h1
      split at h1
      · rename_i ws e
        split at h1
        · rename_i ds e2
          obtain ⟨vs, e3, r3⟩ := A1.rel.lstAt e
          rw [toDs_eq e2] at r3
          obtain ⟨R', x'⟩ := A1.rel.still e trivial e3 (RepWs.ds r3)
          refine h1 _ _ _ _ x' R' ?_
          rw [r1.2]
          exact (show RepD c.K _ _ _ from .lst upd_same (RepDs.mono x'.f (RepWs.ds r3)))
        · exact h1.elim
      · rename_i ds e
        obtain ⟨vs, e1, r2⟩ := A1.rel.st i ds e
        refine h1 F1 α1 H1 v Ext.refl A1.rel ?_
        rw [r1.2]
        exact (show RepD c.K _ _ _ from .lst e1 r2)
      · exact h1.elim
/-! ### built-ins -/
def bLen (ws : List W) (G : Gd) : R (W × Gd) := match ws with
  | [.d (.str z)] => if z.length ≤ sizeLine then .ok (.d (.int z.length), G) else .bad
  | [w] => match asSeq G w with
    | some (_, xs) => .ok (.d (.int xs.length), G)
    | none => .bad
  | _ => .bad
theorem paired1 {β γ : Type} {P : β → γ → Prop} {xs : List β} {w : γ} (r : Paired P xs [w]) : ∃ v, xs = [v] ∧ P v w := by
  cases r with
  | cons a b => cases b; exact ⟨_, rfl, a⟩
theorem paired2 {β γ : Type} {P : β → γ → Prop} {xs : List β} {w u : γ} (r : Paired P xs [w, u]) : ∃ v v2, xs = [v, v2] ∧ P v w ∧ P v2 u := by
  cases r with
  | cons a b =>
    obtain ⟨v, rfl, h⟩ := paired1 b
    exact ⟨_, _, rfl, a, h⟩
theorem am_len : ArgM c Z (fun xs H Q => ∃ x n, xs = [x] ∧ LenV c.K x H n ∧ Q (.int n) H) bLen := by
  intro F α G H xs ws Q R r h
  unfold bLen at h
  split at h
  · split at h
    · rename_i hl
      obtain ⟨v, rfl, r1⟩ := paired1 r
      cases r1
      exact ⟨_, _, rfl, ⟨hl, rfl⟩, h F α H _ Ext.refl R (RepD.int _)⟩
    · exact h.elim
  · split at h
    · rename_i t ys e
      obtain ⟨v, rfl, r1⟩ := paired1 r
      obtain ⟨p, vs, rfl, hq, r2⟩ := asSeq_any R r1 e
      have fin := h F α H _ Ext.refl R (RepD.int _)
      rw [← r2.length] at fin
      refine ⟨_, vs.length, rfl, ?_, fin⟩
      rcases hq with hq | hq
      · exact .inl ⟨vs, hq, rfl⟩
      · exact .inr ⟨vs, hq, rfl⟩
    · exact h.elim
  · exact h.elim
def bTuple (ws : List W) (G : Gd) : R (W × Gd) := match ws with
  | [w] => match asSeq G w with
    | some (true, _) => .ok (w, G)
    | some (false, xs) => newT xs G
    | none => .bad
  | _ => .bad
theorem am_tuple : ArgM c Z (rTupP c.K) bTuple := by
  intro F α G H xs ws Q R r h
  unfold bTuple at h
  split at h
  · obtain ⟨v, rfl, r1⟩ := paired1 r
    split at h
    · rename_i t e
      obtain ⟨p, vs, rfl, hq, r2⟩ := asSeq_rep R r1 e
      rw [if_pos rfl] at hq
      exact ⟨p, vs, rfl, .inr ⟨hq, h F α H _ Ext.refl R r1⟩⟩
    · rename_i t e
      obtain ⟨p, vs, rfl, hq, r2⟩ := asSeq_rep R r1 e
      rw [if_neg Bool.false_ne_true] at hq
      exact ⟨p, vs, rfl, .inl ⟨hq, fun l o hl ho => newT_fin h R r2 hl ho⟩⟩
    · exact h.elim
  · exact h.elim
def bList (m : Bool) (ws : List W) (G : Gd) : R (W × Gd) := match ws with
  | [w] => match asSeq G w with
    | some (_, xs) => newL m xs G
    | none => .bad
  | _ => .bad
theorem am_list (m : Bool) : ArgM c Z (fun xs H Q => ∃ p ys, xs = [.ref p] ∧ (SqL c.K H p ys ∨ SqT c.K H p ys) ∧ ∀ l, H l = none → Q (.ref l) (upd H l (.lst ys))) (bList m) := by
  intro F α G H xs ws Q R r h
  unfold bList at h
  split at h
  · obtain ⟨v, rfl, r1⟩ := paired1 r
    split at h
    · rename_i t e
      obtain ⟨p, vs, rfl, hq, r2⟩ := asSeq_any R r1 e
      exact ⟨p, vs, rfl, hq, fun l hl => newL_fin h R r2 hl⟩
    · exact h.elim
  · exact h.elim
def bInt (ws : List W) (G : Gd) : R (W × Gd) := match ws with
  | [.d (.int i)] => .ok (.d (.int i), G)
  | [.d (.bl k)] => .ok (.d (.int (if k then 1 else 0)), G)
  | [.d (.str z)] => if z.length ≤ 640 then match PySem.intText? z with
    | some n => .ok (.d (.int n), G)
    | none => .bad else .bad
  | _ => .bad
def rIntAny : List V → Hp → VK → Prop := fun xs H Q => ((∃ i, xs = [.int i] ∧ Q (.int i) H) ∨ ∃ k, xs = [.bl k] ∧ Q (.int (if k then 1 else 0)) H) ∨ ∃ a n, xs = [.str a] ∧ PySem.intText? a = some n ∧ a.length ≤ 640 ∧ Q (.int n) H
theorem call_intAny : CallR X (.type "int") rIntAny := CallR.or call_int1 call_int_str
theorem am_int : ArgM c Z rIntAny bInt := by
  intro F α G H xs ws Q R r h
  unfold bInt at h
  split at h
  · obtain ⟨v, rfl, r1⟩ := paired1 r
    cases r1
    exact .inl (.inl ⟨_, rfl, h F α H _ Ext.refl R (RepD.int _)⟩)
  · obtain ⟨v, rfl, r1⟩ := paired1 r
    cases r1
    exact .inl (.inr ⟨_, rfl, h F α H _ Ext.refl R (RepD.int _)⟩)
  · obtain ⟨v, rfl, r1⟩ := paired1 r
    cases r1
    split at h
    · rename_i hl
      split at h
      · rename_i n e
        exact .inr ⟨_, n, rfl, e, hl, h F α H _ Ext.refl R (RepD.int _)⟩
      · exact h.elim
    · exact h.elim
  · exact h.elim
def bStr (ws : List W) (G : Gd) : R (W × Gd) := match ws with
  | [.d (.int i)] => if i.natAbs.log2 < 1920 then .ok (.d (.str (toString i)), G) else .bad
  | [.d (.str z)] => .ok (.d (.str z), G)
  | _ => .bad
def rStrAny : List V → Hp → VK → Prop := fun xs H Q => (∃ i, xs = [.int i] ∧ i.natAbs.log2 < 1920 ∧ Q (.str (toString i)) H) ∨ ∃ a, xs = [.str a] ∧ Q (.str a) H
theorem call_strAny : CallR X (.type "str") rStrAny := CallR.or call_str_int SkE.call_str_str
theorem am_str : ArgM c Z rStrAny bStr := by
  intro F α G H xs ws Q R r h
  unfold bStr at h
  split at h
  · split at h
    · rename_i hl
      obtain ⟨v, rfl, r1⟩ := paired1 r
      cases r1
      exact .inl ⟨_, rfl, hl, h F α H _ Ext.refl R (RepD.str _)⟩
    · exact h.elim
  · obtain ⟨v, rfl, r1⟩ := paired1 r
    cases r1
    exact .inr ⟨_, rfl, h F α H _ Ext.refl R (RepD.str _)⟩
  · exact h.elim
def bMax2 (ws : List W) (G : Gd) : R (W × Gd) := match ws with
  | [.d (.int i), .d (.int j)] => .ok (.d (.int (if j > i then j else i)), G)
  | _ => .bad
theorem am_max2 : ArgM c Z (fun xs H Q => ∃ i j, xs = [.int i, .int j] ∧ Q (.int (if j > i then j else i)) H) bMax2 := by
  intro F α G H xs ws Q R r h
  unfold bMax2 at h
  split at h
  · obtain ⟨v, u, rfl, r1, r2⟩ := paired2 r
    cases r1; cases r2
    exact ⟨_, _, rfl, h F α H _ Ext.refl R (RepD.int _)⟩
  · exact h.elim
def bMin2 (ws : List W) (G : Gd) : R (W × Gd) := match ws with
  | [.d (.int i), .d (.int j)] => .ok (.d (.int (if j < i then j else i)), G)
  | _ => .bad
theorem am_min2 : ArgM c Z (fun xs H Q => ∃ i j, xs = [.int i, .int j] ∧ Q (.int (if j < i then j else i)) H) bMin2 := by
  intro F α G H xs ws Q R r h
  unfold bMin2 at h
  split at h
  · obtain ⟨v, u, rfl, r1, r2⟩ := paired2 r
    cases r1; cases r2
    exact ⟨_, _, rfl, h F α H _ Ext.refl R (RepD.int _)⟩
  · exact h.elim
/-- the truths of a list -/
def toBls : List W → Option (List Bool)
  | [] => some []
  | .d (.bl b) :: r => (toBls r).map (b :: ·)
  | _ => none
theorem toBls_eq : ∀ {ws : List W} {bs : List Bool}, toBls ws = some bs → ws = bs.map fun b => W.d (.bl b)
  | [], _, h => by simp [toBls] at h; subst h; rfl
  | .ref _ :: _, _, h => by simp [toBls] at h
  | .d x :: r, bs, h => by
    cases x with
    | bl b =>
      simp only [toBls, Option.map_eq_some_iff] at h
      obtain ⟨a, h1, rfl⟩ := h
      rw [toBls_eq h1]; rfl
    | _ => simp [toBls] at h
@[simp] theorem toBls_map : ∀ bs : List Bool, toBls (bs.map fun b => W.d (.bl b)) = some bs
  | [] => rfl
  | b :: bs => by simp [toBls, toBls_map bs]
theorem reps_bls {K : PySem.W.Frag} {F : Hp} {α : Nat → Addr} {n : Nat} : ∀ {bs : List Bool} {vs : List V}, RepWs K F α n vs (bs.map fun b => W.d (.bl b)) → vs = bs.map V.bl
  | [], _, h => by cases h; rfl
  | b :: bs, _, h => by
    cases h with
    | cons a r =>
      have a' : RepD K F _ (.bl b) := a
      cases a'
      rw [reps_bls r]; rfl
theorem reps_int {K : PySem.W.Frag} {F : Hp} {α : Nat → Addr} {n : Nat} : ∀ {ns : List Int} {vs : List V}, RepWs K F α n vs (ns.map fun k => W.d (.int k)) → vs = ns.map V.int
  | [], _, h => by cases h; rfl
  | b :: bs, _, h => by
    cases h with
    | cons a r =>
      have a' : RepD K F _ (.int b) := a
      cases a'
      rw [reps_int r]; rfl
def bAll (ws : List W) (G : Gd) : R (W × Gd) := match ws with
  | [w] => match asSeq G w with
    | some (false, xs) => match toBls xs with
      | some bs => .ok (.d (.bl (bs.all id)), G)
      | none => .bad
    | _ => .bad
  | _ => .bad
def bAny (ws : List W) (G : Gd) : R (W × Gd) := match ws with
  | [w] => match asSeq G w with
    | some (false, xs) => match toBls xs with
      | some bs => .ok (.d (.bl (bs.any id)), G)
      | none => .bad
    | _ => .bad
  | _ => .bad
theorem am_all : ArgM c Z (rAll c.K) bAll := by
  intro F α G H xs ws Q R r h
  unfold bAll at h
  split at h
  · split at h
    · rename_i ys e
      split at h
      · rename_i bs e2
        obtain ⟨v, rfl, r1⟩ := paired1 r
        obtain ⟨p, vs, rfl, hq, r2⟩ := asSeq_rep R r1 e
        rw [if_neg Bool.false_ne_true] at hq
        rw [toBls_eq e2] at r2
        rw [reps_bls r2] at hq
        exact ⟨p, bs, rfl, hq, h F α H _ Ext.refl R (RepD.bl _)⟩
      · exact h.elim
    · exact h.elim
  · exact h.elim
theorem am_any : ArgM c Z (rAny c.K) bAny := by
  intro F α G H xs ws Q R r h
  unfold bAny at h
  split at h
  · split at h
    · rename_i ys e
      split at h
      · rename_i bs e2
        obtain ⟨v, rfl, r1⟩ := paired1 r
        obtain ⟨p, vs, rfl, hq, r2⟩ := asSeq_rep R r1 e
        rw [if_neg Bool.false_ne_true] at hq
        rw [toBls_eq e2] at r2
        rw [reps_bls r2] at hq
        exact ⟨p, bs, rfl, hq, h F α H _ Ext.refl R (RepD.bl _)⟩
      · exact h.elim
    · exact h.elim
  · exact h.elim
/-- isinstance(x, T), T a built-in class of data -/
def tyD : D → String
  | .non => "NoneType" | .bl _ => "bool" | .int _ => "int" | .str _ => "str" | .tup _ => "tuple" | .lst _ => "list" | .scr _ => "list"
def tyW (G : Gd) : W → Option String
  | .d x => some (tyD x)
  | .ref i => match G[i]? with
    | some (.lst _) => some "list"
    | some (.still _) => some "list"
    | some (.dct _) => some "dict"
    | _ => none
theorem seqT_ty {K : PySem.W.Frag} {H : Hp} {a : Addr} {vs : List V} (h : SqT K H a vs) : TyX K H (.ref a) (.type "tuple") := by
  rcases h with (h | ⟨o, h⟩) | ⟨o, its, n, h1, h2, _⟩
  · exact .base (.tup h)
  · exact .fTuple h
  · exact .kTuple h1 h2
theorem seqL_ty {K : PySem.W.Frag} {H : Hp} {a : Addr} {vs : List V} (h : SqL K H a vs) : TyX K H (.ref a) (.type "list") := by
  rcases h with (h | ⟨o, h⟩) | ⟨o, its, n, h1, h2, _⟩
  · exact .base (.lst h)
  · exact .base (.frz h)
  · exact .kList h1 h2
theorem tyW_rep {F H : Hp} {α : Nat → Addr} {G : Gd} {v : V} {w : W} {T : String} (R : Rel c F α G H) (r : RepW c.K F α G.length v w) (h : tyW G w = some T) : TyX c.K H v (.type T) := by
  cases w with
  | d x =>
    cases h
    have r' : RepD c.K H v x := RepD.mono R.fh r
    cases x with
    | non => cases r'; exact .base .non
    | bl b => cases r'; exact .base (.bl b)
    | int i => cases r'; exact .base (.int i)
    | str z => cases r'; exact .base (.str z)
    | tup xs => cases r' with | tup a b pl => exact seqT_ty a
    | lst xs => cases r' with | lst a b => exact seqL_ty (SqL.of a)
    | scr ns => cases r' with | scr a => exact seqL_ty a
  | ref i =>
    simp only [tyW] at h
    rw [r.2]
    split at h
    · rename_i ws e
      cases h
      obtain ⟨vs, e1, _⟩ := R.lstAt e
      exact seqL_ty (SqL.of e1)
    · rename_i ds e
      cases h
      obtain ⟨vs, e1, _⟩ := R.st i ds e
      exact seqL_ty (SqL.of (R.fh _ _ e1))
    · rename_i kvs e
      cases h
      obtain ⟨⟨ho, e1, r1⟩, _⟩ := R.ob i _ e trivial
      cases ho with
      | dK q => exact .base (.dK e1)
      | _ => exact r1.elim
    · cases h
def wIsi (T : String) (w : W) (G : Gd) : R (W × Gd) := match tyW G w with
  | some t => match kitB t T with
    | some b => .ok (.d (.bl b), G)
    | none => .bad
  | none => .bad
def eIsi (T : String) (f : FE) : FE := seqF f fun w _ G => wIsi T w G
theorem mIsi {T : String} {x : Str} {p p2 : Pos} {e : Expr} {f : FE} (hK : X.K = c.K) (hg : Gl X "isinstance") (hm : X.mg "isinstance" = none) (he : PE X e (tM c Z f)) (hg2 : Gl X x) (hm2 : X.mg x = none) (hv : bootBuiltins x = some (.type T))
    (hn : x ≠ "__name__" := by decide) (hd : (x == ("__debug__" : Str)) = false := by decide) (hs : starEach [e, .Name x p2] X.env = (false, eval e X.env) :: starEach [.Name x p2] X.env := by rfl)
    (hs2 : starEach [.Name x p2] X.env = (false, eval (.Name x p2) X.env) :: starEach [] X.env := by rfl) (hpl : (backTo pos (starEach [.Name x p2] X.env)).any (·.1) = false := by rfl) :
    PE X (.Call (.Name "isinstance" p) [e, .Name x p2] [] pos) (tM c Z (eIsi T f)) :=
  (pe_callB (call_isi (X := X)) hg hm (by decide +kernel) (pa_cons he (pa_cons (pe_bltn (v := .ty T) hg2 hm2 hv rfl hn hd) pa_nil hs2) hs) (by decide) (by decide) hs hpl).imp fun σ H Q h => by
    show tM c Z f σ H _
    refine (tG.seq (rep := RepW) h).imp fun v H1 ⟨F1, α1, G1, s, w, A1, r1, h1⟩ => ?_
    unfold wIsi at h1
    split at h1
    · rename_i t e1
      split at h1
      · rename_i b e2
        exact ⟨v, .ty T, .type t, .type T, b, rfl, .ty T, by rw [hK]; exact tyW_rep A1.rel r1 e1, kit_ty e2, Fin.ret (rep := RepW) h1 A1 (.bl _)⟩
      · exact h1.elim
    · exact h1.elim
/-! ### methods of built-in things -/
/-- what the receiver must be -/
def RcvD (c : RC) (T : String) (rc : Gd → W → Bool) : Prop := ∀ F α G H x w, Rel c F α G H → RepW c.K F α G.length x w → rc G w = true → tyV c.K T x H
def MtD (c : RC) (Z : WX) (r : V → List V → Hp → VK → Prop) (g : W → List W → Gd → R (W × Gd)) : Prop := ∀ F α G H x w vs ws Q, Rel c F α G H → RepW c.K F α G.length x w → RepWs c.K F α G.length vs ws → FinE c Z F α G.length (g w ws G) Q → r x vs H Q
def eMt (rc : Gd → W → Bool) (g : W → List W → Gd → R (W × Gd)) (f : FE) (a : FA) : FE := seqF f fun w s G => if rc G w = true then seqF a (fun ws _ G => g w ws G) s G else .bad
theorem mt_core {T : String} {r : V → List V → Hp → VK → Prop} {rc : Gd → W → Bool} {g : W → List W → Gd → R (W × Gd)} {f : FE} {a : FA} (t : RcvD c T rc) (d : MtD c Z r g) {σ : St} {H : Hp} {Q : VK} (h : tM c Z (eMt rc g f a) σ H Q) :
    tM c Z f σ H fun x H1 => tyV c.K T x H1 ∧ tMA c Z a σ H1 fun vs H2 => r x vs H2 Q := by
  refine (tG.seq (rep := RepW) h).imp fun x H1 ⟨F1, α1, G1, s, w, A1, r1, h1⟩ => ?_
  split at h1
  · rename_i hc
    refine ⟨t F1 α1 G1 H1 x w A1.rel r1 hc, F1, α1, G1, s, A1, ?_⟩
    unfold seqF at h1
    cases e : a s G1 with
    | bad => rw [e] at h1; exact h1
    | exc x s' G' => rw [e] at h1; exact h1
    | ok p =>
      rw [e] at h1
      exact fun F2 α2 H2 vs x2 R2 r2 => d F2 α2 p.2 H2 x w vs p.1 Q R2 (r1.mono x2) r2 (Fin.mono (rep := RepW) x2 h1)
  · exact h1.elim
theorem mMt {T id : String} {o e : Expr} {es : List Expr} {name : Str} {apos cpos : Pos} {r : V → List V → Hp → VK → Prop} {rc : Gd → W → Bool} {g : W → List W → Gd → R (W × Gd)} {f : FE} {a : FA} (hK : X.K = c.K) (t : RcvD c T rc) (d : MtD c Z r g) (pa : PlainAttrs T) (slot : Slot T name id)
    (hty : typeOf (.builtin id) = pure (.type "method_descriptor")) (hm : MtR X id r) (ho : PE X o (tM c Z f)) (ha : PA X (e :: es) (tMA c Z a)) (hbase : attributeBase o name X.env (eval o X.env) = eval o X.env := by rfl)
    (hfew : ((backTo cpos (starEach (e :: es) X.env)).all (fun x => !x.1) && (backToKw cpos (keywordEach [] X.env)).all (fun x => x.1.isSome) && decide ((e :: es).length + ([] : List Keyword).length + (if ([] : List Keyword).isEmpty then 0 else 1) < 30)) = true := by rfl)
    (hline : (apos.endLine == cpos.line) = true := by rfl) (hs : starEach (e :: es) X.env = (false, eval e X.env) :: starEach es X.env := by rfl) (hplain : (backTo cpos (starEach es X.env)).any (·.1) = false := by rfl) :
    PE X (.Call (.Attribute o name apos) (e :: es) [] cpos) (tM c Z (eMt rc g f a)) :=
  (pe_bm pa slot hty hm ho ha hbase hfew hline hs hplain).imp fun σ H Q h => by
    show tM c Z f σ H fun x H1 => tyV X.K T x H1 ∧ _
    rw [hK]
    exact mt_core t d h
theorem mMt0 {T id : String} {o : Expr} {name : Str} {apos cpos : Pos} {r : V → List V → Hp → VK → Prop} {rc : Gd → W → Bool} {g : W → List W → Gd → R (W × Gd)} {f : FE} (hK : X.K = c.K) (t : RcvD c T rc) (d : MtD c Z r g) (pa : PlainAttrs T) (slot : Slot T name id)
    (hty : typeOf (.builtin id) = pure (.type "method_descriptor")) (hm : MtR X id r) (ho : PE X o (tM c Z f)) (hbase : attributeBase o name X.env (eval o X.env) = eval o X.env := by rfl) (hline : (apos.endLine == cpos.line) = true := by rfl) :
    PE X (.Call (.Attribute o name apos) [] [] cpos) (tM c Z (eMt rc g f aNil)) :=
  (pe_bm0 pa slot hty hm ho hbase hline).imp fun σ H Q h => by
    show tM c Z f σ H fun x H1 => tyV X.K T x H1 ∧ _
    rw [hK]
    refine (mt_core t d h).imp fun x H1 ⟨h1, F, α, G, s, A, h2⟩ => ⟨h1, ?_⟩
    exact h2 F α H1 [] Ext.refl A.rel .nil
def rcL (G : Gd) : W → Bool
  | .ref i => match G[i]? with
    | some (.lst _) => true
    | _ => false
  | .d (.lst _) => true
  | .d (.scr _) => true
  | _ => false
def rcS (_ : Gd) : W → Bool
  | .d (.str _) => true
  | _ => false
theorem rcvL : RcvD c "list" rcL := by
  intro F α G H x w R r h
  cases w with
  | ref i =>
    simp only [rcL] at h
    split at h
    · rename_i ws e
      obtain ⟨vs, e1, _⟩ := R.lstAt e
      rw [r.2]
      exact .inl ⟨rfl, vs, SqL.of e1⟩
    · cases h
  | d y =>
    cases y with
    | lst xs => cases r with | lst a b => exact .inl ⟨rfl, _, SqL.of (R.fh _ _ a)⟩
    | scr ns => cases r with | scr a => exact .inl ⟨rfl, _, L2.Same.seq R.fh a⟩
    | _ => cases h
theorem rcvS : RcvD c "str" rcS := by
  intro F α G H x w R r h
  cases w with
  | ref i => cases h
  | d y =>
    cases y with
    | str z => cases r; rfl
    | _ => cases h
/-- xs.append(x) -/
def wApp (w : W) (ws : List W) (G : Gd) : R (W × Gd) := match w, ws with
  | .ref i, [x] => match G[i]? with
    | some (.lst xs) => if xs.length < sizeLine then .ok (.d .non, G.set i (.lst (xs ++ [x]))) else .bad
    | _ => .bad
  | _, _ => .bad
theorem md_app : MtD c Z rAppend wApp := by
  intro F α G H x w vs ws Q R r rs h
  unfold wApp at h
  split at h
  · rename_i i y
    split at h
    · rename_i xs e
      split at h
      · rename_i hl
        obtain ⟨u, rfl, r1⟩ := paired1 rs
        obtain ⟨us, e1, r2⟩ := R.lstAt e
        have R' := R.set e trivial (ho := .lst (us ++ [u])) (o := .lst (xs ++ [y])) (r2.append (.cons r1 .nil))
        have hlen : (G.set i (.lst (xs ++ [y]))).length = G.length := by simp
        refine ⟨α i, us, u, r.2, rfl, e1, by rw [r2.length]; exact hl, h F α _ _ ⟨Same.refl _, fun _ _ => rfl, by simp⟩ R' RepD.non⟩
      · exact h.elim
    · exact h.elim
  · exact h.elim
/-- xs.pop() -/
def wPop (w : W) (ws : List W) (G : Gd) : R (W × Gd) := match w, ws with
  | .ref i, [] => match G[i]? with
    | some (.lst xs) => match xs[xs.length - 1]? with
      | some x => .ok (x, G.set i (.lst xs.dropLast))
      | none => .bad
    | _ => .bad
  | _, _ => .bad
theorem reps_dropLast {K : PySem.W.Frag} {F : Hp} {α : Nat → Addr} {n : Nat} : ∀ {vs : List V} {ws : List W}, RepWs K F α n vs ws → RepWs K F α n vs.dropLast ws.dropLast
  | _, _, .nil => .nil
  | _, _, .cons r .nil => .nil
  | _, _, .cons r (.cons a b) => .cons r (reps_dropLast (.cons a b))
theorem md_pop : MtD c Z rPop wPop := by
  intro F α G H x w vs ws Q R r rs h
  unfold wPop at h
  split at h
  · rename_i i
    split at h
    · rename_i xs e
      split at h
      · rename_i y ey
        cases rs
        obtain ⟨us, e1, r2⟩ := R.lstAt e
        obtain ⟨u, eu, ru⟩ := r2.get ey
        have R' := R.set e trivial (ho := .lst us.dropLast) (o := .lst xs.dropLast) (reps_dropLast r2)
        have x' : Ext F α G.length F α (G.set i (.lst xs.dropLast)).length := ⟨Same.refl _, fun _ _ => rfl, by simp⟩
        exact ⟨α i, us, u, r.2, rfl, e1, by rw [r2.length]; exact eu, h F α _ _ x' R' (ru.mono x')⟩
      · exact h.elim
    · exact h.elim
  · exact h.elim
/-- xs.extend(ys), ys a list -/
def wExt (w : W) (ws : List W) (G : Gd) : R (W × Gd) := match w, ws with
  | .ref i, [.d (.scr _)] => .bad
  | .ref i, [y] => match G[i]?, asSeq G y with
    | some (.lst xs), some (false, zs) => if xs.length + zs.length ≤ sizeLine then .ok (.d .non, G.set i (.lst (xs ++ zs))) else .bad
    | _, _ => .bad
  | _, _ => .bad
theorem md_ext : MtD c Z rExtend wExt := by
  intro F α G H x w vs ws Q R r rs h
  unfold wExt at h
  split at h
  · exact h.elim
  · rename_i i y hn
    split at h
    · rename_i xs zs e e2
      split at h
      · rename_i hl
        obtain ⟨u, rfl, r1⟩ := paired1 rs
        obtain ⟨us, e1, r2⟩ := R.lstAt e
        obtain ⟨p, v2, rfl, hq, r3⟩ := rdL R r1 e2 (fun ns e => hn ns e)
        have R' := R.set e trivial (ho := .lst (us ++ v2)) (o := .lst (xs ++ zs)) (r2.append r3)
        exact ⟨α i, p, us, v2, r.2, rfl, e1, hq, by rw [r2.length, r3.length]; exact hl, h F α _ _ ⟨Same.refl _, fun _ _ => rfl, by simp⟩ R' RepD.non⟩
      · exact h.elim
    · exact h.elim
  · exact h.elim
/-- xs[i] = x -/
def gSetL (fo fi : FE) : FG := fun w s G => (seqF fo (fun o => seqF fi fun i _ G => match o, i with
  | .ref a, .d (.int k) => match G[a]? with
    | some (.lst xs) => match ixN xs.length k with
      | some j => R.ok (s, G.set a (.lst (xs.set j w)))
      | none => .bad
    | _ => .bad
  | _, _ => .bad) s G)
/-- a store o[i] = .., as the model runs it -/
abbrev SubAsg (X : Cx) (o i : Expr) (pos : Pos) : Prop := ∀ v, assign (.Subscript o i pos) X.env v = (do { let a ← holding [v] (eval o X.env); let b ← holding [v, a] (eval i X.env); standAt pos; holding [v, a, b] (setItem a b v); release [v, a, b] [] })
theorem mgSet {o i : Expr} {fo fi : FE} (ho : PE X o (tM c Z fo)) (hi : PE X i (tM c Z fi)) (ha : SubAsg X o i pos := by intro _; rfl) : PG X (.Subscript o i pos) (tMG c Z (gSetL fo fi)) :=
  (pg_sub ho hi set_list ha).imp fun v σ H Q ⟨F, α, G, s, w, A, r, h⟩ => by
    refine ⟨F, α, G, s, A, ?_⟩
    unfold gSetL seqF at h
    cases e : fo s G with
    | bad => rw [e] at h; exact h
    | exc x s' G' => rw [e] at h; exact h
    | ok p =>
      rw [e] at h
      intro F1 α1 H1 x1 y1 R1 q1
      refine ⟨F1, α1, p.2, s, ⟨R1, A.sl.mono y1⟩, ?_⟩
      dsimp only [R.bind] at h
      cases e2 : fi s p.2 with
      | bad => rw [e2] at h; exact h
      | exc x s' G' => rw [e2] at h; exact FinX.mono y1 h
      | ok p2 =>
        rw [e2] at h
        intro F2 α2 H2 x2 y2 R2 q2
        dsimp only [R.bind] at h
        have y12 := y1.trans y2
        split at h
        · rename_i a k ea ek
          split at h
          · rename_i xs eg
            split at h
            · rename_i j ej
              rw [ea] at q1; rw [ek] at q2
              have q1' := RepW.mono y2 q1
              cases q2
              obtain ⟨us, e1, r2⟩ := R2.lstAt eg
              have rw' := r.mono y12
              have R' := R2.set eg trivial (ho := .lst (us.set j v)) (o := .lst (xs.set j w)) (RepWs.set rw' j r2)
              have x' : Ext F2 α2 p2.2.length F2 α2 (p2.2.set a (.lst (xs.set j w))).length := ⟨Same.refl _, fun _ _ => rfl, by simp⟩
              refine ⟨α2 a, us, k, j, q1'.2, rfl, e1, by rw [r2.length]; exact ej, ?_⟩
              exact h F2 α2 _ σ (y12.trans x') ⟨R', A.sl.mono (y12.trans x')⟩
            · exact h.elim
          · exact h.elim
        · exact h.elim
end
end M

set_option maxRecDepth 100000
set_option maxHeartbeats 4000000
namespace M
open PySem PySem.Spec PyProof.Rows L2
section
variable {X : Cx} {c : RC} {Z : WX} {pos : Pos} {tg : Expr}
/-! ### what is walked -/
theorem tMI.of {β γ : Type} {rep : PySem.W.Frag → Hp → (Nat → Addr) → Nat → γ → β → Prop} {f : Sd → Gd → R (β × Gd)} {k : β → Sd → Gd → R (List W × Gd)} {σ : St} {H : Hp} {Q : It → Hp → Prop} (h : tMI c Z (seqF f k) σ H Q) :
    tG rep c Z f σ H fun v H1 => ∃ F1 α1 G1 s w, At c F1 α1 G1 s σ H1 ∧ rep c.K F1 α1 G1.length v w ∧ FinI c Z F1 α1 G1.length (k w s G1) Q := by
  obtain ⟨F, α, G, s, A, h⟩ := h
  refine ⟨F, α, G, s, A, ?_⟩
  unfold seqF at h
  cases e : f s G with
  | bad => rw [e] at h; exact h
  | exc x s' G' => rw [e] at h; exact h
  | ok p =>
    rw [e] at h
    intro F' α' H' v x Rl r
    refine ⟨F', α', p.2, s, p.1, ⟨Rl, A.sl.mono x⟩, r, ?_⟩
    dsimp only [R.bind] at h
    cases e2 : k p.1 s p.2 with
    | bad => rw [e2] at h; exact h
    | exc x' s' G' => rw [e2] at h; exact FinX.mono x h
    | ok q => rw [e2] at h; exact fun F2 α2 H2 J x2 R2 Y => h F2 α2 H2 J (x.trans x2) R2 Y
theorem yields_of {F : Hp} {α : Nat → Addr} {G : Gd} {J : It} {ws : List W} {n : Nat} {P : Hp → Prop} {Y : Nat → Hp → V → Hp → Prop} (w : Walk J n P Y) (hn : n = ws.length) (hP : ∀ F' H', Same F F' → Same F' H' → Same c.B H' → P H')
    (hY : ∀ (c' : RC), c'.K = c.K → ∀ F' α' G' H', Ext F α G.length F' α' G'.length → Rel c' F' α' G' H' → ∀ i w y H'', ws[i]? = some w → Y i H' y H'' → ∃ F'', Ext F' α' G'.length F'' α' G'.length ∧ Rel c' F'' α' G' H'' ∧ RepW c.K F'' α' G'.length y w) : Yields c F α G J ws := by
  intro c' k1 k2 k3 F' α' G' H' x R i
  have p := hP F' H' x.f R.fh (k3.trans R.bh)
  refine ⟨fun w' hw => ?_, fun e => ?_⟩
  · have hi : i < n := by
      rw [hn]; exact (List.getElem?_eq_some_iff.mp hw).1
    exact ⟨w.goes i H' hi p, fun y H'' hy => hY c' k1 F' α' G' H' x R i w' y H'' hw (w.yields i H' y H'' hi p hy)⟩
  · rw [e, ← hn]; exact w.stops H' p
theorem yat_rep {F : Hp} {α : Nat → Addr} {G : Gd} {vs : List V} {ws : List W} (r : RepWs c.K F α G.length vs ws) : ∀ (c' : RC), c'.K = c.K → ∀ F' α' G' H', Ext F α G.length F' α' G'.length → Rel c' F' α' G' H' → ∀ (i : Nat) w y H'', ws[i]? = some w → YAt vs i H' y H'' → ∃ F'', Ext F' α' G'.length F'' α' G'.length ∧ Rel c' F'' α' G' H'' ∧ RepW c.K F'' α' G'.length y w :=
  fun c' k1 F' α' G' H' x R i w y H'' hw ⟨e, hy⟩ => by
    subst e
    obtain ⟨v, e1, r1⟩ := r.get hw
    rw [hy] at e1; cases e1
    exact ⟨F', Ext.refl, R, r1.mono x⟩
/-- the data of a thing that stands still -/
def stillSeq (w : W) : Option (Bool × List W) := match w with
  | .d x => asSeq [] (.d x)
  | .ref _ => none
theorem stillSeq_rep {K : PySem.W.Frag} {F : Hp} {α : Nat → Addr} {n : Nat} {v : V} {w : W} {t : Bool} {ws : List W} (r : RepW K F α n v w) (h : stillSeq w = some (t, ws)) :
    ∃ a vs, v = .ref a ∧ (if t = true then SqT K F a vs else SqL K F a vs) ∧ RepWs K F α n vs ws := by
  cases w with
  | ref i => cases h
  | d x =>
    cases x with
    | tup xs =>
      cases h
      cases r with
      | tup a b pl => exact ⟨_, _, rfl, iteT a, RepDs.ws b⟩
    | lst xs =>
      cases h
      cases r with
      | lst a b => exact ⟨_, _, rfl, iteF (SqL.of a), RepDs.ws b⟩
    | scr ns =>
      cases h
      cases r with
      | scr a => exact ⟨_, _, rfl, iteF a, reps_ints ns⟩
    | _ => cases h
def strSeq (z : Str) : List W := z.cps.toList.map fun k => W.d (.str ⟨#[k]⟩)
/-- for x in a list, a tuple, a text -/
def iAny (f : FE) : FA := seqF f fun w _ G => match w with
  | .d (.str z) => .ok (strSeq z, G)
  | w => match stillSeq w with
    | some (_, ws) => .ok (ws, G)
    | none => .bad
theorem _root_.L2.PI.or {X : Cx} {tg e : Expr} {t t' : TI} (h : PI X tg e t) (h' : PI X tg e t') : PI X tg e fun σ H R => t σ H R ∨ t' σ H R := ⟨fun pins s σ H R I w => w.elim (fun w => h.run pins s σ H R I w) fun w => h'.run pins s σ H R I w⟩
theorem miAny {e : Expr} {f : FE} (hK : X.K = c.K) (he : PE X e (tM c Z f)) : PI X tg e (tMI c Z (iAny f)) :=
  (PI.or (pi_list he) (PI.or (pi_tup he) (pi_str he))).imp fun σ H Q h => by
    have key := tMI.of (rep := RepW) h
    obtain ⟨F, α, G, s, A, h0⟩ := id h
    unfold iAny seqF at h0
    cases e1 : f s G with
    | bad => rw [e1] at h0; exact h0.elim
    | exc x s' G' =>
      refine .inl ⟨F, α, G, s, A, ?_⟩
      rw [e1] at h0 ⊢; exact h0
    | ok p =>
      rw [e1] at h0
      dsimp only [R.bind] at h0
      split at h0
      · rename_i z ez
        refine .inr (.inr ⟨F, α, G, s, A, ?_⟩)
        rw [e1]
        intro F1 α1 H1 v x1 R1 r1
        have r1' : RepW c.K F1 α1 p.2.length v (.d (.str z)) := by rw [← ez]; exact r1
        cases r1'
        refine ⟨z, rfl, h0 F1 α1 H1 _ x1 R1 (yields_of walk_str (by simp [strSeq]) (fun _ _ _ _ _ => trivial) fun c' k1 F' α' G' H' x R i w y H'' hw hy => ?_)⟩
        obtain ⟨rfl, k, e2, rfl⟩ := hy
        unfold strSeq at hw
        rw [List.getElem?_map, Array.getElem?_toList, e2] at hw
        cases hw
        exact ⟨F', Ext.refl, R, RepD.str _⟩
      · split at h0
        · rename_i t ws e2
          cases t with
          | true =>
            refine .inr (.inl ⟨F, α, G, s, A, ?_⟩)
            rw [e1]
            intro F1 α1 H1 v x1 R1 r1
            obtain ⟨a, vs, rfl, hq, r2⟩ := stillSeq_rep r1 e2
            rw [if_pos rfl] at hq
            rw [hK]
            exact ⟨a, rfl, ⟨vs, Same.seqT R1.fh hq⟩, h0 F1 α1 H1 _ x1 R1 (yields_of walk_tup r2.length (fun F' H' f h _ => Same.seqT (f.trans h) hq) (yat_rep r2))⟩
          | false =>
            refine .inl ⟨F, α, G, s, A, ?_⟩
            rw [e1]
            intro F1 α1 H1 v x1 R1 r1
            obtain ⟨a, vs, rfl, hq, r2⟩ := stillSeq_rep r1 e2
            rw [if_neg Bool.false_ne_true] at hq
            rw [hK]
            exact ⟨a, rfl, ⟨vs, L2.Same.seq R1.fh hq⟩, h0 F1 α1 H1 _ x1 R1 (yields_of walk_list r2.length (fun F' H' f h _ => L2.Same.seq (f.trans h) hq) (yat_rep r2))⟩
        · exact h0.elim
/-- range -/
def rngW (lo : Int) (n : Nat) : List W := (List.range n).map fun i => W.d (.int (lo + (i : Nat)))
def iRange1 (f : FA) : FA := seqF f fun ws _ G => match ws with
  | [.d (.int j)] => gate (-(2 ^ 62) ≤ j ∧ j < 2 ^ 62) (.ok (rngW 0 j.toNat, G))
  | _ => .bad
def iRange2 (f : FA) : FA := seqF f fun ws _ G => match ws with
  | [.d (.int i), .d (.int j)] => gate (-(2 ^ 62) ≤ i ∧ i < 2 ^ 62 ∧ -(2 ^ 62) ≤ j ∧ j < 2 ^ 62) (.ok (rngW i (j - i).toNat, G))
  | _ => .bad
theorem yields_rng {F : Hp} {α : Nat → Addr} {G : Gd} {lo : Int} {n : Nat} : Yields c F α G (Itr lo n) (rngW lo n) :=
  yields_of walk_range (by simp [rngW]) (fun _ _ _ _ _ => trivial) fun c' k1 F' α' G' H' x R i w y H'' hw hy => by
    obtain ⟨rfl, rfl⟩ := hy
    unfold rngW at hw
    rw [List.getElem?_map, Option.map_eq_some_iff] at hw
    obtain ⟨k, e, rfl⟩ := hw
    have hi : i < n := by
      have := (List.getElem?_eq_some_iff.mp e).1
      simpa using this
    have e' : k = i := by
      have e3 : (List.range n)[i]? = some i := by simp [hi]
      rw [e3] at e; exact (Option.some.inj e).symm
    subst e'
    exact ⟨F', Ext.refl, R, RepD.int _⟩
theorem miRange1 {a : Expr} {f : FA} {p : Pos} (hg : Gl X "range") (hm : X.mg "range" = none) (ha : PA X [a] (tMA c Z f)) (hs : starEach [a] X.env = [(false, eval a X.env)] := by rfl) : PI X tg (.Call (.Name "range" p) [a] [] pos) (tMI c Z (iRange1 f)) :=
  (pi_range1 hg hm ha hs).imp fun σ H Q h => (tMI.of (rep := RepWs) h).imp fun vs H1 ⟨F1, α1, G1, s, ws, A1, r1, h1⟩ => by
    split at h1
    · rename_i j
      unfold gate at h1
      split at h1
      · rename_i hj
        obtain ⟨v, rfl, r2⟩ := paired1 r1
        cases r2
        exact ⟨j, rfl, hj.1, hj.2, h1 F1 α1 H1 _ Ext.refl A1.rel yields_rng⟩
      · exact h1.elim
    · exact h1.elim
theorem miRange2 {a b : Expr} {f : FA} {p : Pos} (hg : Gl X "range") (hm : X.mg "range" = none) (ha : PA X [a, b] (tMA c Z f)) (hs : starEach [a, b] X.env = [(false, eval a X.env), (false, eval b X.env)] := by rfl) (hs2 : starEach [b] X.env = [(false, eval b X.env)] := by rfl) :
    PI X tg (.Call (.Name "range" p) [a, b] [] pos) (tMI c Z (iRange2 f)) :=
  (pi_range2 hg hm ha hs hs2).imp fun σ H Q h => (tMI.of (rep := RepWs) h).imp fun vs H1 ⟨F1, α1, G1, s, ws, A1, r1, h1⟩ => by
    split at h1
    · rename_i i j
      unfold gate at h1
      split at h1
      · rename_i hj
        obtain ⟨v, u, rfl, r2, r3⟩ := paired2 r1
        cases r2; cases r3
        exact ⟨i, j, rfl, hj, h1 F1 α1 H1 _ Ext.refl A1.rel yields_rng⟩
      · exact h1.elim
    · exact h1.elim
/-- enumerate of a list -/
def enumW (ws : List W) : Option (List W) := (toDs ws).map fun ds => ds.zipIdx.map fun p => W.d (.tup [.int (p.2 : Nat), p.1])
def iEnumL (f : FA) : FA := seqF f fun ws _ G => match ws with
  | [w] => match stillSeq w with
    | some (false, xs) => match enumW xs with
      | some ys => .ok (ys, G)
      | none => .bad
    | _ => .bad
  | _ => .bad
theorem ypair_rep {F : Hp} {α : Nat → Addr} {G : Gd} {fx fy : Nat → Option V} {ws : List W} (hw : ∀ (i : Nat) w, ws[i]? = some w → ∃ a b, w = .d (.tup [a, b]) ∧ pairsD [a, b] = false ∧ (∀ x, fx i = some x → RepD c.K F x a) ∧ ∀ y, fy i = some y → RepD c.K F y b) :
    ∀ (c' : RC), c'.K = c.K → ∀ F' α' G' H', Ext F α G.length F' α' G'.length → Rel c' F' α' G' H' → ∀ (i : Nat) w y H'', ws[i]? = some w → YPair fx fy i H' y H'' → ∃ F'', Ext F' α' G'.length F'' α' G'.length ∧ Rel c' F'' α' G' H'' ∧ RepW c.K F'' α' G'.length y w :=
  fun c' k1 F' α' G' H' x R i w y H'' h ⟨T, x1, x2, e1, nT, e2, e3, e4⟩ => by
    subst e1; subst e2
    obtain ⟨a, b, rfl, hp, h1, h2⟩ := hw i w h
    obtain ⟨R', x'⟩ := R.frz nT (.tup [x1, x2])
    exact ⟨_, x', R', show RepD c.K _ _ _ from .tup (.inl (.inl upd_same)) (.cons (RepD.mono (x.f.trans x'.f) (h1 _ e3)) (.cons (RepD.mono (x.f.trans x'.f) (h2 _ e4)) .nil)) fun z => by rw [hp] at z; cases z⟩
theorem enum_at {ws ys : List W} (h : enumW ws = some ys) : ys.length = ws.length ∧ ∀ (i : Nat) w, ys[i]? = some w → ∃ b, ws[i]? = some (.d b) ∧ w = .d (.tup [.int (i : Nat), b]) := by
  unfold enumW at h
  rw [Option.map_eq_some_iff] at h
  obtain ⟨ds, e, rfl⟩ := h
  rw [toDs_eq e]
  refine ⟨by simp, fun i w hw => ?_⟩
  rw [List.getElem?_map, Option.map_eq_some_iff] at hw
  obtain ⟨p, e1, rfl⟩ := hw
  rw [List.getElem?_zipIdx, Option.map_eq_some_iff] at e1
  obtain ⟨b, e2, rfl⟩ := e1
  exact ⟨b, by rw [List.getElem?_map, e2]; rfl, by simp⟩
theorem miEnumL {e : Expr} {f : FA} {p tpos : Pos} {elts : List Expr} {kk : Nat} (hK : X.K = c.K) (hg : Gl X "enumerate") (hm : X.mg "enumerate" = none) (ha : PA X [e] (tMA c Z f)) (hs : starEach [e] X.env = [(false, eval e X.env)] := by rfl) :
    PI X (.Tuple elts kk tpos) (.Call (.Name "enumerate" p) [e] [] pos) (tMI c Z (iEnumL f)) :=
  (pi_enum hg hm ha hs).imp fun σ H Q h => (tMI.of (rep := RepWs) h).imp fun vs H1 ⟨F1, α1, G1, s, ws, A1, r1, h1⟩ => by
    split at h1
    · rename_i w
      split at h1
      · rename_i xs e1
        split at h1
        · rename_i ys e2
          obtain ⟨v, rfl, r2⟩ := paired1 r1
          obtain ⟨a, us, rfl, hq, r3⟩ := stillSeq_rep r2 e1
          rw [if_neg Bool.false_ne_true] at hq
          obtain ⟨l1, l2⟩ := enum_at e2
          rw [hK]
          refine ⟨a, us, rfl, L2.Same.seq A1.rel.fh hq, h1 F1 α1 H1 _ Ext.refl A1.rel (yields_of walk_enum (by rw [r3.length, l1]) (fun F' H' f h _ => L2.Same.seq (f.trans h) hq) (ypair_rep fun i w hw => ?_))⟩
          obtain ⟨b, eb, rfl⟩ := l2 i w hw
          refine ⟨_, b, rfl, rfl, fun x ex => ?_, fun y ey => ?_⟩
          · cases ex; exact .int _
          · obtain ⟨v', ev, rv⟩ := r3.get eb
            rw [ey] at ev; cases ev; exact rv
        · exact h1.elim
      · exact h1.elim
    · exact h1.elim
/-- reversed of a list or a tuple -/
def iRevW (f : FE) : FA := seqF f fun w _ G => match stillSeq w with
  | some (_, ws) => .ok (ws.reverse, G)
  | none => .bad
theorem yrev_rep {F : Hp} {α : Nat → Addr} {G : Gd} {vs : List V} {ws : List W} (r : RepWs c.K F α G.length vs ws) : ∀ (c' : RC), c'.K = c.K → ∀ F' α' G' H', Ext F α G.length F' α' G'.length → Rel c' F' α' G' H' → ∀ (i : Nat) w y H'', ws.reverse[i]? = some w → (H'' = H' ∧ vs[vs.length - 1 - i]? = some y) → ∃ F'', Ext F' α' G'.length F'' α' G'.length ∧ Rel c' F'' α' G' H'' ∧ RepW c.K F'' α' G'.length y w :=
  fun c' k1 F' α' G' H' x R i w y H'' hw ⟨e, hy⟩ => by
    subst e
    have hi : i < ws.length := by simpa using (List.getElem?_eq_some_iff.mp hw).1
    rw [List.getElem?_reverse hi] at hw
    obtain ⟨v, e1, r1⟩ := r.get hw
    rw [r.length] at hy
    rw [hy] at e1; cases e1
    exact ⟨F', Ext.refl, R, r1.mono x⟩
/-! ### comprehensions -/
def wipeS (s : Sd) : List Nat → Sd
  | [] => s
  | v :: vs => (wipeS s vs).set v none
theorem RepS.wipe {K : PySem.W.Frag} {F : Hp} {α : Nat → Addr} {n : Nat} {σ : St} {s : Sd} (h : RepS K F α n σ s) : ∀ vs, RepS K F α n (L2.wipe σ vs) (wipeS s vs)
  | [] => h
  | v :: vs => (RepS.wipe h vs).clear v
def compM (i : Nat) (t : FT) (e : FE) : List W → List W → Sd → Gd → R (List W × Gd)
  | [], acc, _, G => .ok (acc, G)
  | w :: ws, acc, s, G => match t ((s.set i none).set i (some w)) G with
    | .ok (true, G2) => match e ((s.set i none).set i (some w)) G2 with
      | .ok (x, G3) => if acc.length < sizeLine then compM i t e ws (acc ++ [x]) s G3 else .bad
      | _ => .bad
    | .ok (false, G2) => compM i t e ws acc s G2
    | _ => .bad
def eComp (m : Bool) (i : Nat) (f : FA) (t : FT) (e : FE) : FE := fun s G => (f s G).bind fun p => (compM i t e p.1 [] s p.2).bind fun q => newL m q.1 q.2
/-- the region with one thing more that is kept -/
def RC.with (c : RC) (D : Addr) (vs : List V) : RC := { c with B := upd c.B D (.lst vs) }
theorem Rel.into {F H : Hp} {α : Nat → Addr} {G : Gd} {D : Addr} (R : Rel c F α G H) (hD : H D = none) (vs : List V) : Rel (c.with D vs) F α G (upd H D (.lst vs)) := by
  have hf := R.free hD
  refine ⟨fun b x e => ?_, R.fh.trans (same_upd hD), R.f0, fun a ha => ?_, fun i o h hd => ?_, R.st, R.inj, fun i qs h => ?_⟩
  · by_cases hb : b = D
    · subst hb; rw [show (c.with b vs).B b = upd c.B b (.lst vs) b from rfl, upd_same] at e; rw [upd_same]; exact e
    · rw [show (c.with D vs).B b = upd c.B D (.lst vs) b from rfl, upd_ne hb] at e; rw [upd_ne hb]; exact R.bh _ _ e
  · by_cases hb : a = D
    · subst hb
      have h0 : c.F0 a = none := R.f0.free hf.2
      show F a = c.F0 a
      rw [hf.2, h0]
    · exact R.fb a (by rw [show (c.with D vs).B a = upd c.B D (.lst vs) a from rfl, upd_ne hb] at ha; exact ha)
  · obtain ⟨⟨ho, e, r⟩, b1, b2⟩ := R.ob i o h hd
    have ne := R.ne hD h hd
    exact ⟨⟨ho, by rw [upd_ne ne]; exact e, RepO.mono Ext.refl r⟩, by rw [show (c.with D vs).B (α i) = upd c.B D (.lst vs) (α i) from rfl, upd_ne ne]; exact b1, b2⟩
  · obtain ⟨o, kvs, e, r⟩ := R.pn i qs h
    exact ⟨o, kvs, by rw [show (c.with D vs).B (α i) = upd c.B D (.lst vs) (α i) from rfl, upd_ne (ne_of_none e hf.1)]; exact e, r⟩
theorem Rel.again {F H : Hp} {α : Nat → Addr} {G : Gd} {D : Addr} {vs us : List V} (R : Rel (c.with D vs) F α G H) (hF : F D = none) : Rel (c.with D us) F α G (upd H D (.lst us)) := by
  have ne : ∀ {i : Nat} {o : O}, G[i]? = some o → o.live → α i ≠ D := fun {i o} h hd z => by
    have := (R.ob i o h hd).2.1
    rw [show (c.with D vs).B (α i) = upd c.B D (.lst vs) (α i) from rfl, z, upd_same] at this
    cases this
  refine ⟨fun b x e => ?_, fun b x e => ?_, R.f0, fun a ha => ?_, fun i o h hd => ?_, R.st, R.inj, fun i qs h => ?_⟩
  · by_cases hb : b = D
    · subst hb; rw [show (c.with b us).B b = upd c.B b (.lst us) b from rfl, upd_same] at e; rw [upd_same]; exact e
    · rw [show (c.with D us).B b = upd c.B D (.lst us) b from rfl, upd_ne hb] at e
      rw [upd_ne hb]
      exact R.bh b x (by rw [show (c.with D vs).B b = upd c.B D (.lst vs) b from rfl, upd_ne hb]; exact e)
  · have : b ≠ D := fun z => by rw [z, hF] at e; cases e
    rw [upd_ne this]; exact R.fh _ _ e
  · by_cases hb : a = D
    · exact R.fb a (by rw [hb, show (c.with D vs).B D = upd c.B D (.lst vs) D from rfl, upd_same]; simp)
    · exact R.fb a (by
        rw [show (c.with D us).B a = upd c.B D (.lst us) a from rfl, upd_ne hb] at ha
        rw [show (c.with D vs).B a = upd c.B D (.lst vs) a from rfl, upd_ne hb]; exact ha)
  · obtain ⟨⟨ho, e, r⟩, b1, b2⟩ := R.ob i o h hd
    have n := ne h hd
    refine ⟨⟨ho, by rw [upd_ne n]; exact e, RepO.mono Ext.refl r⟩, ?_, b2⟩
    rw [show (c.with D vs).B (α i) = upd c.B D (.lst vs) (α i) from rfl, upd_ne n] at b1
    rw [show (c.with D us).B (α i) = upd c.B D (.lst us) (α i) from rfl, upd_ne n]
    exact b1
  · obtain ⟨o, kvs, e, r⟩ := R.pn i qs h
    have n : α i ≠ D := fun z => by
      rw [show (c.with D vs).B (α i) = upd c.B D (.lst vs) (α i) from rfl, z, upd_same] at e
      cases e
    rw [show (c.with D vs).B (α i) = upd c.B D (.lst vs) (α i) from rfl, upd_ne n] at e
    exact ⟨o, kvs, by rw [show (c.with D us).B (α i) = upd c.B D (.lst us) (α i) from rfl, upd_ne n]; exact e, r⟩
/-- the heap without the thing at D -/
def cutH (H : Hp) (D : Addr) : Hp := fun b => if b = D then none else H b
theorem cutH_upd {H : Hp} {D : Addr} {o : HO} (h : H D = some o) : upd (cutH H D) D o = H := by
  funext b
  by_cases e : b = D
  · subst e; rw [upd_same, h]
  · rw [upd_ne e]; exact if_neg e
theorem Rel.out {F H : Hp} {α : Nat → Addr} {G : Gd} {D : Addr} {vs : List V} (R : Rel (c.with D vs) F α G H) (hF : F D = none) (hB : c.B D = none) : Rel c F α G (cutH H D) := by
  have ne : ∀ {i : Nat} {o : O}, G[i]? = some o → o.live → α i ≠ D := fun {i o} h hd z => by
    have := (R.ob i o h hd).2.1
    rw [show (c.with D vs).B (α i) = upd c.B D (.lst vs) (α i) from rfl, z, upd_same] at this
    cases this
  refine ⟨fun b x e => ?_, fun b x e => ?_, R.f0, fun a ha => ?_, fun i o h hd => ?_, R.st, R.inj, fun i qs h => ?_⟩
  · have hb : b ≠ D := fun z => by rw [z, hB] at e; cases e
    rw [show cutH H D b = H b from if_neg hb]
    exact R.bh b x (by rw [show (c.with D vs).B b = upd c.B D (.lst vs) b from rfl, upd_ne hb]; exact e)
  · have hb : b ≠ D := fun z => by rw [z, hF] at e; cases e
    rw [show cutH H D b = H b from if_neg hb]; exact R.fh _ _ e
  · have hb : a ≠ D := fun z => ha (by rw [z]; exact hB)
    exact R.fb a (by rw [show (c.with D vs).B a = upd c.B D (.lst vs) a from rfl, upd_ne hb]; exact ha)
  · obtain ⟨⟨ho, e, r⟩, b1, b2⟩ := R.ob i o h hd
    have n := ne h hd
    refine ⟨⟨ho, by rw [show cutH H D (α i) = H (α i) from if_neg n]; exact e, RepO.mono Ext.refl r⟩, ?_, b2⟩
    rw [show (c.with D vs).B (α i) = upd c.B D (.lst vs) (α i) from rfl, upd_ne n] at b1
    exact b1
  · obtain ⟨o, kvs, e, r⟩ := R.pn i qs h
    have n : α i ≠ D := fun z => by
      rw [show (c.with D vs).B (α i) = upd c.B D (.lst vs) (α i) from rfl, z, upd_same] at e
      cases e
    rw [show (c.with D vs).B (α i) = upd c.B D (.lst vs) (α i) from rfl, upd_ne n] at e
    exact ⟨o, kvs, e, r⟩
theorem Rel.noF {F H : Hp} {α : Nat → Addr} {G : Gd} {D : Addr} {vs : List V} (R : Rel (c.with D vs) F α G H) (h0 : c.F0 D = none) : F D = none :=
  (R.fb D (by rw [show (c.with D vs).B D = upd c.B D (.lst vs) D from rfl, upd_same]; simp)).trans h0
/-- readings in some region with our written part -/
def inSome (c : RC) (t : RC → TE) : TE := fun σ H Q => ∃ c' : RC, c'.K = c.K ∧ c'.cl = c.cl ∧ t c' σ H Q
def inSomeT (c : RC) (t : RC → TT) : TT := fun σ H Q => ∃ c' : RC, c'.K = c.K ∧ c'.cl = c.cl ∧ t c' σ H Q
abbrev Z0 : WX := fun _ _ _ _ => False
theorem comp_ok {m : Bool} {i : Nat} {f : FA} {t : FT} {e : FE} {wi : TI} (hw : ∀ σ H Q, tMI c Z f σ H Q → wi σ H Q) (σ : St) (H : Hp) (Q : VK) (h : tM c Z (eComp m i f t e) σ H Q) :
    tLc wi (gName i) (inSomeT c fun c' => tMT c' Z0 t) (inSome c fun c' => tM c' Z0 e) [i] σ H Q := by
  refine hw σ H _ ?_
  obtain ⟨F, α, G, s, A, h⟩ := h
  refine ⟨F, α, G, s, A, ?_⟩
  unfold eComp at h
  cases ef : f s G with
  | bad => rw [ef] at h; exact h
  | exc x s' G' => rw [ef] at h; exact h
  | ok p =>
    obtain ⟨ws, G1⟩ := p
    rw [ef] at h
    dsimp only [R.bind] at h
    intro F1 α1 H1 J x1 R1 Y D hD
    have hB : c.B D = none := R1.bh.free hD
    have hF0 : c.F0 D = none := R1.f0.free (R1.fh.free hD)
    have h1 : FinE c Z F1 α1 G1.length ((compM i t e ws [] s G1).bind fun q => newL m q.1 q.2) Q := Fin.mono (rep := RepW) x1 h
    refine ⟨fun k n H => n = ws.length - k ∧ k ≤ ws.length ∧ ∃ F' α' G' vs acc, Ext F1 α1 G1.length F' α' G'.length ∧ Rel (c.with D vs) F' α' G' H ∧ RepWs c.K F' α' G'.length vs acc ∧ FinE c Z F' α' G'.length ((compM i t e (ws.drop k) acc s G').bind fun q => newL m q.1 q.2) Q,
      ⟨ws.length, by simp, Nat.zero_le _, F1, α1, G1, [], [], Ext.refl, R1.into hD [], .nil, by simpa using h1⟩, ?_⟩
    rintro k n H2 ⟨rfl, hk, F2, α2, G2, vs, acc, x2, R2, ra, h2⟩
    have hF2 := R2.noF hF0
    have hHD : H2 D = some (.lst vs) := R2.bh D _ (by rw [show (c.with D vs).B D = upd c.B D (.lst vs) D from rfl, upd_same])
    -- the walked thing goes on
    have R2o : Rel c F2 α2 G2 (cutH H2 D) := R2.out hF2 hB
    have y := Y (c.with D vs) rfl rfl (same_upd hB) F2 α2 G2 H2 x2 R2 k
    cases hwk : ws[k]? with
    | none =>
      have hk' : ws.length ≤ k := List.getElem?_eq_none_iff.mp hwk
      rw [List.drop_eq_nil_of_le hk'] at h2
      refine .inl ⟨y.2 (by omega), ?_⟩
      have fin := newL_fin (Q := Q) (p := D) h2 R2o ra (by exact if_pos rfl)
      rw [cutH_upd hHD] at fin; exact fin
    | some w =>
      obtain ⟨hlt, ew⟩ := List.getElem?_eq_some_iff.mp hwk
      obtain ⟨g1, g2⟩ := y.1 w hwk
      rw [List.drop_eq_getElem_cons hlt, ew] at h2
      refine .inr ⟨g1, fun H' => ∃ F' α' G' vs acc, Ext F1 α1 G1.length F' α' G'.length ∧ Rel (c.with D vs) F' α' G' H' ∧ RepWs c.K F' α' G'.length vs acc ∧ FinE c Z F' α' G'.length ((compM i t e (ws.drop (k + 1)) acc s G').bind fun q => newL m q.1 q.2) Q,
        fun H' q => ⟨ws.length - (k + 1), by omega, rfl, hlt, q⟩, fun x H3 hx => ?_⟩
      obtain ⟨F3, x3, R3, r3⟩ := g2 x H3 hx
      have S3 : RepS c.K F3 α2 G2.length σ s := A.sl.mono (x1.trans (x2.trans x3))
      refine ⟨by show List.set (List.set (List.set σ i none) i (some x)) i none = List.set σ i none; rw [List.set_set, List.set_set], ?_⟩
      refine ⟨c.with D vs, rfl, rfl, F3, α2, G2, (s.set i none).set i (some w), ⟨R3, (S3.clear i).set r3 i⟩, ?_⟩
      unfold compM at h2
      cases et : t ((s.set i none).set i (some w)) G2 with
      | bad => rw [et] at h2; exact h2.elim
      | exc x s' G' => rw [et] at h2; exact h2.elim
      | ok q =>
        obtain ⟨b, G4⟩ := q
        rw [et] at h2
        intro F4 α4 H4 b' x4 R4 r4
        have r4' : b' = b := r4
        subst r4'
        have far : Ext F1 α1 G1.length F4 α4 G4.length := x2.trans (x3.trans x4)
        cases b' with
        | false => exact iteF ⟨F4, α4, G4, vs, acc, far, R4, RepWs.mono (x3.trans x4) ra, Fin.mono (rep := RepW) (x3.trans x4) h2⟩
        | true =>
          refine iteT ?_
          refine ⟨c.with D vs, rfl, rfl, F4, α4, G4, (s.set i none).set i (some w), ⟨R4, ((S3.clear i).set r3 i).mono x4⟩, ?_⟩
          dsimp only at h2
          cases ee : e ((s.set i none).set i (some w)) G4 with
          | bad => rw [ee] at h2; exact h2.elim
          | exc x s' G' => rw [ee] at h2; exact h2.elim
          | ok q5 =>
            obtain ⟨y5, G5⟩ := q5
            rw [ee] at h2
            dsimp only at h2
            intro F5 α5 H5 v5 x5 R5 r5
            split at h2
            · rename_i hl
              have x345 := x3.trans (x4.trans x5)
              have ra5 := RepWs.mono x345 ra
              refine ⟨vs, R5.bh D _ (by rw [show (c.with D vs).B D = upd c.B D (.lst vs) D from rfl, upd_same]), by rw [ra.length]; exact hl, F5, α5, G5, vs ++ [v5], acc ++ [y5], x2.trans x345, R5.again (R5.noF hF0), ra5.append (.cons r5 .nil), Fin.mono (rep := RepW) x345 h2⟩
            · exact h2.elim
/-- no test -/
def tYesM : FT := fun _ G => .ok (true, G)
theorem yes_ok (σ : St) (H : Hp) (Q : Bool → Hp → Prop) (h : inSomeT c (fun c' => tMT c' Z0 tYesM) σ H Q) : tYes σ H Q := by
  obtain ⟨c', _, _, F, α, G, s, A, h⟩ := h
  exact h F α H true Ext.refl A.rel rfl
theorem pe_some {X : Cx} {c : RC} {e : Expr} {t : RC → TE} (h : ∀ c' : RC, c'.K = c.K → c'.cl = c.cl → PE X e (t c')) : PE X e (inSome c t) := ⟨fun pins s σ H Q I ⟨c', k1, k2, w⟩ => (h c' k1 k2).run pins s σ H Q I w⟩
theorem pt_some {X : Cx} {c : RC} {e : Expr} {t : RC → TT} (h : ∀ c' : RC, c'.K = c.K → c'.cl = c.cl → PT X e (t c')) : PT X e (inSomeT c t) := ⟨fun pins s σ H Q I ⟨c', k1, k2, w⟩ => (h c' k1 k2).run pins s σ H Q I w⟩
theorem _root_.L2.PTs.imp {X : Cx} {e : List Expr} {t t' : TT} (h : PTs X e t) (i : ∀ σ H Q, t' σ H Q → t σ H Q) : PTs X e t' := ⟨fun pins s σ H Q I w => h.run pins s σ H Q I (i σ H Q w)⟩
/-- the context of a comprehension's block -/
abbrev Blk (X : Cx) (scope : Scope) (P : Cx → Prop) : Prop := ∀ (s : Shared) (H : Hp) (C : Addr) (cl : List (Str × Addr)) (fp : List Addr), P (X.blk s H scope (compEnvC scope cl C X.env) fp)
theorem mComp (m : Bool) (i : Nat) {x : Str} {elt iter : Expr} {tpos : Pos} {scope : Scope} {f : FA} {e : FE} (hc : X.calm = true) (hN : X.N.Nodup) (hi : PI X (.Name x tpos) iter (tMI c Z f)) (ok : BlkOk X.N X.env.scope scope [(x, i)])
    (hg : Blk X scope fun Y => PG Y (.Name x tpos) (gName i)) (he : ∀ c' : RC, c'.K = c.K → c'.cl = c.cl → Blk X scope fun Y => PE Y elt (tM c' Z0 e)) (hs : ∀ x, foldedSetIterable iter X.env x = pure x := by intro _; rfl) :
    PE X (.ListComp elt [⟨.Name x tpos, iter, [], 0⟩] scope pos) (tM c Z (eComp m i f tYesM e)) :=
  (pe_lc hc hN hi ok hg (fun s H C cl fp => pts_nil.imp yes_ok) (fun s H C cl fp => pe_some fun c' k1 k2 => he c' k1 k2 s H C cl fp) hs).imp fun σ H Q h => comp_ok (fun _ _ _ h => h) σ H Q h
theorem mCompIf (m : Bool) (i : Nat) {x : Str} {elt iter tst : Expr} {tpos : Pos} {scope : Scope} {f : FA} {t : FT} {e : FE} (hc : X.calm = true) (hN : X.N.Nodup) (hi : PI X (.Name x tpos) iter (tMI c Z f)) (ok : BlkOk X.N X.env.scope scope [(x, i)])
    (hg : Blk X scope fun Y => PG Y (.Name x tpos) (gName i)) (ht : ∀ c' : RC, c'.K = c.K → c'.cl = c.cl → Blk X scope fun Y => PT Y tst (tMT c' Z0 t)) (he : ∀ c' : RC, c'.K = c.K → c'.cl = c.cl → Blk X scope fun Y => PE Y elt (tM c' Z0 e)) (hs : ∀ x, foldedSetIterable iter X.env x = pure x := by intro _; rfl) :
    PE X (.ListComp elt [⟨.Name x tpos, iter, [tst], 0⟩] scope pos) (tM c Z (eComp m i f t e)) :=
  (pe_lc hc hN hi ok hg (fun s H C cl fp => pts_one (pt_some fun c' k1 k2 => ht c' k1 k2 s H C cl fp)) (fun s H C cl fp => pe_some fun c' k1 k2 => he c' k1 k2 s H C cl fp) hs).imp fun σ H Q h => comp_ok (fun _ _ _ h => h) σ H Q h
/-- y = [..] on one line -/
theorem mSetComp (m : Bool) (i j : Nat) {x y : Str} {py : Pos} {elt iter : Expr} {tpos spos : Pos} {scope : Scope} {f : FA} {e : FE} (hc : X.calm = true) (hN : X.N.Nodup) (hy : X.N[j]? = some y) (hyl : X.env.scope.names.lookup y = some .local)
    (hsw : swapsWith (.ListComp elt [⟨.Name x tpos, iter, [], 0⟩] scope pos) (some (.Name y py)) spos.line X.env = pure true) (hi : PI X (.Name x tpos) iter (tMI c Z f)) (ok : BlkOk X.N X.env.scope scope [(x, i)])
    (hg : Blk X scope fun Y => PG Y (.Name x tpos) (gName i)) (he : ∀ c' : RC, c'.K = c.K → c'.cl = c.cl → Blk X scope fun Y => PE Y elt (tM c' Z0 e)) (hs : ∀ x, foldedSetIterable iter X.env x = pure x := by intro _; rfl) :
    PS X (.Assign [.Name y py] (.ListComp elt [⟨.Name x tpos, iter, [], 0⟩] scope pos) spos) (tMS c Z (sSet j (eComp m i f tYesM e))) :=
  (ps_setLc hc hN hy hyl hsw hi ok hg (fun s H C cl fp => pts_nil.imp yes_ok) (fun s H C cl fp => pe_some fun c' k1 k2 => he c' k1 k2 s H C cl fp) hs).imp fun E σ H h =>
    comp_ok (fun _ _ _ h => h) σ H _ ((tG.seqS (rep := RepW) h).imp fun v H1 ⟨F1, α1, G1, s, w, A1, r1, h1⟩ => h1 F1 α1 H1 _ Ext.refl ⟨A1.rel, A1.sl.set r1 j⟩)
theorem mSetCompIf (m : Bool) (i j : Nat) {x y : Str} {py : Pos} {elt iter tst : Expr} {tpos spos : Pos} {scope : Scope} {f : FA} {t : FT} {e : FE} (hc : X.calm = true) (hN : X.N.Nodup) (hy : X.N[j]? = some y) (hyl : X.env.scope.names.lookup y = some .local)
    (hsw : swapsWith (.ListComp elt [⟨.Name x tpos, iter, [tst], 0⟩] scope pos) (some (.Name y py)) spos.line X.env = pure true) (hi : PI X (.Name x tpos) iter (tMI c Z f)) (ok : BlkOk X.N X.env.scope scope [(x, i)])
    (hg : Blk X scope fun Y => PG Y (.Name x tpos) (gName i)) (ht : ∀ c' : RC, c'.K = c.K → c'.cl = c.cl → Blk X scope fun Y => PT Y tst (tMT c' Z0 t)) (he : ∀ c' : RC, c'.K = c.K → c'.cl = c.cl → Blk X scope fun Y => PE Y elt (tM c' Z0 e)) (hs : ∀ x, foldedSetIterable iter X.env x = pure x := by intro _; rfl) :
    PS X (.Assign [.Name y py] (.ListComp elt [⟨.Name x tpos, iter, [tst], 0⟩] scope pos) spos) (tMS c Z (sSet j (eComp m i f t e))) :=
  (ps_setLc hc hN hy hyl hsw hi ok hg (fun s H C cl fp => pts_one (pt_some fun c' k1 k2 => ht c' k1 k2 s H C cl fp)) (fun s H C cl fp => pe_some fun c' k1 k2 => he c' k1 k2 s H C cl fp) hs).imp fun E σ H h =>
    comp_ok (fun _ _ _ h => h) σ H _ ((tG.seqS (rep := RepW) h).imp fun v H1 ⟨F1, α1, G1, s, w, A1, r1, h1⟩ => h1 F1 α1 H1 _ Ext.refl ⟨A1.rel, A1.sl.set r1 j⟩)
end
end M

set_option maxRecDepth 100000
set_option maxHeartbeats 4000000
namespace M
open PySem PySem.Spec PyProof.Rows L2
/-! ### defs -/
/-- a def of the text where it stands -/
def DefAt (K : PySem.W.Frag) (mg : Str → Option Value) (x : Str) (st : Stmt) (ps : List Str) : Prop := ∃ f fd, Fun K x x st f fd ∧ mg x = some (.ref f) ∧ ∀ us : List Value, us.length = ps.length → bindArgs fd ⟨us, []⟩ = pure (ps.zip us)
/-- a def that keeps a promise -/
def FnM (P : Program) (w : World) (K : PySem.W.Frag) (mg : Str → Option Value) (base : Heap) (k : Nat) (x : Str) (ps : List Str) (sp : Sp) : Prop :=
  ∃ f fd, mg x = some (.ref f) ∧ PySem.W.keepIn K (.ref f) = true ∧ Binds K fd ps [] ∧ FnOk P w K mg base (L2.CX P w) k f fd ps sp
theorem FnM.mono {P : Program} {w : World} {K : PySem.W.Frag} {mg : Str → Option Value} {base : Heap} {j k : Nat} {x : Str} {ps : List Str} {sp : Sp} (F : FnM P w K mg base j x ps sp) (h : j ≤ k) : FnM P w K mg base k x ps sp :=
  let ⟨f, fd, a, b, c, d⟩ := F; ⟨f, fd, a, b, c, d.mono h⟩
/-- data in, data out -/
def spP (K : PySem.W.Frag) (cl : ClsAt) (n : Nat) (f : List D → R D) : Sp := fun vs H Q E => vs.length = n ∧ ∃ F ds, Same F H ∧ RepDs K F vs ds ∧ match f ds with
  | .ok d => ∀ F' H' v, Same H H' → Same F' H' → Same F F' → (∀ a, H a ≠ none → F' a = F a) → RepD K F' v d → Q v H'
  | .exc x _ _ => ∀ F' H' cls d, Same H H' → Same F' H' → Same F F' → (∀ a, H a ≠ none → F' a = F a) → RepX ⟨K, cl, H, F⟩ F' x cls d H' → E cls d H'
  | .bad => False
/-- things in, a value out, the things changed -/
def spH (K : PySem.W.Frag) (cl : ClsAt) (n : Nat) (f : List W → Gd → R (W × Gd)) : Sp := fun vs H Q E => vs.length = n ∧ ∃ (c : RC) (F : Hp) (α : Nat → Addr) (G : Gd) (ws : List W), c.K = K ∧ c.cl = cl ∧ Rel c F α G H ∧ RepWs K F α G.length vs ws ∧ match f ws G with
  | .ok (w, G') => ∀ F' α' H' v, Ext F α G.length F' α' G'.length → Rel c F' α' G' H' → RepW K F' α' G'.length v w → Q v H'
  | .exc x _ G' => ∀ F' α' H' cls d, Ext F α G.length F' α' G'.length → Rel c F' α' G' H' → RepX c F' x cls d H' → E cls d H'
  | .bad => False
def slots (N : Nat) (ws : List W) : Sd := ws.map some ++ List.replicate (N - ws.length) none
/-- what a body tells of data -/
def fnD (n N : Nat) (b : FS) (ds : List D) : R D := if ds.length = n then match b (slots N (ds.map W.d)) [] with
  | .ok (.rt (.d x), _) => .ok x
  | .ok (.nx _, _) => .ok .non
  | .exc x _ _ => .exc x [] []
  | _ => .bad else .bad
def fnH (n N : Nat) (b : FS) (ws : List W) (G : Gd) : R (W × Gd) := if ws.length = n then match b (slots N ws) G with
  | .ok (.rt w, G') => .ok (w, G')
  | .ok (.nx _, G') => .ok (.d .non, G')
  | .exc x _ G' => .exc x [] G'
  | _ => .bad else .bad
theorem reps_start {K : PySem.W.Frag} {F : Hp} {α : Nat → Addr} {n : Nat} {N : List Str} {vs : List V} {ws : List W} (r : RepWs K F α n vs ws) : RepS K F α n (start N vs) (slots N.length ws) := by
  have hl := r.length
  refine ⟨by simp [L2.start, slots, hl], fun i w h => ?_⟩
  unfold slots at h
  by_cases hi : i < ws.length
  · rw [List.getElem?_append_left (by simpa using hi), List.getElem?_map, Option.map_eq_some_iff] at h
    obtain ⟨w', e, e'⟩ := h
    cases e'
    obtain ⟨v, e1, r1⟩ := r.get e
    refine ⟨v, ?_, r1⟩
    unfold L2.start
    rw [List.getElem?_append_left (by simpa [hl] using hi), List.getElem?_map, e1]; rfl
  · rw [List.getElem?_append_right (by simpa using hi), List.getElem?_replicate] at h
    split at h <;> cases h
section
variable {P : Program} {w : World} {K : PySem.W.Frag} {mg : Str → Option Value} {base : Heap} {cl : ClsAt}
/-- the body of a def, in every region -/
abbrev BodyOk (P : Program) (w : World) (K : PySem.W.Frag) (mg : Str → Option Value) (base : Heap) (cl : ClsAt) (N : List Str) (x : Str) (st : Stmt) (k : Nat) (b : FS) : Prop :=
  ∀ (f : Addr) (cdv : Value) (A : Around) (outer : List Env) (s : Shared) (H : Hp) (E : XK), Room k (A.deeper (envOfC x (defScope st) s.heap.objs.size f cdv)) → ∀ c : RC, c.K = K → c.cl = cl →
    PSs (cxOf (L2.CX P w) P w K mg base N x (defScope st) f cdv A outer s H E) (defBody st) (tMS c (fun cls d _ H' => E cls d H') b)
theorem fn_pureF {x : Str} {st : Stmt} {N ps : List Str} {k : Nat} {b : FS} {f : Addr} {fd : FuncData} (F : Fun K x x st f fd) (S : FnScope N ps (defScope st)) (hb : BodyOk P w K mg base cl N x st k b) : FnOk P w K mg base (L2.CX P w) (k + 1) f fd ps (spP K cl ps.length (fnD ps.length N.length b)) := by
  refine F.okX S (fun vs H Q E h => h.1) fun cdv A outer s H vs Q E hr h => ?_
  obtain ⟨hl, Fz, ds, hf, rd, h⟩ := h
  have body := hb f cdv A outer s H E hr ⟨K, cl, H, Fz⟩ rfl rfl
  refine ⟨_, body, Fz, fun _ => 0, [], slots N.length (ds.map W.d), ⟨⟨Same.refl _, hf, Same.refl _, fun _ _ => rfl, fun i o e => by simp at e, fun i ds e => by simp at e, fun i j oi oj e => by simp at e, fun i qs e => by simp at e⟩, reps_start (RepDs.ws rd)⟩, ?_⟩
  unfold fnD at h
  rw [if_pos (by rw [← RepDs.length rd]; exact hl)] at h
  cases e : b (slots N.length (ds.map W.d)) [] with
  | bad => rw [e] at h; exact h.elim
  | exc x s' G' => rw [e] at h; exact fun F' α' H' σ' cls d x1 R1 S1 r1 => h F' H' cls d R1.bh R1.fh R1.f0 R1.fb r1
  | ok p =>
    obtain ⟨q, G'⟩ := p
    rw [e] at h
    cases q with
    | nx s' => exact fun F' α' H' σ' x1 A1 => h F' H' .non A1.rel.bh A1.rel.fh A1.rel.f0 A1.rel.fb .non
    | bk s' => exact h.elim
    | ct s' => exact h.elim
    | rt u =>
      cases u with
      | ref i => exact h.elim
      | d y => exact fun F' α' H' v x1 R1 r1 => h F' H' v R1.bh R1.fh R1.f0 R1.fb r1
theorem fn_pure {x : Str} {st : Stmt} {N ps : List Str} {k : Nat} {b : FS} (T : DefAt K mg x st ps) (S : FnScope N ps (defScope st)) (hb : BodyOk P w K mg base cl N x st k b) : FnM P w K mg base (k + 1) x ps (spP K cl ps.length (fnD ps.length N.length b)) :=
  let ⟨f, fd, F, hg, hB⟩ := T
  ⟨f, fd, hg, F.kp, .all hB, fn_pureF F S hb⟩
theorem fn_heap {x : Str} {st : Stmt} {N ps : List Str} {k : Nat} {b : FS} (T : DefAt K mg x st ps) (S : FnScope N ps (defScope st)) (hb : BodyOk P w K mg base cl N x st k b) : FnM P w K mg base (k + 1) x ps (spH K cl ps.length (fnH ps.length N.length b)) := by
  obtain ⟨f, fd, F, hg, hB⟩ := T
  refine ⟨f, fd, hg, F.kp, .all hB, F.okX S (fun vs H Q E h => h.1) fun cdv A outer s H vs Q E hr h => ?_⟩
  obtain ⟨hl, c, Fz, α, G, ws, hK, hcl, R, rw_, h⟩ := h
  have body := hb f cdv A outer s H E hr c hK hcl
  have rw' : RepWs c.K Fz α G.length vs ws := by rw [hK]; exact rw_
  refine ⟨_, body, Fz, α, G, slots N.length ws, ⟨R, reps_start rw'⟩, ?_⟩
  unfold fnH at h
  rw [if_pos (by rw [← rw_.length]; exact hl)] at h
  cases e : b (slots N.length ws) G with
  | bad => rw [e] at h; exact h.elim
  | exc x s' G' => rw [e] at h; exact fun F' α' H' σ' cls d x1 R1 S1 r1 => h F' α' H' cls d x1 R1 r1
  | ok p =>
    obtain ⟨q, G'⟩ := p
    rw [e] at h
    cases q with
    | nx s' => exact fun F' α' H' σ' x1 A1 => h F' α' H' .non x1 A1.rel .non
    | bk s' => exact h.elim
    | ct s' => exact h.elim
    | rt u => exact fun F' α' H' v x1 R1 r1 => h F' α' H' v x1 R1 (by rw [← hK]; exact r1)
end
section
variable {X : Cx} {c : RC} {Z : WX} {pos : Pos}
theorem Rel.after {F F' H H' : Hp} {α : Nat → Addr} {G : Gd} (R : Rel c F α G H) (h1 : Same H H') (h2 : Same F' H') (h3 : Same F F') (h4 : ∀ a, H a ≠ none → F' a = F a) : Rel c F' α G H' :=
  ⟨R.bh.trans h1, h2, R.f0.trans h3, fun a ha => by
    have : H a ≠ none := by
      cases e : c.B a with
      | none => exact absurd e ha
      | some o => rw [R.bh a o e]; simp
    rw [h4 a this]; exact R.fb a ha, fun i o h hd => by
    obtain ⟨⟨ho, e, r⟩, b1, b2⟩ := R.ob i o h hd
    exact ⟨⟨ho, h1 _ _ e, RepO.mono ⟨h3, fun _ _ => rfl, Nat.le_refl _⟩ r⟩, b1, by rw [h4 _ (by rw [e]; simp)]; exact b2⟩, fun i ds h => by
    obtain ⟨vs, e, r⟩ := R.st i ds h
    exact ⟨vs, h3 _ _ e, RepDs.mono h3 r⟩, R.inj, fun i qs h => by
    obtain ⟨o, kvs, e, r⟩ := R.pn i qs h
    exact ⟨o, kvs, e, RepKV.mono ⟨h3, fun _ _ => rfl, Nat.le_refl _⟩ r⟩⟩
/-- f(e, ..): data in, data out -/
def eCall (n : Nat) (f : List D → R D) (fa : FA) : FE := seqF fa fun ws s G => if ws.length = n then match toDs ws with
  | some ds => match f ds with
    | .ok d => .ok (.d d, G)
    | .exc x _ _ => .exc x s G
    | .bad => .bad
  | none => .bad else .bad
def eCallH (n : Nat) (f : List W → Gd → R (W × Gd)) (fa : FA) : FE := seqF fa fun ws s G => if ws.length = n then match f ws G with
  | .ok p => .ok p
  | .exc x _ G' => .exc x s G'
  | .bad => .bad else .bad
theorem call_ok {n : Nat} {f : List D → R D} {fa : FA} {K : PySem.W.Frag} {cl : ClsAt} (hK : c.K = K) (hcl : c.cl = cl) (σ : St) (H : Hp) (Q : VK) (h : tM c Z (eCall n f fa) σ H Q) : tMA c Z fa σ H fun vs H1 => spP K cl n f vs H1 Q (WE Z σ) := by
  obtain ⟨Fa, αa, Ga, sa, Aa, ha⟩ := h
  refine ⟨Fa, αa, Ga, sa, Aa, ?_⟩
  unfold eCall seqF at ha
  cases e : fa sa Ga with
  | bad => rw [e] at ha; exact ha
  | exc x s' G' => rw [e] at ha; exact ha
  | ok p =>
    obtain ⟨ws, G1⟩ := p
    rw [e] at ha
    dsimp only [R.bind] at ha
    intro F1 α1 H1 vs x1 R1 r1
    have S1 : RepS c.K F1 α1 G1.length σ sa := Aa.sl.mono x1
    have h1 := Fin.mono (rep := RepW) x1 ha
    split at h1
    · rename_i hn
      split at h1
      · rename_i ds e2
        refine ⟨by rw [r1.length]; exact hn, F1, ds, R1.fh, by rw [← hK]; exact RepWs.ds (by rw [← toDs_eq e2]; exact r1), ?_⟩
        cases e3 : f ds with
        | bad => rw [e3] at h1; exact h1.elim
        | ok d =>
          rw [e3] at h1
          exact fun F' H' v k1 k2 k3 k4 r => h1 F' α1 H' v ⟨k3, fun _ _ => rfl, Nat.le_refl _⟩ (R1.after k1 k2 k3 k4) (show RepD c.K F' v d by rw [hK]; exact r)
        | exc x s' G' =>
          rw [e3] at h1
          intro F' H' cls d k1 k2 k3 k4 r
          refine h1 F' α1 H' σ cls d ⟨k3, fun _ _ => rfl, Nat.le_refl _⟩ (R1.after k1 k2 k3 k4) (S1.mono ⟨k3, fun _ _ => rfl, Nat.le_refl _⟩) ?_
          obtain ⟨C, q1, q2, q3⟩ := r
          exact ⟨C, by rw [hcl]; exact q1, q2, q3.imp id fun ⟨dx, vs, u1, u2, u3, u4⟩ => ⟨dx, vs, u1, R1.bh.free u2, u3, by rw [hK]; exact u4⟩⟩
      · exact h1.elim
    · exact h1.elim
theorem callH_ok {n : Nat} {f : List W → Gd → R (W × Gd)} {fa : FA} {K : PySem.W.Frag} {cl : ClsAt} (hK : c.K = K) (hcl : c.cl = cl) (σ : St) (H : Hp) (Q : VK) (h : tM c Z (eCallH n f fa) σ H Q) : tMA c Z fa σ H fun vs H1 => spH K cl n f vs H1 Q (WE Z σ) := by
  obtain ⟨Fa, αa, Ga, sa, Aa, ha⟩ := h
  refine ⟨Fa, αa, Ga, sa, Aa, ?_⟩
  unfold eCallH seqF at ha
  cases e : fa sa Ga with
  | bad => rw [e] at ha; exact ha
  | exc x s' G' => rw [e] at ha; exact ha
  | ok p =>
    obtain ⟨ws, G1⟩ := p
    rw [e] at ha
    dsimp only [R.bind] at ha
    intro F1 α1 H1 vs x1 R1 r1
    have S1 : RepS c.K F1 α1 G1.length σ sa := Aa.sl.mono x1
    have h1 := Fin.mono (rep := RepW) x1 ha
    split at h1
    · rename_i hn
      refine ⟨by rw [r1.length]; exact hn, c, F1, α1, G1, ws, hK, hcl, R1, by rw [← hK]; exact r1, ?_⟩
      cases e3 : f ws G1 with
      | bad => rw [e3] at h1; exact h1.elim
      | ok q =>
        rw [e3] at h1
        exact fun F' α' H' v x' R' r => h1 F' α' H' v x' R' (by rw [hK]; exact r)
      | exc x s' G' =>
        rw [e3] at h1
        exact fun F' α' H' cls d x' R' r => h1 F' α' H' σ cls d x' R' (S1.mono x') r
    · exact h1.elim
theorem mCall {K : PySem.W.Frag} {cl : ClsAt} {k : Nat} {x : Str} {ps : List Str} {n : Nat} {f : List D → R D} {fa : FA} {e : Expr} {es : List Expr} {p : Pos} (T : FnM X.prog X.w X.K X.mg X.base k x ps (spP K cl n f)) (hK : c.K = K) (hcl : c.cl = cl) (hr : Room k X.A) (hg : Gl X x) (tk : Takes X Z)
    (ha : PA X (e :: es) (tMA c Z fa)) (hdb : (x == ("__debug__" : Str)) = false := by decide) (he : starEach (e :: es) X.env = (false, eval e X.env) :: starEach es X.env := by rfl) (hpl : (backTo pos (starEach es X.env)).any (·.1) = false := by rfl) :
    PE X (.Call (.Name x p) (e :: es) [] pos) (tM c Z (eCall n f fa)) := by
  obtain ⟨fA, fd, h1, h2, h3, h4⟩ := T
  exact (pe_callS h4 hr hg h1 h2 h3 (fun σ => passAt tk σ) ha hdb he hpl).imp fun σ H Q h => call_ok hK hcl σ H Q h
theorem mCallH {K : PySem.W.Frag} {cl : ClsAt} {k : Nat} {x : Str} {ps : List Str} {n : Nat} {f : List W → Gd → R (W × Gd)} {fa : FA} {e : Expr} {es : List Expr} {p : Pos} (T : FnM X.prog X.w X.K X.mg X.base k x ps (spH K cl n f)) (hK : c.K = K) (hcl : c.cl = cl) (hr : Room k X.A) (hg : Gl X x) (tk : Takes X Z)
    (ha : PA X (e :: es) (tMA c Z fa)) (hdb : (x == ("__debug__" : Str)) = false := by decide) (he : starEach (e :: es) X.env = (false, eval e X.env) :: starEach es X.env := by rfl) (hpl : (backTo pos (starEach es X.env)).any (·.1) = false := by rfl) :
    PE X (.Call (.Name x p) (e :: es) [] pos) (tM c Z (eCallH n f fa)) := by
  obtain ⟨fA, fd, h1, h2, h3, h4⟩ := T
  exact (pe_callS h4 hr hg h1 h2 h3 (fun σ => passAt tk σ) ha hdb he hpl).imp fun σ H Q h => callH_ok hK hcl σ H Q h
end
/-! ### the top's facts -/
theorem defAt_mk {K : PySem.W.Frag} {mg : Str → Option Value} {h : Heap} {x : Str} {st : Stmt} {ps : List Str} {f : Addr} {oc : Value} {od an : Option Addr} {sl : Array (Option Value)} {kV dc pm cd ct : Value} (X : K.In h) (G : h.Ns mainGlobals mg)
    (a : PySem.W.nsIn K mainGlobals x = some (some (.ref f))) (l : K.lookup f = some ⟨oc, od, .func (PySem.W.fnOf x x (defArgs st) (defBody st) (defScope st) .none kV dc pm an cd ct), sl⟩) (q : PySem.W.codeIn K cd x = true) (k : PySem.W.keepIn K (.ref f) = true)
    (b : ∀ (kV doc pm : Value) (an : Option Addr) (cdv ct : Value) (us : List Value), us.length = ps.length → bindArgs (PySem.W.fnOf x x (defArgs st) (defBody st) (defScope st) .none kV doc pm an cdv ct) ⟨us, []⟩ = pure (ps.zip us)) : DefAt K mg x st ps :=
  have F := fun_mk (st := st) l q k
  ⟨f, _, F, PySem.W.mg_of X G a, b kV dc pm an cd ct⟩
/-- the law's promise, as the row asks it -/
def spLaw (K : PySem.W.Frag) : Sp := fun vs H Q _ => ∃ (a : Addr) (ns : List Int), vs = [.ref a] ∧ SqL K H a (ns.map V.int) ∧ ns.length ≤ 63 ∧ ∀ H', Q (.bl true) H'
theorem law_of {K : PySem.W.Frag} {cl : ClsAt} {f : List D → R D} (h : ∀ ns : List Int, ns.length ≤ 63 → f [.scr ns] = .ok (.bl true)) (vs : List V) (H : Hp) (Q : VK) (E : XK) (s : spLaw K vs H Q E) : spP K cl 1 f vs H Q E := by
  obtain ⟨a, ns, rfl, hS, hl, q⟩ := s
  refine ⟨rfl, H, [.scr ns], Same.refl _, .cons (.scr hS) .nil, ?_⟩
  rw [h ns hl]
  exact fun F' H' v _ _ _ _ r => by cases r; exact q H'
/-- where a class stands -/
def clOf (mg : Str → Option Value) : ClsAt := fun x => match mg x with
  | some (.ref a) => some a
  | _ => none
/-- the law's call, for the end -/
theorem law_mk {P : Program} {w : World} {K : PySem.W.Frag} {mg : Str → Option Value} {st : Stmt} {N : List Str} {k : Nat} {fa : Addr} {b : FS} (hfa : mg "law" = some (.ref fa)) (T : DefAt K mg "law" st ["script"]) (S : FnScope N ["script"] (defScope st))
    (hb : ∀ base, BodyOk P w K mg base (clOf mg) N "law" st k b) (h : ∀ ns : List Int, ns.length ≤ 63 → fnD 1 N.length b [.scr ns] = .ok (.bl true)) :
    ∃ fd : FuncData, (∀ (s : Shared) (v : Value), BindsTo s fd ⟨[v], []⟩ [("script", v)]) ∧ ∀ base : Heap, K.In base → base.Ns mainGlobals mg → FnOk P w K mg base (L2.CX P w) (k + 1) fa fd ["script"] (spLaw K) := by
  obtain ⟨f, fd, F, hg, hB⟩ := T
  have e := hfa.symm.trans hg
  cases e
  exact ⟨fd, fun s v => .of_eq (hB [v] rfl), fun base _ _ => (fn_pureF F S (hb base)).imp fun vs H Q E s => law_of h vs H Q E s⟩
theorem noCX {P : Program} (w : World) (H : Hp) (s : Shared) (e : Value) (s' : Shared) (h : L2.CX P w [] H s (fun _ _ _ => False) e s') : False := by
  obtain ⟨_, _, _, _, _, _, _, _, _, _, _, _, z⟩ := h
  exact z
end M

set_option maxRecDepth 100000
set_option maxHeartbeats 4000000
namespace M
open PySem PySem.Spec PyProof.Rows L2
/-! ### dicts -/
def keyOf : W → Option Key
  | .d (.int i) => some (.inl i)
  | .d (.str z) => some (.inr z)
  | _ => none
def kD : Key → D
  | .inl i => .int i
  | .inr z => .str z
def valW (qs : List (Key × W)) (k : Key) : Option W := (qs.find? fun kv => decide (kv.1 = k)).map (·.2)
def putW (qs : List (Key × W)) (k : Key) (w : W) : List (Key × W) := if (qs.any fun kv => decide (kv.1 = k)) = true then qs.map (fun kv => if kv.1 = k then (kv.1, w) else kv) else qs ++ [(k, w)]
def mergeW (qs more : List (Key × W)) : List (Key × W) := more.foldl (fun acc kv => putW acc kv.1 kv.2) qs
section
variable {K : PySem.W.Frag} {F : Hp} {α : Nat → Addr} {n : Nat}
theorem kD_rep {k : Key} : RepD K F (kV k) (kD k) := by cases k with
  | inl i => exact .int i
  | inr z => exact .str z
theorem keyOf_rep {v : V} {w : W} {k : Key} (r : RepW K F α n v w) (h : keyOf w = some k) : v = kV k := by
  cases w with
  | ref i => cases h
  | d x =>
    cases x with
    | int i => cases h; cases r; rfl
    | str z => cases h; cases r; rfl
    | _ => cases h
theorem RepKV.val {k : Key} : ∀ {kvs : List (Key × V)} {qs : List (Key × W)}, RepKV K F α n kvs qs → (valV kvs k = none ∧ valW qs k = none) ∨ ∃ v w, valV kvs k = some v ∧ valW qs k = some w ∧ RepW K F α n v w
  | _, _, .nil => .inl ⟨rfl, rfl⟩
  | (a, v) :: kvs, (b, w) :: qs, .cons ⟨e, r⟩ t => by
    have e' : a = b := e
    subst e'
    by_cases hk : a = k
    · exact .inr ⟨v, w, by simp [valV, hk], by simp [valW, hk], r⟩
    · rcases RepKV.val (k := k) t with ⟨h1, h2⟩ | ⟨v', w', h1, h2, r'⟩
      · exact .inl ⟨by simpa [valV, List.find?_cons, hk] using h1, by simpa [valW, List.find?_cons, hk] using h2⟩
      · exact .inr ⟨v', w', by simpa [valV, List.find?_cons, hk] using h1, by simpa [valW, List.find?_cons, hk] using h2, r'⟩
theorem RepKV.any {k : Key} : ∀ {kvs : List (Key × V)} {qs : List (Key × W)}, RepKV K F α n kvs qs → (kvs.any fun kv => decide (kv.1 = k)) = qs.any fun kv => decide (kv.1 = k)
  | _, _, .nil => rfl
  | (a, v) :: kvs, (b, w) :: qs, .cons ⟨e, r⟩ t => by
    have e' : a = b := e
    subst e'
    rw [List.any_cons, List.any_cons, RepKV.any t]
theorem RepKV.append : ∀ {kvs more : List (Key × V)} {qs rs : List (Key × W)}, RepKV K F α n kvs qs → RepKV K F α n more rs → RepKV K F α n (kvs ++ more) (qs ++ rs)
  | _, _, _, _, .nil, h => h
  | _, _, _, _, .cons r t, h => .cons r (RepKV.append t h)
theorem RepKV.repl {k : Key} {v : V} {w : W} (rv : RepW K F α n v w) : ∀ {kvs : List (Key × V)} {qs : List (Key × W)}, RepKV K F α n kvs qs → RepKV K F α n (kvs.map fun kv => if kv.1 = k then (kv.1, v) else kv) (qs.map fun kv => if kv.1 = k then (kv.1, w) else kv)
  | _, _, .nil => .nil
  | (a, v1) :: kvs, (b, w1) :: qs, .cons ⟨e, r⟩ t => by
    have e' : a = b := e
    subst e'
    rw [List.map_cons, List.map_cons]
    refine .cons ?_ (RepKV.repl rv t)
    by_cases hk : a = k
    · exact ⟨by split <;> rfl, by rw [if_pos hk, if_pos hk]; exact rv⟩
    · exact ⟨by split <;> rfl, by rw [if_neg hk, if_neg hk]; exact r⟩
theorem RepKV.put {k : Key} {v : V} {w : W} (rv : RepW K F α n v w) {kvs : List (Key × V)} {qs : List (Key × W)} (h : RepKV K F α n kvs qs) : RepKV K F α n (putK kvs k v) (putW qs k w) := by
  unfold putK putW
  rw [RepKV.any h]
  split
  · exact RepKV.repl rv h
  · exact RepKV.append h (.cons ⟨rfl, rv⟩ .nil)
theorem RepKV.merge : ∀ {more kvs : List (Key × V)} {rs qs : List (Key × W)}, RepKV K F α n more rs → RepKV K F α n kvs qs → RepKV K F α n (mergeK kvs more) (mergeW qs rs)
  | _, _, _, _, .nil, h => h
  | (a, v) :: more, kvs, (b, w) :: rs, qs, .cons ⟨e, r⟩ t, h => by
    have e' : a = b := e
    subst e'
    exact RepKV.merge (kvs := putK kvs a v) (qs := putW qs a w) t (RepKV.put r h)
theorem RepKV.length {kvs : List (Key × V)} {qs : List (Key × W)} (h : RepKV K F α n kvs qs) : kvs.length = qs.length := Paired.length h
theorem RepKV.get : ∀ {kvs : List (Key × V)} {qs : List (Key × W)} {i : Nat} {q : Key × W}, RepKV K F α n kvs qs → qs[i]? = some q → ∃ v, kvs[i]? = some (q.1, v) ∧ RepW K F α n v q.2
  | _, _, _, _, .nil, e => by simp at e
  | (a, v) :: kvs, (b, w) :: qs, 0, q, .cons ⟨e1, r⟩ t, e => by
    have e' : a = b := e1
    subst e'
    simp at e; subst e; exact ⟨v, rfl, r⟩
  | _ :: kvs, _ :: qs, i + 1, q, .cons _ t, e => by
    obtain ⟨u, h1, h2⟩ := RepKV.get (i := i) t (by simpa using e)
    exact ⟨u, by simpa using h1, h2⟩
end
/-- the pairs of a dict that is read -/
def dctAt (G : Gd) : W → Option (List (Key × W))
  | .ref i => match G[i]? with
    | some (.dct qs) => some qs
    | some (.pin qs) => some qs
    | _ => none
  | _ => none
section
variable {X : Cx} {c : RC} {Z : WX} {pos : Pos} {F H : Hp} {α : Nat → Addr} {G : Gd}
theorem Rel.dctIs (R : Rel c F α G H) {i : Nat} {qs : List (Key × W)} (h : G[i]? = some (.dct qs)) : ∃ kvs, H (α i) = some (.dK kvs) ∧ RepKV c.K F α G.length kvs qs := by
  obtain ⟨⟨ho, e, r⟩, _⟩ := R.ob i _ h trivial
  cases ho with
  | dK kvs => exact ⟨kvs, e, r⟩
  | _ => exact r.elim
theorem dctAt_rep (R : Rel c F α G H) {v : V} {w : W} {qs : List (Key × W)} (r : RepW c.K F α G.length v w) (h : dctAt G w = some qs) : ∃ a kvs, v = .ref a ∧ Rd H a (.dK kvs) ∧ RepKV c.K F α G.length kvs qs := by
  cases w with
  | d x => cases h
  | ref i =>
    simp only [dctAt] at h
    split at h
    · rename_i q e
      cases h
      obtain ⟨kvs, e1, r1⟩ := R.dctIs e
      exact ⟨_, kvs, r.2, .inl e1, r1⟩
    · rename_i q e
      cases h
      obtain ⟨o, kvs, e1, r1⟩ := R.pn i _ e
      exact ⟨_, kvs, r.2, .inr ⟨o, R.bh _ _ e1⟩, r1⟩
    · cases h
/-- {} -/
def eDNew : FE := fun _ G => .ok (.ref G.length, G ++ [.dct []])
theorem mDNew : PE X (.Dict [] [] pos) (tM c Z eDNew) := pe_dnewK.imp fun σ H Q ⟨F, α, G, s, A, h⟩ p hp => by
  obtain ⟨R', e'⟩ := A.rel.push hp (ho := .dK []) (o := .dct []) (show RepKV _ _ _ _ [] [] from .nil)
  exact h _ _ _ _ e' R' ⟨by simp, by rw [pushA_eq]⟩
/-- what d tells of k -/
def wDGet (d k : W) (x : Option W) (G : Gd) : R (W × Gd) := match dctAt G d, keyOf k with
  | some qs, some key => match valW qs key, x with
    | some w, _ => .ok (w, G)
    | none, some y => .ok (y, G)
    | none, none => .bad
  | _, _ => .bad
/-- d[k] -/
def eDIx (fd fk : FE) : FE := seqF fd fun d => seqF fk fun k _ G => wDGet d k none G
theorem mDIx {o i : Expr} {fd fk : FE} {k : Nat} (hr : Room k X.A) (ho : PE X o (tM c Z fd)) (hi : PE X i (tM c Z fk)) (hs : NoSl i := by intro _ _; rfl) : PE X (.Subscript o i pos) (tM c Z (eDIx fd fk)) :=
  (pe_dget (by have := hr.units; omega) ho hi hs).imp fun σ H Q h => (tG.seq (rep := RepW) h).imp fun x H1 ⟨F1, α1, G1, s, d, A1, r1, h1⟩ => by
    have h1' : tM c Z (seqF fk fun k _ G => wDGet d k none G) σ H1 Q := ⟨F1, α1, G1, s, A1, h1⟩
    refine ⟨F1, α1, G1, s, A1, ?_⟩
    unfold seqF at h1
    cases e : fk s G1 with
    | bad => rw [e] at h1; exact h1
    | exc x s' G' => rw [e] at h1; exact h1
    | ok p =>
      rw [e] at h1
      intro F2 α2 H2 y x2 R2 r2
      have h2 := Fin.mono (rep := RepW) x2 h1
      dsimp only [R.bind, wDGet] at h2
      split at h2
      · rename_i qs key e1 e2
        obtain ⟨a, kvs, rfl, rd, rk⟩ := dctAt_rep R2 (r1.mono x2) e1
        have ey := keyOf_rep r2 e2
        subst ey
        rcases RepKV.val (k := key) rk with ⟨q1, q2⟩ | ⟨v, w, q1, q2, q3⟩
        · rw [q2] at h2; exact h2.elim
        · rw [q2] at h2
          exact ⟨a, v, rfl, .inl ⟨kvs, key, rd, rfl, q1.symm⟩, h2 F2 α2 H2 v Ext.refl R2 q3⟩
      · exact h2.elim
/-- d.get(k, x) -/
def eDGet (fd fk fx : FE) : FE := seqF fd fun d s G => if (dctAt G d).isSome = true then (seqF fk fun k => seqF fx fun x _ G => wDGet d k (some x) G) s G else .bad
theorem mDGet {o i x : Expr} {fd fk fx : FE} {apos : Pos} {k : Nat} (hr : Room k X.A) (ho : PE X o (tM c Z fd)) (hi : PE X i (tM c Z fk)) (hx : PE X x (tM c Z fx)) (m : M2 X o "get" apos i x pos := by exact ⟨rfl, rfl, rfl, rfl⟩) :
    PE X (.Call (.Attribute o "get" apos) [i, x] [] pos) (tM c Z (eDGet fd fk fx)) :=
  (pe_dget2 (by have := hr.units; omega) ho hi hx m).imp fun σ H Q h => (tG.seq (rep := RepW) h).imp fun x H1 ⟨F1, α1, G1, s, d, A1, r1, h1⟩ => by
    split at h1
    · rename_i hd
      obtain ⟨qs0, e0⟩ := Option.isSome_iff_exists.mp hd
      obtain ⟨a, kvs0, rfl, rd0, _⟩ := dctAt_rep A1.rel r1 e0
      refine ⟨a, rfl, .inl ⟨kvs0, rd0⟩, F1, α1, G1, s, A1, ?_⟩
      unfold seqF at h1
      cases e : fk s G1 with
      | bad => rw [e] at h1; exact h1
      | exc x s' G' => rw [e] at h1; exact h1
      | ok p =>
        rw [e] at h1
        intro F2 α2 H2 y x2 R2 r2
        refine ⟨F2, α2, p.2, s, ⟨R2, A1.sl.mono x2⟩, ?_⟩
        dsimp only [R.bind] at h1
        cases e3 : fx s p.2 with
        | bad => rw [e3] at h1; exact h1
        | exc x s' G' => rw [e3] at h1; exact FinX.mono x2 h1
        | ok p3 =>
          rw [e3] at h1
          intro F3 α3 H3 z x3 R3 r3
          have h3 := Fin.mono (rep := RepW) (x2.trans x3) h1
          dsimp only [R.bind, wDGet] at h3
          split at h3
          · rename_i qs key e1 e2
            obtain ⟨a', kvs, ea, rd, rk⟩ := dctAt_rep R3 (r1.mono (x2.trans x3)) e1
            cases ea
            have ey := keyOf_rep r2 e2
            subst ey
            rcases RepKV.val (k := key) rk with ⟨q1, q2⟩ | ⟨v, w, q1, q2, q3⟩
            · rw [q2] at h3
              exact ⟨none, .inl ⟨kvs, key, rd, rfl, q1.symm⟩, h3 F3 α3 H3 z Ext.refl R3 r3⟩
            · rw [q2] at h3
              exact ⟨some v, .inl ⟨kvs, key, rd, rfl, q1.symm⟩, h3 F3 α3 H3 v Ext.refl R3 q3⟩
          · exact h3.elim
    · exact h1.elim
/-- k in d -/
def wDIn (neg : Bool) (k d : W) (G : Gd) : R (W × Gd) := match dctAt G d, keyOf k with
  | some qs, some key => .ok (.d (.bl (if neg = true then !(valW qs key).isSome else (valW qs key).isSome)), G)
  | _, _ => .bad
theorem din_core {neg : Bool} {fk fd : FE} {σ : St} {H : Hp} {Q : VK} (h : tM c Z (e2 (wDIn neg) fk fd) σ H Q) :
    tM c Z fk σ H fun y H1 => tM c Z fd σ H1 fun x H2 => ∃ a o, x = .ref a ∧ DGet H2 a y o ∧ Q (.bl (if neg = true then !o.isSome else o.isSome)) H2 :=
  (tG.seq (rep := RepW) h).imp fun x H1 ⟨F1, α1, G1, s, kw, A1, r1, h1⟩ => by
    refine ⟨F1, α1, G1, s, A1, ?_⟩
    unfold seqF at h1
    cases e : fd s G1 with
    | bad => rw [e] at h1; exact h1
    | exc x s' G' => rw [e] at h1; exact h1
    | ok p =>
      rw [e] at h1
      intro F2 α2 H2 y x2 R2 r2
      have h2 := Fin.mono (rep := RepW) x2 h1
      dsimp only [R.bind, wDIn] at h2
      split at h2
      · rename_i qs key e1 e2
        obtain ⟨a, kvs, rfl, rd, rk⟩ := dctAt_rep R2 r2 e1
        have ey := keyOf_rep (r1.mono x2) e2
        subst ey
        refine ⟨a, valV kvs key, rfl, .inl ⟨kvs, key, rd, rfl, rfl⟩, ?_⟩
        have ei : (valV kvs key).isSome = (valW qs key).isSome := by
          rcases RepKV.val (k := key) rk with ⟨q1, q2⟩ | ⟨v, w, q1, q2, _⟩ <;> rw [q1, q2] <;> rfl
        rw [ei]
        exact h2 F2 α2 H2 _ Ext.refl R2 (RepD.bl _)
      · exact h2.elim
theorem mDIn {i o : Expr} {fk fd : FE} {k : Nat} (hr : Room k X.A) (hi : PE X i (tM c Z fk)) (ho : PE X o (tM c Z fd)) (hm : behindInMarks .In o = false := by first | exact nomark _ | rfl | with_unfolding_all rfl) : PE X (.Compare i [.In] [o] pos) (tM c Z (e2 (wDIn false) fk fd)) :=
  (pe_cmp (pc_din (by have := hr.units; omega) hi ho) hm).imp fun σ H Q h => din_core h
theorem mDNotIn {i o : Expr} {fk fd : FE} {k : Nat} (hr : Room k X.A) (hi : PE X i (tM c Z fk)) (ho : PE X o (tM c Z fd)) (hm : behindInMarks .NotIn o = false := by first | exact nomark _ | rfl | with_unfolding_all rfl) : PE X (.Compare i [.NotIn] [o] pos) (tM c Z (e2 (wDIn true) fk fd)) :=
  (pe_cmp (pc_dnotin (by have := hr.units; omega) hi ho) hm).imp fun σ H Q h => din_core h
theorem mDInT {i o : Expr} {fk fd : FE} {k : Nat} (hr : Room k X.A) (hi : PE X i (tM c Z fk)) (ho : PE X o (tM c Z fd)) (hm : behindInMarks .In o = false := by first | exact nomark _ | rfl | with_unfolding_all rfl) : PT X (.Compare i [.In] [o] pos) (tMT c Z (toT (e2 (wDIn false) fk fd))) :=
  (pt_cmp (pc_din (by have := hr.units; omega) hi ho) hm).imp fun σ H Q h => din_core (toT_ok σ H Q h)
theorem mDNotInT {i o : Expr} {fk fd : FE} {k : Nat} (hr : Room k X.A) (hi : PE X i (tM c Z fk)) (ho : PE X o (tM c Z fd)) (hm : behindInMarks .NotIn o = false := by first | exact nomark _ | rfl | with_unfolding_all rfl) : PT X (.Compare i [.NotIn] [o] pos) (tMT c Z (toT (e2 (wDIn true) fk fd))) :=
  (pt_cmp (pc_dnotin (by have := hr.units; omega) hi ho) hm).imp fun σ H Q h => din_core (toT_ok σ H Q h)
/-- d[k] = v -/
def wDPut (v d k : W) (G : Gd) : R Gd := match d, keyOf k with
  | .ref i, some key => match G[i]? with
    | some (.dct qs) => if qs.length < sizeLine then .ok (G.set i (.dct (putW qs key v))) else .bad
    | _ => .bad
  | _, _ => .bad
def sDPut (fd fk fv : FE) : FS := seqS fv fun v => seqS fd fun d => seqS fk fun k s G => (wDPut v d k G).bind fun G' => .ok (.nx s, G')
theorem mDPut {o i e : Expr} {fd fk fv : FE} {pos' : Pos} {k : Nat} (hr : Room k X.A) (ho : PE X o (tM c Z fd)) (hi : PE X i (tM c Z fk)) (hv : PE X e (tM c Z fv)) (hs : swapsWith e (some (.Subscript o i pos')) pos.line X.env = pure false := by rfl) :
    PS X (.Assign [.Subscript o i pos'] e pos) (tMS c Z (sDPut fd fk fv)) :=
  (ps_dput (by have := hr.units; omega) ho hi hv hs).imp fun E σ H h => (tG.seqS (rep := RepW) h).imp fun v H1 ⟨F1, α1, G1, s, w, A1, r1, h1⟩ => by
    have h1' : tMS c Z (seqS fd fun d => seqS fk fun k s G => (wDPut w d k G).bind fun G' => .ok (.nx s, G')) E σ H1 := ⟨F1, α1, G1, s, A1, h1⟩
    refine ⟨F1, α1, G1, s, A1, ?_⟩
    unfold seqS at h1
    cases e : fd s G1 with
    | bad => rw [e] at h1; exact h1
    | exc x s' G' => rw [e] at h1; exact h1
    | ok p =>
      rw [e] at h1
      intro F2 α2 H2 x x2 R2 r2
      refine ⟨F2, α2, p.2, s, ⟨R2, A1.sl.mono x2⟩, ?_⟩
      dsimp only [R.bind] at h1
      cases e3 : fk s p.2 with
      | bad => rw [e3] at h1; exact h1
      | exc x s' G' => rw [e3] at h1; exact FinX.mono x2 h1
      | ok p3 =>
        rw [e3] at h1
        intro F3 α3 H3 y x3 R3 r3
        have x23 := x2.trans x3
        dsimp only [R.bind] at h1
        cases e4 : wDPut w p.1 p3.1 p3.2 with
        | bad => rw [e4] at h1; exact h1.elim
        | exc x s' G' =>
          unfold wDPut at e4
          split at e4
          · split at e4
            · split at e4 <;> cases e4
            · cases e4
          · cases e4
        | ok G' =>
          rw [e4] at h1
          unfold wDPut at e4
          split at e4
          · rename_i i key ei ek
            split at e4
            · rename_i qs eg
              split at e4
              · rename_i hl
                cases e4
                rw [ei] at r2
                have r2' := RepW.mono x3 r2
                have ey := keyOf_rep r3 ek
                subst ey
                obtain ⟨kvs, e1, rk⟩ := R3.dctIs eg
                have rv := r1.mono x23
                have R' := R3.set eg trivial (ho := .dK (putK kvs key v)) (o := .dct (putW qs key w)) (RepKV.put rv rk)
                have x' : Ext F3 α3 p3.2.length F3 α3 (p3.2.set i (.dct (putW qs key w))).length := ⟨Same.refl _, fun _ _ => rfl, by simp⟩
                refine ⟨α3 i, _, r2'.2, .inl ⟨kvs, key, e1, rfl, by rw [rk.length]; exact hl, rfl⟩, ?_⟩
                have h2 := FinS.mono x23 h1
                exact h2 F3 α3 _ σ x' ⟨R', A1.sl.mono (x23.trans x')⟩
              · cases e4
            · cases e4
          · cases e4
/-! a dict that stands still while it is walked -/
/-- the region with any thing more that is kept -/
def RC.wth (c : RC) (D : Addr) (o : HO) : RC := { c with B := upd c.B D o }
theorem wth_at {D : Addr} {o : HO} : (c.wth D o).B D = some o := upd_same
theorem wth_ne {D b : Addr} {o : HO} (h : b ≠ D) : (c.wth D o).B b = c.B b := upd_ne h
theorem Rel.lock (R : Rel c F α G H) {i : Nat} {qs : List (Key × W)} (hi : G[i]? = some (.dct qs)) {kvs : List (Key × V)} (e0 : H (α i) = some (.dK kvs)) (rk : RepKV c.K F α G.length kvs qs) (o : Obj) :
    Rel (c.wth (α i) (.frz o (.dK kvs))) F α (G.set i (.pin qs)) (upd H (α i) (.frz o (.dK kvs))) := by
  obtain ⟨⟨_, _, _⟩, b0, f0⟩ := R.ob i _ hi trivial
  have il : i < G.length := (List.getElem?_eq_some_iff.mp hi).1
  have len : (G.set i (.pin qs)).length = G.length := by simp
  have at_ : ∀ {j : Nat} {ob : O}, (G.set i (.pin qs))[j]? = some ob → (j = i ∧ ob = .pin qs) ∨ (j ≠ i ∧ G[j]? = some ob) := fun {j ob} h => by
    by_cases hj : j = i
    · subst hj
      rw [List.getElem?_set_self il] at h
      exact .inl ⟨rfl, (Option.some.inj h).symm⟩
    · rw [List.getElem?_set_ne (Ne.symm hj)] at h; exact .inr ⟨hj, h⟩
  have ne : ∀ {j : Nat} {ob : O}, j ≠ i → G[j]? = some ob → ob.own → α j ≠ α i := fun hj h ho z => hj (R.inj _ i _ _ h hi ho trivial z)
  refine ⟨fun b x e => ?_, fun b x e => ?_, R.f0, fun a ha => ?_, fun j ob h hd => ?_, fun j ds h => ?_, fun j k oj ok hj hk dj dk e => ?_, fun j ps h => ?_⟩
  · by_cases hb : b = α i
    · subst hb; rw [wth_at] at e; rw [upd_same]; exact e
    · rw [wth_ne hb] at e; rw [upd_ne hb]; exact R.bh _ _ e
  · have : b ≠ α i := fun z => by rw [z, f0] at e; cases e
    rw [upd_ne this]; exact R.fh _ _ e
  · by_cases hb : a = α i
    · subst hb
      show F (α i) = c.F0 (α i)
      rw [f0, R.f0.free f0]
    · exact R.fb a (by rw [wth_ne hb] at ha; exact ha)
  · rcases at_ h with ⟨_, rfl⟩ | ⟨hj, h⟩
    · exact hd.elim
    · obtain ⟨⟨ho, e, r⟩, b1, b2⟩ := R.ob j ob h hd
      have n := ne hj h hd.own
      rw [len]
      exact ⟨⟨ho, by rw [upd_ne n]; exact e, RepO.mono Ext.refl r⟩, by rw [wth_ne n]; exact b1, b2⟩
  · rcases at_ h with ⟨_, e⟩ | ⟨_, h⟩
    · cases e
    · exact R.st j ds h
  · have key : ∀ {m : Nat} {om : O}, (G.set i (.pin qs))[m]? = some om → om.own → ∃ o', G[m]? = some o' ∧ o'.own := fun {m om} h hm => by
      rcases at_ h with ⟨rfl, _⟩ | ⟨_, h⟩
      · exact ⟨_, hi, trivial⟩
      · exact ⟨om, h, hm⟩
    obtain ⟨o1, h1, d1⟩ := key hj dj
    obtain ⟨o2, h2, d2⟩ := key hk dk
    exact R.inj j k o1 o2 h1 h2 d1 d2 e
  · rw [len]
    rcases at_ h with ⟨rfl, e⟩ | ⟨hj, h⟩
    · cases e
      exact ⟨o, kvs, wth_at, rk⟩
    · obtain ⟨o', kvs', e', r'⟩ := R.pn j ps h
      exact ⟨o', kvs', by rw [wth_ne (ne hj h trivial)]; exact e', r'⟩
theorem Rel.unlock {F' H' : Hp} {α' : Nat → Addr} {G' : Gd} {a : Addr} {o : Obj} {kvs : List (Key × V)} {i : Nat} {qs ps : List (Key × W)} (R : Rel (c.wth a (.frz o (.dK kvs))) F' α' G' H') (hi : G'[i]? = some (.pin ps)) (ha : α' i = a) (b0 : c.B a = none) (f0 : c.F0 a = none)
    (rk : RepKV c.K F' α' G'.length kvs qs) : Rel c F' α' (G'.set i (.dct qs)) (upd H' a (.dK kvs)) := by
  have il : i < G'.length := (List.getElem?_eq_some_iff.mp hi).1
  have len : (G'.set i (.dct qs)).length = G'.length := by simp
  have fa : F' a = none := by
    rw [R.fb a (by rw [wth_at]; simp)]; exact f0
  have at_ : ∀ {j : Nat} {ob : O}, (G'.set i (.dct qs))[j]? = some ob → (j = i ∧ ob = .dct qs) ∨ (j ≠ i ∧ G'[j]? = some ob) := fun {j ob} h => by
    by_cases hj : j = i
    · subst hj
      rw [List.getElem?_set_self il] at h
      exact .inl ⟨rfl, (Option.some.inj h).symm⟩
    · rw [List.getElem?_set_ne (Ne.symm hj)] at h; exact .inr ⟨hj, h⟩
  have ne : ∀ {j : Nat} {ob : O}, j ≠ i → G'[j]? = some ob → ob.own → α' j ≠ a := fun hj h ho z => hj (R.inj _ i _ _ h hi ho trivial (z.trans ha.symm))
  refine ⟨fun b x e => ?_, fun b x e => ?_, R.f0, fun b hb => ?_, fun j ob h hd => ?_, fun j ds h => ?_, fun j k oj ok hj hk dj dk e => ?_, fun j ps h => ?_⟩
  · have : b ≠ a := fun z => by rw [z, b0] at e; cases e
    rw [upd_ne this]; exact R.bh b x (by rw [wth_ne this]; exact e)
  · have : b ≠ a := fun z => by rw [z, fa] at e; cases e
    rw [upd_ne this]; exact R.fh _ _ e
  · have : b ≠ a := fun z => hb (by rw [z]; exact b0)
    exact R.fb b (by rw [wth_ne this]; exact hb)
  · rw [len]
    rcases at_ h with ⟨rfl, rfl⟩ | ⟨hj, h⟩
    · rw [ha]
      exact ⟨⟨.dK kvs, upd_same, rk⟩, b0, fa⟩
    · obtain ⟨⟨ho, e, r⟩, b1, b2⟩ := R.ob j ob h hd
      have n := ne hj h hd.own
      rw [wth_ne n] at b1
      exact ⟨⟨ho, by rw [upd_ne n]; exact e, RepO.mono Ext.refl r⟩, b1, b2⟩
  · rcases at_ h with ⟨_, e⟩ | ⟨_, h⟩
    · cases e
    · exact R.st j ds h
  · have key : ∀ {m : Nat} {om : O}, (G'.set i (.dct qs))[m]? = some om → om.own → ∃ o', G'[m]? = some o' ∧ o'.own := fun {m om} h hm => by
      rcases at_ h with ⟨rfl, _⟩ | ⟨_, h⟩
      · exact ⟨_, hi, trivial⟩
      · exact ⟨om, h, hm⟩
    obtain ⟨o1, h1, d1⟩ := key hj dj
    obtain ⟨o2, h2, d2⟩ := key hk dk
    exact R.inj j k o1 o2 h1 h2 d1 d2 e
  · rw [len]
    rcases at_ h with ⟨_, e⟩ | ⟨hj, h⟩
    · cases e
    · obtain ⟨o', kvs', e', r'⟩ := R.pn j ps h
      rw [wth_ne (ne hj h trivial)] at e'
      exact ⟨o', kvs', e', r'⟩
def eLock (j : Nat) (f : FE) : FE := fun s G => match s[j]? with
  | some (some (.ref i)) => match G[i]? with
    | some (.dct qs) => match f s (G.set i (.pin qs)) with
      | .ok (w, G') => match G'[i]? with
        | some (.pin _) => .ok (w, G'.set i (.dct qs))
        | _ => .bad
      | _ => .bad
    | _ => .bad
  | _ => .bad
theorem mLock (j : Nat) {e : Expr} {f : FE} (h : ∀ c' : RC, c'.K = c.K → c'.cl = c.cl → PE X e (tM c' Z0 f)) : PE X e (tM c Z (eLock j f)) :=
  (pe_lock (pe_some h)).imp fun σ H Q ⟨F, α, G, s, A, h⟩ => by
    unfold eLock at h
    split at h
    · rename_i i es
      obtain ⟨v, ev, rv⟩ := A.sl.at_ j _ es
      split at h
      · rename_i qs eg
        obtain ⟨kvs, e0, rk⟩ := A.rel.dctIs eg
        obtain ⟨_, b0, f0⟩ := A.rel.ob i _ eg trivial
        have len : (G.set i (.pin qs)).length = G.length := by simp
        refine ⟨α i, .dK kvs, e0, trivial, fun od => ?_⟩
        refine ⟨c.wth (α i) (.frz od (.dK kvs)), rfl, rfl, F, α, G.set i (.pin qs), s, ⟨A.rel.lock eg e0 rk od, by rw [len]; exact A.sl⟩, ?_⟩
        cases ef : f s (G.set i (.pin qs)) with
        | bad => rw [ef] at h; exact h.elim
        | exc x s' G' => rw [ef] at h; exact h.elim
        | ok p =>
          obtain ⟨w, G'⟩ := p
          rw [ef] at h
          dsimp only at h
          split at h
          · rename_i ps eg'
            intro F' α' H' v e' R' r'
            rw [len] at e'
            have il : i < G.length := (List.getElem?_eq_some_iff.mp eg).1
            have len' : (G'.set i (.dct qs)).length = G'.length := by simp
            refine ⟨R'.bh _ _ wth_at, ?_⟩
            exact h F' α' _ v (by rw [len']; exact e') (R'.unlock eg' (e'.a i il) b0 (A.rel.f0.free f0) (RepKV.mono e' rk)) (by rw [len']; exact r')
          · exact h.elim
      · exact h.elim
    · exact h.elim
/-- the keys of a dict that stands still -/
def iKeys (f : FE) : FA := seqF f fun w _ G => match w with
  | .ref i => match G[i]? with
    | some (.pin qs) => .ok (qs.map fun q => W.d (kD q.1), G)
    | _ => .bad
  | _ => .bad
theorem miKeys {tg e : Expr} {f : FE} (he : PE X e (tM c Z f)) : PI X tg e (tMI c Z (iKeys f)) :=
  (pi_keys he).imp fun σ H Q h => (tMI.of (rep := RepW) h).imp fun x H1 ⟨F1, α1, G1, s, w, A1, r1, h1⟩ => by
    cases w with
    | d x => exact h1.elim
    | ref i =>
      dsimp only at h1
      split at h1
      · rename_i qs e1
        obtain ⟨o, kvs, e2, rk⟩ := A1.rel.pn i _ e1
        refine ⟨α1 i, o, r1.2, .inl ⟨kvs, A1.rel.bh _ _ e2, ?_⟩⟩
        refine h1 F1 α1 H1 _ Ext.refl A1.rel (yields_of walk_keys (by rw [List.length_map]; exact rk.length) (fun F' H' f h b => b _ _ e2) fun c' k1 F' α' G' H' x R i w y H'' hw hy => ?_)
        obtain ⟨rfl, k, v, e3, rfl⟩ := hy
        rw [List.getElem?_map, Option.map_eq_some_iff] at hw
        obtain ⟨q, e4, rfl⟩ := hw
        obtain ⟨v', e5, _⟩ := RepKV.get rk e4
        rw [e3] at e5; cases e5
        exact ⟨F', Ext.refl, R, kD_rep⟩
      · exact h1.elim
/-! {k: v, ..}, the keys written texts -/
theorem Rel.intoO (R : Rel c F α G H) {D : Addr} (hD : H D = none) (o : HO) : Rel (c.wth D o) F α G (upd H D o) := by
  have hf := R.free hD
  refine ⟨fun b x e => ?_, R.fh.trans (same_upd hD), R.f0, fun a ha => ?_, fun i ob h hd => ?_, R.st, R.inj, fun i qs h => ?_⟩
  · by_cases hb : b = D
    · subst hb; rw [wth_at] at e; rw [upd_same]; exact e
    · rw [wth_ne hb] at e; rw [upd_ne hb]; exact R.bh _ _ e
  · by_cases hb : a = D
    · subst hb
      show F a = c.F0 a
      rw [hf.2, R.f0.free hf.2]
    · exact R.fb a (by rw [wth_ne hb] at ha; exact ha)
  · obtain ⟨⟨ho, e, r⟩, b1, b2⟩ := R.ob i ob h hd
    have ne := R.ne hD h hd
    exact ⟨⟨ho, by rw [upd_ne ne]; exact e, RepO.mono Ext.refl r⟩, by rw [wth_ne ne]; exact b1, b2⟩
  · obtain ⟨o', kvs, e, r⟩ := R.pn i qs h
    exact ⟨o', kvs, by rw [wth_ne (ne_of_none e hf.1)]; exact e, r⟩
theorem Rel.outO {D : Addr} {o : HO} (R : Rel (c.wth D o) F α G H) (hF : F D = none) (hB : c.B D = none) (no : ∀ x y, o ≠ .frz x y) : Rel c F α G (cutH H D) := by
  have ne : ∀ {i : Nat} {ob : O}, G[i]? = some ob → ob.live → α i ≠ D := fun {i ob} h hd z => by
    have := (R.ob i ob h hd).2.1
    rw [z, wth_at] at this
    cases this
  refine ⟨fun b x e => ?_, fun b x e => ?_, R.f0, fun a ha => ?_, fun i ob h hd => ?_, R.st, R.inj, fun i qs h => ?_⟩
  · have hb : b ≠ D := fun z => by rw [z, hB] at e; cases e
    rw [show cutH H D b = H b from if_neg hb]
    exact R.bh b x (by rw [wth_ne hb]; exact e)
  · have hb : b ≠ D := fun z => by rw [z, hF] at e; cases e
    rw [show cutH H D b = H b from if_neg hb]; exact R.fh _ _ e
  · have hb : a ≠ D := fun z => ha (by rw [z]; exact hB)
    exact R.fb a (by rw [wth_ne hb]; exact ha)
  · obtain ⟨⟨ho, e, r⟩, b1, b2⟩ := R.ob i ob h hd
    have n := ne h hd
    refine ⟨⟨ho, by rw [show cutH H D (α i) = H (α i) from if_neg n]; exact e, RepO.mono Ext.refl r⟩, ?_, b2⟩
    rw [wth_ne n] at b1
    exact b1
  · obtain ⟨o', kvs, e, r⟩ := R.pn i qs h
    have n : α i ≠ D := fun z => by
      rw [z, wth_at] at e
      exact no _ _ (Option.some.inj e)
    rw [wth_ne n] at e
    exact ⟨o', kvs, e, r⟩
theorem upd_cut {H : Hp} {D : Addr} {o : HO} : upd (cutH H D) D o = upd H D o := by
  funext b
  by_cases e : b = D
  · subst e; rw [upd_same, upd_same]
  · rw [upd_ne e, upd_ne e]; exact if_neg e
/-- the values of a display -/
def prsM : List (Str × FE) → Sd → Gd → R (List (Key × W) × Gd)
  | [], _, G => .ok ([], G)
  | (k, f) :: r, s, G => match f s G with
    | .ok (w, G1) => match prsM r s G1 with
      | .ok (qs, G2) => .ok ((.inr k, w) :: qs, G2)
      | _ => .bad
    | _ => .bad
def eDisp (l : List (Str × FE)) : FE := fun s G => match prsM l s G with
  | .ok (qs, G') => if qs.length ≤ 15 then .ok (.ref G'.length, G' ++ [.dct (mergeW [] qs)]) else .bad
  | _ => .bad
/-- each pair of a display -/
inductive PPm (X : Cx) (c : RC) : List (Option Expr) → List Expr → List (Str × FE) → Prop
  | nil : PPm X c [] [] []
  | cons {k : Str} {j} {p : Pos} {e : Expr} {ks : List (Option Expr)} {es : List Expr} {f : FE} {l : List (Str × FE)} : (∀ c' : RC, c'.K = c.K → c'.cl = c.cl → PE X e (tM c' Z0 f)) → PPm X c ks es l → PPm X c (some (.Constant (.str k) j p) :: ks) (e :: es) ((k, f) :: l)
def trsOf (c : RC) : List (Str × FE) → List (TE × TE)
  | [] => []
  | (k, f) :: l => (tC (.str k), inSome c fun c' => tM c' Z0 f) :: trsOf c l
theorem PPm.pps {ks : List (Option Expr)} {es : List Expr} {l : List (Str × FE)} (h : PPm X c ks es l) : PPs X pos ks es (trsOf c l) := by
  induction h with
  | nil => exact pps_nil
  | cons h t ih => exact pps_cons pe_str (pe_some h) ih
theorem PPm.lens {ks : List (Option Expr)} {es : List Expr} {l : List (Str × FE)} (h : PPm X c ks es l) : ks.all (·.isSome) = true ∧ ks.length = es.length ∧ ks.length = l.length := by
  induction h with
  | nil => exact ⟨rfl, rfl, rfl⟩
  | cons h t ih => exact ⟨by simpa using ih.1, by simp [ih.2.1], by simp [ih.2.2]⟩
theorem prs_ok {D : Addr} {o : HO} (hk : c.B D = none) : ∀ (l : List (Str × FE)) {F1 : Hp} {α1 : Nat → Addr} {G1 : Gd} {s : Sd} {σ : St} {H1 : Hp} {qs : List (Key × W)} {G2 : Gd} {Q : List (V × V) → Hp → Prop}, Rel (c.wth D o) F1 α1 G1 H1 → RepS c.K F1 α1 G1.length σ s → prsM l s G1 = .ok (qs, G2) →
    (∀ F2 α2 H2 kvs, Ext F1 α1 G1.length F2 α2 G2.length → Rel (c.wth D o) F2 α2 G2 H2 → RepKV c.K F2 α2 G2.length kvs qs → Q (kvs.map fun kv => (kV kv.1, kv.2)) H2) → tPairs (trsOf c l) σ H1 Q
  | [], F1, α1, G1, s, σ, H1, qs, G2, Q, R, S, e, h => by
    cases e
    exact h F1 α1 H1 [] Ext.refl R .nil
  | (k, f) :: l, F1, α1, G1, s, σ, H1, qs, G2, Q, R, S, e, h => by
    unfold prsM at e
    show inSome c (fun c' => tM c' Z0 f) σ H1 _
    refine ⟨c.wth D o, rfl, rfl, F1, α1, G1, s, ⟨R, S⟩, ?_⟩
    cases ef : f s G1 with
    | bad => rw [ef] at e; cases e
    | exc x s' G' => rw [ef] at e; cases e
    | ok p =>
      obtain ⟨w, Ga⟩ := p
      rw [ef] at e
      dsimp only at e
      intro F2 α2 H2 v x2 R2 r2
      cases el : prsM l s Ga with
      | bad => rw [el] at e; cases e
      | exc x s' G' => rw [el] at e; cases e
      | ok p2 =>
        obtain ⟨rs, Gb⟩ := p2
        rw [el] at e
        cases e
        exact prs_ok hk l R2 (S.mono x2) el fun F3 α3 H3 kvs x3 R3 r3 => h F3 α3 H3 ((.inr k, v) :: kvs) (x2.trans x3) R3 (.cons ⟨rfl, r2.mono x3⟩ r3)
theorem mDisp {ks : List (Option Expr)} {es : List Expr} {l : List (Str × FE)} (h : PPm X c ks es l) (h0 : ks ≠ [] := by simp) (h15 : l.length ≤ 15 := by decide) : PE X (.Dict ks es pos) (tM c Z (eDisp l)) :=
  (pe_disp h.pps h.lens.1 h.lens.2.1 h0 (by rw [h.lens.2.2]; exact h15)).imp fun σ H Q ⟨F, α, G, s, A, q⟩ p hp => by
    unfold eDisp at q
    cases ep : prsM l s G with
    | bad => rw [ep] at q; exact q.elim
    | exc x s' G' => rw [ep] at q; exact q.elim
    | ok r =>
      obtain ⟨qs, G'⟩ := r
      rw [ep] at q
      dsimp only at q
      split at q
      · rename_i hl
        have hB : c.B p = none := A.rel.bh.free hp
        have hF : F p = none := A.rel.fh.free hp
        have hF0 : c.F0 p = none := A.rel.f0.free hF
        refine prs_ok hB l (A.rel.intoO hp (.dK [])) A.sl ep fun F2 α2 H2 kvs x2 R2 r2 => ⟨R2.bh _ _ wth_at, kvs, rfl, by rw [r2.length]; exact hl, ?_⟩
        have hF2 : F2 p = none := (R2.fb p (by rw [wth_at]; simp)).trans hF0
        have Ro := R2.outO hF2 hB (fun _ _ => by simp)
        obtain ⟨R', e'⟩ := Ro.push (p := p) (by exact if_pos rfl) (ho := .dK (mergeK [] kvs)) (o := .dct (mergeW [] qs)) (RepKV.merge r2 .nil)
        rw [upd_cut] at R'
        exact q _ _ _ _ (x2.trans e') R' ⟨by simp, by rw [pushA_eq]⟩
      · exact q.elim
/-- dict(d) -/
def bDict (ws : List W) (G : Gd) : R (W × Gd) := match ws with
  | [w] => match dctAt G w with
    | some qs => .ok (.ref G.length, G ++ [.dct qs])
    | none => .bad
  | _ => .bad
theorem am_dictD : ArgM c Z (fun xs H Q => ∃ (a : Addr) (kvs : List (Key × V)), xs = [.ref a] ∧ Rd H a (.dK kvs) ∧ ∀ p, H p = none → Q (.ref p) (upd H p (.dK kvs))) bDict := by
  intro F α G H xs ws Q R r h
  unfold bDict at h
  split at h
  · split at h
    · rename_i w qs e
      obtain ⟨v, rfl, r1⟩ := paired1 r
      obtain ⟨a, kvs, rfl, rd, rk⟩ := dctAt_rep R r1 e
      refine ⟨a, kvs, rfl, rd, fun p hp => ?_⟩
      obtain ⟨R', e'⟩ := R.push hp (ho := .dK kvs) (o := .dct qs) rk
      exact h _ _ _ _ e' R' ⟨by simp, by rw [pushA_eq]⟩
    · exact h.elim
  · exact h.elim
end
section
variable {X : Cx} {c : RC} {Z : WX} {pos p : Pos} {e : Expr} {f : FA}
theorem mDictD (hm : X.mg "dict" = none) (ha : PA X [e] (tMA c Z f)) (hg : Gl X "dict" := by rfl) (he : starEach [e] X.env = (false, eval e X.env) :: starEach [] X.env := by rfl) (hpl : (backTo pos (starEach [] X.env)).any (·.1) = false := by rfl) :
    PE X (.Call (.Name "dict" p) [e] [] pos) (tM c Z (eA (fun ws _ G => bDict ws G) f)) := mType am_dictD (call_dictD (X := X)) hg hm (by decide +kernel) ha (by decide) (by decide) he hpl
end
end M

set_option maxRecDepth 100000
set_option maxHeartbeats 4000000
namespace M
open PySem PySem.Spec PyProof.Rows L2
section
variable {X : Cx} {c : RC} {Z : WX} {pos : Pos}
/-! ### a statement while a dict stands still -/
def inSomeS (c : RC) (t : RC → TS) : TS := fun D σ H => ∃ c' : RC, c'.K = c.K ∧ c'.cl = c.cl ∧ t c' D σ H
theorem ps_some {e : Stmt} {t : RC → TS} (h : ∀ c' : RC, c'.K = c.K → c'.cl = c.cl → PS X e (t c')) : PS X e (inSomeS c t) := ⟨fun pins s σ H Q I ⟨c', k1, k2, w⟩ => (h c' k1 k2).run pins s σ H Q I w⟩
def sLock (j : Nat) (f : FS) : FS := fun s G => match s[j]? with
  | some (some (.ref i)) => match G[i]? with
    | some (.dct qs) => match f s (G.set i (.pin qs)) with
      | .ok (.nx s', G') => match G'[i]? with
        | some (.pin _) => .ok (.nx s', G'.set i (.dct qs))
        | _ => .bad
      | _ => .bad
    | _ => .bad
  | _ => .bad
theorem mLockS (j : Nat) {e : Stmt} {f : FS} (h : ∀ c' : RC, c'.K = c.K → c'.cl = c.cl → PS X e (tMS c' Z0 f)) : PS X e (tMS c Z (sLock j f)) :=
  (ps_lock (ps_some h)).imp fun D σ H ⟨F, α, G, s, A, h⟩ => by
    unfold sLock at h
    split at h
    · rename_i i es
      obtain ⟨v, ev, rv⟩ := A.sl.at_ j _ es
      split at h
      · rename_i qs eg
        obtain ⟨kvs, e0, rk⟩ := A.rel.dctIs eg
        obtain ⟨_, b0, f0⟩ := A.rel.ob i _ eg trivial
        have len : (G.set i (.pin qs)).length = G.length := by simp
        refine ⟨α i, .dK kvs, e0, trivial, fun od => ?_⟩
        refine ⟨c.wth (α i) (.frz od (.dK kvs)), rfl, rfl, F, α, G.set i (.pin qs), s, ⟨A.rel.lock eg e0 rk od, by rw [len]; exact A.sl⟩, ?_⟩
        split at h
        · rename_i s' G' ef
          rw [ef]
          split at h
          · rename_i ps eg'
            intro F' α' H' σ' e' A'
            rw [len] at e'
            have il : i < G.length := (List.getElem?_eq_some_iff.mp eg).1
            have len' : (G'.set i (.dct qs)).length = G'.length := by simp
            refine ⟨A'.rel.bh _ _ wth_at, ?_⟩
            exact h F' α' _ σ' (by rw [len']; exact e') ⟨A'.rel.unlock eg' (e'.a i il) b0 (A.rel.f0.free f0) (RepKV.mono e' rk), by rw [len']; exact A'.sl⟩
          · exact h.elim
        · exact h.elim
      · exact h.elim
    · exact h.elim
/-! ### a < b < c -/
def eChain (g g' : W → W → Gd → R (W × Gd)) (fa fb fc : FE) : FE := seqF fa fun a => seqF fb fun b s G => (g a b G).bind fun p => match p.1 with
  | .d (.bl k) => if k = true then seqF fc (fun x _ G => g' b x G) s p.2 else .ok (.d (.bl false), p.2)
  | _ => .bad
theorem mChain {a b e : Expr} {op op' : CmpOp} {r r' : R2} {g g' : W → W → Gd → R (W × Gd)} {fa fb fc : FE} (o : OpM c Z r g) (ho : OpR X (compareOp op) r) (o' : OpM c Z r' g') (ho' : OpR X (compareOp op') r') (ha : PE X a (tM c Z fa)) (hb : PE X b (tM c Z fb)) (hc : PE X e (tM c Z fc))
    (pure1 : ∀ a b G, (∃ k, g a b G = .ok (.d (.bl k), G)) ∨ g a b G = .bad) (hm : lastMarks [op, op'] [b, e] = false := by with_unfolding_all rfl) : PE X (.Compare a [op, op'] [b, e] pos) (tM c Z (eChain g g' fa fb fc)) :=
  (pe_chain ho ho' ha hb hc hm).imp fun σ H Q h => (tG.seq (rep := RepW) h).imp fun x H1 ⟨F1, α1, G1, s, aw, A1, r1, h1⟩ => by
    refine ⟨F1, α1, G1, s, A1, ?_⟩
    unfold seqF at h1
    cases e : fb s G1 with
    | bad => rw [e] at h1; exact h1
    | exc x s' G' => rw [e] at h1; exact h1
    | ok p =>
      rw [e] at h1
      intro F2 α2 H2 y x2 R2 r2
      have h2 := Fin.mono (rep := RepW) x2 h1
      dsimp only [R.bind] at h2
      rcases pure1 aw p.1 p.2 with ⟨k, eg⟩ | eg
      · rw [eg] at h2
        refine o F2 α2 p.2 H2 x y aw p.1 _ R2 (r1.mono x2) r2 ?_
        rw [eg]
        intro F3 α3 H3 z x3 R3 r3
        have r3' : RepD c.K F3 z (.bl k) := r3
        cases r3'
        refine ⟨k, rfl, ?_⟩
        dsimp only at h2
        cases k with
        | false => exact iteF (Fin.mono (rep := RepW) x3 h2 F3 α3 H3 _ Ext.refl R3 (RepD.bl _))
        | true =>
          refine iteT ⟨F3, α3, p.2, s, ⟨R3, A1.sl.mono (x2.trans x3)⟩, ?_⟩
          have h3 := Fin.mono (rep := RepW) x3 h2
          rw [if_pos rfl] at h3
          cases e4 : fc s p.2 with
          | bad => rw [e4] at h3; exact h3
          | exc x s' G' => rw [e4] at h3; exact h3
          | ok q =>
            rw [e4] at h3
            intro F4 α4 H4 u x4 R4 r4
            exact o' F4 α4 q.2 H4 y u p.1 q.1 Q R4 (r2.mono (x3.trans x4)) r4 (Fin.mono (rep := RepW) x4 h3)
      · rw [eg] at h2; exact h2.elim
/-! ### comprehensions whose target is a tuple of names -/
def setAll (s : Sd) : List Nat → List D → Sd
  | i :: is, d :: ds => setAll (s.set i (some (.d d))) is ds
  | _, _ => s
def setAllV (σ : St) : List Nat → List V → St
  | i :: is, d :: ds => setAllV (σ.set i (some d)) is ds
  | _, _ => σ
def gNms : List Nat → TGs
  | [] => gNil
  | i :: is => gCons (gName i) (gNms is)
theorem gNms_ok : ∀ {is : List Nat} {xs : List V} {σ : St} {H : Hp} {Q : St → Hp → Prop}, xs.length = is.length → Q (setAllV σ is xs) H → gNms is xs σ H Q
  | [], [], _, _, _, _, q => ⟨rfl, q⟩
  | [], _ :: _, _, _, _, h, _ => by simp at h
  | _ :: _, [], _, _, _, h, _ => by simp at h
  | i :: is, x :: xs, σ, H, Q, h, q => ⟨x, xs, rfl, gNms_ok (is := is) (by simpa using h) q⟩
theorem wipe_get : ∀ (vs : List Nat) (σ : St) (j : Nat), (wipe σ vs)[j]? = if j ∈ vs ∧ j < σ.length then some none else σ[j]?
  | [], σ, j => by simp [wipe]
  | v :: vs, σ, j => by
    unfold wipe
    by_cases hj : j = v
    · subst hj
      by_cases hl : j < σ.length
      · rw [List.getElem?_set_self (by rw [wipe_length]; exact hl), if_pos ⟨List.mem_cons_self, hl⟩]
      · rw [if_neg (by simp [hl]), List.getElem?_eq_none (by simp [wipe_length]; omega), List.getElem?_eq_none (by omega)]
    · rw [List.getElem?_set_ne (Ne.symm hj), wipe_get vs σ j]
      simp [hj]
theorem setAllV_length : ∀ (is : List Nat) (xs : List V) (σ : St), (setAllV σ is xs).length = σ.length
  | [], _, _ => by simp [setAllV]
  | _ :: _, [], _ => by simp [setAllV]
  | i :: is, x :: xs, σ => by
    unfold setAllV
    rw [setAllV_length is xs]; simp
theorem setAllV_get : ∀ (is : List Nat) (xs : List V) (σ : St) (j : Nat), j ∉ is → (setAllV σ is xs)[j]? = σ[j]?
  | [], _, _, _, _ => by simp [setAllV]
  | _ :: _, [], _, _, _ => by simp [setAllV]
  | i :: is, x :: xs, σ, j, h => by
    unfold setAllV
    rw [setAllV_get is xs _ j (fun z => h (List.mem_cons_of_mem _ z)), List.getElem?_set_ne]
    exact fun z => h (by rw [z]; exact List.mem_cons_self)
theorem wipe_setAllV (is : List Nat) (xs : List V) (σ : St) : wipe (setAllV (wipe σ is) is xs) is = wipe σ is := by
  apply List.ext_getElem?
  intro j
  rw [wipe_get, wipe_get, setAllV_length, wipe_length]
  by_cases hj : j ∈ is
  · by_cases hl : j < σ.length
    · rw [if_pos ⟨hj, hl⟩, if_pos ⟨hj, hl⟩]
    · rw [if_neg (by simp [hl]), if_neg (by simp [hl]), List.getElem?_eq_none (by rw [setAllV_length, wipe_length]; omega), List.getElem?_eq_none (by omega)]
  · rw [if_neg (by simp [hj]), if_neg (by simp [hj]), setAllV_get _ _ _ _ hj, wipe_get, if_neg (by simp [hj])]
theorem RepS.setAll {K : PySem.W.Frag} {F : Hp} {α : Nat → Addr} {n : Nat} : ∀ {is : List Nat} {xs : List V} {ds : List D} {σ : St} {s : Sd}, RepS K F α n σ s → RepDs K F xs ds → RepS K F α n (setAllV σ is xs) (M.setAll s is ds)
  | [], _, _, _, _, h, _ => by unfold M.setAll setAllV; exact h
  | _ :: _, [], [], _, _, h, _ => by unfold M.setAll setAllV; exact h
  | _ :: _, [], _ :: _, _, _, _, r => by cases r
  | _ :: _, _ :: _, [], _, _, _, r => by cases r
  | i :: is, x :: xs, d :: ds, σ, s, h, r => by
    unfold M.setAll setAllV
    cases r with
    | cons a b => exact RepS.setAll (is := is) (h.set (show RepW K F α n x (.d d) from a) i) b
def compT (is : List Nat) (t : FT) (e : FE) : List W → List W → Sd → Gd → R (List W × Gd)
  | [], acc, _, G => .ok (acc, G)
  | .d (.tup ds) :: ws, acc, s, G => if ds.length = is.length then match t (setAll (wipeS s is) is ds) G with
    | .ok (true, G2) => match e (setAll (wipeS s is) is ds) G2 with
      | .ok (x, G3) => if acc.length < sizeLine then compT is t e ws (acc ++ [x]) s G3 else .bad
      | _ => .bad
    | .ok (false, G2) => compT is t e ws acc s G2
    | _ => .bad else .bad
  | _ :: _, _, _, _ => .bad
def eCompT (m : Bool) (is : List Nat) (f : FA) (t : FT) (e : FE) : FE := fun s G => (f s G).bind fun p => (compT is t e p.1 [] s p.2).bind fun q => newL m q.1 q.2
theorem compT_ok {m : Bool} {is : List Nat} {f : FA} {t : FT} {e : FE} {wi : TI} (hw : ∀ σ H Q, tMI c Z f σ H Q → wi σ H Q) (σ : St) (H : Hp) (Q : VK) (h : tM c Z (eCompT m is f t e) σ H Q) :
    tLc wi (gTup c.K is.length (gNms is)) (inSomeT c fun c' => tMT c' Z0 t) (inSome c fun c' => tM c' Z0 e) is σ H Q := by
  refine hw σ H _ ?_
  obtain ⟨F, α, G, s, A, h⟩ := h
  refine ⟨F, α, G, s, A, ?_⟩
  unfold eCompT at h
  cases ef : f s G with
  | bad => rw [ef] at h; exact h
  | exc x s' G' => rw [ef] at h; exact h
  | ok p =>
    obtain ⟨ws, G1⟩ := p
    rw [ef] at h
    dsimp only [R.bind] at h
    intro F1 α1 H1 J x1 R1 Y D hD
    have hB : c.B D = none := R1.bh.free hD
    have hF0 : c.F0 D = none := R1.f0.free (R1.fh.free hD)
    have h1 : FinE c Z F1 α1 G1.length ((compT is t e ws [] s G1).bind fun q => newL m q.1 q.2) Q := Fin.mono (rep := RepW) x1 h
    refine ⟨fun k n H => n = ws.length - k ∧ k ≤ ws.length ∧ ∃ F' α' G' vs acc, Ext F1 α1 G1.length F' α' G'.length ∧ Rel (c.with D vs) F' α' G' H ∧ RepWs c.K F' α' G'.length vs acc ∧ FinE c Z F' α' G'.length ((compT is t e (ws.drop k) acc s G').bind fun q => newL m q.1 q.2) Q,
      ⟨ws.length, by simp, Nat.zero_le _, F1, α1, G1, [], [], Ext.refl, R1.into hD [], .nil, by simpa using h1⟩, ?_⟩
    rintro k n H2 ⟨rfl, hk, F2, α2, G2, vs, acc, x2, R2, ra, h2⟩
    have hF2 := R2.noF hF0
    have hHD : H2 D = some (.lst vs) := R2.bh D _ (by rw [show (c.with D vs).B D = upd c.B D (.lst vs) D from rfl, upd_same])
    have R2o : Rel c F2 α2 G2 (cutH H2 D) := R2.out hF2 hB
    have y := Y (c.with D vs) rfl rfl (same_upd hB) F2 α2 G2 H2 x2 R2 k
    cases hwk : ws[k]? with
    | none =>
      have hk' : ws.length ≤ k := List.getElem?_eq_none_iff.mp hwk
      rw [List.drop_eq_nil_of_le hk'] at h2
      refine .inl ⟨y.2 (by omega), ?_⟩
      have fin := newL_fin (Q := Q) (p := D) h2 R2o ra (by exact if_pos rfl)
      rw [cutH_upd hHD] at fin; exact fin
    | some w =>
      obtain ⟨hlt, ew⟩ := List.getElem?_eq_some_iff.mp hwk
      obtain ⟨g1, g2⟩ := y.1 w hwk
      rw [List.drop_eq_getElem_cons hlt, ew] at h2
      refine .inr ⟨g1, fun H' => ∃ F' α' G' vs acc, Ext F1 α1 G1.length F' α' G'.length ∧ Rel (c.with D vs) F' α' G' H' ∧ RepWs c.K F' α' G'.length vs acc ∧ FinE c Z F' α' G'.length ((compT is t e (ws.drop (k + 1)) acc s G').bind fun q => newL m q.1 q.2) Q,
        fun H' q => ⟨ws.length - (k + 1), by omega, rfl, hlt, q⟩, fun x H3 hx => ?_⟩
      obtain ⟨F3, x3, R3, r3⟩ := g2 x H3 hx
      have S3 : RepS c.K F3 α2 G2.length σ s := A.sl.mono (x1.trans (x2.trans x3))
      cases w with
      | ref i => exact h2.elim
      | d dd =>
        cases dd with
        | tup ds =>
          unfold compT at h2
          split at h2
          · rename_i hln
            cases r3 with
            | tup sa sb =>
              refine ⟨_, _, rfl, Same.seqT R3.fh sa, by rw [RepDs.length sb]; exact hln, gNms_ok (by rw [RepDs.length sb]; exact hln) ?_⟩
              refine ⟨wipe_setAllV _ _ _, c.with D vs, rfl, rfl, F3, α2, G2, setAll (wipeS s is) is ds, ⟨R3, (S3.wipe is).setAll sb⟩, ?_⟩
              cases et : t (setAll (wipeS s is) is ds) G2 with
              | bad => rw [et] at h2; exact h2.elim
              | exc x s' G' => rw [et] at h2; exact h2.elim
              | ok q =>
                obtain ⟨b, G4⟩ := q
                rw [et] at h2
                intro F4 α4 H4 b' x4 R4 r4
                have r4' : b' = b := r4
                subst r4'
                have far : Ext F1 α1 G1.length F4 α4 G4.length := x2.trans (x3.trans x4)
                cases b' with
                | false => exact iteF ⟨F4, α4, G4, vs, acc, far, R4, RepWs.mono (x3.trans x4) ra, Fin.mono (rep := RepW) (x3.trans x4) h2⟩
                | true =>
                  refine iteT ?_
                  refine ⟨c.with D vs, rfl, rfl, F4, α4, G4, setAll (wipeS s is) is ds, ⟨R4, ((S3.wipe is).setAll sb).mono x4⟩, ?_⟩
                  dsimp only at h2
                  cases ee : e (setAll (wipeS s is) is ds) G4 with
                  | bad => rw [ee] at h2; exact h2.elim
                  | exc x s' G' => rw [ee] at h2; exact h2.elim
                  | ok q5 =>
                    obtain ⟨y5, G5⟩ := q5
                    rw [ee] at h2
                    dsimp only at h2
                    intro F5 α5 H5 v5 x5 R5 r5
                    split at h2
                    · rename_i hl
                      have x345 := x3.trans (x4.trans x5)
                      have ra5 := RepWs.mono x345 ra
                      refine ⟨vs, R5.bh D _ (by rw [show (c.with D vs).B D = upd c.B D (.lst vs) D from rfl, upd_same]), by rw [ra.length]; exact hl, F5, α5, G5, vs ++ [v5], acc ++ [y5], x2.trans x345, R5.again (R5.noF hF0), ra5.append (.cons r5 .nil), Fin.mono (rep := RepW) x345 h2⟩
                    · exact h2.elim
          · exact h2.elim
        | _ => exact h2.elim
/-- names in a block -/
theorem mCompT (m : Bool) (is : List Nat) (xs : List Str) {ts : List Expr} {tk : Nat} {elt iter : Expr} {tpos : Pos} {scope : Scope} {f : FA} {e : FE} (hK : c.K = X.K) (hxl : (xs.zip is).map (·.2) = is) (hc : X.calm = true) (hN : X.N.Nodup) (hi : PI X (.Tuple ts tk tpos) iter (tMI c Z f)) (ok : BlkOk X.N X.env.scope scope (xs.zip is))
    (hg : Blk X scope fun Y => PG Y (.Tuple ts tk tpos) (gTup c.K is.length (gNms is))) (he : ∀ c' : RC, c'.K = c.K → c'.cl = c.cl → Blk X scope fun Y => PE Y elt (tM c' Z0 e)) (hs : ∀ x, foldedSetIterable iter X.env x = pure x := by intro _; rfl) :
    PE X (.ListComp elt [⟨.Tuple ts tk tpos, iter, [], 0⟩] scope pos) (tM c Z (eCompT m is f tYesM e)) :=
  (pe_lc hc hN hi ok hg (fun s H C cl fp => pts_nil.imp yes_ok) (fun s H C cl fp => pe_some fun c' k1 k2 => he c' k1 k2 s H C cl fp) hs).imp fun σ H Q h => by rw [hxl]; exact compT_ok (fun _ _ _ h => h) σ H Q h
theorem mCompTIf (m : Bool) (is : List Nat) (xs : List Str) {ts : List Expr} {tk : Nat} {elt iter tst : Expr} {tpos : Pos} {scope : Scope} {f : FA} {t : FT} {e : FE} (hK : c.K = X.K) (hxl : (xs.zip is).map (·.2) = is) (hc : X.calm = true) (hN : X.N.Nodup) (hi : PI X (.Tuple ts tk tpos) iter (tMI c Z f)) (ok : BlkOk X.N X.env.scope scope (xs.zip is))
    (hg : Blk X scope fun Y => PG Y (.Tuple ts tk tpos) (gTup c.K is.length (gNms is))) (ht : ∀ c' : RC, c'.K = c.K → c'.cl = c.cl → Blk X scope fun Y => PT Y tst (tMT c' Z0 t)) (he : ∀ c' : RC, c'.K = c.K → c'.cl = c.cl → Blk X scope fun Y => PE Y elt (tM c' Z0 e)) (hs : ∀ x, foldedSetIterable iter X.env x = pure x := by intro _; rfl) :
    PE X (.ListComp elt [⟨.Tuple ts tk tpos, iter, [tst], 0⟩] scope pos) (tM c Z (eCompT m is f t e)) :=
  (pe_lc hc hN hi ok hg (fun s H C cl fp => pts_one (pt_some fun c' k1 k2 => ht c' k1 k2 s H C cl fp)) (fun s H C cl fp => pe_some fun c' k1 k2 => he c' k1 k2 s H C cl fp) hs).imp fun σ H Q h => by rw [hxl]; exact compT_ok (fun _ _ _ h => h) σ H Q h
theorem mSetCompT (m : Bool) (is : List Nat) (j : Nat) (xs : List Str) {y : Str} {py : Pos} {ts : List Expr} {tk : Nat} {elt iter : Expr} {tpos spos : Pos} {scope : Scope} {f : FA} {e : FE} (hK : c.K = X.K) (hxl : (xs.zip is).map (·.2) = is) (hc : X.calm = true) (hN : X.N.Nodup) (hy : X.N[j]? = some y) (hyl : X.env.scope.names.lookup y = some .local)
    (hsw : swapsWith (.ListComp elt [⟨.Tuple ts tk tpos, iter, [], 0⟩] scope pos) (some (.Name y py)) spos.line X.env = pure true) (hi : PI X (.Tuple ts tk tpos) iter (tMI c Z f)) (ok : BlkOk X.N X.env.scope scope (xs.zip is))
    (hg : Blk X scope fun Y => PG Y (.Tuple ts tk tpos) (gTup c.K is.length (gNms is))) (he : ∀ c' : RC, c'.K = c.K → c'.cl = c.cl → Blk X scope fun Y => PE Y elt (tM c' Z0 e)) (hs : ∀ x, foldedSetIterable iter X.env x = pure x := by intro _; rfl) :
    PS X (.Assign [.Name y py] (.ListComp elt [⟨.Tuple ts tk tpos, iter, [], 0⟩] scope pos) spos) (tMS c Z (sSet j (eCompT m is f tYesM e))) :=
  (ps_setLc hc hN hy hyl hsw hi ok hg (fun s H C cl fp => pts_nil.imp yes_ok) (fun s H C cl fp => pe_some fun c' k1 k2 => he c' k1 k2 s H C cl fp) hs).imp fun E σ H h => by
    rw [hxl]
    exact compT_ok (fun _ _ _ h => h) σ H _ ((tG.seqS (rep := RepW) h).imp fun v H1 ⟨F1, α1, G1, s, w, A1, r1, h1⟩ => h1 F1 α1 H1 _ Ext.refl ⟨A1.rel, A1.sl.set r1 j⟩)
theorem mSetCompTIf (m : Bool) (is : List Nat) (j : Nat) (xs : List Str) {y : Str} {py : Pos} {ts : List Expr} {tk : Nat} {elt iter tst : Expr} {tpos spos : Pos} {scope : Scope} {f : FA} {t : FT} {e : FE} (hK : c.K = X.K) (hxl : (xs.zip is).map (·.2) = is) (hc : X.calm = true) (hN : X.N.Nodup) (hy : X.N[j]? = some y) (hyl : X.env.scope.names.lookup y = some .local)
    (hsw : swapsWith (.ListComp elt [⟨.Tuple ts tk tpos, iter, [tst], 0⟩] scope pos) (some (.Name y py)) spos.line X.env = pure true) (hi : PI X (.Tuple ts tk tpos) iter (tMI c Z f)) (ok : BlkOk X.N X.env.scope scope (xs.zip is))
    (hg : Blk X scope fun Y => PG Y (.Tuple ts tk tpos) (gTup c.K is.length (gNms is))) (ht : ∀ c' : RC, c'.K = c.K → c'.cl = c.cl → Blk X scope fun Y => PT Y tst (tMT c' Z0 t)) (he : ∀ c' : RC, c'.K = c.K → c'.cl = c.cl → Blk X scope fun Y => PE Y elt (tM c' Z0 e)) (hs : ∀ x, foldedSetIterable iter X.env x = pure x := by intro _; rfl) :
    PS X (.Assign [.Name y py] (.ListComp elt [⟨.Tuple ts tk tpos, iter, [tst], 0⟩] scope pos) spos) (tMS c Z (sSet j (eCompT m is f t e))) :=
  (ps_setLc hc hN hy hyl hsw hi ok hg (fun s H C cl fp => pts_one (pt_some fun c' k1 k2 => ht c' k1 k2 s H C cl fp)) (fun s H C cl fp => pe_some fun c' k1 k2 => he c' k1 k2 s H C cl fp) hs).imp fun E σ H h => by
    rw [hxl]
    exact compT_ok (fun _ _ _ h => h) σ H _ ((tG.seqS (rep := RepW) h).imp fun v H1 ⟨F1, α1, G1, s, w, A1, r1, h1⟩ => h1 F1 α1 H1 _ Ext.refl ⟨A1.rel, A1.sl.set r1 j⟩)
/-! ### sorted -/
open PySem.W in
def sortB (ds : List D) : Bool := ds.all fun a => ds.all fun b => alike (toPy a) (toPy b)
def isTup1 : D → Bool
  | .tup (_ :: _) => true
  | _ => false
def isAtom : D → Bool
  | .int _ => true | .str _ => true | .bl _ => true | _ => false
/-- data that may be sorted -/
def sortOk (ds : List D) : Bool := sortB ds && (ds.all isTup1 || ds.all isAtom) && ds.all (fun d => decide ((toPy d).depth ≤ 60)) && decide (ds.length ≤ sizeLine)
def sortD (ds : List D) : List D := ds.mergeSort (PySem.W.dataLe false toPy)
def rSortD (K : PySem.W.Frag) : List V → Hp → VK → Prop := fun vs H Q => ∃ (a : Addr) (xs : List V) (ds : List D) (P : V → D → Prop), vs = [V.ref a] ∧ SqL K H a xs ∧ Paired P xs ds ∧ (∀ x d, P x d → Dp K H x (toPy d)) ∧ sortOk ds = true ∧ ∀ ys p, Paired P ys (sortD ds) → H p = none → Q (.ref p) (upd H p (.lst ys))
theorem sortOk_alike {ds : List D} (h : sortOk ds = true) : PySem.W.AllAlike (ds.map toPy) := by
  unfold sortOk at h
  simp only [Bool.and_eq_true] at h
  intro d hd d' hd'
  obtain ⟨x, hx, rfl⟩ := List.mem_map.mp hd
  obtain ⟨y, hy, rfl⟩ := List.mem_map.mp hd'
  have := List.all_eq_true.mp h.1.1.1 x hx
  exact List.all_eq_true.mp this y hy
theorem sortOk_sortable {ds : List D} (h : sortOk ds = true) : PySem.W.Sortable (ds.map toPy) := by
  unfold sortOk at h
  simp only [Bool.and_eq_true, Bool.or_eq_true] at h
  rcases h.1.1.2 with k | k
  · refine .inl fun d hd => ?_
    obtain ⟨x, hx, rfl⟩ := List.mem_map.mp hd
    have := List.all_eq_true.mp k x hx
    cases x with
    | tup xs =>
      cases xs with
      | nil => cases this
      | cons a r => exact ⟨toPy a, toPys r, rfl⟩
    | _ => cases this
  · refine .inr fun d hd => ?_
    obtain ⟨x, hx, rfl⟩ := List.mem_map.mp hd
    have := List.all_eq_true.mp k x hx
    cases x with
    | int i => exact ⟨by simp [toPy], fun xs e => by simp [toPy] at e⟩
    | str i => exact ⟨by simp [toPy], fun xs e => by simp [toPy] at e⟩
    | bl i => exact ⟨by simp [toPy], fun xs e => by simp [toPy] at e⟩
    | _ => cases this
theorem each_pair {β γ : Type} {R : β → γ → Prop} : ∀ {as : List β} {bs : List γ}, PySem.W.EachIs R as bs → Paired R as bs
  | _, _, .nil => .nil
  | _, _, .cons h t => .cons h (each_pair t)
theorem pair_each {P : V → D → Prop} : ∀ {xs : List V} {ds : List D} {us : List Value}, Paired P xs ds → Vals xs us → PySem.W.EachIs (fun u d => ∃ x, RelV x u ∧ P x d) us ds
  | _, _, _, .nil, r => by cases r; exact .nil
  | _, _, _, .cons h t, r => by
    cases r with
    | cons r1 r2 => exact .cons ⟨_, r1, h⟩ (pair_each t r2)
theorem each_back {P : V → D → Prop} : ∀ {us : List Value} {ds : List D}, PySem.W.EachIs (fun u d => ∃ x, RelV x u ∧ P x d) us ds → ∃ xs, Vals xs us ∧ Paired P xs ds
  | _, _, .nil => ⟨[], .nil, .nil⟩
  | _, _, .cons ⟨x, r, p⟩ t => by
    obtain ⟨xs, r2, p2⟩ := each_back t
    exact ⟨x :: xs, .cons r r2, .cons p p2⟩
theorem cr_sortD {k : Nat} (hr : Room k X.A) : CallR X (.builtin "sorted") (rSortD X.K) := by
  intro pins s σ H vs us Q I r h
  obtain ⟨a, xs, ds, P, rfl, hs, hp, hd, ok, q⟩ := h
  obtain ⟨its, rv, hl, hz⟩ := I.list hs
  obtain ⟨u, rfl, ru⟩ := vals1 r
  obtain rfl : u = Value.ref a := ru
  have e := pair_each hp rv
  have ok' := ok
  unfold sortOk at ok'
  simp only [Bool.and_eq_true, decide_eq_true_eq] at ok'
  refine PySem.W.sorted_data (enc := toPy) (R := fun u d => ∃ x, RelV x u ∧ P x d) hl.isList e (e.mono fun u d ⟨x, r, p⟩ => Dp.reads I (toPy d) x u (hd x d p) r) (sortOk_alike ok) (sortOk_sortable ok) ok'.2 (fun d hd' => ?_) fun out ho eo => ?_
  · have h1 := List.all_eq_true.mp ok'.1.2 d hd'
    have h2 : (toPy d).depth ≤ 60 := of_decide_eq_true h1
    have h3 := hr.units
    omega
  · obtain ⟨ys, r2, p2⟩ := each_back eo
    obtain ⟨c', hc⟩ := sortedAll_at s.heap its out.toArray
    have hn := I.hok.fresh (Nat.le_succ s.heap.objs.size)
    refine ⟨.ref (s.heap.objs.size + 1), upd H (s.heap.objs.size + 1) (.lst ys), I.laid (t' := s.toks) (fun _ _ => sortedAll_old) (Nat.le_succ _) ⟨?_, out, c', r2, hc⟩, rfl, q ys _ p2 hn⟩
    have hlen : ys.length = ds.length := by
      rw [Paired.length p2]
      exact List.length_mergeSort _
    rw [hlen]; exact ok'.2
end
end M

set_option maxRecDepth 100000
set_option maxHeartbeats 4000000
namespace M
open PySem PySem.Spec PyProof.Rows L2
/-! ### enumerate of a tuple -/
theorem meets_enumB {v : Value} {o : Obj} {H : Heap → Prop} (B : Begins v o H) :
    Meets (Builtin.«enumerate.__new__» ⟨[.type "enumerate", v], []⟩) (fun _ R s => H s.heap ∧
      R (.ok (.ret (.ref (s.heap.push o).objs.size))) { s with heap := (s.heap.push o).push { cls := .type "enumerate", data := .fields #[.none, .bool false, .ref s.heap.objs.size, rawInt 0, .none, .none] } }) :=
  .of_wp fun prog w A R s h => by
    obtain ⟨hp, g, d, tk, os⟩ := s; obtain ⟨h1, h⟩ := h
    have hsub := sub_enumerate
    have q1 : ∀ {A' : Around} {E : Value → Shared → Prop} {Q : Value → Shared → Prop}, Q (.ref hp.objs.size) ⟨hp.push o, g, d, tk, os⟩ → wpAny (model prog w) A' (pyIter v) Q E ⟨hp, g, d, tk, os⟩ :=
      fun q => B.iter prog w _ _ ⟨hp, g, d, tk, os⟩ _ h1 q
    wp_walk using q1
    refine wpAny_stack_any fun st => wpAny_pure ?_
    split
    · rename_i c _ _ _ _ _
      cases (c == Value.type "enumerate")
      · wp_walk using q1
        exact ⟨_, rfl, h⟩
      · wp_walk using q1
        exact ⟨_, rfl, h⟩
    · wp_walk using q1
      exact ⟨_, rfl, h⟩
section
variable {prog : Program} {w : World} {A : Around} {E : Value → Shared → Prop} {s : Shared}
theorem call_enumB {v : Value} {o : Obj} {H : Heap → Prop} {Q : Value → Shared → Prop} (B : Begins v o H) (h1 : H s.heap)
    (h : ∀ h', IsEnum h' (s.heap.objs.size + 1) s.heap.objs.size 0 .none → h'.get? s.heap.objs.size = some o → h'.objs.size = s.heap.objs.size + 2 →
      (∀ b o, s.heap.get? b = some o → h'.get? b = some o) → Q (.ref (s.heap.objs.size + 1)) { s with heap := h' }) :
    wpAny (model prog w) A (call (.type "enumerate") [v]) Q E s := by
  refine callType_new F.called_enumerate (by decide) (F.typeCall_enumerate_1 _) (F.newCall_enumerate_1 _) (fun obj => F.args_object_init_2 obj _) F.entry_enumerate_new
    (meets_enumB B) ⟨h1, ?_⟩
  have hz : (s.heap.push o).objs.size = s.heap.objs.size + 1 := Heap.size_push ..
  show _ ∧ _
  rw [hz]
  have he : IsEnum ((s.heap.push o).push { cls := .type "enumerate", data := .fields #[.none, .bool false, .ref s.heap.objs.size, rawInt 0, .none, .none] }) (s.heap.objs.size + 1) s.heap.objs.size 0 .none := by
    have := Heap.get?_push_size (s.heap.push o) (o := { cls := .type "enumerate", data := .fields #[.none, .bool false, .ref s.heap.objs.size, rawInt 0, .none, .none] }) rfl
    rw [hz] at this; exact this
  refine ⟨⟨_, he, rfl⟩, h _ he (Heap.get?_push_of_some _ (Heap.get?_push_size _ B.free)) (by rw [Heap.size_push, hz]) fun b o x => Heap.get?_push_of_some _ (Heap.get?_push_of_some _ x)⟩
end
def IteT (K : PySem.W.Frag) (a : Addr) : It :=
  ⟨fun i H => ∃ (xs : List V) (x : V), SqT K H a xs ∧ xs[i]? = some x, fun i H v H' => ∃ T x, v = .ref T ∧ H T = none ∧ H' = upd H T (.tup [.int (i : Nat), x]) ∧ ∀ xs, SqT K H a xs → xs[i]? = some x, fun i H => ∃ xs : List V, SqT K H a xs ∧ xs.length = i⟩
theorem tup_ne_iter {h : Heap} {a it : Addr} {its : Array Value} {i : Nat} (h1 : h.IsTuple a its) (h2 : h.IsTupleIter it a i) : a ≠ it := by
  rintro rfl
  obtain ⟨o, e, c, _⟩ := h1
  obtain ⟨o', e', c', _⟩ := h2
  rw [e] at e'; cases e'
  rw [c] at c'
  exact absurd (Value.type.inj c') (by decide)
theorem tup_ne_enum {h : Heap} {a e it : Addr} {its : Array Value} {i : Int} {old : Value} (h1 : h.IsTuple a its) (h2 : IsEnum h e it i old) : e ≠ a := by
  rintro rfl
  obtain ⟨o, q, c, _⟩ := h1
  have h2' : h.get? e = some _ := h2
  rw [h2'] at q; cases q
  exact absurd (Value.type.inj c) (by decide)
theorem turn_enumT {P : Program} {w : World} {K : PySem.W.Frag} {elts : List Expr} {kk : Nat} {tpos : Pos} (a e it : Addr) :
    Turn P w K (.Tuple elts kk tpos) (IteT K a) [e, it] e (fun i h => (∃ old, IsEnum h e it ((i : Nat) : Int) old) ∧ h.IsTupleIter it a i ∧ e ≠ it) where
  mem := by simp
  obj := fun i h st b hb => by
    obtain ⟨⟨old, he⟩, ⟨o, ho, hc, hd⟩, _⟩ := st
    have e' : b = e ∨ b = it := by simpa using hb
    rcases e' with z | z
    · rw [z]; exact ⟨_, he, fun v q => nomatch q⟩
    · rw [z]; exact ⟨o, ho, fun v q => by rw [hd] at q; cases q⟩
  keep := fun i h h' st k => let ⟨⟨old, he⟩, hi, hne⟩ := st; ⟨⟨old, k e (by simp) _ he⟩, hi.at fun o q => k it (by simp) o q, hne⟩
  item := by
    intro X hP hw hK hc i pins s σ H E I hf st hg
    subst hP hw hK
    obtain ⟨⟨old, he⟩, hit, hne⟩ := st
    obtain ⟨xs, x, hq, hx⟩ := hg
    obtain ⟨its, rv, p, hz⟩ := I.tuple hq
    obtain ⟨u, hu, ru⟩ := rv.get hx
    have hel : e < s.heap.objs.size := Heap.lt_size he
    have hil : it < s.heap.objs.size := by obtain ⟨_, q, _⟩ := hit; exact Heap.lt_size q
    have hai := tup_ne_iter p hit
    have hea := tup_ne_enum p he
    have hlt : i < its.toArray.size := by
      have := (List.getElem?_eq_some_iff.mp hu).1
      simpa using this
    refine wpAny_pyNext_enum_itemC (Draws.tuple (A := X.A.in1) (I.ok.hd hc) it a hai its.toArray) he ⟨hit, p⟩ hlt hne (by simp; exact ⟨hne, hea⟩) fun x' h' tk hP ho hs' hT hsz hk => ?_
    have ex : x' = u := by
      have : its.toArray[i]? = some u := by simpa using hu
      rw [this] at hP; exact (Option.some.inj hP).symm
    subst ex
    refine ⟨_, rfl, wpAny_letOwnedTupleGo_enum (s := { s with heap := h', toks := tk + 1 }) ho fun h'' he' sb => ?_⟩
    have hT2 : h''.get? s.heap.objs.size = some { cls := .type "tuple", data := .seq #[.int i tk, x'] } := (sb.2 _ (Nat.ne_of_gt hel)).trans hT
    have new : ObjOk X.prog X.w (upd H s.heap.objs.size (.tup [.int (i : Nat), x])) h'' s.heap.objs.size (.tup [.int (i : Nat), x]) :=
      ⟨by show 2 ≤ sizeLine; decide, [.int i tk, x'], .cons ⟨_, rfl⟩ (.cons ru .nil), ⟨_, hT2, rfl, _, rfl⟩⟩
    have I1 : Inv X pins σ (upd H s.heap.objs.size (.tup [.int (i : Nat), x])) { s with heap := h'', toks := tk + 1 } :=
      I.turnedNew (ch := [e, it]) (fun b ob hb q => (sb.2 b (fun z => hb (by simp [z]))).trans (hk b ob (fun z => hb (by simp [z])) (fun z => hb (by simp [z])) q)) hf (Nat.le_refl _) new
    refine ⟨.ref s.heap.objs.size, _, I1, rfl, ⟨_, x, rfl, I.hok.fresh (Nat.le_refl _), rfl, fun ys hy => by rw [I.tuple_inj hy hq]; exact hx⟩, ⟨⟨x', ?_⟩, hs'.1.at fun o q => (sb.2 it (Ne.symm hne)).trans q, hne⟩, fun b hb => ?_⟩
    · have e1 : ((i + 1 : Nat) : Int) = (i : Int) + 1 := by omega
      rw [e1]; exact he'
    · have hb' : b < s.heap.objs.size := by
        have e' : b = e ∨ b = it := by simpa using hb
        rcases e' with z | z
        · rw [z]; exact hel
        · rw [z]; exact hil
      rw [upd_ne (Nat.ne_of_lt hb')]
      exact (hf b hb).1
  done := by
    intro X hP hw hK hc i pins s σ H E I hf st hg
    subst hP hw hK
    obtain ⟨⟨old, he⟩, hit, hne⟩ := st
    obtain ⟨xs, hq, hx⟩ := hg
    obtain ⟨its, rv, p, hz⟩ := I.tuple hq
    obtain ⟨f0, f1, f2, f3, f4, f5⟩ := hf it (by simp)
    have hl := rv.length
    have hai := tup_ne_iter p hit
    have hi : i = its.toArray.size := by simp; omega
    subst hi
    exact wpAny_pyNext_enum_endD (Draws.tuple (A := X.A.in1) (I.ok.hd hc) it a hai its.toArray) he ⟨hit, p⟩ fun h' eb => ⟨rfl, I.turned (t' := s.toks) (fun b o hb q => eb b o hb q) f0 f1 f3 f4 f5⟩
  self := fun A i s Q E st h => let ⟨⟨_, he⟩, _⟩ := st; wpAny_pyIter_enum he h
def iEnumPT (K : PySem.W.Frag) (ta : TA) : TI := fun σ H R => ta σ H fun vs H1 => ∃ a xs, vs = [.ref a] ∧ SqT K H1 a xs ∧ R (IteT K a) H1
theorem pi_enumT {X : Cx} {e : Expr} {ta : TA} {p pos tpos : Pos} {elts : List Expr} {kk : Nat} (hg : Gl X "enumerate") (hm : X.mg "enumerate" = none) (ha : PA X [e] ta) (hs : starEach [e] X.env = [(false, eval e X.env)] := by rfl) :
    PI X (.Tuple elts kk tpos) (.Call (.Name "enumerate" p) [e] [] pos) (iEnumPT X.K ta) := by
  refine ⟨fun pins s σ H R I h => ?_⟩
  refine Call_ (ld_blt I hg hm boot_enumerate (PyProof.Rows.callWith_type1 (thn (ha.run pos pins s σ H _ I h) fun us s1 ⟨vs, H1, I1, r1, q1⟩ => ?_) hs rfl))
  obtain ⟨a, xs, ex, hq, q⟩ := q1
  subst ex
  cases r1 with
  | cons r rr =>
    cases rr
    cases r
    obtain ⟨its, rv, p', hz⟩ := I1.tuple hq
    refine call_enumB (begins_tuple a its.toArray) p' fun h' he hit hsz hk => wpAny_pyIter_enum he ?_
    have I2 : Inv X pins σ H1 { s1 with heap := h' } := I1.kept (t' := s1.toks) hk
    refine ⟨s1.heap.objs.size + 1, [s1.heap.objs.size + 1, s1.heap.objs.size], _, _, H1, rfl, I2, turn_enumT a (s1.heap.objs.size + 1) s1.heap.objs.size, ⟨⟨.none, he⟩, ⟨_, hit, rfl, rfl⟩, Nat.succ_ne_self _⟩, fun b hb => ?_, q⟩
    have e' : b = s1.heap.objs.size + 1 ∨ b = s1.heap.objs.size := by simpa using hb
    have hle : s1.heap.objs.size ≤ b := by
      rcases e' with z | z
      · rw [z]; exact Nat.le_add_right _ _
      · rw [z]; exact Nat.le_refl _
    exact I1.fpOk hle (I1.hok.fresh hle)
theorem walk_enumT {K : PySem.W.Frag} {a : Addr} {xs : List V} : Walk (IteT K a) xs.length (fun H => SqT K H a xs) (YPair (fun i => some (.int (i : Nat))) (fun i => xs[i]?)) := by
  refine ⟨fun i _ hi q => ⟨xs, xs[i], q, by simp [hi]⟩, fun _ q => ⟨xs, q, rfl⟩, fun i H v H' _ q y => ?_⟩
  obtain ⟨T, x, h1, h2, h3, h4⟩ := y
  exact ⟨T, .int (i : Nat), x, h1, h2, h3, rfl, h4 xs q⟩
/-- enumerate of a list or a tuple -/
def iEnumA (f : FA) : FA := seqF f fun ws _ G => match ws with
  | [w] => match stillSeq w with
    | some (_, xs) => match enumW xs with
      | some ys => .ok (ys, G)
      | none => .bad
    | _ => .bad
  | _ => .bad
section
variable {X : Cx} {c : RC} {Z : WX} {pos : Pos}
theorem miEnumA {e : Expr} {f : FA} {p tpos : Pos} {elts : List Expr} {kk : Nat} (hK : X.K = c.K) (hg : Gl X "enumerate") (hm : X.mg "enumerate" = none) (ha : PA X [e] (tMA c Z f)) (hs : starEach [e] X.env = [(false, eval e X.env)] := by rfl) :
    PI X (.Tuple elts kk tpos) (.Call (.Name "enumerate" p) [e] [] pos) (tMI c Z (iEnumA f)) :=
  (PI.or (pi_enum hg hm ha hs) (pi_enumT hg hm ha hs)).imp fun σ H Q h => by
    have key := tMI.of (rep := RepWs) h
    obtain ⟨F, α, G, s, A, h0⟩ := id h
    unfold iEnumA seqF at h0
    cases e1 : f s G with
    | bad => rw [e1] at h0; exact h0.elim
    | exc x s' G' =>
      refine .inl ⟨F, α, G, s, A, ?_⟩
      rw [e1] at h0 ⊢; exact h0
    | ok p =>
      rw [e1] at h0
      dsimp only [R.bind] at h0
      split at h0
      · rename_i w ew
        split at h0
        · rename_i t xs e2
          split at h0
          · rename_i ys e3
            obtain ⟨l1, l2⟩ := enum_at e3
            cases t with
            | true =>
              refine .inr ⟨F, α, G, s, A, ?_⟩
              rw [e1]
              intro F1 α1 H1 vs x1 R1 r1
              rw [ew] at r1
              obtain ⟨v, rfl, r2⟩ := paired1 r1
              obtain ⟨a, us, rfl, hq, r3⟩ := stillSeq_rep r2 e2
              rw [if_pos rfl] at hq
              rw [hK]
              refine ⟨a, us, rfl, Same.seqT R1.fh hq, h0 F1 α1 H1 _ x1 R1 (yields_of walk_enumT (by rw [r3.length, l1]) (fun F' H' f h _ => Same.seqT (f.trans h) hq) (ypair_rep fun i w hw => ?_))⟩
              obtain ⟨b, eb, rfl⟩ := l2 i w hw
              refine ⟨_, b, rfl, rfl, fun x ex => ?_, fun y ey => ?_⟩
              · cases ex; exact .int _
              · obtain ⟨v', ev, rv⟩ := r3.get eb
                rw [ey] at ev; cases ev; exact rv
            | false =>
              refine .inl ⟨F, α, G, s, A, ?_⟩
              rw [e1]
              intro F1 α1 H1 vs x1 R1 r1
              rw [ew] at r1
              obtain ⟨v, rfl, r2⟩ := paired1 r1
              obtain ⟨a, us, rfl, hq, r3⟩ := stillSeq_rep r2 e2
              rw [if_neg Bool.false_ne_true] at hq
              rw [hK]
              refine ⟨a, us, rfl, L2.Same.seq R1.fh hq, h0 F1 α1 H1 _ x1 R1 (yields_of walk_enum (by rw [r3.length, l1]) (fun F' H' f h _ => L2.Same.seq (f.trans h) hq) (ypair_rep fun i w hw => ?_))⟩
              obtain ⟨b, eb, rfl⟩ := l2 i w hw
              refine ⟨_, b, rfl, rfl, fun x ex => ?_, fun y ey => ?_⟩
              · cases ex; exact .int _
              · obtain ⟨v', ev, rv⟩ := r3.get eb
                rw [ey] at ev; cases ev; exact rv
          · exact h0.elim
        · exact h0.elim
      · exact h0.elim
end
end M

set_option maxRecDepth 100000
set_option maxHeartbeats 4000000
namespace M
open PySem PySem.Spec PyProof.Rows L2
section
variable {X : Cx} {c : RC} {Z : WX} {pos : Pos} {a b : Expr} {fa fb : FE}
theorem mAdd (m : Bool) (hK : c.K = X.K) (ha : PE X a (tM c Z fa)) (hb : PE X b (tM c Z fb)) : PE X (.BinOp a .Add b pos) (tM c Z (e2 (wAdd m) fa fb)) := mBin (r := rAddAny X.K) (by rw [← hK]; exact om_add m) op_addAny ha hb
theorem mSub (ha : PE X a (tM c Z fa)) (hb : PE X b (tM c Z fb)) : PE X (.BinOp a .Sub b pos) (tM c Z (e2 wSub fa fb)) := mBin om_sub op_sub ha hb
theorem mMul (m : Bool) (ha : PE X a (tM c Z fa)) (hb : PE X b (tM c Z fb)) : PE X (.BinOp a .Mult b pos) (tM c Z (e2 (wMul m) fa fb)) := mBin (om_mul m) op_mulAny ha hb
theorem mDiv (ha : PE X a (tM c Z fa)) (hb : PE X b (tM c Z fb)) : PE X (.BinOp a .FloorDiv b pos) (tM c Z (e2 wDiv fa fb)) := mBin om_div op_fdiv ha hb
theorem mMod (ha : PE X a (tM c Z fa)) (hb : PE X b (tM c Z fb)) : PE X (.BinOp a .Mod b pos) (tM c Z (e2 wMod fa fb)) := mBin om_mod op_mod ha hb
theorem mPow (ha : PE X a (tM c Z fa)) (hb : PE X b (tM c Z fb)) : PE X (.BinOp a .Pow b pos) (tM c Z (e2 wPow fa fb)) := mBin om_pow op_pow ha hb
theorem oEq (hK : c.K = X.K) : OpM c Z (rEqAny X.K) (wEq false) := by rw [← hK]; exact om_eq
theorem oNe (hK : c.K = X.K) : OpM c Z (rNeAny X.K) (wEq true) := by rw [← hK]; exact om_ne
theorem oIn (hK : c.K = X.K) (n : Bool) : OpM c Z (rInAny X.K n) (wIn n) := by rw [← hK]; exact om_in n
abbrev wLt := wCmpI fun i j => decide (i < j)
/-- the ints of a tuple -/
def toInts : List D → Option (List Int)
  | [] => some []
  | .int i :: r => (toInts r).map (i :: ·)
  | _ => none
theorem toInts_rep {K : PySem.W.Frag} {F : Hp} : ∀ {ds : List D} {ns : List Int} {vs : List V}, toInts ds = some ns → RepDs K F vs ds → vs = ns.map V.int
  | [], _, _, h, r => by simp [toInts] at h; subst h; cases r; rfl
  | d :: ds, ns, _, h, r => by
    cases d with
    | int i =>
      simp only [toInts, Option.map_eq_some_iff] at h
      obtain ⟨ms, h1, rfl⟩ := h
      cases r with
      | cons a b => cases a; rw [toInts_rep h1 b]; rfl
    | _ => simp [toInts] at h
def leTup (ns ms : List Int) : Bool := Ob.lexAt (fun j => decide (ns.getD j 0 = ms.getD j 0)) (fun j => decide (ns.getD j 0 ≤ ms.getD j 0)) (decide (ns.length ≤ ms.length)) 0 (min ns.length ms.length)
def wLe (a b : W) (G : Gd) : R (W × Gd) := match a, b with
  | .d (.int i), .d (.int j) => .ok (.d (.bl (decide (i ≤ j))), G)
  | .d (.tup xs), .d (.tup ys) => match toInts xs, toInts ys with
    | some ns, some ms => .ok (.d (.bl (leTup ns ms)), G)
    | _, _ => .bad
  | _, _ => .bad
def rLeAny (K : PySem.W.Frag) : R2 := fun x y H Q => (∃ i j, x = .int i ∧ y = .int j ∧ Q (.bl (decide (i ≤ j))) H) ∨ rLeT K x y H Q
theorem om_le : OpM c Z (rLeAny c.K) wLe := by
  intro F α G H x y a b Q R ra rb h
  unfold wLe at h
  split at h
  · cases ra; cases rb
    exact .inl ⟨_, _, rfl, rfl, h F α H _ Ext.refl R (RepD.bl _)⟩
  · split at h
    · rename_i ns ms e1 e2
      cases ra with
      | tup a1 b1 =>
        cases rb with
        | tup a2 b2 =>
          rw [toInts_rep e1 b1] at a1
          rw [toInts_rep e2 b2] at a2
          exact .inr ⟨_, _, ns, ms, rfl, rfl, Same.seqT R.fh a1, Same.seqT R.fh a2, h F α H _ Ext.refl R (RepD.bl _)⟩
    · exact h.elim
  · exact h.elim
abbrev wGt := wCmpI fun i j => decide (j < i)
abbrev wGe := wCmpI fun i j => decide (j ≤ i)
/-- the comparisons: the operator, its law and its rule -/
structure CmpOk (X : Cx) (c : RC) (Z : WX) (op : CmpOp) (g : W → W → Gd → R (W × Gd)) : Prop where
  ex : ∃ r, OpM c Z r g ∧ OpR X (compareOp op) r
theorem cEq {k : Nat} (hK : c.K = X.K) (hr : Room k X.A) : CmpOk X c Z .Eq (wEq false) := ⟨_, oEq hK, op_eqAny hr.units⟩
theorem cNe {k : Nat} (hK : c.K = X.K) (hr : Room k X.A) : CmpOk X c Z .NotEq (wEq true) := ⟨_, oNe hK, op_neAny hr.units⟩
theorem cLt : CmpOk X c Z .Lt wLt := ⟨_, om_cmpI, op_lt⟩
theorem cLe {k : Nat} (hK : c.K = X.K) (hr : Room k X.A) : CmpOk X c Z .LtE wLe := ⟨rLeAny X.K, by rw [← hK]; exact om_le, OpR.or op_le (op_leT hr.units0)⟩
theorem cGt : CmpOk X c Z .Gt wGt := ⟨_, om_cmpI, op_gt⟩
theorem cGe : CmpOk X c Z .GtE wGe := ⟨_, om_cmpI, op_ge⟩
theorem cIs : CmpOk X c Z .Is (wIsN false) := ⟨_, om_isN, op_isN⟩
theorem cIsN : CmpOk X c Z .IsNot (wIsN true) := ⟨_, om_notN, op_notN⟩
theorem cIn (hK : c.K = X.K) : CmpOk X c Z .In (wIn false) := ⟨_, oIn hK false, op_inAny⟩
theorem cNotIn (hK : c.K = X.K) : CmpOk X c Z .NotIn (wIn true) := ⟨_, oIn hK true, op_notInAny⟩
theorem mCm {op : CmpOp} {g : W → W → Gd → R (W × Gd)} (o : CmpOk X c Z op g) (ha : PE X a (tM c Z fa)) (hb : PE X b (tM c Z fb)) (hm : behindInMarks op b = false := by first | exact nomark _ | rfl | with_unfolding_all rfl) : PE X (.Compare a [op] [b] pos) (tM c Z (e2 g fa fb)) :=
  let ⟨_, h1, h2⟩ := o.ex; mCmp h1 h2 ha hb hm
theorem mCmT {op : CmpOp} {g : W → W → Gd → R (W × Gd)} (o : CmpOk X c Z op g) (ha : PE X a (tM c Z fa)) (hb : PE X b (tM c Z fb)) (hm : behindInMarks op b = false := by first | exact nomark _ | rfl | with_unfolding_all rfl) : PT X (.Compare a [op] [b] pos) (tMT c Z (toT (e2 g fa fb))) :=
  let ⟨_, h1, h2⟩ := o.ex; mCmpT h1 h2 ha hb hm
end
section
variable {X : Cx} {c : RC} {Z : WX} {pos p : Pos} {e : Expr} {es : List Expr} {f : FA}
theorem mLen (hK : c.K = X.K) (hm : X.mg "len" = none) (ha : PA X [e] (tMA c Z f)) (hg : Gl X "len" := by rfl) (he : starEach [e] X.env = (false, eval e X.env) :: starEach [] X.env := by rfl) (hpl : (backTo pos (starEach [] X.env)).any (·.1) = false := by rfl) :
    PE X (.Call (.Name "len" p) [e] [] pos) (tM c Z (eA (fun ws _ G => bLen ws G) f)) := mBuiltin (by rw [← hK]; exact am_len) (call_len (X := X)) hg hm PySem.boot_len ha (by decide) (by decide) he hpl
theorem mTuple (hK : c.K = X.K) (hm : X.mg "tuple" = none) (ha : PA X [e] (tMA c Z f)) (hg : Gl X "tuple" := by rfl) (he : starEach [e] X.env = (false, eval e X.env) :: starEach [] X.env := by rfl) (hpl : (backTo pos (starEach [] X.env)).any (·.1) = false := by rfl) :
    PE X (.Call (.Name "tuple" p) [e] [] pos) (tM c Z (eA (fun ws _ G => bTuple ws G) f)) := mType (by rw [← hK]; exact am_tuple) (call_tuple_ofP (X := X)) hg hm (by decide +kernel) ha (by decide) (by decide) he hpl
theorem mList (m : Bool) (hK : c.K = X.K) (hm : X.mg "list" = none) (ha : PA X [e] (tMA c Z f)) (hg : Gl X "list" := by rfl) (he : starEach [e] X.env = (false, eval e X.env) :: starEach [] X.env := by rfl) (hpl : (backTo pos (starEach [] X.env)).any (·.1) = false := by rfl) :
    PE X (.Call (.Name "list" p) [e] [] pos) (tM c Z (eA (fun ws _ G => bList m ws G) f)) := mType (by rw [← hK]; exact am_list m) (call_list_of (X := X)) hg hm (by decide +kernel) ha (by decide) (by decide) he hpl
theorem mIntC (hm : X.mg "int" = none) (ha : PA X [e] (tMA c Z f)) (hg : Gl X "int" := by rfl) (he : starEach [e] X.env = (false, eval e X.env) :: starEach [] X.env := by rfl) (hpl : (backTo pos (starEach [] X.env)).any (·.1) = false := by rfl) :
    PE X (.Call (.Name "int" p) [e] [] pos) (tM c Z (eA (fun ws _ G => bInt ws G) f)) := mType am_int (call_intAny (X := X)) hg hm (by decide +kernel) ha (by decide) (by decide) he hpl
theorem mStrC (hm : X.mg "str" = none) (ha : PA X [e] (tMA c Z f)) (hg : Gl X "str" := by rfl) (he : starEach [e] X.env = (false, eval e X.env) :: starEach [] X.env := by rfl) (hpl : (backTo pos (starEach [] X.env)).any (·.1) = false := by rfl) :
    PE X (.Call (.Name "str" p) [e] [] pos) (tM c Z (eA (fun ws _ G => bStr ws G) f)) := mType am_str (call_strAny (X := X)) hg hm (by decide +kernel) ha (by decide) (by decide) he hpl
theorem mAllC (hK : c.K = X.K) (hc : X.calm = true) (hm : X.mg "all" = none) (ha : PA X [e] (tMA c Z f)) (hg : Gl X "all" := by rfl) (he : starEach [e] X.env = (false, eval e X.env) :: starEach [] X.env := by rfl) (hpl : (backTo pos (starEach [] X.env)).any (·.1) = false := by rfl) :
    PE X (.Call (.Name "all" p) [e] [] pos) (tM c Z (eA (fun ws _ G => bAll ws G) f)) := mBuiltin (by rw [← hK]; exact am_all) (cr_all (X := X) hc) hg hm (by decide +kernel) ha (by decide) (by decide) he hpl
theorem mAnyC (hK : c.K = X.K) (hc : X.calm = true) (hm : X.mg "any" = none) (ha : PA X [e] (tMA c Z f)) (hg : Gl X "any" := by rfl) (he : starEach [e] X.env = (false, eval e X.env) :: starEach [] X.env := by rfl) (hpl : (backTo pos (starEach [] X.env)).any (·.1) = false := by rfl) :
    PE X (.Call (.Name "any" p) [e] [] pos) (tM c Z (eA (fun ws _ G => bAny ws G) f)) := mBuiltin (by rw [← hK]; exact am_any) (cr_any (X := X) hc) hg hm (by decide +kernel) ha (by decide) (by decide) he hpl
theorem mMax {e2 : Expr} (hc : X.calm = true) (hm : X.mg "max" = none) (ha : PA X [e, e2] (tMA c Z f)) (hg : Gl X "max" := by rfl) (he : starEach [e, e2] X.env = (false, eval e X.env) :: starEach [e2] X.env := by rfl) (hpl : (backTo pos (starEach [e2] X.env)).any (·.1) = false := by rfl) :
    PE X (.Call (.Name "max" p) [e, e2] [] pos) (tM c Z (eA (fun ws _ G => bMax2 ws G) f)) := mBuiltin am_max2 (call_max2 (X := X) hc) hg hm (by decide +kernel) ha (by decide) (by decide) he hpl
theorem mMin {e2 : Expr} (hc : X.calm = true) (hm : X.mg "min" = none) (ha : PA X [e, e2] (tMA c Z f)) (hg : Gl X "min" := by rfl) (he : starEach [e, e2] X.env = (false, eval e X.env) :: starEach [e2] X.env := by rfl) (hpl : (backTo pos (starEach [e2] X.env)).any (·.1) = false := by rfl) :
    PE X (.Call (.Name "min" p) [e, e2] [] pos) (tM c Z (eA (fun ws _ G => bMin2 ws G) f)) := mBuiltin am_min2 (call_min2 (X := X) hc) hg hm (by decide +kernel) ha (by decide) (by decide) he hpl
/-- isinstance(e, T) -/
theorem mIs (T : String) {p2 : Pos} {x : Str} {g : FE} (hK : c.K = X.K) (hm : X.mg "isinstance" = none) (he : PE X e (tM c Z g)) (hm2 : X.mg x = none) (hv : bootBuiltins x = some (.type T)) (hg : Gl X "isinstance" := by rfl) (hg2 : Gl X x := by rfl)
    (hn : x ≠ "__name__" := by decide) (hd : (x == ("__debug__" : Str)) = false := by decide) (hs : starEach [e, .Name x p2] X.env = (false, eval e X.env) :: starEach [.Name x p2] X.env := by rfl)
    (hs2 : starEach [.Name x p2] X.env = (false, eval (.Name x p2) X.env) :: starEach [] X.env := by rfl) (hpl : (backTo pos (starEach [.Name x p2] X.env)).any (·.1) = false := by rfl) :
    PE X (.Call (.Name "isinstance" p) [e, .Name x p2] [] pos) (tM c Z (eIsi T g)) := mIsi hK.symm hg hm he hg2 hm2 hv hn hd hs hs2 hpl
/-- methods of lists -/
theorem mApp {o : Expr} {apos cpos : Pos} {g : FE} (hK : c.K = X.K) (ho : PE X o (tM c Z g)) (ha : PA X [e] (tMA c Z f)) (hbase : attributeBase o "append" X.env (eval o X.env) = eval o X.env := by rfl)
    (hfew : ((backTo cpos (starEach [e] X.env)).all (fun x => !x.1) && (backToKw cpos (keywordEach [] X.env)).all (fun x => x.1.isSome) && decide ([e].length + ([] : List Keyword).length + (if ([] : List Keyword).isEmpty then 0 else 1) < 30)) = true := by rfl)
    (hline : (apos.endLine == cpos.line) = true := by rfl) (hs : starEach [e] X.env = (false, eval e X.env) :: starEach [] X.env := by rfl) (hplain : (backTo cpos (starEach [] X.env)).any (·.1) = false := by rfl) :
    PE X (.Call (.Attribute o "append" apos) [e] [] cpos) (tM c Z (eMt rcL wApp g f)) := mMt hK.symm rcvL md_app PySem.F.plainAttrs_list PySem.F.slot_list_append PySem.F.type_list_append mt_append ho ha hbase hfew hline hs hplain
theorem mExt {o : Expr} {apos cpos : Pos} {g : FE} (hK : c.K = X.K) (ho : PE X o (tM c Z g)) (ha : PA X [e] (tMA c Z f)) (hbase : attributeBase o "extend" X.env (eval o X.env) = eval o X.env := by rfl)
    (hfew : ((backTo cpos (starEach [e] X.env)).all (fun x => !x.1) && (backToKw cpos (keywordEach [] X.env)).all (fun x => x.1.isSome) && decide ([e].length + ([] : List Keyword).length + (if ([] : List Keyword).isEmpty then 0 else 1) < 30)) = true := by rfl)
    (hline : (apos.endLine == cpos.line) = true := by rfl) (hs : starEach [e] X.env = (false, eval e X.env) :: starEach [] X.env := by rfl) (hplain : (backTo cpos (starEach [] X.env)).any (·.1) = false := by rfl) :
    PE X (.Call (.Attribute o "extend" apos) [e] [] cpos) (tM c Z (eMt rcL wExt g f)) := mMt hK.symm rcvL md_ext PySem.F.plainAttrs_list PySem.F.slot_list_extend PySem.F.type_list_extend mt_extend ho ha hbase hfew hline hs hplain
theorem mPop {o : Expr} {apos cpos : Pos} {g : FE} (hK : c.K = X.K) (ho : PE X o (tM c Z g)) (hbase : attributeBase o "pop" X.env (eval o X.env) = eval o X.env := by rfl) (hline : (apos.endLine == cpos.line) = true := by rfl) :
    PE X (.Call (.Attribute o "pop" apos) [] [] cpos) (tM c Z (eMt rcL wPop g aNil)) := mMt0 hK.symm rcvL md_pop PySem.F.plainAttrs_list PySem.F.slot_list_pop PySem.F.type_list_pop mt_pop ho hbase hline
/-- targets that are names -/
theorem gsN_bad : ∀ (is : List Nat) (ds : List D) (s : Sd) (G : Gd), ds.length ≠ is.length → gs (is.map gN) ds s G = .bad
  | [], [], _, _, h => absurd rfl h
  | [], _ :: _, _, _, _ => rfl
  | _ :: _, [], _, _, _ => rfl
  | i :: is, d :: ds, s, G, h => by
    show (R.ok (s.set i (some (.d d)), G)).bind (fun p => gs (is.map gN) ds p.1 p.2) = .bad
    exact gsN_bad is ds _ _ (by simpa using h)
theorem mgNames (is : List Nat) {ts : List Expr} {k : Nat} (hK : c.K = X.K) (hc : X.calm = true) (h : PGs X ts (tMGs c Z (is.map gN))) (hn : (assignEach ts X.env).length = (is.map gN).length := by rfl) (hst : (assignEach ts X.env).findIdx? (·.1) = none := by rfl) :
    PG X (.Tuple ts k pos) (tMG c Z (gTupD (is.map gN))) := mgTup hK.symm hc h (fun ds s G hd => gsN_bad is ds s G (by simpa using hd)) hn hst
end
section
variable {X : Cx} {c : RC} {Z : WX} {pos p : Pos} {e : Expr} {es : List Expr} {f : FA}
theorem pLt (a b : W) (G : Gd) : (∃ k, wLt a b G = .ok (.d (.bl k), G)) ∨ wLt a b G = .bad := by
  unfold wLt wCmpI; split
  · exact .inl ⟨_, rfl⟩
  · exact .inr rfl
theorem pGt (a b : W) (G : Gd) : (∃ k, wGt a b G = .ok (.d (.bl k), G)) ∨ wGt a b G = .bad := by
  unfold wGt wCmpI; split
  · exact .inl ⟨_, rfl⟩
  · exact .inr rfl
theorem pGe (a b : W) (G : Gd) : (∃ k, wGe a b G = .ok (.d (.bl k), G)) ∨ wGe a b G = .bad := by
  unfold wGe wCmpI; split
  · exact .inl ⟨_, rfl⟩
  · exact .inr rfl
theorem pLe (a b : W) (G : Gd) : (∃ k, wLe a b G = .ok (.d (.bl k), G)) ∨ wLe a b G = .bad := by
  unfold wLe; split
  · exact .inl ⟨_, rfl⟩
  · split
    · exact .inl ⟨_, rfl⟩
    · exact .inr rfl
  · exact .inr rfl
theorem mCh {a b d : Expr} {op op' : CmpOp} {g g' : W → W → Gd → R (W × Gd)} {fa fb fc : FE} (pu : ∀ a b G, (∃ k, g a b G = .ok (.d (.bl k), G)) ∨ g a b G = .bad) (o : CmpOk X c Z op g) (o' : CmpOk X c Z op' g') (ha : PE X a (tM c Z fa)) (hb : PE X b (tM c Z fb)) (hc : PE X d (tM c Z fc))
    (hm : lastMarks [op, op'] [b, d] = false := by with_unfolding_all rfl) : PE X (.Compare a [op, op'] [b, d] pos) (tM c Z (eChain g g' fa fb fc)) :=
  let ⟨_, h1, h2⟩ := o.ex; let ⟨_, h3, h4⟩ := o'.ex; mChain h1 h2 h3 h4 ha hb hc pu hm
/-- sorted(xs) -/
def bSorted (m : Bool) (ws : List W) (G : Gd) : R (W × Gd) := match ws with
  | [w] => match asSeq G w with
    | some (false, xs) => match toDs xs with
      | some ds => if sortOk ds = true then newL m ((sortD ds).map W.d) G else .bad
      | none => .bad
    | _ => .bad
  | _ => .bad
theorem paired_ds {K : PySem.W.Frag} {F : Hp} : ∀ {vs : List V} {ds : List D}, RepDs K F vs ds → Paired (fun v d => RepD K F v d) vs ds
  | _, [], h => by cases h; exact .nil
  | _, _ :: _, h => by
    cases h with
    | cons a b => exact .cons a (paired_ds b)
theorem ds_paired {K : PySem.W.Frag} {F : Hp} : ∀ {vs : List V} {ds : List D}, Paired (fun v d => RepD K F v d) vs ds → RepDs K F vs ds
  | _, _, .nil => .nil
  | _, _, .cons a b => .cons a (ds_paired b)
theorem am_sorted (m : Bool) : ArgM c Z (rSortD c.K) (bSorted m) := by
  intro F α G H xs ws Q R r h
  unfold bSorted at h
  split at h
  · split at h
    · rename_i ys e
      split at h
      · rename_i ds e2
        split at h
        · rename_i ok
          obtain ⟨v, rfl, r1⟩ := paired1 r
          obtain ⟨p, vs, rfl, hq, r2⟩ := asSeq_rep R r1 e
          rw [if_neg Bool.false_ne_true] at hq
          rw [toDs_eq e2] at r2
          refine ⟨p, vs, ds, fun v d => RepD c.K F v d, rfl, hq, paired_ds (RepWs.ds r2), fun x d q => RepD.dp (RepD.mono R.fh q), ok, fun ys q hy hq' => ?_⟩
          exact newL_fin h R (RepDs.ws (ds_paired hy)) hq'
        · exact h.elim
      · exact h.elim
    · exact h.elim
  · exact h.elim
theorem mSorted {k : Nat} (m : Bool) (hK : c.K = X.K) (hr : Room k X.A) (hc : X.calm = true) (hm : X.mg "sorted" = none) (ha : PA X [e] (tMA c Z f)) (hg : Gl X "sorted" := by rfl) (he : starEach [e] X.env = (false, eval e X.env) :: starEach [] X.env := by rfl) (hpl : (backTo pos (starEach [] X.env)).any (·.1) = false := by rfl) :
    PE X (.Call (.Name "sorted" p) [e] [] pos) (tM c Z (eA (fun ws _ G => bSorted m ws G) f)) := mBuiltin (by rw [← hK]; exact am_sorted m) (cr_sortD (X := X) hr) hg hm (by decide +kernel) ha (by decide) (by decide) he hpl
/-- sum(xs) -/
def bSum (ws : List W) (G : Gd) : R (W × Gd) := match ws with
  | [w] => match asSeq G w with
    | some (false, xs) => match toDs xs with
      | some ds => match toInts ds with
        | some ns => .ok (.d (.int ns.sum), G)
        | none => .bad
      | none => .bad
    | _ => .bad
  | _ => .bad
theorem am_sum : ArgM c Z (rSum c.K) bSum := by
  intro F α G H xs ws Q R r h
  unfold bSum at h
  split at h
  · split at h
    · rename_i ys e
      split at h
      · rename_i ds e2
        split at h
        · rename_i ns e3
          obtain ⟨v, rfl, r1⟩ := paired1 r
          obtain ⟨p, vs, rfl, hq, r2⟩ := asSeq_rep R r1 e
          rw [if_neg Bool.false_ne_true] at hq
          rw [toDs_eq e2] at r2
          rw [toInts_rep e3 (RepWs.ds r2)] at hq
          exact ⟨p, ns, rfl, hq, h F α H _ Ext.refl R (RepD.int _)⟩
        · exact h.elim
      · exact h.elim
    · exact h.elim
  · exact h.elim
theorem mSum (hK : c.K = X.K) (hc : X.calm = true) (hm : X.mg "sum" = none) (ha : PA X [e] (tMA c Z f)) (hg : Gl X "sum" := by rfl) (he : starEach [e] X.env = (false, eval e X.env) :: starEach [] X.env := by rfl) (hpl : (backTo pos (starEach [] X.env)).any (·.1) = false := by rfl) :
    PE X (.Call (.Name "sum" p) [e] [] pos) (tM c Z (eA (fun ws _ G => bSum ws G) f)) := mBuiltin (by rw [← hK]; exact am_sum) (cr_sum (X := X) hc) hg hm (by decide +kernel) ha (by decide) (by decide) he hpl
end
/-- a body's end, as data -/
def endD (r : R (Fl × Gd)) : R D := match r with
  | .ok (.rt (.d x), _) => .ok x
  | .ok (.nx _, _) => .ok .non
  | .exc x _ _ => .exc x [] []
  | _ => .bad
def endH (r : R (Fl × Gd)) : R (W × Gd) := match r with
  | .ok (.rt w, G') => .ok (w, G')
  | .ok (.nx _, G') => .ok (.d .non, G')
  | .exc x _ G' => .exc x [] G'
  | _ => .bad
section
variable {s : Sd} {G : Gd}
@[simp] theorem endD_rt {x : D} : endD (.ok (.rt (.d x), G)) = .ok x := rfl
@[simp] theorem endD_nx : endD (.ok (.nx s, G)) = .ok .non := rfl
@[simp] theorem endD_exc {x : Ex} : endD (.exc x s G) = .exc x [] [] := rfl
@[simp] theorem endD_bad : endD .bad = .bad := rfl
@[simp] theorem endD_gate {c : Prop} {r : R (Fl × Gd)} : endD (gate c r) = gate c (endD r) := by unfold gate; split <;> rfl
@[simp] theorem endH_gate {c : Prop} {r : R (Fl × Gd)} : endH (gate c r) = gate c (endH r) := by unfold gate; split <;> rfl
@[simp] theorem endD_ite {c : Prop} [Decidable c] {r r' : R (Fl × Gd)} : endD (if c then r else r') = if c then endD r else endD r' := by split <;> rfl
@[simp] theorem endH_rt {x : W} : endH (.ok (.rt x, G)) = .ok (x, G) := rfl
@[simp] theorem endH_nx : endH (.ok (.nx s, G)) = .ok (.d .non, G) := rfl
@[simp] theorem endH_exc {x : Ex} : endH (.exc x s G) = .exc x [] G := rfl
@[simp] theorem endH_bad : endH .bad = .bad := rfl
@[simp] theorem endH_ite {c : Prop} [Decidable c] {r r' : R (Fl × Gd)} : endH (if c then r else r') = if c then endH r else endH r' := by split <;> rfl
theorem fnD_eq {n N : Nat} {b : FS} {ds : List D} (h : ds.length = n) : fnD n N b ds = endD (b (slots N (ds.map W.d)) []) := by
  unfold fnD; rw [if_pos h]; rfl
theorem fnH_eq {n N : Nat} {b : FS} {ws : List W} (G : Gd) (h : ws.length = n) : fnH n N b ws G = endH (b (slots N ws) G) := by
  unfold fnH; rw [if_pos h]; rfl
end
end M

set_option maxRecDepth 100000
set_option maxHeartbeats 4000000
namespace M
open PySem PySem.Spec PyProof.Rows L2
section
variable {X : Cx} {c : RC} {Z : WX} {pos : Pos}
/-- is, of truths -/
def wIsB (a b : W) (G : Gd) : R (W × Gd) := match a, b with
  | .d (.bl x), .d (.bl y) => .ok (.d (.bl (decide (x = y))), G)
  | _, _ => .bad
theorem om_isB : OpM c Z (fun x y H Q => ∃ a b, x = V.bl a ∧ y = V.bl b ∧ Q (.bl (decide (a = b))) H) wIsB := by
  intro F α G H x y a b Q R ra rb h
  unfold wIsB at h
  split at h
  · cases ra; cases rb
    exact ⟨_, _, rfl, rfl, h F α H _ Ext.refl R (RepD.bl _)⟩
  · exact h.elim
theorem cIsB : CmpOk X c Z .Is wIsB := ⟨_, om_isB, op_is_bl⟩
/-- names from a tuple or a list -/
theorem pg_both {es : List Expr} {k : Nat} {t : TGs} {n : Nat} (hc : X.calm = true) (h : PGs X es t)
    (hn : (assignEach es X.env).length = n := by rfl) (hst : (assignEach es X.env).findIdx? (·.1) = none := by rfl) : PG X (.Tuple es k pos) (fun v σ H Q => gTup X.K n t v σ H Q ∨ gUnl X.K n t v σ H Q) :=
  ⟨fun pins s σ H v u Q I r hw => hw.elim (fun z => (pg_tup hc h hn hst).run pins s σ H v u Q I r z) (fun z => (pg_unl hc h hn hst).run pins s σ H v u Q I r z)⟩
def gTupL (l : List FG) : FG := fun w s G => match w with
  | .d (.tup xs) => if xs.length = l.length then gs l xs s G else .bad
  | .d (.lst xs) => if xs.length = l.length then gs l xs s G else .bad
  | _ => .bad
theorem mgTupL {es : List Expr} {k : Nat} {l : List FG} (hK : c.K = X.K) (hc : X.calm = true) (h : PGs X es (tMGs c Z l))
    (hn : (assignEach es X.env).length = l.length := by rfl) (hst : (assignEach es X.env).findIdx? (·.1) = none := by rfl) : PG X (.Tuple es k pos) (tMG c Z (gTupL l)) :=
  (pg_both hc h hn hst).imp fun v σ H Q ⟨F, α, G, s, w, A, r, h⟩ => by
    cases w with
    | ref i => exact h.elim
    | d x =>
      cases x with
      | tup xs =>
        cases r with
        | tup a b pl =>
          have h' : FinG c Z F α G.length (if xs.length = l.length then gs l xs s G else .bad) Q := h
          by_cases e : xs.length = l.length
          · rw [if_pos e] at h'
            exact .inl ⟨_, _, rfl, by rw [← hK]; exact Same.seqT A.rel.fh a, by rw [RepDs.length b]; exact e, F, α, G, s, xs, A, b, h'⟩
          · rw [if_neg e] at h'; exact h'.elim
      | lst xs =>
        cases r with
        | lst a b =>
          have h' : FinG c Z F α G.length (if xs.length = l.length then gs l xs s G else .bad) Q := h
          by_cases e : xs.length = l.length
          · rw [if_pos e] at h'
            exact .inr ⟨_, _, rfl, .inl (.inl (A.rel.fh _ _ a)), by rw [RepDs.length b]; exact e, F, α, G, s, xs, A, b, h'⟩
          · rw [if_neg e] at h'; exact h'.elim
      | _ => exact h.elim
/-- {k: v, ..} -/
def prsK : List (FE × FE) → Sd → Gd → R (List (Key × W) × Gd)
  | [], _, G => .ok ([], G)
  | (k, f) :: r, s, G => match k s G with
    | .ok (kw, G0) => match keyOf kw with
      | some key => match f s G0 with
        | .ok (w, G1) => match prsK r s G1 with
          | .ok (qs, G2) => .ok ((key, w) :: qs, G2)
          | _ => .bad
        | _ => .bad
      | none => .bad
    | _ => .bad
def eDispK (l : List (FE × FE)) : FE := fun s G => match prsK l s G with
  | .ok (qs, G') => if qs.length ≤ 15 then .ok (.ref G'.length, G' ++ [.dct (mergeW [] qs)]) else .bad
  | _ => .bad
inductive PPk (X : Cx) (c : RC) : List (Option Expr) → List Expr → List (FE × FE) → Prop
  | nil : PPk X c [] [] []
  | cons {k e : Expr} {ks : List (Option Expr)} {es : List Expr} {g f : FE} {l : List (FE × FE)} : (∀ c' : RC, c'.K = c.K → c'.cl = c.cl → PE X k (tM c' Z0 g)) → (∀ c' : RC, c'.K = c.K → c'.cl = c.cl → PE X e (tM c' Z0 f)) → PPk X c ks es l → PPk X c (some k :: ks) (e :: es) ((g, f) :: l)
def trsK (c : RC) : List (FE × FE) → List (TE × TE)
  | [] => []
  | (k, f) :: l => (inSome c fun c' => tM c' Z0 k, inSome c fun c' => tM c' Z0 f) :: trsK c l
theorem PPk.pps {ks : List (Option Expr)} {es : List Expr} {l : List (FE × FE)} (h : PPk X c ks es l) : PPs X pos ks es (trsK c l) := by
  induction h with
  | nil => exact pps_nil
  | cons h0 h t ih => exact pps_cons (pe_some h0) (pe_some h) ih
theorem PPk.lens {ks : List (Option Expr)} {es : List Expr} {l : List (FE × FE)} (h : PPk X c ks es l) : ks.all (·.isSome) = true ∧ ks.length = es.length ∧ ks.length = l.length := by
  induction h with
  | nil => exact ⟨rfl, rfl, rfl⟩
  | cons h0 h t ih => exact ⟨by simpa using ih.1, by simp [ih.2.1], by simp [ih.2.2]⟩
theorem prk_ok {D : Addr} {o : HO} (hk : c.B D = none) : ∀ (l : List (FE × FE)) {F1 : Hp} {α1 : Nat → Addr} {G1 : Gd} {s : Sd} {σ : St} {H1 : Hp} {qs : List (Key × W)} {G2 : Gd} {Q : List (V × V) → Hp → Prop}, Rel (c.wth D o) F1 α1 G1 H1 → RepS c.K F1 α1 G1.length σ s → prsK l s G1 = .ok (qs, G2) →
    (∀ F2 α2 H2 kvs, Ext F1 α1 G1.length F2 α2 G2.length → Rel (c.wth D o) F2 α2 G2 H2 → RepKV c.K F2 α2 G2.length kvs qs → Q (kvs.map fun kv => (kV kv.1, kv.2)) H2) → tPairs (trsK c l) σ H1 Q
  | [], F1, α1, G1, s, σ, H1, qs, G2, Q, R, S, e, h => by
    cases e
    exact h F1 α1 H1 [] Ext.refl R .nil
  | (k, f) :: l, F1, α1, G1, s, σ, H1, qs, G2, Q, R, S, e, h => by
    unfold prsK at e
    show inSome c (fun c' => tM c' Z0 k) σ H1 _
    refine ⟨c.wth D o, rfl, rfl, F1, α1, G1, s, ⟨R, S⟩, ?_⟩
    cases ek : k s G1 with
    | bad => rw [ek] at e; cases e
    | exc x s' G' => rw [ek] at e; cases e
    | ok p0 =>
      obtain ⟨kw, G0⟩ := p0
      rw [ek] at e
      dsimp only at e
      cases eo : keyOf kw with
      | none => rw [eo] at e; cases e
      | some key =>
        rw [eo] at e
        dsimp only at e
        intro F0 α0 H0 kv x0 R0 r0
        have ekv := keyOf_rep r0 eo
        subst ekv
        show inSome c (fun c' => tM c' Z0 f) σ H0 _
        refine ⟨c.wth D o, rfl, rfl, F0, α0, G0, s, ⟨R0, S.mono x0⟩, ?_⟩
        cases ef : f s G0 with
        | bad => rw [ef] at e; cases e
        | exc x s' G' => rw [ef] at e; cases e
        | ok p =>
          obtain ⟨w, Ga⟩ := p
          rw [ef] at e
          dsimp only at e
          intro F2 α2 H2 v x2 R2 r2
          cases el : prsK l s Ga with
          | bad => rw [el] at e; cases e
          | exc x s' G' => rw [el] at e; cases e
          | ok p2 =>
            obtain ⟨rs, Gb⟩ := p2
            rw [el] at e
            cases e
            exact prk_ok hk l R2 (S.mono (x0.trans x2)) el fun F3 α3 H3 kvs x3 R3 r3 => h F3 α3 H3 ((key, v) :: kvs) ((x0.trans x2).trans x3) R3 (.cons ⟨rfl, r2.mono x3⟩ r3)
theorem mDispK {ks : List (Option Expr)} {es : List Expr} {l : List (FE × FE)} (h : PPk X c ks es l) (h0 : ks ≠ [] := by simp) (h15 : l.length ≤ 15 := by decide) : PE X (.Dict ks es pos) (tM c Z (eDispK l)) :=
  (pe_disp h.pps h.lens.1 h.lens.2.1 h0 (by rw [h.lens.2.2]; exact h15)).imp fun σ H Q ⟨F, α, G, s, A, q⟩ p hp => by
    unfold eDispK at q
    cases ep : prsK l s G with
    | bad => rw [ep] at q; exact q.elim
    | exc x s' G' => rw [ep] at q; exact q.elim
    | ok r =>
      obtain ⟨qs, G'⟩ := r
      rw [ep] at q
      dsimp only at q
      split at q
      · rename_i hl
        have hB : c.B p = none := A.rel.bh.free hp
        have hF : F p = none := A.rel.fh.free hp
        have hF0 : c.F0 p = none := A.rel.f0.free hF
        refine prk_ok hB l (A.rel.intoO hp (.dK [])) A.sl ep fun F2 α2 H2 kvs x2 R2 r2 => ⟨R2.bh _ _ wth_at, kvs, rfl, by rw [r2.length]; exact hl, ?_⟩
        have hF2 : F2 p = none := (R2.fb p (by rw [wth_at]; simp)).trans hF0
        have Ro := R2.outO hF2 hB (fun _ _ => by simp)
        obtain ⟨R', e'⟩ := Ro.push (p := p) (by exact if_pos rfl) (ho := .dK (mergeK [] kvs)) (o := .dct (mergeW [] qs)) (RepKV.merge r2 .nil)
        rw [upd_cut] at R'
        exact q _ _ _ _ (x2.trans e') R' ⟨by simp, by rw [pushA_eq]⟩
      · exact q.elim
/-- f(e, ..) of things that may change: data in, a scalar out, nothing changed -/
def scalD : D → Bool
  | .non => true | .bl _ => true | .int _ => true | .str _ => true | _ => false
def toDats (G : Gd) : List W → Option (List D)
  | [] => some []
  | w :: ws => match toDat G w, toDats G ws with
    | some d, some ds => some (d :: ds)
    | _, _ => none
def eCallL (n : Nat) (f : List D → R D) (fa : FA) : FE := seqF fa fun ws _ G => if ws.length = n then match toDats G ws with
  | some ds => match f ds with
    | .ok d => if scalD d = true then .ok (.d d, G) else .bad
    | _ => .bad
  | none => .bad else .bad
theorem toDat_rep {F H : Hp} {α : Nat → Addr} {G : Gd} (R : Rel c F α G H) {v : V} {w : W} {x : D} (r : RepW c.K F α G.length v w) (h : toDat G w = some x) : RepD c.K H v x := by
  cases w with
  | d y => cases h; exact RepD.mono R.fh r
  | ref i =>
    simp only [toDat] at h
    rw [r.2]
    split at h
    · rename_i ws e
      rw [Option.map_eq_some_iff] at h
      obtain ⟨ds, e1, rfl⟩ := h
      obtain ⟨vs, e2, r2⟩ := R.lstAt e
      rw [toDs_eq e1] at r2
      exact .lst e2 (RepDs.mono R.fh (RepWs.ds r2))
    · rename_i ds e
      cases h
      obtain ⟨vs, e2, r2⟩ := R.st i _ e
      exact .lst (R.fh _ _ e2) (RepDs.mono R.fh r2)
    · cases h
theorem toDats_rep {F H : Hp} {α : Nat → Addr} {G : Gd} (R : Rel c F α G H) : ∀ {vs : List V} {ws : List W} {ds : List D}, RepWs c.K F α G.length vs ws → toDats G ws = some ds → RepDs c.K H vs ds
  | _, [], ds, .nil, h => by cases h; exact .nil
  | v :: vs, w :: ws, ds, .cons r t, h => by
    unfold toDats at h
    split at h
    · rename_i d ds' e1 e2
      cases h
      exact .cons (toDat_rep R r e1) (toDats_rep R t e2)
    · cases h
theorem scal_rep {K : PySem.W.Frag} {F F' : Hp} {v : V} {d : D} (h : scalD d = true) (r : RepD K F v d) : RepD K F' v d := by
  cases d with
  | non => cases r; exact .non
  | bl b => cases r; exact .bl b
  | int i => cases r; exact .int i
  | str x => cases r; exact .str x
  | _ => cases h
theorem callL_ok {n : Nat} {f : List D → R D} {fa : FA} {K : PySem.W.Frag} {cl : ClsAt} (hK : c.K = K) (σ : St) (H : Hp) (Q : VK) (h : tM c Z (eCallL n f fa) σ H Q) : tMA c Z fa σ H fun vs H1 => spP K cl n f vs H1 Q (WE Z σ) := by
  obtain ⟨Fa, αa, Ga, sa, Aa, ha⟩ := h
  refine ⟨Fa, αa, Ga, sa, Aa, ?_⟩
  unfold eCallL seqF at ha
  cases e : fa sa Ga with
  | bad => rw [e] at ha; exact ha
  | exc x s' G' => rw [e] at ha; exact ha
  | ok p =>
    obtain ⟨ws, G1⟩ := p
    rw [e] at ha
    dsimp only [R.bind] at ha
    intro F1 α1 H1 vs x1 R1 r1
    have h1 := Fin.mono (rep := RepW) x1 ha
    split at h1
    · rename_i hn
      split at h1
      · rename_i ds e2
        refine ⟨by rw [r1.length]; exact hn, H1, ds, Same.refl _, by rw [← hK]; exact toDats_rep R1 r1 e2, ?_⟩
        cases e3 : f ds with
        | bad => rw [e3] at h1; exact h1.elim
        | exc x s' G' => rw [e3] at h1; exact h1.elim
        | ok d =>
          rw [e3] at h1
          dsimp only at h1
          split at h1
          · rename_i hs
            exact fun F' H' v k1 k2 k3 k4 r => h1 F1 α1 H' v Ext.refl (R1.after k1 (R1.fh.trans k1) (Same.refl _) (fun _ _ => rfl)) (show RepD c.K F1 v d by rw [hK]; exact scal_rep hs r)
          · exact h1.elim
      · exact h1.elim
    · exact h1.elim
theorem mCallL {K : PySem.W.Frag} {cl : ClsAt} {k : Nat} {x : Str} {ps : List Str} {n : Nat} {f : List D → R D} {fa : FA} {e : Expr} {es : List Expr} {p : Pos} (T : FnM X.prog X.w X.K X.mg X.base k x ps (spP K cl n f)) (hK : c.K = K) (hcl : c.cl = cl) (hr : Room k X.A) (hg : Gl X x) (tk : Takes X Z)
    (ha : PA X (e :: es) (tMA c Z fa)) (hdb : (x == ("__debug__" : Str)) = false := by decide) (he : starEach (e :: es) X.env = (false, eval e X.env) :: starEach es X.env := by rfl) (hpl : (backTo pos (starEach es X.env)).any (·.1) = false := by rfl) :
    PE X (.Call (.Name x p) (e :: es) [] pos) (tM c Z (eCallL n f fa)) := by
  obtain ⟨fA, fd, h1, h2, h3, h4⟩ := T
  exact (pe_callS h4 hr hg h1 h2 h3 (fun σ => passAt tk σ) ha hdb he hpl).imp fun σ H Q h => callL_ok hK σ H Q h
end
end M
namespace M
open PySem PySem.Spec PyProof.Rows L2
section
variable {X : Cx} {c : RC} {Z : WX} {pos : Pos}
def upN (i j k : Int) : Nat := if i < j then ((j - i - 1) / k + 1).toNat else 0
theorem up_ok {i j k : Int} (h0 : 0 < k) (h1 : k < 1073741824) (b1 : -(2 ^ 60) ≤ i) (b2 : i < 2 ^ 60) (b3 : -(2 ^ 60) ≤ j) (b4 : j < 2 ^ 60) : RgC i j k (upN i j k) := by
  have e : Builtin.Range.rangeSize i j k = (upN i j k : Int) := by
    unfold Builtin.Range.rangeSize upN
    rw [if_pos h0]
    split
    · have : 0 ≤ (j - i - 1) / k := Int.ediv_nonneg (by omega) (by omega)
      omega
    · rfl
  have sz : 0 ≤ Builtin.Range.rangeSize i j k ∧ Builtin.Range.rangeSize i j k < 2 ^ 62 := by
    unfold Builtin.Range.rangeSize
    rw [if_pos h0]
    split
    · have h1 : 0 ≤ (j - i - 1) / k := Int.ediv_nonneg (by omega) (by omega)
      have h2 : (j - i - 1) / k ≤ j - i - 1 := Int.ediv_le_self _ (by omega)
      omega
    · omega
  refine ⟨by omega, by omega, ?_, e⟩
  unfold Builtin.Range.small
  generalize Builtin.Range.rangeSize i j k = z at *
  simp only [Builtin.Range.rangeFitsLong, Bool.and_eq_true, Bool.or_eq_true, decide_eq_true_eq, beq_iff_eq, if_pos h0]
  omega
/-- the ints i, i + k, .. -/
def stW (i k : Int) (n : Nat) : List W := (List.range n).map fun m : Nat => W.d (.int (i + (m : Int) * k))
def tLR3 (ta : TA) : TE := fun σ H Q => ta σ H fun vs H1 => ∃ (i j k : Int) (n : Nat), vs = [.int i, .int j, .int k] ∧ RgC i j k n ∧ n ≤ 2 ^ 24 ∧ ∀ q, H1 q = none → Q (.ref q) (upd H1 q (.lst ((List.range n).map fun m : Nat => V.int (i + (m : Int) * k))))
theorem pe_listRg3 {a b d : Expr} {ta : TA} {p p2 pos pos2 : Pos} (hc : X.calm = true) (hg : Gl X "list") (hm : X.mg "list" = none) (hg2 : Gl X "range") (hm2 : X.mg "range" = none) (ha : PA X [a, b, d] ta)
    (hs : starEach [a, b, d] X.env = (false, eval a X.env) :: starEach [b, d] X.env := by rfl) (hpl : (backTo pos2 (starEach [b, d] X.env)).any (·.1) = false := by rfl)
    (na : starEach [.Call (.Name "range" p2) [a, b, d] [] pos2] X.env = (false, eval (.Call (.Name "range" p2) [a, b, d] [] pos2) X.env) :: starEach [] X.env := by rfl) :
    PE X (.Call (.Name "list" p) [.Call (.Name "range" p2) [a, b, d] [] pos2] [] pos) (tLR3 ta) := by
  refine ⟨fun pins s σ H Q I h => ?_⟩
  have rg : wpAny (model X.prog X.w) X.A (eval (.Call (.Name "range" p2) [a, b, d] [] pos2) X.env) (fun x s' => ∃ r i j k n t u v H', x = .ref r ∧ IsRange s'.heap r i j k t u v ∧ Inv X pins σ H' s' ∧ RgC i j k n ∧ n ≤ 2 ^ 24 ∧ ∀ q, H' q = none → Q (.ref q) (upd H' q (.lst ((List.range n).map fun m : Nat => V.int (i + (m : Int) * k))))) X.xe s := by
    refine Call_ (ld_blt I hg2 hm2 boot_range (PyProof.Rows.callWith_type1 (thn (ha.run pos2 pins s σ H _ I h) fun us s1 ⟨vs, H1, I1, r1, q1⟩ => ?_) hs hpl))
    obtain ⟨i, j, k, n, e, rc, hn, q⟩ := q1
    subst e
    cases r1 with
    | cons r rr =>
      cases rr with
      | cons r' rr =>
        cases rr with
        | cons r'' rr =>
          cases rr
          obtain ⟨t, rfl⟩ := r
          obtain ⟨t', rfl⟩ := r'
          obtain ⟨t'', rfl⟩ := r''
          exact call_range_3 rc.1 ⟨_, i, j, k, n, _, _, _, H1, rfl, IsRange.new _ _ _ _ _ _ _, I1.kept fun b u e => Heap.get?_push_of_some _ e, rc, hn, q⟩ (.inl (PyProof.noPylong_small rc.2.1))
  refine Call_ (ld_blt I hg hm boot_list (PyProof.Rows.callWith_type1 (args_cons (thn rg fun x s1 ⟨r, i, j, k, n, t, u, v, H1, ex, hr, I1, rc, hn, q⟩ => args_nil ?_) na) na))
  subst ex
  refine call_list_range (n := n) (I1.ok.hd hc) hr rc.2.2.1 rc.2.2.2 hn fun h' tk acc c' hk e' hi => ?_
  have hv : Vals ((List.range n).map fun m : Nat => V.int (i + (m : Int) * k)) acc.toList := by
    have e : acc.toList.length = n := by rw [Array.length_toList]; exact hi.1
    rw [← e]
    refine vals_of_get acc.toList _ fun j u hj => ?_
    obtain ⟨t, rfl⟩ := hi.2 j u (by rw [← hj, Array.getElem?_toList])
    exact ⟨t, rfl⟩
  refine ⟨.ref s1.heap.objs.size, upd H1 s1.heap.objs.size (.lst _), I1.laid hk (Nat.le_refl _) (show ObjOk X.prog X.w _ _ _ (.lst _) from ⟨?_, acc.toList, c', hv, ?_⟩), rfl, q _ (I1.hok.fresh (Nat.le_refl _))⟩
  · rw [List.length_map, List.length_range, sizeLine_eq]; exact hn
  · rw [Array.toArray_toList]; exact e'
def eLR3 (m : Bool) (f : FA) : FE := seqF f fun ws _ G => match ws with
  | [.d (.int i), .d (.int j), .d (.int k)] => gate (0 < k ∧ k < 1073741824 ∧ -(2 ^ 60) ≤ i ∧ i < 2 ^ 60 ∧ -(2 ^ 60) ≤ j ∧ j < 2 ^ 60 ∧ upN i j k ≤ 2 ^ 24) (newL m (stW i k (upN i j k)) G)
  | _ => .bad
theorem lr3_ok {m : Bool} {fa : FA} (σ : St) (H : Hp) (Q : VK) (h : tM c Z (eLR3 m fa) σ H Q) : tLR3 (tMA c Z fa) σ H Q := by
  obtain ⟨Fa, αa, Ga, sa, Aa, ha⟩ := h
  refine ⟨Fa, αa, Ga, sa, Aa, ?_⟩
  unfold eLR3 seqF at ha
  cases e : fa sa Ga with
  | bad => rw [e] at ha; exact ha
  | exc x s' G' => rw [e] at ha; exact ha
  | ok p =>
    obtain ⟨ws, G1⟩ := p
    rw [e] at ha
    dsimp only [R.bind] at ha
    intro F1 α1 H1 vs x1 R1 r1
    split at ha
    · rename_i i j k
      unfold gate at ha
      split at ha
      · rename_i hg
        obtain ⟨h0, h1, b1, b2, b3, b4, hn⟩ := hg
        have h1' := Fin.mono (rep := RepW) x1 ha
        have ev : vs = [.int i, .int j, .int k] := by
          cases r1 with
          | cons a r1 =>
            cases r1 with
            | cons b r1 =>
              cases r1 with
              | cons d r1 =>
                cases r1
                cases a; cases b; cases d; rfl
        refine ⟨i, j, k, upN i j k, ev, up_ok h0 h1 b1 b2 b3 b4, hn, fun q hq => newL_fin h1' R1 ?_ hq⟩
        unfold stW
        refine List.rec ?_ (fun a l ih => ?_) (List.range (upN i j k))
        · exact .nil
        · exact .cons (RepD.int _) ih
      · exact ha.elim
    · exact ha.elim
theorem mListRg3 {m : Bool} {a b d : Expr} {fa : FA} {p p2 pos pos2 : Pos} (hc : X.calm = true) (hg : Gl X "list") (hm : X.mg "list" = none) (hg2 : Gl X "range") (hm2 : X.mg "range" = none) (ha : PA X [a, b, d] (tMA c Z fa))
    (hs : starEach [a, b, d] X.env = (false, eval a X.env) :: starEach [b, d] X.env := by rfl) (hpl : (backTo pos2 (starEach [b, d] X.env)).any (·.1) = false := by rfl)
    (na : starEach [.Call (.Name "range" p2) [a, b, d] [] pos2] X.env = (false, eval (.Call (.Name "range" p2) [a, b, d] [] pos2) X.env) :: starEach [] X.env := by rfl) :
    PE X (.Call (.Name "list" p) [.Call (.Name "range" p2) [a, b, d] [] pos2] [] pos) (tM c Z (eLR3 m fa)) :=
  (pe_listRg3 hc hg hm hg2 hm2 ha hs hpl na).imp fun σ H Q h => lr3_ok σ H Q h
end
end M

set_option maxRecDepth 100000
set_option maxHeartbeats 4000000
namespace M
open PySem PySem.Spec PyProof.Rows L2
section
variable {X : Cx} {c : RC} {Z : WX} {pos : Pos} {tg : Expr}
/-! ### walks over things that live -/
def YieldsP (P : Gd → Prop) (c : RC) (F : Hp) (α : Nat → Addr) (G : Gd) (J : It) (ws : List W) : Prop := ∀ (c' : RC), c'.K = c.K → c'.cl = c.cl → Same c.B c'.B → ∀ F' α' G' H', Ext F α G.length F' α' G'.length → Rel c' F' α' G' H' → P G' → ∀ i,
  (∀ w, ws[i]? = some w → J.go i H' ∧ ∀ x H'', J.yld i H' x H'' → ∃ F'', Ext F' α' G'.length F'' α' G'.length ∧ Rel c' F'' α' G' H'' ∧ RepW c.K F'' α' G'.length x w) ∧ (i = ws.length → J.stop i H')
theorem Yields.toP {F : Hp} {α : Nat → Addr} {G : Gd} {J : It} {ws : List W} (h : Yields c F α G J ws) : YieldsP (fun _ => True) c F α G J ws :=
  fun c' k1 k2 k3 F' α' G' H' e R _ i => h c' k1 k2 k3 F' α' G' H' e R i
abbrev FJ := Sd → Gd → R ((List W × (Gd → Prop)) × Gd)
def FinJ (c : RC) (Z : WX) (F : Hp) (α : Nat → Addr) (n : Nat) (r : R ((List W × (Gd → Prop)) × Gd)) (Q : It → Hp → Prop) : Prop :=
  match r with
  | .ok (p, G) => ∀ F' α' H' J, Ext F α n F' α' G.length → Rel c F' α' G H' → YieldsP p.2 c F' α' G J p.1 → Q J H'
  | .exc x s G => FinX c Z F α n x s G
  | .bad => False
def tMJ (c : RC) (Z : WX) (f : FJ) : TI := fun σ H Q => ∃ F α G s, At c F α G s σ H ∧ FinJ c Z F α G.length (f s G) Q
theorem tMJ.of {β γ : Type} {rep : PySem.W.Frag → Hp → (Nat → Addr) → Nat → γ → β → Prop} {f : Sd → Gd → R (β × Gd)} {k : β → FJ} {σ : St} {H : Hp} {Q : It → Hp → Prop} (h : tMJ c Z (seqF f k) σ H Q) :
    tG rep c Z f σ H fun v H1 => ∃ F1 α1 G1 s w, At c F1 α1 G1 s σ H1 ∧ rep c.K F1 α1 G1.length v w ∧ FinJ c Z F1 α1 G1.length (k w s G1) Q := by
  obtain ⟨F, α, G, s, A, h⟩ := h
  refine ⟨F, α, G, s, A, ?_⟩
  unfold seqF at h
  cases e : f s G with
  | bad => rw [e] at h; exact h
  | exc x s' G' => rw [e] at h; exact h
  | ok p =>
    rw [e] at h
    intro F' α' H' v x Rl r
    refine ⟨F', α', p.2, s, p.1, ⟨Rl, A.sl.mono x⟩, r, ?_⟩
    dsimp only [R.bind] at h
    cases e2 : k p.1 s p.2 with
    | bad => rw [e2] at h; exact h
    | exc x' s' G' => rw [e2] at h; exact FinX.mono x h
    | ok q => rw [e2] at h; exact fun F2 α2 H2 J x2 R2 Y => h F2 α2 H2 J (x.trans x2) R2 Y
def isL (j : Nat) (ws : List W) (G : Gd) : Prop := G[j]? = some (.lst ws)
theorem lt_of_at {G : Gd} {j : Nat} {o : O} (h : G[j]? = some o) : j < G.length := by
  rcases Nat.lt_or_ge j G.length with z | z
  · exact z
  · rw [List.getElem?_eq_none z] at h; cases h
theorem yields_live {F : Hp} {α : Nat → Addr} {G : Gd} {j : Nat} {ws : List W} (hj : j < G.length) : YieldsP (isL j ws) c F α G (Itl c.K (α j)) ws := by
  intro c' k1 k2 k3 F' α' G' H' x R hP i
  obtain ⟨vs, e, r⟩ := R.lstAt hP
  rw [x.a j hj] at e
  have hs : SqL c.K H' (α j) vs := SqL.of e
  refine ⟨fun w hw => ?_, fun hi => ?_⟩
  · have hi : i < vs.length := by
      rw [r.length]; exact (List.getElem?_eq_some_iff.mp hw).1
    refine ⟨walk_list.goes i H' hi hs, fun y H'' hy => ?_⟩
    obtain ⟨rfl, e2⟩ := walk_list.yields i H' y H'' hi hs hy
    rw [k1] at r
    obtain ⟨v, e1, r1⟩ := r.get hw
    rw [e2] at e1; cases e1
    exact ⟨F', Ext.refl, R, r1⟩
  · rw [hi, ← r.length]; exact walk_list.stops H' hs
/-- for x in a list that lives, or any data -/
def vAny (f : FE) : FJ := seqF f fun w _ G => match w with
  | .ref j => match G[j]? with
    | some (.lst ws) => .ok ((ws, isL j ws), G)
    | some (.still ds) => .ok ((ds.map W.d, fun _ => True), G)
    | _ => .bad
  | .d (.str z) => .ok ((strSeq z, fun _ => True), G)
  | w => match stillSeq w with
    | some (_, ws) => .ok ((ws, fun _ => True), G)
    | none => .bad
theorem mvAny {e : Expr} {f : FE} (hK : X.K = c.K) (he : PE X e (tM c Z f)) : PI X tg e (tMJ c Z (vAny f)) :=
  (PI.or (pi_list he) (miAny (Z := Z) hK he)).imp fun σ H Q h => by
    obtain ⟨F, α, G, s, A, h0⟩ := id h
    unfold vAny seqF at h0
    cases e1 : f s G with
    | bad => rw [e1] at h0; exact h0.elim
    | exc x s' G' =>
      refine .inl ⟨F, α, G, s, A, ?_⟩
      rw [e1] at h0 ⊢; exact h0
    | ok p =>
      obtain ⟨w, G1⟩ := p
      rw [e1] at h0
      dsimp only [R.bind] at h0
      cases w with
      | ref j =>
        dsimp only at h0
        split at h0
        · rename_i ws eg
          refine .inl ⟨F, α, G, s, A, ?_⟩
          rw [e1]
          intro F1 α1 H1 v x1 R1 r1
          obtain ⟨vs, e2, r2⟩ := R1.lstAt eg
          rw [r1.2, hK]
          exact ⟨_, rfl, ⟨vs, SqL.of e2⟩, h0 F1 α1 H1 _ x1 R1 (yields_live (lt_of_at eg))⟩
        · rename_i ds eg
          refine .inl ⟨F, α, G, s, A, ?_⟩
          rw [e1]
          intro F1 α1 H1 v x1 R1 r1
          obtain ⟨vs, e2, r2⟩ := R1.st j _ eg
          rw [r1.2, hK]
          have hq : SqL c.K F1 (α1 j) vs := SqL.of e2
          exact ⟨_, rfl, ⟨vs, L2.Same.seq R1.fh hq⟩, h0 F1 α1 H1 _ x1 R1 (Yields.toP (yields_of walk_list (by rw [RepDs.length r2, List.length_map]) (fun F' H' f h _ => L2.Same.seq (f.trans h) hq) (yat_rep (RepDs.ws r2))))⟩
        · exact h0.elim
      | d x =>
        refine .inr ⟨F, α, G, s, A, ?_⟩
        show FinI c Z F α G.length (iAny f s G) Q
        unfold iAny seqF
        rw [e1]
        dsimp only [R.bind]
        cases x with
        | str z => exact fun F1 α1 H1 J x1 R1 Y => h0 F1 α1 H1 J x1 R1 Y.toP
        | _ =>
          dsimp only at h0 ⊢
          split at h0
          · rename_i t ws e3
            try rw [e3]
            exact fun F1 α1 H1 J x1 R1 Y => h0 F1 α1 H1 J x1 R1 (Yields.toP Y)
          · exact h0.elim
/-- b, and behind it P holds still -/
def chk (P : Gd → Prop) (b : FS) : FS := fun s G => match b s G with
  | .ok (.nx s', G') => gate (P G') (.ok (.nx s', G'))
  | .ok (.ct s', G') => gate (P G') (.ok (.ct s', G'))
  | r => r
def sForV (i : FJ) (g : FG) (b : FS) : FS := fun s G => (i s G).bind fun p => gate (p.1.2 p.2) (forM g (chk p.1.2 b) p.1.1 s p.2)
theorem gate_fin {β γ : Type} {rep : PySem.W.Frag → Hp → (Nat → Addr) → Nat → γ → β → Prop} {F : Hp} {α : Nat → Addr} {n : Nat} {p : Prop} {r : R (β × Gd)} {Q : γ → Hp → Prop} (h : Fin rep c Z F α n (gate p r) Q) : p ∧ Fin rep c Z F α n r Q := by
  unfold gate at h
  split at h
  · rename_i hp; exact ⟨hp, h⟩
  · exact h.elim
theorem gate_finS {F : Hp} {α : Nat → Addr} {n : Nat} {p : Prop} {r : R (Fl × Gd)} {E : Ends} (h : FinS c Z F α n (gate p r) E) : p ∧ FinS c Z F α n r E := by
  unfold gate at h
  split at h
  · rename_i hp; exact ⟨hp, h⟩
  · exact h.elim
theorem mForV {tg iter : Expr} {body : List Stmt} {i : FJ} {g : FG} {b : FS} (hp : PassesOwn (model X.prog X.w) X.A X.env X.xe) (hc : X.calm = true) (hi : PI X tg iter (tMJ c Z i)) (hg : PG X tg (tMG c Z g)) (hb : PSs X body (tMS c Z b))
    (hs : ∀ x, foldedSetIterable iter X.env x = pure x := by intro _; rfl) : PS X (.For tg iter body [] pos) (tMS c Z (sForV i g b)) := by
  refine (ps_for hp hc hi hg hb hs).imp fun E σ H h => ?_
  obtain ⟨F, α, G, s, A, h⟩ := h
  refine ⟨F, α, G, s, A, ?_⟩
  unfold sForV at h
  cases e : i s G with
  | bad => rw [e] at h; exact h
  | exc x s' G' => rw [e] at h; exact h
  | ok p =>
    obtain ⟨⟨ws, P⟩, G1⟩ := p
    rw [e] at h
    obtain ⟨p1, h⟩ := gate_finS h
    dsimp only at p1 h
    intro F1 α1 H1 J e1 R1 Y
    refine ⟨fun i m σ H => m = ws.length - i ∧ i ≤ ws.length ∧ ∃ F' α' G' s', Ext F1 α1 G1.length F' α' G'.length ∧ At c F' α' G' s' σ H ∧ P G' ∧ FinS c Z F' α' G'.length (forM g (chk P b) (ws.drop i) s' G') E, ⟨ws.length, rfl, Nat.zero_le _, F1, α1, G1, s, Ext.refl, ⟨R1, A.sl.mono e1⟩, p1, ?_⟩, ?_⟩
    · exact FinS.mono e1 (show FinS c Z F α G.length (forM g (chk P b) ws s G1) E from h)
    rintro i m σ2 H2 ⟨rfl, hi, F2, α2, G2, s2, x2, A2, p2, h2⟩
    have y := Y c rfl rfl (Same.refl _) F2 α2 G2 H2 x2 A2.rel p2 i
    dsimp only at y
    cases hw : ws[i]? with
    | none =>
      have hi' : ws.length ≤ i := List.getElem?_eq_none_iff.mp hw
      rw [List.drop_eq_nil_of_le hi'] at h2
      exact .inl ⟨y.2 (by omega), h2.nx A2⟩
    | some w =>
      obtain ⟨hlt, ew⟩ := List.getElem?_eq_some_iff.mp hw
      obtain ⟨g1, g2⟩ := y.1 w hw
      rw [List.drop_eq_getElem_cons hlt, ew] at h2
      refine .inr ⟨g1, fun σ' H' => ∃ F' α' G' s', Ext F1 α1 G1.length F' α' G'.length ∧ At c F' α' G' s' σ' H' ∧ P G' ∧ FinS c Z F' α' G'.length (forM g (chk P b) (ws.drop (i + 1)) s' G') E,
        fun σ' H' q => ⟨ws.length - (i + 1), by omega, rfl, hlt, q⟩, fun x H3 hx => ?_⟩
      obtain ⟨F3, x3, R3, r3⟩ := g2 x H3 hx
      refine ⟨F3, α2, G2, s2, w, ⟨R3, A2.sl.mono x3⟩, r3, ?_⟩
      have h3 := FinS.mono x3 h2
      unfold forM at h3
      cases e4 : g w s2 G2 with
      | bad => rw [e4] at h3; exact h3
      | exc x s' G' => rw [e4] at h3; exact h3
      | ok p4 =>
        obtain ⟨s4, G4⟩ := p4
        rw [e4] at h3
        intro F4 α4 H4 σ4 x4 A4
        refine ⟨F4, α4, G4, s4, A4, ?_⟩
        have h5 := FinS.mono x4 h3
        have far : Ext F1 α1 G1.length F4 α4 G4.length := x2.trans (x3.trans x4)
        dsimp only at h5
        unfold chk at h5
        cases e5 : b s4 G4 with
        | bad => rw [e5] at h5; exact h5
        | exc x s' G' => rw [e5] at h5; exact h5
        | ok p5 =>
          obtain ⟨q, G5⟩ := p5
          rw [e5] at h5
          cases q with
          | nx s5 =>
            dsimp only at h5
            by_cases hP : P G5
            · rw [gate_pos hP] at h5
              exact fun F' α' H' σ' e' A' => ⟨F', α', G5, s5, far.trans e', A', hP, FinS.mono e' h5⟩
            · rw [show gate (P G5) (R.ok (Fl.nx s5, G5)) = .bad from if_neg hP] at h5; exact h5.elim
          | ct s5 =>
            dsimp only at h5
            by_cases hP : P G5
            · rw [gate_pos hP] at h5
              exact fun F' α' H' σ' e' A' => ⟨F', α', G5, s5, far.trans e', A', hP, FinS.mono e' h5⟩
            · rw [show gate (P G5) (R.ok (Fl.ct s5, G5)) = .bad from if_neg hP] at h5; exact h5.elim
          | bk s5 => exact h5
          | rt w => exact h5
/-! comprehensions over them -/
def chkT (P : Gd → Prop) (t : FT) : FT := fun s G => (t s G).bind fun p => gate (P p.2) (.ok p)
def chkE (P : Gd → Prop) (t : FE) : FE := fun s G => (t s G).bind fun p => gate (P p.2) (.ok p)
theorem chkT_eq {P : Gd → Prop} {t : FT} {s : Sd} {G : Gd} : chkT P t s G = (t s G).bind fun p => gate (P p.2) (.ok p) := rfl
theorem chkE_eq {P : Gd → Prop} {t : FE} {s : Sd} {G : Gd} : chkE P t s G = (t s G).bind fun p => gate (P p.2) (.ok p) := rfl
def eCompV (m : Bool) (i : Nat) (f : FJ) (t : FT) (e : FE) : FE := fun s G => (f s G).bind fun p => gate (p.1.2 p.2) ((compM i (chkT p.1.2 t) (chkE p.1.2 e) p.1.1 [] s p.2).bind fun q => newL m q.1 q.2)
def eCompTV (m : Bool) (is : List Nat) (f : FJ) (t : FT) (e : FE) : FE := fun s G => (f s G).bind fun p => gate (p.1.2 p.2) ((compT is (chkT p.1.2 t) (chkE p.1.2 e) p.1.1 [] s p.2).bind fun q => newL m q.1 q.2)
theorem compV_ok {m : Bool} {i : Nat} {f : FJ} {t : FT} {e : FE} {wi : TI} (hw : ∀ σ H Q, tMJ c Z f σ H Q → wi σ H Q) (σ : St) (H : Hp) (Q : VK) (h : tM c Z (eCompV m i f t e) σ H Q) :
    tLc wi (gName i) (inSomeT c fun c' => tMT c' Z0 t) (inSome c fun c' => tM c' Z0 e) [i] σ H Q := by
  refine hw σ H _ ?_
  obtain ⟨F, α, G, s, A, h⟩ := h
  refine ⟨F, α, G, s, A, ?_⟩
  unfold eCompV at h
  cases ef : f s G with
  | bad => rw [ef] at h; exact h
  | exc x s' G' => rw [ef] at h; exact h
  | ok p =>
    obtain ⟨⟨ws, P⟩, G1⟩ := p
    rw [ef] at h
    simp only [R.bind_ok] at h
    obtain ⟨p1, h⟩ := gate_fin (rep := RepW) h
    intro F1 α1 H1 J x1 R1 Y D hD
    have hB : c.B D = none := R1.bh.free hD
    have hF0 : c.F0 D = none := R1.f0.free (R1.fh.free hD)
    have h1 : FinE c Z F1 α1 G1.length ((compM i (chkT P t) (chkE P e) ws [] s G1).bind fun q => newL m q.1 q.2) Q := Fin.mono (rep := RepW) x1 h
    refine ⟨fun k n H => n = ws.length - k ∧ k ≤ ws.length ∧ ∃ F' α' G' vs acc, Ext F1 α1 G1.length F' α' G'.length ∧ Rel (c.with D vs) F' α' G' H ∧ P G' ∧ RepWs c.K F' α' G'.length vs acc ∧ FinE c Z F' α' G'.length ((compM i (chkT P t) (chkE P e) (ws.drop k) acc s G').bind fun q => newL m q.1 q.2) Q,
      ⟨ws.length, by simp, Nat.zero_le _, F1, α1, G1, [], [], Ext.refl, R1.into hD [], p1, .nil, by simpa using h1⟩, ?_⟩
    rintro k n H2 ⟨rfl, hk, F2, α2, G2, vs, acc, x2, R2, p2, ra, h2⟩
    have hF2 := R2.noF hF0
    have hHD : H2 D = some (.lst vs) := R2.bh D _ (by rw [show (c.with D vs).B D = upd c.B D (.lst vs) D from rfl, upd_same])
    -- the walked thing goes on
    have R2o : Rel c F2 α2 G2 (cutH H2 D) := R2.out hF2 hB
    have y := Y (c.with D vs) rfl rfl (same_upd hB) F2 α2 G2 H2 x2 R2 p2 k
    dsimp only at y
    cases hwk : ws[k]? with
    | none =>
      have hk' : ws.length ≤ k := List.getElem?_eq_none_iff.mp hwk
      rw [List.drop_eq_nil_of_le hk'] at h2
      refine .inl ⟨y.2 (by omega), ?_⟩
      have fin := newL_fin (Q := Q) (p := D) h2 R2o ra (by exact if_pos rfl)
      rw [cutH_upd hHD] at fin; exact fin
    | some w =>
      obtain ⟨hlt, ew⟩ := List.getElem?_eq_some_iff.mp hwk
      obtain ⟨g1, g2⟩ := y.1 w hwk
      rw [List.drop_eq_getElem_cons hlt, ew] at h2
      refine .inr ⟨g1, fun H' => ∃ F' α' G' vs acc, Ext F1 α1 G1.length F' α' G'.length ∧ Rel (c.with D vs) F' α' G' H' ∧ P G' ∧ RepWs c.K F' α' G'.length vs acc ∧ FinE c Z F' α' G'.length ((compM i (chkT P t) (chkE P e) (ws.drop (k + 1)) acc s G').bind fun q => newL m q.1 q.2) Q,
        fun H' q => ⟨ws.length - (k + 1), by omega, rfl, hlt, q⟩, fun x H3 hx => ?_⟩
      obtain ⟨F3, x3, R3, r3⟩ := g2 x H3 hx
      have S3 : RepS c.K F3 α2 G2.length σ s := A.sl.mono (x1.trans (x2.trans x3))
      refine ⟨by show List.set (List.set (List.set σ i none) i (some x)) i none = List.set σ i none; rw [List.set_set, List.set_set], ?_⟩
      refine ⟨c.with D vs, rfl, rfl, F3, α2, G2, (s.set i none).set i (some w), ⟨R3, (S3.clear i).set r3 i⟩, ?_⟩
      unfold compM at h2
      rw [chkT_eq] at h2
      cases et : t ((s.set i none).set i (some w)) G2 with
      | bad => rw [et] at h2; exact h2.elim
      | exc x s' G' => rw [et] at h2; exact h2.elim
      | ok q =>
        obtain ⟨b, G4⟩ := q
        rw [et] at h2
        simp only [R.bind_ok] at h2
        by_cases p4 : P G4
        case neg => rw [show gate (P G4) (R.ok (b, G4)) = .bad from if_neg p4] at h2; exact h2.elim
        rw [gate_pos p4] at h2
        intro F4 α4 H4 b' x4 R4 r4
        have r4' : b' = b := r4
        subst r4'
        have far : Ext F1 α1 G1.length F4 α4 G4.length := x2.trans (x3.trans x4)
        cases b' with
        | false => exact iteF ⟨F4, α4, G4, vs, acc, far, R4, p4, RepWs.mono (x3.trans x4) ra, Fin.mono (rep := RepW) (x3.trans x4) h2⟩
        | true =>
          refine iteT ?_
          refine ⟨c.with D vs, rfl, rfl, F4, α4, G4, (s.set i none).set i (some w), ⟨R4, ((S3.clear i).set r3 i).mono x4⟩, ?_⟩
          dsimp only at h2
          rw [chkE_eq] at h2
          cases ee : e ((s.set i none).set i (some w)) G4 with
          | bad => rw [ee] at h2; exact h2.elim
          | exc x s' G' => rw [ee] at h2; exact h2.elim
          | ok q5 =>
            obtain ⟨y5, G5⟩ := q5
            rw [ee] at h2
            simp only [R.bind_ok] at h2
            by_cases p5 : P G5
            case neg => rw [show gate (P G5) (R.ok (y5, G5)) = .bad from if_neg p5] at h2; exact h2.elim
            rw [gate_pos p5] at h2
            dsimp only at h2
            intro F5 α5 H5 v5 x5 R5 r5
            split at h2
            · rename_i hl
              have x345 := x3.trans (x4.trans x5)
              have ra5 := RepWs.mono x345 ra
              refine ⟨vs, R5.bh D _ (by rw [show (c.with D vs).B D = upd c.B D (.lst vs) D from rfl, upd_same]), by rw [ra.length]; exact hl, F5, α5, G5, vs ++ [v5], acc ++ [y5], x2.trans x345, R5.again (R5.noF hF0), p5, ra5.append (.cons r5 .nil), Fin.mono (rep := RepW) x345 h2⟩
            · exact h2.elim
theorem compTV_ok {m : Bool} {is : List Nat} {f : FJ} {t : FT} {e : FE} {wi : TI} (hw : ∀ σ H Q, tMJ c Z f σ H Q → wi σ H Q) (σ : St) (H : Hp) (Q : VK) (h : tM c Z (eCompTV m is f t e) σ H Q) :
    tLc wi (gTup c.K is.length (gNms is)) (inSomeT c fun c' => tMT c' Z0 t) (inSome c fun c' => tM c' Z0 e) is σ H Q := by
  refine hw σ H _ ?_
  obtain ⟨F, α, G, s, A, h⟩ := h
  refine ⟨F, α, G, s, A, ?_⟩
  unfold eCompTV at h
  cases ef : f s G with
  | bad => rw [ef] at h; exact h
  | exc x s' G' => rw [ef] at h; exact h
  | ok p =>
    obtain ⟨⟨ws, P⟩, G1⟩ := p
    rw [ef] at h
    simp only [R.bind_ok] at h
    obtain ⟨p1, h⟩ := gate_fin (rep := RepW) h
    intro F1 α1 H1 J x1 R1 Y D hD
    have hB : c.B D = none := R1.bh.free hD
    have hF0 : c.F0 D = none := R1.f0.free (R1.fh.free hD)
    have h1 : FinE c Z F1 α1 G1.length ((compT is (chkT P t) (chkE P e) ws [] s G1).bind fun q => newL m q.1 q.2) Q := Fin.mono (rep := RepW) x1 h
    refine ⟨fun k n H => n = ws.length - k ∧ k ≤ ws.length ∧ ∃ F' α' G' vs acc, Ext F1 α1 G1.length F' α' G'.length ∧ Rel (c.with D vs) F' α' G' H ∧ P G' ∧ RepWs c.K F' α' G'.length vs acc ∧ FinE c Z F' α' G'.length ((compT is (chkT P t) (chkE P e) (ws.drop k) acc s G').bind fun q => newL m q.1 q.2) Q,
      ⟨ws.length, by simp, Nat.zero_le _, F1, α1, G1, [], [], Ext.refl, R1.into hD [], p1, .nil, by simpa using h1⟩, ?_⟩
    rintro k n H2 ⟨rfl, hk, F2, α2, G2, vs, acc, x2, R2, p2, ra, h2⟩
    have hF2 := R2.noF hF0
    have hHD : H2 D = some (.lst vs) := R2.bh D _ (by rw [show (c.with D vs).B D = upd c.B D (.lst vs) D from rfl, upd_same])
    have R2o : Rel c F2 α2 G2 (cutH H2 D) := R2.out hF2 hB
    have y := Y (c.with D vs) rfl rfl (same_upd hB) F2 α2 G2 H2 x2 R2 p2 k
    dsimp only at y
    cases hwk : ws[k]? with
    | none =>
      have hk' : ws.length ≤ k := List.getElem?_eq_none_iff.mp hwk
      rw [List.drop_eq_nil_of_le hk'] at h2
      refine .inl ⟨y.2 (by omega), ?_⟩
      have fin := newL_fin (Q := Q) (p := D) h2 R2o ra (by exact if_pos rfl)
      rw [cutH_upd hHD] at fin; exact fin
    | some w =>
      obtain ⟨hlt, ew⟩ := List.getElem?_eq_some_iff.mp hwk
      obtain ⟨g1, g2⟩ := y.1 w hwk
      rw [List.drop_eq_getElem_cons hlt, ew] at h2
      refine .inr ⟨g1, fun H' => ∃ F' α' G' vs acc, Ext F1 α1 G1.length F' α' G'.length ∧ Rel (c.with D vs) F' α' G' H' ∧ P G' ∧ RepWs c.K F' α' G'.length vs acc ∧ FinE c Z F' α' G'.length ((compT is (chkT P t) (chkE P e) (ws.drop (k + 1)) acc s G').bind fun q => newL m q.1 q.2) Q,
        fun H' q => ⟨ws.length - (k + 1), by omega, rfl, hlt, q⟩, fun x H3 hx => ?_⟩
      obtain ⟨F3, x3, R3, r3⟩ := g2 x H3 hx
      have S3 : RepS c.K F3 α2 G2.length σ s := A.sl.mono (x1.trans (x2.trans x3))
      cases w with
      | ref i => exact h2.elim
      | d dd =>
        cases dd with
        | tup ds =>
          unfold compT at h2
          split at h2
          · rename_i hln
            cases r3 with
            | tup sa sb =>
              refine ⟨_, _, rfl, Same.seqT R3.fh sa, by rw [RepDs.length sb]; exact hln, gNms_ok (by rw [RepDs.length sb]; exact hln) ?_⟩
              refine ⟨wipe_setAllV _ _ _, c.with D vs, rfl, rfl, F3, α2, G2, setAll (wipeS s is) is ds, ⟨R3, (S3.wipe is).setAll sb⟩, ?_⟩
              rw [chkT_eq] at h2
              cases et : t (setAll (wipeS s is) is ds) G2 with
              | bad => rw [et] at h2; exact h2.elim
              | exc x s' G' => rw [et] at h2; exact h2.elim
              | ok q =>
                obtain ⟨b, G4⟩ := q
                rw [et] at h2
                simp only [R.bind_ok] at h2
                by_cases p4 : P G4
                case neg => rw [show gate (P G4) (R.ok (b, G4)) = .bad from if_neg p4] at h2; exact h2.elim
                rw [gate_pos p4] at h2
                intro F4 α4 H4 b' x4 R4 r4
                have r4' : b' = b := r4
                subst r4'
                have far : Ext F1 α1 G1.length F4 α4 G4.length := x2.trans (x3.trans x4)
                cases b' with
                | false => exact iteF ⟨F4, α4, G4, vs, acc, far, R4, p4, RepWs.mono (x3.trans x4) ra, Fin.mono (rep := RepW) (x3.trans x4) h2⟩
                | true =>
                  refine iteT ?_
                  refine ⟨c.with D vs, rfl, rfl, F4, α4, G4, setAll (wipeS s is) is ds, ⟨R4, ((S3.wipe is).setAll sb).mono x4⟩, ?_⟩
                  dsimp only at h2
                  rw [chkE_eq] at h2
                  cases ee : e (setAll (wipeS s is) is ds) G4 with
                  | bad => rw [ee] at h2; exact h2.elim
                  | exc x s' G' => rw [ee] at h2; exact h2.elim
                  | ok q5 =>
                    obtain ⟨y5, G5⟩ := q5
                    rw [ee] at h2
                    simp only [R.bind_ok] at h2
                    by_cases p5 : P G5
                    case neg => rw [show gate (P G5) (R.ok (y5, G5)) = .bad from if_neg p5] at h2; exact h2.elim
                    rw [gate_pos p5] at h2
                    dsimp only at h2
                    intro F5 α5 H5 v5 x5 R5 r5
                    split at h2
                    · rename_i hl
                      have x345 := x3.trans (x4.trans x5)
                      have ra5 := RepWs.mono x345 ra
                      refine ⟨vs, R5.bh D _ (by rw [show (c.with D vs).B D = upd c.B D (.lst vs) D from rfl, upd_same]), by rw [ra.length]; exact hl, F5, α5, G5, vs ++ [v5], acc ++ [y5], x2.trans x345, R5.again (R5.noF hF0), p5, ra5.append (.cons r5 .nil), Fin.mono (rep := RepW) x345 h2⟩
                    · exact h2.elim
          · exact h2.elim
        | _ => exact h2.elim
theorem mVComp (m : Bool) (i : Nat) {x : Str} {elt iter : Expr} {tpos : Pos} {scope : Scope} {f : FJ} {e : FE} (hc : X.calm = true) (hN : X.N.Nodup) (hi : PI X (.Name x tpos) iter (tMJ c Z f)) (ok : BlkOk X.N X.env.scope scope [(x, i)])
    (hg : Blk X scope fun Y => PG Y (.Name x tpos) (gName i)) (he : ∀ c' : RC, c'.K = c.K → c'.cl = c.cl → Blk X scope fun Y => PE Y elt (tM c' Z0 e)) (hs : ∀ x, foldedSetIterable iter X.env x = pure x := by intro _; rfl) :
    PE X (.ListComp elt [⟨.Name x tpos, iter, [], 0⟩] scope pos) (tM c Z (eCompV m i f tYesM e)) :=
  (pe_lc hc hN hi ok hg (fun s H C cl fp => pts_nil.imp yes_ok) (fun s H C cl fp => pe_some fun c' k1 k2 => he c' k1 k2 s H C cl fp) hs).imp fun σ H Q h => compV_ok (fun _ _ _ h => h) σ H Q h
theorem mVCompIf (m : Bool) (i : Nat) {x : Str} {elt iter tst : Expr} {tpos : Pos} {scope : Scope} {f : FJ} {t : FT} {e : FE} (hc : X.calm = true) (hN : X.N.Nodup) (hi : PI X (.Name x tpos) iter (tMJ c Z f)) (ok : BlkOk X.N X.env.scope scope [(x, i)])
    (hg : Blk X scope fun Y => PG Y (.Name x tpos) (gName i)) (ht : ∀ c' : RC, c'.K = c.K → c'.cl = c.cl → Blk X scope fun Y => PT Y tst (tMT c' Z0 t)) (he : ∀ c' : RC, c'.K = c.K → c'.cl = c.cl → Blk X scope fun Y => PE Y elt (tM c' Z0 e)) (hs : ∀ x, foldedSetIterable iter X.env x = pure x := by intro _; rfl) :
    PE X (.ListComp elt [⟨.Name x tpos, iter, [tst], 0⟩] scope pos) (tM c Z (eCompV m i f t e)) :=
  (pe_lc hc hN hi ok hg (fun s H C cl fp => pts_one (pt_some fun c' k1 k2 => ht c' k1 k2 s H C cl fp)) (fun s H C cl fp => pe_some fun c' k1 k2 => he c' k1 k2 s H C cl fp) hs).imp fun σ H Q h => compV_ok (fun _ _ _ h => h) σ H Q h
/-- y = [..] on one line -/
theorem mVSetComp (m : Bool) (i j : Nat) {x y : Str} {py : Pos} {elt iter : Expr} {tpos spos : Pos} {scope : Scope} {f : FJ} {e : FE} (hc : X.calm = true) (hN : X.N.Nodup) (hy : X.N[j]? = some y) (hyl : X.env.scope.names.lookup y = some .local)
    (hsw : swapsWith (.ListComp elt [⟨.Name x tpos, iter, [], 0⟩] scope pos) (some (.Name y py)) spos.line X.env = pure true) (hi : PI X (.Name x tpos) iter (tMJ c Z f)) (ok : BlkOk X.N X.env.scope scope [(x, i)])
    (hg : Blk X scope fun Y => PG Y (.Name x tpos) (gName i)) (he : ∀ c' : RC, c'.K = c.K → c'.cl = c.cl → Blk X scope fun Y => PE Y elt (tM c' Z0 e)) (hs : ∀ x, foldedSetIterable iter X.env x = pure x := by intro _; rfl) :
    PS X (.Assign [.Name y py] (.ListComp elt [⟨.Name x tpos, iter, [], 0⟩] scope pos) spos) (tMS c Z (sSet j (eCompV m i f tYesM e))) :=
  (ps_setLc hc hN hy hyl hsw hi ok hg (fun s H C cl fp => pts_nil.imp yes_ok) (fun s H C cl fp => pe_some fun c' k1 k2 => he c' k1 k2 s H C cl fp) hs).imp fun E σ H h =>
    compV_ok (fun _ _ _ h => h) σ H _ ((tG.seqS (rep := RepW) h).imp fun v H1 ⟨F1, α1, G1, s, w, A1, r1, h1⟩ => h1 F1 α1 H1 _ Ext.refl ⟨A1.rel, A1.sl.set r1 j⟩)
theorem mVSetCompIf (m : Bool) (i j : Nat) {x y : Str} {py : Pos} {elt iter tst : Expr} {tpos spos : Pos} {scope : Scope} {f : FJ} {t : FT} {e : FE} (hc : X.calm = true) (hN : X.N.Nodup) (hy : X.N[j]? = some y) (hyl : X.env.scope.names.lookup y = some .local)
    (hsw : swapsWith (.ListComp elt [⟨.Name x tpos, iter, [tst], 0⟩] scope pos) (some (.Name y py)) spos.line X.env = pure true) (hi : PI X (.Name x tpos) iter (tMJ c Z f)) (ok : BlkOk X.N X.env.scope scope [(x, i)])
    (hg : Blk X scope fun Y => PG Y (.Name x tpos) (gName i)) (ht : ∀ c' : RC, c'.K = c.K → c'.cl = c.cl → Blk X scope fun Y => PT Y tst (tMT c' Z0 t)) (he : ∀ c' : RC, c'.K = c.K → c'.cl = c.cl → Blk X scope fun Y => PE Y elt (tM c' Z0 e)) (hs : ∀ x, foldedSetIterable iter X.env x = pure x := by intro _; rfl) :
    PS X (.Assign [.Name y py] (.ListComp elt [⟨.Name x tpos, iter, [tst], 0⟩] scope pos) spos) (tMS c Z (sSet j (eCompV m i f t e))) :=
  (ps_setLc hc hN hy hyl hsw hi ok hg (fun s H C cl fp => pts_one (pt_some fun c' k1 k2 => ht c' k1 k2 s H C cl fp)) (fun s H C cl fp => pe_some fun c' k1 k2 => he c' k1 k2 s H C cl fp) hs).imp fun E σ H h =>
    compV_ok (fun _ _ _ h => h) σ H _ ((tG.seqS (rep := RepW) h).imp fun v H1 ⟨F1, α1, G1, s, w, A1, r1, h1⟩ => h1 F1 α1 H1 _ Ext.refl ⟨A1.rel, A1.sl.set r1 j⟩)
theorem mVCompT (m : Bool) (is : List Nat) (xs : List Str) {ts : List Expr} {tk : Nat} {elt iter : Expr} {tpos : Pos} {scope : Scope} {f : FJ} {e : FE} (hK : c.K = X.K) (hxl : (xs.zip is).map (·.2) = is) (hc : X.calm = true) (hN : X.N.Nodup) (hi : PI X (.Tuple ts tk tpos) iter (tMJ c Z f)) (ok : BlkOk X.N X.env.scope scope (xs.zip is))
    (hg : Blk X scope fun Y => PG Y (.Tuple ts tk tpos) (gTup c.K is.length (gNms is))) (he : ∀ c' : RC, c'.K = c.K → c'.cl = c.cl → Blk X scope fun Y => PE Y elt (tM c' Z0 e)) (hs : ∀ x, foldedSetIterable iter X.env x = pure x := by intro _; rfl) :
    PE X (.ListComp elt [⟨.Tuple ts tk tpos, iter, [], 0⟩] scope pos) (tM c Z (eCompTV m is f tYesM e)) :=
  (pe_lc hc hN hi ok hg (fun s H C cl fp => pts_nil.imp yes_ok) (fun s H C cl fp => pe_some fun c' k1 k2 => he c' k1 k2 s H C cl fp) hs).imp fun σ H Q h => by rw [hxl]; exact compTV_ok (fun _ _ _ h => h) σ H Q h
theorem mVCompTIf (m : Bool) (is : List Nat) (xs : List Str) {ts : List Expr} {tk : Nat} {elt iter tst : Expr} {tpos : Pos} {scope : Scope} {f : FJ} {t : FT} {e : FE} (hK : c.K = X.K) (hxl : (xs.zip is).map (·.2) = is) (hc : X.calm = true) (hN : X.N.Nodup) (hi : PI X (.Tuple ts tk tpos) iter (tMJ c Z f)) (ok : BlkOk X.N X.env.scope scope (xs.zip is))
    (hg : Blk X scope fun Y => PG Y (.Tuple ts tk tpos) (gTup c.K is.length (gNms is))) (ht : ∀ c' : RC, c'.K = c.K → c'.cl = c.cl → Blk X scope fun Y => PT Y tst (tMT c' Z0 t)) (he : ∀ c' : RC, c'.K = c.K → c'.cl = c.cl → Blk X scope fun Y => PE Y elt (tM c' Z0 e)) (hs : ∀ x, foldedSetIterable iter X.env x = pure x := by intro _; rfl) :
    PE X (.ListComp elt [⟨.Tuple ts tk tpos, iter, [tst], 0⟩] scope pos) (tM c Z (eCompTV m is f t e)) :=
  (pe_lc hc hN hi ok hg (fun s H C cl fp => pts_one (pt_some fun c' k1 k2 => ht c' k1 k2 s H C cl fp)) (fun s H C cl fp => pe_some fun c' k1 k2 => he c' k1 k2 s H C cl fp) hs).imp fun σ H Q h => by rw [hxl]; exact compTV_ok (fun _ _ _ h => h) σ H Q h
theorem mVSetCompT (m : Bool) (is : List Nat) (j : Nat) (xs : List Str) {y : Str} {py : Pos} {ts : List Expr} {tk : Nat} {elt iter : Expr} {tpos spos : Pos} {scope : Scope} {f : FJ} {e : FE} (hK : c.K = X.K) (hxl : (xs.zip is).map (·.2) = is) (hc : X.calm = true) (hN : X.N.Nodup) (hy : X.N[j]? = some y) (hyl : X.env.scope.names.lookup y = some .local)
    (hsw : swapsWith (.ListComp elt [⟨.Tuple ts tk tpos, iter, [], 0⟩] scope pos) (some (.Name y py)) spos.line X.env = pure true) (hi : PI X (.Tuple ts tk tpos) iter (tMJ c Z f)) (ok : BlkOk X.N X.env.scope scope (xs.zip is))
    (hg : Blk X scope fun Y => PG Y (.Tuple ts tk tpos) (gTup c.K is.length (gNms is))) (he : ∀ c' : RC, c'.K = c.K → c'.cl = c.cl → Blk X scope fun Y => PE Y elt (tM c' Z0 e)) (hs : ∀ x, foldedSetIterable iter X.env x = pure x := by intro _; rfl) :
    PS X (.Assign [.Name y py] (.ListComp elt [⟨.Tuple ts tk tpos, iter, [], 0⟩] scope pos) spos) (tMS c Z (sSet j (eCompTV m is f tYesM e))) :=
  (ps_setLc hc hN hy hyl hsw hi ok hg (fun s H C cl fp => pts_nil.imp yes_ok) (fun s H C cl fp => pe_some fun c' k1 k2 => he c' k1 k2 s H C cl fp) hs).imp fun E σ H h => by
    rw [hxl]
    exact compTV_ok (fun _ _ _ h => h) σ H _ ((tG.seqS (rep := RepW) h).imp fun v H1 ⟨F1, α1, G1, s, w, A1, r1, h1⟩ => h1 F1 α1 H1 _ Ext.refl ⟨A1.rel, A1.sl.set r1 j⟩)
theorem mVSetCompTIf (m : Bool) (is : List Nat) (j : Nat) (xs : List Str) {y : Str} {py : Pos} {ts : List Expr} {tk : Nat} {elt iter tst : Expr} {tpos spos : Pos} {scope : Scope} {f : FJ} {t : FT} {e : FE} (hK : c.K = X.K) (hxl : (xs.zip is).map (·.2) = is) (hc : X.calm = true) (hN : X.N.Nodup) (hy : X.N[j]? = some y) (hyl : X.env.scope.names.lookup y = some .local)
    (hsw : swapsWith (.ListComp elt [⟨.Tuple ts tk tpos, iter, [tst], 0⟩] scope pos) (some (.Name y py)) spos.line X.env = pure true) (hi : PI X (.Tuple ts tk tpos) iter (tMJ c Z f)) (ok : BlkOk X.N X.env.scope scope (xs.zip is))
    (hg : Blk X scope fun Y => PG Y (.Tuple ts tk tpos) (gTup c.K is.length (gNms is))) (ht : ∀ c' : RC, c'.K = c.K → c'.cl = c.cl → Blk X scope fun Y => PT Y tst (tMT c' Z0 t)) (he : ∀ c' : RC, c'.K = c.K → c'.cl = c.cl → Blk X scope fun Y => PE Y elt (tM c' Z0 e)) (hs : ∀ x, foldedSetIterable iter X.env x = pure x := by intro _; rfl) :
    PS X (.Assign [.Name y py] (.ListComp elt [⟨.Tuple ts tk tpos, iter, [tst], 0⟩] scope pos) spos) (tMS c Z (sSet j (eCompTV m is f t e))) :=
  (ps_setLc hc hN hy hyl hsw hi ok hg (fun s H C cl fp => pts_one (pt_some fun c' k1 k2 => ht c' k1 k2 s H C cl fp)) (fun s H C cl fp => pe_some fun c' k1 k2 => he c' k1 k2 s H C cl fp) hs).imp fun E σ H h => by
    rw [hxl]
    exact compTV_ok (fun _ _ _ h => h) σ H _ ((tG.seqS (rep := RepW) h).imp fun v H1 ⟨F1, α1, G1, s, w, A1, r1, h1⟩ => h1 F1 α1 H1 _ Ext.refl ⟨A1.rel, A1.sl.set r1 j⟩)
/-- enumerate of a list that lives, or any data -/
def vEnum (f : FA) : FJ := seqF f fun ws _ G => match ws with
  | [.ref j] => match G[j]? with
    | some (.lst xs) => match enumW xs with
      | some ys => .ok ((ys, isL j xs), G)
      | none => .bad
    | _ => .bad
  | _ => .bad
theorem mvEnum {e : Expr} {f : FA} {p tpos : Pos} {elts : List Expr} {kk : Nat} (hK : X.K = c.K) (hg : Gl X "enumerate") (hm : X.mg "enumerate" = none) (ha : PA X [e] (tMA c Z f)) (hs : starEach [e] X.env = [(false, eval e X.env)] := by rfl) :
    PI X (.Tuple elts kk tpos) (.Call (.Name "enumerate" p) [e] [] pos) (tMJ c Z (vEnum f)) :=
  (pi_enum hg hm ha hs).imp fun σ H Q h => (tMJ.of (rep := RepWs) h).imp fun vs H1 ⟨F1, α1, G1, s, ws, A1, r1, h1⟩ => by
    split at h1
    · rename_i j
      split at h1
      · rename_i xs eg
        split at h1
        · rename_i ys e2
          obtain ⟨v, rfl, r2⟩ := paired1 r1
          obtain ⟨us, e3, r3⟩ := A1.rel.lstAt eg
          obtain ⟨l1, l2⟩ := enum_at e2
          have hj := lt_of_at eg
          rw [hK, r2.2]
          refine ⟨_, us, rfl, SqL.of e3, h1 F1 α1 H1 _ Ext.refl A1.rel ?_⟩
          intro c' k1 k2 k3 F' α' G' H' x R hP i
          obtain ⟨vs', e, r⟩ := R.lstAt hP
          rw [x.a j hj] at e
          have hq : SqL c.K H' (α1 j) vs' := SqL.of e
          have ln : vs'.length = ys.length := by rw [r.length, l1]
          refine ⟨fun w hw => ?_, fun hi => ?_⟩
          · have hi : i < vs'.length := by
              rw [ln]; exact (List.getElem?_eq_some_iff.mp hw).1
            refine ⟨walk_enum.goes i H' hi hq, fun y H'' hy => ?_⟩
            obtain ⟨T, x1, x2, e1, nT, e2', e3', e4⟩ := walk_enum.yields i H' y H'' hi hq hy
            subst e1; subst e2'
            obtain ⟨b, eb, rfl⟩ := l2 i w hw
            rw [k1] at r
            obtain ⟨v', ev, rv⟩ := r.get eb
            have e4' : vs'[i]? = some x2 := e4
            rw [e4'] at ev; cases ev
            obtain ⟨R', x'⟩ := R.frz nT (.tup [x1, x2])
            cases e3'
            exact ⟨_, x', R', show RepD c.K _ _ _ from .tup (.inl (.inl upd_same)) (.cons (.int _) (.cons (RepD.mono x'.f rv) .nil)) fun z => by cases z⟩
          · rw [hi, ← ln]; exact walk_enum.stops H' hq
        · exact h1.elim
      · exact h1.elim
    · exact h1.elim
/-! ### methods -/
def toStrs : List W → Option (List Str)
  | [] => some []
  | .d (.str x) :: r => (toStrs r).map (x :: ·)
  | _ :: _ => none
theorem toStrs_eq : ∀ {ws : List W} {ys : List Str}, toStrs ws = some ys → ws = ys.map fun y => W.d (.str y)
  | [], ys, h => by cases h; rfl
  | .ref _ :: r, ys, h => by cases h
  | .d x :: r, ys, h => by
    cases x with
    | str z =>
      simp only [toStrs, Option.map_eq_some_iff] at h
      obtain ⟨zs, e, rfl⟩ := h
      rw [toStrs_eq e]; rfl
    | _ => cases h
theorem reps_strs {K : PySem.W.Frag} {F : Hp} {α : Nat → Addr} {n : Nat} : ∀ {ys : List Str} {vs : List V}, RepWs K F α n vs (ys.map fun y => W.d (.str y)) → vs = ys.map V.str
  | [], _, .nil => rfl
  | y :: ys, v :: vs, .cons r t => by
    have r' : RepD K F v (.str y) := r
    cases r'
    rw [reps_strs t]; rfl
theorem strs_reps {K : PySem.W.Frag} {F : Hp} {α : Nat → Addr} {n : Nat} : ∀ (ys : List Str), RepWs K F α n (ys.map V.str) (ys.map fun y => W.d (.str y))
  | [] => .nil
  | y :: ys => .cons (RepD.str y) (strs_reps ys)
/-- sep.join(texts) -/
def wJoin (w : W) (ws : List W) (G : Gd) : R (W × Gd) := match w, ws with
  | .d (.str a), [x] => match asSeq G x with
    | some (_, zs) => match toStrs zs with
      | some ys => gate ((ys.map (·.length)).sum + ys.length * a.length ≤ 16777216) (.ok (.d (.str (Txt.join a ys)), G))
      | none => .bad
    | none => .bad
  | _, _ => .bad
theorem md_join : MtD c Z (fun x xs H Q => ∃ a p, ∃ ys : List Str, x = .str a ∧ xs = [.ref p] ∧ (SqL c.K H p (ys.map V.str) ∨ SqT c.K H p (ys.map V.str)) ∧ (ys.map (·.length)).sum + ys.length * a.length ≤ 16777216 ∧ Q (.str (Txt.join a ys)) H) wJoin := by
  intro F α G H x w vs ws Q R r rs h
  unfold wJoin at h
  split at h
  · rename_i a y
    split at h
    · rename_i t zs e1
      split at h
      · rename_i ys e2
        obtain ⟨hg, h⟩ := gate_fin (rep := RepW) h
        have r' : RepD c.K F x (.str a) := r
        cases r'
        obtain ⟨u, rfl, ru⟩ := paired1 rs
        obtain ⟨p, us, rfl, hq, r2⟩ := asSeq_any R ru e1
        rw [toStrs_eq e2] at r2
        rw [reps_strs r2] at hq
        exact ⟨a, p, ys, rfl, rfl, hq, hg, h F α H _ Ext.refl R (RepD.str _)⟩
      · exact h.elim
    · exact h.elim
  · exact h.elim
theorem mt_joinK (hK : c.K = X.K) : MtR X "str.join" (fun x xs H Q => ∃ a p, ∃ ys : List Str, x = .str a ∧ xs = [.ref p] ∧ (SqL c.K H p (ys.map V.str) ∨ SqT c.K H p (ys.map V.str)) ∧ (ys.map (·.length)).sum + ys.length * a.length ≤ 16777216 ∧ Q (.str (Txt.join a ys)) H) := by
  rw [hK]; exact mt_join
theorem mJoin {o e : Expr} {apos cpos : Pos} {g : FE} {f : FA} (hK : c.K = X.K) (ho : PE X o (tM c Z g)) (ha : PA X [e] (tMA c Z f)) (hbase : attributeBase o "join" X.env (eval o X.env) = eval o X.env := by rfl)
    (hfew : ((backTo cpos (starEach [e] X.env)).all (fun x => !x.1) && (backToKw cpos (keywordEach [] X.env)).all (fun x => x.1.isSome) && decide ([e].length + ([] : List Keyword).length + (if ([] : List Keyword).isEmpty then 0 else 1) < 30)) = true := by rfl)
    (hline : (apos.endLine == cpos.line) = true := by rfl) (hs : starEach [e] X.env = (false, eval e X.env) :: starEach [] X.env := by rfl) (hplain : (backTo cpos (starEach [] X.env)).any (·.1) = false := by rfl) :
    PE X (.Call (.Attribute o "join" apos) [e] [] cpos) (tM c Z (eMt rcS wJoin g f)) := mMt hK.symm rcvS md_join PySem.F.plainAttrs_str PySem.F.slot_str_join PySem.F.type_str_join (mt_joinK hK) ho ha hbase hfew hline hs hplain
/-- text.split(sep) -/
def wSplit (m : Bool) (w : W) (ws : List W) (G : Gd) : R (W × Gd) := match w, ws with
  | .d (.str a), [.d (.str b)] => gate ((b.length == 0) = false ∧ a.length + 2 ≤ sizeLine) (newL m ((Txt.split a b).map fun y => W.d (.str y)) G)
  | _, _ => .bad
theorem md_split (m : Bool) : MtD c Z (fun x xs H Q => ∃ a b, x = .str a ∧ xs = [.str b] ∧ (b.length == 0) = false ∧ a.length + 2 ≤ sizeLine ∧ rNewStrs (Txt.split a b) H Q) (wSplit m) := by
  intro F α G H x w vs ws Q R r rs h
  unfold wSplit at h
  split at h
  · rename_i a b
    obtain ⟨hg, h⟩ := gate_fin (rep := RepW) h
    have r' : RepD c.K F x (.str a) := r
    cases r'
    obtain ⟨u, rfl, ru⟩ := paired1 rs
    have ru' : RepD c.K F u (.str b) := ru
    cases ru'
    exact ⟨a, b, rfl, rfl, hg.1, hg.2, fun p hp => newL_fin h R (strs_reps _) hp⟩
  · exact h.elim
theorem mSplit (m : Bool) {o e : Expr} {apos cpos : Pos} {g : FE} {f : FA} (hK : c.K = X.K) (ho : PE X o (tM c Z g)) (ha : PA X [e] (tMA c Z f)) (hbase : attributeBase o "split" X.env (eval o X.env) = eval o X.env := by rfl)
    (hfew : ((backTo cpos (starEach [e] X.env)).all (fun x => !x.1) && (backToKw cpos (keywordEach [] X.env)).all (fun x => x.1.isSome) && decide ([e].length + ([] : List Keyword).length + (if ([] : List Keyword).isEmpty then 0 else 1) < 30)) = true := by rfl)
    (hline : (apos.endLine == cpos.line) = true := by rfl) (hs : starEach [e] X.env = (false, eval e X.env) :: starEach [] X.env := by rfl) (hplain : (backTo cpos (starEach [] X.env)).any (·.1) = false := by rfl) :
    PE X (.Call (.Attribute o "split" apos) [e] [] cpos) (tM c Z (eMt rcS (wSplit m) g f)) := mMt hK.symm rcvS (md_split m) PySem.F.plainAttrs_str PySem.F.slot_str_split PySem.F.type_str_split mt_split ho ha hbase hfew hline hs hplain
/-- text.upper() -/
def wUpper (w : W) (ws : List W) (G : Gd) : R (W × Gd) := match w, ws with
  | .d (.str a), [] => gate (a.length ≤ 5592405) (.ok (.d (.str (Txt.upper a)), G))
  | _, _ => .bad
theorem md_upper : MtD c Z (fun x xs H Q => ∃ a, x = .str a ∧ xs = [] ∧ a.length ≤ 5592405 ∧ Q (.str (Txt.upper a)) H) wUpper := by
  intro F α G H x w vs ws Q R r rs h
  unfold wUpper at h
  split at h
  · rename_i a
    obtain ⟨hg, h⟩ := gate_fin (rep := RepW) h
    have r' : RepD c.K F x (.str a) := r
    cases r'
    cases rs
    exact ⟨a, rfl, rfl, hg, h F α H _ Ext.refl R (RepD.str _)⟩
  · exact h.elim
theorem mUpper {o : Expr} {apos cpos : Pos} {g : FE} (hK : c.K = X.K) (ho : PE X o (tM c Z g)) (hbase : attributeBase o "upper" X.env (eval o X.env) = eval o X.env := by rfl) (hline : (apos.endLine == cpos.line) = true := by rfl) :
    PE X (.Call (.Attribute o "upper" apos) [] [] cpos) (tM c Z (eMt rcS wUpper g aNil)) := mMt0 hK.symm rcvS md_upper PySem.F.plainAttrs_str PySem.F.slot_str_upper PySem.F.type_str_upper mt_upper ho hbase hline
/-- xs.clear(), xs.reverse() -/
def wClear (w : W) (ws : List W) (G : Gd) : R (W × Gd) := match w, ws with
  | .ref i, [] => match G[i]? with
    | some (.lst _) => .ok (.d .non, G.set i (.lst []))
    | _ => .bad
  | _, _ => .bad
theorem md_clear : MtD c Z rClear wClear := by
  intro F α G H x w vs ws Q R r rs h
  unfold wClear at h
  split at h
  · rename_i i
    split at h
    · rename_i xs e
      cases rs
      obtain ⟨us, e1, r2⟩ := R.lstAt e
      exact ⟨α i, us, r.2, rfl, e1, h F α _ _ ⟨Same.refl _, fun _ _ => rfl, by simp⟩ (R.set e trivial (ho := .lst []) (o := .lst []) .nil) RepD.non⟩
    · exact h.elim
  · exact h.elim
theorem mClear {o : Expr} {apos cpos : Pos} {g : FE} (hK : c.K = X.K) (ho : PE X o (tM c Z g)) (hbase : attributeBase o "clear" X.env (eval o X.env) = eval o X.env := by rfl) (hline : (apos.endLine == cpos.line) = true := by rfl) :
    PE X (.Call (.Attribute o "clear" apos) [] [] cpos) (tM c Z (eMt rcL wClear g aNil)) := mMt0 hK.symm rcvL md_clear PySem.F.plainAttrs_list PySem.F.slot_list_clear PySem.F.type_list_clear mt_clear ho hbase hline
theorem reps_rev {K : PySem.W.Frag} {F : Hp} {α : Nat → Addr} {n : Nat} : ∀ {vs : List V} {ws : List W}, RepWs K F α n vs ws → RepWs K F α n vs.reverse ws.reverse
  | _, _, .nil => .nil
  | _, _, .cons r t => by
    rw [List.reverse_cons, List.reverse_cons]
    exact (reps_rev t).append (.cons r .nil)
def wReverse (w : W) (ws : List W) (G : Gd) : R (W × Gd) := match w, ws with
  | .ref i, [] => match G[i]? with
    | some (.lst xs) => .ok (.d .non, G.set i (.lst xs.reverse))
    | _ => .bad
  | _, _ => .bad
theorem md_reverse : MtD c Z rReverse wReverse := by
  intro F α G H x w vs ws Q R r rs h
  unfold wReverse at h
  split at h
  · rename_i i
    split at h
    · rename_i xs e
      cases rs
      obtain ⟨us, e1, r2⟩ := R.lstAt e
      exact ⟨α i, us, r.2, rfl, e1, h F α _ _ ⟨Same.refl _, fun _ _ => rfl, by simp⟩ (R.set e trivial (ho := .lst us.reverse) (o := .lst xs.reverse) (reps_rev r2)) RepD.non⟩
    · exact h.elim
  · exact h.elim
theorem mReverse {o : Expr} {apos cpos : Pos} {g : FE} (hK : c.K = X.K) (ho : PE X o (tM c Z g)) (hbase : attributeBase o "reverse" X.env (eval o X.env) = eval o X.env := by rfl) (hline : (apos.endLine == cpos.line) = true := by rfl) :
    PE X (.Call (.Attribute o "reverse" apos) [] [] cpos) (tM c Z (eMt rcL wReverse g aNil)) := mMt0 hK.symm rcvL md_reverse PySem.F.plainAttrs_list PySem.F.slot_list_reverse PySem.F.type_list_reverse mt_reverse ho hbase hline
/-- xs.pop(k) -/
def wPopAt (w : W) (ws : List W) (G : Gd) : R (W × Gd) := match w, ws with
  | .ref i, [.d (.int n)] => match G[i]? with
    | some (.lst xs) => gate (0 ≤ n ∧ n < xs.length ∧ n < 2 ^ 60) (match xs[n.toNat]? with
      | some x => .ok (x, G.set i (.lst (xs.eraseIdx n.toNat)))
      | none => .bad)
    | _ => .bad
  | _, _ => .bad
theorem reps_erase {K : PySem.W.Frag} {F : Hp} {α : Nat → Addr} {n : Nat} : ∀ {vs : List V} {ws : List W} (k : Nat), RepWs K F α n vs ws → RepWs K F α n (vs.eraseIdx k) (ws.eraseIdx k)
  | _, _, _, .nil => .nil
  | _, _, 0, .cons r t => t
  | _, _, k + 1, .cons r t => .cons r (reps_erase k t)
theorem md_popAt : MtD c Z rPopAt wPopAt := by
  intro F α G H x w vs ws Q R r rs h
  unfold wPopAt at h
  split at h
  · rename_i i n
    split at h
    · rename_i xs e
      obtain ⟨hg, h⟩ := gate_fin (rep := RepW) h
      split at h
      · rename_i y ey
        obtain ⟨u, rfl, ru⟩ := paired1 rs
        have ru' : RepD c.K F u (.int n) := ru
        cases ru'
        obtain ⟨us, e1, r2⟩ := R.lstAt e
        obtain ⟨v, ev, rv⟩ := r2.get ey
        have hl := r2.length
        have R' := R.set e trivial (ho := .lst (us.eraseIdx n.toNat)) (o := .lst (xs.eraseIdx n.toNat)) (reps_erase _ r2)
        have x' : Ext F α G.length F α (G.set i (.lst (xs.eraseIdx n.toNat))).length := ⟨Same.refl _, fun _ _ => rfl, by simp⟩
        refine ⟨α i, us, n, n.toNat, v, r.2, rfl, e1, by omega, by omega, ?_, ev, h F α _ _ x' R' (rv.mono x')⟩
        unfold PySem.seqIndex?
        have h0 : ¬ n < 0 := by omega
        have h1 : n < (us.length : Int) := by omega
        simp [h0, h1]
      · exact h.elim
    · exact h.elim
  · exact h.elim
theorem mPopAt {o e : Expr} {apos cpos : Pos} {g : FE} {f : FA} (hK : c.K = X.K) (ho : PE X o (tM c Z g)) (ha : PA X [e] (tMA c Z f)) (hbase : attributeBase o "pop" X.env (eval o X.env) = eval o X.env := by rfl)
    (hfew : ((backTo cpos (starEach [e] X.env)).all (fun x => !x.1) && (backToKw cpos (keywordEach [] X.env)).all (fun x => x.1.isSome) && decide ([e].length + ([] : List Keyword).length + (if ([] : List Keyword).isEmpty then 0 else 1) < 30)) = true := by rfl)
    (hline : (apos.endLine == cpos.line) = true := by rfl) (hs : starEach [e] X.env = (false, eval e X.env) :: starEach [] X.env := by rfl) (hplain : (backTo cpos (starEach [] X.env)).any (·.1) = false := by rfl) :
    PE X (.Call (.Attribute o "pop" apos) [e] [] cpos) (tM c Z (eMt rcL wPopAt g f)) := mMt hK.symm rcvL md_popAt PySem.F.plainAttrs_list PySem.F.slot_list_pop PySem.F.type_list_pop mt_popAt ho ha hbase hfew hline hs hplain
/-- isinstance(x, (T1, T2)) -/
def wIsi2 (T1 T2 : String) (w : W) (G : Gd) : R (W × Gd) := match tyW G w with
  | some t => match kitB t T1, kitB t T2 with
    | some b1, some b2 => .ok (.d (.bl (b1 || b2)), G)
    | _, _ => .bad
  | none => .bad
def eIsi2 (T1 T2 : String) (f : FE) : FE := seqF f fun w _ G => wIsi2 T1 T2 w G
theorem mIsi2 {T1 T2 : String} {x1 x2 : Str} {p p1 p2 pt : Pos} {kk : Nat} {e : Expr} {f : FE} (hK : X.K = c.K) (hg : Gl X "isinstance") (hm : X.mg "isinstance" = none) (he : PE X e (tM c Z f)) (hg1 : Gl X x1) (hm1 : X.mg x1 = none) (hg2 : Gl X x2) (hm2 : X.mg x2 = none) (hv1 : bootBuiltins x1 = some (.type T1)) (hv2 : bootBuiltins x2 = some (.type T2))
    (hn1 : x1 ≠ "__name__" := by decide) (hd1 : (x1 == ("__debug__" : Str)) = false := by decide) (hn2 : x2 ≠ "__name__" := by decide) (hd2 : (x2 == ("__debug__" : Str)) = false := by decide)
    (hs : starEach [e, .Tuple [.Name x1 p1, .Name x2 p2] kk pt] X.env = (false, eval e X.env) :: starEach [.Tuple [.Name x1 p1, .Name x2 p2] kk pt] X.env := by rfl)
    (hs2 : starEach [.Tuple [.Name x1 p1, .Name x2 p2] kk pt] X.env = (false, eval (.Tuple [.Name x1 p1, .Name x2 p2] kk pt) X.env) :: starEach [] X.env := by rfl)
    (hs3 : starEach [.Name x1 p1, .Name x2 p2] X.env = (false, eval (.Name x1 p1) X.env) :: starEach [.Name x2 p2] X.env := by rfl) (hs4 : starEach [.Name x2 p2] X.env = (false, eval (.Name x2 p2) X.env) :: starEach [] X.env := by rfl)
    (hpl : (backTo pos (starEach [.Tuple [.Name x1 p1, .Name x2 p2] kk pt] X.env)).any (·.1) = false := by rfl) :
    PE X (.Call (.Name "isinstance" p) [e, .Tuple [.Name x1 p1, .Name x2 p2] kk pt] [] pos) (tM c Z (eIsi2 T1 T2 f)) :=
  (pe_callB (call_isiT (X := X)) hg hm (by decide +kernel) (pa_cons he (pa_cons (pe_tup (pa_cons (pe_bltn (v := .ty T1) hg1 hm1 hv1 rfl hn1 hd1) (pa_cons (pe_bltn (v := .ty T2) hg2 hm2 hv2 rfl hn2 hd2) pa_nil hs4) hs3)) pa_nil hs2) hs) (by decide) (by decide) hs hpl).imp fun σ H Q h => by
    show tM c Z f σ H _
    refine (tG.seq (rep := RepW) h).imp fun v H1 ⟨F1, α1, G1, s, w, A1, r1, h1⟩ => ?_
    unfold wIsi2 at h1
    split at h1
    · rename_i t e1
      split at h1
      · rename_i b1 b2 e2 e3
        refine ⟨by show 2 ≤ sizeLine; decide, fun q hq => ?_⟩
        have R2 := A1.rel.skip hq (.tup [V.ty T1, V.ty T2])
        refine ⟨v, q, [.ty T1, .ty T2], .type t, [.type T1, .type T2], b1 || b2, rfl, upd_same, .cons (.ty T1) (.cons (.ty T2) .nil), by rw [hK]; exact tyW_rep R2 r1 e1, ?_, h1 F1 α1 _ _ Ext.refl R2 (RepD.bl _)⟩
        refine kitAny_cons (kit_ty e2) (fun hb => ?_) (fun hb => by rw [hb]; rfl)
        subst hb
        refine kitAny_cons (kit_ty e3) (fun hb => ?_) (fun hb => by rw [hb]; rfl)
        subst hb
        rfl
      · exact h1.elim
    · exact h1.elim
end
/-! ### defs with one default -/
def DefD (K : PySem.W.Frag) (mg : Str → Option Value) (x : Str) (st : Stmt) (ps : List Str) (dv : V) (kn : Str) : Prop :=
  ∃ f fd, FunD K x x (defArgs st) (defBody st) (defScope st) [dv] [] f fd ∧ mg x = some (.ref f) ∧ Binds K fd ps [] ∧ (∃ ds, Vals [dv] ds ∧ Binds K fd ps ds) ∧ KBn K fd ps (ps.length - 1) [kn] (fun us ws => us ++ ws) (fun vs zs => vs ++ zs)
/-- a def with one default that keeps a promise -/
def FnMD (P : Program) (w : World) (K : PySem.W.Frag) (mg : Str → Option Value) (base : Heap) (k : Nat) (x : Str) (ps : List Str) (dv : V) (kn : Str) (sp : Sp) : Prop :=
  ∃ f fd, mg x = some (.ref f) ∧ PySem.W.keepIn K (.ref f) = true ∧ Binds K fd ps [] ∧ FnOk P w K mg base (L2.CX P w) k f fd ps sp ∧ (∃ ds, Vals [dv] ds ∧ Binds K fd ps ds) ∧ KBn K fd ps (ps.length - 1) [kn] (fun us ws => us ++ ws) (fun vs zs => vs ++ zs)
theorem FnMD.all {P : Program} {w : World} {K : PySem.W.Frag} {mg : Str → Option Value} {base : Heap} {k : Nat} {x : Str} {ps : List Str} {dv : V} {kn : Str} {sp : Sp} (h : FnMD P w K mg base k x ps dv kn sp) : FnM P w K mg base k x ps sp :=
  let ⟨f, fd, a, b, c, d, _⟩ := h; ⟨f, fd, a, b, c, d⟩
section
variable {P : Program} {w : World} {K : PySem.W.Frag} {mg : Str → Option Value} {base : Heap} {cl : ClsAt}
theorem fn_pureD {x : Str} {st : Stmt} {N ps : List Str} {k : Nat} {b : FS} {dv : V} {kn : Str} (T : DefD K mg x st ps dv kn) (S : FnScope N ps (defScope st)) (hb : BodyOk P w K mg base cl N x st k b) : FnMD P w K mg base (k + 1) x ps dv kn (spP K cl ps.length (fnD ps.length N.length b)) := by
  obtain ⟨f, fd, F, hg, hB, hD, hk⟩ := T
  refine ⟨f, fd, hg, F.kp, hB, ?_, hD, hk⟩
  refine FunD.ok F S (fun vs H Q E h => h.1) fun cdv A outer s H vs Q E hr h => ?_
  obtain ⟨hl, Fz, ds, hf, rd, h⟩ := h
  have body := hb f cdv A outer s H E hr ⟨K, cl, H, Fz⟩ rfl rfl
  refine ⟨_, body, Fz, fun _ => 0, [], slots N.length (ds.map W.d), ⟨⟨Same.refl _, hf, Same.refl _, fun _ _ => rfl, fun i o e => by simp at e, fun i ds e => by simp at e, fun i j oi oj e => by simp at e, fun i qs e => by simp at e⟩, reps_start (RepDs.ws rd)⟩, ?_⟩
  unfold fnD at h
  rw [if_pos (by rw [← RepDs.length rd]; exact hl)] at h
  cases e : b (slots N.length (ds.map W.d)) [] with
  | bad => rw [e] at h; exact h.elim
  | exc x s' G' => rw [e] at h; exact fun F' α' H' σ' cls d x1 R1 S1 r1 => h F' H' cls d R1.bh R1.fh R1.f0 R1.fb r1
  | ok p =>
    obtain ⟨q, G'⟩ := p
    rw [e] at h
    cases q with
    | nx s' => exact fun F' α' H' σ' x1 A1 => h F' H' .non A1.rel.bh A1.rel.fh A1.rel.f0 A1.rel.fb .non
    | bk s' => exact h.elim
    | ct s' => exact h.elim
    | rt u =>
      cases u with
      | ref i => exact h.elim
      | d y => exact fun F' α' H' v x1 R1 r1 => h F' H' v R1.bh R1.fh R1.f0 R1.fb r1
theorem fn_heapD {x : Str} {st : Stmt} {N ps : List Str} {k : Nat} {b : FS} {dv : V} {kn : Str} (T : DefD K mg x st ps dv kn) (S : FnScope N ps (defScope st)) (hb : BodyOk P w K mg base cl N x st k b) : FnMD P w K mg base (k + 1) x ps dv kn (spH K cl ps.length (fnH ps.length N.length b)) := by
  obtain ⟨f, fd, F, hg, hB, hD, hk⟩ := T
  refine ⟨f, fd, hg, F.kp, hB, FunD.ok F S (fun vs H Q E h => h.1) fun cdv A outer s H vs Q E hr h => ?_, hD, hk⟩
  obtain ⟨hl, c, Fz, α, G, ws, hK, hcl, R, rw_, h⟩ := h
  have body := hb f cdv A outer s H E hr c hK hcl
  have rw' : RepWs c.K Fz α G.length vs ws := by rw [hK]; exact rw_
  refine ⟨_, body, Fz, α, G, slots N.length ws, ⟨R, reps_start rw'⟩, ?_⟩
  unfold fnH at h
  rw [if_pos (by rw [← rw_.length]; exact hl)] at h
  cases e : b (slots N.length ws) G with
  | bad => rw [e] at h; exact h.elim
  | exc x s' G' => rw [e] at h; exact fun F' α' H' σ' cls d x1 R1 S1 r1 => h F' α' H' cls d x1 R1 r1
  | ok p =>
    obtain ⟨q, G'⟩ := p
    rw [e] at h
    cases q with
    | nx s' => exact fun F' α' H' σ' x1 A1 => h F' α' H' .non x1 A1.rel .non
    | bk s' => exact h.elim
    | ct s' => exact h.elim
    | rt u => exact fun F' α' H' v x1 R1 r1 => h F' α' H' v x1 R1 (by rw [← hK]; exact r1)
end
section
variable {X : Cx} {c : RC} {Z : WX} {pos : Pos}
/-- the default's value behind the arguments -/
def aDef (d : D) (f : FA) : FA := seqF f fun ws _ G => .ok (ws ++ [.d d], G)
theorem def_args {fa : FA} {d : D} {v : V} (hv : ∀ K F, RepD K F v d) {σ : St} {H : Hp} {Q : List V → Hp → Prop} (h : tMA c Z (aDef d fa) σ H Q) : tMA c Z fa σ H fun vs H1 => Q (vs ++ [v]) H1 :=
  (tG.seq (rep := RepWs) h).imp fun vs H1 ⟨F1, α1, G1, s, ws, A1, r1, h1⟩ => h1 F1 α1 H1 _ Ext.refl A1.rel (r1.append (.cons (show RepW c.K F1 α1 G1.length v (.d d) from hv _ _) .nil))
/-- f(e, ..), the last parameter by its default -/
theorem mCallD {K : PySem.W.Frag} {cl : ClsAt} {k : Nat} {x : Str} {ps : List Str} {n : Nat} {f : List D → R D} {fa : FA} {e : Expr} {es : List Expr} {p : Pos} {dv : V} {kn : Str} {d : D} (T : FnMD X.prog X.w X.K X.mg X.base k x ps dv kn (spP K cl n f)) (hv : ∀ K F, RepD K F dv d) (hK : c.K = K) (hcl : c.cl = cl) (hr : Room k X.A) (hg : Gl X x) (tk : Takes X Z)
    (ha : PA X (e :: es) (tMA c Z fa)) (hdb : (x == ("__debug__" : Str)) = false := by decide) (he : starEach (e :: es) X.env = (false, eval e X.env) :: starEach es X.env := by rfl) (hpl : (backTo pos (starEach es X.env)).any (·.1) = false := by rfl) :
    PE X (.Call (.Name x p) (e :: es) [] pos) (tM c Z (eCall n f (aDef d fa))) := by
  obtain ⟨fA, fd, h1, h2, _, h4, ⟨ds, h5, h6⟩, _⟩ := T
  exact (pe_callSD h4 hr hg h1 h2 h6 h5 (fun σ => passAt tk σ) ha hdb he hpl).imp fun σ H Q h => def_args hv (call_ok hK hcl σ H Q h)
theorem mCallHD {K : PySem.W.Frag} {cl : ClsAt} {k : Nat} {x : Str} {ps : List Str} {n : Nat} {f : List W → Gd → R (W × Gd)} {fa : FA} {e : Expr} {es : List Expr} {p : Pos} {dv : V} {kn : Str} {d : D} (T : FnMD X.prog X.w X.K X.mg X.base k x ps dv kn (spH K cl n f)) (hv : ∀ K F, RepD K F dv d) (hK : c.K = K) (hcl : c.cl = cl) (hr : Room k X.A) (hg : Gl X x) (tk : Takes X Z)
    (ha : PA X (e :: es) (tMA c Z fa)) (hdb : (x == ("__debug__" : Str)) = false := by decide) (he : starEach (e :: es) X.env = (false, eval e X.env) :: starEach es X.env := by rfl) (hpl : (backTo pos (starEach es X.env)).any (·.1) = false := by rfl) :
    PE X (.Call (.Name x p) (e :: es) [] pos) (tM c Z (eCallH n f (aDef d fa))) := by
  obtain ⟨fA, fd, h1, h2, _, h4, ⟨ds, h5, h6⟩, _⟩ := T
  exact (pe_callSD h4 hr hg h1 h2 h6 h5 (fun σ => passAt tk σ) ha hdb he hpl).imp fun σ H Q h => def_args hv (callH_ok hK hcl σ H Q h)
theorem run_fnNS {k n : Nat} {f : Addr} {fd : FuncData} {ps ks : List Str} {sp : Sp} {E : St → XK} {g : List Value → List Value → List Value} {gV : List V → List V → List V} {pins : List (Addr × Obj)} {σ : St} {H : Hp} {s : Shared} {Q : VK} {us ws : List Value} {vs zs : List V} (F : FnOk X.prog X.w X.K X.mg X.base (L2.CX X.prog X.w) k f fd ps sp) (hr : Room k X.A) (hb : KBn X.K fd ps n ks g gV) (hx : PassesAt (L2.CX X.prog X.w) X σ (E σ))
    (I : Inv X pins σ H s) (r : Vals vs us) (rz : Vals zs ws) (l1 : vs.length = n) (l2 : zs.length = ks.length) (h : sp (gV vs zs) H Q (E σ)) : wpAny (model X.prog X.w) X.A (call (.ref f) us (ks.zip ws)) (EP X pins σ Q) X.xe s := by
  have r2 := hb.rel r rz
  refine wpAny_call (codeAny_mono (F.run X.A X.stack s H ⟨us, ks.zip ws⟩ (g us ws) (gV vs zs) Q (E σ) hr I.env0 (hb.to s us ws I.kIn (r.length.symm.trans l1) (rz.length.symm.trans l2)) r2 h) fun r s' hq => ?_)
  cases r with
  | error e => exact hx pins H s e s' I hq
  | ok fl =>
    cases fl with
    | ret u => exact I.after hq
    | next => exact False.elim hq
    | brk => exact False.elim hq
    | cont => exact False.elim hq
def tCallNS (n m : Nat) (sp : Sp) (gV : List V → List V → List V) (E : St → XK) (t tk : TA) : TE := fun σ H Q => t σ H fun vs H1 => tk σ H1 fun zs H2 => vs.length = n ∧ zs.length = m ∧ sp (gV vs zs) H2 Q (E σ)
theorem pe_callNS {k n : Nat} {f : Addr} {fd : FuncData} {ps ks : List Str} {sp : Sp} {E : St → XK} {g : List Value → List Value → List Value} {gV : List V → List V → List V} {x : Str} {p : Pos} {e : Expr} {es : List Expr} {kws : List Keyword} {t tk : TA} (F : FnOk X.prog X.w X.K X.mg X.base (L2.CX X.prog X.w) k f fd ps sp) (hr : Room k X.A) (hg : Gl X x) (hm : X.mg x = some (.ref f)) (hk : PySem.W.keepIn X.K (.ref f) = true) (hb : KBn X.K fd ps n ks g gV) (hx : ∀ σ, PassesAt (L2.CX X.prog X.w) X σ (E σ))
    (ha : PA X (e :: es) t) (hkw : PK X kws tk) (hall : (backToKw pos (keywordEach kws X.env)).all (·.1.isSome) = true := by rfl) (hks : (backToKw pos (keywordEach kws X.env)).filterMap (·.1) = ks := by rfl)
    (hdb : (x == ("__debug__" : Str)) = false := by decide) (he : starEach (e :: es) X.env = (false, eval e X.env) :: starEach es X.env := by rfl)
    (hpl : ((backTo pos (starEach (e :: es) X.env)).any (·.1) || (backToKw pos (keywordEach kws X.env)).any (·.1.isNone)) = false := by rfl) :
    PE X (.Call (.Name x p) (e :: es) kws pos) (tCallNS n ks.length sp gV E t tk) := by
  refine ⟨fun pins s σ H Q I h => ?_⟩
  refine wpAny_Call_Name_kw (ld_glob I hg hm ?_ hdb)
  refine PySem.W.callWith_KW (h₀ := X.base) I.ok.mod.kin hk hall (thn (ha.run pos pins s σ H _ I h) fun us s1 ⟨vs, H1, I1, r, q⟩ => ?_) hpl he
  refine thn (hkw.run pos pins s1 σ H1 _ I1 q) fun ws s2 ⟨zs, H2, I2, rz, l1, l2, q2⟩ => ⟨I2.kIn, ?_⟩
  rw [hks]
  exact run_fnNS F hr hb (hx σ) I2 r rz l1 l2 q2
/-- positional arguments, then one by keyword -/
def aKw (n : Nat) (f : FA) (e : FE) : FA := seqF f fun ws => seqF e fun w _ G => if ws.length = n then .ok (ws ++ [w], G) else .bad
theorem kw_args {n : Nat} {fa : FA} {fe : FE} {te : TE} {sp : List V → Hp → Prop} {σ : St} {H : Hp} (hte : ∀ σ H Q, tM c Z fe σ H Q → te σ H Q) (h : tMA c Z (aKw n fa fe) σ H sp) : tMA c Z fa σ H fun vs H1 => tCons te tNil σ H1 fun zs H2 => vs.length = n ∧ zs.length = 1 ∧ sp (vs ++ zs) H2 := by
  refine (tG.seq (rep := RepWs) h).imp fun vs H1 ⟨F1, α1, G1, s, ws, A1, r1, h1⟩ => ?_
  refine hte _ _ _ ?_
  refine ⟨F1, α1, G1, s, A1, ?_⟩
  unfold seqF at h1
  cases e2 : fe s G1 with
  | bad => rw [e2] at h1; exact h1
  | exc x s' G' => rw [e2] at h1; exact h1
  | ok p =>
    rw [e2] at h1
    dsimp only [R.bind] at h1
    intro F2 α2 H2 v x2 R2 r2
    split at h1
    · rename_i hn
      refine ⟨by rw [r1.length]; exact hn, rfl, h1 F2 α2 H2 _ x2 R2 ((r1.mono x2).append (.cons r2 .nil))⟩
    · exact h1.elim
theorem mCallK {K : PySem.W.Frag} {cl : ClsAt} {k : Nat} {x : Str} {ps : List Str} {n : Nat} {f : List D → R D} {fa : FA} {fe : FE} {e ek : Expr} {es : List Expr} {p kpos : Pos} {dv : V} {kn : Str} (T : FnMD X.prog X.w X.K X.mg X.base k x ps dv kn (spP K cl n f)) (hK : c.K = K) (hcl : c.cl = cl) (hr : Room k X.A) (hg : Gl X x) (tk : Takes X Z)
    (ha : PA X (e :: es) (tMA c Z fa)) (hek : PE X ek (tM c Z fe)) (hall : (backToKw pos (keywordEach [⟨some kn, ek, kpos⟩] X.env)).all (·.1.isSome) = true := by rfl) (hks : (backToKw pos (keywordEach [⟨some kn, ek, kpos⟩] X.env)).filterMap (·.1) = [kn] := by rfl)
    (hdb : (x == ("__debug__" : Str)) = false := by decide) (he : starEach (e :: es) X.env = (false, eval e X.env) :: starEach es X.env := by rfl)
    (hpl : ((backTo pos (starEach (e :: es) X.env)).any (·.1) || (backToKw pos (keywordEach [⟨some kn, ek, kpos⟩] X.env)).any (·.1.isNone)) = false := by rfl) :
    PE X (.Call (.Name x p) (e :: es) [⟨some kn, ek, kpos⟩] pos) (tM c Z (eCall n f (aKw (ps.length - 1) fa fe))) := by
  obtain ⟨fA, fd, h1, h2, _, h4, _, hb⟩ := T
  exact (pe_callNS h4 hr hg h1 h2 hb (fun σ => passAt tk σ) ha (pk_cons hek pk_nil) hall hks hdb he hpl).imp fun σ H Q h => kw_args (fun _ _ _ h => h) (call_ok hK hcl σ H Q h)
theorem mCallHK {K : PySem.W.Frag} {cl : ClsAt} {k : Nat} {x : Str} {ps : List Str} {n : Nat} {f : List W → Gd → R (W × Gd)} {fa : FA} {fe : FE} {e ek : Expr} {es : List Expr} {p kpos : Pos} {dv : V} {kn : Str} (T : FnMD X.prog X.w X.K X.mg X.base k x ps dv kn (spH K cl n f)) (hK : c.K = K) (hcl : c.cl = cl) (hr : Room k X.A) (hg : Gl X x) (tk : Takes X Z)
    (ha : PA X (e :: es) (tMA c Z fa)) (hek : PE X ek (tM c Z fe)) (hall : (backToKw pos (keywordEach [⟨some kn, ek, kpos⟩] X.env)).all (·.1.isSome) = true := by rfl) (hks : (backToKw pos (keywordEach [⟨some kn, ek, kpos⟩] X.env)).filterMap (·.1) = [kn] := by rfl)
    (hdb : (x == ("__debug__" : Str)) = false := by decide) (he : starEach (e :: es) X.env = (false, eval e X.env) :: starEach es X.env := by rfl)
    (hpl : ((backTo pos (starEach (e :: es) X.env)).any (·.1) || (backToKw pos (keywordEach [⟨some kn, ek, kpos⟩] X.env)).any (·.1.isNone)) = false := by rfl) :
    PE X (.Call (.Name x p) (e :: es) [⟨some kn, ek, kpos⟩] pos) (tM c Z (eCallH n f (aKw (ps.length - 1) fa fe))) := by
  obtain ⟨fA, fd, h1, h2, _, h4, _, hb⟩ := T
  exact (pe_callNS h4 hr hg h1 h2 hb (fun σ => passAt tk σ) ha (pk_cons hek pk_nil) hall hks hdb he hpl).imp fun σ H Q h => kw_args (fun _ _ _ h => h) (callH_ok hK hcl σ H Q h)
end
/-- the facts of a def with one default -/
theorem defD_mk {K : PySem.W.Frag} {mg : Str → Option Value} {h : Heap} {x : Str} {st : Stmt} {ps : List Str} {kn : Str} {i : Int} {f T : Addr} {oc : Value} {od an : Option Addr} {sl : Array (Option Value)} {kV dc pm cd ct u : Value} {o : Obj} {n : Nat} (X : K.In h) (G : h.Ns mainGlobals mg)
    (a : PySem.W.nsIn K mainGlobals x = some (some (.ref f))) (l : K.lookup f = some ⟨oc, od, .func (PySem.W.fnOf x x (defArgs st) (defBody st) (defScope st) (.ref T) kV dc pm an cd ct), sl⟩) (q : PySem.W.codeIn K cd x = true) (k : PySem.W.keepIn K (.ref f) = true)
    (lT : K.lookup T = some o) (oT : o.data = .seq #[u] n) (ru : RelV (.int i) u)
    (b0 : ∀ (kV doc pm : Value) (an : Option Addr) (cdv ct : Value) (us its : List Value), us.length = ps.length → its.length = 1 →
      ∃ k, bindArgs (PySem.W.fnOf x x (defArgs st) (defBody st) (defScope st) (.ref T) kV doc pm an cdv ct) ⟨us, []⟩ = seqItems? (.ref T) >>= k ∧ k (some its.toArray) = pure (ps.zip us))
    (b1 : ∀ (kV doc pm : Value) (an : Option Addr) (cdv ct : Value) (us its : List Value), us.length = ps.length - 1 → its.length = 1 →
      ∃ k, bindArgs (PySem.W.fnOf x x (defArgs st) (defBody st) (defScope st) (.ref T) kV doc pm an cdv ct) ⟨us, []⟩ = seqItems? (.ref T) >>= k ∧ k (some its.toArray) = pure (ps.zip (us ++ its)))
    (b2 : ∀ (kV doc pm : Value) (an : Option Addr) (cdv ct : Value) (us its ws : List Value), us.length = ps.length - 1 → its.length = 1 → ws.length = 1 →
      ∃ k, bindArgs (PySem.W.fnOf x x (defArgs st) (defBody st) (defScope st) (.ref T) kV doc pm an cdv ct) ⟨us, [kn].zip ws⟩ = seqItems? (.ref T) >>= k ∧ k (some its.toArray) = pure (ps.zip (us ++ ws)))
    (hps : ps.length - 1 + 1 = ps.length) : DefD K mg x st ps (.int i) kn := by
  have F : FunD K x x (defArgs st) (defBody st) (defScope st) [.int i] [] f (PySem.W.fnOf x x (defArgs st) (defBody st) (defScope st) (.ref T) kV dc pm an cd ct) :=
    ⟨⟨oc, od, .ref T, kV, dc, pm, an, cd, ct, sl, rfl, l, q, .inr ⟨by simp, T, o, [u], n, rfl, lT, oT, .cons ru .nil⟩, .inl rfl⟩, k⟩
  have lk : ∀ (us ws its : List Value) (args : Args) (s : Shared) (r : List (Str × Value)), K.In s.heap → its = [u] → (∃ k, bindArgs (PySem.W.fnOf x x (defArgs st) (defBody st) (defScope st) (.ref T) kV dc pm an cd ct) args = seqItems? (.ref T) >>= k ∧ k (some its.toArray) = pure r) → BindsTo s (PySem.W.fnOf x x (defArgs st) (defBody st) (defScope st) (.ref T) kV dc pm an cd ct) args r := by
    intro us ws its args s r X e ⟨k, e1, e2⟩
    subst e
    refine BindsTo.of_looks fun M => ?_
    rw [e1]
    exact looks_items X lT oT (.of_pure e2)
  refine ⟨f, _, F, PySem.W.mg_of X G a, fun s us X hl => lk us [] [u] _ s _ X rfl ?_, ⟨[u], .cons ru .nil, fun s us X hl => lk us [] [u] _ s _ X rfl ?_⟩, ⟨fun s us ws X h1 h2 => lk us ws [u] _ s _ X rfl (b2 kV dc pm an cd ct us [u] ws h1 rfl h2), fun r1 r2 => r1.append r2⟩⟩
  · rw [List.append_nil] at hl ⊢
    exact b0 kV dc pm an cd ct us [u] hl rfl
  · refine b1 kV dc pm an cd ct us [u] ?_ rfl
    rw [List.length_append, List.length_singleton] at hl
    omega
end M

set_option maxRecDepth 100000
set_option maxHeartbeats 4000000
namespace M
open PySem PySem.Spec PyProof.Rows L2
/-! ### classes of one's own, their things -/
/-- a field put -/
def putFW (f : Str) (v : W) : List (Str × W) → List (Str × W)
  | [] => [(f, v)]
  | (g, x) :: r => if g = f then (g, v) :: r else (g, x) :: putFW f v r
theorem RepFs.put {K : PySem.W.Frag} {F : Hp} {α : Nat → Addr} {n : Nat} {f : Str} {v : V} {w : W} (r : RepW K F α n v w) : ∀ {fs : List (Str × V)} {gs : List (Str × W)}, RepFs K F α n fs gs → RepFs K F α n (putF f v fs) (putFW f w gs)
  | _, _, .nil => .cons ⟨rfl, r⟩ .nil
  | (g, x) :: fs, (g', x') :: gs, .cons ⟨e, q⟩ t => by
    have e' : g = g' := e
    subst e'
    show RepFs K F α n (if g = f then (g, v) :: fs else (g, x) :: putF f v fs) (if g = f then (g, w) :: gs else (g, x') :: putFW f w gs)
    by_cases h : g = f
    · rw [if_pos h, if_pos h]; exact .cons ⟨rfl, r⟩ t
    · rw [if_neg h, if_neg h]; exact .cons ⟨rfl, q⟩ (RepFs.put r t)
theorem RepFs.look {K : PySem.W.Frag} {F : Hp} {α : Nat → Addr} {n : Nat} {f : Str} {w : W} : ∀ {fs : List (Str × V)} {gs : List (Str × W)}, RepFs K F α n fs gs → gs.lookup f = some w → ∃ v, fs.lookup f = some v ∧ RepW K F α n v w
  | _, _, .nil, h => by simp at h
  | (g, x) :: fs, (g', x') :: gs, .cons ⟨e, q⟩ t, h => by
    have e' : g = g' := e
    subst e'
    by_cases hg : f = g
    · subst hg
      simp at h
      subst h
      exact ⟨x, by simp, q⟩
    · have hb : (f == g) = false := beq_eq_false_iff_ne.mpr hg
      simp only [List.lookup, hb] at h ⊢
      exact RepFs.look t h
theorem RepFs.none {K : PySem.W.Frag} {F : Hp} {α : Nat → Addr} {n : Nat} {f : Str} : ∀ {fs : List (Str × V)} {gs : List (Str × W)}, RepFs K F α n fs gs → gs.lookup f = none → fs.lookup f = none
  | _, _, .nil, _ => rfl
  | (g, x) :: fs, (g', x') :: gs, .cons ⟨e, q⟩ t, h => by
    have e' : g = g' := e
    subst e'
    by_cases hg : f = g
    · subst hg; simp at h
    · have hb : (f == g) = false := beq_eq_false_iff_ne.mpr hg
      simp only [List.lookup, hb] at h ⊢
      exact RepFs.none t h
theorem RepFs.len {K : PySem.W.Frag} {F : Hp} {α : Nat → Addr} {n : Nat} {fs : List (Str × V)} {gs : List (Str × W)} (h : RepFs K F α n fs gs) : fs.length = gs.length := Paired.length h
theorem Rel.insAt {c : RC} {F H : Hp} {α : Nat → Addr} {G : Gd} (R : Rel c F α G H) {i : Nat} {cn : Str} {gs : List (Str × W)} (h : G[i]? = some (.ins cn gs)) : ∃ C dx fs, c.cl cn = some C ∧ H (α i) = some (.ins C dx fs) ∧ RepFs c.K F α G.length fs gs := by
  obtain ⟨⟨ho, e, r⟩, _⟩ := R.ob i _ h trivial
  cases ho with
  | ins C dx fs => exact ⟨C, dx, fs, r.1, e, r.2⟩
  | _ => exact r.elim
/-- what is known of a class by its name -/
def ClsT (K : PySem.W.Frag) (mg : Str → Option Value) (cn : Str) : Prop := ∃ C, mg cn = some (.ref C) ∧ Cls K C
def NoA (K : PySem.W.Frag) (mg : Str → Option Value) (cn f : Str) : Prop := ∃ C, mg cn = some (.ref C) ∧ Cls K C ∧ NoAttr K C f
theorem NoA.at_ {K : PySem.W.Frag} {mg : Str → Option Value} {cn f : Str} {C : Addr} (h : NoA K mg cn f) (e : clOf mg cn = some C) : Cls K C ∧ NoAttr K C f := by
  obtain ⟨C', h1, h2, h3⟩ := h
  simp only [clOf, h1, Option.some.injEq] at e
  subst e
  exact ⟨h2, h3⟩
section
variable {X : Cx} {c : RC} {Z : WX} {pos : Pos}
/-- o.f -/
def wFld (cn f : Str) (w : W) (G : Gd) : R (W × Gd) := match w with
  | .ref i => match G[i]? with
    | some (.ins c' fs) => if c' = cn then match fs.lookup f with
      | some v => .ok (v, G)
      | none => .bad else .bad
    | _ => .bad
  | _ => .bad
def eFld (cn f : Str) (e : FE) : FE := seqF e fun w _ G => wFld cn f w G
theorem mFld {cn f : Str} {e : Expr} {g : FE} (T : NoA X.K X.mg cn f) (hK : c.K = X.K) (hcl : c.cl = clOf X.mg) (he : PE X e (tM c Z g)) (hb : attributeBase e f X.env (eval e X.env) = eval e X.env := by rfl) : PE X (.Attribute e f pos) (tM c Z (eFld cn f g)) :=
  (pe_fld he hb).imp fun σ H Q h => (tG.seq (rep := RepW) h).imp fun v H1 ⟨F1, α1, G1, s, w, A1, r1, h1⟩ => by
    unfold wFld at h1
    split at h1
    · rename_i i
      split at h1
      · rename_i c' gs eg
        split at h1
        · rename_i hc
          subst hc
          split at h1
          · rename_i u eu
            obtain ⟨C, dx, fs, k1, k2, k3⟩ := A1.rel.insAt eg
            rw [hcl] at k1
            obtain ⟨q1, q2⟩ := T.at_ k1
            obtain ⟨x, l1, l2⟩ := k3.look eu
            exact ⟨α1 i, C, dx, fs, x, r1.2, k2, q1, q2, l1, Fin.ret (rep := RepW) h1 A1 l2⟩
          · exact h1.elim
        · exact h1.elim
      · exact h1.elim
    · exact h1.elim
/-- o.f = e -/
def sFldSet (cn f : Str) (fo fe : FE) : FS := seqS fe fun v => seqS fo fun o s G => match o with
  | .ref i => match G[i]? with
    | some (.ins c' fs) => if c' = cn ∧ fs.length < 1000 then .ok (.nx s, G.set i (.ins cn (putFW f v fs))) else .bad
    | _ => .bad
  | _ => .bad
theorem mFldSet {cn f : Str} {o e : Expr} {fo fe : FE} {pos' : Pos} (T : NoA X.K X.mg cn f) (hK : c.K = X.K) (hcl : c.cl = clOf X.mg) (ho : PE X o (tM c Z fo)) (he : PE X e (tM c Z fe)) (hs : swapsWith e (some (.Attribute o f pos')) pos.line X.env = pure false := by rfl) :
    PS X (.Assign [.Attribute o f pos'] e pos) (tMS c Z (sFldSet cn f fo fe)) :=
  (ps_fld ho he hs).imp fun E σ H h => by
    refine (tG.seqS (rep := RepW) h).imp fun v H1 ⟨F1, α1, G1, s, w, A1, r1, h1⟩ => ?_
    have h1' : tMS c Z (seqS fo fun o s G => match o with
      | .ref i => match G[i]? with
        | some (.ins c' fs) => if c' = cn ∧ fs.length < 1000 then .ok (.nx s, G.set i (.ins cn (putFW f w fs))) else .bad
        | _ => .bad
      | _ => .bad) E σ H1 := ⟨F1, α1, G1, s, A1, h1⟩
    -- the object behind the value
    refine ⟨F1, α1, G1, s, A1, ?_⟩
    unfold seqS at h1
    cases eo : fo s G1 with
    | bad => rw [eo] at h1; exact h1.elim
    | exc x s' G' => rw [eo] at h1; exact h1
    | ok p =>
      obtain ⟨wo, G2⟩ := p
      rw [eo] at h1
      dsimp only [R.bind] at h1
      intro F2 α2 H2 x x2 R2 r2
      have h2 := FinS.mono x2 h1
      cases wo with
      | d y => exact h2.elim
      | ref i =>
        dsimp only at h2
        split at h2
        · rename_i c' gs eg
          split at h2
          · rename_i hc
            obtain ⟨hc, hl⟩ := hc
            subst hc
            obtain ⟨C, dx, fs, k1, k2, k3⟩ := R2.insAt eg
            have k1' := k1
            rw [hcl] at k1
            obtain ⟨q1, q2⟩ := T.at_ k1
            have R' := R2.set eg trivial (ho := .ins C dx (putF f v fs)) (o := .ins c' (putFW f w gs)) ⟨k1', k3.put (r1.mono x2)⟩
            have x' : Ext F2 α2 G2.length F2 α2 (G2.set i (.ins c' (putFW f w gs))).length := ⟨Same.refl _, fun _ _ => rfl, by simp⟩
            exact ⟨α2 i, C, dx, fs, r2.2, k2, q1, q2, by rw [k3.len]; exact hl, h2 F2 α2 _ σ x' ⟨R', (A1.sl.mono x2).mono x'⟩⟩
          · exact h2.elim
        · exact h2.elim
/-! methods -/
/-- a method where it stands -/
def MethAt (K : PySem.W.Frag) (mg : Str → Option Value) (cn m qual : Str) (st : Stmt) (ps : List Str) : Prop :=
  ∃ C f fd, Fun K m qual st f fd ∧ mg cn = some (.ref C) ∧ Cls K C ∧ Meth K C m f ∧ ∀ us : List Value, us.length = ps.length → bindArgs fd ⟨us, []⟩ = pure (ps.zip us)
def MethM (P : Program) (w : World) (K : PySem.W.Frag) (mg : Str → Option Value) (base : Heap) (k : Nat) (cn m : Str) (ps : List Str) (sp : Sp) : Prop :=
  ∃ C f fd, mg cn = some (.ref C) ∧ Cls K C ∧ Meth K C m f ∧ Binds K fd ps [] ∧ FnOk P w K mg base (L2.CX P w) k f fd ps sp
theorem meth_heap {P : Program} {w : World} {K : PySem.W.Frag} {mg : Str → Option Value} {base : Heap} {cl : ClsAt} {cn m qual : Str} {st : Stmt} {N ps : List Str} {k : Nat} {b : FS} (T : MethAt K mg cn m qual st ps) (S : FnScope N ps (defScope st)) (hb : BodyOk P w K mg base cl N qual st k b) :
    MethM P w K mg base (k + 1) cn m ps (spH K cl ps.length (fnH ps.length N.length b)) := by
  obtain ⟨C, f, fd, F, hg, hC, hm, hB⟩ := T
  refine ⟨C, f, fd, hg, hC, hm, .all hB, F.okX S (fun vs H Q E h => h.1) fun cdv A outer s H vs Q E hr h => ?_⟩
  obtain ⟨hl, c, Fz, α, G, ws, hK, hcl, R, rw_, h⟩ := h
  have body := hb f cdv A outer s H E hr c hK hcl
  have rw' : RepWs c.K Fz α G.length vs ws := by rw [hK]; exact rw_
  refine ⟨_, body, Fz, α, G, slots N.length ws, ⟨R, reps_start rw'⟩, ?_⟩
  unfold fnH at h
  rw [if_pos (by rw [← rw_.length]; exact hl)] at h
  cases e : b (slots N.length ws) G with
  | bad => rw [e] at h; exact h.elim
  | exc x s' G' => rw [e] at h; exact fun F' α' H' σ' cls d x1 R1 S1 r1 => h F' α' H' cls d x1 R1 r1
  | ok p =>
    obtain ⟨q, G'⟩ := p
    rw [e] at h
    cases q with
    | nx s' => exact fun F' α' H' σ' x1 A1 => h F' α' H' .non x1 A1.rel .non
    | bk s' => exact h.elim
    | ct s' => exact h.elim
    | rt u => exact fun F' α' H' v x1 R1 r1 => h F' α' H' v x1 R1 (by rw [← hK]; exact r1)
/-- the receiver: a thing of the class, without a field of the method's name -/
def insOk (G : Gd) (cn m : Str) : W → Bool
  | .ref i => match G[i]? with
    | some (.ins c' fs) => decide (c' = cn) && (fs.lookup m).isNone
    | _ => false
  | _ => false
theorem insOk_at {c : RC} {F H : Hp} {α : Nat → Addr} {G : Gd} {cn m : Str} {v : V} {w : W} (R : Rel c F α G H) (r : RepW c.K F α G.length v w) (h : insOk G cn m w = true) : ∃ a C dx fs, v = .ref a ∧ c.cl cn = some C ∧ H a = some (.ins C dx fs) ∧ fs.lookup m = none := by
  cases w with
  | d x => cases h
  | ref i =>
    simp only [insOk] at h
    split at h
    · rename_i c' gs eg
      rw [Bool.and_eq_true, decide_eq_true_eq] at h
      obtain ⟨rfl, h2⟩ := h
      obtain ⟨C, dx, fs, k1, k2, k3⟩ := R.insAt eg
      exact ⟨α i, C, dx, fs, r.2, k1, k2, k3.none (by simpa using h2)⟩
    · cases h
def eMeth (cn m : Str) (n : Nat) (f : List W → Gd → R (W × Gd)) (fo : FE) (fa : FA) : FE := seqF fo fun o s G => if insOk G cn m o = true then seqF fa (fun ws s G => if ws.length + 1 = n then match f (o :: ws) G with
  | .ok p => .ok p
  | .exc x _ G' => .exc x s G'
  | .bad => .bad else .bad) s G else .bad
def tMethS (C : Addr) (m : Str) (sp : Sp) (E : St → XK) (ta : TE) (t : TA) : TE := fun σ H Q => ta σ H fun x H1 => ∃ a dx fs, x = .ref a ∧ H1 a = some (.ins C dx fs) ∧ fs.lookup m = none ∧ t σ H1 fun vs H2 => sp (x :: vs) H2 Q (E σ)
theorem pe_methM {CX : CXT} {k : Nat} {C f : Addr} {fd : FuncData} {m : Str} {ps : List Str} {sp : Sp} {E : St → XK} {o e : Expr} {es : List Expr} {ta : TE} {t : TA} {apos : Pos} {pl : Sem Bool} (he : PE X o ta) (c : Cls X.K C) (hm : Meth X.K C m f) (F : FnOk X.prog X.w X.K X.mg X.base CX k f fd ps sp) (hr : Room k X.A) (hb : Binds X.K fd ps []) (hx : ∀ σ, PassesAt CX X σ (E σ)) (ha : PA X (e :: es) t)
    (hst : starEach (e :: es) X.env = (false, eval e X.env) :: starEach es X.env := by rfl) (hpl : (backTo pos (starEach es X.env)).any (·.1) = false := by rfl)
    (ht : eval (.Call (.Attribute o m apos) (e :: es) [] pos) X.env = (do
      let ov ← eval o X.env
      standAt apos.atName
      let (f, first) ← holding [ov] (getMethod ov m pl)
      callWith pos f first (backTo pos (starEach (e :: es) X.env)) (backToKw pos (keywordEach [] X.env))) := by rfl) :
    PE X (.Call (.Attribute o m apos) (e :: es) [] pos) (tMethS C m sp E ta t) := by
  refine ⟨fun pins s σ H Q I h => ?_⟩
  refine PySem.W.methodCall_KW (pl := pl) (thn (he.run pins s σ H _ I h) fun u s1 ⟨x, H1, I1, rx, a, dx, fs, ex, ea, l, q⟩ => ?_) ht
  subst ex
  obtain rfl : u = Value.ref a := rx
  refine getmeth_ok I1 ea c hm l ?_
  refine PySem.W.callWith_K (first := [.ref a]) (h₀ := X.base) I.ok.mod.kin hm.kp (thn (ha.run pos pins s1 σ H1 _ I1 q) fun us s2 ⟨vs, H2, I2, r, q2⟩ => ⟨I2.kIn, ?_⟩) hst hpl
  exact run_fnS (us := .ref a :: us) (vs := .ref a :: vs) F hr hb (hx σ) I2 (.cons rfl r) q2
theorem pe_methM0 {CX : CXT} {k : Nat} {C f : Addr} {fd : FuncData} {m : Str} {ps : List Str} {sp : Sp} {E : St → XK} {o : Expr} {ta : TE} {apos : Pos} {pl : Sem Bool} (he : PE X o ta) (c : Cls X.K C) (hm : Meth X.K C m f) (F : FnOk X.prog X.w X.K X.mg X.base CX k f fd ps sp) (hr : Room k X.A) (hb : Binds X.K fd ps []) (hx : ∀ σ, PassesAt CX X σ (E σ))
    (ht : eval (.Call (.Attribute o m apos) [] [] pos) X.env = (do
      let ov ← eval o X.env
      standAt apos.atName
      let (f, first) ← holding [ov] (getMethod ov m pl)
      callWith pos f first (backTo pos (starEach [] X.env)) (backToKw pos (keywordEach [] X.env))) := by rfl) :
    PE X (.Call (.Attribute o m apos) [] [] pos) (tMethS C m sp E ta tNil) := by
  refine ⟨fun pins s σ H Q I h => ?_⟩
  refine PySem.W.methodCall_KW (pl := pl) (thn (he.run pins s σ H _ I h) fun u s1 ⟨x, H1, I1, rx, a, dx, fs, ex, ea, l, q⟩ => ?_) ht
  subst ex
  obtain rfl : u = Value.ref a := rx
  refine getmeth_ok I1 ea c hm l ?_
  exact PySem.W.callWith_K0 (first := [.ref a]) I1.kIn hm.kp (run_fnS (us := [.ref a]) (vs := [.ref a]) F hr hb (hx σ) I1 (.cons rfl .nil) q)
theorem meth_ok {cn m : Str} {C : Addr} {n : Nat} {f : List W → Gd → R (W × Gd)} {fo : FE} {fa : FA} {K : PySem.W.Frag} {cl : ClsAt} (hC : c.cl cn = some C) (hK : c.K = K) (hcl : c.cl = cl) {ta : TE} {t : TA} (hta : ∀ σ H Q, tM c Z fo σ H Q → ta σ H Q) (ht : ∀ σ H Q, tMA c Z fa σ H Q → t σ H Q) (σ : St) (H : Hp) (Q : VK) (h : tM c Z (eMeth cn m n f fo fa) σ H Q) : tMethS C m (spH K cl n f) (WE Z) ta t σ H Q := by
  refine hta _ _ _ ((tG.seq (rep := RepW) h).imp fun v H1 ⟨F1, α1, G1, s, w, A1, r1, h1⟩ => ?_)
  split at h1
  · rename_i hi
    obtain ⟨a, C', dx, fs, rfl, k1, k2, k3⟩ := insOk_at A1.rel r1 hi
    rw [hC] at k1; cases k1
    refine ⟨a, dx, fs, rfl, k2, k3, ht _ _ _ ?_⟩
    refine ⟨F1, α1, G1, s, A1, ?_⟩
    unfold seqF at h1
    cases e : fa s G1 with
    | bad => rw [e] at h1; exact h1
    | exc x s' G' => rw [e] at h1; exact h1
    | ok p =>
      obtain ⟨ws, G2⟩ := p
      rw [e] at h1
      dsimp only [R.bind] at h1
      intro F2 α2 H2 vs x2 R2 r2
      have S2 : RepS c.K F2 α2 G2.length σ s := A1.sl.mono x2
      have h2 := Fin.mono (rep := RepW) x2 h1
      split at h2
      · rename_i hn
        refine ⟨by rw [List.length_cons, r2.length]; exact hn, c, F2, α2, G2, w :: ws, hK, hcl, R2, by rw [← hK]; exact .cons (r1.mono x2) r2, ?_⟩
        cases e3 : f (w :: ws) G2 with
        | bad => rw [e3] at h2; exact h2.elim
        | ok q =>
          rw [e3] at h2
          exact fun F' α' H' v x' R' r => h2 F' α' H' v x' R' (by rw [hK]; exact r)
        | exc x s' G' =>
          rw [e3] at h2
          exact fun F' α' H' cls d x' R' r => h2 F' α' H' σ cls d x' R' (S2.mono x') r
      · exact h2.elim
  · exact h1.elim
theorem mMeth {K : PySem.W.Frag} {k : Nat} {cn m : Str} {ps : List Str} {n : Nat} {f : List W → Gd → R (W × Gd)} {fo : FE} {fa : FA} {o e : Expr} {es : List Expr} {apos : Pos} (T : MethM X.prog X.w X.K X.mg X.base k cn m ps (spH K (clOf X.mg) n f)) (hK : c.K = K) (hcl : c.cl = clOf X.mg) (hr : Room k X.A) (tk : Takes X Z)
    (ho : PE X o (tM c Z fo)) (ha : PA X (e :: es) (tMA c Z fa)) (pl : Sem Bool)
    (hst : starEach (e :: es) X.env = (false, eval e X.env) :: starEach es X.env := by rfl) (hpl : (backTo pos (starEach es X.env)).any (·.1) = false := by rfl)
    (ht : eval (.Call (.Attribute o m apos) (e :: es) [] pos) X.env = (do
      let ov ← eval o X.env
      standAt apos.atName
      let (f, first) ← holding [ov] (getMethod ov m pl)
      callWith pos f first (backTo pos (starEach (e :: es) X.env)) (backToKw pos (keywordEach [] X.env))) := by rfl) :
    PE X (.Call (.Attribute o m apos) (e :: es) [] pos) (tM c Z (eMeth cn m n f fo fa)) := by
  obtain ⟨C, fA, fd, h1, h2, h3, h4, h5⟩ := T
  have hC : c.cl cn = some C := by rw [hcl]; simp only [clOf, h1]
  exact (pe_methM ho h2 h3 h5 hr h4 (fun σ => passAt tk σ) ha hst hpl ht).imp fun σ H Q h => meth_ok hC hK hcl (fun _ _ _ h => h) (fun _ _ _ h => h) σ H Q h
theorem mMethZ {K : PySem.W.Frag} {k : Nat} {cn m : Str} {ps : List Str} {n : Nat} {f : List W → Gd → R (W × Gd)} {fo : FE} {o : Expr} {apos : Pos} (T : MethM X.prog X.w X.K X.mg X.base k cn m ps (spH K (clOf X.mg) n f)) (hK : c.K = K) (hcl : c.cl = clOf X.mg) (hr : Room k X.A) (tk : Takes X Z)
    (ho : PE X o (tM c Z fo)) (pl : Sem Bool)
    (ht : eval (.Call (.Attribute o m apos) [] [] pos) X.env = (do
      let ov ← eval o X.env
      standAt apos.atName
      let (f, first) ← holding [ov] (getMethod ov m pl)
      callWith pos f first (backTo pos (starEach [] X.env)) (backToKw pos (keywordEach [] X.env))) := by rfl) :
    PE X (.Call (.Attribute o m apos) [] [] pos) (tM c Z (eMeth cn m n f fo aNil)) := by
  obtain ⟨C, fA, fd, h1, h2, h3, h4, h5⟩ := T
  have hC : c.cl cn = some C := by rw [hcl]; simp only [clOf, h1]
  exact (pe_methM0 ho h2 h3 h5 hr h4 (fun σ => passAt tk σ) ht).imp fun σ H Q h => meth_ok hC hK hcl (fun _ _ _ h => h) (fun σ H Q ⟨F, α, G, s, A, h⟩ => h F α H [] Ext.refl A.rel .nil) σ H Q h
/-! making -/
/-- a class that can be made, and its __init__ -/
def MakeAt (K : PySem.W.Frag) (mg : Str → Option Value) (cn qual : Str) (st : Stmt) (ps : List Str) : Prop :=
  ∃ C f fd, Fun K "__init__" qual st f fd ∧ mg cn = some (.ref C) ∧ Mk K C f ∧ ∀ us : List Value, us.length = ps.length → bindArgs fd ⟨us, []⟩ = pure (ps.zip us)
def MakeM (P : Program) (w : World) (K : PySem.W.Frag) (mg : Str → Option Value) (base : Heap) (k : Nat) (cn : Str) (ps : List Str) (sp : Sp) : Prop :=
  ∃ C f fd, mg cn = some (.ref C) ∧ Mk K C f ∧ Binds K fd ps [] ∧ FnOk P w K mg base (L2.CX P w) k f fd ps sp
theorem make_heap {P : Program} {w : World} {K : PySem.W.Frag} {mg : Str → Option Value} {base : Heap} {cl : ClsAt} {cn qual : Str} {st : Stmt} {N ps : List Str} {k : Nat} {b : FS} (T : MakeAt K mg cn qual st ps) (S : FnScope N ps (defScope st)) (hb : BodyOk P w K mg base cl N qual st k b) :
    MakeM P w K mg base (k + 1) cn ps (spH K cl ps.length (fnH ps.length N.length b)) := by
  obtain ⟨C, f, fd, F, hg, hm, hB⟩ := T
  refine ⟨C, f, fd, hg, hm, .all hB, F.okX S (fun vs H Q E h => h.1) fun cdv A outer s H vs Q E hr h => ?_⟩
  obtain ⟨hl, c, Fz, α, G, ws, hK, hcl, R, rw_, h⟩ := h
  have body := hb f cdv A outer s H E hr c hK hcl
  have rw' : RepWs c.K Fz α G.length vs ws := by rw [hK]; exact rw_
  refine ⟨_, body, Fz, α, G, slots N.length ws, ⟨R, reps_start rw'⟩, ?_⟩
  unfold fnH at h
  rw [if_pos (by rw [← rw_.length]; exact hl)] at h
  cases e : b (slots N.length ws) G with
  | bad => rw [e] at h; exact h.elim
  | exc x s' G' => rw [e] at h; exact fun F' α' H' σ' cls d x1 R1 S1 r1 => h F' α' H' cls d x1 R1 r1
  | ok p =>
    obtain ⟨q, G'⟩ := p
    rw [e] at h
    cases q with
    | nx s' => exact fun F' α' H' σ' x1 A1 => h F' α' H' .non x1 A1.rel .non
    | bk s' => exact h.elim
    | ct s' => exact h.elim
    | rt u => exact fun F' α' H' v x1 R1 r1 => h F' α' H' v x1 R1 (by rw [← hK]; exact r1)
theorem run_makeS {CX : CXT} {k : Nat} {C f : Addr} {fd : FuncData} {ps : List Str} {sp : Sp} {E : St → XK} {pins : List (Addr × Obj)} {σ : St} {H : Hp} {s : Shared} {Q : VK} {us : List Value} {vs : List V} (hM : Mk X.K C f) (F : FnOk X.prog X.w X.K X.mg X.base CX k f fd ps sp) (hr : Room (k + 1) X.A) (hb : Binds X.K fd ps [])
    (hx : ∀ σ, PassesAt CX X σ (E σ)) (I : Inv X pins σ H s) (r : Vals vs us)
    (h : ∀ x dx, H x = none → H dx = none → dx ≠ x → sp (.ref x :: vs) (upd (upd H dx (.own x)) x (.ins C dx [])) (fun v H2 => v = .non ∧ Q (.ref x) H2) (E σ)) :
    wpAny (model X.prog X.w) X.A (call (.ref C) us) (EP X pins σ Q) X.xe s := by
  have hq := h (s.heap.objs.size + 1) s.heap.objs.size (I.hok.fresh (Nat.le_succ _)) (I.hok.fresh (Nat.le_refl _)) (Nat.ne_of_lt (Nat.lt_succ_self _))
  have I2 := Inv.made (C := C) I
  have r2 : Vals (V.ref (s.heap.objs.size + 1) :: vs) (Value.ref (s.heap.objs.size + 1) :: us) := .cons rfl r
  have hl : (Value.ref (s.heap.objs.size + 1) :: us).length = ps.length := by
    have e := r2.length
    rw [F.len _ _ _ _ hq] at e
    exact e.symm
  have b := hb _ (Value.ref (s.heap.objs.size + 1) :: us) I2.kIn (by rw [List.append_nil]; exact hl)
  rw [List.append_nil] at b
  refine wpAny_call (make_map (f := f) I.kIn hM.makes hM.init (beq_iff_eq.mp hM.fn) (codeAny_mono (F.run _ X.stack _ _ ⟨Value.ref (s.heap.objs.size + 1) :: us, []⟩ (Value.ref (s.heap.objs.size + 1) :: us) _ _ (E σ) (hr.make C us [])
    (I2.env0.make C us []) b r2 hq) fun r s' hq' => ?_))
  cases r with
  | error e => exact hx σ pins _ _ e s' I2 hq'
  | ok fl =>
    cases fl with
    | ret u =>
      obtain ⟨v, H', I3, rv, ev, q3⟩ := I2.after hq'
      subst ev
      exact ⟨rv, ⟨V.ref (s.heap.objs.size + 1), H', I3, rfl, q3⟩⟩
    | next => exact False.elim hq'
    | brk => exact False.elim hq'
    | cont => exact False.elim hq'
def tMakeS (C : Addr) (sp : Sp) (E : St → XK) (t : TA) : TE := fun σ H Q => t σ H fun vs H1 => ∀ x dx, H1 x = none → H1 dx = none → dx ≠ x → sp (.ref x :: vs) (upd (upd H1 dx (.own x)) x (.ins C dx [])) (fun v H2 => v = .non ∧ Q (.ref x) H2) (E σ)
theorem pe_makeS {CX : CXT} {k : Nat} {C f : Addr} {fd : FuncData} {x : Str} {ps : List Str} {sp : Sp} {E : St → XK} {p : Pos} {e : Expr} {es : List Expr} {t : TA} (hM : Mk X.K C f) (F : FnOk X.prog X.w X.K X.mg X.base CX k f fd ps sp) (hr : Room (k + 1) X.A) (hg : Gl X x) (hm : X.mg x = some (.ref C)) (hb : Binds X.K fd ps []) (hx : ∀ σ, PassesAt CX X σ (E σ))
    (ha : PA X (e :: es) t) (hdb : (x == ("__debug__" : Str)) = false := by decide) (he : starEach (e :: es) X.env = (false, eval e X.env) :: starEach es X.env := by rfl) (hpl : (backTo pos (starEach es X.env)).any (·.1) = false := by rfl) :
    PE X (.Call (.Name x p) (e :: es) [] pos) (tMakeS C sp E t) := by
  refine ⟨fun pins s σ H Q I h => ?_⟩
  refine wpAny_Call_Name_kw (ld_glob I hg hm ?_ hdb)
  refine PySem.W.callWith_K (h₀ := X.base) I.ok.mod.kin hM.kp (thn (ha.run pos pins s σ H _ I h) fun us s1 ⟨vs, H1, I1, r, q⟩ => ⟨I1.kIn, ?_⟩) he hpl
  exact run_makeS hM F hr hb hx I1 r q
theorem pe_makeS0 {CX : CXT} {k : Nat} {C f : Addr} {fd : FuncData} {x : Str} {ps : List Str} {sp : Sp} {E : St → XK} {p : Pos} (hM : Mk X.K C f) (F : FnOk X.prog X.w X.K X.mg X.base CX k f fd ps sp) (hr : Room (k + 1) X.A) (hg : Gl X x) (hm : X.mg x = some (.ref C)) (hb : Binds X.K fd ps []) (hx : ∀ σ, PassesAt CX X σ (E σ))
    (hdb : (x == ("__debug__" : Str)) = false := by decide) : PE X (.Call (.Name x p) [] [] pos) (tMakeS C sp E tNil) := by
  refine ⟨fun pins s σ H Q I h => ?_⟩
  refine wpAny_Call_Name_kw (ld_glob I hg hm ?_ hdb)
  exact PySem.W.callWith_K0 I.kIn hM.kp (run_makeS (us := []) hM F hr hb hx I .nil h)
def eMake (cn : Str) (n : Nat) (f : List W → Gd → R (W × Gd)) (fa : FA) : FE := seqF fa fun ws s G => if ws.length + 1 = n then match f (.ref G.length :: ws) (G ++ [.ins cn []]) with
  | .ok (.d .non, G') => .ok (.ref G.length, G')
  | .ok _ => .bad
  | .exc x _ G' => .exc x s G'
  | .bad => .bad else .bad
theorem make_ok {cn : Str} {C : Addr} {n : Nat} {f : List W → Gd → R (W × Gd)} {fa : FA} {K : PySem.W.Frag} {cl : ClsAt} (hC : c.cl cn = some C) (hK : c.K = K) (hcl : c.cl = cl) {t : TA} (ht : ∀ σ H Q, tMA c Z fa σ H Q → t σ H Q) (σ : St) (H : Hp) (Q : VK) (h : tM c Z (eMake cn n f fa) σ H Q) : tMakeS C (spH K cl n f) (WE Z) t σ H Q := by
  refine ht _ _ _ ?_
  obtain ⟨F, α, G, s, A, h⟩ := h
  refine ⟨F, α, G, s, A, ?_⟩
  unfold eMake seqF at h
  cases e : fa s G with
  | bad => rw [e] at h; exact h
  | exc x s' G' => rw [e] at h; exact h
  | ok p =>
    obtain ⟨ws, G1⟩ := p
    rw [e] at h
    dsimp only [R.bind] at h
    intro F1 α1 H1 vs x1 R1 r1 x dx nx ndx ne
    have h1 := Fin.mono (rep := RepW) x1 h
    have R2 := R1.skip ndx (.own x)
    have nx2 : upd H1 dx (.own x) x = none := by rw [upd_ne ne.symm]; exact nx
    obtain ⟨R3, x3⟩ := R2.push nx2 (ho := .ins C dx []) (o := .ins cn []) ⟨hC, .nil⟩
    have S3 : RepS c.K F1 (pushA α1 G1.length x) (G1 ++ [O.ins cn []]).length σ s := (A.sl.mono x1).mono x3
    split at h1
    · rename_i hn
      have rx : RepW K F1 (pushA α1 G1.length x) (G1 ++ [O.ins cn []]).length (.ref x) (.ref G1.length) := ⟨by simp, by rw [pushA_eq]⟩
      refine ⟨by rw [List.length_cons, r1.length]; exact hn, c, F1, pushA α1 G1.length x, G1 ++ [.ins cn []], .ref G1.length :: ws, hK, hcl, R3, .cons rx (by rw [← hK]; exact r1.mono x3), ?_⟩
      cases e3 : f (.ref G1.length :: ws) (G1 ++ [.ins cn []]) with
      | bad => rw [e3] at h1; exact h1.elim
      | ok q =>
        obtain ⟨w, G'⟩ := q
        rw [e3] at h1
        intro F' α' H' v x' R' r'
        cases w with
        | ref i => exact h1.elim
        | d y =>
          cases y with
          | non =>
            have r'' : RepD K F' v .non := r'
            cases r''
            refine ⟨rfl, h1 F' α' H' _ (x3.trans x') R' ?_⟩
            have := RepW.mono x' rx
            rw [hK]; exact this
          | _ => exact h1.elim
      | exc y s' G' =>
        rw [e3] at h1
        exact fun F' α' H' cls d x' R' r => h1 F' α' H' σ cls d (x3.trans x') R' (S3.mono x') r
    · exact h1.elim
theorem mMake {K : PySem.W.Frag} {k : Nat} {cn : Str} {ps : List Str} {n : Nat} {f : List W → Gd → R (W × Gd)} {fa : FA} {e : Expr} {es : List Expr} {p : Pos} (T : MakeM X.prog X.w X.K X.mg X.base k cn ps (spH K (clOf X.mg) n f)) (hK : c.K = K) (hcl : c.cl = clOf X.mg) (hr : Room (k + 1) X.A) (hg : Gl X cn) (tk : Takes X Z)
    (ha : PA X (e :: es) (tMA c Z fa)) (hdb : (cn == ("__debug__" : Str)) = false := by decide) (he : starEach (e :: es) X.env = (false, eval e X.env) :: starEach es X.env := by rfl) (hpl : (backTo pos (starEach es X.env)).any (·.1) = false := by rfl) :
    PE X (.Call (.Name cn p) (e :: es) [] pos) (tM c Z (eMake cn n f fa)) := by
  obtain ⟨C, fA, fd, h1, h2, h3, h4⟩ := T
  have hC : c.cl cn = some C := by rw [hcl]; simp only [clOf, h1]
  exact (pe_makeS h2 h4 hr hg h1 h3 (fun σ => passAt tk σ) ha hdb he hpl).imp fun σ H Q h => make_ok hC hK hcl (fun _ _ _ h => h) σ H Q h
theorem mMakeZ {K : PySem.W.Frag} {k : Nat} {cn : Str} {ps : List Str} {n : Nat} {f : List W → Gd → R (W × Gd)} {p : Pos} (T : MakeM X.prog X.w X.K X.mg X.base k cn ps (spH K (clOf X.mg) n f)) (hK : c.K = K) (hcl : c.cl = clOf X.mg) (hr : Room (k + 1) X.A) (hg : Gl X cn) (tk : Takes X Z)
    (hdb : (cn == ("__debug__" : Str)) = false := by decide) : PE X (.Call (.Name cn p) [] [] pos) (tM c Z (eMake cn n f aNil)) := by
  obtain ⟨C, fA, fd, h1, h2, h3, h4⟩ := T
  have hC : c.cl cn = some C := by rw [hcl]; simp only [clOf, h1]
  exact (pe_makeS0 h2 h4 hr hg h1 h3 (fun σ => passAt tk σ) hdb).imp fun σ H Q h => make_ok hC hK hcl (fun σ H Q ⟨F, α, G, s, A, h⟩ => h F α H [] Ext.refl A.rel .nil) σ H Q h
end
/-! a, b = a list that may change -/
section
variable {X : Cx} {c : RC} {Z : WX} {pos : Pos}
def gsW : List FG → List W → Sd → Gd → R (Sd × Gd)
  | [], [], s, G => .ok (s, G)
  | g :: r, x :: xs, s, G => (g x s G).bind fun p => gsW r xs p.1 p.2
  | _, _, _, _ => .bad
def gTupR (l : List FG) : FG := fun w s G => match w with
  | .ref i => match G[i]? with
    | some (.lst ws) => if ws.length = l.length then gsW l ws s G else .bad
    | _ => .bad
  | _ => .bad
def tMGsW (c : RC) (Z : WX) (l : List FG) : TGs := fun vs σ H Q => ∃ F α G s ws, At c F α G s σ H ∧ RepWs c.K F α G.length vs ws ∧ FinG c Z F α G.length (gsW l ws s G) Q
theorem mgNilW : PGs X [] (tMGsW c Z []) := pgs_nil.imp fun v σ H Q ⟨F, α, G, s, ws, A, r, h⟩ => by
  cases r with
  | nil => exact ⟨rfl, h F α H σ Ext.refl A⟩
  | cons x xs => exact h.elim
theorem mgConsW {e : Expr} {es : List Expr} {g : FG} {l : List FG} (h1 : PG X e (tMG c Z g)) (h2 : PGs X es (tMGsW c Z l)) (hs : (assignEach (e :: es) X.env).map (·.2) = assign e X.env :: (assignEach es X.env).map (·.2) := by rfl) :
    PGs X (e :: es) (tMGsW c Z (g :: l)) := (pgs_cons h1 h2 hs).imp fun v σ H Q ⟨F, α, G, s, ws, A, r, h⟩ => by
  cases r with
  | nil => exact h.elim
  | cons a b =>
    rename_i w vs ws x
    refine ⟨_, _, rfl, F, α, G, s, w, A, a, ?_⟩
    unfold gsW at h
    cases e : g w s G with
    | ok p =>
      rw [e] at h
      exact fun F' α' H' σ' e' A' => ⟨F', α', p.2, p.1, ws, A', RepWs.mono e' b, FinG.mono e' h⟩
    | exc x s' G' => rw [e] at h; exact h
    | bad => rw [e] at h; exact h
theorem mgTupR {es : List Expr} {k : Nat} {l : List FG} (hc : X.calm = true) (h : PGs X es (tMGsW c Z l))
    (hn : (assignEach es X.env).length = l.length := by rfl) (hst : (assignEach es X.env).findIdx? (·.1) = none := by rfl) : PG X (.Tuple es k pos) (tMG c Z (gTupR l)) :=
  (pg_unl hc h hn hst).imp fun v σ H Q ⟨F, α, G, s, w, A, r, h⟩ => by
    unfold gTupR at h
    split at h
    · rename_i i
      split at h
      · rename_i ws eg
        split at h
        · rename_i hl
          obtain ⟨⟨ho, e, q⟩, _⟩ := A.rel.ob i _ eg trivial
          cases ho with
          | lst vs => exact ⟨_, vs, r.2, SqL.of e, (RepWs.length q).trans hl, F, α, G, s, ws, A, q, h⟩
          | _ => exact q.elim
        · exact h.elim
      · exact h.elim
    · exact h.elim
end
/-! dict(pairs) -/
def kvD : D → Option (Key × D)
  | .tup [.int i, v] => some (.inl i, v)
  | .tup [.str z, v] => some (.inr z, v)
  | _ => none
def kvsD : List D → Option (List (Key × D))
  | [] => some []
  | x :: r => match kvD x, kvsD r with
    | some p, some q => some (p :: q)
    | _, _ => none
def kvW (l : List (Key × D)) : List (Key × W) := l.map fun p => (p.1, .d p.2)
theorem kvD_tup {x : D} {p : Key × D} (h : kvD x = some p) : x = .tup [kD p.1, p.2] := by
  unfold kvD at h
  split at h
  · cases h; rfl
  · cases h; rfl
  · cases h
theorem kvsD_pairs : ∀ {ds : List D} {l : List (Key × D)}, kvsD ds = some l → pairsD ds = true
  | [], _, _ => rfl
  | x :: r, l, h => by
    simp only [kvsD] at h
    split at h
    · rename_i p q e1 e2
      rw [kvD_tup e1]
      show pairsD r = true
      exact kvsD_pairs e2
    · cases h
theorem kvsD_rep {K : PySem.W.Frag} {F : Hp} {α : Nat → Addr} {n : Nat} : ∀ {ds : List D} {l : List (Key × D)} {vs : List V}, kvsD ds = some l → RepDs K F vs ds → ∃ (ps : List Addr) (kvs : List (Key × V)), vs = ps.map V.ref ∧ Paired (fun p kv => SqT K F p [kV kv.1, kv.2]) ps kvs ∧ RepKV K F α n kvs (kvW l)
  | [], l, vs, h, r => by
    cases h
    cases r
    exact ⟨[], [], rfl, .nil, .nil⟩
  | x :: ds, l, vs, h, r => by
    simp only [kvsD] at h
    split at h
    · rename_i p q e1 e2
      cases h
      cases r with
      | cons a b =>
        obtain ⟨ps, kvs, h1, h2, h3⟩ := kvsD_rep (α := α) (n := n) e2 b
        rw [kvD_tup e1] at a
        cases a with
        | tup a1 b1 pl =>
          rename_i ad xs
          cases b1 with
          | cons c1 c2 =>
            cases c2 with
            | cons c3 c4 =>
              cases c4
              rename_i v1 v2
              have ek : v1 = kV p.1 := by
                obtain ⟨k, d⟩ := p
                cases k with
                | inl i => cases c1; rfl
                | inr z => cases c1; rfl
              subst ek
              exact ⟨ad :: ps, (p.1, v2) :: kvs, by rw [h1]; rfl, .cons a1 h2, .cons ⟨rfl, c3⟩ h3⟩
    · cases h
def bDictP (ws : List W) (G : Gd) : R (W × Gd) := match ws with
  | [.d (.tup ds)] => match kvsD ds with
    | some l => .ok (.ref G.length, G ++ [.dct (mergeW [] (kvW l))])
    | none => .bad
  | [.d (.lst ds)] => match kvsD ds with
    | some l => .ok (.ref G.length, G ++ [.dct (mergeW [] (kvW l))])
    | none => .bad
  | _ => .bad
def rDictL (K : PySem.W.Frag) : List V → Hp → VK → Prop := fun xs H Q => ∃ (a : Addr) (ps : List Addr) (kvs : List (Key × V)), xs = [.ref a] ∧ SqL K H a (ps.map V.ref) ∧ Paired (fun p kv => SqT K H p [kV kv.1, kv.2]) ps kvs ∧
    ∀ p, H p = none → Q (.ref p) (upd H p (.dK (mergeK [] kvs)))
def rDictP (K : PySem.W.Frag) : List V → Hp → VK → Prop := fun xs H Q => rDictL K xs H Q ∨ rDictT K xs H Q
section
variable {X : Cx} {c : RC} {Z : WX} {pos p : Pos} {e : Expr} {f : FA}
theorem call_dictPA (hcalm : X.calm = true) : CallR X (.type "dict") (rDictP X.K) := CallR.or (call_dictP hcalm) (call_dictT hcalm)
theorem am_dictP : ArgM c Z (rDictP c.K) bDictP := by
  intro F α G H xs ws Q R r h
  unfold bDictP at h
  split at h
  · rename_i ds
    split at h
    · rename_i l e
      obtain ⟨v, rfl, r1⟩ := paired1 r
      cases r1 with
      | tup a b pl =>
        obtain ⟨ps, kvs, rfl, h2, h3⟩ := kvsD_rep (α := α) (n := G.length) e b
        refine .inr ⟨_, ps, kvs, rfl, Same.seqT R.fh a, (pl (kvsD_pairs e)).mono R.fh, Paired.mapP h2 fun _ _ r => Same.seqT R.fh r, fun p hp => ?_⟩
        obtain ⟨R', e'⟩ := R.push hp (ho := .dK (mergeK [] kvs)) (o := .dct (mergeW [] (kvW l))) (RepKV.merge h3 .nil)
        exact h _ _ _ _ e' R' ⟨by simp, by rw [pushA_eq]⟩
    · exact h.elim
  · rename_i ds
    split at h
    · rename_i l e
      obtain ⟨v, rfl, r1⟩ := paired1 r
      cases r1 with
      | lst a b =>
        obtain ⟨ps, kvs, rfl, h2, h3⟩ := kvsD_rep (α := α) (n := G.length) e b
        refine .inl ⟨_, ps, kvs, rfl, SqL.of (R.fh _ _ a), Paired.mapP h2 fun _ _ r => Same.seqT R.fh r, fun p hp => ?_⟩
        obtain ⟨R', e'⟩ := R.push hp (ho := .dK (mergeK [] kvs)) (o := .dct (mergeW [] (kvW l))) (RepKV.merge h3 .nil)
        exact h _ _ _ _ e' R' ⟨by simp, by rw [pushA_eq]⟩
    · exact h.elim
  · exact h.elim
theorem mDictP (hK : c.K = X.K) (hc : X.calm = true) (hm : X.mg "dict" = none) (ha : PA X [e] (tMA c Z f)) (hg : Gl X "dict" := by rfl) (he : starEach [e] X.env = (false, eval e X.env) :: starEach [] X.env := by rfl) (hpl : (backTo pos (starEach [] X.env)).any (·.1) = false := by rfl) :
    PE X (.Call (.Name "dict" p) [e] [] pos) (tM c Z (eA (fun ws _ G => bDictP ws G) f)) := mType (by rw [← hK]; exact am_dictP) (call_dictPA (X := X) hc) hg hm (by decide +kernel) ha (by decide) (by decide) he hpl
end
/-! what the top has written -/
section
variable {K : PySem.W.Frag} {mg : Str → Option Value} {h : Heap} {cn m qual : Str} {st : Stmt} {ps : List Str} {C f : Addr} {oc : Value} {od an : Option Addr} {sl : Array (Option Value)} {kV dc pm cd ct : Value}
theorem methAt_mk (X : K.In h) (G : h.Ns mainGlobals mg) (aC : PySem.W.nsIn K mainGlobals cn = some (some (.ref C)))
    (pg : PySem.W.plainGet K C Str.empty = true) (hd : PySem.W.hasDictIn K C = true) (po : PySem.W.plainOver K C = true) (sa : PySem.W.findIn K (.ref C) "__setattr__" = some (some (.builtin "object.__setattr__")))
    (a : PySem.W.findIn K (.ref C) m = some (some (.ref f))) (i : PySem.W.isFn K (.ref f) = true) (l : K.lookup f = some ⟨oc, od, .func (PySem.W.fnOf m qual (defArgs st) (defBody st) (defScope st) .none kV dc pm an cd ct), sl⟩) (q : PySem.W.codeIn K cd qual = true) (k : PySem.W.keepIn K (.ref f) = true)
    (b : ∀ (kV doc pm : Value) (an : Option Addr) (cdv ct : Value) (us : List Value), us.length = ps.length → bindArgs (PySem.W.fnOf m qual (defArgs st) (defBody st) (defScope st) .none kV doc pm an cdv ct) ⟨us, []⟩ = pure (ps.zip us)) : MethAt K mg cn m qual st ps :=
  ⟨C, f, _, fun_mk (st := st) l q k, PySem.W.mg_of X G aC, ⟨pg, hd, po, sa⟩, ⟨a, i, k⟩, b kV dc pm an cd ct⟩
theorem makeAt_mk (X : K.In h) (G : h.Ns mainGlobals mg) (aC : PySem.W.nsIn K mainGlobals cn = some (some (.ref C))) (mk : PySem.W.makesIn K C = true) (kc : PySem.W.keepIn K (.ref C) = true)
    (a : PySem.W.findIn K (.ref C) "__init__" = some (some (.ref f))) (i : PySem.W.isFn K (.ref f) = true) (l : K.lookup f = some ⟨oc, od, .func (PySem.W.fnOf "__init__" qual (defArgs st) (defBody st) (defScope st) .none kV dc pm an cd ct), sl⟩) (q : PySem.W.codeIn K cd qual = true) (k : PySem.W.keepIn K (.ref f) = true)
    (b : ∀ (kV doc pm : Value) (an : Option Addr) (cdv ct : Value) (us : List Value), us.length = ps.length → bindArgs (PySem.W.fnOf "__init__" qual (defArgs st) (defBody st) (defScope st) .none kV doc pm an cdv ct) ⟨us, []⟩ = pure (ps.zip us)) : MakeAt K mg cn qual st ps :=
  ⟨C, f, _, fun_mk (st := st) l q k, PySem.W.mg_of X G aC, ⟨mk, a, i, kc⟩, b kV dc pm an cd ct⟩
theorem noA_mk (X : K.In h) (G : h.Ns mainGlobals mg) {fl : Str} (aC : PySem.W.nsIn K mainGlobals cn = some (some (.ref C)))
    (pg : PySem.W.plainGet K C Str.empty = true) (hd : PySem.W.hasDictIn K C = true) (po : PySem.W.plainOver K C = true) (sa : PySem.W.findIn K (.ref C) "__setattr__" = some (some (.builtin "object.__setattr__"))) (n : PySem.W.findIn K (.ref C) fl = some none) : NoA K mg cn fl :=
  ⟨C, PySem.W.mg_of X G aC, ⟨pg, hd, po, sa⟩, n⟩
end
end M

set_option maxRecDepth 100000
set_option maxHeartbeats 4000000
namespace M
open PySem PySem.Spec PyProof.Rows L2
/-! ### errors of one's own -/
/-- a class of errors without own __init__ -/
def ExcT (K : PySem.W.Frag) (mg : Str → Option Value) (cn : Str) : Prop :=
  ∃ C, mg cn = some (.ref C) ∧ PySem.W.excIn K C [.type "ValueError", .type "Exception", .type "BaseException", .type "object"] "ValueError.__new__" = true ∧ PySem.W.keepIn K (.ref C) = true ∧ PySem.W.subIn K (.ref C) (.type "BaseException") = some true ∧ PySem.W.typeIn K (.ref C) = some (.type "type")
def sRaise (cn : Str) : FS := fun s G => .exc ⟨cn, []⟩ s G
section
variable {X : Cx} {c : RC} {Z : WX} {pos : Pos}
theorem mRaise {cn m : Str} {j : Nat} {p p2 p3 : Pos} (T : ExcT X.K X.mg cn) (hcl : c.cl = clOf X.mg) (tk : Takes X Z) (hc : X.calm = true) (hg : Gl X cn) (hdb : (cn == ("__debug__" : Str)) = false := by decide) :
    PS X (.Raise (some (.Call (.Name cn p) [.Constant (.str m) j p2] [] p3)) none pos) (tMS c Z (sRaise cn)) := by
  obtain ⟨C, h1, h2, h3, h4, h5⟩ := T
  have hC : c.cl cn = some C := by rw [hcl]; simp only [clOf, h1]
  exact (ps_raise hc tk (pmk_own PySem.F.excBase_ValueError h2 h1 h3 (raises_own h4 h5) hg hdb)).imp fun E σ H ⟨F, α, G, s, A, h⟩ => h F α H σ (.ref C) none Ext.refl A.rel A.sl ⟨C, hC, rfl, .inl ⟨rfl, rfl⟩⟩
end
theorem excT_mk {K : PySem.W.Frag} {mg : Str → Option Value} {h : Heap} {cn : Str} {C : Addr} (X : K.In h) (G : h.Ns mainGlobals mg) (aC : PySem.W.nsIn K mainGlobals cn = some (some (.ref C)))
    (q : PySem.W.excIn K C [.type "ValueError", .type "Exception", .type "BaseException", .type "object"] "ValueError.__new__" = true) (k : PySem.W.keepIn K (.ref C) = true) (b : PySem.W.subIn K (.ref C) (.type "BaseException") = some true) (t : PySem.W.typeIn K (.ref C) = some (.type "type")) : ExcT K mg cn :=
  ⟨C, PySem.W.mg_of X G aC, q, k, b, t⟩
end M

set_option maxRecDepth 100000
set_option maxHeartbeats 4000000
namespace M
open PySem PySem.Spec PyProof.Rows L2
/-! ### try: body, except x as e: suite, the error kept behind the suite -/
section
variable {X : Cx} {pins : List (Addr × Obj)} {σ : L2.St} {H : Hp} {s : Shared}
/-- an object that nobody knew is known from now on -/
theorem _root_.L2.Inv.track {a : Addr} {oe : Obj} {vs : Array Value} {o : HO} (I : Inv X pins σ H s) (ha : s.heap.get? a = some oe) (na : H a = none) (n0 : X.s_0.heap.get? a = none) (np : ∀ p ∈ X.pn ++ pins, p.1 ≠ a) (hd : oe.data = .fields vs) (nL : a ≠ X.env.locals)
    (new : ObjOk X.prog X.w (upd H a o) s.heap a o) : Inv X pins σ (upd H a o) s := by
  have n0' : ∀ b ob, X.s_0.heap.get? b = some ob → b ≠ a := fun b ob e z => by rw [z, n0] at e; cases e
  have nc : ∀ x c, X.env.cells.lookup x = some c → c ≠ a := fun x c e z => by
    obtain ⟨v, ob, h1, h2⟩ := I.cell x c e
    rw [z, ha] at h1; cases h1
    rw [hd] at h2; cases h2
  refine ⟨I.ok, I.os, I.bare, ⟨I.base.keep, I.base.slot, fun b ob e n hx => ?_, I.base.there, fun b xs e => ?_, fun b ob u e => ?_, fun b ps e => ?_⟩, I.loc, I.cell, ?_, fun x c e => ?_, fun p hp => ?_, fun b u e => ?_, I.len⟩
  · rw [upd_ne (n0' b ob e)]; exact I.base.free b ob e n hx
  · have q := I.base.tups b xs e
    rw [upd_ne (ne_of_none q na)]; exact q
  · have q := I.base.frzs b ob u e
    rw [upd_ne (ne_of_none q na)]; exact q
  · obtain ⟨m, q⟩ := I.base.tbls b ps e
    exact ⟨m, by rw [upd_ne (ne_of_none q na)]; exact q⟩
  · rw [upd_ne nL.symm]; exact I.free
  · rw [upd_ne (nc x c e)]; exact I.freeC x c e
  · obtain ⟨e, n, r⟩ := I.pin p hp
    exact ⟨e, by rw [upd_ne (np p hp)]; exact n, r⟩
  · by_cases hb : b = a
    · subst hb
      rw [upd_same] at e; cases e
      exact new
    · rw [upd_ne hb] at e
      exact (I.hok b u e).stay (fun c v _ q => q) (fun c q => by rw [upd_ne (ne_of_none q na)]; exact q) fun c xs q => by rw [upd_ne (ne_of_none q na)]; exact q
end
/-- what the clause wishes of an error of the body -/
def wKeep (K : PySem.W.Frag) (c : Value) (i : Nat) (ts : Addr → Value → Option Addr → TS) (Wout : WX) (D : Ends) : WX := fun cls d σ H =>
  ∃ b, PySem.W.exmOne K cls c = some b ∧ (b = true → ∀ a, H a = none → ts a cls d { nx := fun σ' H' => D.nx (σ'.set i none) (upd H' a (exA cls d a)), rt := fun v H' => D.rt v (upd H' a (exA cls d a)), bk := fun σ' H' => D.bk (σ'.set i none) (upd H' a (exA cls d a)), ct := fun σ' H' => D.ct (σ'.set i none) (upd H' a (exA cls d a)) } (σ.set i (some (.ref a))) H) ∧
    (b = false → Wout cls d σ H)
section
variable {X : Cx} {x n : Str} {c : Value} {i : Nat} {body suite : List Stmt} {b₀ : Stmt} {np pos pos' : Pos} {tb : WX → TS} {ts : Addr → Value → Option Addr → TS} {Wout : WX}
theorem ps_try_keep (hx : X.ex = []) (hs : X.stack = X.env :: X.outer) (hf : X.env.frame = some X.env.locals) (hN : X.N.Nodup) (hi : X.N[i]? = some n) (hln : X.env.kindOf n = some .local) (hc : Names X x c) (tk : Takes X Wout)
    (hb : ∀ (W : WX) (pn : List (Addr × Obj)) (xe : Value → Shared → Prop), Takes (X.tr pn xe) W → PassesOwn (model X.prog X.w) X.A X.env xe → PSs (X.tr pn xe) body (tb W))
    (hsu : ∀ (a : Addr) (oe : Obj) (cls : Value) (d : Option Addr) (pn : List (Addr × Obj)), Zc cls d oe → (∃ vs, oe.data = .fields vs) → PSs (X.suite a ((a, oe) :: pn)) (b₀ :: suite) (ts a cls d)) :
    PS X (.Try body [.ExceptHandler (some (.Name x np)) (some n) (b₀ :: suite) pos'] [] [] pos) (fun D σ H => tb (wKeep X.K c i ts Wout D) D σ H) := by
  refine ⟨fun pins s σ H D I h => ?_⟩
  have ok := I.ok
  have hfr : X.A.frames = some (X.env :: X.outer) := by rw [ok.frames, hs]
  have hloc : Loc X.env.scope n := .inl hln
  refine wpAny_Try_except ?_
  refine wpAny_mono ((hb (wKeep X.K c i ts Wout D) (X.pn ++ pins) (fun e s₁ => wpAny (model X.prog X.w) X.A (noteFrame e X.env) (fun _ s₂ => wpAny (model X.prog X.w) X.A (setFlight e none) (fun _ s₃ =>
    wpAny (model X.prog X.w) X.A (handleBy e X.env [.ExceptHandler (some (.Name x np)) (some n) (b₀ :: suite) pos']) (SP X pins D) X.xe s₃) X.xe s₂) X.xe s₁) (fun u s' xx => ?_) PassesOwn.looking).run [] s σ H D (I.toTry _) h) (fun f s1 hsp => ?_) (fun e s1 he => he)
  · -- the catch
    obtain ⟨a, B, sI, pins', σ', H', cls, d, rfl, J', nb, up, sky, na, os, ag, b, hb1, hyes, hno⟩ := xx
    have J : Inv X pins σ' H' sI := J'.ofTry ok
    have sky' : Sky B (X.env :: X.outer) a (Zc cls d) X.env.locals s'.heap := by rw [← hs]; exact sky
    show wpAny (model X.prog X.w) X.A (noteFrame (.ref a) X.env) _ _ _
    refine Sky.land Zc.steady hfr hf sky' fun h3 fl3 up3 => ?_
    have J3 : Inv X pins σ' H' { s' with heap := h3 } := J.landed nb fl3.1 (up.trans up3) os ag
    obtain ⟨oe3, vs3, he3, hz3, hd3⟩ := fl3.there
    have notFr : ∀ {h : Heap} {o : Obj} {vs : Array Value}, h.FunFrames B (X.env :: X.outer) → h.get? a = some o → o.data = .fields vs → a ∉ frs (X.env :: X.outer) := fun {h o vs} ff e dd hm => by
      obtain ⟨_, o', e', hnf⟩ := ff.mem hm
      rw [e] at e'; cases e'
      exact hnf _ dd
    have nfr := notFr fl3.2.2.1 he3 hd3
    have nL : a ≠ X.env.locals := fun z => nfr (List.mem_filterMap.mpr ⟨X.env, List.mem_cons_self, by rw [hf, z]⟩)
    have nF : a ∉ X.fs := fun hm => by
      obtain ⟨e, he, q⟩ := List.mem_filterMap.mp hm
      exact nfr (List.mem_filterMap.mpr ⟨e, List.mem_cons_of_mem _ he, q⟩)
    have S3 := J3.suite he3 hd3 na nL nF
    refine wpAny_handleBy_cons (codeAny_handlers_test ?_) (by intro q; cases q)
    have LT : PySem.W.Looks (model X.prog X.w) h3 (typeOf (.ref a)) cls := fun A Q E s k q => wpAny_typeOf_ref (k _ _ he3) (by rw [hz3.1]; exact q)
    have LM := PySem.W.exm_one (M := model X.prog X.w) (J3.kIn) LT hb1
    have test : ∀ {Q : Value → Shared → Prop} {E : Value → Shared → Prop}, Q c { s' with heap := h3 } → wpAny (model X.prog X.w) (X.A.mark (some (.ref a))) (eval (.Name x np) X.env) Q E { s' with heap := h3 } := fun {Q E} q => by
      obtain ⟨hg, hdbg, hm | ⟨hm, hv, hnn⟩⟩ := hc
      · exact ld_glob (X := X.suite a ((a, oe3) :: (X.pn ++ pins))) S3 hg hm q hdbg
      · exact ld_blt (X := X.suite a ((a, oe3) :: (X.pn ++ pins))) S3 hg hm hv q hnn hdbg
    refine test (LM.here ?_)
    cases b with
    | true =>
      refine codeAny_handlers_suite_as ?_
      refine HandSPX.lands_againZ fl3 fun h4 fl4 up4 => ?_
      have J4 : Inv X pins σ' H' { s' with heap := h4 } := J.landed nb fl4.1 ((up.trans up3).trans up4) os ag
      obtain ⟨oe4, vs4, he4, hz4, hd4⟩ := fl4.there
      have S4 := J4.suite he4 hd4 na nL nF
      refine store_ok (X := X.suite a ((a, oe4) :: (X.pn ++ pins))) (v := .ref a) S4 hN hi hloc rfl (fun s5 S5 => ?_) (.inr hln)
      refine wpAny_mono ((hsu a oe4 cls d (X.pn ++ pins) hz4 ⟨_, hd4⟩).run [] s5 _ H' _ S5 (hyes rfl a na)) (fun f s6 hsp => ?_) (fun _ _ z => False.elim z)
      have nI : sI.heap.get? a = none := by
        cases e : sI.heap.get? a with
        | none => rfl
        | some o =>
          have z := nb a o e (by rw [hs]; exact nfr)
          rw [fl4.2.1] at z
          cases z
      have n0 : X.s_0.heap.get? a = none := by
        cases e : X.s_0.heap.get? a with
        | none => rfl
        | some o =>
          obtain ⟨o', z⟩ := J.base.there a o e (by rw [hx]; exact fun z => nomatch z)
          rw [nI] at z
          cases z
      have nP : ∀ p ∈ X.pn ++ pins, p.1 ≠ a := fun p hp z => by
        have y := (J.pin p hp).1
        rw [z, nI] at y
        cases y
      have end_ : ∀ {σ6 : L2.St} {H6 : Hp} {Q : Shared → Prop}, Inv (X.suite a ((a, oe4) :: (X.pn ++ pins))) [] σ6 H6 s6 → (∀ s7, Inv X pins (σ6.set i none) (upd H6 a (exA cls d a)) s7 → Q s7) →
          wpAny (model X.prog X.w) X.A (do bindName X.env n .none; unbindBehindTheSuite X.env n pos') (fun _ s7 => Q s7) X.xe s6 := fun {σ6 H6 Q} S6 hq => by
        have S7 : Inv X (pins ++ [(a, oe4)]) σ6 H6 s6 := ⟨ok, S6.os, S6.bare, S6.base, S6.loc, S6.cell, S6.free, S6.freeC, fun p hp => S6.pin p (List.mem_append_left _ (by
          rcases List.mem_append.mp hp with h | h
          · exact List.mem_cons_of_mem _ (List.mem_append_left _ h)
          · rcases List.mem_append.mp h with h | h
            · exact List.mem_cons_of_mem _ (List.mem_append_right _ h)
            · rw [List.mem_singleton.mp h]; exact List.mem_cons_self)), S6.hok, S6.len⟩
        refine gone_ok S7 hN hi hln fun s7 J7 => hq s7 ?_
        obtain ⟨p1, p2, p3, p4, p5⟩ := J7.pin (a, oe4) (List.mem_append_right _ (List.mem_append_right _ List.mem_cons_self))
        have J8 : Inv X pins (σ6.set i none) H6 s7 := ⟨ok, J7.os, J7.bare, J7.base, J7.loc, J7.cell, J7.free, J7.freeC, fun p hp => J7.pin p (by
          rcases List.mem_append.mp hp with h | h
          · exact List.mem_append_left _ h
          · exact List.mem_append_right _ (List.mem_append_left _ h)), J7.hok, J7.len⟩
        exact J8.track p1 p2 n0 nP hd4 nL (exA_ok p1 hz4 hd4)
      cases f with
      | next =>
        obtain ⟨σ6, H6, S6, q6⟩ := hsp
        exact end_ S6 fun s7 J7 => ⟨_, _, J7, q6⟩
      | brk =>
        obtain ⟨σ6, H6, S6, q6⟩ := hsp
        exact end_ S6 fun s7 J7 => ⟨_, _, J7, q6⟩
      | cont =>
        obtain ⟨σ6, H6, S6, q6⟩ := hsp
        exact end_ S6 fun s7 J7 => ⟨_, _, J7, q6⟩
      | ret u =>
        obtain ⟨v6, σ6, H6, S6, r6, q6⟩ := hsp
        exact end_ S6 fun s7 J7 => ⟨_, _, _, J7, r6, q6⟩
    | false =>
      show wpAny _ X.A (handleBy (.ref a) X.env []) _ _ _
      refine wpAny_handleBy_nil ?_
      obtain ⟨k1, k2, k3, oe, vs, T, oT, ts', he, hz, hd, h1, hr⟩ := id fl3
      unfold PySem.passOn
      refine wpAny_bind (wpAny_field he hd h1 ?_)
      rw [if_neg (show ¬ ((Value.ref T == Value.none) = true) from by simp)]
      have fin : wpAny (model X.prog X.w) X.A (setFlight (.ref a) X.env.frame) (fun _ s4 => wpAny (model X.prog X.w) X.A (throw (.ref a) : Sem Flow) (SP X pins D) X.xe s4) X.xe { s' with heap := h3 } := by
        rw [hf]
        refine HandSPX.setFlight_upZ fl3 fun h4 hh4 up4 => wpAny_throw (tk _ _ ?_)
        exact ⟨a, B, sI, pins, σ', H', cls, d, rfl, J, nb, (up.trans up3).trans up4, .inr (.inr (by rw [hs]; exact hh4)), na, os, ag, hno rfl⟩
      first
        | exact wpAny_bind (wpAny_pure (wpAny_bind fin))
        | exact wpAny_bind fin
  · cases f with
    | next =>
      obtain ⟨σ', H', J', q⟩ := hsp
      exact wpAny_execs_nil ⟨σ', H', J'.ofTry ok, q⟩
    | brk =>
      obtain ⟨σ', H', J', q⟩ := hsp
      exact ⟨σ', H', J'.ofTry ok, q⟩
    | cont =>
      obtain ⟨σ', H', J', q⟩ := hsp
      exact ⟨σ', H', J'.ofTry ok, q⟩
    | ret u =>
      obtain ⟨v, σ', H', J', r, q⟩ := hsp
      exact ⟨v, σ', H', J'.ofTry ok, r, q⟩
end
/-! the mirror -/
/-- which classes the clause takes: told for the classes named -/
def hitOf (l : List (Str × Bool)) (cn : Str) : Option Bool := l.lookup cn
/-- try: body / except C as e: v = e -/
def sTryK (l : List (Str × Bool)) (i j : Nat) (fb : FS) : FS := fun s G => match fb s G with
  | .exc x s' G' => match hitOf l x.cls with
    | some true => if i < s'.length then .ok (.nx ((s'.set j (some (.ref G'.length))).set i none), G' ++ [.err x.cls x.fs]) else .bad
    | some false => .exc x s' G'
    | none => .bad
  | r => r
/-- what the text has of the clause's class, and of those that may come -/
def Hits (K : PySem.W.Frag) (mg : Str → Option Value) (cn : Str) (l : List (Str × Bool)) : Prop := ∃ Cc, mg cn = some (.ref Cc) ∧ ∀ x b, hitOf l x = some b → ∃ C, mg x = some (.ref C) ∧ PySem.W.exmOne K (.ref C) (.ref Cc) = some b
theorem Rel.addXd {c : RC} {F H : Hp} {α : Nat → Addr} {G : Gd} (R : Rel c F α G H) {dx : Addr} {vs : List (Str × V)} (h : H dx = some (.xd vs)) (hb : c.B dx = none) : Rel c (upd F dx (.xd vs)) α G H ∧ Same F (upd F dx (.xd vs)) := by
  have sm : Same F (upd F dx (.xd vs)) := fun b o e => by
    by_cases hd : b = dx
    · subst hd
      have := R.fh _ _ e
      rw [h] at this; cases this
      exact upd_same
    · rw [upd_ne hd]; exact e
  refine ⟨⟨R.bh, fun b o e => ?_, R.f0.trans sm, fun a ha => ?_, fun i o e hl => ?_, fun i ds e => ?_, R.inj, fun i qs e => ?_⟩, sm⟩
  · by_cases hd : b = dx
    · subst hd; rw [upd_same] at e; cases e; exact h
    · rw [upd_ne hd] at e; exact R.fh _ _ e
  · have : a ≠ dx := fun z => ha (by rw [z]; exact hb)
    rw [upd_ne this]; exact R.fb a ha
  · obtain ⟨⟨ho, e1, r⟩, b1, b2⟩ := R.ob i o e hl
    have ne : α i ≠ dx := fun z => by
      rw [z, h] at e1; cases e1
      cases o <;> exact r.elim
    exact ⟨⟨ho, e1, RepO.mono ⟨sm, fun _ _ => rfl, Nat.le_refl _⟩ r⟩, b1, by rw [upd_ne ne]; exact b2⟩
  · obtain ⟨vs', e1, r⟩ := R.st i ds e
    exact ⟨vs', sm _ _ e1, RepDs.mono sm r⟩
  · obtain ⟨o, kvs, e1, r⟩ := R.pn i qs e
    exact ⟨o, kvs, e1, RepKV.mono ⟨sm, fun _ _ => rfl, Nat.le_refl _⟩ r⟩
section
variable {X : Cx} {c : RC} {Z : WX}
theorem mTryK {cn n y : Str} {l : List (Str × Bool)} (i j : Nat) {body : List Stmt} {fb : FS} {np yp ep ap pos pos' : Pos} (hcl : c.cl = clOf X.mg) (T : Hits X.K X.mg cn l) (hx : X.ex = []) (hs : X.stack = X.env :: X.outer) (hf : X.env.frame = some X.env.locals) (hN : X.N.Nodup) (hi : X.N[i]? = some n) (hj : X.N[j]? = some y) (hij : i ≠ j)
    (hln : X.env.kindOf n = some .local) (hly : X.env.kindOf y = some .local) (hg : Gl X cn) (hdb : (cn == ("__debug__" : Str)) = false) (hen : (n == ("__debug__" : Str)) = false) (hec : (n == ("__classdict__" : Str)) = false) (tk : Takes X Z)
    (hb : ∀ (W : WX) (pn : List (Addr × Obj)) (xe : Value → Shared → Prop), Takes (X.tr pn xe) W → PSs (X.tr pn xe) body (tMS c W fb))
    (hsu : ∀ (a : Addr) (oe : Obj) (pn : List (Addr × Obj)), PSs (X.suite a ((a, oe) :: pn)) [.Assign [.Name y yp] (.Name n ep) ap] (fun D σ H => ∃ v, σ[i]? = some (some v) ∧ D.nx (σ.set j (some v)) H)) :
    PS X (.Try body [.ExceptHandler (some (.Name cn np)) (some n) [.Assign [.Name y yp] (.Name n ep) ap] pos'] [] [] pos) (tMS c Z (sTryK l i j fb)) := by
  obtain ⟨Cc, hC, hits⟩ := T
  refine (ps_try_keep (X := X) (c := .ref Cc) (i := i) (tb := fun W => tMS c W fb) (ts := fun _ _ _ => fun D σ H => ∃ v, σ[i]? = some (some v) ∧ D.nx (σ.set j (some v)) H) (Wout := Z) hx hs hf hN hi hln ⟨hg, hdb, .inl hC⟩ tk (fun W pn xe t _ => hb W pn xe t) (fun a oe cls d pn _ _ => hsu a oe pn)).imp fun En σ H ⟨F, α, G, s, A, h⟩ => ?_
  refine ⟨F, α, G, s, A, ?_⟩
  unfold sTryK at h
  cases e : fb s G with
  | bad => rw [e] at h; exact h
  | ok p =>
    rw [e] at h
    obtain ⟨q, G'⟩ := p
    cases q <;> exact h
  | exc x s' G' =>
    rw [e] at h
    dsimp only at h
    intro F' α' H' σ' cls d e' R S r
    have r0 := r
    obtain ⟨C, rC, rfl, rf⟩ := r
    cases eh : hitOf l x.cls with
    | none => rw [eh] at h; exact h.elim
    | some b =>
      rw [eh] at h
      obtain ⟨C', hC', ex⟩ := hits x.cls b eh
      have : C' = C := by
        rw [hcl] at rC
        simp only [clOf, hC', Option.some.injEq] at rC
        exact rC
      subst this
      refine ⟨b, ex, fun hb a na => ?_, fun hb => ?_⟩
      · subst hb
        dsimp only at h
        split at h
        · rename_i hil
          have hil' : i < σ'.length := by rw [S.len]; exact hil
          refine ⟨.ref a, List.getElem?_set_self hil', ?_⟩
          -- the error's own names stand still from now on
          obtain ⟨F2, sm, R2, rf2⟩ : ∃ F2, Same F' F2 ∧ Rel c F2 α' G' H' ∧ (x.fs = [] ∧ d = none ∨ ∃ dx vs, d = some dx ∧ F2 dx = some (.xd vs) ∧ Paired (fun (p : Str × V) (q : Str × D) => p.1 = q.1 ∧ RepD c.K F2 p.2 q.2) vs x.fs) := by
            rcases rf with rf | ⟨dx, vs, q1, q2, q3, q4⟩
            · exact ⟨F', Same.refl _, R, .inl rf⟩
            · obtain ⟨R', sm⟩ := Rel.addXd R q3 q2
              exact ⟨_, sm, R', .inr ⟨dx, vs, q1, upd_same, Paired.mapP q4 fun _ _ r => ⟨r.1, RepD.mono sm r.2⟩⟩⟩
          have x2 : Ext F' α' G'.length F2 α' G'.length := ⟨sm, fun _ _ => rfl, Nat.le_refl _⟩
          obtain ⟨R3, x3⟩ := R2.push na (ho := exA (.ref C') d a) (o := .err x.cls x.fs) ⟨C', d, a, rfl, rC, rf2⟩
          have S3 := (S.mono x2).mono x3
          have rw_ : RepW c.K F2 (pushA α' G'.length a) (G' ++ [O.err x.cls x.fs]).length (.ref a) (.ref G'.length) := ⟨by simp, by rw [pushA_eq]⟩
          have S4 := (S3.set rw_ j).clear i
          have es : (((σ'.set i (some (V.ref a))).set j (some (V.ref a))).set i none) = (σ'.set j (some (V.ref a))).set i none := by
            rw [List.set_comm _ _ hij, List.set_set]
          show En.nx (((σ'.set i (some (V.ref a))).set j (some (V.ref a))).set i none) _
          rw [es]
          exact h F2 _ _ _ ((e'.trans x2).trans x3) ⟨R3, S4⟩
        · exact h.elim
      · subst hb
        exact h F' α' H' σ' _ d e' R S r0
theorem keepSuite {n y : Str} {i j : Nat} {yp ep ap : Pos} (hN : X.N.Nodup) (hi : X.N[i]? = some n) (hj : X.N[j]? = some y) (hv : Vis X.env.scope n) (hl : Loc X.env.scope y) (hf : X.fn y = true ∨ X.env.scope.names.lookup y = some .local) (hd : (n == ("__debug__" : Str)) = false) (hcd : (n == ("__classdict__" : Str)) = false) :
    PSs X [.Assign [.Name y yp] (.Name n ep) ap] (fun D σ H => ∃ v, σ[i]? = some (some v) ∧ D.nx (σ.set j (some v)) H) :=
  pss_one (ps_set hN hj hl (pe_var hi hv hd hcd) rfl hf)
end
end M

set_option maxRecDepth 100000
set_option maxHeartbeats 4000000
namespace M
open PySem PySem.Spec PyProof.Rows L2
/-! ### isinstance of an error that is kept -/
theorem exA_self {P : Program} {w : World} {H : Hp} {h : Heap} {a b : Addr} {cls : Value} {d : Option Addr} (x : ObjOk P w H h b (exA cls d a)) : a = b ∧ ∃ (oe : Obj) (vs : Array Value), h.get? b = some oe ∧ Zc cls d oe ∧ oe.data = .fields vs := by
  obtain ⟨p, ⟨ob, hb⟩, st⟩ := x
  have e : a = b := by
    obtain ⟨g, g1, g2⟩ := restrict h fun c => decide (c = b)
    have q := st h g p fun o ho => by rw [g1 b (by simp)]; exact ho
    obtain ⟨oe, vs, e1, _⟩ := q
    by_cases hab : a = b
    · exact hab
    · rw [g2 a (by simp [hab])] at e1; cases e1
  subst e
  obtain ⟨oe, vs, e1, z, hd⟩ := p
  exact ⟨rfl, oe, vs, e1, z, hd⟩
def rIsE1 (K : PySem.W.Frag) : List V → Hp → VK → Prop := fun xs H Q => ∃ (a a' D : Addr) (d : Option Addr) (c : V) (u : Value) (b : Bool), xs = [.ref a, c] ∧ H a = some (exA (.ref D) d a') ∧ (d = none ∨ ∃ dx vs, d = some dx ∧ H dx = some (.xd vs)) ∧ ExcC K D ∧ ClsV c u ∧ PySem.W.kitOne K (.ref D) u = some b ∧ Q (.bl b) H
def rIsET (K : PySem.W.Frag) : List V → Hp → VK → Prop := fun xs H Q => ∃ (a a' D tp : Addr) (d : Option Addr) (cs : List V) (us : List Value) (b : Bool), xs = [.ref a, .ref tp] ∧ H a = some (exA (.ref D) d a') ∧ (d = none ∨ ∃ dx vs, d = some dx ∧ H dx = some (.xd vs)) ∧ ExcC K D ∧ H tp = some (.tup cs) ∧ Paired ClsV cs us ∧ PySem.W.kitAny K (.ref D) us = some b ∧ Q (.bl b) H
section
variable {X : Cx}
theorem inst_of {pins : List (Addr × Obj)} {σ : L2.St} {H : Hp} {s : Shared} {a D : Addr} {d : Option Addr} {oe : Obj} {vs : Array Value} (I : Inv X pins σ H s) (hg : s.heap.get? a = some oe) (z : Zc (.ref D) d oe) (hd : oe.data = .fields vs) (hdx : d = none ∨ ∃ dx vs, d = some dx ∧ H dx = some (.xd vs)) : ∃ od, PySem.W.InstAt s.heap a oe D od := by
  obtain ⟨oc, od, oda, osl⟩ := oe
  obtain ⟨h1, h2⟩ := z
  dsimp only at h1 h2 hd
  subst h1 hd
  rcases hdx with rfl | ⟨dx, fs, rfl, hx⟩
  · subst h2
    exact ⟨none, hg, rfl, rfl, trivial⟩
  · subst h2
    obtain ⟨o, ho⟩ := objOk_get (I.hok dx _ hx)
    exact ⟨some o, hg, rfl, rfl, ho⟩
theorem call_isE1 : CallR X (.builtin "isinstance") (rIsE1 X.K) := by
  intro pins s σ H xs us Q I r h
  obtain ⟨a, a', D, d, c, u, b, rfl, ha, hdx, C, k, e, q⟩ := h
  obtain ⟨u1, u2, rfl, r1, r2⟩ := vals2 r
  have e2 := k.eq r2
  subst e2
  cases (show u1 = Value.ref a from r1)
  obtain ⟨_, oe, vs, hg, z, hd⟩ := exA_self (I.hok a _ ha)
  obtain ⟨od, J⟩ := inst_of I hg z hd hdx
  obtain ⟨cd, hc, _⟩ := PySem.W.any_some C.hd
  exact PySem.W.kia_one (PySem.W.kitx_exc (by rw [hc]; rfl) C.hg C.hk C.hs C.ha C.hn C.ht C.hm) I.kIn J e (fun z => nomatch z) fun tk => ⟨.bl b, H, I.tok tk, rfl, q⟩
theorem call_isET : CallR X (.builtin "isinstance") (rIsET X.K) := by
  intro pins s σ H xs us Q I r h
  obtain ⟨a, a', D, tp, d, cs, ws, b, rfl, ha, hdx, C, hT, k, e, q⟩ := h
  obtain ⟨u1, u2, rfl, r1, r2⟩ := vals2 r
  cases (show u2 = Value.ref tp from r2)
  cases (show u1 = Value.ref a from r1)
  obtain ⟨_, oe, vs, hg, z, hd⟩ := exA_self (I.hok a _ ha)
  obtain ⟨od, J⟩ := inst_of I hg z hd hdx
  obtain ⟨_, its, rv, o, h1, h2, n, h3⟩ := (show ObjOk X.prog X.w H s.heap tp (.tup cs) from I.hok tp _ hT)
  have e3 := ClsV.all k rv
  subst e3
  obtain ⟨oc, od, dt, sl⟩ := o
  simp only at h2 h3
  subst h2 h3
  obtain ⟨cd, hc, _⟩ := PySem.W.any_some C.hd
  exact PySem.W.kia_tup (PySem.W.kitx_exc (by rw [hc]; rfl) C.hg C.hk C.hs C.ha C.hn C.ht C.hm) I.kIn J h1 e (fun z => nomatch z) fun tk => ⟨.bl b, H, I.tok tk, rfl, q⟩
end
/-! the mirror: what w is, told for None and for the classes named -/
def wIsC (l : List (Str × Bool)) (w : W) (G : Gd) : R (W × Gd) := match w with
  | .d .non => .ok (.d (.bl false), G)
  | .ref i => match G[i]? with
    | some (.err cn _) => match l.lookup cn with
      | some b => .ok (.d (.bl b), G)
      | none => .bad
    | _ => .bad
  | _ => .bad
def eIsC (l : List (Str × Bool)) (f : FE) : FE := seqF f fun w _ G => wIsC l w G
/-- a class by its name -/
def ClsN (mg : Str → Option Value) (x : Str) (v : V) (u : Value) : Prop := ClsV v u ∧ RelV v u ∧ (mg x = some u ∨ mg x = none ∧ bootBuiltins x = some u ∧ x ≠ "__name__") ∧ (x == ("__debug__" : Str)) = false
theorem pe_cls {X : Cx} {x : Str} {v : V} {u : Value} {pos : Pos} (T : ClsN X.mg x v u) (hg : Gl X x) : PE X (.Name x pos) (tC v) := by
  obtain ⟨_, r, h, hd⟩ := T
  rcases h with h | ⟨h1, h2, h3⟩
  · exact pe_glob hg h r hd
  · exact pe_bltn hg h1 h2 r h3 hd
/-- what the kit tells: asked is (v, u) -/
def Is1 (K : PySem.W.Frag) (mg : Str → Option Value) (x : Str) (l : List (Str × Bool)) : Prop := ∃ v u, ClsN mg x v u ∧ PySem.W.kitOne K (.type "NoneType") u = some false ∧ ∀ cn b, l.lookup cn = some b → ∃ D, mg cn = some (.ref D) ∧ ExcC K D ∧ PySem.W.kitOne K (.ref D) u = some b
section
variable {X : Cx} {c : RC} {Z : WX} {pos : Pos}
theorem err_at {F H : Hp} {α : Nat → Addr} {G : Gd} {i : Nat} {cn : Str} {fs : List (Str × D)} (R : Rel c F α G H) (e : G[i]? = some (.err cn fs)) : ∃ C d a, H (α i) = some (exA (.ref C) d a) ∧ c.cl cn = some C ∧ (d = none ∨ ∃ dx vs, d = some dx ∧ H dx = some (.xd vs)) := by
  obtain ⟨⟨ho, e1, r⟩, _⟩ := R.ob i _ e trivial
  cases ho with
  | ext φ =>
    obtain ⟨C, d, a, h1, h2, h3⟩ := r
    refine ⟨C, d, a, by rw [e1, h1], h2, ?_⟩
    rcases h3 with ⟨_, h3⟩ | ⟨dx, vs, q1, q2, _⟩
    · exact .inl h3
    · exact .inr ⟨dx, vs, q1, R.fh _ _ q2⟩
  | _ => exact r.elim
theorem mIsC1 {x : Str} {l : List (Str × Bool)} {p p2 : Pos} {e : Expr} {f : FE} (hcl : c.cl = clOf X.mg) (T : Is1 X.K X.mg x l) (hm : X.mg "isinstance" = none) (he : PE X e (tM c Z f)) (hg : Gl X "isinstance" := by rfl) (hg2 : Gl X x := by rfl)
    (hs : starEach [e, .Name x p2] X.env = (false, eval e X.env) :: starEach [.Name x p2] X.env := by rfl) (hs2 : starEach [.Name x p2] X.env = (false, eval (.Name x p2) X.env) :: starEach [] X.env := by rfl) (hpl : (backTo pos (starEach [.Name x p2] X.env)).any (·.1) = false := by rfl) :
    PE X (.Call (.Name "isinstance" p) [e, .Name x p2] [] pos) (tM c Z (eIsC l f)) := by
  obtain ⟨v, u, N, hn, hl⟩ := T
  refine (pe_callB (CallR.or (call_isi (X := X)) (call_isE1 (X := X))) hg hm (by decide +kernel) (pa_cons he (pa_cons (pe_cls N hg2) pa_nil hs2) hs) (by decide) (by decide) hs hpl).imp fun σ H Q h => ?_
  show tM c Z f σ H _
  refine (tG.seq (rep := RepW) h).imp fun w' H1 ⟨F1, α1, G1, s, w, A1, r1, h1⟩ => ?_
  unfold wIsC at h1
  split at h1
  · cases (show RepD c.K F1 w' .non from r1)
    exact .inl ⟨.non, v, .type "NoneType", u, false, rfl, N.1, .base .non, hn, h1 F1 α1 _ _ Ext.refl A1.rel (RepD.bl _)⟩
  · rename_i i
    split at h1
    · rename_i cn fs eg
      split at h1
      · rename_i b el
        obtain ⟨C, d, a, q1, q2, q3⟩ := err_at A1.rel eg
        obtain ⟨D, k1, k2, k3⟩ := hl cn b el
        have : D = C := by
          rw [hcl] at q2
          simp only [clOf, k1, Option.some.injEq] at q2
          exact q2
        subst this
        exact .inr ⟨α1 i, a, D, d, v, u, b, by rw [r1.2], q1, q3, k2, N.1, k3, h1 F1 α1 _ _ Ext.refl A1.rel (RepD.bl _)⟩
      · exact h1.elim
    · exact h1.elim
  · exact h1.elim
/-! a tuple of classes -/
inductive ClsNs (mg : Str → Option Value) : List Str → List V → List Value → Prop
  | nil : ClsNs mg [] [] []
  | cons {x : Str} {v : V} {u : Value} {xs : List Str} {vs : List V} {us : List Value} : ClsN mg x v u → ClsNs mg xs vs us → ClsNs mg (x :: xs) (v :: vs) (u :: us)
theorem ClsNs.pair {mg : Str → Option Value} : ∀ {xs : List Str} {vs : List V} {us : List Value}, ClsNs mg xs vs us → Paired ClsV vs us
  | _, _, _, .nil => .nil
  | _, _, _, .cons h t => .cons h.1 t.pair
theorem ClsNs.len {mg : Str → Option Value} : ∀ {xs : List Str} {vs : List V} {us : List Value}, ClsNs mg xs vs us → vs.length = xs.length
  | _, _, _, .nil => rfl
  | _, _, _, .cons _ t => by simp [t.len]
def IsT (K : PySem.W.Frag) (mg : Str → Option Value) (xs : List Str) (l : List (Str × Bool)) : Prop := ∃ vs us, ClsNs mg xs vs us ∧ PySem.W.kitAny K (.type "NoneType") us = some false ∧ ∀ cn b, l.lookup cn = some b → ∃ D, mg cn = some (.ref D) ∧ ExcC K D ∧ PySem.W.kitAny K (.ref D) us = some b
def nmsE (xs : List (Str × Pos)) : List Expr := xs.map fun p => .Name p.1 p.2
theorem pa_names : ∀ {xs : List (Str × Pos)} {vs : List V} {us : List Value}, ClsNs X.mg (xs.map (·.1)) vs us → (∀ p ∈ xs, Gl X p.1) → PA X (nmsE xs) (fun _ H Q => Q vs H)
  | [], _, _, h, _ => by cases h; exact pa_nil
  | (x, p) :: xs, _, _, h, hg => by
    cases h with
    | cons h t =>
      exact pa_cons (pe_cls h (hg _ List.mem_cons_self)) (pa_names t fun q hq => hg q (List.mem_cons_of_mem _ hq)) rfl
theorem mIsCT {xs : List (Str × Pos)} {es : List Expr} {l : List (Str × Bool)} {p pt : Pos} {kk : Nat} {e : Expr} {f : FE} (hcl : c.cl = clOf X.mg) (T : IsT X.K X.mg (xs.map (·.1)) l) (hes : es = nmsE xs) (hm : X.mg "isinstance" = none) (he : PE X e (tM c Z f)) (hlen : xs.length ≤ 1000) (hgs : ∀ p ∈ xs, Gl X p.1) (hg : Gl X "isinstance" := by rfl)
    (hs : starEach [e, .Tuple es kk pt] X.env = (false, eval e X.env) :: starEach [.Tuple es kk pt] X.env := by rfl) (hs2 : starEach [.Tuple es kk pt] X.env = (false, eval (.Tuple es kk pt) X.env) :: starEach [] X.env := by rfl) (hpl : (backTo pos (starEach [.Tuple es kk pt] X.env)).any (·.1) = false := by rfl) :
    PE X (.Call (.Name "isinstance" p) [e, .Tuple es kk pt] [] pos) (tM c Z (eIsC l f)) := by
  subst hes
  obtain ⟨vs, us, N, hn, hl⟩ := T
  have ln := N.len
  rw [List.length_map] at ln
  refine (pe_callB (CallR.or (call_isiT (X := X)) (call_isET (X := X))) hg hm (by decide +kernel) (pa_cons he (pa_cons (pe_tup (pa_names N hgs)) pa_nil hs2) hs) (by decide) (by decide) hs hpl).imp fun σ H Q h => ?_
  show tM c Z f σ H _
  refine (tG.seq (rep := RepW) h).imp fun w' H1 ⟨F1, α1, G1, s, w, A1, r1, h1⟩ => ?_
  refine ⟨by rw [ln]; exact Nat.le_trans hlen (by decide), fun q hq => ?_⟩
  have R2 := A1.rel.skip hq (.tup vs)
  unfold wIsC at h1
  split at h1
  · cases (show RepD c.K F1 w' .non from r1)
    exact .inl ⟨.non, q, vs, .type "NoneType", us, false, rfl, upd_same, N.pair, .base .non, hn, h1 F1 α1 _ _ Ext.refl R2 (RepD.bl _)⟩
  · rename_i i
    split at h1
    · rename_i cn fs eg
      split at h1
      · rename_i b el
        obtain ⟨C, d, a, q1, q2, q3⟩ := err_at R2 eg
        obtain ⟨D, k1, k2, k3⟩ := hl cn b el
        have : D = C := by
          rw [hcl] at q2
          simp only [clOf, k1, Option.some.injEq] at q2
          exact q2
        subst this
        exact .inr ⟨α1 i, a, D, q, d, vs, us, b, by rw [r1.2], q1, q3, k2, upd_same, N.pair, k3, h1 F1 α1 _ _ Ext.refl R2 (RepD.bl _)⟩
      · exact h1.elim
    · exact h1.elim
  · exact h1.elim
end
/-! what the top has written -/
def HitL (K : PySem.W.Frag) (mg : Str → Option Value) (Cc : Addr) : List (Str × Bool) → Prop
  | [] => True
  | (x, b) :: r => (∃ C, mg x = some (.ref C) ∧ PySem.W.exmOne K (.ref C) (.ref Cc) = some b) ∧ HitL K mg Cc r
theorem HitL.at_ {K : PySem.W.Frag} {mg : Str → Option Value} {Cc : Addr} : ∀ {l : List (Str × Bool)}, HitL K mg Cc l → ∀ x b, l.lookup x = some b → ∃ C, mg x = some (.ref C) ∧ PySem.W.exmOne K (.ref C) (.ref Cc) = some b
  | (y, k) :: r, h, x, b, e => by
    by_cases hx : x = y
    · subst hx
      simp at e; subst e
      exact h.1
    · have hb : (x == y) = false := beq_eq_false_iff_ne.mpr hx
      simp only [List.lookup, hb] at e
      exact HitL.at_ h.2 x b e
def IsL (K : PySem.W.Frag) (mg : Str → Option Value) (ask : Value → Option Bool) : List (Str × Bool) → Prop
  | [] => True
  | (x, b) :: r => (∃ D, mg x = some (.ref D) ∧ ExcC K D ∧ ask (.ref D) = some b) ∧ IsL K mg ask r
theorem IsL.at_ {K : PySem.W.Frag} {mg : Str → Option Value} {ask : Value → Option Bool} : ∀ {l : List (Str × Bool)}, IsL K mg ask l → ∀ x b, l.lookup x = some b → ∃ D, mg x = some (.ref D) ∧ ExcC K D ∧ ask (.ref D) = some b
  | (y, k) :: r, h, x, b, e => by
    by_cases hx : x = y
    · subst hx
      simp at e; subst e
      exact h.1
    · have hb : (x == y) = false := beq_eq_false_iff_ne.mpr hx
      simp only [List.lookup, hb] at e
      exact IsL.at_ h.2 x b e
section
variable {K : PySem.W.Frag} {mg : Str → Option Value} {h : Heap}
theorem hits_mk {cn : Str} {Cc : Addr} {l : List (Str × Bool)} (X : K.In h) (G : h.Ns mainGlobals mg) (aC : PySem.W.nsIn K mainGlobals cn = some (some (.ref Cc))) (q : HitL K mg Cc l) : Hits K mg cn l := ⟨Cc, PySem.W.mg_of X G aC, fun x b e => q.at_ x b e⟩
theorem hit_one {x : Str} {b : Bool} {C Cc : Addr} {l : List (Str × Bool)} (X : K.In h) (G : h.Ns mainGlobals mg) (aC : PySem.W.nsIn K mainGlobals x = some (some (.ref C))) (e : PySem.W.exmOne K (.ref C) (.ref Cc) = some b) (q : HitL K mg Cc l) : HitL K mg Cc ((x, b) :: l) := ⟨⟨C, PySem.W.mg_of X G aC, e⟩, q⟩
theorem is_one {x : Str} {b : Bool} {D : Addr} {ask : Value → Option Bool} {l : List (Str × Bool)} (X : K.In h) (G : h.Ns mainGlobals mg) (aC : PySem.W.nsIn K mainGlobals x = some (some (.ref D))) (E : ExcC K D) (e : ask (.ref D) = some b) (q : IsL K mg ask l) : IsL K mg ask ((x, b) :: l) := ⟨⟨D, PySem.W.mg_of X G aC, E, e⟩, q⟩
theorem clsN_own {x : Str} {C : Addr} (X : K.In h) (G : h.Ns mainGlobals mg) (aC : PySem.W.nsIn K mainGlobals x = some (some (.ref C))) (hd : (x == ("__debug__" : Str)) = false) : ClsN mg x (.ref C) (.ref C) := ⟨.own C, rfl, .inl (PySem.W.mg_of X G aC), hd⟩
theorem clsN_VE (X : K.In h) (G : h.Ns mainGlobals mg) (n : PySem.W.nsIn K mainGlobals "ValueError" = some none) : ClsN mg "ValueError" (.ty "ValueError") (.type "ValueError") :=
  ⟨.ty _, rfl, .inr ⟨PySem.W.mg_none_of X G n, by decide +kernel, by decide⟩, by decide⟩
theorem is1_mk {x : Str} {v : V} {u : Value} {l : List (Str × Bool)} (N : ClsN mg x v u) (n : PySem.W.kitOne K (.type "NoneType") u = some false) (q : IsL K mg (fun t => PySem.W.kitOne K t u) l) : Is1 K mg x l := ⟨v, u, N, n, fun x b e => q.at_ x b e⟩
theorem isT_mk {xs : List Str} {vs : List V} {us : List Value} {l : List (Str × Bool)} (N : ClsNs mg xs vs us) (n : PySem.W.kitAny K (.type "NoneType") us = some false) (q : IsL K mg (fun t => PySem.W.kitAny K t us) l) : IsT K mg xs l := ⟨vs, us, N, n, fun x b e => q.at_ x b e⟩
end
/-! what k_is has no answer for, from what it has -/
section
variable {K : PySem.W.Frag} {t : Value} {C : Addr} {b : Bool}
theorem kit_own (h2 : PySem.W.isClsIn K C = true) (h3 : PySem.W.typeIn K (.ref C) = some (.type "type")) (h5 : PySem.W.subIn K (.ref C) (.ref C) = some true) (h4 : PySem.W.subIn K t (.ref C) = some b) : PySem.W.kitOne K t (.ref C) = some b := by
  have e2 : ((PySem.W.clsIn K C).isSome && PySem.W.typeIn K (.ref C) == some (.type "type")) = true := by
    have h2' : (PySem.W.clsIn K C).isSome = true := h2
    rw [h2', h3] <;> rfl
  show (if (t == .ref C) = true then some true else (if ((PySem.W.clsIn K C).isSome && PySem.W.typeIn K (.ref C) == some (.type "type")) = true then PySem.W.subIn K t (.ref C) else none)) = some b
  rw [if_pos e2]
  by_cases ht : (t == Value.ref C) = true
  · rw [if_pos ht]
    have := beq_iff_eq.mp ht
    subst this
    rw [h5] at h4; exact h4
  · rw [if_neg ht]; exact h4
theorem exm_own (h1 : PySem.W.subIn K (.ref C) (.type "BaseException") = some true) (h2 : PySem.W.isClsIn K C = true) (h3 : PySem.W.typeIn K (.ref C) = some (.type "type")) (h4 : PySem.W.subIn K t (.ref C) = some b) : PySem.W.exmOne K t (.ref C) = some b := by
  have e1 : (PySem.W.subIn K (.ref C) (.type "BaseException") == some true) = true := by rw [h1] <;> rfl
  have e2 : ((PySem.W.clsIn K C).isSome && PySem.W.typeIn K (.ref C) == some (.type "type")) = true := by
    have h2' : (PySem.W.clsIn K C).isSome = true := h2
    rw [h2', h3] <;> rfl
  show (if (PySem.W.subIn K (.ref C) (.type "BaseException") == some true) = true then (if ((PySem.W.clsIn K C).isSome && PySem.W.typeIn K (.ref C) == some (.type "type")) = true then PySem.W.subIn K t (.ref C) else none) else none) = some b
  rw [if_pos e1, if_pos e2]
  exact h4
theorem kit_VE (hne : (t == Value.type "ValueError") = false) (h4 : PySem.W.subIn K t (.type "ValueError") = some b) : PySem.W.kitOne K t (.type "ValueError") = some b := by
  show (if (t == Value.type "ValueError") = true then some true else (if PySem.W.kitMeta "ValueError" = true then PySem.W.subIn K t (.type "ValueError") else none)) = some b
  rw [if_neg (by rw [hne]; exact Bool.false_ne_true), if_pos (by decide +kernel)]
  exact h4
theorem kit_consT {c : Value} {r : List Value} (h1 : PySem.W.kitOne K t c = some true) : PySem.W.kitAny K t (c :: r) = some true := by
  simp only [PySem.W.kitAny, h1]
theorem kit_consF {c : Value} {r : List Value} (h1 : PySem.W.kitOne K t c = some false) (h2 : PySem.W.kitAny K t r = some b) : PySem.W.kitAny K t (c :: r) = some b := by
  simp only [PySem.W.kitAny, h1, h2]
end
end M

set_option maxRecDepth 100000
set_option maxHeartbeats 4000000
/-! dict(zip(a, b)): the walk of a zip while its pairs are kept -/
namespace M
open PySem PySem.Spec PyProof.Rows L2
/-- what a zip takes its items from -/
structure Src (P : Program) (w : World) (i l : Addr) (xs : Array Value) (St : Nat → Heap → Prop) : Prop where
  put : ∀ (A : Around) (t : Shared) (k : Nat) (x : Value) (Q : Value → Shared → Prop) (E : Value → Shared → Prop), St k t.heap → xs[k]? = some x →
    (∀ g, St (k + 1) g → Heap.SameBut i t.heap g → Q x { t with heap := g }) → wpAny (model P w) A (Builtin.SmallTypes.nextOf (.ref i)) Q E t
  fin : ∀ (A : Around) (t : Shared) (k : Nat) (Q : Value → Shared → Prop) (E : Value → Shared → Prop), A.handled = none → St k t.heap → xs[k]? = none →
    (∀ g e, Heap.ExtBut i t.heap g → (∃ o, g.get? e = some o ∧ o.cls = .type "StopIteration") → E (.ref e) { t with heap := g }) → wpAny (model P w) A (Builtin.SmallTypes.nextOf (.ref i)) Q E t
  keep : ∀ k g g', St k g → (∀ o, g.get? i = some o → g'.get? i = some o) → (∀ o, g.get? l = some o → g'.get? l = some o) → St k g'
  ex : ∀ k g, St k g → (∃ o, g.get? i = some o) ∧ ∃ o, g.get? l = some o
theorem src_list {P : Program} {w : World} {i l : Addr} {xs : Array Value} (ne : l ≠ i) : Src P w i l xs fun k g => g.IsListIter i l k ∧ g.IsList l xs where
  put A t k x Q E g e q := wpAny_nextOf_list_item g.1 g.2 e fun h' a b => q h' ⟨a, g.2.extBut b.extBut ne⟩ b
  fin A t k Q E hh g e q := wpAny_nextOf_list_end hh g.1 g.2 e q
  keep k g g' s a b := ⟨s.1.at a, s.2.at b⟩
  ex k g s := let ⟨⟨_, a, _⟩, ⟨_, b, _⟩⟩ := s; ⟨⟨_, a⟩, ⟨_, b⟩⟩
theorem src_tup {P : Program} {w : World} {i l : Addr} {xs : Array Value} (ne : l ≠ i) : Src P w i l xs fun k g => g.IsTupleIter i l k ∧ g.IsTuple l xs where
  put A t k x Q E g e q := RZ.nextOf_tuple_item g.1 g.2 e fun h' a b => q h' ⟨a, g.2.extBut b.extBut ne⟩ b
  fin A t k Q E hh g e q := RZ.nextOf_tuple_end hh g.1 g.2 e q
  keep k g g' s a b := ⟨s.1.at a, s.2.at b⟩
  ex k g s := let ⟨⟨_, a, _⟩, ⟨_, b, _⟩⟩ := s; ⟨⟨_, a⟩, ⟨_, b⟩⟩
section
variable {P : Program} {w : World} {A : Around} {E : Value → Shared → Prop} {t : Shared} {zp TI TO ia ib la lb T : Addr} {xs ys : Array Value} {Fa Ga : Nat → Heap → Prop} {k : Nat}
theorem Src.but {i l : Addr} (S : Src P w i l xs Fa) {b : Addr} {g g' : Heap} (a : Fa k g) (e : Heap.ExtBut b g g') (n1 : i ≠ b) (n2 : l ≠ b) : Fa k g' :=
  S.keep k g g' a (fun o u => e _ _ n1 u) fun o u => e _ _ n2 u
theorem zz_put {x y a b : Value} {Q : Value → Shared → Prop} (S : Src P w ia la xs Fa) (S' : Src P w ib lb ys Ga) (D : ZipApart zp TI TO ia ib la lb)
    (gz : IsZip t.heap zp TI TO .none) (gI : IsPair t.heap TI (.ref ia) (.ref ib)) (gO : IsPair t.heap TO a b) (ga : Fa k t.heap) (gb : Ga k t.heap) (ex : xs[k]? = some x) (ey : ys[k]? = some y)
    (q : ∀ g, IsZip g zp TI TO (rawInt t.heap.objs.size) → Fa (k + 1) g → Ga (k + 1) g → IsPair g t.heap.objs.size x y →
      (∀ c o, c ≠ zp → c ≠ TO → c ≠ ia → c ≠ ib → t.heap.get? c = some o → g.get? c = some o) → Q (.ref t.heap.objs.size) { t with heap := g }) :
    wpAny (model P w) A (Builtin.«zip.__next__» ⟨[.ref zp], []⟩) (fun r u => ∃ v, r = .done (.ret v) ∧ Q v u) E t := by
  show wpAny _ _ (field (.ref zp) 2 >>= _) _ _ _
  refine wpAny_bind (wpAny_field gz rfl (x := .bool false) rfl ?_)
  show wpAny _ _ (field (.ref zp) 3 >>= _) _ _ _
  refine wpAny_bind (wpAny_field gz rfl (x := .ref TI) rfl ?_)
  refine wpAny_bind (wpAny_seqItems gI rfl ?_)
  show wpAny _ _ (Builtin.SmallTypes.ownedTupleIsFree (.ref zp) >>= _) _ _ _
  refine wpAny_bind ?_
  (unfold Builtin.SmallTypes.ownedTupleIsFree)
  refine wpAny_bind (wpAny_field gz rfl (x := .none) rfl (wpAny_pure ?_))
  simp only [if_true]
  refine wpAny_bind (wpAny_rule ?_)
  refine wpAny_bind (wpAny_field gz rfl (x := .ref TO) rfl ?_)
  refine wpAny_bind (wpAny_setField_rec gz (by simp) fun g1 gz1 e1 => ?_)
  replace gz1 : IsZip g1 zp TI TO .ellipsis := gz1
  refine wpAny_bind ?_
  (simp only [List.zipIdx_cons, List.zipIdx_nil, List.forIn_cons, List.forIn_nil])
  refine wpAny_bind (wpAny_bind (wpAny_onRaise ?_))
  show wpAny _ _ (Builtin.SmallTypes.nextOf (.ref ia) >>= _) _ _ _
  refine wpAny_bind (S.put _ _ k x _ _ (S.but ga e1.extBut D.i1z D.l1z) ex fun g2 ga2 e2 => wpAny_pure ?_)
  have gO2 : IsPair g2 TO a b := e2.extBut _ _ D.TOi1 (e1.extBut _ _ D.TOz gO)
  refine wpAny_bind (wpAny_seqItems gO2 rfl ?_)
  refine wpAny_bind (wpAny_updateSeq_pair gO2 fun g3 gO3 e3 => ?_)
  replace gO3 : IsPair g3 TO x b := gO3
  (refine wpAny_bind (wpAny_letGo (wpAny_pure ?_)))
  refine wpAny_bind (wpAny_bind (wpAny_onRaise ?_))
  show wpAny _ _ (Builtin.SmallTypes.nextOf (.ref ib) >>= _) _ _ _
  refine wpAny_bind (S'.put _ _ k y _ _ (S'.but (S'.but (S'.but gb e1.extBut D.i2z D.l2z) e2.extBut D.i12.symm D.l2i1) e3.extBut D.TOi2.symm D.l2TO) ey fun g4 gb4 e4 => wpAny_pure ?_)
  have gO4 : IsPair g4 TO x b := e4.extBut _ _ D.TOi2 gO3
  refine wpAny_bind (wpAny_seqItems gO4 rfl ?_)
  refine wpAny_bind (wpAny_updateSeq_pair gO4 fun g5 gO5 e5 => ?_)
  replace gO5 : IsPair g5 TO x y := gO5
  (refine wpAny_bind (wpAny_letGo (wpAny_pure (wpAny_pure ?_))))
  refine wpAny_bind (wpAny_seqItems gO5 rfl ?_)
  refine wpAny_bind (wpAny_newTuple ?_)
  have sz : g5.objs.size = t.heap.objs.size := by rw [e5.1, e4.1, e3.1, e2.1, e1.1]
  have gz5 : IsZip g5 zp TI TO .ellipsis := e5.extBut _ _ D.TOz.symm (e4.extBut _ _ D.i2z.symm (e3.extBut _ _ D.TOz.symm (e2.extBut _ _ D.i1z.symm gz1)))
  have old : ∀ c o, c ≠ zp → c ≠ TO → c ≠ ia → c ≠ ib → t.heap.get? c = some o → g5.get? c = some o := fun c o n1 n2 n3 n4 u =>
    e5.extBut _ _ n2 (e4.extBut _ _ n4 (e3.extBut _ _ n2 (e2.extBut _ _ n3 (e1.extBut _ _ n1 u))))
  have ga5 : Fa (k + 1) g5 := S.but (S.but (S.but ga2 e3.extBut D.TOi1.symm D.l1TO) e4.extBut D.i12 D.l1i2) e5.extBut D.TOi1.symm D.l1TO
  have gb5 : Ga (k + 1) g5 := S'.but gb4 e5.extBut D.TOi2.symm D.l2TO
  have lz : zp < g5.objs.size := Heap.lt_size gz5
  show wpAny _ _ (Builtin.SmallTypes.ownedTupleHandOut (.ref zp) (.ref g5.objs.size) >>= _) _ _ _
  refine wpAny_bind ?_
  (unfold Builtin.SmallTypes.ownedTupleHandOut)
  have gz6 : IsZip (g5.push { cls := .type "tuple", data := .seq #[x, y] }) zp TI TO .ellipsis := Heap.get?_push_of_some _ gz5
  refine wpAny_bind (wpAny_setField_rec gz6 (by simp) fun g7 gz7 e7 => ?_)
  replace gz7 : IsZip g7 zp TI TO (rawInt g5.objs.size) := gz7
  refine wpAny_setField_rec gz7 (by simp) fun g8 gz8 e8 => ?_
  replace gz8 : IsZip g8 zp TI TO (rawInt g5.objs.size) := gz8
  have up : ∀ c o, c ≠ zp → g5.get? c = some o → g8.get? c = some o := fun c o n u => e8.extBut _ _ n (e7.extBut _ _ n (Heap.get?_push_of_some _ u))
  have gT : IsPair g8 g5.objs.size x y := e8.extBut _ _ (Nat.ne_of_gt lz) (e7.extBut _ _ (Nat.ne_of_gt lz) (Heap.get?_push_size _ rfl))
  rw [sz] at gz8 gT
  refine wpAny_pure ⟨_, rfl, ?_⟩
  show Q (.ref g5.objs.size) _
  rw [sz]
  exact q g8 gz8 (S.keep _ _ _ ga5 (fun o u => up _ o D.i1z u) fun o u => up _ o D.l1z u) (S'.keep _ _ _ gb5 (fun o u => up _ o D.i2z u) fun o u => up _ o D.l2z u) gT fun c o n1 n2 n3 n4 u => up c o n1 (old c o n1 n2 n3 n4 u)
theorem zz_fin {a b : Value} {Q : PySem.Fin → Shared → Prop} (hh : A.handled = none) (S : Src P w ia la xs Fa) (S' : Src P w ib lb ys Ga) (D : ZipApart zp TI TO ia ib la lb)
    (gz : IsZip t.heap zp TI TO .none) (gI : IsPair t.heap TI (.ref ia) (.ref ib)) (gO : IsPair t.heap TO a b) (ga : Fa k t.heap) (gb : Ga k t.heap) (en : xs[k]? = none ∨ ys[k]? = none)
    (q : ∀ g e, (∀ c o, c ≠ zp → c ≠ TO → c ≠ ia → c ≠ ib → t.heap.get? c = some o → g.get? c = some o) → (∃ o, g.get? e = some o ∧ o.cls = .type "StopIteration") → E (.ref e) { t with heap := g }) :
    wpAny (model P w) A (Builtin.«zip.__next__» ⟨[.ref zp], []⟩) Q E t := by
  show wpAny _ _ (field (.ref zp) 2 >>= _) _ _ _
  refine wpAny_bind (wpAny_field gz rfl (x := .bool false) rfl ?_)
  show wpAny _ _ (field (.ref zp) 3 >>= _) _ _ _
  refine wpAny_bind (wpAny_field gz rfl (x := .ref TI) rfl ?_)
  refine wpAny_bind (wpAny_seqItems gI rfl ?_)
  show wpAny _ _ (Builtin.SmallTypes.ownedTupleIsFree (.ref zp) >>= _) _ _ _
  refine wpAny_bind ?_
  (unfold Builtin.SmallTypes.ownedTupleIsFree)
  refine wpAny_bind (wpAny_field gz rfl (x := .none) rfl (wpAny_pure ?_))
  simp only [if_true]
  refine wpAny_bind (wpAny_rule ?_)
  refine wpAny_bind (wpAny_field gz rfl (x := .ref TO) rfl ?_)
  refine wpAny_bind (wpAny_setField_rec gz (by simp) fun g1 gz1 e1 => ?_)
  replace gz1 : IsZip g1 zp TI TO .ellipsis := gz1
  refine wpAny_bind ?_
  (simp only [List.zipIdx_cons, List.zipIdx_nil, List.forIn_cons, List.forIn_nil])
  refine wpAny_bind (wpAny_bind (wpAny_onRaise ?_))
  show wpAny _ _ (Builtin.SmallTypes.nextOf (.ref ia) >>= _) _ _ _
  have stop : ∀ {g g' : Heap} {e : Addr}, IsZip g zp TI TO .ellipsis → (∃ o, g.get? e = some o ∧ o.cls = .type "StopIteration") → e ≠ zp := fun u ⟨o, h1, h2⟩ z => by
    subst z
    rw [u] at h1
    cases h1
    simp at h2
  cases ex : xs[k]? with
  | none =>
    refine wpAny_bind (S.fin _ _ k _ _ hh (S.but ga e1.extBut D.i1z D.l1z) ex fun g2 e e2 he => ?_)
    have gz2 : IsZip g2 zp TI TO .ellipsis := e2 _ _ D.i1z.symm gz1
    have ne := stop (g' := g2) gz2 he
    obtain ⟨oe, h1, h2⟩ := he
    exact wpAny_setField_rec gz2 (by simp) fun g3 _ e3 => q g3 e (fun c o n1 _ n3 _ u => e3.extBut _ _ n1 (e2 _ _ n3 (e1.extBut _ _ n1 u))) ⟨oe, e3.extBut _ _ ne h1, h2⟩
  | some x =>
    have ey : ys[k]? = none := by rcases en with h | h; rw [ex] at h; cases h; exact h
    refine wpAny_bind (S.put _ _ k x _ _ (S.but ga e1.extBut D.i1z D.l1z) ex fun g2 ga2 e2 => wpAny_pure ?_)
    have gO2 : IsPair g2 TO a b := e2.extBut _ _ D.TOi1 (e1.extBut _ _ D.TOz gO)
    refine wpAny_bind (wpAny_seqItems gO2 rfl ?_)
    refine wpAny_bind (wpAny_updateSeq_pair gO2 fun g3 gO3 e3 => ?_)
    (refine wpAny_bind (wpAny_letGo (wpAny_pure ?_)))
    refine wpAny_bind (wpAny_bind (wpAny_onRaise ?_))
    show wpAny _ _ (Builtin.SmallTypes.nextOf (.ref ib) >>= _) _ _ _
    refine wpAny_bind (S'.fin _ _ k _ _ hh (S'.but (S'.but (S'.but gb e1.extBut D.i2z D.l2z) e2.extBut D.i12.symm D.l2i1) e3.extBut D.TOi2.symm D.l2TO) ey fun g4 e e4 he => ?_)
    have gz4 : IsZip g4 zp TI TO .ellipsis := e4 _ _ D.i2z.symm (e3.extBut _ _ D.TOz.symm (e2.extBut _ _ D.i1z.symm gz1))
    have ne := stop (g' := g4) gz4 he
    obtain ⟨oe, h1, h2⟩ := he
    exact wpAny_setField_rec gz4 (by simp) fun g5 _ e5 => q g5 e (fun c o n1 n2 n3 n4 u => e5.extBut _ _ n1 (e4 _ _ n4 (e3.extBut _ _ n2 (e2.extBut _ _ n3 (e1.extBut _ _ n1 u))))) ⟨oe, e5.extBut _ _ ne h1, h2⟩
theorem zz_putH {x y : Value} {f : Bool} {oT : Obj} {Q : Value → Shared → Prop} (S : Src P w ia la xs Fa) (S' : Src P w ib lb ys Ga) (D : ZipApart zp TI TO ia ib la lb)
    (gz : IsZipHeld t.heap zp TI TO T f) (gT : t.heap.get? T = some oT) (gI : IsPair t.heap TI (.ref ia) (.ref ib)) (ga : Fa k t.heap) (gb : Ga k t.heap) (ex : xs[k]? = some x) (ey : ys[k]? = some y)
    (q : ∀ g, IsZipHeld g zp TI TO T true → Fa (k + 1) g → Ga (k + 1) g → IsPair g t.heap.objs.size x y →
      (∀ c o, c ≠ zp → c ≠ ia → c ≠ ib → t.heap.get? c = some o → g.get? c = some o) → Q (.ref t.heap.objs.size) { t with heap := g }) :
    wpAny (model P w) A (Builtin.«zip.__next__» ⟨[.ref zp], []⟩) (fun r u => ∃ v, r = .done (.ret v) ∧ Q v u) E t := by
  show wpAny _ _ (field (.ref zp) 2 >>= _) _ _ _
  refine wpAny_bind (wpAny_field gz rfl (x := .bool false) rfl ?_)
  show wpAny _ _ (field (.ref zp) 3 >>= _) _ _ _
  refine wpAny_bind (wpAny_field gz rfl (x := .ref TI) rfl ?_)
  refine wpAny_bind (wpAny_seqItems gI rfl ?_)
  show wpAny _ _ (Builtin.SmallTypes.ownedTupleIsFree (.ref zp) >>= _) _ _ _
  refine wpAny_bind (wpAny_tupleHeld_zip gz gT fun g1 gz1 e1 => ?_)
  simp only [Bool.false_eq_true, if_false]
  refine wpAny_bind ?_
  rw [← Array.forIn_toList]
  (simp only [List.forIn_cons, List.forIn_nil])
  refine wpAny_bind (wpAny_bind (wpAny_holding ?_))
  show wpAny _ _ (Builtin.SmallTypes.nextOf (.ref ia) >>= _) _ _ _
  refine wpAny_bind (S.put _ { t with heap := g1 } k x _ _ (S.but ga e1.extBut D.i1z D.l1z) ex fun g2 ga2 e2 => wpAny_pure ?_)
  refine wpAny_pure ?_
  refine wpAny_bind (wpAny_bind (wpAny_holding ?_))
  show wpAny _ _ (Builtin.SmallTypes.nextOf (.ref ib) >>= _) _ _ _
  refine wpAny_bind (S'.put _ { t with heap := g2 } k y _ _ (S'.but (S'.but gb e1.extBut D.i2z D.l2z) e2.extBut D.i12.symm D.l2i1) ey fun g3 gb3 e3 => wpAny_pure ?_)
  refine wpAny_pure (wpAny_pure ?_)
  show wpAny _ _ (newTuple [x, y] >>= _) _ _ _
  refine wpAny_bind (wpAny_newTuple ?_)
  have sz : g3.objs.size = t.heap.objs.size := by rw [e3.1, e2.1, e1.1]
  have gz3 : IsZipHeld g3 zp TI TO T true := e3.extBut _ _ D.i2z.symm (e2.extBut _ _ D.i1z.symm gz1)
  refine wpAny_pure ⟨_, rfl, ?_⟩
  show Q (.ref g3.objs.size) _
  have gp : IsPair (g3.push { cls := .type "tuple", data := .seq #[x, y] }) g3.objs.size x y := Heap.get?_push_size _ rfl
  rw [sz] at gp ⊢
  exact q _ (Heap.get?_push_of_some _ gz3) (S.keep _ _ _ (S.but ga2 e3.extBut D.i12 D.l1i2) (fun o u => Heap.get?_push_of_some _ u) fun o u => Heap.get?_push_of_some _ u) (S'.keep _ _ _ gb3 (fun o u => Heap.get?_push_of_some _ u) fun o u => Heap.get?_push_of_some _ u) gp
    fun c o n1 n2 n3 u => Heap.get?_push_of_some _ (e3.extBut _ _ n3 (e2.extBut _ _ n2 (e1.extBut _ _ n1 u)))
theorem zz_finH {f : Bool} {oT : Obj} {Q : PySem.Fin → Shared → Prop} (hh : A.handled = none) (S : Src P w ia la xs Fa) (S' : Src P w ib lb ys Ga) (D : ZipApart zp TI TO ia ib la lb)
    (gz : IsZipHeld t.heap zp TI TO T f) (gT : t.heap.get? T = some oT) (gI : IsPair t.heap TI (.ref ia) (.ref ib)) (ga : Fa k t.heap) (gb : Ga k t.heap) (en : xs[k]? = none ∨ ys[k]? = none)
    (q : ∀ g e, (∀ c o, c ≠ zp → c ≠ ia → c ≠ ib → t.heap.get? c = some o → g.get? c = some o) → (∃ o, g.get? e = some o ∧ o.cls = .type "StopIteration") → E (.ref e) { t with heap := g }) :
    wpAny (model P w) A (Builtin.«zip.__next__» ⟨[.ref zp], []⟩) Q E t := by
  show wpAny _ _ (field (.ref zp) 2 >>= _) _ _ _
  refine wpAny_bind (wpAny_field gz rfl (x := .bool false) rfl ?_)
  show wpAny _ _ (field (.ref zp) 3 >>= _) _ _ _
  refine wpAny_bind (wpAny_field gz rfl (x := .ref TI) rfl ?_)
  refine wpAny_bind (wpAny_seqItems gI rfl ?_)
  show wpAny _ _ (Builtin.SmallTypes.ownedTupleIsFree (.ref zp) >>= _) _ _ _
  refine wpAny_bind (wpAny_tupleHeld_zip gz gT fun g1 gz1 e1 => ?_)
  simp only [Bool.false_eq_true, if_false]
  refine wpAny_bind ?_
  rw [← Array.forIn_toList]
  (simp only [List.forIn_cons, List.forIn_nil])
  refine wpAny_bind (wpAny_bind (wpAny_holding ?_))
  show wpAny _ _ (Builtin.SmallTypes.nextOf (.ref ia) >>= _) _ _ _
  cases ex : xs[k]? with
  | none =>
    refine wpAny_bind (S.fin _ { t with heap := g1 } k _ _ hh (S.but ga e1.extBut D.i1z D.l1z) ex fun g2 e e2 he => ?_)
    exact q g2 e (fun c o n1 n2 _ u => e2 _ _ n2 (e1.extBut _ _ n1 u)) he
  | some x =>
    have ey : ys[k]? = none := by rcases en with h | h; rw [ex] at h; cases h; exact h
    refine wpAny_bind (S.put _ { t with heap := g1 } k x _ _ (S.but ga e1.extBut D.i1z D.l1z) ex fun g2 ga2 e2 => wpAny_pure ?_)
    refine wpAny_pure ?_
    refine wpAny_bind (wpAny_bind (wpAny_holding ?_))
    show wpAny _ _ (Builtin.SmallTypes.nextOf (.ref ib) >>= _) _ _ _
    refine wpAny_bind (S'.fin _ { t with heap := g2 } k _ _ hh (S'.but (S'.but gb e1.extBut D.i2z D.l2z) e2.extBut D.i12.symm D.l2i1) ey fun g3 e e3 he => ?_)
    exact q g3 e (fun c o n1 n2 n3 u => e3 _ _ n3 (e2.extBut _ _ n2 (e1.extBut _ _ n1 u))) he
theorem nx_put {x y a b : Value} {Q : Option Value → Shared → Prop} (S : Src P w ia la xs Fa) (S' : Src P w ib lb ys Ga) (D : ZipApart zp TI TO ia ib la lb)
    (gz : IsZip t.heap zp TI TO .none) (gI : IsPair t.heap TI (.ref ia) (.ref ib)) (gO : IsPair t.heap TO a b) (ga : Fa k t.heap) (gb : Ga k t.heap) (ex : xs[k]? = some x) (ey : ys[k]? = some y)
    (q : ∀ g, IsZip g zp TI TO (rawInt t.heap.objs.size) → Fa (k + 1) g → Ga (k + 1) g → IsPair g t.heap.objs.size x y →
      (∀ c o, c ≠ zp → c ≠ TO → c ≠ ia → c ≠ ib → t.heap.get? c = some o → g.get? c = some o) → Q (some (.ref t.heap.objs.size)) { t with heap := g }) :
    wpAny (model P w) A (pyNext (.ref zp)) Q E t := by
  have ty : t.TypeIs (.ref zp) "zip" := ⟨_, gz, rfl⟩
  unfold pyNext
  exact wpAny_bind (wpAny_attempt (wpAny_callSpecial?_slot (name := Str.ofString "__next__") ty F.slot_zip_next (wpAny_call_entry F.slot_zip_next ty F.entry_zip_next
    (zz_put S S' D gz gI gO ga gb ex ey fun g a1 a2 a3 a4 a5 => wpAny_pure (q g a1 a2 a3 a4 a5)) (F.args_zip_next_1 _))))
theorem nx_fin {a b : Value} {Q : Option Value → Shared → Prop} (hh : A.handled = none) (S : Src P w ia la xs Fa) (S' : Src P w ib lb ys Ga) (D : ZipApart zp TI TO ia ib la lb)
    (gz : IsZip t.heap zp TI TO .none) (gI : IsPair t.heap TI (.ref ia) (.ref ib)) (gO : IsPair t.heap TO a b) (ga : Fa k t.heap) (gb : Ga k t.heap) (en : xs[k]? = none ∨ ys[k]? = none)
    (q : ∀ g, (∀ c o, c ≠ zp → c ≠ TO → c ≠ ia → c ≠ ib → t.heap.get? c = some o → g.get? c = some o) → Q none { t with heap := g }) : wpAny (model P w) A (pyNext (.ref zp)) Q E t := by
  have ty : t.TypeIs (.ref zp) "zip" := ⟨_, gz, rfl⟩
  unfold pyNext
  refine wpAny_bind (wpAny_attempt (wpAny_callSpecial?_slot (name := Str.ofString "__next__") ty F.slot_zip_next (wpAny_call_entry F.slot_zip_next ty F.entry_zip_next
    (zz_fin hh S S' D gz gI gO ga gb en fun g e h1 h2 => ?_) (F.args_zip_next_1 _))))
  obtain ⟨o, u1, u2⟩ := h2
  exact wpAny_bind (wpAny_isInstance (T := "StopIteration") (b := true) ⟨o, u1, u2⟩ isSubtype_stop (wpAny_pure (q _ h1)))
theorem nx_putH {x y : Value} {f : Bool} {oT : Obj} {Q : Option Value → Shared → Prop} (S : Src P w ia la xs Fa) (S' : Src P w ib lb ys Ga) (D : ZipApart zp TI TO ia ib la lb)
    (gz : IsZipHeld t.heap zp TI TO T f) (gT : t.heap.get? T = some oT) (gI : IsPair t.heap TI (.ref ia) (.ref ib)) (ga : Fa k t.heap) (gb : Ga k t.heap) (ex : xs[k]? = some x) (ey : ys[k]? = some y)
    (q : ∀ g, IsZipHeld g zp TI TO T true → Fa (k + 1) g → Ga (k + 1) g → IsPair g t.heap.objs.size x y →
      (∀ c o, c ≠ zp → c ≠ ia → c ≠ ib → t.heap.get? c = some o → g.get? c = some o) → Q (some (.ref t.heap.objs.size)) { t with heap := g }) :
    wpAny (model P w) A (pyNext (.ref zp)) Q E t := by
  have ty : t.TypeIs (.ref zp) "zip" := ⟨_, gz, rfl⟩
  unfold pyNext
  exact wpAny_bind (wpAny_attempt (wpAny_callSpecial?_slot (name := Str.ofString "__next__") ty F.slot_zip_next (wpAny_call_entry F.slot_zip_next ty F.entry_zip_next
    (zz_putH S S' D gz gT gI ga gb ex ey fun g a1 a2 a3 a4 a5 => wpAny_pure (q g a1 a2 a3 a4 a5)) (F.args_zip_next_1 _))))
theorem nx_finH {f : Bool} {oT : Obj} {Q : Option Value → Shared → Prop} (hh : A.handled = none) (S : Src P w ia la xs Fa) (S' : Src P w ib lb ys Ga) (D : ZipApart zp TI TO ia ib la lb)
    (gz : IsZipHeld t.heap zp TI TO T f) (gT : t.heap.get? T = some oT) (gI : IsPair t.heap TI (.ref ia) (.ref ib)) (ga : Fa k t.heap) (gb : Ga k t.heap) (en : xs[k]? = none ∨ ys[k]? = none)
    (q : ∀ g, (∀ c o, c ≠ zp → c ≠ ia → c ≠ ib → t.heap.get? c = some o → g.get? c = some o) → Q none { t with heap := g }) : wpAny (model P w) A (pyNext (.ref zp)) Q E t := by
  have ty : t.TypeIs (.ref zp) "zip" := ⟨_, gz, rfl⟩
  unfold pyNext
  refine wpAny_bind (wpAny_attempt (wpAny_callSpecial?_slot (name := Str.ofString "__next__") ty F.slot_zip_next (wpAny_call_entry F.slot_zip_next ty F.entry_zip_next
    (zz_finH hh S S' D gz gT gI ga gb en fun g e h1 h2 => ?_) (F.args_zip_next_1 _))))
  obtain ⟨o, u1, u2⟩ := h2
  exact wpAny_bind (wpAny_isInstance (T := "StopIteration") (b := true) ⟨o, u1, u2⟩ isSubtype_stop (wpAny_pure (q _ h1)))
end
/-- a zip as what dict() takes its pairs from -/
theorem arg_zip {P : Program} {w : World} {Fa Ga : Nat → Heap → Prop} (zp TI TO ia ib la lb : Addr) (D : ZipApart zp TI TO ia ib la lb) (xs ys : Array Value) (S : Src P w ia la xs Fa) (S' : Src P w ib lb ys Ga) :
    PairArg P w "zip" zp [zp, TI, TO, ia, ib, la, lb] [zp, TO, ia, ib] (min xs.size ys.size) (fun i u v => xs[i]? = some u ∧ ys[i]? = some v)
      (fun g => IsZip g zp TI TO .none ∧ IsPair g TI (.ref ia) (.ref ib) ∧ (∃ a b, IsPair g TO a b) ∧ Fa 0 g ∧ Ga 0 g) where
  type := fun s ok => ⟨_, ok.1, rfl⟩
  notDict := by decide
  keep := fun g g' ok e => let ⟨h1, h2, ⟨a, b, h3⟩, h4, h5⟩ := ok
    ⟨e _ _ h1, e _ _ h2, ⟨a, b, e _ _ h3⟩, S.keep _ _ _ h4 (fun o u => e _ _ u) fun o u => e _ _ u, S'.keep _ _ _ h5 (fun o u => e _ _ u) fun o u => e _ _ u⟩
  there := fun g ok b hb => by
    obtain ⟨h1, h2, ⟨a, c, h3⟩, h4, h5⟩ := ok
    obtain ⟨⟨o1, e1⟩, ⟨o2, e2⟩⟩ := S.ex _ _ h4
    obtain ⟨⟨o3, e3⟩, ⟨o4, e4⟩⟩ := S'.ex _ _ h5
    simp only [List.mem_cons, List.not_mem_nil, or_false] at hb
    rcases hb with e | e | e | e | e | e | e
    all_goals subst e
    · exact ⟨_, h1⟩
    · exact ⟨_, h2⟩
    · exact ⟨_, h3⟩
    · exact ⟨_, e1⟩
    · exact ⟨_, e3⟩
    · exact ⟨_, e2⟩
    · exact ⟨_, e4⟩
  sub := fun b hb => by
    simp at hb ⊢
    rcases hb with e | e | e | e <;> simp [e]
  noKeys := fun A s Q E hA ok h => getAttrOr_miss_zip ok.1 rfl rfl rfl zip_no_keys (by decide +kernel) hA h
  iter := fun A s d Q E hA ok hd hdf h => by
    obtain ⟨h1, h2, ⟨a, b, h3⟩, h4, h5⟩ := ok
    (simp only [List.mem_cons, List.not_mem_nil, or_false, not_or] at hdf)
    obtain ⟨n1, n2, n3, n4, n5, n6, n7⟩ := hdf
    refine wpAny_pyIter_zip h1 (h zp [zp, TO, ia, ib] (fun i g => IsPair g TI (.ref ia) (.ref ib) ∧ Fa i g ∧ Ga i g ∧
      ((IsZip g zp TI TO .none ∧ ∃ a b, IsPair g TO a b) ∨ ∃ T f oT, IsZipHeld g zp TI TO T f ∧ g.get? T = some oT ∧ T ≠ zp ∧ T ≠ ia ∧ T ≠ ib ∧ T ≠ d)) s.heap s.toks ?_
      ⟨h2, h4, h5, .inl ⟨h1, a, b, h3⟩⟩ (fun _ _ e => e) fun b hb => .inl hb)
    exact {
      off := fun m => by
        simp only [List.mem_cons, List.not_mem_nil, or_false] at m
        rcases m with e | e | e | e
        · exact n1 e
        · exact n3 e
        · exact n4 e
        · exact n5 e
      frame := fun i g g' st e => by
        obtain ⟨p1, p2, p3, p4⟩ := st
        refine ⟨e _ _ (Ne.symm n2) p1, S.keep _ _ _ p2 (fun o u => e _ _ (Ne.symm n4) u) fun o u => e _ _ (Ne.symm n6) u, S'.keep _ _ _ p3 (fun o u => e _ _ (Ne.symm n5) u) fun o u => e _ _ (Ne.symm n7) u, ?_⟩
        rcases p4 with ⟨q1, a, b, q2⟩ | ⟨T, f, oT, q1, q2, r1, r2, r3, r4⟩
        · exact .inl ⟨e _ _ (Ne.symm n1) q1, a, b, e _ _ (Ne.symm n3) q2⟩
        · exact .inr ⟨T, f, oT, e _ _ (Ne.symm n1) q1, e _ _ r4 q2, r1, r2, r3, r4⟩
      item := fun i u Q' E' hi st hds q => by
        obtain ⟨p1, p2, p3, p4⟩ := st
        have ex := Array.getElem?_eq_getElem (Nat.lt_of_lt_of_le hi (Nat.min_le_left xs.size ys.size))
        have ey := Array.getElem?_eq_getElem (Nat.lt_of_lt_of_le hi (Nat.min_le_right xs.size ys.size))
        have lt : ∀ {c o}, u.heap.get? c = some o → u.heap.objs.size ≠ c := fun e => Nat.ne_of_gt (Heap.lt_size e)
        have m1 : u.heap.objs.size ≠ ia := let ⟨⟨_, e⟩, _⟩ := S.ex _ _ p2; lt e
        have m2 : u.heap.objs.size ≠ ib := let ⟨⟨_, e⟩, _⟩ := S'.ex _ _ p3; lt e
        rcases p4 with ⟨q1, a, b, q2⟩ | ⟨T, f, oT, q1, q2, r1, r2, r3, r4⟩
        · refine nx_put S S' D q1 p1 q2 p2 p3 ex ey fun g a1 a2 a3 a4 a5 => ?_
          exact q u.heap.objs.size _ _ g u.toks ⟨ex, ey⟩ (.inl ⟨_, a4, rfl, _, rfl⟩) ⟨a5 _ _ D.TIz D.TITO D.TIi1 D.TIi2 p1, a2, a3, .inr ⟨u.heap.objs.size, false, _, a1, a4, lt q1, m1, m2, Nat.ne_of_gt hds⟩⟩
            fun c o hc e => a5 c o (fun x => hc (by simp [x])) (fun x => hc (by simp [x])) (fun x => hc (by simp [x])) (fun x => hc (by simp [x])) e
        · refine nx_putH S S' D q1 q2 p1 p2 p3 ex ey fun g a1 a2 a3 a4 a5 => ?_
          exact q u.heap.objs.size _ _ g u.toks ⟨ex, ey⟩ (.inl ⟨_, a4, rfl, _, rfl⟩) ⟨a5 _ _ D.TIz D.TIi1 D.TIi2 p1, a2, a3, .inr ⟨T, true, oT, a1, a5 _ _ r1 r2 r3 q2, r1, r2, r3, r4⟩⟩
            fun c o hc e => a5 c o (fun x => hc (by simp [x])) (fun x => hc (by simp [x])) (fun x => hc (by simp [x])) e
      done := fun u Q' E' st q => by
        obtain ⟨p1, p2, p3, p4⟩ := st
        have en : xs[min xs.size ys.size]? = none ∨ ys[min xs.size ys.size]? = none := by
          rcases Nat.le_total xs.size ys.size with h | h
          · exact .inl (Array.getElem?_eq_none (by omega))
          · exact .inr (Array.getElem?_eq_none (by omega))
        rcases p4 with ⟨q1, a, b, q2⟩ | ⟨T, f, oT, q1, q2, r1, r2, r3, r4⟩
        · exact nx_fin hA S S' D q1 p1 q2 p2 p3 en fun g e => q g u.toks fun c o hc x => e c o (fun x => hc (by simp [x])) (fun x => hc (by simp [x])) (fun x => hc (by simp [x])) (fun x => hc (by simp [x])) x
        · exact nx_finH hA S S' D q1 q2 p1 p2 p3 en fun g e => q g u.toks fun c o hc x => e c o (fun x => hc (by simp [x])) (fun x => hc (by simp [x])) (fun x => hc (by simp [x])) x }
/-! zip(list, tuple) -/
def itO (b : Bool) (l : Addr) : Obj := { cls := .type (if b then "list_iterator" else "tuple_iterator"), data := .fields #[.ref l, .int 0 0] }
def zH1 (b : Bool) (h : Heap) (la : Addr) : Heap := h.push (itO b la)
def zH2 (b : Bool) (h : Heap) (la lb : Addr) : Heap := (zH1 b h la).push (itO false lb)
def zH3 (b : Bool) (h : Heap) (la lb : Addr) : Heap := (zH2 b h la lb).push { cls := .type "tuple", data := .seq #[.ref h.objs.size, .ref (zH1 b h la).objs.size] }
def zH4 (b : Bool) (h : Heap) (la lb : Addr) : Heap := (zH3 b h la lb).push { cls := .type "tuple", data := .seq #[.none, .none] }
def zH5 (b : Bool) (h : Heap) (la lb : Addr) : Heap := (zH4 b h la lb).push { cls := .type "zip", data := .fields #[.none, .bool false, .bool false, .ref (zH2 b h la lb).objs.size, .ref (zH3 b h la lb).objs.size] }
def SqB (b : Bool) (h : Heap) (l : Addr) (xs : Array Value) : Prop := if b then h.IsList l xs else h.IsTuple l xs
def StB (b : Bool) (i l : Addr) (xs : Array Value) : Nat → Heap → Prop := if b then (fun k g => g.IsListIter i l k ∧ g.IsList l xs) else fun k g => g.IsTupleIter i l k ∧ g.IsTuple l xs
theorem src_b {P : Program} {w : World} {i l : Addr} {xs : Array Value} (b : Bool) (ne : l ≠ i) : Src P w i l xs (StB b i l xs) := by
  cases b
  · exact src_tup ne
  · exact src_list ne
theorem SqB.at {b : Bool} {h h' : Heap} {l : Addr} {xs : Array Value} (s : SqB b h l xs) (e : ∀ o, h.get? l = some o → h'.get? l = some o) : SqB b h' l xs := by
  cases b
  · exact Heap.IsTuple.at s e
  · exact Heap.IsList.at s e
theorem SqB.ex {b : Bool} {h : Heap} {l : Addr} {xs : Array Value} (s : SqB b h l xs) : ∃ o, h.get? l = some o := by
  cases b
  · exact let ⟨_, a, _⟩ := s; ⟨_, a⟩
  · exact let ⟨_, a, _⟩ := s; ⟨_, a⟩
theorem stB_mk {b : Bool} {g : Heap} {i l : Addr} {xs : Array Value} (h1 : g.get? i = some (itO b l)) (h2 : SqB b g l xs) : StB b i l xs 0 g := by
  cases b
  · exact ⟨⟨_, h1, rfl, rfl⟩, h2⟩
  · exact ⟨⟨_, h1, rfl, rfl⟩, h2⟩
theorem meets_zipB (b : Bool) (la lb : Addr) (xs ys : Array Value) :
    Meets (Builtin.«zip.__new__» ⟨[.type "zip", .ref la, .ref lb], []⟩) (fun _ R s => SqB b s.heap la xs ∧ s.heap.IsTuple lb ys ∧
      R (.ok (.ret (.ref (zH4 b s.heap la lb).objs.size))) { s with heap := zH5 b s.heap la lb }) :=
  .of_wp fun prog w A R s h => by
    obtain ⟨hp, g, d, tk, os⟩ := s
    obtain ⟨s1, s2, h⟩ := h
    have hsub := sub_zip
    cases b
    · have l1 : Heap.IsTuple (Shared.heap ⟨hp, g, d, tk, os⟩) la xs := s1
      have l2 : Heap.IsTuple (Shared.heap ⟨hp.push { cls := .type "tuple_iterator", data := .fields #[.ref la, .int 0 0] }, g, d, tk, os⟩) lb ys := Heap.IsTuple.push s2 _
      wp_walk using wpAny_pyIter_tuple l1, wpAny_pyIter_tuple l2
      exact ⟨_, rfl, h⟩
    · have l1 : Heap.IsList (Shared.heap ⟨hp, g, d, tk, os⟩) la xs := s1
      have l2 : Heap.IsTuple (Shared.heap ⟨hp.push { cls := .type "list_iterator", data := .fields #[.ref la, .int 0 0] }, g, d, tk, os⟩) lb ys := Heap.IsTuple.push s2 _
      wp_walk using wpAny_pyIter_list l1, wpAny_pyIter_tuple l2
      exact ⟨_, rfl, h⟩
theorem call_zipB {P : Program} {w : World} {A : Around} {E : Value → Shared → Prop} {t : Shared} {b : Bool} {la lb : Addr} {xs ys : Array Value} {Q : Value → Shared → Prop} (s1 : SqB b t.heap la xs) (s2 : t.heap.IsTuple lb ys)
    (q : ∀ g zp TI TO ia ib, ZipApart zp TI TO ia ib la lb → la ≠ ia → lb ≠ ib → IsZip g zp TI TO .none → IsPair g TI (.ref ia) (.ref ib) → IsPair g TO .none .none → StB b ia la xs 0 g → StB false ib lb ys 0 g → t.heap.objs.size ≤ zp → t.heap.objs.size ≤ TO → t.heap.objs.size ≤ ia → t.heap.objs.size ≤ ib →
      t.heap.objs.size ≤ g.objs.size → (∀ c o, t.heap.get? c = some o → g.get? c = some o) → Q (.ref zp) { t with heap := g }) :
    wpAny (model P w) A (call (.type "zip") [.ref la, .ref lb]) Q E t := by
  refine callType_new F.called_zip (by decide) (F.typeCall_zip_2 _ _) (F.newCall_zip_2 _ _) (fun obj => F.args_object_init_3 obj _ _) F.entry_zip_new (meets_zipB b la lb xs ys) ⟨s1, s2, ?_⟩
  generalize hn : t.heap.objs.size = n
  have z1 : (zH1 b t.heap la).objs.size = n + 1 := by rw [zH1, Heap.size_push, hn]
  have z2 : (zH2 b t.heap la lb).objs.size = n + 2 := by rw [zH2, Heap.size_push, z1]
  have z3 : (zH3 b t.heap la lb).objs.size = n + 3 := by rw [zH3, Heap.size_push, z2]
  have z4 : (zH4 b t.heap la lb).objs.size = n + 4 := by rw [zH4, Heap.size_push, z3]
  have z5 : (zH5 b t.heap la lb).objs.size = n + 5 := by rw [zH5, Heap.size_push, z4]
  have g5 : (zH5 b t.heap la lb).get? (zH4 b t.heap la lb).objs.size = some { cls := .type "zip", data := .fields #[.none, .bool false, .bool false, .ref (zH2 b t.heap la lb).objs.size, .ref (zH3 b t.heap la lb).objs.size] } := Heap.get?_push_size _ rfl
  have u4 : ∀ c o, (zH4 b t.heap la lb).get? c = some o → (zH5 b t.heap la lb).get? c = some o := fun c o u => Heap.get?_push_of_some _ u
  have u3 : ∀ c o, (zH3 b t.heap la lb).get? c = some o → (zH5 b t.heap la lb).get? c = some o := fun c o u => u4 _ _ (Heap.get?_push_of_some _ u)
  have u2 : ∀ c o, (zH2 b t.heap la lb).get? c = some o → (zH5 b t.heap la lb).get? c = some o := fun c o u => u3 _ _ (Heap.get?_push_of_some _ u)
  have u1 : ∀ c o, (zH1 b t.heap la).get? c = some o → (zH5 b t.heap la lb).get? c = some o := fun c o u => u2 _ _ (Heap.get?_push_of_some _ u)
  have u0 : ∀ c o, t.heap.get? c = some o → (zH5 b t.heap la lb).get? c = some o := fun c o u => u1 _ _ (Heap.get?_push_of_some _ u)
  have g4 : (zH5 b t.heap la lb).get? (zH3 b t.heap la lb).objs.size = some { cls := .type "tuple", data := .seq #[.none, .none] } := u4 _ _ (Heap.get?_push_size _ rfl)
  have g3 : (zH5 b t.heap la lb).get? (zH2 b t.heap la lb).objs.size = some { cls := .type "tuple", data := .seq #[.ref t.heap.objs.size, .ref (zH1 b t.heap la).objs.size] } := u3 _ _ (Heap.get?_push_size _ rfl)
  have g2 : (zH5 b t.heap la lb).get? (zH1 b t.heap la).objs.size = some (itO false lb) := u2 _ _ (Heap.get?_push_size _ rfl)
  have g1 : (zH5 b t.heap la lb).get? t.heap.objs.size = some (itO b la) := u1 _ _ (Heap.get?_push_size _ rfl)
  have la_lt : la < n := let ⟨_, a⟩ := s1.ex; hn ▸ Heap.lt_size a
  have lb_lt : lb < n := let ⟨_, a, _⟩ := s2; hn ▸ Heap.lt_size a
  show _ ∧ _
  rw [z2, z3, z4] at g5
  rw [z1, z2, hn] at g3
  rw [z3] at g4
  rw [z1] at g2
  rw [hn] at g1
  rw [z4]
  have no1 : lb ≠ n + 1 := Nat.ne_of_lt (Nat.lt_succ_of_lt lb_lt)
  have lt : ∀ {c k : Nat}, c < n → c ≠ n + k := fun u => Nat.ne_of_lt (Nat.lt_of_lt_of_le u (Nat.le_add_right _ _))
  have df : ∀ {j k : Nat}, (decide (j ≠ k)) = true → n + j ≠ n + k := fun u e => (of_decide_eq_true u) (Nat.add_left_cancel e)
  refine ⟨⟨_, g5, rfl⟩, q _ (n + 4) (n + 2) (n + 3) n (n + 1) ?_ (Nat.ne_of_lt la_lt) no1 g5 g3 g4 (stB_mk g1 (s1.at fun o u => u0 _ _ u)) (stB_mk g2 (show SqB false _ lb ys from Heap.IsTuple.at s2 fun o u => u0 _ _ u)) (by rw [hn]; exact Nat.le_add_right _ _) (by rw [hn]; exact Nat.le_add_right _ _) (Nat.le_of_eq hn) (by rw [hn]; exact Nat.le_add_right _ _) (by rw [hn, z5]; exact Nat.le_add_right _ _) u0⟩
  exact ⟨df rfl, df rfl, df (j := 0) rfl, df rfl, df rfl, df (k := 0) rfl, df rfl, df (k := 0) rfl, df rfl, df (j := 0) rfl, lt la_lt, lt la_lt, lt (k := 0) la_lt, lt la_lt, lt lb_lt, lt lb_lt, lt (k := 0) lb_lt, lt lb_lt⟩
/-! the expression -/
def SqK (K : PySem.W.Frag) (H : Hp) (b : Bool) (l : Addr) (xs : List V) : Prop := if b then SqL K H l xs else SqT K H l xs
def tDZ (K : PySem.W.Frag) (ta : TA) : TE := fun σ H Q => ta σ H fun vs H1 => ∃ (b : Bool) (la lb : Addr) (kvs : List (Key × V)) (xs ys : List V), vs = [.ref la, .ref lb] ∧ SqK K H1 b la xs ∧ SqT K H1 lb ys ∧
  kvs.length = min xs.length ys.length ∧ (∀ (i : Nat) (p : Key × V), kvs[i]? = some p → xs[i]? = some (kV p.1) ∧ ys[i]? = some p.2) ∧ ∀ q, H1 q = none → Q (.ref q) (upd H1 q (.dK (mergeK [] kvs)))
theorem kz_of : ∀ (kvs : List (Key × V)) (ys : List V) (us : List Value), Vals ys us → (∀ (i : Nat) (p : Key × V), kvs[i]? = some p → ys[i]? = some p.2) →
    ∃ prs : List (Key × Value), KV kvs prs ∧ prs.length = kvs.length ∧ ∀ (i : Nat) (q : Key × Value), prs[i]? = some q → us[i]? = some q.2 ∧ ∃ p, kvs[i]? = some p ∧ p.1 = q.1
  | [], _, _, _, _ => ⟨[], .nil, rfl, fun i q e => by simp at e⟩
  | p :: kvs, ys, us, r, h => by
    have h0 := h 0 p rfl
    cases r with
    | nil => simp at h0
    | cons r1 r2 =>
      simp at h0
      subst h0
      obtain ⟨prs, k1, k2, k3⟩ := kz_of kvs _ _ r2 fun i q e => by simpa using h (i + 1) q (by simpa using e)
      refine ⟨(p.1, _) :: prs, .cons ⟨rfl, r1⟩ k1, by simp [k2], fun i q e => ?_⟩
      cases i with
      | zero =>
        simp at e
        subst e
        exact ⟨rfl, p, rfl, rfl⟩
      | succ i => simpa using k3 i q (by simpa using e)
theorem boot_dictT : bootBuiltins "dict" = some (.type "dict") := by decide +kernel
theorem boot_zipT : bootBuiltins "zip" = some (.type "zip") := by decide +kernel
theorem SqK.get {X : Cx} {pins : List (Addr × Obj)} {σ : L2.St} {H : Hp} {s : Shared} (I : Inv X pins σ H s) {b : Bool} {l : Addr} {xs : List V} (h : SqK X.K H b l xs) : ∃ us : List Value, Vals xs us ∧ SqB b s.heap l us.toArray ∧ xs.length ≤ sizeLine := by
  cases b
  · obtain ⟨its, r, pl, hz⟩ := I.tuple h
    exact ⟨its, r, pl, hz⟩
  · obtain ⟨its, r, pl, hz⟩ := I.list h
    exact ⟨its, r, pl.isList, hz⟩
section
variable {X : Cx} {a b : Expr} {ta : TA} {p p2 pos pos2 : Pos}
theorem pe_dictZip (hc : X.calm = true) (hg : Gl X "dict") (hm : X.mg "dict" = none) (hg2 : Gl X "zip") (hm2 : X.mg "zip" = none) (ha : PA X [a, b] ta)
    (hs : starEach [a, b] X.env = (false, eval a X.env) :: starEach [b] X.env := by rfl) (hpl : (backTo pos2 (starEach [b] X.env)).any (·.1) = false := by rfl)
    (na : starEach [.Call (.Name "zip" p2) [a, b] [] pos2] X.env = (false, eval (.Call (.Name "zip" p2) [a, b] [] pos2) X.env) :: starEach [] X.env := by rfl) :
    PE X (.Call (.Name "dict" p) [.Call (.Name "zip" p2) [a, b] [] pos2] [] pos) (tDZ X.K ta) := by
  refine ⟨fun pins s σ H Q I h => ?_⟩
  refine Call_ (ld_blt I hg hm boot_dictT ?_)
  refine PyProof.Rows.callWith_type1 (args_cons ?_ na) na
  refine Call_ (ld_blt I hg2 hm2 boot_zipT (PyProof.Rows.callWith_type1 (thn (ha.run pos2 pins s σ H _ I h) fun us s1 ⟨vs, H1, I1, r1, q1⟩ => ?_) hs hpl))
  obtain ⟨bb, la, lb, kvs, xs, ys, e, sa, sb, kl, kg, q⟩ := q1
  subst e
  cases r1 with
  | cons r rr =>
    cases rr with
    | cons r' rr =>
      cases rr
      cases r
      cases r'
      obtain ⟨xu, rx, px, hx⟩ := sa.get I1
      obtain ⟨yu, ry, py, hy⟩ := I1.tuple sb
      refine call_zipB px py fun g zp TI TO ia ib D na nb gz gI gO ga gb l1 l2 l3 l4 lg kp => ?_
      have I2 : Inv X pins σ H1 { s1 with heap := g } := I1.kept (t' := s1.toks) kp
      refine args_nil ?_
      obtain ⟨prs, k1, k2, k3⟩ := kz_of kvs ys yu ry fun i p e => (kg i p e).2
      have le : min xu.toArray.size yu.toArray.size = kvs.length := by rw [List.size_toArray, List.size_toArray, ← rx.length, ← ry.length, kl]
      refine PySem.call_dict_pairs (knd := mixKind X.prog X.w) (kvs := prs) (arg_zip zp TI TO ia ib la lb D xu.toArray yu.toArray (src_b bb na) (src_b false nb)) (I2.ok.hd hc) ⟨gz, gI, ⟨_, _, gO⟩, ga, gb⟩ ?_ (by rw [le, kl]; exact Nat.le_trans (Nat.min_le_left _ _) hx) fun h' tk hd' kp' => ?_
      · refine ⟨by rw [k2, le], fun i key v e => ?_⟩
        obtain ⟨e1, e2⟩ := e
        have hi : i < prs.length := by
          rw [k2, ← le]
          have := (Array.getElem?_eq_some_iff.mp e1).1
          have := (Array.getElem?_eq_some_iff.mp e2).1
          omega
        obtain ⟨f1, q', f2, f3⟩ := k3 i prs[i] (List.getElem?_eq_getElem hi)
        refine ⟨prs[i].1, ?_, ?_⟩
        · rw [List.getElem?_eq_getElem hi]
          rw [List.getElem?_toArray] at e2
          rw [e2] at f1
          cases f1
          rfl
        · obtain ⟨u, g1, g2⟩ := rx.get (kg i q' f2).1
          rw [List.getElem?_toArray, g1] at e1
          cases e1
          rw [← f3]
          exact kV_is (P := X.prog) (w := X.w) g2
      · have hm : (g.objs.size == sysModules) = false := beq_eq_false_iff_ne.mpr (Nat.ne_of_gt I2.big)
        have hlen : (mergeK [] kvs).length ≤ sizeLine := by
          refine Nat.le_trans (length_mergeK kvs []) ?_
          rw [List.length_nil, Nat.zero_add, kl]
          exact Nat.le_trans (Nat.min_le_left _ _) hx
        have old : ∀ c o, s1.heap.get? c = some o → h'.get? c = some o := fun c o e => kp' c o (by
          have hc : c < s1.heap.objs.size := Heap.lt_size e
          simp only [List.mem_cons, List.not_mem_nil, or_false, not_or]
          exact ⟨Nat.ne_of_lt (Nat.lt_of_lt_of_le hc l1), Nat.ne_of_lt (Nat.lt_of_lt_of_le hc l2), Nat.ne_of_lt (Nat.lt_of_lt_of_le hc l3), Nat.ne_of_lt (Nat.lt_of_lt_of_le hc l4)⟩) (kp c o e)
        exact ⟨.ref g.objs.size, upd H1 g.objs.size (.dK (mergeK [] kvs)), I1.laid (t' := tk) old lg (show ObjOk X.prog X.w _ _ _ (.dK (mergeK [] kvs)) from ⟨hlen, hm, merged [] prs, KV.merge k1 .nil, hd'⟩), rfl, q _ (I1.hok.fresh lg)⟩
end
end M

set_option maxRecDepth 100000
set_option maxHeartbeats 4000000
/-! dict(zip(a, b)) in mirrors -/
namespace M
open PySem PySem.Spec PyProof.Rows L2
def kvsZ : List D → List D → Option (List (Key × D))
  | [], _ => some []
  | _ :: _, [] => some []
  | k :: ks, v :: vs => match keyOf (.d k), kvsZ ks vs with
    | some q, some l => some ((q, v) :: l)
    | _, _ => none
def bDZ (ws : List W) (G : Gd) : R (W × Gd) := match ws with
  | [.d (.tup xs), .d (.tup ys)] => match kvsZ xs ys with
    | some l => .ok (.ref G.length, G ++ [.dct (mergeW [] (kvW l))])
    | none => .bad
  | [.d (.lst xs), .d (.tup ys)] => match kvsZ xs ys with
    | some l => .ok (.ref G.length, G ++ [.dct (mergeW [] (kvW l))])
    | none => .bad
  | _ => .bad
theorem kvsZ_rep {K : PySem.W.Frag} {F : Hp} {α : Nat → Addr} {n : Nat} : ∀ {xs ys : List D} {l : List (Key × D)} {us vs : List V}, kvsZ xs ys = some l → RepDs K F us xs → RepDs K F vs ys →
    ∃ kvs : List (Key × V), kvs.length = min us.length vs.length ∧ (∀ (i : Nat) (p : Key × V), kvs[i]? = some p → us[i]? = some (kV p.1) ∧ vs[i]? = some p.2) ∧ RepKV K F α n kvs (kvW l)
  | [], ys, l, us, vs, h, r1, r2 => by
    simp [kvsZ] at h
    subst h
    cases r1
    exact ⟨[], by simp, fun i p e => by simp at e, .nil⟩
  | x :: xs, [], l, us, vs, h, r1, r2 => by
    simp [kvsZ] at h
    subst h
    cases r2
    exact ⟨[], by simp, fun i p e => by simp at e, .nil⟩
  | x :: xs, y :: ys, l, us, vs, h, r1, r2 => by
    simp only [kvsZ] at h
    split at h
    · rename_i q l' e1 e2
      cases h
      cases r1 with
      | cons a1 b1 =>
        cases r2 with
        | cons a2 b2 =>
          obtain ⟨kvs, k1, k2, k3⟩ := kvsZ_rep (α := α) (n := n) e2 b1 b2
          rename_i v1 _ v2 _
          have ek : v1 = kV q := by
            unfold keyOf at e1
            split at e1
            · rename_i e3
              cases e1
              cases e3
              cases a1
              rfl
            · rename_i e3
              cases e1
              cases e3
              cases a1
              rfl
            · cases e1
          subst ek
          refine ⟨(q, v2) :: kvs, by simp [k1], fun i p e => ?_, .cons ⟨rfl, a2⟩ k3⟩
          cases i with
          | zero =>
            simp at e
            subst e
            exact ⟨rfl, rfl⟩
          | succ i => simpa using k2 i p (by simpa using e)
    · cases h
def eDZ (f : FA) : FE := seqF f fun ws _ G => bDZ ws G
theorem dz_ok {c : RC} {Z : WX} {fa : FA} (σ : St) (H : Hp) (Q : VK) (h : tM c Z (eDZ fa) σ H Q) : tDZ c.K (tMA c Z fa) σ H Q := by
  obtain ⟨Fa, αa, Ga, sa, Aa, ha⟩ := h
  refine ⟨Fa, αa, Ga, sa, Aa, ?_⟩
  unfold eDZ seqF at ha
  cases e : fa sa Ga with
  | bad => rw [e] at ha; exact ha
  | exc x s' G' => rw [e] at ha; exact ha
  | ok p =>
    obtain ⟨ws, G1⟩ := p
    rw [e] at ha
    dsimp only [R.bind] at ha
    intro F1 α1 H1 vs x1 R1 r1
    have go : ∀ (b : Bool) (la lb : Addr) (us vv : List V) (xs ys : List D) (l : List (Key × D)), vs = [.ref la, .ref lb] → kvsZ xs ys = some l → SqK c.K H1 b la us → SqT c.K H1 lb vv → RepDs c.K F1 us xs → RepDs c.K F1 vv ys →
        Fin RepW c Z Fa αa Ga.length (.ok (.ref G1.length, G1 ++ [.dct (mergeW [] (kvW l))])) Q →
        ∃ (b : Bool) (la lb : Addr) (kvs : List (Key × V)) (xs ys : List V), vs = [.ref la, .ref lb] ∧ SqK c.K H1 b la xs ∧ SqT c.K H1 lb ys ∧
          kvs.length = min xs.length ys.length ∧ (∀ (i : Nat) (p : Key × V), kvs[i]? = some p → xs[i]? = some (kV p.1) ∧ ys[i]? = some p.2) ∧ ∀ q, H1 q = none → Q (.ref q) (upd H1 q (.dK (mergeK [] kvs))) := by
      intro b la lb us vv xs ys l ev hl sa sb ra rb hf
      obtain ⟨kvs, k1, k2, k3⟩ := kvsZ_rep (α := α1) (n := G1.length) hl ra rb
      refine ⟨b, la, lb, kvs, us, vv, ev, sa, sb, k1, k2, fun q hq => ?_⟩
      obtain ⟨R', e'⟩ := R1.push hq (ho := .dK (mergeK [] kvs)) (o := .dct (mergeW [] (kvW l))) (RepKV.merge k3 .nil)
      exact (Fin.mono (rep := RepW) x1 hf) _ _ _ _ e' R' ⟨by simp, by rw [pushA_eq]⟩
    unfold bDZ at ha
    split at ha
    · rename_i xs ys
      split at ha
      · rename_i l hl
        cases r1 with
        | cons a r1 =>
          cases r1 with
          | cons b r1 =>
            cases r1
            cases a with
            | tup a1 a2 _ =>
              cases b with
              | tup b1 b2 _ => exact go false _ _ _ _ _ _ _ rfl hl (show SqT _ _ _ _ from Same.seqT R1.fh a1) (Same.seqT R1.fh b1) a2 b2 ha
      · exact ha.elim
    · rename_i xs ys
      split at ha
      · rename_i l hl
        cases r1 with
        | cons a r1 =>
          cases r1 with
          | cons b r1 =>
            cases r1
            cases a with
            | lst a1 a2 =>
              cases b with
              | tup b1 b2 _ => exact go true _ _ _ _ _ _ _ rfl hl (show SqL _ _ _ _ from SqL.of (R1.fh _ _ a1)) (Same.seqT R1.fh b1) a2 b2 ha
      · exact ha.elim
    · exact ha.elim
section
variable {X : Cx} {c : RC} {Z : WX} {a b : Expr} {fa : FA} {p p2 pos pos2 : Pos}
theorem mDictZip (hK : c.K = X.K) (hc : X.calm = true) (hg : Gl X "dict") (hm : X.mg "dict" = none) (hg2 : Gl X "zip") (hm2 : X.mg "zip" = none) (ha : PA X [a, b] (tMA c Z fa))
    (hs : starEach [a, b] X.env = (false, eval a X.env) :: starEach [b] X.env := by rfl) (hpl : (backTo pos2 (starEach [b] X.env)).any (·.1) = false := by rfl)
    (na : starEach [.Call (.Name "zip" p2) [a, b] [] pos2] X.env = (false, eval (.Call (.Name "zip" p2) [a, b] [] pos2) X.env) :: starEach [] X.env := by rfl) :
    PE X (.Call (.Name "dict" p) [.Call (.Name "zip" p2) [a, b] [] pos2] [] pos) (tM c Z (eDZ fa)) :=
  (pe_dictZip hc hg hm hg2 hm2 ha hs hpl na).imp fun σ H Q h => by rw [← hK]; exact dz_ok σ H Q h
end
end M

set_option maxRecDepth 100000
set_option maxHeartbeats 4000000
/-! t[::-1] of a tuple -/
namespace M
open PySem PySem.Spec PyProof.Rows L2
theorem slicePick_back (n : Nat) : Builtin.Slice.sliceAdjust none none (-1) (n : Int) = ((n : Int) - 1, -1) := rfl
theorem places_back (n : Nat) : Builtin.Slice.slicePlaces ((n : Int) - 1) (-1) (-1) = n := by
  unfold Builtin.Slice.slicePlaces
  have e1 : ¬ ((-1 : Int) > 0) := by decide
  have e2 : (-(-1) : Int) = 1 := by decide
  (simp only [e1, if_false, e2, Int.ediv_one])
  split <;> omega
theorem pick_back (xs : Array Value) : ((List.range xs.size).filterMap fun k : Nat => xs[(((xs.size : Int) - 1) + (k : Int) * (-1)).toNat]?).toArray = xs.toList.reverse.toArray := by
  have e := PySem.W.krv_all xs
  have r := PySem.W.krv_range xs.size
  rw [← e, ← List.filterMap_reverse, ← r, List.filterMap_map]
  have g : ∀ l : List Nat, (∀ k ∈ l, k < xs.size) → (l.filterMap fun k : Nat => xs[(((xs.size : Int) - 1) + (k : Int) * (-1)).toNat]?) = l.filterMap ((fun x => xs[x]?) ∘ fun k => xs.size - 1 - k) := by
    intro l
    induction l with
    | nil => intro _; rfl
    | cons k l ih =>
      intro h
      have hk := h k (by simp)
      have e3 : (((xs.size : Int) - 1) + (k : Int) * (-1)).toNat = xs.size - 1 - k := by omega
      rw [List.filterMap_cons, List.filterMap_cons, ih fun j hj => h j (by simp [hj]), e3]
      rfl
  rw [g _ fun k hk => List.mem_range.mp hk]
section
variable {P : Program} {w : World} {A : Around} {E : Value → Shared → Prop} {t : Shared}
theorem applied_back {sl : Addr} {vs : Value} {n : Nat} {Q : Int × Int × Nat → Shared → Prop} (hs : t.heap.IsSliceOf sl .none .none vs) (ps : IsPart vs (some (-1)))
    (h : Q ((n : Int) - 1, -1, n) t) : wpAny (model P w) A (Builtin.Slice.sliceApplied (.ref sl) (pure (n : Int))) Q E t := by
  obtain ⟨os, o1, o2, o3⟩ := id hs
  (unfold Builtin.Slice.sliceApplied Builtin.Slice.sliceFields)
  refine wpAny_bind (wpAny_bind (wpAny_field o1 o3 (x := .none) rfl (wpAny_bind (wpAny_field o1 o3 (x := .none) rfl (wpAny_bind (wpAny_field o1 o3 (x := vs) rfl (wpAny_pure ?_)))))))
  refine wpAny_bind (HT.slicePart_ ps ?_)
  show wpAny _ _ (if ((-1 : Int) == 0) = true then _ else _) _ _ t
  rw [if_neg (by decide)]
  refine wpAny_bind (HT.slicePart_ .none (wpAny_bind (HT.slicePart_ .none (wpAny_bind (wpAny_pure ?_)))))
  show wpAny _ _ (match Builtin.Slice.sliceAdjust none none (-1) (n : Int) with | (lo, hi) => pure (lo, (-1 : Int), Builtin.Slice.slicePlaces lo hi (-1))) _ _ t
  rw [slicePick_back]
  show wpAny _ _ (pure ((n : Int) - 1, (-1 : Int), Builtin.Slice.slicePlaces ((n : Int) - 1) (-1) (-1))) _ _ t
  rw [places_back]
  exact wpAny_pure h
theorem getItem_tuple_back {a sl : Addr} {xs : Array Value} {vs : Value} {Q : Value → Shared → Prop} (ht : IsTup t.heap a xs) (hs : t.heap.IsSliceOf sl .none .none vs) (ps : IsPart vs (some (-1)))
    (q : Q (.ref t.heap.objs.size) { t with heap := t.heap.push { cls := .type "tuple", data := .seq xs.toList.reverse.toArray } }) (hz : xs.size ≤ sizeLine) : wpAny (model P w) A (getItem (.ref a) (.ref sl)) Q E t := by
  obtain ⟨os, o1, o2, o3⟩ := id hs
  have ty : t.TypeIs (.ref sl) "slice" := ⟨os, o1, o2⟩
  have sz : sizeOk (.seq xs.toList.reverse.toArray) := by
    show xs.toList.reverse.toArray.size ≤ sizeLine
    rw [List.size_toArray, List.length_reverse, Array.length_toList]
    exact hz
  unfold getItem
  try with_reducible refine wpAny_holding ?_
  first | refine wpAny_bind (wpAny_pure ?_) | skip
  refine wpAny_bind (wpAny_sequenceKey ht.typeIs (by decide) ?_)
  refine wpAny_bind (wpAny_callSpecial?_slot (name := Str.ofString "__getitem__") ht.typeIs PyProof.Rows.slot_tuple_getitem (wpAny_call_entry PyProof.Rows.slot_tuple_getitem ht.typeIs entry_tuple_getitem ?_ (args_tuple_getitem _ _)))
  show wpAny _ _ (Builtin.Tuple.tupleItemsOf (.ref a) >>= _) _ _ t
  refine wpAny_bind (tupleItemsOf_ ht ?_)
  refine wpAny_bind (wpAny_typeOf ty ?_)
  rw [if_pos (by decide)]
  refine wpAny_bind (applied_back hs ps ?_)
  show wpAny _ _ (if ((xs.size : Int) - 1 == 0 && (-1 : Int) == 1 && xs.size == xs.size) = true then _ else _) _ _ t
  have hn : ¬ (((xs.size : Int) - 1 == 0 && (-1 : Int) == 1 && xs.size == xs.size) = true) := by
    have : ((-1 : Int) == 1) = false := by decide
    rw [this, Bool.and_false, Bool.false_and]
    exact Bool.false_ne_true
  rw [if_neg hn, pick_back]
  first
    | exact wpAny_bind (m := Builtin.Tuple.tupleExact _) (wpAny_newObj_type (wpAny_pure ⟨_, rfl, wpAny_pure q⟩) sz)
    | exact wpAny_bind (m := Builtin.Tuple.tupleExact _) (wpAny_newObj_type (wpAny_bind (wpAny_pure (wpAny_pure ⟨_, rfl, wpAny_pure q⟩))) sz)
    | exact wpAny_bind (wpAny_bind (m := Builtin.Tuple.tupleExact _) (wpAny_newObj_type (wpAny_pure (wpAny_pure ⟨_, rfl, wpAny_pure q⟩)) sz))
    | exact wpAny_bind (wpAny_bind (m := Builtin.Tuple.tupleExact _) (wpAny_newObj_type (wpAny_pure ⟨_, rfl, wpAny_pure q⟩) sz))
end
def tRevT (K : PySem.W.Frag) (te : TE) : TE := fun σ H Q => te σ H fun x H1 => ∃ a xs, x = .ref a ∧ SqT K H1 a xs ∧ ∀ (p : Addr) (o : Obj), H1 p = none → o.dict = none → Q (.ref p) (upd H1 p (.frz o (.tup xs.reverse)))
section
variable {X : Cx} {e : Expr} {te : TE} {k : Nat} {p1 p2 p3 pos : Pos}
theorem pe_revT (he : PE X e te) : PE X (.Subscript e (.Slice none none (some (.UnaryOp .USub (.Constant (.int 1) k p1) p2)) p3) pos) (tRevT X.K te) := by
  refine ⟨fun pins s σ H Q I h => ?_⟩
  refine Subscript_ (thn (he.run pins s σ H _ I h) fun v s1 ⟨x, H1, I1, r1, q1⟩ => ?_)
  obtain ⟨a, xs, ex, hx, q⟩ := q1
  subst ex
  cases r1
  have st : PO X (some (.UnaryOp .USub (.Constant (.int 1) k p1) p2)) (tPart (tUn (rU fun i => .int (-i)) (tC (.int 1)))) := po_some (pe_un un_neg pe_int)
  refine wpAny_Slice (thn (po_none.run pins s1 σ H1 (fun o H2 => o = none ∧ H2 = H1) I1 ⟨rfl, rfl⟩) fun vl s2 ⟨l, H2, I2, pl, el, e2⟩ => ?_)
  subst el e2
  refine thn (po_none.run pins s2 σ H2 (fun o H3 => o = none ∧ H3 = H2) I2 ⟨rfl, rfl⟩) fun vu s3 ⟨u, H3, I3, pu, eu, e3⟩ => ?_
  subst eu e3
  refine thn (st.run pins s3 σ H3 (fun o H4 => o = some (-1) ∧ H4 = H3) I3 ⟨1, rfl, -1, rfl, rfl, rfl⟩) fun vs s4 ⟨o, H4, I4, ps, eo, e4⟩ => ?_
  subst eo e4
  cases pl
  cases pu
  have I5 : Inv X pins σ H4 { s4 with heap := s4.heap.push { cls := .type "slice", data := .fields #[.none, .none, vs] } } := I4.kept (t' := s4.toks) fun b ob q => Heap.get?_push_of_some _ q
  obtain ⟨its, r, ht, hz⟩ := I5.tuple hx
  have hl := r.length
  show wpAny (model X.prog X.w) X.A (subscriptTail e (.Slice none none (some (.UnaryOp .USub (.Constant (.int 1) k p1) p2)) p3) (.ref a) (.ref s4.heap.objs.size)) (EP X pins σ Q) X.xe { s4 with heap := s4.heap.push { cls := .type "slice", data := .fields #[.none, .none, vs] } }
  refine tail_any (ops := [.ref a, .ref s4.heap.objs.size]) ht.typeIs (PyProof.Rows.slot_tuple_getitem.lookup) ?_ (by with_unfolding_all rfl)
  refine getItem_tuple_back ht (Heap.IsSliceOf.new _ .none .none vs) ps ?_ (by rw [List.size_toArray, ← hl]; exact hz)
  exact ⟨.ref _, _, I5.laid (t' := s4.toks) (fun b ob q => Heap.get?_push_of_some _ q) (Nat.le_refl _) (tup_ok (xs := xs.reverse) (by rw [List.length_reverse]; exact hz) r.reverse (Heap.get?_push_size _ rfl)), rfl, q _ _ (I5.hok.fresh (Nat.le_refl _)) rfl⟩
end
def eRevT (f : FE) : FE := seqF f fun w _ G => match w with
  | .d (.tup ds) => .ok (.d (.tup ds.reverse), G)
  | _ => .bad
theorem RepDs.rev {K : PySem.W.Frag} {F : Hp} : ∀ {ds : List D} {vs : List V}, RepDs K F vs ds → RepDs K F vs.reverse ds.reverse
  | _, _, .nil => .nil
  | _, _, .cons a b => by
    rw [List.reverse_cons, List.reverse_cons]
    exact (RepDs.rev b).append (.cons a .nil)
section
variable {X : Cx} {c : RC} {Z : WX} {e : Expr} {f : FE} {k : Nat} {p1 p2 p3 pos : Pos}
theorem mRevT (hK : c.K = X.K) (he : PE X e (tM c Z f)) : PE X (.Subscript e (.Slice none none (some (.UnaryOp .USub (.Constant (.int 1) k p1) p2)) p3) pos) (tM c Z (eRevT f)) :=
  (pe_revT he).imp fun σ H Q h => by
    rw [← hK]
    refine (tG.seq (rep := RepW) h).imp fun x H1 ⟨F1, α1, G1, s, w, A1, r1, h1⟩ => ?_
    split at h1
    · rename_i ds
      cases r1 with
      | tup a b pl => exact ⟨_, _, rfl, Same.seqT A1.rel.fh a, fun p o hp ho => newT_fin (ws := ds.reverse.map W.d) (G := G1) (by unfold newT; rw [toDs_map]; exact h1) A1.rel (RepDs.ws (RepDs.rev b)) hp ho⟩
    · exact h1.elim
end
section
variable {X : Cx} {c : RC} {Z : WX} {tg e : Expr} {f : FE} {p pos : Pos}
theorem walk_revT {K : PySem.W.Frag} {a : Addr} {xs : List V} : Walk (RT.ItvT K a xs.length) xs.length (fun H => SqT K H a xs) (fun i H x H' => H' = H ∧ xs[xs.length - 1 - i]? = some x) where
  goes i H hi q := ⟨hi, xs, xs[xs.length - 1 - i]'(by omega), q, by simp [show xs.length - 1 - i < xs.length by omega]⟩
  stops H q := Nat.le_refl _
  yields i H x H' hi q y := ⟨y.1, y.2 xs q⟩
theorem miRev (hK : c.K = X.K) (hm : X.mg "reversed" = none) (he : PE X e (tM c Z f)) (hg : Gl X "reversed" := by rfl) (hs : starEach [e] X.env = (false, eval e X.env) :: starEach [] X.env := by rfl) : PI X tg (.Call (.Name "reversed" p) [e] [] pos) (tMI c Z (iRevW f)) :=
  (RT.pi_revA hg hm he hs).imp fun σ H Q h => by
    rw [← hK]
    obtain ⟨F, α, G, s, A, h0⟩ := h
    refine ⟨F, α, G, s, A, ?_⟩
    unfold iRevW seqF at h0
    cases e1 : f s G with
    | bad => rw [e1] at h0; exact h0.elim
    | exc x s' G' => rw [e1] at h0; exact h0
    | ok q =>
      rw [e1] at h0
      dsimp only [R.bind] at h0
      split at h0
      · rename_i t ws e2
        intro F1 α1 H1 v x1 R1 r1
        obtain ⟨a, vs, rfl, hq, r2⟩ := stillSeq_rep r1 e2
        cases t with
        | true =>
          rw [if_pos rfl] at hq
          exact ⟨a, vs, rfl, .inr ⟨Same.seqT R1.fh hq, h0 F1 α1 H1 _ x1 R1 (yields_of walk_revT (by rw [r2.length, List.length_reverse]) (fun F' H' f h _ => Same.seqT (f.trans h) hq) (yrev_rep r2))⟩⟩
        | false =>
          rw [if_neg Bool.false_ne_true] at hq
          exact ⟨a, vs, rfl, .inl ⟨L2.Same.seq R1.fh hq, h0 F1 α1 H1 _ x1 R1 (yields_of walk_rev (by rw [r2.length, List.length_reverse]) (fun F' H' f h _ => L2.Same.seq (f.trans h) hq) (yrev_rep r2))⟩⟩
      · exact h0.elim
end
end M

set_option maxRecDepth 100000
set_option maxHeartbeats 4000000
/-! what the top has written: numbers, texts, tuples of these -/
namespace M
open PySem PySem.Spec PyProof.Rows L2
/-- a written value is this -/
def scB : Value → D → Bool
  | .str z _, .str y => decide (z = y)
  | .int i _, .int j => decide (i = j)
  | _, _ => false
def scsB : List Value → List D → Bool
  | [], [] => true
  | u :: us, d :: ds => scB u d && scsB us ds
  | _, _ => false
def ConV (mg : Str → Option Value) (x : Str) (d : D) : Prop := ∃ u, mg x = some u ∧ scB u d = true
def ConT (K : PySem.W.Frag) (mg : Str → Option Value) (x : Str) (ds : List D) : Prop := ∃ (a : Addr) (its : Array Value) (n : Nat) (sl : Array (Option Value)), mg x = some (.ref a) ∧ K.lookup a = some ⟨.type "tuple", none, .seq its n, sl⟩ ∧ its.size ≤ sizeLine ∧ scsB its.toList ds = true
theorem scB_rep {u : Value} {d : D} (h : scB u d = true) : ∃ v, RelV v u ∧ ∀ K F, RepD K F v d := by
  unfold scB at h
  split at h
  · rename_i z t y
    have e := of_decide_eq_true h
    subst e
    exact ⟨.str z, ⟨t, rfl⟩, fun _ _ => .str z⟩
  · rename_i i t j
    have e := of_decide_eq_true h
    subst e
    exact ⟨.int i, ⟨t, rfl⟩, fun _ _ => .int i⟩
  · cases h
theorem scsB_rep : ∀ {us : List Value} {ds : List D}, scsB us ds = true → ∃ vs, Vals vs us ∧ ∀ K F, RepDs K F vs ds
  | [], [], _ => ⟨[], .nil, fun _ _ => .nil⟩
  | u :: us, d :: ds, h => by
    simp only [scsB, Bool.and_eq_true] at h
    obtain ⟨v, h1, h2⟩ := scB_rep h.1
    obtain ⟨vs, h3, h4⟩ := scsB_rep h.2
    exact ⟨v :: vs, .cons h1 h3, fun K F => .cons (h2 K F) (h4 K F)⟩
  | [], _ :: _, h => by cases h
  | _ :: _, [], h => by cases h
section
variable {X : Cx} {c : RC} {Z : WX} {x : Str} {pos : Pos}
theorem mConV {d : D} (T : ConV X.mg x d) (hg : Gl X x := by rfl) (hd : (x == ("__debug__" : Str)) = false := by decide) : PE X (.Name x pos) (tM c Z (eC d)) := by
  obtain ⟨u, h1, h2⟩ := T
  obtain ⟨v, h3, h4⟩ := scB_rep h2
  exact mConst (pe_glob hg h1 h3 hd) h4
theorem mConT {ds : List D} (hK : c.K = X.K) (T : ConT X.K X.mg x ds) (hg : Gl X x := by rfl) (hd : (x == ("__debug__" : Str)) = false := by decide) : PE X (.Name x pos) (tM c Z (eC (.tup ds))) := by
  obtain ⟨a, its, n, sl, h1, h2, h3, h4⟩ := T
  obtain ⟨vs, h5, h6⟩ := scsB_rep h4
  refine (pe_glob (v := .ref a) hg h1 rfl hd).imp fun σ H Q h => ?_
  obtain ⟨F, α, G, s, A, h⟩ := h
  exact h F α H (.ref a) Ext.refl A.rel (show RepD c.K F _ _ by
    rw [hK]
    exact .tup (.inr ⟨_, its, n, h2, rfl, rfl, h3, h5⟩) (h6 _ _) fun _ => .inr ⟨_, h2, rfl⟩)
end
section
variable {K : PySem.W.Frag} {mg : Str → Option Value} {h : Heap} {x : Str}
theorem conV_mk {u : Value} {d : D} (X : K.In h) (G : h.Ns mainGlobals mg) (a : PySem.W.nsIn K mainGlobals x = some (some u)) (b : scB u d = true) : ConV mg x d := ⟨u, PySem.W.mg_of X G a, b⟩
theorem conT_mk {a : Addr} {its : Array Value} {n : Nat} {sl : Array (Option Value)} {ds : List D} (X : K.In h) (G : h.Ns mainGlobals mg) (e : PySem.W.nsIn K mainGlobals x = some (some (.ref a)))
    (l : K.lookup a = some ⟨.type "tuple", none, .seq its n, sl⟩) (z : its.size ≤ sizeLine) (b : scsB its.toList ds = true) : ConT K mg x ds := ⟨a, its, n, sl, PySem.W.mg_of X G e, l, z, b⟩
end
end M

set_option maxRecDepth 100000
set_option maxHeartbeats 4000000
/-! list(reversed(t)) of a tuple -/
namespace M
open PySem PySem.Spec PyProof.Rows L2
theorem nolen_rt : typeLookup (.type "reversed") "__len__" = pure none := by rw [typeLookup_type, builtinLookup_eq_fast]; kernel_rfl
theorem slot_rt_hint : Slot "reversed" "__length_hint__" "reversed.__length_hint__" :=
  .of (owner := "reversed") (n := "__length_hint__") (by rw [typeLookup_type, builtinLookup_eq_fast]; kernel_rfl) (by decide +kernel) (by decide +kernel) (by decide +kernel)
    (by first | exact .inl (by decide +kernel) | exact .inr (by decide +kernel)) (by rw [isSubtype_type]; kernel_rfl)
theorem entry_rt_hint : entryFor table "reversed.__length_hint__" = some Builtin.«reversed.__length_hint__» := entryFor_of_tree (by kernel_rfl)
theorem args_rt_hint (a : Value) : argsOk "reversed.__length_hint__" ⟨[a], []⟩ := by
  unfold argsOk; rw [signature?_of (id := "reversed.__length_hint__") (n := ['_', '_', 't', 'n', 'i', 'h', '_', 'h', 't', 'g', 'n', 'e', 'l', '_', '_']) (o := ['d', 'e', 's', 'r', 'e', 'v', 'e', 'r']) (by kernel_rfl) RT.owner_rt]; kernel_rfl
section
variable {P : Program} {w : World} {A : Around} {E : Value → Shared → Prop} {s : Shared}
theorem walks_rt (hh : A.handled = none) (I t : Addr) (hne : t ≠ I) (items : Array Value) (hz : items.size ≤ sizeLine) :
    Walks P w A I [I, t] [I] items.size (fun i v => items[items.size - 1 - i]? = some v) (fun i h => i ≤ items.size ∧ RT.IsRt h I t ((items.size : Int) - 1 - (i : Int)) ∧ IsTup h t items) where
  sub := fun b hb => by simp at hb; simp [hb]
  frame := fun _ _ _ x hk => ⟨x.1, x.2.1.at fun o e => hk I (by simp) o e, Heap.IsTuple.at x.2.2 fun o e => hk t (by simp) o e⟩
  item := fun i s Q E hi x q => by
    have e : (items.size : Int) - 1 - (i : Int) = ((items.size - 1 - i : Nat) : Int) := by omega
    have it := x.2.1
    rw [e] at it
    have hx : items[items.size - 1 - i]? = some (items[items.size - 1 - i]'(by omega)) := Array.getElem?_eq_getElem (by omega)
    refine RT.next_rt_item it x.2.2 hx hz fun h' it' sb => ?_
    have e2 : ((items.size - 1 - i : Nat) : Int) - 1 = (items.size : Int) - 1 - ((i + 1 : Nat) : Int) := by omega
    rw [e2] at it'
    exact q _ h' (s.toks + 1) hx ⟨hi, it', Heap.IsTuple.at x.2.2 fun o eo => (sb.2 t hne).trans eo⟩ fun b o hb eo => sb.extBut b o (fun h => hb (by simp [h])) eo
  done := fun s Q E x q => by
    have e : (items.size : Int) - 1 - (items.size : Int) = -1 := by omega
    have it := x.2.1
    rw [e] at it
    exact RT.next_rt_end hh it fun h' he' => q h' s.toks fun b o hb eo => he' b o (fun h => hb (by simp [h])) eo
  self := fun _ _ _ _ x q => RT.iter_rt x.2.1 q
theorem hint_rt {I t : Addr} {items : Array Value} {Q : Bool → Shared → Prop} (hit : RT.IsRt s.heap I t ((items.size : Int) - 1)) (ht : IsTup s.heap t items) (hz : items.size ≤ sizeLine)
    (q : ∀ tk, Q (items.size != 0) { s with toks := tk }) : wpAny (model P w) A (Builtin.List.listLengthHint (.ref I)) Q E s := by
  obtain ⟨o, ho, hc, hd⟩ := id hit
  have hT : s.TypeIs (.ref I) "reversed" := hit.typeIs
  unfold Builtin.List.listLengthHint
  refine wpAny_bind (wpAny_specialOf hT nolen_rt ?_)
  show wpAny _ _ (specialOf (Value.ref I) (Str.ofString "__length_hint__") >>= _) _ _ _
  refine wpAny_bind (wpAny_specialOf hT slot_rt_hint.lookup ?_)
  generalize hid : ("reversed.__length_hint__" : String) = id0
  wp_delta
  rw [show splitId id0 = some ("reversed", "__length_hint__") from by subst hid; decide +kernel]
  subst hid
  refine wpAny_bind (wpAny_isInstance (b := true) hT (by rw [isSubtype_type]; kernel_rfl) ?_)
  rw [if_neg (by decide)]
  dsimp only
  rw [if_neg (by decide +kernel)]
  refine wpAny_bind (wpAny_rule ?_)
  refine wpAny_bind (wpAny_of_eq (slot_rt_hint.bind _) ?_)
  dsimp only
  refine wpAny_bind (wpAny_attempt ?_)
  refine wpAny_call_entry slot_rt_hint hT entry_rt_hint ?_ (args_rt_hint _)
  (unfold Builtin.«reversed.__length_hint__»)
  refine wpAny_bind (wpAny_of_eq (a := Value.ref I) rfl ?_)
  refine wpAny_bind (wpAny_field ho hd (x := .ref t) rfl ?_)
  rw [if_neg (show ¬ ((Value.ref t == Value.none) = true) from Bool.false_ne_true)]
  refine wpAny_bind (len_tuple ht (by rw [sizeLine_eq] at hz; omega) ?_)
  have ai : ∀ (i : Int) (k : Tok), asInt? (.int i k) = pure (some i) := fun _ _ => rfl
  refine wpAny_bind (wpAny_of_eq (ai _ _) ?_)
  dsimp only
  refine wpAny_bind (wpAny_field (s := { s with toks := s.toks + 1 + 1 }) ho hd (x := rawInt ((items.size : Int) - 1)) rfl ?_)
  show wpAny _ _ (if ((items.size : Nat) : Int) < ((items.size : Int) - 1) + 1 then _ else _) _ _ _
  rw [if_neg (by omega)]
  refine wpAny_bind (wpAny_mkInt (wpAny_pure ⟨_, rfl, ?_⟩))
  have e1 : ((items.size : Int) - 1) + 1 = (items.size : Int) := by omega
  rw [e1]
  have hs63 := hz
  rw [sizeLine_eq] at hs63
  generalize (s.toks + 1 + 1 : Nat) = tk
  generalize hn : (items.size : Int) = n
  dsimp only
  refine wpAny_bind (wpAny_of_eq (ai _ _) ?_)
  dsimp only
  subst hn
  rw [if_neg (by
    have : Builtin.List.listFitsIndex (items.size : Int) = true := by
      unfold Builtin.List.listFitsIndex
      simp
      omega
    rw [this]
    decide), if_neg (by omega), if_neg (by
    rw [Int.toNat_natCast, notLongL hz]
    exact Bool.false_ne_true)]
  refine wpAny_pure ?_
  have e2 : (((items.size : Nat) : Int) != 0) = (items.size != 0) := by
    by_cases h : items.size = 0
    · rw [h]; rfl
    · rw [bne_iff_ne.mpr h, bne_iff_ne.mpr (by omega)]
  rw [e2]
  exact q _
theorem init_rt {I t S : Addr} {items : Array Value} {R : Result → Shared → Prop} (hh : A.handled = none) (hit : RT.IsRt s.heap I t ((items.size : Int) - 1)) (ht : IsTup s.heap t items) (hz : items.size ≤ sizeLine) (hne : t ≠ I) (hSI : S ≠ I) (hSt : S ≠ t)
    (hS : s.heap.get? S = some { cls := .type "list", data := .seq #[] })
    (q : ∀ s' acc c', (∀ b o, b ≠ S → b ≠ I → s.heap.get? b = some o → s'.heap.get? b = some o) → (∃ h tk, s' = { s with heap := h, toks := tk }) → s'.heap.get? S = some { cls := .type "list", dict := none, data := .seq acc c', slots := #[] } → ItemsOf (fun i v => items[items.size - 1 - i]? = some v) acc items.size → R (.ok (.ret .none)) s') :
    wpAny (model P w) A.in1 (Builtin.«list.__init__» ⟨[.ref S, .ref I], []⟩)
      (fun fin s' => match fin with | .done f => R (.ok f) s' | .again c' => c'.quiet = true ∧ codeAny (model P w) A c' R s') (fun e s' => R (.error e) s') s := by
  have W := (walks_rt (P := P) (w := w) (A := A.in1) hh I t hne items hz).toS
  have hSf : S ∉ [I, t] := by simp only [List.mem_cons, List.not_mem_nil, or_false, not_or]; exact ⟨hSI, hSt⟩
  show wpAny _ A.in1 (do let old ← Builtin.List.listItems (.ref S); Builtin.List.listUpdate (.ref S) (fun _ => #[]); letGo old.toList.reverse; Builtin.List.listExtendWith (.ref S) (.ref I) .none) _ _ s
  refine wpAny_bind ?_
  (unfold Builtin.List.listItems)
  refine wpAny_bind (wpAny_seqItems hS rfl (wpAny_pure ?_))
  show wpAny _ A.in1 (updateSeq S (fun _ => #[]) >>= fun _ => letGo (#[] : Array Value).toList.reverse >>= fun _ => Builtin.List.listExtendWith (.ref S) (.ref I) .none) _ _ s
  refine wpAny_bind (wpAny_updateSeq hS rfl ?_)
  have h2 := Heap.get?_update_self (Obj.mapSeq (fun _ => (#[] : Array Value))) hS rfl
  have o1 : ∀ b o, b ≠ S → s.heap.get? b = some o → (s.heap.update S (Obj.mapSeq (fun _ => (#[] : Array Value)))).get? b = some o :=
    fun b o hb e => (Heap.get?_update_other _ _ (Ne.symm hb)).trans e
  refine wpAny_bind (wpAny_letGo ?_)
  have it1 := hit.at fun o e => o1 I o (Ne.symm hSI) e
  have tt1 : IsTup _ t items := Heap.IsTuple.at ht fun o e => o1 t o (Ne.symm hSt) e
  generalize s.heap.update S (Obj.mapSeq (fun _ => (#[] : Array Value))) = g1 at h2 o1 it1 tt1
  have hT : ({ s with heap := g1 } : Shared).TypeIs (.ref I) "reversed" := RT.IsRt.typeIs (s := { s with heap := g1 }) it1
  have n1 : Builtin.List.listSameRef (.ref S) (.ref I) = false := by simp [Builtin.List.listSameRef, hSI]
  (unfold Builtin.List.listExtendWith)
  refine wpAny_bind (wpAny_typeOf hT ?_)
  rw [if_neg (by rw [n1]; decide)]
  refine wpAny_bind (RT.iter_rt (s := { s with heap := g1 }) it1 ?_)
  refine wpAny_bind (wpAny_holding ?_)
  refine hint_rt (s := { s with heap := g1 }) it1 tt1 hz fun tk => ?_
  have fin : ∀ (g2 : Heap) (c0 : Nat), g2.get? S = some { cls := .type "list", dict := none, data := .seq #[] c0, slots := #[] } → (∀ b o, b ≠ S → s.heap.get? b = some o → g2.get? b = some o) → wpAny (model P w) A.in1 (again (Code.builtin "list.extend.loop" ⟨[.ref S, .ref I, .none], []⟩))
      (fun fin s' => match fin with | .done f => R (.ok f) s' | .again c' => c'.quiet = true ∧ codeAny (model P w) A c' R s') (fun e s' => R (.error e) s') { s with heap := g2, toks := tk } := fun g2 c0 hS2 o2 => by
    have it2 := hit.at fun o e => o2 I o (Ne.symm hSI) e
    have tt2 : IsTup g2 t items := Heap.IsTuple.at ht fun o e => o2 t o (Ne.symm hSt) e
    have e0 : ((items.size : Nat) : Int) - 1 - ((0 : Nat) : Int) = (items.size : Int) - 1 := by omega
    refine wpAny_pure ⟨plainId_quiet F.plain_extend_loop _, codeAny_extend_loopS W hz _ hSf _ items.size 0 { s with heap := g2, toks := tk } _ _ rfl (Nat.zero_le _) ⟨Nat.zero_le _, by rw [e0]; exact it2, tt2⟩ hS2 (ItemsOf.nil _) fun s' acc' c' hm hS' hacc => ?_⟩
    refine q s' acc' c' (fun b o h1 h2 e => hm.heap b o (fun hmem => ?_) (o2 b o h1 e)) ⟨s'.heap, s'.toks, by have e := Moved.eq_with hm; exact e⟩ hS' hacc
    rcases List.mem_cons.mp hmem with e' | e'
    · exact h1 e'
    · exact h2 (List.mem_singleton.mp e')
  by_cases h0 : items.size = 0
  · rw [if_neg (by rw [h0]; decide +kernel)]
    exact fin g1 _ h2 o1
  · rw [if_pos (by rw [bne_iff_ne.mpr h0]; rfl)]
    refine wpAny_bind (wpAny_rule ?_)
    refine wpAny_bind ?_
    show wpAny _ A.in1 (updateSeq S (·.push .none) >>= fun _ => updateSeq S (·.pop)) _ _ _
    refine wpAny_bind (wpAny_updateSeq h2 rfl ?_)
    have h3 := Heap.get?_update_self (Obj.mapSeq (·.push Value.none)) h2 rfl
    refine wpAny_updateSeq (hz := by seq_fits) h3 rfl ?_
    have h4 := Heap.get?_update_self (Obj.mapSeq (·.pop)) h3 rfl
    exact fin _ _ h4 fun b o hb e => (Heap.get?_update_other _ _ (Ne.symm hb)).trans ((Heap.get?_update_other _ _ (Ne.symm hb)).trans (o1 b o hb e))
theorem call_list_rt {I t : Addr} {items : Array Value} {Q : Value → Shared → Prop} (hh : A.handled = none) (hit : RT.IsRt s.heap I t ((items.size : Int) - 1)) (ht : IsTup s.heap t items) (hz : items.size ≤ sizeLine) (hne : t ≠ I)
    (q : ∀ h tk acc c', (∀ b o, b ≠ I → s.heap.get? b = some o → h.get? b = some o) → h.get? s.heap.objs.size = some { cls := .type "list", dict := none, data := .seq acc c', slots := #[] } → ItemsOf (fun i v => items[items.size - 1 - i]? = some v) acc items.size → Q (.ref s.heap.objs.size) { s with heap := h, toks := tk }) :
    wpAny (model P w) A (call (.type "list") [.ref I]) Q E s := by
  obtain ⟨oi, hoi, _⟩ := id hit
  obtain ⟨ot, hot, _⟩ := id ht
  have sI : s.heap.objs.size ≠ I := Nat.ne_of_gt (Heap.lt_size hoi)
  have sT : s.heap.objs.size ≠ t := Nat.ne_of_gt (Heap.lt_size hot)
  refine callType_codes (Q₁ := fun obj s₁ => obj = .ref s.heap.objs.size ∧ s₁ = { s with heap := s.heap.push { cls := .type "list", data := .seq #[] } }) F.called_list (F.typeCall_list_1 _) F.entry_list_init
    (code_list_new _ ⟨rfl, rfl⟩) fun obj s₁ h₁ => ?_
  obtain ⟨rfl, rfl⟩ := h₁
  have hS : (s.heap.push { cls := .type "list", data := .seq #[] }).get? s.heap.objs.size = some { cls := .type "list", data := .seq #[] } := Heap.get?_push_size _ rfl
  refine ⟨⟨_, hS, rfl⟩, F.args_list_init_2 _ _, init_rt (s := { s with heap := s.heap.push { cls := .type "list", data := .seq #[] } }) (A := A.in1) hh (hit.at fun o e => Heap.get?_push_of_some _ e) (Heap.IsTuple.at ht fun o e => Heap.get?_push_of_some _ e) hz hne sI sT hS fun s' acc c' hk he hS' hacc => ?_⟩
  obtain ⟨h, tk, rfl⟩ := he
  exact ⟨rfl, q h tk acc c' (fun b o hb e => hk b o (Nat.ne_of_lt (Heap.lt_size e)) hb (Heap.get?_push_of_some _ e)) hS' hacc⟩
end
def tLR (K : PySem.W.Frag) (te : TE) : TE := fun σ H Q => te σ H fun v H1 => ∃ (a : Addr) (xs : List V), v = .ref a ∧ SqT K H1 a xs ∧ ∀ q, H1 q = none → Q (.ref q) (upd H1 q (.lst xs.reverse))
section
variable {X : Cx} {e : Expr} {te : TE} {p p2 pos pos2 : Pos}
theorem pe_listRev (hc : X.calm = true) (hg : Gl X "list") (hm : X.mg "list" = none) (hg2 : Gl X "reversed") (hm2 : X.mg "reversed" = none) (he : PE X e te)
    (hs : starEach [e] X.env = (false, eval e X.env) :: starEach [] X.env := by rfl)
    (na : starEach [.Call (.Name "reversed" p2) [e] [] pos2] X.env = (false, eval (.Call (.Name "reversed" p2) [e] [] pos2) X.env) :: starEach [] X.env := by rfl) :
    PE X (.Call (.Name "list" p) [.Call (.Name "reversed" p2) [e] [] pos2] [] pos) (tLR X.K te) := by
  refine ⟨fun pins s σ H Q I h => ?_⟩
  refine Call_ (ld_blt I hg hm boot_list ?_)
  refine PyProof.Rows.callWith_type1 (args_cons ?_ na) na
  refine Call_ (ld_blt I hg2 hm2 PyProof.Rows.boot_reversed (PyProof.Rows.callWith_type1 (args_cons (thn (he.run pins s σ H _ I h) fun u s1 ⟨v, H1, I1, r1, q1⟩ => args_nil ?_) hs) hs rfl))
  obtain ⟨a, xs, ev, hq, q⟩ := q1
  subst ev
  obtain rfl : u = Value.ref a := r1
  obtain ⟨its, rv, p', hz⟩ := I1.tuple hq
  have hl := rv.length
  have hz' : its.toArray.size ≤ sizeLine := by rw [List.size_toArray, ← hl]; exact hz
  have hn := line63
  refine RT.call_reversed_tup p' (fun A E Q k => len_tuple p' (by simp only [List.size_toArray] <;> omega) k) ?_
  refine args_nil ?_
  have I2 : Inv X pins σ H1 { s1 with heap := s1.heap.push (RT.rtObj a ((its.toArray.size : Int) - 1)), toks := s1.toks + 1 + 1 } := I1.kept (t' := s1.toks + 1 + 1) fun b o e => Heap.get?_push_of_some _ e
  obtain ⟨oa, hoa, _⟩ := id p'
  have na' : a ≠ s1.heap.objs.size := Nat.ne_of_lt (Heap.lt_size hoa)
  refine call_list_rt (I := s1.heap.objs.size) (t := a) (items := its.toArray) (I2.ok.hd hc) ⟨_, Heap.get?_push_size _ rfl, rfl, rfl⟩ (Heap.IsTuple.at p' fun o e => Heap.get?_push_of_some _ e) hz' na' fun h' tk acc c' hk e' hi => ?_
  have hv : Vals xs.reverse acc.toList := RT.vals_rev rv hi
  have old : ∀ b o, s1.heap.get? b = some o → h'.get? b = some o := fun b o e => hk b o (Nat.ne_of_lt (Heap.lt_size e)) (Heap.get?_push_of_some _ e)
  have sz : s1.heap.objs.size ≤ (s1.heap.push (RT.rtObj a ((its.toArray.size : Int) - 1))).objs.size := by rw [Heap.size_push]; exact Nat.le_succ _
  generalize hS : (s1.heap.push (RT.rtObj a ((its.toArray.size : Int) - 1))).objs.size = S at sz
  have e'' : h'.get? S = some { cls := .type "list", dict := none, data := .seq acc c', slots := #[] } := by rw [← hS]; exact e'
  have fin : EP X pins σ Q (.ref S) { s1 with heap := h', toks := tk } := ⟨.ref S, upd H1 S (.lst xs.reverse), I1.laid (t' := tk) old sz (show ObjOk X.prog X.w _ _ _ (.lst _) from ⟨by rw [List.length_reverse]; exact hz, acc.toList, c', hv, by rw [Array.toArray_toList]; exact e''⟩), rfl, q _ (I1.hok.fresh sz)⟩
  exact fin
end
def eLR (m : Bool) (f : FE) : FE := seqF f fun w _ G => match w with
  | .d (.tup ds) => newL m (ds.reverse.map W.d) G
  | _ => .bad
section
variable {X : Cx} {c : RC} {Z : WX} {e : Expr} {f : FE} {p p2 pos pos2 : Pos}
theorem mListRev (m : Bool) (hK : c.K = X.K) (hc : X.calm = true) (hm : X.mg "list" = none) (hm2 : X.mg "reversed" = none) (he : PE X e (tM c Z f)) (hg : Gl X "list" := by rfl) (hg2 : Gl X "reversed" := by rfl)
    (hs : starEach [e] X.env = (false, eval e X.env) :: starEach [] X.env := by rfl)
    (na : starEach [.Call (.Name "reversed" p2) [e] [] pos2] X.env = (false, eval (.Call (.Name "reversed" p2) [e] [] pos2) X.env) :: starEach [] X.env := by rfl) :
    PE X (.Call (.Name "list" p) [.Call (.Name "reversed" p2) [e] [] pos2] [] pos) (tM c Z (eLR m f)) :=
  (pe_listRev hc hg hm hg2 hm2 he hs na).imp fun σ H Q h => by
    rw [← hK]
    refine (tG.seq (rep := RepW) h).imp fun x H1 ⟨F1, α1, G1, s, w, A1, r1, h1⟩ => ?_
    split at h1
    · rename_i ds
      cases r1 with
      | tup a b pl => exact ⟨_, _, rfl, Same.seqT A1.rel.fh a, fun p hp => newL_fin (m := m) (ws := ds.reverse.map W.d) (G := G1) h1 A1.rel (RepDs.ws (RepDs.rev b)) hp⟩
    · exact h1.elim
end
end M

set_option maxRecDepth 100000
set_option maxHeartbeats 4000000
/-! a chain as a test -/
namespace M
open PySem PySem.Spec PyProof.Rows L2
section
variable {X : Cx} {c : RC} {Z : WX} {pos : Pos}
theorem chain_imp {r r' : R2} {g g' : W → W → Gd → R (W × Gd)} {fa fb fc : FE} (o : OpM c Z r g) (o' : OpM c Z r' g')
    (pure1 : ∀ a b G, (∃ k, g a b G = .ok (.d (.bl k), G)) ∨ g a b G = .bad) (σ : St) (H : Hp) (Q : VK) (h : tM c Z (eChain g g' fa fb fc) σ H Q) : tChain r r' (tM c Z fa) (tM c Z fb) (tM c Z fc) σ H Q :=
  (tG.seq (rep := RepW) h).imp fun x H1 ⟨F1, α1, G1, s, aw, A1, r1, h1⟩ => by
    refine ⟨F1, α1, G1, s, A1, ?_⟩
    unfold seqF at h1
    cases e : fb s G1 with
    | bad => rw [e] at h1; exact h1
    | exc x s' G' => rw [e] at h1; exact h1
    | ok p =>
      rw [e] at h1
      intro F2 α2 H2 y x2 R2 r2
      have h2 := Fin.mono (rep := RepW) x2 h1
      dsimp only [R.bind] at h2
      rcases pure1 aw p.1 p.2 with ⟨k, eg⟩ | eg
      · rw [eg] at h2
        refine o F2 α2 p.2 H2 x y aw p.1 _ R2 (r1.mono x2) r2 ?_
        rw [eg]
        intro F3 α3 H3 z x3 R3 r3
        have r3' : RepD c.K F3 z (.bl k) := r3
        cases r3'
        refine ⟨k, rfl, ?_⟩
        dsimp only at h2
        cases k with
        | false => exact iteF (Fin.mono (rep := RepW) x3 h2 F3 α3 H3 _ Ext.refl R3 (RepD.bl _))
        | true =>
          refine iteT ⟨F3, α3, p.2, s, ⟨R3, A1.sl.mono (x2.trans x3)⟩, ?_⟩
          have h3 := Fin.mono (rep := RepW) x3 h2
          rw [if_pos rfl] at h3
          cases e4 : fc s p.2 with
          | bad => rw [e4] at h3; exact h3
          | exc x s' G' => rw [e4] at h3; exact h3
          | ok q =>
            rw [e4] at h3
            intro F4 α4 H4 u x4 R4 r4
            exact o' F4 α4 q.2 H4 y u p.1 q.1 Q R4 (r2.mono (x3.trans x4)) r4 (Fin.mono (rep := RepW) x4 h3)
      · rw [eg] at h2; exact h2.elim
theorem mChT {a b d : Expr} {op op' : CmpOp} {g g' : W → W → Gd → R (W × Gd)} {fa fb fc : FE} (pu : ∀ a b G, (∃ k, g a b G = .ok (.d (.bl k), G)) ∨ g a b G = .bad) (o : CmpOk X c Z op g) (o' : CmpOk X c Z op' g') (ha : PE X a (tM c Z fa)) (hb : PE X b (tM c Z fb)) (hc : PE X d (tM c Z fc))
    (hm : lastMarks [op, op'] [b, d] = false := by with_unfolding_all rfl) : PT X (.Compare a [op, op'] [b, d] pos) (tMT c Z (toT (eChain g g' fa fb fc))) :=
  let ⟨_, h1, h2⟩ := o.ex; let ⟨_, h3, h4⟩ := o'.ex; (pt_chain h2 h4 ha hb hc hm).imp fun σ H Q h => chain_imp h1 h3 pu σ H _ (toT_ok σ H Q h)
end
end M

set_option maxRecDepth 100000
set_option maxHeartbeats 4000000
/-! a set made of texts, any of them twice -/
namespace M
open PySem PySem.Spec PyProof.Rows L2
def dedS : List Str → List Str
  | [] => []
  | x :: r => if (dedS r).any (· == x) then dedS r else x :: dedS r
/-- of the first i texts, from the last one of them on -/
def metS (xs : List Str) (i : Nat) : List Str := dedS (xs.take i).reverse
theorem metS_succ {xs : List Str} {i : Nat} {x : Str} (h : xs[i]? = some x) : metS xs (i + 1) = if (metS xs i).any (· == x) then metS xs i else x :: metS xs i := by
  unfold metS
  rw [List.take_add_one, h]
  simp [dedS]
theorem metS_len (xs : List Str) : ∀ i, (metS xs i).length ≤ i
  | 0 => by simp [metS, dedS]
  | i + 1 => by
    have ih := metS_len xs i
    cases h : xs[i]? with
    | none =>
      have e : metS xs (i + 1) = metS xs i := by
        unfold metS
        rw [List.take_add_one, h]
        simp
      rw [e]
      omega
    | some x =>
      rw [metS_succ h]
      split
      · omega
      · simp
        exact ih
section
variable {P : Program} {w : World} {A : Around} {R : Result → Shared → Prop} {I S : Addr} {fp wr : List Addr} {n : Nat} {T : Nat → Value → Prop} {St : Nat → Shared → Prop} {Gn : Array GenState → Array GenState → Prop}
theorem loopG (W : WalksS P w A.in1 I fp wr Gn n T St) (nS : S ∉ fp) (xs : List Str) (lx : xs.length = n) (l4 : n ≤ 4000) (val : ∀ i v, T i v → ∃ t, v = .str (xs.getD i Str.empty) t) :
    ∀ (k i : Nat) (s : Shared), n - i = k → i ≤ n → St i s → s.heap.SetOf (PySem.strKind P w) S (fun z => (metS xs i).any (· == z)) (metS xs i).length →
      (∀ s', Moved (S :: wr) Gn s s' → s'.heap.SetOf (PySem.strKind P w) S (fun z => (metS xs n).any (· == z)) (metS xs n).length → R (.ok (.ret .none)) s') →
      codeAny (model P w) A (.builtin "set.update.loop" ⟨[.ref S, .ref I], []⟩) R s := by
  have nW : S ∉ wr := fun h => nS (W.sub _ h)
  have sub : ∀ b ∈ wr, b ∈ S :: wr := fun b hb => List.mem_cons_of_mem _ hb
  intro k
  induction k with
  | zero =>
    intro i s hk hi st hS q
    obtain rfl : i = n := by omega
    refine codeAny_builtin PyProof.Rows.F.entry_set_update_loop ?_
    rw [Around.under_plainId PyProof.Rows.F.plain_set_update_loop _]
    show wpAny _ A.in1 (pyNext (.ref I) >>= _) _ _ s
    refine wpAny_bind (W.done s _ _ st fun s' hm => ?_)
    show wpAny _ A.in1 (ret Value.none) _ _ s'
    obtain ⟨o, es, ep, t, ho, rest⟩ := hS
    exact wpAny_pure (q s' (hm.mono sub) ⟨o, es, ep, t, hm.heap S _ nW ho, rest⟩)
  | succ k ih =>
    intro i s hk hi st hS q
    have lt : i < n := by omega
    refine codeAny_builtin PyProof.Rows.F.entry_set_update_loop ?_
    rw [Around.under_plainId PyProof.Rows.F.plain_set_update_loop _]
    show wpAny _ A.in1 (pyNext (.ref I) >>= _) _ _ s
    refine wpAny_bind (W.item i s _ _ lt st fun v s' hP st' hm => ?_)
    obtain ⟨t, rfl⟩ := val i v hP
    have hS' : s'.heap.SetOf (PySem.strKind P w) S (fun z => (metS xs i).any (· == z)) (metS xs i).length := by
      obtain ⟨o, es, ep, tb, ho, rest⟩ := hS
      exact ⟨o, es, ep, tb, hm.heap S _ nW ho, rest⟩
    have hx : xs[i]? = some (xs.getD i Str.empty) := by
      rw [List.getD_eq_getElem?_getD, List.getElem?_eq_getElem (by omega)]
      rfl
    generalize xs.getD i Str.empty = x at hx
    show wpAny _ A.in1 (holding [Value.str x t] (setAdd S (.str x t)) >>= _) _ _ s'
    refine wpAny_bind (wpAny_holding ?_)
    unfold setAdd
    refine wpAny_holding ?_
    refine wpAny_bind ((PySem.strKind P w).pyHash (k := x) (strKind_is _ _ _ _) ?_)
    have lm := metS_len xs i
    refine wpAny_setAddHashed_of (knd := PySem.strKind P w) (s := { s' with toks := s'.toks + 1 }) (strKind_is _ _ _ _) rfl hS' (by unfold scanBound; omega) fun h' sb hS2 => ?_
    have hS3 : h'.SetOf (PySem.strKind P w) S (fun z => (metS xs (i + 1)).any (· == z)) (metS xs (i + 1)).length := by
      rw [metS_succ hx]
      refine PyProof.Rows.SetOf_congr hS2 (fun z => ?_) ?_
      · by_cases hm' : (metS xs i).any (· == x) = true
        · rw [if_pos hm']
          by_cases e : z = x
          · subst e
            simp [hm']
          · simp [e]
        · rw [if_neg hm', List.any_cons]
          by_cases e : z = x
          · subst e
            simp
          · have hb : (x == z) = false := by simpa [beq_iff_eq] using (fun u : x = z => e u.symm)
            simp [hb, e]
      · by_cases hm' : (metS xs i).any (· == x) = true
        · rw [if_pos hm']
          simp [hm']
        · rw [if_neg hm']
          simp [hm']
    refine wpAny_pure ⟨plainId_quiet PyProof.Rows.F.plain_set_update_loop _, ih (i + 1) _ (by omega) lt (W.frame _ s' _ _ st' (Nat.le_succ _) fun b hb o e => ?_) hS3 fun s2 hm2 hS4 => ?_⟩
    · rw [sb.2 b fun h : b = S => nS (by rw [← h]; exact hb)]
      exact e
    · refine q s2 (Moved.trans W.gtrans ((hm.mono sub).then_heap (Nat.le_succ _) fun b o hb e => ?_) hm2) hS4
      rw [sb.2 b fun h : b = S => hb (by rw [h]; exact List.mem_cons_self)]
      exact e
end
/-- a new set, nothing in it -/
abbrev setN (b : Bool) : Obj := { cls := .type "set", dict := none, data := .set #[] 0 (.fresh 0 0 b) }
section
variable {P : Program} {w : World} {A : Around} {E : Value → Shared → Prop} {s : Shared}
theorem set_init_list {l : Addr} {its : Array Value} {xs : List Str} (b : Bool) (hh : A.handled = none) (hl : s.heap.IsList l its) (hi : PyProof.Rows.StrsAre its.toList xs) (l4 : xs.length ≤ 4000) {R : Result → Shared → Prop}
    (q : ∀ (g : Heap) (tk : Nat), g.SetOf (PySem.strKind P w) s.heap.objs.size (fun z => (metS xs xs.length).any (· == z)) (metS xs xs.length).length → (∀ c o, c < s.heap.objs.size → s.heap.get? c = some o → g.get? c = some o) → R (.ok (.ret .none)) { s with heap := g, toks := tk }) :
    wpAny (model P w) A.in1 (Builtin.«set.__init__» ⟨[.ref s.heap.objs.size, .ref l], []⟩)
      (fun fin s' => match fin with | .done f => R (.ok f) s' | .again c' => c'.quiet = true ∧ codeAny (model P w) A c' R s') (fun e s' => R (.error e) s') { s with heap := s.heap.push (setN b) } := by
  obtain ⟨ol, hol, hcl, nl, hdl⟩ := hl
  obtain ⟨oc, od, odt, osl⟩ := ol
  simp only at hcl hdl
  subst hcl hdl
  have hol2 : (s.heap.push (setN b)).get? l = some { cls := .type "list", dict := od, data := .seq its nl, slots := osl } := Heap.get?_push_of_some _ hol
  have f1 := PySem.F.sub_list_set
  have f2 := PySem.F.sub_list_frozenset
  have f3 : (Value.type "list" == Value.type "dict") = false := by decide
  have hl1 : (s.heap.push (setN b)).IsList l its := ⟨_, hol2, rfl, nl, rfl⟩
  have hS : (s.heap.push (setN b)).get? s.heap.objs.size = some (setN b) := Heap.get?_push_size _ rfl
  (unfold Builtin.«set.__init__» noKeywords Builtin.Frozenset.updateFrom)
  generalize hPI : pyIter = PI
  wp_walk
  subst hPI
  refine wpAny_pyIter_list hl1 ?_
  refine wpAny_bind (wpAny_runValue ?_)
  have lS : l < s.heap.objs.size := Heap.lt_size hol
  have h3 : A.in1.in1.handled = none := by simp [hh]
  have sz : (s.heap.push (setN b)).objs.size = s.heap.objs.size + 1 := Heap.size_push ..
  have nI : l ≠ (s.heap.push (setN b)).objs.size := by
    rw [sz]
    exact Nat.ne_of_lt (Nat.lt_succ_of_lt lS)
  have nF : s.heap.objs.size ∉ [(s.heap.push (setN b)).objs.size, l] := by
    rw [sz]
    simp only [List.mem_cons, List.not_mem_nil, or_false, not_or]
    exact ⟨Nat.ne_of_lt (Nat.lt_succ_self _), Nat.ne_of_gt lS⟩
  have lx : xs.length = its.size := by rw [← StrsAre.len_eq hi, Array.length_toList]
  refine loopG ((Walks.list h3 _ l nI its).toS) nF xs lx (by rw [← lx]; exact l4) (fun i v hv => SS.strs_at hi i v (by rw [Array.getElem?_toList]; exact hv)) (its.size - 0) 0 _ (by omega) (Nat.zero_le _) ⟨⟨_, Heap.get?_push_size _ rfl, rfl, rfl⟩, hl1.push _⟩ ?_ fun s' hm hS2 => ?_
  · have hg : ((s.heap.push (setN b)).push { cls := .type "list_iterator", data := .fields #[.ref l, .int 0 0] }).get? s.heap.objs.size = some (setN b) := Heap.get?_push_of_some _ hS
    exact PyProof.Rows.SetOf_congr ((PyProof.Rows.setObjOf_fresh (knd := PySem.strKind P w) b).setOf hg (by unfold scanBound; omega)) (fun _ => rfl) rfl
  · have e := Moved.eq_with hm
    rw [← lx] at hS2
    refine wpAny_pure ?_
    show wpAny _ _ (ret Value.none) _ _ _
    refine wpAny_pure ?_
    rw [e]
    refine q s'.heap s'.toks hS2 fun c o hc ho => hm.heap c o ?_ (Heap.get?_push_of_some _ (Heap.get?_push_of_some _ ho))
    rw [sz]
    simp only [List.mem_cons, List.not_mem_nil, or_false, not_or]
    exact ⟨Nat.ne_of_lt hc, Nat.ne_of_lt (Nat.lt_succ_of_lt hc)⟩
end
section
variable {P : Program} {w : World} {A : Around} {E : Value → Shared → Prop} {s : Shared}
theorem call_set_listG {l : Addr} {its : Array Value} {xs : List Str} {Q : Value → Shared → Prop} (hh : A.handled = none) (hl : s.heap.IsList l its) (hi : PyProof.Rows.StrsAre its.toList xs) (l4 : xs.length ≤ 4000)
    (q : ∀ (g : Heap) (tk : Nat), g.SetOf (PySem.strKind P w) s.heap.objs.size (fun z => (metS xs xs.length).any (· == z)) (metS xs xs.length).length → (∀ c o, c < s.heap.objs.size → s.heap.get? c = some o → g.get? c = some o) → Q (.ref s.heap.objs.size) { s with heap := g, toks := tk }) :
    wpAny (model P w) A (call (.type "set") [.ref l]) Q E s := by
  obtain ⟨cv, tl, m0⟩ := PySem.F.called_set.mro
  have m1 := PySem.F.called_set.made
  have m2 := PySem.F.called_set.sub
  refine wpAny_call (codeAny_of_tree ?_)
  show wpAny _ _ (callAny (.type "set") _) _ _ _
  (refine wpAny_pure ⟨Code.quiet_builtin _ (by decide +kernel), codeAny_builtin PySem.F.entry_type_call ?_⟩)
  (rw [Around.under_plain (weight_type_call_type "set" [.ref l] []) rfl])
  have m3 := PySem.F.called_set.notType
  have m4 := PySem.F.called_set.canCreate
  have m5 := PySem.F.typeCall_set_1 (.ref l)
  repeat (any_goals (first | assumption | wp_step))
  refine codeAny_mono (code_set_new_1 (.ref l) (E := E) (Q₁ := fun ob u => ∃ b : Bool, ob = .ref s.heap.objs.size ∧ u = { s with heap := s.heap.push (setN b) }) fun b => ⟨b, rfl, rfl⟩) fun r u hr => ?_
  cases r with
  | error e => exact hr
  | ok fl =>
    cases fl with
    | ret ob =>
      obtain ⟨b, rfl, rfl⟩ := hr
      have hT : Shared.TypeIs { s with heap := s.heap.push (setN b) } (.ref s.heap.objs.size) "set" := ⟨_, Heap.get?_push_size _ rfl, rfl⟩
      have m6 := PySem.F.called_set.init.lookup
      have m7 := PySem.F.called_set.init.bind (.ref s.heap.objs.size)
      repeat (any_goals (first | assumption | wp_step))
      refine codeAny_mono (codeAny_call_builtin (R := wants (fun r u => r = .none ∧ Q (.ref s.heap.objs.size) u) E) PySem.F.called_set.init.plain PySem.F.entry_set_init (check_set_init_1 hT (set_init_list b (by simp [hh]) hl hi l4 fun g tk h1 h2 => ⟨rfl, q g tk h1 h2⟩))) fun r2 u2 hr2 => ?_
      cases r2 with
      | error e => exact hr2
      | ok fl2 =>
        cases fl2 with
        | ret r =>
          obtain ⟨rfl, hq⟩ := hr2
          repeat (any_goals (first | assumption | wp_step))
        | _ => exact hr2.elim
    | _ => exact hr.elim
end
def tLenS (K : PySem.W.Frag) (ta : TE) : TE := fun σ H Q => ta σ H fun x H1 => ∃ (l : Addr) (xs : List Str), x = .ref l ∧ SqL K H1 l (xs.map V.str) ∧ xs.length ≤ 4000 ∧ Q (.int ((metS xs xs.length).length : Nat)) H1
theorem strs_of : ∀ {xs : List Str} {us : List Value}, Vals (xs.map V.str) us → PyProof.Rows.StrsAre us xs
  | [], _, .nil => .nil
  | x :: xs, _, .cons r t => by
    obtain ⟨k, rfl⟩ := r
    exact .cons x k (strs_of t)
section
variable {X : Cx} {a : Expr} {ta : TE} {p p2 q pos : Pos}
theorem pe_lenS (hg : Gl X "len") (hm : X.mg "len" = none) (hg2 : Gl X "set") (hm2 : X.mg "set" = none) (ha : PE X a ta) (hc : X.calm = true) (na : starEach [a] X.env = (false, eval a X.env) :: starEach [] X.env := by rfl) :
    PE X (.Call (.Name "len" p) [.Call (.Name "set" p2) [a] [] q] [] pos) (tLenS X.K ta) := by
  refine ⟨fun pins s σ H Q I h => ?_⟩
  refine Call_ (ld_blt I hg hm boot_len ?_)
  refine PyProof.Rows.callWith_builtin1 (args_cons ?_ rfl) rfl rfl
  refine Call_ (ld_blt I hg2 hm2 boot_set ?_)
  refine PyProof.Rows.callWith_type1 (args_cons (thn (ha.run pins s σ H _ I h) fun v s1 ⟨x, H1, I1, r1, q1⟩ => args_nil ?_) na) na rfl
  obtain ⟨l, xs, rfl, hq, l4, q1⟩ := q1
  cases r1
  obtain ⟨its, r, pl, hz⟩ := I1.list hq
  refine call_set_listG (I1.ok.hd hc) pl.isList (by simpa using strs_of r) l4 fun g tk hS hk => ?_
  refine args_nil ?_
  have lm := metS_len xs xs.length
  obtain ⟨o, es, ep, t, ho, e1, hd, _, _, _, hf, hn⟩ := hS
  have I2 : Inv X pins σ H1 { s1 with heap := g, toks := tk } := I1.kept fun b o e => hk b o (Heap.lt_size e) e
  exact call_len_set ho e1 hd hf (by rw [hn] <;> omega) ⟨.int ((metS xs xs.length).length : Nat), H1, I2.tok _, ⟨_, by rw [hn]⟩, q1⟩
end
def strD : List D → Option (List Str)
  | [] => some []
  | .str z :: r => (strD r).map (z :: ·)
  | _ :: _ => none
theorem strD_rep {K : PySem.W.Frag} {F : Hp} : ∀ {ds : List D} {xs : List Str} {vs : List V}, strD ds = some xs → RepDs K F vs ds → vs = xs.map V.str
  | [], xs, vs, h, r => by
    cases h
    cases r
    rfl
  | d :: ds, xs, vs, h, r => by
    cases d with
    | str z =>
      simp only [strD, Option.map_eq_some_iff] at h
      obtain ⟨ys, e, rfl⟩ := h
      cases r with
      | cons a b =>
        cases a
        rw [strD_rep e b]
        rfl
    | _ => simp [strD] at h
def eLenS (f : FE) : FE := seqF f fun w _ G => match w with
  | .d (.lst ds) => match strD ds with
    | some xs => if xs.length ≤ 4000 then .ok (.d (.int ((metS xs xs.length).length : Nat)), G) else .bad
    | none => .bad
  | _ => .bad
section
variable {X : Cx} {c : RC} {Z : WX} {e : Expr} {f : FE} {p p2 pos pos2 : Pos}
theorem mLenSet (hK : c.K = X.K) (hc : X.calm = true) (hm : X.mg "len" = none) (hm2 : X.mg "set" = none) (he : PE X e (tM c Z f)) (hg : Gl X "len" := by rfl) (hg2 : Gl X "set" := by rfl) (na : starEach [e] X.env = (false, eval e X.env) :: starEach [] X.env := by rfl) :
    PE X (.Call (.Name "len" p) [.Call (.Name "set" p2) [e] [] pos2] [] pos) (tM c Z (eLenS f)) :=
  (pe_lenS hg hm hg2 hm2 he hc na).imp fun σ H Q h => by
    rw [← hK]
    refine (tG.seq (rep := RepW) h).imp fun x H1 ⟨F1, α1, G1, s, w, A1, r1, h1⟩ => ?_
    split at h1
    · split at h1
      · rename_i xs hx
        split at h1
        · rename_i l4
          cases r1 with
          | lst a b =>
            have := strD_rep hx b
            subst this
            exact ⟨_, xs, rfl, SqL.of (A1.rel.fh _ _ a), l4, h1 F1 α1 H1 _ Ext.refl A1.rel (RepD.int _)⟩
        · exact h1.elim
      · exact h1.elim
    · exact h1.elim
end
end M

set_option maxRecDepth 100000
set_option maxHeartbeats 4000000
/-! try: body, except C: y = None; a tuple so many times -/
namespace M
open PySem PySem.Spec PyProof.Rows L2
def sTryO (l : List (Str × Bool)) (j : Nat) (fb : FS) : FS := fun s G => match fb s G with
  | .exc x s' G' => match hitOf l x.cls with
    | some true => .ok (.nx (s'.set j (some (.d .non))), G')
    | some false => .exc x s' G'
    | none => .bad
  | r => r
section
variable {X : Cx} {c : RC} {Z : WX}
theorem noneSuite {y : Str} {j kk : Nat} {yp ep ap : Pos} (hN : X.N.Nodup) (hj : X.N[j]? = some y) (hl : Loc X.env.scope y) (hf : X.fn y = true ∨ X.env.scope.names.lookup y = some .local) :
    PSs X [.Assign [.Name y yp] (.Constant .none kk ep) ap] (fun D σ H => D.nx (σ.set j (some .non)) H) :=
  (pss_one (ps_set hN hj hl pe_non rfl hf)).imp fun D σ H h => h
theorem mTryO {cn y : Str} {l : List (Str × Bool)} (j : Nat) {body : List Stmt} {fb : FS} {kk : Nat} {np yp ep ap pos pos' : Pos} (hcl : c.cl = clOf X.mg) (T : Hits X.K X.mg cn l) (hs : X.stack = X.env :: X.outer) (hf : X.env.frame = some X.env.locals) (hg : Gl X cn) (hdb : (cn == ("__debug__" : Str)) = false) (tk : Takes X Z)
    (hb : ∀ (W : WX) (pn : List (Addr × Obj)) (xe : Value → Shared → Prop), Takes (X.tr pn xe) W → PSs (X.tr pn xe) body (tMS c W fb))
    (hsu : ∀ (a : Addr) (oe : Obj) (pn : List (Addr × Obj)), PSs (X.suite a ((a, oe) :: pn)) [.Assign [.Name y yp] (.Constant .none kk ep) ap] (fun D σ H => D.nx (σ.set j (some .non)) H)) :
    PS X (.Try body [.ExceptHandler (some (.Name cn np)) none [.Assign [.Name y yp] (.Constant .none kk ep) ap] pos'] [] [] pos) (tMS c Z (sTryO l j fb)) := by
  obtain ⟨Cc, hC, hits⟩ := T
  refine (ps_try_only (X := X) (c := .ref Cc) (tb := fun W => tMS c W fb) (ts := fun _ _ _ => fun D σ H => D.nx (σ.set j (some .non)) H) (Wout := Z) hs hf ⟨hg, hdb, .inl hC⟩ tk (fun W pn xe t _ => hb W pn xe t) (fun a oe cls d pn _ _ => hsu a oe pn)).imp fun En σ H ⟨F, α, G, s, A, h⟩ => ?_
  refine ⟨F, α, G, s, A, ?_⟩
  unfold sTryO at h
  cases e : fb s G with
  | bad => rw [e] at h; exact h
  | ok p =>
    rw [e] at h
    obtain ⟨q, G'⟩ := p
    cases q <;> exact h
  | exc x s' G' =>
    rw [e] at h
    dsimp only at h
    intro F' α' H' σ' cls d e' R S r
    have r0 := r
    obtain ⟨C, rC, rfl, rf⟩ := r
    cases eh : hitOf l x.cls with
    | none => rw [eh] at h; exact h.elim
    | some b =>
      rw [eh] at h
      obtain ⟨C', hC', ex⟩ := hits x.cls b eh
      have : C' = C := by
        rw [hcl] at rC
        simp only [clOf, hC', Option.some.injEq] at rC
        exact rC
      subst this
      refine ⟨b, ex, fun hb a na => ?_, fun hb => ?_⟩
      · subst hb
        dsimp only at h
        have rn : RepW c.K F' α' G'.length .non (.d .non) := show RepD c.K F' .non .non from .non
        have S4 := S.set rn j
        exact h F' _ _ _ e' ⟨R, S4⟩
      · subst hb
        exact h F' α' H' σ' _ d e' R S r0
end
/-! t * k -/
def repD (k : Nat) (ds : List D) : List D := (List.replicate k ds).flatten
def wMulT : W → W → Gd → R (W × Gd) := fun a b G => match a, b with
  | .d (.tup ds), .d (.int k) => if ds ≠ [] ∧ 2 ≤ k ∧ k ≤ 1000 ∧ ds.length ≤ 1000 ∧ pairsD (repD k.toNat ds) = false then .ok (.d (.tup (repD k.toNat ds)), G) else .bad
  | _, _ => .bad
theorem repD_rep {K : PySem.W.Frag} {F : Hp} {ds : List D} {vs : List V} (r : RepDs K F vs ds) : ∀ k : Nat, RepDs K F (List.replicate k vs).flatten (repD k ds)
  | 0 => .nil
  | k + 1 => by
    have ih := repD_rep r k
    unfold repD at ih ⊢
    rw [List.replicate_succ, List.replicate_succ, List.flatten_cons, List.flatten_cons]
    exact r.append ih
section
variable {X : Cx} {c : RC} {Z : WX} {a b : Expr} {fa fb : FE} {pos : Pos}
theorem om_mulT : OpM c Z (rRepT c.K) wMulT := by
  intro F α G H x y a b Q R ra rb h
  unfold wMulT at h
  split at h
  · split at h
    · rename_i ds k hc
      cases rb
      cases ra with
      | tup a1 a2 a3 =>
        rename_i ad xs
        have hl := RepDs.length a2
        refine ⟨ad, k, xs, rfl, rfl, Same.seqT R.fh a1, fun e => hc.1 ?_, hc.2.1, hc.2.2.1, by rw [hl]; exact hc.2.2.2.1, fun p hp => ?_⟩
        · subst e
          exact List.length_eq_zero_iff.mp (by rw [← hl]; rfl)
        · obtain ⟨R', e'⟩ := R.frz hp (.tup (List.replicate k.toNat xs).flatten)
          exact h _ _ _ _ e' R' (show RepD c.K _ _ _ from .tup (.inl (.inl upd_same)) (RepDs.mono e'.f (repD_rep a2 _)) fun z => by rw [hc.2.2.2.2] at z; cases z)
    · exact h.elim
  · exact h.elim
theorem mMulT (hK : c.K = X.K) (ha : PE X a (tM c Z fa)) (hb : PE X b (tM c Z fb)) : PE X (.BinOp a .Mult b pos) (tM c Z (e2 wMulT fa fb)) := mBin (by rw [← hK]; exact om_mulT) op_repT ha hb
end
end M

set_option maxRecDepth 100000
/-! texts cut and joined, numbers as texts -/
namespace M
open PySem PySem.Spec PyProof.Rows L2
theorem tl_eq (z : Str) : TL.tl z = z.cps.toList := rfl
theorem split_joined {y : Str} {s : Nat} {S : List Nat} (ey : y.cps.toList = s :: S) (hk : y.cps.all (· < 256) = true) {parts : List Str} (hne : parts ≠ []) (hp : ∀ p ∈ parts, s ∉ p.cps.toList) : Txt.split (Txt.join y parts) y = parts :=
  TL.split_join ey hk hne hp
theorem join_len (y : Str) : ∀ parts : List Str, (Txt.join y parts).length + y.length ≤ (parts.map (·.length)).sum + parts.length * y.length + y.length := by
  intro parts
  rw [TL.join_eq]
  have key : ∀ ps : List Str, (Str.join y ps).length ≤ (ps.map (·.length)).sum + ps.length * y.length := by
    intro ps
    have e : (Str.join y ps).length = (TL.joinL (TL.tl y) (ps.map TL.tl)).length := by rw [TL.len_tl, TL.tl_join]
    rw [e]
    clear e
    induction ps with
    | nil => simp [TL.joinL]
    | cons p ps ih =>
      cases ps with
      | nil =>
        simp only [List.map_cons, List.map_nil, TL.joinL, List.sum_cons, List.sum_nil, List.length_cons, List.length_nil, ← TL.len_tl]
        omega
      | cons q r =>
        simp only [List.map_cons, TL.joinL, List.length_append, List.sum_cons, List.length_cons, ← TL.len_tl] at ih ⊢
        have : (r.length + 1 + 1) * y.length = (r.length + 1) * y.length + y.length := by rw [Nat.add_mul, Nat.one_mul]
        omega
  have := key parts
  omega
theorem join_cons (y p q : Str) (r : List Str) : Txt.join y (p :: q :: r) = p ++ y ++ Txt.join y (q :: r) := by
  rw [TL.join_eq, TL.join_eq]
  rfl
theorem join_one (y p : Str) : Txt.join y [p] = p := by
  rw [TL.join_eq]
  rfl
theorem join_mem (y : Str) (parts : List Str) (c : Nat) (h : c ∈ (Txt.join y parts).cps.toList) : c ∈ y.cps.toList ∨ ∃ p ∈ parts, c ∈ p.cps.toList := by
  rw [TL.join_eq] at h
  have h' : c ∈ TL.joinL (TL.tl y) (parts.map TL.tl) := by rw [← TL.tl_join]; exact h
  clear h
  induction parts with
  | nil => simp [TL.joinL] at h'
  | cons p ps ih =>
    cases ps with
    | nil =>
      simp only [List.map_cons, List.map_nil, TL.joinL] at h'
      exact .inr ⟨p, List.mem_cons_self .., h'⟩
    | cons q r =>
      simp only [List.map_cons, TL.joinL, List.mem_append] at h' ih
      rcases h' with h | h | h
      · exact .inr ⟨p, List.mem_cons_self .., h⟩
      · exact .inl h
      · rcases ih h with h | ⟨x, hx, hc⟩
        · exact .inl h
        · exact .inr ⟨x, List.mem_cons_of_mem _ hx, hc⟩
theorem num_head : ∀ n : Nat, 1 ≤ n → ∃ c r, TL.numL n = c :: r ∧ 49 ≤ c := by
  intro n
  induction n using Nat.strongRecOn with
  | _ n ih =>
    intro h1
    by_cases h : n < 10
    · rw [TL.numL_lt h]
      exact ⟨_, [], rfl, by omega⟩
    · obtain ⟨c, r, e, hc⟩ := ih (n / 10) (by omega) (by omega)
      rw [TL.numL_step (by omega), e]
      exact ⟨c, r ++ _, rfl, hc⟩
/-- a number's signs -/
theorem int_signs (i : Int) : ∃ k r, TL.numL i.natAbs = k :: r ∧ (∀ c ∈ k :: r, 48 ≤ c ∧ c ≤ 57) ∧ (k = 48 → r = [] ∧ i = 0) ∧ (Str.ofString (toString i)).cps.toList = if i < 0 then 45 :: k :: r else k :: r := by
  have hd := TL.numL_digits i.natAbs
  have hs : (Str.ofString (toString i)).cps.toList = if i < 0 then 45 :: TL.numL i.natAbs else TL.numL i.natAbs := by
    cases i with
    | ofNat n =>
      rw [if_neg (show ¬ Int.ofNat n < 0 from Int.not_lt.mpr (Int.natCast_nonneg n))]
      exact TL.tl_num n
    | negSucc n =>
      rw [if_pos (Int.negSucc_lt_zero n)]
      rw [PyProof.Rows.signs_ofString]
      show (("-" ++ toString (n + 1)).toList.map Char.toNat) = _
      rw [String.toList_append, List.map_append]
      have e := TL.tl_num (n + 1)
      have e2 : (toString (n + 1)).toList.map Char.toNat = TL.numL (n + 1) := by
        rw [← e, TL.tl_ofString]
        rfl
      rw [e2]
      rfl
  by_cases h0 : i = 0
  · subst h0
    refine ⟨48, [], rfl, fun c hc => ?_, fun _ => ⟨rfl, rfl⟩, ?_⟩
    · rw [List.mem_singleton.mp hc]; omega
    · rw [hs]; rfl
  · obtain ⟨c, r, e, hc⟩ := num_head i.natAbs (by omega)
    refine ⟨c, r, e, fun d hd' => ?_, fun hk => by omega, by rw [hs, e]⟩
    rw [e] at hd
    exact hd d hd'
theorem int_slen {i : Int} {k r} (e : TL.numL i.natAbs = k :: r) (n : Nat) (h : i.natAbs < 10 ^ (n + 1)) : (k :: r).length ≤ n + 1 := by
  rw [← e]
  exact TL.numL_len (by omega) h
/-- a number's text, read -/
theorem int_read (i : Int) (h : i.natAbs < 10 ^ 60) : intText? (Str.ofString (toString i)) = some i := by
  obtain ⟨k, r, e, hd, h0, hs⟩ := int_signs i
  have hl := int_slen e 59 h
  have hv := TL.numL_val i.natAbs
  rw [e] at hv
  have len : (Str.ofString (toString i)).length ≤ 61 := by
    show (Str.ofString (toString i)).cps.size ≤ 61
    rw [← Array.length_toList, hs]
    split
    · rw [List.length_cons]; omega
    · omega
  by_cases hi : i < 0
  · rw [if_pos hi] at hs
    rw [PySem.intText_neg hs hd (by simp) (by omega), hv]
    congr 1
    omega
  · rw [if_neg hi] at hs
    rw [PySem.intText_digits (by rw [hs]; exact hd) (by rw [hs]; simp) (by omega), hs, hv]
    congr 1
    omega
theorem int_tlen {i : Int} (h : i.natAbs < 10 ^ 60) : (Str.ofString (toString i)).length ≤ 61 := by
  obtain ⟨k, r, e, hd, h0, hs⟩ := int_signs i
  have hl := int_slen e 59 h
  show (Str.ofString (toString i)).cps.size ≤ 61
  rw [← Array.length_toList, hs]
  split
  · rw [List.length_cons]; omega
  · omega
end M

set_option maxRecDepth 100000
set_option maxHeartbeats 4000000
/-! errors of one's own that keep something: made, raised, read -/
namespace M
open PySem PySem.Spec PyProof.Rows L2
section
variable {X : Cx} {e : Expr} {es : List Expr} {ta : TA} {p1 p2 pos : Pos}
/-- B.__init__(self, ..), B an own class over ValueError without an own __init__ -/
theorem pe_ceinit {B : Str} {CB : Addr} {pl : Sem Bool} (hg : Gl X B) (hm : X.mg B = some (.ref CB)) (ga : PySem.W.specialIn X.K (.ref CB) "__getattribute__" = some (some (.builtin "type.__getattribute__"))) (rd : PySem.W.readsIn X.K CB (.type "type") = true)
    (fc : PySem.W.findCls X.K (.ref CB) (.type "type") "__init__" = some (.val (.builtin "ValueError.__init__"))) (ha : PA X (e :: es) ta) (hdb : (B == ("__debug__" : Str)) = false)
    (hc : eval (.Call (.Attribute (.Name B p1) "__init__" p2) (e :: es) [] pos) X.env = (do
      let ov ← eval (.Name B p1) X.env
      standAt p2.atName
      let (f, first) ← holding [ov] (getMethod ov "__init__" pl)
      callWith pos f first (backTo pos (starEach (e :: es) X.env)) (backToKw pos (keywordEach [] X.env))) := by rfl)
    (he : starEach (e :: es) X.env = (false, eval e X.env) :: starEach es X.env := by rfl) (hpl : (backTo pos (starEach es X.env)).any (·.1) = false := by rfl) :
    PE X (.Call (.Attribute (.Name B p1) "__init__" p2) (e :: es) [] pos) (tVeI X.K ta) := by
  refine ⟨fun pins s σ H Q I h => ?_⟩
  refine PySem.W.methodCall_KW (ld_glob I hg hm ?_ hdb) hc
  refine PySem.W.method_cls I.kIn ga (PySem.W.cls_value I.kIn rd fc (by rfl) ?_)
  show wpAny _ _ (callWith pos (Value.builtin "ValueError.__init__") [] (backTo pos (starEach (e :: es) X.env)) []) _ _ _
  refine PyProof.Rows.callWith_method1 (thn (ha.run pos pins _ σ H _ (I.tok _) h) fun us s1 ⟨vs, H1, I1, r1, a, C, ws, ev, hl, T, ea, q⟩ => ?_) he hpl
  subst ev
  cases r1 with
  | @cons _ u0 _ ur ra rw' =>
    obtain rfl : u0 = Value.ref a := ra
    have hlen : ur.length ≤ sizeLine := by
      rw [← Paired.length rw', sizeLine_eq]
      omega
    exact oinit_ok T I1 ea hlen fun s' J => ⟨.non, H1, J, rfl, q⟩
end
/-- what such an __init__ does: (self, v): self.f = v -/
def spI (K : PySem.W.Frag) (f : Str) : Sp := fun vs H Q _ => ∃ (a C : Addr) (v : V), vs = [.ref a, v] ∧ OexC K C ∧ PySem.W.findIn K (.ref C) f = some none ∧ H a = some (exo a C none) ∧ ∀ dx, H dx = none → dx ≠ a → Q .non (upd (upd H dx (exd dx [(f, v)])) a (exo a C (some dx)))
def tIni (K : PySem.W.Frag) (f m : Str) : TS := tSeq (tDrop (tVeI K (tCons (tVar 0) (tCons (tC (.str m)) tNil)))) (tOst K f (tVar 0) (tVar 1))
/-- the class and its __init__, as written -/
def InitAt (K : PySem.W.Frag) (mg : Str → Option Value) (cn qual f : Str) (st : Stmt) (ps : List Str) : Prop :=
  ∃ C fI fd, Fun K "__init__" qual st fI fd ∧ mg cn = some (.ref C) ∧ OexC K C ∧ PySem.W.findIn K (.ref C) "__init__" = some (some (.ref fI)) ∧ PySem.W.typeIn K (.ref fI) = some (.type "function") ∧ PySem.W.findIn K (.ref C) f = some none ∧
    ∀ us : List Value, us.length = ps.length → bindArgs fd ⟨us, []⟩ = pure (ps.zip us)
/-- the base, as written -/
def BaseAt (K : PySem.W.Frag) (mg : Str → Option Value) (B : Str) : Prop :=
  ∃ CB, mg B = some (.ref CB) ∧ PySem.W.specialIn K (.ref CB) "__getattribute__" = some (some (.builtin "type.__getattribute__")) ∧ PySem.W.readsIn K CB (.type "type") = true ∧ PySem.W.findCls K (.ref CB) (.type "type") "__init__" = some (.val (.builtin "ValueError.__init__"))
def ErrM (P : Program) (w : World) (K : PySem.W.Frag) (mg : Str → Option Value) (base : Heap) (k : Nat) (cn f : Str) (ps : List Str) : Prop :=
  ∃ C fI fd, mg cn = some (.ref C) ∧ OexC K C ∧ PySem.W.findIn K (.ref C) "__init__" = some (some (.ref fI)) ∧ PySem.W.typeIn K (.ref fI) = some (.type "function") ∧ PySem.W.findIn K (.ref C) f = some none ∧ Binds K fd ps [] ∧ FnOk P w K mg base (L2.CX P w) k fI fd ps (spI K f)
section
variable {P : Program} {w : World} {K : PySem.W.Frag} {mg : Str → Option Value} {base : Heap}
theorem err_mk {cn qual f m : Str} {st : Stmt} {n0 n1 : Str} {k : Nat} (T : InitAt K mg cn qual f st [n0, n1]) (S : FnScope [n0, n1] [n0, n1] (defScope st))
    (hb : ∀ (fa : Addr) (cdv : Value) (A : Around) (outer : List Env) (s : Shared) (H : Hp) (E : XK), Room k (A.deeper (envOfC qual (defScope st) s.heap.objs.size fa cdv)) →
      PSs (cxOf (L2.CX P w) P w K mg base [n0, n1] qual (defScope st) fa cdv A outer s H E) (defBody st) (tIni K f m)) : ErrM P w K mg base (k + 1) cn f [n0, n1] := by
  obtain ⟨C, fI, fd, F, h1, h2, h3, h4, h5, hB⟩ := T
  refine ⟨C, fI, fd, h1, h2, h3, h4, h5, .all hB, F.okX S (fun vs H Q E h => ?_) fun cdv A outer s H vs Q E hr h => ?_⟩
  · obtain ⟨a, C, v, rfl, _⟩ := h
    rfl
  · have body := hb fI cdv A outer s H E hr
    refine ⟨_, body, ?_⟩
    obtain ⟨a, C', v, rfl, T', hno, ea, hq⟩ := h
    show ∃ v0, (start [n0, n1] [V.ref a, v])[0]? = some (some v0) ∧ _
    refine ⟨.ref a, rfl, ?_⟩
    refine ⟨a, C', [.str m], rfl, by simp, T', ea, ?_⟩
    refine ⟨v, rfl, .ref a, rfl, a, C', rfl, T', hno, .inl ⟨ea, fun dx hdx hne => hq dx hdx hne⟩⟩
end
theorem passNo {X : Cx} : Passes (L2.CX X.prog X.w) X (fun _ _ _ => False) := fun _ _ _ _ _ _ _ h => by
  obtain ⟨_, _, _, _, _, _, _, _, _, _, _, _, hE⟩ := h
  exact hE.elim
/-- raise cn(e), the error keeping e as f -/
def sRaiseF (cn f : Str) (fe : FE) : FS := fun s G => match fe s G with
  | .ok (.d x, G') => .exc ⟨cn, [(f, x)]⟩ s G'
  | .ok _ => .bad
  | .exc x s' G' => .exc x s' G'
  | .bad => .bad
section
variable {X : Cx} {c : RC} {Z : WX} {pos : Pos}
theorem mRaiseF {cn f : Str} {k : Nat} {ps : List Str} {e : Expr} {fe : FE} {p p3 : Pos} (T : ErrM X.prog X.w X.K X.mg X.base k cn f ps) (hK : X.K = c.K) (hcl : c.cl = clOf X.mg) (hr : Room (k + 1) X.A) (tk : Takes X Z) (hc : X.calm = true) (hg : Gl X cn) (he : PE X e (tM c Z fe))
    (hdb : (cn == ("__debug__" : Str)) = false := by decide) (hs : starEach [e] X.env = (false, eval e X.env) :: starEach [] X.env := by rfl) (hpl : (backTo p3 (starEach [] X.env)).any (·.1) = false := by rfl) :
    PS X (.Raise (some (.Call (.Name cn p) [e] [] p3)) none pos) (tMS c Z (sRaiseF cn f fe)) := by
  obtain ⟨C, fI, fd, h1, h2, h3, h4, h5, h6, h7⟩ := T
  have hC : c.cl cn = some C := by rw [hcl]; simp only [clOf, h1]
  refine (ps_raise hc tk (pmk_oex (dvs := []) h2 h3 h4 h7 hr h6 .nil passNo hg h1 (pa_cons he pa_nil hs) hdb hs hpl)).imp fun E σ H ⟨F, α, G, s, A, h⟩ => ?_
  show tM c Z fe σ H _
  refine ⟨F, α, G, s, A, ?_⟩
  unfold sRaiseF at h
  cases ef : fe s G with
  | bad => rw [ef] at h; exact h
  | exc x s' G' => rw [ef] at h; exact h
  | ok q =>
    obtain ⟨w, G'⟩ := q
    rw [ef] at h
    cases w with
    | ref i => exact h.elim
    | d x =>
      intro F' α' H' v e' R r
      have rd : RepD c.K F' v x := r
      show [v].length ≤ 1000 ∧ _
      refine ⟨by simp, fun a na => ⟨a, C, v, rfl, h2, h5, upd_same, fun dx hdx hne => ?_⟩⟩
      have ndx : H' dx = none := by rwa [upd_ne hne] at hdx
      refine ⟨rfl, dx, [(f, v)], upd_same, by rw [upd_ne hne, upd_same], ndx, ?_⟩
      have eH : upd (del (upd (upd (upd H' a (exo a C none)) dx (exd dx [(f, v)])) a (exo a C (some dx))) a) dx (.xd [(f, v)]) = upd H' dx (.xd [(f, v)]) := by
        funext b
        by_cases h1 : b = dx
        · rw [h1, upd_same, upd_same]
        · rw [upd_ne h1, upd_ne h1]
          by_cases h2 : b = a
          · rw [h2, del_same, na]
          · rw [del_ne h2, upd_ne h2, upd_ne h1, upd_ne h2]
      rw [eH]
      have sm : Same H' (upd H' dx (.xd [(f, v)])) := fun b o eb => by
        rw [upd_ne (ne_of_none eb ndx)]
        exact eb
      have R2 : Rel c F' α' G' (upd H' dx (.xd [(f, v)])) := R.after sm (R.fh.trans sm) (Same.refl _) (fun _ _ => rfl)
      have S2 := A.sl.mono e'
      exact h F' α' _ σ (.ref C) (some dx) e' R2 S2 ⟨C, hC, rfl, .inr ⟨dx, [(f, v)], rfl, (R.free ndx).1, upd_same, .cons ⟨rfl, rd⟩ .nil⟩⟩
/-! what an error keeps, read -/
def wErrF (cn f : Str) (w : W) (G : Gd) : R (W × Gd) := match w with
  | .ref i => match G[i]? with
    | some (.err cn' fs) => if cn' = cn then match fs.lookup f with
      | some x => .ok (.d x, G)
      | none => .bad else .bad
    | _ => .bad
  | _ => .bad
def eErrF (cn f : Str) (fe : FE) : FE := seqF fe fun w _ G => wErrF cn f w G
def ErrA (K : PySem.W.Frag) (mg : Str → Option Value) (cn f : Str) : Prop := ∃ C, mg cn = some (.ref C) ∧ XfC K C ∧ PySem.W.findIn K (.ref C) f = some none
def tXfA (K : PySem.W.Frag) (f : Str) (te : TE) : TE := fun σ H Q => te σ H fun x H1 => ∃ (a a' C dd : Addr) (fs : List (Str × V)) (v : V), x = .ref a ∧ H1 a = some (exA (.ref C) (some dd) a') ∧ XfC K C ∧ PySem.W.findIn K (.ref C) f = some none ∧ H1 dd = some (.xd fs) ∧ fs.lookup f = some v ∧ Q v H1
theorem pe_xfA {e : Expr} {te : TE} {n : Str} (he : PE X e te) (hb : attributeBase e n X.env (eval e X.env) = eval e X.env := by rfl) : PE X (.Attribute e n pos) (tXfA X.K n te) := by
  refine ⟨fun pins s σ H Q I h => ?_⟩
  refine attr_of hb (thn (he.run pins s σ H _ I h) fun u s1 hh => ?_)
  obtain ⟨x, H1, I1, rx, a, a', C, dd, fs, v, ex, ea, T, hno, ed, l, q⟩ := hh
  subst ex
  obtain rfl : u = Value.ref a := rx
  obtain ⟨_, oe, vs, hg, z, hd⟩ := exA_self (I1.hok a _ ea)
  have hx : ObjOk X.prog X.w H1 s1.heap dd (.xd fs) := I1.hok dd _ ed
  obtain ⟨mA, hns, hr⟩ := hx
  obtain ⟨od, ho, hl⟩ := lookIn_ns hns
  obtain ⟨u, hu, ru⟩ := RelO.some_of (v := v) (o := mA n) (by rw [← l]; exact hr n)
  have J : PySem.W.InstAt s1.heap a oe C (some od) := ⟨hg, z.1, by unfold PySem.W.notCls; rw [hd] <;> rfl, by rw [z.2]; exact ho⟩
  exact HandSPX.exc_get I1.kIn J T.ga T.gg T.exC (PySem.W.findObj_own T.hdC hno rfl (by rw [hl, hu])) (handed_of ru) ⟨v, H1, I1.tok _, ru, q⟩
theorem err_atF {F H : Hp} {α : Nat → Addr} {G : Gd} {i : Nat} {cn : Str} {fs : List (Str × D)} (R : Rel c F α G H) (e : G[i]? = some (.err cn fs)) : ∃ C d a, H (α i) = some (exA (.ref C) d a) ∧ c.cl cn = some C ∧ (fs = [] ∨ ∃ dx vs, d = some dx ∧ H dx = some (.xd vs) ∧ Paired (fun (p : Str × V) (q : Str × D) => p.1 = q.1 ∧ RepD c.K F p.2 q.2) vs fs) := by
  obtain ⟨⟨ho, e1, r⟩, _⟩ := R.ob i _ e trivial
  cases ho with
  | ext φ =>
    obtain ⟨C, d, a, h1, h2, h3⟩ := r
    refine ⟨C, d, a, by rw [e1, h1], h2, ?_⟩
    rcases h3 with ⟨h3, _⟩ | ⟨dx, vs, q1, q2, q3⟩
    · exact .inl h3
    · exact .inr ⟨dx, vs, q1, R.fh _ _ q2, q3⟩
  | _ => exact r.elim
theorem look_pair {K : PySem.W.Frag} {F : Hp} {f : Str} : ∀ {vs : List (Str × V)} {fs : List (Str × D)} {x : D}, Paired (fun (p : Str × V) (q : Str × D) => p.1 = q.1 ∧ RepD K F p.2 q.2) vs fs → fs.lookup f = some x → ∃ v, vs.lookup f = some v ∧ RepD K F v x
  | _, _, x, .nil, h => by cases h
  | _, _, x, @Paired.cons _ _ _ p q l r hpq hr, h => by
    obtain ⟨pn, pv⟩ := p
    obtain ⟨qn, qv⟩ := q
    obtain ⟨e1, e2⟩ := hpq
    simp only at e1 e2
    subst e1
    simp only [List.lookup] at h ⊢
    cases e : f == pn with
    | true =>
      rw [e] at h
      cases h
      exact ⟨pv, rfl, e2⟩
    | false =>
      rw [e] at h
      exact look_pair hr h
theorem mErrF {cn n : Str} {e : Expr} {fe : FE} (T : ErrA X.K X.mg cn n) (hK : X.K = c.K) (hcl : c.cl = clOf X.mg) (he : PE X e (tM c Z fe)) (hb : attributeBase e n X.env (eval e X.env) = eval e X.env := by rfl) : PE X (.Attribute e n pos) (tM c Z (eErrF cn n fe)) := by
  obtain ⟨C, h1, h2, h3⟩ := T
  refine (pe_xfA (pos := pos) he hb).imp fun σ H Q h => ?_
  refine (tG.seq (rep := RepW) h).imp fun w' H1 ⟨F1, α1, G1, s, w, A1, r1, h1'⟩ => ?_
  unfold wErrF at h1'
  split at h1'
  · rename_i i
    split at h1'
    · rename_i cn' fs eg
      split at h1'
      · rename_i ec
        subst ec
        split at h1'
        · rename_i x el
          obtain ⟨C', d, a, q1, q2, q3⟩ := err_atF A1.rel eg
          have : C' = C := by
            rw [hcl] at q2
            simp only [clOf, h1, Option.some.injEq] at q2
            exact q2.symm
          subst this
          rcases q3 with q3 | ⟨dx, vs, rfl, q4, q5⟩
          · subst q3
            cases el
          · obtain ⟨v, l1, l2⟩ := look_pair q5 el
            exact ⟨α1 i, a, C', dx, vs, v, by rw [r1.2], q1, h2, h3, q4, l1, h1' F1 α1 _ _ Ext.refl A1.rel l2⟩
        · exact h1'.elim
      · exact h1'.elim
    · exact h1'.elim
  · exact h1'.elim
end
/-! from what is written -/
def oexB (o : Obj) (C : Addr) : Bool := match o with
  | ⟨.type "type", _, .cls cd, sl⟩ => (match cd.mro, sl.toList with
    | .ref C' :: bm, [_, _, _, _, some (.builtin n), _] => C' == C && n == "ValueError.__new__" && !cd.hasDel && cd.hasDict && PySem.HandSPX.refsVE bm
    | _, _ => false)
  | _ => false
theorem oex_of {K : PySem.W.Frag} {C : Addr} {o : Obj} (l : K.lookup C = some o) (q : oexB o C = true) : ∃ nm q N bs bm sn sub ab col dd k0 k1 k2 k3 k5, K.lookup C = some (excClassObj nm q C N bs bm true sn sub ab col dd k0 k1 k2 k3 k5 "ValueError.__new__") ∧ PySem.HandSPX.refsVE bm = true := by
  unfold oexB at q
  split at q
  · rename_i dd cd sl
    split at q
    · rename_i C' bm k0 k1 k2 k3 n k5 hm hs
      simp only [Bool.and_eq_true, beq_iff_eq, Bool.not_eq_true'] at q
      obtain ⟨⟨⟨⟨rfl, rfl⟩, hdel⟩, hdct⟩, ht⟩ := q
      obtain ⟨nm, bs, mro, ns, qn, hd, sn, sub, ab, col, del⟩ := cd
      dsimp only at hm hdel hdct
      subst hm hdel hdct
      have hsl : sl = #[k0, k1, k2, k3, some (.builtin "ValueError.__new__"), k5] := by
        obtain ⟨l⟩ := sl
        simp only at hs
        rw [hs]
      subst hsl
      exact ⟨nm, qn, ns, bs, bm, sn, sub, ab, col, dd, k0, k1, k2, k3, k5, l, ht⟩
    · cases q
  · cases q
section
variable {K : PySem.W.Frag} {mg : Str → Option Value} {h : Heap} {cn qual f m : Str} {st : Stmt} {ps : List Str} {C fI : Addr} {o : Obj} {oc : Value} {od : Option Addr} {kV doc pm : Value} {an : Option Addr} {cd ct : Value} {sl : Array (Option Value)}
theorem initAt_mk (X : K.In h) (G : h.Ns mainGlobals mg) (aC : PySem.W.nsIn K mainGlobals cn = some (some (.ref C))) (lC : K.lookup C = some o) (qC : oexB o C = true)
    (sa : PySem.W.findIn K (.ref C) "__setattr__" = some (some (.builtin "object.__setattr__"))) (eC : PySem.W.subIn K (.ref C) (.type "BaseException") = some true) (tC : PySem.W.typeIn K (.ref C) = some (.type "type")) (kC : PySem.W.keepIn K (.ref C) = true)
    (a : PySem.W.findIn K (.ref C) "__init__" = some (some (.ref fI))) (t : PySem.W.typeIn K (.ref fI) = some (.type "function")) (nf : PySem.W.findIn K (.ref C) f = some none)
    (l : K.lookup fI = some ⟨oc, od, .func (PySem.W.fnOf "__init__" qual (defArgs st) (defBody st) (defScope st) .none kV doc pm an cd ct), sl⟩) (q : PySem.W.codeIn K cd qual = true) (k : PySem.W.keepIn K (.ref fI) = true)
    (b : ∀ (kV doc pm : Value) (an : Option Addr) (cdv ct : Value) (us : List Value), us.length = ps.length → bindArgs (PySem.W.fnOf "__init__" qual (defArgs st) (defBody st) (defScope st) .none kV doc pm an cdv ct) ⟨us, []⟩ = pure (ps.zip us)) : InitAt K mg cn qual f st ps :=
  ⟨C, fI, _, fun_mk (st := st) l q k, PySem.W.mg_of X G aC, ⟨oex_of lC qC, sa, eC, tC, kC⟩, a, t, nf, b kV doc pm an cd ct⟩
theorem baseAt_mk (X : K.In h) (G : h.Ns mainGlobals mg) (aC : PySem.W.nsIn K mainGlobals cn = some (some (.ref C))) (ga : PySem.W.specialIn K (.ref C) "__getattribute__" = some (some (.builtin "type.__getattribute__"))) (rd : PySem.W.readsIn K C (.type "type") = true)
    (fc : PySem.W.findCls K (.ref C) (.type "type") "__init__" = some (.val (.builtin "ValueError.__init__"))) : BaseAt K mg cn := ⟨C, PySem.W.mg_of X G aC, ga, rd, fc⟩
theorem errA_mk (X : K.In h) (G : h.Ns mainGlobals mg) (aC : PySem.W.nsIn K mainGlobals cn = some (some (.ref C))) (ga : PySem.W.findIn K (.ref C) "__getattribute__" = some (some (.builtin "BaseException.__getattribute__"))) (gg : PySem.W.findIn K (.ref C) "__getattr__" = some none)
    (eC : PySem.W.subIn K (.ref C) (.type "BaseException") = some true) (hd : PySem.W.hasDictIn K C = true) (nf : PySem.W.findIn K (.ref C) f = some none) : ErrA K mg cn f := ⟨C, PySem.W.mg_of X G aC, ⟨ga, gg, eC, hd⟩, nf⟩
end
/-! the kit's rules joined: the __init__ of such a class; an error made as a value -/
theorem pe_mk {X : Cx} {e : Expr} {t : L2.St → Hp → XK → Prop} (he : PMk X e t) : PE X e (fun σ H Q => t σ H fun cls d H1 => ∀ a, H1 a = none → Q (.ref a) (upd H1 a (exA cls d a))) := by
  refine ⟨fun pins s σ H Q I h => wpAny_mono (he pins s σ H _ I h) (fun u s1 hu => ?_) fun _ _ x => x⟩
  obtain ⟨a, oe, vs, sI, H', cls, d, rfl, J, k, hne, ha, hz, hd, h1, na, os, ag, r, q⟩ := hu
  have J2 := J.laidN (t' := s1.toks) k hne na (exA_ok ha hz hd)
  have J3 : Inv X pins σ (upd H' a (exA cls d a)) s1 := ⟨J2.ok, os.trans J2.os, ag, J2.base, J2.loc, J2.cell, J2.free, J2.freeC, J2.pin, J2.hok, J2.len⟩
  exact ⟨.ref a, _, J3, rfl, q a na⟩
def eMk1 (cn : Str) : FE := fun s G => .ok (.ref G.length, G ++ [.err cn []])
def eMkF (cn f : Str) (fe : FE) : FE := fun s G => match fe s G with
  | .ok (.d x, G') => .ok (.ref G'.length, G' ++ [.err cn [(f, x)]])
  | .ok _ => .bad
  | .exc x s' G' => .exc x s' G'
  | .bad => .bad
section
variable {X : Cx} {c : RC} {Z : WX} {pos : Pos}
theorem mMk1 {cn m : Str} {j : Nat} {p p2 p3 : Pos} (T : ExcT X.K X.mg cn) (hcl : c.cl = clOf X.mg) (hg : Gl X cn) (hdb : (cn == ("__debug__" : Str)) = false := by decide) :
    PE X (.Call (.Name cn p) [.Constant (.str m) j p2] [] p3) (tM c Z (eMk1 cn)) := by
  obtain ⟨C, h1, h2, h3, h4, h5⟩ := T
  have hC : c.cl cn = some C := by rw [hcl]; simp only [clOf, h1]
  refine (pe_mk (pmk_own PySem.F.excBase_ValueError h2 h1 h3 (raises_own h4 h5) hg hdb)).imp fun σ H Q ⟨F, α, G, s, A, h⟩ => ?_
  intro a na
  obtain ⟨R3, x3⟩ := A.rel.push na (ho := exA (.ref C) none a) (o := .err cn []) ⟨C, none, a, rfl, hC, .inl ⟨rfl, rfl⟩⟩
  exact h F _ _ _ x3 R3 ⟨by simp, by rw [pushA_eq]⟩
theorem mMkF {cn f : Str} {k : Nat} {ps : List Str} {e : Expr} {fe : FE} {p p3 : Pos} (T : ErrM X.prog X.w X.K X.mg X.base k cn f ps) (hK : X.K = c.K) (hcl : c.cl = clOf X.mg) (hr : Room (k + 1) X.A) (hg : Gl X cn) (he : PE X e (tM c Z fe))
    (hdb : (cn == ("__debug__" : Str)) = false := by decide) (hs : starEach [e] X.env = (false, eval e X.env) :: starEach [] X.env := by rfl) (hpl : (backTo p3 (starEach [] X.env)).any (·.1) = false := by rfl) :
    PE X (.Call (.Name cn p) [e] [] p3) (tM c Z (eMkF cn f fe)) := by
  obtain ⟨C, fI, fd, h1, h2, h3, h4, h5, h6, h7⟩ := T
  have hC : c.cl cn = some C := by rw [hcl]; simp only [clOf, h1]
  refine (pe_mk (pmk_oex (dvs := []) h2 h3 h4 h7 hr h6 .nil passNo hg h1 (pa_cons he pa_nil hs) hdb hs hpl)).imp fun σ H Q ⟨F, α, G, s, A, h⟩ => ?_
  show tM c Z fe σ H _
  refine ⟨F, α, G, s, A, ?_⟩
  unfold eMkF at h
  cases ef : fe s G with
  | bad => rw [ef] at h; exact h
  | exc x s' G' => rw [ef] at h; exact h
  | ok q =>
    obtain ⟨w, G'⟩ := q
    rw [ef] at h
    cases w with
    | ref i => exact h.elim
    | d x =>
      intro F' α' H' v e' R r
      have rd : RepD c.K F' v x := r
      show [v].length ≤ 1000 ∧ _
      refine ⟨by simp, fun a na => ⟨a, C, v, rfl, h2, h5, upd_same, fun dx hdx hne => ?_⟩⟩
      have ndx : H' dx = none := by rwa [upd_ne hne] at hdx
      refine ⟨rfl, dx, [(f, v)], upd_same, by rw [upd_ne hne, upd_same], ndx, ?_⟩
      have eH : upd (del (upd (upd (upd H' a (exo a C none)) dx (exd dx [(f, v)])) a (exo a C (some dx))) a) dx (.xd [(f, v)]) = upd H' dx (.xd [(f, v)]) := by
        funext b
        by_cases h1 : b = dx
        · rw [h1, upd_same, upd_same]
        · rw [upd_ne h1, upd_ne h1]
          by_cases h2 : b = a
          · rw [h2, del_same, na]
          · rw [del_ne h2, upd_ne h2, upd_ne h1, upd_ne h2]
      rw [eH]
      have sm : Same H' (upd H' dx (.xd [(f, v)])) := fun b o eb => by
        rw [upd_ne (ne_of_none eb ndx)]
        exact eb
      have R2 : Rel c F' α' G' (upd H' dx (.xd [(f, v)])) := R.after sm (R.fh.trans sm) (Same.refl _) (fun _ _ => rfl)
      obtain ⟨R3, sm3⟩ := R2.addXd upd_same (R.free ndx).1
      intro a' na'
      have x2 : Ext F' α' G'.length (upd F' dx (.xd [(f, v)])) α' G'.length := ⟨sm3, fun _ _ => rfl, Nat.le_refl _⟩
      obtain ⟨R4, x4⟩ := R3.push na' (ho := exA (.ref C) (some dx) a') (o := .err cn [(f, x)]) ⟨C, some dx, a', rfl, hC, .inr ⟨dx, [(f, v)], rfl, upd_same, .cons ⟨rfl, RepD.mono sm3 rd⟩ .nil⟩⟩
      exact h _ _ _ _ ((e'.trans x2).trans x4) R4 ⟨by simp, by rw [pushA_eq]⟩
end
/-! a def of one's own without arguments -/
section
variable {X : Cx} {c : RC} {Z : WX} {pos : Pos}
theorem mCallZ {K : PySem.W.Frag} {cl : ClsAt} {k : Nat} {x : Str} {ps : List Str} {n : Nat} {f : List D → R D} {p : Pos} (T : FnM X.prog X.w X.K X.mg X.base k x ps (spP K cl n f)) (hK : c.K = K) (hcl : c.cl = cl) (hr : Room k X.A) (hg : Gl X x) (tk : Takes X Z)
    (hdb : (x == ("__debug__" : Str)) = false := by decide) : PE X (.Call (.Name x p) [] [] pos) (tM c Z (eCall n f aNil)) := by
  obtain ⟨fA, fd, h1, h2, h3, h4⟩ := T
  refine ⟨fun pins s σ H Q I h => ?_⟩
  have hh := call_ok (Z := Z) hK hcl σ H Q h
  obtain ⟨F, α, G, s', A, h5⟩ := hh
  have h6 := h5 F α H [] Ext.refl A.rel .nil
  refine wpAny_Call_Name_kw (ld_glob I hg h1 ?_ hdb)
  exact PySem.W.callWith_K0 I.kIn h2 (run_fnS (us := []) h4 hr h3 (passAt tk σ) I .nil h6)
end
end M

set_option maxRecDepth 100000
set_option maxHeartbeats 4000000
/-! a dict of texts by texts that the top has written: x in d, d[x] -/
namespace M
open PySem PySem.Spec PyProof.Rows L2
def entB (e : DictEntry) (k v : Str) : Bool := match e.key, e.val with
  | .str x _, .str y _ => decide (x = k) && decide (y = v)
  | _, _ => false
def keyB : List DictEntry → List (Str × Str) → Bool
  | [], [] => true
  | e :: es, p :: r => entB e p.1 p.2 && keyB es r
  | _, _ => false
theorem entB_at {e : DictEntry} {k v : Str} (h : entB e k v = true) : (∃ t, e.key = .str k t) ∧ ∃ t, e.val = .str v t := by
  unfold entB at h
  split at h
  · rename_i x t y u h1 h2
    simp only [Bool.and_eq_true, decide_eq_true_eq] at h
    obtain ⟨rfl, rfl⟩ := h
    exact ⟨⟨t, h1⟩, ⟨u, h2⟩⟩
  · cases h
theorem keyB_find (z : Str) : ∀ {es : List DictEntry} {kvs : List (Str × Str)}, keyB es kvs = true → es.any (·.refKey) = false ∧ ((∃ v e t, kvs.lookup z = some v ∧ es.find? (·.key.isStr z) = some e ∧ e.val = .str v t) ∨ (kvs.lookup z = none ∧ es.find? (·.key.isStr z) = none))
  | [], [], _ => ⟨rfl, .inr ⟨rfl, rfl⟩⟩
  | e :: es, (k, v) :: r, h => by
    simp only [keyB, Bool.and_eq_true] at h
    obtain ⟨⟨t, hk⟩, ⟨u, hv⟩⟩ := entB_at h.1
    obtain ⟨h1, h2⟩ := keyB_find z h.2
    refine ⟨by simp only [List.any_cons, h1, Bool.or_false]; unfold DictEntry.refKey; rw [hk], ?_⟩
    have hs : e.key.isStr z = (k == z) := by rw [hk]; rfl
    by_cases e1 : k = z
    · subst e1
      refine .inl ⟨v, e, u, by simp [List.lookup], ?_, hv⟩
      rw [List.find?_cons_of_pos (by rw [hs]; exact beq_self_eq_true _)]
    · have e2 : (k == z) = false := beq_eq_false_iff_ne.mpr e1
      have e3 : (z == k) = false := beq_eq_false_iff_ne.mpr (Ne.symm e1)
      have e4 : (e :: es).find? (·.key.isStr z) = es.find? (·.key.isStr z) := List.find?_cons_of_neg (by rw [hs, e2]; exact Bool.false_ne_true)
      have e5 : List.lookup z ((k, v) :: r) = List.lookup z r := by simp only [List.lookup, e3]
      rw [e4, e5]
      exact h2
  | [], _ :: _, h => by cases h
  | _ :: _, [], h => by cases h
def ConK (w : World) (K : PySem.W.Frag) (mg : Str → Option Value) (x : Str) (kvs : List (Str × Str)) : Prop := ∃ d es n, mg x = some (.ref d) ∧ KDict K w d es n ∧ keyB es.toList kvs = true
theorem kd_nsIn {w : World} {K : PySem.W.Frag} {d : Addr} {es : Array DictEntry} {n : Nat} {kvs : List (Str × Str)} (D : KDict K w d es n) (h : keyB es.toList kvs = true) (z : Str) :
    (∃ v t, kvs.lookup z = some v ∧ PySem.W.nsIn K d z = some (some (.str v t))) ∨ (kvs.lookup z = none ∧ PySem.W.nsIn K d z = some none) := by
  obtain ⟨h1, h2⟩ := keyB_find z h
  rcases h2 with ⟨v, e, t, q1, q2, q3⟩ | ⟨q1, q2⟩
  · refine .inl ⟨v, t, q1, ?_⟩
    simp only [PySem.W.nsIn, D.at_, q2, q3]
  · refine .inr ⟨q1, ?_⟩
    simp only [PySem.W.nsIn, D.at_, q2, h1, Bool.false_eq_true, if_false]
/-! the mirror -/
def wKIn (neg : Bool) (kvs : List (Str × Str)) (w : W) (G : Gd) : R (W × Gd) := match w with
  | .d (.str z) => .ok (.d (.bl (if neg = true then !(kvs.lookup z).isSome else (kvs.lookup z).isSome)), G)
  | _ => .bad
def eKIn (neg : Bool) (kvs : List (Str × Str)) (f : FE) : FE := seqF f fun w _ G => wKIn neg kvs w G
def wKIx (kvs : List (Str × Str)) (w : W) (G : Gd) : R (W × Gd) := match w with
  | .d (.str z) => match kvs.lookup z with
    | some v => .ok (.d (.str v), G)
    | none => .bad
  | _ => .bad
def eKIx (kvs : List (Str × Str)) (f : FE) : FE := seqF f fun w _ G => wKIx kvs w G
section
variable {X : Cx} {c : RC} {Z : WX} {pos p : Pos}
theorem kin_core {w : World} {K : PySem.W.Frag} {neg : Bool} {kvs : List (Str × Str)} {d : Addr} {es : Array DictEntry} {n : Nat} {fa : FE} {σ : St} {H : Hp} {Q : VK} (D : KDict K w d es n) (hb : keyB es.toList kvs = true) (h : tM c Z (eKIn neg kvs fa) σ H Q) :
    tM c Z fa σ H fun x H1 => ∃ (z : Str) (r : Option Value), x = .str z ∧ V.ref d = .ref d ∧ PySem.W.nsIn K d z = some r ∧ Q (.bl (if neg = true then !r.isSome else r.isSome)) H1 :=
  (tG.seq (rep := RepW) h).imp fun x H1 ⟨F1, α1, G1, s, kw, A1, r1, h1⟩ => by
    unfold wKIn at h1
    split at h1
    · rename_i z
      cases (show RepD c.K F1 x (.str z) from r1)
      have hq := h1 F1 α1 _ _ Ext.refl A1.rel (RepD.bl _)
      rcases kd_nsIn D hb z with ⟨v, t, q1, q2⟩ | ⟨q1, q2⟩
      · rw [q1] at hq
        exact ⟨z, _, rfl, rfl, q2, hq⟩
      · rw [q1] at hq
        exact ⟨z, _, rfl, rfl, q2, hq⟩
    · exact h1.elim
theorem mKIn {x : Str} {kvs : List (Str × Str)} {a : Expr} {fa : FE} (T : ConK X.w X.K X.mg x kvs) (ha : PE X a (tM c Z fa)) (hg : Gl X x := by rfl) (hd : (x == ("__debug__" : Str)) = false := by decide) (hm : behindInMarks .In (.Name x p) = false := by first | exact nomark _ | rfl | with_unfolding_all rfl) :
    PE X (.Compare a [.In] [.Name x p] pos) (tM c Z (eKIn false kvs fa)) := by
  obtain ⟨d, es, n, h1, D, hb⟩ := T
  exact (pe_cmpR (op_in_kd D) ha (pe_glob (v := .ref d) hg h1 rfl hd) hm).imp fun σ H Q h => kin_core D hb h
theorem mKNotIn {x : Str} {kvs : List (Str × Str)} {a : Expr} {fa : FE} (T : ConK X.w X.K X.mg x kvs) (ha : PE X a (tM c Z fa)) (hg : Gl X x := by rfl) (hd : (x == ("__debug__" : Str)) = false := by decide) (hm : behindInMarks .NotIn (.Name x p) = false := by first | exact nomark _ | rfl | with_unfolding_all rfl) :
    PE X (.Compare a [.NotIn] [.Name x p] pos) (tM c Z (eKIn true kvs fa)) := by
  obtain ⟨d, es, n, h1, D, hb⟩ := T
  exact (pe_cmpR (op_notIn_kd D) ha (pe_glob (v := .ref d) hg h1 rfl hd) hm).imp fun σ H Q h => kin_core D hb h
theorem mKInT {x : Str} {kvs : List (Str × Str)} {a : Expr} {fa : FE} (T : ConK X.w X.K X.mg x kvs) (ha : PE X a (tM c Z fa)) (hg : Gl X x := by rfl) (hd : (x == ("__debug__" : Str)) = false := by decide) (hm : behindInMarks .In (.Name x p) = false := by first | exact nomark _ | rfl | with_unfolding_all rfl) :
    PT X (.Compare a [.In] [.Name x p] pos) (tMT c Z (toT (eKIn false kvs fa))) := by
  obtain ⟨d, es, n, h1, D, hb⟩ := T
  exact (pt_cmpR (op_in_kd D) ha (pe_glob (v := .ref d) hg h1 rfl hd) hm).imp fun σ H Q h => kin_core D hb (toT_ok σ H Q h)
theorem mKNotInT {x : Str} {kvs : List (Str × Str)} {a : Expr} {fa : FE} (T : ConK X.w X.K X.mg x kvs) (ha : PE X a (tM c Z fa)) (hg : Gl X x := by rfl) (hd : (x == ("__debug__" : Str)) = false := by decide) (hm : behindInMarks .NotIn (.Name x p) = false := by first | exact nomark _ | rfl | with_unfolding_all rfl) :
    PT X (.Compare a [.NotIn] [.Name x p] pos) (tMT c Z (toT (eKIn true kvs fa))) := by
  obtain ⟨d, es, n, h1, D, hb⟩ := T
  exact (pt_cmpR (op_notIn_kd D) ha (pe_glob (v := .ref d) hg h1 rfl hd) hm).imp fun σ H Q h => kin_core D hb (toT_ok σ H Q h)
theorem mKIx {x : Str} {kvs : List (Str × Str)} {b : Expr} {fb : FE} (T : ConK X.w X.K X.mg x kvs) (hb : PE X b (tM c Z fb)) (hg : Gl X x := by rfl) (hd : (x == ("__debug__" : Str)) = false := by decide) (hs : PlainIx b := by intro _ _; rfl) :
    PE X (.Subscript (.Name x p) b pos) (tM c Z (eKIx kvs fb)) := by
  obtain ⟨d, es, n, h1, D, hk⟩ := T
  refine (pe_ix (r := rIxD X.K X.w) ix_kdict (pe_glob (v := .ref d) hg h1 rfl hd) hb hs).imp fun σ H Q h => ?_
  show tM c Z fb σ H _
  refine (tG.seq (rep := RepW) h).imp fun y H1 ⟨F1, α1, G1, s, kw, A1, r1, h1⟩ => ?_
  unfold wKIx at h1
  split at h1
  · rename_i z
    cases (show RepD c.K F1 y (.str z) from r1)
    split at h1
    · rename_i v ev
      have hq := h1 F1 α1 _ _ Ext.refl A1.rel (RepD.str v)
      rcases kd_nsIn D hk z with ⟨v', t, q1, q2⟩ | ⟨q1, q2⟩
      · rw [ev] at q1
        cases q1
        exact ⟨d, z, .str v, rfl, rfl, ⟨es, n, _, D.at_, D.lit, q2, ⟨t, rfl⟩⟩, hq⟩
      · rw [ev] at q1; cases q1
    · exact h1.elim
  · exact h1.elim
end
theorem conK_mk {w : World} {K : PySem.W.Frag} {mg : Str → Option Value} {h : Heap} {x : Str} {d : Addr} {es : Array DictEntry} {n : Nat} {kvs : List (Str × Str)} (X : K.In h) (G : h.Ns mainGlobals mg) (a : PySem.W.nsIn K mainGlobals x = some (some (.ref d)))
    (l : K.lookup d = some ⟨.type "dict", none, .dict es n, #[]⟩) (k : PySem.W.KeysLit w.params es.toList) (low : (d == sysModules) = false) (b : keyB es.toList kvs = true) : ConK w K mg x kvs := ⟨d, es, n, PySem.W.mg_of X G a, ⟨l, k, low⟩, b⟩
end M

set_option maxRecDepth 100000
set_option maxHeartbeats 4000000
/-! for a, b in zip(text, list) -/
namespace M
open PySem PySem.Spec PyProof.Rows L2
def ItzS (K : PySem.W.Frag) (x : Str) (b : Addr) : It :=
  ⟨fun i H => ∃ (ys : List V) (c : Nat) (y : V), SqL K H b ys ∧ x.cps[i]? = some c ∧ ys[i]? = some y,
    fun i H v H' => ∃ T c y, v = .ref T ∧ H T = none ∧ H' = upd H T (.tup [.str ⟨#[c]⟩, y]) ∧ x.cps[i]? = some c ∧ ∀ ys, SqL K H b ys → ys[i]? = some y,
    fun i H => ∃ ys : List V, SqL K H b ys ∧ i = min x.cps.size ys.length⟩
def stZ (x : Str) (t : Tok) (b z TI TO i1 i2 : Addr) (i : Nat) (h : Heap) : Prop := IsZip h z TI TO .none ∧ IsTupOf2 h TI (.ref i1) (.ref i2) ∧ (∃ u v, IsTupOf2 h TO u v) ∧ h.IsStrIter i1 (strIterType x) x t i ∧ h.IsListIter i2 b i
theorem turn_zipS {P : Program} {w : World} {K : PySem.W.Frag} {elts : List Expr} {kk : Nat} {tpos : Pos} {x : Str} {t : Tok} {b z TI TO i1 i2 : Addr} (S : ZipSep2 z TI TO i1 i2 [i1] [i2, b]) :
    Turn P w K (.Tuple elts kk tpos) (ItzS K x b) [z, TI, TO, i1, i2] z (stZ x t b z TI TO i1 i2) where
  mem := by simp
  obj := fun i h st c hc => by
    obtain ⟨hz, hTI, ⟨u, v, hTO⟩, ⟨o1, e1, _, d1⟩, ⟨o2, e2, _, d2⟩⟩ := st
    have e' : c = z ∨ c = TI ∨ c = TO ∨ c = i1 ∨ c = i2 := by simpa using hc
    rcases e' with q | q | q | q | q
    · rw [q]; exact ⟨_, hz, fun v q => nomatch q⟩
    · rw [q]; exact ⟨_, hTI, fun v q => nomatch q⟩
    · rw [q]; exact ⟨_, hTO, fun v q => nomatch q⟩
    · rw [q]; exact ⟨o1, e1, fun v q => by rw [d1] at q; cases q⟩
    · rw [q]; exact ⟨o2, e2, fun v q => by rw [d2] at q; cases q⟩
  keep := fun i h h' st k => by
    obtain ⟨hz, hTI, ⟨u, v, hTO⟩, ⟨o1, e1, r1⟩, h2⟩ := st
    exact ⟨k z (by simp) _ hz, k TI (by simp) _ hTI, ⟨u, v, k TO (by simp) _ hTO⟩, ⟨o1, k i1 (by simp) _ e1, r1⟩, h2.at fun o q => k i2 (by simp) o q⟩
  item := by
    intro X hP hw hK hc i pins s σ H E I hf st hg
    subst hP hw hK
    obtain ⟨hz, hTI, ⟨x0, y0, hTO⟩, h1, h2⟩ := st
    obtain ⟨ys, c0, y, hqy, hx, hy⟩ := hg
    obtain ⟨its2, rv2, p2, _⟩ := I.list hqy
    obtain ⟨u2, hu2, ru2⟩ := rv2.get hy
    have hzl : z < s.heap.objs.size := Heap.lt_size hz
    have l1 : i < x.cps.size := (Array.getElem?_eq_some_iff.mp hx).1
    have l2 : i < its2.toArray.size := by
      have := (List.getElem?_eq_some_iff.mp hu2).1
      simpa using this
    have hbi : b ≠ i2 := fun e => S.sep1_2 (by
      obtain ⟨_, q1, q2, _⟩ := p2.isList
      obtain ⟨_, q3, q4, _⟩ := h2
      rw [e] at q1
      rw [q1] at q3
      cases q3
      rw [q2] at q4
      exact absurd (Value.type.inj q4) (by decide))
    have hh : X.A.in1.handled = none := I.ok.hd hc
    refine wpAny_pyNext_zipD2_item S (Draws.text hh i1 x t) (Draws.list hh i2 b hbi its2.toArray) hz hTI hTO h1 ⟨h2, p2.isList⟩ l1 l2 fun x1 x2 h' tk q1 q2 z' TO' h1' h2' hT hsz hk => ?_
    obtain ⟨c1, t1, ec, rfl⟩ := q1
    rw [hx] at ec
    cases ec
    have e2 : x2 = u2 := by
      have : its2.toArray[i]? = some u2 := by simpa using hu2
      rw [this] at q2; exact (Option.some.inj q2).symm
    subst e2
    refine ⟨_, rfl, wpAny_letOwnedTupleGo_zip (s := { s with heap := h', toks := tk }) z' fun h'' z'' sb => ?_⟩
    have hT2 : h''.get? s.heap.objs.size = some { cls := .type "tuple", data := .seq #[.str ⟨#[c0]⟩ t1, x2] } := (sb.2 _ (Nat.ne_of_gt hzl)).trans hT
    have new : ObjOk X.prog X.w (upd H s.heap.objs.size (.tup [.str ⟨#[c0]⟩, y])) h'' s.heap.objs.size (.tup [.str ⟨#[c0]⟩, y]) :=
      ⟨by show 2 ≤ sizeLine; decide, [.str ⟨#[c0]⟩ t1, x2], .cons ⟨_, rfl⟩ (.cons ru2 .nil), ⟨_, hT2, rfl, _, rfl⟩⟩
    have I1 : Inv X pins σ (upd H s.heap.objs.size (.tup [.str ⟨#[c0]⟩, y])) { s with heap := h'', toks := tk } :=
      I.turnedNew (t' := tk) (ch := [z, TI, TO, i1, i2]) (fun c o hb q => (sb.2 c (fun q' => hb (by simp [q']))).trans (hk c o (fun q' => hb (by simp [q'])) (fun q' => hb (by simp [q'])) (fun q' => hb (by simp [q'])) (fun q' => hb (by simp [q'])) q)) hf (Nat.le_refl _) new
    refine ⟨.ref s.heap.objs.size, _, I1, rfl, ⟨_, c0, y, rfl, I.hok.fresh (Nat.le_refl _), rfl, hx, fun l hl => by rw [I.list_inj hl hqy]; exact hy⟩, ⟨z'', ?_, ⟨.str ⟨#[c0]⟩ t1, x2, ?_⟩, ?_, ?_⟩, fun c hcm => ?_⟩
    · exact (sb.2 _ S.TIz).trans (hk _ _ S.TIz S.TITO S.TIi1 S.TIi2 hTI)
    · exact (sb.2 _ S.TOz).trans TO'
    · exact h1'.extBut sb.extBut (Ne.symm S.zi1)
    · exact h2'.1.at fun o q => (sb.2 _ (Ne.symm S.zi2)).trans q
    · have hlt : c < s.heap.objs.size := by
        have e' : c = z ∨ c = TI ∨ c = TO ∨ c = i1 ∨ c = i2 := by simpa using hcm
        rcases e' with q | q | q | q | q
        · rw [q]; exact hzl
        · rw [q]; exact Heap.lt_size hTI
        · rw [q]; exact Heap.lt_size hTO
        · rw [q]; obtain ⟨_, e1, _⟩ := h1; exact Heap.lt_size e1
        · rw [q]; obtain ⟨_, e1, _⟩ := h2; exact Heap.lt_size e1
      rw [upd_ne (Nat.ne_of_lt hlt)]
      exact (hf c hcm).1
  done := by
    intro X hP hw hK hc i pins s σ H E I hf st hg
    subst hP hw hK
    obtain ⟨hz, hTI, ⟨x0, y0, hTO⟩, h1, h2⟩ := st
    obtain ⟨ys, hqy, hend⟩ := hg
    obtain ⟨its2, rv2, p2, _⟩ := I.list hqy
    have l2 := rv2.length
    have hbi : b ≠ i2 := fun e => S.sep1_2 (by
      obtain ⟨_, q1, q2, _⟩ := p2.isList
      obtain ⟨_, q3, q4, _⟩ := h2
      rw [e] at q1
      rw [q1] at q3
      cases q3
      rw [q2] at q4
      exact absurd (Value.type.inj q4) (by decide))
    have hh : X.A.in1.handled = none := I.ok.hd hc
    refine wpAny_pyNext_zipD2_end S (Draws.text hh i1 x t) (Draws.list hh i2 b hbi its2.toArray) hz hTI hTO h1 ⟨h2, p2.isList⟩ (by omega) (by simp; omega) (by simp; omega) fun h' tk hk => ⟨rfl, I.turnedL (t' := tk) (ch := [z, TI, TO, i1, i2]) (fun c o hb q =>
      hk c o (fun q' => hb (by simp [q'])) (fun q' => hb (by simp [q'])) (fun q' => hb (by simp [q'])) (fun q' => hb (by simp [q'])) q) hf⟩
  self := fun A i s Q E st h => wpAny_pyIter_zip st.1 h
abbrev zsH1 (h : Heap) (x : Str) (t : Tok) : Heap := h.push { cls := .type (strIterType x), data := .fields #[.str x t, .int 0 0] }
abbrev zsH2 (h : Heap) (x : Str) (t : Tok) (l2 : Addr) : Heap := (zsH1 h x t).push { cls := .type "list_iterator", data := .fields #[.ref l2, .int 0 0] }
abbrev zsH3 (h : Heap) (x : Str) (t : Tok) (l2 : Addr) : Heap := (zsH2 h x t l2).push { cls := .type "tuple", data := .seq #[.ref h.objs.size, .ref (zsH1 h x t).objs.size] }
abbrev zsH4 (h : Heap) (x : Str) (t : Tok) (l2 : Addr) : Heap := (zsH3 h x t l2).push { cls := .type "tuple", data := .seq #[.none, .none] }
abbrev zsH5 (h : Heap) (x : Str) (t : Tok) (l2 : Addr) : Heap := (zsH4 h x t l2).push { cls := .type "zip", data := .fields #[.none, .bool false, .bool false, .ref (zsH2 h x t l2).objs.size, .ref (zsH3 h x t l2).objs.size] }
theorem meets_zipS (x : Str) (t : Tok) (l2 : Addr) (ys : Array Value) :
    Meets (Builtin.«zip.__new__» ⟨[.type "zip", .str x t, .ref l2], []⟩) (fun _ R s => s.heap.IsList l2 ys ∧
      R (.ok (.ret (.ref (zsH4 s.heap x t l2).objs.size))) { s with heap := zsH5 s.heap x t l2 }) :=
  .of_wp fun prog w A R s h => by
    obtain ⟨hp, g, d, tk, os⟩ := s; obtain ⟨hl2, h⟩ := h
    have hsub := sub_zip
    have q1 : ∀ {A' : Around} {E : Value → Shared → Prop} {Q : Value → Shared → Prop}, Q (.ref hp.objs.size) ⟨zsH1 hp x t, g, d, tk, os⟩ → wpAny (model prog w) A' (pyIter (.str x t)) Q E ⟨hp, g, d, tk, os⟩ :=
      fun q => wpAny_pyIter_strU q
    have hL2 : Heap.IsList (Shared.heap ⟨zsH1 hp x t, g, d, tk, os⟩) l2 ys := hl2.at fun o e => Heap.get?_push_of_some _ e
    wp_walk using q1, wpAny_pyIter_list hL2
    exact ⟨_, rfl, h⟩
section
variable {prog : Program} {w : World} {A : Around} {E : Value → Shared → Prop} {s : Shared}
theorem call_zipS {x : Str} {t : Tok} {l2 : Addr} {ys : Array Value} {Q : Value → Shared → Prop} (hl2 : s.heap.IsList l2 ys)
    (h : ∀ h', IsZip h' (s.heap.objs.size + 4) (s.heap.objs.size + 2) (s.heap.objs.size + 3) .none → IsTupOf2 h' (s.heap.objs.size + 2) (.ref s.heap.objs.size) (.ref (s.heap.objs.size + 1)) →
      IsTupOf2 h' (s.heap.objs.size + 3) .none .none → h'.IsStrIter s.heap.objs.size (strIterType x) x t 0 → h'.IsListIter (s.heap.objs.size + 1) l2 0 → h'.objs.size = s.heap.objs.size + 5 →
      (∀ c o, s.heap.get? c = some o → h'.get? c = some o) → Q (.ref (s.heap.objs.size + 4)) { s with heap := h' }) :
    wpAny (model prog w) A (call (.type "zip") [.str x t, .ref l2]) Q E s := by
  refine callType_new F.called_zip (by decide) (F.typeCall_zip_2 _ _) (F.newCall_zip_2 _ _) (fun obj => F.args_object_init_3 obj _ _) F.entry_zip_new
    (meets_zipS x t l2 ys) ⟨hl2, ?_⟩
  have z1 : (zsH1 s.heap x t).objs.size = s.heap.objs.size + 1 := Heap.size_push ..
  have z2 : (zsH2 s.heap x t l2).objs.size = s.heap.objs.size + 2 := by rw [Heap.size_push, z1]
  have z3 : (zsH3 s.heap x t l2).objs.size = s.heap.objs.size + 3 := by rw [Heap.size_push, z2]
  have z4 : (zsH4 s.heap x t l2).objs.size = s.heap.objs.size + 4 := by rw [Heap.size_push, z3]
  have z5 : (zsH5 s.heap x t l2).objs.size = s.heap.objs.size + 5 := by rw [Heap.size_push, z4]
  have g5 : (zsH5 s.heap x t l2).get? (zsH4 s.heap x t l2).objs.size = some _ := Heap.get?_push_size _ rfl
  have g4 : (zsH5 s.heap x t l2).get? (zsH3 s.heap x t l2).objs.size = some _ := Heap.get?_push_of_some _ (Heap.get?_push_size _ rfl)
  have g3 : (zsH5 s.heap x t l2).get? (zsH2 s.heap x t l2).objs.size = some _ := Heap.get?_push_of_some _ (Heap.get?_push_of_some _ (Heap.get?_push_size _ rfl))
  have g2 : (zsH5 s.heap x t l2).get? (zsH1 s.heap x t).objs.size = some _ := Heap.get?_push_of_some _ (Heap.get?_push_of_some _ (Heap.get?_push_of_some _ (Heap.get?_push_size _ rfl)))
  have g1 : (zsH5 s.heap x t l2).get? s.heap.objs.size = some _ := Heap.get?_push_of_some _ (Heap.get?_push_of_some _ (Heap.get?_push_of_some _ (Heap.get?_push_of_some _ (Heap.get?_push_size _ rfl))))
  show _ ∧ _
  rw [z2, z3, z4] at g5
  rw [z1, z2] at g3
  rw [z3] at g4
  rw [z1] at g2
  rw [z4]
  exact ⟨⟨_, g5, rfl⟩, h _ g5 g3 g4 ⟨_, g1, rfl, rfl⟩ ⟨_, g2, rfl, rfl⟩ z5 fun c o x =>
    Heap.get?_push_of_some _ (Heap.get?_push_of_some _ (Heap.get?_push_of_some _ (Heap.get?_push_of_some _ (Heap.get?_push_of_some _ x))))⟩
end
theorem sep_zs (n b : Addr) (hb : b < n) : ZipSep2 (n + 4) (n + 2) (n + 3) n (n + 1) [n] [n + 1, b] := by
  have df : ∀ {j k : Nat}, (decide (j ≠ k)) = true → n + j ≠ n + k := fun u e => (of_decide_eq_true u) (Nat.add_left_cancel e)
  have lt : ∀ {k : Nat}, n + k ≠ b := fun {k} => Nat.ne_of_gt (Nat.lt_of_lt_of_le hb (Nat.le_add_right _ _))
  have l1 : ∀ {c : Addr}, c ≠ n → c ∉ [n] := fun h m => h (List.mem_singleton.mp m)
  have l2 : ∀ {c : Addr}, c ≠ n + 1 → c ≠ b → c ∉ [n + 1, b] := fun h1 h2 m => by
    rcases List.mem_cons.mp m with e | e
    · exact h1 e
    · exact h2 (List.mem_singleton.mp e)
  exact ⟨df rfl, df rfl, df rfl, df (k := 0) rfl, List.mem_cons_self, l1 (df (k := 0) rfl), l1 (df (k := 0) rfl), df rfl, List.mem_cons_self, l2 (df rfl) lt, l2 (df rfl) lt, l2 (df (j := 0) rfl) (lt (k := 0)), l1 (df (k := 0) rfl)⟩
def iZipPS (K : PySem.W.Frag) (ta : TA) : TI := fun σ H R => ta σ H fun vs H1 => ∃ x b ys, vs = [.str x, .ref b] ∧ SqL K H1 b ys ∧ R (ItzS K x b) H1
theorem pi_zipS {X : Cx} {e e2 : Expr} {ta : TA} {p pos tpos : Pos} {elts : List Expr} {kk : Nat} (hg : Gl X "zip") (hm : X.mg "zip" = none) (ha : PA X [e, e2] ta)
    (hs : starEach [e, e2] X.env = (false, eval e X.env) :: starEach [e2] X.env := by rfl) (hpl : (backTo pos (starEach [e2] X.env)).any (·.1) = false := by rfl) :
    PI X (.Tuple elts kk tpos) (.Call (.Name "zip" p) [e, e2] [] pos) (iZipPS X.K ta) := by
  refine ⟨fun pins s σ H R I h => ?_⟩
  refine Call_ (ld_blt I hg hm PyProof.Rows.boot_zip (PyProof.Rows.callWith_type1 (thn (ha.run pos pins s σ H _ I h) fun us s1 ⟨vs, H1, I1, r1, q1⟩ => ?_) hs hpl))
  obtain ⟨x, b, ys, ex, hqy, q⟩ := q1
  subst ex
  cases r1 with
  | cons r rr =>
    cases rr with
    | cons r' rr =>
      cases rr
      obtain ⟨t, rfl⟩ := r
      cases r'
      obtain ⟨its2, rv2, p2, _⟩ := I1.list hqy
      refine call_zipS p2.isList fun h' hz hTI hTO h1 h2 hsz hk => wpAny_pyIter_zip hz ?_
      have I2 : Inv X pins σ H1 { s1 with heap := h' } := I1.kept (t' := s1.toks) hk
      have fresh5 : ∀ c, c ∈ [s1.heap.objs.size + 4, s1.heap.objs.size + 2, s1.heap.objs.size + 3, s1.heap.objs.size, s1.heap.objs.size + 1] → FpOk X pins H1 c := fun c hcm => by
        have e' : c = s1.heap.objs.size + 4 ∨ c = s1.heap.objs.size + 2 ∨ c = s1.heap.objs.size + 3 ∨ c = s1.heap.objs.size ∨ c = s1.heap.objs.size + 1 := by simpa using hcm
        have hle : s1.heap.objs.size ≤ c := by
          rcases e' with z | z | z | z | z
          · rw [z]; exact Nat.le_add_right _ _
          · rw [z]; exact Nat.le_add_right _ _
          · rw [z]; exact Nat.le_add_right _ _
          · rw [z]; exact Nat.le_refl _
          · rw [z]; exact Nat.le_add_right _ _
        exact I1.fpOk hle (I1.hok.fresh hle)
      exact ⟨s1.heap.objs.size + 4, [s1.heap.objs.size + 4, s1.heap.objs.size + 2, s1.heap.objs.size + 3, s1.heap.objs.size, s1.heap.objs.size + 1], _, _, H1, rfl, I2, turn_zipS (t := t) (sep_zs _ b p2.lt), ⟨hz, hTI, ⟨_, _, hTO⟩, h1, h2⟩, fresh5, q⟩
theorem walk_zipS {K : PySem.W.Frag} {x : Str} {b : Addr} {ys : List V} : Walk (ItzS K x b) (min x.cps.size ys.length) (fun H => SqL K H b ys) (YPair (fun i => (x.cps[i]?).map fun c => .str ⟨#[c]⟩) (fun i => ys[i]?)) := by
  refine ⟨fun i _ hi q => ?_, fun _ q => ⟨ys, q, rfl⟩, fun i H v H' _ q y => ?_⟩
  · have h1 : i < x.cps.size := by omega
    have h2 : i < ys.length := by omega
    exact ⟨ys, x.cps[i], ys[i], q, Array.getElem?_eq_getElem h1, List.getElem?_eq_getElem h2⟩
  · obtain ⟨T, c, y, h1, h2, h3, h4, h5⟩ := y
    exact ⟨T, .str ⟨#[c]⟩, y, h1, h2, h3, by show Option.map _ _ = _; rw [h4]; rfl, h5 ys q⟩
def zipS (z : Str) (ds : List D) : List W := (z.cps.toList.zip ds).map fun p => W.d (.tup [.str ⟨#[p.1]⟩, p.2])
def iZip (f : FA) : FA := seqF f fun ws _ G => match ws with
  | [.d (.str z), .d (.lst ds)] => .ok (zipS z ds, G)
  | _ => .bad
section
variable {X : Cx} {c : RC} {Z : WX} {pos : Pos}
theorem miZip {e e2 : Expr} {f : FA} {p tpos : Pos} {elts : List Expr} {kk : Nat} (hK : X.K = c.K) (hg : Gl X "zip") (hm : X.mg "zip" = none) (ha : PA X [e, e2] (tMA c Z f))
    (hs : starEach [e, e2] X.env = (false, eval e X.env) :: starEach [e2] X.env := by rfl) (hpl : (backTo pos (starEach [e2] X.env)).any (·.1) = false := by rfl) :
    PI X (.Tuple elts kk tpos) (.Call (.Name "zip" p) [e, e2] [] pos) (tMI c Z (iZip f)) :=
  (pi_zipS hg hm ha hs hpl).imp fun σ H Q h => by
    have key := tMI.of (rep := RepWs) h
    obtain ⟨F, α, G, s, A, h0⟩ := id h
    unfold iZip seqF at h0
    cases e1 : f s G with
    | bad => rw [e1] at h0; exact h0.elim
    | exc x s' G' =>
      refine ⟨F, α, G, s, A, ?_⟩
      rw [e1] at h0 ⊢; exact h0
    | ok p =>
      rw [e1] at h0
      dsimp only [R.bind] at h0
      split at h0
      · rename_i z ds ew
        refine ⟨F, α, G, s, A, ?_⟩
        rw [e1]
        intro F1 α1 H1 vs x1 R1 r1
        rw [ew] at r1
        cases r1 with
        | cons ra r1 =>
          cases r1 with
          | cons rb r1 =>
            cases r1
            cases ra
            cases rb with
            | lst b1 b2 =>
              rename_i ad us
              have hq : SqL c.K F1 ad us := SqL.of b1
              rw [hK]
              refine ⟨z, ad, us, rfl, L2.Same.seq R1.fh hq, h0 F1 α1 H1 _ x1 R1 (yields_of walk_zipS (by simp [zipS, RepDs.length b2]) (fun F' H' f h _ => L2.Same.seq (f.trans h) hq) (ypair_rep fun i w hw => ?_))⟩
              simp only [zipS, List.getElem?_map, Option.map_eq_some_iff] at hw
              obtain ⟨⟨c0, d0⟩, hz, rfl⟩ := hw
              obtain ⟨hz1, hz2⟩ := List.getElem?_zip_eq_some.mp hz
              refine ⟨_, d0, rfl, rfl, fun x ex => ?_, fun y ey => ?_⟩
              · have : z.cps[i]? = some c0 := by rw [← Array.getElem?_toList]; exact hz1
                rw [this] at ex
                cases ex
                exact .str _
              · obtain ⟨v', ev, rv⟩ := RepDs.get b2 hz2
                rw [ey] at ev; cases ev; exact rv
      · exact h0.elim
end
end M

set_option maxRecDepth 100000
set_option maxHeartbeats 4000000
/-! a list of lists that stands still from now on -/
namespace M
open PySem PySem.Spec PyProof.Rows L2
def frzAll : List W → Gd → Option (List D × Gd)
  | [], G => some ([], G)
  | .d x :: r, G => (frzAll r G).map fun p => (x :: p.1, p.2)
  | .ref j :: r, G => match G[j]? with
    | some (.lst ws) => match toDs ws with
      | some ds => (frzAll r (G.set j (.still ds))).map fun p => (.lst ds :: p.1, p.2)
      | none => none
    | some (.still ds) => (frzAll r G).map fun p => (.lst ds :: p.1, p.2)
    | _ => none
def eFrz2 (f : FE) : FE := seqF f fun w _ G => match w with
  | .ref i => match G[i]? with
    | some (.lst ws) => match frzAll ws G with
      | some (ds, G') => match G'[i]? with
        | some (.lst _) => .ok (.d (.lst ds), G'.set i (.still ds))
        | _ => .bad
      | none => .bad
    | _ => .bad
  | _ => .bad
theorem frzAll_ok {c : RC} {α : Nat → Addr} {H : Hp} : ∀ {ws : List W} {G : Gd} {F : Hp} {vs : List V} {ds : List D} {G' : Gd}, frzAll ws G = some (ds, G') → Rel c F α G H → RepWs c.K F α G.length vs ws → ∃ F', Rel c F' α G' H ∧ Ext F α G.length F' α G'.length ∧ RepDs c.K F' vs ds
  | [], G, F, vs, ds, G', h, R, r => by
    cases h
    cases r
    exact ⟨F, R, Ext.refl, .nil⟩
  | .d x :: ws, G, F, vs, ds, G', h, R, r => by
    simp only [frzAll, Option.map_eq_some_iff] at h
    obtain ⟨⟨ds', G1⟩, h1, h2⟩ := h
    cases h2
    cases r with
    | cons r0 r1 =>
      obtain ⟨F', R', x', q⟩ := frzAll_ok h1 R r1
      exact ⟨F', R', x', .cons (RepD.mono x'.f r0) q⟩
  | .ref j :: ws, G, F, vs, ds, G', h, R, r => by
    simp only [frzAll] at h
    cases r with
    | cons r0 r1 =>
      split at h
      · rename_i us e
        split at h
        · rename_i es e2
          simp only [Option.map_eq_some_iff] at h
          obtain ⟨⟨ds', G1⟩, h1, h2⟩ := h
          cases h2
          obtain ⟨xs, e3, r3⟩ := R.lstAt e
          rw [toDs_eq e2] at r3
          obtain ⟨R1, x1⟩ := R.still e trivial e3 (RepWs.ds r3)
          obtain ⟨F', R', x', q⟩ := frzAll_ok h1 R1 (RepWs.mono x1 r1)
          refine ⟨F', R', x1.trans x', .cons ?_ q⟩
          rw [r0.2]
          exact RepD.mono x'.f (show RepD c.K _ _ _ from .lst upd_same (RepDs.mono x1.f (RepWs.ds r3)))
        · cases h
      · rename_i es e
        simp only [Option.map_eq_some_iff] at h
        obtain ⟨⟨ds', G1⟩, h1, h2⟩ := h
        cases h2
        obtain ⟨xs, e1, r2⟩ := R.st j es e
        obtain ⟨F', R', x', q⟩ := frzAll_ok h1 R r1
        refine ⟨F', R', x', .cons ?_ q⟩
        rw [r0.2]
        exact RepD.mono x'.f (show RepD c.K _ _ _ from .lst e1 r2)
      · cases h
section
variable {X : Cx} {c : RC} {Z : WX}
theorem mFrz2 {e : Expr} {f : FE} (h : PE X e (tM c Z f)) : PE X e (tM c Z (eFrz2 f)) :=
  h.imp fun σ H Q h => (tG.seq (rep := RepW) h).imp fun v H1 ⟨F1, α1, G1, s, w, A1, r1, h1⟩ => by
    cases w with
    | d x => exact h1.elim
    | ref i =>
      dsimp only at h1
      split at h1
      · rename_i ws e
        split at h1
        · rename_i ds G' e2
          split at h1
          · rename_i us e5
            obtain ⟨vs, e3, r3⟩ := A1.rel.lstAt e
            obtain ⟨F', R', x', q⟩ := frzAll_ok e2 A1.rel r3
            obtain ⟨R2, x2⟩ := R'.still e5 trivial e3 q
            refine h1 _ _ _ _ (x'.trans x2) R2 ?_
            rw [r1.2]
            exact (show RepD c.K _ _ _ from .lst upd_same (RepDs.mono x2.f q))
          · exact h1.elim
        · exact h1.elim
      · exact h1.elim
end
/-! f(e, ..) of lists of lists that may change: data in, a scalar out -/
def toDat2 (G : Gd) : W → Option D
  | .d x => some x
  | .ref i => match G[i]? with
    | some (.lst ws) => (toDats G ws).map D.lst
    | some (.still ds) => some (.lst ds)
    | _ => none
def toDats2 (G : Gd) : List W → Option (List D)
  | [] => some []
  | w :: ws => match toDat2 G w, toDats2 G ws with
    | some d, some ds => some (d :: ds)
    | _, _ => none
def eCallL2 (n : Nat) (f : List D → R D) (fa : FA) : FE := seqF fa fun ws _ G => if ws.length = n then match toDats2 G ws with
  | some ds => match f ds with
    | .ok d => if scalD d = true then .ok (.d d, G) else .bad
    | _ => .bad
  | none => .bad else .bad
section
variable {X : Cx} {c : RC} {Z : WX} {pos : Pos}
theorem toDat2_rep {F H : Hp} {α : Nat → Addr} {G : Gd} (R : Rel c F α G H) {v : V} {w : W} {x : D} (r : RepW c.K F α G.length v w) (h : toDat2 G w = some x) : RepD c.K H v x := by
  cases w with
  | d y => cases h; exact RepD.mono R.fh r
  | ref i =>
    simp only [toDat2] at h
    rw [r.2]
    split at h
    · rename_i ws e
      rw [Option.map_eq_some_iff] at h
      obtain ⟨ds, e1, rfl⟩ := h
      obtain ⟨vs, e2, r2⟩ := R.lstAt e
      exact .lst e2 (toDats_rep R r2 e1)
    · rename_i ds e
      cases h
      obtain ⟨vs, e2, r2⟩ := R.st i _ e
      exact .lst (R.fh _ _ e2) (RepDs.mono R.fh r2)
    · cases h
theorem toDats2_rep {F H : Hp} {α : Nat → Addr} {G : Gd} (R : Rel c F α G H) : ∀ {vs : List V} {ws : List W} {ds : List D}, RepWs c.K F α G.length vs ws → toDats2 G ws = some ds → RepDs c.K H vs ds
  | _, [], ds, .nil, h => by cases h; exact .nil
  | v :: vs, w :: ws, ds, .cons r t, h => by
    unfold toDats2 at h
    split at h
    · rename_i d ds' e1 e2
      cases h
      exact .cons (toDat2_rep R r e1) (toDats2_rep R t e2)
    · cases h
theorem callL2_ok {n : Nat} {f : List D → R D} {fa : FA} {K : PySem.W.Frag} {cl : ClsAt} (hK : c.K = K) (σ : L2.St) (H : Hp) (Q : VK) (h : tM c Z (eCallL2 n f fa) σ H Q) : tMA c Z fa σ H fun vs H1 => spP K cl n f vs H1 Q (WE Z σ) := by
  obtain ⟨Fa, αa, Ga, sa, Aa, ha⟩ := h
  refine ⟨Fa, αa, Ga, sa, Aa, ?_⟩
  unfold eCallL2 seqF at ha
  cases e : fa sa Ga with
  | bad => rw [e] at ha; exact ha
  | exc x s' G' => rw [e] at ha; exact ha
  | ok p =>
    obtain ⟨ws, G1⟩ := p
    rw [e] at ha
    dsimp only [R.bind] at ha
    intro F1 α1 H1 vs x1 R1 r1
    have h1 := Fin.mono (rep := RepW) x1 ha
    split at h1
    · rename_i hn
      split at h1
      · rename_i ds e2
        refine ⟨by rw [r1.length]; exact hn, H1, ds, Same.refl _, by rw [← hK]; exact toDats2_rep R1 r1 e2, ?_⟩
        cases e3 : f ds with
        | bad => rw [e3] at h1; exact h1.elim
        | exc x s' G' => rw [e3] at h1; exact h1.elim
        | ok d =>
          rw [e3] at h1
          dsimp only at h1
          split at h1
          · rename_i hs
            exact fun F' H' v k1 k2 k3 k4 r => h1 F1 α1 H' v Ext.refl (R1.after k1 (R1.fh.trans k1) (Same.refl _) (fun _ _ => rfl)) (show RepD c.K F1 v d by rw [hK]; exact scal_rep hs r)
          · exact h1.elim
      · exact h1.elim
    · exact h1.elim
theorem mCallL2 {K : PySem.W.Frag} {cl : ClsAt} {k : Nat} {x : Str} {ps : List Str} {n : Nat} {f : List D → R D} {fa : FA} {e : Expr} {es : List Expr} {p : Pos} (T : FnM X.prog X.w X.K X.mg X.base k x ps (spP K cl n f)) (hK : c.K = K) (hcl : c.cl = cl) (hr : Room k X.A) (hg : Gl X x) (tk : Takes X Z)
    (ha : PA X (e :: es) (tMA c Z fa)) (hdb : (x == ("__debug__" : Str)) = false := by decide) (he : starEach (e :: es) X.env = (false, eval e X.env) :: starEach es X.env := by rfl) (hpl : (backTo pos (starEach es X.env)).any (·.1) = false := by rfl) :
    PE X (.Call (.Name x p) (e :: es) [] pos) (tM c Z (eCallL2 n f fa)) := by
  obtain ⟨fA, fd, h1, h2, h3, h4⟩ := T
  exact (pe_callS h4 hr hg h1 h2 h3 (fun σ => passAt tk σ) ha hdb he hpl).imp fun σ H Q h => callL2_ok hK σ H Q h
end
end M

set_option maxRecDepth 100000
set_option maxHeartbeats 4000000
namespace M
open PySem PySem.Spec PyProof.Rows L2
/-! ### the mirrors, reckoned -/
section
variable {s : Sd} {G : Gd} {f g h : FE} {t u : FT} {a b : FA} {x y : W}
@[simp] theorem x_eV {i : Nat} : eV i s G = match s[i]? with | some (some w) => .ok (w, G) | _ => .bad := rfl
@[simp] theorem x_eC {x : D} : eC x s G = .ok (.d x, G) := rfl
@[simp] theorem x_e2 {o : W → W → Gd → R (W × Gd)} : e2 o f g s G = (f s G).bind fun p => (g s p.2).bind fun q => o p.1 q.1 q.2 := rfl
@[simp] theorem x_toT : toT f s G = (f s G).bind fun p => match p.1 with | .d (.bl b) => .ok (b, p.2) | _ => .bad := rfl
@[simp] theorem x_tfAnd : tfAnd t u s G = (t s G).bind fun p => if p.1 = true then u s p.2 else .ok (false, p.2) := rfl
@[simp] theorem x_tfOr : tfOr t u s G = (t s G).bind fun p => if p.1 = true then .ok (true, p.2) else u s p.2 := rfl
@[simp] theorem x_tfNot : tfNot t s G = (t s G).bind fun p => .ok (!p.1, p.2) := rfl
@[simp] theorem x_eAnd : eAnd f g s G = (f s G).bind fun p => match p.1 with | .d (.bl b) => if b = true then g s p.2 else .ok (.d (.bl false), p.2) | _ => .bad := rfl
@[simp] theorem x_eOr : eOr f g s G = (f s G).bind fun p => match p.1 with | .d (.bl b) => if b = true then .ok (.d (.bl true), p.2) else g s p.2 | _ => .bad := rfl
@[simp] theorem x_eNot : eNot f s G = (f s G).bind fun p => match p.1 with | .d (.bl b) => .ok (.d (.bl (!b)), p.2) | _ => .bad := rfl
@[simp] theorem x_eIf : eIf t f g s G = (t s G).bind fun p => if p.1 = true then f s p.2 else g s p.2 := rfl
@[simp] theorem x_aNil : aNil s G = .ok ([], G) := rfl
@[simp] theorem x_aCons : aCons f a s G = (f s G).bind fun p => (a s p.2).bind fun q => .ok (p.1 :: q.1, q.2) := rfl
@[simp] theorem x_eA {o : List W → Sd → Gd → R (W × Gd)} : eA o a s G = (a s G).bind fun p => o p.1 s p.2 := rfl
@[simp] theorem x_eNeg : eNeg f s G = (f s G).bind fun p => match p.1 with | .d (.int i) => .ok (.d (.int (-i)), p.2) | _ => .bad := rfl
@[simp] theorem x_pNo : pNo s G = .ok (none, G) := rfl
@[simp] theorem x_pSo : pSo f s G = (f s G).bind fun p => match p.1 with | .d (.int i) => .ok (some i, p.2) | _ => .bad := rfl
@[simp] theorem x_eSl {m : Bool} {l u : FP} : eSl m f l u s G = (f s G).bind fun p => (l s p.2).bind fun q => (u s q.2).bind fun r => wSl m p.1 q.1 r.1 r.2 := rfl
@[simp] theorem x_eTup : eTup a s G = (a s G).bind fun p => if p.1.length ≤ sizeLine then newT p.1 p.2 else .bad := rfl
@[simp] theorem x_eLst {m : Bool} : eLst m a s G = (a s G).bind fun p => if p.1.length ≤ sizeLine then newL m p.1 p.2 else .bad := rfl
@[simp] theorem x_eIsi {T : String} : eIsi T f s G = (f s G).bind fun p => wIsi T p.1 p.2 := rfl
@[simp] theorem x_eMt {rc : Gd → W → Bool} {o : W → List W → Gd → R (W × Gd)} : eMt rc o f a s G = (f s G).bind fun p => if rc p.2 p.1 = true then (a s p.2).bind fun q => o p.1 q.1 q.2 else .bad := rfl
@[simp] theorem x_eCall {n : Nat} {F : List D → R D} : eCall n F a s G = (a s G).bind fun p => if p.1.length = n then match toDs p.1 with
  | some ds => match F ds with
    | .ok d => .ok (.d d, p.2)
    | .exc x _ _ => .exc x s p.2
    | .bad => .bad
  | none => .bad else .bad := rfl
@[simp] theorem x_eCallH {n : Nat} {F : List W → Gd → R (W × Gd)} : eCallH n F a s G = (a s G).bind fun p => if p.1.length = n then match F p.1 p.2 with
  | .ok q => .ok q
  | .exc x _ G' => .exc x s G'
  | .bad => .bad else .bad := rfl
@[simp] theorem x_eComp {m : Bool} {i : Nat} : eComp m i a t f s G = (a s G).bind fun p => (compM i t f p.1 [] s p.2).bind fun q => newL m q.1 q.2 := rfl
@[simp] theorem x_tYes : tYesM s G = .ok (true, G) := rfl
@[simp] theorem x_eFrz : eFrz f s G = (f s G).bind fun p => match p.1 with
  | .ref i => match p.2[i]? with
    | some (.lst ws) => match toDs ws with
      | some ds => .ok (.d (.lst ds), p.2.set i (.still ds))
      | none => .bad
    | some (.still ds) => .ok (.d (.lst ds), p.2)
    | _ => .bad
  | .d x => .ok (.d x, p.2) := rfl
/- statements -/
variable {A B : FS} {k : FG}
@[simp] theorem x_sNil : sNil s G = .ok (.nx s, G) := rfl
@[simp] theorem x_sPass : sPass s G = .ok (.nx s, G) := rfl
@[simp] theorem x_sBreak : sBreak s G = .ok (.bk s, G) := rfl
@[simp] theorem x_sCont : sCont s G = .ok (.ct s, G) := rfl
@[simp] theorem x_sNever : sNever s G = .bad := rfl
/-- what comes behind a statement -/
def thenS (r : R (Fl × Gd)) (B : FS) : R (Fl × Gd) := match r with
  | .ok (.nx s1, G1) => B s1 G1
  | .ok (.bk s1, G1) => .ok (.bk s1, G1)
  | .ok (.ct s1, G1) => .ok (.ct s1, G1)
  | .ok (.rt w, G1) => .ok (.rt w, G1)
  | .exc x s1 G1 => .exc x s1 G1
  | .bad => .bad
@[simp] theorem x_sSeq : sSeq A B s G = thenS (A s G) B := rfl
@[simp] theorem x_then_nx : thenS (.ok (.nx s, G)) B = B s G := rfl
@[simp] theorem x_then_bk : thenS (.ok (.bk s, G)) B = .ok (.bk s, G) := rfl
@[simp] theorem x_then_ct : thenS (.ok (.ct s, G)) B = .ok (.ct s, G) := rfl
@[simp] theorem x_then_rt : thenS (.ok (.rt x, G)) B = .ok (.rt x, G) := rfl
@[simp] theorem x_then_exc {e : Ex} : thenS (.exc e s G) B = .exc e s G := rfl
@[simp] theorem x_then_bad : thenS .bad B = .bad := rfl
@[simp] theorem x_then_gate {c : Prop} {r : R (Fl × Gd)} : thenS (gate c r) B = gate c (thenS r B) := by unfold gate; split <;> rfl
@[simp] theorem x_then_ite {c : Prop} [Decidable c] {r r' : R (Fl × Gd)} : thenS (if c then r else r') B = if c then thenS r B else thenS r' B := by split <;> rfl
@[simp] theorem x_bind_ite {α β : Type} {c : Prop} [Decidable c] {r r' : R α} {F : α → R β} : (if c then r else r').bind F = if c then r.bind F else r'.bind F := by split <;> rfl
@[simp] theorem x_sExpr : sExpr f s G = (f s G).bind fun p => .ok (.nx s, p.2) := rfl
@[simp] theorem x_sRet : sRet f s G = (f s G).bind fun p => .ok (.rt p.1, p.2) := rfl
@[simp] theorem x_sRetN : sRetN s G = .ok (.rt (.d .non), G) := rfl
@[simp] theorem x_sIf : sIf t A B s G = (t s G).bind fun p => if p.1 = true then A s p.2 else B s p.2 := rfl
@[simp] theorem x_sAsg : sAsg k f s G = (f s G).bind fun p => (k p.1 s p.2).bind fun q => .ok (.nx q.1, q.2) := rfl
@[simp] theorem x_sSet {i : Nat} : sSet i f s G = (f s G).bind fun p => .ok (.nx (s.set i (some p.1)), p.2) := rfl
@[simp] theorem x_sAug {o : Int → Int → Int} {i : Nat} : sAug o i f s G = match s[i]? with
  | some (some (.d (.int n))) => (f s G).bind fun p => match p.1 with
    | .d (.int b) => .ok (.nx (s.set i (some (.d (.int (o n b))))), p.2)
    | _ => .bad
  | _ => .bad := rfl
@[simp] theorem x_gN {i : Nat} : gN i x s G = .ok (s.set i (some x), G) := rfl
@[simp] theorem x_gTup {l : List FG} {xs : List D} : gTupD l (.d (.tup xs)) s G = gs l xs s G := rfl
@[simp] theorem x_gs0 : gs [] [] s G = .ok (s, G) := rfl
@[simp] theorem x_gs1 {l : List FG} {d : D} {ds : List D} : gs (k :: l) (d :: ds) s G = (k (.d d) s G).bind fun p => gs l ds p.1 p.2 := rfl
@[simp] theorem x_sFor : sFor a k B s G = (a s G).bind fun p => forM k B p.1 s p.2 := rfl
@[simp] theorem x_iAny : iAny f s G = (f s G).bind fun p => match p.1 with
  | .d (.str z) => .ok (strSeq z, p.2)
  | w => match stillSeq w with
    | some (_, ws) => .ok (ws, p.2)
    | none => .bad := rfl
@[simp] theorem x_iRange1 : iRange1 a s G = (a s G).bind fun p => match p.1 with
  | [.d (.int j)] => gate (-(2 ^ 62) ≤ j ∧ j < 2 ^ 62) (.ok (rngW 0 j.toNat, p.2))
  | _ => .bad := rfl
@[simp] theorem x_iRange2 : iRange2 a s G = (a s G).bind fun p => match p.1 with
  | [.d (.int i), .d (.int j)] => gate (-(2 ^ 62) ≤ i ∧ i < 2 ^ 62 ∧ -(2 ^ 62) ≤ j ∧ j < 2 ^ 62) (.ok (rngW i (j - i).toNat, p.2))
  | _ => .bad := rfl
@[simp] theorem x_iEnumL : iEnumL a s G = (a s G).bind fun p => match p.1 with
  | [w] => match stillSeq w with
    | some (false, xs) => match enumW xs with
      | some ys => .ok (ys, p.2)
      | none => .bad
    | _ => .bad
  | _ => .bad := rfl
@[simp] theorem x_stillT {xs : List D} : stillSeq (.d (.tup xs)) = some (true, xs.map W.d) := rfl
@[simp] theorem x_stillL {xs : List D} : stillSeq (.d (.lst xs)) = some (false, xs.map W.d) := rfl
@[simp] theorem x_stillS {xs : List Int} : stillSeq (.d (.scr xs)) = some (false, xs.map fun n => W.d (.int n)) := rfl
/- operators -/
@[simp] theorem w_addI {m : Bool} {i j : Int} : wAdd m (.d (.int i)) (.d (.int j)) G = .ok (.d (.int (i + j)), G) := rfl
@[simp] theorem w_addS {m : Bool} {i j : Str} : wAdd m (.d (.str i)) (.d (.str j)) G = if i.length + j.length ≤ sizeLine then .ok (.d (.str (i ++ j)), G) else .bad := rfl
@[simp] theorem w_addT {m : Bool} {i j : List D} : wAdd m (.d (.tup i)) (.d (.tup j)) G = if i.length + j.length ≤ sizeLine then .ok (.d (.tup (i ++ j)), G) else .bad := rfl
@[simp] theorem w_addL {i j : List D} : wAdd false (.d (.lst i)) (.d (.lst j)) G = if i.length + j.length ≤ sizeLine then .ok (.d (.lst (i ++ j)), G) else .bad := by
  simp [wAdd, asSeq, newL, ← List.map_append]
@[simp] theorem w_addLm {i j : List D} : wAdd true (.d (.lst i)) (.d (.lst j)) G = if i.length + j.length ≤ sizeLine then .ok (.ref G.length, G ++ [.lst ((i ++ j).map W.d)]) else .bad := by
  simp [wAdd, asSeq, newL, ← List.map_append]
@[simp] theorem w_sub {i j : Int} : wSub (.d (.int i)) (.d (.int j)) G = .ok (.d (.int (i - j)), G) := by simp [wSub, wInt]
@[simp] theorem w_mod {i j : Int} : wMod (.d (.int i)) (.d (.int j)) G = gate (0 < j) (.ok (.d (.int (i % j)), G)) := by simp [wMod, wInt]
@[simp] theorem w_div {i j : Int} : wDiv (.d (.int i)) (.d (.int j)) G = gate (0 < j ∧ j < 1073741824) (.ok (.d (.int (i / j)), G)) := by simp [wDiv, wInt]
@[simp] theorem w_pow {i j : Int} : wPow (.d (.int i)) (.d (.int j)) G = gate (0 ≤ j ∧ j ≤ 1000000 ∧ i.natAbs < 2 ^ 64) (.ok (.d (.int (i ^ j.toNat)), G)) := by simp [wPow, wInt]
@[simp] theorem w_mulI {m : Bool} {i j : Int} : wMul m (.d (.int i)) (.d (.int j)) G = gate (mulOk i j = true) (.ok (.d (.int (i * j)), G)) := rfl
@[simp] theorem w_mulS {m : Bool} {i : Str} {j : Int} : wMul m (.d (.str i)) (.d (.int j)) G = gate (MulOk i j) (.ok (.d (.str (Txt.mul i j)), G)) := rfl
@[simp] theorem w_mulL {i : List D} {j : Int} : wMul false (.d (.lst i)) (.d (.int j)) G = gate (-(2 ^ 63) ≤ j ∧ j < 2 ^ 63 ∧ i.length * j.toNat ≤ sizeLine) (.ok (.d (.lst (List.replicate j.toNat i).flatten), G)) := by
  simp [wMul, asSeq, newL, ← List.map_replicate, ← List.map_flatten]
@[simp] theorem w_lt {i j : Int} : wLt (.d (.int i)) (.d (.int j)) G = .ok (.d (.bl (decide (i < j))), G) := rfl
@[simp] theorem w_le {i j : Int} : wLe (.d (.int i)) (.d (.int j)) G = .ok (.d (.bl (decide (i ≤ j))), G) := rfl
@[simp] theorem w_gt {i j : Int} : wGt (.d (.int i)) (.d (.int j)) G = .ok (.d (.bl (decide (j < i))), G) := rfl
@[simp] theorem w_ge {i j : Int} : wGe (.d (.int i)) (.d (.int j)) G = .ok (.d (.bl (decide (j ≤ i))), G) := rfl
@[simp] theorem w_leT {xs ys : List D} : wLe (.d (.tup xs)) (.d (.tup ys)) G = match toInts xs, toInts ys with
    | some ns, some ms => .ok (.d (.bl (leTup ns ms)), G)
    | _, _ => .bad := rfl
@[simp] theorem leTup2 {a b c d : Int} : leTup [a, b] [c, d] = if a = c then decide (b ≤ d) else decide (a ≤ c) := by
  by_cases h : a = c <;> by_cases h2 : b = d <;> simp [leTup, Ob.lexAt, h, h2]
@[simp] theorem w_isN {n : Bool} : wIsN n x (.d .non) G = .ok (.d (.bl (if n = true then !isNonW x else isNonW x)), G) := rfl
@[simp] theorem isN_non : isNonW (.d .non) = true := rfl
@[simp] theorem isN_ref {i : Nat} : isNonW (.ref i) = false := rfl
@[simp] theorem isN_bl {i} : isNonW (.d (.bl i)) = false := rfl
@[simp] theorem isN_int {i} : isNonW (.d (.int i)) = false := rfl
@[simp] theorem isN_str {i} : isNonW (.d (.str i)) = false := rfl
@[simp] theorem isN_tup {i} : isNonW (.d (.tup i)) = false := rfl
@[simp] theorem isN_lst {i} : isNonW (.d (.lst i)) = false := rfl
@[simp] theorem w_ixT {xs : List D} {i : Int} : wIx (.d (.tup xs)) (.d (.int i)) G = match atI xs i with | some x => .ok (.d x, G) | none => .bad := by
  show (match atI (xs.map W.d) i with | some w => R.ok (w, G) | none => .bad) = _
  unfold atI
  rw [List.length_map]
  cases ixN xs.length i with
  | none => rfl
  | some j => simp only [Option.bind_some, List.getElem?_map]; cases xs[j]? <;> rfl
@[simp] theorem w_ixL {xs : List D} {i : Int} : wIx (.d (.lst xs)) (.d (.int i)) G = match atI xs i with | some x => .ok (.d x, G) | none => .bad := by
  show (match atI (xs.map W.d) i with | some w => R.ok (w, G) | none => .bad) = _
  unfold atI
  rw [List.length_map]
  cases ixN xs.length i with
  | none => rfl
  | some j => simp only [Option.bind_some, List.getElem?_map]; cases xs[j]? <;> rfl
@[simp] theorem w_ixC {xs : List Int} {i : Int} : wIx (.d (.scr xs)) (.d (.int i)) G = match atI xs i with | some x => .ok (.d (.int x), G) | none => .bad := by
  show (match atI (xs.map fun n => W.d (.int n)) i with | some w => R.ok (w, G) | none => .bad) = _
  unfold atI
  rw [List.length_map]
  cases ixN xs.length i with
  | none => rfl
  | some j => simp only [Option.bind_some, List.getElem?_map]; cases xs[j]? <;> rfl
@[simp] theorem w_ixS {z : Str} {i : Int} : wIx (.d (.str z)) (.d (.int i)) G = if z.length ≤ sizeLine then match atI z.cps.toList i with | some k => .ok (.d (.str ⟨#[k]⟩), G) | none => .bad else .bad := rfl
theorem w_ixR {j : Nat} {ws : List W} {i : Int} (h : G[j]? = some (.lst ws)) : wIx (.ref j) (.d (.int i)) G = match atI ws i with | some w => .ok (w, G) | none => .bad := by
  simp only [wIx, asSeq, h] <;> rfl
@[simp] theorem w_newT {ds : List D} : newT (ds.map W.d) G = .ok (.d (.tup ds), G) := by simp [newT]
@[simp] theorem w_newLf {ds : List D} : newL false (ds.map W.d) G = .ok (.d (.lst ds), G) := by simp [newL]
@[simp] theorem w_newLt {ws : List W} : newL true ws G = .ok (.ref G.length, G ++ [.lst ws]) := by simp [newL]
@[simp] theorem toDs_cons {d : D} {r : List W} : toDs (.d d :: r) = (toDs r).map (d :: ·) := rfl
@[simp] theorem toDs_ints {ns : List Int} : toDs (ns.map fun n => W.d (.int n)) = some (ns.map D.int) := by
  rw [show (ns.map fun n => W.d (.int n)) = (ns.map D.int).map W.d by simp, toDs_map]
theorem newT_eq {ws : List W} : newT ws G = match toDs ws with | some ds => .ok (.d (.tup ds), G) | none => .bad := rfl
theorem newLf_eq {ws : List W} : newL false ws G = match toDs ws with | some ds => .ok (.d (.lst ds), G) | none => .bad := rfl
@[simp] theorem newT_nil : newT [] G = .ok (.d (.tup []), G) := rfl
@[simp] theorem newT_cons {d : D} {r : List W} : newT (.d d :: r) G = match toDs r with | some ds => .ok (.d (.tup (d :: ds)), G) | none => .bad := by
  simp [newT]; cases toDs r <;> rfl
@[simp] theorem newLf_nil : newL false [] G = .ok (.d (.lst []), G) := rfl
@[simp] theorem newLf_cons {d : D} {r : List W} : newL false (.d d :: r) G = match toDs r with | some ds => .ok (.d (.lst (d :: ds)), G) | none => .bad := by
  simp [newL]; cases toDs r <;> rfl
@[simp] theorem w_slT {m : Bool} {xs : List D} {l u : Option Int} : wSl m (.d (.tup xs)) l u G = .ok (.d (.tup (cutG xs l u)), G) := rfl
@[simp] theorem w_slS {m : Bool} {z : Str} {l u : Option Int} : wSl m (.d (.str z)) l u G = if z.length ≤ sizeLine then .ok (.d (.str (cutS z l u)), G) else .bad := rfl
@[simp] theorem w_slL {xs : List D} {l u : Option Int} : wSl false (.d (.lst xs)) l u G = .ok (.d (.lst (cutG xs l u)), G) := by
  simp [wSl, asSeq, cutG_map]
@[simp] theorem w_slC {xs : List Int} {l u : Option Int} : wSl false (.d (.scr xs)) l u G = .ok (.d (.lst ((cutG xs l u).map D.int)), G) := by
  show newL false (cutG (xs.map fun n => W.d (.int n)) l u) G = _
  rw [cutG_map, newLf_eq, toDs_ints]
@[simp] theorem w_lenS {z : Str} : bLen [.d (.str z)] G = if z.length ≤ sizeLine then .ok (.d (.int z.length), G) else .bad := rfl
@[simp] theorem w_lenT {xs : List D} : bLen [.d (.tup xs)] G = .ok (.d (.int xs.length), G) := by simp [bLen, asSeq]
@[simp] theorem w_lenL {xs : List D} : bLen [.d (.lst xs)] G = .ok (.d (.int xs.length), G) := by simp [bLen, asSeq]
@[simp] theorem w_lenC {xs : List Int} : bLen [.d (.scr xs)] G = .ok (.d (.int xs.length), G) := by simp [bLen, asSeq]
theorem w_lenR {i : Nat} {ws : List W} (h : G[i]? = some (.lst ws)) : bLen [.ref i] G = .ok (.d (.int ws.length), G) := by simp [bLen, asSeq, h]
@[simp] theorem w_tupT {xs : List D} : bTuple [.d (.tup xs)] G = .ok (.d (.tup xs), G) := rfl
@[simp] theorem w_tupL {xs : List D} : bTuple [.d (.lst xs)] G = .ok (.d (.tup xs), G) := by simp [bTuple, asSeq]
theorem w_tupR {i : Nat} {ds : List D} (h : G[i]? = some (.lst (ds.map W.d))) : bTuple [.ref i] G = .ok (.d (.tup ds), G) := by simp [bTuple, asSeq, h]
@[simp] theorem w_listT {xs : List D} : bList false [.d (.tup xs)] G = .ok (.d (.lst xs), G) := by simp [bList, asSeq]
@[simp] theorem w_listL {xs : List D} : bList false [.d (.lst xs)] G = .ok (.d (.lst xs), G) := by simp [bList, asSeq]
@[simp] theorem w_listTm {xs : List D} : bList true [.d (.tup xs)] G = .ok (.ref G.length, G ++ [.lst (xs.map W.d)]) := by simp [bList, asSeq]
@[simp] theorem w_intI {i : Int} : bInt [.d (.int i)] G = .ok (.d (.int i), G) := rfl
@[simp] theorem w_intB {i : Bool} : bInt [.d (.bl i)] G = .ok (.d (.int (if i then 1 else 0)), G) := rfl
@[simp] theorem w_intS {z : Str} : bInt [.d (.str z)] G = if z.length ≤ 640 then match PySem.intText? z with | some n => .ok (.d (.int n), G) | none => .bad else .bad := rfl
@[simp] theorem w_max {i j : Int} : bMax2 [.d (.int i), .d (.int j)] G = .ok (.d (.int (if j > i then j else i)), G) := rfl
@[simp] theorem w_min {i j : Int} : bMin2 [.d (.int i), .d (.int j)] G = .ok (.d (.int (if j < i then j else i)), G) := rfl
@[simp] theorem w_all {bs : List Bool} : bAll [.d (.lst (bs.map D.bl))] G = .ok (.d (.bl (bs.all id)), G) := by
  have e : toBls ((bs.map D.bl).map W.d) = some bs := by rw [List.map_map]; exact toBls_map bs
  simp only [bAll, asSeq, e]
@[simp] theorem w_any {bs : List Bool} : bAny [.d (.lst (bs.map D.bl))] G = .ok (.d (.bl (bs.any id)), G) := by
  have e : toBls ((bs.map D.bl).map W.d) = some bs := by rw [List.map_map]; exact toBls_map bs
  simp only [bAny, asSeq, e]
@[simp] theorem w_isi {T : String} {d : D} : wIsi T (.d d) G = match kitB (tyD d) T with | some b => .ok (.d (.bl b), G) | none => .bad := rfl
@[simp] theorem ty_non : tyD .non = "NoneType" := rfl
@[simp] theorem ty_bl {i} : tyD (.bl i) = "bool" := rfl
@[simp] theorem ty_int {i} : tyD (.int i) = "int" := rfl
@[simp] theorem ty_str {i} : tyD (.str i) = "str" := rfl
@[simp] theorem ty_tup {i} : tyD (.tup i) = "tuple" := rfl
@[simp] theorem ty_lst {i} : tyD (.lst i) = "list" := rfl
@[simp] theorem kb1 : kitB "bool" "bool" = some true := by decide +kernel
@[simp] theorem kb2 : kitB "int" "int" = some true := by decide +kernel
@[simp] theorem kb3 : kitB "bool" "int" = some true := by decide +kernel
@[simp] theorem kb4 : kitB "int" "bool" = some false := by decide +kernel
@[simp] theorem kb5 : kitB "str" "str" = some true := by decide +kernel
@[simp] theorem kb6 : kitB "tuple" "tuple" = some true := by decide +kernel
@[simp] theorem kb7 : kitB "list" "list" = some true := by decide +kernel
@[simp] theorem kb8 : kitB "list" "tuple" = some false := by decide +kernel
@[simp] theorem kb9 : kitB "tuple" "list" = some false := by decide +kernel
@[simp] theorem kb10 : kitB "int" "str" = some false := by decide +kernel
@[simp] theorem kb11 : kitB "str" "int" = some false := by decide +kernel
@[simp] theorem kb12 : kitB "tuple" "str" = some false := by decide +kernel
@[simp] theorem kb13 : kitB "str" "tuple" = some false := by decide +kernel
@[simp] theorem kb14 : kitB "int" "tuple" = some false := by decide +kernel
@[simp] theorem kb15 : kitB "tuple" "int" = some false := by decide +kernel
@[simp] theorem kb16 : kitB "NoneType" "tuple" = some false := by decide +kernel
@[simp] theorem kb17 : kitB "NoneType" "int" = some false := by decide +kernel
@[simp] theorem kb18 : kitB "NoneType" "bool" = some false := by decide +kernel
@[simp] theorem kb19 : kitB "str" "bool" = some false := by decide +kernel
/- == -/
@[simp] theorem w_eqI {n : Bool} {i j : Int} : wEq n (.d (.int i)) (.d (.int j)) G = .ok (.d (.bl (if n = true then !decide (i = j) else decide (i = j))), G) := rfl
@[simp] theorem w_eqS {n : Bool} {i j : Str} : wEq n (.d (.str i)) (.d (.str j)) G = .ok (.d (.bl (if n = true then !decide (i = j) else decide (i = j))), G) := rfl
@[simp] theorem w_eqB {n : Bool} {i j : Bool} : wEq n (.d (.bl i)) (.d (.bl j)) G = .ok (.d (.bl (if n = true then !decide (i = j) else decide (i = j))), G) := rfl
@[simp] theorem w_eqNI {n : Bool} {j : Int} : wEq n (.d .non) (.d (.int j)) G = .ok (.d (.bl (if n = true then !false else false)), G) := rfl
@[simp] theorem w_eqIN {n : Bool} {j : Int} : wEq n (.d (.int j)) (.d .non) G = .ok (.d (.bl (if n = true then !false else false)), G) := rfl
@[simp] theorem w_eqNN {n : Bool} : wEq n (.d .non) (.d .non) G = .ok (.d (.bl (if n = true then !true else true)), G) := rfl
/- in -/
theorem w_inS {n : Bool} {k : Nat} {z : Str} : wIn n (.d (.str ⟨#[k]⟩)) (.d (.str z)) G = .ok (.d (.bl (if n = true then !decide (k ∈ z.cps.toList) else decide (k ∈ z.cps.toList))), G) := by simp [wIn]
/- places -/
theorem atI_ofNat {β : Type} {xs : List β} {j : Nat} : atI xs (j : Int) = xs[j]? := by
  unfold atI ixN
  rw [if_pos (by omega)]
  by_cases h : (j : Int) < xs.length
  · rw [if_pos h]; simp
  · rw [if_neg h]
    have : xs.length ≤ j := by omega
    simp [this]
@[simp] theorem atI_0 {β : Type} {xs : List β} : atI xs 0 = xs[0]? := atI_ofNat (j := 0)
@[simp] theorem atI_1 {β : Type} {xs : List β} : atI xs 1 = xs[1]? := atI_ofNat (j := 1)
@[simp] theorem atI_2 {β : Type} {xs : List β} : atI xs 2 = xs[2]? := atI_ofNat (j := 2)
@[simp] theorem atI_3 {β : Type} {xs : List β} : atI xs 3 = xs[3]? := atI_ofNat (j := 3)
@[simp] theorem atI_4 {β : Type} {xs : List β} : atI xs 4 = xs[4]? := atI_ofNat (j := 4)
theorem atI_pos {β : Type} {xs : List β} {i : Int} (h0 : 0 ≤ i) (h : i < xs.length) : atI xs i = xs[i.toNat]? := by
  have e : i = (i.toNat : Int) := by omega
  conv => lhs; rw [e, atI_ofNat]
theorem cut_to {β : Type} {xs : List β} {n : Nat} : cutG xs none (some (n : Int)) = xs.take n := by
  unfold cutG
  rw [HT.sIx_nat, HT.sIx_none, List.drop_zero, Nat.sub_zero]
  rw [List.take_eq_take_iff]; omega
theorem cut_from {β : Type} {xs : List β} {n : Nat} : cutG xs (some (n : Int)) none = xs.drop n := by
  unfold cutG
  rw [HT.sIx_nat, HT.sIx_none]
  by_cases h : n ≤ xs.length
  · rw [Nat.min_eq_left h]
    exact List.take_of_length_le (by simp)
  · rw [Nat.min_eq_right (by omega), Nat.sub_self, List.take_zero, List.drop_eq_nil_of_le (by omega)]
end
end M
namespace M
open PySem PySem.Spec PyProof.Rows L2
/-! ### loops, by an invariant -/
theorem forM_inv {g : FG} {b : FS} {P : Sd → Gd → Prop} : ∀ {ws : List W}, (∀ w ∈ ws, ∀ s G, P s G → ∃ s1 G1, g w s G = .ok (s1, G1) ∧ ∃ s2 G2, (b s1 G1 = .ok (.nx s2, G2) ∨ b s1 G1 = .ok (.ct s2, G2)) ∧ P s2 G2) → ∀ {s G}, P s G → ∃ s' G', forM g b ws s G = .ok (.nx s', G') ∧ P s' G'
  | [], _, s, G, h => ⟨s, G, rfl, h⟩
  | w :: ws, hs, s, G, h => by
    obtain ⟨s1, G1, e1, s2, G2, e2, h2⟩ := hs w List.mem_cons_self s G h
    obtain ⟨s', G', e3, h3⟩ := forM_inv (ws := ws) (fun w hw => hs w (List.mem_cons_of_mem _ hw)) h2
    refine ⟨s', G', ?_, h3⟩
    show (match g w s G with | .ok (s1, G1) => _ | .exc x s1 G1 => _ | .bad => _) = _
    rw [e1]
    rcases e2 with e2 | e2
    · dsimp only; rw [e2]; exact e3
    · dsimp only; rw [e2]; exact e3
@[simp] theorem enumW_map {ds : List D} : enumW (ds.map W.d) = some (ds.zipIdx.map fun p => W.d (.tup [.int (p.2 : Nat), p.1])) := by
  unfold enumW; rw [toDs_map]; rfl
end M
namespace M
theorem mulOk_l {i j : Int} (h : -(2 ^ 64) < i ∧ i < 2 ^ 64) : mulOk i j = true := decide_eq_true (.inl h)
theorem mulOk_r {i j : Int} (h : -(2 ^ 64) < j ∧ j < 2 ^ 64) : mulOk i j = true := decide_eq_true (.inr (.inl h))
end M
namespace M
open PySem PySem.Spec PyProof.Rows L2
@[simp] theorem szl : sizeLine = 16777216 := sizeLine_eq
@[simp] theorem atI_mod {xs : List D} {e k : Int} (h : (xs.length : Int) = k) (h0 : 0 < k) : atI xs (e % k) = some (xs.getD (e % k).toNat .non) := by
  have h1 := Int.emod_nonneg e (Int.ne_of_gt h0)
  have h2 := Int.emod_lt_of_pos e h0
  rw [atI_pos h1 (by omega), List.getD_eq_getElem?_getD, List.getElem?_eq_getElem (by omega)]
  rfl
theorem getD_all {P : D → Prop} {xs : List D} {i : Nat} {d : D} (h : ∀ x ∈ xs, P x) (hi : i < xs.length) : P (xs.getD i d) := by
  rw [List.getD_eq_getElem?_getD, List.getElem?_eq_getElem hi]
  exact h _ (List.getElem_mem hi)
theorem getD_mod {P : D → Prop} {xs : List D} {e k : Int} {d : D} (hk : (xs.length : Int) = k) (h0 : 0 < k) (h : ∀ x ∈ xs, P x) : P (xs.getD (e % k).toNat d) := by
  have h1 := Int.emod_nonneg e (Int.ne_of_gt h0)
  have h2 := Int.emod_lt_of_pos e h0
  exact getD_all h (by omega)
end M
namespace M
open PySem PySem.Spec PyProof.Rows L2
@[simp] theorem toInts_nil : toInts [] = some [] := rfl
@[simp] theorem toInts_cons {i : Int} {r : List D} : toInts (.int i :: r) = (toInts r).map (i :: ·) := rfl
theorem getO_mod {P : D → Prop} {xs : List D} {e k : Int} {d : D} (hk : (xs.length : Int) = k) (h0 : 0 < k) (h : ∀ x ∈ xs, P x) : P ((xs[(e % k).toNat]?).getD d) := by
  rw [← List.getD_eq_getElem?_getD]; exact getD_mod hk h0 h
theorem atI_mem {xs : List D} {i : Int} (h0 : 0 ≤ i) (h : i < xs.length) : ∃ x, atI xs i = some x ∧ x ∈ xs := by
  rw [atI_pos h0 h]
  have hi : i.toNat < xs.length := by omega
  exact ⟨xs[i.toNat], List.getElem?_eq_getElem hi, List.getElem_mem hi⟩
end M
namespace M
open PySem PySem.Spec PyProof.Rows L2
/-- behind a loop's turn -/
def loopS (r : R (Fl × Gd)) (k : FS) : R (Fl × Gd) := match r with
  | .ok (.nx s1, G1) => k s1 G1
  | .ok (.ct s1, G1) => k s1 G1
  | .ok (.bk s1, G1) => .ok (.nx s1, G1)
  | .ok (.rt w, G1) => .ok (.rt w, G1)
  | .exc x s1 G1 => .exc x s1 G1
  | .bad => .bad
section
variable {s : Sd} {G : Gd} {g : FG} {b k : FS} {w : W} {ws : List W}
@[simp] theorem forM_nil : forM g b [] s G = .ok (.nx s, G) := rfl
@[simp] theorem forM_cons : forM g b (w :: ws) s G = (g w s G).bind fun p => loopS (b p.1 p.2) (forM g b ws) := by
  show (match g w s G with | .ok (s1, G1) => _ | .exc x s1 G1 => _ | .bad => _) = _
  cases g w s G with
  | ok p =>
    obtain ⟨s1, G1⟩ := p
    simp only [R.bind_ok]
    cases b s1 G1 with
    | ok q => obtain ⟨f, G2⟩ := q; cases f <;> rfl
    | exc x s G => rfl
    | bad => rfl
  | exc x s G => rfl
  | bad => rfl
@[simp] theorem loopS_nx : loopS (.ok (.nx s, G)) k = k s G := rfl
@[simp] theorem loopS_ct : loopS (.ok (.ct s, G)) k = k s G := rfl
@[simp] theorem loopS_bk : loopS (.ok (.bk s, G)) k = .ok (.nx s, G) := rfl
@[simp] theorem loopS_rt : loopS (.ok (.rt w, G)) k = .ok (.rt w, G) := rfl
@[simp] theorem loopS_exc {x : Ex} : loopS (.exc x s G) k = .exc x s G := rfl
@[simp] theorem loopS_bad : loopS .bad k = .bad := rfl
@[simp] theorem loopS_gate {c : Prop} {r : R (Fl × Gd)} : loopS (gate c r) k = gate c (loopS r k) := by unfold gate; split <;> rfl
@[simp] theorem loopS_ite {c : Prop} [Decidable c] {r r' : R (Fl × Gd)} : loopS (if c then r else r') k = if c then loopS r k else loopS r' k := by split <;> rfl
end
/-- the same, by one equation a turn -/
theorem forM_inv2 {g : FG} {b : FS} {P : Sd → Gd → Prop} {ws : List W} (hs : ∀ w ∈ ws, ∀ s G, P s G → ∃ s2 G2, (g w s G).bind (fun p => b p.1 p.2) = .ok (.nx s2, G2) ∧ P s2 G2) {s : Sd} {G : Gd} (h : P s G) : ∃ s' G', forM g b ws s G = .ok (.nx s', G') ∧ P s' G' :=
  forM_inv (fun w hw s G h => by
    obtain ⟨s2, G2, e, h2⟩ := hs w hw s G h
    cases e1 : g w s G with
    | ok p => rw [e1] at e; exact ⟨p.1, p.2, rfl, s2, G2, .inl e, h2⟩
    | exc x s G => rw [e1] at e; cases e
    | bad => rw [e1] at e; cases e) h
end M
namespace M
open PySem PySem.Spec PyProof.Rows L2
/-- a loop that looks for one thing and returns -/
theorem forM_any {g : FG} {b : FS} {G : Gd} {P : Sd → Prop} (p : W → Bool) (v : W) : ∀ {ws : List W}, (∀ w ∈ ws, ∀ s, P s → ∃ s2, P s2 ∧ (g w s G).bind (fun q => b q.1 q.2) = if p w = true then .ok (.rt v, G) else .ok (.nx s2, G)) →
    ∀ {s}, P s → ∃ s', P s' ∧ forM g b ws s G = if ws.any p = true then .ok (.rt v, G) else .ok (.nx s', G)
  | [], _, s, h => ⟨s, h, by simp⟩
  | w :: ws, hs, s, h => by
    obtain ⟨s2, h2, e⟩ := hs w List.mem_cons_self s h
    obtain ⟨s', h', e'⟩ := forM_any p v (ws := ws) (fun w hw => hs w (List.mem_cons_of_mem _ hw)) h2
    refine ⟨s', h', ?_⟩
    rw [forM_cons]
    cases hg : g w s G with
    | bad => rw [hg] at e; simp only [R.bind_bad] at e; split at e <;> cases e
    | exc x s G => rw [hg] at e; simp only [R.bind_exc] at e; split at e <;> cases e
    | ok q =>
      rw [hg] at e
      simp only [R.bind_ok] at e ⊢
      rw [e]
      by_cases hp : p w = true
      · simp [hp]
      · simp only [hp, if_false, Bool.false_eq_true, loopS_nx, List.any_cons, Bool.false_or]
        rw [e']
/-- comprehensions -/
theorem compM_eq {i : Nat} {t : FT} {e : FE} {s : Sd} {G : Gd} (p : W → Bool) (f : W → W) : ∀ {ws acc : List W}, (∀ w ∈ ws, t ((s.set i none).set i (some w)) G = .ok (p w, G)) → (∀ w ∈ ws, p w = true → e ((s.set i none).set i (some w)) G = .ok (f w, G)) → acc.length + ws.length ≤ sizeLine →
    compM i t e ws acc s G = .ok (acc ++ (ws.filter p).map f, G)
  | [], acc, _, _, _ => by simp [compM]
  | w :: ws, acc, ht, he, hl => by
    have ht' : ∀ w ∈ ws, t ((s.set i none).set i (some w)) G = .ok (p w, G) := fun w hw => ht w (List.mem_cons_of_mem _ hw)
    have he' : ∀ w ∈ ws, p w = true → e ((s.set i none).set i (some w)) G = .ok (f w, G) := fun w hw => he w (List.mem_cons_of_mem _ hw)
    rw [List.length_cons] at hl
    unfold compM
    rw [ht w List.mem_cons_self]
    cases hp : p w with
    | true =>
      dsimp only
      rw [he w List.mem_cons_self hp]
      dsimp only
      rw [if_pos (by omega), compM_eq p f ht' he' (by rw [List.length_append, List.length_singleton]; omega), List.filter_cons_of_pos hp]
      simp
    | false =>
      dsimp only
      rw [compM_eq p f ht' he' (by omega), List.filter_cons_of_neg (by rw [hp]; simp)]
theorem compM_map {i : Nat} {e : FE} {s : Sd} {G : Gd} (f : W → W) {ws : List W} (he : ∀ w ∈ ws, e ((s.set i none).set i (some w)) G = .ok (f w, G)) (hl : ws.length ≤ sizeLine) : compM i tYesM e ws [] s G = .ok (ws.map f, G) := by
  rw [compM_eq (fun _ => true) f (fun _ _ => rfl) (fun w hw _ => he w hw) (by simpa using hl), List.nil_append, List.filter_eq_self.mpr (fun _ _ => rfl)]
end M
namespace M
open PySem PySem.Spec PyProof.Rows L2
/-- a loop by an invariant of the turn -/
theorem forM_ix {g : FG} {b : FS} : ∀ {ws : List W} (P : Nat → Sd → Gd → Prop), (∀ i w, ws[i]? = some w → ∀ s G, P i s G → ∃ s2 G2, (g w s G).bind (fun p => b p.1 p.2) = .ok (.nx s2, G2) ∧ P (i + 1) s2 G2) →
    ∀ {s G}, P 0 s G → ∃ s' G', forM g b ws s G = .ok (.nx s', G') ∧ P ws.length s' G'
  | [], P, _, s, G, h => ⟨s, G, rfl, h⟩
  | w :: ws, P, hs, s, G, h => by
    obtain ⟨s2, G2, e, h2⟩ := hs 0 w rfl s G h
    obtain ⟨s', G', e', h'⟩ := forM_ix (ws := ws) (fun i => P (i + 1)) (fun i w hw s G hp => hs (i + 1) w (by simpa using hw) s G hp) h2
    refine ⟨s', G', ?_, h'⟩
    rw [forM_cons]
    cases hg : g w s G with
    | bad => rw [hg] at e; cases e
    | exc x s G => rw [hg] at e; cases e
    | ok q =>
      rw [hg] at e
      simp only [R.bind_ok] at e ⊢
      rw [e]; exact e'
theorem rng_at {lo : Int} {n i : Nat} {w : W} (h : (rngW lo n)[i]? = some w) : i < n ∧ w = .d (.int (lo + (i : Nat))) := by
  unfold rngW at h
  rw [List.getElem?_map, Option.map_eq_some_iff] at h
  obtain ⟨k, e, rfl⟩ := h
  have hi : i < n := by
    have := (List.getElem?_eq_some_iff.mp e).1
    simpa using this
  have e3 : (List.range n)[i]? = some i := by simp [hi]
  rw [e3] at e
  cases e
  exact ⟨hi, rfl⟩
@[simp] theorem rng_len {lo : Int} {n : Nat} : (rngW lo n).length = n := by simp [rngW]
end M
namespace M
open PySem PySem.Spec PyProof.Rows L2
/-! ### more mirrors, reckoned -/
section
variable {s : Sd} {G : Gd} {f g h : FE} {t u : FT} {a b : FA} {x y : W}
@[simp] theorem x_iEnumA : iEnumA a s G = (a s G).bind fun p => match p.1 with
  | [w] => match stillSeq w with
    | some (_, xs) => match enumW xs with
      | some ys => .ok (ys, p.2)
      | none => .bad
    | _ => .bad
  | _ => .bad := rfl
@[simp] theorem w_ixRef {j : Nat} {i : Int} : wIx (.ref j) (.d (.int i)) G = match G[j]? with
  | some (.lst ws) => (match atI ws i with | some w => .ok (w, G) | none => .bad)
  | some (.still ds) => (match atI (ds.map W.d) i with | some w => .ok (w, G) | none => .bad)
  | _ => .bad := by
  simp only [wIx, asSeq]
  cases G[j]? with
  | none => rfl
  | some o => cases o <;> rfl
@[simp] theorem w_lenRef {j : Nat} : bLen [.ref j] G = match G[j]? with
  | some (.lst ws) => .ok (.d (.int ws.length), G)
  | some (.still ds) => .ok (.d (.int ds.length), G)
  | _ => .bad := by
  simp only [bLen, asSeq]
  cases G[j]? with
  | none => rfl
  | some o => cases o <;> simp
@[simp] theorem w_appRef {j : Nat} : wApp (.ref j) [x] G = match G[j]? with
  | some (.lst xs) => if xs.length < sizeLine then .ok (.d .non, G.set j (.lst (xs ++ [x]))) else .bad
  | _ => .bad := rfl
@[simp] theorem w_popRef {j : Nat} : wPop (.ref j) [] G = match G[j]? with
  | some (.lst xs) => match xs[xs.length - 1]? with
    | some x => .ok (x, G.set j (.lst xs.dropLast))
    | none => .bad
  | _ => .bad := rfl
@[simp] theorem rcL_ref {j : Nat} : rcL G (.ref j) = match G[j]? with
  | some (.lst _) => true
  | _ => false := rfl
@[simp] theorem x_gSetL {w : W} : gSetL f g w s G = (f s G).bind fun p => (g s p.2).bind fun q => match p.1, q.1 with
  | .ref a, .d (.int k) => match q.2[a]? with
    | some (.lst xs) => match ixN xs.length k with
      | some j => .ok (s, q.2.set a (.lst (xs.set j w)))
      | none => .bad
    | _ => .bad
  | _, _ => .bad := by
  show (seqF f (fun o => seqF g fun i _ G => _) s G) = _
  unfold seqF
  cases f s G with
  | bad => rfl
  | exc x s G => rfl
  | ok p =>
    simp only [R.bind_ok]
    all_goals (cases g s p.2 <;> rfl)
@[simp] theorem x_eDNew : eDNew s G = .ok (.ref G.length, G ++ [.dct []]) := rfl
@[simp] theorem x_eDIx : eDIx f g s G = (f s G).bind fun p => (g s p.2).bind fun q => wDGet p.1 q.1 none q.2 := rfl
@[simp] theorem x_eDGet : eDGet f g h s G = (f s G).bind fun p => if (dctAt p.2 p.1).isSome = true then (g s p.2).bind fun q => (h s q.2).bind fun r => wDGet p.1 q.1 (some r.1) r.2 else .bad := rfl
@[simp] theorem x_sDPut : sDPut f g h s G = (h s G).bind fun v => (f s v.2).bind fun d => (g s d.2).bind fun k => (wDPut v.1 d.1 k.1 k.2).bind fun G' => .ok (.nx s, G') := rfl
@[simp] theorem keyOf_int {i : Int} : keyOf (.d (.int i)) = some (.inl i) := rfl
@[simp] theorem keyOf_str {i : Str} : keyOf (.d (.str i)) = some (.inr i) := rfl
@[simp] theorem dctAt_ref {j : Nat} : dctAt G (.ref j) = match G[j]? with
  | some (.dct qs) => some qs
  | some (.pin qs) => some qs
  | _ => none := rfl
@[simp] theorem x_eChain {p q : W → W → Gd → R (W × Gd)} : eChain p q f g h s G = (f s G).bind fun a => (g s a.2).bind fun b => (p a.1 b.1 b.2).bind fun r => match r.1 with
  | .d (.bl k) => if k = true then (h s r.2).bind fun x => q b.1 x.1 x.2 else .ok (.d (.bl false), r.2)
  | _ => .bad := rfl
@[simp] theorem x_eCompT {m : Bool} {is : List Nat} : eCompT m is a t f s G = (a s G).bind fun p => (compT is t f p.1 [] s p.2).bind fun q => newL m q.1 q.2 := rfl
@[simp] theorem x_iKeys : iKeys f s G = (f s G).bind fun p => match p.1 with
  | .ref i => match p.2[i]? with
    | some (.pin qs) => .ok (qs.map fun q => W.d (kD q.1), p.2)
    | _ => .bad
  | _ => .bad := rfl
end
@[simp] theorem thenS_loop {r : R (Fl × Gd)} {k B : FS} : thenS (loopS r k) B = match r with
  | .ok (.nx s1, G1) => thenS (k s1 G1) B
  | .ok (.ct s1, G1) => thenS (k s1 G1) B
  | .ok (.bk s1, G1) => B s1 G1
  | .ok (.rt w, G1) => .ok (.rt w, G1)
  | .exc x s1 G1 => .exc x s1 G1
  | .bad => .bad := by
  cases r with
  | ok p => obtain ⟨q, G⟩ := p; cases q <;> rfl
  | exc x s G => rfl
  | bad => rfl
theorem atI_ix {β : Type} {xs : List β} {i : Int} {j : Nat} (e : i = j) : atI xs i = xs[j]? := by rw [e]; exact atI_ofNat
theorem ixN_ofNat {n j : Nat} (h : j < n) : ixN n (j : Int) = some j := by
  unfold ixN
  rw [if_pos (by omega), if_pos (by omega)]; simp
end M
namespace M
open PySem PySem.Spec PyProof.Rows L2
section
variable {β : Type} {xs : List β} {n : Nat}
theorem ixN_nat (j : Nat) : ixN n (j : Int) = if j < n then some j else none := by
  unfold ixN
  rw [if_pos (by omega)]
  by_cases h : j < n
  · rw [if_pos h, if_pos (by omega)]; simp
  · rw [if_neg h, if_neg (by omega)]
@[simp] theorem ixN_0 : ixN n 0 = if 0 < n then some 0 else none := ixN_nat 0
@[simp] theorem ixN_1 : ixN n 1 = if 1 < n then some 1 else none := ixN_nat 1
@[simp] theorem ixN_2 : ixN n 2 = if 2 < n then some 2 else none := ixN_nat 2
@[simp] theorem ixN_3 : ixN n 3 = if 3 < n then some 3 else none := ixN_nat 3
@[simp] theorem ixN_4 : ixN n 4 = if 4 < n then some 4 else none := ixN_nat 4
@[simp] theorem ixN_5 : ixN n 5 = if 5 < n then some 5 else none := ixN_nat 5
@[simp] theorem ixN_6 : ixN n 6 = if 6 < n then some 6 else none := ixN_nat 6
@[simp] theorem ixN_7 : ixN n 7 = if 7 < n then some 7 else none := ixN_nat 7
@[simp] theorem atI_5 : atI xs 5 = xs[5]? := atI_ofNat (j := 5)
@[simp] theorem atI_6 : atI xs 6 = xs[6]? := atI_ofNat (j := 6)
@[simp] theorem atI_7 : atI xs 7 = xs[7]? := atI_ofNat (j := 7)
@[simp] theorem ixN_m1 : ixN n (-1) = if 0 < n then some (n - 1) else none := by
  unfold ixN
  rw [if_neg (by omega)]
  by_cases h : 0 < n
  · rw [if_pos h, if_pos (by omega)]
    congr 1
    omega
  · rw [if_neg h, if_neg (by omega)]
@[simp] theorem atI_m1 : atI xs (-1) = xs[xs.length - 1]? := by
  unfold atI
  rw [ixN_m1]
  by_cases h : 0 < xs.length
  · rw [if_pos h]; rfl
  · rw [if_neg h]
    have : xs = [] := List.length_eq_zero_iff.mp (by omega)
    subst this; rfl
end
end M
namespace M
open PySem PySem.Spec PyProof.Rows L2
/-! ### what a turn, a value comes to -/
def OkN (r : R (Fl × Gd)) (P : Sd → Gd → Prop) : Prop := ∃ s G, r = .ok (.nx s, G) ∧ P s G
def OkD (r : R D) (P : D → Prop) : Prop := ∃ d, r = .ok d ∧ P d
def OkW (r : R (W × Gd)) (P : W → Gd → Prop) : Prop := ∃ w G, r = .ok (w, G) ∧ P w G
section
variable {s : Sd} {G : Gd} {c : Prop} [Decidable c]
@[simp] theorem OkN_nx {P : Sd → Gd → Prop} : OkN (.ok (.nx s, G)) P ↔ P s G := ⟨fun ⟨_, _, e, h⟩ => by cases e; exact h, fun h => ⟨_, _, rfl, h⟩⟩
@[simp] theorem OkN_ite {P : Sd → Gd → Prop} {a b : R (Fl × Gd)} : OkN (if c then a else b) P ↔ if c then OkN a P else OkN b P := by split <;> rfl
@[simp] theorem OkN_bad {P : Sd → Gd → Prop} : OkN .bad P ↔ False := ⟨fun ⟨_, _, e, _⟩ => (nomatch e), False.elim⟩
@[simp] theorem OkD_ok {P : D → Prop} {d : D} : OkD (.ok d) P ↔ P d := ⟨fun ⟨_, e, h⟩ => by cases e; exact h, fun h => ⟨_, rfl, h⟩⟩
@[simp] theorem OkD_ite {P : D → Prop} {a b : R D} : OkD (if c then a else b) P ↔ if c then OkD a P else OkD b P := by split <;> rfl
@[simp] theorem OkD_bad {P : D → Prop} : OkD .bad P ↔ False := ⟨fun ⟨_, e, _⟩ => (nomatch e), False.elim⟩
@[simp] theorem OkW_ok {P : W → Gd → Prop} {w : W} : OkW (.ok (w, G)) P ↔ P w G := ⟨fun ⟨_, _, e, h⟩ => by cases e; exact h, fun h => ⟨_, _, rfl, h⟩⟩
@[simp] theorem OkW_ite {P : W → Gd → Prop} {a b : R (W × Gd)} : OkW (if c then a else b) P ↔ if c then OkW a P else OkW b P := by split <;> rfl
@[simp] theorem OkW_bad {P : W → Gd → Prop} : OkW .bad P ↔ False := ⟨fun ⟨_, _, e, _⟩ => (nomatch e), False.elim⟩
theorem OkD.mono {P Q : D → Prop} {r : R D} (h : OkD r P) (i : ∀ d, P d → Q d) : OkD r Q := let ⟨d, e, p⟩ := h; ⟨d, e, i d p⟩
end
/-- a loop by an invariant of the turn -/
theorem forM_N {g : FG} {b : FS} {ws : List W} (P : Nat → Sd → Gd → Prop) (hs : ∀ i w, ws[i]? = some w → ∀ s G, P i s G → OkN ((g w s G).bind fun p => b p.1 p.2) (P (i + 1))) {s : Sd} {G : Gd} (h : P 0 s G) : OkN (forM g b ws s G) (P ws.length) := by
  obtain ⟨s', G', e, h'⟩ := forM_ix (g := g) (b := b) (ws := ws) P (fun i w hw s G hp => hs i w hw s G hp) h
  exact ⟨s', G', e, h'⟩
theorem OkN.then {r : R (Fl × Gd)} {B : FS} {P : Sd → Gd → Prop} (h : OkN r P) : ∃ s G, P s G ∧ thenS r B = B s G := by
  obtain ⟨s, G, rfl, p⟩ := h
  exact ⟨s, G, p, rfl⟩
/-- one of a written list -/
theorem atI_mem' {xs : List D} {i : Int} {P : D → Prop} (h0 : 0 ≤ i) (h : i < xs.length) (hx : ∀ x ∈ xs, P x) : ∃ x, atI xs i = some x ∧ P x := by
  obtain ⟨x, e, m⟩ := atI_mem h0 h
  exact ⟨x, e, hx x m⟩
end M
namespace M
open PySem PySem.Spec PyProof.Rows L2
@[simp] theorem toDs_comp {β : Type} {f : β → D} {l : List β} : toDs (l.map (W.d ∘ f)) = some (l.map f) := by
  rw [← List.map_map]; exact toDs_map _
@[simp] theorem toDs_fun {β : Type} {f : β → D} {l : List β} : toDs (l.map fun x => W.d (f x)) = some (l.map f) := toDs_comp
end M

set_option maxRecDepth 100000
set_option maxHeartbeats 4000000
namespace M
open PySem PySem.Spec PyProof.Rows L2
/-! ### == of data without truths -/
mutual
/-- no truths within, no script, texts of signs, no deeper than n -/
def plB : Nat → D → Bool
  | _, .non => true
  | _, .bl _ => false
  | _, .int _ => true
  | _, .str x => layD (.str x)
  | 0, .tup _ => false
  | n + 1, .tup xs => plBs n xs
  | 0, .lst _ => false
  | n + 1, .lst xs => plBs n xs
  | _, .scr _ => false
def plBs : Nat → List D → Bool
  | _, [] => true
  | n, x :: xs => plB n x && plBs n xs
end
mutual
theorem pl_lay : ∀ {d : D} {n : Nat}, plB n d = true → (toPy d).canLay0 = true ∧ (toPy d).depth ≤ n
  | .non, n, _ => by simp [toPy, PyData.canLay0, PyData.depth]
  | .bl b, n, h => by simp [plB] at h
  | .int i, n, _ => by simp [toPy, PyData.canLay0, PyData.depth]
  | .str x, n, h => by
    simp only [plB, layD] at h
    exact ⟨h, by simp [toPy, PyData.depth]⟩
  | .tup xs, 0, h => by simp [plB] at h
  | .tup xs, n + 1, h => by
    simp only [plB] at h
    have := pls_lay h
    simp only [toPy, PyData.canLay0, PyData.depth]
    exact ⟨this.1, by omega⟩
  | .lst xs, 0, h => by simp [plB] at h
  | .lst xs, n + 1, h => by
    simp only [plB] at h
    have := pls_lay h
    simp only [toPy, PyData.canLay0, PyData.depth]
    exact ⟨this.1, by omega⟩
  | .scr ns, n, h => by simp [plB] at h
theorem pls_lay : ∀ {ds : List D} {n : Nat}, plBs n ds = true → PyData.canLayAll0 (toPys ds) = true ∧ PyData.depthAll (toPys ds) ≤ n
  | [], n, _ => by simp [toPys, PyData.canLayAll0, PyData.depthAll]
  | x :: xs, n, h => by
    simp only [plBs, Bool.and_eq_true] at h
    have h1 := pl_lay h.1
    have h2 := pls_lay h.2
    simp only [toPys, PyData.canLayAll0, PyData.depthAll, h1.1, h2.1, Bool.and_self, true_and]
    omega
end
mutual
theorem pl_eqv : ∀ {d e : D} {n m : Nat}, plB n d = true → plB m e = true → (PyData.eqv (toPy d) (toPy e) = true ↔ d = e)
  | .bl b, e, n, m, h, _ => by simp [plB] at h
  | .scr b, e, n, m, h, _ => by simp [plB] at h
  | .non, e, n, m, _, h => by cases e <;> simp_all [plB, toPy, PyData.eqv]
  | .int i, e, n, m, _, h => by cases e <;> simp_all [plB, toPy, PyData.eqv]
  | .str i, e, n, m, _, h => by cases e <;> simp_all [plB, toPy, PyData.eqv]
  | .tup xs, e, 0, m, h, _ => by simp [plB] at h
  | .tup xs, e, n + 1, m, h, h' => by
    cases e with
    | tup ys =>
      cases m with
      | zero => simp [plB] at h'
      | succ m =>
        simp only [plB] at h h'
        simp only [toPy, PyData.eqv, D.tup.injEq]
        exact pls_eqv h h'
    | bl b => simp [plB] at h'
    | scr b => simp [plB] at h'
    | _ => simp [toPy, PyData.eqv]
  | .lst xs, e, 0, m, h, _ => by simp [plB] at h
  | .lst xs, e, n + 1, m, h, h' => by
    cases e with
    | lst ys =>
      cases m with
      | zero => simp [plB] at h'
      | succ m =>
        simp only [plB] at h h'
        simp only [toPy, PyData.eqv, D.lst.injEq]
        exact pls_eqv h h'
    | bl b => simp [plB] at h'
    | scr b => simp [plB] at h'
    | _ => simp [toPy, PyData.eqv]
theorem pls_eqv : ∀ {ds es : List D} {n m : Nat}, plBs n ds = true → plBs m es = true → (PyData.eqvAll (toPys ds) (toPys es) = true ↔ ds = es)
  | [], es, n, m, _, _ => by cases es <;> simp [toPys, PyData.eqvAll]
  | x :: xs, [], n, m, _, _ => by simp [toPys, PyData.eqvAll]
  | x :: xs, y :: ys, n, m, h, h' => by
    simp only [plBs, Bool.and_eq_true] at h h'
    simp only [toPys, PyData.eqvAll, Bool.and_eq_true, List.cons.injEq]
    rw [pl_eqv h.1 h'.1, pls_eqv h.2 h'.2]
end
open Classical in
theorem wEqD_pl {x y : D} (hx : plB 60 x = true) (hy : plB 60 y = true) : wEqD x y = some (decide (x = y)) := by
  unfold wEqD
  have lx := pl_lay hx
  have ly := pl_lay hy
  have e := pl_eqv hx hy
  have key : eqD x y = decide (x = y) := by
    unfold eqD
    by_cases h : x = y
    · rw [decide_eq_true h]; exact e.mpr h
    · rw [decide_eq_false h]
      cases hb : PyData.eqv (toPy x) (toPy y) with
      | true => exact absurd (e.mp hb) h
      | false => rfl
  split
  · rename_i k hk
    cases x <;> cases y <;> simp only [eqS, Option.some.injEq, reduceCtorEq] at hk <;> subst hk <;> simp_all [plB]
  · rw [if_pos ⟨lx.1, ly.1, .inl (decide_eq_true (by omega))⟩, key]
open Classical in
theorem wEq_pl {n : Bool} {a b : W} {G : Gd} {x y : D} (ha : toDat G a = some x) (hb : toDat G b = some y) (hx : plB 60 x = true) (hy : plB 60 y = true) :
    wEq n a b G = .ok (.d (.bl (if n = true then !decide (x = y) else decide (x = y))), G) := by
  unfold wEq
  rw [ha, hb]
  dsimp only
  rw [wEqD_pl hx hy]
theorem wEq_same {n : Bool} {a b : W} {G : Gd} {x : D} (ha : toDat G a = some x) (hb : toDat G b = some x) (hx : plB 60 x = true) :
    wEq n a b G = .ok (.d (.bl (!n)), G) := by
  rw [wEq_pl ha hb hx hx]; cases n <;> simp
@[simp] theorem plB_non {n} : plB n .non = true := by cases n <;> rfl
@[simp] theorem plB_int {n i} : plB n (.int i) = true := by cases n <;> rfl
@[simp] theorem plB_str {n x} : plB n (.str x) = layD (.str x) := by cases n <;> rfl
@[simp] theorem plB_tup {n xs} : plB (n + 1) (.tup xs) = plBs n xs := rfl
@[simp] theorem plB_lst {n xs} : plB (n + 1) (.lst xs) = plBs n xs := rfl
@[simp] theorem plBs_nil {n} : plBs n [] = true := by cases n <;> rfl
@[simp] theorem plBs_cons {n x xs} : plBs n (x :: xs) = (plB n x && plBs n xs) := by cases n <;> rfl
theorem plBs_iff {n : Nat} : ∀ {xs : List D}, plBs n xs = true ↔ ∀ x ∈ xs, plB n x = true
  | [] => by simp
  | x :: xs => by rw [plBs_cons, Bool.and_eq_true, plBs_iff (xs := xs)]; simp
theorem plBs_map {β : Type} {n : Nat} {f : β → D} {l : List β} (h : ∀ x ∈ l, plB n (f x) = true) : plBs n (l.map f) = true := plBs_iff.mpr fun x hx => by
  obtain ⟨y, hy, rfl⟩ := List.mem_map.mp hx
  exact h y hy
mutual
theorem pl_le : ∀ {d : D} {n m : Nat}, plB n d = true → n ≤ m → plB m d = true
  | .non, _, _, _, _ => by simp
  | .bl b, _, _, h, _ => by simp [plB] at h
  | .int i, _, _, _, _ => by simp
  | .str x, _, _, h, _ => by simpa using h
  | .tup xs, 0, _, h, _ => by simp [plB] at h
  | .tup xs, n + 1, 0, h, l => by omega
  | .tup xs, n + 1, m + 1, h, l => by
    simp only [plB] at h ⊢
    exact pls_le h (by omega)
  | .lst xs, 0, _, h, _ => by simp [plB] at h
  | .lst xs, n + 1, 0, h, l => by omega
  | .lst xs, n + 1, m + 1, h, l => by
    simp only [plB] at h ⊢
    exact pls_le h (by omega)
  | .scr b, _, _, h, _ => by simp [plB] at h
theorem pls_le : ∀ {ds : List D} {n m : Nat}, plBs n ds = true → n ≤ m → plBs m ds = true
  | [], _, _, _, _ => by simp
  | x :: xs, _, _, h, l => by
    simp only [plBs_cons, Bool.and_eq_true] at h ⊢
    exact ⟨pl_le h.1 l, pls_le h.2 l⟩
end
@[simp] theorem toDat_d {G : Gd} {x : D} : toDat G (.d x) = some x := rfl
end M

set_option maxRecDepth 100000
set_option maxHeartbeats 4000000
namespace M
open PySem PySem.Spec PyProof.Rows L2
/-! comprehensions, typed -/
theorem compM_T {β : Type} (enc : β → D) {P : Nat → β → Prop} {j : Nat} {e : FE} {s : Sd} {G : Gd} : ∀ {ws acc : List W}, (∀ i w, ws[i]? = some w → ∃ b, e ((s.set j none).set j (some w)) G = .ok (.d (enc b), G) ∧ P i b) → acc.length + ws.length ≤ sizeLine →
    ∃ bs : List β, compM j tYesM e ws acc s G = .ok (acc ++ (bs.map enc).map W.d, G) ∧ bs.length = ws.length ∧ ∀ i b, bs[i]? = some b → P i b
  | [], acc, _, _ => ⟨[], by simp [compM], rfl, fun i b h => by simp at h⟩
  | w :: ws, acc, he, hl => by
    obtain ⟨b, e1, p1⟩ := he 0 w rfl
    rw [List.length_cons] at hl
    obtain ⟨bs, e2, l2, p2⟩ := compM_T enc (P := fun i => P (i + 1)) (ws := ws) (acc := acc ++ [W.d (enc b)]) (fun i w h => he (i + 1) w (by simpa using h)) (by rw [List.length_append, List.length_singleton]; omega)
    refine ⟨b :: bs, ?_, by simp [l2], fun i b' h => ?_⟩
    · unfold compM
      rw [x_tYes]
      dsimp only
      rw [e1]
      dsimp only
      rw [if_pos (by omega), e2]
      simp
    · cases i with
      | zero => simp at h; subst h; exact p1
      | succ i => exact p2 i b' (by simpa using h)
theorem compM_T0 {β : Type} (enc : β → D) {P : Nat → β → Prop} {j : Nat} {e : FE} {s : Sd} {G : Gd} {ws : List W} (he : ∀ i w, ws[i]? = some w → ∃ b, e ((s.set j none).set j (some w)) G = .ok (.d (enc b), G) ∧ P i b) (hl : ws.length ≤ 16777216) :
    ∃ bs : List β, compM j tYesM e ws [] s G = .ok ((bs.map enc).map W.d, G) ∧ bs.length = ws.length ∧ ∀ i b, bs[i]? = some b → P i b := by
  have := compM_T enc (P := P) (acc := []) he (by simpa using hl)
  simpa only [List.nil_append] using this
@[simp] theorem compM_nil {j : Nat} {t : FT} {e : FE} {acc : List W} {s : Sd} {G : Gd} : compM j t e [] acc s G = .ok (acc, G) := rfl
/-! things that may change -/
section
variable {G : Gd} {m : Bool} {j k : Nat} {xs ys : List D} {ns : List Int}
@[simp] theorem asSeq_tup : asSeq G (.d (.tup xs)) = some (true, xs.map W.d) := rfl
@[simp] theorem asSeq_lst : asSeq G (.d (.lst xs)) = some (false, xs.map W.d) := rfl
@[simp] theorem asSeq_scr : asSeq G (.d (.scr ns)) = some (false, ns.map fun n => W.d (.int n)) := rfl
@[simp] theorem asSeq_ref : asSeq G (.ref j) = match G[j]? with
  | some (.lst ws) => some (false, ws)
  | some (.still ds) => some (false, ds.map W.d)
  | _ => none := rfl
@[simp] theorem w_addRL : wAdd m (.ref j) (.d (.lst ys)) G = match asSeq G (.ref j) with
    | some (false, xs) => if xs.length + ys.length ≤ sizeLine then newL m (xs ++ ys.map W.d) G else .bad
    | _ => .bad := by
  show (match asSeq G (.ref j), asSeq G (.d (.lst ys)) with
    | some (false, xs), some (false, ys) => if xs.length + ys.length ≤ sizeLine then newL m (xs ++ ys) G else R.bad
    | _, _ => .bad) = _
  rw [asSeq_lst]
  generalize asSeq G (.ref j) = o
  rcases o with _ | ⟨b, xs⟩
  · rfl
  · cases b <;> simp
@[simp] theorem w_addRR : wAdd m (.ref j) (.ref k) G = match asSeq G (.ref j), asSeq G (.ref k) with
    | some (false, xs), some (false, ys) => if xs.length + ys.length ≤ sizeLine then newL m (xs ++ ys) G else .bad
    | _, _ => .bad := rfl
@[simp] theorem w_addLR : wAdd m (.d (.lst xs)) (.ref j) G = match asSeq G (.ref j) with
    | some (false, ys) => if xs.length + ys.length ≤ sizeLine then newL m (xs.map W.d ++ ys) G else .bad
    | _ => .bad := by
  show (match asSeq G (.d (.lst xs)), asSeq G (.ref j) with
    | some (false, xs), some (false, ys) => if xs.length + ys.length ≤ sizeLine then newL m (xs ++ ys) G else R.bad
    | _, _ => .bad) = _
  rw [asSeq_lst]
  generalize asSeq G (.ref j) = o
  rcases o with _ | ⟨b, xs⟩
  · rfl
  · cases b <;> simp
@[simp] theorem bTuple_ref : bTuple [.ref j] G = match asSeq G (.ref j) with
    | some (true, _) => .ok (.ref j, G)
    | some (false, xs) => newT xs G
    | none => R.bad := rfl
@[simp] theorem bList_ref : bList m [.ref j] G = match asSeq G (.ref j) with
    | some (_, xs) => newL m xs G
    | none => .bad := rfl
@[simp] theorem bList_lst : bList true [.d (.lst xs)] G = .ok (.ref G.length, G ++ [.lst (xs.map W.d)]) := by simp [bList, asSeq]
@[simp] theorem bList_scr : bList true [.d (.scr ns)] G = .ok (.ref G.length, G ++ [.lst (ns.map fun n => W.d (.int n))]) := by simp [bList, asSeq]
@[simp] theorem bList_scrf : bList false [.d (.scr ns)] G = .ok (.d (.lst (ns.map D.int)), G) := by simp [bList, asSeq, newLf_eq]
@[simp] theorem bTuple_scr : bTuple [.d (.scr ns)] G = .ok (.d (.tup (ns.map D.int)), G) := by simp [bTuple, asSeq, newT_eq]
@[simp] theorem wSl_ref {l u : Option Int} : wSl m (.ref j) l u G = match asSeq G (.ref j) with
    | some (false, ws) => newL m (cutG ws l u) G
    | _ => .bad := rfl
@[simp] theorem wSl_lst {l u : Option Int} : wSl true (.d (.lst xs)) l u G = .ok (.ref G.length, G ++ [.lst ((cutG xs l u).map W.d)]) := by simp [wSl, asSeq, cutG_map]
@[simp] theorem wExt_lst : wExt (.ref j) [.d (.lst xs)] G = match asSeq G (.ref j) with
    | some (false, ws) => (match G[j]? with | some (.lst ws) => if ws.length + xs.length ≤ sizeLine then .ok (.d .non, G.set j (.lst (ws ++ xs.map W.d))) else .bad | _ => .bad)
    | _ => .bad := by
  show (match G[j]?, asSeq G (.d (.lst xs)) with
    | some (.lst xs), some (false, zs) => if xs.length + zs.length ≤ sizeLine then R.ok (W.d .non, G.set j (.lst (xs ++ zs))) else .bad
    | _, _ => .bad) = _
  simp only [asSeq_lst, asSeq_ref]
  cases G[j]? with
  | none => rfl
  | some o => cases o <;> simp
@[simp] theorem wIsi_ref {T : String} : wIsi T (.ref j) G = match tyW G (.ref j) with
  | some t => match kitB t T with
    | some b => .ok (.d (.bl b), G)
    | none => .bad
  | none => .bad := rfl
@[simp] theorem tyW_ref : tyW G (.ref j) = match G[j]? with
    | some (.lst _) => some "list"
    | some (.still _) => some "list"
    | some (.dct _) => some "dict"
    | _ => none := rfl
@[simp] theorem toDs_app {as bs : List W} : toDs (as ++ bs) = (toDs as).bind fun x => (toDs bs).map (x ++ ·) := by
  induction as with
  | nil => simp
  | cons a as ih =>
    cases a with
    | ref i => rfl
    | d x =>
      simp only [List.cons_append, toDs_cons, ih]
      cases toDs as with
      | none => rfl
      | some y => cases toDs bs <;> rfl
@[simp] theorem toDs_set {x : D} : ∀ {as : List W} {i : Nat}, toDs as ≠ none → toDs (as.set i (.d x)) = (toDs as).map (·.set i x)
  | [], _, _ => rfl
  | .ref i :: as, _, h => absurd rfl h
  | .d y :: as, 0, h => by simp only [List.set_cons_zero, toDs_cons]; cases toDs as <;> rfl
  | .d y :: as, i + 1, h => by
    simp only [List.set_cons_succ, toDs_cons] at h ⊢
    rw [toDs_set (fun e => h (by rw [e]; rfl))]
    cases toDs as <;> rfl
@[simp] theorem newT_s {ws : List W} : newT ws G = match toDs ws with | some ds => .ok (.d (.tup ds), G) | none => .bad := rfl
@[simp] theorem newLf_s {ws : List W} : newL false ws G = match toDs ws with | some ds => .ok (.d (.lst ds), G) | none => .bad := rfl
end
@[simp] theorem w_isB {a b : Bool} {G : Gd} : wIsB (.d (.bl a)) (.d (.bl b)) G = .ok (.d (.bl (decide (a = b))), G) := rfl
theorem OkN.mono {P Q : Sd → Gd → Prop} {r : R (Fl × Gd)} (h : OkN r P) (i : ∀ s G, P s G → Q s G) : OkN r Q := let ⟨s, G, e, p⟩ := h; ⟨s, G, e, i s G p⟩
@[simp] theorem enumW_comp {β : Type} {f : β → D} {l : List β} : enumW (l.map (W.d ∘ f)) = some ((l.map f).zipIdx.map fun p => W.d (.tup [.int (p.2 : Nat), p.1])) := by
  rw [← List.map_map]; exact enumW_map
@[simp] theorem x_gTupL {l : List FG} {xs : List D} {s : Sd} {G : Gd} : gTupL l (.d (.tup xs)) s G = if xs.length = l.length then gs l xs s G else .bad := rfl
@[simp] theorem x_gTupLl {l : List FG} {xs : List D} {s : Sd} {G : Gd} : gTupL l (.d (.lst xs)) s G = if xs.length = l.length then gs l xs s G else .bad := rfl
@[simp] theorem x_eLR3 {m : Bool} {a : FA} {s : Sd} {G : Gd} : eLR3 m a s G = (a s G).bind fun p => match p.1 with
  | [.d (.int i), .d (.int j), .d (.int k)] => gate (0 < k ∧ k < 1073741824 ∧ -(2 ^ 60) ≤ i ∧ i < 2 ^ 60 ∧ -(2 ^ 60) ≤ j ∧ j < 2 ^ 60 ∧ upN i j k ≤ 2 ^ 24) (newL m (stW i k (upN i j k)) p.2)
  | _ => .bad := rfl
theorem stW_eq {i k : Int} {n : Nat} : stW i k n = ((List.range n).map fun m : Nat => D.int (i + (m : Int) * k)).map W.d := by
  unfold stW; rw [List.map_map]; rfl
@[simp] theorem x_dispK1 {k f : FE} {s : Sd} {G : Gd} : eDispK [(k, f)] s G = match k s G with
  | .ok (kw, G0) => (match keyOf kw with
    | some key => (match f s G0 with
      | .ok (w, G1) => .ok (.ref G1.length, G1 ++ [.dct [(key, w)]])
      | _ => .bad)
    | none => .bad)
  | _ => .bad := by
  unfold eDispK prsK
  cases k s G with
  | bad => rfl
  | exc x s G => rfl
  | ok p =>
    obtain ⟨kw, G0⟩ := p
    dsimp only
    cases keyOf kw with
    | none => rfl
    | some key =>
      dsimp only
      cases f s G0 with
      | bad => rfl
      | exc x s G => rfl
      | ok q =>
        obtain ⟨w, G1⟩ := q
        simp [prsK, mergeW, putW]
@[simp] theorem app_at {α : Type} {G l : List α} {k : Nat} : (G ++ l)[G.length + k]? = l[k]? := by
  rw [List.getElem?_append_right (by omega), Nat.add_sub_cancel_left]
@[simp] theorem app_at0 {α : Type} {G l : List α} : (G ++ l)[G.length]? = l[0]? := by
  rw [List.getElem?_append_right (by omega), Nat.sub_self]
@[simp] theorem app_set {α : Type} {G l : List α} {k : Nat} {o : α} : (G ++ l).set (G.length + k) o = G ++ l.set k o := by
  rw [List.set_append_right _ _ (by omega), Nat.add_sub_cancel_left]
@[simp] theorem app_set0 {α : Type} {G l : List α} {o : α} : (G ++ l).set G.length o = G ++ l.set 0 o := by
  rw [List.set_append_right _ _ (by omega), Nat.sub_self]
/-! in -/
@[simp] theorem w_inT {n : Bool} {x : D} {ds : List D} {G : Gd} : wIn n (.d x) (.d (.tup ds)) G = if flatD x = true ∧ ds.all flatD = true then .ok (.d (.bl (if n = true then !inD x ds else inD x ds)), G) else .bad := by
  cases x <;> simp [wIn, asSeq]
@[simp] theorem w_inL {n : Bool} {x : D} {ds : List D} {G : Gd} : wIn n (.d x) (.d (.lst ds)) G = if flatD x = true ∧ ds.all flatD = true then .ok (.d (.bl (if n = true then !inD x ds else inD x ds)), G) else .bad := by
  cases x <;> simp [wIn, asSeq]
@[simp] theorem inD_nil {x : D} : inD x [] = false := rfl
@[simp] theorem inD_cons {x y : D} {ds : List D} : inD x (y :: ds) = (eqF y x || inD x ds) := rfl
@[simp] theorem flat_str {x : Str} : flatD (.str x) = true := rfl
@[simp] theorem flat_int {x : Int} : flatD (.int x) = true := rfl
@[simp] theorem flat_bl {x : Bool} : flatD (.bl x) = true := rfl
@[simp] theorem flat_non : flatD .non = true := rfl
@[simp] theorem eqF_str {x y : Str} : eqF (.str x) (.str y) = decide (x = y) := by simp [eqF, BEq.beq]
@[simp] theorem eqF_int {x y : Int} : eqF (.int x) (.int y) = decide (x = y) := rfl
/-! places -/
theorem cut_to1 {β : Type} {xs : List β} {n : Nat} : cutG xs none (some ((n : Int) + 1)) = xs.take (n + 1) := by
  rw [show (n : Int) + 1 = ((n + 1 : Nat) : Int) by omega]; exact cut_to
@[simp] theorem atI_8 {β : Type} {xs : List β} : atI xs 8 = xs[8]? := atI_ofNat (j := 8)
@[simp] theorem atI_9 {β : Type} {xs : List β} : atI xs 9 = xs[9]? := atI_ofNat (j := 9)
@[simp] theorem atI_10 {β : Type} {xs : List β} : atI xs 10 = xs[10]? := atI_ofNat (j := 10)
@[simp] theorem atI_11 {β : Type} {xs : List β} : atI xs 11 = xs[11]? := atI_ofNat (j := 11)
@[simp] theorem atI_12 {β : Type} {xs : List β} : atI xs 12 = xs[12]? := atI_ofNat (j := 12)
@[simp] theorem atI_13 {β : Type} {xs : List β} : atI xs 13 = xs[13]? := atI_ofNat (j := 13)
@[simp] theorem atI_14 {β : Type} {xs : List β} : atI xs 14 = xs[14]? := atI_ofNat (j := 14)
@[simp] theorem atI_15 {β : Type} {xs : List β} : atI xs 15 = xs[15]? := atI_ofNat (j := 15)
@[simp] theorem atI_16 {β : Type} {xs : List β} : atI xs 16 = xs[16]? := atI_ofNat (j := 16)
@[simp] theorem atI_17 {β : Type} {xs : List β} : atI xs 17 = xs[17]? := atI_ofNat (j := 17)
@[simp] theorem atI_18 {β : Type} {xs : List β} : atI xs 18 = xs[18]? := atI_ofNat (j := 18)
@[simp] theorem atI_19 {β : Type} {xs : List β} : atI xs 19 = xs[19]? := atI_ofNat (j := 19)
@[simp] theorem atI_20 {β : Type} {xs : List β} : atI xs 20 = xs[20]? := atI_ofNat (j := 20)
@[simp] theorem atI_21 {β : Type} {xs : List β} : atI xs 21 = xs[21]? := atI_ofNat (j := 21)
@[simp] theorem atI_22 {β : Type} {xs : List β} : atI xs 22 = xs[22]? := atI_ofNat (j := 22)
@[simp] theorem atI_23 {β : Type} {xs : List β} : atI xs 23 = xs[23]? := atI_ofNat (j := 23)
@[simp] theorem cut_t0 {β : Type} {xs : List β} : cutG xs none (some 0) = xs.take 0 := cut_to (n := 0)
@[simp] theorem cut_f0 {β : Type} {xs : List β} : cutG xs (some 0) none = xs.drop 0 := cut_from (n := 0)
@[simp] theorem cut_t1 {β : Type} {xs : List β} : cutG xs none (some 1) = xs.take 1 := cut_to (n := 1)
@[simp] theorem cut_f1 {β : Type} {xs : List β} : cutG xs (some 1) none = xs.drop 1 := cut_from (n := 1)
@[simp] theorem cut_t2 {β : Type} {xs : List β} : cutG xs none (some 2) = xs.take 2 := cut_to (n := 2)
@[simp] theorem cut_f2 {β : Type} {xs : List β} : cutG xs (some 2) none = xs.drop 2 := cut_from (n := 2)
@[simp] theorem cut_t3 {β : Type} {xs : List β} : cutG xs none (some 3) = xs.take 3 := cut_to (n := 3)
@[simp] theorem cut_f3 {β : Type} {xs : List β} : cutG xs (some 3) none = xs.drop 3 := cut_from (n := 3)
@[simp] theorem cut_t4 {β : Type} {xs : List β} : cutG xs none (some 4) = xs.take 4 := cut_to (n := 4)
@[simp] theorem cut_f4 {β : Type} {xs : List β} : cutG xs (some 4) none = xs.drop 4 := cut_from (n := 4)
@[simp] theorem cut_t5 {β : Type} {xs : List β} : cutG xs none (some 5) = xs.take 5 := cut_to (n := 5)
@[simp] theorem cut_f5 {β : Type} {xs : List β} : cutG xs (some 5) none = xs.drop 5 := cut_from (n := 5)
@[simp] theorem cut_m1 {β : Type} {xs : List β} : cutG xs none (some (-1)) = xs.take (xs.length - 1) := by
  unfold cutG
  rw [HT.sIx_none]
  have : HT.sIx xs.length xs.length (some (-1)) = xs.length - 1 := by
    show (if (-1 : Int) < 0 then (-1 + (xs.length : Int)).toNat else min (-1 : Int).toNat xs.length) = _
    rw [if_pos (by decide)]; omega
  rw [this]; simp
/-! words -/
@[simp] theorem ne_put_add : (Str.ofString "put" = Str.ofString "add") = False := eq_false (by decide +kernel)
@[simp] theorem ne_put_sub : (Str.ofString "put" = Str.ofString "sub") = False := eq_false (by decide +kernel)
@[simp] theorem ne_put_more : (Str.ofString "put" = Str.ofString "more") = False := eq_false (by decide +kernel)
@[simp] theorem ne_put_get : (Str.ofString "put" = Str.ofString "get") = False := eq_false (by decide +kernel)
@[simp] theorem ne_put_set : (Str.ofString "put" = Str.ofString "set") = False := eq_false (by decide +kernel)
@[simp] theorem ne_put_jump : (Str.ofString "put" = Str.ofString "jump") = False := eq_false (by decide +kernel)
@[simp] theorem ne_put_when : (Str.ofString "put" = Str.ofString "when") = False := eq_false (by decide +kernel)
@[simp] theorem ne_put_tell : (Str.ofString "put" = Str.ofString "tell") = False := eq_false (by decide +kernel)
@[simp] theorem ne_put_halt : (Str.ofString "put" = Str.ofString "halt") = False := eq_false (by decide +kernel)
@[simp] theorem ne_add_put : (Str.ofString "add" = Str.ofString "put") = False := eq_false (by decide +kernel)
@[simp] theorem ne_add_sub : (Str.ofString "add" = Str.ofString "sub") = False := eq_false (by decide +kernel)
@[simp] theorem ne_add_more : (Str.ofString "add" = Str.ofString "more") = False := eq_false (by decide +kernel)
@[simp] theorem ne_add_get : (Str.ofString "add" = Str.ofString "get") = False := eq_false (by decide +kernel)
@[simp] theorem ne_add_set : (Str.ofString "add" = Str.ofString "set") = False := eq_false (by decide +kernel)
@[simp] theorem ne_add_jump : (Str.ofString "add" = Str.ofString "jump") = False := eq_false (by decide +kernel)
@[simp] theorem ne_add_when : (Str.ofString "add" = Str.ofString "when") = False := eq_false (by decide +kernel)
@[simp] theorem ne_add_tell : (Str.ofString "add" = Str.ofString "tell") = False := eq_false (by decide +kernel)
@[simp] theorem ne_add_halt : (Str.ofString "add" = Str.ofString "halt") = False := eq_false (by decide +kernel)
@[simp] theorem ne_sub_put : (Str.ofString "sub" = Str.ofString "put") = False := eq_false (by decide +kernel)
@[simp] theorem ne_sub_add : (Str.ofString "sub" = Str.ofString "add") = False := eq_false (by decide +kernel)
@[simp] theorem ne_sub_more : (Str.ofString "sub" = Str.ofString "more") = False := eq_false (by decide +kernel)
@[simp] theorem ne_sub_get : (Str.ofString "sub" = Str.ofString "get") = False := eq_false (by decide +kernel)
@[simp] theorem ne_sub_set : (Str.ofString "sub" = Str.ofString "set") = False := eq_false (by decide +kernel)
@[simp] theorem ne_sub_jump : (Str.ofString "sub" = Str.ofString "jump") = False := eq_false (by decide +kernel)
@[simp] theorem ne_sub_when : (Str.ofString "sub" = Str.ofString "when") = False := eq_false (by decide +kernel)
@[simp] theorem ne_sub_tell : (Str.ofString "sub" = Str.ofString "tell") = False := eq_false (by decide +kernel)
@[simp] theorem ne_sub_halt : (Str.ofString "sub" = Str.ofString "halt") = False := eq_false (by decide +kernel)
@[simp] theorem ne_more_put : (Str.ofString "more" = Str.ofString "put") = False := eq_false (by decide +kernel)
@[simp] theorem ne_more_add : (Str.ofString "more" = Str.ofString "add") = False := eq_false (by decide +kernel)
@[simp] theorem ne_more_sub : (Str.ofString "more" = Str.ofString "sub") = False := eq_false (by decide +kernel)
@[simp] theorem ne_more_get : (Str.ofString "more" = Str.ofString "get") = False := eq_false (by decide +kernel)
@[simp] theorem ne_more_set : (Str.ofString "more" = Str.ofString "set") = False := eq_false (by decide +kernel)
@[simp] theorem ne_more_jump : (Str.ofString "more" = Str.ofString "jump") = False := eq_false (by decide +kernel)
@[simp] theorem ne_more_when : (Str.ofString "more" = Str.ofString "when") = False := eq_false (by decide +kernel)
@[simp] theorem ne_more_tell : (Str.ofString "more" = Str.ofString "tell") = False := eq_false (by decide +kernel)
@[simp] theorem ne_more_halt : (Str.ofString "more" = Str.ofString "halt") = False := eq_false (by decide +kernel)
@[simp] theorem ne_get_put : (Str.ofString "get" = Str.ofString "put") = False := eq_false (by decide +kernel)
@[simp] theorem ne_get_add : (Str.ofString "get" = Str.ofString "add") = False := eq_false (by decide +kernel)
@[simp] theorem ne_get_sub : (Str.ofString "get" = Str.ofString "sub") = False := eq_false (by decide +kernel)
@[simp] theorem ne_get_more : (Str.ofString "get" = Str.ofString "more") = False := eq_false (by decide +kernel)
@[simp] theorem ne_get_set : (Str.ofString "get" = Str.ofString "set") = False := eq_false (by decide +kernel)
@[simp] theorem ne_get_jump : (Str.ofString "get" = Str.ofString "jump") = False := eq_false (by decide +kernel)
@[simp] theorem ne_get_when : (Str.ofString "get" = Str.ofString "when") = False := eq_false (by decide +kernel)
@[simp] theorem ne_get_tell : (Str.ofString "get" = Str.ofString "tell") = False := eq_false (by decide +kernel)
@[simp] theorem ne_get_halt : (Str.ofString "get" = Str.ofString "halt") = False := eq_false (by decide +kernel)
@[simp] theorem ne_set_put : (Str.ofString "set" = Str.ofString "put") = False := eq_false (by decide +kernel)
@[simp] theorem ne_set_add : (Str.ofString "set" = Str.ofString "add") = False := eq_false (by decide +kernel)
@[simp] theorem ne_set_sub : (Str.ofString "set" = Str.ofString "sub") = False := eq_false (by decide +kernel)
@[simp] theorem ne_set_more : (Str.ofString "set" = Str.ofString "more") = False := eq_false (by decide +kernel)
@[simp] theorem ne_set_get : (Str.ofString "set" = Str.ofString "get") = False := eq_false (by decide +kernel)
@[simp] theorem ne_set_jump : (Str.ofString "set" = Str.ofString "jump") = False := eq_false (by decide +kernel)
@[simp] theorem ne_set_when : (Str.ofString "set" = Str.ofString "when") = False := eq_false (by decide +kernel)
@[simp] theorem ne_set_tell : (Str.ofString "set" = Str.ofString "tell") = False := eq_false (by decide +kernel)
@[simp] theorem ne_set_halt : (Str.ofString "set" = Str.ofString "halt") = False := eq_false (by decide +kernel)
@[simp] theorem ne_jump_put : (Str.ofString "jump" = Str.ofString "put") = False := eq_false (by decide +kernel)
@[simp] theorem ne_jump_add : (Str.ofString "jump" = Str.ofString "add") = False := eq_false (by decide +kernel)
@[simp] theorem ne_jump_sub : (Str.ofString "jump" = Str.ofString "sub") = False := eq_false (by decide +kernel)
@[simp] theorem ne_jump_more : (Str.ofString "jump" = Str.ofString "more") = False := eq_false (by decide +kernel)
@[simp] theorem ne_jump_get : (Str.ofString "jump" = Str.ofString "get") = False := eq_false (by decide +kernel)
@[simp] theorem ne_jump_set : (Str.ofString "jump" = Str.ofString "set") = False := eq_false (by decide +kernel)
@[simp] theorem ne_jump_when : (Str.ofString "jump" = Str.ofString "when") = False := eq_false (by decide +kernel)
@[simp] theorem ne_jump_tell : (Str.ofString "jump" = Str.ofString "tell") = False := eq_false (by decide +kernel)
@[simp] theorem ne_jump_halt : (Str.ofString "jump" = Str.ofString "halt") = False := eq_false (by decide +kernel)
@[simp] theorem ne_when_put : (Str.ofString "when" = Str.ofString "put") = False := eq_false (by decide +kernel)
@[simp] theorem ne_when_add : (Str.ofString "when" = Str.ofString "add") = False := eq_false (by decide +kernel)
@[simp] theorem ne_when_sub : (Str.ofString "when" = Str.ofString "sub") = False := eq_false (by decide +kernel)
@[simp] theorem ne_when_more : (Str.ofString "when" = Str.ofString "more") = False := eq_false (by decide +kernel)
@[simp] theorem ne_when_get : (Str.ofString "when" = Str.ofString "get") = False := eq_false (by decide +kernel)
@[simp] theorem ne_when_set : (Str.ofString "when" = Str.ofString "set") = False := eq_false (by decide +kernel)
@[simp] theorem ne_when_jump : (Str.ofString "when" = Str.ofString "jump") = False := eq_false (by decide +kernel)
@[simp] theorem ne_when_tell : (Str.ofString "when" = Str.ofString "tell") = False := eq_false (by decide +kernel)
@[simp] theorem ne_when_halt : (Str.ofString "when" = Str.ofString "halt") = False := eq_false (by decide +kernel)
@[simp] theorem ne_tell_put : (Str.ofString "tell" = Str.ofString "put") = False := eq_false (by decide +kernel)
@[simp] theorem ne_tell_add : (Str.ofString "tell" = Str.ofString "add") = False := eq_false (by decide +kernel)
@[simp] theorem ne_tell_sub : (Str.ofString "tell" = Str.ofString "sub") = False := eq_false (by decide +kernel)
@[simp] theorem ne_tell_more : (Str.ofString "tell" = Str.ofString "more") = False := eq_false (by decide +kernel)
@[simp] theorem ne_tell_get : (Str.ofString "tell" = Str.ofString "get") = False := eq_false (by decide +kernel)
@[simp] theorem ne_tell_set : (Str.ofString "tell" = Str.ofString "set") = False := eq_false (by decide +kernel)
@[simp] theorem ne_tell_jump : (Str.ofString "tell" = Str.ofString "jump") = False := eq_false (by decide +kernel)
@[simp] theorem ne_tell_when : (Str.ofString "tell" = Str.ofString "when") = False := eq_false (by decide +kernel)
@[simp] theorem ne_tell_halt : (Str.ofString "tell" = Str.ofString "halt") = False := eq_false (by decide +kernel)
@[simp] theorem ne_halt_put : (Str.ofString "halt" = Str.ofString "put") = False := eq_false (by decide +kernel)
@[simp] theorem ne_halt_add : (Str.ofString "halt" = Str.ofString "add") = False := eq_false (by decide +kernel)
@[simp] theorem ne_halt_sub : (Str.ofString "halt" = Str.ofString "sub") = False := eq_false (by decide +kernel)
@[simp] theorem ne_halt_more : (Str.ofString "halt" = Str.ofString "more") = False := eq_false (by decide +kernel)
@[simp] theorem ne_halt_get : (Str.ofString "halt" = Str.ofString "get") = False := eq_false (by decide +kernel)
@[simp] theorem ne_halt_set : (Str.ofString "halt" = Str.ofString "set") = False := eq_false (by decide +kernel)
@[simp] theorem ne_halt_jump : (Str.ofString "halt" = Str.ofString "jump") = False := eq_false (by decide +kernel)
@[simp] theorem ne_halt_when : (Str.ofString "halt" = Str.ofString "when") = False := eq_false (by decide +kernel)
@[simp] theorem ne_halt_tell : (Str.ofString "halt" = Str.ofString "tell") = False := eq_false (by decide +kernel)
/-! ### rows, rolls, states -/
inductive Deed where
  | put (a : Nat) (n : Int) | add (a b c : Nat) | sub (a b c : Nat) | more (a b c : Nat) | get (a b : Nat) | set (a b : Nat) | jump (k : Nat) | whn (a k : Nat) | tell (a : Nat) | halt
deriving DecidableEq
def Deed.ok (m : Nat) : Deed → Prop
  | .put a _ => a < 8
  | .add a b c => a < 8 ∧ b < 8 ∧ c < 8
  | .sub a b c => a < 8 ∧ b < 8 ∧ c < 8
  | .more a b c => a < 8 ∧ b < 8 ∧ c < 8
  | .get a b => a < 8 ∧ b < 8
  | .set a b => a < 8 ∧ b < 8
  | .jump k => k < m
  | .whn a k => a < 8 ∧ k < m
  | .tell a => a < 8
  | .halt => True
def encR : Deed → D
  | .put a n => .tup [.str "put", .int a, .int n]
  | .add a b c => .tup [.str "add", .int a, .int b, .int c]
  | .sub a b c => .tup [.str "sub", .int a, .int b, .int c]
  | .more a b c => .tup [.str "more", .int a, .int b, .int c]
  | .get a b => .tup [.str "get", .int a, .int b]
  | .set a b => .tup [.str "set", .int a, .int b]
  | .jump k => .tup [.str "jump", .int k]
  | .whn a k => .tup [.str "when", .int a, .int k]
  | .tell a => .tup [.str "tell", .int a]
  | .halt => .tup [.str "halt"]
/-- may stand last -/
def Deed.last : Deed → Prop
  | .halt => True
  | .jump _ => True
  | _ => False
structure Good (rs : List Deed) : Prop where
  ok : ∀ r ∈ rs, r.ok rs.length
  ne : 0 < rs.length
  last : ∀ r, rs[rs.length - 1]? = some r → r.last
def encRoll (rs : List Deed) : D := .tup (rs.map encR)
/-- eight numbers -/
def bx (b : List Int) (i : Nat) : Int := b.getD i 0
def encB (b : List Int) : D := .tup (b.map D.int)
def Deed.to (r : Deed) (p : Nat) (b : List Int) : Nat := match r with
  | .jump k => k
  | .whn a k => if 0 < bx b a then k else p + 1
  | _ => p + 1
def Deed.bxs (r : Deed) (b : List Int) (held : Int) : List Int := match r with
  | .put a n => b.set a n
  | .add a x y => b.set a (bx b x + bx b y)
  | .sub a x y => b.set a (bx b x - bx b y)
  | .more a x y => b.set a (if bx b y < bx b x then 1 else 0)
  | .get a x => b.set a held
  | _ => b
theorem Deed.bxs_len {r : Deed} {b : List Int} {h : Int} : (r.bxs b h).length = b.length := by cases r <;> simp [Deed.bxs]
theorem Good.at_ {rs : List Deed} (g : Good rs) {p : Nat} (h : p < rs.length) : ∃ r, rs[p]? = some r ∧ r.ok rs.length :=
  ⟨rs[p], List.getElem?_eq_getElem h, g.ok _ (List.getElem_mem h)⟩
/-- where a good roll goes there is a row -/
theorem Good.to_lt {rs : List Deed} (g : Good rs) {p : Nat} {r : Deed} {b : List Int} (h : rs[p]? = some r) (hh : r ≠ .halt) : r.to p b < rs.length := by
  have hp : p < rs.length := (List.getElem?_eq_some_iff.mp h).1
  have ok := g.ok r (List.mem_of_getElem? h)
  have step : ¬ r.last → p + 1 < rs.length := fun nl => by
    rcases Nat.lt_or_ge (p + 1) rs.length with z | z
    · exact z
    · exact absurd (g.last r (by rw [show rs.length - 1 = p by omega]; exact h)) nl
  cases r with
  | halt => exact absurd rfl hh
  | jump k => exact ok
  | whn a k =>
    show (if 0 < bx b a then k else p + 1) < _
    split
    · exact ok.2
    · exact step id
  | _ => exact step id
/-! cells -/
abbrev Cells := List (Int × Int)
def look (c : Cells) (n : Int) : Int := ((c.find? fun p => decide (p.1 = n)).map (·.2)).getD 0
/-- as a dict does -/
def putC (c : Cells) (n v : Int) : Cells := if (c.any fun p => decide (p.1 = n)) = true then c.map (fun p => if p.1 = n then (p.1, v) else p) else c ++ [(n, v)]
def leP (p q : Int × Int) : Bool := decide (p.1 < q.1 ∨ p.1 = q.1 ∧ p.2 ≤ q.2)
def sortC (c : Cells) : Cells := c.mergeSort leP
/-- what a dict's cells show -/
def shownC (c : Cells) : Cells := sortC (c.filter fun p => decide (p.2 ≠ 0))
/-- as a tuple of cells does -/
def withC (c : Cells) (n v : Int) : Cells := sortC (c.filter (fun p => decide (p.1 ≠ n)) ++ if v = 0 then [] else [(n, v)])
def encP (p : Int × Int) : D := .tup [.int p.1, .int p.2]
def encC (c : Cells) : D := .tup (c.map encP)
structure Stt where
  place : Nat
  boxes : List Int
  cells : Cells
deriving DecidableEq
def encS (s : Stt) : D := .tup [.int s.place, encB s.boxes, encC s.cells]
/-- the state behind, of a row that is no halt -/
def nextR (r : Deed) (s : Stt) : Stt := ⟨r.to s.place s.boxes, r.bxs s.boxes (match r with | .get _ b => look s.cells (bx s.boxes b) | _ => 0), match r with | .set a b => withC s.cells (bx s.boxes a) (bx s.boxes b) | _ => s.cells⟩
def rowAt (rs : List Deed) (p : Nat) : Deed := rs.getD p .halt
def nextS (rs : List Deed) (s : Stt) : Option Stt := match rowAt rs s.place with
  | .halt => none
  | r => some (nextR r s)
structure Stt.ok (m : Nat) (s : Stt) : Prop where
  p : s.place < m
  b : s.boxes.length = 8
/-- states of a dict's machine: place, boxes, dict -/
structure DSt where
  place : Nat
  boxes : List Int
  cells : Cells
def DSt.show (s : DSt) : Stt := ⟨s.place, s.boxes, shownC s.cells⟩
def goR (r : Deed) (s : DSt) : DSt := ⟨r.to s.place s.boxes, r.bxs s.boxes (match r with | .get _ b => look s.cells (bx s.boxes b) | _ => 0), match r with | .set a b => putC s.cells (bx s.boxes a) (bx s.boxes b) | _ => s.cells⟩
/-- the states behind a state, at most so many -/
def goes (rs : List Deed) : Nat → DSt → List DSt
  | 0, _ => []
  | n + 1, s => match rowAt rs s.place with
    | .halt => []
    | r => goR r s :: goes rs n (goR r s)
def runs (rs : List Deed) : Nat → Stt → List Stt
  | 0, _ => []
  | n + 1, s => match nextS rs s with
    | none => []
    | some t => t :: runs rs n t
/-! sorting -/
theorem leP_trans (a b c : Int × Int) (h : leP a b = true) (h2 : leP b c = true) : leP a c = true := by
  unfold leP at *
  simp only [decide_eq_true_eq] at *
  omega
theorem leP_total (a b : Int × Int) : (leP a b || leP b a) = true := by
  unfold leP
  simp only [Bool.or_eq_true, decide_eq_true_eq]
  omega
theorem leP_anti {a b : Int × Int} (h : leP a b = true) (h2 : leP b a = true) : a = b := by
  unfold leP at *
  simp only [decide_eq_true_eq] at *
  ext <;> omega
theorem sortC_perm (c : Cells) : (sortC c).Perm c := List.mergeSort_perm c leP
theorem sortC_sorted (c : Cells) : (sortC c).Pairwise (fun a b => leP a b = true) := List.pairwise_mergeSort leP_trans leP_total c
/-- two sorted lists of the same things are one -/
theorem sorted_unique : ∀ {a b : Cells}, a.Pairwise (fun x y => leP x y = true) → b.Pairwise (fun x y => leP x y = true) → a.Perm b → a = b := fun ha hb p => List.Perm.eq_of_pairwise (fun x y _ _ h h2 => leP_anti h h2) ha hb p
theorem sortC_congr {a b : Cells} (p : a.Perm b) : sortC a = sortC b := sorted_unique (sortC_sorted a) (sortC_sorted b) ((sortC_perm a).trans (p.trans (sortC_perm b).symm))
/-! dicts and shownC cells -/
def KeysOk (c : Cells) : Prop := (c.map (·.1)).Nodup
theorem look_mem {c : Cells} (hk : KeysOk c) {n v : Int} (h : (n, v) ∈ c) : look c n = v := by
  induction c with
  | nil => cases h
  | cons p c ih =>
    have hk' : p.1 ∉ c.map (·.1) ∧ KeysOk c := by simpa [KeysOk, List.nodup_cons] using hk
    unfold look
    rcases List.mem_cons.mp h with h | h
    · subst h; simp
    · have : p.1 ≠ n := fun e => hk'.1 (by rw [e]; exact List.mem_map.mpr ⟨_, h, rfl⟩)
      rw [List.find?_cons_of_neg (by simpa using this)]
      exact ih hk'.2 h
theorem look_no {c : Cells} {n : Int} (h : n ∉ c.map (·.1)) : look c n = 0 := by
  unfold look
  rw [List.find?_eq_none.mpr fun p hp => by
    simp only [decide_eq_true_eq]
    exact fun e => h (List.mem_map.mpr ⟨p, hp, e⟩)]
  rfl
theorem KeysOk.perm {a b : Cells} (p : a.Perm b) (h : KeysOk a) : KeysOk b := (p.map _).nodup_iff.mp h
theorem KeysOk.filter {a : Cells} {f : Int × Int → Bool} (h : KeysOk a) : KeysOk (a.filter f) := List.Nodup.sublist (List.filter_sublist.map _) h
theorem KeysOk.shownC {c : Cells} (h : KeysOk c) : KeysOk (shownC c) := h.filter.perm (sortC_perm _).symm
theorem look_shown {c : Cells} (h : KeysOk c) (n : Int) : look (shownC c) n = look c n := by
  by_cases hn : n ∈ c.map (·.1)
  · obtain ⟨⟨m, v⟩, hp, rfl⟩ := List.mem_map.mp hn
    rw [look_mem h hp]
    by_cases hv : v = 0
    · subst hv
      apply look_no
      intro hm
      obtain ⟨⟨m', v'⟩, hp', e⟩ := List.mem_map.mp hm
      have e' : m' = m := e
      subst e'
      have hp2 := (sortC_perm _).mem_iff.mp hp'
      rw [List.mem_filter] at hp2
      have h0 := look_mem h hp
      have h1 := look_mem h hp2.1
      rw [h0] at h1
      simp [← h1] at hp2
    · exact look_mem h.shownC ((sortC_perm _).mem_iff.mpr (List.mem_filter.mpr ⟨hp, by simpa using hv⟩))
  · rw [look_no hn]
    apply look_no
    intro hm
    obtain ⟨⟨m', v'⟩, hp', e⟩ := List.mem_map.mp hm
    have hp2 := (sortC_perm _).mem_iff.mp hp'
    rw [List.mem_filter] at hp2
    exact hn (List.mem_map.mpr ⟨_, hp2.1, e⟩)
theorem putC_keys {c : Cells} {n v : Int} (h : KeysOk c) : KeysOk (putC c n v) := by
  unfold putC
  split
  · unfold KeysOk
    rw [List.map_map]
    have : ((fun x : Int × Int => x.1) ∘ fun p : Int × Int => if p.1 = n then (p.1, v) else p) = fun p => p.1 := by
      funext p; simp only [Function.comp]; split <;> rfl
    rw [this]; exact h
  · rename_i hn
    unfold KeysOk
    rw [List.map_append, List.nodup_append]
    refine ⟨h, by simp, fun a ha b hb => ?_⟩
    simp at hb
    subst hb
    intro e
    subst e
    obtain ⟨p, hp, e⟩ := List.mem_map.mp ha
    exact hn (List.any_eq_true.mpr ⟨p, hp, by simpa using e⟩)
theorem put_perm {c : Cells} {n v : Int} (h : KeysOk c) : (putC c n v).Perm (c.filter (fun p => decide (p.1 ≠ n)) ++ [(n, v)]) := by
  unfold putC
  split
  · rename_i hn0
    have key : ∀ c : Cells, KeysOk c → n ∈ c.map (·.1) → (c.map (fun p => if p.1 = n then (p.1, v) else p)).Perm (c.filter (fun p => decide (p.1 ≠ n)) ++ [(n, v)]) := by
      intro c
      induction c with
      | nil => intro _ h; cases h
      | cons p c ih =>
        intro hk hm
        have hk' : p.1 ∉ c.map (·.1) ∧ KeysOk c := by simpa [KeysOk, List.nodup_cons] using hk
        by_cases hp : p.1 = n
        · have h1 : c.map (fun p => if p.1 = n then (p.1, v) else p) = c := by
            conv => rhs; rw [← List.map_id c]
            apply List.map_congr_left
            intro q hq
            have : q.1 ≠ n := fun e => hk'.1 (by rw [hp, ← e]; exact List.mem_map.mpr ⟨q, hq, rfl⟩)
            rw [if_neg this]; rfl
          have h2 : c.filter (fun p => decide (p.1 ≠ n)) = c := by
            rw [List.filter_eq_self]
            intro q hq
            have : q.1 ≠ n := fun e => hk'.1 (by rw [hp, ← e]; exact List.mem_map.mpr ⟨q, hq, rfl⟩)
            simpa using this
          rw [List.map_cons, h1, if_pos hp, List.filter_cons_of_neg (by simpa using hp), h2, hp]
          exact (List.perm_append_comm (l₁ := [(n, v)]))
        · have hm' : n ∈ c.map (·.1) := by
            rcases List.mem_cons.mp hm with h | h
            · exact absurd h.symm hp
            · exact h
          rw [List.map_cons, if_neg hp, List.filter_cons_of_pos (by simpa using hp)]
          exact (ih hk'.2 hm').cons _
    refine key c h ?_
    obtain ⟨p, hp, e⟩ := List.any_eq_true.mp hn0
    exact List.mem_map.mpr ⟨p, hp, by simpa using e⟩
  · rename_i hn
    have : c.filter (fun p => decide (p.1 ≠ n)) = c := by
      rw [List.filter_eq_self]
      intro q hq
      simp only [ne_eq, decide_not, Bool.not_eq_true', decide_eq_false_iff_not]
      exact fun e => hn (List.any_eq_true.mpr ⟨q, hq, by simpa using e⟩)
    rw [this]
theorem shown_put {c : Cells} {n v : Int} (h : KeysOk c) : shownC (putC c n v) = withC (shownC c) n v := by
  unfold shownC withC
  apply sortC_congr
  have h1 := (put_perm (v := v) (n := n) h).filter (fun p => decide (p.2 ≠ 0))
  refine h1.trans ?_
  rw [List.filter_append]
  refine List.Perm.append ?_ ?_
  · rw [List.filter_filter]
    have h2 := ((sortC_perm (c.filter fun p => decide (p.2 ≠ 0))).filter (fun p => decide (p.1 ≠ n))).symm
    rw [List.filter_filter] at h2
    have : (fun a : Int × Int => decide (a.2 ≠ 0) && decide (a.1 ≠ n)) = fun a => decide (a.1 ≠ n) && decide (a.2 ≠ 0) := by
      funext a; exact Bool.and_comm _ _
    rw [this]
    exact h2
  · by_cases hv : v = 0
    · simp [hv]
    · simp [hv]
theorem goR_keys {r : Deed} {s : DSt} (h : KeysOk s.cells) : KeysOk (goR r s).cells := by
  cases r <;> first | exact h | exact putC_keys h
theorem goR_show {r : Deed} {s : DSt} (h : KeysOk s.cells) : (goR r s).show = nextR r s.show := by
  cases r with
  | get a b => simp [goR, nextR, DSt.show, look_shown h]
  | set a b => simp [goR, nextR, DSt.show, shown_put h]
  | _ => simp [goR, nextR, DSt.show]
theorem goes_show {rs : List Deed} : ∀ {n : Nat} {s : DSt}, KeysOk s.cells → (goes rs n s).map DSt.show = runs rs n s.show
  | 0, _, _ => rfl
  | n + 1, s, h => by
    unfold goes runs nextS
    have hp : s.show.place = s.place := rfl
    rw [hp]
    cases e : rowAt rs s.place with
    | halt => rfl
    | _ => simp only [List.map_cons]; rw [goR_show h, goes_show (goR_keys h), goR_show h]
/-! encodings are plain data -/
@[simp] theorem lay_put : layD (.str "put") = true := by decide +kernel
@[simp] theorem lay_add : layD (.str "add") = true := by decide +kernel
@[simp] theorem lay_sub : layD (.str "sub") = true := by decide +kernel
@[simp] theorem lay_more : layD (.str "more") = true := by decide +kernel
@[simp] theorem lay_get : layD (.str "get") = true := by decide +kernel
@[simp] theorem lay_set : layD (.str "set") = true := by decide +kernel
@[simp] theorem lay_jump : layD (.str "jump") = true := by decide +kernel
@[simp] theorem lay_when : layD (.str "when") = true := by decide +kernel
@[simp] theorem lay_tell : layD (.str "tell") = true := by decide +kernel
@[simp] theorem lay_halt : layD (.str "halt") = true := by decide +kernel
theorem pl_R {n : Nat} (r : Deed) : plB (n + 1) (encR r) = true := by cases r <;> simp [encR]
theorem pl_Roll {n : Nat} (rs : List Deed) : plB (n + 2) (encRoll rs) = true := by
  rw [encRoll, plB_tup]; exact plBs_map fun r _ => pl_R r
theorem pl_B {n : Nat} (b : List Int) : plB (n + 1) (encB b) = true := by
  rw [encB, plB_tup]; exact plBs_map fun r _ => plB_int
theorem pl_P {n : Nat} (p : Int × Int) : plB (n + 1) (encP p) = true := by simp [encP]
theorem pl_C {n : Nat} (c : Cells) : plB (n + 2) (encC c) = true := by
  rw [encC, plB_tup]; exact plBs_map fun r _ => pl_P r
theorem pl_S {n : Nat} (s : Stt) : plB (n + 3) (encS s) = true := by
  rw [encS, plB_tup]
  simp only [plBs_cons, plB_int, plBs_nil, Bool.and_true, Bool.true_and, Bool.and_eq_true]
  exact ⟨pl_B (n := n + 1) _, pl_C (n := n) _⟩
theorem map_inj {β : Type} {f : β → D} (hf : ∀ x y, f x = f y → x = y) : ∀ {a b : List β}, a.map f = b.map f → a = b
  | [], [], _ => rfl
  | [], _ :: _, h => by simp at h
  | _ :: _, [], h => by simp at h
  | x :: a, y :: b, h => by
    simp only [List.map_cons, List.cons.injEq] at h
    rw [hf x y h.1, map_inj hf h.2]
theorem encB_inj {a b : List Int} (h : encB a = encB b) : a = b := map_inj (fun x y e => by cases e; rfl) (D.tup.inj h)
theorem encP_inj (x y : Int × Int) (h : encP x = encP y) : x = y := by
  simp only [encP, D.tup.injEq, List.cons.injEq, D.int.injEq, and_true] at h
  exact Prod.ext h.1 h.2
theorem encC_inj {a b : Cells} (h : encC a = encC b) : a = b := map_inj encP_inj (D.tup.inj h)
theorem encS_inj (x y : Stt) (h : encS x = encS y) : x = y := by
  obtain ⟨p, b, c⟩ := x
  obtain ⟨p', b', c'⟩ := y
  simp only [encS, D.tup.injEq, List.cons.injEq, D.int.injEq, and_true] at h
  obtain ⟨h1, h2, h3⟩ := h
  have := encB_inj h2
  have := encC_inj h3
  subst_vars
  congr 1
  omega
theorem encR_inj (x y : Deed) (h : encR x = encR y) : x = y := by
  cases x <;> cases y <;> simp [encR] at h <;> simp <;> omega
/-! sorted, of pairs -/
theorem toPy_P (p : Int × Int) : toPy (encP p) = .tuple [.int p.1, .int p.2] := rfl
theorem leP_data (a b : Int × Int) : leP a b = PySem.W.dataLe false toPy (encP a) (encP b) := by
  show _ = !PySem.W.dataLt _ _
  have e : PySem.W.dataLt (toPy (encP b)) (toPy (encP a)) = decide (b.1 < a.1 ∨ b.1 = a.1 ∧ b.2 < a.2) := by
    rw [toPy_P, toPy_P]
    by_cases h1 : b.1 < a.1
    · have : ¬ a.1 < b.1 := by omega
      simp [PySem.W.dataLt, PySem.W.keyToks, PySem.W.keyToksAll, PyProof.Rows.lexLt, PyProof.Rows.itemOrd, PyProof.Rows.itemLt, h1, this]
    · by_cases h2 : a.1 < b.1
      · have : ¬ b.1 = a.1 := by omega
        simp [PySem.W.dataLt, PySem.W.keyToks, PySem.W.keyToksAll, PyProof.Rows.lexLt, PyProof.Rows.itemOrd, PyProof.Rows.itemLt, h1, h2, this]
      · have h3 : b.1 = a.1 := by omega
        by_cases h4 : b.2 < a.2
        · simp [PySem.W.dataLt, PySem.W.keyToks, PySem.W.keyToksAll, PyProof.Rows.lexLt, PyProof.Rows.itemOrd, PyProof.Rows.itemLt, h3, h4]
        · by_cases h5 : a.2 < b.2
          · simp [PySem.W.dataLt, PySem.W.keyToks, PySem.W.keyToksAll, PyProof.Rows.lexLt, PyProof.Rows.itemOrd, PyProof.Rows.itemLt, h3, h4, h5]
          · simp [PySem.W.dataLt, PySem.W.keyToks, PySem.W.keyToksAll, PyProof.Rows.lexLt, PyProof.Rows.itemOrd, PyProof.Rows.itemLt, h3, h4, h5]
  rw [e]
  unfold leP
  by_cases h : b.1 < a.1 ∨ b.1 = a.1 ∧ b.2 < a.2
  · rw [decide_eq_true h, decide_eq_false (by omega)]; rfl
  · rw [decide_eq_false h, decide_eq_true (by omega)]; rfl
theorem sortD_P (c : Cells) : sortD (c.map encP) = (sortC c).map encP := by
  unfold sortD sortC
  rw [List.map_mergeSort]
  intro a _ b _
  exact leP_data a b
theorem sortOk_P {c : Cells} (h : c.length ≤ 16777216) : sortOk (c.map encP) = true := by
  unfold sortOk
  simp only [Bool.and_eq_true, Bool.or_eq_true]
  refine ⟨⟨⟨?_, .inl ?_⟩, ?_⟩, ?_⟩
  · refine List.all_eq_true.mpr fun a ha => List.all_eq_true.mpr fun b hb => ?_
    obtain ⟨p, _, rfl⟩ := List.mem_map.mp ha
    obtain ⟨q, _, rfl⟩ := List.mem_map.mp hb
    simp [toPy_P, PySem.W.alike, PySem.W.alikeAll]
  · refine List.all_eq_true.mpr fun a ha => ?_
    obtain ⟨p, _, rfl⟩ := List.mem_map.mp ha
    rfl
  · refine List.all_eq_true.mpr fun a ha => ?_
    obtain ⟨p, _, rfl⟩ := List.mem_map.mp ha
    simp [toPy_P, PyData.depth, PyData.depthAll]
  · rw [List.length_map]; exact decide_eq_true (by rw [szl]; exact h)
theorem sorted_P {c : Cells} {G : Gd} (h : c.length ≤ 16777216) : bSorted false [.d (.lst (c.map encP))] G = .ok (.d (.lst ((sortC c).map encP)), G) := by
  simp [bSorted, asSeq, sortOk_P h, sortD_P, newL]
/-! dicts of cells -/
def encDct (c : Cells) : List (Key × W) := c.map fun p => ((Sum.inl p.1 : Key), W.d (.int p.2))
theorem valW_enc (c : Cells) (n : Int) : valW (encDct c) (Sum.inl n) = (c.find? fun p => decide (p.1 = n)).map fun p => W.d (.int p.2) := by
  unfold valW encDct
  rw [List.find?_map, Option.map_map]
  have : ((fun kv : Key × W => decide (kv.1 = Sum.inl n)) ∘ fun p : Int × Int => ((Sum.inl p.1 : Key), W.d (.int p.2))) = fun p => decide (p.1 = n) := by
    funext p; simp
  rw [this]; rfl
theorem putW_enc (c : Cells) (n v : Int) : putW (encDct c) (Sum.inl n) (W.d (.int v)) = encDct (putC c n v) := by
  unfold putW putC encDct
  rw [List.any_map]
  have : ((fun kv : Key × W => decide (kv.1 = Sum.inl n)) ∘ fun p : Int × Int => ((Sum.inl p.1 : Key), W.d (.int p.2))) = fun p => decide (p.1 = n) := by
    funext p; simp
  rw [this]
  split
  · rw [List.map_map, List.map_map]
    apply List.map_congr_left
    intro p _
    by_cases h : p.1 = n <;> simp [h]
  · simp
theorem putC_len {c : Cells} {n v : Int} : (putC c n v).length ≤ c.length + 1 := by
  unfold putC; split <;> simp
@[simp] theorem encDct_len {c : Cells} : (encDct c).length = c.length := by simp [encDct]
theorem dget_enc {G : Gd} {j : Nat} {c : Cells} {n : Int} (h : dctAt G (.ref j) = some (encDct c)) : wDGet (.ref j) (.d (.int n)) (some (.d (.int 0))) G = .ok (.d (.int (look c n)), G) := by
  unfold wDGet
  rw [h]
  simp only [keyOf_int, valW_enc, look]
  cases c.find? fun p => decide (p.1 = n) <;> rfl
theorem dget_mem {G : Gd} {j : Nat} {c : Cells} {n : Int} (h : dctAt G (.ref j) = some (encDct c)) (hn : n ∈ c.map (·.1)) : wDGet (.ref j) (.d (.int n)) none G = .ok (.d (.int (look c n)), G) := by
  unfold wDGet
  rw [h]
  simp only [keyOf_int, valW_enc, look]
  cases e : c.find? fun p => decide (p.1 = n) with
  | none =>
    obtain ⟨p, hp, e'⟩ := List.mem_map.mp hn
    have := List.find?_eq_none.mp e p hp
    simp [e'] at this
  | some p => rfl
theorem dput_enc {G : Gd} {j : Nat} {c : Cells} {n v : Int} (h : G[j]? = some (.dct (encDct c))) (hl : c.length < 16777216) : wDPut (.d (.int v)) (.ref j) (.d (.int n)) G = .ok (G.set j (.dct (encDct (putC c n v)))) := by
  unfold wDPut
  simp only [keyOf_int, h, putW_enc, encDct_len, szl, if_pos hl]
theorem set_same {G : Gd} {i : Nat} {o : O} (h : G[i]? = some o) : G.set i o = G := by
  apply List.ext_getElem?
  intro k
  by_cases hk : k = i
  · subst hk
    rw [List.getElem?_set_self (List.getElem?_eq_some_iff.mp h).1, h]
  · rw [List.getElem?_set_ne (Ne.symm hk)]
/-- the cells that a comprehension over a dict's keys keeps -/
theorem kept_enc {i : Nat} {t : FT} {e : FE} {s : Sd} {G : Gd} {c : Cells} (hk : KeysOk c) (hl : c.length ≤ 16777216)
    (ht : ∀ n, n ∈ c.map (·.1) → t ((s.set i none).set i (some (.d (.int n)))) G = .ok (decide (look c n ≠ 0), G)) (he : ∀ n, n ∈ c.map (·.1) → e ((s.set i none).set i (some (.d (.int n)))) G = .ok (.d (encP (n, look c n)), G)) :
    compM i t e ((encDct c).map fun q => W.d (kD q.1)) [] s G = .ok (((c.filter fun p => decide (p.2 ≠ 0)).map encP).map W.d, G) := by
  have ek : ((encDct c).map fun q => W.d (kD q.1)) = c.map fun p => W.d (.int p.1) := by
    unfold encDct; rw [List.map_map]; rfl
  rw [ek]
  let num : W → Int := fun w => match w with | .d (.int n) => n | _ => 0
  rw [compM_eq (fun w => decide (look c (num w) ≠ 0)) (fun w => W.d (encP (num w, look c (num w))))]
  · rw [List.nil_append, List.filter_map, List.map_map, List.map_map]
    have key : ∀ p ∈ c, look c p.1 = p.2 := fun p hp => look_mem hk hp
    have e1 : c.filter ((fun w => decide (look c (num w) ≠ 0)) ∘ fun p : Int × Int => W.d (.int p.1)) = c.filter fun p => decide (p.2 ≠ 0) := by
      apply List.filter_congr
      intro p hp
      show decide (look c p.1 ≠ 0) = _
      rw [key p hp]
    rw [e1]
    congr 2
    apply List.map_congr_left
    intro p hp
    show W.d (encP (p.1, look c p.1)) = W.d (encP p)
    rw [key p (List.mem_filter.mp hp).1]
  · intro w hw
    obtain ⟨p, hp, rfl⟩ := List.mem_map.mp hw
    exact ht p.1 (List.mem_map.mpr ⟨p, hp, rfl⟩)
  · intro w hw _
    obtain ⟨p, hp, rfl⟩ := List.mem_map.mp hw
    exact he p.1 (List.mem_map.mpr ⟨p, hp, rfl⟩)
  · simpa using hl
/-! boxes -/
theorem bx_at {b : List Int} (h : b.length = 8) {a : Nat} (ha : a < 8) : atI (b.map D.int) (a : Int) = some (.int (bx b a)) := by
  rw [atI_ofNat, List.getElem?_map]
  have hl : a < b.length := by omega
  unfold bx
  rw [List.getD_eq_getElem?_getD, List.getElem?_eq_getElem hl]; rfl
theorem bx_atW {b : List Int} (h : b.length = 8) {a : Nat} (ha : a < 8) : atI (b.map fun n => W.d (.int n)) (a : Int) = some (.d (.int (bx b a))) := by
  rw [atI_ofNat, List.getElem?_map]
  have hl : a < b.length := by omega
  unfold bx
  rw [List.getD_eq_getElem?_getD, List.getElem?_eq_getElem hl]; rfl
theorem roll_at {rs : List Deed} {p : Nat} (h : p < rs.length) : atI (rs.map encR) (p : Int) = some (encR (rowAt rs p)) := by
  rw [atI_ofNat, List.getElem?_map]
  unfold rowAt
  rw [List.getD_eq_getElem?_getD, List.getElem?_eq_getElem h]; rfl
theorem Good.rowOk {rs : List Deed} (g : Good rs) (p : Nat) : (rowAt rs p).ok rs.length := by
  unfold rowAt
  rw [List.getD_eq_getElem?_getD]
  by_cases h : p < rs.length
  · rw [List.getElem?_eq_getElem h]; exact g.ok _ (List.getElem_mem h)
  · rw [List.getElem?_eq_none (by omega)]; trivial
theorem Good.toLt {rs : List Deed} (g : Good rs) {p : Nat} {b : List Int} (hp : p < rs.length) (h : rowAt rs p ≠ .halt) : (rowAt rs p).to p b < rs.length := by
  refine g.to_lt (r := rowAt rs p) ?_ h
  unfold rowAt
  rw [List.getD_eq_getElem?_getD, List.getElem?_eq_getElem hp]; rfl
theorem set_boxes {b : List Int} {a : Nat} {v : Int} : (b.map fun n => W.d (.int n)).set a (.d (.int v)) = (b.set a v).map fun n => W.d (.int n) := by
  rw [List.map_set]
/-- the word of a row -/
def Deed.word : Deed → Str
  | .put _ _ => "put" | .add _ _ _ => "add" | .sub _ _ _ => "sub" | .more _ _ _ => "more" | .get _ _ => "get" | .set _ _ => "set" | .jump _ => "jump" | .whn _ _ => "when" | .tell _ => "tell" | .halt => "halt"
theorem encR_tup (r : Deed) : ∃ ds, encR r = .tup (.str r.word :: ds) := by cases r <;> exact ⟨_, rfl⟩
/-! shapes: ints, texts, tuples and lists of them, no deeper than n, not too long -/
def Shp : Nat → D → Prop
  | _, .int _ => True
  | _, .str _ => True
  | n + 1, .tup xs => xs.length ≤ 1000000 ∧ ∀ x ∈ xs, Shp n x
  | _, _ => False
@[simp] theorem shp_int {n : Nat} {i : Int} : Shp n (.int i) := by cases n <;> trivial
@[simp] theorem shp_str {n : Nat} {i : Str} : Shp n (.str i) := by cases n <;> trivial
theorem shp_tup {n : Nat} {xs : List D} : Shp (n + 1) (.tup xs) ↔ xs.length ≤ 1000000 ∧ ∀ x ∈ xs, Shp n x := Iff.rfl
theorem shp_tmap {β : Type} {f : β → D} {n : Nat} {l : List β} (hl : l.length ≤ 1000000) (h : ∀ x ∈ l, Shp n (f x)) : Shp (n + 1) (.tup (l.map f)) :=
  ⟨by simpa using hl, fun x hx => by
    obtain ⟨y, hy, rfl⟩ := List.mem_map.mp hx
    exact h y hy⟩
theorem shp_cases {n : Nat} {d : D} (h : Shp n d) : (∃ i, d = .int i) ∨ (∃ x, d = .str x) ∨ ∃ m xs, n = m + 1 ∧ d = .tup xs ∧ xs.length ≤ 1000000 ∧ ∀ x ∈ xs, Shp m x := by
  cases n with
  | zero => cases d <;> first | exact .inl ⟨_, rfl⟩ | exact .inr (.inl ⟨_, rfl⟩) | exact False.elim h
  | succ n => cases d <;> first | exact .inl ⟨_, rfl⟩ | exact .inr (.inl ⟨_, rfl⟩) | exact .inr (.inr ⟨n, _, rfl, rfl, h⟩) | exact False.elim h
theorem shp_B {n : Nat} {b : List Int} (h : b.length ≤ 1000000) : Shp (n + 1) (encB b) := shp_tmap h fun _ _ => shp_int
theorem shp_P {n : Nat} {p : Int × Int} : Shp (n + 1) (encP p) := ⟨by simp, by simp⟩
theorem shp_C {n : Nat} {c : Cells} (h : c.length ≤ 1000000) : Shp (n + 2) (encC c) := shp_tmap h fun _ _ => shp_P
theorem shp_S {n : Nat} {s : Stt} (hb : s.boxes.length ≤ 1000000) (hc : s.cells.length ≤ 1000000) : Shp (n + 3) (encS s) :=
  ⟨by simp, by
    intro x hx
    simp at hx
    rcases hx with rfl | rfl | rfl
    · exact shp_int
    · exact shp_B hb
    · exact shp_C hc⟩
theorem goes_len {rs : List Deed} : ∀ {n : Nat} {s : DSt}, (goes rs n s).length ≤ n
  | 0, _ => Nat.le_refl _
  | n + 1, s => by
    unfold goes
    split
    · exact Nat.zero_le _
    · rw [List.length_cons]; exact Nat.succ_le_succ goes_len
theorem goes_boxes {rs : List Deed} : ∀ {n : Nat} {s : DSt}, s.boxes.length = 8 → ∀ t ∈ goes rs n s, t.boxes.length = 8
  | 0, _, _, t, h => by simp [goes] at h
  | n + 1, s, hb, t, h => by
    unfold goes at h
    split at h
    · simp at h
    · have hb' : (goR (rowAt rs s.place) s).boxes.length = 8 := by show (Deed.bxs _ _ _).length = 8; rw [Deed.bxs_len, hb]
      rcases List.mem_cons.mp h with rfl | h
      · exact hb'
      · exact goes_boxes hb' t h
theorem goes_place {rs : List Deed} (g : Good rs) : ∀ {n : Nat} {s : DSt}, s.place < rs.length → ∀ t ∈ goes rs n s, t.place < rs.length
  | 0, _, _, t, h => by simp [goes] at h
  | n + 1, s, hb, t, h => by
    unfold goes at h
    split at h
    · simp at h
    · rename_i hh
      have hb' : (goR (rowAt rs s.place) s).place < rs.length := g.toLt hb hh
      rcases List.mem_cons.mp h with rfl | h
      · exact hb'
      · exact goes_place g hb' t h
theorem goes_keys {rs : List Deed} : ∀ {n : Nat} {s : DSt}, KeysOk s.cells → ∀ t ∈ goes rs n s, KeysOk t.cells
  | 0, _, _, t, h => by simp [goes] at h
  | n + 1, s, hb, t, h => by
    unfold goes at h
    split at h
    · simp at h
    · have hb' := goR_keys (r := rowAt rs s.place) hb
      rcases List.mem_cons.mp h with rfl | h
      · exact hb'
      · exact goes_keys hb' t h
/-- numbers and tuples of them -/
def ShN : Nat → D → Prop
  | _, .int _ => True
  | n + 1, .tup xs => xs.length ≤ 1000000 ∧ ∀ x ∈ xs, ShN n x
  | _, _ => False
theorem shn_cases {n : Nat} {d : D} (h : ShN n d) : (∃ i, d = .int i) ∨ ∃ m xs, n = m + 1 ∧ d = .tup xs ∧ xs.length ≤ 1000000 ∧ ∀ x ∈ xs, ShN m x := by
  cases n with
  | zero => cases d <;> first | exact .inl ⟨_, rfl⟩ | exact False.elim h
  | succ n => cases d <;> first | exact .inl ⟨_, rfl⟩ | exact .inr ⟨n, _, rfl, rfl, h⟩ | exact False.elim h
@[simp] theorem shn_int {n : Nat} {i : Int} : ShN n (.int i) := by cases n <;> trivial
theorem shn_tmap {β : Type} {f : β → D} {n : Nat} {l : List β} (hl : l.length ≤ 1000000) (h : ∀ x ∈ l, ShN n (f x)) : ShN (n + 1) (.tup (l.map f)) :=
  ⟨by simpa using hl, fun x hx => by
    obtain ⟨y, hy, rfl⟩ := List.mem_map.mp hx
    exact h y hy⟩
theorem shn_B {n : Nat} {b : List Int} (h : b.length ≤ 1000000) : ShN (n + 1) (encB b) := shn_tmap h fun _ _ => shn_int
theorem shn_P {n : Nat} {p : Int × Int} : ShN (n + 1) (encP p) := ⟨by simp, by simp⟩
theorem shn_C {n : Nat} {c : Cells} (h : c.length ≤ 1000000) : ShN (n + 2) (encC c) := shn_tmap h fun _ _ => shn_P
theorem shn_S {n : Nat} {s : Stt} (hb : s.boxes.length ≤ 1000000) (hc : s.cells.length ≤ 1000000) : ShN (n + 3) (encS s) :=
  ⟨by simp, by
    intro x hx
    simp at hx
    rcases hx with rfl | rfl | rfl
    · exact shn_int
    · exact shn_B hb
    · exact shn_C hc⟩
theorem shownC_len {c : Cells} : (shownC c).length ≤ c.length := by
  unfold shownC
  rw [(sortC_perm _).length_eq]
  exact List.length_filter_le _ _
theorem withC_len {c : Cells} {n v : Int} : (withC c n v).length ≤ c.length + 1 := by
  unfold withC
  rw [(sortC_perm _).length_eq, List.length_append]
  have := List.length_filter_le (fun p : Int × Int => decide (p.1 ≠ n)) c
  split
  · rw [List.length_nil]; omega
  · rw [List.length_singleton]; omega
theorem nextR_ok {rs : List Deed} (g : Good rs) {s : Stt} (ok : s.ok rs.length) (hh : rowAt rs s.place ≠ .halt) : (nextR (rowAt rs s.place) s).ok rs.length :=
  ⟨g.toLt ok.p hh, by show (Deed.bxs _ _ _).length = 8; rw [Deed.bxs_len]; exact ok.b⟩
theorem nextR_cells {r : Deed} {s : Stt} : (nextR r s).cells.length ≤ s.cells.length + 1 := by
  cases r <;> first | exact Nat.le_succ _ | exact withC_len
end M

set_option maxRecDepth 100000
set_option maxHeartbeats 4000000
namespace M
open PySem PySem.Spec PyProof.Rows L2
/-! ### steps, uses -/
abbrev Stp := Int × List Int
def encT (t : Stp) : D := .tup [.int t.1, encB t.2]
def encTs (ts : List Stp) : D := .tup (ts.map encT)
abbrev Use := Int × Int × Str × Int
def encU (u : Use) : D := .tup [.int u.1, .int u.2.1, .str u.2.2.1, .int u.2.2.2]
def encUs (us : List Use) : D := .tup (us.map encU)
/-- a good row of steps -/
structure Stp.ok (m : Nat) (t : Stp) : Prop where
  lo : 0 ≤ t.1
  hi : t.1 < m
  b : t.2.length = 8
def stepAt (ts : List Stp) (t : Nat) : Stp := ts.getD t (0, [])
def useOf (r : Deed) (time : Nat) (b b' : List Int) : Option Use := match r with
  | .get a x => some (bx b x, (time : Int), "get", bx b' a)
  | .set a x => some (bx b a, (time : Int), "set", bx b x)
  | _ => none
def useAt (rs : List Deed) (ts : List Stp) (t : Nat) : Option Use := useOf (rowAt rs (stepAt ts t).1.toNat) t (stepAt ts t).2 (stepAt ts (t + 1)).2
def rawUses (rs : List Deed) (ts : List Stp) : List Use := (List.range (ts.length - 1)).filterMap (useAt rs ts)
def leU (a b : Use) : Bool := PySem.W.dataLe false toPy (encU a) (encU b)
def sortU (us : List Use) : List Use := us.mergeSort leU
def usesOf (rs : List Deed) (ts : List Stp) : List Use := sortU (rawUses rs ts)
theorem sortD_U (us : List Use) : sortD (us.map encU) = (sortU us).map encU := by
  unfold sortD sortU
  rw [List.map_mergeSort]
  intro a _ b _
  rfl
theorem toPy_U (u : Use) : toPy (encU u) = .tuple [.int u.1, .int u.2.1, .str u.2.2.1, .int u.2.2.2] := rfl
theorem sortOk_U {us : List Use} (h : us.length ≤ 16777216) : sortOk (us.map encU) = true := by
  unfold sortOk
  simp only [Bool.and_eq_true, Bool.or_eq_true]
  refine ⟨⟨⟨?_, .inl ?_⟩, ?_⟩, ?_⟩
  · refine List.all_eq_true.mpr fun a ha => List.all_eq_true.mpr fun b hb => ?_
    obtain ⟨p, _, rfl⟩ := List.mem_map.mp ha
    obtain ⟨q, _, rfl⟩ := List.mem_map.mp hb
    simp [toPy_U, PySem.W.alike, PySem.W.alikeAll]
  · refine List.all_eq_true.mpr fun a ha => ?_
    obtain ⟨p, _, rfl⟩ := List.mem_map.mp ha
    rfl
  · refine List.all_eq_true.mpr fun a ha => ?_
    obtain ⟨p, _, rfl⟩ := List.mem_map.mp ha
    simp [toPy_U, PyData.depth, PyData.depthAll]
  · rw [List.length_map]; exact decide_eq_true (by rw [szl]; exact h)
theorem sorted_U {us : List Use} {G : Gd} (h : us.length ≤ 16777216) : bSorted false [.d (.lst (us.map encU))] G = .ok (.d (.lst ((sortU us).map encU)), G) := by
  simp [bSorted, asSeq, sortOk_U h, sortD_U, newL]
theorem sorted_Ur {us : List Use} {G : Gd} {j : Nat} (hj : G[j]? = some (.lst ((us.map encU).map W.d))) (h : us.length ≤ 16777216) : bSorted false [.ref j] G = .ok (.d (.lst ((sortU us).map encU)), G) := by
  have : toDs ((us.map encU).map W.d) = some (us.map encU) := toDs_map _
  simp only [bSorted, asSeq, hj, this]
  simp [sortOk_U h, sortD_U, newL]
theorem sortU_perm (us : List Use) : (sortU us).Perm us := List.mergeSort_perm us leU
theorem rawUses_len {rs : List Deed} {ts : List Stp} : (rawUses rs ts).length ≤ ts.length := by
  unfold rawUses
  refine Nat.le_trans (List.length_filterMap_le _ _) ?_
  rw [List.length_range]; omega
theorem usesOf_len {rs : List Deed} {ts : List Stp} : (usesOf rs ts).length ≤ ts.length := by
  unfold usesOf; rw [(sortU_perm _).length_eq]; exact rawUses_len
theorem pl_U {n : Nat} (u : Use) (h : layD (.str u.2.2.1) = true) : plB (n + 1) (encU u) = true := by simp [encU, h]
theorem pl_T {n : Nat} (t : Stp) : plB (n + 2) (encT t) = true := by
  rw [encT, plB_tup]
  simp only [plBs_cons, plB_int, plBs_nil, Bool.and_true, Bool.true_and]
  exact pl_B (n := n) _
theorem pl_Ts {n : Nat} (ts : List Stp) : plB (n + 3) (encTs ts) = true := by
  rw [encTs, plB_tup]; exact plBs_map fun t _ => pl_T t
theorem shp_T {n : Nat} {t : Stp} (h : t.2.length ≤ 1000000) : Shp (n + 2) (encT t) :=
  ⟨by simp [encT], by
    intro x hx
    simp at hx
    rcases hx with rfl | rfl
    · exact shp_int
    · exact shp_B h⟩
theorem shp_U {n : Nat} {u : Use} : Shp (n + 1) (encU u) := ⟨by simp, by simp⟩
theorem encT_inj (x y : Stp) (h : encT x = encT y) : x = y := by
  simp only [encT, D.tup.injEq, List.cons.injEq, D.int.injEq, and_true] at h
  exact Prod.ext h.1 (encB_inj h.2)
theorem encU_inj (x y : Use) (h : encU x = encU y) : x = y := by
  simp only [encU, D.tup.injEq, List.cons.injEq, D.int.injEq, D.str.injEq, and_true] at h
  obtain ⟨a, b, c, d⟩ := x
  obtain ⟨a', b', c', d'⟩ := y
  simp at h ⊢
  exact h
theorem range_filterMap_succ {β : Type} {f : Nat → Option β} {n : Nat} : (List.range (n + 1)).filterMap f = (List.range n).filterMap f ++ (f n).toList := by
  rw [List.range_succ, List.filterMap_append]
  cases h : f n <;> simp [h]
end M

set_option maxRecDepth 100000
set_option maxHeartbeats 4000000
namespace M
open PySem PySem.Spec PyProof.Rows L2
/-! ### what lookers see -/
def hasRow (rs : List Deed) (p : Int) : Bool := decide (0 ≤ p) && decide (p < rs.length)
def matchB (rs : List Deed) (ts : List Stp) (u : Use) : Bool :=
  if u.2.1 < 0 ∨ (ts.length : Int) - 1 ≤ u.2.1 then false
  else if hasRow rs (stepAt ts u.2.1.toNat).1 = true then match rowAt rs (stepAt ts u.2.1.toNat).1.toNat with
    | .get a x => decide (u.2.2.1 = "get") && (decide (bx (stepAt ts u.2.1.toNat).2 x = u.1) && decide (bx (stepAt ts (u.2.1.toNat + 1)).2 a = u.2.2.2))
    | .set a x => decide (u.2.2.1 = "set") && (decide (bx (stepAt ts u.2.1.toNat).2 a = u.1) && decide (bx (stepAt ts u.2.1.toNat).2 x = u.2.2.2))
    | _ => false
  else false
/-- what is there behind a get -/
def heldOf (r : Deed) (c : List Int) : Int := match r with | .get a _ => bx c a | _ => 0
def fitsB (rs : List Deed) (t u : Stp) : Bool :=
  if hasRow rs t.1 = true ∧ rowAt rs t.1.toNat ≠ .halt then decide (u = (((rowAt rs t.1.toNat).to t.1.toNat t.2 : Int), (rowAt rs t.1.toNat).bxs t.2 (heldOf (rowAt rs t.1.toNat) u.2)))
  else false
/-- steps whose boxes are eight each -/
def Eight (ts : List Stp) : Prop := ∀ t ∈ ts, t.2.length = 8
theorem Eight.at_ {ts : List Stp} (h : Eight ts) {i : Nat} (hi : i < ts.length) : (stepAt ts i).2.length = 8 := by
  unfold stepAt
  rw [List.getD_eq_getElem?_getD, List.getElem?_eq_getElem hi]
  exact h _ (List.getElem_mem hi)
theorem ts_at {ts : List Stp} {i : Nat} (h : i < ts.length) : atI (ts.map encT) (i : Int) = some (encT (stepAt ts i)) := by
  rw [atI_ofNat, List.getElem?_map]
  unfold stepAt
  rw [List.getD_eq_getElem?_getD, List.getElem?_eq_getElem h]; rfl
theorem ts_atI {ts : List Stp} {p : Int} (h0 : 0 ≤ p) (h : p < ts.length) : atI (ts.map encT) p = some (encT (stepAt ts p.toNat)) := by
  have := ts_at (ts := ts) (i := p.toNat) (by omega)
  rw [← this]; congr 1; omega
theorem rs_atI {rs : List Deed} {p : Int} (h0 : 0 ≤ p) (h : p < rs.length) : atI (rs.map encR) p = some (encR (rowAt rs p.toNat)) := by
  have := roll_at (rs := rs) (p := p.toNat) (by omega)
  rw [← this]; congr 1; omega
end M

set_option maxRecDepth 100000
set_option maxHeartbeats 4000000
namespace M
open PySem PySem.Spec PyProof.Rows L2
/-! ### runs: uses and cells -/
def stD (s : DSt) : Stp := ((s.place : Int), s.boxes)
def dAt (ss : List DSt) (i : Nat) : DSt := ss.getD i ⟨0, [], []⟩
/-- the states follow one another -/
structure Chain (rs : List Deed) (ss : List DSt) : Prop where
  len : 0 < ss.length
  c0 : (dAt ss 0).cells = []
  step : ∀ i, i + 1 < ss.length → rowAt rs (dAt ss i).place ≠ .halt ∧ dAt ss (i + 1) = goR (rowAt rs (dAt ss i).place) (dAt ss i)
  b8 : ∀ i, i < ss.length → (dAt ss i).boxes.length = 8
  pl : ∀ i, i < ss.length → (dAt ss i).place < rs.length
theorem goes_chain {rs : List Deed} : ∀ {n : Nat} {s : DSt}, ∀ i, i + 1 < (s :: goes rs n s).length → rowAt rs (dAt (s :: goes rs n s) i).place ≠ .halt ∧ dAt (s :: goes rs n s) (i + 1) = goR (rowAt rs (dAt (s :: goes rs n s) i).place) (dAt (s :: goes rs n s) i)
  | 0, s, i, h => by simp [goes] at h
  | n + 1, s, i, h => by
    by_cases hh : rowAt rs s.place = .halt
    · simp [goes, hh] at h
    · have gs : goes rs (n + 1) s = goR (rowAt rs s.place) s :: goes rs n (goR (rowAt rs s.place) s) := by
        rw [goes]
        cases hr : rowAt rs s.place <;> first | rfl | exact absurd hr hh
      rw [gs] at h ⊢
      cases i with
      | zero => exact ⟨hh, rfl⟩
      | succ i => exact goes_chain (n := n) (s := goR (rowAt rs s.place) s) i (by simpa using h)
theorem look_put {c : Cells} {n v m : Int} : look (putC c n v) m = if n = m then v else look c m := by
  unfold putC
  split
  · rename_i h
    unfold look
    rw [List.find?_map]
    have : ((fun p : Int × Int => decide (p.1 = m)) ∘ fun p : Int × Int => if p.1 = n then (p.1, v) else p) = fun p => decide (p.1 = m) := by
      funext p; simp only [Function.comp]; split <;> rfl
    rw [this]
    by_cases e : n = m
    · subst e
      rw [if_pos rfl]
      cases hf : c.find? fun p => decide (p.1 = n) with
      | none =>
        obtain ⟨p, hp, hp2⟩ := List.any_eq_true.mp h
        have := List.find?_eq_none.mp hf p hp
        exact absurd hp2 this
      | some p =>
        have := List.find?_some hf
        simp at this
        simp [this]
    · rw [if_neg e]
      cases hf : c.find? fun p => decide (p.1 = m) with
      | none => rfl
      | some p =>
        have := List.find?_some hf
        simp at this
        have : ¬ p.1 = n := fun e' => e (by omega)
        simp [this]
  · rename_i h
    unfold look
    rw [List.find?_append]
    by_cases e : n = m
    · subst e
      have : c.find? (fun p => decide (p.1 = n)) = none := List.find?_eq_none.mpr fun p hp hp2 => h (List.any_eq_true.mpr ⟨p, hp, hp2⟩)
      rw [this]; simp
    · cases hf : c.find? fun p => decide (p.1 = m) with
      | none => simp [e]
      | some p => simp [e]
/-- the value of the last use of a number -/
def lastVal (us : List Use) (n : Int) : Int := ((us.reverse.find? fun u => decide (u.1 = n)).map (·.2.2.2)).getD 0
@[simp] theorem lastVal_nil {n : Int} : lastVal [] n = 0 := rfl
theorem lastVal_snoc {us : List Use} {u : Use} {n : Int} : lastVal (us ++ [u]) n = if u.1 = n then u.2.2.2 else lastVal us n := by
  unfold lastVal
  rw [List.reverse_append, List.reverse_singleton, List.singleton_append, List.find?_cons]
  by_cases h : u.1 = n <;> simp [h]
theorem bx_set {b : List Int} {a : Nat} {v : Int} (h : a < b.length) : bx (b.set a v) a = v := by
  unfold bx; rw [List.getD_eq_getElem?_getD, List.getElem?_set_self h]; rfl
/-- the uses of the first i steps -/
def usesTo (rs : List Deed) (ts : List Stp) (i : Nat) : List Use := (List.range i).filterMap (useAt rs ts)
theorem stepAt_map {ss : List DSt} {i : Nat} (h : i < ss.length) : stepAt (ss.map stD) i = stD (dAt ss i) := by
  unfold stepAt dAt
  rw [List.getD_eq_getElem?_getD, List.getD_eq_getElem?_getD, List.getElem?_map, List.getElem?_eq_getElem h]; rfl
theorem useAt_run {rs : List Deed} {ss : List DSt} {i : Nat} (h : i + 1 < ss.length) : useAt rs (ss.map stD) i = useOf (rowAt rs (dAt ss i).place) i (dAt ss i).boxes (dAt ss (i + 1)).boxes := by
  unfold useAt
  rw [stepAt_map (by omega), stepAt_map h]; rfl
/-- what a row uses, by the machine -/
theorem useOf_run {rs : List Deed} (g : Good rs) {ss : List DSt} (c : Chain rs ss) {i : Nat} (h : i + 1 < ss.length) : useOf (rowAt rs (dAt ss i).place) i (dAt ss i).boxes (dAt ss (i + 1)).boxes = match rowAt rs (dAt ss i).place with
    | .get _ x => some (bx (dAt ss i).boxes x, (i : Int), "get", look (dAt ss i).cells (bx (dAt ss i).boxes x))
    | .set a x => some (bx (dAt ss i).boxes a, (i : Int), "set", bx (dAt ss i).boxes x)
    | _ => none := by
  have e := (c.step i h).2
  have ok := g.rowOk (dAt ss i).place
  have b8 := c.b8 i (by omega)
  rw [e]
  cases hr : rowAt rs (dAt ss i).place with
  | get a x =>
    rw [hr] at ok
    show some (_, _, _, bx ((dAt ss i).boxes.set a (look (dAt ss i).cells (bx (dAt ss i).boxes x))) a) = _
    rw [bx_set (by rw [b8]; exact ok.1)]
  | _ => rfl
theorem cells_run {rs : List Deed} (g : Good rs) {ss : List DSt} (c : Chain rs ss) : ∀ i, i < ss.length → ∀ n, look (dAt ss i).cells n = lastVal (usesTo rs (ss.map stD) i) n
  | 0, _, n => by rw [c.c0]; rfl
  | i + 1, h, n => by
    have ih := cells_run g c i (by omega)
    have e := (c.step i h).2
    unfold usesTo
    rw [range_filterMap_succ, useAt_run h, useOf_run g c h]
    have e2 : (dAt ss (i + 1)).cells = match rowAt rs (dAt ss i).place with | .set a b => putC (dAt ss i).cells (bx (dAt ss i).boxes a) (bx (dAt ss i).boxes b) | _ => (dAt ss i).cells := by rw [e]; rfl
    have ih' : ∀ n, look (dAt ss i).cells n = lastVal ((List.range i).filterMap (useAt rs (ss.map stD))) n := ih
    rw [e2]
    cases hr : rowAt rs (dAt ss i).place with
    | get a x =>
      simp only [Option.toList]
      rw [lastVal_snoc]
      split
      · rename_i e3; rw [← e3]
      · exact ih' n
    | set a x =>
      simp only [Option.toList]
      rw [lastVal_snoc, look_put]
      split
      · rfl
      · exact ih' n
    | _ => simpa using ih' n
theorem usesTo_time {rs : List Deed} {ts : List Stp} {i : Nat} {u : Use} (h : u ∈ usesTo rs ts i) : ∃ j, j < i ∧ useAt rs ts j = some u ∧ u.2.1 = (j : Int) := by
  unfold usesTo at h
  obtain ⟨j, hj, e⟩ := List.mem_filterMap.mp h
  refine ⟨j, by simpa using hj, e, ?_⟩
  unfold useAt useOf at e
  split at e
  · cases e; rfl
  · cases e; rfl
  · cases e
theorem usesTo_mem {rs : List Deed} {ts : List Stp} {i j : Nat} {u : Use} (h : useAt rs ts j = some u) (hj : j < i) : u ∈ usesTo rs ts i := List.mem_filterMap.mpr ⟨j, by simpa using hj, h⟩
/-- the last value, told by the use that has it -/
theorem lastVal_rel {rs : List Deed} {ts : List Stp} : ∀ {i : Nat} {n : Int}, (∃ p ∈ usesTo rs ts i, p.1 = n ∧ (∀ q ∈ usesTo rs ts i, q.1 = n → q.2.1 ≤ p.2.1) ∧ lastVal (usesTo rs ts i) n = p.2.2.2) ∨ ((∀ q ∈ usesTo rs ts i, q.1 ≠ n) ∧ lastVal (usesTo rs ts i) n = 0)
  | 0, n => .inr ⟨fun q h => by simp [usesTo] at h, rfl⟩
  | i + 1, n => by
    have st : usesTo rs ts (i + 1) = usesTo rs ts i ++ (useAt rs ts i).toList := range_filterMap_succ
    have ih := lastVal_rel (rs := rs) (ts := ts) (i := i) (n := n)
    rw [st]
    cases hu : useAt rs ts i with
    | none => simpa using ih
    | some u =>
      simp only [Option.toList]
      have tu : u.2.1 = (i : Int) := by
        obtain ⟨j, hj, e, t⟩ := usesTo_time (usesTo_mem hu (Nat.lt_succ_self i))
        unfold useAt useOf at hu
        split at hu
        · cases hu; rfl
        · cases hu; rfl
        · cases hu
      have old : ∀ q ∈ usesTo rs ts i, q.2.1 < (i : Int) := fun q hq => by
        obtain ⟨j, hj, _, t⟩ := usesTo_time hq
        rw [t]; omega
      by_cases hn : u.1 = n
      · refine .inl ⟨u, by simp, hn, fun q hq _ => ?_, by rw [lastVal_snoc, if_pos hn]⟩
        rcases List.mem_append.mp hq with h | h
        · have := old q h; omega
        · simp at h; subst h; exact Int.le_refl _
      · rw [lastVal_snoc, if_neg hn]
        rcases ih with ⟨p, hp, e, mx, v⟩ | ⟨no, v⟩
        · refine .inl ⟨p, List.mem_append_left _ hp, e, fun q hq hqn => ?_, v⟩
          rcases List.mem_append.mp hq with h | h
          · exact mx q h hqn
          · simp at h; subst h; exact absurd hqn hn
        · refine .inr ⟨fun q hq => ?_, v⟩
          rcases List.mem_append.mp hq with h | h
          · exact no q h
          · simp at h; subst h; exact hn
/-! sorted uses fit -/
theorem leU_lex {a b : Use} (h : leU a b = true) : a.1 < b.1 ∨ a.1 = b.1 ∧ a.2.1 ≤ b.2.1 := by
  have h' : PySem.W.dataLt (toPy (encU b)) (toPy (encU a)) = false := by
    have : (!PySem.W.dataLt (toPy (encU b)) (toPy (encU a))) = true := h
    simpa using this
  rw [toPy_U, toPy_U] at h'
  by_cases h1 : b.1 < a.1
  · simp [PySem.W.dataLt, PySem.W.keyToks, PySem.W.keyToksAll, PyProof.Rows.lexLt, PyProof.Rows.itemOrd, PyProof.Rows.itemLt, h1] at h'
  · by_cases h2 : a.1 < b.1
    · exact .inl h2
    · have h3 : b.1 = a.1 := by omega
      by_cases h4 : b.2.1 < a.2.1
      · simp [PySem.W.dataLt, PySem.W.keyToks, PySem.W.keyToksAll, PyProof.Rows.lexLt, PyProof.Rows.itemOrd, PyProof.Rows.itemLt, h3, h4] at h'
      · exact .inr ⟨h3.symm, by omega⟩
theorem leU_trans (a b c : Use) (h : leU a b = true) (h2 : leU b c = true) : leU a c = true := by
  have key : ∀ x y : Use, leU x y = !(PyProof.Rows.lexLt PyProof.Rows.itemOrd (PySem.W.keyToks (toPy (encU y))) (PySem.W.keyToks (toPy (encU x)))) := fun x y => rfl
  rw [key] at *
  simp only [Bool.not_eq_true'] at *
  cases h3 : PyProof.Rows.lexLt PyProof.Rows.itemOrd (PySem.W.keyToks (toPy (encU c))) (PySem.W.keyToks (toPy (encU a))) with
  | false => rfl
  | true =>
    rcases PyProof.Rows.lex_negTrans _ (PySem.W.keyToks (toPy (encU b))) _ h3 with h4 | h4
    · rw [h4] at h2; cases h2
    · rw [h4] at h; cases h
theorem leU_total (a b : Use) : (leU a b || leU b a) = true := by
  have key : ∀ x y : Use, leU x y = !(PyProof.Rows.lexLt PyProof.Rows.itemOrd (PySem.W.keyToks (toPy (encU y))) (PySem.W.keyToks (toPy (encU x)))) := fun x y => rfl
  rw [key, key]
  cases h : PyProof.Rows.lexLt PyProof.Rows.itemOrd (PySem.W.keyToks (toPy (encU b))) (PySem.W.keyToks (toPy (encU a))) with
  | false => rfl
  | true =>
    cases h2 : PyProof.Rows.lexLt PyProof.Rows.itemOrd (PySem.W.keyToks (toPy (encU a))) (PySem.W.keyToks (toPy (encU b))) with
    | false => rfl
    | true =>
      have := PyProof.Rows.lex_trans _ _ _ h h2
      rw [PyProof.Rows.lex_irrefl] at this; cases this
theorem sortU_sorted (us : List Use) : (sortU us).Pairwise (fun a b => leU a b = true) := List.pairwise_mergeSort leU_trans leU_total us
def useFits (a : Option Use) (u : Use) : Bool := match a with
  | none => decide (u.2.2.1 ≠ "get") || decide (u.2.2.2 = 0)
  | some p => decide (p.1 < u.1 ∨ p.1 = u.1 ∧ p.2.1 < u.2.1) && (decide (u.2.2.1 ≠ "get") || decide (u.2.2.2 = if u.1 = p.1 then p.2.2.2 else 0))
/-- the first use that does not fit, counted from k -/
def badUse (a : Option Use) : List Use → Nat → Option Nat
  | [], _ => none
  | u :: us, k => if useFits a u = true then badUse (some u) us (k + 1) else some k
theorem usesTo_times {rs : List Deed} {ts : List Stp} : ∀ {i : Nat}, ((usesTo rs ts i).map (·.2.1)).Nodup
  | 0 => by simp [usesTo]
  | i + 1 => by
    have st : usesTo rs ts (i + 1) = usesTo rs ts i ++ (useAt rs ts i).toList := range_filterMap_succ
    rw [st, List.map_append, List.nodup_append]
    refine ⟨usesTo_times, ?_, fun a ha b hb => ?_⟩
    · cases useAt rs ts i <;> simp
    · obtain ⟨q, hq, rfl⟩ := List.mem_map.mp ha
      obtain ⟨j, hj, _, t⟩ := usesTo_time hq
      cases hu : useAt rs ts i with
      | none => rw [hu] at hb; simp at hb
      | some u =>
        rw [hu] at hb
        simp at hb
        obtain ⟨j', hj', e, t'⟩ := usesTo_time (usesTo_mem hu (Nat.lt_succ_self i))
        have : u.2.1 = (i : Int) := by
          unfold useAt useOf at hu
          split at hu
          · cases hu; rfl
          · cases hu; rfl
          · cases hu
        rw [hb, t, this]; omega
/-- what a use tells in a list of uses of a run: its value is the last one ahead of it -/
def Told (raw : List Use) : Prop := ∀ u ∈ raw, u.2.2.1 = "get" → (∃ p ∈ raw, p.1 = u.1 ∧ p.2.1 < u.2.1 ∧ (∀ q ∈ raw, q.1 = u.1 → q.2.1 < u.2.1 → q.2.1 ≤ p.2.1) ∧ u.2.2.2 = p.2.2.2) ∨ ((∀ q ∈ raw, q.1 = u.1 → q.2.1 < u.2.1 → False) ∧ u.2.2.2 = 0)
theorem fits_sorted {raw : List Use} (ht : (raw.map (·.2.1)).Nodup) (tl : Told raw) : ∀ (B A : List Use) (k : Nat), sortU raw = A ++ B → badUse A.getLast? B k = none
  | [], A, k, _ => rfl
  | u :: B, A, k, e => by
    have pw := sortU_sorted raw
    have pm := sortU_perm raw
    have nd : ((sortU raw).map (·.2.1)).Nodup := (pm.map _).nodup_iff.mpr ht
    rw [e] at pw nd
    rw [List.map_append, List.nodup_append] at nd
    rw [List.pairwise_append] at pw
    have mem : ∀ q, q ∈ raw ↔ q ∈ A ++ u :: B := fun q => by rw [← e]; exact pm.mem_iff.symm
    have hu : u ∈ raw := (mem u).mpr (by simp)
    have fit : useFits A.getLast? u = true := by
      -- behind u nothing is less
      have behind : ∀ q ∈ raw, (q.1 < u.1 ∨ q.1 = u.1 ∧ q.2.1 < u.2.1) → q ∈ A := fun q hq hl => by
        rcases List.mem_append.mp ((mem q).mp hq) with h | h
        · exact h
        · rcases List.mem_cons.mp h with h | h
          · subst h; omega
          · have := leU_lex ((List.pairwise_cons.mp pw.2.1).1 q h)
            omega
      cases hA : A.getLast? with
      | none =>
        have hA' : A = [] := List.getLast?_eq_none_iff.mp hA
        subst hA'
        show (decide (u.2.2.1 ≠ "get") || decide (u.2.2.2 = 0)) = true
        by_cases hw : u.2.2.1 = "get"
        · rcases tl u hu hw with ⟨p, hp, e1, e2, _⟩ | ⟨_, v⟩
          · have := behind p hp (.inr ⟨e1, e2⟩)
            simp at this
          · simp [v]
        · simp [hw]
      | some p =>
        have hpA : p ∈ A := List.mem_of_getLast? hA
        have hp : p ∈ raw := (mem p).mpr (List.mem_append_left _ hpA)
        have lep := leU_lex (pw.2.2 p hpA u (by simp))
        have nt : p.2.1 ≠ u.2.1 := nd.2.2 _ (List.mem_map.mpr ⟨p, hpA, rfl⟩) _ (List.mem_map.mpr ⟨u, by simp, rfl⟩)
        have lt : p.1 < u.1 ∨ p.1 = u.1 ∧ p.2.1 < u.2.1 := by omega
        -- nothing of A is greater than p
        have lastp : ∀ q ∈ A, q = p ∨ leU q p = true := fun q hq => by
          obtain ⟨A', e'⟩ : ∃ A', A = A' ++ [p] := List.getLast?_eq_some_iff.mp hA
          rw [e'] at hq pw
          rcases List.mem_append.mp hq with h | h
          · exact .inr ((List.pairwise_append.mp pw.1).2.2 q h p (by simp))
          · simp at h; exact .inl h
        have lastp' : ∀ q ∈ A, q.1 < p.1 ∨ q.1 = p.1 ∧ q.2.1 ≤ p.2.1 := fun q hq => by
          rcases lastp q hq with h | h
          · subst h; omega
          · exact leU_lex h
        show (decide (p.1 < u.1 ∨ p.1 = u.1 ∧ p.2.1 < u.2.1) && (decide (u.2.2.1 ≠ "get") || decide (u.2.2.2 = if u.1 = p.1 then p.2.2.2 else 0))) = true
        rw [decide_eq_true lt, Bool.true_and]
        by_cases hw : u.2.2.1 = "get"
        · have goal : u.2.2.2 = if u.1 = p.1 then p.2.2.2 else 0 := by
            rcases tl u hu hw with ⟨q, hq, e1, e2, mx, v⟩ | ⟨no, v⟩
            · have hqA := behind q hq (.inr ⟨e1, e2⟩)
              have l1 := lastp' q hqA
              have en : u.1 = p.1 := by omega
              rw [if_pos en, v]
              have l2 := mx p hp en.symm (by omega)
              have et : q.2.1 = p.2.1 := by omega
              have : q = p := by
                have inj : ∀ {l : List Use}, (l.map (·.2.1)).Nodup → ∀ a ∈ l, ∀ b ∈ l, a.2.1 = b.2.1 → a = b := fun {l} => by
                  induction l with
                  | nil => intro _ a ha; cases ha
                  | cons x l ih =>
                    intro nd a ha b hb hab
                    rw [List.map_cons, List.nodup_cons] at nd
                    rcases List.mem_cons.mp ha with ha | ha <;> rcases List.mem_cons.mp hb with hb | hb
                    · rw [ha, hb]
                    · rw [ha] at hab; exact absurd (List.mem_map.mpr ⟨b, hb, hab.symm⟩) nd.1
                    · rw [hb] at hab; exact absurd (List.mem_map.mpr ⟨a, ha, hab⟩) nd.1
                    · exact ih nd.2 a ha b hb hab
                exact inj ht q hq p hp et
              rw [this]
            · by_cases en : u.1 = p.1
              · exact (no p hp en.symm (by omega)).elim
              · rw [if_neg en, v]
          rw [decide_eq_true goal, Bool.or_true]
        · simp [hw]
    unfold badUse
    rw [if_pos fit]
    have := fits_sorted ht tl B (A ++ [u]) (k + 1) (by rw [e]; simp)
    simpa using this
theorem told_run {rs : List Deed} (g : Good rs) {ss : List DSt} (c : Chain rs ss) : Told (usesTo rs (ss.map stD) (ss.length - 1)) := by
  intro u hu hw
  obtain ⟨i, hi, e, t⟩ := usesTo_time hu
  have hi' : i + 1 < ss.length := by omega
  have e2 := e
  rw [useAt_run hi', useOf_run g c hi'] at e2
  have val : u.2.2.2 = lastVal (usesTo rs (ss.map stD) i) u.1 := by
    rw [← cells_run g c i (by omega)]
    split at e2
    · cases e2; rfl
    · cases e2; exact absurd (show Str.ofString "set" = Str.ofString "get" from hw) (by decide +kernel)
    · cases e2
  have sub : ∀ q, q ∈ usesTo rs (ss.map stD) (ss.length - 1) ∧ q.2.1 < (i : Int) ↔ q ∈ usesTo rs (ss.map stD) i := fun q => by
    constructor
    · rintro ⟨hq, hl⟩
      obtain ⟨j, hj, ej, tj⟩ := usesTo_time hq
      exact usesTo_mem ej (by omega)
    · intro hq
      obtain ⟨j, hj, ej, tj⟩ := usesTo_time hq
      exact ⟨usesTo_mem ej (by omega), by omega⟩
  rcases lastVal_rel (rs := rs) (ts := ss.map stD) (i := i) (n := u.1) with ⟨p, hp, en, mx, v⟩ | ⟨no, v⟩
  · obtain ⟨hp1, hp2⟩ := (sub p).mpr hp
    exact .inl ⟨p, hp1, en, by omega, fun q hq hqn hl => mx q ((sub q).mp ⟨hq, by omega⟩) hqn, by rw [val, v]⟩
  · exact .inr ⟨fun q hq hqn hl => no q ((sub q).mp ⟨hq, by omega⟩) hqn, by rw [val, v]⟩
/-- the uses of a run fit -/
theorem uses_fit {rs : List Deed} (g : Good rs) {ss : List DSt} (c : Chain rs ss) : badUse none (usesOf rs (ss.map stD)) 0 = none := by
  have e : usesOf rs (ss.map stD) = sortU (usesTo rs (ss.map stD) (ss.length - 1)) := by unfold usesOf rawUses usesTo; rw [List.length_map]
  rw [e]
  exact fits_sorted usesTo_times (told_run g c) _ [] 0 rfl
end M

set_option maxRecDepth 100000
set_option maxHeartbeats 4000000
namespace M
open PySem PySem.Spec PyProof.Rows L2
/-! ### faults -/
theorem take_set {b : List Int} {a : Nat} {v : Int} (h : a < b.length) : (b.map D.int).take a ++ (D.int v :: (b.map D.int).drop (a + 1)) = (b.set a v).map D.int := by
  rw [List.map_set, List.set_eq_take_append_cons_drop, if_pos (by simpa using h)]
theorem cut_from1 {β : Type} {xs : List β} {n : Nat} : cutG xs (some ((n : Int) + 1)) none = xs.drop (n + 1) := by
  rw [show (n : Int) + 1 = ((n + 1 : Nat) : Int) by omega]; exact cut_from
theorem eq_T {n : Bool} {t : Stp} {p : Int} {bs : List Int} {G : Gd} : wEq n (.d (encT t)) (.d (.tup [.int p, .tup (bs.map D.int)])) G = .ok (.d (.bl (if n = true then !decide (t = (p, bs)) else decide (t = (p, bs)))), G) := by
  have e : D.tup [.int p, .tup (bs.map D.int)] = encT (p, bs) := rfl
  rw [e, wEq_pl (toDat_d) (toDat_d) (pl_T (n := 58) t) (pl_T (n := 58) (p, bs))]
  by_cases h : t = (p, bs)
  · subst h; simp
  · have : ¬ encT t = encT (p, bs) := fun e => h (encT_inj _ _ e)
    simp [h, this]
/-- the first of n, from k on, that has p -/
def firstB (p : Nat → Bool) : Nat → Nat → Option Nat
  | 0, _ => none
  | n + 1, k => if p k = true then some k else firstB p n (k + 1)
theorem firstB_none {p : Nat → Bool} : ∀ {n k : Nat}, firstB p n k = none ↔ ∀ i, i < n → p (k + i) = false
  | 0, k => by simp [firstB]
  | n + 1, k => by
    unfold firstB
    by_cases h : p k = true
    · simp only [h, if_true, reduceCtorEq, false_iff]
      intro q
      have := q 0 (by omega)
      simp [h] at this
    · rw [if_neg h, firstB_none]
      constructor
      · intro q i hi
        cases i with
        | zero => simpa using h
        | succ i => have := q i (by omega); rw [← this]; congr 1; omega
      · intro q i hi
        have := q (i + 1) (by omega); rw [← this]; congr 1; omega
theorem firstB_congr {p q : Nat → Bool} : ∀ {n k : Nat}, (∀ i, i < n → p (k + i) = q (k + i)) → firstB p n k = firstB q n k
  | 0, _, _ => rfl
  | n + 1, k, h => by
    unfold firstB
    have h0 := h 0 (by omega)
    rw [Nat.add_zero] at h0
    rw [h0]
    have ih := firstB_congr (p := p) (q := q) (n := n) (k := k + 1) (fun i hi => by have := h (i + 1) (by omega); rw [show k + 1 + i = k + (i + 1) by omega]; exact this)
    rw [ih]
theorem firstB_some {p : Nat → Bool} : ∀ {n k i : Nat}, firstB p n k = some i → k ≤ i ∧ i < k + n ∧ p i = true ∧ ∀ j, k ≤ j → j < i → p j = false
  | 0, k, i, h => by simp [firstB] at h
  | n + 1, k, i, h => by
    unfold firstB at h
    by_cases hp : p k = true
    · rw [if_pos hp] at h
      cases h
      exact ⟨by omega, by omega, hp, fun j h1 h2 => by omega⟩
    · rw [if_neg hp] at h
      obtain ⟨a, b, c, d⟩ := firstB_some h
      refine ⟨by omega, by omega, c, fun j h1 h2 => ?_⟩
      by_cases e : j = k
      · subst e; simpa using hp
      · exact d j (by omega) h2
/-- a loop that looks for the first of its turns that has p -/
theorem forM_find {g : FG} {b : FS} {G : Gd} (P : Nat → Sd → Prop) (p : Nat → Bool) (v : Nat → W) : ∀ {ws : List W} {k : Nat}, (∀ i w, ws[i]? = some w → ∀ s, P (k + i) s → (p (k + i) = true ∧ (g w s G).bind (fun q => b q.1 q.2) = .ok (.rt (v (k + i)), G)) ∨ (p (k + i) = false ∧ OkN ((g w s G).bind (fun q => b q.1 q.2)) fun s' G' => P (k + i + 1) s' ∧ G' = G)) →
    ∀ {s}, P k s → (∃ s', P (k + ws.length) s' ∧ firstB p ws.length k = none ∧ forM g b ws s G = .ok (.nx s', G)) ∨ (∃ i, firstB p ws.length k = some i ∧ forM g b ws s G = .ok (.rt (v i), G))
  | [], k, _, s, h => .inl ⟨s, h, rfl, rfl⟩
  | w :: ws, k, hs, s, h => by
    rcases hs 0 w rfl s h with ⟨hp, e⟩ | ⟨hp, s2, G2, e, h2, rfl⟩
    · rw [Nat.add_zero] at hp e
      refine .inr ⟨k, by simp [firstB, hp], ?_⟩
      rw [forM_cons]
      cases hg : g w s G with
      | ok q => rw [hg] at e; simp only [R.bind_ok] at e ⊢; rw [e]; rfl
      | exc x s G => rw [hg] at e; cases e
      | bad => rw [hg] at e; cases e
    · rw [Nat.add_zero] at hp h2
      have hf : firstB p (w :: ws).length k = firstB p ws.length (k + 1) := by
        rw [List.length_cons]; show (if p k = true then some k else _) = _; rw [hp]; rfl
      have ef : forM g b (w :: ws) s G2 = forM g b ws s2 G2 := by
        rw [forM_cons]
        cases hg : g w s G2 with
        | ok q => rw [hg] at e; simp only [R.bind_ok] at e ⊢; rw [e]; rfl
        | exc x s G => rw [hg] at e; cases e
        | bad => rw [hg] at e; cases e
      have h' := forM_find P p v (ws := ws) (k := k + 1) (fun i w hw s hp => by
        have := hs (i + 1) w (by simpa using hw) s (by rw [show k + (i + 1) = k + 1 + i by omega]; exact hp)
        rw [show k + (i + 1) = k + 1 + i by omega] at this
        exact this) h2
      rw [hf, ef, List.length_cons, show k + (ws.length + 1) = k + 1 + ws.length by omega]
      exact h'
def encF : Option (Str × Nat) → D
  | none => .non
  | some (w, k) => .tup [.str w, .int k]
def isUse (r : Deed) : Bool := match r with | .get _ _ => true | .set _ _ => true | _ => false
def stepsPlace (rs : List Deed) (b : List Int) (ts : List Stp) : Option (Str × Nat) :=
  if ts.length = 0 ∨ stepAt ts 0 ≠ (0, b) then some ("begin", 0)
  else match firstB (fun i => !fitsB rs (stepAt ts i) (stepAt ts (i + 1))) (ts.length - 1) 0 with
  | some i => some ("step", i)
  | none => if hasRow rs (stepAt ts (ts.length - 1)).1 = true ∧ rowAt rs (stepAt ts (ts.length - 1)).1.toNat = .halt then none else some ("end", ts.length - 1)
def useN (us : List Use) (i : Nat) : Use := us.getD i (0, 0, "", 0)
def dueN (rs : List Deed) (ts : List Stp) : Nat := ((ts.take (ts.length - 1)).filter fun t => isUse (rowAt rs t.1.toNat)).length
def usesPlace (rs : List Deed) (ts : List Stp) (us : List Use) : Option (Str × Nat) := match badUse none us 0 with
  | some k => some ("use", k)
  | none => match firstB (fun i => !matchB rs ts (useN us i)) us.length 0 with
    | some k => some ("match", k)
    | none => if dueN rs ts = us.length then none else some ("count", us.length)
def faultOf (rs : List Deed) (b : List Int) (ts : List Stp) (us : List Use) : Option (Str × Nat) := match stepsPlace rs b ts with
  | some f => some f
  | none => usesPlace rs ts us
/-! runs fit -/
theorem hasRow_dst {rs : List Deed} {s : DSt} (h : s.place < rs.length) : hasRow rs (stD s).1 = true := by
  unfold hasRow; rw [decide_eq_true (show (0 : Int) ≤ (stD s).1 from Int.natCast_nonneg _), decide_eq_true (show (stD s).1 < (rs.length : Int) from Int.ofNat_lt.mpr h)]; rfl
theorem run_fits {rs : List Deed} (g : Good rs) {ss : List DSt} (c : Chain rs ss) {i : Nat} (h : i + 1 < ss.length) : fitsB rs (stepAt (ss.map stD) i) (stepAt (ss.map stD) (i + 1)) = true := by
  rw [stepAt_map (by omega), stepAt_map h]
  have e := (c.step i h).2
  have ok := g.rowOk (dAt ss i).place
  have b8 := c.b8 i (by omega)
  unfold fitsB
  have tn : (stD (dAt ss i)).1.toNat = (dAt ss i).place := rfl
  rw [tn, if_pos ⟨hasRow_dst (c.pl i (by omega)), (c.step i h).1⟩]
  apply decide_eq_true
  rw [e]
  unfold stD goR
  cases hr : rowAt rs (dAt ss i).place with
  | get a x =>
    rw [hr] at ok
    simp [Deed.bxs, heldOf, bx_set (show a < (dAt ss i).boxes.length by rw [b8]; exact ok.1)]
  | _ => rfl
theorem run_match {rs : List Deed} (g : Good rs) {ss : List DSt} (c : Chain rs ss) {u : Use} (h : u ∈ usesOf rs (ss.map stD)) : matchB rs (ss.map stD) u = true := by
  have hu : u ∈ usesTo rs (ss.map stD) (ss.length - 1) := by
    have := (sortU_perm _).mem_iff.mp h
    unfold rawUses at this
    rw [List.length_map] at this; exact this
  obtain ⟨i, hi, e, t⟩ := usesTo_time hu
  have hi' : i + 1 < ss.length := by omega
  have e1 : stepAt (ss.map stD) i = stD (dAt ss i) := stepAt_map (by omega)
  have tn : u.2.1.toNat = i := by omega
  unfold matchB
  rw [if_neg (by rw [List.length_map]; omega), tn, e1, if_pos (hasRow_dst (c.pl i (by omega)))]
  unfold useAt at e
  rw [e1] at e
  have tn' : (stD (dAt ss i)).1.toNat = (dAt ss i).place := rfl
  rw [tn'] at e ⊢
  unfold useOf at e
  split at e
  · rename_i a x hr; cases e; simp [hr]
  · rename_i a x hr; cases e; simp [hr]
  · cases e
theorem raw_count {rs : List Deed} {ts : List Stp} : ∀ {n : Nat}, n ≤ ts.length → (usesTo rs ts n).length = ((ts.take n).filter fun t => isUse (rowAt rs t.1.toNat)).length
  | 0, _ => by simp [usesTo]
  | n + 1, h => by
    have st : usesTo rs ts (n + 1) = usesTo rs ts n ++ (useAt rs ts n).toList := range_filterMap_succ
    have hn : n < ts.length := by omega
    rw [st, List.length_append, raw_count (n := n) (by omega), List.take_succ, List.getElem?_eq_getElem hn, List.filter_append, List.length_append]
    congr 1
    have e : stepAt ts n = ts[n] := by unfold stepAt; rw [List.getD_eq_getElem?_getD, List.getElem?_eq_getElem hn]; rfl
    unfold useAt useOf
    rw [e]
    cases hr : rowAt rs (ts[n]).1.toNat <;> simp [hr, isUse]
theorem run_count {rs : List Deed} {ts : List Stp} : dueN rs ts = (usesOf rs ts).length := by
  unfold usesOf
  rw [(sortU_perm _).length_eq]
  exact (raw_count (n := ts.length - 1) (by omega)).symm
theorem run_usesPlace {rs : List Deed} (g : Good rs) {ss : List DSt} (c : Chain rs ss) : usesPlace rs (ss.map stD) (usesOf rs (ss.map stD)) = none := by
  unfold usesPlace
  rw [uses_fit g c]
  dsimp only
  have : firstB (fun i => !matchB rs (ss.map stD) (useN (usesOf rs (ss.map stD)) i)) (usesOf rs (ss.map stD)).length 0 = none := firstB_none.mpr fun i hi => by
    rw [Nat.zero_add]
    have hm : useN (usesOf rs (ss.map stD)) i ∈ usesOf rs (ss.map stD) := by
      unfold useN
      rw [List.getD_eq_getElem?_getD, List.getElem?_eq_getElem hi]; exact List.getElem_mem hi
    rw [run_match g c hm]; rfl
  rw [this]
  dsimp only
  rw [if_pos run_count]
theorem run_steps {rs : List Deed} (g : Good rs) {ss : List DSt} (c : Chain rs ss) {b : List Int} (h0 : stD (dAt ss 0) = (0, b)) : stepsPlace rs b (ss.map stD) = if rowAt rs (dAt ss (ss.length - 1)).place = .halt then none else some (("end" : Str), ss.length - 1) := by
  have hl := c.len
  unfold stepsPlace
  rw [if_neg (by
    rw [List.length_map, stepAt_map hl, h0]
    rintro (h | h)
    · omega
    · exact h rfl)]
  have : firstB (fun i => !fitsB rs (stepAt (ss.map stD) i) (stepAt (ss.map stD) (i + 1))) ((ss.map stD).length - 1) 0 = none := firstB_none.mpr fun i hi => by
    rw [Nat.zero_add]
    rw [run_fits g c (by rw [List.length_map] at hi; omega)]; rfl
  rw [this]
  dsimp only
  rw [List.length_map, stepAt_map (by omega)]
  have tn : (stD (dAt ss (ss.length - 1))).1.toNat = (dAt ss (ss.length - 1)).place := rfl
  rw [tn, hasRow_dst (c.pl _ (by omega))]
  by_cases h : rowAt rs (dAt ss (ss.length - 1)).place = .halt <;> simp [h]
theorem Chain.take {rs : List Deed} {ss : List DSt} (c : Chain rs ss) {n : Nat} (h : 0 < n) : Chain rs (ss.take n) := by
  have at_ : ∀ i, i < (ss.take n).length → dAt (ss.take n) i = dAt ss i := fun i hi => by
    rw [List.length_take] at hi
    unfold dAt
    rw [List.getD_eq_getElem?_getD, List.getD_eq_getElem?_getD, List.getElem?_take, if_pos (by omega)]
  have hl := c.len
  have len : (ss.take n).length = min n ss.length := List.length_take
  refine ⟨by omega, ?_, fun i hi => ?_, fun i hi => ?_, fun i hi => ?_⟩
  · rw [at_ 0 (by omega)]; exact c.c0
  · rw [at_ i (by omega), at_ (i + 1) hi]; exact c.step i (by omega)
  · rw [at_ i hi]; exact c.b8 i (by omega)
  · rw [at_ i hi]; exact c.pl i (by omega)
/-- comprehensions over tuples, typed -/
theorem compT_T {β : Type} (en : β → List D) (p : β → Bool) (f : β → D) {is : List Nat} {t : FT} {e : FE} {s : Sd} {G : Gd} : ∀ {xs : List β} {acc : List W}, (∀ x ∈ xs, (en x).length = is.length ∧ t (setAll (wipeS s is) is (en x)) G = .ok (p x, G) ∧ (p x = true → e (setAll (wipeS s is) is (en x)) G = .ok (.d (f x), G))) → acc.length + xs.length ≤ sizeLine →
    compT is t e (xs.map fun x => W.d (.tup (en x))) acc s G = .ok (acc ++ ((xs.filter p).map f).map W.d, G)
  | [], acc, _, _ => by simp [compT]
  | x :: xs, acc, h, hl => by
    obtain ⟨h1, h2, h3⟩ := h x List.mem_cons_self
    have ih := fun acc' hl' => compT_T en p f (xs := xs) (acc := acc') (fun y hy => h y (List.mem_cons_of_mem _ hy)) hl'
    rw [List.length_cons] at hl
    rw [List.map_cons]
    unfold compT
    rw [if_pos h1, h2]
    cases hp : p x with
    | true =>
      dsimp only
      rw [h3 hp]
      dsimp only
      rw [if_pos (by omega), ih _ (by rw [List.length_append, List.length_singleton]; omega), List.filter_cons_of_pos hp]
      simp
    | false =>
      dsimp only
      rw [ih _ (by omega), List.filter_cons_of_neg (by rw [hp]; simp)]
@[simp] theorem lay_begin : layD (.str "begin") = true := by decide +kernel
@[simp] theorem lay_step : layD (.str "step") = true := by decide +kernel
@[simp] theorem lay_end : layD (.str "end") = true := by decide +kernel
@[simp] theorem lay_use : layD (.str "use") = true := by decide +kernel
@[simp] theorem lay_match : layD (.str "match") = true := by decide +kernel
@[simp] theorem lay_count : layD (.str "count") = true := by decide +kernel
theorem pl_F {k : Nat} {w : Str} {n : Nat} (h : layD (.str w) = true) : plB (n + 1) (encF (some (w, k))) = true := by simp [encF, h]
end M

set_option maxRecDepth 100000
set_option maxHeartbeats 4000000
namespace M
open PySem PySem.Spec PyProof.Rows L2
/-! ### uses tell cells -/
def foldC (c : Cells) (us : List Use) : Cells := us.foldl (fun c u => putC c u.1 u.2.2.2) c
theorem foldC_snoc {c : Cells} {us : List Use} {u : Use} : foldC c (us ++ [u]) = putC (foldC c us) u.1 u.2.2.2 := by simp [foldC]
theorem foldC_keys {us : List Use} : ∀ {c : Cells}, KeysOk c → KeysOk (foldC c us) := by
  induction us with
  | nil => exact fun h => h
  | cons u us ih => exact fun h => ih (putC_keys h)
theorem foldC_len {us : List Use} : ∀ {c : Cells}, (foldC c us).length ≤ c.length + us.length := by
  induction us with
  | nil => intro c; exact Nat.le_refl _
  | cons u us ih =>
    intro c
    have := ih (c := putC c u.1 u.2.2.2)
    have h2 := putC_len (c := c) (n := u.1) (v := u.2.2.2)
    show (foldC (putC c u.1 u.2.2.2) us).length ≤ _
    rw [List.length_cons]; omega
/-- from behind -/
theorem snoc_ind {α : Type} {P : List α → Prop} (h0 : P []) (h1 : ∀ l a, P l → P (l ++ [a])) (l : List α) : P l := by
  have : ∀ r : List α, P r.reverse := fun r => by
    induction r with
    | nil => exact h0
    | cons a r ih => rw [List.reverse_cons]; exact h1 _ _ ih
  have h := this l.reverse
  rwa [List.reverse_reverse] at h
theorem look_fold {us : List Use} {n : Int} : look (foldC [] us) n = lastVal us n := by
  refine snoc_ind (P := fun us => look (foldC [] us) n = lastVal us n) rfl (fun l a ih => ?_) us
  rw [foldC_snoc, look_put, lastVal_snoc, ih]
theorem shownC_congr {c d : Cells} (hc : KeysOk c) (hd : KeysOk d) (h : ∀ n, look c n = look d n) : shownC c = shownC d := by
  unfold shownC
  apply sortC_congr
  have nd : ∀ {c : Cells}, KeysOk c → (c.filter fun p => decide (p.2 ≠ 0)).Nodup := fun {c} hc => by
    have := (hc.filter (f := fun p => decide (p.2 ≠ 0)))
    exact List.Pairwise.of_map (fun x : Int × Int => x.1) (fun a b hab e => hab (by rw [e])) this
  have mem : ∀ {c : Cells}, KeysOk c → ∀ p, p ∈ c.filter (fun p => decide (p.2 ≠ 0)) ↔ p.2 ≠ 0 ∧ look c p.1 = p.2 := fun {c} hc p => by
    rw [List.mem_filter]
    constructor
    · rintro ⟨h1, h2⟩
      exact ⟨by simpa using h2, look_mem hc h1⟩
    · rintro ⟨h1, h2⟩
      refine ⟨?_, by simpa using h1⟩
      by_cases hm : p.1 ∈ c.map (·.1)
      · obtain ⟨q, hq, e⟩ := List.mem_map.mp hm
        have := look_mem hc (n := q.1) (v := q.2) hq
        have e2 : q = p := by
          apply Prod.ext e
          have e3 : look c q.1 = look c p.1 := by rw [e]
          rw [this, h2] at e3; exact e3
        rw [← e2]; exact hq
      · rw [look_no hm] at h2; exact absurd h2.symm h1
  rw [List.perm_ext_iff_of_nodup (nd hc) (nd hd)]
  intro p
  rw [mem hc, mem hd, h]
theorem time_inj {l : List Use} (nd : (l.map (·.2.1)).Nodup) {a b : Use} (ha : a ∈ l) (hb : b ∈ l) (hab : a.2.1 = b.2.1) : a = b := by
  induction l with
  | nil => cases ha
  | cons x l ih =>
    rw [List.map_cons, List.nodup_cons] at nd
    rcases List.mem_cons.mp ha with ha | ha <;> rcases List.mem_cons.mp hb with hb | hb
    · rw [ha, hb]
    · rw [ha] at hab; exact absurd (List.mem_map.mpr ⟨b, hb, hab.symm⟩) nd.1
    · rw [hb] at hab; exact absurd (List.mem_map.mpr ⟨a, ha, hab⟩) nd.1
    · exact ih nd.2 ha hb
/-- in a sorted list the last value is that of the latest use -/
theorem lastVal_max {L : List Use} (pw : L.Pairwise fun a b => leU a b = true) (nd : (L.map (·.2.1)).Nodup) {p : Use} (hp : p ∈ L) (mx : ∀ q ∈ L, q.1 = p.1 → q.2.1 ≤ p.2.1) : lastVal L p.1 = p.2.2.2 := by
  revert pw nd hp mx
  refine snoc_ind (P := fun L => L.Pairwise (fun a b => leU a b = true) → (L.map (·.2.1)).Nodup → p ∈ L → (∀ q ∈ L, q.1 = p.1 → q.2.1 ≤ p.2.1) → lastVal L p.1 = p.2.2.2) (fun _ _ h _ => by cases h) (fun l u ih pw nd hp mx => ?_) L
  rw [lastVal_snoc]
  by_cases hn : u.1 = p.1
  · rw [if_pos hn]
    have h1 := mx u (by simp) hn
    rcases List.mem_append.mp hp with h | h
    · have h2 := leU_lex ((List.pairwise_append.mp pw).2.2 p h u (by simp))
      have : p = u := time_inj nd (List.mem_append_left _ h) (by simp) (by omega)
      rw [this]
    · simp at h; rw [h]
  · rw [if_neg hn]
    have hp' : p ∈ l := by
      rcases List.mem_append.mp hp with h | h
      · exact h
      · simp at h; exact absurd (by rw [h]) hn
    rw [List.map_append, List.nodup_append] at nd
    exact ih (List.pairwise_append.mp pw).1 nd.1 hp' fun q hq => mx q (List.mem_append_left _ hq)
theorem lastVal_no {L : List Use} {n : Int} (h : ∀ q ∈ L, q.1 ≠ n) : lastVal L n = 0 := by
  unfold lastVal
  rw [List.find?_eq_none.mpr fun q hq => by
    simp only [decide_eq_true_eq]
    exact h q (List.mem_reverse.mp hq)]
  rfl
theorem usesOf_eq {rs : List Deed} {ss : List DSt} : usesOf rs (ss.map stD) = sortU (usesTo rs (ss.map stD) (ss.length - 1)) := by unfold usesOf rawUses usesTo; rw [List.length_map]
theorem usesOf_times {rs : List Deed} {ss : List DSt} : ((usesOf rs (ss.map stD)).map (·.2.1)).Nodup := by
  rw [usesOf_eq]; exact ((sortU_perm _).map _).nodup_iff.mpr usesTo_times
theorem usesOf_sorted {rs : List Deed} {ss : List DSt} : (usesOf rs (ss.map stD)).Pairwise fun a b => leU a b = true := by
  rw [usesOf_eq]; exact sortU_sorted _
theorem usesOf_to {rs : List Deed} {ss : List DSt} {t : Nat} (ht : t < ss.length) (q : Use) : (q ∈ usesOf rs (ss.map stD) ∧ q.2.1 < (t : Int)) ↔ q ∈ usesTo rs (ss.map stD) t := by
  rw [usesOf_eq, (sortU_perm _).mem_iff]
  constructor
  · rintro ⟨hq, hl⟩
    obtain ⟨j, hj, ej, tj⟩ := usesTo_time hq
    exact usesTo_mem ej (by omega)
  · intro hq
    obtain ⟨j, hj, ej, tj⟩ := usesTo_time hq
    exact ⟨usesTo_mem ej (by omega), by omega⟩
/-- the cells at a time, told by the uses alone -/
theorem cells_told {rs : List Deed} (g : Good rs) {ss : List DSt} (c : Chain rs ss) {t : Nat} (ht : t < ss.length) (hk : KeysOk (dAt ss t).cells) : shownC (foldC [] ((usesOf rs (ss.map stD)).filter fun u => decide (u.2.1 < (t : Int)))) = shownC (dAt ss t).cells := by
  refine shownC_congr (foldC_keys (by simp [KeysOk])) hk fun n => ?_
  rw [look_fold, cells_run g c t ht]
  have mem : ∀ q, q ∈ (usesOf rs (ss.map stD)).filter (fun u => decide (u.2.1 < (t : Int))) ↔ q ∈ usesTo rs (ss.map stD) t := fun q => by
    rw [List.mem_filter, ← usesOf_to ht]; simp
  rcases lastVal_rel (rs := rs) (ts := ss.map stD) (i := t) (n := n) with ⟨p, hp, en, mx, v⟩ | ⟨no, v⟩
  · rw [v, ← en]
    refine lastVal_max (usesOf_sorted.filter _) ?_ ((mem p).mpr hp) fun q hq hqn => mx q ((mem q).mp hq) (by omega)
    exact List.Nodup.sublist (List.filter_sublist.map _) usesOf_times
  · rw [v]
    exact lastVal_no fun q hq => no q ((mem q).mp hq)
/-- a get's value, by what stands ahead of it in the sorted uses -/
theorem get_told {rs : List Deed} (g : Good rs) {ss : List DSt} (c : Chain rs ss) {A B : List Use} {u : Use} (e : usesOf rs (ss.map stD) = A ++ u :: B) (hw : u.2.2.1 = "get") : u.2.2.2 = lastVal A u.1 := by
  have tl := told_run g c
  have pw := usesOf_sorted (rs := rs) (ss := ss)
  have nd := usesOf_times (rs := rs) (ss := ss)
  have mem : ∀ q, q ∈ usesTo rs (ss.map stD) (ss.length - 1) ↔ q ∈ A ++ u :: B := fun q => by rw [← e, usesOf_eq, (sortU_perm _).mem_iff]
  rw [e] at pw nd
  have pw' := List.pairwise_append.mp pw
  have ndA : (A.map (·.2.1)).Nodup := by
    rw [List.map_append, List.nodup_append] at nd; exact nd.1
  have ahead : ∀ q ∈ A, q.1 = u.1 → q.2.1 < u.2.1 := fun q hq hn => by
    have h1 := leU_lex (pw'.2.2 q hq u (by simp))
    have h2 : q.2.1 ≠ u.2.1 := by
      rw [List.map_append, List.nodup_append] at nd
      exact nd.2.2 _ (List.mem_map.mpr ⟨q, hq, rfl⟩) _ (List.mem_map.mpr ⟨u, by simp, rfl⟩)
    omega
  have behind : ∀ q, q ∈ A ++ u :: B → q.1 = u.1 → q.2.1 < u.2.1 → q ∈ A := fun q hq h1 h2 => by
    rcases List.mem_append.mp hq with h | h
    · exact h
    · rcases List.mem_cons.mp h with h | h
      · subst h; omega
      · have := leU_lex ((List.pairwise_cons.mp pw'.2.1).1 q h)
        omega
  rcases tl u ((mem u).mpr (by simp)) hw with ⟨p, hp, e1, e2, mx, v⟩ | ⟨no, v⟩
  · have hpA := behind p ((mem p).mp hp) e1 e2
    rw [v, ← e1]
    exact (lastVal_max pw'.1 ndA hpA fun q hq hqn => mx q ((mem q).mpr (List.mem_append_left _ hq)) (by omega) (ahead q hq (by omega))).symm
  · rw [v]
    exact (lastVal_no fun q hq hqn => no q ((mem q).mpr (List.mem_append_left _ hq)) hqn (ahead q hq hqn)).symm
/-! sorted ints -/
def leI (a b : Int) : Bool := decide (a ≤ b)
theorem leI_data (a b : Int) : leI a b = PySem.W.dataLe false toPy (.int a) (.int b) := by
  show _ = !PySem.W.dataLt _ _
  have e : PySem.W.dataLt (toPy (.int b)) (toPy (.int a)) = decide (b < a) := by
    simp [toPy, PySem.W.dataLt, PySem.W.keyToks, PyProof.Rows.lexLt, PyProof.Rows.itemOrd, PyProof.Rows.itemLt]
  rw [e]
  unfold leI
  by_cases h : b < a
  · rw [decide_eq_true h, decide_eq_false (by omega)]; rfl
  · rw [decide_eq_false h, decide_eq_true (by omega)]; rfl
theorem sortD_I (c : List Int) : sortD (c.map D.int) = (c.mergeSort leI).map D.int := by
  unfold sortD
  rw [List.map_mergeSort]
  intro a _ b _
  exact leI_data a b
theorem sortOk_I {c : List Int} (h : c.length ≤ 16777216) : sortOk (c.map D.int) = true := by
  unfold sortOk
  simp only [Bool.and_eq_true, Bool.or_eq_true]
  refine ⟨⟨⟨?_, .inr ?_⟩, ?_⟩, ?_⟩
  · refine List.all_eq_true.mpr fun a ha => List.all_eq_true.mpr fun b hb => ?_
    obtain ⟨p, _, rfl⟩ := List.mem_map.mp ha
    obtain ⟨q, _, rfl⟩ := List.mem_map.mp hb
    simp [toPy, PySem.W.alike]
  · refine List.all_eq_true.mpr fun a ha => ?_
    obtain ⟨p, _, rfl⟩ := List.mem_map.mp ha
    rfl
  · refine List.all_eq_true.mpr fun a ha => ?_
    obtain ⟨p, _, rfl⟩ := List.mem_map.mp ha
    simp [toPy, PyData.depth]
  · rw [List.length_map]; exact decide_eq_true (by rw [szl]; exact h)
theorem sorted_I {c : List Int} {G : Gd} (h : c.length ≤ 16777216) : bSorted false [.d (.lst (c.map D.int))] G = .ok (.d (.lst ((c.mergeSort leI).map D.int)), G) := by
  simp [bSorted, asSeq, sortOk_I h, sortD_I, newL]
theorem leI_trans (a b c : Int) (h : leI a b = true) (h2 : leI b c = true) : leI a c = true := by
  unfold leI at *
  simp only [decide_eq_true_eq] at *
  omega
theorem leI_total (a b : Int) : (leI a b || leI b a) = true := by
  unfold leI
  simp only [Bool.or_eq_true, decide_eq_true_eq]
  omega
theorem sortI_unique {a b : List Int} (p : a.Perm b) (hb : b.Pairwise fun x y => leI x y = true) : a.mergeSort leI = b :=
  List.Perm.eq_of_pairwise (le := fun x y => leI x y = true) (fun x y _ _ h h2 => by
    have h' : x ≤ y := of_decide_eq_true h
    have h2' : y ≤ x := of_decide_eq_true h2
    omega) (List.pairwise_mergeSort leI_trans leI_total a) hb ((List.mergeSort_perm a leI).trans p)
/-- the times of the uses -/
theorem times_told {rs : List Deed} {ts : List Stp} : ∀ {i : Nat}, (usesTo rs ts i).map (·.2.1) = ((List.range i).filter fun t => isUse (rowAt rs (stepAt ts t).1.toNat)).map fun t : Nat => (t : Int)
  | 0 => rfl
  | i + 1 => by
    have st : usesTo rs ts (i + 1) = usesTo rs ts i ++ (useAt rs ts i).toList := range_filterMap_succ
    rw [st, List.map_append, times_told, List.range_succ, List.filter_append, List.map_append]
    congr 1
    unfold useAt useOf
    cases hr : rowAt rs (stepAt ts i).1.toNat <;> simp [hr, isUse]
/-! what is told -/
def tellOf (rs : List Deed) (t : Stp) : Option Int := match rowAt rs t.1.toNat with | .tell a => some (bx t.2 a) | _ => none
def toldS (rs : List Deed) (ts : List Stp) : List Int := (ts.take (ts.length - 1)).filterMap (tellOf rs)
theorem toldS_len {rs : List Deed} {ts : List Stp} : (toldS rs ts).length ≤ ts.length := by
  unfold toldS
  refine Nat.le_trans (List.length_filterMap_le _ _) ?_
  rw [List.length_take]; omega
theorem filterMap_snoc {α β : Type} {f : α → Option β} {l : List α} {a : α} : (l ++ [a]).filterMap f = l.filterMap f ++ (f a).toList := by
  rw [List.filterMap_append]
  cases h : f a <;> simp [h]
theorem enc_at {β : Type} {en : β → D} {us : List β} {i : Nat} {w : W} (hw : ((us.map en).map W.d)[i]? = some w) : ∃ u, us[i]? = some u ∧ w = .d (en u) := by
  rw [List.getElem?_map, List.getElem?_map] at hw
  cases e : us[i]? with
  | none => rw [e] at hw; simp at hw
  | some u => rw [e] at hw; simp at hw; exact ⟨u, rfl, hw.symm⟩
theorem take_snoc {β : Type} {us : List β} {i : Nat} {u : β} (h : us[i]? = some u) : us.take (i + 1) = us.take i ++ [u] := by
  rw [List.take_succ, h]; rfl
end M

set_option maxRecDepth 100000
set_option maxHeartbeats 4000000
namespace M
open PySem PySem.Spec PyProof.Rows L2
/-! ### numbers that pass -/
theorem compM_rng {i : Nat} {t : FT} {e : FE} {s : Sd} {G : Gd} (p : Nat → Bool) {n : Nat} (ht : ∀ k : Nat, k < n → t ((s.set i none).set i (some (.d (.int (k : Int))))) G = .ok (p k, G)) (he : ∀ k : Nat, k < n → e ((s.set i none).set i (some (.d (.int (k : Int))))) G = .ok (.d (.int (k : Int)), G)) (hl : n ≤ 16777216) :
    compM i t e (rngW 0 n) [] s G = .ok ((((List.range n).filter p).map fun k : Nat => D.int (k : Int)).map W.d, G) := by
  have hm : ∀ w ∈ rngW 0 n, ∃ k : Nat, k < n ∧ w = .d (.int (k : Int)) := fun w hw => by
    unfold rngW at hw
    obtain ⟨k, hk, rfl⟩ := List.mem_map.mp hw
    exact ⟨k, List.mem_range.mp hk, by rw [Int.zero_add]⟩
  rw [compM_eq (fun w => match w with | .d (.int k) => p k.toNat | _ => false) id (fun w hw => by
    obtain ⟨k, hk, rfl⟩ := hm w hw
    simpa using ht k hk) (fun w hw _ => by
    obtain ⟨k, hk, rfl⟩ := hm w hw
    simpa using he k hk) (by simpa using hl)]
  rw [List.nil_append]
  congr 2
  unfold rngW
  rw [List.filter_map, List.map_map, List.map_map]
  have : ((fun w : W => match w with | .d (.int k) => p k.toNat | _ => false) ∘ fun i : Nat => W.d (.int (0 + (i : Int)))) = p := by
    funext k
    simp
  rw [this]
  apply List.map_congr_left
  intro k _
  simp
theorem firstB_filter {p : Nat → Bool} : ∀ {n k : Nat}, firstB p n k = ((List.range' k n).filter p).head?
  | 0, k => rfl
  | n + 1, k => by
    unfold firstB
    rw [List.range'_succ, List.filter_cons]
    by_cases h : p k = true
    · rw [if_pos h, if_pos h]; rfl
    · rw [if_neg h, if_neg h]; exact firstB_filter
theorem first_cases (p : Nat → Bool) (n : Nat) : (firstB p n 0 = none ∧ (List.range n).filter p = []) ∨ ∃ k rest, firstB p n 0 = some k ∧ (List.range n).filter p = k :: rest := by
  rw [firstB_filter, List.range_eq_range']
  cases h : (List.range' 0 n).filter p with
  | nil => exact .inl ⟨rfl, rfl⟩
  | cons k rest => exact .inr ⟨k, rest, rfl, rfl⟩
theorem ne_nil_ints {ks : List Nat} {G : Gd} : wEq true (.d (.lst (ks.map fun k : Nat => D.int (k : Int)))) (.d (.lst [])) G = .ok (.d (.bl (!ks.isEmpty)), G) := by
  rw [wEq_pl toDat_d toDat_d (by rw [plB_lst]; exact plBs_map fun _ _ => plB_int) (by simp)]
  cases ks <;> simp
end M

set_option maxRecDepth 100000
set_option maxHeartbeats 4000000
namespace M
open PySem PySem.Spec PyProof.Rows L2
/-! ### only the run fits -/
def ltU (a b : Use) : Prop := a.1 < b.1 ∨ a.1 = b.1 ∧ a.2.1 < b.2.1
theorem ltU_trans {a b c : Use} (h : ltU a b) (h2 : ltU b c) : ltU a c := by unfold ltU at *; omega
theorem fits_lt {p u : Use} (h : useFits (some p) u = true) : ltU p u := by
  unfold useFits at h
  simp only [Bool.and_eq_true, decide_eq_true_eq] at h
  exact h.1
theorem bad_step {a : Option Use} {u : Use} {us : List Use} {k : Nat} (h : badUse a (u :: us) k = none) : useFits a u = true ∧ badUse (some u) us (k + 1) = none := by
  unfold badUse at h
  split at h
  · rename_i e; exact ⟨e, h⟩
  · cases h
theorem bad_strict : ∀ {us : List Use} {a : Option Use} {k : Nat}, badUse a us k = none → us.Pairwise ltU ∧ ∀ p, a = some p → ∀ u ∈ us, ltU p u
  | [], a, k, _ => ⟨List.Pairwise.nil, fun p _ u h => by cases h⟩
  | u :: us, a, k, h => by
    obtain ⟨h1, h2⟩ := bad_step h
    obtain ⟨pw, hd⟩ := bad_strict h2
    refine ⟨List.pairwise_cons.mpr ⟨fun x hx => hd u rfl x hx, pw⟩, fun p hp x hx => ?_⟩
    subst hp
    have l := fits_lt h1
    rcases List.mem_cons.mp hx with rfl | hx
    · exact l
    · exact ltU_trans l (hd u rfl x hx)
theorem bad_at : ∀ {A : List Use} {u : Use} {B : List Use} {a : Option Use} {k : Nat}, badUse a (A ++ u :: B) k = none → useFits (A.getLast?.or a) u = true
  | [], u, B, a, k, h => (bad_step h).1
  | x :: A, u, B, a, k, h => by
    have := bad_at (bad_step (us := A ++ u :: B) h).2
    rw [List.getLast?_cons]
    cases hA : A.getLast? with
    | none => rw [hA] at this; simpa using this
    | some y => rw [hA] at this; simpa using this
theorem useAt_time {rs : List Deed} {ts : List Stp} {i : Nat} {u : Use} (hu : useAt rs ts i = some u) : u.2.1 = (i : Int) := by
  unfold useAt useOf at hu
  split at hu
  · cases hu; rfl
  · cases hu; rfl
  · cases hu
theorem match_at {rs : List Deed} {ts : List Stp} {u : Use} (h : matchB rs ts u = true) : ∃ t : Nat, t + 1 < ts.length ∧ useAt rs ts t = some u := by
  unfold matchB at h
  split at h
  · cases h
  · rename_i h1
    split at h
    · obtain ⟨n, t, w, v⟩ := u
      simp only at h h1
      refine ⟨t.toNat, by omega, ?_⟩
      have et : ((t.toNat : Nat) : Int) = t := by omega
      split at h
      · rename_i a x e
        simp only [Bool.and_eq_true, decide_eq_true_eq] at h
        unfold useAt
        rw [e]
        unfold useOf
        simp only [h.1, h.2.1, h.2.2, et]
      · rename_i a x e
        simp only [Bool.and_eq_true, decide_eq_true_eq] at h
        unfold useAt
        rw [e]
        unfold useOf
        simp only [h.1, h.2.1, h.2.2, et]
      · cases h
    · cases h
theorem sub_perm {α : Type} [DecidableEq α] : ∀ {l m : List α}, l.Nodup → (∀ x ∈ l, x ∈ m) → m.length ≤ l.length → l.Perm m
  | [], m, _, _, h => by
    have : m = [] := List.length_eq_zero_iff.mp (by simpa using h)
    rw [this]
  | x :: l, m, nd, hs, h => by
    have hx : x ∈ m := hs x (by simp)
    rw [List.nodup_cons] at nd
    have p := List.perm_cons_erase hx
    refine List.Perm.trans (List.Perm.cons x (sub_perm nd.2 (fun y hy => ?_) ?_)) p.symm
    · have hne : y ≠ x := fun e => nd.1 (e ▸ hy)
      exact (List.mem_erase_of_ne hne).mpr (hs y (List.mem_cons_of_mem _ hy))
    · rw [List.length_erase_of_mem hx]
      simp at h
      omega
theorem strict_unique {a b : List Use} (ha : a.Pairwise ltU) (hb : b.Pairwise fun x y => leU x y = true) (p : a.Perm b) : a = b := by
  have le : ∀ x y, ltU x y → leU x y = true := fun x y h => by
    have := leU_total x y
    rw [Bool.or_eq_true] at this
    rcases this with h2 | h2
    · exact h2
    · have := leU_lex h2
      unfold ltU at h
      omega
  have inj : ∀ {l : List Use}, l.Pairwise ltU → ∀ x ∈ l, ∀ y ∈ l, x.1 = y.1 → x.2.1 = y.2.1 → x = y := fun {l} => by
    induction l with
    | nil => intro _ x hx; cases hx
    | cons z l ih =>
      intro pw x hx y hy h1 h2
      rw [List.pairwise_cons] at pw
      rcases List.mem_cons.mp hx with ex | ex <;> rcases List.mem_cons.mp hy with ey | ey
      · rw [ex, ey]
      · have := pw.1 y ey; rw [← ex] at this; unfold ltU at this; omega
      · have := pw.1 x ex; rw [← ey] at this; unfold ltU at this; omega
      · exact ih pw.2 x ex y ey h1 h2
  refine List.Perm.eq_of_pairwise (le := fun x y => leU x y = true) (fun x y hx hy h h2 => ?_) (ha.imp (le _ _)) hb p
  have l1 := leU_lex h
  have l2 := leU_lex h2
  have e1 : x.1 = y.1 := by omega
  have e2 : x.2.1 = y.2.1 := by omega
  exact inj ha x hx y (p.mem_iff.mpr hy) e1 e2
theorem due_raw {rs : List Deed} {ts : List Stp} : dueN rs ts = (rawUses rs ts).length := by
  rw [run_count]; unfold usesOf; exact (sortU_perm _).length_eq
theorem only_uses {rs : List Deed} {ts : List Stp} {us : List Use} (h : usesPlace rs ts us = none) : us = usesOf rs ts ∧ us.Perm (rawUses rs ts) ∧ badUse none us 0 = none := by
  unfold usesPlace at h
  split at h
  · cases h
  · rename_i hb
    split at h
    · cases h
    · rename_i hm
      split at h
      · rename_i hd
        have mt : ∀ u ∈ us, matchB rs ts u = true := fun u hu => by
          obtain ⟨i, hi, rfl⟩ := List.getElem_of_mem hu
          have := firstB_none.mp hm i hi
          rw [Nat.zero_add] at this
          have e : useN us i = us[i] := by
            unfold useN; rw [List.getD_eq_getElem?_getD, List.getElem?_eq_getElem hi]; rfl
          rw [e] at this
          simpa using this
        have sub : ∀ u ∈ us, u ∈ rawUses rs ts := fun u hu => by
          obtain ⟨t, ht, e⟩ := match_at (mt u hu)
          exact List.mem_filterMap.mpr ⟨t, by simp; omega, e⟩
        have pw := (bad_strict hb).1
        have nd : us.Nodup := pw.imp fun {a b} h e => by subst e; unfold ltU at h; omega
        have p := sub_perm nd sub (by rw [← due_raw, hd]; exact Nat.le_refl _)
        exact ⟨strict_unique pw (sortU_sorted _) (p.trans (sortU_perm _).symm), p, hb⟩
      · cases h
/-- what a get tells is the last value ahead -/
theorem only_val {rs : List Deed} {ts : List Stp} {us : List Use} (p : us.Perm (rawUses rs ts)) (hb : badUse none us 0 = none) {i : Nat} {u : Use} (hi : i + 1 < ts.length) (hu : useAt rs ts i = some u) (hw : u.2.2.1 = "get") : u.2.2.2 = lastVal (usesTo rs ts i) u.1 := by
  have ut := useAt_time hu
  have mem : u ∈ us := p.mem_iff.mpr (List.mem_filterMap.mpr ⟨i, by simp; omega, hu⟩)
  obtain ⟨A, B, e⟩ := List.append_of_mem mem
  have pw := (bad_strict hb).1
  rw [e] at hb pw
  have f := bad_at hb
  have pa := List.pairwise_append.mp pw
  -- what is less than u stands ahead of it
  have ahead : ∀ q ∈ usesTo rs ts i, q.1 = u.1 → q ∈ A ∧ ltU q u := fun q hq hn => by
    obtain ⟨j, hj, ej, tj⟩ := usesTo_time hq
    have lt : ltU q u := .inr ⟨hn, by rw [tj, ut]; omega⟩
    have : q ∈ us := p.mem_iff.mpr (List.mem_filterMap.mpr ⟨j, by simp; omega, ej⟩)
    rw [e] at this
    rcases List.mem_append.mp this with h | h
    · exact ⟨h, lt⟩
    · rcases List.mem_cons.mp h with h | h
      · subst h; unfold ltU at lt; omega
      · have := (List.pairwise_cons.mp pa.2.1).1 q h
        unfold ltU at lt this; omega
  cases hA : A.getLast? with
  | none =>
    have hA' : A = [] := List.getLast?_eq_none_iff.mp hA
    rw [hA] at f
    have v0 : u.2.2.2 = 0 := by
      simp [useFits, hw] at f
      exact f
    rw [v0]
    rcases lastVal_rel (rs := rs) (ts := ts) (i := i) (n := u.1) with ⟨q, hq, hn, _, _⟩ | ⟨_, v⟩
    · have := (ahead q hq hn).1
      rw [hA'] at this; cases this
    · exact v.symm
  | some y =>
    rw [hA] at f
    have hyA : y ∈ A := List.mem_of_getLast? hA
    have v0 : u.2.2.2 = if u.1 = y.1 then y.2.2.2 else 0 := by
      simp [useFits, hw] at f
      exact f.2
    have lyu : ltU y u := pa.2.2 y hyA u (by simp)
    have yin : y ∈ rawUses rs ts := p.mem_iff.mp (by rw [e]; exact List.mem_append_left _ hyA)
    obtain ⟨j, hj, ej⟩ := List.mem_filterMap.mp yin
    have tj := useAt_time ej
    have lasty : ∀ q ∈ A, q = y ∨ ltU q y := fun q hq => by
      obtain ⟨A', e'⟩ : ∃ A', A = A' ++ [y] := List.getLast?_eq_some_iff.mp hA
      rw [e'] at hq pa
      rcases List.mem_append.mp hq with h | h
      · exact .inr ((List.pairwise_append.mp pa.1).2.2 q h y (by simp))
      · simp at h; exact .inl h
    rw [v0]
    by_cases en : u.1 = y.1
    · rw [if_pos en]
      have yi : y ∈ usesTo rs ts i := by
        refine usesTo_mem ej ?_
        unfold ltU at lyu
        rw [tj, ut] at lyu
        omega
      rcases lastVal_rel (rs := rs) (ts := ts) (i := i) (n := u.1) with ⟨q, hq, hn, mx, v⟩ | ⟨no, _⟩
      · have l1 := mx y yi en.symm
        rcases lasty q (ahead q hq hn).1 with h | h
        · rw [v, h]
        · unfold ltU at h; omega
      · exact absurd en.symm (no y yi)
    · rw [if_neg en]
      rcases lastVal_rel (rs := rs) (ts := ts) (i := i) (n := u.1) with ⟨q, hq, hn, mx, v⟩ | ⟨_, v⟩
      · obtain ⟨hqA, lq⟩ := ahead q hq hn
        rcases lasty q hqA with h | h
        · subst h; exact absurd hn.symm en
        · unfold ltU at h lyu; omega
      · exact v.symm
theorem usesTo_congr {rs : List Deed} {ts ts' : List Stp} {i : Nat} (h : ∀ j, j ≤ i → stepAt ts j = stepAt ts' j) : usesTo rs ts i = usesTo rs ts' i := by
  unfold usesTo
  have : ∀ l : List Nat, (∀ j ∈ l, j < i) → l.filterMap (useAt rs ts) = l.filterMap (useAt rs ts') := fun l => by
    induction l with
    | nil => intro _; rfl
    | cons j l ih =>
      intro hl
      have e : useAt rs ts j = useAt rs ts' j := by
        have hj := hl j (by simp)
        unfold useAt
        rw [h j (by omega), h (j + 1) (by omega)]
      rw [List.filterMap_cons, List.filterMap_cons, e, ih fun k hk => hl k (List.mem_cons_of_mem _ hk)]
  exact this _ fun j hj => by simpa using hj
theorem only_run {rs : List Deed} (g : Good rs) {b : List Int} {ss : List DSt} (c : Chain rs ss) (h0 : stD (dAt ss 0) = (0, b)) {most : Nat} (mx : ss.length ≤ most → rowAt rs (dAt ss (ss.length - 1)).place = .halt)
    {ts : List Stp} {us : List Use} (hl : ts.length ≤ most + 1) (hf : faultOf rs b ts us = none) : rowAt rs (dAt ss (ss.length - 1)).place = .halt ∧ ts = ss.map stD ∧ us = usesOf rs (ss.map stD) := by
  unfold faultOf at hf
  split at hf
  · cases hf
  · rename_i hs
    obtain ⟨eu, pm, hb⟩ := only_uses hf
    unfold stepsPlace at hs
    split at hs
    · cases hs
    · rename_i hbeg
      have hp : 0 < ts.length := by
        rcases Nat.eq_zero_or_pos ts.length with h | h
        · exact absurd (Or.inl h) hbeg
        · exact h
      have hb0 : stepAt ts 0 = (0, b) := Decidable.byContradiction fun h => hbeg (Or.inr h)
      split at hs
      · cases hs
      · rename_i hfit
        split at hs
        · rename_i hend
          have fit : ∀ i, i + 1 < ts.length → fitsB rs (stepAt ts i) (stepAt ts (i + 1)) = true := fun i hi => by
            have := firstB_none.mp hfit i (by omega)
            rw [Nat.zero_add] at this
            simpa using this
          have key : ∀ n, ∀ i, i ≤ n → i < ts.length → i < ss.length ∧ stepAt ts i = stD (dAt ss i) := by
            intro n
            induction n with
            | zero =>
              intro i hi _
              obtain rfl : i = 0 := by omega
              exact ⟨c.len, by rw [hb0, h0]⟩
            | succ n ih =>
              intro i hi hit
              by_cases hin : i ≤ n
              · exact ih i hin hit
              · obtain rfl : i = n + 1 := by omega
                obtain ⟨hns, en⟩ := ih n (Nat.le_refl _) (by omega)
                have ft := fit n hit
                unfold fitsB at ft
                split at ft
                · rename_i hr
                  rw [en] at hr ft
                  have tn : (stD (dAt ss n)).1.toNat = (dAt ss n).place := rfl
                  rw [tn] at hr ft
                  have hlt : n + 1 < ss.length := by
                    rcases Nat.lt_or_ge (n + 1) ss.length with h | h
                    · exact h
                    · have e : ss.length - 1 = n := by omega
                      have := mx (by omega)
                      rw [e] at this
                      exact absurd this hr.2
                  refine ⟨hlt, ?_⟩
                  have st := (c.step n hlt).2
                  have ft := of_decide_eq_true ft
                  rw [ft, st]
                  have ok := g.rowOk (dAt ss n).place
                  have b8 := c.b8 n hns
                  have b2 : (stD (dAt ss n)).2 = (dAt ss n).boxes := rfl
                  rw [b2]
                  cases hd : rowAt rs (dAt ss n).place with
                  | get a x =>
                    rw [hd] at ft ok
                    -- the use of this step
                    have hu : useAt rs ts n = some (bx (dAt ss n).boxes x, (n : Int), ("get" : Str), bx (stepAt ts (n + 1)).2 a) := by
                      unfold useAt useOf
                      rw [en, tn, hd]; rfl
                    have v := only_val pm hb hit hu rfl
                    simp only at v
                    have cr := cells_run g c n hns (bx (dAt ss n).boxes x)
                    have uc : usesTo rs ts n = usesTo rs (ss.map stD) n := usesTo_congr fun j hj => by
                      obtain ⟨hjs, ej⟩ := ih j hj (by omega)
                      rw [ej, stepAt_map hjs]
                    rw [uc, ← cr] at v
                    show (_, _) = (_, _)
                    have : heldOf (.get a x) (stepAt ts (n + 1)).2 = look (dAt ss n).cells (bx (dAt ss n).boxes x) := v
                    rw [this]; rfl
                  | _ => rfl
                · cases ft
          have last := key (ts.length - 1) (ts.length - 1) (Nat.le_refl _) (by omega)
          have hh : rowAt rs (dAt ss (ts.length - 1)).place = .halt := by
            have := hend.2
            rw [last.2] at this
            exact this
          have len : ts.length = ss.length := by
            rcases Nat.lt_or_ge (ts.length - 1 + 1) ss.length with h | h
            · exact absurd hh (c.step _ h).1
            · omega
          have et : ts = ss.map stD := by
            apply List.ext_getElem?
            intro i
            by_cases hi : i < ts.length
            · have := (key i i (Nat.le_refl _) hi)
              have e1 : ts[i]? = some (stepAt ts i) := by
                unfold stepAt; rw [List.getD_eq_getElem?_getD, List.getElem?_eq_getElem hi]; rfl
              have e2 : (ss.map stD)[i]? = some (stepAt (ss.map stD) i) := by
                unfold stepAt; rw [List.getD_eq_getElem?_getD, List.getElem?_eq_getElem (by rw [List.length_map]; omega)]; rfl
              rw [e1, e2, this.2, stepAt_map this.1]
            · rw [List.getElem?_eq_none (by omega), List.getElem?_eq_none (by rw [List.length_map]; omega)]
          exact ⟨by rw [← len]; exact hh, et, by rw [← et]; exact eu⟩
        · cases hs
/-- states that stop early stop at a halt -/
theorem goes_stop {rs : List Deed} : ∀ {n : Nat} {s : DSt}, (s :: goes rs n s).length ≤ n → rowAt rs (dAt (s :: goes rs n s) ((s :: goes rs n s).length - 1)).place = .halt
  | 0, s, h => by simp at h
  | n + 1, s, h => by
    by_cases hh : rowAt rs s.place = .halt
    · simp [goes, hh, dAt]
    · have gs : goes rs (n + 1) s = goR (rowAt rs s.place) s :: goes rs n (goR (rowAt rs s.place) s) := by
        rw [goes]
        cases hr : rowAt rs s.place <;> first | rfl | exact absurd hr hh
      rw [gs] at h ⊢
      have := goes_stop (n := n) (s := goR (rowAt rs s.place) s) (by simp at h ⊢; omega)
      simpa [dAt] using this
end M

set_option maxRecDepth 100000
set_option maxHeartbeats 4000000
namespace M
open PySem PySem.Spec PyProof.Rows L2
/-! ### the new mirrors, reckoned -/
section
variable {s : Sd} {G : Gd} {f g h : FE} {t u : FT} {a b : FA} {x y : W} {v : FJ} {P : Gd → Prop} {B : FS} {k : FG}
@[simp] theorem x_vAny : vAny f s G = (f s G).bind fun p => match p.1 with
  | .ref j => match p.2[j]? with
    | some (.lst ws) => .ok ((ws, isL j ws), p.2)
    | some (.still ds) => .ok ((ds.map W.d, fun _ => True), p.2)
    | _ => .bad
  | .d (.str z) => .ok ((strSeq z, fun _ => True), p.2)
  | w => match stillSeq w with
    | some (_, ws) => .ok ((ws, fun _ => True), p.2)
    | none => .bad := rfl
@[simp] theorem x_vEnum : vEnum a s G = (a s G).bind fun p => match p.1 with
  | [.ref j] => match p.2[j]? with
    | some (.lst xs) => match enumW xs with
      | some ys => .ok ((ys, isL j xs), p.2)
      | none => .bad
    | _ => .bad
  | _ => .bad := rfl
@[simp] theorem x_sForV : sForV v k B s G = (v s G).bind fun p => gate (p.1.2 p.2) (forM k (chk p.1.2 B) p.1.1 s p.2) := rfl
@[simp] theorem x_eCompV {m : Bool} {i : Nat} : eCompV m i v t f s G = (v s G).bind fun p => gate (p.1.2 p.2) ((compM i (chkT p.1.2 t) (chkE p.1.2 f) p.1.1 [] s p.2).bind fun q => newL m q.1 q.2) := rfl
@[simp] theorem x_eCompTV {m : Bool} {is : List Nat} : eCompTV m is v t f s G = (v s G).bind fun p => gate (p.1.2 p.2) ((compT is (chkT p.1.2 t) (chkE p.1.2 f) p.1.1 [] s p.2).bind fun q => newL m q.1 q.2) := rfl
@[simp] theorem isL_at {j : Nat} {ws : List W} : isL j ws G = (G[j]? = some (.lst ws)) := rfl
@[simp] theorem x_aDef {d : D} : aDef d a s G = (a s G).bind fun p => .ok (p.1 ++ [.d d], p.2) := rfl
@[simp] theorem x_aKw {n : Nat} : aKw n a f s G = (a s G).bind fun p => (f s p.2).bind fun q => if p.1.length = n then .ok (p.1 ++ [q.1], q.2) else .bad := rfl
@[simp] theorem x_eIsi2 {T1 T2 : String} : eIsi2 T1 T2 f s G = (f s G).bind fun p => wIsi2 T1 T2 p.1 p.2 := rfl
@[simp] theorem w_join {z : Str} : wJoin (.d (.str z)) [x] G = match asSeq G x with
    | some (_, zs) => match toStrs zs with
      | some ys => gate ((ys.map (·.length)).sum + ys.length * z.length ≤ 16777216) (.ok (.d (.str (Txt.join z ys)), G))
      | none => .bad
    | none => .bad := rfl
@[simp] theorem w_split {m : Bool} {z w : Str} : wSplit m (.d (.str z)) [.d (.str w)] G = gate ((w.length == 0) = false ∧ z.length + 2 ≤ sizeLine) (newL m ((Txt.split z w).map fun y => W.d (.str y)) G) := rfl
@[simp] theorem w_upper {z : Str} : wUpper (.d (.str z)) [] G = gate (z.length ≤ 5592405) (.ok (.d (.str (Txt.upper z)), G)) := rfl
@[simp] theorem w_clear {i : Nat} : wClear (.ref i) [] G = match G[i]? with
    | some (.lst _) => .ok (.d .non, G.set i (.lst []))
    | _ => .bad := rfl
@[simp] theorem w_reverse {i : Nat} : wReverse (.ref i) [] G = match G[i]? with
    | some (.lst xs) => .ok (.d .non, G.set i (.lst xs.reverse))
    | _ => .bad := rfl
@[simp] theorem w_popAt {i : Nat} {n : Int} : wPopAt (.ref i) [.d (.int n)] G = match G[i]? with
    | some (.lst xs) => gate (0 ≤ n ∧ n < xs.length ∧ n < 2 ^ 60) (match xs[n.toNat]? with
      | some x => .ok (x, G.set i (.lst (xs.eraseIdx n.toNat)))
      | none => .bad)
    | _ => .bad := rfl
@[simp] theorem toStrs_map : ∀ {ys : List Str}, toStrs (ys.map fun y => W.d (.str y)) = some ys
  | [] => rfl
  | y :: ys => by
    show (toStrs (ys.map fun y => W.d (.str y))).map (y :: ·) = _
    rw [toStrs_map]; rfl
@[simp] theorem rcS_str {z : Str} : rcS G (.d (.str z)) = true := rfl
@[simp] theorem x_chkT : chkT P t s G = (t s G).bind fun p => gate (P p.2) (.ok p) := rfl
@[simp] theorem x_chkE : chkE P f s G = (f s G).bind fun p => gate (P p.2) (.ok p) := rfl
end
theorem chk_nx {P : Gd → Prop} {b : FS} {s s' : Sd} {G G' : Gd} (h : b s G = .ok (.nx s', G')) (p : P G') : chk P b s G = .ok (.nx s', G') := by
  unfold chk; rw [h]; exact gate_pos p
theorem chk_rt {P : Gd → Prop} {b : FS} {s : Sd} {w : W} {G G' : Gd} (h : b s G = .ok (.rt w, G')) : chk P b s G = .ok (.rt w, G') := by
  unfold chk; rw [h]
/-- a live comprehension whose turns change nothing -/
theorem compV_map {i : Nat} {e : FE} {s : Sd} {G : Gd} {P : Gd → Prop} (f : W → W) {ws : List W} (hP : P G) (he : ∀ w ∈ ws, e ((s.set i none).set i (some w)) G = .ok (f w, G)) (hl : ws.length ≤ sizeLine) : compM i (chkT P tYesM) (chkE P e) ws [] s G = .ok (ws.map f, G) := by
  rw [compM_eq (fun _ => true) f (fun w hw => ?_) (fun w hw _ => ?_) (by simpa using hl), List.nil_append, List.filter_eq_self.mpr (fun _ _ => rfl)]
  · rw [chkT_eq, x_tYes, R.bind_ok, gate_pos hP]
  · rw [chkE_eq, he w hw, R.bind_ok, gate_pos hP]
theorem compV_eq {i : Nat} {t : FT} {e : FE} {s : Sd} {G : Gd} {P : Gd → Prop} (p : W → Bool) (f : W → W) {ws : List W} (hP : P G) (ht : ∀ w ∈ ws, t ((s.set i none).set i (some w)) G = .ok (p w, G)) (he : ∀ w ∈ ws, p w = true → e ((s.set i none).set i (some w)) G = .ok (f w, G)) (hl : ws.length ≤ sizeLine) :
    compM i (chkT P t) (chkE P e) ws [] s G = .ok ((ws.filter p).map f, G) := by
  rw [compM_eq p f (fun w hw => ?_) (fun w hw h => ?_) (by simpa using hl), List.nil_append]
  · rw [chkT_eq, ht w hw, R.bind_ok, gate_pos hP]
  · rw [chkE_eq, he w hw h, R.bind_ok, gate_pos hP]
/-- a live loop by an invariant of the turn -/
theorem forMV_N {g : FG} {b : FS} {K : Gd → Prop} {ws : List W} (P : Nat → Sd → Gd → Prop) (hs : ∀ i w, ws[i]? = some w → ∀ s G, P i s G → OkN ((g w s G).bind fun p => b p.1 p.2) (fun s G => P (i + 1) s G ∧ K G)) {s : Sd} {G : Gd} (h : P 0 s G) : OkN (forM g (chk K b) ws s G) (P ws.length) := by
  refine forM_N P (fun i w hw s G hp => ?_) h
  obtain ⟨s', G', e, h1, h2⟩ := hs i w hw s G hp
  cases eg : g w s G with
  | bad => rw [eg] at e; cases e
  | exc x s G => rw [eg] at e; cases e
  | ok q =>
    rw [eg] at e
    simp only [R.bind_ok] at e ⊢
    exact ⟨s', G', chk_nx e h2, h1⟩
section
variable {G : Gd} {xs : List D} {ns : List Int} {T1 T2 : String} {x : D}
theorem wIsi2_d : wIsi2 T1 T2 (.d x) G = match kitB (tyD x) T1, kitB (tyD x) T2 with
    | some b1, some b2 => .ok (.d (.bl (b1 || b2)), G)
    | _, _ => .bad := rfl
theorem ksk_tt : kitB "tuple" "tuple" = some true := by decide +kernel
theorem ksk_tl : kitB "tuple" "list" = some false := by decide +kernel
theorem ksk_lt : kitB "list" "tuple" = some false := by decide +kernel
theorem ksk_ll : kitB "list" "list" = some true := by decide +kernel
theorem ksk_it : kitB "int" "tuple" = some false := by decide +kernel
theorem ksk_il : kitB "int" "list" = some false := by decide +kernel
theorem ksk_st : kitB "str" "tuple" = some false := by decide +kernel
theorem ksk_sl : kitB "str" "list" = some false := by decide +kernel
theorem ksk_bt : kitB "bool" "tuple" = some false := by decide +kernel
theorem ksk_bl : kitB "bool" "list" = some false := by decide +kernel
theorem ksk_nt : kitB "NoneType" "tuple" = some false := by decide +kernel
theorem ksk_nl : kitB "NoneType" "list" = some false := by decide +kernel
@[simp] theorem isi2_tup : wIsi2 "tuple" "list" (.d (.tup xs)) G = .ok (.d (.bl true), G) := by rw [wIsi2_d]; simp only [tyD, ksk_tt, ksk_tl, Bool.or_false]
@[simp] theorem isi2_lst : wIsi2 "tuple" "list" (.d (.lst xs)) G = .ok (.d (.bl true), G) := by rw [wIsi2_d]; simp only [tyD, ksk_lt, ksk_ll, Bool.or_true]
@[simp] theorem isi2_scr : wIsi2 "tuple" "list" (.d (.scr ns)) G = .ok (.d (.bl true), G) := by rw [wIsi2_d]; simp only [tyD, ksk_lt, ksk_ll, Bool.or_true]
@[simp] theorem isi2_int {i : Int} : wIsi2 "tuple" "list" (.d (.int i)) G = .ok (.d (.bl false), G) := by rw [wIsi2_d]; simp only [tyD, ksk_it, ksk_il, Bool.or_false]
@[simp] theorem isi2_str {z : Str} : wIsi2 "tuple" "list" (.d (.str z)) G = .ok (.d (.bl false), G) := by rw [wIsi2_d]; simp only [tyD, ksk_st, ksk_sl, Bool.or_false]
@[simp] theorem isi2_bl {z : Bool} : wIsi2 "tuple" "list" (.d (.bl z)) G = .ok (.d (.bl false), G) := by rw [wIsi2_d]; simp only [tyD, ksk_bt, ksk_bl, Bool.or_false]
@[simp] theorem isi2_non : wIsi2 "tuple" "list" (.d .non) G = .ok (.d (.bl false), G) := by rw [wIsi2_d]; simp only [tyD, ksk_nt, ksk_nl, Bool.or_false]
end
@[simp] theorem x_eCallL {s : Sd} {G : Gd} {a : FA} {n : Nat} {F : List D → R D} : eCallL n F a s G = (a s G).bind fun p => if p.1.length = n then match toDats p.2 p.1 with
  | some ds => match F ds with
    | .ok d => if scalD d = true then .ok (.d d, p.2) else .bad
    | _ => .bad
  | none => .bad else .bad := rfl
@[simp] theorem toDats_nil {G : Gd} : toDats G [] = some [] := rfl
@[simp] theorem toDats_cons {G : Gd} {w : W} {ws : List W} : toDats G (w :: ws) = match toDat G w, toDats G ws with
    | some d, some ds => some (d :: ds)
    | _, _ => none := rfl
@[simp] theorem toDat_ref {G : Gd} {i : Nat} : toDat G (.ref i) = match G[i]? with
    | some (.lst ws) => (toDs ws).map D.lst
    | some (.still ds) => some (.lst ds)
    | _ => none := rfl
@[simp] theorem scalD_bl {b : Bool} : scalD (.bl b) = true := rfl
@[simp] theorem scalD_int {b : Int} : scalD (.int b) = true := rfl
@[simp] theorem scalD_str {b : Str} : scalD (.str b) = true := rfl
@[simp] theorem scalD_non : scalD .non = true := rfl
@[simp] theorem w_mulLm {G : Gd} {i : List D} {j : Int} : wMul true (.d (.lst i)) (.d (.int j)) G = gate (-(2 ^ 63) ≤ j ∧ j < 2 ^ 63 ∧ i.length * j.toNat ≤ sizeLine) (.ok (.ref G.length, G ++ [.lst (((List.replicate j.toNat i).flatten).map W.d)])) := by
  simp [wMul, asSeq, newL, ← List.map_replicate, ← List.map_flatten]
theorem erase_perm {β : Type} {l : List β} {k : Nat} (h : k < l.length) : (l[k] :: l.eraseIdx k).Perm l := by
  have e : l.take k ++ l[k] :: l.drop (k + 1) = l := by rw [← List.drop_eq_getElem_cons h, List.take_append_drop]
  rw [List.eraseIdx_eq_take_drop_succ]
  refine List.perm_middle.symm.trans ?_
  rw [e]
theorem map_erase {β γ : Type} {f : β → γ} {l : List β} {k : Nat} : (l.eraseIdx k).map f = (l.map f).eraseIdx k := by
  rw [List.eraseIdx_eq_take_drop_succ, List.eraseIdx_eq_take_drop_succ, List.map_append, List.map_take, List.map_drop]
theorem cut_ab {β : Type} {xs : List β} {a b : Nat} : cutG xs (some (a : Int)) (some (b : Int)) = (xs.drop a).take (b - a) := by
  unfold cutG
  rw [HT.sIx_nat, HT.sIx_nat]
  by_cases h : a ≤ xs.length
  · rw [Nat.min_eq_left h, List.take_eq_take_iff, List.length_drop]; omega
  · rw [Nat.min_eq_right (by omega : xs.length ≤ a), List.drop_eq_nil_of_le (by omega), List.drop_eq_nil_of_le (by omega)]; simp
@[simp] theorem cut_11 {β : Type} {xs : List β} : cutG xs (some 1) (some 1) = (xs.drop 1).take 0 := cut_ab (a := 1) (b := 1)
@[simp] theorem cut_12 {β : Type} {xs : List β} : cutG xs (some 1) (some 2) = (xs.drop 1).take 1 := cut_ab (a := 1) (b := 2)
@[simp] theorem cut_13 {β : Type} {xs : List β} : cutG xs (some 1) (some 3) = (xs.drop 1).take 2 := cut_ab (a := 1) (b := 3)
@[simp] theorem cut_14 {β : Type} {xs : List β} : cutG xs (some 1) (some 4) = (xs.drop 1).take 3 := cut_ab (a := 1) (b := 4)
end M

set_option maxRecDepth 100000
set_option maxHeartbeats 4000000
namespace M
open PySem PySem.Spec PyProof.Rows L2
section
variable {s : Sd} {G : Gd} {f g h : FE} {a b : FA} {x y w : W}
@[simp] theorem x_eFld {cn fl : Str} : eFld cn fl f s G = (f s G).bind fun p => wFld cn fl p.1 p.2 := rfl
theorem w_fld {cn fl : Str} {i : Nat} {fs : List (Str × W)} (e : G[i]? = some (.ins cn fs)) (l : fs.lookup fl = some w) : wFld cn fl (.ref i) G = .ok (w, G) := by
  simp only [wFld, e, l, if_pos]
@[simp] theorem x_sFldSet {cn fl : Str} : sFldSet cn fl f g s G = (g s G).bind fun p => (f s p.2).bind fun q => match q.1 with
  | .ref i => match q.2[i]? with
    | some (.ins c' fs) => if c' = cn ∧ fs.length < 1000 then .ok (.nx s, q.2.set i (.ins cn (putFW fl p.1 fs))) else .bad
    | _ => .bad
  | _ => .bad := rfl
@[simp] theorem x_eMeth {cn m : Str} {n : Nat} {F : List W → Gd → R (W × Gd)} : eMeth cn m n F f a s G = (f s G).bind fun p => if insOk p.2 cn m p.1 = true then (a s p.2).bind fun q => if q.1.length + 1 = n then match F (p.1 :: q.1) q.2 with
  | .ok p => .ok p
  | .exc x _ G' => .exc x s G'
  | .bad => .bad else .bad else .bad := rfl
theorem insOk_eq {cn m : Str} {i : Nat} {fs : List (Str × W)} (e : G[i]? = some (.ins cn fs)) (l : fs.lookup m = none) : insOk G cn m (.ref i) = true := by
  simp only [insOk, e, l]; simp
@[simp] theorem x_eMake {cn : Str} {n : Nat} {F : List W → Gd → R (W × Gd)} : eMake cn n F a s G = (a s G).bind fun q => if q.1.length + 1 = n then match F (.ref q.2.length :: q.1) (q.2 ++ [.ins cn []]) with
  | .ok (.d .non, G') => .ok (.ref q.2.length, G')
  | .ok _ => .bad
  | .exc x _ G' => .exc x s G'
  | .bad => .bad else .bad := rfl
@[simp] theorem putFW_nil {fl : Str} : putFW fl w [] = [(fl, w)] := rfl
@[simp] theorem putFW_cons {fl g : Str} {v : W} {r : List (Str × W)} : putFW fl w ((g, v) :: r) = if g = fl then (g, w) :: r else (g, v) :: putFW fl w r := rfl
@[simp] theorem x_gsW0 : gsW [] [] s G = .ok (s, G) := rfl
@[simp] theorem x_gsW1 {k : FG} {l : List FG} {d : W} {ds : List W} : gsW (k :: l) (d :: ds) s G = (k d s G).bind fun p => gsW l ds p.1 p.2 := rfl
theorem x_gTupR {l : List FG} {i : Nat} {ws : List W} (e : G[i]? = some (.lst ws)) (hl : ws.length = l.length) : gTupR l (.ref i) s G = gsW l ws s G := by
  simp only [gTupR, e, hl, if_pos]
end
@[simp] theorem kc0 : kitB "bool" "str" = some false := by decide +kernel
@[simp] theorem kc1 : kitB "bool" "tuple" = some false := by decide +kernel
@[simp] theorem kc2 : kitB "bool" "list" = some false := by decide +kernel
@[simp] theorem kc3 : kitB "NoneType" "str" = some false := by decide +kernel
@[simp] theorem kc4 : kitB "NoneType" "tuple" = some false := by decide +kernel
@[simp] theorem kc5 : kitB "NoneType" "list" = some false := by decide +kernel
@[simp] theorem kc6 : kitB "NoneType" "int" = some false := by decide +kernel
@[simp] theorem kc7 : kitB "NoneType" "bool" = some false := by decide +kernel
@[simp] theorem kc8 : kitB "int" "tuple" = some false := by decide +kernel
@[simp] theorem kc9 : kitB "int" "list" = some false := by decide +kernel
@[simp] theorem kc10 : kitB "str" "list" = some false := by decide +kernel
@[simp] theorem kc11 : kitB "str" "bool" = some false := by decide +kernel
@[simp] theorem kc12 : kitB "tuple" "int" = some false := by decide +kernel
@[simp] theorem kc13 : kitB "tuple" "bool" = some false := by decide +kernel
@[simp] theorem kc14 : kitB "list" "int" = some false := by decide +kernel
@[simp] theorem kc15 : kitB "list" "bool" = some false := by decide +kernel
@[simp] theorem kc16 : kitB "list" "str" = some false := by decide +kernel
section
variable {s : Sd} {G : Gd} {f : FE} {A : FS}
@[simp] theorem x_sRaise {cn : Str} : sRaise cn s G = .exc ⟨cn, []⟩ s G := rfl
@[simp] theorem x_sTryK {l : List (Str × Bool)} {i j : Nat} : sTryK l i j A s G = match A s G with
  | .exc x s' G' => match hitOf l x.cls with
    | some true => if i < s'.length then .ok (.nx ((s'.set j (some (.ref G'.length))).set i none), G' ++ [.err x.cls x.fs]) else .bad
    | some false => .exc x s' G'
    | none => .bad
  | r => r := rfl
@[simp] theorem x_eIsC {l : List (Str × Bool)} : eIsC l f s G = (f s G).bind fun p => wIsC l p.1 p.2 := rfl
@[simp] theorem w_isCn {l : List (Str × Bool)} : wIsC l (.d .non) G = .ok (.d (.bl false), G) := rfl
@[simp] theorem w_isCr {l : List (Str × Bool)} {i : Nat} : wIsC l (.ref i) G = match G[i]? with
  | some (.err cn _) => match l.lookup cn with
    | some b => .ok (.d (.bl b), G)
    | none => .bad
  | _ => .bad := rfl
end
end M

set_option maxRecDepth 100000
set_option maxHeartbeats 4000000
namespace M
open PySem PySem.Spec PyProof.Rows L2
section
variable {f : FE} {a : FA} {s : Sd} {G : Gd}
@[simp] theorem x_eDZ : eDZ a s G = (a s G).bind fun p => bDZ p.1 p.2 := rfl
@[simp] theorem x_iRevW : iRevW f s G = (f s G).bind fun p => match stillSeq p.1 with | some (_, ws) => .ok (ws.reverse, p.2) | none => .bad := rfl
@[simp] theorem x_eRevT : eRevT f s G = (f s G).bind fun p => match p.1 with | .d (.tup ds) => .ok (.d (.tup ds.reverse), p.2) | _ => .bad := rfl
end
end M

set_option maxRecDepth 100000
set_option maxHeartbeats 4000000
namespace M
open PySem PySem.Spec PyProof.Rows L2
section
variable {A : FS} {f : FE} {s : Sd} {G : Gd}
@[simp] theorem x_eLenS : eLenS f s G = (f s G).bind fun p => match p.1 with | .d (.lst ds) => (match strD ds with | some xs => if xs.length ≤ 4000 then .ok (.d (.int ((metS xs xs.length).length : Nat)), p.2) else .bad | none => .bad) | _ => .bad := rfl
@[simp] theorem x_eLR {m : Bool} : eLR m f s G = (f s G).bind fun p => match p.1 with | .d (.tup ds) => newL m (ds.reverse.map W.d) p.2 | _ => .bad := rfl
@[simp] theorem x_sTryO {l : List (Str × Bool)} {j : Nat} : sTryO l j A s G = match A s G with
  | .exc x s' G' => match hitOf l x.cls with
    | some true => .ok (.nx (s'.set j (some (.d .non))), G')
    | some false => .exc x s' G'
    | none => .bad
  | r => r := rfl
end
end M

set_option maxRecDepth 100000
set_option maxHeartbeats 4000000
namespace M
open PySem PySem.Spec PyProof.Rows L2
section
variable {cn f : Str} {fe : FE} {s : Sd} {G : Gd}
@[simp] theorem x_sRaiseF : sRaiseF cn f fe s G = match fe s G with
  | .ok (.d x, G') => .exc ⟨cn, [(f, x)]⟩ s G'
  | .ok _ => .bad
  | .exc x s' G' => .exc x s' G'
  | .bad => .bad := rfl
@[simp] theorem x_eErrF : eErrF cn f fe s G = (fe s G).bind fun p => wErrF cn f p.1 p.2 := rfl
@[simp] theorem x_eMk1 : eMk1 cn s G = .ok (.ref G.length, G ++ [.err cn []]) := rfl
@[simp] theorem x_eMkF : eMkF cn f fe s G = match fe s G with
  | .ok (.d x, G') => .ok (.ref G'.length, G' ++ [.err cn [(f, x)]])
  | .ok _ => .bad
  | .exc x s' G' => .exc x s' G'
  | .bad => .bad := rfl
end
end M

set_option maxRecDepth 100000
set_option maxHeartbeats 4000000
namespace M
open PySem PySem.Spec PyProof.Rows L2
section
variable {neg : Bool} {kvs : List (Str × Str)} {f : FE} {a : FA} {s : Sd} {G : Gd} {z : Str}
@[simp] theorem x_eKIn : eKIn neg kvs f s G = (f s G).bind fun p => wKIn neg kvs p.1 p.2 := rfl
@[simp] theorem w_kin : wKIn neg kvs (.d (.str z)) G = .ok (.d (.bl (if neg = true then !(kvs.lookup z).isSome else (kvs.lookup z).isSome)), G) := rfl
@[simp] theorem x_eKIx : eKIx kvs f s G = (f s G).bind fun p => wKIx kvs p.1 p.2 := rfl
@[simp] theorem w_kix : wKIx kvs (.d (.str z)) G = match kvs.lookup z with
    | some v => .ok (.d (.str v), G)
    | none => .bad := rfl
@[simp] theorem x_iZip : iZip a s G = (a s G).bind fun p => match p.1 with
  | [.d (.str z), .d (.lst ds)] => .ok (zipS z ds, p.2)
  | _ => .bad := rfl
@[simp] theorem x_eFrz2 : eFrz2 f s G = (f s G).bind fun p => match p.1 with
  | .ref i => match p.2[i]? with
    | some (.lst ws) => match frzAll ws p.2 with
      | some (ds, G') => match G'[i]? with
        | some (.lst _) => .ok (.d (.lst ds), G'.set i (.still ds))
        | _ => .bad
      | none => .bad
    | _ => .bad
  | _ => .bad := rfl
@[simp] theorem x_eCallL2 {n : Nat} {F : List D → R D} : eCallL2 n F a s G = (a s G).bind fun p => if p.1.length = n then match toDats2 p.2 p.1 with
  | some ds => match F ds with
    | .ok d => if scalD d = true then .ok (.d d, p.2) else .bad
    | _ => .bad
  | none => .bad else .bad := rfl
@[simp] theorem toDats2_nil : toDats2 G [] = some [] := rfl
@[simp] theorem toDats2_cons {w : W} {ws : List W} : toDats2 G (w :: ws) = match toDat2 G w, toDats2 G ws with
    | some d, some ds => some (d :: ds)
    | _, _ => none := rfl
@[simp] theorem toDat2_d {x : D} : toDat2 G (.d x) = some x := rfl
theorem toDats_d : ∀ {ds : List D}, toDats G (ds.map W.d) = some ds
  | [] => rfl
  | d :: ds => by
    show (match toDat G (.d d), toDats G (ds.map W.d) with
      | some d, some ds => some (d :: ds)
      | _, _ => none) = _
    rw [toDats_d]
    rfl
end
end M

set_option maxRecDepth 100000
set_option maxHeartbeats 4000000
namespace Q
open PySem PySem.Spec PyProof.Rows L2 M
def topS (i : Nat) : Stmt := PySem.Challenge.pw_stepledger_k03_bad_row.main.body.getD i (.Pass ⟨0, 0, 0, 0⟩)
def kd_SHAPES : List (Str × Str) := [("put", "bn"), ("add", "bbb"), ("sub", "bbb"), ("more", "bbb"), ("get", "bb"), ("set", "bb"), ("jump", "r"), ("when", "br"), ("tell", "b"), ("halt", "")]
abbrev stT__law_cell_at : Stmt := topS 17
abbrev stT__law_mixed : Stmt := topS 18
abbrev stT__law_number : Stmt := topS 19
abbrev stT__law_line : Stmt := topS 20
abbrev stT__law_lines : Stmt := topS 21
abbrev stT_is_number : Stmt := topS 12
abbrev stT_row_of : Stmt := topS 13
abbrev stT_leads_to : Stmt := topS 14
abbrev stT_read_roll : Stmt := topS 15
abbrev stT__law_fault : Stmt := topS 25
abbrev stT__law_other_word : Stmt := topS 22
abbrev stT__law_bad_number : Stmt := topS 23
abbrev stT__law_spoiled : Stmt := topS 24
abbrev stT_law : Stmt := topS 26
abbrev stX_BadRow : Stmt := inClass (topS 8) 0
/-- what the top has written -/
structure Txt (w : World) (K : PySem.W.Frag) (mg : Str → Option Value) : Prop where
  d__law_cell_at : DefAt K mg "_law_cell_at" stT__law_cell_at ["script", "k"]
  d__law_mixed : DefAt K mg "_law_mixed" stT__law_mixed ["cell", "k"]
  d__law_number : DefAt K mg "_law_number" stT__law_number ["cell"]
  d__law_line : DefAt K mg "_law_line" stT__law_line ["cell", "many"]
  d__law_lines : DefAt K mg "_law_lines" stT__law_lines ["script", "style"]
  d_is_number : DefAt K mg "is_number" stT_is_number ["word"]
  d_row_of : DefAt K mg "row_of" stT_row_of ["line"]
  d_leads_to : DefAt K mg "leads_to" stT_leads_to ["row"]
  d_read_roll : DefAt K mg "read_roll" stT_read_roll ["text"]
  d__law_fault : DefAt K mg "_law_fault" stT__law_fault ["text"]
  d__law_other_word : DefAt K mg "_law_other_word" stT__law_other_word ["word", "cell"]
  d__law_bad_number : DefAt K mg "_law_bad_number" stT__law_bad_number ["word", "cell"]
  d__law_spoiled : DefAt K mg "_law_spoiled" stT__law_spoiled ["line", "cell"]
  d_law : DefAt K mg "law" stT_law ["script"]
  x_NoRoll : ExcT K mg "NoRoll"
  w_BadRow : InitAt K mg "BadRow" "BadRow.__init__" "row" stX_BadRow ["self", "row"]
  b_LedgerError : BaseAt K mg "LedgerError"
  e_BadRow : ErrA K mg "BadRow" "row"
  h_LedgerError : Hits K mg "LedgerError" [("BadRow", true), ("NoRoll", true)]
  i_BadCut : Is1 K mg "BadCut" [("BadRow", false), ("NoRoll", false)]
  i_BadGiven : Is1 K mg "BadGiven" [("BadRow", false), ("NoRoll", false)]
  i_BadRow : Is1 K mg "BadRow" [("BadRow", true), ("NoRoll", false)]
  i_NoDispute : Is1 K mg "NoDispute" [("BadRow", false), ("NoRoll", false)]
  i_NoRoll : Is1 K mg "NoRoll" [("BadRow", false), ("NoRoll", true)]
  i_NoTime : Is1 K mg "NoTime" [("BadRow", false), ("NoRoll", false)]
  i_Spent : Is1 K mg "Spent" [("BadRow", false), ("NoRoll", false)]
  i_Unfit : Is1 K mg "Unfit" [("BadRow", false), ("NoRoll", false)]
  i_ValueError : Is1 K mg "ValueError" [("BadRow", true), ("NoRoll", true)]
  c_SHAPES : ConK w K mg "SHAPES" kd_SHAPES
  n_any : mg "any" = none
  n_bool : mg "bool" = none
  n_enumerate : mg "enumerate" = none
  n_int : mg "int" = none
  n_isinstance : mg "isinstance" = none
  n_len : mg "len" = none
  n_list : mg "list" = none
  n_max : mg "max" = none
  n_min : mg "min" = none
  n_range : mg "range" = none
  n_str : mg "str" = none
  n_tuple : mg "tuple" = none
  n_zip : mg "zip" = none
section
variable {P : Program} {w : World} {K : PySem.W.Frag} {mg : Str → Option Value} {base : Heap}
/-! ### _law_cell_at -/
abbrev st__law_cell_at : Stmt := topS 17
theorem sc__law_cell_at : FnScope ["script", "k"] ["script", "k"] (defScope st__law_cell_at) := ⟨rfl, rfl, rfl, by decide +kernel, rfl, by decide +kernel, by decide +kernel⟩
def b__law_cell_at : FS :=
    (sSeq (sIf (toT (e2 wLt (eV 1) (eA (fun ws _ G => bLen ws G) (aCons (eV 0) aNil)))) (sRet (e2 wIx (eV 0) (eV 1))) sNil)
    (sRet (eC (.int 0))))
def f__law_cell_at : List D → R D := fnD 2 2 b__law_cell_at
theorem ok__law_cell_at (T : Txt w K mg) : FnM P w K mg base 1 "_law_cell_at" ["script", "k"] (spP K (clOf mg) 2 f__law_cell_at) := fn_pure T.d__law_cell_at sc__law_cell_at fun f cdv A outer s H E hr c hK hcl =>
    (msCons (mIf (mCmT cLt (mVar 1) (mLen hK T.n_len (mCons (mVar 0) mNil))) (msOne (mRet (mIx hK.symm (mVar 0) (mVar 1)))) msNil)
    (msOne (mRet mInt)))
theorem o__law_cell_at (x0 x1 : D) : f__law_cell_at [x0, x1] = endD (b__law_cell_at [some (.d x0), some (.d x1)] []) := fnD_eq rfl
/-! ### _law_mixed -/
abbrev st__law_mixed : Stmt := topS 18
theorem sc__law_mixed : FnScope ["cell", "k"] ["cell", "k"] (defScope st__law_mixed) := ⟨rfl, rfl, rfl, by decide +kernel, rfl, by decide +kernel, by decide +kernel⟩
def b__law_mixed : FS :=
    (sRet (e2 wMod (e2 (wMul false) (e2 (wAdd false) (e2 wMod (eV 0) (eC (.int 1000003))) (eC (.int 7))) (e2 (wAdd false) (eC (.int 48271)) (e2 (wMul false) (e2 (wMul false) (eC (.int 6007)) (eV 1)) (eV 1)))) (eC (.int 2147483629))))
def f__law_mixed : List D → R D := fnD 2 2 b__law_mixed
theorem ok__law_mixed (T : Txt w K mg) : FnM P w K mg base 1 "_law_mixed" ["cell", "k"] (spP K (clOf mg) 2 f__law_mixed) := fn_pure T.d__law_mixed sc__law_mixed fun f cdv A outer s H E hr c hK hcl =>
    (msOne (mRet (mMod (mMul false (mAdd false hK (mMod (mVar 0) mInt) mInt) (mAdd false hK mInt (mMul false (mMul false mInt (mVar 1)) (mVar 1)))) mInt)))
theorem o__law_mixed (x0 x1 : D) : f__law_mixed [x0, x1] = endD (b__law_mixed [some (.d x0), some (.d x1)] []) := fnD_eq rfl
/-! ### _law_number -/
abbrev st__law_number : Stmt := topS 19
theorem sc__law_number : FnScope ["cell", "number", "k"] ["cell"] (defScope st__law_number) := ⟨rfl, rfl, rfl, by decide +kernel, rfl, by decide +kernel, by decide +kernel⟩
def l__law_number_1 : FS :=
    (sSet 1 (e2 (wAdd false) (e2 (wMul false) (eV 1) (e2 wPow (eC (.int 10)) (eC (.int 10)))) (e2 (wMul false) (eCall 2 f__law_mixed (aCons (e2 wDiv (eV 0) (eC (.int 7))) (aCons (eV 2) aNil))) (eC (.int 5)))))
theorem ul__law_number_1 (s : Sd) (G : Gd) : l__law_number_1 s G =
    (sSet 1 (e2 (wAdd false) (e2 (wMul false) (eV 1) (e2 wPow (eC (.int 10)) (eC (.int 10)))) (e2 (wMul false) (eCall 2 f__law_mixed (aCons (e2 wDiv (eV 0) (eC (.int 7))) (aCons (eV 2) aNil))) (eC (.int 5))))) s G := rfl
def b__law_number : FS :=
    (sSeq (sSet 1 (eC (.int 0)))
    (sSeq (sFor (iRange1 (aCons (e2 wMod (eV 0) (eC (.int 7))) aNil)) (gN 2) l__law_number_1)
    (sSeq (sSet 1 (e2 wMod (eV 1) (e2 wPow (eC (.int 10)) (eC (.int 60)))))
    (sSeq (sIf (toT (e2 (wEq false) (e2 wMod (e2 wDiv (eV 0) (eC (.int 7))) (eC (.int 2))) (eC (.int 1)))) (sSet 1 (eNeg (eV 1))) sNil)
    (sSeq (sIf (toT (e2 (wEq false) (e2 wMod (e2 wDiv (eV 0) (eC (.int 14))) (eC (.int 4))) (eC (.int 1)))) (sSet 1 (e2 wSub (e2 wMod (e2 wDiv (eV 0) (eC (.int 56))) (eC (.int 21))) (eC (.int 10)))) sNil)
    (sRet (eV 1)))))))
def f__law_number : List D → R D := fnD 1 3 b__law_number
theorem ok__law_number (T : Txt w K mg) : FnM P w K mg base 2 "_law_number" ["cell"] (spP K (clOf mg) 1 f__law_number) := fn_pure T.d__law_number sc__law_number fun f cdv A outer s H E hr c hK hcl =>
    (msCons (mSet 1 sc__law_number.nd mInt)
    (msCons (mFor (passes_of rfl) rfl (miRange1 (by rfl) T.n_range (mCons (mMod (mVar 0) mInt) mNil)) (mgName 2 sc__law_number.nd) (msOne (mSet 1 sc__law_number.nd (mAdd false hK (mMul false (mVar 1) (mPow mInt mInt)) (mMul false (mCall (ok__law_mixed T) hK hcl (hr.mono (by decide)) (by rfl) (takes_of rfl rfl rfl rfl) (mCons (mDiv (mVar 0) mInt) (mCons (mVar 2) mNil))) mInt)))))
    (msCons (mSet 1 sc__law_number.nd (mMod (mVar 1) (mPow mInt mInt)))
    (msCons (mIf (mCmT (cEq hK hr) (mMod (mDiv (mVar 0) mInt) mInt) mInt) (msOne (mSet 1 sc__law_number.nd (mNeg (mVar 1)))) msNil)
    (msCons (mIf (mCmT (cEq hK hr) (mMod (mDiv (mVar 0) mInt) mInt) mInt) (msOne (mSet 1 sc__law_number.nd (mSub (mMod (mDiv (mVar 0) mInt) mInt) mInt))) msNil)
    (msOne (mRet (mVar 1))))))))
theorem o__law_number (x0 : D) : f__law_number [x0] = endD (b__law_number [some (.d x0), none, none] []) := fnD_eq rfl
/-! ### _law_line -/
abbrev st__law_line : Stmt := topS 20
theorem sc__law_line : FnScope ["cell", "many", "names", "name", "rest", "boxes", "sizes", "box"] ["cell", "many"] (defScope st__law_line) := ⟨rfl, rfl, rfl, by decide +kernel, rfl, by decide +kernel, by decide +kernel⟩
def l__law_line_1 : FE :=
    (eA (fun ws _ G => bStr ws G) (aCons (eV 7) aNil))
theorem ul__law_line_1 (s : Sd) (G : Gd) : l__law_line_1 s G =
    (eA (fun ws _ G => bStr ws G) (aCons (eV 7) aNil)) s G := rfl
def b__law_line : FS :=
    (sSeq (sSet 2 (eLst false (aCons (eC (.str "put")) (aCons (eC (.str "put")) (aCons (eC (.str "add")) (aCons (eC (.str "sub")) (aCons (eC (.str "more")) (aCons (eC (.str "get")) (aCons (eC (.str "set")) (aCons (eC (.str "jump")) (aCons (eC (.str "when")) (aCons (eC (.str "tell")) (aCons (eC (.str "halt")) aNil)))))))))))))
    (sSeq (sSet 3 (e2 wIx (eV 2) (e2 wMod (eV 0) (eC (.int 11)))))
    (sSeq (sSet 4 (e2 wDiv (eV 0) (eC (.int 11))))
    (sSeq (sSet 5 (eLst false (aCons (e2 wMod (eV 4) (eC (.int 8))) (aCons (e2 wMod (e2 wDiv (eV 4) (eC (.int 8))) (eC (.int 8))) (aCons (e2 wMod (e2 wDiv (eV 4) (eC (.int 64))) (eC (.int 8))) aNil)))))
    (sSeq (sIf (toT (e2 (wEq false) (eV 3) (eC (.str "put")))) (sRet (e2 (wAdd false) (e2 (wAdd false) (e2 (wAdd false) (e2 (wAdd false) (eV 3) (eC (.str " "))) (eA (fun ws _ G => bStr ws G) (aCons (e2 wIx (eV 5) (eC (.int 0))) aNil))) (eC (.str " "))) (eA (fun ws _ G => bStr ws G) (aCons (eCall 1 f__law_number (aCons (e2 wDiv (eV 4) (eC (.int 8))) aNil)) aNil)))) sNil)
    (sSeq (sIf (toT (e2 (wEq false) (eV 3) (eC (.str "jump")))) (sRet (e2 (wAdd false) (e2 (wAdd false) (eV 3) (eC (.str " "))) (eA (fun ws _ G => bStr ws G) (aCons (e2 wMod (eV 4) (eV 1)) aNil)))) sNil)
    (sSeq (sIf (toT (e2 (wEq false) (eV 3) (eC (.str "when")))) (sRet (e2 (wAdd false) (e2 (wAdd false) (e2 (wAdd false) (e2 (wAdd false) (eV 3) (eC (.str " "))) (eA (fun ws _ G => bStr ws G) (aCons (e2 wIx (eV 5) (eC (.int 0))) aNil))) (eC (.str " "))) (eA (fun ws _ G => bStr ws G) (aCons (e2 wMod (e2 wDiv (eV 4) (eC (.int 8))) (eV 1)) aNil)))) sNil)
    (sSeq (sSet 6 (eDisp [("add", (eC (.int 3))), ("sub", (eC (.int 3))), ("more", (eC (.int 3))), ("get", (eC (.int 2))), ("set", (eC (.int 2))), ("tell", (eC (.int 1))), ("halt", (eC (.int 0)))]))
    (sRet (eMt rcS wJoin (eC (.str " ")) (aCons (e2 (wAdd false) (eLst false (aCons (eV 3) aNil)) (eComp false 7 (iAny (eSl false (eV 5) pNo (pSo (eDIx (eV 6) (eV 3))))) tYesM l__law_line_1)) aNil)))))))))))
def f__law_line : List D → R D := fnD 2 8 b__law_line
theorem ok__law_line (T : Txt w K mg) : FnM P w K mg base 3 "_law_line" ["cell", "many"] (spP K (clOf mg) 2 f__law_line) := fn_pure T.d__law_line sc__law_line fun f cdv A outer s H E hr c hK hcl =>
    (msCons (mSet 2 sc__law_line.nd (mLst false (mCons mStr (mCons mStr (mCons mStr (mCons mStr (mCons mStr (mCons mStr (mCons mStr (mCons mStr (mCons mStr (mCons mStr (mCons mStr mNil)))))))))))))
    (msCons (mSet 3 sc__law_line.nd (mIx hK.symm (mVar 2) (mMod (mVar 0) mInt)))
    (msCons (mSet 4 sc__law_line.nd (mDiv (mVar 0) mInt))
    (msCons (mSet 5 sc__law_line.nd (mLst false (mCons (mMod (mVar 4) mInt) (mCons (mMod (mDiv (mVar 4) mInt) mInt) (mCons (mMod (mDiv (mVar 4) mInt) mInt) mNil)))))
    (msCons (mIf (mCmT (cEq hK hr) (mVar 3) mStr) (msOne (mRet (mAdd false hK (mAdd false hK (mAdd false hK (mAdd false hK (mVar 3) mStr) (mStrC T.n_str (mCons (mIx hK.symm (mVar 5) mInt) mNil))) mStr) (mStrC T.n_str (mCons (mCall (ok__law_number T) hK hcl (hr.mono (by decide)) (by rfl) (takes_of rfl rfl rfl rfl) (mCons (mDiv (mVar 4) mInt) mNil)) mNil))))) msNil)
    (msCons (mIf (mCmT (cEq hK hr) (mVar 3) mStr) (msOne (mRet (mAdd false hK (mAdd false hK (mVar 3) mStr) (mStrC T.n_str (mCons (mMod (mVar 4) (mVar 1)) mNil))))) msNil)
    (msCons (mIf (mCmT (cEq hK hr) (mVar 3) mStr) (msOne (mRet (mAdd false hK (mAdd false hK (mAdd false hK (mAdd false hK (mVar 3) mStr) (mStrC T.n_str (mCons (mIx hK.symm (mVar 5) mInt) mNil))) mStr) (mStrC T.n_str (mCons (mMod (mDiv (mVar 4) mInt) (mVar 1)) mNil))))) msNil)
    (msCons (mSet 6 sc__law_line.nd (mDisp (.cons (fun c1 k1 l1 => mInt) (.cons (fun c1 k1 l1 => mInt) (.cons (fun c1 k1 l1 => mInt) (.cons (fun c1 k1 l1 => mInt) (.cons (fun c1 k1 l1 => mInt) (.cons (fun c1 k1 l1 => mInt) (.cons (fun c1 k1 l1 => mInt) .nil)))))))))
    (msOne (mRet (mJoin hK mStr (mCons (mAdd false hK (mLst false (mCons (mVar 3) mNil)) (mComp false 7 rfl sc__law_line.nd (miAny hK.symm (mSl false hK.symm (mVar 5) mPNo (mPSo (mDIx hr (mVar 6) (mVar 3))))) (blkOk_by (N := ["cell", "many", "names", "name", "rest", "boxes", "sizes", "box"]) (sc := defScope st__law_line) (own := [("box", 7)]) (by decide +kernel)) (fun _ _ _ _ _ => pg_name (i := 7) sc__law_line.nd rfl (Or.inl rfl)) (fun c1 k1 l1 _ _ _ _ _ => (mStrC T.n_str (mCons (mVar 7) mNil))))) mNil))))))))))))
theorem o__law_line (x0 x1 : D) : f__law_line [x0, x1] = endD (b__law_line [some (.d x0), some (.d x1), none, none, none, none, none, none] []) := fnD_eq rfl
/-! ### _law_lines -/
abbrev st__law_lines : Stmt := topS 21
theorem sc__law_lines : FnScope ["script", "style", "cells", "many", "far", "last", "cell"] ["script", "style"] (defScope st__law_lines) := ⟨rfl, rfl, rfl, by decide +kernel, rfl, by decide +kernel, by decide +kernel⟩
def l__law_lines_1 : FE :=
    (eCall 2 f__law_line (aCons (eV 6) (aCons (eV 4) aNil)))
theorem ul__law_lines_1 (s : Sd) (G : Gd) : l__law_lines_1 s G =
    (eCall 2 f__law_line (aCons (eV 6) (aCons (eV 4) aNil))) s G := rfl
def b__law_lines : FS :=
    (sSeq (sSet 2 (eSl false (eV 0) (pSo (eC (.int 3))) (pSo (eC (.int 43)))))
    (sSeq (sSet 3 (e2 (wAdd false) (eA (fun ws _ G => bLen ws G) (aCons (eV 2) aNil)) (eC (.int 1))))
    (sSeq (sSet 4 (eV 3))
    (sSeq (sIf (toT (e2 (wEq false) (eV 1) (eC (.int 1)))) (sSet 4 (e2 (wAdd false) (eV 3) (eC (.int 2)))) sNil)
    (sSeq (sSet 5 (e2 wIx (eLst false (aCons (eC (.str "halt")) (aCons (e2 (wAdd false) (eC (.str "jump ")) (eA (fun ws _ G => bStr ws G) (aCons (e2 wMod (e2 (wMul false) (eV 1) (eC (.int 7))) (eV 3)) aNil))) (aCons (eC (.str "tell 3")) aNil)))) (e2 wMod (eV 1) (eC (.int 3)))))
    (sRet (e2 (wAdd false) (eComp false 6 (iAny (eV 2)) tYesM l__law_lines_1) (eLst false (aCons (eV 5) aNil)))))))))
def f__law_lines : List D → R D := fnD 2 7 b__law_lines
theorem ok__law_lines (T : Txt w K mg) : FnM P w K mg base 4 "_law_lines" ["script", "style"] (spP K (clOf mg) 2 f__law_lines) := fn_pure T.d__law_lines sc__law_lines fun f cdv A outer s H E hr c hK hcl =>
    (msCons (mSet 2 sc__law_lines.nd (mSl false hK.symm (mVar 0) (mPSo mInt) (mPSo mInt)))
    (msCons (mSet 3 sc__law_lines.nd (mAdd false hK (mLen hK T.n_len (mCons (mVar 2) mNil)) mInt))
    (msCons (mSet 4 sc__law_lines.nd (mVar 3))
    (msCons (mIf (mCmT (cEq hK hr) (mVar 1) mInt) (msOne (mSet 4 sc__law_lines.nd (mAdd false hK (mVar 3) mInt))) msNil)
    (msCons (mSet 5 sc__law_lines.nd (mIx hK.symm (mLst false (mCons mStr (mCons (mAdd false hK mStr (mStrC T.n_str (mCons (mMod (mMul false (mVar 1) mInt) (mVar 3)) mNil))) (mCons mStr mNil)))) (mMod (mVar 1) mInt)))
    (msOne (mRet (mAdd false hK (mComp false 6 rfl sc__law_lines.nd (miAny hK.symm (mVar 2)) (blkOk_by (N := ["script", "style", "cells", "many", "far", "last", "cell"]) (sc := defScope st__law_lines) (own := [("cell", 6)]) (by decide +kernel)) (fun _ _ _ _ _ => pg_name (i := 6) sc__law_lines.nd rfl (Or.inl rfl)) (fun c1 k1 l1 _ _ _ _ _ => (mCall (ok__law_line T) (k1.trans hK) (l1.trans hcl) (hr.mono (by decide)) (by rfl) takes0 (mCons (mVar 6) (mCons (mVar 4) mNil))))) (mLst false (mCons (mVar 5) mNil))))))))))
theorem o__law_lines (x0 x1 : D) : f__law_lines [x0, x1] = endD (b__law_lines [some (.d x0), some (.d x1), none, none, none, none, none] []) := fnD_eq rfl
/-! ### is_number -/
abbrev st_is_number : Stmt := topS 12
theorem sc_is_number : FnScope ["word", "figures", "sign"] ["word"] (defScope st_is_number) := ⟨rfl, rfl, rfl, by decide +kernel, rfl, by decide +kernel, by decide +kernel⟩
def l_is_number_1 : FS :=
    (sIf (toT (e2 (wIn true) (eV 2) (eC (.str "0123456789")))) (sRet (eC (.bl false))) sNil)
theorem ul_is_number_1 (s : Sd) (G : Gd) : l_is_number_1 s G =
    (sIf (toT (e2 (wIn true) (eV 2) (eC (.str "0123456789")))) (sRet (eC (.bl false))) sNil) s G := rfl
def b_is_number : FS :=
    (sSeq (sSet 1 (eV 0))
    (sSeq (sIf (toT (e2 (wEq false) (eSl false (eV 0) pNo (pSo (eC (.int 1)))) (eC (.str "-")))) (sSet 1 (eSl false (eV 0) (pSo (eC (.int 1))) pNo)) sNil)
    (sSeq (sIf (tfOr (toT (e2 wLt (eA (fun ws _ G => bLen ws G) (aCons (eV 1) aNil)) (eC (.int 1)))) (toT (e2 wGt (eA (fun ws _ G => bLen ws G) (aCons (eV 1) aNil)) (eC (.int 60))))) (sRet (eC (.bl false))) sNil)
    (sSeq (sFor (iAny (eV 1)) (gN 2) l_is_number_1)
    (sRet (eOr (e2 (wEq true) (e2 wIx (eV 1) (eC (.int 0))) (eC (.str "0"))) (e2 (wEq false) (eV 0) (eC (.str "0")))))))))
def f_is_number : List D → R D := fnD 1 3 b_is_number
theorem ok_is_number (T : Txt w K mg) : FnM P w K mg base 1 "is_number" ["word"] (spP K (clOf mg) 1 f_is_number) := fn_pure T.d_is_number sc_is_number fun f cdv A outer s H E hr c hK hcl =>
    (msCons (mSet 1 sc_is_number.nd (mVar 0))
    (msCons (mIf (mCmT (cEq hK hr) (mSl false hK.symm (mVar 0) mPNo (mPSo mInt)) mStr) (msOne (mSet 1 sc_is_number.nd (mSl false hK.symm (mVar 0) (mPSo mInt) mPNo))) msNil)
    (msCons (mIf (PW.pt (mOr (mCmT cLt (mLen hK T.n_len (mCons (mVar 1) mNil)) mInt) (mOr1 (mCmT cGt (mLen hK T.n_len (mCons (mVar 1) mNil)) mInt)))) (msOne (mRet mBl)) msNil)
    (msCons (mFor (passes_of rfl) rfl (miAny hK.symm (mVar 1)) (mgName 2 sc_is_number.nd) (msOne (mIf (mCmT (cNotIn hK) (mVar 2) mStr) (msOne (mRet mBl)) msNil)))
    (msOne (mRet (mVOr (mCm (cNe hK hr) (mIx hK.symm (mVar 1) mInt) mStr) (mVOne (mCm (cEq hK hr) (mVar 0) mStr)))))))))
theorem o_is_number (x0 : D) : f_is_number [x0] = endD (b_is_number [some (.d x0), none, none] []) := fnD_eq rfl
/-! ### row_of -/
abbrev st_row_of : Stmt := topS 13
theorem sc_row_of : FnScope ["line", "words", "shape", "row", "kind", "word", "number"] ["line"] (defScope st_row_of) := ⟨rfl, rfl, rfl, by decide +kernel, rfl, by decide +kernel, by decide +kernel⟩
def l_row_of_1 : FS :=
    (sSeq (sIf (tfNot (toT (eCall 1 f_is_number (aCons (eV 5) aNil)))) (sRet (eC .non)) sNil)
    (sSeq (sSet 6 (eA (fun ws _ G => bInt ws G) (aCons (eV 5) aNil)))
    (sSeq (sIf (tfAnd (toT (e2 (wEq false) (eV 4) (eC (.str "b")))) (tfOr (toT (e2 wLt (eV 6) (eC (.int 0)))) (toT (e2 wGt (eV 6) (eC (.int 7)))))) (sRet (eC .non)) sNil)
    (sExpr (eMt rcL wApp (eV 3) (aCons (eV 6) aNil))))))
theorem ul_row_of_1 (s : Sd) (G : Gd) : l_row_of_1 s G =
    (sSeq (sIf (tfNot (toT (eCall 1 f_is_number (aCons (eV 5) aNil)))) (sRet (eC .non)) sNil)
    (sSeq (sSet 6 (eA (fun ws _ G => bInt ws G) (aCons (eV 5) aNil)))
    (sSeq (sIf (tfAnd (toT (e2 (wEq false) (eV 4) (eC (.str "b")))) (tfOr (toT (e2 wLt (eV 6) (eC (.int 0)))) (toT (e2 wGt (eV 6) (eC (.int 7)))))) (sRet (eC .non)) sNil)
    (sExpr (eMt rcL wApp (eV 3) (aCons (eV 6) aNil)))))) s G := rfl
def b_row_of : FS :=
    (sSeq (sSet 1 (eMt rcS (wSplit false) (eV 0) (aCons (eC (.str " ")) aNil)))
    (sSeq (sIf (toT (eKIn true kd_SHAPES (e2 wIx (eV 1) (eC (.int 0))))) (sRet (eC .non)) sNil)
    (sSeq (sSet 2 (eKIx kd_SHAPES (e2 wIx (eV 1) (eC (.int 0)))))
    (sSeq (sIf (toT (e2 (wEq true) (eA (fun ws _ G => bLen ws G) (aCons (eV 1) aNil)) (e2 (wAdd false) (eA (fun ws _ G => bLen ws G) (aCons (eV 2) aNil)) (eC (.int 1))))) (sRet (eC .non)) sNil)
    (sSeq (sSet 3 (eLst true (aCons (e2 wIx (eV 1) (eC (.int 0))) aNil)))
    (sSeq (sFor (iZip (aCons (eV 2) (aCons (eSl false (eV 1) (pSo (eC (.int 1))) pNo) aNil))) (gTupD ([4, 5].map gN)) l_row_of_1)
    (sRet (eA (fun ws _ G => bTuple ws G) (aCons (eV 3) aNil)))))))))
def f_row_of : List D → R D := fnD 1 7 b_row_of
theorem ok_row_of (T : Txt w K mg) : FnM P w K mg base 2 "row_of" ["line"] (spP K (clOf mg) 1 f_row_of) := fn_pure T.d_row_of sc_row_of fun f cdv A outer s H E hr c hK hcl =>
    (msCons (mSet 1 sc_row_of.nd (mSplit false hK (mVar 0) (mCons mStr mNil)))
    (msCons (mIf (mKNotInT T.c_SHAPES (mIx hK.symm (mVar 1) mInt)) (msOne (mRet mNon)) msNil)
    (msCons (mSet 2 sc_row_of.nd (mKIx T.c_SHAPES (mIx hK.symm (mVar 1) mInt)))
    (msCons (mIf (mCmT (cNe hK hr) (mLen hK T.n_len (mCons (mVar 1) mNil)) (mAdd false hK (mLen hK T.n_len (mCons (mVar 2) mNil)) mInt)) (msOne (mRet mNon)) msNil)
    (msCons (mSet 3 sc_row_of.nd (mLst true (mCons (mIx hK.symm (mVar 1) mInt) mNil)))
    (msCons (mFor (passes_of rfl) rfl (miZip hK.symm (by rfl) T.n_zip (mCons (mVar 2) (mCons (mSl false hK.symm (mVar 1) (mPSo mInt) mPNo) mNil))) (mgNames [4, 5] hK rfl (mgCons (mgName 4 sc_row_of.nd) (mgCons (mgName 5 sc_row_of.nd) mgNil))) (msCons (mIf (mNot (mTest (mCall (ok_is_number T) hK hcl (hr.mono (by decide)) (by rfl) (takes_of rfl rfl rfl rfl) (mCons (mVar 5) mNil)))) (msOne (mRet mNon)) msNil)
    (msCons (mSet 6 sc_row_of.nd (mIntC T.n_int (mCons (mVar 5) mNil)))
    (msCons (mIf (PW.pt (mAnd (mCmT (cEq hK hr) (mVar 4) mStr) (mAnd1 (PW.pt (mOr (mCmT cLt (mVar 6) mInt) (mOr1 (mCmT cGt (mVar 6) mInt))))))) (msOne (mRet mNon)) msNil)
    (msOne (mExpr (mApp hK (mVar 3) (mCons (mVar 6) mNil))))))))
    (msOne (mRet (mTuple hK T.n_tuple (mCons (mVar 3) mNil))))))))))
theorem o_row_of (x0 : D) : f_row_of [x0] = endD (b_row_of [some (.d x0), none, none, none, none, none, none] []) := fnD_eq rfl
/-! ### BadRow.__init__ -/
abbrev st_x_BadRow : Stmt := inClass (topS 8) 0
theorem sc_x_BadRow : FnScope ["self", "row"] ["self", "row"] (defScope st_x_BadRow) := ⟨rfl, rfl, rfl, by decide +kernel, rfl, by decide +kernel, by decide +kernel⟩
theorem okx_BadRow (T : Txt w K mg) : ErrM P w K mg base 1 "BadRow" "row" ["self", "row"] :=
  match T.b_LedgerError with
  | ⟨CB, b1, b2, b3, b4⟩ => err_mk (m := "a row that is none") T.w_BadRow sc_x_BadRow fun f cdv A outer s H E hr =>
    (pss_cons (ps_expr (pe_ceinit (by rfl) b1 b2 b3 b4 (pa_cons (pe_var (i := 0) rfl (Or.inl rfl)) (pa_cons pe_str pa_nil)) (by decide))) (pss_one (ps_ost (pe_var (i := 0) rfl (Or.inl rfl)) (pe_var (i := 1) rfl (Or.inl rfl)))))
/-! ### leads_to -/
abbrev st_leads_to : Stmt := topS 14
theorem sc_leads_to : FnScope ["row"] ["row"] (defScope st_leads_to) := ⟨rfl, rfl, rfl, by decide +kernel, rfl, by decide +kernel, by decide +kernel⟩
def b_leads_to : FS :=
    (sSeq (sIf (toT (e2 (wIn false) (e2 wIx (eV 0) (eC (.int 0))) (eTup (aCons (eC (.str "jump")) (aCons (eC (.str "when")) aNil))))) (sRet (e2 wIx (eV 0) (eNeg (eC (.int 1))))) sNil)
    (sRet (eC .non)))
def f_leads_to : List D → R D := fnD 1 1 b_leads_to
theorem ok_leads_to (T : Txt w K mg) : FnM P w K mg base 1 "leads_to" ["row"] (spP K (clOf mg) 1 f_leads_to) := fn_pure T.d_leads_to sc_leads_to fun f cdv A outer s H E hr c hK hcl =>
    (msCons (mIf (mCmT (cIn hK) (mIx hK.symm (mVar 0) mInt) (mTup (mCons mStr (mCons mStr mNil)))) (msOne (mRet (mIx hK.symm (mVar 0) (mNeg mInt)))) msNil)
    (msOne (mRet mNon)))
theorem o_leads_to (x0 : D) : f_leads_to [x0] = endD (b_leads_to [some (.d x0)] []) := fnD_eq rfl
/-! ### read_roll -/
abbrev st_read_roll : Stmt := topS 15
theorem sc_read_roll : FnScope ["text", "roll", "at", "line", "row", "place"] ["text"] (defScope st_read_roll) := ⟨rfl, rfl, rfl, by decide +kernel, rfl, by decide +kernel, by decide +kernel⟩
def l_read_roll_1 : FS :=
    (sSeq (sSet 4 (eCall 1 f_row_of (aCons (eV 3) aNil)))
    (sSeq (sIf (toT (e2 (wIsN false) (eV 4) (eC .non))) (sRaiseF "BadRow" "row" (e2 (wAdd false) (eV 2) (eC (.int 1)))) sNil)
    (sExpr (eMt rcL wApp (eV 1) (aCons (eV 4) aNil)))))
theorem ul_read_roll_1 (s : Sd) (G : Gd) : l_read_roll_1 s G =
    (sSeq (sSet 4 (eCall 1 f_row_of (aCons (eV 3) aNil)))
    (sSeq (sIf (toT (e2 (wIsN false) (eV 4) (eC .non))) (sRaiseF "BadRow" "row" (e2 (wAdd false) (eV 2) (eC (.int 1)))) sNil)
    (sExpr (eMt rcL wApp (eV 1) (aCons (eV 4) aNil))))) s G := rfl
def l_read_roll_2 : FS :=
    (sSeq (sSet 5 (eCall 1 f_leads_to (aCons (eV 4) aNil)))
    (sIf (tfAnd (toT (e2 (wIsN true) (eV 5) (eC .non))) (tfOr (toT (e2 wLt (eV 5) (eC (.int 0)))) (toT (e2 wGe (eV 5) (eA (fun ws _ G => bLen ws G) (aCons (eV 1) aNil)))))) (sRaise "NoRoll") sNil))
theorem ul_read_roll_2 (s : Sd) (G : Gd) : l_read_roll_2 s G =
    (sSeq (sSet 5 (eCall 1 f_leads_to (aCons (eV 4) aNil)))
    (sIf (tfAnd (toT (e2 (wIsN true) (eV 5) (eC .non))) (tfOr (toT (e2 wLt (eV 5) (eC (.int 0)))) (toT (e2 wGe (eV 5) (eA (fun ws _ G => bLen ws G) (aCons (eV 1) aNil)))))) (sRaise "NoRoll") sNil)) s G := rfl
def b_read_roll : FS :=
    (sSeq (sSet 1 (eLst true aNil))
    (sSeq (sFor (iEnumA (aCons (eMt rcS (wSplit false) (eV 0) (aCons (eC (.str "\n")) aNil)) aNil)) (gTupD ([2, 3].map gN)) l_read_roll_1)
    (sSeq (sFor (iAny (eFrz (eV 1))) (gN 4) l_read_roll_2)
    (sSeq (sIf (toT (e2 (wIn true) (e2 wIx (e2 wIx (eV 1) (eNeg (eC (.int 1)))) (eC (.int 0))) (eTup (aCons (eC (.str "halt")) (aCons (eC (.str "jump")) aNil))))) (sRaise "NoRoll") sNil)
    (sRet (eA (fun ws _ G => bTuple ws G) (aCons (eV 1) aNil)))))))
def f_read_roll : List D → R D := fnD 1 6 b_read_roll
theorem ok_read_roll (T : Txt w K mg) : FnM P w K mg base 3 "read_roll" ["text"] (spP K (clOf mg) 1 f_read_roll) := fn_pure T.d_read_roll sc_read_roll fun f cdv A outer s H E hr c hK hcl =>
    (msCons (mSet 1 sc_read_roll.nd (mLst true mNil))
    (msCons (mFor (passes_of rfl) rfl (miEnumA hK.symm (by rfl) T.n_enumerate (mCons (mSplit false hK (mVar 0) (mCons mStr mNil)) mNil)) (mgNames [2, 3] hK rfl (mgCons (mgName 2 sc_read_roll.nd) (mgCons (mgName 3 sc_read_roll.nd) mgNil))) (msCons (mSet 4 sc_read_roll.nd (mCall (ok_row_of T) hK hcl (hr.mono (by decide)) (by rfl) (takes_of rfl rfl rfl rfl) (mCons (mVar 3) mNil)))
    (msCons (mIf (mCmT cIs (mVar 4) mNon) (msOne (mRaiseF (okx_BadRow T) hK.symm hcl (hr.mono (by decide)) (takes_of rfl rfl rfl rfl) rfl (by rfl) (mAdd false hK (mVar 2) mInt))) msNil)
    (msOne (mExpr (mApp hK (mVar 1) (mCons (mVar 4) mNil)))))))
    (msCons (mFor (passes_of rfl) rfl (miAny hK.symm (mFrz (mVar 1))) (mgName 4 sc_read_roll.nd) (msCons (mSet 5 sc_read_roll.nd (mCall (ok_leads_to T) hK hcl (hr.mono (by decide)) (by rfl) (takes_of rfl rfl rfl rfl) (mCons (mVar 4) mNil)))
    (msOne (mIf (PW.pt (mAnd (mCmT cIsN (mVar 5) mNon) (mAnd1 (PW.pt (mOr (mCmT cLt (mVar 5) mInt) (mOr1 (mCmT cGe (mVar 5) (mLen hK T.n_len (mCons (mVar 1) mNil))))))))) (msOne (mRaise T.x_NoRoll hcl (takes_of rfl rfl rfl rfl) rfl (by rfl))) msNil))))
    (msCons (mIf (mCmT (cNotIn hK) (mIx hK.symm (mIx hK.symm (mVar 1) (mNeg mInt)) mInt) (mTup (mCons mStr (mCons mStr mNil)))) (msOne (mRaise T.x_NoRoll hcl (takes_of rfl rfl rfl rfl) rfl (by rfl))) msNil)
    (msOne (mRet (mTuple hK T.n_tuple (mCons (mVar 1) mNil))))))))
theorem o_read_roll (x0 : D) : f_read_roll [x0] = endD (b_read_roll [some (.d x0), none, none, none, none, none] []) := fnD_eq rfl
/-! ### _law_fault -/
abbrev st__law_fault : Stmt := topS 25
theorem sc__law_fault : FnScope ["text", "caught", "e", "others"] ["text"] (defScope st__law_fault) := ⟨rfl, rfl, rfl, by decide +kernel, rfl, by decide +kernel, by decide +kernel⟩
def b__law_fault : FS :=
    (sSeq (sSet 1 (eC .non))
    (sSeq (sTryK [("BadRow", true), ("NoRoll", true)] 2 1 (sExpr (eCall 1 f_read_roll (aCons (eV 0) aNil))))
    (sSeq (sIf (toT (e2 (wIsN false) (eV 1) (eC .non))) (sRet (eLst false (aCons (eC (.int 0)) (aCons (eC (.int 0)) aNil)))) sNil)
    (sSeq (sSet 3 (eLst false (aCons (eIsC [("BadRow", false), ("NoRoll", false)] (eV 1)) (aCons (eIsC [("BadRow", false), ("NoRoll", false)] (eV 1)) (aCons (eIsC [("BadRow", false), ("NoRoll", false)] (eV 1)) aNil)))))
    (sSeq (sSet 3 (e2 (wAdd false) (eV 3) (eLst false (aCons (eIsC [("BadRow", false), ("NoRoll", false)] (eV 1)) (aCons (eIsC [("BadRow", false), ("NoRoll", false)] (eV 1)) (aCons (eIsC [("BadRow", false), ("NoRoll", false)] (eV 1)) aNil))))))
    (sSeq (sIf (tfOr (toT (eA (fun ws _ G => bAny ws G) (aCons (eV 3) aNil))) (tfNot (toT (eIsC [("BadRow", true), ("NoRoll", true)] (eV 1))))) (sRet (eLst false (aCons (eNeg (eC (.int 1))) (aCons (eC (.int 0)) aNil)))) sNil)
    (sSeq (sIf (toT (e2 (wEq false) (eIsC [("BadRow", true), ("NoRoll", false)] (eV 1)) (eIsC [("BadRow", false), ("NoRoll", true)] (eV 1)))) (sRet (eLst false (aCons (eNeg (eC (.int 1))) (aCons (eC (.int 0)) aNil)))) sNil)
    (sSeq (sIf (toT (eIsC [("BadRow", false), ("NoRoll", true)] (eV 1))) (sRet (eLst false (aCons (eC (.int 1)) (aCons (eC (.int 0)) aNil)))) sNil)
    (sSeq (sIf (tfOr (tfNot (toT (eIsi "int" (eErrF "BadRow" "row" (eV 1))))) (toT (eIsi "bool" (eErrF "BadRow" "row" (eV 1))))) (sRet (eLst false (aCons (eNeg (eC (.int 1))) (aCons (eC (.int 0)) aNil)))) sNil)
    (sRet (eLst false (aCons (eC (.int 2)) (aCons (eErrF "BadRow" "row" (eV 1)) aNil)))))))))))))
def f__law_fault : List D → R D := fnD 1 4 b__law_fault
theorem ok__law_fault (T : Txt w K mg) : FnM P w K mg base 4 "_law_fault" ["text"] (spP K (clOf mg) 1 f__law_fault) := fn_pure T.d__law_fault sc__law_fault fun f cdv A outer s H E hr c hK hcl =>
    (msCons (mSet 1 sc__law_fault.nd mNon)
    (msCons (mTryK 2 1 hcl T.h_LedgerError rfl rfl rfl sc__law_fault.nd rfl rfl (by decide) rfl rfl (by rfl) (by decide) (by decide) (by decide) (takes_of rfl rfl rfl rfl) (fun W pn xe tkB => (msOne (mExpr (mCall (ok_read_roll T) hK hcl (hr.mono (by decide)) (by rfl) tkB (mCons (mVar 0) mNil))))) (fun a oe pn => keepSuite sc__law_fault.nd rfl rfl (Or.inl rfl) (Or.inl rfl) (Or.inr rfl) (by decide) (by decide)))
    (msCons (mIf (mCmT cIs (mVar 1) mNon) (msOne (mRet (mLst false (mCons mInt (mCons mInt mNil))))) msNil)
    (msCons (mSet 3 sc__law_fault.nd (mLst false (mCons (mIsC1 hcl T.i_BadCut T.n_isinstance (mVar 1)) (mCons (mIsC1 hcl T.i_BadGiven T.n_isinstance (mVar 1)) (mCons (mIsC1 hcl T.i_NoDispute T.n_isinstance (mVar 1)) mNil)))))
    (msCons (mSet 3 sc__law_fault.nd (mAdd false hK (mVar 3) (mLst false (mCons (mIsC1 hcl T.i_NoTime T.n_isinstance (mVar 1)) (mCons (mIsC1 hcl T.i_Spent T.n_isinstance (mVar 1)) (mCons (mIsC1 hcl T.i_Unfit T.n_isinstance (mVar 1)) mNil))))))
    (msCons (mIf (PW.pt (mOr (mTest (mAnyC hK rfl T.n_any (mCons (mVar 3) mNil))) (mOr1 (mNot (mTest (mIsC1 hcl T.i_ValueError T.n_isinstance (mVar 1))))))) (msOne (mRet (mLst false (mCons (mNeg mInt) (mCons mInt mNil))))) msNil)
    (msCons (mIf (mCmT (cEq hK hr) (mIsC1 hcl T.i_BadRow T.n_isinstance (mVar 1)) (mIsC1 hcl T.i_NoRoll T.n_isinstance (mVar 1))) (msOne (mRet (mLst false (mCons (mNeg mInt) (mCons mInt mNil))))) msNil)
    (msCons (mIf (mTest (mIsC1 hcl T.i_NoRoll T.n_isinstance (mVar 1))) (msOne (mRet (mLst false (mCons mInt (mCons mInt mNil))))) msNil)
    (msCons (mIf (PW.pt (mOr (mNot (mTest (mIs "int" hK T.n_isinstance (mErrF T.e_BadRow hK.symm hcl (mVar 1)) T.n_int (by decide +kernel)))) (mOr1 (mTest (mIs "bool" hK T.n_isinstance (mErrF T.e_BadRow hK.symm hcl (mVar 1)) T.n_bool (by decide +kernel)))))) (msOne (mRet (mLst false (mCons (mNeg mInt) (mCons mInt mNil))))) msNil)
    (msOne (mRet (mLst false (mCons mInt (mCons (mErrF T.e_BadRow hK.symm hcl (mVar 1)) mNil))))))))))))))
theorem o__law_fault (x0 : D) : f__law_fault [x0] = endD (b__law_fault [some (.d x0), none, none, none] []) := fnD_eq rfl
/-! ### _law_other_word -/
abbrev st__law_other_word : Stmt := topS 22
theorem sc__law_other_word : FnScope ["word", "cell", "letters", "others", "sign", "at", "found"] ["word", "cell"] (defScope st__law_other_word) := ⟨rfl, rfl, rfl, by decide +kernel, rfl, by decide +kernel, by decide +kernel⟩
def b__law_other_word : FS :=
    (sSeq (sSet 2 (eC (.str "abcdefghijklmnopqrstuvwxyzA1-_")))
    (sSeq (sSet 3 (eLst false (aCons (eC (.str "mul")) (aCons (eC (.str "div")) (aCons (eC (.str "goto")) (aCons (eC (.str "stop")) (aCons (eC (.str "print")) (aCons (eC (.str "less")) (aCons (eC (.str "if")) (aCons (eC (.str "end")) (aCons (eC (.str "cell")) (aCons (eC (.str "7")) (aCons (eMt rcS wUpper (eV 0) aNil) (aCons (e2 (wAdd false) (eV 0) (eC (.str "s"))) aNil))))))))))))))
    (sSeq (sSet 4 (e2 wIx (eV 2) (e2 wMod (e2 wDiv (eV 1) (eC (.int 5))) (eC (.int 30)))))
    (sSeq (sSet 5 (e2 wMod (e2 wDiv (eV 1) (eC (.int 150))) (eA (fun ws _ G => bLen ws G) (aCons (eV 0) aNil))))
    (sSeq (sSet 6 (e2 (wAdd false) (eSl false (eV 0) pNo (pSo (eV 5))) (eSl false (eV 0) (pSo (e2 (wAdd false) (eV 5) (eC (.int 1)))) pNo)))
    (sSeq (sIf (toT (e2 (wEq false) (e2 wMod (eV 1) (eC (.int 5))) (eC (.int 1)))) (sSet 6 (e2 (wAdd false) (e2 (wAdd false) (eSl false (eV 0) pNo (pSo (eV 5))) (eV 4)) (eSl false (eV 0) (pSo (e2 (wAdd false) (eV 5) (eC (.int 1)))) pNo))) sNil)
    (sSeq (sIf (toT (e2 (wEq false) (e2 wMod (eV 1) (eC (.int 5))) (eC (.int 2)))) (sSet 6 (e2 (wAdd false) (e2 (wAdd false) (eSl false (eV 0) pNo (pSo (eV 5))) (eV 4)) (eSl false (eV 0) (pSo (eV 5)) pNo))) sNil)
    (sSeq (sIf (toT (e2 wGt (e2 wMod (eV 1) (eC (.int 5))) (eC (.int 2)))) (sSet 6 (e2 wIx (eV 3) (e2 wMod (e2 wDiv (eV 1) (eC (.int 5))) (eC (.int 12))))) sNil)
    (sSeq (sIf (toT (e2 (wIn false) (eV 6) (eTup (aCons (eC (.str "put")) (aCons (eC (.str "add")) (aCons (eC (.str "sub")) (aCons (eC (.str "more")) (aCons (eC (.str "get")) (aCons (eC (.str "set")) (aCons (eC (.str "jump")) (aCons (eC (.str "when")) (aCons (eC (.str "tell")) (aCons (eC (.str "halt")) aNil))))))))))))) (sRet (e2 (wAdd false) (eV 6) (eC (.str "x")))) sNil)
    (sRet (eV 6)))))))))))
def f__law_other_word : List D → R D := fnD 2 7 b__law_other_word
theorem ok__law_other_word (T : Txt w K mg) : FnM P w K mg base 1 "_law_other_word" ["word", "cell"] (spP K (clOf mg) 2 f__law_other_word) := fn_pure T.d__law_other_word sc__law_other_word fun f cdv A outer s H E hr c hK hcl =>
    (msCons (mSet 2 sc__law_other_word.nd mStr)
    (msCons (mSet 3 sc__law_other_word.nd (mLst false (mCons mStr (mCons mStr (mCons mStr (mCons mStr (mCons mStr (mCons mStr (mCons mStr (mCons mStr (mCons mStr (mCons mStr (mCons (mUpper hK (mVar 0)) (mCons (mAdd false hK (mVar 0) mStr) mNil))))))))))))))
    (msCons (mSet 4 sc__law_other_word.nd (mIx hK.symm (mVar 2) (mMod (mDiv (mVar 1) mInt) mInt)))
    (msCons (mSet 5 sc__law_other_word.nd (mMod (mDiv (mVar 1) mInt) (mLen hK T.n_len (mCons (mVar 0) mNil))))
    (msCons (mSet 6 sc__law_other_word.nd (mAdd false hK (mSl false hK.symm (mVar 0) mPNo (mPSo (mVar 5))) (mSl false hK.symm (mVar 0) (mPSo (mAdd false hK (mVar 5) mInt)) mPNo)))
    (msCons (mIf (mCmT (cEq hK hr) (mMod (mVar 1) mInt) mInt) (msOne (mSet 6 sc__law_other_word.nd (mAdd false hK (mAdd false hK (mSl false hK.symm (mVar 0) mPNo (mPSo (mVar 5))) (mVar 4)) (mSl false hK.symm (mVar 0) (mPSo (mAdd false hK (mVar 5) mInt)) mPNo)))) msNil)
    (msCons (mIf (mCmT (cEq hK hr) (mMod (mVar 1) mInt) mInt) (msOne (mSet 6 sc__law_other_word.nd (mAdd false hK (mAdd false hK (mSl false hK.symm (mVar 0) mPNo (mPSo (mVar 5))) (mVar 4)) (mSl false hK.symm (mVar 0) (mPSo (mVar 5)) mPNo)))) msNil)
    (msCons (mIf (mCmT cGt (mMod (mVar 1) mInt) mInt) (msOne (mSet 6 sc__law_other_word.nd (mIx hK.symm (mVar 3) (mMod (mDiv (mVar 1) mInt) mInt)))) msNil)
    (msCons (mIf (mCmT (cIn hK) (mVar 6) (mTup (mCons mStr (mCons mStr (mCons mStr (mCons mStr (mCons mStr (mCons mStr (mCons mStr (mCons mStr (mCons mStr (mCons mStr mNil)))))))))))) (msOne (mRet (mAdd false hK (mVar 6) mStr))) msNil)
    (msOne (mRet (mVar 6))))))))))))
theorem o__law_other_word (x0 x1 : D) : f__law_other_word [x0, x1] = endD (b__law_other_word [some (.d x0), some (.d x1), none, none, none, none, none] []) := fnD_eq rfl
/-! ### _law_bad_number -/
abbrev st__law_bad_number : Stmt := topS 23
theorem sc__law_bad_number : FnScope ["word", "cell", "some"] ["word", "cell"] (defScope st__law_bad_number) := ⟨rfl, rfl, rfl, by decide +kernel, rfl, by decide +kernel, by decide +kernel⟩
def b__law_bad_number : FS :=
    (sSeq (sSet 2 (eLst false (aCons (e2 (wAdd false) (eC (.str "0")) (eV 0)) (aCons (e2 (wAdd false) (eC (.str "+")) (eV 0)) (aCons (eC (.str "-0")) (aCons (eC (.str "00")) (aCons (eC (.str "1_0")) (aCons (eC (.str "a")) (aCons (e2 (wAdd false) (eV 0) (eC (.str "a"))) (aCons (e2 (wAdd false) (eV 0) (eC (.str "."))) (aCons (e2 (wMul false) (eC (.str "9")) (eC (.int 61))) (aCons (eC (.str "--1")) (aCons (eC (.str "0x1")) aNil)))))))))))))
    (sRet (e2 wIx (e2 (wAdd false) (eV 2) (eLst false (aCons (e2 (wAdd false) (eC (.str "-")) (e2 (wMul false) (eC (.str "1")) (eC (.int 61)))) (aCons (e2 (wAdd false) (eC (.str "-0")) (eV 0)) aNil)))) (e2 wMod (eV 1) (eC (.int 13))))))
def f__law_bad_number : List D → R D := fnD 2 3 b__law_bad_number
theorem ok__law_bad_number (T : Txt w K mg) : FnM P w K mg base 1 "_law_bad_number" ["word", "cell"] (spP K (clOf mg) 2 f__law_bad_number) := fn_pure T.d__law_bad_number sc__law_bad_number fun f cdv A outer s H E hr c hK hcl =>
    (msCons (mSet 2 sc__law_bad_number.nd (mLst false (mCons (mAdd false hK mStr (mVar 0)) (mCons (mAdd false hK mStr (mVar 0)) (mCons mStr (mCons mStr (mCons mStr (mCons mStr (mCons (mAdd false hK (mVar 0) mStr) (mCons (mAdd false hK (mVar 0) mStr) (mCons (mMul false mStr mInt) (mCons mStr (mCons mStr mNil)))))))))))))
    (msOne (mRet (mIx hK.symm (mAdd false hK (mVar 2) (mLst false (mCons (mAdd false hK mStr (mMul false mStr mInt)) (mCons (mAdd false hK mStr (mVar 0)) mNil)))) (mMod (mVar 1) mInt)))))
theorem o__law_bad_number (x0 x1 : D) : f__law_bad_number [x0, x1] = endD (b__law_bad_number [some (.d x0), some (.d x1), none] []) := fnD_eq rfl
/-! ### _law_spoiled -/
abbrev st__law_spoiled : Stmt := topS 24
theorem sc__law_spoiled : FnScope ["line", "cell", "words", "kind", "rest", "at", "many", "box", "more", "far"] ["line", "cell"] (defScope st__law_spoiled) := ⟨rfl, rfl, rfl, by decide +kernel, rfl, by decide +kernel, by decide +kernel⟩
def b__law_spoiled : FS :=
    (sSeq (sSet 2 (eMt rcS (wSplit false) (eV 0) (aCons (eC (.str " ")) aNil)))
    (sSeq (sSet 3 (e2 wMod (eV 1) (eC (.int 12))))
    (sSeq (sSet 4 (e2 wDiv (eV 1) (eC (.int 12))))
    (sSeq (sSet 5 (e2 (wAdd false) (eC (.int 1)) (e2 wMod (eV 4) (eA (fun ws _ G => bMax2 ws G) (aCons (eC (.int 1)) (aCons (e2 wSub (eA (fun ws _ G => bLen ws G) (aCons (eV 2) aNil)) (eC (.int 1))) aNil))))))
    (sSeq (sIf (toT (e2 (wEq false) (eV 3) (eC (.int 0)))) (sRet (e2 (wAdd false) (eV 0) (e2 wIx (eLst false (aCons (eC (.str " 0")) (aCons (eC (.str " 7")) (aCons (eC (.str " 1 2")) (aCons (eC (.str " ; the end")) (aCons (eC (.str " #")) (aCons (eC (.str " halt")) (aCons (eC (.str " -1 5 6")) aNil)))))))) (e2 wMod (eV 4) (eC (.int 7)))))) sNil)
    (sSeq (sIf (toT (e2 (wEq false) (eV 3) (eC (.int 1)))) (sRet (eMt rcS wJoin (eC (.str " ")) (aCons (eSl false (eV 2) pNo (pSo (eA (fun ws _ G => bMax2 ws G) (aCons (e2 wSub (e2 wSub (eA (fun ws _ G => bLen ws G) (aCons (eV 2) aNil)) (eC (.int 1))) (e2 wMod (eV 4) (eC (.int 3)))) (aCons (eA (fun ws _ G => bInt ws G) (aCons (e2 wGt (eA (fun ws _ G => bLen ws G) (aCons (eV 2) aNil)) (eC (.int 1))) aNil)) aNil))))) aNil))) sNil)
    (sSeq (sIf (toT (e2 (wEq false) (eV 3) (eC (.int 2)))) (sRet (eMt rcS wJoin (eC (.str " ")) (aCons (e2 (wAdd false) (eLst false (aCons (eCall 2 f__law_other_word (aCons (e2 wIx (eV 2) (eC (.int 0))) (aCons (eV 4) aNil))) aNil)) (eSl false (eV 2) (pSo (eC (.int 1))) pNo)) aNil))) sNil)
    (sSeq (sIf (toT (e2 (wEq false) (eV 3) (eC (.int 3)))) (sRet (eMt rcS wJoin (eC (.str " ")) (aCons (e2 (wAdd false) (eLst false (aCons (e2 (wAdd false) (eMt rcS wUpper (eSl false (e2 wIx (eV 2) (eC (.int 0))) pNo (pSo (eC (.int 1)))) aNil) (eSl false (e2 wIx (eV 2) (eC (.int 0))) (pSo (eC (.int 1))) pNo)) aNil)) (eSl false (eV 2) (pSo (eC (.int 1))) pNo)) aNil))) sNil)
    (sSeq (sIf (tfAnd (toT (e2 (wEq false) (eV 3) (eC (.int 4)))) (tfAnd (toT (e2 wGt (eA (fun ws _ G => bLen ws G) (aCons (eV 2) aNil)) (eC (.int 1)))) (toT (e2 (wEq true) (e2 wIx (eV 2) (eC (.int 0))) (eC (.str "jump")))))) (sSeq (sSet 6 (eDIx (eDisp [("put", (eC (.int 1))), ("add", (eC (.int 3))), ("sub", (eC (.int 3))), ("more", (eC (.int 3))), ("get", (eC (.int 2))), ("set", (eC (.int 2))), ("when", (eC (.int 1))), ("tell", (eC (.int 1)))]) (e2 wIx (eV 2) (eC (.int 0)))))
    (sSeq (sSet 7 (e2 (wAdd false) (eC (.int 1)) (e2 wMod (e2 wDiv (eV 4) (eC (.int 5))) (eV 6))))
    (sSeq (sSet 8 (e2 wMod (e2 wDiv (eV 4) (eC (.int 15))) (e2 wPow (eC (.int 10)) (eC (.int 50)))))
    (sSeq (sSet 9 (e2 wIx (eLst false (aCons (eC (.str "8")) (aCons (eC (.str "-1")) (aCons (e2 (wMul false) (eC (.str "9")) (eC (.int 60))) (aCons (eA (fun ws _ G => bStr ws G) (aCons (e2 (wAdd false) (eC (.int 8)) (eV 8)) aNil)) (aCons (eA (fun ws _ G => bStr ws G) (aCons (e2 wSub (eNeg (eC (.int 1))) (eV 8)) aNil)) aNil)))))) (e2 wMod (eV 4) (eC (.int 5)))))
    (sRet (eMt rcS wJoin (eC (.str " ")) (aCons (e2 (wAdd false) (e2 (wAdd false) (eSl false (eV 2) pNo (pSo (eV 7))) (eLst false (aCons (eV 9) aNil))) (eSl false (eV 2) (pSo (e2 (wAdd false) (eV 7) (eC (.int 1)))) pNo)) aNil))))))) sNil)
    (sSeq (sIf (tfAnd (toT (e2 (wIn false) (eV 3) (eTup (aCons (eC (.int 5)) (aCons (eC (.int 6)) (aCons (eC (.int 7)) aNil)))))) (toT (e2 wGt (eA (fun ws _ G => bLen ws G) (aCons (eV 2) aNil)) (eC (.int 1))))) (sRet (eMt rcS wJoin (eC (.str " ")) (aCons (e2 (wAdd false) (e2 (wAdd false) (eSl false (eV 2) pNo (pSo (eV 5))) (eLst false (aCons (eCall 2 f__law_bad_number (aCons (e2 wIx (eV 2) (eV 5)) (aCons (e2 wDiv (eV 4) (eC (.int 5))) aNil))) aNil))) (eSl false (eV 2) (pSo (e2 (wAdd false) (eV 5) (eC (.int 1)))) pNo)) aNil))) sNil)
    (sSeq (sIf (toT (e2 (wEq false) (eV 3) (eC (.int 8)))) (sRet (e2 (wAdd false) (eC (.str " ")) (eV 0))) sNil)
    (sSeq (sIf (toT (e2 (wEq false) (eV 3) (eC (.int 9)))) (sRet (e2 (wAdd false) (eV 0) (eC (.str " ")))) sNil)
    (sSeq (sIf (tfAnd (toT (e2 (wEq false) (eV 3) (eC (.int 10)))) (toT (e2 wGt (eA (fun ws _ G => bLen ws G) (aCons (eV 2) aNil)) (eC (.int 1))))) (sRet (eMt rcS wJoin (eC (.str " ")) (aCons (e2 (wAdd false) (e2 (wAdd false) (eSl false (eV 2) pNo (pSo (eV 5))) (eLst false (aCons (eC (.str "")) aNil))) (eSl false (eV 2) (pSo (eV 5)) pNo)) aNil))) sNil)
    (sRet (e2 wIx (eLst false (aCons (eC (.str "")) (aCons (eC (.str "")) (aCons (eC (.str " ")) (aCons (eC (.str "  ")) aNil))))) (e2 wMod (eV 4) (eC (.int 4))))))))))))))))))
def f__law_spoiled : List D → R D := fnD 2 10 b__law_spoiled
theorem ok__law_spoiled (T : Txt w K mg) : FnM P w K mg base 2 "_law_spoiled" ["line", "cell"] (spP K (clOf mg) 2 f__law_spoiled) := fn_pure T.d__law_spoiled sc__law_spoiled fun f cdv A outer s H E hr c hK hcl =>
    (msCons (mSet 2 sc__law_spoiled.nd (mSplit false hK (mVar 0) (mCons mStr mNil)))
    (msCons (mSet 3 sc__law_spoiled.nd (mMod (mVar 1) mInt))
    (msCons (mSet 4 sc__law_spoiled.nd (mDiv (mVar 1) mInt))
    (msCons (mSet 5 sc__law_spoiled.nd (mAdd false hK mInt (mMod (mVar 4) (mMax rfl T.n_max (mCons mInt (mCons (mSub (mLen hK T.n_len (mCons (mVar 2) mNil)) mInt) mNil))))))
    (msCons (mIf (mCmT (cEq hK hr) (mVar 3) mInt) (msOne (mRet (mAdd false hK (mVar 0) (mIx hK.symm (mLst false (mCons mStr (mCons mStr (mCons mStr (mCons mStr (mCons mStr (mCons mStr (mCons mStr mNil)))))))) (mMod (mVar 4) mInt))))) msNil)
    (msCons (mIf (mCmT (cEq hK hr) (mVar 3) mInt) (msOne (mRet (mJoin hK mStr (mCons (mSl false hK.symm (mVar 2) mPNo (mPSo (mMax rfl T.n_max (mCons (mSub (mSub (mLen hK T.n_len (mCons (mVar 2) mNil)) mInt) (mMod (mVar 4) mInt)) (mCons (mIntC T.n_int (mCons (mCm cGt (mLen hK T.n_len (mCons (mVar 2) mNil)) mInt) mNil)) mNil))))) mNil)))) msNil)
    (msCons (mIf (mCmT (cEq hK hr) (mVar 3) mInt) (msOne (mRet (mJoin hK mStr (mCons (mAdd false hK (mLst false (mCons (mCall (ok__law_other_word T) hK hcl (hr.mono (by decide)) (by rfl) (takes_of rfl rfl rfl rfl) (mCons (mIx hK.symm (mVar 2) mInt) (mCons (mVar 4) mNil))) mNil)) (mSl false hK.symm (mVar 2) (mPSo mInt) mPNo)) mNil)))) msNil)
    (msCons (mIf (mCmT (cEq hK hr) (mVar 3) mInt) (msOne (mRet (mJoin hK mStr (mCons (mAdd false hK (mLst false (mCons (mAdd false hK (mUpper hK (mSl false hK.symm (mIx hK.symm (mVar 2) mInt) mPNo (mPSo mInt))) (mSl false hK.symm (mIx hK.symm (mVar 2) mInt) (mPSo mInt) mPNo)) mNil)) (mSl false hK.symm (mVar 2) (mPSo mInt) mPNo)) mNil)))) msNil)
    (msCons (mIf (PW.pt (mAnd (mCmT (cEq hK hr) (mVar 3) mInt) (mAnd (mCmT cGt (mLen hK T.n_len (mCons (mVar 2) mNil)) mInt) (mAnd1 (mCmT (cNe hK hr) (mIx hK.symm (mVar 2) mInt) mStr))))) (msCons (mSet 6 sc__law_spoiled.nd (mDIx hr (mDisp (.cons (fun c1 k1 l1 => mInt) (.cons (fun c1 k1 l1 => mInt) (.cons (fun c1 k1 l1 => mInt) (.cons (fun c1 k1 l1 => mInt) (.cons (fun c1 k1 l1 => mInt) (.cons (fun c1 k1 l1 => mInt) (.cons (fun c1 k1 l1 => mInt) (.cons (fun c1 k1 l1 => mInt) .nil))))))))) (mIx hK.symm (mVar 2) mInt)))
    (msCons (mSet 7 sc__law_spoiled.nd (mAdd false hK mInt (mMod (mDiv (mVar 4) mInt) (mVar 6))))
    (msCons (mSet 8 sc__law_spoiled.nd (mMod (mDiv (mVar 4) mInt) (mPow mInt mInt)))
    (msCons (mSet 9 sc__law_spoiled.nd (mIx hK.symm (mLst false (mCons mStr (mCons mStr (mCons (mMul false mStr mInt) (mCons (mStrC T.n_str (mCons (mAdd false hK mInt (mVar 8)) mNil)) (mCons (mStrC T.n_str (mCons (mSub (mNeg mInt) (mVar 8)) mNil)) mNil)))))) (mMod (mVar 4) mInt)))
    (msOne (mRet (mJoin hK mStr (mCons (mAdd false hK (mAdd false hK (mSl false hK.symm (mVar 2) mPNo (mPSo (mVar 7))) (mLst false (mCons (mVar 9) mNil))) (mSl false hK.symm (mVar 2) (mPSo (mAdd false hK (mVar 7) mInt)) mPNo)) mNil)))))))) msNil)
    (msCons (mIf (PW.pt (mAnd (mCmT (cIn hK) (mVar 3) (mTup (mCons mInt (mCons mInt (mCons mInt mNil))))) (mAnd1 (mCmT cGt (mLen hK T.n_len (mCons (mVar 2) mNil)) mInt)))) (msOne (mRet (mJoin hK mStr (mCons (mAdd false hK (mAdd false hK (mSl false hK.symm (mVar 2) mPNo (mPSo (mVar 5))) (mLst false (mCons (mCall (ok__law_bad_number T) hK hcl (hr.mono (by decide)) (by rfl) (takes_of rfl rfl rfl rfl) (mCons (mIx hK.symm (mVar 2) (mVar 5)) (mCons (mDiv (mVar 4) mInt) mNil))) mNil))) (mSl false hK.symm (mVar 2) (mPSo (mAdd false hK (mVar 5) mInt)) mPNo)) mNil)))) msNil)
    (msCons (mIf (mCmT (cEq hK hr) (mVar 3) mInt) (msOne (mRet (mAdd false hK mStr (mVar 0)))) msNil)
    (msCons (mIf (mCmT (cEq hK hr) (mVar 3) mInt) (msOne (mRet (mAdd false hK (mVar 0) mStr))) msNil)
    (msCons (mIf (PW.pt (mAnd (mCmT (cEq hK hr) (mVar 3) mInt) (mAnd1 (mCmT cGt (mLen hK T.n_len (mCons (mVar 2) mNil)) mInt)))) (msOne (mRet (mJoin hK mStr (mCons (mAdd false hK (mAdd false hK (mSl false hK.symm (mVar 2) mPNo (mPSo (mVar 5))) (mLst false (mCons mStr mNil))) (mSl false hK.symm (mVar 2) (mPSo (mVar 5)) mPNo)) mNil)))) msNil)
    (msOne (mRet (mIx hK.symm (mLst false (mCons mStr (mCons mStr (mCons mStr (mCons mStr mNil))))) (mMod (mVar 4) mInt)))))))))))))))))
theorem o__law_spoiled (x0 x1 : D) : f__law_spoiled [x0, x1] = endD (b__law_spoiled [some (.d x0), some (.d x1), none, none, none, none, none, none, none, none] []) := fnD_eq rfl
/-! ### law -/
abbrev st_law : Stmt := topS 26
theorem sc_law : FnScope ["script", "style", "lines", "clean", "first", "bad", "k", "cell", "at", "text"] ["script"] (defScope st_law) := ⟨rfl, rfl, rfl, by decide +kernel, rfl, by decide +kernel, by decide +kernel⟩
def l_law_1 : FS :=
    (sSeq (sSet 7 (e2 (wAdd false) (e2 wDiv (eCall 2 f__law_cell_at (aCons (eV 0) (aCons (eC (.int 1)) aNil))) (eC (.int 3))) (e2 (wMul false) (eV 6) (eV 6))))
    (sSeq (sSet 7 (e2 (wAdd false) (eV 7) (e2 wDiv (eCall 2 f__law_cell_at (aCons (eV 0) (aCons (eC (.int 2)) aNil))) (e2 (wAdd false) (eC (.int 1)) (e2 (wMul false) (eC (.int 7)) (eV 6))))))
    (sSeq (sSet 8 (e2 wMod (eV 7) (eA (fun ws _ G => bLen ws G) (aCons (eV 2) aNil))))
    (sSeq (sAsg (gSetL (eV 5) (eV 8)) (eCall 2 f__law_spoiled (aCons (e2 wIx (eV 2) (eV 8)) (aCons (e2 wDiv (eV 7) (eA (fun ws _ G => bLen ws G) (aCons (eV 2) aNil))) aNil))))
    (sSet 4 (eA (fun ws _ G => bMin2 ws G) (aCons (eV 4) (aCons (eV 8) aNil))))))))
theorem ul_law_1 (s : Sd) (G : Gd) : l_law_1 s G =
    (sSeq (sSet 7 (e2 (wAdd false) (e2 wDiv (eCall 2 f__law_cell_at (aCons (eV 0) (aCons (eC (.int 1)) aNil))) (eC (.int 3))) (e2 (wMul false) (eV 6) (eV 6))))
    (sSeq (sSet 7 (e2 (wAdd false) (eV 7) (e2 wDiv (eCall 2 f__law_cell_at (aCons (eV 0) (aCons (eC (.int 2)) aNil))) (e2 (wAdd false) (eC (.int 1)) (e2 (wMul false) (eC (.int 7)) (eV 6))))))
    (sSeq (sSet 8 (e2 wMod (eV 7) (eA (fun ws _ G => bLen ws G) (aCons (eV 2) aNil))))
    (sSeq (sAsg (gSetL (eV 5) (eV 8)) (eCall 2 f__law_spoiled (aCons (e2 wIx (eV 2) (eV 8)) (aCons (e2 wDiv (eV 7) (eA (fun ws _ G => bLen ws G) (aCons (eV 2) aNil))) aNil))))
    (sSet 4 (eA (fun ws _ G => bMin2 ws G) (aCons (eV 4) (aCons (eV 8) aNil)))))))) s G := rfl
def b_law : FS :=
    (sSeq (sSet 1 (e2 wMod (eCall 2 f__law_cell_at (aCons (eV 0) (aCons (eC (.int 0)) aNil))) (eC (.int 3))))
    (sSeq (sSet 2 (eCall 2 f__law_lines (aCons (eV 0) (aCons (eV 1) aNil))))
    (sSeq (sSet 3 (eCall 1 f__law_fault (aCons (eMt rcS wJoin (eC (.str "\n")) (aCons (eV 2) aNil)) aNil)))
    (sSeq (sIf (tfOr (tfAnd (toT (e2 (wEq false) (eV 1) (eC (.int 0)))) (toT (e2 (wEq true) (eV 3) (eLst false (aCons (eC (.int 0)) (aCons (eC (.int 0)) aNil)))))) (tfAnd (toT (e2 (wEq false) (eV 1) (eC (.int 2)))) (toT (e2 (wEq true) (eV 3) (eLst false (aCons (eC (.int 1)) (aCons (eC (.int 0)) aNil))))))) (sRet (eC (.bl false))) sNil)
    (sSeq (sIf (tfAnd (toT (e2 (wEq true) (e2 wIx (eV 3) (eC (.int 0))) (eC (.int 0)))) (toT (e2 (wEq true) (e2 wIx (eV 3) (eC (.int 0))) (eC (.int 1))))) (sRet (eC (.bl false))) sNil)
    (sSeq (sSet 4 (eA (fun ws _ G => bLen ws G) (aCons (eV 2) aNil)))
    (sSeq (sSet 5 (eA (fun ws _ G => bList true ws G) (aCons (eV 2) aNil)))
    (sSeq (sFor (iRange1 (aCons (e2 (wAdd false) (eC (.int 1)) (e2 wMod (eCall 2 f__law_cell_at (aCons (eV 0) (aCons (eC (.int 1)) aNil))) (eC (.int 3)))) aNil)) (gN 6) l_law_1)
    (sSeq (sSet 9 (eMt rcS wJoin (eC (.str "\n")) (aCons (eV 5) aNil)))
    (sSeq (sIf (tfAnd (toT (e2 wGt (eA (fun ws _ G => bLen ws G) (aCons (eV 2) aNil)) (eC (.int 1)))) (toT (e2 (wEq false) (e2 wMod (eCall 2 f__law_cell_at (aCons (eV 0) (aCons (eC (.int 2)) aNil))) (eC (.int 5))) (eC (.int 1))))) (sSeq (sSet 8 (e2 wMod (e2 wDiv (eCall 2 f__law_cell_at (aCons (eV 0) (aCons (eC (.int 2)) aNil))) (eC (.int 5))) (e2 wSub (eA (fun ws _ G => bLen ws G) (aCons (eV 2) aNil)) (eC (.int 1)))))
    (sSeq (sSet 4 (eA (fun ws _ G => bMin2 ws G) (aCons (eV 4) (aCons (eV 8) aNil))))
    (sSeq (sAsg (gSetL (eV 5) (eV 8)) (e2 (wAdd false) (e2 (wAdd false) (e2 wIx (eV 2) (eV 8)) (eC (.str " "))) (e2 wIx (eV 2) (e2 (wAdd false) (eV 8) (eC (.int 1))))))
    (sSeq (sExpr (eMt rcL wPopAt (eV 5) (aCons (e2 (wAdd false) (eV 8) (eC (.int 1))) aNil)))
    (sSet 9 (eMt rcS wJoin (eC (.str "\n")) (aCons (eV 5) aNil))))))) sNil)
    (sSeq (sIf (tfOr (toT (e2 (wEq true) (eCall 1 f__law_fault (aCons (eV 9) aNil)) (eLst false (aCons (eC (.int 2)) (aCons (e2 (wAdd false) (eV 4) (eC (.int 1))) aNil))))) (toT (e2 (wEq true) (eErrF "BadRow" "row" (eMkF "BadRow" "row" (e2 (wAdd false) (eV 4) (eC (.int 7))))) (e2 (wAdd false) (eV 4) (eC (.int 7)))))) (sRet (eC (.bl false))) sNil)
    (sRet (e2 (wEq false) (eCall 1 f__law_fault (aCons (eMt rcS wJoin (eC (.str "\n")) (aCons (eV 2) aNil)) aNil)) (eV 3))))))))))))))
def f_law : List D → R D := fnD 1 10 b_law
theorem bo_law (T : Txt w K mg) : BodyOk P w K mg base (clOf mg) ["script", "style", "lines", "clean", "first", "bad", "k", "cell", "at", "text"] "law" st_law 4 b_law := fun f cdv A outer s H E hr c hK hcl =>
    (msCons (mSet 1 sc_law.nd (mMod (mCall (ok__law_cell_at T) hK hcl (hr.mono (by decide)) (by rfl) (takes_of rfl rfl rfl rfl) (mCons (mVar 0) (mCons mInt mNil))) mInt))
    (msCons (mSet 2 sc_law.nd (mCall (ok__law_lines T) hK hcl (hr.mono (by decide)) (by rfl) (takes_of rfl rfl rfl rfl) (mCons (mVar 0) (mCons (mVar 1) mNil))))
    (msCons (mSet 3 sc_law.nd (mCall (ok__law_fault T) hK hcl (hr.mono (by decide)) (by rfl) (takes_of rfl rfl rfl rfl) (mCons (mJoin hK mStr (mCons (mVar 2) mNil)) mNil)))
    (msCons (mIf (PW.pt (mOr (PW.pt (mAnd (mCmT (cEq hK hr) (mVar 1) mInt) (mAnd1 (mCmT (cNe hK hr) (mVar 3) (mLst false (mCons mInt (mCons mInt mNil))))))) (mOr1 (PW.pt (mAnd (mCmT (cEq hK hr) (mVar 1) mInt) (mAnd1 (mCmT (cNe hK hr) (mVar 3) (mLst false (mCons mInt (mCons mInt mNil)))))))))) (msOne (mRet mBl)) msNil)
    (msCons (mIf (PW.pt (mAnd (mCmT (cNe hK hr) (mIx hK.symm (mVar 3) mInt) mInt) (mAnd1 (mCmT (cNe hK hr) (mIx hK.symm (mVar 3) mInt) mInt)))) (msOne (mRet mBl)) msNil)
    (msCons (mSet 4 sc_law.nd (mLen hK T.n_len (mCons (mVar 2) mNil)))
    (msCons (mSet 5 sc_law.nd (mList true hK T.n_list (mCons (mVar 2) mNil)))
    (msCons (mFor (passes_of rfl) rfl (miRange1 (by rfl) T.n_range (mCons (mAdd false hK mInt (mMod (mCall (ok__law_cell_at T) hK hcl (hr.mono (by decide)) (by rfl) (takes_of rfl rfl rfl rfl) (mCons (mVar 0) (mCons mInt mNil))) mInt)) mNil)) (mgName 6 sc_law.nd) (msCons (mSet 7 sc_law.nd (mAdd false hK (mDiv (mCall (ok__law_cell_at T) hK hcl (hr.mono (by decide)) (by rfl) (takes_of rfl rfl rfl rfl) (mCons (mVar 0) (mCons mInt mNil))) mInt) (mMul false (mVar 6) (mVar 6))))
    (msCons (mSet 7 sc_law.nd (mAdd false hK (mVar 7) (mDiv (mCall (ok__law_cell_at T) hK hcl (hr.mono (by decide)) (by rfl) (takes_of rfl rfl rfl rfl) (mCons (mVar 0) (mCons mInt mNil))) (mAdd false hK mInt (mMul false mInt (mVar 6))))))
    (msCons (mSet 8 sc_law.nd (mMod (mVar 7) (mLen hK T.n_len (mCons (mVar 2) mNil))))
    (msCons (mAsg (mCall (ok__law_spoiled T) hK hcl (hr.mono (by decide)) (by rfl) (takes_of rfl rfl rfl rfl) (mCons (mIx hK.symm (mVar 2) (mVar 8)) (mCons (mDiv (mVar 7) (mLen hK T.n_len (mCons (mVar 2) mNil))) mNil))) (mgSet (mVar 5) (mVar 8)))
    (msOne (mSet 4 sc_law.nd (mMin rfl T.n_min (mCons (mVar 4) (mCons (mVar 8) mNil))))))))))
    (msCons (mSet 9 sc_law.nd (mJoin hK mStr (mCons (mVar 5) mNil)))
    (msCons (mIf (PW.pt (mAnd (mCmT cGt (mLen hK T.n_len (mCons (mVar 2) mNil)) mInt) (mAnd1 (mCmT (cEq hK hr) (mMod (mCall (ok__law_cell_at T) hK hcl (hr.mono (by decide)) (by rfl) (takes_of rfl rfl rfl rfl) (mCons (mVar 0) (mCons mInt mNil))) mInt) mInt)))) (msCons (mSet 8 sc_law.nd (mMod (mDiv (mCall (ok__law_cell_at T) hK hcl (hr.mono (by decide)) (by rfl) (takes_of rfl rfl rfl rfl) (mCons (mVar 0) (mCons mInt mNil))) mInt) (mSub (mLen hK T.n_len (mCons (mVar 2) mNil)) mInt)))
    (msCons (mSet 4 sc_law.nd (mMin rfl T.n_min (mCons (mVar 4) (mCons (mVar 8) mNil))))
    (msCons (mAsg (mAdd false hK (mAdd false hK (mIx hK.symm (mVar 2) (mVar 8)) mStr) (mIx hK.symm (mVar 2) (mAdd false hK (mVar 8) mInt))) (mgSet (mVar 5) (mVar 8)))
    (msCons (mExpr (mPopAt hK (mVar 5) (mCons (mAdd false hK (mVar 8) mInt) mNil)))
    (msOne (mSet 9 sc_law.nd (mJoin hK mStr (mCons (mVar 5) mNil)))))))) msNil)
    (msCons (mIf (PW.pt (mOr (mCmT (cNe hK hr) (mCall (ok__law_fault T) hK hcl (hr.mono (by decide)) (by rfl) (takes_of rfl rfl rfl rfl) (mCons (mVar 9) mNil)) (mLst false (mCons mInt (mCons (mAdd false hK (mVar 4) mInt) mNil)))) (mOr1 (mCmT (cNe hK hr) (mErrF T.e_BadRow hK.symm hcl (mMkF (okx_BadRow T) hK.symm hcl (hr.mono (by decide)) (by rfl) (mAdd false hK (mVar 4) mInt))) (mAdd false hK (mVar 4) mInt))))) (msOne (mRet mBl)) msNil)
    (msOne (mRet (mCm (cEq hK hr) (mCall (ok__law_fault T) hK hcl (hr.mono (by decide)) (by rfl) (takes_of rfl rfl rfl rfl) (mCons (mJoin hK mStr (mCons (mVar 2) mNil)) mNil)) (mVar 3)))))))))))))))
theorem o_law (x0 : D) : f_law [x0] = endD (b_law [some (.d x0), none, none, none, none, none, none, none, none, none] []) := fnD_eq rfl
end
theorem all_mk {w : World} {K : PySem.W.Frag} {h : Heap} {mg : Str → Option Value} {fa : Addr} (X : K.In h) (G : h.Ns mainGlobals mg) (hfa : mg "law" = some (.ref fa)) (T : Txt w K mg) (law : ∀ ns : List Int, ns.length ≤ 63 → f_law [.scr ns] = .ok (.bl true)) :
    ∃ fd : FuncData, (∀ (s : Shared) (v : Value), BindsTo s fd ⟨[v], []⟩ [("script", v)]) ∧ ∀ base : Heap, K.In base → base.Ns mainGlobals mg → FnOk PySem.Challenge.pw_stepledger_k03_bad_row w K mg base (L2.CX PySem.Challenge.pw_stepledger_k03_bad_row w) 5 fa fd ["script"] (spLaw K) := law_mk hfa T.d_law sc_law (fun base => bo_law T) law
end Q

set_option maxRecDepth 100000
set_option maxHeartbeats 4000000
namespace Q
open PySem PySem.Spec PyProof.Rows L2 M
theorem mod8 (x : Int) : ∃ a : Nat, a < 8 ∧ x % 8 = (a : Int) := ⟨(x % 8).toNat, by omega, by omega⟩
theorem modN (x : Int) (m : Nat) (h : 0 < m) : ∃ a : Nat, a < m ∧ x % (m : Int) = (a : Int) := by
  have h1 := Int.emod_nonneg x (show (m : Int) ≠ 0 by omega)
  have h2 := Int.emod_lt_of_pos x (show (0 : Int) < m by omega)
  exact ⟨(x % m).toNat, by omega, by omega⟩
/-! is_number -/
abbrev mkS (l : List Nat) : Str := ⟨l.toArray⟩
theorem mk_ext {z : Str} : z = mkS z.cps.toList := by cases z; simp
def tl1 (l : List Nat) : List Nat := l.tail
def fig (l : List Nat) : List Nat := if l.take 1 = [45] then tl1 l else l
def isDig (k : Nat) : Bool := decide (k ∈ (Str.ofString "0123456789").cps)
def numF (l F : List Nat) : Bool := match F with
  | [] => false
  | k :: r => decide ((k :: r).length ≤ 60) && ((k :: r).all isDig && (decide (k ≠ 48) || decide (l = [48])))
def num (l : List Nat) : Bool := numF l (fig l)
theorem mkS_inj {a b : List Nat} : mkS a = mkS b ↔ a = b := ⟨fun h => by have := congrArg (fun z : Str => z.cps.toList) h; simpa using this, fun h => by rw [h]⟩
theorem lit_minus : (Str.ofString "-") = mkS [45] := by decide +kernel
theorem lit_0 : (Str.ofString "0") = mkS [48] := by decide +kernel
theorem lit_m0 : (Str.ofString "-0") = mkS [45, 48] := by decide +kernel
theorem lit_e : (Str.ofString "") = mkS [] := by decide +kernel
theorem mkS_len {l : List Nat} : (mkS l).length = l.length := by show l.toArray.size = _; simp
theorem cut1 {l : List Nat} : cutS (mkS l) none (some 1) = mkS (l.take 1) := by
  have := cut_to (xs := l) (n := 1)
  unfold cutG at this
  unfold cutS
  rw [mkS_len]
  exact congrArg mkS this
theorem cutT {l : List Nat} : cutS (mkS l) (some 1) none = mkS (tl1 l) := by
  have := cut_from (xs := l) (n := 1)
  unfold cutG at this
  unfold cutS
  rw [mkS_len]
  rw [List.drop_one] at this
  exact congrArg mkS this
def sgn (k : Nat) : W := .d (.str ⟨#[k]⟩)
theorem strSeq_mk {l : List Nat} : strSeq (mkS l) = l.map sgn := rfl
theorem loop_num (x : D) (y : Option W) (f : List Nat) : ∃ y', forM (gN 2) l_is_number_1 (f.map sgn) [some (.d x), some (.d (.str (mkS f))), y] [] =
    if f.all isDig = true then .ok (.nx [some (.d x), some (.d (.str (mkS f))), y'], []) else .ok (.rt (.d (.bl false)), []) := by
  have gen : ∀ (u : Option W) (g : List Nat) (y : Option W), ∃ y', forM (gN 2) l_is_number_1 (g.map sgn) [some (.d x), u, y] [] = if g.all isDig = true then .ok (.nx [some (.d x), u, y'], []) else .ok (.rt (.d (.bl false)), []) := by
    intro u g
    induction g with
    | nil => intro y; exact ⟨y, by simp⟩
    | cons k g ih =>
      intro y
      obtain ⟨y', e⟩ := ih (some (sgn k))
      refine ⟨y', ?_⟩
      by_cases hk : k ∈ (Str.ofString "0123456789").cps
      · simp [l_is_number_1, sgn, w_inS, isDig, hk] at e ⊢
        exact e
      · simp [l_is_number_1, sgn, w_inS, isDig, hk]
  exact gen _ f y
theorem num_core (l F : List Nat) (hF : F.length ≤ 1000) : endD
      ((sSeq (sIf (tfOr (toT (e2 wLt (eA (fun ws _ G => bLen ws G) (aCons (eV 1) aNil)) (eC (.int 1)))) (toT (e2 wGt (eA (fun ws _ G => bLen ws G) (aCons (eV 1) aNil)) (eC (.int 60))))) (sRet (eC (.bl false))) sNil)
    (sSeq (sFor (iAny (eV 1)) (gN 2) l_is_number_1)
    (sRet (eOr (e2 (wEq true) (e2 wIx (eV 1) (eC (.int 0))) (eC (.str "0"))) (e2 (wEq false) (eV 0) (eC (.str "0")))))))
        [some (.d (.str (mkS l))), some (.d (.str (mkS F))), none] []) = .ok (.bl (numF l F)) := by
  have h1 : F.length ≤ 16777216 := by omega
  simp [mkS_len, mkS_inj, h1, strSeq_mk]
  obtain ⟨y', e⟩ := loop_num (.str (mkS l)) none F
  rw [e]
  cases F with
  | nil => simp [numF]
  | cons k r =>
    by_cases hz : 60 < (((k :: r).length : Nat) : Int)
    · have hz2 : ¬ (k :: r).length ≤ 60 := by omega
      rw [if_neg (by simp; omega), if_pos hz]
      simp only [numF, hz2, decide_false, Bool.false_and]
    · have hz2 : (k :: r).length ≤ 60 := by omega
      rw [if_neg (by simp; omega), if_neg hz]
      by_cases ha : (k :: r).all isDig = true
      · rw [if_pos ha]
        simp only [numF, hz2, ha]
        have h1' : r.length + 1 ≤ 16777216 := by simpa using h1
        have e48 : ((⟨#[k]⟩ : Str) = mkS [48]) = (k = 48) := by rw [show (⟨#[k]⟩ : Str) = mkS [k] from rfl, mkS_inj]; simp
        simp [mkS_len, lit_0, mkS_inj, h1', e48]
        by_cases hk : k = 48 <;> simp [hk]
      · rw [if_neg ha]
        simp only [numF, ha, Bool.false_and, Bool.and_false, x_then_rt, endD_rt]
theorem num_ok (l : List Nat) (hl : l.length ≤ 1000) : f_is_number [.str (mkS l)] = .ok (.bl (num l)) := by
  have h1 : l.length ≤ 16777216 := by omega
  have ht : (tl1 l).length ≤ 1000 := by unfold tl1; simp; omega
  rw [o_is_number, b_is_number]
  by_cases hm : l.take 1 = [45]
  · have := num_core l (tl1 l) ht
    simp only [x_sSeq] at this ⊢
    rw [show num l = numF l (tl1 l) by simp [num, fig, hm], ← this]
    simp [mkS_len, cut1, cutT, lit_minus, mkS_inj, h1, hm]
  · have := num_core l l hl
    simp only [x_sSeq] at this ⊢
    rw [show num l = numF l l by simp [num, fig, hm], ← this]
    simp [mkS_len, cut1, cutT, lit_minus, mkS_inj, h1, hm]
theorem dig_all : ∀ k, 48 ≤ k → k ≤ 57 → isDig k = true := by
  intro k h1 h2
  have : ∀ j, j < 10 → isDig (48 + j) = true := by decide +kernel
  have := this (k - 48) (by omega)
  rwa [show 48 + (k - 48) = k by omega] at this
theorem dig_no : ∀ k, 97 ≤ k → isDig k = false := by
  intro k h
  have : ∀ c ∈ (Str.ofString "0123456789").cps.toList, c < 97 := by decide +kernel
  unfold isDig
  refine decide_eq_false fun hm => ?_
  have := this k (Array.mem_toList_iff.mpr hm)
  omega
/-- a number's text is a number -/
theorem isnum_int {i : Int} (h : i.natAbs < 10 ^ 60) : f_is_number [.str (Str.ofString (toString i))] = .ok (.bl true) := by
  obtain ⟨k, r, e, hd, h0, hs⟩ := int_signs i
  have hl := int_slen e 59 h
  have hz : Str.ofString (toString i) = mkS (if i < 0 then 45 :: k :: r else k :: r) := by rw [← hs]
  have hk := hd k (List.mem_cons_self ..)
  have al : (k :: r).all isDig = true := List.all_eq_true.mpr fun c hc => dig_all c (hd c hc).1 (hd c hc).2
  rw [hz]
  by_cases hi : i < 0
  · rw [if_pos hi, num_ok _ (by rw [List.length_cons]; omega)]
    have hf : fig (45 :: k :: r) = k :: r := by simp [fig, tl1]
    have hk48 : k ≠ 48 := fun e => by have := (h0 e).2; omega
    unfold num
    rw [hf]
    simp only [numF]
    rw [al, decide_eq_true (show (k :: r).length ≤ 60 by omega), decide_eq_true (show k ≠ 48 from hk48)]
    rfl
  · rw [if_neg hi, num_ok _ (by omega)]
    have hf : fig (k :: r) = k :: r := by
      unfold fig
      rw [if_neg]
      simp
      omega
    unfold num
    rw [hf]
    simp only [numF]
    rw [al, decide_eq_true (show (k :: r).length ≤ 60 by omega)]
    by_cases hk48 : k = 48
    · obtain ⟨hr, _⟩ := h0 hk48
      subst hk48 hr
      rfl
    · rw [decide_eq_true (show k ≠ 48 from hk48)]
      rfl
/-- a word that begins with a letter is none -/
theorem isnum_word {z : Str} {c : Nat} {l : List Nat} (hz : z.cps.toList = c :: l) (hc : 97 ≤ c) (hl : z.length ≤ 1000) : f_is_number [.str z] = .ok (.bl false) := by
  have e : z = mkS (c :: l) := by rw [← hz]
  have le : (c :: l).length ≤ 1000 := by
    rw [← hz]
    show z.cps.toList.length ≤ 1000
    rw [Array.length_toList]
    exact hl
  rw [e, num_ok _ le]
  have hf : fig (c :: l) = c :: l := by
    unfold fig
    rw [if_neg]
    simp
    omega
  unfold num
  rw [hf]
  simp only [numF, List.all_cons, dig_no c hc, Bool.false_and, Bool.and_false]
/-! rows of a roll, as texts: what row_of tells -/
abbrev txtI (i : Int) : Str := Str.ofString (toString i)
/-- a word that rows may hold: if it is a number, it is a short one's text -/
def WOk (w : Str) : Prop := w.length ≤ 1000 ∧ (num w.cps.toList = true → ∃ i : Int, w = txtI i ∧ i.natAbs < 10 ^ 60)
def argsR : List Nat → List Str → Option (List Int)
  | k :: ks, w :: ws => if num w.cps.toList = true then
      match PySem.intText? w with
      | some n => if k = 98 ∧ (n < 0 ∨ 7 < n) then none else (argsR ks ws).map (n :: ·)
      | none => none
    else none
  | _, _ => some []
def rowD : List Str → D
  | [] => .non
  | w :: ws => match kd_SHAPES.lookup w with
    | none => .non
    | some sh => if ws.length = sh.length then
        match argsR sh.cps.toList ws with
        | some ns => .tup (.str w :: ns.map D.int)
        | none => .non
      else .non
theorem num_tl {w : Str} (h : w.length ≤ 1000) : f_is_number [.str w] = .ok (.bl (num w.cps.toList)) := by
  have e : w = mkS w.cps.toList := mk_ext
  conv => lhs; rw [e]
  exact num_ok _ (by show w.cps.toList.length ≤ 1000; rw [Array.length_toList]; exact h)
theorem WOk.read {w : Str} (h : WOk w) (hn : num w.cps.toList = true) : ∃ n : Int, PySem.intText? w = some n ∧ w.length ≤ 640 := by
  obtain ⟨i, e, hi⟩ := h.2 hn
  subst e
  exact ⟨i, int_read i hi, by have h : (txtI i).length ≤ 61 := int_tlen hi; omega⟩
theorem b_of (k : Nat) : ((⟨#[k]⟩ : Str) = "b") ↔ k = 98 := by
  have : (Str.ofString "b") = mkS [98] := by decide +kernel
  show ((⟨#[k]⟩ : Str) = Str.ofString "b") ↔ _
  rw [this, show (⟨#[k]⟩ : Str) = mkS [k] from rfl, mkS_inj]
  simp
theorem row_loop : ∀ (ks : List Nat) (ws : List Str) (acc : List D) (x0 x1 x2 y4 y5 y6 : Option W), ks.length = ws.length → (∀ w ∈ ws, WOk w) → acc.length + ws.length ≤ 100000 →
    match argsR ks ws with
    | none => ∃ G', forM (gTupD ([4, 5].map gN)) l_row_of_1 (((ks.zip (ws.map D.str)).map fun p => W.d (.tup [.str ⟨#[p.1]⟩, p.2]))) [x0, x1, x2, some (.ref 0), y4, y5, y6] [.lst (acc.map W.d)] = .ok (.rt (.d .non), G')
    | some ns => ∃ u4 u5 u6, forM (gTupD ([4, 5].map gN)) l_row_of_1 (((ks.zip (ws.map D.str)).map fun p => W.d (.tup [.str ⟨#[p.1]⟩, p.2]))) [x0, x1, x2, some (.ref 0), y4, y5, y6] [.lst (acc.map W.d)] = .ok (.nx [x0, x1, x2, some (.ref 0), u4, u5, u6], [.lst ((acc ++ ns.map D.int).map W.d)])
  | [], [], acc, x0, x1, x2, y4, y5, y6, _, _, _ => by
    exact ⟨y4, y5, y6, by simp⟩
  | k :: ks, w :: ws, acc, x0, x1, x2, y4, y5, y6, hl, hw, ha => by
    have hl' : ks.length = ws.length := by simpa using hl
    simp only [List.length_cons] at ha
    have h0 := hw w (List.mem_cons_self ..)
    have en := num_tl h0.1
    simp only [argsR]
    by_cases hn : num w.cps.toList = true
    · obtain ⟨n, er, l6⟩ := h0.read hn
      rw [if_pos hn, er]
      simp only
      rw [hn] at en
      by_cases hb : k = 98 ∧ (n < 0 ∨ 7 < n)
      · rw [if_pos hb]
        have hk := (b_of k).mpr hb.1
        obtain ⟨R, hR⟩ : ∃ R, ((ks.zip (ws.map D.str)).map fun p => W.d (.tup [.str ⟨#[p.1]⟩, p.2])) = R := ⟨_, rfl⟩
        have c1 : n < 0 ∨ 7 < n := hb.2
        rcases c1 with c | c
        · simp -implicitDefEqProofs [hR, ul_row_of_1, en, er, l6, hk, c]
        · have c0 : ¬ n < 0 := by omega
          simp -implicitDefEqProofs [hR, ul_row_of_1, en, er, l6, hk, c, c0]
      · rw [if_neg hb]
        have ih := row_loop ks ws (acc ++ [D.int n]) x0 x1 x2 (some (.d (.str ⟨#[k]⟩))) (some (.d (.str w))) (some (.d (.int n))) hl' (fun y hy => hw y (List.mem_cons_of_mem _ hy)) (by simp; omega)
        have key : ∀ R, (gTupD ([4, 5].map gN) (.d (.tup [.str ⟨#[k]⟩, .str w])) [x0, x1, x2, some (.ref 0), y4, y5, y6] [.lst (acc.map W.d)]).bind (fun p => loopS (l_row_of_1 p.1 p.2) R) = R [x0, x1, x2, some (.ref 0), some (.d (.str ⟨#[k]⟩)), some (.d (.str w)), some (.d (.int n))] [.lst ((acc ++ [D.int n]).map W.d)] := fun R => by
          have la : acc.length < 16777216 := by omega
          by_cases hk : k = 98
          · have h1 := (b_of k).mpr hk
            have c0 : ¬ n < 0 := fun c => hb ⟨hk, .inl c⟩
            have c7 : ¬ 7 < n := fun c => hb ⟨hk, .inr c⟩
            simp -implicitDefEqProofs [ul_row_of_1, en, er, l6, h1, c0, c7, la]
          · have h1 : ¬ ((⟨#[k]⟩ : Str) = "b") := fun h => hk ((b_of k).mp h)
            simp -implicitDefEqProofs [ul_row_of_1, en, er, l6, h1, la]
        have zc : (((k :: ks).zip ((w :: ws).map D.str)).map fun p => W.d (.tup [.str ⟨#[p.1]⟩, p.2])) = W.d (.tup [.str ⟨#[k]⟩, .str w]) :: ((ks.zip (ws.map D.str)).map fun p => W.d (.tup [.str ⟨#[p.1]⟩, p.2])) := rfl
        rw [zc, forM_cons, key]
        cases e : argsR ks ws with
        | none =>
          rw [e] at ih
          exact ih
        | some ns =>
          rw [e] at ih
          simpa using ih
    · rw [if_neg hn]
      have hn' : num w.cps.toList = false := by simpa using hn
      rw [hn'] at en
      simp -implicitDefEqProofs [ul_row_of_1, en]
theorem row_of_ok {z w : Str} {ws : List Str} (hz : z.length ≤ 15000000) (hs : Txt.split z " " = w :: ws) (hw : ∀ x ∈ ws, WOk x) (hl : ws.length ≤ 10000) : f_row_of [.str z] = .ok (rowD (w :: ws)) := by
  have esp : ∀ G, wSplit false (.d (.str z)) [.d (.str " ")] G = .ok (.d (.lst ((w :: ws).map D.str)), G) := fun G => by
    rw [w_split, hs]
    have l0 : ((" " : Str).length == 0) = false := by decide +kernel
    rw [gate_pos ⟨l0, by show _ + 2 ≤ 16777216; omega⟩]
    have td : toDs (((w :: ws).map D.str).map W.d) = some ((w :: ws).map D.str) := toDs_map _
    have e2 : ((w :: ws).map fun y => W.d (.str y)) = ((w :: ws).map D.str).map W.d := by simp
    rw [e2]
    simp only [newL, td, Bool.false_eq_true, if_false]
  have ct : ∀ G, wSl false (.d (.lst (.str w :: ws.map D.str))) (some 1) none G = .ok (.d (.lst (ws.map D.str)), G) := fun G => by
    have := cut_from (xs := D.str w :: ws.map D.str) (n := 1)
    rw [w_slL]
    exact congrArg (fun q => R.ok (W.d (.lst q), G)) this
  rw [o_row_of, b_row_of]
  simp only [rowD]
  simp only [List.map_cons] at esp
  cases e : kd_SHAPES.lookup w with
  | none => simp -implicitDefEqProofs [esp, e]
  | some sh =>
    have lsh : sh.length ≤ 3 := by
      have key : ∀ p ∈ kd_SHAPES, p.2.length ≤ 3 := by decide +kernel
      have mem : ∀ (l : List (Str × Str)), l.lookup w = some sh → (w, sh) ∈ l := by
        intro l
        induction l with
        | nil => intro h; cases h
        | cons p l ih =>
          intro h
          obtain ⟨a, b⟩ := p
          simp only [List.lookup] at h
          cases q : w == a with
          | true =>
            rw [q] at h
            cases h
            have := beq_iff_eq.mp q
            subst this
            exact List.mem_cons_self ..
          | false =>
            rw [q] at h
            exact List.mem_cons_of_mem _ (ih h)
      exact key _ (mem _ e)
    have l1 : sh.length ≤ 16777216 := by omega
    dsimp only
    by_cases hh : ws.length = sh.length
    · rw [if_pos hh]
      have q1 : sh.cps.toList.length = ws.length := by rw [Array.length_toList]; exact hh.symm
      have lp := row_loop sh.cps.toList ws [.str w] (some (.d (.str z))) (some (.d (.lst (.str w :: ws.map D.str)))) (some (.d (.str sh))) none none none q1 hw (by simp; omega)
      have ez : zipS sh (ws.map D.str) = (sh.cps.toList.zip (ws.map D.str)).map fun p => W.d (.tup [.str ⟨#[p.1]⟩, p.2]) := rfl
      rw [← ez] at lp
      simp only [List.map_cons, List.map_nil] at lp
      cases ea : argsR sh.cps.toList ws with
      | none =>
        rw [ea] at lp
        obtain ⟨G', lp⟩ := lp
        simp -implicitDefEqProofs [esp, e, l1, hh, ct, lp]
      | some ns =>
        rw [ea] at lp
        obtain ⟨y4, y5, y6, lp⟩ := lp
        have td : toDs ((D.str w :: ns.map D.int).map W.d) = some (D.str w :: ns.map D.int) := toDs_map _
        simp only [List.map_cons] at td
        simp -implicitDefEqProofs [esp, e, l1, hh, ct, lp, td]
    · rw [if_neg hh]
      have hh' : ¬ ((ws.length : Int) = sh.length) := by omega
      simp -implicitDefEqProofs [esp, e, l1, hh', hh]
/-! rows that are good ones, and their texts -/
structure Rw where
  nm : Str
  ar : List Int
def Rw.enc (r : Rw) : D := .tup (.str r.nm :: r.ar.map D.int)
def Rw.ws (r : Rw) : List Str := r.nm :: r.ar.map txtI
def Rw.txt (r : Rw) : Str := Txt.join " " r.ws
def argOk : List Nat → List Int → Prop
  | [], [] => True
  | k :: ks, n :: ns => (k = 98 → 0 ≤ n ∧ n ≤ 7) ∧ n.natAbs < 10 ^ 60 ∧ argOk ks ns
  | _, _ => False
def Rw.ok (r : Rw) : Prop := ∃ sh, kd_SHAPES.lookup r.nm = some sh ∧ argOk sh.cps.toList r.ar
theorem num_int {i : Int} (h : i.natAbs < 10 ^ 60) : num (txtI i).cps.toList = true := by
  have h1 := isnum_int h
  rw [num_tl (show (txtI i).length ≤ 1000 by have h2 : (txtI i).length ≤ 61 := int_tlen h; omega)] at h1
  injection h1 with h1
  injection h1
theorem argOk.len : ∀ {ks : List Nat} {ns : List Int}, argOk ks ns → ns.length = ks.length
  | [], [], _ => rfl
  | k :: ks, n :: ns, h => by simp [argOk.len h.2.2]
  | [], _ :: _, h => h.elim
  | _ :: _, [], h => h.elim
theorem argOk.small : ∀ {ks : List Nat} {ns : List Int}, argOk ks ns → ∀ n ∈ ns, n.natAbs < 10 ^ 60
  | [], [], _, _, hn => by cases hn
  | k :: ks, n :: ns, h, x, hx => by
    rcases List.mem_cons.mp hx with q | q
    · rw [q]; exact h.2.1
    · exact argOk.small h.2.2 x q
  | [], _ :: _, h, _, _ => h.elim
  | _ :: _, [], h, _, _ => h.elim
theorem argOk.read : ∀ {ks : List Nat} {ns : List Int}, argOk ks ns → argsR ks (ns.map txtI) = some ns
  | [], [], _ => rfl
  | k :: ks, n :: ns, h => by
    obtain ⟨h1, h2, h3⟩ := h
    simp only [List.map_cons, argsR]
    rw [if_pos (num_int h2)]
    have e : PySem.intText? (txtI n) = some n := int_read n h2
    rw [e]
    dsimp only
    rw [if_neg (by intro q; have := h1 q.1; omega), argOk.read h3]
    rfl
  | [], _ :: _, h => h.elim
  | _ :: _, [], h => h.elim
theorem kd_mem {w sh : Str} : ∀ {l : List (Str × Str)}, l.lookup w = some sh → (w, sh) ∈ l
  | [], h => by cases h
  | (a, b) :: l, h => by
    simp only [List.lookup] at h
    cases q : w == a with
    | true =>
      rw [q] at h
      cases h
      have := beq_iff_eq.mp q
      subst this
      exact List.mem_cons_self ..
    | false =>
      rw [q] at h
      exact List.mem_cons_of_mem _ (kd_mem h)
theorem kd_all {w sh : Str} (h : kd_SHAPES.lookup w = some sh) : w.length ≤ 4 ∧ (∀ c ∈ w.cps.toList, 33 ≤ c) ∧ sh.length ≤ 3 := by
  have key : ∀ p ∈ kd_SHAPES, p.1.length ≤ 4 ∧ (∀ c ∈ p.1.cps.toList, 33 ≤ c) ∧ p.2.length ≤ 3 := by decide +kernel
  exact key _ (kd_mem h)
theorem Rw.ok.row {r : Rw} (h : r.ok) : rowD r.ws = r.enc := by
  obtain ⟨sh, e, h⟩ := h
  simp only [Rw.ws, rowD, e]
  have hl : sh.length = sh.cps.toList.length := by rw [Array.length_toList]; rfl
  rw [if_pos (by rw [List.length_map, h.len, hl]), h.read]
  rfl
theorem Rw.ok.len {r : Rw} (h : r.ok) : r.ar.length ≤ 3 := by
  obtain ⟨sh, e, h⟩ := h
  have hl : sh.length = sh.cps.toList.length := by rw [Array.length_toList]; rfl
  have := (kd_all e).2.2
  rw [h.len]; omega
theorem Rw.ok.small {r : Rw} (h : r.ok) : ∀ n ∈ r.ar, n.natAbs < 10 ^ 60 := by
  obtain ⟨sh, e, h⟩ := h
  exact h.small
def WrdOk (z : Str) : Prop := z.length ≤ 61 ∧ ∀ c ∈ z.cps.toList, 33 ≤ c
theorem wrd_int {i : Int} (h : i.natAbs < 10 ^ 60) : WrdOk (txtI i) := by
  refine ⟨int_tlen h, fun c hc => ?_⟩
  obtain ⟨k, r, e, hd, h0, hs⟩ := int_signs i
  rw [hs] at hc
  split at hc
  · rcases List.mem_cons.mp hc with q | q
    · omega
    · have := hd c q; omega
  · have := hd c hc; omega
theorem Rw.ok.words {r : Rw} (h : r.ok) : ∀ z ∈ r.ws, WrdOk z := fun z hz => by
  rcases List.mem_cons.mp hz with q | q
  · obtain ⟨sh, e, _⟩ := h
    have := kd_all e
    rw [q]
    exact ⟨by omega, this.2.1⟩
  · obtain ⟨n, hn, rfl⟩ := List.mem_map.mp q
    exact wrd_int (h.small n hn)
theorem blank_tl : (" " : Str).cps.toList = [32] := by decide +kernel
theorem line_tl : ("\n" : Str).cps.toList = [10] := by decide +kernel
theorem blank_k : (" " : Str).cps.all (· < 256) = true := by decide +kernel
theorem line_k : ("\n" : Str).cps.all (· < 256) = true := by decide +kernel
theorem words_split {ws : List Str} (hne : ws ≠ []) (h : ∀ z ∈ ws, ∀ c ∈ z.cps.toList, 33 ≤ c) : Txt.split (Txt.join " " ws) " " = ws :=
  split_joined blank_tl blank_k hne fun p hp h32 => by have := h p hp 32 h32; omega
theorem Rw.ok.split {r : Rw} (h : r.ok) : Txt.split r.txt " " = r.ws := words_split (by simp [Rw.ws]) fun z hz => (h.words z hz).2
theorem sum_le : ∀ (l : List Str) (k : Nat), (∀ z ∈ l, z.length ≤ k) → (l.map (·.length)).sum ≤ l.length * k
  | [], k, _ => by simp
  | z :: l, k, h => by
    have := sum_le l k fun y hy => h y (List.mem_cons_of_mem _ hy)
    have := h z (List.mem_cons_self ..)
    simp only [List.map_cons, List.sum_cons, List.length_cons, Nat.add_mul]
    omega
theorem Rw.ok.tlen {r : Rw} (h : r.ok) : r.txt.length ≤ 191 := by
  have j := join_len " " r.ws
  have s := sum_le (r.ar.map txtI) 61 fun z hz => by
    obtain ⟨n, hn, rfl⟩ := List.mem_map.mp hz
    exact int_tlen (h.small n hn)
  have l1 : (" " : Str).length = 1 := by decide +kernel
  have l3 := h.len
  obtain ⟨sh, e, _⟩ := h
  have l4 := (kd_all e).1
  rw [l1] at j
  simp only [Rw.ws, List.map_cons, List.sum_cons, List.length_cons] at j
  rw [List.length_map] at s j
  have : r.ar.length * 61 ≤ 3 * 61 := Nat.mul_le_mul_right _ l3
  have e2 : Rw.txt r = Txt.join " " (r.nm :: r.ar.map txtI) := rfl
  rw [e2]
  omega
theorem Rw.ok.free {r : Rw} (h : r.ok) : 10 ∉ r.txt.cps.toList := by
  intro h10
  rcases join_mem _ _ _ h10 with q | ⟨p, hp, hc⟩
  · rw [blank_tl] at q
    simp at q
  · have := (h.words p hp).2 10 hc
    omega
theorem Rw.ok.wok {r : Rw} (h : r.ok) : ∀ x ∈ r.ar.map txtI, WOk x := fun x hx => by
  obtain ⟨n, hn, rfl⟩ := List.mem_map.mp hx
  have := h.small n hn
  exact ⟨by have h2 : (txtI n).length ≤ 61 := int_tlen this; omega, fun _ => ⟨n, rfl, this⟩⟩
theorem Rw.ok.rowof {r : Rw} (h : r.ok) : f_row_of [.str r.txt] = .ok r.enc := by
  rw [row_of_ok (w := r.nm) (ws := r.ar.map txtI) (by have := h.tlen; omega) h.split h.wok (by have := h.len; simp; omega)]
  exact congrArg R.ok h.row
def rollT (rows : List Rw) : Str := Txt.join "\n" (rows.map Rw.txt)
theorem rollT_split {rows : List Rw} (hne : rows ≠ []) (ok : ∀ r ∈ rows, r.ok) : Txt.split (rollT rows) "\n" = rows.map Rw.txt :=
  split_joined line_tl line_k (by simpa using hne) fun p hp => by
    obtain ⟨r, hr, rfl⟩ := List.mem_map.mp hp
    exact (ok r hr).free
theorem rollT_len {rows : List Rw} (ok : ∀ r ∈ rows, r.ok) : (rollT rows).length ≤ rows.length * 192 := by
  have j := join_len "\n" (rows.map Rw.txt)
  have s := sum_le (rows.map Rw.txt) 191 fun z hz => by
    obtain ⟨r, hr, rfl⟩ := List.mem_map.mp hz
    exact (ok r hr).tlen
  have l1 : ("\n" : Str).length = 1 := by decide +kernel
  rw [l1] at j
  rw [List.length_map] at j s
  unfold rollT
  omega
/-! where rows lead -/
def Rw.lead (r : Rw) : Option Int := if r.nm = "jump" ∨ r.nm = "when" then r.ar.getLast? else none
def leadD (r : Rw) : D := match r.lead with
  | some i => .int i
  | none => .non
theorem leads_ok (r : Rw) (h : r.nm = "jump" ∨ r.nm = "when" → r.ar ≠ []) : f_leads_to [r.enc] = .ok (leadD r) := by
  rw [o_leads_to, b_leads_to]
  unfold leadD Rw.lead Rw.enc
  by_cases hc : r.nm = "jump" ∨ r.nm = "when"
  · rw [if_pos hc]
    have hne := h hc
    obtain ⟨A, x, e⟩ : ∃ A x, r.ar = A ++ [x] := ⟨r.ar.dropLast, r.ar.getLast hne, (List.dropLast_concat_getLast hne).symm⟩
    rw [e]
    have gl : (A ++ [x]).getLast? = some x := by simp
    rw [gl]
    have at_ : (D.str r.nm :: (A.map D.int ++ [D.int x]))[A.length + 1]? = some (D.int x) := by simp
    rcases hc with hc | hc
    · simp -implicitDefEqProofs [hc, at_]
    · have n1 : ¬ (("when" : Str) = "jump") := by decide +kernel
      simp -implicitDefEqProofs [hc, at_, n1]
  · rw [if_neg hc]
    have h1 : ¬ r.nm = "jump" := fun q => hc (.inl q)
    have h2 : ¬ r.nm = "when" := fun q => hc (.inr q)
    have h3 : ¬ ("jump" : Str) = r.nm := fun q => h1 q.symm
    have h4 : ¬ ("when" : Str) = r.nm := fun q => h2 q.symm
    simp -implicitDefEqProofs [h1, h2, h3, h4]
theorem Rw.ok.lead {r : Rw} (h : r.ok) : r.nm = "jump" ∨ r.nm = "when" → r.ar ≠ [] := fun hc e => by
  obtain ⟨sh, e1, h2⟩ := h
  have h3 := h2.len
  rw [e] at h3
  rcases hc with hc | hc
  · rw [hc] at e1
    have : kd_SHAPES.lookup ("jump" : Str) = some ("r" : Str) := by decide +kernel
    rw [this] at e1
    cases e1
    revert h3
    decide +kernel
  · rw [hc] at e1
    have : kd_SHAPES.lookup ("when" : Str) = some ("br" : Str) := by decide +kernel
    rw [this] at e1
    cases e1
    revert h3
    decide +kernel
/-! a roll, read -/
theorem rr1 : ∀ (rows : List Rw) (at_ : Nat) (acc : List D) (x0 y2 y3 y4 y5 : Option W), (∀ r ∈ rows, r.ok) → acc.length + rows.length ≤ 100000 →
    ∃ u2 u3 u4, forM (gTupD ([2, 3].map gN)) l_read_roll_1 ((((rows.map Rw.txt).map D.str).zipIdx at_).map fun p => W.d (.tup [.int (p.2 : Nat), p.1])) [x0, some (.ref 0), y2, y3, y4, y5] [.lst (acc.map W.d)] =
      .ok (.nx [x0, some (.ref 0), u2, u3, u4, y5], [.lst ((acc ++ rows.map Rw.enc).map W.d)])
  | [], at_, acc, x0, y2, y3, y4, y5, _, _ => ⟨y2, y3, y4, by simp⟩
  | r :: rows, at_, acc, x0, y2, y3, y4, y5, ok, hl => by
    simp only [List.length_cons] at hl
    have h0 := ok r (List.mem_cons_self ..)
    obtain ⟨u2, u3, u4, e⟩ := rr1 rows (at_ + 1) (acc ++ [r.enc]) x0 (some (.d (.int (at_ : Nat)))) (some (.d (.str r.txt))) (some (.d r.enc)) y5 (fun q hq => ok q (List.mem_cons_of_mem _ hq)) (by simp; omega)
    refine ⟨u2, u3, u4, ?_⟩
    have er := h0.rowof
    have en : r.enc = .tup (.str r.nm :: r.ar.map D.int) := rfl
    have la : acc.length < 16777216 := by omega
    simp only [List.map_cons, List.zipIdx_cons, List.map_nil] at e ⊢
    obtain ⟨R, hR⟩ : ∃ R, (((rows.map Rw.txt).map D.str).zipIdx (at_ + 1)).map (fun p => W.d (.tup [.int (p.2 : Nat), p.1])) = R := ⟨_, rfl⟩
    rw [hR] at e ⊢
    rw [en] at e er
    simp -implicitDefEqProofs [ul_read_roll_1, er, la] at e ⊢
    rw [e]
    simp [Rw.enc]
theorem rr2 (N : Nat) (ds : List D) (hN : ds.length = N) (x0 : Option W) : ∀ (rows : List Rw) (y2 y3 y4 y5 : Option W), (∀ r ∈ rows, r.nm = "jump" ∨ r.nm = "when" → r.ar ≠ []) → (∀ r ∈ rows, ∀ p, r.lead = some p → 0 ≤ p ∧ p < N) →
    ∃ u4 u5, forM (gN 4) l_read_roll_2 ((rows.map Rw.enc).map W.d) [x0, some (.ref 0), y2, y3, y4, y5] [.still ds] = .ok (.nx [x0, some (.ref 0), y2, y3, u4, u5], [.still ds])
  | [], y2, y3, y4, y5, _, _ => ⟨y4, y5, rfl⟩
  | r :: rows, y2, y3, y4, y5, h1, h2 => by
    have e1 := leads_ok r (h1 r (List.mem_cons_self ..))
    obtain ⟨u4, u5, e⟩ := rr2 N ds hN x0 rows y2 y3 (some (.d r.enc)) (some (.d (leadD r))) (fun q hq => h1 q (List.mem_cons_of_mem _ hq)) (fun q hq => h2 q (List.mem_cons_of_mem _ hq))
    refine ⟨u4, u5, ?_⟩
    simp only [List.map_cons, forM_cons]
    obtain ⟨R, hR⟩ : ∃ R, (rows.map Rw.enc).map W.d = R := ⟨_, rfl⟩
    rw [hR] at e ⊢
    obtain ⟨E, hE⟩ : ∃ E, r.enc = E := ⟨_, rfl⟩
    rw [hE] at e e1 ⊢
    unfold leadD at e e1
    cases hl : r.lead with
    | none =>
      rw [hl] at e e1
      simp -implicitDefEqProofs [ul_read_roll_2, e1, e]
    | some p =>
      rw [hl] at e e1
      obtain ⟨p0, p1⟩ := h2 r (List.mem_cons_self ..) p hl
      have c0 : ¬ p < 0 := by omega
      have c1 : ¬ ((ds.length : Int) ≤ p) := by omega
      simp -implicitDefEqProofs [ul_read_roll_2, e1, e, c0, c1]
theorem read_roll_ok {rows : List Rw} (hne : rows ≠ []) (ok : ∀ r ∈ rows, r.ok) (hl : rows.length ≤ 10000) (lead : ∀ r ∈ rows, ∀ p, r.lead = some p → 0 ≤ p ∧ p < rows.length) (last : ∀ r, rows[rows.length - 1]? = some r → r.nm = "halt" ∨ r.nm = "jump") :
    f_read_roll [.str (rollT rows)] = .ok (.tup (rows.map Rw.enc)) := by
  have tl := rollT_len ok
  have sp := rollT_split hne ok
  have esp : ∀ G, wSplit false (.d (.str (rollT rows))) [.d (.str "\n")] G = .ok (.d (.lst ((rows.map Rw.txt).map D.str)), G) := fun G => by
    rw [w_split, sp]
    have l0 : (("\n" : Str).length == 0) = false := by decide +kernel
    rw [gate_pos ⟨l0, by show _ + 2 ≤ 16777216; omega⟩]
    have td : toDs (((rows.map Rw.txt).map D.str).map W.d) = some ((rows.map Rw.txt).map D.str) := toDs_map _
    have e2 : ((rows.map Rw.txt).map fun y => W.d (.str y)) = ((rows.map Rw.txt).map D.str).map W.d := by simp
    rw [e2]
    simp only [newL, td, Bool.false_eq_true, if_false]
  obtain ⟨u2, u3, u4, e1⟩ := rr1 rows 0 [] (some (.d (.str (rollT rows)))) none none none none ok (by simp; omega)
  obtain ⟨v4, v5, e2⟩ := rr2 rows.length (rows.map Rw.enc) (by simp) (some (.d (.str (rollT rows)))) rows u2 u3 u4 none (fun r hr => (ok r hr).lead) lead
  obtain ⟨r, hr⟩ : ∃ r, rows[rows.length - 1]? = some r := by
    have : 0 < rows.length := List.length_pos_iff.mpr hne
    exact ⟨_, List.getElem?_eq_getElem (by omega)⟩
  have la := last r hr
  have at_ : (rows.map Rw.enc)[rows.length - 1]? = some r.enc := by rw [List.getElem?_map, hr]; rfl
  obtain ⟨T, hT⟩ : ∃ T, rollT rows = T := ⟨_, rfl⟩
  rw [hT] at esp e1 e2 ⊢
  rw [List.nil_append] at e1
  have lE : (rows.map Rw.enc).length = rows.length := by simp
  obtain ⟨E, hE⟩ : ∃ E, rows.map Rw.enc = E := ⟨_, rfl⟩
  rw [hE] at e1 e2 at_ lE ⊢
  obtain ⟨S, hS⟩ : ∃ S, (rows.map Rw.txt).map D.str = S := ⟨_, rfl⟩
  rw [hS] at esp e1
  have td : toDs (E.map W.d) = some E := toDs_map _
  have at1 : E[E.length - 1]? = some r.enc := by rw [lE]; exact at_
  simp only [List.map_cons, List.map_nil] at e1
  rw [o_read_roll, b_read_roll]
  have n1 : ¬ (("jump" : Str) = "halt") := by decide +kernel
  rcases la with h | h
  · simp -implicitDefEqProofs [esp, e1, td, e2, at1, Rw.enc, h]
  · simp -implicitDefEqProofs [esp, e1, td, e2, at1, Rw.enc, h, n1]
/-! a roll that is none: refused -/
def inB (N : Nat) (r : Rw) : Bool := match r.lead with
  | some p => decide (0 ≤ p ∧ p < (N : Int))
  | none => true
theorem rr2x (N : Nat) (ds : List D) (hN : ds.length = N) (x0 : Option W) : ∀ (rows : List Rw) (y2 y3 y4 y5 : Option W), (∀ r ∈ rows, r.nm = "jump" ∨ r.nm = "when" → r.ar ≠ []) → rows.all (inB N) = false →
    ∃ s' G', forM (gN 4) l_read_roll_2 ((rows.map Rw.enc).map W.d) [x0, some (.ref 0), y2, y3, y4, y5] [.still ds] = .exc ⟨"NoRoll", []⟩ s' G'
  | [], y2, y3, y4, y5, _, h => by cases h
  | r :: rows, y2, y3, y4, y5, h1, h2 => by
    have e1 := leads_ok r (h1 r (List.mem_cons_self ..))
    simp only [List.map_cons, forM_cons]
    obtain ⟨R, hR⟩ : ∃ R, (rows.map Rw.enc).map W.d = R := ⟨_, rfl⟩
    rw [hR]
    by_cases hb : inB N r = true
    · rw [List.all_cons, hb, Bool.true_and] at h2
      obtain ⟨s', G', e⟩ := rr2x N ds hN x0 rows y2 y3 (some (.d r.enc)) (some (.d (leadD r))) (fun q hq => h1 q (List.mem_cons_of_mem _ hq)) h2
      refine ⟨s', G', ?_⟩
      rw [hR] at e
      obtain ⟨E, hE⟩ : ∃ E, r.enc = E := ⟨_, rfl⟩
      rw [hE] at e e1 ⊢
      unfold leadD at e e1
      unfold inB at hb
      cases hl : r.lead with
      | none =>
        rw [hl] at e e1
        simp -implicitDefEqProofs [ul_read_roll_2, e1, e]
      | some p =>
        rw [hl] at e e1 hb
        simp only [decide_eq_true_eq] at hb
        have c0 : ¬ p < 0 := by omega
        have c1 : ¬ ((ds.length : Int) ≤ p) := by omega
        simp -implicitDefEqProofs [ul_read_roll_2, e1, e, c0, c1]
    · obtain ⟨E, hE⟩ : ∃ E, r.enc = E := ⟨_, rfl⟩
      rw [hE] at e1 ⊢
      unfold leadD at e1
      unfold inB at hb
      cases hl : r.lead with
      | none => rw [hl] at hb; exact absurd rfl hb
      | some p =>
        rw [hl] at e1 hb
        simp only [decide_eq_true_eq] at hb
        refine ⟨[x0, some (.ref 0), y2, y3, some (.d E), some (.d (.int p))], [.still ds], ?_⟩
        by_cases c0 : p < 0
        · simp -implicitDefEqProofs [ul_read_roll_2, e1, c0, sRaise]
        · have c1 : ((ds.length : Int) ≤ p) := by omega
          simp -implicitDefEqProofs [ul_read_roll_2, e1, c0, c1, sRaise]
def lastB (rows : List Rw) : Bool := match rows[rows.length - 1]? with
  | some r => decide (r.nm = "halt" ∨ r.nm = "jump")
  | none => true
def goodB (rows : List Rw) : Bool := rows.all (inB rows.length) && lastB rows
theorem goodB_iff {rows : List Rw} (h : goodB rows = true) : (∀ r ∈ rows, ∀ p, r.lead = some p → 0 ≤ p ∧ p < rows.length) ∧ (∀ r, rows[rows.length - 1]? = some r → r.nm = "halt" ∨ r.nm = "jump") := by
  unfold goodB at h
  rw [Bool.and_eq_true] at h
  refine ⟨fun r hr p hp => ?_, fun r hr => ?_⟩
  · have := List.all_eq_true.mp h.1 r hr
    unfold inB at this
    rw [hp] at this
    simpa using this
  · have := h.2
    unfold lastB at this
    rw [hr] at this
    simpa using this
theorem read_roll_no {rows : List Rw} (hne : rows ≠ []) (ok : ∀ r ∈ rows, r.ok) (hl : rows.length ≤ 10000) (hg : goodB rows = false) : ∃ s G, f_read_roll [.str (rollT rows)] = .exc ⟨"NoRoll", []⟩ s G := by
  have tl := rollT_len ok
  have sp := rollT_split hne ok
  have esp : ∀ G, wSplit false (.d (.str (rollT rows))) [.d (.str "\n")] G = .ok (.d (.lst ((rows.map Rw.txt).map D.str)), G) := fun G => by
    rw [w_split, sp]
    have l0 : (("\n" : Str).length == 0) = false := by decide +kernel
    rw [gate_pos ⟨l0, by show _ + 2 ≤ 16777216; omega⟩]
    have td : toDs (((rows.map Rw.txt).map D.str).map W.d) = some ((rows.map Rw.txt).map D.str) := toDs_map _
    have e2 : ((rows.map Rw.txt).map fun y => W.d (.str y)) = ((rows.map Rw.txt).map D.str).map W.d := by simp
    rw [e2]
    simp only [newL, td, Bool.false_eq_true, if_false]
  obtain ⟨u2, u3, u4, e1⟩ := rr1 rows 0 [] (some (.d (.str (rollT rows)))) none none none none ok (by simp; omega)
  obtain ⟨r, hr⟩ : ∃ r, rows[rows.length - 1]? = some r := by
    have : 0 < rows.length := List.length_pos_iff.mpr hne
    exact ⟨_, List.getElem?_eq_getElem (by omega)⟩
  have at_ : (rows.map Rw.enc)[rows.length - 1]? = some r.enc := by rw [List.getElem?_map, hr]; rfl
  have rr2g := rr2 rows.length (rows.map Rw.enc) (by simp) (some (.d (.str (rollT rows)))) rows u2 u3 u4 none (fun r hr => (ok r hr).lead)
  have rr2b := rr2x rows.length (rows.map Rw.enc) (by simp) (some (.d (.str (rollT rows)))) rows u2 u3 u4 none (fun r hr => (ok r hr).lead)
  obtain ⟨T, hT⟩ : ∃ T, rollT rows = T := ⟨_, rfl⟩
  rw [hT] at esp e1 rr2g rr2b ⊢
  rw [List.nil_append] at e1
  have lE : (rows.map Rw.enc).length = rows.length := by simp
  obtain ⟨E, hE⟩ : ∃ E, rows.map Rw.enc = E := ⟨_, rfl⟩
  rw [hE] at e1 rr2g rr2b at_ lE
  obtain ⟨S, hS⟩ : ∃ S, (rows.map Rw.txt).map D.str = S := ⟨_, rfl⟩
  rw [hS] at esp e1
  have td : toDs (E.map W.d) = some E := toDs_map _
  have at1 : E[E.length - 1]? = some r.enc := by rw [lE]; exact at_
  simp only [List.map_cons, List.map_nil] at e1
  rw [o_read_roll, b_read_roll]
  by_cases ha : rows.all (inB rows.length) = true
  · have hlast : lastB rows = false := by unfold goodB at hg; rw [ha, Bool.true_and] at hg; exact hg
    obtain ⟨v4, v5, e2⟩ := rr2g (fun q hq p hp => by
      have := List.all_eq_true.mp ha q hq
      unfold inB at this
      rw [hp] at this
      simpa using this)
    unfold lastB at hlast
    rw [hr] at hlast
    simp only [decide_eq_false_iff_not, not_or] at hlast
    have h1 := hlast.1
    have h2 := hlast.2
    have h3 : ¬ (("halt" : Str) = r.nm) := fun q => h1 q.symm
    have h4 : ¬ (("jump" : Str) = r.nm) := fun q => h2 q.symm
    refine ⟨[], [], ?_⟩
    simp -implicitDefEqProofs [esp, e1, td, e2, at1, Rw.enc, h1, h2, h3, h4, sRaise]
  · have ha' : rows.all (inB rows.length) = false := by simpa using ha
    obtain ⟨s', G', e2⟩ := rr2b ha'
    refine ⟨[], [], ?_⟩
    simp -implicitDefEqProofs [esp, e1, td, e2]
/-! lines that are no rows -/
theorem argsR_none : ∀ {ks : List Nat} {ws : List Str} (i : Nat) (k : Nat) (w : Str), ks[i]? = some k → ws[i]? = some w → (num w.cps.toList = false ∨ (k = 98 ∧ ∃ n, PySem.intText? w = some n ∧ (n < 0 ∨ 7 < n))) → argsR ks ws = none
  | k' :: ks, w' :: ws, 0, k, w, h1, h2, h => by
    simp at h1 h2
    subst h1 h2
    simp only [argsR]
    rcases h with h | ⟨h, n, e, hn⟩
    · rw [if_neg (by rw [h]; exact Bool.false_ne_true)]
    · by_cases hm : num w'.cps.toList = true
      · rw [if_pos hm, e]
        dsimp only
        rw [if_pos ⟨h, hn⟩]
      · rw [if_neg hm]
  | k' :: ks, w' :: ws, i + 1, k, w, h1, h2, h => by
    have ih := argsR_none i k w (by simpa using h1) (by simpa using h2) h
    simp only [argsR, ih]
    split
    · split
      · split <;> rfl
      · rfl
    · rfl
  | [], _, i, k, w, h1, _, _ => by simp at h1
  | _ :: _, [], i, k, w, _, h2, _ => by simp at h2
theorem rowD_head {w : Str} {ws : List Str} (h : kd_SHAPES.lookup w = none) : rowD (w :: ws) = .non := by simp only [rowD, h]
theorem rowD_len {w sh : Str} {ws : List Str} (h : kd_SHAPES.lookup w = some sh) (hl : ws.length ≠ sh.length) : rowD (w :: ws) = .non := by simp only [rowD, h, if_neg hl]
theorem rowD_arg {w sh : Str} {ws : List Str} (h : kd_SHAPES.lookup w = some sh) (ha : argsR sh.cps.toList ws = none) : rowD (w :: ws) = .non := by
  simp only [rowD, h, ha]
  split <;> rfl
def Vis_ (x : Str) : Prop := (∀ c ∈ x.cps.toList, 33 ≤ c) ∧ x.length ≤ 200
structure BadL (z : Str) : Prop where
  ex : ∃ w ws, z = Txt.join " " (w :: ws) ∧ (∀ x ∈ w :: ws, Vis_ x) ∧ (∀ x ∈ ws, WOk x) ∧ rowD (w :: ws) = .non ∧ ws.length ≤ 20
theorem join_lenV {ws : List Str} (h : ∀ x ∈ ws, Vis_ x) (hl : ws.length ≤ 21) : (Txt.join " " ws).length ≤ 5000 := by
  have j := join_len " " ws
  have s := sum_le ws 200 fun z hz => (h z hz).2
  have l1 : (" " : Str).length = 1 := by decide +kernel
  rw [l1] at j
  have : ws.length * 200 ≤ 21 * 200 := Nat.mul_le_mul_right _ hl
  omega
theorem join_freeV {ws : List Str} (h : ∀ x ∈ ws, Vis_ x) : 10 ∉ (Txt.join " " ws).cps.toList := by
  intro h10
  rcases join_mem _ _ _ h10 with q | ⟨p, hp, hc⟩
  · rw [blank_tl] at q
    simp at q
  · have := (h p hp).1 10 hc
    omega
theorem BadL.len {z : Str} (h : BadL z) : z.length ≤ 5000 := by
  obtain ⟨w, ws, e, hv, _, _, hl⟩ := h.ex
  rw [e]
  exact join_lenV hv (by simp; omega)
theorem BadL.free {z : Str} (h : BadL z) : 10 ∉ z.cps.toList := by
  obtain ⟨w, ws, e, hv, _, _, hl⟩ := h.ex
  rw [e]
  exact join_freeV hv
theorem BadL.row {z : Str} (h : BadL z) : f_row_of [.str z] = .ok .non := by
  have hz := h.len
  obtain ⟨w, ws, e, hv, hw, hr, hl⟩ := h.ex
  have sp : Txt.split z " " = w :: ws := by
    rw [e]
    exact words_split (by simp) fun x hx => (hv x hx).1
  rw [row_of_ok (by omega) sp hw (by omega), hr]
theorem Rw.ok.vis {r : Rw} (h : r.ok) : ∀ z ∈ r.ws, Vis_ z := fun z hz => ⟨(h.words z hz).2, by have := (h.words z hz).1; omega⟩
/-! what is bad of a line -/
theorem str_assoc (a b c : Str) : a ++ b ++ c = a ++ (b ++ c) := by
  show (⟨a.cps ++ b.cps ++ c.cps⟩ : Str) = ⟨a.cps ++ (b.cps ++ c.cps)⟩
  rw [Array.append_assoc]
theorem str_len (a b : Str) : (a ++ b).length = a.length + b.length := by
  show (a.cps ++ b.cps).size = _
  rw [Array.size_append]
  rfl
theorem str_tl (a b : Str) : (a ++ b).cps.toList = a.cps.toList ++ b.cps.toList := by
  show (a.cps ++ b.cps).toList = _
  simp
theorem join_two (y : Str) : ∀ (a b : List Str), a ≠ [] → b ≠ [] → Txt.join y (a ++ b) = Txt.join y a ++ y ++ Txt.join y b
  | [], b, h, _ => absurd rfl h
  | [p], q :: r, _, _ => by
    show Txt.join y (p :: q :: r) = _
    rw [join_cons, M.join_one]
  | p :: q :: a, b, _, hb => by
    have := join_two y (q :: a) b (by simp) hb
    show Txt.join y (p :: q :: (a ++ b)) = _
    rw [join_cons]
    have e : (q :: (a ++ b)) = (q :: a) ++ b := rfl
    rw [e, this, join_cons]
    simp only [str_assoc]
  | [p], [], _, h => absurd rfl h
/-- words more -/
theorem bad_more {r : Rw} (ok : r.ok) {e : Str} {ex : List Str} (he : e = " " ++ Txt.join " " ex) (hne : ex ≠ []) (hv : ∀ x ∈ ex, Vis_ x ∧ WOk x) (hl : ex.length ≤ 10) : BadL (r.txt ++ e) := by
  obtain ⟨sh, h1, h2⟩ := id ok
  have la := ok.len
  refine ⟨r.nm, r.ar.map txtI ++ ex, ?_, fun x hx => ?_, fun x hx => ?_, rowD_len h1 ?_, by simp; omega⟩
  · show _ = Txt.join " " (r.ws ++ ex)
    rw [join_two " " r.ws ex (by simp [Rw.ws]) hne, he, ← str_assoc]
    rfl
  · have hx' : x ∈ r.ws ++ ex := hx
    rcases List.mem_append.mp hx' with h | h
    · exact ok.vis x h
    · exact (hv x h).1
  · rcases List.mem_append.mp hx with h | h
    · exact ok.wok x h
    · exact (hv x h).2
  · have hl : sh.length = sh.cps.toList.length := by rw [Array.length_toList]; rfl
    have := h2.len
    have : 0 < ex.length := List.length_pos_iff.mpr hne
    rw [List.length_append, List.length_map]
    omega
/-- an empty head -/
theorem bad_empty {ws : List Str} (hv : ∀ x ∈ ws, Vis_ x ∧ WOk x) (hl : ws.length ≤ 10) : BadL (Txt.join " " ("" :: ws)) :=
  ⟨"", ws, rfl, fun x hx => by
    rcases List.mem_cons.mp hx with h | h
    · rw [h]; exact ⟨by decide +kernel, by decide +kernel⟩
    · exact (hv x h).1, fun x hx => (hv x hx).2, rowD_head (by decide +kernel), by omega⟩
/-- another head -/
theorem bad_head {r : Rw} (ok : r.ok) {w : Str} (hw : kd_SHAPES.lookup w = none) (hv : Vis_ w) : BadL (Txt.join " " (w :: r.ar.map txtI)) :=
  ⟨w, r.ar.map txtI, rfl, fun x hx => by
    rcases List.mem_cons.mp hx with h | h
    · rw [h]; exact hv
    · exact ok.vis x (List.mem_cons_of_mem _ h), ok.wok, rowD_head hw, by have := ok.len; simp; omega⟩
/-- fewer or more words -/
theorem bad_words {r : Rw} (ok : r.ok) {ws : List Str} (hv : ∀ x ∈ ws, Vis_ x ∧ WOk x) (hl : ws.length ≠ r.ar.length) (hl2 : ws.length ≤ 10) : BadL (Txt.join " " (r.nm :: ws)) := by
  obtain ⟨sh, h1, h2⟩ := id ok
  refine ⟨r.nm, ws, rfl, fun x hx => ?_, fun x hx => (hv x hx).2, rowD_len h1 ?_, by omega⟩
  · rcases List.mem_cons.mp hx with h | h
    · rw [h]; exact ok.vis _ (List.mem_cons_self ..)
    · exact (hv x h).1
  · have hl : sh.length = sh.cps.toList.length := by rw [Array.length_toList]; rfl
    have := h2.len
    omega
theorem Rw.ok.vw {r : Rw} (h : r.ok) : ∀ x ∈ r.ar.map txtI, Vis_ x ∧ WOk x := fun x hx => ⟨h.vis x (List.mem_cons_of_mem _ hx), h.wok x hx⟩
/-- one word that is none -/
theorem bad_word {r : Rw} (ok : r.ok) {w : Str} (i : Nat) (hi : i < r.ar.length) (hv : Vis_ w) (hn : WOk w) (hb : num w.cps.toList = false ∨ ∃ sh, kd_SHAPES.lookup r.nm = some sh ∧ sh.cps.toList[i]? = some 98 ∧ ∃ n, PySem.intText? w = some n ∧ (n < 0 ∨ 7 < n)) :
    BadL (Txt.join " " (r.nm :: ((r.ar.map txtI).set i w))) := by
  obtain ⟨sh, h1, h2⟩ := id ok
  have la := ok.len
  have hs := h2.len
  refine ⟨r.nm, (r.ar.map txtI).set i w, rfl, fun x hx => ?_, fun x hx => ?_, rowD_arg h1 ?_, by simp; omega⟩
  · rcases List.mem_cons.mp hx with h | h
    · rw [h]; exact ok.vis _ (List.mem_cons_self ..)
    · rcases List.mem_or_eq_of_mem_set h with h | h
      · exact ok.vis x (List.mem_cons_of_mem _ h)
      · rw [h]; exact hv
  · rcases List.mem_or_eq_of_mem_set hx with h | h
    · exact ok.wok x h
    · rw [h]; exact hn
  · obtain ⟨k, hk⟩ : ∃ k, sh.cps.toList[i]? = some k := ⟨_, List.getElem?_eq_getElem (by omega)⟩
    refine argsR_none i k w hk (by rw [List.getElem?_set_self (by simpa using hi)]) ?_
    rcases hb with h | ⟨sh', e1, e2, e3⟩
    · exact .inl h
    · rw [h1] at e1
      cases e1
      rw [hk] at e2
      cases e2
      exact .inr ⟨rfl, e3⟩
/-! numbers that are none -/
theorem not48 : isDig 43 = false ∧ isDig 45 = false ∧ isDig 46 = false ∧ isDig 97 = false := by decide +kernel
theorem vis_int {i : Int} (h : i.natAbs < 10 ^ 60) : Vis_ (txtI i) := ⟨(wrd_int h).2, by have := (wrd_int h).1; omega⟩
theorem vis_app {a b : Str} (ha : ∀ c ∈ a.cps.toList, 33 ≤ c) (hb : ∀ c ∈ b.cps.toList, 33 ≤ c) (hl : a.length + b.length ≤ 200) : Vis_ (a ++ b) := ⟨fun c hc => by
  rw [str_tl] at hc
  rcases List.mem_append.mp hc with h | h
  · exact ha c h
  · exact hb c h, by rw [str_len]; omega⟩
theorem num_lead0 {l : List Nat} (h : l ≠ []) : num (48 :: l) = false := by
  have hf : fig (48 :: l) = 48 :: l := by simp [fig]
  unfold num
  rw [hf]
  simp only [numF]
  have : ¬ (48 :: l = [48]) := by simpa using h
  simp [this]
theorem num_plus (l : List Nat) : num (43 :: l) = false := by
  have hf : fig (43 :: l) = 43 :: l := by simp [fig]
  unfold num
  rw [hf]
  simp [numF, not48]
theorem num_m0 {l : List Nat} : num (45 :: 48 :: l) = false := by
  have hf : fig (45 :: 48 :: l) = 48 :: l := by simp [fig, tl1]
  unfold num
  rw [hf]
  simp [numF]
theorem num_tail {l : List Nat} {c : Nat} (h : l ≠ []) (hc : isDig c = false) (hm : l ≠ [45]) : num (l ++ [c]) = false := by
  have key : ∀ (L F : List Nat), F ≠ [] → numF L (F ++ [c]) = false := fun L F hF => by
    cases F with
    | nil => exact absurd rfl hF
    | cons k r => simp [numF, hc]
  unfold num fig
  split
  · rename_i h1
    cases l with
    | nil => exact absurd rfl h
    | cons k r =>
      have : tl1 (k :: r ++ [c]) = r ++ [c] := rfl
      rw [this]
      cases r with
      | nil =>
        simp at h1
        subst h1
        exact absurd rfl hm
      | cons k2 r2 => exact key _ _ (by simp)
  · exact key _ _ h
theorem badnum_ok {i : Int} (h : i.natAbs < 10 ^ 60) (c : Int) : ∃ z : Str, f__law_bad_number [.str (txtI i), .int c] = .ok (.str z) ∧ num z.cps.toList = false ∧ Vis_ z := by
  obtain ⟨k, r, e, hd, h0, hs⟩ := int_signs i
  have hl := int_tlen h
  have hV := wrd_int h
  have hs' : (txtI i).cps.toList = if i < 0 then 45 :: k :: r else k :: r := hs
  have hne : (txtI i).cps.toList ≠ [] := by rw [hs']; split <;> simp
  have hnm : (txtI i).cps.toList ≠ [45] := by
    rw [hs']
    split
    · simp
    · intro q
      injection q with q1 _
      have := (hd k (List.mem_cons_self ..)).1
      omega
  have l0 : ("0" : Str).length = 1 := by decide +kernel
  have l1 : ("+" : Str).length = 1 := by decide +kernel
  have l2 : ("a" : Str).length = 1 := by decide +kernel
  have l3 : ("." : Str).length = 1 := by decide +kernel
  have l4 : ("-" : Str).length = 1 := by decide +kernel
  have l5 : ("-0" : Str).length = 2 := by decide +kernel
  have l6 : (Txt.mul ("1" : Str) 61).length = 61 := by decide +kernel
  have t0 : ("0" : Str).cps.toList = [48] := by decide +kernel
  have t1 : ("+" : Str).cps.toList = [43] := by decide +kernel
  have t2 : ("a" : Str).cps.toList = [97] := by decide +kernel
  have t3 : ("." : Str).cps.toList = [46] := by decide +kernel
  have t5 : ("-0" : Str).cps.toList = [45, 48] := by decide +kernel
  have m1 : MulOk ("9" : Str) 61 := by decide +kernel
  have m2 : MulOk ("1" : Str) 61 := by decide +kernel
  have hL : (txtI i).length ≤ 61 := hl
  have hV2 := hV.2
  obtain ⟨T, hT⟩ : ∃ T, txtI i = T := ⟨_, rfl⟩
  rw [hT] at hne hnm hL hV2 ⊢
  have g0 : ("0" : Str).length + T.length ≤ 16777216 := by omega
  have g1 : ("+" : Str).length + T.length ≤ 16777216 := by omega
  have g2 : T.length + ("a" : Str).length ≤ 16777216 := by omega
  have g3 : T.length + ("." : Str).length ≤ 16777216 := by omega
  have g4 : ("-" : Str).length + (Txt.mul ("1" : Str) 61).length ≤ 16777216 := by omega
  have g5 : ("-0" : Str).length + T.length ≤ 16777216 := by omega
  have hw : c % 13 = 0 ∨ c % 13 = 1 ∨ c % 13 = 2 ∨ c % 13 = 3 ∨ c % 13 = 4 ∨ c % 13 = 5 ∨ c % 13 = 6 ∨ c % 13 = 7 ∨ c % 13 = 8 ∨ c % 13 = 9 ∨ c % 13 = 10 ∨ c % 13 = 11 ∨ c % 13 = 12 := by omega
  have key : ∃ z : Str, f__law_bad_number [.str T, .int c] = .ok (.str z) ∧ z ∈ ([("0" : Str) ++ T, ("+" : Str) ++ T, "-0", "00", "1_0", "a", T ++ ("a" : Str), T ++ ("." : Str), Txt.mul ("9" : Str) 61, "--1", "0x1", ("-" : Str) ++ Txt.mul ("1" : Str) 61, ("-0" : Str) ++ T] : List Str) := by
    rw [o__law_bad_number, b__law_bad_number]
    rcases hw with h | h | h | h | h | h | h | h | h | h | h | h | h <;> simp -implicitDefEqProofs [h, g0, g1, g2, g3, g4, g5, gate_pos m1, gate_pos m2]
  obtain ⟨z, ez, hz⟩ := key
  refine ⟨z, ez, ?_⟩
  simp only [List.mem_cons, List.not_mem_nil, or_false] at hz
  rcases hz with h | h | h | h | h | h | h | h | h | h | h | h | h <;> subst h
  · refine ⟨?_, vis_app (by decide +kernel) hV2 (by omega)⟩
    rw [str_tl, t0]
    exact num_lead0 hne
  · refine ⟨?_, vis_app (by decide +kernel) hV2 (by omega)⟩
    rw [str_tl, t1]
    exact num_plus _
  · exact ⟨by decide +kernel, by decide +kernel, by decide +kernel⟩
  · exact ⟨by decide +kernel, by decide +kernel, by decide +kernel⟩
  · exact ⟨by decide +kernel, by decide +kernel, by decide +kernel⟩
  · exact ⟨by decide +kernel, by decide +kernel, by decide +kernel⟩
  · refine ⟨?_, vis_app hV2 (by decide +kernel) (by omega)⟩
    rw [str_tl, t2]
    exact num_tail hne not48.2.2.2 hnm
  · refine ⟨?_, vis_app hV2 (by decide +kernel) (by omega)⟩
    rw [str_tl, t3]
    exact num_tail hne not48.2.2.1 hnm
  · exact ⟨by decide +kernel, by decide +kernel, by decide +kernel⟩
  · exact ⟨by decide +kernel, by decide +kernel, by decide +kernel⟩
  · exact ⟨by decide +kernel, by decide +kernel, by decide +kernel⟩
  · exact ⟨by decide +kernel, by decide +kernel, by decide +kernel⟩
  · refine ⟨?_, vis_app (by decide +kernel) hV2 (by omega)⟩
    rw [str_tl, t5]
    exact num_m0
noncomputable def tl__law_other_word_1 : FS :=
    (sSeq (sIf (toT (e2 (wIn false) (eV 6) (eTup (aCons (eC (.str "put")) (aCons (eC (.str "add")) (aCons (eC (.str "sub")) (aCons (eC (.str "more")) (aCons (eC (.str "get")) (aCons (eC (.str "set")) (aCons (eC (.str "jump")) (aCons (eC (.str "when")) (aCons (eC (.str "tell")) (aCons (eC (.str "halt")) aNil))))))))))))) (sRet (e2 (wAdd false) (eV 6) (eC (.str "x")))) sNil)
    (sRet (eV 6)))
theorem utl__law_other_word_1 (s : Sd) (G : Gd) : tl__law_other_word_1 s G = (sSeq (sIf (toT (e2 (wIn false) (eV 6) (eTup (aCons (eC (.str "put")) (aCons (eC (.str "add")) (aCons (eC (.str "sub")) (aCons (eC (.str "more")) (aCons (eC (.str "get")) (aCons (eC (.str "set")) (aCons (eC (.str "jump")) (aCons (eC (.str "when")) (aCons (eC (.str "tell")) (aCons (eC (.str "halt")) aNil))))))))))))) (sRet (e2 (wAdd false) (eV 6) (eC (.str "x")))) sNil)
    (sRet (eV 6))) s G := rfl
theorem cut__law_other_word (s : Sd) (G : Gd) : b__law_other_word s G = (sSeq (sSet 2 (eC (.str "abcdefghijklmnopqrstuvwxyzA1-_")))
    (sSeq (sSet 3 (eLst false (aCons (eC (.str "mul")) (aCons (eC (.str "div")) (aCons (eC (.str "goto")) (aCons (eC (.str "stop")) (aCons (eC (.str "print")) (aCons (eC (.str "less")) (aCons (eC (.str "if")) (aCons (eC (.str "end")) (aCons (eC (.str "cell")) (aCons (eC (.str "7")) (aCons (eMt rcS wUpper (eV 0) aNil) (aCons (e2 (wAdd false) (eV 0) (eC (.str "s"))) aNil))))))))))))))
    (sSeq (sSet 4 (e2 wIx (eV 2) (e2 wMod (e2 wDiv (eV 1) (eC (.int 5))) (eC (.int 30)))))
    (sSeq (sSet 5 (e2 wMod (e2 wDiv (eV 1) (eC (.int 150))) (eA (fun ws _ G => bLen ws G) (aCons (eV 0) aNil))))
    (sSeq (sSet 6 (e2 (wAdd false) (eSl false (eV 0) pNo (pSo (eV 5))) (eSl false (eV 0) (pSo (e2 (wAdd false) (eV 5) (eC (.int 1)))) pNo)))
    (sSeq (sIf (toT (e2 (wEq false) (e2 wMod (eV 1) (eC (.int 5))) (eC (.int 1)))) (sSet 6 (e2 (wAdd false) (e2 (wAdd false) (eSl false (eV 0) pNo (pSo (eV 5))) (eV 4)) (eSl false (eV 0) (pSo (e2 (wAdd false) (eV 5) (eC (.int 1)))) pNo))) sNil)
    (sSeq (sIf (toT (e2 (wEq false) (e2 wMod (eV 1) (eC (.int 5))) (eC (.int 2)))) (sSet 6 (e2 (wAdd false) (e2 (wAdd false) (eSl false (eV 0) pNo (pSo (eV 5))) (eV 4)) (eSl false (eV 0) (pSo (eV 5)) pNo))) sNil)
    (sSeq (sIf (toT (e2 wGt (e2 wMod (eV 1) (eC (.int 5))) (eC (.int 2)))) (sSet 6 (e2 wIx (eV 3) (e2 wMod (e2 wDiv (eV 1) (eC (.int 5))) (eC (.int 12))))) sNil)
    tl__law_other_word_1)))))))) s G := rfl
/-! other words -/
def ten : List Str := ["put", "add", "sub", "more", "get", "set", "jump", "when", "tell", "halt"]
theorem ten_keys {z : Str} (h : z ∉ ten) : kd_SHAPES.lookup z = none := by
  have key : ∀ p ∈ kd_SHAPES, p.1 ∈ ten := by decide +kernel
  cases e : kd_SHAPES.lookup z with
  | none => rfl
  | some sh => exact absurd (key _ (kd_mem e)) h
theorem ten_x : ∀ z ∈ ten, kd_SHAPES.lookup (z ++ "x") = none ∧ Vis_ (z ++ "x") := by
  intro z hz
  have key : ∀ z ∈ ten, kd_SHAPES.lookup (z ++ "x") = none ∧ (∀ c ∈ (z ++ "x").cps.toList, 33 ≤ c) ∧ (z ++ "x").length ≤ 200 := by decide +kernel
  exact ⟨(key z hz).1, (key z hz).2.1, (key z hz).2.2⟩
theorem ow_tail (x0 x1 x2 x3 x4 x5 : Option W) (F : Str) (hF : F.length ≤ 100) : endD (tl__law_other_word_1 [x0, x1, x2, x3, x4, x5, some (.d (.str F))] []) = .ok (.str (if F ∈ ten then F ++ "x" else F)) := by
  have lx : ("x" : Str).length = 1 := by decide +kernel
  have g : F.length + ("x" : Str).length ≤ 16777216 := by omega
  by_cases h : F ∈ ten
  · rw [if_pos h]
    simp only [ten, List.mem_cons, List.not_mem_nil, or_false] at h
    have e : wIn false (.d (.str F)) (.d (.tup [.str "put", .str "add", .str "sub", .str "more", .str "get", .str "set", .str "jump", .str "when", .str "tell", .str "halt"])) [] = .ok (.d (.bl true), []) := by
      rcases h with h | h | h | h | h | h | h | h | h | h <;> subst h <;> simp [wIn] <;> decide +kernel
    simp -implicitDefEqProofs [utl__law_other_word_1, e, g]
  · rw [if_neg h]
    simp only [ten, List.mem_cons, List.not_mem_nil, or_false, not_or] at h
    obtain ⟨h1, h2, h3, h4, h5, h6, h7, h8, h9, h10⟩ := h
    have e : wIn false (.d (.str F)) (.d (.tup [.str "put", .str "add", .str "sub", .str "more", .str "get", .str "set", .str "jump", .str "when", .str "tell", .str "halt"])) [] = .ok (.d (.bl false), []) := by
      simp [wIn, h1, h2, h3, h4, h5, h6, h7, h8, h9, h10, Ne.symm h1, Ne.symm h2, Ne.symm h3, Ne.symm h4, Ne.symm h5, Ne.symm h6, Ne.symm h7, Ne.symm h8, Ne.symm h9, Ne.symm h10]
    simp -implicitDefEqProofs [utl__law_other_word_1, e]
theorem cutS_sub {z : Str} {l u : Option Int} : (∀ c ∈ (cutS z l u).cps.toList, c ∈ z.cps.toList) ∧ (cutS z l u).length ≤ z.length := by
  unfold cutS
  constructor
  · intro c hc
    simp only [List.toList_toArray] at hc
    exact List.mem_of_mem_drop (List.mem_of_mem_take hc)
  · show (List.toArray _).size ≤ z.cps.size
    rw [List.size_toArray, List.length_take, List.length_drop, Array.length_toList]
    omega
theorem vis_sub {z : Str} {l u : Option Int} (h : ∀ c ∈ z.cps.toList, 33 ≤ c) : ∀ c ∈ (cutS z l u).cps.toList, 33 ≤ c := fun c hc => h c (cutS_sub.1 c hc)
theorem ow_ok {nm : Str} (h : nm ∈ ten) (c : Int) : ∃ z : Str, f__law_other_word [.str nm, .int c] = .ok (.str z) ∧ kd_SHAPES.lookup z = none ∧ Vis_ z := by
  have hk : ∀ z ∈ ten, (3 ≤ z.length ∧ z.length ≤ 4) ∧ (∀ c ∈ z.cps.toList, 33 ≤ c) ∧ (∀ c ∈ (Txt.upper z).cps.toList, 33 ≤ c) ∧ (Txt.upper z).length ≤ 10 := by decide +kernel
  obtain ⟨⟨n3, n4⟩, nv, uv, ul⟩ := hk nm h
  obtain ⟨a, ha, ea⟩ := modN (c / 150) nm.length (by omega)
  obtain ⟨b, hb, eb⟩ := modN (c / 5) 30 (by omega)
  have eb' : c / 5 % 30 = (b : Int) := eb
  have ll : ("abcdefghijklmnopqrstuvwxyzA1-_" : Str).length = 30 := by decide +kernel
  obtain ⟨k, hk1, hk2⟩ : ∃ k, ("abcdefghijklmnopqrstuvwxyzA1-_" : Str).cps.toList[b]? = some k ∧ 33 ≤ k := by
    have l2 : ("abcdefghijklmnopqrstuvwxyzA1-_" : Str).cps.toList.length = 30 := by decide +kernel
    have h33 : ∀ c ∈ ("abcdefghijklmnopqrstuvwxyzA1-_" : Str).cps.toList, 33 ≤ c := by decide +kernel
    have hb2 : b < ("abcdefghijklmnopqrstuvwxyzA1-_" : Str).cps.toList.length := by omega
    exact ⟨_, List.getElem?_eq_getElem hb2, h33 _ (List.getElem_mem hb2)⟩
  have sg : ∀ G, wIx (.d (.str "abcdefghijklmnopqrstuvwxyzA1-_")) (.d (.int (b : Int))) G = .ok (.d (.str ⟨#[k]⟩), G) := fun G => by
    rw [w_ixS, if_pos (by rw [ll]; decide), atI_ofNat, hk1]
  obtain ⟨S, hS⟩ : ∃ S : Str, (⟨#[k]⟩ : Str) = S := ⟨_, rfl⟩
  have Sl : S.length = 1 := by rw [← hS]; rfl
  have Sv : ∀ c ∈ S.cps.toList, 33 ≤ c := fun c hc => by rw [← hS] at hc; simp at hc; omega
  rw [hS] at sg
  have p1 := cutS_sub (z := nm) (l := none) (u := some (a : Int))
  have p2 := cutS_sub (z := nm) (l := some ((a : Int) + 1)) (u := none)
  have p3 := cutS_sub (z := nm) (l := some (a : Int)) (u := none)
  have v1 := vis_sub (z := nm) (l := none) (u := some (a : Int)) nv
  have v2 := vis_sub (z := nm) (l := some ((a : Int) + 1)) (u := none) nv
  have v3 := vis_sub (z := nm) (l := some (a : Int)) (u := none) nv
  obtain ⟨A1, h1⟩ : ∃ A, cutS nm none (some (a : Int)) = A := ⟨_, rfl⟩
  obtain ⟨A2, h2⟩ : ∃ A, cutS nm (some ((a : Int) + 1)) none = A := ⟨_, rfl⟩
  obtain ⟨A3, h3⟩ : ∃ A, cutS nm (some (a : Int)) none = A := ⟨_, rfl⟩
  obtain ⟨U, hU⟩ : ∃ U, Txt.upper nm = U := ⟨_, rfl⟩
  rw [h1] at p1 v1
  rw [h2] at p2 v2
  rw [h3] at p3 v3
  rw [hU] at uv ul
  have ls : ("s" : Str).length = 1 := by decide +kernel
  have fin : ∀ (F : Str), (∀ c ∈ F.cps.toList, 33 ≤ c) → F.length ≤ 100 → kd_SHAPES.lookup (if F ∈ ten then F ++ "x" else F) = none ∧ Vis_ (if F ∈ ten then F ++ "x" else F) := fun F hv hl => by
    by_cases hF : F ∈ ten
    · rw [if_pos hF]; exact ten_x F hF
    · rw [if_neg hF]; exact ⟨ten_keys hF, hv, by omega⟩
  have app2 : ∀ {x y : Str}, (∀ c ∈ x.cps.toList, 33 ≤ c) → (∀ c ∈ y.cps.toList, 33 ≤ c) → ∀ c ∈ (x ++ y).cps.toList, 33 ≤ c := fun hx hy c hc => by
    rw [str_tl] at hc
    rcases List.mem_append.mp hc with q | q
    · exact hx c q
    · exact hy c q
  have t1 := fun (x2 x3 x4 x5 : Option W) (F : Str) (hF : F.length ≤ 100) => ow_tail (some (.d (.str nm))) (some (.d (.int c))) x2 x3 x4 x5 F hF
  have n0 : nm.length ≤ 16777216 := by omega
  have n1 : nm.length ≤ 5592405 := by omega
  have p0 : (0 : Int) < (nm.length : Int) := by omega
  have p0' : 0 < nm.length := by omega
  have g1 : A1.length + A2.length ≤ 16777216 := by omega
  have g2 : A1.length + S.length ≤ 16777216 := by omega
  have g3 : (A1 ++ S).length + A2.length ≤ 16777216 := by rw [str_len]; omega
  have g4 : (A1 ++ S).length + A3.length ≤ 16777216 := by rw [str_len]; omega
  have g5 : nm.length + ("s" : Str).length ≤ 16777216 := by omega
  have hw : c % 5 = 0 ∨ c % 5 = 1 ∨ c % 5 = 2 ∨ c % 5 = 3 ∨ c % 5 = 4 := by omega
  have hub : ∀ G, wUpper (.d (.str nm)) [] G = .ok (.d (.str U), G) := fun G => by rw [M.w_upper, gate_pos n1, hU]
  have key : ∃ F : Str, f__law_other_word [.str nm, .int c] = .ok (.str (if F ∈ ten then F ++ "x" else F)) ∧ (∀ c ∈ F.cps.toList, 33 ≤ c) ∧ F.length ≤ 100 := by
    rw [o__law_other_word, cut__law_other_word]
    have hub' : ∀ G, wUpper (.d (.str nm)) [] G = .ok (.d (.str U), G) := hub
    obtain ⟨m, hm, em⟩ := modN (c / 5) 12 (by omega)
    have em' : c / 5 % 12 = (m : Int) := em
    let L : List D := [.str "mul", .str "div", .str "goto", .str "stop", .str "print", .str "less", .str "if", .str "end", .str "cell", .str "7", .str U, .str (nm ++ "s")]
    obtain ⟨O, hO, oV, oL⟩ : ∃ O : Str, L[m]? = some (.str O) ∧ (∀ c ∈ O.cps.toList, 33 ≤ c) ∧ O.length ≤ 100 := by
      have hm' : m = 0 ∨ m = 1 ∨ m = 2 ∨ m = 3 ∨ m = 4 ∨ m = 5 ∨ m = 6 ∨ m = 7 ∨ m = 8 ∨ m = 9 ∨ m = 10 ∨ m = 11 := by omega
      rcases hm' with q | q | q | q | q | q | q | q | q | q | q | q <;> subst q
      all_goals first
        | exact ⟨_, rfl, by decide +kernel, by decide +kernel⟩
        | exact ⟨U, rfl, uv, by omega⟩
        | exact ⟨nm ++ "s", rfl, app2 nv (by decide +kernel), by rw [str_len]; omega⟩
    have at_ : ∀ G, wIx (.d (.lst [.str "mul", .str "div", .str "goto", .str "stop", .str "print", .str "less", .str "if", .str "end", .str "cell", .str "7", .str U, .str (nm ++ "s")])) (.d (.int (m : Int))) G = .ok (.d (.str O), G) := fun G => by
      rw [w_ixL, atI_ofNat]
      show (match L[m]? with
        | some x => R.ok (W.d x, G)
        | none => R.bad) = _
      rw [hO]
    rcases hw with h | h | h | h | h
    · refine ⟨A1 ++ A2, ?_, app2 v1 v2, by rw [str_len]; omega⟩
      have tt := fun x2 x3 x4 x5 => t1 x2 x3 x4 x5 (A1 ++ A2) (by rw [str_len]; omega)
      simp -implicitDefEqProofs [n0, g5, hub', eb', sg, ea, p0, p0', h1, h2, h3, g1, h, tt, -M.w_upper, -w_ixL, -w_ixS]
    · refine ⟨A1 ++ S ++ A2, ?_, app2 (app2 v1 Sv) v2, by rw [str_len, str_len]; omega⟩
      have tt := fun x2 x3 x4 x5 => t1 x2 x3 x4 x5 (A1 ++ S ++ A2) (by rw [str_len, str_len]; omega)
      simp -implicitDefEqProofs [n0, g5, hub', eb', sg, ea, p0, p0', h1, h2, h3, g1, g2, g3, h, tt, -M.w_upper, -w_ixL, -w_ixS]
    · refine ⟨A1 ++ S ++ A3, ?_, app2 (app2 v1 Sv) v3, by rw [str_len, str_len]; omega⟩
      have tt := fun x2 x3 x4 x5 => t1 x2 x3 x4 x5 (A1 ++ S ++ A3) (by rw [str_len, str_len]; omega)
      simp -implicitDefEqProofs [n0, g5, hub', eb', sg, ea, p0, p0', h1, h2, h3, g1, g2, g4, h, tt, -M.w_upper, -w_ixL, -w_ixS]
    · refine ⟨O, ?_, oV, oL⟩
      have tt := fun x2 x3 x4 x5 => t1 x2 x3 x4 x5 O oL
      simp -implicitDefEqProofs [n0, g5, hub', eb', sg, ea, p0, p0', h1, h2, h3, g1, em', at_, h, tt, -M.w_upper, -w_ixL, -w_ixS]
    · refine ⟨O, ?_, oV, oL⟩
      have tt := fun x2 x3 x4 x5 => t1 x2 x3 x4 x5 O oL
      simp -implicitDefEqProofs [n0, g5, hub', eb', sg, ea, p0, p0', h1, h2, h3, g1, em', at_, h, tt, -M.w_upper, -w_ixL, -w_ixS]
  obtain ⟨F, eF, vF, lF⟩ := key
  exact ⟨_, eF, (fin F vF lF).1, (fin F vF lF).2⟩
noncomputable def tl__law_spoiled_3 : FS :=
    (sSeq (sIf (tfAnd (toT (e2 (wIn false) (eV 3) (eTup (aCons (eC (.int 5)) (aCons (eC (.int 6)) (aCons (eC (.int 7)) aNil)))))) (toT (e2 wGt (eA (fun ws _ G => bLen ws G) (aCons (eV 2) aNil)) (eC (.int 1))))) (sRet (eMt rcS wJoin (eC (.str " ")) (aCons (e2 (wAdd false) (e2 (wAdd false) (eSl false (eV 2) pNo (pSo (eV 5))) (eLst false (aCons (eCall 2 f__law_bad_number (aCons (e2 wIx (eV 2) (eV 5)) (aCons (e2 wDiv (eV 4) (eC (.int 5))) aNil))) aNil))) (eSl false (eV 2) (pSo (e2 (wAdd false) (eV 5) (eC (.int 1)))) pNo)) aNil))) sNil)
    (sSeq (sIf (toT (e2 (wEq false) (eV 3) (eC (.int 8)))) (sRet (e2 (wAdd false) (eC (.str " ")) (eV 0))) sNil)
    (sSeq (sIf (toT (e2 (wEq false) (eV 3) (eC (.int 9)))) (sRet (e2 (wAdd false) (eV 0) (eC (.str " ")))) sNil)
    (sSeq (sIf (tfAnd (toT (e2 (wEq false) (eV 3) (eC (.int 10)))) (toT (e2 wGt (eA (fun ws _ G => bLen ws G) (aCons (eV 2) aNil)) (eC (.int 1))))) (sRet (eMt rcS wJoin (eC (.str " ")) (aCons (e2 (wAdd false) (e2 (wAdd false) (eSl false (eV 2) pNo (pSo (eV 5))) (eLst false (aCons (eC (.str "")) aNil))) (eSl false (eV 2) (pSo (eV 5)) pNo)) aNil))) sNil)
    (sRet (e2 wIx (eLst false (aCons (eC (.str "")) (aCons (eC (.str "")) (aCons (eC (.str " ")) (aCons (eC (.str "  ")) aNil))))) (e2 wMod (eV 4) (eC (.int 4)))))))))
theorem utl__law_spoiled_3 (s : Sd) (G : Gd) : tl__law_spoiled_3 s G = (sSeq (sIf (tfAnd (toT (e2 (wIn false) (eV 3) (eTup (aCons (eC (.int 5)) (aCons (eC (.int 6)) (aCons (eC (.int 7)) aNil)))))) (toT (e2 wGt (eA (fun ws _ G => bLen ws G) (aCons (eV 2) aNil)) (eC (.int 1))))) (sRet (eMt rcS wJoin (eC (.str " ")) (aCons (e2 (wAdd false) (e2 (wAdd false) (eSl false (eV 2) pNo (pSo (eV 5))) (eLst false (aCons (eCall 2 f__law_bad_number (aCons (e2 wIx (eV 2) (eV 5)) (aCons (e2 wDiv (eV 4) (eC (.int 5))) aNil))) aNil))) (eSl false (eV 2) (pSo (e2 (wAdd false) (eV 5) (eC (.int 1)))) pNo)) aNil))) sNil)
    (sSeq (sIf (toT (e2 (wEq false) (eV 3) (eC (.int 8)))) (sRet (e2 (wAdd false) (eC (.str " ")) (eV 0))) sNil)
    (sSeq (sIf (toT (e2 (wEq false) (eV 3) (eC (.int 9)))) (sRet (e2 (wAdd false) (eV 0) (eC (.str " ")))) sNil)
    (sSeq (sIf (tfAnd (toT (e2 (wEq false) (eV 3) (eC (.int 10)))) (toT (e2 wGt (eA (fun ws _ G => bLen ws G) (aCons (eV 2) aNil)) (eC (.int 1))))) (sRet (eMt rcS wJoin (eC (.str " ")) (aCons (e2 (wAdd false) (e2 (wAdd false) (eSl false (eV 2) pNo (pSo (eV 5))) (eLst false (aCons (eC (.str "")) aNil))) (eSl false (eV 2) (pSo (eV 5)) pNo)) aNil))) sNil)
    (sRet (e2 wIx (eLst false (aCons (eC (.str "")) (aCons (eC (.str "")) (aCons (eC (.str " ")) (aCons (eC (.str "  ")) aNil))))) (e2 wMod (eV 4) (eC (.int 4))))))))) s G := rfl
noncomputable def tl__law_spoiled_2 : FS :=
    (sSeq (sIf (tfAnd (toT (e2 (wEq false) (eV 3) (eC (.int 4)))) (tfAnd (toT (e2 wGt (eA (fun ws _ G => bLen ws G) (aCons (eV 2) aNil)) (eC (.int 1)))) (toT (e2 (wEq true) (e2 wIx (eV 2) (eC (.int 0))) (eC (.str "jump")))))) (sSeq (sSet 6 (eDIx (eDisp [("put", (eC (.int 1))), ("add", (eC (.int 3))), ("sub", (eC (.int 3))), ("more", (eC (.int 3))), ("get", (eC (.int 2))), ("set", (eC (.int 2))), ("when", (eC (.int 1))), ("tell", (eC (.int 1)))]) (e2 wIx (eV 2) (eC (.int 0)))))
    (sSeq (sSet 7 (e2 (wAdd false) (eC (.int 1)) (e2 wMod (e2 wDiv (eV 4) (eC (.int 5))) (eV 6))))
    (sSeq (sSet 8 (e2 wMod (e2 wDiv (eV 4) (eC (.int 15))) (e2 wPow (eC (.int 10)) (eC (.int 50)))))
    (sSeq (sSet 9 (e2 wIx (eLst false (aCons (eC (.str "8")) (aCons (eC (.str "-1")) (aCons (e2 (wMul false) (eC (.str "9")) (eC (.int 60))) (aCons (eA (fun ws _ G => bStr ws G) (aCons (e2 (wAdd false) (eC (.int 8)) (eV 8)) aNil)) (aCons (eA (fun ws _ G => bStr ws G) (aCons (e2 wSub (eNeg (eC (.int 1))) (eV 8)) aNil)) aNil)))))) (e2 wMod (eV 4) (eC (.int 5)))))
    (sRet (eMt rcS wJoin (eC (.str " ")) (aCons (e2 (wAdd false) (e2 (wAdd false) (eSl false (eV 2) pNo (pSo (eV 7))) (eLst false (aCons (eV 9) aNil))) (eSl false (eV 2) (pSo (e2 (wAdd false) (eV 7) (eC (.int 1)))) pNo)) aNil))))))) sNil)
    tl__law_spoiled_3)
theorem utl__law_spoiled_2 (s : Sd) (G : Gd) : tl__law_spoiled_2 s G = (sSeq (sIf (tfAnd (toT (e2 (wEq false) (eV 3) (eC (.int 4)))) (tfAnd (toT (e2 wGt (eA (fun ws _ G => bLen ws G) (aCons (eV 2) aNil)) (eC (.int 1)))) (toT (e2 (wEq true) (e2 wIx (eV 2) (eC (.int 0))) (eC (.str "jump")))))) (sSeq (sSet 6 (eDIx (eDisp [("put", (eC (.int 1))), ("add", (eC (.int 3))), ("sub", (eC (.int 3))), ("more", (eC (.int 3))), ("get", (eC (.int 2))), ("set", (eC (.int 2))), ("when", (eC (.int 1))), ("tell", (eC (.int 1)))]) (e2 wIx (eV 2) (eC (.int 0)))))
    (sSeq (sSet 7 (e2 (wAdd false) (eC (.int 1)) (e2 wMod (e2 wDiv (eV 4) (eC (.int 5))) (eV 6))))
    (sSeq (sSet 8 (e2 wMod (e2 wDiv (eV 4) (eC (.int 15))) (e2 wPow (eC (.int 10)) (eC (.int 50)))))
    (sSeq (sSet 9 (e2 wIx (eLst false (aCons (eC (.str "8")) (aCons (eC (.str "-1")) (aCons (e2 (wMul false) (eC (.str "9")) (eC (.int 60))) (aCons (eA (fun ws _ G => bStr ws G) (aCons (e2 (wAdd false) (eC (.int 8)) (eV 8)) aNil)) (aCons (eA (fun ws _ G => bStr ws G) (aCons (e2 wSub (eNeg (eC (.int 1))) (eV 8)) aNil)) aNil)))))) (e2 wMod (eV 4) (eC (.int 5)))))
    (sRet (eMt rcS wJoin (eC (.str " ")) (aCons (e2 (wAdd false) (e2 (wAdd false) (eSl false (eV 2) pNo (pSo (eV 7))) (eLst false (aCons (eV 9) aNil))) (eSl false (eV 2) (pSo (e2 (wAdd false) (eV 7) (eC (.int 1)))) pNo)) aNil))))))) sNil)
    tl__law_spoiled_3) s G := rfl
noncomputable def tl__law_spoiled_1 : FS :=
    (sSeq (sIf (toT (e2 (wEq false) (eV 3) (eC (.int 0)))) (sRet (e2 (wAdd false) (eV 0) (e2 wIx (eLst false (aCons (eC (.str " 0")) (aCons (eC (.str " 7")) (aCons (eC (.str " 1 2")) (aCons (eC (.str " ; the end")) (aCons (eC (.str " #")) (aCons (eC (.str " halt")) (aCons (eC (.str " -1 5 6")) aNil)))))))) (e2 wMod (eV 4) (eC (.int 7)))))) sNil)
    (sSeq (sIf (toT (e2 (wEq false) (eV 3) (eC (.int 1)))) (sRet (eMt rcS wJoin (eC (.str " ")) (aCons (eSl false (eV 2) pNo (pSo (eA (fun ws _ G => bMax2 ws G) (aCons (e2 wSub (e2 wSub (eA (fun ws _ G => bLen ws G) (aCons (eV 2) aNil)) (eC (.int 1))) (e2 wMod (eV 4) (eC (.int 3)))) (aCons (eA (fun ws _ G => bInt ws G) (aCons (e2 wGt (eA (fun ws _ G => bLen ws G) (aCons (eV 2) aNil)) (eC (.int 1))) aNil)) aNil))))) aNil))) sNil)
    (sSeq (sIf (toT (e2 (wEq false) (eV 3) (eC (.int 2)))) (sRet (eMt rcS wJoin (eC (.str " ")) (aCons (e2 (wAdd false) (eLst false (aCons (eCall 2 f__law_other_word (aCons (e2 wIx (eV 2) (eC (.int 0))) (aCons (eV 4) aNil))) aNil)) (eSl false (eV 2) (pSo (eC (.int 1))) pNo)) aNil))) sNil)
    (sSeq (sIf (toT (e2 (wEq false) (eV 3) (eC (.int 3)))) (sRet (eMt rcS wJoin (eC (.str " ")) (aCons (e2 (wAdd false) (eLst false (aCons (e2 (wAdd false) (eMt rcS wUpper (eSl false (e2 wIx (eV 2) (eC (.int 0))) pNo (pSo (eC (.int 1)))) aNil) (eSl false (e2 wIx (eV 2) (eC (.int 0))) (pSo (eC (.int 1))) pNo)) aNil)) (eSl false (eV 2) (pSo (eC (.int 1))) pNo)) aNil))) sNil)
    tl__law_spoiled_2))))
theorem utl__law_spoiled_1 (s : Sd) (G : Gd) : tl__law_spoiled_1 s G = (sSeq (sIf (toT (e2 (wEq false) (eV 3) (eC (.int 0)))) (sRet (e2 (wAdd false) (eV 0) (e2 wIx (eLst false (aCons (eC (.str " 0")) (aCons (eC (.str " 7")) (aCons (eC (.str " 1 2")) (aCons (eC (.str " ; the end")) (aCons (eC (.str " #")) (aCons (eC (.str " halt")) (aCons (eC (.str " -1 5 6")) aNil)))))))) (e2 wMod (eV 4) (eC (.int 7)))))) sNil)
    (sSeq (sIf (toT (e2 (wEq false) (eV 3) (eC (.int 1)))) (sRet (eMt rcS wJoin (eC (.str " ")) (aCons (eSl false (eV 2) pNo (pSo (eA (fun ws _ G => bMax2 ws G) (aCons (e2 wSub (e2 wSub (eA (fun ws _ G => bLen ws G) (aCons (eV 2) aNil)) (eC (.int 1))) (e2 wMod (eV 4) (eC (.int 3)))) (aCons (eA (fun ws _ G => bInt ws G) (aCons (e2 wGt (eA (fun ws _ G => bLen ws G) (aCons (eV 2) aNil)) (eC (.int 1))) aNil)) aNil))))) aNil))) sNil)
    (sSeq (sIf (toT (e2 (wEq false) (eV 3) (eC (.int 2)))) (sRet (eMt rcS wJoin (eC (.str " ")) (aCons (e2 (wAdd false) (eLst false (aCons (eCall 2 f__law_other_word (aCons (e2 wIx (eV 2) (eC (.int 0))) (aCons (eV 4) aNil))) aNil)) (eSl false (eV 2) (pSo (eC (.int 1))) pNo)) aNil))) sNil)
    (sSeq (sIf (toT (e2 (wEq false) (eV 3) (eC (.int 3)))) (sRet (eMt rcS wJoin (eC (.str " ")) (aCons (e2 (wAdd false) (eLst false (aCons (e2 (wAdd false) (eMt rcS wUpper (eSl false (e2 wIx (eV 2) (eC (.int 0))) pNo (pSo (eC (.int 1)))) aNil) (eSl false (e2 wIx (eV 2) (eC (.int 0))) (pSo (eC (.int 1))) pNo)) aNil)) (eSl false (eV 2) (pSo (eC (.int 1))) pNo)) aNil))) sNil)
    tl__law_spoiled_2)))) s G := rfl
theorem cut__law_spoiled (s : Sd) (G : Gd) : b__law_spoiled s G = (sSeq (sSet 2 (eMt rcS (wSplit false) (eV 0) (aCons (eC (.str " ")) aNil)))
    (sSeq (sSet 3 (e2 wMod (eV 1) (eC (.int 12))))
    (sSeq (sSet 4 (e2 wDiv (eV 1) (eC (.int 12))))
    (sSeq (sSet 5 (e2 (wAdd false) (eC (.int 1)) (e2 wMod (eV 4) (eA (fun ws _ G => bMax2 ws G) (aCons (eC (.int 1)) (aCons (e2 wSub (eA (fun ws _ G => bLen ws G) (aCons (eV 2) aNil)) (eC (.int 1))) aNil))))))
    tl__law_spoiled_1)))) s G := rfl
/-! lines spoiled -/
theorem jn {ws : List Str} (h : ∀ x ∈ ws, Vis_ x) (hl : ws.length ≤ 20) (G : Gd) : wJoin (.d (.str " ")) [.d (.lst (ws.map D.str))] G = .ok (.d (.str (Txt.join " " ws)), G) := by
  have ts : toStrs ((ws.map D.str).map W.d) = some ws := by rw [List.map_map]; exact toStrs_map
  have g1 : ((ws.map (·.length)).sum + ws.length * (" " : Str).length ≤ 16777216) := by
    have s := sum_le ws 200 fun z hz => (h z hz).2
    have l1 : (" " : Str).length = 1 := by decide +kernel
    have : ws.length * 200 ≤ 20 * 200 := Nat.mul_le_mul_right _ hl
    rw [l1]; omega
  simp only [w_join, asSeq_lst, ts]
  rw [gate_pos g1]
theorem rep_words {A : List Str} {nm x : Str} {b : Nat} (hb : b < A.length) : cutG ((nm :: A).map D.str) none (some (1 + (b : Int))) ++ D.str x :: cutG ((nm :: A).map D.str) (some (1 + (b : Int) + 1)) none = (nm :: A.set b x).map D.str := by
  rw [show (1 + (b : Int)) = ((b + 1 : Nat) : Int) by omega, show (((b + 1 : Nat) : Int) + 1) = ((b + 2 : Nat) : Int) by omega, cut_to, cut_from]
  rw [List.map_cons, List.take_succ_cons, List.drop_succ_cons, List.map_cons, List.map_set, List.set_eq_take_append_cons_drop, if_pos (by simpa using hb)]
  rfl
theorem ins_words {A : List Str} {nm x : Str} {b : Nat} : cutG ((nm :: A).map D.str) none (some (1 + (b : Int))) ++ D.str x :: cutG ((nm :: A).map D.str) (some (1 + (b : Int))) none = (nm :: (A.take b ++ x :: A.drop b)).map D.str := by
  rw [show (1 + (b : Int)) = ((b + 1 : Nat) : Int) by omega, cut_to, cut_from]
  simp
theorem e_app (x : Str) : x ++ ("" : Str) = x := by
  show (⟨x.cps ++ ("" : Str).cps⟩ : Str) = x
  have : ("" : Str).cps = #[] := by decide +kernel
  rw [this, Array.append_empty]
theorem app_e (x : Str) : ("" : Str) ++ x = x := by
  show (⟨("" : Str).cps ++ x.cps⟩ : Str) = x
  have : ("" : Str).cps = #[] := by decide +kernel
  rw [this, Array.empty_append]
theorem ten_of {r : Rw} (ok : r.ok) : r.nm ∈ ten := by
  obtain ⟨sh, e, _⟩ := ok
  have key : ∀ p ∈ kd_SHAPES, p.1 ∈ ten := by decide +kernel
  exact key _ (kd_mem e)
theorem vw_e : Vis_ ("" : Str) ∧ WOk ("" : Str) := ⟨⟨by decide +kernel, by decide +kernel⟩, by decide +kernel, fun h => absurd h (by decide +kernel)⟩
theorem vw_small {w : Str} (i : Int) (h : w = txtI i) (hi : i.natAbs < 10 ^ 60) : Vis_ w ∧ WOk w := by
  subst h
  exact ⟨vis_int hi, by have := (wrd_int hi).1; omega, fun _ => ⟨i, rfl, hi⟩⟩
theorem vw_no {w : Str} (h1 : Vis_ w) (h2 : num w.cps.toList = false) : Vis_ w ∧ WOk w := ⟨h1, by have := h1.2; omega, fun h => by rw [h2] at h; cases h⟩
/-- the last resort -/
theorem last_bad (m : Nat) (hm : m < 4) : ∃ z : Str, ([.str "", .str "", .str " ", .str "  "] : List D)[m]? = some (.str z) ∧ BadL z := by
  have b0 : BadL ("" : Str) := by
    have := bad_empty (ws := []) (fun x hx => by cases hx) (by simp)
    rwa [M.join_one] at this
  have b1 : BadL (" " : Str) := by
    have := bad_empty (ws := [("" : Str)]) (fun x hx => by rw [List.mem_singleton.mp hx]; exact vw_e) (by simp)
    rw [join_cons, M.join_one, e_app, app_e] at this
    exact this
  have b2 : BadL ("  " : Str) := by
    have := bad_empty (ws := [("" : Str), ("" : Str)]) (fun x hx => by
      simp only [List.mem_cons, List.not_mem_nil, or_false] at hx
      rcases hx with h | h <;> rw [h] <;> exact vw_e) (by simp)
    rw [join_cons, join_cons, M.join_one, e_app, app_e] at this
    have e : (" " : Str) ++ (" " : Str) = "  " := by decide +kernel
    rwa [e] at this
  have : m = 0 ∨ m = 1 ∨ m = 2 ∨ m = 3 := by omega
  rcases this with h | h | h | h <;> subst h
  · exact ⟨_, rfl, b0⟩
  · exact ⟨_, rfl, b0⟩
  · exact ⟨_, rfl, b1⟩
  · exact ⟨_, rfl, b2⟩
theorem sp_last {r : Rw} (ok : r.ok) (k c : Int) (hk : (k = 4 ∨ k = 5 ∨ k = 6 ∨ k = 7 ∨ k = 10 ∨ k = 11)) (h : k = 4 ∨ k = 11 ∨ r.ar.length = 0) (x1 x5 x6 x7 x8 x9 : Option W) : ∃ z : Str, endD (tl__law_spoiled_3 [some (.d (.str r.txt)), x1, some (.d (.lst (r.ws.map D.str))), some (.d (.int k)), some (.d (.int c)), x5, x6, x7, x8, x9] []) = .ok (.str z) ∧ BadL z := by
  obtain ⟨m, hm, em⟩ := modN c 4 (by omega)
  have em' : c % 4 = (m : Int) := em
  obtain ⟨z, hz, bz⟩ := last_bad m hm
  refine ⟨z, ?_, bz⟩
  have at_ : ∀ G, wIx (.d (.lst [.str "", .str "", .str " ", .str "  "])) (.d (.int (m : Int))) G = .ok (.d (.str z), G) := fun G => by rw [w_ixL, atI_ofNat, hz]
  have lw : ((r.ws.map D.str).length : Int) = (r.ar.length : Int) + 1 := by simp [Rw.ws]
  obtain ⟨WS, hWS⟩ : ∃ WS, r.ws.map D.str = WS := ⟨_, rfl⟩
  obtain ⟨T, hT⟩ : ∃ T, r.txt = T := ⟨_, rfl⟩
  rw [hWS] at lw ⊢
  rw [hT]
  have lw' : WS.length = r.ar.length + 1 := by omega
  rcases h with h | h | h
  · subst h
    simp -implicitDefEqProofs [utl__law_spoiled_3, em', at_, -w_ixL]
  · subst h
    simp -implicitDefEqProofs [utl__law_spoiled_3, em', at_, -w_ixL]
  · rw [h] at lw lw'
    have lw2 : WS.length = 1 := by omega
    rcases hk with h | h | h | h | h | h <;> subst h <;> simp -implicitDefEqProofs [utl__law_spoiled_3, lw2, em', at_, -w_ixL]
theorem sp3 {r : Rw} (ok : r.ok) (k c : Int) (hk : 4 ≤ k ∧ k ≤ 11) (a : Nat) (ha : a < r.ar.length ∨ (r.ar.length = 0 ∧ a = 0)) (h4 : k = 4 → r.ar.length = 0 ∨ r.nm = "jump") (x1 x6 x7 x8 x9 : Option W) :
    ∃ z : Str, endD (tl__law_spoiled_3 [some (.d (.str r.txt)), x1, some (.d (.lst (r.ws.map D.str))), some (.d (.int k)), some (.d (.int c)), some (.d (.int (1 + (a : Int)))), x6, x7, x8, x9] []) = .ok (.str z) ∧ BadL z := by
  have lb : (" " : Str).length = 1 := by decide +kernel
  have ltx := ok.tlen
  by_cases h8 : k = 8
  · subst h8
    refine ⟨" " ++ r.txt, ?_, ?_⟩
    · have g : (" " : Str).length + r.txt.length ≤ 16777216 := by omega
      obtain ⟨T, hT⟩ : ∃ T, r.txt = T := ⟨_, rfl⟩
      rw [hT] at g ⊢
      simp -implicitDefEqProofs [utl__law_spoiled_3, g]
    · have := bad_empty (ws := r.ws) (fun x hx => ⟨ok.vis x hx, by
        rcases List.mem_cons.mp hx with h | h
        · have hV := ok.vis x hx
          refine ⟨by have := hV.2; omega, fun hn => ?_⟩
          have key : ∀ z ∈ ten, num z.cps.toList = false := by decide +kernel
          rw [h, key _ (ten_of ok)] at hn
          cases hn
        · exact ok.wok x h⟩) (by have := ok.len; simp [Rw.ws]; omega)
      have e : Txt.join " " ("" :: r.ws) = " " ++ r.txt := by
        show Txt.join " " ("" :: r.nm :: r.ar.map txtI) = _
        rw [join_cons, app_e]
        rfl
      rwa [e] at this
  · by_cases h9 : k = 9
    · subst h9
      refine ⟨r.txt ++ " ", ?_, bad_more ok (ex := [("" : Str)]) (by rw [M.join_one, e_app]) (by simp) (fun x hx => by rw [List.mem_singleton.mp hx]; exact vw_e) (by simp)⟩
      have g : r.txt.length + (" " : Str).length ≤ 16777216 := by omega
      obtain ⟨T, hT⟩ : ∃ T, r.txt = T := ⟨_, rfl⟩
      rw [hT] at g ⊢
      simp -implicitDefEqProofs [utl__law_spoiled_3, g]
    · by_cases hn : r.ar.length = 0
      · exact sp_last ok k c (by omega) (.inr (.inr hn)) _ _ _ _ _ _
      · have han : a < r.ar.length := by omega
        have l3 := ok.len
        have hl1 : (r.ar.map txtI).length = r.ar.length := by simp
        have eW : r.ws.map D.str = (r.nm :: r.ar.map txtI).map D.str := rfl
        have lw : (r.ws.map D.str).length = r.ar.length + 1 := by simp [Rw.ws]
        by_cases h10 : k = 10
        · subst h10
          have bw := bad_words (r := r) (ws := (r.ar.map txtI).take a ++ ("" : Str) :: (r.ar.map txtI).drop a) ok (fun x hx => by
            rcases List.mem_append.mp hx with h | h
            · exact ok.vw x (List.mem_of_mem_take h)
            · rcases List.mem_cons.mp h with h | h
              · rw [h]; exact vw_e
              · exact ok.vw x (List.mem_of_mem_drop h)) (by simp; omega) (by simp; omega)
          refine ⟨_, ?_, bw⟩
          have ew := ins_words (A := r.ar.map txtI) (nm := r.nm) (x := ("" : Str)) (b := a)
          have j := jn (ws := r.nm :: ((r.ar.map txtI).take a ++ ("" : Str) :: (r.ar.map txtI).drop a)) (fun x hx => by
            rcases List.mem_cons.mp hx with h | h
            · rw [h]; exact ok.vis _ (List.mem_cons_self ..)
            · rcases List.mem_append.mp h with h | h
              · exact (ok.vw x (List.mem_of_mem_take h)).1
              · rcases List.mem_cons.mp h with h | h
                · rw [h]; exact vw_e.1
                · exact (ok.vw x (List.mem_of_mem_drop h)).1) (by simp; omega)
          obtain ⟨T, hT⟩ : ∃ T, r.txt = T := ⟨_, rfl⟩
          rw [hT]
          obtain ⟨NW, hNW⟩ : ∃ NW, r.nm :: ((r.ar.map txtI).take a ++ ("" : Str) :: (r.ar.map txtI).drop a) = NW := ⟨_, rfl⟩
          rw [hNW] at j ew ⊢
          rw [← eW] at ew
          have lN : (NW.map D.str).length ≤ 20 := by rw [List.length_map, ← hNW]; simp; omega
          have lc : (cutG (r.ws.map D.str) none (some (1 + (a : Int)))).length + 1 + (cutG (r.ws.map D.str) (some (1 + (a : Int))) none).length ≤ 20 := by
            have := congrArg List.length ew
            rw [List.length_append, List.length_cons] at this
            omega
          obtain ⟨WS, hWS⟩ : ∃ WS, r.ws.map D.str = WS := ⟨_, rfl⟩
          rw [hWS] at ew lw lc ⊢
          obtain ⟨C1, hC1⟩ : ∃ C1, cutG WS none (some (1 + (a : Int))) = C1 := ⟨_, rfl⟩
          obtain ⟨C2, hC2⟩ : ∃ C2, cutG WS (some (1 + (a : Int))) none = C2 := ⟨_, rfl⟩
          rw [hC1, hC2] at ew lc
          obtain ⟨NM, hNM⟩ : ∃ NM, NW.map D.str = NM := ⟨_, rfl⟩
          rw [hNM] at ew j
          have g1 : C1.length + 1 ≤ 16777216 := by omega
          have g1' : C1.length ≤ 16777215 := by omega
          have g2 : C1.length + 1 + C2.length ≤ 16777216 := by omega
          have hgt : 1 < WS.length := by omega
          have hI : (1 : Int) < (r.ar.length : Int) + 1 := by omega
          simp -implicitDefEqProofs [utl__law_spoiled_3, lw, hI, hgt, hC1, hC2, g1, g1', g2, ew, j, -w_join]
        · by_cases h567 : k = 5 ∨ k = 6 ∨ k = 7
          · obtain ⟨n, hna⟩ : ∃ n, r.ar[a]? = some n := ⟨_, List.getElem?_eq_getElem han⟩
            have hns := ok.small n (List.mem_of_getElem? hna)
            obtain ⟨z, ez, nz, vz⟩ := badnum_ok hns (c / 5)
            have bw := bad_word ok (w := z) a han vz (vw_no vz nz).2 (.inl nz)
            refine ⟨_, ?_, bw⟩
            have ew := rep_words (A := r.ar.map txtI) (nm := r.nm) (x := z) (b := a) (by omega)
            have j := jn (ws := r.nm :: (r.ar.map txtI).set a z) (fun x hx => by
              rcases List.mem_cons.mp hx with h | h
              · rw [h]; exact ok.vis _ (List.mem_cons_self ..)
              · rcases List.mem_or_eq_of_mem_set h with h | h
                · exact (ok.vw x h).1
                · rw [h]; exact vz) (by simp; omega)
            have ix : ∀ G, wIx (.d (.lst (r.ws.map D.str))) (.d (.int (1 + (a : Int)))) G = .ok (.d (.str (txtI n)), G) := fun G => by
              rw [show (1 + (a : Int)) = ((a + 1 : Nat) : Int) by omega, w_ixL, atI_ofNat]
              simp [Rw.ws, hna]
            obtain ⟨T, hT⟩ : ∃ T, r.txt = T := ⟨_, rfl⟩
            rw [hT]
            obtain ⟨NW, hNW⟩ : ∃ NW, r.nm :: (r.ar.map txtI).set a z = NW := ⟨_, rfl⟩
            rw [hNW] at j ew ⊢
            rw [← eW] at ew
            have lN : (NW.map D.str).length ≤ 20 := by rw [List.length_map, ← hNW]; simp; omega
            have lc : (cutG (r.ws.map D.str) none (some (1 + (a : Int)))).length + 1 + (cutG (r.ws.map D.str) (some (1 + (a : Int) + 1)) none).length ≤ 20 := by
              have := congrArg List.length ew
              rw [List.length_append, List.length_cons] at this
              omega
            obtain ⟨WS, hWS⟩ : ∃ WS, r.ws.map D.str = WS := ⟨_, rfl⟩
            rw [hWS] at ew lw lc ix ⊢
            obtain ⟨C1, hC1⟩ : ∃ C1, cutG WS none (some (1 + (a : Int))) = C1 := ⟨_, rfl⟩
            obtain ⟨C2, hC2⟩ : ∃ C2, cutG WS (some (1 + (a : Int) + 1)) none = C2 := ⟨_, rfl⟩
            rw [hC1, hC2] at ew lc
            obtain ⟨NM, hNM⟩ : ∃ NM, NW.map D.str = NM := ⟨_, rfl⟩
            rw [hNM] at ew j
            have g1 : C1.length + 1 ≤ 16777216 := by omega
            have g1' : C1.length ≤ 16777215 := by omega
            have g2 : C1.length + 1 + C2.length ≤ 16777216 := by omega
            have hgt : 1 < WS.length := by omega
            have hI : (1 : Int) < (r.ar.length : Int) + 1 := by omega
            rcases h567 with h | h | h <;> subst h <;> simp -implicitDefEqProofs [utl__law_spoiled_3, lw, hI, hgt, hC1, hC2, g1, g1', g2, ix, ez, ew, j, -w_join, -w_ixL]
          · have hk4 : k = 4 ∨ k = 11 := by omega
            exact sp_last ok k c (by omega) (by rcases hk4 with h | h; exact .inl h; exact .inr (.inl h)) _ _ _ _ _ _
theorem bstr60 {i : Int} (h : i.natAbs < 10 ^ 60) (G : Gd) : bStr [.d (.int i)] G = .ok (.d (.str (txtI i)), G) := by
  have hl : i.natAbs.log2 < 1920 := by
    rcases Nat.eq_zero_or_pos i.natAbs with h0 | h0
    · rw [h0]; decide
    · refine (Nat.log2_lt (by omega)).mpr (Nat.lt_trans h ?_)
      decide +kernel
  show (if i.natAbs.log2 < 1920 then R.ok (W.d (D.str (Str.ofString (toString i))), G) else R.bad) = _
  rw [if_pos hl]
theorem num9 : (Txt.mul ("9" : Str) 60) = txtI 999999999999999999999999999999999999999999999999999999999999 := by
  have e1 : (Txt.mul ("9" : Str) 60).cps.toList = List.replicate 60 57 := by decide +kernel
  have e2 : (txtI 999999999999999999999999999999999999999999999999999999999999).cps.toList = List.replicate 60 57 := by
    obtain ⟨k, r, e, hd, h0, hs⟩ := int_signs 999999999999999999999999999999999999999999999999999999999999
    have hs' : (txtI 999999999999999999999999999999999999999999999999999999999999).cps.toList = _ := hs
    rw [hs', if_neg (by decide), ← e]
    decide +kernel
  have h := mk_ext (z := Txt.mul ("9" : Str) 60)
  have h2 := mk_ext (z := txtI 999999999999999999999999999999999999999999999999999999999999)
  rw [h, h2, e1, e2]
/-- which boxes stand ahead in a row -/
theorem boxes_of {nm sh : Str} (h : (nm, sh) ∈ kd_SHAPES) (hj : nm ≠ "jump") (hh : nm ≠ "halt") : ∃ many : Nat, 1 ≤ many ∧ many ≤ 3 ∧ many ≤ sh.cps.toList.length ∧ (∀ i, i < many → sh.cps.toList[i]? = some 98) ∧
    wDGet (.ref 0) (.d (.str nm)) none [.dct [(.inr "put", .d (.int 1)), (.inr "add", .d (.int 3)), (.inr "sub", .d (.int 3)), (.inr "more", .d (.int 3)), (.inr "get", .d (.int 2)), (.inr "set", .d (.int 2)), (.inr "when", .d (.int 1)), (.inr "tell", .d (.int 1))]] = .ok (.d (.int (many : Int)), [.dct [(.inr "put", .d (.int 1)), (.inr "add", .d (.int 3)), (.inr "sub", .d (.int 3)), (.inr "more", .d (.int 3)), (.inr "get", .d (.int 2)), (.inr "set", .d (.int 2)), (.inr "when", .d (.int 1)), (.inr "tell", .d (.int 1))]]) := by
  have e : kd_SHAPES = ([("put", "bn"), ("add", "bbb"), ("sub", "bbb"), ("more", "bbb"), ("get", "bb"), ("set", "bb"), ("jump", "r"), ("when", "br"), ("tell", "b"), ("halt", "")] : List (Str × Str)) := rfl
  rw [e] at h
  simp only [List.mem_cons, List.not_mem_nil, or_false, Prod.mk.injEq] at h
  have c1 : ("bn" : Str).cps.toList = [98, 110] := by decide +kernel
  have c2 : ("bbb" : Str).cps.toList = [98, 98, 98] := by decide +kernel
  have c3 : ("bb" : Str).cps.toList = [98, 98] := by decide +kernel
  have c4 : ("br" : Str).cps.toList = [98, 114] := by decide +kernel
  have c5 : ("b" : Str).cps.toList = [98] := by decide +kernel
  rcases h with ⟨h1, h2⟩ | ⟨h1, h2⟩ | ⟨h1, h2⟩ | ⟨h1, h2⟩ | ⟨h1, h2⟩ | ⟨h1, h2⟩ | ⟨h1, h2⟩ | ⟨h1, h2⟩ | ⟨h1, h2⟩ | ⟨h1, h2⟩ <;> subst h1 h2
  · exact ⟨1, by omega, by omega, by rw [c1]; decide, fun i hi => by rw [c1]; match i, hi with | 0, _ => rfl, by simp [wDGet, valW]⟩
  · exact ⟨3, by omega, by omega, by rw [c2]; decide, fun i hi => by rw [c2]; match i, hi with | 0, _ => rfl | 1, _ => rfl | 2, _ => rfl, by simp [wDGet, valW]⟩
  · exact ⟨3, by omega, by omega, by rw [c2]; decide, fun i hi => by rw [c2]; match i, hi with | 0, _ => rfl | 1, _ => rfl | 2, _ => rfl, by simp [wDGet, valW]⟩
  · exact ⟨3, by omega, by omega, by rw [c2]; decide, fun i hi => by rw [c2]; match i, hi with | 0, _ => rfl | 1, _ => rfl | 2, _ => rfl, by simp [wDGet, valW]⟩
  · exact ⟨2, by omega, by omega, by rw [c3]; decide, fun i hi => by rw [c3]; match i, hi with | 0, _ => rfl | 1, _ => rfl, by simp [wDGet, valW]⟩
  · exact ⟨2, by omega, by omega, by rw [c3]; decide, fun i hi => by rw [c3]; match i, hi with | 0, _ => rfl | 1, _ => rfl, by simp [wDGet, valW]⟩
  · exact absurd rfl hj
  · exact ⟨1, by omega, by omega, by rw [c4]; decide, fun i hi => by rw [c4]; match i, hi with | 0, _ => rfl, by simp [wDGet, valW]⟩
  · exact ⟨1, by omega, by omega, by rw [c5]; decide, fun i hi => by rw [c5]; match i, hi with | 0, _ => rfl, by simp [wDGet, valW]⟩
  · exact absurd rfl hh
theorem sp2 {r : Rw} (ok : r.ok) (k c : Int) (hk : 4 ≤ k ∧ k ≤ 11) (a : Nat) (ha : a < r.ar.length ∨ (r.ar.length = 0 ∧ a = 0)) (x1 x6 x7 x8 x9 : Option W) :
    ∃ z : Str, endD (tl__law_spoiled_2 [some (.d (.str r.txt)), x1, some (.d (.lst (r.ws.map D.str))), some (.d (.int k)), some (.d (.int c)), some (.d (.int (1 + (a : Int)))), x6, x7, x8, x9] []) = .ok (.str z) ∧ BadL z := by
  have lw : (r.ws.map D.str).length = r.ar.length + 1 := by simp [Rw.ws]
  have w0 : ∀ G, wIx (.d (.lst (r.ws.map D.str))) (.d (.int 0)) G = .ok (.d (.str r.nm), G) := fun G => by simp [Rw.ws]
  by_cases h4 : k = 4
  · subst h4
    by_cases hn : r.ar.length = 0
    · obtain ⟨z, ez, bz⟩ := sp3 ok 4 c hk a ha (fun _ => .inl hn) x1 x6 x7 x8 x9
      refine ⟨z, ?_, bz⟩
      rw [hn] at lw
      obtain ⟨T, hT⟩ : ∃ T, r.txt = T := ⟨_, rfl⟩
      rw [hT] at ez ⊢
      obtain ⟨WS, hWS⟩ : ∃ WS, r.ws.map D.str = WS := ⟨_, rfl⟩
      rw [hWS] at ez lw ⊢
      simp -implicitDefEqProofs [utl__law_spoiled_2, lw, ez]
    · by_cases hj : r.nm = "jump"
      · obtain ⟨z, ez, bz⟩ := sp3 ok 4 c hk a ha (fun _ => .inr hj) x1 x6 x7 x8 x9
        refine ⟨z, ?_, bz⟩
        rw [hj] at w0
        have hI : (1 : Int) < (r.ar.length : Int) + 1 := by omega
        obtain ⟨T, hT⟩ : ∃ T, r.txt = T := ⟨_, rfl⟩
        rw [hT] at ez ⊢
        obtain ⟨WS, hWS⟩ : ∃ WS, r.ws.map D.str = WS := ⟨_, rfl⟩
        rw [hWS] at ez lw w0 ⊢
        simp -implicitDefEqProofs [utl__law_spoiled_2, lw, hI, w0, ez, -w_ixL]
      · have hh : r.nm ≠ "halt" := fun q => by
          obtain ⟨sh, e1, h2⟩ := id ok
          rw [q] at e1
          have : kd_SHAPES.lookup ("halt" : Str) = some ("" : Str) := by decide +kernel
          rw [this] at e1
          cases e1
          have h3 := h2.len
          have : ("" : Str).cps.toList.length = 0 := by decide +kernel
          omega
        obtain ⟨sh, e1, h2⟩ := id ok
        obtain ⟨many, m1, m2, m3, mb, md⟩ := boxes_of (kd_mem e1) hj hh
        have h2l := h2.len
        obtain ⟨b, hb, eb⟩ := modN (c / 5) many (by omega)
        obtain ⟨more, hmo⟩ : ∃ m, c / 15 % 100000000000000000000000000000000000000000000000000 = m := ⟨_, rfl⟩
        have mo0 : 0 ≤ more ∧ more < 10 ^ 50 := by omega
        obtain ⟨q, hq, eq⟩ := modN c 5 (by omega)
        have eq' : c % 5 = (q : Int) := eq
        have bA := fun G => bstr60 (i := 8 + more) (by omega) G
        have bB := fun G => bstr60 (i := -1 - more) (by omega) G
        obtain ⟨far, n, hfar, hfn, hn60, hout⟩ : ∃ (far : Str) (n : Int), ([.str "8", .str "-1", .str (Txt.mul ("9" : Str) 60), .str (txtI (8 + more)), .str (txtI (-1 - more))] : List D)[q]? = some (.str far) ∧ far = txtI n ∧ n.natAbs < 10 ^ 60 ∧ (n < 0 ∨ 7 < n) := by
          have hq' : q = 0 ∨ q = 1 ∨ q = 2 ∨ q = 3 ∨ q = 4 := by omega
          rcases hq' with h | h | h | h | h <;> subst h
          · exact ⟨_, 8, rfl, by decide +kernel, by decide, .inr (by decide)⟩
          · exact ⟨_, -1, rfl, by decide +kernel, by decide, .inl (by decide)⟩
          · exact ⟨_, _, rfl, num9, by decide, .inr (by decide)⟩
          · exact ⟨_, 8 + more, rfl, rfl, by omega, .inr (by omega)⟩
          · exact ⟨_, -1 - more, rfl, rfl, by omega, .inl (by omega)⟩
        have vf := vw_small n hfn hn60
        have hbn : b < r.ar.length := by omega
        have bw := bad_word ok (w := far) b hbn vf.1 vf.2 (.inr ⟨sh, e1, mb b hb, n, by rw [hfn]; exact int_read n hn60, hout⟩)
        refine ⟨_, ?_, bw⟩
        have l3 := ok.len
        have eW : r.ws.map D.str = (r.nm :: r.ar.map txtI).map D.str := rfl
        have ew := rep_words (A := r.ar.map txtI) (nm := r.nm) (x := far) (b := b) (by simpa using hbn)
        have j := jn (ws := r.nm :: (r.ar.map txtI).set b far) (fun x hx => by
          rcases List.mem_cons.mp hx with h | h
          · rw [h]; exact ok.vis _ (List.mem_cons_self ..)
          · rcases List.mem_or_eq_of_mem_set h with h | h
            · exact (ok.vw x h).1
            · rw [h]; exact vf.1) (by simp; omega)
        have at_ : ∀ G, wIx (.d (.lst [.str "8", .str "-1", .str (Txt.mul ("9" : Str) 60), .str (txtI (8 + more)), .str (txtI (-1 - more))])) (.d (.int (q : Int))) G = .ok (.d (.str far), G) := fun G => by rw [w_ixL, atI_ofNat, hfar]
        have m60 : MulOk ("9" : Str) 60 := by decide +kernel
        obtain ⟨T, hT⟩ : ∃ T, r.txt = T := ⟨_, rfl⟩
        rw [hT]
        obtain ⟨NW, hNW⟩ : ∃ NW, r.nm :: (r.ar.map txtI).set b far = NW := ⟨_, rfl⟩
        rw [hNW] at j ew ⊢
        rw [← eW] at ew
        have lN : (NW.map D.str).length ≤ 20 := by rw [List.length_map, ← hNW]; simp; omega
        have lc : (cutG (r.ws.map D.str) none (some (1 + (b : Int)))).length + 1 + (cutG (r.ws.map D.str) (some (1 + (b : Int) + 1)) none).length ≤ 20 := by
          have := congrArg List.length ew
          rw [List.length_append, List.length_cons] at this
          omega
        obtain ⟨WS, hWS⟩ : ∃ WS, r.ws.map D.str = WS := ⟨_, rfl⟩
        rw [hWS] at ew lw lc w0 ⊢
        obtain ⟨C1, hC1⟩ : ∃ C1, cutG WS none (some (1 + (b : Int))) = C1 := ⟨_, rfl⟩
        obtain ⟨C2, hC2⟩ : ∃ C2, cutG WS (some (1 + (b : Int) + 1)) none = C2 := ⟨_, rfl⟩
        rw [hC1, hC2] at ew lc
        obtain ⟨NM, hNM⟩ : ∃ NM, NW.map D.str = NM := ⟨_, rfl⟩
        rw [hNM] at ew j
        obtain ⟨FA, hFA⟩ : ∃ FA, txtI (8 + more) = FA := ⟨_, rfl⟩
        obtain ⟨FB, hFB⟩ : ∃ FB, txtI (-1 - more) = FB := ⟨_, rfl⟩
        obtain ⟨FC, hFC⟩ : ∃ FC, Txt.mul ("9" : Str) 60 = FC := ⟨_, rfl⟩
        rw [hFA] at bA
        rw [hFB] at bB
        rw [hFA, hFB, hFC] at at_
        have g1 : C1.length + 1 ≤ 16777216 := by omega
        have g1' : C1.length ≤ 16777215 := by omega
        have g2 : C1.length + 1 + C2.length ≤ 16777216 := by omega
        have hI : (1 : Int) < (r.ar.length : Int) + 1 := by omega
        have pm : (0 : Int) < (many : Int) := by omega
        have pm' : 0 < many := by omega
        simp -implicitDefEqProofs [utl__law_spoiled_2, lw, hI, w0, hj, eDisp, prsM, mergeW, putW, md, eb, pm, pm', hmo, gate_pos m60, hFC, bA, bB, eq', at_, hC1, hC2, g1, g1', g2, ew, j, -w_join, -w_ixL]
  · obtain ⟨z, ez, bz⟩ := sp3 ok k c hk a ha (fun h => absurd h h4) x1 x6 x7 x8 x9
    refine ⟨z, ?_, bz⟩
    obtain ⟨T, hT⟩ : ∃ T, r.txt = T := ⟨_, rfl⟩
    rw [hT] at ez ⊢
    obtain ⟨WS, hWS⟩ : ∃ WS, r.ws.map D.str = WS := ⟨_, rfl⟩
    rw [hWS] at ez ⊢
    simp -implicitDefEqProofs [utl__law_spoiled_2, h4, ez]
theorem more_ok (m : Nat) (hm : m < 7) : ∃ e : Str, ([.str " 0", .str " 7", .str " 1 2", .str " ; the end", .str " #", .str " halt", .str " -1 5 6"] : List D)[m]? = some (.str e) ∧ e.length ≤ 20 ∧ ∀ r : Rw, r.ok → BadL (r.txt ++ e) := by
  have no : ∀ x ∈ ([";", "the", "end", "#", "halt"] : List Str), (∀ c ∈ x.cps.toList, 33 ≤ c) ∧ x.length ≤ 200 ∧ num x.cps.toList = false := by decide +kernel
  have nv : ∀ x ∈ ([";", "the", "end", "#", "halt"] : List Str), Vis_ x ∧ WOk x := fun x hx => vw_no ⟨(no x hx).1, (no x hx).2.1⟩ (no x hx).2.2
  have v0 : Vis_ ("0" : Str) ∧ WOk ("0" : Str) := vw_small 0 (by decide +kernel) (by decide)
  have v7 : Vis_ ("7" : Str) ∧ WOk ("7" : Str) := vw_small 7 (by decide +kernel) (by decide)
  have v1 : Vis_ ("1" : Str) ∧ WOk ("1" : Str) := vw_small 1 (by decide +kernel) (by decide)
  have v2 : Vis_ ("2" : Str) ∧ WOk ("2" : Str) := vw_small 2 (by decide +kernel) (by decide)
  have v5 : Vis_ ("5" : Str) ∧ WOk ("5" : Str) := vw_small 5 (by decide +kernel) (by decide)
  have v6 : Vis_ ("6" : Str) ∧ WOk ("6" : Str) := vw_small 6 (by decide +kernel) (by decide)
  have vm : Vis_ ("-1" : Str) ∧ WOk ("-1" : Str) := vw_small (-1) (by decide +kernel) (by decide)
  have q : m = 0 ∨ m = 1 ∨ m = 2 ∨ m = 3 ∨ m = 4 ∨ m = 5 ∨ m = 6 := by omega
  rcases q with q | q | q | q | q | q | q <;> subst q
  · exact ⟨_, rfl, by decide +kernel, fun r ok => bad_more ok (ex := ["0"]) (by decide +kernel) (by simp) (fun x hx => by rw [List.mem_singleton.mp hx]; exact v0) (by simp)⟩
  · exact ⟨_, rfl, by decide +kernel, fun r ok => bad_more ok (ex := ["7"]) (by decide +kernel) (by simp) (fun x hx => by rw [List.mem_singleton.mp hx]; exact v7) (by simp)⟩
  · exact ⟨_, rfl, by decide +kernel, fun r ok => bad_more ok (ex := ["1", "2"]) (by decide +kernel) (by simp) (fun x hx => by
      simp only [List.mem_cons, List.not_mem_nil, or_false] at hx
      rcases hx with h | h <;> rw [h]
      · exact v1
      · exact v2) (by simp)⟩
  · exact ⟨_, rfl, by decide +kernel, fun r ok => bad_more ok (ex := [";", "the", "end"]) (by decide +kernel) (by simp) (fun x hx => by
      simp only [List.mem_cons, List.not_mem_nil, or_false] at hx
      rcases hx with h | h | h <;> rw [h] <;> exact nv _ (by simp)) (by simp)⟩
  · exact ⟨_, rfl, by decide +kernel, fun r ok => bad_more ok (ex := ["#"]) (by decide +kernel) (by simp) (fun x hx => by rw [List.mem_singleton.mp hx]; exact nv _ (by simp)) (by simp)⟩
  · exact ⟨_, rfl, by decide +kernel, fun r ok => bad_more ok (ex := ["halt"]) (by decide +kernel) (by simp) (fun x hx => by rw [List.mem_singleton.mp hx]; exact nv _ (by simp)) (by simp)⟩
  · exact ⟨_, rfl, by decide +kernel, fun r ok => bad_more ok (ex := ["-1", "5", "6"]) (by decide +kernel) (by simp) (fun x hx => by
      simp only [List.mem_cons, List.not_mem_nil, or_false] at hx
      rcases hx with h | h | h <;> rw [h]
      · exact vm
      · exact v5
      · exact v6) (by simp)⟩
theorem fewer {r : Rw} (ok : r.ok) (v : Nat) (h0 : r.ar.length = 0 → v = 0) (h1 : 1 ≤ r.ar.length → 1 ≤ v ∧ v ≤ r.ar.length) : ∃ z : Str, (∀ G, wJoin (.d (.str " ")) [.d (.lst (cutG (r.ws.map D.str) none (some (v : Int))))] G = .ok (.d (.str z), G)) ∧ BadL z := by
  have l3 := ok.len
  by_cases hn : r.ar.length = 0
  · have := h0 hn
    subst this
    refine ⟨Txt.join " " [], fun G => ?_, ?_⟩
    · have j := jn (ws := []) (by simp) (by simp) G
      rw [cut_to]
      exact j
    · have := bad_empty (ws := []) (fun x hx => by cases hx) (by simp)
      rwa [M.join_one] at this
  · obtain ⟨a, b⟩ := h1 (by omega)
    obtain ⟨u, rfl⟩ : ∃ u, v = u + 1 := ⟨v - 1, by omega⟩
    refine ⟨Txt.join " " (r.nm :: (r.ar.map txtI).take u), fun G => ?_, bad_words ok (fun x hx => ok.vw x (List.mem_of_mem_take hx)) (by simp; omega) (by simp; omega)⟩
    have j := jn (ws := r.nm :: (r.ar.map txtI).take u) (fun x hx => by
      rcases List.mem_cons.mp hx with h | h
      · rw [h]; exact ok.vis _ (List.mem_cons_self ..)
      · exact (ok.vw x (List.mem_of_mem_take h)).1) (by simp; omega) G
    rw [cut_to, ← List.map_take]
    exact j
theorem heads {r : Rw} (ok : r.ok) {z : Str} (hz : kd_SHAPES.lookup z = none) (vz : Vis_ z) : ∃ x : Str, (∀ G, wJoin (.d (.str " ")) [.d (.lst (D.str z :: cutG (r.ws.map D.str) (some 1) none))] G = .ok (.d (.str x), G)) ∧ BadL x := by
  have l3 := ok.len
  refine ⟨_, fun G => ?_, bad_head ok hz vz⟩
  have j := jn (ws := z :: r.ar.map txtI) (fun x hx => by
    rcases List.mem_cons.mp hx with h | h
    · rw [h]; exact vz
    · exact (ok.vw x h).1) (by simp; omega) G
  have e : cutG (r.ws.map D.str) (some 1) none = (r.ar.map txtI).map D.str := by
    rw [show (1 : Int) = ((1 : Nat) : Int) by rfl, cut_from]
    simp [Rw.ws]
  rw [e]
  exact j
theorem uppers : ∀ nm ∈ ten, kd_SHAPES.lookup (Txt.upper (cutS nm none (some 1)) ++ cutS nm (some 1) none) = none ∧ Vis_ (Txt.upper (cutS nm none (some 1)) ++ cutS nm (some 1) none) ∧ (cutS nm none (some 1)).length ≤ 1 ∧ (Txt.upper (cutS nm none (some 1))).length ≤ 3 ∧ (cutS nm (some 1) none).length ≤ 3 := by
  have key : ∀ nm ∈ ten, kd_SHAPES.lookup (Txt.upper (cutS nm none (some 1)) ++ cutS nm (some 1) none) = none ∧ ((∀ c ∈ (Txt.upper (cutS nm none (some 1)) ++ cutS nm (some 1) none).cps.toList, 33 ≤ c) ∧ (Txt.upper (cutS nm none (some 1)) ++ cutS nm (some 1) none).length ≤ 200) ∧ (cutS nm none (some 1)).length ≤ 1 ∧ (Txt.upper (cutS nm none (some 1))).length ≤ 3 ∧ (cutS nm (some 1) none).length ≤ 3 := by decide +kernel
  exact key
theorem sp1 {r : Rw} (ok : r.ok) (k c : Int) (hk : 0 ≤ k ∧ k ≤ 11) (a : Nat) (ha : a < r.ar.length ∨ (r.ar.length = 0 ∧ a = 0)) (x1 x6 x7 x8 x9 : Option W) :
    ∃ z : Str, endD (tl__law_spoiled_1 [some (.d (.str r.txt)), x1, some (.d (.lst (r.ws.map D.str))), some (.d (.int k)), some (.d (.int c)), some (.d (.int (1 + (a : Int)))), x6, x7, x8, x9] []) = .ok (.str z) ∧ BadL z := by
  have lw : (r.ws.map D.str).length = r.ar.length + 1 := by simp [Rw.ws]
  have w0 : ∀ G, wIx (.d (.lst (r.ws.map D.str))) (.d (.int 0)) G = .ok (.d (.str r.nm), G) := fun G => by simp [Rw.ws]
  have tl := ok.tlen
  have l3 := ok.len
  by_cases h4 : 4 ≤ k
  · obtain ⟨z, ez, bz⟩ := sp2 ok k c ⟨h4, hk.2⟩ a ha x1 x6 x7 x8 x9
    refine ⟨z, ?_, bz⟩
    obtain ⟨T, hT⟩ : ∃ T, r.txt = T := ⟨_, rfl⟩
    rw [hT] at ez ⊢
    obtain ⟨WS, hWS⟩ : ∃ WS, r.ws.map D.str = WS := ⟨_, rfl⟩
    rw [hWS] at ez ⊢
    have k0 : ¬ k = 0 := by omega
    have k1 : ¬ k = 1 := by omega
    have k2 : ¬ k = 2 := by omega
    have k3 : ¬ k = 3 := by omega
    simp -implicitDefEqProofs [utl__law_spoiled_1, k0, k1, k2, k3, ez]
  · have hc : k = 0 ∨ k = 1 ∨ k = 2 ∨ k = 3 := by omega
    rcases hc with h | h | h | h <;> subst h
    · obtain ⟨m, hm, em⟩ := modN c 7 (by omega)
      have em' : c % 7 = (m : Int) := em
      obtain ⟨e, he, le, be⟩ := more_ok m hm
      refine ⟨r.txt ++ e, ?_, be r ok⟩
      have at_ : ∀ G, wIx (.d (.lst [.str " 0", .str " 7", .str " 1 2", .str " ; the end", .str " #", .str " halt", .str " -1 5 6"])) (.d (.int (m : Int))) G = .ok (.d (.str e), G) := fun G => by rw [w_ixL, atI_ofNat, he]
      have g : r.txt.length + e.length ≤ 16777216 := by omega
      obtain ⟨T, hT⟩ : ∃ T, r.txt = T := ⟨_, rfl⟩
      rw [hT] at g ⊢
      obtain ⟨WS, hWS⟩ : ∃ WS, r.ws.map D.str = WS := ⟨_, rfl⟩
      rw [hWS]
      simp -implicitDefEqProofs [utl__law_spoiled_1, em', at_, g, -w_ixL]
    · obtain ⟨m, hm, em⟩ := modN c 3 (by omega)
      have em' : c % 3 = (m : Int) := em
      have fw := fewer ok
      obtain ⟨n, hn⟩ : ∃ n, r.ar.length = n := ⟨_, rfl⟩
      rw [hn] at fw lw l3
      obtain ⟨T, hT⟩ : ∃ T, r.txt = T := ⟨_, rfl⟩
      rw [hT]
      obtain ⟨WS, hWS⟩ : ∃ WS, r.ws.map D.str = WS := ⟨_, rfl⟩
      rw [hWS] at fw lw ⊢
      obtain ⟨z, ez, bz⟩ := fw (if n = 0 then 0 else max (n - m) 1) (fun h => by rw [if_pos h]) (fun h => by rw [if_neg (by omega)]; omega)
      refine ⟨z, ?_, bz⟩
      have hm' : m = 0 ∨ m = 1 ∨ m = 2 := by omega
      have hn' : n = 0 ∨ n = 1 ∨ n = 2 ∨ n = 3 := by omega
      clear hn ha w0 tl fw ok
      rcases hm' with h | h | h <;> subst h <;> rcases hn' with h | h | h | h <;> subst h <;> simp [-w_join] at ez <;> simp -implicitDefEqProofs [utl__law_spoiled_1, lw, em', ez, -w_join]
    · obtain ⟨z, ez, kz, vz⟩ := ow_ok (ten_of ok) c
      obtain ⟨x, ex, bx⟩ := heads ok kz vz
      refine ⟨x, ?_, bx⟩
      have g : (cutG (r.ws.map D.str) (some 1) none).length ≤ 16777215 := by
        rw [show (1 : Int) = ((1 : Nat) : Int) by rfl, cut_from]
        simp [Rw.ws]; omega
      obtain ⟨T, hT⟩ : ∃ T, r.txt = T := ⟨_, rfl⟩
      rw [hT]
      obtain ⟨WS, hWS⟩ : ∃ WS, r.ws.map D.str = WS := ⟨_, rfl⟩
      rw [hWS] at w0 lw ex g ⊢
      obtain ⟨C, hC⟩ : ∃ C, cutG WS (some 1) none = C := ⟨_, rfl⟩
      rw [hC] at ex g
      have g1 : 1 + C.length ≤ 16777216 := by omega
      have g2 : C.length + 1 ≤ 16777216 := by omega
      simp -implicitDefEqProofs [utl__law_spoiled_1, w0, ez, hC, ex, g, g1, g2, -w_join, -w_ixL]
    · obtain ⟨ku, vu, u1, u2, u3⟩ := uppers r.nm (ten_of ok)
      obtain ⟨x, ex, bx⟩ := heads ok ku vu
      refine ⟨x, ?_, bx⟩
      have g : (cutG (r.ws.map D.str) (some 1) none).length ≤ 16777215 := by
        rw [show (1 : Int) = ((1 : Nat) : Int) by rfl, cut_from]
        simp [Rw.ws]; omega
      obtain ⟨T, hT⟩ : ∃ T, r.txt = T := ⟨_, rfl⟩
      rw [hT]
      obtain ⟨WS, hWS⟩ : ∃ WS, r.ws.map D.str = WS := ⟨_, rfl⟩
      rw [hWS] at w0 lw ex g ⊢
      obtain ⟨C, hC⟩ : ∃ C, cutG WS (some 1) none = C := ⟨_, rfl⟩
      rw [hC] at ex g
      obtain ⟨A, hA⟩ : ∃ A, cutS r.nm none (some 1) = A := ⟨_, rfl⟩
      obtain ⟨B, hB⟩ : ∃ B, cutS r.nm (some 1) none = B := ⟨_, rfl⟩
      rw [hA, hB] at ex
      rw [hA] at u1 u2
      rw [hB] at u3
      have n1 : A.length ≤ 5592405 := by omega
      have n0 : r.nm.length ≤ 16777216 := by
        have key : ∀ z ∈ ten, z.length ≤ 4 := by decide +kernel
        have := key _ (ten_of ok)
        omega
      have ub : ∀ G, wUpper (.d (.str A)) [] G = .ok (.d (.str (Txt.upper A)), G) := fun G => by rw [M.w_upper, gate_pos n1]
      obtain ⟨U, hU⟩ : ∃ U, Txt.upper A = U := ⟨_, rfl⟩
      rw [hU] at ub ex u2
      have g0 : U.length + B.length ≤ 16777216 := by omega
      have g1 : 1 + C.length ≤ 16777216 := by omega
      have g2 : C.length + 1 ≤ 16777216 := by omega
      simp -implicitDefEqProofs [utl__law_spoiled_1, n0, w0, hA, hB, ub, hC, ex, g, g0, g1, g2, -w_join, -w_ixL, -M.w_upper]
theorem spoiled_ok {r : Rw} (ok : r.ok) (c : Int) : ∃ z : Str, f__law_spoiled [.str r.txt, .int c] = .ok (.str z) ∧ BadL z := by
  have tl := ok.tlen
  have sp := ok.split
  have esp : ∀ G, wSplit false (.d (.str r.txt)) [.d (.str " ")] G = .ok (.d (.lst (r.ws.map D.str)), G) := fun G => by
    rw [w_split, sp]
    have l0 : ((" " : Str).length == 0) = false := by decide +kernel
    rw [gate_pos ⟨l0, by show _ + 2 ≤ 16777216; omega⟩]
    have td : toDs ((r.ws.map D.str).map W.d) = some (r.ws.map D.str) := toDs_map _
    have e2 : (r.ws.map fun y => W.d (.str y)) = (r.ws.map D.str).map W.d := by simp
    rw [e2]
    simp only [newL, td, Bool.false_eq_true, if_false]
  have lw : (r.ws.map D.str).length = r.ar.length + 1 := by simp [Rw.ws]
  obtain ⟨a, ha, ea⟩ := modN (c / 12) (max 1 r.ar.length) (by omega)
  have hk : 0 ≤ c % 12 ∧ c % 12 ≤ 11 := by omega
  obtain ⟨z, ez, bz⟩ := sp1 ok (c % 12) (c / 12) hk a (by omega) (some (.d (.int c))) none none none none
  refine ⟨z, ?_, bz⟩
  rw [o__law_spoiled, cut__law_spoiled]
  have e5 : (if (1 : Int) < (r.ar.length : Int) then (r.ar.length : Int) else 1) = ((max 1 r.ar.length : Nat) : Int) := by split <;> omega
  obtain ⟨T, hT⟩ : ∃ T, r.txt = T := ⟨_, rfl⟩
  rw [hT] at esp ez ⊢
  obtain ⟨WS, hWS⟩ : ∃ WS, r.ws.map D.str = WS := ⟨_, rfl⟩
  rw [hWS] at esp ez lw
  obtain ⟨M, hM⟩ : ∃ M, max 1 r.ar.length = M := ⟨_, rfl⟩
  rw [hM] at ea e5 ha
  have hM0 : 0 < M := by omega
  have hM1 : (0 : Int) < (M : Int) := by omega
  simp -implicitDefEqProofs [esp, lw, e5, ea, hM0, hM1, ez]
/-! lines drawn -/
theorem mixed_ex (c : Int) (k : Nat) (hk : k < 1000) : ∃ m : Int, f__law_mixed [.int c, .int k] = .ok (.int m) := by
  have m1 : mulOk 6007 (k : Int) = true := mulOk_l (by omega)
  have m2 : mulOk (6007 * (k : Int)) (k : Int) = true := mulOk_l (by omega)
  have m3 : ∀ x : Int, mulOk (c % 1000003 + 7) x = true := fun x => mulOk_l (by omega)
  simp -implicitDefEqProofs [o__law_mixed, b__law_mixed, m1, m2, m3]
theorem number_ex (c : Int) : ∃ m : Int, f__law_number [.int c] = .ok (.int m) ∧ m.natAbs < 10 ^ 60 := by
  have lp := forM_N (g := gN 2) (b := l__law_number_1) (ws := rngW 0 (c % 7).toNat) (fun i s G => ∃ (n : Int) (y : Option W), s = [some (.d (.int c)), some (.d (.int n)), y] ∧ G = []) (fun i w hw s G ⟨n, y, h1, h2⟩ => by
    subst h1 h2
    obtain ⟨hi, rfl⟩ := rng_at hw
    obtain ⟨m, em⟩ := mixed_ex (c / 7) i (by omega)
    have m1 : mulOk n 10000000000 = true := mulOk_r (by omega)
    have m2 : mulOk m 5 = true := mulOk_r (by omega)
    simp -implicitDefEqProofs [ul__law_number_1, em, m1, m2]) (s := [some (.d (.int c)), some (.d (.int 0)), none]) (G := []) ⟨0, none, rfl, rfl⟩
  obtain ⟨s, G, e, n, y, rfl, rfl⟩ := lp
  have h1 : (-4611686018427387904 : Int) ≤ c % 7 := by omega
  have h2 : c % 7 < 4611686018427387904 := by omega
  have key : ∃ m : Int, f__law_number [.int c] = .ok (.int m) ∧ (m = n % 10 ^ 60 ∨ m = - (n % 10 ^ 60) ∨ m = c / 56 % 21 - 10) := by
    by_cases c1 : c / 7 % 2 = 1 <;> by_cases c2 : c / 14 % 4 = 1 <;> simp -implicitDefEqProofs [o__law_number, b__law_number, h1, h2, e, c1, c2]
    all_goals simp
  obtain ⟨m, em, hm⟩ := key
  refine ⟨m, em, ?_⟩
  rcases hm with h | h | h <;> omega
theorem cell_at (ns : List Int) (k : Nat) : ∃ m : Int, f__law_cell_at [.scr ns, .int k] = .ok (.int m) := by
  by_cases h : k < ns.length
  · exact ⟨ns[k], by simp [o__law_cell_at, b__law_cell_at, h, atI_ofNat]⟩
  · exact ⟨0, by simp [o__law_cell_at, b__law_cell_at, h]⟩
theorem ok_of {nm sh : Str} {ks : List Nat} {ar : List Int} (h1 : kd_SHAPES.lookup nm = some sh) (h2 : sh.cps.toList = ks) (h3 : argOk ks ar) : Rw.ok ⟨nm, ar⟩ := ⟨sh, h1, by rw [h2]; exact h3⟩
theorem box_ok {a : Nat} (h : a < 8) : (0 : Int) ≤ a ∧ (a : Int) ≤ 7 ∧ (a : Int).natAbs < 10 ^ 60 := ⟨by omega, by omega, by omega⟩
theorem ok_bbb {nm : Str} {a b c : Nat} (h1 : kd_SHAPES.lookup nm = some "bbb") (ha : a < 8) (hb : b < 8) (hc : c < 8) : Rw.ok ⟨nm, [(a : Int), (b : Int), (c : Int)]⟩ :=
  ok_of (ks := [98, 98, 98]) h1 (by decide +kernel) ⟨fun _ => ⟨(box_ok ha).1, (box_ok ha).2.1⟩, (box_ok ha).2.2, fun _ => ⟨(box_ok hb).1, (box_ok hb).2.1⟩, (box_ok hb).2.2, fun _ => ⟨(box_ok hc).1, (box_ok hc).2.1⟩, (box_ok hc).2.2, trivial⟩
theorem ok_bb {nm : Str} {a b : Nat} (h1 : kd_SHAPES.lookup nm = some "bb") (ha : a < 8) (hb : b < 8) : Rw.ok ⟨nm, [(a : Int), (b : Int)]⟩ :=
  ok_of (ks := [98, 98]) h1 (by decide +kernel) ⟨fun _ => ⟨(box_ok ha).1, (box_ok ha).2.1⟩, (box_ok ha).2.2, fun _ => ⟨(box_ok hb).1, (box_ok hb).2.1⟩, (box_ok hb).2.2, trivial⟩
theorem ok_put {a : Nat} {n : Int} (h : a < 8) (hn : n.natAbs < 10 ^ 60) : Rw.ok ⟨"put", [(a : Int), n]⟩ := ok_of (sh := "bn") (ks := [98, 110]) (by decide +kernel) (by decide +kernel) ⟨fun _ => ⟨(box_ok h).1, (box_ok h).2.1⟩, (box_ok h).2.2, fun q => absurd q (by decide), hn, trivial⟩
theorem ok_jump {k : Int} (hk : k.natAbs < 10 ^ 60) : Rw.ok ⟨"jump", [k]⟩ := ok_of (sh := "r") (ks := [114]) (by decide +kernel) (by decide +kernel) ⟨fun q => absurd q (by decide), hk, trivial⟩
theorem ok_when {a : Nat} {k : Int} (h : a < 8) (hk : k.natAbs < 10 ^ 60) : Rw.ok ⟨"when", [(a : Int), k]⟩ := ok_of (sh := "br") (ks := [98, 114]) (by decide +kernel) (by decide +kernel) ⟨fun _ => ⟨(box_ok h).1, (box_ok h).2.1⟩, (box_ok h).2.2, fun q => absurd q (by decide), hk, trivial⟩
theorem ok_tell {a : Nat} (h : a < 8) : Rw.ok ⟨"tell", [(a : Int)]⟩ := ok_of (sh := "b") (ks := [98]) (by decide +kernel) (by decide +kernel) ⟨fun _ => ⟨(box_ok h).1, (box_ok h).2.1⟩, (box_ok h).2.2, trivial⟩
theorem ok_halt : Rw.ok ⟨"halt", []⟩ := ok_of (sh := "") (ks := []) (by decide +kernel) (by decide +kernel) trivial
theorem j1 (a b : Str) : Txt.join " " [a, b] = a ++ " " ++ b := by rw [join_cons, M.join_one]
theorem j2 (a b c : Str) : Txt.join " " [a, b, c] = a ++ " " ++ b ++ " " ++ c := by rw [join_cons, join_cons, M.join_one]; simp only [str_assoc]
theorem line_comp (L : List (Int × Str)) (h : ∀ p ∈ L, ∀ G, bStr [.d (.int p.1)] G = .ok (.d (.str p.2), G)) (hl : L.length ≤ 100) (x0 x1 x2 x3 x4 x5 x6 x7 : Option W) (G : Gd) :
    compM 7 tYesM l__law_line_1 (L.map fun p => W.d (.int p.1)) [] [x0, x1, x2, x3, x4, x5, x6, x7] G = .ok (L.map fun p => W.d (.str p.2), G) := by
  obtain ⟨bs, c, l1, p1⟩ := compM_T0 D.str (P := fun i b => (L[i]?).map (·.2) = some b) (j := 7) (e := l__law_line_1) (s := [x0, x1, x2, x3, x4, x5, x6, x7]) (G := G) (ws := L.map fun p => W.d (.int p.1)) (fun i w hw => by
    simp only [List.getElem?_map, Option.map_eq_some_iff] at hw
    obtain ⟨p, hp, rfl⟩ := hw
    refine ⟨p.2, ?_, by rw [hp]; rfl⟩
    simp -implicitDefEqProofs [ul__law_line_1, h p (List.mem_of_getElem? hp) G]) (by simp; omega)
  rw [c]
  have : bs = L.map (·.2) := List.ext_getElem? fun i => by
    rw [List.getElem?_map]
    rcases Nat.lt_or_ge i bs.length with q | q
    · rw [p1 i bs[i] (List.getElem?_eq_getElem q), List.getElem?_eq_getElem q]
    · rw [List.getElem?_eq_none q, List.getElem?_eq_none (by rw [l1] at q; simpa using q)]
      rfl
  rw [this]
  simp
theorem line_ex (c : Int) (many : Nat) (hm : 0 < many) (hm2 : many ≤ 1000) : ∃ r : Rw, f__law_line [.int c, .int many] = .ok (.str r.txt) ∧ r.ok ∧ ∀ p, r.lead = some p → 0 ≤ p ∧ p < many := by
  obtain ⟨a, ha, ea⟩ := mod8 (c / 11)
  obtain ⟨b, hb, eb⟩ := mod8 (c / 11 / 8)
  obtain ⟨d, hd, ed⟩ := mod8 (c / 11 / 64)
  obtain ⟨t1, ht1, et1⟩ := modN (c / 11) many hm
  obtain ⟨t2, ht2, et2⟩ := modN (c / 11 / 8) many hm
  obtain ⟨n, en, hn⟩ := number_ex (c / 11 / 8)
  have sa := fun G => bstr60 (box_ok ha).2.2 G
  have sb := fun G => bstr60 (box_ok hb).2.2 G
  have sd := fun G => bstr60 (box_ok hd).2.2 G
  have sn := fun G => bstr60 hn G
  have s1 := fun G => bstr60 (i := (t1 : Int)) (by omega) G
  have s2 := fun G => bstr60 (i := (t2 : Int)) (by omega) G
  have la : (txtI (a : Int)).length ≤ 61 := int_tlen (box_ok ha).2.2
  have lb : (txtI (b : Int)).length ≤ 61 := int_tlen (box_ok hb).2.2
  have ld : (txtI (d : Int)).length ≤ 61 := int_tlen (box_ok hd).2.2
  have ln : (txtI n).length ≤ 61 := int_tlen hn
  have l1 : (txtI (t1 : Int)).length ≤ 61 := int_tlen (by omega)
  have l2 : (txtI (t2 : Int)).length ≤ 61 := int_tlen (by omega)
  have hw : c % 11 = 0 ∨ c % 11 = 1 ∨ c % 11 = 2 ∨ c % 11 = 3 ∨ c % 11 = 4 ∨ c % 11 = 5 ∨ c % 11 = 6 ∨ c % 11 = 7 ∨ c % 11 = 8 ∨ c % 11 = 9 ∨ c % 11 = 10 := by omega
  have key : ∃ r ∈ ([⟨"put", [(a : Int), n]⟩, ⟨"add", [(a : Int), b, d]⟩, ⟨"sub", [(a : Int), b, d]⟩, ⟨"more", [(a : Int), b, d]⟩, ⟨"get", [(a : Int), b]⟩, ⟨"set", [(a : Int), b]⟩, ⟨"jump", [(t1 : Int)]⟩, ⟨"when", [(a : Int), t2]⟩, ⟨"tell", [(a : Int)]⟩, ⟨"halt", []⟩] : List Rw), f__law_line [.int c, .int many] = .ok (.str r.txt) := by
    obtain ⟨A, hA⟩ : ∃ A, txtI (a : Int) = A := ⟨_, rfl⟩
    obtain ⟨B, hB⟩ : ∃ B, txtI (b : Int) = B := ⟨_, rfl⟩
    obtain ⟨C, hC⟩ : ∃ C, txtI (d : Int) = C := ⟨_, rfl⟩
    obtain ⟨N, hN⟩ : ∃ N, txtI n = N := ⟨_, rfl⟩
    obtain ⟨T1, hT1⟩ : ∃ T1, txtI (t1 : Int) = T1 := ⟨_, rfl⟩
    obtain ⟨T2, hT2⟩ : ∃ T2, txtI (t2 : Int) = T2 := ⟨_, rfl⟩
    rw [hA] at sa la
    rw [hB] at sb lb
    rw [hC] at sd ld
    rw [hN] at sn ln
    rw [hT1] at s1 l1
    rw [hT2] at s2 l2
    have q1 : ("put" : Str).length = 3 := by decide +kernel
    have q2 : ("jump" : Str).length = 4 := by decide +kernel
    have q3 : ("when" : Str).length = 4 := by decide +kernel
    have q4 : (" " : Str).length = 1 := by decide +kernel
    have g1 : ("put" : Str).length + (" " : Str).length ≤ 16777216 := by decide +kernel
    have g2 : (("put" : Str) ++ (" " : Str)).length + A.length ≤ 16777216 := by rw [str_len]; omega
    have g3 : (("put" : Str) ++ (" " : Str) ++ A).length + (" " : Str).length ≤ 16777216 := by rw [str_len, str_len]; omega
    have g4 : (("put" : Str) ++ (" " : Str) ++ A ++ (" " : Str)).length + N.length ≤ 16777216 := by rw [str_len, str_len, str_len]; omega
    have g5 : ("jump" : Str).length + (" " : Str).length ≤ 16777216 := by decide +kernel
    have g6 : (("jump" : Str) ++ (" " : Str)).length + T1.length ≤ 16777216 := by rw [str_len]; omega
    have g7 : ("when" : Str).length + (" " : Str).length ≤ 16777216 := by decide +kernel
    have g8 : (("when" : Str) ++ (" " : Str)).length + A.length ≤ 16777216 := by rw [str_len]; omega
    have g9 : (("when" : Str) ++ (" " : Str) ++ A).length + (" " : Str).length ≤ 16777216 := by rw [str_len, str_len]; omega
    have g10 : (("when" : Str) ++ (" " : Str) ++ A ++ (" " : Str)).length + T2.length ≤ 16777216 := by rw [str_len, str_len, str_len]; omega
    have n1 : ¬ (("jump" : Str) = "put") ∧ ¬ (("when" : Str) = "put") ∧ ¬ (("when" : Str) = "jump") := by decide +kernel
    have js : ∀ (ws : List Str) (G : Gd), ws.length ≤ 4 → (∀ x ∈ ws, x.length ≤ 200) → wJoin (.d (.str " ")) [.d (.lst (ws.map D.str))] G = .ok (.d (.str (Txt.join " " ws)), G) := fun ws G hl h => by
      have ts : toStrs ((ws.map D.str).map W.d) = some ws := by rw [List.map_map]; exact toStrs_map
      have g1 : ((ws.map (·.length)).sum + ws.length * (" " : Str).length ≤ 16777216) := by
        have s := sum_le ws 200 h
        have : ws.length * 200 ≤ 4 * 200 := Nat.mul_le_mul_right _ hl
        rw [q4]; omega
      simp only [w_join, asSeq_lst, ts]
      rw [gate_pos g1]
    have tn : ∀ x ∈ ten, x.length ≤ 200 := by decide +kernel
    have j3 : ∀ nm ∈ ten, ∀ G, wJoin (.d (.str " ")) [.d (.lst [.str nm, .str A, .str B, .str C])] G = .ok (.d (.str (Txt.join " " [nm, A, B, C])), G) := fun nm h G => js [nm, A, B, C] G (by simp) (fun x hx => by
      simp only [List.mem_cons, List.not_mem_nil, or_false] at hx
      rcases hx with h | h | h | h <;> subst h
      · exact tn _ h
      all_goals omega)
    have j2' : ∀ nm ∈ ten, ∀ G, wJoin (.d (.str " ")) [.d (.lst [.str nm, .str A, .str B])] G = .ok (.d (.str (Txt.join " " [nm, A, B])), G) := fun nm h G => js [nm, A, B] G (by simp) (fun x hx => by
      simp only [List.mem_cons, List.not_mem_nil, or_false] at hx
      rcases hx with h | h | h <;> subst h
      · exact tn _ h
      all_goals omega)
    have j1' : ∀ nm ∈ ten, ∀ G, wJoin (.d (.str " ")) [.d (.lst [.str nm, .str A])] G = .ok (.d (.str (Txt.join " " [nm, A])), G) := fun nm h G => js [nm, A] G (by simp) (fun x hx => by
      simp only [List.mem_cons, List.not_mem_nil, or_false] at hx
      rcases hx with h | h <;> subst h
      · exact tn _ h
      all_goals omega)
    have j0' : ∀ nm ∈ ten, ∀ G, wJoin (.d (.str " ")) [.d (.lst [.str nm])] G = .ok (.d (.str (Txt.join " " [nm])), G) := fun nm h G => js [nm] G (by simp) (fun x hx => by
      simp only [List.mem_cons, List.not_mem_nil, or_false] at hx
      subst hx
      exact tn _ h)
    have w1 := fun G => j3 "add" (by simp [ten]) G
    have w2 := fun G => j3 "sub" (by simp [ten]) G
    have w3 := fun G => j3 "more" (by simp [ten]) G
    have w4 := fun G => j2' "get" (by simp [ten]) G
    have w5 := fun G => j2' "set" (by simp [ten]) G
    have w6 := fun G => j1' "tell" (by simp [ten]) G
    have w7 := fun G => j0' "halt" (by simp [ten]) G
    have nx : ∀ x ∈ ([("add" : Str), "sub", "more", "get", "set", "tell", "halt"] : List Str), ¬ x = "put" ∧ ¬ x = "jump" ∧ ¬ x = "when" := by decide +kernel
    have n2 := nx "add" (by simp)
    have n3 := nx "sub" (by simp)
    have n4 := nx "more" (by simp)
    have n5 := nx "get" (by simp)
    have n6 := nx "set" (by simp)
    have n7 := nx "tell" (by simp)
    have n8 := nx "halt" (by simp)
    have c3 := fun x0 x1 x2 x3 x4 x5 x6 x7 G => line_comp [((a : Int), A), ((b : Int), B), ((d : Int), C)] (fun p hp G => by
      simp only [List.mem_cons, List.not_mem_nil, or_false] at hp
      rcases hp with h | h | h <;> subst h
      · exact sa G
      · exact sb G
      · exact sd G) (by simp) x0 x1 x2 x3 x4 x5 x6 x7 G
    have c2 := fun x0 x1 x2 x3 x4 x5 x6 x7 G => line_comp [((a : Int), A), ((b : Int), B)] (fun p hp G => by
      simp only [List.mem_cons, List.not_mem_nil, or_false] at hp
      rcases hp with h | h <;> subst h
      · exact sa G
      · exact sb G) (by simp) x0 x1 x2 x3 x4 x5 x6 x7 G
    have c1 := fun x0 x1 x2 x3 x4 x5 x6 x7 G => line_comp [((a : Int), A)] (fun p hp G => by
      simp only [List.mem_cons, List.not_mem_nil, or_false] at hp
      subst hp
      exact sa G) (by simp) x0 x1 x2 x3 x4 x5 x6 x7 G
    simp only [List.map_cons, List.map_nil] at c3 c2 c1
    simp only [o__law_line, b__law_line]
    rcases hw with h | h | h | h | h | h | h | h | h | h | h
    · refine ⟨⟨"put", [(a : Int), n]⟩, by simp, ?_⟩
      simp -implicitDefEqProofs [h, ea, eb, ed, en, sa, sn, g1, g2, g3, g4, Rw.txt, Rw.ws, hA, hN, j2]
    · refine ⟨⟨"put", [(a : Int), n]⟩, by simp, ?_⟩
      simp -implicitDefEqProofs [h, ea, eb, ed, en, sa, sn, g1, g2, g3, g4, Rw.txt, Rw.ws, hA, hN, j2]
    · refine ⟨⟨"add", [(a : Int), b, d]⟩, by simp, ?_⟩
      simp -implicitDefEqProofs [h, ea, eb, ed, sa, sb, sd, n2, c3, w1, Rw.txt, Rw.ws, hA, hB, hC, eDisp, prsM, mergeW, putW, wDGet, valW, -w_join]
    · refine ⟨⟨"sub", [(a : Int), b, d]⟩, by simp, ?_⟩
      simp -implicitDefEqProofs [h, ea, eb, ed, sa, sb, sd, n3, c3, w2, Rw.txt, Rw.ws, hA, hB, hC, eDisp, prsM, mergeW, putW, wDGet, valW, -w_join]
    · refine ⟨⟨"more", [(a : Int), b, d]⟩, by simp, ?_⟩
      simp -implicitDefEqProofs [h, ea, eb, ed, sa, sb, sd, n4, c3, w3, Rw.txt, Rw.ws, hA, hB, hC, eDisp, prsM, mergeW, putW, wDGet, valW, -w_join]
    · refine ⟨⟨"get", [(a : Int), b]⟩, by simp, ?_⟩
      simp -implicitDefEqProofs [h, ea, eb, ed, sa, sb, sd, n5, c2, w4, Rw.txt, Rw.ws, hA, hB, hC, eDisp, prsM, mergeW, putW, wDGet, valW, -w_join]
    · refine ⟨⟨"set", [(a : Int), b]⟩, by simp, ?_⟩
      simp -implicitDefEqProofs [h, ea, eb, ed, sa, sb, sd, n6, c2, w5, Rw.txt, Rw.ws, hA, hB, hC, eDisp, prsM, mergeW, putW, wDGet, valW, -w_join]
    · refine ⟨⟨"jump", [(t1 : Int)]⟩, by simp, ?_⟩
      simp -implicitDefEqProofs [h, ea, eb, ed, et1, hm, s1, n1, g5, g6, Rw.txt, Rw.ws, hT1, j1]
    · refine ⟨⟨"when", [(a : Int), t2]⟩, by simp, ?_⟩
      simp -implicitDefEqProofs [h, ea, eb, ed, et2, hm, sa, s2, n1, g7, g8, g9, g10, Rw.txt, Rw.ws, hA, hT2, j2]
    · refine ⟨⟨"tell", [(a : Int)]⟩, by simp, ?_⟩
      simp -implicitDefEqProofs [h, ea, eb, ed, sa, sb, sd, n7, c1, w6, Rw.txt, Rw.ws, hA, hB, hC, eDisp, prsM, mergeW, putW, wDGet, valW, -w_join]
    · refine ⟨⟨"halt", []⟩, by simp, ?_⟩
      simp -implicitDefEqProofs [h, ea, eb, ed, sa, sb, sd, n8, c1, w7, Rw.txt, Rw.ws, hA, hB, hC, eDisp, prsM, mergeW, putW, wDGet, valW, -w_join]
  obtain ⟨r, hr, e⟩ := key
  refine ⟨r, e, ?_⟩
  have nn : ∀ {nm : Str} {ar : List Int}, ¬ (nm = "jump" ∨ nm = "when") → ∀ p, Rw.lead ⟨nm, ar⟩ = some p → 0 ≤ p ∧ p < (many : Int) := fun h p hp => by
    unfold Rw.lead at hp
    rw [if_neg h] at hp
    cases hp
  simp only [List.mem_cons, List.not_mem_nil, or_false] at hr
  rcases hr with rfl | rfl | rfl | rfl | rfl | rfl | rfl | rfl | rfl | rfl
  · exact ⟨ok_put ha hn, nn (by decide +kernel)⟩
  · exact ⟨ok_bbb (by decide +kernel) ha hb hd, nn (by decide +kernel)⟩
  · exact ⟨ok_bbb (by decide +kernel) ha hb hd, nn (by decide +kernel)⟩
  · exact ⟨ok_bbb (by decide +kernel) ha hb hd, nn (by decide +kernel)⟩
  · exact ⟨ok_bb (by decide +kernel) ha hb, nn (by decide +kernel)⟩
  · exact ⟨ok_bb (by decide +kernel) ha hb, nn (by decide +kernel)⟩
  · exact ⟨ok_jump (by omega), fun p hp => by
      unfold Rw.lead at hp
      rw [if_pos (.inl rfl)] at hp
      have e : some (t1 : Int) = some p := hp
      injection e with e
      exact ⟨by omega, by omega⟩⟩
  · exact ⟨ok_when ha (by omega), fun p hp => by
      unfold Rw.lead at hp
      rw [if_pos (.inr rfl)] at hp
      have e : some (t2 : Int) = some p := hp
      injection e with e
      exact ⟨by omega, by omega⟩⟩
  · exact ⟨ok_tell ha, nn (by decide +kernel)⟩
  · exact ⟨ok_halt, nn (by decide +kernel)⟩
/-! a text with a bad line, read -/
theorem rr1B (z : Str) (hz : BadL z) (rest : List Str) : ∀ (rows : List Rw) (at_ : Nat) (acc : List D) (x0 y2 y3 y4 y5 : Option W), (∀ r ∈ rows, r.ok) → acc.length + rows.length ≤ 100000 →
    ∃ s' G', forM (gTupD ([2, 3].map gN)) l_read_roll_1 ((((rows.map Rw.txt ++ z :: rest).map D.str).zipIdx at_).map fun p => W.d (.tup [.int (p.2 : Nat), p.1])) [x0, some (.ref 0), y2, y3, y4, y5] [.lst (acc.map W.d)] =
      .exc ⟨"BadRow", [("row", .int ((at_ + rows.length : Nat) + 1))]⟩ s' G'
  | [], at_, acc, x0, y2, y3, y4, y5, _, _ => by
    have er := hz.row
    simp only [List.map_cons, List.map_nil, List.nil_append, List.zipIdx_cons, forM_cons]
    obtain ⟨R, hR⟩ : ∃ R, ((rest.map D.str).zipIdx (at_ + 1)).map (fun p => W.d (.tup [.int (p.2 : Nat), p.1])) = R := ⟨_, rfl⟩
    rw [hR]
    refine ⟨[x0, some (.ref 0), some (.d (.int (at_ : Nat))), some (.d (.str z)), some (.d .non), y5], [.lst (acc.map W.d)], ?_⟩
    simp -implicitDefEqProofs [ul_read_roll_1, er]
  | r :: rows, at_, acc, x0, y2, y3, y4, y5, ok, hl => by
    simp only [List.length_cons] at hl
    have h0 := ok r (List.mem_cons_self ..)
    obtain ⟨s', G', e⟩ := rr1B z hz rest rows (at_ + 1) (acc ++ [r.enc]) x0 (some (.d (.int (at_ : Nat)))) (some (.d (.str r.txt))) (some (.d r.enc)) y5 (fun q hq => ok q (List.mem_cons_of_mem _ hq)) (by simp; omega)
    refine ⟨s', G', ?_⟩
    have er := h0.rowof
    have en : r.enc = .tup (.str r.nm :: r.ar.map D.int) := rfl
    have la : acc.length < 16777216 := by omega
    simp only [List.map_cons, List.cons_append, List.zipIdx_cons, List.map_nil] at e ⊢
    obtain ⟨R, hR⟩ : ∃ R, (((rows.map Rw.txt ++ z :: rest).map D.str).zipIdx (at_ + 1)).map (fun p => W.d (.tup [.int (p.2 : Nat), p.1])) = R := ⟨_, rfl⟩
    rw [hR] at e ⊢
    rw [en] at e er
    have ex : at_ + 1 + rows.length = at_ + (r :: rows).length := by simp; omega
    rw [ex] at e
    obtain ⟨X, hX⟩ : ∃ X : Ex, (⟨"BadRow", [("row", .int ((at_ + (r :: rows).length : Nat) + 1))]⟩ : Ex) = X := ⟨_, rfl⟩
    rw [hX] at e ⊢
    simp -implicitDefEqProofs [ul_read_roll_1, er, la] at e ⊢
    rw [e]
theorem lines_split {zs : List Str} (hne : zs ≠ []) (h : ∀ z ∈ zs, 10 ∉ z.cps.toList ∧ z.length ≤ 5000) (hl : zs.length ≤ 100) : (∀ G, wSplit false (.d (.str (Txt.join "\n" zs))) [.d (.str "\n")] G = .ok (.d (.lst (zs.map D.str)), G)) := fun G => by
  have sp : Txt.split (Txt.join "\n" zs) "\n" = zs := split_joined line_tl line_k hne fun p hp => (h p hp).1
  have j := join_len "\n" zs
  have s := sum_le zs 5000 fun z hz => (h z hz).2
  have l1 : ("\n" : Str).length = 1 := by decide +kernel
  rw [l1] at j
  have : zs.length * 5000 ≤ 100 * 5000 := Nat.mul_le_mul_right _ hl
  rw [w_split, sp]
  have l0 : (("\n" : Str).length == 0) = false := by decide +kernel
  rw [gate_pos ⟨l0, by show _ + 2 ≤ 16777216; omega⟩]
  have td : toDs ((zs.map D.str).map W.d) = some (zs.map D.str) := toDs_map _
  have e2 : (zs.map fun y => W.d (.str y)) = (zs.map D.str).map W.d := by simp
  rw [e2]
  simp only [newL, td, Bool.false_eq_true, if_false]
theorem read_bad {rows : List Rw} {z : Str} {rest : List Str} (ok : ∀ r ∈ rows, r.ok) (hz : BadL z) (hr : ∀ z ∈ rest, 10 ∉ z.cps.toList ∧ z.length ≤ 5000) (hl : rows.length + rest.length ≤ 90) :
    ∃ s G, f_read_roll [.str (Txt.join "\n" (rows.map Rw.txt ++ z :: rest))] = .exc ⟨"BadRow", [("row", .int ((rows.length : Nat) + 1))]⟩ s G := by
  have esp := lines_split (zs := rows.map Rw.txt ++ z :: rest) (by simp) (fun x hx => by
    rcases List.mem_append.mp hx with h | h
    · obtain ⟨r, hr, rfl⟩ := List.mem_map.mp h
      exact ⟨(ok r hr).free, by have := (ok r hr).tlen; omega⟩
    · rcases List.mem_cons.mp h with h | h
      · rw [h]; exact ⟨hz.free, hz.len⟩
      · exact hr x h) (by simp; omega)
  obtain ⟨s', G', e1⟩ := rr1B z hz rest rows 0 [] (some (.d (.str (Txt.join "\n" (rows.map Rw.txt ++ z :: rest))))) none none none none ok (by simp; omega)
  obtain ⟨S, hS⟩ : ∃ S, rows.map Rw.txt ++ z :: rest = S := ⟨_, rfl⟩
  rw [hS] at esp e1 ⊢
  obtain ⟨T, hT⟩ : ∃ T, Txt.join "\n" S = T := ⟨_, rfl⟩
  rw [hT] at esp e1 ⊢
  rw [Nat.zero_add] at e1
  obtain ⟨DS, hDS⟩ : ∃ DS, S.map D.str = DS := ⟨_, rfl⟩
  rw [hDS] at esp e1
  refine ⟨[], [], ?_⟩
  simp only [List.map_cons, List.map_nil] at e1
  rw [o_read_roll, b_read_roll]
  simp -implicitDefEqProofs [esp, e1]
/-! what is found of a text -/
theorem pl2 (a b : Int) (m : Bool) (G : Gd) : wEq m (.d (.lst [.int a, .int b])) (.d (.lst [.int a, .int b])) G = .ok (.d (.bl (!m)), G) := by
  rw [wEq_same toDat_d toDat_d (by rw [plB_lst]; simp)]
theorem fault_ok {rows : List Rw} (hne : rows ≠ []) (ok : ∀ r ∈ rows, r.ok) (hl : rows.length ≤ 1000) (hg : goodB rows = true) : f__law_fault [.str (rollT rows)] = .ok (.lst [.int 0, .int 0]) := by
  have g := goodB_iff hg
  have er := read_roll_ok hne ok (by omega) g.1 g.2
  obtain ⟨F, hF⟩ : ∃ F, rows.map Rw.enc = F := ⟨_, rfl⟩
  obtain ⟨T, hT⟩ : ∃ T, rollT rows = T := ⟨_, rfl⟩
  rw [hF, hT] at er
  rw [hT]
  simp -implicitDefEqProofs [o__law_fault, b__law_fault, er]
theorem fault_no {rows : List Rw} (hne : rows ≠ []) (ok : ∀ r ∈ rows, r.ok) (hl : rows.length ≤ 1000) (hg : goodB rows = false) : f__law_fault [.str (rollT rows)] = .ok (.lst [.int 1, .int 0]) := by
  obtain ⟨s, G, er⟩ := read_roll_no hne ok (by omega) hg
  obtain ⟨T, hT⟩ : ∃ T, rollT rows = T := ⟨_, rfl⟩
  rw [hT] at er ⊢
  have h1 : hitOf [("BadRow", true), ("NoRoll", true)] "NoRoll" = some true := by decide +kernel
  have l1 : List.lookup ("NoRoll" : Str) [("BadRow", false), ("NoRoll", false)] = some false := by decide +kernel
  have l2 : List.lookup ("NoRoll" : Str) [("BadRow", true), ("NoRoll", true)] = some true := by decide +kernel
  have l3 : List.lookup ("NoRoll" : Str) [("BadRow", true), ("NoRoll", false)] = some false := by decide +kernel
  have l4 : List.lookup ("NoRoll" : Str) [("BadRow", false), ("NoRoll", true)] = some true := by decide +kernel
  have wa := w_any (bs := [false, false, false, false, false, false]) (G := [.err "NoRoll" []])
  simp at wa
  simp -implicitDefEqProofs [o__law_fault, b__law_fault, er, h1, l1, l2, l3, l4, wa]
theorem fault_bad {rows : List Rw} {z : Str} {rest : List Str} (ok : ∀ r ∈ rows, r.ok) (hz : BadL z) (hr : ∀ z ∈ rest, 10 ∉ z.cps.toList ∧ z.length ≤ 5000) (hl : rows.length + rest.length ≤ 90) :
    f__law_fault [.str (Txt.join "\n" (rows.map Rw.txt ++ z :: rest))] = .ok (.lst [.int 2, .int ((rows.length : Nat) + 1)]) := by
  obtain ⟨s, G, er⟩ := read_bad ok hz hr hl
  obtain ⟨T, hT⟩ : ∃ T, Txt.join "\n" (rows.map Rw.txt ++ z :: rest) = T := ⟨_, rfl⟩
  rw [hT] at er ⊢
  obtain ⟨N, hN⟩ : ∃ N : Int, ((rows.length : Nat) : Int) + 1 = N := ⟨_, rfl⟩
  rw [hN] at er ⊢
  have h1 : hitOf [("BadRow", true), ("NoRoll", true)] "BadRow" = some true := by decide +kernel
  have l1 : List.lookup ("BadRow" : Str) [("BadRow", false), ("NoRoll", false)] = some false := by decide +kernel
  have l2 : List.lookup ("BadRow" : Str) [("BadRow", true), ("NoRoll", true)] = some true := by decide +kernel
  have l3 : List.lookup ("BadRow" : Str) [("BadRow", true), ("NoRoll", false)] = some true := by decide +kernel
  have l4 : List.lookup ("BadRow" : Str) [("BadRow", false), ("NoRoll", true)] = some false := by decide +kernel
  have lr : List.lookup ("row" : Str) [(("row" : Str), D.int N)] = some (D.int N) := rfl
  have wa := w_any (bs := [false, false, false, false, false, false]) (G := [.err "BadRow" [("row", .int N)]])
  simp at wa
  simp -implicitDefEqProofs [o__law_fault, b__law_fault, er, h1, l1, l2, l3, l4, wa, wErrF, lr, chk]
/-! lines drawn -/
theorem lines_ex (ns : List Int) (hn : ns.length ≤ 63) (st : Int) (hst : st = 0 ∨ st = 1 ∨ st = 2) : ∃ rows : List Rw, f__law_lines [.scr ns, .int st] = .ok (.lst (rows.map fun r => D.str r.txt)) ∧ rows ≠ [] ∧ rows.length ≤ 41 ∧ (∀ r ∈ rows, r.ok) ∧ (st = 0 → goodB rows = true) ∧ (st = 2 → goodB rows = false) := by
  obtain ⟨cs, ec, lc⟩ : ∃ cs : List Int, cutG ns (some 3) (some 43) = cs ∧ cs.length ≤ 40 := ⟨_, rfl, by
    unfold cutG
    rw [show (some (3 : Int)) = some ((3 : Nat) : Int) from rfl, show (some (43 : Int)) = some ((43 : Nat) : Int) from rfl, HT.sIx_nat, HT.sIx_nat, List.length_take, List.length_drop]
    omega⟩
  have main : ∀ (R : Nat) (x5 : Option W), 0 < R → R ≤ 1000 → ∃ rs : List Rw, rs.length = cs.length ∧ (∀ r ∈ rs, r.ok ∧ ∀ p, r.lead = some p → 0 ≤ p ∧ p < R) ∧
      compM 6 tYesM l__law_lines_1 ((cs.map D.int).map W.d) [] [some (.d (.scr ns)), some (.d (.int st)), some (.d (.lst (cs.map D.int))), some (.d (.int ((cs.length : Int) + 1))), some (.d (.int (R : Int))), x5, none] [] = .ok ((rs.map fun r => D.str r.txt).map W.d, []) := fun R x5 h1 h2 => by
    obtain ⟨rs, er, lr, pr⟩ := compM_T0 (fun r : Rw => D.str r.txt) (P := fun _ r => r.ok ∧ ∀ p, r.lead = some p → 0 ≤ p ∧ p < (R : Int)) (j := 6) (e := l__law_lines_1) (s := [some (.d (.scr ns)), some (.d (.int st)), some (.d (.lst (cs.map D.int))), some (.d (.int ((cs.length : Int) + 1))), some (.d (.int (R : Int))), x5, none]) (G := []) (ws := (cs.map D.int).map W.d) (fun i w h => by
      simp only [List.getElem?_map, Option.map_eq_some_iff] at h
      obtain ⟨d, ⟨c, hcc, rfl⟩, rfl⟩ := h
      obtain ⟨r, e, ok⟩ := line_ex c R h1 h2
      refine ⟨r, ?_, ok⟩
      simp -implicitDefEqProofs [ul__law_lines_1, e]) (by simp; omega)
    refine ⟨rs, by simpa using lr, fun r hr => ?_, er⟩
    obtain ⟨i, hi, e⟩ := List.getElem_of_mem hr
    exact pr i r (by rw [List.getElem?_eq_getElem hi, e])
  have td : ∀ rs : List Rw, toDs ((rs.map fun r => D.str r.txt).map W.d) = some (rs.map fun r => D.str r.txt) := fun rs => toDs_map _
  obtain ⟨t, ht, et⟩ := modN (st * 7) (cs.length + 1) (by omega)
  have et' : st * 7 % ((cs.length : Int) + 1) = t := by rw [← et]; simp
  have p0 : (0 : Int) < (cs.length : Int) + 1 := by omega
  have sT := fun G => bstr60 (i := (t : Int)) (by omega) G
  have lT : (txtI (t : Int)).length ≤ 61 := int_tlen (by omega)
  have gJ : ("jump " : Str).length + (txtI (t : Int)).length ≤ 16777216 := by
    have : ("jump " : Str).length = 5 := by decide +kernel
    omega
  have ej : (⟨"jump", [(t : Int)]⟩ : Rw).txt = "jump " ++ txtI (t : Int) := by
    show Txt.join " " [("jump" : Str), txtI (t : Int)] = _
    rw [j1]
    have : ("jump" : Str) ++ (" " : Str) = ("jump " : Str) := by decide +kernel
    rw [this]
  have eh : (⟨"halt", []⟩ : Rw).txt = "halt" := by
    show Txt.join " " [("halt" : Str)] = _
    rw [M.join_one]
  have e3 : (⟨"tell", [3]⟩ : Rw).txt = "tell 3" := by
    show Txt.join " " [("tell" : Str), txtI 3] = _
    rw [j1]
    decide +kernel
  have m7 : mulOk st 7 = true := mulOk_l (by omega)
  have okA : ∀ {rs : List Rw} {l : Rw}, (∀ r ∈ rs, r.ok) → l.ok → ∀ r ∈ rs ++ [l], r.ok := fun h1 h2 r hr => by
    rcases List.mem_append.mp hr with h | h
    · exact h1 r h
    · rw [List.mem_singleton.mp h]; exact h2
  have sums : ∀ (rs : List Rw) (l : Rw), (rs.map fun r => D.str r.txt) ++ [D.str l.txt] = (rs ++ [l]).map fun r => D.str r.txt := fun rs l => by simp
  rcases hst with h | h | h
  · subst h
    obtain ⟨rs, l1, k1, c1⟩ := main (cs.length + 1) (some (.d (.str "halt"))) (by omega) (by omega)
    refine ⟨rs ++ [⟨"halt", []⟩], ?_, by simp, by simp; omega, okA (fun r hr => (k1 r hr).1) ok_halt, fun _ => ?_, fun h => by cases h⟩
    · rw [← sums, eh]
      have g := td rs
      have lR : (rs.map fun r => D.str r.txt).length ≤ 16777215 := by rw [List.length_map]; omega
      obtain ⟨E, hE⟩ : ∃ E, (rs.map fun r => D.str r.txt) = E := ⟨_, rfl⟩
      rw [hE] at c1 g lR ⊢
      rw [show (((cs.length + 1 : Nat)) : Int) = (cs.length : Int) + 1 by omega] at c1
      obtain ⟨CS, hCS⟩ : ∃ CS, (cs.map D.int).map W.d = CS := ⟨_, rfl⟩
      rw [o__law_lines, b__law_lines]
      have s0 := fun G => bstr60 (i := 0) (by decide) G
      have l0 : (txtI 0).length ≤ 61 := int_tlen (by decide)
      have g0 : ("jump " : Str).length + (txtI 0).length ≤ 16777216 := by
        have : ("jump " : Str).length = 5 := by decide +kernel
        omega
      obtain ⟨TT, hTT⟩ : ∃ TT, txtI 0 = TT := ⟨_, rfl⟩
      rw [hTT] at s0 g0
      simp -implicitDefEqProofs [ec, m7, p0, s0, g0, g, lR]
      simp -implicitDefEqProofs at c1
      rw [c1]
      simp -implicitDefEqProofs [g, lR]
    · have lA : (rs ++ [(⟨"halt", []⟩ : Rw)]).length = cs.length + 1 := by simp [l1]
      unfold goodB lastB
      rw [lA, show cs.length + 1 - 1 = rs.length by omega, List.getElem?_concat_length, Bool.and_eq_true]
      refine ⟨List.all_eq_true.mpr fun r hr => ?_, by simp⟩
      rcases List.mem_append.mp hr with h | h
      · unfold inB
        cases q : r.lead with
        | none => rfl
        | some p =>
          have := (k1 r h).2 p q
          exact decide_eq_true this
      · rw [List.mem_singleton.mp h]
        unfold inB Rw.lead
        rw [if_neg (by decide +kernel)]
  · subst h
    obtain ⟨rs, l1, k1, c1⟩ := main (cs.length + 3) (some (.d (.str ("jump " ++ txtI (t : Int))))) (by omega) (by omega)
    refine ⟨rs ++ [⟨"jump", [(t : Int)]⟩], ?_, by simp, by simp; omega, okA (fun r hr => (k1 r hr).1) (ok_jump (by omega)), (fun h => by cases h), (fun h => by cases h)⟩
    rw [← sums, ej]
    have g := td rs
    have lR : (rs.map fun r => D.str r.txt).length ≤ 16777215 := by rw [List.length_map]; omega
    obtain ⟨E, hE⟩ : ∃ E, (rs.map fun r => D.str r.txt) = E := ⟨_, rfl⟩
    rw [hE] at c1 g lR ⊢
    rw [show (((cs.length + 3 : Nat)) : Int) = (cs.length : Int) + 1 + 2 by omega] at c1
    rw [o__law_lines, b__law_lines]
    obtain ⟨TT, hTT⟩ : ∃ TT, txtI (t : Int) = TT := ⟨_, rfl⟩
    rw [hTT] at sT gJ c1 ⊢
    simp -implicitDefEqProofs at et'
    simp -implicitDefEqProofs [ec, m7, p0, et', sT, gJ, g, lR]
    simp -implicitDefEqProofs at c1
    rw [c1]
    simp -implicitDefEqProofs [g, lR]
  · subst h
    obtain ⟨rs, l1, k1, c1⟩ := main (cs.length + 1) (some (.d (.str "tell 3"))) (by omega) (by omega)
    refine ⟨rs ++ [⟨"tell", [3]⟩], ?_, by simp, by simp; omega, okA (fun r hr => (k1 r hr).1) (ok_tell (a := 3) (by omega)), (fun h => absurd h (by decide)), fun _ => ?_⟩
    · rw [← sums, e3]
      have g := td rs
      have lR : (rs.map fun r => D.str r.txt).length ≤ 16777215 := by rw [List.length_map]; omega
      obtain ⟨E, hE⟩ : ∃ E, (rs.map fun r => D.str r.txt) = E := ⟨_, rfl⟩
      rw [hE] at c1 g lR ⊢
      rw [show (((cs.length + 1 : Nat)) : Int) = (cs.length : Int) + 1 by omega] at c1
      rw [o__law_lines, b__law_lines]
      obtain ⟨TT, hTT⟩ : ∃ TT, txtI (t : Int) = TT := ⟨_, rfl⟩
      rw [hTT] at sT gJ
      simp -implicitDefEqProofs at et'
      simp -implicitDefEqProofs [ec, m7, p0, et', sT, gJ, g, lR]
      simp -implicitDefEqProofs at c1
      rw [c1]
      simp -implicitDefEqProofs [g, lR]
    · have lA : (rs ++ [(⟨"tell", [3]⟩ : Rw)]).length = cs.length + 1 := by simp [l1]
      unfold goodB lastB
      rw [lA, show cs.length + 1 - 1 = rs.length by omega, List.getElem?_concat_length, Bool.and_eq_false_iff]
      exact .inr (by decide +kernel)
noncomputable def tl_law_2 : FS :=
    (sSeq (sIf (tfOr (toT (e2 (wEq true) (eCall 1 f__law_fault (aCons (eV 9) aNil)) (eLst false (aCons (eC (.int 2)) (aCons (e2 (wAdd false) (eV 4) (eC (.int 1))) aNil))))) (toT (e2 (wEq true) (eErrF "BadRow" "row" (eMkF "BadRow" "row" (e2 (wAdd false) (eV 4) (eC (.int 7))))) (e2 (wAdd false) (eV 4) (eC (.int 7)))))) (sRet (eC (.bl false))) sNil)
    (sRet (e2 (wEq false) (eCall 1 f__law_fault (aCons (eMt rcS wJoin (eC (.str "\n")) (aCons (eV 2) aNil)) aNil)) (eV 3))))
theorem utl_law_2 (s : Sd) (G : Gd) : tl_law_2 s G = (sSeq (sIf (tfOr (toT (e2 (wEq true) (eCall 1 f__law_fault (aCons (eV 9) aNil)) (eLst false (aCons (eC (.int 2)) (aCons (e2 (wAdd false) (eV 4) (eC (.int 1))) aNil))))) (toT (e2 (wEq true) (eErrF "BadRow" "row" (eMkF "BadRow" "row" (e2 (wAdd false) (eV 4) (eC (.int 7))))) (e2 (wAdd false) (eV 4) (eC (.int 7)))))) (sRet (eC (.bl false))) sNil)
    (sRet (e2 (wEq false) (eCall 1 f__law_fault (aCons (eMt rcS wJoin (eC (.str "\n")) (aCons (eV 2) aNil)) aNil)) (eV 3)))) s G := rfl
noncomputable def tl_law_1 : FS :=
    (sSeq (sSet 9 (eMt rcS wJoin (eC (.str "\n")) (aCons (eV 5) aNil)))
    (sSeq (sIf (tfAnd (toT (e2 wGt (eA (fun ws _ G => bLen ws G) (aCons (eV 2) aNil)) (eC (.int 1)))) (toT (e2 (wEq false) (e2 wMod (eCall 2 f__law_cell_at (aCons (eV 0) (aCons (eC (.int 2)) aNil))) (eC (.int 5))) (eC (.int 1))))) (sSeq (sSet 8 (e2 wMod (e2 wDiv (eCall 2 f__law_cell_at (aCons (eV 0) (aCons (eC (.int 2)) aNil))) (eC (.int 5))) (e2 wSub (eA (fun ws _ G => bLen ws G) (aCons (eV 2) aNil)) (eC (.int 1)))))
    (sSeq (sSet 4 (eA (fun ws _ G => bMin2 ws G) (aCons (eV 4) (aCons (eV 8) aNil))))
    (sSeq (sAsg (gSetL (eV 5) (eV 8)) (e2 (wAdd false) (e2 (wAdd false) (e2 wIx (eV 2) (eV 8)) (eC (.str " "))) (e2 wIx (eV 2) (e2 (wAdd false) (eV 8) (eC (.int 1))))))
    (sSeq (sExpr (eMt rcL wPopAt (eV 5) (aCons (e2 (wAdd false) (eV 8) (eC (.int 1))) aNil)))
    (sSet 9 (eMt rcS wJoin (eC (.str "\n")) (aCons (eV 5) aNil))))))) sNil)
    tl_law_2))
theorem utl_law_1 (s : Sd) (G : Gd) : tl_law_1 s G = (sSeq (sSet 9 (eMt rcS wJoin (eC (.str "\n")) (aCons (eV 5) aNil)))
    (sSeq (sIf (tfAnd (toT (e2 wGt (eA (fun ws _ G => bLen ws G) (aCons (eV 2) aNil)) (eC (.int 1)))) (toT (e2 (wEq false) (e2 wMod (eCall 2 f__law_cell_at (aCons (eV 0) (aCons (eC (.int 2)) aNil))) (eC (.int 5))) (eC (.int 1))))) (sSeq (sSet 8 (e2 wMod (e2 wDiv (eCall 2 f__law_cell_at (aCons (eV 0) (aCons (eC (.int 2)) aNil))) (eC (.int 5))) (e2 wSub (eA (fun ws _ G => bLen ws G) (aCons (eV 2) aNil)) (eC (.int 1)))))
    (sSeq (sSet 4 (eA (fun ws _ G => bMin2 ws G) (aCons (eV 4) (aCons (eV 8) aNil))))
    (sSeq (sAsg (gSetL (eV 5) (eV 8)) (e2 (wAdd false) (e2 (wAdd false) (e2 wIx (eV 2) (eV 8)) (eC (.str " "))) (e2 wIx (eV 2) (e2 (wAdd false) (eV 8) (eC (.int 1))))))
    (sSeq (sExpr (eMt rcL wPopAt (eV 5) (aCons (e2 (wAdd false) (eV 8) (eC (.int 1))) aNil)))
    (sSet 9 (eMt rcS wJoin (eC (.str "\n")) (aCons (eV 5) aNil))))))) sNil)
    tl_law_2)) s G := rfl
theorem cut_law (s : Sd) (G : Gd) : b_law s G = (sSeq (sSet 1 (e2 wMod (eCall 2 f__law_cell_at (aCons (eV 0) (aCons (eC (.int 0)) aNil))) (eC (.int 3))))
    (sSeq (sSet 2 (eCall 2 f__law_lines (aCons (eV 0) (aCons (eV 1) aNil))))
    (sSeq (sSet 3 (eCall 1 f__law_fault (aCons (eMt rcS wJoin (eC (.str "\n")) (aCons (eV 2) aNil)) aNil)))
    (sSeq (sIf (tfOr (tfAnd (toT (e2 (wEq false) (eV 1) (eC (.int 0)))) (toT (e2 (wEq true) (eV 3) (eLst false (aCons (eC (.int 0)) (aCons (eC (.int 0)) aNil)))))) (tfAnd (toT (e2 (wEq false) (eV 1) (eC (.int 2)))) (toT (e2 (wEq true) (eV 3) (eLst false (aCons (eC (.int 1)) (aCons (eC (.int 0)) aNil))))))) (sRet (eC (.bl false))) sNil)
    (sSeq (sIf (tfAnd (toT (e2 (wEq true) (e2 wIx (eV 3) (eC (.int 0))) (eC (.int 0)))) (toT (e2 (wEq true) (e2 wIx (eV 3) (eC (.int 0))) (eC (.int 1))))) (sRet (eC (.bl false))) sNil)
    (sSeq (sSet 4 (eA (fun ws _ G => bLen ws G) (aCons (eV 2) aNil)))
    (sSeq (sSet 5 (eA (fun ws _ G => bList true ws G) (aCons (eV 2) aNil)))
    (sSeq (sFor (iRange1 (aCons (e2 (wAdd false) (eC (.int 1)) (e2 wMod (eCall 2 f__law_cell_at (aCons (eV 0) (aCons (eC (.int 1)) aNil))) (eC (.int 3)))) aNil)) (gN 6) l_law_1)
    tl_law_1)))))))) s G := rfl
/-! the law -/
def bW (bs : List Str) : List W := bs.map fun y => W.d (.str y)
theorem join_l {bs : List Str} (h : ∀ z ∈ bs, z.length ≤ 5000) (hl : bs.length ≤ 90) (G : Gd) (hG : G[0]? = some (.lst (bW bs))) : wJoin (.d (.str "\n")) [.ref 0] G = .ok (.d (.str (Txt.join "\n" bs)), G) := by
  have s := sum_le bs 5000 h
  have l1 : ("\n" : Str).length = 1 := by decide +kernel
  have : bs.length * 5000 ≤ 90 * 5000 := Nat.mul_le_mul_right _ hl
  rw [w_join]
  simp only [asSeq_ref, hG]
  rw [bW, toStrs_map]
  dsimp only
  rw [gate_pos (by rw [l1]; omega)]
theorem join_r {rows : List Rw} (ok : ∀ r ∈ rows, r.ok) (hl : rows.length ≤ 90) (G : Gd) : wJoin (.d (.str "\n")) [.d (.lst (rows.map fun r => D.str r.txt))] G = .ok (.d (.str (rollT rows)), G) := by
  have s := sum_le (rows.map Rw.txt) 191 fun z hz => by
    obtain ⟨r, hr, rfl⟩ := List.mem_map.mp hz
    exact (ok r hr).tlen
  rw [List.length_map] at s
  have l1 : ("\n" : Str).length = 1 := by decide +kernel
  have : rows.length * 191 ≤ 90 * 191 := Nat.mul_le_mul_right _ hl
  have e : ((rows.map fun r => D.str r.txt).map W.d) = (rows.map Rw.txt).map fun y => W.d (.str y) := by simp
  rw [w_join]
  simp only [asSeq_lst]
  rw [e, toStrs_map]
  dsimp only
  rw [gate_pos (by rw [l1, List.length_map]; omega)]
  rfl
structure Sp (rows : List Rw) (bs : List Str) (f : Nat) : Prop where
  len : bs.length = rows.length
  le : f ≤ rows.length
  all : ∀ z ∈ bs, (∃ r ∈ rows, z = r.txt) ∨ BadL z
  bef : ∀ i, i < f → ∀ r, rows[i]? = some r → bs[i]? = some r.txt
  at_ : f < rows.length → ∃ z, bs[f]? = some z ∧ BadL z
theorem Sp.step {rows : List Rw} {bs : List Str} {f : Nat} (h : Sp rows bs f) {a : Nat} (ha : a < rows.length) {z : Str} (hz : BadL z) : Sp rows (bs.set a z) (min f a) := by
  have hl := h.len
  refine ⟨by simp [hl], by have := h.le; omega, fun y hy => ?_, fun i hi r hr => ?_, fun _ => ?_⟩
  · rcases List.mem_or_eq_of_mem_set hy with q | q
    · exact h.all y q
    · rw [q]; exact .inr hz
  · rw [List.getElem?_set_ne (by omega)]
    exact h.bef i (by omega) r hr
  · by_cases q : a ≤ f
    · rw [show min f a = a by omega, List.getElem?_set_self (by omega)]
      exact ⟨z, rfl, hz⟩
    · rw [show min f a = f by omega, List.getElem?_set_ne (by omega)]
      exact h.at_ (by omega)
theorem txt_any {rows : List Rw} (ok : ∀ r ∈ rows, r.ok) {z : Str} (h : (∃ r ∈ rows, z = r.txt) ∨ BadL z) : 10 ∉ z.cps.toList ∧ z.length ≤ 5000 := by
  rcases h with ⟨r, hr, rfl⟩ | h
  · exact ⟨(ok r hr).free, by have := (ok r hr).tlen; omega⟩
  · exact ⟨h.free, h.len⟩
theorem fin_ok {rows : List Rw} {bs : List Str} {f : Nat} (ok : ∀ r ∈ rows, r.ok) (hl : bs.length ≤ 80) (hle : f ≤ rows.length) (hall : ∀ z ∈ bs, (∃ r ∈ rows, z = r.txt) ∨ BadL z) (bef : ∀ i, i < f → ∀ r, rows[i]? = some r → bs[i]? = some r.txt) (hat : ∃ z, bs[f]? = some z ∧ BadL z) :
    f__law_fault [.str (Txt.join "\n" bs)] = .ok (.lst [.int 2, .int ((f : Int) + 1)]) := by
  obtain ⟨z, hz, bz⟩ := hat
  have hfl : f < bs.length := by
    rcases Nat.lt_or_ge f bs.length with q | q
    · exact q
    · rw [List.getElem?_eq_none q] at hz; cases hz
  have e1 : bs.take f = (rows.take f).map Rw.txt := List.ext_getElem? fun i => by
    rw [List.getElem?_map]
    by_cases q : i < f
    · rw [List.getElem?_take_of_lt q, List.getElem?_take_of_lt q]
      obtain ⟨r, hr⟩ : ∃ r, rows[i]? = some r := ⟨_, List.getElem?_eq_getElem (by omega)⟩
      rw [bef i q r hr, hr]
      rfl
    · rw [List.getElem?_eq_none (by rw [List.length_take]; omega), List.getElem?_eq_none (by rw [List.length_take]; omega)]
      rfl
  have e2 : bs = (rows.take f).map Rw.txt ++ z :: bs.drop (f + 1) := by
    rw [← e1]
    have : bs.drop f = z :: bs.drop (f + 1) := by
      rw [List.drop_eq_getElem_cons hfl]
      rw [List.getElem?_eq_getElem hfl] at hz
      injection hz with hz
      rw [hz]
    rw [← this, List.take_append_drop]
  have lf : (rows.take f).length = f := by rw [List.length_take]; omega
  have := fault_bad (rows := rows.take f) (z := z) (rest := bs.drop (f + 1)) (fun r hr => ok r (List.mem_of_mem_take hr)) bz (fun y hy => txt_any ok (hall y (List.mem_of_mem_drop hy))) (by rw [lf, List.length_drop]; omega)
  rw [← e2, lf] at this
  exact this
theorem two_bad {r q : Rw} (h1 : r.ok) (h2 : q.ok) : BadL (r.txt ++ " " ++ q.txt) := by
  rw [str_assoc]
  refine bad_more h1 (ex := q.ws) rfl (by simp [Rw.ws]) (fun x hx => ⟨h2.vis x hx, ?_⟩) (by have := h2.len; simp [Rw.ws]; omega)
  rcases List.mem_cons.mp hx with h | h
  · have hV := h2.vis x hx
    refine ⟨by have := hV.2; omega, fun hn => ?_⟩
    have key : ∀ z ∈ ten, num z.cps.toList = false := by decide +kernel
    rw [h, key _ (ten_of h2)] at hn
    cases hn
  · exact h2.wok x h
theorem tail2 {rows : List Rw} (ok : ∀ r ∈ rows, r.ok) (hl : rows.length ≤ 60) {bs : List Str} {f : Nat} (ef : f__law_fault [.str (Txt.join "\n" bs)] = .ok (.lst [.int 2, .int ((f : Int) + 1)])) (u v : Int) (er : f__law_fault [.str (rollT rows)] = .ok (.lst [.int u, .int v])) (x0 x1 x5 x6 x7 x8 : Option W) (G : Gd) :
    endD (tl_law_2 [x0, x1, some (.d (.lst (rows.map fun r => D.str r.txt))), some (.d (.lst [.int u, .int v])), some (.d (.int (f : Int))), x5, x6, x7, x8, some (.d (.str (Txt.join "\n" bs)))] G) = .ok (.bl true) := by
  have jr := fun G => join_r ok (by omega) G
  obtain ⟨E, hE⟩ : ∃ E, (rows.map fun r => D.str r.txt) = E := ⟨_, rfl⟩
  obtain ⟨T, hT⟩ : ∃ T, rollT rows = T := ⟨_, rfl⟩
  obtain ⟨B, hB⟩ : ∃ B, Txt.join "\n" bs = B := ⟨_, rfl⟩
  rw [hE, hT] at jr
  rw [hT] at er
  rw [hB] at ef
  rw [hE, hB]
  have p1 := pl2 2 ((f : Int) + 1) true
  have p2 := pl2 u v false
  have lr : ∀ N : Int, List.lookup ("row" : Str) [(("row" : Str), D.int N)] = some (D.int N) := fun N => rfl
  simp -implicitDefEqProofs [utl_law_2, ef, p1, p2, jr, er, wErrF, lr, -w_join]
theorem tail1 {rows : List Rw} (ok : ∀ r ∈ rows, r.ok) (hl : rows.length ≤ 60) {bs : List Str} {f : Nat} (S : Sp rows bs f) (hf : f < rows.length) (u v : Int) (er : f__law_fault [.str (rollT rows)] = .ok (.lst [.int u, .int v])) (ns : List Int) (x1 x6 x7 x8 x9 : Option W) :
    endD (tl_law_1 [some (.d (.scr ns)), x1, some (.d (.lst (rows.map fun r => D.str r.txt))), some (.d (.lst [.int u, .int v])), some (.d (.int (f : Int))), some (.ref 0), x6, x7, x8, x9] [.lst (bW bs)]) = .ok (.bl true) := by
  obtain ⟨c2, ec2⟩ := cell_at ns 2
  have ec2' : f__law_cell_at [.scr ns, .int 2] = .ok (.int c2) := ec2
  have lbs := S.len
  have T := fun (z : Str) (h : (∃ r ∈ rows, z = r.txt) ∨ BadL z) => txt_any ok h
  have jb := join_l (bs := bs) (fun z hz => (T z (S.all z hz)).2) (by omega) [.lst (bW bs)] rfl
  have lr : (rows.map fun r => D.str r.txt).length = rows.length := by simp
  by_cases hc : 1 < rows.length ∧ c2 % 5 = 1
  · obtain ⟨hc1, hc2⟩ := hc
    obtain ⟨a, ha, ea⟩ := modN (c2 / 5) (rows.length - 1) (by omega)
    have ea' : c2 / 5 % ((rows.length : Int) - 1) = (a : Int) := by rw [← ea]; congr 1; omega
    have p0 : (0 : Int) < (rows.length : Int) - 1 := by omega
    have p1 : (1 : Int) < (rows.length : Int) := by omega
    obtain ⟨r, hr⟩ : ∃ r, rows[a]? = some r := ⟨_, List.getElem?_eq_getElem (by omega)⟩
    obtain ⟨q, hq⟩ : ∃ q, rows[a + 1]? = some q := ⟨_, List.getElem?_eq_getElem (by omega)⟩
    have okr := ok r (List.mem_of_getElem? hr)
    have okq := ok q (List.mem_of_getElem? hq)
    have tb := two_bad okr okq
    have S2 := S.step (a := a) (by omega) tb
    obtain ⟨z, hz⟩ : ∃ z, r.txt ++ " " ++ q.txt = z := ⟨_, rfl⟩
    rw [hz] at S2 tb
    have len2 : ((bs.set a z).eraseIdx (a + 1)).length + 1 = rows.length := by
      rw [List.length_eraseIdx_of_lt (by simp; omega), List.length_set, lbs]; omega
    have all2 : ∀ y ∈ (bs.set a z).eraseIdx (a + 1), (∃ r ∈ rows, y = r.txt) ∨ BadL y := fun y hy => S2.all y (List.mem_of_mem_eraseIdx hy)
    have at2 : ∀ i, i ≤ a → ((bs.set a z).eraseIdx (a + 1))[i]? = (bs.set a z)[i]? := fun i hi => by
      rw [List.getElem?_eraseIdx, if_pos (by omega)]
    have ef := fin_ok (bs := (bs.set a z).eraseIdx (a + 1)) (f := min f a) ok (by omega) (by omega) all2 (fun i hi r' hr' => by
      rw [at2 i (by omega)]
      exact S2.bef i hi r' hr') (by
      rw [at2 _ (by omega)]
      exact S2.at_ (by omega))
    have t2 := fun x0 x1 x5 x6 x7 x8 G => tail2 ok hl ef u v er x0 x1 x5 x6 x7 x8 G
    have jb2 := join_l (bs := (bs.set a z).eraseIdx (a + 1)) (fun y hy => (T y (all2 y hy)).2) (by omega) [.lst (bW ((bs.set a z).eraseIdx (a + 1)))] rfl
    have es : ((bW bs).set a (.d (.str z))).eraseIdx (a + 1) = bW ((bs.set a z).eraseIdx (a + 1)) := by
      unfold bW
      refine List.ext_getElem? fun i => ?_
      simp only [List.getElem?_eraseIdx, List.getElem?_map, List.getElem?_set, List.length_map]
      split <;> split <;> simp
      all_goals split <;> simp
    have i0 : ∀ G, wIx (.d (.lst (rows.map fun r => D.str r.txt))) (.d (.int (a : Int))) G = .ok (.d (.str r.txt), G) := fun G => by
      rw [w_ixL, atI_ofNat, List.getElem?_map, hr]; rfl
    have i1 : ∀ G, wIx (.d (.lst (rows.map fun r => D.str r.txt))) (.d (.int ((a : Int) + 1))) G = .ok (.d (.str q.txt), G) := fun G => by
      rw [show ((a : Int) + 1) = ((a + 1 : Nat) : Int) by omega, w_ixL, atI_ofNat, List.getElem?_map, hq]; rfl
    have lb : (" " : Str).length = 1 := by decide +kernel
    have g1 : r.txt.length + (" " : Str).length ≤ 16777216 := by have := okr.tlen; omega
    have g2 : (r.txt ++ (" " : Str)).length + q.txt.length ≤ 16777216 := by have := okr.tlen; have := okq.tlen; rw [str_len]; omega
    have lW : (bW bs).length = rows.length := by unfold bW; rw [List.length_map, lbs]
    have ix1 : ixN rows.length (a : Int) = some a := ixN_ofNat (by omega)
    have mn : (if a < f then (a : Int) else (f : Int)) = ((min f a : Nat) : Int) := by split <;> omega
    have b0 : (0 : Int) ≤ (a : Int) + 1 ∧ ((a : Int) + 1) < (rows.length : Int) ∧ (a : Int) + 1 < 2 ^ 60 := by omega
    have tn : ((a : Int) + 1).toNat = a + 1 := by omega
    have b1 : ((a : Int) + 1) < 1152921504606846976 := by omega

    obtain ⟨w, hw⟩ : ∃ w, ((bW bs).set a (.d (.str z)))[a + 1]? = some w := ⟨_, List.getElem?_eq_getElem (by rw [List.length_set, lW]; omega)⟩
    obtain ⟨E, hE⟩ : ∃ E, (rows.map fun r => D.str r.txt) = E := ⟨_, rfl⟩
    rw [hE] at lr i0 i1 t2 ⊢
    obtain ⟨BW, hBW⟩ : ∃ BW, bW bs = BW := ⟨_, rfl⟩
    rw [hBW] at jb es lW hw ⊢
    obtain ⟨B2, hB2⟩ : ∃ B2, (bs.set a z).eraseIdx (a + 1) = B2 := ⟨_, rfl⟩
    rw [hB2] at es jb2 t2
    obtain ⟨RT, hRT⟩ : ∃ RT, r.txt = RT := ⟨_, rfl⟩
    obtain ⟨QT, hQT⟩ : ∃ QT, q.txt = QT := ⟨_, rfl⟩
    rw [hRT] at i0 g1 g2 hz
    rw [hQT] at i1 g2 hz
    obtain ⟨MF, hMF⟩ : ∃ MF, min f a = MF := ⟨_, rfl⟩
    rw [hMF] at mn t2
    simp -implicitDefEqProofs [utl_law_1, jb, lr, p1, ec2', hc2, p0, ea', mn, i0, i1, g1, g2, hz, lW, ix1, b0, b1, tn, hw, es, jb2, t2, -w_join, -w_ixL]
  · have ef := fin_ok ok (by omega) S.le S.all S.bef (S.at_ hf)
    have t2 := fun x0 x1 x5 x6 x7 x8 G => tail2 ok hl ef u v er x0 x1 x5 x6 x7 x8 G
    obtain ⟨E, hE⟩ : ∃ E, (rows.map fun r => D.str r.txt) = E := ⟨_, rfl⟩
    rw [hE] at lr t2 ⊢
    obtain ⟨BW, hBW⟩ : ∃ BW, bW bs = BW := ⟨_, rfl⟩
    rw [hBW] at jb ⊢
    by_cases h1 : 1 < rows.length
    · have hc2 : ¬ c2 % 5 = 1 := fun q => hc ⟨h1, q⟩
      have p1 : (1 : Int) < (rows.length : Int) := by omega
      simp -implicitDefEqProofs [utl_law_1, jb, lr, p1, ec2', hc2, t2, -w_join, -w_ixL]
    · have p1 : ¬ (1 : Int) < (rows.length : Int) := by omega
      have p2 : rows.length ≤ 1 := by omega
      simp -implicitDefEqProofs [utl_law_1, jb, lr, p1, p2, t2, -w_join, -w_ixL]
theorem law_true (ns : List Int) (hn : ns.length ≤ 63) : f_law [.scr ns] = .ok (.bl true) := by
  obtain ⟨c0, ec0⟩ := cell_at ns 0
  obtain ⟨c1, ec1⟩ := cell_at ns 1
  obtain ⟨c2, ec2⟩ := cell_at ns 2
  have ec0' : f__law_cell_at [.scr ns, .int 0] = .ok (.int c0) := ec0
  have ec1' : f__law_cell_at [.scr ns, .int 1] = .ok (.int c1) := ec1
  have ec2' : f__law_cell_at [.scr ns, .int 2] = .ok (.int c2) := ec2
  obtain ⟨rows, el, hne, hl, ok, g0, g2⟩ := lines_ex ns hn (c0 % 3) (by omega)
  have hpos : 0 < rows.length := List.length_pos_iff.mpr hne
  have jr := fun G => join_r ok (by omega) G
  have lr : (rows.map fun r => D.str r.txt).length = rows.length := by simp
  obtain ⟨u, v, er, hu, h0, h2⟩ : ∃ u v : Int, f__law_fault [.str (rollT rows)] = .ok (.lst [.int u, .int v]) ∧ (u = 0 ∨ u = 1) ∧ (c0 % 3 = 0 → u = 0 ∧ v = 0) ∧ (c0 % 3 = 2 → u = 1 ∧ v = 0) := by
    cases hg : goodB rows with
    | true => exact ⟨0, 0, fault_ok hne ok (by omega) hg, .inl rfl, fun _ => ⟨rfl, rfl⟩, fun h => by rw [g2 h] at hg; cases hg⟩
    | false => exact ⟨1, 0, fault_no hne ok (by omega) hg, .inr rfl, (fun h => absurd (g0 h) (by rw [hg]; decide)), fun _ => ⟨rfl, rfl⟩⟩
  have S0 : Sp rows (rows.map Rw.txt) rows.length := ⟨by simp, by omega, fun z hz => by
    obtain ⟨r, hr, rfl⟩ := List.mem_map.mp hz
    exact .inl ⟨r, hr, rfl⟩, fun i hi r hr => by rw [List.getElem?_map, hr]; rfl, fun h => absurd h (by omega)⟩
  have lp := forM_N (g := gN 6) (b := l_law_1) (ws := rngW 0 (1 + c1 % 3).toNat) (fun i s G => ∃ (bs : List Str) (f : Nat) (x6 x7 x8 : Option W), s = [some (.d (.scr ns)), some (.d (.int (c0 % 3))), some (.d (.lst (rows.map fun r => D.str r.txt))), some (.d (.lst [.int u, .int v])), some (.d (.int (f : Int))), some (.ref 0), x6, x7, x8, none] ∧ G = [.lst (bW bs)] ∧ Sp rows bs f ∧ (0 < i → f < rows.length)) (fun i w hw s G ⟨bs, f, x6, x7, x8, hs, hG, S, hf⟩ => by
    subst hs hG
    obtain ⟨hi, rfl⟩ := rng_at hw
    have m1 : mulOk (i : Int) (i : Int) = true := mulOk_l (by omega)
    have m2 : mulOk 7 (i : Int) = true := mulOk_l (by omega)
    have p1 : (0 : Int) < 1 + 7 * (i : Int) := by omega
    have p2 : (0 : Int) < (rows.length : Int) := by omega
    have p3 : 1 + 7 * (i : Int) < 1073741824 := by omega
    have p4 : (rows.length : Int) < 1073741824 := by omega
    obtain ⟨X, hX⟩ : ∃ X : Int, c1 / 3 + (i : Int) * (i : Int) + c2 / (1 + 7 * (i : Int)) = X := ⟨_, rfl⟩
    obtain ⟨a, ha, ea⟩ := modN X rows.length hpos
    obtain ⟨r, hr⟩ : ∃ r, rows[a]? = some r := ⟨_, List.getElem?_eq_getElem ha⟩
    obtain ⟨z, ez, bz⟩ := spoiled_ok (ok r (List.mem_of_getElem? hr)) (X / rows.length)
    have S2 := S.step ha bz
    have i0 : ∀ G, wIx (.d (.lst (rows.map fun r => D.str r.txt))) (.d (.int (a : Int))) G = .ok (.d (.str r.txt), G) := fun G => by
      rw [w_ixL, atI_ofNat, List.getElem?_map, hr]; rfl
    have lW : (bW bs).length = rows.length := by unfold bW; rw [List.length_map, S.len]
    have ix1 : ixN rows.length (a : Int) = some a := ixN_ofNat (by omega)
    have mn : (if a < f then (a : Int) else (f : Int)) = ((min f a : Nat) : Int) := by split <;> omega
    have es : (bW bs).set a (.d (.str z)) = bW (bs.set a z) := by
      unfold bW
      rw [List.map_set]
    refine ⟨_, _, ?_, bs.set a z, min f a, some (.d (.int (i : Int))), some (.d (.int X)), some (.d (.int (a : Int))), rfl, rfl, S2, fun _ => by omega⟩
    obtain ⟨E, hE⟩ : ∃ E, (rows.map fun r => D.str r.txt) = E := ⟨_, rfl⟩
    rw [hE] at lr i0 ⊢
    obtain ⟨BW, hBW⟩ : ∃ BW, bW bs = BW := ⟨_, rfl⟩
    rw [hBW] at es lW ⊢
    obtain ⟨RT, hRT⟩ : ∃ RT, r.txt = RT := ⟨_, rfl⟩
    rw [hRT] at i0 ez
    simp -implicitDefEqProofs [ul_law_1, ec1', ec2', m1, m2, p1, p2, p3, p4, hpos, hX, lr, ea, i0, ez, lW, ix1, es, mn, -w_ixL]) (s := [some (.d (.scr ns)), some (.d (.int (c0 % 3))), some (.d (.lst (rows.map fun r => D.str r.txt))), some (.d (.lst [.int u, .int v])), some (.d (.int (rows.length : Int))), some (.ref 0), none, none, none, none]) (G := [.lst (bW (rows.map Rw.txt))]) ⟨_, _, _, _, _, rfl, rfl, S0, fun h => absurd h (by omega)⟩
  obtain ⟨s, G, e, bs, f, x6, x7, x8, rfl, rfl, S, hf⟩ := lp
  have hff : f < rows.length := hf (by rw [rng_len]; omega)
  have t1 := tail1 ok (by omega) S hff u v er ns (some (.d (.int (c0 % 3)))) x6 x7 x8 none
  have eB : ((rows.map fun r => D.str r.txt).map W.d) = bW (rows.map Rw.txt) := by unfold bW; simp
  have b1 : (-4611686018427387904 : Int) ≤ 1 + c1 % 3 := by omega
  have b2 : 1 + c1 % 3 < 4611686018427387904 := by omega
  have p0 := pl2 0 0 true
  have p1 := pl2 1 0 true
  obtain ⟨E, hE⟩ : ∃ E, (rows.map fun r => D.str r.txt) = E := ⟨_, rfl⟩
  rw [hE] at lr jr el eB e t1
  obtain ⟨T, hT⟩ : ∃ T, rollT rows = T := ⟨_, rfl⟩
  rw [hT] at jr er
  obtain ⟨BW, hBW⟩ : ∃ BW, bW (rows.map Rw.txt) = BW := ⟨_, rfl⟩
  rw [hBW] at eB e
  rw [o_law, cut_law]
  have hst : c0 % 3 = 0 ∨ c0 % 3 = 1 ∨ c0 % 3 = 2 := by omega
  rcases hst with h | h | h
  · obtain ⟨rfl, rfl⟩ := h0 h
    rw [h] at el e t1
    simp -implicitDefEqProofs [ec0', ec1', h, el, jr, er, p0, p1, lr, eB, b1, b2, e, t1, -w_join]
  · rw [h] at el e t1
    rcases hu with rfl | rfl
    · simp -implicitDefEqProofs [ec0', ec1', h, el, jr, er, p0, p1, lr, eB, b1, b2, e, t1, -w_join]
    · simp -implicitDefEqProofs [ec0', ec1', h, el, jr, er, p0, p1, lr, eB, b1, b2, e, t1, -w_join]
  · obtain ⟨rfl, rfl⟩ := h2 h
    rw [h] at el e t1
    simp -implicitDefEqProofs [ec0', ec1', h, el, jr, er, p0, p1, lr, eB, b1, b2, e, t1, -w_join]
end Q

end
open PySem PySem.W PyProof.Rows in
set_option maxRecDepth 100000 in
set_option maxHeartbeats 0 in
theorem PySem.Challenge.cw_stepledger_k03_bad_row_holds : PySem.Challenge.rw_stepledger_k03_bad_row.Holds := by
  w_on; o_law; k_head; (case hw => w_witness2)
  k_fill
  refine L2.walk_of (l := PySem.Challenge.rw_stepledger_k03_bad_row) (n := 63) (k := 5) (x := "script") (CX := fun w => L2.CX PySem.Challenge.pw_stepledger_k03_bad_row w) (sp := fun w => M.spLaw _) rfl (by decide) rfl ⟨rfl, by decide, by decide⟩ (fun w h Y => PySem.W.kIn_of Y) ?F (fun _ _ a ns hl _ hS => ⟨a, ns, rfl, hS, hl, fun _ => rfl⟩) (M.noCX (P := PySem.Challenge.pw_stepledger_k03_bad_row))
  case F =>
    intro w mg fa h KX G hmg
    refine' Q.all_mk KX G hmg ⟨?d__law_cell_at, ?d__law_mixed, ?d__law_number, ?d__law_line, ?d__law_lines, ?d_is_number, ?d_row_of, ?d_leads_to, ?d_read_roll, ?d__law_fault, ?d__law_other_word, ?d__law_bad_number, ?d__law_spoiled, ?d_law, ?x_NoRoll, ?w_BadRow, ?b_LedgerError, ?e_BadRow, ?h_LedgerError, ?i_BadCut, ?i_BadGiven, ?i_BadRow, ?i_NoDispute, ?i_NoRoll, ?i_NoTime, ?i_Spent, ?i_Unfit, ?i_ValueError, ?c_SHAPES, ?n_any, ?n_bool, ?n_enumerate, ?n_int, ?n_isinstance, ?n_len, ?n_list, ?n_max, ?n_min, ?n_range, ?n_str, ?n_tuple, ?n_zip⟩ Q.law_true
    case d__law_cell_at =>
      refine' M.defAt_mk KX G ?wa0 ?wl0 ?wq0 ?wk0 (fun _ _ _ _ _ _ us hl => match us, hl with | [_, _], _ => rfl)
      (case wa0 => k_is); (case wl0 => k_is); (case wq0 => k_is); (case wk0 => k_is)
    case d__law_mixed =>
      refine' M.defAt_mk KX G ?wa1 ?wl1 ?wq1 ?wk1 (fun _ _ _ _ _ _ us hl => match us, hl with | [_, _], _ => rfl)
      (case wa1 => k_is); (case wl1 => k_is); (case wq1 => k_is); (case wk1 => k_is)
    case d__law_number =>
      refine' M.defAt_mk KX G ?wa2 ?wl2 ?wq2 ?wk2 (fun _ _ _ _ _ _ us hl => match us, hl with | [_], _ => rfl)
      (case wa2 => k_is); (case wl2 => k_is); (case wq2 => k_is); (case wk2 => k_is)
    case d__law_line =>
      refine' M.defAt_mk KX G ?wa3 ?wl3 ?wq3 ?wk3 (fun _ _ _ _ _ _ us hl => match us, hl with | [_, _], _ => rfl)
      (case wa3 => k_is); (case wl3 => k_is); (case wq3 => k_is); (case wk3 => k_is)
    case d__law_lines =>
      refine' M.defAt_mk KX G ?wa4 ?wl4 ?wq4 ?wk4 (fun _ _ _ _ _ _ us hl => match us, hl with | [_, _], _ => rfl)
      (case wa4 => k_is); (case wl4 => k_is); (case wq4 => k_is); (case wk4 => k_is)
    case d_is_number =>
      refine' M.defAt_mk KX G ?wa5 ?wl5 ?wq5 ?wk5 (fun _ _ _ _ _ _ us hl => match us, hl with | [_], _ => rfl)
      (case wa5 => k_is); (case wl5 => k_is); (case wq5 => k_is); (case wk5 => k_is)
    case d_row_of =>
      refine' M.defAt_mk KX G ?wa6 ?wl6 ?wq6 ?wk6 (fun _ _ _ _ _ _ us hl => match us, hl with | [_], _ => rfl)
      (case wa6 => k_is); (case wl6 => k_is); (case wq6 => k_is); (case wk6 => k_is)
    case d_leads_to =>
      refine' M.defAt_mk KX G ?wa7 ?wl7 ?wq7 ?wk7 (fun _ _ _ _ _ _ us hl => match us, hl with | [_], _ => rfl)
      (case wa7 => k_is); (case wl7 => k_is); (case wq7 => k_is); (case wk7 => k_is)
    case d_read_roll =>
      refine' M.defAt_mk KX G ?wa8 ?wl8 ?wq8 ?wk8 (fun _ _ _ _ _ _ us hl => match us, hl with | [_], _ => rfl)
      (case wa8 => k_is); (case wl8 => k_is); (case wq8 => k_is); (case wk8 => k_is)
    case d__law_fault =>
      refine' M.defAt_mk KX G ?wa9 ?wl9 ?wq9 ?wk9 (fun _ _ _ _ _ _ us hl => match us, hl with | [_], _ => rfl)
      (case wa9 => k_is); (case wl9 => k_is); (case wq9 => k_is); (case wk9 => k_is)
    case d__law_other_word =>
      refine' M.defAt_mk KX G ?wa10 ?wl10 ?wq10 ?wk10 (fun _ _ _ _ _ _ us hl => match us, hl with | [_, _], _ => rfl)
      (case wa10 => k_is); (case wl10 => k_is); (case wq10 => k_is); (case wk10 => k_is)
    case d__law_bad_number =>
      refine' M.defAt_mk KX G ?wa11 ?wl11 ?wq11 ?wk11 (fun _ _ _ _ _ _ us hl => match us, hl with | [_, _], _ => rfl)
      (case wa11 => k_is); (case wl11 => k_is); (case wq11 => k_is); (case wk11 => k_is)
    case d__law_spoiled =>
      refine' M.defAt_mk KX G ?wa12 ?wl12 ?wq12 ?wk12 (fun _ _ _ _ _ _ us hl => match us, hl with | [_, _], _ => rfl)
      (case wa12 => k_is); (case wl12 => k_is); (case wq12 => k_is); (case wk12 => k_is)
    case d_law =>
      refine' M.defAt_mk KX G ?wa13 ?wl13 ?wq13 ?wk13 (fun _ _ _ _ _ _ us hl => match us, hl with | [_], _ => rfl)
      (case wa13 => k_is); (case wl13 => k_is); (case wq13 => k_is); (case wk13 => k_is)
    case x_NoRoll =>
      refine' M.excT_mk KX G ?aCx0 ?qx0 ?kx0 ?bx0 ?tx0
      (case aCx0 => k_is); (case qx0 => k_exc); (case kx0 => k_is); (case bx0 => k_is); (case tx0 => k_is)
    case w_BadRow =>
      refine' M.initAt_mk KX G ?aCw0 ?lCw0 ?qCw0 ?saw0 ?eCw0 ?tCw0 ?kCw0 ?aw0 ?tw0 ?nfw0 ?lw0 ?qw0 ?kw0 (fun _ _ _ _ _ _ us hl => match us, hl with | [_, _], _ => rfl)
      (case aCw0 => k_is); (case lCw0 => k_is); (case qCw0 => rfl); (case saw0 => k_is); (case eCw0 => k_is); (case tCw0 => k_is); (case kCw0 => k_is); (case aw0 => k_is); (case tw0 => k_is); (case nfw0 => k_is); (case lw0 => k_is); (case qw0 => k_is); (case kw0 => k_is)
    case b_LedgerError =>
      refine' M.baseAt_mk KX G ?aCb0 ?gab0 ?rdb0 ?fcb0
      (case aCb0 => first | k_is | rfl); (case gab0 => first | k_is | rfl); (case rdb0 => first | k_is | rfl); (case fcb0 => first | k_is | rfl)
    case e_BadRow =>
      refine' M.errA_mk KX G ?aCe0 ?gae0 ?gge0 ?eCe0 ?hde0 ?nfe0
      (case aCe0 => first | k_is | rfl); (case gae0 => first | k_is | rfl); (case gge0 => first | k_is | rfl); (case eCe0 => first | k_is | rfl); (case hde0 => first | k_is | rfl); (case nfe0 => first | k_is | rfl)
    case h_LedgerError =>
      refine' M.hits_mk KX G ?gx1 (M.hit_one KX G ?gx2 (M.exm_own ?gx3 ?gx4 ?gx5 ?gx6) (M.hit_one KX G ?gx7 (M.exm_own ?gx8 ?gx9 ?gx10 ?gx11) trivial))
      (case gx1 => first | k_is | rfl); (case gx2 => first | k_is | rfl); (case gx3 => first | k_is | rfl); (case gx4 => first | k_is | rfl); (case gx5 => first | k_is | rfl); (case gx6 => first | k_is | rfl); (case gx7 => first | k_is | rfl); (case gx8 => first | k_is | rfl); (case gx9 => first | k_is | rfl); (case gx10 => first | k_is | rfl); (case gx11 => first | k_is | rfl)
    case i_BadCut =>
      refine' M.is1_mk (M.clsN_own KX G ?gx12 (by decide)) (M.kit_own ?gx13 ?gx14 ?gx15 ?gx16) (M.is_one KX G ?gx17 ⟨?gx18, ?gx19, ?gx20, ?gx21, ?gx22, ?gx23, ?gx24, ?gx25⟩ (M.kit_own ?gx26 ?gx27 ?gx28 ?gx29) (M.is_one KX G ?gx30 ⟨?gx31, ?gx32, ?gx33, ?gx34, ?gx35, ?gx36, ?gx37, ?gx38⟩ (M.kit_own ?gx39 ?gx40 ?gx41 ?gx42) trivial))
      (case gx12 => first | k_is | rfl); (case gx13 => first | k_is | rfl); (case gx14 => first | k_is | rfl); (case gx15 => first | k_is | rfl); (case gx16 => first | k_is | rfl); (case gx17 => first | k_is | rfl); (case gx18 => first | k_is | rfl); (case gx19 => first | k_is | rfl); (case gx20 => first | k_is | rfl); (case gx21 => first | k_is | rfl); (case gx22 => first | k_is | rfl); (case gx23 => first | k_is | rfl); (case gx24 => first | k_is | rfl); (case gx25 => first | k_is | rfl); (case gx26 => first | k_is | rfl); (case gx27 => first | k_is | rfl); (case gx28 => first | k_is | rfl); (case gx29 => first | k_is | rfl); (case gx30 => first | k_is | rfl); (case gx31 => first | k_is | rfl); (case gx32 => first | k_is | rfl); (case gx33 => first | k_is | rfl); (case gx34 => first | k_is | rfl); (case gx35 => first | k_is | rfl); (case gx36 => first | k_is | rfl); (case gx37 => first | k_is | rfl); (case gx38 => first | k_is | rfl); (case gx39 => first | k_is | rfl); (case gx40 => first | k_is | rfl); (case gx41 => first | k_is | rfl); (case gx42 => first | k_is | rfl)
    case i_BadGiven =>
      refine' M.is1_mk (M.clsN_own KX G ?gx43 (by decide)) (M.kit_own ?gx44 ?gx45 ?gx46 ?gx47) (M.is_one KX G ?gx48 ⟨?gx49, ?gx50, ?gx51, ?gx52, ?gx53, ?gx54, ?gx55, ?gx56⟩ (M.kit_own ?gx57 ?gx58 ?gx59 ?gx60) (M.is_one KX G ?gx61 ⟨?gx62, ?gx63, ?gx64, ?gx65, ?gx66, ?gx67, ?gx68, ?gx69⟩ (M.kit_own ?gx70 ?gx71 ?gx72 ?gx73) trivial))
      (case gx43 => first | k_is | rfl); (case gx44 => first | k_is | rfl); (case gx45 => first | k_is | rfl); (case gx46 => first | k_is | rfl); (case gx47 => first | k_is | rfl); (case gx48 => first | k_is | rfl); (case gx49 => first | k_is | rfl); (case gx50 => first | k_is | rfl); (case gx51 => first | k_is | rfl); (case gx52 => first | k_is | rfl); (case gx53 => first | k_is | rfl); (case gx54 => first | k_is | rfl); (case gx55 => first | k_is | rfl); (case gx56 => first | k_is | rfl); (case gx57 => first | k_is | rfl); (case gx58 => first | k_is | rfl); (case gx59 => first | k_is | rfl); (case gx60 => first | k_is | rfl); (case gx61 => first | k_is | rfl); (case gx62 => first | k_is | rfl); (case gx63 => first | k_is | rfl); (case gx64 => first | k_is | rfl); (case gx65 => first | k_is | rfl); (case gx66 => first | k_is | rfl); (case gx67 => first | k_is | rfl); (case gx68 => first | k_is | rfl); (case gx69 => first | k_is | rfl); (case gx70 => first | k_is | rfl); (case gx71 => first | k_is | rfl); (case gx72 => first | k_is | rfl); (case gx73 => first | k_is | rfl)
    case i_BadRow =>
      refine' M.is1_mk (M.clsN_own KX G ?gx74 (by decide)) (M.kit_own ?gx75 ?gx76 ?gx77 ?gx78) (M.is_one KX G ?gx79 ⟨?gx80, ?gx81, ?gx82, ?gx83, ?gx84, ?gx85, ?gx86, ?gx87⟩ (M.kit_own ?gx88 ?gx89 ?gx90 ?gx91) (M.is_one KX G ?gx92 ⟨?gx93, ?gx94, ?gx95, ?gx96, ?gx97, ?gx98, ?gx99, ?gx100⟩ (M.kit_own ?gx101 ?gx102 ?gx103 ?gx104) trivial))
      (case gx74 => first | k_is | rfl); (case gx75 => first | k_is | rfl); (case gx76 => first | k_is | rfl); (case gx77 => first | k_is | rfl); (case gx78 => first | k_is | rfl); (case gx79 => first | k_is | rfl); (case gx80 => first | k_is | rfl); (case gx81 => first | k_is | rfl); (case gx82 => first | k_is | rfl); (case gx83 => first | k_is | rfl); (case gx84 => first | k_is | rfl); (case gx85 => first | k_is | rfl); (case gx86 => first | k_is | rfl); (case gx87 => first | k_is | rfl); (case gx88 => first | k_is | rfl); (case gx89 => first | k_is | rfl); (case gx90 => first | k_is | rfl); (case gx91 => first | k_is | rfl); (case gx92 => first | k_is | rfl); (case gx93 => first | k_is | rfl); (case gx94 => first | k_is | rfl); (case gx95 => first | k_is | rfl); (case gx96 => first | k_is | rfl); (case gx97 => first | k_is | rfl); (case gx98 => first | k_is | rfl); (case gx99 => first | k_is | rfl); (case gx100 => first | k_is | rfl); (case gx101 => first | k_is | rfl); (case gx102 => first | k_is | rfl); (case gx103 => first | k_is | rfl); (case gx104 => first | k_is | rfl)
    case i_NoDispute =>
      refine' M.is1_mk (M.clsN_own KX G ?gx105 (by decide)) (M.kit_own ?gx106 ?gx107 ?gx108 ?gx109) (M.is_one KX G ?gx110 ⟨?gx111, ?gx112, ?gx113, ?gx114, ?gx115, ?gx116, ?gx117, ?gx118⟩ (M.kit_own ?gx119 ?gx120 ?gx121 ?gx122) (M.is_one KX G ?gx123 ⟨?gx124, ?gx125, ?gx126, ?gx127, ?gx128, ?gx129, ?gx130, ?gx131⟩ (M.kit_own ?gx132 ?gx133 ?gx134 ?gx135) trivial))
      (case gx105 => first | k_is | rfl); (case gx106 => first | k_is | rfl); (case gx107 => first | k_is | rfl); (case gx108 => first | k_is | rfl); (case gx109 => first | k_is | rfl); (case gx110 => first | k_is | rfl); (case gx111 => first | k_is | rfl); (case gx112 => first | k_is | rfl); (case gx113 => first | k_is | rfl); (case gx114 => first | k_is | rfl); (case gx115 => first | k_is | rfl); (case gx116 => first | k_is | rfl); (case gx117 => first | k_is | rfl); (case gx118 => first | k_is | rfl); (case gx119 => first | k_is | rfl); (case gx120 => first | k_is | rfl); (case gx121 => first | k_is | rfl); (case gx122 => first | k_is | rfl); (case gx123 => first | k_is | rfl); (case gx124 => first | k_is | rfl); (case gx125 => first | k_is | rfl); (case gx126 => first | k_is | rfl); (case gx127 => first | k_is | rfl); (case gx128 => first | k_is | rfl); (case gx129 => first | k_is | rfl); (case gx130 => first | k_is | rfl); (case gx131 => first | k_is | rfl); (case gx132 => first | k_is | rfl); (case gx133 => first | k_is | rfl); (case gx134 => first | k_is | rfl); (case gx135 => first | k_is | rfl)
    case i_NoRoll =>
      refine' M.is1_mk (M.clsN_own KX G ?gx136 (by decide)) (M.kit_own ?gx137 ?gx138 ?gx139 ?gx140) (M.is_one KX G ?gx141 ⟨?gx142, ?gx143, ?gx144, ?gx145, ?gx146, ?gx147, ?gx148, ?gx149⟩ (M.kit_own ?gx150 ?gx151 ?gx152 ?gx153) (M.is_one KX G ?gx154 ⟨?gx155, ?gx156, ?gx157, ?gx158, ?gx159, ?gx160, ?gx161, ?gx162⟩ (M.kit_own ?gx163 ?gx164 ?gx165 ?gx166) trivial))
      (case gx136 => first | k_is | rfl); (case gx137 => first | k_is | rfl); (case gx138 => first | k_is | rfl); (case gx139 => first | k_is | rfl); (case gx140 => first | k_is | rfl); (case gx141 => first | k_is | rfl); (case gx142 => first | k_is | rfl); (case gx143 => first | k_is | rfl); (case gx144 => first | k_is | rfl); (case gx145 => first | k_is | rfl); (case gx146 => first | k_is | rfl); (case gx147 => first | k_is | rfl); (case gx148 => first | k_is | rfl); (case gx149 => first | k_is | rfl); (case gx150 => first | k_is | rfl); (case gx151 => first | k_is | rfl); (case gx152 => first | k_is | rfl); (case gx153 => first | k_is | rfl); (case gx154 => first | k_is | rfl); (case gx155 => first | k_is | rfl); (case gx156 => first | k_is | rfl); (case gx157 => first | k_is | rfl); (case gx158 => first | k_is | rfl); (case gx159 => first | k_is | rfl); (case gx160 => first | k_is | rfl); (case gx161 => first | k_is | rfl); (case gx162 => first | k_is | rfl); (case gx163 => first | k_is | rfl); (case gx164 => first | k_is | rfl); (case gx165 => first | k_is | rfl); (case gx166 => first | k_is | rfl)
    case i_NoTime =>
      refine' M.is1_mk (M.clsN_own KX G ?gx167 (by decide)) (M.kit_own ?gx168 ?gx169 ?gx170 ?gx171) (M.is_one KX G ?gx172 ⟨?gx173, ?gx174, ?gx175, ?gx176, ?gx177, ?gx178, ?gx179, ?gx180⟩ (M.kit_own ?gx181 ?gx182 ?gx183 ?gx184) (M.is_one KX G ?gx185 ⟨?gx186, ?gx187, ?gx188, ?gx189, ?gx190, ?gx191, ?gx192, ?gx193⟩ (M.kit_own ?gx194 ?gx195 ?gx196 ?gx197) trivial))
      (case gx167 => first | k_is | rfl); (case gx168 => first | k_is | rfl); (case gx169 => first | k_is | rfl); (case gx170 => first | k_is | rfl); (case gx171 => first | k_is | rfl); (case gx172 => first | k_is | rfl); (case gx173 => first | k_is | rfl); (case gx174 => first | k_is | rfl); (case gx175 => first | k_is | rfl); (case gx176 => first | k_is | rfl); (case gx177 => first | k_is | rfl); (case gx178 => first | k_is | rfl); (case gx179 => first | k_is | rfl); (case gx180 => first | k_is | rfl); (case gx181 => first | k_is | rfl); (case gx182 => first | k_is | rfl); (case gx183 => first | k_is | rfl); (case gx184 => first | k_is | rfl); (case gx185 => first | k_is | rfl); (case gx186 => first | k_is | rfl); (case gx187 => first | k_is | rfl); (case gx188 => first | k_is | rfl); (case gx189 => first | k_is | rfl); (case gx190 => first | k_is | rfl); (case gx191 => first | k_is | rfl); (case gx192 => first | k_is | rfl); (case gx193 => first | k_is | rfl); (case gx194 => first | k_is | rfl); (case gx195 => first | k_is | rfl); (case gx196 => first | k_is | rfl); (case gx197 => first | k_is | rfl)
    case i_Spent =>
      refine' M.is1_mk (M.clsN_own KX G ?gx198 (by decide)) (M.kit_own ?gx199 ?gx200 ?gx201 ?gx202) (M.is_one KX G ?gx203 ⟨?gx204, ?gx205, ?gx206, ?gx207, ?gx208, ?gx209, ?gx210, ?gx211⟩ (M.kit_own ?gx212 ?gx213 ?gx214 ?gx215) (M.is_one KX G ?gx216 ⟨?gx217, ?gx218, ?gx219, ?gx220, ?gx221, ?gx222, ?gx223, ?gx224⟩ (M.kit_own ?gx225 ?gx226 ?gx227 ?gx228) trivial))
      (case gx198 => first | k_is | rfl); (case gx199 => first | k_is | rfl); (case gx200 => first | k_is | rfl); (case gx201 => first | k_is | rfl); (case gx202 => first | k_is | rfl); (case gx203 => first | k_is | rfl); (case gx204 => first | k_is | rfl); (case gx205 => first | k_is | rfl); (case gx206 => first | k_is | rfl); (case gx207 => first | k_is | rfl); (case gx208 => first | k_is | rfl); (case gx209 => first | k_is | rfl); (case gx210 => first | k_is | rfl); (case gx211 => first | k_is | rfl); (case gx212 => first | k_is | rfl); (case gx213 => first | k_is | rfl); (case gx214 => first | k_is | rfl); (case gx215 => first | k_is | rfl); (case gx216 => first | k_is | rfl); (case gx217 => first | k_is | rfl); (case gx218 => first | k_is | rfl); (case gx219 => first | k_is | rfl); (case gx220 => first | k_is | rfl); (case gx221 => first | k_is | rfl); (case gx222 => first | k_is | rfl); (case gx223 => first | k_is | rfl); (case gx224 => first | k_is | rfl); (case gx225 => first | k_is | rfl); (case gx226 => first | k_is | rfl); (case gx227 => first | k_is | rfl); (case gx228 => first | k_is | rfl)
    case i_Unfit =>
      refine' M.is1_mk (M.clsN_own KX G ?gx229 (by decide)) (M.kit_own ?gx230 ?gx231 ?gx232 ?gx233) (M.is_one KX G ?gx234 ⟨?gx235, ?gx236, ?gx237, ?gx238, ?gx239, ?gx240, ?gx241, ?gx242⟩ (M.kit_own ?gx243 ?gx244 ?gx245 ?gx246) (M.is_one KX G ?gx247 ⟨?gx248, ?gx249, ?gx250, ?gx251, ?gx252, ?gx253, ?gx254, ?gx255⟩ (M.kit_own ?gx256 ?gx257 ?gx258 ?gx259) trivial))
      (case gx229 => first | k_is | rfl); (case gx230 => first | k_is | rfl); (case gx231 => first | k_is | rfl); (case gx232 => first | k_is | rfl); (case gx233 => first | k_is | rfl); (case gx234 => first | k_is | rfl); (case gx235 => first | k_is | rfl); (case gx236 => first | k_is | rfl); (case gx237 => first | k_is | rfl); (case gx238 => first | k_is | rfl); (case gx239 => first | k_is | rfl); (case gx240 => first | k_is | rfl); (case gx241 => first | k_is | rfl); (case gx242 => first | k_is | rfl); (case gx243 => first | k_is | rfl); (case gx244 => first | k_is | rfl); (case gx245 => first | k_is | rfl); (case gx246 => first | k_is | rfl); (case gx247 => first | k_is | rfl); (case gx248 => first | k_is | rfl); (case gx249 => first | k_is | rfl); (case gx250 => first | k_is | rfl); (case gx251 => first | k_is | rfl); (case gx252 => first | k_is | rfl); (case gx253 => first | k_is | rfl); (case gx254 => first | k_is | rfl); (case gx255 => first | k_is | rfl); (case gx256 => first | k_is | rfl); (case gx257 => first | k_is | rfl); (case gx258 => first | k_is | rfl); (case gx259 => first | k_is | rfl)
    case i_ValueError =>
      refine' M.is1_mk (M.clsN_VE KX G ?gx260) (L2.kit_ty (by decide +kernel)) (M.is_one KX G ?gx261 ⟨?gx262, ?gx263, ?gx264, ?gx265, ?gx266, ?gx267, ?gx268, ?gx269⟩ (M.kit_VE (by rfl) ?gx270) (M.is_one KX G ?gx271 ⟨?gx272, ?gx273, ?gx274, ?gx275, ?gx276, ?gx277, ?gx278, ?gx279⟩ (M.kit_VE (by rfl) ?gx280) trivial))
      (case gx260 => first | k_is | rfl); (case gx261 => first | k_is | rfl); (case gx262 => first | k_is | rfl); (case gx263 => first | k_is | rfl); (case gx264 => first | k_is | rfl); (case gx265 => first | k_is | rfl); (case gx266 => first | k_is | rfl); (case gx267 => first | k_is | rfl); (case gx268 => first | k_is | rfl); (case gx269 => first | k_is | rfl); (case gx270 => first | k_is | rfl); (case gx271 => first | k_is | rfl); (case gx272 => first | k_is | rfl); (case gx273 => first | k_is | rfl); (case gx274 => first | k_is | rfl); (case gx275 => first | k_is | rfl); (case gx276 => first | k_is | rfl); (case gx277 => first | k_is | rfl); (case gx278 => first | k_is | rfl); (case gx279 => first | k_is | rfl); (case gx280 => first | k_is | rfl)
    case c_SHAPES =>
      refine' M.conK_mk KX G ?ca0 ?cl0 ?ck0 ?cz0 ?cb0
      (case ca0 => k_is); (case cl0 => k_is); (case ck0 => k_keys); (case cz0 => decide); (case cb0 => rfl)
    case n_any => exact PySem.W.mg_none_of KX G (by k_is)
    case n_bool => exact PySem.W.mg_none_of KX G (by k_is)
    case n_enumerate => exact PySem.W.mg_none_of KX G (by k_is)
    case n_int => exact PySem.W.mg_none_of KX G (by k_is)
    case n_isinstance => exact PySem.W.mg_none_of KX G (by k_is)
    case n_len => exact PySem.W.mg_none_of KX G (by k_is)
    case n_list => exact PySem.W.mg_none_of KX G (by k_is)
    case n_max => exact PySem.W.mg_none_of KX G (by k_is)
    case n_min => exact PySem.W.mg_none_of KX G (by k_is)
    case n_range => exact PySem.W.mg_none_of KX G (by k_is)
    case n_str => exact PySem.W.mg_none_of KX G (by k_is)
    case n_tuple => exact PySem.W.mg_none_of KX G (by k_is)
    case n_zip => exact PySem.W.mg_none_of KX G (by k_is)
