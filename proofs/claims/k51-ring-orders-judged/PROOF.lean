import PyProof.Rows.All
import HandS.ForMost
import HandS.Deep
import HandS.Walk
import HandS.TupAny
import HandS.Strs
import PyProof.Rows.SortShellAny
import HandS.IsInst
import HandS.SortInts
import HandS.Flow
import HandS.Style
import HandS.Wide
import HandS.Zip
import HandS.More
import HandS.Defaults
import HandS.ExcInit
import HandS.Lambda
import HandS.EndTab
import HandS.TryOnly
import HandS.Head0
import HandS.Head1
import HandS.Head2
import HandS.HeadEnd
import HandS.HeadHook1
import HandS.HeadHook2
import HandS.HeadHook3
import HandS.HotCalls
import HandS.ExcField
import KE.KExcInit
import HandS.SetFor
import KE.GoesEnum
import HandS.HeadHook4
import HandS.HeadWalk
import HandS.NestedK
import HandS.WrittenGet
import HandS.MakeKw
import HandS.DictComp
import HandS.CallLocal
import HandS.Star
import HandS.Sort
import HandS.Conv
import HandS.FStr
import KE.KOpsOwn
import OpenK.KOps
import OpenK.KMeth
import KE.KCallOwn
import HandS.OwnEq
import PyProof.Conv_bool
import PyProof.EqKinds
import HandS.Codes
import HandS.RaiseMore
import HandS.SetBool
import HandS.SortOrd
import HandS.Text
import KE.KUnpackStar
import Wide.All
import OpenK.AllK
import Wide.FinOn
import PyProof.EqAt
import HandS.HeadNt
import HandS.ClsMeth
import KE.SortData
import PyProof.WalkInts
import HandS.ReplaceLit
import KE.DataMinMax
import KE.OsGo
import PySem.Challenge.RW_threeorders_k51_ring_orders_judged
set_option Elab.async false
set_option linter.all false
set_option maxRecDepth 100000
set_option maxHeartbeats 4000000
/-! The data layer, part z: tuples whose object is known to bear no dict. -/
namespace DL
open PySem PySem.Spec PyProof.Rows L2

/-- the tuple at a, without a dict -/
def TupG (K : PySem.W.Frag) (H : Hp) (a : Addr) (xs : List V) : Prop := SqT K H a xs ∧ ((∃ o, H a = some (.frz o (.tup xs)) ∧ o.dict = none) ∨ ∃ o, K.lookup a = some o ∧ o.dict = none)
section
variable {X : Cx} {pins : List (Addr × Obj)} {σ : L2.St} {H : Hp} {s : Shared} {a : Addr} {xs : List V}
theorem TupG.is (I : Inv X pins σ H s) (h : TupG X.K H a xs) : s.TypeIs (.ref a) "tuple" ∧ ∃ o, s.heap.get? a = some o ∧ o.dict = none := by
  obtain ⟨its, r, pl, hz⟩ := I.tuple h.1
  refine ⟨pl.typeIs, ?_⟩
  rcases h.2 with ⟨o, e, hd⟩ | ⟨o, e, hd⟩
  · exact ⟨o, (I.hok a _ e).1, hd⟩
  · exact ⟨o, I.kIn _ _ e, hd⟩
abbrev tupO (its : List Value) : Obj := { cls := .type "tuple", data := .seq its.toArray }
/-- a new tuple is laid -/
theorem lay_tup {t' : Nat} {its : List Value} (I : Inv X pins σ H s) (hl : xs.length ≤ sizeLine) (r : Vals xs its) : Inv X pins σ (upd H s.heap.objs.size (.frz (tupO its) (.tup xs))) { s with heap := s.heap.push (tupO its), toks := t' } :=
  I.laid (t' := t') (fun b ob q => Heap.get?_push_of_some _ q) (Nat.le_refl _) ⟨Heap.get?_push_size _ rfl, hl, its, r, IsTup.new _ _⟩
/-- what is wanted of a new tuple -/
def NewT (H : Hp) (xs : List V) (Q : VK) : Prop := ∀ p o, H p = none → o.dict = none → Q (.ref p) (upd H p (.frz o (.tup xs)))
end
section
variable {X : Cx} {es : List Expr} {t : TA} {pos : Pos}
def tTupF (t : TA) : TE := fun σ H Q => t σ H fun xs H1 => xs.length ≤ sizeLine ∧ NewT H1 xs Q
theorem pe_tupF {k : Nat} (h : PA X es t) : PE X (.Tuple es k pos) (tTupF t) := by
  constructor
  intro pins s σ H Q I hq
  refine wpAny_Tuple_spliced (thn (h.run pos pins s σ H _ I hq) fun us s1 hh => ?_)
  obtain ⟨xs, H1, I1, r, z, q⟩ := hh
  exact ⟨by rw [← r.length]; exact z, .ref s1.heap.objs.size, _, lay_tup (t' := s1.toks) I1 z r, rfl, q _ _ (I1.hok.fresh (Nat.le_refl _)) rfl⟩
/-- t + u -/
def rCatF (K : PySem.W.Frag) : R2 := fun x y H Q => ∃ a b xs ys, x = .ref a ∧ y = .ref b ∧ SqT K H a xs ∧ SqT K H b ys ∧ xs.length + ys.length ≤ sizeLine ∧
  (xs = [] → Q (.ref b) H) ∧ (xs ≠ [] → ys = [] → Q (.ref a) H) ∧ (xs ≠ [] → ys ≠ [] → NewT H (xs ++ ys) Q)
theorem op_catF : OpR X (binaryOp .Add) (rCatF X.K) := by
  rintro pins s σ H _ _ v u Q I rx ry ⟨a, b, xs, ys, rfl, rfl, ha, hb, hz, q0, q1, q2⟩
  by_cases hx : xs = []
  · exact op_catA pins s σ H _ _ v u Q I rx ry ⟨a, b, xs, ys, rfl, rfl, ha, hb, hz, q0, q1, fun n _ => absurd hx n⟩
  · by_cases hy : ys = []
    · exact op_catA pins s σ H _ _ v u Q I rx ry ⟨a, b, xs, ys, rfl, rfl, ha, hb, hz, q0, q1, fun _ n => absurd hy n⟩
    · cases rx
      cases ry
      obtain ⟨i1, r1, p1, _⟩ := I.tuple ha
      obtain ⟨i2, r2, p2, _⟩ := I.tuple hb
      refine HT.cat_tup p1 p2 (fun z => hx (r1.nil_iff.mp z)) (fun z => absurd (r2.nil_iff.mp z) hy) (fun z => ?_) (by rw [← r1.length, ← r2.length]; exact hz)
      have J := lay_tup (t' := s.toks) (xs := xs ++ ys) (its := i1 ++ i2) I (by rw [List.length_append]; exact hz) (r1.append r2)
      exact ⟨.ref s.heap.objs.size, _, J, rfl, q2 hx hy _ _ (I.hok.fresh (Nat.le_refl _)) rfl⟩
/-- t[lo:hi] -/
def rSlF (K : PySem.W.Frag) : V → Option Int → Option Int → Hp → VK → Prop := fun x lo hi H Q => ∃ a xs, x = .ref a ∧ SqT K H a xs ∧
  (HT.sIx xs.length 0 lo = 0 ∧ HT.sIx xs.length xs.length hi = xs.length → Q (.ref a) H) ∧ (¬ (HT.sIx xs.length 0 lo = 0 ∧ HT.sIx xs.length xs.length hi = xs.length) → NewT H (cutV xs lo hi) Q)
theorem sl_tupF : SlR X (rSlF X.K) := by
  rintro pins s σ H _ v vl vu lo hi sl Q I rx hs pl pu ⟨a, xs, rfl, hx, q1, q2⟩
  by_cases hw : HT.sIx xs.length 0 lo = 0 ∧ HT.sIx xs.length xs.length hi = xs.length
  · exact sl_tupA pins s σ H _ v vl vu lo hi sl Q I rx hs pl pu ⟨a, xs, rfl, hx, q1, fun n => absurd hw n⟩
  · cases rx
    obtain ⟨its, r, ht, hz⟩ := I.tuple hx
    have hlen : its.toArray.size = xs.length := by rw [List.size_toArray]; exact r.length.symm
    refine ⟨"tuple", _, PyProof.Rows.slot_tuple_getitem.lookup, ht.typeIs, ?_⟩
    refine HT.getItem_tuple_cut ht hs pl pu (by rw [hlen]; exact hw) ?_ (by rw [hlen]; exact hz)
    rw [hlen]
    have J := lay_tup (t' := s.toks) I (Nat.le_trans (cutV_length xs lo hi) hz) ((r.drop (HT.sIx xs.length 0 lo)).take (HT.sIx xs.length xs.length hi - HT.sIx xs.length 0 lo))
    exact ⟨.ref s.heap.objs.size, _, J, rfl, q2 hw _ _ (I.hok.fresh (Nat.le_refl _)) rfl⟩
/-- tuple(xs) -/
theorem call_tupleF : CallR X (.type "tuple") (fun xs H Q => ∃ p ys, xs = [.ref p] ∧ ((SqL X.K H p ys ∧ NewT H ys Q) ∨ (SqT X.K H p ys ∧ Q (.ref p) H))) := by
  rintro pins s σ H xs us Q I r ⟨p, ys, rfl, h⟩
  rcases h with ⟨hq, q⟩ | ⟨hq, q⟩
  · obtain ⟨u, rfl, rx⟩ := vals1 r
    cases rx
    obtain ⟨its, r', pl, hz⟩ := I.list hq
    have hlen := r'.length
    refine call_tuple_list pl.isList (fun h' kp => ?_) (by simp only [List.size_toArray] <;> omega)
    have I1 : Inv X pins σ H { s with heap := h' } := I.kept (t' := s.toks) kp
    exact ⟨.ref h'.objs.size, _, lay_tup (t' := s.toks) I1 hz r', rfl, q _ _ (I1.hok.fresh (Nat.le_refl _)) rfl⟩
  · exact call_tuple_of pins s σ H _ us Q I r ⟨p, ys, rfl, .inr ⟨hq, q⟩⟩
/-- t.m(..) -/
def tTM (K : PySem.W.Frag) (r : V → List V → Hp → VK → Prop) (to : TE) (t : TA) : TE := fun σ H Q => to σ H fun x H1 => (∃ a xs, x = .ref a ∧ TupG K H1 a xs) ∧ t σ H1 fun xs H2 => r x xs H2 Q
theorem pe_tm {o e : Expr} {es : List Expr} {to : TE} {t : TA} {name : Str} {apos cpos : Pos} {id : String} {r : V → List V → Hp → VK → Prop} (slot : Slot "tuple" name id) (hty : typeOf (.builtin id) = pure (.type "method_descriptor")) (hm : MtR X id r) (ho : PE X o to) (ha : PA X (e :: es) t)
    (hbase : attributeBase o name X.env (eval o X.env) = eval o X.env := by rfl)
    (hfew : ((((backTo cpos (starEach (e :: es) X.env)).all fun x => !x.1) && (backToKw cpos (keywordEach [] X.env)).all fun x => x.1.isSome) && decide ((e :: es).length + ([] : List Keyword).length + (if ([] : List Keyword).isEmpty then 0 else 1) < 30)) = true := by rfl)
    (hline : (apos.endLine == cpos.line) = true := by rfl) (hs : starEach (e :: es) X.env = (false, eval e X.env) :: starEach es X.env := by rfl) (hplain : (backTo cpos (starEach es X.env)).any (·.1) = false := by rfl) :
    PE X (.Call (.Attribute o name apos) (e :: es) [] cpos) (tTM X.K r to t) := by
  constructor
  intro pins s σ H Q I h
  refine wpAny_Call_method_late hbase hfew hline rfl (thn (ho.run pins s σ H _ I h) fun v s1 hh => ?_)
  obtain ⟨x, H1, I1, r1, ⟨a, xs, rfl, hT⟩, q1⟩ := hh
  obtain rfl : v = Value.ref a := r1
  obtain ⟨h1, h2⟩ := hT.is I1
  refine ⟨"tuple", id, PySem.F.plainAttrs_tuple, slot, hty, h1, fun b eb => (by cases eb; exact h2), ?_⟩
  have hA := ha.run cpos pins s1 σ H1 _ I1 q1
  rw [hs] at hA ⊢
  refine Calls.callWith_builtin (by show (false || (backTo cpos (starEach es X.env)).any (·.1)) = false; rw [hplain] <;> rfl) (Calls.evalArgs_plain ?_)
  exact thn hA fun us s2 ⟨vs, H2, I2, r2, q2⟩ => hm pins s2 σ H2 (.ref a) vs _ us Q I2 rfl r2 q2
end
/-! ### sorted(t), texts -/
section
variable {prog : Program} {w : World} {A : Around} {E : Value → Shared → Prop} {s : Shared}
abbrev glean (h : Heap) (us : List Value) : Heap := (h.push (seqObj "list" #[] 0)).update h.objs.size (Obj.mapSeq (· ++ us.toArray))
theorem collect_tup {t : Addr} {us : List Value} {Q : List Value → Shared → Prop} (ht : IsTup s.heap t us.toArray) (hz : us.length ≤ sizeLine) (q : Q us { s with heap := glean s.heap us }) : wpAny (model prog w) A (collect (.ref t)) Q E s := by
  obtain ⟨ob, hob, hcl, m, hdt⟩ := ht
  have hob2 : (s.heap.push (seqObj "list" #[] 0)).get? t = some ob := Heap.get?_push_of_some _ hob
  have hme : (s.heap.push (seqObj "list" #[] 0)).get? s.heap.objs.size = some (seqObj "list" #[] 0) := Heap.get?_push_size _ rfl
  have hsum : (#[] ++ us.toArray : Array Value).size ≤ sizeLine + 1 := by
    rw [Array.empty_append, List.size_toArray]
    omega
  unfold collect
  refine wpAny_bind (wpAny_runValue (codeAny_builtin PyProof.Rows.entry_proto_collect' ?_))
  show wpAny _ _ (do again (.builtin "list.__iadd__" ⟨[← newList [], .ref t], []⟩)) _ _ s
  refine wpAny_bind (wpAny_newList (wpAny_pure ⟨Code.quiet_builtin _ (by decide +kernel), codeAny_builtin PyProof.Rows.entry_list_iadd' ?_⟩))
  show wpAny _ _ (Builtin.List.listExtendWith (.ref s.heap.objs.size) (.ref t) (.ref s.heap.objs.size)) _ _ { s with heap := s.heap.push (seqObj "list" #[] 0) }
  unfold Builtin.List.listExtendWith
  refine wpAny_bind (wpAny_typeOf (T := "tuple") ⟨ob, hob2, hcl⟩ ?_)
  rw [if_pos (by rw [show (Value.type "tuple" == Value.type "tuple") = true from rfl, Bool.or_true])]
  refine wpAny_bind (PyProof.Rows.listItems_at hob2 hdt (wpAny_bind (PyProof.Rows.listItems_at (xs := #[]) (n := 0) hme rfl ?_)))
  rw [if_neg (by simp)]
  refine wpAny_bind (PyProof.Rows.listUpdate_at (xs := #[]) (n := 0) hme rfl (wpAny_pure ?_) (Nat.zero_le _) hsum)
  show wpAny (model prog w) A (do
      let z ← load s.heap.objs.size
      match z.data with
      | .seq zs _ => pure zs.toList
      | _ => unsupported "internal:collect") Q E { s with heap := glean s.heap us }
  refine wpAny_bind (wpAny_load (get?_update_seq hme _) ?_)
  show wpAny _ _ (pure ((#[] : Array Value) ++ us.toArray).toList) Q E _
  rw [Array.empty_append]
  exact wpAny_pure q
theorem sorted_tupS {t : Addr} {us : List Value} {zs : List Str} {Q : Value → Shared → Prop} (ht : IsTup s.heap t us.toArray) (hS : StrsAre us zs) (hz : us.length ≤ sizeLine)
    (q : ∀ (out : Array Value) (ys : List Str), StrsAre out.toList ys → ys.Perm zs → sortedS ys = true → Q (.ref (s.heap.objs.size + 1)) { s with heap := PyProof.Rows.sortedAll s.heap us out }) : wpAny (model prog w) A (call (.builtin "sorted") [.ref t]) Q E s := by
  have e1 : (glean s.heap us).objs.size = s.heap.objs.size + 1 := (Heap.size_update ..).trans (PyProof.Rows.size_push' ..)
  have e2 : ((glean s.heap us).push (seqObj "list" us.toArray 0)).get? (s.heap.objs.size + 1) = some (seqObj "list" us.toArray 0) := e1 ▸ Heap.get?_push_size _ rfl
  refine Calls.call_function_entry PyProof.Rows.kind_sorted PyProof.Rows.plain_sorted PyProof.Rows.entry_sorted (PyProof.Rows.args_sorted1 _) ?_
  unfold Builtin.«sorted»
  refine wpAny_bind (m := checkCount "sorted" 1 1 _) (wpAny_pure (wpAny_bind (collect_tup ht hz (wpAny_bind (wpAny_newList ?_ hz)))))
  show wpAny _ _ _ _ _ { s with heap := (glean s.heap us).push (seqObj "list" us.toArray 0) }
  rw [e1]
  refine wpAny_bind (wpAny_holding (wpAny_call_entry PyProof.Rows.slot_list_sort ⟨_, e2, rfl⟩ PyProof.Rows.entry_list_sort (PyProof.Rows.list_sort_treeKAny PyProof.Rows.strKind_oneLt e2 hS.keysOf (fun _ _ _ e => PyProof.Rows.keyKind_strs (by rw [← e]; exact hS)) hz fun so hp hs => ⟨_, rfl, ?_⟩) (PyProof.Rows.args_list_sort _)))
  obtain ⟨ys, h1, h2, h3⟩ := PyProof.Rows.sorted_out_str hS hp hs
  exact wpAny_pure ⟨_, rfl, q _ ys h1 h2 h3⟩
end
/-- sorted(t), texts -/
theorem cr_sortedTup {X : Cx} : CallR X (.builtin "sorted") (fun vs H Q => ∃ (a : Addr) (xs : List Str), vs = [V.ref a] ∧ SqT X.K H a (xs.map V.str) ∧ ∀ (ys : List Str) (p : Addr), ys.Perm xs → sortedS ys = true → H p = none → Q (.ref p) (upd H p (.lst (ys.map V.str)))) := by
  rintro pins s σ H vs us Q I r ⟨a, xs, rfl, hs, q⟩
  obtain ⟨its, rv, ht, hz⟩ := I.tuple hs
  rw [Vals.ref1 r]
  have hl := rv.length
  rw [List.length_map] at hl hz
  refine sorted_tupS ht rv.strs (by rw [← hl]; exact hz) fun out ys h1 h2 h3 => ?_
  obtain ⟨m, hm⟩ := PyProof.Rows.sortedAll_at s.heap its out
  have hy : (ys.map V.str).length ≤ sizeLine := by rw [List.length_map, h2.length_eq]; exact hz
  exact ⟨.ref (s.heap.objs.size + 1), upd H (s.heap.objs.size + 1) (.lst (ys.map V.str)), I.laid (t' := s.toks) (fun _ _ z => PyProof.Rows.sortedAll_old z) (Nat.le_succ _) ⟨hy, out.toList, m, vals_of_strs h1, hm⟩, rfl, q ys _ h2 h3 (I.hok.fresh (Nat.le_succ _))⟩
end DL
set_option maxHeartbeats 4000000
/-! The data layer, part a: data as trees, their representation in a heap, the judgements. -/
namespace DL
open PySem PySem.Spec PyProof.Rows L2

/-- data (pr: a pair that is only taken apart): flat things, lists and tuples as trees, ref: a mutable object of the store, ty: a built-in class, cls: a class of the program, scr: the law's script -/
inductive D where
  | non | bl (b : Bool) | int (i : Int) | str (x : Str) | lst (ds : List D) | tup (ds : List D) | pr (a b : D) | ref (i : Nat) | ty (n : String) | cls (c : Nat) | scr (ns : List Int) | dic (ks : List Key) (ds : List D) | ob (c : Nat) (ns : List Str) (ds : List D)

/-- an exception of an own class: the class's number, its attributes -/
structure Exn where
  c : Nat
  fs : List (Str × D)
/-- a mutable object -/
inductive MO where
  | lst (ds : List D) | ins (c : Nat) (fs : List (Str × D)) | dct (ks : List Key) (ds : List D)
/-- no list -/
def MO.nl : MO → Bool
  | .lst _ => false
  | _ => true
/-- a slot of a frame: unknown, a datum, a list that this frame alone holds, the exception that is handled, an object (no list) that this frame alone holds -/
inductive Sl where
  | no | sh (d : D) | own (ds : List D) | exn (x : Exn) | hd (o : MO)
abbrev S := List MO
abbrev Ev := List Sl
/-- the classes' places, the tables of the lambdas, the exception that is handled: its place, its dict, its class; the object that is being made; does the frame return a list of its own -/
structure Cl where
  c : Nat → Addr
  T : List (Addr × Str)
  x : Option (Addr × Addr × Nat)
  s : Option Addr
  f : Bool
instance : CoeFun Cl fun _ => Nat → Addr := ⟨Cl.c⟩
inductive R (α : Type) where
  | stuck | ok (a : α) (s : S) | ex (x : Exn) (s : S)
def R.bind {α β : Type} (r : R α) (k : α → S → R β) : R β := match r with
  | .stuck => .stuck
  | .ok a s => k a s
  | .ex x s => .ex x s
@[simp] theorem R.bind_stuck {α β : Type} (k : α → S → R β) : (R.stuck : R α).bind k = .stuck := rfl
@[simp] theorem R.bind_ok {α β : Type} (a : α) (s : S) (k : α → S → R β) : (R.ok a s).bind k = k a s := rfl
@[simp] theorem R.bind_ex {α β : Type} (x : Exn) (s : S) (k : α → S → R β) : (R.ex x s : R α).bind k = .ex x s := rfl

/-- a part of the heap that stays, the addresses of the store's objects -/
structure Wd where
  F : Hp
  A : List Addr

mutual
inductive Rp (K : PySem.W.Frag) (cl : Cl) (W : Wd) : V → D → Prop
  | non : Rp K cl W .non .non
  | bl (b : Bool) : Rp K cl W (.bl b) (.bl b)
  | int (i : Int) : Rp K cl W (.int i) (.int i)
  | str (x : Str) : Rp K cl W (.str x) (.str x)
  | lst {a : Addr} {vs : List V} {ds : List D} : W.F a = some (.lst vs) → RpAll K cl W vs ds → Rp K cl W (.ref a) (.lst ds)
  | tup {a : Addr} {vs : List V} {ds : List D} : TupG K W.F a vs → RpAll K cl W vs ds → Rp K cl W (.ref a) (.tup ds)
  | pr {a : Addr} {v w : V} {x y : D} : SqT K W.F a [v, w] → Rp K cl W v x → Rp K cl W w y → Rp K cl W (.ref a) (.pr x y)
  | ref {a : Addr} {i : Nat} : W.A[i]? = some a → Rp K cl W (.ref a) (.ref i)
  | ty (n : String) : Rp K cl W (.ty n) (.ty n)
  | cls (c : Nat) : Rp K cl W (.ref (cl c)) (.cls c)
  | scr {a : Addr} {ns : List Int} : SqL K W.F a (ns.map V.int) → Rp K cl W (.ref a) (.scr ns)
  | dic {a : Addr} {o : Obj} {ks : List Key} {vs : List V} {ds : List D} : W.F a = some (.frz o (.dK (ks.zip vs))) → ks.length = vs.length → RpAll K cl W vs ds → Rp K cl W (.ref a) (.dic ks ds)
  | ob {a dx : Addr} {c : Nat} {ns : List Str} {vs : List V} {ds : List D} : W.F a = some (.ins (cl c) dx (ns.zip vs)) → ns.length = vs.length → RpAll K cl W vs ds → Rp K cl W (.ref a) (.ob c ns ds)
inductive RpAll (K : PySem.W.Frag) (cl : Cl) (W : Wd) : List V → List D → Prop
  | nil : RpAll K cl W [] []
  | cons {v : V} {vs : List V} {d : D} {ds : List D} : Rp K cl W v d → RpAll K cl W vs ds → RpAll K cl W (v :: vs) (d :: ds)
end

/-- no table of code objects -/
def NT (o : HO) : Prop := ∀ ps, o ≠ .tbl ps
theorem NT.lst {vs : List V} : NT (.lst vs) := fun _ z => nomatch z
theorem NT.tup {vs : List V} : NT (.tup vs) := fun _ z => nomatch z
theorem NT.ins {a dx : Addr} {vs : List (Str × V)} : NT (.ins a dx vs) := fun _ z => nomatch z
theorem NT.frz {x : Obj} {u : HO} : NT (.frz x u) := fun _ z => nomatch z
theorem NT.dK {vs : List (Key × V)} : NT (.dK vs) := fun _ z => nomatch z
theorem NT.xd {vs : List (Str × V)} : NT (.xd vs) := fun _ z => nomatch z
/-- nothing but a table may stand there -/
def Gone (H : Hp) (a : Addr) : Prop := ∀ o, H a = some o → ∃ ps, o = .tbl ps
theorem Gone.of {H : Hp} {a : Addr} (h : H a = none) : Gone H a := fun o e => by rw [h] at e; cases e
theorem Gone.no {H : Hp} {a : Addr} {o : HO} (g : Gone H a) (e : H a = some o) (n : NT o) : False := by
  obtain ⟨ps, z⟩ := g o e
  exact n ps z
theorem Gone.ne {H : Hp} {a b : Addr} {o : HO} (g : Gone H b) (e : H a = some o) (n : NT o) : a ≠ b := fun z => g.no (z ▸ e) n
def Keep (A : List Addr) (H H' : Hp) : Prop := ∀ a o, H a = some o → NT o → a ∉ A → H' a = some o
/-- the world grows by new things alone -/
structure Grow (W : Wd) (H : Hp) (W' : Wd) : Prop where
  f : Same W.F W'.F
  a : W.A <+: W'.A
  nf : ∀ a o, W'.F a = some o → W.F a = none → Gone H a
  na : ∀ a ∈ W'.A, a ∈ W.A ∨ Gone H a

theorem same_sqt {K : PySem.W.Frag} {H H' : Hp} {a : Addr} {xs : List V} (e : Same H H') (h : SqT K H a xs) : SqT K H' a xs := by
  rcases h with (h | ⟨o, h⟩) | h
  · exact .inl (.inl (e a _ h))
  · exact .inl (.inr ⟨o, e a _ h⟩)
  · exact .inr h
theorem same_tupG {K : PySem.W.Frag} {H H' : Hp} {a : Addr} {xs : List V} (e : Same H H') (h : TupG K H a xs) : TupG K H' a xs :=
  ⟨same_sqt e h.1, h.2.imp (fun ⟨o, h1, h2⟩ => ⟨o, e _ _ h1, h2⟩) id⟩
theorem same_sql {K : PySem.W.Frag} {H H' : Hp} {a : Addr} {xs : List V} (e : Same H H') (h : SqL K H a xs) : SqL K H' a xs := by
  rcases h with (h | ⟨o, h⟩) | h
  · exact .inl (.inl (e a _ h))
  · exact .inl (.inr ⟨o, e a _ h⟩)
  · exact .inr h
theorem pre_get {A B : List Addr} (h : A <+: B) {i : Nat} {a : Addr} (e : A[i]? = some a) : B[i]? = some a := by
  obtain ⟨t, rfl⟩ := h
  rw [List.getElem?_append_left]
  · exact e
  · exact (List.getElem?_eq_some_iff.mp e).1

mutual
theorem Rp.mono {K : PySem.W.Frag} {cl : Cl} {W W' : Wd} (hf : Same W.F W'.F) (ha : W.A <+: W'.A) : ∀ {v : V} {d : D}, Rp K cl W v d → Rp K cl W' v d
  | _, _, .non => .non
  | _, _, .bl b => .bl b
  | _, _, .int i => .int i
  | _, _, .str x => .str x
  | _, _, .lst h r => .lst (hf _ _ h) (RpAll.mono hf ha r)
  | _, _, .tup h r => .tup (same_tupG hf h) (RpAll.mono hf ha r)
  | _, _, .pr h r q => .pr (same_sqt hf h) (Rp.mono hf ha r) (Rp.mono hf ha q)
  | _, _, .ref h => .ref (pre_get ha h)
  | _, _, .ty n => .ty n
  | _, _, .cls c => .cls c
  | _, _, .scr h => .scr (same_sql hf h)
  | _, _, .dic h e r => .dic (hf _ _ h) e (RpAll.mono hf ha r)
  | _, _, .ob h e r => .ob (hf _ _ h) e (RpAll.mono hf ha r)
theorem RpAll.mono {K : PySem.W.Frag} {cl : Cl} {W W' : Wd} (hf : Same W.F W'.F) (ha : W.A <+: W'.A) : ∀ {vs : List V} {ds : List D}, RpAll K cl W vs ds → RpAll K cl W' vs ds
  | _, _, .nil => .nil
  | _, _, .cons h r => .cons (Rp.mono hf ha h) (RpAll.mono hf ha r)
end
theorem Rp.grow {K : PySem.W.Frag} {cl : Cl} {W W' : Wd} {H : Hp} {v : V} {d : D} (r : Rp K cl W v d) (g : Grow W H W') : Rp K cl W' v d := r.mono g.f g.a
theorem RpAll.grow {K : PySem.W.Frag} {cl : Cl} {W W' : Wd} {H : Hp} {vs : List V} {ds : List D} (r : RpAll K cl W vs ds) (g : Grow W H W') : RpAll K cl W' vs ds := r.mono g.f g.a
theorem RpAll.length {K : PySem.W.Frag} {cl : Cl} {W : Wd} : ∀ {vs : List V} {ds : List D}, RpAll K cl W vs ds → vs.length = ds.length
  | _, _, .nil => rfl
  | _, _, .cons _ r => congrArg Nat.succ r.length
theorem RpAll.get {K : PySem.W.Frag} {cl : Cl} {W : Wd} : ∀ {vs : List V} {ds : List D} {i : Nat} {d : D}, RpAll K cl W vs ds → ds[i]? = some d → ∃ v, vs[i]? = some v ∧ Rp K cl W v d
  | _, _, _, _, .nil, e => by simp at e
  | _, _, 0, _, .cons h _, e => by
    simp at e
    subst e
    exact ⟨_, rfl, h⟩
  | _, _, i + 1, d, .cons _ r, e => by
    obtain ⟨v, h1, h2⟩ := RpAll.get (i := i) r (by simpa using e)
    exact ⟨v, by simpa using h1, h2⟩
theorem RpAll.getV {K : PySem.W.Frag} {cl : Cl} {W : Wd} {vs : List V} {ds : List D} {i : Nat} {v : V} (r : RpAll K cl W vs ds) (e : vs[i]? = some v) : ∃ d, ds[i]? = some d ∧ Rp K cl W v d := by
  have hl : i < vs.length := (List.getElem?_eq_some_iff.mp e).1
  have h2 : i < ds.length := by rw [← r.length]; exact hl
  obtain ⟨v', h3, h4⟩ := r.get (List.getElem?_eq_getElem h2)
  rw [e] at h3
  cases h3
  exact ⟨_, List.getElem?_eq_getElem h2, h4⟩
theorem RpAll.append {K : PySem.W.Frag} {cl : Cl} {W : Wd} : ∀ {vs us : List V} {ds es : List D}, RpAll K cl W vs ds → RpAll K cl W us es → RpAll K cl W (vs ++ us) (ds ++ es)
  | _, _, _, _, .nil, s => s
  | _, _, _, _, .cons h r, s => .cons h (r.append s)
theorem RpAll.take {K : PySem.W.Frag} {cl : Cl} {W : Wd} : ∀ {vs : List V} {ds : List D} (n : Nat), RpAll K cl W vs ds → RpAll K cl W (vs.take n) (ds.take n)
  | _, _, 0, _ => by simp; exact .nil
  | _, _, _ + 1, .nil => by simp; exact .nil
  | _, _, n + 1, .cons h r => .cons h (r.take n)
theorem RpAll.drop {K : PySem.W.Frag} {cl : Cl} {W : Wd} : ∀ {vs : List V} {ds : List D} (n : Nat), RpAll K cl W vs ds → RpAll K cl W (vs.drop n) (ds.drop n)
  | _, _, 0, r => r
  | _, _, _ + 1, .nil => by simp; exact .nil
  | _, _, n + 1, .cons _ r => r.drop n
theorem RpAll.reverse {K : PySem.W.Frag} {cl : Cl} {W : Wd} : ∀ {vs : List V} {ds : List D}, RpAll K cl W vs ds → RpAll K cl W vs.reverse ds.reverse
  | _, _, .nil => .nil
  | _, _, .cons h r => by
    rw [List.reverse_cons, List.reverse_cons]
    exact r.reverse.append (.cons h .nil)
theorem RpAll.set {K : PySem.W.Frag} {cl : Cl} {W : Wd} {v : V} {d : D} (h : Rp K cl W v d) : ∀ {vs : List V} {ds : List D} (i : Nat), RpAll K cl W vs ds → RpAll K cl W (vs.set i v) (ds.set i d)
  | _, _, _, .nil => .nil
  | _, _, 0, .cons _ r => .cons h r
  | _, _, i + 1, .cons q r => .cons q (RpAll.set h i r)
theorem RpAll.strs {K : PySem.W.Frag} {cl : Cl} {W : Wd} : ∀ {vs : List V} {xs : List Str}, RpAll K cl W vs (xs.map .str) → vs = xs.map .str
  | vs, [], r => by
    cases r
    rfl
  | vs, x :: xs, r => by
    cases r with
    | cons h r =>
      cases h
      rw [RpAll.strs r]
      rfl
theorem RpAll.ofStrs {K : PySem.W.Frag} {cl : Cl} {W : Wd} : ∀ (xs : List Str), RpAll K cl W (xs.map .str) (xs.map .str)
  | [] => .nil
  | x :: xs => .cons (.str x) (RpAll.ofStrs xs)
theorem RpAll.bls {K : PySem.W.Frag} {cl : Cl} {W : Wd} : ∀ {vs : List V} {xs : List Bool}, RpAll K cl W vs (xs.map .bl) → vs = xs.map .bl
  | vs, [], r => by
    cases r
    rfl
  | vs, x :: xs, r => by
    cases r with
    | cons h r =>
      cases h
      rw [RpAll.bls r]
      rfl
theorem RpAll.ints {K : PySem.W.Frag} {cl : Cl} {W : Wd} : ∀ {vs : List V} {xs : List Int}, RpAll K cl W vs (xs.map .int) → vs = xs.map .int
  | vs, [], r => by
    cases r
    rfl
  | vs, x :: xs, r => by
    cases r with
    | cons h r =>
      cases h
      rw [RpAll.ints r]
      rfl
theorem RpAll.ofInts {K : PySem.W.Frag} {cl : Cl} {W : Wd} : ∀ (xs : List Int), RpAll K cl W (xs.map .int) (xs.map .int)
  | [] => .nil
  | x :: xs => .cons (.int x) (RpAll.ofInts xs)

/-- attributes -/
inductive RpF (K : PySem.W.Frag) (cl : Cl) (W : Wd) : List (Str × V) → List (Str × D) → Prop
  | nil : RpF K cl W [] []
  | cons {x : Str} {v : V} {vs : List (Str × V)} {d : D} {ds : List (Str × D)} : Rp K cl W v d → RpF K cl W vs ds → RpF K cl W ((x, v) :: vs) ((x, d) :: ds)
theorem RpF.mono {K : PySem.W.Frag} {cl : Cl} {W W' : Wd} (hf : Same W.F W'.F) (ha : W.A <+: W'.A) : ∀ {vs : List (Str × V)} {ds : List (Str × D)}, RpF K cl W vs ds → RpF K cl W' vs ds
  | _, _, .nil => .nil
  | _, _, .cons h r => .cons (h.mono hf ha) (r.mono hf ha)

def MoRp (K : PySem.W.Frag) (cl : Cl) (W : Wd) (H : Hp) (a : Addr) : MO → Prop
  | .lst ds => ∃ vs, H a = some (.lst vs) ∧ RpAll K cl W vs ds
  | .ins c fs => ∃ dx vs, H a = some (.ins (cl c) dx vs) ∧ RpF K cl W vs fs
  | .dct ks ds => ∃ vs, H a = some (.dK (ks.zip vs)) ∧ ks.length = vs.length ∧ RpAll K cl W vs ds
/-- the store is held -/
structure SatS (K : PySem.W.Frag) (cl : Cl) (W : Wd) (st : S) (H : Hp) : Prop where
  ex : Same W.F H
  len : W.A.length = st.length
  nod : W.A.Nodup
  off : ∀ a ∈ W.A, W.F a = none
  mo : ∀ (i : Nat) (o : MO), st[i]? = some o → ∃ a, W.A[i]? = some a ∧ MoRp K cl W H a o
  nt : ∀ a o, W.F a = some o → NT o
  tab : LamX.Tabs cl.T H
/-- the slots are held -/
structure SatL (K : PySem.W.Frag) (cl : Cl) (W : Wd) (ρ : Ev) (σ : L2.St) (H : Hp) : Prop where
  len : ρ.length = σ.length
  sh : ∀ (i : Nat) (d : D), ρ[i]? = some (.sh d) → ∃ v, σ[i]? = some (some v) ∧ Rp K cl W v d
  own : ∀ (i : Nat) (ds : List D), ρ[i]? = some (.own ds) → ∃ p vs, σ[i]? = some (some (.ref p)) ∧ H p = some (.lst vs) ∧ W.F p = none ∧ p ∉ W.A ∧ RpAll K cl W vs ds
  ne : ∀ (i j : Nat) (ds es : List D) (p : Addr), i ≠ j → ρ[i]? = some (.own ds) → ρ[j]? = some (.own es) → σ[i]? = some (some (.ref p)) → σ[j]? ≠ some (some (.ref p))
  xn : ∀ (i : Nat) (x : Exn), ρ[i]? = some (.exn x) → ∃ a dx vs, cl.x = some (a, dx, x.c) ∧ σ[i]? = some (some (.ref a)) ∧ W.F dx = some (.xd vs) ∧ RpF K cl W vs x.fs
  hd : ∀ (i : Nat) (o : MO), ρ[i]? = some (.hd o) → o.nl = true ∧ ∃ p, σ[i]? = some (some (.ref p)) ∧ MoRp K cl W H p o ∧ W.F p = none ∧ p ∉ W.A
  hn : ∀ (i j : Nat) (o u : MO) (p : Addr), i ≠ j → ρ[i]? = some (.hd o) → ρ[j]? = some (.hd u) → σ[i]? = some (some (.ref p)) → σ[j]? ≠ some (some (.ref p))
theorem MoRp.there {K : PySem.W.Frag} {cl : Cl} {W : Wd} {H : Hp} {a : Addr} {o : MO} (m : MoRp K cl W H a o) : ∃ u, H a = some u ∧ NT u ∧ (o.nl = true → ∀ vs, u ≠ .lst vs) := by
  cases o with
  | lst ds => obtain ⟨vs, q, _⟩ := m; exact ⟨_, q, .lst, fun z => by cases z⟩
  | ins c fs => obtain ⟨dx, vs, q, _⟩ := m; exact ⟨_, q, .ins, fun _ _ z => by cases z⟩
  | dct ks ds => obtain ⟨vs, q, _⟩ := m; exact ⟨_, q, .dK, fun _ _ z => by cases z⟩
theorem MoRp.mono {K : PySem.W.Frag} {cl : Cl} {W W' : Wd} {H H' : Hp} {a : Addr} {o : MO} (m : MoRp K cl W H a o) (hf : Same W.F W'.F) (ha : W.A <+: W'.A) (hH : ∀ u, H a = some u → H' a = some u) : MoRp K cl W' H' a o := by
  cases o with
  | lst ds => obtain ⟨vs, h1, h2⟩ := m; exact ⟨vs, hH _ h1, h2.mono hf ha⟩
  | ins c fs => obtain ⟨dx, vs, h1, h2⟩ := m; exact ⟨dx, vs, hH _ h1, h2.mono hf ha⟩
  | dct ks ds => obtain ⟨vs, h1, h2, h3⟩ := m; exact ⟨vs, hH _ h1, h2, h3.mono hf ha⟩
theorem SatS.there {K : PySem.W.Frag} {cl : Cl} {W : Wd} {st : S} {H : Hp} (s : SatS K cl W st H) {a : Addr} (h : a ∈ W.A) : ∃ o, H a = some o ∧ NT o := by
  obtain ⟨i, hi, e⟩ := List.getElem_of_mem h
  have h2 : i < st.length := by rw [← s.len]; exact hi
  obtain ⟨b, hb, m⟩ := s.mo i _ (List.getElem?_eq_getElem h2)
  rw [List.getElem?_eq_getElem hi, e] at hb
  cases hb
  generalize st[i] = o at m
  obtain ⟨u, h1, h2, _⟩ := m.there
  exact ⟨u, h1, h2⟩
theorem SatS.ne {K : PySem.W.Frag} {cl : Cl} {W : Wd} {st : S} {H : Hp} (s : SatS K cl W st H) {a p : Addr} (h : a ∈ W.A) (g : Gone H p) : a ≠ p := by
  obtain ⟨o, e, n⟩ := s.there h
  exact g.ne e n
theorem Keep.refl {A : List Addr} {H : Hp} : Keep A H H := fun _ _ h _ _ => h
theorem Grow.refl {W : Wd} {H : Hp} : Grow W H W := ⟨fun _ _ h => h, List.prefix_refl _, fun a o h1 h2 => (by rw [h1] at h2; cases h2), fun a h => .inl h⟩
theorem Keep.trans {W W1 : Wd} {H H1 H2 : Hp} (k : Keep W.A H H1) (g : Grow W H W1) (k1 : Keep W1.A H1 H2) : Keep W.A H H2 := fun a o h t n => by
  refine k1 a o (k a o h t n) t fun m => ?_
  rcases g.na a m with z | z
  · exact n z
  · exact z.no h t
theorem Grow.trans {K : PySem.W.Frag} {cl : Cl} {st : S} {W W1 W2 : Wd} {H H1 : Hp} (g : Grow W H W1) (k : Keep W.A H H1) (s : SatS K cl W1 st H1) (g1 : Grow W1 H1 W2) : Grow W H W2 := by
  have back : ∀ a, Gone H1 a → Gone H a := fun a h o e => by
    by_cases t : NT o
    · by_cases m : a ∈ W.A
      · obtain ⟨u, e1, e2⟩ := s.there (g.a.subset m)
        exact (h.no e1 e2).elim
      · exact (h.no (k a o e t m) t).elim
    · by_cases z : ∃ ps, o = .tbl ps
      · exact z
      · exact absurd (fun ps q => z ⟨ps, q⟩) t
  refine ⟨fun a o h => g1.f a o (g.f a o h), List.IsPrefix.trans g.a g1.a, fun a o h n => ?_, fun a m => ?_⟩
  · cases e : W1.F a with
    | some o1 => exact g.nf a o1 e n
    | none => exact back a (g1.nf a o h e)
  · rcases g1.na a m with z | z
    · exact g.na a z
    · exact .inr (back a z)
/-- the slots stay over a step -/
theorem SatL.keep {K : PySem.W.Frag} {cl : Cl} {W W' : Wd} {ρ : Ev} {σ : L2.St} {H H' : Hp} (l : SatL K cl W ρ σ H) (g : Grow W H W') (k : Keep W.A H H') : SatL K cl W' ρ σ H' := by
  refine ⟨l.len, fun i d e => ?_, fun i ds e => ?_, l.ne, fun i x e => ?_, fun i o e => ?_, l.hn⟩
  · obtain ⟨v, h1, h2⟩ := l.sh i d e
    exact ⟨v, h1, h2.grow g⟩
  · obtain ⟨p, vs, h1, h2, h3, h4, h5⟩ := l.own i ds e
    refine ⟨p, vs, h1, k p _ h2 .lst h4, ?_, fun m => ?_, h5.grow g⟩
    · cases e : W'.F p with
      | none => rfl
      | some o => exact ((g.nf p o e h3).no h2 .lst).elim
    · rcases g.na p m with z | z
      · exact h4 z
      · exact z.no h2 .lst
  · obtain ⟨a, dx, vs, h1, h2, h3, h4⟩ := l.xn i x e
    exact ⟨a, dx, vs, h1, h2, g.f _ _ h3, h4.mono g.f g.a⟩
  · obtain ⟨h0, p, h1, h2, h3, h4⟩ := l.hd i o e
    obtain ⟨u, e1, e2, _⟩ := h2.there
    refine ⟨h0, p, h1, h2.mono g.f g.a fun u' e' => k p u' e' (by rw [e1] at e'; cases e'; exact e2) h4, ?_, fun m => ?_⟩
    · cases e : W'.F p with
      | none => rfl
      | some o => exact ((g.nf p o e h3).no e1 e2).elim
    · rcases g.na p m with z | z
      · exact h4 z
      · exact z.no e1 e2

/-- what an exception's dict holds -/
def XRp (K : PySem.W.Frag) (cl : Cl) (W : Wd) (H : Hp) (x : Exn) (dx : Addr) : Prop := ∃ vs, W.F dx = some (.xd vs) ∧ RpF K cl W vs x.fs

section
variable (K : PySem.W.Frag) (cl : Cl) (E : XK)
/-- what is wanted behind: a result of the machine stands for a result of the plain function -/
def Aft {α β : Type} (RP : Wd → β → α → Prop) (W : Wd) (H : Hp) (r : R α) (Q : β → Hp → Prop) : Prop := match r with
  | .stuck => False
  | .ok a st => ∀ b H' W', Grow W H W' → Keep W.A H H' → SatS K cl W' st H' → RP W' b a → Q b H'
  | .ex x st => ∀ dx H' W', Grow W H W' → Keep W.A H H' → SatS K cl W' st H' → XRp K cl W' H' x dx → E (.ref (cl x.c)) (some dx) H'
/-- an operand: a datum, or a list of a slot of one's own as it is now -/
def ORp (ρ : Ev) (σ : L2.St) (W : Wd) (v : V) (d : D) : Prop := Rp K cl W v d ∨ ∃ (i : Nat) (ds : List D), d = .lst ds ∧ ρ[i]? = some (.own ds) ∧ σ[i]? = some (some v)
def liftG {α β : Type} (RP : Ev → L2.St → Wd → β → α → Prop) (f : Ev → S → R α) : L2.St → Hp → (β → Hp → Prop) → Prop := fun σ H Q =>
  ∃ W ρ st, SatS K cl W st H ∧ SatL K cl W ρ σ H ∧ Aft K cl E (RP ρ σ) W H (f ρ st) Q
abbrev liftV (f : Ev → S → R D) : TE := liftG K cl E (fun _ _ => Rp K cl) f
abbrev liftO (f : Ev → S → R D) : TE := liftG K cl E (ORp K cl) f
abbrev liftT (f : Ev → S → R Bool) : TT := liftG K cl E (fun _ _ _ (b c : Bool) => b = c) f
abbrev liftA (f : Ev → S → R (List D)) : TA := liftG K cl E (fun _ _ => RpAll K cl) f
end
abbrev DV (X : Cx) (cl : Cl) (E : XK) (e : Expr) (f : Ev → S → R D) : Prop := PE X e (liftV X.K cl E f)
abbrev DO (X : Cx) (cl : Cl) (E : XK) (e : Expr) (f : Ev → S → R D) : Prop := PE X e (liftO X.K cl E f)
abbrev DT (X : Cx) (cl : Cl) (E : XK) (e : Expr) (f : Ev → S → R Bool) : Prop := PT X e (liftT X.K cl E f)
abbrev DW (X : Cx) (cl : Cl) (E : XK) (e : Expr) (f : Ev → S → R Bool) : Prop := PW X e (liftT X.K cl E f)
abbrev DA (X : Cx) (cl : Cl) (E : XK) (es : List Expr) (f : Ev → S → R (List D)) : Prop := PA X es (liftA X.K cl E f)

section
variable {K : PySem.W.Frag} {cl : Cl} {E : XK} {α β γ δ : Type}
theorem Aft.mono {RP : Wd → β → α → Prop} {W W1 : Wd} {H H1 : Hp} {st : S} {r : R α} {Q : β → Hp → Prop} (h : Aft K cl E RP W H r Q) (g : Grow W H W1) (k : Keep W.A H H1) (s : SatS K cl W1 st H1) : Aft K cl E RP W1 H1 r Q := by
  cases r with
  | stuck => exact h
  | ok a st2 => exact fun b H' W' g' k' s' rp => h b H' W' (g.trans k s g') (k.trans g k') s' rp
  | ex x st2 => exact fun dx H' W' g' k' s' rp => h dx H' W' (g.trans k s g') (k.trans g k') s' rp
/-- peel the first part off -/
theorem Aft.peel {RP : Wd → β → α → Prop} {RP' : Wd → δ → γ → Prop} {W : Wd} {H : Hp} {r : R γ} {k : γ → S → R α} {Q : β → Hp → Prop} (h : Aft K cl E RP W H (r.bind k) Q) :
    Aft K cl E RP' W H r fun b H' => ∃ c st W', Grow W H W' ∧ Keep W.A H H' ∧ SatS K cl W' st H' ∧ RP' W' b c ∧ Aft K cl E RP W' H' (k c st) Q := by
  cases r with
  | stuck => exact h
  | ok c st => exact fun b H' W' g kk s rp => ⟨c, st, W', g, kk, s, rp, Aft.mono (show Aft K cl E RP W H (k c st) Q from h) g kk s⟩
  | ex x st => exact h
theorem Aft.imp {RP RP' : Wd → β → α → Prop} {W : Wd} {H : Hp} {r : R α} {Q Q' : β → Hp → Prop} (h : Aft K cl E RP W H r Q) (hR : ∀ W b a, RP' W b a → RP W b a) (hQ : ∀ b H, Q b H → Q' b H) : Aft K cl E RP' W H r Q' := by
  cases r with
  | stuck => exact h
  | ok a st => exact fun b H' W' g k s rp => hQ _ _ (h b H' W' g k s (hR _ _ _ rp))
  | ex x st => exact h
/-- the result is there at once -/
theorem Aft.now {RP : Wd → β → α → Prop} {W : Wd} {H : Hp} {a : α} {st : S} {b : β} {Q : β → Hp → Prop} (h : Aft K cl E RP W H (.ok a st) Q) (s : SatS K cl W st H) (rp : RP W b a) : Q b H := h b H W .refl .refl s rp
/-- a new list, a new tuple, frozen -/
theorem grow_new {W : Wd} {H : Hp} {p : Addr} {o : HO} (hf : Same W.F H) (hn : H p = none) : Grow W H ⟨upd W.F p o, W.A⟩ := by
  refine ⟨fun a u h => ?_, List.prefix_refl _, fun a u h n => ?_, fun a m => .inl m⟩
  · have : a ≠ p := fun e => by
      rw [e] at h
      have := hf p _ h
      rw [hn] at this; cases this
    show upd W.F p o a = some u
    rw [upd_ne this]
    exact h
  · by_cases e : a = p
    · rw [e]; exact .of hn
    · have h' : upd W.F p o a = some u := h
      rw [upd_ne e, n] at h'
      cases h'
theorem keep_new {A : List Addr} {H : Hp} {p : Addr} {o : HO} (hn : H p = none) : Keep A H (upd H p o) := fun a u h _ _ => by
  rw [upd_ne (ne_of_none h hn)]
  exact h
theorem tabs_upd {H : Hp} {p : Addr} {o : HO} {T : List (Addr × Str)} (t : LamX.Tabs T H) (h : ∀ u, H p = some u → (∀ ps, u ≠ .tbl ps) ∧ ∀ c q, u ≠ LamX.CodeO c q) : LamX.Tabs T (upd H p o) := fun z hz => by
  obtain ⟨ps, h1, h2, h3⟩ := t z hz
  refine ⟨ps, ?_, h2, fun pos cv e => ?_⟩
  · have n : z.1 ≠ p := fun e => (h (.tbl ps) (by rw [← e]; exact h1)).1 ps rfl
    rw [upd_ne n]
    exact h1
  · obtain ⟨c, e1, e2⟩ := h3 pos cv e
    refine ⟨c, e1, ?_⟩
    have n : c ≠ p := fun e => (h (LamX.CodeO c z.2) (by rw [← e]; exact e2)).2 c _ rfl
    rw [upd_ne n]
    exact e2
theorem tabs_new {H : Hp} {p : Addr} {o : HO} {T : List (Addr × Str)} (t : LamX.Tabs T H) (h : H p = none) : LamX.Tabs T (upd H p o) := tabs_upd t fun u e => by rw [h] at e; cases e
theorem tabs_lst {H : Hp} {p : Addr} {o : HO} {vs : List V} {T : List (Addr × Str)} (t : LamX.Tabs T H) (h : H p = some (.lst vs)) : LamX.Tabs T (upd H p o) := tabs_upd t fun u e => by
  rw [h] at e; cases e
  exact ⟨fun ps z => (by cases z), fun c q z => (by unfold LamX.CodeO at z; cases z)⟩
theorem SatS.new {W : Wd} {st : S} {H : Hp} {p : Addr} {o : HO} (s : SatS K cl W st H) (hn : H p = none) (ho : NT o := by intro _ z; cases z) : SatS K cl ⟨upd W.F p o, W.A⟩ st (upd H p o) := by
  have g : Grow W H ⟨upd W.F p o, W.A⟩ := grow_new s.ex hn
  refine ⟨fun a u h => ?_, s.len, s.nod, fun a m => ?_, fun i ob e => ?_, fun a u h => ?_, tabs_new s.tab hn⟩
  · by_cases e : a = p
    · have h' : upd W.F p o a = some u := h
      rw [e, upd_same] at h' ⊢
      exact h'
    · have h' : upd W.F p o a = some u := h
      rw [upd_ne e] at h' ⊢
      exact s.ex a u h'
  · have : a ≠ p := s.ne m (.of hn)
    show upd W.F p o a = none
    rw [upd_ne this]
    exact s.off a m
  · obtain ⟨a, h1, h2⟩ := s.mo i ob e
    have ha : a ≠ p := s.ne (List.mem_of_getElem? h1) (.of hn)
    exact ⟨a, h1, h2.mono g.f g.a fun u h => by rw [upd_ne ha]; exact h⟩
  · have h' : upd W.F p o a = some u := h
    by_cases e : a = p
    · rw [e, upd_same] at h'
      cases h'
      exact ho
    · rw [upd_ne e] at h'
      exact s.nt a u h'
/-- a new list of the store -/
theorem grow_alloc {W : Wd} {H : Hp} {p : Addr} (hn : H p = none) : Grow W H ⟨W.F, W.A ++ [p]⟩ := by
  refine ⟨fun a u h => h, List.prefix_append _ _, fun a u h n => ?_, fun a m => ?_⟩
  · have h' : W.F a = some u := h
    rw [n] at h'; cases h'
  · rcases List.mem_append.mp m with z | z
    · exact .inl z
    · rw [List.mem_singleton.mp z]; exact .inr (.of hn)
theorem SatS.alloc {W : Wd} {st : S} {H : Hp} {p : Addr} {vs : List V} {ds : List D} (s : SatS K cl W st H) (hn : H p = none) (r : RpAll K cl W vs ds) : SatS K cl ⟨W.F, W.A ++ [p]⟩ (st ++ [.lst ds]) (upd H p (.lst vs)) := by
  have g : Grow W H ⟨W.F, W.A ++ [p]⟩ := grow_alloc hn
  have nF : ∀ a u, W.F a = some u → a ≠ p := fun a u h e => by
    have := s.ex a u h
    rw [e, hn] at this; cases this
  have nA : p ∉ W.A := fun m => s.ne m (.of hn) rfl
  refine ⟨fun a u h => ?_, by rw [List.length_append, List.length_append, s.len]; rfl, ?_, fun a m => ?_, fun i o e => ?_, s.nt, tabs_new s.tab hn⟩
  · rw [upd_ne (nF a u h)]
    exact s.ex a u h
  · rw [List.nodup_append]
    refine ⟨s.nod, List.pairwise_singleton _ p, fun a ha b hb e => ?_⟩
    rw [List.mem_singleton.mp hb] at e
    exact nA (e ▸ ha)
  · rcases List.mem_append.mp m with z | z
    · exact s.off a z
    · rw [List.mem_singleton.mp z]
      cases e : W.F p with
      | none => rfl
      | some u => exact absurd rfl (nF p u e)
  · by_cases hi : i < st.length
    · rw [List.getElem?_append_left hi] at e
      obtain ⟨a, h1, h2⟩ := s.mo i o e
      have ha : a ≠ p := fun z => nA (z ▸ List.mem_of_getElem? h1)
      exact ⟨a, pre_get g.a h1, h2.mono g.f g.a fun u h => by rw [upd_ne ha]; exact h⟩
    · have hl : i < (st ++ [MO.lst ds]).length := (List.getElem?_eq_some_iff.mp e).1
      have hi2 : i = st.length := by
        rw [List.length_append] at hl
        simp only [List.length_cons, List.length_nil] at hl
        omega
      subst hi2
      have eo : o = .lst ds := by
        rw [List.getElem?_append_right (Nat.le_refl _), Nat.sub_self] at e
        exact (Option.some.inj e).symm
      subst eo
      refine ⟨p, ?_, vs, upd_same, r.grow g⟩
      show (W.A ++ [p])[st.length]? = some p
      rw [← s.len, List.getElem?_append_right (Nat.le_refl _), Nat.sub_self]
      rfl
theorem Aft.newL {W : Wd} {H : Hp} {ds : List D} {st : S} {vs : List V} {p : Addr} {Q : V → Hp → Prop} (h : Aft K cl E (Rp K cl) W H (.ok (.lst ds) st) Q) (s : SatS K cl W st H) (r : RpAll K cl W vs ds) (hn : H p = none) : Q (.ref p) (upd H p (.lst vs)) :=
  h (.ref p) _ _ (grow_new s.ex hn) (keep_new hn) (s.new hn) (.lst upd_same (r.grow (grow_new (o := .lst vs) s.ex hn)))
theorem Aft.newT {W : Wd} {H : Hp} {ds : List D} {st : S} {vs : List V} {Q : V → Hp → Prop} (h : Aft K cl E (Rp K cl) W H (.ok (.tup ds) st) Q) (s : SatS K cl W st H) (r : RpAll K cl W vs ds) : NewT H vs Q := fun p o hn ho =>
  h (.ref p) _ _ (grow_new s.ex hn) (keep_new hn) (s.new hn) (.tup ⟨.inl (.inr ⟨o, upd_same⟩), .inl ⟨o, upd_same, ho⟩⟩ (r.grow (grow_new (o := .frz o (.tup vs)) s.ex hn)))
end
end DL
set_option maxHeartbeats 4000000
/-! The data layer, part b: expressions. -/
namespace DL
open PySem PySem.Spec PyProof.Rows L2

theorem PEimp {X : Cx} {e : Expr} {t t' : TE} (h : PE X e t) (hi : ∀ σ H Q, t' σ H Q → t σ H Q) : PE X e t' := ⟨fun pins s σ H Q I q => h.run pins s σ H Q I (hi _ _ _ q)⟩
theorem PTimp {X : Cx} {e : Expr} {t t' : TT} (h : PT X e t) (hi : ∀ σ H Q, t' σ H Q → t σ H Q) : PT X e t' := ⟨fun pins s σ H Q I q => h.run pins s σ H Q I (hi _ _ _ q)⟩
theorem PWimp {X : Cx} {e : Expr} {t t' : TT} (h : PW X e t) (hi : ∀ σ H Q, t' σ H Q → t σ H Q) : PW X e t' := ⟨fun wh pins s σ H Q I q => h.run wh pins s σ H Q I (hi _ _ _ q)⟩
theorem PAimp {X : Cx} {es : List Expr} {t t' : TA} (h : PA X es t) (hi : ∀ σ H Q, t' σ H Q → t σ H Q) : PA X es t' := ⟨fun pos pins s σ H Q I q => h.run pos pins s σ H Q I (hi _ _ _ q)⟩
theorem POimp {X : Cx} {e : Option Expr} {t t' : TO} (h : PO X e t) (hi : ∀ σ H Q, t' σ H Q → t σ H Q) : PO X e t' := ⟨fun pins s σ H Q I q => h.run pins s σ H Q I (hi _ _ _ q)⟩

/-! ### views -/
/-- a list of the store as its items -/
def view (d : D) (st : S) : D := match d with
  | .ref i => (match st[i]? with
    | some (.lst ds) => .lst ds
    | _ => .ref i)
  | d => d
@[simp] theorem view_non (st : S) : view .non st = .non := rfl
@[simp] theorem view_bl (b : Bool) (st : S) : view (.bl b) st = .bl b := rfl
@[simp] theorem view_int (i : Int) (st : S) : view (.int i) st = .int i := rfl
@[simp] theorem view_str (x : Str) (st : S) : view (.str x) st = .str x := rfl
@[simp] theorem view_lst (ds : List D) (st : S) : view (.lst ds) st = .lst ds := rfl
@[simp] theorem view_tup (ds : List D) (st : S) : view (.tup ds) st = .tup ds := rfl
@[simp] theorem view_pr (a b : D) (st : S) : view (.pr a b) st = .pr a b := rfl
@[simp] theorem view_ty (n : String) (st : S) : view (.ty n) st = .ty n := rfl
@[simp] theorem view_scr (ns : List Int) (st : S) : view (.scr ns) st = .scr ns := rfl
@[simp] theorem view_cls (c : Nat) (st : S) : view (.cls c) st = .cls c := rfl
@[simp] theorem view_dic (ks : List Key) (ds : List D) (st : S) : view (.dic ks ds) st = .dic ks ds := rfl
@[simp] theorem view_ob (c : Nat) (ns : List Str) (ds : List D) (st : S) : view (.ob c ns ds) st = .ob c ns ds := rfl
section
variable {K : PySem.W.Frag} {cl : Cl} {E : XK} {W W' : Wd} {ρ : Ev} {σ : L2.St} {st : S} {H H' : Hp} {v : V} {d : D} {ds : List D}
theorem view_cases (d : D) (st : S) : (view d st = d) ∨ ∃ (i : Nat) (ds : List D), d = .ref i ∧ st[i]? = some (.lst ds) ∧ view d st = .lst ds := by
  cases d with
  | ref i =>
    unfold view
    dsimp only
    split
    · rename_i e; exact .inr ⟨i, _, rfl, e, rfl⟩
    · exact .inl rfl
  | _ => exact .inl rfl
theorem ORp.grow (o : ORp K cl ρ σ W v d) (g : Grow W H W') : ORp K cl ρ σ W' v d := by
  rcases o with o | o
  · exact .inl (o.grow g)
  · exact .inr o
theorem lst_of (s : SatS K cl W st H) (l : SatL K cl W ρ σ H) (o : ORp K cl ρ σ W v d) (e : view d st = .lst ds) : ∃ a vs, v = .ref a ∧ H a = some (.lst vs) ∧ RpAll K cl W vs ds := by
  rcases o with o | ⟨i, es, rfl, h1, h2⟩
  · rcases view_cases d st with h | ⟨i, es, rfl, h1, h2⟩
    · rw [h] at e
      subst e
      cases o with
      | lst hf r => exact ⟨_, _, rfl, s.ex _ _ hf, r⟩
    · rw [h2] at e
      cases e
      cases o with
      | ref ha =>
        obtain ⟨a, h3, vs, h4, h5⟩ := s.mo i _ h1
        rw [ha] at h3
        cases h3
        exact ⟨_, vs, rfl, h4, h5⟩
  · cases e
    obtain ⟨p, vs, h3, h4, _, _, h5⟩ := l.own i _ h1
    rw [h2] at h3
    cases h3
    exact ⟨p, vs, rfl, h4, h5⟩
theorem rp_of_flat (o : ORp K cl ρ σ W v d) (e : view d st = d) (n : ∀ ds, d ≠ .lst ds) : Rp K cl W v d := by
  rcases o with o | ⟨i, es, rfl, h1, h2⟩
  · exact o
  · exact absurd rfl (n es)
theorem view_ne (d' : D) (n : ∀ ds, d' ≠ .lst ds) (e : view d st = d') : d = d' := by
  rcases view_cases d st with h | ⟨i, es, rfl, h1, h2⟩
  · rw [h] at e; exact e
  · rw [h2] at e; exact absurd e.symm (n es)
theorem tup_of (s : SatS K cl W st H) (o : ORp K cl ρ σ W v d) (e : view d st = .tup ds) : ∃ a vs, v = .ref a ∧ SqT K H a vs ∧ RpAll K cl W vs ds ∧ Rp K cl W v (.tup ds) := by
  have h := view_ne (.tup ds) (fun _ z => nomatch z) e
  subst h
  have r := rp_of_flat o e (fun _ z => nomatch z)
  cases r with
  | tup hf r' => exact ⟨_, _, rfl, same_sqt s.ex hf.1, r', .tup hf r'⟩
theorem scr_of {ns : List Int} (s : SatS K cl W st H) (o : ORp K cl ρ σ W v d) (e : view d st = .scr ns) : ∃ a, v = .ref a ∧ SqL K H a (ns.map V.int) := by
  have h := view_ne (.scr ns) (fun _ z => nomatch z) e
  subst h
  have r := rp_of_flat o e (fun _ z => nomatch z)
  cases r with
  | scr hf => exact ⟨_, rfl, same_sql s.ex hf⟩
theorem int_of {i : Int} (o : ORp K cl ρ σ W v d) (e : view d st = .int i) : v = .int i := by
  have h := view_ne (.int i) (fun _ z => nomatch z) e
  subst h
  have r := rp_of_flat o e (fun _ z => nomatch z)
  cases r
  rfl
theorem str_of {i : Str} (o : ORp K cl ρ σ W v d) (e : view d st = .str i) : v = .str i := by
  have h := view_ne (.str i) (fun _ z => nomatch z) e
  subst h
  have r := rp_of_flat o e (fun _ z => nomatch z)
  cases r
  rfl
theorem bl_of {i : Bool} (o : ORp K cl ρ σ W v d) (e : view d st = .bl i) : v = .bl i := by
  have h := view_ne (.bl i) (fun _ z => nomatch z) e
  subst h
  have r := rp_of_flat o e (fun _ z => nomatch z)
  cases r
  rfl
theorem non_of (o : ORp K cl ρ σ W v d) (e : view d st = .non) : v = .non := by
  have h := view_ne .non (fun _ z => nomatch z) e
  subst h
  have r := rp_of_flat o e (fun _ z => nomatch z)
  cases r
  rfl
theorem ty_of {n : String} (o : ORp K cl ρ σ W v d) (e : view d st = .ty n) : v = .ty n := by
  have h := view_ne (.ty n) (fun _ z => nomatch z) e
  subst h
  have r := rp_of_flat o e (fun _ z => nomatch z)
  cases r
  rfl
end

/-! ### names, constants, coercions -/
def dVar (i : Nat) : Ev → S → R D := fun ρ st => match ρ[i]? with
  | some (.sh d) => .ok d st
  | _ => .stuck
def dOwn (i : Nat) : Ev → S → R D := fun ρ st => match ρ[i]? with
  | some (.own ds) => .ok (.lst ds) st
  | _ => .stuck
def dC (d : D) : Ev → S → R D := fun _ st => .ok d st
section
variable {X : Cx} {cl : Cl} {E : XK}
theorem dv_var (i : Nat) {x : Str} {pos : Pos} (h : PE X (.Name x pos) (tVar i)) : DV X cl E (.Name x pos) (dVar i) := by
  refine PEimp h fun σ H Q h => ?_
  obtain ⟨W, ρ, st, s, l, h⟩ := h
  unfold dVar at h
  split at h
  · rename_i d e
    obtain ⟨v, h1, h2⟩ := l.sh i d e
    exact ⟨v, h1, h.now s h2⟩
  · exact h.elim
theorem do_own (i : Nat) {x : Str} {pos : Pos} (h : PE X (.Name x pos) (tVar i)) : DO X cl E (.Name x pos) (dOwn i) := by
  refine PEimp h fun σ H Q h => ?_
  obtain ⟨W, ρ, st, s, l, h⟩ := h
  unfold dOwn at h
  split at h
  · rename_i ds e
    obtain ⟨p, vs, h1, h2, h3, h4, h5⟩ := l.own i ds e
    exact ⟨.ref p, h1, h.now s (.inr ⟨i, ds, rfl, e, h1⟩)⟩
  · exact h.elim
theorem dv_c {e : Expr} {v : V} {d : D} (h : PE X e (tC v)) (r : ∀ W, Rp X.K cl W v d) : DV X cl E e (dC d) := by
  refine PEimp h fun σ H Q h => ?_
  obtain ⟨W, ρ, st, s, l, h⟩ := h
  exact h.now s (r W)
theorem dv_int {i : Int} {j : Nat} {pos : Pos} : DV X cl E (.Constant (.int i) j pos) (dC (.int i)) := dv_c pe_int fun _ => .int i
theorem dv_str {x : Str} {j : Nat} {pos : Pos} : DV X cl E (.Constant (.str x) j pos) (dC (.str x)) := dv_c pe_str fun _ => .str x
theorem dv_bl {b : Bool} {j : Nat} {pos : Pos} : DV X cl E (.Constant (.bool b) j pos) (dC (.bl b)) := dv_c pe_bl fun _ => .bl b
theorem dv_non {j : Nat} {pos : Pos} : DV X cl E (.Constant .none j pos) (dC .non) := dv_c pe_non fun _ => .non
/-- a datum as an operand -/
theorem DVo {e : Expr} {f : Ev → S → R D} (h : DV X cl E e f) : DO X cl E e f := by
  refine PEimp h fun σ H Q h => ?_
  obtain ⟨W, ρ, st, s, l, h⟩ := h
  exact ⟨W, ρ, st, s, l, h.imp (fun _ _ _ r => .inl r) fun _ _ q => q⟩
end

/-! ### operators -/
def rD (K : PySem.W.Frag) (cl : Cl) (E : XK) (o : D → D → S → R D) : R2 := fun x y H Q => ∃ W ρ σ st dx dy, SatS K cl W st H ∧ SatL K cl W ρ σ H ∧ ORp K cl ρ σ W x dx ∧ ORp K cl ρ σ W y dy ∧ Aft K cl E (Rp K cl) W H (o dx dy st) Q
def dBin (o : D → D → S → R D) (fa fb : Ev → S → R D) : Ev → S → R D := fun ρ st => (fa ρ st).bind fun x st1 => (fb ρ st1).bind fun y st2 => o x y st2
section
variable {X : Cx} {cl : Cl} {E : XK} {fa fb fc : Ev → S → R D} {o o' : D → D → S → R D} {a b c : Expr} {pos : Pos}
theorem rd_op {K : PySem.W.Frag} {σ : L2.St} {H : Hp} {Q : VK} (h : liftV K cl E (dBin o fa fb) σ H Q) : tOp (rD K cl E o) (liftO K cl E fa) (liftO K cl E fb) σ H Q := by
  obtain ⟨W, ρ, st, s, l, h⟩ := h
  refine ⟨W, ρ, st, s, l, (Aft.peel h).imp (fun _ _ _ r => r) ?_⟩
  rintro x H1 ⟨dx, st1, W1, g1, k1, s1, r1, h1⟩
  refine ⟨W1, ρ, st1, s1, l.keep g1 k1, (Aft.peel h1).imp (fun _ _ _ r => r) ?_⟩
  rintro y H2 ⟨dy, st2, W2, g2, k2, s2, r2, h2⟩
  exact ⟨W2, ρ, σ, st2, dx, dy, s2, (l.keep g1 k1).keep g2 k2, r1.grow g2, r2, h2⟩
theorem dv_op {op : Operator} (ho : OpR X (binaryOp op) (rD X.K cl E o)) (ha : DO X cl E a fa) (hb : DO X cl E b fb) : DV X cl E (.BinOp a op b pos) (dBin o fa fb) := PEimp (pe_op ho ha hb) fun _ _ _ h => rd_op h
theorem dv_cmp {op : CmpOp} (ho : OpR X (compareOp op) (rD X.K cl E o)) (ha : DO X cl E a fa) (hb : DO X cl E b fb) (hm : behindInMarks op b = false) : DV X cl E (.Compare a [op] [b] pos) (dBin o fa fb) := PEimp (pe_cmpR ho ha hb hm) fun _ _ _ h => rd_op h

def addD (dx dy : D) (st : S) : R D := match view dx st, view dy st with
  | .int i, .int j => .ok (.int (i + j)) st
  | .str x, .str y => if x.length + y.length ≤ sizeLine then .ok (.str (x ++ y)) st else .stuck
  | .lst x, .lst y => if x.length + y.length ≤ sizeLine then .ok (.lst (x ++ y)) st else .stuck
  | .tup x, .tup y => if x.length + y.length ≤ sizeLine then .ok (.tup (x ++ y)) st else .stuck
  | _, _ => .stuck
theorem op_addD : OpR X (binaryOp .Add) (rD X.K cl E addD) := by
  rintro pins s σ H x y v u Q I rx ry ⟨W, ρ, σ', st, dx, dy, s0, l0, ox, oy, h⟩
  unfold addD at h
  split at h
  · rename_i i j e1 e2
    exact op_add pins s σ H x y v u Q I rx ry ⟨i, j, int_of ox e1, int_of oy e2, h.now s0 (.int _)⟩
  · rename_i i j e1 e2
    split at h
    · rename_i hl
      exact op_add_str pins s σ H x y v u Q I rx ry ⟨i, j, str_of ox e1, str_of oy e2, hl, h.now s0 (.str _)⟩
    · exact h.elim
  · rename_i i j e1 e2
    split at h
    · rename_i hl
      obtain ⟨p, vs, rfl, h1, h2⟩ := lst_of s0 l0 ox e1
      obtain ⟨q, us, rfl, h3, h4⟩ := lst_of s0 l0 oy e2
      exact op_cat pins s σ H _ _ v u Q I rx ry ⟨p, q, vs, us, rfl, rfl, h1, h3, by rw [h2.length, h4.length]; exact hl, fun r hn => h.newL s0 (h2.append h4) hn⟩
    · exact h.elim
  · rename_i i j e1 e2
    split at h
    · rename_i hl
      obtain ⟨p, vs, rfl, h1, h2, h2'⟩ := tup_of s0 ox e1
      obtain ⟨q, us, rfl, h3, h4, h4'⟩ := tup_of s0 oy e2
      refine op_catF pins s σ H _ _ v u Q I rx ry ⟨p, q, vs, us, rfl, rfl, h1, h3, by rw [h2.length, h4.length]; exact hl, fun z => ?_, fun _ z => ?_, fun _ _ => h.newT s0 (h2.append h4)⟩
      · have e : i = [] := by
          have := h2.length
          rw [z] at this
          exact List.length_eq_zero_iff.mp this.symm
        subst e
        exact h.now s0 h4'
      · have e : j = [] := by
          have := h4.length
          rw [z] at this
          exact List.length_eq_zero_iff.mp this.symm
        subst e
        rw [List.append_nil] at h
        exact h.now s0 h2'
    · exact h.elim
  · exact h.elim
/-- two ints -/
def intD (c : Int → Int → Bool) (g : Int → Int → D) (dx dy : D) (st : S) : R D := match view dx st, view dy st with
  | .int i, .int j => if c i j then .ok (g i j) st else .stuck
  | _, _ => .stuck
theorem op_intD {f : Value → Value → Sem Value} {C : Int → Int → Prop} {gV : Int → Int → V} {c : Int → Int → Bool} {g : Int → Int → D} (ho : OpR X f (rI C gV)) (hc : ∀ i j, c i j = true → C i j) (hg : ∀ W i j, Rp X.K cl W (gV i j) (g i j)) : OpR X f (rD X.K cl E (intD c g)) := by
  rintro pins s σ H x y v u Q I rx ry ⟨W, ρ, σ', st, dx, dy, s0, l0, ox, oy, h⟩
  unfold intD at h
  split at h
  · rename_i i j e1 e2
    split at h
    · rename_i hl
      exact ho pins s σ H x y v u Q I rx ry ⟨i, j, int_of ox e1, int_of oy e2, hc i j hl, h.now s0 (hg W i j)⟩
    · exact h.elim
  · exact h.elim
theorem op_I0 {f : Value → Value → Sem Value} {gV : Int → Int → V} (ho : OpR X f (rI0 gV)) : OpR X f (rI (fun _ _ => True) gV) := by
  rintro pins s σ H x y v u Q I rx ry ⟨i, j, e1, e2, _, q⟩
  exact ho pins s σ H x y v u Q I rx ry ⟨i, j, e1, e2, q⟩
def subD : D → D → S → R D := intD (fun _ _ => true) fun i j => .int (i - j)
theorem op_subD : OpR X (binaryOp .Sub) (rD X.K cl E subD) := op_intD (op_I0 op_sub) (fun _ _ _ => trivial) fun _ _ _ => .int _
def mulC (i j : Int) : Bool := (decide (-2 ^ 64 < i) && decide (i < 2 ^ 64)) || (decide (-2 ^ 64 < j) && decide (j < 2 ^ 64))
theorem mulC_ok {i j : Int} (h : mulC i j = true) : CMul i j := by
  unfold mulC at h
  simp only [Bool.or_eq_true, Bool.and_eq_true, decide_eq_true_eq] at h
  exact h
/-- ints; a list so many times -/
def mulD (dx dy : D) (st : S) : R D := match view dx st, view dy st with
  | .int i, .int j => if mulC i j then .ok (.int (i * j)) st else .stuck
  | .lst x, .int k => if decide (0 ≤ k) && (decide (k < 2 ^ 63) && decide (x.length * k.toNat ≤ sizeLine)) then .ok (.lst (List.replicate k.toNat x).flatten) st else .stuck
  | _, _ => .stuck
theorem RpAll.rep {K : PySem.W.Frag} {cl : Cl} {W : Wd} {vs : List V} {ds : List D} (r : RpAll K cl W vs ds) : ∀ n : Nat, RpAll K cl W (List.replicate n vs).flatten (List.replicate n ds).flatten
  | 0 => .nil
  | n + 1 => by
    rw [List.replicate_succ, List.replicate_succ, List.flatten_cons, List.flatten_cons]
    exact r.append (RpAll.rep r n)
theorem op_mulD : OpR X (binaryOp .Mult) (rD X.K cl E mulD) := by
  rintro pins s σ H x y v u Q I rx ry ⟨W, ρ, σ', st, dx, dy, s0, l0, ox, oy, h⟩
  unfold mulD at h
  split at h
  · rename_i i j e1 e2
    split at h
    · rename_i hl
      exact op_mul pins s σ H x y v u Q I rx ry ⟨i, j, int_of ox e1, int_of oy e2, mulC_ok hl, h.now s0 (.int _)⟩
    · exact h.elim
  · rename_i i j e1 e2
    split at h
    · rename_i hl
      simp only [Bool.and_eq_true, decide_eq_true_eq] at hl
      obtain ⟨p, vs, rfl, h1, h2⟩ := lst_of s0 l0 ox e1
      exact op_rep pins s σ H _ _ v u Q I rx ry ⟨p, j, vs, rfl, int_of oy e2, h1, by omega, hl.2.1, by rw [h2.length]; exact hl.2.2, fun r hn => h.newL s0 (h2.rep _) hn⟩
    · exact h.elim
  · exact h.elim
def fdivD : D → D → S → R D := intD (fun _ j => decide (0 < j) && decide (j < 1073741824)) fun i j => .int (i / j)
theorem op_fdivD : OpR X (binaryOp .FloorDiv) (rD X.K cl E fdivD) := by
  rintro pins s σ H x y v u Q I rx ry ⟨W, ρ, σ', st, dx, dy, s0, l0, ox, oy, h⟩
  unfold fdivD intD at h
  split at h
  · rename_i i j e1 e2
    split at h
    · rename_i hl
      simp only [Bool.and_eq_true, decide_eq_true_eq] at hl
      refine op_fdivN pins s σ H x y v u Q I rx ry ⟨i, j, int_of ox e1, int_of oy e2, ⟨by omega, by omega⟩, ?_⟩
      show Q (.int (i.fdiv j)) H
      rw [Int.fdiv_eq_ediv_of_nonneg i (by omega)]
      exact h.now s0 (.int _)
    · exact h.elim
  · exact h.elim
def modD : D → D → S → R D := intD (fun _ j => decide (0 < j)) fun i j => .int (i % j)
theorem op_modD : OpR X (binaryOp .Mod) (rD X.K cl E modD) := by
  rintro pins s σ H x y v u Q I rx ry ⟨W, ρ, σ', st, dx, dy, s0, l0, ox, oy, h⟩
  unfold modD intD at h
  split at h
  · rename_i i j e1 e2
    split at h
    · rename_i hl
      simp only [decide_eq_true_eq] at hl
      refine op_modN pins s σ H x y v u Q I rx ry ⟨i, j, int_of ox e1, int_of oy e2, by omega, ?_⟩
      show Q (.int (i.fmod j)) H
      rw [Int.fmod_eq_emod_of_nonneg i (by omega)]
      exact h.now s0 (.int _)
    · exact h.elim
  · exact h.elim
def powD : D → D → S → R D := intD (fun i j => decide (0 ≤ j) && (decide (j ≤ 1000000) && decide (i.natAbs < 2 ^ 64))) fun i j => .int (i ^ j.toNat)
theorem op_powD : OpR X (binaryOp .Pow) (rD X.K cl E powD) := op_intD op_pow (fun i j h => by
  simp only [Bool.and_eq_true, decide_eq_true_eq] at h
  exact h) fun _ _ _ => .int _

/-! ### order -/
def ltS (a b : Str) : Bool := decide (a.cps.toList < b.cps.toList)
def ltD (dx dy : D) (st : S) : R D := match view dx st, view dy st with
  | .int i, .int j => .ok (.bl (decide (i < j))) st
  | .str i, .str j => .ok (.bl (ltS i j)) st
  | _, _ => .stuck
theorem op_ltD : OpR X (compareOp .Lt) (rD X.K cl E ltD) := by
  rintro pins s σ H x y v u Q I rx ry ⟨W, ρ, σ', st, dx, dy, s0, l0, ox, oy, h⟩
  unfold ltD at h
  split at h
  · rename_i i j e1 e2
    exact op_lt pins s σ H x y v u Q I rx ry ⟨i, j, int_of ox e1, int_of oy e2, h.now s0 (.bl _)⟩
  · rename_i i j e1 e2
    exact op_lt_str pins s σ H x y v u Q I rx ry ⟨i, j, str_of ox e1, str_of oy e2, h.now s0 (.bl _)⟩
  · exact h.elim
def leD (dx dy : D) (st : S) : R D := match view dx st, view dy st with
  | .int i, .int j => .ok (.bl (decide (i ≤ j))) st
  | .str i, .str j => .ok (.bl (!ltS j i)) st
  | _, _ => .stuck
theorem op_leD : OpR X (compareOp .LtE) (rD X.K cl E leD) := by
  rintro pins s σ H x y v u Q I rx ry ⟨W, ρ, σ', st, dx, dy, s0, l0, ox, oy, h⟩
  unfold leD at h
  split at h
  · rename_i i j e1 e2
    exact op_le pins s σ H x y v u Q I rx ry ⟨i, j, int_of ox e1, int_of oy e2, h.now s0 (.bl _)⟩
  · rename_i i j e1 e2
    exact op_le_str pins s σ H x y v u Q I rx ry ⟨i, j, str_of ox e1, str_of oy e2, h.now s0 (.bl _)⟩
  · exact h.elim
def gtD : D → D → S → R D := intD (fun _ _ => true) fun i j => .bl (decide (j < i))
theorem op_gtD : OpR X (compareOp .Gt) (rD X.K cl E gtD) := op_intD (op_I0 op_gt) (fun _ _ _ => trivial) fun _ _ _ => .bl _
def geD : D → D → S → R D := intD (fun _ _ => true) fun i j => .bl (decide (j ≤ i))
theorem op_geD : OpR X (compareOp .GtE) (rD X.K cl E geD) := op_intD (op_I0 op_ge) (fun _ _ _ => trivial) fun _ _ _ => .bl _
/-- is None -/
def isND (dx dy : D) (st : S) : R D := match dx, dy with
  | .non, .non => .ok (.bl true) st
  | _, .non => .ok (.bl false) st
  | _, _ => .stuck
theorem ORp.non_iff {K : PySem.W.Frag} {W : Wd} {ρ : Ev} {σ : L2.St} {v : V} {d : D} {H : Hp} (l : SatL K cl W ρ σ H) (o : ORp K cl ρ σ W v d) : (decide (v = .non)) = (match d with | .non => true | _ => false) := by
  rcases o with o | ⟨i, es, rfl, h1, h2⟩
  · cases o <;> simp
  · obtain ⟨p, vs, h3, _⟩ := l.own i _ h1
    rw [h2] at h3
    cases h3
    simp
theorem op_isND : OpR X (compareOp .Is) (rD X.K cl E isND) := by
  rintro pins s σ H x y v u Q I rx ry ⟨W, ρ, σ', st, dx, dy, s0, l0, ox, oy, h⟩
  unfold isND at h
  have e := ox.non_iff l0
  split at h
  · exact op_isN pins s σ H x y v u Q I rx ry ⟨non_of (st := st) oy rfl, by rw [e]; exact h.now s0 (.bl _)⟩
  · refine op_isN pins s σ H x y v u Q I rx ry ⟨non_of (st := st) oy rfl, ?_⟩
    rw [e]
    cases dx <;> first | (rename_i z; exact (z rfl).elim) | exact h.now s0 (.bl _)
  · exact h.elim
def isNND (dx dy : D) (st : S) : R D := (isND dx dy st).bind fun z st => match z with
  | .bl b => .ok (.bl (!b)) st
  | _ => .stuck
end
end DL
set_option maxHeartbeats 4000000
/-! The data layer, part c: equality, membership, tests, displays, subscripts, built-ins. -/
namespace DL
open PySem PySem.Spec PyProof.Rows L2

/-! ### data of the library -/
mutual
def py : D → PyData
  | .non => .none
  | .bl b => .bool b
  | .int i => .int i
  | .str x => .str x
  | .lst ds => .list (pys ds)
  | .tup ds => .tuple (pys ds)
  | .pr _ _ => .none
  | .ref _ => .none
  | .ty _ => .none
  | .cls _ => .none
  | .scr _ => .none
  | .dic _ _ => .none
  | .ob _ _ _ => .none
def pys : List D → List PyData
  | [] => []
  | d :: ds => py d :: pys ds
end
mutual
def pur : D → Bool
  | .non => true
  | .bl _ => true
  | .int _ => true
  | .str _ => true
  | .lst ds => purs ds
  | .tup ds => purs ds
  | .pr _ _ => false
  | .ref _ => false
  | .ty _ => false
  | .cls _ => false
  | .scr _ => false
  | .dic _ _ => false
  | .ob _ _ _ => false
def purs : List D → Bool
  | [] => true
  | d :: ds => pur d && purs ds
end
/-- Python's == on data -/
def eqd (a b : D) : Bool := PyData.eqv (py a) (py b)
def flatD : D → Bool
  | .non => true
  | .bl _ => true
  | .int _ => true
  | .str _ => true
  | _ => false
theorem pys_eq : ∀ ds : List D, pys ds = ds.map py
  | [] => rfl
  | d :: ds => by unfold pys; rw [pys_eq ds]; rfl
/-- data that == may look at -/
def okd (d : D) : Bool := pur d && SeqAt.shaped (py d)
mutual
theorem Rp.dp {K : PySem.W.Frag} {cl : Cl} {W : Wd} {H : Hp} (hf : Same W.F H) : ∀ {v : V} {d : D}, Rp K cl W v d → pur d = true → Dp K H v (py d)
  | _, _, .non, _ => .non
  | _, _, .bl b, _ => .bl b
  | _, _, .int i, _ => .int i
  | _, _, .str x, _ => .str x
  | _, _, .lst h r, p => .lst (.inl (.inl (hf _ _ h))) (RpAll.dp hf r (by unfold pur at p; exact p))
  | _, _, .tup h r, p => .tup (same_sqt hf h.1) (RpAll.dp hf r (by unfold pur at p; exact p))
  | _, _, .pr _ _ _, p => by unfold pur at p; cases p
  | _, _, .ref _, p => by unfold pur at p; cases p
  | _, _, .ty _, p => by unfold pur at p; cases p
  | _, _, .cls _, p => by unfold pur at p; cases p
  | _, _, .scr _, p => by unfold pur at p; cases p
  | _, _, .dic _ _ _, p => by unfold pur at p; cases p
  | _, _, .ob _ _ _, p => by unfold pur at p; cases p
theorem RpAll.dp {K : PySem.W.Frag} {cl : Cl} {W : Wd} {H : Hp} (hf : Same W.F H) : ∀ {vs : List V} {ds : List D}, RpAll K cl W vs ds → purs ds = true → DpAll K H vs (pys ds)
  | _, _, .nil, _ => .nil
  | _, _, .cons h r, p => by
    unfold purs at p
    rw [Bool.and_eq_true] at p
    exact .cons (Rp.dp hf h p.1) (RpAll.dp hf r p.2)
end
section
variable {K : PySem.W.Frag} {cl : Cl} {E : XK} {W W' : Wd} {ρ : Ev} {σ : L2.St} {st : S} {H H' : Hp} {v : V} {d : D} {ds : List D}
theorem view_self (n : ∀ ds, view d st ≠ .lst ds) : view d st = d := by
  rcases view_cases d st with h | ⟨i, es, rfl, h1, h2⟩
  · exact h
  · exact absurd h2 (n es)
theorem dp_view (s : SatS K cl W st H) (l : SatL K cl W ρ σ H) (o : ORp K cl ρ σ W v d) (p : pur (view d st) = true) : Dp K H v (py (view d st)) := by
  by_cases h : ∃ ds, view d st = .lst ds
  · obtain ⟨ds, e⟩ := h
    obtain ⟨a, vs, rfl, h1, h2⟩ := lst_of s l o e
    rw [e] at p ⊢
    exact .lst (.inl (.inl h1)) (h2.dp s.ex (by unfold pur at p; exact p))
  · have e := view_self fun ds z => h ⟨ds, z⟩
    rw [e] at p ⊢
    exact Rp.dp s.ex (rp_of_flat o e fun ds z => h ⟨ds, by rw [e]; exact z⟩) p
theorem rp_flatV {W : Wd} {v : V} {d : D} (r : Rp K cl W v d) (f : flatD d = true) : flatV v = true := by
  cases r <;> first | rfl | (simp [flatD] at f)
theorem eqV_eqd {W : Wd} {v u : V} {d e : D} (r : Rp K cl W v d) (q : Rp K cl W u e) (f : flatD d = true) (g : flatD e = true) : eqV v u = eqd d e := by
  cases d <;> first
    | (simp [flatD] at f; done)
    | (cases r; cases e <;> first
      | (simp [flatD] at g; done)
      | (cases q; simp only [eqd, eqV, py, PyData.eqv]))
theorem inV_eqd {W : Wd} {u : V} {e : D} (q : Rp K cl W u e) (g : flatD e = true) : ∀ {vs : List V} {ds : List D}, RpAll K cl W vs ds → ds.all flatD = true → inV u vs = ds.any fun z => eqd z e
  | _, _, .nil, _ => rfl
  | _, _, .cons h r, f => by
    rw [List.all_cons, Bool.and_eq_true] at f
    have ih := inV_eqd q g r f.2
    unfold inV at ih ⊢
    rw [List.any_cons, List.any_cons, ih, eqV_eqd h q f.1 g]
theorem all_flatV : ∀ {vs : List V} {ds : List D}, RpAll K cl W vs ds → ds.all flatD = true → vs.all flatV = true
  | _, _, .nil, _ => rfl
  | _, _, .cons h r, f => by
    rw [List.all_cons, Bool.and_eq_true] at f ⊢
    exact ⟨rp_flatV h f.1, all_flatV r f.2⟩
end

/-! ### == and in -/
def eqD (dx dy : D) (st : S) : R D := match view dx st, view dy st with
  | .str a, .str b => .ok (.bl (decide (a = b))) st
  | .int a, .int b => .ok (.bl (decide (a = b))) st
  | a, b => if okd a && okd b then .ok (.bl (eqd a b)) st else .stuck
def neD (dx dy : D) (st : S) : R D := match view dx st, view dy st with
  | .str a, .str b => .ok (.bl (!decide (a = b))) st
  | .int a, .int b => .ok (.bl (!decide (a = b))) st
  | a, b => if okd a && okd b then .ok (.bl (!eqd a b)) st else .stuck
/-- a text in a text -/
def inS (x z : Str) : Bool := match x.cps.toList with
  | [c] => decide (c ∈ z.cps.toList)
  | _ => !(Builtin.Str.occurrences z x 0 z.length 1).isEmpty
def inD (dx dy : D) (st : S) : R D := match view dy st with
  | .lst ds => if (flatD dx && ds.all flatD) || (okd (view dx st) && okd (.lst ds)) then .ok (.bl (ds.any fun z => eqd z (view dx st))) st else .stuck
  | .tup ds => if flatD dx && ds.all flatD then .ok (.bl (ds.any fun z => eqd z dx)) st else .stuck
  | .str z => (match view dx st with
    | .str x => .ok (.bl (inS x z)) st
    | _ => .stuck)
  | _ => .stuck
def notR (r : R D) : R D := match r with
  | .ok (.bl b) st => .ok (.bl (!b)) st
  | .ok _ _ => .stuck
  | .stuck => .stuck
  | .ex x st => .ex x st
def nInD (dx dy : D) (st : S) : R D := notR (inD dx dy st)
section
variable {X : Cx} {cl : Cl} {E : XK}
theorem op_eqDD (hu : X.A.units + 64 < cLine) : OpR X (compareOp .Eq) (rD X.K cl E eqD) := by
  rintro pins s σ H x y v u Q I rx ry ⟨W, ρ, σ', st, dx, dy, s0, l0, ox, oy, h⟩
  unfold eqD at h
  split at h
  · rename_i i j e1 e2
    have ex := str_of ox e1
    have ey := str_of oy e2
    subst ex ey
    refine op_eq pins s σ H _ _ v u Q I rx ry ⟨rfl, ?_⟩
    have e : decide (V.str i = V.str j) = decide (i = j) := decide_eq_decide.mpr ⟨fun z => V.str.inj z, fun z => congrArg V.str z⟩
    rw [e]
    exact h.now s0 (.bl _)
  · rename_i i j e1 e2
    have ex := int_of ox e1
    have ey := int_of oy e2
    subst ex ey
    refine op_eq pins s σ H _ _ v u Q I rx ry ⟨rfl, ?_⟩
    have e : decide (V.int i = V.int j) = decide (i = j) := decide_eq_decide.mpr ⟨fun z => V.int.inj z, fun z => congrArg V.int z⟩
    rw [e]
    exact h.now s0 (.bl _)
  · split at h
    · rename_i hk
      unfold okd at hk
      simp only [Bool.and_eq_true] at hk
      exact op_eqD hu pins s σ H x y v u Q I rx ry ⟨_, _, dp_view s0 l0 ox hk.1.1, dp_view s0 l0 oy hk.2.1, hk.1.2, hk.2.2, h.now s0 (.bl _)⟩
    · exact h.elim
theorem op_neDD (hu : X.A.units + 64 < cLine) : OpR X (compareOp .NotEq) (rD X.K cl E neD) := by
  rintro pins s σ H x y v u Q I rx ry ⟨W, ρ, σ', st, dx, dy, s0, l0, ox, oy, h⟩
  unfold neD at h
  split at h
  · rename_i i j e1 e2
    have ex := str_of ox e1
    have ey := str_of oy e2
    subst ex ey
    refine op_ne pins s σ H _ _ v u Q I rx ry ⟨rfl, ?_⟩
    have e : decide (V.str i = V.str j) = decide (i = j) := decide_eq_decide.mpr ⟨fun z => V.str.inj z, fun z => congrArg V.str z⟩
    rw [e]
    exact h.now s0 (.bl _)
  · rename_i i j e1 e2
    have ex := int_of ox e1
    have ey := int_of oy e2
    subst ex ey
    refine op_ne pins s σ H _ _ v u Q I rx ry ⟨rfl, ?_⟩
    have e : decide (V.int i = V.int j) = decide (i = j) := decide_eq_decide.mpr ⟨fun z => V.int.inj z, fun z => congrArg V.int z⟩
    rw [e]
    exact h.now s0 (.bl _)
  · split at h
    · rename_i hk
      unfold okd at hk
      simp only [Bool.and_eq_true] at hk
      exact op_neD hu pins s σ H x y v u Q I rx ry ⟨_, _, dp_view s0 l0 ox hk.1.1, dp_view s0 l0 oy hk.2.1, hk.1.2, hk.2.2, h.now s0 (.bl _)⟩
    · exact h.elim
theorem flat_view {dx : D} {st : S} (f : flatD dx = true) : view dx st = dx := by cases dx <;> first | rfl | cases f
theorem any_py (ds : List D) (d : D) : ((pys ds).any fun z => PyData.eqv z (py d)) = ds.any fun z => eqd z d := by
  rw [pys_eq, List.any_map]; rfl
/-- the core of in and not in: the rule for either, by the answer b ↦ g b -/
theorem in_core {op : CmpOp} {g : Bool → Bool} (o1 : OpR X (compareOp op) fun x y H Q => ∃ p xs, y = V.ref p ∧ (SqL X.K H p xs ∨ SqT X.K H p xs) ∧ flatV x = true ∧ xs.all flatV = true ∧ Q (.bl (g (inV x xs))) H)
    (o2 : OpR X (compareOp op) fun x y H Q => ∃ d ds, Dp X.K H x d ∧ Dp X.K H y (.list ds) ∧ SeqAt.shaped d = true ∧ SeqAt.shaped (.list ds) = true ∧ Q (.bl (g (ds.any fun z => PyData.eqv z d))) H)
    (o3 : OpR X (compareOp op) fun x y H Q => ∃ i j, x = V.str i ∧ y = V.str j ∧ Q (.bl (g (!(Builtin.Str.occurrences j i 0 j.length 1).isEmpty))) H)
    (o4 : OpR X (compareOp op) fun x y H Q => ∃ c z, x = V.str { cps := #[c] } ∧ y = V.str z ∧ Q (.bl (g (decide (c ∈ z.cps.toList)))) H) :
    OpR X (compareOp op) (rD X.K cl E fun dx dy st => (inD dx dy st).bind fun z st => match z with | .bl b => .ok (.bl (g b)) st | _ => .stuck) := by
  rintro pins s σ H x y v u Q I rx ry ⟨W, ρ, σ', st, dx, dy, s0, l0, ox, oy, h⟩
  unfold inD at h
  dsimp only at h
  split at h
  · rename_i ds e1
    obtain ⟨a, vs, rfl, h1, h2⟩ := lst_of s0 l0 oy e1
    split at h
    · rename_i hk
      rw [Bool.or_eq_true] at hk
      by_cases hf : (flatD dx && ds.all flatD) = true
      · rw [Bool.and_eq_true] at hf
        have ev : view dx st = dx := flat_view hf.1
        have r := rp_of_flat ox ev (fun es z => by rw [z] at hf; cases hf.1)
        refine o1 pins s σ H _ _ v u Q I rx ry ⟨a, vs, rfl, .inl (.inl (.inl h1)), rp_flatV r hf.1, all_flatV h2 hf.2, ?_⟩
        rw [inV_eqd r hf.1 h2 hf.2]
        rw [ev] at h
        exact Aft.now (a := D.bl _) h s0 (.bl _)
      · have hk := hk.resolve_left hf
        unfold okd at hk
        simp only [Bool.and_eq_true] at hk
        refine o2 pins s σ H _ _ v u Q I rx ry ⟨_, _, dp_view s0 l0 ox hk.1.1, .lst (.inl (.inl h1)) (h2.dp s0.ex (by have := hk.2.1; unfold pur at this; exact this)), hk.1.2, by have := hk.2.2; unfold py at this; exact this, ?_⟩
        rw [any_py]
        exact Aft.now (a := D.bl _) h s0 (.bl _)
    · exact h.elim
  · rename_i ds e1
    obtain ⟨a, vs, rfl, h1, h2, _⟩ := tup_of s0 oy e1
    split at h
    · rename_i hf
      rw [Bool.and_eq_true] at hf
      have ev : view dx st = dx := flat_view hf.1
      have r := rp_of_flat ox ev (fun es z => by rw [z] at hf; cases hf.1)
      refine o1 pins s σ H _ _ v u Q I rx ry ⟨a, vs, rfl, .inr h1, rp_flatV r hf.1, all_flatV h2 hf.2, ?_⟩
      rw [inV_eqd r hf.1 h2 hf.2]
      exact Aft.now (a := D.bl _) h s0 (.bl _)
    · exact h.elim
  · rename_i z e1
    have ey := str_of oy e1
    subst ey
    split at h
    · rename_i x' e2
      have ex := str_of ox e2
      subst ex
      unfold inS at h
      split at h
      · rename_i c ec
        have e3 : x' = ⟨#[c]⟩ := by
          cases x' with
          | mk cps =>
            have : cps = #[c] := by
              apply Array.ext'
              simpa using ec
            rw [this]
        subst e3
        exact o4 pins s σ H _ _ v u Q I rx ry ⟨c, z, rfl, rfl, Aft.now (a := D.bl _) h s0 (.bl _)⟩
      · exact o3 pins s σ H _ _ v u Q I rx ry ⟨x', z, rfl, rfl, Aft.now (a := D.bl _) h s0 (.bl _)⟩
    · exact h.elim
  · exact h.elim
theorem op_inDD (hu : X.A.units + 65 < cLine) : OpR X (compareOp .In) (rD X.K cl E inD) := by
  have h := in_core (X := X) (cl := cl) (E := E) (op := .In) (g := fun b => b) op_in_seq (op_inD hu) op_in_str op_in_sign
  rintro pins s σ H x y v u Q I rx ry ⟨W, ρ, σ', st, dx, dy, s0, l0, ox, oy, q⟩
  refine h pins s σ H x y v u Q I rx ry ⟨W, ρ, σ', st, dx, dy, s0, l0, ox, oy, ?_⟩
  cases e : inD dx dy st with
  | stuck => rw [e] at q; dsimp only; rw [e]; exact q
  | ex x st => rw [e] at q; dsimp only; rw [e]; exact q
  | ok z st2 =>
    have hz : ∃ b, z = .bl b := by
      unfold inD at e
      split at e
      · split at e <;> cases e; exact ⟨_, rfl⟩
      · split at e <;> cases e; exact ⟨_, rfl⟩
      · split at e <;> cases e; exact ⟨_, rfl⟩
      · cases e
    obtain ⟨b, rfl⟩ := hz
    rw [e] at q
    dsimp only
    rw [e]
    exact q
theorem op_nInDD (hu : X.A.units + 65 < cLine) : OpR X (compareOp .NotIn) (rD X.K cl E nInD) := by
  have h := in_core (X := X) (cl := cl) (E := E) (op := .NotIn) (g := fun b => !b) op_notIn_seq (op_notInD hu) op_notin_str op_notIn_sign
  rintro pins s σ H x y v u Q I rx ry ⟨W, ρ, σ', st, dx, dy, s0, l0, ox, oy, q⟩
  refine h pins s σ H x y v u Q I rx ry ⟨W, ρ, σ', st, dx, dy, s0, l0, ox, oy, ?_⟩
  unfold nInD at q
  cases e : inD dx dy st with
  | stuck => rw [e] at q; dsimp only; rw [e]; exact q
  | ex x st => rw [e] at q; dsimp only; rw [e]; exact q
  | ok z st2 =>
    have hz : ∃ b, z = .bl b := by
      unfold inD at e
      split at e
      · split at e <;> cases e; exact ⟨_, rfl⟩
      · split at e <;> cases e; exact ⟨_, rfl⟩
      · split at e <;> cases e; exact ⟨_, rfl⟩
      · cases e
    obtain ⟨b, rfl⟩ := hz
    rw [e] at q
    dsimp only
    rw [e]
    exact q
end

/-! ### tests -/
def tstD (d : D) (st : S) : R Bool := match view d st with
  | .non => .ok false st
  | .bl b => .ok b st
  | .int i => .ok (i != 0) st
  | .str x => if x.length ≤ sizeLine then .ok ((x.length : Int) != 0) st else .stuck
  | .lst ds => .ok (!ds.isEmpty) st
  | .tup ds => .ok (!ds.isEmpty) st
  | _ => .stuck
theorem isEmpty_of {K : PySem.W.Frag} {cl : Cl} {W : Wd} {vs : List V} {ds : List D} (r : RpAll K cl W vs ds) : vs.isEmpty = ds.isEmpty := by cases r <;> rfl
theorem tst_ok {K : PySem.W.Frag} {cl : Cl} {W : Wd} {ρ : Ev} {σ : L2.St} {st st' : S} {H : Hp} {v : V} {d : D} {b : Bool} (s : SatS K cl W st H) (l : SatL K cl W ρ σ H) (o : ORp K cl ρ σ W v d) (e : tstD d st = .ok b st') : TruV K v H b ∧ st' = st := by
  unfold tstD at e
  split at e
  · rename_i h
    rw [non_of o h]
    cases e
    exact ⟨rfl, rfl⟩
  · rename_i h
    rw [bl_of o h]
    cases e
    exact ⟨rfl, rfl⟩
  · rename_i h
    rw [int_of o h]
    cases e
    exact ⟨rfl, rfl⟩
  · rename_i h
    rw [str_of o h]
    split at e
    · rename_i hl
      cases e
      exact ⟨⟨hl, rfl⟩, rfl⟩
    · cases e
  · rename_i h
    obtain ⟨a, vs, rfl, h1, h2⟩ := lst_of s l o h
    cases e
    exact ⟨.inl ⟨vs, .inl (.inl h1), by rw [isEmpty_of h2]⟩, rfl⟩
  · rename_i h
    obtain ⟨a, vs, rfl, h1, h2, _⟩ := tup_of s o h
    cases e
    exact ⟨.inr (.inl ⟨vs, h1, by rw [isEmpty_of h2]⟩), rfl⟩
  · cases e
theorem tst_nex {d : D} {st st' : S} {x : Exn} (e : tstD d st = .ex x st') : False := by
  unfold tstD at e
  split at e <;> first | cases e | (split at e <;> cases e)
def dTst (f : Ev → S → R D) : Ev → S → R Bool := fun ρ st => (f ρ st).bind tstD
def dTB (f : Ev → S → R D) : Ev → S → R Bool := fun ρ st => (f ρ st).bind fun x st => match x with
  | .bl b => .ok b st
  | _ => .stuck
def tAndD (f g : Ev → S → R Bool) : Ev → S → R Bool := fun ρ st => (f ρ st).bind fun b st => if b then g ρ st else .ok false st
def tOrD (f g : Ev → S → R Bool) : Ev → S → R Bool := fun ρ st => (f ρ st).bind fun b st => if b then .ok true st else g ρ st
def tNotD (f : Ev → S → R Bool) : Ev → S → R Bool := fun ρ st => (f ρ st).bind fun b st => .ok (!b) st
def dAnd (f g : Ev → S → R D) : Ev → S → R D := fun ρ st => (f ρ st).bind fun x st => (tstD x st).bind fun b st => if b then g ρ st else .ok x st
def dOr (f g : Ev → S → R D) : Ev → S → R D := fun ρ st => (f ρ st).bind fun x st => (tstD x st).bind fun b st => if b then .ok x st else g ρ st
def dNot (f : Ev → S → R D) : Ev → S → R D := fun ρ st => (f ρ st).bind fun x st => (tstD x st).bind fun b st => .ok (.bl (!b)) st
def dIf (t : Ev → S → R Bool) (f g : Ev → S → R D) : Ev → S → R D := fun ρ st => (t ρ st).bind fun b st => if b then f ρ st else g ρ st
section
variable {X : Cx} {cl : Cl} {E : XK} {f fa fb fc : Ev → S → R D} {g t u : Ev → S → R Bool} {o o' : D → D → S → R D} {a b c e : Expr} {rest : List Expr} {pos : Pos}
theorem dt_val (h : DO X cl E e f) (he : ∀ whole, PySem.isTrue e X.env whole = (do let v ← whole; standAt e.pos; holding [v] (truthy v)) := by intro _; rfl) : DT X cl E e (dTst f) := by
  refine PTimp (pt_truth h he) fun σ H Q h => ?_
  obtain ⟨W, ρ, st, s, l, h⟩ := h
  refine ⟨W, ρ, st, s, l, (Aft.peel h).imp (fun _ _ _ r => r) ?_⟩
  rintro x H1 ⟨dx, st1, W1, g1, k1, s1, r1, h1⟩
  cases q : tstD dx st1 with
  | stuck => rw [q] at h1; exact h1.elim
  | ex x st => exact (tst_nex q).elim
  | ok b st2 =>
    obtain ⟨t1, rfl⟩ := tst_ok s1 (l.keep g1 k1) r1 q
    rw [q] at h1
    exact ⟨b, t1, h1.now s1 rfl⟩
theorem dt_cmp {op : CmpOp} (ho : OpR X (compareOp op) (rD X.K cl E o)) (ha : DO X cl E a fa) (hb : DO X cl E b fb) (hm : behindInMarks op b = false) : DT X cl E (.Compare a [op] [b] pos) (dTB (dBin o fa fb)) := by
  refine PTimp (pt_cmpR ho ha hb hm) fun σ H Q h => ?_
  show tOp (rD X.K cl E o) (liftO X.K cl E fa) (liftO X.K cl E fb) σ H fun x H' => ∃ k, x = V.bl k ∧ Q k H'
  refine rd_op ?_
  obtain ⟨W, ρ, st, s, l, h⟩ := h
  refine ⟨W, ρ, st, s, l, (Aft.peel h).imp (fun _ _ _ r => r) ?_⟩
  rintro x H1 ⟨dx, st1, W1, g1, k1, s1, r1, h1⟩
  cases dx with
  | bl b =>
    cases r1
    exact ⟨b, rfl, Aft.now (a := b) h1 s1 rfl⟩
  | _ => exact False.elim h1
theorem dw_and1 (ha : DT X cl E a t) : DW X cl E (.BoolOp .And [a] pos) t := pw_and1 ha
theorem dw_or1 (ha : DT X cl E a t) : DW X cl E (.BoolOp .Or [a] pos) t := pw_or1 ha
theorem dw_and (ha : DT X cl E a t) (hb : DW X cl E (.BoolOp .And (b :: rest) pos) u) : DW X cl E (.BoolOp .And (a :: b :: rest) pos) (tAndD t u) := by
  refine PWimp (pw_and ha hb) fun σ H Q h => ?_
  obtain ⟨W, ρ, st, s, l, h⟩ := h
  refine ⟨W, ρ, st, s, l, (Aft.peel h).imp (fun _ _ _ r => r) ?_⟩
  rintro x H1 ⟨dx, st1, W1, g1, k1, s1, rfl, h1⟩
  cases x with
  | true => exact ⟨W1, ρ, st1, s1, l.keep g1 k1, h1⟩
  | false => exact Aft.now (a := false) h1 s1 rfl
theorem dw_or (ha : DT X cl E a t) (hb : DW X cl E (.BoolOp .Or (b :: rest) pos) u) : DW X cl E (.BoolOp .Or (a :: b :: rest) pos) (tOrD t u) := by
  refine PWimp (pw_or ha hb) fun σ H Q h => ?_
  obtain ⟨W, ρ, st, s, l, h⟩ := h
  refine ⟨W, ρ, st, s, l, (Aft.peel h).imp (fun _ _ _ r => r) ?_⟩
  rintro x H1 ⟨dx, st1, W1, g1, k1, s1, rfl, h1⟩
  cases x with
  | false => exact ⟨W1, ρ, st1, s1, l.keep g1 k1, h1⟩
  | true => exact Aft.now (a := true) h1 s1 rfl
theorem DWt (h : DW X cl E e t) : DT X cl E e t := h.pt
theorem dt_not (ha : DT X cl E a t) : DT X cl E (.UnaryOp .Not a pos) (tNotD t) := by
  refine PTimp (pt_not ha) fun σ H Q h => ?_
  obtain ⟨W, ρ, st, s, l, h⟩ := h
  refine ⟨W, ρ, st, s, l, (Aft.peel h).imp (fun _ _ _ r => r) ?_⟩
  rintro x H1 ⟨dx, st1, W1, g1, k1, s1, rfl, h1⟩
  exact Aft.now (a := !x) h1 s1 rfl
/-- values -/
theorem dv_one {op : BoolOp} (h : DV X cl E a f) : DV X cl E (.BoolOp op [a] pos) f := pe_one h
theorem dv_and (ha : DV X cl E a fa) (hb : DV X cl E (.BoolOp .And (b :: rest) pos) fb) : DV X cl E (.BoolOp .And (a :: b :: rest) pos) (dAnd fa fb) := by
  refine PEimp (pe_andT ha hb) fun σ H Q h => ?_
  obtain ⟨W, ρ, st, s, l, h⟩ := h
  refine ⟨W, ρ, st, s, l, (Aft.peel h).imp (fun _ _ _ r => r) ?_⟩
  rintro x H1 ⟨dx, st1, W1, g1, k1, s1, r1, h1⟩
  cases q : tstD dx st1 with
  | stuck => rw [q] at h1; exact False.elim h1
  | ex x st => exact (tst_nex q).elim
  | ok b st2 =>
    obtain ⟨t1, rfl⟩ := tst_ok s1 (l.keep g1 k1) (.inl r1) q
    rw [q] at h1
    refine ⟨b, t1, ?_⟩
    cases b with
    | true => exact iteT ⟨W1, ρ, st2, s1, l.keep g1 k1, h1⟩
    | false => exact iteF (Aft.now (a := dx) h1 s1 r1)
theorem dv_or (ha : DV X cl E a fa) (hb : DV X cl E (.BoolOp .Or (b :: rest) pos) fb) : DV X cl E (.BoolOp .Or (a :: b :: rest) pos) (dOr fa fb) := by
  refine PEimp (pe_orT ha hb) fun σ H Q h => ?_
  obtain ⟨W, ρ, st, s, l, h⟩ := h
  refine ⟨W, ρ, st, s, l, (Aft.peel h).imp (fun _ _ _ r => r) ?_⟩
  rintro x H1 ⟨dx, st1, W1, g1, k1, s1, r1, h1⟩
  cases q : tstD dx st1 with
  | stuck => rw [q] at h1; exact False.elim h1
  | ex x st => exact (tst_nex q).elim
  | ok b st2 =>
    obtain ⟨t1, rfl⟩ := tst_ok s1 (l.keep g1 k1) (.inl r1) q
    rw [q] at h1
    refine ⟨b, t1, ?_⟩
    cases b with
    | false => exact iteF ⟨W1, ρ, st2, s1, l.keep g1 k1, h1⟩
    | true => exact iteT (Aft.now (a := dx) h1 s1 r1)
theorem dv_if (hc : DT X cl E c t) (ha : DV X cl E a fa) (hb : DV X cl E b fb) : DV X cl E (.IfExp c a b pos) (dIf t fa fb) := by
  refine PEimp (pe_ifExp hc ha hb) fun σ H Q h => ?_
  obtain ⟨W, ρ, st, s, l, h⟩ := h
  refine ⟨W, ρ, st, s, l, (Aft.peel h).imp (fun _ _ _ r => r) ?_⟩
  rintro x H1 ⟨dx, st1, W1, g1, k1, s1, rfl, h1⟩
  cases x with
  | true => exact iteT ⟨W1, ρ, st1, s1, l.keep g1 k1, h1⟩
  | false => exact iteF ⟨W1, ρ, st1, s1, l.keep g1 k1, h1⟩
/-- a < b < c -/
def dChain (o o' : D → D → S → R D) (fa fb fc : Ev → S → R D) : Ev → S → R D := fun ρ st => (fa ρ st).bind fun x st => (fb ρ st).bind fun y st => (o x y st).bind fun z st => match z with
  | .bl true => (fc ρ st).bind fun w st => o' y w st
  | .bl false => .ok (.bl false) st
  | _ => .stuck
end
end DL
set_option maxHeartbeats 4000000
/-! The data layer, part d: arguments, displays, subscripts, slices, built-in functions. -/
namespace DL
open PySem PySem.Spec PyProof.Rows L2

/-! ### t[::-1] -/
section
variable {prog : Program} {w : World} {A : Around} {E : Value → Shared → Prop} {s : Shared}
theorem back_applied {sl : Addr} {vl vu vs : Value} {n : Nat} {Q : Int × Int × Nat → Shared → Prop} (hs : s.heap.IsSliceOf sl vl vu vs) (pl : IsPart vl none) (pu : IsPart vu none) (ps : IsPart vs (some (-1)))
    (h : Q ((n : Int) - 1, -1, n) s) : wpAny (model prog w) A (Builtin.Slice.sliceApplied (.ref sl) (pure (n : Int))) Q E s := by
  obtain ⟨so, h1, _, h3⟩ := id hs
  unfold Builtin.Slice.sliceApplied Builtin.Slice.sliceFields
  refine wpAny_bind (wpAny_bind (wpAny_field h1 h3 (x := vl) rfl (wpAny_bind (wpAny_field h1 h3 (x := vu) rfl (wpAny_bind (wpAny_field h1 h3 (x := vs) rfl (wpAny_pure ?_)))))))
  refine wpAny_bind (HT.slicePart_ ps ?_)
  show wpAny _ _ (if ((-1 : Int) == 0) = true then _ else _) _ _ s
  rw [if_neg (by decide)]
  refine wpAny_bind (HT.slicePart_ pl (wpAny_bind (HT.slicePart_ pu (wpAny_bind (wpAny_pure ?_)))))
  have e : Builtin.Slice.slicePlaces ((n : Int) - 1) (-1) (-1) = n := by
    unfold Builtin.Slice.slicePlaces
    rw [if_neg (by decide)]
    by_cases hn : n = 0
    · subst hn; rfl
    · rw [if_pos (by omega)]
      have : ((n : Int) - 1 - -1 - 1) / (- -1) = (n : Int) - 1 := by
        rw [show (- -1 : Int) = 1 by decide, Int.ediv_one]
        omega
      rw [this]
      omega
  show wpAny _ _ (pure ((n : Int) - 1, (-1 : Int), Builtin.Slice.slicePlaces ((n : Int) - 1) (-1) (-1))) _ _ s
  rw [e]
  exact wpAny_pure h
theorem back_pick (items : Array Value) : ((List.range items.size).filterMap fun (k : Nat) => items[((items.size : Int) - 1 + (k : Int) * -1).toNat]?).toArray = items.toList.reverse.toArray := by
  have e : ((List.range items.size).filterMap fun (k : Nat) => items[((items.size : Int) - 1 + (k : Int) * -1).toNat]?) = ((List.range items.size).map fun k => items.size - 1 - k).filterMap (items[·]?) := by
    rw [List.filterMap_map]
    congr 1
    funext k
    have e2 : ((items.size : Int) - 1 + (k : Int) * -1).toNat = items.size - 1 - k := by omega
    rw [e2]
    rfl
  rw [e, PySem.W.krv_range, List.filterMap_reverse, PySem.W.krv_all]
theorem back_tuple {u sl : Addr} {items : Array Value} {vl vu vs : Value} {Q : Value → Shared → Prop} (hu : IsTup s.heap u items) (hs : s.heap.IsSliceOf sl vl vu vs) (pl : IsPart vl none) (pu : IsPart vu none) (ps : IsPart vs (some (-1)))
    (h : Q (.ref s.heap.objs.size) { s with heap := s.heap.push { cls := .type "tuple", data := .seq items.toList.reverse.toArray } })
    (hsz : items.size ≤ sizeLine) : wpAny (model prog w) A (getItem (.ref u) (.ref sl)) Q E s := by
  have hok : sizeOk (.seq items.toList.reverse.toArray) := by
    show items.toList.reverse.toArray.size ≤ sizeLine
    rw [List.size_toArray, List.length_reverse, Array.length_toList]
    exact hsz
  obtain ⟨so, h1, h2, h3⟩ := id hs
  have hT : s.TypeIs (.ref sl) "slice" := ⟨so, h1, h2⟩
  unfold getItem
  try with_reducible refine wpAny_holding ?_
  first | refine wpAny_bind (wpAny_pure ?_) | skip
  refine wpAny_bind (wpAny_sequenceKey hu.typeIs (by decide) ?_)
  refine wpAny_bind (wpAny_callSpecial?_slot (name := Str.ofString "__getitem__") hu.typeIs slot_tuple_getitem (wpAny_call_entry slot_tuple_getitem hu.typeIs entry_tuple_getitem ?_ (args_tuple_getitem _ _)))
  show wpAny _ _ (Builtin.Tuple.tupleItemsOf (.ref u) >>= _) _ _ s
  refine wpAny_bind (tupleItemsOf_ hu ?_)
  refine wpAny_bind (wpAny_typeOf hT ?_)
  rw [if_pos (by decide)]
  refine wpAny_bind (back_applied hs pl pu ps ?_)
  show wpAny _ _ (if (((items.size : Int) - 1) == 0 && (-1 : Int) == 1 && items.size == items.size) = true then _ else _) _ _ s
  rw [if_neg (by rw [show ((-1 : Int) == 1) = false from rfl, Bool.and_false, Bool.false_and]; exact Bool.false_ne_true), back_pick]
  first
    | exact wpAny_bind (m := Builtin.Tuple.tupleExact _) (wpAny_newObj_type (wpAny_pure ⟨_, rfl, wpAny_pure h⟩) hok)
    | exact wpAny_bind (m := Builtin.Tuple.tupleExact _) (wpAny_newObj_type (wpAny_bind (wpAny_pure (wpAny_pure ⟨_, rfl, wpAny_pure h⟩))) hok)
    | exact wpAny_bind (wpAny_bind (m := Builtin.Tuple.tupleExact _) (wpAny_newObj_type (wpAny_pure (wpAny_pure ⟨_, rfl, wpAny_pure h⟩)) hok))
    | exact wpAny_bind (wpAny_bind (m := Builtin.Tuple.tupleExact _) (wpAny_newObj_type (wpAny_pure ⟨_, rfl, wpAny_pure h⟩) hok))
end
/-- a text, back to front -/
def bkS (z : Str) : Str := ⟨z.cps.toList.reverse.toArray⟩
theorem idx_back (n : Nat) : Builtin.Str.strSliceIndices none none (-1) n = (List.range n).reverse := by
  show sliceRange ((n : Int) - 1) (-1) (-1) = _
  rw [PySem.W.krv_sliceRange, PySem.W.krv_range]
theorem pick_back (z : Str) : ((Builtin.Str.strSliceIndices none none (-1) z.length).filterMap (z.cps[·]?)) = z.cps.toList.reverse := by
  rw [idx_back, List.filterMap_reverse]
  exact congrArg List.reverse (PySem.W.krv_all z.cps)
/-- back to front: a list, a tuple or a text -/
def tBack (K : PySem.W.Frag) (te : TE) : TE := fun σ H Q => te σ H fun x H1 => (∃ a xs, x = .ref a ∧ SqL K H1 a xs ∧ ∀ p, H1 p = none → Q (.ref p) (upd H1 p (.lst xs.reverse))) ∨ (∃ a xs, x = .ref a ∧ SqT K H1 a xs ∧ NewT H1 xs.reverse Q) ∨ (∃ z, x = .str z ∧ z.length ≤ sizeLine ∧ Q (.str (bkS z)) H1)
theorem pe_back {X : Cx} {e : Expr} {te : TE} {k : Nat} {p1 p2 p3 pos : Pos} (he : PE X e te) : PE X (.Subscript e (.Slice none none (some (.UnaryOp .USub (.Constant (.int 1) k p1) p2)) p3) pos) (tBack X.K te) := by
  refine ⟨fun pn s σ H Q I h => ?_⟩
  refine Subscript_ (thn (he.run pn s σ H _ I h) fun v s1 ⟨x, H1, I1, r1, q1⟩ => ?_)
  have hm : PO X (some (.UnaryOp .USub (.Constant (.int 1) k p1) p2)) (tPart (tUn (rU fun i => .int (-i)) (tC (.int 1)))) := po_some (pe_un un_neg pe_int)
  refine wpAny_Slice (thn (po_none.run pn s1 σ H1 (fun o H2 => o = none ∧ H2 = H1) I1 ⟨rfl, rfl⟩) fun vl s2 ⟨o2, H2, I2, pl, el, e2⟩ => ?_)
  subst el e2
  refine thn (po_none.run pn s2 σ H2 (fun o H3 => o = none ∧ H3 = H2) I2 ⟨rfl, rfl⟩) fun vu s3 ⟨o3, H3, I3, pu, eu, e3⟩ => ?_
  subst eu e3
  refine thn (hm.run pn s3 σ H3 (fun o H4 => o = some (-1) ∧ H4 = H3) I3 ⟨1, rfl, -1, rfl, rfl, rfl⟩) fun vs s4 ⟨o4, H4, I4, ps, eo, e4⟩ => ?_
  subst eo e4
  have J : Inv X pn σ H4 { s4 with heap := s4.heap.push { cls := .type "slice", data := .fields #[vl, vu, vs] } } := I4.kept (t' := s4.toks) fun b ob q => Heap.get?_push_of_some _ q
  show wpAny (model X.prog X.w) X.A (subscriptTail e (.Slice none none (some (.UnaryOp .USub (.Constant (.int 1) k p1) p2)) p3) v (.ref s4.heap.objs.size)) (EP X pn σ Q) X.xe { s4 with heap := s4.heap.push { cls := .type "slice", data := .fields #[vl, vu, vs] } }
  rcases q1 with ⟨b, xs, eb, hx, q⟩ | ⟨b, xs, eb, hx, q⟩ | ⟨z, eb, hz, q⟩
  · subst eb
    cases r1
    obtain ⟨its, r, ht, hsz⟩ := J.list hx
    have hn := r.length
    refine tail_any (ops := [.ref b, .ref s4.heap.objs.size]) ht.isList.typeIs (PySem.slot_list_getitem.lookup) ?_ (by with_unfolding_all rfl)
    refine wpAny_getItem_list_slice ht.isList (Heap.IsSliceOf.new _ vl vu vs) pl pu ps (by decide) ?_ (by rw [List.size_toArray]; omega)
    rw [PySem.W.krv_pick]
    refine ⟨.ref _, _, J.laid (t' := s4.toks) (o := .lst xs.reverse) (fun b ob q => Heap.get?_push_of_some _ q) (Nat.le_refl _) ?_, rfl, q _ (J.hok.fresh (Nat.le_refl _))⟩
    exact ⟨by rw [List.length_reverse]; exact hsz, _, 0, r.reverse, Heap.get?_push_size _ rfl⟩
  · subst eb
    cases r1
    obtain ⟨its, r, ht, hsz⟩ := J.tuple hx
    have hn := r.length
    refine tail_any (ops := [.ref b, .ref s4.heap.objs.size]) ht.typeIs (slot_tuple_getitem.lookup) ?_ (by with_unfolding_all rfl)
    refine back_tuple ht (Heap.IsSliceOf.new _ vl vu vs) pl pu ps ?_ (by rw [List.size_toArray]; omega)
    have J2 := lay_tup (t' := s4.toks) J (by rw [List.length_reverse]; exact hsz) r.reverse
    exact ⟨.ref _, _, J2, rfl, q _ _ (J.hok.fresh (Nat.le_refl _)) rfl⟩
  · subst eb
    obtain ⟨t, rfl⟩ := r1
    obtain ⟨l, rfl, el⟩ := IsPart.raw ps
    refine tail_any (ops := [.str z t, .ref s4.heap.objs.size]) (typeIs_str _ _ _) F.slot_str_getitem.lookup ?_ (by with_unfolding_all rfl)
    obtain ⟨o1, e1, e2⟩ : ∃ l0 : Option (Int × Tok), vl = partValue l0 ∧ l0.map (·.1) = none := IsPart.raw pl
    obtain ⟨o2, e3, e4⟩ : ∃ l0 : Option (Int × Tok), vu = partValue l0 ∧ l0.map (·.1) = none := IsPart.raw pu
    subst e1 e3
    refine wpAny_getItem_str_slice (l := o1) (u := o2) (st := l) ⟨_, Heap.get?_push_size _ rfl, rfl, rfl⟩ (by rw [el]; rfl) ?_
    unfold sliceMade slicePicked
    rw [e2, e4, el]
    show Made.post (if ((-1 : Int) == 1 && _) = true then _ else Made.str ⟨((Builtin.Str.strSliceIndices none none (-1) z.length).filterMap (z.cps[·]?)).toArray⟩) _ _
    rw [show ((-1 : Int) == 1) = false from rfl, Bool.false_and, if_neg Bool.false_ne_true, pick_back]
    refine ⟨?_, .str (bkS z), _, J.tok _, ⟨_, rfl⟩, q⟩
    show z.cps.toList.reverse.toArray.size ≤ sizeLine
    rw [List.size_toArray, List.length_reverse, Array.length_toList]
    exact hz
/-! ### argument lists -/
abbrev ORpAll (K : PySem.W.Frag) (cl : Cl) (ρ : Ev) (σ : L2.St) (W : Wd) : List V → List D → Prop := Paired (ORp K cl ρ σ W)
abbrev DAo (X : Cx) (cl : Cl) (E : XK) (es : List Expr) (f : Ev → S → R (List D)) : Prop := PA X es (liftG X.K cl E (ORpAll X.K cl) f)
def dNil : Ev → S → R (List D) := fun _ st => .ok [] st
def dCons (f : Ev → S → R D) (g : Ev → S → R (List D)) : Ev → S → R (List D) := fun ρ st => (f ρ st).bind fun x st => (g ρ st).bind fun xs st => .ok (x :: xs) st
theorem ORpAll.grow {K : PySem.W.Frag} {cl : Cl} {ρ : Ev} {σ : L2.St} {W W' : Wd} {H : Hp} (g : Grow W H W') : ∀ {vs : List V} {ds : List D}, ORpAll K cl ρ σ W vs ds → ORpAll K cl ρ σ W' vs ds
  | _, _, .nil => .nil
  | _, _, .cons h r => .cons (ORp.grow h g) (ORpAll.grow g r)
section
variable {X : Cx} {cl : Cl} {E : XK} {f : Ev → S → R D} {g : Ev → S → R (List D)} {e : Expr} {es : List Expr} {pos p : Pos}
theorem da_nil : DA X cl E [] dNil := PAimp pa_nil fun σ H Q ⟨W, ρ, st, s, l, h⟩ => Aft.now h s .nil
theorem dao_nil : DAo X cl E [] dNil := PAimp pa_nil fun σ H Q ⟨W, ρ, st, s, l, h⟩ => Aft.now h s .nil
theorem da_cons (ha : DV X cl E e f) (hr : DA X cl E es g) (hs : starEach (e :: es) X.env = (false, eval e X.env) :: starEach es X.env := by rfl) : DA X cl E (e :: es) (dCons f g) := by
  refine PAimp (pa_cons ha hr hs) fun σ H Q h => ?_
  obtain ⟨W, ρ, st, s, l, h⟩ := h
  refine ⟨W, ρ, st, s, l, (Aft.peel h).imp (fun _ _ _ r => r) ?_⟩
  rintro x H1 ⟨dx, st1, W1, g1, k1, s1, r1, h1⟩
  refine ⟨W1, ρ, st1, s1, l.keep g1 k1, (Aft.peel h1).imp (fun _ _ _ r => r) ?_⟩
  rintro xs H2 ⟨dxs, st2, W2, g2, k2, s2, r2, h2⟩
  exact Aft.now h2 s2 (.cons (r1.grow g2) r2)
theorem dao_cons (ha : DO X cl E e f) (hr : DAo X cl E es g) (hs : starEach (e :: es) X.env = (false, eval e X.env) :: starEach es X.env := by rfl) : DAo X cl E (e :: es) (dCons f g) := by
  refine PAimp (pa_cons ha hr hs) fun σ H Q h => ?_
  obtain ⟨W, ρ, st, s, l, h⟩ := h
  refine ⟨W, ρ, st, s, l, (Aft.peel h).imp (fun _ _ _ r => r) ?_⟩
  rintro x H1 ⟨dx, st1, W1, g1, k1, s1, r1, h1⟩
  refine ⟨W1, ρ, st1, s1, l.keep g1 k1, (Aft.peel h1).imp (fun _ _ _ r => r) ?_⟩
  rintro xs H2 ⟨dxs, st2, W2, g2, k2, s2, r2, h2⟩
  exact Aft.now h2 s2 (.cons (ORp.grow r1 g2) r2)
/-! ### displays -/
def dTup (f : Ev → S → R (List D)) : Ev → S → R D := fun ρ st => (f ρ st).bind fun ds st => if ds.length ≤ sizeLine then .ok (.tup ds) st else .stuck
def dLst (f : Ev → S → R (List D)) : Ev → S → R D := fun ρ st => (f ρ st).bind fun ds st => if ds.length ≤ sizeLine then .ok (.lst ds) st else .stuck
theorem dv_tup {k : Nat} (h : DA X cl E es g) : DV X cl E (.Tuple es k pos) (dTup g) := by
  refine PEimp (pe_tupF h) fun σ H Q h => ?_
  obtain ⟨W, ρ, st, s, l, h⟩ := h
  refine ⟨W, ρ, st, s, l, (Aft.peel h).imp (fun _ _ _ r => r) ?_⟩
  rintro xs H1 ⟨ds, st1, W1, g1, k1, s1, r1, h1⟩
  dsimp only at h1
  split at h1
  · rename_i hl
    exact ⟨by rw [r1.length]; exact hl, h1.newT s1 r1⟩
  · exact h1.elim
theorem dv_lst (h : DA X cl E es g) : DV X cl E (.List es pos) (dLst g) := by
  refine PEimp (pe_lst h) fun σ H Q h => ?_
  obtain ⟨W, ρ, st, s, l, h⟩ := h
  refine ⟨W, ρ, st, s, l, (Aft.peel h).imp (fun _ _ _ r => r) ?_⟩
  rintro xs H1 ⟨ds, st1, W1, g1, k1, s1, r1, h1⟩
  dsimp only at h1
  split at h1
  · rename_i hl
    exact ⟨by rw [r1.length]; exact hl, fun p hn => h1.newL s1 r1 hn⟩
  · exact h1.elim
end

/-- a new list of the store -/
def dLstRef (f : Ev → S → R (List D)) : Ev → S → R D := fun ρ st => (f ρ st).bind fun ds st => if ds.length ≤ sizeLine then .ok (.ref st.length) (st ++ [.lst ds]) else .stuck
theorem dv_lstRef {X : Cx} {cl : Cl} {E : XK} {g : Ev → S → R (List D)} {es : List Expr} {pos : Pos} (h : DA X cl E es g) : DV X cl E (.List es pos) (dLstRef g) := by
  refine PEimp (pe_lst h) fun σ H Q h => ?_
  obtain ⟨W, ρ, st, s, l, h⟩ := h
  refine ⟨W, ρ, st, s, l, (Aft.peel h).imp (fun _ _ _ r => r) ?_⟩
  rintro xs H1 ⟨ds, st1, W1, g1, k1, s1, r1, h1⟩
  dsimp only at h1
  split at h1
  · rename_i hl
    refine ⟨by rw [r1.length]; exact hl, fun p hn => ?_⟩
    refine h1 (.ref p) _ ⟨W1.F, W1.A ++ [p]⟩ (grow_alloc hn) (keep_new hn) (s1.alloc hn r1) (.ref ?_)
    show (W1.A ++ [p])[st1.length]? = some p
    rw [← s1.len, List.getElem?_append_right (Nat.le_refl _), Nat.sub_self]
    rfl
  · exact h1.elim

/-! ### subscripts -/
def ixD (dx dy : D) (st : S) : R D := match view dx st, view dy st with
  | .lst ds, .int i => (match atI ds i with
    | some d => .ok d st
    | none => .stuck)
  | .tup ds, .int i => (match atI ds i with
    | some d => .ok d st
    | none => .stuck)
  | .str x, .int i => if x.length ≤ sizeLine then (match atI x.cps.toList i with
    | some c => .ok (.str ⟨#[c]⟩) st
    | none => .stuck) else .stuck
  | _, _ => .stuck
theorem RpAll.atI {K : PySem.W.Frag} {cl : Cl} {W : Wd} {vs : List V} {ds : List D} {i : Int} {d : D} (r : RpAll K cl W vs ds) (e : L2.atI ds i = some d) : ∃ v, L2.atI vs i = some v ∧ Rp K cl W v d := by
  unfold L2.atI at e ⊢
  rw [r.length]
  cases q : ixN ds.length i with
  | none => rw [q] at e; cases e
  | some j =>
    rw [q] at e
    obtain ⟨v, h1, h2⟩ := r.get (i := j) e
    exact ⟨v, h1, h2⟩
/-- slices -/
def cutL {α : Type} (xs : List α) (lo hi : Option Int) : List α := (xs.drop (HT.sIx xs.length 0 lo)).take (HT.sIx xs.length xs.length hi - HT.sIx xs.length 0 lo)
theorem RpAll.cut {K : PySem.W.Frag} {cl : Cl} {W : Wd} {vs : List V} {ds : List D} (r : RpAll K cl W vs ds) (lo hi : Option Int) : RpAll K cl W (cutV vs lo hi) (cutL ds lo hi) := by
  unfold cutV cutL
  rw [r.length]
  exact (r.drop _).take _
def slD (d : D) (lo hi : Option Int) (st : S) : R D := match view d st with
  | .lst ds => .ok (.lst (cutL ds lo hi)) st
  | .tup ds => .ok (.tup (cutL ds lo hi)) st
  | .str x => if x.length ≤ sizeLine then .ok (.str (cutS x lo hi)) st else .stuck
  | .scr ns => .ok (.lst (cutL (ns.map .int) lo hi)) st
  | _ => .stuck
/-- [::-1] of a list -/
def revD (d : D) (st : S) : R D := match view d st with
  | .lst ds => .ok (.lst ds.reverse) st
  | .tup ds => .ok (.tup ds.reverse) st
  | .str z => if z.length ≤ sizeLine then .ok (.str (bkS z)) st else .stuck
  | _ => .stuck
def dSl (f : Ev → S → R D) (lo hi : Ev → S → R (Option Int)) : Ev → S → R D := fun ρ st => (f ρ st).bind fun d st => (lo ρ st).bind fun i st => (hi ρ st).bind fun j st => slD d i j st
def dNoP : Ev → S → R (Option Int) := fun _ st => .ok none st
def dPart (f : Ev → S → R D) : Ev → S → R (Option Int) := fun ρ st => (f ρ st).bind fun d st => match d with
  | .int i => .ok (some i) st
  | _ => .stuck
def dUn (o : D → S → R D) (f : Ev → S → R D) : Ev → S → R D := fun ρ st => (f ρ st).bind o
abbrev DP (X : Cx) (cl : Cl) (E : XK) (e : Option Expr) (f : Ev → S → R (Option Int)) : Prop := PO X e (liftG X.K cl E (fun _ _ _ (a b : Option Int) => a = b) f)
section
variable {X : Cx} {cl : Cl} {E : XK} {f fa fb : Ev → S → R D} {lo hi : Ev → S → R (Option Int)} {a b e : Expr} {el eh : Option Expr} {pos p2 : Pos}
theorem ix_D : IxR X (rD X.K cl E ixD) := by
  rintro ve se pins s σ H x y v u Q I rx ry ⟨W, ρ, σ', st, dx, dy, s0, l0, ox, oy, h⟩ hp
  unfold ixD at h
  split at h
  · rename_i ds i e1 e2
    split at h
    · rename_i d ed
      obtain ⟨q, vs, rfl, h1, h2⟩ := lst_of s0 l0 ox e1
      obtain ⟨z, h3, h4⟩ := h2.atI ed
      exact ix_seq ve se pins s σ H _ y v u Q I rx ry (.inl ⟨q, vs, i, z, rfl, int_of oy e2, .inl (.inl h1), h3, h.now s0 h4⟩) hp
    · exact h.elim
  · rename_i ds i e1 e2
    split at h
    · rename_i d ed
      obtain ⟨q, vs, rfl, h1, h2, _⟩ := tup_of s0 ox e1
      obtain ⟨z, h3, h4⟩ := h2.atI ed
      exact ix_seq ve se pins s σ H _ y v u Q I rx ry (.inr (.inl ⟨q, vs, i, z, rfl, int_of oy e2, h1, h3, h.now s0 h4⟩)) hp
    · exact h.elim
  · rename_i ds i e1 e2
    split at h
    · rename_i hl
      split at h
      · rename_i c ec
        exact ix_seq ve se pins s σ H x y v u Q I rx ry (.inr (.inr ⟨ds, i, c, str_of ox e1, int_of oy e2, hl, ec, h.now s0 (.str _)⟩)) hp
      · exact h.elim
    · exact h.elim
  · exact h.elim
theorem dv_ix (ha : DO X cl E a fa) (hb : DO X cl E b fb) (hp : PlainIx b := by exact fun _ _ => rfl) : DV X cl E (.Subscript a b pos) (dBin ixD fa fb) := PEimp (pe_ix ix_D ha hb hp) fun _ _ _ h => rd_op h
theorem dp_none : DP X cl E none dNoP := POimp po_none fun σ H Q ⟨W, ρ, st, s, l, h⟩ => Aft.now h s rfl
theorem dp_some (h : DV X cl E e f) : DP X cl E (some e) (dPart f) := by
  refine POimp (po_some h) fun σ H Q h => ?_
  obtain ⟨W, ρ, st, s, l, h⟩ := h
  refine ⟨W, ρ, st, s, l, (Aft.peel h).imp (fun _ _ _ r => r) ?_⟩
  rintro x H1 ⟨dx, st1, W1, g1, k1, s1, r1, h1⟩
  cases dx with
  | int i =>
    cases r1
    exact ⟨i, rfl, Aft.now (a := some i) h1 s1 rfl⟩
  | _ => exact False.elim h1
def rSlD (K : PySem.W.Frag) (cl : Cl) (E : XK) : V → Option Int → Option Int → Hp → VK → Prop := fun x lo hi H Q => ∃ W ρ σ st d, SatS K cl W st H ∧ SatL K cl W ρ σ H ∧ ORp K cl ρ σ W x d ∧ Aft K cl E (Rp K cl) W H (slD d lo hi st) Q
theorem sl_D : SlR X (rSlD X.K cl E) := by
  rintro pins s σ H x v vl vu lo hi sl Q I rx hs hl hu ⟨W, ρ, σ', st, d, s0, l0, ox, h⟩
  unfold slD at h
  split at h
  · rename_i ds e1
    obtain ⟨q, vs, rfl, h1, h2⟩ := lst_of s0 l0 ox e1
    exact sl_list pins s σ H _ v vl vu lo hi sl Q I rx hs hl hu ⟨q, vs, rfl, .inl (.inl h1), fun r hn => h.newL s0 (h2.cut lo hi) hn⟩
  · rename_i ds e1
    obtain ⟨q, vs, rfl, h1, h2, h3⟩ := tup_of s0 ox e1
    refine sl_tupF pins s σ H _ v vl vu lo hi sl Q I rx hs hl hu ⟨q, vs, rfl, h1, fun z => ?_, fun _ => h.newT s0 (h2.cut lo hi)⟩
    have e : cutL ds lo hi = ds := by
      unfold cutL
      rw [← h2.length, z.1, z.2]
      show List.take (vs.length - 0) ds = ds
      rw [h2.length, Nat.sub_zero, List.take_length]
    rw [e] at h
    exact h.now s0 h3
  · rename_i z e1
    split at h
    · rename_i hz
      exact sl_str pins s σ H _ v vl vu lo hi sl Q I rx hs hl hu ⟨z, str_of ox e1, hz, h.now s0 (.str _)⟩
    · exact h.elim
  · rename_i ns e1
    obtain ⟨q, rfl, h1⟩ := scr_of s0 ox e1
    exact sl_list pins s σ H _ v vl vu lo hi sl Q I rx hs hl hu ⟨q, _, rfl, h1, fun r hn => h.newL s0 ((RpAll.ofInts ns).cut lo hi) hn⟩
  · exact h.elim
theorem dv_sl (ha : DO X cl E a fa) (hl : DP X cl E el lo) (hh : DP X cl E eh hi) : DV X cl E (.Subscript a (.Slice el eh none p2) pos) (dSl fa lo hi) := by
  refine PEimp (pe_slice (sl_D (cl := cl) (E := E)) ha hl hh) fun σ H Q h => ?_
  obtain ⟨W, ρ, st, s, l, h⟩ := h
  refine ⟨W, ρ, st, s, l, (Aft.peel h).imp (fun _ _ _ r => r) ?_⟩
  rintro x H1 ⟨dx, st1, W1, g1, k1, s1, r1, h1⟩
  refine ⟨W1, ρ, st1, s1, l.keep g1 k1, (Aft.peel h1).imp (fun _ _ _ r => r) ?_⟩
  rintro i H2 ⟨_, st2, W2, g2, k2, s2, rfl, h2⟩
  refine ⟨W2, ρ, st2, s2, (l.keep g1 k1).keep g2 k2, (Aft.peel h2).imp (fun _ _ _ r => r) ?_⟩
  rintro j H3 ⟨_, st3, W3, g3, k3, s3, rfl, h3⟩
  exact ⟨W3, ρ, σ, st3, dx, s3, ((l.keep g1 k1).keep g2 k2).keep g3 k3, (ORp.grow r1 g2).grow g3, h3⟩
theorem dv_revL {k : Nat} {q1 q2 q3 : Pos} (ha : DO X cl E a fa) : DV X cl E (.Subscript a (.Slice none none (some (.UnaryOp .USub (.Constant (.int 1) k q1) q2)) q3) pos) (dUn revD fa) := by
  refine PEimp (pe_back ha) fun σ H Q h => ?_
  obtain ⟨W, ρ, st, s, l, h⟩ := h
  refine ⟨W, ρ, st, s, l, (Aft.peel h).imp (fun _ _ _ r => r) ?_⟩
  rintro x H1 ⟨dx, st1, W1, g1, k1, s1, r1, h1⟩
  unfold revD at h1
  split at h1
  · rename_i ds e1
    obtain ⟨q, vs, rfl, h3, h4⟩ := lst_of s1 (l.keep g1 k1) r1 e1
    exact .inl ⟨q, vs, rfl, .inl (.inl h3), fun p hn => h1.newL s1 h4.reverse hn⟩
  · rename_i ds e1
    obtain ⟨q, vs, rfl, h3, h4, _⟩ := tup_of s1 r1 e1
    exact .inr (.inl ⟨q, vs, rfl, h3, h1.newT s1 h4.reverse⟩)
  · rename_i z e1
    split at h1
    · rename_i hz
      exact .inr (.inr ⟨z, str_of r1 e1, hz, h1.now s1 (.str _)⟩)
    · exact h1.elim
  · exact h1.elim
/-- -x -/
def negD (d : D) (st : S) : R D := match view d st with
  | .int i => .ok (.int (-i)) st
  | _ => .stuck
theorem dv_neg (ha : DO X cl E a fa) : DV X cl E (.UnaryOp .USub a pos) (dUn negD fa) := by
  refine PEimp (pe_un un_neg ha) fun σ H Q h => ?_
  obtain ⟨W, ρ, st, s, l, h⟩ := h
  refine ⟨W, ρ, st, s, l, (Aft.peel h).imp (fun _ _ _ r => r) ?_⟩
  rintro x H1 ⟨dx, st1, W1, g1, k1, s1, r1, h1⟩
  unfold negD at h1
  split at h1
  · rename_i i e1
    exact ⟨i, int_of r1 e1, h1.now s1 (.int _)⟩
  · exact h1.elim
end

/-! ### built-in functions -/
def rL (K : PySem.W.Frag) (cl : Cl) (E : XK) (o : List D → S → R D) : List V → Hp → VK → Prop := fun vs H Q => ∃ W ρ σ st ds, SatS K cl W st H ∧ SatL K cl W ρ σ H ∧ ORpAll K cl ρ σ W vs ds ∧ Aft K cl E (Rp K cl) W H (o ds st) Q
def dCall (o : List D → S → R D) (f : Ev → S → R (List D)) : Ev → S → R D := fun ρ st => (f ρ st).bind o
section
variable {X : Cx} {cl : Cl} {E : XK} {g : Ev → S → R (List D)} {o : List D → S → R D} {e : Expr} {es : List Expr} {pos p : Pos} {x : Str} {id T : String}
theorem rd_call {K : PySem.W.Frag} {σ : L2.St} {H : Hp} {Q : VK} (h : liftV K cl E (dCall o g) σ H Q) : tCB (rL K cl E o) (liftG K cl E (ORpAll K cl) g) σ H Q := by
  obtain ⟨W, ρ, st, s, l, h⟩ := h
  refine ⟨W, ρ, st, s, l, (Aft.peel h).imp (fun _ _ _ r => r) ?_⟩
  rintro xs H1 ⟨ds, st1, W1, g1, k1, s1, r1, h1⟩
  exact ⟨W1, ρ, σ, st1, ds, s1, l.keep g1 k1, r1, h1⟩
theorem dv_callB (hc : CallR X (.builtin id) (rL X.K cl E o)) (hg : Gl X x) (hm : X.mg x = none) (hv : bootBuiltins x = some (.builtin id)) (ha : DAo X cl E (e :: es) g) (hn : x ≠ "__name__" := by decide) (hdb : (x == ("__debug__" : Str)) = false := by decide)
    (he : starEach (e :: es) X.env = (false, eval e X.env) :: starEach es X.env := by rfl) (hpl : (backTo pos (starEach es X.env)).any (·.1) = false := by rfl) : DV X cl E (.Call (.Name x p) (e :: es) [] pos) (dCall o g) := PEimp (pe_callB hc hg hm hv ha hn hdb he hpl) fun _ _ _ h => rd_call h
theorem dv_callTy (hc : CallR X (.type T) (rL X.K cl E o)) (hg : Gl X x) (hm : X.mg x = none) (hv : bootBuiltins x = some (.type T)) (ha : DAo X cl E (e :: es) g) (hn : x ≠ "__name__" := by decide) (hdb : (x == ("__debug__" : Str)) = false := by decide)
    (he : starEach (e :: es) X.env = (false, eval e X.env) :: starEach es X.env := by rfl) (hpl : (backTo pos (starEach es X.env)).any (·.1) = false := by rfl) : DV X cl E (.Call (.Name x p) (e :: es) [] pos) (dCall o g) := PEimp (pe_callTy hc hg hm hv ha hn hdb he hpl) fun _ _ _ h => rd_call h
theorem dv_ty {n : String} (hg : Gl X x) (hm : X.mg x = none) (hv : bootBuiltins x = some (.type n)) (hn : x ≠ "__name__" := by decide) (hd : (x == ("__debug__" : Str)) = false := by decide) : DV X cl E (.Name x pos) (dC (.ty n)) := dv_c (v := .ty n) (pe_bltn hg hm hv rfl hn hd) fun _ => .ty n
end
def blsOf : List D → Option (List Bool)
  | [] => some []
  | .bl b :: r => (blsOf r).map (b :: ·)
  | _ => none
def strsOf : List D → Option (List Str)
  | [] => some []
  | .str b :: r => (strsOf r).map (b :: ·)
  | _ => none
def intsOf : List D → Option (List Int)
  | [] => some []
  | .int b :: r => (intsOf r).map (b :: ·)
  | _ => none
theorem blsOf_eq : ∀ {ds : List D} {bs : List Bool}, blsOf ds = some bs → ds = bs.map .bl
  | [], bs, h => by cases h; rfl
  | d :: r, bs, h => by
    cases d with
    | bl b =>
      simp only [blsOf, Option.map_eq_some_iff] at h
      obtain ⟨as, h1, rfl⟩ := h
      rw [blsOf_eq h1]; rfl
    | _ => simp [blsOf] at h
theorem strsOf_eq : ∀ {ds : List D} {bs : List Str}, strsOf ds = some bs → ds = bs.map .str
  | [], bs, h => by cases h; rfl
  | d :: r, bs, h => by
    cases d with
    | str b =>
      simp only [strsOf, Option.map_eq_some_iff] at h
      obtain ⟨as, h1, rfl⟩ := h
      rw [strsOf_eq h1]; rfl
    | _ => simp [strsOf] at h
theorem intsOf_eq : ∀ {ds : List D} {bs : List Int}, intsOf ds = some bs → ds = bs.map .int
  | [], bs, h => by cases h; rfl
  | d :: r, bs, h => by
    cases d with
    | int b =>
      simp only [intsOf, Option.map_eq_some_iff] at h
      obtain ⟨as, h1, rfl⟩ := h
      rw [intsOf_eq h1]; rfl
    | _ => simp [intsOf] at h
@[simp] theorem blsOf_map : ∀ (bs : List Bool), blsOf (bs.map .bl) = some bs
  | [] => rfl
  | b :: r => by simp [blsOf, blsOf_map r]
@[simp] theorem strsOf_map : ∀ (bs : List Str), strsOf (bs.map .str) = some bs
  | [] => rfl
  | b :: r => by simp [strsOf, strsOf_map r]
@[simp] theorem intsOf_map : ∀ (bs : List Int), intsOf (bs.map .int) = some bs
  | [] => rfl
  | b :: r => by simp [intsOf, intsOf_map r]
/-- sep.join(xs) -/
def joinD (a : Str) (dy : D) (st : S) : R D := match view dy st with
  | .lst ds => (match strsOf ds with
    | some xs => if (xs.map (·.length)).sum + xs.length * a.length ≤ 16777216 then .ok (.str (Txt.join a xs)) st else .stuck
    | none => .stuck)
  | .tup ds => (match strsOf ds with
    | some xs => if (xs.map (·.length)).sum + xs.length * a.length ≤ 16777216 then .ok (.str (Txt.join a xs)) st else .stuck
    | none => .stuck)
  | _ => .stuck
def dJoin (fa fb : Ev → S → R D) : Ev → S → R D := fun ρ st => (fa ρ st).bind fun x st => match x with
  | .str a => (fb ρ st).bind fun y st => joinD a y st
  | _ => .stuck
theorem dv_join {X : Cx} {cl : Cl} {E : XK} {fa fb : Ev → S → R D} {o e : Expr} {apos pos : Pos} (ha : DV X cl E o fa) (hb : DO X cl E e fb) (h1 : starEach [e] X.env = [(false, eval e X.env)] := by rfl) (h2 : attributeBase o "join" X.env (eval o X.env) = eval o X.env := by rfl) (h3 : (apos.endLine == pos.line) = true := by rfl) :
    DV X cl E (.Call (.Attribute o "join" apos) [e] [] pos) (dJoin fa fb) := by
  refine PEimp (pe_join ha hb h1 h2 h3) fun σ H Q h => ?_
  obtain ⟨W, ρ, st, s, l, h⟩ := h
  refine ⟨W, ρ, st, s, l, (Aft.peel h).imp (fun _ _ _ r => r) ?_⟩
  rintro x H1 ⟨dx, st1, W1, g1, k1, s1, r1, hh⟩
  have l1 := l.keep g1 k1
  cases dx with
  | str a =>
    cases r1
    refine ⟨⟨a, rfl⟩, W1, ρ, st1, s1, l1, (Aft.peel hh).imp (fun _ _ _ r => r) ?_⟩
    rintro y H2 ⟨dy, st2, W2, g2, k2, s2, r2, h2⟩
    have l2 := l1.keep g2 k2
    unfold joinD at h2
    split at h2
    · rename_i ds e2
      split at h2
      · rename_i xs ex
        split at h2
        · rename_i hl
          obtain ⟨p, vs, rfl, h4, h5⟩ := lst_of s2 l2 r2 e2
          rw [strsOf_eq ex] at h5
          exact ⟨a, p, xs, rfl, rfl, .inl (by rw [← h5.strs]; exact .inl (.inl h4)), hl, h2.now s2 (.str _)⟩
        · exact h2.elim
      · exact h2.elim
    · rename_i ds e2
      split at h2
      · rename_i xs ex
        split at h2
        · rename_i hl
          obtain ⟨p, vs, rfl, h4, h5, _⟩ := tup_of s2 r2 e2
          rw [strsOf_eq ex] at h5
          exact ⟨a, p, xs, rfl, rfl, .inr (by rw [← h5.strs]; exact h4), hl, h2.now s2 (.str _)⟩
        · exact h2.elim
      · exact h2.elim
    · exact h2.elim
  | _ => exact (show False from hh).elim
/-- the one argument -/
def one (o : D → S → R D) : List D → S → R D
  | [d], st => o d st
  | _, _ => .stuck
def lenD (d : D) (st : S) : R D := match view d st with
  | .str x => if x.length ≤ sizeLine then .ok (.int x.length) st else .stuck
  | .lst ds => .ok (.int ds.length) st
  | .tup ds => .ok (.int ds.length) st
  | _ => .stuck
def allD (d : D) (st : S) : R D := match view d st with
  | .lst ds => (match blsOf ds with
    | some bs => .ok (.bl (bs.all id)) st
    | none => .stuck)
  | _ => .stuck
def absD (d : D) (st : S) : R D := match view d st with
  | .int i => .ok (.int (if i < 0 then -i else i)) st
  | _ => .stuck
def intF (d : D) (st : S) : R D := match view d st with
  | .int i => .ok (.int i) st
  | _ => .stuck
def tupleF (d : D) (st : S) : R D := match view d st with
  | .lst ds => .ok (.tup ds) st
  | .tup ds => .ok (.tup ds) st
  | _ => .stuck
def listF (d : D) (st : S) : R D := match view d st with
  | .lst ds => .ok (.lst ds) st
  | .tup ds => .ok (.lst ds) st
  | _ => .stuck
/-- the sorted list of texts -/
def sortS (xs : List Str) : List Str := xs.mergeSort fun a b => !ltS b a
theorem ltS_total (a b : Str) : ((!ltS b a) || (!ltS a b)) = true := by
  cases h1 : ltS b a with
  | false => rfl
  | true =>
    cases h2 : ltS a b with
    | false => rfl
    | true =>
      have h3 := of_decide_eq_true h1
      have h4 := of_decide_eq_true h2
      exact absurd (List.lt_trans h3 h4) (List.lt_irrefl _)
theorem ltS_antisymm {a b : Str} (h1 : ltS b a = false) (h2 : ltS a b = false) : a = b := by
  have h3 := of_decide_eq_false h1
  have h4 := of_decide_eq_false h2
  have e : a.cps.toList = b.cps.toList := List.le_antisymm h3 h4
  cases a with
  | mk x =>
    cases b with
    | mk y =>
      have : x = y := Array.ext' e
      rw [this]
theorem leS_trans {a b c : Str} (h1 : (!ltS b a) = true) (h2 : (!ltS c b) = true) : (!ltS c a) = true := by
  rw [Bool.not_eq_true'] at h1 h2 ⊢
  have h3 : a.cps.toList ≤ b.cps.toList := of_decide_eq_false h1
  have h4 : b.cps.toList ≤ c.cps.toList := of_decide_eq_false h2
  exact decide_eq_false (show ¬ c.cps.toList < a.cps.toList from List.le_trans h3 h4)
theorem risingS_pw : ∀ (p : Str) (l : List Str), risingS p l = true → (p :: l).Pairwise fun a b => (!ltS b a) = true
  | p, [], _ => List.pairwise_singleton _ _
  | p, x :: r, h => by
    have h' : (!ltCps x.cps.toList p.cps.toList && risingS x r) = true := h
    rw [Bool.and_eq_true, ltCps_eq] at h'
    have ih := risingS_pw x r h'.2
    refine List.pairwise_cons.mpr ⟨fun y hy => ?_, ih⟩
    rcases List.mem_cons.mp hy with rfl | hy
    · exact h'.1
    · exact leS_trans (show (!ltS x p) = true from h'.1) (List.rel_of_pairwise_cons ih hy)
theorem sortS_eq {xs ys : List Str} (hp : ys.Perm xs) (hs : sortedS ys = true) : ys = sortS xs := by
  have h1 : ys.Pairwise fun a b => (!ltS b a) = true := by
    cases ys with
    | nil => exact List.Pairwise.nil
    | cons y r => exact risingS_pw y r hs
  have h2 : (sortS xs).Pairwise fun a b => (!ltS b a) = true := List.pairwise_mergeSort (le := fun a b => !ltS b a) (fun a b c h1 h2 => leS_trans (a := a) (b := b) (c := c) h1 h2) (fun a b => ltS_total a b) xs
  refine List.Perm.eq_of_pairwise (fun a b _ _ h3 h4 => ?_) h1 h2 (hp.trans (List.mergeSort_perm xs _).symm)
  rw [Bool.not_eq_true'] at h3 h4
  exact ltS_antisymm h3 h4
def sortI (xs : List Int) : List Int := xs.mergeSort fun a b => decide (a ≤ b)
theorem sortI_eq {xs ys : List Int} (hp : ys.Perm xs) (hs : ys.Pairwise (· ≤ ·)) : ys = sortI xs := by
  have h2 : (sortI xs).Pairwise fun a b => decide (a ≤ b) = true := List.pairwise_mergeSort (fun a b c h1 h2 => by
    simp only [decide_eq_true_eq] at *
    omega) (fun a b => by
    simp only [Bool.or_eq_true, decide_eq_true_eq]
    omega) xs
  exact List.Perm.eq_of_pairwise (fun a b _ _ h3 h4 => by omega) hs (h2.imp fun h => of_decide_eq_true h) (hp.trans (List.mergeSort_perm xs _).symm)
def sortedD (d : D) (st : S) : R D := match view d st with
  | .lst ds => (match strsOf ds with
    | some xs => if xs.length < 64 then .ok (.lst ((sortS xs).map .str)) st else .stuck
    | none => (match intsOf ds with
      | some ns => .ok (.lst ((sortI ns).map .int)) st
      | none => .stuck))
  | .tup ds => (match strsOf ds with
    | some xs => .ok (.lst ((sortS xs).map .str)) st
    | none => .stuck)
  | _ => .stuck
/-- isinstance by built-in classes -/
def isI (d : D) (n : String) : Bool := match d with
  | .str _ => n == "str"
  | .int _ => n == "int"
  | .bl _ => n == "bool" || n == "int"
  | .lst _ => n == "list"
  | .tup _ => n == "tuple"
  | _ => false
def tyNames : List String := ["str", "int", "bool", "list", "tuple", "dict"]
def tyOk (d : D) : Bool := match d with
  | .str _ => true
  | .int _ => true
  | .bl _ => true
  | .lst _ => true
  | .tup _ => true
  | .non => true
  | _ => false
def isiD : List D → S → R D
  | [d, .ty n], st => if tyOk (view d st) && tyNames.contains n then .ok (.bl (isI (view d st) n)) st else .stuck
  | _, _ => .stuck
def tyS (d : D) : String := match d with
  | .str _ => "str"
  | .int _ => "int"
  | .bl _ => "bool"
  | .lst _ => "list"
  | .tup _ => "tuple"
  | _ => "NoneType"
theorem kit_isI {d : D} {n : String} (h : tyOk d = true) (hn : tyNames.contains n = true) : kitB (tyS d) n = some (isI d n) := by
  simp only [tyNames, List.contains_cons, List.contains_nil, Bool.or_false, Bool.or_eq_true, beq_iff_eq] at hn
  rcases hn with rfl | rfl | rfl | rfl | rfl | rfl <;> cases d <;> first | rfl | (simp [tyOk] at h; done)
section
variable {X : Cx} {cl : Cl} {E : XK}
theorem one_of {K : PySem.W.Frag} {o : D → S → R D} {vs : List V} {H : Hp} {Q : VK} (h : rL K cl E (one o) vs H Q) : ∃ v W ρ σ st d, vs = [v] ∧ SatS K cl W st H ∧ SatL K cl W ρ σ H ∧ ORp K cl ρ σ W v d ∧ Aft K cl E (Rp K cl) W H (o d st) Q := by
  obtain ⟨W, ρ, σ, st, ds, s, l, r, h⟩ := h
  cases r with
  | nil => exact h.elim
  | cons r1 r2 =>
    cases r2 with
    | nil => exact ⟨_, W, ρ, σ, st, _, rfl, s, l, r1, h⟩
    | cons _ _ => exact h.elim
theorem cr_len : CallR X (.builtin "len") (rL X.K cl E (one lenD)) := by
  intro pins s σ H xs us Q I rv h0
  obtain ⟨v, W, ρ, σ', st, d, rfl, s0, l0, o, h⟩ := one_of h0
  clear h0
  unfold lenD at h
  split at h
  · rename_i z e
    have ev := str_of o e
    subst ev
    split at h
    · rename_i hl
      exact call_len pins s σ H _ us Q I rv ⟨_, _, rfl, ⟨hl, rfl⟩, h.now s0 (.int _)⟩
    · exact h.elim
  · rename_i ds e
    obtain ⟨q, vs, rfl, h1, h2⟩ := lst_of s0 l0 o e
    exact call_len pins s σ H _ us Q I rv ⟨_, _, rfl, .inl ⟨vs, .inl (.inl h1), rfl⟩, by rw [h2.length]; exact h.now s0 (.int _)⟩
  · rename_i ds e
    obtain ⟨q, vs, rfl, h1, h2, _⟩ := tup_of s0 o e
    exact call_len pins s σ H _ us Q I rv ⟨_, _, rfl, .inr ⟨vs, h1, rfl⟩, by rw [h2.length]; exact h.now s0 (.int _)⟩
  · exact h.elim
theorem cr_allD (hc : X.calm = true) : CallR X (.builtin "all") (rL X.K cl E (one allD)) := by
  intro pins s σ H xs us Q I rv h0
  obtain ⟨v, W, ρ, σ', st, d, rfl, s0, l0, o, h⟩ := one_of h0
  clear h0
  unfold allD at h
  split at h
  · rename_i ds e
    obtain ⟨q, vs, rfl, h1, h2⟩ := lst_of s0 l0 o e
    split at h
    · rename_i bs eb
      rw [blsOf_eq eb] at h2
      exact cr_all hc pins s σ H _ us Q I rv ⟨q, bs, rfl, by rw [← h2.bls]; exact .inl (.inl h1), h.now s0 (.bl _)⟩
    · exact h.elim
  · exact h.elim
theorem cr_intF : CallR X (.type "int") (rL X.K cl E (one intF)) := by
  intro pins s σ H xs us Q I rv h0
  obtain ⟨v, W, ρ, σ', st, d, rfl, s0, l0, o, h⟩ := one_of h0
  clear h0
  unfold intF at h
  split at h
  · rename_i i e
    exact call_int1 pins s σ H _ us Q I rv (.inl ⟨i, by rw [int_of o e], h.now s0 (.int _)⟩)
  · exact h.elim
theorem cr_tupleF : CallR X (.type "tuple") (rL X.K cl E (one tupleF)) := by
  intro pins s σ H xs us Q I rv h0
  obtain ⟨v, W, ρ, σ', st, d, rfl, s0, l0, o, h⟩ := one_of h0
  clear h0
  unfold tupleF at h
  split at h
  · rename_i ds e
    obtain ⟨q, vs, rfl, h1, h2⟩ := lst_of s0 l0 o e
    exact call_tupleF pins s σ H _ us Q I rv ⟨q, vs, rfl, .inl ⟨.inl (.inl h1), h.newT s0 h2⟩⟩
  · rename_i ds e
    obtain ⟨q, vs, rfl, h1, h2, h3⟩ := tup_of s0 o e
    exact call_tupleF pins s σ H _ us Q I rv ⟨q, vs, rfl, .inr ⟨h1, h.now s0 h3⟩⟩
  · exact h.elim
theorem cr_listF : CallR X (.type "list") (rL X.K cl E (one listF)) := by
  intro pins s σ H xs us Q I rv h0
  obtain ⟨v, W, ρ, σ', st, d, rfl, s0, l0, o, h⟩ := one_of h0
  clear h0
  unfold listF at h
  split at h
  · rename_i ds e
    obtain ⟨q, vs, rfl, h1, h2⟩ := lst_of s0 l0 o e
    exact call_list_of pins s σ H _ us Q I rv ⟨q, vs, rfl, .inl (.inl (.inl h1)), fun r hn => h.newL s0 h2 hn⟩
  · rename_i ds e
    obtain ⟨q, vs, rfl, h1, h2, h3⟩ := tup_of s0 o e
    exact call_list_of pins s σ H _ us Q I rv ⟨q, vs, rfl, .inr h1, fun r hn => h.newL s0 h2 hn⟩
  · exact h.elim
theorem cr_sortedD : CallR X (.builtin "sorted") (rL X.K cl E (one sortedD)) := by
  intro pins s σ H xs us Q I rv h0
  obtain ⟨v, W, ρ, σ', st, d, rfl, s0, l0, o, h⟩ := one_of h0
  clear h0
  unfold sortedD at h
  split at h
  · rename_i ds e
    obtain ⟨q, vs, rfl, h1, h2⟩ := lst_of s0 l0 o e
    split at h
    · rename_i bs eb
      rw [strsOf_eq eb] at h2
      split at h
      · rename_i hl
        refine cr_sortedS pins s σ H _ us Q I rv ⟨q, bs, rfl, by rw [← h2.strs]; exact .inl (.inl h1), hl, fun ys p hp hs hn => ?_⟩
        rw [sortS_eq hp hs]
        exact h.newL s0 (RpAll.ofStrs _) hn
      · exact h.elim
    · split at h
      · rename_i ns en
        rw [intsOf_eq en] at h2
        refine cr_sortedI pins s σ H _ us Q I rv ⟨q, ns, rfl, by rw [← h2.ints]; exact .inl (.inl h1), fun ys p hp hs hn => ?_⟩
        rw [sortI_eq hp hs]
        exact h.newL s0 (RpAll.ofInts _) hn
      · exact h.elim
  · rename_i ds e
    obtain ⟨q, vs, rfl, h1, h2, _⟩ := tup_of s0 o e
    split at h
    · rename_i bs eb
      rw [strsOf_eq eb] at h2
      refine cr_sortedTup pins s σ H _ us Q I rv ⟨q, bs, rfl, by rw [← h2.strs]; exact h1, fun ys p hp hs hn => ?_⟩
      rw [sortS_eq hp hs]
      exact h.newL s0 (RpAll.ofStrs _) hn
    · exact h.elim
  · exact h.elim
theorem tyX_of {K : PySem.W.Frag} {W : Wd} {ρ : Ev} {σ : L2.St} {st : S} {H : Hp} {v : V} {d : D} (s : SatS K cl W st H) (l : SatL K cl W ρ σ H) (o : ORp K cl ρ σ W v d) (h : tyOk (view d st) = true) : TyX K H v (.type (tyS (view d st))) := by
  cases e : view d st with
  | non => rw [non_of o e]; exact .base .non
  | bl b => rw [bl_of o e]; exact .base (.bl b)
  | int i => rw [int_of o e]; exact .base (.int i)
  | str x => rw [str_of o e]; exact .base (.str x)
  | lst ds =>
    obtain ⟨q, vs, rfl, h1, h2⟩ := lst_of s l o e
    exact .base (.lst h1)
  | tup ds =>
    obtain ⟨q, vs, rfl, h1, h2, h3⟩ := tup_of s o e
    rcases h1 with (h1 | ⟨ob, h1⟩) | ⟨ob, its, n, hk, hc, _⟩
    · exact .base (.tup h1)
    · exact .fTuple h1
    · exact .kTuple hk hc
  | _ => rw [e] at h; simp [tyOk] at h
theorem kitAny_of {K : PySem.W.Frag} {d : D} (h : tyOk d = true) : ∀ {ts : List String}, ts.all tyNames.contains = true → PySem.W.kitAny K (.type (tyS d)) (ts.map .type) = some (ts.any fun n => isI d n)
  | [], _ => rfl
  | t :: ts, ht => by
    rw [List.all_cons, Bool.and_eq_true] at ht
    have h1 := kit_ty (K := K) (kit_isI h ht.1)
    have ih := kitAny_of (K := K) h ht.2
    rw [List.map_cons, List.any_cons]
    unfold PySem.W.kitAny
    rw [h1]
    cases e : isI d t with
    | true => rfl
    | false =>
      rw [Bool.false_or]
      exact ih
theorem cr_isi : CallR X (.builtin "isinstance") (rL X.K cl E isiD) := by
  intro pins s σ H xs us Q I rv h
  obtain ⟨W, ρ, σ', st, ds, s0, l0, r, h⟩ := h
  unfold isiD at h
  split at h
  · rename_i d n
    cases r with
    | cons r1 r2 =>
      cases r2 with
      | cons r2 r3 =>
        cases r3
        have e2 := ty_of (st := st) r2 rfl
        subst e2
        split at h
        · rename_i hk
          rw [Bool.and_eq_true] at hk
          exact call_isi pins s σ H _ us Q I rv ⟨_, _, _, _, _, rfl, .ty n, tyX_of s0 l0 r1 hk.1, kit_ty (kit_isI hk.1 hk.2), h.now s0 (.bl _)⟩
        · exact h.elim
  · exact h.elim
/-- isinstance(a, (T, ..)) -/
def tTys : List String → TA
  | [] => tNil
  | n :: r => tCons (tC (.ty n)) (tTys r)
def isiT (ts : List String) (d : D) (st : S) : R D := if tyOk (view d st) && (ts.all tyNames.contains && decide (ts.length ≤ sizeLine)) then .ok (.bl (ts.any fun n => isI (view d st) n)) st else .stuck
theorem tTys_run {ts : List String} {σ : L2.St} {H : Hp} : ∀ {Q : List V → Hp → Prop}, Q (ts.map V.ty) H → tTys ts σ H Q := by
  induction ts with
  | nil => intro Q h; exact h
  | cons t ts ih =>
    intro Q h
    show tTys ts σ H fun xs H2 => Q (V.ty t :: xs) H2
    exact ih h
theorem paired_ty : ∀ ts : List String, Paired ClsV (ts.map V.ty) (ts.map Value.type)
  | [] => .nil
  | t :: ts => .cons (.ty t) (paired_ty ts)
theorem dv_isiT {fa : Ev → S → R D} {a : Expr} {ns : List Expr} {ts : List String} {k : Nat} {p p2 pos : Pos} (ha : DO X cl E a fa) (hns : PA X ns (tTys ts)) (hg : Gl X "isinstance") (hm : X.mg "isinstance" = none)
    (he : starEach [a, .Tuple ns k p2] X.env = (false, eval a X.env) :: starEach [.Tuple ns k p2] X.env := by rfl) (he2 : starEach [.Tuple ns k p2] X.env = (false, eval (.Tuple ns k p2) X.env) :: starEach [] X.env := by rfl) (hpl : (backTo pos (starEach [.Tuple ns k p2] X.env)).any (·.1) = false := by rfl) :
    DV X cl E (.Call (.Name "isinstance" p) [a, .Tuple ns k p2] [] pos) (dUn (isiT ts) fa) := by
  refine PEimp (pe_callB call_isiT hg hm (by decide +kernel) (pa_cons ha (pa_cons (pe_tup hns) pa_nil he2) he) (by decide) (by decide) he hpl) fun σ H Q h => ?_
  obtain ⟨W, ρ, st, s, l, h⟩ := h
  refine ⟨W, ρ, st, s, l, (Aft.peel h).imp (fun _ _ _ r => r) ?_⟩
  rintro x H1 ⟨dx, st1, W1, g1, k1, s1, r1, h1⟩
  unfold isiT at h1
  split at h1
  · rename_i hk
    simp only [Bool.and_eq_true, decide_eq_true_eq] at hk
    have l1 := l.keep g1 k1
    refine tTys_run ⟨by rw [List.length_map]; exact hk.2.2, fun q hn => ?_⟩
    refine ⟨x, q, ts.map V.ty, .type (tyS (view dx st1)), ts.map Value.type, _, rfl, upd_same, paired_ty ts, ?_, kitAny_of hk.1 hk.2.1, ?_⟩
    · have g2 : Grow W1 H1 ⟨upd W1.F q (.tup (ts.map V.ty)), W1.A⟩ := grow_new s1.ex hn
      exact tyX_of (s1.new hn) (l1.keep g2 (keep_new hn)) (ORp.grow r1 g2) hk.1
    · have g2 : Grow W1 H1 ⟨upd W1.F q (.tup (ts.map V.ty)), W1.A⟩ := grow_new s1.ex hn
      exact h1 _ _ _ g2 (keep_new hn) (s1.new hn) (.bl _)
  · exact h1.elim
theorem pa_ty {n : String} {ts : List String} {x : Str} {p : Pos} {es : List Expr} (hg : Gl X x) (hm : X.mg x = none) (hv : bootBuiltins x = some (.type n)) (hr : PA X es (tTys ts)) (hs : starEach (.Name x p :: es) X.env = (false, eval (.Name x p) X.env) :: starEach es X.env := by rfl) (hn : x ≠ "__name__" := by decide) (hd : (x == ("__debug__" : Str)) = false := by decide) :
    PA X (.Name x p :: es) (tTys (n :: ts)) := pa_cons (pe_bltn (v := .ty n) hg hm hv rfl hn hd) hr hs
end
end DL
set_option maxHeartbeats 4000000
/-! The data layer, part e: calls of the program's defs, iteration, comprehensions. -/
namespace DL
open PySem PySem.Spec PyProof.Rows L2

/-! ### promises -/
/-- a def's promise by a plain function -/
def spG (K : PySem.W.Frag) (cl : Cl) (F : List D → S → R D) : Sp := fun vs H Q E => ∃ W st ds, SatS K cl W st H ∧ RpAll K cl W vs ds ∧ Aft K cl E (Rp K cl) W H (F ds st) Q
theorem passA {X : Cx} {E : XK} : Passes CX0 X E := fun _ _ _ _ _ _ _ h => h.elim
def gath {α : Type} (l : List α) (pm : List Nat) : List α := pm.filterMap (l[·]?)
section
variable {X : Cx} {cl : Cl} {E : XK} {CX : CXT} {k n : Nat} {f : Addr} {fd : FuncData} {ps ks : List Str} {F : List D → S → R D} {g gk : Ev → S → R (List D)} {e : Expr} {es : List Expr} {kws : List Keyword} {pos p : Pos} {x : Str}
/-- f(e, ..) -/
theorem dv_call (G : FnOk X.prog X.w X.K X.mg X.base CX k f fd ps (spG X.K cl F)) (hr : Room k X.A) (hg : Gl X x) (hm : X.mg x = some (.ref f)) (hk : PySem.W.keepIn X.K (.ref f) = true) (hb : Binds X.K fd ps []) (hx : Passes CX X E)
    (ha : DA X cl E (e :: es) g) (hdb : (x == ("__debug__" : Str)) = false := by decide) (he : starEach (e :: es) X.env = (false, eval e X.env) :: starEach es X.env := by rfl) (hpl : (backTo pos (starEach es X.env)).any (·.1) = false := by rfl) :
    DV X cl E (.Call (.Name x p) (e :: es) [] pos) (dCall F g) := by
  refine PEimp (pe_call (dvs := []) (E := E) G hr hg hm hk hb .nil hx ha hdb he hpl) fun σ H Q h => ?_
  obtain ⟨W, ρ, st, s, l, h⟩ := h
  refine ⟨W, ρ, st, s, l, (Aft.peel h).imp (fun _ _ _ r => r) ?_⟩
  rintro xs H1 ⟨ds, st1, W1, g1, k1, s1, r1, h1⟩
  rw [List.append_nil]
  exact ⟨W1, st1, ds, s1, r1, h1⟩
/-! keywords -/
theorem Vals.gath {vs : List V} {us : List Value} (r : Vals vs us) : ∀ pm : List Nat, Vals (gath vs pm) (gath us pm)
  | [] => .nil
  | i :: pm => by
    unfold DL.gath
    rw [List.filterMap_cons, List.filterMap_cons]
    cases e : vs[i]? with
    | none =>
      rw [r.none_of e]
      exact Vals.gath r pm
    | some v =>
      obtain ⟨u, h1, h2⟩ := r.get e
      rw [h1]
      exact .cons h2 (Vals.gath r pm)
theorem RpAll.gath {K : PySem.W.Frag} {W : Wd} {vs : List V} {ds : List D} (r : RpAll K cl W vs ds) : ∀ pm : List Nat, RpAll K cl W (gath vs pm) (gath ds pm)
  | [] => .nil
  | i :: pm => by
    unfold DL.gath
    rw [List.filterMap_cons, List.filterMap_cons]
    cases e : ds[i]? with
    | none =>
      have : vs[i]? = none := by
        rw [List.getElem?_eq_none_iff] at e ⊢
        rw [r.length]; exact e
      rw [this]
      exact RpAll.gath r pm
    | some d =>
      obtain ⟨v, h1, h2⟩ := r.get e
      rw [h1]
      exact .cons h2 (RpAll.gath r pm)
def dCallK (F : List D → S → R D) (n m : Nat) (pm : List Nat) (g gk : Ev → S → R (List D)) : Ev → S → R D := fun ρ st => (g ρ st).bind fun ds st => (gk ρ st).bind fun es st => if ds.length = n ∧ es.length = m then F (gath (ds ++ es) pm) st else .stuck
end

/-! ### targets -/
inductive Tg where
  | nm (i : Nat) | tp (is : List Nat)
def setAll : List Nat → List D → Ev → Ev
  | i :: is, d :: ds, ρ => setAll is ds (ρ.set i (.sh d))
  | _, _, ρ => ρ
def bindT (t : Tg) (d : D) (ρ : Ev) : Option Ev := match t, d with
  | .nm i, d => some (ρ.set i (.sh d))
  | .tp is, .tup ds => if ds.length = is.length then some (setAll is ds ρ) else none
  | .tp is, .lst ds => if ds.length = is.length then some (setAll is ds ρ) else none
  | .tp is, .pr a b => if 2 = is.length then some (setAll is [a, b] ρ) else none
  | _, _ => none
def gNames : List Nat → TGs
  | [] => gNil
  | i :: r => gCons (gName i) (gNames r)
def tgT (K : PySem.W.Frag) : Tg → TG
  | .nm i => gName i
  | .tp is => fun v σ H Q => gTup K is.length (gNames is) v σ H Q ∨ gLst K is.length (gNames is) v σ H Q
def Tg.ix : Tg → List Nat
  | .nm i => [i]
  | .tp is => is
section
variable {K : PySem.W.Frag} {cl : Cl} {E : XK} {W W' : Wd} {ρ ρ' : Ev} {σ : L2.St} {st : S} {H H' : Hp} {v : V} {d : D} {ds : List D}
theorem SatL.setSh (l : SatL K cl W ρ σ H) (r : Rp K cl W v d) (i : Nat) : SatL K cl W (ρ.set i (.sh d)) (σ.set i (some v)) H := by
  refine ⟨by rw [List.length_set, List.length_set]; exact l.len, fun j e h => ?_, fun j es h => ?_, fun j m es fs p n h1 h2 h3 h4 => ?_, fun j x h => ?_, fun j o h => ?_, fun j m o u p n h1 h2 h3 h4 => ?_⟩
  · by_cases q : i = j
    · subst q
      by_cases hi : i < ρ.length
      · rw [List.getElem?_set_self hi] at h
        cases h
        exact ⟨v, List.getElem?_set_self (by rw [← l.len]; exact hi), r⟩
      · rw [List.getElem?_eq_none (by rw [List.length_set]; omega)] at h
        cases h
    · rw [List.getElem?_set_ne q] at h
      obtain ⟨u, h1, h2⟩ := l.sh j e h
      exact ⟨u, by rw [List.getElem?_set_ne q]; exact h1, h2⟩
  · have q : i ≠ j := fun q => by
      subst q
      by_cases hi : i < ρ.length
      · rw [List.getElem?_set_self hi] at h
        cases h
      · rw [List.getElem?_eq_none (by rw [List.length_set]; omega)] at h
        cases h
    rw [List.getElem?_set_ne q] at h ⊢
    exact l.own j es h
  · have own_ne : ∀ (j : Nat) (es : List D), (ρ.set i (.sh d))[j]? = some (.own es) → i ≠ j := fun j es h q => by
      subst q
      by_cases hi : i < ρ.length
      · rw [List.getElem?_set_self hi] at h
        cases h
      · rw [List.getElem?_eq_none (by rw [List.length_set]; omega)] at h
        cases h
    have q1 := own_ne j es h1
    have q2 := own_ne m fs h2
    rw [List.getElem?_set_ne q1] at h1 h3
    rw [List.getElem?_set_ne q2] at h2 h4
    exact l.ne j m es fs p n h1 h2 h3 h4
  · have q : i ≠ j := fun q => by
      subst q
      by_cases hi : i < ρ.length
      · rw [List.getElem?_set_self hi] at h
        cases h
      · rw [List.getElem?_eq_none (by rw [List.length_set]; omega)] at h
        cases h
    rw [List.getElem?_set_ne q] at h ⊢
    exact l.xn j x h
  · have q : i ≠ j := fun q => by
      subst q
      by_cases hi : i < ρ.length
      · rw [List.getElem?_set_self hi] at h
        cases h
      · rw [List.getElem?_eq_none (by rw [List.length_set]; omega)] at h
        cases h
    rw [List.getElem?_set_ne q] at h ⊢
    exact l.hd j o h
  · have hd_ne : ∀ (j : Nat) (o : MO), (ρ.set i (.sh d))[j]? = some (.hd o) → i ≠ j := fun j o h q => by
      subst q
      by_cases hi : i < ρ.length
      · rw [List.getElem?_set_self hi] at h
        cases h
      · rw [List.getElem?_eq_none (by rw [List.length_set]; omega)] at h
        cases h
    have q1 := hd_ne j o h1
    have q2 := hd_ne m u h2
    rw [List.getElem?_set_ne q1] at h1 h3
    rw [List.getElem?_set_ne q2] at h2 h4
    exact l.hn j m o u p n h1 h2 h3 h4
/-- only the named places change, and none of them becomes a list of one's own -/
structure Off (is : List Nat) (ρ ρ' : Ev) (σ σ' : L2.St) : Prop where
  len : σ'.length = σ.length
  oth : ∀ j, j ∉ is → σ'[j]? = σ[j]?
  own : ∀ (j : Nat) (es : List D), ρ'[j]? = some (.own es) → ρ[j]? = some (.own es) ∧ σ'[j]? = σ[j]?
  hd : ∀ (j : Nat) (o : MO), ρ'[j]? = some (.hd o) → ρ[j]? = some (.hd o) ∧ σ'[j]? = σ[j]?
theorem Off.set {ρ : Ev} {σ : L2.St} {v : V} {d : D} (i : Nat) (is : List Nat) (hi : i ∈ is) : Off is ρ (ρ.set i (.sh d)) σ (σ.set i (some v)) := by
  have ne : ∀ (j : Nat) (s : Sl), (ρ.set i (.sh d))[j]? = some s → s ≠ .sh d → i ≠ j := fun j s h hs q => by
    subst q
    by_cases hi : i < ρ.length
    · rw [List.getElem?_set_self hi] at h
      exact hs (Option.some.inj h).symm
    · rw [List.getElem?_eq_none (by rw [List.length_set]; omega)] at h
      cases h
  refine ⟨by rw [List.length_set], fun j hj => List.getElem?_set_ne (fun (e : i = j) => hj (e ▸ hi)), fun j es h => ?_, fun j o h => ?_⟩
  · have q := ne j _ h (fun z => nomatch z)
    rw [List.getElem?_set_ne q] at h
    exact ⟨h, List.getElem?_set_ne q⟩
  · have q := ne j _ h (fun z => nomatch z)
    rw [List.getElem?_set_ne q] at h
    exact ⟨h, List.getElem?_set_ne q⟩
theorem Off.refl {is : List Nat} {ρ : Ev} {σ : L2.St} : Off is ρ ρ σ σ := ⟨rfl, fun _ _ => rfl, fun _ _ h => ⟨h, rfl⟩, fun _ _ h => ⟨h, rfl⟩⟩
theorem Off.trans {is : List Nat} {ρ ρ1 ρ2 : Ev} {σ σ1 σ2 : L2.St} (a : Off is ρ ρ1 σ σ1) (b : Off is ρ1 ρ2 σ1 σ2) : Off is ρ ρ2 σ σ2 :=
  ⟨b.len.trans a.len, fun j h => (b.oth j h).trans (a.oth j h), fun j es h => by
    obtain ⟨h1, h2⟩ := b.own j es h
    obtain ⟨h3, h4⟩ := a.own j es h1
    exact ⟨h3, h2.trans h4⟩, fun j o h => by
    obtain ⟨h1, h2⟩ := b.hd j o h
    obtain ⟨h3, h4⟩ := a.hd j o h1
    exact ⟨h3, h2.trans h4⟩⟩
theorem Off.mono {is js : List Nat} {ρ ρ1 : Ev} {σ σ1 : L2.St} (a : Off is ρ ρ1 σ σ1) (h : ∀ i ∈ is, i ∈ js) : Off js ρ ρ1 σ σ1 := ⟨a.len, fun j hj => a.oth j fun q => hj (h j q), a.own, a.hd⟩
theorem names_ok : ∀ {is : List Nat} {ds : List D} {vs : List V} {ρ : Ev} {σ : L2.St}, SatL K cl W ρ σ H → RpAll K cl W vs ds → ds.length = is.length →
    ∃ σ', SatL K cl W (setAll is ds ρ) σ' H ∧ Off is ρ (setAll is ds ρ) σ σ' ∧ ∀ Q : L2.St → Hp → Prop, Q σ' H → gNames is vs σ H Q
  | [], ds, vs, ρ, σ, l, r, e => by
    have : ds = [] := List.length_eq_zero_iff.mp e
    subst this
    cases r
    exact ⟨σ, l, Off.refl, fun Q q => ⟨rfl, q⟩⟩
  | i :: is, [], vs, ρ, σ, l, r, e => by cases e
  | i :: is, d :: ds, vs, ρ, σ, l, r, e => by
    cases r with
    | cons h r =>
      rename_i v vs
      obtain ⟨σ', h1, h2, h3⟩ := names_ok (is := is) (l.setSh h i) r (Nat.succ.inj e)
      refine ⟨σ', h1, (Off.set i (i :: is) List.mem_cons_self).trans (h2.mono fun j hj => List.mem_cons_of_mem _ hj), fun Q q => ⟨v, vs, rfl, ?_⟩⟩
      exact h3 Q q
theorem bind_ok {t : Tg} (s : SatS K cl W st H) (l : SatL K cl W ρ σ H) (r : Rp K cl W v d) (e : bindT t d ρ = some ρ') :
    ∃ σ', SatL K cl W ρ' σ' H ∧ Off t.ix ρ ρ' σ σ' ∧ ∀ Q : L2.St → Hp → Prop, Q σ' H → tgT K t v σ H Q := by
  cases t with
  | nm i =>
    have e' : ρ' = ρ.set i (.sh d) := by
      unfold bindT at e
      exact (Option.some.inj e).symm
    subst e'
    exact ⟨_, l.setSh r i, Off.set i [i] (List.mem_singleton.mpr rfl), fun Q q => q⟩
  | tp is =>
    cases d with
    | tup ds =>
      unfold bindT at e
      dsimp only at e
      split at e
      · rename_i hl
        cases e
        cases r with
        | tup hf r' =>
          rename_i a vs
          obtain ⟨σ', h1, h2, h3⟩ := names_ok (is := is) l r' hl
          exact ⟨σ', h1, h2, fun Q q => .inl ⟨a, vs, rfl, same_sqt s.ex hf.1, by rw [r'.length]; exact hl, h3 Q q⟩⟩
      · cases e
    | lst ds =>
      unfold bindT at e
      dsimp only at e
      split at e
      · rename_i hl
        cases e
        cases r with
        | lst hf r' =>
          rename_i a vs
          obtain ⟨σ', h1, h2, h3⟩ := names_ok (is := is) l r' hl
          exact ⟨σ', h1, h2, fun Q q => .inr ⟨a, vs, rfl, .inl (.inl (s.ex _ _ hf)), by rw [r'.length]; exact hl, h3 Q q⟩⟩
      · cases e
    | pr x y =>
      unfold bindT at e
      dsimp only at e
      split at e
      · rename_i hl
        cases e
        cases r with
        | pr hf ra rb =>
          rename_i a v1 v2
          obtain ⟨σ', h1, h2, h3⟩ := names_ok (is := is) (ds := [x, y]) l (.cons ra (.cons rb .nil)) hl
          exact ⟨σ', h1, h2, fun Q q => .inl ⟨a, [v1, v2], rfl, same_sqt s.ex hf, hl, h3 Q q⟩⟩
      · cases e
    | _ => cases e
end

/-! ### what is walked -/
/-- J walks the data ds while the world stays -/
structure Wlk (K : PySem.W.Frag) (cl : Cl) (W : Wd) (J : It) (ds : List D) : Prop where
  ex : ∃ (G : Hp → Prop) (Y : Nat → Hp → V → Hp → Prop), Walk J ds.length G Y ∧ (∀ H, Same W.F H → G H) ∧
    ∀ (i : Nat) (d : D) (H : Hp) (x : V) (H' : Hp) (W1 : Wd) (st : S), ds[i]? = some d → Same W.F W1.F → W.A <+: W1.A → SatS K cl W1 st H → Y i H x H' → ∃ W2, Grow W1 H W2 ∧ Keep W1.A H H' ∧ SatS K cl W2 st H' ∧ Rp K cl W2 x d
abbrev DI (X : Cx) (cl : Cl) (E : XK) (tg iter : Expr) (f : Ev → S → R (List D)) : Prop := PI X tg iter (liftG X.K cl E (fun _ _ => Wlk X.K cl) f)
theorem PIimp {X : Cx} {tg iter : Expr} {t t' : TI} (h : PI X tg iter t) (hi : ∀ σ H Q, t' σ H Q → t σ H Q) : PI X tg iter t' := ⟨fun pins s σ H Q I q => h.run pins s σ H Q I (hi _ _ _ q)⟩
theorem PIor {X : Cx} {tg iter : Expr} {t t' : TI} (h : PI X tg iter t) (h' : PI X tg iter t') : PI X tg iter fun σ H R => t σ H R ∨ t' σ H R := ⟨fun pins s σ H Q I q => q.elim (h.run pins s σ H Q I) (h'.run pins s σ H Q I)⟩
/-- the items of a datum -/
def itemsD (d : D) (st : S) : R (List D) := match d with
  | .lst ds => .ok ds st
  | .tup ds => .ok ds st
  | .str x => .ok (x.cps.toList.map fun c => .str ⟨#[c]⟩) st
  | _ => .stuck
def dItems (f : Ev → S → R D) : Ev → S → R (List D) := fun ρ st => (f ρ st).bind itemsD
/-- range -/
def range1D (ds : List D) (st : S) : R (List D) := match ds with
  | [.int n] => if decide (-(2 ^ 62) ≤ n) && decide (n < 2 ^ 62) then .ok ((List.range n.toNat).map fun (i : Nat) => .int i) st else .stuck
  | _ => .stuck
def range2D (ds : List D) (st : S) : R (List D) := match ds with
  | [.int a, .int b] => if (decide (-(2 ^ 62) ≤ a) && decide (a < 2 ^ 62)) && (decide (-(2 ^ 62) ≤ b) && decide (b < 2 ^ 62)) then .ok ((List.range (b - a).toNat).map fun (i : Nat) => .int (a + i)) st else .stuck
  | _ => .stuck
def dRange (f : Ev → S → R (List D)) : Ev → S → R (List D) := fun ρ st => (f ρ st).bind range1D
def dRange2 (f : Ev → S → R (List D)) : Ev → S → R (List D) := fun ρ st => (f ρ st).bind range2D
/-- zip of two -/
def zipD (ds : List D) (st : S) : R (List D) := match ds with
  | [.lst a, .lst b] => .ok ((a.zip b).map fun p => .pr p.1 p.2) st
  | [.tup a, .tup b] => .ok ((a.zip b).map fun p => .pr p.1 p.2) st
  | _ => .stuck
def dZip (f : Ev → S → R (List D)) : Ev → S → R (List D) := fun ρ st => (f ρ st).bind zipD
section
variable {X : Cx} {cl : Cl} {E : XK} {f : Ev → S → R D} {g : Ev → S → R (List D)} {tg e e2 : Expr} {pos p tpos : Pos} {kk : Nat} {elts : List Expr}
theorem stay {K : PySem.W.Frag} {W1 : Wd} {H : Hp} {st : S} {x : V} {d : D} (s : SatS K cl W1 st H) (r : Rp K cl W1 x d) : ∃ W2, Grow W1 H W2 ∧ Keep W1.A H H ∧ SatS K cl W2 st H ∧ Rp K cl W2 x d := ⟨W1, .refl, .refl, s, r⟩
theorem wlk_list {K : PySem.W.Frag} {W : Wd} {a : Addr} {vs : List V} {ds : List D} (h : W.F a = some (.lst vs)) (r : RpAll K cl W vs ds) : Wlk K cl W (Itl K a) ds := by
  refine ⟨⟨_, _, by rw [← r.length]; exact walk_list (K := K) (a := a) (xs := vs), fun H hs => Or.inl (Or.inl (hs _ _ h)), fun i d H x H' W1 st e hf ha s y => ?_⟩⟩
  obtain ⟨rfl, y⟩ := y
  obtain ⟨v, h1, h2⟩ := r.get e
  rw [y] at h1
  cases h1
  exact stay s (h2.mono hf ha)
theorem wlk_tup {K : PySem.W.Frag} {W : Wd} {a : Addr} {vs : List V} {ds : List D} (h : SqT K W.F a vs) (r : RpAll K cl W vs ds) : Wlk K cl W (Itt K a) ds := by
  refine ⟨⟨_, _, by rw [← r.length]; exact walk_tup (K := K) (a := a) (xs := vs), fun H hs => same_sqt hs h, fun i d H x H' W1 st e hf ha s y => ?_⟩⟩
  obtain ⟨rfl, y⟩ := y
  obtain ⟨v, h1, h2⟩ := r.get e
  rw [y] at h1
  cases h1
  exact stay s (h2.mono hf ha)
theorem wlk_str {K : PySem.W.Frag} {W : Wd} {z : Str} : Wlk K cl W (Its z) (z.cps.toList.map fun c => .str ⟨#[c]⟩) := by
  refine ⟨⟨_, _, by rw [List.length_map, Array.length_toList]; exact walk_str (z := z), fun _ _ => trivial, fun i d H x H' W1 st e hf ha s y => ?_⟩⟩
  obtain ⟨rfl, c, h1, rfl⟩ := y
  rw [List.getElem?_map, Array.getElem?_toList, h1] at e
  cases e
  exact stay s (.str _)
theorem wlk_range {K : PySem.W.Frag} {W : Wd} {lo : Int} {n : Nat} : Wlk K cl W (Itr lo n) ((List.range n).map fun (i : Nat) => .int (lo + i)) := by
  refine ⟨⟨_, _, by rw [List.length_map, List.length_range]; exact walk_range (lo := lo) (n := n), fun _ _ => trivial, fun i d H x H' W1 st e hf ha s y => ?_⟩⟩
  obtain ⟨rfl, rfl⟩ := y
  rw [List.getElem?_map] at e
  by_cases hi : i < n
  · rw [List.getElem?_range hi] at e
    cases e
    exact stay s (.int _)
  · rw [List.getElem?_eq_none (by rw [List.length_range]; omega)] at e
    cases e
theorem di_val (h : DV X cl E e f) : DI X cl E tg e (dItems f) := by
  refine PIimp (PIor (pi_list h) (PIor (pi_tup h) (pi_str h))) fun σ H R h => ?_
  obtain ⟨W, ρ, st, s, l, h⟩ := h
  have go : ∀ d st1, f ρ st = .ok d st1 → ((∃ ds, d = .lst ds) ∨ (∃ ds, d = .tup ds) ∨ ∃ x, d = .str x) := fun d st1 e => by
    unfold dItems at h
    rw [e] at h
    cases d with
    | lst ds => exact .inl ⟨_, rfl⟩
    | tup ds => exact .inr (.inl ⟨_, rfl⟩)
    | str x => exact .inr (.inr ⟨_, rfl⟩)
    | _ => exact (show False from h).elim
  cases e : f ρ st with
  | stuck => unfold dItems at h; rw [e] at h; exact (show False from h).elim
  | ex x st1 =>
    refine .inl ⟨W, ρ, st, s, l, ?_⟩
    unfold dItems at h
    rw [e] at h ⊢
    exact h
  | ok d st1 =>
    have hp := Aft.peel (RP' := Rp X.K cl) h
    rcases go d st1 e with ⟨ds, rfl⟩ | ⟨ds, rfl⟩ | ⟨z, rfl⟩
    · refine .inl ⟨W, ρ, st, s, l, ?_⟩
      rw [e] at hp ⊢
      intro v H1 W1 g1 k1 s1 r1
      unfold dItems at h
      rw [e] at h
      cases r1 with
      | lst hf r => exact ⟨_, rfl, ⟨_, .inl (.inl (s1.ex _ _ hf))⟩, h _ H1 W1 g1 k1 s1 (wlk_list hf r)⟩
    · refine .inr (.inl ⟨W, ρ, st, s, l, ?_⟩)
      rw [e] at hp ⊢
      intro v H1 W1 g1 k1 s1 r1
      unfold dItems at h
      rw [e] at h
      cases r1 with
      | tup hf r => exact ⟨_, rfl, ⟨_, same_sqt s1.ex hf.1⟩, h _ H1 W1 g1 k1 s1 (wlk_tup hf.1 r)⟩
    · refine .inr (.inr ⟨W, ρ, st, s, l, ?_⟩)
      rw [e] at hp ⊢
      intro v H1 W1 g1 k1 s1 r1
      unfold dItems at h
      rw [e] at h
      cases r1 with
      | str => exact ⟨_, rfl, h _ H1 W1 g1 k1 s1 wlk_str⟩
theorem di_range (hg : Gl X "range") (hm : X.mg "range" = none) {a : Expr} (ha : DA X cl E [a] g) (hs : starEach [a] X.env = [(false, eval a X.env)] := by rfl) : DI X cl E tg (.Call (.Name "range" p) [a] [] pos) (dRange g) := by
  refine PIimp (pi_range1 hg hm ha hs) fun σ H R h => ?_
  obtain ⟨W, ρ, st, s, l, h⟩ := h
  refine ⟨W, ρ, st, s, l, (Aft.peel h).imp (fun _ _ _ r => r) ?_⟩
  rintro xs H1 ⟨ds, st1, W1, g1, k1, s1, r1, h1⟩
  unfold range1D at h1
  split at h1
  · rename_i n
    cases r1 with
    | cons r r2 =>
      cases r
      cases r2
      split at h1
      · rename_i hk
        simp only [Bool.and_eq_true, decide_eq_true_eq] at hk
        refine ⟨n, rfl, hk.1, hk.2, ?_⟩
        refine Aft.now h1 s1 ?_
        have := wlk_range (K := X.K) (cl := cl) (W := W1) (lo := 0) (n := n.toNat)
        simp only [Int.zero_add] at this
        exact this
      · exact h1.elim
  · exact h1.elim
end
end DL
set_option maxHeartbeats 4000000
/-! The data layer, part f: comprehensions, statements, loops, defs. -/
namespace DL
open PySem PySem.Spec PyProof.Rows L2

def noX {α : Type} (r : R α) : R α := match r with
  | .ex _ _ => .stuck
  | r => r
@[simp] theorem noX_ok {α : Type} (a : α) (s : S) : noX (R.ok a s) = .ok a s := rfl
def wipeE (ρ : Ev) : List Nat → Ev
  | [] => ρ
  | v :: vs => (wipeE ρ vs).set v .no
/-- the items that a comprehension makes -/
def compD (t : Tg) (tt : Ev → S → R Bool) (te : Ev → S → R D) (ρ : Ev) : List D → S → R (List D)
  | [], st => .ok [] st
  | d :: ds, st => match bindT t d ρ with
    | none => .stuck
    | some ρ' => (noX (tt ρ' st)).bind fun b st => if b then (noX (te ρ' st)).bind fun y st => (compD t tt te ρ ds st).bind fun ys st => .ok (y :: ys) st else compD t tt te ρ ds st
def dLc (t : Tg) (vs : List Nat) (fi : Ev → S → R (List D)) (tt : Ev → S → R Bool) (te : Ev → S → R D) : Ev → S → R D := fun ρ st => (fi ρ st).bind fun ds st => if ds.length ≤ sizeLine then (compD t tt te (wipeE ρ vs) ds st).bind fun ys st => .ok (.lst ys) st else .stuck
def tTrue : Ev → S → R Bool := fun _ st => .ok true st
section
variable {K : PySem.W.Frag} {cl : Cl} {E : XK} {W W0 W1 W' : Wd} {ρ ρ' : Ev} {σ : L2.St} {st : S} {H H0 H' : Hp} {v : V} {d : D} {ds : List D} {p : Addr} {o : HO} {vs : List V}
theorem getE_set {α : Type} {l : List α} {i j : Nat} {a b : α} (h : (l.set i a)[j]? = some b) : (i = j ∧ b = a) ∨ (i ≠ j ∧ l[j]? = some b) := by
  by_cases q : i = j
  · subst q
    by_cases hi : i < l.length
    · rw [List.getElem?_set_self hi] at h
      cases h
      exact .inl ⟨rfl, rfl⟩
    · rw [List.getElem?_eq_none (by rw [List.length_set]; omega)] at h
      cases h
  · rw [List.getElem?_set_ne q] at h
    exact .inr ⟨q, h⟩
theorem SatL.setNo (l : SatL K cl W ρ σ H) (i : Nat) (x : Option V) : SatL K cl W (ρ.set i .no) (σ.set i x) H := by
  have ne : ∀ {j : Nat} {s : Sl}, (ρ.set i .no)[j]? = some s → s ≠ .no → i ≠ j ∧ ρ[j]? = some s := fun h hs => by
    rcases getE_set h with ⟨_, e⟩ | h
    · exact absurd e hs
    · exact h
  refine ⟨by rw [List.length_set, List.length_set]; exact l.len, fun j e h => ?_, fun j es h => ?_, fun j m es fs p n h1 h2 h3 h4 => ?_, fun j e h => ?_, fun j o h => ?_, fun j m o u p n h1 h2 h3 h4 => ?_⟩
  · obtain ⟨q, h⟩ := ne h (fun z => nomatch z)
    rw [List.getElem?_set_ne q]
    exact l.sh j e h
  · obtain ⟨q, h⟩ := ne h (fun z => nomatch z)
    rw [List.getElem?_set_ne q]
    exact l.own j es h
  · obtain ⟨q1, h1⟩ := ne h1 (fun z => nomatch z)
    obtain ⟨q2, h2⟩ := ne h2 (fun z => nomatch z)
    rw [List.getElem?_set_ne q1] at h3
    rw [List.getElem?_set_ne q2] at h4
    exact l.ne j m es fs p n h1 h2 h3 h4
  · obtain ⟨q, h⟩ := ne h (fun z => nomatch z)
    rw [List.getElem?_set_ne q]
    exact l.xn j e h
  · obtain ⟨q, h⟩ := ne h (fun z => nomatch z)
    rw [List.getElem?_set_ne q]
    exact l.hd j o h
  · obtain ⟨q1, h1⟩ := ne h1 (fun z => nomatch z)
    obtain ⟨q2, h2⟩ := ne h2 (fun z => nomatch z)
    rw [List.getElem?_set_ne q1] at h3
    rw [List.getElem?_set_ne q2] at h4
    exact l.hn j m o u p n h1 h2 h3 h4
theorem SatL.wipe (l : SatL K cl W ρ σ H) : ∀ is : List Nat, SatL K cl W (wipeE ρ is) (L2.wipe σ is) H
  | [] => l
  | i :: is => (SatL.wipe l is).setNo i none
theorem wipe_get {σ : L2.St} {j : Nat} : ∀ {is : List Nat}, j ∉ is → (L2.wipe σ is)[j]? = σ[j]?
  | [], _ => rfl
  | i :: is, h => by
    unfold L2.wipe
    rw [List.getElem?_set_ne fun e => h (by rw [e]; exact List.mem_cons_self)]
    exact wipe_get fun z => h (List.mem_cons_of_mem _ z)
theorem wipe_in {σ : L2.St} {j : Nat} (hj : j < σ.length) : ∀ {is : List Nat}, j ∈ is → (L2.wipe σ is)[j]? = some none
  | i :: is, h => by
    unfold L2.wipe
    by_cases q : i = j
    · subst q
      rw [List.getElem?_set_self (by rw [wipe_length]; exact hj)]
    · rw [List.getElem?_set_ne q]
      rcases List.mem_cons.mp h with e | e
      · exact absurd e.symm q
      · exact wipe_in hj e
theorem wipe_eq {σ τ : L2.St} {is : List Nat} (hl : τ.length = σ.length) (h : ∀ j, j ∉ is → τ[j]? = σ[j]?) : L2.wipe τ is = L2.wipe σ is := by
  apply List.ext_getElem?
  intro j
  by_cases hm : j ∈ is
  · by_cases hj : j < σ.length
    · rw [wipe_in hj hm, wipe_in (by rw [hl]; exact hj) hm]
    · rw [List.getElem?_eq_none (by rw [wipe_length]; omega), List.getElem?_eq_none (by rw [wipe_length]; omega)]
  · rw [wipe_get hm, wipe_get hm, h j hm]
theorem SatS.mut (s : SatS K cl W st H) (h1 : p ∉ W.A) (h2 : W.F p = none) (h3 : H p = none ∨ ∃ vs, H p = some (.lst vs)) : SatS K cl W st (upd H p o) := by
  have ht : LamX.Tabs cl.T (upd H p o) := by
    rcases h3 with h3 | ⟨vs, h3⟩
    · exact tabs_new s.tab h3
    · exact tabs_lst s.tab h3
  refine ⟨fun a u h => ?_, s.len, s.nod, s.off, fun i ob e => ?_, s.nt, ht⟩
  · have : a ≠ p := fun e => by
      rw [e, h2] at h; cases h
    rw [upd_ne this]
    exact s.ex a u h
  · obtain ⟨a, h3, h4⟩ := s.mo i ob e
    have : a ≠ p := fun e => h1 (e ▸ List.mem_of_getElem? h3)
    exact ⟨a, h3, h4.mono (fun _ _ q => q) (List.prefix_refl _) fun u h => by rw [upd_ne this]; exact h⟩
theorem Keep.mut {A : List Addr} (k : Keep A H0 H) (h : Gone H0 p) : Keep A H0 (upd H p o) := fun a u e t n => by
  rw [upd_ne (h.ne e t)]
  exact k a u e t n
/-- an object beyond the world comes to be frozen -/
theorem SatS.frz (s : SatS K cl W st H) (h1 : p ∉ W.A) (h2 : H p = some o) (h3 : W.F p = none) (ho : NT o := by intro _ z; cases z) : SatS K cl ⟨upd W.F p o, W.A⟩ st H := by
  have hf : Same W.F (upd W.F p o) := fun a u h => by
    rw [upd_ne fun e => by rw [e, h3] at h; cases h]
    exact h
  refine ⟨fun a u h => ?_, s.len, s.nod, fun a m => ?_, fun i ob e => ?_, fun a u h => ?_, s.tab⟩
  · by_cases q : a = p
    · have h' : upd W.F p o a = some u := h
      rw [q, upd_same] at h'
      rw [q, h2]
      exact h'
    · have h' : upd W.F p o a = some u := h
      rw [upd_ne q] at h'
      exact s.ex a u h'
  · have : a ≠ p := fun e => h1 (e ▸ m)
    show upd W.F p o a = none
    rw [upd_ne this]
    exact s.off a m
  · obtain ⟨a, h4, h5⟩ := s.mo i ob e
    exact ⟨a, h4, h5.mono hf (List.prefix_refl _) fun u h => h⟩
  · have h' : upd W.F p o a = some u := h
    by_cases q : a = p
    · rw [q, upd_same] at h'
      cases h'
      exact ho
    · rw [upd_ne q] at h'
      exact s.nt a u h'
theorem Grow.frz (g : Grow W0 H0 W) (h : Gone H0 p) (h3 : W.F p = none) : Grow W0 H0 ⟨upd W.F p o, W.A⟩ := by
  refine ⟨fun a u q => ?_, g.a, fun a u q n => ?_, g.na⟩
  · have := g.f a u q
    show upd W.F p o a = some u
    rw [upd_ne fun e => by rw [e, h3] at this; cases this]
    exact this
  · by_cases e : a = p
    · rw [e]; exact h
    · have q' : upd W.F p o a = some u := q
      rw [upd_ne e] at q'
      exact g.nf a u q' n
theorem Grow.off (g : Grow W H W') (h : H p = some (.lst vs)) (h1 : W.F p = none) : W'.F p = none := by
  cases e : W'.F p with
  | none => rfl
  | some u => exact ((g.nf p u e h1).no h .lst).elim
theorem Grow.offA (g : Grow W H W') (h : H p = some (.lst vs)) (h1 : p ∉ W.A) : p ∉ W'.A := fun m => by
  rcases g.na p m with z | z
  · exact h1 z
  · exact z.no h .lst
theorem compD_nex {t : Tg} {tt : Ev → S → R Bool} {te : Ev → S → R D} {ρ : Ev} : ∀ {ds : List D} {st : S} {x : Exn} {st' : S}, compD t tt te ρ ds st = .ex x st' → False
  | [], st, x, st', h => by cases h
  | d :: ds, st, x, st', h => by
    unfold compD at h
    split at h
    · cases h
    · rename_i ρ' e
      cases q : noX (tt ρ' st) with
      | stuck => rw [q] at h; cases h
      | ex y s =>
        revert q
        cases tt ρ' st <;> intro q <;> cases q
      | ok b s =>
        rw [q] at h
        dsimp only [R.bind] at h
        cases b with
        | false => exact compD_nex (ds := ds) h
        | true =>
          rw [if_pos rfl] at h
          cases q2 : noX (te ρ' s) with
          | stuck => rw [q2] at h; cases h
          | ex y s9 =>
            revert q2
            cases te ρ' s <;> intro q2 <;> cases q2
          | ok b2 s2 =>
            rw [q2] at h
            dsimp only [R.bind] at h
            cases q3 : compD t tt te ρ ds s2 with
            | stuck => rw [q3] at h; cases h
            | ex y s => exact compD_nex q3
            | ok ys s3 => rw [q3] at h; cases h
theorem noX_eq {α : Type} {r : R α} {a : α} {s : S} (h : noX r = .ok a s) : r = .ok a s := by
  cases r <;> first | exact h | cases h
/-- a list that lies there already becomes one of the store -/
theorem SatS.take (s : SatS K cl W st H) (h1 : p ∉ W.A) (h2 : H p = some (.lst vs)) (h3 : W.F p = none) (r : RpAll K cl W vs ds) : SatS K cl ⟨W.F, W.A ++ [p]⟩ (st ++ [.lst ds]) H := by
  have pa : W.A <+: W.A ++ [p] := List.prefix_append _ _
  refine ⟨s.ex, by rw [List.length_append, List.length_append, s.len]; rfl, ?_, fun a m => ?_, fun i o e => ?_, s.nt, s.tab⟩
  · rw [List.nodup_append]
    refine ⟨s.nod, List.pairwise_singleton _ p, fun a ha b hb e => ?_⟩
    rw [List.mem_singleton.mp hb] at e
    exact h1 (e ▸ ha)
  · rcases List.mem_append.mp m with z | z
    · exact s.off a z
    · rw [List.mem_singleton.mp z]
      exact h3
  · by_cases hi : i < st.length
    · rw [List.getElem?_append_left hi] at e
      obtain ⟨a, q1, q2⟩ := s.mo i o e
      exact ⟨a, pre_get pa q1, q2.mono (fun _ _ z => z) pa fun _ z => z⟩
    · have hl : i < (st ++ [MO.lst ds]).length := (List.getElem?_eq_some_iff.mp e).1
      have hi2 : i = st.length := by
        rw [List.length_append] at hl
        simp only [List.length_cons, List.length_nil] at hl
        omega
      subst hi2
      have eo : o = .lst ds := by
        rw [List.getElem?_append_right (Nat.le_refl _), Nat.sub_self] at e
        exact (Option.some.inj e).symm
      subst eo
      refine ⟨p, ?_, vs, h2, RpAll.mono (W := W) (W' := ⟨W.F, W.A ++ [p]⟩) (fun _ _ z => z) pa r⟩
      show (W.A ++ [p])[st.length]? = some p
      rw [← s.len, List.getElem?_append_right (Nat.le_refl _), Nat.sub_self]
      rfl
theorem Grow.take {W W' : Wd} {H : Hp} {p : Addr} (g : Grow W H W') (hn : Gone H p) : Grow W H ⟨W'.F, W'.A ++ [p]⟩ :=
  ⟨g.f, g.a.trans (List.prefix_append _ _), g.3, fun a m => (List.mem_append.mp m).elim (g.4 a) fun z => .inr (by rw [List.mem_singleton.mp z]; exact hn)⟩
/-- a comprehension, with what is made of the list at the end -/
def dLcG (t : Tg) (vs : List Nat) (fi : Ev → S → R (List D)) (tt : Ev → S → R Bool) (te : Ev → S → R D) (k : List D → S → R D) : Ev → S → R D := fun ρ st => (fi ρ st).bind fun ds st => if ds.length ≤ sizeLine then (compD t tt te (wipeE ρ vs) ds st).bind k else .stuck
def dLcRef (t : Tg) (vs : List Nat) (fi : Ev → S → R (List D)) (tt : Ev → S → R Bool) (te : Ev → S → R D) : Ev → S → R D := dLcG t vs fi tt te fun ys st => .ok (.ref st.length) (st ++ [.lst ys])
theorem rd_lcG {t : Tg} {is : List Nat} {fi : Ev → S → R (List D)} {tt : Ev → S → R Bool} {te : Ev → S → R D} {k : List D → S → R D} {Q : VK} (hv : ∀ i ∈ t.ix, i ∈ is) (h : liftV K cl E (dLcG t is fi tt te k) σ H Q)
    (fin : ∀ {W1 W' : Wd} {H1 H2 : Hp} {p : Addr} {va : List V} {ys : List D} {st' : S}, Grow W1 H1 W' → Keep W1.A H1 H2 → SatS K cl W' st' H2 → H1 p = none → H2 p = some (.lst va) → RpAll K cl W' va ys → W'.F p = none → p ∉ W'.A → Aft K cl E (Rp K cl) W1 H1 (k ys st') Q → Q (.ref p) H2) :
    tLc (liftG K cl E (fun _ _ => Wlk K cl) fi) (tgT K t) (liftT K cl E0 tt) (liftV K cl E0 te) is σ H Q := by
  obtain ⟨W, ρ, st, s, l, h⟩ := h
  refine ⟨W, ρ, st, s, l, (Aft.peel h).imp (fun _ _ _ r => r) ?_⟩
  rintro J H1 ⟨ds, st1, W1, g1, k1, s1, wk, h1⟩ Dd hD
  dsimp only at h1
  split at h1
  case isFalse => exact h1.elim
  rename_i hlen
  have l1 := (l.keep g1 k1).wipe is
  cases q : compD t tt te (wipeE ρ is) ds st1 with
  | stuck => rw [q] at h1; exact (show False from h1).elim
  | ex x st => exact (compD_nex q).elim
  | ok ys st2 =>
    rw [q] at h1
    obtain ⟨G, Y, wlk, hG, hY⟩ := wk.ex
    let Pv : Nat → Hp → Prop := fun i H => ∃ (W' : Wd) (st' : S) (acc : List D) (va : List V) (ys' : List D), Grow W1 H1 W' ∧ Keep W1.A H1 H ∧ SatS K cl W' st' H ∧ H Dd = some (.lst va) ∧ RpAll K cl W' va acc ∧ W'.F Dd = none ∧ Dd ∉ W'.A ∧ acc.length ≤ i ∧
      compD t tt te (wipeE ρ is) (ds.drop i) st' = .ok ys' st2 ∧ acc ++ ys' = ys
    have hF1 : W1.F Dd = none := by
      cases e : W1.F Dd with
      | none => rfl
      | some u =>
        have := s1.ex Dd u e
        rw [hD] at this; cases this
    have hA1 : Dd ∉ W1.A := fun m => s1.ne m (.of hD) rfl
    refine lc_it wlk Pv ?_ ?_ ?_ ?_
    · exact ⟨W1, st1, [], [], ys, .refl, Keep.mut .refl (.of hD), s1.mut hA1 hF1 (.inl hD), upd_same, .nil, hF1, hA1, Nat.zero_le _, q, rfl⟩
    · rintro i H2 hi ⟨W', st', acc, va, ys', g', k', s', hd, r', hF, hA, hl, e1, e2⟩
      exact hG H2 fun a u e => s'.ex a u (g'.f a u e)
    · rintro i x H2 H3 hi ⟨W', st', acc, va, ys', g', k', s', hd, r', hF, hA, hl, e1, e2⟩ hy
      obtain ⟨d, hdi⟩ : ∃ d, ds[i]? = some d := ⟨ds[i], List.getElem?_eq_getElem hi⟩
      obtain ⟨W2, g2, k2, s2, rx⟩ := hY i d H2 x H3 W' st' hdi g'.f g'.a s' hy
      have hd3 : H3 Dd = some (.lst va) := k2 Dd _ hd .lst hA
      have hF2 := g2.off hd hF
      have hA2 := g2.offA hd hA
      have g3 : Grow W1 H1 W2 := g'.trans k' s' g2
      have k3 : Keep W1.A H1 H3 := k'.trans g' k2
      have l3 := l1.keep g3 k3
      have ed : ds.drop i = d :: ds.drop (i + 1) := by
        have h5 : i < ds.length := hi
        rw [List.drop_eq_getElem_cons h5]
        rw [List.getElem?_eq_getElem h5] at hdi
        rw [Option.some.inj hdi]
      rw [ed] at e1
      unfold compD at e1
      split at e1
      · cases e1
      · rename_i ρ' eb
        obtain ⟨σ', l4, off, ht⟩ := bind_ok (t := t) s2 l3 rx eb
        refine ht _ ⟨?_, ?_⟩
        · have e5 : L2.wipe σ' is = L2.wipe (L2.wipe σ is) is := wipe_eq off.len fun j hj => off.oth j fun z => hj (hv j z)
          rw [e5]
          exact wipe_eq (wipe_length _ _) fun j hj => wipe_get hj
        · cases qt : noX (tt ρ' st') with
          | stuck => rw [qt] at e1; cases e1
          | ex y s => rw [qt] at e1; cases e1
          | ok b st3 =>
            rw [qt] at e1
            dsimp only [R.bind] at e1
            refine ⟨W2, ρ', st', s2, l4, ?_⟩
            rw [noX_eq qt]
            rintro b' H4 W4 g4 k4 s4 rfl
            have hd4 : H4 Dd = some (.lst va) := k4 Dd _ hd3 .lst hA2
            have hF4 := g4.off hd3 hF2
            have hA4 := g4.offA hd3 hA2
            have g5 : Grow W1 H1 W4 := g3.trans k3 s2 g4
            have k5 : Keep W1.A H1 H4 := k3.trans g3 k4
            have r4 : RpAll K cl W4 va acc := (r'.grow g2).grow g4
            cases b' with
            | false =>
              refine iteF ⟨W4, st3, acc, va, ys', g5, k5, s4, hd4, r4, hF4, hA4, by omega, ?_, e2⟩
              exact e1
            | true =>
              refine iteT ?_
              rw [if_pos rfl] at e1
              cases qe : noX (te ρ' st3) with
              | stuck => rw [qe] at e1; cases e1
              | ex y s => rw [qe] at e1; cases e1
              | ok y st4 =>
                rw [qe] at e1
                dsimp only [R.bind] at e1
                refine ⟨W4, ρ', st3, s4, l4.keep g4 k4, ?_⟩
                rw [noX_eq qe]
                intro vy H5 W5 g6 k6 s5 ry
                have hd5 : H5 Dd = some (.lst va) := k6 Dd _ hd4 .lst hA4
                have hF5 := g6.off hd4 hF4
                have hA5 := g6.offA hd4 hA4
                have g7 : Grow W1 H1 W5 := g5.trans k5 s4 g6
                have k7 : Keep W1.A H1 H5 := k5.trans g5 k6
                cases qc : compD t tt te (wipeE ρ is) (ds.drop (i + 1)) st4 with
                | stuck => rw [qc] at e1; cases e1
                | ex y s => rw [qc] at e1; cases e1
                | ok ys2 st5 =>
                  rw [qc] at e1
                  cases e1
                  refine ⟨va, hd5, ?_, W5, st4, acc ++ [y], va ++ [vy], ys2, g7, k7.mut (.of hD), s5.mut hA5 hF5 (.inr ⟨va, hd5⟩), upd_same, (r4.grow g6).append (.cons ry .nil), hF5, hA5, ?_, ?_, ?_⟩
                  · rw [r4.length]; exact Nat.lt_of_le_of_lt hl (Nat.lt_of_lt_of_le hi hlen)
                  · rw [List.length_append]; simp only [List.length_cons, List.length_nil]; omega
                  · exact qc
                  · rw [List.append_assoc]; exact e2
    · rintro H2 ⟨W', st', acc, va, ys', g', k', s', hd, r', hF, hA, hl, e1, e2⟩
      rw [List.drop_length] at e1
      cases e1
      rw [List.append_nil] at e2
      subst e2
      exact fin g' k' s' hD hd r' hF hA h1
theorem rd_lc {t : Tg} {is : List Nat} {fi : Ev → S → R (List D)} {tt : Ev → S → R Bool} {te : Ev → S → R D} {Q : VK} (hv : ∀ i ∈ t.ix, i ∈ is) (h : liftV K cl E (dLc t is fi tt te) σ H Q) :
    tLc (liftG K cl E (fun _ _ => Wlk K cl) fi) (tgT K t) (liftT K cl E0 tt) (liftV K cl E0 te) is σ H Q := by
  refine rd_lcG (k := fun ys st => .ok (.lst ys) st) hv h ?_
  intro W1 W' H1 H2 Dd va ys st' g' k' s' hD hd r' hF hA h1
  have g3 : Grow W1 H1 ⟨upd W'.F Dd (.lst va), W'.A⟩ := g'.frz (.of hD) hF
  have hf : Same W'.F (upd W'.F Dd (.lst va)) := fun a u h => by
    rw [upd_ne fun e => by rw [e, hF] at h; cases h]
    exact h
  exact h1 (.ref Dd) H2 _ g3 k' (s'.frz hA hd hF) (.lst upd_same (RpAll.mono (W' := ⟨upd W'.F Dd (.lst va), W'.A⟩) hf (List.prefix_refl _) r'))
end
section
variable {X : Cx} {cl : Cl} {E : XK} {t : Tg} {is : List Nat} {fi : Ev → S → R (List D)} {tt : Ev → S → R Bool} {te : Ev → S → R D} {elt tg iter : Expr} {ifs : List Expr} {scope : Scope} {own : List (Str × Nat)} {pos spos py : Pos}
abbrev DTs (X : Cx) (cl : Cl) (E : XK) (ifs : List Expr) (f : Ev → S → R Bool) : Prop := PTs X ifs (liftT X.K cl E f)
theorem dts_nil : DTs X cl E [] tTrue := ⟨fun pins s σ H Q I ⟨W, ρ, st, s0, l, h⟩ => pts_nil.run pins s σ H Q I (Aft.now h s0 rfl)⟩
theorem dts_one {c : Expr} (h : DT X cl E c tt) : DTs X cl E [c] tt := pts_one h
theorem dv_lc (hc : X.calm = true) (hN : X.N.Nodup) (hi : DI X cl E tg iter fi) (ok : BlkOk X.N X.env.scope scope own)
    (hg : ∀ (s : Shared) (H : Hp) (C : Addr) (cx : List (Str × Addr)) (fp : List Addr), PG (X.blk s H scope (compEnvC scope cx C X.env) fp) tg (tgT X.K t)) (ht : ∀ (s : Shared) (H : Hp) (C : Addr) (cx : List (Str × Addr)) (fp : List Addr), DTs (X.blk s H scope (compEnvC scope cx C X.env) fp) cl E0 ifs tt)
    (he : ∀ (s : Shared) (H : Hp) (C : Addr) (cx : List (Str × Addr)) (fp : List Addr), DV (X.blk s H scope (compEnvC scope cx C X.env) fp) cl E0 elt te) (hv : ∀ i ∈ t.ix, i ∈ own.map (·.2)) (hs : ∀ x, foldedSetIterable iter X.env x = pure x := by intro _; rfl) :
    DV X cl E (.ListComp elt [⟨tg, iter, ifs, 0⟩] scope pos) (dLc t (own.map (·.2)) fi tt te) := PEimp (pe_lc hc hN hi ok hg ht he hs) fun σ H Q h => rd_lc hv h
end
end DL
set_option maxHeartbeats 4000000
/-! The data layer, part g: statements, loops, defs. -/
namespace DL
open PySem PySem.Spec PyProof.Rows L2

inductive RS where
  | stuck | nx (ρ : Ev) (s : S) | ret (d : D) (s : S) | brk (ρ : Ev) (s : S) | ct (ρ : Ev) (s : S) | ex (x : Exn) (s : S)
def R.toS {α : Type} (r : R α) (k : α → S → RS) : RS := match r with
  | .stuck => .stuck
  | .ok a s => k a s
  | .ex x s => .ex x s
@[simp] theorem R.toS_stuck {α : Type} (k : α → S → RS) : (R.stuck : R α).toS k = .stuck := rfl
@[simp] theorem R.toS_ok {α : Type} (a : α) (s : S) (k : α → S → RS) : (R.ok a s).toS k = k a s := rfl
@[simp] theorem R.toS_ex {α : Type} (x : Exn) (s : S) (k : α → S → RS) : (R.ex x s : R α).toS k = .ex x s := rfl
/-- a world goes on -/
structure Le (W W' : Wd) : Prop where
  f : Same W.F W'.F
  a : W.A <+: W'.A
theorem Le.refl {W : Wd} : Le W W := ⟨fun _ _ h => h, List.prefix_refl _⟩
theorem Le.trans {W W1 W2 : Wd} (a : Le W W1) (b : Le W1 W2) : Le W W2 := ⟨fun x o h => b.f x o (a.f x o h), List.IsPrefix.trans a.a b.a⟩
theorem Grow.le {W W' : Wd} {H : Hp} (g : Grow W H W') : Le W W' := ⟨g.f, g.a⟩
/-- a def's body stands so, entered at W0, H0 -/
structure Full (K : PySem.W.Frag) (cl : Cl) (W0 : Wd) (H0 : Hp) (W : Wd) (ρ : Ev) (st : S) (σ : L2.St) (H : Hp) : Prop where
  g : Grow W0 H0 W
  k : Keep W0.A H0 H
  s : SatS K cl W st H
  l : SatL K cl W ρ σ H
  o : ∀ (i : Nat) (ds : List D) (p : Addr), ρ[i]? = some (.own ds) → σ[i]? = some (some (.ref p)) → Gone H0 p
  oh : ∀ (i : Nat) (o : MO) (p : Addr), ρ[i]? = some (.hd o) → σ[i]? = some (some (.ref p)) → Gone H0 p ∧ (i = 0 → ∀ a, cl.s = some a → p = a)
/-- a list that nothing else knows, beyond the world -/
def Fr (K : PySem.W.Frag) (cl : Cl) (H0 H : Hp) (W : Wd) (v : V) (d : D) : Prop := ∃ p vs ds, v = .ref p ∧ d = .lst ds ∧ H p = some (.lst vs) ∧ W.F p = none ∧ p ∉ W.A ∧ RpAll K cl W vs ds ∧ Gone H0 p
/-- what a frame returns -/
def RetP (K : PySem.W.Frag) (cl : Cl) (H0 H : Hp) (W : Wd) (v : V) (d : D) : Prop := (cl.f = false → Rp K cl W v d) ∧ (cl.f = true → Fr K cl H0 H W v d)
theorem RetP.of {K : PySem.W.Frag} {cl : Cl} {H0 H : Hp} {W : Wd} {v : V} {d : D} (h0 : cl.f = false) (r : Rp K cl W v d) : RetP K cl H0 H W v d := ⟨fun _ => r, fun h => by rw [h0] at h; cases h⟩
section
variable (K : PySem.W.Frag) (cl : Cl) (E : XK) (W0 : Wd) (H0 : Hp)
def Out (W1 : Wd) (r : RS) (Dn : Ends) : Prop := match r with
  | .stuck => False
  | .nx ρ st => ∀ σ H W, Le W1 W → Full K cl W0 H0 W ρ st σ H → Dn.nx σ H
  | .brk ρ st => ∀ σ H W, Le W1 W → Full K cl W0 H0 W ρ st σ H → Dn.bk σ H
  | .ct ρ st => ∀ σ H W, Le W1 W → Full K cl W0 H0 W ρ st σ H → Dn.ct σ H
  | .ret d st => (cl.f = true → ∃ ds, d = .lst ds) ∧ ∀ v H W, Grow W0 H0 W → Keep W0.A H0 H → SatS K cl W st H → RetP K cl H0 H W v d → Dn.rt v H
  | .ex x st => ∀ dx H W, Grow W0 H0 W → Keep W0.A H0 H → SatS K cl W st H → XRp K cl W H x dx → E (.ref (cl x.c)) (some dx) H
def liftS (f : Ev → S → RS) : TS := fun Dn σ H => ∃ W ρ st, Full K cl W0 H0 W ρ st σ H ∧ Out K cl E W0 H0 W (f ρ st) Dn
end
abbrev DS (X : Cx) (cl : Cl) (E : XK) (W0 : Wd) (H0 : Hp) (st : Stmt) (f : Ev → S → RS) : Prop := PS X st (liftS X.K cl E W0 H0 f)
abbrev DSs (X : Cx) (cl : Cl) (E : XK) (W0 : Wd) (H0 : Hp) (st : List Stmt) (f : Ev → S → RS) : Prop := PSs X st (liftS X.K cl E W0 H0 f)
theorem PSimp {X : Cx} {s : Stmt} {t t' : TS} (h : PS X s t) (hi : ∀ D σ H, t' D σ H → t D σ H) : PS X s t' := ⟨fun pins s σ H Q I q => h.run pins s σ H Q I (hi _ _ _ q)⟩
theorem PSsimp {X : Cx} {s : List Stmt} {t t' : TS} (h : PSs X s t) (hi : ∀ D σ H, t' D σ H → t D σ H) : PSs X s t' := ⟨fun pins s σ H Q I q => h.run pins s σ H Q I (hi _ _ _ q)⟩
section
variable {K : PySem.W.Frag} {cl : Cl} {E : XK} {W0 W W' : Wd} {H0 H H' : Hp} {ρ ρ' : Ev} {σ σ' : L2.St} {st st' : S} {p : Addr} {o : HO} {vs : List V} {ds : List D} {v : V} {d : D} {i : Nat}
theorem Full.step (F : Full K cl W0 H0 W ρ st σ H) (g : Grow W H W') (k : Keep W.A H H') (s : SatS K cl W' st' H') : Full K cl W0 H0 W' ρ st' σ H' :=
  ⟨F.g.trans F.k F.s g, F.k.trans F.g k, s, F.l.keep g k, F.o, F.oh⟩
theorem Out.mono {r : RS} {Dn : Ends} (h : Out K cl E W0 H0 W r Dn) (le : Le W W') : Out K cl E W0 H0 W' r Dn := by
  cases r with
  | stuck => exact h
  | nx ρ st => exact fun σ H W2 l F => h σ H W2 (le.trans l) F
  | brk ρ st => exact fun σ H W2 l F => h σ H W2 (le.trans l) F
  | ct ρ st => exact fun σ H W2 l F => h σ H W2 (le.trans l) F
  | ret d st => exact h
  | ex x st => exact h
/-- an expression first -/
theorem Out.peel {α β : Type} {RP : Wd → β → α → Prop} {r : R α} {k : α → S → RS} {Dn : Ends} (F : Full K cl W0 H0 W ρ st σ H) (h : Out K cl E W0 H0 W (r.toS k) Dn) :
    Aft K cl E RP W H r fun b H' => ∃ a st' W', Full K cl W0 H0 W' ρ st' σ H' ∧ Grow W H W' ∧ RP W' b a ∧ Out K cl E W0 H0 W' (k a st') Dn := by
  cases r with
  | stuck => exact h
  | ok a st' => exact fun b H' W' g kk s rp => ⟨a, st', W', F.step g kk s, g, rp, Out.mono (show Out K cl E W0 H0 W (k a st') Dn from h) g.le⟩
  | ex x st' => exact fun dx H' W' g kk s rp => h dx H' W' (F.g.trans F.k F.s g) (F.k.trans F.g kk) s rp
theorem Full.setSh (F : Full K cl W0 H0 W ρ st σ H) (r : Rp K cl W v d) (i : Nat) : Full K cl W0 H0 W (ρ.set i (.sh d)) st (σ.set i (some v)) H := by
  refine ⟨F.g, F.k, F.s, F.l.setSh r i, fun j es p h1 h2 => ?_, fun j es p h1 h2 => ?_⟩
  · rcases getE_set h1 with ⟨_, e⟩ | ⟨q, h1⟩
    · cases e
    · rw [List.getElem?_set_ne q] at h2
      exact F.o j es p h1 h2
  · rcases getE_set h1 with ⟨_, e⟩ | ⟨q, h1⟩
    · cases e
    · rw [List.getElem?_set_ne q] at h2
      exact F.oh j es p h1 h2
theorem Full.off {is : List Nat} (F : Full K cl W0 H0 W ρ st σ H) (l : SatL K cl W ρ' σ' H) (off : Off is ρ ρ' σ σ') : Full K cl W0 H0 W ρ' st σ' H :=
  ⟨F.g, F.k, F.s, l, fun j es p h1 h2 => by
    obtain ⟨h3, h4⟩ := off.own j es h1
    rw [h4] at h2
    exact F.o j es p h3 h2, fun j es p h1 h2 => by
    obtain ⟨h3, h4⟩ := off.hd j es h1
    rw [h4] at h2
    exact F.oh j es p h3 h2⟩
/-- a list of one's own changes -/
theorem Full.mutOwn {es : List D} (F : Full K cl W0 H0 W ρ st σ H) (h : ρ[i]? = some (.own ds)) (hp : σ[i]? = some (some (.ref p))) (r : RpAll K cl W vs es) : Full K cl W0 H0 W (ρ.set i (.own es)) st σ (upd H p (.lst vs)) := by
  obtain ⟨p', us, h1, h2, h3, h4, h5⟩ := F.l.own i ds h
  rw [hp] at h1
  cases h1
  have hi : i < ρ.length := (List.getElem?_eq_some_iff.mp h).1
  refine ⟨F.g, F.k.mut (F.o i ds p h hp), F.s.mut h4 h3 (.inr ⟨us, h2⟩), ⟨by rw [List.length_set]; exact F.l.len, fun j e q => ?_, fun j fs q => ?_, fun j m fs gs a n q1 q2 q3 q4 => ?_, fun j x q => ?_, fun j o q => ?_, fun j m o u a n q1 q2 q3 q4 => ?_⟩, fun j fs a q1 q2 => ?_, fun j o a q1 q2 => ?_⟩
  · rcases getE_set q with ⟨_, z⟩ | ⟨n, q⟩
    · cases z
    · exact F.l.sh j e q
  · rcases getE_set q with ⟨rfl, z⟩ | ⟨n, q⟩
    · cases z
      exact ⟨p, vs, hp, upd_same, h3, h4, r⟩
    · obtain ⟨a, us', k1, k2, k3, k4, k5⟩ := F.l.own j fs q
      have : a ≠ p := fun z => F.l.ne i j ds fs p n h q hp (z ▸ k1)
      exact ⟨a, us', k1, by rw [upd_ne this]; exact k2, k3, k4, k5⟩
  · have back : ∀ {j : Nat} {fs : List D}, (ρ.set i (.own es))[j]? = some (.own fs) → ∃ gs, ρ[j]? = some (.own gs) := fun q => by
      rcases getE_set q with ⟨rfl, z⟩ | ⟨_, q⟩
      · exact ⟨ds, h⟩
      · exact ⟨_, q⟩
    obtain ⟨fs', q1⟩ := back q1
    obtain ⟨gs', q2⟩ := back q2
    exact F.l.ne j m fs' gs' a n q1 q2 q3 q4
  · rcases getE_set q with ⟨_, z⟩ | ⟨n, q⟩
    · cases z
    · exact F.l.xn j x q
  · rcases getE_set q with ⟨_, z⟩ | ⟨n, q⟩
    · cases z
    · obtain ⟨h0, a, k1, k2, k3, k4⟩ := F.l.hd j o q
      obtain ⟨u, e1, _, e3⟩ := k2.there
      have : a ≠ p := fun z => e3 h0 us (by rw [z, h2] at e1; exact (Option.some.inj e1).symm)
      exact ⟨h0, a, k1, k2.mono (fun _ _ z => z) (List.prefix_refl _) fun u' e' => by rw [upd_ne this]; exact e', k3, k4⟩
  · rcases getE_set q1 with ⟨_, z⟩ | ⟨_, q1⟩
    · cases z
    · rcases getE_set q2 with ⟨_, z⟩ | ⟨_, q2⟩
      · cases z
      · exact F.l.hn j m o u a n q1 q2 q3 q4
  · rcases getE_set q1 with ⟨rfl, z⟩ | ⟨_, q1⟩
    · exact F.o _ ds a h q2
    · exact F.o j fs a q1 q2
  · rcases getE_set q1 with ⟨_, z⟩ | ⟨_, q1⟩
    · cases z
    · exact F.oh j o a q1 q2
/-- a new list of one's own -/
theorem Full.setOwn (F : Full K cl W0 H0 W ρ st σ H) (hp : H p = some (.lst vs)) (h0 : Gone H0 p) (h1 : W.F p = none) (h2 : p ∉ W.A) (r : RpAll K cl W vs ds) (hn : ∀ (j : Nat) (es : List D), ρ[j]? = some (.own es) → σ[j]? ≠ some (some (.ref p))) (i : Nat) :
    Full K cl W0 H0 W (ρ.set i (.own ds)) st (σ.set i (some (.ref p))) H := by
  refine ⟨F.g, F.k, F.s, ⟨by rw [List.length_set, List.length_set]; exact F.l.len, fun j e q => ?_, fun j fs q => ?_, fun j m fs gs a n q1 q2 q3 q4 => ?_, fun j x q => ?_, fun j o q => ?_, fun j m o u a n q1 q2 q3 q4 => ?_⟩, fun j fs a q1 q2 => ?_, fun j o a q1 q2 => ?_⟩
  · rcases getE_set q with ⟨_, z⟩ | ⟨n, q⟩
    · cases z
    · rw [List.getElem?_set_ne n]
      exact F.l.sh j e q
  · have hj : j < ρ.length := by
      have := (List.getElem?_eq_some_iff.mp q).1
      rw [List.length_set] at this
      exact this
    rcases getE_set q with ⟨rfl, z⟩ | ⟨n, q⟩
    · cases z
      exact ⟨p, vs, List.getElem?_set_self (by rw [← F.l.len]; exact hj), hp, h1, h2, r⟩
    · rw [List.getElem?_set_ne n]
      exact F.l.own j fs q
  · rcases getE_set q1 with ⟨e1, _⟩ | ⟨n1, q1⟩
    · rcases getE_set q2 with ⟨e2, _⟩ | ⟨n2, q2⟩
      · exact n (e1.symm.trans e2)
      · rw [List.getElem?_set_ne n2] at q4
        subst e1
        rcases getE_set q3 with ⟨_, z⟩ | ⟨z, _⟩
        · have z' : a = p := by
            have := Option.some.inj z
            exact V.ref.inj this
          exact hn m gs q2 (z' ▸ q4)
        · exact z rfl
    · rcases getE_set q2 with ⟨e2, _⟩ | ⟨n2, q2⟩
      · rw [List.getElem?_set_ne n1] at q3
        subst e2
        rcases getE_set q4 with ⟨_, z⟩ | ⟨z, _⟩
        · have z' : a = p := V.ref.inj (Option.some.inj z)
          exact hn j fs q1 (z' ▸ q3)
        · exact z rfl
      · rw [List.getElem?_set_ne n1] at q3
        rw [List.getElem?_set_ne n2] at q4
        exact F.l.ne j m fs gs a n q1 q2 q3 q4
  · rcases getE_set q with ⟨_, z⟩ | ⟨n, q⟩
    · cases z
    · rw [List.getElem?_set_ne n]
      exact F.l.xn j x q
  · rcases getE_set q with ⟨_, z⟩ | ⟨n, q⟩
    · cases z
    · rw [List.getElem?_set_ne n]
      exact F.l.hd j o q
  · rcases getE_set q1 with ⟨_, z⟩ | ⟨n1, q1⟩
    · cases z
    · rcases getE_set q2 with ⟨_, z⟩ | ⟨n2, q2⟩
      · cases z
      · rw [List.getElem?_set_ne n1] at q3
        rw [List.getElem?_set_ne n2] at q4
        exact F.l.hn j m o u a n q1 q2 q3 q4
  · rcases getE_set q1 with ⟨e1, _⟩ | ⟨n1, q1⟩
    · subst e1
      rcases getE_set q2 with ⟨_, z⟩ | ⟨z, _⟩
      · have z' : a = p := V.ref.inj (Option.some.inj z)
        rw [z']
        exact h0
      · exact absurd rfl z
    · rw [List.getElem?_set_ne n1] at q2
      exact F.o j fs a q1 q2
  · rcases getE_set q1 with ⟨_, z⟩ | ⟨n1, q1⟩
    · cases z
    · rw [List.getElem?_set_ne n1] at q2
      exact F.oh j o a q1 q2
/-- a list of the store changes -/
theorem Full.mutSt {k : Nat} {a : Addr} {es : List D} (F : Full K cl W0 H0 W ρ st σ H) (ha : W.A[k]? = some a) (h : st[k]? = some (.lst ds)) (r : RpAll K cl W vs es) : Full K cl W0 H0 W ρ (st.set k (.lst es)) σ (upd H a (.lst vs)) := by
  have hm : a ∈ W.A := List.mem_of_getElem? ha
  have hFa := F.s.off a hm
  have hHa : ∃ us, H a = some (.lst us) := by
    obtain ⟨b, h1, us, h2, _⟩ := F.s.mo k _ h
    rw [ha] at h1
    cases h1
    exact ⟨us, h2⟩
  obtain ⟨us0, hHa⟩ := hHa
  refine ⟨F.g, fun b u q t n => ?_, ⟨fun b u q => ?_, by rw [List.length_set]; exact F.s.len, F.s.nod, F.s.off, fun j ob q => ?_, F.s.nt, tabs_lst F.s.tab hHa⟩, ⟨F.l.len, F.l.sh, fun j fs q => ?_, F.l.ne, F.l.xn, fun j o q => ?_, F.l.hn⟩, F.o, F.oh⟩
  · have : b ≠ a := fun e => by
      subst e
      rcases F.g.na b hm with z | z
      · exact n z
      · exact z.no q t
    rw [upd_ne this]
    exact F.k b u q t n
  · rw [upd_ne fun e => by rw [e, hFa] at q; cases q]
    exact F.s.ex b u q
  · rcases getE_set q with ⟨rfl, rfl⟩ | ⟨n, q⟩
    · exact ⟨a, ha, vs, upd_same, r⟩
    · obtain ⟨b, h1, h2⟩ := F.s.mo j ob q
      have : b ≠ a := fun e => by
        subst e
        have hk : k < W.A.length := (List.getElem?_eq_some_iff.mp ha).1
        have hj : j < W.A.length := (List.getElem?_eq_some_iff.mp h1).1
        have e1 := (List.getElem?_eq_some_iff.mp ha).2
        have e2 := (List.getElem?_eq_some_iff.mp h1).2
        exact n ((List.getElem_inj F.s.nod).mp (e1.trans e2.symm))
      exact ⟨b, h1, h2.mono (fun _ _ z => z) (List.prefix_refl _) fun u z => by rw [upd_ne this]; exact z⟩
  · obtain ⟨b, us', k1, k2, k3, k4, k5⟩ := F.l.own j fs q
    exact ⟨b, us', k1, by rw [upd_ne (fun (e : b = a) => k4 (by rw [e]; exact hm))]; exact k2, k3, k4, k5⟩
  · obtain ⟨h0, b, k1, k2, k3, k4⟩ := F.l.hd j o q
    exact ⟨h0, b, k1, k2.mono (fun _ _ z => z) (List.prefix_refl _) fun u' e' => by rw [upd_ne (fun (e : b = a) => k4 (by rw [e]; exact hm))]; exact e', k3, k4⟩
end

/-! ### blocks, small statements -/
def sNext : Ev → S → RS := fun ρ st => .nx ρ st
def sSeq (f g : Ev → S → RS) : Ev → S → RS := fun ρ st => match f ρ st with
  | .nx ρ' st' => g ρ' st'
  | r => r
def sSet (i : Nat) (f : Ev → S → R D) : Ev → S → RS := fun ρ st => (f ρ st).toS fun d st => .nx (ρ.set i (.sh d)) st
def sRet (f : Ev → S → R D) : Ev → S → RS := fun ρ st => (f ρ st).toS fun d st => .ret d st
def sRetOwn (i : Nat) : Ev → S → RS := fun ρ st => match ρ[i]? with
  | some (.own ds) => .ret (.lst ds) st
  | _ => .stuck
def sDrop (f : Ev → S → R D) : Ev → S → RS := fun ρ st => (f ρ st).toS fun _ st => .nx ρ st
def sIf (t : Ev → S → R Bool) (f g : Ev → S → RS) : Ev → S → RS := fun ρ st => (t ρ st).toS fun b st => if b then f ρ st else g ρ st
/-- x = [..], the list this frame's own -/
def sOwn (i : Nat) (f : Ev → S → R (List D)) : Ev → S → RS := fun ρ st => (f ρ st).toS fun ds st => if ds.length ≤ sizeLine then .nx (ρ.set i (.own ds)) st else .stuck
def sApp (i : Nat) (f : Ev → S → R D) : Ev → S → RS := fun ρ st => match ρ[i]? with
  | some (.own ds) => (f ρ st).toS fun d st => if ds.length < sizeLine then .nx (ρ.set i (.own (ds ++ [d]))) st else .stuck
  | _ => .stuck
def insL (ds : List D) (k : Nat) (d : D) : List D := ds.take k ++ [d] ++ ds.drop k
def sIns (i : Nat) (f : Ev → S → R (List D)) : Ev → S → RS := fun ρ st => match ρ[i]? with
  | some (.own ds) => (f ρ st).toS fun as st => (match as with
    | [.int k, d] => if decide (ds.length < sizeLine) && (decide (0 ≤ k) && decide (k < 2 ^ 63)) then .nx (ρ.set i (.own (insL ds k.toNat d))) st else .stuck
    | _ => .stuck)
  | _ => .stuck
/-- o[i] = e, o a list of the store -/
def sPut (fo fi fe : Ev → S → R D) : Ev → S → RS := fun ρ st => (fe ρ st).toS fun d st => (fo ρ st).toS fun o st => (fi ρ st).toS fun i st => match o, i with
  | .ref k, .int j => (match st[k]? with
    | some (.lst ds) => (match ixN ds.length j with
      | some m => .nx ρ (st.set k (.lst (ds.set m d)))
      | none => .stuck)
    | _ => .stuck)
  | _, _ => .stuck
def sAsg (t : Tg) (f : Ev → S → R D) : Ev → S → RS := fun ρ st => (f ρ st).toS fun d st => match bindT t d ρ with
  | some ρ' => .nx ρ' st
  | none => .stuck
/-- a, b = x, y -/
def sPar (is : List Nat) (f : Ev → S → R (List D)) : Ev → S → RS := fun ρ st => (f ρ st).toS fun ds st => if ds.length = is.length then .nx (setAll is ds ρ) st else .stuck
def forD (t : Tg) (body : Ev → S → RS) : List D → Ev → S → RS
  | [], ρ, st => .nx ρ st
  | d :: ds, ρ, st => match bindT t d ρ with
    | none => .stuck
    | some ρ' => (match body ρ' st with
      | .nx ρ'' st' => forD t body ds ρ'' st'
      | .ct ρ'' st' => forD t body ds ρ'' st'
      | .brk ρ'' st' => .nx ρ'' st'
      | r => r)
def sFor (t : Tg) (fi : Ev → S → R (List D)) (body : Ev → S → RS) : Ev → S → RS := fun ρ st => (fi ρ st).toS fun ds st => forD t body ds ρ st
section
variable {X : Cx} {cl : Cl} {E : XK} {W0 : Wd} {H0 : Hp} {f g : Ev → S → RS} {fe fo fi : Ev → S → R D} {fs : Ev → S → R (List D)} {tc : Ev → S → R Bool} {s : Stmt} {rest a b : List Stmt} {e c : Expr} {es : List Expr} {pos : Pos} {i : Nat} {x : Str}
theorem dss_nil : DSs X cl E W0 H0 [] sNext := PSsimp pss_nil fun D σ H ⟨W, ρ, st, F, h⟩ => h σ H W .refl F
theorem dss_cons (h1 : DS X cl E W0 H0 s f) (h2 : DSs X cl E W0 H0 rest g) : DSs X cl E W0 H0 (s :: rest) (sSeq f g) := by
  refine PSsimp (pss_cons h1 h2) fun D σ H h => ?_
  obtain ⟨W, ρ, st, F, h⟩ := h
  refine ⟨W, ρ, st, F, ?_⟩
  unfold sSeq at h
  cases q : f ρ st with
  | nx ρ' st' =>
    rw [q] at h
    exact fun σ' H' W' le F' => ⟨W', ρ', st', F', Out.mono h le⟩
  | stuck => rw [q] at h; exact h
  | ret d st' => rw [q] at h; exact h
  | brk ρ' st' => rw [q] at h; exact h
  | ct ρ' st' => rw [q] at h; exact h
  | ex x st' => rw [q] at h; exact h
theorem dss_one (h1 : DS X cl E W0 H0 s f) : DSs X cl E W0 H0 [s] f := pss_one h1
theorem ds_set {pos' : Pos} (i : Nat) (hN : X.N.Nodup) (he : DV X cl E e fe) (hi : X.N[i]? = some x := by rfl) (hx : Loc X.env.scope x := by first | exact Or.inl rfl | exact Or.inr rfl) (hs : swapsWith e (some (.Name x pos')) pos.line X.env = pure false := by rfl) (hf : X.fn x = true ∨ X.env.scope.names.lookup x = some .local := by first | exact .inl rfl | exact .inr rfl) :
    DS X cl E W0 H0 (.Assign [.Name x pos'] e pos) (sSet i fe) := by
  refine PSimp (ps_set hN hi hx he hs hf) fun D σ H h => ?_
  obtain ⟨W, ρ, st, F, h⟩ := h
  refine ⟨W, ρ, st, F.s, F.l, (Out.peel F h).imp (fun _ _ _ r => r) ?_⟩
  rintro v H1 ⟨d, st1, W1, F1, g1, r, h1⟩
  exact h1 _ H1 W1 .refl (F1.setSh r i)
theorem ds_setLc {t : Tg} {fl : Ev → S → R (List D)} {tt : Ev → S → R Bool} {te : Ev → S → R D} {elt tg iter : Expr} {ifs : List Expr} {scope : Scope} {own : List (Str × Nat)} {lpos spos py : Pos} (i : Nat) (hc : X.calm = true) (hN : X.N.Nodup) (hi : DI X cl E tg iter fl) (ok : BlkOk X.N X.env.scope scope own)
    (hg : ∀ (s : Shared) (H : Hp) (C : Addr) (cx : List (Str × Addr)) (fp : List Addr), PG (X.blk s H scope (compEnvC scope cx C X.env) fp) tg (tgT X.K t)) (ht : ∀ (s : Shared) (H : Hp) (C : Addr) (cx : List (Str × Addr)) (fp : List Addr), DTs (X.blk s H scope (compEnvC scope cx C X.env) fp) cl E0 ifs tt)
    (he : ∀ (s : Shared) (H : Hp) (C : Addr) (cx : List (Str × Addr)) (fp : List Addr), DV (X.blk s H scope (compEnvC scope cx C X.env) fp) cl E0 elt te) (hv : ∀ i ∈ t.ix, i ∈ own.map (·.2))
    (hsw : swapsWith (.ListComp elt [⟨tg, iter, ifs, 0⟩] scope lpos) (some (.Name x py)) spos.line X.env = pure true) (hy : X.N[i]? = some x := by rfl) (hyl : X.env.scope.names.lookup x = some .local := by rfl)
    (hs : ∀ x, foldedSetIterable iter X.env x = pure x := by intro _; rfl) :
    DS X cl E W0 H0 (.Assign [.Name x py] (.ListComp elt [⟨tg, iter, ifs, 0⟩] scope lpos) spos) (sSet i (dLc t (own.map (·.2)) fl tt te)) := by
  refine PSimp (ps_setLc (tt := liftT X.K cl E0 tt) (te := liftV X.K cl E0 te) hc hN hy hyl hsw hi ok hg ht he hs) fun D σ H h => ?_
  obtain ⟨W, ρ, st, F, h⟩ := h
  show tLc _ _ _ _ _ σ H fun x H1 => D.nx (σ.set i (some x)) H1
  refine rd_lc hv ⟨W, ρ, st, F.s, F.l, (Out.peel F h).imp (fun _ _ _ r => r) ?_⟩
  rintro v H1 ⟨d, st1, W1, F1, g1, r, h1⟩
  exact h1 _ H1 W1 .refl (F1.setSh r i)
theorem ds_ret (he : DV X cl E e fe) (h0 : cl.f = false := by first | rfl | assumption) : DS X cl E W0 H0 (.Return (some e) pos) (sRet fe) := by
  refine PSimp (ps_ret he) fun D σ H h => ?_
  obtain ⟨W, ρ, st, F, h⟩ := h
  refine ⟨W, ρ, st, F.s, F.l, (Out.peel F h).imp (fun _ _ _ r => r) ?_⟩
  rintro v H1 ⟨d, st1, W1, F1, g1, r, h1⟩
  exact h1.2 v H1 W1 F1.g F1.k F1.s (.of h0 r)
theorem ds_retOwn (i : Nat) (he : PE X e (tVar i)) (h0 : cl.f = false := by first | rfl | assumption) : DS X cl E W0 H0 (.Return (some e) pos) (sRetOwn i) := by
  refine PSimp (ps_ret he) fun D σ H h => ?_
  obtain ⟨W, ρ, st, F, h⟩ := h
  unfold sRetOwn at h
  split at h
  · rename_i ds q
    obtain ⟨p, vs, h1, h2, h3, h4, h5⟩ := F.l.own i ds q
    have hf : Same W.F (upd W.F p (.lst vs)) := fun a u z => by
      rw [upd_ne fun e => by rw [e, h3] at z; cases z]
      exact z
    exact ⟨.ref p, h1, h.2 (.ref p) H ⟨upd W.F p (.lst vs), W.A⟩ (F.g.frz (F.o i ds p q h1) h3) F.k (F.s.frz h4 h2 h3) (.of h0 (.lst upd_same (RpAll.mono (W' := ⟨upd W.F p (.lst vs), W.A⟩) hf (List.prefix_refl _) h5)))⟩
  · exact h.elim
theorem ds_if (hc : DT X cl E c tc) (ha : DSs X cl E W0 H0 a f) (hb : DSs X cl E W0 H0 b g) : DS X cl E W0 H0 (.If c a b pos) (sIf tc f g) := by
  refine PSimp (ps_if hc ha hb) fun D σ H h => ?_
  obtain ⟨W, ρ, st, F, h⟩ := h
  refine ⟨W, ρ, st, F.s, F.l, (Out.peel F h).imp (fun _ _ _ r => r) ?_⟩
  rintro v H1 ⟨d, st1, W1, F1, g1, rfl, h1⟩
  cases v with
  | true => exact iteT ⟨W1, ρ, st1, F1, h1⟩
  | false => exact iteF ⟨W1, ρ, st1, F1, h1⟩
theorem back_none {K : PySem.W.Frag} {W W1 : Wd} {H H1 : Hp} {st : S} {p : Addr} (g : Grow W H W1) (k : Keep W.A H H1) (s : SatS K cl W1 st H1) (h : Gone H1 p) : Gone H p := fun o e => by
  by_cases t : NT o
  · by_cases m : p ∈ W.A
    · obtain ⟨u, e1, e2⟩ := s.there (g.a.subset m)
      exact (h.no e1 e2).elim
    · exact (h.no (k p o e t m) t).elim
  · by_cases z : ∃ ps, o = .tbl ps
    · exact z
    · exact absurd (fun ps q => z ⟨ps, q⟩) t
/-- x = [..] -/
theorem ds_own {pos' lpos : Pos} (i : Nat) (hN : X.N.Nodup) (he : DA X cl E es fs) (hi : X.N[i]? = some x := by rfl) (hx : Loc X.env.scope x := by first | exact Or.inl rfl | exact Or.inr rfl) (hs : swapsWith (.List es lpos) (some (.Name x pos')) pos.line X.env = pure false := by rfl) (hf : X.fn x = true ∨ X.env.scope.names.lookup x = some .local := by first | exact .inl rfl | exact .inr rfl) :
    DS X cl E W0 H0 (.Assign [.Name x pos'] (.List es lpos) pos) (sOwn i fs) := by
  refine PSimp (ps_set hN hi hx (pe_lst he) hs hf) fun D σ H h => ?_
  obtain ⟨W, ρ, st, F, h⟩ := h
  refine ⟨W, ρ, st, F.s, F.l, (Out.peel F h).imp (fun _ _ _ r => r) ?_⟩
  rintro vs H1 ⟨ds, st1, W1, F1, g1, r, h1⟩
  split at h1
  · rename_i hl
    refine ⟨by rw [r.length]; exact hl, fun p hn => ?_⟩
    have hF : W1.F p = none := by
      cases q : W1.F p with
      | none => rfl
      | some u =>
        have := F1.s.ex p u q
        rw [hn] at this; cases this
    have hA : p ∉ W1.A := fun m => F1.s.ne m (.of hn) rfl
    have h0 : Gone H0 p := back_none F1.g F1.k F1.s (.of hn)
    refine h1 _ _ W1 .refl (Full.setOwn (p := p) (vs := vs) ⟨F1.g, F1.k.mut h0, F1.s.mut hA hF (.inl hn), F1.l.keep .refl (keep_new hn), F1.o, F1.oh⟩ upd_same h0 hF hA r (fun j es q z => ?_) i)
    obtain ⟨p', us, k1, k2, _⟩ := F1.l.own j es q
    rw [z] at k1
    cases k1
    rw [hn] at k2
    cases k2
  · exact h1.elim
/-- x.append(e) -/
theorem ds_app {o : Expr} {apos cpos : Pos} (i : Nat) (ho : PE X o (tVar i)) (he : DV X cl E e fe)
    (h1 : attributeBase o "append" X.env (eval o X.env) = eval o X.env := by rfl)
    (h2 : ((((backTo cpos (starEach [e] X.env)).all fun x => !x.fst) && (backToKw cpos (keywordEach [] X.env)).all fun x => x.fst.isSome) && decide (([e].length + ([] : List Keyword).length + if ([] : List Keyword).isEmpty = true then 0 else 1) < 30)) = true := by rfl)
    (h3 : (apos.endLine == cpos.line) = true := by rfl) (h4 : starEach [e] X.env = (false, eval e X.env) :: starEach [] X.env := by rfl) (h5 : ((backTo cpos (starEach [] X.env)).any fun x => x.fst) = false := by rfl)
    (hs : swapsWith (.Call (.Attribute o "append" apos) [e] [] cpos) none pos.line X.env = pure false := by rfl) :
    DS X cl E W0 H0 (.Expr (.Call (.Attribute o "append" apos) [e] [] cpos) pos) (sApp i fe) := by
  refine PSimp (ps_expr (pe_bm PySem.F.plainAttrs_list PySem.F.slot_list_append PySem.F.type_list_append mt_append ho (pa_cons he pa_nil h4) h1 h2 h3 h4 h5) hs) fun D σ H h => ?_
  obtain ⟨W, ρ, st, F, h⟩ := h
  unfold sApp at h
  split at h
  · rename_i ds q
    obtain ⟨p, vs, k1, k2, k3, k4, k5⟩ := F.l.own i ds q
    refine ⟨.ref p, k1, .inl ⟨rfl, vs, .inl (.inl k2)⟩, W, ρ, st, F.s, F.l, (Out.peel F h).imp (fun _ _ _ r => r) ?_⟩
    rintro v H1 ⟨d, st1, W1, F1, g1, r, h1⟩
    split at h1
    · rename_i hl
      obtain ⟨p', us, j1, j2, j3, j4, j5⟩ := F1.l.own i ds q
      rw [k1] at j1
      cases j1
      exact ⟨p, us, v, rfl, rfl, j2, by rw [j5.length]; exact hl, h1 σ _ W1 .refl (F1.mutOwn q k1 (j5.append (.cons r .nil)))⟩
    · exact h1.elim
  · exact h.elim
/-- x.insert(k, e) -/
theorem ds_ins {o : Expr} {ek : Expr} {apos cpos : Pos} (i : Nat) (ho : PE X o (tVar i)) (he : DA X cl E [ek, e] fs)
    (h1 : attributeBase o "insert" X.env (eval o X.env) = eval o X.env := by rfl)
    (h2 : ((((backTo cpos (starEach [ek, e] X.env)).all fun x => !x.fst) && (backToKw cpos (keywordEach [] X.env)).all fun x => x.fst.isSome) && decide (([ek, e].length + ([] : List Keyword).length + if ([] : List Keyword).isEmpty = true then 0 else 1) < 30)) = true := by rfl)
    (h3 : (apos.endLine == cpos.line) = true := by rfl) (h4 : starEach [ek, e] X.env = (false, eval ek X.env) :: starEach [e] X.env := by rfl) (h5 : ((backTo cpos (starEach [e] X.env)).any fun x => x.fst) = false := by rfl)
    (hs : swapsWith (.Call (.Attribute o "insert" apos) [ek, e] [] cpos) none pos.line X.env = pure false := by rfl) :
    DS X cl E W0 H0 (.Expr (.Call (.Attribute o "insert" apos) [ek, e] [] cpos) pos) (sIns i fs) := by
  refine PSimp (ps_expr (pe_bm PySem.F.plainAttrs_list PySem.F.slot_list_insert PySem.F.type_list_insert mt_insert ho he h1 h2 h3 h4 h5) hs) fun D σ H h => ?_
  obtain ⟨W, ρ, st, F, h⟩ := h
  unfold sIns at h
  split at h
  · rename_i ds q
    obtain ⟨p, vs, k1, k2, k3, k4, k5⟩ := F.l.own i ds q
    refine ⟨.ref p, k1, .inl ⟨rfl, vs, .inl (.inl k2)⟩, W, ρ, st, F.s, F.l, (Out.peel F h).imp (fun _ _ _ r => r) ?_⟩
    rintro v H1 ⟨as, st1, W1, F1, g1, r, h1⟩
    split at h1
    · rename_i k d
      cases r with
      | cons r r2 =>
        cases r2 with
        | cons r2 r3 =>
          cases r3
          cases r
          split at h1
          · rename_i hl
            simp only [Bool.and_eq_true, decide_eq_true_eq] at hl
            obtain ⟨p', us, j1, j2, j3, j4, j5⟩ := F1.l.own i ds q
            rw [k1] at j1
            cases j1
            exact ⟨p, us, k, _, rfl, rfl, j2, by rw [j5.length]; exact hl.1, hl.2.1, hl.2.2, h1 σ _ W1 .refl (F1.mutOwn q k1 (((j5.take _).append (.cons r2 .nil)).append (j5.drop _)))⟩
          · exact h1.elim
    · exact h1.elim
  · exact h.elim
/-- o[i] = e, of the store -/
theorem ds_put {o ix : Expr} {tpos : Pos} (he : DV X cl E e fe) (ho : DV X cl E o fo) (hi : DV X cl E ix fi)
    (ha : ∀ v, assign (.Subscript o ix tpos) X.env v = (do
      let ov ← holding [v] (eval o X.env)
      let iv ← holding [v, ov] (eval ix X.env)
      standAt tpos
      holding [v, ov, iv] (setItem ov iv v)
      release [v, ov, iv] []) := by intro _; rfl)
    (hs : swapsWithSole [.Subscript o ix tpos] e pos.line X.env = pure false := by rfl) (hw : swappedStores [.Subscript o ix tpos] e X.env = pure none := by rfl)
    (h1 : (assignEach [.Subscript o ix tpos] X.env).map (·.2) = [assign (.Subscript o ix tpos) X.env] := by rfl) :
    DS X cl E W0 H0 (.Assign [.Subscript o ix tpos] e pos) (sPut fo fi fe) := by
  refine PSimp (ps_asg he (pg_sub ho hi set_list ha) hs hw h1) fun D σ H h => ?_
  obtain ⟨W, ρ, st, F, h⟩ := h
  refine ⟨W, ρ, st, F.s, F.l, (Out.peel F h).imp (fun _ _ _ r => r) ?_⟩
  rintro v H1 ⟨d, st1, W1, F1, g1, r, h1⟩
  refine ⟨W1, ρ, st1, F1.s, F1.l, (Out.peel F1 h1).imp (fun _ _ _ r => r) ?_⟩
  rintro vo H2 ⟨dd, st2, W2, F2, g2, r2, h2⟩
  refine ⟨W2, ρ, st2, F2.s, F2.l, (Out.peel F2 h2).imp (fun _ _ _ r => r) ?_⟩
  rintro vi H3 ⟨di, st3, W3, F3, g3, r3, h3⟩
  split at h3
  · rename_i k j
    cases r3
    have r2' := r2.grow g3
    cases r2' with
    | ref hA =>
      split at h3
      · rename_i ds q
        split at h3
        · rename_i m em
          obtain ⟨b, k1, vs, k2, k3⟩ := F3.s.mo k _ q
          rw [hA] at k1
          cases k1
          exact ⟨_, vs, j, m, rfl, rfl, k2, by rw [k3.length]; exact em, h3 σ _ W3 .refl (F3.mutSt hA q (RpAll.set ((r.grow g2).grow g3) m k3))⟩
        · exact h3.elim
      · exact h3.elim
  · exact h3.elim
/-- target = e -/
theorem ds_asg {t : Tg} {tg : Expr} (he : DV X cl E e fe) (hg : PG X tg (tgT X.K t)) (hs : swapsWithSole [tg] e pos.line X.env = pure false := by rfl) (hw : swappedStores [tg] e X.env = pure none := by rfl)
    (h1 : (assignEach [tg] X.env).map (·.2) = [assign tg X.env] := by rfl) : DS X cl E W0 H0 (.Assign [tg] e pos) (sAsg t fe) := by
  refine PSimp (ps_asg he hg hs hw h1) fun D σ H h => ?_
  obtain ⟨W, ρ, st, F, h⟩ := h
  refine ⟨W, ρ, st, F.s, F.l, (Out.peel F h).imp (fun _ _ _ r => r) ?_⟩
  rintro v H1 ⟨d, st1, W1, F1, g1, r, h1⟩
  split at h1
  · rename_i ρ' eb
    obtain ⟨σ', l', off, ht⟩ := bind_ok (t := t) F1.s F1.l r eb
    exact ht _ (h1 σ' H1 W1 .refl (F1.off l' off))
  · exact h1.elim
theorem RpAll.two {K : PySem.W.Frag} {W : Wd} {vs : List V} {ds : List D} (r : RpAll K cl W vs ds) (h : ds.length = 2) : ∃ v w d e, vs = [v, w] ∧ ds = [d, e] ∧ Rp K cl W v d ∧ Rp K cl W w e := by
  match ds, h, r with
  | [d, e], _, .cons a (.cons b .nil) => exact ⟨_, _, _, _, rfl, rfl, a, b⟩
theorem RpAll.three {K : PySem.W.Frag} {W : Wd} {vs : List V} {ds : List D} (r : RpAll K cl W vs ds) (h : ds.length = 3) : ∃ v w z d e f, vs = [v, w, z] ∧ ds = [d, e, f] ∧ Rp K cl W v d ∧ Rp K cl W w e ∧ Rp K cl W z f := by
  match ds, h, r with
  | [d, e, f], _, .cons a (.cons b (.cons c .nil)) => exact ⟨_, _, _, _, _, _, rfl, rfl, a, b, c⟩
theorem ds_par {i j : Nat} {x y : Str} {a b : Expr} {px py pt pt2 : Pos} {kt k2 : Nat} (hc : X.calm = true) (hN : X.N.Nodup) (ha : DA X cl E [a, b] fs)
    (hi : X.N[i]? = some x := by rfl) (hj : X.N[j]? = some y := by rfl) (hij : i ≠ j := by decide)
    (hx : X.env.scope.names.lookup x = some .local := by rfl) (hy : X.env.scope.names.lookup y = some .local := by rfl)
    (hw : swappedStores [.Tuple [.Name x px, .Name y py] kt pt] (.Tuple [a, b] k2 pt2) X.env = pure (some [x, y]) := by rfl)
    (hs : swapsWithSole [.Tuple [.Name x px, .Name y py] kt pt] (.Tuple [a, b] k2 pt2) pos.line X.env = pure false := by rfl) :
    DS X cl E W0 H0 (.Assign [.Tuple [.Name x px, .Name y py] kt pt] (.Tuple [a, b] k2 pt2) pos) (sPar [i, j] fs) := by
  refine PSimp (ps_par hc hN hi hj hij hx hy ha hw hs) fun D σ H h => ?_
  obtain ⟨W, ρ, st, F, h⟩ := h
  refine ⟨W, ρ, st, F.s, F.l, (Out.peel F h).imp (fun _ _ _ r => r) ?_⟩
  rintro vs H1 ⟨ds, st1, W1, F1, g1, r, h1⟩
  split at h1
  · rename_i hl
    obtain ⟨v, w, d, e, rfl, rfl, r1, r2⟩ := RpAll.two r hl
    exact ⟨v, w, rfl, h1 _ H1 W1 .refl ((F1.setSh r1 i).setSh r2 j)⟩
  · exact h1.elim
/-- targets -/
theorem dg_nm {i : Nat} {x : Str} {p : Pos} (hN : X.N.Nodup) (hi : X.N[i]? = some x := by rfl) (hx : Loc X.env.scope x := by first | exact Or.inl rfl | exact Or.inr rfl) (hf : X.fn x = true ∨ X.env.scope.names.lookup x = some .local := by first | exact .inl rfl | exact .inr rfl) : PG X (.Name x p) (tgT X.K (.nm i)) := pg_name hN hi hx hf
theorem dg_tp {is : List Nat} {es : List Expr} {k : Nat} {p : Pos} (hc : X.calm = true) (h : PGs X es (gNames is)) (hn : (assignEach es X.env).length = is.length := by rfl) (hst : (assignEach es X.env).findIdx? (·.1) = none := by rfl) : PG X (.Tuple es k p) (tgT X.K (.tp is)) := ⟨fun pins s σ H v u Q I r hw => hw.elim (fun h1 => (pg_tup hc h hn hst).run pins s σ H v u Q I r h1) fun h1 => (pg_lst hc h hn hst).run pins s σ H v u Q I r h1⟩
theorem dgs_nil : PGs X [] (gNames []) := pgs_nil
theorem dgs_cons {i : Nat} {is : List Nat} {x : Str} {p : Pos} {es : List Expr} (hN : X.N.Nodup) (h2 : PGs X es (gNames is)) (hi : X.N[i]? = some x := by rfl) (hx : Loc X.env.scope x := by first | exact Or.inl rfl | exact Or.inr rfl) (hf : X.fn x = true ∨ X.env.scope.names.lookup x = some .local := by first | exact .inl rfl | exact .inr rfl)
    (hs : (assignEach (.Name x p :: es) X.env).map (·.2) = assign (.Name x p) X.env :: (assignEach es X.env).map (·.2) := by rfl) : PGs X (.Name x p :: es) (gNames (i :: is)) := pgs_cons (pg_name hN hi hx hf) h2 hs
/-- for -/
theorem ds_for {t : Tg} {tg iter : Expr} {body : List Stmt} (hp : PassesOwn (model X.prog X.w) X.A X.env X.xe) (hc : X.calm = true) (hi : DI X cl E tg iter fs) (hg : PG X tg (tgT X.K t)) (hb : DSs X cl E W0 H0 body f) (hs : ∀ x, foldedSetIterable iter X.env x = pure x := by intro _; rfl) :
    DS X cl E W0 H0 (.For tg iter body [] pos) (sFor t fs f) := by
  refine PSimp (ps_for hp hc hi hg hb hs) fun D σ H h => ?_
  obtain ⟨W, ρ, st, F, h⟩ := h
  refine ⟨W, ρ, st, F.s, F.l, (Out.peel F h).imp (fun _ _ _ r => r) ?_⟩
  rintro J H1 ⟨ds, st1, W1, F1, g1, wk, h1⟩
  obtain ⟨G, Y, wlk, hG, hY⟩ := wk.ex
  let Pv : Nat → L2.St → Hp → Prop := fun n σ' H' => ∃ W' ρ' st', Full X.K cl W0 H0 W' ρ' st' σ' H' ∧ Same W1.F W'.F ∧ W1.A <+: W'.A ∧ Out X.K cl E W0 H0 W' (forD t f (ds.drop n) ρ' st') D
  refine for_it wlk Pv ⟨W1, ρ, st1, F1, fun _ _ z => z, List.prefix_refl _, h1⟩ ?_ ?_ ?_
  · rintro n σ' H' hn ⟨W', ρ', st', F', hw, hA, h'⟩
    exact hG H' fun a u z => F'.s.ex a u (hw a u z)
  · rintro n x σ' H2 H3 hn ⟨W', ρ', st', F', hw, hA, h'⟩ hy
    obtain ⟨d, hd⟩ : ∃ d, ds[n]? = some d := ⟨ds[n], List.getElem?_eq_getElem hn⟩
    obtain ⟨W2, g2, k2, s2, rx⟩ := hY n d H2 x H3 W' st' hd hw hA F'.s hy
    have F2 := F'.step g2 k2 s2
    have ed : ds.drop n = d :: ds.drop (n + 1) := by
      rw [List.drop_eq_getElem_cons hn]
      rw [List.getElem?_eq_getElem hn] at hd
      rw [Option.some.inj hd]
    rw [ed] at h'
    unfold forD at h'
    split at h'
    · exact h'.elim
    · rename_i ρ2 eb
      obtain ⟨σ2, l2, off, ht⟩ := bind_ok (t := t) F2.s F2.l rx eb
      refine ht _ ⟨W2, ρ2, st', F2.off l2 off, ?_⟩
      have hw2 : Same W1.F W2.F := fun a u z => g2.f a u (hw a u z)
      have hA2 : W1.A <+: W2.A := List.IsPrefix.trans hA g2.a
      cases q : f ρ2 st' with
      | stuck => rw [q] at h'; exact (show False from h').elim
      | nx ρ3 st3 =>
        rw [q] at h'
        exact fun σ3 H4 W3 le F3 => ⟨W3, ρ3, st3, F3, fun a u z => le.f a u (hw2 a u z), List.IsPrefix.trans hA2 le.a, Out.mono h' (g2.le.trans le)⟩
      | ct ρ3 st3 =>
        rw [q] at h'
        exact fun σ3 H4 W3 le F3 => ⟨W3, ρ3, st3, F3, fun a u z => le.f a u (hw2 a u z), List.IsPrefix.trans hA2 le.a, Out.mono h' (g2.le.trans le)⟩
      | brk ρ3 st3 =>
        rw [q] at h'
        exact fun σ3 H4 W3 le F3 => h' σ3 H4 W3 (g2.le.trans le) F3
      | ret d st3 => rw [q] at h'; exact h'
      | ex x st3 => rw [q] at h'; exact h'
  · rintro σ' H' ⟨W', ρ', st', F', hw, hA, h'⟩
    rw [List.drop_length] at h'
    exact h' σ' H' W' .refl F'
end
end DL
set_option maxHeartbeats 4000000
/-! The data layer, part h: defs by their bodies; the law's end. -/
namespace DL
open PySem PySem.Spec PyProof.Rows L2

def startE (N : List Str) (ds : List D) : Ev := ds.map Sl.sh ++ List.replicate (N.length - ds.length) .no
def retOf (r : RS) : R D := match r with
  | .ret d s => .ok d s
  | .nx _ s => .ok .non s
  | .ex x s => .ex x s
  | _ => .stuck
section
variable {K : PySem.W.Frag} {cl : Cl} {W : Wd} {H : Hp} {vs : List V} {ds : List D} {N : List Str}
theorem RpAll.sh : ∀ {vs : List V} {ds : List D}, RpAll K cl W vs ds → ∀ (i : Nat) (d : D), (ds.map Sl.sh)[i]? = some (.sh d) → ∃ v, (vs.map some)[i]? = some (some v) ∧ Rp K cl W v d
  | vs, ds, r, i, d, h => by
    rw [List.getElem?_map, Option.map_eq_some_iff] at h
    obtain ⟨d', h1, h2⟩ := h
    cases h2
    obtain ⟨v, h3, h4⟩ := r.get h1
    exact ⟨v, by rw [List.getElem?_map, h3]; rfl, h4⟩
theorem satL_start (r : RpAll K cl W vs ds) : SatL K cl W (startE N ds) (L2.start N vs) H := by
  have hl := r.length
  have noX : ∀ (i : Nat) (x : Exn), (startE N ds)[i]? ≠ some (.exn x) := fun i x h => by
    unfold startE at h
    by_cases hi : i < (ds.map Sl.sh).length
    · rw [List.getElem?_append_left hi, List.getElem?_map] at h
      cases q : ds[i]? with
      | none => rw [q] at h; cases h
      | some d => rw [q] at h; cases h
    · rw [List.getElem?_append_right (by omega), List.getElem?_replicate] at h
      split at h <;> cases h
  have noOwn : ∀ (i : Nat) (es : List D), (startE N ds)[i]? ≠ some (.own es) := fun i es h => by
    unfold startE at h
    by_cases hi : i < (ds.map Sl.sh).length
    · rw [List.getElem?_append_left hi, List.getElem?_map] at h
      cases q : ds[i]? with
      | none => rw [q] at h; cases h
      | some d => rw [q] at h; cases h
    · rw [List.getElem?_append_right (by omega), List.getElem?_replicate] at h
      split at h <;> cases h
  have noHd : ∀ (i : Nat) (o : MO), (startE N ds)[i]? ≠ some (.hd o) := fun i o h => by
    unfold startE at h
    by_cases hi : i < (ds.map Sl.sh).length
    · rw [List.getElem?_append_left hi, List.getElem?_map] at h
      cases q : ds[i]? with
      | none => rw [q] at h; cases h
      | some d => rw [q] at h; cases h
    · rw [List.getElem?_append_right (by omega), List.getElem?_replicate] at h
      split at h <;> cases h
  refine ⟨?_, fun i d h => ?_, fun i es h => absurd h (noOwn i es), fun i j es fs p _ h => absurd h (noOwn i es), fun i x h => absurd h (noX i x), fun i o h => absurd h (noHd i o), fun i j o u p _ h => absurd h (noHd i o)⟩
  · unfold startE L2.start
    rw [List.length_append, List.length_append, List.length_map, List.length_map, List.length_replicate, List.length_replicate, hl]
  · unfold startE at h
    by_cases hi : i < (ds.map Sl.sh).length
    · rw [List.getElem?_append_left hi] at h
      obtain ⟨v, h1, h2⟩ := r.sh i d h
      refine ⟨v, ?_, h2⟩
      unfold L2.start
      rw [List.getElem?_append_left (by rw [List.length_map] at hi ⊢; omega)]
      exact h1
    · rw [List.getElem?_append_right (by omega), List.getElem?_replicate] at h
      split at h <;> cases h
end
section
variable {P : Program} {w : World} {K : PySem.W.Frag} {mg : Str → Option Value} {base : Heap} {cl : Cl} {CX : CXT} {x qual : Str} {params : Arguments} {body : List Stmt} {scope : Scope} {dvs : List V} {kws : List (Str × V)} {f : Addr} {fd : FuncData} {N ps : List Str} {k : Nat}
/-- a def keeps its promise: fb is what its body denotes, sem the plain function -/
theorem fn_D (sem : List D → S → R D) (fb : Ev → S → RS) (F : FunD K x qual params body scope dvs kws f fd) (Sc : FnScope N ps scope) (har : ∀ ds st, sem ds st ≠ .stuck → ds.length = ps.length)
    (hb : ∀ (cdv : Value) (A : Around) (outer : List Env) (s : Shared) (H : Hp) (E : XK) (W0 : Wd), Room k (A.deeper (envOfC qual scope s.heap.objs.size f cdv)) → DSs (cxOf CX P w K mg base N qual scope f cdv A outer s H E) cl E W0 H body fb)
    (hm : ∀ ds st, sem ds st ≠ .stuck → retOf (fb (startE N ds) st) = sem ds st) (h0 : cl.f = false) : FnOk P w K mg base CX (k + 1) f fd ps (spG K cl sem) := by
  refine F.ok Sc (fun vs H Q E h => ?_) (fun cdv A outer s H vs Q E hr h => ?_)
  · obtain ⟨W, st, ds, s, r, h⟩ := h
    rw [r.length]
    refine har ds st fun e => ?_
    rw [e] at h
    exact h
  · obtain ⟨W, st, ds, s0, r, h⟩ := h
    refine ⟨_, hb cdv A outer s H E W hr, W, startE N ds, st, ⟨.refl, .refl, s0, satL_start r, fun i es p q => ?_, fun i o p q => ?_⟩, ?_⟩
    · exact absurd q (by
        intro q
        obtain ⟨p', us, h1, h2, h3, _⟩ := (satL_start (K := K) (cl := cl) (N := N) (H := fun _ => none) r).own i es q
        cases h2)
    · exact absurd q (by
        intro q
        obtain ⟨_, p', _, h1, _⟩ := (satL_start (K := K) (cl := cl) (N := N) (H := fun _ => none) r).hd i o q
        obtain ⟨u, e, _⟩ := h1.there
        cases e)
    · have hne : sem ds st ≠ .stuck := fun e => by rw [e] at h; exact h
      have e := hm ds st hne
      cases q : fb (startE N ds) st with
      | stuck => rw [q] at e; exact absurd e.symm hne
      | brk ρ st' => rw [q] at e; exact absurd e.symm hne
      | ct ρ st' => rw [q] at e; exact absurd e.symm hne
      | ret d st' =>
        rw [q] at e
        rw [← e] at h
        exact ⟨fun z => (by rw [h0] at z; cases z), fun v H' W' g k s r => h v H' W' g k s (r.1 h0)⟩
      | ex y st' =>
        rw [q] at e
        rw [← e] at h
        exact h
      | nx ρ st' =>
        rw [q] at e
        rw [← e] at h
        exact fun σ' H' W' _ F' => h .non H' W' F'.g F'.k F'.s .non
end
section
variable {P : Program} {w : World} {K : PySem.W.Frag} {mg : Str → Option Value} {base : Heap} {cl : Cl} {x qual : Str} {params : Arguments} {body : List Stmt} {scope : Scope} {dvs : List V} {kws : List (Str × V)} {f : Addr} {fd : FuncData} {N ps : List Str} {k : Nat}
/-- the plain function of a def: n parameters, m slots -/
def semOf (n m : Nat) (fb : Ev → S → RS) : List D → S → R D := fun ds st => if ds.length = n then retOf (fb (ds.map Sl.sh ++ List.replicate (m - ds.length) .no) st) else .stuck
/-- a def that raises nothing -/
theorem fn_0 (sem : List D → S → R D) (fb : Ev → S → RS) (F : FunD K x qual params body scope dvs kws f fd) (Sc : FnScope N ps scope)
    (hb : ∀ (cdv : Value) (A : Around) (outer : List Env) (s : Shared) (H : Hp) (E : XK) (W0 : Wd), Room k (A.deeper (envOfC qual scope s.heap.objs.size f cdv)) → DSs (cxOf CX0 P w K mg base N qual scope f cdv A outer s H E).nox cl E W0 H body fb) (hs : sem = semOf ps.length N.length fb) (h0 : cl.f = false) :
    FnOk P w K mg base CX0 (k + 1) f fd ps (spG K cl sem) := by
  subst hs
  refine fn_D (semOf ps.length N.length fb) fb F Sc (fun ds st h => ?_) (fun cdv A outer s H E W0 hr => PSs.nox (hb cdv A outer s H E W0 hr)) (fun ds st h => ?_) ?_
  · unfold semOf at h
    split at h
    · assumption
    · exact absurd rfl h
  · unfold semOf at h ⊢
    split at h
    · rename_i e
      rw [if_pos e]
      rfl
    · exact absurd rfl h
  · exact h0
/-- a def of the text with its promise -/
structure Fn (P : Program) (w : World) (K : PySem.W.Frag) (mg : Str → Option Value) (base : Heap) (cl : Cl) (k : Nat) (x : Str) (st : Stmt) (ps : List Str) (sem : List D → S → R D) (f : Addr) (fd : FuncData) : Prop where
  F : FunD K x x (defArgs st) (defBody st) (defScope st) [] [] f fd
  G : FnOk P w K mg base CX0 k f fd ps (spG K cl sem)
  m : mg x = some (.ref f)
  b : Binds K fd ps []
theorem u64 {k : Nat} {A : Around} (hr : Room k A) : A.units + 64 < cLine := hr.units
theorem u65 {k : Nat} {A : Around} (hr : Room k A) : A.units + 65 < cLine := by have := hr.un; omega
end
/-- all but the tables -/
def noT (H : Hp) : Hp := fun b => match H b with
  | some (.tbl _) => none
  | o => o
theorem noT_of {H : Hp} {a : Addr} {o : HO} (h : H a = some o) (n : NT o) : noT H a = some o := by
  unfold noT
  rw [h]
  cases o with
  | tbl ps => exact absurd rfl (n ps)
  | _ => rfl
theorem of_noT {H : Hp} {a : Addr} {o : HO} (h : noT H a = some o) : H a = some o ∧ NT o := by
  unfold noT at h
  split at h
  · cases h
  · rename_i n
    refine ⟨h, fun ps z => ?_⟩
    subst z
    exact n ps h
/-- the law's own end -/
theorem law_end {K : PySem.W.Frag} {cl : Cl} {sem : List D → S → R D} (h : ∀ ns : List Int, ns.length ≤ 63 → ∃ st, sem [.scr ns] [] = .ok (.bl true) st) (H : Hp) (a : Addr) (ns : List Int) (hl : ns.length ≤ 63) (hS : SqL K H a (ns.map V.int)) (hT : LamX.Tabs cl.T H) :
    spG K cl sem [.ref a] H (fun v _ => v = .bl true) fun _ _ _ => False := by
  obtain ⟨st, e⟩ := h ns hl
  have hS' : SqL K (noT H) a (ns.map V.int) := by
    rcases hS with (h | ⟨o, h⟩) | h
    · exact .inl (.inl (noT_of h .lst))
    · exact .inl (.inr ⟨o, noT_of h fun _ z => nomatch z⟩)
    · exact .inr h
  refine ⟨⟨noT H, []⟩, [], [.scr ns], ⟨fun _ _ h => (of_noT h).1, rfl, List.Pairwise.nil, fun a m => (by cases m), fun i o e => (by simp at e), fun a o h => (of_noT h).2, hT⟩, .cons (.scr hS') .nil, ?_⟩
  rw [e]
  intro v H' W' g k s r
  cases r
  rfl
end DL
set_option maxHeartbeats 4000000
/-! The data layer, part i: the built-ins' names. -/
namespace DL
open PySem PySem.Spec PyProof.Rows L2
theorem bt_len : bootBuiltins "len" = some (.builtin "len") := by decide +kernel
theorem bt_all : bootBuiltins "all" = some (.builtin "all") := by decide +kernel
theorem bt_max : bootBuiltins "max" = some (.builtin "max") := by decide +kernel
theorem bt_min : bootBuiltins "min" = some (.builtin "min") := by decide +kernel
theorem bt_sorted : bootBuiltins "sorted" = some (.builtin "sorted") := by decide +kernel
theorem bt_isinstance : bootBuiltins "isinstance" = some (.builtin "isinstance") := by decide +kernel
theorem bt_int : bootBuiltins "int" = some (.type "int") := by decide +kernel
theorem bt_str : bootBuiltins "str" = some (.type "str") := by decide +kernel
theorem bt_bool : bootBuiltins "bool" = some (.type "bool") := by decide +kernel
theorem bt_list : bootBuiltins "list" = some (.type "list") := by decide +kernel
theorem bt_tuple : bootBuiltins "tuple" = some (.type "tuple") := by decide +kernel
end DL
set_option maxHeartbeats 4000000
/-! The data layer, part j: the head's facts with one more Bool. -/
namespace DL
open PySem PySem.Spec PyProof.Rows L2
end DL
set_option maxHeartbeats 4000000
/-! The data layer, part k: exceptions. try with several classes and a name. -/
namespace DL
open PySem PySem.Spec PyProof.Rows L2
theorem fly_kept {B h h' : Heap} {l : List Env} {a : Addr} {Z : Obj → Prop} (f : HandSPX.FlyingZ B l a Z h) (k : ∀ b o, h.get? b = some o → h'.get? b = some o) : HandSPX.FlyingZ B l a Z h' := by
  obtain ⟨f1, f2, f3, oe, vs, T, oT, ts, e1, e2, e3, e4, e5, e6, e7, e8, e9⟩ := f
  exact ⟨fun b o e => k b o (f1 b o e), f2, Heap.FunFrames.of_keeps (fun b o e _ => ⟨o, k b o e, rfl⟩) f3, oe, vs, T, oT, ts, k _ _ e1, e2, e3, e4, e5, e6, k _ _ e7, e8, e9⟩
/-- the classes of an except clause: looked up, and what the match says -/
def Tst (X : Cx) (t : Expr) (cs : List Value) : Prop := ∀ (a : Addr) (oe : Obj) (pn pins : List (Addr × Obj)) (σ : L2.St) (H : Hp) (s : Shared), Inv (X.suite a ((a, oe) :: pn)) pins σ H s →
  ∀ (cls : Value) (b : Bool), PySem.W.Looks (model X.prog X.w) s.heap (typeOf (.ref a)) cls → PySem.W.exmAny X.K cls cs = some b → ∀ {Q : Value → Shared → Prop} {E : Value → Shared → Prop},
    (∀ v o, PySem.W.Looks (model X.prog X.w) (s.heap.push o) (excMatches (.ref a) v) b → Q v { s with heap := s.heap.push o }) → wpAny (model X.prog X.w) (X.A.mark (some (.ref a))) (eval t X.env) Q E s
theorem ld_nm {X : Cx} {pins : List (Addr × Obj)} {σ : L2.St} {H : Hp} {s : Shared} {x : Str} {c : Value} {p : Pos} {Q : Value → Shared → Prop} {E : Value → Shared → Prop} (I : Inv X pins σ H s) (hc : Names X x c) (q : Q c s) : wpAny (model X.prog X.w) X.A (eval (.Name x p) X.env) Q E s := by
  obtain ⟨hg, hd, hm | ⟨hm, hv, hn⟩⟩ := hc
  · exact ld_glob I hg hm q hd
  · exact ld_blt I hg hm hv q hn hd
theorem tst2 {X : Cx} {x1 x2 : Str} {c1 c2 : Value} {p1 p2 tp : Pos} {k : Nat} (h1 : Names X x1 c1) (h2 : Names X x2 c2) : Tst X (.Tuple [.Name x1 p1, .Name x2 p2] k tp) [c1, c2] := by
  intro a oe pn pins σ H s I cls b LT hx Q E h
  refine Tuple_ (spliced_more (ld_nm (X := X.suite a ((a, oe) :: pn)) I h1 (spliced_more (ld_nm (X := X.suite a ((a, oe) :: pn)) I h2 (spliced_none ?_)))))
  refine wpAny_newObj_type (h _ _ ?_)
  have kp : ∀ b o, s.heap.get? b = some o → (s.heap.push { cls := .type "tuple", data := .seq [c1, c2].toArray }).get? b = some o := fun b o e => Heap.get?_push_of_some _ e
  exact PySem.W.exm_tup2 (I.kIn.keeps kp) (LT.keeps kp) (Heap.get?_push_size _ rfl) hx
/-- what the clause wishes of an exception of the body: slot i is the name's -/
def wAsT (K : PySem.W.Frag) (cs : List Value) (i : Nat) (ts : Addr → Value → Option Addr → TS) (Wout : WX) (Dn : Ends) : WX := fun cls d σ H =>
  ∃ b, PySem.W.exmAny K cls cs = some b ∧ (b = true → ∀ a, H a = none → ts a cls d { nx := fun τ G => Dn.nx (τ.set i none) G, rt := Dn.rt, bk := fun τ G => Dn.bk (τ.set i none) G, ct := fun τ G => Dn.ct (τ.set i none) G } (σ.set i (some (.ref a))) H) ∧ (b = false → Wout cls d σ H)
section
variable {X : Cx} {n : Str} {cs : List Value} {i : Nat} {t : Expr} {body suite : List Stmt} {b₀ : Stmt} {pos pos' : Pos} {tb : WX → TS} {ts : Addr → Value → Option Addr → TS} {Wout : WX}
theorem ps_tryT (hs : X.stack = X.env :: X.outer) (hf : X.env.frame = some X.env.locals) (hN : X.N.Nodup) (hi : X.N[i]? = some n) (hln : X.env.kindOf n = some .local) (hc : Tst X t cs) (tk : Takes X Wout)
    (hb : ∀ (W : WX) (pn : List (Addr × Obj)) (xe : Value → Shared → Prop), Takes (X.tr pn xe) W → PassesOwn (model X.prog X.w) X.A X.env xe → PSs (X.tr pn xe) body (tb W))
    (hsu : ∀ (a : Addr) (oe : Obj) (cls : Value) (d : Option Addr) (pn : List (Addr × Obj)), Zc cls d oe → (∃ vs, oe.data = .fields vs) → PSs (X.suite a ((a, oe) :: pn)) (b₀ :: suite) (ts a cls d)) :
    PS X (.Try body [.ExceptHandler (some t) (some n) (b₀ :: suite) pos'] [] [] pos) (fun Dn σ H => tb (wAsT X.K cs i ts Wout Dn) Dn σ H) := by
  refine ⟨fun pins s σ H Dn I h => ?_⟩
  have ok := I.ok
  have hfr : X.A.frames = some (X.env :: X.outer) := by rw [ok.frames, hs]
  have hloc : Loc X.env.scope n := .inl hln
  refine wpAny_Try_except ?_
  refine wpAny_mono ((hb (wAsT X.K cs i ts Wout Dn) (X.pn ++ pins) (fun e s₁ => wpAny (model X.prog X.w) X.A (noteFrame e X.env) (fun _ s₂ => wpAny (model X.prog X.w) X.A (setFlight e none) (fun _ s₃ => wpAny (model X.prog X.w) X.A (handleBy e X.env [.ExceptHandler (some t) (some n) (b₀ :: suite) pos']) (SP X pins Dn) X.xe s₃) X.xe s₂) X.xe s₁) (fun u s' xx => ?_) PassesOwn.looking).run [] s σ H Dn (I.toTry _) h) (fun f s1 hsp => ?_) (fun e s1 he => he)
  · obtain ⟨a, B, sI, pins', σ1, H1, cls, d, rfl, J', nb, up, sky, na, os, ag, b, hb1, hyes, hno⟩ := xx
    have J : Inv X pins σ1 H1 sI := J'.ofTry ok
    have sky' : Sky B (X.env :: X.outer) a (Zc cls d) X.env.locals s'.heap := by rw [← hs]; exact sky
    show wpAny (model X.prog X.w) X.A (noteFrame (.ref a) X.env) _ _ _
    refine Sky.land Zc.steady hfr hf sky' fun h3 fl3 up3 => ?_
    have J3 : Inv X pins σ1 H1 { s' with heap := h3 } := J.landed nb fl3.1 (up.trans up3) os ag
    obtain ⟨oe3, vs3, he3, hz3, hd3⟩ := fl3.there
    have nfr : a ∉ frs (X.env :: X.outer) := fun hm => by
      obtain ⟨_, o', e', hnf⟩ := fl3.2.2.1.mem hm
      rw [he3] at e'; cases e'
      exact hnf _ hd3
    have nL : a ≠ X.env.locals := fun z => nfr (List.mem_filterMap.mpr ⟨X.env, List.mem_cons_self, by rw [hf, z]⟩)
    have nF : a ∉ X.fs := fun hm => by
      obtain ⟨e, he, q⟩ := List.mem_filterMap.mp hm
      exact nfr (List.mem_filterMap.mpr ⟨e, List.mem_cons_of_mem _ he, q⟩)
    have S3 := J3.suite he3 hd3 na nL nF
    refine wpAny_handleBy_cons (codeAny_handlers_test ?_) (by intro q; cases q)
    have LT : PySem.W.Looks (model X.prog X.w) h3 (typeOf (.ref a)) cls := fun A Q E s k q => wpAny_typeOf_ref (k _ _ he3) (by rw [hz3.1]; exact q)
    refine hc a oe3 (X.pn ++ pins) [] σ1 H1 _ S3 cls b LT hb1 fun v ob LM => LM.here ?_
    have kp : ∀ b o, h3.get? b = some o → (h3.push ob).get? b = some o := fun b o e => Heap.get?_push_of_some _ e
    have fl5 := fly_kept fl3 kp
    have up5 := up3.trans (Heap.UpToSlots.of_keeps kp)
    cases b with
    | true =>
      refine codeAny_handlers_suite_as ?_
      refine HandSPX.lands_againZ fl5 fun h4 fl4 up4 => ?_
      have J4 : Inv X pins σ1 H1 { s' with heap := h4 } := J.landed nb fl4.1 ((up.trans up5).trans up4) os ag
      obtain ⟨oe4, vs4, he4, hz4, hd4⟩ := fl4.there
      have S4 := J4.suite he4 hd4 na nL nF
      refine store_ok (X := X.suite a ((a, oe4) :: (X.pn ++ pins))) (v := .ref a) S4 hN hi hloc rfl (fun s5 S5 => ?_) (.inr hln)
      refine wpAny_mono ((hsu a oe4 cls d (X.pn ++ pins) hz4 ⟨_, hd4⟩).run [] s5 _ H1 _ S5 (hyes rfl a na)) (fun f s6 hsp => ?_) (fun _ _ z => False.elim z)
      have fine : ∀ {σ6 : L2.St} {H6 : Hp} {Q : Shared → Prop}, Inv (X.suite a ((a, oe4) :: (X.pn ++ pins))) [] σ6 H6 s6 → (∀ s7, Inv X pins (σ6.set i none) H6 s7 → Q s7) → wpAny (model X.prog X.w) X.A (do bindName X.env n .none; unbindBehindTheSuite X.env n pos') (fun _ s7 => Q s7) X.xe s6 := fun {σ6 H6 Q} S6 hq => gone_ok (S6.unsuite ok) hN hi hln hq
      cases f with
      | ret u =>
        obtain ⟨v6, σ6, H6, S6, r6, q6⟩ := hsp
        exact fine S6 fun s7 J7 => ⟨_, _, _, J7, r6, q6⟩
      | _ =>
        obtain ⟨σ6, H6, S6, q6⟩ := hsp
        exact fine S6 fun s7 J7 => ⟨_, _, J7, q6⟩
    | false =>
      show wpAny _ X.A (handleBy (.ref a) X.env []) _ _ _
      refine wpAny_handleBy_nil ?_
      obtain ⟨_, _, _, oe, vs, T, oT, ts', he, hz, hd, h1, hr⟩ := id fl5
      unfold PySem.passOn
      refine wpAny_bind (wpAny_field he hd h1 ?_)
      rw [if_neg (show ¬ ((Value.ref T == Value.none) = true) from by simp)]
      have fin : wpAny (model X.prog X.w) X.A (setFlight (.ref a) X.env.frame) (fun _ s4 => wpAny (model X.prog X.w) X.A (throw (.ref a) : Sem Flow) (SP X pins Dn) X.xe s4) X.xe { s' with heap := h3.push ob } := by
        rw [hf]
        refine HandSPX.setFlight_upZ fl5 fun h4 hh4 up4 => wpAny_throw (tk _ _ ?_)
        exact ⟨a, B, sI, pins, σ1, H1, cls, d, rfl, J, nb, (up.trans up5).trans up4, .inr (.inr (by rw [hs]; exact hh4)), na, os, ag, hno rfl⟩
      first
        | exact wpAny_bind (wpAny_pure (wpAny_bind fin))
        | exact wpAny_bind fin
  · cases f with
    | next =>
      obtain ⟨τ, G, J', q⟩ := hsp
      exact wpAny_execs_nil ⟨τ, G, J'.ofTry ok, q⟩
    | ret u =>
      obtain ⟨v, τ, G, J', r, q⟩ := hsp
      exact ⟨v, τ, G, J'.ofTry ok, r, q⟩
    | _ =>
      obtain ⟨τ, G, J', q⟩ := hsp
      exact ⟨τ, G, J'.ofTry ok, q⟩
end
end DL
set_option maxHeartbeats 4000000
/-! The data layer, part x: own exception classes over any built-in base, whose __init__ is walked as a def. -/
namespace DL
open PySem PySem.Spec PyProof.Rows L2
open Builtin Builtin.ObjectAttr

/-- what the written part says of the class -/
structure OexG (K : PySem.W.Frag) (C : Addr) : Prop where
  cls : ∃ nm q N bs bm sn sub ab col dd k0 k1 k2 k3 k5 B newId initId bmB, K.lookup C = some (excClassObj nm q C N bs bm true sn sub ab col dd k0 k1 k2 k3 k5 newId) ∧ ExcBaseFacts B newId initId bmB ∧
    (∀ X : String, bm.contains (.type X) = bmB.contains (.type X)) ∧ (Value.ref C :: bm).contains (.type "object") = true ∧ ∀ self : Value, refuseLoop self "__setattr__" (.ref C :: bm) = pure ()
  sa : PySem.W.findIn K (.ref C) "__setattr__" = some (some (.builtin "object.__setattr__"))
  exC : PySem.W.subIn K (.ref C) (.type "BaseException") = some true
  tyC : PySem.W.typeIn K (.ref C) = some (.type "type")
  kC : PySem.W.keepIn K (.ref C) = true
section
variable {prog : Program} {w : World} {A : Around} {E : Value → Shared → Prop} {R : Result → Shared → Prop} {hp : Heap} {g : Array GenState} {d : Drawn} {t : Nat} {os : OsState}
/-- the first field -/
theorem osa_first {K : PySem.W.Frag} {name : Str} {tk : Tok} {v : Value} {x C : Addr} {fv : Array Value} {cd : ClassData} (X : K.In hp) (hx : hp.get? x = some { cls := .ref C, data := .fields fv }) (hcd : PySem.W.clsIn K C = some cd)
    (hob : cd.mro.contains (.type "object") = true) (hps : refuseLoop (.ref x) "__setattr__" cd.mro = pure ()) (hh : cd.hasDict = true) (ha : PySem.W.findIn K (.ref C) name = some none)
    (hq : ∀ h' tk' dx, (∀ b o, b ≠ x → hp.get? b = some o → h'.get? b = some o) → hp.objs.size ≤ dx → dx ≠ x → h'.get? x = some { cls := .ref C, dict := some dx, data := .fields fv } → h'.Ns1 dx (fun y => if y = name then some v else none) → R (.ok (.ret .none)) ⟨h', g, d, tk', os⟩) :
    codeAny (model prog w) A (.call (.builtin "object.__setattr__") ⟨[.ref x, .str name tk, v], []⟩) R ⟨hp, g, d, t, os⟩ := by
  have I0 : PySem.W.InstAt hp x { cls := .ref C, data := .fields fv } C none := ⟨hx, rfl, rfl, trivial⟩
  have so := F.store_object
  have ne : cd.mro.isEmpty = false := by
    cases e : cd.mro with
    | nil => rw [e] at hob; cases hob
    | cons _ _ => rfl
  have nx : x ≠ hp.objs.size := Nat.ne_of_lt (Heap.lt_size hx)
  have isO : PySem.W.Looks (model prog w) hp (isInstance (.ref x) (.type "object")) true := I0.type.andThen (PySem.W.looks_mroIn X (by unfold PySem.W.mroIn; rw [hcd, Option.bind_some, if_neg (by rw [ne]; decide), hob]))
  refine codeAny_call_builtin so.slot.plain so.entry (@PySem.W.check_slot (model prog w) _ _ ⟨hp, g, d, t, os⟩ "object.__setattr__" "object" "__setattr__" (.ref x) [.str name tk, v] [] _ so.kind so.split isO (so.args (.ref x) (.str name tk) v) ?_)
  have l1 : PySem.W.Looks (model prog w) hp (mroOf (.ref C)) cd.mro := (PySem.W.looks_clsIn X hcd).andThen .now
  have l2 : PySem.W.Looks (model prog w) hp (storeTaker? none) none := .now
  have l3 : PySem.W.Looks (model prog w) hp (classData C) cd := PySem.W.looks_clsIn X hcd
  rw [PySem.W.osa_eq, refuse_eq]
  refine wpAny_bind (wpAny_bind (I0.type.at (wpAny_bind (l1.at ?_))))
  rw [hps]
  refine wpAny_pure (wpAny_bind (I0.type.at (wpAny_bind ((PySem.W.looks_findIn X ha).at (wpAny_bind (l2.at ?_))))))
  show wpAny _ _ (storeInOwnDict (.ref x) (.ref C) (.str name tk) name v false) _ _ _
  obtain ⟨nm, bs, mro, ns, qn, hd, sn, sb, ab, col, del⟩ := cd
  dsimp only at hh
  subst hh
  unfold storeInOwnDict ownDictForStores
  repeat (first | with_reducible refine PySem.HandSPX.store_in_new ?_ ?_ | with_reducible refine wpAny_loadPart_at hx ?_ | with_reducible refine l3.at ?_ | wp_step)
  · exact ⟨_, #[], _, (Heap.get?_update_ne _ _ _ _ nx.symm).trans (Heap.get?_push_at rfl rfl), rfl, fun e he => absurd he (by simp), fun _ => rfl⟩
  · intro h' tk' hn sb2
    have hx1 : (hp.push { cls := .type "dict", data := .dict #[] }).get? x = some { cls := .ref C, data := .fields fv } := Heap.get?_push_of_some _ hx
    refine hq h' tk' hp.objs.size (fun b o hb ho => ?_) (Nat.le_refl _) nx.symm ?_ hn
    · exact (sb2.2 b (Nat.ne_of_lt (Heap.lt_size ho))).trans ((Heap.get?_update_ne _ _ _ _ hb).trans (Heap.get?_push_of_some _ ho))
    · exact (sb2.2 x nx).trans (Heap.get?_update_self _ hx1 rfl)
/-- a further one -/
theorem osa_next {K : PySem.W.Frag} {name : Str} {tk : Tok} {v : Value} {x C dx : Addr} {fv : Array Value} {cd : ClassData} {m0 : Str → Option Value} {nl : List Str} (X : K.In hp) (hx : hp.get? x = some { cls := .ref C, dict := some dx, data := .fields fv }) (hns : hp.Ns1 dx m0) (hw : Within m0 nl) (hz : nl.length ≤ 1000)
    (hcd : PySem.W.clsIn K C = some cd) (hob : cd.mro.contains (.type "object") = true) (hps : refuseLoop (.ref x) "__setattr__" cd.mro = pure ()) (hh : cd.hasDict = true) (ha : PySem.W.findIn K (.ref C) name = some none)
    (hq : ∀ h' tk', (∀ b o, b ≠ dx → hp.get? b = some o → h'.get? b = some o) → h'.Ns1 dx (fun y => if y = name then some v else m0 y) → R (.ok (.ret .none)) ⟨h', g, d, tk', os⟩) :
    codeAny (model prog w) A (.call (.builtin "object.__setattr__") ⟨[.ref x, .str name tk, v], []⟩) R ⟨hp, g, d, t, os⟩ := by
  obtain ⟨oD, esD, epD, hoD, hdD, _⟩ := hns.count hw
  have I0 : PySem.W.InstAt hp x { cls := .ref C, dict := some dx, data := .fields fv } C (some oD) := ⟨hx, rfl, rfl, hoD⟩
  have so := F.store_object
  have ne : cd.mro.isEmpty = false := by
    cases e : cd.mro with
    | nil => rw [e] at hob; cases hob
    | cons _ _ => rfl
  have isO : PySem.W.Looks (model prog w) hp (isInstance (.ref x) (.type "object")) true := I0.type.andThen (PySem.W.looks_mroIn X (by unfold PySem.W.mroIn; rw [hcd, Option.bind_some, if_neg (by rw [ne]; decide), hob]))
  refine codeAny_call_builtin so.slot.plain so.entry (@PySem.W.check_slot (model prog w) _ _ ⟨hp, g, d, t, os⟩ "object.__setattr__" "object" "__setattr__" (.ref x) [.str name tk, v] [] _ so.kind so.split isO (so.args (.ref x) (.str name tk) v) ?_)
  have l1 : PySem.W.Looks (model prog w) hp (mroOf (.ref C)) cd.mro := (PySem.W.looks_clsIn X hcd).andThen .now
  have l2 : PySem.W.Looks (model prog w) hp (storeTaker? none) none := .now
  have l3 : PySem.W.Looks (model prog w) hp (classData C) cd := PySem.W.looks_clsIn X hcd
  rw [PySem.W.osa_eq, refuse_eq]
  refine wpAny_bind (wpAny_bind (I0.type.at (wpAny_bind (l1.at ?_))))
  rw [hps]
  refine wpAny_pure (wpAny_bind (I0.type.at (wpAny_bind ((PySem.W.looks_findIn X ha).at (wpAny_bind (l2.at ?_))))))
  show wpAny _ _ (storeInOwnDict (.ref x) (.ref C) (.str name tk) name v false) _ _ _
  obtain ⟨nm, bs, mro, ns, qn, hd, sn, sb, ab, col, del⟩ := cd
  dsimp only at hh
  subst hh
  unfold storeInOwnDict ownDictForStores
  repeat (first | with_reducible refine PySem.OEX.store_in_old hns hw hz ?_ | with_reducible refine wpAny_loadPart_at hx ?_ | with_reducible refine l3.at ?_ | wp_step)
  intro h' tk' hn sb2
  exact hq h' tk' (fun b o hb ho => (sb2.2 b hb).trans ho) hn
end
section
variable {X : Cx} {pins : List (Addr × Obj)} {σ : L2.St} {H : Hp} {s : Shared} {a C dx : Addr} {f : Str} {y : V} {u : Value} {fs : List (Str × V)} {Q : Unit → Shared → Prop} {E : Value → Shared → Prop} {A : Around}
theorem st_first (T : OexG X.K C) (I : Inv X pins σ H s) (e : H a = some (exo a C none)) (hno : PySem.W.findIn X.K (.ref C) f = some none) (ry : RelV y u)
    (h : ∀ dx s', H dx = none → dx ≠ a → Inv X pins σ (upd (upd H dx (exd dx [(f, y)])) a (exo a C (some dx))) s' → Q () s') : wpAny (model X.prog X.w) A (setAttr (.ref a) f u) Q E s := by
  obtain ⟨nm, q, N, bs, bm, sn, sub, ab, col, dd, k0, k1, k2, k3, k5, B, nI, iI, bmB, hC, FB, hbm, hob, hps⟩ := T.cls
  have hcl : PySem.W.clsIn X.K C = some { name := nm, bases := bs, mro := .ref C :: bm, ns := N, qualname := q, hasDict := true, slotNames := sn, subclasses := sub, abstract := ab, collection := col, hasDel := false } := by
    unfold PySem.W.clsIn
    rw [hC] <;> rfl
  obtain ⟨t1, ho⟩ := exo_at I.hok e
  obtain ⟨hp, g, d, t, os⟩ := s
  refine PySem.W.set_plain I.kIn (ox := { cls := .ref C, dict := none, data := .fields #[.ref t1, .none, .none, .none, .bool false, .none] }) (od := none) ⟨ho, rfl, rfl, trivial⟩ T.sa ?_
  refine osa_first I.kIn ho hcl hob (hps _) rfl hno (fun h' tk' dx k dn dne hx hn => ?_)
  have nD : H dx = none := I.hok.fresh dn
  have n1 : ∀ {b : Addr} {o : Obj}, hp.get? b = some o → b ≠ dx := fun {b o} q => Nat.ne_of_lt (Nat.lt_of_lt_of_le (Heap.lt_size q) dn)
  have n2 : ∀ {b : Addr}, H b = none → b ≠ a := fun {b} n z => by
    rw [z, e] at n
    cases n
  have U : Un X.fs [] H (upd (upd H dx (exd dx [(f, y)])) a (exo a C (some dx))) hp h' := {
    keep := fun b o q n _ _ => k b o (n2 n) q
    slot := fun b o q n _ _ => ⟨o.slots, k b o (n2 n) q⟩
    free := fun b o q n _ => by rw [upd_ne (n2 n), upd_ne (n1 q)]; exact n
    there := fun b o q _ => by
      by_cases hb : b = a
      · exact ⟨_, by rw [hb]; exact hx⟩
      · exact ⟨o, k b o hb q⟩
    tups := fun b xs q => by rw [upd_ne (at_ne e q exo_tup), upd_ne (ne_of_none q nD)]; exact q
    frzs := fun b o v q => by rw [upd_ne (at_ne e q exo_frz), upd_ne (ne_of_none q nD)]; exact q
    tbls := fun b ps q => ⟨#[], by rw [upd_ne (at_ne e q exo_tbl), upd_ne (ne_of_none q nD), q]; simp⟩ }
  refine h dx _ nD dne (I.un (t' := tk') U fun b o q => ?_)
  by_cases hb : b = a
  · subst hb
    rw [upd_same] at q
    cases q
    exact exo_ok hx
  · rw [upd_ne hb] at q
    by_cases hd : b = dx
    · subst hd
      rw [upd_same] at q
      cases q
      exact exd_ok hn (relO_put (fs := []) ry fun g => True.intro)
    · rw [upd_ne hd] at q
      refine (I.hok b o q).stay (fun c v hc z => k c v ?_ z) (fun c hc => by rw [upd_ne (at_ne e hc exo_own), upd_ne (ne_of_none hc nD)]; exact hc) (fun c xs hc => by rw [upd_ne (at_ne e hc exo_tup), upd_ne (ne_of_none hc nD)]; exact hc)
      rcases hc with hc | hc
      · rw [hc]; exact hb
      · exact at_ne e hc exo_own
theorem st_next (T : OexG X.K C) (I : Inv X pins σ H s) (e : H a = some (exo a C (some dx))) (ed : H dx = some (exd dx fs)) (hl : fs.length ≤ 900) (hno : PySem.W.findIn X.K (.ref C) f = some none) (ry : RelV y u)
    (h : ∀ s', Inv X pins σ (upd H dx (exd dx ((f, y) :: fs))) s' → Q () s') : wpAny (model X.prog X.w) A (setAttr (.ref a) f u) Q E s := by
  obtain ⟨nm, q, N, bs, bm, sn, sub, ab, col, dd, k0, k1, k2, k3, k5, B, nI, iI, bmB, hC, FB, hbm, hob, hps⟩ := T.cls
  have hcl : PySem.W.clsIn X.K C = some { name := nm, bases := bs, mro := .ref C :: bm, ns := N, qualname := q, hasDict := true, slotNames := sn, subclasses := sub, abstract := ab, collection := col, hasDel := false } := by
    unfold PySem.W.clsIn
    rw [hC] <;> rfl
  obtain ⟨t1, ho⟩ := exo_at I.hok e
  obtain ⟨mA, hns, rel⟩ := exd_at I.hok ed
  have hw := within_of rel
  obtain ⟨hp, g, d, t, os⟩ := s
  obtain ⟨oD, _, _, hoD, _, _⟩ := hns.count hw
  refine PySem.W.set_plain I.kIn (ox := { cls := .ref C, dict := some dx, data := .fields #[.ref t1, .none, .none, .none, .bool false, .none] }) (od := some oD) ⟨ho, rfl, rfl, hoD⟩ T.sa ?_
  refine osa_next I.kIn ho hns hw (by rw [List.length_map]; omega) hcl hob (hps _) rfl hno (fun h' tk' k hn => ?_)
  have hd : ∃ o, h'.get? dx = some o := by
    obtain ⟨o, _, _, e', _⟩ := hn
    exact ⟨o, e'⟩
  exact h _ (I.write (t' := tk') (x := dx) (e := dx) (o := exd dx ((f, y) :: fs)) (by rw [ed]; exact True.intro) (.inl rfl) k hd (exd_ok hn (relO_put ry rel)))
end
/-- self.f = e -/
def tSt (K : PySem.W.Frag) (f : Str) (to te : TE) : TS := fun Dn σ H => te σ H fun y H1 => to σ H1 fun x H2 => ∃ a C : Addr, x = .ref a ∧ OexG K C ∧ PySem.W.findIn K (.ref C) f = some none ∧
  ((H2 a = some (exo a C none) ∧ ∀ dx, H2 dx = none → dx ≠ a → Dn.nx σ (upd (upd H2 dx (exd dx [(f, y)])) a (exo a C (some dx)))) ∨
    ∃ (dx : Addr) (fs : List (Str × V)), H2 a = some (exo a C (some dx)) ∧ H2 dx = some (exd dx fs) ∧ fs.length ≤ 900 ∧ Dn.nx σ (upd H2 dx (exd dx ((f, y) :: fs))))
section
variable {X : Cx} {o e : Expr} {es : List Expr} {to te : TE} {ta : TA} {f : Str} {p p' p1 p2 pos : Pos}
theorem ps_st (ho : PE X o to) (he : PE X e te) (hs : swapsWith e (some (.Attribute o f p')) pos.line X.env = pure false := by rfl) : PS X (.Assign [.Attribute o f p'] e pos) (tSt X.K f to te) := by
  constructor
  intro pins s σ H Dn I h
  refine plainObj_wpAny_Assign_Attribute (thn (he.run pins s σ H _ I h) fun v s1 hh => ?_) hs
  obtain ⟨y, H1, I1, r1, q1⟩ := hh
  refine thn (ho.run pins s1 σ H1 _ I1 q1) fun u s2 hh => ?_
  obtain ⟨x, H2, I2, r2, a, C, ex, T, hno, q⟩ := hh
  subst ex
  obtain rfl : u = Value.ref a := r2
  rcases q with ⟨ea, q⟩ | ⟨dx, fs, ea, ed, hl, q⟩
  · exact st_first T I2 ea hno r1 fun dx s' n ne J => ⟨σ, _, J, q dx n ne⟩
  · exact st_next T I2 ea ed hl hno r1 fun s' J => ⟨σ, _, J, q⟩
theorem pmk_any {CX : CXT} {x : Str} {C fI : Addr} {k : Nat} {fd : FuncData} {ps : List Str} {sp : Sp} (T : OexG X.K C) (iC : PySem.W.findIn X.K (.ref C) "__init__" = some (some (.ref fI))) (tI : PySem.W.typeIn X.K (.ref fI) = some (.type "function"))
    (F1 : FnOk X.prog X.w X.K X.mg X.base CX k fI fd ps sp) (hr : Room (k + 1) X.A) (hb : Binds X.K fd ps []) (hx : Passes CX X (fun _ _ _ => False)) (hg : Gl X x) (hm : X.mg x = some (.ref C)) (ha : PA X (e :: es) ta)
    (hdb : (x == ("__debug__" : Str)) = false := by decide) (he : starEach (e :: es) X.env = (false, eval e X.env) :: starEach es X.env := by rfl) (hpl : (backTo pos (starEach es X.env)).any (·.1) = false := by rfl) :
    PMk X (.Call (.Name x p) (e :: es) [] pos) (tMkO C sp [] ta) := by
  intro pins s σ H Q I h
  obtain ⟨nm, q, N, bs, bm, sn, sub, ab, col, dd, k0, k1, k2, k3, k5, B, nI, iI, bmB, hC, FB, hbm, hob, hps⟩ := T.cls
  refine wpAny_Call_Name_kw (ld_glob I hg hm ?_ hdb)
  refine PySem.W.callWith_K (h₀ := X.base) I.ok.mod.kin T.kC (thn (ha.run pos pins s σ H _ I h) fun us s1 hh => ?_) he hpl
  obtain ⟨vs, H1, I1, r1, hz, q1⟩ := hh
  refine ⟨I1.kIn, ?_⟩
  show wpAny _ _ (call (.ref C) us) _ _ _
  obtain ⟨hp, g, dr, tk, os⟩ := s1
  have z0 : hp.objs.size ≤ hp.objs.size + 1 := Nat.le_succ _
  have n0 : H1 (hp.objs.size + 1) = none := I1.hok.fresh z0
  have hq := q1 (hp.objs.size + 1) n0
  have kk : ∀ b o, hp.get? b = some o → ((hp.push (PySem.W.kdv_tup us)).push (PySem.HandSPX.excO C hp.objs.size)).get? b = some o := fun b o e => Heap.get?_push_of_some _ (Heap.get?_push_of_some _ e)
  have hget : ((hp.push (PySem.W.kdv_tup us)).push (PySem.HandSPX.excO C hp.objs.size)).get? (hp.objs.size + 1) = some (PySem.HandSPX.excO C hp.objs.size) := by heap_get
  have I2 : Inv X pins σ (upd H1 (hp.objs.size + 1) (exo (hp.objs.size + 1) C none)) ⟨(hp.push (PySem.W.kdv_tup us)).push (PySem.HandSPX.excO C hp.objs.size), g, dr, tk, os⟩ := I1.laid (t' := tk) (a := hp.objs.size + 1) (o := exo (hp.objs.size + 1) C none) (h' := (hp.push (PySem.W.kdv_tup us)).push (PySem.HandSPX.excO C hp.objs.size)) kk z0 (exo_ok hget)
  have r2 : Vals (V.ref (hp.objs.size + 1) :: (vs ++ [])) (Value.ref (hp.objs.size + 1) :: (us ++ [])) := .cons rfl (r1.append .nil)
  have hl : (Value.ref (hp.objs.size + 1) :: us ++ []).length = ps.length := by
    have e := r2.length
    rw [F1.len _ _ _ _ hq] at e
    exact e.symm
  have hus : us.length ≤ sizeLine := by
    rw [← Paired.length r1, sizeLine_eq]
    omega
  have bd := hb ⟨(hp.push (PySem.W.kdv_tup us)).push (PySem.HandSPX.excO C hp.objs.size), g, dr, tk, os⟩ (Value.ref (hp.objs.size + 1) :: us) I2.kIn hl
  rw [List.cons_append] at bd
  refine wpAny_call (PySem.HandSPX.call_own FB hbm (I1.kIn _ _ hC) (PySem.W.looks_findIn I1.kIn iC) (fun self => PySem.W.bind_fn I1.kIn self tI) hus (codeAny_mono (F1.run _ X.stack _ _ ⟨Value.ref (hp.objs.size + 1) :: us, []⟩ (Value.ref (hp.objs.size + 1) :: (us ++ [])) _ _ (fun _ _ _ => False) (hr.make C us []) (I2.env0.make C us []) bd r2 hq) fun r s' hq' => ?_))
  cases r with
  | error er => exact hx pins σ _ _ er s' I2 hq'
  | ok fl =>
    cases fl with
    | ret u =>
      obtain ⟨v, H2, os2, bare2, un2, hok2, rv, ev, d, fs, ea, ed, hd1, q2⟩ := hq'
      subst ev
      obtain ⟨h2, g2, d2, t2, os'⟩ := s'
      exact ⟨rv, mk_end (raises_own T.exC T.tyC) I1 z0 kk un2 hok2 os2 bare2 ea ed hd1 q2⟩
    | next => exact False.elim hq'
    | brk => exact False.elim hq'
    | cont => exact False.elim hq'
end
end DL

set_option maxHeartbeats 4000000
/-! The data layer, part l: own exceptions made and raised. -/
namespace DL
open PySem PySem.Spec PyProof.Rows L2

/-! ### another view of the classes -/
mutual
theorem Rp.cl {K : PySem.W.Frag} {cl cl' : Cl} {W : Wd} (h : cl.c = cl'.c) : ∀ {v : V} {d : D}, Rp K cl W v d → Rp K cl' W v d
  | _, _, .non => .non
  | _, _, .bl b => .bl b
  | _, _, .int i => .int i
  | _, _, .str x => .str x
  | _, _, .lst q r => .lst q (RpAll.cl h r)
  | _, _, .tup q r => .tup q (RpAll.cl h r)
  | _, _, .pr q r t => .pr q (Rp.cl h r) (Rp.cl h t)
  | _, _, .ref q => .ref q
  | _, _, .ty n => .ty n
  | _, _, .cls c => by
    show Rp K cl' W (.ref (cl.c c)) (.cls c)
    rw [h]
    exact .cls c
  | _, _, .scr q => .scr q
  | _, _, .dic q e r => .dic q e (RpAll.cl h r)
  | _, _, .ob (dx := dx) (ns := ns) (vs := vs) (c := c) (a := a) q e r => by
    refine .ob (dx := dx) (vs := vs) ?_ e (RpAll.cl h r)
    show W.F a = some (.ins (cl'.c c) dx (ns.zip vs))
    rw [← h]
    exact q
theorem RpAll.cl {K : PySem.W.Frag} {cl cl' : Cl} {W : Wd} (h : cl.c = cl'.c) : ∀ {vs : List V} {ds : List D}, RpAll K cl W vs ds → RpAll K cl' W vs ds
  | _, _, .nil => .nil
  | _, _, .cons q r => .cons (Rp.cl h q) (RpAll.cl h r)
end
theorem RpF.cl {K : PySem.W.Frag} {cl cl' : Cl} {W : Wd} (h : cl.c = cl'.c) : ∀ {vs : List (Str × V)} {ds : List (Str × D)}, RpF K cl W vs ds → RpF K cl' W vs ds
  | _, _, .nil => .nil
  | _, _, .cons q r => .cons (Rp.cl h q) (RpF.cl h r)
theorem MoRp.cl {K : PySem.W.Frag} {cl cl' : Cl} {W : Wd} {H : Hp} {a : Addr} {o : MO} (h : cl.c = cl'.c) (m : MoRp K cl W H a o) : MoRp K cl' W H a o := by
  cases o with
  | lst ds => obtain ⟨vs, h1, h2⟩ := m; exact ⟨vs, h1, h2.cl h⟩
  | ins c fs =>
    obtain ⟨dx, vs, h1, h2⟩ := m
    refine ⟨dx, vs, ?_, h2.cl h⟩
    show H a = some (.ins (cl'.c c) dx vs)
    rw [← h]
    exact h1
  | dct ks ds => obtain ⟨vs, h1, h2, h3⟩ := m; exact ⟨vs, h1, h2, h3.cl h⟩
theorem SatS.cl {K : PySem.W.Frag} {cl cl' : Cl} {W : Wd} {st : S} {H : Hp} (h : cl.c = cl'.c) (hT : cl.T = cl'.T) (s : SatS K cl W st H) : SatS K cl' W st H :=
  ⟨s.ex, s.len, s.nod, s.off, fun i o e => let ⟨a, h1, h2⟩ := s.mo i o e; ⟨a, h1, h2.cl h⟩, s.nt, hT ▸ s.tab⟩

/-! ### fields of an exception -/
/-- where a field's value comes from: a parameter behind self, a text -/
inductive Src where
  | par (i : Nat) | txt (x : Str)
def putF {α : Type} (g : Src → Option α) : List (Str × Src) → List (Str × α) → Option (List (Str × α))
  | [], acc => some acc
  | (f, s) :: r, acc => match g s with
    | some y => putF g r ((f, y) :: acc)
    | none => none
def srcV (vs : List V) : Src → Option V
  | .par i => vs[i]?
  | .txt x => some (.str x)
def srcD (ds : List D) : Src → Option D
  | .par i => ds[i]?
  | .txt x => some (.str x)
theorem putF_rp {K : PySem.W.Frag} {cl : Cl} {W : Wd} {vs : List V} {ds : List D} (r : RpAll K cl W vs ds) : ∀ {fl : List (Str × Src)} {acc fs : List (Str × D)} {av : List (Str × V)}, RpF K cl W av acc → putF (srcD ds) fl acc = some fs → ∃ fv, putF (srcV vs) fl av = some fv ∧ RpF K cl W fv fs
  | [], acc, fs, av, ra, h => by cases h; exact ⟨av, rfl, ra⟩
  | (f, s) :: t, acc, fs, av, ra, h => by
    unfold putF at h
    split at h
    · rename_i y e
      have hs : ∃ v, srcV vs s = some v ∧ Rp K cl W v y := by
        cases s with
        | par i => exact r.get e
        | txt x => cases e; exact ⟨_, rfl, .str x⟩
      obtain ⟨v, h1, h2⟩ := hs
      obtain ⟨fv, h3, h4⟩ := putF_rp r (.cons h2 ra) h
      exact ⟨fv, by unfold putF; rw [h1]; exact h3, h4⟩
    · cases h

/-! ### __init__ -/
def tSrc : Src → TE
  | .par i => tVar (i + 1)
  | .txt x => tC (.str x)
/-- self.f = .., one behind another -/
def tIni (K : PySem.W.Frag) : List (Str × Src) → TS
  | [] => fun D σ H => D.nx σ H
  | [(f, s)] => tSt K f (tVar 0) (tSrc s)
  | (f, s) :: r => tSeq (tSt K f (tVar 0) (tSrc s)) (tIni K r)
/-- what a class's __init__ promises -/
def spI (C : Addr) (fl : List (Str × Src)) (n : Nat) : Sp := fun vs H Q _ => ∃ a ws fs, vs = .ref a :: ws ∧ ws.length = n ∧ H a = some (exo a C none) ∧ putF (srcV ws) fl [] = some fs ∧ ∀ d, H d = none → d ≠ a → Q .non (upd (upd H d (exd d fs)) a (exo a C (some d)))
theorem src_run {σ : L2.St} {H : Hp} {ws : List V} {a : V} {s : Src} {y : V} {Q : VK} (h : srcV ws s = some y) (hσ : ∀ (i : Nat) (v : V), (a :: ws)[i]? = some v → σ[i]? = some (some v)) (q : Q y H) : tSrc s σ H Q := by
  cases s with
  | par i => exact ⟨y, hσ (i + 1) y h, q⟩
  | txt x => cases h; exact q
theorem ini_old {K : PySem.W.Frag} {C a d : Addr} {ws : List V} {σ : L2.St} (T : OexG K C) (hσ : ∀ (i : Nat) (v : V), (V.ref a :: ws)[i]? = some v → σ[i]? = some (some v)) (Dn : Ends) : ∀ {fl : List (Str × Src)} {acc fs : List (Str × V)} {H : Hp}, (∀ f ∈ fl.map (·.1), PySem.W.findIn K (.ref C) f = some none) → acc.length + fl.length ≤ 900 →
    H a = some (exo a C (some d)) → H d = some (exd d acc) → d ≠ a → putF (srcV ws) fl acc = some fs → (fl = [] → False) → Dn.nx σ (upd H d (exd d fs)) → tIni K fl Dn σ H
  | [], _, _, _, _, _, _, _, _, _, n, _ => (n rfl).elim
  | [(f, s)], acc, fs, H, hno, hl, h1, h2, nd, hp, _, q => by
    unfold putF at hp
    split at hp
    · rename_i y e
      cases hp
      exact src_run e hσ ⟨.ref a, hσ 0 _ rfl, a, C, rfl, T, hno f List.mem_cons_self, .inr ⟨d, acc, h1, h2, by simp at hl; omega, q⟩⟩
    · cases hp
  | (f, s) :: g :: r, acc, fs, H, hno, hl, h1, h2, nd, hp, _, q => by
    unfold putF at hp
    split at hp
    · rename_i y e
      refine src_run (Q := fun y H1 => tVar 0 σ H1 _) e hσ ⟨.ref a, hσ 0 _ rfl, a, C, rfl, T, hno f List.mem_cons_self, .inr ⟨d, acc, h1, h2, by simp at hl; omega, ?_⟩⟩
      refine ini_old T hσ Dn (fl := g :: r) (acc := (f, y) :: acc) (fs := fs) (fun z hz => hno z (List.mem_cons_of_mem _ hz)) (by simp at hl ⊢; omega) ?_ upd_same nd hp (fun z => nomatch z) ?_
      · rw [upd_ne (Ne.symm nd)]; exact h1
      · have e2 : upd (upd H d (exd d ((f, y) :: acc))) d (exd d fs) = upd H d (exd d fs) := by
          funext b
          by_cases hb : b = d
          · rw [hb, upd_same, upd_same]
          · rw [upd_ne hb, upd_ne hb, upd_ne hb]
        rw [e2]
        exact q
    · cases hp
theorem ini_run {K : PySem.W.Frag} {C a : Addr} {ws : List V} {σ : L2.St} {H : Hp} {fl : List (Str × Src)} {fs : List (Str × V)} (T : OexG K C) (hσ : ∀ (i : Nat) (v : V), (V.ref a :: ws)[i]? = some v → σ[i]? = some (some v)) (Dn : Ends) (hno : ∀ f ∈ fl.map (·.1), PySem.W.findIn K (.ref C) f = some none) (hl : fl.length ≤ 900)
    (h1 : H a = some (exo a C none)) (hp : putF (srcV ws) fl [] = some fs) (n : fl ≠ []) (q : ∀ d, H d = none → d ≠ a → Dn.nx σ (upd (upd H d (exd d fs)) a (exo a C (some d)))) : tIni K fl Dn σ H := by
  match fl, n with
  | [(f, s)], _ =>
    unfold putF at hp
    split at hp
    · rename_i y e
      cases hp
      exact src_run e hσ ⟨.ref a, hσ 0 _ rfl, a, C, rfl, T, hno f List.mem_cons_self, .inl ⟨h1, q⟩⟩
    · cases hp
  | (f, s) :: g :: r, _ =>
    unfold putF at hp
    split at hp
    · rename_i y e
      refine src_run (Q := fun y H1 => tVar 0 σ H1 _) e hσ ⟨.ref a, hσ 0 _ rfl, a, C, rfl, T, hno f List.mem_cons_self, .inl ⟨h1, fun d hd nd => ?_⟩⟩
      refine ini_old T hσ Dn (fl := g :: r) (acc := [(f, y)]) (fs := fs) (d := d) (fun z hz => hno z (List.mem_cons_of_mem _ hz)) (by simp at hl ⊢; omega) upd_same ?_ nd hp (fun z => nomatch z) ?_
      · rw [upd_ne nd, upd_same]
      · have e2 : upd (upd (upd H d (exd d [(f, y)])) a (exo a C (some d))) d (exd d fs) = upd (upd H d (exd d fs)) a (exo a C (some d)) := by
          funext b
          by_cases hb : b = d
          · rw [hb, upd_same, upd_ne nd, upd_same]
          · rw [upd_ne hb]
            by_cases hb2 : b = a
            · rw [hb2, upd_same, upd_same]
            · rw [upd_ne hb2, upd_ne hb, upd_ne hb2, upd_ne hb]
        rw [e2]
        exact q d hd nd
    · cases hp
section
variable {P : Program} {w : World} {K : PySem.W.Frag} {mg : Str → Option Value} {base : Heap} {x qual : Str} {params : Arguments} {body : List Stmt} {scope : Scope} {f : Addr} {fd : FuncData} {N ps : List Str}
theorem start_get {N : List Str} {vs : List V} {i : Nat} {v : V} (h : vs[i]? = some v) : (L2.start N vs)[i]? = some (some v) := by
  unfold L2.start
  have hi : i < vs.length := (List.getElem?_eq_some_iff.mp h).1
  rw [List.getElem?_append_left (by simpa using hi), List.getElem?_map, h]
  rfl
/-- an __init__ keeps it -/
theorem fn_init {C : Addr} {m : Nat} {fl : List (Str × Src)} (F : FunD K x qual params body scope [] [] f fd) (Sc : FnScope N ps scope) (T : OexG K C) (hno : ∀ f ∈ fl.map (·.1), PySem.W.findIn K (.ref C) f = some none) (hl : fl.length ≤ 900) (n : fl ≠ []) (hp : ps.length = m + 1)
    (hb : ∀ (cdv : Value) (A : Around) (outer : List Env) (s : Shared) (H : Hp) (E : XK), PSs (cxOf CX0 P w K mg base N qual scope f cdv A outer s H E).nox body (tIni K fl)) : FnOk P w K mg base CX0 1 f fd ps (spI C fl m) := by
  refine F.ok Sc (fun vs H Q E h => ?_) fun cdv A outer s H vs Q E hr h => ?_
  · obtain ⟨a, ws, fs, rfl, e, _⟩ := h
    rw [List.length_cons, e, hp]
  · obtain ⟨a, ws, fs, rfl, e, h1, h2, h3⟩ := h
    exact ⟨_, PSs.nox (hb cdv A outer s H E), ini_run T (fun i v z => start_get z) _ hno hl h1 h2 n h3⟩
end
/-! ### raise -/
def sRaise (c : Nat) (n : Nat) (fl : List (Str × Src)) (g : Ev → S → R (List D)) : Ev → S → RS := fun ρ st => (g ρ st).toS fun ds st => if ds.length = n then (match putF (srcD ds) fl [] with
  | some fs => .ex ⟨c, fs⟩ st
  | none => .stuck) else .stuck
section
variable {X : Cx} {cl : Cl} {E : XK} {W0 : Wd} {H0 : Hp} {e : Expr} {pos : Pos} {g : Ev → S → R (List D)} {c n : Nat} {fl : List (Str × Src)}
theorem rd_raise {W : Wd} {ρ : Ev} {st : S} {σ : L2.St} {H : Hp} {Dn : Ends} (hn : n ≤ 1000) (F : Full X.K cl W0 H0 W ρ st σ H) (h : Out X.K cl E W0 H0 W (sRaise c n fl g ρ st) Dn) :
    tMkO (cl c) (spI (cl c) fl n) [] (liftA X.K cl E g) σ H E := by
  refine ⟨W, ρ, st, F.s, F.l, (Out.peel F h).imp (fun _ _ _ r => r) ?_⟩
  rintro vs H1 ⟨ds, st1, W1, F1, g1, r, h1⟩
  split at h1
  case isFalse => exact h1.elim
  rename_i hl
  split at h1
  case h_2 => exact h1.elim
  rename_i fs hfs
  refine ⟨by rw [r.length, hl]; exact hn, fun a ha => ?_⟩
  obtain ⟨fv, h2, h3⟩ := putF_rp r .nil hfs
  refine ⟨a, vs, fv, by rw [List.append_nil], by rw [r.length, hl], upd_same, h2, fun d hd nd => ⟨rfl, d, fv, upd_same, ?_, ?_, ?_⟩⟩
  · rw [upd_ne nd, upd_same]
  · rw [upd_ne nd] at hd; exact hd
  · rw [upd_ne nd] at hd
    have e : upd (del (upd (upd (upd H1 a (exo a (cl c) none)) d (exd d fv)) a (exo a (cl c) (some d))) a) d (.xd fv) = upd H1 d (.xd fv) := by
      funext b
      by_cases hb : b = d
      · rw [hb, upd_same, upd_same]
      · rw [upd_ne hb, upd_ne hb]
        by_cases hb2 : b = a
        · rw [hb2, del_same, ha]
        · rw [del_ne hb2, upd_ne hb2, upd_ne hb, upd_ne hb2]
    rw [e]
    have g2 : Grow W1 H1 ⟨upd W1.F d (.xd fv), W1.A⟩ := grow_new F1.s.ex hd
    refine h1 d _ ⟨upd W1.F d (.xd fv), W1.A⟩ (F1.g.trans F1.k F1.s g2) (F1.k.trans F1.g (keep_new hd)) (F1.s.new hd) ⟨fv, upd_same, h3.mono g2.f g2.a⟩
theorem ds_raise (hc : X.calm = true) (tk : Takes X (fun cls d _ H => E cls d H)) (hn : n ≤ 1000) (hmk : PMk X e (tMkO (cl c) (spI (cl c) fl n) [] (liftA X.K cl E g))) : DS X cl E W0 H0 (.Raise (some e) none pos) (sRaise c n fl g) := by
  refine PSimp (ps_raise hc tk hmk) fun D σ H h => ?_
  obtain ⟨W, ρ, st, F, h⟩ := h
  exact rd_raise hn F h
end
end DL
set_option maxHeartbeats 4000000
/-! The data layer, part m: the exception that is handled: its attributes, a def that is handed it. -/
namespace DL
open PySem PySem.Spec PyProof.Rows L2 L2H

/-- the context holds the handled exception -/
def HotX (X : Cx) (cl : Cl) : Prop := ∀ a dx c, cl.x = some (a, dx, c) → ∃ oe, (a, oe) ∈ X.pn ∧ Zc (.ref (cl c)) (some dx) oe ∧ ∃ vs, oe.data = .fields vs
/-- the classes whose exceptions are caught: their attributes can be read -/
structure XAt (K : PySem.W.Frag) (cl : Cl) (ok : Nat → Bool) (fs : List Str) : Prop where
  c : ∀ c, ok c = true → XfC K (cl c)
  no : ∀ c, ok c = true → ∀ f ∈ fs, PySem.W.findIn K (.ref (cl c)) f = some none
/-- e.f -/
def dXf (ok : Nat → Bool) (i : Nat) (f : Str) : Ev → S → R D := fun ρ st => match ρ[i]? with
  | some (.exn x) => if ok x.c then (match x.fs.lookup f with
    | some d => .ok d st
    | none => .stuck) else .stuck
  | _ => .stuck
theorem RpF.lookup {K : PySem.W.Frag} {cl : Cl} {W : Wd} {f : Str} {d : D} : ∀ {vs : List (Str × V)} {fs : List (Str × D)}, RpF K cl W vs fs → fs.lookup f = some d → ∃ v, vs.lookup f = some v ∧ Rp K cl W v d
  | _, _, .nil, h => by cases h
  | _, _, .cons (x := x) q r, h => by
    rw [List.lookup_cons] at h ⊢
    split at h
    · cases h
      exact ⟨_, rfl, q⟩
    · exact RpF.lookup r h
section
variable {X : Cx} {cl : Cl} {E : XK}
theorem pe_xfP {e : Expr} {f : Str} {pos : Pos} {te : TE} (he : PE X e te) (hb : attributeBase e f X.env (eval e X.env) = eval e X.env := by rfl) :
    PE X (.Attribute e f pos) (fun σ H Q => te σ H fun x H1 => ∃ (a C dd : Addr) (oe : Obj) (fs : List (Str × V)) (v : V), x = .ref a ∧ (a, oe) ∈ X.pn ∧ Zc (.ref C) (some dd) oe ∧ (∃ vs, oe.data = .fields vs) ∧ XfC X.K C ∧ PySem.W.findIn X.K (.ref C) f = some none ∧ H1 dd = some (.xd fs) ∧ fs.lookup f = some v ∧ Q v H1) := by
  constructor
  intro pins s σ H Q I h
  apply attr_of hb
  refine thn (he.run pins s σ H _ I h) fun u s1 hh => ?_
  obtain ⟨x, H1, I1, rx, a, C, dd, oe, fs, v, ex, hp, hz, ⟨vs, hd⟩, T, hno, ea, l, q⟩ := hh
  subst ex
  obtain rfl : u = Value.ref a := rx
  have hx : ObjOk X.prog X.w H1 s1.heap dd (.xd fs) := I1.hok dd _ ea
  obtain ⟨m2, n2, r2⟩ := hx
  obtain ⟨od, ho, lk⟩ := lookIn_ns n2
  obtain ⟨u2, hu2, ru⟩ := RelO.some_of (v := v) (o := m2 f) (by rw [← l]; exact r2 f)
  have J : PySem.W.InstAt s1.heap a oe C (some od) := by
    refine ⟨(I1.pin (a, oe) (List.mem_append_left _ hp)).1, hz.1, ?_, by rw [hz.2]; exact ho⟩
    unfold PySem.W.notCls
    rw [hd] <;> rfl
  have lk2 : PySem.W.lookIn f od = some (some u2) := by rw [lk, hu2]
  exact HandSPX.exc_get I1.kIn J T.ga T.gg T.exC (PySem.W.findObj_own T.hdC hno rfl lk2) (handed_of ru) ⟨v, H1, I1.tok _, ru, q⟩
theorem dv_xf {ok : Nat → Bool} {fs : List Str} {x f : Str} {pos p : Pos} (i : Nat) (hX : HotX X cl) (ha : XAt X.K cl ok fs) (hf : f ∈ fs) (h : PE X (.Name x p) (tVar i)) (hb : attributeBase (.Name x p) f X.env (eval (.Name x p) X.env) = eval (.Name x p) X.env := by rfl) : DV X cl E (.Attribute (.Name x p) f pos) (dXf ok i f) := by
  refine PEimp (pe_xfP h hb) fun σ H Q h => ?_
  obtain ⟨W, ρ, st, s, l, h⟩ := h
  unfold dXf at h
  split at h
  · rename_i x e
    split at h
    · rename_i hok
      split at h
      · rename_i d ed
        obtain ⟨a, dx, vs, h1, h2, h3, h4⟩ := l.xn i x e
        obtain ⟨oe, k1, k2, k3⟩ := hX a dx x.c h1
        obtain ⟨v, l1, l2⟩ := h4.lookup ed
        exact ⟨.ref a, h2, a, cl x.c, dx, oe, vs, v, rfl, k1, k2, k3, ha.c _ hok, ha.no _ hok f hf, s.ex _ _ h3, l1, h.now s l2⟩
      · exact h.elim
    · exact h.elim
  · exact h.elim
end
/-! ### a def that is handed the exception -/
/-- what it promises -/
def FnX (P : Program) (w : World) (K : PySem.W.Frag) (mg : Str → Option Value) (base : Heap) (cl : Cl) (k : Nat) (f : Addr) (fd : FuncData) (a : Str) (F : Exn → S → R D) : Prop :=
  ∀ (A : Around) (outer : List Env) (s : Shared) (H : Hp) (args : Args) (p : Addr × Obj) (W : Wd) (st : S) (x : Exn) (dx : Addr) (vs : List (Str × V)) (Q : VK), RoomH k A → PinOk outer H s p → (∃ vs, p.2.data = .fields vs) → Zc (.ref (cl x.c)) (some dx) p.2 → Env0 P w K mg base A outer s H → BindsTo s fd args [(a, .ref p.1)] →
    SatS K cl W st H → W.F dx = some (.xd vs) → RpF K cl W vs x.fs → Aft K cl E0 (Rp K cl) W H (F x st) Q → codeAny (model P w) A (.call (.ref f) args) (CR CX0 outer P w H s Q E0) s
section
variable {P : Program} {w : World} {K : PySem.W.Frag} {mg : Str → Option Value} {base : Heap} {cl : Cl} {x qual : Str} {params : Arguments} {body : List Stmt} {scope : Scope} {f : Addr} {fd : FuncData} {N : List Str} {a : Str} {k : Nat}
def startX (N : List Str) (x : Exn) : Ev := .exn x :: List.replicate (N.length - 1) .no
def Cl.hot (cl : Cl) (a dx : Addr) (c : Nat) : Cl := ⟨cl.c, cl.T, some (a, dx, c), none, false⟩
theorem hot_c (cl : Cl) (a dx : Addr) (c : Nat) : cl.c = (cl.hot a dx c).c := rfl
theorem hot_T (cl : Cl) (a dx : Addr) (c : Nat) : cl.T = (cl.hot a dx c).T := rfl
theorem satL_startX {cl : Cl} {W : Wd} {H : Hp} {x : Exn} {a dx : Addr} {vs : List (Str × V)} (hx : cl.x = some (a, dx, x.c)) (h1 : W.F dx = some (.xd vs)) (h2 : RpF K cl W vs x.fs) (hN : N ≠ []) : SatL K cl W (startX N x) (L2.start N [.ref a]) H := by
  have at_ : ∀ (i : Nat) (s : Sl), (startX N x)[i]? = some s → (i = 0 ∧ s = .exn x) ∨ s = .no := fun i s e => by
    unfold startX at e
    cases i with
    | zero => exact .inl ⟨rfl, (Option.some.inj e).symm⟩
    | succ i =>
      rw [List.getElem?_cons_succ, List.getElem?_replicate] at e
      split at e
      · exact .inr (Option.some.inj e).symm
      · cases e
  refine ⟨?_, fun i d e => ?_, fun i d e => ?_, fun i j ds es p _ e => ?_, fun i y e => ?_, fun i o e => ?_, fun i j o u p _ e => ?_⟩
  · unfold startX L2.start
    have : 0 < N.length := List.length_pos_iff.mpr hN
    simp only [List.length_cons, List.length_replicate, List.length_append, List.length_map, List.length_nil]
    omega
  · rcases at_ i _ e with ⟨_, z⟩ | z <;> cases z
  · rcases at_ i _ e with ⟨_, z⟩ | z <;> cases z
  · rcases at_ i _ e with ⟨_, z⟩ | z <;> cases z
  · rcases at_ i _ e with ⟨rfl, z⟩ | z
    · cases z
      exact ⟨a, dx, vs, hx, rfl, h1, h2⟩
    · cases z
  · rcases at_ i _ e with ⟨_, z⟩ | z <;> cases z
  · rcases at_ i _ e with ⟨_, z⟩ | z <;> cases z
theorem fn_X (F : Exn → S → R D) (fb : Ev → S → RS) (Fd : FunD K x qual params body scope [] [] f fd) (Sc : FnScope N [a] scope) (hN : N ≠ [])
    (hb : ∀ (cdv : Value) (A : Around) (outer : List Env) (s : Shared) (H : Hp) (p : Addr × Obj) (cl' : Cl) (W0 : Wd), HotX (cxH CX0 P w K mg base N qual scope f cdv A outer s H E0 p) cl' → cl'.c = cl.c → cl'.f = false → RoomH k (A.deeper (envOfC qual scope s.heap.objs.size f cdv)) → DSs (cxH CX0 P w K mg base N qual scope f cdv A outer s H E0 p) cl' E0 W0 H body fb)
    (hm : ∀ y st, F y st ≠ .stuck → retOf (fb (startX N y) st) = F y st) : FnX P w K mg base cl (k + 1) f fd a F := by
  intro A outer s H args p W st y dx vs Q hr hpin hdat hz e0 hbd s0 hdx hrp h
  obtain ⟨oc, od, dV, kV, doc, pmv, an, cdv, ct, osl, rfl, lk, hcd, hD, hK⟩ := Fd.ex
  have KI : K.In s.heap := e0.mod.kin.keeps fun b o e => (e0.bs b o e).1
  have noL : s.heap.NoLimit := e0.mod.nolimit.keeps fun b o e => (e0.bs b o e).1
  have kd : ∀ z ∈ [a].zip [Value.ref p.1], scope.names.lookup z.1 = some .local ∨ (scope.names.lookup z.1 = some .cell ∧ ((cellsFrom (s.heap.objs.size + 1) scope.names []).lookup z.1).isSome = true) := fun z hz => by
    rcases Sc.par z.1 (List.of_mem_zip hz).1 with q | q
    · exact .inl q
    · exact .inr ⟨q, PySem.W.cellsFrom_some _ _ _ (.inl q)⟩
  refine codeAny_call_function hr.depth (KI _ _ lk) rfl Sc.co Sc.gen rfl (PySem.W.codeRec_of KI hcd) (hbd _ _ _ _ ?_)
  refine wpAny_newFunctionEnv_cells Sc.kind kd fun env he s1 x1 => ?_
  subst he
  refine ⟨noL.keeps x1.toInCall.keep, codeAny_func ?_⟩
  have I : Inv (cxH CX0 P w K mg base N qual scope f cdv A outer s H E0 p) [] (L2.start N [.ref p.1]) H s1 := inv_startH (ps := [a]) (us := [.ref p.1]) (vs := [.ref p.1]) Sc hpin e0 rfl (.cons rfl .nil) x1
  have hX : HotX (cxH CX0 P w K mg base N qual scope f cdv A outer s H E0 p) (cl.hot p.1 dx y.c) := fun a' d' c' e' => by
    cases e'
    exact ⟨p.2, List.mem_cons_self, hz, hdat⟩
  have hd := hb cdv A outer s H p (cl.hot p.1 dx y.c) W hX rfl rfl (hr.deeper _)
  have s0' : SatS K (cl.hot p.1 dx y.c) W st H := s0.cl (hot_c _ _ _ _) (hot_T _ _ _ _)
  have hrp' : RpF K (cl.hot p.1 dx y.c) W vs y.fs := hrp.cl (hot_c _ _ _ _)
  have L0 : SatL K (cl.hot p.1 dx y.c) W (startX N y) (L2.start N [.ref p.1]) H := satL_startX rfl hdx hrp' hN
  have hne : F y st ≠ .stuck := fun e => by rw [e] at h; exact h
  have e := hm y st hne
  have go : liftS K (cl.hot p.1 dx y.c) E0 W H fb { nx := fun _ H' => Q .non H', rt := Q } (L2.start N [.ref p.1]) H := by
    refine ⟨W, startX N y, st, ⟨.refl, .refl, s0', L0, fun i es q z => ?_, fun i o q z => ?_⟩, ?_⟩
    · obtain ⟨_, _, _, z2, _⟩ := (satL_startX (K := K) (cl := cl.hot p.1 dx y.c) (H := fun _ => none) (N := N) rfl hdx hrp' hN).own i es z
      cases z2
    · obtain ⟨_, _, _, z2, _⟩ := (satL_startX (K := K) (cl := cl.hot p.1 dx y.c) (H := fun _ => none) (N := N) rfl hdx hrp' hN).hd i o z
      obtain ⟨_, e, _⟩ := z2.there
      cases e
    · cases q : fb (startX N y) st with
      | stuck => rw [q] at e; exact absurd e.symm hne
      | brk ρ st' => rw [q] at e; exact absurd e.symm hne
      | ct ρ st' => rw [q] at e; exact absurd e.symm hne
      | ret d st' =>
        rw [q] at e
        rw [← e] at h
        exact ⟨fun z => (nomatch z), fun v H' W' g k s r => h v H' W' g k (s.cl (hot_c _ _ _ _).symm (hot_T _ _ _ _).symm) ((r.1 rfl).cl (hot_c _ _ _ _).symm)⟩
      | ex y' st' =>
        rw [q] at e
        rw [← e] at h
        intro dx' H' W' g k s r
        obtain ⟨vs', r1, r2⟩ := r
        exact h dx' H' W' g k (s.cl (hot_c _ _ _ _).symm (hot_T _ _ _ _).symm) ⟨vs', r1, r2.cl (hot_c _ _ _ _).symm⟩
      | nx ρ st' =>
        rw [q] at e
        rw [← e] at h
        exact fun σ' H' W' _ F' => h .non H' W' F'.g F'.k (F'.s.cl (hot_c _ _ _ _).symm (hot_T _ _ _ _).symm) .non
  refine wpAny_mono (hd.run [] s1 (L2.start N [.ref p.1]) H _ I go) (fun fl s2 hs => ?_) fun er s2 hs => hs
  cases fl with
  | ret u =>
    obtain ⟨v, σ2, H2, J, rv, q⟩ := hs
    exact ⟨v, H2, J.os, J.bare, J.base, J.hok, rv, q⟩
  | next =>
    obtain ⟨σ2, H2, J, q⟩ := hs
    exact ⟨V.non, H2, J.os, J.bare, J.base, J.hok, rfl, q⟩
  | brk =>
    obtain ⟨_, _, _, q⟩ := hs
    exact q.elim
  | cont =>
    obtain ⟨_, _, _, q⟩ := hs
    exact q.elim
end
/-- f(e), e the handled exception -/
def dCallX (i : Nat) (F : Exn → S → R D) : Ev → S → R D := fun ρ st => match ρ[i]? with
  | some (.exn x) => F x st
  | _ => .stuck
theorem dv_callX {X : Cx} {cl cl0 : Cl} {k i : Nat} {f : Addr} {fd : FuncData} {y x a : Str} {q pos p : Pos} {F : Exn → S → R D} (hX : HotX X cl) (G : FnX X.prog X.w X.K X.mg X.base cl0 k f fd a F) (hc : cl.c = cl0.c) (hT : cl.T = cl0.T) (hr : RoomH k X.A) (hg : Gl X x) (hm : X.mg x = some (.ref f)) (hk : PySem.W.keepIn X.K (.ref f) = true) (hb : Binds X.K fd [a] [])
    (h : PE X (.Name y q) (tVar i)) (hdb : (x == ("__debug__" : Str)) = false := by decide) (he : starEach [.Name y q] X.env = (false, eval (.Name y q) X.env) :: starEach [] X.env := by rfl) (hpl : (backTo pos (starEach [] X.env)).any (·.1) = false := by rfl) :
    DV X cl E0 (.Call (.Name x p) [.Name y q] [] pos) (dCallX i F) := by
  constructor
  intro pins s σ H Q I h0
  obtain ⟨W, ρ, st, s0, l, h0⟩ := h0
  unfold dCallX at h0
  split at h0
  case h_2 => exact h0.elim
  rename_i z ez
  obtain ⟨a', dx, vs, h1, h2, h3, h4⟩ := l.xn i z ez
  obtain ⟨oe, k1, k2, k3⟩ := hX a' dx z.c h1
  refine wpAny_Call_Name_kw (ld_glob I hg hm ?_ hdb)
  have ha : PA X [.Name y q] (tCons (tVar i) tNil) := pa_cons h pa_nil he
  refine PySem.W.callWith_K (h₀ := X.base) I.ok.mod.kin hk (thn (ha.run pos pins s σ H (fun vs H1 => vs = [.ref a'] ∧ H1 = H) I ⟨.ref a', h2, rfl, rfl⟩) fun us s1 hh => ?_) he hpl
  obtain ⟨vs1, H1, I1, r1, e1, e2⟩ := hh
  subst e1
  subst e2
  refine ⟨I1.kIn, ?_⟩
  cases r1 with
  | cons ra rb =>
    cases rb
    obtain rfl := ra
    have b := hb s1 [.ref a'] I1.kIn rfl
    rw [List.append_nil] at b
    obtain ⟨P1, P2, P3, P4, P5⟩ := I1.pin (a', oe) (List.mem_append_left _ k1)
    have hpin : PinOk X.stack H1 s1 (a', oe) := ⟨P1, P2, fun hm => (List.mem_cons.mp (I1.stkSub a' hm)).elim P3 P4, P5⟩
    have k2' : Zc (.ref (cl0 z.c)) (some dx) oe := by
      have : cl0.c z.c = cl.c z.c := by rw [hc]
      show Zc (.ref (cl0.c z.c)) (some dx) oe
      rw [this]
      exact k2
    have h0' : Aft X.K cl0 E0 (Rp X.K cl0) W H1 (F z st) Q := by
      cases e : F z st with
      | stuck => rw [e] at h0; exact h0
      | ok d st' => rw [e] at h0; exact fun v H' W' g k s r => h0 v H' W' g k (s.cl hc.symm hT.symm) (r.cl hc.symm)
      | ex y' st' =>
        rw [e] at h0
        intro dx' H' W' g k s r
        obtain ⟨vs', r1, r2⟩ := r
        exact h0 dx' H' W' g k (s.cl hc.symm hT.symm) ⟨vs', r1, r2.cl hc.symm⟩
    refine wpAny_call (codeAny_mono (G X.A X.stack s1 H1 ⟨[.ref a'], []⟩ (a', oe) W st z dx vs Q hr hpin k3 k2' I1.env0 b (s0.cl hc hT) h3 (h4.cl hc) h0') fun r s' hq => ?_)
    cases r with
    | error e => exact hq.elim
    | ok fl =>
      cases fl with
      | ret u => exact I1.after hq
      | next => exact hq.elim
      | brk => exact hq.elim
      | cont => exact hq.elim
end DL
set_option maxHeartbeats 4000000
/-! The data layer, part n: a lambda handed to a def that tries it. -/
namespace DL
open PySem PySem.Spec PyProof.Rows L2 L2H

theorem Takes.len {X : Cx} {W : WX} (t : Takes X W) : Takes X (fun cls d σ H => σ.length = X.N.length → W cls d σ H) := fun u s' ⟨a, B, sI, pins, σ, H, cls, d, e, I, nb, up, sky, na, os, ag, w⟩ =>
  t u s' ⟨a, B, sI, pins, σ, H, cls, d, e, I, nb, up, sky, na, os, ag, w I.len⟩
theorem Aft.noX {α β : Type} {K : PySem.W.Frag} {cl : Cl} {E E' : XK} {RP : Wd → β → α → Prop} {W : Wd} {H : Hp} {r : R α} {Q : β → Hp → Prop} (h : Aft K cl E RP W H (noX r) Q) : Aft K cl E' RP W H r Q := by
  cases r with
  | stuck => exact h
  | ok a st => exact h
  | ex x st => exact (show False from h).elim
/-- what try makes of the lambda's result -/
def tryD (c : Str) (ok : Nat → Bool) (hF : Exn → S → R D) (r : R D) : R D := match r with
  | .stuck => .stuck
  | .ok d st => .ok (.tup [.str c, d]) st
  | .ex x st => if ok x.c then noX (hF x st) else .stuck
/-- the frame of the def that tries, in its suite: n slots, the exception in slot i -/
def exE (n i : Nat) (x : Exn) : Ev := (List.replicate n Sl.no).set i (.exn x)
theorem satL_exE {K : PySem.W.Frag} {cl : Cl} {W : Wd} {H : Hp} {x : Exn} {a dx : Addr} {vs : List (Str × V)} {n i : Nat} {σ : L2.St} (hx : cl.x = some (a, dx, x.c)) (h1 : W.F dx = some (.xd vs)) (h2 : RpF K cl W vs x.fs) (hl : σ.length = n) : SatL K cl W (exE n i x) (σ.set i (some (.ref a))) H := by
  have at_ : ∀ (j : Nat) (s : Sl), (exE n i x)[j]? = some s → (i = j ∧ s = .exn x) ∨ s = .no := fun j s e => by
    unfold exE at e
    rcases getE_set e with z | ⟨_, z⟩
    · exact .inl z
    · rw [List.getElem?_replicate] at z
      split at z
      · exact .inr (Option.some.inj z).symm
      · cases z
  refine ⟨?_, fun j d e => ?_, fun j d e => ?_, fun j m ds es p _ e => ?_, fun j y e => ?_, fun j o e => ?_, fun j m o u p _ e => ?_⟩
  · unfold exE
    rw [List.length_set, List.length_set, List.length_replicate, hl]
  · rcases at_ j _ e with ⟨_, z⟩ | z <;> cases z
  · rcases at_ j _ e with ⟨_, z⟩ | z <;> cases z
  · rcases at_ j _ e with ⟨_, z⟩ | z <;> cases z
  · have hj : j < n := by
      have := (List.getElem?_eq_some_iff.mp e).1
      unfold exE at this
      rw [List.length_set, List.length_replicate] at this
      exact this
    rcases at_ j _ e with ⟨rfl, z⟩ | z
    · cases z
      exact ⟨a, dx, vs, hx, List.getElem?_set_self (by rw [hl]; exact hj), h1, h2⟩
    · cases z
  · rcases at_ j _ e with ⟨_, z⟩ | z <;> cases z
  · rcases at_ j _ e with ⟨_, z⟩ | z <;> cases z
/-- the reading of such a def -/
def TTry (K : PySem.W.Frag) (cl : Cl) (c : Str) (ok : Nat → Bool) (hF : Exn → S → R D) : (XK → Hp → VK → Prop) → Hp → VK → Prop := fun tl H Q => ∃ (W : Wd) (st : S) (r : R D), SatS K cl W st H ∧
  (∀ (E : XK) (W' : Wd) (H' : Hp) (Q' : VK), Grow W H W' → Keep W.A H H' → SatS K cl W' st H' → Aft K cl E (Rp K cl) W' H' r Q' → tl E H' Q') ∧ Aft K cl E0 (Rp K cl) W H (tryD c ok hF r) Q
/-- the context of the def that tries -/
abbrev zCx (X : Cx) (Ng : List Str) (x : Str) (sg : Scope) (g : Addr) (cdg : Value) (s : Shared) (H : Hp) : Cx := (cxOf C8.CX0 X.prog X.w X.K X.mg X.base Ng x sg g cdg X.A X.stack s H C8.E0).nox
section
variable {X : Cx} {cl : Cl}
end
end DL
set_option maxHeartbeats 4000000
/-! The data layer, part s: sets of texts, made of a list or a tuple, sorted or counted. -/
namespace DL
open PySem PySem.Spec PyProof.Rows L2

/-! ### a set of texts -/
def txtOf (p : Int × Value) : Str := match p.2 with
  | .str x _ => x
  | _ => Str.empty
def TxtE (w : World) (p : Int × Value) : Prop := ∃ x u, p.2 = Value.str x u ∧ p.1 = hashStr w x
/-- the set of texts at b: the members of l, m of them -/
def TxS (w : World) (hp : Heap) (b : Addr) (l : List Str) (m : Nat) : Prop :=
  ∃ ob rows ep tb, hp.get? b = some ob ∧ ob.ExactSet ∧ ob.data = .set rows ep tb ∧ (∀ p ∈ rows.toList, TxtE w p) ∧ (rows.toList.map txtOf).Nodup ∧ (∀ x, x ∈ l ↔ x ∈ rows.toList.map txtOf) ∧
    rows.size < scanBound ∧ tb.fits rows.size = true ∧ rows.size = m ∧ Ris tb.place.toList ∧ (w.params.followText "set-order" = true ∨ tb.led = true)
section
variable {P : Program} {w : World} {A : Around} {E : Value → Shared → Prop} {s : Shared} {b : Addr} {l : List Str} {m : Nat}
theorem TxS.stay {hp hp' : Heap} (R : TxS w hp b l m) (k : ∀ o, hp.get? b = some o → hp'.get? b = some o) : TxS w hp' b l m := by
  obtain ⟨ob, rows, ep, tb, q, r⟩ := R
  exact ⟨ob, rows, ep, tb, k ob q, r⟩
theorem TxS.same {hp : Heap} {l' : List Str} (R : TxS w hp b l m) (k : ∀ x, x ∈ l' ↔ x ∈ l) : TxS w hp b l' m := by
  obtain ⟨ob, rows, ep, tb, q1, q2, q3, q4, q5, q6, r⟩ := R
  exact ⟨ob, rows, ep, tb, q1, q2, q3, q4, q5, fun x => (k x).trans (q6 x), r⟩
theorem txt_is {x : Str} {u : Tok} : (strKind P w).is x (.str x u) = true := by
  show Value.isStrOf x (.str x u) = true
  simp [Value.isStrOf]
theorem txt_elems {q : List (Int × Value)} (g : ∀ p ∈ q, TxtE w p) : ElemsOf (strKind P w) q := fun p hm => by
  obtain ⟨x, u, e1, e2⟩ := g p hm
  exact ⟨⟨x, by rw [e1]; exact txt_is, e2⟩, by rw [e1] <;> rfl⟩
theorem txt_iff {p : Int × Value} (g : TxtE w p) (x : Str) : (strKind P w).is x p.2 = true ↔ txtOf p = x := by
  obtain ⟨y, u, e1, _⟩ := g
  unfold txtOf
  rw [e1]
  constructor
  · intro z
    exact ((strKind P w).inj (.str y u) x y z txt_is).symm
  · rintro rfl
    exact txt_is
theorem txt_mem {q : List (Int × Value)} (g : ∀ p ∈ q, TxtE w p) (x : Str) : x ∈ q.map txtOf ↔ ∃ p ∈ q, (strKind P w).is x p.2 = true := by
  rw [List.mem_map]
  exact ⟨fun ⟨p, h1, h2⟩ => ⟨p, h1, (txt_iff (g p h1) x).mpr h2⟩, fun ⟨p, h1, h2⟩ => ⟨p, h1, (txt_iff (g p h1) x).mp h2⟩⟩
theorem txt_stored {hp : Heap} {ob : Obj} {rows rows' : Array (Int × Value)} {ep : Nat} {tb tb' : SetTable} (q : hp.get? b = some ob) (d : ob.data = .set rows ep tb) :
    (hp.update b (Obj.putSet rows' tb')).get? b = some { ob with data := .set rows' (ep + 1) tb' } := by
  have z := Heap.get?_update_self (Obj.putSet rows' tb') q (by rw [putSet_of rows' tb' d]; rfl)
  rw [putSet_of rows' tb' d] at z
  exact z
theorem txt_tail {gv : Bool → Sem Unit} (hgv : ∀ (c : Bool) (s₁ : Shared) (Q' : Unit → Shared → Prop), Q' () s₁ → wpAny (model P w) A (gv c) Q' E s₁)
    {ob : Obj} {rows : Array (Int × Value)} {ep : Nat} {tb : SetTable} (q : s.heap.get? b = some ob) (x : ob.ExactSet) (d : ob.data = .set rows ep tb)
    {r1 : Array (Int × Value)} {t2 : SetTable} (g1 : ∀ p ∈ r1.toList, TxtE w p) (n1 : (r1.toList.map txtOf).Nodup) (m1 : ∀ y, y ∈ l ↔ y ∈ r1.toList.map txtOf)
    (b1 : r1.size < scanBound) (f2 : t2.fits r1.size = true) (s2 : Ris t2.place.toList) (o2 : w.params.followText "set-order" = true ∨ t2.led = true) {wd : Bool} {R : Option Bool → Shared → Prop}
    (hR : ∀ hp', Heap.SameBut b s.heap hp' → TxS w hp' b l r1.size → R (some true) { s with heap := hp' }) :
    wpAny (model P w) A (do
        storeSet b r1 t2
        if (!wd && t2.tooFull) = true then do
            gv (relayAll t2 r1 (SetTable.grown r1.size)).2.2
            storeSet b (relayAll t2 r1 (SetTable.grown r1.size)).1 (relayAll t2 r1 (SetTable.grown r1.size)).2.1
            pure (some true)
          else pure (some true)) R E s := by
  refine wpAny_bind (wpAny_storeSet_of q d ?_ (fits_of_scanBound b1))
  have q1 := txt_stored (rows' := r1) (tb' := t2) q d
  have u1 := Heap.SameBut.update s.heap b (Obj.putSet r1 t2)
  split
  · have pm := relayAll_perm t2 r1 (SetTable.grown r1.size)
    have f3 := relayAll_fits t2 r1 (SetTable.grown r1.size)
    have s3 := relayAll_ris t2 r1 (SetTable.grown r1.size)
    have o3 := relayAll_led t2 r1 (SetTable.grown r1.size)
    generalize relayAll t2 r1 (SetTable.grown r1.size) = Y at pm f3 s3 o3 ⊢
    obtain ⟨r2, t3, gave⟩ := Y
    dsimp only at pm f3 s3 o3 ⊢
    have z2 : r2.size = r1.size := by rw [← Array.length_toList, pm.length_eq, Array.length_toList]
    have b2 : r2.size < scanBound := by rw [z2]; exact b1
    refine wpAny_bind (hgv _ _ _ (wpAny_bind (wpAny_storeSet_of q1 rfl ?_ (fits_of_scanBound b2))))
    have q2 := txt_stored (rows' := r2) (tb' := t3) q1 rfl
    exact wpAny_pure (hR _ (u1.trans (Heap.SameBut.update _ b _)) ⟨_, r2, _, t3, q2, x, rfl, fun p hp => g1 p (pm.mem_iff.mp hp), (pm.map txtOf).nodup_iff.mpr n1, fun y => (m1 y).trans (pm.map txtOf).mem_iff.symm, b2, f3, z2, s3, o2.imp id fun z => by rw [o3]; exact z⟩)
  · exact wpAny_pure (hR _ u1 ⟨_, r1, _, t2, q1, x, rfl, g1, n1, m1, b1, f2, rfl, s2, o2⟩)
theorem txt_add {x : Str} {u : Tok} {Q : Bool → Shared → Prop} (R : TxS w s.heap b l m) (room : m + 1 < scanBound)
    (hQ : ∀ hp' m' c, Heap.SameBut b s.heap hp' → m' ≤ m + 1 → TxS w hp' b (l ++ [x]) m' → Q c { s with heap := hp' }) :
    wpAny (model P w) A (setAddHashed b (.str x u) (hashStr w x)) Q E s := by
  obtain ⟨ob, rows, ep, tb, q, ex, d, g, nd, hm, hb, hf, hn, hr, hl⟩ := R
  have key : (strKind P w).is x (.str x u) = true := txt_is
  have sc : (Value.str x u).scannable = true := rfl
  have el : ElemsOf (strKind P w) rows.toList := txt_elems g
  unfold setAddHashed setAddHashedIn
  refine wpAny_holding (wpAny_bind (wpAny_setState_of q d hf ?_))
  dsimp only
  rw [byScan_of sc hb el]
  simp only [↓reduceIte]
  unfold setAddByScan
  refine wpAny_bind (wpAny_bind (wpAny_rule (wpAny_bind (wpAny_setScan_of (knd := strKind P w) (k := x) key q d hf el ?_))))
  cases fi : List.findIdx? (fun e => (strKind P w).is x e.2) rows.toList with
  | some j =>
    dsimp only
    obtain ⟨lj, pj, _⟩ := List.findIdx?_eq_some_iff_getElem.mp fi
    have xm : x ∈ rows.toList.map txtOf := (txt_mem (P := P) g x).mpr ⟨rows.toList[j], List.getElem_mem lj, pj⟩
    refine wpAny_pure (wpAny_pure (hQ s.heap m _ (Heap.SameBut.refl b s.heap) (Nat.le_succ m) ⟨ob, rows, ep, tb, q, ex, d, g, nd, fun y => ?_, hb, hf, hn, hr, hl⟩))
    rw [List.mem_append, List.mem_singleton, hm y]
    exact ⟨fun z => z.elim id fun e => by rw [e]; exact xm, .inl⟩
  | none =>
    dsimp only
    have xn : x ∉ rows.toList.map txtOf := fun z => by
      obtain ⟨p, h1, h2⟩ := (txt_mem (P := P) g x).mp z
      have c := List.findIdx?_eq_none_iff.mp fi p h1
      rw [h2] at c
      cases c
    have gw : ∀ (c : Bool) {s₁ : Shared} {Q' : Unit → Shared → Prop}, Q' () s₁ → wpAny (model P w) A (match c with | true => rule "set.scan.the-table-gave-way" | false => pure ()) Q' E s₁ := fun c s₁ Q' z => by
      cases c
      · exact wpAny_pure z
      · exact wpAny_rule z
    have pm := layNew_perm tb rows (hashStr w x) (.str x u)
    have f1 := layNew_fits tb rows (hashStr w x) (.str x u)
    have s1 := layNew_ris tb rows (hashStr w x) (.str x u) hr
    have o1 := layNew_led tb rows (hashStr w x) (.str x u)
    generalize layNew tb rows (hashStr w x) (.str x u) = Y at pm f1 s1 o1 ⊢
    obtain ⟨r1, t1, wd, gave⟩ := Y
    dsimp only at pm f1 s1 o1 ⊢
    rw [Array.toList_push] at pm
    have pc : r1.toList.Perm ((hashStr w x, Value.str x u) :: rows.toList) := pm.trans (List.perm_append_singleton _ _)
    have pk : (r1.toList.map txtOf).Perm (x :: rows.toList.map txtOf) := pc.map txtOf
    have g1 : ∀ p ∈ r1.toList, TxtE w p := fun p hp => by
      rcases List.mem_cons.mp (pc.mem_iff.mp hp) with z | z
      · rw [z]; exact ⟨x, u, rfl, rfl⟩
      · exact g p z
    have n1 : (r1.toList.map txtOf).Nodup := pk.nodup_iff.mpr (List.nodup_cons.mpr ⟨xn, nd⟩)
    have m1 : ∀ y, y ∈ l ++ [x] ↔ y ∈ r1.toList.map txtOf := fun y => by
      rw [List.mem_append, List.mem_singleton, hm y, pk.mem_iff, List.mem_cons]
      exact Or.comm
    have z1 : r1.size = m + 1 := by rw [← Array.length_toList, pc.length_eq, List.length_cons, Array.length_toList, hn]
    have b1 : r1.size < scanBound := by rw [z1]; exact room
    have led : w.params.followText "set-order" = true ∨ t1.led = true := hl.imp id fun z => by rw [o1]; exact z
    have fin : ∀ hp', Heap.SameBut b s.heap hp' → TxS w hp' b (l ++ [x]) r1.size → Q true { s with heap := hp' } := fun hp' sb r => hQ hp' _ _ sb (Nat.le_of_eq z1) r
    refine wpAny_bind (gw _ ?_)
    split
    · refine wpAny_bind ?_
      rw [hashByValue_scannable 8 sc]
      refine wpAny_pure (txt_tail ?_ q ex d g1 n1 m1 b1 ?_ ?_ ?_ ?_)
      · intro c s₁ Q' z
        cases c
        · exact wpAny_pure z
        · exact wpAny_rule z
      · first
        | (split <;> first | exact f1 | exact SetTable.fits_plain_off f1)
        | exact f1
      · first
        | (split <;> exact s1)
        | exact s1
      · first
        | (split <;> exact led)
        | exact led
      · intro hp' sb r
        dsimp only
        exact wpAny_pure (fin hp' sb r)
    · refine wpAny_bind (wpAny_pure ?_)
      simp only [↓reduceIte]
      refine txt_tail ?_ q ex d g1 n1 m1 b1 f1 s1 led ?_
      · intro c s₁ Q' z
        cases c
        · exact wpAny_pure z
        · exact wpAny_rule z
      · intro hp' sb r
        dsimp only
        exact wpAny_pure (fin hp' sb r)
/-- an empty set -/
def e0 (w : World) : Obj := { cls := .type "set", dict := none, data := .set #[] 0 (.fresh 0 0 (!w.params.followText "set-order")) }
theorem txs_new {hp : Heap} (q : hp.get? b = some (e0 w)) : TxS w hp b [] 0 := by
  refine ⟨_, #[], 0, _, q, ⟨rfl, rfl, rfl⟩, rfl, (fun p hp => by simp at hp), (by simp), (fun x => by simp), (by decide), (by rfl), rfl, List.Pairwise.nil, ?_⟩
  show _ ∨ (!w.params.followText "set-order") = true
  cases w.params.followText "set-order"
  · exact .inr rfl
  · exact .inl rfl
theorem txt_loop {I : Addr} {fp wr : List Addr} {G : Array GenState → Array GenState → Prop} {n : Nat} {Pv : Nat → Value → Prop} {St : Nat → Shared → Prop} {R : Result → Shared → Prop}
    (W : WalksS P w A.in1 I fp wr G n Pv St) (S : Addr) (nS : S ∉ fp) (xs : List Str) (hn : n = xs.length) (hb : xs.length + 1 < scanBound) (hval : ∀ i v, Pv i v → ∃ x t, xs[i]? = some x ∧ v = .str x t) :
    ∀ (k i : Nat) (s : Shared), n - i = k → i ≤ n → St i s → (∃ c, c ≤ i ∧ TxS w s.heap S (xs.take i) c) →
      (∀ s' c, Moved (S :: wr) G s s' → c ≤ n → TxS w s'.heap S xs c → R (.ok (.ret .none)) s') →
      codeAny (model P w) A (.builtin "set.update.loop" ⟨[.ref S, .ref I], []⟩) R s := by
  have nSw : S ∉ wr := fun z => nS (W.sub _ z)
  have sub1 : ∀ c ∈ wr, c ∈ S :: wr := fun c z => List.mem_cons_of_mem _ z
  intro k
  induction k with
  | zero =>
    intro i s e1 e2 hst ⟨c, hc, hS⟩ hR
    obtain rfl : i = n := by omega
    refine codeAny_builtin F.entry_set_update_loop ?_
    rw [Around.under_plainId F.plain_set_update_loop _]
    show wpAny _ A.in1 (pyNext (.ref I) >>= _) _ _ s
    refine wpAny_bind (W.done s _ _ hst fun s' mv => ?_)
    show wpAny _ A.in1 (ret Value.none) _ _ s'
    have e : xs.take i = xs := List.take_of_length_le (by omega)
    rw [e] at hS
    exact wpAny_pure (hR s' c (mv.mono sub1) hc (hS.stay fun o e => mv.heap S o nSw e))
  | succ k ih =>
    intro i s e1 e2 hst ⟨c, hc, hS⟩ hR
    have lt1 : i < n := by omega
    refine codeAny_builtin F.entry_set_update_loop ?_
    rw [Around.under_plainId F.plain_set_update_loop _]
    show wpAny _ A.in1 (pyNext (.ref I) >>= _) _ _ s
    refine wpAny_bind (W.item i s _ _ lt1 hst fun v s' hP hst' mv => ?_)
    obtain ⟨z, t, hz, rfl⟩ := hval i v hP
    have hS' : TxS w s'.heap S (xs.take i) c := hS.stay fun o e => mv.heap S o nSw e
    show wpAny _ A.in1 (holding [Value.str z t] (setAdd S (.str z t)) >>= _) _ _ s'
    refine wpAny_bind (wpAny_holding ?_)
    unfold setAdd
    refine wpAny_holding (wpAny_bind ((strKind P w).pyHash (k := z) txt_is ?_))
    refine txt_add (s := { s' with toks := s'.toks + 1 }) hS' (by omega) fun h' m' cc sb le1 hS2 => ?_
    have hS3 : TxS w h' S (xs.take (i + 1)) m' := hS2.same fun j => by rw [List.take_add_one, hz]; rfl
    refine wpAny_pure ⟨plainId_quiet F.plain_set_update_loop _, ih (i + 1) _ (by omega) lt1 (W.frame _ s' _ _ hst' (Nat.le_succ _) fun d hd o e => ?_) ⟨_, by omega, hS3⟩ fun s'' c2 mv2 hc2 hS4 => ?_⟩
    · rw [sb.2 d (fun y : d = S => nS (by rw [← y]; exact hd))]
      exact e
    · refine hR s'' c2 (Moved.trans W.gtrans ((mv.mono sub1).then_heap (Nat.le_succ _) fun d o hd e => ?_) mv2) hc2 hS4
      rw [sb.2 d (fun y : d = S => hd (by rw [y]; exact List.mem_cons_self))]
      exact e
theorem str_at : ∀ {us : List Value} {xs : List Str}, StrsAre us xs → ∀ (i : Nat) (v : Value), us[i]? = some v → ∃ x t, xs[i]? = some x ∧ v = .str x t
  | _, _, .nil, i, v, h => by cases h
  | _, _, .cons x t r, 0, v, h => ⟨x, t, rfl, (Option.some.inj h).symm⟩
  | _, _, .cons x t r, i + 1, v, h => str_at r i v h
/-- set(arg), from what its __init__ does -/
theorem set_call {arg : Value} {Q : Value → Shared → Prop}
    (h : codeAny (model P w) A.in1 (.call (.builtin "set.__init__") ⟨[.ref s.heap.objs.size, arg], []⟩) (wants (fun r s₂ => r = .none ∧ Q (.ref s.heap.objs.size) s₂) E) { s with heap := s.heap.push (e0 w) }) :
    wpAny (model P w) A (call (.type "set") [arg]) Q E s := by
  obtain ⟨c, tl, hmro⟩ := F.called_set.mro
  have hmade := F.called_set.made
  have hsub := F.called_set.sub
  refine wpAny_call (codeAny_of_tree ?_)
  show wpAny _ _ (callAny (.type "set") _) _ _ _
  refine wpAny_pure ⟨Code.quiet_builtin _ (by decide +kernel), codeAny_builtin F.entry_type_call ?_⟩
  rw [Around.under_plain (weight_type_call_type "set" [arg] []) rfl]
  have h1 := F.called_set.notType
  have h2 := F.called_set.canCreate
  have hct := F.typeCall_set_1 arg
  repeat (any_goals (first | assumption | wp_step))
  refine codeAny_mono (code_set_led1 arg (E := E) (Q₁ := fun ob s₁ => ob = .ref s.heap.objs.size ∧ s₁ = { s with heap := s.heap.push (e0 w) }) ⟨rfl, rfl⟩) fun r s₁ hr => ?_
  cases r with
  | error e => exact hr
  | ok fl =>
    cases fl with
    | ret ob =>
      obtain ⟨rfl, rfl⟩ := hr
      have hS : (s.heap.push (e0 w)).get? s.heap.objs.size = some (e0 w) := Heap.get?_push_size _ rfl
      have hT : Shared.TypeIs { s with heap := s.heap.push (e0 w) } (.ref s.heap.objs.size) "set" := ⟨_, hS, rfl⟩
      have hli := F.called_set.init.lookup
      have hbi := F.called_set.init.bind (.ref s.heap.objs.size)
      repeat (any_goals (first | assumption | wp_step))
      refine codeAny_mono h fun r₂ s₂ hr₂ => ?_
      cases r₂ with
      | error e => exact hr₂
      | ok fl₂ =>
        cases fl₂ with
        | ret r =>
          obtain ⟨rfl, hq⟩ := hr₂
          repeat (any_goals (first | assumption | wp_step))
        | _ => exact hr₂.elim
    | _ => exact hr.elim
theorem set_list {l : Addr} {its : Array Value} (xs : List Str) {Q : Value → Shared → Prop} (hh : A.handled = none) (hl : s.heap.IsList l its) (hit : StrsAre its.toList xs) (hb : xs.length + 1 < scanBound)
    (h : ∀ (h' : Heap) (tk c : Nat), TxS w h' s.heap.objs.size xs c → c ≤ xs.length → (∀ b o, s.heap.get? b = some o → h'.get? b = some o) → Q (.ref s.heap.objs.size) { s with heap := h', toks := tk }) :
    wpAny (model P w) A (call (.type "set") [.ref l]) Q E s := by
  have hz0 : its.size = xs.length := by
    have y := StrsAre.length hit
    rw [Array.length_toList] at y
    exact y
  have hS : (s.heap.push (e0 w)).get? s.heap.objs.size = some (e0 w) := Heap.get?_push_size _ rfl
  have hT : Shared.TypeIs { s with heap := s.heap.push (e0 w) } (.ref s.heap.objs.size) "set" := ⟨_, hS, rfl⟩
  refine set_call (codeAny_call_builtin F.called_set.init.plain F.entry_set_init (check_set_init_1 hT ?_))
  obtain ⟨ol, hol, hcl, nl, hdl⟩ := hl
  obtain ⟨ocls, odict, odata, oslots⟩ := ol
  simp only at hcl hdl
  subst hcl; subst hdl
  have hol' : (s.heap.push (e0 w)).get? l = some { cls := .type "list", dict := odict, data := .seq its nl, slots := oslots } := Heap.get?_push_of_some _ hol
  have hsls := F.sub_list_set
  have hslf := F.sub_list_frozenset
  have hne : (Value.type "list" == Value.type "dict") = false := by decide
  have hl1 : (s.heap.push (e0 w)).IsList l its := ⟨_, hol', rfl, nl, rfl⟩
  unfold Builtin.«set.__init__» noKeywords Builtin.Frozenset.updateFrom
  generalize hPI : pyIter = PI
  wp_walk
  subst hPI
  refine wpAny_pyIter_list hl1 (wpAny_bind (wpAny_runValue ?_))
  have l1 : l < s.heap.objs.size := Heap.lt_size hol
  have hh3 : A.in1.in1.in1.handled = none := by simp [hh]
  have z1 : (s.heap.push (e0 w)).objs.size = s.heap.objs.size + 1 := Heap.size_push ..
  have ne1 : l ≠ (s.heap.push (e0 w)).objs.size := by
    rw [z1]
    exact Nat.ne_of_lt (Nat.lt_succ_of_lt l1)
  have nf : s.heap.objs.size ∉ [(s.heap.push (e0 w)).objs.size, l] := by
    rw [z1]
    simp only [List.mem_cons, List.not_mem_nil, or_false, not_or]
    exact ⟨Nat.ne_of_lt (Nat.lt_succ_self _), Nat.ne_of_gt l1⟩
  have hval : ∀ (i : Nat) (v : Value), its[i]? = some v → ∃ x t, xs[i]? = some x ∧ v = .str x t := fun i v hv => str_at hit i v (by rw [Array.getElem?_toList]; exact hv)
  refine txt_loop ((Walks.list hh3 _ l ne1 its).toS) s.heap.objs.size nf xs hz0 hb hval (its.size - 0) 0 _ (by omega) (Nat.zero_le _) ⟨⟨_, Heap.get?_push_size _ rfl, rfl, rfl⟩, (hl1.push _)⟩ ?hS0 ?hR
  case hS0 => exact ⟨0, Nat.le_refl 0, txs_new (Heap.get?_push_of_some _ hS)⟩
  case hR =>
    intro s' c' mv hc' hS'
    obtain ⟨h', g2, d', tk', os'⟩ := s'
    have eg : g2 = s.gens := mv.gens
    have ed : d' = s.drawn := mv.drawn
    have eo : os' = s.os := mv.os
    subst eg; subst ed; subst eo
    show wpAny _ _ _ _ _ _
    refine wpAny_pure ?_
    show wpAny _ _ (ret Value.none) _ _ _
    rw [hz0] at hc'
    refine wpAny_pure ⟨rfl, h h' tk' c' hS' hc' fun b o e => ?_⟩
    have lb : b < s.heap.objs.size := Heap.lt_size e
    refine mv.heap b o ?_ (Heap.get?_push_of_some _ (Heap.get?_push_of_some _ e))
    rw [z1]
    simp only [List.mem_cons, List.not_mem_nil, or_false, not_or]
    exact ⟨Nat.ne_of_lt lb, Nat.ne_of_lt (Nat.lt_succ_of_lt lb)⟩
end
end DL
set_option maxHeartbeats 4000000
/-! The data layer, part t: sorted(set(..)), len(set(..)) of texts; enumerate; index. -/
namespace DL
open PySem PySem.Spec PyProof.Rows L2

/-! ### no double -/
theorem nodup_ed : ∀ (n : Nat) (l : List Str), l.length ≤ n → l.eraseDups.Nodup
  | 0, [], _ => by simp
  | _ + 1, [], _ => by simp
  | n + 1, x :: r, h => by
    rw [List.eraseDups_cons]
    refine List.nodup_cons.mpr ⟨fun z => ?_, nodup_ed n _ (Nat.le_trans (List.length_filter_le _ _) (Nat.le_of_succ_le_succ h))⟩
    rw [List.mem_eraseDups, List.mem_filter] at z
    simp at z
/-- the sorted members -/
def setS (xs : List Str) : List Str := sortS xs.eraseDups
section
variable {X : Cx} {cl : Cl} {E : XK}
end
end DL
set_option maxHeartbeats 4000000
/-! The data layer, part u: enumerate. -/
namespace DL
open PySem PySem.Spec PyProof.Rows L2

end DL
set_option maxHeartbeats 4000000
/-! The data layer, part v: defs that raise, defs with lambdas, the head with tables. -/
namespace DL
open PySem PySem.Spec PyProof.Rows L2

/-! ### own exception classes, by a Bool -/
/-- own classes, then tl -/
def refsT (tl : List Value) : List Value → Bool
  | .ref _ :: r => refsT tl r
  | l => l == tl
theorem refsT_cases (tl l : List Value) (h : refsT tl l = true) : (∃ c r, l = .ref c :: r ∧ refsT tl r = true) ∨ l = tl := by
  unfold refsT at h
  split at h
  · exact .inl ⟨_, _, rfl, h⟩
  · exact .inr (beq_iff_eq.mp h)
theorem refsT_pass {tl : List Value} (hp : ∀ self : Value, refuseLoop self "__setattr__" tl = pure ()) (self : Value) : ∀ l : List Value, refsT tl l = true → refuseLoop self "__setattr__" l = pure ()
  | [], h => by
    rcases refsT_cases tl [] h with ⟨c, r, e, _⟩ | e
    · cases e
    · rw [e]; exact hp self
  | a :: r, h => by
    rcases refsT_cases tl (a :: r) h with ⟨c, r', e, h'⟩ | e
    · cases e
      rw [refuseLoop_ref]
      exact refsT_pass hp self r h'
    · rw [e]; exact hp self
theorem refsT_has {tl : List Value} (X : String) : ∀ l : List Value, refsT tl l = true → l.contains (.type X) = tl.contains (.type X)
  | [], h => by
    rcases refsT_cases tl [] h with ⟨c, r, e, _⟩ | e
    · cases e
    · rw [e]
  | a :: r, h => by
    rcases refsT_cases tl (a :: r) h with ⟨c, r', e, h'⟩ | e
    · cases e
      rw [List.contains_cons, refsT_has X r h']
      rfl
    · rw [e]
abbrev tlV : List Value := [.type "ValueError", .type "Exception", .type "BaseException", .type "object"]
abbrev tlL : List Value := [.type "LookupError", .type "Exception", .type "BaseException", .type "object"]
abbrev tlI : List Value := [.type "IndexError", .type "LookupError", .type "Exception", .type "BaseException", .type "object"]
def oexB (K : PySem.W.Frag) (C : Addr) : Bool := (match K.lookup C with
  | some ⟨.type t, _, .cls cd, sl⟩ => decide (t = "type") && (match cd.mro, sl.toList with
    | .ref C' :: bm, [_, _, _, _, some (.builtin n), _] => decide (C' = C) && (!cd.hasDel && (cd.hasDict && ((decide (n = "ValueError.__new__") && refsT tlV bm) || ((decide (n = "LookupError.__new__") && refsT tlL bm) || (decide (n = "IndexError.__new__") && refsT tlI bm)))))
    | _, _ => false)
  | _ => false) && (He.eqO (PySem.W.findIn K (.ref C) "__setattr__") (some (some (.builtin "object.__setattr__"))) && (decide (PySem.W.subIn K (.ref C) (.type "BaseException") = some true) && (decide (PySem.W.typeIn K (.ref C) = some (.type "type")) && PySem.W.keepIn K (.ref C))))
theorem oexB_ok {K : PySem.W.Frag} {C : Addr} (h : oexB K C = true) : OexG K C := by
  unfold oexB at h
  obtain ⟨h1, h2⟩ := He.ba h
  obtain ⟨h2, h3⟩ := He.ba h2
  obtain ⟨h3, h4⟩ := He.ba h3
  obtain ⟨h4, h5⟩ := He.ba h4
  refine ⟨?_, He.eqO_ok h2, of_decide_eq_true h3, of_decide_eq_true h4, h5⟩
  split at h1
  · rename_i t dd cd sl ho
    obtain ⟨a1, a2⟩ := He.ba h1
    have et : t = "type" := of_decide_eq_true a1
    subst et
    split at a2
    · rename_i C' bm k0 k1 k2 k3 n k5 hm hs
      obtain ⟨b1, c2⟩ := He.ba a2
      obtain ⟨b3, c4⟩ := He.ba c2
      obtain ⟨b4, b5⟩ := He.ba c4
      have e1 := of_decide_eq_true b1
      clear h1 a2 c2 c4
      subst e1
      obtain ⟨nm, bs, mro, ns, qn, hd, sn, sub, ab, col, del⟩ := cd
      dsimp only at hm b3 b4
      have e3 : del = false := by
        cases del
        · rfl
        · cases b3
      subst hm e3 b4
      have hsl : sl = #[k0, k1, k2, k3, some (.builtin n), k5] := by
        obtain ⟨l⟩ := sl
        simp only at hs
        rw [hs]
      subst hsl
      have fin : ∀ {B nI iI : String} {tl : List Value}, ExcBaseFacts B nI iI tl → (∀ self : Value, refuseLoop self "__setattr__" tl = pure ()) → tl.contains (.type "object") = true → n = nI → refsT tl bm = true → ∃ nm q N bs bm sn sub ab col dd k0 k1 k2 k3 k5 B newId initId bmB, K.lookup C' = some (excClassObj nm q C' N bs bm true sn sub ab col dd k0 k1 k2 k3 k5 newId) ∧ ExcBaseFacts B newId initId bmB ∧ (∀ X : String, bm.contains (.type X) = bmB.contains (.type X)) ∧ (Value.ref C' :: bm).contains (.type "object") = true ∧ ∀ self : Value, refuseLoop self "__setattr__" (.ref C' :: bm) = pure () := by
        intro B nI iI tl FB hp hob en hr
        subst en
        refine ⟨nm, qn, ns, bs, bm, sn, sub, ab, col, dd, k0, k1, k2, k3, k5, B, _, iI, tl, ho, FB, fun X => refsT_has X bm hr, ?_, fun self => ?_⟩
        · rw [List.contains_cons, refsT_has "object" bm hr, hob, Bool.or_true]
        · rw [refuseLoop_ref]
          exact refsT_pass hp self bm hr
      rcases Bool.or_eq_true_iff.mp b5 with b5 | b5
      · obtain ⟨x1, x2⟩ := He.ba b5
        exact fin F.excBase_ValueError F.store_ValueError.passes (by decide +kernel) (of_decide_eq_true x1) x2
      · rcases Bool.or_eq_true_iff.mp b5 with b5 | b5
        · obtain ⟨x1, x2⟩ := He.ba b5
          exact fin F.excBase_LookupError F.store_LookupError.passes (by decide +kernel) (of_decide_eq_true x1) x2
        · obtain ⟨x1, x2⟩ := He.ba b5
          exact fin F.excBase_IndexError F.store_IndexError.passes (by decide +kernel) (of_decide_eq_true x1) x2
    · cases a2
  · cases h1
/-- the class x, its __init__ -/
def iniB (K : PySem.W.Frag) (x : Str) (fs : List Str) : Bool := oexB K (He.ga K x) && (He.eqO (PySem.W.findIn K (.ref (He.ga K x)) "__init__") (some (some (.ref (He.ma K (He.ga K x) "__init__")))) && (decide (PySem.W.typeIn K (.ref (He.ma K (He.ga K x) "__init__")) = some (.type "function")) && fs.all fun f => He.eqO (PySem.W.findIn K (.ref (He.ga K x)) f) (some none)))
structure IniC (K : PySem.W.Frag) (C fI : Addr) (fs : List Str) : Prop where
  o : OexG K C
  i : PySem.W.findIn K (.ref C) "__init__" = some (some (.ref fI))
  t : PySem.W.typeIn K (.ref fI) = some (.type "function")
  n : ∀ f ∈ fs, PySem.W.findIn K (.ref C) f = some none
theorem iniB_ok {K : PySem.W.Frag} {x : Str} {fs : List Str} (h : iniB K x fs = true) : IniC K (He.ga K x) (He.ma K (He.ga K x) "__init__") fs := by
  obtain ⟨h1, h2⟩ := He.ba h
  obtain ⟨h2, h3⟩ := He.ba h2
  obtain ⟨h3, h4⟩ := He.ba h3
  exact ⟨oexB_ok h1, He.eqO_ok h2, of_decide_eq_true h3, fun f hf => He.eqO_ok (List.all_eq_true.mp h4 f hf)⟩
/-- the numbers of the classes that are known -/
def okC (l : List Nat) (c : Nat) : Bool := l.contains c
/-- the attributes of the exceptions of the classes xs -/
def xatB (K : PySem.W.Frag) (xs : List Str) (fs : List Str) : Bool := xs.all fun x => xfB K (He.ga K x) && fs.all fun f => He.eqO (PySem.W.findIn K (.ref (He.ga K x)) f) (some none)
theorem xatB_ok {K : PySem.W.Frag} {cl : Cl} {xs : List Str} {fs : List Str} {l : List Nat} (h : xatB K xs fs = true) (hl : ∀ c, okC l c = true → ∃ x ∈ xs, cl.c c = He.ga K x) : XAt K cl (okC l) fs := by
  refine ⟨fun c hc => ?_, fun c hc f hf => ?_⟩
  · obtain ⟨x, hx, e⟩ := hl c hc
    show XfC K (cl.c c)
    rw [e]
    exact xfB_ok (He.ba (List.all_eq_true.mp h x hx)).1
  · obtain ⟨x, hx, e⟩ := hl c hc
    show PySem.W.findIn K (.ref (cl.c c)) f = some none
    rw [e]
    exact He.eqO_ok (List.all_eq_true.mp (He.ba (List.all_eq_true.mp h x hx)).2 f hf)
theorem xat_cl {K : PySem.W.Frag} {cl cl' : Cl} {ok : Nat → Bool} {fs : List Str} (h : cl'.c = cl.c) (x : XAt K cl ok fs) : XAt K cl' ok fs := by
  refine ⟨fun c hc => ?_, fun c hc f hf => ?_⟩
  · show XfC K (cl'.c c)
    rw [h]
    exact x.c c hc
  · show PySem.W.findIn K (.ref (cl'.c c)) f = some none
    rw [h]
    exact x.no c hc f hf
theorem uniq_of {l : List (Addr × Str)} {P : Addr} {q : Str} (hn : (l.map (·.1)).Nodup) (h : (P, q) ∈ l) : ∀ p ∈ l, p.1 = P → p.2 = q := by
  induction l with
  | nil => cases h
  | cons z r ih =>
    intro p hp e
    rw [List.map_cons, List.nodup_cons] at hn
    rcases List.mem_cons.mp h with h | h
    · rcases List.mem_cons.mp hp with hp | hp
      · rw [hp, ← h]
      · exact absurd (List.mem_map.mpr ⟨p, hp, by rw [e, ← h]⟩) hn.1
    · rcases List.mem_cons.mp hp with hp | hp
      · exact absurd (List.mem_map.mpr ⟨(P, q), h, by rw [← e, hp]⟩) hn.1
      · exact ih hn.2 h p hp e
/-- caught -/
def catB (K : PySem.W.Frag) (xs ys : List Str) : Bool := xs.all fun x => decide (PySem.W.exmAny K (.ref (He.ga K x)) (ys.map fun y => .ref (He.ga K y)) = some true)
theorem catB_ok {K : PySem.W.Frag} {cl : Cl} {xs ys : List Str} {l : List Nat} (h : catB K xs ys = true) (hl : ∀ c, okC l c = true → ∃ x ∈ xs, cl.c c = He.ga K x) : ∀ c, okC l c = true → PySem.W.exmAny K (.ref (cl c)) (ys.map fun y => .ref (He.ga K y)) = some true := fun c hc => by
  obtain ⟨x, hx, e⟩ := hl c hc
  show PySem.W.exmAny K (.ref (cl.c c)) _ = some true
  rw [e]
  exact of_decide_eq_true (List.all_eq_true.mp h x hx)
/-! ### defs that raise -/
section
variable {P : Program} {w : World} {K : PySem.W.Frag} {mg : Str → Option Value} {base : Heap} {cl : Cl} {x qual : Str} {params : Arguments} {body : List Stmt} {scope : Scope} {f : Addr} {fd : FuncData} {N ps : List Str} {k : Nat}
theorem fn_E (sem : List D → S → R D) (fb : Ev → S → RS) (F : FunD K x qual params body scope [] [] f fd) (Sc : FnScope N ps scope)
    (hb : ∀ (cdv : Value) (A : Around) (outer : List Env) (s : Shared) (H : Hp) (E : XK) (W0 : Wd), Room k (A.deeper (envOfC qual scope s.heap.objs.size f cdv)) → DSs (cxOf (L2.CX P w) P w K mg base N qual scope f cdv A outer s H E) cl E W0 H body fb) (hs : sem = semOf ps.length N.length fb) (h0 : cl.f = false) :
    FnOk P w K mg base (L2.CX P w) (k + 1) f fd ps (spG K cl sem) := by
  subst hs
  refine fn_D (semOf ps.length N.length fb) fb F Sc (fun ds st h => ?_) hb (fun ds st h => ?_) h0
  · unfold semOf at h
    split at h
    · assumption
    · exact absurd rfl h
  · unfold semOf at h ⊢
    split at h
    · rename_i e
      rw [if_pos e]
      rfl
    · exact absurd rfl h
structure FnE (P : Program) (w : World) (K : PySem.W.Frag) (mg : Str → Option Value) (base : Heap) (cl : Cl) (k : Nat) (x : Str) (st : Stmt) (ps : List Str) (sem : List D → S → R D) (f : Addr) (fd : FuncData) : Prop where
  F : FunD K x x (defArgs st) (defBody st) (defScope st) [] [] f fd
  G : FnOk P w K mg base (L2.CX P w) k f fd ps (spG K cl sem)
  m : mg x = some (.ref f)
  b : Binds K fd ps []
/-- what the context takes -/
theorem passE {X : Cx} {E : XK} (tk : Takes X (fun cls d _ H => E cls d H)) : Passes (L2.CX X.prog X.w) X E := passes_call tk fun _ _ _ _ h => h
/-! ### defs with lambdas -/
theorem fn_TE {at_ : He.Defn} (sem : List D → S → R D) (fb : Ev → S → RS) (F : FunD K x qual params body scope [] [] f fd) (hf : He.fAd K at_ = f) (Sc : FnScope N ps scope)
    (hb : ∀ (A : Around) (outer : List Env) (s : Shared) (H : Hp) (E : XK) (W0 : Wd), Room k (A.deeper (envOfC qual scope s.heap.objs.size f (.ref (He.codeOf K at_)))) → DSs (cxOf (L2.CX P w) P w K mg base N qual scope f (.ref (He.codeOf K at_)) A outer s H E) cl E W0 H body fb) (hs : sem = semOf ps.length N.length fb) (h0 : cl.f = false) :
    FnOk P w K mg base (L2.CX P w) (k + 1) f fd ps (spG K cl sem) := by
  subst hs
  obtain ⟨oc, od, dV, kV, doc, pmv, an, cdv, ct, osl, rfl, lk, hcd, hD, hK⟩ := id F.ex
  obtain ⟨c, rfl⟩ := He.codeIn_ref hcd
  have ec : He.codeOf K at_ = c := by
    subst hf
    exact He.codeOf_eq lk rfl
  refine fn_of lk hcd Sc (fun vs H Q E h => ?_) fun A outer s H vs Q E hr h => ?_
  · obtain ⟨W, st, ds, s, r, h⟩ := h
    rw [r.length]
    unfold semOf at h
    split at h
    · assumption
    · exact h.elim
  · obtain ⟨W, st, ds, s0, r, h⟩ := h
    have hd := hb A outer s H E W (by rw [ec]; exact hr)
    rw [ec] at hd
    refine ⟨_, hd, W, startE N ds, st, ⟨.refl, .refl, s0, satL_start r, fun i es p q => ?_, fun i o p q => ?_⟩, ?_⟩
    · exact absurd q (by
        intro q
        obtain ⟨p', us, h1, h2, h3, _⟩ := (satL_start (K := K) (cl := cl) (N := N) (H := fun _ => none) r).own i es q
        cases h2)
    · exact absurd q (by
        intro q
        obtain ⟨_, p', _, h1, _⟩ := (satL_start (K := K) (cl := cl) (N := N) (H := fun _ => none) r).hd i o q
        obtain ⟨u, e, _⟩ := h1.there
        cases e)
    · unfold semOf at h
      split at h
      · rename_i e
        have h' : Aft K cl E (Rp K cl) W H (retOf (fb (startE N ds) st)) Q := h
        cases q : fb (startE N ds) st with
        | stuck => rw [q] at h'; exact h'
        | brk ρ st' => rw [q] at h'; exact (show False from h').elim
        | ct ρ st' => rw [q] at h'; exact (show False from h').elim
        | ret d st' => rw [q] at h'; exact ⟨fun z => (by rw [h0] at z; cases z), fun v H' W' g k s r => h' v H' W' g k s (r.1 h0)⟩
        | ex y st' => rw [q] at h'; exact h'
        | nx ρ st' => rw [q] at h'; exact fun σ' H' W' _ F' => h' .non H' W' F'.g F'.k F'.s .non
      · exact h.elim
end
/-- a def that is handed the exception -/
def semX (m : Nat) (fb : Ev → S → RS) : Exn → S → R D := fun x st => retOf (fb (.exn x :: List.replicate (m - 1) .no) st)
structure FnH1 (P : Program) (w : World) (K : PySem.W.Frag) (mg : Str → Option Value) (base : Heap) (cl : Cl) (k : Nat) (x a : Str) (st : Stmt) (sem : Exn → S → R D) (f : Addr) (fd : FuncData) : Prop where
  F : FunD K x x (defArgs st) (defBody st) (defScope st) [] [] f fd
  G : FnX P w K mg base cl k f fd a sem
  m : mg x = some (.ref f)
  b : Binds K fd [a] []
theorem u64H {k : Nat} {A : Around} (hr : L2H.RoomH k A) : A.units + 64 < cLine := by have := hr.un; omega
theorem u65H {k : Nat} {A : Around} (hr : L2H.RoomH k A) : A.units + 65 < cLine := by have := hr.un; omega
/-- the room in the suite of the def that tries -/
theorem room_suite {k : Nat} {A : Around} {env : Env} {v : Option Value} (hr : Room (k + 2) A) : L2H.RoomH k ((A.deeper env).mark v) := by
  have h1 := hr.dp
  have h2 := hr.un
  refine ⟨?_, ?_⟩
  · show A.depth + 1 + 3 * k + 5 < _
    omega
  · show A.units + 3 + 16 * k + 200 < _
    omega
end DL
set_option maxHeartbeats 4000000
/-! The data layer, part w: index. -/
namespace DL
open PySem PySem.Spec PyProof.Rows L2
theorem PEor {X : Cx} {e : Expr} {t t' : TE} (h : PE X e t) (h' : PE X e t') : PE X e fun σ H Q => t σ H Q ∨ t' σ H Q := ⟨fun pins s σ H Q I q => q.elim (h.run pins s σ H Q I) (h'.run pins s σ H Q I)⟩
/-- x.index(y), flat items -/
def idxL (ds : List D) (dy : D) (st : S) : R D := if flatD dy && ds.all flatD then (match ds.findIdx? fun z => eqd z dy with
  | some j => .ok (.int (j : Nat)) st
  | none => .stuck) else .stuck
def idxT (ds : List D) (dy : D) (st : S) : R D := match strsOf ds, dy with
  | some ys, .str z => (match ys.findIdx? fun y => decide (y = z) with
    | some j => .ok (.int (j : Nat)) st
    | none => .stuck)
  | _, _ => .stuck
def dIndex (fa fb : Ev → S → R D) : Ev → S → R D := fun ρ st => (fa ρ st).bind fun x st => match view x st with
  | .lst ds => (fb ρ st).bind fun y st => (match view x st with
    | .lst ds => idxL ds y st
    | _ => .stuck)
  | .tup ds => (fb ρ st).bind fun y st => idxT ds y st
  | _ => .stuck
section
variable {X : Cx} {cl : Cl} {E : XK} {fa fb : Ev → S → R D} {o e : Expr} {apos cpos : Pos}
theorem dv_index (ha : DO X cl E o fa) (hb : DV X cl E e fb) (h1 : attributeBase o "index" X.env (eval o X.env) = eval o X.env := by rfl)
    (h2 : ((((backTo cpos (starEach [e] X.env)).all fun x => !x.fst) && (backToKw cpos (keywordEach [] X.env)).all fun x => x.fst.isSome) && decide (([e].length + ([] : List Keyword).length + if ([] : List Keyword).isEmpty = true then 0 else 1) < 30)) = true := by rfl)
    (h3 : (apos.endLine == cpos.line) = true := by rfl) (h4 : starEach [e] X.env = (false, eval e X.env) :: starEach [] X.env := by rfl) (h5 : ((backTo cpos (starEach [] X.env)).any fun x => x.fst) = false := by rfl) :
    DV X cl E (.Call (.Attribute o "index" apos) [e] [] cpos) (dIndex fa fb) := by
  refine PEimp (PEor (pe_bm PySem.F.plainAttrs_list PySem.F.slot_list_index PySem.F.type_list_index mt_index ha (pa_cons hb pa_nil h4) h1 h2 h3 h4 h5) (pe_tm PySem.F.slot_tuple_index PySem.F.type_tuple_index mt_tup_index ha (pa_cons hb pa_nil h4) h1 h2 h3 h4 h5)) fun σ H Q h => ?_
  obtain ⟨W, ρ, st, s, l, h⟩ := h
  unfold dIndex at h
  cases q : fa ρ st with
  | stuck => rw [q] at h; exact (show False from h).elim
  | ex x st1 =>
    left
    refine ⟨W, ρ, st, s, l, ?_⟩
    rw [q] at h ⊢
    exact h
  | ok dx st1 =>
    rw [q, R.bind_ok] at h
    split at h
    · rename_i ds ev
      left
      refine ⟨W, ρ, st, s, l, ?_⟩
      rw [q]
      intro x H1 W1 g1 k1 s1 r1
      have hA := Aft.mono h g1 k1 s1
      have l1 := l.keep g1 k1
      obtain ⟨a, vs, rfl, ha1, ha2⟩ := lst_of s1 l1 r1 ev
      refine ⟨.inl ⟨rfl, vs, .inl (.inl ha1)⟩, W1, ρ, st1, s1, l1, (Aft.peel hA).imp (fun _ _ _ r => r) ?_⟩
      rintro y H2 ⟨dy, st2, W2, g2, k2, s2, r2, h2⟩
      split at h2
      · rename_i es ev2
        have l2 := l1.keep g2 k2
        obtain ⟨b, us, eb, hb1, hb2⟩ := lst_of s2 l2 (ORp.grow r1 g2) ev2
        cases eb
        unfold idxL at h2
        split at h2
        · rename_i hf
          rw [Bool.and_eq_true] at hf
          split at h2
          · rename_i j ej
            obtain ⟨hj, pj, hno⟩ := List.findIdx?_eq_some_iff_getElem.mp ej
            obtain ⟨z, hz1, hz2⟩ := hb2.get (List.getElem?_eq_getElem hj)
            have fl : ∀ d ∈ es, flatD d = true := fun d hd => List.all_eq_true.mp hf.2 d hd
            refine ⟨a, us, y, j, z, rfl, rfl, .inl (.inl hb1), rp_flatV r2 hf.1, all_flatV hb2 hf.2, hz1, ?_, fun m z' hm hz' => ?_, h2.now s2 (.int _)⟩
            · rw [eqV_eqd hz2 r2 (fl _ (List.getElem_mem hj)) hf.1]
              exact pj
            · obtain ⟨d', hd1, hd2⟩ := hb2.getV hz'
              have hm2 : m < es.length := (List.getElem?_eq_some_iff.mp hd1).1
              rw [eqV_eqd hd2 r2 (fl _ (List.mem_of_getElem? hd1)) hf.1]
              have e3 := (List.getElem?_eq_some_iff.mp hd1).2
              have := hno m hm
              rw [← e3]
              simpa using this
          · exact h2.elim
        · exact h2.elim
      · exact h2.elim
    · rename_i ds ev
      right
      refine ⟨W, ρ, st, s, l, ?_⟩
      rw [q]
      intro x H1 W1 g1 k1 s1 r1
      have hA := Aft.mono h g1 k1 s1
      have l1 := l.keep g1 k1
      obtain ⟨a, vs, rfl, ha1, ha2, ha3⟩ := tup_of s1 r1 ev
      refine ⟨?_, W1, ρ, st1, s1, l1, (Aft.peel hA).imp (fun _ _ _ r => r) ?_⟩
      · cases ha3 with
        | tup hf _ => exact ⟨a, _, rfl, same_tupG s1.ex hf⟩
      rintro y H2 ⟨dy, st2, W2, g2, k2, s2, r2, h2⟩
      unfold idxT at h2
      split at h2
      · rename_i ys z es
        cases r2
        split at h2
        · rename_i j ej
          obtain ⟨hj, pj, hno⟩ := List.findIdx?_eq_some_iff_getElem.mp ej
          have ea := ha3.grow g2
          cases ea with
          | tup hf hr =>
            rw [strsOf_eq es] at hr
            refine ⟨a, ys, z, j, rfl, rfl, by rw [← hr.strs]; exact same_sqt s2.ex hf.1, ?_, fun m hm hz => ?_, h2.now s2 (.int _)⟩
            · rw [List.getElem?_eq_getElem hj]
              exact congrArg some (of_decide_eq_true pj)
            · have hm2 : m < ys.length := (List.getElem?_eq_some_iff.mp hz).1
              have := hno m hm
              have e3 := (List.getElem?_eq_some_iff.mp hz).2
              simp [e3] at this
        · exact h2.elim
      · exact h2.elim
    · exact h.elim
end
end DL
set_option maxHeartbeats 4000000
/-! The data layer, part y: max, min, append to a list of the store. -/
namespace DL
open PySem PySem.Spec PyProof.Rows L2
def maxD : List D → S → R D
  | [a, b], st => (match view a st, view b st with
    | .int i, .int j => .ok (.int (if j > i then j else i)) st
    | _, _ => .stuck)
  | [a], st => (match view a st with
    | .lst ds => (match intsOf ds with
      | some ns => (match ns.max? with
        | some m => .ok (.int m) st
        | none => .stuck)
      | none => .stuck)
    | _ => .stuck)
  | _, _ => .stuck
def minD : List D → S → R D
  | [a, b], st => (match view a st, view b st with
    | .int i, .int j => .ok (.int (if j < i then j else i)) st
    | _, _ => .stuck)
  | [a], st => (match view a st with
    | .lst ds => (match intsOf ds with
      | some ns => (match ns.min? with
        | some m => .ok (.int m) st
        | none => .stuck)
      | none => .stuck)
    | _ => .stuck)
  | _, _ => .stuck
section
variable {X : Cx} {cl : Cl} {E : XK}
theorem cr_maxD (hc : X.calm = true) : CallR X (.builtin "max") (rL X.K cl E maxD) := by
  intro pins s σ H xs us Q I rv h
  obtain ⟨W, ρ, σ', st, ds, s0, l0, r, h⟩ := h
  unfold maxD at h
  split at h
  · rename_i a b
    cases r with
    | cons r1 r2 =>
      cases r2 with
      | cons r2 r3 =>
        cases r3
        split at h
        · rename_i i j e1 e2
          exact call_max2 hc pins s σ H _ us Q I rv ⟨i, j, by rw [int_of r1 e1, int_of r2 e2], h.now s0 (.int _)⟩
        · exact h.elim
  · rename_i a
    cases r with
    | cons r1 r2 =>
      cases r2
      split at h
      · rename_i es e
        obtain ⟨q, vs, rfl, h1, h2⟩ := lst_of s0 l0 r1 e
        split at h
        · rename_i ns en
          rw [intsOf_eq en] at h2
          split at h
          · rename_i m em
            have hm := List.max?_eq_some_iff.mp em
            refine cr_max hc pins s σ H _ us Q I rv ⟨q, ns, rfl, by rw [← h2.ints]; exact .inl (.inl h1), List.length_pos_of_mem hm.1, fun m' h3 h4 => ?_⟩
            obtain rfl : m' = m := Int.le_antisymm (hm.2 m' h3) (h4 m hm.1)
            exact h.now s0 (.int _)
          · exact h.elim
        · exact h.elim
      · exact h.elim
  · exact h.elim
end
end DL
set_option maxHeartbeats 1000000
/-! Dicts of the top with text keys: d[k], d.get(k, x). -/
namespace DL
open PySem PySem.Spec PyProof.Rows L2
/-- a dict of the top: its items -/
structure KdD (K : PySem.W.Frag) (w : World) (a : Addr) (kvs : List (Str × D)) : Prop where
  kd : ∃ es n, KDict K w a es n
  ns : ∀ z, ∃ r, PySem.W.nsIn K a z = some r ∧ (match kvs.lookup z with | some d => ∃ u v, r = some u ∧ RelV v u ∧ ∀ cl W, Rp K cl W v d | none => r = none)
section
variable {X : Cx} {cl : Cl} {E : XK} {fe fx : Ev → S → R D} {e f : Expr} {x : Str} {a : Addr} {kvs : List (Str × D)} {p pos apos cpos : Pos}
end
/-! ### list(x) that gives a list of the store -/
section
variable {X : Cx} {cl : Cl} {E : XK}
end
end DL
set_option maxHeartbeats 4000000
/-! The data layer, part B: own classes: made, attributes, methods. -/
namespace DL
open PySem PySem.Spec PyProof.Rows L2

section
variable {K : PySem.W.Frag} {cl : Cl} {E : XK} {W W' W0 : Wd} {ρ : Ev} {σ : L2.St} {st : S} {H H' H0 : Hp} {v : V} {d : D} {ds : List D} {vs us : List V}
theorem RpF.split : ∀ {vs : List (Str × V)} {fs : List (Str × D)}, RpF K cl W vs fs → ∃ us, vs = (fs.map (·.1)).zip us ∧ (fs.map (·.1)).length = us.length ∧ RpAll K cl W us (fs.map (·.2))
  | _, _, .nil => ⟨[], rfl, rfl, .nil⟩
  | _, _, .cons (x := x) (v := v) q r => by
    obtain ⟨us, h1, h2, h3⟩ := RpF.split r
    refine ⟨v :: us, ?_, ?_, .cons q h3⟩
    · rw [List.map_cons, List.zip_cons_cons, ← h1]
    · rw [List.map_cons, List.length_cons, List.length_cons, h2]
theorem RpF.join : ∀ {ns : List Str} {us : List V} {ds : List D}, ns.length = us.length → RpAll K cl W us ds → RpF K cl W (ns.zip us) (ns.zip ds)
  | [], _, _, _, _ => .nil
  | n :: ns, _, _, h, .nil => by cases h
  | n :: ns, _, _, h, .cons q r => .cons q (RpF.join (Nat.succ.inj h) r)
theorem RpF.none {f : Str} : ∀ {vs : List (Str × V)} {fs : List (Str × D)}, RpF K cl W vs fs → fs.lookup f = none → vs.lookup f = none
  | _, _, .nil, _ => rfl
  | _, _, .cons (x := x) q r, h => by
    rw [List.lookup_cons] at h ⊢
    split at h
    · cases h
    · exact RpF.none r h
theorem RpF.len : ∀ {vs : List (Str × V)} {fs : List (Str × D)}, RpF K cl W vs fs → vs.length = fs.length
  | _, _, .nil => rfl
  | _, _, .cons q r => congrArg Nat.succ r.len
/-- an attribute is stored -/
def setF (f : Str) (d : D) : List (Str × D) → List (Str × D)
  | [] => [(f, d)]
  | (g, x) :: r => if g = f then (g, d) :: r else (g, x) :: setF f d r
theorem RpF.set {f : Str} (q : Rp K cl W v d) : ∀ {vs : List (Str × V)} {fs : List (Str × D)}, RpF K cl W vs fs → RpF K cl W (L2.putF f v vs) (setF f d fs)
  | _, _, .nil => .cons q .nil
  | _, _, .cons (x := x) h r => by
    unfold L2.putF setF
    by_cases e : x = f
    · rw [if_pos e, if_pos e]; exact .cons q r
    · rw [if_neg e, if_neg e]; exact .cons h (RpF.set q r)

/-! ### attributes -/
end
section
variable {X : Cx} {cl : Cl} {E : XK} {fo fe : Ev → S → R D} {g gk : Ev → S → R (List D)} {o e : Expr} {es : List Expr} {f x m : Str} {pos p apos : Pos} {cs : List Nat}
end
/-! ### self.f = e where self is being made -/
section
variable {K : PySem.W.Frag} {cl : Cl} {E : XK} {W0 W : Wd} {H0 H : Hp} {ρ : Ev} {σ : L2.St} {st : S} {p : Addr} {o : HO} {i : Nat}
end
section
variable {X : Cx} {cl : Cl} {E : XK} {W0 : Wd} {H0 : Hp} {fe : Ev → S → R D} {e : Expr} {f x : Str} {pos p pos' : Pos}
end
/-! ### __init__ -/
/-- an __init__'s promise by a plain function -/
def spInit (K : PySem.W.Frag) (cl : Cl) (c : Nat) (F : List D → S → R D) : Sp := fun vs H Q E => ∃ (W : Wd) (st : S) (ds : List D) (x dx : Addr) (us : List V) (H1 : Hp), vs = .ref x :: us ∧ H1 x = none ∧ H1 dx = none ∧ dx ≠ x ∧
  H = upd (upd H1 dx (.own x)) x (.ins (cl c) dx []) ∧ SatS K cl W st H1 ∧ RpAll K cl W us ds ∧ Aft K cl E (fun W' b a => b = V.ref x ∧ Rp K cl W' b a) W H1 (F ds st) fun _ H' => Q .non H'
section
variable {P : Program} {w : World} {K : PySem.W.Frag} {mg : Str → Option Value} {base : Heap} {cl : Cl} {CX : CXT} {qual : Str} {params : Arguments} {body : List Stmt} {scope : Scope} {dvs : List V} {kws : List (Str × V)} {f : Addr} {fd : FuncData} {N ps : List Str} {k c : Nat}
theorem NT.own {x : Addr} : NT (.own x) := fun _ z => nomatch z
end
end DL
set_option maxHeartbeats 4000000
/-! The data layer, part C: own classes called, methods called. -/
namespace DL
open PySem PySem.Spec PyProof.Rows L2

/-! ### binding with defaults -/
section
variable {X : Cx} {cl : Cl} {E : XK} {CX : CXT} {k n c : Nat} {f fI : Addr} {fd : FuncData} {ps ks : List Str} {F : List D → S → R D} {g gk : Ev → S → R (List D)} {fo : Ev → S → R D} {e o : Expr} {es : List Expr} {kws : List Keyword} {pos p apos : Pos} {x m : Str} {dvs : List V} {ds : List Value} {dds : List D} {pm : List Nat}
/-! ### C(..) -/
/-! ### o.m(..) -/
abbrev MT := List (Nat × (List D → S → R D))
end
end DL
set_option maxHeartbeats 4000000
/-! The data layer, part D: dicts that are made and then only read. -/
namespace DL
open PySem PySem.Spec PyProof.Rows L2

/-! ### tables -/
inductive RpK (K : PySem.W.Frag) (cl : Cl) (W : Wd) : List (Key × V) → List (Key × D) → Prop
  | nil : RpK K cl W [] []
  | cons {x : Key} {v : V} {vs : List (Key × V)} {d : D} {ds : List (Key × D)} : Rp K cl W v d → RpK K cl W vs ds → RpK K cl W ((x, v) :: vs) ((x, d) :: ds)
/-- what stands at a key -/
def getK (kvs : List (Key × D)) (k : Key) : Option D := (kvs.find? fun p => decide (p.1 = k)).map (·.2)
/-- in its place, or at the end -/
def setK (kvs : List (Key × D)) (k : Key) (d : D) : List (Key × D) := if (kvs.any fun p => decide (p.1 = k)) = true then kvs.map (fun p => if p.1 = k then (p.1, d) else p) else kvs ++ [(k, d)]
section
variable {K : PySem.W.Frag} {cl : Cl} {E : XK} {W W' : Wd} {ρ : Ev} {σ : L2.St} {st : S} {H H' : Hp} {v : V} {d : D} {ds : List D}
theorem RpK.mono (hf : Same W.F W'.F) (ha : W.A <+: W'.A) : ∀ {vs : List (Key × V)} {kvs : List (Key × D)}, RpK K cl W vs kvs → RpK K cl W' vs kvs
  | _, _, .nil => .nil
  | _, _, .cons h r => .cons (h.mono hf ha) (r.mono hf ha)
theorem RpK.grow {vs : List (Key × V)} {kvs : List (Key × D)} (r : RpK K cl W vs kvs) (g : Grow W H W') : RpK K cl W' vs kvs := r.mono g.f g.a
theorem RpK.len : ∀ {vs : List (Key × V)} {kvs : List (Key × D)}, RpK K cl W vs kvs → vs.length = kvs.length
  | _, _, .nil => rfl
  | _, _, .cons _ r => congrArg Nat.succ r.len
theorem RpK.split : ∀ {vs : List (Key × V)} {kvs : List (Key × D)}, RpK K cl W vs kvs → ∃ us, vs = (kvs.map (·.1)).zip us ∧ (kvs.map (·.1)).length = us.length ∧ RpAll K cl W us (kvs.map (·.2))
  | _, _, .nil => ⟨[], rfl, rfl, .nil⟩
  | _, _, .cons (x := x) (v := v) q r => by
    obtain ⟨us, h1, h2, h3⟩ := RpK.split r
    refine ⟨v :: us, ?_, ?_, .cons q h3⟩
    · rw [List.map_cons, List.zip_cons_cons, ← h1]
    · rw [List.map_cons, List.length_cons, List.length_cons, h2]
theorem RpK.join : ∀ {ks : List Key} {us : List V} {ds : List D}, ks.length = us.length → RpAll K cl W us ds → RpK K cl W (ks.zip us) (ks.zip ds)
  | [], _, _, _, _ => .nil
  | n :: ks, _, _, h, .nil => by cases h
  | n :: ks, _, _, h, .cons q r => .cons q (RpK.join (Nat.succ.inj h) r)
theorem RpK.get (k : Key) : ∀ {vs : List (Key × V)} {kvs : List (Key × D)}, RpK K cl W vs kvs → (∃ v d, valV vs k = some v ∧ getK kvs k = some d ∧ Rp K cl W v d) ∨ (valV vs k = none ∧ getK kvs k = none)
  | _, _, .nil => .inr ⟨rfl, rfl⟩
  | _, _, .cons (x := x) q r => by
    unfold getK
    by_cases e : x = k
    · refine .inl ⟨_, _, valV_pos e, ?_, q⟩
      rw [List.find?_cons, decide_eq_true e]
      rfl
    · rw [valV_neg e, List.find?_cons, decide_eq_false e]
      exact RpK.get k r
theorem RpK.any (k : Key) : ∀ {vs : List (Key × V)} {kvs : List (Key × D)}, RpK K cl W vs kvs → (vs.any fun p => decide (p.1 = k)) = (kvs.any fun p => decide (p.1 = k))
  | _, _, .nil => rfl
  | _, _, .cons _ r => by rw [List.any_cons, List.any_cons, RpK.any k r]
theorem RpK.upd {k : Key} (q : Rp K cl W v d) : ∀ {vs : List (Key × V)} {kvs : List (Key × D)}, RpK K cl W vs kvs → RpK K cl W (vs.map fun kv => if kv.1 = k then (kv.1, v) else kv) (kvs.map fun p => if p.1 = k then (p.1, d) else p)
  | _, _, .nil => .nil
  | _, _, .cons (x := x) h r => by
    rw [List.map_cons, List.map_cons]
    by_cases e : x = k
    · rw [if_pos e, if_pos e]; exact .cons q (RpK.upd q r)
    · rw [if_neg e, if_neg e]; exact .cons h (RpK.upd q r)
theorem RpK.snoc {k : Key} (q : Rp K cl W v d) : ∀ {vs : List (Key × V)} {kvs : List (Key × D)}, RpK K cl W vs kvs → RpK K cl W (vs ++ [(k, v)]) (kvs ++ [(k, d)])
  | _, _, .nil => .cons q .nil
  | _, _, .cons h r => .cons h (RpK.snoc q r)
theorem RpK.put {vs : List (Key × V)} {kvs : List (Key × D)} (r : RpK K cl W vs kvs) (k : Key) (q : Rp K cl W v d) : RpK K cl W (putK vs k v) (setK kvs k d) := by
  unfold putK setK
  rw [r.any k]
  split
  · exact r.upd q
  · exact r.snoc q
end
/-! ### x in d, d[k], d.get(k, x) -/
section
variable {X : Cx} {cl : Cl} {E : XK} {fo fe fx : Ev → S → R D} {o e x : Expr} {pos apos cpos : Pos}
end
/-! ### {k: v for ..} -/
section
variable {K : PySem.W.Frag} {cl : Cl} {E : XK} {W : Wd} {ρ : Ev} {σ : L2.St} {st : S} {H : Hp}
end
section
variable {X : Cx} {cl : Cl} {E : XK} {t : Tg} {is : List Nat} {fi : Ev → S → R (List D)} {tt : Ev → S → R Bool} {tk tv : Ev → S → R D} {kx vx tg iter : Expr} {ifs : List Expr} {scope : Scope} {own : List (Str × Nat)} {pos : Pos}
end
end DL
set_option maxHeartbeats 4000000
/-! The data layer, part E: what a method, an __init__ keeps; defaults; code that is never reached. -/
namespace DL
open PySem PySem.Spec PyProof.Rows L2

/-- code that is never reached -/
def dStuck : Ev → S → R D := fun _ _ => .stuck
theorem u1 {k : Nat} {A : Around} (hr : Room k A) : A.units + 1 < cLine := by have := hr.un; omega
/-- a method -/
structure FnM (P : Program) (w : World) (K : PySem.W.Frag) (mg : Str → Option Value) (base : Heap) (cl : Cl) (CX : CXT) (k : Nat) (c : Nat) (x qual : Str) (st : Stmt) (ps : List Str) (sem : List D → S → R D) (f : Addr) (fd : FuncData) : Prop where
  F : FunD K x qual (defArgs st) (defBody st) (defScope st) [] [] f fd
  G : FnOk P w K mg base CX k f fd ps (spG K cl sem)
  C : Cls K (cl c)
  M : Meth K (cl c) x f
  b : Binds K fd ps []
/-- an __init__ -/
structure FnI (P : Program) (w : World) (K : PySem.W.Frag) (mg : Str → Option Value) (base : Heap) (cl : Cl) (CX : CXT) (k : Nat) (c : Nat) (x qual : Str) (st : Stmt) (ps : List Str) (dvs : List V) (sem : List D → S → R D) (f : Addr) (fd : FuncData) : Prop where
  F : FunD K "__init__" qual (defArgs st) (defBody st) (defScope st) dvs [] f fd
  G : FnOk P w K mg base CX k f fd ps (spInit K cl c sem)
  M : Mk K (cl c) f
  m : mg x = some (.ref (cl c))
section
variable {P : Program} {w : World} {K : PySem.W.Frag} {mg : Str → Option Value} {base : Heap} {cl : Cl} {qual : Str} {params : Arguments} {body : List Stmt} {scope : Scope} {dvs : List V} {kws : List (Str × V)} {f : Addr} {fd : FuncData} {N ps : List Str} {k c : Nat}
end
end DL
set_option maxHeartbeats 4000000
/-! The data layer, part F: the head's facts, read of those objects alone that the names reach. -/
namespace DL
open PySem PySem.Spec PyProof.Rows L2 He

/-- a def, its code, its defaults -/
def behind (g : Addr → Option Obj) (a : Addr) : List Addr := a :: (match g a with
  | some o => (match o.data with
    | .func fd => refV fd.code ++ (refV fd.defaults ++ (refV fd.defaults).flatMap fun t => match g t with
      | some u => (match u.data with
        | .seq its _ => its.toList.flatMap refV
        | _ => [])
      | none => [])
    | _ => [])
  | none => [])
/-- a class's names -/
def nsOf (g : Addr → Option Obj) (a : Addr) : List Addr := match g a with
  | some o => (match o.data with
    | .cls cd => [cd.ns]
    | _ => [])
  | none => []
/-- the objects behind the classes cs, the defs and things fs, the methods ms -/
def asN (cs fs : List Str) (ms : List (Str × Str)) (g : Addr → Option Obj) : List Addr :=
  let K0 := frG g [mainGlobals]
  let C := cs.map (ga K0)
  let B := mainGlobals :: (C ++ C.flatMap (nsOf g))
  let K1 := frG g B
  B ++ ((fs.map (ga K0)).flatMap (behind g) ++ (ms.map fun p => ma K1 (ga K0 p.1) p.2).flatMap (behind g))
section
variable (L : (Addr → Option Obj) → List Addr) (fa : List Fa) (fn : List DefD) (ts : List Tab) (tf : List Defn) (ex : PySem.W.Frag → Bool)
def obsZ (g : Addr → Option Obj) : AlX := let K := frT g (L g); (obsT fa fn ts K, ex K && tabsB g tf K)
theorem saysZ {w : World} {h : Heap} (e : obsZ L fa fn ts tf ex h.get? = valX fn ts w) : SaysX fa fn ts tf ex w h (frT h.get? (L h.get?)) := by
  generalize hK : frT h.get? (L h.get?) = K at e ⊢
  have ea : obsT fa fn ts K = valT fn ts w := by
    have z := congrArg Prod.fst e
    unfold obsZ at z
    rw [hK] at z
    exact z
  have eb : (ex K && tabsB h.get? tf K) = true := by
    have z := congrArg Prod.snd e
    unfold obsZ at z
    rw [hK] at z
    exact z
  have ec := Bool.and_eq_true_iff.mp eb
  have tb : ∀ p ∈ tf, PySem.W.codeHdIn K (cT K p).1 (cT K p).2 = true ∧ ∃ o, h.get? (cT K p).2 = some o ∧ emptyTab o = true := fun p hp => by
    have z := Bool.and_eq_true_iff.mp (List.all_eq_true.mp ec.2 p hp)
    refine ⟨z.1, ?_⟩
    have z2 := z.2
    split at z2
    · rename_i o q
      exact ⟨o, q, z2⟩
    · cases z2
  refine ⟨ea, ec.1, fun p hp => (tb p hp).1, fun p hp => ?_, fun p hp => ?_⟩
  · obtain ⟨_, o, q1, q2⟩ := tb p hp
    rw [← hK] at q1 ⊢
    exact frT_none q1 q2
  · obtain ⟨_, o, q1, q2⟩ := tb p hp
    rw [q1, emptyTab_eq q2]
def hookZ : PySem.W.Hook where
  α := AlX
  obs := fun s => obsZ L fa fn ts tf ex s.heap.get?
  val := fun w => valX fn ts w
  says := fun w h => ∃ K : PySem.W.Frag, K.In h ∧ SaysX fa fn ts tf ex w h K
  of := fun _ _ e => ⟨_, frT_in, saysZ L fa fn ts tf ex e⟩
  keeps := fun _ _ _ ⟨K, a, c⟩ k => ⟨K, PySem.W.Frag.In.keeps a k, ⟨c.t, c.more, c.hd, c.out, fun p hp => k _ _ (c.empty p hp)⟩⟩
end
end DL
set_option maxHeartbeats 4000000
/-! The data layer, part G: dicts of the top that hold defs, a def held by a local name, k in a dict of the top, *x in a display. -/
namespace DL
open PySem PySem.Spec PyProof.Rows L2

/-- a dict of the top that may hold defs -/
structure KdC (K : PySem.W.Frag) (w : World) (cl : Cl) (a : Addr) (kvs : List (Str × D)) : Prop where
  kd : ∃ es n, KDict K w a es n
  ns : ∀ z, ∃ r, PySem.W.nsIn K a z = some r ∧ (match kvs.lookup z with | some d => ∃ u v, r = some u ∧ RelV v u ∧ ∀ W, Rp K cl W v d | none => r = none)
theorem pass0 {X : Cx} : Passes (L2.CX X.prog X.w) X E0 := fun _ _ _ _ _ _ _ ⟨_, _, _, _, _, _, _, _, _, _, _, _, h⟩ => h.elim
section
variable {X : Cx} {cl : Cl} {E : XK} {fe fx : Ev → S → R D} {g : Ev → S → R (List D)} {e f : Expr} {es : List Expr} {x : Str} {a : Addr} {kvs : List (Str × D)} {p pos apos cpos : Pos} {k i : Nat} {tbl : List (Nat × (List D → S → R D))}
end
end DL
set_option maxHeartbeats 4000000
/-! The data layer, part H: lists that come fresh from a call, a sum, a comprehension: the frame's own. -/
namespace DL
open PySem PySem.Spec PyProof.Rows L2

/-! ### frames that return a datum, a list of their own -/
def Cl.pl (cl : Cl) : Cl := ⟨cl.c, cl.T, cl.x, cl.s, false⟩
def Cl.fs (cl : Cl) : Cl := ⟨cl.c, cl.T, cl.x, cl.s, true⟩
theorem pl_c (cl : Cl) : cl.c = cl.pl.c := rfl
theorem fs_c (cl : Cl) : cl.c = cl.fs.c := rfl
section
variable {K : PySem.W.Frag} {cl cl' : Cl} {E : XK} {W : Wd} {H : Hp}
theorem xrp_cl {x : Exn} {dx : Addr} (h : cl.c = cl'.c) (r : XRp K cl W H x dx) : XRp K cl' W H x dx := by
  obtain ⟨vs, r1, r2⟩ := r
  exact ⟨vs, r1, r2.cl h⟩
theorem aft_cl {r : R D} {Q : VK} (h : cl.c = cl'.c) (hT : cl.T = cl'.T) (a : Aft K cl E (Rp K cl) W H r Q) : Aft K cl' E (Rp K cl') W H r Q := by
  cases r with
  | stuck => exact a
  | ok d st => exact fun b H' W' g k s r => a b H' W' g k (s.cl h.symm hT.symm) (r.cl h.symm)
  | ex x st => exact fun dx H' W' g k s r => (show E (.ref (cl'.c x.c)) _ _ from h ▸ a dx H' W' g k (s.cl h.symm hT.symm) (xrp_cl h.symm r))
theorem spG_cl {F : List D → S → R D} (h : cl.c = cl'.c) (hT : cl.T = cl'.T) : spG K cl F = spG K cl' F := by
  funext vs H Q E
  exact propext ⟨fun ⟨W, st, ds, s, r, a⟩ => ⟨W, st, ds, s.cl h hT, r.cl h, aft_cl h hT a⟩, fun ⟨W, st, ds, s, r, a⟩ => ⟨W, st, ds, s.cl h.symm hT.symm, r.cl h.symm, aft_cl h.symm hT.symm a⟩⟩
end
section
variable {P : Program} {w : World} {K : PySem.W.Frag} {mg : Str → Option Value} {base : Heap} {cl : Cl} {x qual : Str} {params : Arguments} {body : List Stmt} {scope : Scope} {f : Addr} {fd : FuncData} {N ps : List Str} {k : Nat}
theorem fp_0 {dvs : List V} {kws : List (Str × V)} (sem : List D → S → R D) (fb : Ev → S → RS) (F : FunD K x qual params body scope dvs kws f fd) (Sc : FnScope N ps scope)
    (hb : ∀ (cdv : Value) (A : Around) (outer : List Env) (s : Shared) (H : Hp) (E : XK) (W0 : Wd), Room k (A.deeper (envOfC qual scope s.heap.objs.size f cdv)) → DSs (cxOf CX0 P w K mg base N qual scope f cdv A outer s H E).nox cl.pl E W0 H body fb) (hs : sem = semOf ps.length N.length fb) :
    FnOk P w K mg base CX0 (k + 1) f fd ps (spG K cl sem) := by
  rw [spG_cl (cl := cl) (cl' := cl.pl) rfl rfl]
  exact fn_0 sem fb F Sc hb hs rfl
theorem fp_E (sem : List D → S → R D) (fb : Ev → S → RS) (F : FunD K x qual params body scope [] [] f fd) (Sc : FnScope N ps scope)
    (hb : ∀ (cdv : Value) (A : Around) (outer : List Env) (s : Shared) (H : Hp) (E : XK) (W0 : Wd), Room k (A.deeper (envOfC qual scope s.heap.objs.size f cdv)) → DSs (cxOf (L2.CX P w) P w K mg base N qual scope f cdv A outer s H E) cl.pl E W0 H body fb) (hs : sem = semOf ps.length N.length fb) :
    FnOk P w K mg base (L2.CX P w) (k + 1) f fd ps (spG K cl sem) := by
  rw [spG_cl (cl := cl) (cl' := cl.pl) rfl rfl]
  exact fn_E sem fb F Sc hb hs rfl
theorem fp_TE {at_ : He.Defn} (sem : List D → S → R D) (fb : Ev → S → RS) (F : FunD K x qual params body scope [] [] f fd) (hf : He.fAd K at_ = f) (Sc : FnScope N ps scope)
    (hb : ∀ (A : Around) (outer : List Env) (s : Shared) (H : Hp) (E : XK) (W0 : Wd), Room k (A.deeper (envOfC qual scope s.heap.objs.size f (.ref (He.codeOf K at_)))) → DSs (cxOf (L2.CX P w) P w K mg base N qual scope f (.ref (He.codeOf K at_)) A outer s H E) cl.pl E W0 H body fb) (hs : sem = semOf ps.length N.length fb) :
    FnOk P w K mg base (L2.CX P w) (k + 1) f fd ps (spG K cl sem) := by
  rw [spG_cl (cl := cl) (cl' := cl.pl) rfl rfl]
  exact fn_TE sem fb F hf Sc hb hs rfl
end
theorem KdC.pl {K : PySem.W.Frag} {w : World} {cl : Cl} {a : Addr} {kvs : List (Str × D)} (h : KdC K w cl a kvs) : KdC K w cl.pl a kvs := ⟨h.kd, fun z => by
  obtain ⟨r, e, q⟩ := h.ns z
  refine ⟨r, e, ?_⟩
  cases el : kvs.lookup z with
  | none =>
    rw [el] at q
    exact q
  | some d =>
    rw [el] at q
    obtain ⟨u, v, e1, e2, e3⟩ := q
    exact ⟨u, v, e1, e2, fun W => (e3 W).cl (pl_c cl)⟩⟩
theorem KdC.fs {K : PySem.W.Frag} {w : World} {cl : Cl} {a : Addr} {kvs : List (Str × D)} (h : KdC K w cl a kvs) : KdC K w cl.fs a kvs := ⟨h.kd, fun z => by
  obtain ⟨r, e, q⟩ := h.ns z
  refine ⟨r, e, ?_⟩
  cases el : kvs.lookup z with
  | none =>
    rw [el] at q
    exact q
  | some d =>
    rw [el] at q
    obtain ⟨u, v, e1, e2, e3⟩ := q
    exact ⟨u, v, e1, e2, fun W => (e3 W).cl (fs_c cl)⟩⟩
/-! ### expressions that give a fresh list -/
section
variable (K : PySem.W.Frag) (cl : Cl) (E : XK)
def AftF (W : Wd) (H : Hp) (r : R D) (Q : V → Hp → Prop) : Prop := match r with
  | .stuck => False
  | .ok d st => (∃ ds, d = .lst ds) ∧ ∀ v H' W', Grow W H W' → Keep W.A H H' → SatS K cl W' st H' → Fr K cl H H' W' v d → Q v H'
  | .ex x st => ∀ dx H' W', Grow W H W' → Keep W.A H H' → SatS K cl W' st H' → XRp K cl W' H' x dx → E (.ref (cl x.c)) (some dx) H'
def spF (F : List D → S → R D) : Sp := fun vs H Q E => ∃ W st ds, SatS K cl W st H ∧ RpAll K cl W vs ds ∧ AftF K cl E W H (F ds st) Q
end
section
variable {K : PySem.W.Frag} {cl : Cl} {E : XK} {β γ : Type}
theorem Fr.back {W W1 W' : Wd} {H H1 H' : Hp} {st : S} {v : V} {d : D} (g : Grow W H W1) (k : Keep W.A H H1) (s : SatS K cl W1 st H1) (h : Fr K cl H1 H' W' v d) : Fr K cl H H' W' v d := by
  obtain ⟨p, vs, ds, h1, h2, h3, h4, h5, h6, h7⟩ := h
  exact ⟨p, vs, ds, h1, h2, h3, h4, h5, h6, back_none g k s h7⟩
theorem AftF.mono {W W1 : Wd} {H H1 : Hp} {st : S} {r : R D} {Q : V → Hp → Prop} (h : AftF K cl E W H r Q) (g : Grow W H W1) (k : Keep W.A H H1) (s : SatS K cl W1 st H1) : AftF K cl E W1 H1 r Q := by
  cases r with
  | stuck => exact h
  | ok a st2 => exact ⟨h.1, fun b H' W' g' k' s' rp => h.2 b H' W' (g.trans k s g') (k.trans g k') s' (rp.back g k s)⟩
  | ex x st2 => exact fun dx H' W' g' k' s' rp => h dx H' W' (g.trans k s g') (k.trans g k') s' rp
theorem AftF.peel {RP' : Wd → β → γ → Prop} {W : Wd} {H : Hp} {r : R γ} {k : γ → S → R D} {Q : V → Hp → Prop} (h : AftF K cl E W H (r.bind k) Q) :
    Aft K cl E RP' W H r fun b H' => ∃ c st W', Grow W H W' ∧ Keep W.A H H' ∧ SatS K cl W' st H' ∧ RP' W' b c ∧ AftF K cl E W' H' (k c st) Q := by
  cases r with
  | stuck => exact h
  | ok c st => exact fun b H' W' g kk s rp => ⟨c, st, W', g, kk, s, rp, AftF.mono (show AftF K cl E W H (k c st) Q from h) g kk s⟩
  | ex x st => exact h
theorem AftF.newL {W : Wd} {H : Hp} {ds : List D} {st : S} {vs : List V} {p : Addr} {Q : V → Hp → Prop} (h : AftF K cl E W H (.ok (.lst ds) st) Q) (s : SatS K cl W st H) (r : RpAll K cl W vs ds) (hn : H p = none) : Q (.ref p) (upd H p (.lst vs)) := by
  have hF : W.F p = none := by
    cases q : W.F p with
    | none => rfl
    | some u =>
      have := s.ex p u q
      rw [hn] at this; cases this
  have hA : p ∉ W.A := fun m => s.ne m (.of hn) rfl
  exact h.2 (.ref p) _ W .refl (keep_new hn) (s.mut hA hF (.inl hn)) ⟨p, vs, ds, rfl, rfl, upd_same, hF, hA, r, .of hn⟩
end
section
variable {X : Cx} {cl : Cl} {E : XK} {fa fb : Ev → S → R D} {a b c e : Expr} {es : List Expr} {pos p : Pos} {g : Ev → S → R (List D)} {tc : Ev → S → R Bool}
end
/-! calls -/
section
variable {X : Cx} {cl : Cl} {E : XK} {CX : CXT} {k n : Nat} {f : Addr} {fd : FuncData} {ps ks : List Str} {F : List D → S → R D} {g gk : Ev → S → R (List D)} {e : Expr} {es : List Expr} {kws : List Keyword} {pos p : Pos} {x : Str}
end
/-! defs that return a fresh list -/
section
variable {P : Program} {w : World} {K : PySem.W.Frag} {mg : Str → Option Value} {base : Heap} {cl : Cl} {CX : CXT} {x qual : Str} {params : Arguments} {body : List Stmt} {scope : Scope} {dvs : List V} {kws : List (Str × V)} {f : Addr} {fd : FuncData} {N ps : List Str} {k : Nat}
structure FnF (P : Program) (w : World) (K : PySem.W.Frag) (mg : Str → Option Value) (base : Heap) (cl : Cl) (k : Nat) (x : Str) (st : Stmt) (ps : List Str) (sem : List D → S → R D) (f : Addr) (fd : FuncData) : Prop where
  F : FunD K x x (defArgs st) (defBody st) (defScope st) [] [] f fd
  G : FnOk P w K mg base CX0 k f fd ps (spF K cl sem)
  m : mg x = some (.ref f)
  b : Binds K fd ps []
end
/-! statements -/
section
variable {X : Cx} {cl : Cl} {E : XK} {W0 : Wd} {H0 : Hp} {fe : Ev → S → R D} {e : Expr} {pos : Pos} {i : Nat} {x : Str}
end
end DL
set_option maxHeartbeats 4000000
/-! The data layer, part I: ranges as values; a fresh list put into the store and taken out again at the return. -/
namespace DL
open PySem PySem.Spec PyProof.Rows L2

/-! ### i in range(n), list(range(a, b)) -/
def rgD (a b : Int) : List D := (List.range (b - a).toNat).map fun i => D.int (a + (i : Nat))
def rgC (a b : Int) : Bool := decide (-(2 ^ 62) ≤ a) && (decide (a < 2 ^ 62) && (decide (-(2 ^ 62) ≤ b) && (decide (b < 2 ^ 62) && decide ((b - a).toNat ≤ 2 ^ 24))))
def dLstRg1 (fb : Ev → S → R D) : Ev → S → R D := fun ρ st => (fb ρ st).bind fun y st => match y with
  | .int b => if rgC 0 b then .ok (.lst (rgD 0 b)) st else .stuck
  | _ => .stuck
section
variable {X : Cx} {cl : Cl} {E : XK} {fe fa fb : Ev → S → R D} {e a b : Expr} {pos p rp : Pos}
theorem rgD_rp {K : PySem.W.Frag} {W : Wd} (a b : Int) : RpAll K cl W (rgV a b) (rgD a b) := by
  unfold rgV rgD
  generalize List.range (b - a).toNat = l
  induction l with
  | nil => exact .nil
  | cons n l ih => exact .cons (.int _) ih
theorem rgC_ok {a b : Int} (h : rgC a b = true) : RgOk a b := by
  unfold rgC at h
  simp only [Bool.and_eq_true, decide_eq_true_eq] at h
  exact ⟨h.1, h.2.1, h.2.2.1, h.2.2.2.1, h.2.2.2.2⟩
theorem dv_lstRg1 (hc : X.calm = true) (hg : Gl X "list") (hm : X.mg "list" = none) (hg2 : Gl X "range") (hm2 : X.mg "range" = none) (hb : DV X cl E b fb) (nb : starEach [b] X.env = (false, eval b X.env) :: starEach [] X.env := by rfl)
    (nl : starEach [.Call (.Name "range" rp) [b] [] p] X.env = (false, eval (.Call (.Name "range" rp) [b] [] p) X.env) :: starEach [] X.env := by rfl) {lp : Pos} : DV X cl E (.Call (.Name "list" lp) [.Call (.Name "range" rp) [b] [] p] [] pos) (dLstRg1 fb) := by
  refine PEimp (pe_listRg hc hg hm (prg_1 hg2 hm2 hb nb) nl) fun σ H Q h => ?_
  obtain ⟨W, ρ, st, s, l, h⟩ := h
  refine ⟨W, ρ, st, s, l, (Aft.peel h).imp (fun _ _ _ r => r) ?_⟩
  rintro y H1 ⟨dy, st1, W1, g1, k1, s1, r1, h1⟩
  split at h1
  · rename_i n
    cases r1
    split at h1
    · rename_i hk
      exact ⟨n, rfl, rgC_ok hk, fun q hn => h1.newL s1 (rgD_rp 0 n) hn⟩
    · exact h1.elim
  · exact h1.elim
end

/-! ### more fresh lists -/
section
variable {K : PySem.W.Frag} {cl : Cl} {E : XK} {σ : L2.St} {H : Hp}
end
section
variable {X : Cx} {cl : Cl} {E : XK} {t : Tg} {is : List Nat} {fi : Ev → S → R (List D)} {tt : Ev → S → R Bool} {te : Ev → S → R D} {elt tg iter : Expr} {ifs : List Expr} {scope : Scope} {own : List (Str × Nat)} {pos spos py : Pos}
end
section
variable {X : Cx} {cl : Cl} {E : XK} {fa fb : Ev → S → R D} {a b c e : Expr} {es : List Expr} {pos p : Pos} {x : Str} {g : Ev → S → R (List D)} {tc : Ev → S → R Bool}
end

/-! ### a fresh list into the store -/
mutual
/-- no reference to k -/
def nrD (k : Nat) : D → Bool
  | .lst ds => nrs k ds
  | .tup ds => nrs k ds
  | .pr a b => nrD k a && nrD k b
  | .ref i => decide (i ≠ k)
  | .dic _ ds => nrs k ds
  | .ob _ _ ds => nrs k ds
  | _ => true
def nrs (k : Nat) : List D → Bool
  | [] => true
  | d :: ds => nrD k d && nrs k ds
end
def nrM (k : Nat) : MO → Bool
  | .lst ds => nrs k ds
  | .ins _ fs => nrs k (fs.map (·.2))
  | .dct _ ds => nrs k ds
section
variable {K : PySem.W.Frag} {cl : Cl} {W : Wd} {k : Nat}
mutual
theorem Rp.drop_ (hk : W.A.length = k + 1) : ∀ {v : V} {d : D}, Rp K cl W v d → nrD k d = true → Rp K cl ⟨W.F, W.A.dropLast⟩ v d
  | _, _, .non, _ => .non
  | _, _, .bl b, _ => .bl b
  | _, _, .int i, _ => .int i
  | _, _, .str x, _ => .str x
  | _, _, .lst h r, n => .lst h (RpAll.drop_ hk r (by unfold nrD at n; exact n))
  | _, _, .tup h r, n => .tup h (RpAll.drop_ hk r (by unfold nrD at n; exact n))
  | _, _, .pr h r q, n => by
    unfold nrD at n
    rw [Bool.and_eq_true] at n
    exact .pr h (Rp.drop_ hk r n.1) (Rp.drop_ hk q n.2)
  | _, _, .ref (i := i) h, n => by
    unfold nrD at n
    refine .ref ?_
    have hl : i < W.A.length := (List.getElem?_eq_some_iff.mp h).1
    have hn := of_decide_eq_true n
    show W.A.dropLast[i]? = _
    rw [List.getElem?_dropLast, if_pos (by omega)]
    exact h
  | _, _, .ty n, _ => .ty n
  | _, _, .cls c, _ => .cls c
  | _, _, .scr h, _ => .scr h
  | _, _, .dic h e r, n => .dic h e (RpAll.drop_ hk r (by unfold nrD at n; exact n))
  | _, _, .ob h e r, n => .ob h e (RpAll.drop_ hk r (by unfold nrD at n; exact n))
theorem RpAll.drop_ (hk : W.A.length = k + 1) : ∀ {vs : List V} {ds : List D}, RpAll K cl W vs ds → nrs k ds = true → RpAll K cl ⟨W.F, W.A.dropLast⟩ vs ds
  | _, _, .nil, _ => .nil
  | _, _, .cons h r, n => by
    unfold nrs at n
    rw [Bool.and_eq_true] at n
    exact .cons (Rp.drop_ hk h n.1) (RpAll.drop_ hk r n.2)
end
theorem RpF.drop_ (hk : W.A.length = k + 1) : ∀ {vs : List (Str × V)} {ds : List (Str × D)}, RpF K cl W vs ds → nrs k (ds.map (·.2)) = true → RpF K cl ⟨W.F, W.A.dropLast⟩ vs ds
  | _, _, .nil, _ => .nil
  | _, _, .cons h r, n => by
    rw [List.map_cons] at n
    unfold nrs at n
    rw [Bool.and_eq_true] at n
    exact .cons (Rp.drop_ hk h n.1) (RpF.drop_ hk r n.2)
theorem MoRp.drop_ (hk : W.A.length = k + 1) {H : Hp} {a : Addr} {o : MO} (m : MoRp K cl W H a o) (n : nrM k o = true) : MoRp K cl ⟨W.F, W.A.dropLast⟩ H a o := by
  cases o with
  | lst ds => obtain ⟨vs, h1, h2⟩ := m; exact ⟨vs, h1, h2.drop_ hk n⟩
  | ins c fs => obtain ⟨dx, vs, h1, h2⟩ := m; exact ⟨dx, vs, h1, h2.drop_ hk n⟩
  | dct ks ds => obtain ⟨vs, h1, h2, h3⟩ := m; exact ⟨vs, h1, h2, h3.drop_ hk n⟩
end
section
variable {X : Cx} {cl : Cl} {E : XK} {W0 : Wd} {H0 : Hp} {fe : Ev → S → R D} {e : Expr} {b : List Stmt} {pos : Pos} {i : Nat} {x : Str}
end
end DL
set_option maxHeartbeats 4000000
/-! The data layer, part J: a, b = x, y where some of the values are fresh lists. -/
namespace DL
open PySem PySem.Spec PyProof.Rows L2

/-- how a value is kept: a datum, a list of the frame's own, a new list of the store -/
inductive Fg | sh | own | ref
deriving DecidableEq
def owns : List Fg → List V → List V
  | .sh :: fl, _ :: vs => owns fl vs
  | _ :: fl, v :: vs => v :: owns fl vs
  | _, _ => []
inductive MAll (K : PySem.W.Frag) (cl : Cl) (H0 H : Hp) (W : Wd) : List Fg → List V → List D → Prop
  | nil : MAll K cl H0 H W [] [] []
  | sh {fl : List Fg} {v : V} {vs : List V} {d : D} {ds : List D} : Rp K cl W v d → MAll K cl H0 H W fl vs ds → MAll K cl H0 H W (.sh :: fl) (v :: vs) (d :: ds)
  | own {k : Fg} {fl : List Fg} {v : V} {vs : List V} {d : D} {ds : List D} : k ≠ .sh → Fr K cl H0 H W v d → (∀ u ∈ owns fl vs, u ≠ v) → MAll K cl H0 H W fl vs ds → MAll K cl H0 H W (k :: fl) (v :: vs) (d :: ds)
section
variable {K : PySem.W.Frag} {cl : Cl} {E : XK} {W W1 W' W0 : Wd} {H H0 H1 H' : Hp} {st : S} {fl : List Fg} {vs : List V} {ds : List D}
theorem MAll.back (g : Grow W H W1) (k : Keep W.A H H1) (s : SatS K cl W1 st H1) : ∀ {fl : List Fg} {vs : List V} {ds : List D}, MAll K cl H1 H' W' fl vs ds → MAll K cl H H' W' fl vs ds
  | _, _, _, .nil => .nil
  | _, _, _, .sh r m => .sh r (MAll.back g k s m)
  | _, _, _, .own h r n m => .own h (r.back g k s) n (MAll.back g k s m)
end
section
variable (K : PySem.W.Frag) (cl : Cl) (E : XK)
end
section
variable {X : Cx} {cl : Cl} {E : XK} {f : Ev → S → R D} {g : Ev → S → R (List D)} {e : Expr} {es : List Expr} {fl : List Fg}
end
section
variable {K : PySem.W.Frag} {cl : Cl} {E : XK} {W W1 W' W0 : Wd} {H H0 H1 H' : Hp} {st : S} {fl : List Fg} {vs : List V} {ds : List D} {ρ : Ev} {σ : L2.St} {p : Addr}
theorem MAll.len : ∀ {fl : List Fg} {vs : List V} {ds : List D}, MAll K cl H0 H W fl vs ds → vs.length = ds.length
  | _, _, _, .nil => rfl
  | _, _, _, .sh _ m => congrArg Nat.succ m.len
  | _, _, _, .own _ _ _ m => congrArg Nat.succ m.len
end
section
variable {X : Cx} {cl : Cl} {E : XK} {W0 : Wd} {H0 : Hp} {fs : Ev → S → R (List D)} {fl : List Fg} {pos : Pos}
end
end DL
set_option maxHeartbeats 4000000
/-! The data layer, part K: texts parted: x.split(sep), x.partition(sep), f-strings of two parts. -/
namespace DL
open PySem PySem.Spec PyProof.Rows L2
section
variable {X : Cx}
variable {cl : Cl} {E : XK} {fa fb : Ev → S → R D} {o e : Expr} {apos pos : Pos}
end
end DL
set_option maxHeartbeats 4000000
/-! The data layer, part O: operators by an own method. -/
namespace PySem.W
open PySem PySem.Calls PyProof.Rows
section
variable {prog : Program} {w : World} {A : Around} {E : Value → Shared → Prop} {s : Shared} {K : Frag} {x C L f : Addr} {h₀ : Heap} {m : Str → Option Value} {ox : Obj} {od : Option Obj} {T : String}
end
end PySem.W
namespace DL
open PySem PySem.Spec PyProof.Rows L2

section
open PySem.W
variable {T : String}
end

def tyN : List String := ["NoneType", "bool", "int", "str", "list", "tuple"]
section
variable {X : Cx} {cl : Cl} {E : XK} {CX : CXT} {c k : Nat} {f : Addr} {fd : FuncData} {ps : List Str} {F : List D → S → R D}
end
/-- what a class with an own operator must have beside it -/
structure OwnB (K : PySem.W.Frag) (C : Addr) (r : Str) : Prop where
  sf : PySem.W.selfFirst K C = true
  rr : PySem.W.findIn K (.ref C) r = some none
  ty : ∀ T ∈ tyN, PySem.W.subIn K (.type T) (.ref C) = some false
section
variable {X : Cx} {cl : Cl} {E : XK} {CX : CXT} {op : Operator} {o : D → D → S → R D} {tbl : MT} {fa fb : Ev → S → R D} {a b : Expr} {pos : Pos}
end
end DL
set_option maxHeartbeats 4000000
/-! The data layer, part P: built-ins that call own methods: len, repr, str, in, ==. -/
namespace PySem.W
open PySem PySem.Calls PyProof.Rows Builtin
section
variable {prog : Program} {w : World} {A : Around} {E : Value → Shared → Prop} {s : Shared} {x : Addr}
end
end PySem.W
namespace DL
open PySem PySem.Spec PyProof.Rows L2

section
variable {X : Cx} {cl : Cl} {E : XK} {CX : CXT} {k : Nat} {f : Addr} {fd : FuncData} {ps : List Str} {sp : Sp}
end
section
variable {X : Cx} {cl : Cl} {E : XK} {CX : CXT} {nm : Str}
theorem Sub.here {k : Nat} (h : Room k X.A) : Sub X k X.A := ⟨h, rfl⟩
section
variable {o : D → S → R D} {tbl : MT}
/-! x in o -/
end
end
end DL
set_option maxHeartbeats 4000000
/-! The data layer, part Q: == with an object of an own class on the right. -/
namespace PySem.W
open PySem PySem.Calls PyProof.Rows PySem.SeqAt AutoSeq1 GQ
section
variable {prog : Program} {w : World} {A : Around} {E : Value → Shared → Prop} {s : Shared} {K : Frag} {y C f : Addr} {oy : Obj} {od : Option Obj}
section
variable {l : Addr} {items : Array Value} {n : Nat} {dd : Option Addr} {sl : Array (Option Value)}
end
end
end PySem.W
namespace DL
open PySem PySem.Spec PyProof.Rows L2
/-- an own class beside the built-in ones -/
structure OwnT (K : PySem.W.Frag) (C : Addr) : Prop where
  a : ∀ T ∈ tyN, PySem.W.subIn K (.type T) (.ref C) = some false
  b : ∀ T ∈ tyN, PySem.W.subIn K (.ref C) (.type T) = some false
section
variable {X : Cx} {cl : Cl} {E : XK} {CX : CXT} {o : D → D → S → R D} {tbl : MT} {fa fb : Ev → S → R D} {a b : Expr} {pos : Pos}
/-! x in o -/
/-! == -/
end
end DL
set_option maxHeartbeats 4000000
/-! The data layer, part R: f-strings of any number of parts. -/
namespace DL
open PySem PySem.Spec PyProof.Rows L2
section
variable {X : Cx} {cl : Cl} {E : XK}
inductive DJ (X : Cx) (cl : Cl) (E : XK) : List Expr → List (Ev → S → R D) → Prop where
  | nil : DJ X cl E [] []
  | cons {e : Expr} {f : Ev → S → R D} {es : List Expr} {fs : List (Ev → S → R D)} (h : DV X cl E e f) (r : DJ X cl E es fs) : DJ X cl E (e :: es) (f :: fs)
theorem DJ.pj {es : List Expr} {fs : List (Ev → S → R D)} (h : DJ X cl E es fs) : PJ X es (fs.map fun f => liftV X.K cl E f) := by
  induction h with
  | nil => exact .nil
  | cons h r ih => exact .cons h ih
end
end DL
set_option maxHeartbeats 4000000
/-! The data layer, part T: not in, isinstance of an own class, fresh lists that methods return, reverse. -/
namespace DL
open PySem PySem.Spec PyProof.Rows L2 C8
/-! x not in o -/
section
variable {X : Cx} {cl : Cl} {E : XK} {CX : CXT} {o : D → D → S → R D} {tbl : MT} {fa fb : Ev → S → R D} {a b : Expr} {pos : Pos}
end
/-! isinstance(x, C), C an own class -/
structure InsT (K : PySem.W.Frag) (C : Addr) : Prop where
  i : InsC K C
  n : ∀ T ∈ ["NoneType", "bool", "int", "str", "list", "tuple"], PySem.W.kitOne K (.type T) (.ref C) = some false
section
variable {X : Cx} {cl : Cl} {E : XK} {c : Nat} {o : Expr} {fo : Ev → S → R D} {x : Str} {p p2 pos : Pos}
end
/-! methods that return a fresh list -/
structure FnMF (P : Program) (w : World) (K : PySem.W.Frag) (mg : Str → Option Value) (base : Heap) (cl : Cl) (k : Nat) (c : Nat) (x qual : Str) (st : Stmt) (ps : List Str) (sem : List D → S → R D) (f : Addr) (fd : FuncData) : Prop where
  F : FunD K x qual (defArgs st) (defBody st) (defScope st) [] [] f fd
  G : FnOk P w K mg base L2.CX0 k f fd ps (spF K cl sem)
  C : Cls K (cl c)
  M : Meth K (cl c) x f
  b : Binds K fd ps []
section
variable {X : Cx} {cl : Cl} {E : XK} {CX : CXT} {c k : Nat} {f : Addr} {fd : FuncData} {ps : List Str} {F : List D → S → R D} {o : Expr} {fo : Ev → S → R D} {m : Str} {apos pos : Pos}
end
/-! xs.reverse(), xs in the store -/
/-! tests -/
/-! what the head tells of a class that isinstance asks for -/
/-! nothing known -/
end DL
set_option maxHeartbeats 4000000
/-! The data layer, part L: loops over lists of the store. -/
namespace DL
open PySem PySem.Spec PyProof.Rows L2
section
variable {X : Cx} {cl : Cl} {E : XK} {fo : Ev → S → R D} {tg e : Expr} {p pos tpos : Pos} {kk : Nat} {elts : List Expr}
end
/-! one turn -/
section
variable {X : Cx} {cl : Cl} {E : XK} {W0 : Wd} {H0 : Hp} {f : Ev → S → RS} {fo : Ev → S → R D} {fs : Ev → S → R (List D)} {pos : Pos} {en : Bool}
end
/-! comprehensions -/
section
variable {K : PySem.W.Frag} {cl : Cl} {E : XK} {W : Wd} {ρ : Ev} {σ : L2.St} {st : S} {H : Hp}
end
section
variable {X : Cx} {cl : Cl} {E : XK} {t : Tg} {fo : Ev → S → R D} {fs : Ev → S → R (List D)} {tt : Ev → S → R Bool} {te : Ev → S → R D} {elt tg iter : Expr} {ifs : List Expr} {scope : Scope} {own : List (Str × Nat)} {pos : Pos} {en : Bool}
end
section
variable {X : Cx} {cl : Cl} {E : XK} {W0 : Wd} {H0 : Hp} {fo : Ev → S → R D} {en : Bool} {x : Str}
end
/-! str of a text or a number -/
def strSF (d : D) (st : S) : R D := match view d st with
  | .str x => .ok (.str x) st
  | .int i => if i.natAbs.log2 < 1920 then .ok (.str (Str.ofString (toString i))) st else .stuck
  | _ => .stuck
theorem cr_strSF {X : Cx} {cl : Cl} {E : XK} : CallR X (.type "str") (rL X.K cl E (one strSF)) := by
  intro pins s σ H xs us Q I rv h0
  obtain ⟨v, W, ρ, σ', st, d, rfl, s0, l0, o, h⟩ := one_of h0
  clear h0
  unfold strSF at h
  split at h
  · rename_i x e
    exact SkE.call_str_str pins s σ H _ us Q I rv ⟨x, by rw [str_of o e], h.now s0 (.str _)⟩
  · rename_i i e
    split at h
    · rename_i hl
      exact call_str_int pins s σ H _ us Q I rv ⟨i, by rw [int_of o e], hl, h.now s0 (.str _)⟩
    · exact h.elim
  · exact h.elim
end DL
set_option maxHeartbeats 4000000
/-! The data layer, part U: sets of texts made by a comprehension of two clauses. -/
namespace DL
open PySem PySem.Spec PyProof.Rows L2

section
variable {P : Program} {w : World} {A : Around} {E : Value → Shared → Prop} {s : Shared} {b : Addr} {l : List Str} {m : Nat}
end
theorem ed_len : ∀ (n : Nat) (l : List Str), l.length ≤ n → l.eraseDups.length ≤ l.length
  | 0, [], _ => Nat.le_refl _
  | _ + 1, [], _ => Nat.le_refl _
  | n + 1, x :: r, h => by
    rw [List.eraseDups_cons]
    have h1 := List.length_filter_le (fun b => !b == x) r
    have h2 := ed_len n (r.filter fun b => !b == x) (Nat.le_trans h1 (Nat.le_of_succ_le_succ h))
    exact Nat.succ_le_succ (Nat.le_trans h2 h1)
section
variable {pr : Program} {w : World} {A : Around} {R : Result → Shared → Prop} {s : Shared} {el t0 i0 t1 i1 : Expr} {cs0 cs1 : List Expr} {sco : Scope} {po : Pos} {it ac : Value} {en : Env}
end

section
variable {X : Cx}
end
end DL
set_option maxHeartbeats 4000000
/-! The data layer, part V: sorted({x for t in xs for x in y}). -/
namespace DL
open PySem PySem.Spec PyProof.Rows L2

/-- J walks the data ds while the store stays -/
structure WR (K : PySem.W.Frag) (cl : Cl) (W : Wd) (st : S) (J : It) (ds : List D) : Prop where
  ex : ∃ (G : Hp → Prop) (Y : Nat → Hp → V → Hp → Prop), Walk J ds.length G Y ∧ (∀ (H : Hp) (W' : Wd), Same W.F W'.F → W.A <+: W'.A → SatS K cl W' st H → G H) ∧
    ∀ (i : Nat) (d : D) (H : Hp) (x : V) (H' : Hp) (W' : Wd), ds[i]? = some d → Same W.F W'.F → W.A <+: W'.A → SatS K cl W' st H → Y i H x H' → H' = H ∧ Rp K cl W' x d
section
variable {K : PySem.W.Frag} {cl : Cl} {E : XK} {W W1 : Wd} {ρ : Ev} {σ : L2.St} {st : S} {H H1 : Hp} {v : V} {d : D} {ds : List D}
end
section
variable {K : PySem.W.Frag} {cl : Cl} {E : XK} {W W1 W5 : Wd} {ρ : Ev} {σ : L2.St} {st : S} {H H1 H5 : Hp} {v : V} {d : D} {ds : List D}
end
section
variable {X : Cx} {cl : Cl} {E : XK} {t : Tg} {fo : Ev → S → R D} {tg tg1 iter elt src : Expr} {scope : Scope} {own : List (Str × Nat)} {pos p1 p4 : Pos} {i1 j : Nat}
end
end DL
set_option maxHeartbeats 4000000
/-! The data layer, part W: len(set(xs)), dict(pairs), insert into a list of the store, two items of a list put at once. -/
namespace DL
open PySem PySem.Spec PyProof.Rows L2

/-! ### len(set(xs)) -/
section
variable {X : Cx} {cl : Cl} {E : XK}
end
/-! ### dict(pairs) -/
section
variable {K : PySem.W.Frag} {cl : Cl} {W : Wd}
end
section
variable {X : Cx} {cl : Cl} {E : XK}
/-! ### o.insert(i, x), o a list of the store -/
end
end DL
set_option maxHeartbeats 4000000
/-! The data layer, part X: sorted(set(d)), d a dict whose keys are texts; a[i], a[j] = x, y. -/
namespace DL
open PySem PySem.Spec PyProof.Rows L2
/-! ### the set of a dict's keys -/
section
variable {P : Program} {w : World} {A : Around} {E : Value → Shared → Prop} {s : Shared} {b : Addr} {l : List Str} {m : Nat}
end
section
variable {X : Cx} {cl : Cl} {E : XK}
end
/-! ### a[i], a[j] = x, y -/
section
variable {X : Cx} {cl : Cl} {E : XK} {W0 : Wd} {H0 : Hp} {fi1 fi2 fe : Ev → S → R D} {e : Expr} {pos : Pos}
end
end DL
set_option maxHeartbeats 4000000
/-! The data layer, part Y: {k: v for k, v in xs}, xs a list, a tuple, a list of the store. -/
namespace DL
open PySem PySem.Spec PyProof.Rows L2

section
variable {K : PySem.W.Frag} {cl : Cl} {E : XK} {W : Wd} {ρ : Ev} {σ : L2.St} {st : S} {H : Hp}
end
section
variable {X : Cx} {cl : Cl} {E : XK} {t : Tg} {fo : Ev → S → R D} {tg iter kx vx : Expr} {scope : Scope} {own : List (Str × Nat)} {pos : Pos} {ik iv : Nat}
end
end DL
set_option maxHeartbeats 4000000
/-! The data layer, part Z: defs and methods that may raise and return a list of their own. -/
namespace DL
open PySem PySem.Spec PyProof.Rows L2
section
variable {P : Program} {w : World} {K : PySem.W.Frag} {mg : Str → Option Value} {base : Heap} {cl : Cl} {x qual : Str} {params : Arguments} {body : List Stmt} {scope : Scope} {dvs : List V} {kws : List (Str × V)} {f : Addr} {fd : FuncData} {N ps : List Str} {k : Nat}
structure FnFX (P : Program) (w : World) (K : PySem.W.Frag) (mg : Str → Option Value) (base : Heap) (cl : Cl) (CX : CXT) (k : Nat) (x : Str) (st : Stmt) (ps : List Str) (sem : List D → S → R D) (f : Addr) (fd : FuncData) : Prop where
  F : FunD K x x (defArgs st) (defBody st) (defScope st) [] [] f fd
  G : FnOk P w K mg base CX k f fd ps (spF K cl sem)
  m : mg x = some (.ref f)
  b : Binds K fd ps []
structure FnMFX (P : Program) (w : World) (K : PySem.W.Frag) (mg : Str → Option Value) (base : Heap) (cl : Cl) (CX : CXT) (k : Nat) (c : Nat) (x qual : Str) (st : Stmt) (ps : List Str) (sem : List D → S → R D) (f : Addr) (fd : FuncData) : Prop where
  F : FunD K x qual (defArgs st) (defBody st) (defScope st) [] [] f fd
  G : FnOk P w K mg base CX k f fd ps (spF K cl sem)
  C : Cls K (cl c)
  M : Meth K (cl c) x f
  b : Binds K fd ps []
end
section
variable {X : Cx} {cl : Cl} {E : XK} {CX : CXT} {c k : Nat} {f : Addr} {fd : FuncData} {ps : List Str} {F : List D → S → R D} {o e : Expr} {es : List Expr} {fo : Ev → S → R D} {g : Ev → S → R (List D)} {m : Str} {apos pos : Pos}
end
end DL
set_option maxHeartbeats 4000000
/-! The data layer, part N: sorted(pairs), pairs whose firsts are different texts. -/
namespace DL
open PySem PySem.Spec PyProof.Rows L2
open SrtO (Swo Srtd Stb Cmp SortableO lt2)

/-- v is a pair of the text x and anything -/
def IsSP (h : Heap) (v : Value) (x : Str) : Prop := ∃ a o t u n, v = .ref a ∧ h.get? a = some o ∧ o.cls = .type "tuple" ∧ o.data = .seq #[.str x t, u] n
theorem IsSP.stay {h h' : Heap} {v : Value} {x : Str} (p : IsSP h v x) (k : ∀ b o, h.get? b = some o → o.cls = .type "tuple" → h'.get? b = some o) : IsSP h' v x := by
  obtain ⟨a, o, t, u, n, e, ho, hc, hd⟩ := p
  exact ⟨a, o, t, u, n, e, k _ _ ho hc, hc, hd⟩
section
variable {prog : Program} {w : World} {A : Around} {E : Value → Shared → Prop} {s : Shared}
end
/-! as a rule -/
section
variable {X : Cx} {cl : Cl} {E : XK}
/-! over data -/
end
end DL
set_option maxHeartbeats 4000000
/-! The data layer behind DLN: the keys of a dict are walked; a sorted set of texts as a fresh list. -/
namespace DL
open PySem PySem.Spec PyProof.Rows L2
section
variable {X : Cx} {cl : Cl} {E : XK} {f : Ev → S → R D} {tg e : Expr}
end
section
variable {X : Cx} {cl : Cl} {E : XK} {t : Tg} {fo : Ev → S → R D} {tg tg1 iter elt src : Expr} {scope : Scope} {own : List (Str × Nat)} {pos p1 p4 : Pos} {i1 j : Nat}
end
end DL
set_option maxHeartbeats 4000000
/-! The data layer: targets with a star, int(text). -/
namespace DL
open PySem PySem.Spec PyProof.Rows L2
section
variable {prog : Program} {w : World} {A : Around} {E : Value → Shared → Prop} {s : Shared}
end
section
variable {X : Cx} {pos : Pos}
end
/-! over data -/
section
variable {K : PySem.W.Frag} {cl : Cl} {W : Wd}
end
section
variable {X : Cx} {cl : Cl} {E : XK} {W0 : Wd} {H0 : Hp} {fe : Ev → S → R D} {e tg : Expr} {pos : Pos} {i : Nat} {is : List Nat}
end
section
variable {X : Cx}
end
/-! int(text) -/
/-! x.index(y), data of any depth -/
end DL
set_option maxHeartbeats 4000000
/-! The data layer: static methods of own classes. -/
namespace DL
open PySem PySem.Spec PyProof.Rows L2 He

/-- C.m is a static method: its def stands at f -/
structure StM (K : PySem.W.Frag) (C : Addr) (m : Str) (f : Addr) : Prop where
  r : ClX.CRead K C (.type "type")
  rc : ∃ p rest, PySem.W.findCls K (.ref C) (.type "type") m = some (.get (.builtin "staticmethod.__get__") (.ref p) .none (.ref C)) ∧ PySem.W.recIn K p "staticmethod" = some (.ref f :: rest)
/-- a static method's def -/
structure FnS (P : Program) (w : World) (K : PySem.W.Frag) (mg : Str → Option Value) (base : Heap) (cl : Cl) (CX : CXT) (k : Nat) (c : Nat) (x qual : Str) (st : Stmt) (ps : List Str) (sem : List D → S → R D) (f : Addr) (fd : FuncData) : Prop where
  F : FunD K x qual (defArgs st) (defBody st) (defScope st) [] [] f fd
  G : FnOk P w K mg base CX k f fd ps (spG K cl sem)
  M : StM K (cl c) x f
  b : Binds K fd ps []
section
variable {X : Cx} {CX : CXT} {cl : Cl} {E : XK} {k : Nat} {C f : Addr} {fd : FuncData} {ps : List Str} {F : List D → S → R D} {x m : Str} {e : Expr} {es : List Expr} {kws : List Keyword} {ks : List Str} {p pos apos : Pos} {g gk : Ev → S → R (List D)} {pl : Sem Bool}
end
/-! ### the head's facts with static methods -/
section
variable (L : (Addr → Option Obj) → List Addr) (fa : List Fa) (fn : List DefD) (ts : List Tab) (tf : List Defn) (ex : PySem.W.Frag → Bool) (fs : List He5.DefA)
end
end DL
set_option maxHeartbeats 4000000
/-! The data layer, part M3: sorted(lists of data that are alike). -/
namespace DL
open PySem PySem.Spec PyProof.Rows L2
open PySem.W (EachIs)
section
variable {X : Cx} {cl : Cl} {E : XK} {W : Wd} {H : Hp}
end
end DL
set_option maxHeartbeats 4000000
/-! The data layer, part M4: min of two texts. -/
namespace DL
open PySem PySem.Spec PyProof.Rows L2
section
variable {X : Cx} {cl : Cl} {E : XK}
end
end DL
set_option maxHeartbeats 4000000
/-! The data layer, part M5: x.upper(), x.replace(y, z) of written texts in a display behind a written text. -/
namespace DL
open PySem PySem.Spec PyProof.Rows L2
section
variable {X : Cx} {cl : Cl} {E : XK} {f fa : Ev → S → R D} {g : Ev → S → R (List D)} {o e : Expr} {es : List Expr} {apos pos p : Pos} {x y z : Str} {j k : Nat} {c0 c1 : Pos}
end
end DL
set_option maxHeartbeats 4000000
/-! The data layer, part M6: a name and an item of a list of the store set at once (x, o[i] = a, b). -/
namespace DL
open PySem PySem.Spec PyProof.Rows L2
section
variable {X : Cx} {cl : Cl} {E : XK} {W0 : Wd} {H0 : Hp} {fo fi fe : Ev → S → R D} {e : Expr} {pos : Pos}
end
/-! ### x[:0:-1]: all behind the first, back to front -/
section
variable {X : Cx} {cl : Cl} {E : XK} {fa fb : Ev → S → R D} {a o e : Expr} {es : List Expr} {pos : Pos} {g : Ev → S → R (List D)}
/-! ### displays whose first part is s.join(x), s a written text: a token is given out -/
structure PE1 (X : Cx) (e : Expr) (t : TE) : Prop where
  run : ∀ (pins : List (Addr × Obj)) (s : Shared) (σ : L2.St) (H : Hp) (Q : VK), Inv X pins σ H s → t σ H Q → wpAny (model X.prog X.w) X.A (eval e X.env) (fun v s' => 1 ≤ s'.toks ∧ EP X pins σ Q v s') X.xe s
/-! ### X(), an own exception made of nothing -/
end
/-! ### x = [.. for ..], the list is the frame's own -/
section
variable {X : Cx} {cl : Cl} {E : XK} {W0 : Wd} {H0 : Hp} {x : Str}
end
end DL
set_option maxHeartbeats 4000000
/-! The data layer: comprehensions over zip(a, b), a a list of the store. -/
namespace DL
open PySem PySem.Spec PyProof.Rows L2
/-- what is left of the turns over the k-th list of the store beside bs -/
def compZ (k : Nat) (bs : List D) (t : Tg) (tt : Ev → S → R Bool) (te : Ev → S → R D) (ρ : Ev) : Nat → S → R (List D)
  | 0, st => (match st[k]? with
    | some (.lst ds) => if ds.length = bs.length then .ok [] st else .stuck
    | _ => .stuck)
  | j + 1, st => (match st[k]? with
    | some (.lst ds) => if ds.length = bs.length then (match ds[bs.length - (j + 1)]?, bs[bs.length - (j + 1)]? with
      | some x, some y => (match bindT t (.pr x y) ρ with
        | none => .stuck
        | some ρ' => (noX (tt ρ' st)).bind fun b st => if b then (noX (te ρ' st)).bind fun y st => (compZ k bs t tt te ρ j st).bind fun ys st => .ok (y :: ys) st else compZ k bs t tt te ρ j st)
      | _, _ => .stuck) else .stuck
    | _ => .stuck)
def dLcZ0 (t : Tg) (vs : List Nat) (g : Ev → S → R (List D)) (tt : Ev → S → R Bool) (te : Ev → S → R D) : Ev → S → R D := fun ρ st => (g ρ st).bind fun ds st => match ds with
  | [.ref k, .lst bs] => (match st[k]? with
    | some (.lst ds) => if ds.length ≤ sizeLine ∧ ds.length = bs.length then (compZ k bs t tt te (wipeE ρ vs) bs.length st).bind fun ys st => .ok (.lst ys) st else .stuck
    | _ => .stuck)
  | _ => .stuck
def dLcZ (t : Tg) (vs : List Nat) (g : Ev → S → R (List D)) (tt : Ev → S → R Bool) (te : Ev → S → R D) : Ev → S → R D := fun ρ st => match g ρ st with
  | .ok [.ref _, _] _ => dLcZ0 t vs g tt te ρ st
  | _ => dLc t vs (dZip g) tt te ρ st
section
variable {X : Cx} {cl : Cl} {E : XK} {g : Ev → S → R (List D)} {e e2 : Expr} {p pos tpos : Pos} {kk : Nat} {elts : List Expr}
end
section
variable {K : PySem.W.Frag} {cl : Cl} {E : XK} {W : Wd} {ρ : Ev} {σ : L2.St} {st : S} {H : Hp}
end
section
variable {X : Cx} {cl : Cl} {E : XK} {t : Tg} {g : Ev → S → R (List D)} {tt : Ev → S → R Bool} {te : Ev → S → R D} {elt tg iter : Expr} {ifs : List Expr} {scope : Scope} {own : List (Str × Nat)} {pos : Pos}
end
end DL
set_option maxHeartbeats 4000000
/-! The data layer: bits. -/
namespace DL
open PySem PySem.Spec PyProof.Rows L2
section
variable {X : Cx} {cl : Cl} {E : XK}
def shlD : D → D → S → R D := intD (fun i j => decide (0 ≤ j) && (decide (j ≤ 1000000) && decide (i.natAbs < 2 ^ 64))) fun i j => .int (i * 2 ^ j.toNat)
theorem op_shlD : OpR X (binaryOp .LShift) (rD X.K cl E shlD) := op_intD op_shl (fun i j h => by
  simp only [Bool.and_eq_true, decide_eq_true_eq] at h
  exact h) fun _ _ _ => .int _
def shrD : D → D → S → R D := intD (fun _ j => decide (0 ≤ j)) fun i j => .int (i / 2 ^ j.toNat)
theorem op_shrD : OpR X (binaryOp .RShift) (rD X.K cl E shrD) := op_intD op_shr (fun i j h => by
  simp only [decide_eq_true_eq] at h
  exact h) fun _ _ _ => .int _
def bandD : D → D → S → R D := intD (fun _ _ => true) fun i j => .int (Builtin.bitAnd i j)
theorem op_bandD : OpR X (binaryOp .BitAnd) (rD X.K cl E bandD) := op_intD (op_I0 op_and) (fun _ _ _ => trivial) fun _ _ _ => .int _
def borD : D → D → S → R D := intD (fun _ _ => true) fun i j => .int (Builtin.bitOr i j)
theorem op_borD : OpR X (binaryOp .BitOr) (rD X.K cl E borD) := op_intD (op_I0 op_or) (fun _ _ _ => trivial) fun _ _ _ => .int _
end
end DL
set_option maxHeartbeats 4000000
/-! The data layer: dicts of the frame's own, ranges that go down, lists so many times. -/
namespace DL
open PySem PySem.Spec PyProof.Rows L2
/-! ### range(i, j, -1) -/
section
variable {X : Cx} {cl : Cl} {E : XK} {f : Ev → S → R D} {g : Ev → S → R (List D)} {tg : Expr} {pos p : Pos}
end
/-! ### a list so many times, a fresh list -/
section
variable {X : Cx} {cl : Cl} {E : XK} {fa fb : Ev → S → R D} {a b : Expr} {pos : Pos}
end
/-! ### dicts of the frame's own -/
section
variable {K : PySem.W.Frag} {cl : Cl} {E : XK} {W0 W : Wd} {H0 H : Hp} {ρ : Ev} {σ : L2.St} {st : S} {p : Addr} {i : Nat}
end
section
variable {X : Cx} {cl : Cl} {E : XK} {W0 : Wd} {H0 : Hp} {f fk fv : Ev → S → R D} {e ek ev : Expr} {x y : Str} {pos p p2 pos' : Pos}
theorem Full.alloc {K : PySem.W.Frag} {W W0 : Wd} {ρ : Ev} {σ : L2.St} {H H0 : Hp} {st : S} {p : Addr} {o : HO} (F : Full K cl W0 H0 W ρ st σ H) (hn : H p = none) : Full K cl W0 H0 W ρ st σ (upd H p o) ∧ Gone H0 p ∧ W.F p = none ∧ p ∉ W.A ∧
    (∀ (j : Nat) (u : MO), ρ[j]? = some (.hd u) → σ[j]? ≠ some (some (.ref p))) ∧ ∀ (j : Nat) (es : List D), ρ[j]? = some (.own es) → σ[j]? ≠ some (some (.ref p)) := by
  have hF : W.F p = none := by
    cases q : W.F p with
    | none => rfl
    | some u =>
      have := F.s.ex p u q
      rw [hn] at this; cases this
  have hA : p ∉ W.A := fun m => F.s.ne m (.of hn) rfl
  have h0 : Gone H0 p := back_none F.g F.k F.s (.of hn)
  refine ⟨⟨F.g, F.k.mut h0, F.s.mut hA hF (.inl hn), F.l.keep .refl (keep_new hn), F.o, F.oh⟩, h0, hF, hA, fun j u q z => ?_, fun j es q z => ?_⟩
  · obtain ⟨_, p', k1, k2, _⟩ := F.l.hd j u q
    rw [z] at k1
    cases k1
    obtain ⟨o', k3, _⟩ := k2.there
    rw [hn] at k3
    cases k3
  · obtain ⟨p', us, k1, k2, _⟩ := F.l.own j es q
    rw [z] at k1
    cases k1
    rw [hn] at k2
    cases k2
end
end DL
set_option maxHeartbeats 4000000
/-! The data layer: sorted(set(xs)) of a list of ints. -/
namespace DL
open PySem PySem.Spec PyProof.Rows L2
section
variable {P : Program} {w : World} {A : Around} {E : Value → Shared → Prop} {s : Shared}
end
section
variable {X : Cx} {cl : Cl} {E : XK}
end
end DL
set_option maxHeartbeats 4000000
/-! The data layer: max of a list of pairs of ints. -/
namespace DL
open PySem PySem.Spec PyProof.Rows L2
section
variable {X : Cx} {cl : Cl} {E : XK} {W : Wd} {H : Hp}
end
end DL
set_option maxHeartbeats 400000
/-! The data layer: a lambda that is handed on. -/
namespace DL
open PySem PySem.Spec PyProof.Rows L2 L2H
/-- frames that are newer than all that lies there do not matter -/
theorem unBelow {fs fs' ex : List Addr} {H H1 : Hp} {h h1 : Heap} (u : Un fs' ex H H1 h h1) (old : ∀ b o, h.get? b = some o → b ∈ fs' → b ∈ fs) (sub : ∀ b ∈ fs, b ∈ fs') : Un fs ex H H1 h h1 :=
  { keep := fun b o q n nb nx => u.keep b o q n (fun z => nb (old b o q z)) nx
    slot := fun b o q n hb nx => u.slot b o q n (sub b hb) nx
    free := u.free
    there := u.there
    tups := u.tups
    frzs := u.frzs
    tbls := u.tbls }
section
variable {X : Cx} {pins : List (Addr × Obj)} {σ : L2.St} {H : Hp} {s : Shared}
/-- the lambda called, in any frame that stands over the one that made it -/
theorem pe_actZ {CXg : CXT} {Eg : XK} {Ng : List Str} {qg : Str} {sg : Scope} {g f c' : Addr} {cdg pm ctv : Value} {params : Arguments} {body : Expr} {scope : Scope} {k i : Nat} {a : Str} {pn : List (Addr × Obj)} {xe : Value → Shared → Prop} {WW : WX} {E : XK} {tb : TE} {p1 p2 : Pos}
    {A' : Around} {st' : List Env} {s2 : Shared} {H2 : Hp} (J : Inv X pins σ H s) (L : LamX.LamS X.env.scope scope)
    (ob : s.heap.get? f = some (PySem.W.kla_obj "<lambda>" (X.env.qual ++ "<lambda>") params body scope (cloFrom X.env.cells scope.names []) pm c' ctv)) (fn : H f = none) (fr : f ∉ frs X.stack)
    (bnd : bindArgs (PySem.W.kla_fn "<lambda>" (X.env.qual ++ "<lambda>") params body scope (cloFrom X.env.cells scope.names []) pm (.ref c') ctv) ⟨[], []⟩ = pure [])
    (hun : ∀ HZ sZ, Un (frs st') [] H2 HZ s2.heap sZ → Un (frs X.stack) [] H HZ s.heap sZ)
    (tk : Takes ((cxOf CXg X.prog X.w X.K X.mg X.base Ng qg sg g cdg A' st' s2 H2 Eg).tr pn xe) WW) (hW : ∀ cls d σ' H', E cls d H' → WW cls d σ' H') (room : Room (k + 1) (A'.deeper (envOfC qg sg s2.heap.objs.size g cdg)))
    (hb : ∀ (A : Around) (outer : List Env) (s : Shared) (H : Hp), Room k (A.deeper (LamX.lamEnv X scope s.heap.objs.size f c')) → PE (LamX.lamCx X A outer s H E scope f c') body tb)
    (hN : Ng[i]? = some a) (vis : Vis sg a) (d1 : (a == ("__debug__" : Str)) = false := by decide) (d2 : (a == ("__classdict__" : Str)) = false := by decide) :
    PE ((cxOf CXg X.prog X.w X.K X.mg X.base Ng qg sg g cdg A' st' s2 H2 Eg).tr pn xe) (.Call (.Name a p1) [] [] p2)
      fun σZ HZ Q => σZ[i]? = some (some (.ref f)) ∧ HZ c' = some (LamX.CodeO c' (X.env.qual ++ "<lambda>")) ∧ tb σ HZ Q := by
  constructor
  rintro pinsZ sZ σZ HZ Q IZ ⟨g1, g2, g3⟩
  have nm := (pe_var (X := (cxOf CXg X.prog X.w X.K X.mg X.base Ng qg sg g cdg A' st' s2 H2 Eg).tr pn xe) (pos := p1) (i := i) hN vis d1 d2).run pinsZ sZ σZ HZ (fun v H1 => v = .ref f ∧ H1 = HZ) IZ ⟨.ref f, g1, rfl, rfl⟩
  refine wpAny_Call_Name_kw (thn nm ?_)
  rintro u s1 ⟨v, H1, I1, r1, rfl, rfl⟩
  have eu : u = Value.ref f := r1
  subst eu
  have un : Un (frs X.stack) [] H H1 s.heap s1.heap := hun _ _ I1.base
  have ob1 := un.keep f _ ob fn fr (fun z => nomatch z)
  refine PySem.W.callWith_F0 ⟨_, _, _, _, ob1⟩ ?_
  obtain ⟨⟨oc, vs, t, o1, o2, o3⟩, _, _⟩ := I1.hok c' _ g2
  have run : codeAny (model X.prog X.w) (A'.deeper (envOfC qg sg s2.heap.objs.size g cdg)) (.call (.ref f) ⟨[], []⟩) (CR (L2.CX X.prog X.w) (envOfC qg sg s2.heap.objs.size g cdg :: st') X.prog X.w H1 s1 Q E) s1 := by
    refine PySem.W.kla_callFunE room.depth ob1 rfl L.co L.gen rfl ⟨c', oc, vs, t, rfl, o1, o2, o3⟩ ?_
    rw [bnd]
    refine wpAny_pure (wpAny_newFunctionEnv (fun y hy => (L.own y hy).2) (fun y hy => absurd hy (by simp)) (fun h₁ ns sb => ⟨I1.nolimit.fresh _ sb, ?_⟩) L.kind)
    have kp : ∀ b o, s1.heap.get? b = some o → h₁.get? b = some o := fun b o e => sb.extBut b o (Nat.ne_of_lt (Heap.lt_size e)) (Heap.get?_push_of_some _ e)
    have I2 := LamX.lam_start2 (tk := s1.toks + ([] : List (Str × Value)).length) (E := E) (f := f) (c' := c') J L I1.env0 room.hd un ns kp
    refine PySem.W.kla_codeExpr (wpAny_mono ((hb _ _ s1 H1 (room.deeper _)).run [] _ _ H1 Q I2 g3) ?_ fun e s' hq => hq)
    rintro v s' ⟨w', H', J', rv, q⟩
    exact ⟨w', H', J'.os, J'.bare, J'.base, J'.hok, rv, q⟩
  have pass : Passes (L2.CX X.prog X.w) ((cxOf CXg X.prog X.w X.K X.mg X.base Ng qg sg g cdg A' st' s2 H2 Eg).tr pn xe) E := passes_call tk hW
  refine wpAny_call (codeAny_mono run ?_)
  rintro (e | fl) s' hq
  · exact pass pinsZ σZ H1 s1 e s' I1 hq
  · cases fl with
    | ret u => exact I1.after hq
    | next => exact hq.elim
    | brk => exact hq.elim
    | cont => exact hq.elim
end
/-- what the lambda's call reads as, in the frame of the def that gets it last -/
abbrev actR (f c' : Addr) (q : Str) (tl : XK → Hp → VK → Prop) (E : XK) : TE := fun σZ HZ Q => σZ[0]? = some (some (.ref f)) ∧ HZ c' = some (LamX.CodeO c' q) ∧ tl E HZ Q
/-- in the frame Y the lambda may be handed to the def T, which calls it by its name a -/
def ActIn (Y : Cx) (k : Nat) (Ng : List Str) (x : Str) (sg : Scope) (g : Addr) (cdg : Value) (a : Str) (f c' : Addr) (q : Str) (tl : XK → Hp → VK → Prop) : Prop :=
  ∀ (pins : List (Addr × Obj)) (s : Shared) (σ : L2.St) (H : Hp), Inv Y pins σ H s → Room (k + 2) Y.A → ∀ (WW : WX) (pn : List (Addr × Obj)) (xe : Value → Shared → Prop) (E : XK) (p1 p2 : Pos),
    Takes ((cxOf C8.CX0 Y.prog Y.w Y.K Y.mg Y.base Ng x sg g cdg Y.A Y.stack s H C8.E0).tr pn xe) WW → (∀ cls d σ' H', E cls d H' → WW cls d σ' H') →
    PE ((cxOf C8.CX0 Y.prog Y.w Y.K Y.mg Y.base Ng x sg g cdg Y.A Y.stack s H C8.E0).tr pn xe) (.Call (.Name a p1) [] [] p2) (actR f c' q tl E)
section
variable {Y : Cx}
/-- T(b), where b holds the lambda -/
theorem pe_pass {TT : (XK → Hp → VK → Prop) → Hp → VK → Prop} {tl : XK → Hp → VK → Prop} {x a b q : Str} {f c' g : Addr} {k i : Nat} {pg : Arguments} {bg : List Stmt} {sg : Scope} {dV kV doc pm cdv ct oc : Value} {an od : Option Addr} {osl : Array (Option Value)} {Ng : List Str} {p p' pos : Pos}
    (hg : Gl Y x) (hm : Y.mg x = some (.ref g)) (hk : PySem.W.keepIn Y.K (.ref g) = true)
    (lk : Y.K.lookup g = some ⟨oc, od, .func (PySem.W.fnOf x x pg bg sg dV kV doc pm an cdv ct), osl⟩) (hcg : PySem.W.codeIn Y.K cdv x = true) (hb : L2.Binds Y.K (PySem.W.fnOf x x pg bg sg dV kV doc pm an cdv ct) [a] []) (Sg : FnScope Ng [a] sg)
    (hG : LamX.GivesTo Y Ng x sg g cdv bg a q TT) (act : ActIn Y k Ng x sg g cdv a f c' q tl) (hr : Room (k + 2) Y.A)
    (hN : Y.N[i]? = some b) (hv : Vis Y.env.scope b) (hdb : (x == ("__debug__" : Str)) = false := by decide) (hd : (b == ("__debug__" : Str)) = false := by decide) (hcd : (b == ("__classdict__" : Str)) = false := by decide)
    (h1 : starEach [.Name b p'] Y.env = (false, eval (.Name b p') Y.env) :: starEach [] Y.env := by rfl) :
    PE Y (.Call (.Name x p) [.Name b p'] [] pos) (fun σ H Q => σ[i]? = some (some (.ref f)) ∧ H c' = some (LamX.CodeO c' q) ∧ TT tl H Q) := by
  constructor
  rintro pins s σ H Q I ⟨g1, g2, g3⟩
  refine wpAny_Call_Name_kw (ld_glob I hg hm ?_ hdb)
  have ar := (pa_cons (pe_var (X := Y) (pos := p') hN hv hd hcd) pa_nil h1).run pos pins s σ H (fun vs H1 => vs = [.ref f] ∧ H1 = H) I ⟨.ref f, g1, rfl, rfl⟩
  refine PySem.W.callWith_K (h₀ := Y.base) I.ok.mod.kin hk (thn ar ?_) h1 (by rfl)
  rintro us s1 ⟨vs, H1, I1, r, rfl, rfl⟩
  have eu : us = [Value.ref f] := Vals.ref1 r
  subst eu
  refine ⟨I1.kIn, ?_⟩
  have rc : codeAny (model Y.prog Y.w) Y.A (.call (.ref g) ⟨[.ref f], []⟩) (CR C8.CX0 Y.stack Y.prog Y.w H1 s1 Q C8.E0) s1 := by
    refine LamX.run_ofS (N := Ng) (ps := [a]) (us := [.ref f]) (vs := [.ref f]) lk hcg Sg (hr.mono (j := k + 1 + 1) (by omega)) I1.env0 (hb s1 [.ref f] I1.kIn rfl) (.cons rfl .nil) rfl fun _ => ?_
    obtain ⟨t', ht, hq⟩ := hG f c' s1 H1 Q tl (fun WW pn xe E p1 p2 tk hW => act pins s1 σ H1 I1 hr WW pn xe E p1 p2 tk hW) g2 g3
    exact ⟨t', ht.nox, hq⟩
  refine wpAny_call (codeAny_mono rc ?_)
  rintro (e | fl) s' hq
  · exact hq.elim
  · cases fl with
    | ret u => exact I1.after hq
    | next => exact hq.elim
    | brk => exact hq.elim
    | cont => exact hq.elim
end
section
variable {X : Cx} {pins : List (Addr × Obj)} {σ : L2.St} {H : Hp} {s : Shared}
theorem pin_lam {f c' : Addr} {pm ctv : Value} {q : Str} {params : Arguments} {body : Expr} {scope : Scope} {cl : List (Str × Addr)} (I : Inv X pins σ H s) (ob : s.heap.get? f = some (PySem.W.kla_obj "<lambda>" q params body scope cl pm c' ctv)) (fn : H f = none) (fr : f ∉ frs X.stack) :
    Inv X ((f, PySem.W.kla_obj "<lambda>" q params body scope cl pm c' ctv) :: pins) σ H s := by
  have nl : f ≠ X.env.locals := fun e => by
    obtain ⟨m, ⟨o, es, ep, h1, h2, _⟩, _⟩ := I.loc
    rw [← e, ob] at h1
    cases h1
    cases h2
  refine I.pins_of fun p hp => ?_
  rcases List.mem_cons.mp hp with rfl | hp
  · refine ⟨ob, fn, nl, fun z => fr ?_, fun v z => by cases z⟩
    rcases I.ok.stk with e | ⟨e, hf⟩
    · rw [e]; exact z
    · rw [e]
      unfold frs
      rw [List.filterMap_cons, hf]
      exact List.mem_cons_of_mem _ z
  · exact I.pin p (List.mem_append_right _ hp)
/-- the frame of R, which gets the lambda and a thing -/
abbrev rCx (X : Cx) (Ng : List Str) (x : Str) (sg : Scope) (g : Addr) (cdg : Value) (s : Shared) (H : Hp) : Cx := (cxOf C8.CX0 X.prog X.w X.K X.mg X.base Ng x sg g cdg X.A X.stack s H C8.E0).nox
/-- what R makes of the lambda's reading and of the thing -/
def Gives2 (X : Cx) (k : Nat) (Ng : List Str) (x : Str) (sg : Scope) (g : Addr) (cdg : Value) (bg : List Stmt) (NT' : List Str) (xT : Str) (sT : Scope) (gT : Addr) (cT : Value) (aT q : Str) (TT2 : (XK → Hp → VK → Prop) → V → Hp → VK → Prop) : Prop :=
  ∀ (f c' : Addr) (v : V) (s : Shared) (H : Hp) (Q : VK) (tl : XK → Hp → VK → Prop), Room (k + 2) (rCx X Ng x sg g cdg s H).A → ActIn (rCx X Ng x sg g cdg s H) k NT' xT sT gT cT aT f c' q tl → H c' = some (LamX.CodeO c' q) → TT2 tl v H Q →
    ∃ t, PSs (rCx X Ng x sg g cdg s H) bg t ∧ t { nx := fun _ H' => Q .non H', rt := Q } (L2.start Ng [.ref f, v]) H
/-- R(lambda: body, e2) -/
def tLam2 (T : List (Addr × Str)) (q : Str) (TT2 : (XK → Hp → VK → Prop) → V → Hp → VK → Prop) (t : XK → TE) (te2 : TE) : TE := fun σ H Q => LamX.Tabs T H ∧ ∀ (H1 : Hp) (c' : Addr), LamX.ExtN H H1 → LamX.Tabs T H1 → H1 c' = some (LamX.CodeO c' q) →
  te2 σ H1 fun v H2 => H2 c' = some (LamX.CodeO c' q) ∧ TT2 (fun E H' Q' => t E σ H' Q') v H2 Q
theorem pe_lam2 {T : List (Addr × Str)} {TT2 : (XK → Hp → VK → Prop) → V → Hp → VK → Prop} {x a d : Str} {g c P : Addr} {k : Nat} {pg : Arguments} {bg : List Stmt} {sg : Scope} {dV kV doc pm cdv ct oc : Value} {an od : Option Addr} {osl : Array (Option Value)} {Ng : List Str}
    {NT' : List Str} {xT : Str} {sT : Scope} {gT : Addr} {cT : Value} {aT : Str}
    {params : Arguments} {body e2 : Expr} {scope : Scope} {t : XK → TE} {te2 : TE} {p lpos pos : Pos} (hg : Gl X x) (hm : X.mg x = some (.ref g)) (hk : PySem.W.keepIn X.K (.ref g) = true)
    (lk : X.K.lookup g = some ⟨oc, od, .func (PySem.W.fnOf x x pg bg sg dV kV doc pm an cdv ct), osl⟩) (hcg : PySem.W.codeIn X.K cdv x = true) (hb : L2.Binds X.K (PySem.W.fnOf x x pg bg sg dV kV doc pm an cdv ct) [a, d] []) (Sg : FnScope Ng [a, d] sg)
    (hG : Gives2 X k Ng x sg g cdv bg NT' xT sT gT cT aT (X.env.qual ++ "<lambda>") TT2) (hNT : NT'[0]? = some aT) (hvT : Vis sT aT)
    (TB : LamX.TabB X.base X.mg c P) (hcode : X.env.code = .ref c) (hmT : (P, X.env.qual ++ "<lambda>") ∈ T) (hu : ∀ p ∈ T, p.1 = P → p.2 = X.env.qual ++ "<lambda>") (hr : Room (k + 3) X.A) (L : LamX.LamS X.env.scope scope) (hdef : defaultsOf params X.env = ([], []))
    (hbind : ∀ (q : Str) (cl : List (Str × Addr)) (pm cv ctv : Value), bindArgs (PySem.W.kla_fn "<lambda>" q params body scope cl pm cv ctv) ⟨[], []⟩ = pure [])
    (hbody : ∀ (A : Around) (outer : List Env) (s : Shared) (H : Hp) (E : XK) (f c' : Addr), Room k (A.deeper (LamX.lamEnv X scope s.heap.objs.size f c')) → PE (LamX.lamCx X A outer s H E scope f c') body (t E))
    (h2 : PE X e2 te2)
    (hdb : (x == ("__debug__" : Str)) = false := by decide) (hdT : (aT == ("__debug__" : Str)) = false := by decide) (hcT : (aT == ("__classdict__" : Str)) = false := by decide)
    (hs1 : starEach [.Lambda params body scope lpos, e2] X.env = (false, eval (.Lambda params body scope lpos) X.env) :: starEach [e2] X.env := by rfl) (hs2 : starEach [e2] X.env = (false, eval e2 X.env) :: starEach [] X.env := by rfl) (hpl : (backTo pos (starEach [e2] X.env)).any (·.1) = false := by rfl) :
    PE X (.Call (.Name x p) [.Lambda params body scope lpos, e2] [] pos) (tLam2 T (X.env.qual ++ "<lambda>") TT2 t te2) := by
  constructor
  rintro pins s σ H Q I ⟨hT, h⟩
  refine wpAny_Call_Name_kw (ld_glob I hg hm ?_ hdb)
  refine PySem.W.callWith_K (h₀ := X.base) I.ok.mod.kin hk ?_ hs1 hpl
  rw [hs1]
  show wpAny _ _ (spliced ((false, eval (.Lambda params body scope lpos) X.env) :: backTo pos (starEach [e2] X.env))) _ _ s
  refine Calls.spliced_cons (LamX.lam_make2 I TB hcode hmT hu hT hdef (L.has I.ok) fun f c' pm' ctv H1 s1 I1 eN T1 ob fn fr hco => ?_)
  have I2 := pin_lam I1 ob fn fr
  refine thn ((pa_cons h2 pa_nil hs2).run pos _ s1 σ H1 (fun vs H2 => match vs with
    | [v] => H2 c' = some (LamX.CodeO c' (X.env.qual ++ "<lambda>")) ∧ TT2 (fun E H' Q' => t E σ H' Q') v H2 Q
    | _ => False) I2 (h H1 c' eN T1 hco)) ?_
  rintro us s3 ⟨vs, H3, I3, r3, q3⟩
  match vs, r3, q3 with
  | [v], .cons r3 .nil, ⟨hc3, tt⟩ =>
  rename_i u
  obtain ⟨ob3, fn3, _, _, _⟩ := I3.pin _ (List.mem_append_right _ List.mem_cons_self)
  have I4 : Inv X pins σ H3 s3 := I3.pins_of fun p hp => I3.pin p (List.mem_append_right _ (List.mem_cons_of_mem _ hp))
  refine ⟨I3.kIn, ?_⟩
  have rc : codeAny (model X.prog X.w) X.A (.call (.ref g) ⟨[.ref f, u], []⟩) (CR C8.CX0 X.stack X.prog X.w H3 s3 Q C8.E0) s3 := by
    refine LamX.run_ofS (N := Ng) (ps := [a, d]) (us := [.ref f, u]) (vs := [.ref f, v]) lk hcg Sg (hr.mono (j := k + 2 + 1) (by omega)) I4.env0 (hb s3 [.ref f, u] I4.kIn rfl) (.cons rfl (.cons r3 .nil)) rfl fun hr' => ?_
    have act : ActIn (rCx X Ng x sg g cdv s3 H3) k NT' xT sT gT cT aT f c' (X.env.qual ++ "<lambda>") (fun E H' Q' => t E σ H' Q') := by
      intro pY sY σY HY IY hrY WW pn xe E p1 p2 tk hW
      have un : ∀ (HZ : Hp) (sZ : Heap), Un (frs (rCx X Ng x sg g cdv s3 H3).stack) [] HY HZ sY.heap sZ → Un (frs X.stack) [] H3 HZ s3.heap sZ := fun HZ sZ u2 => by
        have fr1 : frs (rCx X Ng x sg g cdv s3 H3).stack = s3.heap.objs.size :: frs X.stack := by
          show frs (envOfC x sg s3.heap.objs.size g cdv :: X.stack) = _
          unfold frs
          rw [List.filterMap_cons]
          rfl
        have b1 : Un (frs X.stack) [] H3 HY s3.heap sY.heap := IY.base
        rw [fr1] at u2
        refine unBelow ((b1.mono (fs' := s3.heap.objs.size :: frs X.stack) (fun b z => List.mem_cons_of_mem _ z) (fun _ z => z)).trans u2) (fun b o q z => ?_) fun b z => List.mem_cons_of_mem _ z
        rcases List.mem_cons.mp z with e | z
        · have h9 := Heap.lt_size q
          rw [e] at h9
          exact absurd h9 (Nat.lt_irrefl _)
        · exact z
      exact pe_actZ (X := X) (CXg := C8.CX0) (Eg := C8.E0) (A' := (rCx X Ng x sg g cdv s3 H3).A) (st' := (rCx X Ng x sg g cdv s3 H3).stack) (s2 := sY) (H2 := HY) (tb := t E) (WW := WW) (pn := pn) (xe := xe) (E := E) (i := 0) I4 L ob3 fn3 fr (hbind _ _ _ _ _) un tk hW (hrY.deeper _) (fun A outer s H hr2 => hbody A outer s H E f c' hr2) hNT hvT hdT hcT
    obtain ⟨t', ht, hq⟩ := hG f c' v s3 H3 Q (fun E H' Q' => t E σ H' Q') hr' act hc3 tt
    exact ⟨t', ht.nox, hq⟩
  refine wpAny_call (codeAny_mono rc ?_)
  rintro (e | fl) s' hq
  · exact hq.elim
  · cases fl with
    | ret u => exact I4.after hq
    | next => exact hq.elim
    | brk => exact hq.elim
    | cont => exact hq.elim
end
theorem satS_ext {K : PySem.W.Frag} {cl : Cl} {W : Wd} {st : S} {H H1 : Hp} (s : SatS K cl W st H) (ex : LamX.ExtN H H1) (tb : LamX.Tabs cl.T H1) : SatS K cl W st H1 := by
  refine ⟨fun b o e => ex b o (s.ex b o e) (s.nt b o e), s.len, s.nod, s.off, fun i o e => ?_, s.nt, tb⟩
  obtain ⟨b, h1, h2⟩ := s.mo i o e
  refine ⟨b, h1, ?_⟩
  cases o with
  | lst ds => obtain ⟨vs, q1, q2⟩ := h2; exact ⟨vs, ex b _ q1 NT.lst, q2⟩
  | ins cc fs => obtain ⟨dx, vs, q1, q2⟩ := h2; exact ⟨dx, vs, ex b _ q1 NT.ins, q2⟩
  | dct ks ds => obtain ⟨vs, q1, q2⟩ := h2; exact ⟨vs, ex b _ q1 NT.dK, q2⟩
/-! ### the same over plain data -/
def TRaise (K : PySem.W.Frag) (cl : Cl) (c : Str) (ok : Nat → Bool) (hF : Exn → S → R D) (sem : List D → S → R D) : (XK → Hp → VK → Prop) → V → Hp → VK → Prop := fun tl v H Q => ∃ (W : Wd) (st : S) (r : R D) (dd : D), SatS K cl W st H ∧ Rp K cl W v dd ∧
  (∀ (E : XK) (W' : Wd) (H' : Hp) (Q' : VK), Grow W H W' → Keep W.A H H' → SatS K cl W' st H' → Aft K cl E (Rp K cl) W' H' r Q' → tl E H' Q') ∧ Aft K cl E0 (Rp K cl) W H ((tryD c ok hF r).bind fun x st1 => sem [x, dd] st1) Q
/-- R(lambda: b, e): sem [what T makes of b, e] -/
def dRaise (c : Str) (ok : Nat → Bool) (hF : Exn → S → R D) (sem : List D → S → R D) (fl fe : Ev → S → R D) : Ev → S → R D := fun ρ st => (fe ρ st).bind fun dd st1 => noX ((tryD c ok hF (fl ρ st1)).bind fun x st2 => sem [x, dd] st2)
section
variable {X : Cx} {cl : Cl}
theorem gives2_raise {k kS : Nat} {Ng NT' psS : List Str} {x xT xS a d aT q c : Str} {sg sT : Scope} {g gT fS : Addr} {cdg : Value} {pg : Arguments} {bT : List Stmt} {fdS fdT : FuncData} {ok : Nat → Bool} {hF : Exn → S → R D} {sem : List D → S → R D} {pS pT pa pd p1 p2 p3 : Pos}
    (hgT : ∀ s H, Gl (rCx X Ng x sg g cdg s H) xT) (hmT : X.mg xT = some (.ref gT)) (FT : FunD X.K xT xT pg bT sT [] [] gT fdT) (hbT : L2.Binds X.K fdT [aT] []) (ST : FnScope NT' [aT] sT)
    (hG : ∀ cdv s H, Room (k + 2) (rCx X Ng x sg g cdg s H).A → LamX.GivesTo (rCx X Ng x sg g cdg s H) NT' xT sT gT cdv bT aT q (TTry X.K cl c ok hF))
    (G : FnOk X.prog X.w X.K X.mg X.base CX0 kS fS fdS psS (spG X.K cl sem)) (hkk : kS ≤ k + 2) (hgS : ∀ s H, Gl (rCx X Ng x sg g cdg s H) xS) (hmS : X.mg xS = some (.ref fS)) (hkS : PySem.W.keepIn X.K (.ref fS) = true) (hbS : Binds X.K fdS psS [])
    (hN0 : Ng[0]? = some a) (hN1 : Ng[1]? = some d) (v0 : Vis sg a) (v1 : Vis sg d) (h0 : ∀ (f : Addr) (v : V), (L2.start Ng [V.ref f, v])[0]? = some (some (V.ref f)) ∧ (L2.start Ng [V.ref f, v])[1]? = some (some v))
    (d1 : (xT == ("__debug__" : Str)) = false := by decide) (d2 : (a == ("__debug__" : Str)) = false := by decide) (d3 : (a == ("__classdict__" : Str)) = false := by decide) (d4 : (xS == ("__debug__" : Str)) = false := by decide) (d5 : (d == ("__debug__" : Str)) = false := by decide) (d6 : (d == ("__classdict__" : Str)) = false := by decide) :
    ∃ cT, Gives2 X k Ng x sg g cdg [.Return (some (.Call (.Name xS pS) [.Call (.Name xT pT) [.Name a pa] [] p1, .Name d pd] [] p2)) p3] NT' xT sT gT cT aT q (TRaise X.K cl c ok hF sem) := by
  obtain ⟨oc, od, dV, kV, doc, pmv, an, cdv, ct, osl, rfl, lk, hcd2, hD, hK⟩ := id FT.ex
  refine ⟨cdv, ?_⟩
  rintro f c' v s H Q tl hr act hco ⟨W, st, r, dd, s0, rv, hl, h⟩
  refine ⟨_, pss_one (ps_ret (pe_call (dvs := []) (E := E0) G (hr.mono hkk) (hgS s H) hmS hkS hbS .nil passA (pa_cons (pe_pass (i := 0) (f := f) (c' := c') (tl := tl) (hgT s H) hmT FT.kp lk hcd2 hbT ST (hG cdv s H hr) act hr hN0 v0 d1 d2 d3) (pa_cons (pe_var (i := 1) hN1 v1 d5 d6) pa_nil rfl) rfl) d4 rfl rfl)), ?_⟩
  refine ⟨(h0 f v).1, hco, W, st, r, s0, hl, (Aft.peel h).imp (fun _ _ _ r => r) ?_⟩
  rintro x H1 ⟨dx, st1, W1, g1, k1, s1, r1, h1⟩
  exact ⟨v, (h0 f v).2, W1, st1, [dx, dd], s1, .cons r1 (.cons (rv.grow g1) .nil), h1⟩
theorem dv_lam2 {E : XK} {c : Str} {ok : Nat → Bool} {hF : Exn → S → R D} {sem : List D → S → R D} {fl fe : Ev → S → R D} {x a d : Str} {g cc P : Addr} {k : Nat} {fd : FuncData} {pg : Arguments} {bg : List Stmt} {sg : Scope} {Ng : List Str} {NT' : List Str} {xT : Str} {sT : Scope} {gT : Addr} {aT : Str}
    {params : Arguments} {body e2 : Expr} {scope : Scope} {p lpos pos : Pos} (F : FunD X.K x x pg bg sg [] [] g fd) (hg : Gl X x) (hm : X.mg x = some (.ref g)) (hb : L2.Binds X.K fd [a, d] []) (Sg : FnScope Ng [a, d] sg)
    (hG : ∀ cdv, ∃ cT, Gives2 X k Ng x sg g cdv bg NT' xT sT gT cT aT (X.env.qual ++ "<lambda>") (TRaise X.K cl c ok hF sem)) (hNT : NT'[0]? = some aT) (hvT : Vis sT aT)
    (TB : LamX.TabB X.base X.mg cc P) (hcode : X.env.code = .ref cc) (hmT : (P, X.env.qual ++ "<lambda>") ∈ cl.T) (hu : ∀ p ∈ cl.T, p.1 = P → p.2 = X.env.qual ++ "<lambda>") (hr : Room (k + 3) X.A) (L : LamX.LamS X.env.scope scope) (hdef : defaultsOf params X.env = ([], []))
    (hbind : ∀ (q : Str) (cl : List (Str × Addr)) (pm cv ctv : Value), bindArgs (PySem.W.kla_fn "<lambda>" q params body scope cl pm cv ctv) ⟨[], []⟩ = pure [])
    (hbody : ∀ (A : Around) (outer : List Env) (s : Shared) (H : Hp) (E : XK) (f c' : Addr), Room k (A.deeper (LamX.lamEnv X scope s.heap.objs.size f c')) → DV (LamX.lamCx X A outer s H E scope f c') cl E body fl)
    (h2 : DV X cl E e2 fe)
    (hdb : (x == ("__debug__" : Str)) = false := by decide) (hdT : (aT == ("__debug__" : Str)) = false := by decide) (hcT : (aT == ("__classdict__" : Str)) = false := by decide)
    (hs1 : starEach [.Lambda params body scope lpos, e2] X.env = (false, eval (.Lambda params body scope lpos) X.env) :: starEach [e2] X.env := by rfl) (hs2 : starEach [e2] X.env = (false, eval e2 X.env) :: starEach [] X.env := by rfl) (hpl : (backTo pos (starEach [e2] X.env)).any (·.1) = false := by rfl) :
    DV X cl E (.Call (.Name x p) [.Lambda params body scope lpos, e2] [] pos) (dRaise c ok hF sem fl fe) := by
  obtain ⟨oc, od, dV, kV, doc, pmv, an, cdv, ct, osl, rfl, lk, hcd2, hD, hK⟩ := F.ex
  obtain ⟨cT, hG2⟩ := hG cdv
  refine PEimp (pe_lam2 (T := cl.T) (k := k) (t := fun E => liftV X.K cl E fl) hg hm F.kp lk hcd2 hb Sg hG2 hNT hvT TB hcode hmT hu hr L hdef hbind (fun A outer s H E f c' hr => hbody A outer s H E f c' hr) h2 hdb hdT hcT hs1 hs2 hpl) fun σ H Q h => ?_
  obtain ⟨W, ρ, st, s, l, h⟩ := h
  refine ⟨s.tab, fun H1 c' ex tb hco => ?_⟩
  have s1 : SatS X.K cl W st H1 := satS_ext s ex tb
  have kp : Keep W.A H H1 := fun b o e t _ => ex b o e t
  have l1 : SatL X.K cl W ρ σ H1 := l.keep .refl kp
  have h9 : Aft X.K cl E (Rp X.K cl) W H1 (dRaise c ok hF sem fl fe ρ st) Q := Aft.mono h .refl kp s1
  refine ⟨W, ρ, st, s1, l1, (Aft.peel h9).imp (fun _ _ _ r => r) ?_⟩
  rintro v H2 ⟨dd, st1, W1, g1, k1, s2, r1, h1⟩
  have hA : c' ∉ W.A := fun m => by
    obtain ⟨i, hi, e⟩ := List.getElem_of_mem m
    have hi2 : i < st.length := by rw [← s1.len]; exact hi
    obtain ⟨b, q1, q2⟩ := s1.mo i st[i] (List.getElem?_eq_getElem hi2)
    rw [List.getElem?_eq_getElem hi, e] at q1
    cases q1
    have hco2 := hco
    cases eo : st[i] with
    | lst ds => rw [eo] at q2; obtain ⟨vs, q3, _⟩ := q2; rw [q3] at hco2; unfold LamX.CodeO at hco2; cases hco2
    | ins cc fs => rw [eo] at q2; obtain ⟨dx, vs, q3, _⟩ := q2; rw [q3] at hco2; unfold LamX.CodeO at hco2; cases hco2
    | dct ks ds => rw [eo] at q2; obtain ⟨vs, q3, _⟩ := q2; rw [q3] at hco2; unfold LamX.CodeO at hco2; cases hco2
  refine ⟨k1 c' _ hco (fun ps z => LamX.codeO_ne ps z) hA, W1, st1, fl ρ st1, dd, s2, r1, fun E' W' H' Q' gr kp' s' h' => ⟨W', ρ, st1, s', (l1.keep g1 k1).keep gr kp', h'⟩, Aft.noX h1⟩
end
theorem satL_noN {K : PySem.W.Frag} {cl : Cl} {W : Wd} {H : Hp} {n : Nat} {σ : L2.St} (hl : σ.length = n) : SatL K cl W (List.replicate n .no) σ H := by
  have no : ∀ (j : Nat) (s : Sl), (List.replicate n Sl.no)[j]? = some s → s = .no := fun j s e => by
    rw [List.getElem?_replicate] at e
    split at e
    · exact (Option.some.inj e).symm
    · cases e
  refine ⟨by rw [List.length_replicate, hl], ?_, ?_, ?_, ?_, ?_, ?_⟩
  · intro j d e; cases no j _ e
  · intro j d e; cases no j _ e
  · intro j m ds es p _ e; cases no j _ e
  · intro j y e; cases no j _ e
  · intro j o e; cases no j _ e
  · intro j m o u p _ e; cases no j _ e
theorem code_off {K : PySem.W.Frag} {cl : Cl} {W : Wd} {st : S} {H : Hp} {c' : Addr} {q : Str} (s : SatS K cl W st H) (h : H c' = some (LamX.CodeO c' q)) : c' ∉ W.A := fun m => by
  obtain ⟨i, hi, e⟩ := List.getElem_of_mem m
  have hi2 : i < st.length := by rw [← s.len]; exact hi
  obtain ⟨b, q1, q2⟩ := s.mo i st[i] (List.getElem?_eq_getElem hi2)
  rw [List.getElem?_eq_getElem hi, e] at q1
  cases q1
  have h2 := h
  cases eo : st[i] with
  | lst ds => rw [eo] at q2; obtain ⟨vs, q3, _⟩ := q2; rw [q3] at h2; unfold LamX.CodeO at h2; cases h2
  | ins cc fs => rw [eo] at q2; obtain ⟨dx, vs, q3, _⟩ := q2; rw [q3] at h2; unfold LamX.CodeO at h2; cases h2
  | dct ks ds => rw [eo] at q2; obtain ⟨vs, q3, _⟩ := q2; rw [q3] at h2; unfold LamX.CodeO at h2; cases h2
section
variable {X : Cx} {cl : Cl}
/-- w = e0 / try: w = (c, ask()) / except (..) as e: w = E / return w -/
theorem gives_tryA {Ng : List Str} {x a e q c wn : Str} {sg : Scope} {g : Addr} {cdg : Value} {ok : Nat → Bool} {cs : List Value} {fE : Ev → S → R D} {hF : Exn → S → R D} {f0 : Ev → S → R D} {t eE e0 : Expr} {d0 : D} {j k : Nat} {p1 p2 p3 p4 p5 p6 p7 p8 p9 p10 p11 p12 p13 p14 : Pos} {i w : Nat}
    (hN : Ng.Nodup) (hi : Ng[i]? = some e) (hw : Ng[w]? = some wn) (hiw : i ≠ w) (hln : sg.names.lookup e = some .local) (hlw : sg.names.lookup wn = some .local) (hc : ∀ s H, Tst (zCx X Ng x sg g cdg s H) t cs) (hcat : ∀ z, ok z = true → PySem.W.exmAny X.K (.ref (cl z)) cs = some true)
    (hs0 : ∀ f : Addr, (L2.start Ng [V.ref f])[0]? = some (some (V.ref f))) (hsl : ∀ f : Addr, (L2.start Ng [V.ref f]).length = Ng.length) (w0 : w ≠ 0)
    (he0 : ∀ (s : Shared) (H : Hp), DV (zCx X Ng x sg g cdg s H) cl E0 e0 f0) (hf0 : ∀ ρ st, f0 ρ st = .ok d0 st)
    (hE : ∀ (s : Shared) (H : Hp) (b : Addr) (oe : Obj) (pn : List (Addr × Obj)) (cl' : Cl), HotX ((zCx X Ng x sg g cdg s H).suite b ((b, oe) :: pn)) cl' → cl'.c = cl.c → cl'.T = cl.T → DV ((zCx X Ng x sg g cdg s H).suite b ((b, oe) :: pn)) cl' E0 eE fE)
    (hm : ∀ y st, hF y st = fE (exE Ng.length i y) st)
    (sw0 : ∀ s H, swapsWith e0 (some (.Name wn p9)) p10.line (zCx X Ng x sg g cdg s H).env = pure false) (sw1 : ∀ s H, swapsWith (.Tuple [.Constant (.str c) j p1, .Call (.Name a p2) [] [] p3] k p4) (some (.Name wn p11)) p5.line (zCx X Ng x sg g cdg s H).env = pure false) (sw2 : ∀ s H, swapsWith eE (some (.Name wn p12)) p6.line (zCx X Ng x sg g cdg s H).env = pure false)
    (dw : (wn == ("__debug__" : Str)) = false := by decide) (dw2 : (wn == ("__classdict__" : Str)) = false := by decide) :
    LamX.GivesTo X Ng x sg g cdg [.Assign [.Name wn p9] e0 p10, .Try [.Assign [.Name wn p11] (.Tuple [.Constant (.str c) j p1, .Call (.Name a p2) [] [] p3] k p4) p5] [.ExceptHandler (some t) (some e) [.Assign [.Name wn p12] eE p6] p7] [] [] p8, .Return (some (.Name wn p13)) p14] a q (TTry X.K cl c ok hF) := by
  intro f c' s H Q tl act hco hTT
  obtain ⟨W, st, r, s0, hl, h⟩ := hTT
  let Z := zCx X Ng x sg g cdg s H
  let tAct : XK → TE := fun E σZ HZ Q => σZ[0]? = some (some (.ref f)) ∧ HZ c' = some (LamX.CodeO c' q) ∧ tl E HZ Q
  let ts : Addr → Value → Option Addr → TS := fun b cls d Dn σ H' => ∃ dx z, cls = .ref (cl z) ∧ d = some dx ∧ liftV X.K (cl.hot b dx z) E0 fE σ H' (fun v H1 => Dn.nx (σ.set w (some v)) H1)
  have wl : w < Ng.length := (List.getElem?_eq_some_iff.mp hw).1
  refine ⟨_, pss_cons (ps_set (X := Z) hN hw (.inl hlw) (he0 s H) (sw0 s H)) (pss_cons (ps_tryT (X := Z) (cs := cs) (i := i) (ts := ts) (Wout := fun _ _ _ _ => False)
    (tb := fun W' Dn σ H' => ∃ Ech : XK, (∀ cls d σ' H', Ech cls d H' → σ'.length = Ng.length → W' cls d σ' H') ∧ tTupF (tCons (tC (.str c)) (tCons (tAct Ech) tNil)) σ H' (fun v H1 => Dn.nx (σ.set w (some v)) H1))
    rfl rfl hN hi hln (hc s H) LamX.takes0 (fun W' pn xe tk _ => ?_) (fun b oe cls d pn hz hf => ?_)) (pss_one (ps_ret (pe_var (X := Z) hw (.inl hlw) dw dw2)))), ?_⟩
  · refine ⟨fun pins s' σ H' Dn I h' => ?_⟩
    obtain ⟨Ech, hW, h1⟩ := h'
    have hp := act _ pn xe Ech p2 p3 (Takes.len tk) (fun cls d σ' H' z => hW cls d σ' H' z)
    have ht := pss_one (ps_set (X := Z.tr pn xe) (pos := p5) hN hw (.inl hlw) (@pe_tupF _ _ _ p4 k (pa_cons (pe_str (x := c) (j := j) (pos := p1)) (pa_cons hp pa_nil rfl) rfl)) (sw1 s H))
    exact ht.run pins s' σ H' Dn I h1
  · refine ⟨fun pins s' σ H' Dn I h' => ?_⟩
    obtain ⟨dx, z, rfl, rfl, h1⟩ := h'
    have hx : HotX ((zCx X Ng x sg g cdg s H).suite b ((b, oe) :: pn)) (cl.hot b dx z) := fun a' d' z' e' => by
      cases e'
      exact ⟨oe, List.mem_cons_self, hz, hf⟩
    exact (pss_one (ps_set (X := Z.suite b ((b, oe) :: pn)) (pos := p6) hN hw (.inl hlw) (hE s H b oe pn (cl.hot b dx z) hx rfl rfl) (sw2 s H))).run pins s' σ H' Dn I h1
  · refine ⟨W, List.replicate Ng.length .no, st, s0, satL_noN (hsl f), ?_⟩
    rw [hf0]
    rintro v0 H1 W1 gr1 kp1 s1 _
    have hco1 : H1 c' = some (LamX.CodeO c' q) := kp1 c' _ hco (fun ps z => LamX.codeO_ne ps z) (code_off s0 hco)
    let Ech : XK := fun cls d H' => PySem.W.exmAny X.K cls cs = some true ∧ ∀ b, H' b = none → ∀ σ' : L2.St, σ'.length = Ng.length → ∃ dx z, cls = .ref (cl z) ∧ d = some dx ∧ liftV X.K (cl.hot b dx z) E0 fE (σ'.set i (some (.ref b))) H' (fun v H1 => ∃ u, (((σ'.set i (some (.ref b))).set w (some v)).set i none)[w]? = some (some u) ∧ Q u H1)
    refine ⟨Ech, fun cls d σ' H' z hlen => ⟨true, z.1, fun _ b hb => ?_, fun z => (by cases z)⟩, ?_⟩
    · exact z.2 b hb σ' hlen
    · have st0 : ((L2.start Ng [V.ref f]).set w (some v0))[0]? = some (some (V.ref f)) := by
        rw [List.getElem?_set_ne w0]
        exact hs0 f
      have h2 : Aft X.K cl E0 (Rp X.K cl) W1 H1 (tryD c ok hF r) Q := Aft.mono h gr1 kp1 s1
      refine ⟨st0, hco1, hl Ech W1 H1 _ gr1 kp1 s1 ?_⟩
      have put : ∀ (τ : L2.St) (v : V), τ.length = Ng.length → (τ.set w (some v))[w]? = some (some v) := fun τ v e => List.getElem?_set_self (by rw [e]; exact wl)
      cases r with
      | stuck => exact h2
      | ok d st1 =>
        intro v H' W' gr kp s2 rv
        refine ⟨by rw [sizeLine_eq]; show 2 ≤ _; omega, ?_⟩
        have h3 : Aft X.K cl E0 (Rp X.K cl) W' H' (.ok (.tup [.str c, d]) st1) Q := Aft.mono (show Aft X.K cl E0 (Rp X.K cl) W1 H1 (.ok (.tup [.str c, d]) st1) Q from h2) gr kp s2
        have h4 := h3.newT s2 (.cons (.str c) (.cons rv .nil))
        exact fun p o hn ho => ⟨_, put _ _ (by rw [List.length_set]; exact hsl f), h4 p o hn ho⟩
      | ex y st1 =>
        intro dx H' W' gr kp s2 rx
        unfold tryD at h2
        dsimp only at h2
        split at h2
        · rename_i hok
          refine ⟨hcat _ hok, fun b hb σ' hlen => ⟨dx, y.c, rfl, rfl, W', exE Ng.length i y, st1, s2.cl (hot_c _ _ _ _) (hot_T _ _ _ _), ?_, ?_⟩⟩
          · obtain ⟨vs, r1, r2⟩ := rx
            exact satL_exE rfl r1 (r2.cl (hot_c _ _ _ _)) hlen
          · have fin : ∀ u, (((σ'.set i (some (V.ref b))).set w (some u)).set i none)[w]? = some (some u) := fun u => by
              rw [List.getElem?_set_ne hiw]
              exact put _ _ (by rw [List.length_set]; exact hlen)
            rw [hm] at h2
            have h3 := Aft.mono (Aft.noX (E' := E0) h2) gr kp s2
            cases e : fE (exE Ng.length i y) st1 with
            | stuck => rw [e] at h3; exact h3
            | ok d st' => rw [e] at h3; exact fun v H2 W2 g2 k2 s3 r2 => ⟨v, fin v, h3 v H2 W2 g2 k2 (s3.cl (hot_c _ _ _ _).symm (hot_T _ _ _ _).symm) (r2.cl (hot_c _ _ _ _).symm)⟩
            | ex y' st' => rw [e] at h2; exact (show False from h2).elim
        · exact h2.elim
end
end DL
set_option maxHeartbeats 400000
/-! The data layer: min of a list or tuple of texts. -/
namespace DL
open PySem PySem.Spec PyProof.Rows L2
/-- the least text -/
def leastT (x : Str) (xs : List Str) : Str := xs.foldl (fun a y => if PySem.W.dataLt (py (.str y)) (py (.str a)) then y else a) x
theorem minD_least : ∀ (xs : List Str) (x : Str), PySem.W.minD (py (.str x)) (xs.map fun q => py (.str q)) = py (.str (leastT x xs))
  | [], x => rfl
  | y :: xs, x => by
    unfold PySem.W.minD leastT
    rw [List.map_cons, List.foldl_cons, List.foldl_cons]
    have h := minD_least xs (if PySem.W.dataLt (py (.str y)) (py (.str x)) then y else x)
    unfold PySem.W.minD leastT at h
    rw [← h]
    congr 1
    split <;> rfl
def minTD (d : D) (st : S) : R D := match view d st with
  | .lst ds => (match strsOf ds with
    | some (x :: xs) => .ok (.str (leastT x xs)) st
    | _ => .stuck)
  | .tup ds => (match strsOf ds with
    | some (x :: xs) => .ok (.str (leastT x xs)) st
    | _ => .stuck)
  | _ => .stuck
theorem py_str (x : Str) : py (.str x) = .str x := by
  simp only [py]
section
variable {X : Cx} {cl : Cl} {E : XK} {W : Wd} {H : Hp}
theorem strs_reads {pins : List (Addr × Obj)} {σ : L2.St} {s : Shared} (I : Inv X pins σ H s) (hf : Same W.F H) : ∀ {vs : List V} {us : List Value} {xs : List Str}, Vals vs us → RpAll X.K cl W vs (xs.map .str) →
    ∃ as, ReadsAll s.heap us (xs.map fun q => py (.str q)) as
  | _, _, [], .nil, .nil => ⟨_, .nil⟩
  | _, _, x :: xs, .cons rv r, .cons q qs => by
    obtain ⟨as, h⟩ := strs_reads I hf r qs
    obtain ⟨bs, h2⟩ := Dp.reads I _ _ _ (q.dp hf rfl) rv
    exact ⟨_, .cons h2 h⟩
theorem str_alike (p q : Str) : PySem.W.alike (py (.str p)) (py (.str q)) = true := by
  rw [py_str, py_str]
  simp [PySem.W.alike]
theorem str_read {h : Heap} {u : Value} {p q : Str} {as bs : List Addr} (h1 : Reads h u (py (.str p)) as) (h2 : Reads h u (py (.str q)) bs) : p = q := by
  rw [py_str] at h1 h2
  cases h1
  cases h2
  rfl
theorem strs_depth : ∀ xs : List Str, PyData.depthAll (xs.map fun q => py (.str q)) ≤ 1
  | [] => by simp [PyData.depthAll]
  | p :: ps => by
    have := strs_depth ps
    rw [List.map_cons, PyData.depthAll, py_str]
    simp [PyData.depth]
    omega
theorem least_mem : ∀ (xs : List Str) (x : Str), leastT x xs ∈ x :: xs
  | [], x => List.mem_cons_self
  | y :: xs, x => by
    unfold leastT
    rw [List.foldl_cons]
    have h := least_mem xs (if PySem.W.dataLt (py (.str y)) (py (.str x)) then y else x)
    rcases List.mem_cons.mp h with e | h
    · rw [show List.foldl _ _ xs = _ from e]
      split
      · exact List.mem_cons_of_mem _ List.mem_cons_self
      · exact List.mem_cons_self
    · exact List.mem_cons_of_mem _ (List.mem_cons_of_mem _ h)
theorem cr_minTD (hc : X.calm = true) (hu : X.A.units + 64 < cLine) : CallR X (.builtin "min") (rL X.K cl E (one minTD)) := by
  intro pins s σ H xs us Q I rv h0
  obtain ⟨v, W, ρ, σ', st, d, rfl, s0, l0, o, h⟩ := one_of h0
  clear h0
  have ali : ∀ (p : Str) (ps : List Str), PySem.W.AlikeAll ((p :: ps).map fun q => py (D.str q)) := fun p ps => ⟨fun x hx y hy => by
    obtain ⟨q, _, rfl⟩ := List.mem_map.mp hx
    obtain ⟨r, _, rfl⟩ := List.mem_map.mp hy
    exact str_alike q r, fun x hx => by
    obtain ⟨q, _, rfl⟩ := List.mem_map.mp hx
    rw [py_str]
    exact fun z => nomatch z⟩
  have dep : ∀ (p : Str) (ps : List Str), X.A.units + 1 + PyData.depthAll (py (D.str p) :: ps.map fun q => py (D.str q)) < cLine := fun p ps => by
    have := strs_depth (p :: ps)
    rw [List.map_cons] at this
    omega
  have fin : ∀ (p : Str) (ps : List Str) (vs : List V) (its : List Value) (i : Nat) (u : Value) (h' : Heap) (tk : Nat) (bs : List Addr), RpAll X.K cl W vs ((p :: ps).map .str) → Vals vs its → Aft X.K cl E (Rp X.K cl) W H (.ok (.str (leastT p ps)) st) Q → its[i]? = some u →
      Reads h' u (PySem.W.minD (py (.str p)) (ps.map fun q => py (.str q))) bs → (∀ b o, s.heap.get? b = some o → h'.get? b = some o) → EP X pins σ Q u { s with heap := h', toks := tk } := fun p ps vs its i u h' tk bs h2 rv2 h hi rd k => by
    rw [minD_least] at rd
    have hiv : i < vs.length := by
      have h1 : i < its.length := (List.getElem?_eq_some_iff.mp hi).1
      rw [rv2.length]
      exact h1
    obtain ⟨u2, e1, rel⟩ := rv2.get (List.getElem?_eq_getElem hiv)
    rw [hi] at e1
    cases e1
    obtain ⟨d, e3, rp⟩ := h2.getV (List.getElem?_eq_getElem hiv)
    rw [List.getElem?_map, Option.map_eq_some_iff] at e3
    obtain ⟨q, _, rfl⟩ := e3
    obtain ⟨cs, rd2⟩ := Dp.reads I _ _ _ (rp.dp s0.ex rfl) rel
    have e4 := str_read (PySem.W.reads_keeps k rd2) rd
    rw [← e4] at h
    exact ⟨_, H, I.kept (t' := tk) k, rel, h.now s0 rp⟩
  unfold minTD at h
  split at h
  case h_3 => exact h.elim
  · rename_i ds e
    split at h
    case h_2 => exact h.elim
    rename_i p ps ep
    have ed := strsOf_eq ep
    subst ed
    obtain ⟨a, vs, rfl, h1, h2⟩ := lst_of s0 l0 o e
    obtain ⟨its, rv2, hl, hz⟩ := I.list (.inl (.inl h1))
    rw [Vals.ref1 rv]
    obtain ⟨as, hr⟩ := strs_reads I s0.ex rv2 h2
    have hr' : ReadsAll s.heap its.toArray.toList (py (.str p) :: ps.map fun q => py (.str q)) as := hr
    exact PySem.W.min_list_data (I.ok.hd hc) hl.isList hr' (ali p ps) (dep p ps) fun i u h' tk bs hi rd k => fin p ps vs its i u h' tk bs h2 rv2 h (by simpa using hi) rd k
  · rename_i ds e
    split at h
    case h_2 => exact h.elim
    rename_i p ps ep
    have ed := strsOf_eq ep
    subst ed
    obtain ⟨a, vs, rfl, h1, h2, _⟩ := tup_of s0 o e
    obtain ⟨its, rv2, hl, hz⟩ := I.tuple h1
    rw [Vals.ref1 rv]
    obtain ⟨as, hr⟩ := strs_reads I s0.ex rv2 h2
    have hr' : ReadsAll s.heap its.toArray.toList (py (.str p) :: ps.map fun q => py (.str q)) as := hr
    exact PySem.W.min_tuple_data (I.ok.hd hc) hl hr' (ali p ps) (dep p ps) fun i u h' tk bs hi rd k => fin p ps vs its i u h' tk bs h2 rv2 h (by simpa using hi) rd k
end
end DL
set_option maxHeartbeats 4000000
/-! Denotations of defs (printed by wip/tools/gen.py). -/
namespace Co
open PySem L2 DL
def den__law_draw : Ev → S → RS := sSeq (sIf (tAndD (dTB (dBin eqD (dBin ixD (dVar 0) (dC (.int 2))) (dC (.int 0)))) (dTB (dBin ltD (dBin ixD (dVar 0) (dC (.int 1))) (dCall (one lenD) (dCons (dBin ixD (dVar 0) (dC (.int 0))) (dNil)))))) (sSeq (sSet 3 (dBin ixD (dBin ixD (dVar 0) (dC (.int 0))) (dBin ixD (dVar 0) (dC (.int 1))))) (sSeq (sPut (dVar 0) (dC (.int 1)) (dBin addD (dBin ixD (dVar 0) (dC (.int 1))) (dC (.int 1)))) (sIf (dTB (dBin geD (dCall (one absD) (dCons (dVar 3) (dNil))) (dBin powD (dC (.int 10)) (dC (.int 18))))) (sPut (dVar 0) (dC (.int 2)) (dCall (one absD) (dCons (dVar 3) (dNil)))) (sNext)))) (sNext)) (sSeq (sIf (dTB (dBin gtD (dBin ixD (dVar 0) (dC (.int 2))) (dC (.int 0)))) (sSeq (sSet 4 (dBin modD (dCall (one intF) (dCons (dBin ixD (dVar 0) (dC (.int 2))) (dNil))) (dVar 1))) (sSeq (sPut (dVar 0) (dC (.int 2)) (dBin fdivD (dCall (one intF) (dCons (dBin ixD (dVar 0) (dC (.int 2))) (dNil))) (dVar 1))) (sRet (dVar 4)))) (sNext)) (sSeq (sPut (dVar 0) (dC (.int 4)) (dBin addD (dBin ixD (dVar 0) (dC (.int 4))) (dC (.int 1)))) (sSeq (sSet 2 (dBin modD (dCall (one intF) (dCons (dBin addD (dBin ixD (dVar 0) (dC (.int 3))) (dBin mulD (dBin ixD (dVar 0) (dC (.int 4))) (dC (.int 7919)))) (dNil))) (dC (.int 2147483563)))) (sSeq (sPut (dVar 0) (dC (.int 3)) (dBin modD (dCall (one intF) (dCons (dBin addD (dBin addD (dBin powD (dVar 2) (dC (.int 5))) (dBin mulD (dC (.int 30323)) (dVar 2))) (dC (.int 4099))) (dNil))) (dC (.int 2147483563)))) (sRet (dBin modD (dCall (one intF) (dCons (dBin addD (dBin fdivD (dBin ixD (dVar 0) (dC (.int 3))) (dC (.int 61))) (dBin mulD (dBin modD (dCall (one intF) (dCons (dBin ixD (dVar 0) (dC (.int 3))) (dNil))) (dC (.int 6047))) (dC (.int 29)))) (dNil))) (dVar 1)))))))
def sem__law_draw : List D → S → R D := semOf 2 5 den__law_draw
def den__law_pick : Ev → S → RS := sRet (dBin ixD (dVar 1) (dCall sem__law_draw (dCons (dVar 0) (dCons (dCall (one lenD) (dCons (dVar 1) (dNil))) (dNil)))))
def sem__law_pick : List D → S → R D := semOf 2 2 den__law_pick
def den__law_letters : Ev → S → RS := sRet (dC (.str "abcdefghijklmnopqrstuvwxyz"))
def sem__law_letters : List D → S → R D := semOf 0 0 den__law_letters
def den__law_word : Ev → S → RS := sRet (dJoin (dC (.str "")) (dLc (.nm 2) [2] (dRange (dCons (dBin addD (dC (.int 1)) (dCall sem__law_draw (dCons (dVar 0) (dCons (dVar 1) (dNil))))) (dNil))) (tTrue) (dBin ixD (dCall sem__law_letters dNil) (dCall sem__law_draw (dCons (dVar 0) (dCons (dC (.int 26)) (dNil)))))))
def sem__law_word : List D → S → R D := semOf 2 3 den__law_word
def den__law_shuffle : Ev → S → RS := sSeq (sOwn 2 (dNil)) (sSeq (sFor (.nm 3) (dItems (dVar 1)) (sIns 2 (dCons (dCall sem__law_draw (dCons (dVar 0) (dCons (dBin addD (dCall (one lenD) (dCons (dOwn 2) (dNil))) (dC (.int 1))) (dNil)))) (dCons (dVar 3) (dNil))))) (sRetOwn 2))
def sem__law_shuffle : List D → S → R D := semOf 2 4 den__law_shuffle
def den__law_names : Ev → S → RS := sSeq (sAsg (.tp [6, 7]) (dTup (dCons (dCall sem__law_draw (dCons (dVar 0) (dCons (dC (.int 26)) (dNil)))) (dCons (dCall sem__law_pick (dCons (dVar 0) (dCons (dLst (dCons (dC (.int 1)) (dCons (dC (.int 3)) (dCons (dC (.int 5)) (dCons (dC (.int 7)) (dCons (dC (.int 9)) (dCons (dC (.int 11)) (dCons (dC (.int 25)) (dNil))))))))) (dNil)))) (dNil))))) (sSeq (sSet 2 (dLc (.nm 5) [5] (dRange (dCons (dVar 1) (dNil))) (tTrue) (dBin ixD (dCall sem__law_letters dNil) (dBin modD (dCall (one intF) (dCons (dBin addD (dVar 6) (dBin modD (dBin mulD (dVar 7) (dCall (one intF) (dCons (dVar 5) (dNil)))) (dC (.int 26)))) (dNil))) (dC (.int 26)))))) (sSeq (sSet 3 (dLc (.nm 5) [5] (dRange (dCons (dVar 1) (dNil))) (tTrue) (dBin addD (dBin ixD (dVar 2) (dVar 5)) (dIf (dTB (dBin ltD (dVar 5) (dC (.int 26)))) (dC (.str "")) (dBin ixD (dCall sem__law_letters dNil) (dBin fdivD (dVar 5) (dC (.int 26)))))))) (sSeq (sAsg (.tp [8, 9]) (dTup (dCons (dCall sem__law_draw (dCons (dVar 0) (dCons (dC (.int 4)) (dNil)))) (dCons (dCall sem__law_word (dCons (dVar 0) (dCons (dC (.int 4)) (dNil)))) (dNil))))) (sSeq (sIf (dTB (dBin eqD (dVar 8) (dC (.int 0)))) (sSeq (sSet 10 (dCall sem__law_draw (dCons (dVar 0) (dCons (dBin addD (dCall (one lenD) (dCons (dVar 9) (dNil))) (dC (.int 1))) (dNil))))) (sRet (dLc (.nm 15) [15] (dItems (dVar 3)) (tTrue) (dBin addD (dBin addD (dSl (dVar 9) (dNoP) (dPart (dVar 10))) (dVar 15)) (dSl (dVar 9) (dPart (dVar 10)) (dNoP)))))) (sNext)) (sSeq (sIf (dTB (dBin eqD (dVar 8) (dC (.int 1)))) (sSeq (sSet 11 (dLst (dCons (dC (.str "find")) (dCons (dC (.str "finds")) (dCons (dC (.str "word")) (dCons (dC (.str "fact")) (dCons (dC (.str "before")) (dCons (dC (.str "first")) (dCons (dC (.str "last")) (dCons (dC (.str "lot")) (dCons (dC (.str "never")) (dCons (dC (.str "all")) (dCons (dC (.str "rest")) (dCons (dC (.str "self")) (dNil))))))))))))))) (sRet (dCall sem__law_shuffle (dCons (dVar 0) (dCons (dSl (dBin addD (dCall sem__law_shuffle (dCons (dVar 0) (dCons (dVar 11) (dNil)))) (dVar 3)) (dNoP) (dPart (dVar 1))) (dNil)))))) (sNext)) (sSeq (sOwn 4 (dNil)) (sSeq (sFor (.nm 5) (dRange (dCons (dVar 1) (dNil))) (sSeq (sSet 12 (dAnd (dBin gtD (dVar 5) (dC (.int 0))) (dBin eqD (dCall sem__law_draw (dCons (dVar 0) (dCons (dC (.int 3)) (dNil)))) (dC (.int 0))))) (sSeq (sSet 13 (dIf (dTst (dVar 12)) (dSl (dBin addD (dBin ixD (dOwn 4) (dCall sem__law_draw (dCons (dVar 0) (dCons (dVar 5) (dNil))))) (dCall sem__law_word (dCons (dVar 0) (dCons (dC (.int 1)) (dNil))))) (dNoP) (dPart (dC (.int 6)))) (dCall sem__law_word (dCons (dVar 0) (dCons (dC (.int 6)) (dNil)))))) (sSeq (sSet 14 (dLc (.nm 15) [15] (dItems (dVar 3)) (dTB (dBin nInD (dVar 15) (dOwn 4))) (dVar 15))) (sApp 4 (dIf (dTB (dBin inD (dVar 13) (dOwn 4))) (dBin ixD (dVar 14) (dC (.int 0))) (dVar 13))))))) (sRetOwn 4))))))))
def sem__law_names : List D → S → R D := semOf 2 16 den__law_names
end Co
set_option maxHeartbeats 4000000
/-! Denotations of defs (printed by wip/tools/gen.py). -/
namespace Co
open PySem L2 DL
end Co
set_option maxHeartbeats 4000000
/-! Denotations of defs (printed by wip/tools/gen.py). -/
namespace Co
open PySem L2 DL
def den_rest : Ev → S → RS := sRet (dCall (one tupleF) (dCons (dLc (.nm 2) [2] (dItems (dVar 0)) (dTB (dBin nInD (dVar 2) (dVar 1))) (dVar 2)) (dNil)))
def sem_rest : List D → S → R D := semOf 2 3 den_rest
end Co
set_option maxHeartbeats 4000000
/-! Denotations of defs (printed by wip/tools/gen.py). -/
namespace Co
open PySem L2 DL
def den_place_in : Ev → S → RS := sSeq (sIf (tOrD (tNotD (dTst (dCall isiD (dCons (dVar 1) (dCons (dC (.ty "str")) dNil))))) (dTB (dBin nInD (dVar 1) (dVar 0)))) (sRaise 34 1 [("name", .par 0), ("code", .txt "UnknownFind")] (dCons (dVar 1) (dNil))) (sNext)) (sRet (dIndex (dVar 0) (dVar 1)))
def sem_place_in : List D → S → R D := semOf 2 2 den_place_in
def den_stretch_of : Ev → S → RS := sSeq (sSet 2 (dLc (.nm 3) [3] (dItems (dVar 0)) (tTrue) (dBin inD (dVar 3) (dVar 1)))) (sRet (dSl (dVar 0) (dPart (dIndex (dVar 2) (dC (.bl true)))) (dPart (dBin subD (dCall (one lenD) (dCons (dVar 0) (dNil))) (dIndex (dUn revD (dVar 2)) (dC (.bl true)))))))
def sem_stretch_of : List D → S → R D := semOf 2 4 den_stretch_of
def den_keeps : Ev → S → RS := sRet (dBin eqD (dCall (one lenD) (dCons (dCall sem_stretch_of (dCons (dVar 0) (dCons (dVar 1) (dNil)))) (dNil))) (dCall (one lenD) (dCons (dVar 1) (dNil))))
def sem_keeps : List D → S → R D := semOf 2 2 den_keeps
def den_is_order : Ev → S → RS := sSeq (sIf (tOrD (tNotD (dTst (dCall isiD (dCons (dVar 1) (dCons (dC (.ty "tuple")) dNil))))) (dTB (dBin neD (dCall (one lenD) (dCons (dVar 1) (dNil))) (dCall (one lenD) (dCons (dVar 0) (dNil)))))) (sRet (dC (.bl false))) (sNext)) (sRet (dAnd (dCall (one allD) (dCons (dLc (.nm 2) [2] (dItems (dVar 1)) (tTrue) (dCall isiD (dCons (dVar 2) (dCons (dC (.ty "str")) dNil)))) (dNil))) (dCall (one allD) (dCons (dLc (.nm 2) [2] (dItems (dVar 0)) (tTrue) (dBin inD (dVar 2) (dVar 1))) (dNil)))))
def sem_is_order : List D → S → R D := semOf 2 3 den_is_order
end Co
set_option maxHeartbeats 4000000
/-! Denotations of defs (printed by wip/tools/gen.py). -/
namespace Co
open PySem L2 DL
end Co
set_option maxHeartbeats 4000000
/-! Denotations of defs (printed by wip/tools/gen.py). -/
namespace Co
open PySem L2 DL
end Co
set_option maxHeartbeats 4000000
/-! Denotations of defs (printed by wip/tools/gen.py). -/
namespace Co
open PySem L2 DL
def k_ELDERS : List (Str × D) := [("single", (.int (0))), ("all", (.int (0))), ("word", (.int (1))), ("union", (.int (2))), ("common", (.int (2))), ("rest", (.int (2))), ("fact", (.int (1))), ("apart", (.int (3))), ("across", (.int (3))), ("chain", (.int (2))), ("bar", (.int (3))), ("self", (.int (1)))]
end Co
set_option maxHeartbeats 4000000
/-! Denotations of defs (printed by wip/tools/gen.py). -/
namespace Co
open PySem L2 DL
end Co
set_option maxHeartbeats 4000000
/-! Denotations of defs (printed by wip/tools/gen.py). -/
namespace Co
open PySem L2 DL
end Co
set_option maxHeartbeats 4000000
/-! Denotations of defs (printed by wip/tools/gen.py). -/
namespace Co
open PySem L2 DL
end Co
set_option maxHeartbeats 4000000
/-! Denotations of defs (printed by wip/tools/gen.py). -/
namespace Co
open PySem L2 DL
end Co
set_option maxHeartbeats 4000000
/-! Denotations of defs (printed by wip/tools/gen.py). -/
namespace Co
open PySem L2 DL
end Co
set_option maxHeartbeats 4000000
/-! Denotations of defs (printed by wip/tools/gen.py). -/
namespace Co
open PySem L2 DL
end Co
set_option maxHeartbeats 4000000
/-! Denotations of defs (printed by wip/tools/gen.py). -/
namespace Co
open PySem L2 DL
end Co
set_option maxHeartbeats 4000000
/-! Denotations of defs (printed by wip/tools/gen.py). -/
namespace Co
open PySem L2 DL
end Co
set_option maxHeartbeats 4000000
/-! Denotations of defs (printed by wip/tools/gen.py). -/
namespace Co
open PySem L2 DL
end Co
set_option maxHeartbeats 4000000
/-! Denotations of defs (printed by wip/tools/gen.py). -/
namespace Co
open PySem L2 DL
end Co
set_option maxHeartbeats 4000000
/-! Denotations of defs (printed by wip/tools/gen.py). -/
namespace Co
open PySem L2 DL
def den__law_like (rec : List D → S → R D) : Ev → S → RS := sSeq (sIf (dTst (dCall isiD (dCons (dVar 1) (dCons (dC (.ty "dict")) dNil)))) (sRet (dAnd (dCall isiD (dCons (dVar 0) (dCons (dC (.ty "dict")) dNil))) (dCall rec (dCons (dCall (one listF) (dCons (dStuck) (dNil))) (dCons (dCall (one listF) (dCons (dStuck) (dNil))) (dNil)))))) (sNext)) (sSeq (sIf (dTst (dUn (isiT ["list", "tuple"]) (dVar 1))) (sSeq (sSet 2 (dAnd (dBin eqD (dCall isiD (dCons (dVar 0) (dCons (dC (.ty "list")) dNil))) (dCall isiD (dCons (dVar 1) (dCons (dC (.ty "list")) dNil)))) (dBin eqD (dCall isiD (dCons (dVar 0) (dCons (dC (.ty "tuple")) dNil))) (dCall isiD (dCons (dVar 1) (dCons (dC (.ty "tuple")) dNil)))))) (sRet (dAnd (dVar 2) (dAnd (dBin eqD (dCall (one lenD) (dCons (dVar 0) (dNil))) (dCall (one lenD) (dCons (dVar 1) (dNil)))) (dCall (one allD) (dCons (dLcZ (.tp [3, 4]) [3, 4] (dCons (dVar 0) (dCons (dVar 1) (dNil))) (tTrue) (dCall rec (dCons (dVar 3) (dCons (dVar 4) (dNil))))) (dNil))))))) (sNext)) (sSeq (sIf (tOrD (dTB (dBin isND (dVar 0) (dC .non))) (tOrD (dTB (dBin isND (dVar 1) (dC .non))) (dTB (dBin neD (dCall isiD (dCons (dVar 0) (dCons (dC (.ty "bool")) dNil))) (dCall isiD (dCons (dVar 1) (dCons (dC (.ty "bool")) dNil))))))) (sRet (dAnd (dBin isND (dVar 0) (dC .non)) (dBin isND (dVar 1) (dC .non)))) (sNext)) (sRet (dAnd (dBin eqD (dCall isiD (dCons (dVar 0) (dCons (dC (.ty "int")) dNil))) (dCall isiD (dCons (dVar 1) (dCons (dC (.ty "int")) dNil)))) (dAnd (dBin eqD (dCall isiD (dCons (dVar 0) (dCons (dC (.ty "str")) dNil))) (dCall isiD (dCons (dVar 1) (dCons (dC (.ty "str")) dNil)))) (dBin eqD (dVar 0) (dVar 1)))))))
def sem__law_like : Nat → List D → S → R D
  | 0 => fun _ _ => .stuck
  | k + 1 => semOf 2 5 (den__law_like (sem__law_like k))
end Co
set_option maxHeartbeats 4000000
/-! Denotations of defs (printed by wip/tools/gen.py). -/
namespace Co
open PySem L2 DL
end Co
set_option maxHeartbeats 4000000
/-! Denotations of defs (printed by wip/tools/gen.py). -/
namespace Co
open PySem L2 DL
def den__law_bag : Ev → S → RS := sSeq (sSet 1 (dLc (.nm 3) [3] (dItems (dSl (dVar 0) (dNoP) (dPart (dC (.int 63))))) (tTrue) (dCall (one intF) (dCons (dVar 3) (dNil))))) (sSeq (sSet 2 (dBin addD (dC (.int 12436869)) (dBin mulD (dC (.int 89)) (dCall (one lenD) (dCons (dVar 1) (dNil)))))) (sSeq (sFor (.nm 3) (dItems (dVar 1)) (sSet 2 (dBin modD (dCall (one intF) (dCons (dBin addD (dBin addD (dBin mulD (dVar 2) (dC (.int 7919))) (dBin mulD (dVar 3) (dC (.int 31)))) (dC (.int 13))) (dNil))) (dC (.int 2147483629))))) (sRet (dLstRef (dCons (dVar 1) (dCons (dC (.int 0)) (dCons (dC (.int 0)) (dCons (dVar 2) (dCons (dC (.int 0)) (dNil))))))))))
def sem__law_bag : List D → S → R D := semOf 1 4 den__law_bag
def den__law_draw_2 : Ev → S → RS := sSeq (sIf (tAndD (dTB (dBin eqD (dBin ixD (dVar 0) (dC (.int 2))) (dC (.int 0)))) (dTB (dBin ltD (dBin ixD (dVar 0) (dC (.int 1))) (dCall (one lenD) (dCons (dBin ixD (dVar 0) (dC (.int 0))) (dNil)))))) (sSeq (sSet 3 (dBin ixD (dBin ixD (dVar 0) (dC (.int 0))) (dBin ixD (dVar 0) (dC (.int 1))))) (sSeq (sPut (dVar 0) (dC (.int 1)) (dBin addD (dBin ixD (dVar 0) (dC (.int 1))) (dC (.int 1)))) (sIf (dTB (dBin geD (dVar 3) (dBin powD (dC (.int 10)) (dC (.int 18))))) (sPut (dVar 0) (dC (.int 2)) (dVar 3)) (sPut (dVar 0) (dC (.int 3)) (dBin modD (dCall (one intF) (dCons (dBin addD (dBin addD (dBin mulD (dBin ixD (dVar 0) (dC (.int 3))) (dC (.int 40013))) (dBin mulD (dVar 3) (dC (.int 613)))) (dC (.int 7))) (dNil))) (dC (.int 2147483629))))))) (sNext)) (sSeq (sIf (dTB (dBin gtD (dBin ixD (dVar 0) (dC (.int 2))) (dC (.int 0)))) (sSeq (sSet 4 (dBin modD (dCall (one intF) (dCons (dBin ixD (dVar 0) (dC (.int 2))) (dNil))) (dVar 1))) (sSeq (sPut (dVar 0) (dC (.int 2)) (dBin fdivD (dBin ixD (dVar 0) (dC (.int 2))) (dVar 1))) (sRet (dVar 4)))) (sNext)) (sSeq (sPut (dVar 0) (dC (.int 4)) (dBin addD (dBin ixD (dVar 0) (dC (.int 4))) (dC (.int 1)))) (sSeq (sSet 2 (dBin modD (dCall (one intF) (dCons (dBin addD (dBin ixD (dVar 0) (dC (.int 3))) (dBin mulD (dBin ixD (dVar 0) (dC (.int 4))) (dC (.int 7477)))) (dNil))) (dC (.int 2147483629)))) (sSeq (sPut (dVar 0) (dC (.int 3)) (dBin modD (dCall (one intF) (dCons (dBin addD (dBin addD (dBin mulD (dBin mulD (dVar 2) (dVar 2)) (dVar 2)) (dBin mulD (dVar 2) (dC (.int 60017)))) (dC (.int 5003))) (dNil))) (dC (.int 2147483629)))) (sRet (dBin modD (dCall (one intF) (dCons (dBin addD (dBin fdivD (dBin ixD (dVar 0) (dC (.int 3))) (dC (.int 67))) (dBin mulD (dBin modD (dCall (one intF) (dCons (dBin ixD (dVar 0) (dC (.int 3))) (dNil))) (dC (.int 6607))) (dC (.int 43)))) (dNil))) (dVar 1)))))))
def sem__law_draw_2 : List D → S → R D := semOf 2 5 den__law_draw_2
def den__law_pick_2 : Ev → S → RS := sRet (dBin ixD (dVar 1) (dCall sem__law_draw_2 (dCons (dVar 0) (dCons (dCall (one lenD) (dCons (dVar 1) (dNil))) (dNil)))))
def sem__law_pick_2 : List D → S → R D := semOf 2 2 den__law_pick_2
def den__law_size : Ev → S → RS := sRet (dIf (dTB (dBin eqD (dCall sem__law_draw_2 (dCons (dVar 0) (dCons (dC (.int 8)) (dNil)))) (dC (.int 0)))) (dBin addD (dC (.int 1)) (dCall sem__law_draw_2 (dCons (dVar 0) (dCons (dC (.int 3)) (dNil))))) (dBin subD (dVar 1) (dCall sem__law_pick_2 (dCons (dVar 0) (dCons (dLst (dCons (dC (.int 0)) (dCons (dC (.int 0)) (dCons (dC (.int 1)) (dCons (dC (.int 2)) (dCons (dC (.int 3)) (dNil))))))) (dNil))))))
def sem__law_size : List D → S → R D := semOf 2 2 den__law_size
def den__law_names_3 : Ev → S → RS := sSeq (sAsg (.tp [6, 7]) (dTup (dCons (dC (.str "abcdefghijklmnopqrstuvwxyz")) (dCons (dCall sem__law_draw_2 (dCons (dVar 0) (dCons (dC (.int 3)) (dNil)))) (dNil))))) (sSeq (sSet 2 (dJoin (dC (.str "")) (dLc (.nm 5) [5] (dRange (dCons (dCall sem__law_draw_2 (dCons (dVar 0) (dCons (dC (.int 6)) (dNil)))) (dNil))) (tTrue) (dCall sem__law_pick_2 (dCons (dVar 0) (dCons (dVar 6) (dNil))))))) (sSeq (sPar [8, 9] (dCons (dCall sem__law_draw_2 (dCons (dVar 0) (dCons (dC (.int 26)) (dNil)))) (dCons (dCall sem__law_pick_2 (dCons (dVar 0) (dCons (dLst (dCons (dC (.int 1)) (dCons (dC (.int 3)) (dCons (dC (.int 5)) (dCons (dC (.int 7)) (dCons (dC (.int 25)) (dNil))))))) (dNil)))) (dNil)))) (sSeq (sOwn 3 (dNil)) (sSeq (sSet 4 (dCall sem__law_draw_2 (dCons (dVar 0) (dCons (dBin addD (dCall (one lenD) (dCons (dVar 2) (dNil))) (dC (.int 1))) (dNil))))) (sSeq (sFor (.nm 5) (dRange (dCons (dVar 1) (dNil))) (sSeq (sSet 10 (dBin ixD (dVar 6) (dBin modD (dCall (one intF) (dCons (dBin addD (dVar 8) (dBin mulD (dVar 9) (dVar 5))) (dNil))) (dC (.int 26))))) (sSeq (sSet 4 (dIf (dTB (dBin gtD (dVar 7) (dC (.int 0)))) (dCall sem__law_draw_2 (dCons (dVar 0) (dCons (dBin addD (dCall (one lenD) (dCons (dVar 2) (dNil))) (dC (.int 1))) (dNil)))) (dVar 4))) (sIf (dTB (dBin eqD (dVar 7) (dC (.int 0)))) (sApp 3 (dBin addD (dBin addD (dSl (dVar 2) (dNoP) (dPart (dVar 4))) (dVar 10)) (dSl (dVar 2) (dPart (dVar 4)) (dNoP)))) (sApp 3 (dIf (dTB (dBin eqD (dVar 7) (dC (.int 1)))) (dBin addD (dVar 10) (dSl (dVar 2) (dNoP) (dPart (dVar 4)))) (dBin addD (dSl (dVar 2) (dNoP) (dPart (dVar 4))) (dVar 10)))))))) (sRetOwn 3))))))
def sem__law_names_3 : List D → S → R D := semOf 2 11 den__law_names_3
def den__law_mixed_2 : Ev → S → RS := sSeq (sOwn 2 (dNil)) (sSeq (sFor (.nm 3) (dItems (dVar 1)) (sIns 2 (dCons (dCall sem__law_draw_2 (dCons (dVar 0) (dCons (dBin addD (dCall (one lenD) (dCons (dOwn 2) (dNil))) (dC (.int 1))) (dNil)))) (dCons (dVar 3) (dNil))))) (sRetOwn 2))
def sem__law_mixed_2 : List D → S → R D := semOf 2 4 den__law_mixed_2
def den__law_arcs : Ev → S → RS := sSeq (sSet 1 (dC (.int 0))) (sSeq (sFor (.nm 2) (dRange (dCons (dCall (one lenD) (dCons (dVar 0) (dNil))) (dNil))) (sSeq (sSet 3 (dC (.int 0))) (sFor (.nm 4) (dItems (dBin addD (dSl (dVar 0) (dPart (dVar 2)) (dNoP)) (dSl (dVar 0) (dNoP) (dPart (dVar 2))))) (sSeq (sSet 3 (dBin borD (dVar 3) (dBin shlD (dC (.int 1)) (dVar 4)))) (sSet 1 (dBin borD (dVar 1) (dBin shlD (dC (.int 1)) (dVar 3)))))))) (sRet (dVar 1)))
def sem__law_arcs : List D → S → R D := semOf 1 5 den__law_arcs
def den__law_order : Ev → S → RS := sRet (dCall (one tupleF) (dCons (dLc (.nm 2) [2] (dItems (dVar 1)) (tTrue) (dBin ixD (dVar 0) (dVar 2))) (dNil)))
def sem__law_order : List D → S → R D := semOf 2 3 den__law_order
def den__law_same_2 (rec : List D → S → R D) : Ev → S → RS := sSeq (sIf (tOrD (dTB (dBin isND (dVar 1) (dC .non))) (dTB (dBin isND (dVar 0) (dC .non)))) (sRet (dAnd (dBin isND (dVar 1) (dC .non)) (dBin isND (dVar 0) (dC .non)))) (sNext)) (sSeq (sIf (tOrD (dTst (dCall isiD (dCons (dVar 1) (dCons (dC (.ty "bool")) dNil)))) (dTst (dCall isiD (dCons (dVar 0) (dCons (dC (.ty "bool")) dNil))))) (sRet (dAnd (dCall isiD (dCons (dVar 1) (dCons (dC (.ty "bool")) dNil))) (dAnd (dCall isiD (dCons (dVar 0) (dCons (dC (.ty "bool")) dNil))) (dBin eqD (dVar 0) (dVar 1))))) (sNext)) (sSeq (sIf (dTst (dUn (isiT ["int", "str"]) (dVar 1))) (sRet (dAnd (dUn (isiT ["int", "str"]) (dVar 0)) (dAnd (dBin eqD (dCall isiD (dCons (dVar 0) (dCons (dC (.ty "int")) dNil))) (dCall isiD (dCons (dVar 1) (dCons (dC (.ty "int")) dNil)))) (dBin eqD (dVar 0) (dVar 1))))) (sNext)) (sSeq (sIf (tOrD (dTB (dBin neD (dCall isiD (dCons (dVar 0) (dCons (dC (.ty "list")) dNil))) (dCall isiD (dCons (dVar 1) (dCons (dC (.ty "list")) dNil))))) (dTB (dBin neD (dCall isiD (dCons (dVar 0) (dCons (dC (.ty "tuple")) dNil))) (dCall isiD (dCons (dVar 1) (dCons (dC (.ty "tuple")) dNil)))))) (sRet (dC (.bl false))) (sNext)) (sSeq (sIf (dTst (dUn (isiT ["list", "tuple"]) (dVar 1))) (sRet (dAnd (dBin eqD (dCall (one lenD) (dCons (dVar 0) (dNil))) (dCall (one lenD) (dCons (dVar 1) (dNil)))) (dCall (one allD) (dCons (dLc (.nm 2) [2] (dRange (dCons (dCall (one lenD) (dCons (dVar 1) (dNil))) (dNil))) (tTrue) (dCall rec (dCons (dBin ixD (dVar 0) (dVar 2)) (dCons (dBin ixD (dVar 1) (dVar 2)) (dNil))))) (dNil))))) (sNext)) (sRet (dBin eqD (dVar 0) (dVar 1)))))))
def sem__law_same_2 : Nat → List D → S → R D
  | 0 => fun _ _ => .stuck
  | k + 1 => semOf 2 3 (den__law_same_2 (sem__law_same_2 k))
def den_is_ring_order : Ev → S → RS := sRet (dAnd (dCall sem_is_order (dCons (dVar 0) (dCons (dVar 1) (dNil)))) (dBin eqD (dBin ixD (dVar 1) (dC (.int 0))) (dCall (one minTD) (dCons (dVar 0) (dNil)))))
def sem_is_ring_order : List D → S → R D := semOf 2 2 den_is_ring_order
def den__law_odd_thing : Ev → S → RS := sRet (dCall sem__law_pick_2 (dCons (dVar 0) (dCons (dLst (dCons (dC .non) (dCons (dC (.bl true)) (dCons (dC (.int 0)) (dCons (dUn negD (dC (.int 1))) (dCons (dC (.str "")) (dCons (dC (.str "A")) (dCons (dC (.str "abcdefg")) (dCons (dTup (dNil)) (dCons (dLst (dNil)) (dCons (dLst (dCons (dVar 1) (dNil))) (dCons (dTup (dCons (dVar 1) (dNil))) (dCons (dTup (dCons (dC .non) (dCons (dVar 1) (dNil)))) (dNil)))))))))))))) (dNil))))
def sem__law_odd_thing : List D → S → R D := semOf 2 2 den__law_odd_thing
def den__law_bent_ring : Ev → S → RS := sSeq (sPar [3, 4] (dCons (dCall sem__law_draw_2 (dCons (dVar 0) (dCons (dCall (one lenD) (dCons (dVar 1) (dNil))) (dNil)))) (dCons (dCall sem__law_draw_2 (dCons (dVar 0) (dCons (dC (.int 8)) (dNil)))) (dNil)))) (sSeq (sIf (dTB (dBin ltD (dVar 4) (dC (.int 2)))) (sRet (dIf (dTB (dBin eqD (dVar 4) (dC (.int 0)))) (dBin addD (dSl (dVar 1) (dNoP) (dPart (dC (.int 1)))) (dUn revD (dSl (dVar 1) (dPart (dC (.int 1))) (dNoP)))) (dBin addD (dSl (dVar 1) (dPart (dVar 3)) (dNoP)) (dSl (dVar 1) (dNoP) (dPart (dVar 3)))))) (sNext)) (sSeq (sIf (dTB (dBin eqD (dVar 4) (dC (.int 2)))) (sRet (dCall (one listF) (dCons (dVar 1) (dNil)))) (sNext)) (sSeq (sIf (dTB (dBin eqD (dVar 4) (dC (.int 3)))) (sRet (dBin addD (dSl (dVar 1) (dNoP) (dPart (dVar 3))) (dSl (dVar 1) (dPart (dBin addD (dVar 3) (dC (.int 1)))) (dNoP)))) (sNext)) (sSeq (sIf (dTB (dBin eqD (dVar 4) (dC (.int 4)))) (sRet (dBin addD (dVar 1) (dTup (dCons (dBin ixD (dVar 1) (dVar 3)) (dNil))))) (sNext)) (sSeq (sIf (dTB (dBin eqD (dVar 4) (dC (.int 5)))) (sRet (dBin addD (dBin addD (dSl (dVar 1) (dNoP) (dPart (dVar 3))) (dTup (dCons (dBin ixD (dVar 1) (dBin subD (dVar 3) (dC (.int 1)))) (dNil)))) (dSl (dVar 1) (dPart (dBin addD (dVar 3) (dC (.int 1)))) (dNoP)))) (sNext)) (sRet (dIf (dTB (dBin eqD (dVar 4) (dC (.int 6)))) (dBin addD (dBin addD (dSl (dVar 1) (dNoP) (dPart (dVar 3))) (dTup (dCons (dVar 2) (dNil)))) (dSl (dVar 1) (dPart (dBin addD (dVar 3) (dC (.int 1)))) (dNoP))) (dCall sem__law_odd_thing (dCons (dVar 0) (dCons (dBin ixD (dVar 1) (dC (.int 0))) (dNil)))))))))))
def sem__law_bent_ring : List D → S → R D := semOf 3 5 den__law_bent_ring
def den__law_is_name_3 : Ev → S → RS := sRet (dAnd (dCall isiD (dCons (dVar 0) (dCons (dC (.ty "str")) dNil))) (dAnd (dBin ltD (dC (.int 0)) (dCall (one lenD) (dCons (dVar 0) (dNil)))) (dAnd (dBin ltD (dCall (one lenD) (dCons (dVar 0) (dNil))) (dC (.int 7))) (dCall (one allD) (dCons (dLc (.nm 1) [1] (dItems (dVar 0)) (tTrue) (dBin inD (dVar 1) (dC (.str "abcdefghijklmnopqrstuvwxyz")))) (dNil))))))
def sem__law_is_name_3 : List D → S → R D := semOf 1 2 den__law_is_name_3
def den__law_is_ring : Ev → S → RS := sSeq (sIf (tOrD (tNotD (dTst (dCall isiD (dCons (dVar 1) (dCons (dC (.ty "tuple")) dNil))))) (tOrD (dTB (dBin neD (dCall (one lenD) (dCons (dVar 1) (dNil))) (dCall (one lenD) (dCons (dVar 0) (dNil))))) (tNotD (dTst (dCall (one allD) (dCons (dLc (.nm 2) [2] (dItems (dVar 1)) (tTrue) (dCall sem__law_is_name_3 (dCons (dVar 2) (dNil)))) (dNil))))))) (sRet (dC (.bl false))) (sNext)) (sRet (dAnd (dBin eqD (dBin ixD (dVar 1) (dC (.int 0))) (dBin ixD (dVar 0) (dC (.int 0)))) (dCall (one allD) (dCons (dLc (.nm 2) [2] (dItems (dVar 0)) (tTrue) (dBin inD (dVar 2) (dVar 1))) (dNil)))))
def sem__law_is_ring : List D → S → R D := semOf 2 3 den__law_is_ring
def den__law_lex : Ev → S → RS := sSeq (sSet 1 (dLst (dNil))) (sSeq (sFor (.nm 2) (dRange (dCons (dVar 0) (dNil))) (sSeq (sSet 3 (dBin shlD (dC (.int 1)) (dBin subD (dBin subD (dVar 0) (dC (.int 1))) (dVar 2)))) (sSet 1 (dBin addD (dBin addD (dLst (dCons (dVar 3) (dNil))) (dLc (.nm 4) [4] (dItems (dVar 1)) (tTrue) (dBin borD (dVar 3) (dVar 4)))) (dVar 1))))) (sRet (dVar 1)))
def sem__law_lex : List D → S → R D := semOf 1 5 den__law_lex
def den__law_some_lots : Ev → S → RS := sSeq (sIf (dTB (dBin leD (dVar 1) (dC (.int 6)))) (sRet (dCall sem__law_lex (dCons (dVar 1) (dNil)))) (sNext)) (sRet (dLc (.nm 3) [3] (dRange (dCons (dVar 2) (dNil))) (tTrue) (dBin addD (dC (.int 1)) (dCall sem__law_draw_2 (dCons (dVar 0) (dCons (dBin subD (dBin shlD (dC (.int 1)) (dVar 1)) (dC (.int 1))) (dNil)))))))
def sem__law_some_lots : List D → S → R D := semOf 3 4 den__law_some_lots
def den_is_arc : Ev → S → RS := sSeq (sSet 2 (dCall sem_rest (dCons (dCall (one tupleF) (dCons (dCall (one sortedD) (dCons (dVar 0) (dNil))) (dNil))) (dCons (dVar 1) (dNil))))) (sRet (dOr (dBin eqD (dVar 2) (dTup (dNil))) (dOr (dCall sem_keeps (dCons (dVar 0) (dCons (dVar 1) (dNil)))) (dCall sem_keeps (dCons (dVar 0) (dCons (dVar 2) (dNil)))))))
def sem_is_arc : List D → S → R D := semOf 2 3 den_is_arc
def den__law_lot_2 : Ev → S → RS := sRet (dCall (one tupleF) (dCons (dLc (.nm 2) [2] (dRange (dCons (dCall (one lenD) (dCons (dVar 0) (dNil))) (dNil))) (dTB (dBin eqD (dBin bandD (dBin shrD (dVar 1) (dVar 2)) (dC (.int 1))) (dC (.int 1)))) (dBin ixD (dVar 0) (dVar 2))) (dNil)))
def sem__law_lot_2 : List D → S → R D := semOf 2 3 den__law_lot_2
def den_opened : Ev → S → RS := sSeq (sSet 2 (dCall sem_place_in (dCons (dVar 0) (dCons (dVar 1) (dNil))))) (sRet (dBin addD (dSl (dVar 0) (dPart (dBin addD (dVar 2) (dC (.int 1)))) (dNoP)) (dSl (dVar 0) (dNoP) (dPart (dVar 2)))))
def sem_opened : List D → S → R D := semOf 2 3 den_opened
def den__law_opened_so : Ev → S → RS := sSeq (sSet 3 (dBin addD (dSl (dVar 0) (dPart (dBin addD (dVar 2) (dC (.int 1)))) (dNoP)) (dSl (dVar 0) (dNoP) (dPart (dVar 2))))) (sRet (dCall (sem__law_same_2 12) (dCons (dCall sem_opened (dCons (dCall sem__law_order (dCons (dVar 1) (dCons (dVar 0) (dNil)))) (dCons (dBin ixD (dVar 1) (dBin ixD (dVar 0) (dVar 2))) (dNil)))) (dCons (dCall sem__law_order (dCons (dVar 1) (dCons (dVar 3) (dNil)))) (dNil)))))
def sem__law_opened_so : List D → S → R D := semOf 3 4 den__law_opened_so
def den__law_fields_8 : Ev → S → RS := sSeq (sIf (dTB (dBin inD (dXf (okC [34]) 0 "code") (dTup (dCons (dC (.str "InvalidName")) (dCons (dC (.str "InvalidNumber")) (dNil)))))) (sRet (dTup (dCons (dXf (okC [34]) 0 "value") (dNil)))) (sNext)) (sSeq (sIf (dTB (dBin inD (dXf (okC [34]) 0 "code") (dTup (dCons (dC (.str "InvalidLot")) (dCons (dC (.str "InvalidFind")) (dCons (dC (.str "InvalidWord")) (dCons (dC (.str "InvalidOrder")) (dNil)))))))) (sRet (dTup (dCons (dXf (okC [34]) 0 "at") (dNil)))) (sNext)) (sSeq (sIf (dTB (dBin inD (dXf (okC [34]) 0 "code") (dTup (dCons (dC (.str "UnknownFind")) (dCons (dC (.str "Same")) (dCons (dC (.str "DuplicateName")) (dCons (dC (.str "UnknownName")) (dNil)))))))) (sRet (dTup (dCons (dXf (okC [34]) 0 "name") (dNil)))) (sNext)) (sSeq (sIf (dTB (dBin inD (dXf (okC [34]) 0 "code") (dTup (dCons (dC (.str "TooMany")) (dCons (dC (.str "TooFew")) (dNil)))))) (sRet (dIf (dTB (dBin eqD (dXf (okC [34]) 0 "code") (dC (.str "TooMany")))) (dTup (dCons (dXf (okC [34]) 0 "most") (dNil))) (dTup (dCons (dXf (okC [34]) 0 "least") (dNil))))) (sNext)) (sSeq (sIf (dTB (dBin inD (dXf (okC [34]) 0 "code") (dTup (dCons (dC (.str "UnknownNode")) (dCons (dC (.str "NotABlock")) (dNil)))))) (sRet (dTup (dCons (dXf (okC [34]) 0 "lot") (dNil)))) (sNext)) (sRet (dIf (dTB (dBin eqD (dXf (okC [34]) 0 "code") (dC (.str "CannotStand")))) (dTup (dCons (dXf (okC [34]) 0 "one") (dCons (dXf (okC [34]) 0 "two") (dCons (dXf (okC [34]) 0 "three") (dNil))))) (dTup (dNil))))))))
def sem__law_fields_8 : Exn → S → R D := semX 1 den__law_fields_8
def fE__law_try_9 : Ev → S → R D := dTup (dCons (dXf (okC [34]) 2 "code") (dCons (dCallX 2 sem__law_fields_8) (dNil)))
def hF__law_try_9 : Exn → S → R D := fun y st => fE__law_try_9 (exE 3 2 y) st
def den_law_20 : Ev → S → RS := sSeq (sSet 1 (dCall sem__law_bag (dCons (dVar 0) (dNil)))) (sSeq (sSet 2 (dCall (maxD) (dCons (dC (.int 2)) (dCons (dCall (one intF) (dCons (dCall sem__law_size (dCons (dVar 1) (dCons (dCall sem__law_pick_2 (dCons (dVar 1) (dCons (dLst (dCons (dC (.int 5)) (dCons (dC (.int 6)) (dCons (dC (.int 6)) (dCons (dC (.int 12)) (dNil)))))) (dNil)))) (dNil)))) (dNil))) (dNil))))) (sSeq (sSet 3 (dCall sem__law_names_3 (dCons (dVar 1) (dCons (dBin addD (dVar 2) (dC (.int 1))) (dNil))))) (sSeq (sSet 4 (dCall (one sortedD) (dCons (dLc (.nm 15) [15] (dItems (dSl (dVar 3) (dPart (dC (.int 1))) (dNoP))) (tTrue) (dCall (one strSF) (dCons (dVar 15) (dNil)))) (dNil)))) (sSeq (sSet 5 (dCall sem__law_mixed_2 (dCons (dVar 1) (dCons (dVar 4) (dNil))))) (sSeq (sSet 6 (dCall (one listF) (dCons (dVar 5) (dNil)))) (sSeq (sSet 7 (dBin addD (dLst (dCons (dC (.int 0)) (dNil))) (dLc (.nm 16) [16] (dItems (dCall sem__law_mixed_2 (dCons (dVar 1) (dCons (dLstRg1 (dBin subD (dVar 2) (dC (.int 1)))) (dNil))))) (tTrue) (dBin addD (dVar 16) (dC (.int 1)))))) (sSeq (sAsg (.tp [11, 12, 13]) (dTup (dCons (dCall sem__law_order (dCons (dVar 4) (dCons (dVar 7) (dNil)))) (dCons (dCall sem__law_arcs (dCons (dVar 7) (dNil))) (dCons (dBin subD (dBin shlD (dC (.int 1)) (dVar 2)) (dC (.int 1))) (dNil)))))) (sSeq (sIf (tNotD (dTst (dCall (sem__law_same_2 12) (dCons (dLst (dCons (dCall sem_is_ring_order (dCons (dVar 5) (dCons (dVar 11) (dNil)))) (dCons (dCall sem_is_ring_order (dCons (dVar 5) (dCons (dBin addD (dSl (dVar 11) (dNoP) (dPart (dUn negD (dC (.int 1))))) (dTup (dCons (dLst (dCons (dBin ixD (dVar 11) (dUn negD (dC (.int 1)))) (dNil))) (dNil)))) (dNil)))) (dNil)))) (dCons (dLst (dCons (dC (.bl true)) (dCons (dC (.bl false)) (dNil)))) (dNil)))))) (sRet (dC (.bl false))) (sNext)) (sSeq (sFor (.nm 8) (dRange (dCons (dC (.int 6)) (dNil))) (sSeq (sSet 10 (dCall sem__law_bent_ring (dCons (dVar 1) (dCons (dVar 11) (dCons (dBin ixD (dVar 3) (dC (.int 0))) (dNil)))))) (sIf (tNotD (dTst (dCall (sem__law_same_2 12) (dCons (dCall sem_is_ring_order (dCons (dIf (dTB (dBin eqD (dVar 8) (dC (.int 3)))) (dCall (one tupleF) (dCons (dVar 5) (dNil))) (dVar 5)) (dCons (dVar 10) (dNil)))) (dCons (dCall sem__law_is_ring (dCons (dVar 4) (dCons (dVar 10) (dNil)))) (dNil)))))) (sRet (dC (.bl false))) (sNext)))) (sSeq (sFor (.nm 9) (dItems (dCall sem__law_some_lots (dCons (dVar 1) (dCons (dVar 2) (dCons (dC (.int 24)) (dNil)))))) (sSeq (sSet 14 (dCall sem_is_arc (dCons (dVar 11) (dCons (dCall sem__law_lot_2 (dCons (dVar 4) (dCons (dVar 9) (dNil)))) (dNil))))) (sSeq (sIf (tNotD (dTst (dCall (sem__law_same_2 12) (dCons (dVar 14) (dCons (dBin eqD (dBin bandD (dBin shrD (dVar 12) (dVar 9)) (dC (.int 1))) (dC (.int 1))) (dNil)))))) (sRet (dC (.bl false))) (sNext)) (sIf (tAndD (dTB (dBin neD (dVar 9) (dVar 13))) (tNotD (dTst (dCall (sem__law_same_2 12) (dCons (dCall sem_is_arc (dCons (dVar 11) (dCons (dCall sem__law_lot_2 (dCons (dVar 4) (dCons (dBin subD (dVar 13) (dVar 9)) (dNil)))) (dNil)))) (dCons (dVar 14) (dNil))))))) (sRet (dC (.bl false))) (sNext))))) (sSeq (sIf (tNotD (dTst (dCall (one allD) (dCons (dLc (.nm 17) [17] (dRange (dCons (dVar 2) (dNil))) (tTrue) (dCall sem__law_opened_so (dCons (dVar 7) (dCons (dVar 4) (dCons (dVar 17) (dNil)))))) (dNil))))) (sRet (dC (.bl false))) (sNext)) (sSeq (sFor (.nm 10) (dItems (dLst (dCons (dBin ixD (dVar 3) (dC (.int 0))) (dCons (dCall sem__law_odd_thing (dCons (dVar 1) (dCons (dBin ixD (dVar 4) (dC (.int 0))) (dNil)))) (dCons (dVar 4) (dNil)))))) (sIf (tNotD (dTst (dRaise "" (okC [34]) hF__law_try_9 (sem__law_same_2 12) (dCall sem_opened (dCons (dVar 11) (dCons (dVar 10) (dNil)))) (dTup (dCons (dC (.str "UnknownFind")) (dCons (dTup (dCons (dVar 10) (dNil))) (dNil))))))) (sRet (dC (.bl false))) (sNext))) (sRet (dBin eqD (dVar 5) (dVar 6)))))))))))))))
def sem_law_20 : List D → S → R D := semOf 1 18 den_law_20
end Co
namespace DM
section
set_option maxHeartbeats 1000000
/-! Mathematics over denotations: results as wishes. -/

open PySem L2 DL

/-- it ends well, with Q -/
def Ok {α : Type} (r : R α) (Q : α → S → Prop) : Prop := ∃ a s, r = .ok a s ∧ Q a s
@[simp] theorem ok_ok {α : Type} (a : α) (s : S) (Q : α → S → Prop) : Ok (.ok a s) Q ↔ Q a s := ⟨fun ⟨_, _, e, q⟩ => by cases e; exact q, fun q => ⟨a, s, rfl, q⟩⟩
@[simp] theorem ok_bind {α β : Type} (r : R α) (k : α → S → R β) (Q : β → S → Prop) : Ok (r.bind k) Q ↔ Ok r fun a s => Ok (k a s) Q := by
  cases r with
  | stuck => exact ⟨fun ⟨_, _, e, _⟩ => (by cases e), fun ⟨_, _, e, _⟩ => (by cases e)⟩
  | ok a s => simp
  | ex x s => exact ⟨fun ⟨_, _, e, _⟩ => (by cases e), fun ⟨_, _, e, _⟩ => (by cases e)⟩
@[simp] theorem ok_noX {α : Type} (r : R α) (Q : α → S → Prop) : Ok (noX r) Q ↔ Ok r Q := by
  cases r with
  | stuck => rfl
  | ok a s => rfl
  | ex x s => exact ⟨fun ⟨_, _, e, _⟩ => (by cases e), fun ⟨_, _, e, _⟩ => (by cases e)⟩
theorem Ok.mono {α : Type} {r : R α} {Q Q' : α → S → Prop} (h : Ok r Q) (hq : ∀ a s, Q a s → Q' a s) : Ok r Q' := let ⟨a, s, e, q⟩ := h; ⟨a, s, e, hq a s q⟩
theorem ok_eq {α : Type} {r : R α} {a : α} {s : S} {Q : α → S → Prop} (e : r = .ok a s) (q : Q a s) : Ok r Q := ⟨a, s, e, q⟩
/-- a statement's end -/
def Go0 (r : RS) (Q : Ev → S → Prop) (T : D → S → Prop) : Prop := match r with
  | .nx ρ s => Q ρ s
  | .ret d s => T d s
  | _ => False
/-- sealed, so that no check of types runs the code -/
structure Go (r : RS) (Q : Ev → S → Prop) (T : D → S → Prop) : Prop where
  go : Go0 r Q T
@[simp] theorem go_nx (ρ : Ev) (s : S) (Q : Ev → S → Prop) (T : D → S → Prop) : Go (.nx ρ s) Q T ↔ Q ρ s := ⟨fun h => h.go, fun h => ⟨h⟩⟩
@[simp] theorem go_ret (d : D) (s : S) (Q : Ev → S → Prop) (T : D → S → Prop) : Go (.ret d s) Q T ↔ T d s := ⟨fun h => h.go, fun h => ⟨h⟩⟩
@[simp] theorem go_toS {α : Type} (r : R α) (k : α → S → RS) (Q : Ev → S → Prop) (T : D → S → Prop) : Go (r.toS k) Q T ↔ Ok r fun a s => Go (k a s) Q T := by
  cases r with
  | stuck => exact ⟨fun h => h.go.elim, fun ⟨_, _, e, _⟩ => (by cases e)⟩
  | ok a s => simp
  | ex x s => exact ⟨fun h => h.go.elim, fun ⟨_, _, e, _⟩ => (by cases e)⟩
@[simp] theorem go_seq (f g : Ev → S → RS) (ρ : Ev) (st : S) (Q : Ev → S → Prop) (T : D → S → Prop) : Go (sSeq f g ρ st) Q T ↔ Go (f ρ st) (fun ρ s => Go (g ρ s) Q T) T := by
  unfold sSeq
  cases f ρ st with
  | nx ρ s => exact ⟨fun h => ⟨h⟩, fun h => h.go⟩
  | ret d s => exact ⟨fun h => ⟨h.go⟩, fun h => ⟨h.go⟩⟩
  | _ => exact ⟨fun h => h.go.elim, fun h => h.go.elim⟩
theorem Go.mono {r : RS} {Q Q' : Ev → S → Prop} {T T' : D → S → Prop} (h : Go r Q T) (hq : ∀ ρ s, Q ρ s → Q' ρ s) (ht : ∀ d s, T d s → T' d s) : Go r Q' T' := by
  cases r with
  | nx ρ s => exact ⟨hq ρ s h.go⟩
  | ret d s => exact ⟨ht d s h.go⟩
  | _ => exact h.go.elim
theorem ok_sem {n m : Nat} {fb : Ev → S → RS} {ds : List D} {st : S} {Q : D → S → Prop} (hl : ds.length = n) (h : Go (fb (ds.map Sl.sh ++ List.replicate (m - ds.length) .no) st) (fun _ s => Q .non s) Q) : Ok (semOf n m fb ds st) Q := by
  unfold semOf
  rw [if_pos hl]
  revert h
  cases fb (ds.map Sl.sh ++ List.replicate (m - ds.length) .no) st with
  | nx ρ s => exact fun h => ⟨_, _, rfl, h.go⟩
  | ret d s => exact fun h => ⟨_, _, rfl, h.go⟩
  | _ => exact fun h => h.go.elim
/-- a loop: an invariant by what is left -/
theorem go_for {t : Tg} {body : Ev → S → RS} {Q : Ev → S → Prop} {T : D → S → Prop} (I : List D → Ev → S → Prop) : ∀ {ds : List D} {ρ : Ev} {st : S}, I ds ρ st →
    (∀ d ds ρ st, I (d :: ds) ρ st → ∃ ρ', bindT t d ρ = some ρ' ∧ Go (body ρ' st) (I ds) T) → (∀ ρ st, I [] ρ st → Q ρ st) → Go (forD t body ds ρ st) Q T
  | [], ρ, st, h, hs, hd => ⟨hd ρ st h⟩
  | d :: ds, ρ, st, h, hs, hd => by
    obtain ⟨ρ', e, g⟩ := hs d ds ρ st h
    unfold forD
    rw [e]
    dsimp only
    revert g
    cases body ρ' st with
    | nx ρ2 s2 => exact fun g => go_for I g.go hs hd
    | ret d s => exact fun g => ⟨g.go⟩
    | _ => exact fun g => g.go.elim
/-- a comprehension that leaves the store -/
theorem comp_pure {t : Tg} {tt : Ev → S → R Bool} {te : Ev → S → R D} {ρ : Ev} {st : S} (p : D → Bool) (f : D → D) : ∀ {ds : List D}, (∀ d ∈ ds, ∃ ρ', bindT t d ρ = some ρ' ∧ tt ρ' st = .ok (p d) st ∧ (p d = true → te ρ' st = .ok (f d) st)) →
    compD t tt te ρ ds st = .ok ((ds.filter p).map f) st
  | [], h => rfl
  | d :: ds, h => by
    obtain ⟨ρ', e, h1, h2⟩ := h d List.mem_cons_self
    have ih := comp_pure (tt := tt) (te := te) (st := st) p f (ds := ds) fun d hd => h d (List.mem_cons_of_mem _ hd)
    unfold compD
    rw [e]
    dsimp only
    rw [h1]
    dsimp only [noX, R.bind]
    cases hp : p d with
    | false => rw [if_neg Bool.false_ne_true, ih, List.filter_cons_of_neg (by rw [hp]; exact Bool.false_ne_true)]
    | true =>
      rw [if_pos rfl, h2 hp]
      dsimp only
      rw [ih, List.filter_cons_of_pos hp]
      rfl
theorem comp_map {t : Tg} {te : Ev → S → R D} {ρ : Ev} {st : S} {ds : List D} (f : D → D) (h : ∀ d ∈ ds, ∃ ρ', bindT t d ρ = some ρ' ∧ te ρ' st = .ok (f d) st) : compD t tTrue te ρ ds st = .ok (ds.map f) st := by
  have := comp_pure (t := t) (tt := tTrue) (te := te) (ρ := ρ) (st := st) (fun _ => true) f (ds := ds) fun d hd => by
    obtain ⟨ρ', e, h1⟩ := h d hd
    exact ⟨ρ', e, rfl, fun _ => h1⟩
  rw [this, List.filter_eq_self.mpr (fun _ _ => rfl)]
/-- a comprehension with a changing store -/
theorem comp_ok {t : Tg} {te : Ev → S → R D} {ρ : Ev} (I : S → Prop) (P : D → D → Prop) : ∀ {ds : List D} {st : S}, I st → (∀ d ∈ ds, ∀ st, I st → ∃ ρ', bindT t d ρ = some ρ' ∧ Ok (te ρ' st) fun y s => I s ∧ P d y) →
    Ok (compD t tTrue te ρ ds st) fun ys s => I s ∧ Paired P ds ys
  | [], st, h, _ => ⟨_, _, rfl, h, .nil⟩
  | d :: ds, st, h, hs => by
    obtain ⟨ρ', e, y, s1, e1, h1, h2⟩ := hs d List.mem_cons_self st h
    obtain ⟨ys, s2, e2, h3, h4⟩ := comp_ok I P (ds := ds) h1 fun d hd => hs d (List.mem_cons_of_mem _ hd)
    refine ⟨y :: ys, s2, ?_, h3, .cons h2 h4⟩
    unfold compD
    rw [e]
    dsimp only [tTrue, noX, R.bind]
    rw [if_pos rfl, e1]
    dsimp only
    rw [e2]
end
section
set_option maxHeartbeats 1000000
/-! Stepping through denotations: one rule a combinator, to be used backwards. -/

open PySem L2 DL
section
variable {ρ : Ev} {st : S} {Q : D → S → Prop} {QB : Bool → S → Prop} {QL : List D → S → Prop} {QO : Option Int → S → Prop} {fa fb fc f : Ev → S → R D} {g gk : Ev → S → R (List D)} {t u : Ev → S → R Bool} {o o' : D → D → S → R D} {i : Nat} {d : D}
theorem k_var (e : ρ[i]? = some (.sh d)) (q : Q d st) : Ok (dVar i ρ st) Q := by unfold dVar; rw [e]; exact ⟨_, _, rfl, q⟩
theorem k_own {ds : List D} (e : ρ[i]? = some (.own ds)) (q : Q (.lst ds) st) : Ok (dOwn i ρ st) Q := by unfold dOwn; rw [e]; exact ⟨_, _, rfl, q⟩
theorem k_c (q : Q d st) : Ok (dC d ρ st) Q := ⟨_, _, rfl, q⟩
theorem k_bin (h : Ok (fa ρ st) fun x s => Ok (fb ρ s) fun y s => Ok (o x y s) Q) : Ok (dBin o fa fb ρ st) Q := by unfold dBin; rw [ok_bind]; exact h.mono fun x s h => by rw [ok_bind]; exact h
theorem k_un {o : D → S → R D} (h : Ok (fa ρ st) fun x s => Ok (o x s) Q) : Ok (dUn o fa ρ st) Q := by unfold dUn; rw [ok_bind]; exact h
theorem k_nil (q : QL [] st) : Ok (dNil ρ st) QL := ⟨_, _, rfl, q⟩
theorem k_cons (h : Ok (f ρ st) fun x s => Ok (g ρ s) fun xs s => QL (x :: xs) s) : Ok (dCons f g ρ st) QL := by
  unfold dCons; rw [ok_bind]
  exact h.mono fun x s h => by rw [ok_bind]; exact h.mono fun xs s q => ⟨_, _, rfl, q⟩
theorem k_call {F : List D → S → R D} (h : Ok (g ρ st) fun ds s => Ok (F ds s) Q) : Ok (dCall F g ρ st) Q := by unfold dCall; rw [ok_bind]; exact h
theorem k_callK {F : List D → S → R D} {n m : Nat} {pm : List Nat} (h : Ok (g ρ st) fun ds s => Ok (gk ρ s) fun es s => ds.length = n ∧ es.length = m ∧ Ok (F (gath (ds ++ es) pm) s) Q) : Ok (dCallK F n m pm g gk ρ st) Q := by
  unfold dCallK; rw [ok_bind]
  exact h.mono fun ds s h => by
    rw [ok_bind]
    exact h.mono fun es s ⟨h1, h2, h⟩ => by rw [if_pos ⟨h1, h2⟩]; exact h
theorem k_one {F : D → S → R D} {x : D} (h : Ok (F x st) Q) : Ok (one F [x] st) Q := h
theorem k_tup (h : Ok (g ρ st) fun ds s => ds.length ≤ sizeLine ∧ Q (.tup ds) s) : Ok (dTup g ρ st) Q := by
  unfold dTup; rw [ok_bind]; exact h.mono fun ds s ⟨h1, q⟩ => by rw [if_pos h1]; exact ⟨_, _, rfl, q⟩
theorem k_lst (h : Ok (g ρ st) fun ds s => ds.length ≤ sizeLine ∧ Q (.lst ds) s) : Ok (dLst g ρ st) Q := by
  unfold dLst; rw [ok_bind]; exact h.mono fun ds s ⟨h1, q⟩ => by rw [if_pos h1]; exact ⟨_, _, rfl, q⟩
theorem k_lstRef (h : Ok (g ρ st) fun ds s => ds.length ≤ sizeLine ∧ Q (.ref s.length) (s ++ [.lst ds])) : Ok (dLstRef g ρ st) Q := by
  unfold dLstRef; rw [ok_bind]; exact h.mono fun ds s ⟨h1, q⟩ => by rw [if_pos h1]; exact ⟨_, _, rfl, q⟩
theorem k_tst (h : Ok (f ρ st) fun x s => Ok (tstD x s) QB) : Ok (dTst f ρ st) QB := by unfold dTst; rw [ok_bind]; exact h
theorem k_tb (h : Ok (f ρ st) fun x s => ∃ b, x = .bl b ∧ QB b s) : Ok (dTB f ρ st) QB := by
  unfold dTB; rw [ok_bind]; exact h.mono fun x s ⟨b, e, q⟩ => by subst e; exact ⟨_, _, rfl, q⟩
theorem k_tand (h : Ok (t ρ st) fun b s => (b = true → Ok (u ρ s) QB) ∧ (b = false → QB false s)) : Ok (tAndD t u ρ st) QB := by
  unfold tAndD; rw [ok_bind]
  exact h.mono fun b s h => by
    cases b with
    | true => exact h.1 rfl
    | false => exact ⟨_, _, rfl, h.2 rfl⟩
theorem k_tor (h : Ok (t ρ st) fun b s => (b = true → QB true s) ∧ (b = false → Ok (u ρ s) QB)) : Ok (tOrD t u ρ st) QB := by
  unfold tOrD; rw [ok_bind]
  exact h.mono fun b s h => by
    cases b with
    | false => exact h.2 rfl
    | true => exact ⟨_, _, rfl, h.1 rfl⟩
theorem k_tnot (h : Ok (t ρ st) fun b s => QB (!b) s) : Ok (tNotD t ρ st) QB := by
  unfold tNotD; rw [ok_bind]; exact h.mono fun b s q => ⟨_, _, rfl, q⟩
theorem k_and (h : Ok (fa ρ st) fun x s => Ok (tstD x s) fun b s => (b = true → Ok (fb ρ s) Q) ∧ (b = false → Q x s)) : Ok (dAnd fa fb ρ st) Q := by
  unfold dAnd; rw [ok_bind]
  exact h.mono fun x s h => by
    rw [ok_bind]
    exact h.mono fun b s h => by
      cases b with
      | true => exact h.1 rfl
      | false => exact ⟨_, _, rfl, h.2 rfl⟩
theorem k_or (h : Ok (fa ρ st) fun x s => Ok (tstD x s) fun b s => (b = true → Q x s) ∧ (b = false → Ok (fb ρ s) Q)) : Ok (dOr fa fb ρ st) Q := by
  unfold dOr; rw [ok_bind]
  exact h.mono fun x s h => by
    rw [ok_bind]
    exact h.mono fun b s h => by
      cases b with
      | false => exact h.2 rfl
      | true => exact ⟨_, _, rfl, h.1 rfl⟩
theorem k_not (h : Ok (fa ρ st) fun x s => Ok (tstD x s) fun b s => Q (.bl (!b)) s) : Ok (dNot fa ρ st) Q := by
  unfold dNot; rw [ok_bind]
  exact h.mono fun x s h => by rw [ok_bind]; exact h.mono fun b s q => ⟨_, _, rfl, q⟩
theorem k_if (h : Ok (t ρ st) fun b s => (b = true → Ok (fa ρ s) Q) ∧ (b = false → Ok (fb ρ s) Q)) : Ok (dIf t fa fb ρ st) Q := by
  unfold dIf; rw [ok_bind]
  exact h.mono fun b s h => by
    cases b with
    | true => exact h.1 rfl
    | false => exact h.2 rfl
theorem k_chain (h : Ok (fa ρ st) fun x s => Ok (fb ρ s) fun y s => Ok (o x y s) fun z s => ∃ b, z = .bl b ∧ (b = true → Ok (fc ρ s) fun w s => Ok (o' y w s) Q) ∧ (b = false → Q (.bl false) s)) : Ok (dChain o o' fa fb fc ρ st) Q := by
  unfold dChain; rw [ok_bind]
  exact h.mono fun x s h => by
    rw [ok_bind]
    exact h.mono fun y s h => by
      rw [ok_bind]
      exact h.mono fun z s ⟨b, e, h1, h2⟩ => by
        subst e
        cases b with
        | true => dsimp only; rw [ok_bind]; exact h1 rfl
        | false => exact ⟨_, _, rfl, h2 rfl⟩
theorem k_noP (q : QO none st) : Ok (dNoP ρ st) QO := ⟨_, _, rfl, q⟩
theorem k_part (h : Ok (f ρ st) fun x s => ∃ i, x = .int i ∧ QO (some i) s) : Ok (dPart f ρ st) QO := by
  unfold dPart; rw [ok_bind]; exact h.mono fun x s ⟨i, e, q⟩ => by subst e; exact ⟨_, _, rfl, q⟩
theorem k_sl {lo hi : Ev → S → R (Option Int)} (h : Ok (f ρ st) fun x s => Ok (lo ρ s) fun i s => Ok (hi ρ s) fun j s => Ok (slD x i j s) Q) : Ok (dSl f lo hi ρ st) Q := by
  unfold dSl; rw [ok_bind]
  exact h.mono fun x s h => by rw [ok_bind]; exact h.mono fun i s h => by rw [ok_bind]; exact h
theorem k_join (h : Ok (fa ρ st) fun x s => ∃ a, x = .str a ∧ Ok (fb ρ s) fun y s => Ok (joinD a y s) Q) : Ok (dJoin fa fb ρ st) Q := by
  unfold dJoin; rw [ok_bind]
  exact h.mono fun x s ⟨a, e, h⟩ => by subst e; dsimp only; rw [ok_bind]; exact h
theorem k_items (h : Ok (f ρ st) fun x s => Ok (itemsD x s) QL) : Ok (dItems f ρ st) QL := by unfold dItems; rw [ok_bind]; exact h
theorem k_range (h : Ok (g ρ st) fun x s => Ok (range1D x s) QL) : Ok (dRange g ρ st) QL := by unfold dRange; rw [ok_bind]; exact h
theorem k_range2 (h : Ok (g ρ st) fun x s => Ok (range2D x s) QL) : Ok (dRange2 g ρ st) QL := by unfold dRange2; rw [ok_bind]; exact h
theorem k_zip (h : Ok (g ρ st) fun x s => Ok (zipD x s) QL) : Ok (dZip g ρ st) QL := by unfold dZip; rw [ok_bind]; exact h
theorem k_lc {tg : Tg} {vs : List Nat} {fi : Ev → S → R (List D)} {tt : Ev → S → R Bool} {te : Ev → S → R D} (h : Ok (fi ρ st) fun ds s => ds.length ≤ sizeLine ∧ Ok (compD tg tt te (wipeE ρ vs) ds s) fun ys s => Q (.lst ys) s) : Ok (dLc tg vs fi tt te ρ st) Q := by
  unfold dLc; rw [ok_bind]
  exact h.mono fun ds s ⟨h1, h⟩ => by rw [if_pos h1, ok_bind]; exact h.mono fun ys s q => ⟨_, _, rfl, q⟩
end
section
variable {ρ : Ev} {st : S} {Q : Ev → S → Prop} {T : D → S → Prop} {fe f : Ev → S → R D} {fs : Ev → S → R (List D)} {t : Ev → S → R Bool} {a b : Ev → S → RS} {i : Nat} {ds : List D}
theorem g_seq (h : Go (a ρ st) (fun ρ s => Go (b ρ s) Q T) T) : Go (sSeq a b ρ st) Q T := (go_seq a b ρ st Q T).mpr h
theorem g_next (h : Q ρ st) : Go (sNext ρ st) Q T := ⟨h⟩
theorem g_set (h : Ok (fe ρ st) fun d s => Q (ρ.set i (.sh d)) s) : Go (sSet i fe ρ st) Q T := by unfold sSet; rw [go_toS]; exact h.mono fun _ _ q => ⟨q⟩
theorem g_ret (h : Ok (fe ρ st) T) : Go (sRet fe ρ st) Q T := by unfold sRet; rw [go_toS]; exact h.mono fun _ _ q => ⟨q⟩
theorem g_retOwn (e : ρ[i]? = some (.own ds)) (h : T (.lst ds) st) : Go (sRetOwn i ρ st) Q T := by unfold sRetOwn; rw [e]; exact ⟨h⟩
theorem g_drop (h : Ok (fe ρ st) fun _ s => Q ρ s) : Go (sDrop fe ρ st) Q T := by unfold sDrop; rw [go_toS]; exact h.mono fun _ _ q => ⟨q⟩
theorem g_if (h : Ok (t ρ st) fun c s => (c = true → Go (a ρ s) Q T) ∧ (c = false → Go (b ρ s) Q T)) : Go (sIf t a b ρ st) Q T := by
  unfold sIf; rw [go_toS]
  exact h.mono fun c s h => by
    cases c with
    | true => exact h.1 rfl
    | false => exact h.2 rfl
theorem g_own (h : Ok (fs ρ st) fun ds s => ds.length ≤ sizeLine ∧ Q (ρ.set i (.own ds)) s) : Go (sOwn i fs ρ st) Q T := by
  unfold sOwn; rw [go_toS]; exact h.mono fun ds s ⟨h1, q⟩ => by rw [if_pos h1]; exact ⟨q⟩
theorem g_app (e : ρ[i]? = some (.own ds)) (h : Ok (fe ρ st) fun d s => ds.length < sizeLine ∧ Q (ρ.set i (.own (ds ++ [d]))) s) : Go (sApp i fe ρ st) Q T := by
  unfold sApp; rw [e]; dsimp only; rw [go_toS]; exact h.mono fun d s ⟨h1, q⟩ => by rw [if_pos h1]; exact ⟨q⟩
theorem g_ins (e : ρ[i]? = some (.own ds)) (h : Ok (fs ρ st) fun as s => ∃ k d, as = [.int k, d] ∧ ds.length < sizeLine ∧ 0 ≤ k ∧ k < 2 ^ 63 ∧ Q (ρ.set i (.own (insL ds k.toNat d))) s) : Go (sIns i fs ρ st) Q T := by
  unfold sIns; rw [e]; dsimp only; rw [go_toS]
  exact h.mono fun as s ⟨k, d, e1, h1, h2, h3, q⟩ => by
    subst e1
    dsimp only
    rw [if_pos (by simp only [Bool.and_eq_true, decide_eq_true_eq]; exact ⟨h1, h2, h3⟩)]
    exact ⟨q⟩
theorem g_put {fo fi : Ev → S → R D} (h : Ok (fe ρ st) fun d s => Ok (fo ρ s) fun o s => Ok (fi ρ s) fun j s => ∃ k n ds m, o = .ref k ∧ j = .int n ∧ s[k]? = some (.lst ds) ∧ ixN ds.length n = some m ∧ Q ρ (s.set k (.lst (ds.set m d)))) : Go (sPut fo fi fe ρ st) Q T := by
  unfold sPut; rw [go_toS]
  exact h.mono fun d s h => by
    rw [go_toS]
    exact h.mono fun o s h => by
      rw [go_toS]
      exact h.mono fun j s ⟨k, n, ds, m, e1, e2, e3, e4, q⟩ => by
        subst e1 e2
        dsimp only
        rw [e3]
        dsimp only
        rw [e4]
        exact ⟨q⟩
theorem g_asg {tg : Tg} (h : Ok (fe ρ st) fun d s => ∃ ρ', bindT tg d ρ = some ρ' ∧ Q ρ' s) : Go (sAsg tg fe ρ st) Q T := by
  unfold sAsg; rw [go_toS]; exact h.mono fun d s ⟨ρ', e, q⟩ => by rw [e]; exact ⟨q⟩
theorem g_par {is : List Nat} (h : Ok (fs ρ st) fun ds s => ds.length = is.length ∧ Q (setAll is ds ρ) s) : Go (sPar is fs ρ st) Q T := by
  unfold sPar; rw [go_toS]; exact h.mono fun ds s ⟨e, q⟩ => by rw [if_pos e]; exact ⟨q⟩
theorem g_for {tg : Tg} (h : Ok (fs ρ st) fun ds s => Go (forD tg a ds ρ s) Q T) : Go (sFor tg fs a ρ st) Q T := by unfold sFor; rw [go_toS]; exact h
end
/-! operations on data of known kinds -/
section
variable {st : S} {Q : D → S → Prop}
theorem mod_ok {i m : Int} (h : 0 < m) (q : Q (.int (i % m)) st) : Ok (modD (.int i) (.int m) st) Q := by
  refine ⟨_, _, ?_, q⟩
  unfold modD intD
  dsimp only [view]
  rw [if_pos (decide_eq_true h)]
theorem fdiv_ok {i m : Int} (h : 0 < m) (h2 : m < 1073741824) (q : Q (.int (i / m)) st) : Ok (fdivD (.int i) (.int m) st) Q := by
  refine ⟨_, _, ?_, q⟩
  unfold fdivD intD
  dsimp only [view]
  rw [if_pos (by simp only [Bool.and_eq_true, decide_eq_true_eq]; exact ⟨h, h2⟩)]
theorem atI_nat {α : Type} {xs : List α} {n : Nat} {a : α} (h : xs[n]? = some a) : L2.atI xs (n : Int) = some a := by
  have hl : n < xs.length := (List.getElem?_eq_some_iff.mp h).1
  unfold L2.atI L2.ixN
  rw [if_pos (by omega), if_pos (by omega)]
  show xs[(n : Int).toNat]? = some a
  rw [Int.toNat_natCast]
  exact h
theorem atI_z {α : Type} (a : α) (r : List α) : L2.atI (a :: r) 0 = some a := atI_nat rfl
theorem atI_int {α : Type} {xs : List α} {n : Int} {a : α} (h0 : 0 ≤ n) (h : xs[n.toNat]? = some a) : L2.atI xs n = some a := by
  have := atI_nat h
  rwa [Int.toNat_of_nonneg h0] at this
theorem ixL_ok {ds : List D} {n : Int} {d : D} (h : L2.atI ds n = some d) (q : Q d st) : Ok (ixD (.lst ds) (.int n) st) Q := by
  refine ⟨_, _, ?_, q⟩
  unfold ixD
  dsimp only [view]
  rw [h]
theorem ixT_ok {ds : List D} {n : Int} {d : D} (h : L2.atI ds n = some d) (q : Q d st) : Ok (ixD (.tup ds) (.int n) st) Q := by
  refine ⟨_, _, ?_, q⟩
  unfold ixD
  dsimp only [view]
  rw [h]
theorem ixS_ok {x : Str} {n : Int} {c : Nat} (hl : x.length ≤ sizeLine) (h : L2.atI x.cps.toList n = some c) (q : Q (.str ⟨#[c]⟩) st) : Ok (ixD (.str x) (.int n) st) Q := by
  refine ⟨_, _, ?_, q⟩
  unfold ixD
  dsimp only [view]
  rw [if_pos hl, h]
theorem mul_ok {i j : Int} (h : mulC i j = true) (q : Q (.int (i * j)) st) : Ok (mulD (.int i) (.int j) st) Q := by
  refine ⟨_, _, ?_, q⟩
  unfold mulD
  dsimp only [view]
  rw [if_pos h]
theorem mulC_r {i j : Int} (h1 : -2 ^ 64 < j) (h2 : j < 2 ^ 64) : mulC i j = true := by
  unfold mulC
  simp only [Bool.or_eq_true, Bool.and_eq_true, decide_eq_true_eq]
  exact .inr ⟨h1, h2⟩
theorem mulC_l {i j : Int} (h1 : -2 ^ 64 < i) (h2 : i < 2 ^ 64) : mulC i j = true := by
  unfold mulC
  simp only [Bool.or_eq_true, Bool.and_eq_true, decide_eq_true_eq]
  exact .inl ⟨h1, h2⟩
theorem pow_ok {i j : Int} (h0 : 0 ≤ j) (h1 : j ≤ 1000000) (h2 : i.natAbs < 2 ^ 64) (q : Q (.int (i ^ j.toNat)) st) : Ok (powD (.int i) (.int j) st) Q := by
  refine ⟨_, _, ?_, q⟩
  unfold powD intD
  dsimp only [view]
  rw [if_pos (by simp only [Bool.and_eq_true, decide_eq_true_eq]; exact ⟨h0, h1, h2⟩)]
theorem addS_ok {x y : Str} (h : x.length + y.length ≤ sizeLine) (q : Q (.str (x ++ y)) st) : Ok (addD (.str x) (.str y) st) Q := by
  refine ⟨_, _, ?_, q⟩
  unfold addD
  dsimp only [view]
  rw [if_pos h]
theorem addL_ok {x y : List D} (h : x.length + y.length ≤ sizeLine) (q : Q (.lst (x ++ y)) st) : Ok (addD (.lst x) (.lst y) st) Q := by
  refine ⟨_, _, ?_, q⟩
  unfold addD
  dsimp only [view]
  rw [if_pos h]
theorem addT_ok {x y : List D} (h : x.length + y.length ≤ sizeLine) (q : Q (.tup (x ++ y)) st) : Ok (addD (.tup x) (.tup y) st) Q := by
  refine ⟨_, _, ?_, q⟩
  unfold addD
  dsimp only [view]
  rw [if_pos h]
theorem lenS_ok {x : Str} (h : x.length ≤ sizeLine) (q : Q (.int x.length) st) : Ok (lenD (.str x) st) Q := by
  refine ⟨_, _, ?_, q⟩
  unfold lenD
  dsimp only [view]
  rw [if_pos h]
theorem range1_ok {n : Int} {QL : List D → S → Prop} (h : n < 2 ^ 62) (h0 : -(2 ^ 62) ≤ n) (q : QL ((List.range n.toNat).map fun (i : Nat) => .int i) st) : Ok (range1D [.int n] st) QL := by
  refine ⟨_, _, ?_, q⟩
  unfold range1D
  dsimp only
  rw [if_pos (by simp only [Bool.and_eq_true, decide_eq_true_eq]; exact ⟨h0, h⟩)]
end
end
section
set_option maxHeartbeats 1000000
/-! Operations on data of known kinds, backwards. -/

open PySem L2 DL
section
variable {st : S} {Q : D → S → Prop} {QB : Bool → S → Prop} {QL : List D → S → Prop}
theorem o_addI {i j : Int} (q : Q (.int (i + j)) st) : Ok (addD (.int i) (.int j) st) Q := ⟨_, _, rfl, q⟩
theorem o_subI {i j : Int} (q : Q (.int (i - j)) st) : Ok (subD (.int i) (.int j) st) Q := ⟨_, _, rfl, q⟩
theorem o_ltI {i j : Int} (q : Q (.bl (decide (i < j))) st) : Ok (ltD (.int i) (.int j) st) Q := ⟨_, _, rfl, q⟩
theorem o_leI {i j : Int} (q : Q (.bl (decide (i ≤ j))) st) : Ok (leD (.int i) (.int j) st) Q := ⟨_, _, rfl, q⟩
theorem o_gtI {i j : Int} (q : Q (.bl (decide (j < i))) st) : Ok (gtD (.int i) (.int j) st) Q := ⟨_, _, rfl, q⟩
theorem o_geI {i j : Int} (q : Q (.bl (decide (j ≤ i))) st) : Ok (geD (.int i) (.int j) st) Q := ⟨_, _, rfl, q⟩
theorem o_eqI {i j : Int} (q : Q (.bl (decide (i = j))) st) : Ok (eqD (.int i) (.int j) st) Q := ⟨_, _, rfl, q⟩
theorem o_neI {i j : Int} (q : Q (.bl (!decide (i = j))) st) : Ok (neD (.int i) (.int j) st) Q := ⟨_, _, rfl, q⟩
theorem o_ltS {x y : Str} (q : Q (.bl (ltS x y)) st) : Ok (ltD (.str x) (.str y) st) Q := ⟨_, _, rfl, q⟩
theorem o_leS {x y : Str} (q : Q (.bl (!ltS y x)) st) : Ok (leD (.str x) (.str y) st) Q := ⟨_, _, rfl, q⟩
theorem o_eqS {x y : Str} (q : Q (.bl (decide (x = y))) st) : Ok (eqD (.str x) (.str y) st) Q := ⟨_, _, rfl, q⟩
theorem o_neS {x y : Str} (q : Q (.bl (!decide (x = y))) st) : Ok (neD (.str x) (.str y) st) Q := ⟨_, _, rfl, q⟩
theorem okd_bl (b : Bool) : okd (.bl b) = true := by cases b <;> decide
theorem o_eqB {a b : Bool} (q : Q (.bl (a == b)) st) : Ok (eqD (.bl a) (.bl b) st) Q := by
  refine ⟨_, _, ?_, q⟩
  unfold eqD
  dsimp only [view]
  rw [okd_bl, okd_bl]
  simp only [Bool.and_self, if_true]
  unfold eqd
  simp only [py, PyData.eqv]
theorem o_neB {a b : Bool} (q : Q (.bl (a != b)) st) : Ok (neD (.bl a) (.bl b) st) Q := by
  refine ⟨_, _, ?_, q⟩
  unfold neD
  dsimp only [view]
  rw [okd_bl, okd_bl]
  simp only [Bool.and_self, if_true]
  unfold eqd
  simp only [py, PyData.eqv, bne]
/-- == in general -/
theorem o_eq {a b : D} (h1 : okd a = true) (h2 : okd b = true) (h3 : ∀ i, a ≠ .ref i) (h4 : ∀ i, b ≠ .ref i) (q : Q (.bl (eqd a b)) st) : Ok (eqD a b st) Q := by
  have e1 : view a st = a := by cases a <;> first | rfl | exact absurd rfl (h3 _)
  have e2 : view b st = b := by cases b <;> first | rfl | exact absurd rfl (h4 _)
  unfold eqD
  rw [e1, e2]
  split
  · refine ⟨_, _, rfl, ?_⟩
    unfold eqd at q
    simp only [py, PyData.eqv] at q
    rw [Bool.beq_eq_decide_eq] at q
    exact q
  · refine ⟨_, _, rfl, ?_⟩
    unfold eqd at q
    simp only [py, PyData.eqv] at q
    rw [Bool.beq_eq_decide_eq] at q
    exact q
  · rw [h1, h2]
    exact ⟨_, _, rfl, q⟩
def isNon : D → Bool
  | .non => true
  | _ => false
theorem o_isN {d : D} (q : Q (.bl (isNon d)) st) : Ok (isND d .non st) Q := by
  cases d <;> exact ⟨_, _, rfl, q⟩
theorem o_isNN {d : D} (q : Q (.bl (!isNon d)) st) : Ok (isNND d .non st) Q := by
  cases d <;> exact ⟨_, _, rfl, q⟩
theorem o_lenL {ds : List D} (q : Q (.int ds.length) st) : Ok (lenD (.lst ds) st) Q := ⟨_, _, rfl, q⟩
theorem o_lenT {ds : List D} (q : Q (.int ds.length) st) : Ok (lenD (.tup ds) st) Q := ⟨_, _, rfl, q⟩
theorem o_intF {i : Int} (q : Q (.int i) st) : Ok (intF (.int i) st) Q := ⟨_, _, rfl, q⟩
theorem o_abs {i : Int} (q : Q (.int (if i < 0 then -i else i)) st) : Ok (absD (.int i) st) Q := ⟨_, _, rfl, q⟩
theorem o_neg {i : Int} (q : Q (.int (-i)) st) : Ok (negD (.int i) st) Q := ⟨_, _, rfl, q⟩
theorem o_tupL {ds : List D} (q : Q (.tup ds) st) : Ok (tupleF (.lst ds) st) Q := ⟨_, _, rfl, q⟩
theorem o_tupT {ds : List D} (q : Q (.tup ds) st) : Ok (tupleF (.tup ds) st) Q := ⟨_, _, rfl, q⟩
theorem o_lstL {ds : List D} (q : Q (.lst ds) st) : Ok (listF (.lst ds) st) Q := ⟨_, _, rfl, q⟩
theorem o_lstT {ds : List D} (q : Q (.lst ds) st) : Ok (listF (.tup ds) st) Q := ⟨_, _, rfl, q⟩
theorem o_revL {ds : List D} (q : Q (.lst ds.reverse) st) : Ok (revD (.lst ds) st) Q := ⟨_, _, rfl, q⟩
theorem o_revT {ds : List D} (q : Q (.tup ds.reverse) st) : Ok (revD (.tup ds) st) Q := ⟨_, _, rfl, q⟩
theorem o_slL {ds : List D} {i j : Option Int} (q : Q (.lst (cutL ds i j)) st) : Ok (slD (.lst ds) i j st) Q := ⟨_, _, rfl, q⟩
theorem o_slT {ds : List D} {i j : Option Int} (q : Q (.tup (cutL ds i j)) st) : Ok (slD (.tup ds) i j st) Q := ⟨_, _, rfl, q⟩
theorem o_slScr {ns : List Int} {i j : Option Int} (q : Q (.lst (cutL (ns.map .int) i j)) st) : Ok (slD (.scr ns) i j st) Q := ⟨_, _, rfl, q⟩
theorem o_slS {x : Str} {i j : Option Int} (h : x.length ≤ sizeLine) (q : Q (.str (cutS x i j)) st) : Ok (slD (.str x) i j st) Q := by
  refine ⟨_, _, ?_, q⟩
  unfold slD
  dsimp only [view]
  rw [if_pos h]
theorem o_itemsL {ds : List D} (q : QL ds st) : Ok (itemsD (.lst ds) st) QL := ⟨_, _, rfl, q⟩
theorem o_itemsT {ds : List D} (q : QL ds st) : Ok (itemsD (.tup ds) st) QL := ⟨_, _, rfl, q⟩
theorem o_itemsS {x : Str} (q : QL (x.cps.toList.map fun c => .str ⟨#[c]⟩) st) : Ok (itemsD (.str x) st) QL := ⟨_, _, rfl, q⟩
theorem o_zipL {a b : List D} (q : QL ((a.zip b).map fun p => .pr p.1 p.2) st) : Ok (zipD [.lst a, .lst b] st) QL := ⟨_, _, rfl, q⟩
theorem o_zipT {a b : List D} (q : QL ((a.zip b).map fun p => .pr p.1 p.2) st) : Ok (zipD [.tup a, .tup b] st) QL := ⟨_, _, rfl, q⟩
theorem o_tstB {b : Bool} (q : QB b st) : Ok (tstD (.bl b) st) QB := ⟨_, _, rfl, q⟩
theorem o_tstL {ds : List D} (q : QB (!ds.isEmpty) st) : Ok (tstD (.lst ds) st) QB := ⟨_, _, rfl, q⟩
theorem o_tstT {ds : List D} (q : QB (!ds.isEmpty) st) : Ok (tstD (.tup ds) st) QB := ⟨_, _, rfl, q⟩
theorem o_tstI {i : Int} (q : QB (i != 0) st) : Ok (tstD (.int i) st) QB := ⟨_, _, rfl, q⟩
theorem o_tstN (q : QB false st) : Ok (tstD .non st) QB := ⟨_, _, rfl, q⟩
theorem o_allB {bs : List Bool} (q : Q (.bl (bs.all id)) st) : Ok (allD (.lst (bs.map .bl)) st) Q := by
  refine ⟨_, _, ?_, q⟩
  unfold allD
  dsimp only [view]
  rw [blsOf_map]
theorem view_tyOk {d : D} (h : tyOk d = true) : view d st = d := by cases d <;> first | rfl | (simp [tyOk] at h)
theorem o_isi {d : D} {n : String} (h : tyOk d = true) (hn : tyNames.contains n = true) (q : Q (.bl (isI d n)) st) : Ok (isiD [d, .ty n] st) Q := by
  refine ⟨_, _, ?_, q⟩
  unfold isiD
  dsimp only
  rw [view_tyOk h, h, hn]
  rfl
theorem o_isiT {d : D} {ts : List String} (h : tyOk d = true) (hn : (ts.all tyNames.contains && decide (ts.length ≤ sizeLine)) = true) (q : Q (.bl (ts.any fun n => isI d n)) st) : Ok (isiT ts d st) Q := by
  refine ⟨_, _, ?_, q⟩
  unfold isiT
  rw [view_tyOk h, h, hn]
  rfl
theorem o_sortS {xs : List Str} (h : xs.length < 64) (q : Q (.lst ((sortS xs).map .str)) st) : Ok (sortedD (.lst (xs.map .str)) st) Q := by
  refine ⟨_, _, ?_, q⟩
  unfold sortedD
  dsimp only [view]
  rw [strsOf_map]
  dsimp only
  rw [if_pos h]
theorem o_sortT {xs : List Str} (q : Q (.lst ((sortS xs).map .str)) st) : Ok (sortedD (.tup (xs.map .str)) st) Q := by
  unfold sortedD
  rw [show view (.tup (xs.map .str)) st = .tup (xs.map .str) from rfl]
  dsimp only
  rw [strsOf_map]
  exact ⟨_, _, rfl, q⟩
theorem o_join {a : Str} {xs : List Str} (h : (xs.map (·.length)).sum + xs.length * a.length ≤ 16777216) (q : Q (.str (Txt.join a xs)) st) : Ok (joinD a (.lst (xs.map .str)) st) Q := by
  refine ⟨_, _, ?_, q⟩
  unfold joinD
  dsimp only [view]
  rw [strsOf_map]
  dsimp only
  rw [if_pos h]
/-- a list of the store, item by item -/
theorem o_ixR {k : Nat} {n : Int} {ds : List D} {d : D} (e : st[k]? = some (.lst ds)) (h : L2.atI ds n = some d) (q : Q d st) : Ok (ixD (.ref k) (.int n) st) Q := by
  refine ⟨_, _, ?_, q⟩
  have ev : view (.ref k) st = .lst ds := by
    unfold view
    dsimp only
    rw [e]
  unfold ixD
  rw [ev]
  dsimp only [view_int]
  rw [h]
theorem o_inL {d : D} {ds : List D} (h : ((flatD d && ds.all flatD) || (okd d && okd (.lst ds))) = true) (hr : ∀ i, d ≠ .ref i) (q : Q (.bl (ds.any fun z => eqd z d)) st) : Ok (inD d (.lst ds) st) Q := by
  have e : view d st = d := by cases d <;> first | rfl | exact absurd rfl (hr _)
  refine ⟨_, _, ?_, q⟩
  unfold inD
  dsimp only [view_lst]
  rw [e, h, if_pos rfl]
theorem o_nInL {d : D} {ds : List D} (h : ((flatD d && ds.all flatD) || (okd d && okd (.lst ds))) = true) (hr : ∀ i, d ≠ .ref i) (q : Q (.bl (!ds.any fun z => eqd z d)) st) : Ok (nInD d (.lst ds) st) Q := by
  have e : view d st = d := by cases d <;> first | rfl | exact absurd rfl (hr _)
  refine ⟨_, _, ?_, q⟩
  unfold nInD inD
  dsimp only [view_lst]
  rw [e, h, if_pos rfl]
  rfl
theorem o_inT {d : D} {ds : List D} (h : (flatD d && ds.all flatD) = true) (q : Q (.bl (ds.any fun z => eqd z d)) st) : Ok (inD d (.tup ds) st) Q := by
  refine ⟨_, _, ?_, q⟩
  unfold inD
  dsimp only [view_tup]
  rw [h, if_pos rfl]
theorem o_nInT {d : D} {ds : List D} (h : (flatD d && ds.all flatD) = true) (q : Q (.bl (!ds.any fun z => eqd z d)) st) : Ok (nInD d (.tup ds) st) Q := by
  refine ⟨_, _, ?_, q⟩
  unfold nInD inD
  dsimp only [view_tup]
  rw [h, if_pos rfl]
  rfl
theorem o_inS {x z : Str} (q : Q (.bl (inS x z)) st) : Ok (inD (.str x) (.str z) st) Q := ⟨_, _, rfl, q⟩
end
/-- texts among texts -/
theorem eqd_str (a b : Str) : eqd (.str a) (.str b) = decide (a = b) := by
  unfold eqd
  simp only [py, PyData.eqv]
  rw [Bool.beq_eq_decide_eq]
theorem any_str (xs : List Str) (x : Str) : ((xs.map D.str).any fun z => eqd z (.str x)) = decide (x ∈ xs) := by
  induction xs with
  | nil => simp
  | cons y ys ih =>
    rw [List.map_cons, List.any_cons, ih, eqd_str]
    by_cases h : y = x
    · subst h; simp
    · have : ¬ x = y := fun e => h e.symm
      simp [h, this]
theorem flat_strs (xs : List Str) : (xs.map D.str).all flatD = true := by
  rw [List.all_map]
  exact List.all_eq_true.mpr fun _ _ => rfl
/-- an object in the midst of the store -/
theorem st_at (a : S) (x : MO) (b : S) : (a ++ x :: b)[a.length]? = some x := by
  rw [List.getElem?_append_right (Nat.le_refl _), Nat.sub_self]
  rfl
theorem st_set (a : S) (x y : MO) (b : S) : (a ++ x :: b).set a.length y = a ++ y :: b := by
  rw [List.set_append_right _ _ (Nat.le_refl _), Nat.sub_self]
  rfl
end
section
set_option maxHeartbeats 1000000
/-! Backward rules for index, max, min, comprehensions and appends of the store. -/

open PySem L2 DL
section
variable {st : S} {Q : D → S → Prop}
theorem o_max2 {i j : Int} (q : Q (.int (if j > i then j else i)) st) : Ok (maxD [.int i, .int j] st) Q := ⟨_, _, rfl, q⟩
theorem o_min2 {i j : Int} (q : Q (.int (if j < i then j else i)) st) : Ok (minD [.int i, .int j] st) Q := ⟨_, _, rfl, q⟩
theorem o_idxL {ds : List D} {d : D} {j : Nat} (h : (flatD d && ds.all flatD) = true) (e : (ds.findIdx? fun z => eqd z d) = some j) (q : Q (.int j) st) : Ok (idxL ds d st) Q := by
  refine ⟨_, _, ?_, q⟩
  unfold idxL
  rw [if_pos h, e]
theorem o_idxT {xs : List Str} {z : Str} {j : Nat} (e : (xs.findIdx? fun y => decide (y = z)) = some j) (q : Q (.int j) st) : Ok (idxT (xs.map .str) (.str z) st) Q := by
  refine ⟨_, _, ?_, q⟩
  unfold idxT
  rw [strsOf_map]
  dsimp only
  rw [e]
end
section
variable {st : S} {ρ : Ev} {fa fb : Ev → S → R D} {Q : D → S → Prop}
theorem k_indexT (h : Ok (fa ρ st) fun x s => ∃ ds, view x s = .tup ds ∧ Ok (fb ρ s) fun y s' => Ok (idxT ds y s') Q) : Ok (dIndex fa fb ρ st) Q := by
  obtain ⟨x, s, e, ds, ev, y, s', e2, h2⟩ := h
  unfold dIndex
  rw [e, R.bind_ok, ev]
  dsimp only
  rw [e2, R.bind_ok]
  exact h2
theorem k_indexL (h : Ok (fa ρ st) fun x s => ∃ ds, view x s = .lst ds ∧ Ok (fb ρ s) fun y s' => ∃ es, view x s' = .lst es ∧ Ok (idxL es y s') Q) : Ok (dIndex fa fb ρ st) Q := by
  obtain ⟨x, s, e, ds, ev, y, s', e2, es, ev2, h2⟩ := h
  unfold dIndex
  rw [e, R.bind_ok, ev]
  dsimp only
  rw [e2, R.bind_ok, ev2]
  exact h2
end
end
section
set_option maxHeartbeats 1000000
/-! Wishes with two ends: it ends well, or an exception leaves. -/

open PySem L2 DL
def OkE0 {α : Type} (r : R α) (Q : α → S → Prop) (X : Exn → S → Prop) : Prop := match r with
  | .stuck => False
  | .ok a s => Q a s
  | .ex x s => X x s
structure OkE {α : Type} (r : R α) (Q : α → S → Prop) (X : Exn → S → Prop) : Prop where
  go : OkE0 r Q X
def GoE0 (r : RS) (Q : Ev → S → Prop) (T : D → S → Prop) (X : Exn → S → Prop) : Prop := match r with
  | .nx ρ s => Q ρ s
  | .ret d s => T d s
  | .ex x s => X x s
  | _ => False
structure GoE (r : RS) (Q : Ev → S → Prop) (T : D → S → Prop) (X : Exn → S → Prop) : Prop where
  go : GoE0 r Q T X
section
variable {α β : Type} {r : R α} {Q Q' : α → S → Prop} {X X' : Exn → S → Prop}
theorem Ok.e (h : Ok r Q) : OkE r Q X := by
  obtain ⟨a, s, e, q⟩ := h
  exact ⟨by rw [e]; exact q⟩
theorem OkE.mono (h : OkE r Q X) (hq : ∀ a s, Q a s → Q' a s) (hx : ∀ x s, X x s → X' x s) : OkE r Q' X' := by
  obtain ⟨h⟩ := h
  revert h
  cases r with
  | stuck => exact fun h => h.elim
  | ok a s => exact fun h => ⟨hq a s h⟩
  | ex x s => exact fun h => ⟨hx x s h⟩
theorem oke_ex {x : Exn} {s : S} (h : X x s) : OkE (.ex x s : R α) Q X := ⟨h⟩
theorem OkE.ok (h : OkE r Q fun _ _ => False) : Ok r Q := by
  obtain ⟨h⟩ := h
  revert h
  cases r with
  | stuck => exact fun h => h.elim
  | ok a s => exact fun h => ⟨a, s, rfl, h⟩
  | ex x s => exact fun h => h.elim
theorem OkE.ex (h : OkE r (fun _ _ => False) X) : ∃ x s, r = .ex x s ∧ X x s := by
  obtain ⟨h⟩ := h
  revert h
  cases r with
  | stuck => exact fun h => h.elim
  | ok a s => exact fun h => h.elim
  | ex x s => exact fun h => ⟨x, s, rfl, h⟩
theorem oke_bind {k : α → S → R β} {P : β → S → Prop} (h : OkE r (fun a s => OkE (k a s) P X) X) : OkE (r.bind k) P X := by
  obtain ⟨h⟩ := h
  revert h
  cases r with
  | stuck => exact fun h => h.elim
  | ok a s => exact fun h => h
  | ex x s => exact fun h => ⟨h⟩
end
section
variable {ρ : Ev} {st : S} {Q : Ev → S → Prop} {T : D → S → Prop} {X : Exn → S → Prop} {fe f : Ev → S → R D} {fs : Ev → S → R (List D)} {t : Ev → S → R Bool} {a b : Ev → S → RS} {i : Nat} {ds : List D} {P : D → S → Prop}
theorem Go.e {r : RS} (h : Go r Q T) : GoE r Q T X := by
  obtain ⟨h⟩ := h
  revert h
  cases r with
  | nx ρ s => exact fun h => ⟨h⟩
  | ret d s => exact fun h => ⟨h⟩
  | _ => exact fun h => h.elim
theorem GoE.mono {r : RS} {Q' : Ev → S → Prop} {T' : D → S → Prop} {X' : Exn → S → Prop} (h : GoE r Q T X) (hq : ∀ ρ s, Q ρ s → Q' ρ s) (ht : ∀ d s, T d s → T' d s) (hx : ∀ x s, X x s → X' x s) : GoE r Q' T' X' := by
  obtain ⟨h⟩ := h
  revert h
  cases r with
  | nx ρ s => exact fun h => ⟨hq ρ s h⟩
  | ret d s => exact fun h => ⟨ht d s h⟩
  | ex x s => exact fun h => ⟨hx x s h⟩
  | _ => exact fun h => h.elim
theorem goe_toS {α : Type} {r : R α} {k : α → S → RS} (h : OkE r (fun a s => GoE (k a s) Q T X) X) : GoE (r.toS k) Q T X := by
  obtain ⟨h⟩ := h
  revert h
  cases r with
  | stuck => exact fun h => h.elim
  | ok a s => exact fun h => h
  | ex x s => exact fun h => ⟨h⟩
theorem oke_sem {n m : Nat} {fb : Ev → S → RS} (hl : ds.length = n) (h : GoE (fb (ds.map Sl.sh ++ List.replicate (m - ds.length) .no) st) (fun _ s => P .non s) P X) : OkE (semOf n m fb ds st) P X := by
  unfold semOf
  rw [if_pos hl]
  obtain ⟨h⟩ := h
  revert h
  cases fb (ds.map Sl.sh ++ List.replicate (m - ds.length) .no) st with
  | nx ρ s => exact fun h => ⟨h⟩
  | ret d s => exact fun h => ⟨h⟩
  | ex x s => exact fun h => ⟨h⟩
  | _ => exact fun h => h.elim
theorem e_seq (h : GoE (a ρ st) (fun ρ s => GoE (b ρ s) Q T X) T X) : GoE (sSeq a b ρ st) Q T X := by
  unfold sSeq
  obtain ⟨h⟩ := h
  revert h
  cases a ρ st with
  | nx ρ s => exact fun h => h
  | ret d s => exact fun h => ⟨h⟩
  | ex x s => exact fun h => ⟨h⟩
  | _ => exact fun h => h.elim
theorem e_next (h : Q ρ st) : GoE (sNext ρ st) Q T X := ⟨h⟩
theorem e_setX (h : OkE (fe ρ st) (fun d s => Q (ρ.set i (.sh d)) s) X) : GoE (sSet i fe ρ st) Q T X := goe_toS (h.mono (fun _ _ q => ⟨q⟩) fun _ _ q => q)
theorem e_if (h : Ok (t ρ st) fun c s => (c = true → GoE (a ρ s) Q T X) ∧ (c = false → GoE (b ρ s) Q T X)) : GoE (sIf t a b ρ st) Q T X := goe_toS (Ok.e (h.mono fun c s h => by
    cases c with
    | true => exact h.1 rfl
    | false => exact h.2 rfl))
theorem e_own (h : Ok (fs ρ st) fun ds s => ds.length ≤ sizeLine ∧ Q (ρ.set i (.own ds)) s) : GoE (sOwn i fs ρ st) Q T X := (g_own h).e
theorem e_asg {tg : Tg} (h : Ok (fe ρ st) fun d s => ∃ ρ', bindT tg d ρ = some ρ' ∧ Q ρ' s) : GoE (sAsg tg fe ρ st) Q T X := (g_asg h).e
theorem e_par {is : List Nat} (h : Ok (fs ρ st) fun ds s => ds.length = is.length ∧ Q (setAll is ds ρ) s) : GoE (sPar is fs ρ st) Q T X := (g_par h).e
theorem e_for {tg : Tg} (h : Ok (fs ρ st) fun ds s => GoE (forD tg a ds ρ s) Q T X) : GoE (sFor tg fs a ρ st) Q T X := goe_toS h.e
theorem e_raise {c n : Nat} {fl : List (Str × Src)} (h : Ok (fs ρ st) fun ds s => ds.length = n ∧ ∃ vs, putF (srcD ds) fl [] = some vs ∧ X ⟨c, vs⟩ s) : GoE (sRaise c n fl fs ρ st) Q T X := goe_toS (Ok.e (h.mono fun ds s ⟨h1, vs, h2, h3⟩ => by
    rw [if_pos h1, h2]
    exact ⟨h3⟩))
end
section
variable {ρ : Ev} {st : S} {Q : D → S → Prop} {X : Exn → S → Prop} {g gk : Ev → S → R (List D)}
theorem x_call {F : List D → S → R D} (h : Ok (g ρ st) fun ds s => OkE (F ds s) Q X) : OkE (dCall F g ρ st) Q X := by unfold dCall; exact oke_bind h.e
theorem x_callK {F : List D → S → R D} {n m : Nat} {pm : List Nat} (h : Ok (g ρ st) fun ds s => Ok (gk ρ s) fun es s => ds.length = n ∧ es.length = m ∧ OkE (F (gath (ds ++ es) pm) s) Q X) : OkE (dCallK F n m pm g gk ρ st) Q X := by
  unfold dCallK
  refine oke_bind (Ok.e (h.mono fun ds s h => oke_bind (Ok.e (h.mono fun es s ⟨h1, h2, h3⟩ => ?_))))
  rw [if_pos ⟨h1, h2⟩]
  exact h3
end
end
section
set_option maxHeartbeats 1000000
/-! The walker by classes (printed by wip/tools/mkDS.py): a step is an instance, a walk is one search. Levels: 0 "s", 1 "t", 2 "u", 3 "v". -/

open PySem L2 DL
/-- s is enough for g, by one step at least -/
class Wk (n : Nat) (g : Prop) (s : outParam Prop) : Prop where
  out : s → g
/-- by some steps -/
class Wc (n : Nat) (g : Prop) (s : outParam Prop) : Prop where
  out : s → g
instance (priority := 100) wcRefl {n : Nat} {p : Prop} : Wc n p p := ⟨id⟩
instance (priority := 1000) wcStep {n : Nat} {g s : Prop} [w : Wk n g s] : Wc n g s := ⟨w.out⟩
/-! frames as lists -/
class Fr0 (ds : List D) (m : Nat) (ρ : outParam Ev) : Prop where
  e : ds.map Sl.sh ++ List.replicate (m - ds.length) .no = ρ
instance fr00 : Fr0 [] 0 [] := ⟨rfl⟩
instance fr01 {m : Nat} {r : Ev} [h : Fr0 [] m r] : Fr0 [] (m + 1) (.no :: r) := ⟨by rw [← h.e]; rfl⟩
instance fr02 {d : D} {ds : List D} {m : Nat} {r : Ev} [h : Fr0 ds m r] : Fr0 (d :: ds) (m + 1) (.sh d :: r) := ⟨by rw [← h.e, List.map_cons, List.length_cons, Nat.add_sub_add_right]; rfl⟩
class SetAt (ρ : Ev) (i : Nat) (x : Sl) (r : outParam Ev) : Prop where
  e : ρ.set i x = r
instance setAt0 {y x : Sl} {r : Ev} : SetAt (y :: r) 0 x (x :: r) := ⟨rfl⟩
instance setAt1 {y x : Sl} {r r' : Ev} {i : Nat} [h : SetAt r i x r'] : SetAt (y :: r) (i + 1) x (y :: r') := ⟨by rw [List.set_cons_succ, h.e]⟩
class Nf (ρ : Ev) (ρ' : outParam Ev) : Prop where
  e : ρ = ρ'
instance (priority := 100) nfVar {ρ : Ev} : Nf ρ ρ := ⟨rfl⟩
instance nfCons {x : Sl} {r : Ev} : Nf (x :: r) (x :: r) := ⟨rfl⟩
instance nfSet {ρ ρ' r : Ev} {i : Nat} {x : Sl} [h : Nf ρ ρ'] [g : SetAt ρ' i x r] : Nf (ρ.set i x) r := ⟨by rw [h.e, g.e]⟩
instance nfFr {ds : List D} {m : Nat} {r : Ev} [h : Fr0 ds m r] : Nf (ds.map Sl.sh ++ List.replicate (m - ds.length) .no) r := ⟨h.e⟩
instance nfAll0 {ds : List D} {ρ ρ' : Ev} [h : Nf ρ ρ'] : Nf (setAll [] ds ρ) ρ' := ⟨by rw [h.e]; rfl⟩
instance nfAll1 {i : Nat} {is : List Nat} {d : D} {ds : List D} {ρ r : Ev} [h : Nf (setAll is ds (ρ.set i (.sh d))) r] : Nf (setAll (i :: is) (d :: ds) ρ) r := ⟨h.e⟩
instance nfW0 {ρ ρ' : Ev} [h : Nf ρ ρ'] : Nf (wipeE ρ []) ρ' := ⟨h.e⟩
instance nfW1 {v : Nat} {vs : List Nat} {ρ r : Ev} [h : Nf ((wipeE ρ vs).set v .no) r] : Nf (wipeE ρ (v :: vs)) r := ⟨h.e⟩
class SlAt (ρ : Ev) (i : Nat) (x : outParam Sl) : Prop where
  e : ρ[i]? = some x
instance slAt0 {x : Sl} {r : Ev} : SlAt (x :: r) 0 x := ⟨rfl⟩
instance slAt1 {x y : Sl} {r : Ev} {i : Nat} [h : SlAt r i x] : SlAt (y :: r) (i + 1) x := ⟨by rw [List.getElem?_cons_succ, h.e]⟩
instance slAtN {ρ ρ' : Ev} {x : Sl} {i j : Nat} {y : Sl} [e : Nf (ρ.set j y) ρ'] [h : SlAt ρ' i x] : SlAt (ρ.set j y) i x := ⟨by rw [e.e, h.e]⟩
instance slAtF {ds : List D} {m i : Nat} {ρ' : Ev} {x : Sl} [e : Nf (ds.map Sl.sh ++ List.replicate (m - ds.length) .no) ρ'] [h : SlAt ρ' i x] : SlAt (ds.map Sl.sh ++ List.replicate (m - ds.length) .no) i x := ⟨by rw [e.e, h.e]⟩
instance slAtA {is : List Nat} {ds : List D} {ρ ρ' : Ev} {i : Nat} {x : Sl} [e : Nf (setAll is ds ρ) ρ'] [h : SlAt ρ' i x] : SlAt (setAll is ds ρ) i x := ⟨by rw [e.e, h.e]⟩
section
variable {ρ : Ev} {st : S} {Q : D → S → Prop} {QB : Bool → S → Prop} {QL : List D → S → Prop} {QO : Option Int → S → Prop} {fa fb fc f : Ev → S → R D} {g gk : Ev → S → R (List D)} {t u : Ev → S → R Bool} {o o' : D → D → S → R D} {i : Nat} {d : D}
instance {lv : Nat}  {p : Prop} [w : Wc lv (Q d st) p] : Wk lv (Ok (dC d ρ st) Q) p := ⟨fun q => k_c (w.out q)⟩
instance {lv : Nat}  {p : Prop} [w : Wc lv (Ok (fa ρ st) fun x s => Ok (fb ρ s) fun y s => Ok (o x y s) Q) p] : Wk lv (Ok (dBin o fa fb ρ st) Q) p := ⟨fun q => k_bin (w.out q)⟩
instance {lv : Nat} {o : D → S → R D} {p : Prop} [w : Wc lv (Ok (fa ρ st) fun x s => Ok (o x s) Q) p] : Wk lv (Ok (dUn o fa ρ st) Q) p := ⟨fun q => k_un (w.out q)⟩
instance {lv : Nat}  {p : Prop} [w : Wc lv (QL [] st) p] : Wk lv (Ok (dNil ρ st) QL) p := ⟨fun q => k_nil (w.out q)⟩
instance {lv : Nat}  {p : Prop} [w : Wc lv (Ok (f ρ st) fun x s => Ok (g ρ s) fun xs s => QL (x :: xs) s) p] : Wk lv (Ok (dCons f g ρ st) QL) p := ⟨fun q => k_cons (w.out q)⟩
instance {lv : Nat} {F : List D → S → R D} {p : Prop} [w : Wc lv (Ok (g ρ st) fun ds s => Ok (F ds s) Q) p] : Wk lv (Ok (dCall F g ρ st) Q) p := ⟨fun q => k_call (w.out q)⟩
instance {lv : Nat} {F : List D → S → R D} {n m : Nat} {pm : List Nat} {p : Prop} [w : Wc lv (Ok (g ρ st) fun ds s => Ok (gk ρ s) fun es s => ds.length = n ∧ es.length = m ∧ Ok (F (gath (ds ++ es) pm) s) Q) p] : Wk lv (Ok (dCallK F n m pm g gk ρ st) Q) p := ⟨fun q => k_callK (w.out q)⟩
instance {lv : Nat} {F : D → S → R D} {x : D} {p : Prop} [w : Wc lv (Ok (F x st) Q) p] : Wk lv (Ok (one F [x] st) Q) p := ⟨fun q => k_one (w.out q)⟩
instance {lv : Nat}  {p : Prop} [w : Wc lv (Ok (g ρ st) fun ds s => ds.length ≤ sizeLine ∧ Q (.tup ds) s) p] : Wk lv (Ok (dTup g ρ st) Q) p := ⟨fun q => k_tup (w.out q)⟩
instance {lv : Nat}  {p : Prop} [w : Wc lv (Ok (g ρ st) fun ds s => ds.length ≤ sizeLine ∧ Q (.lst ds) s) p] : Wk lv (Ok (dLst g ρ st) Q) p := ⟨fun q => k_lst (w.out q)⟩
instance {lv : Nat}  {p : Prop} [w : Wc lv (Ok (g ρ st) fun ds s => ds.length ≤ sizeLine ∧ Q (.ref s.length) (s ++ [.lst ds])) p] : Wk lv (Ok (dLstRef g ρ st) Q) p := ⟨fun q => k_lstRef (w.out q)⟩
instance {lv : Nat}  {p : Prop} [w : Wc lv (Ok (f ρ st) fun x s => Ok (tstD x s) QB) p] : Wk lv (Ok (dTst f ρ st) QB) p := ⟨fun q => k_tst (w.out q)⟩
instance {lv : Nat}  {p : Prop} [w : Wc lv (Ok (f ρ st) fun x s => ∃ b, x = .bl b ∧ QB b s) p] : Wk lv (Ok (dTB f ρ st) QB) p := ⟨fun q => k_tb (w.out q)⟩
instance {lv : Nat}  {p : Prop} [w : Wc lv (Ok (t ρ st) fun b s => (b = true → Ok (u ρ s) QB) ∧ (b = false → QB false s)) p] : Wk lv (Ok (tAndD t u ρ st) QB) p := ⟨fun q => k_tand (w.out q)⟩
instance {lv : Nat}  {p : Prop} [w : Wc lv (Ok (t ρ st) fun b s => (b = true → QB true s) ∧ (b = false → Ok (u ρ s) QB)) p] : Wk lv (Ok (tOrD t u ρ st) QB) p := ⟨fun q => k_tor (w.out q)⟩
instance {lv : Nat}  {p : Prop} [w : Wc lv (Ok (t ρ st) fun b s => QB (!b) s) p] : Wk lv (Ok (tNotD t ρ st) QB) p := ⟨fun q => k_tnot (w.out q)⟩
instance {lv : Nat}  {p : Prop} [w : Wc lv (Ok (fa ρ st) fun x s => Ok (tstD x s) fun b s => (b = true → Ok (fb ρ s) Q) ∧ (b = false → Q x s)) p] : Wk lv (Ok (dAnd fa fb ρ st) Q) p := ⟨fun q => k_and (w.out q)⟩
instance {lv : Nat}  {p : Prop} [w : Wc lv (Ok (fa ρ st) fun x s => Ok (tstD x s) fun b s => (b = true → Q x s) ∧ (b = false → Ok (fb ρ s) Q)) p] : Wk lv (Ok (dOr fa fb ρ st) Q) p := ⟨fun q => k_or (w.out q)⟩
instance {lv : Nat}  {p : Prop} [w : Wc lv (Ok (fa ρ st) fun x s => Ok (tstD x s) fun b s => Q (.bl (!b)) s) p] : Wk lv (Ok (dNot fa ρ st) Q) p := ⟨fun q => k_not (w.out q)⟩
instance {lv : Nat}  {p : Prop} [w : Wc lv (Ok (t ρ st) fun b s => (b = true → Ok (fa ρ s) Q) ∧ (b = false → Ok (fb ρ s) Q)) p] : Wk lv (Ok (dIf t fa fb ρ st) Q) p := ⟨fun q => k_if (w.out q)⟩
instance {lv : Nat}  {p : Prop} [w : Wc lv (Ok (fa ρ st) fun x s => Ok (fb ρ s) fun y s => Ok (o x y s) fun z s => ∃ b, z = .bl b ∧ (b = true → Ok (fc ρ s) fun w s => Ok (o' y w s) Q) ∧ (b = false → Q (.bl false) s)) p] : Wk lv (Ok (dChain o o' fa fb fc ρ st) Q) p := ⟨fun q => k_chain (w.out q)⟩
instance {lv : Nat}  {p : Prop} [w : Wc lv (QO none st) p] : Wk lv (Ok (dNoP ρ st) QO) p := ⟨fun q => k_noP (w.out q)⟩
instance {lv : Nat}  {p : Prop} [w : Wc lv (Ok (f ρ st) fun x s => ∃ i, x = .int i ∧ QO (some i) s) p] : Wk lv (Ok (dPart f ρ st) QO) p := ⟨fun q => k_part (w.out q)⟩
instance {lv : Nat} {lo hi : Ev → S → R (Option Int)} {p : Prop} [w : Wc lv (Ok (f ρ st) fun x s => Ok (lo ρ s) fun i s => Ok (hi ρ s) fun j s => Ok (slD x i j s) Q) p] : Wk lv (Ok (dSl f lo hi ρ st) Q) p := ⟨fun q => k_sl (w.out q)⟩
instance {lv : Nat}  {p : Prop} [w : Wc lv (Ok (fa ρ st) fun x s => ∃ a, x = .str a ∧ Ok (fb ρ s) fun y s => Ok (joinD a y s) Q) p] : Wk lv (Ok (dJoin fa fb ρ st) Q) p := ⟨fun q => k_join (w.out q)⟩
instance {lv : Nat}  {p : Prop} [w : Wc lv (Ok (f ρ st) fun x s => Ok (itemsD x s) QL) p] : Wk lv (Ok (dItems f ρ st) QL) p := ⟨fun q => k_items (w.out q)⟩
instance {lv : Nat}  {p : Prop} [w : Wc lv (Ok (g ρ st) fun x s => Ok (range1D x s) QL) p] : Wk lv (Ok (dRange g ρ st) QL) p := ⟨fun q => k_range (w.out q)⟩
instance {lv : Nat}  {p : Prop} [w : Wc lv (Ok (g ρ st) fun x s => Ok (range2D x s) QL) p] : Wk lv (Ok (dRange2 g ρ st) QL) p := ⟨fun q => k_range2 (w.out q)⟩
instance {lv : Nat}  {p : Prop} [w : Wc lv (Ok (g ρ st) fun x s => Ok (zipD x s) QL) p] : Wk lv (Ok (dZip g ρ st) QL) p := ⟨fun q => k_zip (w.out q)⟩
instance {lv : Nat} {tg : Tg} {vs : List Nat} {fi : Ev → S → R (List D)} {tt : Ev → S → R Bool} {te : Ev → S → R D} {p : Prop} [w : Wc lv (Ok (fi ρ st) fun ds s => ds.length ≤ sizeLine ∧ Ok (compD tg tt te (wipeE ρ vs) ds s) fun ys s => Q (.lst ys) s) p] : Wk lv (Ok (dLc tg vs fi tt te ρ st) Q) p := ⟨fun q => k_lc (w.out q)⟩
end
section
variable {ρ : Ev} {st : S} {Q : Ev → S → Prop} {T : D → S → Prop} {fe f : Ev → S → R D} {fs : Ev → S → R (List D)} {t : Ev → S → R Bool} {a b : Ev → S → RS} {i : Nat} {ds : List D}
instance {lv : Nat}  {p : Prop} [w : Wc lv (Q ρ st) p] : Wk lv (Go (sNext ρ st) Q T) p := ⟨fun q => g_next (w.out q)⟩
instance {lv : Nat}  {ρ' : Ev} {p : Prop} [e : Nf ρ ρ'] [w : Wc lv (Ok (fe ρ' st) fun d s => Q (ρ'.set i (.sh d)) s) p] : Wk lv (Go (sSet i fe ρ st) Q T) p := ⟨fun q => by obtain ⟨rfl⟩ := e; exact g_set (w.out q)⟩
instance {lv : Nat}  {ρ' : Ev} {p : Prop} [e : Nf ρ ρ'] [w : Wc lv (Ok (fe ρ' st) T) p] : Wk lv (Go (sRet fe ρ st) Q T) p := ⟨fun q => by obtain ⟨rfl⟩ := e; exact g_ret (w.out q)⟩
instance {lv : Nat}  {ρ' : Ev} {p : Prop} [e : Nf ρ ρ'] [w : Wc lv (Ok (fe ρ' st) fun _ s => Q ρ' s) p] : Wk lv (Go (sDrop fe ρ st) Q T) p := ⟨fun q => by obtain ⟨rfl⟩ := e; exact g_drop (w.out q)⟩
instance {lv : Nat}  {ρ' : Ev} {p : Prop} [e : Nf ρ ρ'] [w : Wc lv (Ok (t ρ' st) fun c s => (c = true → Go (a ρ' s) Q T) ∧ (c = false → Go (b ρ' s) Q T)) p] : Wk lv (Go (sIf t a b ρ st) Q T) p := ⟨fun q => by obtain ⟨rfl⟩ := e; exact g_if (w.out q)⟩
instance {lv : Nat}  {ρ' : Ev} {p : Prop} [e : Nf ρ ρ'] [w : Wc lv (Ok (fs ρ' st) fun ds s => ds.length ≤ sizeLine ∧ Q (ρ'.set i (.own ds)) s) p] : Wk lv (Go (sOwn i fs ρ st) Q T) p := ⟨fun q => by obtain ⟨rfl⟩ := e; exact g_own (w.out q)⟩
instance {lv : Nat} {fo fi : Ev → S → R D} {ρ' : Ev} {p : Prop} [e : Nf ρ ρ'] [w : Wc lv (Ok (fe ρ' st) fun d s => Ok (fo ρ' s) fun o s => Ok (fi ρ' s) fun j s => ∃ k n ds m, o = .ref k ∧ j = .int n ∧ s[k]? = some (.lst ds) ∧ ixN ds.length n = some m ∧ Q ρ' (s.set k (.lst (ds.set m d)))) p] : Wk lv (Go (sPut fo fi fe ρ st) Q T) p := ⟨fun q => by obtain ⟨rfl⟩ := e; exact g_put (w.out q)⟩
instance {lv : Nat} {tg : Tg} {ρ' : Ev} {p : Prop} [e : Nf ρ ρ'] [w : Wc lv (Ok (fe ρ' st) fun d s => ∃ ρ'', bindT tg d ρ' = some ρ'' ∧ Q ρ'' s) p] : Wk lv (Go (sAsg tg fe ρ st) Q T) p := ⟨fun q => by obtain ⟨rfl⟩ := e; exact g_asg (w.out q)⟩
instance {lv : Nat} {is : List Nat} {ρ' : Ev} {p : Prop} [e : Nf ρ ρ'] [w : Wc lv (Ok (fs ρ' st) fun ds s => ds.length = is.length ∧ Q (setAll is ds ρ') s) p] : Wk lv (Go (sPar is fs ρ st) Q T) p := ⟨fun q => by obtain ⟨rfl⟩ := e; exact g_par (w.out q)⟩
instance {lv : Nat} {tg : Tg} {ρ' : Ev} {p : Prop} [e : Nf ρ ρ'] [w : Wc lv (Ok (fs ρ' st) fun ds s => Go (forD tg a ds ρ' s) Q T) p] : Wk lv (Go (sFor tg fs a ρ st) Q T) p := ⟨fun q => by obtain ⟨rfl⟩ := e; exact g_for (w.out q)⟩
end
section
variable {st : S} {Q : D → S → Prop} {QB : Bool → S → Prop} {QL : List D → S → Prop}
instance {lv : Nat} {i j : Int} {p : Prop} [w : Wc lv (Q (.int (i + j)) st) p] : Wk lv (Ok (addD (.int i) (.int j) st) Q) p := ⟨fun q => o_addI (w.out q)⟩
instance {lv : Nat} {i j : Int} {p : Prop} [w : Wc lv (Q (.int (i - j)) st) p] : Wk lv (Ok (subD (.int i) (.int j) st) Q) p := ⟨fun q => o_subI (w.out q)⟩
instance {lv : Nat} {i j : Int} {p : Prop} [w : Wc lv (Q (.bl (decide (i < j))) st) p] : Wk lv (Ok (ltD (.int i) (.int j) st) Q) p := ⟨fun q => o_ltI (w.out q)⟩
instance {lv : Nat} {i j : Int} {p : Prop} [w : Wc lv (Q (.bl (decide (i ≤ j))) st) p] : Wk lv (Ok (leD (.int i) (.int j) st) Q) p := ⟨fun q => o_leI (w.out q)⟩
instance {lv : Nat} {i j : Int} {p : Prop} [w : Wc lv (Q (.bl (decide (j < i))) st) p] : Wk lv (Ok (gtD (.int i) (.int j) st) Q) p := ⟨fun q => o_gtI (w.out q)⟩
instance {lv : Nat} {i j : Int} {p : Prop} [w : Wc lv (Q (.bl (decide (j ≤ i))) st) p] : Wk lv (Ok (geD (.int i) (.int j) st) Q) p := ⟨fun q => o_geI (w.out q)⟩
instance {lv : Nat} {i j : Int} {p : Prop} [w : Wc lv (Q (.bl (decide (i = j))) st) p] : Wk lv (Ok (eqD (.int i) (.int j) st) Q) p := ⟨fun q => o_eqI (w.out q)⟩
instance {lv : Nat} {i j : Int} {p : Prop} [w : Wc lv (Q (.bl (!decide (i = j))) st) p] : Wk lv (Ok (neD (.int i) (.int j) st) Q) p := ⟨fun q => o_neI (w.out q)⟩
instance {lv : Nat} {x y : Str} {p : Prop} [w : Wc lv (Q (.bl (ltS x y)) st) p] : Wk lv (Ok (ltD (.str x) (.str y) st) Q) p := ⟨fun q => o_ltS (w.out q)⟩
instance {lv : Nat} {x y : Str} {p : Prop} [w : Wc lv (Q (.bl (!ltS y x)) st) p] : Wk lv (Ok (leD (.str x) (.str y) st) Q) p := ⟨fun q => o_leS (w.out q)⟩
instance {lv : Nat} {x y : Str} {p : Prop} [w : Wc lv (Q (.bl (decide (x = y))) st) p] : Wk lv (Ok (eqD (.str x) (.str y) st) Q) p := ⟨fun q => o_eqS (w.out q)⟩
instance {lv : Nat} {x y : Str} {p : Prop} [w : Wc lv (Q (.bl (!decide (x = y))) st) p] : Wk lv (Ok (neD (.str x) (.str y) st) Q) p := ⟨fun q => o_neS (w.out q)⟩
instance {lv : Nat} {a b : Bool} {p : Prop} [w : Wc lv (Q (.bl (a == b)) st) p] : Wk lv (Ok (eqD (.bl a) (.bl b) st) Q) p := ⟨fun q => o_eqB (w.out q)⟩
instance {lv : Nat} {a b : Bool} {p : Prop} [w : Wc lv (Q (.bl (a != b)) st) p] : Wk lv (Ok (neD (.bl a) (.bl b) st) Q) p := ⟨fun q => o_neB (w.out q)⟩
instance {lv : Nat} {d : D} {p : Prop} [w : Wc lv (Q (.bl (isNon d)) st) p] : Wk lv (Ok (isND d .non st) Q) p := ⟨fun q => o_isN (w.out q)⟩
instance {lv : Nat} {d : D} {p : Prop} [w : Wc lv (Q (.bl (!isNon d)) st) p] : Wk lv (Ok (isNND d .non st) Q) p := ⟨fun q => o_isNN (w.out q)⟩
instance {lv : Nat} {ds : List D} {p : Prop} [w : Wc lv (Q (.int ds.length) st) p] : Wk lv (Ok (lenD (.lst ds) st) Q) p := ⟨fun q => o_lenL (w.out q)⟩
instance {lv : Nat} {ds : List D} {p : Prop} [w : Wc lv (Q (.int ds.length) st) p] : Wk lv (Ok (lenD (.tup ds) st) Q) p := ⟨fun q => o_lenT (w.out q)⟩
instance {lv : Nat} {i : Int} {p : Prop} [w : Wc lv (Q (.int i) st) p] : Wk lv (Ok (intF (.int i) st) Q) p := ⟨fun q => o_intF (w.out q)⟩
instance {lv : Nat} {i : Int} {p : Prop} [w : Wc lv (Q (.int (if i < 0 then -i else i)) st) p] : Wk lv (Ok (absD (.int i) st) Q) p := ⟨fun q => o_abs (w.out q)⟩
instance {lv : Nat} {i : Int} {p : Prop} [w : Wc lv (Q (.int (-i)) st) p] : Wk lv (Ok (negD (.int i) st) Q) p := ⟨fun q => o_neg (w.out q)⟩
instance {lv : Nat} {ds : List D} {p : Prop} [w : Wc lv (Q (.tup ds) st) p] : Wk lv (Ok (tupleF (.lst ds) st) Q) p := ⟨fun q => o_tupL (w.out q)⟩
instance {lv : Nat} {ds : List D} {p : Prop} [w : Wc lv (Q (.tup ds) st) p] : Wk lv (Ok (tupleF (.tup ds) st) Q) p := ⟨fun q => o_tupT (w.out q)⟩
instance {lv : Nat} {ds : List D} {p : Prop} [w : Wc lv (Q (.lst ds) st) p] : Wk lv (Ok (listF (.lst ds) st) Q) p := ⟨fun q => o_lstL (w.out q)⟩
instance {lv : Nat} {ds : List D} {p : Prop} [w : Wc lv (Q (.lst ds) st) p] : Wk lv (Ok (listF (.tup ds) st) Q) p := ⟨fun q => o_lstT (w.out q)⟩
instance {lv : Nat} {ds : List D} {p : Prop} [w : Wc lv (Q (.lst ds.reverse) st) p] : Wk lv (Ok (revD (.lst ds) st) Q) p := ⟨fun q => o_revL (w.out q)⟩
instance {lv : Nat} {ds : List D} {p : Prop} [w : Wc (lv+1) (Q (.tup ds.reverse) st) p] : Wk (lv+1) (Ok (revD (.tup ds) st) Q) p := ⟨fun q => o_revT (w.out q)⟩
instance {lv : Nat} {ds : List D} {i j : Option Int} {p : Prop} [w : Wc lv (Q (.lst (cutL ds i j)) st) p] : Wk lv (Ok (slD (.lst ds) i j st) Q) p := ⟨fun q => o_slL (w.out q)⟩
instance {lv : Nat} {ds : List D} {i j : Option Int} {p : Prop} [w : Wc lv (Q (.tup (cutL ds i j)) st) p] : Wk lv (Ok (slD (.tup ds) i j st) Q) p := ⟨fun q => o_slT (w.out q)⟩
instance {lv : Nat} {ns : List Int} {i j : Option Int} {p : Prop} [w : Wc lv (Q (.lst (cutL (ns.map .int) i j)) st) p] : Wk lv (Ok (slD (.scr ns) i j st) Q) p := ⟨fun q => o_slScr (w.out q)⟩
instance {lv : Nat} {ds : List D} {p : Prop} [w : Wc lv (QL ds st) p] : Wk lv (Ok (itemsD (.lst ds) st) QL) p := ⟨fun q => o_itemsL (w.out q)⟩
instance {lv : Nat} {ds : List D} {p : Prop} [w : Wc lv (QL ds st) p] : Wk lv (Ok (itemsD (.tup ds) st) QL) p := ⟨fun q => o_itemsT (w.out q)⟩
instance {lv : Nat} {x : Str} {p : Prop} [w : Wc lv (QL (x.cps.toList.map fun c => .str ⟨#[c]⟩) st) p] : Wk lv (Ok (itemsD (.str x) st) QL) p := ⟨fun q => o_itemsS (w.out q)⟩
instance {lv : Nat} {a b : List D} {p : Prop} [w : Wc lv (QL ((a.zip b).map fun p => .pr p.1 p.2) st) p] : Wk lv (Ok (zipD [.lst a, .lst b] st) QL) p := ⟨fun q => o_zipL (w.out q)⟩
instance {lv : Nat} {a b : List D} {p : Prop} [w : Wc lv (QL ((a.zip b).map fun p => .pr p.1 p.2) st) p] : Wk lv (Ok (zipD [.tup a, .tup b] st) QL) p := ⟨fun q => o_zipT (w.out q)⟩
instance {lv : Nat} {b : Bool} {p : Prop} [w : Wc lv (QB b st) p] : Wk lv (Ok (tstD (.bl b) st) QB) p := ⟨fun q => o_tstB (w.out q)⟩
instance {lv : Nat} {ds : List D} {p : Prop} [w : Wc lv (QB (!ds.isEmpty) st) p] : Wk lv (Ok (tstD (.lst ds) st) QB) p := ⟨fun q => o_tstL (w.out q)⟩
instance {lv : Nat} {ds : List D} {p : Prop} [w : Wc lv (QB (!ds.isEmpty) st) p] : Wk lv (Ok (tstD (.tup ds) st) QB) p := ⟨fun q => o_tstT (w.out q)⟩
instance {lv : Nat} {i : Int} {p : Prop} [w : Wc lv (QB (i != 0) st) p] : Wk lv (Ok (tstD (.int i) st) QB) p := ⟨fun q => o_tstI (w.out q)⟩
instance {lv : Nat}  {p : Prop} [w : Wc lv (QB false st) p] : Wk lv (Ok (tstD .non st) QB) p := ⟨fun q => o_tstN (w.out q)⟩
instance {lv : Nat} {x z : Str} {p : Prop} [w : Wc lv (Q (.bl (inS x z)) st) p] : Wk lv (Ok (inD (.str x) (.str z) st) Q) p := ⟨fun q => o_inS (w.out q)⟩
end
section
variable {st : S} {Q : D → S → Prop}
instance {lv : Nat} {i j : Int} {p : Prop} [w : Wc (lv+1) (Q (.int (if j > i then j else i)) st) p] : Wk (lv+1) (Ok (maxD [.int i, .int j] st) Q) p := ⟨fun q => o_max2 (w.out q)⟩
instance {lv : Nat} {i j : Int} {p : Prop} [w : Wc (lv+1) (Q (.int (if j < i then j else i)) st) p] : Wk (lv+1) (Ok (minD [.int i, .int j] st) Q) p := ⟨fun q => o_min2 (w.out q)⟩
end
section
variable {ρ : Ev} {st : S} {Q : Ev → S → Prop} {T : D → S → Prop} {X : Exn → S → Prop} {fe f : Ev → S → R D} {fs : Ev → S → R (List D)} {t : Ev → S → R Bool} {a b : Ev → S → RS} {i : Nat} {ds : List D} {P : D → S → Prop}
instance {lv : Nat}  {p : Prop} [w : Wc (lv+1) (Q ρ st) p] : Wk (lv+1) (GoE (sNext ρ st) Q T X) p := ⟨fun q => e_next (w.out q)⟩
instance {lv : Nat}  {ρ' : Ev} {p : Prop} [e : Nf ρ ρ'] [w : Wc (lv+1) (Ok (t ρ' st) fun c s => (c = true → GoE (a ρ' s) Q T X) ∧ (c = false → GoE (b ρ' s) Q T X)) p] : Wk (lv+1) (GoE (sIf t a b ρ st) Q T X) p := ⟨fun q => by obtain ⟨rfl⟩ := e; exact e_if (w.out q)⟩
instance {lv : Nat}  {ρ' : Ev} {p : Prop} [e : Nf ρ ρ'] [w : Wc (lv+1) (Ok (fs ρ' st) fun ds s => ds.length ≤ sizeLine ∧ Q (ρ'.set i (.own ds)) s) p] : Wk (lv+1) (GoE (sOwn i fs ρ st) Q T X) p := ⟨fun q => by obtain ⟨rfl⟩ := e; exact e_own (w.out q)⟩
instance {lv : Nat} {tg : Tg} {ρ' : Ev} {p : Prop} [e : Nf ρ ρ'] [w : Wc (lv+1) (Ok (fe ρ' st) fun d s => ∃ ρ'', bindT tg d ρ' = some ρ'' ∧ Q ρ'' s) p] : Wk (lv+1) (GoE (sAsg tg fe ρ st) Q T X) p := ⟨fun q => by obtain ⟨rfl⟩ := e; exact e_asg (w.out q)⟩
instance {lv : Nat} {is : List Nat} {ρ' : Ev} {p : Prop} [e : Nf ρ ρ'] [w : Wc (lv+1) (Ok (fs ρ' st) fun ds s => ds.length = is.length ∧ Q (setAll is ds ρ') s) p] : Wk (lv+1) (GoE (sPar is fs ρ st) Q T X) p := ⟨fun q => by obtain ⟨rfl⟩ := e; exact e_par (w.out q)⟩
instance {lv : Nat} {tg : Tg} {ρ' : Ev} {p : Prop} [e : Nf ρ ρ'] [w : Wc (lv+1) (Ok (fs ρ' st) fun ds s => GoE (forD tg a ds ρ' s) Q T X) p] : Wk (lv+1) (GoE (sFor tg fs a ρ st) Q T X) p := ⟨fun q => by obtain ⟨rfl⟩ := e; exact e_for (w.out q)⟩
instance {lv : Nat} {c n : Nat} {fl : List (Str × Src)} {ρ' : Ev} {p : Prop} [e : Nf ρ ρ'] [w : Wc (lv+1) (Ok (fs ρ' st) fun ds s => ds.length = n ∧ ∃ vs, putF (srcD ds) fl [] = some vs ∧ X ⟨c, vs⟩ s) p] : Wk (lv+1) (GoE (sRaise c n fl fs ρ st) Q T X) p := ⟨fun q => by obtain ⟨rfl⟩ := e; exact e_raise (w.out q)⟩
end
section
variable {ρ : Ev} {st : S} {Q : D → S → Prop} {X : Exn → S → Prop} {g gk : Ev → S → R (List D)}
instance {lv : Nat} {F : List D → S → R D} {p : Prop} [w : Wc (lv+1) (Ok (g ρ st) fun ds s => OkE (F ds s) Q X) p] : Wk (lv+1) (OkE (dCall F g ρ st) Q X) p := ⟨fun q => x_call (w.out q)⟩
instance {lv : Nat} {F : List D → S → R D} {n m : Nat} {pm : List Nat} {p : Prop} [w : Wc (lv+1) (Ok (g ρ st) fun ds s => Ok (gk ρ s) fun es s => ds.length = n ∧ es.length = m ∧ OkE (F (gath (ds ++ es) pm) s) Q X) p] : Wk (lv+1) (OkE (dCallK F n m pm g gk ρ st) Q X) p := ⟨fun q => x_callK (w.out q)⟩
end

/-! rules by hand -/
section
variable {n : Nat} {p : Prop} {ρ : Ev} {st : S} {Q : D → S → Prop}
instance {d : D} {i : Nat} [e : SlAt ρ i (.sh d)] [w : Wc n (Q d st) p] : Wk n (Ok (dVar i ρ st) Q) p := ⟨fun q => k_var e.e (w.out q)⟩
instance {ds : List D} {i : Nat} [e : SlAt ρ i (.own ds)] [w : Wc n (Q (.lst ds) st) p] : Wk n (Ok (dOwn i ρ st) Q) p := ⟨fun q => k_own e.e (w.out q)⟩
end
section
variable {n : Nat} {p : Prop} {ρ ρ' : Ev} {st : S} {Q : Ev → S → Prop} {T : D → S → Prop} {X : Exn → S → Prop} {a b : Ev → S → RS}
instance [e : Nf ρ ρ'] [w : Wc n (Go (a ρ' st) (fun ρ s => Go (b ρ s) Q T) T) p] : Wk n (Go (sSeq a b ρ st) Q T) p := ⟨fun q => by obtain ⟨rfl⟩ := e; exact g_seq (w.out q)⟩
instance [e : Nf ρ ρ'] [w : Wc (n+1) (GoE (a ρ' st) (fun ρ s => GoE (b ρ s) Q T X) T X) p] : Wk (n+1) (GoE (sSeq a b ρ st) Q T X) p := ⟨fun q => by obtain ⟨rfl⟩ := e; exact e_seq (w.out q)⟩
end
/-! ∃ x, c = c x ∧ .. -/
section
variable {n : Nat} {p : Prop}
instance {b : Bool} {P : Bool → Prop} [w : Wc n (P b) p] : Wk n (∃ c, D.bl b = .bl c ∧ P c) p := ⟨fun q => ⟨_, rfl, w.out q⟩⟩
instance {b : Int} {P : Int → Prop} [w : Wc n (P b) p] : Wk n (∃ c, D.int b = .int c ∧ P c) p := ⟨fun q => ⟨_, rfl, w.out q⟩⟩
instance {b : Str} {P : Str → Prop} [w : Wc n (P b) p] : Wk n (∃ c, D.str b = .str c ∧ P c) p := ⟨fun q => ⟨_, rfl, w.out q⟩⟩
instance {b : List D} {P : List D → Prop} [w : Wc n (P b) p] : Wk n (∃ c, D.tup b = .tup c ∧ P c) p := ⟨fun q => ⟨_, rfl, w.out q⟩⟩
instance {b : List D} {P : List D → Prop} [w : Wc n (P b) p] : Wk n (∃ c, D.lst b = .lst c ∧ P c) p := ⟨fun q => ⟨_, rfl, w.out q⟩⟩
end
section
variable {n : Nat} {p : Prop} {ρ r : Ev} {P : Ev → Prop}
class SameLen {α β : Type} (a : List α) (b : List β) : Prop where
  e : a.length = b.length
instance {α β : Type} : SameLen ([] : List α) ([] : List β) := ⟨rfl⟩
instance {α β : Type} {a : List α} {b : List β} {x : α} {y : β} [h : SameLen a b] : SameLen (x :: a) (y :: b) := ⟨by rw [List.length_cons, List.length_cons, h.e]⟩
instance {i : Nat} {d : D} [e : Nf (ρ.set i (.sh d)) r] [w : Wc n (P r) p] : Wk n (∃ ρ', bindT (.nm i) d ρ = some ρ' ∧ P ρ') p := ⟨fun q => ⟨_, rfl, by rw [e.e]; exact w.out q⟩⟩
instance {is : List Nat} {ds : List D} [l : SameLen ds is] [e : Nf (setAll is ds ρ) r] [w : Wc n (P r) p] : Wk n (∃ ρ', bindT (.tp is) (.tup ds) ρ = some ρ' ∧ P ρ') p := ⟨fun q => ⟨_, by show (if _ then _ else _) = _; rw [if_pos l.e], by rw [e.e]; exact w.out q⟩⟩
instance {is : List Nat} {ds : List D} [l : SameLen ds is] [e : Nf (setAll is ds ρ) r] [w : Wc n (P r) p] : Wk n (∃ ρ', bindT (.tp is) (.lst ds) ρ = some ρ' ∧ P ρ') p := ⟨fun q => ⟨_, by show (if _ then _ else _) = _; rw [if_pos l.e], by rw [e.e]; exact w.out q⟩⟩
instance {i j : Nat} {a b : D} [e : Nf (setAll [i, j] [a, b] ρ) r] [w : Wc n (P r) p] : Wk n (∃ ρ', bindT (.tp [i, j]) (.pr a b) ρ = some ρ' ∧ P ρ') p := ⟨fun q => ⟨_, rfl, by rw [e.e]; exact w.out q⟩⟩
end
/-! lengths, truth, items: from level 1 or 2 on -/
section
variable {n : Nat} {p P A B : Prop}
class LenB {α : Type} (l : List α) (k : Nat) : Prop where
  e : l.length ≤ k
instance {α : Type} {k : Nat} : LenB ([] : List α) k := ⟨Nat.zero_le _⟩
instance {α : Type} {k : Nat} {l : List α} {x : α} [h : LenB l k] : LenB (x :: l) (k + 1) := ⟨Nat.succ_le_succ h.e⟩
theorem lenB_sm {α : Type} {l : List α} (h : LenB l 60) : l.length ≤ sizeLine := Nat.le_trans h.e (by decide)
instance {α : Type} {l : List α} [h : LenB l 60] [w : Wc (n+1) P p] : Wk (n+1) (l.length ≤ sizeLine ∧ P) p := ⟨fun q => ⟨lenB_sm h, w.out q⟩⟩
class LenEq {α : Type} (l : List α) (k : Nat) : Prop where
  e : l.length = k
instance {α : Type} : LenEq ([] : List α) 0 := ⟨rfl⟩
instance {α : Type} {k : Nat} {l : List α} {x : α} [h : LenEq l k] : LenEq (x :: l) (k + 1) := ⟨by rw [List.length_cons, h.e]⟩
instance {α β : Type} {l : List α} {l' : List β} {i j : Nat} [h : LenEq l i] [h' : LenEq l' j] [w : Wc (n+1) P p] : Wk (n+1) (l.length = i ∧ l'.length = j ∧ P) p := ⟨fun q => ⟨h.e, h'.e, w.out q⟩⟩
instance {α β : Type} {l : List α} {l' : List β} [h : SameLen l l'] [w : Wc (n+1) P p] : Wk (n+1) (l.length = l'.length ∧ P) p := ⟨fun q => ⟨h.e, w.out q⟩⟩
instance [w : Wc (n+1) A p] : Wk (n+1) ((true = true → A) ∧ (true = false → B)) p := ⟨fun q => ⟨fun _ => w.out q, fun z => by cases z⟩⟩
instance [w : Wc (n+1) B p] : Wk (n+1) ((false = true → A) ∧ (false = false → B)) p := ⟨fun q => ⟨fun z => (by cases z), fun _ => w.out q⟩⟩
instance [w : Wc (n+1) B p] : Wk (n+1) (((!true) = true → A) ∧ ((!true) = false → B)) p := ⟨fun q => ⟨fun z => (by cases z), fun _ => w.out q⟩⟩
instance [w : Wc (n+1) A p] : Wk (n+1) (((!false) = true → A) ∧ ((!false) = false → B)) p := ⟨fun q => ⟨fun _ => w.out q, fun z => by cases z⟩⟩
class AtZ (l : List D) (i : Int) (x : outParam D) : Prop where
  e : L2.atI l i = some x
instance {a : D} {l : List D} : AtZ (a :: l) 0 a := ⟨atI_nat (n := 0) rfl⟩
instance {a b : D} {l : List D} : AtZ (a :: b :: l) 1 b := ⟨atI_nat (n := 1) rfl⟩
instance {a b c : D} {l : List D} : AtZ (a :: b :: c :: l) 2 c := ⟨atI_nat (n := 2) rfl⟩
instance {a b c d : D} {l : List D} : AtZ (a :: b :: c :: d :: l) 3 d := ⟨atI_nat (n := 3) rfl⟩
instance {a b c d e : D} {l : List D} : AtZ (a :: b :: c :: d :: e :: l) 4 e := ⟨atI_nat (n := 4) rfl⟩
instance {l : List D} {i : Int} {x : D} {st : S} {Q : D → S → Prop} [h : AtZ l i x] [w : Wc (n+2) (Q x st) p] : Wk (n+2) (Ok (ixD (.tup l) (.int i) st) Q) p := ⟨fun q => ixT_ok h.e (w.out q)⟩
instance {l : List D} {i : Int} {x : D} {st : S} {Q : D → S → Prop} [h : AtZ l i x] [w : Wc (n+2) (Q x st) p] : Wk (n+2) (Ok (ixD (.lst l) (.int i) st) Q) p := ⟨fun q => ixL_ok h.e (w.out q)⟩
end
end
section
set_option maxHeartbeats 1000000
/-! Backward rules: objects, dicts, scans. -/

open PySem L2 DL
section
variable {ρ : Ev} {st : S} {Q : D → S → Prop} {X : Exn → S → Prop} {fo fe fx fa : Ev → S → R D} {g gk : Ev → S → R (List D)} {F : List D → S → R D} {m : Str} {tbl : MT}
end
section
variable {ρ : Ev} {st : S} {Q : Ev → S → Prop} {T : D → S → Prop} {X : Exn → S → Prop} {fe : Ev → S → R D} {f : Ev → S → RS}
end
end
section
set_option maxHeartbeats 1000000
/-! The laws' drawing helpers. -/

open PySem L2 DL Co
end
open PySem L2 DL Co
set_option synthInstance.maxSize 100000
set_option synthInstance.maxHeartbeats 2000000
local macro_rules | `(tactic| walk_at "s") => `(tactic| repeat (first
  | refine Wk.out (n := 0) ?_
  | ((with_reducible refine' k_var ?ev ?_); (case ev => rfl)) | ((with_reducible refine' k_own ?ev ?_); (case ev => rfl))
  | ((with_reducible refine o_isi ?ty ?nm ?_); (case ty => first | rfl | assumption); (case nm => rfl)) | ((with_reducible refine o_isiT ?ty ?nm ?_); (case ty => first | rfl | assumption); (case nm => decide))
  | ((with_reducible refine' o_ixR ?ev ?hv ?_); (case ev => first | exact st_at _ _ _ | rfl); (case hv => rfl))
  | with_reducible refine ⟨_, rfl, ?_⟩))
section
set_option maxHeartbeats 1000000
open PySem L2 DL Co
/-- the law's state stands first in the store -/
def St (tl : S × S) (st : S) : Prop := ∃ (cells : List Int) (idx rest mixed cnt : Int), st = tl.1 ++ .lst [.lst (cells.map .int), .int idx, .int rest, .int mixed, .int cnt] :: tl.2 ∧ 0 ≤ idx ∧ 0 ≤ rest
theorem draw_ok {tl : S × S} {st : S} {m : Int} (h : St tl st) (h1 : 0 < m) (h2 : m < 1073741824) : Ok (sem__law_draw [.ref tl.1.length, .int m] st) fun d s => St tl s ∧ ∃ n : Int, d = .int n ∧ 0 ≤ n ∧ n < m := by
  obtain ⟨cells, idx, rest, mixed, cnt, rfl, hi, hr⟩ := h
  refine ok_sem rfl ?_
  unfold den__law_draw
  refine g_seq ?_
  refine Go.mono (Q := fun ρ s => St tl s ∧ ∃ x, ρ = [.sh (.ref tl.1.length), .sh (.int m), .no, x, .no]) (T := fun _ _ => False) ?_ ?_ (fun _ _ z => z.elim)
  · walk_at "s"
    refine ⟨fun hb => ?_, fun hb => ?_⟩
    · walk_at "s"
      refine ⟨fun hc => ?_, fun hc => ?_⟩
      · have hc := of_decide_eq_true hc
        rw [List.length_map] at hc
        have hx : idx.toNat < cells.length := by omega
        have hg : (cells.map D.int)[idx.toNat]? = some (.int cells[idx.toNat]) := by rw [List.getElem?_map, List.getElem?_eq_getElem hx]; rfl
        walk_at "s"
        refine ixL_ok (atI_int hi hg) ?_
        walk_at "s"
        refine ⟨_, 1, _, _, rfl, rfl, st_at _ _ _, rfl, ?_⟩
        rw [st_set]
        walk_at "s"
        refine pow_ok (by decide) (by decide) (by decide) ?_
        walk_at "s"
        refine ⟨fun hd => ?_, fun hd => ?_⟩
        · have hd := of_decide_eq_true hd
          walk_at "s"
          refine ⟨_, 2, _, _, rfl, rfl, st_at _ _ _, rfl, ?_⟩
          rw [st_set]
          refine ⟨⟨cells, idx + 1, _, mixed, cnt, rfl, by omega, ?_⟩, _, rfl⟩
          split <;> omega
        · exact ⟨⟨cells, idx + 1, rest, mixed, cnt, rfl, by omega, hr⟩, _, rfl⟩
      · exact ⟨⟨cells, idx, rest, mixed, cnt, rfl, hi, hr⟩, _, rfl⟩
    · refine ⟨fun z => (by cases z), fun _ => ?_⟩
      exact ⟨⟨cells, idx, rest, mixed, cnt, rfl, hi, hr⟩, _, rfl⟩
  · rintro ρ s ⟨⟨cells, idx, rest, mixed, cnt, rfl, hi, hr⟩, x, rfl⟩
    refine g_seq ?_
    walk_at "s"
    refine ⟨fun hb => ?_, fun hb => ?_⟩
    · have hb := of_decide_eq_true hb
      walk_at "s"
      refine mod_ok h1 ?_
      walk_at "s"
      refine fdiv_ok h1 h2 ?_
      walk_at "s"
      refine ⟨_, 2, _, _, rfl, rfl, st_at _ _ _, rfl, ?_⟩
      rw [st_set]
      walk_at "s"
      exact ⟨⟨cells, idx, rest / m, mixed, cnt, rfl, hi, Int.ediv_nonneg hr (by omega)⟩, _, rfl, Int.emod_nonneg _ (by omega), Int.emod_lt_of_pos _ h1⟩
    · walk_at "s"
      refine ⟨_, 4, _, _, rfl, rfl, st_at _ _ _, rfl, ?_⟩
      rw [st_set]
      walk_at "s"
      refine mul_ok (mulC_r (by decide) (by decide)) ?_
      walk_at "s"
      refine mod_ok (by decide) ?_
      generalize hbase : (mixed + (cnt + 1) * 7919) % 2147483563 = base
      have hb1 : 0 ≤ base := by rw [← hbase]; exact Int.emod_nonneg _ (by decide)
      have hb2 : base < 2147483563 := by rw [← hbase]; exact Int.emod_lt_of_pos _ (by decide)
      walk_at "s"
      refine pow_ok (by decide) (by decide) (by omega) ?_
      walk_at "s"
      refine mul_ok (mulC_l (by decide) (by decide)) ?_
      walk_at "s"
      refine mod_ok (by decide) ?_
      generalize (base ^ (5 : Int).toNat + 30323 * base + 4099) % 2147483563 = mix
      walk_at "s"
      refine ⟨_, 3, _, _, rfl, rfl, st_at _ _ _, rfl, ?_⟩
      rw [st_set]
      walk_at "s"
      refine fdiv_ok (by decide) (by decide) ?_
      walk_at "s"
      refine mod_ok (by decide) ?_
      walk_at "s"
      refine mul_ok (mulC_r (by decide) (by decide)) ?_
      walk_at "s"
      refine mod_ok h1 ?_
      exact ⟨⟨cells, idx, rest, _, _, rfl, hi, hr⟩, _, rfl, Int.emod_nonneg _ (by omega), Int.emod_lt_of_pos _ h1⟩
/-! ### beginning -/
theorem cutL_map {α β : Type} (f : α → β) (xs : List α) (lo hi : Option Int) : cutL (xs.map f) lo hi = (cutL xs lo hi).map f := by
  unfold cutL
  rw [List.length_map, ← List.map_drop, ← List.map_take]
theorem cutL_len {α : Type} (xs : List α) (lo hi : Option Int) : (cutL xs lo hi).length ≤ xs.length := by
  unfold cutL
  rw [List.length_take, List.length_drop]
  omega
theorem small {n : Nat} (h : n ≤ 1000000) : n ≤ sizeLine := Nat.le_trans h (by decide)
theorem small' {n : Nat} (h : n ≤ 1000000) : n < sizeLine := Nat.lt_of_le_of_lt h (by decide)
/-! ### picking -/
theorem get_mem {ds : List D} {n : Int} (h0 : 0 ≤ n) (h : n < ds.length) : ∃ d, L2.atI ds n = some d ∧ d ∈ ds := by
  have hx : n.toNat < ds.length := by omega
  exact ⟨ds[n.toNat], atI_int h0 (List.getElem?_eq_getElem hx), List.getElem_mem hx⟩
theorem pick_ok {tl : S × S} {st : S} {ds : List D} (h : St tl st) (h1 : 0 < ds.length) (h2 : ds.length < 1073741824) : Ok (sem__law_pick [.ref tl.1.length, .lst ds] st) fun d s => St tl s ∧ d ∈ ds := by
  refine ok_sem rfl ?_
  unfold den__law_pick
  walk_at "s"
  refine (draw_ok h (by omega) (by omega)).mono ?_
  rintro d s ⟨h', n, rfl, hn, hm⟩
  obtain ⟨d, e, hd⟩ := get_mem hn hm
  exact ixL_ok e ⟨h', hd⟩
theorem insL_perm (ds : List D) (k : Nat) (d : D) : (insL ds k d).Perm (d :: ds) := by
  unfold insL
  rw [List.append_assoc]
  refine List.perm_append_comm_assoc _ _ _ |>.trans ?_
  rw [List.singleton_append, List.take_append_drop]
theorem shuffle_ok {tl : S × S} {st : S} {ds : List D} (h : St tl st) (h2 : ds.length < 1000000) : Ok (sem__law_shuffle [.ref tl.1.length, .lst ds] st) fun d s => St tl s ∧ ∃ es, d = .lst es ∧ es.Perm ds := by
  refine ok_sem rfl ?_
  unfold den__law_shuffle
  walk_at "s"
  refine ⟨by decide, ?_⟩
  walk_at "s"
  refine go_for (fun l ρ st => St tl st ∧ ∃ acc y, ρ = [.sh (.ref tl.1.length), .sh (.lst ds), .own acc, y] ∧ (acc ++ l).Perm ds) ⟨h, [], .no, rfl, List.Perm.refl _⟩ ?_ ?_
  · rintro d l ρ st ⟨hs, acc, y, rfl, hp⟩
    have hlen : acc.length + (l.length + 1) = ds.length := by
      have := hp.length_eq
      rw [List.length_append, List.length_cons] at this
      exact this
    refine ⟨_, rfl, g_ins rfl ?_⟩
    walk_at "s"
    refine (draw_ok hs (by omega) (by omega)).mono ?_
    rintro e s ⟨h', n, rfl, hn, hm⟩
    walk_at "s"
    refine ⟨n, d, rfl, small' (by omega), hn, by omega, h', insL acc n.toNat d, _, rfl, ?_⟩
    refine List.Perm.trans ?_ hp
    refine ((insL_perm acc n.toNat d).append_right l).trans ?_
    exact List.perm_middle.symm
  · rintro ρ st ⟨hs, acc, y, rfl, hp⟩
    rw [List.append_nil] at hp
    exact g_retOwn rfl ⟨hs, acc, rfl, hp⟩
end
section
set_option maxHeartbeats 1000000
/-! Words and names; plain data. -/

open PySem L2 DL Co

/-! ### texts as lists of codes -/
def T (l : List Nat) : Str := ⟨l.toArray⟩
@[simp] theorem T_list (l : List Nat) : (T l).cps.toList = l := rfl
@[simp] theorem T_len (l : List Nat) : (T l).length = l.length := by simp [T, Str.length]
theorem T_inj {a b : List Nat} (h : T a = T b) : a = b := by
  have := congrArg (fun s : Str => s.cps.toList) h
  simpa using this
theorem T_of (x : Str) : x = T x.cps.toList := by cases x; rfl
theorem T_app (a b : List Nat) : T a ++ T b = T (a ++ b) := by
  show Str.append _ _ = _
  simp [Str.append, T]
theorem len_list (x : Str) : x.length = x.cps.toList.length := by simp [Str.length]
theorem join_T : ∀ ls : List (List Nat), Txt.join (Str.ofString "") (ls.map T) = T ls.flatten := by
  intro ls
  rw [TL.join_eq]
  have e0 : Str.ofString "" = T [] := by decide
  rw [e0]
  induction ls with
  | nil => rfl
  | cons a as ih =>
    cases as with
    | nil => simp [Str.join]
    | cons b bs =>
      have : Str.join (T []) ((a :: b :: bs).map T) = T a ++ T [] ++ Str.join (T []) ((b :: bs).map T) := rfl
      rw [this, ih, T_app, T_app]
      simp
/-! ### words -/
def Low (l : List Nat) : Prop := ∀ c ∈ l, 97 ≤ c ∧ c ≤ 122
/-- a name -/
def Nm (x : Str) : Prop := Low x.cps.toList ∧ 1 ≤ x.length ∧ x.length ≤ 6
def lts : List Nat := [97, 98, 99, 100, 101, 102, 103, 104, 105, 106, 107, 108, 109, 110, 111, 112, 113, 114, 115, 116, 117, 118, 119, 120, 121, 122]
theorem lts_eq : Str.ofString "abcdefghijklmnopqrstuvwxyz" = T lts := by decide
theorem lts_at {n : Int} (h0 : 0 ≤ n) (h : n < 26) : L2.atI lts n = some (97 + n.toNat) := by
  refine atI_int h0 ?_
  have h26 : ∀ k, k < 26 → lts[k]? = some (97 + k) := by decide
  exact h26 _ (by omega)
theorem letters_ok {st : S} : sem__law_letters [] st = .ok (.str (T lts)) st := by
  rw [← lts_eq]; rfl
theorem k_letters {st : S} {Q : D → S → Prop} (q : Q (.str (T lts)) st) : Ok (sem__law_letters [] st) Q := ⟨_, _, letters_ok, q⟩
/-- one letter -/
theorem letter_ok {st : S} {Q : D → S → Prop} {n : Int} (h0 : 0 ≤ n) (h : n < 26) (q : Q (.str (T [97 + n.toNat])) st) : Ok (ixD (.str (T lts)) (.int n) st) Q := ixS_ok (by decide) (by exact lts_at h0 h) q
theorem paired_low {a : List D} {b : List D} (h : Paired (fun _ y => ∃ c, 97 ≤ c ∧ c ≤ 122 ∧ y = D.str (T [c])) a b) : ∃ l : List Nat, Low l ∧ l.length = a.length ∧ b = l.map fun c => D.str (T [c]) := by
  induction h with
  | nil => exact ⟨[], fun _ h => absurd h List.not_mem_nil, rfl, rfl⟩
  | cons h r ih =>
    obtain ⟨c, h1, h2, rfl⟩ := h
    obtain ⟨l, h3, h4, rfl⟩ := ih
    refine ⟨c :: l, ?_, by rw [List.length_cons, List.length_cons, h4], rfl⟩
    intro x hx
    rcases List.mem_cons.mp hx with rfl | hx
    · exact ⟨h1, h2⟩
    · exact h3 x hx
theorem word_ok {tl : S × S} {st : S} {n : Int} (h : St tl st) (h1 : 0 < n) (h2 : n ≤ 1000) : Ok (sem__law_word [.ref tl.1.length, .int n] st) fun d s => St tl s ∧ ∃ l, d = .str (T l) ∧ Low l ∧ 1 ≤ l.length ∧ (l.length : Int) ≤ n := by
  refine ok_sem rfl ?_
  unfold den__law_word
  walk_at "s"
  refine (draw_ok h h1 (by omega)).mono ?_
  rintro d s ⟨h', m, rfl, hm, hn⟩
  walk_at "s"
  refine range1_ok (by omega) (by omega) ?_
  refine ⟨small (by rw [List.length_map, List.length_range]; omega), ?_⟩
  refine (comp_ok (St tl) (fun _ y => ∃ c, 97 ≤ c ∧ c ≤ 122 ∧ y = D.str (T [c])) h' ?_).mono ?_
  · intro d _ st hs
    refine ⟨_, rfl, ?_⟩
    walk_at "s"
    refine k_letters ?_
    walk_at "s"
    refine (draw_ok hs (by decide) (by decide)).mono ?_
    rintro d s ⟨hs, k, rfl, hk, hk2⟩
    exact letter_ok hk hk2 ⟨hs, _, by omega, by omega, rfl⟩
  · rintro ys s ⟨hs, hp⟩
    obtain ⟨l, hl, hlen, rfl⟩ := paired_low hp
    rw [List.length_map, List.length_range] at hlen
    have e : (l.map fun c => D.str (T [c])) = (l.map fun c => T [c]).map D.str := by rw [List.map_map]; rfl
    rw [e]
    refine o_join ?_ ?_
    · rw [List.map_map]
      have e2 : (l.map ((fun x : Str => x.length) ∘ fun c => T [c])) = l.map fun _ => 1 := by
        refine List.map_congr_left fun c _ => ?_
        simp
      rw [e2]
      have e3 : (Str.ofString "").length = 0 := by decide
      rw [e3, List.map_const', List.sum_replicate_nat]
      simp only [Nat.mul_one, Nat.mul_zero, Nat.add_zero]
      omega
    · refine ⟨hs, l, ?_, hl, by omega, by omega⟩
      have e4 : (l.map fun c => T [c]) = (l.map fun c => [c]).map T := by rw [List.map_map]; rfl
      rw [e4, join_T]
      have e5 : ∀ l : List Nat, (l.map fun c => [c]).flatten = l := by
        intro l
        induction l with
        | nil => rfl
        | cons a as ih => rw [List.map_cons, List.flatten_cons, ih]; rfl
      rw [e5]
end
section
set_option maxHeartbeats 1000000
/-! Names. -/

open PySem L2 DL Co

def sgn (f s : Int) (k : Nat) : List Nat := (97 + ((f + s * (k : Int) % 26) % 26).toNat) :: (if k < 26 then [] else [97 + k / 26])
def strides : List Int := [1, 3, 5, 7, 9, 11, 25]
theorem sgn_inj {f s : Int} (hf : 0 ≤ f) (hf2 : f < 26) (hs : s ∈ strides) {j k : Nat} (h : sgn f s j = sgn f s k) : j = k := by
  unfold sgn at h
  rw [List.cons.injEq] at h
  obtain ⟨h1, h2⟩ := h
  have h3 : j % 26 = k % 26 := by
    simp only [strides, List.mem_cons, List.not_mem_nil, or_false] at hs
    rcases hs with rfl | rfl | rfl | rfl | rfl | rfl | rfl <;> omega
  split at h2 <;> split at h2
  · omega
  · cases h2
  · cases h2
  · rw [List.cons.injEq] at h2
    omega
theorem sgn_low {f s : Int} {k : Nat} (hk : k < 64) : Low (sgn f s k) ∧ 1 ≤ (sgn f s k).length ∧ (sgn f s k).length ≤ 2 := by
  unfold sgn
  refine ⟨?_, ?_⟩
  · intro c hc
    rcases List.mem_cons.mp hc with rfl | hc
    · omega
    · split at hc
      · cases hc
      · rw [List.mem_singleton] at hc
        omega
  · split <;> simp
def sgns (f s : Int) (n : Nat) : List (List Nat) := (List.range n).map (sgn f s)
theorem sgns_nodup {f s : Int} (hf : 0 ≤ f) (hf2 : f < 26) (hs : s ∈ strides) (n : Nat) : (sgns f s n).Nodup := by
  unfold sgns
  exact List.Pairwise.map _ (fun a b hab e => hab (sgn_inj hf hf2 hs e)) List.nodup_range
/-- more than they have room for -/
theorem nodup_le {α : Type} [DecidableEq α] : ∀ {l1 l2 : List α}, l1.Nodup → (∀ x ∈ l1, x ∈ l2) → l1.length ≤ l2.length
  | [], _, _, _ => Nat.zero_le _
  | a :: l1, l2, hn, h => by
    have ha := h a List.mem_cons_self
    have hn' := List.nodup_cons.mp hn
    have := nodup_le (l1 := l1) (l2 := l2.erase a) hn'.2 fun x hx => (List.mem_erase_of_ne (fun e : x = a => hn'.1 (e ▸ hx))).mpr (h x (List.mem_cons_of_mem _ hx))
    rw [List.length_erase_of_mem ha] at this
    have : 0 < l2.length := List.length_pos_of_mem ha
    rw [List.length_cons]
    omega
theorem cutS_hi (l : List Nat) (n : Nat) : cutS (T l) none (some (n : Int)) = T (l.take n) := by
  unfold cutS
  rw [HT.sIx_none, HT.sIx_nat, T_list, T_len]
  simp only [List.drop_zero, Nat.sub_zero]
  congr 2
  by_cases h : n ≤ l.length
  · rw [Nat.min_eq_left h]
  · rw [Nat.min_eq_right (by omega), List.take_of_length_le (Nat.le_refl _), List.take_of_length_le (by omega)]
theorem cutS_lo (l : List Nat) (n : Nat) : cutS (T l) (some (n : Int)) none = T (l.drop n) := by
  unfold cutS
  rw [HT.sIx_none, HT.sIx_nat, T_list, T_len]
  unfold T
  congr 2
  by_cases h : n ≤ l.length
  · rw [Nat.min_eq_left h, List.take_of_length_le (by rw [List.length_drop]; omega)]
  · rw [Nat.min_eq_right (by omega), List.drop_eq_nil_of_le (Nat.le_refl _), List.drop_eq_nil_of_le (by omega), List.take_nil]
theorem cutL_hi {α : Type} (l : List α) (n : Nat) : cutL l none (some (n : Int)) = l.take n := by
  unfold cutL
  rw [HT.sIx_none, HT.sIx_nat]
  simp only [List.drop_zero, Nat.sub_zero]
  by_cases h : n ≤ l.length
  · rw [Nat.min_eq_left h]
  · rw [Nat.min_eq_right (by omega), List.take_of_length_le (Nat.le_refl _), List.take_of_length_le (by omega)]
theorem cutL_lo {α : Type} (l : List α) (n : Nat) : cutL l (some (n : Int)) none = l.drop n := by
  unfold cutL
  rw [HT.sIx_none, HT.sIx_nat]
  by_cases h : n ≤ l.length
  · rw [Nat.min_eq_left h, List.take_of_length_le (by rw [List.length_drop]; omega)]
  · rw [Nat.min_eq_right (by omega), List.drop_eq_nil_of_le (Nat.le_refl _), List.drop_eq_nil_of_le (by omega), List.take_nil]
theorem Low.app {a b : List Nat} (h1 : Low a) (h2 : Low b) : Low (a ++ b) := fun c hc => (List.mem_append.mp hc).elim (h1 c) (h2 c)
theorem Low.take {a : List Nat} (h : Low a) (n : Nat) : Low (a.take n) := fun c hc => h c (List.mem_of_mem_take hc)
theorem Low.drop {a : List Nat} (h : Low a) (n : Nat) : Low (a.drop n) := fun c hc => h c (List.mem_of_mem_drop hc)
/-- names told apart -/
structure Nms (n : Nat) (xs : List Str) : Prop where
  len : xs.length = n
  nd : xs.Nodup
  nm : ∀ x ∈ xs, Nm x
theorem perm_strs {es : List D} {xs : List Str} (h : es.Perm (xs.map .str)) : ∃ ys : List Str, es = ys.map .str ∧ ys.Perm xs := by
  have : ∀ e ∈ es, ∃ x, e = D.str x := fun e he => by
    obtain ⟨x, _, hx⟩ := List.mem_map.mp (h.subset he)
    exact ⟨x, hx.symm⟩
  have : ∃ ys : List Str, es = ys.map .str := by
    clear h
    induction es with
    | nil => exact ⟨[], rfl⟩
    | cons e es ih =>
      obtain ⟨x, rfl⟩ := this e List.mem_cons_self
      obtain ⟨ys, rfl⟩ := ih fun e he => this e (List.mem_cons_of_mem _ he)
      exact ⟨x :: ys, rfl⟩
  obtain ⟨ys, rfl⟩ := this
  refine ⟨ys, rfl, ?_⟩
  have h2 := h.map (fun d => match d with | D.str x => x | _ => T [])
  rw [List.map_map, List.map_map] at h2
  have e : ∀ l : List Str, l.map ((fun d => match d with | D.str x => x | _ => T []) ∘ D.str) = l := fun l => by
    conv => rhs; rw [← List.map_id l]
    rfl
  rw [e, e] at h2
  exact h2
theorem Nms.perm {n : Nat} {xs ys : List Str} (h : Nms n xs) (p : ys.Perm xs) : Nms n ys := ⟨p.length_eq.trans h.len, p.nodup_iff.mpr h.nd, fun x hx => h.nm x (p.subset hx)⟩
def knowns : List Str := ["find", "finds", "word", "fact", "before", "first", "last", "lot", "never", "all", "rest", "self"]
theorem Nm_T {l : List Nat} (h : Low l) (h1 : 1 ≤ l.length) (h2 : l.length ≤ 6) : Nm (T l) := ⟨h, by rw [T_len]; exact h1, by rw [T_len]; exact h2⟩
theorem range_drop {N k : Nat} {d : D} {ds : List D} (e : d :: ds = ((List.range N).drop k).map fun (i : Nat) => D.int i) : k < N ∧ d = .int k ∧ ds = ((List.range N).drop (k + 1)).map fun (i : Nat) => D.int i := by
  by_cases h : k < N
  · rw [List.drop_eq_getElem_cons (by rw [List.length_range]; exact h), List.map_cons, List.cons.injEq] at e
    refine ⟨h, ?_, e.2⟩
    rw [e.1, List.getElem_range]
  · rw [List.drop_eq_nil_of_le (by rw [List.length_range]; omega)] at e
    cases e
theorem eq_of {α : Type} {r : R α} {a : α} {st : S} (h : Ok r fun x s => x = a ∧ s = st) : r = .ok a st := by
  obtain ⟨x, s, e, rfl, rfl⟩ := h
  exact e
/-- one turn of the names' loop -/
def namesI (tl : S × S) (N : Nat) (sg : List Str) (a2 a6 a7 a8 a9 : D) (ds : List D) (ρ : Ev) (st : S) : Prop :=
  St tl st ∧ ∃ (xs : List Str) (y5 y12 y13 y14 : Sl), ρ = [.sh (.ref tl.1.length), .sh (.int N), .sh a2, .sh (.lst (sg.map .str)), .own (xs.map .str), y5, .sh a6, .sh a7, .sh a8, .sh a9, .no, .no, y12, y13, y14, .no] ∧ xs.length ≤ N ∧ xs.Nodup ∧ (∀ x ∈ xs, Nm x) ∧ ds = ((List.range N).drop xs.length).map fun (i : Nat) => D.int i
theorem Nm.low {x : Str} (h : Nm x) : x = T x.cps.toList ∧ Low x.cps.toList ∧ 1 ≤ x.cps.toList.length ∧ x.cps.toList.length ≤ 6 := ⟨T_of x, h.1, by rw [← len_list]; exact h.2.1, by rw [← len_list]; exact h.2.2⟩
theorem names_loop {tl : S × S} {N : Nat} {sg : List Str} {a2 a6 a7 a8 a9 : D} (hN : N ≤ 60) (hg : Nms N sg) {st : S} (hs : St tl st) {ρ0 : Ev} (hρ : ρ0 = [.sh (.ref tl.1.length), .sh (.int N), .sh a2, .sh (.lst (sg.map .str)), .own [], .no, .sh a6, .sh a7, .sh a8, .sh a9, .no, .no, .no, .no, .no, .no]) {Q : Ev → S → Prop} {T0 : D → S → Prop} (k : ∀ ρ s, (St tl s ∧ ∃ xs, Nms N xs ∧ ρ[4]? = some (.own (xs.map .str))) → Q ρ s) : Go (sFor (.nm 5) (dRange (dCons (dVar 1) (dNil))) (sSeq (sSet 12 (dAnd (dBin gtD (dVar 5) (dC (.int 0))) (dBin eqD (dCall sem__law_draw (dCons (dVar 0) (dCons (dC (.int 3)) (dNil)))) (dC (.int 0))))) (sSeq (sSet 13 (dIf (dTst (dVar 12)) (dSl (dBin addD (dBin ixD (dOwn 4) (dCall sem__law_draw (dCons (dVar 0) (dCons (dVar 5) (dNil))))) (dCall sem__law_word (dCons (dVar 0) (dCons (dC (.int 1)) (dNil))))) (dNoP) (dPart (dC (.int 6)))) (dCall sem__law_word (dCons (dVar 0) (dCons (dC (.int 6)) (dNil)))))) (sSeq (sSet 14 (dLc (.nm 15) [15] (dItems (dVar 3)) (dTB (dBin nInD (dVar 15) (dOwn 4))) (dVar 15))) (sApp 4 (dIf (dTB (dBin inD (dVar 13) (dOwn 4))) (dBin ixD (dVar 14) (dC (.int 0))) (dVar 13)))))) ρ0 st) Q T0 := by
  subst hρ
  walk_at "s"
  refine range1_ok (by omega) (by omega) ?_
  rw [Int.toNat_natCast]
  refine go_for (namesI tl N sg a2 a6 a7 a8 a9) ⟨hs, [], _, _, _, _, rfl, Nat.zero_le _, List.nodup_nil, fun _ h => absurd h List.not_mem_nil, by rw [List.length_nil, List.drop_zero]⟩ ?_ ?_
  · rintro d ds ρ st ⟨hs, xs, y5, y12, y13, y14, rfl, _, hnd, hnm, e⟩
    obtain ⟨hk, rfl, rfl⟩ := range_drop e
    refine ⟨_, rfl, ?_⟩
    refine g_seq ?_
    refine Go.mono (Q := fun ρ s => St tl s ∧ ∃ b : Bool, (b = true → 0 < xs.length) ∧ ρ = [.sh (.ref tl.1.length), .sh (.int N), .sh a2, .sh (.lst (sg.map .str)), .own (xs.map .str), .sh (.int xs.length), .sh a6, .sh a7, .sh a8, .sh a9, .no, .no, .sh (.bl b), y13, y14, .no]) (T := T0) ?_ ?_ (fun _ _ z => z)
    · walk_at "s"
      refine ⟨fun hb => ?_, fun hb => ?_⟩
      · have hb := of_decide_eq_true hb
        walk_at "s"
        refine (draw_ok hs (by decide) (by decide)).mono ?_
        rintro d s ⟨hs, n, rfl, _, _⟩
        walk_at "s"
        exact ⟨hs, _, fun _ => by omega, rfl⟩
      · exact ⟨hs, _, fun h => absurd (h.symm.trans hb) (by decide), rfl⟩
    rintro ρ st ⟨hs, b, hb, rfl⟩
    refine g_seq ?_
    refine Go.mono (Q := fun ρ s => St tl s ∧ ∃ l, Low l ∧ 1 ≤ l.length ∧ l.length ≤ 6 ∧ ρ = [.sh (.ref tl.1.length), .sh (.int N), .sh a2, .sh (.lst (sg.map .str)), .own (xs.map .str), .sh (.int xs.length), .sh a6, .sh a7, .sh a8, .sh a9, .no, .no, .sh (.bl b), .sh (.str (T l)), y14, .no]) (T := T0) ?_ ?_ (fun _ _ z => z)
    · walk_at "s"
      refine ⟨fun hc => ?_, fun hc => ?_⟩
      · walk_at "s"
        refine (draw_ok hs (by have := hb hc; omega) (by omega)).mono ?_
        rintro d s ⟨hs, n, rfl, hn1, hn2⟩
        have hx : n.toNat < xs.length := by omega
        refine ixL_ok (atI_int hn1 (show (xs.map D.str)[n.toNat]? = some (.str xs[n.toNat]) by rw [List.getElem?_map, List.getElem?_eq_getElem hx]; rfl)) ?_
        obtain ⟨e1, l1, l2, l3⟩ := (hnm _ (List.getElem_mem hx)).low
        revert e1 l1 l2 l3
        generalize (xs[n.toNat]).cps.toList = l
        intro e1 l1 l2 l3
        rw [e1]
        walk_at "s"
        refine (word_ok hs (by decide) (by decide)).mono ?_
        rintro d s ⟨hs, m, rfl, m1, m2, m3⟩
        refine addS_ok (small (by rw [T_len, T_len]; omega)) ?_
        walk_at "s"
        refine o_slS (small (by rw [T_app, T_len, List.length_append]; omega)) ?_
        rw [T_app]
        refine ⟨hs, (l ++ m).take 6, (l1.app m1).take 6, ?_, ?_, ?_⟩
        · rw [List.length_take, List.length_append]; omega
        · rw [List.length_take]; omega
        · rw [← cutS_hi]; rfl
      · walk_at "s"
        refine (word_ok hs (by decide) (by decide)).mono ?_
        rintro d s ⟨hs, m, rfl, m1, m2, m3⟩
        exact ⟨hs, m, m1, m2, by omega, rfl⟩
    rintro ρ st ⟨hs, l, l1, l2, l3, rfl⟩
    walk_at "s"
    refine ⟨small (by rw [List.length_map, hg.len]; omega), ?_⟩
    refine ok_eq (comp_pure (fun d => match d with | .str x => decide (x ∉ xs) | _ => false) id fun d hd => ?_) ?_
    · obtain ⟨x, _, rfl⟩ := List.mem_map.mp hd
      refine ⟨_, rfl, ?_, fun _ => rfl⟩
      obtain ⟨b, s, e, rfl, rfl⟩ : Ok (dTB (dBin nInD (dVar 15) (dOwn 4)) ([.sh (.ref tl.1.length), .sh (.int N), .sh a2, .sh (.lst (sg.map .str)), .own (xs.map .str), .sh (.int xs.length), .sh a6, .sh a7, .sh a8, .sh a9, .no, .no, .sh (.bl b), .sh (.str (T l)), y14, .sh (.str x)]) st) fun r s => r = decide (x ∉ xs) ∧ s = st := by
        walk_at "s"
        refine o_nInL (by rw [flat_strs]; rfl) (fun i z => by cases z) ?_
        refine ⟨_, rfl, ?_, rfl⟩
        rw [any_str, decide_not]
      exact e
    · rw [List.map_id]
      have ef : (sg.map D.str).filter (fun d => match d with | .str x => decide (x ∉ xs) | _ => false) = (sg.filter fun x => decide (x ∉ xs)).map .str := by
        rw [List.filter_map]; rfl
      rw [ef]
      refine g_app rfl ?_
      walk_at "s"
      refine o_inL (by rw [flat_strs]; rfl) (fun i z => by cases z) ?_
      rw [any_str]
      walk_at "s"
      have go : ∀ (x : Str), x ∉ xs → Nm x → namesI tl N sg a2 a6 a7 a8 a9 (((List.range N).drop (xs.length + 1)).map fun (i : Nat) => D.int i) [.sh (.ref tl.1.length), .sh (.int N), .sh a2, .sh (.lst (sg.map .str)), .own (xs.map .str ++ [.str x]), .sh (.int xs.length), .sh a6, .sh a7, .sh a8, .sh a9, .no, .no, .sh (.bl b), .sh (.str (T l)), .sh (.lst ((sg.filter fun x => decide (x ∉ xs)).map .str)), .no] st := by
        intro x hx hn
        refine ⟨hs, xs ++ [x], _, _, _, _, by rw [List.map_append]; rfl, by rw [List.length_append]; exact hk, ?_, ?_, by rw [List.length_append]; rfl⟩
        · rw [List.nodup_append]
          refine ⟨hnd, List.pairwise_singleton _ _, ?_⟩
          intro a ha b hb e
          rw [List.mem_singleton] at hb
          exact hx (hb ▸ e ▸ ha)
        · intro z hz
          rcases List.mem_append.mp hz with hz | hz
          · exact hnm z hz
          · rw [List.mem_singleton] at hz
            exact hz ▸ hn
      refine ⟨fun hc => ?_, fun hc => ?_⟩
      · walk_at "s"
        have hne : (sg.filter fun x => decide (x ∉ xs)) ≠ [] := by
          intro e
          have : ∀ x ∈ sg, x ∈ xs := by
            intro x hx
            have := List.filter_eq_nil_iff.mp e x hx
            simpa using this
          have := nodup_le hg.nd this
          rw [hg.len] at this
          omega
        obtain ⟨x, ws, ew⟩ := List.exists_cons_of_ne_nil hne
        have hx : x ∈ sg.filter fun x => decide (x ∉ xs) := by rw [ew]; exact List.mem_cons_self
        have hx' := List.mem_filter.mp hx
        refine ixL_ok (d := .str x) (by rw [ew]; exact atI_int (by decide) rfl) ⟨small' (by rw [List.length_map]; omega), ?_⟩
        exact go x (of_decide_eq_true hx'.2) (hg.nm x hx'.1)
      · walk_at "s"
        refine ⟨small' (by rw [List.length_map]; omega), ?_⟩
        exact go (T l) (of_decide_eq_false hc) (Nm_T l1 l2 l3)
  · rintro ρ st ⟨hs, xs, y5, y12, y13, y14, rfl, hle, hnd, hnm, e⟩
    have hl := congrArg List.length e
    rw [List.length_map, List.length_drop, List.length_range, List.length_nil] at hl
    exact k _ _ ⟨hs, xs, ⟨by omega, hnd, hnm⟩, rfl⟩
theorem Nms_knowns {f s : Int} (hf : 0 ≤ f) (hf2 : f < 26) (hs : s ∈ strides) {ys : List Str} (hp : ys.Perm knowns) {N : Nat} (hN : N ≤ 60) : Nms N ((ys ++ (sgns f s N).map T).take N) := by
  have hk : ∀ x ∈ knowns, Nm x ∧ 3 ≤ x.length := by
    intro x hx
    have h : ∀ x ∈ knowns, (x.cps.toList.all (fun c => decide (97 ≤ c) && decide (c ≤ 122)) && decide (1 ≤ x.length) && decide (x.length ≤ 6) && decide (3 ≤ x.length)) = true := by decide
    have := h x hx
    simp only [Bool.and_eq_true, decide_eq_true_eq, List.all_eq_true] at this
    exact ⟨⟨this.1.1.1, this.1.1.2, this.1.2⟩, this.2⟩
  have hd : (ys ++ (sgns f s N).map T).Nodup := by
    rw [List.nodup_append]
    refine ⟨hp.nodup_iff.mpr (by decide), List.Pairwise.map _ (fun a b hab e => hab (T_inj e)) (sgns_nodup hf hf2 hs N), ?_⟩
    intro a ha b hb e
    have h1 := (hk a (hp.subset ha)).2
    obtain ⟨l, hl, rfl⟩ := List.mem_map.mp hb
    obtain ⟨k, hk', rfl⟩ := List.mem_map.mp hl
    rw [List.mem_range] at hk'
    have := (sgn_low (f := f) (s := s) (k := k) (by omega)).2.2
    rw [e, T_len] at h1
    omega
  refine ⟨?_, hd.sublist (List.take_sublist _ _), ?_⟩
  · rw [List.length_take, List.length_append, List.length_map]
    unfold sgns
    rw [List.length_map, List.length_range]
    omega
  · intro x hx
    rcases List.mem_append.mp (List.mem_of_mem_take hx) with h | h
    · exact (hk x (hp.subset h)).1
    · obtain ⟨l, hl, rfl⟩ := List.mem_map.mp h
      obtain ⟨k, hk', rfl⟩ := List.mem_map.mp hl
      rw [List.mem_range] at hk'
      obtain ⟨h1, h2, h3⟩ := sgn_low (f := f) (s := s) (k := k) (by omega)
      exact Nm_T h1 h2 (by omega)
theorem Nms_stem {f s : Int} (hf : 0 ≤ f) (hf2 : f < 26) (hs : s ∈ strides) {l : List Nat} (hl : Low l) (hl4 : l.length ≤ 4) {N : Nat} (hN : N ≤ 60) (k : Nat) : Nms N ((sgns f s N).map fun g => T (l.take k ++ g ++ l.drop k)) := by
  refine ⟨by unfold sgns; rw [List.length_map, List.length_map, List.length_range], ?_, ?_⟩
  · refine List.Pairwise.map _ (fun a b hab e => hab ?_) (sgns_nodup hf hf2 hs N)
    have e := T_inj e
    rw [List.append_assoc, List.append_assoc] at e
    exact List.append_cancel_right (List.append_cancel_left e)
  · intro x hx
    obtain ⟨g, hg, rfl⟩ := List.mem_map.mp hx
    obtain ⟨j, hj, rfl⟩ := List.mem_map.mp hg
    rw [List.mem_range] at hj
    obtain ⟨h1, h2, h3⟩ := sgn_low (f := f) (s := s) (k := j) (by omega)
    refine Nm_T (((hl.take k).app h1).app (hl.drop k)) ?_ ?_
    · rw [List.length_append, List.length_append]; omega
    · rw [List.length_append, List.length_append, List.length_take, List.length_drop]; omega
def ltD1 (f sd : Int) : D → D
  | .int k => .str (T [97 + ((f + sd * k % 26) % 26).toNat])
  | _ => .non
def sgD (f s : Int) : D → D
  | .int k => .str (T (sgn f s k.toNat))
  | _ => .non
theorem names_all {tl : S × S} {st : S} {N : Nat} (h : St tl st) (hN : N ≤ 60) : Ok (sem__law_names [.ref tl.1.length, .int N] st) fun d s => St tl s ∧ ∃ xs, d = .lst (xs.map .str) ∧ Nms N xs := by
  refine ok_sem rfl ?_
  unfold den__law_names
  walk_at "s"
  refine (draw_ok h (by decide) (by decide)).mono ?_
  rintro d s ⟨h, f, rfl, hf, hf2⟩
  walk_at "s"
  refine ⟨by decide, ?_⟩
  walk_at "s"
  refine (pick_ok h (by decide) (by decide)).mono ?_
  rintro d s ⟨h, hd⟩
  have hd : d ∈ strides.map D.int := hd
  obtain ⟨sd, hsd, rfl⟩ := List.mem_map.mp hd
  walk_at "s"
  refine ⟨small (by simp), ?_⟩
  refine ⟨_, rfl, ?_⟩
  walk_at "s"
  refine range1_ok (by omega) (by omega) ?_
  rw [Int.toNat_natCast]
  refine ⟨small (by rw [List.length_map, List.length_range]; omega), ?_⟩
  refine ok_eq (comp_map (ltD1 f sd) fun d hd => ?_) ?_
  · obtain ⟨k, hk, rfl⟩ := List.mem_map.mp hd
    rw [List.mem_range] at hk
    refine ⟨_, rfl, eq_of ?_⟩
    walk_at "s"
    refine k_letters ?_
    walk_at "s"
    refine mul_ok (mulC_r (by omega) (by omega)) ?_
    walk_at "s"
    refine mod_ok (by decide) ?_
    walk_at "s"
    refine mod_ok (by decide) ?_
    exact letter_ok (Int.emod_nonneg _ (by decide)) (Int.emod_lt_of_pos _ (by decide)) ⟨rfl, rfl⟩
  walk_at "s"
  refine range1_ok (by omega) (by omega) ?_
  rw [Int.toNat_natCast]
  refine ⟨small (by rw [List.length_map, List.length_range]; omega), ?_⟩
  refine ok_eq (comp_map (sgD f sd) fun d hd => ?_) ?_
  · obtain ⟨k, hk, rfl⟩ := List.mem_map.mp hd
    rw [List.mem_range] at hk
    refine ⟨_, rfl, eq_of ?_⟩
    walk_at "s"
    refine ixL_ok (d := .str (T [97 + ((f + sd * (k : Int) % 26) % 26).toNat])) (atI_nat (by rw [List.map_map, List.getElem?_map, List.getElem?_range hk]; rfl)) ?_
    walk_at "s"
    refine ⟨fun hc => ?_, fun hc => ?_⟩
    · have hc := of_decide_eq_true hc
      walk_at "s"
      have e0 : Str.ofString "" = T [] := by decide
      rw [e0]
      refine addS_ok (small (by rw [T_len, T_len]; simp)) ⟨?_, rfl⟩
      rw [T_app]
      unfold sgD sgn
      dsimp only
      rw [Int.toNat_natCast, if_pos (by omega)]
      rfl
    · have hc := of_decide_eq_false hc
      walk_at "s"
      refine k_letters ?_
      walk_at "s"
      refine fdiv_ok (by decide) (by decide) ?_
      refine letter_ok (by omega) (by omega) ?_
      refine addS_ok (small (by rw [T_len, T_len]; simp)) ⟨?_, rfl⟩
      rw [T_app]
      unfold sgD sgn
      dsimp only
      rw [Int.toNat_natCast, if_neg (by omega)]
      have : ((k : Int) / 26).toNat = k / 26 := by omega
      rw [this]
      rfl
  have eS : ((List.range N).map fun (i : Nat) => D.int i).map (sgD f sd) = ((sgns f sd N).map T).map D.str := by
    unfold sgns
    rw [List.map_map, List.map_map, List.map_map]
    rfl
  rw [eS]
  walk_at "s"
  refine (draw_ok h (by decide) (by decide)).mono ?_
  rintro d s ⟨h, way, rfl, hw, hw2⟩
  walk_at "s"
  refine (word_ok h (by decide) (by decide)).mono ?_
  rintro d s ⟨h, l, rfl, l1, l2, l3⟩
  walk_at "s"
  refine ⟨small (by simp), ?_⟩
  refine ⟨_, rfl, ?_⟩
  walk_at "s"
  refine ⟨fun hc => ?_, fun hc => ?_⟩
  · walk_at "s"
    refine lenS_ok (small (by rw [T_len]; omega)) ?_
    walk_at "s"
    refine (draw_ok h (by rw [T_len]; omega) (by rw [T_len]; omega)).mono ?_
    rintro d s ⟨h, n, rfl, hn1, hn2⟩
    obtain ⟨n, rfl⟩ := Int.eq_ofNat_of_zero_le hn1
    walk_at "s"
    refine ⟨small (by rw [List.length_map, List.length_map]; unfold sgns; rw [List.length_map, List.length_range]; omega), ?_⟩
    refine ok_eq (comp_map (fun d => match d with | .str g => .str (T (l.take n ++ g.cps.toList ++ l.drop n)) | _ => .non) fun d hd => ?_) ?_
    · obtain ⟨g, hg, rfl⟩ := List.mem_map.mp hd
      obtain ⟨g, hg2, rfl⟩ := List.mem_map.mp hg
      obtain ⟨j, hj, rfl⟩ := List.mem_map.mp hg2
      rw [List.mem_range] at hj
      obtain ⟨h1, h2, h3⟩ := sgn_low (f := f) (s := sd) (k := j) (by omega)
      refine ⟨_, rfl, eq_of ?_⟩
      walk_at "s"
      refine o_slS (small (by rw [T_len]; omega)) ?_
      rw [cutS_hi]
      walk_at "s"
      refine addS_ok (small (by rw [T_len, T_len, List.length_take]; omega)) ?_
      walk_at "s"
      refine o_slS (small (by rw [T_len]; omega)) ?_
      rw [cutS_lo, T_app]
      refine addS_ok (small (by rw [T_len, T_len, List.length_append, List.length_take, List.length_drop]; omega)) ⟨?_, rfl⟩
      rw [T_app]
      rfl
    · refine ⟨h, _, ?_, Nms_stem hf hf2 hsd l1 (by omega) hN n⟩
      rw [List.map_map, List.map_map, List.map_map]
      rfl
  · walk_at "s"
    refine ⟨fun hc => ?_, fun hc => ?_⟩
    · walk_at "s"
      refine ⟨by decide, ?_⟩
      walk_at "s"
      refine (shuffle_ok h (by decide)).mono ?_
      rintro d s ⟨h, es, rfl, hp⟩
      have hp : es.Perm (knowns.map D.str) := hp
      obtain ⟨ys, rfl, hp2⟩ := perm_strs hp
      walk_at "s"
      refine addL_ok (small (by rw [List.length_map, List.length_map, List.length_map, hp2.length_eq]; unfold sgns; rw [List.length_map, List.length_range]; have : knowns.length = 12 := (by decide); omega)) ?_
      walk_at "s"
      rw [cutL_hi, ← List.map_append, ← List.map_take]
      have hk := Nms_knowns hf hf2 hsd hp2 hN
      refine (shuffle_ok h (by rw [List.length_map, hk.len]; omega)).mono ?_
      rintro d s ⟨h, es, rfl, hp⟩
      obtain ⟨zs, rfl, hp3⟩ := perm_strs hp
      exact ⟨h, zs, rfl, hk.perm hp3⟩
    · walk_at "s"
      refine ⟨by decide, ?_⟩
      with_reducible refine g_seq ?_
      (with_reducible refine' names_loop (sg := (sgns f sd N).map T) hN ⟨?_, ?_, ?_⟩ h ?hr ?_); (case hr => rfl)
      · rw [List.length_map]; unfold sgns; rw [List.length_map, List.length_range]
      · exact List.Pairwise.map _ (fun a b hab e => hab (T_inj e)) (sgns_nodup hf hf2 hsd N)
      · intro x hx
        obtain ⟨g, hg, rfl⟩ := List.mem_map.mp hx
        obtain ⟨j, hj, rfl⟩ := List.mem_map.mp hg
        rw [List.mem_range] at hj
        obtain ⟨h1, h2, h3⟩ := sgn_low (f := f) (s := sd) (k := j) (by omega)
        exact Nm_T h1 h2 (by omega)
      · rintro ρ s ⟨h, xs, hx, e⟩
        exact g_retOwn e ⟨h, xs, rfl, hx⟩
theorem names_ok {tl : S × S} {st : S} {N : Nat} (h : St tl st) (h1 : 0 < N) (hN : N ≤ 60) : Ok (sem__law_names [.ref tl.1.length, .int N] st) fun d s => St tl s ∧ ∃ xs, d = .lst (xs.map .str) ∧ Nms N xs := names_all h hN
end
section
set_option maxHeartbeats 1000000
/-! Plain data; the laws' own sameness. -/

open PySem L2 DL Co

def plS (x : Str) : Bool := decide (x.length ≤ 1000) && x.cps.toList.all fun c => decide (c < 1114112)
/-- plain data, no deeper than n -/
def pl : Nat → D → Bool
  | 0, .lst _ => false
  | 0, .tup _ => false
  | n + 1, .lst ds => decide (ds.length ≤ 1000) && ds.all (pl n)
  | n + 1, .tup ds => decide (ds.length ≤ 1000) && ds.all (pl n)
  | _, .str x => plS x
  | _, .non => true
  | _, .bl _ => true
  | _, .int _ => true
  | _, .pr _ _ => false
  | _, .ref _ => false
  | _, .ty _ => false
  | _, .cls _ => false
  | _, .scr _ => false
  | _, .dic _ _ => false
  | _, .ob _ _ _ => false
theorem pl_non {n : Nat} : pl n .non = true := by cases n <;> rfl
theorem pl_bl {n : Nat} {b : Bool} : pl n (.bl b) = true := by cases n <;> rfl
theorem pl_int {n : Nat} {b : Int} : pl n (.int b) = true := by cases n <;> rfl
theorem pl_str {n : Nat} {x : Str} : pl n (.str x) = plS x := by cases n <;> rfl
theorem pl_pr {n : Nat} {a b : D} : pl n (.pr a b) = false := by cases n <;> rfl
theorem pl_ref {n i : Nat} : pl n (.ref i) = false := by cases n <;> rfl
theorem pl_ty {n : Nat} {i : String} : pl n (.ty i) = false := by cases n <;> rfl
theorem pl_cls {n i : Nat} : pl n (.cls i) = false := by cases n <;> rfl
theorem pl_scr {n : Nat} {i : List Int} : pl n (.scr i) = false := by cases n <;> rfl
theorem pl_dic {n : Nat} {ks : List Key} {ds : List D} : pl n (.dic ks ds) = false := by cases n <;> rfl
theorem pl_ob {n c : Nat} {ns : List Str} {ds : List D} : pl n (.ob c ns ds) = false := by cases n <;> rfl
theorem pl_tup {n : Nat} {ds : List D} : pl (n + 1) (.tup ds) = true ↔ ds.length ≤ 1000 ∧ ∀ d ∈ ds, pl n d = true := by
  show (decide (ds.length ≤ 1000) && ds.all (pl n)) = true ↔ _
  rw [Bool.and_eq_true, decide_eq_true_eq, List.all_eq_true]
theorem pl_lst {n : Nat} {ds : List D} : pl (n + 1) (.lst ds) = true ↔ ds.length ≤ 1000 ∧ ∀ d ∈ ds, pl n d = true := by
  show (decide (ds.length ≤ 1000) && ds.all (pl n)) = true ↔ _
  rw [Bool.and_eq_true, decide_eq_true_eq, List.all_eq_true]
theorem pl_succ : ∀ {n : Nat} {d : D}, pl n d = true → pl (n + 1) d = true
  | n, .non, _ => pl_non
  | n, .bl _, _ => pl_bl
  | n, .int _, _ => pl_int
  | n, .str x, h => by rw [pl_str] at h ⊢; exact h
  | 0, .lst _, h => by cases h
  | 0, .tup _, h => by cases h
  | n + 1, .lst ds, h => by rw [pl_lst] at h ⊢; exact ⟨h.1, fun d hd => pl_succ (h.2 d hd)⟩
  | n + 1, .tup ds, h => by rw [pl_tup] at h ⊢; exact ⟨h.1, fun d hd => pl_succ (h.2 d hd)⟩
  | n, .pr _ _, h => by rw [pl_pr] at h; cases h
  | n, .ref _, h => by rw [pl_ref] at h; cases h
  | n, .ty _, h => by rw [pl_ty] at h; cases h
  | n, .cls _, h => by rw [pl_cls] at h; cases h
  | n, .scr _, h => by rw [pl_scr] at h; cases h
  | n, .dic _ _, h => by rw [pl_dic] at h; cases h
  | n, .ob _ _ _, h => by rw [pl_ob] at h; cases h
theorem pl_le {m n : Nat} (hmn : m ≤ n) {d : D} (h : pl m d = true) : pl n d = true := by
  induction hmn with
  | refl => exact h
  | step _ ih => exact pl_succ ih
theorem plS_ok {x : Str} (h : plS x = true) : x.length ≤ 1000 ∧ PyData.canLay0 (.str x) = true := by
  unfold plS at h
  rw [Bool.and_eq_true, decide_eq_true_eq] at h
  refine ⟨h.1, ?_⟩
  simp only [PyData.canLay0]
  unfold PyData.strOk
  rw [← Array.all_toList]
  exact h.2
theorem pls_py {n : Nat} : ∀ {ds : List D}, (∀ d ∈ ds, pur d = true ∧ PyData.canLay0 (py d) = true ∧ PyData.depth (py d) ≤ n) → purs ds = true ∧ PyData.canLayAll0 (pys ds) = true ∧ PyData.depthAll (pys ds) ≤ n
  | [], _ => ⟨rfl, rfl, Nat.zero_le _⟩
  | d :: ds, h => by
    obtain ⟨h1, h2, h3⟩ := h d List.mem_cons_self
    obtain ⟨h4, h5, h6⟩ := pls_py (ds := ds) fun d hd => h d (List.mem_cons_of_mem _ hd)
    unfold purs pys PyData.canLayAll0 PyData.depthAll
    rw [Bool.and_eq_true, Bool.and_eq_true]
    exact ⟨⟨h1, h4⟩, ⟨h2, h5⟩, Nat.max_le.mpr ⟨h3, h6⟩⟩
theorem pl_py : ∀ {n : Nat} {d : D}, pl n d = true → pur d = true ∧ PyData.canLay0 (py d) = true ∧ PyData.depth (py d) ≤ n
  | n, .non, _ => ⟨rfl, rfl, Nat.zero_le _⟩
  | n, .bl _, _ => ⟨rfl, rfl, Nat.zero_le _⟩
  | n, .int _, _ => ⟨rfl, rfl, Nat.zero_le _⟩
  | n, .str x, h => by rw [pl_str] at h; exact ⟨rfl, (plS_ok h).2, Nat.zero_le _⟩
  | 0, .lst _, h => by cases h
  | 0, .tup _, h => by cases h
  | n + 1, .lst ds, h => by
    rw [pl_lst] at h
    obtain ⟨h1, h2, h3⟩ := pls_py fun d hd => pl_py (h.2 d hd)
    refine ⟨by unfold pur; exact h1, by unfold py PyData.canLay0; exact h2, by unfold py PyData.depth; omega⟩
  | n + 1, .tup ds, h => by
    rw [pl_tup] at h
    obtain ⟨h1, h2, h3⟩ := pls_py fun d hd => pl_py (h.2 d hd)
    refine ⟨by unfold pur; exact h1, by unfold py PyData.canLay0; exact h2, by unfold py PyData.depth; omega⟩
  | n, .pr _ _, h => by rw [pl_pr] at h; cases h
  | n, .ref _, h => by rw [pl_ref] at h; cases h
  | n, .ty _, h => by rw [pl_ty] at h; cases h
  | n, .cls _, h => by rw [pl_cls] at h; cases h
  | n, .scr _, h => by rw [pl_scr] at h; cases h
  | n, .dic _ _, h => by rw [pl_dic] at h; cases h
  | n, .ob _ _ _, h => by rw [pl_ob] at h; cases h
theorem pl_okd {n : Nat} {d : D} (h : pl n d = true) (hn : n ≤ 64) : okd d = true := by
  obtain ⟨h1, h2, h3⟩ := pl_py h
  unfold okd SeqAt.shaped
  rw [h1, h2, decide_eq_true (by omega : PyData.depth (py d) ≤ 64)]
  rfl
theorem pl_ty_ok {n : Nat} {d : D} (h : pl n d = true) : tyOk d = true := by
  cases d <;> first | rfl | (rw [pl_pr] at h; cases h) | (rw [pl_ref] at h; cases h) | (rw [pl_ty] at h; cases h) | (rw [pl_cls] at h; cases h) | (rw [pl_scr] at h; cases h) | (rw [pl_dic] at h; cases h) | (rw [pl_ob] at h; cases h)
theorem comp_true {n : Nat} {F : List D → S → R D} {ds : List D} {st : S} {ρ : Ev} {A : D} {Q : List D → S → Prop} (ho : ∀ d ∈ ds, F [d, d] st = .ok (.bl true) st) (e0 : ρ[0]? = some (.sh A)) (e1 : ρ[1]? = some (.sh A)) (e2 : 2 < ρ.length) (hA : A = .lst ds ∨ A = .tup ds) (q : Q ((List.replicate ds.length true).map .bl) st) : Ok (compD (.nm 2) tTrue (dCall F (dCons (dBin ixD (dVar 0) (dVar 2)) (dCons (dBin ixD (dVar 1) (dVar 2)) (dNil)))) ρ ((List.range ds.length).map fun (i : Nat) => .int i) st) Q := by
  refine ok_eq (comp_map (fun _ => .bl true) fun d hd => ?_) ?_
  · obtain ⟨k, hk, rfl⟩ := List.mem_map.mp hd
    rw [List.mem_range] at hk
    refine ⟨_, rfl, eq_of ?_⟩
    refine k_call ?_
    have x0 : (ρ.set 2 (Sl.sh (D.int k)))[0]? = some (.sh A) := by rw [List.getElem?_set_ne (by decide)]; exact e0
    have x1 : (ρ.set 2 (Sl.sh (D.int k)))[1]? = some (.sh A) := by rw [List.getElem?_set_ne (by decide)]; exact e1
    have x2 : (ρ.set 2 (Sl.sh (D.int k)))[2]? = some (.sh (.int k)) := by rw [List.getElem?_set_self e2]
    have ha : ∀ {Q : D → S → Prop}, Q ds[k] st → Ok (ixD A (.int k) st) Q := by
      intro Q q
      rcases hA with rfl | rfl
      · exact ixL_ok (atI_nat (List.getElem?_eq_getElem hk)) q
      · exact ixT_ok (atI_nat (List.getElem?_eq_getElem hk)) q
    refine k_cons (k_bin (k_var x0 (k_var x2 (ha ?_))))
    refine k_cons (k_bin (k_var x1 (k_var x2 (ha ?_))))
    refine k_nil ?_
    exact ⟨_, _, ho _ (List.getElem_mem hk), rfl, rfl⟩
  · rw [List.map_map]
    have : List.map ((fun _ => D.bl true) ∘ fun (i : Nat) => D.int i) (List.range ds.length) = (List.replicate ds.length true).map .bl := by
      rw [List.map_replicate]
      have : ((fun _ => D.bl true) ∘ fun (i : Nat) => D.int i) = fun _ => D.bl true := rfl
      rw [this, List.map_const', List.length_range]
    rw [this]
    exact q
theorem all_rep (n : Nat) : (List.replicate n true).all id = true := by
  rw [List.all_eq_true]
  intro b hb
  exact (List.mem_replicate.mp hb).2
end
section
set_option maxHeartbeats 1000000
/-! Odd things, subsets, facts, things like statements. -/

open PySem L2 DL Co

theorem Nm.plS {x : Str} (h : Nm x) : plS x = true := by
  unfold DM.plS
  rw [Bool.and_eq_true, decide_eq_true_eq, List.all_eq_true]
  refine ⟨by have := h.2.2; omega, fun c hc => decide_eq_true ?_⟩
  have := h.1 c hc
  omega
theorem sortS_perm (xs : List Str) : (sortS xs).Perm xs := List.mergeSort_perm xs _
end
section
set_option maxHeartbeats 1000000
/-! Facts, things like statements. -/

open PySem L2 DL Co

end
section
set_option maxHeartbeats 1000000
/-! Things like statements. -/

open PySem L2 DL Co

theorem pl_strs {zs : List Str} {n : Nat} (h : ∀ z ∈ zs, plS z = true) (hl : zs.length ≤ 1000) : pl (n + 1) (.tup (zs.map .str)) = true := pl_tup.mpr ⟨by rw [List.length_map]; exact hl, fun d hd => by obtain ⟨z, hz, rfl⟩ := List.mem_map.mp hd; rw [pl_str]; exact h z hz⟩
theorem pl_strsL {zs : List Str} {n : Nat} (h : ∀ z ∈ zs, plS z = true) (hl : zs.length ≤ 1000) : pl (n + 1) (.lst (zs.map .str)) = true := pl_lst.mpr ⟨by rw [List.length_map]; exact hl, fun d hd => by obtain ⟨z, hz, rfl⟩ := List.mem_map.mp hd; rw [pl_str]; exact h z hz⟩
end
section
set_option maxHeartbeats 1000000
/-! Names, lots, statements: two judges, one answer. -/

open PySem L2 DL Co

def isName : D → Bool
  | .str x => decide (1 ≤ x.length) && decide (x.length ≤ 6) && x.cps.toList.all fun c => decide (c ∈ lts)
  | _ => false
/-- the signs of a text, each among the letters -/
theorem comp_signs {i : Nat} {ρ : Ev} {st : S} {x : Str} {te : Ev → S → R D} {Q : List D → S → Prop} (he : ∀ c, te (ρ.set i (.sh (.str ⟨#[c]⟩))) st = .ok (.bl (decide (c ∈ lts))) st) (q : Q ((x.cps.toList.map fun c => decide (c ∈ lts)).map .bl) st) : Ok (compD (.nm i) tTrue te ρ (x.cps.toList.map fun c => .str ⟨#[c]⟩) st) Q := by
  refine ok_eq (comp_map (fun d => match d with | .str y => .bl (inS y (T lts)) | _ => .non) fun d hd => ?_) ?_
  · obtain ⟨c, _, rfl⟩ := List.mem_map.mp hd
    refine ⟨_, rfl, ?_⟩
    exact he c
  · rw [List.map_map]
    rw [List.map_map] at q
    exact q
theorem all_map_id (l : List Nat) (p : Nat → Bool) : ((l.map p).all id) = l.all p := by
  rw [List.all_map]
  rfl
theorem plS_len {n : Nat} {x : Str} (h : pl n (.str x) = true) : x.length ≤ 1000 := by rw [pl_str] at h; exact (plS_ok h).1
theorem yes {p : Bool} {A B : Prop} (h : p = true) (a : A) : (p = true → A) ∧ (p = false → B) := ⟨fun _ => a, fun z => by rw [h] at z; cases z⟩
theorem no {p : Bool} {A B : Prop} (h : p = false) (b : B) : (p = true → A) ∧ (p = false → B) := ⟨fun z => (by rw [h] at z; cases z), fun _ => b⟩
theorem isI_str {d : D} (h : ¬ ∃ x, d = .str x) : isI d "str" = false ∧ isName d = false := by cases d <;> first | exact ⟨rfl, rfl⟩ | exact absurd ⟨_, rfl⟩ h
/-! ### lots -/
def ltDD : D → D → Bool
  | .str a, .str b => ltS a b
  | _, _ => false
def asc (ds : List D) : Bool := (ds.zip (ds.drop 1)).all fun p => ltDD p.1 p.2
def isLot : D → Bool
  | .tup ds => !ds.isEmpty && ds.all isName && asc ds
  | _ => false
theorem isI_tup {d : D} (h : ¬ ∃ x, d = .tup x) : isI d "tuple" = false ∧ isLot d = false := by cases d <;> first | exact ⟨rfl, rfl⟩ | exact absurd ⟨_, rfl⟩ h
theorem isName_str {d : D} (h : isName d = true) : ∃ x, d = .str x := by
  cases d <;> first | exact ⟨_, rfl⟩ | cases h
end
section
set_option maxHeartbeats 1000000
/-! Statements judged: k14. -/

open PySem L2 DL Co

def said1 (x : Str) (ds : List D) : Bool :=
  if x = Str.ofString "lot" then (match ds with | [d] => isLot d | _ => false)
  else if x = Str.ofString "before" then (match ds with | [a, b] => isName a && isName b | _ => false)
  else decide (x = Str.ofString "never") && ds.isEmpty
def said : D → Bool
  | .tup (.str x :: ds) => said1 x ds
  | _ => false
end
section
set_option maxHeartbeats 1000000
/-! k01: strings, numbers. -/

open PySem L2 DL Co

theorem plS_T {l : List Nat} (h1 : l.length ≤ 1000) (h2 : ∀ c ∈ l, c < 1114112) : plS (T l) = true := by
  unfold plS
  rw [Bool.and_eq_true, decide_eq_true_eq, List.all_eq_true, T_len]
  exact ⟨h1, fun c hc => decide_eq_true (h2 c hc)⟩
/-! ### numbers -/
def num (lo hi : Int) : D → Bool
  | .int i => decide (lo ≤ i) && decide (i ≤ hi)
  | _ => false
def whole : D → Bool
  | .int _ => true
  | _ => false
end
section
set_option maxHeartbeats 1000000
/-! k01: things like lots. -/

open PySem L2 DL Co

theorem isStr_list : ∀ {ds : List D}, (∀ d ∈ ds, isI d "str" = true) → ∃ xs : List Str, ds = xs.map .str
  | [], _ => ⟨[], rfl⟩
  | d :: ds, h => by
    obtain ⟨xs, rfl⟩ := isStr_list (ds := ds) fun d hd => h d (List.mem_cons_of_mem _ hd)
    have := h d List.mem_cons_self
    cases d with
    | str x => exact ⟨x :: xs, rfl⟩
    | _ => cases this
theorem sum_le {ls : List Nat} {n : Nat} (h : ∀ l ∈ ls, l ≤ n) : ls.sum ≤ ls.length * n := by
  induction ls with
  | nil => simp
  | cons a as ih =>
    have h1 := h a List.mem_cons_self
    have h2 := ih fun l hl => h l (List.mem_cons_of_mem _ hl)
    rw [List.sum_cons, List.length_cons, Nat.add_mul, Nat.one_mul]
    omega
/-! ### lots of a pool -/
def inX (xs : List Str) : D → Bool
  | .str x => decide (x ∈ xs)
  | _ => false
def lotOf (xs : List Str) (d : D) : Bool := isLot d && (match d with | .tup ds => ds.all (inX xs) | _ => true)
theorem isLot_tup {d : D} (h : isLot d = true) : ∃ ds, d = .tup ds ∧ ds.all isName = true := by
  cases d <;> try (cases h; done)
  rename_i ds
  unfold isLot at h
  simp only [Bool.and_eq_true] at h
  exact ⟨ds, rfl, h.1.2⟩
end
section
set_option maxHeartbeats 1000000
/-! k01: wide lots, the law. -/

open PySem L2 DL Co

theorem ltS_irrefl (a : Str) : ltS a a = false := decide_eq_false (List.lt_irrefl _)
theorem ltS_trans {a b c : Str} (h1 : ltS a b = true) (h2 : ltS b c = true) : ltS a c = true := decide_eq_true (List.lt_trans (of_decide_eq_true h1) (of_decide_eq_true h2))
theorem ltS_asymm {a b : Str} (h1 : ltS a b = true) : ltS b a = false := by
  cases h : ltS b a with
  | false => rfl
  | true => have := ltS_trans h1 h; rw [ltS_irrefl] at this; cases this
theorem asc_cons (x y : D) (r : List D) : asc (x :: y :: r) = (ltDD x y && asc (y :: r)) := rfl
theorem asc_pw : ∀ {xs : List Str}, asc (xs.map .str) = true ↔ xs.Pairwise fun a b => ltS a b = true
  | [] => ⟨fun _ => .nil, fun _ => rfl⟩
  | [x] => ⟨fun _ => List.pairwise_singleton _ _, fun _ => rfl⟩
  | x :: y :: r => by
    have ih := asc_pw (xs := y :: r)
    rw [List.map_cons, List.map_cons, asc_cons, Bool.and_eq_true]
    have ih' : asc (.str y :: r.map .str) = true ↔ (y :: r).Pairwise fun a b => ltS a b = true := ih
    rw [ih']
    constructor
    · rintro ⟨h1, h2⟩
      have h1 : ltS x y = true := h1
      refine List.pairwise_cons.mpr ⟨fun z hz => ?_, h2⟩
      rcases List.mem_cons.mp hz with rfl | hz
      · exact h1
      · exact ltS_trans h1 (List.rel_of_pairwise_cons h2 hz)
    · intro h
      exact ⟨List.rel_of_pairwise_cons h List.mem_cons_self, (List.pairwise_cons.mp h).2⟩
theorem sortS_pw {xs : List Str} (hn : xs.Nodup) : (sortS xs).Pairwise fun a b => ltS a b = true := by
  have h2 : (sortS xs).Pairwise fun a b => (!ltS b a) = true := List.pairwise_mergeSort (le := fun a b => !ltS b a) (fun a b c h1 h2 => leS_trans (a := a) (b := b) (c := c) h1 h2) (fun a b => ltS_total a b) xs
  have h3 : (sortS xs).Pairwise fun a b => a ≠ b := (sortS_perm xs).nodup_iff.mpr hn
  refine (h2.and h3).imp fun {a b} h => ?_
  obtain ⟨h4, h5⟩ := h
  rw [Bool.not_eq_true'] at h4
  cases h : ltS a b with
  | true => rfl
  | false => exact absurd (ltS_antisymm h4 h) h5
theorem Nm.isName {x : Str} (h : Nm x) : isName (.str x) = true := by
  unfold DM.isName
  dsimp only
  rw [decide_eq_true h.2.1, decide_eq_true h.2.2]
  simp only [Bool.and_self, Bool.true_and]
  rw [List.all_eq_true]
  intro c hc
  have hl := h.1 c hc
  have : ∀ c, c < 123 → 97 ≤ c → c ∈ lts := by decide
  exact decide_eq_true (this c (by omega) hl.1)
theorem isLot_strs {zs : List Str} (h0 : zs ≠ []) (hn : ∀ z ∈ zs, Nm z) : isLot (.tup (zs.map .str)) = asc (zs.map .str) := by
  unfold isLot
  dsimp only
  have e1 : (zs.map D.str).isEmpty = false := by cases zs with
    | nil => exact absurd rfl h0
    | cons _ _ => rfl
  have e2 : (zs.map D.str).all isName = true := by
    rw [List.all_eq_true]
    intro d hd
    obtain ⟨z, hz, rfl⟩ := List.mem_map.mp hd
    exact (hn z hz).isName
  rw [e1, e2]
  rfl
end
section
set_option maxHeartbeats 1000000
/-! k02: two lots. -/

open PySem L2 DL Co

/-- names as a tuple -/
def tupS (xs : List Str) : D := .tup (xs.map .str)
def inQ (q : List Str) : D → Bool
  | .str x => decide (x ∈ q)
  | _ => false
theorem comp_nin {i j : Nat} {ρ : Ev} {st : S} {p q : List Str} {A : D} {Q : List D → S → Prop} (hA : A = tupS q ∨ A = .lst (q.map .str)) (hi : i < ρ.length) (hj : ρ[j]? = some (.sh A)) (hij : i ≠ j) (h : Q ((p.filter fun x => !decide (x ∈ q)).map .str) st) :
    Ok (compD (.nm i) (dTB (dBin nInD (dVar i) (dVar j))) (dVar i) ρ (p.map .str) st) Q := by
  refine ok_eq (comp_pure (fun d => !inQ q d) id fun d hd => ?_) ?_
  · obtain ⟨x, _, rfl⟩ := List.mem_map.mp hd
    have e1 : (ρ.set i (.sh (.str x)))[i]? = some (.sh (.str x)) := List.getElem?_set_self hi
    have e2 : (ρ.set i (.sh (.str x)))[j]? = some (.sh A) := by rw [List.getElem?_set_ne hij]; exact hj
    refine ⟨_, rfl, ?_, fun _ => ?_⟩
    · refine eq_of (k_tb (k_bin (k_var e1 (k_var e2 ?_))))
      rcases hA with rfl | rfl
      · refine o_nInT (by rw [flat_strs]; rfl) ⟨_, rfl, ?_, rfl⟩
        rw [any_str]; rfl
      · refine o_nInL (by rw [flat_strs]; rfl) (fun _ z => nomatch z) ⟨_, rfl, ?_, rfl⟩
        rw [any_str]; rfl
    · exact eq_of (k_var e1 ⟨rfl, rfl⟩)
  · have : ((p.map D.str).filter fun d => !inQ q d).map id = (p.filter fun x => !decide (x ∈ q)).map .str := by
      rw [List.map_id, List.filter_map]
      rfl
    rw [this]
    exact h
theorem comp_ins {i j : Nat} {ρ : Ev} {st : S} {p q : List Str} {A : D} {Q : List D → S → Prop} (hA : A = tupS q ∨ A = .lst (q.map .str)) (hi : i < ρ.length) (hj : ρ[j]? = some (.sh A)) (hij : i ≠ j) (h : Q ((p.map fun x => decide (x ∈ q)).map .bl) st) :
    Ok (compD (.nm i) tTrue (dBin inD (dVar i) (dVar j)) ρ (p.map .str) st) Q := by
  refine ok_eq (comp_map (fun d => .bl (inQ q d)) fun d hd => ?_) ?_
  · obtain ⟨x, _, rfl⟩ := List.mem_map.mp hd
    have e1 : (ρ.set i (.sh (.str x)))[i]? = some (.sh (.str x)) := List.getElem?_set_self hi
    have e2 : (ρ.set i (.sh (.str x)))[j]? = some (.sh A) := by rw [List.getElem?_set_ne hij]; exact hj
    refine ⟨_, rfl, ?_⟩
    refine eq_of (k_bin (k_var e1 (k_var e2 ?_)))
    rcases hA with rfl | rfl
    · refine o_inT (by rw [flat_strs]; rfl) ⟨?_, rfl⟩
      rw [any_str]; rfl
    · refine o_inL (by rw [flat_strs]; rfl) (fun _ z => nomatch z) ⟨?_, rfl⟩
      rw [any_str]; rfl
  · rw [List.map_map] at h ⊢
    exact h
def bothS (p q : List Str) : List Str := p.filter fun x => decide (x ∈ q)
def lessS (p q : List Str) : List Str := p.filter fun x => !decide (x ∈ q)
def unionS (p q : List Str) : List Str := sortS (p ++ lessS q p)
section
variable {p q : List Str} {st : S} {Q : D → S → Prop}
theorem k_rest (hp : p.length ≤ 1000) (h : Q (tupS (lessS p q)) st) : Ok (sem_rest [tupS p, tupS q] st) Q := by
  refine ok_sem rfl ?_
  unfold den_rest
  walk_at "s"
  unfold tupS
  walk_at "s"
  refine ⟨small (by rw [List.length_map]; omega), comp_nin (.inl rfl) (Nat.lt_succ_self 2) rfl (by decide) ?_⟩
  walk_at "s"
  exact h
theorem sortS_congr {xs ys : List Str} (h : xs.Perm ys) : sortS xs = sortS ys := by
  have h1 : (sortS xs).Pairwise fun a b => (!ltS b a) = true := List.pairwise_mergeSort (le := fun a b => !ltS b a) (fun a b c h1 h2 => leS_trans (a := a) (b := b) (c := c) h1 h2) (fun a b => ltS_total a b) xs
  have h2 : (sortS ys).Pairwise fun a b => (!ltS b a) = true := List.pairwise_mergeSort (le := fun a b => !ltS b a) (fun a b c h1 h2 => leS_trans (a := a) (b := b) (c := c) h1 h2) (fun a b => ltS_total a b) ys
  refine List.Perm.eq_of_pairwise (fun a b _ _ h3 h4 => ?_) h1 h2 (((sortS_perm xs).trans h).trans (sortS_perm ys).symm)
  rw [Bool.not_eq_true'] at h3 h4
  exact ltS_antisymm h3 h4
theorem both_len (hp : p.Nodup) (hq : q.Nodup) : (bothS p q).length = (bothS q p).length := by
  refine ((List.perm_ext_iff_of_nodup (hp.filter _) (hq.filter _)).mpr fun x => ?_).length_eq
  rw [List.mem_filter, List.mem_filter]
  simp only [decide_eq_true_eq]
  exact And.comm
end
end
section
set_option maxHeartbeats 1000000
/-! k02: what is told of two lots. -/

open PySem L2 DL Co

section
variable {p q : List Str} {st : S} {Q : D → S → Prop}
def crossB (p q : List Str) : Bool := !(bothS p q).isEmpty && (!(lessS p q).isEmpty && !(lessS q p).isEmpty)
theorem emp_len {α : Type} (l : List α) : l.isEmpty = decide (l.length = 0) := by cases l <;> simp
theorem pl_tupS {xs : List Str} (hx : ∀ x ∈ xs, Nm x) (hl : xs.length ≤ 1000) : pl 1 (tupS xs) = true := pl_tup.mpr ⟨by rw [List.length_map]; exact hl, fun d hd => by obtain ⟨x, h, rfl⟩ := List.mem_map.mp hd; rw [pl_str]; exact (hx x h).plS⟩
theorem eqd_tup0 (xs : List Str) : eqd (tupS xs) (.tup []) = xs.isEmpty := by
  cases xs with
  | nil => rfl
  | cons a r => rfl
theorem k_eqT {xs : List Str} (hx : ∀ x ∈ xs, Nm x) (hl : xs.length ≤ 1000) (h : Q (.bl xs.isEmpty) st) : Ok (eqD (tupS xs) (.tup []) st) Q := by
  refine o_eq (pl_okd (pl_tupS hx hl) (by decide)) (by decide) (fun _ z => nomatch z) (fun _ z => nomatch z) ?_
  rw [eqd_tup0]
  exact h
theorem Nm.less (hx : ∀ x ∈ p, Nm x) : ∀ x ∈ lessS p q, Nm x := fun x h => hx x (List.mem_filter.mp h).1
/-- a lot: names, ascending -/
structure Lot (p : List Str) : Prop where
  ne : p ≠ []
  nm : ∀ x ∈ p, Nm x
  pw : p.Pairwise fun a b => ltS a b = true
theorem Lot.nd (h : Lot p) : p.Nodup := h.pw.imp fun {a b} hab e => by
  rw [e, ltS_irrefl] at hab
  cases hab
theorem Nm.union (hx : ∀ x ∈ p, Nm x) (hy : ∀ x ∈ q, Nm x) : ∀ x ∈ unionS p q, Nm x := fun x h => by
  rcases List.mem_append.mp ((sortS_perm _).mem_iff.mp h) with h | h
  · exact hx x h
  · exact Nm.less hy x h
end
end
section
set_option maxHeartbeats 1000000
/-! k02: lot_of and what it raises. -/

open PySem L2 DL Co

/-! ### the first wrong item -/
/-- all are names -/
theorem names_of {ds : List D} (h : ds.all isName = true) : ∃ xs : List Str, ds = xs.map .str ∧ ∀ x ∈ xs, isName (.str x) = true := by
  induction ds with
  | nil => exact ⟨[], rfl, fun _ z => by cases z⟩
  | cons d r ih =>
    rw [List.all_cons, Bool.and_eq_true] at h
    obtain ⟨x, rfl⟩ := isName_str h.1
    obtain ⟨xs, rfl, hx⟩ := ih h.2
    refine ⟨x :: xs, rfl, fun y hy => ?_⟩
    rcases List.mem_cons.mp hy with rfl | hy
    · exact h.1
    · exact hx y hy
theorem Nm_of {x : Str} (h : isName (.str x) = true) : Nm x := by
  unfold isName at h
  dsimp only at h
  simp only [Bool.and_eq_true, decide_eq_true_eq] at h
  obtain ⟨⟨h1, h2⟩, h3⟩ := h
  refine ⟨fun c hc => ?_, h1, h2⟩
  have := List.all_eq_true.mp h3 c hc
  have hm := of_decide_eq_true this
  have : ∀ c ∈ lts, 97 ≤ c ∧ c ≤ 122 := by decide
  exact this c hm
end
section
set_option maxHeartbeats 1000000
/-! k02: what is due of lot_of; drawing. -/

open PySem L2 DL Co

/-! ### first occurrences -/
theorem ed_len (xs : List Str) : xs.eraseDups.length ≤ xs.length := nodup_le (nodup_ed _ xs (Nat.le_refl _)) fun x h => List.mem_eraseDups.mp h
/-! ### what is due -/
theorem len_at {A : D} {ds : List D} {st : S} {Q : D → S → Prop} (hA : A = .lst ds ∨ A = .tup ds) (q : Q (.int ds.length) st) : Ok (lenD A st) Q := by
  rcases hA with rfl | rfl
  · exact o_lenL q
  · exact o_lenT q
end
section
set_option maxHeartbeats 1000000
/-! k02: the law. -/

open PySem L2 DL Co

/-! ### drawing -/
theorem Lot.len {p xs : List Str} (h : Lot p) (hs : ∀ x ∈ p, x ∈ xs) : p.length ≤ xs.length := nodup_le h.nd hs
theorem Lot.pos {p : List Str} (h : Lot p) : 0 < p.length := List.length_pos_iff.mpr h.ne
end
section
set_option maxHeartbeats 1000000
/-! The laws' own sameness, where what is told lies in the store. -/

open PySem L2 DL Co

theorem view_ref {i : Nat} {ds : List D} {st : S} (e : st[i]? = some (.lst ds)) : view (.ref i) st = .lst ds := by
  unfold view
  dsimp only
  rw [e]
theorem o_isiR {i : Nat} {ds : List D} {n : String} {st : S} {Q : D → S → Prop} (e : st[i]? = some (.lst ds)) (hn : tyNames.contains n = true) (q : Q (.bl (isI (.lst ds) n)) st) : Ok (isiD [.ref i, .ty n] st) Q := by
  refine ⟨_, _, ?_, q⟩
  unfold isiD
  dsimp only
  rw [view_ref e, hn]
  rfl
theorem o_lenR {i : Nat} {ds : List D} {st : S} {Q : D → S → Prop} (e : st[i]? = some (.lst ds)) (q : Q (.int ds.length) st) : Ok (lenD (.ref i) st) Q := by
  refine ⟨_, _, ?_, q⟩
  unfold lenD
  rw [view_ref e]
/-- what is told, seen through the store -/
def See (st : S) (e d : D) : Prop := (e = d ∧ pl 9 d = true) ∨ ∃ i ds, e = .ref i ∧ d = .lst ds ∧ st[i]? = some (.lst ds) ∧ pl 9 (.lst ds) = true
end
section
set_option maxHeartbeats 1000000
/-! Stretches of an order. -/

open PySem L2 DL Co

theorem idx_true (bs : List Bool) : ((bs.map D.bl).findIdx? fun z => eqd z (.bl true)) = bs.findIdx? id := by
  rw [List.findIdx?_map]
  congr 1
  funext b
  cases b <;> rfl
theorem flat_bls (bs : List Bool) : (bs.map D.bl).all flatD = true := by
  rw [List.all_eq_true]
  intro d hd
  obtain ⟨b, _, rfl⟩ := List.mem_map.mp hd
  rfl
theorem stretch_ok {xs ls : List Str} {i j : Nat} {st : S} {Q : D → S → Prop} (hx : xs.length ≤ 60) (hi : (xs.map fun x => decide (x ∈ ls)).findIdx? id = some i) (hj : (xs.map fun x => decide (x ∈ ls)).reverse.findIdx? id = some j)
    (q : Q (.tup (cutL (xs.map .str) (some i) (some ((xs.length : Int) - j)))) st) : Ok (sem_stretch_of [.tup (xs.map .str), .tup (ls.map .str)] st) Q := by
  refine ok_sem rfl ?_
  unfold den_stretch_of
  walk_at "s"
  refine ⟨small (by rw [List.length_map]; omega), ?_⟩
  refine comp_ins (i := 3) (j := 1) (.inl rfl) (by simp [wipeE]) rfl (by decide) ?_
  walk_at "s"
  refine k_indexL ?_
  walk_at "s"
  refine o_idxL (by rw [flat_bls]; rfl) (by rw [idx_true]; exact hi) ?_
  refine ⟨_, rfl, ?_⟩
  walk_at "s"
  refine k_indexL ?_
  walk_at "s"
  refine o_idxL (j := j) (by rw [← List.map_reverse, flat_bls]; rfl) (by rw [← List.map_reverse, idx_true]; exact hj) ?_
  walk_at "s"
  rw [List.length_map]
  exact q
theorem k_lcRef {t : Tg} {vs : List Nat} {fi : Ev → S → R (List D)} {tt : Ev → S → R Bool} {te : Ev → S → R D} {ρ : Ev} {st : S} {Q : D → S → Prop} (h : Ok (fi ρ st) fun ds s => ds.length ≤ sizeLine ∧ Ok (compD t tt te (wipeE ρ vs) ds s) fun ys s => Q (.ref s.length) (s ++ [.lst ys])) : Ok (dLcRef t vs fi tt te ρ st) Q := by
  obtain ⟨ds, s, e, hl, ys, s', e2, q⟩ := h
  unfold dLcRef dLcG
  rw [e, R.bind_ok, if_pos hl, e2, R.bind_ok]
  exact ⟨_, _, rfl, q⟩
/-- the stretch of an order -/
def strS (xs : List Str) (i j : Nat) : List Str := cutL xs (some (i : Int)) (some ((xs.length : Int) - j))
theorem stretch_ok2 {xs ls : List Str} {i j : Nat} {st : S} {Q : D → S → Prop} (hx : xs.length ≤ 60) (hi : (xs.map fun x => decide (x ∈ ls)).findIdx? id = some i) (hj : (xs.map fun x => decide (x ∈ ls)).reverse.findIdx? id = some j)
    (q : Q (.tup ((strS xs i j).map .str)) st) : Ok (sem_stretch_of [.tup (xs.map .str), .tup (ls.map .str)] st) Q := stretch_ok hx hi hj (by rw [cutL_map]; exact q)
theorem keeps_ok {xs ls : List Str} {i j : Nat} {st : S} {Q : D → S → Prop} (hx : xs.length ≤ 60) (hi : (xs.map fun x => decide (x ∈ ls)).findIdx? id = some i) (hj : (xs.map fun x => decide (x ∈ ls)).reverse.findIdx? id = some j)
    (q : Q (.bl (decide (((strS xs i j).length : Int) = ls.length))) st) : Ok (sem_keeps [.tup (xs.map .str), .tup (ls.map .str)] st) Q := by
  refine ok_sem rfl ?_
  unfold den_keeps
  walk_at "s"
  refine stretch_ok2 hx hi hj ?_
  walk_at "s"
  rw [List.length_map, List.length_map]
  exact q
end
section
set_option maxHeartbeats 1000000
/-! k03: gaps of a lot in an order, by the first and the last of its finds. -/

open PySem L2 DL Co

/-- a list cut at the first and the last of some of its items -/
structure Cut {α : Type} (p : α → Bool) (a m b : List α) : Prop where
  na : ∀ x ∈ a, p x = false
  nb : ∀ x ∈ b, p x = false
  hd : ∃ y r, m = y :: r ∧ p y = true
  lt : ∃ r z, m = r ++ [z] ∧ p z = true
section
variable {α : Type} {p : α → Bool}
theorem split1 : ∀ {xs : List α}, (∃ x ∈ xs, p x = true) → ∃ a y r, xs = a ++ y :: r ∧ (∀ x ∈ a, p x = false) ∧ p y = true
  | [], h => by obtain ⟨x, h, _⟩ := h; cases h
  | x :: xs, h => by
    cases e : p x with
    | true => exact ⟨[], x, xs, rfl, (fun _ z => nomatch z), e⟩
    | false =>
      obtain ⟨y, hy, py⟩ := h
      obtain ⟨a, z, r, e1, e2, e3⟩ := split1 (xs := xs) ⟨y, by
        rcases List.mem_cons.mp hy with rfl | h
        · rw [e] at py; cases py
        · exact h, py⟩
      refine ⟨x :: a, z, r, by rw [e1]; rfl, fun w hw => ?_, e3⟩
      rcases List.mem_cons.mp hw with rfl | h
      · exact e
      · exact e2 w h
theorem cut_of {xs : List α} (h : ∃ x ∈ xs, p x = true) : ∃ a m b, xs = a ++ m ++ b ∧ Cut p a m b := by
  obtain ⟨a, y, r, e1, e2, e3⟩ := split1 h
  obtain ⟨b, z, q, f1, f2, f3⟩ := split1 (p := p) (xs := (y :: r).reverse) ⟨y, by simp, e3⟩
  have e : y :: r = q.reverse ++ [z] ++ b.reverse := by
    have := congrArg List.reverse f1
    rw [List.reverse_reverse] at this
    rw [this]
    simp
  refine ⟨a, q.reverse ++ [z], b.reverse, by rw [e1, e, List.append_assoc, List.append_assoc, List.append_assoc], e2, fun x hx => f2 x (List.mem_reverse.mp hx), ?_, _, _, rfl, f3⟩
  cases hq : q.reverse with
  | nil => exact ⟨z, [], rfl, f3⟩
  | cons w s =>
    rw [hq] at e
    have : y = w := by simpa using congrArg List.head? e
    exact ⟨w, s ++ [z], rfl, this ▸ e3⟩
theorem Cut.rev {a m b : List α} (h : Cut p a m b) : Cut p b.reverse m.reverse a.reverse := by
  obtain ⟨y, r, e1, e2⟩ := h.hd
  obtain ⟨s, z, f1, f2⟩ := h.lt
  refine ⟨fun x hx => h.nb x (List.mem_reverse.mp hx), fun x hx => h.na x (List.mem_reverse.mp hx), ⟨z, s.reverse, by rw [f1]; simp, f2⟩, ⟨r.reverse, y, by rw [e1]; simp, e2⟩⟩
theorem Cut.first {a m b : List α} (h : Cut p a m b) : ((a ++ m ++ b).map p).findIdx? id = some a.length := by
  obtain ⟨y, r, e1, e2⟩ := h.hd
  have hna := h.na
  rw [e1]
  clear h
  induction a with
  | nil => simp [List.findIdx?_cons, e2]
  | cons x a ih =>
    have := ih (fun w hw => hna w (List.mem_cons_of_mem _ hw))
    rw [List.cons_append, List.cons_append, List.map_cons, List.findIdx?_cons, hna x List.mem_cons_self, this]
    rfl
theorem Cut.last {a m b : List α} (h : Cut p a m b) : ((a ++ m ++ b).map p).reverse.findIdx? id = some b.length := by
  have := h.rev.first
  rw [List.length_reverse] at this
  rw [← this, ← List.map_reverse]
  congr 2
  simp
theorem filt_none {a : List α} (h : ∀ x ∈ a, p x = false) : a.filter p = [] := by
  rw [List.filter_eq_nil_iff]
  intro x hx
  rw [h x hx]
  decide
theorem Cut.inn {a m b : List α} (h : Cut p a m b) : (a ++ m ++ b).filter p = m.filter p := by
  rw [List.filter_append, List.filter_append, filt_none h.na, filt_none h.nb, List.nil_append, List.append_nil]
theorem Cut.out {a m b r : List α} {z : α} (e : m = r ++ [z]) (hz : p z = true) : m.filter (fun x => !p x) = r.filter fun x => !p x := by
  rw [e, List.filter_append]
  simp [hz]
theorem filt_len (m : List α) : (m.filter p).length + (m.filter fun x => !p x).length = m.length := by
  induction m with
  | nil => rfl
  | cons x m ih =>
    rw [List.filter_cons, List.filter_cons]
    cases p x <;> simp <;> omega
end
theorem small_and {n : Nat} {P : Prop} (h : n ≤ 1000000) (p : P) : n ≤ sizeLine ∧ P := ⟨small h, p⟩
theorem len3 {α β : Type} {ds : List α} {es : List β} {n m : Nat} {P : Prop} (h1 : ds.length = n) (h2 : es.length = m) (p : P) : ds.length = n ∧ es.length = m ∧ P := ⟨h1, h2, p⟩
theorem cT {A B : Prop} (h : A) : (true = true → A) ∧ (true = false → B) := ⟨fun _ => h, fun z => by cases z⟩
theorem len2 {α β : Type} {ds : List α} {es : List β} {P : Prop} (h1 : ds.length = es.length) (p : P) : ds.length = es.length ∧ P := ⟨h1, p⟩
def inP (ls : List Str) : Str → Bool := fun x => decide (x ∈ ls)
theorem cut_mid {α : Type} (a m b : List α) : cutL (a ++ m ++ b) (some (a.length : Int)) (some (((a ++ m ++ b).length : Int) - b.length)) = m := by
  have e : (((a ++ m ++ b).length : Int) - b.length) = ((a.length + m.length : Nat) : Int) := by simp only [List.length_append]; omega
  rw [e]
  unfold cutL
  rw [HT.sIx_nat, HT.sIx_nat, Nat.min_eq_left (by simp only [List.length_append]; omega), Nat.min_eq_left (by simp only [List.length_append]; omega), List.append_assoc, List.drop_left, Nat.add_sub_cancel_left, List.take_left]

/-- an order cut by a lot -/
structure OC (xs ls a m b : List Str) : Prop where
  e : xs = a ++ m ++ b
  c : Cut (inP ls) a m b
theorem OC.fst {xs ls a m b : List Str} (h : OC xs ls a m b) : (xs.map fun x => decide (x ∈ ls)).findIdx? id = some a.length := by rw [h.e]; exact h.c.first
theorem OC.lst {xs ls a m b : List Str} (h : OC xs ls a m b) : (xs.map fun x => decide (x ∈ ls)).reverse.findIdx? id = some b.length := by rw [h.e]; exact h.c.last
theorem OC.str {xs ls a m b : List Str} (h : OC xs ls a m b) : strS xs a.length b.length = m := by rw [h.e]; exact cut_mid a m b
theorem OC.rev {xs ls a m b : List Str} (h : OC xs ls a m b) : OC xs.reverse ls b.reverse m.reverse a.reverse := ⟨by rw [h.e]; simp, h.c.rev⟩
/-- the gaps -/
def gapS (ls m : List Str) : List Str := m.filter fun x => !decide (x ∈ ls)
theorem OC.len {xs ls a m b : List Str} (h : OC xs ls a m b) (nx : xs.Nodup) (nl : ls.Nodup) (hs : ∀ x ∈ ls, x ∈ xs) : m.length = ls.length + (gapS ls m).length := by
  have h1 := filt_len (p := inP ls) m
  have h2 : (m.filter (inP ls)).length = ls.length := by
    rw [← h.c.inn, ← h.e]
    have := both_len (p := xs) (q := ls) nx nl
    unfold bothS at this
    unfold inP
    rw [this, List.filter_eq_self.mpr]
    intro x hx
    exact decide_eq_true (hs x hx)
  have h3 : (gapS ls m).length = (m.filter fun x => !inP ls x).length := rfl
  omega
theorem OC.keep {xs ls a m b : List Str} (h : OC xs ls a m b) (nx : xs.Nodup) (nl : ls.Nodup) (hs : ∀ x ∈ ls, x ∈ xs) : decide (((strS xs a.length b.length).length : Int) = ls.length) = (gapS ls m).isEmpty := by
  rw [h.str, h.len nx nl hs, emp_len]
  congr 1
  apply propext
  constructor <;> intro h <;> omega
section
variable {xs ls a m b : List Str} {st : S} {Q : D → S → Prop}
theorem k_keeps (h : OC xs ls a m b) (hx : xs.length ≤ 60) (nx : xs.Nodup) (nl : ls.Nodup) (hs : ∀ x ∈ ls, x ∈ xs) (q : Q (.bl (gapS ls m).isEmpty) st) : Ok (sem_keeps [tupS xs, tupS ls] st) Q := keeps_ok hx h.fst h.lst (by rw [h.keep nx nl hs]; exact q)
end
/-! ### the law's own gaps -/
def spP (xs ls : List Str) (k : Nat) : Bool := decide (xs.getD k (T []) ∈ ls)
def spots (xs ls : List Str) : List Int := ((List.range xs.length).filter (spP xs ls)).map fun (k : Nat) => (k : Int)
theorem getD_mid {a m b : List Str} {i : Nat} (h : i < m.length) : (a ++ m ++ b).getD (a.length + i) (T []) = m.getD i (T []) := by
  rw [List.getD_eq_getElem?_getD, List.getD_eq_getElem?_getD, List.append_assoc, List.getElem?_append_right (by omega), Nat.add_sub_cancel_left, List.getElem?_append_left h]
theorem mem_spots {xs ls : List Str} {j : Int} : j ∈ spots xs ls ↔ ∃ k : Nat, k < xs.length ∧ xs.getD k (T []) ∈ ls ∧ j = k := by
  unfold spots spP
  rw [List.mem_map]
  constructor
  · rintro ⟨k, hk, rfl⟩
    rw [List.mem_filter, List.mem_range, decide_eq_true_eq] at hk
    exact ⟨k, hk.1, hk.2, rfl⟩
  · rintro ⟨k, h1, h2, rfl⟩
    exact ⟨k, by rw [List.mem_filter, List.mem_range, decide_eq_true_eq]; exact ⟨h1, h2⟩, rfl⟩
theorem getD_lo {a c : List Str} {i : Nat} (h : i < a.length) : (a ++ c).getD i (T []) ∈ a := by
  rw [List.getD_eq_getElem?_getD, List.getElem?_append_left h, List.getElem?_eq_getElem h]
  exact List.getElem_mem h
theorem getD_hi {a c : List Str} {i : Nat} (h : a.length ≤ i) (h2 : i < (a ++ c).length) : (a ++ c).getD i (T []) ∈ c := by
  rw [List.length_append] at h2
  rw [List.getD_eq_getElem?_getD, List.getElem?_append_right h, List.getElem?_eq_getElem (by omega)]
  exact List.getElem_mem _
theorem OC.min {xs ls a m b : List Str} (h : OC xs ls a m b) : (spots xs ls).min? = some (a.length : Int) := by
  rw [List.min?_eq_some_iff]
  obtain ⟨y, r, e1, e2⟩ := h.c.hd
  have hm : 0 < m.length := by rw [e1]; simp
  refine ⟨mem_spots.mpr ⟨a.length, ?_, ?_, rfl⟩, fun j hj => ?_⟩
  · rw [h.e]; simp only [List.length_append]; omega
  · have := getD_mid (a := a) (b := b) hm
    rw [Nat.add_zero, ← h.e] at this
    rw [this, e1]
    exact of_decide_eq_true e2
  · obtain ⟨k, h1, h2, rfl⟩ := mem_spots.mp hj
    by_cases hk : k < a.length
    · have h3 : xs.getD k (T []) ∈ a := by rw [h.e, List.append_assoc]; exact getD_lo hk
      have := h.c.na _ h3
      unfold inP at this
      rw [decide_eq_false_iff_not] at this
      exact absurd h2 this
    · omega
theorem OC.max {xs ls a m b : List Str} (h : OC xs ls a m b) : (spots xs ls).max? = some ((a.length + (m.length - 1) : Nat) : Int) := by
  rw [List.max?_eq_some_iff]
  obtain ⟨r, z, e1, e2⟩ := h.c.lt
  have hm : m.length = r.length + 1 := by rw [e1]; simp
  refine ⟨mem_spots.mpr ⟨a.length + (m.length - 1), ?_, ?_, rfl⟩, fun j hj => ?_⟩
  · rw [h.e]; simp only [List.length_append]; omega
  · rw [h.e, getD_mid (by omega), hm, Nat.add_sub_cancel, e1, List.getD_eq_getElem?_getD, List.getElem?_append_right (Nat.le_refl _), Nat.sub_self]
    exact of_decide_eq_true e2
  · obtain ⟨k, h1, h2, rfl⟩ := mem_spots.mp hj
    by_cases hk : a.length + m.length ≤ k
    · have h3 : xs.getD k (T []) ∈ b := by rw [h.e]; exact getD_hi (by rw [List.length_append]; exact hk) (by rw [← h.e]; exact h1)
      have := h.c.nb _ h3
      unfold inP at this
      rw [decide_eq_false_iff_not] at this
      exact absurd h2 this
    · omega
end
section
set_option maxHeartbeats 1000000
/-! k03: all about a lot in an order is told as it is. -/

open PySem L2 DL Co
end
open PySem L2 DL Co
set_option synthInstance.maxSize 100000
set_option synthInstance.maxHeartbeats 2000000
local macro_rules | `(tactic| walk_at "t") => `(tactic| repeat (first
  | refine Wk.out (n := 1) ?_
  | ((with_reducible refine' k_var ?ev ?_); (case ev => rfl)) | ((with_reducible refine' k_own ?ev ?_); (case ev => rfl))
  | ((with_reducible refine o_isi ?ty ?nm ?_); (case ty => first | rfl | assumption); (case nm => rfl)) | ((with_reducible refine o_isiT ?ty ?nm ?_); (case ty => first | rfl | assumption); (case nm => decide))
  | ((with_reducible refine' o_ixR ?ev ?hv ?_); (case ev => first | exact st_at _ _ _ | rfl); (case hv => rfl))
  | ((with_reducible refine' small_and ?l1 ?_); (case l1 => first | (simp; done) | (simp only [List.length_map]; omega)))
  | ((with_reducible refine' len3 ?l1 ?l2 ?_); (case l1 => rfl); (case l2 => rfl))
  | ((with_reducible refine' len2 ?l1 ?_); (case l1 => rfl))
  | with_reducible refine k_lcRef ?_
  | with_reducible refine ⟨_, rfl, ?_⟩))
section
set_option maxHeartbeats 1000000
open PySem L2 DL Co
theorem OC.mem {xs ls a m b : List Str} (h : OC xs ls a m b) {x : Str} (hx : x ∈ m) : x ∈ xs := by rw [h.e]; simp [hx]
theorem See.pl {st : S} {d : D} (h : DM.pl 9 d = true) : See st d d := .inl ⟨rfl, h⟩
end
section
set_option maxHeartbeats 1000000
/-! k03: places, orders judged, things like orders. -/

open PySem L2 DL Co

/-! ### places -/
theorem k_place {xs : List Str} {x : Str} {j : Nat} {st : S} {Q : D → S → Prop} (h : x ∈ xs) (e : (xs.findIdx? fun y => decide (y = x)) = some j) (q : Q (.int j) st) : Ok (sem_place_in [tupS xs, .str x] st) Q := by
  refine ok_sem rfl ?_
  unfold den_place_in tupS
  walk_at "t"
  refine ⟨fun z => by simp [isI] at z, fun _ => ?_⟩
  walk_at "t"
  refine o_nInT (by rw [flat_strs]; rfl) ⟨_, rfl, ?_⟩
  rw [any_str, decide_eq_true h]
  refine ⟨fun z => (by cases z), fun _ => ?_⟩
  walk_at "t"
  refine k_indexT ?_
  walk_at "t"
  exact o_idxT e q
/-- the error of a find -/
def xFind (d : D) : Exn := ⟨34, [("code", .str "UnknownFind"), ("name", d)]⟩
theorem place_no {n : Nat} {xs : List Str} {d : D} {st : S} (hp : pl n d = true) (h : ∀ x, d = .str x → x ∉ xs) : sem_place_in [tupS xs, d] st = .ex (xFind d) st := by
  suffices h : OkE (sem_place_in [tupS xs, d] st) (fun _ _ => False) fun x s => x = xFind d ∧ s = st by
    obtain ⟨x, s, e, rfl, rfl⟩ := h.ex
    exact e
  refine oke_sem rfl ?_
  unfold den_place_in tupS
  have ht := pl_ty_ok hp
  walk_at "t"
  have raise : ∀ (b : Bool), b = true → (b = true → GoE (sRaise 34 1 [("name", .par 0), ("code", .txt "UnknownFind")] (dCons (dVar 1) dNil) (List.map Sl.sh [D.tup (xs.map .str), d] ++ List.replicate (2 - [D.tup (xs.map .str), d].length) Sl.no) st) (fun ρ s => GoE (sRet (dIndex (dVar 0) (dVar 1)) ρ s) (fun _ s => False) (fun _ _ => False) fun x s => x = xFind d ∧ s = st) (fun _ _ => False) fun x s => x = xFind d ∧ s = st) := by
    intro b _ _
    walk_at "t"
    exact ⟨rfl, _, rfl, rfl, rfl⟩
  refine ⟨fun z => ⟨raise true rfl, fun z => by cases z⟩, fun z => ?_⟩
  cases d with
  | str x =>
    walk_at "t"
    refine o_nInT (by rw [flat_strs]; rfl) ?_
    rw [any_str, decide_eq_false (h x rfl)]
    exact ⟨_, rfl, raise _ rfl, fun z => by cases z⟩
  | _ => simp [isI] at z
/-! ### orders -/
theorem perm_of_sub {α : Type} [DecidableEq α] : ∀ {xs zs : List α}, xs.Nodup → (∀ x ∈ xs, x ∈ zs) → zs.length = xs.length → xs.Perm zs
  | [], zs, _, _, hl => by
    have : zs = [] := List.length_eq_zero_iff.mp hl
    rw [this]
  | x :: xs, zs, hn, hs, hl => by
    have hx := hs x List.mem_cons_self
    have p := List.perm_cons_erase hx
    have hn2 := List.nodup_cons.mp hn
    have : xs.Perm (zs.erase x) := perm_of_sub hn2.2 (fun y hy => by
      have := hs y (List.mem_cons_of_mem _ hy)
      rcases List.mem_cons.mp (p.subset this) with e | h
      · rw [e] at hy; exact absurd hy hn2.1
      · exact h) (by
      have := p.length_eq
      simp only [List.length_cons] at this hl
      omega)
    exact (this.cons x).trans p.symm
theorem eqvAll_str2 : ∀ xs ys : List Str, PyData.eqvAll (pys (xs.map D.str)) (pys (ys.map D.str)) = decide (xs = ys)
  | [], [] => rfl
  | [], y :: ys => rfl
  | x :: xs, [] => rfl
  | x :: xs, y :: ys => by
    rw [List.map_cons, List.map_cons]
    unfold pys PyData.eqvAll py PyData.eqv
    rw [eqvAll_str2 xs ys, Bool.beq_eq_decide_eq]
    by_cases h1 : x = y <;> by_cases h2 : xs = ys <;> simp [h1, h2]
theorem eqd_str2 (xs ys : List Str) : eqd (.lst (xs.map .str)) (.lst (ys.map .str)) = decide (xs = ys) := by
  unfold eqd py PyData.eqv
  exact eqvAll_str2 xs ys
/-- an order of a pool -/
def isOrd (pool : List Str) : D → Bool
  | .tup ds => (match strsOf ds with
    | some zs => decide (zs.length = pool.length) && pool.all fun x => decide (x ∈ zs)
    | none => false)
  | _ => false
theorem strsOf_none {ds : List D} (h : ds.all (fun d => isI d "str") = false) : strsOf ds = none := by
  cases e : strsOf ds with
  | none => rfl
  | some zs =>
    rw [strsOf_eq e, List.all_map] at h
    have : zs.all ((fun d => isI d "str") ∘ D.str) = true := List.all_eq_true.mpr fun _ _ => rfl
    rw [this] at h
    cases h
theorem comp_str {i : Nat} {ρ : Ev} {st : S} {ds : List D} {n : Nat} {Q : List D → S → Prop} (hp : ∀ d ∈ ds, pl n d = true) (hi : i < ρ.length) (q : Q ((ds.map fun d => isI d "str").map .bl) st) : Ok (compD (.nm i) tTrue (dCall isiD (dCons (dVar i) (dCons (dC (.ty "str")) dNil))) ρ ds st) Q := by
  refine ok_eq (comp_map (fun d => .bl (isI d "str")) fun d hd => ⟨_, rfl, eq_of ?_⟩) (by rw [List.map_map] at q; exact q)
  refine k_call (k_cons (k_var (List.getElem?_set_self hi) (k_cons (k_c (k_nil ?_)))))
  exact o_isi (pl_ty_ok (hp d hd)) rfl ⟨rfl, rfl⟩
theorem all_map_id2 {α : Type} (l : List α) (p : α → Bool) : ((l.map p).all id) = l.all p := by
  rw [List.all_map]; rfl
theorem is_order_eq {n : Nat} {A d : D} {pool : List Str} (h : pl n d = true) (hA : A = .lst (pool.map .str) ∨ A = .tup (pool.map .str)) (hl : pool.length ≤ 60) (st : S) : sem_is_order [A, d] st = .ok (.bl (isOrd pool d)) st := by
  refine eq_of (ok_sem rfl ?_)
  unfold den_is_order
  have ht := pl_ty_ok h
  by_cases hd : ∃ ds, d = .tup ds
  · obtain ⟨ds, rfl⟩ := hd
    have hds : ds.length ≤ 1000 ∧ ∀ e ∈ ds, pl (n - 1) e = true := by
      cases n with
      | zero => cases h
      | succ n => exact pl_tup.mp h
    walk_at "t"
    refine ⟨fun z => by simp [isI] at z, fun _ => ?_⟩
    walk_at "t"
    refine len_at hA ?_
    walk_at "t"
    rw [List.length_map]
    refine ⟨fun z => ?_, fun z => ?_⟩
    · walk_at "t"
      refine ⟨?_, rfl⟩
      unfold isOrd
      dsimp only
      cases e : strsOf ds with
      | none => rfl
      | some zs =>
        have : ds.length = zs.length := by rw [strsOf_eq e, List.length_map]
        dsimp only
        rw [decide_eq_false]
        · rfl
        · intro e2
          rw [Bool.not_eq_true', decide_eq_false_iff_not] at z
          omega
    · rw [Bool.not_eq_false', decide_eq_true_eq] at z
      walk_at "t"
      refine ⟨small (by omega), ?_⟩
      refine comp_str hds.2 (by simp [wipeE]) ?_
      walk_at "t"
      refine o_allB ?_
      rw [all_map_id2]
      walk_at "t"
      refine ⟨fun ha => ?_, fun ha => ?_⟩
      · obtain ⟨zs, rfl⟩ := isStr_list fun d hd => List.all_eq_true.mp ha d hd
        rw [List.length_map] at z
        walk_at "t"
        have go : ∀ {Q : D → S → Prop}, Q (.bl (pool.all fun x => decide (x ∈ zs))) st → Ok (itemsD A st) fun ds s => ds.length ≤ sizeLine ∧ Ok (compD (.nm 2) tTrue (dBin inD (dVar 2) (dVar 1)) (wipeE [Sl.sh A, .sh (.tup (zs.map .str)), .no] [2]) ds s) fun ys s => Ok (one allD [.lst ys] s) Q := by
          intro Q q
          have : ∀ {QL : List D → S → Prop}, QL (pool.map .str) st → Ok (itemsD A st) QL := by
            intro QL q
            rcases hA with rfl | rfl
            · exact o_itemsL q
            · exact o_itemsT q
          refine this ⟨small (by rw [List.length_map]; omega), ?_⟩
          refine comp_ins (i := 2) (j := 1) (.inl rfl) (by simp [wipeE]) rfl (by decide) ?_
          refine k_one (o_allB ?_)
          rw [all_map_id2]
          exact q
        refine (go (Q := fun x s => x = .bl (isOrd pool (.tup (zs.map .str))) ∧ s = st) ⟨?_, rfl⟩).mono fun ds s ⟨h1, h2⟩ => ⟨h1, h2.mono fun ys s q => ?_⟩
        · unfold isOrd
          dsimp only
          rw [strsOf_map]
          dsimp only
          rw [decide_eq_true (by omega)]
          rfl
        · walk_at "t"
          exact q
      · refine ⟨?_, rfl⟩
        unfold isOrd
        dsimp only
        rw [strsOf_none ha, ha]
  · have hi : isI d "tuple" = false := (isI_tup hd).1
    walk_at "t"
    rw [hi]
    refine ⟨fun _ => ?_, fun z => by simp at z⟩
    walk_at "t"
    refine ⟨?_, rfl⟩
    cases d <;> first | rfl | exact absurd ⟨_, rfl⟩ hd
end
section
set_option maxHeartbeats 1000000
/-! k03: the law. -/

open PySem L2 DL Co

theorem St.app {a b t s : S} (h : St (a, b) s) : St (a, b ++ t) (s ++ t) := by
  obtain ⟨c, i, r, m, n, e, h1, h2⟩ := h
  exact ⟨c, i, r, m, n, by rw [e]; simp, h1, h2⟩
/-! ### a drawn stretch -/
/-! ### a thing like an order -/
end
section
set_option maxHeartbeats 1000000
/-! k03: the law. -/

open PySem L2 DL Co

end
section
set_option maxHeartbeats 1000000
/-! k04: facts. -/

open PySem L2 DL Co
end
open PySem L2 DL Co
set_option synthInstance.maxSize 100000
set_option synthInstance.maxHeartbeats 2000000
local macro_rules | `(tactic| walk_at "u") => `(tactic| repeat (first
  | refine Wk.out (n := 2) ?_
  | ((with_reducible refine' k_var ?ev ?_); (case ev => rfl)) | ((with_reducible refine' k_own ?ev ?_); (case ev => rfl))
  | ((with_reducible refine o_isi ?ty ?nm ?_); (case ty => first | rfl | assumption); (case nm => rfl)) | ((with_reducible refine o_isiT ?ty ?nm ?_); (case ty => first | rfl | assumption); (case nm => decide))
  | ((with_reducible refine' o_ixR ?ev ?hv ?_); (case ev => first | exact st_at _ _ _ | rfl); (case hv => rfl))
  | ((with_reducible refine' small_and ?l1 ?_); (case l1 => first | (simp; done) | (simp only [List.length_map]; omega)))
  | ((with_reducible refine' len3 ?l1 ?l2 ?_); (case l1 => rfl); (case l2 => rfl))
  | ((with_reducible refine' len2 ?l1 ?_); (case l1 => rfl))
  | ((with_reducible refine' ixT_ok ?ix ?_); (case ix => first | rfl | exact atI_z _ _)) | ((with_reducible refine' ixL_ok ?ix ?_); (case ix => first | rfl | exact atI_z _ _))
  | ((with_reducible refine' no ?dd ?_); (case dd => decide)) | ((with_reducible refine' yes ?dd ?_); (case dd => decide))
  | with_reducible refine k_lcRef ?_
  | with_reducible refine ⟨_, rfl, ?_⟩))
section
set_option maxHeartbeats 1000000
open PySem L2 DL Co
section
variable {ρ : Ev} {st : S} {Q : D → S → Prop} {kvs : List (Str × D)} {fe fx : Ev → S → R D}
end
/-! ### is it a fact? -/
def sizeF (x : Str) : Nat := if x = "before" then 3 else if x = "first" then 2 else if x = "last" then 2 else 0
def isFact : D → Bool
  | .tup (.str x :: r) => decide (r.length + 1 = sizeF x) && r.all isName
  | _ => false
def isMark : D → Bool
  | .tup [a, b] => isName a && isFact b
  | _ => false
theorem tup_pl {n : Nat} {ds : List D} (h : pl n (.tup ds) = true) : ds.length ≤ 1000 ∧ ∀ e ∈ ds, pl n e = true := by
  cases n with
  | zero => cases h
  | succ n => exact ⟨(pl_tup.mp h).1, fun e he => pl_succ ((pl_tup.mp h).2 e he)⟩
end
section
set_option maxHeartbeats 1000000
/-! k04: things like facts; facts told. -/

open PySem L2 DL Co

/-- a fact about some finds -/
inductive Fa where
  | first (x : Str) | last (x : Str) | before (x y : Str)
def Fa.ss : Fa → List Str
  | .first x => ["first", x]
  | .last x => ["last", x]
  | .before x y => ["before", x, y]
def Fa.d (f : Fa) : D := .tup (f.ss.map .str)
def Fa.ns : Fa → List Str
  | .first x => [x]
  | .last x => [x]
  | .before x y => [x, y]
def Fa.turn : Fa → Fa
  | .first x => .last x
  | .last x => .first x
  | .before x y => .before y x
theorem Fa.nm {f : Fa} {xs : List Str} (hx : ∀ x ∈ xs, Nm x) (hf : ∀ x ∈ f.ns, x ∈ xs) : ∀ x ∈ f.ss, Nm x := by
  have k1 : Nm "first" := by refine ⟨?_, by decide, by decide⟩; unfold Low; decide
  have k2 : Nm "last" := by refine ⟨?_, by decide, by decide⟩; unfold Low; decide
  have k3 : Nm "before" := by refine ⟨?_, by decide, by decide⟩; unfold Low; decide
  intro x hm
  cases f with
  | first y =>
    simp only [Fa.ss, List.mem_cons, List.not_mem_nil, or_false] at hm
    rcases hm with rfl | rfl
    · exact k1
    · exact hx _ (hf _ (by simp [Fa.ns]))
  | last y =>
    simp only [Fa.ss, List.mem_cons, List.not_mem_nil, or_false] at hm
    rcases hm with rfl | rfl
    · exact k2
    · exact hx _ (hf _ (by simp [Fa.ns]))
  | before y z =>
    simp only [Fa.ss, List.mem_cons, List.not_mem_nil, or_false] at hm
    rcases hm with rfl | rfl | rfl
    · exact k3
    · exact hx _ (hf _ (by simp [Fa.ns]))
    · exact hx _ (hf _ (by simp [Fa.ns]))
theorem Fa.len (f : Fa) : f.ss.length ≤ 3 ∧ 0 < f.ss.length := by cases f <;> simp [Fa.ss]
end
section
set_option maxHeartbeats 1000000
/-! k04: the law. -/

open PySem L2 DL Co

/-! ### what a fact tells -/
section
variable {f : Fa} {st : S} {Q : D → S → Prop}
def Fa.txt (f : Fa) : Str := Txt.join " " f.ss
theorem app_codes (a b : Str) : (a ++ b).cps.toList = a.cps.toList ++ b.cps.toList := by
  show (Str.append a b).cps.toList = _
  simp [Str.append]
theorem join_room {sep : Str} {xs : List Str} (hs : sep.length ≤ 1) (hx : ∀ x ∈ xs, Nm x) (hl : xs.length ≤ 100) : (xs.map (·.length)).sum + xs.length * sep.length ≤ 16777216 := by
  have h2 := sum_le (ls := xs.map (·.length)) (n := 6) fun l hm => by
    obtain ⟨x, hm2, rfl⟩ := List.mem_map.mp hm
    exact (hx x hm2).2.2
  rw [List.length_map] at h2
  have h3 : xs.length * sep.length ≤ xs.length * 1 := Nat.mul_le_mul_left _ hs
  omega
theorem Fa.pl {k : Nat} (hn : ∀ x ∈ f.ss, Nm x) : DM.pl (k + 1) f.d = true := pl_strs (fun z hz => (hn z hz).plS) (by have := f.len; omega)
theorem Fa.ss_nm (hn : ∀ x ∈ f.ns, Nm x) : ∀ x ∈ f.ss, Nm x := Fa.nm hn fun _ h => h
end
/-! ### truth -/
theorem nd_inj {xs : List Str} (nd : xs.Nodup) {i j : Nat} (hi : i < xs.length) (hj : j < xs.length) (e : xs[i] = xs[j]) : i = j := by
  have h := List.pairwise_iff_getElem.mp nd
  by_cases h1 : i < j
  · exact absurd e (h i j hi hj h1)
  · by_cases h2 : j < i
    · exact absurd e.symm (h j i hj hi h2)
    · omega
/-- a fact about an order, by places -/
inductive Pl (xs : List Str) : Fa → Bool → Prop where
  | first {i : Nat} {x : Str} (h : i < xs.length) (e : xs[i] = x) : Pl xs (.first x) (decide (i = 0))
  | last {i : Nat} {x : Str} (h : i < xs.length) (e : xs[i] = x) : Pl xs (.last x) (decide (i + 1 = xs.length))
  | before {i j : Nat} {x y : Str} (h : i < xs.length) (e : xs[i] = x) (h2 : j < xs.length) (e2 : xs[j] = y) : Pl xs (.before x y) (decide (i < j))
theorem rev_at {xs : List Str} {i : Nat} (h : i < xs.length) : ∃ h2 : xs.length - 1 - i < xs.reverse.length, xs.reverse[xs.length - 1 - i] = xs[i] := by
  refine ⟨by rw [List.length_reverse]; omega, ?_⟩
  rw [List.getElem_reverse]
  congr 1
  omega
theorem Pl.rev {xs : List Str} {f : Fa} {b : Bool} (p : Pl xs f b) : Pl xs.reverse f.turn b := by
  cases p with
  | first h e =>
    rename_i i x
    obtain ⟨h2, e2⟩ := rev_at h
    have := Pl.last (x := x) h2 (e2.trans e)
    rw [List.length_reverse] at this
    rw [decide_eq_decide.mpr (show i = 0 ↔ xs.length - 1 - i + 1 = xs.length by omega)]
    exact this
  | last h e =>
    rename_i i x
    obtain ⟨h2, e2⟩ := rev_at h
    have := Pl.first (x := x) h2 (e2.trans e)
    rw [decide_eq_decide.mpr (show i + 1 = xs.length ↔ xs.length - 1 - i = 0 by omega)]
    exact this
  | before h e h3 e3 =>
    rename_i i j x y
    obtain ⟨h2, e2⟩ := rev_at h
    obtain ⟨h4, e4⟩ := rev_at h3
    have := Pl.before h4 (e4.trans e3) h2 (e2.trans e)
    rw [decide_eq_decide.mpr (show i < j ↔ xs.length - 1 - j < xs.length - 1 - i by omega)]
    exact this
section
variable {xs : List Str} {f : Fa} {b : Bool} {st : S} {Q : D → S → Prop}
end
end
section
set_option maxHeartbeats 1000000
/-! k04: the law. -/

open PySem L2 DL Co

end
section
set_option maxHeartbeats 1000000
/-! k05: the errors of a list of facts. -/

open PySem L2 DL Co

/-- an error: its class, its code, its attribute, the value -/
structure Er where
  c : Nat
  code : Str
  at_ : Str
  v : D
def Er.x (e : Er) : Exn := ⟨e.c, [("code", .str e.code), (e.at_, e.v)]⟩
def Er.due (e : Er) : D := .tup [.str "no", .str e.code, e.v]
section
variable {A : D} {ds : List D} {st : S} {Q : D → S → Prop} {QL : List D → S → Prop}
end
/-! ### facts with marks -/
end
section
set_option maxHeartbeats 1000000
/-! k05: check_facts. -/

open PySem L2 DL Co

theorem k_inS {xs : List Str} {x : Str} {st : S} {Q : D → S → Prop} (q : Q (.bl (decide (x ∈ xs))) st) : Ok (inD (.str x) (.lst (xs.map .str)) st) Q := o_inL (by rw [flat_strs]; rfl) (fun _ z => nomatch z) (by rw [any_str]; exact q)
theorem k_ninS {xs : List Str} {x : Str} {st : S} {Q : D → S → Prop} (q : Q (.bl (!decide (x ∈ xs))) st) : Ok (nInD (.str x) (.lst (xs.map .str)) st) Q := o_nInL (by rw [flat_strs]; rfl) (fun _ z => nomatch z) (by rw [any_str]; exact q)
end
section
set_option maxHeartbeats 1000000
/-! k05: the law's own look at a list of facts. -/

open PySem L2 DL Co

end
section
set_option maxHeartbeats 1000000
/-! k05: books without words, records, first_fault. -/

open PySem L2 DL Co

/-- a book -/
def bookD (p : List Str) (ws : List D) : D := .ob 38 ["own_finds", "own_words"] [.tup ((setS p).map .str), .tup ws]
section
variable {ρ : Ev} {st : S} {Q : Ev → S → Prop} {T : D → S → Prop} {X : Exn → S → Prop} {t u : Ev → S → R Bool} {a b : Ev → S → RS} {QB : Bool → S → Prop} {QD : D → S → Prop} {f fa fb : Ev → S → R D} {o : D → D → S → R D}
end
end
section
set_option maxHeartbeats 1000000
/-! k05: what is told; a spoilt list. -/

open PySem L2 DL Co

/-- what is told of a call -/
def told (r : D) (o : Option Er) : D := match o with
  | none => .tup [.str "told", r]
  | some e => e.due
theorem pl_t1 {n : Nat} {a : D} (ha : pl n a = true) : pl (n + 1) (.tup [a]) = true := pl_tup.mpr ⟨by simp, fun z hz => by rw [List.mem_singleton.mp hz]; exact ha⟩
theorem pl_t2 {n : Nat} {a b : D} (ha : pl n a = true) (hb : pl n b = true) : pl (n + 1) (.tup [a, b]) = true := pl_tup.mpr ⟨by simp, fun z hz => by
  simp only [List.mem_cons, List.not_mem_nil, or_false] at hz
  rcases hz with rfl | rfl
  · exact ha
  · exact hb⟩
theorem pl_t3 {n : Nat} {a b c : D} (ha : pl n a = true) (hb : pl n b = true) (hc : pl n c = true) : pl (n + 1) (.tup [a, b, c]) = true := pl_tup.mpr ⟨by simp, fun z hz => by
  simp only [List.mem_cons, List.not_mem_nil, or_false] at hz
  rcases hz with rfl | rfl | rfl
  · exact ha
  · exact hb
  · exact hc⟩
theorem pl_s {n : Nat} {x : Str} (h : plS x = true) : pl n (.str x) = true := by rw [pl_str]; exact h
end
section
set_option maxHeartbeats 1000000
/-! k05: the law. -/

open PySem L2 DL Co

end
section
set_option maxHeartbeats 1000000
/-! k15 to k19: statements; equality of trees of texts. -/

open PySem L2 DL Co

/-- texts and tuples of such -/
inductive Tx : D → Prop
  | str (x : Str) : Tx (.str x)
  | tup {ds : List D} : (∀ d ∈ ds, Tx d) → Tx (.tup ds)
theorem eqv_tup (xs ys : List D) : eqd (.tup xs) (.tup ys) = PyData.eqvAll (pys xs) (pys ys) := by
  unfold eqd py PyData.eqv
  rfl
theorem eqvAll_cons (x y : D) (xs ys : List D) : PyData.eqvAll (pys (x :: xs)) (pys (y :: ys)) = (eqd x y && PyData.eqvAll (pys xs) (pys ys)) := by
  unfold eqd
  conv => lhs; unfold pys PyData.eqvAll
theorem Tx.eqs : ∀ {a : D}, Tx a → ∀ {b : D}, Tx b → (eqd a b = true ↔ a = b) := by
  intro a ha
  induction ha with
  | str x =>
    intro b hb
    cases hb with
    | str y => rw [eqd_str, decide_eq_true_eq]; exact ⟨fun h => by rw [h], fun h => by injection h⟩
    | tup h => exact ⟨fun h => (by unfold eqd py PyData.eqv at h; cases h), fun h => nomatch h⟩
  | @tup ds h ih =>
    intro b hb
    cases hb with
    | str y => exact ⟨fun h => (by unfold eqd py PyData.eqv at h; cases h), fun h => nomatch h⟩
    | @tup es h2 =>
      rw [eqv_tup]
      clear h
      induction ds generalizing es with
      | nil =>
        cases es with
        | nil => exact ⟨fun _ => rfl, fun _ => rfl⟩
        | cons e es => exact ⟨fun h => (by cases h), fun h => (by injection h with h; cases h)⟩
      | cons d ds ihl =>
        cases es with
        | nil => exact ⟨fun h => (by cases h), fun h => (by injection h with h; cases h)⟩
        | cons e es =>
          rw [eqvAll_cons, Bool.and_eq_true, ih d List.mem_cons_self (h2 e List.mem_cons_self), ihl (fun d hd => ih d (List.mem_cons_of_mem _ hd)) (fun e he => h2 e (List.mem_cons_of_mem _ he))]
          constructor
          · rintro ⟨rfl, h⟩
            injection h with h
            rw [h]
          · intro h
            injection h with h
            injection h with h1 h2
            exact ⟨h1, by rw [h2]⟩
theorem tx_strs (xs : List Str) : Tx (tupS xs) := .tup fun d hd => by obtain ⟨x, _, rfl⟩ := List.mem_map.mp hd; exact .str x
inductive Sg | lot (p : List Str) | bef (x y : Str) | nev
deriving DecidableEq
def Sg.d : Sg → D
  | .lot p => .tup [.str (Str.ofString "lot"), tupS p]
  | .bef x y => .tup [.str (Str.ofString "before"), .str x, .str y]
  | .nev => .tup [.str (Str.ofString "never")]
def Sg.ok : Sg → Prop
  | .lot p => Lot p ∧ p.length ≤ 1000
  | .bef x y => Nm x ∧ Nm y
  | .nev => True
theorem Sg.tx (s : Sg) : Tx s.d := by
  cases s with
  | lot p =>
    refine .tup fun d hd => ?_
    simp only [List.mem_cons, List.not_mem_nil, or_false] at hd
    rcases hd with rfl | rfl
    · exact .str _
    · exact tx_strs p
  | bef x y =>
    refine .tup fun d hd => ?_
    simp only [List.mem_cons, List.not_mem_nil, or_false] at hd
    rcases hd with rfl | rfl | rfl <;> exact .str _
  | nev =>
    refine .tup fun d hd => ?_
    simp only [List.mem_cons, List.not_mem_nil, or_false] at hd
    rcases hd with rfl
    exact .str _
theorem strs_inj : ∀ {p q : List Str}, p.map D.str = q.map D.str → p = q
  | [], [], _ => rfl
  | [], _ :: _, h => by cases h
  | _ :: _, [], h => by cases h
  | a :: p, b :: q, h => by
    rw [List.map_cons, List.map_cons] at h
    injection h with h1 h2
    injection h1 with h1
    rw [h1, strs_inj h2]
theorem tupS_inj {p q : List Str} (h : tupS p = tupS q) : p = q := by
  unfold tupS at h
  injection h with h
  exact strs_inj h
theorem Sg.inj {s t : Sg} (h : s.d = t.d) : s = t := by
  cases s <;> cases t <;> unfold Sg.d at h <;> injection h with h <;> simp only [List.cons.injEq, reduceCtorEq, and_false, false_and, List.nil_eq, List.cons_ne_nil, and_true] at h
  · rw [tupS_inj h.2]
  · obtain ⟨_, h1, h2⟩ := h
    injection h1 with h1
    injection h2 with h2
    rw [h1, h2]
  · rfl
theorem Sg.eqd (s t : Sg) : DL.eqd s.d t.d = decide (s = t) := by
  rw [Bool.eq_iff_iff, decide_eq_true_eq, Tx.eqs s.tx t.tx]
  exact ⟨Sg.inj, fun h => by rw [h]⟩
theorem Sg.pl {s : Sg} (h : s.ok) {n : Nat} : DM.pl (n + 2) s.d = true := by
  cases s with
  | lot p => exact pl_t2 (pl_s (by decide)) (pl_le (by omega) (pl_tupS h.1.nm h.2))
  | bef x y => exact pl_t3 (pl_s (by decide)) (pl_s h.1.plS) (pl_s h.2.plS)
  | nev => exact pl_t1 (pl_s (by decide))
theorem Sg.okd {s : Sg} (h : s.ok) : DL.okd s.d = true := pl_okd (Sg.pl (n := 0) h) (by decide)
/-- what is said is a statement -/
theorem isLot_Lot {d : D} (h : isLot d = true) : ∃ p, d = tupS p ∧ Lot p := by
  obtain ⟨ds, rfl, ha⟩ := isLot_tup h
  obtain ⟨p, rfl, hn⟩ := names_of ha
  have hn2 : ∀ x ∈ p, Nm x := fun x hx => Nm_of (hn x hx)
  unfold isLot at h
  rw [Bool.and_eq_true, Bool.and_eq_true] at h
  refine ⟨p, rfl, fun z => ?_, hn2, asc_pw.mp h.2⟩
  rw [z] at h
  cases h.1.1
theorem said_form {n : Nat} {d : D} (h : said d = true) (hp : pl n d = true) : ∃ s : Sg, d = s.d ∧ s.ok := by
  have hl : ∀ p : List Str, d = .tup [.str (Str.ofString "lot"), tupS p] → p.length ≤ 1000 := fun p e => by
    subst e
    cases n with
    | zero => cases hp
    | succ n =>
      have h1 := (pl_tup.mp hp).2 (tupS p) (by simp)
      cases n with
      | zero => cases h1
      | succ n =>
        have h2 := (pl_tup.mp h1).1
        rw [List.length_map] at h2
        exact h2
  unfold said at h
  split at h
  · rename_i x ds
    unfold said1 at h
    split at h
    · rename_i e
      subst e
      split at h
      · rename_i a
        obtain ⟨p, rfl, hL⟩ := isLot_Lot h
        exact ⟨.lot p, rfl, hL, hl p rfl⟩
      · cases h
    split at h
    · rename_i e
      subst e
      split at h
      · rename_i a b
        rw [Bool.and_eq_true] at h
        obtain ⟨y, rfl⟩ := isName_str h.1
        obtain ⟨z, rfl⟩ := isName_str h.2
        exact ⟨.bef y z, rfl, Nm_of h.1, Nm_of h.2⟩
      · cases h
    · rw [Bool.and_eq_true, decide_eq_true_eq] at h
      obtain ⟨rfl, h⟩ := h
      cases ds with
      | nil => exact ⟨.nev, rfl, trivial⟩
      | cons _ _ => cases h
  · cases h
theorem Sg.said {s : Sg} (h : s.ok) : DM.said s.d = true := by
  cases s with
  | lot p =>
    show isLot (tupS p) = true
    unfold tupS
    rw [isLot_strs h.1.ne h.1.nm]
    exact asc_pw.mpr h.1.pw
  | bef x y =>
    show (isName (.str x) && isName (.str y)) = true
    rw [h.1.isName, h.2.isName]
    rfl
  | nev => rfl
end
section
set_option maxHeartbeats 1000000
/-! k15 to k19: a record, the rules. -/

open PySem L2 DL Co

/-- a case: its finds, its words, its facts -/
structure Cs where
  F : List Str
  W : List (Str × List Str)
  A : List (Str × Fa)
structure Cs.ok (C : Cs) : Prop where
  f : Lot C.F
  fl : C.F.length ≤ 60
  w : ∀ p ∈ C.W, Lot p.2 ∧ ∀ x ∈ p.2, x ∈ C.F
  a : ∀ p ∈ C.A, ∀ x ∈ p.2.ns, Nm x
def Sg.ls : Sg → List Str
  | .lot p => p
  | _ => []
def Sg.w : Sg → Str
  | .lot _ => "lot"
  | .bef _ _ => "before"
  | .nev => "never"
/-- what was shown -/
structure Shw (C : Cs) (st : S) (k : Nat) (sh : List Sg) : Prop where
  c : C.ok
  e : st[k]? = some (.lst (sh.map Sg.d))
  ok : ∀ s ∈ sh, s.ok ∧ ∀ x ∈ s.ls, x ∈ C.F
theorem Cs.ok.len {C : Cs} (h : C.ok) {p : List Str} (hp : Lot p) (hs : ∀ x ∈ p, x ∈ C.F) : p.length ≤ 60 := Nat.le_trans (nodup_le hp.nd hs) h.fl
theorem comp_of {α : Type} {t : Tg} {te : Ev → S → R D} {ρ : Ev} {st : S} (g f : α → D) : ∀ {l : List α}, (∀ a ∈ l, ∃ ρ', bindT t (g a) ρ = some ρ' ∧ te ρ' st = .ok (f a) st) → compD t tTrue te ρ (l.map g) st = .ok (l.map f) st
  | [], _ => rfl
  | a :: l, h => by
    obtain ⟨ρ', e, h1⟩ := h a List.mem_cons_self
    have ih := comp_of (t := t) (te := te) (ρ := ρ) (st := st) g f (l := l) fun d hd => h d (List.mem_cons_of_mem _ hd)
    rw [List.map_cons]
    unfold compD
    rw [e]
    dsimp only [tTrue, noX, R.bind]
    rw [if_pos rfl, h1]
    dsimp only
    rw [ih]
    rfl
section
variable {C : Cs} {k : Nat} {sh : List Sg} {st : S} {Q : D → S → Prop}
theorem sg_ix0 {s : Sg} (q : Q (.str s.w) st) : Ok (ixD s.d (.int 0) st) Q := by
  cases s <;> exact ⟨_, _, rfl, q⟩
theorem getD_mem {sh : List Sg} {i : Nat} (hi : i < sh.length) : sh.getD i .nev ∈ sh := by
  rw [List.getD_eq_getElem?_getD, List.getElem?_eq_getElem hi]
  exact List.getElem_mem hi
def lots2 (sh : List Sg) (i j : Nat) : Option (List Str × List Str) := match sh.getD i .nev, sh.getD j .nev with
  | .lot p, .lot q => some (p, q)
  | _, _ => none
def over2 (sh : List Sg) (i j : Nat) : Option (List Str × List Str) := match lots2 sh i j with
  | some (p, q) => if crossB p q then some (p, q) else none
  | none => none
theorem lots2_ok (h : Shw C st k sh) {i j : Nat} (hi : i < sh.length) (hj : j < sh.length) {p q : List Str} (e : lots2 sh i j = some (p, q)) : (Lot p ∧ ∀ x ∈ p, x ∈ C.F) ∧ (Lot q ∧ ∀ x ∈ q, x ∈ C.F) := by
  have h1 := h.ok _ (getD_mem hi)
  have h2 := h.ok _ (getD_mem hj)
  unfold lots2 at e
  generalize sh.getD i .nev = s at h1 e
  generalize sh.getD j .nev = t at h2 e
  cases s <;> cases t <;> cases e
  exact ⟨⟨h1.1.1, h1.2⟩, h2.1.1, h2.2⟩
def pair1 (sh : List Sg) (i : Nat) : Option (Str × Str) := match sh.getD i .nev with
  | .bef x y => some (x, y)
  | _ => none
/-! equality with a lot -/
theorem k_inT {xs : List Str} {x : Str} (q : Q (.bl (decide (x ∈ xs))) st) : Ok (inD (.str x) (tupS xs) st) Q := o_inT (by rw [flat_strs]; rfl) (by rw [any_str]; exact q)
def rSingle (F : List Str) : Sg → Bool
  | .lot [x] => decide (x ∈ F)
  | _ => false
def rWord (W : List (Str × List Str)) (m : Str) (s : Sg) : Bool := match W.lookup m with
  | some p => decide (s = .lot p)
  | none => false
theorem lookup_in {α : Type} : ∀ {l : List (Str × α)} {m : Str} {a : α}, l.lookup m = some a → (m, a) ∈ l
  | [], _, _, h => by cases h
  | (x, b) :: l, m, a, h => by
    rw [List.lookup_cons] at h
    split at h
    · rename_i e
      cases h
      rw [eq_of_beq e]
      exact List.mem_cons_self
    · exact List.mem_cons_of_mem _ (lookup_in h)
end
end
section
set_option maxHeartbeats 1000000
/-! k15 to k19: the rules over earlier statements. -/

open PySem L2 DL Co

section
variable {C : Cs} {k : Nat} {sh : List Sg} {st : S} {Q : D → S → Prop}
def rTwo (f : List Str → List Str → List Str) (sh : List Sg) (i j : Nat) (s : Sg) : Bool := match over2 sh i j with
  | some (p, q) => decide (s = .lot (f p q))
  | none => false
theorem over2_ok (h : Shw C st k sh) {i j : Nat} (hi : i < sh.length) (hj : j < sh.length) {p q : List Str} (e : over2 sh i j = some (p, q)) : lots2 sh i j = some (p, q) ∧ crossB p q = true ∧ (Lot p ∧ ∀ x ∈ p, x ∈ C.F) ∧ (Lot q ∧ ∀ x ∈ q, x ∈ C.F) := by
  unfold over2 at e
  cases e2 : lots2 sh i j with
  | none => rw [e2] at e; cases e
  | some pq =>
    obtain ⟨a, b⟩ := pq
    rw [e2] at e
    dsimp only at e
    split at e
    · rename_i hc
      cases e
      exact ⟨rfl, hc, lots2_ok h hi hj e2⟩
    · cases e
/-! facts -/
def rFact (C : Cs) (m : Str) (s : Sg) : Bool := match C.A.lookup m, s with
  | some f, .bef x y => (match f with
    | .before u v => decide (x = u) && decide (y = v)
    | .first u => decide (x = u) && (!decide (y = x) && decide (y ∈ C.F))
    | .last u => decide (y = u) && (!decide (x = y) && decide (x ∈ C.F)))
  | _, _ => false
end
end
section
set_option maxHeartbeats 1000000
/-! k15 to k19: apart, across, chain, bar, self. -/

open PySem L2 DL Co

section
variable {C : Cs} {k : Nat} {sh : List Sg} {st : S} {Q : D → S → Prop}
/-- a statement about two names -/
def Sg.pr : Sg → Option (Str × Str)
  | .bef x y => some (x, y)
  | _ => none
def rApart (sh : List Sg) (i j l : Nat) (s : Sg) : Bool := match lots2 sh i j, pair1 sh l, s with
  | some (p, q), some (u, v), .bef x y => (bothS p q).isEmpty && ((decide (u ∈ p) && decide (x ∈ p)) && (decide (v ∈ q) && decide (y ∈ q)))
  | _, _, _ => false
/-! across -/
theorem eqd_int (a b : Int) : eqd (.int a) (.int b) = decide (a = b) := by
  unfold eqd
  simp only [py, PyData.eqv]
  exact Bool.beq_eq_decide_eq a b
def partS (p q : List Str) (x : Str) : Int := if x ∈ p then (if x ∈ q then 1 else 0) else (if x ∈ q then 2 else -1)
def rAcross (sh : List Sg) (i j l : Nat) (s : Sg) : Bool := match over2 sh i j, pair1 sh l, s with
  | some (p, q), some (u, v), .bef x y => !decide (partS p q u = -1 ∨ partS p q v = -1 ∨ partS p q x = -1 ∨ partS p q y = -1) && (!decide (partS p q u = partS p q v) && (!decide (partS p q x = partS p q y) && (decide (partS p q x < partS p q y) == decide (partS p q u < partS p q v))))
  | _, _, _ => false
end
end
section
set_option maxHeartbeats 1000000
/-! k15 to k19: chain, bar, self. -/

open PySem L2 DL Co

section
variable {C : Cs} {k : Nat} {sh : List Sg} {st : S} {Q : D → S → Prop}
/-! chain -/
def rChain (sh : List Sg) (i j : Nat) (s : Sg) : Bool := match pair1 sh i, pair1 sh j with
  | some (u, v), some (y, z) => decide (v = y) && decide (s = .bef u z)
  | _, _ => false
/-! bar -/
def rBar (sh : List Sg) (i j l : Nat) (s : Sg) : Bool := match over2 sh i j, sh.getD l .nev with
  | some (p, q), .lot r => decide (s = .nev) && decide (r = unionS (lessS p q) (lessS q p))
  | _, _ => false
/-! self -/
def rSelf (sh : List Sg) (i : Nat) (s : Sg) : Bool := decide (s = .nev) && (match pair1 sh i with
  | some (x, y) => decide (x = y)
  | none => false)
end
end
section
set_option maxHeartbeats 1000000
/-! k15 to k19: follows_by. -/

open PySem L2 DL Co

/-- a rule with its elders -/
inductive Rl
  | single | all | word (m : Str) | union (i j : Nat) | common (i j : Nat) | rest (i j : Nat) | fact (m : Str) | apart (i j l : Nat) | across (i j l : Nat) | chain (i j : Nat) | bar (i j l : Nat) | self (i : Nat)
def Rl.name : Rl → Str
  | .single => "single" | .all => "all" | .word _ => "word" | .union _ _ => "union" | .common _ _ => "common" | .rest _ _ => "rest" | .fact _ => "fact" | .apart _ _ _ => "apart" | .across _ _ _ => "across" | .chain _ _ => "chain" | .bar _ _ _ => "bar" | .self _ => "self"
def nI (i : Nat) : D := .int (i : Nat)
def Rl.el : Rl → List D
  | .single => [] | .all => [] | .word m => [.str m] | .union i j => [nI i, nI j] | .common i j => [nI i, nI j] | .rest i j => [nI i, nI j] | .fact m => [.str m] | .apart i j l => [nI i, nI j, nI l] | .across i j l => [nI i, nI j, nI l] | .chain i j => [nI i, nI j] | .bar i j l => [nI i, nI j, nI l] | .self i => [nI i]
def Rl.bel (n : Nat) : Rl → Prop
  | .union i j => i < n ∧ j < n | .common i j => i < n ∧ j < n | .rest i j => i < n ∧ j < n | .apart i j l => i < n ∧ j < n ∧ l < n | .across i j l => i < n ∧ j < n ∧ l < n | .chain i j => i < n ∧ j < n | .bar i j l => i < n ∧ j < n ∧ l < n | .self i => i < n | _ => True
def rR (C : Cs) (sh : List Sg) : Rl → Sg → Bool
  | .single, s => rSingle C.F s
  | .all, s => decide (s = .lot C.F)
  | .word m, s => rWord C.W m s
  | .union i j, s => rTwo unionS sh i j s
  | .common i j, s => rTwo bothS sh i j s
  | .rest i j, s => rTwo lessS sh i j s
  | .fact m, s => rFact C m s
  | .apart i j l, s => rApart sh i j l s
  | .across i j l, s => rAcross sh i j l s
  | .chain i j, s => rChain sh i j s
  | .bar i j l, s => rBar sh i j l s
  | .self i, s => rSelf sh i s
section
variable {C : Cs} {k : Nat} {sh : List Sg} {st : S} {Q : D → S → Prop}
end
end
section
set_option maxHeartbeats 1000000
/-! k15 to k19: has_form. -/

open PySem L2 DL Co

def isMk (r : Str) : Bool := decide (r = Str.ofString "word") || decide (r = Str.ofString "fact")
def formB (at_ : Nat) : D → Bool
  | .tup [a, .str r, .tup es] => said a && (match k_ELDERS.lookup r with
    | some (.int m) => decide ((es.length : Int) = m) && (if isMk r then isName (es.getD 0 .non) else es.all (num 0 ((at_ : Int) - 1)))
    | _ => false)
  | _ => false
section
variable {st : S} {Q : D → S → Prop}
end
end
section
set_option maxHeartbeats 1000000
/-! k15 to k19: entries read. -/

open PySem L2 DL Co

def Rl.mk_ : Rl → Prop
  | .word m => Nm m
  | .fact m => Nm m
  | _ => True
def sgOf : D → Sg
  | .tup [_, .tup ds] => .lot ((strsOf ds).getD [])
  | .tup [_, .str x, .str y] => .bef x y
  | _ => .nev
theorem sgOf_d (s : Sg) : sgOf s.d = s := by
  cases s with
  | lot p =>
    show Sg.lot ((strsOf (p.map .str)).getD []) = _
    rw [strsOf_map]
    rfl
  | bef x y => rfl
  | nev => rfl
def natOf : D → Nat
  | .int i => i.toNat
  | _ => 0
def strOf : D → Str
  | .str m => m
  | _ => T []
def rlOf (r : Str) (es : List D) : Rl :=
  let n := fun k => natOf (es.getD k .non)
  let m := strOf (es.getD 0 .non)
  if r = "single" then .single else if r = "all" then .all else if r = "word" then .word m else if r = "union" then .union (n 0) (n 1) else if r = "common" then .common (n 0) (n 1) else if r = "rest" then .rest (n 0) (n 1)
  else if r = "fact" then .fact m else if r = "apart" then .apart (n 0) (n 1) (n 2) else if r = "across" then .across (n 0) (n 1) (n 2) else if r = "chain" then .chain (n 0) (n 1) else if r = "bar" then .bar (n 0) (n 1) (n 2) else .self (n 0)
theorem rlOf_el (rl : Rl) : rlOf rl.name rl.el = rl := by
  cases rl <;> rfl
theorem num_nI {d : D} {n : Nat} (h : num 0 ((n : Int) - 1) d = true) : ∃ i, d = nI i ∧ i < n := by
  unfold num at h
  split at h
  · rename_i i
    rw [Bool.and_eq_true, decide_eq_true_eq, decide_eq_true_eq] at h
    obtain ⟨i, rfl⟩ := Int.eq_ofNat_of_zero_le h.1
    exact ⟨i, rfl, by omega⟩
  · cases h
theorem nI_num {i n : Nat} (h : i < n) : num 0 ((n : Int) - 1) (nI i) = true := by
  unfold num nI
  rw [Bool.and_eq_true, decide_eq_true_eq, decide_eq_true_eq]
  omega
/-- an entry by its form -/
structure Ent (n : Nat) (d : D) (s : Sg) (rl : Rl) : Prop where
  e : d = .tup [s.d, .str rl.name, .tup rl.el]
  s : s.ok
  b : rl.bel n
  m : rl.mk_
theorem form_parse {n k : Nat} {d : D} (h : formB n d = true) (hp : pl k d = true) : ∃ s rl, Ent n d s rl := by
  unfold formB at h
  split at h
  · rename_i a r es
    rw [Bool.and_eq_true] at h
    obtain ⟨ha, h⟩ := h
    have hpa : pl k a = true := (tup_pl hp).2 a (by simp)
    obtain ⟨s, rfl, hs⟩ := said_form ha hpa
    split at h
    · rename_i m el
      rw [Bool.and_eq_true, decide_eq_true_eq] at h
      obtain ⟨hl, h⟩ := h
      have el2 := lookup_in el
      unfold k_ELDERS at el2
      simp only [List.mem_cons, Prod.mk.injEq, D.int.injEq, List.not_mem_nil, or_false] at el2
      have l0 : ∀ {es : List D}, (es.length : Int) = 0 → es = [] := fun h => List.eq_nil_of_length_eq_zero (by omega)
      have l1 : ∀ {es : List D}, (es.length : Int) = 1 → ∃ a, es = [a] := fun {es} h => by
        match es, (show es.length = 1 by omega) with
        | [a], _ => exact ⟨a, rfl⟩
      have l2 : ∀ {es : List D}, (es.length : Int) = 2 → ∃ a b, es = [a, b] := fun {es} h => by
        match es, (show es.length = 2 by omega) with
        | [a, b], _ => exact ⟨a, b, rfl⟩
      have l3 : ∀ {es : List D}, (es.length : Int) = 3 → ∃ a b c, es = [a, b, c] := fun {es} h => by
        match es, (show es.length = 3 by omega) with
        | [a, b, c], _ => exact ⟨a, b, c, rfl⟩
      have n1 : ∀ {a : D}, [a].all (num 0 ((n : Int) - 1)) = true → ∃ i, a = nI i ∧ i < n := fun h => num_nI (List.all_eq_true.mp h _ List.mem_cons_self)
      have n2 : ∀ {a b : D}, [a, b].all (num 0 ((n : Int) - 1)) = true → ∃ i j, a = nI i ∧ b = nI j ∧ i < n ∧ j < n := fun h => by
        obtain ⟨i, e1, h1⟩ := num_nI (List.all_eq_true.mp h _ List.mem_cons_self)
        obtain ⟨j, e2, h2⟩ := num_nI (List.all_eq_true.mp h _ (List.mem_cons_of_mem _ List.mem_cons_self))
        exact ⟨i, j, e1, e2, h1, h2⟩
      have n3 : ∀ {a b c : D}, [a, b, c].all (num 0 ((n : Int) - 1)) = true → ∃ i j l, a = nI i ∧ b = nI j ∧ c = nI l ∧ i < n ∧ j < n ∧ l < n := fun h => by
        obtain ⟨i, e1, h1⟩ := num_nI (List.all_eq_true.mp h _ List.mem_cons_self)
        obtain ⟨j, e2, h2⟩ := num_nI (List.all_eq_true.mp h _ (List.mem_cons_of_mem _ List.mem_cons_self))
        obtain ⟨l, e3, h3⟩ := num_nI (List.all_eq_true.mp h _ (List.mem_cons_of_mem _ (List.mem_cons_of_mem _ List.mem_cons_self)))
        exact ⟨i, j, l, e1, e2, e3, h1, h2, h3⟩
      rcases el2 with ⟨rfl, rfl⟩ | ⟨rfl, rfl⟩ | ⟨rfl, rfl⟩ | ⟨rfl, rfl⟩ | ⟨rfl, rfl⟩ | ⟨rfl, rfl⟩ | ⟨rfl, rfl⟩ | ⟨rfl, rfl⟩ | ⟨rfl, rfl⟩ | ⟨rfl, rfl⟩ | ⟨rfl, rfl⟩ | ⟨rfl, rfl⟩
      · exact ⟨s, .single, by rw [l0 hl]; rfl, hs, trivial, trivial⟩
      · exact ⟨s, .all, by rw [l0 hl]; rfl, hs, trivial, trivial⟩
      · obtain ⟨a, rfl⟩ := l1 hl
        have h : isName a = true := h
        obtain ⟨m, rfl⟩ := isName_str h
        exact ⟨s, .word m, rfl, hs, trivial, Nm_of h⟩
      · obtain ⟨a, b, rfl⟩ := l2 hl
        obtain ⟨i, j, rfl, rfl, h1, h2⟩ := n2 h
        exact ⟨s, .union i j, rfl, hs, ⟨h1, h2⟩, trivial⟩
      · obtain ⟨a, b, rfl⟩ := l2 hl
        obtain ⟨i, j, rfl, rfl, h1, h2⟩ := n2 h
        exact ⟨s, .common i j, rfl, hs, ⟨h1, h2⟩, trivial⟩
      · obtain ⟨a, b, rfl⟩ := l2 hl
        obtain ⟨i, j, rfl, rfl, h1, h2⟩ := n2 h
        exact ⟨s, .rest i j, rfl, hs, ⟨h1, h2⟩, trivial⟩
      · obtain ⟨a, rfl⟩ := l1 hl
        have h : isName a = true := h
        obtain ⟨m, rfl⟩ := isName_str h
        exact ⟨s, .fact m, rfl, hs, trivial, Nm_of h⟩
      · obtain ⟨a, b, c, rfl⟩ := l3 hl
        obtain ⟨i, j, l, rfl, rfl, rfl, h1, h2, h3⟩ := n3 h
        exact ⟨s, .apart i j l, rfl, hs, ⟨h1, h2, h3⟩, trivial⟩
      · obtain ⟨a, b, c, rfl⟩ := l3 hl
        obtain ⟨i, j, l, rfl, rfl, rfl, h1, h2, h3⟩ := n3 h
        exact ⟨s, .across i j l, rfl, hs, ⟨h1, h2, h3⟩, trivial⟩
      · obtain ⟨a, b, rfl⟩ := l2 hl
        obtain ⟨i, j, rfl, rfl, h1, h2⟩ := n2 h
        exact ⟨s, .chain i j, rfl, hs, ⟨h1, h2⟩, trivial⟩
      · obtain ⟨a, b, c, rfl⟩ := l3 hl
        obtain ⟨i, j, l, rfl, rfl, rfl, h1, h2, h3⟩ := n3 h
        exact ⟨s, .bar i j l, rfl, hs, ⟨h1, h2, h3⟩, trivial⟩
      · obtain ⟨a, rfl⟩ := l1 hl
        obtain ⟨i, rfl, h1⟩ := n1 h
        exact ⟨s, .self i, rfl, hs, h1, trivial⟩
    · cases h
  · cases h
theorem Ent.form {n : Nat} {d : D} {s : Sg} {rl : Rl} (h : Ent n d s rl) : formB n d = true := by
  obtain ⟨rfl, hs, hb, hm⟩ := h
  have h1 := Sg.said hs
  have n2 : ∀ {i j : Nat}, i < n ∧ j < n → [nI i, nI j].all (num 0 ((n : Int) - 1)) = true := fun h => by
    rw [List.all_cons, List.all_cons, nI_num h.1, nI_num h.2]
    rfl
  have n3 : ∀ {i j l : Nat}, i < n ∧ j < n ∧ l < n → [nI i, nI j, nI l].all (num 0 ((n : Int) - 1)) = true := fun h => by
    rw [List.all_cons, List.all_cons, List.all_cons, nI_num h.1, nI_num h.2.1, nI_num h.2.2]
    rfl
  unfold formB
  dsimp only
  rw [h1, Bool.true_and]
  cases rl with
  | single => rfl
  | all => rfl
  | word m => exact Nm.isName hm
  | union i j => exact n2 hb
  | common i j => exact n2 hb
  | rest i j => exact n2 hb
  | fact m => exact Nm.isName hm
  | apart i j l => exact n3 hb
  | across i j l => exact n3 hb
  | chain i j => exact n2 hb
  | bar i j l => exact n3 hb
  | self i =>
    show [nI i].all (num 0 ((n : Int) - 1)) = true
    rw [List.all_cons, nI_num hb]
    rfl
/-- what a rule gives is of the case -/
theorem rR_sub {C : Cs} {st : S} {k : Nat} {sh : List Sg} (h : Shw C st k sh) {rl : Rl} (hb : rl.bel sh.length) {s : Sg} (hr : rR C sh rl s = true) : ∀ x ∈ s.ls, x ∈ C.F := by
  have two : ∀ (f : List Str → List Str → List Str) (i j : Nat), (∀ p q x, x ∈ f p q → x ∈ p ∨ x ∈ q) → i < sh.length → j < sh.length → rTwo f sh i j s = true → ∀ x ∈ s.ls, x ∈ C.F := fun f i j hf hi hj hr x hx => by
    unfold rTwo at hr
    split at hr
    · rename_i p q e
      obtain ⟨_, _, ha, hb⟩ := over2_ok h hi hj e
      rw [of_decide_eq_true hr] at hx
      rcases hf p q x hx with h1 | h1
      · exact ha.2 x h1
      · exact hb.2 x h1
    · cases hr
  cases s with
  | bef x y => exact fun x hx => nomatch hx
  | nev => exact fun x hx => nomatch hx
  | lot p =>
    cases rl with
    | single =>
      intro x hx
      have hr : rSingle C.F (.lot p) = true := hr
      unfold rSingle at hr
      split at hr
      · rename_i y e
        injection e with e
        rw [show (Sg.lot p).ls = p from rfl, e] at hx
        rw [List.mem_singleton.mp hx]
        exact of_decide_eq_true hr
      · cases hr
    | all =>
      have := of_decide_eq_true hr
      injection this with this
      intro x hx
      rw [← this]
      exact hx
    | word m =>
      have hr : rWord C.W m (.lot p) = true := hr
      unfold rWord at hr
      split at hr
      · rename_i q e
        have := of_decide_eq_true hr
        injection this with this
        intro x hx
        exact (h.c.w _ (lookup_in e)).2 x (this ▸ hx)
      · cases hr
    | union i j => exact two unionS i j (fun p q x hx => (List.mem_append.mp ((sortS_perm _).mem_iff.mp hx)).imp id fun h => (List.mem_filter.mp h).1) hb.1 hb.2 hr
    | common i j => exact two bothS i j (fun p q x hx => .inl (List.mem_filter.mp hx).1) hb.1 hb.2 hr
    | rest i j => exact two lessS i j (fun p q x hx => .inl (List.mem_filter.mp hx).1) hb.1 hb.2 hr
    | fact m =>
      have hr : rFact C m (.lot p) = true := hr
      unfold rFact at hr
      split at hr
      · rename_i e; cases e
      · cases hr
    | apart i j l =>
      have hr : rApart sh i j l (.lot p) = true := hr
      unfold rApart at hr
      split at hr
      · rename_i e; cases e
      · cases hr
    | across i j l =>
      have hr : rAcross sh i j l (.lot p) = true := hr
      unfold rAcross at hr
      split at hr
      · rename_i e; cases e
      · cases hr
    | chain i j =>
      have hr : rChain sh i j (.lot p) = true := hr
      unfold rChain at hr
      split at hr
      · rw [Bool.and_eq_true, decide_eq_true_eq, decide_eq_true_eq] at hr
        cases hr.2
      · cases hr
    | bar i j l =>
      have hr : rBar sh i j l (.lot p) = true := hr
      unfold rBar at hr
      split at hr
      · rw [Bool.and_eq_true, decide_eq_true_eq] at hr
        cases hr.1
      · cases hr
    | self i =>
      have hr : rSelf sh i (.lot p) = true := hr
      unfold rSelf at hr
      rw [Bool.and_eq_true, decide_eq_true_eq] at hr
      cases hr.1
end
section
set_option maxHeartbeats 1000000
/-! k15 to k19: a record of a book and facts. -/

open PySem L2 DL Co

def wordD (w : Str × List Str) : D := .tup [.str w.1, tupS w.2]
def factD (a : Str × Fa) : D := .tup [.str a.1, a.2.d]
/-- the case of a book and facts -/
structure CsOf (p : List Str) (C : Cs) : Prop where
  f : C.F = setS p
  ok : C.ok
  wn : (C.W.map (·.1)).Nodup
  an : (C.A.map (·.1)).Nodup
  wl : C.W.length ≤ 1000
  al : C.A.length ≤ 1000
section
variable {st : S} {Q : D → S → Prop}
end
end
section
set_option maxHeartbeats 1000000
/-! k15 to k19: first_fault. -/

open PySem L2 DL Co

/-- the first entry that is not right, behind right ones -/
def faultF (C : Cs) : List Sg → List D → Option Nat
  | _, [] => none
  | sh, d :: r => if formB sh.length d then (match d with
    | .tup [a, .str x, .tup es] => if rR C sh (rlOf x es) (sgOf a) then faultF C (sh ++ [sgOf a]) r else some sh.length
    | _ => some sh.length) else some sh.length
theorem faultF_no {C : Cs} {sh : List Sg} {d : D} {r : List D} (h : formB sh.length d = false) : faultF C sh (d :: r) = some sh.length := by
  unfold faultF
  rw [h, if_neg Bool.false_ne_true]
theorem faultF_ent {C : Cs} {sh : List Sg} {d : D} {r : List D} {s : Sg} {rl : Rl} (h : Ent sh.length d s rl) : faultF C sh (d :: r) = if rR C sh rl s then faultF C (sh ++ [s]) r else some sh.length := by
  have hf := h.form
  obtain ⟨rfl, _, _, _⟩ := h
  conv => lhs; unfold faultF
  rw [hf, if_pos rfl]
  dsimp only
  rw [sgOf_d, rlOf_el]
section
variable {st : S} {Q : D → S → Prop}
end
end
section
set_option maxHeartbeats 1000000
/-! k15 to k19: shows. -/

open PySem L2 DL Co

def fstD : D → D
  | .tup (a :: _) => a
  | _ => .non
theorem atI_end {ds : List D} {d : D} (h : ds.getLast? = some d) : L2.atI ds (-1) = some d := by
  have hl : ds ≠ [] := fun z => by rw [z] at h; cases h
  have hp : 0 < ds.length := List.length_pos_iff.mpr hl
  have e : ixN ds.length (-1) = some (ds.length - 1) := by
    unfold ixN
    rw [if_neg (by decide), if_pos (by omega)]
    congr 1
    omega
  unfold L2.atI
  rw [e, ← h, List.getLast?_eq_getElem?]
  rfl
end
section
set_option maxHeartbeats 1000000
/-! k17: two lots, the law's own judges. -/

open PySem L2 DL Co

section
variable {tl : S × S} {st : S} {Q : D → S → Prop}
def oD : Option Int → D
  | some i => .int i
  | none => .non
theorem k_ninT {xs : List Str} {x : Str} (q : Q (.bl (!decide (x ∈ xs))) st) : Ok (nInD (.str x) (tupS xs) st) Q := o_nInT (by rw [flat_strs]; rfl) (by rw [any_str]; exact q)
end
end
section
set_option maxHeartbeats 1000000
/-! k17: judges compared. -/

open PySem L2 DL Co

end
section
set_option maxHeartbeats 1000000
/-! Books with words. -/

open PySem L2 DL Co

structure Wds (pool : List Str) (W : List (Str × List Str)) : Prop where
  nm : ∀ w ∈ W, Nm w.1
  lot : ∀ w ∈ W, Lot w.2 ∧ ∀ x ∈ w.2, x ∈ pool
  nd : (W.map (·.1)).Nodup
  len : W.length ≤ 40
theorem lotOf_ok {pool p : List Str} (hp : Lot p) (hs : ∀ x ∈ p, x ∈ pool) : lotOf pool (tupS p) = true := by
  unfold lotOf
  have h1 : isLot (tupS p) = true := by
    unfold tupS
    rw [isLot_strs hp.ne hp.nm]
    exact asc_pw.mpr hp.pw
  rw [h1]
  show (p.map D.str).all (inX pool) = true
  rw [List.all_map, List.all_eq_true]
  exact fun x hx => decide_eq_true (hs x hx)
end
section
set_option maxHeartbeats 1000000
/-! k17: the case of the law. -/

open PySem L2 DL Co

end
section
set_option maxHeartbeats 1000000
/-! k17: the law. -/

open PySem L2 DL Co

/-- the entries of the law -/
def en (s : Sg) (rl : Rl) : D := .tup [s.d, .str rl.name, .tup rl.el]
theorem en_pl {s : Sg} {rl : Rl} (hs : s.ok) (hm : rl.mk_) : pl 4 (en s rl) = true := by
  refine pl_t3 (n := 3) (Sg.pl (n := 1) hs) (pl_s (by cases rl <;> simp only [Rl.name] <;> decide)) ?_
  cases rl with
  | single => exact pl_tup.mpr ⟨by simp [Rl.el], fun d hd => by cases hd⟩
  | all => exact pl_tup.mpr ⟨by simp [Rl.el], fun d hd => by cases hd⟩
  | word m => exact pl_t1 (pl_s (Nm.plS hm))
  | fact m => exact pl_t1 (pl_s (Nm.plS hm))
  | self i => exact pl_t1 pl_int
  | union i j => exact pl_t2 pl_int pl_int
  | common i j => exact pl_t2 pl_int pl_int
  | rest i j => exact pl_t2 pl_int pl_int
  | chain i j => exact pl_t2 pl_int pl_int
  | apart i j l => exact pl_t3 pl_int pl_int pl_int
  | across i j l => exact pl_t3 pl_int pl_int pl_int
  | bar i j l => exact pl_t3 pl_int pl_int pl_int
end
section
set_option maxHeartbeats 1000000
/-! k15: the law's own judge of words and facts. -/

open PySem L2 DL Co

def caseD (C : Cs) : D := .tup [.lst (C.F.map .str), .lst (C.W.map wordD), .lst (C.A.map factD)]
theorem comp_filt {α : Type} {t : Tg} {tt : Ev → S → R Bool} {te : Ev → S → R D} {ρ : Ev} {st : S} (g f : α → D) (p : α → Bool) : ∀ {l : List α}, (∀ a ∈ l, ∃ ρ', bindT t (g a) ρ = some ρ' ∧ tt ρ' st = .ok (p a) st ∧ (p a = true → te ρ' st = .ok (f a) st)) → compD t tt te ρ (l.map g) st = .ok ((l.filter p).map f) st
  | [], _ => rfl
  | a :: l, h => by
    obtain ⟨ρ', e, e1, e2⟩ := h a List.mem_cons_self
    have ih := comp_filt (tt := tt) (te := te) (st := st) g f p (l := l) fun a ha => h a (List.mem_cons_of_mem _ ha)
    rw [List.map_cons]
    unfold compD
    rw [e]
    dsimp only
    rw [e1]
    dsimp only [noX, R.bind]
    cases hp : p a with
    | false => rw [if_neg Bool.false_ne_true, ih, List.filter_cons_of_neg (by rw [hp]; exact Bool.false_ne_true)]
    | true =>
      rw [if_pos rfl, e2 hp]
      dsimp only
      rw [ih, List.filter_cons_of_pos hp]
      rfl
section
variable {C : Cs} {st : S} {Q : D → S → Prop}
theorem Fa.tx (f : Fa) : Tx f.d := tx_strs f.ss
theorem bef_ix1 {x y : Str} (q : Q (.str x) st) : Ok (ixD (Sg.bef x y).d (.int 1) st) Q := ixT_ok rfl q
theorem bef_ix2 {x y : Str} (q : Q (.str y) st) : Ok (ixD (Sg.bef x y).d (.int 2) st) Q := ixT_ok rfl q
theorem lot_ix1 {p : List Str} (q : Q (tupS p) st) : Ok (ixD (Sg.lot p).d (.int 1) st) Q := ixT_ok rfl q
theorem wd_ix0 {w : Str × List Str} (q : Q (.str w.1) st) : Ok (ixD (wordD w) (.int 0) st) Q := ixT_ok rfl q
theorem wd_ix1 {w : Str × List Str} (q : Q (tupS w.2) st) : Ok (ixD (wordD w) (.int 1) st) Q := ixT_ok rfl q
theorem fd_ix0 {w : Str × Fa} (q : Q (.str w.1) st) : Ok (ixD (factD w) (.int 0) st) Q := ixT_ok rfl q
theorem fd_ix1 {w : Str × Fa} (q : Q w.2.d st) : Ok (ixD (factD w) (.int 1) st) Q := ixT_ok rfl q
theorem cs_ix0 (q : Q (.lst (C.F.map .str)) st) : Ok (ixD (caseD C) (.int 0) st) Q := ixT_ok rfl q
theorem cs_ix1 (q : Q (.lst (C.W.map wordD)) st) : Ok (ixD (caseD C) (.int 1) st) Q := ixT_ok rfl q
theorem cs_ix2 (q : Q (.lst (C.A.map factD)) st) : Ok (ixD (caseD C) (.int 2) st) Q := ixT_ok rfl q
theorem en_ix0 {s : Sg} {rl : Rl} (q : Q s.d st) : Ok (ixD (en s rl) (.int 0) st) Q := ixT_ok rfl q
theorem en_ix1 {s : Sg} {rl : Rl} (q : Q (.str rl.name) st) : Ok (ixD (en s rl) (.int 1) st) Q := ixT_ok rfl q
theorem en_ix2 {s : Sg} {rl : Rl} (q : Q (.tup rl.el) st) : Ok (ixD (en s rl) (.int 2) st) Q := ixT_ok rfl q
theorem o_lenS {p : List Str} (q : Q (.int p.length) st) : Ok (lenD (tupS p) st) Q := by
  refine ⟨_, _, rfl, ?_⟩
  rw [List.length_map]
  exact q
end
end
open PySem L2 DL Co
set_option synthInstance.maxSize 100000
set_option synthInstance.maxHeartbeats 2000000
local macro_rules | `(tactic| walk_at "v") => `(tactic| repeat (first
  | refine Wk.out (n := 3) ?_
  | ((with_reducible refine' k_var ?ev ?_); (case ev => rfl)) | ((with_reducible refine' k_own ?ev ?_); (case ev => rfl))
  | ((with_reducible refine o_isi ?ty ?nm ?_); (case ty => first | rfl | assumption); (case nm => rfl)) | ((with_reducible refine o_isiT ?ty ?nm ?_); (case ty => first | rfl | assumption); (case nm => decide))
  | ((with_reducible refine' o_ixR ?ev ?hv ?_); (case ev => first | exact st_at _ _ _ | rfl); (case hv => rfl))
  | ((with_reducible refine' small_and ?l1 ?_); (case l1 => first | (simp; done) | (simp only [List.length_map]; omega)))
  | ((with_reducible refine' len3 ?l1 ?l2 ?_); (case l1 => rfl); (case l2 => rfl))
  | ((with_reducible refine' len2 ?l1 ?_); (case l1 => rfl))
  | ((with_reducible refine' ixT_ok ?ix ?_); (case ix => first | rfl | exact atI_z _ _)) | ((with_reducible refine' ixL_ok ?ix ?_); (case ix => first | rfl | exact atI_z _ _))
  | ((with_reducible refine' no ?dd ?_); (case dd => decide)) | ((with_reducible refine' yes ?dd ?_); (case dd => decide))
  | with_reducible refine k_lcRef ?_
  | with_reducible refine sg_ix0 ?_ | with_reducible refine bef_ix1 ?_ | with_reducible refine bef_ix2 ?_ | with_reducible refine lot_ix1 ?_ | with_reducible refine wd_ix0 ?_ | with_reducible refine wd_ix1 ?_ | with_reducible refine fd_ix0 ?_ | with_reducible refine fd_ix1 ?_ | with_reducible refine cs_ix0 ?_ | with_reducible refine cs_ix1 ?_ | with_reducible refine cs_ix2 ?_ | with_reducible refine en_ix0 ?_ | with_reducible refine en_ix1 ?_ | with_reducible refine en_ix2 ?_ | with_reducible refine o_lenS ?_ | with_reducible refine k_inT ?_ | with_reducible refine k_ninT ?_ | with_reducible refine k_inS ?_ | with_reducible refine k_ninS ?_
  | with_reducible refine ⟨_, rfl, ?_⟩))
section
set_option maxHeartbeats 1000000
open PySem L2 DL Co
section
variable {C : Cs} {st : S} {Q : D → S → Prop}
end
end
section
set_option maxHeartbeats 1000000
/-! k15: the law's own judge of entries by their elders. -/

open PySem L2 DL Co


section
variable {C : Cs} {st : S} {Q : D → S → Prop}
/-! apart, across -/
end
end
section
set_option maxHeartbeats 1000000
/-! k15: the law's own judge of entries by their elders: the rules. -/

open PySem L2 DL Co


section
variable {C : Cs} {st : S} {Q : D → S → Prop}
def Rl.ix : Rl → List Nat
  | .single => [] | .all => [] | .word m => [] | .union i j => [i, j] | .common i j => [i, j] | .rest i j => [i, j] | .fact m => [] | .apart i j l => [i, j, l] | .across i j l => [i, j, l] | .chain i j => [i, j] | .bar i j l => [i, j, l] | .self i => [i]
end
end
section
set_option maxHeartbeats 1000000
/-! k15: the law's own judge of entries by their elders: rules over two lots. -/

open PySem L2 DL Co


section
variable {C : Cs} {st : S} {Q : D → S → Prop}
/-- a lot of the case -/
def LotC (C : Cs) (p : List Str) : Prop := Lot p ∧ ∀ x ∈ p, x ∈ C.F
theorem LotC.len {p : List Str} (hC : C.ok) (h : LotC C p) : p.length ≤ 60 := hC.len h.1 h.2
end
end
section
set_option maxHeartbeats 1000000
/-! k15: the law's own judge of an entry. -/

open PySem L2 DL Co


/-- the entries that are right -/
def rightB (C : Cs) (sh : List Sg) (d : D) : Bool := formB sh.length d && (match d with
  | .tup [a, .str x, .tup es] => rR C sh (rlOf x es) (sgOf a)
  | _ => false)
theorem rightB_ent {C : Cs} {sh : List Sg} {d : D} {s : Sg} {rl : Rl} (h : Ent sh.length d s rl) : rightB C sh d = rR C sh rl s := by
  have hf := h.form
  obtain ⟨rfl, _, _, _⟩ := h
  unfold rightB
  rw [hf]
  dsimp only
  rw [sgOf_d, rlOf_el]
  rfl
theorem faultF_cons {C : Cs} {n : Nat} {sh : List Sg} {d : D} {r : List D} (hp : pl n d = true) : faultF C sh (d :: r) = if rightB C sh d then faultF C (sh ++ [sgOf (fstD d)]) r else some sh.length := by
  cases hf : formB sh.length d with
  | false =>
    rw [faultF_no hf]
    unfold rightB
    rw [hf]
    rfl
  | true =>
    obtain ⟨s, rl, h⟩ := form_parse hf hp
    rw [faultF_ent h, rightB_ent h]
    obtain ⟨rfl, _, _, _⟩ := h
    show _ = if _ then faultF C (sh ++ [sgOf s.d]) r else _
    rw [sgOf_d]
section
variable {C : Cs} {st : S} {Q : D → S → Prop}
/-- the case, the statements that were shown -/
structure CaseOk (C : Cs) : Prop where
  c : C.ok
  wn : (C.W.map (·.1)).Nodup
  an : (C.A.map (·.1)).Nodup
  wl : C.W.length ≤ 1000
  al : C.A.length ≤ 1000
def ShOk (C : Cs) (sh : List Sg) : Prop := ∀ s ∈ sh, s.ok ∧ ∀ x ∈ s.ls, x ∈ C.F
theorem ShOk.lot {sh : List Sg} (h : ShOk C sh) {i : Nat} (hi : i < sh.length) : (sh.getD i .nev).ok ∧ ∀ p, sh.getD i .nev = .lot p → LotC C p := by
  have := h _ (getD_mem hi)
  refine ⟨this.1, fun p e => ?_⟩
  rw [e] at this
  exact ⟨this.1.1, this.2⟩
end
end
section
set_option maxHeartbeats 1000000
/-! k15: right entries by rules over two lots. -/

open PySem L2 DL Co


/-- rows that were found right: a list, or one of the store -/
structure Rows (C : Cs) (tl : S × S) (A : D) (es : List D) (sh : List Sg) : Prop where
  at_ : A = .lst es ∨ ∃ j, A = .ref (tl.1.length + 1 + j) ∧ tl.2[j]? = some (.lst es)
  len : es.length = sh.length
  hd : ∀ i, i < sh.length → ∃ r, es[i]? = some (.tup ((sh.getD i .nev).d :: r))
  ok : ShOk C sh
  l : es.length ≤ 1000
section
variable {C : Cs} {tl : S × S} {st : S} {Q : D → S → Prop} {A : D} {es : List D} {sh : List Sg}
theorem St.get (h : St tl st) {j : Nat} {o : MO} (e : tl.2[j]? = some o) : st[tl.1.length + 1 + j]? = some o := by
  obtain ⟨c, i, r, m, n, rfl, _, _⟩ := h
  rw [List.getElem?_append_right (by omega), show tl.1.length + 1 + j - tl.1.length = j + 1 by omega]
  exact e
/-- an entry by a rule that is right behind others -/
def REnt (C : Cs) (sh : List Sg) (d : D) : Prop := ∃ s rl, d = en s rl ∧ s.ok ∧ rl.bel sh.length ∧ rl.mk_ ∧ rR C sh rl s = true
end
end
section
set_option maxHeartbeats 1000000
/-! k15: right entries by rules over a before. -/

open PySem L2 DL Co


section
variable {C : Cs} {tl : S × S} {st : S} {Q : D → S → Prop} {A : D} {es : List D} {sh : List Sg}
end
end
section
set_option maxHeartbeats 1000000
/-! k15: a drawn right entry. -/

open PySem L2 DL Co


/-- an entry by a mark that is right -/
def MEnt (C : Cs) (d : D) : Prop := ∃ s rl, d = en s rl ∧ s.ok ∧ rl.mk_ ∧ isMk rl.name = true ∧ ∀ sh, rl.bel sh.length ∧ rR C sh rl s = true
theorem MEnt.r {C : Cs} {d : D} (h : MEnt C d) (sh : List Sg) : REnt C sh d := by
  obtain ⟨s, rl, e, h1, h2, _, h3⟩ := h
  exact ⟨s, rl, e, h1, (h3 sh).1, h2, (h3 sh).2⟩
/-- a case with two finds at least, a word and a fact -/
structure CaseG (C : Cs) : Prop extends CaseOk C where
  f2 : 2 ≤ C.F.length
  w1 : 0 < C.W.length
  a1 : 0 < C.A.length
  wm : ∀ w ∈ C.W, Nm w.1
  am : ∀ w ∈ C.A, Nm w.1
  ap : ∀ a ∈ C.A, ∀ x ∈ a.2.ns, x ∈ C.F
section
variable {C : Cs} {tl : S × S} {st : S} {Q : D → S → Prop} {A : D} {es : List D} {sh : List Sg}
theorem others (hC : CaseG C) (u : Str) : 0 < (C.F.filter fun x => !decide (x = u)).length ∧ ∀ y ∈ C.F.filter (fun x => !decide (x = u)), y ∈ C.F ∧ ¬ y = u := by
  constructor
  · have f2 := hC.f2
    have nd := hC.c.f.nd
    match hF : C.F, f2, nd with
    | a :: b :: r, _, nd =>
      rw [List.nodup_cons] at nd
      by_cases e : a = u
      · have hb : ¬ b = u := fun z => nd.1 (by rw [e, ← z]; exact List.mem_cons_self)
        exact List.length_pos_of_mem (List.mem_filter.mpr ⟨List.mem_cons_of_mem _ List.mem_cons_self, by rw [decide_eq_false hb]; rfl⟩)
      · exact List.length_pos_of_mem (List.mem_filter.mpr ⟨List.mem_cons_self, by rw [decide_eq_false e]; rfl⟩)
  · intro y hy
    rw [List.mem_filter, Bool.not_eq_true', decide_eq_false_iff_not] at hy
    exact hy
end
end
section
set_option maxHeartbeats 1000000
/-! k15: right derivations. -/

open PySem L2 DL Co


def shown (es : List D) : List Sg := es.map fun d => sgOf (fstD d)
theorem faultF_app {C : Cs} {n : Nat} : ∀ {es : List D} {sh : List Sg} {r : List D}, (∀ d ∈ es, pl n d = true) → faultF C sh es = none → faultF C sh (es ++ r) = faultF C (sh ++ shown es) r
  | [], sh, r, _, _ => by rw [show shown [] = [] from rfl, List.append_nil, List.nil_append]
  | d :: es, sh, r, hp, hf => by
    rw [faultF_cons (hp d List.mem_cons_self)] at hf
    rw [List.cons_append, faultF_cons (hp d List.mem_cons_self)]
    cases hr : rightB C sh d with
    | false => rw [hr] at hf; cases hf
    | true =>
      rw [hr, if_pos rfl] at hf
      rw [if_pos rfl, faultF_app (fun d hd => hp d (List.mem_cons_of_mem _ hd)) hf]
      rw [show shown (d :: es) = sgOf (fstD d) :: shown es from rfl, List.append_assoc]
      rfl
/-- a derivation of right entries -/
structure Good (C : Cs) (es : List D) : Prop where
  p : ∀ d ∈ es, pl 4 d = true
  f : faultF C [] es = none
theorem good_all {C : Cs} (hC : C.ok) {n : Nat} : ∀ {es : List D} {sh : List Sg}, (∀ d ∈ es, pl n d = true) → ShOk C sh → faultF C sh es = none → ShOk C (sh ++ shown es) ∧ ∀ d ∈ es, ∃ s rl, d = en s rl
  | [], sh, _, hs, _ => ⟨by rw [show shown [] = [] from rfl, List.append_nil]; exact hs, fun _ z => nomatch z⟩
  | d :: es, sh, hp, hs, hf => by
    have px := hp d List.mem_cons_self
    rw [faultF_cons px] at hf
    cases hr : rightB C sh d with
    | false => rw [hr] at hf; cases hf
    | true =>
      rw [hr, if_pos rfl] at hf
      have hform : formB sh.length d = true := by
        unfold rightB at hr
        rw [Bool.and_eq_true] at hr
        exact hr.1
      obtain ⟨s, rl, hent⟩ := form_parse hform px
      rw [rightB_ent hent] at hr
      have he := hent.e
      have e1 : sgOf (fstD d) = s := by rw [he]; exact sgOf_d s
      rw [e1] at hf
      have hS : Shw C [.lst (sh.map Sg.d)] 0 sh := ⟨hC, rfl, hs⟩
      have hs2 : ShOk C (sh ++ [s]) := fun z hz => by
        rcases List.mem_append.mp hz with hz | hz
        · exact hs z hz
        · rw [List.mem_singleton.mp hz]
          exact ⟨hent.s, rR_sub hS hent.b hr⟩
      obtain ⟨h1, h2⟩ := good_all hC (fun d hd => hp d (List.mem_cons_of_mem _ hd)) hs2 hf
      refine ⟨?_, fun z hz => ?_⟩
      · rw [show shown (d :: es) = sgOf (fstD d) :: shown es from rfl, e1]
        rw [List.append_assoc] at h1
        exact h1
      · rcases List.mem_cons.mp hz with rfl | hz
        · exact ⟨s, rl, he⟩
        · exact h2 z hz
theorem Good.sh {C : Cs} {es : List D} (h : Good C es) (hC : C.ok) : ShOk C (shown es) ∧ ∀ d ∈ es, ∃ s rl, d = en s rl := by
  have := good_all hC h.p (sh := []) (fun _ z => nomatch z) h.f
  exact this
theorem shown_len (es : List D) : (shown es).length = es.length := List.length_map _
theorem Good.hd {C : Cs} {es : List D} (h : Good C es) (hC : C.ok) : ∀ i, i < (shown es).length → ∃ r, es[i]? = some (.tup (((shown es).getD i .nev).d :: r)) := fun i hi => by
  rw [shown_len] at hi
  obtain ⟨s, rl, e⟩ := (h.sh hC).2 es[i] (List.getElem_mem hi)
  refine ⟨[.str rl.name, .tup rl.el], ?_⟩
  rw [List.getElem?_eq_getElem hi, e]
  have : (shown es).getD i .nev = s := by
    unfold shown
    rw [List.getD_eq_getElem?_getD, List.getElem?_map, List.getElem?_eq_getElem hi, e]
    exact sgOf_d s
  rw [this]
  rfl
theorem Good.snoc {C : Cs} {es : List D} (h : Good C es) {d : D} (hd : REnt C (shown es) d) : Good C (es ++ [d]) := by
  obtain ⟨s, rl, rfl, hs, hb, hm, hr⟩ := hd
  refine ⟨fun z hz => ?_, ?_⟩
  · rcases List.mem_append.mp hz with hz | hz
    · exact h.p z hz
    · rw [List.mem_singleton.mp hz]
      exact en_pl hs hm
  · rw [faultF_app h.p h.f, List.nil_append]
    unfold en
    rw [faultF_ent ⟨rfl, hs, hb, hm⟩, if_pos hr]
    rfl
mutual
theorem pl_nr (k : Nat) : ∀ {n : Nat} {d : D}, pl n d = true → nrD k d = true
  | _, .non, _ => rfl
  | _, .bl _, _ => rfl
  | _, .int _, _ => rfl
  | _, .str _, _ => rfl
  | 0, .lst ds, h => by cases h
  | n + 1, .lst ds, h => by
    unfold nrD
    exact pl_nrs k (pl_lst.mp h).2
  | 0, .tup ds, h => by cases h
  | n + 1, .tup ds, h => by
    unfold nrD
    exact pl_nrs k (pl_tup.mp h).2
  | _, .pr _ _, h => by rw [pl_pr] at h; cases h
  | _, .ref _, h => by rw [pl_ref] at h; cases h
  | _, .ty _, _ => rfl
  | _, .cls _, _ => rfl
  | _, .scr _, _ => rfl
  | _, .dic _ _, h => by rw [pl_dic] at h; cases h
  | _, .ob _ _ _, h => by rw [pl_ob] at h; cases h
theorem pl_nrs (k : Nat) : ∀ {n : Nat} {ds : List D}, (∀ d ∈ ds, pl n d = true) → nrs k ds = true
  | _, [], _ => rfl
  | n, d :: ds, h => by
    unfold nrs
    rw [pl_nr k (h d List.mem_cons_self), pl_nrs k fun z hz => h z (List.mem_cons_of_mem _ hz)]
    rfl
end
section
variable {C : Cs} {tl : S × S} {st : S} {Q : D → S → Prop}
theorem St.len (h : St tl st) : st.length = tl.1.length + 1 + tl.2.length := by
  obtain ⟨c, i, r, m, n, rfl, _, _⟩ := h
  rw [List.length_append, List.length_cons]
  omega
theorem St.push (h : St tl st) (o : MO) : St (tl.1, tl.2 ++ [o]) (st ++ [o]) := by
  obtain ⟨c, i, r, m, n, rfl, h1, h2⟩ := h
  exact ⟨c, i, r, m, n, by rw [List.append_assoc]; rfl, h1, h2⟩
end
end
section
set_option maxHeartbeats 1000000
/-! k15, k16: a bent entry. -/

open PySem L2 DL Co


section
variable {C : Cs} {tl : S × S} {st : S} {Q : D → S → Prop}
end
end
section
set_option maxHeartbeats 1000000
/-! k15, k16: a drawn case. -/

open PySem L2 DL Co


section
variable {tl : S × S} {st : S} {Q : D → S → Prop}
end
end
section
set_option maxHeartbeats 1000000
/-! k15, k16: first_fault in a drawn case. -/

open PySem L2 DL Co


section
variable {C : Cs} {tl : S × S} {st : S} {Q : D → S → Prop}
/-- a new entry: a statement, a text, up to three plain items -/
def NewE (d : D) : Prop := ∃ (s : Sg) (r : Str) (os : List D), d = .tup [s.d, .str r, .tup os] ∧ s.ok ∧ plS r = true ∧ os.length ≤ 3 ∧ ∀ z ∈ os, pl 1 z = true
theorem NewE.pl {d : D} (h : NewE d) : DM.pl 4 d = true := by
  obtain ⟨s, r, os, rfl, hs, hr, ho, hos⟩ := h
  exact pl_t3 (n := 3) (Sg.pl (n := 1) hs) (pl_s hr) (pl_le (m := 2) (by decide) (pl_tup.mpr ⟨by omega, hos⟩))
end
end
section
set_option maxHeartbeats 1000000
/-! k15: the law. -/

open PySem L2 DL Co


end
section
set_option maxHeartbeats 1000000
/-! k16: entries judged. -/

open PySem L2 DL Co


section
variable {C : Cs} {tl : S × S} {st : S} {Q : D → S → Prop}
end
end
section
set_option maxHeartbeats 1000000
/-! k16: bent rows, rings. -/

open PySem L2 DL Co


section
variable {C : Cs} {tl : S × S} {st : S} {Q : D → S → Prop}
end
end
section
set_option maxHeartbeats 1000000
/-! k16: twins of a derivation. -/

open PySem L2 DL Co


section
variable {C : Cs} {tl : S × S} {st : S} {Q : D → S → Prop}
end
end
section
set_option maxHeartbeats 1000000
/-! k16: the law. -/

open PySem L2 DL Co


end
section
set_option maxHeartbeats 1000000
/-! k09: the errors of a list of finds. -/

open PySem L2 DL Co

section
variable {A : D} {ds : List D} {st : S} {Q : D → S → Prop}
end
end
section
set_option maxHeartbeats 1000000
/-! k09: the law's look at finds; the errors of a list of words. -/

open PySem L2 DL Co

/-! ### words -/
section
variable {xs : List Str} {P d : D} {n : Nat}
end
end
section
set_option maxHeartbeats 1000000
/-! k09: check_words; what is due of a list of words. -/

open PySem L2 DL Co

section
variable {xs : List Str} {P d : D} {n : Nat} {ds : List D}
end
end
section
set_option maxHeartbeats 1000000
/-! k09: books of any two values; what is met. -/

open PySem L2 DL Co

section
variable {A B : D} {n m : Nat} {st : S}
theorem setS_nd {xs : List Str} (h : xs.Nodup) : setS xs = sortS xs := by
  exact sortS_congr ((List.perm_ext_iff_of_nodup (nodup_ed _ xs (Nat.le_refl _)) h).mpr fun x => List.mem_eraseDups)
end
end
section
set_option maxHeartbeats 1000000
/-! k09: drawn words, wrong ones. -/

open PySem L2 DL Co



section
variable {tl : S × S} {st : S} {Q : D → S → Prop}
end
end
section
set_option maxHeartbeats 1000000
/-! k09: words put to a book one by one. -/

open PySem L2 DL Co


section
variable {tl : S × S} {st : S} {Q : D → S → Prop}
/-! ### words put to a book -/
end
end
section
set_option maxHeartbeats 1000000
/-! k09: words are put to a book one by one. -/

open PySem L2 DL Co

section
variable {tl : S × S} {st : S} {Q : D → S → Prop}
end
end
section
set_option maxHeartbeats 1000000
/-! k09: the law. -/

open PySem L2 DL Co

section
variable {st : S}
end
end
section
set_option maxHeartbeats 1000000
/-! Rules (M76): own methods behind built-ins and operators, texts by parts, loops over lists of the store. -/

open PySem L2 DL
section
variable {st : S} {Q : D → S → Prop} {tbl : MT} {o : D → D → S → R D} {dx dy d : D} {c : Nat} {fs : List (Str × D)} {F : List D → S → R D}
end
section
variable {st : S} {Q : D → S → Prop} {ρ : Ev} {f : Ev → S → R D} {r : List (Ev → S → R D)} {acc : Str}
end
/-! a list or tuple, or a list of the store -/
def Vw (A : D) (st : S) (ds : List D) : Prop := view A st = .lst ds ∨ A = .tup ds
theorem Vw.lst {ds : List D} {st : S} : Vw (.lst ds) st ds := .inl rfl
theorem Vw.tup {ds : List D} {st : S} : Vw (.tup ds) st ds := .inr rfl
theorem Vw.ref {k : Nat} {ds : List D} {st : S} (h : st[k]? = some (.lst ds)) : Vw (.ref k) st ds := by
  left
  unfold view
  dsimp only
  rw [h]
theorem Vw.cases {A : D} {st : S} {ds : List D} (h : Vw A st ds) : A = .lst ds ∨ A = .tup ds ∨ ∃ k, A = .ref k ∧ st[k]? = some (.lst ds) := by
  rcases h with h | h
  · unfold view at h
    split at h
    · rename_i k
      split at h
      · rename_i es e
        cases h
        exact .inr (.inr ⟨k, rfl, e⟩)
      · cases h
    · exact .inl h
  · exact .inr (.inl h)
section
variable {A : D} {st : S} {ds : List D} {Q : D → S → Prop}
end
/-! the loops -/
section
variable {A : D} {st : S} {ds : List D} {Q : Ev → S → Prop} {T : D → S → Prop} {X : Exn → S → Prop} {t : Tg} {f : Ev → S → RS} {ρ : Ev} {i : Nat}
end
end
section
set_option maxHeartbeats 1000000
/-! k08: books made of lists, tuples, lists of the store. -/

open PySem L2 DL Co

section
variable {A B : D} {st : S}
end
end
section
set_option maxHeartbeats 1000000
/-! k08: the texts of books. -/

open PySem L2 DL Co

/-- the rows of a book's text, its lines -/
def rowW (w : Str × List Str) : List Str := "word" :: w.1 :: w.2
def rowsB (F : List Str) (W : List (Str × List Str)) : List (List Str) := ("finds" :: F) :: W.map rowW
def lineB (r : List Str) : Str := Txt.join " " r ++ Str.ofString "\n"
def rowD (r : List Str) : D := .lst (r.map .str)
theorem nm_finds : Nm "finds" := Nm_of (by decide)
theorem nm_word : Nm "word" := Nm_of (by decide)
structure RowsOk (R : List (List Str)) : Prop where
  nm : ∀ r ∈ R, ∀ x ∈ r, Nm x
  len : ∀ r ∈ R, r.length ≤ 62
  many : R.length ≤ 50
theorem rowsB_ok {n : Nat} {pool : List Str} {W : List (Str × List Str)} (hp : Nms n pool) (h2 : n ≤ 12) (hW : Wds pool W) : RowsOk (rowsB (setS pool) W) := by
  have lp := hp.len
  have ls : (setS pool).length ≤ 12 := by
    unfold setS
    rw [(sortS_perm _).length_eq]
    have := ed_len pool
    omega
  have ns : ∀ x ∈ setS pool, Nm x := fun x hx => by
    unfold setS at hx
    exact hp.nm x (List.mem_eraseDups.mp ((sortS_perm _).mem_iff.mp hx))
  refine ⟨fun r hr x hx => ?_, fun r hr => ?_, ?_⟩
  · rcases List.mem_cons.mp hr with rfl | hr
    · rcases List.mem_cons.mp hx with rfl | hx
      · exact nm_finds
      · exact ns x hx
    · obtain ⟨w, hw, rfl⟩ := List.mem_map.mp hr
      rcases List.mem_cons.mp hx with rfl | hx
      · exact nm_word
      · rcases List.mem_cons.mp hx with rfl | hx
        · exact hW.nm w hw
        · exact hp.nm x ((hW.lot w hw).2 x hx)
  · rcases List.mem_cons.mp hr with rfl | hr
    · simp only [List.length_cons]; omega
    · obtain ⟨w, hw, rfl⟩ := List.mem_map.mp hr
      have := nodup_le (hW.lot w hw).1.nd (hW.lot w hw).2
      simp only [rowW, List.length_cons]
      omega
  · have := hW.len
    simp only [rowsB, List.length_cons, List.length_map]
    omega
theorem app_len (a b : Str) : (a ++ b).length = a.length + b.length := by
  show (a ++ b).cps.size = a.cps.size + b.cps.size
  rw [← Array.length_toList, ← Array.length_toList, ← Array.length_toList, app_codes, List.length_append]
section
variable {st : S} {Q : D → S → Prop}
end
end
section
set_option maxHeartbeats 1000000
/-! k08: what a book tells. -/

open PySem L2 DL Co

section
variable {st : S} {Q : D → S → Prop}
end
end
section
set_option maxHeartbeats 1000000
/-! k08: repr, in, word, without, ==, +. -/

open PySem L2 DL Co

section
variable {st : S} {Q : D → S → Prop}
/-- without a word -/
theorem wds_less {pool : List Str} {W : List (Str × List Str)} (hW : Wds pool W) (p : Str × List Str → Bool) : Wds pool (W.filter p) :=
  ⟨fun w hw => hW.nm w (List.mem_filter.mp hw).1, fun w hw => hW.lot w (List.mem_filter.mp hw).1, List.Nodup.sublist ((List.filter_sublist).map _) hW.nd, Nat.le_trans (List.length_filter_le _ _) hW.len⟩
theorem setS_setS {n : Nat} {p : List Str} (hp : Nms n p) : setS (setS p) = setS p ∧ Nms n (setS p) := by
  have e := setS_nd hp.nd
  have hs : (sortS p).Nodup := (sortS_perm p).nodup_iff.mpr hp.nd
  rw [e]
  refine ⟨?_, ⟨by rw [(sortS_perm p).length_eq, hp.len], hs, fun x hx => hp.nm x ((sortS_perm p).mem_iff.mp hx)⟩⟩
  rw [setS_nd hs]
  exact sortS_congr (sortS_perm p)
theorem wds_pool {p p' : List Str} {W : List (Str × List Str)} (hW : Wds p W) (h : ∀ x, x ∈ p → x ∈ p') : Wds p' W := ⟨hW.nm, fun w hw => ⟨(hW.lot w hw).1, fun x hx => h x ((hW.lot w hw).2 x hx)⟩, hW.nd, hW.len⟩
end
end
section
set_option maxHeartbeats 1000000
/-! k08: == of books. -/

open PySem L2 DL Co

section
variable {st : S} {Q : D → S → Prop}
end
end
section
set_option maxHeartbeats 1000000
/-! k08: books with a word more; whether a book tells what is due. -/

open PySem L2 DL Co

section
variable {st : S} {Q : D → S → Prop} {n : Nat} {pool : List Str} {W : List (Str × List Str)} {w : Str × List Str}
end
end
section
set_option maxHeartbeats 1000000
/-! k08: whether a book tells what is due. -/

open PySem L2 DL Co

section
variable {st : S} {Q : D → S → Prop} {n : Nat} {pool : List Str} {W : List (Str × List Str)}
end
end
section
set_option maxHeartbeats 1000000
/-! k08: the lists that a book tells are changed; drawn values asked of it. -/

open PySem L2 DL Co

section
variable {st : S} {Q : D → S → Prop} {n : Nat} {pool : List Str} {W : List (Str × List Str)}
end
end
section
set_option maxHeartbeats 1000000
/-! k08: drawn values asked of a book. -/

open PySem L2 DL Co

section
variable {st : S} {Q : D → S → Prop} {n : Nat} {pool : List Str} {W : List (Str × List Str)}
end
end
section
set_option maxHeartbeats 1000000
/-! k08: what a book equals. -/

open PySem L2 DL Co

/-- things that a book does not equal -/
inductive Oth (pool : List Str) (W : List (Str × List Str)) : D → Prop
  | plain {d : D} (h : pl 9 d = true) : Oth pool W d
  | text (x : Str) : Oth pool W (.str x)
  | book {m : Nat} {p : List Str} {V : List (Str × List Str)} (hp : Nms m p) (hm : m ≤ 60) (hV : ∀ d ∈ V.map wordD, pl 5 d = true) (lV : V.length ≤ 1000) (hne : setS pool = setS p → W ≠ V) : Oth pool W (bookD p (V.map wordD))
section
variable {st : S} {Q : D → S → Prop} {n : Nat} {pool : List Str} {W : List (Str × List Str)}
end
section
variable {tl : S × S} {st : S} {n : Nat} {pool : List Str} {W : List (Str × List Str)}
end
end
section
set_option maxHeartbeats 1000000
/-! k08: the law. -/

open PySem L2 DL Co

section
variable {tl : S × S} {st : S}
end
section
variable {st : S} {n : Nat} {pool : List Str} {W : List (Str × List Str)}
end
end
section
set_option maxHeartbeats 1000000
/-! k10: which orders fit a book. -/

open PySem L2 DL Co

section
variable {st : S} {Q : D → S → Prop}
theorem isOrd_perm {p p' : List Str} (h : p.Perm p') (d : D) : isOrd p d = isOrd p' d := by
  cases d with
  | tup ds =>
    unfold isOrd
    dsimp only
    cases e : strsOf ds with
    | none => rfl
    | some zs =>
      dsimp only
      rw [h.length_eq, Bool.eq_iff_iff, Bool.and_eq_true, Bool.and_eq_true, List.all_eq_true, List.all_eq_true]
      exact ⟨fun z => ⟨z.1, fun x hx => z.2 x (h.mem_iff.mpr hx)⟩, fun z => ⟨z.1, fun x hx => z.2 x (h.mem_iff.mp hx)⟩⟩
  | _ => rfl
end
end
section
set_option maxHeartbeats 1000000
/-! k10: things like an order. -/

open PySem L2 DL Co

section
variable {st : S} {ρ : Ev} {Q : Ev → S → Prop} {T : D → S → Prop} {f fi1 fi2 fe : Ev → S → R D} {i : Nat} {ds : List D}
end
end
section
set_option maxHeartbeats 1000000
/-! Tables: the drawn stock, kinds in lists of the store. -/

open PySem L2 DL Co

section
variable {st : S} {ρ : Ev} {Q : Ev → S → Prop} {T : D → S → Prop} {fo : Ev → S → R D} {fa : Ev → S → R (List D)}
end
def MOh (l : List Str) : MO := .lst (l.map .str)
/-- in some of the lists -/
structure Held (tags : List Str) (done : List Str) (hs : List (List Str)) : Prop where
  len : hs.length = tags.length
  nd : ∀ l ∈ hs, l.Nodup
  sub : ∀ l ∈ hs, ∀ x ∈ l, x ∈ done
  all : ∀ x ∈ done, ∃ l ∈ hs, x ∈ l
/-- how far a turn has come -/
structure Step (B : Nat → Bool) (x : Str) (hs hs' : List (List Str)) (j : Nat) : Prop where
  len : hs'.length = hs.length
  hi : ∀ k, j ≤ k → hs'[k]? = hs[k]?
  lo : ∀ k, k < j → ∀ l, hs[k]? = some l → ∃ l', hs'[k]? = some l' ∧ if B k then l'.Perm (x :: l) else l' = l
theorem Step.put {B : Nat → Bool} {x : Str} {hs hs' : List (List Str)} {j : Nat} (s : Step B x hs hs' j) (hb : B j = true) {l l2 : List Str} (e : hs[j]? = some l) (p : l2.Perm (x :: l)) : Step B x hs (hs'.set j l2) (j + 1) := by
  have hj : j < hs'.length := by rw [s.len]; exact (List.getElem?_eq_some_iff.mp e).1
  refine ⟨by rw [List.length_set]; exact s.len, fun k hk => ?_, fun k hk l0 e0 => ?_⟩
  · rw [List.getElem?_set_ne (by omega)]
    exact s.hi k (by omega)
  · by_cases h : k = j
    · subst h
      rw [e] at e0
      cases e0
      exact ⟨l2, List.getElem?_set_self hj, by rw [if_pos hb]; exact p⟩
    · rw [List.getElem?_set_ne (fun z => h z.symm)]
      exact s.lo k (by omega) l0 e0
theorem Step.skip {B : Nat → Bool} {x : Str} {hs hs' : List (List Str)} {j : Nat} (s : Step B x hs hs' j) (hb : B j = false) : Step B x hs hs' (j + 1) := by
  refine ⟨s.len, fun k hk => s.hi k (by omega), fun k hk l e => ?_⟩
  by_cases h : k = j
  · subst h
    exact ⟨l, by rw [s.hi k (Nat.le_refl _)]; exact e, by rw [if_neg (by rw [hb]; exact Bool.false_ne_true)]⟩
  · exact s.lo k (by omega) l e
theorem Step.held {B : Nat → Bool} {x : Str} {hs hs' : List (List Str)} {tags done : List Str} (s : Step B x hs hs' hs.length) (h : Held tags done hs) (hx : x ∉ done) {k : Nat} (hk : k < hs.length) (hb : B k = true) : Held tags (done ++ [x]) hs' := by
  have key : ∀ l' ∈ hs', ∃ l ∈ hs, l'.Perm (x :: l) ∨ l' = l := fun l' hl => by
    obtain ⟨i, hi, rfl⟩ := List.getElem_of_mem hl
    have hi2 : i < hs.length := by rw [← s.len]; exact hi
    obtain ⟨l2, e1, e2⟩ := s.lo i hi2 _ (List.getElem?_eq_getElem hi2)
    rw [List.getElem?_eq_getElem hi] at e1
    cases e1
    refine ⟨_, List.getElem_mem hi2, ?_⟩
    split at e2
    · exact .inl e2
    · exact .inr e2
  refine ⟨s.len.trans h.len, fun l' hl => ?_, fun l' hl y hy => ?_, fun y hy => ?_⟩
  · obtain ⟨l, hm, p | rfl⟩ := key l' hl
    · exact p.nodup_iff.mpr (List.nodup_cons.mpr ⟨fun z => hx (h.sub l hm x z), h.nd l hm⟩)
    · exact h.nd _ hm
  · obtain ⟨l, hm, p | rfl⟩ := key l' hl
    · rcases List.mem_cons.mp (p.mem_iff.mp hy) with rfl | z
      · exact List.mem_append_right _ (List.mem_singleton.mpr rfl)
      · exact List.mem_append_left _ (h.sub l hm y z)
    · exact List.mem_append_left _ (h.sub _ hm y hy)
  · rcases List.mem_append.mp hy with hy | hy
    · obtain ⟨l, hm, hyl⟩ := h.all y hy
      obtain ⟨i, hi, rfl⟩ := List.getElem_of_mem hm
      obtain ⟨l2, e1, e2⟩ := s.lo i hi _ (List.getElem?_eq_getElem hi)
      refine ⟨l2, List.mem_of_getElem? e1, ?_⟩
      split at e2
      · exact e2.mem_iff.mpr (List.mem_cons_of_mem _ hyl)
      · rw [e2]; exact hyl
    · rw [List.mem_singleton.mp hy]
      obtain ⟨l2, e1, e2⟩ := s.lo k hk _ (List.getElem?_eq_getElem hk)
      rw [if_pos hb] at e2
      exact ⟨l2, List.mem_of_getElem? e1, e2.mem_iff.mpr List.mem_cons_self⟩
end
section
set_option maxHeartbeats 1000000
/-! Tables: holdings that are right. -/

open PySem L2 DL Co

/-- rows that make a table -/
structure TabR (n : Nat) (R : List (Str × List Str)) : Prop where
  nm : Nms n (R.map (·.1))
  n0 : 0 < n
  n12 : n ≤ 12
  kn : ∀ r ∈ R, (∀ x ∈ r.2, Nm x) ∧ r.2.Nodup ∧ r.2.length ≤ 60
  kk : (R.flatMap (·.2)).eraseDups.length ≤ 10
section
variable {st : S} {Q : D → S → Prop} {A : D}
theorem ed_nodup : ∀ {xs : List Str}, xs.Nodup → xs.eraseDups = xs
  | [], _ => rfl
  | x :: r, h => by
    obtain ⟨h1, h2⟩ := List.nodup_cons.mp h
    rw [List.eraseDups_cons, List.filter_eq_self.mpr fun y hy => ?_, ed_nodup h2]
    have : y ≠ x := fun e => h1 (e ▸ hy)
    simp [this]
end
/-- all kinds -/
def kindsR (R : List (Str × List Str)) : List Str := R.flatMap (·.2)
section
variable {st : S} {Q : D → S → Prop} {A : D} {ds : List D} {n : Nat} {R : List (Str × List Str)}
end
end
section
set_option maxHeartbeats 1000000
/-! Tables: making one, its methods. -/

open PySem L2 DL Co

/-- the kinds of a find -/
def lkR (R : List (Str × List Str)) (x : Str) : List Str := (R.lookup x).getD []
section
variable {st : S} {Q : D → S → Prop}
end
section
variable {st : S} {Q : D → S → Prop} {A : D} {ds : List D} {n : Nat} {R : List (Str × List Str)}
theorem lk_mem {R : List (Str × List Str)} {x : Str} (h : x ∈ R.map (·.1)) : ∃ r ∈ R, r.1 = x ∧ lkR R x = r.2 := by
  induction R with
  | nil => cases h
  | cons r R ih =>
    unfold lkR
    rw [List.lookup_cons]
    by_cases e : x = r.1
    · subst e
      simp only [beq_self_eq_true, Option.getD_some]
      exact ⟨r, List.mem_cons_self, rfl, rfl⟩
    · have h2 : (x == r.1) = false := beq_eq_false_iff_ne.mpr e
      rw [h2]
      rw [List.map_cons] at h
      rcases List.mem_cons.mp h with z | h
      · exact absurd z e
      · obtain ⟨r', h1, h3, h4⟩ := ih h
        exact ⟨r', List.mem_cons_of_mem _ h1, h3, h4⟩
theorem mem_setS {xs : List Str} {x : Str} : x ∈ setS xs ↔ x ∈ xs := by
  unfold setS
  rw [(sortS_perm _).mem_iff, List.mem_eraseDups]
end
end
section
set_option maxHeartbeats 1000000
/-! Tables: in, holds, kinds, lot_of_kind, finds. -/

open PySem L2 DL Co

def nmR (R : List (Str × List Str)) : List Str := R.map (·.1)
theorem setS_len (xs : List Str) : (setS xs).length = xs.eraseDups.length := (sortS_perm _).length_eq
theorem setS_nodup (xs : List Str) : (setS xs).Nodup := (sortS_perm _).nodup_iff.mpr (nodup_ed _ xs (Nat.le_refl _))
section
variable {st : S} {Q : D → S → Prop} {n : Nat} {T : List (Str × List Str)}
theorem t_nameR (hT : TabR n T) : Nms n (setS (nmR T)) := (setS_setS hT.nm).2
end
end
section
set_option maxHeartbeats 1000000
/-! Tables: the book of a table; a drawn stock makes a table. -/

open PySem L2 DL Co

section
variable {st : S} {Q : D → S → Prop} {n : Nat} {T : List (Str × List Str)}
theorem lk_of (nd : (T.map (·.1)).Nodup) {r : Str × List Str} (hr : r ∈ T) : lkR T r.1 = r.2 := by
  obtain ⟨r', hr', e1, e2⟩ := lk_mem (List.mem_map.mpr ⟨r, hr, rfl⟩)
  have : r' = r := by
    obtain ⟨i, hi, e3⟩ := List.getElem_of_mem hr
    obtain ⟨j, hj, e4⟩ := List.getElem_of_mem hr'
    have := nd_inj nd (i := i) (j := j) (by rw [List.length_map]; exact hi) (by rw [List.length_map]; exact hj) (by rw [List.getElem_map, List.getElem_map, e3, e4, e1])
    subst this
    rw [← e3, ← e4]
  rw [e2, this]
end
section
variable {a b : S} {hs : List (List Str)} {tags sorts : List Str} {s : S} {m : Nat}
end
/-! dict(rows) -/
section
variable {st : S} {Q : D → S → Prop} {A : D} {ds : List D} {T : List (Str × List Str)}
end
end
section
set_option maxHeartbeats 1000000
/-! k10: the book of a drawn table. -/

open PySem L2 DL Co

theorem sortS_le (xs : List Str) : (sortS xs).Pairwise fun a b => (!ltS b a) = true := List.pairwise_mergeSort (le := fun a b => !ltS b a) (fun a b c h1 h2 => leS_trans (a := a) (b := b) (c := c) h1 h2) (fun a b => ltS_total a b) xs
theorem setS_nodup_eq {xs : List Str} (h : xs.Nodup) : setS xs = sortS xs := by unfold setS; rw [ed_nodup h]
section
variable {st : S} {Q : D → S → Prop}
end
end
section
set_option maxHeartbeats 1000000
/-! k10: the law. -/

open PySem L2 DL Co

/-- a lot that is a stretch of an order -/
def Strch (xs p : List Str) : Prop := ∃ a m b, xs = a ++ m ++ b ∧ m ≠ [] ∧ p.Perm m
theorem Strch.oc {xs p : List Str} (h : Strch xs p) (nd : xs.Nodup) : ∃ a m b, OC xs p a m b ∧ gapS p m = [] := by
  obtain ⟨a, m, b, e, hm, pm⟩ := h
  subst e
  rw [List.nodup_append, List.nodup_append] at nd
  obtain ⟨⟨na, nm, nab⟩, nb, nc⟩ := nd
  refine ⟨a, m, b, ⟨rfl, ⟨fun x hx => ?_, fun x hx => ?_, ?_, ?_⟩⟩, List.filter_eq_nil_iff.mpr fun x hx => ?_⟩
  · exact decide_eq_false fun z => nab x hx x (pm.mem_iff.mp z) rfl
  · exact decide_eq_false fun z => nc x (List.mem_append_right _ (pm.mem_iff.mp z)) x hx rfl
  · obtain ⟨y, r, rfl⟩ : ∃ y r, m = y :: r := by
      cases m with
      | nil => exact absurd rfl hm
      | cons y r => exact ⟨y, r, rfl⟩
    exact ⟨y, r, rfl, decide_eq_true (pm.mem_iff.mpr List.mem_cons_self)⟩
  · obtain ⟨r, y, rfl⟩ : ∃ r y, m = r ++ [y] := by
      rcases List.eq_nil_or_concat m with e | ⟨r, y, e⟩
      · exact absurd e hm
      · exact ⟨r, y, by rw [e, List.concat_eq_append]⟩
    exact ⟨r, y, rfl, decide_eq_true (pm.mem_iff.mpr (by simp))⟩
  · rw [decide_eq_true (pm.mem_iff.mpr hx)]
    exact Bool.false_ne_true
theorem Strch.rev {xs p : List Str} (h : Strch xs p) : Strch xs.reverse p := by
  obtain ⟨a, m, b, e, hm, pm⟩ := h
  exact ⟨b.reverse, m.reverse, a.reverse, by rw [e]; simp, by simpa using hm, pm.trans (List.reverse_perm m).symm⟩
section
variable {st : S} {n : Nat} {pool labels xs : List Str} {L : List (List Str)} {ns : List Int} {a2 a6 a9 a11 a12 a13 a14 a15 a16 : Sl} {w : Int}
end
end
section
set_option maxHeartbeats 1000000
/-! k06: what a table tells: kinds_of, text, str, repr, len, ==. -/

open PySem L2 DL Co

/-- the rows of a table's text -/
def rowT (T : List (Str × List Str)) (x : Str) : List Str := "find" :: x :: setS (lkR T x)
def rowsT (T : List (Str × List Str)) : List (List Str) := (setS (nmR T)).map (rowT T)
theorem nm_find : Nm "find" := Nm_of (by decide)
section
variable {n : Nat} {T : List (Str × List Str)}
theorem lk_ok (hT : TabR n T) {x : Str} (hx : x ∈ nmR T) : (∀ y ∈ setS (lkR T x), Nm y) ∧ (setS (lkR T x)).length ≤ 60 := by
  obtain ⟨r, hr, _, e⟩ := lk_mem hx
  have h := hT.kn r hr
  rw [e]
  refine ⟨fun y hy => h.1 y (mem_setS.mp hy), ?_⟩
  rw [setS_len, ed_nodup h.2.1]
  exact h.2.2
theorem rowsT_ok (hT : TabR n T) : RowsOk (rowsT T) := by
  have hS := t_nameR hT
  have lS := hS.len
  have := hT.n12
  refine ⟨fun r hr x hx => ?_, fun r hr => ?_, ?_⟩
  · obtain ⟨y, hy, rfl⟩ := List.mem_map.mp hr
    rcases List.mem_cons.mp hx with rfl | hx
    · exact nm_find
    · rcases List.mem_cons.mp hx with rfl | hx
      · exact hS.nm _ hy
      · exact (lk_ok hT (mem_setS.mp hy)).1 x hx
  · obtain ⟨y, hy, rfl⟩ := List.mem_map.mp hr
    have := (lk_ok hT (mem_setS.mp hy)).2
    simp only [rowT, List.length_cons]
    omega
  · unfold rowsT
    rw [List.length_map]
    omega
end
section
variable {st : S} {Q : D → S → Prop} {n : Nat} {T : List (Str × List Str)}
/-! == -/
end
end
section
set_option maxHeartbeats 1000000
/-! k06: what the law writes about a table. -/

open PySem L2 DL Co

section
variable {A : D} {st : S} {ds : List D} {Q : D → S → Prop} {t : Tg} {ρ : Ev} {i : Nat}
end
section
variable {st : S} {Q : D → S → Prop} {ds : List D} {n : Nat} {R : List (Str × List Str)}
end
end
section
set_option maxHeartbeats 1000000
/-! k06: whether a table tells what is due. -/

open PySem L2 DL Co

section
variable {st : S} {Q : D → S → Prop} {ds : List D} {n : Nat} {R : List (Str × List Str)}
end
end
section
set_option maxHeartbeats 1000000
/-! k06: the drawn rows, their kinds as lists of the store or as tuples. -/

open PySem L2 DL Co

/-- a list, a tuple, or a list of the store's part b behind the state -/
def VB (b : S) (A : D) (xs : List Str) : Prop := A = .lst (xs.map .str) ∨ A = tupS xs ∨ ∃ k, A = .ref (k + 1) ∧ b[k]? = some (MOh xs)
/-- a tuple, or a list of the store from the m-th on -/
def VN (m : Nat) (b : S) (A : D) (xs : List Str) : Prop := A = tupS xs ∨ ∃ k, m ≤ k ∧ A = .ref (k + 1) ∧ b[k]? = some (MOh xs)
theorem get_app {b c : S} {k : Nat} {o : MO} (e : b[k]? = some o) : (b ++ c)[k]? = some o := by
  rw [List.getElem?_append_left (List.getElem?_eq_some_iff.mp e).1]
  exact e
theorem VB.app {b c : S} {A : D} {xs : List Str} (h : VB b A xs) : VB (b ++ c) A xs := by
  rcases h with h | h | ⟨k, h, e⟩
  · exact .inl h
  · exact .inr (.inl h)
  · exact .inr (.inr ⟨k, h, get_app e⟩)
theorem VN.app {m : Nat} {b c : S} {A : D} {xs : List Str} (h : VN m b A xs) : VN m (b ++ c) A xs := by
  rcases h with h | ⟨k, hk, h, e⟩
  · exact .inl h
  · exact .inr ⟨k, hk, h, get_app e⟩
section
variable {st : S} {Q : D → S → Prop}
end
end
section
set_option maxHeartbeats 1000000
/-! k06: the lists that a table tells are changed; drawn values are asked of it. -/

open PySem L2 DL Co

section
variable {st : S} {Q : D → S → Prop} {A : D} {ds : List D} {T : List (Str × List Str)}
end
section
variable {st : S} {Q : D → S → Prop} {n : Nat} {R : List (Str × List Str)} {ds : List D}
/-! what is due -/
end
end
section
set_option maxHeartbeats 1000000
/-! k06: drawn values asked of a table. -/

open PySem L2 DL Co

section
variable {st : S} {Q : D → S → Prop} {n : Nat} {R : List (Str × List Str)} {ds : List D} {kvs : List (Key × D)}
end
end
section
set_option maxHeartbeats 1000000
/-! k06: tables that are alike or not; tables of other finds; rows that are changed behind the call. -/

open PySem L2 DL Co

section
variable {st : S} {Q : D → S → Prop}
end
section
variable {st : S} {Q : D → S → Prop} {Qe : Ev → S → Prop} {T : D → S → Prop}
end
end
section
set_option maxHeartbeats 1000000
/-! k06: the law's parts. -/

open PySem L2 DL Co

/-! a table that is near -/
section
variable {n k : Nat} {R : List (Str × List Str)} {r : Str × List Str} {o : List Str}
end
section
variable {st : S} {Q : D → S → Prop} {A : D} {ds : List D}
end
end
section
set_option maxHeartbeats 1000000
/-! k06: the law's parts, walked. -/

open PySem L2 DL Co

section
variable {st : S} {n k : Nat} {R : List (Str × List Str)} {ds : List D} {bs c : S} {ns : List Int} {a3 a6 a7 a8 a11 a13 a14 a15 a16 a17 : Sl} {tags : List D} {sorts o : List Str} {r : Str × List Str}
end
end
section
set_option maxHeartbeats 1000000
/-! k06: the law. -/

open PySem L2 DL Co

section
variable {st : S} {n : Nat} {R R1 R2 : List (Str × List Str)} {ds es : List D} {bs c1 c2 : S} {ns : List Int} {a7 a8 a9 a10 a11 a14 a15 a16 a17 : Sl} {tags : List D} {sorts pool : List Str}
end
end
section
set_option maxHeartbeats 1000000
/-! k19: texts cut at signs. -/

open PySem L2 DL Co
theorem pre1 (s c : Nat) (r : List Nat) : TL.pre [s] (c :: r) = decide (c = s) := by
  unfold TL.pre
  show ([c] == [s]) = _
  rw [Bool.eq_iff_iff, beq_iff_eq, decide_eq_true_eq]
  exact ⟨fun h => by injection h, fun h => by rw [h]⟩
/-- cut at one sign: each other sign is in a part -/
theorem spl_mem {s : Nat} : ∀ {l acc : List Nat} {c : Nat}, c ≠ s → c ∈ acc ++ l → ∃ w ∈ TL.spl [s] 0 acc l, c ∈ w
  | [], acc, c, hc, h => by
    rw [List.append_nil] at h
    rw [TL.spl_nil]
    exact ⟨acc, List.mem_singleton.mpr rfl, h⟩
  | d :: r, acc, c, hc, h => by
    by_cases e : d = s
    · have hp : TL.pre [s] (d :: r) = true := by rw [pre1, decide_eq_true e]
      rw [TL.spl_hit hp]
      rcases List.mem_append.mp h with h | h
      · exact ⟨acc, List.mem_cons_self, h⟩
      · rcases List.mem_cons.mp h with h | h
        · exact absurd (h.trans e) hc
        · obtain ⟨w, h1, h2⟩ := spl_mem (l := r) (acc := []) hc h
          exact ⟨w, List.mem_cons_of_mem _ h1, h2⟩
    · have hp : TL.pre [s] (d :: r) = false := by rw [pre1, decide_eq_false e]
      rw [TL.spl_miss hp]
      exact spl_mem hc (by rw [List.append_assoc]; exact h)
theorem spl_ne {S : List Nat} : ∀ (l acc : List Nat), TL.spl S 0 acc l ≠ []
  | [], acc => by rw [TL.spl_nil]; simp
  | c :: r, acc => by
    cases h : TL.pre S (c :: r) with
    | true => rw [TL.spl_hit h]; simp
    | false => rw [TL.spl_miss h]; exact spl_ne r _
/-- the parts have no separator and only signs of the text -/
theorem spl_sub {s : Nat} : ∀ {l acc : List Nat}, (∀ c ∈ acc, c ≠ s) → ∀ w ∈ TL.spl [s] 0 acc l, ∀ c ∈ w, c ∈ acc ++ l ∧ c ≠ s
  | [], acc, ha, w, hw, c, hc => by
    rw [TL.spl_nil] at hw
    rw [List.mem_singleton.mp hw] at hc
    exact ⟨by rw [List.append_nil]; exact hc, ha c hc⟩
  | d :: r, acc, ha, w, hw, c, hc => by
    by_cases e : d = s
    · have hp : TL.pre [s] (d :: r) = true := by rw [pre1, decide_eq_true e]
      rw [TL.spl_hit hp] at hw
      rcases List.mem_cons.mp hw with rfl | hw
      · exact ⟨List.mem_append_left _ hc, ha c hc⟩
      · obtain ⟨h1, h2⟩ := spl_sub (l := r) (acc := []) (fun _ z => (by cases z)) w hw c hc
        exact ⟨List.mem_append_right _ (List.mem_cons_of_mem _ h1), h2⟩
    · have hp : TL.pre [s] (d :: r) = false := by rw [pre1, decide_eq_false e]
      rw [TL.spl_miss hp] at hw
      obtain ⟨h1, h2⟩ := spl_sub (l := r) (acc := acc ++ [d]) (fun c hc => by
        rcases List.mem_append.mp hc with hc | hc
        · exact ha c hc
        · rw [List.mem_singleton.mp hc]; exact e) w hw c hc
      rw [List.append_assoc] at h1
      exact ⟨h1, h2⟩
/-- all parts and the signs between them -/
def wsum (L : List (List Nat)) : Nat := (L.map fun w => w.length + 1).sum
theorem spl_sum {s : Nat} : ∀ (l acc : List Nat), wsum (TL.spl [s] 0 acc l) = acc.length + l.length + 1
  | [], acc => by
    rw [TL.spl_nil]
    simp [wsum]
  | d :: r, acc => by
    by_cases e : d = s
    · have hp : TL.pre [s] (d :: r) = true := by rw [pre1, decide_eq_true e]
      rw [TL.spl_hit hp]
      have := spl_sum (s := s) r []
      unfold wsum at this ⊢
      rw [List.map_cons, List.sum_cons, show [s].length - 1 = 0 from rfl, this]
      simp only [List.length_cons, List.length_nil]
      omega
    · have hp : TL.pre [s] (d :: r) = false := by rw [pre1, decide_eq_false e]
      rw [TL.spl_miss hp, spl_sum r (acc ++ [d])]
      simp only [List.length_append, List.length_cons, List.length_nil]
      omega
/-- rows, each with the sign behind it -/
theorem spl_rows {s : Nat} : ∀ (L : List (List Nat)) (t : List Nat), (∀ w ∈ L, s ∉ w) → TL.spl [s] 0 [] ((L.map (· ++ [s])).flatten ++ t) = L ++ TL.spl [s] 0 [] t
  | [], t, _ => rfl
  | w :: L, t, h => by
    rw [List.map_cons, List.flatten_cons, List.append_assoc, List.append_assoc]
    have := TL.spl_part1 (s := s) (S := []) (p := w) (acc := []) (rest := (L.map (· ++ [s])).flatten ++ t) (h w List.mem_cons_self)
    rw [List.nil_append] at this
    rw [this, spl_rows L t fun w hw => h w (List.mem_cons_of_mem _ hw)]
    rfl
/-! texts -/
theorem split_1c (x : Str) (s : Nat) (y : Str) (ey : TL.tl y = [s]) (hk : y.cps.all (· < 256) = true) : (Txt.split x y).map TL.tl = TL.spl [s] 0 [] (TL.tl x) := by
  rw [TL.split_spl x y (by rw [ey]; simp) (TL.kind_ok hk), ey]
theorem tl_sp : TL.tl (Str.ofString " ") = [32] := by decide
theorem tl_nl : TL.tl (Str.ofString "\n") = [10] := by decide
theorem split_sp (x : Str) : (Txt.split x " ").map TL.tl = TL.spl [32] 0 [] (TL.tl x) := split_1c x 32 _ tl_sp (by decide +kernel)
theorem split_nl (x : Str) : (Txt.split x "\n").map TL.tl = TL.spl [10] 0 [] (TL.tl x) := split_1c x 10 _ tl_nl (by decide +kernel)
def mkS (l : List Nat) : Str := ⟨l.toArray⟩
theorem tl_mkS (l : List Nat) : TL.tl (mkS l) = l := rfl
theorem mkS_tl (x : Str) : mkS (TL.tl x) = x := TL.mk_tl x
theorem split_sp2 (x : Str) : Txt.split x " " = (TL.spl [32] 0 [] (TL.tl x)).map mkS := by
  rw [← split_sp, List.map_map]
  exact (List.map_id' _).symm.trans (List.map_congr_left fun y _ => (mkS_tl y).symm)
theorem split_nl2 (x : Str) : Txt.split x "\n" = (TL.spl [10] 0 [] (TL.tl x)).map mkS := by
  rw [← split_nl, List.map_map]
  exact (List.map_id' _).symm.trans (List.map_congr_left fun y _ => (mkS_tl y).symm)
end
section
set_option maxHeartbeats 1000000
/-! k19: the two readers of numbers. -/

open PySem L2 DL Co

section
variable {st : S} {Q : D → S → Prop} {w : Str}
theorem tl_len (w : Str) : w.length = (TL.tl w).length := TL.len_tl w
end
end
section
set_option maxHeartbeats 1000000
/-! k19: the entry that two lists of words write. -/

open PySem L2 DL Co

section
variable {st : S} {Q : D → S → Prop} {ρ : Ev} {fa fb f : Ev → S → DL.R D} {Qe : Ev → S → Prop} {Tt : D → S → Prop}
end
/-- texts of at most 990 signs -/
def plL (a : Str) : Prop := a.length ≤ 990 ∧ ∀ c ∈ TL.tl a, c < 1114112
/-! what the words write -/
end
section
set_option maxHeartbeats 1000000
/-! k19: the two readers of an entry's line. -/

open PySem L2 DL Co

section
variable {st : S} {Q : D → S → Prop}
end
end
section
set_option maxHeartbeats 1000000
/-! k19: the program's reader and the law's reader of a line tell the same. -/

open PySem L2 DL Co

section
variable {st : S} {Q : D → S → Prop}
end
end
section
set_option maxHeartbeats 1000000
/-! k19: the program's reader and the law's reader of a text. -/

open PySem L2 DL Co

/-- a text by its lines, the rest behind the last line feed -/
structure TxOK (x : Str) (L : List Str) (t : Str) : Prop where
  e : Txt.split x "\n" = L ++ [t]
  pl : ∀ a ∈ L, plL a
  n : L.length ≤ 900
  len : x.length ≤ 900000
section
variable {st : S} {Q : D → S → Prop}
end
end
section
set_option maxHeartbeats 1000000
/-! k19: the line of an entry, read back. -/

open PySem L2 DL Co

/-- an entry that can be written -/
structure EW (s : Sg) (rl : Rl) : Prop where
  k : s.ok
  n : ∀ p : List Str, s = .lot p → p.length ≤ 12
  b : rl.bel 1000
  m : rl.mk_
/-- a word of a line -/
def Cl1 (w : Str) : Prop := (∀ c ∈ TL.tl w, c ≠ 32 ∧ c ≠ 58 ∧ c ≠ 10 ∧ c < 1114112) ∧ w.length ≤ 6
theorem cl_nm {w : Str} (h : Nm w) : Cl1 w := ⟨fun c hc => by have := h.1 c hc; omega, h.2.2⟩
section
variable {s : Sg} {rl : Rl}
theorem joinW_ok {ws : List Str} (hne : ws ≠ []) (hw : ∀ w ∈ ws, Cl1 w) : (∀ c ∈ TL.tl (Txt.join " " ws), c ≠ 58 ∧ c ≠ 10 ∧ c < 1114112) ∧ (Txt.join " " ws).length ≤ 7 * ws.length ∧ Txt.split (Txt.join " " ws) " " = ws := by
  refine ⟨?_, ?_, TL.split_join tl_sp (by decide +kernel) hne fun p hp z => (hw p hp).1 32 z |>.1 rfl⟩
  · rw [TL.join_eq, TL.tl_join]
    have e : TL.tl (" " : Str) = [32] := tl_sp
    rw [e]
    have key : ∀ L : List (List Nat), (∀ l ∈ L, ∀ c ∈ l, c ≠ 58 ∧ c ≠ 10 ∧ c < 1114112) → ∀ c ∈ TL.joinL [32] L, c ≠ 58 ∧ c ≠ 10 ∧ c < 1114112 := by
      intro L
      induction L with
      | nil => intro _ c hc; cases hc
      | cons p L ih =>
        intro h c hc
        cases L with
        | nil => exact h p List.mem_cons_self c hc
        | cons q r =>
          have hc : c ∈ p ++ ([32] ++ TL.joinL [32] (q :: r)) := hc
          rcases List.mem_append.mp hc with hc | hc
          · exact h p List.mem_cons_self c hc
          · rcases List.mem_append.mp hc with hc | hc
            · rw [List.mem_singleton.mp hc]; decide
            · exact ih (fun l hl => h l (List.mem_cons_of_mem _ hl)) c hc
    refine key _ fun l hl c hc => ?_
    obtain ⟨w, hw2, rfl⟩ := List.mem_map.mp hl
    exact ((hw w hw2).1 c hc).2
  · rw [TL.join_eq, tl_len, TL.tl_join]
    have e : TL.tl (" " : Str) = [32] := tl_sp
    rw [e]
    have key : ∀ L : List Str, (∀ w ∈ L, Cl1 w) → (TL.joinL [32] (L.map TL.tl)).length ≤ 7 * L.length := by
      intro L
      induction L with
      | nil => intro _; exact Nat.le_refl _
      | cons p L ih =>
        intro h
        have h1 := (h p List.mem_cons_self).2
        rw [tl_len] at h1
        cases L with
        | nil => 
          show (TL.tl p).length ≤ _
          simp only [List.length_cons, List.length_nil]
          omega
        | cons q r =>
          have h2 := ih fun w hw => h w (List.mem_cons_of_mem _ hw)
          show (TL.tl p ++ ([32] ++ TL.joinL [32] ((q :: r).map TL.tl))).length ≤ _
          rw [List.length_append, List.length_append, List.length_singleton]
          simp only [List.length_cons] at h2 ⊢
          omega
    exact key ws hw
end
end
section
set_option maxHeartbeats 1000000
/-! k19: texts of lines, cut and bent. -/

open PySem L2 DL Co

def textN (L : List Str) : Str := Txt.join "" (L.map fun l => l ++ Str.ofString "\n")
theorem joinL_nil : ∀ L : List (List Nat), TL.joinL [] L = L.flatten
  | [] => rfl
  | [p] => by
    show p = [p].flatten
    simp
  | p :: q :: r => by
    show p ++ ([] ++ TL.joinL [] (q :: r)) = _
    rw [joinL_nil (q :: r), List.nil_append, List.flatten_cons (l := p)]
theorem tl_textN (L : List Str) : TL.tl (textN L) = ((L.map TL.tl).map (· ++ [10])).flatten := by
  unfold textN
  rw [TL.join_eq, TL.tl_join]
  have e : TL.tl ("" : Str) = [] := by decide
  rw [e, joinL_nil, List.map_map, List.map_map]
  congr 1
  exact List.map_congr_left fun l _ => by
    show TL.tl (l ++ Str.ofString "\n") = TL.tl l ++ [10]
    rw [TL.tl_append, tl_nl]
/-- rows of a text -/
def RowsB (B : Nat) (L : List Str) : Prop := ∀ r ∈ L, r.length ≤ B ∧ ∀ c ∈ TL.tl r, c ≠ 10 ∧ c < 1114112
theorem flat_len {L : List Str} {B : Nat} (h : RowsB B L) : ((L.map TL.tl).map (· ++ [10])).flatten.length ≤ (B + 1) * L.length := by
  induction L with
  | nil => exact Nat.le_refl _
  | cons r L ih =>
    have h1 := (h r List.mem_cons_self).1
    have h2 := ih fun x hx => h x (List.mem_cons_of_mem _ hx)
    rw [tl_len] at h1
    rw [List.map_cons, List.map_cons, List.flatten_cons, List.length_append, List.length_append, List.length_cons (as := L), Nat.mul_add]
    simp only [List.length_cons, List.length_nil]
    omega
theorem text_len {L : List Str} {B : Nat} (h : RowsB B L) : (textN L).length ≤ (B + 1) * L.length := by
  rw [tl_len, tl_textN]
  exact flat_len h
/-- any text whose lines are short -/
theorem tx_any {x : Str} (h1 : ∀ w ∈ TL.spl [10] 0 [] (TL.tl x), w.length ≤ 990 ∧ ∀ c ∈ w, c < 1114112) (h2 : (TL.spl [10] 0 [] (TL.tl x)).length ≤ 901) (h3 : x.length ≤ 900000) : ∃ L t, TxOK x L t := by
  have e := split_nl2 x
  rcases List.eq_nil_or_concat (TL.spl [10] 0 [] (TL.tl x)) with e2 | ⟨l, w, e2⟩
  · exact absurd e2 (spl_ne _ _)
  · rw [List.concat_eq_append] at e2
    rw [e2] at h1 h2
    rw [e2, List.map_append] at e
    refine ⟨l.map mkS, mkS w, ⟨e, fun a ha => ?_, ?_, h3⟩⟩
    · obtain ⟨v, hv, rfl⟩ := List.mem_map.mp ha
      have := h1 v (List.mem_append_left _ hv)
      exact ⟨by rw [tl_len, tl_mkS]; exact this.1, this.2⟩
    · rw [List.length_append] at h2
      rw [List.length_map]
      simp only [List.length_cons, List.length_nil] at h2
      omega
section
variable {L : List Str} {B : Nat}
theorem rows_spl (h : RowsB B L) (t : List Nat) : TL.spl [10] 0 [] (((L.map TL.tl).map (· ++ [10])).flatten ++ t) = L.map TL.tl ++ TL.spl [10] 0 [] t :=
  spl_rows _ t fun w hw z => by
    obtain ⟨r, hr, rfl⟩ := List.mem_map.mp hw
    exact ((h r hr).2 10 z).1 rfl
/-- the text of rows -/
theorem tx_rows (h : RowsB B L) (hB : B ≤ 990) (hn : L.length ≤ 900) : TxOK (textN L) L (Str.ofString "") := by
  refine ⟨?_, fun a ha => ⟨by have := (h a ha).1; omega, fun c hc => ((h a ha).2 c hc).2⟩, hn, ?_⟩
  · have e := rows_spl h []
    rw [List.append_nil, TL.spl_nil] at e
    rw [split_nl2, tl_textN, e, List.map_append, List.map_map]
    have e2 : L.map (mkS ∘ TL.tl) = L := (List.map_congr_left fun y _ => mkS_tl y).trans (List.map_id _)
    rw [e2]
    rfl
  · have h1 := text_len h
    have : (B + 1) * L.length ≤ 991 * 900 := Nat.mul_le_mul (by omega) hn
    omega
end
end
section
set_option maxHeartbeats 1000000
/-! k19: lines written. -/

open PySem L2 DL Co

section
variable {st : S} {Q : D → S → Prop} {s : Sg} {rl : Rl}
/-! texts of lines -/
theorem RowsB.mono {L : List Str} {B C : Nat} (h : RowsB B L) (hc : B ≤ C) : RowsB C L := fun r hr => ⟨Nat.le_trans (h r hr).1 hc, (h r hr).2⟩
end
end
section
set_option maxHeartbeats 1000000
/-! k19: lines and texts, bent. -/

open PySem L2 DL Co

def OKc (w : Str) : Prop := ∀ c ∈ TL.tl w, c ≠ 10 ∧ c < 1114112
def wsS (ws : List Str) : Nat := (ws.map fun w => w.length + 1).sum
theorem wsS_split (x : Str) : wsS (Txt.split x " ") = x.length + 1 := by
  have h := spl_sum (s := 32) (TL.tl x) []
  have e : wsS (Txt.split x " ") = wsum (TL.spl [32] 0 [] (TL.tl x)) := by
    unfold wsS wsum
    rw [split_sp2, List.map_map]
    congr 1
  rw [e, h, tl_len]
  simp
theorem joinG {ws : List Str} (h : ∀ w ∈ ws, OKc w) : OKc (Txt.join " " ws) ∧ (Txt.join " " ws).length ≤ wsS ws := by
  have e : TL.tl (" " : Str) = [32] := tl_sp
  have et : TL.tl (Txt.join " " ws) = TL.joinL [32] (ws.map TL.tl) := by rw [TL.join_eq, TL.tl_join, e]
  have key : ∀ L : List Str, (∀ w ∈ L, OKc w) → (∀ c ∈ TL.joinL [32] (L.map TL.tl), c ≠ 10 ∧ c < 1114112) ∧ (TL.joinL [32] (L.map TL.tl)).length ≤ wsS L := by
    intro L
    induction L with
    | nil => intro _; exact ⟨fun c hc => (by cases hc), Nat.le_refl _⟩
    | cons p L ih =>
      intro h
      obtain ⟨i1, i2⟩ := ih fun w hw => h w (List.mem_cons_of_mem _ hw)
      have hp := tl_len p
      cases L with
      | nil =>
        refine ⟨h p List.mem_cons_self, ?_⟩
        show (TL.tl p).length ≤ (p.length + 1) + 0
        omega
      | cons q r =>
        refine ⟨fun c hc => ?_, ?_⟩
        · have hc : c ∈ TL.tl p ++ ([32] ++ TL.joinL [32] ((q :: r).map TL.tl)) := hc
          rcases List.mem_append.mp hc with hc | hc
          · exact h p List.mem_cons_self c hc
          · rcases List.mem_append.mp hc with hc | hc
            · rw [List.mem_singleton.mp hc]; decide
            · exact i1 c hc
        · show (TL.tl p ++ ([32] ++ TL.joinL [32] ((q :: r).map TL.tl))).length ≤ _
          rw [List.length_append, List.length_append, List.length_singleton]
          show _ ≤ (p.length + 1) + wsS (q :: r)
          omega
  obtain ⟨k1, k2⟩ := key ws h
  refine ⟨?_, by rw [tl_len, et]; exact k2⟩
  unfold OKc
  rw [et]
  exact k1
def frs : List Str := ["", "0", "00", "07", "1000", "-1", "a", "A", "lot", "never:", "self", "word", "1:", "999"]
section
variable {b : S} {st : S} {row : Str} {pool : List Str} {B : Nat}
end
end
section
set_option maxHeartbeats 1000000
/-! k19: bent texts; drawn entries. -/

open PySem L2 DL Co

def bd : Nat → Nat
  | 0 => 200
  | 1 => 430
  | _ => 890
section
variable {b : S} {st : S} {rows pool : List Str}
end
/-! drawn entries -/
end
section
set_option maxHeartbeats 1000000
/-! k19: drawn entries; what is read of a text that was written. -/

open PySem L2 DL Co

section
variable {b : S} {st : S} {pool : List Str} {n : Nat}
end
section
variable {st : S} {Q : D → S → Prop} {es : List D}
end
end
section
set_option maxHeartbeats 1000000
/-! k19: the law. -/

open PySem L2 DL Co

section
variable {st : S} {Q : D → S → Prop}
end
section
variable {st : S} {b : S} {ns : List Int} {pool : List Str} {es : List D} {a2 a4 a5 a6 a9 a10 a11 a12 a13 a14 a15 a16 : Sl} {long : D}
end
end
section
set_option maxHeartbeats 1000000
/-! k11, k12: texts read line by line: the plain reader. -/

open PySem L2 DL Co

/-- the words of a line -/
def splW (a : Str) : List Str := Txt.split a " "
/-- the words of some line -/
structure PR (r : List Str) : Prop where
  ne : r ≠ []
  len : r.length ≤ 1000
  pl : ∀ w ∈ r, plS w = true
/-- why a line cannot stand behind the lines that were kept -/
abbrev WhyT := List Str → List (List Str) → Str
def scanW (why : WhyT) : List (List Str) → List (List Str) → Option (Nat × Str)
  | _, [] => none
  | K, r :: rs => if why r K = Str.ofString "" then scanW why (K ++ [r]) rs else some (K.length, why r K)
def badW (why : WhyT) (L : List Str) : Option (Nat × Str) := scanW why [] (L.map splW)
def itDy (k : Nat) (y : Str) : D := .tup [.str (Str.ofString "no"), .str (Str.ofString "InvalidText"), .int (k : Nat), .str y]
/-- the answer that is due for a text -/
def dueW (why : WhyT) (L : List Str) (t : Str) : D := match badW why L with
  | some (k, y) => itDy k y
  | none => if t = Str.ofString "" then .tup [.str (Str.ofString "told"), .lst ((L.map splW).map rowD)] else itDy L.length (Str.ofString "form")
/-- the walk over the lines: L0 is behind, L1 ahead -/
structure Sc (why : WhyT) (L L0 L1 : List Str) : Prop where
  e : L = L0 ++ L1
  b : badW why L = scanW why (L0.map splW) (L1.map splW)
theorem Sc.nil (why : WhyT) (L : List Str) : Sc why L [] L := ⟨rfl, rfl⟩
theorem Sc.bad {why : WhyT} {L L0 r : List Str} {a : Str} (h : Sc why L L0 (a :: r)) (hb : why (splW a) (L0.map splW) ≠ Str.ofString "") : badW why L = some (L0.length, why (splW a) (L0.map splW)) := by
  rw [h.b]
  show (if _ then _ else _) = _
  rw [if_neg hb, List.length_map]
theorem Sc.step {why : WhyT} {L L0 r : List Str} {a : Str} (h : Sc why L L0 (a :: r)) (hb : why (splW a) (L0.map splW) = Str.ofString "") : Sc why L (L0 ++ [a]) r := by
  refine ⟨by rw [List.append_assoc]; exact h.e, ?_⟩
  rw [h.b]
  show (if _ then _ else _) = _
  rw [if_pos hb, List.map_append]
  rfl
theorem Sc.fin {why : WhyT} {L L0 : List Str} (h : Sc why L L0 []) : L0 = L ∧ badW why L = none := by
  refine ⟨by rw [h.e, List.append_nil], ?_⟩
  rw [h.b]
  rfl
section
variable {st : S} {Q : D → S → Prop}
end
end
section
set_option maxHeartbeats 1000000
/-! k11, k12: lists of facts read. -/

open PySem L2 DL Co

/-- the second word of a line -/
def secW (r : List Str) : Str := r.getD 1 (Str.ofString "")
def factW (r : List Str) : D := .tup [.str (secW r), tupS (r.drop 2)]
def okF (r : List Str) : Bool := decide (r.head? = some (Str.ofString "fact")) && (decide (2 ≤ r.length) && isMark (factW r))
def whyF : WhyT := fun r K => if okF r = false then Str.ofString "form" else if K.length = 30 then Str.ofString "many" else if secW r ∈ K.map secW then Str.ofString "double" else Str.ofString ""
section
variable {st : S} {Q : D → S → Prop}
end
end
section
set_option maxHeartbeats 1000000
/-! k11, k12: read_facts. -/

open PySem L2 DL Co

section
variable {st : S} {Q : D → S → Prop}
theorem due_bad {why : WhyT} {L : List Str} {t : Str} {k : Nat} {y : Str} (h : badW why L = some (k, y)) : dueW why L t = itDy k y := by
  unfold dueW
  rw [h]
theorem due_told {why : WhyT} {L : List Str} {t : Str} (h : badW why L = none) (ht : t = Str.ofString "") : dueW why L t = .tup [.str (Str.ofString "told"), .lst ((L.map splW).map rowD)] := by
  unfold dueW
  rw [h]
  dsimp only
  rw [if_pos ht]
end
end
section
set_option maxHeartbeats 1000000
/-! k11, k12: lines of tables. -/

open PySem L2 DL Co

def rowP (r : List Str) : Str × List Str := (secW r, r.drop 2)
def okH (r : List Str) : Bool := decide (r.head? = some (Str.ofString "find")) && (decide (2 ≤ r.length) && (isName (.str (secW r)) && ((r.drop 2).isEmpty || isLot (tupS (r.drop 2)))))
def lastW (K : List (List Str)) : Str := secW (K.getLastD [])
def kindsK (K : List (List Str)) : List Str := kindsR (K.map rowP)
def whyT : WhyT := fun r K => if okH r = false then Str.ofString "form" else if K.length = 12 ∨ 10 < (kindsK (K ++ [r])).eraseDups.length then Str.ofString "many" else if K ≠ [] ∧ ltS (lastW K) (secW r) = false then Str.ofString "order" else Str.ofString ""
/-- lines that make a table -/
structure GoodT (K : List (List Str)) : Prop where
  ok : ∀ r ∈ K, okH r = true
  n : K.length ≤ 12
  kk : (kindsK K).eraseDups.length ≤ 10
  asc : (K.map secW).Pairwise fun a b => ltS a b = true
theorem whyT_ok {r : List Str} {K : List (List Str)} (h : whyT r K = Str.ofString "") : okH r = true ∧ K.length ≠ 12 ∧ (kindsK (K ++ [r])).eraseDups.length ≤ 10 ∧ (K = [] ∨ ltS (lastW K) (secW r) = true) := by
  unfold whyT at h
  split at h
  · exact absurd h (by decide)
  · rename_i h1
    split at h
    · exact absurd h (by decide)
    · rename_i h2
      split at h
      · exact absurd h (by decide)
      · rename_i h3
        refine ⟨by simpa using h1, fun e => h2 (.inl e), ?_, ?_⟩
        · exact Nat.le_of_not_lt fun e => h2 (.inr e)
        · by_cases e : K = []
          · exact .inl e
          · refine .inr ?_
            cases e2 : ltS (lastW K) (secW r) with
            | true => rfl
            | false => exact absurd ⟨e, e2⟩ h3
theorem GoodT.nil : GoodT [] := ⟨fun _ h => (by cases h), by simp, by decide, .nil⟩
theorem GoodT.step {r : List Str} {K : List (List Str)} (g : GoodT K) (h : whyT r K = Str.ofString "") : GoodT (K ++ [r]) := by
  obtain ⟨h1, h2, h3, h4⟩ := whyT_ok h
  refine ⟨fun x hx => ?_, ?_, h3, ?_⟩
  · rcases List.mem_append.mp hx with hx | hx
    · exact g.ok x hx
    · rw [List.mem_singleton.mp hx]; exact h1
  · rw [List.length_append]
    have := g.n
    simp only [List.length_cons, List.length_nil]
    omega
  · rw [List.map_append, List.pairwise_append]
    refine ⟨g.asc, List.pairwise_singleton _ _, fun a ha b hb => ?_⟩
    have hb := List.mem_singleton.mp hb
    subst hb
    rcases h4 with h4 | h4
    · subst h4
      cases ha
    · obtain ⟨k, hk, rfl⟩ := List.mem_map.mp ha
      have hne : K ≠ [] := List.ne_nil_of_mem hk
      obtain ⟨K0, l, rfl⟩ : ∃ K0 l, K = K0 ++ [l] := ⟨_, _, (List.dropLast_concat_getLast hne).symm⟩
      have el : lastW (K0 ++ [l]) = secW l := by unfold lastW; rw [List.getLastD_concat]
      rw [el] at h4
      rcases List.mem_append.mp hk with hk | hk
      · have p := g.asc
        rw [List.map_append, List.pairwise_append] at p
        exact ltS_trans (p.2.2 _ (List.mem_map.mpr ⟨k, hk, rfl⟩) _ (by simp)) h4
      · rw [List.mem_singleton.mp hk]
        exact h4
section
variable {st : S} {Q : D → S → Prop}
end
end
section
set_option maxHeartbeats 1000000
/-! k11, k12: tables read. -/

open PySem L2 DL Co

section
variable {st : S} {Q : D → S → Prop}
theorem lot_nodup {r : List Str} (h : okH r = true) : (∀ x ∈ r.drop 2, Nm x) ∧ (r.drop 2).Nodup := by
  unfold okH at h
  rw [Bool.and_eq_true, Bool.and_eq_true, Bool.and_eq_true, Bool.or_eq_true] at h
  rcases h.2.2.2 with h | h
  · rw [List.isEmpty_iff.mp h]
    exact ⟨fun x hx => absurd hx List.not_mem_nil, List.Pairwise.nil⟩
  · obtain ⟨p, e, hp⟩ := isLot_Lot h
    have e2 : r.drop 2 = p := by
      injection e with e
      exact (List.map_inj_right fun a b h => by injection h).mp e
    rw [e2]
    exact ⟨hp.nm, hp.nd⟩
end
end
section
set_option maxHeartbeats 1000000
/-! k11, k12: read_holdings, Table.read. -/

open PySem L2 DL Co

theorem GoodT.row {K : List (List Str)} (g : GoodT K) {r : List Str} (hr : r ∈ K) : (r.drop 2).length ≤ 10 := by
  have h1 := lot_nodup (g.ok r hr)
  have h2 := nodup_le (l2 := (kindsK K).eraseDups) h1.2 fun x hx => List.mem_eraseDups.mpr (by
    unfold kindsK kindsR
    exact List.mem_flatMap.mpr ⟨rowP r, List.mem_map.mpr ⟨r, hr, rfl⟩, hx⟩)
  have := g.kk
  omega
theorem GoodT.tab {K : List (List Str)} (g : GoodT K) (h0 : 0 < K.length) : TabR K.length (K.map rowP) where
  nm := by
    have e : (K.map rowP).map (·.1) = K.map secW := by rw [List.map_map]; rfl
    rw [e]
    refine ⟨List.length_map _, g.asc.imp (fun {a b} hab h => (by rw [h, ltS_irrefl] at hab; cases hab)), fun x hx => ?_⟩
    obtain ⟨r, hr, rfl⟩ := List.mem_map.mp hx
    have h := g.ok r hr
    unfold okH at h
    rw [Bool.and_eq_true, Bool.and_eq_true, Bool.and_eq_true] at h
    exact Nm_of h.2.2.1
  n0 := h0
  n12 := g.n
  kn := fun p hp => by
    obtain ⟨r, hr, rfl⟩ := List.mem_map.mp hp
    have h1 := lot_nodup (g.ok r hr)
    exact ⟨h1.1, h1.2, by have := g.row hr; show (r.drop 2).length ≤ 60; omega⟩
  kk := g.kk
section
variable {st : S} {Q : D → S → Prop}
end
end
section
set_option maxHeartbeats 1000000
/-! k11, k12: read_holdings, Table.read. -/

open PySem L2 DL Co

/-- the answer that is due for a text of a table or a book -/
def dueM (why : WhyT) (x : Str) (L : List Str) (t : Str) : D := if x = Str.ofString "" then itDy 0 (Str.ofString "missing") else dueW why L t
section
variable {st : S} {Q : D → S → Prop}
end
end
section
set_option maxHeartbeats 1000000
/-! k11, k12: lines of books. -/

open PySem L2 DL Co

def okS (r : List Str) : Bool := decide (r.head? = some (Str.ofString "finds")) && isLot (tupS (r.drop 1))
def okWd (r : List Str) : Bool := decide (r.head? = some (Str.ofString "word")) && (decide (3 ≤ r.length) && (isName (.str (secW r)) && isLot (tupS (r.drop 2))))
def whyB : WhyT := fun r K => match K with
  | [] => if okS r = false then Str.ofString "form" else if 12 < r.length - 1 then Str.ofString "many" else Str.ofString ""
  | f :: K => if okWd r = false then Str.ofString "form" else if K.length = 40 then Str.ofString "many" else if secW r ∈ K.map secW then Str.ofString "double" else if lotOf (f.drop 1) (tupS (r.drop 2)) = false then Str.ofString "unknown" else Str.ofString ""
theorem lot_tup {r : List Str} (h : isLot (tupS r) = true) : Lot r := by
  obtain ⟨p, e, hp⟩ := isLot_Lot h
  rw [tupS_inj e]
  exact hp
theorem lotOf_sub {xs p : List Str} (h : lotOf xs (tupS p) = true) : ∀ x ∈ p, x ∈ xs := fun x hx => by
  unfold lotOf at h
  rw [Bool.and_eq_true] at h
  have h2 := List.all_eq_true.mp (show (p.map D.str).all (inX xs) = true from h.2) (.str x) (List.mem_map.mpr ⟨x, hx, rfl⟩)
  exact of_decide_eq_true h2
/-- lines that make a book -/
structure GoodF (f : List Str) (K : List (List Str)) : Prop where
  hd : f.head? = some (Str.ofString "finds")
  lot : Lot (f.drop 1)
  n12 : (f.drop 1).length ≤ 12
  ok : ∀ r ∈ K, okWd r = true
  w : Wds (f.drop 1) (K.map rowP)
theorem GoodF.first {r : List Str} (h : whyB r [] = Str.ofString "") : GoodF r [] := by
  have h : (if okS r = false then Str.ofString "form" else if 12 < r.length - 1 then Str.ofString "many" else Str.ofString "") = Str.ofString "" := h
  split at h
  · exact absurd h (by decide)
  · rename_i h1
    split at h
    · exact absurd h (by decide)
    · rename_i h2
      have h1 : okS r = true := by simpa using h1
      unfold okS at h1
      rw [Bool.and_eq_true, decide_eq_true_eq] at h1
      exact ⟨h1.1, lot_tup h1.2, by rw [List.length_drop]; omega, fun _ h => absurd h List.not_mem_nil, ⟨fun _ h => absurd h List.not_mem_nil, fun _ h => absurd h List.not_mem_nil, List.Pairwise.nil, Nat.zero_le _⟩⟩
theorem whyB_ok {r f : List Str} {K : List (List Str)} (h : whyB r (f :: K) = Str.ofString "") : okWd r = true ∧ K.length ≠ 40 ∧ secW r ∉ K.map secW ∧ lotOf (f.drop 1) (tupS (r.drop 2)) = true := by
  have h : (if okWd r = false then Str.ofString "form" else if K.length = 40 then Str.ofString "many" else if secW r ∈ K.map secW then Str.ofString "double" else if lotOf (f.drop 1) (tupS (r.drop 2)) = false then Str.ofString "unknown" else Str.ofString "") = Str.ofString "" := h
  split at h
  · exact absurd h (by decide)
  · rename_i h1
    split at h
    · exact absurd h (by decide)
    · rename_i h2
      split at h
      · exact absurd h (by decide)
      · rename_i h3
        split at h
        · exact absurd h (by decide)
        · rename_i h4
          exact ⟨by simpa using h1, h2, h3, by simpa using h4⟩
theorem GoodF.step {r f : List Str} {K : List (List Str)} (g : GoodF f K) (h : whyB r (f :: K) = Str.ofString "") : GoodF f (K ++ [r]) := by
  obtain ⟨h1, h2, h3, h4⟩ := whyB_ok h
  have h5 := h1
  unfold okWd at h5
  rw [Bool.and_eq_true, Bool.and_eq_true, Bool.and_eq_true] at h5
  have hl : Lot (r.drop 2) := lot_tup h5.2.2.2
  have e : (K ++ [r]).map rowP = K.map rowP ++ [rowP r] := by rw [List.map_append]; rfl
  refine ⟨g.hd, g.lot, g.n12, fun x hx => ?_, ?_⟩
  · rcases List.mem_append.mp hx with hx | hx
    · exact g.ok x hx
    · rw [List.mem_singleton.mp hx]; exact h1
  rw [e]
  refine ⟨fun w hw => ?_, fun w hw => ?_, ?_, ?_⟩
  · rcases List.mem_append.mp hw with hw | hw
    · exact g.w.nm w hw
    · rw [List.mem_singleton.mp hw]; exact Nm_of h5.2.2.1
  · rcases List.mem_append.mp hw with hw | hw
    · exact g.w.lot w hw
    · rw [List.mem_singleton.mp hw]
      exact ⟨hl, lotOf_sub h4⟩
  · rw [List.map_append, List.nodup_append]
    refine ⟨g.w.nd, List.pairwise_singleton _ _, fun a ha b hb => ?_⟩
    have hb := List.mem_singleton.mp hb
    subst hb
    rintro rfl
    refine h3 ?_
    rw [List.map_map] at ha
    exact ha
  · rw [List.length_append, List.length_map]
    have := g.w.len
    rw [List.length_map] at this
    simp only [List.length_cons, List.length_nil]
    omega
end
section
set_option maxHeartbeats 1000000
/-! k11, k12: faults of the lines of a book. -/

open PySem L2 DL Co

section
variable {st : S} {Q : D → S → Prop}
end
end
section
set_option maxHeartbeats 1000000
/-! k11, k12: read_rows, Book.read. -/

open PySem L2 DL Co

section
variable {st : S} {Q : D → S → Prop}
end
end
section
set_option maxHeartbeats 1000000
/-! k11, k12: Book.read; what is tried. -/

open PySem L2 DL Co

section
variable {st : S} {Q : D → S → Prop}
end
end
section
set_option maxHeartbeats 1000000
/-! k11, k12: what was read as lines of words. -/

open PySem L2 DL Co

section
variable {st : S} {Q : D → S → Prop}
end
end
section
set_option maxHeartbeats 1000000
/-! k11, k12: what was read as lines of words: facts. -/

open PySem L2 DL Co

section
variable {st : S} {Q : D → S → Prop}
end
end
section
set_option maxHeartbeats 1000000
/-! k11, k12: what was read as lines of words: books. -/

open PySem L2 DL Co

section
variable {st : S} {Q : D → S → Prop}
end
end
section
set_option maxHeartbeats 1000000
/-! k11, k12: what was read as lines of words: tables. -/

open PySem L2 DL Co

theorem set_self {p : List Str} (h : p.Pairwise fun a b => ltS a b = true) : setS p = p := by
  rw [setS_nodup_eq (h.imp fun {a b} hab e => (by rw [e, ltS_irrefl] at hab; cases hab))]
  unfold sortS
  exact List.mergeSort_of_pairwise (h.imp fun {a b} hab => by rw [ltS_asymm hab]; rfl)
section
variable {st : S} {Q : D → S → Prop}
end
end
section
set_option maxHeartbeats 1000000
/-! k11, k12: the readers' answers as lines of words. -/

open PySem L2 DL Co

section
variable {st : S} {Q : D → S → Prop} {F X T R : D}
end
end
section
set_option maxHeartbeats 1000000
/-! k11, k12: the readers of the law. -/

open PySem L2 DL Co

section
variable {st : S} {Q : D → S → Prop} {F X : D}
end
end
section
set_option maxHeartbeats 1000000
/-! k11, k12: the readers of the law: facts. -/

open PySem L2 DL Co

section
variable {st : S} {Q : D → S → Prop}
end
end
section
set_option maxHeartbeats 1000000
/-! k11, k12: the readers of the law: tables and books. -/

open PySem L2 DL Co

section
variable {st : S} {Q : D → S → Prop}
end
end
section
set_option maxHeartbeats 1000000
/-! k11, k12: the readers of the law, joined. -/

open PySem L2 DL Co

section
variable {st : S} {Q : D → S → Prop}
end
end
section
set_option maxHeartbeats 1000000
/-! k11: lines of words as a text; lines of a table. -/

open PySem L2 DL Co

theorem isLot_of {p : List Str} (h : Lot p) : isLot (tupS p) = true := by
  unfold tupS
  rw [isLot_strs h.ne h.nm]
  exact asc_pw.mpr h.pw
/-! ### texts of lines of words -/
def lns (R : List (List Str)) : List Str := R.map (Txt.join " ")
def textR (R : List (List Str)) : Str := Txt.join "" (R.map lineB)
theorem textR_eq (R : List (List Str)) : textR R = textN (lns R) := by
  unfold textR textN lns
  rw [List.map_map]
  rfl
theorem splW_join {r : List Str} (hne : r ≠ []) (hn : ∀ x ∈ r, Nm x) : splW (Txt.join " " r) = r := (joinW_ok hne fun w hw => cl_nm (hn w hw)).2.2
theorem lns_back {R : List (List Str)} (h : RowsOk R) (hne : ∀ r ∈ R, r ≠ []) : (lns R).map splW = R := by
  unfold lns
  rw [List.map_map]
  refine (List.map_congr_left fun r hr => ?_).trans (List.map_id R)
  exact splW_join (hne r hr) (h.nm r hr)
theorem lns_rows {R : List (List Str)} (h : RowsOk R) (hne : ∀ r ∈ R, r ≠ []) : RowsB 500 (lns R) := fun a ha => by
  obtain ⟨r, hr, rfl⟩ := List.mem_map.mp ha
  obtain ⟨h1, h2, _⟩ := joinW_ok (hne r hr) fun w hw => cl_nm (h.nm r hr w hw)
  have := h.len r hr
  exact ⟨by omega, fun c hc => (h1 c hc).2⟩
theorem textR_ok {R : List (List Str)} (h : RowsOk R) (hne : ∀ r ∈ R, r ≠ []) : TxOK (textR R) (lns R) (Str.ofString "") := by
  rw [textR_eq]
  have := h.many
  exact tx_rows (lns_rows h hne) (by omega) (by unfold lns; rw [List.length_map]; omega)
theorem tx_ne {x : Str} {L : List Str} {t : Str} (h : TxOK x L t) (h0 : 0 < L.length) : x ≠ Str.ofString "" := fun e => by
  have h1 := h.e
  rw [e] at h1
  have h2 : Txt.split (Str.ofString "") "\n" = [Str.ofString ""] := by decide
  rw [h2] at h1
  have h3 := congrArg List.length h1
  rw [List.length_append] at h3
  simp only [List.length_cons, List.length_nil] at h3
  omega
/-- lines all of which stand -/
theorem due_rows {why : WhyT} {R : List (List Str)} (h : RowsOk R) (hne : ∀ r ∈ R, r ≠ []) (hs : scanW why [] R = none) : dueW why (lns R) (Str.ofString "") = .tup [.str (Str.ofString "told"), .lst (R.map rowD)] := by
  have e := lns_back h hne
  rw [due_told (by unfold badW; rw [e]; exact hs) rfl, e]
theorem dueM_rows {why : WhyT} {R : List (List Str)} (h : RowsOk R) (hne : ∀ r ∈ R, r ≠ []) (h0 : 0 < R.length) (hs : scanW why [] R = none) : dueM why (textR R) (lns R) (Str.ofString "") = .tup [.str (Str.ofString "told"), .lst (R.map rowD)] := by
  unfold dueM
  rw [if_neg (tx_ne (textR_ok h hne) (by unfold lns; rw [List.length_map]; exact h0))]
  exact due_rows h hne hs
/-! ### lines of tables -/
theorem GoodT.pre {K rs : List (List Str)} (g : GoodT (K ++ rs)) : GoodT K where
  ok := fun r hr => g.ok r (List.mem_append_left _ hr)
  n := by have := g.n; rw [List.length_append] at this; omega
  kk := by
    have h := nodup_le (l2 := (kindsK (K ++ rs)).eraseDups) (nodup_ed _ (kindsK K) (Nat.le_refl _)) fun x hx => by
      rw [List.mem_eraseDups] at hx ⊢
      unfold kindsK kindsR at hx ⊢
      rw [List.map_append, List.flatMap_append]
      exact List.mem_append_left _ hx
    have := g.kk
    omega
  asc := by have := g.asc; rw [List.map_append] at this; exact (List.pairwise_append.mp this).1
theorem GoodT.why {K : List (List Str)} {r : List Str} (g : GoodT (K ++ [r])) : whyT r K = Str.ofString "" := by
  have h1 : ¬ (K.length = 12 ∨ 10 < (kindsK (K ++ [r])).eraseDups.length) := by
    rintro (h | h)
    · have := g.n
      rw [List.length_append, List.length_singleton] at this
      omega
    · have := g.kk
      omega
  have h2 : ¬ (K ≠ [] ∧ ltS (lastW K) (secW r) = false) := by
    rintro ⟨h, h2⟩
    have ha := g.asc
    rw [List.map_append] at ha
    have hm : lastW K ∈ K.map secW := by
      refine List.mem_map.mpr ⟨K.getLastD [], ?_, rfl⟩
      cases K with
      | nil => exact absurd rfl h
      | cons a K =>
        rw [List.getLastD_cons, ← List.getLast_eq_getLastD]
        exact List.getLast_mem (List.cons_ne_nil _ _)
    have := (List.pairwise_append.mp ha).2.2 _ hm (secW r) (List.mem_singleton.mpr rfl)
    rw [this] at h2
    cases h2
  unfold whyT
  rw [if_neg (by rw [g.ok r (by simp)]; decide), if_neg h1, if_neg h2]
theorem scan_goodT : ∀ {rs K : List (List Str)}, GoodT (K ++ rs) → scanW whyT K rs = none
  | [], K, _ => rfl
  | r :: rs, K, g => by
    have g2 : GoodT ((K ++ [r]) ++ rs) := by rw [List.append_assoc]; exact g
    show (if _ then _ else _) = _
    rw [if_pos g2.pre.why]
    exact scan_goodT g2
/-- rows of a table, told in order -/
structure TabC (n : Nat) (C : List (Str × List Str)) : Prop where
  tab : TabR n C
  asc : (nmR C).Pairwise fun a b => ltS a b = true
  kasc : ∀ r ∈ C, r.2.Pairwise fun a b => ltS a b = true
def rowH (r : Str × List Str) : List Str := "find" :: r.1 :: r.2
theorem rowP_H (C : List (Str × List Str)) : (C.map rowH).map rowP = C := by
  rw [List.map_map]
  exact List.map_id C
section
variable {n : Nat} {C R : List (Str × List Str)}
theorem TabC.len (h : TabC n C) : C.length = n := by
  have := h.tab.nm.len
  rw [List.length_map] at this
  exact this
theorem okH_row {r : Str × List Str} (h1 : Nm r.1) (h2 : ∀ x ∈ r.2, Nm x) (h3 : r.2.Pairwise fun a b => ltS a b = true) : okH (rowH r) = true := by
  unfold okH
  rw [show decide ((rowH r).head? = some (Str.ofString "find")) = true from decide_eq_true rfl, show decide (2 ≤ (rowH r).length) = true from decide_eq_true (by unfold rowH; simp only [List.length_cons]; omega), show isName (.str (secW (rowH r))) = true from h1.isName, Bool.true_and, Bool.true_and, Bool.true_and]
  show (r.2.isEmpty || isLot (tupS r.2)) = true
  cases e : r.2 with
  | nil => rfl
  | cons a l =>
    rw [← e, isLot_of ⟨by rw [e]; simp, h2, h3⟩, Bool.or_true]
theorem TabC.good (h : TabC n C) : GoodT (C.map rowH) where
  ok := fun r hr => by
    obtain ⟨c, hc, rfl⟩ := List.mem_map.mp hr
    exact okH_row (h.tab.nm.nm _ (List.mem_map.mpr ⟨c, hc, rfl⟩)) (h.tab.kn c hc).1 (h.kasc c hc)
  n := by rw [List.length_map, h.len]; exact h.tab.n12
  kk := by unfold kindsK; rw [rowP_H]; exact h.tab.kk
  asc := by
    have : (C.map rowH).map secW = nmR C := by rw [List.map_map]; rfl
    rw [this]
    exact h.asc
theorem TabC.rows (h : TabC n C) : rowsT C = C.map rowH := by
  unfold rowsT
  rw [set_self h.asc]
  unfold nmR
  rw [List.map_map]
  refine List.map_congr_left fun r hr => ?_
  show (Str.ofString "find") :: r.1 :: setS (lkR C r.1) = _
  rw [lk_of h.tab.nm.nd hr, set_self (h.kasc r hr)]
  rfl
theorem setS_pw (xs : List Str) : (setS xs).Pairwise fun a b => ltS a b = true := by
  have h1 := setS_nodup xs
  have e : setS xs = sortS xs.eraseDups := rfl
  rw [e] at h1 ⊢
  refine ((sortS_le _).and h1).imp fun {a b} ⟨h, hne⟩ => ?_
  cases h2 : ltS a b with
  | true => rfl
  | false =>
    rw [Bool.not_eq_true'] at h
    exact absurd (ltS_antisymm h2 h) (fun e => hne (by first | exact e | exact e.symm))
end
end
section
set_option maxHeartbeats 1000000
/-! k11: the rows that are drawn. -/

open PySem L2 DL Co

theorem St.more {b s : S} (h : St ([], b) s) (c : S) : St ([], b ++ c) (s ++ c) := by
  obtain ⟨cells, idx, rest, mixed, cnt, rfl, h1, h2⟩ := h
  exact ⟨cells, idx, rest, mixed, cnt, rfl, h1, h2⟩
section
variable {st : S} {Q : D → S → Prop} {b : S} {w : Bool}
/-- facts with marks -/
structure FacC (F : List (Str × List Str)) : Prop where
  nm : ∀ r ∈ F, Nm r.1
  fa : ∀ r ∈ F, ∃ f : Fa, r.2 = f.ss ∧ ∀ x ∈ f.ns, Nm x
  nd : (F.map (·.1)).Nodup
  len : F.length ≤ 30
def rowG (r : Str × List Str) : List Str := "fact" :: r.1 :: r.2
end
end
section
set_option maxHeartbeats 1000000
/-! k11: tables' texts read back. -/

open PySem L2 DL Co

section
variable {st : S} {Q : D → S → Prop} {n : Nat} {C : List (Str × List Str)}
theorem TabC.rowsOk (h : TabC n C) : RowsOk (C.map rowH) := by rw [← h.rows]; exact rowsT_ok h.tab
theorem TabC.ne (h : TabC n C) : ∀ r ∈ C.map rowH, r ≠ [] := fun r hr => by
  obtain ⟨c, hc, rfl⟩ := List.mem_map.mp hr
  exact List.cons_ne_nil _ _
theorem TabC.pos (h : TabC n C) : 0 < (C.map rowH).length := by rw [List.length_map, h.len]; exact h.tab.n0
theorem TabC.tx (h : TabC n C) : TxOK (textR (C.map rowH)) (lns (C.map rowH)) (Str.ofString "") := textR_ok h.rowsOk h.ne
theorem TabC.wd (h : TabC n C) : ∀ a ∈ lns (C.map rowH), (splW a).length ≤ 50 := fun a ha => by
  obtain ⟨r, hr, rfl⟩ := List.mem_map.mp ha
  rw [splW_join (h.ne r hr) (h.rowsOk.nm r hr)]
  have := h.good.row hr
  rw [List.length_drop] at this
  omega
theorem TabC.due (h : TabC n C) : dueM whyT (textR (C.map rowH)) (lns (C.map rowH)) (Str.ofString "") = .tup [.str (Str.ofString "told"), .lst ((C.map rowH).map rowD)] := dueM_rows h.rowsOk h.ne h.pos (scan_goodT (K := []) h.good)
end
end
section
set_option maxHeartbeats 1000000
/-! k11: tables' texts read back, the law's part. -/

open PySem L2 DL Co

section
variable {st : S} {b : S} {w : Bool}
end
end
section
set_option maxHeartbeats 1000000
/-! k11: lines of books. -/

open PySem L2 DL Co

theorem GoodF.why {f : List Str} {K : List (List Str)} {r : List Str} (g : GoodF f (K ++ [r])) : whyB r (f :: K) = Str.ofString "" := by
  have hm : r ∈ K ++ [r] := by simp
  have h1 := g.ok r hm
  have h2 : K.length ≠ 40 := by
    have := g.w.len
    rw [List.length_map, List.length_append, List.length_singleton] at this
    omega
  have h3 : secW r ∉ K.map secW := fun h => by
    have := g.w.nd
    rw [List.map_map, List.map_append] at this
    exact (List.nodup_append.mp this).2.2 _ h (secW r) (List.mem_singleton.mpr rfl) rfl
  have h4 : lotOf (f.drop 1) (tupS (r.drop 2)) = true := by
    have := g.w.lot (rowP r) (List.mem_map.mpr ⟨r, hm, rfl⟩)
    exact lotOf_ok this.1 this.2
  show (if okWd r = false then _ else _) = _
  rw [if_neg (by rw [h1]; decide), if_neg h2, if_neg h3, if_neg (by rw [h4]; decide)]
theorem GoodF.pre {f : List Str} {K rs : List (List Str)} (g : GoodF f (K ++ rs)) : GoodF f K where
  hd := g.hd
  lot := g.lot
  n12 := g.n12
  ok := fun r hr => g.ok r (List.mem_append_left _ hr)
  w := by
    have w := g.w
    rw [List.map_append] at w
    refine ⟨fun p hp => w.nm p (List.mem_append_left _ hp), fun p hp => w.lot p (List.mem_append_left _ hp), ?_, ?_⟩
    · have := w.nd
      rw [List.map_append] at this
      exact (List.nodup_append.mp this).1
    · have := w.len
      rw [List.length_append] at this
      omega
theorem scan_goodF {f : List Str} : ∀ {rs K : List (List Str)}, GoodF f (K ++ rs) → scanW whyB (f :: K) rs = none
  | [], K, _ => rfl
  | r :: rs, K, g => by
    have g2 : GoodF f ((K ++ [r]) ++ rs) := by rw [List.append_assoc]; exact g
    show (if _ then _ else _) = _
    rw [if_pos g2.pre.why]
    exact scan_goodF g2
theorem scan_book {f : List Str} {K : List (List Str)} (g : GoodF f K) : scanW whyB [] (f :: K) = none := by
  have h : whyB f [] = Str.ofString "" := by
    have h1 : okS f = true := by
      unfold okS
      rw [g.hd, isLot_of g.lot]
      decide
    have := g.n12
    rw [List.length_drop] at this
    show (if okS f = false then _ else _) = _
    rw [if_neg (by rw [h1]; decide), if_neg (by omega)]
  show (if _ then _ else _) = _
  rw [if_pos h]
  exact scan_goodF (K := []) g
/-- the rows of a book -/
structure BkC (n : Nat) (po : List Str) (W : List (Str × List Str)) : Prop where
  p : Nms n po
  n0 : 0 < n
  n12 : n ≤ 12
  w : Wds po W
theorem rowP_W (W : List (Str × List Str)) : (W.map rowW).map rowP = W := by
  rw [List.map_map]
  exact List.map_id W
section
variable {n : Nat} {pool : List Str} {W : List (Str × List Str)}
theorem BkC.rowsOk (h : BkC n pool W) : RowsOk (rowsB (setS pool) W) := rowsB_ok h.p h.n12 h.w
theorem BkC.ne (h : BkC n pool W) : ∀ r ∈ rowsB (setS pool) W, r ≠ [] := fun r hr => by
  unfold rowsB at hr
  rcases List.mem_cons.mp hr with rfl | hr
  · exact List.cons_ne_nil _ _
  · obtain ⟨c, hc, rfl⟩ := List.mem_map.mp hr
    exact List.cons_ne_nil _ _
theorem okWd_row {r : Str × List Str} (h1 : Nm r.1) (h2 : Lot r.2) : okWd (rowW r) = true := by
  have hl : 3 ≤ (rowW r).length := by
    unfold rowW
    have := List.length_pos_iff.mpr h2.ne
    simp only [List.length_cons]
    omega
  unfold okWd
  rw [show decide ((rowW r).head? = some (Str.ofString "word")) = true from decide_eq_true rfl, decide_eq_true hl, show isName (.str (secW (rowW r))) = true from h1.isName, Bool.true_and, Bool.true_and, Bool.true_and]
  exact isLot_of h2
theorem BkC.good (h : BkC n pool W) : GoodF (Str.ofString "finds" :: setS pool) (W.map rowW) where
  hd := rfl
  lot := by
    have hp := (setS_setS h.p).2
    have l := hp.len
    exact ⟨fun e => by rw [show (Str.ofString "finds" :: setS pool).drop 1 = setS pool from rfl] at e; rw [e] at l; have := h.n0; simp at l; omega, hp.nm, setS_pw pool⟩
  n12 := by
    have hp := (setS_setS h.p).2
    show (setS pool).length ≤ 12
    rw [hp.len]
    exact h.n12
  ok := fun r hr => by
    obtain ⟨w, hw, rfl⟩ := List.mem_map.mp hr
    exact okWd_row (h.w.nm w hw) (h.w.lot w hw).1
  w := by
    rw [rowP_W]
    exact wds_pool h.w fun x hx => mem_setS.mpr hx
theorem BkC.tx (h : BkC n pool W) : TxOK (textR (rowsB (setS pool) W)) (lns (rowsB (setS pool) W)) (Str.ofString "") := textR_ok h.rowsOk h.ne
theorem BkC.due (h : BkC n pool W) : dueM whyB (textR (rowsB (setS pool) W)) (lns (rowsB (setS pool) W)) (Str.ofString "") = .tup [.str (Str.ofString "told"), .lst ((rowsB (setS pool) W).map rowD)] := dueM_rows h.rowsOk h.ne (Nat.zero_lt_succ _) (scan_book h.good)
variable {st : S} {Q : D → S → Prop}
end
end
section
set_option maxHeartbeats 1000000
/-! k11: books' texts read back, the law's part. -/

open PySem L2 DL Co

section
variable {st : S} {Q : D → S → Prop} {n : Nat} {pool : List Str} {W : List (Str × List Str)} {b : S}
/-- the book without its first word -/
theorem filt_first {w : Str × List Str} (hW : Wds pool (w :: W)) : (w :: W).filter (fun v => !decide (v.1 = w.1)) = W := by
  have nd := hW.nd
  rw [List.map_cons] at nd
  obtain ⟨n1, n2⟩ := List.nodup_cons.mp nd
  rw [List.filter_cons_of_neg (by simp)]
  refine List.filter_eq_self.mpr fun v hv => ?_
  rw [decide_eq_false fun e => n1 (List.mem_map.mpr ⟨v, hv, e⟩)]
  rfl
theorem BkC.less {w : Str × List Str} (h : BkC n pool (w :: W)) : BkC n pool W := ⟨h.p, h.n0, h.n12, by
  have := wds_less h.w fun v => !decide (v.1 = w.1)
  rw [filt_first h.w] at this
  exact this⟩
end
end
section
set_option maxHeartbeats 1000000
/-! k11: books' texts read back, the law's part, joined. -/

open PySem L2 DL Co

section
variable {st : S} {Q : D → S → Prop} {n : Nat} {pool : List Str} {W : List (Str × List Str)} {b : S} {w : Bool}
end
end
section
set_option maxHeartbeats 1000000
/-! k11: lists of facts. -/

open PySem L2 DL Co

theorem nm_factW : Nm "fact" := by refine ⟨?_, by decide, by decide⟩; unfold Low; decide
theorem mark_of {r : Str × List Str} (h1 : Nm r.1) (h2 : ∃ f : Fa, r.2 = f.ss ∧ ∀ x ∈ f.ns, Nm x) : isMark (wordD r) = true := by
  obtain ⟨x, ss⟩ := r
  obtain ⟨f, e, hf⟩ := h2
  dsimp only at e h1
  subst e
  show (isName (.str x) && isFact (tupS f.ss)) = true
  rw [h1.isName, Bool.true_and]
  cases f with
  | first y =>
    show (decide (2 = sizeF (Str.ofString "first")) && (isName (.str y) && true)) = true
    rw [(hf y (by simp [Fa.ns])).isName]
    decide
  | last y =>
    show (decide (2 = sizeF (Str.ofString "last")) && (isName (.str y) && true)) = true
    rw [(hf y (by simp [Fa.ns])).isName]
    decide
  | before y z =>
    show (decide (3 = sizeF (Str.ofString "before")) && (isName (.str y) && (isName (.str z) && true))) = true
    rw [(hf y (by simp [Fa.ns])).isName, (hf z (by simp [Fa.ns])).isName]
    decide
section
variable {F : List (Str × List Str)}
theorem FacC.snm (h : FacC F) {r : Str × List Str} (hr : r ∈ F) : ∀ x ∈ r.2, Nm x := by
  obtain ⟨f, e, hf⟩ := h.fa r hr
  rw [e]
  exact Fa.ss_nm hf
theorem FacC.slen (h : FacC F) {r : Str × List Str} (hr : r ∈ F) : r.2.length ≤ 3 := by
  obtain ⟨f, e, hf⟩ := h.fa r hr
  rw [e]
  exact f.len.1
theorem FacC.rowsOk (h : FacC F) : RowsOk (F.map rowG) where
  nm := fun r hr x hx => by
    obtain ⟨p, hp, rfl⟩ := List.mem_map.mp hr
    unfold rowG at hx
    rcases List.mem_cons.mp hx with rfl | hx
    · exact nm_factW
    rcases List.mem_cons.mp hx with rfl | hx
    · exact h.nm p hp
    · exact h.snm hp x hx
  len := fun r hr => by
    obtain ⟨p, hp, rfl⟩ := List.mem_map.mp hr
    have := h.slen hp
    unfold rowG
    simp only [List.length_cons]
    omega
  many := by rw [List.length_map]; have := h.len; omega
theorem FacC.ne (h : FacC F) : ∀ r ∈ F.map rowG, r ≠ [] := fun r hr => by
  obtain ⟨c, hc, rfl⟩ := List.mem_map.mp hr
  exact List.cons_ne_nil _ _
theorem FacC.tx (h : FacC F) : TxOK (textR (F.map rowG)) (lns (F.map rowG)) (Str.ofString "") := textR_ok h.rowsOk h.ne
theorem factW_G (r : Str × List Str) : factW (rowG r) = wordD r := rfl
theorem okF_row {r : Str × List Str} (h1 : Nm r.1) (h2 : ∃ f : Fa, r.2 = f.ss ∧ ∀ x ∈ f.ns, Nm x) : okF (rowG r) = true := by
  unfold okF
  rw [show decide ((rowG r).head? = some (Str.ofString "fact")) = true from decide_eq_true rfl, show decide (2 ≤ (rowG r).length) = true from decide_eq_true (by unfold rowG; simp only [List.length_cons]; omega), factW_G, mark_of h1 h2]
  rfl
theorem scan_facts : ∀ {G F : List (Str × List Str)}, FacC (F ++ G) → scanW whyF (F.map rowG) (G.map rowG) = none
  | [], F, _ => rfl
  | r :: G, F, h => by
    have hr : r ∈ F ++ r :: G := by simp
    have e1 : okF (rowG r) = true := okF_row (h.nm r hr) (h.fa r hr)
    have e2 : (F.map rowG).length ≠ 30 := by
      have := h.len
      rw [List.length_append, List.length_cons] at this
      rw [List.length_map]
      omega
    have e3 : secW (rowG r) ∉ (F.map rowG).map secW := fun hm => by
      have nd := h.nd
      rw [List.map_append, List.map_cons] at nd
      have hm2 : r.1 ∈ F.map (·.1) := by
        rw [List.map_map] at hm
        exact hm
      exact (List.nodup_append.mp nd).2.2 _ hm2 r.1 (List.mem_cons_self) rfl
    have hw : whyF (rowG r) (F.map rowG) = Str.ofString "" := by
      unfold whyF
      rw [if_neg (by rw [e1]; decide), if_neg e2, if_neg e3]
    show (if _ then _ else _) = _
    rw [if_pos hw]
    have h2 : FacC ((F ++ [r]) ++ G) := by rw [List.append_assoc]; exact h
    have := scan_facts h2
    rw [List.map_append] at this
    exact this
theorem FacC.due (h : FacC F) : dueW whyF (lns (F.map rowG)) (Str.ofString "") = .tup [.str (Str.ofString "told"), .lst ((F.map rowG).map rowD)] := due_rows h.rowsOk h.ne (scan_facts (F := []) h)
variable {st : S} {Q : D → S → Prop}
end
end
section
set_option maxHeartbeats 1000000
/-! k11: the law. -/

open PySem L2 DL Co

section
variable {st : S} {b : S} {w : Bool}
end
end
section
set_option maxHeartbeats 1000000
/-! k12: the law's own sameness, where what is due lies in the store. -/

open PySem L2 DL Co

/-- an answer seen through the store -/
def SeeR (st : S) (a e : D) : Prop := (a = e ∧ pl 9 a = true) ∨ ∃ i ds x, a = .tup [.str x, .lst ds] ∧ e = .tup [.str x, .ref i] ∧ st[i]? = some (.lst ds) ∧ pl 8 (.lst ds) = true ∧ plS x = true
end
section
set_option maxHeartbeats 1000000
/-! k12: why a line cannot stand, by the law: lists of facts. -/

open PySem L2 DL Co

section
variable {st : S} {Q : D → S → Prop}
end
end
section
set_option maxHeartbeats 1000000
/-! k12: why a line of a table cannot stand, by the law. -/

open PySem L2 DL Co

section
variable {st : S} {Q : D → S → Prop} {ρ : Ev}
theorem isLot_tupS (u : List Str) : isLot (tupS u) = (!u.isEmpty && (u.map D.str).all isName && asc (u.map .str)) := by
  unfold isLot tupS
  dsimp only
  rw [show (u.map D.str).isEmpty = u.isEmpty by cases u <;> rfl]
/-- the form of a line of a table, word by word -/
theorem okH_eq (a : Str) (t : List Str) : okH (a :: t) = (decide (a = Str.ofString "find") && (!t.isEmpty && ((t.map D.str).all isName && asc ((t.drop 1).map .str)))) := by
  have e1 : decide ((a :: t).head? = some (Str.ofString "find")) = decide (a = Str.ofString "find") := decide_eq_decide.mpr ⟨fun z => Option.some.inj z, fun z => congrArg some z⟩
  unfold okH
  rw [e1]
  congr 1
  cases t with
  | nil => rfl
  | cons b u =>
    rw [show decide (2 ≤ (a :: b :: u).length) = true from decide_eq_true (by simp), Bool.true_and]
    show (isName (.str b) && (u.isEmpty || isLot (tupS u))) = (true && (((D.str b) :: u.map D.str).all isName && asc (u.map D.str)))
    rw [isLot_tupS, List.all_cons, Bool.true_and]
    cases u with
    | nil =>
      show (isName (.str b) && true) = ((isName (.str b) && true) && true)
      simp
    | cons c u =>
      show (isName (.str b) && (false || (true && _ && _))) = _
      rw [Bool.false_or, Bool.true_and, Bool.and_assoc]
end
end
section
set_option maxHeartbeats 1000000
/-! k12: why a line of a book cannot stand, by the law. -/

open PySem L2 DL Co

section
variable {st : S} {Q : D → S → Prop} {ρ : Ev}
theorem okWd_eq (a : Str) (t : List Str) : okWd (a :: t) = (decide (a = Str.ofString "word") && (decide (2 ≤ t.length) && ((t.map D.str).all isName && asc ((t.drop 1).map .str)))) := by
  have e1 : decide ((a :: t).head? = some (Str.ofString "word")) = decide (a = Str.ofString "word") := decide_eq_decide.mpr ⟨fun z => Option.some.inj z, fun z => congrArg some z⟩
  unfold okWd
  rw [e1]
  congr 1
  have e2 : decide (3 ≤ (a :: t).length) = decide (2 ≤ t.length) := decide_eq_decide.mpr (by simp only [List.length_cons]; omega)
  rw [e2]
  cases t with
  | nil => rfl
  | cons b u =>
    cases u with
    | nil => rfl
    | cons c u =>
      congr 1
      show (isName (.str b) && isLot (tupS (c :: u))) = (((D.str b) :: (c :: u).map D.str).all isName && asc ((c :: u).map D.str))
      rw [isLot_tupS, List.all_cons]
      show (isName (.str b) && (true && _ && _)) = _
      rw [Bool.true_and, Bool.and_assoc]
end
end
section
set_option maxHeartbeats 1000000
/-! k12: the law's own reading of a text. -/

open PySem L2 DL Co

/-- the forms of texts -/
inductive Form | table | book | facts
def Form.s : Form → Str
  | .table => Str.ofString "table"
  | .book => Str.ofString "book"
  | .facts => Str.ofString "facts"
def Form.why : Form → WhyT
  | .table => whyT
  | .book => whyB
  | .facts => whyF
/-- lines that were kept -/
def Form.good : Form → List (List Str) → Prop
  | .table => GoodT
  | .book => fun K => ∀ k ∈ K.drop 1, 2 ≤ k.length
  | .facts => fun K => ∀ k ∈ K, 2 ≤ k.length
section
variable {st : S} {Q : D → S → Prop}
/-- the answer that is due -/
def Form.due (f : Form) (x : Str) (L : List Str) (t : Str) : D := match f with
  | .facts => dueW whyF L t
  | f => dueM f.why x L t
end
end
section
set_option maxHeartbeats 1000000
/-! k12: texts whose lines are short. -/

open PySem L2 DL Co
/-- every stretch without a line feed weighs at most k -/
def InfB (f : List Nat → Nat) (k : Nat) (l : List Nat) : Prop := ∀ m, m <:+: l → 10 ∉ m → f m ≤ k
def Wt (f : List Nat → Nat) : Prop := ∀ a b, f (a ++ b) = f a + f b
theorem wt_len : Wt List.length := fun _ _ => List.length_append
theorem wt_cnt (s : Nat) : Wt (List.count s) := fun _ _ => List.count_append
section
variable {f : List Nat → Nat} {k j : Nat} {a b l : List Nat}
theorem Wt.nil (w : Wt f) : f [] = 0 := by
  have := w [] []
  rw [List.append_nil] at this
  omega
theorem Wt.le (w : Wt f) {m l : List Nat} (h : m <:+: l) : f m ≤ f l := by
  obtain ⟨s, t, rfl⟩ := h
  rw [w, w]
  omega
theorem InfB.of (w : Wt f) (h : f l ≤ k) : InfB f k l := fun m hm _ => Nat.le_trans (w.le hm) h
theorem InfB.inf (h : InfB f k l) (hl : a <:+: l) : InfB f k a := fun m hm hn => h m (hm.trans hl) hn
theorem InfB.app (w : Wt f) (ha : InfB f k a) (hb : InfB f j b) : InfB f (k + j) (a ++ b) := fun m hm hn => by
  rcases List.infix_append_iff.mp hm with h | h | ⟨x, y, e, hx, hy⟩
  · exact Nat.le_trans (ha m h hn) (Nat.le_add_right _ _)
  · exact Nat.le_trans (hb m h hn) (Nat.le_add_left _ _)
  · subst e
    rw [w]
    exact Nat.add_le_add (ha x hx.isInfix fun z => hn (List.mem_append_left _ z)) (hb y hy.isInfix fun z => hn (List.mem_append_right _ z))
theorem pre_nl {y : List Nat} (h : y <+: 10 :: b) (hn : 10 ∉ y) : y = [] := by
  cases y with
  | nil => rfl
  | cons c y =>
    rw [List.cons_prefix_cons] at h
    exact absurd (by rw [h.1]; exact List.mem_cons_self) hn
theorem InfB.line (w : Wt f) (ha : InfB f k a) (hb : InfB f k b) : InfB f k (a ++ 10 :: b) := fun m hm hn => by
  rcases List.infix_append_iff.mp hm with h | h | ⟨x, y, e, hx, hy⟩
  · exact ha m h hn
  · rcases List.infix_cons_iff.mp h with h | h
    · rw [pre_nl h hn, w.nil]
      exact Nat.zero_le _
    · exact hb m h hn
  · subst e
    have e := pre_nl hy fun z => hn (List.mem_append_right _ z)
    subst e
    rw [List.append_nil] at hn ⊢
    exact ha x hx.isInfix hn
theorem infB_text (w : Wt f) : ∀ {L : List (List Nat)}, (∀ l ∈ L, f l ≤ k) → InfB f k (L.map (· ++ [10])).flatten
  | [], _ => .of w (by rw [List.map_nil, List.flatten_nil, w.nil]; exact Nat.zero_le _)
  | l :: L, h => by
    rw [List.map_cons, List.flatten_cons, List.append_assoc]
    exact .line w (.of w (h l List.mem_cons_self)) (infB_text w fun l hl => h l (List.mem_cons_of_mem _ hl))
end
theorem spl_infix {s : Nat} : ∀ {l acc : List Nat}, ∀ w ∈ TL.spl [s] 0 acc l, w <:+: acc ++ l
  | [], acc, w, hw => by
    rw [TL.spl_nil] at hw
    rw [List.mem_singleton.mp hw]
    exact List.infix_append_left
  | d :: r, acc, w, hw => by
    by_cases e : d = s
    · have hp : TL.pre [s] (d :: r) = true := by rw [pre1, decide_eq_true e]
      rw [TL.spl_hit hp] at hw
      rcases List.mem_cons.mp hw with rfl | hw
      · exact List.infix_append_left
      · have := spl_infix (l := r) (acc := []) w hw
        rw [List.nil_append] at this
        exact this.trans ⟨acc ++ [d], [], by rw [List.append_nil, List.append_assoc]; rfl⟩
    · have hp : TL.pre [s] (d :: r) = false := by rw [pre1, decide_eq_false e]
      rw [TL.spl_miss hp] at hw
      have := spl_infix (l := r) (acc := acc ++ [d]) w hw
      rw [List.append_assoc] at this
      exact this
theorem spl_count {s : Nat} : ∀ (l acc : List Nat), (TL.spl [s] 0 acc l).length = l.count s + 1
  | [], acc => by
    rw [TL.spl_nil]
    rfl
  | d :: r, acc => by
    by_cases e : d = s
    · have hp : TL.pre [s] (d :: r) = true := by rw [pre1, decide_eq_true e]
      rw [TL.spl_hit hp, e, List.count_cons_self, List.length_cons]
      exact congrArg (· + 1) (spl_count r [])
    · have hp : TL.pre [s] (d :: r) = false := by rw [pre1, decide_eq_false e]
      rw [TL.spl_miss hp, spl_count r _, List.count_cons_of_ne e]
/-- a text whose lines are short -/
structure TB (x : Str) : Prop where
  l : InfB List.length 990 (TL.tl x)
  s : InfB (List.count 32) 49 (TL.tl x)
  c : ∀ c ∈ TL.tl x, c < 1114112
  n : (TL.tl x).count 10 ≤ 900
  len : x.length ≤ 900000
theorem TB.tx {x : Str} (h : TB x) : ∃ L t, TxOK x L t ∧ ∀ a ∈ L, (splW a).length ≤ 50 := by
  have part : ∀ w ∈ TL.spl [10] 0 [] (TL.tl x), w <:+: TL.tl x ∧ 10 ∉ w := fun w hw => by
    have h1 := spl_infix w hw
    rw [List.nil_append] at h1
    exact ⟨h1, fun z => (spl_sub (fun _ z => (by cases z)) w hw 10 z).2 rfl⟩
  obtain ⟨L, t, tx⟩ := tx_any (x := x) (fun w hw => by
    obtain ⟨h1, h2⟩ := part w hw
    exact ⟨h.l w h1 h2, fun c hc => h.c c (h1.subset hc)⟩) (by rw [spl_count]; have := h.n; omega) h.len
  refine ⟨L, t, tx, fun a ha => ?_⟩
  have e := tx.e
  rw [split_nl2] at e
  have : a ∈ (TL.spl [10] 0 [] (TL.tl x)).map mkS := by rw [e]; exact List.mem_append_left _ ha
  obtain ⟨w, hw, rfl⟩ := List.mem_map.mp this
  obtain ⟨h1, h2⟩ := part w hw
  unfold splW
  rw [split_sp2, List.length_map, tl_mkS, spl_count]
  exact Nat.succ_le_succ (h.s w h1 h2)
end
section
set_option maxHeartbeats 1000000
/-! k12: rows of any words, their text, cut. -/

open PySem L2 DL Co

/-- a word of a row -/
structure WB (w : Str) : Prop where
  len : w.length ≤ 7
  c : ∀ c ∈ TL.tl w, c ≠ 10 ∧ c ≠ 32 ∧ c < 1114112
structure RwB (m : Nat) (r : List Str) : Prop where
  len : r.length ≤ m
  w : ∀ w ∈ r, WB w
structure RB (n m : Nat) (R : List (List Str)) : Prop where
  len : R.length ≤ n
  row : ∀ r ∈ R, RwB m r
theorem joinB : ∀ {r : List Str}, (∀ w ∈ r, WB w) → (TL.joinL [32] (r.map TL.tl)).length ≤ 8 * r.length ∧ (TL.joinL [32] (r.map TL.tl)).count 32 ≤ r.length ∧ ∀ c ∈ TL.joinL [32] (r.map TL.tl), c ≠ 10 ∧ c < 1114112
  | [], _ => ⟨Nat.zero_le _, Nat.zero_le _, fun _ z => by cases z⟩
  | [w], h => by
    have hw := h w List.mem_cons_self
    have l := hw.len
    rw [tl_len] at l
    have e : TL.joinL [32] ([w].map TL.tl) = TL.tl w := rfl
    rw [e, List.count_eq_zero.mpr fun z => (hw.c 32 z).2.1 rfl]
    refine ⟨by simp only [List.length_cons, List.length_nil]; omega, Nat.zero_le _, fun c hc => ⟨(hw.c c hc).1, (hw.c c hc).2.2⟩⟩
  | w :: v :: r, h => by
    have hw := h w List.mem_cons_self
    have l := hw.len
    rw [tl_len] at l
    obtain ⟨h1, h2, h3⟩ := joinB (r := v :: r) fun x hx => h x (List.mem_cons_of_mem _ hx)
    have e : TL.joinL [32] ((w :: v :: r).map TL.tl) = TL.tl w ++ ([32] ++ TL.joinL [32] ((v :: r).map TL.tl)) := rfl
    rw [e, List.count_append, List.count_append, List.count_eq_zero.mpr fun z => (hw.c 32 z).2.1 rfl, List.length_append, List.length_append, List.length_cons (a := w)]
    have e1 : List.count 32 [32] = 1 := by decide
    have e2 : ([32] : List Nat).length = 1 := rfl
    refine ⟨by omega, by omega, fun c hc => ?_⟩
    rcases List.mem_append.mp hc with hc | hc
    · exact ⟨(hw.c c hc).1, (hw.c c hc).2.2⟩
    · rcases List.mem_append.mp hc with hc | hc
      · rw [List.mem_singleton.mp hc]
        decide
      · exact h3 c hc
theorem tl_lns (R : List (List Str)) : (lns R).map TL.tl = R.map fun r => TL.joinL [32] (r.map TL.tl) := by
  unfold lns
  rw [List.map_map]
  refine List.map_congr_left fun r _ => ?_
  show TL.tl (Txt.join " " r) = _
  rw [TL.join_eq, TL.tl_join]
  congr 1
theorem wt_text {f : List Nat → Nat} {k : Nat} (w : Wt f) : ∀ {L : List (List Nat)}, (∀ l ∈ L, f l ≤ k) → f (L.map (· ++ [10])).flatten ≤ (k + f [10]) * L.length
  | [], _ => by
    rw [List.map_nil, List.flatten_nil, w.nil]
    exact Nat.zero_le _
  | l :: L, h => by
    have := wt_text w fun l hl => h l (List.mem_cons_of_mem _ hl)
    have h1 := h l List.mem_cons_self
    rw [List.map_cons, List.flatten_cons, w, w, List.length_cons, Nat.mul_succ]
    omega
/-- a text of rows -/
structure TB0 (x : Str) : Prop where
  l : InfB List.length 144 (TL.tl x)
  s : InfB (List.count 32) 18 (TL.tl x)
  c : ∀ c ∈ TL.tl x, c < 1114112
  n : (TL.tl x).count 10 ≤ 60
  len : x.length ≤ 8700
theorem RB.text {n m : Nat} {R : List (List Str)} (h : RB n m R) (hn : n ≤ 60) (hm : m ≤ 18) : TB0 (textR R) := by
  have e : TL.tl (textR R) = ((R.map fun r => TL.joinL [32] (r.map TL.tl)).map (· ++ [10])).flatten := by
    rw [textR_eq, tl_textN, tl_lns]
  have hl := h.len
  have each : ∀ l ∈ R.map fun r => TL.joinL [32] (r.map TL.tl), l.length ≤ 144 ∧ l.count 32 ≤ 18 ∧ ∀ c ∈ l, c ≠ 10 ∧ c < 1114112 := fun l hl => by
    obtain ⟨r, hr, rfl⟩ := List.mem_map.mp hl
    obtain ⟨h1, h2, h3⟩ := joinB (h.row r hr).w
    have := (h.row r hr).len
    exact ⟨by omega, by omega, h3⟩
  refine ⟨?_, ?_, ?_, ?_, ?_⟩
  · rw [e]
    exact infB_text wt_len fun l hl => (each l hl).1
  · rw [e]
    exact infB_text (wt_cnt 32) fun l hl => (each l hl).2.1
  · intro c hc
    rw [e] at hc
    obtain ⟨l, hl, hc⟩ := List.mem_flatten.mp hc
    obtain ⟨w, hw, rfl⟩ := List.mem_map.mp hl
    rcases List.mem_append.mp hc with hc | hc
    · exact ((each w hw).2.2 c hc).2
    · rw [List.mem_singleton.mp hc]
      decide
  · rw [e]
    have := wt_text (k := 0) (wt_cnt 10) (L := R.map fun r => TL.joinL [32] (r.map TL.tl)) fun l hl => Nat.le_of_eq (List.count_eq_zero.mpr fun z => ((each l hl).2.2 10 z).1 rfl)
    rw [show List.count 10 [10] = 1 by decide, List.length_map] at this
    omega
  · rw [tl_len, e]
    have := wt_text (k := 144) wt_len (L := R.map fun r => TL.joinL [32] (r.map TL.tl)) fun l hl => (each l hl).1
    rw [List.length_map] at this
    have e1 : ([10] : List Nat).length = 1 := rfl
    rw [e1] at this
    omega
theorem InfB.mono {f : List Nat → Nat} {j k : Nat} {l : List Nat} (h : InfB f j l) (hj : j ≤ k) : InfB f k l := fun m hm hn => Nat.le_trans (h m hm hn) hj
theorem inf_len {a l : List Nat} (h : a <:+: l) : a.length ≤ l.length := wt_len.le h
theorem TB0.tb {x y : Str} {a p b : List Nat} (h : TB0 x) (e : TL.tl y = a ++ p ++ b) (ha : a <:+: TL.tl x) (hb : b <:+: TL.tl x) (hp : p.length ≤ 9) (hc : ∀ c ∈ p, c < 1114112) : TB y := by
  have lx := h.len
  rw [tl_len] at lx
  have la := inf_len ha
  have lb := inf_len hb
  have na := (wt_cnt 10).le ha
  have nb := (wt_cnt 10).le hb
  have np : p.count 10 ≤ 9 := Nat.le_trans List.count_le_length hp
  have n0 := h.n
  refine ⟨?_, ?_, ?_, ?_, ?_⟩
  · rw [e]
    exact (InfB.app wt_len (InfB.app wt_len (h.l.inf ha) (InfB.of wt_len hp)) (h.l.inf hb)).mono (by decide)
  · rw [e]
    exact (InfB.app (wt_cnt 32) (InfB.app (wt_cnt 32) (h.s.inf ha) (InfB.of (wt_cnt 32) (k := 9) (Nat.le_trans List.count_le_length hp))) (h.s.inf hb)).mono (by decide)
  · intro c z
    rw [e] at z
    rcases List.mem_append.mp z with z | z
    · rcases List.mem_append.mp z with z | z
      · exact h.c c (ha.subset z)
      · exact hc c z
    · exact h.c c (hb.subset z)
  · rw [e, List.count_append, List.count_append]
    omega
  · rw [tl_len, e, List.length_append, List.length_append]
    omega
section
variable {b : S} {st : S} {x : Str}
end
end
section
set_option maxHeartbeats 1000000
/-! k12: a row bent, a fresh row. -/

open PySem L2 DL Co

section
variable {α : Type} {g : α → D} {ρ : Ev} {st : S} {Q : D → S → Prop} {l a b : List α} {v i k : Nat} {P : α → Prop}
end
/-! displays of texts -/
def EvS (fs : Ev → S → R (List D)) (ρ : Ev) (ws : List Str) : Prop := ∀ st, fs ρ st = .ok (ws.map .str) st
section
variable {ρ : Ev} {st : S} {Q : D → S → Prop} {fs : Ev → S → R (List D)} {ws : List Str} {a : Str} {i : Nat}
theorem EvS.nil : EvS dNil ρ [] := fun _ => rfl
theorem EvS.c (h : EvS fs ρ ws) : EvS (dCons (dC (.str a)) fs) ρ (a :: ws) := fun st => eq_of (k_cons (k_c (ok_eq (h st) ⟨rfl, rfl⟩)))
theorem EvS.v (h : EvS fs ρ ws) (e : ρ[i]? = some (.sh (.str a))) : EvS (dCons (dVar i) fs) ρ (a :: ws) := fun st => eq_of (k_cons (k_var e (ok_eq (h st) ⟨rfl, rfl⟩)))
end
theorem wb_nm {x : Str} (h : Nm x) : WB x := ⟨by have := h.2.2; omega, fun c hc => by have := h.1 c hc; omega⟩
theorem RwB.cons {m : Nat} {x : Str} {r : List Str} (hx : WB x) (h : RwB m r) : RwB (m + 1) (x :: r) := ⟨Nat.succ_le_succ h.len, fun w hw => by
  rcases List.mem_cons.mp hw with rfl | hw
  · exact hx
  · exact h.w w hw⟩
theorem RwB.nil {m : Nat} : RwB m [] := ⟨Nat.zero_le _, fun _ z => by cases z⟩
theorem RwB.mono {m k : Nat} {r : List Str} (h : RwB m r) (hm : m ≤ k) : RwB k r := ⟨Nat.le_trans h.len hm, h.w⟩
section
variable {b : S} {st : S} {tags : List Str}
end
end
section
set_option maxHeartbeats 1000000
/-! k12: rows bent, one row more. -/

open PySem L2 DL Co

theorem WB.plS {x : Str} (h : WB x) : plS x = true := by
  have := plS_T (l := TL.tl x) (by rw [← tl_len]; have := h.len; omega) fun c hc => (h.c c hc).2.2
  rw [show T (TL.tl x) = x from mkS_tl x] at this
  exact this
theorem RwB.pl {m : Nat} {r : List Str} (h : RwB m r) (hm : m ≤ 100) : pl 1 (rowD r) = true := pl_strsL (fun w hw => (h.w w hw).plS) (by have := h.len; omega)
theorem RB.mono {n m n2 m2 : Nat} {R : List (List Str)} (h : RB n m R) (hn : n ≤ n2) (hm : m ≤ m2) : RB n2 m2 R := ⟨Nat.le_trans h.len hn, fun r hr => (h.row r hr).mono hm⟩
section
variable {b : S} {st : S} {tags : List Str} {R : List (List Str)} {n m : Nat} {f : Form}
/-! sorted rows -/
/-- what is drawn, where much is drawn -/
def Drawn (f : Form) (R : List (List Str)) : Prop := match f with
  | .table => 0 < R.length
  | .book => ∃ a x r R1, R = (a :: x :: r) :: R1
  | .facts => ∃ r x R1, R = (r ++ [x]) :: R1
theorem Drawn.pos {f : Form} (h : Drawn f R) : 0 < R.length := by
  cases f with
  | table => exact h
  | book => obtain ⟨a, x, r, R1, rfl⟩ := h; exact Nat.succ_pos _
  | facts => obtain ⟨r, x, R1, rfl⟩ := h; exact Nat.succ_pos _
end
end
section
set_option maxHeartbeats 1000000
/-! k12: the rows that are drawn, and their words. -/

open PySem L2 DL Co

section
variable {b : S} {st : S} {w : Bool} {R : List (List Str)} {n m : Nat}
end
/-! the words of the first rows -/
section
variable {b : S} {st : S} {R : List (List Str)} {n m : Nat} {Q : Ev → S → Prop} {T : D → S → Prop} {a0 a2 a4 a7 a8 a9 a10 a11 : Sl} {f : Form}
end
end
section
set_option maxHeartbeats 1000000
/-! k12: the law. -/

open PySem L2 DL Co

section
variable {b : S} {st : S} {R : List (List Str)} {Q : Ev → S → Prop} {T : D → S → Prop} {a0 a2 a3 a4 a5 a6 a7 a8 a9 a10 a11 : Sl} {f : Form}
theorem SeeR.more {a e : D} (h : SeeR st a e) (c : S) : SeeR (st ++ c) a e := by
  rcases h with h | ⟨i, ds, x, h1, h2, h3, h4⟩
  · exact .inl h
  · exact .inr ⟨i, ds, x, h1, h2, get_app h3, h4⟩
end
end
section
set_option maxHeartbeats 1000000
/-! k13: the readers of values that are no strings. -/

open PySem L2 DL Co

section
variable {st : S} {Q : D → S → Prop} {d : D} {k : Nat}
end
end
section
set_option maxHeartbeats 1000000
/-! k13: lines, bent by hand. -/

open PySem L2 DL Co

/-- a line: its length, its spaces, its signs -/
structure LB (n s : Nat) (a : Str) : Prop where
  len : a.length ≤ n
  sp : (TL.tl a).count 32 ≤ s
  c : ∀ c ∈ TL.tl a, c ≠ 10 ∧ c < 1114112
theorem LB.app {n s m t : Nat} {a b : Str} (h : LB n s a) (k : LB m t b) : LB (n + m) (s + t) (a ++ b) := by
  have h1 := h.len
  have h2 := k.len
  have h3 := h.sp
  have h4 := k.sp
  refine ⟨by rw [app_len]; omega, by rw [TL.tl_append, List.count_append]; omega, fun c hc => ?_⟩
  rw [TL.tl_append] at hc
  rcases List.mem_append.mp hc with hc | hc
  · exact h.c c hc
  · exact k.c c hc
theorem LB.mono {n s m t : Nat} {a : Str} (h : LB n s a) (h1 : n ≤ m) (h2 : s ≤ t) : LB m t a := ⟨Nat.le_trans h.len h1, Nat.le_trans h.sp h2, h.c⟩
theorem lb_nm {x : Str} (h : Nm x) : LB 6 0 x := ⟨h.2.2, Nat.le_of_eq (List.count_eq_zero.mpr fun z => by have := h.1 32 z; omega), fun c hc => by have := h.1 c hc; omega⟩
theorem nm_sp {x : Str} (h : Nm x) : 32 ∉ TL.tl x := fun z => by have := h.1 32 z; omega
/-! lines cut at their spaces -/
theorem spl_app {s : Nat} : ∀ (l acc r : List Nat), TL.spl [s] 0 acc (l ++ s :: r) = TL.spl [s] 0 acc l ++ TL.spl [s] 0 [] r
  | [], acc, r => by
    have hp : TL.pre [s] (s :: r) = true := by rw [pre1, decide_eq_true rfl]
    rw [List.nil_append, TL.spl_hit hp, TL.spl_nil]
    rfl
  | d :: l, acc, r => by
    by_cases e : d = s
    · have hp : ∀ r, TL.pre [s] (d :: r) = true := fun r => by rw [pre1, decide_eq_true e]
      rw [List.cons_append, TL.spl_hit (hp _), TL.spl_hit (hp _), List.cons_append]
      exact congrArg _ (spl_app l [] r)
    · have hp : ∀ r, TL.pre [s] (d :: r) = false := fun r => by rw [pre1, decide_eq_false e]
      rw [List.cons_append, TL.spl_miss (hp _), TL.spl_miss (hp _)]
      exact spl_app l _ r
theorem spl_none {s : Nat} : ∀ (l acc : List Nat), s ∉ l → TL.spl [s] 0 acc l = [acc ++ l]
  | [], acc, _ => by rw [TL.spl_nil, List.append_nil]
  | d :: l, acc, h => by
    have e : d ≠ s := fun e => h (by rw [e]; exact List.mem_cons_self)
    have hp : TL.pre [s] (d :: l) = false := by rw [pre1, decide_eq_false e]
    rw [TL.spl_miss hp, spl_none l _ fun z => h (List.mem_cons_of_mem _ z), List.append_assoc]
    rfl
theorem splW_tl (a : Str) : splW a = (TL.spl [32] 0 [] (TL.tl a)).map mkS := split_sp2 a
theorem splW_mid {a : Str} {l r : List Nat} (e : TL.tl a = l ++ 32 :: r) : splW a = (TL.spl [32] 0 [] l).map mkS ++ (TL.spl [32] 0 [] r).map mkS := by rw [splW_tl, e, spl_app, List.map_append]
theorem splW_one {w : Str} (h : 32 ∉ TL.tl w) : splW w = [w] := by
  rw [splW_tl, spl_none _ _ h, List.nil_append, List.map_cons, mkS_tl]
  rfl
theorem splW_sp (a b : Str) : splW (a ++ Str.ofString " " ++ b) = splW a ++ splW b := by
  rw [splW_mid (l := TL.tl a) (r := TL.tl b) (by rw [TL.tl_append, TL.tl_append, tl_sp, List.append_assoc]; rfl), ← splW_tl, ← splW_tl]
/-- a word with a space behind it -/
theorem splW_hd {c d b : Str} (e : d = c ++ Str.ofString " ") (h : 32 ∉ TL.tl c) : splW (d ++ b) = c :: splW b := by
  rw [e, splW_sp, splW_one h]
  rfl
theorem sp_find (b : Str) : splW (Str.ofString "find " ++ b) = Str.ofString "find" :: splW b := splW_hd (by decide) (by decide)
theorem sp_word (b : Str) : splW (Str.ofString "word " ++ b) = Str.ofString "word" :: splW b := splW_hd (by decide) (by decide)
theorem sp_finds (b : Str) : splW (Str.ofString "finds " ++ b) = Str.ofString "finds" :: splW b := splW_hd (by decide) (by decide)
theorem sp_fact (b : Str) : splW (Str.ofString "fact " ++ b) = Str.ofString "fact" :: splW b := splW_hd (by decide) (by decide)
theorem sp_join {r : List Str} (hne : r ≠ []) (hn : ∀ x ∈ r, Nm x) : splW (Txt.join " " r) = r := splW_join hne hn
/-! lines that have no form -/
/-! the bent lines -/
/-- a line that may be bent -/
structure Ahd (key a : Str) : Prop where
  row : ∃ t, splW a = key :: t ∧ t ≠ []
  hd : ∃ l, TL.tl a = TL.tl key ++ 32 :: l
  key : key = Str.ofString "find" ∨ key = Str.ofString "finds" ∨ key = Str.ofString "word" ∨ key = Str.ofString "fact"
  asc : ∀ c ∈ TL.tl a, c = 32 ∨ (97 ≤ c ∧ c ≤ 122)
  len : a.length ≤ 60
  sp : (TL.tl a).count 32 ≤ 5
theorem tl_upper {a : Str} (h : ∀ c ∈ TL.tl a, c < 128) : TL.tl (Txt.upper a) = (TL.tl a).map PyProof.Rows.up1 := by
  rw [PyProof.Rows.upper_ascii h]
  show (a.cps.map PyProof.Rows.up1).toList = _
  rw [Array.toList_map]
theorem up1_sg {c : Nat} (h : c = 32 ∨ (97 ≤ c ∧ c ≤ 122)) : PyProof.Rows.up1 c ≠ 10 ∧ PyProof.Rows.up1 c < 1114112 ∧ (PyProof.Rows.up1 c = 32 → c = 32) := by
  unfold PyProof.Rows.up1
  split <;> omega
theorem up1_count : ∀ {l : List Nat}, (∀ c ∈ l, c = 32 ∨ (97 ≤ c ∧ c ≤ 122)) → (l.map PyProof.Rows.up1).count 32 ≤ l.count 32
  | [], _ => Nat.le_refl _
  | c :: l, h => by
    have ih := up1_count fun c hc => h c (List.mem_cons_of_mem _ hc)
    have h1 := up1_sg (h c List.mem_cons_self)
    rw [List.map_cons]
    by_cases e : c = 32
    · subst e
      rw [List.count_cons_self, show PyProof.Rows.up1 32 = 32 from rfl, List.count_cons_self]
      omega
    · rw [List.count_cons_of_ne e, List.count_cons_of_ne fun z => e (h1.2.2 z)]
      exact ih
section
variable {key a x y : Str}
theorem Ahd.lb (h : Ahd key a) : LB 60 5 a := ⟨h.len, h.sp, fun c hc => by have := h.asc c hc; omega⟩
theorem Ahd.upper (h : Ahd key a) : LB 60 5 (Txt.upper a) := by
  have e : TL.tl (Txt.upper a) = (TL.tl a).map PyProof.Rows.up1 := tl_upper fun c hc => by have := h.asc c hc; omega
  have e2 := h.len
  have e3 := h.sp
  have e4 := up1_count h.asc
  refine ⟨by rw [tl_len, e, List.length_map, ← tl_len]; exact e2, by rw [e]; omega, fun c hc => ?_⟩
  rw [e] at hc
  obtain ⟨d, hd, rfl⟩ := List.mem_map.mp hc
  have := up1_sg (h.asc d hd)
  exact ⟨this.1, this.2.1⟩
end
end
section
set_option maxHeartbeats 1000000
/-! k13: a case judged. -/

open PySem L2 DL Co

abbrev CaseT := List Str × Int × Str
def caseL (c : CaseT) : D := .tup [.lst (c.1.map .str), .int c.2.1, .str c.2.2]
structure Case (f : Form) (c : CaseT) : Prop where
  lb : ∀ a ∈ c.1, LB 200 40 a
  n : c.1.length ≤ 60
  bad : 0 ≤ c.2.1 → ∃ n : Nat, c.2.1 = n ∧ n < c.1.length ∧ badW f.why c.1 = some (n, c.2.2)
  good : c.2.1 < 0 → badW f.why c.1 = none ∧ (c.1 = [] → f = .facts)
  w : plS c.2.2 = true
theorem Case.rows {f : Form} {c : CaseT} (h : Case f c) : RowsB 200 c.1 := fun r hr => ⟨(h.lb r hr).len, (h.lb r hr).c⟩
theorem tx_lines {L : List Str} (h : RowsB 200 L) (hn : L.length ≤ 60) : TxOK (textN L) L (Str.ofString "") := tx_rows h (by decide) (by omega)
/-- what is due for the lines of a case -/
def dueC (c : CaseT) : D := if 0 ≤ c.2.1 then .tup [.str (Str.ofString "no"), .str (Str.ofString "InvalidText"), .int c.2.1, .str c.2.2] else .tup [.str (Str.ofString "told"), .lst ((c.1.map splW).map rowD)]
theorem due_form {f : Form} {x : Str} {L : List Str} {t : Str} (h : x = Str.ofString "" → f = .facts) : f.due x L t = dueW f.why L t := by
  cases f with
  | facts => rfl
  | table => show dueM whyT x L t = _; unfold dueM; rw [if_neg fun z => nomatch h z]; rfl
  | book => show dueM whyB x L t = _; unfold dueM; rw [if_neg fun z => nomatch h z]; rfl
theorem Case.due {f : Form} {c : CaseT} (h : Case f c) : f.due (textN c.1) c.1 (Str.ofString "") = dueC c := by
  have tx := tx_lines h.rows h.n
  unfold dueC
  by_cases hk : 0 ≤ c.2.1
  · obtain ⟨n, e, hn, hb⟩ := h.bad hk
    rw [due_form fun z => absurd z (tx_ne tx (by omega)), if_pos hk, e]
    exact due_bad hb
  · obtain ⟨hg, hf⟩ := h.good (by omega)
    rw [if_neg hk, due_form fun z => hf ?_]
    · exact due_told hg rfl
    · cases e : c.1 with
      | nil => rfl
      | cons a L =>
        refine absurd z (tx_ne tx ?_)
        rw [e]
        exact Nat.succ_pos _
end
section
set_option maxHeartbeats 1000000
/-! k13: a case judged, by the law. -/

open PySem L2 DL Co

section
variable {st : S} {f : Form} {c : CaseT} {z : Bool}
end
end
section
set_option maxHeartbeats 1000000
/-! k13: the cases of tables, plainly. -/

open PySem L2 DL Co

/-- ascending names -/
structure Asc (n : Nat) (t : List Str) : Prop where
  len : t.length = n
  nm : ∀ x ∈ t, Nm x
  pw : t.Pairwise fun a b => ltS a b = true
def gt (t : List Str) (i : Nat) : Str := t.getD i (Str.ofString "")
theorem gt_at {t : List Str} {i : Nat} (h : i < t.length) : t[i]? = some (gt t i) := by
  unfold gt
  rw [List.getD_eq_getElem?_getD, List.getElem?_eq_getElem h]
  rfl
theorem Asc.at {n i : Nat} {t : List Str} (h : Asc n t) (hi : i < n) : t[i]? = some (gt t i) := gt_at (by rw [h.len]; exact hi)
theorem Asc.lt {n i j : Nat} {t : List Str} (h : Asc n t) (hj : j < n) (hij : i < j) : ltS (gt t i) (gt t j) = true := by
  have l := h.len
  have ei : gt t i = t[i] := by have := h.at (i := i) (by omega); rw [List.getElem?_eq_getElem (by omega)] at this; exact (Option.some.inj this).symm
  have ej : gt t j = t[j] := by have := h.at (i := j) (by omega); rw [List.getElem?_eq_getElem (by omega)] at this; exact (Option.some.inj this).symm
  rw [ei, ej]
  exact List.pairwise_iff_getElem.mp h.pw i j (by omega) (by omega) hij
theorem ltS_ne {a b : Str} (h : ltS a b = true) : a ≠ b := fun e => by rw [e, ltS_irrefl] at h; cases h
theorem Asc.nd {n : Nat} {t : List Str} (h : Asc n t) : t.Nodup := h.pw.imp ltS_ne
theorem Asc.take {n k : Nat} {t : List Str} (h : Asc n t) (hk : k ≤ n) : Asc k (t.take k) := ⟨by rw [List.length_take, h.len]; omega, fun x hx => h.nm x (List.mem_of_mem_take hx), h.pw.sublist (List.take_sublist _ _)⟩
theorem Asc.lot {n : Nat} {t : List Str} (h : Asc n t) (h0 : 0 < n) : Lot t := ⟨fun e => by have := h.len; rw [e] at this; simp at this; omega, h.nm, h.pw⟩
/-- lines of finds -/
def fl (x : Str) : Str := Str.ofString "find " ++ x
theorem spl_fl {x : Str} (h : Nm x) : splW (fl x) = [Str.ofString "find", x] := by
  unfold fl
  rw [sp_find, splW_one (nm_sp h)]
theorem fls_spl {xs : List Str} (h : ∀ x ∈ xs, Nm x) : (xs.map fl).map splW = xs.map fun x => [Str.ofString "find", x] := by
  rw [List.map_map]
  exact List.map_congr_left fun x hx => spl_fl (h x hx)
theorem kinds_none (xs : List Str) : kindsK (xs.map fun x => [Str.ofString "find", x]) = [] := by
  induction xs with
  | nil => rfl
  | cons x xs ih => exact ih
theorem okH_1 {x : Str} (h : Nm x) : okH [Str.ofString "find", x] = true := by
  rw [okH_eq, decide_eq_true rfl]
  show (true && (true && ((isName (.str x) && true) && true))) = true
  rw [h.isName]
  rfl
/-- ascending finds, at most twelve -/
structure NL (xs : List Str) : Prop where
  nm : ∀ x ∈ xs, Nm x
  pw : xs.Pairwise fun a b => ltS a b = true
  len : xs.length ≤ 12
theorem NL.good {xs : List Str} (h : NL xs) : GoodT (xs.map fun x => [Str.ofString "find", x]) where
  ok := fun r hr => by
    obtain ⟨x, hx, rfl⟩ := List.mem_map.mp hr
    exact okH_1 (h.nm x hx)
  n := by rw [List.length_map]; exact h.len
  kk := by rw [kinds_none]; decide
  asc := by
    rw [List.map_map, show (xs.map (secW ∘ fun x => [Str.ofString "find", x])) = xs from (List.map_congr_left fun x _ => rfl).trans (List.map_id _)]
    exact h.pw
theorem NL.bad {xs : List Str} (h : NL xs) : badW whyT (xs.map fl) = none := by
  unfold badW
  rw [fls_spl h.nm]
  exact scan_goodT (K := []) h.good
section
variable {xs : List Str} {a : Str} {k : Int}
end
/-! finds with kinds -/
theorem lb_join {K : List Str} (h : ∀ x ∈ K, Nm x) {n : Nat} (hl : K.length ≤ n) : LB (8 * n) n (Txt.join " " K) := by
  obtain ⟨h1, h2, h3⟩ := joinB (r := K) fun w hw => wb_nm (h w hw)
  have e : TL.tl (Txt.join " " K) = TL.joinL [32] (K.map TL.tl) := by
    rw [TL.join_eq, TL.tl_join]
    congr 1
  exact ⟨by rw [tl_len, e]; omega, by rw [e]; omega, fun c hc => h3 c (by rw [← e]; exact hc)⟩
section
variable {x y : Str} {K : List Str}
variable {t s : List Str}
theorem lb_sp : LB 1 1 (Str.ofString " ") := ⟨by decide, by decide, by decide⟩
theorem word_spl {p q : Str} (hp : Nm p) (hq : Nm q) : splW (Str.ofString "word " ++ p ++ Str.ofString " " ++ q) = [Str.ofString "word", p, q] := by
  rw [splW_sp, sp_word, splW_one (nm_sp hp), splW_one (nm_sp hq)]
  rfl
theorem lb_word2 {p q : Str} (hp : Nm p) (hq : Nm q) : LB 200 40 (Str.ofString "word " ++ p ++ Str.ofString " " ++ q) := ((((⟨by decide, by decide, by decide⟩ : LB 5 1 (Str.ofString "word ")).app (lb_nm hp)).app lb_sp).app (lb_nm hq)).mono (by decide) (by decide)
end
end
section
set_option maxHeartbeats 1000000
/-! k13: the cases of tables, as the law makes them. -/

open PySem L2 DL Co

/-! expressions that draw nothing -/
def EvD (fe : Ev → S → DL.R D) (ρ : Ev) (d : D) : Prop := ∀ st, fe ρ st = .ok d st
structure ES (fe : Ev → S → DL.R D) (ρ : Ev) (a : Str) (n s : Nat) : Prop where
  e : EvD fe ρ (.str a)
  l : LB n s a
structure EL (fe : Ev → S → DL.R D) (ρ : Ev) (L : List Str) (n : Nat) : Prop where
  e : EvD fe ρ (.lst (L.map .str))
  l : L.length ≤ n
def ECs (fs : Ev → S → DL.R (List D)) (ρ : Ev) (cs : List CaseT) : Prop := ∀ st, fs ρ st = .ok (cs.map caseL) st
section
variable {ρ : Ev} {A B C : Ev → S → DL.R D} {fs : Ev → S → DL.R (List D)} {a b x : Str} {n s m t i k : Nat} {L M xs : List Str} {d : D} {st : S} {Q : D → S → Prop}
theorem EvD.c : EvD (dC d) ρ d := fun _ => rfl
theorem EvD.v (e : ρ[i]? = some (.sh d)) : EvD (dVar i) ρ d := fun st => eq_of (k_var e ⟨rfl, rfl⟩)
theorem EvD.len (h : EL A ρ L n) : EvD (dCall (one lenD) (dCons A dNil)) ρ (.int (L.length : Nat)) := fun st => eq_of (k_call (k_cons (ok_eq (h.e st) (k_nil (k_one (o_lenL ⟨by rw [List.length_map], rfl⟩))))))
theorem ES.c (h : LB n s x) : ES (dC (.str x)) ρ x n s := ⟨.c, h⟩
theorem ES.v (e : ρ[i]? = some (.sh (.str x))) (h : LB n s x) : ES (dVar i) ρ x n s := ⟨.v e, h⟩
theorem ES.ix (k : Nat) (e : ρ[i]? = some (.sh (.lst (xs.map .str)))) (g : xs[k]? = some x) (h : LB n s x) : ES (dBin ixD (dVar i) (dC (.int (k : Nat)))) ρ x n s := ⟨fun st => eq_of (k_bin (k_var e (k_c (ixL_ok (n := ((k : Nat) : Int)) (d := .str x) (atI_nat (by rw [List.getElem?_map, g]; rfl)) ⟨rfl, rfl⟩)))), h⟩
theorem ES.add (hA : ES A ρ a n s) (hB : ES B ρ b m t) (h : n + m ≤ 500 := by decide) : ES (dBin addD A B) ρ (a ++ b) (n + m) (s + t) := ⟨fun st => eq_of (k_bin (ok_eq (hA.e st) (ok_eq (hB.e st) (addS_ok (small (by have := hA.l.len; have := hB.l.len; omega)) ⟨rfl, rfl⟩)))), hA.l.app hB.l⟩
theorem EL.v (e : ρ[i]? = some (.sh (.lst (L.map .str)))) (h : L.length ≤ n) : EL (dVar i) ρ L n := ⟨.v e, h⟩
theorem EL.one (h : ES A ρ a n s) : EL (dLst (dCons A dNil)) ρ [a] 1 := ⟨fun st => eq_of (k_lst (k_cons (ok_eq (h.e st) (k_nil ⟨small (by simp), rfl, rfl⟩)))), Nat.le_refl _⟩
theorem EL.two (h : ES A ρ a n s) (h2 : ES B ρ b m t) : EL (dLst (dCons A (dCons B dNil))) ρ [a, b] 2 := ⟨fun st => eq_of (k_lst (k_cons (ok_eq (h.e st) (k_cons (ok_eq (h2.e st) (k_nil ⟨small (by simp), rfl, rfl⟩)))))), Nat.le_refl _⟩
theorem EL.add (hA : EL A ρ L n) (hB : EL B ρ M m) (h : n + m ≤ 200 := by decide) : EL (dBin addD A B) ρ (L ++ M) (n + m) := ⟨fun st => eq_of (k_bin (ok_eq (hA.e st) (ok_eq (hB.e st) (addL_ok (small (by rw [List.length_map, List.length_map]; have := hA.l; have := hB.l; omega)) ⟨by rw [List.map_append], rfl⟩)))), by have := hA.l; have := hB.l; rw [List.length_append]; omega⟩
/-- one case -/
theorem EvD.case {z : Int} {w : Str} (hL : EL A ρ L n) (hk : EvD B ρ (.int z)) (hw : EvD C ρ (.str w)) : EvD (dTup (dCons A (dCons B (dCons C dNil)))) ρ (caseL (L, z, w)) := fun st => eq_of (k_tup (k_cons (ok_eq (hL.e st) (k_cons (ok_eq (hk st) (k_cons (ok_eq (hw st) (k_nil ⟨small (by simp), rfl, rfl⟩)))))))) 
theorem ECs.nil : ECs dNil ρ [] := fun _ => rfl
theorem ECs.cons {c : CaseT} {cs : List CaseT} (h : EvD A ρ (caseL c)) (h2 : ECs fs ρ cs) : ECs (dCons A fs) ρ (c :: cs) := fun st => eq_of (k_cons (ok_eq (h st) (ok_eq (h2 st) ⟨rfl, rfl⟩)))
/-- a list of texts -/
def ESs (fs : Ev → S → DL.R (List D)) (ρ : Ev) (L : List Str) : Prop := ∀ st, fs ρ st = .ok (L.map .str) st
theorem ESs.nil : ESs dNil ρ [] := fun _ => rfl
theorem ESs.cons (h : ES A ρ a n s) (h2 : ESs fs ρ L) : ESs (dCons A fs) ρ (a :: L) := fun st => eq_of (k_cons (ok_eq (h.e st) (ok_eq (h2 st) ⟨rfl, rfl⟩)))
end
def CS (f : Form) (cs : List CaseT) : Prop := ∀ c ∈ cs, Case f c
theorem CS.app {f : Form} {a b : List CaseT} (ha : CS f a) (hb : CS f b) : CS f (a ++ b) := fun c hc => (List.mem_append.mp hc).elim (ha c) (hb c)
theorem CS.nil {f : Form} : CS f [] := fun _ z => by cases z
theorem CS.cons {f : Form} {c : CaseT} {a : List CaseT} (h : Case f c) (ha : CS f a) : CS f (c :: a) := fun x hx => by
  rcases List.mem_cons.mp hx with rfl | hx
  · exact h
  · exact ha x hx
section
variable {b : S} {st : S} {t sr : List Str} {Q : Ev → S → Prop} {T : D → S → Prop}
theorem Asc.nl {n k : Nat} {t : List Str} (h : Asc n t) (hk : k ≤ 12) : NL (t.take k) := ⟨fun x hx => h.nm x (List.mem_of_mem_take hx), h.pw.sublist (List.take_sublist _ _), by rw [List.length_take]; omega⟩
abbrev frT (t sr : List Str) (k : Nat) (cs : List CaseT) (a5 a6 a7 a13 a14 : Sl) : Ev := [.sh (.ref 0), .sh (.lst (t.map .str)), .sh (.lst (sr.map .str)), .sh (.int (k : Nat)), .sh (.lst (cs.map caseL)), a5, a6, a7, .sh (.lst (((t.take k).map fl).map .str)), .sh (.str (gt sr 0)), .sh (.str (gt sr 1)), .sh (.lst (((t.take 12).map fl).map .str)), .sh (.str (Txt.join " " (sr.take 10))), a13, a14]
end
end
section
set_option maxHeartbeats 1000000
/-! k13: the cases of books, plainly. -/

open PySem L2 DL Co

/-- lines of words -/
def wl (l x : Str) : Str := Str.ofString "word " ++ l ++ Str.ofString " " ++ x
theorem spl_wl {l x : Str} (hl : Nm l) (hx : Nm x) : splW (wl l x) = [Str.ofString "word", l, x] := word_spl hl hx
theorem lb_wl {l x : Str} (hl : Nm l) (hx : Nm x) : LB 200 40 (wl l x) := lb_word2 hl hx
def hl (t : List Str) : Str := Str.ofString "finds " ++ Txt.join " " t
theorem spl_hl {t : List Str} (h : ∀ x ∈ t, Nm x) (h0 : t ≠ []) : splW (hl t) = Str.ofString "finds" :: t := by
  unfold hl
  rw [sp_finds, sp_join h0 h]
def lbS : LB 6 1 (Str.ofString "finds ") := ⟨by decide, by decide, by decide⟩
theorem lb_hl {t : List Str} (h : ∀ x ∈ t, Nm x) (h1 : t.length ≤ 13) : LB 200 40 (hl t) := (lbS.app (lb_join h h1)).mono (by decide) (by decide)
structure WL (F : List Str) (W : List (Str × Str)) : Prop where
  nm : ∀ p ∈ W, Nm p.1
  x : ∀ p ∈ W, p.2 ∈ F
  nd : (W.map (·.1)).Nodup
  len : W.length ≤ 40
def wls (W : List (Str × Str)) : List Str := W.map fun p => wl p.1 p.2
def wrow (p : Str × Str) : List Str := [Str.ofString "word", p.1, p.2]
theorem okWd_1 {l x : Str} (hl : Nm l) (hx : Nm x) : okWd [Str.ofString "word", l, x] = true := by
  rw [okWd_eq, decide_eq_true rfl]
  show (true && (true && ((isName (.str l) && (isName (.str x) && true)) && true))) = true
  rw [hl.isName, hx.isName]
  rfl
section
variable {F : List Str} {n : Nat} {W : List (Str × Str)}
theorem WL.spl (h : WL F W) (hF : ∀ x ∈ F, Nm x) : (wls W).map splW = W.map wrow := by
  unfold wls
  rw [List.map_map]
  exact List.map_congr_left fun p hp => spl_wl (h.nm p hp) (hF _ (h.x p hp))
theorem WL.good (h : WL F W) (hF : Asc n F) (h0 : 0 < n) (h12 : n ≤ 12) : GoodF (Str.ofString "finds" :: F) (W.map wrow) where
  hd := rfl
  lot := hF.lot h0
  n12 := by show F.length ≤ 12; rw [hF.len]; exact h12
  ok := fun r hr => by
    obtain ⟨p, hp, rfl⟩ := List.mem_map.mp hr
    exact okWd_1 (h.nm p hp) (hF.nm _ (h.x p hp))
  w := by
    show Wds F ((W.map wrow).map rowP)
    rw [show (W.map wrow).map rowP = W.map fun p => (p.1, [p.2]) by rw [List.map_map]; rfl]
    refine ⟨fun w hw => ?_, fun w hw => ?_, ?_, by rw [List.length_map]; exact h.len⟩
    · obtain ⟨p, hp, rfl⟩ := List.mem_map.mp hw
      exact h.nm p hp
    · obtain ⟨p, hp, rfl⟩ := List.mem_map.mp hw
      have nx := hF.nm _ (h.x p hp)
      exact ⟨⟨List.cons_ne_nil _ _, fun z hz => by rw [List.mem_singleton.mp hz]; exact nx, List.pairwise_singleton _ _⟩, fun z hz => by rw [List.mem_singleton.mp hz]; exact h.x p hp⟩
    · rw [List.map_map]
      exact h.nd
theorem WL.rows (h : WL F W) (hF : Asc n F) (h0 : 0 < n) : (hl F :: wls W).map splW = (Str.ofString "finds" :: F) :: W.map wrow := by
  rw [List.map_cons, h.spl hF.nm, spl_hl hF.nm (hF.lot h0).ne]
theorem WL.bad (h : WL F W) (hF : Asc n F) (h0 : 0 < n) (h12 : n ≤ 12) : badW whyB (hl F :: wls W) = none := by
  unfold badW
  rw [h.rows hF h0]
  exact scan_book (h.good hF h0 h12)
theorem WL.lb (h : WL F W) (hF : Asc n F) (h12 : n ≤ 12) : ∀ l ∈ hl F :: wls W, LB 200 40 l := fun l hl => by
  rcases List.mem_cons.mp hl with rfl | hl
  · exact lb_hl hF.nm (by rw [hF.len]; omega)
  · obtain ⟨p, hp, rfl⟩ := List.mem_map.mp hl
    exact lb_wl (h.nm p hp) (hF.nm _ (h.x p hp))
end
end
section
set_option maxHeartbeats 8000000
/-! k13: the cases of books, as the law makes them. -/

open PySem L2 DL Co

section
variable {ρ : Ev} {A : Ev → S → DL.R D} {i n : Nat} {xs L : List Str}
theorem EvD.cut (k : Nat) (e : ρ[i]? = some (.sh (.lst (xs.map .str)))) : EvD (dSl (dVar i) (dNoP) (dPart (dC (.int (k : Nat))))) ρ (.lst ((xs.take k).map .str)) := fun st => eq_of (k_sl (k_var e (k_noP (k_part (k_c ⟨_, rfl, o_slL ⟨by rw [cutL_hi, ← List.map_take], rfl⟩⟩)))))
theorem EvD.rev (h : EvD A ρ (.lst (L.map .str))) : EvD (dUn revD A) ρ (.lst (L.reverse.map .str)) := fun st => eq_of (k_un (ok_eq (h st) (o_revL ⟨by rw [List.map_reverse], rfl⟩)))
theorem ES.join (h : EvD A ρ (.lst (L.map .str))) (nm : ∀ x ∈ L, Nm x) (hl : L.length ≤ n) (hn : n ≤ 60 := by decide) : ES (dJoin (dC (.str " ")) A) ρ (Txt.join " " L) (8 * n) n := ⟨fun st => eq_of (k_join (k_c ⟨_, rfl, ok_eq (h st) (o_join (join_room (by decide) nm (by omega)) ⟨rfl, rfl⟩)⟩)), lb_join nm hl⟩
end
section
variable {b : S} {st : S} {t ls : List Str}
end
end
section
set_option maxHeartbeats 8000000
/-! k13: the cases of facts. -/

open PySem L2 DL Co

/-- a fact as the law writes it -/
def Fa.st : Fa → Str
  | .first x => Str.ofString "first " ++ x
  | .last x => Str.ofString "last " ++ x
  | .before x y => Str.ofString "before " ++ x ++ Str.ofString " " ++ y
theorem Fa.st_spl {f : Fa} (h : ∀ x ∈ f.ns, Nm x) : splW f.st = f.ss := by
  cases f with
  | first x => exact (splW_hd (c := Str.ofString "first") (by decide) (by decide)).trans (by rw [splW_one (nm_sp (h x (by simp [Fa.ns])))]; rfl)
  | last x => exact (splW_hd (c := Str.ofString "last") (by decide) (by decide)).trans (by rw [splW_one (nm_sp (h x (by simp [Fa.ns])))]; rfl)
  | before x y =>
    show splW (Str.ofString "before " ++ x ++ Str.ofString " " ++ y) = _
    rw [splW_sp, splW_hd (c := Str.ofString "before") (by decide) (by decide), splW_one (nm_sp (h x (by simp [Fa.ns]))), splW_one (nm_sp (h y (by simp [Fa.ns])))]
    rfl
theorem Fa.st_lb {f : Fa} (h : ∀ x ∈ f.ns, Nm x) : LB 20 2 f.st := by
  cases f with
  | first x => exact ((⟨by decide, by decide, by decide⟩ : LB 6 1 (Str.ofString "first ")).app (lb_nm (h x (by simp [Fa.ns])))).mono (by decide) (by decide)
  | last x => exact ((⟨by decide, by decide, by decide⟩ : LB 5 1 (Str.ofString "last ")).app (lb_nm (h x (by simp [Fa.ns])))).mono (by decide) (by decide)
  | before x y => exact ((((⟨by decide, by decide, by decide⟩ : LB 7 1 (Str.ofString "before ")).app (lb_nm (h x (by simp [Fa.ns])))).app lb_sp).app (lb_nm (h y (by simp [Fa.ns])))).mono (by decide) (by decide)
def lbA : LB 5 1 (Str.ofString "fact ") := ⟨by decide, by decide, by decide⟩
def fcl (l : Str) (f : Fa) : Str := Str.ofString "fact " ++ l ++ Str.ofString " " ++ f.st
def frow (p : Str × Fa) : List Str := rowG (p.1, p.2.ss)
theorem spl_fa {l : Str} (hl : Nm l) : splW (Str.ofString "fact " ++ l) = [Str.ofString "fact", l] := by rw [sp_fact, splW_one (nm_sp hl)]
theorem spl_fcl {l : Str} {f : Fa} (hl : Nm l) (hf : ∀ x ∈ f.ns, Nm x) : splW (fcl l f) = frow (l, f) := by
  unfold fcl
  rw [splW_sp, spl_fa hl, f.st_spl hf]
  rfl
theorem lb_fcl {l : Str} {f : Fa} (hl : Nm l) (hf : ∀ x ∈ f.ns, Nm x) : LB 40 5 (fcl l f) := (((lbA.app (lb_nm hl)).app lb_sp).app (f.st_lb hf)).mono (by decide) (by decide)
structure FL (W : List (Str × Fa)) : Prop where
  nm : ∀ p ∈ W, Nm p.1
  fa : ∀ p ∈ W, ∀ x ∈ p.2.ns, Nm x
  nd : (W.map (·.1)).Nodup
  len : W.length ≤ 30
def fcs (W : List (Str × Fa)) : List Str := W.map fun p => fcl p.1 p.2
section
variable {W : List (Str × Fa)}
theorem FL.facC (h : FL W) : FacC (W.map fun p => (p.1, p.2.ss)) where
  nm := fun r hr => by
    obtain ⟨p, hp, rfl⟩ := List.mem_map.mp hr
    exact h.nm p hp
  fa := fun r hr => by
    obtain ⟨p, hp, rfl⟩ := List.mem_map.mp hr
    exact ⟨p.2, rfl, h.fa p hp⟩
  nd := by
    rw [List.map_map]
    exact h.nd
  len := by rw [List.length_map]; exact h.len
theorem FL.rows (h : FL W) : (fcs W).map splW = W.map frow := by
  unfold fcs
  rw [List.map_map]
  exact List.map_congr_left fun p hp => spl_fcl (h.nm p hp) (h.fa p hp)
theorem FL.bad (h : FL W) : badW whyF (fcs W) = none := by
  unfold badW
  rw [h.rows, show W.map frow = (W.map fun p => (p.1, p.2.ss)).map rowG by rw [List.map_map]; rfl]
  exact scan_facts (F := []) h.facC
theorem FL.lb (h : FL W) : ∀ l ∈ fcs W, LB 200 40 l := fun l hl => by
  obtain ⟨p, hp, rfl⟩ := List.mem_map.mp hl
  exact (lb_fcl (h.nm p hp) (h.fa p hp)).mono (by decide) (by decide)
end
section
variable {b : S} {st : S} {t ls : List Str}
end
end
section
set_option maxHeartbeats 1000000
/-! k13: the law. -/

open PySem L2 DL Co

section
variable {st b : S} {Q : Ev → S → Prop} {T : D → S → Prop} {t sr ls : List Str} {a0 a2 a3 a7 a8 : Sl} {f : Form}
end
end
section
set_option maxHeartbeats 2000000
/-! k88 and its neighbours: draws, picks, mixing. -/

open PySem L2 DL Co

/-- the bag stands in the store -/
def Bg (tl : S × S) (st : S) : Prop := ∃ (cells : List Int) (idx rest mixed cnt : Int), st = tl.1 ++ .lst [.lst (cells.map .int), .int idx, .int rest, .int mixed, .int cnt] :: tl.2 ∧ 0 ≤ idx ∧ 0 ≤ rest ∧ 0 ≤ mixed ∧ mixed < 2147483549
end
section
set_option maxHeartbeats 2000000
/-! k88 and its neighbours: things picked and mixed, drawn names. -/

open PySem L2 DL Co

section
variable {tl : S × S} {st : S}
theorem low_1 {c : Nat} (h1 : 97 ≤ c) (h2 : c ≤ 122) : Low [c] := fun d hd => by rw [List.mem_singleton.mp hd]; exact ⟨h1, h2⟩
theorem nm_T {l : List Nat} (h : Low l) (h1 : 1 ≤ l.length) (h2 : l.length ≤ 6) : Nm (T l) := ⟨h, by rw [T_len]; exact h1, by rw [T_len]; exact h2⟩
def cs88 (fi sd : Int) (N : Nat) : List Nat := (List.range N).map fun (k : Nat) => 97 + ((fi + sd * (k : Int)) % 26).toNat
theorem cs88_nd {fi sd : Int} {N : Nat} (hs : sd ∈ strides) (hN : N ≤ 26) : (cs88 fi sd N).Nodup := by
  unfold cs88
  refine List.pairwise_map.mpr (List.Pairwise.imp_of_mem ?_ List.nodup_range)
  intro j k hj hk ne e
  have hj := List.mem_range.mp hj
  have hk := List.mem_range.mp hk
  refine ne ?_
  have h1 := Int.emod_nonneg (fi + sd * (k : Int)) (by decide : (26 : Int) ≠ 0)
  have h2 := Int.emod_nonneg (fi + sd * (j : Int)) (by decide : (26 : Int) ≠ 0)
  simp only [strides, List.mem_cons, List.not_mem_nil, or_false] at hs
  rcases hs with rfl | rfl | rfl | rfl | rfl | rfl | rfl <;> omega
end
end
section
set_option maxHeartbeats 2000000
/-! k88: names, lots, claims: two judges, one answer. -/

open PySem L2 DL Co

section
variable {st : S} {Q : D → S → Prop} {n : Nat}
def isClaim1 (x : Str) (ds : List D) : Bool :=
  if x = Str.ofString "together" then (match ds with | [d] => isLot d | _ => false)
  else if x = Str.ofString "before" ∨ x = Str.ofString "same" then (match ds with | [a, b] => isName a && (isName b && !eqd a b) | _ => false)
  else if x = Str.ofString "first" ∨ x = Str.ofString "last" then (match ds with | [a] => isName a | _ => false) else false
def isClaim : D → Bool
  | .tup (.str x :: ds) => isClaim1 x ds
  | _ => false
end
end
section
set_option maxHeartbeats 2000000
/-! k88 and its neighbours: the law's own likeness of two values. -/

open PySem L2 DL Co

section
variable {st : S} {Q : D → S → Prop} {n : Nat}
/-- what the law finds alike: the same plain data, lists of the store by what they hold -/
inductive Alk (st : S) : Nat → D → D → Prop
  | pl {n : Nat} {d : D} : pl n d = true → n ≤ 60 → Alk st n d d
  | ref {n i : Nat} {ds es : List D} : st[i]? = some (.lst es) → es.length = ds.length → ds.length ≤ 1000 → (∀ p ∈ es.zip ds, Alk st n p.1 p.2) → Alk st (n + 1) (.ref i) (.lst ds)
  | lst {n : Nat} {ds es : List D} : es.length = ds.length → ds.length ≤ 1000 → (∀ p ∈ es.zip ds, Alk st n p.1 p.2) → Alk st (n + 1) (.lst es) (.lst ds)
  | tup {n : Nat} {ds es : List D} : es.length = ds.length → ds.length ≤ 1000 → (∀ p ∈ es.zip ds, Alk st n p.1 p.2) → Alk st (n + 1) (.tup es) (.tup ds)
/-- zip of two things, the first one perhaps a list of the store -/
theorem k_lcZ {t : Tg} {vs : List Nat} {g : Ev → S → DL.R (List D)} {te : Ev → S → DL.R D} {ρ : Ev} {A B : D} {a b : List D} {f : D × D → D} (hg : g ρ st = .ok [A, B] st)
    (hA : (A = .lst a ∧ B = .lst b) ∨ (A = .tup a ∧ B = .tup b) ∨ (∃ i, A = .ref i ∧ st[i]? = some (.lst a) ∧ B = .lst b)) (hl : a.length = b.length) (h1 : b.length ≤ 1000)
    (h : ∀ p ∈ a.zip b, ∃ ρ', bindT t (.pr p.1 p.2) (wipeE ρ vs) = some ρ' ∧ te ρ' st = .ok (f p) st) (q : Q (.lst ((a.zip b).map f)) st) : Ok (dLcZ t vs g tTrue te ρ st) Q := by
  unfold dLcZ
  rcases hA with ⟨rfl, rfl⟩ | ⟨rfl, rfl⟩ | ⟨i, rfl, e, rfl⟩
  · rw [hg]
    refine k_lc (k_zip (ok_eq hg (o_zipL ⟨small (by rw [List.length_map, List.length_zip]; omega), ?_⟩)))
    exact ok_eq (comp_of (fun p : D × D => .pr p.1 p.2) f h) q
  · rw [hg]
    refine k_lc (k_zip (ok_eq hg (o_zipT ⟨small (by rw [List.length_map, List.length_zip]; omega), ?_⟩)))
    exact ok_eq (comp_of (fun p : D × D => .pr p.1 p.2) f h) q
  · rw [hg]
    dsimp only
    unfold dLcZ0
    rw [hg]
    dsimp only [R.bind]
    rw [e]
    dsimp only
    rw [if_pos ⟨small (by omega), hl⟩]
    have key : ∀ j, j ≤ b.length → compZ i b t tTrue te (wipeE ρ vs) j st = .ok (((a.zip b).drop (b.length - j)).map f) st := by
      intro j
      induction j with
      | zero =>
        intro _
        unfold compZ
        rw [e]
        dsimp only
        rw [if_pos hl, Nat.sub_zero, List.drop_of_length_le (by rw [List.length_zip]; omega)]
        rfl
      | succ j ih =>
        intro hj
        have ha : b.length - (j + 1) < a.length := by omega
        have hb : b.length - (j + 1) < b.length := by omega
        have hz : b.length - (j + 1) < (a.zip b).length := by rw [List.length_zip]; omega
        obtain ⟨ρ', e1, e2⟩ := h (a.zip b)[b.length - (j + 1)] (List.getElem_mem _)
        rw [List.getElem_zip] at e1 e2
        unfold compZ
        rw [e]
        dsimp only
        rw [if_pos hl, List.getElem?_eq_getElem ha, List.getElem?_eq_getElem hb]
        dsimp only
        rw [e1]
        dsimp only [tTrue, noX, R.bind]
        rw [if_pos rfl, e2]
        dsimp only [noX, R.bind]
        rw [ih (by omega)]
        dsimp only [R.bind]
        rw [List.drop_eq_getElem_cons hz, List.map_cons, List.getElem_zip, show b.length - (j + 1) + 1 = b.length - j by omega]
    rw [key b.length (Nat.le_refl _), Nat.sub_self, List.drop_zero]
    exact ⟨_, _, rfl, q⟩
theorem lk_seq {F : List D → S → DL.R D} {A B da db : D} {a b : List D} (hd : (da = .lst a ∧ db = .lst b) ∨ (da = .tup a ∧ db = .tup b)) (hB : B = db)
    (hI : ∀ {n : String} {Q : D → S → Prop}, tyNames.contains n = true → Q (.bl (isI da n)) st → Ok (isiD [A, .ty n] st) Q)
    (hL : ∀ {Q : D → S → Prop}, Q (.int a.length) st → Ok (lenD A st) Q) (hZ : (A = .lst a ∧ B = .lst b) ∨ (A = .tup a ∧ B = .tup b) ∨ (∃ i, A = .ref i ∧ st[i]? = some (.lst a) ∧ B = .lst b))
    (hl : a.length = b.length) (h1 : b.length ≤ 1000) (ho : ∀ p ∈ a.zip b, F [p.1, p.2] st = .ok (.bl true) st) : semOf 2 5 (den__law_like F) [A, B] st = .ok (.bl true) st := by
  subst hB
  refine eq_of ?_
  refine ok_sem rfl ?_
  unfold den__law_like
  have ht : tyOk B = true := by rcases hd with ⟨_, rfl⟩ | ⟨_, rfl⟩ <;> rfl
  have e1 : isI B "dict" = false := by rcases hd with ⟨_, rfl⟩ | ⟨_, rfl⟩ <;> rfl
  have e2 : (["list", "tuple"].any fun n => isI B n) = true := by rcases hd with ⟨_, rfl⟩ | ⟨_, rfl⟩ <;> rfl
  have e3 : isI da "list" = isI B "list" := by rcases hd with ⟨rfl, rfl⟩ | ⟨rfl, rfl⟩ <;> rfl
  have e4 : isI da "tuple" = isI B "tuple" := by rcases hd with ⟨rfl, rfl⟩ | ⟨rfl, rfl⟩ <;> rfl
  have e5 : ∀ {Q : D → S → Prop}, Q (.int b.length) st → Ok (lenD B st) Q := fun q => by
    rcases hd with ⟨_, rfl⟩ | ⟨_, rfl⟩
    · exact o_lenL q
    · exact o_lenT q
  walk_at "u"
  refine ⟨fun z => (by rw [e1] at z; cases z), fun _ => ?_⟩
  walk_at "u"
  refine ⟨fun _ => ?_, fun z => (by rw [e2] at z; cases z)⟩
  walk_at "u"
  refine hI (by decide) ?_
  walk_at "u"
  rw [e3, beq_self_eq_true]
  refine ⟨fun _ => ?_, fun z => (by cases z)⟩
  walk_at "u"
  refine hI (by decide) ?_
  walk_at "u"
  rw [e4, beq_self_eq_true]
  refine ⟨fun _ => ?_, fun z => (by cases z)⟩
  walk_at "u"
  refine hL ?_
  walk_at "u"
  refine e5 ?_
  walk_at "u"
  refine ⟨fun _ => ?_, fun z => absurd (of_decide_eq_false z) (by rw [hl]; simp)⟩
  refine k_call (k_cons (k_lcZ (f := fun _ => .bl true) rfl hZ hl h1 (fun p hp => ⟨_, rfl, eq_of ?_⟩) ?_))
  · exact k_call (k_cons (k_var rfl (k_cons (k_var rfl (k_nil ⟨_, _, ho p hp, rfl, rfl⟩)))))
  · have e : ((a.zip b).map fun _ => D.bl true) = (List.replicate (a.zip b).length true).map .bl := by rw [List.map_replicate, List.map_const']
    rw [e]
    refine k_nil (k_one (o_allB ?_))
    rw [all_rep]
    exact ⟨rfl, rfl⟩
theorem lk_flat {F : List D → S → DL.R D} {d : D} (h : pl n d = true) (hn : n ≤ 60) (h1 : ∀ ds, d ≠ .lst ds) (h2 : ∀ ds, d ≠ .tup ds) : semOf 2 5 (den__law_like F) [d, d] st = .ok (.bl true) st := by
  refine eq_of ?_
  refine ok_sem rfl ?_
  unfold den__law_like
  have ht := pl_ty_ok h
  have hk := pl_okd h (by omega)
  have e1 : isI d "dict" = false := by cases d <;> first | rfl | cases ht
  have e2 : (["list", "tuple"].any fun n => isI d n) = false := by cases d <;> first | rfl | exact absurd rfl (h1 _) | exact absurd rfl (h2 _) | cases ht
  have hr : ∀ i, d ≠ .ref i := fun i e => by subst e; cases ht
  have ee : eqd d d = true := by
    cases d <;> first
      | exact (Bool.false_ne_true ht).elim
      | exact absurd rfl (h1 _)
      | exact absurd rfl (h2 _)
      | (rw [eqd_str]; exact decide_eq_true rfl)
      | (rw [eqd_int]; exact decide_eq_true rfl)
      | (rename_i b; cases b <;> decide)
      | decide
  walk_at "u"
  refine ⟨fun z => (by rw [e1] at z; cases z), fun _ => ?_⟩
  walk_at "u"
  refine ⟨fun z => (by rw [e2] at z; cases z), fun _ => ?_⟩
  walk_at "u"
  refine ⟨fun z => ?_, fun z => ?_⟩
  · refine ⟨fun _ => ?_, fun y => (by cases y)⟩
    walk_at "u"
    rw [z]
    refine ⟨fun _ => ?_, fun y => (by cases y)⟩
    walk_at "u"
    rw [z]
    exact ⟨rfl, rfl⟩
  · walk_at "u"
    refine ⟨fun y => (Bool.false_ne_true (z.symm.trans y)).elim, fun _ => ?_⟩
    walk_at "u"
    rw [bne_self_eq_false]
    refine ⟨fun y => (by cases y), fun _ => ?_⟩
    walk_at "u"
    rw [beq_self_eq_true]
    refine ⟨fun _ => ?_, fun y => (by cases y)⟩
    walk_at "u"
    rw [beq_self_eq_true]
    refine ⟨fun _ => ?_, fun y => (by cases y)⟩
    walk_at "u"
    refine o_eq hk hk hr hr ?_
    rw [ee]
    exact ⟨rfl, rfl⟩
theorem lk_pl : ∀ {n : Nat} {d : D}, pl n d = true → n ≤ 60 → sem__law_like (n + 1) [d, d] st = .ok (.bl true) st := by
  intro n
  induction n with
  | zero =>
    intro d h hn
    refine lk_flat h hn (fun ds e => ?_) (fun ds e => ?_) <;> (subst e; cases h)
  | succ n ih =>
    intro d h hn
    have zs : ∀ {ds : List D}, (∀ d ∈ ds, pl n d = true) → ∀ p ∈ ds.zip ds, sem__law_like (n + 1) [p.1, p.2] st = .ok (.bl true) st := fun {ds} hp p hz => by
      have e : p.1 = p.2 := by
        obtain ⟨i, hi, e⟩ := List.getElem_of_mem hz
        rw [List.getElem_zip] at e
        rw [← e]
      rw [← e]
      exact ih (hp _ (List.of_mem_zip hz).1) (by omega)
    by_cases h1 : ∃ ds, d = .lst ds
    · obtain ⟨ds, rfl⟩ := h1
      obtain ⟨hl, hp⟩ := pl_lst.mp h
      exact lk_seq (da := .lst ds) (a := ds) (b := ds) (.inl ⟨rfl, rfl⟩) rfl (fun hn q => o_isi rfl hn q) (fun q => o_lenL q) (.inl ⟨rfl, rfl⟩) rfl hl (zs hp)
    by_cases h2 : ∃ ds, d = .tup ds
    · obtain ⟨ds, rfl⟩ := h2
      obtain ⟨hl, hp⟩ := pl_tup.mp h
      exact lk_seq (da := .tup ds) (a := ds) (b := ds) (.inr ⟨rfl, rfl⟩) rfl (fun hn q => o_isi rfl hn q) (fun q => o_lenT q) (.inr (.inl ⟨rfl, rfl⟩)) rfl hl (zs hp)
    exact lk_flat h hn (fun ds e => h1 ⟨ds, e⟩) (fun ds e => h2 ⟨ds, e⟩)
theorem Alk.out {a d : D} (h : Alk st n a d) : ∀ m, n ≤ m → m ≤ 60 → sem__law_like (m + 1) [a, d] st = .ok (.bl true) st := by
  induction h with
  | pl h _ => exact fun m hm h60 => lk_pl (pl_le hm h) h60
  | @ref n i ds es e hl h1 _ ih =>
    intro m hm h60
    obtain ⟨m, rfl⟩ : ∃ k, m = k + 1 := ⟨m - 1, by omega⟩
    exact lk_seq (da := .lst es) (a := es) (b := ds) (.inl ⟨rfl, rfl⟩) rfl (fun hn q => o_isiR e hn q) (fun q => o_lenR e q) (.inr (.inr ⟨i, rfl, e, rfl⟩)) hl h1 fun p hp => ih p hp m (by omega) (by omega)
  | @lst n ds es hl h1 _ ih =>
    intro m hm h60
    obtain ⟨m, rfl⟩ : ∃ k, m = k + 1 := ⟨m - 1, by omega⟩
    exact lk_seq (da := .lst es) (a := es) (b := ds) (.inl ⟨rfl, rfl⟩) rfl (fun hn q => o_isi rfl hn q) (fun q => o_lenL q) (.inl ⟨rfl, rfl⟩) hl h1 fun p hp => ih p hp m (by omega) (by omega)
  | @tup n ds es hl h1 _ ih =>
    intro m hm h60
    obtain ⟨m, rfl⟩ : ∃ k, m = k + 1 := ⟨m - 1, by omega⟩
    exact lk_seq (da := .tup es) (a := es) (b := ds) (.inr ⟨rfl, rfl⟩) rfl (fun hn q => o_isi rfl hn q) (fun q => o_lenT q) (.inr (.inl ⟨rfl, rfl⟩)) hl h1 fun p hp => ih p hp m (by omega) (by omega)
end
end
section
set_option maxHeartbeats 2000000
/-! k88: claims drawn. -/

open PySem L2 DL Co

section
variable {st : S} {Q : D → S → Prop} {n : Nat} {tl : S × S}
/-- a row of different names out of some names -/
structure RowOf (xs rs : List Str) : Prop where
  ne : rs ≠ []
  nd : rs.Nodup
  sub : ∀ r ∈ rs, r ∈ xs
  len : rs.length ≤ xs.length
abbrev togS : Str := Str.ofString "together"
/-- a good claim: its first word, its names -/
inductive Gc : D → Str → List Str → Prop
  | tog {ys : List Str} : Lot ys → ys.length ≤ 63 → Gc (.tup [.str togS, tupS ys]) togS ys
  | two {x a b : Str} : x = Str.ofString "before" ∨ x = Str.ofString "same" → Nm a → Nm b → a ≠ b → Gc (.tup [.str x, .str a, .str b]) x [a, b]
  | one {x a : Str} : x = Str.ofString "first" ∨ x = Str.ofString "last" → Nm a → Gc (.tup [.str x, .str a]) x [a]
theorem Gc.isClaim {d : D} {x : Str} {ys : List Str} (h : Gc d x ys) : isClaim d = true := by
  cases h with
  | @tog ys h hl =>
    show isClaim1 togS [tupS ys] = true
    unfold isClaim1
    rw [if_pos rfl]
    exact isLot_of h
  | @two x a b hx ha hb ne =>
    show isClaim1 x [.str a, .str b] = true
    unfold isClaim1
    rw [if_neg (by rcases hx with rfl | rfl <;> decide), if_pos hx]
    show (isName (.str a) && (isName (.str b) && !eqd (.str a) (.str b))) = true
    rw [ha.isName, hb.isName, eqd_str, decide_eq_false ne]
    rfl
  | @one x a hx ha =>
    show isClaim1 x [.str a] = true
    unfold isClaim1
    rw [if_neg (by rcases hx with rfl | rfl <;> decide), if_neg (by rcases hx with rfl | rfl <;> decide), if_pos hx]
    exact ha.isName
theorem Gc.nm {d : D} {x : Str} {ys : List Str} (h : Gc d x ys) : (∀ y ∈ ys, Nm y) ∧ ys ≠ [] ∧ ys.length ≤ 63 ∧ x.length ≤ 8 := by
  cases h with
  | tog h hl => exact ⟨h.nm, h.ne, hl, by decide⟩
  | two hx ha hb ne => exact ⟨by simp [ha, hb], by simp, by simp, by rcases hx with rfl | rfl <;> decide⟩
  | one hx ha => exact ⟨by simp [ha], by simp, by simp, by rcases hx with rfl | rfl <;> decide⟩
theorem Row.lot {xs ys : List Str} (hx : ∀ x ∈ xs, Nm x) (hs : ∀ y ∈ ys, y ∈ xs) (ne : ys ≠ []) : Lot (setS ys) := by
  refine ⟨fun e => ?_, fun y hy => hx _ (hs _ (mem_setS.mp hy)), setS_pw _⟩
  obtain ⟨y, hy⟩ := List.exists_mem_of_ne_nil _ ne
  have := mem_setS.mpr hy
  rw [e] at this
  cases this
end
end
section
set_option maxHeartbeats 2000000
/-! k88: names, texts of claims; texts read. -/

open PySem L2 DL Co

section
variable {st : S} {Q : D → S → Prop} {n : Nat} {tl : S × S} {d : D} {x : Str} {ys : List Str}
theorem Gc.at0 (h : Gc d x ys) : ∃ ds, d = .tup (.str x :: ds) := by cases h <;> exact ⟨_, rfl⟩
/-- the text of a claim -/
def clT (x : Str) (ys : List Str) : Str := Txt.join " " (x :: ys)
/-- what some words would tell -/
def rcD : List Str → D
  | [] => .tup []
  | w :: r => if w = togS then .tup [.str togS, tupS r] else .tup ((w :: r).map .str)
def rdC (ws : List Str) : D := if isClaim (rcD ws) then rcD ws else .non
/-- texts that are read -/
structure Tx88 (t : Str) : Prop where
  len : t.length ≤ 900
  sp : (TL.tl t).count 32 ≤ 62
  cp : ∀ c ∈ TL.tl t, c < 1114112
theorem Tx88.plL {t : Str} (h : Tx88 t) : plL t := ⟨by have := h.len; omega, h.cp⟩
theorem Tx88.of {t : Str} (h : t.length ≤ 62) (hc : ∀ c ∈ TL.tl t, c < 1114112) : Tx88 t := ⟨by omega, Nat.le_trans List.count_le_length (by rw [← tl_len]; exact h), hc⟩
theorem split_count (t : Str) : (splW t).length = (TL.tl t).count 32 + 1 := by
  have h := spl_count (s := 32) (TL.tl t) []
  unfold splW
  rw [split_sp2, List.length_map, h]
theorem Gc.words (h : Gc d x ys) : splW (clT x ys) = x :: ys := by
  refine TL.split_join tl_sp (by decide +kernel) (by simp) fun p hp z => ?_
  rcases List.mem_cons.mp hp with rfl | hp
  · cases h with
    | tog => exact absurd z (by decide)
    | two hx => rcases hx with rfl | rfl <;> exact absurd z (by decide)
    | one hx => rcases hx with rfl | rfl <;> exact absurd z (by decide)
  · exact absurd ((h.nm.1 p hp).1 32 z).1 (by decide)
theorem Gc.rc (h : Gc d x ys) : rcD (x :: ys) = d := by
  show (if x = togS then D.tup [.str togS, tupS ys] else .tup ((x :: ys).map .str)) = d
  cases h with
  | tog h hl => rw [if_pos rfl]
  | two hx ha hb ne => rw [if_neg (by rcases hx with rfl | rfl <;> decide)]; rfl
  | one hx ha => rw [if_neg (by rcases hx with rfl | rfl <;> decide)]; rfl
theorem Gc.rd (h : Gc d x ys) : rdC (splW (clT x ys)) = d := by
  unfold rdC
  rw [h.words, h.rc, h.isClaim, if_pos rfl]
theorem Gc.len (h : Gc d x ys) : (clT x ys).length + 1 = wsS (x :: ys) := by
  have := wsS_split (clT x ys)
  rw [show Txt.split (clT x ys) " " = x :: ys from h.words] at this
  exact this.symm
theorem Gc.bound (h : Gc d x ys) {k : Nat} (hk : ys.length ≤ k) : wsS (x :: ys) ≤ 9 + 7 * k := by
  obtain ⟨hn, _, _, h8⟩ := h.nm
  have key : ∀ ys : List Str, (∀ y ∈ ys, Nm y) → wsS ys ≤ 7 * ys.length := by
    intro ys
    induction ys with
    | nil => intro _; exact Nat.le_refl _
    | cons y ys ih =>
      intro h
      have h1 := ih fun z hz => h z (List.mem_cons_of_mem _ hz)
      have h2 := (h y List.mem_cons_self).2.2
      unfold wsS at h1 ⊢
      rw [List.map_cons, List.sum_cons, List.length_cons]
      omega
  have := key ys hn
  unfold wsS at this ⊢
  rw [List.map_cons, List.sum_cons]
  omega
theorem Gc.okc (h : Gc d x ys) : ∀ w ∈ x :: ys, OKc w := fun w hw => by
  rcases List.mem_cons.mp hw with rfl | hw
  · cases h with
    | tog => intro c hc; revert c; decide
    | two hx => rcases hx with rfl | rfl <;> (intro c hc; revert c; decide)
    | one hx => rcases hx with rfl | rfl <;> (intro c hc; revert c; decide)
  · intro c hc
    have := (h.nm.1 w hw).1 c hc
    omega
theorem Gc.pll (h : Gc d x ys) : DM.plL (clT x ys) := by
  have h1 := h.len
  have h2 := h.bound h.nm.2.2.1
  exact ⟨by omega, fun c hc => ((joinG h.okc).1 c hc).2⟩
end
end
section
set_option maxHeartbeats 2000000
/-! k88: claims bent, texts bent. -/

open PySem L2 DL Co

section
variable {st : S} {Q : D → S → Prop} {n : Nat} {tl : S × S} {d : D} {x : Str} {ys : List Str}
/-- an item of a claim, good or bent -/
def Kit (e : D) : Prop := pl 3 e = true ∧ ∀ es, e = .tup es → es.length < 64
/-- a claim, good or bent -/
def Kb (d : D) : Prop := (∃ ds, (d = .tup ds ∨ d = .lst ds) ∧ ds.length ≤ 20 ∧ ∀ e ∈ ds, Kit e) ∨ (pl 0 d = true)
theorem Kit.str {x : Str} (h : plS x = true) : Kit (.str x) := ⟨by rw [pl_str]; exact h, fun _ z => nomatch z⟩
theorem Kit.non : Kit .non := ⟨pl_non, fun _ z => nomatch z⟩
theorem Kit.int (i : Int) : Kit (.int i) := ⟨pl_int, fun _ z => nomatch z⟩
theorem Kit.strs {xs : List Str} (h : ∀ x ∈ xs, plS x = true) (hl : xs.length < 64) : Kit (tupS xs) := ⟨pl_le (show 1 ≤ 3 by decide) (pl_strs h (by omega)), fun es e => by injection e with e; rw [← e, List.length_map]; exact hl⟩
theorem Kb.t {ds : List D} (hl : ds.length ≤ 20) (h : ∀ e ∈ ds, Kit e) : Kb (.tup ds) := .inl ⟨ds, .inl rfl, hl, h⟩
theorem Kb.l {ds : List D} (hl : ds.length ≤ 20) (h : ∀ e ∈ ds, Kit e) : Kb (.lst ds) := .inl ⟨ds, .inr rfl, hl, h⟩
theorem Kb.p (h : pl 0 d = true) : Kb d := .inr h
theorem Kb.pl (h : Kb d) : pl 4 d = true := by
  rcases h with ⟨ds, rfl | rfl, hl, h⟩ | h
  · exact pl_tup.mpr ⟨by omega, fun e he => (h e he).1⟩
  · exact pl_lst.mpr ⟨by omega, fun e he => (h e he).1⟩
  · exact pl_le (Nat.zero_le _) h
theorem Kb.k (h : Kb d) : ∀ x ds r, d = .tup (x :: .tup ds :: r) → ds.length < 64 := by
  intro x ds r e
  rcases h with ⟨es, rfl | rfl, hl, h⟩ | h
  · injection e with e
    subst e
    exact (h (.tup ds) (by simp)).2 ds rfl
  · cases e
  · subst e; cases h
theorem Nm.kit {x : Str} (h : Nm x) : Kit (.str x) := Kit.str h.plS
theorem Gc.items (h : Gc d x ys) : ∃ ds, d = .tup ds ∧ 2 ≤ ds.length ∧ ds.length ≤ 3 ∧ ∀ e ∈ ds, Kit e ∧ pl 1 e = true := by
  cases h with
  | tog h hl =>
    refine ⟨_, rfl, by simp, by simp, fun e he => ?_⟩
    rcases List.mem_cons.mp he with rfl | he
    · exact ⟨Kit.str (by decide), by decide⟩
    · rw [List.mem_singleton.mp he]
      exact ⟨Kit.strs (fun x hx => (h.nm x hx).plS) (by omega), pl_strs (fun x hx => (h.nm x hx).plS) (by omega)⟩
  | @two x a b hx ha hb ne =>
    refine ⟨_, rfl, by simp, by simp, fun e he => ?_⟩
    have hxp : plS x = true := by rcases hx with rfl | rfl <;> decide
    simp only [List.mem_cons, List.not_mem_nil, or_false] at he
    rcases he with rfl | rfl | rfl
    · exact ⟨Kit.str hxp, by rw [pl_str]; exact hxp⟩
    · exact ⟨ha.kit, by rw [pl_str]; exact ha.plS⟩
    · exact ⟨hb.kit, by rw [pl_str]; exact hb.plS⟩
  | @one x a hx ha =>
    refine ⟨_, rfl, by simp, by simp, fun e he => ?_⟩
    have hxp : plS x = true := by rcases hx with rfl | rfl <;> decide
    simp only [List.mem_cons, List.not_mem_nil, or_false] at he
    rcases he with rfl | rfl
    · exact ⟨Kit.str hxp, by rw [pl_str]; exact hxp⟩
    · exact ⟨ha.kit, by rw [pl_str]; exact ha.plS⟩
theorem al_nil {P : D → Prop} : ∀ e ∈ ([] : List D), P e := fun _ z => by cases z
theorem al_cons {P : D → Prop} {a : D} {l : List D} (h : P a) (r : ∀ e ∈ l, P e) : ∀ e ∈ a :: l, P e := fun e he => by
  rcases List.mem_cons.mp he with rfl | he
  · exact h
  · exact r e he
end
end
section
set_option maxHeartbeats 2000000
/-! k88: texts bent. -/

open PySem L2 DL Co

section
variable {st : S} {Q : D → S → Prop} {n : Nat} {tl : S × S} {d : D} {x : Str} {ys : List Str}
/-- texts of at most n signs -/
structure Tb (n : Nat) (t : Str) : Prop where
  len : t.length ≤ n
  cp : ∀ c ∈ TL.tl t, c < 1114112
theorem Tb.app {a b : Str} {m k : Nat} (h : Tb m a) (g : Tb k b) : Tb (m + k) (a ++ b) := by
  refine ⟨by rw [app_len]; have := h.len; have := g.len; omega, fun c hc => ?_⟩
  rw [TL.tl_append] at hc
  exact (List.mem_append.mp hc).elim (h.cp c) (g.cp c)
theorem Tb.le {a : Str} {m k : Nat} (h : Tb m a) (hk : m ≤ k) : Tb k a := ⟨by have := h.len; omega, h.cp⟩
theorem Tb.hi {a : Str} {m : Nat} (h : Tb m a) (k : Nat) : Tb (min k m) (cutS a none (some (k : Int))) := by
  rw [T_of a, cutS_hi]
  have h1 := h.len
  rw [len_list] at h1
  refine ⟨by rw [T_len, List.length_take]; omega, fun c hc => h.cp c (List.mem_of_mem_take hc)⟩
theorem Tb.lo {a : Str} {m : Nat} (h : Tb m a) (k : Nat) : Tb (m - k) (cutS a (some (k : Int)) none) := by
  rw [T_of a, cutS_lo]
  have h1 := h.len
  rw [len_list] at h1
  refine ⟨by rw [T_len, List.length_drop]; omega, fun c hc => h.cp c (List.mem_of_mem_drop hc)⟩
theorem Tb.tx {a : Str} {m : Nat} (h : Tb m a) (hm : m ≤ 62) : Tx88 a := .of (by have := h.len; omega) h.cp
theorem Tb.join {ws : List Str} {m : Nat} (h : ∀ w ∈ ws, OKc w) (hm : wsS ws ≤ m) : Tb m (Txt.join (Str.ofString " ") ws) := by
  obtain ⟨h1, h2⟩ := joinG h
  exact ⟨Nat.le_trans h2 hm, fun c hc => (h1 c hc).2⟩
/-- what is asked of a bent text -/
def Bt (d : D) : Prop := (∃ t, d = .str t ∧ Tx88 t) ∨ ((∀ t, d ≠ .str t) ∧ pl 2 d = true)
theorem Bt.s {t : Str} (h : Tx88 t) : Bt (.str t) := .inl ⟨t, rfl, h⟩
/-- small letters and blanks, at most six blanks -/
theorem Gc.asc (h : Gc d x ys) : ∀ c ∈ TL.tl (clT x ys), c = 32 ∨ (97 ≤ c ∧ c ≤ 122) := by
  intro c hc
  by_cases e : c = 32
  · exact .inl e
  · obtain ⟨w, hw, hcw⟩ := spl_mem (s := 32) (l := TL.tl (clT x ys)) (acc := []) e (by rw [List.nil_append]; exact hc)
    rw [← split_sp, show Txt.split (clT x ys) " " = x :: ys from h.words] at hw
    obtain ⟨v, hv, rfl⟩ := List.mem_map.mp hw
    refine .inr ?_
    clear hc e
    rcases List.mem_cons.mp hv with rfl | hv
    · cases h with
      | tog => revert c; decide
      | two hx => rcases hx with rfl | rfl <;> (revert c; decide)
      | one hx => rcases hx with rfl | rfl <;> (revert c; decide)
    · exact (h.nm.1 v hv).1 c hcw
theorem Gc.cnt (h : Gc d x ys) : (TL.tl (clT x ys)).count 32 = ys.length := by
  have := split_count (clT x ys)
  rw [h.words, List.length_cons] at this
  omega
theorem Gc.upper (h : Gc d x ys) (hl : (clT x ys).length ≤ 50) : Tx88 (Txt.upper (clT x ys)) := by
  have e : TL.tl (Txt.upper (clT x ys)) = (TL.tl (clT x ys)).map PyProof.Rows.up1 := tl_upper fun c hc => by have := h.asc c hc; omega
  refine .of (by rw [tl_len, e, List.length_map, ← tl_len]; omega) fun c hc => ?_
  rw [e] at hc
  obtain ⟨d, hd, rfl⟩ := List.mem_map.mp hc
  exact (up1_sg (h.asc d hd)).2.1
end
end
section
set_option maxHeartbeats 2000000
/-! k88: sayings. -/

open PySem L2 DL Co

section
variable {st : S} {Q : D → S → Prop} {n m : Nat} {tl : S × S} {d a b c : D} {x : Str} {ys : List Str}
end
end
section
set_option maxHeartbeats 2000000
/-! k88: sayings told. -/

open PySem L2 DL Co

section
variable {st : S} {Q : D → S → Prop} {n m : Nat} {tl : S × S} {d a b c : D} {x y hd : Str} {ys : List Str}
theorem Tb.plS {t : Str} {m : Nat} (h : Tb m t) (hm : m ≤ 1000) : plS t = true := by
  have := plS_T (l := TL.tl t) (by rw [← tl_len]; have := h.len; omega) h.cp
  rw [show T (TL.tl t) = t from mkS_tl t] at this
  exact this
theorem Nm.tb {x : Str} (h : Nm x) : Tb 6 x := ⟨h.2.2, fun c hc => by have := h.1 c hc; omega⟩
theorem Gc.tb (h : Gc d x ys) : Tb 450 (clT x ys) := ⟨by have h1 := h.len; have h2 := h.bound h.nm.2.2.1; omega, h.pll.2⟩
theorem Tb.small {t : Str} {m : Nat} (h : Tb m t) (hm : m ≤ 1000000) : t.length ≤ sizeLine := DM.small (by have := h.len; omega)
end
end
section
set_option maxHeartbeats 2000000
/-! k88: the law. -/

open PySem L2 DL Co

section
variable {st : S} {Q : D → S → Prop} {n m : Nat} {d a b c : D} {x y hd : Str} {ys : List Str}
def Bx (st : S) : Prop := ∃ tail, Bg ([], tail) st
theorem Bx.push {st : S} (h : Bx st) (m : MO) : Bx (st ++ [m]) := by
  obtain ⟨tail, cells, idx, rest, mixed, cnt, rfl, h1⟩ := h
  exact ⟨tail ++ [m], cells, idx, rest, mixed, cnt, by simp, h1⟩
end
end
section
set_option maxHeartbeats 2000000
/-! k88: the law, whole. -/

open PySem L2 DL Co

section
variable {st : S} {Q : D → S → Prop} {n m : Nat} {d a b c : D} {x y hd : Str} {ys : List Str}
end
end
section
set_option maxHeartbeats 1000000
/-! k18: which entries the last one needs; the others left out (plain Lean). -/

section
variable {el : Nat → List Nat} {S : Nat → Bool}
/-- from entry k - 1 down: what a needed entry rests on is needed -/
def needS (el : Nat → List Nat) : Nat → (Nat → Bool) → (Nat → Bool)
  | 0, S => S
  | k + 1, S => needS el k (if S k = true then fun i => S i || decide (i ∈ el k) else S)
theorem needS_mono : ∀ {k : Nat} {S : Nat → Bool} {i : Nat}, S i = true → needS el k S i = true
  | 0, _, _, h => h
  | k + 1, S, i, h => by
    unfold needS
    refine needS_mono ?_
    split
    · show (S i || _) = true
      rw [h]; rfl
    · exact h
theorem needS_hi (hel : ∀ k, ∀ e ∈ el k, e < k) : ∀ {k : Nat} {S : Nat → Bool} {i : Nat}, k ≤ i → needS el k S i = S i
  | 0, _, _, _ => rfl
  | k + 1, S, i, h => by
    unfold needS
    rw [needS_hi hel (by omega)]
    split
    · show (S i || decide (i ∈ el k)) = S i
      rw [decide_eq_false (fun m => by have := hel k i m; omega), Bool.or_false]
    · rfl
theorem needS_closed (hel : ∀ k, ∀ e ∈ el k, e < k) : ∀ {k : Nat} {S : Nat → Bool} {i : Nat}, i < k → needS el k S i = true → ∀ e ∈ el i, needS el k S e = true
  | k + 1, S, i, h, hi, e, he => by
    unfold needS at hi ⊢
    by_cases hik : i < k
    · exact needS_closed hel hik hi e he
    · have : i = k := by omega
      subst this
      rw [needS_hi hel (Nat.le_refl _)] at hi
      refine needS_mono ?_
      by_cases hS : S i = true
      · rw [if_pos hS]
        show (S e || decide (e ∈ el i)) = true
        rw [decide_eq_true he, Bool.or_true]
      · rw [if_neg hS] at hi
        exact absurd hi hS
/-- what the last of n entries needs -/
def needed (el : Nat → List Nat) (n : Nat) : Nat → Bool := needS el n fun i => decide (i + 1 = n)
theorem needed_closed (hel : ∀ k, ∀ e ∈ el k, e < k) {n i e : Nat} (h : i < n) (hi : needed el n i = true) (he : e ∈ el i) : needed el n e = true := needS_closed hel h hi e he
/-- how many of the members stand below i -/
def rank (S : Nat → Bool) (i : Nat) : Nat := ((List.range i).filter S).length
def ixs (S : Nat → Bool) (n : Nat) : List Nat := (List.range n).filter S
theorem rank_succ (S : Nat → Bool) (i : Nat) : rank S (i + 1) = rank S i + (if S i = true then 1 else 0) := by
  unfold rank
  rw [List.range_succ, List.filter_append, List.length_append]
  congr 1
  by_cases h : S i = true
  · rw [if_pos h, List.filter_cons, if_pos h]; rfl
  · rw [if_neg h, List.filter_cons, if_neg h]; rfl
theorem rank_mono {S : Nat → Bool} {i j : Nat} (h : i ≤ j) : rank S i ≤ rank S j := by
  induction j with
  | zero => rw [show i = 0 by omega]; exact Nat.le_refl _
  | succ j ih =>
    by_cases e : i = j + 1
    · rw [e]; exact Nat.le_refl _
    · have := ih (by omega)
      rw [rank_succ]
      omega
theorem rank_lt {S : Nat → Bool} {i j : Nat} (h : i < j) (hi : S i = true) : rank S i < rank S j := by
  have h1 := rank_mono (S := S) (show i + 1 ≤ j by omega)
  rw [rank_succ, if_pos hi] at h1
  omega
theorem ixs_len (S : Nat → Bool) (n : Nat) : (ixs S n).length = rank S n := rfl
theorem ixs_succ (S : Nat → Bool) (n : Nat) : ixs S (n + 1) = ixs S n ++ if S n = true then [n] else [] := by
  unfold ixs
  rw [List.range_succ, List.filter_append]
  congr 1
  by_cases h : S n = true
  · rw [if_pos h, List.filter_cons, if_pos h]; rfl
  · rw [if_neg h, List.filter_cons, if_neg h]; rfl
theorem mem_ixs {S : Nat → Bool} {n i : Nat} : i ∈ ixs S n ↔ i < n ∧ S i = true := by
  unfold ixs
  rw [List.mem_filter, List.mem_range]
theorem ixs_at {S : Nat → Bool} : ∀ {n i : Nat}, i < n → S i = true → (ixs S n)[rank S i]? = some i
  | n + 1, i, h, hi => by
    rw [ixs_succ]
    by_cases e : i = n
    · subst e
      rw [if_pos hi, List.getElem?_append_right (by rw [ixs_len]; exact Nat.le_refl _), ixs_len, Nat.sub_self]
      rfl
    · rw [List.getElem?_append_left (by rw [ixs_len]; exact rank_lt (by omega) hi)]
      exact ixs_at (by omega) hi
theorem ixs_rank {S : Nat → Bool} {n k i : Nat} (h : (ixs S n)[k]? = some i) : i < n ∧ S i = true ∧ rank S i = k := by
  have hm := mem_ixs.mp (List.mem_of_getElem? h)
  refine ⟨hm.1, hm.2, ?_⟩
  have h2 := ixs_at hm.1 hm.2
  have nd : (ixs S n).Nodup := List.nodup_range.filter _
  obtain ⟨h3, e3⟩ := List.getElem?_eq_some_iff.mp h
  obtain ⟨h4, e4⟩ := List.getElem?_eq_some_iff.mp h2
  by_cases e : rank S i = k
  · exact e
  · have := List.pairwise_iff_getElem.mp nd
    rcases Nat.lt_or_gt_of_ne e with q | q
    · exact absurd (e4.trans e3.symm) (this _ _ h4 h3 q)
    · exact absurd (e3.trans e4.symm) (this _ _ h3 h4 q)
end
end
section
set_option maxHeartbeats 1000000
/-! k18: derivations shortened (plain Lean). -/

open PySem L2 DL Co
/-- the elders by their places -/
def Rl.els : Rl → List Nat
  | .union i j => [i, j] | .common i j => [i, j] | .rest i j => [i, j] | .apart i j l => [i, j, l] | .across i j l => [i, j, l] | .chain i j => [i, j] | .bar i j l => [i, j, l] | .self i => [i] | _ => []
def Rl.ren (f : Nat → Nat) : Rl → Rl
  | .union i j => .union (f i) (f j) | .common i j => .common (f i) (f j) | .rest i j => .rest (f i) (f j) | .apart i j l => .apart (f i) (f j) (f l) | .across i j l => .across (f i) (f j) (f l) | .chain i j => .chain (f i) (f j) | .bar i j l => .bar (f i) (f j) (f l) | .self i => .self (f i)
  | .single => .single | .all => .all | .word m => .word m | .fact m => .fact m
theorem bel_iff {rl : Rl} {n : Nat} : rl.bel n ↔ ∀ i ∈ rl.els, i < n := by
  cases rl <;> simp [Rl.bel, Rl.els]
theorem els_ren (f : Nat → Nat) (rl : Rl) : (rl.ren f).els = rl.els.map f := by cases rl <;> rfl
theorem mk_ren {f : Nat → Nat} {rl : Rl} (h : rl.mk_) : (rl.ren f).mk_ := by cases rl <;> exact h
theorem ren_id {f : Nat → Nat} (rl : Rl) (h : ∀ i ∈ rl.els, f i = i) : rl.ren f = rl := by
  cases rl <;> simp only [Rl.els, List.mem_cons, List.not_mem_nil, or_false, forall_eq_or_imp, forall_eq] at h <;> simp [Rl.ren, h]
theorem rR_ren {C : Cs} {sh sh2 : List Sg} {f : Nat → Nat} {rl : Rl} {s : Sg} (h : ∀ i ∈ rl.els, sh2.getD (f i) .nev = sh.getD i .nev) : rR C sh2 (rl.ren f) s = rR C sh rl s := by
  cases rl <;> simp only [Rl.els, List.mem_cons, List.not_mem_nil, or_false, forall_eq_or_imp, forall_eq] at h <;> simp only [Rl.ren, rR, rTwo, over2, lots2, rApart, rAcross, rChain, rBar, rSelf, pair1, h]
theorem rR_app {C : Cs} {sh t : List Sg} {rl : Rl} {s : Sg} (h : rl.bel sh.length) : rR C (sh ++ t) rl s = rR C sh rl s := by
  have := rR_ren (C := C) (sh := sh) (sh2 := sh ++ t) (f := id) (rl := rl) (s := s) fun i hi => by
    have := bel_iff.mp h i hi
    rw [List.getD_eq_getElem?_getD, List.getD_eq_getElem?_getD]
    show ((sh ++ t)[i]?).getD _ = _
    rw [List.getElem?_append_left this]
  rw [ren_id (f := id) rl fun _ _ => rfl] at this
  exact this
abbrev En := Sg × Rl
def enP (p : En) : D := en p.1 p.2
def shE (es : List En) : List Sg := es.map (·.1)
theorem shE_len (es : List En) : (shE es).length = es.length := List.length_map _
theorem shE_get (es : List En) (k : Nat) (p : En) (h : es[k]? = some p) : (shE es).getD k .nev = p.1 := by
  unfold shE
  rw [List.getD_eq_getElem?_getD, List.getElem?_map, h]
  rfl
/-- entries that follow, behind what was shown -/
def DerA (C : Cs) (sh : List Sg) (es : List En) : Prop := ∀ (k : Nat) (p : En), es[k]? = some p → p.1.ok ∧ p.2.bel (sh.length + k) ∧ p.2.mk_ ∧ rR C (sh ++ shE es) p.2 p.1 = true
theorem fault_der {C : Cs} : ∀ {es : List En} {sh : List Sg}, DerA C sh es → faultF C sh (es.map enP) = none
  | [], _, _ => rfl
  | p :: r, sh, h => by
    obtain ⟨h1, h2, h3, h4⟩ := h 0 p rfl
    rw [List.map_cons]
    show faultF C sh (.tup [p.1.d, .str p.2.name, .tup p.2.el] :: r.map enP) = none
    rw [faultF_ent (s := p.1) (rl := p.2) ⟨rfl, h1, h2, h3⟩]
    rw [rR_app h2] at h4
    rw [if_pos h4]
    refine fault_der fun k q hk => ?_
    obtain ⟨g1, g2, g3, g4⟩ := h (k + 1) q hk
    refine ⟨g1, ?_, g3, ?_⟩
    · rw [List.length_append, show sh.length + [p.1].length + k = sh.length + (k + 1) by simp; omega]
      exact g2
    · rw [List.append_assoc]
      exact g4
abbrev Der (C : Cs) (es : List En) : Prop := DerA C [] es
theorem Der.good {C : Cs} {es : List En} (h : Der C es) : Good C (es.map enP) := ⟨fun d hd => by
  obtain ⟨p, hp, rfl⟩ := List.mem_map.mp hd
  obtain ⟨k, hk⟩ := List.mem_iff_getElem?.mp hp
  obtain ⟨h1, _, h3, _⟩ := h k p hk
  exact en_pl h1 h3, fault_der h⟩
theorem Der.take {C : Cs} {es : List En} (h : Der C es) (n : Nat) : Der C (es.take n) := fun k p hk => by
  by_cases e : k < n
  · rw [List.getElem?_take_of_lt e] at hk
    obtain ⟨h1, h2, h3, h4⟩ := h k p hk
    refine ⟨h1, h2, h3, ?_⟩
    rw [List.nil_append] at h4 ⊢
    have hl : k < es.length := (List.getElem?_eq_some_iff.mp hk).1
    have e2 : shE es = shE (es.take n) ++ shE (es.drop n) := by
      unfold shE
      rw [← List.map_append, List.take_append_drop]
    rw [e2, rR_app] at h4
    · exact h4
    · rw [bel_iff] at h2 ⊢
      intro i hi
      have := h2 i hi
      rw [shE_len, List.length_take]
      simp only [List.length_nil] at this
      omega
  · rw [List.getElem?_eq_none (by rw [List.length_take]; omega)] at hk
    cases hk
/-- the elders of an entry by its place -/
def elsAt (es : List En) (k : Nat) : List Nat := match es[k]? with
  | some p => p.2.els
  | none => []
theorem elsAt_eq {es : List En} {k : Nat} {p : En} (h : es[k]? = some p) : elsAt es k = p.2.els := by
  unfold elsAt
  rw [h]
theorem Der.el {C : Cs} {es : List En} (h : Der C es) : ∀ k, ∀ e ∈ elsAt es k, e < k := fun k e he => by
  unfold elsAt at he
  split at he
  · rename_i p hk
    obtain ⟨_, h2, _, _⟩ := h k p hk
    have := bel_iff.mp h2 e he
    simpa using this
  · cases he
def keepS (es : List En) : Nat → Bool := needed (elsAt es) es.length
def renE (f : Nat → Nat) (p : En) : En := (p.1, p.2.ren f)
/-- what the last entry needs, renumbered -/
def shortE (es : List En) : List En := (ixs (keepS es) es.length).map fun i => renE (rank (keepS es)) (es.getD i (.nev, .single))
theorem shortE_at {es : List En} {i : Nat} {p : En} (hp : es[i]? = some p) (hi : keepS es i = true) : (shortE es)[rank (keepS es) i]? = some (renE (rank (keepS es)) p) := by
  unfold shortE
  rw [List.getElem?_map, ixs_at (List.getElem?_eq_some_iff.mp hp).1 hi, Option.map_some, List.getD_eq_getElem?_getD, hp]
  rfl
theorem shortE_of {es : List En} {k : Nat} {q : En} (h : (shortE es)[k]? = some q) : ∃ i p, es[i]? = some p ∧ keepS es i = true ∧ rank (keepS es) i = k ∧ q = renE (rank (keepS es)) p := by
  unfold shortE at h
  rw [List.getElem?_map, Option.map_eq_some_iff] at h
  obtain ⟨i, h1, h2⟩ := h
  obtain ⟨g1, g2, g3⟩ := ixs_rank h1
  refine ⟨i, es[i], List.getElem?_eq_getElem g1, g2, g3, ?_⟩
  rw [List.getD_eq_getElem?_getD, List.getElem?_eq_getElem g1] at h2
  exact h2.symm
theorem Der.short {C : Cs} {es : List En} (h : Der C es) : Der C (shortE es) := fun k q hk => by
  obtain ⟨i, p, hi, hS, rfl, rfl⟩ := shortE_of hk
  obtain ⟨h1, h2, h3, h4⟩ := h i p hi
  have hin : i < es.length := (List.getElem?_eq_some_iff.mp hi).1
  have kl : ∀ e ∈ p.2.els, keepS es e = true := fun e he => needed_closed h.el hin hS (by rw [elsAt_eq hi]; exact he)
  have lt : ∀ e ∈ p.2.els, e < i := fun e he => h.el i e (by rw [elsAt_eq hi]; exact he)
  refine ⟨h1, ?_, mk_ren h3, ?_⟩
  · rw [bel_iff]
    intro e he
    rw [show (renE (rank (keepS es)) p).2 = p.2.ren (rank (keepS es)) from rfl, els_ren, List.mem_map] at he
    obtain ⟨e, he, rfl⟩ := he
    have := rank_lt (lt e he) (kl e he)
    simpa using this
  · rw [List.nil_append] at h4 ⊢
    show rR C (shE (shortE es)) (p.2.ren _) p.1 = true
    rw [rR_ren (sh := shE es) fun e he => ?_]
    · exact h4
    · have he2 : e < es.length := Nat.lt_trans (lt e he) hin
      rw [shE_get _ _ _ (shortE_at (List.getElem?_eq_getElem he2) (kl e he)), shE_get _ _ _ (List.getElem?_eq_getElem he2)]
      rfl
end
section
set_option maxHeartbeats 1000000
/-! k18: shortened. -/

open PySem L2 DL Co


section
variable {A : D} {st : S} {ds : List D} {Q : Ev → S → Prop} {T : D → S → Prop} {X : Exn → S → Prop} {t : Tg} {f : Ev → S → RS} {ρ : Ev} {i : Nat}
end
section
variable {A : D} {st : S} {Q : D → S → Prop} {C : Cs}
section
variable {es : List En} {T : D → S → Prop}
end
end
end
section
set_option maxHeartbeats 1000000
/-! k18: the law's own shortening. -/

open PySem L2 DL Co


section
variable {st : S} {Q : D → S → Prop} {C : Cs} {es : List En} {T : D → S → Prop}
end
end
section
set_option maxHeartbeats 1000000
/-! k18: first_fault and shows over entries that may lie in the store. -/

open PySem L2 DL Co


theorem Vw.app {A : D} {st t : S} {ds : List D} (h : Vw A st ds) : Vw A (st ++ t) ds := by
  rcases h.cases with rfl | rfl | ⟨k, rfl, e⟩
  · exact Vw.lst
  · exact Vw.tup
  · exact Vw.ref (by rw [List.getElem?_append_left (List.getElem?_eq_some_iff.mp e).1]; exact e)
section
variable {st : S} {Q : D → S → Prop}
end
end
section
set_option maxHeartbeats 1000000
/-! k18: right derivations, how many entries. -/

open PySem L2 DL Co


section
variable {C : Cs} {tl : S × S} {st : S} {Q : D → S → Prop}
end
end
section
set_option maxHeartbeats 1000000
/-! k18: the law's turn. -/

open PySem L2 DL Co


section
variable {C : Cs} {es : List En} {st : S}
end
end
section
set_option maxHeartbeats 1000000
/-! k18: a long derivation (plain Lean). -/

open PySem L2 DL Co
theorem Der.snoc {C : Cs} {es : List En} {p : En} (h : Der C es) (h1 : p.1.ok) (h2 : p.2.bel es.length) (h3 : p.2.mk_) (h4 : rR C (shE es) p.2 p.1 = true) : Der C (es ++ [p]) := fun k q hk => by
  have e2 : shE (es ++ [p]) = shE es ++ [p.1] := by
    unfold shE
    rw [List.map_append]
    rfl
  rw [List.nil_append, e2]
  by_cases hlt : k < es.length
  · rw [List.getElem?_append_left hlt] at hk
    obtain ⟨g1, g2, g3, g4⟩ := h k q hk
    refine ⟨g1, g2, g3, ?_⟩
    rw [List.nil_append] at g4
    rw [rR_app]
    · exact g4
    · rw [bel_iff] at g2 ⊢
      intro i hi
      have := g2 i hi
      rw [shE_len]
      simp only [List.length_nil] at this
      omega
  · rw [List.getElem?_append_right (by omega)] at hk
    obtain ⟨e3, e4⟩ := List.getElem?_eq_some_iff.mp hk
    simp only [List.length_singleton] at e3
    have e5 : k = es.length := by omega
    subst e5
    simp only [Nat.sub_self, List.getElem_cons_zero] at e4
    subst e4
    refine ⟨h1, by simpa using h2, h3, ?_⟩
    rw [rR_app (by rw [shE_len]; exact h2)]
    exact h4
section
variable {a b c : Str}
/-! what the last entry needs -/
end
end
section
set_option maxHeartbeats 1000000
/-! k18: a long derivation. -/

open PySem L2 DL Co


section
variable {st : S} {Q : D → S → Prop}
end
end
section
set_option maxHeartbeats 1000000
/-! k18: the law. -/

open PySem L2 DL Co


end
section
set_option maxHeartbeats 1000000
/-! k51 and its neighbours (k40 .. k59): the bag, draws, picks, mixing. -/

open PySem L2 DL Co


/-- the bag stands in the store -/
def Bh (tl : S × S) (st : S) : Prop := ∃ (cells : List Int) (idx rest mixed cnt : Int), st = tl.1 ++ .lst [.lst (cells.map .int), .int idx, .int rest, .int mixed, .int cnt] :: tl.2 ∧ 0 ≤ idx ∧ 0 ≤ rest ∧ 0 ≤ mixed ∧ mixed < 2147483629
theorem bag_ok {ns : List Int} {pre : S} (hl : ns.length ≤ 63) : Ok (sem__law_bag [.scr ns] pre) fun d s => d = .ref pre.length ∧ Bh (pre, []) s := by
  refine ok_sem rfl ?_
  unfold den__law_bag
  walk_at "v"
  rw [cutL_map]
  have l63 : (cutL ns none (some 63)).length ≤ 63 := Nat.le_trans (cutL_len ns _ _) hl
  generalize cutL ns none (some 63) = cs at l63
  refine ⟨small (by rw [List.length_map]; omega), ?_⟩
  refine ok_eq (comp_of (fun (i : Int) => D.int i) (fun i => D.int i) fun i _ => ⟨_, rfl, eq_of ?_⟩) ?_
  · walk_at "v"
    exact ⟨rfl, rfl⟩
  walk_at "v"
  refine mul_ok (mulC_l (by decide) (by decide)) ?_
  walk_at "v"
  rw [List.length_map]
  refine go_for (fun ds ρ st => st = pre ∧ (∀ d ∈ ds, ∃ i, d = .int i) ∧ ∃ (mixed : Int) (y : Sl), 0 ≤ mixed ∧ mixed < 2147483629 ∧ ρ = [.sh (.scr ns), .sh (.lst (cs.map .int)), .sh (.int mixed), y]) ⟨rfl, fun d hd => ?_, _, _, ?_, ?_, rfl⟩ ?_ ?_
  · obtain ⟨i, _, e⟩ := List.mem_map.mp hd
    exact ⟨i, e.symm⟩
  · omega
  · omega
  · rintro d ds ρ st ⟨rfl, hd, mixed, y, m0, m1, rfl⟩
    obtain ⟨i, rfl⟩ := hd d List.mem_cons_self
    refine ⟨_, rfl, ?_⟩
    walk_at "v"
    refine mul_ok (mulC_r (by decide) (by decide)) ?_
    walk_at "v"
    refine mul_ok (mulC_r (by decide) (by decide)) ?_
    walk_at "v"
    refine mod_ok (by decide) ?_
    exact ⟨rfl, fun d h => hd d (List.mem_cons_of_mem _ h), _, _, Int.emod_nonneg _ (by decide), Int.emod_lt_of_pos _ (by decide), rfl⟩
  · rintro ρ st ⟨rfl, _, mixed, y, m0, m1, rfl⟩
    walk_at "v"
    exact ⟨rfl, cs, 0, 0, mixed, 0, rfl, by decide, by decide, m0, m1⟩
theorem draw2_ok {tl : S × S} {st : S} {m : Int} (h : Bh tl st) (h1 : 0 < m) (h2 : m < 1073741824) : Ok (sem__law_draw_2 [.ref tl.1.length, .int m] st) fun d s => Bh tl s ∧ ∃ n : Int, d = .int n ∧ 0 ≤ n ∧ n < m := by
  obtain ⟨cells, idx, rest, mixed, cnt, rfl, hi, hr, hm0, hm1⟩ := h
  refine ok_sem rfl ?_
  unfold den__law_draw_2
  refine g_seq (Go.mono (Q := fun ρ s => Bh tl s ∧ ∃ a2 a3 a4, ρ = [.sh (.ref tl.1.length), .sh (.int m), a2, a3, a4]) (T := fun _ _ => False) ?_ ?_ (fun _ _ z => z.elim))
  · walk_at "u"
    refine ⟨fun hb => ?_, fun hb => ?_⟩
    · walk_at "u"
      refine ⟨fun hc => ?_, fun hc => ?_⟩
      · have hc := of_decide_eq_true hc
        rw [List.length_map] at hc
        have hx : idx.toNat < cells.length := by omega
        have hg : (cells.map D.int)[idx.toNat]? = some (.int cells[idx.toNat]) := by rw [List.getElem?_map, List.getElem?_eq_getElem hx]; rfl
        walk_at "u"
        refine ixL_ok (atI_int hi hg) ?_
        walk_at "u"
        refine ⟨_, 1, _, _, rfl, rfl, st_at _ _ _, rfl, ?_⟩
        rw [st_set]
        walk_at "u"
        refine pow_ok (by decide) (by decide) (by decide) ?_
        walk_at "u"
        refine ⟨fun hd => ?_, fun hd => ?_⟩
        · have hd := of_decide_eq_true hd
          walk_at "u"
          refine ⟨_, 2, _, _, rfl, rfl, st_at _ _ _, rfl, ?_⟩
          rw [st_set]
          exact ⟨⟨cells, idx + 1, _, mixed, cnt, rfl, by omega, Int.le_trans (show (0 : Int) ≤ 10 ^ (18 : Int).toNat by decide) hd, hm0, hm1⟩, _, _, _, rfl⟩
        · walk_at "u"
          refine mul_ok (mulC_r (by decide) (by decide)) ?_
          walk_at "u"
          refine mul_ok (mulC_r (by decide) (by decide)) ?_
          walk_at "u"
          refine mod_ok (by decide) ?_
          walk_at "u"
          refine ⟨_, 3, _, _, rfl, rfl, st_at _ _ _, rfl, ?_⟩
          rw [st_set]
          exact ⟨⟨cells, idx + 1, rest, _, cnt, rfl, by omega, hr, Int.emod_nonneg _ (by decide), Int.emod_lt_of_pos _ (by decide)⟩, _, _, _, rfl⟩
      · exact g_next ⟨⟨cells, idx, rest, mixed, cnt, rfl, hi, hr, hm0, hm1⟩, _, _, _, rfl⟩
    · refine ⟨fun z => (by cases z), fun _ => ?_⟩
      exact g_next ⟨⟨cells, idx, rest, mixed, cnt, rfl, hi, hr, hm0, hm1⟩, _, _, _, rfl⟩
  · rintro ρ s ⟨⟨cells, idx, rest, mixed, cnt, rfl, hi, hr, hm0, hm1⟩, a2, a3, a4, rfl⟩
    refine g_seq ?_
    walk_at "u"
    refine ⟨fun hb => ?_, fun hb => ?_⟩
    · walk_at "u"
      refine mod_ok h1 ?_
      walk_at "u"
      refine fdiv_ok h1 h2 ?_
      walk_at "u"
      refine ⟨_, 2, _, _, rfl, rfl, st_at _ _ _, rfl, ?_⟩
      rw [st_set]
      walk_at "u"
      exact ⟨⟨cells, idx, rest / m, mixed, cnt, rfl, hi, Int.ediv_nonneg hr (by omega), hm0, hm1⟩, _, rfl, Int.emod_nonneg _ (by omega), Int.emod_lt_of_pos _ h1⟩
    · walk_at "u"
      refine ⟨_, 4, _, _, rfl, rfl, st_at _ _ _, rfl, ?_⟩
      rw [st_set]
      walk_at "u"
      refine mul_ok (mulC_r (by decide) (by decide)) ?_
      walk_at "u"
      refine mod_ok (by decide) ?_
      generalize hb : (mixed + (cnt + 1) * 7477) % 2147483629 = stp
      have b0 : 0 ≤ stp := by rw [← hb]; exact Int.emod_nonneg _ (by decide)
      have b1 : stp < 2147483629 := by rw [← hb]; exact Int.emod_lt_of_pos _ (by decide)
      walk_at "u"
      refine mul_ok (mulC_r (by omega) (by omega)) ?_
      walk_at "u"
      refine mul_ok (mulC_r (by omega) (by omega)) ?_
      walk_at "u"
      refine mul_ok (mulC_r (by decide) (by decide)) ?_
      walk_at "u"
      refine mod_ok (by decide) ?_
      generalize hc : (stp * stp * stp + stp * 60017 + 5003) % 2147483629 = mix
      have c0 : 0 ≤ mix := by rw [← hc]; exact Int.emod_nonneg _ (by decide)
      have c1 : mix < 2147483629 := by rw [← hc]; exact Int.emod_lt_of_pos _ (by decide)
      walk_at "u"
      refine ⟨_, 3, _, _, rfl, rfl, st_at _ _ _, rfl, ?_⟩
      rw [st_set]
      walk_at "u"
      refine fdiv_ok (by decide) (by decide) ?_
      walk_at "u"
      refine mod_ok (by decide) ?_
      walk_at "u"
      refine mul_ok (mulC_r (by decide) (by decide)) ?_
      walk_at "u"
      refine mod_ok h1 ?_
      exact ⟨⟨cells, idx, rest, mix, _, rfl, hi, hr, c0, c1⟩, _, rfl, Int.emod_nonneg _ (by omega), Int.emod_lt_of_pos _ h1⟩
end
section
set_option maxHeartbeats 1000000
/-! k51 and its neighbours: picks, mixing, sizes. -/

open PySem L2 DL Co


section
variable {tl : S × S} {st : S}
theorem pick2_ok {ds : List D} (h : Bh tl st) (h1 : 0 < ds.length) (h2 : ds.length < 1073741824) : Ok (sem__law_pick_2 [.ref tl.1.length, .lst ds] st) fun d s => Bh tl s ∧ d ∈ ds := by
  refine ok_sem rfl ?_
  unfold den__law_pick_2
  refine g_ret (k_bin (k_var (d := .lst ds) rfl (k_call (k_cons (k_var rfl (k_cons (k_call (k_cons (k_var (d := .lst ds) rfl (k_nil (k_one (o_lenL (k_nil ?_)))))))))))))
  refine (draw2_ok h (by omega) (by omega)).mono ?_
  rintro d s ⟨h', n, rfl, hn, hm⟩
  obtain ⟨d, e, hd⟩ := get_mem hn hm
  exact ixL_ok e ⟨h', hd⟩
theorem pick2Abc_ok (h : Bh tl st) : Ok (sem__law_pick_2 [.ref tl.1.length, .str (T lts)] st) fun d s => Bh tl s ∧ ∃ c, 97 ≤ c ∧ c ≤ 122 ∧ d = .str (T [c]) := by
  refine ok_sem rfl ?_
  unfold den__law_pick_2
  refine g_ret (k_bin (k_var (d := .str (T lts)) rfl (k_call (k_cons (k_var rfl (k_cons (k_call (k_cons (k_var (d := .str (T lts)) rfl (k_nil (k_one (lenS_ok (by decide) (k_nil ?_)))))))))))))
  rw [show (((T lts).length : Nat) : Int) = 26 by decide]
  refine (draw2_ok h (by decide) (by decide)).mono ?_
  rintro d s ⟨h', n, rfl, hn, hm⟩
  exact letter_ok hn hm ⟨h', _, by omega, by omega, rfl⟩
theorem mixed2_ok {ds : List D} (h : Bh tl st) (h2 : ds.length < 1000000) : Ok (sem__law_mixed_2 [.ref tl.1.length, .lst ds] st) fun d s => Bh tl s ∧ ∃ es, d = .lst es ∧ es.Perm ds := by
  refine ok_sem rfl ?_
  unfold den__law_mixed_2
  walk_at "u"
  refine go_for (fun l ρ st => Bh tl st ∧ ∃ acc y, ρ = [.sh (.ref tl.1.length), .sh (.lst ds), .own acc, y] ∧ (acc ++ l).Perm ds) ⟨h, [], .no, rfl, List.Perm.refl _⟩ ?_ ?_
  · rintro d l ρ st ⟨hs, acc, y, rfl, hp⟩
    have hlen : acc.length + (l.length + 1) = ds.length := by
      have := hp.length_eq
      rw [List.length_append, List.length_cons] at this
      exact this
    refine ⟨_, rfl, g_ins rfl ?_⟩
    walk_at "u"
    refine (draw2_ok hs (by omega) (by omega)).mono ?_
    rintro e s ⟨h', n, rfl, hn, hm⟩
    walk_at "u"
    refine ⟨n, d, rfl, small' (by omega), hn, by omega, h', insL acc n.toNat d, _, rfl, ?_⟩
    refine List.Perm.trans ?_ hp
    refine ((insL_perm acc n.toNat d).append_right l).trans ?_
    exact List.perm_middle.symm
  · rintro ρ st ⟨hs, acc, y, rfl, hp⟩
    rw [List.append_nil] at hp
    exact g_retOwn rfl ⟨hs, acc, rfl, hp⟩
theorem size_ok {m : Int} (h : Bh tl st) : Ok (sem__law_size [.ref tl.1.length, .int m] st) fun d s => Bh tl s ∧ ∃ n : Int, d = .int n ∧ ((1 ≤ n ∧ n ≤ 3) ∨ (m - 3 ≤ n ∧ n ≤ m)) := by
  refine ok_sem rfl ?_
  unfold den__law_size
  walk_at "u"
  refine (draw2_ok h (by decide) (by decide)).mono ?_
  rintro _ s ⟨h, k, rfl, k0, k1⟩
  walk_at "u"
  refine ⟨fun _ => ?_, fun _ => ?_⟩
  · walk_at "u"
    refine (draw2_ok h (by decide) (by decide)).mono ?_
    rintro _ s ⟨h, j, rfl, j0, j1⟩
    walk_at "u"
    exact ⟨h, _, rfl, .inl ⟨by omega, by omega⟩⟩
  · walk_at "u"
    refine (pick2_ok h (by decide) (by decide)).mono ?_
    rintro d s ⟨h, hd⟩
    obtain ⟨j, rfl, j0, j1⟩ : ∃ j : Int, d = .int j ∧ 0 ≤ j ∧ j ≤ 3 := by
      simp only [List.mem_cons, List.not_mem_nil, or_false] at hd
      rcases hd with rfl | rfl | rfl | rfl | rfl
      · exact ⟨0, rfl, by decide, by decide⟩
      · exact ⟨0, rfl, by decide, by decide⟩
      · exact ⟨1, rfl, by decide, by decide⟩
      · exact ⟨2, rfl, by decide, by decide⟩
      · exact ⟨3, rfl, by decide, by decide⟩
    walk_at "u"
    exact ⟨h, _, rfl, .inr ⟨by omega, by omega⟩⟩
end
end
section
set_option maxHeartbeats 1000000
/-! k51 and its neighbours: names. -/

open PySem L2 DL Co


section
variable {tl : S × S} {st : S}
theorem stem2_ok {n : Nat} {s : S} {ρ : Ev} {Q : D → S → Prop} (hn : n ≤ 5) (h : Bh tl s) (e0 : ρ[0]? = some (.sh (.ref tl.1.length))) (e2 : ρ[6]? = some (.sh (.str (T lts)))) (q : ∀ l s, Low l → l.length ≤ 5 → Bh tl s → Q (.str (T l)) s) :
    Ok (range1D [.int (n : Nat)] s) fun ds s => ds.length ≤ sizeLine ∧ Ok (compD (.nm 5) tTrue (dCall sem__law_pick_2 (dCons (dVar 0) (dCons (dVar 6) (dNil)))) (wipeE ρ [5]) ds s) fun ys s => Ok (joinD (Str.ofString "") (.lst ys) s) Q := by
  refine range1_ok (by omega) (by omega) ?_
  rw [Int.toNat_natCast]
  refine ⟨small (by rw [List.length_map, List.length_range]; omega), ?_⟩
  have w0 : ∀ d : Sl, (((wipeE ρ [5]).set 5 d)[0]?) = some (.sh (.ref tl.1.length)) := fun d => by
    show (((ρ.set 5 .no).set 5 d)[0]?) = _
    rw [List.getElem?_set_ne (by decide), List.getElem?_set_ne (by decide), e0]
  have w2 : ∀ d : Sl, (((wipeE ρ [5]).set 5 d)[6]?) = some (.sh (.str (T lts))) := fun d => by
    show (((ρ.set 5 .no).set 5 d)[6]?) = _
    rw [List.getElem?_set_ne (by decide), List.getElem?_set_ne (by decide), e2]
  refine (comp_ok (Bh tl) (fun _ y => ∃ c, 97 ≤ c ∧ c ≤ 122 ∧ y = D.str (T [c])) h fun d _ s h => ⟨_, rfl, k_call (k_cons (k_var (w0 _) (k_cons (k_var (w2 _) (k_nil (pick2Abc_ok h))))))⟩).mono ?_
  rintro ys s ⟨h, hp⟩
  obtain ⟨l, hl, hlen, rfl⟩ := paired_low hp
  rw [List.length_map, List.length_range] at hlen
  have e : (l.map fun c => D.str (T [c])) = ((l.map fun c => [c]).map T).map D.str := by rw [List.map_map, List.map_map]; rfl
  rw [e]
  refine o_join ?_ ?_
  · have e2 : (((l.map fun c => [c]).map T).map (·.length)) = l.map fun _ => 1 := by
      rw [List.map_map, List.map_map]
      refine List.map_congr_left fun c _ => ?_
      simp
    have e3 : (Str.ofString "").length = 0 := by decide
    rw [e2, e3, List.map_const', List.sum_replicate_nat]
    simp only [Nat.mul_one, Nat.mul_zero, Nat.add_zero]
    omega
  · rw [join_T]
    have e5 : ∀ l : List Nat, (l.map fun c => [c]).flatten = l := by
      intro l
      induction l with
      | nil => rfl
      | cons a as ih => rw [List.map_cons, List.flatten_cons, ih]; rfl
    rw [e5]
    exact q l s hl (by omega) h
/-- the sign by which a name is told from the others of its list -/
def keyN (kd : Int) (at0 : Nat) (x : List Nat) : Option Nat := if kd = 0 then x[at0]? else if kd = 1 then x.head? else x.getLast?
theorem names3_ok {N : Nat} (h : Bh tl st) (hN : N ≤ 26) : Ok (sem__law_names_3 [.ref tl.1.length, .int (N : Nat)] st) fun d s => Bh tl s ∧ ∃ xs : List Str, d = .lst (xs.map .str) ∧ xs.length = N ∧ (∀ x ∈ xs, Nm x) ∧ xs.Nodup := by
  refine ok_sem rfl ?_
  unfold den__law_names_3
  rw [lts_eq]
  walk_at "u"
  refine (draw2_ok h (by decide) (by decide)).mono ?_
  rintro _ s ⟨h, kd, rfl, r0, r1⟩
  walk_at "u"
  refine (draw2_ok h (by decide) (by decide)).mono ?_
  rintro _ s ⟨h, n, rfl, n0, n1⟩
  obtain ⟨n, rfl⟩ := Int.eq_ofNat_of_zero_le n0
  walk_at "u"
  refine stem2_ok (by omega) h rfl rfl fun l s hl hl5 h => ?_
  walk_at "u"
  refine (draw2_ok h (by decide) (by decide)).mono ?_
  rintro _ s ⟨h, fi, rfl, f0, f1⟩
  walk_at "u"
  refine (pick2_ok h (by decide) (by decide)).mono ?_
  rintro d s ⟨h, hd⟩
  obtain ⟨sd, rfl, hsd⟩ : ∃ sd : Int, d = .int sd ∧ sd ∈ strides := by
    simp only [List.mem_cons, List.not_mem_nil, or_false] at hd
    rcases hd with rfl | rfl | rfl | rfl | rfl <;> exact ⟨_, rfl, by decide⟩
  have s0 : 0 ≤ sd := by simp only [strides, List.mem_cons, List.not_mem_nil, or_false] at hsd; omega
  have s1 : sd < 100 := by simp only [strides, List.mem_cons, List.not_mem_nil, or_false] at hsd; omega
  walk_at "u"
  refine lenS_ok (small (by rw [T_len]; omega)) ?_
  rw [T_len]
  walk_at "u"
  refine (draw2_ok h (by omega) (by omega)).mono ?_
  rintro _ s ⟨h, at0, rfl, a0, a1⟩
  obtain ⟨at0, rfl⟩ := Int.eq_ofNat_of_zero_le a0
  walk_at "u"
  refine range1_ok (by omega) (by omega) ?_
  rw [Int.toNat_natCast, List.range_eq_range']
  refine go_for (fun ds ρ s => ∃ (k m : Nat) (xs : List (List Nat)) (a : Nat) (y5 y10 : Sl), k + m = N ∧ ds = (List.range' k m).map (fun (i : Nat) => .int (i : Nat)) ∧ Bh tl s ∧ xs.map (keyN kd at0) = (cs88 fi sd k).map some ∧ (∀ x ∈ xs, Low x ∧ 1 ≤ x.length ∧ x.length ≤ 6) ∧ a ≤ l.length ∧ (kd = 0 → a = at0) ∧
    ρ = [.sh (.ref tl.1.length), .sh (.int (N : Nat)), .sh (.str (T l)), .own (xs.map fun x => .str (T x)), .sh (.int (a : Nat)), y5, .sh (.str (T lts)), .sh (.int kd), .sh (.int fi), .sh (.int sd), y10])
    ⟨0, N, [], at0, _, _, by omega, rfl, h, rfl, (fun _ z => by cases z), by omega, fun _ => rfl, rfl⟩ ?_ ?_
  · rintro d ds ρ s ⟨k, m, xs, a, y5, y10, e1, e2, h, e3, e4, e5, e6, rfl⟩
    cases m with
    | zero => cases e2
    | succ m =>
      rw [List.range'_succ, List.map_cons] at e2
      injection e2 with e7 e8
      subst e7
      have hcs : cs88 fi sd (k + 1) = cs88 fi sd k ++ [97 + ((fi + sd * (k : Int)) % 26).toNat] := by
        unfold cs88
        rw [List.range_succ, List.map_append]
        rfl
      have hlx : xs.length = k := by
        have := congrArg List.length e3
        rw [List.length_map, List.length_map] at this
        rw [this]
        unfold cs88
        rw [List.length_map, List.length_range]
      have c0 := Int.emod_nonneg (fi + sd * (k : Int)) (by decide : (26 : Int) ≠ 0)
      have c1 := Int.emod_lt_of_pos (fi + sd * (k : Int)) (by decide : (0 : Int) < 26)
      refine ⟨_, rfl, ?_⟩
      walk_at "u"
      refine mul_ok (mulC_r (by omega) (by omega)) ?_
      walk_at "u"
      refine mod_ok (by decide) ?_
      refine letter_ok c0 c1 ?_
      generalize hc : 97 + ((fi + sd * (k : Int)) % 26).toNat = c at hcs
      have hlow : Low [c] := low_1 (by omega) (by omega)
      have fin : ∀ (x : List Nat) (a : Nat) (y5 y10 : Sl) (s : S), Bh tl s → keyN kd at0 x = some c → Low x ∧ 1 ≤ x.length ∧ x.length ≤ 6 → a ≤ l.length → (kd = 0 → a = at0) →
        ∃ (k' m' : Nat) (xs' : List (List Nat)) (a' : Nat) (y5' y10' : Sl), k' + m' = N ∧ ds = (List.range' k' m').map (fun (i : Nat) => D.int (i : Nat)) ∧ Bh tl s ∧ xs'.map (keyN kd at0) = (cs88 fi sd k').map some ∧ (∀ x ∈ xs', Low x ∧ 1 ≤ x.length ∧ x.length ≤ 6) ∧ a' ≤ l.length ∧ (kd = 0 → a' = at0) ∧
          [Sl.sh (.ref tl.1.length), .sh (.int (N : Nat)), .sh (.str (T l)), .own ((xs ++ [x]).map fun x => .str (T x)), .sh (.int (a : Nat)), y5, .sh (.str (T lts)), .sh (.int kd), .sh (.int fi), .sh (.int sd), y10] = [Sl.sh (.ref tl.1.length), .sh (.int (N : Nat)), .sh (.str (T l)), .own (xs'.map fun x => .str (T x)), .sh (.int (a' : Nat)), y5', .sh (.str (T lts)), .sh (.int kd), .sh (.int fi), .sh (.int sd), y10'] := fun x a y5 y10 s h hk hx ha ha0 => by
        refine ⟨k + 1, m, xs ++ [x], a, y5, y10, by omega, e8, h, ?_, ?_, ha, ha0, rfl⟩
        · rw [hcs, List.map_append, List.map_append, e3]
          congr 1
          rw [List.map_cons, List.map_nil, hk]
          rfl
        · intro z hz
          rcases List.mem_append.mp hz with hz | hz
          · exact e4 z hz
          · rw [List.mem_singleton.mp hz]
            exact hx
      walk_at "u"
      have lcut : ∀ b : Nat, b ≤ l.length → Low (l.take b) ∧ Low (l.drop b) ∧ (l.take b).length = b ∧ (l.drop b).length = l.length - b := fun b hb => ⟨hl.take _, hl.drop _, by rw [List.length_take]; omega, List.length_drop⟩
      have xcat : ∀ b : Nat, b ≤ l.length → ((l.take b ++ [c]) ++ l.drop b)[b]? = some c := fun b hb => by
        rw [List.append_assoc, List.getElem?_append_right (by rw [List.length_take]; omega), List.length_take, show b - min b l.length = 0 by omega]
        rfl
      refine ⟨fun hk => ?_, fun hk => ?_⟩
      · have hk := of_decide_eq_true hk
        walk_at "u"
        refine lenS_ok (small (by rw [T_len]; omega)) ?_
        rw [T_len]
        walk_at "u"
        refine (draw2_ok h (by omega) (by omega)).mono ?_
        rintro _ s ⟨h, b, rfl, b0, b1⟩
        obtain ⟨b, rfl⟩ := Int.eq_ofNat_of_zero_le b0
        obtain ⟨q1, q2, q3, q4⟩ := lcut b (by omega)
        walk_at "u"
        refine ⟨fun hz => absurd (of_decide_eq_true hz) (by omega), fun _ => ?_⟩
        refine g_app (ds := xs.map fun x => .str (T x)) rfl ?_
        walk_at "u"
        refine ⟨fun h1 => ?_, fun h1 => ?_⟩
        · have h1 := of_decide_eq_true h1
          walk_at "u"
          refine o_slS (small (by rw [T_len]; omega)) ?_
          rw [cutS_hi]
          walk_at "u"
          refine addS_ok (small (by simp; omega)) ?_
          rw [T_app]
          refine ⟨small' (by rw [List.length_map, hlx]; omega), ?_⟩
          have := fin ([c] ++ l.take b) b (.sh (.int (k : Nat))) (.sh (.str (T [c]))) s h (by unfold keyN; rw [if_neg (by omega), if_pos h1]; rfl) ⟨hlow.app q1, by simp, by simp; omega⟩ (by omega) (fun z => by omega)
          rw [List.map_append] at this
          exact this
        · have h1 := of_decide_eq_false h1
          walk_at "u"
          refine o_slS (small (by rw [T_len]; omega)) ?_
          rw [cutS_hi]
          walk_at "u"
          refine addS_ok (small (by simp; omega)) ?_
          rw [T_app]
          refine ⟨small' (by rw [List.length_map, hlx]; omega), ?_⟩
          have := fin (l.take b ++ [c]) b (.sh (.int (k : Nat))) (.sh (.str (T [c]))) s h (by unfold keyN; rw [if_neg (by omega), if_neg h1, List.getLast?_concat]) ⟨q1.app hlow, by simp, by simp; omega⟩ (by omega) (fun z => by omega)
          rw [List.map_append] at this
          exact this
      · have hk := of_decide_eq_false hk
        have k0 : kd = 0 := by omega
        have ea := e6 k0
        subst ea
        obtain ⟨q1, q2, q3, q4⟩ := lcut a e5
        walk_at "u"
        refine ⟨fun _ => ?_, fun hz => absurd k0 (of_decide_eq_false hz)⟩
        refine g_app (ds := xs.map fun x => .str (T x)) rfl ?_
        walk_at "u"
        refine o_slS (small (by rw [T_len]; omega)) ?_
        rw [cutS_hi]
        walk_at "u"
        refine addS_ok (small (by simp; omega)) ?_
        rw [T_app]
        walk_at "u"
        refine o_slS (small (by rw [T_len]; omega)) ?_
        rw [cutS_lo]
        walk_at "u"
        refine addS_ok (small (by simp; omega)) ?_
        rw [T_app]
        refine ⟨small' (by rw [List.length_map, hlx]; omega), ?_⟩
        have := fin ((l.take a ++ [c]) ++ l.drop a) a (.sh (.int (k : Nat))) (.sh (.str (T [c]))) s h (by unfold keyN; rw [if_pos k0]; exact xcat a e5) ⟨(q1.app hlow).app q2, by simp; omega, by simp; omega⟩ e5 (fun _ => rfl)
        rw [List.map_append] at this
        exact this
  · rintro ρ s ⟨k, m, xs, a, y5, y10, e1, e2, h, e3, e4, e5, e6, rfl⟩
    cases m with
    | succ m => rw [List.range'_succ, List.map_cons] at e2; cases e2
    | zero =>
      have ek : k = N := by omega
      subst ek
      have nd : (cs88 fi sd k).Nodup := cs88_nd hsd hN
      have nd2 : (xs.map (keyN kd at0)).Nodup := by
        rw [e3]
        exact List.pairwise_map.mpr (nd.imp fun ne e => ne (Option.some.inj e))
      refine g_retOwn (ds := (xs.map T).map D.str) (by rw [List.map_map]; rfl) ⟨h, xs.map T, rfl, ?_, ?_, ?_⟩
      · have := congrArg List.length e3
        rw [List.length_map, List.length_map] at this
        rw [List.length_map, this]
        unfold cs88
        rw [List.length_map, List.length_range]
      · intro x hx
        obtain ⟨y, hy, rfl⟩ := List.mem_map.mp hx
        obtain ⟨g1, g2, g3⟩ := e4 y hy
        exact nm_T g1 g2 g3
      · exact List.pairwise_map.mpr ((List.pairwise_map.mp nd2).imp fun ne e => ne (congrArg _ (T_inj e)))
end
end
section
set_option maxHeartbeats 1000000
/-! k51 and its neighbours: the law's own sameness. -/

open PySem L2 DL Co


theorem same2_body {n : Nat} {F : List D → S → R D} {d : D} {st : S} (h : pl n d = true) (hn : n ≤ 60) (hF : ∀ ds, (d = .lst ds ∨ d = .tup ds) → ∀ e ∈ ds, F [e, e] st = .ok (.bl true) st) : semOf 2 3 (den__law_same_2 F) [d, d] st = .ok (.bl true) st := by
  refine eq_of ?_
  refine ok_sem rfl ?_
  unfold den__law_same_2
  have ht := pl_ty_ok h
  have hok := pl_okd h (by omega)
  cases d with
  | non =>
    walk_at "u"
    exact ⟨rfl, rfl⟩
  | bl b =>
    iterate 20 (first | refine yes rfl ?_ | refine no rfl ?_ | (walk_at "u") | skip)
    exact ⟨by simp, rfl⟩
  | int i =>
    iterate 20 (first | refine yes rfl ?_ | refine no rfl ?_ | (walk_at "u") | skip)
    exact ⟨by simp, rfl⟩
  | str x =>
    iterate 20 (first | refine yes rfl ?_ | refine no rfl ?_ | (walk_at "u") | skip)
    exact ⟨by simp, rfl⟩
  | lst ds =>
    iterate 20 (first | refine yes rfl ?_ | refine no rfl ?_ | (walk_at "u") | skip)
    refine ⟨fun _ => ?_, fun z => by simp at z⟩
    walk_at "u"
    have hl : ds.length ≤ 1000 := by
      cases n with
      | zero => cases h
      | succ n => exact (pl_lst.mp h).1
    refine range1_ok (by omega) (by omega) ?_
    rw [Int.toNat_natCast]
    refine ⟨small (by rw [List.length_map, List.length_range]; omega), ?_⟩
    refine comp_true (n := 0) (A := .lst ds) (hF ds (by simp)) rfl rfl (Nat.lt_succ_self 2) (by simp) ?_
    walk_at "u"
    refine o_allB ?_
    rw [all_rep]
    exact ⟨rfl, rfl⟩
  | tup ds =>
    iterate 20 (first | refine yes rfl ?_ | refine no rfl ?_ | (walk_at "u") | skip)
    refine ⟨fun _ => ?_, fun z => by simp at z⟩
    walk_at "u"
    have hl : ds.length ≤ 1000 := by
      cases n with
      | zero => cases h
      | succ n => exact (pl_tup.mp h).1
    refine range1_ok (by omega) (by omega) ?_
    rw [Int.toNat_natCast]
    refine ⟨small (by rw [List.length_map, List.length_range]; omega), ?_⟩
    refine comp_true (n := 0) (A := .tup ds) (hF ds (by simp)) rfl rfl (Nat.lt_succ_self 2) (by simp) ?_
    walk_at "u"
    refine o_allB ?_
    rw [all_rep]
    exact ⟨rfl, rfl⟩
  | _ => cases ht
theorem same2_refl : ∀ {n : Nat} {d : D}, pl n d = true → n ≤ 60 → ∀ st, sem__law_same_2 (n + 1) [d, d] st = .ok (.bl true) st
  | 0, d, h, hn, st => same2_body h hn fun ds e => by rcases e with rfl | rfl <;> cases h
  | n + 1, d, h, hn, st => same2_body h hn fun ds e x hx => same2_refl (n := n) (by rcases e with rfl | rfl; exact (pl_lst.mp h).2 x hx; exact (pl_tup.mp h).2 x hx) (by omega) st
theorem k_sameH {n : Nat} {d : D} {st : S} {Q : D → S → Prop} (h : pl n d = true) (hn : n ≤ 11) (q : Q (.bl true) st) : Ok (sem__law_same_2 12 [d, d] st) Q := ⟨_, _, same2_refl (pl_le hn h) (by decide) st, q⟩
end
section
set_option maxHeartbeats 1000000
/-! k51: rings opened. -/

open PySem L2 DL Co


def nmA (ns : List Str) (i : Nat) : Str := ns.getD i (T [])
theorem nmA_get {ns : List Str} {i : Nat} (h : i < ns.length) : ns[i]? = some (nmA ns i) := by
  unfold nmA
  rw [List.getD_eq_getElem?_getD, List.getElem?_eq_getElem h]
  rfl
def ordA (ns : List Str) (r : List Nat) : List Str := r.map (nmA ns)
section
variable {st : S} {Q : D → S → Prop} {ns : List Str} {r : List Nat}
theorem law_order3_ok (hr : ∀ i ∈ r, i < ns.length) (hl : r.length ≤ 1000) (q : Q (tupS (ordA ns r)) st) : Ok (sem__law_order [.lst (ns.map .str), .lst (r.map nI)] st) Q := by
  refine ok_sem rfl ?_
  unfold den__law_order
  walk_at "u"
  refine ok_eq (comp_of (fun i => nI i) (fun i => D.str (nmA ns i)) fun i hi => ⟨_, rfl, eq_of ?_⟩) ?_
  · walk_at "u"
    refine ixL_ok (d := .str (nmA ns i)) (atI_int (by omega) (by rw [Int.toNat_natCast, List.getElem?_map, nmA_get (hr i hi)]; rfl)) ⟨rfl, rfl⟩
  · walk_at "u"
    unfold tupS ordA at q
    rw [List.map_map] at q
    exact q
theorem opened_ok {p : List Str} {x : Str} {j : Nat} (hx : x ∈ p) (e : (p.findIdx? fun y => decide (y = x)) = some j) (hl : p.length ≤ 1000) (q : Q (tupS (p.drop (j + 1) ++ p.take j)) st) : Ok (sem_opened [tupS p, .str x] st) Q := by
  refine ok_sem rfl ?_
  unfold den_opened
  walk_at "u"
  refine k_place hx e ?_
  unfold tupS
  walk_at "u"
  rw [show ((j : Nat) : Int) + 1 = ((j + 1 : Nat) : Int) by omega, cutL_lo, cutL_hi]
  refine addT_ok (small (by rw [List.length_drop, List.length_take, List.length_map]; omega)) ?_
  unfold tupS at q
  rw [List.map_append, List.map_drop, List.map_take] at q
  exact q
theorem find_nd {α : Type} [DecidableEq α] {l : List α} (nd : l.Nodup) {i : Nat} {x : α} (h : l[i]? = some x) : l.findIdx? (fun y => decide (y = x)) = some i := by
  rw [List.findIdx?_eq_some_iff_getElem]
  obtain ⟨hi, e⟩ := List.getElem?_eq_some_iff.mp h
  refine ⟨hi, decide_eq_true e, fun j hj => ?_⟩
  rw [decide_eq_true_eq]
  intro e2
  have := List.pairwise_iff_getElem.mp nd j i (by omega) hi hj
  exact this (e2.trans e.symm)
theorem ordA_nd (nd : ns.Nodup) (hr : ∀ i ∈ r, i < ns.length) (rd : r.Nodup) : (ordA ns r).Nodup := by
  unfold ordA
  refine List.pairwise_map.mpr (rd.imp_of_mem fun {a b} ha hb ne e => ne ?_)
  have h1 := nmA_get (hr a ha)
  have h2 := nmA_get (hr b hb)
  rw [e] at h1
  obtain ⟨g1, e1⟩ := List.getElem?_eq_some_iff.mp h1
  obtain ⟨g2, e2⟩ := List.getElem?_eq_some_iff.mp h2
  by_cases h : a = b
  · exact h
  · exfalso
    rcases Nat.lt_or_gt_of_ne h with q | q
    · exact List.pairwise_iff_getElem.mp nd a b g1 g2 q (e1.trans e2.symm)
    · exact List.pairwise_iff_getElem.mp nd b a g2 g1 q (e2.trans e1.symm)
theorem opened_so_ok {i : Nat} (nd : ns.Nodup) (nm : ∀ x ∈ ns, Nm x) (hr : ∀ i ∈ r, i < ns.length) (rd : r.Nodup) (hl : r.length ≤ 60) (hi : i < r.length) (q : Q (.bl true) st) : Ok (sem__law_opened_so [.lst (r.map nI), .lst (ns.map .str), .int (i : Nat)] st) Q := by
  have ha : r[i]? = some r[i] := List.getElem?_eq_getElem hi
  generalize r[i] = a at ha
  have hA := hr a (List.mem_of_getElem? ha)
  have h3 : (ordA ns r)[i]? = some (nmA ns a) := by
    unfold ordA
    rw [List.getElem?_map, ha]
    rfl
  refine ok_sem rfl ?_
  unfold den__law_opened_so
  walk_at "u"
  rw [show ((i : Nat) : Int) + 1 = ((i + 1 : Nat) : Int) by omega, cutL_lo, cutL_hi]
  refine addL_ok (small (by rw [List.length_drop, List.length_take, List.length_map]; omega)) ?_
  rw [← List.map_drop, ← List.map_take, ← List.map_append]
  walk_at "u"
  refine law_order3_ok hr (by omega) ?_
  walk_at "u"
  refine ixL_ok (d := nI a) (atI_int (by omega) (by rw [Int.toNat_natCast, List.getElem?_map, ha]; rfl)) ?_
  refine ixL_ok (d := .str (nmA ns a)) (atI_int (by omega) (by rw [Int.toNat_natCast, List.getElem?_map, nmA_get hA]; rfl)) ?_
  walk_at "u"
  refine opened_ok (List.mem_of_getElem? h3) (find_nd (ordA_nd nd hr rd) h3) (by unfold ordA; rw [List.length_map]; omega) ?_
  walk_at "u"
  refine law_order3_ok (r := r.drop (i + 1) ++ r.take i) (fun k hk => by
    rcases List.mem_append.mp hk with hk | hk
    · exact hr k (List.mem_of_mem_drop hk)
    · exact hr k (List.mem_of_mem_take hk)) (by rw [List.length_append, List.length_drop, List.length_take]; omega) ?_
  have e : (ordA ns r).drop (i + 1) ++ (ordA ns r).take i = ordA ns (r.drop (i + 1) ++ r.take i) := by
    unfold ordA
    rw [List.map_append, List.map_drop, List.map_take]
  rw [e]
  have hpl : pl 1 (tupS (ordA ns (r.drop (i + 1) ++ r.take i))) = true := pl_tupS (fun x hx => ?_) (by unfold ordA; rw [List.length_map, List.length_append, List.length_drop, List.length_take]; omega)
  · exact k_nil (k_sameH hpl (by decide) q)
  unfold ordA at hx
  obtain ⟨k, hk, rfl⟩ := List.mem_map.mp hx
  refine nm _ (List.mem_of_getElem? (nmA_get (hr k ?_)))
  rcases List.mem_append.mp hk with hk | hk
  · exact List.mem_of_mem_drop hk
  · exact List.mem_of_mem_take hk
end
end
section
set_option maxHeartbeats 1000000
/-! k51: odd things, bent rings. -/

open PySem L2 DL Co


section
variable {tl : S × S} {st : S}
theorem odd_thing_ok {x : Str} (h : Bh tl st) (hx : Nm x) : Ok (sem__law_odd_thing [.ref tl.1.length, .str x] st) fun d s => Bh tl s ∧ pl 2 d = true ∧ ∀ y : Str, d = .str y → ¬ Nm y := by
  refine ok_sem rfl ?_
  unfold den__law_odd_thing
  walk_at "u"
  refine (pick2_ok h (by show 0 < 12; decide) (by show 12 < _; decide)).mono ?_
  rintro d s ⟨h, hd⟩
  refine ⟨h, ?_, ?_⟩
  · simp only [List.mem_cons, List.not_mem_nil, or_false] at hd
    rcases hd with rfl | rfl | rfl | rfl | rfl | rfl | rfl | rfl | rfl | rfl | rfl | rfl
    · rfl
    · rfl
    · rfl
    · rfl
    · rfl
    · rfl
    · rfl
    · exact pl_tup.mpr ⟨by simp, al_nil⟩
    · exact pl_lst.mpr ⟨by simp, al_nil⟩
    · exact pl_lst.mpr ⟨by simp, al_cons (pl_s (Nm.plS hx)) al_nil⟩
    · exact pl_tup.mpr ⟨by simp, al_cons (pl_s (Nm.plS hx)) al_nil⟩
    · exact pl_tup.mpr ⟨by simp, al_cons rfl (al_cons (pl_s (Nm.plS hx)) al_nil)⟩
  · rintro y rfl hy
    have := hy.isName
    simp only [List.mem_cons, List.not_mem_nil, or_false, D.str.injEq, reduceCtorEq, false_or] at hd
    rcases hd with rfl | rfl | rfl
    · exact absurd this (by decide)
    · exact absurd this (by decide)
    · exact absurd this (by decide)
theorem bent_ring_ok {p : List Str} {z : Str} (h : Bh tl st) (hp : ∀ x ∈ p, Nm x) (h0 : 0 < p.length) (hl : p.length ≤ 60) (hz : Nm z) : Ok (sem__law_bent_ring [.ref tl.1.length, tupS p, .str z] st) fun d s => Bh tl s ∧ pl 3 d = true := by
  have ps : ∀ {q : List Str}, (∀ x ∈ q, Nm x) → q.length ≤ 200 → pl 3 (tupS q) = true := fun {q} hq hl => pl_le (m := 1) (by decide) (pl_tupS hq (by omega))
  refine ok_sem rfl ?_
  unfold den__law_bent_ring tupS
  walk_at "u"
  rw [List.length_map]
  refine (draw2_ok h (by omega) (by omega)).mono ?_
  rintro _ s ⟨h, a, rfl, a0, a1⟩
  obtain ⟨a, rfl⟩ := Int.eq_ofNat_of_zero_le a0
  walk_at "u"
  refine (draw2_ok h (by decide) (by decide)).mono ?_
  rintro _ s ⟨h, w, rfl, w0, w1⟩
  walk_at "u"
  have mt : ∀ k, ∀ x ∈ p.take k, Nm x := fun k x hx => hp x (List.mem_of_mem_take hx)
  have md : ∀ k, ∀ x ∈ p.drop k, Nm x := fun k x hx => hp x (List.mem_of_mem_drop hx)
  have app : ∀ {q r : List Str}, (∀ x ∈ q, Nm x) → (∀ x ∈ r, Nm x) → ∀ x ∈ q ++ r, Nm x := fun {q r} h1 h2 x hx => by
    rcases List.mem_append.mp hx with hx | hx
    · exact h1 x hx
    · exact h2 x hx
  have add : ∀ {q r : List Str} {s : S} {Q : D → S → Prop}, q.length + r.length ≤ 500 → Q (.tup ((q ++ r).map .str)) s → Ok (addD (.tup (q.map .str)) (.tup (r.map .str)) s) Q := fun {q r s Q} hl q2 => by
    refine addT_ok (small (by rw [List.length_map, List.length_map]; omega)) ?_
    rw [List.map_append] at q2
    exact q2
  have hi : ∀ k : Nat, cutL (p.map D.str) none (some (k : Nat)) = (p.take k).map D.str := fun k => by rw [cutL_hi, List.map_take]
  have lo : ∀ k : Nat, cutL (p.map D.str) (some (k : Nat)) none = (p.drop k).map D.str := fun k => by rw [cutL_lo, List.map_drop]
  have hi1 : cutL (p.map D.str) none (some 1) = (p.take 1).map D.str := hi 1
  have lo1 : cutL (p.map D.str) (some 1) none = (p.drop 1).map D.str := lo 1
  have lt : ∀ k, (p.take k).length ≤ 60 := fun k => Nat.le_trans (List.length_take_le' ..) hl
  have ld : ∀ k, (p.drop k).length ≤ 60 := fun k => by rw [List.length_drop]; omega
  refine ⟨fun _ => ?_, fun _ => ?_⟩
  · walk_at "u"
    refine ⟨fun _ => ?_, fun _ => ?_⟩
    · walk_at "u"
      rw [hi1, lo1, ← List.map_reverse]
      refine add (by rw [List.length_reverse]; have := lt 1; have := ld 1; omega) ⟨h, ps (app (mt _) fun x hx => md 1 x (List.mem_reverse.mp hx)) ?_⟩
      rw [List.length_append, List.length_reverse]
      have := lt 1
      have := ld 1
      omega
    · walk_at "u"
      rw [hi, lo]
      refine add (by have := lt a; have := ld a; omega) ⟨h, ps (app (md _) (mt _)) ?_⟩
      rw [List.length_append]
      have := lt a
      have := ld a
      omega
  · walk_at "u"
    refine ⟨fun _ => ?_, fun _ => ?_⟩
    · walk_at "u"
      refine ⟨h, pl_le (m := 2) (by decide) (pl_lst.mpr ⟨by rw [List.length_map]; omega, fun d hd => ?_⟩)⟩
      obtain ⟨x, hx, rfl⟩ := List.mem_map.mp hd
      exact pl_s (Nm.plS (hp x hx))
    · walk_at "u"
      have tl1 : ∀ x : Str, (D.tup [.str x]) = .tup (([x] : List Str).map .str) := fun _ => rfl
      have n1 : ∀ {x : Str}, Nm x → ∀ y ∈ [x], Nm y := fun {x} h y hy => by rw [List.mem_singleton.mp hy]; exact h
      have la : a < p.length := by omega
      have ha : (p.map D.str)[a]? = some (.str p[a]) := by rw [List.getElem?_map, List.getElem?_eq_getElem la]; rfl
      have lta := lt a
      have lda := ld (a + 1)
      refine ⟨fun _ => ?_, fun _ => ?_⟩
      · walk_at "u"
        rw [show ((a : Nat) : Int) + 1 = ((a + 1 : Nat) : Int) by omega, hi, lo]
        exact add (by omega) ⟨h, ps (app (mt _) (md _)) (by rw [List.length_append]; omega)⟩
      · walk_at "u"
        refine ⟨fun _ => ?_, fun _ => ?_⟩
        · walk_at "u"
          refine ixT_ok (d := .str p[a]) (atI_int (by omega) (by rw [Int.toNat_natCast]; exact ha)) ?_
          walk_at "u"
          rw [tl1]
          exact add (by simp; omega) ⟨h, ps (app hp (n1 (hp _ (List.getElem_mem la)))) (by simp; omega)⟩
        · walk_at "u"
          refine ⟨fun _ => ?_, fun _ => ?_⟩
          · walk_at "u"
            obtain ⟨x, hx, ex⟩ : ∃ x ∈ p, L2.atI (p.map D.str) ((a : Int) - 1) = some (.str x) := by
              cases a with
              | zero =>
                refine ⟨p.getLast (fun e => by rw [e] at h0; simp at h0), List.getLast_mem _, ?_⟩
                rw [show (((0 : Nat) : Int) - 1) = -1 by omega]
                refine atI_end ?_
                rw [List.getLast?_map, List.getLast?_eq_some_getLast (fun e => by rw [e] at h0; simp at h0)]
                rfl
              | succ b =>
                have lb : b < p.length := by omega
                refine ⟨p[b], List.getElem_mem lb, atI_int (by omega) ?_⟩
                rw [show (((b + 1 : Nat) : Int) - 1).toNat = b by omega, List.getElem?_map, List.getElem?_eq_getElem lb]
                rfl
            refine ixT_ok ex ?_
            walk_at "u"
            rw [hi, tl1]
            refine add (by simp; omega) ?_
            walk_at "u"
            rw [show ((a : Nat) : Int) + 1 = ((a + 1 : Nat) : Int) by omega, lo]
            exact add (by simp; omega) ⟨h, ps (app (app (mt _) (n1 (hp x hx))) (md _)) (by simp; omega)⟩
          · walk_at "u"
            refine ⟨fun _ => ?_, fun _ => ?_⟩
            · walk_at "u"
              rw [hi, tl1]
              refine add (by simp; omega) ?_
              walk_at "u"
              rw [show ((a : Nat) : Int) + 1 = ((a + 1 : Nat) : Int) by omega, lo]
              exact add (by simp; omega) ⟨h, ps (app (app (mt _) (n1 hz)) (md _)) (by simp; omega)⟩
            · walk_at "u"
              have h00 : (p.map D.str)[0]? = some (.str p[0]) := by rw [List.getElem?_map, List.getElem?_eq_getElem h0]; rfl
              refine ixT_ok (d := .str p[0]) (atI_int (by decide) h00) ?_
              walk_at "u"
              refine (odd_thing_ok h (hp _ (List.getElem_mem h0))).mono ?_
              rintro d s ⟨h, hd, _⟩
              exact ⟨h, pl_le (m := 2) (by decide) hd⟩
end
end
section
set_option maxHeartbeats 1000000
/-! k51: ring orders judged. -/

open PySem L2 DL Co


theorem dataLt_S (x y : Str) : PySem.W.dataLt (py (.str x)) (py (.str y)) = ltS x y := by
  rw [py_str, py_str, PySem.W.dataLt_str]
  rfl
theorem ltS_neg {a b c : Str} (h1 : ltS a b = false) (h2 : ltS b c = false) (h : ltS a c = true) : False := by
  cases hb : ltS b a with
  | true => rw [ltS_trans hb h] at h2; cases h2
  | false =>
    have e := ltS_antisymm hb h1
    subst e
    rw [h] at h2
    cases h2
theorem least_le : ∀ (xs : List Str) (x : Str), ∀ y ∈ x :: xs, ltS y (leastT x xs) = false
  | [], x, y, hy => by
    rw [List.mem_singleton.mp hy]
    exact ltS_irrefl x
  | z :: xs, x, y, hy => by
    have e : leastT x (z :: xs) = leastT (if ltS z x = true then z else x) xs := by
      unfold leastT
      rw [List.foldl_cons, dataLt_S]
    rw [e]
    have ih := least_le xs (if ltS z x = true then z else x)
    have key : ∀ {a b c : Str}, ltS a b = false → ltS b c = false → ltS a c = false := fun {a b c} h1 h2 => by
      cases h : ltS a c with
      | false => rfl
      | true => exact (ltS_neg h1 h2 h).elim
    have h0 := ih _ List.mem_cons_self
    rcases List.mem_cons.mp hy with rfl | hy
    · by_cases h : ltS z y = true
      · rw [if_pos h] at h0 ⊢
        exact key (ltS_asymm h) h0
      · rw [if_neg h] at h0 ⊢
        exact h0
    · rcases List.mem_cons.mp hy with rfl | hy
      · by_cases h : ltS y x = true
        · rw [if_pos h] at h0 ⊢
          exact h0
        · rw [if_neg h] at h0 ⊢
          exact key (by simpa using h) h0
      · exact ih y (List.mem_cons_of_mem _ hy)
/-- of an ascending list in any sequence the first one is the least -/
theorem least_head {ns : List Str} {x h : Str} {xs rest : List Str} (asc : ns.Pairwise fun a b => ltS a b = true) (e : ns = h :: rest) (pm : (x :: xs).Perm ns) : leastT x xs = h := by
  have h1 : leastT x xs ∈ ns := pm.mem_iff.mp (least_mem xs x)
  have h2 := least_le xs x h (pm.mem_iff.mpr (by rw [e]; exact List.mem_cons_self))
  rw [e] at h1
  rcases List.mem_cons.mp h1 with g | g
  · exact g
  · rw [e] at asc
    rw [(List.pairwise_cons.mp asc).1 _ g] at h2
    cases h2
def isRing (ns : List Str) (d : D) : Bool := isOrd ns d && (match d with
  | .tup (.str x :: _) => decide (ns.head? = some x)
  | _ => false)
theorem ord_shape {ns : List Str} {d : D} (h : isOrd ns d = true) : ∃ zs : List Str, d = .tup (zs.map .str) ∧ zs.length = ns.length ∧ ∀ x ∈ ns, x ∈ zs := by
  unfold isOrd at h
  split at h
  · split at h
    · rename_i ds zs e
      rw [Bool.and_eq_true, decide_eq_true_eq, List.all_eq_true] at h
      exact ⟨zs, by rw [strsOf_eq e], h.1, fun x hx => of_decide_eq_true (h.2 x hx)⟩
    · cases h
  · cases h
section
variable {st : S} {Q : D → S → Prop}
theorem is_ring_order_ok {A d : D} {n : Nat} {g ns : List Str} (hA : A = .lst (g.map .str) ∨ A = .tup (g.map .str)) (pm : g.Perm ns) (asc : ns.Pairwise fun a b => ltS a b = true) (h0 : 0 < ns.length) (hl : ns.length ≤ 60) (hd : pl n d = true) (q : Q (.bl (isRing ns d)) st) : Ok (sem_is_ring_order [A, d] st) Q := by
  refine ok_sem rfl ?_
  unfold den_is_ring_order
  walk_at "u"
  refine ok_eq (is_order_eq hd hA (by rw [pm.length_eq]; exact hl) st) ?_
  rw [isOrd_perm pm]
  unfold isRing at q
  walk_at "u"
  cases ho : isOrd ns d with
  | false =>
    rw [ho] at q
    exact no rfl q
  | true =>
    rw [ho, Bool.true_and] at q
    refine yes rfl ?_
    obtain ⟨zs, rfl, hz, _⟩ := ord_shape ho
    obtain ⟨z, zr, rfl⟩ : ∃ a r, zs = a :: r := by
      cases zs with
      | nil => simp at hz; omega
      | cons a r => exact ⟨a, r, rfl⟩
    obtain ⟨h, hr, eh⟩ : ∃ a r, ns = a :: r := by
      cases ns with
      | nil => simp at h0
      | cons a r => exact ⟨a, r, rfl⟩
    obtain ⟨x, xs, rfl⟩ : ∃ a r, g = a :: r := by
      cases g with
      | nil => have := pm.length_eq; simp at this; omega
      | cons a r => exact ⟨a, r, rfl⟩
    have em : minTD A st = .ok (.str h) st := by
      have e2 : strsOf ((x :: xs).map D.str) = some (x :: xs) := strsOf_map _
      unfold minTD
      rcases hA with rfl | rfl <;> dsimp only [view] <;> rw [e2] <;> dsimp only <;> rw [least_head asc eh pm]
    walk_at "u"
    refine ok_eq em ?_
    walk_at "u"
    have e3 : decide (z = h) = decide ((h :: hr).head? = some z) := decide_eq_decide.mpr ⟨fun e => by rw [e]; rfl, fun e => (Option.some.inj e).symm⟩
    rw [eh] at q
    rw [e3]
    exact q
end
end
section
set_option maxHeartbeats 1000000
/-! k51: the law's judge of names. -/

open PySem L2 DL Co


theorem law_name3_eq {n : Nat} {d : D} (h : pl n d = true) (st : S) : sem__law_is_name_3 [d] st = .ok (.bl (isName d)) st := by
  refine eq_of ?_
  refine ok_sem rfl ?_
  unfold den__law_is_name_3
  have ht := pl_ty_ok h
  by_cases hs : ∃ x, d = .str x
  · obtain ⟨x, rfl⟩ := hs
    have hl := plS_len h
    walk_at "u"
    refine yes rfl ?_
    walk_at "u"
    refine lenS_ok (small (by omega)) ?_
    walk_at "u"
    refine ⟨fun hc => ?_, fun hc => ?_⟩
    · have hc := of_decide_eq_true hc
      walk_at "u"
      refine lenS_ok (small (by omega)) ?_
      walk_at "u"
      refine ⟨fun hd => ?_, fun hd => ?_⟩
      · have hd := of_decide_eq_true hd
        walk_at "u"
        rw [lts_eq]
        refine ⟨small (by rw [List.length_map, ← len_list]; omega), ?_⟩
        refine comp_signs (fun c => eq_of ?_) ?_
        · walk_at "u"
          exact ⟨rfl, rfl⟩
        · walk_at "u"
          refine o_allB ⟨?_, rfl⟩
          rw [all_map_id]
          unfold isName
          dsimp only
          rw [decide_eq_true (show 1 ≤ x.length by omega), decide_eq_true (show x.length ≤ 6 by omega)]
          rfl
      · have hd2 := of_decide_eq_false hd
        refine ⟨?_, rfl⟩
        rw [hd]
        unfold isName
        dsimp only
        rw [decide_eq_false (show ¬ x.length ≤ 6 by omega)]
        simp
    · have hc2 := of_decide_eq_false hc
      refine ⟨?_, rfl⟩
      rw [hc]
      unfold isName
      dsimp only
      rw [decide_eq_false (show ¬ 1 ≤ x.length by omega)]
      rfl
  · obtain ⟨hn, hm⟩ := isI_str hs
    walk_at "u"
    refine no hn ⟨by rw [hm, hn], rfl⟩
end
section
set_option maxHeartbeats 1000000
/-! k51: the law's judge of rings. -/

open PySem L2 DL Co


section
variable {st : S} {Q : D → S → Prop}
theorem isRing_tup {ns : List Str} {d : D} (h : isRing ns d = true) : ∃ ds, d = .tup ds := by
  unfold isRing at h
  rw [Bool.and_eq_true] at h
  obtain ⟨zs, rfl, _⟩ := ord_shape h.1
  exact ⟨_, rfl⟩
theorem law_is_ring_ok {d : D} {n : Nat} {ns : List Str} (nd : ns.Nodup) (nm : ∀ x ∈ ns, Nm x) (h0 : 0 < ns.length) (hl : ns.length ≤ 60) (hd : pl n d = true) (q : Q (.bl (isRing ns d)) st) : Ok (sem__law_is_ring [.lst (ns.map .str), d] st) Q := by
  refine ok_sem rfl ?_
  unfold den__law_is_ring
  have ht := pl_ty_ok hd
  by_cases hs : ∃ ds, d = .tup ds
  · obtain ⟨ds, rfl⟩ := hs
    obtain ⟨hle, hp⟩ := tup_pl hd
    walk_at "u"
    refine no rfl ?_
    walk_at "u"
    rw [List.length_map]
    have hlen : isRing ns (.tup ds) = true → ds.length = ns.length := fun h => by
      unfold isRing at h
      rw [Bool.and_eq_true] at h
      obtain ⟨zs, e, hz, _⟩ := ord_shape h.1
      cases e
      rw [List.length_map, hz]
    cases hb : decide ((ds.length : Int) = (ns.length : Int)) with
    | false =>
      have hb2 := of_decide_eq_false hb
      have hq : isRing ns (.tup ds) = false := by
        cases e : isRing ns (.tup ds) with
        | false => rfl
        | true => exact absurd (hlen e) (by omega)
      rw [hq] at q
      refine yes rfl (yes rfl ?_)
      walk_at "u"
      exact q
    | true =>
      have hb2 := of_decide_eq_true hb
      refine no rfl ?_
      walk_at "u"
      refine ⟨small (by omega), ?_⟩
      refine ok_eq (comp_map (fun d => .bl (isName d)) fun d hd => ⟨_, rfl, eq_of ?_⟩) ?_
      · walk_at "u"
        exact ok_eq (law_name3_eq (hp d hd) st) ⟨rfl, rfl⟩
      walk_at "u"
      have e5 : (ds.map fun d => D.bl (isName d)) = (ds.map isName).map .bl := by rw [List.map_map]; rfl
      rw [e5]
      refine o_allB ?_
      rw [all_map_id2]
      walk_at "u"
      cases ha : ds.all isName with
      | false =>
        have hq : isRing ns (.tup ds) = false := by
          cases e : isRing ns (.tup ds) with
          | false => rfl
          | true =>
            exfalso
            unfold isRing at e
            rw [Bool.and_eq_true] at e
            obtain ⟨zs, ez, hz, hm⟩ := ord_shape e.1
            cases ez
            have : (zs.map D.str).all isName = true := by
              rw [List.all_eq_true]
              intro d hd
              obtain ⟨z, hzm, rfl⟩ := List.mem_map.mp hd
              by_cases h : z ∈ ns
              · exact (nm z h).isName
              · exfalso
                have := nodup_le nd (l2 := zs.erase z) fun x hx => (List.mem_erase_of_ne (fun e : x = z => h (e ▸ hx))).mpr (hm x hx)
                rw [List.length_erase_of_mem hzm] at this
                have := List.length_pos_of_mem hzm
                omega
            rw [this] at ha
            cases ha
        rw [hq] at q
        refine yes rfl ?_
        walk_at "u"
        exact q
      | true =>
        refine no rfl ?_
        obtain ⟨zs, rfl, hzn⟩ : ∃ zs : List Str, ds = zs.map .str ∧ ∀ z ∈ zs, Nm z := by
          have := List.all_eq_true.mp ha
          refine ⟨ds.map strOf, ?_, fun z hz => ?_⟩
          · rw [List.map_map]
            conv => lhs; rw [← List.map_id ds]
            refine List.map_congr_left fun d hd => ?_
            obtain ⟨m, rfl⟩ := isName_str (this d hd)
            rfl
          · obtain ⟨d, hd, rfl⟩ := List.mem_map.mp hz
            have h9 := this d hd
            obtain ⟨m, rfl⟩ := isName_str h9
            exact Nm_of h9
        walk_at "u"
        rw [List.length_map] at hb2
        obtain ⟨z, zr, rfl⟩ : ∃ a r, zs = a :: r := by
          cases zs with
          | nil => simp at hb2; omega
          | cons a r => exact ⟨a, r, rfl⟩
        obtain ⟨h, hr, rfl⟩ : ∃ a r, ns = a :: r := by
          cases ns with
          | nil => simp at h0
          | cons a r => exact ⟨a, r, rfl⟩
        have er : isRing (h :: hr) (.tup ((z :: zr).map .str)) = (((h :: hr).all fun x => decide (x ∈ z :: zr)) && decide (z = h)) := by
          unfold isRing isOrd
          dsimp only
          rw [strsOf_map]
          dsimp only [List.map_cons]
          rw [decide_eq_true (show (z :: zr).length = (h :: hr).length by omega), Bool.true_and]
          congr 1
          exact decide_eq_decide.mpr ⟨fun e => (Option.some.inj e).symm, fun e => by rw [e]; rfl⟩
        rw [er] at q
        refine ixT_ok (d := .str z) (atI_int (by decide) rfl) ?_
        walk_at "u"
        refine ⟨fun hz => ?_, fun hz => ?_⟩
        · rw [hz, Bool.and_true] at q
          walk_at "u"
          refine ok_eq (comp_of (fun x => D.str x) (fun x => D.bl (decide (x ∈ z :: zr))) fun x hx => ⟨_, rfl, eq_of ?_⟩) ?_
          · walk_at "u"
            exact k_inT ⟨rfl, rfl⟩
          · walk_at "u"
            have e6 : ((h :: hr).map fun x => D.bl (decide (x ∈ z :: zr))) = ((h :: hr).map fun x => decide (x ∈ z :: zr)).map .bl := by rw [List.map_map]; rfl
            rw [e6]
            refine o_allB ?_
            rw [all_map_id2]
            exact q
        · rw [hz, Bool.and_false] at q
          rw [hz]
          exact q
  · have hI : isI d "tuple" = false := by
      cases d <;> first | rfl | exact absurd ⟨_, rfl⟩ hs | cases ht
    have hq : isRing ns d = false := by
      cases e : isRing ns d with
      | false => rfl
      | true => exact absurd (isRing_tup e) hs
    rw [hq] at q
    walk_at "u"
    refine yes (by rw [hI]; rfl) (yes rfl ?_)
    walk_at "u"
    exact q
end
end
section
set_option maxHeartbeats 1000000
/-! k51 and its neighbours: a lambda tried by R. -/

open PySem L2 DL Co


section
variable {st : S} {ρ : Ev} {Q : D → S → Prop} {fl fe : Ev → S → DL.R D} {c : Str} {ok : Nat → Bool} {hF : Exn → S → DL.R D} {sem : List D → S → DL.R D}
/-- R(lambda: b, e): e's thing, then b, told or an error, then sem -/
theorem k_raise (h : Ok (fe ρ st) fun dd s => ∃ r, Ok (tryD c ok hF (fl ρ s)) (fun x s2 => x = r ∧ Ok (sem [r, dd] s2) Q)) : Ok (dRaise c ok hF sem fl fe ρ st) Q := by
  unfold dRaise
  rw [ok_bind]
  refine h.mono fun dd s ⟨r, h⟩ => ?_
  obtain ⟨x, s2, e, rfl, h⟩ := h
  rw [e]
  show Ok (noX (sem [x, dd] s2)) Q
  obtain ⟨y, s3, e2, q⟩ := h
  rw [e2]
  exact ⟨_, _, rfl, q⟩
end
end
section
set_option maxHeartbeats 1000000
/-! k51: arcs as bits (plain). -/

open PySem L2 DL Co
/-- bits of places -/
def bitsOf (l : List Nat) (b : Nat) : Nat := l.foldl (fun b k => b ||| 1 <<< k) b
theorem tb_one (k j : Nat) : (1 <<< k).testBit j = decide (k = j) := by
  rw [Nat.one_shiftLeft, Nat.testBit_two_pow]
theorem tb_bits : ∀ (l : List Nat) (b j : Nat), (bitsOf l b).testBit j = (b.testBit j || decide (j ∈ l))
  | [], b, j => by simp [bitsOf]
  | k :: l, b, j => by
    have := tb_bits l (b ||| 1 <<< k) j
    have e : bitsOf (k :: l) b = bitsOf l (b ||| 1 <<< k) := rfl
    rw [e, this, Nat.testBit_or, tb_one, Bool.or_assoc]
    congr 1
    by_cases h : k = j
    · subst h; simp
    · have h2 : ¬ j = k := fun e => h e.symm
      simp [h, h2]
def arcIn (l : List Nat) (p : Nat × Nat) : Nat × Nat := l.foldl (fun p k => (p.1 ||| 1 <<< (p.2 ||| 1 <<< k), p.2 ||| 1 <<< k)) p
theorem tb_arcIn : ∀ (l : List Nat) (p : Nat × Nat) (x : Nat), (arcIn l p).1.testBit x = true ↔ (p.1.testBit x = true ∨ ∃ m, 1 ≤ m ∧ m ≤ l.length ∧ x = bitsOf (l.take m) p.2)
  | [], p, x => by
    constructor
    · exact .inl
    · rintro (h | ⟨m, h1, h2, _⟩)
      · exact h
      · simp at h2; omega
  | k :: l, p, x => by
    have ih := tb_arcIn l (p.1 ||| 1 <<< (p.2 ||| 1 <<< k), p.2 ||| 1 <<< k) x
    have e : arcIn (k :: l) p = arcIn l (p.1 ||| 1 <<< (p.2 ||| 1 <<< k), p.2 ||| 1 <<< k) := rfl
    rw [e, ih, Nat.testBit_or, tb_one, Bool.or_eq_true, decide_eq_true_eq]
    constructor
    · rintro ((h | h) | ⟨m, h1, h2, h3⟩)
      · exact .inl h
      · exact .inr ⟨1, Nat.le_refl 1, by simp, h.symm⟩
      · exact .inr ⟨m + 1, by omega, by simp; omega, h3⟩
    · rintro (h | ⟨m, h1, h2, h3⟩)
      · exact .inl (.inl h)
      · obtain ⟨m, rfl⟩ : ∃ j, m = j + 1 := ⟨m - 1, by omega⟩
        by_cases hm : m = 0
        · subst hm
          exact .inl (.inr h3.symm)
        · exact .inr ⟨m, by omega, by simp at h2; omega, h3⟩
def rotA (r : List Nat) (a : Nat) : List Nat := r.drop a ++ r.take a
def arcsF (r : List Nat) (as : List Nat) (f : Nat) : Nat := as.foldl (fun f a => (arcIn (rotA r a) (f, 0)).1) f
theorem tb_arcsF (r : List Nat) : ∀ (as : List Nat) (f x : Nat), (arcsF r as f).testBit x = true ↔ (f.testBit x = true ∨ ∃ a ∈ as, ∃ m, 1 ≤ m ∧ m ≤ (rotA r a).length ∧ x = bitsOf ((rotA r a).take m) 0)
  | [], f, x => by simp [arcsF]
  | a :: as, f, x => by
    have ih := tb_arcsF r as (arcIn (rotA r a) (f, 0)).1 x
    have e : arcsF r (a :: as) f = arcsF r as (arcIn (rotA r a) (f, 0)).1 := rfl
    rw [e, ih, tb_arcIn]
    constructor
    · rintro ((h | ⟨m, h⟩) | ⟨b, hb, h⟩)
      · exact .inl h
      · exact .inr ⟨a, List.mem_cons_self, m, h⟩
      · exact .inr ⟨b, List.mem_cons_of_mem _ hb, h⟩
    · rintro (h | ⟨b, hb, h⟩)
      · exact .inl (.inl h)
      · rcases List.mem_cons.mp hb with rfl | hb
        · exact .inl (.inr h)
        · exact .inr ⟨b, hb, h⟩
theorem rot_len (r : List Nat) {a : Nat} (h : a ≤ r.length) : (rotA r a).length = r.length := by
  unfold rotA
  rw [List.length_append, List.length_drop, List.length_take]
  omega
/-- which places a rotation's first ones hold -/
theorem rot_mem {r : List Nat} (nd : r.Nodup) {a m i : Nat} (ha : a < r.length) (hm : m ≤ r.length) (hi : i < r.length) : r[i] ∈ (rotA r a).take m ↔ ((a ≤ i ∧ i < a + m) ∨ i + r.length < a + m) := by
  have inj : ∀ j (hj : j < r.length), r[j] = r[i] → j = i := fun j hj e => by
    by_cases h : j = i
    · exact h
    · exfalso
      have := List.pairwise_iff_getElem.mp nd
      rcases Nat.lt_or_gt_of_ne h with q | q
      · exact this j i hj hi q e
      · exact this i j hi hj q e.symm
  unfold rotA
  rw [List.mem_take_iff_getElem]
  constructor
  · rintro ⟨j, hj, e⟩
    rw [List.length_append, List.length_drop, List.length_take] at hj
    rw [List.getElem_append] at e
    split at e
    · rename_i h
      rw [List.length_drop] at h
      rw [List.getElem_drop] at e
      have := inj _ (by omega) e
      left
      omega
    · rename_i h
      rw [List.length_drop] at h
      rw [List.getElem_take] at e
      have := inj _ (by rw [List.length_drop]; omega) e
      rw [List.length_drop] at this
      right
      omega
  · rintro (⟨h1, h2⟩ | h)
    · refine ⟨i - a, by rw [List.length_append, List.length_drop, List.length_take]; omega, ?_⟩
      rw [List.getElem_append, dif_pos (by rw [List.length_drop]; omega), List.getElem_drop]
      congr 1
      omega
    · refine ⟨i + (r.length - a), by rw [List.length_append, List.length_drop, List.length_take]; omega, ?_⟩
      rw [List.getElem_append, dif_neg (by rw [List.length_drop]; omega), List.getElem_take]
      congr 1
      rw [List.length_drop]
      omega
/-- an arc by places -/
def Cyc (n : Nat) (f : Nat → Bool) : Prop := ∃ a, a < n ∧ ∃ m, 1 ≤ m ∧ m ≤ n ∧ ∀ i, i < n → (f i = true ↔ ((a ≤ i ∧ i < a + m) ∨ i + n < a + m))
def Itv (n : Nat) (f : Nat → Bool) : Prop := ∃ a m, 1 ≤ m ∧ a + m ≤ n ∧ ∀ i, i < n → (f i = true ↔ (a ≤ i ∧ i < a + m))
theorem cyc_itv {n : Nat} {f : Nat → Bool} (h : ∃ i, i < n ∧ f i = true) : Cyc n f ↔ ((∀ i, i < n → f i = true) ∨ Itv n f ∨ Itv n fun i => !f i) := by
  obtain ⟨i0, hi0, fi0⟩ := h
  constructor
  · rintro ⟨a, ha, m, m1, mn, hf⟩
    by_cases h : a + m ≤ n
    · refine .inr (.inl ⟨a, m, m1, h, fun i hi => ?_⟩)
      rw [hf i hi]
      constructor
      · rintro (h | h)
        · exact h
        · omega
      · exact .inl
    · by_cases h2 : m = n
      · refine .inl fun i hi => (hf i hi).mpr ?_
        omega
      · refine .inr (.inr ⟨a + m - n, n - m, by omega, by omega, fun i hi => ?_⟩)
        have := hf i hi
        cases e : f i with
        | true =>
          have := this.mp e
          simp only [e, Bool.not_true, Bool.false_eq_true, false_iff]
          omega
        | false =>
          have h3 : ¬ ((a ≤ i ∧ i < a + m) ∨ i + n < a + m) := fun z => by
            have := this.mpr z
            rw [e] at this
            cases this
          simp only [e, Bool.not_false, true_iff]
          omega
  · rintro (h | ⟨a, m, m1, mn, hf⟩ | ⟨a, m, m1, mn, hf⟩)
    · exact ⟨0, by omega, n, by omega, Nat.le_refl n, fun i hi => ⟨fun _ => .inl ⟨by omega, by omega⟩, fun _ => h i hi⟩⟩
    · refine ⟨a, by omega, m, m1, by omega, fun i hi => ?_⟩
      rw [hf i hi]
      constructor
      · exact .inl
      · rintro (h | h)
        · exact h
        · omega
    · have hg : ∀ i, i < n → (f i = true ↔ ¬ (a ≤ i ∧ i < a + m)) := fun i hi => by
        rw [← hf i hi]
        dsimp only
        cases f i <;> simp
      have h0 := (hg i0 hi0).mp fi0
      by_cases h : a + m < n
      · refine ⟨a + m, h, n - m, by omega, by omega, fun i hi => ?_⟩
        rw [hg i hi]
        omega
      · refine ⟨0, by omega, a, by omega, by omega, fun i hi => ?_⟩
        rw [hg i hi]
        omega
/-- the law's number of all arcs -/
theorem arcs_bit {r : List Nat} {n b : Nat} (hn : r.length = n) (nd : r.Nodup) (hr : ∀ i ∈ r, i < n) (all : ∀ k, k < n → k ∈ r) (hb : b < 2 ^ n) : (arcsF r (List.range n) 0).testBit b = true ↔ Cyc n fun i => b.testBit (r.getD i 0) := by
  rw [tb_arcsF]
  have key : ∀ a, a < n → ∀ m, m ≤ n → (b = bitsOf ((rotA r a).take m) 0 ↔ ∀ i, i < n → (b.testBit (r.getD i 0) = true ↔ ((a ≤ i ∧ i < a + m) ∨ i + n < a + m))) := fun a ha m hm => by
    constructor
    · intro e i hi
      have hi' : i < r.length := by omega
      have := rot_mem nd (a := a) (m := m) (i := i) (by omega) (by omega) hi'
      rw [hn] at this
      rw [← this]
      rw [List.getD_eq_getElem?_getD, List.getElem?_eq_getElem hi']
      conv => lhs; rw [e, tb_bits]
      simp
    · intro h
      refine Nat.eq_of_testBit_eq fun k => ?_
      rw [tb_bits, Nat.zero_testBit, Bool.false_or]
      by_cases hk : k < n
      · obtain ⟨i, hi', e⟩ := List.mem_iff_getElem.mp (all k hk)
        have := rot_mem nd (a := a) (m := m) (i := i) (by omega) (by omega) hi'
        rw [hn, ← h i (by omega), List.getD_eq_getElem?_getD, List.getElem?_eq_getElem hi', Option.getD_some, e] at this
        cases hx : b.testBit k with
        | true => exact (decide_eq_true (this.mpr hx)).symm
        | false =>
          symm
          rw [decide_eq_false_iff_not]
          intro z
          have := this.mp z
          rw [hx] at this
          cases this
      · rw [Nat.testBit_lt_two_pow (Nat.lt_of_lt_of_le hb (Nat.pow_le_pow_right (by decide) (by omega)))]
        symm
        rw [decide_eq_false_iff_not]
        intro z
        have := List.mem_of_mem_take z
        unfold rotA at this
        refine hk (hr k ?_)
        rcases List.mem_append.mp this with h | h
        · exact List.mem_of_mem_drop h
        · exact List.mem_of_mem_take h
  constructor
  · rintro (h | ⟨a, ha, m, m1, m2, e⟩)
    · simp at h
    · have ha := List.mem_range.mp ha
      rw [rot_len r (by omega), hn] at m2
      exact ⟨a, ha, m, m1, m2, (key a ha m m2).mp e⟩
  · rintro ⟨a, ha, m, m1, m2, h⟩
    exact .inr ⟨a, List.mem_range.mpr ha, m, m1, by rw [rot_len r (by omega), hn]; exact m2, (key a ha m m2).mpr h⟩
/-- or of numbers -/
theorem or_add_and (x y : Nat) : (x ||| y) + (x &&& y) = x + y := by
  induction x using Nat.strongRecOn generalizing y with
  | ind x ih =>
    by_cases hx : x = 0
    · subst hx; simp
    · have := ih (x / 2) (by omega) (y / 2)
      have e1 : (x ||| y) / 2 = x / 2 ||| y / 2 := Nat.or_div_two ..
      have e2 : (x &&& y) / 2 = x / 2 &&& y / 2 := Nat.and_div_two ..
      have e3 : (x ||| y) % 2 = (x % 2 ||| y % 2) := by
        have := Nat.or_mod_two_pow (a := x) (b := y) (n := 1)
        simpa using this
      have e4 : (x &&& y) % 2 = (x % 2 &&& y % 2) := by
        have := Nat.and_mod_two_pow (a := x) (b := y) (n := 1)
        simpa using this
      generalize x ||| y = u at *
      generalize x &&& y = v at *
      generalize x / 2 ||| y / 2 = u2 at *
      generalize x / 2 &&& y / 2 = v2 at *
      rcases Nat.mod_two_eq_zero_or_one x with a | a <;> rcases Nat.mod_two_eq_zero_or_one y with c | c <;> rw [a, c] at e3 e4 <;> simp at e3 e4 <;> omega
theorem bitAnd_nat (x y : Nat) : Builtin.bitAnd (x : Int) (y : Int) = ((x &&& y : Nat) : Int) := by
  rw [PyProof.Rows.bitAnd_pp (by omega) (by omega), Int.toNat_natCast, Int.toNat_natCast]
theorem bitOr_nat (x y : Nat) : Builtin.bitOr (x : Int) (y : Int) = ((x ||| y : Nat) : Int) := by
  rw [PyProof.Rows.bitOr_and, bitAnd_nat]
  have := or_add_and x y
  omega
section
variable {st : S} {Q : D → S → Prop}
theorem o_shl1 {k : Nat} (h : k ≤ 1000000) (q : Q (.int ((1 <<< k : Nat) : Int)) st) : Ok (shlD (.int 1) (.int (k : Nat)) st) Q := by
  refine ⟨_, _, ?_, q⟩
  unfold shlD intD
  dsimp only [view]
  rw [if_pos (by simp only [Bool.and_eq_true, decide_eq_true_eq]; exact ⟨by omega, by omega, by decide⟩), Nat.one_shiftLeft, Int.toNat_natCast, Int.natCast_pow, Int.one_mul]
  rfl
theorem o_bor {x y : Nat} (q : Q (.int ((x ||| y : Nat) : Int)) st) : Ok (borD (.int (x : Nat)) (.int (y : Nat)) st) Q := by
  refine ⟨_, _, ?_, q⟩
  unfold borD intD
  dsimp only [view]
  rw [if_pos rfl, bitOr_nat]
theorem o_band {x y : Nat} (q : Q (.int ((x &&& y : Nat) : Int)) st) : Ok (bandD (.int (x : Nat)) (.int (y : Nat)) st) Q := by
  refine ⟨_, _, ?_, q⟩
  unfold bandD intD
  dsimp only [view]
  rw [if_pos rfl, bitAnd_nat]
theorem o_shr {x k : Nat} (q : Q (.int ((x >>> k : Nat) : Int)) st) : Ok (shrD (.int (x : Nat)) (.int (k : Nat)) st) Q := by
  refine ⟨_, _, ?_, q⟩
  unfold shrD intD
  dsimp only [view]
  rw [if_pos (decide_eq_true (by omega)), Nat.shiftRight_eq_div_pow, Int.toNat_natCast, Int.natCast_ediv, Int.natCast_pow]
  rfl
/-- (x >> k) & 1 == 1 -/
theorem bit_is (x k : Nat) : decide (((x >>> k &&& 1 : Nat) : Int) = 1) = x.testBit k := by
  rw [Nat.testBit, Nat.and_comm]
  have h : 1 &&& (x >>> k) = (x >>> k) % 2 := by rw [Nat.and_comm]; exact Nat.and_one_is_mod _
  rw [h]
  rcases Nat.mod_two_eq_zero_or_one (x >>> k) with e | e <;> rw [e] <;> rfl
theorem o_band1 {x : Nat} (q : Q (.int ((x &&& 1 : Nat) : Int)) st) : Ok (bandD (.int (x : Nat)) (.int 1) st) Q := o_band (y := 1) q
end
end
section
set_option maxHeartbeats 1000000
/-! k51: arcs, lots by bits, the lots asked. -/

open PySem L2 DL Co


section
variable {st : S} {Q : D → S → Prop}
theorem law_arcs_ok {r : List Nat} {n : Nat} (hn : r.length = n) (hr : ∀ i ∈ r, i < n) (h12 : n ≤ 12) (q : Q (.int ((arcsF r (List.range n) 0 : Nat) : Int)) st) : Ok (sem__law_arcs [.lst (r.map nI)] st) Q := by
  refine ok_sem rfl ?_
  unfold den__law_arcs
  walk_at "u"
  rw [List.length_map, hn]
  refine range1_ok (by omega) (by omega) ?_
  rw [Int.toNat_natCast]
  have bits : ∀ b k : Nat, b < 2 ^ n → k < n → b ||| 1 <<< k < 2 ^ n := fun b k hb hk => Nat.or_lt_two_pow hb (by rw [Nat.one_shiftLeft]; exact Nat.pow_lt_pow_right (by decide) hk)
  have big : 2 ^ n ≤ 4096 := Nat.pow_le_pow_right (n := 2) (by decide) h12
  refine go_for (fun ds ρ s => s = st ∧ ∃ as f y2 y3 y4, ds = as.map nI ∧ (∀ a ∈ as, a < n) ∧ arcsF r as f = arcsF r (List.range n) 0 ∧ ρ = [.sh (.lst (r.map nI)), .sh (.int ((f : Nat) : Int)), y2, y3, y4]) ⟨rfl, List.range n, 0, _, _, _, rfl, fun a h => List.mem_range.mp h, rfl, rfl⟩ ?_ ?_
  · rintro d ds ρ s ⟨rfl, as, f, y2, y3, y4, e, ha, eF, rfl⟩
    cases as with
    | nil => cases e
    | cons a as =>
      rw [List.map_cons] at e
      injection e with e1 e2
      subst e1
      have a1 := ha a List.mem_cons_self
      refine ⟨_, rfl, ?_⟩
      unfold nI
      walk_at "u"
      rw [cutL_lo, cutL_hi]
      refine addL_ok (small (by rw [List.length_drop, List.length_take, List.length_map]; omega)) ?_
      walk_at "u"
      refine go_for (fun ds ρ s' => s' = s ∧ ∃ ks p y4, ds = ks.map nI ∧ (∀ k ∈ ks, k < n) ∧ p.2 < 2 ^ n ∧ arcIn ks p = arcIn (rotA r a) (f, 0) ∧ ρ = [.sh (.lst (r.map nI)), .sh (.int ((p.1 : Nat) : Int)), .sh (.int (a : Nat)), .sh (.int ((p.2 : Nat) : Int)), y4]) ⟨rfl, rotA r a, (f, 0), _, ?_, ?_, Nat.two_pow_pos n, rfl, rfl⟩ ?_ ?_
      · unfold rotA
        rw [List.map_append, List.map_drop, List.map_take]
        rfl
      · intro k hk
        rcases List.mem_append.mp hk with h | h
        · exact hr k (List.mem_of_mem_drop h)
        · exact hr k (List.mem_of_mem_take h)
      · rintro d ds ρ s' ⟨rfl, ks, p, y4, e, hk, hp, eI, rfl⟩
        cases ks with
        | nil => cases e
        | cons k ks =>
          rw [List.map_cons] at e
          injection e with e1 e3
          subst e1
          have k1 := hk k List.mem_cons_self
          have b1 := bits p.2 k hp k1
          refine ⟨_, rfl, ?_⟩
          unfold nI
          walk_at "u"
          refine o_shl1 (by omega) (o_bor ?_)
          walk_at "u"
          refine o_shl1 (by omega) (o_bor ?_)
          exact ⟨rfl, ks, (p.1 ||| 1 <<< (p.2 ||| 1 <<< k), p.2 ||| 1 <<< k), _, e3, fun k h => hk k (List.mem_cons_of_mem _ h), b1, eI, rfl⟩
      · rintro ρ s' ⟨rfl, ks, p, y4, e, hk, hp, eI, rfl⟩
        cases ks with
        | cons k ks => cases e
        | nil =>
          refine ⟨rfl, as, p.1, _, _, _, e2, fun a h => ha a (List.mem_cons_of_mem _ h), ?_, rfl⟩
          rw [← eF]
          show arcsF r as p.1 = arcsF r as (arcIn (rotA r a) (f, 0)).1
          rw [← eI]
          rfl
  · rintro ρ s ⟨rfl, as, f, y2, y3, y4, e, ha, eF, rfl⟩
    cases as with
    | cons a as => cases e
    | nil =>
      walk_at "u"
      rw [← eF] at q
      exact q
/-- the lot whose finds have these bits -/
def lotN (ns : List Str) (b : Nat) : List Str := ((List.range ns.length).filter fun k => b.testBit k).map (nmA ns)
theorem law_lot2_ok {ns : List Str} {b : Nat} (hl : ns.length ≤ 60) (q : Q (tupS (lotN ns b)) st) : Ok (sem__law_lot_2 [.lst (ns.map .str), .int (b : Nat)] st) Q := by
  refine ok_sem rfl ?_
  unfold den__law_lot_2
  walk_at "u"
  rw [List.length_map]
  refine range1_ok (by omega) (by omega) ?_
  rw [Int.toNat_natCast]
  refine ⟨small (by rw [List.length_map, List.length_range]; omega), ?_⟩
  refine ok_eq (comp_filt (fun i => nI i) (fun i => D.str (nmA ns i)) (fun k => b.testBit k) fun i hi => ⟨_, rfl, eq_of ?_, fun _ => eq_of ?_⟩) ?_
  · unfold nI
    walk_at "u"
    refine o_shr ?_
    walk_at "u"
    refine o_band1 ?_
    walk_at "u"
    exact ⟨bit_is b i, rfl⟩
  · unfold nI
    walk_at "u"
    refine ixL_ok (d := .str (nmA ns i)) (atI_int (by omega) (by rw [Int.toNat_natCast, List.getElem?_map, nmA_get (List.mem_range.mp hi)]; rfl)) ⟨rfl, rfl⟩
  · walk_at "u"
    unfold tupS lotN at q
    rw [List.map_map] at q
    exact q
theorem law_lex_ok {n : Nat} (h1 : 1 ≤ n) (h : n ≤ 6) (q : ∀ bs : List Nat, (∀ b ∈ bs, 1 ≤ b ∧ b < 2 ^ n) → bs.length ≤ 64 → Q (.lst (bs.map nI)) st) : Ok (sem__law_lex [.int (n : Nat)] st) Q := by
  refine ok_sem rfl ?_
  unfold den__law_lex
  walk_at "u"
  refine range1_ok (by omega) (by omega) ?_
  rw [Int.toNat_natCast, List.range_eq_range']
  refine go_for (fun ds ρ s => s = st ∧ ∃ (k m : Nat) (bs : List Nat) (y2 y3 y4 : Sl), k + m = n ∧ ds = (List.range' k m).map (fun (i : Nat) => .int (i : Nat)) ∧ (∀ b ∈ bs, 1 ≤ b ∧ b < 2 ^ n) ∧ bs.length + 1 = 2 ^ k ∧ ρ = [.sh (.int (n : Nat)), .sh (.lst (bs.map nI)), y2, y3, y4]) ⟨rfl, 0, n, [], _, _, _, by omega, rfl, (fun _ z => by cases z), rfl, rfl⟩ ?_ ?_
  · rintro d ds ρ s ⟨rfl, k, m, bs, y2, y3, y4, e1, e2, hb, hl, rfl⟩
    cases m with
    | zero => cases e2
    | succ m =>
      rw [List.range'_succ, List.map_cons] at e2
      injection e2 with e7 e8
      subst e7
      have hk : k < n := by omega
      have p6 : 2 ^ (k + 1) ≤ 64 := Nat.pow_le_pow_right (n := 2) (by decide) (show k + 1 ≤ 6 by omega)
      have p7 : 2 ^ (k + 1) = 2 ^ k + 2 ^ k := by rw [Nat.pow_succ]; omega
      have one : 1 ≤ 1 <<< (n - 1 - k) ∧ 1 <<< (n - 1 - k) < 2 ^ n := by
        rw [Nat.one_shiftLeft]
        exact ⟨Nat.two_pow_pos _, Nat.pow_lt_pow_right (by decide) (by omega)⟩
      refine ⟨_, rfl, ?_⟩
      walk_at "u"
      rw [show ((n : Nat) : Int) - 1 - ((k : Nat) : Int) = ((n - 1 - k : Nat) : Int) by omega]
      refine o_shl1 (by omega) ?_
      walk_at "u"
      refine ok_eq (comp_of (fun i => nI i) (fun i => nI (1 <<< (n - 1 - k) ||| i)) fun i hi => ⟨_, rfl, eq_of ?_⟩) ?_
      · unfold nI
        walk_at "u"
        exact o_bor ⟨rfl, rfl⟩
      walk_at "u"
      refine addL_ok (small (by simp only [List.length_map, List.length_cons, List.length_nil]; omega)) ?_
      walk_at "u"
      refine addL_ok (small (by simp; omega)) ?_
      refine ⟨rfl, k + 1, m, (1 <<< (n - 1 - k)) :: bs.map (fun i => 1 <<< (n - 1 - k) ||| i) ++ bs, .sh (.int (k : Nat)), .sh (.int ((1 <<< (n - 1 - k) : Nat) : Int)), y4, by omega, e8, ?_, ?_, ?_⟩
      · intro b hb2
        rcases List.mem_append.mp hb2 with h2 | h2
        · rcases List.mem_cons.mp h2 with rfl | h2
          · exact one
          · obtain ⟨i, hi, rfl⟩ := List.mem_map.mp h2
            have := hb i hi
            have o1 : 1 <<< (n - 1 - k) ≤ 1 <<< (n - 1 - k) ||| i := Nat.left_le_or
            exact ⟨by omega, Nat.or_lt_two_pow one.2 this.2⟩
        · exact hb b h2
      · simp only [List.length_append, List.length_cons, List.length_map]
        omega
      · simp only [List.map_append, List.map_cons, List.map_map]
        rfl
  · rintro ρ s ⟨rfl, k, m, bs, y2, y3, y4, e1, e2, hb, hl, rfl⟩
    cases m with
    | succ m => rw [List.range'_succ, List.map_cons] at e2; cases e2
    | zero =>
      walk_at "u"
      have p6 : 2 ^ k ≤ 64 := Nat.pow_le_pow_right (n := 2) (by decide) (show k ≤ 6 by omega)
      exact q bs hb (by omega)
end
theorem some_lots_ok {tl : S × S} {st : S} {n : Nat} (h : Bh tl st) (h1 : 1 ≤ n) (h12 : n ≤ 12) : Ok (sem__law_some_lots [.ref tl.1.length, .int (n : Nat), .int 24] st) fun d s => Bh tl s ∧ ∃ bs : List Nat, d = .lst (bs.map nI) ∧ (∀ b ∈ bs, 1 ≤ b ∧ b < 2 ^ n) ∧ bs.length ≤ 64 := by
  refine ok_sem rfl ?_
  unfold den__law_some_lots
  walk_at "u"
  refine ⟨fun hn => ?_, fun hn => ?_⟩
  · walk_at "u"
    exact law_lex_ok h1 (by have := of_decide_eq_true hn; omega) fun bs hb hl => ⟨h, bs, rfl, hb, hl⟩
  · walk_at "u"
    refine range1_ok (by decide) (by decide) ?_
    refine ⟨small (by rw [List.length_map, List.length_range]; decide), ?_⟩
    have big : 2 ^ n ≤ 4096 := Nat.pow_le_pow_right (n := 2) (by decide) h12
    have two : 2 ≤ 2 ^ n := Nat.le_trans (show 2 ≤ 2 ^ 1 by decide) (Nat.pow_le_pow_right (n := 2) (by decide) h1)
    refine (comp_ok (Bh tl) (fun _ y => ∃ b : Nat, y = nI b ∧ 1 ≤ b ∧ b < 2 ^ n) h fun d _ s h => ⟨_, rfl, ?_⟩).mono ?_
    · walk_at "u"
      refine o_shl1 (by omega) ?_
      rw [Nat.one_shiftLeft]
      walk_at "u"
      refine (draw2_ok h (by omega) (by omega)).mono ?_
      rintro _ s ⟨h, k, rfl, k0, k1⟩
      walk_at "u"
      refine ⟨h, (1 + k).toNat, ?_, by omega, by omega⟩
      unfold nI
      rw [Int.toNat_of_nonneg (by omega)]
    · rintro ys s ⟨h, hp⟩
      have key : ∀ {ds ys : List D}, Paired (fun _ y => ∃ b : Nat, y = nI b ∧ 1 ≤ b ∧ b < 2 ^ n) ds ys → ∃ bs : List Nat, ys = bs.map nI ∧ (∀ b ∈ bs, 1 ≤ b ∧ b < 2 ^ n) ∧ bs.length = ds.length := by
        intro ds ys hp
        induction hp with
        | nil => exact ⟨[], rfl, (fun _ z => by cases z), rfl⟩
        | cons h _ ih =>
          obtain ⟨b, rfl, hb⟩ := h
          obtain ⟨bs, rfl, hbs, hl⟩ := ih
          refine ⟨b :: bs, rfl, fun c hc => ?_, by simp [hl]⟩
          rcases List.mem_cons.mp hc with rfl | hc
          · exact hb
          · exact hbs c hc
      obtain ⟨bs, rfl, hbs, hl⟩ := key hp
      refine ⟨h, bs, rfl, hbs, ?_⟩
      rw [hl, List.length_map, List.length_range]
      decide
end
section
set_option maxHeartbeats 1000000
/-! k51: arcs judged. -/

open PySem L2 DL Co


section
variable {ns : List Str} {b : Nat}
theorem mem_lotN (nd : ns.Nodup) {k : Nat} (hk : k < ns.length) : nmA ns k ∈ lotN ns b ↔ b.testBit k = true := by
  unfold lotN
  rw [List.mem_map]
  constructor
  · rintro ⟨j, hj, e⟩
    rw [List.mem_filter, List.mem_range] at hj
    have h1 := nmA_get hj.1
    have h2 := nmA_get hk
    rw [e] at h1
    obtain ⟨g1, e1⟩ := List.getElem?_eq_some_iff.mp h1
    obtain ⟨g2, e2⟩ := List.getElem?_eq_some_iff.mp h2
    have : j = k := by
      by_cases h : j = k
      · exact h
      · exfalso
        rcases Nat.lt_or_gt_of_ne h with q | q
        · exact List.pairwise_iff_getElem.mp nd j k g1 g2 q (e1.trans e2.symm)
        · exact List.pairwise_iff_getElem.mp nd k j g2 g1 q (e2.trans e1.symm)
    rw [← this]
    exact hj.2
  · exact fun h => ⟨k, List.mem_filter.mpr ⟨List.mem_range.mpr hk, h⟩, rfl⟩
theorem lotN_sub : (lotN ns b).Sublist ns := by
  have e : ns = (List.range ns.length).map (nmA ns) := by
    refine List.ext_getElem? fun i => ?_
    rw [List.getElem?_map]
    by_cases h : i < ns.length
    · rw [List.getElem?_range h, nmA_get h]
      rfl
    · rw [List.getElem?_eq_none (by omega), List.getElem?_eq_none (by rw [List.length_range]; omega)]
      rfl
  unfold lotN
  conv => rhs; rw [e]
  exact (List.filter_sublist).map _
theorem lotN_lot (nm : ∀ x ∈ ns, Nm x) (asc : ns.Pairwise fun a b => ltS a b = true) (h1 : 1 ≤ b) (h2 : b < 2 ^ ns.length) : Lot (lotN ns b) := by
  refine ⟨?_, fun x hx => nm x (lotN_sub.subset hx), asc.sublist lotN_sub⟩
  intro e
  have : b = 0 := Nat.eq_of_testBit_eq fun k => by
    rw [Nat.zero_testBit]
    by_cases hk : k < ns.length
    · cases hb : b.testBit k with
      | false => rfl
      | true =>
        have : nmA ns k ∈ lotN ns b := List.mem_map.mpr ⟨k, List.mem_filter.mpr ⟨List.mem_range.mpr hk, hb⟩, rfl⟩
        rw [e] at this
        cases this
    · exact Nat.testBit_lt_two_pow (Nat.lt_of_lt_of_le h2 (Nat.pow_le_pow_right (by decide) (by omega)))
  omega
theorem asc_nd (asc : ns.Pairwise fun a b => ltS a b = true) : ns.Nodup := asc.imp fun {a b} h e => by
  rw [e, ltS_irrefl] at h
  cases h
/-- a lot is kept exactly if its places are a stretch -/
theorem keep_itv {p ls a m c : List Str} (h : OC p ls a m c) : (gapS ls m).isEmpty = true ↔ Itv p.length fun i => decide (p.getD i (T []) ∈ ls) := by
  have hall : (gapS ls m).isEmpty = true ↔ ∀ x ∈ m, x ∈ ls := by
    unfold gapS
    rw [List.isEmpty_iff, List.filter_eq_nil_iff]
    constructor
    · intro h x hx
      have := h x hx
      simpa using this
    · intro h x hx
      simp [h x hx]
  have hp := h.e
  have lp : p.length = a.length + m.length + c.length := by rw [hp]; simp only [List.length_append]
  have inn : ∀ i, i < p.length → (p.getD i (T []) ∈ ls → a.length ≤ i ∧ i < a.length + m.length) := fun i hi hx => by
    have na := h.c.na
    have nb := h.c.nb
    constructor
    · refine Nat.le_of_not_lt fun hlt => ?_
      have : p.getD i (T []) ∈ a := by rw [hp, List.append_assoc]; exact getD_lo hlt
      have := na _ this
      unfold inP at this
      rw [decide_eq_false_iff_not] at this
      exact this hx
    · refine Nat.lt_of_not_le fun hle => ?_
      have : p.getD i (T []) ∈ c := by rw [hp]; exact getD_hi (by rw [List.length_append]; exact hle) (by rw [← hp]; exact hi)
      have := nb _ this
      unfold inP at this
      rw [decide_eq_false_iff_not] at this
      exact this hx
  have mid : ∀ i, i < m.length → p.getD (a.length + i) (T []) = m.getD i (T []) := fun i hi => by rw [hp]; exact getD_mid hi
  have mem : ∀ i, i < m.length → m.getD i (T []) ∈ m := fun i hi => by
    rw [List.getD_eq_getElem?_getD, List.getElem?_eq_getElem hi]
    exact List.getElem_mem hi
  obtain ⟨y, r, em, hy⟩ := h.c.hd
  obtain ⟨s, z, em2, hz⟩ := h.c.lt
  have mpos : 1 ≤ m.length := by rw [em]; simp
  have f0 : p.getD (a.length + 0) (T []) ∈ ls := by
    rw [mid 0 (by omega), em]
    exact of_decide_eq_true hy
  have f1 : p.getD (a.length + (m.length - 1)) (T []) ∈ ls := by
    rw [mid _ (by omega), em2]
    have : (s ++ [z]).getD ((s ++ [z]).length - 1) (T []) = z := by
      rw [List.getD_eq_getElem?_getD, List.length_append, List.length_singleton, Nat.add_sub_cancel, List.getElem?_append_right (Nat.le_refl _), Nat.sub_self]
      rfl
    rw [this]
    exact of_decide_eq_true hz
  rw [hall]
  constructor
  · intro hm
    refine ⟨a.length, m.length, mpos, by omega, fun i hi => ?_⟩
    rw [decide_eq_true_eq]
    constructor
    · exact inn i hi
    · rintro ⟨h1, h2⟩
      have := mid (i - a.length) (by omega)
      rw [show a.length + (i - a.length) = i by omega] at this
      rw [this]
      exact hm _ (mem _ (by omega))
  · rintro ⟨a', m', h1, h2, hf⟩ x hx
    obtain ⟨i, hi, e⟩ := List.mem_iff_getElem.mp hx
    have g0 := (hf (a.length + 0) (by omega)).mp (decide_eq_true f0)
    have g1 := (hf (a.length + (m.length - 1)) (by omega)).mp (decide_eq_true f1)
    have := of_decide_eq_true ((hf (a.length + i) (by omega)).mpr ⟨by omega, by omega⟩)
    rw [mid i hi, List.getD_eq_getElem?_getD, List.getElem?_eq_getElem hi, Option.getD_some, e] at this
    exact this
theorem Itv.congr {n : Nat} {f g : Nat → Bool} (h : ∀ i, i < n → f i = g i) : Itv n f ↔ Itv n g := by
  constructor
  · rintro ⟨a, m, h1, h2, h3⟩
    exact ⟨a, m, h1, h2, fun i hi => by rw [← h i hi]; exact h3 i hi⟩
  · rintro ⟨a, m, h1, h2, h3⟩
    exact ⟨a, m, h1, h2, fun i hi => by rw [h i hi]; exact h3 i hi⟩
/-- a ring of places -/
structure RingP (n : Nat) (r : List Nat) : Prop where
  len : r.length = n
  nd : r.Nodup
  lt : ∀ i ∈ r, i < n
  all : ∀ k, k < n → k ∈ r
theorem k_keepB {p ls : List Str} {st : S} {Q : D → S → Prop} (nd : p.Nodup) (lp : p.length ≤ 60) (nl : ls.Nodup) (hs : ∀ x ∈ ls, x ∈ p) (h0 : ls ≠ []) (q : ∀ v : Bool, (v = true ↔ Itv p.length fun i => decide (p.getD i (T []) ∈ ls)) → Q (.bl v) st) : Ok (sem_keeps [tupS p, tupS ls] st) Q := by
  obtain ⟨y, hy⟩ := List.exists_mem_of_ne_nil _ h0
  obtain ⟨a, m, c, e, hc⟩ := cut_of (p := inP ls) (xs := p) ⟨y, hs y hy, decide_eq_true hy⟩
  have oc : OC p ls a m c := ⟨e, hc⟩
  exact k_keeps oc lp nd nl hs (q _ (keep_itv oc))
theorem is_arc_ok {n : Nat} {r : List Nat} {st : S} {Q : D → S → Prop} (hn : ns.length = n) (n12 : n ≤ 12) (nm : ∀ x ∈ ns, Nm x) (asc : ns.Pairwise fun a b => ltS a b = true) (R : RingP n r) (h1 : 1 ≤ b) (h2 : b < 2 ^ n) (q : Q (.bl ((arcsF r (List.range n) 0).testBit b)) st) : Ok (sem_is_arc [tupS (ordA ns r), tupS (lotN ns b)] st) Q := by
  have nd := asc_nd asc
  have hr : ∀ i ∈ r, i < ns.length := fun i hi => by rw [hn]; exact R.lt i hi
  have pnd := ordA_nd nd hr R.nd
  have pm : (ordA ns r).Perm ns := by
    have e : ns = (List.range ns.length).map (nmA ns) := by
      refine List.ext_getElem? fun i => ?_
      rw [List.getElem?_map]
      by_cases h : i < ns.length
      · rw [List.getElem?_range h, nmA_get h]
        rfl
      · rw [List.getElem?_eq_none (by omega), List.getElem?_eq_none (by rw [List.length_range]; omega)]
        rfl
    unfold ordA
    conv => rhs; rw [e]
    refine List.Perm.map _ ?_
    refine (perm_of_sub (List.nodup_range) (fun x hx => R.all x (by rw [← hn]; exact List.mem_range.mp hx)) (by rw [List.length_range, R.len, hn])).symm
  have lp : (ordA ns r).length = n := by rw [pm.length_eq, hn]
  have hso : sortS (ordA ns r) = ns := by
    rw [sortS_congr pm]
    refine ((sortS_perm ns).eq_of_pairwise (le := fun a b => ltS a b = true) (fun a b _ _ h1 h2 => ?_) (sortS_pw nd) asc)
    rw [ltS_asymm h1] at h2
    cases h2
  have pgd : ∀ i, i < n → (ordA ns r).getD i (T []) = nmA ns (r.getD i 0) ∧ r.getD i 0 < n := fun i hi => by
    have hi' : i < r.length := by rw [R.len]; exact hi
    unfold ordA
    rw [List.getD_eq_getElem?_getD, List.getElem?_map, List.getElem?_eq_getElem hi', List.getD_eq_getElem?_getD, List.getElem?_eq_getElem hi']
    exact ⟨rfl, R.lt _ (List.getElem_mem hi')⟩
  have L := lotN_lot nm asc h1 (by rw [hn]; exact h2)
  have sub : ∀ x ∈ lotN ns b, x ∈ ordA ns r := fun x hx => pm.mem_iff.mpr (lotN_sub.subset hx)
  have f1 : ∀ i, i < n → decide ((ordA ns r).getD i (T []) ∈ lotN ns b) = b.testBit (r.getD i 0) := fun i hi => by
    obtain ⟨e, hlt⟩ := pgd i hi
    rw [e]
    have := mem_lotN (b := b) nd (k := r.getD i 0) (by rw [hn]; exact hlt)
    cases hb : b.testBit (r.getD i 0) with
    | true => exact decide_eq_true (this.mpr hb)
    | false =>
      rw [decide_eq_false_iff_not, this, hb]
      decide
  have f2 : ∀ i, i < n → decide ((ordA ns r).getD i (T []) ∈ lessS ns (lotN ns b)) = !b.testBit (r.getD i 0) := fun i hi => by
    rw [← f1 i hi]
    obtain ⟨e, hlt⟩ := pgd i hi
    rw [e]
    have hm : nmA ns (r.getD i 0) ∈ ns := List.mem_of_getElem? (nmA_get (by rw [hn]; exact hlt))
    unfold lessS
    generalize nmA ns (r.getD i 0) = x at hm
    by_cases h : x ∈ lotN ns b
    · simp [h]
    · simp [h, hm]
  have bit := arcs_bit R.len R.nd R.lt R.all h2
  have ex : ∃ i, i < n ∧ b.testBit (r.getD i 0) = true := by
    obtain ⟨y, hy⟩ := List.exists_mem_of_ne_nil _ L.ne
    obtain ⟨i, hi, e⟩ := List.mem_iff_getElem.mp (sub y hy)
    refine ⟨i, by omega, ?_⟩
    rw [← f1 i (by omega), List.getD_eq_getElem?_getD, List.getElem?_eq_getElem hi]
    exact decide_eq_true (by rw [Option.getD_some, e]; exact hy)
  have cyc := cyc_itv ex
  refine ok_sem rfl ?_
  unfold den_is_arc
  walk_at "u"
  unfold tupS
  walk_at "u"
  refine o_sortT ?_
  rw [hso]
  walk_at "u"
  refine k_rest (p := ns) (q := lotN ns b) (by omega) ?_
  walk_at "u"
  have nless : ∀ x ∈ lessS ns (lotN ns b), Nm x := fun x hx => nm x (List.mem_filter.mp hx).1
  have lless : (lessS ns (lotN ns b)).length ≤ 12 := by
    have := List.length_filter_le (fun x => !decide (x ∈ lotN ns b)) ns
    unfold lessS
    omega
  refine k_eqT nless (by omega) ?_
  walk_at "u"
  refine ⟨fun he => ?_, fun he => ?_⟩
  · rw [he]
    have hall : ∀ i, i < n → b.testBit (r.getD i 0) = true := fun i hi => by
      have := f2 i hi
      rw [List.isEmpty_iff.mp he] at this
      cases hb : b.testBit (r.getD i 0) with
      | true => rfl
      | false =>
        rw [hb] at this
        simp at this
    rw [bit.mpr (cyc.mpr (.inl hall))] at q
    exact q
  · have hne : lessS ns (lotN ns b) ≠ [] := fun e => by rw [e] at he; cases he
    have nall : ¬ ∀ i, i < n → b.testBit (r.getD i 0) = true := fun hall => by
      obtain ⟨y, hy⟩ := List.exists_mem_of_ne_nil _ hne
      have hy' := pm.mem_iff.mpr (List.mem_filter.mp hy).1
      obtain ⟨i, hi, e⟩ := List.mem_iff_getElem.mp hy'
      have := f2 i (by omega)
      rw [List.getD_eq_getElem?_getD, List.getElem?_eq_getElem hi, Option.getD_some, e, hall i (by omega), decide_eq_true hy] at this
      cases this
    walk_at "u"
    refine k_keepB pnd (by omega) L.nd sub L.ne fun v hv => ?_
    rw [lp, Itv.congr f1] at hv
    walk_at "u"
    refine ⟨fun ht => ?_, fun hf => ?_⟩
    · rw [ht]
      rw [bit.mpr (cyc.mpr (.inr (.inl (hv.mp ht))))] at q
      exact q
    · walk_at "u"
      refine k_keepB pnd (by omega) (nd.sublist List.filter_sublist) (fun x hx => pm.mem_iff.mpr (List.mem_filter.mp hx).1) hne fun w hw => ?_
      rw [lp, Itv.congr f2] at hw
      have e : (arcsF r (List.range n) 0).testBit b = w := by
        rw [Bool.eq_iff_iff, bit, cyc, hw]
        constructor
        · rintro (h | h | h)
          · exact absurd h nall
          · rw [← hv, hf] at h
            cases h
          · exact h
        · exact fun h => .inr (.inr h)
      rw [e] at q
      exact q
/-- an arc's rest -/
theorem arc_rest {n : Nat} {r : List Nat} (R : RingP n r) (h1 : 1 ≤ b) (h2 : b < 2 ^ n - 1) : (arcsF r (List.range n) 0).testBit (2 ^ n - 1 - b) = (arcsF r (List.range n) 0).testBit b := by
  have e : 2 ^ n - 1 - b = 2 ^ n - (b + 1) := by omega
  have tb : ∀ k, k < n → (2 ^ n - 1 - b).testBit k = !b.testBit k := fun k hk => by
    rw [e, Nat.testBit_two_pow_sub_succ (by omega), decide_eq_true hk, Bool.true_and]
  have gl : ∀ i, i < n → r.getD i 0 < n := fun i hi => by
    have hi' : i < r.length := by rw [R.len]; exact hi
    rw [List.getD_eq_getElem?_getD, List.getElem?_eq_getElem hi']
    exact R.lt _ (List.getElem_mem hi')
  have exg : ∀ c : Nat, c ≠ 0 → c < 2 ^ n → ∃ i, i < n ∧ c.testBit (r.getD i 0) = true := fun c h0 hc => by
    obtain ⟨k, hk⟩ : ∃ k, c.testBit k = true := by
      by_cases h : ∃ k, c.testBit k = true
      · exact h
      · exfalso
        refine h0 (Nat.eq_of_testBit_eq fun k => ?_)
        rw [Nat.zero_testBit]
        cases hb : c.testBit k with
        | false => rfl
        | true => exact absurd ⟨k, hb⟩ h
    have kn : k < n := by
      refine Nat.lt_of_not_le fun hle => ?_
      rw [Nat.testBit_lt_two_pow (Nat.lt_of_lt_of_le hc (Nat.pow_le_pow_right (by decide) hle))] at hk
      cases hk
    obtain ⟨i, hi, e⟩ := List.mem_iff_getElem.mp (R.all k kn)
    refine ⟨i, by rw [← R.len]; exact hi, ?_⟩
    rw [List.getD_eq_getElem?_getD, List.getElem?_eq_getElem hi, Option.getD_some, e]
    exact hk
  have b1 := arcs_bit R.len R.nd R.lt R.all (b := b) (by omega)
  have b2 := arcs_bit R.len R.nd R.lt R.all (b := 2 ^ n - 1 - b) (by omega)
  have x1 := exg b (by omega) (by omega)
  have x2 := exg (2 ^ n - 1 - b) (by omega) (by omega)
  have c1 : ∀ i, i < n → (2 ^ n - 1 - b).testBit (r.getD i 0) = !b.testBit (r.getD i 0) := fun i hi => tb _ (gl i hi)
  rw [Bool.eq_iff_iff, b1, b2, cyc_itv x1, cyc_itv x2, Itv.congr c1, Itv.congr (f := fun i => !(2 ^ n - 1 - b).testBit (r.getD i 0)) (g := fun i => b.testBit (r.getD i 0)) fun i hi => by rw [c1 i hi, Bool.not_not]]
  have n1 : ¬ ∀ i, i < n → b.testBit (r.getD i 0) = true := fun h => by
    obtain ⟨i, hi, e⟩ := x2
    rw [c1 i hi, h i hi] at e
    cases e
  have n2 : ¬ ∀ i, i < n → (2 ^ n - 1 - b).testBit (r.getD i 0) = true := fun h => by
    obtain ⟨i, hi, e⟩ := x1
    have := h i hi
    rw [c1 i hi, e] at this
    cases this
  constructor
  · rintro (h | h | h)
    · exact absurd h n2
    · exact .inr (.inr h)
    · exact .inr (.inl h)
  · rintro (h | h | h)
    · exact absurd h n1
    · exact .inr (.inr h)
    · exact .inr (.inl h)
end
end
section
set_option maxHeartbeats 1000000
/-! k51: the law. -/

open PySem L2 DL Co


section
variable {st : S} {Q : D → S → Prop}
theorem hF9_find {d : D} (st : S) : hF__law_try_9 (xFind d) st = .ok (.tup [.str "UnknownFind", .tup [d]]) st := by
  unfold hF__law_try_9 fE__law_try_9 sem__law_fields_8 semX den__law_fields_8
  rfl
theorem opened_no {n : Nat} {p : List Str} {d : D} (hp : pl n d = true) (h : ∀ x, d = .str x → x ∉ p) : OkE (sem_opened [tupS p, d] st) (fun _ _ => False) fun x s => x = xFind d ∧ s = st := by
  refine oke_sem rfl ?_
  unfold den_opened
  refine e_seq (e_setX (x_call (k_cons (k_var rfl (k_cons (k_var rfl (k_nil ?_)))))))
  rw [place_no hp h]
  exact oke_ex ⟨rfl, rfl⟩
theorem raises_ok {n : Nat} {p : List Str} {d : D} {ρ : Ev} {i j : Nat} (e1 : ρ[i]? = some (.sh (tupS p))) (e2 : ρ[j]? = some (.sh d)) (hp : pl n d = true) (hn : n ≤ 9) (h : ∀ x, d = .str x → x ∉ p) (q : Q (.bl true) st) :
    Ok (dRaise "" (okC [34]) hF__law_try_9 (sem__law_same_2 12) (dCall sem_opened (dCons (dVar i) (dCons (dVar j) (dNil)))) (dTup (dCons (dC (.str "UnknownFind")) (dCons (dTup (dCons (dVar j) (dNil))) (dNil)))) ρ st) Q := by
  refine k_raise (k_tup (k_cons (k_c (k_cons (k_tup (k_cons (k_var e2 (k_nil ⟨by simp; decide, k_nil ⟨by simp; decide, ?_⟩⟩)))))))) 
  refine ⟨.tup [.str "UnknownFind", .tup [d]], ?_⟩
  have ht : pl (n + 2) (.tup [.str "UnknownFind", .tup [d]]) = true := pl_tup.mpr ⟨by simp, al_cons rfl (al_cons (pl_tup.mpr ⟨by simp, al_cons hp al_nil⟩) al_nil)⟩
  have e4 : dCall sem_opened (dCons (dVar i) (dCons (dVar j) (dNil))) ρ st = .ex (xFind d) st := by
    have : OkE (dCall sem_opened (dCons (dVar i) (dCons (dVar j) (dNil))) ρ st) (fun _ _ => False) fun x s => x = xFind d ∧ s = st := x_call (k_cons (k_var e1 (k_cons (k_var e2 (k_nil (opened_no hp h))))))
    obtain ⟨x, s, e, h1, h2⟩ := this.ex
    rw [e, h1, h2]
  rw [e4]
  unfold tryD
  dsimp only
  rw [if_pos (show okC [34] (xFind d).c = true from rfl), hF9_find]
  exact ⟨_, _, rfl, rfl, k_sameH ht (by omega) q⟩
end
theorem k_rg1 {ρ : Ev} {st : S} {Q : D → S → Prop} {fb : Ev → S → DL.R D} (h : Ok (fb ρ st) fun y s => ∃ n : Nat, y = .int (n : Nat) ∧ n ≤ 1000000 ∧ Q (.lst ((List.range n).map nI)) s) : Ok (dLstRg1 fb ρ st) Q := by
  unfold dLstRg1
  rw [ok_bind]
  refine h.mono fun y s ⟨n, e, hn, q⟩ => ?_
  subst e
  dsimp only
  rw [if_pos (by unfold rgC; simp only [Bool.and_eq_true, decide_eq_true_eq]; omega)]
  refine ⟨_, _, rfl, ?_⟩
  have e2 : rgD 0 (n : Nat) = (List.range n).map nI := by
    unfold rgD
    rw [show ((n : Nat) : Int) - 0 = (n : Nat) by omega, Int.toNat_natCast]
    refine List.map_congr_left fun i _ => ?_
    unfold nI
    rw [Int.zero_add]
  rw [e2]
  exact q
theorem cutL_init {α : Type} (l : List α) (x : α) : cutL (l ++ [x]) none (some (-1)) = l := by
  unfold cutL
  have e : HT.sIx (l ++ [x]).length (l ++ [x]).length (some (-1)) = l.length := by
    have e0 : HT.sIx (l ++ [x]).length (l ++ [x]).length (some (-1)) = ((-1 : Int) + ((l ++ [x]).length : Int)).toNat := rfl
    rw [e0, List.length_append, List.length_singleton]
    omega
  rw [e, HT.sIx_none, List.drop_zero, Nat.sub_zero, List.take_left]
theorem ordA_perm {ns : List Str} {r : List Nat} {n : Nat} (hn : ns.length = n) (R : RingP n r) : (ordA ns r).Perm ns := by
  have e : ns = (List.range ns.length).map (nmA ns) := by
    refine List.ext_getElem? fun i => ?_
    rw [List.getElem?_map]
    by_cases h : i < ns.length
    · rw [List.getElem?_range h, nmA_get h]
      rfl
    · rw [List.getElem?_eq_none (by omega), List.getElem?_eq_none (by rw [List.length_range]; omega)]
      rfl
  unfold ordA
  conv => rhs; rw [e]
  refine List.Perm.map _ ?_
  exact (perm_of_sub (List.nodup_range) (fun x hx => R.all x (by rw [← hn]; exact List.mem_range.mp hx)) (by rw [List.length_range, R.len, hn])).symm
theorem ring_yes {ns : List Str} {r : List Nat} {n : Nat} (hn : ns.length = n) (R : RingP n r) (h0 : r[0]? = some 0) (n0 : 0 < n) : isRing ns (tupS (ordA ns r)) = true := by
  have pm := ordA_perm hn R
  unfold isRing isOrd tupS
  dsimp only
  rw [strsOf_map]
  dsimp only
  rw [decide_eq_true pm.length_eq, Bool.true_and, List.all_eq_true.mpr fun x hx => decide_eq_true (pm.mem_iff.mpr hx), Bool.true_and]
  cases r with
  | nil => cases h0
  | cons a r =>
    cases h0
    unfold ordA
    rw [List.map_cons, List.map_cons]
    dsimp only
    refine decide_eq_true ?_
    rw [List.head?_eq_getElem?]
    exact nmA_get (by omega)
theorem ring_no {ns : List Str} {ds : List D} {d : D} : isRing ns (.tup (ds ++ [.lst [d]])) = false := by
  unfold isRing isOrd
  dsimp only
  rw [strsOf_none (by rw [List.all_append]; simp [isI])]
  rfl
theorem perm_nI {es : List D} {l : List Nat} (h : es.Perm (l.map nI)) : ∃ ks : List Nat, es = ks.map nI ∧ ks.Perm l := by
  obtain ⟨ks, e⟩ : ∃ ks : List Nat, es = ks.map nI := by
    have : ∀ e ∈ es, ∃ x, e = nI x := fun e he => by
      obtain ⟨x, _, hx⟩ := List.mem_map.mp (h.subset he)
      exact ⟨x, hx.symm⟩
    clear h
    induction es with
    | nil => exact ⟨[], rfl⟩
    | cons e es ih =>
      obtain ⟨x, rfl⟩ := this e List.mem_cons_self
      obtain ⟨ys, rfl⟩ := ih fun e he => this e (List.mem_cons_of_mem _ he)
      exact ⟨x :: ys, rfl⟩
  subst e
  refine ⟨ks, rfl, ?_⟩
  have := h.map (fun d => match d with | .int i => i.toNat | _ => 0)
  rw [List.map_map, List.map_map] at this
  have id2 : ∀ l : List Nat, l.map ((fun d => match d with | .int i => i.toNat | _ => 0) ∘ nI) = l := fun l => by
    conv => rhs; rw [← List.map_id l]
    exact List.map_congr_left fun i _ => Int.toNat_natCast i
  rw [id2, id2] at this
  exact this
/-- the law, whole -/
theorem k51_math (ns : List Int) (hl : ns.length ≤ 63) : ∃ st, Co.sem_law_20 [.scr ns] [] = .ok (.bl true) st := by
  suffices h : Ok (Co.sem_law_20 [.scr ns] []) fun d _ => d = .bl true by
    obtain ⟨d, s, e, rfl⟩ := h
    exact ⟨s, e⟩
  refine ok_sem rfl ?_
  unfold den_law_20
  walk_at "u"
  refine (bag_ok hl).mono ?_
  rintro d s ⟨rfl, h⟩
  walk_at "u"
  refine (pick2_ok (tl := ([], [])) h (by decide) (by decide)).mono ?_
  rintro d s ⟨h, hd⟩
  obtain ⟨m, rfl, m0, m1⟩ : ∃ m : Int, d = .int m ∧ 5 ≤ m ∧ m ≤ 12 := by
    simp only [List.mem_cons, List.not_mem_nil, or_false] at hd
    rcases hd with rfl | rfl | rfl | rfl <;> exact ⟨_, rfl, by decide, by decide⟩
  walk_at "u"
  refine (size_ok (tl := ([], [])) h).mono ?_
  rintro d s ⟨h, N0, rfl, hN⟩
  walk_at "u"
  obtain ⟨N, eN, N2, N12⟩ : ∃ N : Nat, (if N0 > 2 then N0 else 2) = (N : Int) ∧ 2 ≤ N ∧ N ≤ 12 := by
    by_cases h : N0 > 2
    · exact ⟨N0.toNat, by rw [if_pos h]; omega, by omega, by omega⟩
    · exact ⟨2, by rw [if_neg h]; rfl, by omega, by omega⟩
  rw [eN]
  walk_at "u"
  rw [show ((N : Nat) : Int) + 1 = ((N + 1 : Nat) : Int) by omega]
  refine (names3_ok (tl := ([], [])) h (by omega)).mono ?_
  rintro d s ⟨h, es, rfl, le, nmE, ndE⟩
  walk_at "u"
  rw [show cutL (es.map D.str) (some 1) none = (es.map D.str).drop 1 from cutL_lo _ 1, ← List.map_drop]
  obtain ⟨z, xs, rfl⟩ : ∃ z xs, es = z :: xs := by
    cases es with
    | nil => simp at le
    | cons z xs => exact ⟨z, xs, rfl⟩
  rw [show (z :: xs).drop 1 = xs from rfl]
  have lx : xs.length = N := by simpa using le
  have nmz : Nm z := nmE z List.mem_cons_self
  have nmx : ∀ x ∈ xs, Nm x := fun x hx => nmE x (List.mem_cons_of_mem _ hx)
  obtain ⟨zx, ndx⟩ := List.nodup_cons.mp ndE
  refine ⟨small (by rw [List.length_map]; omega), ?_⟩
  refine ok_eq (comp_of (fun x => D.str x) (fun x => D.str x) fun x hx => ⟨_, rfl, eq_of ?_⟩) ?_
  · walk_at "u"
    exact ⟨_, _, rfl, rfl, rfl⟩
  walk_at "u"
  refine o_sortS (by omega) ?_
  have pmn : (sortS xs).Perm xs := sortS_perm xs
  have asc := sortS_pw ndx
  generalize sortS xs = nz at pmn asc
  have nmn : ∀ x ∈ nz, Nm x := fun x hx => nmx x (pmn.mem_iff.mp hx)
  have ln : nz.length = N := by rw [pmn.length_eq, lx]
  have ndn := asc_nd asc
  have zn : z ∉ nz := fun h => zx (pmn.mem_iff.mp h)
  walk_at "u"
  refine (mixed2_ok (tl := ([], [])) h (by rw [List.length_map]; omega)).mono ?_
  rintro d s ⟨h, es2, rfl, pm2⟩
  obtain ⟨g, rfl, pmg⟩ := perm_strs pm2
  walk_at "u"
  refine k_rg1 (k_bin (k_var rfl (k_c (o_subI ⟨N - 1, by rw [show ((N : Nat) : Int) - 1 = ((N - 1 : Nat) : Int) by omega], by omega, ?_⟩))))
  walk_at "u"
  refine (mixed2_ok (tl := ([], [])) h (by rw [List.length_map, List.length_range]; omega)).mono ?_
  rintro d s ⟨h, es3, rfl, pm3⟩
  obtain ⟨ks, rfl, pmk⟩ := perm_nI pm3
  have lk : ks.length = N - 1 := by rw [pmk.length_eq, List.length_range]
  walk_at "u"
  refine ok_eq (comp_of (fun i => nI i) (fun i => nI (i + 1)) fun i hi => ⟨_, rfl, eq_of ?_⟩) ?_
  · unfold nI
    walk_at "u"
    exact ⟨rfl, rfl⟩
  walk_at "u"
  refine addL_ok (small (by rw [List.length_map]; simp; omega)) ?_
  have er : ([D.int 0] ++ ks.map fun i => nI (i + 1)) = (0 :: ks.map (· + 1)).map nI := by
    rw [List.map_cons, List.map_map]
    rfl
  rw [er]
  have R : RingP N (0 :: ks.map (· + 1)) := by
    refine ⟨by simp; omega, ?_, fun i hi => ?_, fun k hk => ?_⟩
    · refine List.nodup_cons.mpr ⟨fun h => ?_, ?_⟩
      · obtain ⟨j, _, e⟩ := List.mem_map.mp h
        omega
      · exact List.pairwise_map.mpr ((pmk.nodup_iff.mpr List.nodup_range).imp fun ne e => ne (by omega))
    · rcases List.mem_cons.mp hi with rfl | hi
      · omega
      · obtain ⟨j, hj, rfl⟩ := List.mem_map.mp hi
        have := List.mem_range.mp (pmk.mem_iff.mp hj)
        omega
    · cases k with
      | zero => exact List.mem_cons_self
      | succ k => exact List.mem_cons_of_mem _ (List.mem_map.mpr ⟨k, pmk.mem_iff.mpr (List.mem_range.mpr (by omega)), rfl⟩)
  have h00 : (0 :: ks.map (· + 1))[0]? = some 0 := rfl
  generalize 0 :: ks.map (· + 1) = r at R h00
  have hr : ∀ i ∈ r, i < nz.length := fun i hi => by rw [ln]; exact R.lt i hi
  walk_at "u"
  refine law_order3_ok hr (by rw [R.len]; omega) ?_
  walk_at "u"
  refine law_arcs_ok R.len R.lt N12 ?_
  walk_at "u"
  refine o_shl1 (by omega) ?_
  have n2 : 1 ≤ 2 ^ N := Nat.two_pow_pos N
  have n12 : 2 ^ N ≤ 4096 := Nat.pow_le_pow_right (n := 2) (by decide) N12
  rw [Nat.one_shiftLeft]
  walk_at "u"
  rw [show ((2 ^ N : Nat) : Int) - 1 = ((2 ^ N - 1 : Nat) : Int) by omega]
  walk_at "u"
  have lp : (ordA nz r).length = N := by unfold ordA; rw [List.length_map, R.len]
  have nmp : ∀ x ∈ ordA nz r, Nm x := fun x hx => nmn x ((ordA_perm ln R).mem_iff.mp hx)
  have plp : pl 1 (tupS (ordA nz r)) = true := pl_tupS nmp (by omega)
  refine is_ring_order_ok (.inl rfl) pmg asc (by omega) (by omega) plp ?_
  rw [ring_yes ln R h00 (by omega)]
  obtain ⟨p0, pz, ep⟩ : ∃ a b, ordA nz r = a ++ [b] := ⟨_, _, (List.dropLast_concat_getLast (l := ordA nz r) (fun e => by rw [e] at lp; simp at lp; omega)).symm⟩
  have nmz2 : Nm pz := nmp pz (by rw [ep]; simp)
  have nm0 : ∀ x ∈ p0, Nm x := fun x hx => nmp x (by rw [ep]; simp [hx])
  have lp0 : p0.length ≤ 12 := by rw [ep] at lp; simp at lp; omega
  walk_at "u"
  unfold tupS
  walk_at "u"
  rw [show (ordA nz r).map D.str = p0.map D.str ++ [.str pz] by rw [ep, List.map_append]; rfl, cutL_init]
  refine ixT_ok (d := .str pz) (atI_end (by rw [List.getLast?_concat])) ?_
  walk_at "u"
  refine addT_ok (small (by rw [List.length_map]; simp; omega)) ?_
  walk_at "u"
  have plb : pl 3 (.tup (p0.map D.str ++ [.lst [.str pz]])) = true := pl_tup.mpr ⟨by simp; omega, fun d hd => by
    rcases List.mem_append.mp hd with hd | hd
    · obtain ⟨x, hx, rfl⟩ := List.mem_map.mp hd
      exact pl_s (Nm.plS (nm0 x hx))
    · rw [List.mem_singleton.mp hd]
      exact pl_lst.mpr ⟨by simp, al_cons (pl_s (Nm.plS nmz2)) al_nil⟩⟩
  refine is_ring_order_ok (.inl rfl) pmg asc (by omega) (by omega) plb ?_
  rw [ring_no]
  walk_at "u"
  refine k_sameH (n := 3) (pl_lst.mpr ⟨by simp, al_cons rfl (al_cons rfl al_nil)⟩) (by decide) ?_
  walk_at "u"
  rw [← show (ordA nz r).map D.str = p0.map D.str ++ [.str pz] by rw [ep, List.map_append]; rfl]
  refine range1_ok (by decide) (by decide) ?_
  refine go_for (fun ds ρ s => Bh ([], []) s ∧ (∀ d ∈ ds, ∃ k : Nat, d = nI k) ∧ ∃ y8 y10, ρ = [Sl.sh (D.scr ns), Sl.sh (D.ref ([] : S).length), Sl.sh (D.int (N : Nat)), Sl.sh (D.lst ((z :: xs).map D.str)), Sl.sh (D.lst (nz.map D.str)), Sl.sh (D.lst (g.map D.str)), Sl.sh (D.lst (g.map D.str)), Sl.sh (D.lst (r.map nI)), y8, .no, y10, Sl.sh (D.tup ((ordA nz r).map D.str)), Sl.sh (D.int ((arcsF r (List.range N) 0 : Nat) : Int)), Sl.sh (D.int ((2 ^ N - 1 : Nat) : Int)), .no, .no, .no, .no]) ⟨h, fun d hd => ?_, _, _, rfl⟩ ?_ ?_
  · obtain ⟨k, _, rfl⟩ := List.mem_map.mp hd
    exact ⟨k, rfl⟩
  · rintro d ds ρ s ⟨h, hds, y8, y10, rfl⟩
    obtain ⟨k, rfl⟩ := hds d List.mem_cons_self
    refine ⟨_, rfl, ?_⟩
    walk_at "u"
    refine (bent_ring_ok (tl := ([], [])) h nmp (by omega) (by omega) nmz).mono ?_
    rintro d s ⟨h, hd⟩
    unfold nI
    walk_at "u"
    refine ⟨fun _ => ?_, fun _ => ?_⟩
    · walk_at "u"
      refine is_ring_order_ok (.inr rfl) pmg asc (by omega) (by omega) hd ?_
      walk_at "u"
      refine law_is_ring_ok ndn nmn (by omega) (by omega) hd ?_
      walk_at "u"
      refine k_sameH (n := 1) rfl (by decide) ?_
      walk_at "u"
      exact ⟨h, fun d hd2 => hds d (List.mem_cons_of_mem _ hd2), _, _, rfl⟩
    · walk_at "u"
      refine is_ring_order_ok (.inl rfl) pmg asc (by omega) (by omega) hd ?_
      walk_at "u"
      refine law_is_ring_ok ndn nmn (by omega) (by omega) hd ?_
      walk_at "u"
      refine k_sameH (n := 1) rfl (by decide) ?_
      walk_at "u"
      exact ⟨h, fun d hd2 => hds d (List.mem_cons_of_mem _ hd2), _, _, rfl⟩
  rintro ρ s ⟨h, _, y8, y10, rfl⟩
  walk_at "u"
  refine (some_lots_ok (tl := ([], [])) h (by omega) N12).mono ?_
  rintro d s ⟨h, bs, rfl, hbs, lb⟩
  walk_at "u"
  refine go_for (fun ds ρ s => Bh ([], []) s ∧ (∀ d ∈ ds, ∃ b : Nat, d = nI b ∧ 1 ≤ b ∧ b < 2 ^ N) ∧ ∃ y9 y14, ρ = [Sl.sh (D.scr ns), Sl.sh (D.ref ([] : S).length), Sl.sh (D.int (N : Nat)), Sl.sh (D.lst ((z :: xs).map D.str)), Sl.sh (D.lst (nz.map D.str)), Sl.sh (D.lst (g.map D.str)), Sl.sh (D.lst (g.map D.str)), Sl.sh (D.lst (r.map nI)), y8, y9, y10, Sl.sh (D.tup ((ordA nz r).map D.str)), Sl.sh (D.int ((arcsF r (List.range N) 0 : Nat) : Int)), Sl.sh (D.int ((2 ^ N - 1 : Nat) : Int)), y14, .no, .no, .no]) ⟨h, fun d hd => ?_, _, _, rfl⟩ ?_ ?_
  · obtain ⟨b, hb, rfl⟩ := List.mem_map.mp hd
    exact ⟨b, rfl, hbs b hb⟩
  · rintro d ds ρ s ⟨h, hds, y9, y14, rfl⟩
    obtain ⟨b, rfl, b1, b2⟩ := hds d List.mem_cons_self
    refine ⟨_, rfl, ?_⟩
    unfold nI
    walk_at "u"
    refine law_lot2_ok (by omega) ?_
    walk_at "u"
    refine is_arc_ok ln N12 nmn asc R b1 b2 ?_
    walk_at "u"
    refine o_shr ?_
    walk_at "u"
    refine o_band1 ?_
    walk_at "u"
    rw [bit_is]
    refine k_sameH (n := 1) rfl (by decide) ?_
    walk_at "u"
    refine ⟨fun hw => ?_, fun _ => ?_⟩
    · have hw : ¬ ((b : Nat) : Int) = ((2 ^ N - 1 : Nat) : Int) := by simpa using hw
      walk_at "u"
      rw [show (((2 ^ N - 1 : Nat) : Int)) - ((b : Nat) : Int) = ((2 ^ N - 1 - b : Nat) : Int) by omega]
      refine law_lot2_ok (by omega) ?_
      walk_at "u"
      refine is_arc_ok ln N12 nmn asc R (by omega) (by omega) ?_
      rw [arc_rest R b1 (by omega)]
      walk_at "u"
      refine k_sameH (n := 1) rfl (by decide) ?_
      walk_at "u"
      exact ⟨h, fun d hd2 => hds d (List.mem_cons_of_mem _ hd2), _, _, rfl⟩
    · walk_at "u"
      exact ⟨h, fun d hd2 => hds d (List.mem_cons_of_mem _ hd2), _, _, rfl⟩
  rintro ρ s ⟨h, _, y9, y14, rfl⟩
  walk_at "u"
  refine range1_ok (by omega) (by omega) ?_
  rw [Int.toNat_natCast]
  refine ⟨small (by rw [List.length_map, List.length_range]; omega), ?_⟩
  refine ok_eq (comp_of (fun i => nI i) (fun _ => D.bl true) fun i hi => ⟨_, rfl, eq_of ?_⟩) ?_
  · unfold nI
    walk_at "u"
    refine opened_so_ok ndn nmn hr R.nd (by rw [R.len]; omega) (by rw [R.len]; exact List.mem_range.mp hi) ⟨rfl, rfl⟩
  walk_at "u"
  rw [show ((List.range N).map fun _ => D.bl true) = ((List.range N).map fun _ => true).map D.bl by rw [List.map_map]; rfl]
  refine o_allB ?_
  rw [List.all_map, show ((List.range N).all (id ∘ fun _ => true)) = true from List.all_eq_true.mpr fun _ _ => rfl]
  walk_at "u"
  refine ixL_ok (d := .str (nmA nz 0)) (atI_int (by decide) (by rw [List.getElem?_map, show (0 : Int).toNat = 0 from rfl, nmA_get (by omega)]; rfl)) ?_
  walk_at "u"
  refine (odd_thing_ok (tl := ([], [])) (x := nmA nz 0) h (nmn _ (List.mem_of_getElem? (nmA_get (by omega))))).mono ?_
  rintro o s ⟨h, po, no⟩
  walk_at "u"
  have pln : pl 3 (.lst (nz.map D.str)) = true := pl_lst.mpr ⟨by rw [List.length_map]; omega, fun d hd => by
    obtain ⟨x, hx, rfl⟩ := List.mem_map.mp hd
    exact pl_s (Nm.plS (nmn x hx))⟩
  refine go_for (fun ds ρ s => (∀ d ∈ ds, pl 3 d = true ∧ ∀ x, d = .str x → x ∉ ordA nz r) ∧ ∃ y10, ρ = [Sl.sh (D.scr ns), Sl.sh (D.ref ([] : S).length), Sl.sh (D.int (N : Nat)), Sl.sh (D.lst ((z :: xs).map D.str)), Sl.sh (D.lst (nz.map D.str)), Sl.sh (D.lst (g.map D.str)), Sl.sh (D.lst (g.map D.str)), Sl.sh (D.lst (r.map nI)), y8, y9, y10, Sl.sh (D.tup ((ordA nz r).map D.str)), Sl.sh (D.int ((arcsF r (List.range N) 0 : Nat) : Int)), Sl.sh (D.int ((2 ^ N - 1 : Nat) : Int)), y14, .no, .no, .no]) ⟨fun d hd => ?_, _, rfl⟩ ?_ ?_
  · simp only [List.mem_cons, List.not_mem_nil, or_false] at hd
    rcases hd with rfl | rfl | rfl
    · exact ⟨pl_s (Nm.plS nmz), fun x e hx => zn ((ordA_perm ln R).mem_iff.mp (by cases e; exact hx))⟩
    · exact ⟨pl_le (m := 2) (by decide) po, fun x e hx => no x e (nmp x hx)⟩
    · exact ⟨pln, fun x e => by cases e⟩
  · rintro d ds ρ s ⟨hds, y10, rfl⟩
    refine ⟨_, rfl, ?_⟩
    obtain ⟨pd, nd⟩ := hds d List.mem_cons_self
    refine g_if (k_tnot (k_tst (raises_ok (n := 3) (p := ordA nz r) rfl rfl pd (by decide) nd ?_)))
    walk_at "u"
    exact ⟨fun d hd2 => hds d (List.mem_cons_of_mem _ hd2), _, rfl⟩
  rintro ρ s ⟨_, y10, rfl⟩
  walk_at "u"
  have okg : okd (.lst (g.map D.str)) = true := pl_okd (n := 3) (pl_lst.mpr ⟨by rw [List.length_map, pmg.length_eq]; omega, fun d hd => by
    obtain ⟨x, hx, rfl⟩ := List.mem_map.mp hd
    exact pl_s (Nm.plS (nmn x (pmg.mem_iff.mp hx)))⟩) (by decide)
  refine o_eq okg okg (fun _ z => by cases z) (fun _ z => by cases z) ?_
  rw [eqd_str2, decide_eq_true rfl]
end
end DM
set_option maxHeartbeats 4000000
/-! The derivations (printed by wip/tools/gen.py). -/
namespace Lk51
open PySem PySem.Spec PyProof.Rows L2 L2H DL Co
def topS (i : Nat) : Stmt := PySem.Challenge.pw_threeorders_k51_ring_orders_judged.main.body.getD i (.Pass ⟨0, 0, 0, 0⟩)
abbrev s__law_bag : Stmt := topS 16
abbrev N__law_bag : List Str := ["_law_script", "_law_cells", "_law_mark", "_law_cell"]
abbrev P__law_bag : List Str := ["_law_script"]
theorem sc__law_bag : FnScope N__law_bag P__law_bag (defScope s__law_bag) := ⟨rfl, rfl, rfl, by decide +kernel, rfl, by decide +kernel, by decide +kernel⟩
abbrev s__law_draw : Stmt := topS 17
abbrev N__law_draw : List Str := ["_law_bag_here", "_law_many", "_law_step", "_law_cell", "_law_digit"]
abbrev P__law_draw : List Str := ["_law_bag_here", "_law_many"]
theorem sc__law_draw : FnScope N__law_draw P__law_draw (defScope s__law_draw) := ⟨rfl, rfl, rfl, by decide +kernel, rfl, by decide +kernel, by decide +kernel⟩
abbrev s__law_pick : Stmt := topS 18
abbrev N__law_pick : List Str := ["_law_bag_here", "_law_things"]
abbrev P__law_pick : List Str := ["_law_bag_here", "_law_things"]
theorem sc__law_pick : FnScope N__law_pick P__law_pick (defScope s__law_pick) := ⟨rfl, rfl, rfl, by decide +kernel, rfl, by decide +kernel, by decide +kernel⟩
abbrev s__law_size : Stmt := topS 21
abbrev N__law_size : List Str := ["_law_bag_here", "_law_most"]
abbrev P__law_size : List Str := ["_law_bag_here", "_law_most"]
theorem sc__law_size : FnScope N__law_size P__law_size (defScope s__law_size) := ⟨rfl, rfl, rfl, by decide +kernel, rfl, by decide +kernel, by decide +kernel⟩
abbrev s__law_names : Stmt := topS 20
abbrev N__law_names : List Str := ["_law_bag_here", "_law_many", "_law_stem", "_law_found", "_law_at", "_law_k", "_law_letters", "_law_kind", "_law_first", "_law_stride", "_law_letter"]
abbrev P__law_names : List Str := ["_law_bag_here", "_law_many"]
theorem sc__law_names : FnScope N__law_names P__law_names (defScope s__law_names) := ⟨rfl, rfl, rfl, by decide +kernel, rfl, by decide +kernel, by decide +kernel⟩
abbrev s__law_mixed : Stmt := topS 19
abbrev N__law_mixed : List Str := ["_law_bag_here", "_law_things", "_law_found", "_law_thing"]
abbrev P__law_mixed : List Str := ["_law_bag_here", "_law_things"]
theorem sc__law_mixed : FnScope N__law_mixed P__law_mixed (defScope s__law_mixed) := ⟨rfl, rfl, rfl, by decide +kernel, rfl, by decide +kernel, by decide +kernel⟩
abbrev s__law_arcs : Stmt := topS 30
abbrev N__law_arcs : List Str := ["_law_order_here", "_law_found", "_law_at", "_law_bits", "_law_k"]
abbrev P__law_arcs : List Str := ["_law_order_here"]
theorem sc__law_arcs : FnScope N__law_arcs P__law_arcs (defScope s__law_arcs) := ⟨rfl, rfl, rfl, by decide +kernel, rfl, by decide +kernel, by decide +kernel⟩
abbrev s__law_order : Stmt := topS 25
abbrev N__law_order : List Str := ["_law_names_here", "_law_order_here", "_law_k"]
abbrev P__law_order : List Str := ["_law_names_here", "_law_order_here"]
theorem sc__law_order : FnScope N__law_order P__law_order (defScope s__law_order) := ⟨rfl, rfl, rfl, by decide +kernel, rfl, by decide +kernel, by decide +kernel⟩
abbrev s__law_same : Stmt := topS 26
abbrev N__law_same : List Str := ["_law_found", "_law_due", "_law_k"]
abbrev P__law_same : List Str := ["_law_found", "_law_due"]
theorem sc__law_same : FnScope N__law_same P__law_same (defScope s__law_same) := ⟨rfl, rfl, rfl, by decide +kernel, rfl, by decide +kernel, by decide +kernel⟩
abbrev s_is_order : Stmt := topS 7
abbrev N_is_order : List Str := ["finds", "value", "name"]
abbrev P_is_order : List Str := ["finds", "value"]
theorem sc_is_order : FnScope N_is_order P_is_order (defScope s_is_order) := ⟨rfl, rfl, rfl, by decide +kernel, rfl, by decide +kernel, by decide +kernel⟩
abbrev s_is_ring_order : Stmt := topS 12
abbrev N_is_ring_order : List Str := ["finds", "value"]
abbrev P_is_ring_order : List Str := ["finds", "value"]
theorem sc_is_ring_order : FnScope N_is_ring_order P_is_ring_order (defScope s_is_ring_order) := ⟨rfl, rfl, rfl, by decide +kernel, rfl, by decide +kernel, by decide +kernel⟩
abbrev s__law_odd_thing : Stmt := topS 32
abbrev N__law_odd_thing : List Str := ["_law_bag_here", "_law_good"]
abbrev P__law_odd_thing : List Str := ["_law_bag_here", "_law_good"]
theorem sc__law_odd_thing : FnScope N__law_odd_thing P__law_odd_thing (defScope s__law_odd_thing) := ⟨rfl, rfl, rfl, by decide +kernel, rfl, by decide +kernel, by decide +kernel⟩
abbrev s__law_bent_ring : Stmt := topS 34
abbrev N__law_bent_ring : List Str := ["_law_bag_here", "_law_order_here", "_law_stranger", "_law_at", "_law_way"]
abbrev P__law_bent_ring : List Str := ["_law_bag_here", "_law_order_here", "_law_stranger"]
theorem sc__law_bent_ring : FnScope N__law_bent_ring P__law_bent_ring (defScope s__law_bent_ring) := ⟨rfl, rfl, rfl, by decide +kernel, rfl, by decide +kernel, by decide +kernel⟩
abbrev s__law_is_name : Stmt := topS 31
abbrev N__law_is_name : List Str := ["_law_value", "_law_sign"]
abbrev P__law_is_name : List Str := ["_law_value"]
theorem sc__law_is_name : FnScope N__law_is_name P__law_is_name (defScope s__law_is_name) := ⟨rfl, rfl, rfl, by decide +kernel, rfl, by decide +kernel, by decide +kernel⟩
abbrev s__law_is_ring : Stmt := topS 33
abbrev N__law_is_ring : List Str := ["_law_names_here", "_law_value", "_law_name"]
abbrev P__law_is_ring : List Str := ["_law_names_here", "_law_value"]
theorem sc__law_is_ring : FnScope N__law_is_ring P__law_is_ring (defScope s__law_is_ring) := ⟨rfl, rfl, rfl, by decide +kernel, rfl, by decide +kernel, by decide +kernel⟩
abbrev s__law_lex : Stmt := topS 23
abbrev N__law_lex : List Str := ["_law_many", "_law_found", "_law_k", "_law_bit", "_law_bits"]
abbrev P__law_lex : List Str := ["_law_many"]
theorem sc__law_lex : FnScope N__law_lex P__law_lex (defScope s__law_lex) := ⟨rfl, rfl, rfl, by decide +kernel, rfl, by decide +kernel, by decide +kernel⟩
abbrev s__law_some_lots : Stmt := topS 24
abbrev N__law_some_lots : List Str := ["_law_bag_here", "_law_many", "_law_most", "_law_k"]
abbrev P__law_some_lots : List Str := ["_law_bag_here", "_law_many", "_law_most"]
theorem sc__law_some_lots : FnScope N__law_some_lots P__law_some_lots (defScope s__law_some_lots) := ⟨rfl, rfl, rfl, by decide +kernel, rfl, by decide +kernel, by decide +kernel⟩
abbrev s_rest : Stmt := topS 5
abbrev N_rest : List Str := ["one", "other", "name"]
abbrev P_rest : List Str := ["one", "other"]
theorem sc_rest : FnScope N_rest P_rest (defScope s_rest) := ⟨rfl, rfl, rfl, by decide +kernel, rfl, by decide +kernel, by decide +kernel⟩
abbrev s_stretch_of : Stmt := topS 9
abbrev N_stretch_of : List Str := ["order", "lot", "inside", "name"]
abbrev P_stretch_of : List Str := ["order", "lot"]
theorem sc_stretch_of : FnScope N_stretch_of P_stretch_of (defScope s_stretch_of) := ⟨rfl, rfl, rfl, by decide +kernel, rfl, by decide +kernel, by decide +kernel⟩
abbrev s_keeps : Stmt := topS 10
abbrev N_keeps : List Str := ["order", "lot"]
abbrev P_keeps : List Str := ["order", "lot"]
theorem sc_keeps : FnScope N_keeps P_keeps (defScope s_keeps) := ⟨rfl, rfl, rfl, by decide +kernel, rfl, by decide +kernel, by decide +kernel⟩
abbrev s_is_arc : Stmt := topS 13
abbrev N_is_arc : List Str := ["order", "lot", "others"]
abbrev P_is_arc : List Str := ["order", "lot"]
theorem sc_is_arc : FnScope N_is_arc P_is_arc (defScope s_is_arc) := ⟨rfl, rfl, rfl, by decide +kernel, rfl, by decide +kernel, by decide +kernel⟩
abbrev s__law_lot : Stmt := topS 22
abbrev N__law_lot : List Str := ["_law_names_here", "_law_bits", "_law_k"]
abbrev P__law_lot : List Str := ["_law_names_here", "_law_bits"]
theorem sc__law_lot : FnScope N__law_lot P__law_lot (defScope s__law_lot) := ⟨rfl, rfl, rfl, by decide +kernel, rfl, by decide +kernel, by decide +kernel⟩
abbrev s_place_in : Stmt := topS 8
abbrev N_place_in : List Str := ["order", "name"]
abbrev P_place_in : List Str := ["order", "name"]
theorem sc_place_in : FnScope N_place_in P_place_in (defScope s_place_in) := ⟨rfl, rfl, rfl, by decide +kernel, rfl, by decide +kernel, by decide +kernel⟩
abbrev s_opened : Stmt := topS 14
abbrev N_opened : List Str := ["order", "name", "at"]
abbrev P_opened : List Str := ["order", "name"]
theorem sc_opened : FnScope N_opened P_opened (defScope s_opened) := ⟨rfl, rfl, rfl, by decide +kernel, rfl, by decide +kernel, by decide +kernel⟩
abbrev s__law_opened_so : Stmt := topS 35
abbrev N__law_opened_so : List Str := ["_law_ring", "_law_names_here", "_law_at", "_law_order_here"]
abbrev P__law_opened_so : List Str := ["_law_ring", "_law_names_here", "_law_at"]
theorem sc__law_opened_so : FnScope N__law_opened_so P__law_opened_so (defScope s__law_opened_so) := ⟨rfl, rfl, rfl, by decide +kernel, rfl, by decide +kernel, by decide +kernel⟩
abbrev s__law_fields : Stmt := topS 27
abbrev N__law_fields : List Str := ["_law_e"]
abbrev P__law_fields : List Str := ["_law_e"]
theorem sc__law_fields : FnScope N__law_fields P__law_fields (defScope s__law_fields) := ⟨rfl, rfl, rfl, by decide +kernel, rfl, by decide +kernel, by decide +kernel⟩
abbrev s__law_try : Stmt := topS 28
abbrev N__law_try : List Str := ["_law_ask", "_law_told", "_law_e"]
abbrev P__law_try : List Str := ["_law_ask"]
theorem sc__law_try : FnScope N__law_try P__law_try (defScope s__law_try) := ⟨rfl, rfl, rfl, by decide +kernel, rfl, by decide +kernel, by decide +kernel⟩
abbrev s__law_raises : Stmt := topS 29
abbrev N__law_raises : List Str := ["_law_ask", "_law_due"]
abbrev P__law_raises : List Str := ["_law_ask", "_law_due"]
theorem sc__law_raises : FnScope N__law_raises P__law_raises (defScope s__law_raises) := ⟨rfl, rfl, rfl, by decide +kernel, rfl, by decide +kernel, by decide +kernel⟩
abbrev s_law : Stmt := topS 36
abbrev N_law : List Str := ["_law_script", "_law_bag_here", "_law_many", "_law_every", "_law_names_here", "_law_given", "_law_kept", "_law_ring", "_law_again", "_law_bits", "_law_value", "_law_told", "_law_arcs_here", "_law_whole", "_law_first", "_law_name", "_law_k", "_law_at"]
abbrev P_law : List Str := ["_law_script"]
theorem sc_law : FnScope N_law P_law (defScope s_law) := ⟨rfl, rfl, rfl, by decide +kernel, rfl, by decide +kernel, by decide +kernel⟩
abbrev s_ini_UnknownFind : Stmt := (C8.clsBody (topS 3)).getD 0 (.Pass ⟨0, 0, 0, 0⟩)
abbrev N_ini_UnknownFind : List Str := ["self", "name"]
abbrev P_ini_UnknownFind : List Str := ["self", "name"]
theorem sc_ini_UnknownFind : FnScope N_ini_UnknownFind P_ini_UnknownFind (defScope s_ini_UnknownFind) := ⟨rfl, rfl, rfl, by decide +kernel, rfl, by decide +kernel, by decide +kernel⟩
abbrev fl_UnknownFind : List (Str × Src) := [("name", .par 0), ("code", .txt "UnknownFind")]
abbrev tf : List He.Defn := [("law", none)]
abbrev tabs (K : PySem.W.Frag) : List (Addr × Str) := [((He.cT K ("law", none)).2, (envOfC "law" (defScope s_law) 0 0 .none).qual ++ "<lambda>")]
def cl (K : PySem.W.Frag) : Cl := ⟨fun n => match n with | 34 => He.ga K "UnknownFind" | _ => 0, tabs K, none, none, false⟩
/-- what the top leaves -/
structure Top (K : PySem.W.Frag) (cl : Cl) (mg : Str → Option Value) (base : Heap) (w : World) : Prop where
  f__law_bag : ∃ fd, FunD K "_law_bag" "_law_bag" (defArgs s__law_bag) (defBody s__law_bag) (defScope s__law_bag) [] [] (He.ga K "_law_bag") fd
  g__law_bag : mg "_law_bag" = some (.ref (He.ga K "_law_bag"))
  f__law_draw : ∃ fd, FunD K "_law_draw" "_law_draw" (defArgs s__law_draw) (defBody s__law_draw) (defScope s__law_draw) [] [] (He.ga K "_law_draw") fd
  g__law_draw : mg "_law_draw" = some (.ref (He.ga K "_law_draw"))
  f__law_pick : ∃ fd, FunD K "_law_pick" "_law_pick" (defArgs s__law_pick) (defBody s__law_pick) (defScope s__law_pick) [] [] (He.ga K "_law_pick") fd
  g__law_pick : mg "_law_pick" = some (.ref (He.ga K "_law_pick"))
  f__law_size : ∃ fd, FunD K "_law_size" "_law_size" (defArgs s__law_size) (defBody s__law_size) (defScope s__law_size) [] [] (He.ga K "_law_size") fd
  g__law_size : mg "_law_size" = some (.ref (He.ga K "_law_size"))
  f__law_names : ∃ fd, FunD K "_law_names" "_law_names" (defArgs s__law_names) (defBody s__law_names) (defScope s__law_names) [] [] (He.ga K "_law_names") fd
  g__law_names : mg "_law_names" = some (.ref (He.ga K "_law_names"))
  f__law_mixed : ∃ fd, FunD K "_law_mixed" "_law_mixed" (defArgs s__law_mixed) (defBody s__law_mixed) (defScope s__law_mixed) [] [] (He.ga K "_law_mixed") fd
  g__law_mixed : mg "_law_mixed" = some (.ref (He.ga K "_law_mixed"))
  f__law_arcs : ∃ fd, FunD K "_law_arcs" "_law_arcs" (defArgs s__law_arcs) (defBody s__law_arcs) (defScope s__law_arcs) [] [] (He.ga K "_law_arcs") fd
  g__law_arcs : mg "_law_arcs" = some (.ref (He.ga K "_law_arcs"))
  f__law_order : ∃ fd, FunD K "_law_order" "_law_order" (defArgs s__law_order) (defBody s__law_order) (defScope s__law_order) [] [] (He.ga K "_law_order") fd
  g__law_order : mg "_law_order" = some (.ref (He.ga K "_law_order"))
  f__law_same : ∃ fd, FunD K "_law_same" "_law_same" (defArgs s__law_same) (defBody s__law_same) (defScope s__law_same) [] [] (He.ga K "_law_same") fd
  g__law_same : mg "_law_same" = some (.ref (He.ga K "_law_same"))
  f_is_order : ∃ fd, FunD K "is_order" "is_order" (defArgs s_is_order) (defBody s_is_order) (defScope s_is_order) [] [] (He.ga K "is_order") fd
  g_is_order : mg "is_order" = some (.ref (He.ga K "is_order"))
  f_is_ring_order : ∃ fd, FunD K "is_ring_order" "is_ring_order" (defArgs s_is_ring_order) (defBody s_is_ring_order) (defScope s_is_ring_order) [] [] (He.ga K "is_ring_order") fd
  g_is_ring_order : mg "is_ring_order" = some (.ref (He.ga K "is_ring_order"))
  f__law_odd_thing : ∃ fd, FunD K "_law_odd_thing" "_law_odd_thing" (defArgs s__law_odd_thing) (defBody s__law_odd_thing) (defScope s__law_odd_thing) [] [] (He.ga K "_law_odd_thing") fd
  g__law_odd_thing : mg "_law_odd_thing" = some (.ref (He.ga K "_law_odd_thing"))
  f__law_bent_ring : ∃ fd, FunD K "_law_bent_ring" "_law_bent_ring" (defArgs s__law_bent_ring) (defBody s__law_bent_ring) (defScope s__law_bent_ring) [] [] (He.ga K "_law_bent_ring") fd
  g__law_bent_ring : mg "_law_bent_ring" = some (.ref (He.ga K "_law_bent_ring"))
  f__law_is_name : ∃ fd, FunD K "_law_is_name" "_law_is_name" (defArgs s__law_is_name) (defBody s__law_is_name) (defScope s__law_is_name) [] [] (He.ga K "_law_is_name") fd
  g__law_is_name : mg "_law_is_name" = some (.ref (He.ga K "_law_is_name"))
  f__law_is_ring : ∃ fd, FunD K "_law_is_ring" "_law_is_ring" (defArgs s__law_is_ring) (defBody s__law_is_ring) (defScope s__law_is_ring) [] [] (He.ga K "_law_is_ring") fd
  g__law_is_ring : mg "_law_is_ring" = some (.ref (He.ga K "_law_is_ring"))
  f__law_lex : ∃ fd, FunD K "_law_lex" "_law_lex" (defArgs s__law_lex) (defBody s__law_lex) (defScope s__law_lex) [] [] (He.ga K "_law_lex") fd
  g__law_lex : mg "_law_lex" = some (.ref (He.ga K "_law_lex"))
  f__law_some_lots : ∃ fd, FunD K "_law_some_lots" "_law_some_lots" (defArgs s__law_some_lots) (defBody s__law_some_lots) (defScope s__law_some_lots) [] [] (He.ga K "_law_some_lots") fd
  g__law_some_lots : mg "_law_some_lots" = some (.ref (He.ga K "_law_some_lots"))
  f_rest : ∃ fd, FunD K "rest" "rest" (defArgs s_rest) (defBody s_rest) (defScope s_rest) [] [] (He.ga K "rest") fd
  g_rest : mg "rest" = some (.ref (He.ga K "rest"))
  f_stretch_of : ∃ fd, FunD K "stretch_of" "stretch_of" (defArgs s_stretch_of) (defBody s_stretch_of) (defScope s_stretch_of) [] [] (He.ga K "stretch_of") fd
  g_stretch_of : mg "stretch_of" = some (.ref (He.ga K "stretch_of"))
  f_keeps : ∃ fd, FunD K "keeps" "keeps" (defArgs s_keeps) (defBody s_keeps) (defScope s_keeps) [] [] (He.ga K "keeps") fd
  g_keeps : mg "keeps" = some (.ref (He.ga K "keeps"))
  f_is_arc : ∃ fd, FunD K "is_arc" "is_arc" (defArgs s_is_arc) (defBody s_is_arc) (defScope s_is_arc) [] [] (He.ga K "is_arc") fd
  g_is_arc : mg "is_arc" = some (.ref (He.ga K "is_arc"))
  f__law_lot : ∃ fd, FunD K "_law_lot" "_law_lot" (defArgs s__law_lot) (defBody s__law_lot) (defScope s__law_lot) [] [] (He.ga K "_law_lot") fd
  g__law_lot : mg "_law_lot" = some (.ref (He.ga K "_law_lot"))
  f_place_in : ∃ fd, FunD K "place_in" "place_in" (defArgs s_place_in) (defBody s_place_in) (defScope s_place_in) [] [] (He.ga K "place_in") fd
  g_place_in : mg "place_in" = some (.ref (He.ga K "place_in"))
  f_opened : ∃ fd, FunD K "opened" "opened" (defArgs s_opened) (defBody s_opened) (defScope s_opened) [] [] (He.ga K "opened") fd
  g_opened : mg "opened" = some (.ref (He.ga K "opened"))
  f__law_opened_so : ∃ fd, FunD K "_law_opened_so" "_law_opened_so" (defArgs s__law_opened_so) (defBody s__law_opened_so) (defScope s__law_opened_so) [] [] (He.ga K "_law_opened_so") fd
  g__law_opened_so : mg "_law_opened_so" = some (.ref (He.ga K "_law_opened_so"))
  f__law_fields : ∃ fd, FunD K "_law_fields" "_law_fields" (defArgs s__law_fields) (defBody s__law_fields) (defScope s__law_fields) [] [] (He.ga K "_law_fields") fd
  g__law_fields : mg "_law_fields" = some (.ref (He.ga K "_law_fields"))
  f__law_try : ∃ fd, FunD K "_law_try" "_law_try" (defArgs s__law_try) (defBody s__law_try) (defScope s__law_try) [] [] (He.ga K "_law_try") fd
  g__law_try : mg "_law_try" = some (.ref (He.ga K "_law_try"))
  f__law_raises : ∃ fd, FunD K "_law_raises" "_law_raises" (defArgs s__law_raises) (defBody s__law_raises) (defScope s__law_raises) [] [] (He.ga K "_law_raises") fd
  g__law_raises : mg "_law_raises" = some (.ref (He.ga K "_law_raises"))
  f_law : ∃ fd, FunD K "law" "law" (defArgs s_law) (defBody s_law) (defScope s_law) [] [] (He.ga K "law") fd
  g_law : mg "law" = some (.ref (He.ga K "law"))
  m_max : mg "max" = none
  m_int : mg "int" = none
  m_sorted : mg "sorted" = none
  m_str : mg "str" = none
  m_list : mg "list" = none
  m_range : mg "range" = none
  m_tuple : mg "tuple" = none
  m_all : mg "all" = none
  m_len : mg "len" = none
  m_isinstance : mg "isinstance" = none
  m_bool : mg "bool" = none
  m_min : mg "min" = none
  g_UnknownFind : mg "UnknownFind" = some (.ref (He.ga K "UnknownFind"))
  g_FindError : mg "FindError" = some (.ref (He.ga K "FindError"))
  g_Missing : mg "Missing" = some (.ref (He.ga K "Missing"))
  i_UnknownFind : ∃ fd, FunD K "__init__" "UnknownFind.__init__" (defArgs s_ini_UnknownFind) (defBody s_ini_UnknownFind) (defScope s_ini_UnknownFind) [] [] (He.ma K (He.ga K "UnknownFind") "__init__") fd
  x_UnknownFind : IniC K (He.ga K "UnknownFind") (He.ma K (He.ga K "UnknownFind") "__init__") ["name", "code"]
  n_UnknownFind : cl.c 34 = He.ga K "UnknownFind"
  x_at : XAt K cl (okC [34]) ["code", "value", "at", "name", "most", "least", "lot", "three", "two", "one"]
  cat0 : ∀ z, okC [34] z = true → PySem.W.exmAny K (.ref (cl z)) ((["FindError", "Missing"] : List Str).map fun y => .ref (He.ga K y)) = some true
  tb : ∀ p ∈ tf, LamX.TabB base mg (He.cT K p).1 (He.cT K p).2
  t_law : ((He.cT K ("law", none)).2, (envOfC "law" (defScope s_law) 0 0 .none).qual ++ "<lambda>") ∈ cl.T
  u_law : ∀ p ∈ cl.T, p.1 = (He.cT K ("law", none)).2 → p.2 = (envOfC "law" (defScope s_law) 0 0 .none).qual ++ "<lambda>"
theorem Top.pl {K : PySem.W.Frag} {cl : Cl} {mg : Str → Option Value} {base : Heap} {w : World} (T : Top K cl mg base w) : Top K cl.pl mg base w where
  f__law_bag := T.f__law_bag
  g__law_bag := T.g__law_bag
  f__law_draw := T.f__law_draw
  g__law_draw := T.g__law_draw
  f__law_pick := T.f__law_pick
  g__law_pick := T.g__law_pick
  f__law_size := T.f__law_size
  g__law_size := T.g__law_size
  f__law_names := T.f__law_names
  g__law_names := T.g__law_names
  f__law_mixed := T.f__law_mixed
  g__law_mixed := T.g__law_mixed
  f__law_arcs := T.f__law_arcs
  g__law_arcs := T.g__law_arcs
  f__law_order := T.f__law_order
  g__law_order := T.g__law_order
  f__law_same := T.f__law_same
  g__law_same := T.g__law_same
  f_is_order := T.f_is_order
  g_is_order := T.g_is_order
  f_is_ring_order := T.f_is_ring_order
  g_is_ring_order := T.g_is_ring_order
  f__law_odd_thing := T.f__law_odd_thing
  g__law_odd_thing := T.g__law_odd_thing
  f__law_bent_ring := T.f__law_bent_ring
  g__law_bent_ring := T.g__law_bent_ring
  f__law_is_name := T.f__law_is_name
  g__law_is_name := T.g__law_is_name
  f__law_is_ring := T.f__law_is_ring
  g__law_is_ring := T.g__law_is_ring
  f__law_lex := T.f__law_lex
  g__law_lex := T.g__law_lex
  f__law_some_lots := T.f__law_some_lots
  g__law_some_lots := T.g__law_some_lots
  f_rest := T.f_rest
  g_rest := T.g_rest
  f_stretch_of := T.f_stretch_of
  g_stretch_of := T.g_stretch_of
  f_keeps := T.f_keeps
  g_keeps := T.g_keeps
  f_is_arc := T.f_is_arc
  g_is_arc := T.g_is_arc
  f__law_lot := T.f__law_lot
  g__law_lot := T.g__law_lot
  f_place_in := T.f_place_in
  g_place_in := T.g_place_in
  f_opened := T.f_opened
  g_opened := T.g_opened
  f__law_opened_so := T.f__law_opened_so
  g__law_opened_so := T.g__law_opened_so
  f__law_fields := T.f__law_fields
  g__law_fields := T.g__law_fields
  f__law_try := T.f__law_try
  g__law_try := T.g__law_try
  f__law_raises := T.f__law_raises
  g__law_raises := T.g__law_raises
  f_law := T.f_law
  g_law := T.g_law
  m_max := T.m_max
  m_int := T.m_int
  m_sorted := T.m_sorted
  m_str := T.m_str
  m_list := T.m_list
  m_range := T.m_range
  m_tuple := T.m_tuple
  m_all := T.m_all
  m_len := T.m_len
  m_isinstance := T.m_isinstance
  m_bool := T.m_bool
  m_min := T.m_min
  g_UnknownFind := T.g_UnknownFind
  g_FindError := T.g_FindError
  g_Missing := T.g_Missing
  i_UnknownFind := T.i_UnknownFind
  x_UnknownFind := T.x_UnknownFind
  n_UnknownFind := T.n_UnknownFind
  x_at := xat_cl (pl_c cl).symm T.x_at
  cat0 := T.cat0
  tb := T.tb
  t_law := T.t_law
  u_law := T.u_law
theorem Top.fs {K : PySem.W.Frag} {cl : Cl} {mg : Str → Option Value} {base : Heap} {w : World} (T : Top K cl mg base w) : Top K cl.fs mg base w where
  f__law_bag := T.f__law_bag
  g__law_bag := T.g__law_bag
  f__law_draw := T.f__law_draw
  g__law_draw := T.g__law_draw
  f__law_pick := T.f__law_pick
  g__law_pick := T.g__law_pick
  f__law_size := T.f__law_size
  g__law_size := T.g__law_size
  f__law_names := T.f__law_names
  g__law_names := T.g__law_names
  f__law_mixed := T.f__law_mixed
  g__law_mixed := T.g__law_mixed
  f__law_arcs := T.f__law_arcs
  g__law_arcs := T.g__law_arcs
  f__law_order := T.f__law_order
  g__law_order := T.g__law_order
  f__law_same := T.f__law_same
  g__law_same := T.g__law_same
  f_is_order := T.f_is_order
  g_is_order := T.g_is_order
  f_is_ring_order := T.f_is_ring_order
  g_is_ring_order := T.g_is_ring_order
  f__law_odd_thing := T.f__law_odd_thing
  g__law_odd_thing := T.g__law_odd_thing
  f__law_bent_ring := T.f__law_bent_ring
  g__law_bent_ring := T.g__law_bent_ring
  f__law_is_name := T.f__law_is_name
  g__law_is_name := T.g__law_is_name
  f__law_is_ring := T.f__law_is_ring
  g__law_is_ring := T.g__law_is_ring
  f__law_lex := T.f__law_lex
  g__law_lex := T.g__law_lex
  f__law_some_lots := T.f__law_some_lots
  g__law_some_lots := T.g__law_some_lots
  f_rest := T.f_rest
  g_rest := T.g_rest
  f_stretch_of := T.f_stretch_of
  g_stretch_of := T.g_stretch_of
  f_keeps := T.f_keeps
  g_keeps := T.g_keeps
  f_is_arc := T.f_is_arc
  g_is_arc := T.g_is_arc
  f__law_lot := T.f__law_lot
  g__law_lot := T.g__law_lot
  f_place_in := T.f_place_in
  g_place_in := T.g_place_in
  f_opened := T.f_opened
  g_opened := T.g_opened
  f__law_opened_so := T.f__law_opened_so
  g__law_opened_so := T.g__law_opened_so
  f__law_fields := T.f__law_fields
  g__law_fields := T.g__law_fields
  f__law_try := T.f__law_try
  g__law_try := T.g__law_try
  f__law_raises := T.f__law_raises
  g__law_raises := T.g__law_raises
  f_law := T.f_law
  g_law := T.g_law
  m_max := T.m_max
  m_int := T.m_int
  m_sorted := T.m_sorted
  m_str := T.m_str
  m_list := T.m_list
  m_range := T.m_range
  m_tuple := T.m_tuple
  m_all := T.m_all
  m_len := T.m_len
  m_isinstance := T.m_isinstance
  m_bool := T.m_bool
  m_min := T.m_min
  g_UnknownFind := T.g_UnknownFind
  g_FindError := T.g_FindError
  g_Missing := T.g_Missing
  i_UnknownFind := T.i_UnknownFind
  x_UnknownFind := T.x_UnknownFind
  n_UnknownFind := T.n_UnknownFind
  x_at := xat_cl (fs_c cl).symm T.x_at
  cat0 := T.cat0
  tb := T.tb
  t_law := T.t_law
  u_law := T.u_law
theorem mk_UnknownFind {X : Cx} {cl : Cl} {E : XK} {g : Ev → S → R (List D)} {e : Expr} {es : List Expr} {p pos : Pos} (T : Top X.K cl X.mg X.base X.w) (hr : Room 2 X.A) (hg : Gl X "UnknownFind") (ha : DA X cl E (e :: es) g) (he : starEach (e :: es) X.env = (false, eval e X.env) :: starEach es X.env := by rfl) (hpl : (backTo pos (starEach es X.env)).any (·.1) = false := by rfl) : PMk X (.Call (.Name "UnknownFind" p) (e :: es) [] pos) (tMkO (cl 34) (spI (cl 34) fl_UnknownFind 1) [] (liftA X.K cl E g)) := by
  obtain ⟨fd, F⟩ := T.i_UnknownFind
  have I := T.x_UnknownFind
  show PMk X _ (tMkO (cl.c 34) (spI (cl.c 34) fl_UnknownFind 1) [] _)
  rw [T.n_UnknownFind]
  exact pmk_any (k := 1) I.o I.i I.t (fn_init (N := N_ini_UnknownFind) (ps := P_ini_UnknownFind) F sc_ini_UnknownFind I.o I.n (by decide) (by simp) rfl fun cdv A outer s H E => pss_cons (ps_st (pv 0) (pv 1)) (pss_one (ps_st (pv 0) (pe_str)))) hr (FunD.bindsN F fun _ _ _ _ _ _ us hl => match us, hl with | [_, _], _ => rfl) passA hg T.g_UnknownFind ha (by decide) he hpl
section
variable {P : Program} {w : World} {K : PySem.W.Frag} {cl : Cl} {mg : Str → Option Value} {base : Heap}
theorem ok__law_bag (T : Top K cl mg base w) : ∃ f fd, Fn P w K mg base cl 1 "_law_bag" s__law_bag P__law_bag sem__law_bag f fd := by
  have T := T.pl
  obtain ⟨fd, F⟩ := T.f__law_bag
  refine ⟨_, fd, F, fp_0 (N := N__law_bag) (ps := P__law_bag) (k := 0) sem__law_bag den__law_bag F sc__law_bag (fun cdv A outer s H E W0 hr => ?_) rfl, T.g__law_bag, FunD.bindsN F fun _ _ _ _ _ _ us hl => match us, hl with | [_], _ => rfl⟩
  exact dss_cons (ds_setLc 1 (own := [("_law_cell", 3)]) (t := (.nm 3)) rfl sc__law_bag.nd (di_val (dv_sl (DVo (dv_var 0 (pv 0))) (dp_none) (dp_some (dv_int)))) (blkOk_by (own := [("_law_cell", 3)]) (N := N__law_bag) (sc := defScope s__law_bag) (by decide +kernel)) (fun _ _ _ _ _ => dg_nm sc__law_bag.nd) (fun _ _ _ _ _ => dts_nil) (fun _ _ _ _ _ => dv_callTy cr_intF (by rfl) T.m_int bt_int (dao_cons (DVo (dv_var 3 (pv 3))) (dao_nil))) (by decide) (sw_true rfl rfl rfl (by decide +kernel))) (dss_cons (ds_set 2 sc__law_bag.nd (dv_op op_addD (DVo (dv_int)) (DVo (dv_op op_mulD (DVo (dv_int)) (DVo (dv_callB cr_len (by rfl) T.m_len bt_len (dao_cons (DVo (dv_var 1 (pv 1))) (dao_nil)))))))) (dss_cons (ds_for (t := (.nm 3)) PassesOwn.never rfl (di_val (dv_var 1 (pv 1))) (dg_nm sc__law_bag.nd) (dss_one (ds_set 2 sc__law_bag.nd (dv_op op_modD (DVo (dv_callTy cr_intF (by rfl) T.m_int bt_int (dao_cons (DVo (dv_op op_addD (DVo (dv_op op_addD (DVo (dv_op op_mulD (DVo (dv_var 2 (pv 2))) (DVo (dv_int)))) (DVo (dv_op op_mulD (DVo (dv_var 3 (pv 3))) (DVo (dv_int)))))) (DVo (dv_int)))) (dao_nil)))) (DVo (dv_int)))))) (dss_one (ds_ret (dv_lstRef (da_cons (dv_var 1 (pv 1)) (da_cons (dv_int) (da_cons (dv_int) (da_cons (dv_var 2 (pv 2)) (da_cons (dv_int) (da_nil)))))))))))
theorem ok__law_draw (T : Top K cl mg base w) : ∃ f fd, Fn P w K mg base cl 1 "_law_draw" s__law_draw P__law_draw sem__law_draw_2 f fd := by
  have T := T.pl
  obtain ⟨fd, F⟩ := T.f__law_draw
  refine ⟨_, fd, F, fp_0 (N := N__law_draw) (ps := P__law_draw) (k := 0) sem__law_draw_2 den__law_draw_2 F sc__law_draw (fun cdv A outer s H E W0 hr => ?_) rfl, T.g__law_draw, FunD.bindsN F fun _ _ _ _ _ _ us hl => match us, hl with | [_, _], _ => rfl⟩
  exact dss_cons (ds_if (DWt (dw_and (dt_cmp (op_eqDD (u64 hr)) (DVo (dv_ix (DVo (dv_var 0 (pv 0))) (DVo (dv_int)))) (DVo (dv_int)) (nomark _)) (dw_and1 (dt_cmp op_ltD (DVo (dv_ix (DVo (dv_var 0 (pv 0))) (DVo (dv_int)))) (DVo (dv_callB cr_len (by rfl) T.m_len bt_len (dao_cons (DVo (dv_ix (DVo (dv_var 0 (pv 0))) (DVo (dv_int)))) (dao_nil)))) (nomark _))))) (dss_cons (ds_set 3 sc__law_draw.nd (dv_ix (DVo (dv_ix (DVo (dv_var 0 (pv 0))) (DVo (dv_int)))) (DVo (dv_ix (DVo (dv_var 0 (pv 0))) (DVo (dv_int)))))) (dss_cons (ds_put (dv_op op_addD (DVo (dv_ix (DVo (dv_var 0 (pv 0))) (DVo (dv_int)))) (DVo (dv_int))) (dv_var 0 (pv 0)) (dv_int)) (dss_one (ds_if (dt_cmp op_geD (DVo (dv_var 3 (pv 3))) (DVo (dv_op op_powD (DVo (dv_int)) (DVo (dv_int)))) (nomark _)) (dss_one (ds_put (dv_var 3 (pv 3)) (dv_var 0 (pv 0)) (dv_int))) (dss_one (ds_put (dv_op op_modD (DVo (dv_callTy cr_intF (by rfl) T.m_int bt_int (dao_cons (DVo (dv_op op_addD (DVo (dv_op op_addD (DVo (dv_op op_mulD (DVo (dv_ix (DVo (dv_var 0 (pv 0))) (DVo (dv_int)))) (DVo (dv_int)))) (DVo (dv_op op_mulD (DVo (dv_var 3 (pv 3))) (DVo (dv_int)))))) (DVo (dv_int)))) (dao_nil)))) (DVo (dv_int))) (dv_var 0 (pv 0)) (dv_int))))))) (dss_nil)) (dss_cons (ds_if (dt_cmp op_gtD (DVo (dv_ix (DVo (dv_var 0 (pv 0))) (DVo (dv_int)))) (DVo (dv_int)) (nomark _)) (dss_cons (ds_set 4 sc__law_draw.nd (dv_op op_modD (DVo (dv_callTy cr_intF (by rfl) T.m_int bt_int (dao_cons (DVo (dv_ix (DVo (dv_var 0 (pv 0))) (DVo (dv_int)))) (dao_nil)))) (DVo (dv_var 1 (pv 1))))) (dss_cons (ds_put (dv_op op_fdivD (DVo (dv_ix (DVo (dv_var 0 (pv 0))) (DVo (dv_int)))) (DVo (dv_var 1 (pv 1)))) (dv_var 0 (pv 0)) (dv_int)) (dss_one (ds_ret (dv_var 4 (pv 4)))))) (dss_nil)) (dss_cons (ds_put (dv_op op_addD (DVo (dv_ix (DVo (dv_var 0 (pv 0))) (DVo (dv_int)))) (DVo (dv_int))) (dv_var 0 (pv 0)) (dv_int)) (dss_cons (ds_set 2 sc__law_draw.nd (dv_op op_modD (DVo (dv_callTy cr_intF (by rfl) T.m_int bt_int (dao_cons (DVo (dv_op op_addD (DVo (dv_ix (DVo (dv_var 0 (pv 0))) (DVo (dv_int)))) (DVo (dv_op op_mulD (DVo (dv_ix (DVo (dv_var 0 (pv 0))) (DVo (dv_int)))) (DVo (dv_int)))))) (dao_nil)))) (DVo (dv_int)))) (dss_cons (ds_put (dv_op op_modD (DVo (dv_callTy cr_intF (by rfl) T.m_int bt_int (dao_cons (DVo (dv_op op_addD (DVo (dv_op op_addD (DVo (dv_op op_mulD (DVo (dv_op op_mulD (DVo (dv_var 2 (pv 2))) (DVo (dv_var 2 (pv 2))))) (DVo (dv_var 2 (pv 2))))) (DVo (dv_op op_mulD (DVo (dv_var 2 (pv 2))) (DVo (dv_int)))))) (DVo (dv_int)))) (dao_nil)))) (DVo (dv_int))) (dv_var 0 (pv 0)) (dv_int)) (dss_one (ds_ret (dv_op op_modD (DVo (dv_callTy cr_intF (by rfl) T.m_int bt_int (dao_cons (DVo (dv_op op_addD (DVo (dv_op op_fdivD (DVo (dv_ix (DVo (dv_var 0 (pv 0))) (DVo (dv_int)))) (DVo (dv_int)))) (DVo (dv_op op_mulD (DVo (dv_op op_modD (DVo (dv_callTy cr_intF (by rfl) T.m_int bt_int (dao_cons (DVo (dv_ix (DVo (dv_var 0 (pv 0))) (DVo (dv_int)))) (dao_nil)))) (DVo (dv_int)))) (DVo (dv_int)))))) (dao_nil)))) (DVo (dv_var 1 (pv 1))))))))))
theorem ok__law_pick (T : Top K cl mg base w) : ∃ f fd, Fn P w K mg base cl 2 "_law_pick" s__law_pick P__law_pick sem__law_pick_2 f fd := by
  have T := T.pl
  obtain ⟨f__law_draw, fd__law_draw, C__law_draw⟩ := ok__law_draw (P := P) (w := w) (base := base) T
  obtain ⟨fd, F⟩ := T.f__law_pick
  refine ⟨_, fd, F, fp_0 (N := N__law_pick) (ps := P__law_pick) (k := 1) sem__law_pick_2 den__law_pick_2 F sc__law_pick (fun cdv A outer s H E W0 hr => ?_) rfl, T.g__law_pick, FunD.bindsN F fun _ _ _ _ _ _ us hl => match us, hl with | [_, _], _ => rfl⟩
  exact dss_one (ds_ret (dv_ix (DVo (dv_var 1 (pv 1))) (DVo (dv_call C__law_draw.G (hr.mono (by decide)) (by rfl) C__law_draw.m C__law_draw.F.kp C__law_draw.b passA (da_cons (dv_var 0 (pv 0)) (da_cons (dv_callB cr_len (by rfl) T.m_len bt_len (dao_cons (DVo (dv_var 1 (pv 1))) (dao_nil))) (da_nil)))))))
theorem ok__law_size (T : Top K cl mg base w) : ∃ f fd, Fn P w K mg base cl 3 "_law_size" s__law_size P__law_size sem__law_size f fd := by
  have T := T.pl
  obtain ⟨f__law_draw, fd__law_draw, C__law_draw⟩ := ok__law_draw (P := P) (w := w) (base := base) T
  obtain ⟨f__law_pick, fd__law_pick, C__law_pick⟩ := ok__law_pick (P := P) (w := w) (base := base) T
  obtain ⟨fd, F⟩ := T.f__law_size
  refine ⟨_, fd, F, fp_0 (N := N__law_size) (ps := P__law_size) (k := 2) sem__law_size den__law_size F sc__law_size (fun cdv A outer s H E W0 hr => ?_) rfl, T.g__law_size, FunD.bindsN F fun _ _ _ _ _ _ us hl => match us, hl with | [_, _], _ => rfl⟩
  exact dss_one (ds_ret (dv_if (dt_cmp (op_eqDD (u64 hr)) (DVo (dv_call C__law_draw.G (hr.mono (by decide)) (by rfl) C__law_draw.m C__law_draw.F.kp C__law_draw.b passA (da_cons (dv_var 0 (pv 0)) (da_cons (dv_int) (da_nil))))) (DVo (dv_int)) (nomark _)) (dv_op op_addD (DVo (dv_int)) (DVo (dv_call C__law_draw.G (hr.mono (by decide)) (by rfl) C__law_draw.m C__law_draw.F.kp C__law_draw.b passA (da_cons (dv_var 0 (pv 0)) (da_cons (dv_int) (da_nil)))))) (dv_op op_subD (DVo (dv_var 1 (pv 1))) (DVo (dv_call C__law_pick.G (hr.mono (by decide)) (by rfl) C__law_pick.m C__law_pick.F.kp C__law_pick.b passA (da_cons (dv_var 0 (pv 0)) (da_cons (dv_lst (da_cons (dv_int) (da_cons (dv_int) (da_cons (dv_int) (da_cons (dv_int) (da_cons (dv_int) (da_nil))))))) (da_nil))))))))
theorem ok__law_names (T : Top K cl mg base w) : ∃ f fd, Fn P w K mg base cl 3 "_law_names" s__law_names P__law_names sem__law_names_3 f fd := by
  have T := T.pl
  obtain ⟨f__law_draw, fd__law_draw, C__law_draw⟩ := ok__law_draw (P := P) (w := w) (base := base) T
  obtain ⟨f__law_pick, fd__law_pick, C__law_pick⟩ := ok__law_pick (P := P) (w := w) (base := base) T
  obtain ⟨fd, F⟩ := T.f__law_names
  refine ⟨_, fd, F, fp_0 (N := N__law_names) (ps := P__law_names) (k := 2) sem__law_names_3 den__law_names_3 F sc__law_names (fun cdv A outer s H E W0 hr => ?_) rfl, T.g__law_names, FunD.bindsN F fun _ _ _ _ _ _ us hl => match us, hl with | [_, _], _ => rfl⟩
  exact dss_cons (ds_asg (t := (.tp [6, 7])) (dv_tup (da_cons (dv_str) (da_cons (dv_call C__law_draw.G (hr.mono (by decide)) (by rfl) C__law_draw.m C__law_draw.F.kp C__law_draw.b passA (da_cons (dv_var 0 (pv 0)) (da_cons (dv_int) (da_nil)))) (da_nil)))) (dg_tp rfl (dgs_cons sc__law_names.nd (dgs_cons sc__law_names.nd (dgs_nil))))) (dss_cons (ds_set 2 sc__law_names.nd (dv_join (dv_str) (DVo (dv_lc (own := [("_law_k", 5)]) (t := (.nm 5)) rfl sc__law_names.nd (di_range (by rfl) T.m_range (da_cons (dv_call C__law_draw.G (hr.mono (by decide)) (by rfl) C__law_draw.m C__law_draw.F.kp C__law_draw.b passA (da_cons (dv_var 0 (pv 0)) (da_cons (dv_int) (da_nil)))) (da_nil))) (blkOk_by (own := [("_law_k", 5)]) (N := N__law_names) (sc := defScope s__law_names) (by decide +kernel)) (fun _ _ _ _ _ => dg_nm sc__law_names.nd) (fun _ _ _ _ _ => dts_nil) (fun _ _ _ _ _ => dv_call C__law_pick.G (hr.mono (by decide)) (by rfl) C__law_pick.m C__law_pick.F.kp C__law_pick.b passA (da_cons (dv_var 0 (pv 0)) (da_cons (dv_var 6 (pv 6)) (da_nil)))) (by decide))))) (dss_cons (ds_par (i := 8) (j := 9) rfl sc__law_names.nd (da_cons (dv_call C__law_draw.G (hr.mono (by decide)) (by rfl) C__law_draw.m C__law_draw.F.kp C__law_draw.b passA (da_cons (dv_var 0 (pv 0)) (da_cons (dv_int) (da_nil)))) (da_cons (dv_call C__law_pick.G (hr.mono (by decide)) (by rfl) C__law_pick.m C__law_pick.F.kp C__law_pick.b passA (da_cons (dv_var 0 (pv 0)) (da_cons (dv_lst (da_cons (dv_int) (da_cons (dv_int) (da_cons (dv_int) (da_cons (dv_int) (da_cons (dv_int) (da_nil))))))) (da_nil)))) (da_nil)))) (dss_cons (ds_own 3 sc__law_names.nd (da_nil)) (dss_cons (ds_set 4 sc__law_names.nd (dv_call C__law_draw.G (hr.mono (by decide)) (by rfl) C__law_draw.m C__law_draw.F.kp C__law_draw.b passA (da_cons (dv_var 0 (pv 0)) (da_cons (dv_op op_addD (DVo (dv_callB cr_len (by rfl) T.m_len bt_len (dao_cons (DVo (dv_var 2 (pv 2))) (dao_nil)))) (DVo (dv_int))) (da_nil))))) (dss_cons (ds_for (t := (.nm 5)) PassesOwn.never rfl (di_range (by rfl) T.m_range (da_cons (dv_var 1 (pv 1)) (da_nil))) (dg_nm sc__law_names.nd) (dss_cons (ds_set 10 sc__law_names.nd (dv_ix (DVo (dv_var 6 (pv 6))) (DVo (dv_op op_modD (DVo (dv_callTy cr_intF (by rfl) T.m_int bt_int (dao_cons (DVo (dv_op op_addD (DVo (dv_var 8 (pv 8))) (DVo (dv_op op_mulD (DVo (dv_var 9 (pv 9))) (DVo (dv_var 5 (pv 5))))))) (dao_nil)))) (DVo (dv_int)))))) (dss_cons (ds_set 4 sc__law_names.nd (dv_if (dt_cmp op_gtD (DVo (dv_var 7 (pv 7))) (DVo (dv_int)) (nomark _)) (dv_call C__law_draw.G (hr.mono (by decide)) (by rfl) C__law_draw.m C__law_draw.F.kp C__law_draw.b passA (da_cons (dv_var 0 (pv 0)) (da_cons (dv_op op_addD (DVo (dv_callB cr_len (by rfl) T.m_len bt_len (dao_cons (DVo (dv_var 2 (pv 2))) (dao_nil)))) (DVo (dv_int))) (da_nil)))) (dv_var 4 (pv 4)))) (dss_one (ds_if (dt_cmp (op_eqDD (u64 hr)) (DVo (dv_var 7 (pv 7))) (DVo (dv_int)) (nomark _)) (dss_one (ds_app 3 (pv 3) (dv_op op_addD (DVo (dv_op op_addD (DVo (dv_sl (DVo (dv_var 2 (pv 2))) (dp_none) (dp_some (dv_var 4 (pv 4))))) (DVo (dv_var 10 (pv 10))))) (DVo (dv_sl (DVo (dv_var 2 (pv 2))) (dp_some (dv_var 4 (pv 4))) (dp_none)))))) (dss_one (ds_app 3 (pv 3) (dv_if (dt_cmp (op_eqDD (u64 hr)) (DVo (dv_var 7 (pv 7))) (DVo (dv_int)) (nomark _)) (dv_op op_addD (DVo (dv_var 10 (pv 10))) (DVo (dv_sl (DVo (dv_var 2 (pv 2))) (dp_none) (dp_some (dv_var 4 (pv 4)))))) (dv_op op_addD (DVo (dv_sl (DVo (dv_var 2 (pv 2))) (dp_none) (dp_some (dv_var 4 (pv 4))))) (DVo (dv_var 10 (pv 10)))))))))))) (dss_one (ds_retOwn 3 (pv 3))))))))
theorem ok__law_mixed (T : Top K cl mg base w) : ∃ f fd, Fn P w K mg base cl 2 "_law_mixed" s__law_mixed P__law_mixed sem__law_mixed_2 f fd := by
  have T := T.pl
  obtain ⟨f__law_draw, fd__law_draw, C__law_draw⟩ := ok__law_draw (P := P) (w := w) (base := base) T
  obtain ⟨fd, F⟩ := T.f__law_mixed
  refine ⟨_, fd, F, fp_0 (N := N__law_mixed) (ps := P__law_mixed) (k := 1) sem__law_mixed_2 den__law_mixed_2 F sc__law_mixed (fun cdv A outer s H E W0 hr => ?_) rfl, T.g__law_mixed, FunD.bindsN F fun _ _ _ _ _ _ us hl => match us, hl with | [_, _], _ => rfl⟩
  exact dss_cons (ds_own 2 sc__law_mixed.nd (da_nil)) (dss_cons (ds_for (t := (.nm 3)) PassesOwn.never rfl (di_val (dv_var 1 (pv 1))) (dg_nm sc__law_mixed.nd) (dss_one (ds_ins 2 (pv 2) (da_cons (dv_call C__law_draw.G (hr.mono (by decide)) (by rfl) C__law_draw.m C__law_draw.F.kp C__law_draw.b passA (da_cons (dv_var 0 (pv 0)) (da_cons (dv_op op_addD (DVo (dv_callB cr_len (by rfl) T.m_len bt_len (dao_cons (do_own 2 (pv 2)) (dao_nil)))) (DVo (dv_int))) (da_nil)))) (da_cons (dv_var 3 (pv 3)) (da_nil)))))) (dss_one (ds_retOwn 2 (pv 2))))
theorem ok__law_arcs (T : Top K cl mg base w) : ∃ f fd, Fn P w K mg base cl 1 "_law_arcs" s__law_arcs P__law_arcs sem__law_arcs f fd := by
  have T := T.pl
  obtain ⟨fd, F⟩ := T.f__law_arcs
  refine ⟨_, fd, F, fp_0 (N := N__law_arcs) (ps := P__law_arcs) (k := 0) sem__law_arcs den__law_arcs F sc__law_arcs (fun cdv A outer s H E W0 hr => ?_) rfl, T.g__law_arcs, FunD.bindsN F fun _ _ _ _ _ _ us hl => match us, hl with | [_], _ => rfl⟩
  exact dss_cons (ds_set 1 sc__law_arcs.nd (dv_int)) (dss_cons (ds_for (t := (.nm 2)) PassesOwn.never rfl (di_range (by rfl) T.m_range (da_cons (dv_callB cr_len (by rfl) T.m_len bt_len (dao_cons (DVo (dv_var 0 (pv 0))) (dao_nil))) (da_nil))) (dg_nm sc__law_arcs.nd) (dss_cons (ds_set 3 sc__law_arcs.nd (dv_int)) (dss_one (ds_for (t := (.nm 4)) PassesOwn.never rfl (di_val (dv_op op_addD (DVo (dv_sl (DVo (dv_var 0 (pv 0))) (dp_some (dv_var 2 (pv 2))) (dp_none))) (DVo (dv_sl (DVo (dv_var 0 (pv 0))) (dp_none) (dp_some (dv_var 2 (pv 2))))))) (dg_nm sc__law_arcs.nd) (dss_cons (ds_set 3 sc__law_arcs.nd (dv_op op_borD (DVo (dv_var 3 (pv 3))) (DVo (dv_op op_shlD (DVo (dv_int)) (DVo (dv_var 4 (pv 4))))))) (dss_one (ds_set 1 sc__law_arcs.nd (dv_op op_borD (DVo (dv_var 1 (pv 1))) (DVo (dv_op op_shlD (DVo (dv_int)) (DVo (dv_var 3 (pv 3))))))))))))) (dss_one (ds_ret (dv_var 1 (pv 1)))))
theorem ok__law_order (T : Top K cl mg base w) : ∃ f fd, Fn P w K mg base cl 1 "_law_order" s__law_order P__law_order sem__law_order f fd := by
  have T := T.pl
  obtain ⟨fd, F⟩ := T.f__law_order
  refine ⟨_, fd, F, fp_0 (N := N__law_order) (ps := P__law_order) (k := 0) sem__law_order den__law_order F sc__law_order (fun cdv A outer s H E W0 hr => ?_) rfl, T.g__law_order, FunD.bindsN F fun _ _ _ _ _ _ us hl => match us, hl with | [_, _], _ => rfl⟩
  exact dss_one (ds_ret (dv_callTy cr_tupleF (by rfl) T.m_tuple bt_tuple (dao_cons (DVo (dv_lc (own := [("_law_k", 2)]) (t := (.nm 2)) rfl sc__law_order.nd (di_val (dv_var 1 (pv 1))) (blkOk_by (own := [("_law_k", 2)]) (N := N__law_order) (sc := defScope s__law_order) (by decide +kernel)) (fun _ _ _ _ _ => dg_nm sc__law_order.nd) (fun _ _ _ _ _ => dts_nil) (fun _ _ _ _ _ => dv_ix (DVo (dv_var 0 (pv 0))) (DVo (dv_var 2 (pv 2)))) (by decide))) (dao_nil))))
theorem ok__law_same_at (n : Nat) : ∀ {cl : Cl} (T : Top K cl mg base w), ∃ f fd, Fn P w K mg base cl (1 + n) "_law_same" s__law_same P__law_same (sem__law_same_2 n) f fd := by
  induction n with
  | zero =>
    intro cl T
    obtain ⟨fd, F⟩ := T.f__law_same
    exact ⟨_, fd, F, ⟨fun vs H Q E h => by obtain ⟨_, _, _, _, _, h⟩ := h; exact h.elim, fun A outer s H args us vs Q E _ _ _ _ h => by obtain ⟨_, _, _, _, _, h⟩ := h; exact h.elim⟩, T.g__law_same, FunD.bindsN F fun _ _ _ _ _ _ us hl => match us, hl with | [_, _], _ => rfl⟩
  | succ n ih =>
    intro cl T
    have T := T.pl
    obtain ⟨f__law_same, fd__law_same, C__law_same⟩ := ih T
    obtain ⟨fd, F⟩ := T.f__law_same
    refine ⟨_, fd, F, fp_0 (N := N__law_same) (ps := P__law_same) (k := 1 + n) (sem__law_same_2 (n + 1)) (den__law_same_2 (sem__law_same_2 n)) F sc__law_same (fun cdv A outer s H E W0 hr => ?_) rfl, T.g__law_same, FunD.bindsN F fun _ _ _ _ _ _ us hl => match us, hl with | [_, _], _ => rfl⟩
    exact dss_cons (ds_if (DWt (dw_or (dt_cmp op_isND (DVo (dv_var 1 (pv 1))) (DVo (dv_non)) (nomark _)) (dw_or1 (dt_cmp op_isND (DVo (dv_var 0 (pv 0))) (DVo (dv_non)) (nomark _))))) (dss_one (ds_ret (dv_and (dv_cmp op_isND (DVo (dv_var 1 (pv 1))) (DVo (dv_non)) (nomark _)) (dv_one (dv_cmp op_isND (DVo (dv_var 0 (pv 0))) (DVo (dv_non)) (nomark _)))))) (dss_nil)) (dss_cons (ds_if (DWt (dw_or (dt_val (DVo (dv_callB cr_isi (by rfl) T.m_isinstance bt_isinstance (dao_cons (DVo (dv_var 1 (pv 1))) (dao_cons (DVo (dv_ty (by rfl) T.m_bool bt_bool)) dao_nil))))) (dw_or1 (dt_val (DVo (dv_callB cr_isi (by rfl) T.m_isinstance bt_isinstance (dao_cons (DVo (dv_var 0 (pv 0))) (dao_cons (DVo (dv_ty (by rfl) T.m_bool bt_bool)) dao_nil)))))))) (dss_one (ds_ret (dv_and (dv_callB cr_isi (by rfl) T.m_isinstance bt_isinstance (dao_cons (DVo (dv_var 1 (pv 1))) (dao_cons (DVo (dv_ty (by rfl) T.m_bool bt_bool)) dao_nil))) (dv_and (dv_callB cr_isi (by rfl) T.m_isinstance bt_isinstance (dao_cons (DVo (dv_var 0 (pv 0))) (dao_cons (DVo (dv_ty (by rfl) T.m_bool bt_bool)) dao_nil))) (dv_one (dv_cmp (op_eqDD (u64 hr)) (DVo (dv_var 0 (pv 0))) (DVo (dv_var 1 (pv 1))) (nomark _))))))) (dss_nil)) (dss_cons (ds_if (dt_val (DVo (dv_isiT (DVo (dv_var 1 (pv 1))) (pa_ty (by rfl) T.m_int bt_int (pa_ty (by rfl) T.m_str bt_str (pa_nil))) (by rfl) T.m_isinstance))) (dss_one (ds_ret (dv_and (dv_isiT (DVo (dv_var 0 (pv 0))) (pa_ty (by rfl) T.m_int bt_int (pa_ty (by rfl) T.m_str bt_str (pa_nil))) (by rfl) T.m_isinstance) (dv_and (dv_cmp (op_eqDD (u64 hr)) (DVo (dv_callB cr_isi (by rfl) T.m_isinstance bt_isinstance (dao_cons (DVo (dv_var 0 (pv 0))) (dao_cons (DVo (dv_ty (by rfl) T.m_int bt_int)) dao_nil)))) (DVo (dv_callB cr_isi (by rfl) T.m_isinstance bt_isinstance (dao_cons (DVo (dv_var 1 (pv 1))) (dao_cons (DVo (dv_ty (by rfl) T.m_int bt_int)) dao_nil)))) (nomark _)) (dv_one (dv_cmp (op_eqDD (u64 hr)) (DVo (dv_var 0 (pv 0))) (DVo (dv_var 1 (pv 1))) (nomark _))))))) (dss_nil)) (dss_cons (ds_if (DWt (dw_or (dt_cmp (op_neDD (u64 hr)) (DVo (dv_callB cr_isi (by rfl) T.m_isinstance bt_isinstance (dao_cons (DVo (dv_var 0 (pv 0))) (dao_cons (DVo (dv_ty (by rfl) T.m_list bt_list)) dao_nil)))) (DVo (dv_callB cr_isi (by rfl) T.m_isinstance bt_isinstance (dao_cons (DVo (dv_var 1 (pv 1))) (dao_cons (DVo (dv_ty (by rfl) T.m_list bt_list)) dao_nil)))) (nomark _)) (dw_or1 (dt_cmp (op_neDD (u64 hr)) (DVo (dv_callB cr_isi (by rfl) T.m_isinstance bt_isinstance (dao_cons (DVo (dv_var 0 (pv 0))) (dao_cons (DVo (dv_ty (by rfl) T.m_tuple bt_tuple)) dao_nil)))) (DVo (dv_callB cr_isi (by rfl) T.m_isinstance bt_isinstance (dao_cons (DVo (dv_var 1 (pv 1))) (dao_cons (DVo (dv_ty (by rfl) T.m_tuple bt_tuple)) dao_nil)))) (nomark _))))) (dss_one (ds_ret (dv_bl))) (dss_nil)) (dss_cons (ds_if (dt_val (DVo (dv_isiT (DVo (dv_var 1 (pv 1))) (pa_ty (by rfl) T.m_list bt_list (pa_ty (by rfl) T.m_tuple bt_tuple (pa_nil))) (by rfl) T.m_isinstance))) (dss_one (ds_ret (dv_and (dv_cmp (op_eqDD (u64 hr)) (DVo (dv_callB cr_len (by rfl) T.m_len bt_len (dao_cons (DVo (dv_var 0 (pv 0))) (dao_nil)))) (DVo (dv_callB cr_len (by rfl) T.m_len bt_len (dao_cons (DVo (dv_var 1 (pv 1))) (dao_nil)))) (nomark _)) (dv_one (dv_callB (cr_allD rfl) (by rfl) T.m_all bt_all (dao_cons (DVo (dv_lc (own := [("_law_k", 2)]) (t := (.nm 2)) rfl sc__law_same.nd (di_range (by rfl) T.m_range (da_cons (dv_callB cr_len (by rfl) T.m_len bt_len (dao_cons (DVo (dv_var 1 (pv 1))) (dao_nil))) (da_nil))) (blkOk_by (own := [("_law_k", 2)]) (N := N__law_same) (sc := defScope s__law_same) (by decide +kernel)) (fun _ _ _ _ _ => dg_nm sc__law_same.nd) (fun _ _ _ _ _ => dts_nil) (fun _ _ _ _ _ => dv_call C__law_same.G (hr.mono (by omega)) (by rfl) C__law_same.m C__law_same.F.kp C__law_same.b passA (da_cons (dv_ix (DVo (dv_var 0 (pv 0))) (DVo (dv_var 2 (pv 2)))) (da_cons (dv_ix (DVo (dv_var 1 (pv 1))) (DVo (dv_var 2 (pv 2)))) (da_nil)))) (by decide))) (dao_nil))))))) (dss_nil)) (dss_one (ds_ret (dv_cmp (op_eqDD (u64 hr)) (DVo (dv_var 0 (pv 0))) (DVo (dv_var 1 (pv 1))) (nomark _))))))))
theorem ok__law_same (T : Top K cl mg base w) : ∃ f fd, Fn P w K mg base cl 13 "_law_same" s__law_same P__law_same (sem__law_same_2 12) f fd := ok__law_same_at 12 T
theorem ok_is_order (T : Top K cl mg base w) : ∃ f fd, Fn P w K mg base cl 1 "is_order" s_is_order P_is_order sem_is_order f fd := by
  have T := T.pl
  obtain ⟨fd, F⟩ := T.f_is_order
  refine ⟨_, fd, F, fp_0 (N := N_is_order) (ps := P_is_order) (k := 0) sem_is_order den_is_order F sc_is_order (fun cdv A outer s H E W0 hr => ?_) rfl, T.g_is_order, FunD.bindsN F fun _ _ _ _ _ _ us hl => match us, hl with | [_, _], _ => rfl⟩
  exact dss_cons (ds_if (DWt (dw_or (dt_not (dt_val (DVo (dv_callB cr_isi (by rfl) T.m_isinstance bt_isinstance (dao_cons (DVo (dv_var 1 (pv 1))) (dao_cons (DVo (dv_ty (by rfl) T.m_tuple bt_tuple)) dao_nil)))))) (dw_or1 (dt_cmp (op_neDD (u64 hr)) (DVo (dv_callB cr_len (by rfl) T.m_len bt_len (dao_cons (DVo (dv_var 1 (pv 1))) (dao_nil)))) (DVo (dv_callB cr_len (by rfl) T.m_len bt_len (dao_cons (DVo (dv_var 0 (pv 0))) (dao_nil)))) (nomark _))))) (dss_one (ds_ret (dv_bl))) (dss_nil)) (dss_one (ds_ret (dv_and (dv_callB (cr_allD rfl) (by rfl) T.m_all bt_all (dao_cons (DVo (dv_lc (own := [("name", 2)]) (t := (.nm 2)) rfl sc_is_order.nd (di_val (dv_var 1 (pv 1))) (blkOk_by (own := [("name", 2)]) (N := N_is_order) (sc := defScope s_is_order) (by decide +kernel)) (fun _ _ _ _ _ => dg_nm sc_is_order.nd) (fun _ _ _ _ _ => dts_nil) (fun _ _ _ _ _ => dv_callB cr_isi (by rfl) T.m_isinstance bt_isinstance (dao_cons (DVo (dv_var 2 (pv 2))) (dao_cons (DVo (dv_ty (by rfl) T.m_str bt_str)) dao_nil))) (by decide))) (dao_nil))) (dv_one (dv_callB (cr_allD rfl) (by rfl) T.m_all bt_all (dao_cons (DVo (dv_lc (own := [("name", 2)]) (t := (.nm 2)) rfl sc_is_order.nd (di_val (dv_var 0 (pv 0))) (blkOk_by (own := [("name", 2)]) (N := N_is_order) (sc := defScope s_is_order) (by decide +kernel)) (fun _ _ _ _ _ => dg_nm sc_is_order.nd) (fun _ _ _ _ _ => dts_nil) (fun _ _ _ _ _ => dv_cmp (op_inDD (u65 hr)) (DVo (dv_var 2 (pv 2))) (DVo (dv_var 1 (pv 1))) rfl) (by decide))) (dao_nil)))))))
theorem ok_is_ring_order (T : Top K cl mg base w) : ∃ f fd, Fn P w K mg base cl 2 "is_ring_order" s_is_ring_order P_is_ring_order sem_is_ring_order f fd := by
  have T := T.pl
  obtain ⟨f_is_order, fd_is_order, C_is_order⟩ := ok_is_order (P := P) (w := w) (base := base) T
  obtain ⟨fd, F⟩ := T.f_is_ring_order
  refine ⟨_, fd, F, fp_0 (N := N_is_ring_order) (ps := P_is_ring_order) (k := 1) sem_is_ring_order den_is_ring_order F sc_is_ring_order (fun cdv A outer s H E W0 hr => ?_) rfl, T.g_is_ring_order, FunD.bindsN F fun _ _ _ _ _ _ us hl => match us, hl with | [_, _], _ => rfl⟩
  exact dss_one (ds_ret (dv_and (dv_call C_is_order.G (hr.mono (by decide)) (by rfl) C_is_order.m C_is_order.F.kp C_is_order.b passA (da_cons (dv_var 0 (pv 0)) (da_cons (dv_var 1 (pv 1)) (da_nil)))) (dv_one (dv_cmp (op_eqDD (u64 hr)) (DVo (dv_ix (DVo (dv_var 1 (pv 1))) (DVo (dv_int)))) (DVo (dv_callB (cr_minTD rfl (u64 hr)) (by rfl) T.m_min bt_min (dao_cons (DVo (dv_var 0 (pv 0))) (dao_nil)))) (nomark _)))))
theorem ok__law_odd_thing (T : Top K cl mg base w) : ∃ f fd, Fn P w K mg base cl 3 "_law_odd_thing" s__law_odd_thing P__law_odd_thing sem__law_odd_thing f fd := by
  have T := T.pl
  obtain ⟨f__law_pick, fd__law_pick, C__law_pick⟩ := ok__law_pick (P := P) (w := w) (base := base) T
  obtain ⟨fd, F⟩ := T.f__law_odd_thing
  refine ⟨_, fd, F, fp_0 (N := N__law_odd_thing) (ps := P__law_odd_thing) (k := 2) sem__law_odd_thing den__law_odd_thing F sc__law_odd_thing (fun cdv A outer s H E W0 hr => ?_) rfl, T.g__law_odd_thing, FunD.bindsN F fun _ _ _ _ _ _ us hl => match us, hl with | [_, _], _ => rfl⟩
  exact dss_one (ds_ret (dv_call C__law_pick.G (hr.mono (by decide)) (by rfl) C__law_pick.m C__law_pick.F.kp C__law_pick.b passA (da_cons (dv_var 0 (pv 0)) (da_cons (dv_lst (da_cons (dv_non) (da_cons (dv_bl) (da_cons (dv_int) (da_cons (dv_neg (DVo (dv_int))) (da_cons (dv_str) (da_cons (dv_str) (da_cons (dv_str) (da_cons (dv_tup (da_nil)) (da_cons (dv_lst (da_nil)) (da_cons (dv_lst (da_cons (dv_var 1 (pv 1)) (da_nil))) (da_cons (dv_tup (da_cons (dv_var 1 (pv 1)) (da_nil))) (da_cons (dv_tup (da_cons (dv_non) (da_cons (dv_var 1 (pv 1)) (da_nil)))) (da_nil)))))))))))))) (da_nil)))))
theorem ok__law_bent_ring (T : Top K cl mg base w) : ∃ f fd, Fn P w K mg base cl 4 "_law_bent_ring" s__law_bent_ring P__law_bent_ring sem__law_bent_ring f fd := by
  have T := T.pl
  obtain ⟨f__law_draw, fd__law_draw, C__law_draw⟩ := ok__law_draw (P := P) (w := w) (base := base) T
  obtain ⟨f__law_odd_thing, fd__law_odd_thing, C__law_odd_thing⟩ := ok__law_odd_thing (P := P) (w := w) (base := base) T
  obtain ⟨fd, F⟩ := T.f__law_bent_ring
  refine ⟨_, fd, F, fp_0 (N := N__law_bent_ring) (ps := P__law_bent_ring) (k := 3) sem__law_bent_ring den__law_bent_ring F sc__law_bent_ring (fun cdv A outer s H E W0 hr => ?_) rfl, T.g__law_bent_ring, FunD.bindsN F fun _ _ _ _ _ _ us hl => match us, hl with | [_, _, _], _ => rfl⟩
  exact dss_cons (ds_par (i := 3) (j := 4) rfl sc__law_bent_ring.nd (da_cons (dv_call C__law_draw.G (hr.mono (by decide)) (by rfl) C__law_draw.m C__law_draw.F.kp C__law_draw.b passA (da_cons (dv_var 0 (pv 0)) (da_cons (dv_callB cr_len (by rfl) T.m_len bt_len (dao_cons (DVo (dv_var 1 (pv 1))) (dao_nil))) (da_nil)))) (da_cons (dv_call C__law_draw.G (hr.mono (by decide)) (by rfl) C__law_draw.m C__law_draw.F.kp C__law_draw.b passA (da_cons (dv_var 0 (pv 0)) (da_cons (dv_int) (da_nil)))) (da_nil)))) (dss_cons (ds_if (dt_cmp op_ltD (DVo (dv_var 4 (pv 4))) (DVo (dv_int)) (nomark _)) (dss_one (ds_ret (dv_if (dt_cmp (op_eqDD (u64 hr)) (DVo (dv_var 4 (pv 4))) (DVo (dv_int)) (nomark _)) (dv_op op_addD (DVo (dv_sl (DVo (dv_var 1 (pv 1))) (dp_none) (dp_some (dv_int)))) (DVo (dv_revL (DVo (dv_sl (DVo (dv_var 1 (pv 1))) (dp_some (dv_int)) (dp_none)))))) (dv_op op_addD (DVo (dv_sl (DVo (dv_var 1 (pv 1))) (dp_some (dv_var 3 (pv 3))) (dp_none))) (DVo (dv_sl (DVo (dv_var 1 (pv 1))) (dp_none) (dp_some (dv_var 3 (pv 3))))))))) (dss_nil)) (dss_cons (ds_if (dt_cmp (op_eqDD (u64 hr)) (DVo (dv_var 4 (pv 4))) (DVo (dv_int)) (nomark _)) (dss_one (ds_ret (dv_callTy cr_listF (by rfl) T.m_list bt_list (dao_cons (DVo (dv_var 1 (pv 1))) (dao_nil))))) (dss_nil)) (dss_cons (ds_if (dt_cmp (op_eqDD (u64 hr)) (DVo (dv_var 4 (pv 4))) (DVo (dv_int)) (nomark _)) (dss_one (ds_ret (dv_op op_addD (DVo (dv_sl (DVo (dv_var 1 (pv 1))) (dp_none) (dp_some (dv_var 3 (pv 3))))) (DVo (dv_sl (DVo (dv_var 1 (pv 1))) (dp_some (dv_op op_addD (DVo (dv_var 3 (pv 3))) (DVo (dv_int)))) (dp_none)))))) (dss_nil)) (dss_cons (ds_if (dt_cmp (op_eqDD (u64 hr)) (DVo (dv_var 4 (pv 4))) (DVo (dv_int)) (nomark _)) (dss_one (ds_ret (dv_op op_addD (DVo (dv_var 1 (pv 1))) (DVo (dv_tup (da_cons (dv_ix (DVo (dv_var 1 (pv 1))) (DVo (dv_var 3 (pv 3)))) (da_nil))))))) (dss_nil)) (dss_cons (ds_if (dt_cmp (op_eqDD (u64 hr)) (DVo (dv_var 4 (pv 4))) (DVo (dv_int)) (nomark _)) (dss_one (ds_ret (dv_op op_addD (DVo (dv_op op_addD (DVo (dv_sl (DVo (dv_var 1 (pv 1))) (dp_none) (dp_some (dv_var 3 (pv 3))))) (DVo (dv_tup (da_cons (dv_ix (DVo (dv_var 1 (pv 1))) (DVo (dv_op op_subD (DVo (dv_var 3 (pv 3))) (DVo (dv_int))))) (da_nil)))))) (DVo (dv_sl (DVo (dv_var 1 (pv 1))) (dp_some (dv_op op_addD (DVo (dv_var 3 (pv 3))) (DVo (dv_int)))) (dp_none)))))) (dss_nil)) (dss_one (ds_ret (dv_if (dt_cmp (op_eqDD (u64 hr)) (DVo (dv_var 4 (pv 4))) (DVo (dv_int)) (nomark _)) (dv_op op_addD (DVo (dv_op op_addD (DVo (dv_sl (DVo (dv_var 1 (pv 1))) (dp_none) (dp_some (dv_var 3 (pv 3))))) (DVo (dv_tup (da_cons (dv_var 2 (pv 2)) (da_nil)))))) (DVo (dv_sl (DVo (dv_var 1 (pv 1))) (dp_some (dv_op op_addD (DVo (dv_var 3 (pv 3))) (DVo (dv_int)))) (dp_none)))) (dv_call C__law_odd_thing.G (hr.mono (by decide)) (by rfl) C__law_odd_thing.m C__law_odd_thing.F.kp C__law_odd_thing.b passA (da_cons (dv_var 0 (pv 0)) (da_cons (dv_ix (DVo (dv_var 1 (pv 1))) (DVo (dv_int))) (da_nil))))))))))))
theorem ok__law_is_name (T : Top K cl mg base w) : ∃ f fd, Fn P w K mg base cl 1 "_law_is_name" s__law_is_name P__law_is_name sem__law_is_name_3 f fd := by
  have T := T.pl
  obtain ⟨fd, F⟩ := T.f__law_is_name
  refine ⟨_, fd, F, fp_0 (N := N__law_is_name) (ps := P__law_is_name) (k := 0) sem__law_is_name_3 den__law_is_name_3 F sc__law_is_name (fun cdv A outer s H E W0 hr => ?_) rfl, T.g__law_is_name, FunD.bindsN F fun _ _ _ _ _ _ us hl => match us, hl with | [_], _ => rfl⟩
  exact dss_one (ds_ret (dv_and (dv_callB cr_isi (by rfl) T.m_isinstance bt_isinstance (dao_cons (DVo (dv_var 0 (pv 0))) (dao_cons (DVo (dv_ty (by rfl) T.m_str bt_str)) dao_nil))) (dv_and (dv_cmp op_ltD (DVo (dv_int)) (DVo (dv_callB cr_len (by rfl) T.m_len bt_len (dao_cons (DVo (dv_var 0 (pv 0))) (dao_nil)))) (nomark _)) (dv_and (dv_cmp op_ltD (DVo (dv_callB cr_len (by rfl) T.m_len bt_len (dao_cons (DVo (dv_var 0 (pv 0))) (dao_nil)))) (DVo (dv_int)) (nomark _)) (dv_one (dv_callB (cr_allD rfl) (by rfl) T.m_all bt_all (dao_cons (DVo (dv_lc (own := [("_law_sign", 1)]) (t := (.nm 1)) rfl sc__law_is_name.nd (di_val (dv_var 0 (pv 0))) (blkOk_by (own := [("_law_sign", 1)]) (N := N__law_is_name) (sc := defScope s__law_is_name) (by decide +kernel)) (fun _ _ _ _ _ => dg_nm sc__law_is_name.nd) (fun _ _ _ _ _ => dts_nil) (fun _ _ _ _ _ => dv_cmp (op_inDD (u65 hr)) (DVo (dv_var 1 (pv 1))) (DVo (dv_str)) rfl) (by decide))) (dao_nil))))))))
theorem ok__law_is_ring (T : Top K cl mg base w) : ∃ f fd, Fn P w K mg base cl 2 "_law_is_ring" s__law_is_ring P__law_is_ring sem__law_is_ring f fd := by
  have T := T.pl
  obtain ⟨f__law_is_name, fd__law_is_name, C__law_is_name⟩ := ok__law_is_name (P := P) (w := w) (base := base) T
  obtain ⟨fd, F⟩ := T.f__law_is_ring
  refine ⟨_, fd, F, fp_0 (N := N__law_is_ring) (ps := P__law_is_ring) (k := 1) sem__law_is_ring den__law_is_ring F sc__law_is_ring (fun cdv A outer s H E W0 hr => ?_) rfl, T.g__law_is_ring, FunD.bindsN F fun _ _ _ _ _ _ us hl => match us, hl with | [_, _], _ => rfl⟩
  exact dss_cons (ds_if (DWt (dw_or (dt_not (dt_val (DVo (dv_callB cr_isi (by rfl) T.m_isinstance bt_isinstance (dao_cons (DVo (dv_var 1 (pv 1))) (dao_cons (DVo (dv_ty (by rfl) T.m_tuple bt_tuple)) dao_nil)))))) (dw_or (dt_cmp (op_neDD (u64 hr)) (DVo (dv_callB cr_len (by rfl) T.m_len bt_len (dao_cons (DVo (dv_var 1 (pv 1))) (dao_nil)))) (DVo (dv_callB cr_len (by rfl) T.m_len bt_len (dao_cons (DVo (dv_var 0 (pv 0))) (dao_nil)))) (nomark _)) (dw_or1 (dt_not (dt_val (DVo (dv_callB (cr_allD rfl) (by rfl) T.m_all bt_all (dao_cons (DVo (dv_lc (own := [("_law_name", 2)]) (t := (.nm 2)) rfl sc__law_is_ring.nd (di_val (dv_var 1 (pv 1))) (blkOk_by (own := [("_law_name", 2)]) (N := N__law_is_ring) (sc := defScope s__law_is_ring) (by decide +kernel)) (fun _ _ _ _ _ => dg_nm sc__law_is_ring.nd) (fun _ _ _ _ _ => dts_nil) (fun _ _ _ _ _ => dv_call C__law_is_name.G (hr.mono (by decide)) (by rfl) C__law_is_name.m C__law_is_name.F.kp C__law_is_name.b passA (da_cons (dv_var 2 (pv 2)) (da_nil))) (by decide))) (dao_nil)))))))))) (dss_one (ds_ret (dv_bl))) (dss_nil)) (dss_one (ds_ret (dv_and (dv_cmp (op_eqDD (u64 hr)) (DVo (dv_ix (DVo (dv_var 1 (pv 1))) (DVo (dv_int)))) (DVo (dv_ix (DVo (dv_var 0 (pv 0))) (DVo (dv_int)))) (nomark _)) (dv_one (dv_callB (cr_allD rfl) (by rfl) T.m_all bt_all (dao_cons (DVo (dv_lc (own := [("_law_name", 2)]) (t := (.nm 2)) rfl sc__law_is_ring.nd (di_val (dv_var 0 (pv 0))) (blkOk_by (own := [("_law_name", 2)]) (N := N__law_is_ring) (sc := defScope s__law_is_ring) (by decide +kernel)) (fun _ _ _ _ _ => dg_nm sc__law_is_ring.nd) (fun _ _ _ _ _ => dts_nil) (fun _ _ _ _ _ => dv_cmp (op_inDD (u65 hr)) (DVo (dv_var 2 (pv 2))) (DVo (dv_var 1 (pv 1))) rfl) (by decide))) (dao_nil)))))))
theorem ok__law_lex (T : Top K cl mg base w) : ∃ f fd, Fn P w K mg base cl 1 "_law_lex" s__law_lex P__law_lex sem__law_lex f fd := by
  have T := T.pl
  obtain ⟨fd, F⟩ := T.f__law_lex
  refine ⟨_, fd, F, fp_0 (N := N__law_lex) (ps := P__law_lex) (k := 0) sem__law_lex den__law_lex F sc__law_lex (fun cdv A outer s H E W0 hr => ?_) rfl, T.g__law_lex, FunD.bindsN F fun _ _ _ _ _ _ us hl => match us, hl with | [_], _ => rfl⟩
  exact dss_cons (ds_set 1 sc__law_lex.nd (dv_lst (da_nil))) (dss_cons (ds_for (t := (.nm 2)) PassesOwn.never rfl (di_range (by rfl) T.m_range (da_cons (dv_var 0 (pv 0)) (da_nil))) (dg_nm sc__law_lex.nd) (dss_cons (ds_set 3 sc__law_lex.nd (dv_op op_shlD (DVo (dv_int)) (DVo (dv_op op_subD (DVo (dv_op op_subD (DVo (dv_var 0 (pv 0))) (DVo (dv_int)))) (DVo (dv_var 2 (pv 2))))))) (dss_one (ds_set 1 sc__law_lex.nd (dv_op op_addD (DVo (dv_op op_addD (DVo (dv_lst (da_cons (dv_var 3 (pv 3)) (da_nil)))) (DVo (dv_lc (own := [("_law_bits", 4)]) (t := (.nm 4)) rfl sc__law_lex.nd (di_val (dv_var 1 (pv 1))) (blkOk_by (own := [("_law_bits", 4)]) (N := N__law_lex) (sc := defScope s__law_lex) (by decide +kernel)) (fun _ _ _ _ _ => dg_nm sc__law_lex.nd) (fun _ _ _ _ _ => dts_nil) (fun _ _ _ _ _ => dv_op op_borD (DVo (dv_var 3 (pv 3))) (DVo (dv_var 4 (pv 4)))) (by decide))))) (DVo (dv_var 1 (pv 1)))))))) (dss_one (ds_ret (dv_var 1 (pv 1)))))
theorem ok__law_some_lots (T : Top K cl mg base w) : ∃ f fd, Fn P w K mg base cl 2 "_law_some_lots" s__law_some_lots P__law_some_lots sem__law_some_lots f fd := by
  have T := T.pl
  obtain ⟨f__law_lex, fd__law_lex, C__law_lex⟩ := ok__law_lex (P := P) (w := w) (base := base) T
  obtain ⟨f__law_draw, fd__law_draw, C__law_draw⟩ := ok__law_draw (P := P) (w := w) (base := base) T
  obtain ⟨fd, F⟩ := T.f__law_some_lots
  refine ⟨_, fd, F, fp_0 (N := N__law_some_lots) (ps := P__law_some_lots) (k := 1) sem__law_some_lots den__law_some_lots F sc__law_some_lots (fun cdv A outer s H E W0 hr => ?_) rfl, T.g__law_some_lots, FunD.bindsN F fun _ _ _ _ _ _ us hl => match us, hl with | [_, _, _], _ => rfl⟩
  exact dss_cons (ds_if (dt_cmp op_leD (DVo (dv_var 1 (pv 1))) (DVo (dv_int)) (nomark _)) (dss_one (ds_ret (dv_call C__law_lex.G (hr.mono (by decide)) (by rfl) C__law_lex.m C__law_lex.F.kp C__law_lex.b passA (da_cons (dv_var 1 (pv 1)) (da_nil))))) (dss_nil)) (dss_one (ds_ret (dv_lc (own := [("_law_k", 3)]) (t := (.nm 3)) rfl sc__law_some_lots.nd (di_range (by rfl) T.m_range (da_cons (dv_var 2 (pv 2)) (da_nil))) (blkOk_by (own := [("_law_k", 3)]) (N := N__law_some_lots) (sc := defScope s__law_some_lots) (by decide +kernel)) (fun _ _ _ _ _ => dg_nm sc__law_some_lots.nd) (fun _ _ _ _ _ => dts_nil) (fun _ _ _ _ _ => dv_op op_addD (DVo (dv_int)) (DVo (dv_call C__law_draw.G (hr.mono (by decide)) (by rfl) C__law_draw.m C__law_draw.F.kp C__law_draw.b passA (da_cons (dv_var 0 (pv 0)) (da_cons (dv_op op_subD (DVo (dv_op op_shlD (DVo (dv_int)) (DVo (dv_var 1 (pv 1))))) (DVo (dv_int))) (da_nil)))))) (by decide))))
theorem ok_rest (T : Top K cl mg base w) : ∃ f fd, Fn P w K mg base cl 1 "rest" s_rest P_rest sem_rest f fd := by
  have T := T.pl
  obtain ⟨fd, F⟩ := T.f_rest
  refine ⟨_, fd, F, fp_0 (N := N_rest) (ps := P_rest) (k := 0) sem_rest den_rest F sc_rest (fun cdv A outer s H E W0 hr => ?_) rfl, T.g_rest, FunD.bindsN F fun _ _ _ _ _ _ us hl => match us, hl with | [_, _], _ => rfl⟩
  exact dss_one (ds_ret (dv_callTy cr_tupleF (by rfl) T.m_tuple bt_tuple (dao_cons (DVo (dv_lc (own := [("name", 2)]) (t := (.nm 2)) rfl sc_rest.nd (di_val (dv_var 0 (pv 0))) (blkOk_by (own := [("name", 2)]) (N := N_rest) (sc := defScope s_rest) (by decide +kernel)) (fun _ _ _ _ _ => dg_nm sc_rest.nd) (fun _ _ _ _ _ => dts_one (dt_cmp (op_nInDD (u65 hr)) (DVo (dv_var 2 (pv 2))) (DVo (dv_var 1 (pv 1))) rfl)) (fun _ _ _ _ _ => dv_var 2 (pv 2)) (by decide))) (dao_nil))))
theorem ok_stretch_of (T : Top K cl mg base w) : ∃ f fd, Fn P w K mg base cl 1 "stretch_of" s_stretch_of P_stretch_of sem_stretch_of f fd := by
  have T := T.pl
  obtain ⟨fd, F⟩ := T.f_stretch_of
  refine ⟨_, fd, F, fp_0 (N := N_stretch_of) (ps := P_stretch_of) (k := 0) sem_stretch_of den_stretch_of F sc_stretch_of (fun cdv A outer s H E W0 hr => ?_) rfl, T.g_stretch_of, FunD.bindsN F fun _ _ _ _ _ _ us hl => match us, hl with | [_, _], _ => rfl⟩
  exact dss_cons (ds_setLc 2 (own := [("name", 3)]) (t := (.nm 3)) rfl sc_stretch_of.nd (di_val (dv_var 0 (pv 0))) (blkOk_by (own := [("name", 3)]) (N := N_stretch_of) (sc := defScope s_stretch_of) (by decide +kernel)) (fun _ _ _ _ _ => dg_nm sc_stretch_of.nd) (fun _ _ _ _ _ => dts_nil) (fun _ _ _ _ _ => dv_cmp (op_inDD (u65 hr)) (DVo (dv_var 3 (pv 3))) (DVo (dv_var 1 (pv 1))) rfl) (by decide) (sw_true rfl rfl rfl (by decide +kernel))) (dss_one (ds_ret (dv_sl (DVo (dv_var 0 (pv 0))) (dp_some (dv_index (DVo (dv_var 2 (pv 2))) (dv_bl))) (dp_some (dv_op op_subD (DVo (dv_callB cr_len (by rfl) T.m_len bt_len (dao_cons (DVo (dv_var 0 (pv 0))) (dao_nil)))) (DVo (dv_index (DVo (dv_revL (DVo (dv_var 2 (pv 2))))) (dv_bl))))))))
theorem ok_keeps (T : Top K cl mg base w) : ∃ f fd, Fn P w K mg base cl 2 "keeps" s_keeps P_keeps sem_keeps f fd := by
  have T := T.pl
  obtain ⟨f_stretch_of, fd_stretch_of, C_stretch_of⟩ := ok_stretch_of (P := P) (w := w) (base := base) T
  obtain ⟨fd, F⟩ := T.f_keeps
  refine ⟨_, fd, F, fp_0 (N := N_keeps) (ps := P_keeps) (k := 1) sem_keeps den_keeps F sc_keeps (fun cdv A outer s H E W0 hr => ?_) rfl, T.g_keeps, FunD.bindsN F fun _ _ _ _ _ _ us hl => match us, hl with | [_, _], _ => rfl⟩
  exact dss_one (ds_ret (dv_cmp (op_eqDD (u64 hr)) (DVo (dv_callB cr_len (by rfl) T.m_len bt_len (dao_cons (DVo (dv_call C_stretch_of.G (hr.mono (by decide)) (by rfl) C_stretch_of.m C_stretch_of.F.kp C_stretch_of.b passA (da_cons (dv_var 0 (pv 0)) (da_cons (dv_var 1 (pv 1)) (da_nil))))) (dao_nil)))) (DVo (dv_callB cr_len (by rfl) T.m_len bt_len (dao_cons (DVo (dv_var 1 (pv 1))) (dao_nil)))) (nomark _)))
theorem ok_is_arc (T : Top K cl mg base w) : ∃ f fd, Fn P w K mg base cl 3 "is_arc" s_is_arc P_is_arc sem_is_arc f fd := by
  have T := T.pl
  obtain ⟨f_rest, fd_rest, C_rest⟩ := ok_rest (P := P) (w := w) (base := base) T
  obtain ⟨f_keeps, fd_keeps, C_keeps⟩ := ok_keeps (P := P) (w := w) (base := base) T
  obtain ⟨fd, F⟩ := T.f_is_arc
  refine ⟨_, fd, F, fp_0 (N := N_is_arc) (ps := P_is_arc) (k := 2) sem_is_arc den_is_arc F sc_is_arc (fun cdv A outer s H E W0 hr => ?_) rfl, T.g_is_arc, FunD.bindsN F fun _ _ _ _ _ _ us hl => match us, hl with | [_, _], _ => rfl⟩
  exact dss_cons (ds_set 2 sc_is_arc.nd (dv_call C_rest.G (hr.mono (by decide)) (by rfl) C_rest.m C_rest.F.kp C_rest.b passA (da_cons (dv_callTy cr_tupleF (by rfl) T.m_tuple bt_tuple (dao_cons (DVo (dv_callB cr_sortedD (by rfl) T.m_sorted bt_sorted (dao_cons (DVo (dv_var 0 (pv 0))) (dao_nil)))) (dao_nil))) (da_cons (dv_var 1 (pv 1)) (da_nil))))) (dss_one (ds_ret (dv_or (dv_cmp (op_eqDD (u64 hr)) (DVo (dv_var 2 (pv 2))) (DVo (dv_tup (da_nil))) (nomark _)) (dv_or (dv_call C_keeps.G (hr.mono (by decide)) (by rfl) C_keeps.m C_keeps.F.kp C_keeps.b passA (da_cons (dv_var 0 (pv 0)) (da_cons (dv_var 1 (pv 1)) (da_nil)))) (dv_one (dv_call C_keeps.G (hr.mono (by decide)) (by rfl) C_keeps.m C_keeps.F.kp C_keeps.b passA (da_cons (dv_var 0 (pv 0)) (da_cons (dv_var 2 (pv 2)) (da_nil)))))))))
theorem ok__law_lot (T : Top K cl mg base w) : ∃ f fd, Fn P w K mg base cl 1 "_law_lot" s__law_lot P__law_lot sem__law_lot_2 f fd := by
  have T := T.pl
  obtain ⟨fd, F⟩ := T.f__law_lot
  refine ⟨_, fd, F, fp_0 (N := N__law_lot) (ps := P__law_lot) (k := 0) sem__law_lot_2 den__law_lot_2 F sc__law_lot (fun cdv A outer s H E W0 hr => ?_) rfl, T.g__law_lot, FunD.bindsN F fun _ _ _ _ _ _ us hl => match us, hl with | [_, _], _ => rfl⟩
  exact dss_one (ds_ret (dv_callTy cr_tupleF (by rfl) T.m_tuple bt_tuple (dao_cons (DVo (dv_lc (own := [("_law_k", 2)]) (t := (.nm 2)) rfl sc__law_lot.nd (di_range (by rfl) T.m_range (da_cons (dv_callB cr_len (by rfl) T.m_len bt_len (dao_cons (DVo (dv_var 0 (pv 0))) (dao_nil))) (da_nil))) (blkOk_by (own := [("_law_k", 2)]) (N := N__law_lot) (sc := defScope s__law_lot) (by decide +kernel)) (fun _ _ _ _ _ => dg_nm sc__law_lot.nd) (fun _ _ _ _ _ => dts_one (dt_cmp (op_eqDD (u64 hr)) (DVo (dv_op op_bandD (DVo (dv_op op_shrD (DVo (dv_var 1 (pv 1))) (DVo (dv_var 2 (pv 2))))) (DVo (dv_int)))) (DVo (dv_int)) (nomark _))) (fun _ _ _ _ _ => dv_ix (DVo (dv_var 0 (pv 0))) (DVo (dv_var 2 (pv 2)))) (by decide))) (dao_nil))))
theorem ok_place_in (T : Top K cl mg base w) : ∃ f fd, FnE P w K mg base cl 3 "place_in" s_place_in P_place_in sem_place_in f fd := by
  have T := T.pl
  obtain ⟨fd, F⟩ := T.f_place_in
  refine ⟨_, fd, F, fp_E (N := N_place_in) (ps := P_place_in) (k := 2) sem_place_in den_place_in F sc_place_in (fun cdv A outer s H E W0 hr => ?_) rfl, T.g_place_in, FunD.bindsN F fun _ _ _ _ _ _ us hl => match us, hl with | [_, _], _ => rfl⟩
  exact dss_cons (ds_if (DWt (dw_or (dt_not (dt_val (DVo (dv_callB cr_isi (by rfl) T.m_isinstance bt_isinstance (dao_cons (DVo (dv_var 1 (pv 1))) (dao_cons (DVo (dv_ty (by rfl) T.m_str bt_str)) dao_nil)))))) (dw_or1 (dt_cmp (op_nInDD (u65 hr)) (DVo (dv_var 1 (pv 1))) (DVo (dv_var 0 (pv 0))) rfl)))) (dss_one (ds_raise (c := 34) rfl (takes_of rfl rfl rfl rfl) (by decide) (mk_UnknownFind T (hr.mono (by decide)) (by rfl) (da_cons (dv_var 1 (pv 1)) (da_nil))))) (dss_nil)) (dss_one (ds_ret (dv_index (DVo (dv_var 0 (pv 0))) (dv_var 1 (pv 1)))))
theorem ok_opened (T : Top K cl mg base w) : ∃ f fd, FnE P w K mg base cl 4 "opened" s_opened P_opened sem_opened f fd := by
  have T := T.pl
  obtain ⟨f_place_in, fd_place_in, C_place_in⟩ := ok_place_in (P := P) (w := w) (base := base) T
  obtain ⟨fd, F⟩ := T.f_opened
  refine ⟨_, fd, F, fp_E (N := N_opened) (ps := P_opened) (k := 3) sem_opened den_opened F sc_opened (fun cdv A outer s H E W0 hr => ?_) rfl, T.g_opened, FunD.bindsN F fun _ _ _ _ _ _ us hl => match us, hl with | [_, _], _ => rfl⟩
  exact dss_cons (ds_set 2 sc_opened.nd (dv_call C_place_in.G (hr.mono (by decide)) (by rfl) C_place_in.m C_place_in.F.kp C_place_in.b (passE (takes_of rfl rfl rfl rfl)) (da_cons (dv_var 0 (pv 0)) (da_cons (dv_var 1 (pv 1)) (da_nil))))) (dss_one (ds_ret (dv_op op_addD (DVo (dv_sl (DVo (dv_var 0 (pv 0))) (dp_some (dv_op op_addD (DVo (dv_var 2 (pv 2))) (DVo (dv_int)))) (dp_none))) (DVo (dv_sl (DVo (dv_var 0 (pv 0))) (dp_none) (dp_some (dv_var 2 (pv 2))))))))
theorem ok__law_opened_so (T : Top K cl mg base w) : ∃ f fd, FnE P w K mg base cl 14 "_law_opened_so" s__law_opened_so P__law_opened_so sem__law_opened_so f fd := by
  have T := T.pl
  obtain ⟨f__law_same, fd__law_same, C__law_same⟩ := ok__law_same (P := P) (w := w) (base := base) T
  obtain ⟨f__law_order, fd__law_order, C__law_order⟩ := ok__law_order (P := P) (w := w) (base := base) T
  obtain ⟨f_opened, fd_opened, C_opened⟩ := ok_opened (P := P) (w := w) (base := base) T
  obtain ⟨fd, F⟩ := T.f__law_opened_so
  refine ⟨_, fd, F, fp_E (N := N__law_opened_so) (ps := P__law_opened_so) (k := 13) sem__law_opened_so den__law_opened_so F sc__law_opened_so (fun cdv A outer s H E W0 hr => ?_) rfl, T.g__law_opened_so, FunD.bindsN F fun _ _ _ _ _ _ us hl => match us, hl with | [_, _, _], _ => rfl⟩
  exact dss_cons (ds_set 3 sc__law_opened_so.nd (dv_op op_addD (DVo (dv_sl (DVo (dv_var 0 (pv 0))) (dp_some (dv_op op_addD (DVo (dv_var 2 (pv 2))) (DVo (dv_int)))) (dp_none))) (DVo (dv_sl (DVo (dv_var 0 (pv 0))) (dp_none) (dp_some (dv_var 2 (pv 2))))))) (dss_one (ds_ret (dv_call C__law_same.G (hr.mono (by decide)) (by rfl) C__law_same.m C__law_same.F.kp C__law_same.b passA (da_cons (dv_call C_opened.G (hr.mono (by decide)) (by rfl) C_opened.m C_opened.F.kp C_opened.b (passE (takes_of rfl rfl rfl rfl)) (da_cons (dv_call C__law_order.G (hr.mono (by decide)) (by rfl) C__law_order.m C__law_order.F.kp C__law_order.b passA (da_cons (dv_var 1 (pv 1)) (da_cons (dv_var 0 (pv 0)) (da_nil)))) (da_cons (dv_ix (DVo (dv_var 1 (pv 1))) (DVo (dv_ix (DVo (dv_var 0 (pv 0))) (DVo (dv_var 2 (pv 2)))))) (da_nil)))) (da_cons (dv_call C__law_order.G (hr.mono (by decide)) (by rfl) C__law_order.m C__law_order.F.kp C__law_order.b passA (da_cons (dv_var 1 (pv 1)) (da_cons (dv_var 3 (pv 3)) (da_nil)))) (da_nil))))))
theorem ok__law_fields (T : Top K cl mg base w) : ∃ f fd, FnH1 P w K mg base cl 1 "_law_fields" "_law_e" s__law_fields sem__law_fields_8 f fd := by
  obtain ⟨fd, F⟩ := T.f__law_fields
  refine ⟨_, fd, F, fn_X (N := N__law_fields) (k := 0) sem__law_fields_8 den__law_fields_8 F sc__law_fields (by simp) (fun cdv A outer s H p cl2 W0 hX hc hf0 hr => ?_) (fun y st _ => rfl), T.g__law_fields, FunD.bindsN F fun _ _ _ _ _ _ us hl => match us, hl with | [_], _ => rfl⟩
  exact dss_cons (ds_if (dt_cmp (op_inDD (u65H hr)) (DVo (dv_xf 0 hX (xat_cl hc T.x_at) (by decide) (pv 0))) (DVo (dv_tup (da_cons (dv_str) (da_cons (dv_str) (da_nil))))) rfl) (dss_one (ds_ret (dv_tup (da_cons (dv_xf 0 hX (xat_cl hc T.x_at) (by decide) (pv 0)) (da_nil))))) (dss_nil)) (dss_cons (ds_if (dt_cmp (op_inDD (u65H hr)) (DVo (dv_xf 0 hX (xat_cl hc T.x_at) (by decide) (pv 0))) (DVo (dv_tup (da_cons (dv_str) (da_cons (dv_str) (da_cons (dv_str) (da_cons (dv_str) (da_nil))))))) rfl) (dss_one (ds_ret (dv_tup (da_cons (dv_xf 0 hX (xat_cl hc T.x_at) (by decide) (pv 0)) (da_nil))))) (dss_nil)) (dss_cons (ds_if (dt_cmp (op_inDD (u65H hr)) (DVo (dv_xf 0 hX (xat_cl hc T.x_at) (by decide) (pv 0))) (DVo (dv_tup (da_cons (dv_str) (da_cons (dv_str) (da_cons (dv_str) (da_cons (dv_str) (da_nil))))))) rfl) (dss_one (ds_ret (dv_tup (da_cons (dv_xf 0 hX (xat_cl hc T.x_at) (by decide) (pv 0)) (da_nil))))) (dss_nil)) (dss_cons (ds_if (dt_cmp (op_inDD (u65H hr)) (DVo (dv_xf 0 hX (xat_cl hc T.x_at) (by decide) (pv 0))) (DVo (dv_tup (da_cons (dv_str) (da_cons (dv_str) (da_nil))))) rfl) (dss_one (ds_ret (dv_if (dt_cmp (op_eqDD (u64H hr)) (DVo (dv_xf 0 hX (xat_cl hc T.x_at) (by decide) (pv 0))) (DVo (dv_str)) (nomark _)) (dv_tup (da_cons (dv_xf 0 hX (xat_cl hc T.x_at) (by decide) (pv 0)) (da_nil))) (dv_tup (da_cons (dv_xf 0 hX (xat_cl hc T.x_at) (by decide) (pv 0)) (da_nil)))))) (dss_nil)) (dss_cons (ds_if (dt_cmp (op_inDD (u65H hr)) (DVo (dv_xf 0 hX (xat_cl hc T.x_at) (by decide) (pv 0))) (DVo (dv_tup (da_cons (dv_str) (da_cons (dv_str) (da_nil))))) rfl) (dss_one (ds_ret (dv_tup (da_cons (dv_xf 0 hX (xat_cl hc T.x_at) (by decide) (pv 0)) (da_nil))))) (dss_nil)) (dss_one (ds_ret (dv_if (dt_cmp (op_eqDD (u64H hr)) (DVo (dv_xf 0 hX (xat_cl hc T.x_at) (by decide) (pv 0))) (DVo (dv_str)) (nomark _)) (dv_tup (da_cons (dv_xf 0 hX (xat_cl hc T.x_at) (by decide) (pv 0)) (da_cons (dv_xf 0 hX (xat_cl hc T.x_at) (by decide) (pv 0)) (da_cons (dv_xf 0 hX (xat_cl hc T.x_at) (by decide) (pv 0)) (da_nil))))) (dv_tup (da_nil)))))))))
theorem gv__law_try {X : Cx} {cl : Cl} (T : Top X.K cl X.mg X.base X.w) (hr : Room 3 X.A) (q : Str) (cdv : Value) : LamX.GivesTo X N__law_try "_law_try" (defScope s__law_try) (He.ga X.K "_law_try") cdv (defBody s__law_try) "_law_ask" q (TTry X.K cl "" (okC [34]) hF__law_try_9) := by
  obtain ⟨f__law_fields, fd__law_fields, C__law_fields⟩ := ok__law_fields (P := X.prog) (w := X.w) (base := X.base) T
  exact gives_tryA (i := 2) (w := 1) (cs := (["FindError", "Missing"] : List Str).map fun y => .ref (He.ga X.K y)) sc__law_try.nd rfl rfl (by decide) rfl rfl (fun s H => tst2 ⟨by rfl, by decide, .inl T.g_FindError⟩ ⟨by rfl, by decide, .inl T.g_Missing⟩) T.cat0 (fun f => rfl) (fun f => rfl) (by decide) (fun s H => dv_tup (da_cons (dv_str) (da_cons (dv_non) (da_nil)))) (fun ρ st => rfl) (fun s H b oe pn cl2 hX hc hT => dv_tup (da_cons (dv_xf 2 hX (xat_cl hc T.x_at) (by decide) (pv 2)) (da_cons (dv_callX hX C__law_fields.G hc hT (room_suite (hr.mono (by decide))) (by rfl) C__law_fields.m C__law_fields.F.kp C__law_fields.b (pv 2)) (da_nil)))) (fun y st => rfl) (fun s H => rfl) (fun s H => rfl) (fun s H => rfl)
theorem gv2__law_raises {X : Cx} {cl : Cl} (T : Top X.K cl X.mg X.base X.w) {k : Nat} (hk : 11 ≤ k) (q : Str) (cdv : Value) : ∃ cT, Gives2 X k N__law_raises "_law_raises" (defScope s__law_raises) (He.ga X.K "_law_raises") cdv (defBody s__law_raises) N__law_try "_law_try" (defScope s__law_try) (He.ga X.K "_law_try") cT "_law_ask" q (TRaise X.K cl "" (okC [34]) hF__law_try_9 (sem__law_same_2 12)) := by
  obtain ⟨f__law_same, fd__law_same, C__law_same⟩ := ok__law_same (P := X.prog) (w := X.w) (base := X.base) T
  obtain ⟨fd__law_try, F__law_try⟩ := T.f__law_try
  have B__law_try : Binds X.K fd__law_try P__law_try [] := FunD.bindsN F__law_try fun _ _ _ _ _ _ us hl => match us, hl with | [_], _ => rfl
  exact gives2_raise (fun s H => by rfl) T.g__law_try F__law_try B__law_try sc__law_try (fun cdv2 s H hr => gv__law_try (X := rCx X N__law_raises "_law_raises" (defScope s__law_raises) (He.ga X.K "_law_raises") cdv s H) T (hr.mono (by omega)) q cdv2) C__law_same.G (by omega) (fun s H => by rfl) C__law_same.m C__law_same.F.kp C__law_same.b rfl rfl (Or.inl rfl) (Or.inl rfl) (fun f v => ⟨rfl, rfl⟩)
theorem ok_law (T : Top K cl mg base w) : ∃ f fd, FnE P w K mg base cl 15 "law" s_law P_law sem_law_20 f fd := by
  have T := T.pl
  obtain ⟨f__law_bag, fd__law_bag, C__law_bag⟩ := ok__law_bag (P := P) (w := w) (base := base) T
  obtain ⟨f__law_size, fd__law_size, C__law_size⟩ := ok__law_size (P := P) (w := w) (base := base) T
  obtain ⟨f__law_pick, fd__law_pick, C__law_pick⟩ := ok__law_pick (P := P) (w := w) (base := base) T
  obtain ⟨f__law_names, fd__law_names, C__law_names⟩ := ok__law_names (P := P) (w := w) (base := base) T
  obtain ⟨f__law_mixed, fd__law_mixed, C__law_mixed⟩ := ok__law_mixed (P := P) (w := w) (base := base) T
  obtain ⟨f__law_arcs, fd__law_arcs, C__law_arcs⟩ := ok__law_arcs (P := P) (w := w) (base := base) T
  obtain ⟨f__law_order, fd__law_order, C__law_order⟩ := ok__law_order (P := P) (w := w) (base := base) T
  obtain ⟨f__law_same, fd__law_same, C__law_same⟩ := ok__law_same (P := P) (w := w) (base := base) T
  obtain ⟨f_is_ring_order, fd_is_ring_order, C_is_ring_order⟩ := ok_is_ring_order (P := P) (w := w) (base := base) T
  obtain ⟨f__law_bent_ring, fd__law_bent_ring, C__law_bent_ring⟩ := ok__law_bent_ring (P := P) (w := w) (base := base) T
  obtain ⟨f__law_is_ring, fd__law_is_ring, C__law_is_ring⟩ := ok__law_is_ring (P := P) (w := w) (base := base) T
  obtain ⟨f__law_some_lots, fd__law_some_lots, C__law_some_lots⟩ := ok__law_some_lots (P := P) (w := w) (base := base) T
  obtain ⟨f_is_arc, fd_is_arc, C_is_arc⟩ := ok_is_arc (P := P) (w := w) (base := base) T
  obtain ⟨f__law_lot, fd__law_lot, C__law_lot⟩ := ok__law_lot (P := P) (w := w) (base := base) T
  obtain ⟨f__law_opened_so, fd__law_opened_so, C__law_opened_so⟩ := ok__law_opened_so (P := P) (w := w) (base := base) T
  obtain ⟨f__law_odd_thing, fd__law_odd_thing, C__law_odd_thing⟩ := ok__law_odd_thing (P := P) (w := w) (base := base) T
  obtain ⟨fd__law_raises, F__law_raises⟩ := T.f__law_raises
  have B__law_raises : Binds K fd__law_raises P__law_raises [] := FunD.bindsN F__law_raises fun _ _ _ _ _ _ us hl => match us, hl with | [_, _], _ => rfl
  obtain ⟨f_opened, fd_opened, C_opened⟩ := ok_opened (P := P) (w := w) (base := base) T
  obtain ⟨fd, F⟩ := T.f_law
  refine ⟨_, fd, F, fp_TE (at_ := ("law", none)) (N := N_law) (ps := P_law) (k := 14) sem_law_20 den_law_20 F rfl sc_law (fun A outer s H E W0 hr => ?_) rfl, T.g_law, FunD.bindsN F fun _ _ _ _ _ _ us hl => match us, hl with | [_], _ => rfl⟩
  exact dss_cons (ds_set 1 sc_law.nd (dv_call C__law_bag.G (hr.mono (by decide)) (by rfl) C__law_bag.m C__law_bag.F.kp C__law_bag.b passA (da_cons (dv_var 0 (pv 0)) (da_nil)))) (dss_cons (ds_set 2 sc_law.nd (dv_callB (cr_maxD rfl) (by rfl) T.m_max bt_max (dao_cons (DVo (dv_int)) (dao_cons (DVo (dv_callTy cr_intF (by rfl) T.m_int bt_int (dao_cons (DVo (dv_call C__law_size.G (hr.mono (by decide)) (by rfl) C__law_size.m C__law_size.F.kp C__law_size.b passA (da_cons (dv_var 1 (pv 1)) (da_cons (dv_call C__law_pick.G (hr.mono (by decide)) (by rfl) C__law_pick.m C__law_pick.F.kp C__law_pick.b passA (da_cons (dv_var 1 (pv 1)) (da_cons (dv_lst (da_cons (dv_int) (da_cons (dv_int) (da_cons (dv_int) (da_cons (dv_int) (da_nil)))))) (da_nil)))) (da_nil))))) (dao_nil)))) (dao_nil))))) (dss_cons (ds_set 3 sc_law.nd (dv_call C__law_names.G (hr.mono (by decide)) (by rfl) C__law_names.m C__law_names.F.kp C__law_names.b passA (da_cons (dv_var 1 (pv 1)) (da_cons (dv_op op_addD (DVo (dv_var 2 (pv 2))) (DVo (dv_int))) (da_nil))))) (dss_cons (ds_set 4 sc_law.nd (dv_callB cr_sortedD (by rfl) T.m_sorted bt_sorted (dao_cons (DVo (dv_lc (own := [("_law_name", 15)]) (t := (.nm 15)) rfl sc_law.nd (di_val (dv_sl (DVo (dv_var 3 (pv 3))) (dp_some (dv_int)) (dp_none))) (blkOk_by (own := [("_law_name", 15)]) (N := N_law) (sc := defScope s_law) (by decide +kernel)) (fun _ _ _ _ _ => dg_nm sc_law.nd) (fun _ _ _ _ _ => dts_nil) (fun _ _ _ _ _ => dv_callTy cr_strSF (by rfl) T.m_str bt_str (dao_cons (DVo (dv_var 15 (pv 15))) (dao_nil))) (by decide))) (dao_nil)))) (dss_cons (ds_set 5 sc_law.nd (dv_call C__law_mixed.G (hr.mono (by decide)) (by rfl) C__law_mixed.m C__law_mixed.F.kp C__law_mixed.b passA (da_cons (dv_var 1 (pv 1)) (da_cons (dv_var 4 (pv 4)) (da_nil))))) (dss_cons (ds_set 6 sc_law.nd (dv_callTy cr_listF (by rfl) T.m_list bt_list (dao_cons (DVo (dv_var 5 (pv 5))) (dao_nil)))) (dss_cons (ds_set 7 sc_law.nd (dv_op op_addD (DVo (dv_lst (da_cons (dv_int) (da_nil)))) (DVo (dv_lc (own := [("_law_k", 16)]) (t := (.nm 16)) rfl sc_law.nd (di_val (dv_call C__law_mixed.G (hr.mono (by decide)) (by rfl) C__law_mixed.m C__law_mixed.F.kp C__law_mixed.b passA (da_cons (dv_var 1 (pv 1)) (da_cons (dv_lstRg1 rfl (by rfl) T.m_list (by rfl) T.m_range (dv_op op_subD (DVo (dv_var 2 (pv 2))) (DVo (dv_int)))) (da_nil))))) (blkOk_by (own := [("_law_k", 16)]) (N := N_law) (sc := defScope s_law) (by decide +kernel)) (fun _ _ _ _ _ => dg_nm sc_law.nd) (fun _ _ _ _ _ => dts_nil) (fun _ _ _ _ _ => dv_op op_addD (DVo (dv_var 16 (pv 16))) (DVo (dv_int))) (by decide))))) (dss_cons (ds_asg (t := (.tp [11, 12, 13])) (dv_tup (da_cons (dv_call C__law_order.G (hr.mono (by decide)) (by rfl) C__law_order.m C__law_order.F.kp C__law_order.b passA (da_cons (dv_var 4 (pv 4)) (da_cons (dv_var 7 (pv 7)) (da_nil)))) (da_cons (dv_call C__law_arcs.G (hr.mono (by decide)) (by rfl) C__law_arcs.m C__law_arcs.F.kp C__law_arcs.b passA (da_cons (dv_var 7 (pv 7)) (da_nil))) (da_cons (dv_op op_subD (DVo (dv_op op_shlD (DVo (dv_int)) (DVo (dv_var 2 (pv 2))))) (DVo (dv_int))) (da_nil))))) (dg_tp rfl (dgs_cons sc_law.nd (dgs_cons sc_law.nd (dgs_cons sc_law.nd (dgs_nil)))))) (dss_cons (ds_if (dt_not (dt_val (DVo (dv_call C__law_same.G (hr.mono (by decide)) (by rfl) C__law_same.m C__law_same.F.kp C__law_same.b passA (da_cons (dv_lst (da_cons (dv_call C_is_ring_order.G (hr.mono (by decide)) (by rfl) C_is_ring_order.m C_is_ring_order.F.kp C_is_ring_order.b passA (da_cons (dv_var 5 (pv 5)) (da_cons (dv_var 11 (pv 11)) (da_nil)))) (da_cons (dv_call C_is_ring_order.G (hr.mono (by decide)) (by rfl) C_is_ring_order.m C_is_ring_order.F.kp C_is_ring_order.b passA (da_cons (dv_var 5 (pv 5)) (da_cons (dv_op op_addD (DVo (dv_sl (DVo (dv_var 11 (pv 11))) (dp_none) (dp_some (dv_neg (DVo (dv_int)))))) (DVo (dv_tup (da_cons (dv_lst (da_cons (dv_ix (DVo (dv_var 11 (pv 11))) (DVo (dv_neg (DVo (dv_int))))) (da_nil))) (da_nil))))) (da_nil)))) (da_nil)))) (da_cons (dv_lst (da_cons (dv_bl) (da_cons (dv_bl) (da_nil)))) (da_nil))))))) (dss_one (ds_ret (dv_bl))) (dss_nil)) (dss_cons (ds_for (t := (.nm 8)) (passes_of rfl) rfl (di_range (by rfl) T.m_range (da_cons (dv_int) (da_nil))) (dg_nm sc_law.nd) (dss_cons (ds_set 10 sc_law.nd (dv_call C__law_bent_ring.G (hr.mono (by decide)) (by rfl) C__law_bent_ring.m C__law_bent_ring.F.kp C__law_bent_ring.b passA (da_cons (dv_var 1 (pv 1)) (da_cons (dv_var 11 (pv 11)) (da_cons (dv_ix (DVo (dv_var 3 (pv 3))) (DVo (dv_int))) (da_nil)))))) (dss_one (ds_if (dt_not (dt_val (DVo (dv_call C__law_same.G (hr.mono (by decide)) (by rfl) C__law_same.m C__law_same.F.kp C__law_same.b passA (da_cons (dv_call C_is_ring_order.G (hr.mono (by decide)) (by rfl) C_is_ring_order.m C_is_ring_order.F.kp C_is_ring_order.b passA (da_cons (dv_if (dt_cmp (op_eqDD (u64 hr)) (DVo (dv_var 8 (pv 8))) (DVo (dv_int)) (nomark _)) (dv_callTy cr_tupleF (by rfl) T.m_tuple bt_tuple (dao_cons (DVo (dv_var 5 (pv 5))) (dao_nil))) (dv_var 5 (pv 5))) (da_cons (dv_var 10 (pv 10)) (da_nil)))) (da_cons (dv_call C__law_is_ring.G (hr.mono (by decide)) (by rfl) C__law_is_ring.m C__law_is_ring.F.kp C__law_is_ring.b passA (da_cons (dv_var 4 (pv 4)) (da_cons (dv_var 10 (pv 10)) (da_nil)))) (da_nil))))))) (dss_one (ds_ret (dv_bl))) (dss_nil))))) (dss_cons (ds_for (t := (.nm 9)) (passes_of rfl) rfl (di_val (dv_call C__law_some_lots.G (hr.mono (by decide)) (by rfl) C__law_some_lots.m C__law_some_lots.F.kp C__law_some_lots.b passA (da_cons (dv_var 1 (pv 1)) (da_cons (dv_var 2 (pv 2)) (da_cons (dv_int) (da_nil)))))) (dg_nm sc_law.nd) (dss_cons (ds_set 14 sc_law.nd (dv_call C_is_arc.G (hr.mono (by decide)) (by rfl) C_is_arc.m C_is_arc.F.kp C_is_arc.b passA (da_cons (dv_var 11 (pv 11)) (da_cons (dv_call C__law_lot.G (hr.mono (by decide)) (by rfl) C__law_lot.m C__law_lot.F.kp C__law_lot.b passA (da_cons (dv_var 4 (pv 4)) (da_cons (dv_var 9 (pv 9)) (da_nil)))) (da_nil))))) (dss_cons (ds_if (dt_not (dt_val (DVo (dv_call C__law_same.G (hr.mono (by decide)) (by rfl) C__law_same.m C__law_same.F.kp C__law_same.b passA (da_cons (dv_var 14 (pv 14)) (da_cons (dv_cmp (op_eqDD (u64 hr)) (DVo (dv_op op_bandD (DVo (dv_op op_shrD (DVo (dv_var 12 (pv 12))) (DVo (dv_var 9 (pv 9))))) (DVo (dv_int)))) (DVo (dv_int)) (nomark _)) (da_nil))))))) (dss_one (ds_ret (dv_bl))) (dss_nil)) (dss_one (ds_if (DWt (dw_and (dt_cmp (op_neDD (u64 hr)) (DVo (dv_var 9 (pv 9))) (DVo (dv_var 13 (pv 13))) (nomark _)) (dw_and1 (dt_not (dt_val (DVo (dv_call C__law_same.G (hr.mono (by decide)) (by rfl) C__law_same.m C__law_same.F.kp C__law_same.b passA (da_cons (dv_call C_is_arc.G (hr.mono (by decide)) (by rfl) C_is_arc.m C_is_arc.F.kp C_is_arc.b passA (da_cons (dv_var 11 (pv 11)) (da_cons (dv_call C__law_lot.G (hr.mono (by decide)) (by rfl) C__law_lot.m C__law_lot.F.kp C__law_lot.b passA (da_cons (dv_var 4 (pv 4)) (da_cons (dv_op op_subD (DVo (dv_var 13 (pv 13))) (DVo (dv_var 9 (pv 9)))) (da_nil)))) (da_nil)))) (da_cons (dv_var 14 (pv 14)) (da_nil)))))))))) (dss_one (ds_ret (dv_bl))) (dss_nil)))))) (dss_cons (ds_if (dt_not (dt_val (DVo (dv_callB (cr_allD rfl) (by rfl) T.m_all bt_all (dao_cons (DVo (dv_lc (own := [("_law_at", 17)]) (t := (.nm 17)) rfl sc_law.nd (di_range (by rfl) T.m_range (da_cons (dv_var 2 (pv 2)) (da_nil))) (blkOk_by (own := [("_law_at", 17)]) (N := N_law) (sc := defScope s_law) (by decide +kernel)) (fun _ _ _ _ _ => dg_nm sc_law.nd) (fun _ _ _ _ _ => dts_nil) (fun _ _ _ _ _ => dv_call C__law_opened_so.G (hr.mono (by decide)) (by rfl) C__law_opened_so.m C__law_opened_so.F.kp C__law_opened_so.b pass0 (da_cons (dv_var 7 (pv 7)) (da_cons (dv_var 4 (pv 4)) (da_cons (dv_var 17 (pv 17)) (da_nil))))) (by decide))) (dao_nil)))))) (dss_one (ds_ret (dv_bl))) (dss_nil)) (dss_cons (ds_for (t := (.nm 10)) (passes_of rfl) rfl (di_val (dv_lst (da_cons (dv_ix (DVo (dv_var 3 (pv 3))) (DVo (dv_int))) (da_cons (dv_call C__law_odd_thing.G (hr.mono (by decide)) (by rfl) C__law_odd_thing.m C__law_odd_thing.F.kp C__law_odd_thing.b passA (da_cons (dv_var 1 (pv 1)) (da_cons (dv_ix (DVo (dv_var 4 (pv 4))) (DVo (dv_int))) (da_nil)))) (da_cons (dv_var 4 (pv 4)) (da_nil)))))) (dg_nm sc_law.nd) (dss_one (ds_if (dt_not (dt_val (DVo (dv_lam2 (k := 11) (Ng := N__law_raises) (a := "_law_ask") (d := "_law_due") F__law_raises (by rfl) T.g__law_raises B__law_raises sc__law_raises (fun cdv => gv2__law_raises (X := _) T (by decide) _ cdv) rfl (Or.inl rfl) (T.tb ("law", none) (by decide)) rfl T.t_law T.u_law (hr.mono (by decide)) (show LamX.LamS (defScope s_law) _ from LamX.lamS_by (by decide +kernel)) rfl (fun _ _ _ _ _ => rfl) (fun A outer s H E f c hr => dv_call C_opened.G (hr.mono (by decide)) (by rfl) C_opened.m C_opened.F.kp C_opened.b (passE (takes_of rfl rfl rfl rfl)) (da_cons (dv_var 11 (pv 11)) (da_cons (dv_var 10 (pv 10)) (da_nil)))) (dv_tup (da_cons (dv_str) (da_cons (dv_tup (da_cons (dv_var 10 (pv 10)) (da_nil))) (da_nil)))))))) (dss_one (ds_ret (dv_bl))) (dss_nil)))) (dss_one (ds_ret (dv_cmp (op_eqDD (u64 hr)) (DVo (dv_var 5 (pv 5))) (DVo (dv_var 6 (pv 6))) (nomark _))))))))))))))))
end
/-! ### the head -/
def fn : List He.DefD := [⟨("_law_bag", none), "_law_bag", "_law_bag", defArgs s__law_bag, defBody s__law_bag, defScope s__law_bag, [], []⟩, ⟨("_law_draw", none), "_law_draw", "_law_draw", defArgs s__law_draw, defBody s__law_draw, defScope s__law_draw, [], []⟩, ⟨("_law_pick", none), "_law_pick", "_law_pick", defArgs s__law_pick, defBody s__law_pick, defScope s__law_pick, [], []⟩, ⟨("_law_size", none), "_law_size", "_law_size", defArgs s__law_size, defBody s__law_size, defScope s__law_size, [], []⟩, ⟨("_law_names", none), "_law_names", "_law_names", defArgs s__law_names, defBody s__law_names, defScope s__law_names, [], []⟩, ⟨("_law_mixed", none), "_law_mixed", "_law_mixed", defArgs s__law_mixed, defBody s__law_mixed, defScope s__law_mixed, [], []⟩, ⟨("_law_arcs", none), "_law_arcs", "_law_arcs", defArgs s__law_arcs, defBody s__law_arcs, defScope s__law_arcs, [], []⟩, ⟨("_law_order", none), "_law_order", "_law_order", defArgs s__law_order, defBody s__law_order, defScope s__law_order, [], []⟩, ⟨("_law_same", none), "_law_same", "_law_same", defArgs s__law_same, defBody s__law_same, defScope s__law_same, [], []⟩, ⟨("is_order", none), "is_order", "is_order", defArgs s_is_order, defBody s_is_order, defScope s_is_order, [], []⟩, ⟨("is_ring_order", none), "is_ring_order", "is_ring_order", defArgs s_is_ring_order, defBody s_is_ring_order, defScope s_is_ring_order, [], []⟩, ⟨("_law_odd_thing", none), "_law_odd_thing", "_law_odd_thing", defArgs s__law_odd_thing, defBody s__law_odd_thing, defScope s__law_odd_thing, [], []⟩, ⟨("_law_bent_ring", none), "_law_bent_ring", "_law_bent_ring", defArgs s__law_bent_ring, defBody s__law_bent_ring, defScope s__law_bent_ring, [], []⟩, ⟨("_law_is_name", none), "_law_is_name", "_law_is_name", defArgs s__law_is_name, defBody s__law_is_name, defScope s__law_is_name, [], []⟩, ⟨("_law_is_ring", none), "_law_is_ring", "_law_is_ring", defArgs s__law_is_ring, defBody s__law_is_ring, defScope s__law_is_ring, [], []⟩, ⟨("_law_lex", none), "_law_lex", "_law_lex", defArgs s__law_lex, defBody s__law_lex, defScope s__law_lex, [], []⟩, ⟨("_law_some_lots", none), "_law_some_lots", "_law_some_lots", defArgs s__law_some_lots, defBody s__law_some_lots, defScope s__law_some_lots, [], []⟩, ⟨("rest", none), "rest", "rest", defArgs s_rest, defBody s_rest, defScope s_rest, [], []⟩, ⟨("stretch_of", none), "stretch_of", "stretch_of", defArgs s_stretch_of, defBody s_stretch_of, defScope s_stretch_of, [], []⟩, ⟨("keeps", none), "keeps", "keeps", defArgs s_keeps, defBody s_keeps, defScope s_keeps, [], []⟩, ⟨("is_arc", none), "is_arc", "is_arc", defArgs s_is_arc, defBody s_is_arc, defScope s_is_arc, [], []⟩, ⟨("_law_lot", none), "_law_lot", "_law_lot", defArgs s__law_lot, defBody s__law_lot, defScope s__law_lot, [], []⟩, ⟨("place_in", none), "place_in", "place_in", defArgs s_place_in, defBody s_place_in, defScope s_place_in, [], []⟩, ⟨("opened", none), "opened", "opened", defArgs s_opened, defBody s_opened, defScope s_opened, [], []⟩, ⟨("_law_opened_so", none), "_law_opened_so", "_law_opened_so", defArgs s__law_opened_so, defBody s__law_opened_so, defScope s__law_opened_so, [], []⟩, ⟨("_law_fields", none), "_law_fields", "_law_fields", defArgs s__law_fields, defBody s__law_fields, defScope s__law_fields, [], []⟩, ⟨("_law_try", none), "_law_try", "_law_try", defArgs s__law_try, defBody s__law_try, defScope s__law_try, [], []⟩, ⟨("_law_raises", none), "_law_raises", "_law_raises", defArgs s__law_raises, defBody s__law_raises, defScope s__law_raises, [], []⟩, ⟨("law", none), "law", "law", defArgs s_law, defBody s_law, defScope s_law, [], []⟩, ⟨("UnknownFind", some "__init__"), "__init__", "UnknownFind.__init__", defArgs s_ini_UnknownFind, defBody s_ini_UnknownFind, defScope s_ini_UnknownFind, [], []⟩]
abbrev ts : List He.Tab := []
def fa : List He.Fa := [.glo "_law_bag", .glo "_law_draw", .glo "_law_pick", .glo "_law_size", .glo "_law_names", .glo "_law_mixed", .glo "_law_arcs", .glo "_law_order", .glo "_law_same", .glo "is_order", .glo "is_ring_order", .glo "_law_odd_thing", .glo "_law_bent_ring", .glo "_law_is_name", .glo "_law_is_ring", .glo "_law_lex", .glo "_law_some_lots", .glo "rest", .glo "stretch_of", .glo "keeps", .glo "is_arc", .glo "_law_lot", .glo "place_in", .glo "opened", .glo "_law_opened_so", .glo "_law_fields", .glo "_law_try", .glo "_law_raises", .glo "law", .free "max", .free "int", .free "sorted", .free "str", .free "list", .free "range", .free "tuple", .free "all", .free "len", .free "isinstance", .free "bool", .free "min", .glo "UnknownFind", .glo "FindError", .glo "Missing"]
def ex (K : PySem.W.Frag) : Bool := iniB K "UnknownFind" ["name", "code"] && (xatB K ["UnknownFind"] ["code", "value", "at", "name", "most", "least", "lot", "three", "two", "one"] && (catB K ["UnknownFind"] ["FindError", "Missing"] && (decide (((tabs K).map (·.1)).Nodup) && (true))))
theorem top_of {K : PySem.W.Frag} {w : World} {h base : Heap} {mg : Str → Option Value} (X : K.In h) (G : h.Ns mainGlobals mg) (c : He.SaysX fa fn ts tf ex w h K) (TB : ∀ p ∈ tf, LamX.TabB base mg (He.cT K p).1 (He.cT K p).2) : Top K (cl K) mg base w where
  f__law_bag := c.t.d.def_ 0 (d := ⟨("_law_bag", none), "_law_bag", "_law_bag", defArgs s__law_bag, defBody s__law_bag, defScope s__law_bag, [], []⟩) rfl
  g__law_bag := He.glo_ok X G (c.t.d.fact 0 (f := .glo "_law_bag") rfl)
  f__law_draw := c.t.d.def_ 1 (d := ⟨("_law_draw", none), "_law_draw", "_law_draw", defArgs s__law_draw, defBody s__law_draw, defScope s__law_draw, [], []⟩) rfl
  g__law_draw := He.glo_ok X G (c.t.d.fact 1 (f := .glo "_law_draw") rfl)
  f__law_pick := c.t.d.def_ 2 (d := ⟨("_law_pick", none), "_law_pick", "_law_pick", defArgs s__law_pick, defBody s__law_pick, defScope s__law_pick, [], []⟩) rfl
  g__law_pick := He.glo_ok X G (c.t.d.fact 2 (f := .glo "_law_pick") rfl)
  f__law_size := c.t.d.def_ 3 (d := ⟨("_law_size", none), "_law_size", "_law_size", defArgs s__law_size, defBody s__law_size, defScope s__law_size, [], []⟩) rfl
  g__law_size := He.glo_ok X G (c.t.d.fact 3 (f := .glo "_law_size") rfl)
  f__law_names := c.t.d.def_ 4 (d := ⟨("_law_names", none), "_law_names", "_law_names", defArgs s__law_names, defBody s__law_names, defScope s__law_names, [], []⟩) rfl
  g__law_names := He.glo_ok X G (c.t.d.fact 4 (f := .glo "_law_names") rfl)
  f__law_mixed := c.t.d.def_ 5 (d := ⟨("_law_mixed", none), "_law_mixed", "_law_mixed", defArgs s__law_mixed, defBody s__law_mixed, defScope s__law_mixed, [], []⟩) rfl
  g__law_mixed := He.glo_ok X G (c.t.d.fact 5 (f := .glo "_law_mixed") rfl)
  f__law_arcs := c.t.d.def_ 6 (d := ⟨("_law_arcs", none), "_law_arcs", "_law_arcs", defArgs s__law_arcs, defBody s__law_arcs, defScope s__law_arcs, [], []⟩) rfl
  g__law_arcs := He.glo_ok X G (c.t.d.fact 6 (f := .glo "_law_arcs") rfl)
  f__law_order := c.t.d.def_ 7 (d := ⟨("_law_order", none), "_law_order", "_law_order", defArgs s__law_order, defBody s__law_order, defScope s__law_order, [], []⟩) rfl
  g__law_order := He.glo_ok X G (c.t.d.fact 7 (f := .glo "_law_order") rfl)
  f__law_same := c.t.d.def_ 8 (d := ⟨("_law_same", none), "_law_same", "_law_same", defArgs s__law_same, defBody s__law_same, defScope s__law_same, [], []⟩) rfl
  g__law_same := He.glo_ok X G (c.t.d.fact 8 (f := .glo "_law_same") rfl)
  f_is_order := c.t.d.def_ 9 (d := ⟨("is_order", none), "is_order", "is_order", defArgs s_is_order, defBody s_is_order, defScope s_is_order, [], []⟩) rfl
  g_is_order := He.glo_ok X G (c.t.d.fact 9 (f := .glo "is_order") rfl)
  f_is_ring_order := c.t.d.def_ 10 (d := ⟨("is_ring_order", none), "is_ring_order", "is_ring_order", defArgs s_is_ring_order, defBody s_is_ring_order, defScope s_is_ring_order, [], []⟩) rfl
  g_is_ring_order := He.glo_ok X G (c.t.d.fact 10 (f := .glo "is_ring_order") rfl)
  f__law_odd_thing := c.t.d.def_ 11 (d := ⟨("_law_odd_thing", none), "_law_odd_thing", "_law_odd_thing", defArgs s__law_odd_thing, defBody s__law_odd_thing, defScope s__law_odd_thing, [], []⟩) rfl
  g__law_odd_thing := He.glo_ok X G (c.t.d.fact 11 (f := .glo "_law_odd_thing") rfl)
  f__law_bent_ring := c.t.d.def_ 12 (d := ⟨("_law_bent_ring", none), "_law_bent_ring", "_law_bent_ring", defArgs s__law_bent_ring, defBody s__law_bent_ring, defScope s__law_bent_ring, [], []⟩) rfl
  g__law_bent_ring := He.glo_ok X G (c.t.d.fact 12 (f := .glo "_law_bent_ring") rfl)
  f__law_is_name := c.t.d.def_ 13 (d := ⟨("_law_is_name", none), "_law_is_name", "_law_is_name", defArgs s__law_is_name, defBody s__law_is_name, defScope s__law_is_name, [], []⟩) rfl
  g__law_is_name := He.glo_ok X G (c.t.d.fact 13 (f := .glo "_law_is_name") rfl)
  f__law_is_ring := c.t.d.def_ 14 (d := ⟨("_law_is_ring", none), "_law_is_ring", "_law_is_ring", defArgs s__law_is_ring, defBody s__law_is_ring, defScope s__law_is_ring, [], []⟩) rfl
  g__law_is_ring := He.glo_ok X G (c.t.d.fact 14 (f := .glo "_law_is_ring") rfl)
  f__law_lex := c.t.d.def_ 15 (d := ⟨("_law_lex", none), "_law_lex", "_law_lex", defArgs s__law_lex, defBody s__law_lex, defScope s__law_lex, [], []⟩) rfl
  g__law_lex := He.glo_ok X G (c.t.d.fact 15 (f := .glo "_law_lex") rfl)
  f__law_some_lots := c.t.d.def_ 16 (d := ⟨("_law_some_lots", none), "_law_some_lots", "_law_some_lots", defArgs s__law_some_lots, defBody s__law_some_lots, defScope s__law_some_lots, [], []⟩) rfl
  g__law_some_lots := He.glo_ok X G (c.t.d.fact 16 (f := .glo "_law_some_lots") rfl)
  f_rest := c.t.d.def_ 17 (d := ⟨("rest", none), "rest", "rest", defArgs s_rest, defBody s_rest, defScope s_rest, [], []⟩) rfl
  g_rest := He.glo_ok X G (c.t.d.fact 17 (f := .glo "rest") rfl)
  f_stretch_of := c.t.d.def_ 18 (d := ⟨("stretch_of", none), "stretch_of", "stretch_of", defArgs s_stretch_of, defBody s_stretch_of, defScope s_stretch_of, [], []⟩) rfl
  g_stretch_of := He.glo_ok X G (c.t.d.fact 18 (f := .glo "stretch_of") rfl)
  f_keeps := c.t.d.def_ 19 (d := ⟨("keeps", none), "keeps", "keeps", defArgs s_keeps, defBody s_keeps, defScope s_keeps, [], []⟩) rfl
  g_keeps := He.glo_ok X G (c.t.d.fact 19 (f := .glo "keeps") rfl)
  f_is_arc := c.t.d.def_ 20 (d := ⟨("is_arc", none), "is_arc", "is_arc", defArgs s_is_arc, defBody s_is_arc, defScope s_is_arc, [], []⟩) rfl
  g_is_arc := He.glo_ok X G (c.t.d.fact 20 (f := .glo "is_arc") rfl)
  f__law_lot := c.t.d.def_ 21 (d := ⟨("_law_lot", none), "_law_lot", "_law_lot", defArgs s__law_lot, defBody s__law_lot, defScope s__law_lot, [], []⟩) rfl
  g__law_lot := He.glo_ok X G (c.t.d.fact 21 (f := .glo "_law_lot") rfl)
  f_place_in := c.t.d.def_ 22 (d := ⟨("place_in", none), "place_in", "place_in", defArgs s_place_in, defBody s_place_in, defScope s_place_in, [], []⟩) rfl
  g_place_in := He.glo_ok X G (c.t.d.fact 22 (f := .glo "place_in") rfl)
  f_opened := c.t.d.def_ 23 (d := ⟨("opened", none), "opened", "opened", defArgs s_opened, defBody s_opened, defScope s_opened, [], []⟩) rfl
  g_opened := He.glo_ok X G (c.t.d.fact 23 (f := .glo "opened") rfl)
  f__law_opened_so := c.t.d.def_ 24 (d := ⟨("_law_opened_so", none), "_law_opened_so", "_law_opened_so", defArgs s__law_opened_so, defBody s__law_opened_so, defScope s__law_opened_so, [], []⟩) rfl
  g__law_opened_so := He.glo_ok X G (c.t.d.fact 24 (f := .glo "_law_opened_so") rfl)
  f__law_fields := c.t.d.def_ 25 (d := ⟨("_law_fields", none), "_law_fields", "_law_fields", defArgs s__law_fields, defBody s__law_fields, defScope s__law_fields, [], []⟩) rfl
  g__law_fields := He.glo_ok X G (c.t.d.fact 25 (f := .glo "_law_fields") rfl)
  f__law_try := c.t.d.def_ 26 (d := ⟨("_law_try", none), "_law_try", "_law_try", defArgs s__law_try, defBody s__law_try, defScope s__law_try, [], []⟩) rfl
  g__law_try := He.glo_ok X G (c.t.d.fact 26 (f := .glo "_law_try") rfl)
  f__law_raises := c.t.d.def_ 27 (d := ⟨("_law_raises", none), "_law_raises", "_law_raises", defArgs s__law_raises, defBody s__law_raises, defScope s__law_raises, [], []⟩) rfl
  g__law_raises := He.glo_ok X G (c.t.d.fact 27 (f := .glo "_law_raises") rfl)
  f_law := c.t.d.def_ 28 (d := ⟨("law", none), "law", "law", defArgs s_law, defBody s_law, defScope s_law, [], []⟩) rfl
  g_law := He.glo_ok X G (c.t.d.fact 28 (f := .glo "law") rfl)
  m_max := He.free_ok X G (c.t.d.fact 29 (f := .free "max") rfl)
  m_int := He.free_ok X G (c.t.d.fact 30 (f := .free "int") rfl)
  m_sorted := He.free_ok X G (c.t.d.fact 31 (f := .free "sorted") rfl)
  m_str := He.free_ok X G (c.t.d.fact 32 (f := .free "str") rfl)
  m_list := He.free_ok X G (c.t.d.fact 33 (f := .free "list") rfl)
  m_range := He.free_ok X G (c.t.d.fact 34 (f := .free "range") rfl)
  m_tuple := He.free_ok X G (c.t.d.fact 35 (f := .free "tuple") rfl)
  m_all := He.free_ok X G (c.t.d.fact 36 (f := .free "all") rfl)
  m_len := He.free_ok X G (c.t.d.fact 37 (f := .free "len") rfl)
  m_isinstance := He.free_ok X G (c.t.d.fact 38 (f := .free "isinstance") rfl)
  m_bool := He.free_ok X G (c.t.d.fact 39 (f := .free "bool") rfl)
  m_min := He.free_ok X G (c.t.d.fact 40 (f := .free "min") rfl)
  g_UnknownFind := He.glo_ok X G (c.t.d.fact 41 (f := .glo "UnknownFind") rfl)
  g_FindError := He.glo_ok X G (c.t.d.fact 42 (f := .glo "FindError") rfl)
  g_Missing := He.glo_ok X G (c.t.d.fact 43 (f := .glo "Missing") rfl)
  i_UnknownFind := c.t.d.def_ 29 (d := ⟨("UnknownFind", some "__init__"), "__init__", "UnknownFind.__init__", defArgs s_ini_UnknownFind, defBody s_ini_UnknownFind, defScope s_ini_UnknownFind, [], []⟩) rfl
  x_UnknownFind := iniB_ok (show iniB K "UnknownFind" ["name", "code"] = true from (He.ba (c.more)).1)
  n_UnknownFind := rfl
  x_at := xatB_ok (show xatB K ["UnknownFind"] ["code", "value", "at", "name", "most", "least", "lot", "three", "two", "one"] = true from (He.ba ((He.ba (c.more)).2)).1) (fun z h => by
    have h := List.contains_iff_mem.mp h
    simp only [List.mem_cons, List.not_mem_nil, or_false] at h
    rcases h with rfl
    · exact ⟨"UnknownFind", by simp, rfl⟩)
  cat0 := catB_ok (show catB K ["UnknownFind"] ["FindError", "Missing"] = true from (He.ba ((He.ba ((He.ba (c.more)).2)).2)).1) (fun z h => by
    have h := List.contains_iff_mem.mp h
    simp only [List.mem_cons, List.not_mem_nil, or_false] at h
    rcases h with rfl
    · exact ⟨"UnknownFind", by simp, rfl⟩)
  tb := TB
  t_law := (List.mem_of_getElem? (i := 0) rfl)
  u_law := uniq_of (of_decide_eq_true (show decide (((tabs K).map (·.1)).Nodup) = true from (He.ba ((He.ba ((He.ba ((He.ba (c.more)).2)).2)).2)).1)) (List.mem_of_getElem? (i := 0) rfl)
abbrev R : PySem.W.OpenRow := PySem.W.OpenLaw.row PySem.Challenge.rw_threeorders_k51_ring_orders_judged
def ncs : List Str := (["UnknownFind", "Missing", "FindError"] : List Str)
def nfs : List Str := (["_law_bag", "_law_draw", "_law_pick", "_law_size", "_law_names", "_law_mixed", "_law_arcs", "_law_order", "_law_same", "is_order", "is_ring_order", "_law_odd_thing", "_law_bent_ring", "_law_is_name", "_law_is_ring", "_law_lex", "_law_some_lots", "rest", "stretch_of", "keeps", "is_arc", "_law_lot", "place_in", "opened", "_law_opened_so", "_law_fields", "_law_try", "_law_raises", "law"] : List Str)
def nms : List (Str × Str) := ([("UnknownFind", "__init__")] : List (Str × Str))
abbrev hk : PySem.W.Hook := hookZ (asN ncs nfs nms) fa fn ts tf ex
/-- the law holds if its plain function says so -/
theorem facts {w : World} {K : PySem.W.Frag} {h : Heap} {mg : Str → Option Value} {f : Addr} (X : K.In h) (G : h.Ns mainGlobals mg) (hfa : mg ("law" : Str) = some (.ref f)) (c : He.SaysX fa fn ts tf ex w h K) :
    ∃ fd : FuncData, (∀ (s : Shared) (v : Value), BindsTo s fd ⟨[v], []⟩ [("_law_script", v)]) ∧ ∀ base : Heap, (∀ p ∈ tf, LamX.TabB base mg (He.cT K p).1 (He.cT K p).2) → FnOk (PySem.Challenge.rw_threeorders_k51_ring_orders_judged).prog w K mg base (L2.CX (PySem.Challenge.rw_threeorders_k51_ring_orders_judged).prog w) 15 f fd P_law (spG K (cl K) sem_law_20) := by
  obtain ⟨fd, F⟩ := c.t.d.def_ 28 (d := ⟨("law", none), "law", "law", defArgs s_law, defBody s_law, defScope s_law, [], []⟩) rfl
  have gl : mg ("law" : Str) = some (.ref (He.ga K "law")) := He.glo_ok X G (c.t.d.fact 28 (f := .glo "law") rfl)
  have e := hfa.symm.trans gl
  cases e
  refine ⟨fd, fun s v => FunD.bindsA (ps := P_law) F (fun _ _ _ _ _ _ us hl => match us, hl with | [_], _ => rfl) s [v] rfl, fun base TB => ?_⟩
  have T := top_of (base := base) X G c TB
  obtain ⟨f2, fd2, C⟩ := ok_law (P := (PySem.Challenge.rw_threeorders_k51_ring_orders_judged).prog) (w := w) (base := base) T
  have e2 := T.g_law.symm.trans C.m
  cases e2
  have e3 : fd = fd2 := by
    obtain ⟨_, _, _, _, _, _, _, _, _, _, _, h1, _⟩ := F.ex
    obtain ⟨_, _, _, _, _, _, _, _, _, _, _, h2, _⟩ := C.F.ex
    have h3 := h1.symm.trans h2
    cases h3
    rfl
  subst e3
  exact C.G
end Lk51
open PySem PySem.W PySem.Calls PyProof.Rows
set_option maxHeartbeats 0 in
theorem Lk51.holds_of : PySem.Challenge.rw_threeorders_k51_ring_orders_judged.Holds := by
  w_on; o_law
  o_head Lk51.hk
  case hw => w_witness2
  case hc =>
    refine LamX.walk_ofTsE (l := PySem.Challenge.rw_threeorders_k51_ring_orders_judged) (n := 63) (k := 15) (x := "_law_script") (CX := fun w => L2.CX (PySem.Challenge.rw_threeorders_k51_ring_orders_judged).prog w) rfl (by decide) (by kernel_rfl) ⟨rfl, by decide, by decide⟩ ?F (fun w H s e s2 z => by obtain ⟨_, _, _, _, _, _, _, _, _, _, _, _, z⟩ := z; exact z)
    intro w mg fa h Y G hmg0
    obtain ⟨K, KX, c⟩ := Y
    have hmg : mg ("law" : PySem.Str) = some (.ref fa) := hmg0
    obtain ⟨fd, hb, hF⟩ := Lk51.facts (w := w) KX G hmg c
    refine ⟨K, KX, fd, Lk51.tf.map (He.cT K), DL.spG K (Lk51.cl K) Co.sem_law_20, fun p hp => ?_, fun p hp => ?_, fun p hp => ?_, hb, fun H a ns hl _ hT hS => DL.law_end DM.k51_math H a ns hl hS fun p hp => ?_, fun base _ _ TB => hF base fun p hp => TB _ (List.mem_map.mpr ⟨p, hp, rfl⟩)⟩
    · obtain ⟨q, hq, rfl⟩ := List.mem_map.mp hp
      exact c.empty q hq
    · obtain ⟨q, hq, rfl⟩ := List.mem_map.mp hp
      exact c.out q hq
    · obtain ⟨q, hq, rfl⟩ := List.mem_map.mp hp
      exact PySem.W.codeHd_of_K KX (c.hd q hq)
    · have hp : p ∈ Lk51.tabs K := hp
      have hm : ∃ q ∈ Lk51.tf, p.1 = (He.cT K q).2 := by
        have h1 : p.1 ∈ (Lk51.tabs K).map (·.1) := List.mem_map.mpr ⟨p, hp, rfl⟩
        have h2 : (Lk51.tabs K).map (·.1) = Lk51.tf.map fun q => (He.cT K q).2 := rfl
        rw [h2] at h1
        obtain ⟨q, hq, e⟩ := List.mem_map.mp h1
        exact ⟨q, hq, e.symm⟩
      obtain ⟨q, hq, e⟩ := hm
      refine LamX.TabS.nil ?_
      rw [e]
      exact hT _ (List.mem_map.mpr ⟨q, hq, rfl⟩)
theorem PySem.Challenge.cw_threeorders_k51_ring_orders_judged_holds : PySem.Challenge.rw_threeorders_k51_ring_orders_judged.Holds := by
  exact Lk51.holds_of
